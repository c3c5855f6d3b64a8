import PyProof.Rows.All
import Wide.All
import OpenK.AllK
import Wide.FinOn
import HandS.Base
import HandS.Call
import HandS.List
import HandS.Comp
import HandS.Iter
import HandS.Words
import HandS.Walk
import HandS.IsInst
import HandS.Evl
import PyProof.ReprReads
import HandS.NoneIn
import PyProof.RulesMatch
import PyProof.RulesMatchSeq
import PyProof.Rows.MatchSeqLen
import HandS.Dict
import HandS.More
import HandS.HeadHook1
import HandS.HeadHook2
import HandS.HeadHook3
import HandS.Ends
import HandS.WordsExc
import HandS.Defaults
import HandS.HeadEnd
import PyProof.ReprRoads
import KE.KExcSuper
import HandS.Exc
import HandS.HeadWalk
import KE.KStateDown
import HandS.Property
import HandS.EndTab
import HandS.HeadHook4
import KE.KExcInit
import HandS.ExcInit
import HandS.ExcField
import HandS.ExcIs
import HandS.Lambda
import KE.KLam
import HandS.ExcOwn
import PyProof.ListMulRoad
import PyProof.FactsAll.tuple_2
import HandS.TupMul
import HandS.TryMany
import HandS.MakeKwOnly
import KE.KIsAll
import KE.KExcIs
import HandS.ExcValue
import HandS.Flow
import HandS.Wide
import HandS.Text
import HandS.Steps
import HandS.TupAny
import HandS.Deep
import HandS.Finally
import HandS.WordsDict
import HandS.Zip
import HandS.ListItems
import HandS.Sort
import HandS.DictComp
import PyProof.StrOps2
import OpenK.KMeth
import OpenK.KOps
import HandS.Star
import KE.KItemsList
import HandS.SortInts
import HandS.Head0
import HandS.Head1
import HandS.Head2
import PySem.Challenge.RW_mostcalls_k06_systems_refused
set_option Elab.async false
set_option linter.all false
set_option maxRecDepth 100000
set_option maxHeartbeats 4000000
namespace L2
open PySem PySem.Spec PyProof.Rows
/-! ### data behind a value: None, bools, ints, texts, lists, tuples, the empty dict -/
mutual
inductive Dq (K : PySem.W.Frag) (H : Hp) : V → PyData → Prop
  | non : Dq K H .non .none
  | bl (b : Bool) : Dq K H (.bl b) (.bool b)
  | int (i : Int) : Dq K H (.int i) (.int i)
  | str (x : Str) : x.length ≤ sizeLine → Dq K H (.str x) (.str x)
  | lst {a : Addr} {xs : List V} {ds : List PyData} : SqL K H a xs → DqA K H xs ds → Dq K H (.ref a) (.list ds)
  | tup {a : Addr} {xs : List V} {ds : List PyData} : SqT K H a xs → DqA K H xs ds → Dq K H (.ref a) (.tuple ds)
  | dct {a : Addr} : H a = some (.dK []) → Dq K H (.ref a) (.dict [])
inductive DqA (K : PySem.W.Frag) (H : Hp) : List V → List PyData → Prop
  | nil : DqA K H [] []
  | cons {v : V} {vs : List V} {d : PyData} {ds : List PyData} : Dq K H v d → DqA K H vs ds → DqA K H (v :: vs) (d :: ds)
end
theorem SqT.upT {K : PySem.W.Frag} {H H' : Hp} {a : Addr} {xs : List V} (e : Same H H') (h : SqT K H a xs) : SqT K H' a xs := by
  rcases h with h | h
  · rcases h with h | ⟨o, h⟩
    · exact .inl (.inl (e _ _ h))
    · exact .inl (.inr ⟨o, e _ _ h⟩)
  · exact .inr h
mutual
theorem Dq.up {K : PySem.W.Frag} {H H' : Hp} (e : Same H H') : ∀ {v : V} {d : PyData}, Dq K H v d → Dq K H' v d
  | _, _, .non => .non
  | _, _, .bl b => .bl b
  | _, _, .int i => .int i
  | _, _, .str x h => .str x h
  | _, _, .lst h a => .lst (e.seq h) (DqA.up e a)
  | _, _, .tup h a => .tup (SqT.upT e h) (DqA.up e a)
  | _, _, .dct h => .dct (e _ _ h)
theorem DqA.up {K : PySem.W.Frag} {H H' : Hp} (e : Same H H') : ∀ {vs : List V} {ds : List PyData}, DqA K H vs ds → DqA K H' vs ds
  | _, _, .nil => .nil
  | _, _, .cons h r => .cons (Dq.up e h) (DqA.up e r)
end
theorem DqA.len {K : PySem.W.Frag} {H : Hp} : ∀ {vs : List V} {ds : List PyData}, DqA K H vs ds → vs.length = ds.length
  | _, _, .nil => rfl
  | _, _, .cons _ r => by simp [DqA.len r]
theorem DqA.at {K : PySem.W.Frag} {H : Hp} : ∀ {vs : List V} {ds : List PyData} {i : Nat} {v : V}, DqA K H vs ds → vs[i]? = some v → ∃ d, ds[i]? = some d ∧ Dq K H v d
  | _, _, _, _, .nil, e => by simp at e
  | _, _, 0, _, .cons h _, e => by simp at e; subst e; exact ⟨_, rfl, h⟩
  | _, _, i + 1, v, .cons _ r, e => by
    obtain ⟨d, h1, h2⟩ := DqA.at (i := i) (v := v) r (by simpa using e)
    exact ⟨d, by simpa using h1, h2⟩
/-- no dict within -/
def noDct : PyData → Bool := fun d => !d.hasDict
mutual
theorem Dq.dp {K : PySem.W.Frag} {H : Hp} : ∀ {v : V} {d : PyData}, Dq K H v d → d.hasDict = false → Dp K H v d
  | _, _, .non, _ => .non
  | _, _, .bl b, _ => .bl b
  | _, _, .int i, _ => .int i
  | _, _, .str x _, _ => .str x
  | _, _, .lst h a, n => .lst h (DqA.dp a (by simpa [PyData.hasDict] using n))
  | _, _, .tup h a, n => .tup h (DqA.dp a (by simpa [PyData.hasDict] using n))
  | _, _, .dct h, n => by simp [PyData.hasDict] at n
theorem DqA.dp {K : PySem.W.Frag} {H : Hp} : ∀ {vs : List V} {ds : List PyData}, DqA K H vs ds → PyData.hasDictAll ds = false → DpAll K H vs ds
  | _, _, .nil, _ => .nil
  | _, _, .cons h r, n => by
    simp [PyData.hasDictAll] at n
    exact .cons (Dq.dp h n.1) (DqA.dp r n.2)
end
/-! ### isinstance by data -/
def tyD : PyData → String
  | .none => "NoneType"
  | .bool _ => "bool"
  | .int _ => "int"
  | .str _ => "str"
  | .list _ => "list"
  | .tuple _ => "tuple"
  | .dict _ => "dict"
theorem Dq.ty {K : PySem.W.Frag} {H : Hp} {v : V} {d : PyData} (h : Dq K H v d) : TyX K H v (.type (tyD d)) := by
  cases h with
  | non => exact .base .non
  | bl b => exact .base (.bl b)
  | int i => exact .base (.int i)
  | str x _ => exact .base (.str x)
  | lst h _ =>
    rcases h with (h | ⟨o, h⟩) | ⟨o, _, _, h, hc, _⟩
    · exact .base (.lst h)
    · exact .base (.frz h)
    · exact .kList h hc
  | tup h _ =>
    rcases h with (h | ⟨o, h⟩) | ⟨o, _, _, h, hc, _⟩
    · exact .base (.tup h)
    · exact .fTuple h
    · exact .kTuple h hc
  | dct h => exact .base (.dK h)
def isA (d : PyData) (T : String) : Bool := (kitB (tyD d) T).getD false
def TOK (T : String) : Prop := (kitB "NoneType" T).isSome = true ∧ (kitB "bool" T).isSome = true ∧ (kitB "int" T).isSome = true ∧ (kitB "str" T).isSome = true ∧ (kitB "list" T).isSome = true ∧ (kitB "tuple" T).isSome = true ∧ (kitB "dict" T).isSome = true
theorem isA_kit {K : PySem.W.Frag} {d : PyData} {T : String} (t : TOK T) : PySem.W.kitOne K (.type (tyD d)) (.type T) = some (isA d T) := by
  refine kit_ty ?_
  obtain ⟨h1, h2, h3, h4, h5, h6, h7⟩ := t
  unfold isA
  have z : ∀ o : Option Bool, o.isSome = true → o = some (o.getD false) := fun o h => by cases o with | none => cases h | some b => rfl
  cases d <;> (apply z; assumption)
theorem tok_int : TOK "int" := by unfold TOK; decide +kernel
theorem tok_bool : TOK "bool" := by unfold TOK; decide +kernel
theorem tok_str : TOK "str" := by unfold TOK; decide +kernel
theorem tok_tuple : TOK "tuple" := by unfold TOK; decide +kernel
theorem tok_list : TOK "list" := by unfold TOK; decide +kernel
theorem tok_dict : TOK "dict" := by unfold TOK; decide +kernel
def isStrD : PyData → Bool | .str _ => true | _ => false
def isTupD : PyData → Bool | .tuple _ => true | _ => false
def isBoolD : PyData → Bool | .bool _ => true | _ => false
theorem isA_str (d : PyData) : isA d "str" = isStrD d := by
  unfold isA
  cases d <;> (unfold tyD isStrD; dsimp only; decide +kernel)
theorem isA_tuple (d : PyData) : isA d "tuple" = isTupD d := by
  unfold isA
  cases d <;> (unfold tyD isTupD; dsimp only; decide +kernel)
theorem isA_bool (d : PyData) : isA d "bool" = isBoolD d := by
  unfold isA
  cases d <;> (unfold tyD isBoolD; dsimp only; decide +kernel)
def rIsD (K : PySem.W.Frag) : List V → Hp → VK → Prop := fun xs H Q => ∃ (v : V) (d : PyData) (T : String), xs = [v, .ty T] ∧ Dq K H v d ∧ TOK T ∧ Q (.bl (isA d T)) H
theorem call_isD {X : Cx} : CallR X (.builtin "isinstance") (rIsD X.K) := by
  intro pins s σ H xs us Q I r h
  obtain ⟨v, d, T, rfl, hd, ht, q⟩ := h
  exact call_isi pins s σ H [v, .ty T] us Q I r ⟨v, .ty T, _, _, isA d T, rfl, .ty T, hd.ty, isA_kit ht, q⟩
/-! ### ifs whose test is known -/
section
variable {c A B : Prop} [Decidable c]
theorem iteY (hc : c) (h : A) : if decide c = true then A else B := by
  rw [decide_eq_true hc, if_pos rfl]
  exact h
theorem iteN (hc : ¬ c) (h : B) : if decide c = true then A else B := by
  rw [decide_eq_false hc, if_neg Bool.false_ne_true]
  exact h
theorem iteNY (hc : c) (h : B) : if (!decide c) = true then A else B := by
  rw [decide_eq_true hc]
  exact h
theorem iteNN (hc : ¬ c) (h : A) : if (!decide c) = true then A else B := by
  rw [decide_eq_false hc]
  exact h
theorem iteB {b : Bool} (h1 : b = true → A) (h2 : b = false → B) : if b = true then A else B := by
  cases b with
  | true => exact h1 rfl
  | false => exact h2 rfl
end
/-! ### a comprehension whose element is pure -/
theorem take_snoc {α : Type} : ∀ {l : List α} {i : Nat} {x : α}, l[i]? = some x → l.take i ++ [x] = l.take (i + 1)
  | [], i, x, h => by simp at h
  | a :: l, 0, x, h => by simp at h; subst h; rfl
  | a :: l, i + 1, x, h => by
    have z := take_snoc (l := l) (i := i) (x := x) (by simpa using h)
    show a :: (l.take i ++ [x]) = a :: l.take (i + 1)
    rw [z]
theorem lc_map {J : It} {n j : Nat} {G : Hp → Prop} {Yv : Nat → V → Prop} {te : TE} {vs : List Nat} {σ : St} {H1 : Hp} {D : Addr} {Qd : Hp → Prop} (w : Walk J n G (fun i H x H' => H' = H ∧ Yv i x)) (ys : List V) (hn : ys.length = n) (hz : n ≤ sizeLine)
    (hG : ∀ acc, G (upd H1 D (.lst acc))) (hw : ∀ x, wipe ((wipe σ vs).set j (some x)) vs = wipe σ vs)
    (hs : ∀ (i : Nat) (x : V) (acc : List V) (Q : VK), i < n → Yv i x → (∀ y, ys[i]? = some y → Q y (upd H1 D (.lst acc))) → te ((wipe σ vs).set j (some x)) (upd H1 D (.lst acc)) Q)
    (hd : Qd (upd H1 D (.lst ys))) :
    ∃ W : Nat → Nat → Hp → Prop, (∃ m, W 0 m (upd H1 D (.lst []))) ∧ ∀ i m H, W i m H →
      (J.stop i H ∧ Qd H) ∨ (J.go i H ∧ ∃ Nx : Hp → Prop, (∀ H', Nx H' → ∃ m', m' < m ∧ W (i + 1) m' H') ∧ ∀ x H', J.yld i H x H' → gName j x (wipe σ vs) H' fun σ2 H2 => wipe σ2 vs = wipe σ vs ∧ tYes σ2 H2 fun b H3 =>
        if b = true then te σ2 H3 fun y H4 => ∃ acc, H4 D = some (.lst acc) ∧ acc.length < sizeLine ∧ Nx (upd H4 D (.lst (acc ++ [y]))) else Nx H3) := by
  refine lc_it w (fun i H => H = upd H1 D (.lst (ys.take i))) rfl (fun i H _ e => by rw [e]; exact hG _) ?_ (fun H e => ?_)
  · rintro i x H H' hi rfl ⟨rfl, hy⟩
    refine ⟨hw x, ?_⟩
    refine hs i x _ _ hi hy fun y ey => ⟨ys.take i, upd_same, ?_, ?_⟩
    · rw [List.length_take]
      exact Nat.lt_of_lt_of_le (Nat.lt_of_le_of_lt (Nat.min_le_left _ _) hi) hz
    · rw [upd_upd, take_snoc ey]
  · subst e
    rw [← hn, List.take_length]
    exact hd
/-- repr(x), by the data behind x -/
def rRepr (K : PySem.W.Frag) : List V → Hp → VK → Prop := fun xs H Q => ∃ (v : V) (d : PyData), xs = [v] ∧ Dp K H v d ∧ d.showable = true ∧ d.hasDict = false ∧ d.depth ≤ 60 ∧ d.shown.length ≤ sizeLine ∧ Q (.str d.shown) H
end L2
namespace L2
open PySem PySem.Spec PyProof.Rows
/-! ### match over sequences of names -/
abbrev TM := V → TS
structure PMs (X : Cx) (cs : List MatchCase) (t : TM) : Prop where
  run : ∀ (pins : List (Addr × Obj)) (s : Shared) (σ : St) (H : Hp) (D : Ends) (v : V) (u : Value) (first : Bool), Inv X pins σ H s → RelV v u → t v D σ H → wpAny (model X.prog X.w) X.A (matchCases cs X.env u first) (SP X pins D) X.xe s
section
variable {X : Cx} {pos pp pq : Pos} {body : List Stmt} {rest : List MatchCase} {t : TS} {r : TM}
theorem ps_match {e : Expr} {te : TE} {cs : List MatchCase} {tm : TM} (he : PE X e te) (h : PMs X cs tm) : PS X (.Match e cs pos) (fun D σ H => te σ H fun v H1 => tm v D σ H1) :=
  ⟨fun pins s σ H D I hw => wpAny_Match (thn (he.run pins s σ H _ I hw) fun u s1 ⟨v, H1, I1, rv, q⟩ => h.run pins s1 σ H1 D v u true I1 rv q)⟩
/-- case _ -/
theorem pm_any (hb : PSs X body t) : PMs X (⟨.MatchAs none none pp, none, body⟩ :: rest) (fun _ => t) :=
  ⟨fun pins s σ H D v u first I rv hw => wpAny_matchCases_cons (wpAny_matchPattern_Capture (wpAny_assignInOrder_none (hb.run pins s σ H D I hw)))⟩
def seqLen : PyData → Option Nat
  | .tuple ds => some ds.length
  | .list ds => some ds.length
  | _ => none
/-- how a value meets a pattern of n names: its items, or not -/
def tSeqCase (K : PySem.W.Frag) (n : Nat) (hit : List V → TS) (miss : TM) : TM := fun v D σ H => ∃ d, Dq K H v d ∧ ((∀ a xs ds, v = .ref a → (d = .tuple ds ∧ SqT K H a xs ∨ d = .list ds ∧ SqL K H a xs) → DqA K H xs ds → xs.length = n → hit xs D σ H) ∧ (seqLen d ≠ some n → miss v D σ H))
theorem ty_flag {pins : List (Addr × Obj)} {s : Shared} {σ : St} {H : Hp} {v : V} {u : Value} {d : PyData} (I : Inv X pins σ H s) (rv : RelV v u) (hd : Dq X.K H v d) (hn : seqLen d = none) {Q : Bool → Shared → Prop} {E : Value → Shared → Prop} (q : Q false s) :
    wpAny (model X.prog X.w) X.A (collectionFlag true u) Q E s := by
  cases hd with
  | non => cases (show u = Value.none from rv); exact wpAny_collectionFlag (T := "NoneType") rfl flag_seq_None q
  | bl b => cases (show u = Value.bool b from rv); exact wpAny_collectionFlag (T := "bool") rfl flag_seq_bool q
  | int i => obtain ⟨t, rfl⟩ := (show ∃ t, u = Value.int i t from rv); exact wpAny_collectionFlag (T := "int") rfl flag_seq_int q
  | str x _ => obtain ⟨t, rfl⟩ := (show ∃ t, u = Value.str x t from rv); exact wpAny_collectionFlag (T := "str") rfl flag_seq_str q
  | lst _ _ => cases hn
  | tup _ _ => cases hn
  | @dct a h =>
    cases rv
    obtain ⟨_, _, vs, _, o, es, ep, h1, h2, _⟩ := (show ObjOk X.prog X.w H s.heap a (.dK []) from I.hok a _ h)
    exact wpAny_collectionFlag (T := "dict") ⟨o, h1, h2.1⟩ flag_seq_dict q
theorem seq_pat {pins : List (Addr × Obj)} {s : Shared} {σ : St} {H : Hp} {v : V} {u : Value} {d : PyData} {ps : List Pattern} {Q : Option (List (Str × Value)) → Shared → Prop} (hc : X.calm = true) (I : Inv X pins σ H s) (rv : RelV v u) (hd : Dq X.K H v d)
    (hit : ∀ a xs ds its s', v = .ref a → (d = .tuple ds ∧ SqT X.K H a xs ∨ d = .list ds ∧ SqL X.K H a xs) → DqA X.K H xs ds → xs.length = ps.length → Vals xs its → Inv X pins σ H s' → wpAny (model X.prog X.w) X.A (matchEach ps X.env its) Q X.xe s')
    (miss : seqLen d ≠ some ps.length → ∀ s', Inv X pins σ H s' → Q none s')
    (hstar : ps.findIdx? (·.isStar) = none := by rfl) (hwild : (ps.all fun p => p.isWildcard || (p.isStar && p.names.isEmpty)) = false := by rfl) :
    wpAny (model X.prog X.w) X.A (matchPattern (.MatchSequence ps pos) X.env u) Q X.xe s := by
  have fit : ∀ {xs : List V} {its : List Value}, Vals xs its → xs.length ≤ sizeLine → (its.toArray.size : Int) < 2 ^ 63 := fun {xs its} r h => by
    have e := r.length
    have z := line63
    simp only [List.size_toArray]
    omega
  have kept : ∀ {h' : Heap}, Heap.ExtBut s.heap.objs.size s.heap h' → Inv X pins σ H { s with heap := h', toks := s.toks + 1 + 1 } := fun hx => I.kept (t' := s.toks + 1 + 1) fun b o e => hx b o (Nat.ne_of_lt (Heap.lt_size e)) e
  have plain : seqLen d = none → wpAny (model X.prog X.w) X.A (matchPattern (.MatchSequence ps pos) X.env u) Q X.xe s := fun hn => by
    refine wpAny_matchPattern_Sequence (ty_flag I rv hd hn ?_) hstar hwild
    show Q none s
    exact miss (by rw [hn]; exact nofun) s I
  cases hd with
  | @tup a xs ds hs ha =>
    cases rv
    obtain ⟨its, rz, ht, hz⟩ := I.tuple hs
    have el : xs.length = ds.length := ha.len
    have ei : its.toArray.size = xs.length := by simp [rz.length]
    by_cases hn : its.toArray.size = ps.length
    · refine matchSeq_tuple_hit ht (fit rz hz) hn ?_ hstar hwild
      rw [← hn]
      refine unpackItems_tuple (I.ok.hd hc) ht fun h' hx => ?_
      exact hit a xs ds its _ rfl (.inl ⟨rfl, hs⟩) ha (ei.symm.trans hn) rz (kept hx)
    · exact matchSeq_tuple_miss ht (fit rz hz) hn (miss (fun z => hn (by rw [ei, el]; exact Option.some.inj z)) _ (I.tok _)) hstar hwild
  | @lst a xs ds hs ha =>
    cases rv
    obtain ⟨its, rz, pl, hz⟩ := I.list hs
    have hl' : s.heap.IsList a its.toArray := by
      obtain ⟨o, m, e, c, d, q⟩ := pl
      exact ⟨o, e, c, m, q⟩
    have el : xs.length = ds.length := ha.len
    have ei : its.toArray.size = xs.length := by simp [rz.length]
    by_cases hn : its.toArray.size = ps.length
    · refine matchSeq_list_hit hl' (fit rz hz) hn ?_ hstar hwild
      rw [← hn]
      refine PySem.W.kun_itemsOf (I.ok.hd hc) hl' fun h' hx => ?_
      exact hit a xs ds its _ rfl (.inr ⟨rfl, hs⟩) ha (ei.symm.trans hn) rz (kept hx)
    · exact matchSeq_list_miss hl' (fit rz hz) hn (miss (fun z => hn (by rw [ei, el]; exact Option.some.inj z)) _ (I.tok _)) hstar hwild
  | non => exact plain rfl
  | bl b => exact plain rfl
  | int i => exact plain rfl
  | str x h => exact plain rfl
  | dct h => exact plain rfl
/-- case (x,) -/
theorem pm_seq1 {i : Nat} {x : Str} (hc : X.calm = true) (nd : X.N.Nodup) (hi : X.N[i]? = some x) (hx : X.env.scope.names.lookup x = some .local) (hb : PSs X body t) (hr : PMs X rest r) :
    PMs X (⟨.MatchSequence [.MatchAs none (some x) pp] pq, none, body⟩ :: rest) (tSeqCase X.K 1 (fun xs D σ H => ∀ y, xs = [y] → t D (σ.set i (some y)) H) r) := by
  refine ⟨fun pins s σ H D v u first I rv hw => ?_⟩
  obtain ⟨d, hd, h1, h2⟩ := hw
  refine wpAny_matchCases_cons (seq_pat hc I rv hd (fun a xs ds its s' ev hs ha hl rz I' => ?_) (fun ne s' I' => hr.run pins s' σ H D v u false I' rv (h2 ne)))
  obtain ⟨y, rfl⟩ : ∃ y, xs = [y] := by
    match xs, hl with
    | [y], _ => exact ⟨y, rfl⟩
  obtain ⟨z, rfl, ry⟩ := vals1 rz
  refine wpAny_matchEach_cons (wpAny_matchPattern_Capture (wpAny_matchEach_nil ?_))
  refine wpAny_assignInOrder_more (wpAny_bindName ?_)
  refine store_ok I' nd hi (.inl hx) ry (fun s2 I2 => ?_) (.inr hx)
  exact wpAny_assignInOrder_none (hb.run pins s2 _ H D I2 (h1 a [y] ds ev hs ha rfl y rfl))
/-- case (x, y) -/
theorem pm_seq2 {i j : Nat} {x z : Str} {pr : Pos} (hc : X.calm = true) (nd : X.N.Nodup) (hi : X.N[i]? = some x) (hj : X.N[j]? = some z) (hx : X.env.scope.names.lookup x = some .local) (hz : X.env.scope.names.lookup z = some .local) (hb : PSs X body t) (hr : PMs X rest r) :
    PMs X (⟨.MatchSequence [.MatchAs none (some x) pp, .MatchAs none (some z) pr] pq, none, body⟩ :: rest) (tSeqCase X.K 2 (fun xs D σ H => ∀ y1 y2, xs = [y1, y2] → t D ((σ.set i (some y1)).set j (some y2)) H) r) := by
  refine ⟨fun pins s σ H D v u first I rv hw => ?_⟩
  obtain ⟨d, hd, h1, h2⟩ := hw
  refine wpAny_matchCases_cons (seq_pat hc I rv hd (fun a xs ds its s' ev hs ha hl rz I' => ?_) (fun ne s' I' => hr.run pins s' σ H D v u false I' rv (h2 ne)))
  obtain ⟨y1, y2, rfl⟩ : ∃ y1 y2, xs = [y1, y2] := by
    match xs, hl with
    | [y1, y2], _ => exact ⟨y1, y2, rfl⟩
  obtain ⟨z1, z2, rfl, ry1, ry2⟩ := vals2 rz
  refine wpAny_matchEach_cons (wpAny_matchPattern_Capture (wpAny_matchEach_cons (wpAny_matchPattern_Capture (wpAny_matchEach_nil ?_))))
  refine wpAny_assignInOrder_more (wpAny_bindName ?_)
  refine store_ok I' nd hi (.inl hx) ry1 (fun s2 I2 => ?_) (.inr hx)
  refine wpAny_assignInOrder_more (wpAny_bindName ?_)
  refine store_ok I2 nd hj (.inl hz) ry2 (fun s3 I3 => ?_) (.inr hz)
  exact wpAny_assignInOrder_none (hb.run pins s3 _ H D I3 (h1 a [y1, y2] ds ev hs ha rfl y1 y2 rfl))
end
end L2
namespace L2
open PySem PySem.Spec PyProof.Rows
/-! ### match over texts -/
def tStrCase (zs : List Str) (hit : TS) (miss : TM) : TM := fun v D σ H => ∃ z, v = .str z ∧ (z ∈ zs → hit D σ H) ∧ (z ∉ zs → miss v D σ H)
section
variable {X : Cx} {pos pp pq : Pos} {body : List Stmt} {rest : List MatchCase} {t : TS} {r : TM}
theorem str_pat {pins : List (Addr × Obj)} {s : Shared} {σ : St} {H : Hp} {z c : Str} {u : Value} {j : Nat} {p : Pos} {Q : Option (List (Str × Value)) → Shared → Prop} (I : Inv X pins σ H s) (rv : RelV (.str z) u)
    (yes : z = c → ∀ s', Inv X pins σ H s' → Q (some []) s') (no : z ≠ c → ∀ s', Inv X pins σ H s' → Q none s') :
    wpAny (model X.prog X.w) X.A (matchPattern (.MatchValue (.Constant (.str c) j p) pos) X.env u) Q X.xe s := by
  refine wpAny_matchPattern_Value (thn ((pe_str (X := X)).run pins s σ H (fun v H' => v = .str c ∧ H' = H) I ⟨rfl, rfl⟩) fun x s1 hx => ?_)
  obtain ⟨v, H1, I1, rx, rfl, rfl⟩ := hx
  refine thn (op_eq pins s1 σ H1 _ _ u x (fun v H' => v = .bl (decide (V.str z = V.str c)) ∧ H' = H1) I1 rv rx ⟨rfl, rfl, rfl⟩) fun c' s2 hc => ?_
  obtain ⟨v, H2, I2, rc, rfl, rfl⟩ := hc
  obtain rfl : c' = Value.bool (decide (V.str z = V.str c)) := rc
  refine wpAny_truthy_bool ?_
  by_cases e : z = c
  · rw [decide_eq_true (by rw [e])]
    exact yes e s2 I2
  · rw [decide_eq_false (fun q => e (by injection q))]
    exact no e s2 I2
/-- case 'c' -/
theorem pm_str1 {c : Str} {j : Nat} {p : Pos} (hb : PSs X body t) (hr : PMs X rest r) : PMs X (⟨.MatchValue (.Constant (.str c) j p) pp, none, body⟩ :: rest) (tStrCase [c] t r) := by
  refine ⟨fun pins s σ H D v u first I rv hw => ?_⟩
  obtain ⟨z, rfl, h1, h2⟩ := hw
  refine wpAny_matchCases_cons (str_pat I rv (fun e s' I' => ?_) (fun e s' I' => ?_))
  · exact wpAny_assignInOrder_none (hb.run pins s' σ H D I' (h1 (by simp [e])))
  · exact hr.run pins s' σ H D _ u false I' rv (h2 (by simp [e]))
/-- case 'c' | 'd' -/
theorem pm_str2 {c d : Str} {j k : Nat} {p q p' q' : Pos} (hb : PSs X body t) (hr : PMs X rest r) :
    PMs X (⟨.MatchOr [.MatchValue (.Constant (.str c) j p) p', .MatchValue (.Constant (.str d) k q) q'] pp, none, body⟩ :: rest) (tStrCase [c, d] t r) := by
  refine ⟨fun pins s σ H D v u first I rv hw => ?_⟩
  obtain ⟨z, rfl, h1, h2⟩ := hw
  refine wpAny_matchCases_cons (wpAny_matchPattern_Or (wpAny_matchFirst_cons (str_pat I rv (fun e s' I' => ?_) (fun e s' I' => ?_))))
  · exact wpAny_assignInOrder_none (hb.run pins s' σ H D I' (h1 (by simp [e])))
  · refine wpAny_matchFirst_cons (str_pat I' rv (fun e2 s2 I2 => ?_) (fun e2 s2 I2 => ?_))
    · exact wpAny_assignInOrder_none (hb.run pins s2 σ H D I2 (h1 (by simp [e2])))
    · exact wpAny_matchFirst_nil (hr.run pins s2 σ H D _ u false I2 rv (h2 (by simp [e, e2])))
end
/-! ### D.get(k, x), D a dict of the written part with text keys -/
structure KTab (K : PySem.W.Frag) (w : World) (d : Addr) (g : Str → Option V) : Prop where
  kd : ∃ es n, KDict K w d es n
  at_ : ∀ k, match g k with
    | none => PySem.W.nsIn K d k = some none
    | some v => ∃ u, PySem.W.nsIn K d k = some (some u) ∧ RelV v u
def tKGet2 (g : Str → Option V) (ty tx : TE) : TE := fun σ H Q => ty σ H fun y H2 => tx σ H2 fun z H3 => ∃ k, y = .str k ∧ Q ((g k).getD z) H3
section
variable {X : Cx} {e f : Expr} {apos cpos p : Pos} {ty tx : TE} {x : Str} {d : Addr} {g : Str → Option V}
theorem pe_kget2 (T : KTab X.K X.w d g) (hg : Gl X x) (hm : X.mg x = some (.ref d)) (he : PE X e ty) (hf : PE X f tx) (m : M2 X (.Name x p) "get" apos e f cpos) (hdb : (x == ("__debug__" : Str)) = false := by decide) :
    PE X (.Call (.Attribute (.Name x p) "get" apos) [e, f] [] cpos) (tKGet2 g ty tx) := by
  obtain ⟨es, n, D⟩ := T.kd
  refine ⟨fun pins s σ H Q I h => ?_⟩
  refine wpAny_Call_method m.base m.few m.line PySem.F.plainAttrs_dict PySem.F.slot_dict_get PySem.F.type_dict_get (thn ((pe_glob (v := .ref d) hg hm rfl hdb).run pins s σ H (fun v H' => v = .ref d ∧ H' = H) I ⟨rfl, rfl⟩) fun u s1 hx => ?_)
  obtain ⟨v, H1, I1, rx, rfl, rfl⟩ := hx
  obtain rfl : u = Value.ref d := rx
  refine ⟨kd_type D I1, fun b q => ?_, ?_⟩
  · cases q
    exact ⟨_, I1.kIn _ _ D.at_, rfl⟩
  rw [m.trees]
  refine Calls.callWith_builtin rfl (Calls.evalArgs_plain (Calls.spliced_cons (thn (he.run pins s1 σ H1 _ I1 h) fun iv s2 ⟨y, H2, I2, ry, q2⟩ =>
    Calls.spliced_cons (thn (hf.run pins s2 σ H2 _ I2 q2) fun fv s3 ⟨z, H3, I3, rz, k, ey, q3⟩ => Calls.spliced_nil ?_))))
  subst ey
  obtain ⟨t, rfl⟩ := ry
  refine call_meetsIn PySem.F.slot_dict_get (kd_type D I3) PySem.F.entry_dict_get (PySem.F.args_dict_get_3 _ _ _) (meets_dict_get_default (strKind X.prog X.w) d (PySem.strKind_is X.prog X.w k t) D.low fv) ⟨_, PySem.W.mapOf_K (prog := X.prog) I3.kIn D.at_ D.lit, ?_⟩
  have ha := T.at_ k
  cases hk : g k with
  | none =>
    rw [hk] at ha
    rw [PySem.W.find_K D.at_ ha]
    exact ⟨z, H3, I3.tok _, rz, by rw [hk] at q3; exact q3⟩
  | some v =>
    rw [hk] at ha
    obtain ⟨u, e1, r1⟩ := ha
    rw [PySem.W.find_K D.at_ e1]
    exact ⟨v, H3, I3.tok _, r1, by rw [hk] at q3; exact q3⟩
end
/-- what a table's keys tell of other names -/
theorem kmiss_of {K : PySem.W.Frag} {P : Params} {d : Addr} {es : Array DictEntry} {n : Nat} {ks : List Str} {k : Str} (hl : K.lookup d = some ⟨.type "dict", none, .dict es n, #[]⟩) (hk : es.toList.map He.keyOf = He.keysIn P ks) (nk : k ∉ ks) : PySem.W.nsIn K d k = some none := by
  have key : ∀ (l : List DictEntry) (ks : List Str), l.map He.keyOf = He.keysIn P ks → k ∉ ks → l.find? (·.key.isStr k) = none ∧ l.any (·.refKey) = false := by
    intro l
    induction l with
    | nil => intro ks _ _; exact ⟨rfl, rfl⟩
    | cons e r ih =>
      intro ks h nk
      cases ks with
      | nil => cases h
      | cons k0 ks =>
        have h1 : He.keyOf e :: r.map He.keyOf = some (k0, PyData.keyHash P k0) :: He.keysIn P ks := h
        injection h1 with h2 h3
        obtain ⟨z1, z2⟩ := ih ks h3 (fun m => nk (List.mem_cons_of_mem _ m))
        unfold He.keyOf at h2
        split at h2
        · rename_i x t q
          have h4 := Option.some.inj h2
          obtain ⟨h5, h6⟩ := Prod.mk.inj h4
          have nx : k ≠ x := fun z => nk (by rw [z, h5]; exact List.mem_cons_self)
          refine ⟨?_, ?_⟩
          · rw [List.find?_cons, q]
            have : (Value.str x t).isStr k = false := by
              simp [Value.isStr, Ne.symm nx]
            rw [this]
            exact z1
          · rw [List.any_cons, z2]
            unfold DictEntry.refKey
            rw [q]
            rfl
        · cases h2
  obtain ⟨z1, z2⟩ := key es.toList ks hk nk
  unfold PySem.W.nsIn
  rw [hl]
  dsimp only
  rw [z1, z2]
  rfl
end L2
namespace L2
open PySem PySem.Spec PyProof.Rows
/-! ### promises of defs where no repr is under way (A.guards = some []) -/
structure FnG (P : Program) (w : World) (K : PySem.W.Frag) (mg : Str → Option Value) (base : Heap) (CX : CXT) (k : Nat) (f : Addr) (fd : FuncData) (ps : List Str) (sp : Sp) : Prop where
  len : ∀ vs H Q E, sp vs H Q E → vs.length = ps.length
  run : ∀ (A : Around) (outer : List Env) (s : Shared) (H : Hp) (args : Args) (us : List Value) (vs : List V) (Q : VK) (E : XK), A.guards = some [] → Room k A → Env0 P w K mg base A outer s H → BindsTo s fd args (ps.zip us) → Vals vs us → sp vs H Q E →
    codeAny (model P w) A (.call (.ref f) args) (CR CX outer P w H s Q E) s
section
variable {P : Program} {w : World} {K : PySem.W.Frag} {mg : Str → Option Value} {base : Heap} {CX : CXT} {k : Nat} {f : Addr} {fd : FuncData} {ps : List Str} {sp : Sp}
theorem FnOk.g (F : FnOk P w K mg base CX k f fd ps sp) : FnG P w K mg base CX k f fd ps sp := ⟨F.len, fun A o s H a us vs Q E _ hr => F.run A o s H a us vs Q E hr⟩
theorem FnG.mono {j : Nat} (F : FnG P w K mg base CX j f fd ps sp) (h : j ≤ k) : FnG P w K mg base CX k f fd ps sp := ⟨F.len, fun A o s H a us vs Q E hg hr => F.run A o s H a us vs Q E hg (hr.mono h)⟩
theorem FunD.okG {x qual : Str} {params : Arguments} {body : List Stmt} {scope : Scope} {dvs : List V} {kws : List (Str × V)} {N : List Str} (F : FunD K x qual params body scope dvs kws f fd) (S : FnScope N ps scope) (len : ∀ vs H Q E, sp vs H Q E → vs.length = ps.length)
    (hbody : ∀ (cdv : Value) (A : Around) (outer : List Env) (s : Shared) (H : Hp) (vs : List V) (Q : VK) (E : XK), A.guards = some [] → Room k (A.deeper (envOfC qual scope s.heap.objs.size f cdv)) → sp vs H Q E →
      ∃ t, PSs (cxOf CX P w K mg base N qual scope f cdv A outer s H E) body t ∧ t { nx := fun _ H' => Q .non H', rt := Q } (start N vs) H) : FnG P w K mg base CX (k + 1) f fd ps sp := by
  obtain ⟨oc, od, dV, kV, doc, pm, an, cdv, ct, osl, rfl, lk, hcd, _, _⟩ := F.ex
  refine ⟨len, fun A outer s H args us vs Q E hgd hr e0 hbn rv hsp => ?_⟩
  have KX : K.In s.heap := e0.mod.kin.keeps fun b o e => (e0.bs b o e).1
  have kinds : ∀ y ∈ ps.zip us, scope.names.lookup y.1 = some .local ∨ (scope.names.lookup y.1 = some .cell ∧ ((cellsFrom (s.heap.objs.size + 1) scope.names []).lookup y.1).isSome = true) := by
    rintro ⟨n, v⟩ hy
    exact (S.par n (List.of_mem_zip hy).1).imp id fun q => ⟨q, PySem.W.cellsFrom_some _ _ _ (.inl q)⟩
  refine codeAny_call_function hr.depth (KX _ _ lk) rfl S.co S.gen rfl (PySem.W.codeRec_of KX hcd) (hbn _ _ _ _ (wpAny_newFunctionEnv_cells S.kind kinds fun env he s1 x => ?_))
  subst he
  refine ⟨(e0.mod.nolimit.keeps fun b o e => (e0.bs b o e).1).keeps x.toInCall.keep, codeAny_func ?_⟩
  obtain ⟨t, ht, hq⟩ := hbody cdv A outer s H vs Q E hgd (hr.deeper _) hsp
  have J0 := inv_start (CX := CX) (E := E) S hr.hd e0 (len _ _ _ _ hsp) rv x
  refine wpAny_mono (ht.run [] s1 (start N vs) H _ J0 hq) (fun fl s' hs => ?_) fun e s' hs => hs
  cases fl with
  | ret u => exact let ⟨v, σ', H', J, rz, q⟩ := hs; ⟨v, H', J.os, J.bare, J.base, J.hok, rz, q⟩
  | next => exact let ⟨σ', H', J, q⟩ := hs; ⟨.non, H', J.os, J.bare, J.base, J.hok, rfl, q⟩
  | brk => exact let ⟨_, _, _, q⟩ := hs; q.elim
  | cont => exact let ⟨_, _, _, q⟩ := hs; q.elim
end
section
variable {X : Cx} {CX : CXT} {k : Nat} {f : Addr} {fd : FuncData} {ps : List Str} {sp : Sp} {dvs : List V} {ds : List Value} {E : XK} {x : Str} {p pos : Pos} {e : Expr} {es : List Expr} {t : TA}
theorem run_fnG {pins : List (Addr × Obj)} {σ : St} {H : Hp} {s : Shared} {Q : VK} {us : List Value} {vs : List V} (F : FnG X.prog X.w X.K X.mg X.base CX k f fd ps sp) (hgd : X.A.guards = some []) (hr : Room k X.A) (hb : Binds X.K fd ps ds) (hd : Vals dvs ds) (hx : Passes CX X E)
    (I : Inv X pins σ H s) (r : Vals vs us) (h : sp (vs ++ dvs) H Q E) : wpAny (model X.prog X.w) X.A (call (.ref f) us) (EP X pins σ Q) X.xe s := by
  have rr : Vals (vs ++ dvs) (us ++ ds) := r.append hd
  have hl : (us ++ ds).length = ps.length := rr.length ▸ F.len _ _ _ _ h
  refine wpAny_call (codeAny_mono (F.run X.A X.stack s H ⟨us, []⟩ (us ++ ds) (vs ++ dvs) Q E hgd hr I.env0 (hb s us I.kIn hl) rr h) fun r s' hq => ?_)
  match r, hq with
  | .error e, hq => exact hx pins σ H s e s' I hq
  | .ok (.ret u), hq => exact I.after hq
  | .ok .next, hq => exact hq.elim
  | .ok .brk, hq => exact hq.elim
  | .ok .cont, hq => exact hq.elim
/-- f(e, ..) -/
theorem pe_callG (F : FnG X.prog X.w X.K X.mg X.base CX k f fd ps sp) (hgd : X.A.guards = some []) (hr : Room k X.A) (hg : Gl X x) (hm : X.mg x = some (.ref f)) (hk : PySem.W.keepIn X.K (.ref f) = true) (hb : Binds X.K fd ps ds) (hd : Vals dvs ds) (hx : Passes CX X E)
    (ha : PA X (e :: es) t) (hdb : (x == ("__debug__" : Str)) = false := by decide) (he : starEach (e :: es) X.env = (false, eval e X.env) :: starEach es X.env := by rfl) (hpl : (backTo pos (starEach es X.env)).any (·.1) = false := by rfl) :
    PE X (.Call (.Name x p) (e :: es) [] pos) (tCall sp dvs E t) :=
  ⟨fun pins s σ H Q I h => wpAny_Call_Name_kw (ld_glob I hg hm (PySem.W.callWith_K (h₀ := X.base) I.ok.mod.kin hk (thn (ha.run pos pins s σ H _ I h) fun us s1 ⟨vs, H1, I1, r, q⟩ => ⟨I1.kIn, run_fnG F hgd hr hb hd hx I1 r q⟩) he hpl) hdb)⟩
theorem call_repr (hgd : X.A.guards = some []) (hu : X.A.units + 64 < cLine) : CallR X (.builtin "repr") (rRepr X.K) := by
  intro pins s σ H xs us Q I r h
  obtain ⟨v, d, rfl, hd, sh, nd, dp, hz, q⟩ := h
  obtain ⟨u, rfl, ru⟩ := vals1 r
  obtain ⟨as, hr⟩ := Dp.reads I d v u hd ru
  cases hd with
  | non => cases (show u = Value.none from ru); exact PySem.P.repr_of_none ⟨.str _, H, I.tok _, ⟨_, rfl⟩, q⟩
  | bl b => cases (show u = Value.bool b from ru); exact PySem.P.repr_of_bool ⟨.str _, H, I.tok _, ⟨_, rfl⟩, q⟩
  | int i =>
    obtain ⟨t, rfl⟩ := (show ∃ t, u = Value.int i t from ru)
    exact PySem.P.repr_of_int (by simpa [PyData.showable] using sh) ⟨.str _, H, I.tok _, ⟨_, rfl⟩, q⟩
  | str x =>
    obtain ⟨t, rfl⟩ := (show ∃ t, u = Value.str x t from ru)
    exact PySem.P.repr_of_str ⟨.str _, H, I.tok _, ⟨_, rfl⟩, q⟩ hz
  | lst hs ha =>
    cases ru
    exact repr_of_reads' hr sh (fun z => by rw [nd] at z; cases z) hgd (by omega) (fun _ _ e => e) (fun h' u tk hk => ⟨.str _, H, I.kept (t' := tk) hk, ⟨_, rfl⟩, q⟩) hz
  | tup hs ha =>
    cases ru
    exact repr_of_reads' hr sh (fun z => by rw [nd] at z; cases z) hgd (by omega) (fun _ _ e => e) (fun h' u tk hk => ⟨.str _, H, I.kept (t' := tk) hk, ⟨_, rfl⟩, q⟩) hz
end
end L2
namespace L2
open PySem PySem.Spec PyProof.Rows
/-! ### the law's end over such a promise -/
section
variable {P : Program} {w : World} {K : PySem.W.Frag} {mg mb : Str → Option Value} {CX : CXT} {k : Nat} {fa a : Addr} {fd : FuncData} {x : Str} {sp : Sp} {s₁ : Shared} {vs : List Value} {ns : List Int}
/-- the goal of a law's call -/
abbrev LawGoal (P : Program) (w : World) (fa a : Addr) (s₁ : Shared) : Prop := codeAny (model P w) callerA (.call (.ref fa) ⟨[.ref a], []⟩) (fun r s' => r = .ok (.ret (.bool true)) ∧ OldK s₁.heap s'.heap ∧ s'.os = s₁.os ∧ AllBare s'.gens) s₁
theorem law_callG (KX : K.In s₁.heap) (hns : s₁.heap.Ns mainGlobals mg) (hb : s₁.heap.Ns builtinsNs mb) (hbb : ∀ x : Str, x ≠ "__name__" → mb x = bootBuiltins x) (hlim : s₁.heap.NoLimit) (hg : s₁.gens = #[])
    (ha : s₁.heap.get? a = some { cls := .type "list", data := .seq vs.toArray }) (hi : IntsAre vs ns) (hl : ns.length ≤ sizeLine) (hr : Room k callerA)
    (F : ∀ base : Heap, K.In base → base.Ns mainGlobals mg → FnG P w K mg base CX k fa fd [x] sp) (hbind : ∀ (s : Shared) (u : Value), BindsTo s fd ⟨[u], []⟩ [(x, u)])
    (hsp : ∀ H : Hp, Only H → SqL K H a (ns.map V.int) → sp [.ref a] H (fun v _ => v = .bl true) fun _ _ _ => False)
    (hCX : ∀ H e s', CX [] H s₁ (fun _ _ _ => False) e s' → False) : LawGoal P w fa a s₁ := by
  have main : ∀ H : Hp, Only H → SqL K H a (ns.map V.int) → HOk P w H s₁.heap → (∀ b, H b ≠ none → b = a ∧ K.lookup a = none) → LawGoal P w fa a s₁ := by
    intro H hO hS hok only
    -- what is untracked stands in the base
    have up : ∀ {b : Addr} {o : Obj}, s₁.heap.get? b = some o → H b = none → (hidT s₁.heap H).get? b = some o := fun e n => hidT_get e n
    have free : ∀ {b : Addr} {o : Obj} {es : Array DictEntry} {ep : Nat}, s₁.heap.get? b = some o → o.data = .dict es ep → H b = none := by
      intro b o es ep e d
      refine Classical.byContradiction fun nz => ?_
      obtain ⟨rfl, _⟩ := only b nz
      rw [ha] at e
      cases e
      exact nomatch (show Data.seq vs.toArray _ = Data.dict es ep from d)
    have nsUp : ∀ {b : Addr} {m : Str → Option Value}, s₁.heap.Ns b m → (hidT s₁.heap H).Ns b m := fun ⟨o, es, ep, e, d, r⟩ => ⟨o, es, ep, up e (free e d), d, r⟩
    have KB : K.In (hidT s₁.heap H) := fun b o e => up (KX b o e) (Classical.byContradiction fun nz => by
      obtain ⟨rfl, hk⟩ := only b nz
      rw [hk] at e
      cases e)
    have none0 : ∀ b : Addr, b ∉ frs ([] : List Env) := fun b z => absurd (show b ∈ ([] : List Addr) from z) (by simp)
    have E0 : Env0 P w K mg (hidT s₁.heap H) callerA [] s₁ H :=
      ⟨rfl, ⟨KB, nsUp hns, ⟨mb, nsUp hb, hbb⟩, let ⟨mc, h1, h2⟩ := hlim; ⟨mc, nsUp h1, h2⟩⟩, fun b o e => of_hidT e, Nat.le_of_eq (hidT_size _ _), trivial, fun b z => absurd z (none0 b), hok, .of_eq hg⟩
    refine codeAny_mono ((F _ KB (nsUp hns)).run callerA [] s₁ H ⟨[.ref a], []⟩ [.ref a] [.ref a] _ _ rfl hr E0 (hbind s₁ (.ref a)) (.cons rfl .nil) (hsp H hO hS)) fun r s' h => ?_
    match r, h with
    | .error e, h => exact (hCX H e s' h).elim
    | .ok .next, h => exact h.elim
    | .ok .brk, h => exact h.elim
    | .ok .cont, h => exact h.elim
    | .ok (.ret u), ⟨v, H', os, bare, un, hok', rz, q⟩ =>
      cases (show v = .bl true from q)
      cases (show u = Value.bool true from rz)
      refine ⟨rfl, OldK.of_keep fun b o e => ?_, os, bare⟩
      cases hb' : H b with
      | none => exact un.keep b o e hb' (none0 b) (by simp)
      | some y =>
        rcases hO b with z | ⟨ob, ys, z⟩
        · rw [hb'] at z
          cases z
        · have o1 := (hok b _ z).1
          have o2 := (hok' b _ (un.frzs b ob _ z)).1
          rw [e] at o1
          cases o1
          exact o2
  have rv := vals_ints hi
  have hlen := hi.length
  by_cases hk : K.lookup a = none
  · refine main (fun b => if b = a then some (.frz { cls := .type "list", data := .seq vs.toArray } (.lst (ns.map V.int))) else none) (fun b => ?_) (.inl (.inr ⟨_, if_pos rfl⟩)) (fun b u z => ?_) (fun b z => ?_)
    · by_cases e : b = a
      · exact .inr ⟨_, _, if_pos e⟩
      · exact .inl (if_neg e)
    · by_cases e : b = a
      · subst e
        cases (if_pos rfl).symm.trans z
        exact ⟨ha, by rw [List.length_map]; exact hl, vs, _, rv, ha⟩
      · cases (if_neg e).symm.trans z
    · by_cases e : b = a
      · exact ⟨e, hk⟩
      · exact absurd (if_neg e) z
  · cases ho : K.lookup a with
    | none => exact absurd ho hk
    | some o =>
      have e := KX a o ho
      rw [ha] at e
      cases e
      exact main (fun _ => none) (fun _ => .inl rfl) (.inr ⟨_, vs.toArray, _, ho, rfl, rfl, rfl, by rw [List.size_toArray, hlen]; exact hl, by simpa using rv⟩) (fun b u z => by cases z) (fun b z => absurd rfl z)
end
/-- a law: F gives the written part, the function object, the promise over every base -/
theorem walk_ofG {l : PySem.W.OpenLaw} {n k : Nat} {q : Program} {loose : List Str} {XP : (Str → Option Value) → Heap → Prop} {YP : World → Heap → Prop} {d : DefRec} {CX : World → CXT} {x : Str}
    (hn : l.most = some n) (hn2 : n ≤ sizeLine) (hdf : d.params.defaults = []) (hr : Room k callerA)
    (F : ∀ (w : World) (mg : Str → Option Value) (fa : Addr) (h : Heap), YP w h → h.Ns mainGlobals mg → mg d.name = some (.ref fa) →
      ∃ (K : PySem.W.Frag) (fd : FuncData) (sp : Sp), K.In h ∧ (∀ (s : Shared) (u : Value), BindsTo s fd ⟨[u], []⟩ [(x, u)]) ∧
        (∀ (H : Hp) (a : Addr) (ns : List Int), ns.length ≤ n → Only H → SqL K H a (ns.map V.int) → sp [.ref a] H (fun v _ => v = .bl true) fun _ _ _ => False) ∧
        ∀ base : Heap, K.In base → base.Ns mainGlobals mg → FnG l.prog w K mg base (CX w) k fa fd [x] sp)
    (hCX : ∀ (w : World) (H : Hp) (s : Shared) (e : Value) (s' : Shared), CX w [] H s (fun _ _ _ => False) e s' → False) :
    PySem.W.WalkO q loose XP YP l.row.toRowW d [] (fun f vs => PySem.call f vs) := by
  refine Att.attach_call hn hdf fun w s₀ s₁ mg mb fa o pm cd doc a vs ns G Y ho hd hcd hmg hobj hints hlen hg => ?_
  obtain ⟨K, fd, sp, KX, h1, h2, h3⟩ := F w mg fa _ Y G.T.g hmg
  exact law_callG KX G.T.g G.T.b G.T.builtins G.T.nolimit hg hobj hints (Nat.le_trans hlen hn2) hr h3 h1 (fun H hO hS => h2 H a ns hlen hO hS) fun H e s' => hCX w H s₁ e s'
end L2
namespace PySem
namespace MCX
open PySem.W PySem.Calls PyProof.Rows PySem.HandSPX
/-! ### an own error whose __init__ says super().__init__(f); self.f = f -/
def iA (f : Str) (p1 p2 : Pos) : Arguments := { posonlyargs := [], args := [{ arg := "self", annotation := none, pos := p1 }, { arg := f, annotation := none, pos := p2 }], vararg := none, kwonlyargs := [], kw_defaults := [], kwarg := none, defaults := [] }
def iB (f : Str) (q1 q2 q3 q4 q5 q6 q7 q8 q9 q10 : Pos) : List Stmt := [.Expr (.Call (.Attribute (.Call (.Name "super" q1) [] [] q2) "__init__" q3) [.Name f q4] [] q5) q6, .Assign [.Attribute (.Name "self" q7) f q8] (.Name f q9) q10]
def iS (f : Str) : Scope := { kind := .function, names := [(PySem.Str.ofString "self", .local), (f, .local), (PySem.Str.ofString "__class__", .free), (PySem.Str.ofString "super", .globalImplicit)], isGenerator := false, isCoroutine := false, more := [] }
structure FOk (f : Str) : Prop where
  dbg : (f == ("__debug__" : Str)) = false
  lf : (iS f).names.lookup f = some .local
  lc : (iS f).names.lookup ("__class__" : Str) = some .free
  ls : (iS f).names.lookup ("super" : Str) = some .globalImplicit
  ns : (("self" : Str) == f) = false
  bd : ∀ (qual : Str) (p1 p2 : Pos) (body : List Stmt) (doc pm : Value) (an : Option Addr) (cd ct : Value) (cc : Addr) (x v : Value), bindArgs (ksFn "__init__" qual (iA f p1 p2) body (iS f) .none .none doc pm an cd ct cc) ⟨[x, v], []⟩ = pure ([(("self" : Str), x), (f, v)] : List (Str × Value))
theorem fok_value : FOk "value" := ⟨by decide, rfl, rfl, rfl, by decide, fun _ _ _ _ _ _ _ _ _ _ _ _ => rfl⟩
theorem fok_field : FOk "field" := ⟨by decide, rfl, rfl, rfl, by decide, fun _ _ _ _ _ _ _ _ _ _ _ _ => rfl⟩
/-- what the written part says of the class at C and of its __init__ at fI -/
structure XTxt (prog : Program) (K : Frag) (mg : Str → Option Value) (nm f : Str) (C fI : Addr) : Prop where
  gC : mg nm = some (.ref C)
  fok : FOk f
  cls : ∃ nm q N bs bm sn sub ab col dd k0 k1 k2 k3 k5, K.lookup C = some (excClassObj nm q C N bs bm true sn sub ab col dd k0 k1 k2 k3 k5 "ValueError.__new__") ∧ refsVE bm = true
  sa : findIn K (.ref C) "__setattr__" = some (some (.builtin "object.__setattr__"))
  ga : findIn K (.ref C) "__getattribute__" = some (some (.builtin "BaseException.__getattribute__"))
  gg : findIn K (.ref C) "__getattr__" = some none
  noF : findIn K (.ref C) f = some none
  iC : findIn K (.ref C) "__init__" = some (some (.ref fI))
  tC : typeIn K (.ref fI) = some (.type "function")
  kC : keepIn K (.ref C) = true
  exC : subIn K (.ref C) (.type "BaseException") = some true
  veC : subIn K (.ref C) (.type "ValueError") = some true
  tyC : typeIn K (.ref C) = some (.type "type")
  hdC : hasDictIn K C = true
  te : exmOne K (.ref C) (.ref C) = some true
  mC : mroIn K C (.ref C) = some true
  su : ks_superIn K C C "__init__" = some (some (.builtin "ValueError.__init__"))
  tp : nsIn K cStatics "thirdparty.any" = some none
  noS : mg "super" = none
  top : (prog.main.scope.names.lookup ("super" : Str)).isSome = false
  fn : ∃ (qual : Str) (oc : Value) (od : Option Addr) (doc pm : Value) (an : Option Addr) (cda : Addr) (ct : Value) (cc : Addr) (osl : Array (Option Value)) (p1 p2 q1 q2 q3 q4 q5 q6 q7 q8 q9 q10 : Pos),
    K.lookup fI = some ⟨oc, od, .func (ksFn "__init__" qual (iA f p1 p2) (iB f q1 q2 q3 q4 q5 q6 q7 q8 q9 q10) (iS f) .none .none doc pm an (.ref cda) ct cc), osl⟩ ∧ codeIn K (.ref cda) qual = true ∧
    (∃ ccl cdd vs ccs file tf, K.lookup cda = some ⟨ccl, cdd, .fields vs, ccs⟩ ∧ vs[2]? = some (.str file tf) ∧ ((prog.main.file : Str) == file) = true) ∧
    (∃ cl cld csl, K.lookup cc = some ⟨cl, cld, .cell (some (.ref C)), csl⟩) ∧ (q3.endLine == q5.line) = true
/-- what __init__ leaves of a fresh exception at x -/
structure InitEnd (f : Str) (h h' : Heap) (x C dx t1 : Addr) (v : Value) : Prop where
  keep : ∀ b o, b ≠ x → h.get? b = some o → h'.get? b = some o
  obj : h'.get? x = some { cls := .ref C, dict := some dx, data := .fields #[.ref t1, .none, .none, .none, .bool false, .none] }
  dbig : h.objs.size ≤ dx
  dne : dx ≠ x
  ns : h'.Ns1 dx (fun y => if y = f then some v else none)
section
variable {prog : Program} {w : World} {A : Around} {E : Value → Shared → Prop} {R : Result → Shared → Prop} {s : Shared} {K : Frag} {mg : Str → Option Value} {nm f : Str} {C fI : Addr}
theorem sup_init (T : XTxt prog K mg nm f C fI) {x t0 : Addr} {v : Value} (X : K.In s.heap) (hlim : s.heap.NoLimit) (hx : s.heap.get? x = some (excO C t0)) (hnx : K.lookup x = none) (hroom : A.depth < recursionLimit)
    (hG : s.heap.Ns mainGlobals mg) (hB : ∃ mb, s.heap.Ns builtinsNs mb ∧ ∀ x : Str, x ≠ "__name__" → mb x = bootBuiltins x)
    (hq : ∀ h' tk dx t1, InitEnd f s.heap h' x C dx t1 v → R (.ok (.ret .none)) { s with heap := h', toks := tk }) :
    codeAny (model prog w) A (.call (.ref fI) ⟨[.ref x, v], []⟩) R s := by
  obtain ⟨qual, oc, od, doc, pm, an, cda, ct, cc, osl, p1, p2, q1, q2, q3, q4, q5, q6, q7, q8, q9, q10, hl, hcd, ⟨ccl, cdd, vs, ccs, file, tf, hcode, hvs, hfile⟩, ⟨cl, cld, csl, hcell⟩, hpos⟩ := T.fn
  obtain ⟨cnm, q, N, bs, bm, sn, sub, ab, col, dd, k0, k1, k2, k3, k5, hC, hbm⟩ := T.cls
  obtain ⟨mb, hBn, hBv⟩ := hB
  have hcl : clsIn K C = some { name := cnm, bases := bs, mro := .ref C :: bm, ns := N, qualname := q, hasDict := true, slotNames := sn, subclasses := sub, abstract := ab, collection := col, hasDel := false } := by unfold clsIn; rw [hC] <;> rfl
  obtain ⟨hp, g, d, tk, os⟩ := s
  refine ks_codeAny_call_defAt (fd := ksFn "__init__" qual (iA f p1 p2) (iB f q1 q2 q3 q4 q5 q6 q7 q8 q9 q10) (iS f) .none .none doc pm an (.ref cda) ct cc) (body := iB f q1 q2 q3 q4 q5 q6 q7 q8 q9 q10) (binds := [("self", .ref x), (f, v)]) hroom (X _ _ hl) rfl hlim (codeRec_of X hcd) rfl (BindsTo.of_eq (T.fok.bd _ _ _ _ _ _ _ _ _ _ _ _)) ?hce ?hlo (fun h₁ hns hk₁ => ?_) rfl rfl rfl
  case hce => intro y hy; simp only [iS, List.mem_cons, List.not_mem_nil, or_false] at hy; rcases hy with rfl | rfl | rfl | rfl <;> simp
  case hlo =>
    intro y hy
    simp only [List.mem_cons, List.not_mem_nil, or_false] at hy
    rcases hy with rfl | rfl
    · rfl
    · exact T.fok.lf
  have X₁ : K.In h₁ := X.keeps hk₁
  have hx₁ := hk₁ _ _ hx
  have mv : (fun y => ([("self", Value.ref x), (f, v)] : List (Str × Value)).reverse.lookup y) f = some v := by simp [List.lookup]
  have mself : (fun y => ([("self", Value.ref x), (f, v)] : List (Str × Value)).reverse.lookup y) "self" = some (.ref x) := by simp [List.lookup, T.fok.ns]
  have hns' : Heap.Ns h₁ hp.objs.size (fun y => ([("self", Value.ref x), (f, v)] : List (Str × Value)).reverse.lookup y) := hns
  have hcr := X₁ _ _ hC
  have I₁ : InstAt h₁ x (excO C t0) C none := ⟨hx₁, rfl, rfl, trivial⟩
  show _root_.PySem.wpAt _ _ _ (execs (iB f q1 q2 q3 q4 q5 q6 q7 q8 q9 q10) (ksEnv qual (iS f) hp.objs.size fI (.ref cda) cc)) _ _ _
  have hmc : ∀ ov, methodCall (.Call (.Name "super" q1) [] [] q2) "__init__" q3 q5 (ksEnv qual (iS f) hp.objs.size fI (.ref cda) cc) ov 1 (backTo q5 (starEach [.Name f q4] (ksEnv qual (iS f) hp.objs.size fI (.ref cda) cc))) [] = (do
      let (ff, first) ← holding [ov] (getMethod ov "__init__" (L2.plainOf (.Call (.Name "super" q1) [] [] q2) (ksEnv qual (iS f) hp.objs.size fI (.ref cda) cc)))
      callWith q5 ff first (backTo q5 (starEach [.Name f q4] (ksEnv qual (iS f) hp.objs.size fI (.ref cda) cc))) []) := fun ov => L2.mcall_line rfl hpos
  refine ks_wpAt_execs_cons (ks_wpAt_Expr_any (ks_wpAt_MethodCall (pl := L2.plainOf (.Call (.Name "super" q1) [] [] q2) (ksEnv qual (iS f) hp.objs.size fI (.ref cda) cc)) ?_ ?he))
  case he =>
    show (do
      let ov ← attributeBase (.Call (.Name "super" q1) [] [] q2) "__init__" (ksEnv qual (iS f) hp.objs.size fI (.ref cda) cc) (eval (.Call (.Name "super" q1) [] [] q2) (ksEnv qual (iS f) hp.objs.size fI (.ref cda) cc))
      standAt q3.atName
      methodCall (.Call (.Name "super" q1) [] [] q2) "__init__" q3 q5 (ksEnv qual (iS f) hp.objs.size fI (.ref cda) cc) ov 1 (backTo q5 (starEach [.Name f q4] (ksEnv qual (iS f) hp.objs.size fI (.ref cda) cc))) []) = _
    simp only [hmc]
  refine ks_wpAt_super_base (env := ksEnv qual (iS f) hp.objs.size fI (.ref cda) cc) (f := fI) (cc := cda) T.fok.ls T.fok.lc (by decide) rfl (X₁ _ _ hl) rfl rfl rfl (X₁ _ _ hcode) rfl hvs hfile T.top ?_
  refine ks_loadName_global rfl T.fok.ls (loadGlobal_builtin (env := ksEnv qual (iS f) hp.objs.size fI (.ref cda) cc) (hG.keeps hk₁) T.noS (hBn.keeps hk₁) ((hBv _ (by decide +kernel)).trans (by first | rfl | decide +kernel | kernel_rfl)) ⟨rfl, ?_⟩)
  refine wpAny_loadName_free rfl T.fok.lc rfl ⟨_, X₁ _ _ hcell, rfl⟩ ?_
  refine wpAny_loadName_local rfl rfl hns' mself ?_
  refine ks_wpAny_isType_cls (X₁ _ _ hC) rfl ⟨rfl, ?_⟩
  refine ks_wpAny_call_super (X₁ _ _ hC) rfl hx₁ rfl (fun c e => by cases e) (looks_mroIn X₁ T.mC) (fun h₂ e₂ k₂ => ?_)
  have X₂ : K.In h₂ := X₁.keeps k₂
  have hx₂ := k₂ _ _ hx₁
  have I₂ : InstAt h₂ x (excO C t0) C none := ⟨hx₂, rfl, rfl, trivial⟩
  have hns₂ := hns'.keeps k₂
  have hal : alongIn K "__init__" (((Value.ref C :: bm).dropWhile (· != .ref C)).drop 1) = some (some (.builtin "ValueError.__init__")) := by
    have z := T.su
    unfold ks_superIn at z
    rw [hcl] at z
    exact z
  refine kxs_getMethod kxs_ValueError (so := h₁.objs.size) (D := C) (x := x) (C := C) (l₀ := .ref C :: bm) (K := K) e₂ (looks_opaque X₂ T.tp) (fun A Q E s k q => wpAny_bind ((looks_clsIn X₂ hcl) A _ E s k (wpAny_pure q))) rfl X₂ hal (I₂.type.andThen (looks_subIn X₂ T.veC)) (ks_ne X₂ I₂ hcl) (by decide) ?_
  have k₃ : ∀ b o, h₂.get? b = some o → (h₂.push (kxs_mw "ValueError.__init__" x)).get? b = some o := fun b o e => Heap.get?_push_of_some _ e
  have hmw : (h₂.push (kxs_mw "ValueError.__init__" x)).get? h₂.objs.size = some (kxs_mw "ValueError.__init__" x) := Heap.get?_push_at rfl rfl
  refine kxs_callWith (i := "ValueError.__init__") (x := x) rfl (evalArgs_plain ?_)
  refine spliced_cons (wpAny_Name (wpAny_loadName_local rfl T.fok.lf (hns₂.keeps k₃) mv ?_) T.fok.dbg)
  refine spliced_nil ⟨hmw, ?_⟩
  have FB := F.excBase_ValueError
  refine wpAny_call (codeAny_of_tree ?_)
  show wpAny _ _ (callAny (.ref h₂.objs.size) ⟨[v], []⟩) _ _ _
  simp only [callAny]
  refine wpAny_bind (wpAny_load hmw ?_)
  simp only [kxs_mw, show (Value.type "method-wrapper" == Value.type "method" || Value.type "method-wrapper" == Value.type "builtin_function_or_method" || Value.type "method-wrapper" == Value.type "method-wrapper") = true by decide, if_true]
  refine KFB.if_so (by decide) ?_
  refine wpAny_bind (check_bound_init FB.toExcCallFacts (k₃ _ _ (X₂ _ _ hC)) (k₃ _ _ hx₂) rfl ?_)
  refine wpAny_bind (wpAny_pure (wpAny_pure ?_))
  refine ⟨plainId_quiet FB.init.plain _, codeAny_builtin FB.initEntry ?_⟩
  refine exc_init_tree (cls := .ref C) (t0 := t0) (dv := none) (c2 := .none) (c3 := .none) (b4 := .bool false) (k₃ _ _ hx₂) (by rw [sizeLine_eq]; exact (by decide : 1 ≤ 16777216)) fun h₄ k₄ hx₄ _ => ?_
  have hxL : hp.objs.size ≠ x := Nat.ne_of_gt (Heap.lt_size hx)
  have X₄ : K.In h₄ := fun a o e => k₄ a o (fun z => by rw [z, hnx] at e; cases e) (k₃ a o (X₂ a o e))
  have hns₄ : Heap.Ns h₄ hp.objs.size (fun y => ([("self", Value.ref x), (f, v)] : List (Str × Value)).reverse.lookup y) := by
    obtain ⟨oL, es, ep, hL, r⟩ := hns₂.keeps k₃
    exact ⟨oL, es, ep, k₄ _ _ hxL hL, r⟩
  show _root_.PySem.wpAt _ _ _ (execs _ _) _ _ _
  refine ks_wpAt_execs_cons (ks_wpAt_Assign_Attr (wpAt_of_wpAny ?_))
  refine wpAny_Name (wpAny_loadName_local rfl T.fok.lf hns₄ mv ?_) T.fok.dbg
  refine wpAny_Name (wpAny_loadName_local rfl rfl hns₄ mself ?_) (by decide)
  refine set_plain X₄ (od := none) ⟨hx₄, rfl, rfl, trivial⟩ T.sa ?_
  refine exc_osa X₄ hx₄ hcl (show refsVE (.ref C :: bm) = true from hbm) rfl T.noF (fun h₅ tk₅ dx k₅ dn dne hx₅ hn₅ => ?_)
  show _root_.PySem.wpAt _ _ _ (execs _ _) _ _ _
  have hle : hp.objs.size ≤ h₄.objs.size := Nat.le_of_lt hns₄.lt
  exact wpAt_of_wpAny (wpAny_execs_nil (hq h₅ tk₅ dx _ ⟨fun b o hb e => k₅ b o hb (k₄ b o hb (k₃ b o (k₂ b o (hk₁ b o e)))), hx₅, Nat.le_trans hle dn, dne, hn₅⟩))
end
end MCX
end PySem
namespace MCH
open PySem PySem.Spec PyProof.Rows L2 PySem.W PySem.MCX PySem.HandSPX He
/-! ### facts of own errors (super().__init__) by names, beside the layer's own facts -/
def asM (g : Addr → Option Obj) : Nat → List Addr
  | 0 => [mainGlobals, cStatics]
  | n + 1 => growD g (asM g n)
/-- an own error: its class's name, its field, its __init__ -/
structure XD where
  nm : Str
  f : Str
  st : Stmt
abbrev FnV : Type := Option (Str × Arguments × FuncBody × Scope × Addr × Addr)
def fnV (K : Frag) (x : XD) : FnV := match K.lookup (ma K (ga K x.nm) "__init__") with
  | some ⟨_, _, .func fd, _⟩ => some (fd.name, fd.params, fd.body, fd.scope, fd.globals, fd.builtins)
  | _ => none
def XD.val (x : XD) : FnV := some ("__init__", defArgs x.st, .stmts (defBody x.st), defScope x.st, mainGlobals, builtinsNs)
def clB (K : Frag) (C : Addr) : Bool := match K.lookup C with
  | some ⟨.type c, _, .cls cd, sl⟩ => decide (c = "type") && (match cd.mro, sl.toList with
    | .ref C' :: bm, [_, _, _, _, some (.builtin n), _] => decide (C' = C) && (decide (n = "ValueError.__new__") && (!cd.hasDel && (cd.hasDict && refsVE bm)))
    | _, _ => false)
  | _ => false
theorem clB_ok {K : Frag} {C : Addr} (h : clB K C = true) : ∃ nm q N bs bm sn sub ab col dd k0 k1 k2 k3 k5, K.lookup C = some (excClassObj nm q C N bs bm true sn sub ab col dd k0 k1 k2 k3 k5 "ValueError.__new__") ∧ refsVE bm = true := by
  unfold clB at h
  cases q : K.lookup C with
  | none => rw [q] at h; cases h
  | some o =>
    obtain ⟨oc, od, dt, sl⟩ := o
    rw [q] at h
    cases oc with
    | type c =>
      cases dt with
      | cls cd =>
        obtain ⟨h1, h2⟩ := ba h
        have e1 : c = "type" := of_decide_eq_true h1
        subst e1
        obtain ⟨nm, bs, mro, ns, qn, hd, sn, sb, ab, col, del⟩ := cd
        obtain ⟨sl⟩ := sl
        dsimp only at h2
        split at h2
        · rename_i C' bm k0 k1 k2 k3 n k5
          obtain ⟨a1, h3⟩ := ba h2
          obtain ⟨a2, h4⟩ := ba h3
          obtain ⟨a3, h5⟩ := ba h4
          obtain ⟨a4, a5⟩ := ba h5
          have z1 := of_decide_eq_true a1
          have z2 := of_decide_eq_true a2
          subst z1 z2
          simp only [Bool.not_eq_true'] at a3
          subst a3 a4
          exact ⟨nm, qn, ns, bs, bm, sn, sb, ab, col, od, k0, k1, k2, k3, k5, rfl, a5⟩
        · cases h2
      | _ => cases h
    | _ => cases dt <;> cases h
def fnB (prog : Program) (K : Frag) (C fI : Addr) : Bool := match K.lookup fI with
  | some ⟨_, _, .func fd, _⟩ => decide (fd.defaults = .none) && (decide (fd.kwdefaults = .none) && (match fd.code, fd.closure with
    | .ref cda, [(x, cc)] => decide (x = "__class__") && (codeIn K (.ref cda) fd.qualname && ((match K.lookup cda with
      | some ⟨_, _, .fields vs, _⟩ => (match (vs[2]? : Option Value) with
        | some (.str file _) => ((prog.main.file : Str) == file)
        | _ => false)
      | _ => false) && (match K.lookup cc with
      | some ⟨_, _, .cell (some (.ref D)), _⟩ => decide (D = C)
      | _ => false)))
    | _, _ => false))
  | _ => false
def xB (prog : Program) (K : Frag) (x : XD) : Bool :=
  eqO (nsIn K mainGlobals x.nm) (some (some (.ref (ga K x.nm)))) && (clB K (ga K x.nm) && (eqO (findIn K (.ref (ga K x.nm)) "__setattr__") (some (some (.builtin "object.__setattr__"))) &&
  (eqO (findIn K (.ref (ga K x.nm)) "__getattribute__") (some (some (.builtin "BaseException.__getattribute__"))) && (eqO (findIn K (.ref (ga K x.nm)) "__getattr__") (some none) && (eqO (findIn K (.ref (ga K x.nm)) x.f) (some none) &&
  (eqO (findIn K (.ref (ga K x.nm)) "__init__") (some (some (.ref (ma K (ga K x.nm) "__init__")))) && (decide (typeIn K (.ref (ma K (ga K x.nm) "__init__")) = some (.type "function")) && (keepIn K (.ref (ga K x.nm)) &&
  (decide (subIn K (.ref (ga K x.nm)) (.type "BaseException") = some true) && (decide (subIn K (.ref (ga K x.nm)) (.type "ValueError") = some true) && (decide (typeIn K (.ref (ga K x.nm)) = some (.type "type")) && (hasDictIn K (ga K x.nm) &&
  (decide (exmOne K (.ref (ga K x.nm)) (.ref (ga K x.nm)) = some true) && (decide (mroIn K (ga K x.nm) (.ref (ga K x.nm)) = some true) && (eqO (ks_superIn K (ga K x.nm) (ga K x.nm) "__init__") (some (some (.builtin "ValueError.__init__"))) &&
  (eqO (nsIn K cStatics "thirdparty.any") (some none) && (eqO (nsIn K mainGlobals "super") (some none) && fnB prog K (ga K x.nm) (ma K (ga K x.nm) "__init__"))))))))))))))))))
theorem xB_ok {prog : Program} {K : Frag} {h : Heap} {mg : Str → Option Value} (X : K.In h) (G : h.Ns mainGlobals mg) {x : XD} (c : xB prog K x = true) (e : fnV K x = x.val) (fok : FOk x.f) (htop : (prog.main.scope.names.lookup ("super" : Str)).isSome = false)
    {p1 p2 q1 q2 q3 q4 q5 q6 q7 q8 q9 q10 : Pos} (eA : defArgs x.st = iA x.f p1 p2) (eB : defBody x.st = iB x.f q1 q2 q3 q4 q5 q6 q7 q8 q9 q10) (eS : defScope x.st = iS x.f) (hpos : (q3.endLine == q5.line) = true) :
    XTxt prog K mg x.nm x.f (ga K x.nm) (ma K (ga K x.nm) "__init__") := by
  unfold xB at c
  simp only [Bool.and_eq_true] at c
  obtain ⟨c1, c2, c3, c4, c5, c6, c7, c8, c9, c10, c11, c12, c13, c14, c15, c16, c17, c18, c19⟩ := c
  refine { gC := mg_of X G (eqO_ok c1), fok := fok, cls := clB_ok c2, sa := eqO_ok c3, ga := eqO_ok c4, gg := eqO_ok c5, noF := eqO_ok c6, iC := eqO_ok c7, tC := of_decide_eq_true c8, kC := c9, exC := of_decide_eq_true c10, veC := of_decide_eq_true c11, tyC := of_decide_eq_true c12, hdC := c13, te := of_decide_eq_true c14, mC := of_decide_eq_true c15, su := eqO_ok c16, tp := eqO_ok c17, noS := mg_none_of X G (eqO_ok c18), top := htop, fn := ?_ }
  unfold fnB at c19
  unfold fnV XD.val at e
  cases q : K.lookup (ma K (ga K x.nm) "__init__") with
  | none => rw [q] at c19; cases c19
  | some o =>
    obtain ⟨oc, od, dt, osl⟩ := o
    rw [q] at c19 e
    cases dt with
    | func fd =>
      obtain ⟨n1, n2, n3, n4, n5, n6, n7, n8, n9, n10, n11, n12, n13, n14, n15⟩ := fd
      simp only [Option.some.injEq, Prod.mk.injEq] at e
      obtain ⟨h1, h3, h4, h5, h6, h8⟩ := e
      rw [eA] at h3
      rw [eB] at h4
      rw [eS] at h5
      subst h1 h3 h4 h5 h6 h8
      dsimp only at c19
      simp only [Bool.and_eq_true, decide_eq_true_eq] at c19
      obtain ⟨d1, d2, d3⟩ := c19
      subst d1 d2
      split at d3
      · rename_i cda y cc
        simp only [Bool.and_eq_true, decide_eq_true_eq] at d3
        obtain ⟨m1, m2, m3, m4⟩ := d3
        subst m1
        refine ⟨n2, oc, od, n10, n11, n12, cda, n14, cc, osl, p1, p2, q1, q2, q3, q4, q5, q6, q7, q8, q9, q10, rfl, m2, ?_, ?_, hpos⟩
        · split at m3
          · rename_i _ _ vs _ e1
            split at m3
            · rename_i file tf e2
              exact ⟨_, _, vs, _, file, tf, e1, e2, m3⟩
            · cases m3
          · cases m3
        · split at m4
          · rename_i _ _ D _ e1
            have z := of_decide_eq_true m4
            subst z
            exact ⟨_, _, _, e1⟩
          · cases m4
      · cases d3
    | _ => cases c19
/-! ### the hook -/
abbrev AlM : Type := AlD × Bool × List FnV
def obsM (n : Nat) (prog : Program) (fa : List Fa) (fn : List DefD) (xs : List XD) (ex : Frag → Bool) (g : Addr → Option Obj) : AlM :=
  (obsD fa fn (frG g (asM g n)), (xs.all fun x => xB prog (frG g (asM g n)) x) && ex (frG g (asM g n)), xs.map fun x => fnV (frG g (asM g n)) x)
def valM (fn : List DefD) (xs : List XD) : AlM := (valD fn, true, xs.map XD.val)
structure SaysM (prog : Program) (fa : List Fa) (fn : List DefD) (xs : List XD) (ex : Frag → Bool) (K : Frag) : Prop where
  d : SaysD fa fn K
  x : ∀ x ∈ xs, xB prog K x = true ∧ fnV K x = x.val
  e : ex K = true
theorem map_eq_at {α β : Type} {f g : α → β} : ∀ {l : List α}, l.map f = l.map g → ∀ x ∈ l, f x = g x
  | [], _, x, hx => by cases hx
  | a :: l, h, x, hx => by
    simp only [List.map_cons, List.cons.injEq] at h
    rcases List.mem_cons.mp hx with rfl | hx
    · exact h.1
    · exact map_eq_at h.2 x hx
theorem saysM_of {n : Nat} {prog : Program} {fa : List Fa} {fn : List DefD} {xs : List XD} {ex : Frag → Bool} {g : Addr → Option Obj} (e : obsM n prog fa fn xs ex g = valM fn xs) : SaysM prog fa fn xs ex (frG g (asM g n)) := by
  have e1 := congrArg (fun z : AlM => z.1) e
  have e2 := congrArg (fun z : AlM => z.2.1) e
  have e3 := congrArg (fun z : AlM => z.2.2) e
  obtain ⟨b1, b2⟩ := ba e2
  exact ⟨e1, fun x hx => ⟨List.all_eq_true.mp b1 x hx, map_eq_at e3 x hx⟩, b2⟩
def hookM (n : Nat) (prog : Program) (fa : List Fa) (fn : List DefD) (xs : List XD) (ex : Frag → Bool) : PySem.W.Hook where
  α := AlM
  obs := fun s => obsM n prog fa fn xs ex s.heap.get?
  val := fun _ => valM fn xs
  says := fun w h => ∃ K : PySem.W.Frag, K.In h ∧ SaysM prog fa fn xs ex K
  of := fun _ _ e => ⟨_, frG_in, saysM_of e⟩
  keeps := fun _ _ _ ⟨K, hK, c⟩ k => ⟨K, PySem.W.Frag.In.keeps hK k, c⟩
theorem obsM_eq {n : Nat} {prog : Program} {fa : List Fa} {fn : List DefD} {xs : List XD} {ex : Frag → Bool} {g : Addr → Option Obj} {s : Shared} (h : ∀ a, g a = s.heap.get? a) : obsM n prog fa fn xs ex g = (hookM n prog fa fn xs ex).obs s := by
  have e : g = s.heap.get? := funext h
  rw [e] <;> rfl
end MCH
namespace MCH
open PySem PySem.Spec PyProof.Rows L2 PySem.W He
/-! ### properties by names -/
/-- a property of a class: the class, its name, its getter -/
structure PD where
  cls : Str
  prop : Str
  qual : Str
  st : Stmt
def ppa (K : Frag) (x : PD) : Addr := ma K (ga K x.cls) x.prop
def pga (K : Frag) (x : PD) : Addr := match recIn K (ppa K x) "property" with
  | some (.ref g :: _) => g
  | _ => 0
def pFn (K : Frag) (x : PD) : FnW := match K.lookup (pga K x) with
  | some ⟨_, _, .func fd, _⟩ => some (fd.name, fd.qualname, fd.params, fd.body, fd.scope, fd.globals, fd.closure, fd.builtins)
  | _ => none
def PD.val (x : PD) : FnW := some (x.prop, x.qual, defArgs x.st, .stmts (defBody x.st), defScope x.st, mainGlobals, [], builtinsNs)
def pB (K : Frag) (x : PD) : Bool := eqO (findIn K (.ref (ga K x.cls)) x.prop) (some (some (.ref (ppa K x)))) && (eqO (specialIn K (.ref (ppa K x)) "__get__") (some (some (.builtin "property.__get__"))) && (decide (takesIn K (.ref (ppa K x)) = some true) &&
  ((match recIn K (ppa K x) "property" with | some (.ref _ :: _) => true | _ => false) && (keepIn K (.ref (pga K x)) && (match K.lookup (pga K x) with
    | some ⟨_, _, .func fd, _⟩ => codeIn K fd.code x.qual && dflB K fd.defaults []
    | _ => false)))))
theorem pB_ok {K : Frag} {x : PD} (e : pFn K x = x.val) (c : pB K x = true) : PropOf K (ga K x.cls) x.prop (ppa K x) (pga K x) ∧ ∃ fd, FunD K x.prop x.qual (defArgs x.st) (defBody x.st) (defScope x.st) [] [] (pga K x) fd := by
  obtain ⟨c1, c⟩ := ba c
  obtain ⟨c2, c⟩ := ba c
  obtain ⟨c3, c⟩ := ba c
  obtain ⟨c4, c⟩ := ba c
  obtain ⟨kp, c⟩ := ba c
  refine ⟨⟨eqO_ok c1, eqO_ok c2, of_decide_eq_true c3, ?_⟩, ?_⟩
  · unfold pga
    split at c4
    · rename_i g r q
      rw [q]
      exact ⟨r, rfl⟩
    · cases c4
  · unfold pFn at e
    cases lk : K.lookup (pga K x) with
    | none => rw [lk] at c; cases c
    | some ob =>
      obtain ⟨b1, b2, b3, b4⟩ := ob
      rw [lk] at c e
      cases b3 with
      | func fd =>
        obtain ⟨n1, n2, n3, n4, n5, n6, n7, n8, n9, n10, n11, n12, n13, n14, n15⟩ := fd
        have y : (some (n1, n2, n3, n4, n5, n6, n7, n15) : FnW) = some (x.prop, x.qual, defArgs x.st, .stmts (defBody x.st), defScope x.st, mainGlobals, [], builtinsNs) := e
        simp only [Option.some.injEq, Prod.mk.injEq] at y
        obtain ⟨y1, y2, y3, y4, y5, y6, y7, y8⟩ := y
        subst y1 y2 y3 y4 y5 y6 y7 y8
        obtain ⟨k1, k2⟩ := ba (show (codeIn K n13 x.qual && dflB K n8 []) = true from c)
        exact ⟨_, ⟨b1, b2, n8, n9, n10, n11, n12, n13, n14, b4, rfl, lk, k1, dflB_ok k2, .inl rfl⟩, kp⟩
      | _ => cases c
/-! ### the hook with errors and properties -/
abbrev AlP : Type := AlM × Bool × List FnW
def obsP (n : Nat) (prog : Program) (fa : List Fa) (fn : List DefD) (xs : List XD) (ps : List PD) (ex : Frag → Bool) (g : Addr → Option Obj) : AlP :=
  (obsM n prog fa fn xs ex g, (ps.all fun x => pB (frG g (asM g n)) x), ps.map fun x => pFn (frG g (asM g n)) x)
def valP (fn : List DefD) (xs : List XD) (ps : List PD) : AlP := (valM fn xs, true, ps.map PD.val)
structure SaysP (prog : Program) (fa : List Fa) (fn : List DefD) (xs : List XD) (ps : List PD) (ex : Frag → Bool) (K : Frag) : Prop where
  m : SaysM prog fa fn xs ex K
  p : ∀ x ∈ ps, pB K x = true ∧ pFn K x = x.val
theorem saysP_of {n : Nat} {prog : Program} {fa : List Fa} {fn : List DefD} {xs : List XD} {ps : List PD} {ex : Frag → Bool} {g : Addr → Option Obj} (e : obsP n prog fa fn xs ps ex g = valP fn xs ps) : SaysP prog fa fn xs ps ex (frG g (asM g n)) := by
  have e1 := congrArg (fun z : AlP => z.1) e
  have e2 := congrArg (fun z : AlP => z.2.1) e
  have e3 := congrArg (fun z : AlP => z.2.2) e
  exact ⟨saysM_of e1, fun x hx => ⟨List.all_eq_true.mp e2 x hx, map_eq_at e3 x hx⟩⟩
def hookP (n : Nat) (prog : Program) (fa : List Fa) (fn : List DefD) (xs : List XD) (ps : List PD) (ex : Frag → Bool) : PySem.W.Hook where
  α := AlP
  obs := fun s => obsP n prog fa fn xs ps ex s.heap.get?
  val := fun _ => valP fn xs ps
  says := fun w h => ∃ K : PySem.W.Frag, K.In h ∧ SaysP prog fa fn xs ps ex K
  of := fun _ _ e => ⟨_, frG_in, saysP_of e⟩
  keeps := fun _ _ _ ⟨K, hK, c⟩ k => ⟨K, PySem.W.Frag.In.keeps hK k, c⟩
theorem obsP_eq {n : Nat} {prog : Program} {fa : List Fa} {fn : List DefD} {xs : List XD} {ps : List PD} {ex : Frag → Bool} {g : Addr → Option Obj} {s : Shared} (h : ∀ a, g a = s.heap.get? a) : obsP n prog fa fn xs ps ex g = (hookP n prog fa fn xs ps ex).obs s := by
  have e : g = s.heap.get? := funext h
  rw [e] <;> rfl
end MCH
namespace L2
open PySem PySem.Spec PyProof.Rows
/-! ### the law's end with tables of code objects, where no repr is under way -/
section
variable {P : Program} {w : World} {K : PySem.W.Frag} {mg mb : Str → Option Value} {CX : CXT} {k : Nat} {fa a : Addr} {fd : FuncData} {x : Str} {sp : Sp} {s₁ : Shared} {vs : List Value} {ns : List Int} {cs : List (Addr × Addr)}
abbrev tab0 : Obj := { cls := .none, data := .fields #[] }
theorem law_callTG (KX : K.In s₁.heap) (hns : s₁.heap.Ns mainGlobals mg) (hb : s₁.heap.Ns builtinsNs mb) (hbb : ∀ x : Str, x ≠ "__name__" → mb x = bootBuiltins x) (hlim : s₁.heap.NoLimit) (hg : s₁.gens = #[])
    (hT : ∀ p ∈ cs, s₁.heap.get? p.2 = some tab0) (nT : ∀ p ∈ cs, K.lookup p.2 = none) (hC : ∀ p ∈ cs, PySem.W.CodeHd s₁.heap p.1 p.2)
    (hbm : ∃ (bm : Addr) (ob : Obj), mg "__builtins__" = some (.ref bm) ∧ bm ≠ builtinsNs ∧ s₁.heap.get? bm = some ob ∧ ob.cls = .type "module" ∧ ob.dict = some builtinsNs ∧ ob.data = .plain)
    (ha : s₁.heap.get? a = some { cls := .type "list", data := .seq vs.toArray }) (hi : IntsAre vs ns) (hl : ns.length ≤ sizeLine) (hr : Room k callerA)
    (F : ∀ base : Heap, K.In base → base.Ns mainGlobals mg → (∀ p ∈ cs, LamX.TabB base mg p.1 p.2) → FnG P w K mg base CX k fa fd [x] sp) (hbind : ∀ (s : Shared) (u : Value), BindsTo s fd ⟨[u], []⟩ [(x, u)])
    (hsp : ∀ H : Hp, (∀ p ∈ cs, H p.2 = some (.tbl #[])) → SqL K H a (ns.map V.int) → sp [.ref a] H (fun v _ => v = .bl true) fun _ _ _ => False)
    (hCX : ∀ H e s', CX [] H s₁ (fun _ _ _ => False) e s' → False) : LawGoal P w fa a s₁ := by
  have tabAt : ∀ b, b ∈ cs.map Prod.snd → s₁.heap.get? b = some tab0 := by
    rintro b hb'
    obtain ⟨p, hp, rfl⟩ := List.mem_map.mp hb'
    exact hT p hp
  have main : ∀ H : Hp, (∀ b ∈ cs.map Prod.snd, H b = some (.tbl #[])) → (∀ b, H b ≠ none → b ∈ cs.map Prod.snd ∨ (b = a ∧ K.lookup a = none ∧ ∃ ob ys, H b = some (.frz ob (.lst ys)))) →
      SqL K H a (ns.map V.int) → HOk P w H s₁.heap → LawGoal P w fa a s₁ := by
    intro H hH hO hS hok
    have up : ∀ {b : Addr} {o : Obj}, s₁.heap.get? b = some o → H b = none → (hidT s₁.heap H).get? b = some o := fun e n => hidT_get e n
    -- neither a list nor an empty record: untracked
    have free : ∀ {b : Addr} {o : Obj}, s₁.heap.get? b = some o → (∀ us m, o.data ≠ .seq us m) → o.data ≠ .fields #[] → H b = none := by
      intro b o e n1 n2
      refine Classical.byContradiction fun nz => ?_
      rcases hO b nz with hb' | ⟨rfl, _⟩
      · rw [tabAt b hb'] at e
        cases e
        exact n2 rfl
      · rw [ha] at e
        cases e
        exact n1 _ _ rfl
    have kind : ∀ {d d' : Data}, d = d' → (∀ us m, d' ≠ .seq us m) → d' ≠ .fields #[] → (∀ us m, d ≠ .seq us m) ∧ d ≠ .fields #[] := fun q n1 n2 => by
      rw [q]
      exact ⟨n1, n2⟩
    have nsUp : ∀ {b : Addr} {m : Str → Option Value}, s₁.heap.Ns b m → (hidT s₁.heap H).Ns b m := fun ⟨o, es, ep, e, d, r⟩ =>
      ⟨o, es, ep, up e (let z := kind d (fun _ _ q => nomatch q) (fun q => nomatch q); free e z.1 z.2), d, r⟩
    have KB : K.In (hidT s₁.heap H) := fun b o e => up (KX b o e) (Classical.byContradiction fun nz => by
      rcases hO b nz with hb' | ⟨rfl, hk, _⟩
      · obtain ⟨p, hp, rfl⟩ := List.mem_map.mp hb'
        have z := nT p hp
        rw [z] at e
        cases e
      · rw [hk] at e
        cases e)
    have TB : ∀ p ∈ cs, LamX.TabB (hidT s₁.heap H) mg p.1 p.2 := fun p hp => by
      have at2 := hT p hp
      obtain ⟨og, eg, ng, qg, dg, _⟩ := id hns
      refine { code := ?_, bm := ?_, gP := fun z => ?_ }
      · obtain ⟨o, us, y1, y2, y3, y4, y5, y6, y7, e1, r1, r2, r3, rest⟩ := hC p hp
        refine ⟨o, us, y1, y2, y3, y4, y5, y6, y7, up e1 (free e1 (fun _ _ z => ?_) fun z => ?_), r1, r2, r3, rest⟩
        · rw [r2] at z; cases z
        · rw [r2] at z
          cases z
          simp at r3
      · obtain ⟨bm, ob, b1, b2, b3, b4, b5, b6⟩ := hbm
        refine ⟨bm, ob, b1, b2, fun z => ?_, fun z => ?_, up b3 (let z := kind b6 (fun _ _ q => nomatch q) (fun q => nomatch q); free b3 z.1 z.2), b4, b5, b6⟩
        · rw [z, qg] at b3
          cases b3
          rw [dg] at b6
          cases b6
        · rw [z, at2] at b3
          cases b3
          cases b6
      · rw [z, at2] at qg
        cases qg
        cases dg
    have none0 : ∀ b : Addr, b ∉ frs ([] : List Env) := fun b z => absurd (show b ∈ ([] : List Addr) from z) (by simp)
    have E0 : Env0 P w K mg (hidT s₁.heap H) callerA [] s₁ H :=
      ⟨rfl, ⟨KB, nsUp hns, ⟨mb, nsUp hb, hbb⟩, let ⟨mc, h1, h2⟩ := hlim; ⟨mc, nsUp h1, h2⟩⟩, fun b o e => of_hidT e, Nat.le_of_eq (hidT_size _ _), trivial, fun b z => absurd z (none0 b), hok, .of_eq hg⟩
    have hT' : ∀ p ∈ cs, H p.2 = some (.tbl #[]) := fun p hp => hH _ (List.mem_map.mpr ⟨p, hp, rfl⟩)
    refine codeAny_mono ((F _ KB (nsUp hns) TB).run callerA [] s₁ H ⟨[.ref a], []⟩ [.ref a] [.ref a] _ _ rfl hr E0 (hbind s₁ (.ref a)) (.cons rfl .nil) (hsp H hT' hS)) fun r s' h => ?_
    match r, h with
    | .error e, h => exact (hCX H e s' h).elim
    | .ok .next, h => exact h.elim
    | .ok .brk, h => exact h.elim
    | .ok .cont, h => exact h.elim
    | .ok (.ret u), ⟨v, H', os, bare, un, hok', rz, q⟩ =>
      cases (show v = .bl true from q)
      cases (show u = Value.bool true from rz)
      have kept : ∀ b o, b ∉ cs.map Prod.snd → s₁.heap.get? b = some o → s'.heap.get? b = some o := by
        intro b o nb e
        cases hb' : H b with
        | none => exact un.keep b o e hb' (none0 b) (by simp)
        | some y =>
          rcases hO b (by rw [hb']; simp) with z | ⟨_, _, ob, ys, z⟩
          · exact absurd z nb
          · have o1 := (hok b _ z).1
            have o2 := (hok' b _ (un.frzs b ob _ z)).1
            rw [e] at o1
            cases o1
            exact o2
      have wider : ∀ b ∈ cs.map Prod.snd, ∃ p ∈ cs, p.2 = b ∧ ∃ more : Array Value, s'.heap.get? b = some { cls := .none, data := .fields more } := by
        intro b hb'
        obtain ⟨p, hp, rfl⟩ := List.mem_map.mp hb'
        obtain ⟨more, z⟩ := un.tbls p.2 #[] (hT' p hp)
        exact ⟨p, hp, rfl, _, hok' p.2 _ z⟩
      refine ⟨rfl, ⟨fun b o e => ?_, fun b o e => ?_⟩, os, bare⟩
      · by_cases hb' : b ∈ cs.map Prod.snd
        · obtain ⟨p, hp, rfl, more, hm⟩ := wider b hb'
          have at2 := hT p hp
          rw [at2] at e
          cases e
          exact .inr (.inl ⟨((hC p hp).tab at2).isCodeTable, rfl, #[], more, rfl, by rw [Array.empty_append]; exact hm⟩)
        · exact .inl (kept b o hb' e)
      · by_cases hb' : b ∈ cs.map Prod.snd
        · obtain ⟨p, hp, rfl, more, hm⟩ := wider b hb'
          exact ⟨_, hm⟩
        · exact ⟨o, kept b o hb' e⟩
  have rv := vals_ints hi
  have hlen := hi.length
  have aN : a ∉ cs.map Prod.snd := fun z => by
    have q := tabAt a z
    rw [ha] at q
    have d := congrArg Obj.data (Option.some.inj q)
    exact nomatch (show Data.seq vs.toArray _ = Data.fields #[] from d)
  by_cases hk : K.lookup a = none
  · refine main (fun b => if b = a then some (.frz { cls := .type "list", data := .seq vs.toArray } (.lst (ns.map V.int))) else if b ∈ cs.map Prod.snd then some (.tbl #[]) else none) (fun b hb' => ?_) (fun b nz => ?_) (.inl (.inr ⟨_, if_pos rfl⟩)) (fun b u z => ?_)
    · have nb : b ≠ a := fun z => aN (z ▸ hb')
      exact (if_neg nb).trans (if_pos hb')
    · by_cases e : b = a
      · exact .inr ⟨e, hk, _, _, if_pos e⟩
      · by_cases hb' : b ∈ cs.map Prod.snd
        · exact .inl hb'
        · exact absurd ((if_neg e).trans (if_neg hb')) nz
    · by_cases e : b = a
      · subst e
        cases (if_pos rfl).symm.trans z
        exact ⟨ha, by rw [List.length_map]; exact hl, vs, _, rv, ha⟩
      · have z' := (if_neg e).symm.trans z
        by_cases hb' : b ∈ cs.map Prod.snd
        · cases (if_pos hb').symm.trans z'
          exact tabAt b hb'
        · cases (if_neg hb').symm.trans z'
  · cases ho : K.lookup a with
    | none => exact absurd ho hk
    | some o =>
      have e := KX a o ho
      rw [ha] at e
      cases e
      refine main (fun b => if b ∈ cs.map Prod.snd then some (.tbl #[]) else none) (fun b hb' => if_pos hb') (fun b nz => ?_) (.inr ⟨_, vs.toArray, _, ho, rfl, rfl, rfl, by rw [List.size_toArray, hlen]; exact hl, by simpa using rv⟩) (fun b u z => ?_)
      · by_cases hb' : b ∈ cs.map Prod.snd
        · exact .inl hb'
        · exact absurd (if_neg hb') nz
      · by_cases hb' : b ∈ cs.map Prod.snd
        · cases (if_pos hb').symm.trans z
          exact tabAt b hb'
        · cases (if_neg hb').symm.trans z
end
/-- a law with tables -/
theorem walk_ofTG {l : PySem.W.OpenLaw} {n k : Nat} {q : Program} {loose : List Str} {XP : (Str → Option Value) → Heap → Prop} {YP : World → Heap → Prop} {d : DefRec} {CX : World → CXT} {x : Str}
    (hn : l.most = some n) (hn2 : n ≤ sizeLine) (hdf : d.params.defaults = []) (hr : Room k callerA)
    (F : ∀ (w : World) (mg : Str → Option Value) (fa : Addr) (h : Heap), YP w h → h.Ns mainGlobals mg → mg d.name = some (.ref fa) →
      ∃ (K : PySem.W.Frag) (fd : FuncData) (cs : List (Addr × Addr)) (sp : Sp), K.In h ∧ (∀ (s : Shared) (u : Value), BindsTo s fd ⟨[u], []⟩ [(x, u)]) ∧ (∀ p ∈ cs, h.get? p.2 = some tab0 ∧ K.lookup p.2 = none ∧ PySem.W.CodeHd h p.1 p.2) ∧
        (∀ (H : Hp) (a : Addr) (ns : List Int), ns.length ≤ n → (∀ p ∈ cs, H p.2 = some (.tbl #[])) → SqL K H a (ns.map V.int) → sp [.ref a] H (fun v _ => v = .bl true) fun _ _ _ => False) ∧
        ∀ base : Heap, K.In base → base.Ns mainGlobals mg → (∀ p ∈ cs, LamX.TabB base mg p.1 p.2) → FnG l.prog w K mg base (CX w) k fa fd [x] sp)
    (hCX : ∀ (w : World) (H : Hp) (s : Shared) (e : Value) (s' : Shared), CX w [] H s (fun _ _ _ => False) e s' → False) :
    PySem.W.WalkO q loose XP YP l.row.toRowW d [] (fun f vs => PySem.call f vs) := by
  refine Att.attach_call hn hdf fun w s₀ s₁ mg mb fa o pm cd doc a vs ns G Y ho hd hcd hmg hobj hints hlen hg => ?_
  obtain ⟨K, fd, cs, sp, KX, h1, ht, h2, h3⟩ := F w mg fa _ Y G.T.g hmg
  exact law_callTG KX G.T.g G.T.b G.T.builtins G.T.nolimit hg (fun p hp => (ht p hp).1) (fun p hp => (ht p hp).2.1) (fun p hp => (ht p hp).2.2) G.T.bmain hobj hints (Nat.le_trans hlen hn2) hr h3 h1 (fun H hH hS => h2 H a ns hlen hH hS) fun H e s' => hCX w H s₁ e s'
end L2
namespace MCH
open PySem PySem.Spec PyProof.Rows L2 PySem.W He
/-! ### the hook with errors, properties and empty tables -/
abbrev AlO : Type := AlP × Bool
def obK (prog : Program) (fa : List Fa) (fn : List DefD) (xs : List XD) (ps : List PD) (ex : Frag → Bool) (K : Frag) : AlP :=
  ((obsD fa fn K, (xs.all fun x => xB prog K x) && ex K, xs.map fun x => fnV K x), (ps.all fun x => pB K x), ps.map fun x => pFn K x)
def obsO (n : Nat) (prog : Program) (fa : List Fa) (fn : List DefD) (xs : List XD) (ps : List PD) (tf : List Defn) (ex : Frag → Bool) (g : Addr → Option Obj) : AlO :=
  (obK prog fa fn xs ps ex (frT g (asM g n)), tabsB g tf (frT g (asM g n)))
def valO (fn : List DefD) (xs : List XD) (ps : List PD) : AlO := (valP fn xs ps, true)
structure SaysO (prog : Program) (fa : List Fa) (fn : List DefD) (xs : List XD) (ps : List PD) (tf : List Defn) (ex : Frag → Bool) (h : Heap) (K : Frag) : Prop where
  p : SaysP prog fa fn xs ps ex K
  t : ∀ d ∈ tf, codeHdIn K (cT K d).1 (cT K d).2 = true ∧ K.lookup (cT K d).2 = none ∧ h.get? (cT K d).2 = some tab0
theorem saysO_of {n : Nat} {prog : Program} {fa : List Fa} {fn : List DefD} {xs : List XD} {ps : List PD} {tf : List Defn} {ex : Frag → Bool} {h : Heap} (e : obsO n prog fa fn xs ps tf ex h.get? = valO fn xs ps) : SaysO prog fa fn xs ps tf ex h (frT h.get? (asM h.get? n)) := by
  generalize hK : frT h.get? (asM h.get? n) = K
  have e1 : obK prog fa fn xs ps ex K = valP fn xs ps := by rw [← hK]; exact congrArg (fun z : AlO => z.1) e
  have e2 : tabsB h.get? tf K = true := by rw [← hK]; exact congrArg (fun z : AlO => z.2) e
  have m1 := congrArg (fun z : AlP => z.1.1) e1
  have m2 := congrArg (fun z : AlP => z.1.2.1) e1
  have m3 := congrArg (fun z : AlP => z.1.2.2) e1
  have p1 := congrArg (fun z : AlP => z.2.1) e1
  have p2 := congrArg (fun z : AlP => z.2.2) e1
  obtain ⟨b1, b2⟩ := ba m2
  refine ⟨⟨⟨m1, fun x hx => ⟨List.all_eq_true.mp b1 x hx, map_eq_at m3 x hx⟩, b2⟩, fun x hx => ⟨List.all_eq_true.mp p1 x hx, map_eq_at p2 x hx⟩⟩, fun d hd => ?_⟩
  obtain ⟨c1, c2⟩ := ba (List.all_eq_true.mp e2 d hd)
  cases q : h.get? (cT K d).2 with
  | none => rw [q] at c2; cases c2
  | some o =>
    rw [q] at c2
    refine ⟨c1, ?_, by rw [emptyTab_eq c2]⟩
    have z := frT_none (as := asM h.get? n) q c2
    rw [hK] at z
    exact z
def hookO (n : Nat) (prog : Program) (fa : List Fa) (fn : List DefD) (xs : List XD) (ps : List PD) (tf : List Defn) (ex : Frag → Bool) : PySem.W.Hook where
  α := AlO
  obs := fun s => obsO n prog fa fn xs ps tf ex s.heap.get?
  val := fun _ => valO fn xs ps
  says := fun w h => ∃ K : PySem.W.Frag, K.In h ∧ SaysO prog fa fn xs ps tf ex h K
  of := fun _ _ e => ⟨_, frT_in, saysO_of e⟩
  keeps := fun _ _ _ ⟨K, hK, c⟩ k => ⟨K, PySem.W.Frag.In.keeps hK k, ⟨c.p, fun d hd => let ⟨z1, z2, z3⟩ := c.t d hd; ⟨z1, z2, k _ _ z3⟩⟩⟩
theorem obsO_eq {n : Nat} {prog : Program} {fa : List Fa} {fn : List DefD} {xs : List XD} {ps : List PD} {tf : List Defn} {ex : Frag → Bool} {g : Addr → Option Obj} {s : Shared} (h : ∀ a, g a = s.heap.get? a) : obsO n prog fa fn xs ps tf ex g = (hookO n prog fa fn xs ps tf ex).obs s := by
  have e : g = s.heap.get? := funext h
  rw [e] <;> rfl
end MCH
namespace PySem
namespace MEX
open PySem.W PySem.Calls PyProof.Rows PySem.HandSPX
/-! ### own errors straight over a built-in one, made with keywords, too -/
structure BaseE (B newId initId : String) (bm : List Value) : Prop where
  F : ExcBaseFacts B newId initId bm
  KF : KxsFacts B initId
  pass : ∀ self : Value, refuseLoop self "__setattr__" bm = pure ()
  ob : bm.contains (.type "object") = true
abbrev bmV : List Value := [.type "ValueError", .type "Exception", .type "BaseException", .type "object"]
abbrev bmL : List Value := [.type "LookupError", .type "Exception", .type "BaseException", .type "object"]
abbrev bmO : List Value := [.type "OverflowError", .type "ArithmeticError", .type "Exception", .type "BaseException", .type "object"]
abbrev bmR : List Value := [.type "RuntimeError", .type "Exception", .type "BaseException", .type "object"]
theorem baseV : BaseE "ValueError" "ValueError.__new__" "ValueError.__init__" bmV := ⟨F.excBase_ValueError, kxs_ValueError, F.store_ValueError.passes, by decide +kernel⟩
theorem baseL : BaseE "LookupError" "LookupError.__new__" "LookupError.__init__" bmL := ⟨F.excBase_LookupError, kxs_LookupError, F.store_LookupError.passes, by decide +kernel⟩
theorem baseO : BaseE "OverflowError" "OverflowError.__new__" "OverflowError.__init__" bmO := ⟨F.excBase_OverflowError, kxs_OverflowError, F.store_OverflowError.passes, by decide +kernel⟩
theorem baseR : BaseE "RuntimeError" "RuntimeError.__new__" "RuntimeError.__init__" bmR := ⟨F.excBase_RuntimeError, kxs_RuntimeError, F.store_RuntimeError.passes, by decide +kernel⟩
section
variable {M : Model} {A : Around} {E : Value → Shared → Prop} {h : Heap} {g : Array GenState} {d : Drawn} {t : Nat} {os : OsState}
variable {nm q : Str} {C N : Addr} {bs bm : List Value} {hdct : Bool} {sn : List Str} {sub : List Value} {ab : Bool} {col : Option Bool} {dd : Option Addr} {k0 k1 k2 k3 k5 : Option Value} {B newId initId : String}
theorem check_new_kw (F : ExcBaseFacts B newId initId bm) {rest : List Value} {kw : List (Str × Value)} {Q : Unit → Shared → Prop}
    (hC : h.get? C = some (excClassObj nm q C N bs bm hdct sn sub ab col dd k0 k1 k2 k3 k5 newId)) (hq : Q () ⟨h, g, d, t, os⟩) : wpAny M A (checkBuiltinCall newId ⟨.ref C :: rest, kw⟩) Q E ⟨h, g, d, t, os⟩ := by
  have hcont : (Value.ref C :: bm).contains (.type B) = true := by rw [List.contains_cons, F.hasB, Bool.or_true]
  have hstar := F.noStar
  simp only [checkBuiltinCall, F.newKind, F.newSplit, F.newRow]
  repeat (first | refine wpAny_loadPart_at hC ?_ | (refine wpAny_isSubtype_exc hC ?_; rw [hcont]) | refine wpAny_staticBase_exc hC ?_ | refine wpAny_madeBy_exc hC ?_ | simp only [bne_self_eq_false, Bool.false_eq_true, if_false] | wp_step)
  exact hq
theorem check_type_kw {rest : List Value} {kw : List (Str × Value)} {Q : Unit → Shared → Prop} (hC : h.get? C = some (excClassObj nm q C N bs bm hdct sn sub ab col dd k0 k1 k2 k3 k5 newId))
    (hq : Q () ⟨h, g, d, t, os⟩) : wpAny M A (checkBuiltinCall "type.__call__" ⟨.ref C :: rest, kw⟩) Q E ⟨h, g, d, t, os⟩ := by
  have f3 := tc_sub
  have hT : (⟨h, g, d, t, os⟩ : Shared).TypeIs (.ref C) "type" := ⟨_, hC, rfl⟩
  simp only [checkBuiltinCall, tc_kind, tc_split]
  repeat (any_goals (first | assumption | with_reducible refine wpAny_loadPart_at hC ?_ | with_reducible refine wpAny_onRaise ?_ | with_reducible refine wpAny_map ?_ | wp_step))
end
section
variable {prog : Program} {w : World} {A : Around} {E : Value → Shared → Prop} {R : Result → Shared → Prop} {h : Heap} {g : Array GenState} {d : Drawn} {t : Nat} {os : OsState}
variable {nm q : Str} {C N : Addr} {bs bm : List Value} {hdct : Bool} {sn : List Str} {sub : List Value} {ab : Bool} {col : Option Bool} {dd : Option Addr} {k0 k1 k2 k3 k5 : Option Value} {B newId initId : String}
theorem new_kw (F : ExcBaseFacts B newId initId bm) {rest : List Value} {kw : List (Str × Value)}
    (hC : h.get? C = some (excClassObj nm q C N bs bm hdct sn sub ab col dd k0 k1 k2 k3 k5 newId))
    (hq : R (.ok (.ret (.ref (h.objs.size + 1)))) ⟨(h.push { cls := .type "tuple", data := .seq rest.toArray }).push
      { cls := .ref C, data := .fields #[.ref h.objs.size, .none, .none, .none, .bool false, .none] }, g, d, t, os⟩) (hrest : rest.length ≤ sizeLine) :
    codeAny (model prog w) A (.builtin newId ⟨.ref C :: rest, kw⟩) R ⟨h, g, d, t, os⟩ := by
  have hends := F.ends
  have hcB : (Value.ref C :: bm).contains (.type B) = true := by rw [List.contains_cons, F.hasB, Bool.or_true]
  have hcA : (Value.ref C :: bm).contains (.type "AttributeError") = false := by rw [List.contains_cons, F.noAttr]; rfl
  have hcN : (Value.ref C :: bm).contains (.type "NameError") = false := by rw [List.contains_cons, F.noName]; rfl
  refine codeAny_builtinAt F.entry ?_
  unfold Builtin.«BaseException.__new__»
  refine wpAt_bind ?_
  show wpAt _ _ _ (stack >>= _) _ _ _
  refine wpAt_bind (wpAt_stack fun p below => wpAt_of_wpAny ?_)
  wp_walk
  refine wpAt_of_wpAny ?_
  rw [F.owner]
  repeat (first | with_reducible refine wpAny_madeHere_exc F.canon hC ?_ | with_reducible refine wpAny_loadPart_at hC ?_ | (with_reducible refine wpAny_isSubtype_exc hC ?_; first | rw [hcB] | rw [hcA] | rw [hcN]) | wp_step)
  show R _ _
  rw [Heap.size_push]
  exact hq
theorem type_call_kw (F : ExcBaseFacts B newId initId bm) {rest : List Value} {kw : List (Str × Value)} {fI : Addr} {Q : Fin → Shared → Prop}
    (hC : h.get? C = some (excClassObj nm q C N bs bm hdct sn sub ab col dd k0 k1 k2 k3 k5 newId))
    (hi : W.Looks (model prog w) h (typeLookup (.ref C) "__init__") (some (.ref fI))) (hb : ∀ self, W.Looks (model prog w) h (bindSpecial (.ref fI) self) (.ref fI, [self])) (hrest : rest.length ≤ sizeLine)
    (hq : codeAny (model prog w) A (.call (.ref fI) ⟨.ref (h.objs.size + 1) :: rest, kw⟩)
      (fun r s' => match r with | .ok (.ret v) => v = .none ∧ Q (.done (.ret (.ref (h.objs.size + 1)))) s' | .ok _ => False | .error e => E e s')
      ⟨(h.push (W.kdv_tup rest)).push (excO C h.objs.size), g, d, t, os⟩) :
    wpAny (model prog w) A (Builtin.«type.__call__» ⟨.ref C :: rest, kw⟩) Q E ⟨h, g, d, t, os⟩ := by
  repeat (first | with_reducible refine wpAny_loadPart_at hC ?_ | with_reducible refine wpAny_madeBy_exc hC ?_ | wp_step)
  refine codeAny_call_builtin_code (Code.quiet_builtin _ F.quiet) (check_new_kw F hC ?_)
  refine new_kw F hC ?_ hrest
  show wpAny _ _ _ _ _ _
  have k : ∀ b o, h.get? b = some o → ((h.push (W.kdv_tup rest)).push (excO C h.objs.size)).get? b = some o := fun b o e => Heap.get?_push_of_some _ (Heap.get?_push_of_some _ e)
  have hC₁ := k _ _ hC
  have hget : ((h.push (W.kdv_tup rest)).push (excO C h.objs.size)).get? (h.objs.size + 1) = some (excO C h.objs.size) := by heap_get
  have hcC : (Value.ref C :: bm).contains (.ref C) = true := by simp
  have i1 := hi.keeps k
  have b1 := (hb (.ref (h.objs.size + 1))).keeps k
  unfold isInstance
  repeat (first | with_reducible refine wpAny_loadPart_at hget ?_ | (with_reducible refine wpAny_isSubtype_exc hC₁ ?_; rw [hcC]) | wp_step)
  show wpAny _ _ (typeLookup (.ref C) _) _ _ _
  refine i1.at ?_
  refine wpAny_holding (wpAny_bind (b1.at ?_))
  refine wpAny_bind (wpAny_call (codeAny_mono hq fun r s' z => ?_))
  rcases r with e | (v | _ | _ | _) <;> first | exact z | exact z.elim | skip
  obtain ⟨rfl, z⟩ := z
  first
    | exact wpAny_pure (wpAny_pure z)
    | (wp_walk; exact z)
theorem call_kw (F : ExcBaseFacts B newId initId bm) {rest : List Value} {kw : List (Str × Value)} {fI : Addr}
    (hC : h.get? C = some (excClassObj nm q C N bs bm hdct sn sub ab col dd k0 k1 k2 k3 k5 newId))
    (hi : W.Looks (model prog w) h (typeLookup (.ref C) "__init__") (some (.ref fI))) (hb : ∀ self, W.Looks (model prog w) h (bindSpecial (.ref fI) self) (.ref fI, [self])) (hrest : rest.length ≤ sizeLine)
    (hq : codeAny (model prog w) (A.under (.builtin "type.__call__" ⟨.ref C :: rest, kw⟩)) (.call (.ref fI) ⟨.ref (h.objs.size + 1) :: rest, kw⟩) (W.InitBack (h.objs.size + 1) R)
      ⟨(h.push (W.kdv_tup rest)).push (excO C h.objs.size), g, d, t, os⟩) :
    codeAny (model prog w) A (.call (.ref C) ⟨rest, kw⟩) R ⟨h, g, d, t, os⟩ := by
  have f1 := tc_lookup
  have f2 := tc_bind (.ref C)
  have hTy : (⟨h, g, d, t, os⟩ : Shared).TypeIs (.ref C) "type" := ⟨_, hC, rfl⟩
  refine codeAny_of_tree ?_
  show wpAny _ _ (callAny (.ref C) _) _ _ _
  repeat (any_goals (first | assumption | with_reducible refine wpAny_loadPart_at hC ?_ | wp_step))
  refine ⟨rfl, ?_⟩
  refine codeAny_call_builtin_at (Code.quiet_builtin _ (by decide +kernel)) entry_typeCall (check_type_kw hC (type_call_kw F hC hi hb hrest ?_))
  refine codeAny_mono hq fun r s' z => ?_
  rcases r with e | (v | _ | _ | _) <;> exact z
end
/-! ### stores into an error over any of these -/
section
open Builtin Builtin.ObjectAttr
variable {prog : Program} {w : World} {A : Around} {E : Value → Shared → Prop} {R : Result → Shared → Prop} {hp : Heap} {g : Array GenState} {d : Drawn} {t : Nat} {os : OsState}
theorem osa_new {K : W.Frag} {name : Str} {tk : Tok} {v : Value} {x C : Addr} {fv : Array Value} {cd : ClassData}
    (X : K.In hp) (hx : hp.get? x = some { cls := .ref C, data := .fields fv }) (hcd : W.clsIn K C = some cd) (hm : refuseLoop (.ref x) "__setattr__" cd.mro = pure ()) (ne : cd.mro.isEmpty = false) (hob : cd.mro.contains (.type "object") = true) (hh : cd.hasDict = true) (ha : W.findIn K (.ref C) name = some none)
    (hq : ∀ h' tk' dx, (∀ b o, b ≠ x → hp.get? b = some o → h'.get? b = some o) → hp.objs.size ≤ dx → dx ≠ x → h'.get? x = some { cls := .ref C, dict := some dx, data := .fields fv } →
      h'.Ns1 dx (fun y => if y = name then some v else none) → R (.ok (.ret .none)) ⟨h', g, d, tk', os⟩) :
    codeAny (model prog w) A (.call (.builtin "object.__setattr__") ⟨[.ref x, .str name tk, v], []⟩) R ⟨hp, g, d, t, os⟩ := by
  have I : W.InstAt hp x { cls := .ref C, data := .fields fv } C none := ⟨hx, rfl, rfl, trivial⟩
  have SF := F.store_object
  have hxs : x ≠ hp.objs.size := Nat.ne_of_lt (Heap.lt_size hx)
  have sub : W.Looks (model prog w) hp (isInstance (.ref x) (.type "object")) true := I.type.andThen (W.looks_mroIn X (by unfold W.mroIn; rw [hcd, Option.bind_some, if_neg (by rw [ne]; decide), hob]))
  refine codeAny_call_builtin SF.slot.plain SF.entry (@W.check_slot (model prog w) _ _ ⟨hp, g, d, t, os⟩ "object.__setattr__" "object" "__setattr__" (.ref x) [.str name tk, v] [] _ SF.kind SF.split sub (SF.args (.ref x) (.str name tk) v) ?_)
  have hmr : W.Looks (model prog w) hp (mroOf (.ref C)) cd.mro := (W.looks_clsIn X hcd).andThen .now
  have L3 : W.Looks (model prog w) hp (storeTaker? none) none := .now
  have hcls : W.Looks (model prog w) hp (classData C) cd := W.looks_clsIn X hcd
  rw [W.osa_eq, refuse_eq]
  refine wpAny_bind (wpAny_bind (I.type.at (wpAny_bind (hmr.at ?_))))
  rw [hm]
  refine wpAny_pure (wpAny_bind (I.type.at (wpAny_bind ((W.looks_findIn X ha).at (wpAny_bind (L3.at ?_))))))
  show wpAny _ _ (storeInOwnDict (.ref x) (.ref C) (.str name tk) name v false) _ _ _
  obtain ⟨nm, bs, mro, ns, qn, hd, sn, sb, ab, col, del⟩ := cd
  dsimp only at hh
  subst hh
  unfold storeInOwnDict ownDictForStores
  repeat (first | with_reducible refine store_in_new ?_ ?_ | with_reducible refine wpAny_loadPart_at hx ?_ | with_reducible refine hcls.at ?_ | wp_step)
  · exact ⟨_, #[], _, (Heap.get?_update_ne _ _ _ _ hxs.symm).trans (Heap.get?_push_at rfl rfl), rfl, fun e he => absurd he (by simp), fun _ => rfl⟩
  · intro h' tk' hn' hs
    have hx₁ : (hp.push { cls := .type "dict", data := .dict #[] }).get? x = some { cls := .ref C, data := .fields fv } := Heap.get?_push_of_some _ hx
    refine hq h' tk' hp.objs.size (fun b o hb ho => ?_) (Nat.le_refl _) hxs.symm ?_ hn'
    · exact (hs.2 b (Nat.ne_of_lt (Heap.lt_size ho))).trans ((Heap.get?_update_ne _ _ _ _ hb).trans (Heap.get?_push_of_some _ ho))
    · exact (hs.2 x hxs).trans (Heap.get?_update_self _ hx₁ rfl)
theorem osa_oldB {K : W.Frag} {name : Str} {tk : Tok} {v : Value} {x C dx : Addr} {fv : Array Value} {cd : ClassData} {m0 : Str → Option Value} {nl : List Str}
    (X : K.In hp) (hx : hp.get? x = some { cls := .ref C, dict := some dx, data := .fields fv }) (hns : hp.Ns1 dx m0) (hw : Within m0 nl) (hz : nl.length ≤ 1000) (hcd : W.clsIn K C = some cd) (hm : refuseLoop (.ref x) "__setattr__" cd.mro = pure ()) (ne : cd.mro.isEmpty = false) (hob : cd.mro.contains (.type "object") = true) (hh : cd.hasDict = true)
    (ha : W.findIn K (.ref C) name = some none)
    (hq : ∀ h' tk', (∀ b o, b ≠ dx → hp.get? b = some o → h'.get? b = some o) → h'.Ns1 dx (fun y => if y = name then some v else m0 y) → R (.ok (.ret .none)) ⟨h', g, d, tk', os⟩) :
    codeAny (model prog w) A (.call (.builtin "object.__setattr__") ⟨[.ref x, .str name tk, v], []⟩) R ⟨hp, g, d, t, os⟩ := by
  obtain ⟨oD, esD, epD, hoD, hdD, _⟩ := hns.count hw
  have I : W.InstAt hp x { cls := .ref C, dict := some dx, data := .fields fv } C (some oD) := ⟨hx, rfl, rfl, hoD⟩
  have SF := F.store_object
  have sub : W.Looks (model prog w) hp (isInstance (.ref x) (.type "object")) true := I.type.andThen (W.looks_mroIn X (by unfold W.mroIn; rw [hcd, Option.bind_some, if_neg (by rw [ne]; decide), hob]))
  refine codeAny_call_builtin SF.slot.plain SF.entry (@W.check_slot (model prog w) _ _ ⟨hp, g, d, t, os⟩ "object.__setattr__" "object" "__setattr__" (.ref x) [.str name tk, v] [] _ SF.kind SF.split sub (SF.args (.ref x) (.str name tk) v) ?_)
  have hmr : W.Looks (model prog w) hp (mroOf (.ref C)) cd.mro := (W.looks_clsIn X hcd).andThen .now
  have L3 : W.Looks (model prog w) hp (storeTaker? none) none := .now
  have hcls : W.Looks (model prog w) hp (classData C) cd := W.looks_clsIn X hcd
  rw [W.osa_eq, refuse_eq]
  refine wpAny_bind (wpAny_bind (I.type.at (wpAny_bind (hmr.at ?_))))
  rw [hm]
  refine wpAny_pure (wpAny_bind (I.type.at (wpAny_bind ((W.looks_findIn X ha).at (wpAny_bind (L3.at ?_))))))
  show wpAny _ _ (storeInOwnDict (.ref x) (.ref C) (.str name tk) name v false) _ _ _
  obtain ⟨nm, bs, mro, ns, qn, hd, sn, sb, ab, col, del⟩ := cd
  dsimp only at hh
  subst hh
  unfold storeInOwnDict ownDictForStores
  repeat (first | with_reducible refine PySem.OEX.store_in_old hns hw hz ?_ | with_reducible refine wpAny_loadPart_at hx ?_ | with_reducible refine hcls.at ?_ | wp_step)
  intro h' tk' hn' hs
  exact hq h' tk' (fun b o hb ho => (hs.2 b hb).trans ho) hn'
end
end MEX
end PySem
namespace PySem
namespace MEX
open PySem.W PySem.Calls PyProof.Rows PySem.HandSPX
/-- what the written part says of the class at C, straight over B -/
structure ECls (prog : Program) (K : Frag) (mg : Str → Option Value) (nm : Str) (C fI : Addr) (B newId initId : String) (bm : List Value) : Prop where
  base : BaseE B newId initId bm
  gC : mg nm = some (.ref C)
  cls : ∃ nm q N bs sn sub ab col dd k0 k1 k2 k3 k5, K.lookup C = some (excClassObj nm q C N bs bm true sn sub ab col dd k0 k1 k2 k3 k5 newId)
  sa : findIn K (.ref C) "__setattr__" = some (some (.builtin "object.__setattr__"))
  ga : findIn K (.ref C) "__getattribute__" = some (some (.builtin "BaseException.__getattribute__"))
  gg : findIn K (.ref C) "__getattr__" = some none
  iC : findIn K (.ref C) "__init__" = some (some (.ref fI))
  tC : typeIn K (.ref fI) = some (.type "function")
  kC : keepIn K (.ref C) = true
  exC : subIn K (.ref C) (.type "BaseException") = some true
  beC : subIn K (.ref C) (.type B) = some true
  hdC : hasDictIn K C = true
  mC : mroIn K C (.ref C) = some true
  su : ks_superIn K C C "__init__" = some (some (.builtin initId))
  tp : nsIn K cStatics "thirdparty.any" = some none
  noS : mg "super" = none
  top : (prog.main.scope.names.lookup ("super" : Str)).isSome = false
  cl1 : findIn K (.ref C) "__class__" = some (some (.builtin "object.__class__"))
  cl2 : specialIn K (.builtin "object.__class__") "__get__" = some (some (.builtin "getset_descriptor.__get__"))
  cl3 : takesIn K (.builtin "object.__class__") = some true
  cl4 : mroIn K C (.type "object") = some true
/-- what __init__ leaves of a fresh error at x -/
structure InitN (fs : List (Str × Value)) (h h' : Heap) (x C t1 : Addr) (d : Option Addr) : Prop where
  keep : ∀ b o, b ≠ x → h.get? b = some o → h'.get? b = some o
  obj : h'.get? x = some { cls := .ref C, dict := d, data := .fields #[.ref t1, .none, .none, .none, .bool false, .none] }
  dict : match d with
    | none => fs = []
    | some dx => h.objs.size ≤ dx ∧ dx ≠ x ∧ h'.Ns1 dx (fun y => fs.lookup y)
/-- a made error -/
structure MadeN (fs : List (Str × Value)) (h h' : Heap) (e C : Addr) (d : Option Addr) : Prop where
  keep : ∀ b o, h.get? b = some o → h'.get? b = some o
  new : h.objs.size ≤ e
  obj : ∃ t1, h'.get? e = some { cls := .ref C, dict := d, data := .fields #[.ref t1, .none, .none, .none, .bool false, .none] }
  dict : match d with
    | none => fs = []
    | some dx => h.objs.size ≤ dx ∧ dx ≠ e ∧ h'.Ns1 dx (fun y => fs.lookup y)
theorem lk1 (f : Str) (v : Value) : (fun y => if y = f then some v else none) = (fun y => List.lookup y [(f, v)]) := by
  funext y
  by_cases h : y = f
  · subst h; simp [List.lookup]
  · have q : (y == f) = false := by simpa using h
    simp [List.lookup, q, h]
theorem lk2 (f g : Str) (v u : Value) : (fun y => if y = g then some u else List.lookup y [(f, v)]) = (fun y => List.lookup y [(g, u), (f, v)]) := by
  funext y
  by_cases h : y = g
  · subst h; simp [List.lookup]
  · have q : (y == g) = false := by simpa using h
    simp [List.lookup, q, h]
def iA0 (p0 : Pos) : Arguments := { posonlyargs := [], args := [{ arg := "self", annotation := none, pos := p0 }], vararg := none, kwonlyargs := [], kw_defaults := [], kwarg := none, defaults := [] }
def iB0 (q1 q2 q3 q5 q6 : Pos) : List Stmt := [.Expr (.Call (.Attribute (.Call (.Name "super" q1) [] [] q2) "__init__" q3) [] [] q5) q6]
def iS0 : Scope := { kind := .function, names := [(PySem.Str.ofString "self", .local), (PySem.Str.ofString "__class__", .free), (PySem.Str.ofString "super", .globalImplicit)], isGenerator := false, isCoroutine := false, more := [] }
structure FOk0 : Prop where
  lc : iS0.names.lookup ("__class__" : Str) = some .free
  ls : iS0.names.lookup ("super" : Str) = some .globalImplicit
  bp : ∀ (qual : Str) (p0 : Pos) (body : List Stmt) (doc pm : Value) (an : Option Addr) (cd ct : Value) (cc : Addr) (x : Value), bindArgs (ksFn "__init__" qual (iA0 p0) body iS0 .none .none doc pm an cd ct cc) ⟨[x], []⟩ = pure ([(("self" : Str), x)] : List (Str × Value))
structure EFn0 (prog : Program) (K : Frag) (C fI : Addr) : Prop where
  fok : FOk0
  fn : ∃ (qual : Str) (oc : Value) (od : Option Addr) (doc pm : Value) (an : Option Addr) (cda : Addr) (ct : Value) (cc : Addr) (osl : Array (Option Value)) (p0 q1 q2 q3 q5 q6 : Pos),
    K.lookup fI = some ⟨oc, od, .func (ksFn "__init__" qual (iA0 p0) (iB0 q1 q2 q3 q5 q6) iS0 .none .none doc pm an (.ref cda) ct cc), osl⟩ ∧ codeIn K (.ref cda) qual = true ∧
    (∃ ccl cdd vs ccs file tf, K.lookup cda = some ⟨ccl, cdd, .fields vs, ccs⟩ ∧ vs[2]? = some (.str file tf) ∧ ((prog.main.file : Str) == file) = true) ∧
    (∃ cl cld csl, K.lookup cc = some ⟨cl, cld, .cell (some (.ref C)), csl⟩) ∧ (q3.endLine == q5.line) = true
section
variable {prog : Program} {w : World} {A : Around} {E : Value → Shared → Prop} {R : Result → Shared → Prop} {s : Shared} {K : Frag} {mg : Str → Option Value} {nm : Str} {C fI : Addr} {B newId initId : String} {bm : List Value}
theorem sup_init0 (T : ECls prog K mg nm C fI B newId initId bm) (G : EFn0 prog K C fI ) {x t0 : Addr} {args : Args} (hbd : ∀ (qual : Str) (p0 : Pos) (body : List Stmt) (doc pm : Value) (an : Option Addr) (cd ct : Value) (cc : Addr), bindArgs (ksFn "__init__" qual (iA0 p0) body iS0 .none .none doc pm an cd ct cc) args = pure ([(("self" : Str), Value.ref x)] : List (Str × Value)))
    (X : K.In s.heap) (hlim : s.heap.NoLimit) (hx : s.heap.get? x = some (excO C t0)) (hnx : K.lookup x = none) (hroom : A.depth < recursionLimit)
    (hG : s.heap.Ns mainGlobals mg) (hB : ∃ mb, s.heap.Ns builtinsNs mb ∧ ∀ x : Str, x ≠ "__name__" → mb x = bootBuiltins x)
    (hq : ∀ h' tk d t1, InitN [] s.heap h' x C t1 d → R (.ok (.ret .none)) { s with heap := h', toks := tk }) :
    codeAny (model prog w) A (.call (.ref fI) args) R s := by
  obtain ⟨qual, oc, od, doc, pm, an, cda, ct, cc, osl, p0, q1, q2, q3, q5, q6, hl, hcd, ⟨ccl, cdd, vs, ccs, file, tf, hcode, hvs, hfile⟩, ⟨cl, cld, csl, hcell⟩, hpos⟩ := G.fn
  obtain ⟨cnm, q, N, bs, sn, sub, ab, col, dd, k0, k1, k2, k3, k5, hC⟩ := T.cls
  obtain ⟨mb, hBn, hBv⟩ := hB
  have hcl : clsIn K C = some { name := cnm, bases := bs, mro := .ref C :: bm, ns := N, qualname := q, hasDict := true, slotNames := sn, subclasses := sub, abstract := ab, collection := col, hasDel := false } := by unfold clsIn; rw [hC] <;> rfl
  obtain ⟨hp, g, d, tk, os⟩ := s
  refine ks_codeAny_call_defAt (fd := ksFn "__init__" qual (iA0 p0) (iB0 q1 q2 q3 q5 q6) iS0 .none .none doc pm an (.ref cda) ct cc) (body := (iB0 q1 q2 q3 q5 q6)) (binds := [(("self" : Str), Value.ref x)]) hroom (X _ _ hl) rfl hlim (codeRec_of X hcd) rfl (BindsTo.of_eq (hbd _ _ _ _ _ _ _ _ _)) ?hce ?hlo (fun h₁ hns hk₁ => ?_) rfl rfl rfl
  case hce => intro y hy; simp only [iS0, List.mem_cons, List.not_mem_nil, or_false] at hy; rcases hy with rfl | rfl | rfl <;> simp
  case hlo =>
    intro y hy
    simp only [List.mem_cons, List.not_mem_nil, or_false] at hy
    subst hy; rfl
  have X₁ : K.In h₁ := X.keeps hk₁
  have hx₁ := hk₁ _ _ hx
  have mself : (fun y => ([("self", Value.ref x)] : List (Str × Value)).reverse.lookup y) "self" = some (.ref x) := by simp [List.lookup]
  have hns' : Heap.Ns h₁ hp.objs.size (fun y => ([("self", Value.ref x)] : List (Str × Value)).reverse.lookup y) := hns
  have I₁ : InstAt h₁ x (excO C t0) C none := ⟨hx₁, rfl, rfl, trivial⟩
  show _root_.PySem.wpAt _ _ _ (execs (iB0 q1 q2 q3 q5 q6) (ksEnv qual iS0 hp.objs.size fI (.ref cda) cc)) _ _ _
  have hmc : ∀ ov, methodCall (.Call (.Name "super" q1) [] [] q2) "__init__" q3 q5 (ksEnv qual iS0 hp.objs.size fI (.ref cda) cc) ov 0 (backTo q5 (starEach [] (ksEnv qual iS0 hp.objs.size fI (.ref cda) cc))) [] = (do
      let (ff, first) ← holding [ov] (getMethod ov "__init__" (L2.plainOf (.Call (.Name "super" q1) [] [] q2) (ksEnv qual iS0 hp.objs.size fI (.ref cda) cc)))
      callWith q5 ff first (backTo q5 (starEach [] (ksEnv qual iS0 hp.objs.size fI (.ref cda) cc))) []) := fun ov => L2.mcall_line rfl hpos
  refine ks_wpAt_execs_cons (ks_wpAt_Expr_any (ks_wpAt_MethodCall (pl := L2.plainOf (.Call (.Name "super" q1) [] [] q2) (ksEnv qual iS0 hp.objs.size fI (.ref cda) cc)) ?_ ?he))
  case he =>
    show (do
      let ov ← attributeBase (.Call (.Name "super" q1) [] [] q2) "__init__" (ksEnv qual iS0 hp.objs.size fI (.ref cda) cc) (eval (.Call (.Name "super" q1) [] [] q2) (ksEnv qual iS0 hp.objs.size fI (.ref cda) cc))
      standAt q3.atName
      methodCall (.Call (.Name "super" q1) [] [] q2) "__init__" q3 q5 (ksEnv qual iS0 hp.objs.size fI (.ref cda) cc) ov 0 (backTo q5 (starEach [] (ksEnv qual iS0 hp.objs.size fI (.ref cda) cc))) []) = _
    simp only [hmc]
  refine ks_wpAt_super_base (env := ksEnv qual iS0 hp.objs.size fI (.ref cda) cc) (f := fI) (cc := cda) G.fok.ls G.fok.lc (by decide) rfl (X₁ _ _ hl) rfl rfl rfl (X₁ _ _ hcode) rfl hvs hfile T.top ?_
  refine ks_loadName_global rfl G.fok.ls (loadGlobal_builtin (env := ksEnv qual iS0 hp.objs.size fI (.ref cda) cc) (hG.keeps hk₁) T.noS (hBn.keeps hk₁) ((hBv _ (by decide +kernel)).trans (by first | rfl | decide +kernel | kernel_rfl)) ⟨rfl, ?_⟩)
  refine wpAny_loadName_free rfl G.fok.lc rfl ⟨_, X₁ _ _ hcell, rfl⟩ ?_
  refine wpAny_loadName_local rfl rfl hns' mself ?_
  refine ks_wpAny_isType_cls (X₁ _ _ hC) rfl ⟨rfl, ?_⟩
  refine ks_wpAny_call_super (X₁ _ _ hC) rfl hx₁ rfl (fun c e => by cases e) (looks_mroIn X₁ T.mC) (fun h₂ e₂ k₂ => ?_)
  have X₂ : K.In h₂ := X₁.keeps k₂
  have hx₂ := k₂ _ _ hx₁
  have I₂ : InstAt h₂ x (excO C t0) C none := ⟨hx₂, rfl, rfl, trivial⟩
  have hns₂ := hns'.keeps k₂
  have hal : alongIn K "__init__" (((Value.ref C :: bm).dropWhile (· != .ref C)).drop 1) = some (some (.builtin initId)) := by
    have z := T.su
    unfold ks_superIn at z
    rw [hcl] at z
    exact z
  refine kxs_getMethod T.base.KF (so := h₁.objs.size) (D := C) (x := x) (C := C) (l₀ := .ref C :: bm) (K := K) e₂ (looks_opaque X₂ T.tp) (fun A Q E s k q => wpAny_bind ((looks_clsIn X₂ hcl) A _ E s k (wpAny_pure q))) rfl X₂ hal (I₂.type.andThen (looks_subIn X₂ T.beC)) (ks_ne X₂ I₂ hcl) (by decide) ?_
  have k₃ : ∀ b o, h₂.get? b = some o → (h₂.push (kxs_mw initId x)).get? b = some o := fun b o e => Heap.get?_push_of_some _ e
  have hmw : (h₂.push (kxs_mw initId x)).get? h₂.objs.size = some (kxs_mw initId x) := Heap.get?_push_at rfl rfl
  refine kxs_callWith (i := initId) (x := x) rfl (evalArgs_empty ⟨hmw, ?_⟩)
  have FB := T.base.F
  refine wpAny_call (codeAny_of_tree ?_)
  show wpAny _ _ (callAny (.ref h₂.objs.size) ⟨[], []⟩) _ _ _
  simp only [callAny]
  refine wpAny_bind (wpAny_load hmw ?_)
  simp only [kxs_mw, show (Value.type "method-wrapper" == Value.type "method" || Value.type "method-wrapper" == Value.type "builtin_function_or_method" || Value.type "method-wrapper" == Value.type "method-wrapper") = true by decide, if_true]
  refine KFB.if_so (by decide) ?_
  refine wpAny_bind (check_bound_init FB.toExcCallFacts (k₃ _ _ (X₂ _ _ hC)) (k₃ _ _ hx₂) rfl ?_)
  refine wpAny_bind (wpAny_pure (wpAny_pure ?_))
  refine ⟨plainId_quiet FB.init.plain _, codeAny_builtin FB.initEntry ?_⟩
  refine exc_init_tree (cls := .ref C) (t0 := t0) (dv := none) (c2 := .none) (c3 := .none) (b4 := .bool false) (k₃ _ _ hx₂) (by rw [sizeLine_eq]; exact (by decide : 0 ≤ 16777216)) fun h₄ k₄ hx₄ _ => ?_
  have hxL : hp.objs.size ≠ x := Nat.ne_of_gt (Heap.lt_size hx)
  have X₄ : K.In h₄ := fun a o e => k₄ a o (fun z => by rw [z, hnx] at e; cases e) (k₃ a o (X₂ a o e))
  have kp₄ : ∀ b o, b ≠ x → hp.get? b = some o → h₄.get? b = some o := fun b o hb e => k₄ b o hb (k₃ b o (k₂ b o (hk₁ b o e)))
  have hns₄ : Heap.Ns h₄ hp.objs.size (fun y => ([("self", Value.ref x)] : List (Str × Value)).reverse.lookup y) := by
    obtain ⟨oL, es, ep, hL, r⟩ := hns₂.keeps k₃
    exact ⟨oL, es, ep, k₄ _ _ hxL hL, r⟩
  have hle : hp.objs.size ≤ h₄.objs.size := Nat.le_of_lt hns₄.lt
  show _root_.PySem.wpAt _ _ _ (execs _ _) _ _ _
  exact wpAt_of_wpAny (wpAny_execs_nil (hq h₄ _ none _ ⟨kp₄, hx₄, rfl⟩))
theorem made0 (T : ECls prog K mg nm C fI B newId initId bm) (G : EFn0 prog K C fI ) {rest : List Value} {kw : List (Str × Value)} (hbd : ∀ (x : Value) (qual : Str) (p0 : Pos) (body : List Stmt) (doc pm : Value) (an : Option Addr) (cd ct : Value) (cc : Addr), bindArgs (ksFn "__init__" qual (iA0 p0) body iS0 .none .none doc pm an cd ct cc) ⟨x :: rest, kw⟩ = pure ([(("self" : Str), x)] : List (Str × Value)))
    (hz : rest.length ≤ sizeLine) (X : K.In s.heap) (hlim : s.heap.NoLimit) (hroom : A.depth + 1 < recursionLimit)
    (hG : s.heap.Ns mainGlobals mg) (hB : ∃ mb, s.heap.Ns builtinsNs mb ∧ ∀ x : Str, x ≠ "__name__" → mb x = bootBuiltins x)
    (hq : ∀ h' tk e d, MadeN [] s.heap h' e C d → R (.ok (.ret (.ref e))) { s with heap := h', toks := tk }) :
    codeAny (model prog w) A (.call (.ref C) ⟨rest, kw⟩) R s := by
  obtain ⟨cnm, q, N, bs, sn, sub, ab, col, dd, k0, k1, k2, k3, k5, hC⟩ := T.cls
  obtain ⟨hp, g, dr, tk, os⟩ := s
  have k : ∀ b o, hp.get? b = some o → ((hp.push (kdv_tup rest)).push (excO C hp.objs.size)).get? b = some o := fun b o e => Heap.get?_push_of_some _ (Heap.get?_push_of_some _ e)
  have hget : ((hp.push (kdv_tup rest)).push (excO C hp.objs.size)).get? (hp.objs.size + 1) = some (excO C hp.objs.size) := by heap_get
  have hnx : K.lookup (hp.objs.size + 1) = none := by
    cases e : K.lookup (hp.objs.size + 1) with
    | none => rfl
    | some o =>
      have z : hp.get? (hp.objs.size + 1) = some o := X _ _ e
      exact absurd (Nat.lt_of_succ_lt (Heap.lt_size z)) (Nat.lt_irrefl _)
  refine call_kw T.base.F (X _ _ hC) (looks_findIn X T.iC) (fun self => bind_fn X self T.tC) hz ?_
  refine sup_init0 (s := ⟨(hp.push (kdv_tup rest)).push (excO C hp.objs.size), g, dr, tk, os⟩) T G (hbd _) (X.keeps k) (hlim.keeps k) hget hnx hroom (hG.keeps k) (let ⟨mb, b1, b2⟩ := hB; ⟨mb, b1.keeps k, b2⟩) fun h' tk' d t1 ⟨k', hx, hd⟩ => ?_
  have old : ∀ b o, hp.get? b = some o → h'.get? b = some o := fun b o e => k' b o (Nat.ne_of_lt (Nat.lt_succ_of_lt (Heap.lt_size e))) (k b o e)
  refine ⟨rfl, hq h' tk' (hp.objs.size + 1) d ⟨old, Nat.le_succ _, ⟨_, hx⟩, ?_⟩⟩
  cases d with
  | none => exact hd
  | some dx =>
    obtain ⟨dn, dne, hns⟩ := hd
    have z : hp.objs.size + 1 + 1 ≤ dx := by
      first
        | (simpa only [Heap.size_push] using dn)
        | exact dn
        | (have q := dn; rw [Heap.size_push, Heap.size_push] at q; exact q)
    exact ⟨Nat.le_trans (Nat.le_trans (Nat.le_succ _) (Nat.le_succ _)) z, dne, hns⟩
end
def iA1 (f1 : Str) (p0 p1 : Pos) : Arguments := { posonlyargs := [], args := [{ arg := "self", annotation := none, pos := p0 }, { arg := f1, annotation := none, pos := p1 }], vararg := none, kwonlyargs := [], kw_defaults := [], kwarg := none, defaults := [] }
def iB1 (f1 : Str) (q1 q2 q3 q5 q6 a1 b1 c1 d1 e1 : Pos) : List Stmt := [.Expr (.Call (.Attribute (.Call (.Name "super" q1) [] [] q2) "__init__" q3) [.Name f1 a1] [] q5) q6, .Assign [.Attribute (.Name "self" b1) f1 c1] (.Name f1 d1) e1]
def iS1 (f1 : Str) : Scope := { kind := .function, names := [(PySem.Str.ofString "self", .local), (f1, .local), (PySem.Str.ofString "__class__", .free), (PySem.Str.ofString "super", .globalImplicit)], isGenerator := false, isCoroutine := false, more := [] }
structure FOk1 (f1 : Str) : Prop where
  dbg1 : (f1 == ("__debug__" : Str)) = false
  lf1 : (iS1 f1).names.lookup f1 = some .local
  ns1 : (("self" : Str) == f1) = false
  lc : (iS1 f1).names.lookup ("__class__" : Str) = some .free
  ls : (iS1 f1).names.lookup ("super" : Str) = some .globalImplicit
  bp : ∀ (qual : Str) (p0 p1 : Pos) (body : List Stmt) (doc pm : Value) (an : Option Addr) (cd ct : Value) (cc : Addr) (x v1 : Value), bindArgs (ksFn "__init__" qual (iA1 f1 p0 p1) body (iS1 f1) .none .none doc pm an cd ct cc) ⟨[x, v1], []⟩ = pure ([(("self" : Str), x), (f1, v1)] : List (Str × Value))
  bk : ∀ (qual : Str) (p0 p1 : Pos) (body : List Stmt) (doc pm : Value) (an : Option Addr) (cd ct : Value) (cc : Addr) (x v1 : Value), bindArgs (ksFn "__init__" qual (iA1 f1 p0 p1) body (iS1 f1) .none .none doc pm an cd ct cc) ⟨[x], [(f1, v1)]⟩ = pure ([(("self" : Str), x), (f1, v1)] : List (Str × Value))
structure EFn1 (prog : Program) (K : Frag) (C fI : Addr) (f1 : Str) : Prop where
  fok : FOk1 f1
  no1 : findIn K (.ref C) f1 = some none
  fn : ∃ (qual : Str) (oc : Value) (od : Option Addr) (doc pm : Value) (an : Option Addr) (cda : Addr) (ct : Value) (cc : Addr) (osl : Array (Option Value)) (p0 p1 q1 q2 q3 q5 q6 a1 b1 c1 d1 e1 : Pos),
    K.lookup fI = some ⟨oc, od, .func (ksFn "__init__" qual (iA1 f1 p0 p1) (iB1 f1 q1 q2 q3 q5 q6 a1 b1 c1 d1 e1) (iS1 f1) .none .none doc pm an (.ref cda) ct cc), osl⟩ ∧ codeIn K (.ref cda) qual = true ∧
    (∃ ccl cdd vs ccs file tf, K.lookup cda = some ⟨ccl, cdd, .fields vs, ccs⟩ ∧ vs[2]? = some (.str file tf) ∧ ((prog.main.file : Str) == file) = true) ∧
    (∃ cl cld csl, K.lookup cc = some ⟨cl, cld, .cell (some (.ref C)), csl⟩) ∧ (q3.endLine == q5.line) = true
section
variable {prog : Program} {w : World} {A : Around} {E : Value → Shared → Prop} {R : Result → Shared → Prop} {s : Shared} {K : Frag} {mg : Str → Option Value} {nm : Str} {C fI : Addr} {B newId initId : String} {bm : List Value}
theorem sup_init1 (T : ECls prog K mg nm C fI B newId initId bm) {f1 : Str} (G : EFn1 prog K C fI f1) {x t0 : Addr} {v1 : Value} {args : Args} (hbd : ∀ (qual : Str) (p0 p1 : Pos) (body : List Stmt) (doc pm : Value) (an : Option Addr) (cd ct : Value) (cc : Addr), bindArgs (ksFn "__init__" qual (iA1 f1 p0 p1) body (iS1 f1) .none .none doc pm an cd ct cc) args = pure ([(("self" : Str), Value.ref x), (f1, v1)] : List (Str × Value)))
    (X : K.In s.heap) (hlim : s.heap.NoLimit) (hx : s.heap.get? x = some (excO C t0)) (hnx : K.lookup x = none) (hroom : A.depth < recursionLimit)
    (hG : s.heap.Ns mainGlobals mg) (hB : ∃ mb, s.heap.Ns builtinsNs mb ∧ ∀ x : Str, x ≠ "__name__" → mb x = bootBuiltins x)
    (hq : ∀ h' tk d t1, InitN [(f1, v1)] s.heap h' x C t1 d → R (.ok (.ret .none)) { s with heap := h', toks := tk }) :
    codeAny (model prog w) A (.call (.ref fI) args) R s := by
  obtain ⟨qual, oc, od, doc, pm, an, cda, ct, cc, osl, p0, p1, q1, q2, q3, q5, q6, a1, b1, c1, d1, e1, hl, hcd, ⟨ccl, cdd, vs, ccs, file, tf, hcode, hvs, hfile⟩, ⟨cl, cld, csl, hcell⟩, hpos⟩ := G.fn
  obtain ⟨cnm, q, N, bs, sn, sub, ab, col, dd, k0, k1, k2, k3, k5, hC⟩ := T.cls
  obtain ⟨mb, hBn, hBv⟩ := hB
  have hcl : clsIn K C = some { name := cnm, bases := bs, mro := .ref C :: bm, ns := N, qualname := q, hasDict := true, slotNames := sn, subclasses := sub, abstract := ab, collection := col, hasDel := false } := by unfold clsIn; rw [hC] <;> rfl
  obtain ⟨hp, g, d, tk, os⟩ := s
  refine ks_codeAny_call_defAt (fd := ksFn "__init__" qual (iA1 f1 p0 p1) (iB1 f1 q1 q2 q3 q5 q6 a1 b1 c1 d1 e1) (iS1 f1) .none .none doc pm an (.ref cda) ct cc) (body := (iB1 f1 q1 q2 q3 q5 q6 a1 b1 c1 d1 e1)) (binds := [(("self" : Str), Value.ref x), (f1, v1)]) hroom (X _ _ hl) rfl hlim (codeRec_of X hcd) rfl (BindsTo.of_eq (hbd _ _ _ _ _ _ _ _ _ _)) ?hce ?hlo (fun h₁ hns hk₁ => ?_) rfl rfl rfl
  case hce => intro y hy; simp only [iS1, List.mem_cons, List.not_mem_nil, or_false] at hy; rcases hy with rfl | rfl | rfl | rfl <;> simp
  case hlo =>
    intro y hy
    simp only [List.mem_cons, List.not_mem_nil, or_false] at hy
    rcases hy with rfl | rfl
    · rfl
    · exact G.fok.lf1
  have X₁ : K.In h₁ := X.keeps hk₁
  have hx₁ := hk₁ _ _ hx
  have mv1 : (fun y => ([("self", Value.ref x), (f1, v1)] : List (Str × Value)).reverse.lookup y) f1 = some v1 := by simp [List.lookup]
  have mself : (fun y => ([("self", Value.ref x), (f1, v1)] : List (Str × Value)).reverse.lookup y) "self" = some (.ref x) := by simp [List.lookup, G.fok.ns1]
  have hns' : Heap.Ns h₁ hp.objs.size (fun y => ([("self", Value.ref x), (f1, v1)] : List (Str × Value)).reverse.lookup y) := hns
  have I₁ : InstAt h₁ x (excO C t0) C none := ⟨hx₁, rfl, rfl, trivial⟩
  show _root_.PySem.wpAt _ _ _ (execs (iB1 f1 q1 q2 q3 q5 q6 a1 b1 c1 d1 e1) (ksEnv qual (iS1 f1) hp.objs.size fI (.ref cda) cc)) _ _ _
  have hmc : ∀ ov, methodCall (.Call (.Name "super" q1) [] [] q2) "__init__" q3 q5 (ksEnv qual (iS1 f1) hp.objs.size fI (.ref cda) cc) ov 1 (backTo q5 (starEach [.Name f1 a1] (ksEnv qual (iS1 f1) hp.objs.size fI (.ref cda) cc))) [] = (do
      let (ff, first) ← holding [ov] (getMethod ov "__init__" (L2.plainOf (.Call (.Name "super" q1) [] [] q2) (ksEnv qual (iS1 f1) hp.objs.size fI (.ref cda) cc)))
      callWith q5 ff first (backTo q5 (starEach [.Name f1 a1] (ksEnv qual (iS1 f1) hp.objs.size fI (.ref cda) cc))) []) := fun ov => L2.mcall_line rfl hpos
  refine ks_wpAt_execs_cons (ks_wpAt_Expr_any (ks_wpAt_MethodCall (pl := L2.plainOf (.Call (.Name "super" q1) [] [] q2) (ksEnv qual (iS1 f1) hp.objs.size fI (.ref cda) cc)) ?_ ?he))
  case he =>
    show (do
      let ov ← attributeBase (.Call (.Name "super" q1) [] [] q2) "__init__" (ksEnv qual (iS1 f1) hp.objs.size fI (.ref cda) cc) (eval (.Call (.Name "super" q1) [] [] q2) (ksEnv qual (iS1 f1) hp.objs.size fI (.ref cda) cc))
      standAt q3.atName
      methodCall (.Call (.Name "super" q1) [] [] q2) "__init__" q3 q5 (ksEnv qual (iS1 f1) hp.objs.size fI (.ref cda) cc) ov 1 (backTo q5 (starEach [.Name f1 a1] (ksEnv qual (iS1 f1) hp.objs.size fI (.ref cda) cc))) []) = _
    simp only [hmc]
  refine ks_wpAt_super_base (env := ksEnv qual (iS1 f1) hp.objs.size fI (.ref cda) cc) (f := fI) (cc := cda) G.fok.ls G.fok.lc (by decide) rfl (X₁ _ _ hl) rfl rfl rfl (X₁ _ _ hcode) rfl hvs hfile T.top ?_
  refine ks_loadName_global rfl G.fok.ls (loadGlobal_builtin (env := ksEnv qual (iS1 f1) hp.objs.size fI (.ref cda) cc) (hG.keeps hk₁) T.noS (hBn.keeps hk₁) ((hBv _ (by decide +kernel)).trans (by first | rfl | decide +kernel | kernel_rfl)) ⟨rfl, ?_⟩)
  refine wpAny_loadName_free rfl G.fok.lc rfl ⟨_, X₁ _ _ hcell, rfl⟩ ?_
  refine wpAny_loadName_local rfl rfl hns' mself ?_
  refine ks_wpAny_isType_cls (X₁ _ _ hC) rfl ⟨rfl, ?_⟩
  refine ks_wpAny_call_super (X₁ _ _ hC) rfl hx₁ rfl (fun c e => by cases e) (looks_mroIn X₁ T.mC) (fun h₂ e₂ k₂ => ?_)
  have X₂ : K.In h₂ := X₁.keeps k₂
  have hx₂ := k₂ _ _ hx₁
  have I₂ : InstAt h₂ x (excO C t0) C none := ⟨hx₂, rfl, rfl, trivial⟩
  have hns₂ := hns'.keeps k₂
  have hal : alongIn K "__init__" (((Value.ref C :: bm).dropWhile (· != .ref C)).drop 1) = some (some (.builtin initId)) := by
    have z := T.su
    unfold ks_superIn at z
    rw [hcl] at z
    exact z
  refine kxs_getMethod T.base.KF (so := h₁.objs.size) (D := C) (x := x) (C := C) (l₀ := .ref C :: bm) (K := K) e₂ (looks_opaque X₂ T.tp) (fun A Q E s k q => wpAny_bind ((looks_clsIn X₂ hcl) A _ E s k (wpAny_pure q))) rfl X₂ hal (I₂.type.andThen (looks_subIn X₂ T.beC)) (ks_ne X₂ I₂ hcl) (by decide) ?_
  have k₃ : ∀ b o, h₂.get? b = some o → (h₂.push (kxs_mw initId x)).get? b = some o := fun b o e => Heap.get?_push_of_some _ e
  have hmw : (h₂.push (kxs_mw initId x)).get? h₂.objs.size = some (kxs_mw initId x) := Heap.get?_push_at rfl rfl
  refine kxs_callWith (i := initId) (x := x) rfl (evalArgs_plain ?_)
  refine spliced_cons (wpAny_Name (wpAny_loadName_local rfl G.fok.lf1 (hns₂.keeps k₃) mv1 ?_) G.fok.dbg1)
  refine spliced_nil ⟨hmw, ?_⟩
  have FB := T.base.F
  refine wpAny_call (codeAny_of_tree ?_)
  show wpAny _ _ (callAny (.ref h₂.objs.size) ⟨[v1], []⟩) _ _ _
  simp only [callAny]
  refine wpAny_bind (wpAny_load hmw ?_)
  simp only [kxs_mw, show (Value.type "method-wrapper" == Value.type "method" || Value.type "method-wrapper" == Value.type "builtin_function_or_method" || Value.type "method-wrapper" == Value.type "method-wrapper") = true by decide, if_true]
  refine KFB.if_so (by decide) ?_
  refine wpAny_bind (check_bound_init FB.toExcCallFacts (k₃ _ _ (X₂ _ _ hC)) (k₃ _ _ hx₂) rfl ?_)
  refine wpAny_bind (wpAny_pure (wpAny_pure ?_))
  refine ⟨plainId_quiet FB.init.plain _, codeAny_builtin FB.initEntry ?_⟩
  refine exc_init_tree (cls := .ref C) (t0 := t0) (dv := none) (c2 := .none) (c3 := .none) (b4 := .bool false) (k₃ _ _ hx₂) (by rw [sizeLine_eq]; exact (by decide : 1 ≤ 16777216)) fun h₄ k₄ hx₄ _ => ?_
  have hxL : hp.objs.size ≠ x := Nat.ne_of_gt (Heap.lt_size hx)
  have X₄ : K.In h₄ := fun a o e => k₄ a o (fun z => by rw [z, hnx] at e; cases e) (k₃ a o (X₂ a o e))
  have kp₄ : ∀ b o, b ≠ x → hp.get? b = some o → h₄.get? b = some o := fun b o hb e => k₄ b o hb (k₃ b o (k₂ b o (hk₁ b o e)))
  have hns₄ : Heap.Ns h₄ hp.objs.size (fun y => ([("self", Value.ref x), (f1, v1)] : List (Str × Value)).reverse.lookup y) := by
    obtain ⟨oL, es, ep, hL, r⟩ := hns₂.keeps k₃
    exact ⟨oL, es, ep, k₄ _ _ hxL hL, r⟩
  have hle : hp.objs.size ≤ h₄.objs.size := Nat.le_of_lt hns₄.lt
  show _root_.PySem.wpAt _ _ _ (execs _ _) _ _ _
  refine ks_wpAt_execs_cons (ks_wpAt_Assign_Attr (wpAt_of_wpAny ?_))
  refine wpAny_Name (wpAny_loadName_local rfl G.fok.lf1 hns₄ mv1 ?_) G.fok.dbg1
  refine wpAny_Name (wpAny_loadName_local rfl rfl hns₄ mself ?_) (by decide)
  refine set_plain X₄ (od := none) ⟨hx₄, rfl, rfl, trivial⟩ T.sa ?_
  refine osa_new X₄ hx₄ hcl (by rw [refuseLoop_ref]; exact T.base.pass _) rfl (by rw [List.contains_cons, T.base.ob, Bool.or_true]) rfl G.no1 (fun h₅ tk₅ dx k₅ dn dne hx₅ hn₅ => ?_)
  rw [lk1] at hn₅
  show _root_.PySem.wpAt _ _ _ (execs _ _) _ _ _
  exact wpAt_of_wpAny (wpAny_execs_nil (hq h₅ tk₅ (some dx) _ ⟨fun b o hb e => k₅ b o hb (kp₄ b o hb e), hx₅, Nat.le_trans hle dn, dne, hn₅⟩))
theorem made1 (T : ECls prog K mg nm C fI B newId initId bm) {f1 : Str} (G : EFn1 prog K C fI f1) {v1 : Value} {rest : List Value} {kw : List (Str × Value)} (hbd : ∀ (x : Value) (qual : Str) (p0 p1 : Pos) (body : List Stmt) (doc pm : Value) (an : Option Addr) (cd ct : Value) (cc : Addr), bindArgs (ksFn "__init__" qual (iA1 f1 p0 p1) body (iS1 f1) .none .none doc pm an cd ct cc) ⟨x :: rest, kw⟩ = pure ([(("self" : Str), x), (f1, v1)] : List (Str × Value)))
    (hz : rest.length ≤ sizeLine) (X : K.In s.heap) (hlim : s.heap.NoLimit) (hroom : A.depth + 1 < recursionLimit)
    (hG : s.heap.Ns mainGlobals mg) (hB : ∃ mb, s.heap.Ns builtinsNs mb ∧ ∀ x : Str, x ≠ "__name__" → mb x = bootBuiltins x)
    (hq : ∀ h' tk e d, MadeN [(f1, v1)] s.heap h' e C d → R (.ok (.ret (.ref e))) { s with heap := h', toks := tk }) :
    codeAny (model prog w) A (.call (.ref C) ⟨rest, kw⟩) R s := by
  obtain ⟨cnm, q, N, bs, sn, sub, ab, col, dd, k0, k1, k2, k3, k5, hC⟩ := T.cls
  obtain ⟨hp, g, dr, tk, os⟩ := s
  have k : ∀ b o, hp.get? b = some o → ((hp.push (kdv_tup rest)).push (excO C hp.objs.size)).get? b = some o := fun b o e => Heap.get?_push_of_some _ (Heap.get?_push_of_some _ e)
  have hget : ((hp.push (kdv_tup rest)).push (excO C hp.objs.size)).get? (hp.objs.size + 1) = some (excO C hp.objs.size) := by heap_get
  have hnx : K.lookup (hp.objs.size + 1) = none := by
    cases e : K.lookup (hp.objs.size + 1) with
    | none => rfl
    | some o =>
      have z : hp.get? (hp.objs.size + 1) = some o := X _ _ e
      exact absurd (Nat.lt_of_succ_lt (Heap.lt_size z)) (Nat.lt_irrefl _)
  refine call_kw T.base.F (X _ _ hC) (looks_findIn X T.iC) (fun self => bind_fn X self T.tC) hz ?_
  refine sup_init1 (s := ⟨(hp.push (kdv_tup rest)).push (excO C hp.objs.size), g, dr, tk, os⟩) T G (hbd _) (X.keeps k) (hlim.keeps k) hget hnx hroom (hG.keeps k) (let ⟨mb, b1, b2⟩ := hB; ⟨mb, b1.keeps k, b2⟩) fun h' tk' d t1 ⟨k', hx, hd⟩ => ?_
  have old : ∀ b o, hp.get? b = some o → h'.get? b = some o := fun b o e => k' b o (Nat.ne_of_lt (Nat.lt_succ_of_lt (Heap.lt_size e))) (k b o e)
  refine ⟨rfl, hq h' tk' (hp.objs.size + 1) d ⟨old, Nat.le_succ _, ⟨_, hx⟩, ?_⟩⟩
  cases d with
  | none => exact hd
  | some dx =>
    obtain ⟨dn, dne, hns⟩ := hd
    have z : hp.objs.size + 1 + 1 ≤ dx := by
      first
        | (simpa only [Heap.size_push] using dn)
        | exact dn
        | (have q := dn; rw [Heap.size_push, Heap.size_push] at q; exact q)
    exact ⟨Nat.le_trans (Nat.le_trans (Nat.le_succ _) (Nat.le_succ _)) z, dne, hns⟩
end
def iA2 (f1 f2 : Str) (p0 p1 p2 : Pos) : Arguments := { posonlyargs := [], args := [{ arg := "self", annotation := none, pos := p0 }, { arg := f1, annotation := none, pos := p1 }, { arg := f2, annotation := none, pos := p2 }], vararg := none, kwonlyargs := [], kw_defaults := [], kwarg := none, defaults := [] }
def iB2 (f1 f2 : Str) (q1 q2 q3 q5 q6 a1 a2 b1 c1 d1 e1 b2 c2 d2 e2 : Pos) : List Stmt := [.Expr (.Call (.Attribute (.Call (.Name "super" q1) [] [] q2) "__init__" q3) [.Name f1 a1, .Name f2 a2] [] q5) q6, .Assign [.Attribute (.Name "self" b1) f1 c1] (.Name f1 d1) e1, .Assign [.Attribute (.Name "self" b2) f2 c2] (.Name f2 d2) e2]
def iS2 (f1 f2 : Str) : Scope := { kind := .function, names := [(PySem.Str.ofString "self", .local), (f1, .local), (f2, .local), (PySem.Str.ofString "__class__", .free), (PySem.Str.ofString "super", .globalImplicit)], isGenerator := false, isCoroutine := false, more := [] }
structure FOk2 (f1 f2 : Str) : Prop where
  dbg1 : (f1 == ("__debug__" : Str)) = false
  lf1 : (iS2 f1 f2).names.lookup f1 = some .local
  ns1 : (("self" : Str) == f1) = false
  dbg2 : (f2 == ("__debug__" : Str)) = false
  lf2 : (iS2 f1 f2).names.lookup f2 = some .local
  ns2 : (("self" : Str) == f2) = false
  ne : (f1 == f2) = false
  lc : (iS2 f1 f2).names.lookup ("__class__" : Str) = some .free
  ls : (iS2 f1 f2).names.lookup ("super" : Str) = some .globalImplicit
  bp : ∀ (qual : Str) (p0 p1 p2 : Pos) (body : List Stmt) (doc pm : Value) (an : Option Addr) (cd ct : Value) (cc : Addr) (x v1 v2 : Value), bindArgs (ksFn "__init__" qual (iA2 f1 f2 p0 p1 p2) body (iS2 f1 f2) .none .none doc pm an cd ct cc) ⟨[x, v1, v2], []⟩ = pure ([(("self" : Str), x), (f1, v1), (f2, v2)] : List (Str × Value))
  bk : ∀ (qual : Str) (p0 p1 p2 : Pos) (body : List Stmt) (doc pm : Value) (an : Option Addr) (cd ct : Value) (cc : Addr) (x v1 v2 : Value), bindArgs (ksFn "__init__" qual (iA2 f1 f2 p0 p1 p2) body (iS2 f1 f2) .none .none doc pm an cd ct cc) ⟨[x], [(f2, v2), (f1, v1)]⟩ = pure ([(("self" : Str), x), (f1, v1), (f2, v2)] : List (Str × Value))
structure EFn2 (prog : Program) (K : Frag) (C fI : Addr) (f1 f2 : Str) : Prop where
  fok : FOk2 f1 f2
  no1 : findIn K (.ref C) f1 = some none
  no2 : findIn K (.ref C) f2 = some none
  fn : ∃ (qual : Str) (oc : Value) (od : Option Addr) (doc pm : Value) (an : Option Addr) (cda : Addr) (ct : Value) (cc : Addr) (osl : Array (Option Value)) (p0 p1 p2 q1 q2 q3 q5 q6 a1 a2 b1 c1 d1 e1 b2 c2 d2 e2 : Pos),
    K.lookup fI = some ⟨oc, od, .func (ksFn "__init__" qual (iA2 f1 f2 p0 p1 p2) (iB2 f1 f2 q1 q2 q3 q5 q6 a1 a2 b1 c1 d1 e1 b2 c2 d2 e2) (iS2 f1 f2) .none .none doc pm an (.ref cda) ct cc), osl⟩ ∧ codeIn K (.ref cda) qual = true ∧
    (∃ ccl cdd vs ccs file tf, K.lookup cda = some ⟨ccl, cdd, .fields vs, ccs⟩ ∧ vs[2]? = some (.str file tf) ∧ ((prog.main.file : Str) == file) = true) ∧
    (∃ cl cld csl, K.lookup cc = some ⟨cl, cld, .cell (some (.ref C)), csl⟩) ∧ (q3.endLine == q5.line) = true
section
variable {prog : Program} {w : World} {A : Around} {E : Value → Shared → Prop} {R : Result → Shared → Prop} {s : Shared} {K : Frag} {mg : Str → Option Value} {nm : Str} {C fI : Addr} {B newId initId : String} {bm : List Value}
theorem sup_init2 (T : ECls prog K mg nm C fI B newId initId bm) {f1 f2 : Str} (G : EFn2 prog K C fI f1 f2) {x t0 : Addr} {v1 v2 : Value} {args : Args} (hbd : ∀ (qual : Str) (p0 p1 p2 : Pos) (body : List Stmt) (doc pm : Value) (an : Option Addr) (cd ct : Value) (cc : Addr), bindArgs (ksFn "__init__" qual (iA2 f1 f2 p0 p1 p2) body (iS2 f1 f2) .none .none doc pm an cd ct cc) args = pure ([(("self" : Str), Value.ref x), (f1, v1), (f2, v2)] : List (Str × Value)))
    (X : K.In s.heap) (hlim : s.heap.NoLimit) (hx : s.heap.get? x = some (excO C t0)) (hnx : K.lookup x = none) (hroom : A.depth < recursionLimit)
    (hG : s.heap.Ns mainGlobals mg) (hB : ∃ mb, s.heap.Ns builtinsNs mb ∧ ∀ x : Str, x ≠ "__name__" → mb x = bootBuiltins x)
    (hq : ∀ h' tk d t1, InitN [(f2, v2), (f1, v1)] s.heap h' x C t1 d → R (.ok (.ret .none)) { s with heap := h', toks := tk }) :
    codeAny (model prog w) A (.call (.ref fI) args) R s := by
  obtain ⟨qual, oc, od, doc, pm, an, cda, ct, cc, osl, p0, p1, p2, q1, q2, q3, q5, q6, a1, a2, b1, c1, d1, e1, b2, c2, d2, e2, hl, hcd, ⟨ccl, cdd, vs, ccs, file, tf, hcode, hvs, hfile⟩, ⟨cl, cld, csl, hcell⟩, hpos⟩ := G.fn
  obtain ⟨cnm, q, N, bs, sn, sub, ab, col, dd, k0, k1, k2, k3, k5, hC⟩ := T.cls
  obtain ⟨mb, hBn, hBv⟩ := hB
  have hcl : clsIn K C = some { name := cnm, bases := bs, mro := .ref C :: bm, ns := N, qualname := q, hasDict := true, slotNames := sn, subclasses := sub, abstract := ab, collection := col, hasDel := false } := by unfold clsIn; rw [hC] <;> rfl
  obtain ⟨hp, g, d, tk, os⟩ := s
  refine ks_codeAny_call_defAt (fd := ksFn "__init__" qual (iA2 f1 f2 p0 p1 p2) (iB2 f1 f2 q1 q2 q3 q5 q6 a1 a2 b1 c1 d1 e1 b2 c2 d2 e2) (iS2 f1 f2) .none .none doc pm an (.ref cda) ct cc) (body := (iB2 f1 f2 q1 q2 q3 q5 q6 a1 a2 b1 c1 d1 e1 b2 c2 d2 e2)) (binds := [(("self" : Str), Value.ref x), (f1, v1), (f2, v2)]) hroom (X _ _ hl) rfl hlim (codeRec_of X hcd) rfl (BindsTo.of_eq (hbd _ _ _ _ _ _ _ _ _ _ _)) ?hce ?hlo (fun h₁ hns hk₁ => ?_) rfl rfl rfl
  case hce => intro y hy; simp only [iS2, List.mem_cons, List.not_mem_nil, or_false] at hy; rcases hy with rfl | rfl | rfl | rfl | rfl <;> simp
  case hlo =>
    intro y hy
    simp only [List.mem_cons, List.not_mem_nil, or_false] at hy
    rcases hy with rfl | rfl | rfl
    · rfl
    · exact G.fok.lf1
    · exact G.fok.lf2
  have X₁ : K.In h₁ := X.keeps hk₁
  have hx₁ := hk₁ _ _ hx
  have mv2 : (fun y => ([("self", Value.ref x), (f1, v1), (f2, v2)] : List (Str × Value)).reverse.lookup y) f2 = some v2 := by simp [List.lookup]
  have mv1 : (fun y => ([("self", Value.ref x), (f1, v1), (f2, v2)] : List (Str × Value)).reverse.lookup y) f1 = some v1 := by simp [List.lookup, G.fok.ne]
  have mself : (fun y => ([("self", Value.ref x), (f1, v1), (f2, v2)] : List (Str × Value)).reverse.lookup y) "self" = some (.ref x) := by simp [List.lookup, G.fok.ns1, G.fok.ns2]
  have hns' : Heap.Ns h₁ hp.objs.size (fun y => ([("self", Value.ref x), (f1, v1), (f2, v2)] : List (Str × Value)).reverse.lookup y) := hns
  have I₁ : InstAt h₁ x (excO C t0) C none := ⟨hx₁, rfl, rfl, trivial⟩
  show _root_.PySem.wpAt _ _ _ (execs (iB2 f1 f2 q1 q2 q3 q5 q6 a1 a2 b1 c1 d1 e1 b2 c2 d2 e2) (ksEnv qual (iS2 f1 f2) hp.objs.size fI (.ref cda) cc)) _ _ _
  have hmc : ∀ ov, methodCall (.Call (.Name "super" q1) [] [] q2) "__init__" q3 q5 (ksEnv qual (iS2 f1 f2) hp.objs.size fI (.ref cda) cc) ov 2 (backTo q5 (starEach [.Name f1 a1, .Name f2 a2] (ksEnv qual (iS2 f1 f2) hp.objs.size fI (.ref cda) cc))) [] = (do
      let (ff, first) ← holding [ov] (getMethod ov "__init__" (L2.plainOf (.Call (.Name "super" q1) [] [] q2) (ksEnv qual (iS2 f1 f2) hp.objs.size fI (.ref cda) cc)))
      callWith q5 ff first (backTo q5 (starEach [.Name f1 a1, .Name f2 a2] (ksEnv qual (iS2 f1 f2) hp.objs.size fI (.ref cda) cc))) []) := fun ov => L2.mcall_line rfl hpos
  refine ks_wpAt_execs_cons (ks_wpAt_Expr_any (ks_wpAt_MethodCall (pl := L2.plainOf (.Call (.Name "super" q1) [] [] q2) (ksEnv qual (iS2 f1 f2) hp.objs.size fI (.ref cda) cc)) ?_ ?he))
  case he =>
    show (do
      let ov ← attributeBase (.Call (.Name "super" q1) [] [] q2) "__init__" (ksEnv qual (iS2 f1 f2) hp.objs.size fI (.ref cda) cc) (eval (.Call (.Name "super" q1) [] [] q2) (ksEnv qual (iS2 f1 f2) hp.objs.size fI (.ref cda) cc))
      standAt q3.atName
      methodCall (.Call (.Name "super" q1) [] [] q2) "__init__" q3 q5 (ksEnv qual (iS2 f1 f2) hp.objs.size fI (.ref cda) cc) ov 2 (backTo q5 (starEach [.Name f1 a1, .Name f2 a2] (ksEnv qual (iS2 f1 f2) hp.objs.size fI (.ref cda) cc))) []) = _
    simp only [hmc]
  refine ks_wpAt_super_base (env := ksEnv qual (iS2 f1 f2) hp.objs.size fI (.ref cda) cc) (f := fI) (cc := cda) G.fok.ls G.fok.lc (by decide) rfl (X₁ _ _ hl) rfl rfl rfl (X₁ _ _ hcode) rfl hvs hfile T.top ?_
  refine ks_loadName_global rfl G.fok.ls (loadGlobal_builtin (env := ksEnv qual (iS2 f1 f2) hp.objs.size fI (.ref cda) cc) (hG.keeps hk₁) T.noS (hBn.keeps hk₁) ((hBv _ (by decide +kernel)).trans (by first | rfl | decide +kernel | kernel_rfl)) ⟨rfl, ?_⟩)
  refine wpAny_loadName_free rfl G.fok.lc rfl ⟨_, X₁ _ _ hcell, rfl⟩ ?_
  refine wpAny_loadName_local rfl rfl hns' mself ?_
  refine ks_wpAny_isType_cls (X₁ _ _ hC) rfl ⟨rfl, ?_⟩
  refine ks_wpAny_call_super (X₁ _ _ hC) rfl hx₁ rfl (fun c e => by cases e) (looks_mroIn X₁ T.mC) (fun h₂ e₂ k₂ => ?_)
  have X₂ : K.In h₂ := X₁.keeps k₂
  have hx₂ := k₂ _ _ hx₁
  have I₂ : InstAt h₂ x (excO C t0) C none := ⟨hx₂, rfl, rfl, trivial⟩
  have hns₂ := hns'.keeps k₂
  have hal : alongIn K "__init__" (((Value.ref C :: bm).dropWhile (· != .ref C)).drop 1) = some (some (.builtin initId)) := by
    have z := T.su
    unfold ks_superIn at z
    rw [hcl] at z
    exact z
  refine kxs_getMethod T.base.KF (so := h₁.objs.size) (D := C) (x := x) (C := C) (l₀ := .ref C :: bm) (K := K) e₂ (looks_opaque X₂ T.tp) (fun A Q E s k q => wpAny_bind ((looks_clsIn X₂ hcl) A _ E s k (wpAny_pure q))) rfl X₂ hal (I₂.type.andThen (looks_subIn X₂ T.beC)) (ks_ne X₂ I₂ hcl) (by decide) ?_
  have k₃ : ∀ b o, h₂.get? b = some o → (h₂.push (kxs_mw initId x)).get? b = some o := fun b o e => Heap.get?_push_of_some _ e
  have hmw : (h₂.push (kxs_mw initId x)).get? h₂.objs.size = some (kxs_mw initId x) := Heap.get?_push_at rfl rfl
  refine kxs_callWith (i := initId) (x := x) rfl (evalArgs_plain ?_)
  refine spliced_cons (wpAny_Name (wpAny_loadName_local rfl G.fok.lf1 (hns₂.keeps k₃) mv1 ?_) G.fok.dbg1)
  refine spliced_cons (wpAny_Name (wpAny_loadName_local rfl G.fok.lf2 (hns₂.keeps k₃) mv2 ?_) G.fok.dbg2)
  refine spliced_nil ⟨hmw, ?_⟩
  have FB := T.base.F
  refine wpAny_call (codeAny_of_tree ?_)
  show wpAny _ _ (callAny (.ref h₂.objs.size) ⟨[v1, v2], []⟩) _ _ _
  simp only [callAny]
  refine wpAny_bind (wpAny_load hmw ?_)
  simp only [kxs_mw, show (Value.type "method-wrapper" == Value.type "method" || Value.type "method-wrapper" == Value.type "builtin_function_or_method" || Value.type "method-wrapper" == Value.type "method-wrapper") = true by decide, if_true]
  refine KFB.if_so (by decide) ?_
  refine wpAny_bind (check_bound_init FB.toExcCallFacts (k₃ _ _ (X₂ _ _ hC)) (k₃ _ _ hx₂) rfl ?_)
  refine wpAny_bind (wpAny_pure (wpAny_pure ?_))
  refine ⟨plainId_quiet FB.init.plain _, codeAny_builtin FB.initEntry ?_⟩
  refine exc_init_tree (cls := .ref C) (t0 := t0) (dv := none) (c2 := .none) (c3 := .none) (b4 := .bool false) (k₃ _ _ hx₂) (by rw [sizeLine_eq]; exact (by decide : 2 ≤ 16777216)) fun h₄ k₄ hx₄ _ => ?_
  have hxL : hp.objs.size ≠ x := Nat.ne_of_gt (Heap.lt_size hx)
  have X₄ : K.In h₄ := fun a o e => k₄ a o (fun z => by rw [z, hnx] at e; cases e) (k₃ a o (X₂ a o e))
  have kp₄ : ∀ b o, b ≠ x → hp.get? b = some o → h₄.get? b = some o := fun b o hb e => k₄ b o hb (k₃ b o (k₂ b o (hk₁ b o e)))
  have hns₄ : Heap.Ns h₄ hp.objs.size (fun y => ([("self", Value.ref x), (f1, v1), (f2, v2)] : List (Str × Value)).reverse.lookup y) := by
    obtain ⟨oL, es, ep, hL, r⟩ := hns₂.keeps k₃
    exact ⟨oL, es, ep, k₄ _ _ hxL hL, r⟩
  have hle : hp.objs.size ≤ h₄.objs.size := Nat.le_of_lt hns₄.lt
  show _root_.PySem.wpAt _ _ _ (execs _ _) _ _ _
  refine ks_wpAt_execs_cons (ks_wpAt_Assign_Attr (wpAt_of_wpAny ?_))
  refine wpAny_Name (wpAny_loadName_local rfl G.fok.lf1 hns₄ mv1 ?_) G.fok.dbg1
  refine wpAny_Name (wpAny_loadName_local rfl rfl hns₄ mself ?_) (by decide)
  refine set_plain X₄ (od := none) ⟨hx₄, rfl, rfl, trivial⟩ T.sa ?_
  refine osa_new X₄ hx₄ hcl (by rw [refuseLoop_ref]; exact T.base.pass _) rfl (by rw [List.contains_cons, T.base.ob, Bool.or_true]) rfl G.no1 (fun h₅ tk₅ dx k₅ dn dne hx₅ hn₅ => ?_)
  rw [lk1] at hn₅
  show _root_.PySem.wpAt _ _ _ (execs _ _) _ _ _
  have dL : hp.objs.size ≠ dx := Nat.ne_of_lt (Nat.lt_of_lt_of_le hns₄.lt dn)
  have X₅ : K.In h₅ := fun a o e => k₅ a o (fun z => by rw [z, hnx] at e; cases e) (X₄ a o e)
  have hns₅ : Heap.Ns h₅ hp.objs.size (fun y => ([("self", Value.ref x), (f1, v1), (f2, v2)] : List (Str × Value)).reverse.lookup y) := by
    obtain ⟨oL, es, ep, hL, r⟩ := hns₄
    exact ⟨oL, es, ep, k₅ _ _ hxL hL, r⟩
  refine ks_wpAt_execs_cons (ks_wpAt_Assign_Attr (wpAt_of_wpAny ?_))
  refine wpAny_Name (wpAny_loadName_local rfl G.fok.lf2 hns₅ mv2 ?_) G.fok.dbg2
  refine wpAny_Name (wpAny_loadName_local rfl rfl hns₅ mself ?_) (by decide)
  have hw5 : Within (fun y => List.lookup y [(f1, v1)]) [f1] := by
    rw [← lk1]
    exact Within.cons f1 v1 Within.nil
  obtain ⟨oD, _, _, hoD, _, _⟩ := hn₅.count hw5
  refine set_plain X₅ (od := some oD) ⟨hx₅, rfl, rfl, hoD⟩ T.sa ?_
  refine osa_oldB X₅ hx₅ hn₅ hw5 (by show 1 ≤ 1000; decide) hcl (by rw [refuseLoop_ref]; exact T.base.pass _) rfl (by rw [List.contains_cons, T.base.ob, Bool.or_true]) rfl G.no2 (fun h₆ tk₆ k₆ hn₆ => ?_)
  rw [lk2] at hn₆
  show _root_.PySem.wpAt _ _ _ (execs _ _) _ _ _
  exact wpAt_of_wpAny (wpAny_execs_nil (hq h₆ tk₆ (some dx) _ ⟨fun b o hb e => k₆ b o (fun z => Nat.lt_irrefl _ (Nat.lt_of_lt_of_le (z ▸ Heap.lt_size e) (Nat.le_trans hle dn))) (k₅ b o hb (kp₄ b o hb e)), k₆ _ _ (Ne.symm dne) hx₅, Nat.le_trans hle dn, dne, hn₆⟩))
theorem made2 (T : ECls prog K mg nm C fI B newId initId bm) {f1 f2 : Str} (G : EFn2 prog K C fI f1 f2) {v1 v2 : Value} {rest : List Value} {kw : List (Str × Value)} (hbd : ∀ (x : Value) (qual : Str) (p0 p1 p2 : Pos) (body : List Stmt) (doc pm : Value) (an : Option Addr) (cd ct : Value) (cc : Addr), bindArgs (ksFn "__init__" qual (iA2 f1 f2 p0 p1 p2) body (iS2 f1 f2) .none .none doc pm an cd ct cc) ⟨x :: rest, kw⟩ = pure ([(("self" : Str), x), (f1, v1), (f2, v2)] : List (Str × Value)))
    (hz : rest.length ≤ sizeLine) (X : K.In s.heap) (hlim : s.heap.NoLimit) (hroom : A.depth + 1 < recursionLimit)
    (hG : s.heap.Ns mainGlobals mg) (hB : ∃ mb, s.heap.Ns builtinsNs mb ∧ ∀ x : Str, x ≠ "__name__" → mb x = bootBuiltins x)
    (hq : ∀ h' tk e d, MadeN [(f2, v2), (f1, v1)] s.heap h' e C d → R (.ok (.ret (.ref e))) { s with heap := h', toks := tk }) :
    codeAny (model prog w) A (.call (.ref C) ⟨rest, kw⟩) R s := by
  obtain ⟨cnm, q, N, bs, sn, sub, ab, col, dd, k0, k1, k2, k3, k5, hC⟩ := T.cls
  obtain ⟨hp, g, dr, tk, os⟩ := s
  have k : ∀ b o, hp.get? b = some o → ((hp.push (kdv_tup rest)).push (excO C hp.objs.size)).get? b = some o := fun b o e => Heap.get?_push_of_some _ (Heap.get?_push_of_some _ e)
  have hget : ((hp.push (kdv_tup rest)).push (excO C hp.objs.size)).get? (hp.objs.size + 1) = some (excO C hp.objs.size) := by heap_get
  have hnx : K.lookup (hp.objs.size + 1) = none := by
    cases e : K.lookup (hp.objs.size + 1) with
    | none => rfl
    | some o =>
      have z : hp.get? (hp.objs.size + 1) = some o := X _ _ e
      exact absurd (Nat.lt_of_succ_lt (Heap.lt_size z)) (Nat.lt_irrefl _)
  refine call_kw T.base.F (X _ _ hC) (looks_findIn X T.iC) (fun self => bind_fn X self T.tC) hz ?_
  refine sup_init2 (s := ⟨(hp.push (kdv_tup rest)).push (excO C hp.objs.size), g, dr, tk, os⟩) T G (hbd _) (X.keeps k) (hlim.keeps k) hget hnx hroom (hG.keeps k) (let ⟨mb, b1, b2⟩ := hB; ⟨mb, b1.keeps k, b2⟩) fun h' tk' d t1 ⟨k', hx, hd⟩ => ?_
  have old : ∀ b o, hp.get? b = some o → h'.get? b = some o := fun b o e => k' b o (Nat.ne_of_lt (Nat.lt_succ_of_lt (Heap.lt_size e))) (k b o e)
  refine ⟨rfl, hq h' tk' (hp.objs.size + 1) d ⟨old, Nat.le_succ _, ⟨_, hx⟩, ?_⟩⟩
  cases d with
  | none => exact hd
  | some dx =>
    obtain ⟨dn, dne, hns⟩ := hd
    have z : hp.objs.size + 1 + 1 ≤ dx := by
      first
        | (simpa only [Heap.size_push] using dn)
        | exact dn
        | (have q := dn; rw [Heap.size_push, Heap.size_push] at q; exact q)
    exact ⟨Nat.le_trans (Nat.le_trans (Nat.le_succ _) (Nat.le_succ _)) z, dne, hns⟩
end
end MEX
end PySem
namespace MCH
open PySem PySem.Spec PyProof.Rows L2 PySem.W PySem.MEX PySem.HandSPX He
/-- an own error: its class's name, its fields, its base, its __init__ -/
structure ED where
  nm : Str
  fs : List Str
  B : String
  st : Stmt
def ED.nw (x : ED) : String := x.B ++ ".__new__"
def ED.ini (x : ED) : String := x.B ++ ".__init__"
def fnE (K : Frag) (x : ED) : FnV := match K.lookup (ma K (ga K x.nm) "__init__") with
  | some ⟨_, _, .func fd, _⟩ => some (fd.name, fd.params, fd.body, fd.scope, fd.globals, fd.builtins)
  | _ => none
def ED.val (x : ED) : FnV := some ("__init__", defArgs x.st, .stmts (defBody x.st), defScope x.st, mainGlobals, builtinsNs)
def ecB (K : Frag) (C : Addr) (newId : String) (bm : List Value) : Bool := match K.lookup C with
  | some ⟨.type c, _, .cls cd, sl⟩ => decide (c = "type") && (match cd.mro, sl.toList with
    | .ref C' :: bm', [_, _, _, _, some (.builtin n), _] => decide (C' = C) && (decide (n = newId) && (!cd.hasDel && (cd.hasDict && (bm' == bm))))
    | _, _ => false)
  | _ => false
theorem ecB_ok {K : Frag} {C : Addr} {newId : String} {bm : List Value} (h : ecB K C newId bm = true) : ∃ nm q N bs sn sub ab col dd k0 k1 k2 k3 k5, K.lookup C = some (excClassObj nm q C N bs bm true sn sub ab col dd k0 k1 k2 k3 k5 newId) := by
  unfold ecB at h
  cases q : K.lookup C with
  | none => rw [q] at h; cases h
  | some o =>
    obtain ⟨oc, od, dt, sl⟩ := o
    rw [q] at h
    cases oc with
    | type c =>
      cases dt with
      | cls cd =>
        obtain ⟨h1, h2⟩ := ba h
        have e1 : c = "type" := of_decide_eq_true h1
        subst e1
        obtain ⟨nm, bs, mro, ns, qn, hd, sn, sb, ab, col, del⟩ := cd
        obtain ⟨sl⟩ := sl
        dsimp only at h2
        split at h2
        · rename_i C' bm' k0 k1 k2 k3 n k5
          obtain ⟨a1, h3⟩ := ba h2
          obtain ⟨a2, h4⟩ := ba h3
          obtain ⟨a3, h5⟩ := ba h4
          obtain ⟨a4, a5⟩ := ba h5
          have z1 := of_decide_eq_true a1
          have z2 := of_decide_eq_true a2
          have z3 := beq_iff_eq.mp a5
          subst z1 z2 z3
          simp only [Bool.not_eq_true'] at a3
          subst a3 a4
          exact ⟨nm, qn, ns, bs, sn, sb, ab, col, od, k0, k1, k2, k3, k5, rfl⟩
        · cases h2
      | _ => cases h
    | _ => cases dt <;> cases h
def eB (prog : Program) (bm : String → List Value) (K : Frag) (x : ED) : Bool :=
  eqO (nsIn K mainGlobals x.nm) (some (some (.ref (ga K x.nm)))) && (ecB K (ga K x.nm) x.nw (bm x.B) && (eqO (findIn K (.ref (ga K x.nm)) "__setattr__") (some (some (.builtin "object.__setattr__"))) &&
  (eqO (findIn K (.ref (ga K x.nm)) "__getattribute__") (some (some (.builtin "BaseException.__getattribute__"))) && (eqO (findIn K (.ref (ga K x.nm)) "__getattr__") (some none) && ((x.fs.all fun f => eqO (findIn K (.ref (ga K x.nm)) f) (some none)) &&
  (eqO (findIn K (.ref (ga K x.nm)) "__init__") (some (some (.ref (ma K (ga K x.nm) "__init__")))) && (decide (typeIn K (.ref (ma K (ga K x.nm) "__init__")) = some (.type "function")) && (keepIn K (.ref (ga K x.nm)) &&
  (decide (subIn K (.ref (ga K x.nm)) (.type "BaseException") = some true) && (decide (subIn K (.ref (ga K x.nm)) (.type x.B) = some true) && (hasDictIn K (ga K x.nm) &&
  (decide (mroIn K (ga K x.nm) (.ref (ga K x.nm)) = some true) && (eqO (ks_superIn K (ga K x.nm) (ga K x.nm) "__init__") (some (some (.builtin x.ini))) &&
  (eqO (nsIn K cStatics "thirdparty.any") (some none) && (eqO (nsIn K mainGlobals "super") (some none) &&
  (eqO (findIn K (.ref (ga K x.nm)) "__class__") (some (some (.builtin "object.__class__"))) && (eqO (specialIn K (.builtin "object.__class__") "__get__") (some (some (.builtin "getset_descriptor.__get__"))) && (decide (takesIn K (.builtin "object.__class__") = some true) &&
  (decide (mroIn K (ga K x.nm) (.type "object") = some true) && fnB prog K (ga K x.nm) (ma K (ga K x.nm) "__init__"))))))))))))))))))))
theorem eB_ok {prog : Program} {bmf : String → List Value} {K : Frag} {h : Heap} {mg : Str → Option Value} (X : K.In h) (G : h.Ns mainGlobals mg) {x : ED} (c : eB prog bmf K x = true) (htop : (prog.main.scope.names.lookup ("super" : Str)).isSome = false)
    (b : BaseE x.B x.nw x.ini (bmf x.B)) :
    ECls prog K mg x.nm (ga K x.nm) (ma K (ga K x.nm) "__init__") x.B x.nw x.ini (bmf x.B) ∧ (∀ f ∈ x.fs, findIn K (.ref (ga K x.nm)) f = some none) ∧ fnB prog K (ga K x.nm) (ma K (ga K x.nm) "__init__") = true := by
  unfold eB at c
  simp only [Bool.and_eq_true] at c
  obtain ⟨c1, c2, c3, c4, c5, c6, c7, c8, c9, c10, c11, c13, c15, c16, c17, c18, d1, d2, d3, d4, c19⟩ := c
  exact ⟨{ base := b, gC := mg_of X G (eqO_ok c1), cls := ecB_ok c2, sa := eqO_ok c3, ga := eqO_ok c4, gg := eqO_ok c5, iC := eqO_ok c7, tC := of_decide_eq_true c8, kC := c9, exC := of_decide_eq_true c10, beC := of_decide_eq_true c11, hdC := c13, mC := of_decide_eq_true c15, su := eqO_ok c16, tp := eqO_ok c17, noS := mg_none_of X G (eqO_ok c18), top := htop, cl1 := eqO_ok d1, cl2 := eqO_ok d2, cl3 := of_decide_eq_true d3, cl4 := of_decide_eq_true d4 },
    fun f hf => eqO_ok (List.all_eq_true.mp c6 f hf), c19⟩
theorem eFn0_ok {prog : Program} {K : Frag} {x : ED} (c19 : fnB prog K (ga K x.nm) (ma K (ga K x.nm) "__init__") = true) (no : ∀ f ∈ x.fs, findIn K (.ref (ga K x.nm)) f = some none) (e : fnE K x = x.val) (fok : FOk0) (hfs : x.fs = [])
    {p0 q1 q2 q3 q5 q6 : Pos} (eA : defArgs x.st = iA0  p0) (eB : defBody x.st = iB0  q1 q2 q3 q5 q6) (eS : defScope x.st = iS0) (hpos : (q3.endLine == q5.line) = true) :
    EFn0 prog K (ga K x.nm) (ma K (ga K x.nm) "__init__") := by
  refine { fok := fok, fn := ?_ }
  unfold fnB at c19
  unfold fnE ED.val at e
  cases q : K.lookup (ma K (ga K x.nm) "__init__") with
  | none => rw [q] at c19; cases c19
  | some o =>
    obtain ⟨oc, od, dt, osl⟩ := o
    rw [q] at c19 e
    cases dt with
    | func fd =>
      obtain ⟨n1, n2, n3, n4, n5, n6, n7, n8, n9, n10, n11, n12, n13, n14, n15⟩ := fd
      simp only [Option.some.injEq, Prod.mk.injEq] at e
      obtain ⟨h1, h3, h4, h5, h6, h8⟩ := e
      rw [eA] at h3
      rw [eB] at h4
      rw [eS] at h5
      subst h1 h3 h4 h5 h6 h8
      dsimp only at c19
      simp only [Bool.and_eq_true, decide_eq_true_eq] at c19
      obtain ⟨d1, d2, d3⟩ := c19
      subst d1 d2
      split at d3
      · rename_i cda y cc
        simp only [Bool.and_eq_true, decide_eq_true_eq] at d3
        obtain ⟨m1, m2, m3, m4⟩ := d3
        subst m1
        refine ⟨n2, oc, od, n10, n11, n12, cda, n14, cc, osl, p0, q1, q2, q3, q5, q6, rfl, m2, ?_, ?_, hpos⟩
        · split at m3
          · rename_i _ _ vs _ e1
            split at m3
            · rename_i file tf e2
              exact ⟨_, _, vs, _, file, tf, e1, e2, m3⟩
            · cases m3
          · cases m3
        · split at m4
          · rename_i _ _ D _ e1
            have z := of_decide_eq_true m4
            subst z
            exact ⟨_, _, _, e1⟩
          · cases m4
      · cases d3
    | _ => cases c19
theorem eFn1_ok {prog : Program} {K : Frag} {x : ED} {f1 : Str} (c19 : fnB prog K (ga K x.nm) (ma K (ga K x.nm) "__init__") = true) (no : ∀ f ∈ x.fs, findIn K (.ref (ga K x.nm)) f = some none) (e : fnE K x = x.val) (fok : FOk1 f1) (hfs : x.fs = [f1])
    {p0 p1 q1 q2 q3 q5 q6 a1 b1 c1 d1 e1 : Pos} (eA : defArgs x.st = iA1 f1 p0 p1) (eB : defBody x.st = iB1 f1 q1 q2 q3 q5 q6 a1 b1 c1 d1 e1) (eS : defScope x.st = iS1 f1) (hpos : (q3.endLine == q5.line) = true) :
    EFn1 prog K (ga K x.nm) (ma K (ga K x.nm) "__init__") f1 := by
  refine { fok := fok, no1 := no f1 (by rw [hfs]; simp), fn := ?_ }
  unfold fnB at c19
  unfold fnE ED.val at e
  cases q : K.lookup (ma K (ga K x.nm) "__init__") with
  | none => rw [q] at c19; cases c19
  | some o =>
    obtain ⟨oc, od, dt, osl⟩ := o
    rw [q] at c19 e
    cases dt with
    | func fd =>
      obtain ⟨n1, n2, n3, n4, n5, n6, n7, n8, n9, n10, n11, n12, n13, n14, n15⟩ := fd
      simp only [Option.some.injEq, Prod.mk.injEq] at e
      obtain ⟨h1, h3, h4, h5, h6, h8⟩ := e
      rw [eA] at h3
      rw [eB] at h4
      rw [eS] at h5
      subst h1 h3 h4 h5 h6 h8
      dsimp only at c19
      simp only [Bool.and_eq_true, decide_eq_true_eq] at c19
      obtain ⟨d1, d2, d3⟩ := c19
      subst d1 d2
      split at d3
      · rename_i cda y cc
        simp only [Bool.and_eq_true, decide_eq_true_eq] at d3
        obtain ⟨m1, m2, m3, m4⟩ := d3
        subst m1
        refine ⟨n2, oc, od, n10, n11, n12, cda, n14, cc, osl, p0, p1, q1, q2, q3, q5, q6, a1, b1, c1, d1, e1, rfl, m2, ?_, ?_, hpos⟩
        · split at m3
          · rename_i _ _ vs _ e1
            split at m3
            · rename_i file tf e2
              exact ⟨_, _, vs, _, file, tf, e1, e2, m3⟩
            · cases m3
          · cases m3
        · split at m4
          · rename_i _ _ D _ e1
            have z := of_decide_eq_true m4
            subst z
            exact ⟨_, _, _, e1⟩
          · cases m4
      · cases d3
    | _ => cases c19
theorem eFn2_ok {prog : Program} {K : Frag} {x : ED} {f1 f2 : Str} (c19 : fnB prog K (ga K x.nm) (ma K (ga K x.nm) "__init__") = true) (no : ∀ f ∈ x.fs, findIn K (.ref (ga K x.nm)) f = some none) (e : fnE K x = x.val) (fok : FOk2 f1 f2) (hfs : x.fs = [f1, f2])
    {p0 p1 p2 q1 q2 q3 q5 q6 a1 a2 b1 c1 d1 e1 b2 c2 d2 e2 : Pos} (eA : defArgs x.st = iA2 f1 f2 p0 p1 p2) (eB : defBody x.st = iB2 f1 f2 q1 q2 q3 q5 q6 a1 a2 b1 c1 d1 e1 b2 c2 d2 e2) (eS : defScope x.st = iS2 f1 f2) (hpos : (q3.endLine == q5.line) = true) :
    EFn2 prog K (ga K x.nm) (ma K (ga K x.nm) "__init__") f1 f2 := by
  refine { fok := fok, no1 := no f1 (by rw [hfs]; simp), no2 := no f2 (by rw [hfs]; simp), fn := ?_ }
  unfold fnB at c19
  unfold fnE ED.val at e
  cases q : K.lookup (ma K (ga K x.nm) "__init__") with
  | none => rw [q] at c19; cases c19
  | some o =>
    obtain ⟨oc, od, dt, osl⟩ := o
    rw [q] at c19 e
    cases dt with
    | func fd =>
      obtain ⟨n1, n2, n3, n4, n5, n6, n7, n8, n9, n10, n11, n12, n13, n14, n15⟩ := fd
      simp only [Option.some.injEq, Prod.mk.injEq] at e
      obtain ⟨h1, h3, h4, h5, h6, h8⟩ := e
      rw [eA] at h3
      rw [eB] at h4
      rw [eS] at h5
      subst h1 h3 h4 h5 h6 h8
      dsimp only at c19
      simp only [Bool.and_eq_true, decide_eq_true_eq] at c19
      obtain ⟨d1, d2, d3⟩ := c19
      subst d1 d2
      split at d3
      · rename_i cda y cc
        simp only [Bool.and_eq_true, decide_eq_true_eq] at d3
        obtain ⟨m1, m2, m3, m4⟩ := d3
        subst m1
        refine ⟨n2, oc, od, n10, n11, n12, cda, n14, cc, osl, p0, p1, p2, q1, q2, q3, q5, q6, a1, a2, b1, c1, d1, e1, b2, c2, d2, e2, rfl, m2, ?_, ?_, hpos⟩
        · split at m3
          · rename_i _ _ vs _ e1
            split at m3
            · rename_i file tf e2
              exact ⟨_, _, vs, _, file, tf, e1, e2, m3⟩
            · cases m3
          · cases m3
        · split at m4
          · rename_i _ _ D _ e1
            have z := of_decide_eq_true m4
            subst z
            exact ⟨_, _, _, e1⟩
          · cases m4
      · cases d3
    | _ => cases c19
/-! ### the hook -/
def asS (g : Addr → Option Obj) : Nat → List Addr
  | 0 => [mainGlobals, cStatics, sysModules]
  | n + 1 => growD g (asS g n)
def obsE (n : Nat) (prog : Program) (bm : String → List Value) (fa : List Fa) (fn : List DefD) (xs : List ED) (ex : Frag → Bool) (g : Addr → Option Obj) : AlM :=
  (obsD fa fn (frG g (asS g n)), (xs.all fun x => eB prog bm (frG g (asS g n)) x) && ex (frG g (asS g n)), xs.map fun x => fnE (frG g (asS g n)) x)
def valE (fn : List DefD) (xs : List ED) : AlM := (valD fn, true, xs.map ED.val)
structure SaysEr (prog : Program) (bm : String → List Value) (fa : List Fa) (fn : List DefD) (xs : List ED) (ex : Frag → Bool) (K : Frag) : Prop where
  d : SaysD fa fn K
  x : ∀ x ∈ xs, eB prog bm K x = true ∧ fnE K x = x.val
  e : ex K = true
theorem saysEr_of {n : Nat} {prog : Program} {bm : String → List Value} {fa : List Fa} {fn : List DefD} {xs : List ED} {ex : Frag → Bool} {g : Addr → Option Obj} (e : obsE n prog bm fa fn xs ex g = valE fn xs) : SaysEr prog bm fa fn xs ex (frG g (asS g n)) := by
  have e1 := congrArg (fun z : AlM => z.1) e
  have e2 := congrArg (fun z : AlM => z.2.1) e
  have e3 := congrArg (fun z : AlM => z.2.2) e
  obtain ⟨b1, b2⟩ := ba e2
  exact ⟨e1, fun x hx => ⟨List.all_eq_true.mp b1 x hx, map_eq_at e3 x hx⟩, b2⟩
def hookE (n : Nat) (prog : Program) (bm : String → List Value) (fa : List Fa) (fn : List DefD) (xs : List ED) (ex : Frag → Bool) : PySem.W.Hook where
  α := AlM
  obs := fun s => obsE n prog bm fa fn xs ex s.heap.get?
  val := fun _ => valE fn xs
  says := fun w h => ∃ K : PySem.W.Frag, K.In h ∧ SaysEr prog bm fa fn xs ex K
  of := fun _ _ e => ⟨_, frG_in, saysEr_of e⟩
  keeps := fun _ _ _ ⟨K, hK, c⟩ k => ⟨K, PySem.W.Frag.In.keeps hK k, c⟩
theorem obsE_eq {n : Nat} {prog : Program} {bm : String → List Value} {fa : List Fa} {fn : List DefD} {xs : List ED} {ex : Frag → Bool} {g : Addr → Option Obj} {s : Shared} (h : ∀ a, g a = s.heap.get? a) : obsE n prog bm fa fn xs ex g = (hookE n prog bm fa fn xs ex).obs s := by
  have e : g = s.heap.get? := funext h
  rw [e] <;> rfl
end MCH
namespace MCH
open PySem PySem.Spec PyProof.Rows L2 He PySem.W PySem.MCX PySem.MEX
/-! ### the hook with errors over any base, properties and tables -/
abbrev AlQ : Type := AlP × List FnV × List (Option (List (Option (Str × Int))))
def obsQ (n : Nat) (prog : Program) (bm : String → List Value) (fa : List Fa) (fn : List DefD) (xs : List XD) (ps : List PD) (es : List ED) (ts : List He.Tab) (ex : Frag → Bool) (g : Addr → Option Obj) : AlQ :=
  (obsP n prog fa fn xs ps (fun K => (es.all fun x => eB prog bm K x) && ex K) g, es.map (fun x => fnE (frG g (asM g n)) x), ts.map fun t => He.dicW (frG g (asM g n)) (t.1 (frG g (asM g n))))
def valQ (fn : List DefD) (xs : List XD) (ps : List PD) (es : List ED) (ts : List He.Tab) (w : World) : AlQ := (valP fn xs ps, es.map ED.val, ts.map fun t => some (He.keysIn w.params t.2))
structure SaysQ (prog : Program) (bm : String → List Value) (fa : List Fa) (fn : List DefD) (xs : List XD) (ps : List PD) (es : List ED) (ts : List He.Tab) (ex : Frag → Bool) (w : World) (K : Frag) : Prop where
  p : SaysP prog fa fn xs ps (fun K => (es.all fun x => eB prog bm K x) && ex K) K
  x : ∀ x ∈ es, eB prog bm K x = true ∧ fnE K x = x.val
  t : ∀ t ∈ ts, He.dicW K (t.1 K) = some (He.keysIn w.params t.2)
  e : ex K = true
theorem saysQ_of {n : Nat} {prog : Program} {bm : String → List Value} {fa : List Fa} {fn : List DefD} {xs : List XD} {ps : List PD} {es : List ED} {ts : List He.Tab} {ex : Frag → Bool} {w : World} {g : Addr → Option Obj} (e : obsQ n prog bm fa fn xs ps es ts ex g = valQ fn xs ps es ts w) : SaysQ prog bm fa fn xs ps es ts ex w (frG g (asM g n)) := by
  have e1 := congrArg (fun z : AlQ => z.1) e
  have e2 := congrArg (fun z : AlQ => z.2.1) e
  have e3 := congrArg (fun z : AlQ => z.2.2) e
  have c := saysP_of e1
  obtain ⟨b1, b2⟩ := ba c.m.e
  exact ⟨c, fun x hx => ⟨List.all_eq_true.mp b1 x hx, map_eq_at e2 x hx⟩, fun t ht => map_eq_at e3 t ht, b2⟩
def hookQ (n : Nat) (prog : Program) (bm : String → List Value) (fa : List Fa) (fn : List DefD) (xs : List XD) (ps : List PD) (es : List ED) (ts : List He.Tab) (ex : Frag → Bool) : PySem.W.Hook where
  α := AlQ
  obs := fun s => obsQ n prog bm fa fn xs ps es ts ex s.heap.get?
  val := fun w => valQ fn xs ps es ts w
  says := fun w h => ∃ K : PySem.W.Frag, K.In h ∧ SaysQ prog bm fa fn xs ps es ts ex w K
  of := fun _ _ e => ⟨_, frG_in, saysQ_of e⟩
  keeps := fun _ _ _ ⟨K, hK, c⟩ k => ⟨K, PySem.W.Frag.In.keeps hK k, c⟩
theorem obsQ_eq {n : Nat} {prog : Program} {bm : String → List Value} {fa : List Fa} {fn : List DefD} {xs : List XD} {ps : List PD} {es : List ED} {ts : List He.Tab} {ex : Frag → Bool} {g : Addr → Option Obj} {s : Shared} (h : ∀ a, g a = s.heap.get? a) : obsQ n prog bm fa fn xs ps es ts ex g = (hookQ n prog bm fa fn xs ps es ts ex).obs s := by
  have e : g = s.heap.get? := funext h
  rw [e] <;> rfl
end MCH
namespace L2
open PySem PySem.Spec PyProof.Rows
/-! ### promises where the def's own code object is told -/
section
variable {P : Program} {w : World} {K : PySem.W.Frag} {mg : Str → Option Value} {base : Heap} {CX : CXT} {k : Nat} {f : Addr} {fd : FuncData} {ps : List Str} {sp : Sp}
theorem FunD.okGC {x qual : Str} {params : Arguments} {body : List Stmt} {scope : Scope} {dvs : List V} {kws : List (Str × V)} {N : List Str} (F : FunD K x qual params body scope dvs kws f fd) (S : FnScope N ps scope) (len : ∀ vs H Q E, sp vs H Q E → vs.length = ps.length)
    (hbody : ∀ (A : Around) (outer : List Env) (s : Shared) (H : Hp) (vs : List V) (Q : VK) (E : XK), A.guards = some [] → Room k (A.deeper (envOfC qual scope s.heap.objs.size f fd.code)) → sp vs H Q E →
      ∃ t, PSs (cxOf CX P w K mg base N qual scope f fd.code A outer s H E) body t ∧ t { nx := fun _ H' => Q .non H', rt := Q } (start N vs) H) : FnG P w K mg base CX (k + 1) f fd ps sp := by
  obtain ⟨oc, od, dV, kV, doc, pm, an, cdv, ct, osl, rfl, lk, hcd, _, _⟩ := F.ex
  have hbody : ∀ (A : Around) (outer : List Env) (s : Shared) (H : Hp) (vs : List V) (Q : VK) (E : XK), A.guards = some [] → Room k (A.deeper (envOfC qual scope s.heap.objs.size f cdv)) → sp vs H Q E →
      ∃ t, PSs (cxOf CX P w K mg base N qual scope f cdv A outer s H E) body t ∧ t { nx := fun _ H' => Q .non H', rt := Q } (start N vs) H := hbody
  refine ⟨len, fun A outer s H args us vs Q E hgd hr e0 hbn rv hsp => ?_⟩
  have KX : K.In s.heap := e0.mod.kin.keeps fun b o e => (e0.bs b o e).1
  have kinds : ∀ y ∈ ps.zip us, scope.names.lookup y.1 = some .local ∨ (scope.names.lookup y.1 = some .cell ∧ ((cellsFrom (s.heap.objs.size + 1) scope.names []).lookup y.1).isSome = true) := by
    rintro ⟨n, v⟩ hy
    exact (S.par n (List.of_mem_zip hy).1).imp id fun q => ⟨q, PySem.W.cellsFrom_some _ _ _ (.inl q)⟩
  refine codeAny_call_function hr.depth (KX _ _ lk) rfl S.co S.gen rfl (PySem.W.codeRec_of KX hcd) (hbn _ _ _ _ (wpAny_newFunctionEnv_cells S.kind kinds fun env he s1 x => ?_))
  subst he
  refine ⟨(e0.mod.nolimit.keeps fun b o e => (e0.bs b o e).1).keeps x.toInCall.keep, codeAny_func ?_⟩
  obtain ⟨t, ht, hq⟩ := hbody A outer s H vs Q E hgd (hr.deeper _) hsp
  have J0 := inv_start (CX := CX) (E := E) S hr.hd e0 (len _ _ _ _ hsp) rv x
  refine wpAny_mono (ht.run [] s1 (start N vs) H _ J0 hq) (fun fl s' hs => ?_) fun e s' hs => hs
  cases fl with
  | ret u => exact let ⟨v, σ', H', J, rz, q⟩ := hs; ⟨v, H', J.os, J.bare, J.base, J.hok, rz, q⟩
  | next => exact let ⟨σ', H', J, q⟩ := hs; ⟨.non, H', J.os, J.bare, J.base, J.hok, rfl, q⟩
  | brk => exact let ⟨_, _, _, q⟩ := hs; q.elim
  | cont => exact let ⟨_, _, _, q⟩ := hs; q.elim
end
end L2
namespace L2
open PySem PySem.Spec PyProof.Rows LamX
/-! ### f(lambda: ..), where f reads the error that the lambda lets out: the wish is told at f's own slots -/
abbrev zCx (X : Cx) (Ng : List Str) (qg : Str) (sg : Scope) (g : Addr) (cdg : Value) (s : Shared) (H : Hp) : Cx := cxOf L2.CX0 X.prog X.w X.K X.mg X.base Ng qg sg g cdg X.A X.stack s H L2.E0
section
variable {X : Cx} {pins : List (Addr × Obj)} {σ : L2.St} {H HZ : Hp} {s s1 : Shared}
theorem pe_actW {Ng : List Str} {qg : Str} {sg : Scope} {g f c' : Addr} {cdg pm ctv : Value} {params : Arguments} {body : Expr} {scope : Scope} {k i : Nat} {a : Str} {pn : List (Addr × Obj)} {xe : Value → Shared → Prop} {W : WX} {tb : XK → TE} {p1 p2 : Pos}
    (I : Inv X pins σ H s) (L : LamS X.env.scope scope)
    (hf : s.heap.get? f = some (PySem.W.kla_obj "<lambda>" (X.env.qual ++ "<lambda>") params body scope (cloFrom X.env.cells scope.names []) pm c' ctv)) (hfn : H f = none) (hfr : f ∉ frs X.stack)
    (hbind : bindArgs (PySem.W.kla_fn "<lambda>" (X.env.qual ++ "<lambda>") params body scope (cloFrom X.env.cells scope.names []) pm (.ref c') ctv) ⟨[], []⟩ = pure [])
    (tk : Takes ((zCx X Ng qg sg g cdg s H).tr pn xe) W) (hr : Room (k + 1) (X.A.deeper (envOfC qg sg s.heap.objs.size g cdg)))
    (hbody : ∀ (A : Around) (outer : List Env) (s : Shared) (H : Hp) (E : XK), Room k (A.deeper (lamEnv X scope s.heap.objs.size f c')) → PE (lamCx X A outer s H E scope f c') body (tb E))
    (hN : Ng[i]? = some a) (hv : Vis sg a) (hd : (a == ("__debug__" : Str)) = false := by decide) (hcd : (a == ("__classdict__" : Str)) = false := by decide) :
    PE ((zCx X Ng qg sg g cdg s H).tr pn xe) (.Call (.Name a p1) [] [] p2) (fun σZ HZ Q => σZ[i]? = some (some (.ref f)) ∧ HZ c' = some (CodeO c' (X.env.qual ++ "<lambda>")) ∧ ∃ E : XK, (∀ cls d H', E cls d H' → W cls d σZ H') ∧ tb E σ HZ Q) := by
  refine ⟨fun pinsZ sZ σZ HZ Q IZ ⟨hs, hc, E, hE, ht⟩ => ?_⟩
  have hvar := (pe_var (pos := p1) (i := i) hN hv hd hcd).run pinsZ sZ σZ HZ (fun v H1 => v = .ref f ∧ H1 = HZ) IZ ⟨.ref f, hs, rfl, rfl⟩
  refine wpAny_Call_Name_kw (thn hvar fun u s1 ⟨v, H1, I1, r1, ev, eH⟩ => ?_)
  subst ev eH
  cases (show u = Value.ref f from r1)
  have nofr : f ∉ ([] : List Addr) := fun z => nomatch z
  have of1 := I1.base.keep f _ hf hfn hfr nofr
  refine PySem.W.callWith_F0 ⟨_, _, _, _, of1⟩ ?_
  have un : Un (frs X.stack) [] H H1 s.heap s1.heap := I1.base
  obtain ⟨⟨oc, vs, t, hoc, hdc, hvc⟩, _, _⟩ := I1.hok c' _ hc
  have go : codeAny (model X.prog X.w) (X.A.deeper (envOfC qg sg s.heap.objs.size g cdg)) (.call (.ref f) ⟨[], []⟩) (CR (L2.CX X.prog X.w) (envOfC qg sg s.heap.objs.size g cdg :: X.stack) X.prog X.w H1 s1 Q E) s1 := by
    refine PySem.W.kla_callFunE hr.depth of1 rfl L.co L.gen rfl ⟨c', oc, vs, t, rfl, hoc, hdc, hvc⟩ ?_
    rw [hbind]
    refine wpAny_pure (wpAny_newFunctionEnv (fun y hy => (L.own y hy).2) (fun y hy => absurd hy (by simp)) (fun h₁ hns hsb => ⟨I1.nolimit.fresh _ hsb, ?_⟩) L.kind)
    have kp : ∀ b o, s1.heap.get? b = some o → h₁.get? b = some o := fun b o e => hsb.extBut b o (Nat.ne_of_lt (Heap.lt_size e)) (Heap.get?_push_of_some _ e)
    have J := lam_start2 (A := X.A.deeper (envOfC qg sg s.heap.objs.size g cdg)) (E := E) (f := f) (c' := c') (tk := s1.toks + ([] : List (Str × Value)).length) I L I1.env0 hr.hd un hns kp
    refine PySem.W.kla_codeExpr (wpAny_mono ((hbody _ _ s1 H1 E (hr.deeper _)).run [] _ _ H1 Q J ht) (fun v s' ⟨w', H', J', rv, q⟩ => ?_) fun e s' hq => hq)
    exact ⟨w', H', J'.os, J'.bare, J'.base, J'.hok, rv, q⟩
  refine wpAny_call (codeAny_mono go fun r s' hq => ?_)
  match r, hq with
  | .error e, hq => exact tk e s' (XE.of_call I1 hE hq)
  | .ok (.ret u), hq => exact I1.after hq
  | .ok .next, hq => exact hq.elim
  | .ok .brk, hq => exact hq.elim
  | .ok .cont, hq => exact hq.elim
end
/-- the def that calls what it got -/
def GivesW (X : Cx) (Ng : List Str) (x : Str) (sg : Scope) (g : Addr) (cdg : Value) (bg : List Stmt) (a : Str) (q : Str) (TT : (XK → Hp → VK → Prop) → Hp → VK → Prop) : Prop :=
  ∀ (f c' : Addr) (s : Shared) (H : Hp) (Q : VK) (tl : XK → Hp → VK → Prop),
    (∀ (W : WX) (pn : List (Addr × Obj)) (xe : Value → Shared → Prop) (p1 p2 : Pos), Takes ((zCx X Ng x sg g cdg s H).tr pn xe) W →
      PE ((zCx X Ng x sg g cdg s H).tr pn xe) (.Call (.Name a p1) [] [] p2) (fun σZ HZ Q => σZ[0]? = some (some (.ref f)) ∧ HZ c' = some (CodeO c' q) ∧ ∃ E : XK, (∀ cls d H', E cls d H' → W cls d σZ H') ∧ tl E HZ Q)) →
    H c' = some (CodeO c' q) → TT tl H Q → ∃ t, PSs (zCx X Ng x sg g cdg s H).nox bg t ∧ t { nx := fun _ H' => Q .non H', rt := Q } (L2.start Ng [.ref f]) H
section
variable {X : Cx}
/-- x(lambda: body) -/
theorem pe_lamW {T : List (Addr × Str)} {TT : (XK → Hp → VK → Prop) → Hp → VK → Prop} {x a : Str} {g c P : Addr} {k : Nat} {pg : Arguments} {bg : List Stmt} {sg : Scope} {fd : FuncData} {Ng : List Str}
    {params : Arguments} {body : Expr} {scope : Scope} {t : XK → TE} {p lpos pos : Pos} (hg : Gl X x) (hm : X.mg x = some (.ref g)) (F : FunD X.K x x pg bg sg [] [] g fd) (hb : Binds X.K fd [a] []) (Sg : FnScope Ng [a] sg) (hNg : Ng[0]? = some a) (hva : Vis sg a)
    (hG : ∀ cdv, GivesW X Ng x sg g cdv bg a (X.env.qual ++ "<lambda>") TT)
    (TB : TabB X.base X.mg c P) (hcode : X.env.code = .ref c) (hmT : (P, X.env.qual ++ "<lambda>") ∈ T) (hu : ∀ p ∈ T, p.1 = P → p.2 = X.env.qual ++ "<lambda>") (hr : Room (k + 2) X.A) (L : LamS X.env.scope scope) (hdef : defaultsOf params X.env = ([], []))
    (hbind : ∀ (q : Str) (cl : List (Str × Addr)) (pm cv ctv : Value), bindArgs (PySem.W.kla_fn "<lambda>" q params body scope cl pm cv ctv) ⟨[], []⟩ = pure [])
    (hbody : ∀ (A : Around) (outer : List Env) (s : Shared) (H : Hp) (E : XK) (f c' : Addr), Room k (A.deeper (lamEnv X scope s.heap.objs.size f c')) → PE (lamCx X A outer s H E scope f c') body (t E))
    (hdb : (x == ("__debug__" : Str)) = false := by decide) (hd : (a == ("__debug__" : Str)) = false := by decide) (hcd : (a == ("__classdict__" : Str)) = false := by decide) :
    PE X (.Call (.Name x p) [.Lambda params body scope lpos] [] pos) (tLam T TT t) := by
  obtain ⟨⟨oc, od, dV, kV, doc, pm, an, cdv, ct, osl, rfl, lk, hcg, _, _⟩, hk⟩ := F
  refine ⟨fun pins s σ H Q I ⟨hT, h⟩ => ?_⟩
  refine wpAny_Call_Name_kw (ld_glob I hg hm ?_ hdb)
  refine PySem.W.callWith_K (h₀ := X.base) I.ok.mod.kin hk ?_ (by rfl) (by rfl)
  show wpAny _ _ (spliced ((false, eval (.Lambda params body scope lpos) X.env) :: backTo pos (starEach [] X.env))) _ _ s
  have made := fun {Q' : Value → Shared → Prop} hQ => lam_make2 (T := T) (params := params) (body := body) (scope := scope) (pos := lpos) (E := X.xe) (Q := Q') I TB hcode hmT hu hT hdef (L.has I.ok) hQ
  refine Calls.spliced_cons (made fun f c' pm' ctv H1 s' I1 eN T1 hf hfn hfr hco => Calls.spliced_nil ⟨I1.kIn, ?_⟩)
  have go : codeAny (model X.prog X.w) X.A (.call (.ref g) ⟨[.ref f], []⟩) (CR L2.CX0 X.stack X.prog X.w H1 s' Q L2.E0) s' := by
    refine run_ofS (N := Ng) (ps := [a]) (us := [.ref f]) (vs := [.ref f]) lk hcg Sg hr I1.env0 (hb s' [.ref f] I1.kIn rfl) (.cons rfl .nil) rfl fun hr' => ?_
    have act := fun (W : WX) pn xe p1 p2 tk => pe_actW (i := 0) (W := W) (pn := pn) (xe := xe) (p1 := p1) (p2 := p2) (tb := t) I1 L hf hfn hfr (hbind _ _ _ _ _) tk hr' (fun A outer s H E hr2 => hbody A outer s H E f c' hr2) hNg hva hd hcd
    obtain ⟨t', ht', hq'⟩ := hG cdv f c' s' H1 Q (fun E H' Q' => t E σ H' Q') act hco (h H1 eN T1)
    exact ⟨t', ht'.nox, hq'⟩
  refine wpAny_call (codeAny_mono go fun r s2 hq => ?_)
  match r, hq with
  | .error e, hq => exact hq.elim
  | .ok (.ret u), hq => exact I1.after hq
  | .ok .next, hq => exact hq.elim
  | .ok .brk, hq => exact hq.elim
  | .ok .cont, hq => exact hq.elim
end
end L2
namespace L2
open PySem PySem.Spec PyProof.Rows LamX
/-! ### lambdas that call defs which ask for no guards -/
section
variable {X : Cx} {pins : List (Addr × Obj)} {σ : L2.St} {H HZ : Hp} {s s1 : Shared}
theorem pe_actG {Ng : List Str} {qg : Str} {sg : Scope} {g f c' : Addr} {cdg pm ctv : Value} {params : Arguments} {body : Expr} {scope : Scope} {k i : Nat} {a : Str} {pn : List (Addr × Obj)} {xe : Value → Shared → Prop} {W : WX} {tb : XK → TE} {p1 p2 : Pos}
    (I : Inv X pins σ H s) (L : LamS X.env.scope scope)
    (hf : s.heap.get? f = some (PySem.W.kla_obj "<lambda>" (X.env.qual ++ "<lambda>") params body scope (cloFrom X.env.cells scope.names []) pm c' ctv)) (hfn : H f = none) (hfr : f ∉ frs X.stack)
    (hbind : bindArgs (PySem.W.kla_fn "<lambda>" (X.env.qual ++ "<lambda>") params body scope (cloFrom X.env.cells scope.names []) pm (.ref c') ctv) ⟨[], []⟩ = pure [])
    (tk : Takes ((zCx X Ng qg sg g cdg s H).tr pn xe) W) (hr : Room (k + 1) (X.A.deeper (envOfC qg sg s.heap.objs.size g cdg)))
    (hgd : X.A.guards = some [])
    (hbody : ∀ (A : Around) (outer : List Env) (s : Shared) (H : Hp) (E : XK), A.guards = some [] → Room k (A.deeper (lamEnv X scope s.heap.objs.size f c')) → PE (lamCx X A outer s H E scope f c') body (tb E))
    (hN : Ng[i]? = some a) (hv : Vis sg a) (hd : (a == ("__debug__" : Str)) = false := by decide) (hcd : (a == ("__classdict__" : Str)) = false := by decide) :
    PE ((zCx X Ng qg sg g cdg s H).tr pn xe) (.Call (.Name a p1) [] [] p2) (fun σZ HZ Q => σZ[i]? = some (some (.ref f)) ∧ HZ c' = some (CodeO c' (X.env.qual ++ "<lambda>")) ∧ ∃ E : XK, (∀ cls d H', E cls d H' → W cls d σZ H') ∧ tb E σ HZ Q) := by
  refine ⟨fun pinsZ sZ σZ HZ Q IZ ⟨hs, hc, E, hE, ht⟩ => ?_⟩
  have hvar := (pe_var (pos := p1) (i := i) hN hv hd hcd).run pinsZ sZ σZ HZ (fun v H1 => v = .ref f ∧ H1 = HZ) IZ ⟨.ref f, hs, rfl, rfl⟩
  refine wpAny_Call_Name_kw (thn hvar fun u s1 ⟨v, H1, I1, r1, ev, eH⟩ => ?_)
  subst ev eH
  cases (show u = Value.ref f from r1)
  have nofr : f ∉ ([] : List Addr) := fun z => nomatch z
  have of1 := I1.base.keep f _ hf hfn hfr nofr
  refine PySem.W.callWith_F0 ⟨_, _, _, _, of1⟩ ?_
  have un : Un (frs X.stack) [] H H1 s.heap s1.heap := I1.base
  obtain ⟨⟨oc, vs, t, hoc, hdc, hvc⟩, _, _⟩ := I1.hok c' _ hc
  have go : codeAny (model X.prog X.w) (X.A.deeper (envOfC qg sg s.heap.objs.size g cdg)) (.call (.ref f) ⟨[], []⟩) (CR (L2.CX X.prog X.w) (envOfC qg sg s.heap.objs.size g cdg :: X.stack) X.prog X.w H1 s1 Q E) s1 := by
    refine PySem.W.kla_callFunE hr.depth of1 rfl L.co L.gen rfl ⟨c', oc, vs, t, rfl, hoc, hdc, hvc⟩ ?_
    rw [hbind]
    refine wpAny_pure (wpAny_newFunctionEnv (fun y hy => (L.own y hy).2) (fun y hy => absurd hy (by simp)) (fun h₁ hns hsb => ⟨I1.nolimit.fresh _ hsb, ?_⟩) L.kind)
    have kp : ∀ b o, s1.heap.get? b = some o → h₁.get? b = some o := fun b o e => hsb.extBut b o (Nat.ne_of_lt (Heap.lt_size e)) (Heap.get?_push_of_some _ e)
    have J := lam_start2 (A := X.A.deeper (envOfC qg sg s.heap.objs.size g cdg)) (E := E) (f := f) (c' := c') (tk := s1.toks + ([] : List (Str × Value)).length) I L I1.env0 hr.hd un hns kp
    refine PySem.W.kla_codeExpr (wpAny_mono ((hbody _ _ s1 H1 E (by first | exact hgd | simpa [Around.deeper] using hgd) (hr.deeper _)).run [] _ _ H1 Q J ht) (fun v s' ⟨w', H', J', rv, q⟩ => ?_) fun e s' hq => hq)
    exact ⟨w', H', J'.os, J'.bare, J'.base, J'.hok, rv, q⟩
  refine wpAny_call (codeAny_mono go fun r s' hq => ?_)
  match r, hq with
  | .error e, hq => exact tk e s' (XE.of_call I1 hE hq)
  | .ok (.ret u), hq => exact I1.after hq
  | .ok .next, hq => exact hq.elim
  | .ok .brk, hq => exact hq.elim
  | .ok .cont, hq => exact hq.elim
end
section
variable {X : Cx}
/-- x(lambda: body) -/
theorem pe_lamG {T : List (Addr × Str)} {TT : (XK → Hp → VK → Prop) → Hp → VK → Prop} {x a : Str} {g c P : Addr} {k : Nat} {pg : Arguments} {bg : List Stmt} {sg : Scope} {fd : FuncData} {Ng : List Str}
    {params : Arguments} {body : Expr} {scope : Scope} {t : XK → TE} {p lpos pos : Pos} (hg : Gl X x) (hm : X.mg x = some (.ref g)) (F : FunD X.K x x pg bg sg [] [] g fd) (hb : Binds X.K fd [a] []) (Sg : FnScope Ng [a] sg) (hNg : Ng[0]? = some a) (hva : Vis sg a)
    (hG : ∀ cdv, GivesW X Ng x sg g cdv bg a (X.env.qual ++ "<lambda>") TT)
    (TB : TabB X.base X.mg c P) (hcode : X.env.code = .ref c) (hmT : (P, X.env.qual ++ "<lambda>") ∈ T) (hu : ∀ p ∈ T, p.1 = P → p.2 = X.env.qual ++ "<lambda>") (hr : Room (k + 2) X.A) (L : LamS X.env.scope scope) (hdef : defaultsOf params X.env = ([], []))
    (hbind : ∀ (q : Str) (cl : List (Str × Addr)) (pm cv ctv : Value), bindArgs (PySem.W.kla_fn "<lambda>" q params body scope cl pm cv ctv) ⟨[], []⟩ = pure [])
    (hgd : X.A.guards = some []) (hbody : ∀ (A : Around) (outer : List Env) (s : Shared) (H : Hp) (E : XK) (f c' : Addr), A.guards = some [] → Room k (A.deeper (lamEnv X scope s.heap.objs.size f c')) → PE (lamCx X A outer s H E scope f c') body (t E))
    (hdb : (x == ("__debug__" : Str)) = false := by decide) (hd : (a == ("__debug__" : Str)) = false := by decide) (hcd : (a == ("__classdict__" : Str)) = false := by decide) :
    PE X (.Call (.Name x p) [.Lambda params body scope lpos] [] pos) (tLam T TT t) := by
  obtain ⟨⟨oc, od, dV, kV, doc, pm, an, cdv, ct, osl, rfl, lk, hcg, _, _⟩, hk⟩ := F
  refine ⟨fun pins s σ H Q I ⟨hT, h⟩ => ?_⟩
  refine wpAny_Call_Name_kw (ld_glob I hg hm ?_ hdb)
  refine PySem.W.callWith_K (h₀ := X.base) I.ok.mod.kin hk ?_ (by rfl) (by rfl)
  show wpAny _ _ (spliced ((false, eval (.Lambda params body scope lpos) X.env) :: backTo pos (starEach [] X.env))) _ _ s
  have made := fun {Q' : Value → Shared → Prop} hQ => lam_make2 (T := T) (params := params) (body := body) (scope := scope) (pos := lpos) (E := X.xe) (Q := Q') I TB hcode hmT hu hT hdef (L.has I.ok) hQ
  refine Calls.spliced_cons (made fun f c' pm' ctv H1 s' I1 eN T1 hf hfn hfr hco => Calls.spliced_nil ⟨I1.kIn, ?_⟩)
  have go : codeAny (model X.prog X.w) X.A (.call (.ref g) ⟨[.ref f], []⟩) (CR L2.CX0 X.stack X.prog X.w H1 s' Q L2.E0) s' := by
    refine run_ofS (N := Ng) (ps := [a]) (us := [.ref f]) (vs := [.ref f]) lk hcg Sg hr I1.env0 (hb s' [.ref f] I1.kIn rfl) (.cons rfl .nil) rfl fun hr' => ?_
    have act := fun (W : WX) pn xe p1 p2 tk => pe_actG (i := 0) (W := W) (pn := pn) (xe := xe) (p1 := p1) (p2 := p2) (tb := t) I1 L hf hfn hfr (hbind _ _ _ _ _) tk hr' hgd (fun A outer s H E hg2 hr2 => hbody A outer s H E f c' hg2 hr2) hNg hva hd hcd
    obtain ⟨t', ht', hq'⟩ := hG cdv f c' s' H1 Q (fun E H' Q' => t E σ H' Q') act hco (h H1 eN T1)
    exact ⟨t', ht'.nox, hq'⟩
  refine wpAny_call (codeAny_mono go fun r s2 hq => ?_)
  match r, hq with
  | .error e, hq => exact hq.elim
  | .ok (.ret u), hq => exact I1.after hq
  | .ok .next, hq => exact hq.elim
  | .ok .brk, hq => exact hq.elim
  | .ok .cont, hq => exact hq.elim
end
end L2
namespace L2
open PySem PySem.Spec PyProof.Rows
/-! ### sum of a tuple of ints -/
section
variable {prog : Program} {w : World} {A : Around} {E : Value → Shared → Prop} {s : Shared} {l : Addr} {its : List Value} {ns : List Int} {Q : Value → Shared → Prop}
theorem sum_rawT (hh : A.handled = none) (ht : IsTup s.heap l its.toArray) (hi : IntsAre its ns)
    (h : ∀ h' tk t', (∀ b o, s.heap.get? b = some o → h'.get? b = some o) → Q (.int ns.sum t') { s with heap := h', toks := tk }) : wpAny (model prog w) A (call (.builtin "sum") [.ref l]) Q E s := by
  obtain ⟨xs, e⟩ := hi.allInts.items
  have hn : numsOf (intItems xs).toList = ns := by rw [← e]; exact hi.numsOf
  rw [nums_intItems] at hn
  rw [e] at ht
  have hlt : l < s.heap.objs.size := ht.lt
  refine PySem.call_sum_walkG (iter_tuple ht ?_)
  have ht2 := ht.push (o := { cls := .type "tuple_iterator", data := .fields #[.ref l, .int 0 0] })
  have hT : (s.heap.push { cls := .type "tuple_iterator", data := .fields #[.ref l, .int 0 0] }).IsTuple l (intItems xs) := by
    obtain ⟨o, h1, h2, n, h3⟩ := ht2
    exact ⟨o, h1, h2, n, h3⟩
  refine ⟨_, _, _, _, _, _, numAt xs, rfl, PySem.Walks.tuple (A := A.in1) hh _ l (Nat.ne_of_lt hlt) (intItems xs), ⟨⟨_, Heap.get?_push_size _ rfl, rfl, rfl⟩, hT⟩, (fun b hb => ?_), (fun _ _ => intItems_at), fun h' tk t' hk => ?_⟩
  · show b < (s.heap.push _).objs.size
    rw [Heap.size_push]
    rcases List.mem_cons.mp hb with rfl | hb
    · exact Nat.lt_succ_self _
    · rcases List.mem_cons.mp hb with rfl | hb
      · exact Nat.lt_succ_of_lt hlt
      · cases hb
  · have z := h h' tk t' (fun b o e => hk b o (by simp only [List.mem_cons, List.not_mem_nil, or_false]; exact Nat.ne_of_lt (Heap.lt_size e)) (Heap.get?_push_of_some _ e))
    rw [← hn] at z
    have y : Q (.int (preSum (numAt xs) xs.size) t') { s with heap := h', toks := tk } := by
      rw [preSum_eq, List.take_of_length_le (by simp)]
      exact z
    simpa [intItems] using y
end
section
variable {X : Cx}
def rSumT (K : PySem.W.Frag) : List V → Hp → VK → Prop := fun vs H Q => ∃ (a : Addr) (ns : List Int), vs = [V.ref a] ∧ SqT K H a (ns.map V.int) ∧ Q (.int ns.sum) H
theorem cr_sumT (hc : X.calm = true) : CallR X (.builtin "sum") (rSumT X.K) := by
  intro pins s σ H vs us Q I r h
  obtain ⟨a, ns, rfl, hs, q⟩ := h
  obtain ⟨its, rv, ht, _⟩ := I.tuple hs
  rw [Vals.ref1 r]
  exact sum_rawT (I.ok.hd hc) ht rv.ints fun h' tk t' hk => ⟨.int _, H, I.kept hk, ⟨_, rfl⟩, q⟩
end
end L2
namespace L2
open PySem PySem.Spec PyProof.Rows
/-! ### written data: a display as one step -/
/-- what stands in H' and did not in H -/
def newOf (H H' : Hp) : Hp := fun b => if H b = none then H' b else none
theorem newOf_some {H H' : Hp} {b : Addr} {o : HO} (h : newOf H H' b = some o) : H b = none ∧ H' b = some o := by
  unfold newOf at h
  by_cases e : H b = none
  · rw [if_pos e] at h
    exact ⟨e, h⟩
  · rw [if_neg e] at h
    cases h
theorem newOf_of {H H' : Hp} {b : Addr} {o : HO} (h1 : H b = none) (h2 : H' b = some o) : newOf H H' b = some o := by
  unfold newOf
  rw [if_pos h1]
  exact h2
theorem newOf_right {H H1 H2 : Hp} (s : Same H1 H2) : Same (newOf H H1) (newOf H H2) := fun b o e => by
  obtain ⟨a, c⟩ := newOf_some e
  exact newOf_of a (s b o c)
theorem newOf_left {H H1 H2 : Hp} (s : Same H H1) : Same (newOf H1 H2) (newOf H H2) := fun b o e => by
  obtain ⟨a, c⟩ := newOf_some e
  exact newOf_of (s.free a) c
theorem newOf_in {H H' : Hp} : Same (newOf H H') H' := fun b o e => (newOf_some e).2
/-- a heap that knows nothing of p -/
def hid (p : Addr) (H : Hp) : Hp := fun b => if b = p then none else H b
theorem newOf_hid {H H' : Hp} {p : Addr} {o : HO} (h : H p = some o) : Same (newOf H H') (hid p H') := fun b u e => by
  obtain ⟨a, c⟩ := newOf_some e
  unfold hid
  rw [if_neg (fun z => by rw [z, h] at a; cases a)]
  exact c
theorem hid_p {p : Addr} {H : Hp} : hid p H p = none := if_pos rfl
theorem hid_in {p : Addr} {H : Hp} : Same (hid p H) H := fun b o e => by
  unfold hid at e
  by_cases z : b = p
  · rw [if_pos z] at e
    cases e
  · rw [if_neg z] at e
    exact e
/-- what H₀ does not know may change -/
theorem Same.mut {H₀ H : Hp} {p : Addr} {o : HO} (s : Same H₀ H) (h : H₀ p = none) : Same H₀ (upd H p o) := fun b u e => by
  rw [upd_ne (ne_of_none e h)]
  exact s b u e
theorem Same.new' {H : Hp} {p : Addr} {o : HO} (h : H p = none) : Same H (upd H p o) := (Same.refl H).mut h
def tLit (K : PySem.W.Frag) (d : PyData) : TE := fun _ H Q => ∀ v H', Same H H' → Dq K (newOf H H') v d → Q v H'
def tLitA (K : PySem.W.Frag) (ds : List PyData) : TA := fun _ H Q => ∀ vs H', Same H H' → DqA K (newOf H H') vs ds → Q vs H'
/-- a list whose place is told: it may be changed -/
def tLitL (K : PySem.W.Frag) (ds : List PyData) : TE := fun _ H Q => ∀ r vs H', H r = none → Same H H' → Same H (upd H' r (.lst vs)) → H' r = none → DqA K (newOf H H') vs ds → Q (.ref r) (upd H' r (.lst vs))
section
variable {X : Cx} {pos : Pos}
theorem PE.imp {e : Expr} {t t' : TE} (h : PE X e t) (f : ∀ σ H Q, t' σ H Q → t σ H Q) : PE X e t' := ⟨fun pins s σ H Q I q => h.run pins s σ H Q I (f σ H Q q)⟩
theorem PA.imp {es : List Expr} {t t' : TA} (h : PA X es t) (f : ∀ σ H Q, t' σ H Q → t σ H Q) : PA X es t' := ⟨fun p pins s σ H Q I q => h.run p pins s σ H Q I (f σ H Q q)⟩
theorem pl_int {i j} : PE X (.Constant (.int i) j pos) (tLit X.K (.int i)) := pe_int.imp fun _ H Q q => q _ H (Same.refl H) (.int i)
theorem pl_neg {i j} {p : Pos} : PE X (.UnaryOp .USub (.Constant (.int i) j p) pos) (tLit X.K (.int (-i))) := (pe_un un_neg pe_int).imp fun _ H Q q => ⟨i, rfl, q _ H (Same.refl H) (.int (-i))⟩
theorem pl_bl {b j} : PE X (.Constant (.bool b) j pos) (tLit X.K (.bool b)) := pe_bl.imp fun _ H Q q => q _ H (Same.refl H) (.bl b)
theorem pl_non {j} : PE X (.Constant .none j pos) (tLit X.K .none) := pe_non.imp fun _ H Q q => q _ H (Same.refl H) .non
theorem pl_str {x j} (h : x.length ≤ sizeLine := by decide) : PE X (.Constant (.str x) j pos) (tLit X.K (.str x)) := pe_str.imp fun _ H Q q => q _ H (Same.refl H) (.str x h)
theorem pla_nil : PA X [] (tLitA X.K []) := pa_nil.imp fun _ H Q q => q _ H (Same.refl H) .nil
theorem pla_cons {e : Expr} {es : List Expr} {d : PyData} {ds : List PyData} (h : PE X e (tLit X.K d)) (r : PA X es (tLitA X.K ds)) (he : starEach (e :: es) X.env = (false, eval e X.env) :: starEach es X.env := by rfl) : PA X (e :: es) (tLitA X.K (d :: ds)) :=
  (pa_cons h r he).imp fun σ H Q q v H1 s1 hd vs H2 s2 hds => q _ H2 (s1.trans s2) (.cons (hd.up (newOf_right s2)) (hds.up (newOf_left s1)))
theorem pl_tup {es : List Expr} {k : Nat} {ds : List PyData} (h : PA X es (tLitA X.K ds)) (hz : ds.length ≤ sizeLine := by decide) : PE X (.Tuple es k pos) (tLit X.K (.tuple ds)) :=
  (pe_tup h).imp fun σ H Q q vs H1 s1 hds => ⟨by rw [hds.len]; exact hz, fun p hp => q _ _ (s1.trans (Same.new' hp)) (.tup (SqT.of (newOf_of (s1.free hp) upd_same)) (hds.up (newOf_right (Same.new' hp))))⟩
theorem pl_lst {es : List Expr} {ds : List PyData} (h : PA X es (tLitA X.K ds)) (hz : ds.length ≤ sizeLine := by decide) : PE X (.List es pos) (tLit X.K (.list ds)) :=
  (pe_lst h).imp fun σ H Q q vs H1 s1 hds => ⟨by rw [hds.len]; exact hz, fun p hp => q _ _ (s1.trans (Same.new' hp)) (.lst (SqL.of (newOf_of (s1.free hp) upd_same)) (hds.up (newOf_right (Same.new' hp))))⟩
theorem pl_lstL {es : List Expr} {ds : List PyData} (h : PA X es (tLitA X.K ds)) (hz : ds.length ≤ sizeLine := by decide) : PE X (.List es pos) (tLitL X.K ds) :=
  (pe_lst h).imp fun σ H Q q vs H1 s1 hds => ⟨by rw [hds.len]; exact hz, fun p hp => q p vs H1 (s1.free hp) s1 (s1.trans (Same.new' hp)) hp hds⟩
theorem pl_dct : PE X (.Dict [] [] pos) (tLit X.K (.dict [])) := pe_dnewK.imp fun σ H Q q d hd => q _ _ (Same.new' hd) (.dct (newOf_of hd upd_same))
end
end L2
/-! tuple * 0, tuple * 1, tuple * k of one-item tuples -/
namespace L2
open PySem PySem.Spec PyProof.Rows
theorem tuple_mul0 (l : Addr) (a : Value) (n : Nat) (dd : Option Addr) (sl : Array (Option Value)) (u : Tok) :
    Meets (Builtin.«tuple.__mul__» ⟨[.ref l, .int 0 u], []⟩) (fun _ R s => s.heap.get? l = some { cls := .type "tuple", dict := dd, data := .seq #[a] n, slots := sl } ∧
      R (.ok (.ret (Value.ref s.heap.objs.size))) { s with heap := s.heap.push { cls := Value.type "tuple", data := Data.seq #[] } }) :=
  .of_wp fun prog w A R s h => by
    obtain ⟨hp, g, d, tk, os⟩ := s
    obtain ⟨hl, h⟩ := h
    have f1 := AutoSeq1.idx_int
    wp_walk using wpAny_loadPart' hl
    exact ⟨_, rfl, h⟩
theorem tuple_mul1 (l : Addr) (a : Value) (n : Nat) (dd : Option Addr) (sl : Array (Option Value)) (u : Tok) :
    Meets (Builtin.«tuple.__mul__» ⟨[.ref l, .int 1 u], []⟩) (fun _ R s => s.heap.get? l = some { cls := .type "tuple", dict := dd, data := .seq #[a] n, slots := sl } ∧ R (.ok (.ret (Value.ref l))) s) :=
  .of_wp fun prog w A R s h => by
    obtain ⟨hp, g, d, tk, os⟩ := s
    obtain ⟨hl, h⟩ := h
    have f1 := AutoSeq1.idx_int
    wp_walk using wpAny_loadPart' hl
    exact ⟨_, rfl, h⟩
/-- (a,) * k -/
def rRep1 (K : PySem.W.Frag) : R2 := fun x y H Q => ∃ (l : Addr) (k : Nat) (a : V), x = .ref l ∧ y = .int k ∧ SqT K H l [a] ∧ k ≤ 1000 ∧ ∀ p H', Same H H' → SqT K H' p (List.replicate k a) → Q (.ref p) H'
theorem flat1 {α : Type} (a : α) : ∀ k : Nat, (List.replicate k [a]).flatten = List.replicate k a
  | 0 => rfl
  | k + 1 => by rw [List.replicate_succ, List.flatten_cons, flat1 a k, List.replicate_succ]; rfl
theorem op_rep1 {X : Cx} : OpR X (binaryOp .Mult) (rRep1 X.K) := by
  intro pins s σ H x y v u Q I rx ry h
  obtain ⟨l, k, a, rfl, rfl, hT, hk, q⟩ := h
  match k, hk, q with
  | 0, hk, q =>
    cases rx
    obtain ⟨t, rfl⟩ := ry
    obtain ⟨its, r, ⟨⟨cls, dd, data, sl⟩, ho, hc, n, hd⟩, hs⟩ := I.tuple hT
    simp only at hc hd
    subst hc hd
    obtain ⟨b, rfl, rb⟩ := vals1 r
    refine wpAny_binaryOp_repeat_ref (T := "tuple") (U := "int") (by decide) ⟨_, ho, rfl⟩ (fun s' => typeIs_int s' 0 t) noFill_tuple_mul F.fills_int_mul F.slot_int_rmul repeat_tuple F.slot_int_index.lookup
      (call_meets F.slot_int_rmul (typeIs_int s 0 t) F.entry_int_rmul (F.args_int_rmul_2 _ _) (int_rmul_tuple 0 t l #[b] n dd sl)
        ⟨ho, rfl, ⟨_, ho, rfl⟩, call_meets F.slot_tuple_mul ⟨_, ho, rfl⟩ F.entry_tuple_mul (F.args_tuple_mul_2 _ _) (tuple_mul0 l b n dd sl t) ⟨ho, ?_⟩⟩)
    refine ⟨.ref s.heap.objs.size, _, I.laid (t' := s.toks) (o := .tup []) (fun b ob q => Heap.get?_push_of_some _ q) (Nat.le_refl _) ?_, rfl, q _ _ (Same.new' (I.hok.fresh (Nat.le_refl _))) (SqT.of upd_same)⟩
    exact ⟨Nat.zero_le _, [], .nil, IsTup.new _ _⟩
  | 1, hk, q =>
    cases rx
    obtain ⟨t, rfl⟩ := ry
    obtain ⟨its, r, ⟨⟨cls, dd, data, sl⟩, ho, hc, n, hd⟩, hs⟩ := I.tuple hT
    simp only at hc hd
    subst hc hd
    obtain ⟨b, rfl, rb⟩ := vals1 r
    refine wpAny_binaryOp_repeat_ref (T := "tuple") (U := "int") (by decide) ⟨_, ho, rfl⟩ (fun s' => typeIs_int s' 1 t) noFill_tuple_mul F.fills_int_mul F.slot_int_rmul repeat_tuple F.slot_int_index.lookup
      (call_meets F.slot_int_rmul (typeIs_int s 1 t) F.entry_int_rmul (F.args_int_rmul_2 _ _) (int_rmul_tuple 1 t l #[b] n dd sl)
        ⟨ho, rfl, ⟨_, ho, rfl⟩, call_meets F.slot_tuple_mul ⟨_, ho, rfl⟩ F.entry_tuple_mul (F.args_tuple_mul_2 _ _) (tuple_mul1 l b n dd sl t) ⟨ho, ?_⟩⟩)
    exact ⟨.ref l, H, I, rfl, q l H (Same.refl H) hT⟩
  | k + 2, hk, q =>
    refine op_repT pins s σ H _ _ v u Q I rx ry ⟨l, _, [a], rfl, rfl, hT, by simp, by omega, by omega, by simp, fun p hp => ?_⟩
    refine q p _ (Same.new' hp) ?_
    have e : (List.replicate (((k + 2 : Nat) : Int)).toNat [a]).flatten = List.replicate (k + 2) a := by rw [Int.toNat_natCast, flat1]
    rw [← e]
    exact SqT.of upd_same
end L2
namespace L2
open PySem PySem.Spec PyProof.Rows
/-! ### try .. several clauses, each «except X as n» -/
abbrev ClA : Type := Value × Nat × (Addr → Value → Option Addr → TS)
abbrev Ends.un (D : Ends) (i : Nat) : Ends := { nx := fun σ' H' => D.nx (σ'.set i none) H', rt := D.rt, bk := fun σ' H' => D.bk (σ'.set i none) H', ct := fun σ' H' => D.ct (σ'.set i none) H' }
def wManyA (K : PySem.W.Frag) (Wo : WX) (D : Ends) : List ClA → WX
  | [] => Wo
  | (c, i, ts) :: r => fun cls d σ H => ∃ b, PySem.W.exmOne K cls c = some b ∧ (b = true → ∀ a, H a = none → ts a cls d (D.un i) (σ.set i (some (.ref a))) H) ∧ (b = false → wManyA K Wo D r cls d σ H)
inductive HdsA (X : Cx) : List ExceptHandler → List ClA → Prop
  | nil : HdsA X [] []
  | cons {x n : Str} {i : Nat} {c : Value} {ts : Addr → Value → Option Addr → TS} {b₀ : Stmt} {su : List Stmt} {np po : Pos} {hs : List ExceptHandler} {l : List ClA} (hc : Names X x c) (hi : X.N[i]? = some n) (hn : X.env.kindOf n = some .local)
      (hsu : ∀ (a : Addr) (oe : Obj) (cls : Value) (d : Option Addr) (pn : List (Addr × Obj)), Zc cls d oe → (∃ vs, oe.data = .fields vs) → PSs (X.suite a ((a, oe) :: pn)) (b₀ :: su) (ts a cls d)) (r : HdsA X hs l) :
      HdsA X (.ExceptHandler (some (.Name x np)) (some n) (b₀ :: su) po :: hs) ((c, i, ts) :: l)
section
variable {X : Cx} {body : List Stmt} {k₀ : ExceptHandler} {ks : List ExceptHandler} {l : List ClA} {pos : Pos} {tb : WX → TS} {Wo : WX}
theorem ps_try_manyA (e1 : X.stack = X.env :: X.outer) (e2 : X.env.frame = some X.env.locals) (nd : X.N.Nodup) (tk : Takes X Wo)
    (hb : ∀ (W : WX) (pn : List (Addr × Obj)) (xe : Value → Shared → Prop), Takes (X.tr pn xe) W → PassesOwn (model X.prog X.w) X.A X.env xe → PSs (X.tr pn xe) body (tb W))
    (hh : HdsA X (k₀ :: ks) l) : PS X (.Try body (k₀ :: ks) [] [] pos) (fun D σ H => tb (wManyA X.K Wo D l) D σ H) := by
  refine ⟨fun pins s σ H D I hw => ?_⟩
  have ok := I.ok
  have efr : X.A.frames = some (X.env :: X.outer) := by rw [ok.frames, e1]
  refine wpAny_Try_except (wpAny_mono ((hb (wManyA X.K Wo D l) (X.pn ++ pins) _ (fun u s1 xx => ?cat) PassesOwn.looking).run [] s σ H D (I.toTry _) hw) (fun fl s1 sp => ?thru) (fun e s1 he => he))
  case thru =>
    cases fl with
    | next => exact let ⟨σ', H', J', q⟩ := sp; wpAny_execs_nil ⟨σ', H', J'.ofTry ok, q⟩
    | brk => exact let ⟨σ', H', J', q⟩ := sp; ⟨σ', H', J'.ofTry ok, q⟩
    | cont => exact let ⟨σ', H', J', q⟩ := sp; ⟨σ', H', J'.ofTry ok, q⟩
    | ret u => exact let ⟨v, σ', H', J', r, q⟩ := sp; ⟨v, σ', H', J'.ofTry ok, r, q⟩
  case cat =>
    obtain ⟨a, B, sI, pz, σ', H', cls, d, rfl, J0, nb, up, sky, na, os, ag, ww⟩ := xx
    have J : Inv X pins σ' H' sI := J0.ofTry ok
    rw [e1] at sky
    refine Sky.land Zc.steady efr e2 sky fun h3 fl3 up3 => ?_
    have J3 : Inv X pins σ' H' ⟨h3, s1.gens, s1.drawn, s1.toks, s1.os⟩ := J.landed nb fl3.1 (up.trans up3) os ag
    obtain ⟨o3, vs3, g3, z3, d3⟩ := fl3.there
    have out : a ∉ frs (X.env :: X.outer) := fun hm => by
      obtain ⟨_, o', e', nf⟩ := fl3.2.2.1.mem hm
      rw [g3] at e'
      cases e'
      exact nf _ d3
    have nL : a ≠ X.env.locals := fun z => out (List.mem_filterMap.mpr ⟨X.env, List.mem_cons_self, by rw [e2, z]⟩)
    have nF : a ∉ X.fs := fun hm => by
      obtain ⟨e, he, q⟩ := List.mem_filterMap.mp hm
      exact out (List.mem_filterMap.mpr ⟨e, List.mem_cons_of_mem _ he, q⟩)
    have S3 := J3.suite g3 d3 na nL nF
    have go : ∀ {hs : List ExceptHandler} {m : List ClA}, HdsA X hs m → wManyA X.K Wo D m cls d σ' H' → wpAny (model X.prog X.w) X.A (handleBy (.ref a) X.env hs) (SP X pins D) X.xe { s1 with heap := h3 } := by
      intro hs m hk
      induction hk with
      | nil =>
        intro wq
        refine wpAny_handleBy_nil ?_
        obtain ⟨_, _, _, oe, vs, T, oT, _, ge, _, gd, gt, _⟩ := id fl3
        have last : wpAny (model X.prog X.w) X.A (setFlight (.ref a) X.env.frame) (fun _ s4 => wpAny (model X.prog X.w) X.A (throw (.ref a) : Sem Flow) (SP X pins D) X.xe s4) X.xe ⟨h3, s1.gens, s1.drawn, s1.toks, s1.os⟩ := by
          rw [e2]
          exact HandSPX.setFlight_upZ fl3 fun h4 hh4 up4 => wpAny_throw (tk _ _ ⟨a, B, sI, pins, σ', H', cls, d, rfl, J, nb, (up.trans up3).trans up4, .inr (.inr (by rw [e1]; exact hh4)), na, os, ag, wq⟩)
        unfold PySem.passOn
        refine wpAny_bind (wpAny_field ge gd gt ?_)
        rw [if_neg (by simp : ¬ ((Value.ref T == Value.none) = true))]
        first | exact wpAny_bind (wpAny_pure (wpAny_bind last)) | exact wpAny_bind last
      | @cons x n i c ts b₀ su np po hs2 l2 hc hi hn hsu r ih =>
        rintro ⟨b, eb, yes, no⟩
        refine wpAny_handleBy_cons (codeAny_handlers_test ?_) (fun q => nomatch q)
        have L1 : PySem.W.Looks (model X.prog X.w) h3 (typeOf (.ref a)) cls := fun A Q E s k q => wpAny_typeOf_ref (k _ _ g3) (by rw [z3.1]; exact q)
        have L2' := PySem.W.exm_one (M := model X.prog X.w) J3.kIn L1 eb
        have look : ∀ {Q E : Value → Shared → Prop}, Q c ⟨h3, s1.gens, s1.drawn, s1.toks, s1.os⟩ → wpAny (model X.prog X.w) (X.A.mark (some (.ref a))) (eval (.Name x np) X.env) Q E ⟨h3, s1.gens, s1.drawn, s1.toks, s1.os⟩ := fun {Q E} q => by
          obtain ⟨hg, hdb, hm | ⟨hm, hv, hnn⟩⟩ := hc
          · exact ld_glob (X := X.suite a ((a, o3) :: (X.pn ++ pins))) S3 hg hm q hdb
          · exact ld_blt (X := X.suite a ((a, o3) :: (X.pn ++ pins))) S3 hg hm hv q hnn hdb
        refine look (L2'.here ?_)
        cases b with
        | false => exact ih (no rfl)
        | true =>
          refine codeAny_handlers_suite_as (HandSPX.lands_againZ fl3 fun h4 fl4 up4 => ?_)
          have J4 : Inv X pins σ' H' ⟨h4, s1.gens, s1.drawn, s1.toks, s1.os⟩ := J.landed nb fl4.1 ((up.trans up3).trans up4) os ag
          obtain ⟨o4, vs4, g4, z4, d4⟩ := fl4.there
          have S4 := J4.suite g4 d4 na nL nF
          refine store_ok (X := X.suite a ((a, o4) :: (X.pn ++ pins))) (v := .ref a) S4 nd hi (.inl hn) rfl (fun s5 S5 => ?_) (.inr hn)
          refine wpAny_mono ((hsu a o4 cls d (X.pn ++ pins) z4 ⟨_, d4⟩).run [] s5 _ H' _ S5 (yes rfl a na)) (fun fl s6 sp => ?_) (fun _ _ z => z.elim)
          have fin : ∀ {σ6 : St} {H6 : Hp} {Q : Shared → Prop}, Inv (X.suite a ((a, o4) :: (X.pn ++ pins))) [] σ6 H6 s6 → (∀ s7, Inv X pins (σ6.set i none) H6 s7 → Q s7) →
              wpAny (model X.prog X.w) X.A (do bindName X.env n .none; unbindBehindTheSuite X.env n po) (fun _ s7 => Q s7) X.xe s6 := fun S6 hq => gone_ok (S6.unsuite ok) nd hi hn hq
          cases fl with
          | next => exact let ⟨_, _, S6, q6⟩ := sp; fin S6 fun s7 J7 => ⟨_, _, J7, q6⟩
          | brk => exact let ⟨_, _, S6, q6⟩ := sp; fin S6 fun s7 J7 => ⟨_, _, J7, q6⟩
          | cont => exact let ⟨_, _, S6, q6⟩ := sp; fin S6 fun s7 J7 => ⟨_, _, J7, q6⟩
          | ret u => exact let ⟨_, _, _, S6, r6, q6⟩ := sp; fin S6 fun s7 J7 => ⟨_, _, _, J7, r6, q6⟩
    exact go hh ww
end
end L2
namespace PySem
namespace MCX
open PySem.W PySem.Calls PyProof.Rows PySem.HandSPX
/-- a made error: its own dict holds f -/
structure OwnMade (f : Str) (h h' : Heap) (e C d : Addr) (v : Value) : Prop where
  keep : ∀ b o, h.get? b = some o → h'.get? b = some o
  new : h.objs.size ≤ e
  obj : ∃ oe vs, h'.get? e = some oe ∧ oe.cls = .ref C ∧ oe.dict = some d ∧ oe.data = .fields vs ∧ vs[1]? = some .none
  dbig : h.objs.size ≤ d
  dne : d ≠ e
  ns : h'.Ns1 d (fun y => if y = f then some v else none)
section
variable {prog : Program} {w : World} {A : Around} {R : Result → Shared → Prop} {s : Shared} {K : Frag} {mg : Str → Option Value} {nm f : Str} {C fI : Addr}
theorem x_made (T : XTxt prog K mg nm f C fI) {v : Value} (X : K.In s.heap) (hlim : s.heap.NoLimit) (hroom : A.depth + 1 < recursionLimit)
    (hG : s.heap.Ns mainGlobals mg) (hB : ∃ mb, s.heap.Ns builtinsNs mb ∧ ∀ x : Str, x ≠ "__name__" → mb x = bootBuiltins x)
    (hq : ∀ h' tk e d, OwnMade f s.heap h' e C d v → R (.ok (.ret (.ref e))) { s with heap := h', toks := tk }) :
    codeAny (model prog w) A (.call (.ref C) ⟨[v], []⟩) R s := by
  obtain ⟨cnm, q, N, bs, bm, sn, sub, ab, col, dd, k0, k1, k2, k3, k5, hC, hbm⟩ := T.cls
  obtain ⟨hp, g, dr, tk, os⟩ := s
  have k : ∀ b o, hp.get? b = some o → ((hp.push (kdv_tup [v])).push (excO C hp.objs.size)).get? b = some o := fun b o e => Heap.get?_push_of_some _ (Heap.get?_push_of_some _ e)
  have hget : ((hp.push (kdv_tup [v])).push (excO C hp.objs.size)).get? (hp.objs.size + 1) = some (excO C hp.objs.size) := by heap_get
  have hnx : K.lookup (hp.objs.size + 1) = none := by
    cases e : K.lookup (hp.objs.size + 1) with
    | none => rfl
    | some o =>
      have z : hp.get? (hp.objs.size + 1) = some o := X _ _ e
      exact absurd (Nat.lt_of_succ_lt (Heap.lt_size z)) (Nat.lt_irrefl _)
  refine call_own F.excBase_ValueError (fun X => refsVE_contains X bm hbm) (X _ _ hC) (looks_findIn X T.iC) (fun self => bind_fn X self T.tC) (by rw [sizeLine_eq]; exact (by decide : 1 ≤ 16777216)) ?_
  refine sup_init (s := ⟨(hp.push (kdv_tup [v])).push (excO C hp.objs.size), g, dr, tk, os⟩) T (X.keeps k) (hlim.keeps k) hget hnx hroom (hG.keeps k) (let ⟨mb, b1, b2⟩ := hB; ⟨mb, b1.keeps k, b2⟩) fun h' tk' dx t1 ⟨k', hx, dn, dne, hns⟩ => ?_
  have old : ∀ b o, hp.get? b = some o → h'.get? b = some o := fun b o e => k' b o (Nat.ne_of_lt (Nat.lt_succ_of_lt (Heap.lt_size e))) (k b o e)
  have z : hp.objs.size + 1 + 1 ≤ dx := by
    first
      | (simpa only [Heap.size_push] using dn)
      | exact dn
      | (have q := dn; rw [Heap.size_push, Heap.size_push] at q; exact q)
  exact ⟨rfl, hq h' tk' (hp.objs.size + 1) dx ⟨old, Nat.le_succ _, ⟨_, _, hx, rfl, rfl, rfl, rfl⟩, Nat.le_trans (Nat.le_trans (Nat.le_succ _) (Nat.le_succ _)) z, dne, hns⟩⟩
end
end MCX
end PySem
namespace L2
open PySem PySem.Spec PyProof.Rows
theorem relO_one {g : Str} {v : V} {v' : Value} (r : RelV v v') (f : Str) : RelO (List.lookup f [(g, v)]) (if f = g then some v' else none) := by
  by_cases hw : f = g
  · subst hw
    rw [if_pos rfl]
    have q : List.lookup f [(f, v)] = some v := by simp [List.lookup]
    rw [q]
    exact r
  · rw [if_neg hw]
    have qw : (f == g) = false := by simpa using hw
    have q2 : List.lookup f [(g, v)] = none := by simp [List.lookup, qw]
    rw [q2]
    trivial
section
variable {X : Cx} {nm f : Str} {C fI : Addr}
/-- nm(e) -/
def tMkX (f : Str) (C : Addr) (ta : TA) : St → Hp → XK → Prop := fun σ H Q => ta σ H fun vs H1 => ∃ v, vs = [v] ∧ ∀ d, H1 d = none → Q (.ref C) (some d) (upd H1 d (.xd [(f, v)]))
theorem pmk_x {a : Expr} {ta : TA} {p pos : Pos} {k : Nat} (T : PySem.MCX.XTxt X.prog X.K X.mg nm f C fI) (hr : Room k X.A) (ha : PA X [a] ta) (hg : Gl X nm := by rfl) (hd : (nm == ("__debug__" : Str)) = false := by decide)
    (he : starEach (a :: []) X.env = (false, eval a X.env) :: starEach [] X.env := by rfl) (hpl : (backTo pos (starEach [] X.env)).any (·.1) = false := by rfl) :
    PMk X (.Call (.Name nm p) [a] [] pos) (tMkX f C ta) := by
  intro pins s σ H Q I h
  refine wpAny_Call_Name_kw (ld_glob I hg T.gC ?_ hd)
  refine PySem.W.callWith_K (h₀ := X.base) I.ok.mod.kin T.kC (thn (ha.run pos pins s σ H _ I h) fun us s1 hh => ?_) he hpl
  obtain ⟨vs, H1, I1, r1, v, ev, q1⟩ := hh
  subst ev
  refine ⟨I1.kIn, ?_⟩
  cases r1 with
  | cons rv rn =>
    rename_i v' us'
    cases rn
    show wpAny _ _ (call (.ref C) [v']) _ _ _
    have hlim := I1.nolimit
    have hG : s1.heap.Ns mainGlobals X.mg := I1.ok.mod.glob.keeps I1.bk
    have hB : ∃ mb, s1.heap.Ns builtinsNs mb ∧ ∀ x : Str, x ≠ "__name__" → mb x = bootBuiltins x := let ⟨mb, b1, b2⟩ := I1.ok.mod.blt; ⟨mb, b1.keeps I1.bk, b2⟩
    obtain ⟨hp, g, dr, tk, os⟩ := s1
    refine wpAny_call (PySem.MCX.x_made T I1.kIn hlim (by have := hr.dp; omega) hG hB fun h' tk' e d M => ?_)
    show MkP X pins σ Q (.ref e) ⟨h', g, dr, tk', os⟩
    obtain ⟨oe, fv, hoe, hc, hd, hdat, h1⟩ := M.obj
    have hns := M.ns
    obtain ⟨G', g1, g2⟩ := restrict h' fun b => decide (b ≠ e)
    have gk : ∀ b, b ≠ e → G'.get? b = h'.get? b := fun b hb => g1 b (decide_eq_true hb)
    have ge : G'.get? e = none := g2 e (by simp)
    have old : ∀ b o, hp.get? b = some o → G'.get? b = some o := fun b o q => (gk b (Nat.ne_of_lt (Nat.lt_of_lt_of_le (Heap.lt_size q) M.new))).trans (M.keep b o q)
    have ob : ObjOk X.prog X.w (upd H1 d (.xd [(f, v)])) G' d (.xd [(f, v)]) :=
      ⟨_, hns.at (fun o q => (gk d M.dne).trans q), fun g => relO_one rv g⟩
    have J : Inv X pins σ (upd H1 d (.xd [(f, v)])) ⟨G', g, dr, tk', os⟩ := I1.laid (t' := tk') old M.dbig ob
    refine ⟨e, oe, fv, ⟨G', g, dr, tk', os⟩, _, .ref C, some d, rfl, J, fun b o q => ?_, ge, hoe, ⟨hc, hd⟩, hdat, h1, ?_, rfl, I1.bare, raises_own T.exC T.tyC, q1 d (I1.hok.fresh M.dbig)⟩
    · by_cases hb : b = e
      · have q' : G'.get? b = some o := q
        rw [hb, ge] at q'; cases q'
      · exact (gk b hb).symm.trans q
    · rw [upd_ne (Ne.symm M.dne)]
      exact I1.hok.fresh M.new
/-- raise nm(e) -/
def tRaiseX (f : Str) (C : Addr) (W : WX) (ta : TA) : TS := fun _ σ H => tMkX f C ta σ H fun cls d H' => W cls d σ H'
theorem ps_raiseX {a : Expr} {ta : TA} {W : WX} {p pos pos2 : Pos} {k : Nat} (hc : X.calm = true) (T : PySem.MCX.XTxt X.prog X.K X.mg nm f C fI) (hr : Room k X.A) (tk : Takes X W) (ha : PA X [a] ta) (hg : Gl X nm := by rfl) (hd : (nm == ("__debug__" : Str)) = false := by decide)
    (he : starEach (a :: []) X.env = (false, eval a X.env) :: starEach [] X.env := by rfl) (hpl : (backTo pos (starEach [] X.env)).any (·.1) = false := by rfl) :
    PS X (.Raise (some (.Call (.Name nm p) [a] [] pos)) none pos2) (tRaiseX f C W ta) := ps_raise hc tk (pmk_x T hr ha hg hd he hpl)
theorem _root_.PySem.MCX.XTxt.xf {prog : Program} {K : PySem.W.Frag} {mg : Str → Option Value} (T : PySem.MCX.XTxt prog K mg nm f C fI) : XfC K C := ⟨T.ga, T.gg, T.exC, T.hdC⟩
end
end L2
namespace L2
open PySem PySem.Spec PyProof.Rows
/-! ### C(e, .., k = v, ..) within a try: what is raised is wished for at the slots -/
def tMakeKS (C : Addr) (n m : Nat) (sp : Sp) (gV : List V → List V → List V) (E : St → XK) (t tk : TA) : TE := fun σ H Q => t σ H fun vs H1 => tk σ H1 fun zs H2 => vs.length = n ∧ zs.length = m ∧ ∀ x dx, H2 x = none → H2 dx = none → dx ≠ x →
  sp (gV (.ref x :: vs) zs) (upd (upd H2 dx (.own x)) x (.ins C dx [])) (fun v H3 => v = .non ∧ Q (.ref x) H3) (E σ)
section
variable {X : Cx} {CX : CXT} {k n : Nat} {f C : Addr} {fd : FuncData} {ps ks : List Str} {sp : Sp} {x : Str} {p pos : Pos} {e : Expr} {es : List Expr} {kws : List Keyword} {t tk : TA} {g : List Value → List Value → List Value} {gV : List V → List V → List V}
theorem run_makeKS {E : XK} {pins : List (Addr × Obj)} {σ : St} {H : Hp} {s : Shared} {Q : VK} {us ws : List Value} {vs zs : List V} (M : Mk X.K C f) (F : FnOk X.prog X.w X.K X.mg X.base CX k f fd ps sp) (hr : Room (k + 1) X.A) (hb : KBn X.K fd ps (n + 1) ks g gV) (hx : PassesAt CX X σ E)
    (I : Inv X pins σ H s) (r : Vals vs us) (rz : Vals zs ws) (l1 : vs.length = n) (l2 : zs.length = ks.length)
    (h : ∀ x dx, H x = none → H dx = none → dx ≠ x → sp (gV (.ref x :: vs) zs) (upd (upd H dx (.own x)) x (.ins C dx [])) (fun v H2 => v = .non ∧ Q (.ref x) H2) E) :
    wpAny (model X.prog X.w) X.A (call (.ref C) us (ks.zip ws)) (EP X pins σ Q) X.xe s := by
  have J := Inv.made (C := C) I
  have hh := h (s.heap.objs.size + 1) s.heap.objs.size (I.hok.fresh (Nat.le_succ _)) (I.hok.fresh (Nat.le_refl _)) (Nat.ne_of_lt (Nat.lt_succ_self _))
  have rr := hb.rel (Paired.cons (show RelV (V.ref (s.heap.objs.size + 1)) (Value.ref (s.heap.objs.size + 1)) from rfl) r) rz
  have ln : (Value.ref (s.heap.objs.size + 1) :: us).length = n + 1 := congrArg (· + 1) (r.length.symm.trans l1)
  have go := F.run _ X.stack _ _ ⟨Value.ref (s.heap.objs.size + 1) :: us, ks.zip ws⟩ _ _ _ E (hr.make C us (ks.zip ws)) (J.env0.make C us (ks.zip ws)) (hb.to _ (Value.ref (s.heap.objs.size + 1) :: us) ws J.kIn ln (rz.length.symm.trans l2)) rr hh
  refine wpAny_call (make_map (f := f) I.kIn M.makes M.init (beq_iff_eq.mp M.fn) (codeAny_mono go fun r s' hq => ?_))
  match r, hq with
  | .error e, hq => exact hx pins _ _ e s' J hq
  | .ok (.ret u), hq =>
    obtain ⟨v, H', I3, rv, rfl, q3⟩ := J.after hq
    exact ⟨rv, ⟨V.ref (s.heap.objs.size + 1), H', I3, rfl, q3⟩⟩
  | .ok .next, hq => exact hq.elim
  | .ok .brk, hq => exact hq.elim
  | .ok .cont, hq => exact hq.elim
theorem pe_makeKS {E : St → XK} (M : Mk X.K C f) (F : FnOk X.prog X.w X.K X.mg X.base CX k f fd ps sp) (hr : Room (k + 1) X.A) (hg : Gl X x) (hm : X.mg x = some (.ref C)) (hb : KBn X.K fd ps (n + 1) ks g gV) (hx : ∀ σ, PassesAt CX X σ (E σ)) (ha : PA X (e :: es) t) (hkw : PK X kws tk)
    (hall : (backToKw pos (keywordEach kws X.env)).all (·.1.isSome) = true := by rfl) (hks : (backToKw pos (keywordEach kws X.env)).filterMap (·.1) = ks := by rfl) (hdb : (x == ("__debug__" : Str)) = false := by decide)
    (he : starEach (e :: es) X.env = (false, eval e X.env) :: starEach es X.env := by rfl) (hpl : ((backTo pos (starEach (e :: es) X.env)).any (·.1) || (backToKw pos (keywordEach kws X.env)).any (·.1.isNone)) = false := by rfl) :
    PE X (.Call (.Name x p) (e :: es) kws pos) (tMakeKS C n ks.length sp gV E t tk) := by
  refine ⟨fun pins s σ H Q I h => wpAny_Call_Name_kw (ld_glob I hg hm (PySem.W.callWith_KW (h₀ := X.base) I.ok.mod.kin M.kp hall (thn (ha.run pos pins s σ H _ I h) fun us s1 hh => ?_) hpl he) hdb)⟩
  obtain ⟨vs, H1, I1, r, q⟩ := hh
  refine thn (hkw.run pos pins s1 σ H1 _ I1 q) fun ws s2 ⟨zs, H2, I2, rz, l1, l2, q2⟩ => ⟨I2.kIn, ?_⟩
  rw [hks]
  exact run_makeKS M F hr hb (hx σ) I2 r rz l1 l2 q2
end
end L2
namespace L2
open PySem PySem.Spec PyProof.Rows
/-- v is an error of the class at C with the fields fs -/
def IsErr (H : Hp) (v : V) (C : Addr) (fs : List (Str × V)) : Prop := ∃ e, v = .ref e ∧ ((fs = [] ∧ H e = some (exo e C none)) ∨ ∃ dx, H e = some (exo e C (some dx)) ∧ H dx = some (exd dx fs))
theorem IsErr.up {H H' : Hp} {v : V} {C : Addr} {fs : List (Str × V)} (s : Same H H') (h : IsErr H v C fs) : IsErr H' v C fs := by
  obtain ⟨e, ev, h⟩ := h
  refine ⟨e, ev, ?_⟩
  rcases h with ⟨h1, h2⟩ | ⟨dx, h1, h2⟩
  · exact .inl ⟨h1, s _ _ h2⟩
  · exact .inr ⟨dx, s _ _ h1, s _ _ h2⟩
/-- the values of the fields -/
inductive RelF : List (Str × V) → List (Str × Value) → Prop where
  | nil : RelF [] []
  | cons {f : Str} {v : V} {u : Value} {fs : List (Str × V)} {us : List (Str × Value)} : RelV v u → RelF fs us → RelF ((f, v) :: fs) ((f, u) :: us)
theorem RelF.look {fs : List (Str × V)} {us : List (Str × Value)} (r : RelF fs us) (y : Str) : RelO (fs.lookup y) (us.lookup y) := by
  induction r with
  | nil => trivial
  | @cons f v u fs us rv r ih =>
    by_cases h : y = f
    · subst h
      simpa [List.lookup] using (show RelO (some v) (some u) from rv)
    · have q : (y == f) = false := by simpa using h
      simpa [List.lookup, q] using ih
section
variable {X : Cx} {C : Addr}
/-- the class at C, called by args, makes an error -/
def Makes (X : Cx) (C : Addr) (n : Nat) (ag : List Value → Args) (gv : List V → List (Str × V)) : Prop :=
  ∀ (pins : List (Addr × Obj)) (σ : St) (H : Hp) (s : Shared) (Q : VK) (us : List Value) (vs : List V), Inv X pins σ H s → Vals vs us → vs.length = n → (∀ v H2, Same H H2 → IsErr H2 v C (gv vs) → Q v H2) →
    wpAny (model X.prog X.w) X.A (call (.ref C) (ag us).pos (ag us).kw) (EP X pins σ Q) X.xe s
theorem makes_of {n : Nat} {ag : List Value → Args} {gv : List V → List (Str × V)}
    (h : ∀ (s : Shared) (us : List Value) (vs : List V) (R : Result → Shared → Prop), X.K.In s.heap → s.heap.NoLimit → s.heap.Ns mainGlobals X.mg → (∃ mb, s.heap.Ns builtinsNs mb ∧ ∀ x : Str, x ≠ "__name__" → mb x = bootBuiltins x) → Vals vs us → vs.length = n →
      ∃ fu, RelF (gv vs) fu ∧ ((∀ h' tk e d, PySem.MEX.MadeN fu s.heap h' e C d → R (.ok (.ret (.ref e))) { s with heap := h', toks := tk }) → codeAny (model X.prog X.w) X.A (.call (.ref C) (ag us)) R s)) : Makes X C n ag gv := by
  intro pins σ H s Q us vs I r hl hq
  have hlim := I.nolimit
  have hG : s.heap.Ns mainGlobals X.mg := I.ok.mod.glob.keeps I.bk
  have hB : ∃ mb, s.heap.Ns builtinsNs mb ∧ ∀ x : Str, x ≠ "__name__" → mb x = bootBuiltins x := let ⟨mb, b1, b2⟩ := I.ok.mod.blt; ⟨mb, b1.keeps I.bk, b2⟩
  refine wpAny_call ?_
  obtain ⟨fu, rf, hc⟩ := h s us vs (fun r s' => match r with
    | .ok (.ret v) => EP X pins σ Q v s'
    | .ok _ => False
    | .error e => X.xe e s') I.kIn hlim hG hB r hl
  refine codeAny_mono (hc fun h' tk e d M => ?_) fun r s' z => ?_
  · show EP X pins σ Q (.ref e) { s with heap := h', toks := tk }
    obtain ⟨t1, ho⟩ := M.obj
    have He : H e = none := I.hok.fresh M.new
    have hpe : s.heap.get? e = none := by
      cases z : s.heap.get? e with
      | none => rfl
      | some o => exact absurd (Heap.lt_size z) (Nat.not_lt.mpr M.new)
    have hd := M.dict
    cases d with
    | none =>
      have hd' : fu = [] := hd
      subst hd'
      have eg : gv vs = [] := by
        revert rf
        generalize gv vs = z
        intro rf
        cases rf
        rfl
      have J := I.laidN (h' := h') (a := e) (o := exo e C none) (t' := tk) M.keep hpe He (exo_ok ho)
      refine ⟨.ref e, _, J, rfl, hq _ _ (fun b o q => ?_) ⟨e, rfl, .inl ⟨eg, upd_same⟩⟩⟩
      rw [upd_ne (ne_of_none q He)]
      exact q
    | some dx =>
      obtain ⟨dn, dne, hns⟩ := hd
      have Hd : H dx = none := I.hok.fresh dn
      obtain ⟨G', g1, g2⟩ := restrict h' fun b => decide (b ≠ e)
      have gk : ∀ b, b ≠ e → G'.get? b = h'.get? b := fun b hb => g1 b (decide_eq_true hb)
      have ge : G'.get? e = none := g2 e (by simp)
      have old : ∀ b o, s.heap.get? b = some o → G'.get? b = some o := fun b o q => (gk b (Nat.ne_of_lt (Nat.lt_of_lt_of_le (Heap.lt_size q) M.new))).trans (M.keep b o q)
      have nsG : G'.Ns1 dx (fun y => fu.lookup y) := hns.at (fun o q => (gk dx dne).trans q)
      have J := I.laid (t' := tk) (h' := G') (a := dx) (o := exd dx (gv vs)) old dn (exd_ok nsG rf.look)
      have He2 : upd H dx (exd dx (gv vs)) e = none := by
        rw [upd_ne (Ne.symm dne)]
        exact He
      have J2 := J.laidN (h' := h') (a := e) (o := exo e C (some dx)) (t' := tk) (fun b o q => by
        by_cases hb : b = e
        · have q' : G'.get? b = some o := q
          rw [hb, ge] at q'
          cases q'
        · exact (gk b hb).symm.trans q) ge He2 (exo_ok ho)
      refine ⟨.ref e, _, J2, rfl, hq _ _ (fun b o q => ?_) ⟨e, rfl, .inr ⟨dx, upd_same, ?_⟩⟩⟩
      · rw [upd_ne (ne_of_none q He), upd_ne (ne_of_none q Hd)]
        exact q
      · rw [upd_ne dne]
        exact upd_same
  · rcases r with e | (v | _ | _ | _) <;> exact z
section
variable {nm : Str} {fI : Addr} {B newId initId : String} {bm : List Value} {k : Nat}
theorem makes0 (T : PySem.MEX.ECls X.prog X.K X.mg nm C fI B newId initId bm) (G : PySem.MEX.EFn0 X.prog X.K C fI) (hr : Room k X.A) : Makes X C 0 (fun us => ⟨us, []⟩) (fun _ => []) := by
  refine makes_of fun s us vs R hK hl hG hB r hn => ⟨[], .nil, fun hq => ?_⟩
  cases vs with
  | cons _ _ => cases hn
  | nil =>
    cases r
    exact PySem.MEX.made0 T G (fun x => fun qual p0 body doc pm an cd ct cc => G.fok.bp qual p0 body doc pm an cd ct cc x) (Nat.zero_le _) hK hl (by have := hr.dp; omega) hG hB hq
theorem makes1 {f1 : Str} (T : PySem.MEX.ECls X.prog X.K X.mg nm C fI B newId initId bm) (G : PySem.MEX.EFn1 X.prog X.K C fI f1) (hr : Room k X.A) : Makes X C 1 (fun us => ⟨us, []⟩) (fun vs => [(f1, vs.getD 0 .non)]) := by
  refine makes_of fun s us vs R hK hl hG hB r hn => ?_
  match vs, hn with
  | [v], _ =>
    cases r with
    | cons rv rn =>
      cases rn
      rename_i u
      exact ⟨[(f1, u)], .cons rv .nil, fun hq => PySem.MEX.made1 T G (v1 := u) (fun x => fun qual p0 p1 body doc pm an cd ct cc => G.fok.bp qual p0 p1 body doc pm an cd ct cc x u) (by show 1 ≤ sizeLine; decide) hK hl (by have := hr.dp; omega) hG hB hq⟩
theorem makes1k {f1 : Str} (T : PySem.MEX.ECls X.prog X.K X.mg nm C fI B newId initId bm) (G : PySem.MEX.EFn1 X.prog X.K C fI f1) (hr : Room k X.A) : Makes X C 1 (fun us => ⟨[], [f1].zip us⟩) (fun vs => [(f1, vs.getD 0 .non)]) := by
  refine makes_of fun s us vs R hK hl hG hB r hn => ?_
  match vs, hn with
  | [v], _ =>
    cases r with
    | cons rv rn =>
      cases rn
      rename_i u
      exact ⟨[(f1, u)], .cons rv .nil, fun hq => PySem.MEX.made1 T G (v1 := u) (fun x => fun qual p0 p1 body doc pm an cd ct cc => G.fok.bk qual p0 p1 body doc pm an cd ct cc x u) (Nat.zero_le _) hK hl (by have := hr.dp; omega) hG hB hq⟩
theorem makes2 {f1 f2 : Str} (T : PySem.MEX.ECls X.prog X.K X.mg nm C fI B newId initId bm) (G : PySem.MEX.EFn2 X.prog X.K C fI f1 f2) (hr : Room k X.A) : Makes X C 2 (fun us => ⟨us, []⟩) (fun vs => [(f2, vs.getD 1 .non), (f1, vs.getD 0 .non)]) := by
  refine makes_of fun s us vs R hK hl hG hB r hn => ?_
  match vs, hn with
  | [v, v'], _ =>
    cases r with
    | cons rv rn =>
      cases rn with
      | cons rv' rn =>
        cases rn
        rename_i u u'
        exact ⟨[(f2, u'), (f1, u)], .cons rv' (.cons rv .nil), fun hq => PySem.MEX.made2 T G (v1 := u) (v2 := u') (fun x => fun qual p0 p1 p2 body doc pm an cd ct cc => G.fok.bp qual p0 p1 p2 body doc pm an cd ct cc x u u') (by show 2 ≤ sizeLine; decide) hK hl (by have := hr.dp; omega) hG hB hq⟩
theorem makes2k {f1 f2 : Str} (T : PySem.MEX.ECls X.prog X.K X.mg nm C fI B newId initId bm) (G : PySem.MEX.EFn2 X.prog X.K C fI f1 f2) (hr : Room k X.A) : Makes X C 2 (fun us => ⟨[], [f2, f1].zip us⟩) (fun vs => [(f2, vs.getD 0 .non), (f1, vs.getD 1 .non)]) := by
  refine makes_of fun s us vs R hK hl hG hB r hn => ?_
  match vs, hn with
  | [v, v'], _ =>
    cases r with
    | cons rv rn =>
      cases rn with
      | cons rv' rn =>
        cases rn
        rename_i u u'
        exact ⟨[(f2, u), (f1, u')], .cons rv (.cons rv' .nil), fun hq => PySem.MEX.made2 T G (v1 := u') (v2 := u) (fun x => fun qual p0 p1 p2 body doc pm an cd ct cc => G.fok.bk qual p0 p1 p2 body doc pm an cd ct cc x u' u) (Nat.zero_le _) hK hl (by have := hr.dp; omega) hG hB hq⟩
end
/-- nm(..) as a value -/
def tMkE (C : Addr) (n : Nat) (gv : List V → List (Str × V)) (ta : TA) : TE := fun σ H Q => ta σ H fun vs H1 => vs.length = n ∧ ∀ v H2, Same H1 H2 → IsErr H2 v C (gv vs) → Q v H2
section
variable {n : Nat} {gv : List V → List (Str × V)} {x : Str} {p pos : Pos} {e : Expr} {es : List Expr} {kws : List Keyword} {t tk : TA} {ks : List Str}
theorem pe_mkE (M : Makes X C n (fun us => ⟨us, []⟩) gv) (kC : PySem.W.keepIn X.K (.ref C) = true) (hg : Gl X x) (hm : X.mg x = some (.ref C)) (ha : PA X (e :: es) t) (hd : (x == ("__debug__" : Str)) = false := by decide)
    (he : starEach (e :: es) X.env = (false, eval e X.env) :: starEach es X.env := by rfl) (hpl : (backTo pos (starEach es X.env)).any (·.1) = false := by rfl) :
    PE X (.Call (.Name x p) (e :: es) [] pos) (tMkE C n gv t) := by
  refine ⟨fun pins s σ H Q I h => ?_⟩
  refine wpAny_Call_Name_kw (ld_glob I hg hm ?_ hd)
  refine PySem.W.callWith_K (h₀ := X.base) I.ok.mod.kin kC (thn (ha.run pos pins s σ H _ I h) fun us s1 hh => ?_) he hpl
  obtain ⟨vs, H1, I1, r1, hn, q1⟩ := hh
  exact ⟨I1.kIn, M pins σ H1 s1 Q us vs I1 r1 hn q1⟩
theorem pe_mkE0 (M : Makes X C 0 (fun us => ⟨us, []⟩) gv) (kC : PySem.W.keepIn X.K (.ref C) = true) (hg : Gl X x) (hm : X.mg x = some (.ref C)) (hd : (x == ("__debug__" : Str)) = false := by decide) :
    PE X (.Call (.Name x p) [] [] pos) (tMkE C 0 gv tNil) := by
  refine ⟨fun pins s σ H Q I h => ?_⟩
  refine wpAny_Call_Name_kw (ld_glob I hg hm ?_ hd)
  exact PySem.W.callWith_K0 I.kIn kC (M pins σ H s Q [] [] I .nil rfl h.2)
theorem pe_mkEK (M : Makes X C n (fun us => ⟨[], ks.zip us⟩) gv) (kC : PySem.W.keepIn X.K (.ref C) = true) (hg : Gl X x) (hm : X.mg x = some (.ref C)) (hkw : PK X kws tk)
    (hall : (backToKw pos (keywordEach kws X.env)).all (·.1.isSome) = true := by rfl) (hks : (backToKw pos (keywordEach kws X.env)).filterMap (·.1) = ks := by rfl) (hdb : (x == ("__debug__" : Str)) = false := by decide)
    (hpl : ((backTo pos (starEach [] X.env)).any (·.1) || (backToKw pos (keywordEach kws X.env)).any (·.1.isNone)) = false := by rfl) :
    PE X (.Call (.Name x p) [] kws pos) (tMkE C n gv tk) := by
  refine ⟨fun pins s σ H Q I h => ?_⟩
  refine wpAny_Call_Name_kw (ld_glob I hg hm ?_ hdb)
  refine PySem.W.callWith_KW0 (h₀ := X.base) I.ok.mod.kin kC hall ?_ hpl
  refine thn (hkw.run pos pins s σ H _ I h) fun ws s2 ⟨zs, H2, I2, rz, l1, q2⟩ => ⟨I2.kIn, ?_⟩
  rw [hks]
  exact M pins σ H2 s2 Q ws zs I2 rz l1 q2
end
/-- where an error stands -/
theorem inst_err {P : Program} {w : World} {H : Hp} {h : Heap} {v : V} {fs : List (Str × V)} (hok : HOk P w H h) (hv : IsErr H v C fs) : ∃ (e : Addr) (oe : Obj) (od : Option Obj), v = .ref e ∧ PySem.W.InstAt h e oe C od ∧ (∀ (f : Str) (y : V), fs.lookup f = some y → ∃ (o : Obj) (u : Value), od = some o ∧ RelV y u ∧ PySem.W.lookIn f o = some (some u)) := by
  obtain ⟨e, rfl, h1⟩ := hv
  rcases h1 with ⟨h1, h2⟩ | ⟨dx, h1, h2⟩
  · obtain ⟨t1, ho⟩ := exo_at hok h2
    refine ⟨e, _, none, rfl, ⟨ho, rfl, rfl, trivial⟩, fun f y q => ?_⟩
    rw [h1] at q
    cases q
  · obtain ⟨t1, ho⟩ := exo_at hok h1
    obtain ⟨mA, hns, rel⟩ := exd_at hok h2
    obtain ⟨od, hod, hl⟩ := lookIn_ns hns
    refine ⟨e, _, some od, rfl, ⟨ho, rfl, rfl, hod⟩, fun f y q => ?_⟩
    obtain ⟨u, hu, ru⟩ := RelO.some_of (v := y) (o := mA f) (by rw [← q]; exact rel f)
    exact ⟨od, u, rfl, ru, by rw [hl, hu]⟩
/-- e.f of an error -/
def tErrF (K : PySem.W.Frag) (f : Str) (te : TE) : TE := fun σ H Q => te σ H fun x H1 => ∃ (C : Addr) (fs : List (Str × V)) (v : V), IsErr H1 x C fs ∧ XfC K C ∧ PySem.W.findIn K (.ref C) f = some none ∧ fs.lookup f = some v ∧ Q v H1
theorem pe_errF {e : Expr} {te : TE} {pos : Pos} {n : Str} (he : PE X e te) (hb : attributeBase e n X.env (eval e X.env) = eval e X.env := by rfl) : PE X (.Attribute e n pos) (tErrF X.K n te) := by
  refine ⟨fun pins s σ H Q I h => ?_⟩
  refine attr_of hb (thn (he.run pins s σ H _ I h) fun u s1 hh => ?_)
  obtain ⟨x, H1, I1, rx, C, fs, v, hx, T, hno, l, q⟩ := hh
  obtain ⟨a, oe, od, rfl, J, hf⟩ := inst_err I1.hok hx
  obtain rfl : u = Value.ref a := rx
  obtain ⟨o, w, rfl, ru, hl⟩ := hf n v l
  exact HandSPX.exc_get I1.kIn J T.ga T.gg T.exC (PySem.W.findObj_own T.hdC hno rfl hl) (handed_of ru) ⟨v, H1, I1.tok _, ru, q⟩
/-- isinstance(error, c) -/
def rIsV (K : PySem.W.Frag) : List V → Hp → VK → Prop := fun xs H Q => ∃ (x c : V) (cv : Value) (C : Addr) (fs : List (Str × V)) (b : Bool), xs = [x, c] ∧ IsErr H x C fs ∧ ExcC K C ∧ (∀ u, RelV c u → u = cv) ∧ PySem.W.kitOne K (.ref C) cv = some b ∧ Q (.bl b) H
theorem call_isV : CallR X (.builtin "isinstance") (rIsV X.K) := by
  intro pins s σ H xs us Q I r h
  obtain ⟨x, c, cv, C, fs, b, rfl, hx, T, hcv, e, q⟩ := h
  cases r with
  | cons rx rr =>
    cases rr with
    | cons rt rr =>
      cases rr
      obtain ⟨a, oe, od, rfl, J, hf⟩ := inst_err I.hok hx
      cases rx
      have ec := hcv _ rt
      subst ec
      have hcl : (PySem.W.clsIn X.K C).isSome = true := by
        obtain ⟨cd, hc, _⟩ := PySem.W.any_some T.hd
        rw [hc]
        rfl
      exact PySem.W.kia_one (PySem.W.kitx_exc hcl T.hg T.hk T.hs T.ha T.hn T.ht T.hm) I.kIn J e (fun z => nomatch z) fun tk => ⟨.bl b, H, I.kept (t' := tk) fun _ _ z => z, rfl, q⟩
end
end L2
namespace L2
open PySem PySem.Spec PyProof.Rows
/-! ### raising own errors over any base -/
structure ETx (prog : Program) (K : PySem.W.Frag) (mg : Str → Option Value) (nm : Str) (C fI : Addr) (B newId initId : String) (bm : List Value) : Prop where
  c : PySem.MEX.ECls prog K mg nm C fI B newId initId bm
  tyC : PySem.W.typeIn K (.ref C) = some (.type "type")
  te : PySem.W.exmOne K (.ref C) (.ref C) = some true
theorem ETx.xf {prog : Program} {K : PySem.W.Frag} {mg : Str → Option Value} {nm : Str} {C fI : Addr} {B newId initId : String} {bm : List Value} (T : ETx prog K mg nm C fI B newId initId bm) : XfC K C := ⟨T.c.ga, T.c.gg, T.c.exC, T.c.hdC⟩
section
variable {X : Cx} {nm : Str} {C fI : Addr} {B newId initId : String} {bm : List Value}
/-- nm(e, ..) to be raised -/
def tMkR (C : Addr) (n : Nat) (gv : List V → List (Str × V)) (ta : TA) : St → Hp → XK → Prop := fun σ H Q => ta σ H fun vs H1 => vs.length = n ∧ ∀ d, H1 d = none → Q (.ref C) (some d) (upd H1 d (.xd (gv vs)))
theorem pmk_e {a : Expr} {as : List Expr} {ta : TA} {p pos : Pos} {n : Nat} {gv : List V → List (Str × V)} (T : ETx X.prog X.K X.mg nm C fI B newId initId bm)
    (M : ∀ (s : Shared) (us : List Value) (vs : List V) (R : Result → Shared → Prop), X.K.In s.heap → s.heap.NoLimit → s.heap.Ns mainGlobals X.mg → (∃ mb, s.heap.Ns builtinsNs mb ∧ ∀ x : Str, x ≠ "__name__" → mb x = bootBuiltins x) → Vals vs us → vs.length = n →
      ∃ fu, fu ≠ [] ∧ RelF (gv vs) fu ∧ ((∀ h' tk e d, PySem.MEX.MadeN fu s.heap h' e C d → R (.ok (.ret (.ref e))) { s with heap := h', toks := tk }) → codeAny (model X.prog X.w) X.A (.call (.ref C) ⟨us, []⟩) R s))
    (ha : PA X (a :: as) ta) (hg : Gl X nm := by rfl) (hd : (nm == ("__debug__" : Str)) = false := by decide)
    (he : starEach (a :: as) X.env = (false, eval a X.env) :: starEach as X.env := by rfl) (hpl : (backTo pos (starEach as X.env)).any (·.1) = false := by rfl) :
    PMk X (.Call (.Name nm p) (a :: as) [] pos) (tMkR C n gv ta) := by
  intro pins s σ H Q I h
  refine wpAny_Call_Name_kw (ld_glob I hg T.c.gC ?_ hd)
  refine PySem.W.callWith_K (h₀ := X.base) I.ok.mod.kin T.c.kC (thn (ha.run pos pins s σ H _ I h) fun us s1 hh => ?_) he hpl
  obtain ⟨vs, H1, I1, r1, hn, q1⟩ := hh
  refine ⟨I1.kIn, ?_⟩
  show wpAny _ _ (call (.ref C) us) _ _ _
  have hlim := I1.nolimit
  have hG : s1.heap.Ns mainGlobals X.mg := I1.ok.mod.glob.keeps I1.bk
  have hB : ∃ mb, s1.heap.Ns builtinsNs mb ∧ ∀ x : Str, x ≠ "__name__" → mb x = bootBuiltins x := let ⟨mb, b1, b2⟩ := I1.ok.mod.blt; ⟨mb, b1.keeps I1.bk, b2⟩
  obtain ⟨hp, g, dr, tk, os⟩ := s1
  refine wpAny_call ?_
  obtain ⟨fu, hfu, rf, hc⟩ := M ⟨hp, g, dr, tk, os⟩ us vs (fun r s' => match r with
    | .ok (.ret v) => MkP X pins σ Q v s'
    | .ok _ => False
    | .error e => X.xe e s') I1.kIn hlim hG hB r1 hn
  refine codeAny_mono (hc fun h' tk' e d Mm => ?_) fun r s' z => ?_
  · show MkP X pins σ Q (.ref e) ⟨h', g, dr, tk', os⟩
    obtain ⟨t1, hoe⟩ := Mm.obj
    have hd := Mm.dict
    cases d with
    | none => exact absurd hd hfu
    | some d =>
      obtain ⟨dbig, dne, hns⟩ := hd
      obtain ⟨G', g1, g2⟩ := restrict h' fun b => decide (b ≠ e)
      have gk : ∀ b, b ≠ e → G'.get? b = h'.get? b := fun b hb => g1 b (decide_eq_true hb)
      have ge : G'.get? e = none := g2 e (by simp)
      have old : ∀ b o, hp.get? b = some o → G'.get? b = some o := fun b o q => (gk b (Nat.ne_of_lt (Nat.lt_of_lt_of_le (Heap.lt_size q) Mm.new))).trans (Mm.keep b o q)
      have ob : ObjOk X.prog X.w (upd H1 d (.xd (gv vs))) G' d (.xd (gv vs)) := ⟨_, hns.at (fun o q => (gk d dne).trans q), fun g => rf.look g⟩
      have J : Inv X pins σ (upd H1 d (.xd (gv vs))) ⟨G', g, dr, tk', os⟩ := I1.laid (t' := tk') old dbig ob
      refine ⟨e, _, _, ⟨G', g, dr, tk', os⟩, _, .ref C, some d, rfl, J, fun b o q => ?_, ge, hoe, ⟨rfl, rfl⟩, rfl, rfl, ?_, rfl, I1.bare, raises_own T.c.exC T.tyC, q1 d (I1.hok.fresh dbig)⟩
      · by_cases hb : b = e
        · have q' : G'.get? b = some o := q
          rw [hb, ge] at q'; cases q'
        · exact (gk b hb).symm.trans q
      · rw [upd_ne (Ne.symm dne)]
        exact I1.hok.fresh Mm.new
  · rcases r with e | (v | _ | _ | _) <;> exact z
theorem pmk_e1 {a : Expr} {ta : TA} {p pos : Pos} {k : Nat} {f1 : Str} (T : ETx X.prog X.K X.mg nm C fI B newId initId bm) (G : PySem.MEX.EFn1 X.prog X.K C fI f1) (hr : Room k X.A) (ha : PA X [a] ta) (hg : Gl X nm := by rfl) (hd : (nm == ("__debug__" : Str)) = false := by decide)
    (he : starEach [a] X.env = (false, eval a X.env) :: starEach [] X.env := by rfl) (hpl : (backTo pos (starEach [] X.env)).any (·.1) = false := by rfl) :
    PMk X (.Call (.Name nm p) [a] [] pos) (tMkR C 1 (fun vs => [(f1, vs.getD 0 .non)]) ta) := by
  refine pmk_e T (fun s us vs R hK hl hG hB r hn => ?_) ha hg hd he hpl
  match vs, hn with
  | [v], _ =>
    cases r with
    | cons rv rn =>
      cases rn
      rename_i u
      exact ⟨[(f1, u)], by simp, .cons rv .nil, fun hq => PySem.MEX.made1 T.c G (v1 := u) (fun x => fun qual p0 p1 body doc pm an cd ct cc => G.fok.bp qual p0 p1 body doc pm an cd ct cc x u) (by show 1 ≤ sizeLine; decide) hK hl (by have := hr.dp; omega) hG hB hq⟩
theorem pmk_e2 {a b : Expr} {ta : TA} {p pos : Pos} {k : Nat} {f1 f2 : Str} (T : ETx X.prog X.K X.mg nm C fI B newId initId bm) (G : PySem.MEX.EFn2 X.prog X.K C fI f1 f2) (hr : Room k X.A) (ha : PA X [a, b] ta) (hg : Gl X nm := by rfl) (hd : (nm == ("__debug__" : Str)) = false := by decide)
    (he : starEach [a, b] X.env = (false, eval a X.env) :: starEach [b] X.env := by rfl) (hpl : (backTo pos (starEach [b] X.env)).any (·.1) = false := by rfl) :
    PMk X (.Call (.Name nm p) [a, b] [] pos) (tMkR C 2 (fun vs => [(f2, vs.getD 1 .non), (f1, vs.getD 0 .non)]) ta) := by
  refine pmk_e T (fun s us vs R hK hl hG hB r hn => ?_) ha hg hd he hpl
  match vs, hn with
  | [v, v'], _ =>
    cases r with
    | cons rv rn =>
      cases rn with
      | cons rv' rn =>
        cases rn
        rename_i u u'
        exact ⟨[(f2, u'), (f1, u)], by simp, .cons rv' (.cons rv .nil), fun hq => PySem.MEX.made2 T.c G (v1 := u) (v2 := u') (fun x => fun qual p0 p1 p2 body doc pm an cd ct cc => G.fok.bp qual p0 p1 p2 body doc pm an cd ct cc x u u') (by show 2 ≤ sizeLine; decide) hK hl (by have := hr.dp; omega) hG hB hq⟩
/-- raise nm(e, ..) -/
def tRaiseE (C : Addr) (n : Nat) (gv : List V → List (Str × V)) (W : WX) (ta : TA) : TS := fun _ σ H => tMkR C n gv ta σ H fun cls d H' => W cls d σ H'
theorem ps_raiseE1 {a : Expr} {ta : TA} {W : WX} {p pos pos2 : Pos} {k : Nat} {f1 : Str} (hc : X.calm = true) (T : ETx X.prog X.K X.mg nm C fI B newId initId bm) (G : PySem.MEX.EFn1 X.prog X.K C fI f1) (hr : Room k X.A) (tk : Takes X W) (ha : PA X [a] ta) (hg : Gl X nm := by rfl) (hd : (nm == ("__debug__" : Str)) = false := by decide)
    (he : starEach [a] X.env = (false, eval a X.env) :: starEach [] X.env := by rfl) (hpl : (backTo pos (starEach [] X.env)).any (·.1) = false := by rfl) :
    PS X (.Raise (some (.Call (.Name nm p) [a] [] pos)) none pos2) (tRaiseE C 1 (fun vs => [(f1, vs.getD 0 .non)]) W ta) := ps_raise hc tk (pmk_e1 T G hr ha hg hd he hpl)
theorem ps_raiseE2 {a b : Expr} {ta : TA} {W : WX} {p pos pos2 : Pos} {k : Nat} {f1 f2 : Str} (hc : X.calm = true) (T : ETx X.prog X.K X.mg nm C fI B newId initId bm) (G : PySem.MEX.EFn2 X.prog X.K C fI f1 f2) (hr : Room k X.A) (tk : Takes X W) (ha : PA X [a, b] ta) (hg : Gl X nm := by rfl) (hd : (nm == ("__debug__" : Str)) = false := by decide)
    (he : starEach [a, b] X.env = (false, eval a X.env) :: starEach [b] X.env := by rfl) (hpl : (backTo pos (starEach [b] X.env)).any (·.1) = false := by rfl) :
    PS X (.Raise (some (.Call (.Name nm p) [a, b] [] pos)) none pos2) (tRaiseE C 2 (fun vs => [(f2, vs.getD 1 .non), (f1, vs.getD 0 .non)]) W ta) := ps_raise hc tk (pmk_e2 T G hr ha hg hd he hpl)
end
end L2
/-! FLA: values by content, a logical heap, results; how they stand for the machine's. -/
namespace FL
open PySem PySem.Spec PyProof.Rows L2
/-- values: tuples by content, what changes by its number in the logical heap -/
inductive PV where
  | non | bl (b : Bool) | int (i : Int) | str (x : Str) | tup (xs : List PV) | obj (n : Nat) | rol (xs : List PV) | glo (x : Str) | ty (n : String)
/-- objects -/
inductive LO where
  | lst (xs : List PV) | dct (kvs : List (Key × PV)) | fdct (kvs : List (Key × PV)) | ins (C : Str) (fs : List (Str × PV))
abbrev Sl := List (Option PV)
abbrev LH := List LO
/-- what a run gives -/
inductive R (α : Type) where
  | ok (a : α) (L : LH) | ex (c : Str) (fs : List (Str × PV)) (L : LH) | no
def R.bind {α β : Type} : R α → (α → LH → R β) → R β
  | .ok a L, k => k a L
  | .ex c fs L, _ => .ex c fs L
  | .no, _ => .no
inductive RS where
  | nx (τ : Sl) (L : LH) | rt (x : PV) (L : LH) | bk (τ : Sl) (L : LH) | ct (τ : Sl) (L : LH) | ex (c : Str) (fs : List (Str × PV)) (τ : Sl) (L : LH) | no
abbrev Fn := List PV → LH → R PV
/-! ### how they stand -/
/-- where the module's names stand; the tables of code objects that lambdas are written to -/
structure Ga where
  f : Str → Addr
  T : List (Addr × Str)
instance : CoeFun Ga (fun _ => Str → Addr) := ⟨Ga.f⟩
section
variable (K : PySem.W.Frag) (ga : Ga)
/-- a list that is only read -/
def RoL (H : Hp) (a : Addr) (ys : List V) : Prop := (∃ o, H a = some (.frz o (.lst ys))) ∨
  ∃ (o : Obj) (its : Array Value) (n : Nat), K.lookup a = some o ∧ o.cls = .type "list" ∧ o.dict = none ∧ o.data = .seq its n ∧ its.size ≤ sizeLine ∧ Vals ys its.toList
mutual
def VR (ι : List Addr) (H : Hp) : PV → V → Prop
  | .non, v => v = .non
  | .bl b, v => v = .bl b
  | .int i, v => v = .int i
  | .str x, v => v = .str x
  | .tup xs, v => ∃ a ys, v = .ref a ∧ SqT K H a ys ∧ VRs ι H xs ys
  | .obj n, v => ∃ a, ι[n]? = some a ∧ v = .ref a
  | .rol xs, v => ∃ a ys, v = .ref a ∧ RoL K H a ys ∧ VRs ι H xs ys
  | .glo x, v => v = .ref (ga x)
  | .ty n, v => v = .ty n
def VRs (ι : List Addr) (H : Hp) : List PV → List V → Prop
  | [], ys => ys = []
  | x :: xs, ys => ∃ y r, ys = y :: r ∧ VR ι H x y ∧ VRs ι H xs r
end
def DRs (ι : List Addr) (H : Hp) : List (Key × PV) → List (Key × V) → Prop
  | [], l => l = []
  | p :: ps, l => ∃ v r, l = (p.1, v) :: r ∧ VR K ga ι H p.2 v ∧ DRs ι H ps r
def FRs (ι : List Addr) (H : Hp) : List (Str × PV) → List (Str × V) → Prop
  | [], l => l = []
  | p :: ps, l => ∃ v r, l = (p.1, v) :: r ∧ VR K ga ι H p.2 v ∧ FRs ι H ps r
def OA (ι : List Addr) (H : Hp) : LO → HO → Prop
  | .lst xs, o => ∃ ys, o = .lst ys ∧ VRs K ga ι H xs ys
  | .dct kvs, o => ∃ l, o = .dK l ∧ DRs K ga ι H kvs l
  | .fdct kvs, o => ∃ od l, o = .frz od (.dK l) ∧ DRs K ga ι H kvs l
  | .ins C fs, o => ∃ dx l, o = .ins (ga C) dx l ∧ FRs K ga ι H fs l
structure Wd (ι : List Addr) (L : LH) (H : Hp) : Prop where
  len : ι.length = L.length
  nd : ι.Nodup
  at_ : ∀ (n : Nat) (a : Addr) (o : LO), ι[n]? = some a → L[n]? = some o → ∃ ho, H a = some ho ∧ OA K ga ι H o ho
  tb : LamX.Tabs ga.T H
/-- nothing of ours stands at a -/
def Fre (H : Hp) (a : Addr) : Prop := ∀ o, H a = some o → ∃ ps, o = .tbl ps
/-- what grew -/
structure Ext (ι : List Addr) (H : Hp) (ι' : List Addr) (H' : Hp) : Prop where
  gr : ∃ δ, ι' = ι ++ δ ∧ ∀ a ∈ δ, a ∈ ι ∨ Fre H a
  st : ∀ a o, a ∉ ι → H a = some o → (∀ ps, o ≠ .tbl ps) → H' a = some o
  tp : ∀ a ys, SqT K H a ys → SqT K H' a ys
  ro : ∀ a ys, RoL K H a ys → RoL K H' a ys
  fz : ∀ a o u, H a = some (.frz o u) → H' a = some (.frz o u)
/-- what a value leans on -/
structure Up (ι : List Addr) (H : Hp) (ι' : List Addr) (H' : Hp) : Prop where
  gr : ∃ δ, ι' = ι ++ δ
  tp : ∀ a ys, SqT K H a ys → SqT K H' a ys
  ro : ∀ a ys, RoL K H a ys → RoL K H' a ys
end
/-- an exception that a suite handles: its slot, its address, its own dict, its fields -/
structure Gh where
  i : Nat
  a : Addr
  d : Addr
  fs : List (Str × PV)
  q : Option (Str × List Addr × Hp)
/-- what stands around: where the module's names stand, what is handled -/
structure Zs where
  f : Ga
  gh : List Gh
def GhOk (K : PySem.W.Frag) (ga : Ga) (ι : List Addr) (H : Hp) (σ : L2.St) (g : Gh) : Prop := σ[g.i]? = some (some (.ref g.a)) ∧ g.d ∉ ι ∧ (match g.q with
  | none => ∃ l, H g.d = some (.xd l) ∧ FRs K ga ι H g.fs l
  | some q => H g.d = some (LamX.CodeO g.d q.1) ∧ Up K q.2.1 q.2.2 ι H)
structure SR (K : PySem.W.Frag) (Z : Zs) (ι : List Addr) (H : Hp) (τ : Sl) (σ : L2.St) : Prop where
  len : τ.length = σ.length
  at_ : ∀ (i : Nat) (x : PV), τ[i]? = some (some x) → ∃ v, σ[i]? = some (some v) ∧ VR K Z.f ι H x v
  gh : ∀ g ∈ Z.gh, GhOk K Z.f ι H σ g
/-- no handled exception stands in slot i -/
def Zs.ok (Z : Zs) (i : Nat) : Bool := Z.gh.all fun g => !(g.i == i)
section
variable {K : PySem.W.Frag} {ga : Ga} {a : Addr} {ι ι' ι1 ι2 : List Addr} {H H' H1 H2 : Hp} {L L' : LH}
theorem Ext.refl : Ext K ι H ι H := ⟨⟨[], by simp, fun _ h => nomatch h⟩, fun _ _ _ h _ => h, fun _ _ h => h, fun _ _ h => h, fun _ _ _ h => h⟩
theorem Fre.of (h : H a = none) : Fre H a := fun o e => by rw [h] at e; cases e
theorem Ext.fre (e : Ext K ι H ι' H') {a : Addr} (hi : a ∉ ι) (h : Fre H' a) : Fre H a := fun o q => by
  cases o with
  | tbl ps => exact ⟨ps, rfl⟩
  | _ => obtain ⟨ps, z⟩ := h _ (e.st a _ hi q (fun _ z => nomatch z)); cases z
theorem Ext.trans (a : Ext K ι H ι1 H1) (b : Ext K ι1 H1 ι2 H2) : Ext K ι H ι2 H2 := by
  obtain ⟨⟨δ, e1, h1⟩, s1, t1, r1, f1⟩ := a
  obtain ⟨⟨δ', e2, h2⟩, s2, t2, r2, f2⟩ := b
  subst e1 e2
  refine ⟨⟨δ ++ δ', by simp, fun x hx => ?_⟩, fun x o hx h nt => ?_, fun x ys h => t2 _ _ (t1 _ _ h), fun x ys h => r2 _ _ (r1 _ _ h), fun x o u h => f2 _ _ _ (f1 _ _ _ h)⟩
  · rcases List.mem_append.mp hx with hx | hx
    · exact h1 x hx
    · rcases h2 x hx with z | z
      · rcases List.mem_append.mp z with z | z
        · exact .inl z
        · exact h1 x z
      · by_cases hi : x ∈ ι
        · exact .inl hi
        · exact .inr (Ext.fre (K := K) (ι := ι) (ι' := ι ++ δ) ⟨⟨δ, rfl, h1⟩, s1, t1, r1, f1⟩ hi z)
  · refine s2 x o (fun hm => ?_) (s1 x o hx h nt) nt
    rcases List.mem_append.mp hm with hm | hm
    · exact hx hm
    · rcases h1 x hm with z | z
      · exact hx z
      · obtain ⟨ps, y⟩ := z o h
        exact nt ps y
theorem Up.refl : Up K ι H ι H := ⟨⟨[], by simp⟩, fun _ _ h => h, fun _ _ h => h⟩
theorem Up.trans (a : Up K ι H ι1 H1) (b : Up K ι1 H1 ι2 H2) : Up K ι H ι2 H2 := by
  obtain ⟨⟨δ, rfl⟩, t, r⟩ := a
  obtain ⟨⟨δ', rfl⟩, t', r'⟩ := b
  exact ⟨⟨δ ++ δ', by simp⟩, fun _ _ h => t' _ _ (t _ _ h), fun _ _ h => r' _ _ (r _ _ h)⟩
theorem Ext.u (e : Ext K ι H ι' H') : Up K ι H ι' H' := ⟨let ⟨δ, h, _⟩ := e.gr; ⟨δ, h⟩, e.tp, e.ro⟩
mutual
theorem VR.upU (e : Up K ι H ι' H') : ∀ {x : PV} {v : V}, VR K ga ι H x v → VR K ga ι' H' x v
  | .non, _, h => h
  | .bl _, _, h => h
  | .int _, _, h => h
  | .str _, _, h => h
  | .tup xs, _, h => by
    obtain ⟨a, ys, e1, e2, e3⟩ := h
    exact ⟨a, ys, e1, e.tp _ _ e2, VRs.upU e e3⟩
  | .obj n, _, h => by
    obtain ⟨a, e1, e2⟩ := h
    obtain ⟨⟨δ, rfl⟩, _⟩ := e
    refine ⟨a, ?_, e2⟩
    rw [List.getElem?_append_left (List.getElem?_eq_some_iff.mp e1).1]
    exact e1
  | .rol xs, _, h => by
    obtain ⟨a, ys, e1, e2, e3⟩ := h
    exact ⟨a, ys, e1, e.ro _ _ e2, VRs.upU e e3⟩
  | .glo _, _, h => h
  | .ty _, _, h => h
theorem VRs.upU (e : Up K ι H ι' H') : ∀ {xs : List PV} {vs : List V}, VRs K ga ι H xs vs → VRs K ga ι' H' xs vs
  | [], _, h => h
  | x :: xs, _, h => by
    obtain ⟨y, r, e1, e2, e3⟩ := h
    exact ⟨y, r, e1, VR.upU e e2, VRs.upU e e3⟩
end
theorem DRs.upU (e : Up K ι H ι' H') : ∀ {xs : List (Key × PV)} {l : List (Key × V)}, DRs K ga ι H xs l → DRs K ga ι' H' xs l
  | [], _, h => h
  | x :: xs, _, h => by
    obtain ⟨v, r, e1, e2, e3⟩ := h
    exact ⟨v, r, e1, e2.upU e, DRs.upU e e3⟩
theorem FRs.upU (e : Up K ι H ι' H') : ∀ {xs : List (Str × PV)} {l : List (Str × V)}, FRs K ga ι H xs l → FRs K ga ι' H' xs l
  | [], _, h => h
  | x :: xs, _, h => by
    obtain ⟨v, r, e1, e2, e3⟩ := h
    exact ⟨v, r, e1, e2.upU e, FRs.upU e e3⟩
theorem OA.upU (e : Up K ι H ι' H') : ∀ {o : LO} {ho : HO}, OA K ga ι H o ho → OA K ga ι' H' o ho
  | .lst _, _, ⟨ys, h1, h2⟩ => ⟨ys, h1, h2.upU e⟩
  | .dct _, _, ⟨l, h1, h2⟩ => ⟨l, h1, h2.upU e⟩
  | .fdct _, _, ⟨od, l, h1, h2⟩ => ⟨od, l, h1, h2.upU e⟩
  | .ins _ _, _, ⟨dx, l, h1, h2⟩ => ⟨dx, l, h1, h2.upU e⟩
theorem VR.up (e : Ext K ι H ι' H') {x : PV} {v : V} (h : VR K ga ι H x v) : VR K ga ι' H' x v := h.upU e.u
theorem VRs.up (e : Ext K ι H ι' H') {x : List PV} {v : List V} (h : VRs K ga ι H x v) : VRs K ga ι' H' x v := h.upU e.u
theorem DRs.up (e : Ext K ι H ι' H') {x : List (Key × PV)} {v : List (Key × V)} (h : DRs K ga ι H x v) : DRs K ga ι' H' x v := h.upU e.u
theorem FRs.up (e : Ext K ι H ι' H') {x : List (Str × PV)} {v : List (Str × V)} (h : FRs K ga ι H x v) : FRs K ga ι' H' x v := h.upU e.u
theorem OA.up (e : Ext K ι H ι' H') {x : LO} {v : HO} (h : OA K ga ι H x v) : OA K ga ι' H' x v := h.upU e.u

/-- the kinds that stand in the logical heap -/
def Mk : HO → Prop
  | .lst _ => True
  | .dK _ => True
  | .ins _ _ _ => True
  | .frz _ (.dK _) => True
  | _ => False
/-- those that may be written -/
def Mw : HO → Prop
  | .lst _ => True
  | .dK _ => True
  | .ins _ _ _ => True
  | _ => False
theorem Mw.mk {u : HO} (h : Mw u) : Mk u := by
  cases u <;> first | exact True.intro | exact h.elim
theorem Mw.nf {u : HO} (h : Mw u) : ∀ o x, u ≠ .frz o x := fun o x e => by subst e; exact h
theorem OA.mk {o : LO} {ho : HO} (h : OA K ga ι H o ho) : Mk ho := by
  cases o with
  | lst _ => obtain ⟨_, rfl, _⟩ := h; exact True.intro
  | dct _ => obtain ⟨_, rfl, _⟩ := h; exact True.intro
  | fdct _ => obtain ⟨_, _, rfl, _⟩ := h; exact True.intro
  | ins _ _ => obtain ⟨_, _, rfl, _⟩ := h; exact True.intro
theorem Wd.some (w : Wd K ga ι L H) {a : Addr} (h : a ∈ ι) : ∃ ho, H a = some ho ∧ Mk ho := by
  obtain ⟨n, hn⟩ := List.mem_iff_getElem?.mp h
  have hl : n < L.length := by rw [← w.len]; exact (List.getElem?_eq_some_iff.mp hn).1
  obtain ⟨ho, h1, h2⟩ := w.at_ n a L[n] hn (List.getElem?_eq_getElem hl)
  exact ⟨ho, h1, h2.mk⟩
/-- a new thing that is not told -/
theorem Ext.new {p : Addr} {o : HO} (hp : H p = none) : Ext K ι H ι (upd H p o) := by
  have k : ∀ a u, H a = some u → upd H p o a = some u := fun a u h => by rw [upd_ne (ne_of_none h hp)]; exact h
  refine ⟨⟨[], by simp, fun _ h => nomatch h⟩, fun a u _ h _ => k a u h, fun a ys h => ?_, fun a ys h => ?_, fun a o' u h => ?_⟩
  · rcases h with (h | ⟨u, h⟩) | h
    · exact .inl (.inl (k _ _ h))
    · exact .inl (.inr ⟨u, k _ _ h⟩)
    · exact .inr h
  · rcases h with ⟨u, h⟩ | h
    · exact .inl ⟨u, k _ _ h⟩
    · exact .inr h
  · exact k _ _ h
theorem Wd.ext (w : Wd K ga ι L H) (e : Ext K ι H ι H') (s : ∀ a ∈ ι, H' a = H a) (t : LamX.Tabs ga.T H') : Wd K ga ι L H' :=
  ⟨w.len, w.nd, fun n a o h1 h2 => let ⟨ho, q1, q2⟩ := w.at_ n a o h1 h2; ⟨ho, (s a (List.mem_of_getElem? h1)).trans q1, q2.up e⟩, t⟩
theorem Wd.new (w : Wd K ga ι L H) {p : Addr} {o : HO} (hp : H p = none) : Wd K ga ι L (upd H p o) :=
  w.ext (Ext.new hp) (fun a h => upd_ne (by obtain ⟨u, q, _⟩ := w.some h; exact ne_of_none q hp)) (w.tb.ext fun b u q => by rw [upd_ne (ne_of_none q hp)]; exact q)
/-- a new object of the logical heap -/
theorem Ext.alloc {p : Addr} {o : HO} (hp : H p = none) : Ext K ι H (ι ++ [p]) (upd H p o) := by
  have e := Ext.new (K := K) (ι := ι) (o := o) hp
  exact ⟨⟨[p], rfl, fun a h => by
    have z : a = p := by simpa using h
    exact .inr (.of (z ▸ hp))⟩, e.st, e.tp, e.ro, e.fz⟩
theorem Wd.alloc (w : Wd K ga ι L H) {p : Addr} {o : LO} {ho : HO} (hp : H p = none) (r : OA K ga (ι ++ [p]) (upd H p ho) o ho) : Wd K ga (ι ++ [p]) (L ++ [o]) (upd H p ho) := by
  have hn : p ∉ ι := fun h => by obtain ⟨u, q, _⟩ := w.some h; rw [hp] at q; cases q
  refine ⟨by simp [w.len], ?_, fun n a u h1 h2 => ?_, w.tb.ext fun b u q => by rw [upd_ne (ne_of_none q hp)]; exact q⟩
  · rw [List.nodup_append]
    exact ⟨w.nd, by simp, fun a ha b hb => by
      have z : b = p := by simpa using hb
      exact fun y => hn ((y.trans z) ▸ ha)⟩
  · by_cases hl : n < ι.length
    · rw [List.getElem?_append_left hl] at h1
      rw [List.getElem?_append_left (by rw [← w.len]; exact hl)] at h2
      obtain ⟨q, q1, q2⟩ := w.at_ n a u h1 h2
      exact ⟨q, by rw [upd_ne (ne_of_none q1 hp)]; exact q1, q2.up (Ext.alloc hp)⟩
    · have hl2 : n = ι.length := by
        have := (List.getElem?_eq_some_iff.mp h1).1
        rw [List.length_append] at this
        simp at this
        omega
      subst hl2
      have e1 : a = p := by simpa using h1.symm
      have e2 : u = o := by rw [w.len] at h2; simpa using h2.symm
      subst e1 e2
      exact ⟨ho, upd_same, r⟩
theorem tabS_upd {a : Addr} {o u : HO} (q : H a = Option.some u) (m : Mk u) {P : Addr} {z : Str} (h : LamX.TabS H P z) : LamX.TabS (upd H a o) P z := by
  obtain ⟨ps, h1, h2, h3⟩ := h
  have ne : P ≠ a := fun e => by rw [e, q] at h1; cases h1; exact m
  refine ⟨ps, by rw [upd_ne ne]; exact h1, h2, fun pos cv hc => ?_⟩
  obtain ⟨c, e1, e2⟩ := h3 pos cv hc
  have nc : c ≠ a := fun e => by rw [e, q] at e2; cases e2; exact m
  exact ⟨c, e1, by rw [upd_ne nc]; exact e2⟩
/-- an object is changed -/
theorem Ext.set {n : Nat} {a : Addr} {o u : HO} (h : ι[n]? = Option.some a) (q : H a = Option.some u) (m : Mw u) : Ext K ι H ι (upd H a o) := by
  have hm := List.mem_of_getElem? h
  have k : ∀ b u', b ≠ a → H b = Option.some u' → upd H a o b = Option.some u' := fun b u' hb h => by rw [upd_ne hb]; exact h
  have nb : ∀ (b : Addr) (u' : HO), H b = Option.some u' → ¬ Mw u' → b ≠ a := fun b u' h' nm z => by rw [z, q] at h'; cases h'; exact nm m
  refine ⟨⟨[], by simp, fun _ h => nomatch h⟩, fun b u' hb h _ => k b u' (fun z => hb (z ▸ hm)) h, fun b ys h => ?_, fun b ys h => ?_, fun b o' u' h => k _ _ (nb b _ h fun z => z) h⟩
  · rcases h with (h | ⟨u', h⟩) | h
    · exact .inl (.inl (k _ _ (nb b _ h fun z => z) h))
    · exact .inl (.inr ⟨u', k _ _ (nb b _ h fun z => z) h⟩)
    · exact .inr h
  · rcases h with ⟨u', h⟩ | h
    · exact .inl ⟨u', k _ _ (nb b _ h fun z => z) h⟩
    · exact .inr h
theorem Wd.put (w : Wd K ga ι L H) {n : Nat} {a : Addr} {o : LO} {ho : HO} (h : ι[n]? = Option.some a) (up : Up K ι H ι (upd H a ho)) (tb : LamX.Tabs ga.T (upd H a ho)) (r : OA K ga ι (upd H a ho) o ho) : Wd K ga ι (L.set n o) (upd H a ho) := by
  refine ⟨by simp [w.len], w.nd, fun m b u' h1 h2 => ?_, tb⟩
  have hn : n < L.length := by rw [← w.len]; exact (List.getElem?_eq_some_iff.mp h).1
  by_cases hm : m = n
  · subst hm
    rw [h] at h1
    cases h1
    rw [List.getElem?_set_self hn] at h2
    cases h2
    exact ⟨ho, upd_same, r⟩
  · rw [List.getElem?_set_ne (Ne.symm hm)] at h2
    obtain ⟨q, q1, q2⟩ := w.at_ m b u' h1 h2
    have hb : b ≠ a := fun z => by
      subst z
      obtain ⟨l1, e1⟩ := List.getElem?_eq_some_iff.mp h1
      obtain ⟨l2, e2⟩ := List.getElem?_eq_some_iff.mp h
      exact hm ((List.getElem_inj w.nd).mp (e1.trans e2.symm))
    exact ⟨q, by rw [upd_ne hb]; exact q1, q2.upU up⟩
theorem Wd.set (w : Wd K ga ι L H) {n : Nat} {a : Addr} {o : LO} {ho u : HO} (h : ι[n]? = Option.some a) (q : H a = Option.some u) (m : Mw u) (r : OA K ga ι (upd H a ho) o ho) : Wd K ga ι (L.set n o) (upd H a ho) := w.put h (Ext.set h q m).u (fun x hx => tabS_upd q m.mk (w.tb x hx)) r
theorem VRs.len : ∀ {xs : List PV} {vs : List V}, VRs K ga ι H xs vs → xs.length = vs.length
  | [], _, h => by cases h; rfl
  | x :: xs, _, h => by obtain ⟨y, r, rfl, _, h2⟩ := h; simp [VRs.len h2]
theorem VRs.get : ∀ {xs : List PV} {vs : List V} {i : Nat} {x : PV}, VRs K ga ι H xs vs → xs[i]? = Option.some x → ∃ v, vs[i]? = Option.some v ∧ VR K ga ι H x v
  | [], _, _, _, _, e => by simp at e
  | y :: xs, _, 0, x, h, e => by obtain ⟨v, r, rfl, h1, _⟩ := h; simp at e; subst e; exact ⟨v, rfl, h1⟩
  | y :: xs, _, i + 1, x, h, e => by
    obtain ⟨v, r, rfl, _, h2⟩ := h
    obtain ⟨u, q1, q2⟩ := VRs.get (i := i) (x := x) h2 (by simpa using e)
    exact ⟨u, by simpa using q1, q2⟩
theorem VRs.app : ∀ {xs ys : List PV} {vs us : List V}, VRs K ga ι H xs vs → VRs K ga ι H ys us → VRs K ga ι H (xs ++ ys) (vs ++ us)
  | [], _, _, _, h, k => by cases h; exact k
  | x :: xs, _, _, _, h, k => by obtain ⟨y, r, rfl, h1, h2⟩ := h; exact ⟨y, r ++ _, rfl, h1, VRs.app h2 k⟩
theorem VRs.drop : ∀ {xs : List PV} {vs : List V} (n : Nat), VRs K ga ι H xs vs → VRs K ga ι H (xs.drop n) (vs.drop n)
  | _, _, 0, h => h
  | [], _, _ + 1, h => by cases h; rfl
  | x :: xs, _, n + 1, h => by obtain ⟨y, r, rfl, h1, h2⟩ := h; exact VRs.drop n h2
theorem VRs.take : ∀ {xs : List PV} {vs : List V} (n : Nat), VRs K ga ι H xs vs → VRs K ga ι H (xs.take n) (vs.take n)
  | _, _, 0, h => rfl
  | [], _, _ + 1, h => by cases h; rfl
  | x :: xs, _, n + 1, h => by obtain ⟨y, r, rfl, h1, h2⟩ := h; exact ⟨y, r.take n, rfl, h1, VRs.take n h2⟩
theorem VRs.set {x : PV} {v : V} (hx : VR K ga ι H x v) : ∀ {xs : List PV} {vs : List V} (n : Nat), VRs K ga ι H xs vs → VRs K ga ι H (xs.set n x) (vs.set n v)
  | [], _, _, h => by cases h; rfl
  | y :: xs, _, 0, h => by obtain ⟨u, r, rfl, h1, h2⟩ := h; exact ⟨v, r, rfl, hx, h2⟩
  | y :: xs, _, n + 1, h => by obtain ⟨u, r, rfl, h1, h2⟩ := h; exact ⟨u, r.set n v, rfl, h1, VRs.set hx n h2⟩
variable {Z : Zs}
theorem xd_not {w : Wd K ga ι L H} {d : Addr} {l : List (Str × V)} (h : H d = some (.xd l)) : d ∉ ι := fun z => by
  obtain ⟨u, q, m⟩ := w.some z
  rw [h] at q; cases q; exact m
theorem Ext.keep (e : Ext K ι H ι' H') {p : Addr} {u : HO} (hp : H p = Option.some u) (hn : p ∉ ι) (ht : ∀ ps, u ≠ .tbl ps := by intro _ h; cases h) : H' p = Option.some u ∧ p ∉ ι' := by
  refine ⟨e.st p u hn hp ht, fun z => ?_⟩
  obtain ⟨⟨δ, rfl, hd⟩, _⟩ := e
  rcases List.mem_append.mp z with z | z
  · exact hn z
  · rcases hd p z with z | z
    · exact hn z
    · obtain ⟨ps, y⟩ := z u hp
      exact ht ps y
theorem SR.up {τ : Sl} {σ : L2.St} (h : SR K Z ι H τ σ) (e : Ext K ι H ι' H') : SR K Z ι' H' τ σ :=
  ⟨h.len, fun i x q => let ⟨v, a, b⟩ := h.at_ i x q; ⟨v, a, b.up e⟩, fun g hg => by
    obtain ⟨a, n, b⟩ := h.gh g hg
    unfold GhOk
    cases hq : g.q with
    | none =>
      rw [hq] at b
      obtain ⟨l, b, c⟩ := b
      obtain ⟨b', n'⟩ := e.keep b n
      exact ⟨a, n', l, b', c.up e⟩
    | some q =>
      rw [hq] at b
      obtain ⟨b', n'⟩ := e.keep b.1 n (by intro _ h; cases h)
      exact ⟨a, n', b', b.2.trans e.u⟩⟩
theorem SR.set {τ : Sl} {σ : L2.St} {x : PV} {v : V} (h : SR K Z ι H τ σ) (i : Nat) (hz : Z.ok i = true) (hx : VR K Z.f ι H x v) : SR K Z ι H (τ.set i (Option.some x)) (σ.set i (Option.some v)) := by
  refine ⟨by simp [h.len], fun j y q => ?_, fun g hg => ?_⟩
  · by_cases hj : j = i
    · subst hj
      have hl : j < τ.length := by
        have := (List.getElem?_eq_some_iff.mp q).1
        simpa using this
      rw [List.getElem?_set_self hl] at q
      cases q
      exact ⟨v, by rw [List.getElem?_set_self (h.len ▸ hl)], hx⟩
    · rw [List.getElem?_set_ne (Ne.symm hj)] at q
      rw [List.getElem?_set_ne (Ne.symm hj)]
      exact h.at_ j y q
  · obtain ⟨a, b⟩ := h.gh g hg
    have z := List.all_eq_true.mp hz g hg
    refine ⟨?_, b⟩
    rw [List.getElem?_set_ne (by intro y; rw [y] at z; simp at z)]
    exact a
theorem SR.gone {τ : Sl} {σ : L2.St} (h : SR K Z ι H τ σ) (i : Nat) (hz : Z.ok i = true) : SR K Z ι H (τ.set i none) (σ.set i none) := by
  refine ⟨by simp [h.len], fun j y q => ?_, fun g hg => ?_⟩
  · by_cases hj : j = i
    · subst hj
      have hl : j < τ.length := by
        have := (List.getElem?_eq_some_iff.mp q).1
        simpa using this
      rw [List.getElem?_set_self hl] at q
      cases q
    · rw [List.getElem?_set_ne (Ne.symm hj)] at q
      rw [List.getElem?_set_ne (Ne.symm hj)]
      exact h.at_ j y q
  · obtain ⟨a, b⟩ := h.gh g hg
    have z := List.all_eq_true.mp hz g hg
    refine ⟨?_, b⟩
    rw [List.getElem?_set_ne (by intro y; rw [y] at z; simp at z)]
    exact a
/-! ### a thing of ours that is not told: a list under construction -/
theorem Up.tmp {p : Addr} {o : HO} {u : HO} (hp : H p = Option.some u) (m : Mk u) : Up K ι H ι (upd H p o) := by
  refine ⟨⟨[], by simp⟩, fun b ys h => ?_, fun b ys h => ?_⟩
  · have nb : ∀ u', H b = Option.some u' → ¬ Mk u' → b ≠ p := fun u' h' nm z => by rw [z, hp] at h'; cases h'; exact nm m
    rcases h with (h | ⟨u', h⟩) | h
    · exact .inl (.inl (by rw [upd_ne (nb _ h fun z => z)]; exact h))
    · exact .inl (.inr ⟨u', by rw [upd_ne (nb _ h fun z => z)]; exact h⟩)
    · exact .inr h
  · have nb : ∀ u', H b = Option.some u' → ¬ Mk u' → b ≠ p := fun u' h' nm z => by rw [z, hp] at h'; cases h'; exact nm m
    rcases h with ⟨u', h⟩ | h
    · exact .inl ⟨u', by rw [upd_ne (nb _ h fun z => z)]; exact h⟩
    · exact .inr h
theorem Wd.tmp (w : Wd K ga ι L H) {p : Addr} {o u : HO} (hp : H p = Option.some u) (m : Mk u) (hn : p ∉ ι) : Wd K ga ι L (upd H p o) :=
  ⟨w.len, w.nd, fun n a x h1 h2 => let ⟨ho, q1, q2⟩ := w.at_ n a x h1 h2; ⟨ho, by rw [upd_ne (fun z : a = p => hn (by rw [← z]; exact List.mem_of_getElem? h1))]; exact q1, q2.upU (Up.tmp hp m)⟩, fun x hx => tabS_upd hp m (w.tb x hx)⟩
theorem SR.tmp {τ : Sl} {σ : L2.St} (s : SR K Z ι H τ σ) {p : Addr} {o u : HO} (hp : H p = Option.some u) (m : Mk u) : SR K Z ι (upd H p o) τ σ :=
  ⟨s.len, fun i x q => let ⟨v, a, b⟩ := s.at_ i x q; ⟨v, a, b.upU (Up.tmp hp m)⟩, fun g hg => by
    obtain ⟨a, n, b⟩ := s.gh g hg
    unfold GhOk
    cases hq : g.q with
    | none =>
      rw [hq] at b
      obtain ⟨l, b, c⟩ := b
      exact ⟨a, n, l, by rw [upd_ne (fun z => by rw [z, hp] at b; cases b; exact m)]; exact b, c.upU (Up.tmp hp m)⟩
    | some q =>
      rw [hq] at b
      obtain ⟨b, c⟩ := b
      exact ⟨a, n, (upd_ne (fun z => by rw [z, hp] at b; cases b; exact m)).trans b, c.trans (Up.tmp hp m)⟩⟩
/-- seen from a heap that has no p yet -/
theorem Ext.tmp (e : Ext K ι H ι' H') {p : Addr} {o u : HO} (h0 : Fre H p) (hp : H' p = Option.some u) (m : Mk u) : Ext K ι H ι' (upd H' p o) :=
  have nf : ∀ a x, H a = Option.some x → (∀ ps, x ≠ .tbl ps) → a ≠ p := fun a x h nt z => by rw [z] at h; obtain ⟨ps, y⟩ := h0 _ h; exact nt ps y
  ⟨e.gr, fun a x ha h nt => by rw [upd_ne (nf a x h nt)]; exact e.st a x ha h nt, fun a ys h => (Up.tmp (K := K) (ι := ι') hp m).tp _ _ (e.tp _ _ h), fun a ys h => (Up.tmp (K := K) (ι := ι') hp m).ro _ _ (e.ro _ _ h), fun a o' u' h => by rw [upd_ne (nf a _ h (fun _ z => nomatch z))]; exact e.fz _ _ _ h⟩
/-- it becomes an object of the logical heap -/
theorem Wd.adopt (w : Wd K ga ι L H) {p : Addr} {o : LO} {ho : HO} (hp : H p = Option.some ho) (hn : p ∉ ι) (r : OA K ga ι H o ho) : Wd K ga (ι ++ [p]) (L ++ [o]) H := by
  have u : Up K ι H (ι ++ [p]) H := ⟨⟨[p], rfl⟩, fun _ _ h => h, fun _ _ h => h⟩
  refine ⟨by simp [w.len], ?_, fun n a x h1 h2 => ?_, w.tb⟩
  · rw [List.nodup_append]
    exact ⟨w.nd, by simp, fun a ha b hb => by
      have z : b = p := by simpa using hb
      exact fun y => hn ((y.trans z) ▸ ha)⟩
  · by_cases hl : n < ι.length
    · rw [List.getElem?_append_left hl] at h1
      rw [List.getElem?_append_left (by rw [← w.len]; exact hl)] at h2
      obtain ⟨q, q1, q2⟩ := w.at_ n a x h1 h2
      exact ⟨q, q1, q2.upU u⟩
    · have hl2 : n = ι.length := by
        have := (List.getElem?_eq_some_iff.mp h1).1
        rw [List.length_append] at this
        simp at this
        omega
      subst hl2
      have e1 : a = p := by simpa using h1.symm
      have e2 : x = o := by rw [w.len] at h2; simpa using h2.symm
      subst e1 e2
      exact ⟨ho, hp, r.upU u⟩
theorem Ext.adopt (e : Ext K ι H ι' H') {p : Addr} (h0 : Fre H p) : Ext K ι H (ι' ++ [p]) H' := by
  obtain ⟨⟨δ, rfl, hd⟩, s, t, r, f⟩ := e
  refine ⟨⟨δ ++ [p], by simp, fun a h => ?_⟩, s, t, r, f⟩
  rcases List.mem_append.mp h with h | h
  · exact hd a h
  · have z : a = p := by simpa using h
    exact .inr (z ▸ h0)
end
end FL
/-! FLB: the judgements. -/
namespace FL
open PySem PySem.Spec PyProof.Rows L2
abbrev ME := Sl → LH → R PV
abbrev MA := Sl → LH → R (List PV)
abbrev MT := Sl → LH → R Bool
abbrev MS := Sl → LH → RS
/-- a result, for what is wanted -/
def gd {α β : Type} (K : PySem.W.Frag) (ga : Ga) (W : WX) (rel : List Addr → Hp → α → β → Prop) (r : R α) (ι : List Addr) (H : Hp) (σ : L2.St) (P : α → LH → List Addr → β → Hp → Prop) : Prop := match r with
  | .ok x L' => ∀ ι' H' v, Ext K ι H ι' H' → Wd K ga ι' L' H' → rel ι' H' x v → P x L' ι' v H'
  | .ex c fs L' => ∀ ι' H' d l, Ext K ι H ι' H' → Wd K ga ι' L' H' → H' d = some (.xd l) → FRs K ga ι' H' fs l → W (.ref (ga c)) (some d) σ H'
  | .no => False
section
variable {K : PySem.W.Frag} {ga : Ga} {W : WX} {α β γ δ : Type} {rel : List Addr → Hp → α → β → Prop} {rel2 : List Addr → Hp → γ → δ → Prop} {ι ι' : List Addr} {H H' : Hp} {σ : L2.St} {L : LH}
theorem gd.ext {r : R α} {P : α → LH → List Addr → β → Hp → Prop} (h : gd K ga W rel r ι H σ P) (e : Ext K ι H ι' H') : gd K ga W rel r ι' H' σ P := by
  cases r with
  | ok x L' => exact fun ι2 H2 v e2 w r => h ι2 H2 v (e.trans e2) w r
  | ex c fs L' => exact fun ι2 H2 d l e2 w a b => h ι2 H2 d l (e.trans e2) w a b
  | no => exact h
theorem gd.bind {r : R α} {k : α → LH → R γ} {P : γ → LH → List Addr → δ → Hp → Prop} {P1 : α → LH → List Addr → β → Hp → Prop} (h : gd K ga W rel2 (r.bind k) ι H σ P)
    (q : ∀ x L1 ι1 v H1, r = .ok x L1 → Ext K ι H ι1 H1 → Wd K ga ι1 L1 H1 → rel ι1 H1 x v → gd K ga W rel2 (k x L1) ι1 H1 σ P → P1 x L1 ι1 v H1) : gd K ga W rel r ι H σ P1 := by
  cases r with
  | ok x L' => exact fun ι2 H2 v e2 w r => q x L' ι2 v H2 rfl e2 w r (gd.ext h e2)
  | ex c fs L' => exact h
  | no => exact h
theorem gd.ok {x : α} {v : β} {P : α → LH → List Addr → β → Hp → Prop} (h : gd K ga W rel (.ok x L) ι H σ P) (w : Wd K ga ι L H) (r : rel ι H x v) : P x L ι v H := h ι H v Ext.refl w r
theorem gd.ok' {x : α} {v : β} {L' : LH} {P : α → LH → List Addr → β → Hp → Prop} (h : gd K ga W rel (.ok x L') ι H σ P) (e : Ext K ι H ι' H') (w : Wd K ga ι' L' H') (r : rel ι' H' x v) : P x L' ι' v H' := h ι' H' v e w r
theorem gd.mono {r : R α} {P P' : α → LH → List Addr → β → Hp → Prop} (h : gd K ga W rel r ι H σ P) (q : ∀ x L1 ι1 v H1, Ext K ι H ι1 H1 → Wd K ga ι1 L1 H1 → rel ι1 H1 x v → P x L1 ι1 v H1 → P' x L1 ι1 v H1) : gd K ga W rel r ι H σ P' := by
  cases r with
  | ok x L' => exact fun ι2 H2 v e2 w r => q x L' ι2 v H2 e2 w r (h ι2 H2 v e2 w r)
  | ex c fs L' => exact h
  | no => exact h
end
/-- the reading of a mirror -/
def tM {α β : Type} (K : PySem.W.Frag) (Z : Zs) (W : WX) (rel : List Addr → Hp → α → β → Prop) (m : Sl → LH → R α) : L2.St → Hp → (β → Hp → Prop) → Prop := fun σ H Q =>
  ∃ ι L τ, Wd K Z.f ι L H ∧ SR K Z ι H τ σ ∧ gd K Z.f W rel (m τ L) ι H σ fun _ _ _ v H' => Q v H'
abbrev relB : List Addr → Hp → Bool → Bool → Prop := fun _ _ a b => a = b
section
variable {K : PySem.W.Frag} {Z : Zs} {W : WX} {α β γ δ : Type} {rel : List Addr → Hp → α → β → Prop} {rel2 : List Addr → Hp → γ → δ → Prop} {σ : L2.St} {H : Hp}
theorem tM.bind {m : Sl → LH → R α} {k : Sl → α → LH → R γ} {Q : δ → Hp → Prop} {Q1 : β → Hp → Prop} (h : tM K Z W rel2 (fun τ L => (m τ L).bind (k τ)) σ H Q)
    (q : ∀ τ x L1 ι1 v H1, Wd K Z.f ι1 L1 H1 → SR K Z ι1 H1 τ σ → rel ι1 H1 x v → gd K Z.f W rel2 (k τ x L1) ι1 H1 σ (fun _ _ _ v H' => Q v H') → Q1 v H1) : tM K Z W rel m σ H Q1 := by
  obtain ⟨ι, L, τ, w, s, g⟩ := h
  exact ⟨ι, L, τ, w, s, g.bind fun x L1 ι1 v H1 _ e w1 r g1 => q τ x L1 ι1 v H1 w1 (s.up e) r g1⟩
end
section
variable (Z : Zs) (X : Cx) (W : WX)
abbrev FE (e : Expr) (m : ME) : Prop := PE X e (tM X.K Z W (VR X.K Z.f) m)
abbrev FA (es : List Expr) (m : MA) : Prop := PA X es (tM X.K Z W (VRs X.K Z.f) m)
abbrev FT (e : Expr) (m : MT) : Prop := PT X e (tM X.K Z W relB m)
abbrev FW (e : Expr) (m : MT) : Prop := PW X e (tM X.K Z W relB m)
end
theorem PE.imp {X : Cx} {e : Expr} {t t' : TE} (h : PE X e t) (q : ∀ σ H Q, t' σ H Q → t σ H Q) : PE X e t' := ⟨fun pins s σ H Q I z => h.run pins s σ H Q I (q _ _ _ z)⟩
theorem PT.imp {X : Cx} {e : Expr} {t t' : TT} (h : PT X e t) (q : ∀ σ H Q, t' σ H Q → t σ H Q) : PT X e t' := ⟨fun pins s σ H Q I z => h.run pins s σ H Q I (q _ _ _ z)⟩
theorem PW.imp {X : Cx} {e : Expr} {t t' : TT} (h : PW X e t) (q : ∀ σ H Q, t' σ H Q → t σ H Q) : PW X e t' := ⟨fun wh pins s σ H Q I z => h.run wh pins s σ H Q I (q _ _ _ z)⟩
theorem PA.imp {X : Cx} {es : List Expr} {t t' : TA} (h : PA X es t) (q : ∀ σ H Q, t' σ H Q → t σ H Q) : PA X es t' := ⟨fun pos pins s σ H Q I z => h.run pos pins s σ H Q I (q _ _ _ z)⟩
theorem PS.imp {X : Cx} {e : Stmt} {t t' : TS} (h : PS X e t) (q : ∀ D σ H, t' D σ H → t D σ H) : PS X e t' := ⟨fun pins s σ H D I z => h.run pins s σ H D I (q _ _ _ z)⟩
theorem PSs.imp {X : Cx} {e : List Stmt} {t t' : TS} (h : PSs X e t) (q : ∀ D σ H, t' D σ H → t D σ H) : PSs X e t' := ⟨fun pins s σ H D I z => h.run pins s σ H D I (q _ _ _ z)⟩
/-! ### the mirrors of expressions -/
def eC (v : PV) : ME := fun _ L => .ok v L
def eV (i : Nat) : ME := fun τ L => match τ[i]? with
  | some (some x) => .ok x L
  | _ => .no
def eOp (f : PV → PV → LH → R PV) (ma mb : ME) : ME := fun τ L => (ma τ L).bind fun x L1 => (mb τ L1).bind fun y L2 => f x y L2
def eUn (f : PV → LH → R PV) (ma : ME) : ME := fun τ L => (ma τ L).bind fun x L1 => f x L1
def aN : MA := fun _ L => .ok [] L
def aC (ma : ME) (mr : MA) : MA := fun τ L => (ma τ L).bind fun x L1 => (mr τ L1).bind fun xs L2 => .ok (x :: xs) L2
def eF (f : List PV → LH → R PV) (ma : MA) : ME := fun τ L => (ma τ L).bind fun xs L1 => f xs L1
def eIf (c : MT) (a b : ME) : ME := fun τ L => (c τ L).bind fun k L1 => if k = true then a τ L1 else b τ L1
def tE (f : PV → LH → R Bool) (ma : ME) : MT := fun τ L => (ma τ L).bind fun x L1 => f x L1
def tOp2 (f : PV → PV → LH → R PV) (ma mb : ME) : MT := fun τ L => (eOp f ma mb τ L).bind fun x L1 => match x with
  | .bl b => .ok b L1
  | _ => .no
def tNot (c : MT) : MT := fun τ L => (c τ L).bind fun k L1 => .ok (!k) L1
def tAnd (c d : MT) : MT := fun τ L => (c τ L).bind fun k L1 => if k = true then d τ L1 else .ok false L1
def tOr (c d : MT) : MT := fun τ L => (c τ L).bind fun k L1 => if k = true then .ok true L1 else d τ L1
/-! ### values, by value -/
/-- an operator -/
def OpL (K : PySem.W.Frag) (ga : Ga) (f : PV → PV → LH → R PV) (r : R2) : Prop := ∀ W ι L H σ x y u v Q, Wd K ga ι L H → VR K ga ι H x u → VR K ga ι H y v → gd K ga W (VR K ga) (f x y L) ι H σ (fun _ _ _ z H' => Q z H') → r u v H Q
def UnL (K : PySem.W.Frag) (ga : Ga) (f : PV → LH → R PV) (r : V → Hp → VK → Prop) : Prop := ∀ W ι L H σ x u Q, Wd K ga ι L H → VR K ga ι H x u → gd K ga W (VR K ga) (f x L) ι H σ (fun _ _ _ z H' => Q z H') → r u H Q
def CaL (K : PySem.W.Frag) (ga : Ga) (f : List PV → LH → R PV) (r : List V → Hp → VK → Prop) : Prop := ∀ W ι L H σ xs us Q, Wd K ga ι L H → VRs K ga ι H xs us → gd K ga W (VR K ga) (f xs L) ι H σ (fun _ _ _ z H' => Q z H') → r us H Q
section
variable {Z : Zs} {X : Cx} {W : WX} {e a b c : Expr} {es : List Expr} {ma mb : ME} {mr : MA} {tc td : MT} {pos : Pos}
theorem fe_c {v : PV} {u : V} (h : PE X e (tC u)) (r : ∀ ι H, VR X.K Z.f ι H v u) : FE Z X W e (eC v) := PE.imp h fun σ H Q ⟨ι, L, τ, w, s, g⟩ => g.ok w (r ι H)
theorem fe_int {i j pos} : FE Z X W (.Constant (.int i) j pos) (eC (.int i)) := fe_c pe_int fun _ _ => by simp [VR]
theorem fe_bl {i j pos} : FE Z X W (.Constant (.bool i) j pos) (eC (.bl i)) := fe_c pe_bl fun _ _ => by simp [VR]
theorem fe_non {j pos} : FE Z X W (.Constant .none j pos) (eC .non) := fe_c pe_non fun _ _ => by simp [VR]
theorem fe_str {x j pos} : FE Z X W (.Constant (.str x) j pos) (eC (.str x)) := fe_c pe_str fun _ _ => by simp [VR]
theorem fe_v {i : Nat} {x : Str} {pos : Pos} (hN : X.N[i]? = some x) (hv : Vis X.env.scope x) (hd : (x == ("__debug__" : Str)) = false := by decide) (hcd : (x == ("__classdict__" : Str)) = false := by decide) : FE Z X W (.Name x pos) (eV i) :=
  PE.imp (pe_var hN hv hd hcd) fun σ H Q ⟨ι, L, τ, w, s, g⟩ => by
    unfold eV at g
    split at g
    · rename_i x q
      obtain ⟨v, h1, h2⟩ := s.at_ i x q
      exact ⟨v, h1, g.ok w h2⟩
    · exact g.elim
theorem fe_op {op : Operator} {f : PV → PV → LH → R PV} {r : R2} (ho : OpR X (binaryOp op) r) (hf : OpL X.K Z.f f r) (ha : FE Z X W a ma) (hb : FE Z X W b mb) : FE Z X W (.BinOp a op b pos) (eOp f ma mb) :=
  PE.imp (pe_op ho ha hb) fun σ H Q h => tM.bind h fun τ x L1 ι1 u H1 w1 s1 r1 g1 => ⟨ι1, L1, τ, w1, s1, g1.bind fun y L2 ι2 v H2 _ e w2 r2 g2 => hf W ι2 L2 H2 σ x y u v Q w2 (r1.up e) r2 g2⟩
theorem fe_un {op : UnaryOp} {f : PV → LH → R PV} {r : V → Hp → VK → Prop} (ho : UnR X (unaryOp op) r) (hf : UnL X.K Z.f f r) (ha : FE Z X W a ma) : FE Z X W (.UnaryOp op a pos) (eUn f ma) :=
  PE.imp (pe_un ho ha) fun σ H Q h => tM.bind h fun τ x L1 ι1 u H1 w1 s1 r1 g1 => hf W ι1 L1 H1 σ x u Q w1 r1 g1
theorem fe_cmp {op : CmpOp} {f : PV → PV → LH → R PV} {r : R2} (ho : OpR X (compareOp op) r) (hf : OpL X.K Z.f f r) (ha : FE Z X W a ma) (hb : FE Z X W b mb) (hm : behindInMarks op b = false) : FE Z X W (.Compare a [op] [b] pos) (eOp f ma mb) :=
  PE.imp (pe_cmpR ho ha hb hm) fun σ H Q h => tM.bind h fun τ x L1 ι1 u H1 w1 s1 r1 g1 => ⟨ι1, L1, τ, w1, s1, g1.bind fun y L2 ι2 v H2 _ e w2 r2 g2 => hf W ι2 L2 H2 σ x y u v Q w2 (r1.up e) r2 g2⟩
theorem ft_cmp {op : CmpOp} {f : PV → PV → LH → R PV} {r : R2} (ho : OpR X (compareOp op) r) (hf : OpL X.K Z.f f r) (ha : FE Z X W a ma) (hb : FE Z X W b mb) (hm : behindInMarks op b = false) : FT Z X W (.Compare a [op] [b] pos) (tOp2 f ma mb) :=
  PT.imp (pt_cmpR ho ha hb hm) fun σ H Q ⟨ι, L, τ, w, s, g⟩ => by
    have h : tM X.K Z W (VR X.K Z.f) (eOp f ma mb) σ H (fun v H' => ∃ b, v = .bl b ∧ Q b H') := ⟨ι, L, τ, w, s, g.bind fun x L1 ι1 v H1 _ e w1 r g1 => by
      cases x with
      | bl b => exact ⟨b, by simpa [VR] using r, g1.ok w1 rfl⟩
      | _ => exact g1.elim⟩
    exact tM.bind h fun τ x L1 ι1 u H1 w1 s1 r1 g1 => ⟨ι1, L1, τ, w1, s1, g1.bind fun y L2 ι2 v H2 _ e w2 r2 g2 => hf W ι2 L2 H2 σ x y u v _ w2 (r1.up e) r2 g2⟩
theorem fa_nil : FA Z X W [] aN := PA.imp pa_nil fun σ H Q ⟨ι, L, τ, w, s, g⟩ => g.ok w (by simp [VRs])
theorem fa_cons (ha : FE Z X W e ma) (hr : FA Z X W es mr) (hs : starEach (e :: es) X.env = (false, eval e X.env) :: starEach es X.env := by rfl) : FA Z X W (e :: es) (aC ma mr) :=
  PA.imp (pa_cons ha hr hs) fun σ H Q h => tM.bind h fun τ x L1 ι1 u H1 w1 s1 r1 g1 => ⟨ι1, L1, τ, w1, s1, g1.bind fun y L2 ι2 v H2 _ e w2 r2 g2 => g2.ok w2 ⟨u, v, rfl, r1.up e, r2⟩⟩
theorem fe_if (hc : FT Z X W c tc) (ha : FE Z X W a ma) (hb : FE Z X W b mb) : FE Z X W (.IfExp c a b pos) (eIf tc ma mb) :=
  PE.imp (pe_ifExp hc ha hb) fun σ H Q h => tM.bind h fun τ x L1 ι1 u H1 w1 s1 r1 g1 => by
    cases (show x = u from r1)
    cases x with
    | true => exact ⟨ι1, L1, τ, w1, s1, g1⟩
    | false => exact ⟨ι1, L1, τ, w1, s1, g1⟩
theorem ft_not (hc : FT Z X W c tc) : FT Z X W (.UnaryOp .Not c pos) (tNot tc) :=
  PT.imp (pt_not hc) fun σ H Q h => tM.bind h fun τ x L1 ι1 u H1 w1 s1 r1 g1 => by
    cases (show x = u from r1)
    exact g1.ok w1 rfl
theorem fw_and1 (ha : FT Z X W a tc) : FW Z X W (.BoolOp .And [a] pos) tc := pw_and1 ha
theorem fw_or1 (ha : FT Z X W a tc) : FW Z X W (.BoolOp .Or [a] pos) tc := pw_or1 ha
theorem fw_and {rest : List Expr} (ha : FT Z X W a tc) (hb : FW Z X W (.BoolOp .And (b :: rest) pos) td) : FW Z X W (.BoolOp .And (a :: b :: rest) pos) (tAnd tc td) :=
  PW.imp (pw_and ha hb) fun σ H Q h => tM.bind h fun τ x L1 ι1 u H1 w1 s1 r1 g1 => by
    cases (show x = u from r1)
    cases x with
    | true => exact ⟨ι1, L1, τ, w1, s1, g1⟩
    | false => exact g1.ok w1 rfl
theorem fw_or {rest : List Expr} (ha : FT Z X W a tc) (hb : FW Z X W (.BoolOp .Or (b :: rest) pos) td) : FW Z X W (.BoolOp .Or (a :: b :: rest) pos) (tOr tc td) :=
  PW.imp (pw_or ha hb) fun σ H Q h => tM.bind h fun τ x L1 ι1 u H1 w1 s1 r1 g1 => by
    cases (show x = u from r1)
    cases x with
    | true => exact g1.ok w1 rfl
    | false => exact ⟨ι1, L1, τ, w1, s1, g1⟩
end
end FL
/-! FLC: statements, targets, loops, comprehensions. -/
namespace FL
open PySem PySem.Spec PyProof.Rows L2
def R.st {α : Type} (r : R α) (τ : Sl) (k : α → LH → RS) : RS := match r with
  | .ok x L => k x L
  | .ex c fs L => .ex c fs τ L
  | .no => .no
def gs (K : PySem.W.Frag) (Z : Zs) (W : WX) (r : RS) (ι : List Addr) (H : Hp) (D : Ends) : Prop := match r with
  | .nx τ' L' => ∀ ι' H' σ', Ext K ι H ι' H' → Wd K Z.f ι' L' H' → SR K Z ι' H' τ' σ' → D.nx σ' H'
  | .rt x L' => ∀ ι' H' v, Ext K ι H ι' H' → Wd K Z.f ι' L' H' → VR K Z.f ι' H' x v → D.rt v H'
  | .bk τ' L' => ∀ ι' H' σ', Ext K ι H ι' H' → Wd K Z.f ι' L' H' → SR K Z ι' H' τ' σ' → D.bk σ' H'
  | .ct τ' L' => ∀ ι' H' σ', Ext K ι H ι' H' → Wd K Z.f ι' L' H' → SR K Z ι' H' τ' σ' → D.ct σ' H'
  | .ex c fs τ' L' => ∀ ι' H' σ' d l, Ext K ι H ι' H' → Wd K Z.f ι' L' H' → SR K Z ι' H' τ' σ' → H' d = some (.xd l) → FRs K Z.f ι' H' fs l → W (.ref (Z.f c)) (some d) σ' H'
  | .no => False
def tS (K : PySem.W.Frag) (Z : Zs) (W : WX) (m : MS) : TS := fun D σ H => ∃ ι L τ, Wd K Z.f ι L H ∧ SR K Z ι H τ σ ∧ gs K Z W (m τ L) ι H D
section
variable {K : PySem.W.Frag} {Z : Zs} {W : WX} {α β : Type} {rel : List Addr → Hp → α → β → Prop} {ι ι' : List Addr} {H H' : Hp} {σ : L2.St} {τ : Sl} {L : LH} {D : Ends}
theorem gs.ext {r : RS} (h : gs K Z W r ι H D) (e : Ext K ι H ι' H') : gs K Z W r ι' H' D := by
  cases r with
  | nx => exact fun ι2 H2 v e2 w r => h ι2 H2 v (e.trans e2) w r
  | rt => exact fun ι2 H2 v e2 w r => h ι2 H2 v (e.trans e2) w r
  | bk => exact fun ι2 H2 v e2 w r => h ι2 H2 v (e.trans e2) w r
  | ct => exact fun ι2 H2 v e2 w r => h ι2 H2 v (e.trans e2) w r
  | ex => exact fun ι2 H2 v d l e2 w r => h ι2 H2 v d l (e.trans e2) w r
  | no => exact h
theorem gs.st {r : R α} {k : α → LH → RS} {P1 : α → LH → List Addr → β → Hp → Prop} (h : gs K Z W (r.st τ k) ι H D) (s : SR K Z ι H τ σ)
    (q : ∀ x L1 ι1 v H1, Ext K ι H ι1 H1 → Wd K Z.f ι1 L1 H1 → rel ι1 H1 x v → gs K Z W (k x L1) ι1 H1 D → P1 x L1 ι1 v H1) : gd K Z.f W rel r ι H σ P1 := by
  cases r with
  | ok x L' => exact fun ι2 H2 v e2 w r => q x L' ι2 v H2 e2 w r (gs.ext h e2)
  | ex c fs L' => exact fun ι2 H2 d l e2 w a b => h ι2 H2 σ d l e2 w (s.up e2) a b
  | no => exact h
theorem gs.nx (h : gs K Z W (.nx τ L) ι H D) (w : Wd K Z.f ι L H) (s : SR K Z ι H τ σ) : D.nx σ H := h ι H σ Ext.refl w s
theorem tS.st {m : Sl → LH → R α} {k : Sl → α → LH → RS} {Q1 : β → Hp → Prop} (h : tS K Z W (fun τ L => (m τ L).st τ (k τ)) D σ H)
    (q : ∀ τ x L1 ι1 v H1, Wd K Z.f ι1 L1 H1 → SR K Z ι1 H1 τ σ → rel ι1 H1 x v → gs K Z W (k τ x L1) ι1 H1 D → Q1 v H1) : tM K Z W rel m σ H Q1 := by
  obtain ⟨ι, L, τ, w, s, g⟩ := h
  exact ⟨ι, L, τ, w, s, g.st s fun x L1 ι1 v H1 e w1 r g1 => q τ x L1 ι1 v H1 w1 (s.up e) r g1⟩
end
section
variable (Z : Zs) (X : Cx) (W : WX)
abbrev FS (s : Stmt) (m : MS) : Prop := PS X s (tS X.K Z W m)
abbrev FSs (s : List Stmt) (m : MS) : Prop := PSs X s (tS X.K Z W m)
end
def sN : MS := fun τ L => .nx τ L
def sSeq (a b : MS) : MS := fun τ L => match a τ L with
  | .nx τ' L' => b τ' L'
  | r => r
def sIf (c : MT) (a b : MS) : MS := fun τ L => (c τ L).st τ fun k L1 => if k = true then a τ L1 else b τ L1
def sEx (m : ME) : MS := fun τ L => (m τ L).st τ fun _ L1 => .nx τ L1
def sRt (m : ME) : MS := fun τ L => (m τ L).st τ fun x L1 => .rt x L1
def sRN : MS := fun _ L => .rt .non L
def sBk : MS := fun τ L => .bk τ L
def sCt : MS := fun τ L => .ct τ L
abbrev MG := PV → Sl → LH → R Sl
/-- a store: it raises nothing -/
def R.nx (r : R Sl) : RS := match r with
  | .ok τ L => .nx τ L
  | _ => .no
def sAs (m : ME) (g : MG) : MS := fun τ L => (m τ L).st τ fun x L1 => (g x τ L1).nx
def gN (i : Nat) : MG := fun x τ L => .ok (τ.set i (some x)) L
abbrev MGs := List PV → Sl → LH → R Sl
def gs0 : MGs := fun xs τ L => if xs.isEmpty then .ok τ L else .no
def gs1 (g : MG) (r : MGs) : MGs := fun xs τ L => match xs with
  | [] => .no
  | x :: xs => (g x τ L).bind fun τ' L' => r xs τ' L'
def gT (n : Nat) (g : MGs) : MG := fun x τ L => match x with
  | .tup xs => if xs.length = n then g xs τ L else .no
  | _ => .no
abbrev W0 : WX := fun _ _ _ _ => False
abbrev relS (K : PySem.W.Frag) (Z : Zs) : List Addr → Hp → Sl → L2.St → Prop := fun ι H τ σ => SR K Z ι H τ σ
/-- a target -/
def tG (K : PySem.W.Frag) (Z : Zs) (m : MG) : TG := fun v σ H Q => ∃ ι L τ x, Wd K Z.f ι L H ∧ SR K Z ι H τ σ ∧ VR K Z.f ι H x v ∧ gd K Z.f W0 (relS K Z) (m x τ L) ι H σ fun _ _ _ σ' H' => Q σ' H'
def tGs (K : PySem.W.Frag) (Z : Zs) (m : MGs) : TGs := fun vs σ H Q => ∃ ι L τ xs, Wd K Z.f ι L H ∧ SR K Z ι H τ σ ∧ VRs K Z.f ι H xs vs ∧ gd K Z.f W0 (relS K Z) (m xs τ L) ι H σ fun _ _ _ σ' H' => Q σ' H'
theorem PG.imp {X : Cx} {e : Expr} {t t' : TG} (h : PG X e t) (q : ∀ v σ H Q, t' v σ H Q → t v σ H Q) : PG X e t' := ⟨fun pins s σ H v u Q I r z => h.run pins s σ H v u Q I r (q _ _ _ _ z)⟩
theorem PGs.imp {X : Cx} {e : List Expr} {t t' : TGs} (h : PGs X e t) (q : ∀ v σ H Q, t' v σ H Q → t v σ H Q) : PGs X e t' := ⟨fun pins s σ H v u Q I r z => h.run pins s σ H v u Q I r (q _ _ _ _ z)⟩
section
variable {Z : Zs} {X : Cx} {W : WX} {e a b c : Expr} {es : List Expr} {st : Stmt} {sts sts2 : List Stmt} {me : ME} {ma mb : MS} {tc : MT} {g : MG} {gr : MGs} {pos : Pos}
abbrev FG (Z : Zs) (X : Cx) (e : Expr) (g : MG) : Prop := PG X e (tG X.K Z g)
abbrev FGs (Z : Zs) (X : Cx) (e : List Expr) (g : MGs) : Prop := PGs X e (tGs X.K Z g)
theorem fs_nil : FSs Z X W [] sN := PSs.imp pss_nil fun D σ H ⟨ι, L, τ, w, s, g⟩ => g.nx w s
theorem gs.seq {K : PySem.W.Frag} {r : RS} {ι : List Addr} {H : Hp} {D : Ends} (h : gs K Z W (match r with | .nx τ' L' => mb τ' L' | r => r) ι H D) : gs K Z W r ι H { D with nx := tS K Z W mb D } := by
  cases r with
  | nx τ' L' => exact fun ι2 H2 σ2 e w s => ⟨ι2, L', τ', w, s, gs.ext h e⟩
  | _ => exact h
theorem fs_cons (h1 : FS Z X W st ma) (h2 : FSs Z X W sts mb) : FSs Z X W (st :: sts) (sSeq ma mb) :=
  PSs.imp (pss_cons h1 h2) fun D σ H ⟨ι, L, τ, w, s, g⟩ => ⟨ι, L, τ, w, s, gs.seq g⟩
theorem fs_one (h1 : FS Z X W st ma) : FSs Z X W [st] ma := pss_one h1
theorem fs_pass : FS Z X W (.Pass pos) sN := PS.imp ps_pass fun D σ H ⟨ι, L, τ, w, s, g⟩ => g.nx w s
theorem fs_break : FS Z X W (.Break pos) sBk := PS.imp ps_break fun D σ H ⟨ι, L, τ, w, s, g⟩ => g ι H σ Ext.refl w s
theorem fs_cont : FS Z X W (.Continue pos) sCt := PS.imp ps_continue fun D σ H ⟨ι, L, τ, w, s, g⟩ => g ι H σ Ext.refl w s
theorem fs_doc {x j pos pos'} : FS Z X W (.Expr (.Constant (.str x) j pos) pos') sN := PS.imp ps_doc fun D σ H ⟨ι, L, τ, w, s, g⟩ => g.nx w s
theorem fs_if (hc : FT Z X W c tc) (ha : FSs Z X W sts ma) (hb : FSs Z X W sts2 mb) : FS Z X W (.If c sts sts2 pos) (sIf tc ma mb) :=
  PS.imp (ps_if hc ha hb) fun D σ H h => tS.st h fun τ x L1 ι1 u H1 w1 s1 r1 g1 => by
    cases (show x = u from r1)
    cases x with
    | true => exact ⟨ι1, L1, τ, w1, s1, g1⟩
    | false => exact ⟨ι1, L1, τ, w1, s1, g1⟩
theorem fs_expr (he : FE Z X W e me) (hs : swapsWith e none pos.line X.env = pure false := by rfl) : FS Z X W (.Expr e pos) (sEx me) :=
  PS.imp (ps_expr he hs) fun D σ H h => tS.st h fun τ x L1 ι1 u H1 w1 s1 r1 g1 => g1.nx w1 s1
theorem fs_ret (he : FE Z X W e me) : FS Z X W (.Return (some e) pos) (sRt me) :=
  PS.imp (ps_ret he) fun D σ H h => tS.st h fun τ x L1 ι1 u H1 w1 s1 r1 g1 => g1 ι1 H1 u Ext.refl w1 r1
theorem fs_retN : FS Z X W (.Return none pos) sRN := PS.imp ps_retN fun D σ H ⟨ι, L, τ, w, s, g⟩ => g ι H .non Ext.refl w (by simp [VR])
/-! ### targets -/
theorem fg_name {i : Nat} {x : Str} (hN : X.N.Nodup) (hi : X.N[i]? = some x) (hx : Loc X.env.scope x) (hf : X.fn x = true ∨ X.env.scope.names.lookup x = some .local := by first | exact .inl rfl | exact .inr rfl | assumption) (hz : Z.ok i = true := by rfl) : FG Z X (.Name x pos) (gN i) :=
  PG.imp (pg_name hN hi hx hf) fun v σ H Q ⟨ι, L, τ, x, w, s, r, g⟩ => g.ok w (s.set i hz r)
theorem fg_nil : FGs Z X [] gs0 := PGs.imp pgs_nil fun v σ H Q ⟨ι, L, τ, xs, w, s, r, g⟩ => by
  cases xs with
  | nil => exact ⟨r, g.ok w s⟩
  | cons => exact g.elim
theorem fg_cons (h1 : FG Z X e g) (h2 : FGs Z X es gr) (hs : (assignEach (e :: es) X.env).map (·.2) = assign e X.env :: (assignEach es X.env).map (·.2) := by rfl) : FGs Z X (e :: es) (gs1 g gr) :=
  PGs.imp (pgs_cons h1 h2 hs) fun v σ H Q ⟨ι, L, τ, xs, w, s, r, q⟩ => by
    cases xs with
    | nil => exact q.elim
    | cons x xs =>
      obtain ⟨y, ys, rfl, r1, r2⟩ := r
      refine ⟨y, ys, rfl, ι, L, τ, x, w, s, r1, gd.bind (rel2 := relS X.K Z) q fun τ' L1 ι1 σ1 H1 _ e w1 s1 q1 => ?_⟩
      refine ⟨ι1, L1, τ', xs, w1, s1, r2.up e, ?_⟩
      cases hq : gr xs τ' L1 with
      | ok a L2 => rw [hq] at q1; exact q1
      | ex c fs L2 =>
        rw [hq] at q1
        intro ι2 H2 d l a1 a2 a3 a4
        exact (q1 ι2 H2 d l a1 a2 a3 a4).elim
      | no => rw [hq] at q1; exact q1
theorem fg_tup {k : Nat} {n : Nat} (hc : X.calm = true) (h : FGs Z X es gr) (hn : (assignEach es X.env).length = n := by rfl) (hst : (assignEach es X.env).findIdx? (·.1) = none := by rfl) : FG Z X (.Tuple es k pos) (gT n gr) :=
  PG.imp (pg_tup hc h hn hst) fun v σ H Q ⟨ι, L, τ, x, w, s, r, g⟩ => by
    cases x with
    | tup xs =>
      obtain ⟨a, ys, rfl, h1, h2⟩ := r
      unfold gT at g
      dsimp only at g
      split at g
      · rename_i hl
        exact ⟨a, ys, rfl, h1, by rw [← h2.len]; exact hl, ι, L, τ, xs, w, s, h2, g⟩
      · exact g.elim
    | _ => exact g.elim
theorem gs.asg {K : PySem.W.Frag} {r : R Sl} {ι : List Addr} {H : Hp} {σ : L2.St} {D : Ends} (h : gs K Z W r.nx ι H D) : gd K Z.f W0 (relS K Z) r ι H σ fun _ _ _ σ' H' => D.nx σ' H' := by
  cases r with
  | ok τ' L' => exact fun ι2 H2 σ2 e w s => h ι2 H2 σ2 e w s
  | ex => exact h.elim
  | no => exact h
/-- target = value -/
theorem fs_asg {tg : Expr} (he : FE Z X W e me) (hg : FG Z X tg g) (hs : swapsWithSole [tg] e pos.line X.env = pure false := by rfl) (hw : swappedStores [tg] e X.env = pure none := by rfl)
    (h1 : (assignEach [tg] X.env).map (·.2) = [assign tg X.env] := by rfl) : FS Z X W (.Assign [tg] e pos) (sAs me g) :=
  PS.imp (ps_asg he hg hs hw h1) fun D σ H h => tS.st h fun τ x L1 ι1 u H1 w1 s1 r1 g1 => ⟨ι1, L1, τ, x, w1, s1, r1, g1.asg⟩
/-- name = value -/
theorem fs_set {i : Nat} {x : Str} {pos' : Pos} (hN : X.N.Nodup) (hi : X.N[i]? = some x) (hx : Loc X.env.scope x) (he : FE Z X W e me) (hs : swapsWith e (some (.Name x pos')) pos.line X.env = pure false := by rfl) (hf : X.fn x = true ∨ X.env.scope.names.lookup x = some .local := by first | exact .inl rfl | exact .inr rfl | assumption) (hz : Z.ok i = true := by rfl) :
    FS Z X W (.Assign [.Name x pos'] e pos) (sAs me (gN i)) :=
  PS.imp (ps_set hN hi hx he hs hf) fun D σ H h => tS.st h fun τ x L1 ι1 u H1 w1 s1 r1 g1 => g1.nx w1 (s1.set i hz r1)
/-! ### while -/
def whileL (c : MT) (b : MS) : Nat → MS
  | 0, _, _ => .no
  | k + 1, τ, L => (c τ L).st τ fun t L1 => if t = true then (match b τ L1 with
      | .nx τ2 L2 => whileL c b k τ2 L2
      | .ct τ2 L2 => whileL c b k τ2 L2
      | .bk τ2 L2 => .nx τ2 L2
      | r => r) else .nx τ L1
/-- fuel n: a while that does not end within n turns is not told -/
def sWh (n : Nat) (c : MT) (b : MS) : MS := fun τ L => whileL c b n τ L
theorem fs_while {n : Nat} (hp : PassesOwn (model X.prog X.w) X.A X.env X.xe) (hc : FT Z X W c tc) (hb : FSs Z X W sts mb) : FS Z X W (.While c sts [] pos) (sWh n tc mb) :=
  PS.imp (ps_while hp hc hb) fun D σ H ⟨ι, L, τ, w, s, g⟩ => by
    refine ⟨fun k σ H => ∃ ι L τ, Wd X.K Z.f ι L H ∧ SR X.K Z ι H τ σ ∧ gs X.K Z W (whileL tc mb k τ L) ι H D, ⟨n, ι, L, τ, w, s, g⟩, ?_⟩
    rintro k σ H ⟨ι, L, τ, w, s, g⟩
    cases k with
    | zero => exact g.elim
    | succ k =>
      refine ⟨ι, L, τ, w, s, gs.st (rel := relB) g s fun t L1 ι1 v H1 e w1 r g1 => ?_⟩
      cases (show t = v from r)
      cases t with
      | false => exact g1.nx w1 (s.up e)
      | true =>
        refine ⟨fun σ' H' => ∃ ι L τ, Wd X.K Z.f ι L H' ∧ SR X.K Z ι H' τ σ' ∧ gs X.K Z W (whileL tc mb k τ L) ι H' D, fun σ' H' q => ⟨k, Nat.lt_succ_self k, q⟩, ι1, L1, τ, w1, s.up e, ?_⟩
        rw [if_pos rfl] at g1
        cases hq : mb τ L1 with
        | nx τ2 L2 => rw [hq] at g1; exact fun ι3 H3 σ3 e3 w3 s3 => ⟨ι3, L2, τ2, w3, s3, gs.ext g1 e3⟩
        | ct τ2 L2 => rw [hq] at g1; exact fun ι3 H3 σ3 e3 w3 s3 => ⟨ι3, L2, τ2, w3, s3, gs.ext g1 e3⟩
        | bk τ2 L2 => rw [hq] at g1; exact g1
        | rt => rw [hq] at g1; exact g1
        | ex => rw [hq] at g1; exact g1
        | no => rw [hq] at g1; exact g1
/-! ### what is walked -/
/-- items as they stand, or a list as it stands at each turn -/
inductive Src where
  | vals (xs : List PV) | at_ (n : Nat) | en (n : Nat)
/-- none: not told; some none: the end -/
def Src.get (s : Src) (L : LH) (i : Nat) : Option (Option PV) := match s with
  | .vals xs => some xs[i]?
  | .at_ n => match L[n]? with
    | some (.lst xs) => some xs[i]?
    | _ => none
  | .en n => match L[n]? with
    | some (.lst xs) => some (xs[i]?.map fun x => .tup [.int (i : Nat), x])
    | _ => none
def Src.len (s : Src) (L : LH) : Nat := match s with
  | .vals xs => xs.length
  | .at_ n => match L[n]? with
    | some (.lst xs) => xs.length
    | _ => 0
  | .en n => match L[n]? with
    | some (.lst xs) => xs.length
    | _ => 0
/-- J yields what s says, at any heap that grew from H -/
def Walks (K : PySem.W.Frag) (ga : Ga) (ι : List Addr) (H : Hp) (s : Src) (J : It) : Prop := ∀ ι2 L2 H2, Ext K ι H ι2 H2 → Wd K ga ι2 L2 H2 → ∀ i, (s.get L2 i = some none → J.stop i H2) ∧
  ∀ x, s.get L2 i = some (some x) → J.go i H2 ∧ ∀ v H3, J.yld i H2 v H3 → Ext K ι2 H2 ι2 H3 ∧ Wd K ga ι2 L2 H3 ∧ VR K ga ι2 H3 x v
theorem Walks.up {K : PySem.W.Frag} {ι ι' : List Addr} {H H' : Hp} {s : Src} {J : It} (h : Walks K Z.f ι H s J) (e : Ext K ι H ι' H') : Walks K Z.f ι' H' s J := fun ι2 L2 H2 e2 => h ι2 L2 H2 (e.trans e2)
abbrev MI := Sl → LH → R Src
def tI (K : PySem.W.Frag) (Z : Zs) (W : WX) (m : MI) : TI := fun σ H Rr => ∃ ι L τ, Wd K Z.f ι L H ∧ SR K Z ι H τ σ ∧ gd K Z.f W (fun ι H s J => Walks K Z.f ι H s J) (m τ L) ι H σ fun _ _ _ J H' => Rr J H'
abbrev FI (Z : Zs) (X : Cx) (W : WX) (tg e : Expr) (m : MI) : Prop := PI X tg e (tI X.K Z W m)
def loop (s : Src) (g : MG) (b : MS) : Nat → Nat → MS
  | 0, _, _, _ => .no
  | k + 1, i, τ, L => match s.get L i with
    | none => .no
    | some none => .nx τ L
    | some (some x) => match g x τ L with
      | .ok τ1 L1 => (match b τ1 L1 with
        | .nx τ2 L2 => loop s g b k (i + 1) τ2 L2
        | .ct τ2 L2 => loop s g b k (i + 1) τ2 L2
        | .bk τ2 L2 => .nx τ2 L2
        | r => r)
      | _ => .no
def sFor (m : MI) (g : MG) (b : MS) : MS := fun τ L => (m τ L).st τ fun s L1 => loop s g b (s.len L1 + 1) 0 τ L1
theorem fs_for {tg : Expr} {mi : MI} (hp : PassesOwn (model X.prog X.w) X.A X.env X.xe) (hc : X.calm = true) (hi : FI Z X W tg e mi) (hg : FG Z X tg g) (hb : FSs Z X W sts mb)
    (hs : ∀ x, foldedSetIterable e X.env x = pure x := by intro _; rfl) : FS Z X W (.For tg e sts [] pos) (sFor mi g mb) :=
  PS.imp (ps_for hp hc hi hg hb hs) fun D σ H h => by
    obtain ⟨ι, L, τ, w, s, g0⟩ := h
    refine ⟨ι, L, τ, w, s, gs.st (rel := fun ι H s J => Walks X.K Z.f ι H s J) g0 s fun sr L1 ι1 J H1 e1 w1 r1 g1 => ?_⟩
    refine ⟨fun i k σ H => ∃ ι L τ, Wd X.K Z.f ι L H ∧ SR X.K Z ι H τ σ ∧ Walks X.K Z.f ι H sr J ∧ gs X.K Z W (loop sr g mb k i τ L) ι H D, ⟨_, ι1, L1, τ, w1, s.up e1, r1, g1⟩, ?_⟩
    rintro i k σ H ⟨ι, L, τ, w, s, wk, g2⟩
    cases k with
    | zero => exact g2.elim
    | succ k =>
      unfold loop at g2
      cases hq : sr.get L i with
      | none => rw [hq] at g2; exact g2.elim
      | some o =>
        rw [hq] at g2
        cases o with
        | none => exact .inl ⟨(wk ι L H Ext.refl w i).1 hq, g2.nx w s⟩
        | some x =>
          obtain ⟨hgo, hy⟩ := (wk ι L H Ext.refl w i).2 x hq
          refine .inr ⟨hgo, fun σ' H' => ∃ ι L τ, Wd X.K Z.f ι L H' ∧ SR X.K Z ι H' τ σ' ∧ Walks X.K Z.f ι H' sr J ∧ gs X.K Z W (loop sr g mb k (i + 1) τ L) ι H' D, fun σ' H' q => ⟨k, Nat.lt_succ_self k, q⟩, fun v H3 yy => ?_⟩
          obtain ⟨e3, w3, r3⟩ := hy v H3 yy
          refine ⟨ι, L, τ, x, w3, s.up e3, r3, ?_⟩
          dsimp only at g2
          cases hg : g x τ L with
          | no => rw [hg] at g2; exact g2.elim
          | ex => rw [hg] at g2; exact g2.elim
          | ok τ1 L1 =>
            rw [hg] at g2
            intro ι4 H4 σ4 e4 w4 s4
            refine ⟨ι4, L1, τ1, w4, s4, ?_⟩
            have e34 := e3.trans e4
            dsimp only at g2
            cases hb : mb τ1 L1 with
            | nx τ2 L2 => rw [hb] at g2; exact fun ι5 H5 σ5 e5 w5 s5 => ⟨ι5, L2, τ2, w5, s5, wk.up (e34.trans e5), gs.ext g2 (e34.trans e5)⟩
            | ct τ2 L2 => rw [hb] at g2; exact fun ι5 H5 σ5 e5 w5 s5 => ⟨ι5, L2, τ2, w5, s5, wk.up (e34.trans e5), gs.ext g2 (e34.trans e5)⟩
            | bk τ2 L2 => rw [hb] at g2; exact fun ι5 H5 σ5 e5 w5 s5 => g2 ι5 H5 σ5 (e34.trans e5) w5 s5
            | rt x L2 => rw [hb] at g2; exact fun ι5 H5 σ5 e5 w5 s5 => g2 ι5 H5 σ5 (e34.trans e5) w5 s5
            | ex => rw [hb] at g2; exact fun ι5 H5 σ5 d l e5 w5 s5 => g2 ι5 H5 σ5 d l (e34.trans e5) w5 s5
            | no => rw [hb] at g2; exact g2.elim
end
end FL
/-! FLD: new lists: displays, comprehensions. -/
namespace FL
open PySem PySem.Spec PyProof.Rows L2
abbrev MV := Sl → LH → R (List PV)
/-- a result that is a new list, not told of yet -/
def gv (K : PySem.W.Frag) (ga : Ga) (W : WX) (r : R (List PV)) (ι : List Addr) (H : Hp) (σ : L2.St) (Q : VK) : Prop := match r with
  | .ok xs L' => ∀ ι' H' a ys, Ext K ι H ι' H' → Wd K ga ι' L' H' → Fre H a → a ∉ ι' → H' a = some (.lst ys) → VRs K ga ι' H' xs ys → xs.length ≤ sizeLine → Q (.ref a) H'
  | .ex c fs L' => ∀ ι' H' d l, Ext K ι H ι' H' → Wd K ga ι' L' H' → H' d = some (.xd l) → FRs K ga ι' H' fs l → W (.ref (ga c)) (some d) σ H'
  | .no => False
def tV (K : PySem.W.Frag) (Z : Zs) (W : WX) (m : MV) : TE := fun σ H Q => ∃ ι L τ, Wd K Z.f ι L H ∧ SR K Z ι H τ σ ∧ gv K Z.f W (m τ L) ι H σ Q
abbrev FV (Z : Zs) (X : Cx) (W : WX) (e : Expr) (m : MV) : Prop := PE X e (tV X.K Z W m)
/-- a sequence to be read -/
def relQ (K : PySem.W.Frag) (ga : Ga) : List Addr → Hp → List PV → V → Prop := fun ι H xs v => ∃ a ys, v = .ref a ∧ (SqL K H a ys ∨ SqT K H a ys) ∧ VRs K ga ι H xs ys
abbrev FQ (Z : Zs) (X : Cx) (W : WX) (e : Expr) (m : MV) : Prop := PE X e (tM X.K Z W (relQ X.K Z.f) m)
section
variable {K : PySem.W.Frag} {ga : Ga} {W : WX} {ι ι' : List Addr} {H H' : Hp} {σ : L2.St} {τ : Sl} {L : LH} {D : Ends} {Q : VK}
theorem gv.ext {r : R (List PV)} (h : gv K ga W r ι H σ Q) (e : Ext K ι H ι' H') (f : ∀ a, Fre H' a → Fre H a) : gv K ga W r ι' H' σ Q := by
  cases r with
  | ok x L' => exact fun ι2 H2 a ys e2 w n => h ι2 H2 a ys (e.trans e2) w (f a n)
  | ex c fs L' => exact fun ι2 H2 d l e2 w a b => h ι2 H2 d l (e.trans e2) w a b
  | no => exact h
end
/-- as a value: one object more -/
def eNew (m : MV) : ME := fun τ L => (m τ L).bind fun xs L1 => .ok (.obj L1.length) (L1 ++ [.lst xs])
/-- what a value's items are -/
def items (x : PV) (L : LH) : R (List PV) := match x with
  | .tup xs => .ok xs L
  | .rol xs => .ok xs L
  | .obj n => match L[n]? with
    | some (.lst xs) => .ok xs L
    | _ => .no
  | _ => .no
def qE (m : ME) : MV := fun τ L => (m τ L).bind fun x L1 => items x L1
section
variable {Z : Zs} {X : Cx} {W : WX} {e a b c : Expr} {es : List Expr} {me : ME} {mv : MV} {ma : MA} {pos : Pos}
theorem fe_ofV (h : FV Z X W e mv) : FE Z X W e (eNew mv) := PE.imp h fun σ H Q ⟨ι, L, τ, w, s, g⟩ => by
  refine ⟨ι, L, τ, w, s, ?_⟩
  unfold eNew at g
  cases hq : mv τ L with
  | ok xs L1 =>
    rw [hq] at g
    intro ι1 H1 a ys e w1 n ni ha r z
    have ne : a ∉ ι1 := ni
    have wA := w1.adopt (o := .lst xs) ha ne ⟨ys, rfl, r⟩
    refine g _ _ (.ref a) (e.adopt n) wA ?_
    refine ⟨a, ?_, rfl⟩
    rw [← w1.len]
    simp
  | ex c fs L1 => rw [hq] at g; exact g
  | no => rw [hq] at g; exact g
theorem fq_ofV (h : FV Z X W e mv) : FQ Z X W e mv := PE.imp h fun σ H Q ⟨ι, L, τ, w, s, g⟩ => by
  refine ⟨ι, L, τ, w, s, ?_⟩
  cases hq : mv τ L with
  | ok xs L1 =>
    rw [hq] at g
    intro ι1 H1 a ys e w1 n ni ha r z
    exact g ι1 H1 (.ref a) e w1 ⟨a, ys, rfl, .inl (SqL.of ha), r⟩
  | ex c fs L1 => rw [hq] at g; exact g
  | no => rw [hq] at g; exact g
theorem RoL.sq {K : PySem.W.Frag} {H : Hp} {a : Addr} {ys : List V} (h : RoL K H a ys) : SqL K H a ys := by
  rcases h with ⟨o, h⟩ | h
  · exact .inl (.inr ⟨o, h⟩)
  · exact .inr h
theorem gd.items {K : PySem.W.Frag} {ga : Ga} {x : PV} {L : LH} {ι : List Addr} {H : Hp} {σ : L2.St} {v : V} {P : List PV → LH → List Addr → V → Hp → Prop} (g : gd K ga W (relQ K ga) (items x L) ι H σ P) (w : Wd K ga ι L H) (r : VR K ga ι H x v) :
    ∃ xs, items x L = .ok xs L ∧ relQ K ga ι H xs v ∧ P xs L ι v H := by
  have k : ∀ xs, FL.items x L = .ok xs L → relQ K ga ι H xs v → ∃ xs, FL.items x L = .ok xs L ∧ relQ K ga ι H xs v ∧ P xs L ι v H := fun xs e q => ⟨xs, e, q, by rw [e] at g; exact g.ok w q⟩
  cases x with
  | tup xs => obtain ⟨a, ys, rfl, h1, h2⟩ := r; exact k xs rfl ⟨a, ys, rfl, .inr h1, h2⟩
  | rol xs => obtain ⟨a, ys, rfl, h1, h2⟩ := r; exact k xs rfl ⟨a, ys, rfl, .inl h1.sq, h2⟩
  | obj n =>
    obtain ⟨a, h1, rfl⟩ := r
    cases hl : L[n]? with
    | none => simp only [FL.items, hl] at g; exact g.elim
    | some o =>
      cases o with
      | lst xs =>
        obtain ⟨ho, q1, ys, rfl, q2⟩ := w.at_ n a _ h1 hl
        exact k xs (by simp only [FL.items, hl]) ⟨a, ys, rfl, .inl (SqL.of q1), q2⟩
      | _ => simp only [FL.items, hl] at g; exact g.elim
  | _ => exact g.elim
theorem fq_ofE (h : FE Z X W e me) : FQ Z X W e (qE me) := PE.imp h fun σ H Q h => tM.bind h fun τ x L1 ι1 u H1 w1 s1 r1 g1 => by
  obtain ⟨xs, _, _, q⟩ := g1.items w1 r1
  exact q
/-! ### displays -/
def vL (m : MA) : MV := fun τ L => (m τ L).bind fun xs L1 => if xs.length ≤ sizeLine then .ok xs L1 else .no
def eT (m : MA) : ME := fun τ L => (m τ L).bind fun xs L1 => if xs.length ≤ sizeLine then .ok (.tup xs) L1 else .no
theorem SqT.new {K : PySem.W.Frag} {H : Hp} {p : Addr} {ys : List V} : SqT K (upd H p (.tup ys)) p ys := .inl (.inl upd_same)
theorem fe_tup {x1} (h : FA Z X W es ma) : FE Z X W (.Tuple es x1 pos) (eT ma) := PE.imp (pe_tup h) fun σ H Q h => tM.bind h fun τ xs L1 ι1 us H1 w1 s1 r1 g1 => by
  split at g1
  · rename_i hz
    refine ⟨by rw [← r1.len]; exact hz, fun p hp => ?_⟩
    have e := Ext.new (K := X.K) (ι := ι1) (o := .tup us) hp
    exact g1 ι1 _ (.ref p) e (w1.new hp) ⟨p, us, rfl, SqT.new, r1.up e⟩
  · exact g1.elim
theorem fv_lst (h : FA Z X W es ma) : FV Z X W (.List es pos) (vL ma) := PE.imp (pe_lst h) fun σ H Q ⟨ι, L, τ, w, s, g⟩ => by
  refine ⟨ι, L, τ, w, s, ?_⟩
  unfold vL at g
  cases hq : ma τ L with
  | ok xs L1 =>
    rw [hq] at g
    intro ι1 H1 us e w1 r1
    unfold R.bind at g
    dsimp only at g
    split at g
    · rename_i hz
      refine ⟨by rw [← r1.len]; exact hz, fun p hp => ?_⟩
      have e2 := Ext.new (K := X.K) (ι := ι1) (o := .lst us) hp
      refine g ι1 _ p us (e.trans e2) (w1.new hp) ?_ (fun z => ?_) upd_same (r1.up e2) hz
      · by_cases hi : p ∈ ι
        · obtain ⟨⟨δ, rfl, _⟩, _⟩ := e
          obtain ⟨ho, q1, _⟩ := w1.some (List.mem_append_left _ hi)
          rw [hp] at q1; cases q1
        · exact e.fre hi (.of hp)
      · obtain ⟨ho, q1, _⟩ := w1.some z
        rw [hp] at q1; cases q1
    · exact g.elim
  | ex c fs L1 => rw [hq] at g; exact g
  | no => rw [hq] at g; exact g
end
/-! ### comprehensions -/
/-- what raises is not told -/
def R.bind0 {α β : Type} : R α → (α → LH → R β) → R β
  | .ok a L, k => k a L
  | _, _ => .no
def wipeP (τ : Sl) : List Nat → Sl
  | [] => τ
  | v :: vs => (wipeP τ vs).set v none
def compL (s : Src) (g : MG) (t : MT) (m : ME) : Nat → Nat → List PV → Sl → LH → R (List PV)
  | 0, _, _, _, _ => .no
  | k + 1, i, acc, τ, L => match s.get L i with
    | none => .no
    | some none => if acc.length ≤ sizeLine then .ok acc L else .no
    | some (some x) => match g x τ L with
      | .ok τ1 _ => (t τ1 L).bind0 fun b L2 => if b = true then (m τ1 L2).bind0 fun y L3 => if acc.length < sizeLine then compL s g t m k (i + 1) (acc ++ [y]) τ L3 else .no else compL s g t m k (i + 1) acc τ L2
      | _ => .no
def vC (mi : MI) (g : MG) (t : MT) (m : ME) (own : List Nat) : MV := fun τ L => (mi τ L).bind fun s L1 => compL s g t m (s.len L1 + 1) 0 [] (wipeP τ own) L1
def tY : MT := fun _ L => .ok true L
/-- a target of a comprehension: only its own slots change -/
def tGo (K : PySem.W.Frag) (Z : Zs) (own : List Nat) (m : MG) : TG := fun v σ H Q => ∃ ι L τ x, Wd K Z.f ι L H ∧ SR K Z ι H τ σ ∧ VR K Z.f ι H x v ∧ (match m x τ L with
  | .ok τ' _ => ∀ σ', SR K Z ι H τ' σ' → wipe σ' own = wipe σ own → Q σ' H
  | _ => False)
def tGso (K : PySem.W.Frag) (Z : Zs) (own : List Nat) (m : MGs) : TGs := fun v σ H Q => ∃ ι L τ x, Wd K Z.f ι L H ∧ SR K Z ι H τ σ ∧ VRs K Z.f ι H x v ∧ (match m x τ L with
  | .ok τ' _ => ∀ σ', SR K Z ι H τ' σ' → wipe σ' own = wipe σ own → Q σ' H
  | _ => False)
abbrev FGo (Z : Zs) (X : Cx) (own : List Nat) (e : Expr) (g : MG) : Prop := PG X e (tGo X.K Z own g)
abbrev FGso (Z : Zs) (X : Cx) (own : List Nat) (e : List Expr) (g : MGs) : Prop := PGs X e (tGso X.K Z own g)
abbrev FTs (Z : Zs) (X : Cx) (W : WX) (es : List Expr) (m : MT) : Prop := PTs X es (tM X.K Z W relB m)
theorem PTs.imp {X : Cx} {e : List Expr} {t t' : TT} (h : PTs X e t) (q : ∀ σ H Q, t' σ H Q → t σ H Q) : PTs X e t' := ⟨fun pins s σ H Q I z => h.run pins s σ H Q I (q _ _ _ z)⟩
theorem wipe_set {σ : L2.St} {i : Nat} {o : Option V} : ∀ {vs : List Nat}, i ∈ vs → wipe (σ.set i o) vs = wipe σ vs
  | [], h => nomatch h
  | v :: vs, h => by
    unfold wipe
    by_cases hi : i ∈ vs
    · rw [wipe_set hi]
    · have e : i = v := by rcases List.mem_cons.mp h with h | h; exact h; exact absurd h hi
      subst e
      have k : ∀ (vs : List Nat) (σ : L2.St), i ∉ vs → (wipe (σ.set i o) vs).set i none = (wipe σ vs).set i none := by
        intro vs
        induction vs with
        | nil => intro σ _; simp [wipe]
        | cons u us ih =>
          intro σ hu
          have h1 : u ≠ i := fun z => hu (by rw [z]; exact List.mem_cons_self ..)
          have h2 : i ∉ us := fun z => hu (List.mem_cons_of_mem _ z)
          simp only [wipe]
          rw [List.set_comm _ _ h1, ih σ h2, List.set_comm _ _ h1]
      exact k vs σ hi
theorem wipe_wipe (σ : L2.St) (vs : List Nat) : wipe (wipe σ vs) vs = wipe σ vs := by
  have k : ∀ (us : List Nat), (∀ u ∈ us, u ∈ vs) → wipe (wipe σ us) vs = wipe σ vs := by
    intro us
    induction us with
    | nil => intro _; rfl
    | cons u us ih =>
      intro h
      show wipe ((wipe σ us).set u none) vs = _
      rw [wipe_set (h u (List.mem_cons_self ..)), ih fun x hx => h x (List.mem_cons_of_mem _ hx)]
  exact k vs fun _ h => h
theorem SR.wipe {K : PySem.W.Frag} {Z : Zs} {ι : List Addr} {H : Hp} {τ : Sl} {σ : L2.St} (s : SR K Z ι H τ σ) : ∀ vs, vs.all Z.ok = true → SR K Z ι H (wipeP τ vs) (L2.wipe σ vs)
  | [], _ => s
  | v :: vs, h => by
    have h2 : (Z.ok v && vs.all Z.ok) = true := h
    rw [Bool.and_eq_true] at h2
    exact (SR.wipe s vs h2.2).gone v h2.1
section
variable {Z : Zs} {X : Cx} {W : WX} {e a b c : Expr} {es : List Expr} {me : ME} {tc : MT} {g : MG} {gr : MGs} {own : List Nat} {pos : Pos}
theorem fts_nil : FTs Z X W [] tY := PTs.imp pts_nil fun σ H Q ⟨ι, L, τ, w, s, g⟩ => g.ok w rfl
theorem fts_one (h : FT Z X W c tc) : FTs Z X W [c] tc := pts_one h
theorem fgo_name {i : Nat} {x : Str} (hm : i ∈ own) (hN : X.N.Nodup) (hi : X.N[i]? = some x) (hx : Loc X.env.scope x) (hf : X.fn x = true ∨ X.env.scope.names.lookup x = some .local := by first | exact .inl rfl | exact .inr rfl | assumption) (hz : Z.ok i = true := by rfl) : FGo Z X own (.Name x pos) (gN i) :=
  PG.imp (pg_name hN hi hx hf) fun v σ H Q ⟨ι, L, τ, x, w, s, r, g⟩ => g _ (s.set i hz r) (wipe_set hm)
theorem fgo_nil : FGso Z X own [] gs0 := PGs.imp pgs_nil fun v σ H Q ⟨ι, L, τ, xs, w, s, r, g⟩ => by
  cases xs with
  | nil => exact ⟨r, g _ s rfl⟩
  | cons => exact g.elim
theorem fgo_cons (h1 : FGo Z X own e g) (h2 : FGso Z X own es gr) (hl : ∀ x τ L τ' L', g x τ L = .ok τ' L' → L' = L) (hs : (assignEach (e :: es) X.env).map (·.2) = assign e X.env :: (assignEach es X.env).map (·.2) := by rfl) : FGso Z X own (e :: es) (gs1 g gr) :=
  PGs.imp (pgs_cons h1 h2 hs) fun v σ H Q ⟨ι, L, τ, xs, w, s, r, q⟩ => by
    cases xs with
    | nil => exact q.elim
    | cons x xs =>
      obtain ⟨y, ys, rfl, r1, r2⟩ := r
      refine ⟨y, ys, rfl, ι, L, τ, x, w, s, r1, ?_⟩
      unfold gs1 at q
      dsimp only at q
      cases hg : g x τ L with
      | ok τ1 L1 =>
        rw [hg] at q
        obtain rfl := hl _ _ _ _ _ hg
        intro σ1 s1 e1
        refine ⟨ι, L1, τ1, xs, w, s1, r2, ?_⟩
        have q' : (match gr xs τ1 L1 with | .ok τ' _ => ∀ σ', SR X.K Z ι H τ' σ' → wipe σ' own = wipe σ own → Q σ' H | _ => False) := q
        cases hr : gr xs τ1 L1 with
        | ok τ2 L2 => rw [hr] at q'; exact fun σ2 s2 e2 => q' σ2 s2 (e2.trans e1)
        | ex => rw [hr] at q'; exact q'
        | no => rw [hr] at q'; exact q'
      | ex => rw [hg] at q; exact q.elim
      | no => rw [hg] at q; exact q.elim
theorem fgo_tup {k : Nat} {n : Nat} (hc : X.calm = true) (h : FGso Z X own es gr) (hn : (assignEach es X.env).length = n := by rfl) (hst : (assignEach es X.env).findIdx? (·.1) = none := by rfl) : FGo Z X own (.Tuple es k pos) (gT n gr) :=
  PG.imp (pg_tup hc h hn hst) fun v σ H Q ⟨ι, L, τ, x, w, s, r, g⟩ => by
    cases x with
    | tup xs =>
      obtain ⟨a, ys, rfl, h1, h2⟩ := r
      unfold gT at g
      dsimp only at g
      by_cases hl : xs.length = n
      · rw [if_pos hl] at g
        exact ⟨a, ys, rfl, h1, by rw [← h2.len]; exact hl, ι, L, τ, xs, w, s, h2, g⟩
      · rw [if_neg hl] at g
        exact g.elim
    | _ => exact g.elim
/-- the reading of a comprehension -/
theorem lc_read {K : PySem.W.Frag} {mi : MI} {σ : L2.St} {H : Hp} {Q : VK} {ι : List Addr} {L : LH} {τ : Sl} (w : Wd K Z.f ι L H) (s : SR K Z ι H τ σ) (hz : own.all Z.ok = true) (h : gv K Z.f W (vC mi g tc me own τ L) ι H σ Q) :
    tLc (tI K Z W mi) (tGo K Z own g) (tM K Z W0 relB tc) (tM K Z W0 (VR K Z.f) me) own σ H Q := by
  refine ⟨ι, L, τ, w, s, ?_⟩
  unfold vC at h
  cases hq : mi τ L with
  | no => rw [hq] at h; exact h
  | ex c fs L1 => rw [hq] at h; exact h
  | ok sr L1 =>
    rw [hq] at h
    have h : gv K Z.f W (compL sr g tc me (sr.len L1 + 1) 0 [] (wipeP τ own) L1) ι H σ Q := h
    intro ι1 H1 J e1 w1 wk D hD
    have hD0 : Fre H D := by
      by_cases hi : D ∈ ι
      · obtain ⟨⟨δ, rfl, _⟩, _⟩ := e1
        obtain ⟨ho, q1, _⟩ := w1.some (List.mem_append_left _ hi)
        rw [hD] at q1; cases q1
      · exact e1.fre hi (.of hD)
    have hDi : D ∉ ι1 := fun z => by
      obtain ⟨ho, q1, _⟩ := w1.some z
      rw [hD] at q1; cases q1
    have eD := Ext.new (K := K) (ι := ι1) (o := .lst []) hD
    have wkD := wk.up eD
    have sw := s.wipe own hz
    refine ⟨fun i m H' => ∃ ι2 L2 acc ys, Ext K ι1 H1 ι2 H' ∧ Wd K Z.f ι2 L2 H' ∧ SR K Z ι2 H' (wipeP τ own) (wipe σ own) ∧ D ∉ ι2 ∧ H' D = some (.lst ys) ∧ VRs K Z.f ι2 H' acc ys ∧ gv K Z.f W (compL sr g tc me m i acc (wipeP τ own) L2) ι H σ Q,
      ⟨_, ι1, L1, [], [], eD, w1.new hD, (sw.up e1).up eD, hDi, upd_same, by simp [VRs], h⟩, ?_⟩
    rintro i m H2 ⟨ι2, L2, acc, ys, e2, w2, s2, n2, d2, r2, g2⟩
    cases m with
    | zero => exact g2.elim
    | succ m =>
      unfold compL at g2
      cases hs : sr.get L2 i with
      | none => rw [hs] at g2; exact g2.elim
      | some o =>
        rw [hs] at g2
        cases o with
        | none =>
          refine .inl ⟨(wk ι2 L2 H2 e2 w2 i).1 hs, ?_⟩
          dsimp only at g2
          split at g2
          · rename_i hz
            exact g2 ι2 H2 D ys (e1.trans e2) w2 hD0 n2 d2 r2 hz
          · exact g2.elim
        | some x =>
          dsimp only at g2
          obtain ⟨hgo, hy⟩ := (wk ι2 L2 H2 e2 w2 i).2 x hs
          refine .inr ⟨hgo, fun H' => ∃ ι2 L2 acc ys, Ext K ι1 H1 ι2 H' ∧ Wd K Z.f ι2 L2 H' ∧ SR K Z ι2 H' (wipeP τ own) (wipe σ own) ∧ D ∉ ι2 ∧ H' D = some (.lst ys) ∧ VRs K Z.f ι2 H' acc ys ∧ gv K Z.f W (compL sr g tc me m (i + 1) acc (wipeP τ own) L2) ι H σ Q, fun H' q => ⟨m, Nat.lt_succ_self m, q⟩, fun v H3 yy => ?_⟩
          obtain ⟨e3, w3, r3⟩ := hy v H3 yy
          refine ⟨ι2, L2, wipeP τ own, x, w3, s2.up e3, r3, ?_⟩
          cases hg : g x (wipeP τ own) L2 with
          | no => rw [hg] at g2; exact g2.elim
          | ex => rw [hg] at g2; exact g2.elim
          | ok τ4 L4 =>
            rw [hg] at g2
            dsimp only at g2
            intro σ4 s4 z4
            refine ⟨z4.trans (wipe_wipe _ _), ι2, L2, τ4, w3, s4, ?_⟩
            cases ht : tc τ4 L2 with
            | no => rw [ht] at g2; exact g2.elim
            | ex => rw [ht] at g2; exact g2.elim
            | ok bv L5 =>
              rw [ht] at g2
              intro ι5 H5 bv' e5 w5 eb
              cases (show bv = bv' from eb)
              have g2 : gv K Z.f W (if bv = true then (me τ4 L5).bind0 fun y L3 => if acc.length < sizeLine then compL sr g tc me m (i + 1) (acc ++ [y]) (wipeP τ own) L3 else .no else compL sr g tc me m (i + 1) acc (wipeP τ own) L5) ι H σ Q := g2
              have e35 := e3.trans e5
              obtain ⟨d5, n5⟩ := e35.keep d2 n2
              cases bv with
              | false =>
                rw [if_neg Bool.false_ne_true] at g2 ⊢
                exact ⟨ι5, L5, acc, ys, e2.trans e35, w5, s2.up e35, n5, d5, r2.up e35, g2⟩
              | true =>
                rw [if_pos rfl] at g2 ⊢
                refine ⟨ι5, L5, τ4, w5, s4.up e5, ?_⟩
                cases hm : me τ4 L5 with
                | no => rw [hm] at g2; exact g2.elim
                | ex => rw [hm] at g2; exact g2.elim
                | ok y L6 =>
                  rw [hm] at g2
                  intro ι6 H6 yv e6 w6 ry
                  have g2 : gv K Z.f W (if acc.length < sizeLine then compL sr g tc me m (i + 1) (acc ++ [y]) (wipeP τ own) L6 else .no) ι H σ Q := g2
                  have e36 := e35.trans e6
                  obtain ⟨d6, n6⟩ := e36.keep d2 n2
                  have r6 := r2.up e36
                  split at g2
                  · rename_i hz
                    refine ⟨ys, d6, by rw [← r2.len]; exact hz, ?_⟩
                    have u6 := Up.tmp (K := K) (ι := ι6) (o := .lst (ys ++ [yv])) d6 True.intro
                    refine ⟨ι6, L6, acc ++ [y], ys ++ [yv], (e2.trans e36).tmp (.of hD) d6 True.intro, w6.tmp d6 True.intro n6, (s2.up e36).tmp d6 True.intro, n6, upd_same, (r6.upU u6).app ⟨yv, [], rfl, ry.upU u6, by simp [VRs]⟩, g2⟩
                  · exact g2.elim
/-- as a new list -/
theorem fv_lc {elt tg iter : Expr} {ifs : List Expr} {scope : Scope} {ow : List (Str × Nat)} {pos : Pos} {mi : MI} (hc : X.calm = true) (hN : X.N.Nodup) (hi : FI Z X W tg iter mi) (ok : BlkOk X.N X.env.scope scope ow)
    (hg : ∀ (s : Shared) (H : Hp) (C : Addr) (cl : List (Str × Addr)) (fp : List Addr), FGo Z (X.blk s H scope (compEnvC scope cl C X.env) fp) (ow.map (·.2)) tg g) (ht : ∀ (s : Shared) (H : Hp) (C : Addr) (cl : List (Str × Addr)) (fp : List Addr), FTs Z (X.blk s H scope (compEnvC scope cl C X.env) fp) W0 ifs tc)
    (he : ∀ (s : Shared) (H : Hp) (C : Addr) (cl : List (Str × Addr)) (fp : List Addr), FE Z (X.blk s H scope (compEnvC scope cl C X.env) fp) W0 elt me) (hs : ∀ x, foldedSetIterable iter X.env x = pure x := by intro _; rfl) (hz : (ow.map (·.2)).all Z.ok = true := by rfl) :
    FV Z X W (.ListComp elt [⟨tg, iter, ifs, 0⟩] scope pos) (vC mi g tc me (ow.map (·.2))) :=
  PE.imp (pe_lc hc hN hi ok hg ht he hs) fun σ H Q ⟨ι, L, τ, w, s, h⟩ => lc_read w s hz h
/-- name = [..] -/
theorem fs_setLc {i : Nat} {y : Str} {py : Pos} {elt tg iter : Expr} {ifs : List Expr} {scope : Scope} {ow : List (Str × Nat)} {pos spos : Pos} {mi : MI} (hc : X.calm = true) (hN : X.N.Nodup) (hy : X.N[i]? = some y) (hyl : X.env.scope.names.lookup y = some .local)
    (hsw : swapsWith (.ListComp elt [⟨tg, iter, ifs, 0⟩] scope pos) (some (.Name y py)) spos.line X.env = pure true) (hi : FI Z X W tg iter mi) (ok : BlkOk X.N X.env.scope scope ow)
    (hg : ∀ (s : Shared) (H : Hp) (C : Addr) (cl : List (Str × Addr)) (fp : List Addr), FGo Z (X.blk s H scope (compEnvC scope cl C X.env) fp) (ow.map (·.2)) tg g) (ht : ∀ (s : Shared) (H : Hp) (C : Addr) (cl : List (Str × Addr)) (fp : List Addr), FTs Z (X.blk s H scope (compEnvC scope cl C X.env) fp) W0 ifs tc)
    (he : ∀ (s : Shared) (H : Hp) (C : Addr) (cl : List (Str × Addr)) (fp : List Addr), FE Z (X.blk s H scope (compEnvC scope cl C X.env) fp) W0 elt me) (hs : ∀ x, foldedSetIterable iter X.env x = pure x := by intro _; rfl) (hz : (ow.map (·.2)).all Z.ok = true := by rfl) (hz2 : Z.ok i = true := by rfl) :
    FS Z X W (.Assign [.Name y py] (.ListComp elt [⟨tg, iter, ifs, 0⟩] scope pos) spos) (sAs (eNew (vC mi g tc me (ow.map (·.2)))) (gN i)) :=
  PS.imp (ps_setLc hc hN hy hyl hsw hi ok hg ht he hs) fun D σ H ⟨ι, L, τ, w, s, h⟩ => lc_read w s hz (by
    unfold sAs eNew at h
    cases hq : vC mi g tc me (ow.map (·.2)) τ L with
    | no => rw [hq] at h; exact h
    | ex c fs L1 => rw [hq] at h; exact fun ι' H' d l a b c e => h ι' H' σ d l a b (s.up a) c e
    | ok xs L1 =>
      rw [hq] at h
      intro ι1 H1 a ys e w1 n ni ha r z
      have wA := w1.adopt (o := .lst xs) ha ni ⟨ys, rfl, r⟩
      have eA : Ext X.K ι H (ι1 ++ [a]) H1 := e.adopt n
      refine h (ι1 ++ [a]) H1 (σ.set i (some (.ref a))) eA wA ((s.up eA).set i hz2 ⟨a, ?_, rfl⟩)
      rw [← w1.len]
      simp)
end
end FL
/-! FLE: defs, calls, methods, attributes, new instances. -/
namespace FL
open PySem PySem.Spec PyProof.Rows L2
/-! ### a def -/
def startP (n : Nat) (xs : List PV) : Sl := xs.map some ++ List.replicate (n - xs.length) none
/-- p parameters, n slots -/
def fnB (p n : Nat) (m : MS) : Fn := fun xs L => if xs.length = p then (match m (startP n xs) L with
  | .nx _ L' => .ok .non L'
  | .rt v L' => .ok v L'
  | .ex c fs _ L' => .ex c fs L'
  | _ => .no) else .no
def fn0 : Fn := fun _ _ => .no
def spM (p : Nat) (K : PySem.W.Frag) (ga : Ga) (m : Fn) : Sp := fun vs H Q E => vs.length = p ∧ ∃ ι L xs, Wd K ga ι L H ∧ VRs K ga ι H xs vs ∧ gd K ga (fun c d _ H => E c d H) (VR K ga) (m xs L) ι H [] fun _ _ _ v H' => Q v H'
theorem VRs.start {K : PySem.W.Frag} {Z : Zs} {ι : List Addr} {H : Hp} {N : List Str} {xs : List PV} {vs : List V} (r : VRs K Z.f ι H xs vs) (hz : Z.gh = []) : SR K Z ι H (startP N.length xs) (L2.start N vs) := by
  have e := r.len
  refine ⟨?_, fun i x q => ?_, fun g hg => by rw [hz] at hg; cases hg⟩
  · unfold startP L2.start
    rw [List.length_append, List.length_append, List.length_map, List.length_map, List.length_replicate, List.length_replicate, e]
  · unfold startP at q
    unfold L2.start
    by_cases hi : i < xs.length
    · rw [List.getElem?_append_left (by simpa using hi), List.getElem?_map] at q
      cases hx : xs[i]? with
      | none => rw [hx] at q; cases q
      | some y =>
        rw [hx] at q
        have e1 : y = x := by simpa using q
        subst e1
        obtain ⟨v, h1, h2⟩ := r.get hx
        refine ⟨v, ?_, h2⟩
        rw [List.getElem?_append_left (by simpa using (List.getElem?_eq_some_iff.mp h1).1), List.getElem?_map, h1]
        rfl
    · rw [List.getElem?_append_right (by simpa using Nat.le_of_not_lt hi)] at q
      rw [List.getElem?_replicate] at q
      split at q <;> cases q
section
variable {P : Program} {w : World} {K : PySem.W.Frag} {mg : Str → Option Value} {base : Heap} {ga : Ga} {x qual : Str} {params : Arguments} {body : List Stmt} {scope : Scope} {dvs : List V} {kws : List (Str × V)} {f : Addr} {fd : FuncData} {N ps : List Str} {k : Nat} {m : MS}
abbrev Zo (ga : Ga) : Zs := ⟨ga, []⟩
abbrev WE (E : XK) : WX := fun c d _ H => E c d H
abbrev FnM (P : Program) (w : World) (K : PySem.W.Frag) (mg : Str → Option Value) (base : Heap) (ga : Ga) (k : Nat) (f : Addr) (fd : FuncData) (ps : List Str) (m : Fn) : Prop := FnG P w K mg base (L2.CX P w) k f fd ps (spM ps.length K ga m)
theorem fn_ok (F : FunD K x qual params body scope dvs kws f fd) (S : FnScope N ps scope)
    (hb : ∀ (cdv : Value) (A : Around) (outer : List Env) (s : Shared) (H : Hp) (E : XK), A.guards = some [] → Room k (A.deeper (envOfC qual scope s.heap.objs.size f cdv)) → FSs (Zo ga) (cxOf (L2.CX P w) P w K mg base N qual scope f cdv A outer s H E) (WE E) body m) :
    FnM P w K mg base ga (k + 1) f fd ps (fnB ps.length N.length m) := by
  refine F.okG S (fun vs H Q E h => h.1) (fun cdv A outer s H vs Q E hg hr h => ?_)
  obtain ⟨hl, ι, L, xs, wd, r, g⟩ := h
  refine ⟨_, hb cdv A outer s H E hg hr, ι, L, startP N.length xs, wd, VRs.start (Z := Zo ga) r rfl, ?_⟩
  unfold fnB at g
  rw [if_pos (by rw [r.len]; exact hl)] at g
  cases hm : m (startP N.length xs) L with
  | nx τ' L' => rw [hm] at g; exact fun ι2 H2 σ2 e w s => g ι2 H2 .non e w (by simp [VR])
  | rt v L' => rw [hm] at g; exact g
  | ex c fs τ' L' => rw [hm] at g; exact fun ι2 H2 σ2 d l e w s a b => g ι2 H2 d l e w a b
  | bk => rw [hm] at g; exact g.elim
  | ct => rw [hm] at g; exact g.elim
  | no => rw [hm] at g; exact g.elim
theorem fn_zero {fd : FuncData} : FnM P w K mg base ga k f fd ps fn0 := ⟨fun vs H Q E h => h.1, fun A o s H a us vs Q E hg hr e0 hb rv h => by
  obtain ⟨_, ι, L, xs, wd, r, g⟩ := h
  exact g.elim⟩
end
/-! ### what a callee raises is taken -/
def Tk (X : Cx) (W : WX) : Prop := ∀ (pins : List (Addr × Obj)) (σ : L2.St) (H : Hp) (s : Shared) (E : XK) (e : Value) (s' : Shared), Inv X pins σ H s → (∀ cls d H', E cls d H' → W cls d σ H') → L2.CX X.prog X.w X.stack H s E e s' → X.xe e s'
theorem tk_of {X : Cx} {W : WX} (t : Takes X W) : Tk X W := fun pins σ H s E e s' I h c => t e s' (XE.of_call I h c)
theorem tk_0 {X : Cx} : Tk X W0 := fun pins σ H s E e s' I h c => by
  obtain ⟨a, B, H', cls, d, _, _, _, _, _, _, _, q⟩ := c
  exact (h cls d H' q).elim
section
variable {X : Cx} {Z : Zs} {W : WX} {k : Nat} {f C : Addr} {fd : FuncData} {ps : List Str} {m : Fn} {x : Str} {p pos apos : Pos} {e o : Expr} {es : List Expr} {ma : MA} {me : ME}
/-- the wish for a mirror's result, as a callee has it -/
theorem gd.call {K : PySem.W.Frag} {ga : Ga} {r : R PV} {ι : List Addr} {H : Hp} {σ : L2.St} {P : PV → LH → List Addr → V → Hp → Prop} (g : gd K ga W (VR K ga) r ι H σ P) : gd K ga (fun c d _ H => W c d σ H) (VR K ga) r ι H [] P := g
theorem run_fnM {pins : List (Addr × Obj)} {σ : L2.St} {H : Hp} {s : Shared} {Q : VK} {us : List Value} {vs : List V} {ι : List Addr} {L : LH} {xs : List PV} (F : FnM X.prog X.w X.K X.mg X.base Z.f k f fd ps m) (hgd : X.A.guards = some []) (hr : Room k X.A) (hb : Binds X.K fd ps []) (tk : Tk X W) (hl : ∀ xs L, xs.length ≠ ps.length → m xs L = .no)
    (I : Inv X pins σ H s) (r : Vals vs us) (wd : Wd X.K Z.f ι L H) (rx : VRs X.K Z.f ι H xs vs) (g : gd X.K Z.f W (VR X.K Z.f) (m xs L) ι H σ fun _ _ _ v H' => Q v H') : wpAny (model X.prog X.w) X.A (call (.ref f) us) (EP X pins σ Q) X.xe s := by
  have hlen : vs.length = ps.length := by
    rw [← rx.len]
    by_cases h : xs.length = ps.length
    · exact h
    · rw [hl xs L h] at g; exact g.elim
  have hsp : spM ps.length X.K Z.f m vs H Q (fun c d H => W c d σ H) := ⟨hlen, ι, L, xs, wd, rx, g⟩
  have hu : us.length = ps.length := r.length ▸ hlen
  have hb' := hb s us I.kIn (by rw [List.append_nil]; exact hu)
  rw [List.append_nil] at hb'
  refine wpAny_call (codeAny_mono (F.run X.A X.stack s H ⟨us, []⟩ us vs Q _ hgd hr I.env0 hb' r hsp) fun r s' hq => ?_)
  match r, hq with
  | .error e, hq => exact tk pins σ H s _ e s' I (fun _ _ _ z => z) hq
  | .ok (.ret u), hq => exact I.after hq
  | .ok .next, hq => exact hq.elim
  | .ok .brk, hq => exact hq.elim
  | .ok .cont, hq => exact hq.elim
/-- a def as its callers know it -/
structure Def (X : Cx) (ga : Ga) (f : Addr) (n : Nat) (m : Fn) : Prop where
  ex : ∃ (k : Nat) (fd : FuncData) (ps : List Str), FnM X.prog X.w X.K X.mg X.base ga k f fd ps m ∧ Room k X.A ∧ Binds X.K fd ps [] ∧ ps.length = n
  gd : X.A.guards = some []
  kp : PySem.W.keepIn X.K (.ref f) = true
  len : ∀ xs L, xs.length ≠ n → m xs L = .no
theorem Def.run {n : Nat} {pins : List (Addr × Obj)} {σ : L2.St} {H : Hp} {s : Shared} {Q : VK} {us : List Value} {vs : List V} {ι : List Addr} {L : LH} {xs : List PV} (F : Def X Z.f f n m) (tk : Tk X W)
    (I : Inv X pins σ H s) (r : Vals vs us) (wd : Wd X.K Z.f ι L H) (rx : VRs X.K Z.f ι H xs vs) (g : FL.gd X.K Z.f W (VR X.K Z.f) (m xs L) ι H σ fun _ _ _ v H' => Q v H') : wpAny (model X.prog X.w) X.A (call (.ref f) us) (EP X pins σ Q) X.xe s := by
  obtain ⟨⟨k, fd, ps, F1, hr, hb, hn⟩, hgd, hk, hl⟩ := F
  exact run_fnM F1 hgd hr hb tk (by rw [hn]; exact hl) I r wd rx g
/-- f(e, ..) -/
theorem fe_call {n : Nat} (F : Def X Z.f f n m) (tk : Tk X W) (hg : Gl X x) (hm : X.mg x = some (.ref f)) (ha : FA Z X W (e :: es) ma)
    (hdb : (x == ("__debug__" : Str)) = false := by decide) (he : starEach (e :: es) X.env = (false, eval e X.env) :: starEach es X.env := by rfl) (hpl : (backTo pos (starEach es X.env)).any (·.1) = false := by rfl) :
    FE Z X W (.Call (.Name x p) (e :: es) [] pos) (eF m ma) := by
  refine ⟨fun pins s σ H Q I h => wpAny_Call_Name_kw (ld_glob I hg hm (PySem.W.callWith_K (h₀ := X.base) I.ok.mod.kin F.kp (thn (ha.run pos pins s σ H (fun vs H1 => ∃ ι1 L1 xs, Wd X.K Z.f ι1 L1 H1 ∧ VRs X.K Z.f ι1 H1 xs vs ∧ gd X.K Z.f W (VR X.K Z.f) (m xs L1) ι1 H1 σ fun _ _ _ v H' => Q v H') I
    (tM.bind h fun τ xs L1 ι1 vs H1 w1 s1 r1 g1 => ⟨ι1, L1, xs, w1, r1, g1⟩)) fun us s1 ⟨vs, H1, I1, r, ι1, L1, xs, w1, r1, g1⟩ => ⟨I1.kIn, F.run tk I1 r w1 r1 g1⟩) he hpl) hdb)⟩
/-- f() -/
theorem fe_call0 {n : Nat} (F : Def X Z.f f n m) (tk : Tk X W) (hg : Gl X x) (hm : X.mg x = some (.ref f)) (hdb : (x == ("__debug__" : Str)) = false := by decide) : FE Z X W (.Call (.Name x p) [] [] pos) (eF m aN) := by
  refine ⟨fun pins s σ H Q I ⟨ι, L, τ, w, s, g⟩ => wpAny_Call_Name_kw (ld_glob I hg hm (PySem.W.callWith_K0 I.kIn F.kp (F.run (us := []) (xs := []) tk I .nil w rfl g)) hdb)⟩
end
end FL
/-! FLF: attributes, methods, new instances, raise, try. -/
namespace FL
open PySem PySem.Spec PyProof.Rows L2
def insOf (x : PV) (L : LH) : Option (Nat × Str × List (Str × PV)) := match x with
  | .obj n => match L[n]? with
    | some (.ins C fs) => some (n, C, fs)
    | _ => none
  | _ => none
section
variable {K : PySem.W.Frag} {ga : Ga} {ι : List Addr} {H : Hp} {L : LH}
theorem FRs.some : ∀ {fs : List (Str × PV)} {l : List (Str × V)} {f : Str} {x : PV}, FRs K ga ι H fs l → fs.lookup f = Option.some x → ∃ v, l.lookup f = Option.some v ∧ VR K ga ι H x v
  | [], _, _, _, _, e => by cases e
  | (g, y) :: fs, _, f, x, h, e => by
    obtain ⟨v, r, rfl, h1, h2⟩ := h
    simp only [List.lookup_cons] at e ⊢
    cases q : f == g with
    | true => rw [q] at e; cases e; exact ⟨v, rfl, h1⟩
    | false => rw [q] at e; exact FRs.some h2 e
theorem FRs.none : ∀ {fs : List (Str × PV)} {l : List (Str × V)} {f : Str}, FRs K ga ι H fs l → fs.lookup f = Option.none → l.lookup f = Option.none
  | [], _, _, h, _ => by cases h; rfl
  | (g, y) :: fs, _, f, h, e => by
    obtain ⟨v, r, rfl, h1, h2⟩ := h
    simp only [List.lookup_cons] at e ⊢
    cases q : f == g with
    | true => rw [q] at e; cases e
    | false => rw [q] at e; exact FRs.none h2 e
theorem FRs.len : ∀ {fs : List (Str × PV)} {l : List (Str × V)}, FRs K ga ι H fs l → fs.length = l.length
  | [], _, h => by cases h; rfl
  | x :: xs, _, h => by obtain ⟨v, r, rfl, _, h2⟩ := h; simp [FRs.len h2]
def putP (f : Str) (v : PV) : List (Str × PV) → List (Str × PV)
  | [] => [(f, v)]
  | (g, x) :: r => if g = f then (g, v) :: r else (g, x) :: putP f v r
theorem FRs.put {f : Str} {x : PV} {v : V} (hx : VR K ga ι H x v) : ∀ {fs : List (Str × PV)} {l : List (Str × V)}, FRs K ga ι H fs l → FRs K ga ι H (putP f x fs) (putF f v l)
  | [], _, h => by cases h; exact ⟨v, [], rfl, hx, rfl⟩
  | (g, y) :: fs, _, h => by
    obtain ⟨u, r, rfl, h1, h2⟩ := h
    unfold putP putF
    by_cases hg : g = f
    · rw [if_pos hg, if_pos hg]; exact ⟨v, r, rfl, hx, h2⟩
    · rw [if_neg hg, if_neg hg]; exact ⟨u, _, rfl, h1, FRs.put hx h2⟩
theorem insOf_at {x : PV} {v : V} {n : Nat} {C : Str} {fs : List (Str × PV)} (w : Wd K ga ι L H) (r : VR K ga ι H x v) (h : insOf x L = Option.some (n, C, fs)) :
    x = .obj n ∧ L[n]? = Option.some (.ins C fs) ∧ ∃ a dx l, v = .ref a ∧ ι[n]? = Option.some a ∧ H a = Option.some (.ins (ga C) dx l) ∧ FRs K ga ι H fs l := by
  unfold insOf at h
  split at h
  · rename_i n'
    split at h
    · rename_i C' fs' hl
      cases h
      obtain ⟨a, h1, rfl⟩ := r
      obtain ⟨ho, q1, dx, l, rfl, q2⟩ := w.at_ _ a _ h1 hl
      exact ⟨rfl, hl, a, dx, l, rfl, h1, q1, q2⟩
    · cases h
  · cases h
end
/-- what may not raise -/
def R.noex {α : Type} : R α → R α
  | .ex _ _ _ => .no
  | r => r
/-! ### e.f -/
/-- cs: the classes whose instances keep f; ps: those that have a property f -/
def eAt (f : Str) (cs : List Str) (ps : List (Str × Fn)) (o : ME) : ME := fun τ L => (o τ L).bind fun x L1 => match insOf x L1 with
  | some (_, C, fs) => if cs.contains C then (match fs.lookup f with | some v => .ok v L1 | none => .no) else (match ps.lookup C with | some m => (m [x] L1).noex | none => .no)
  | none => .no
structure Prp (X : Cx) (ga : Ga) (C : Str) (f : Str) (m : Fn) : Prop where
  cl : Cls X.K (ga C)
  ex : ∃ (p g : Addr) (k : Nat) (fd : FuncData) (ps : List Str), PropOf X.K (ga C) f p g ∧ FnM X.prog X.w X.K X.mg X.base ga k g fd ps m ∧ Room (k + 1) X.A ∧ Binds X.K fd ps [] ∧ ps.length = 1
  gd : X.A.guards = some []
section
variable {X : Cx} {Z : Zs} {W : WX} {f : Str} {cs : List Str} {ps : List (Str × Fn)} {e o : Expr} {me mo : ME} {pos : Pos} {es : List Expr} {ma : MA}
theorem Prp.run {C : Str} {m : Fn} {pins : List (Addr × Obj)} {σ : L2.St} {H : Hp} {s : Shared} {Q : VK} {b : Bool} {E' : Value → Shared → Prop} {a dx : Addr} {l : List (Str × V)} {ι : List Addr} {L : LH} {x : PV} (hp : Prp X Z.f C f m) (I : Inv X pins σ H s) (ea : H a = some (.ins (Z.f C) dx l))
    (w : Wd X.K Z.f ι L H) (r : VR X.K Z.f ι H x (.ref a)) (g : FL.gd X.K Z.f W (VR X.K Z.f) (m [x] L).noex ι H σ fun _ _ _ v H' => Q v H') : wpAny (model X.prog X.w) X.A (getAttr (.ref a) f b) (EP X pins σ Q) E' s := by
  obtain ⟨c, ⟨p, gf, k, fd, ps, hpo, F, hr, hb, hn⟩, hgd⟩ := hp
  obtain ⟨mA, O, _, _, _, _⟩ := ins_get I.hok ea
  obtain ⟨od, J, _⟩ := O.look
  obtain ⟨rest, hrec⟩ := hpo.rec_
  have I1 := I.tok (s.toks + 1)
  have hc : (PySem.W.clsIn X.K (Z.f C)).isSome = true := by
    obtain ⟨cd, hc, _⟩ := PySem.W.any_some c.hd
    rw [hc]
    rfl
  refine PySem.W.get_bind I.kIn J (PySem.W.plainGet_of (c.get f)).1 (PySem.W.findObj_data hc hpo.at_ hpo.get hpo.tak) (PySem.W.plainGet_of (c.get f)).2 (wpAny_call (PySem.W.prop_get (s := { s with toks := s.toks + 1 }) I.kIn hrec ?_))
  have hsp : spM ps.length X.K Z.f m [.ref a] H Q (fun _ _ _ => False) := by
    refine ⟨hn.symm, ι, L, [x], w, ⟨.ref a, [], rfl, r, rfl⟩, ?_⟩
    cases hm : m [x] L with
    | ok v L' => rw [hm] at g; exact g
    | ex => rw [hm] at g; exact g.elim
    | no => rw [hm] at g; exact g.elim
  have hb' := hb { s with toks := s.toks + 1 } [.ref a] I1.kIn (by rw [List.append_nil]; exact hn.symm)
  rw [List.append_nil] at hb'
  refine codeAny_mono (F.run X.A.in1 X.stack { s with toks := s.toks + 1 } H ⟨[.ref a], []⟩ [.ref a] [.ref a] Q _ hgd hr.in1 I1.env0.in1 hb' (.cons rfl .nil) hsp) fun r s' hq => ?_
  cases r with
  | error er =>
    obtain ⟨_, _, _, _, _, _, _, _, _, _, _, _, q⟩ := hq
    exact q.elim
  | ok fl =>
    cases fl with
    | ret u =>
      obtain ⟨v, H', I3, rv, q3⟩ := I1.after hq
      show wpAny _ _ (handedOut u) _ _ _
      rw [PySem.W.handedOut_of (handed_of rv)]
      exact wpAny_pure ⟨v, H', I3, rv, q3⟩
    | next => exact False.elim hq
    | brk => exact False.elim hq
    | cont => exact False.elim hq
theorem fe_at (hc : ∀ C ∈ cs, Cls X.K (Z.f C) ∧ NoAttr X.K (Z.f C) f) (hp : ∀ C m, ps.lookup C = some m → Prp X Z.f C f m) (he : FE Z X W e me) (hb : attributeBase e f X.env (eval e X.env) = eval e X.env) : FE Z X W (.Attribute e f pos) (eAt f cs ps me) := by
  refine ⟨fun pins s σ H Q I h => ?_⟩
  refine attr_of hb (thn (he.run pins s σ H (fun v H1 => ∃ ι1 L1 x, Wd X.K Z.f ι1 L1 H1 ∧ VR X.K Z.f ι1 H1 x v ∧ gd X.K Z.f W (VR X.K Z.f) (match insOf x L1 with
    | some (_, C, fs) => if cs.contains C then (match fs.lookup f with | some v => .ok v L1 | none => .no) else (match ps.lookup C with | some m => (m [x] L1).noex | none => .no)
    | none => .no) ι1 H1 σ fun _ _ _ v H' => Q v H') I (tM.bind h fun τ x L1 ι1 u H1 w1 s1 r1 g1 => ⟨ι1, L1, x, w1, r1, g1⟩)) fun u s1 ⟨v, H1, I1, rx, ι1, L1, x, w1, r1, g1⟩ => ?_)
  cases hi : insOf x L1 with
  | none => rw [hi] at g1; exact g1.elim
  | some q =>
    obtain ⟨n, C, fs⟩ := q
    rw [hi] at g1
    dsimp only at g1
    obtain ⟨rfl, hl, a, dx, l, rfl, hn, ea, rf⟩ := insOf_at w1 r1 hi
    obtain rfl : u = Value.ref a := rx
    by_cases hcc : cs.contains C = true
    · rw [if_pos hcc] at g1
      obtain ⟨c, na⟩ := hc C (by simpa using hcc)
      cases hf : fs.lookup f with
      | none => rw [hf] at g1; exact g1.elim
      | some y =>
        rw [hf] at g1
        obtain ⟨v, h1, h2⟩ := rf.some hf
        refine getattr_ok I1 ea c na h1 fun u s2 I2 ru => ?_
        exact ⟨v, H1, I2, ru, g1.ok w1 h2⟩
    · rw [if_neg hcc] at g1
      cases hf : ps.lookup C with
      | none => rw [hf] at g1; exact g1.elim
      | some m =>
        rw [hf] at g1
        exact (hp C m hf).run (x := .obj n) I1 ea w1 ⟨a, hn, rfl⟩ g1
/-! ### o.m(e, ..) -/
structure Mt (X : Cx) (ga : Ga) (C : Str) (mn : Str) (m : Fn) : Prop where
  cl : Cls X.K (ga C)
  ex : ∃ (f : Addr) (n : Nat), Meth X.K (ga C) mn f ∧ Def X ga f n m
def mFind (mn : Str) (ms : List (Str × Fn)) (x : PV) (L : LH) : Option Fn := match insOf x L with
  | some (_, C, fs) => (match fs.lookup mn with
    | none => ms.lookup C
    | some _ => none)
  | none => none
def eMe (mn : Str) (ms : List (Str × Fn)) (o : ME) (ma : MA) : ME := fun τ L => (o τ L).bind fun x L1 => match mFind mn ms x L1 with
  | some m => (ma τ L1).bind fun xs L2 => m (x :: xs) L2
  | none => .no
theorem mFind_at {mn : Str} {ms : List (Str × Fn)} (hm : ∀ C m, ms.lookup C = some m → Mt X Z.f C mn m) {x : PV} {L : LH} {ι : List Addr} {H : Hp} {v : V} {m : Fn} (w : Wd X.K Z.f ι L H) (r : VR X.K Z.f ι H x v) (h : mFind mn ms x L = some m) :
    ∃ C a dx l, v = .ref a ∧ H a = some (.ins (Z.f C) dx l) ∧ l.lookup mn = none ∧ Mt X Z.f C mn m := by
  unfold mFind at h
  split at h
  · rename_i n C fs hi
    obtain ⟨rfl, hl, a, dx, l, rfl, hn, ea, rf⟩ := insOf_at w r hi
    split at h
    · rename_i hf
      exact ⟨C, a, dx, l, rfl, ea, rf.none hf, hm C m h⟩
    · cases h
  · cases h
theorem fe_me {mn : Str} {ms : List (Str × Fn)} {apos : Pos} {pl : Sem Bool} {ea : Expr} (hm : ∀ C m, ms.lookup C = some m → Mt X Z.f C mn m) (tk : Tk X W) (he : FE Z X W o mo) (ha : FA Z X W (ea :: es) ma)
    (hst : starEach (ea :: es) X.env = (false, eval ea X.env) :: starEach es X.env := by rfl) (hpl : (backTo pos (starEach es X.env)).any (·.1) = false := by rfl)
    (ht : eval (.Call (.Attribute o mn apos) (ea :: es) [] pos) X.env = (do
      let ov ← eval o X.env
      standAt apos.atName
      let (f, first) ← holding [ov] (getMethod ov mn pl)
      callWith pos f first (backTo pos (starEach (ea :: es) X.env)) (backToKw pos (keywordEach [] X.env))) := by rfl) :
    FE Z X W (.Call (.Attribute o mn apos) (ea :: es) [] pos) (eMe mn ms mo ma) := by
  refine ⟨fun pins s σ H Q I h => ?_⟩
  refine PySem.W.methodCall_KW (pl := pl) (thn (he.run pins s σ H (fun v H1 => ∃ ι1 L1 τ x, Wd X.K Z.f ι1 L1 H1 ∧ SR X.K Z ι1 H1 τ σ ∧ VR X.K Z.f ι1 H1 x v ∧ gd X.K Z.f W (VR X.K Z.f) (match mFind mn ms x L1 with
    | some m => (ma τ L1).bind fun xs L2 => m (x :: xs) L2
    | none => .no) ι1 H1 σ fun _ _ _ v H' => Q v H') I (tM.bind h fun τ x L1 ι1 u H1 w1 s1 r1 g1 => ⟨ι1, L1, τ, x, w1, s1, r1, g1⟩)) fun u s1 ⟨v, H1, I1, rx, ι1, L1, τ, x, w1, sr1, r1, g1⟩ => ?_) ht
  cases hi : mFind mn ms x L1 with
  | none => rw [hi] at g1; exact g1.elim
  | some m =>
    rw [hi] at g1
    obtain ⟨C, a, dx, l, rfl, ea, ln, c, f, n, hme, F⟩ := mFind_at hm w1 r1 hi
    obtain rfl : u = Value.ref a := rx
    refine getmeth_ok I1 ea c hme ln ?_
    refine PySem.W.callWith_K (first := [.ref a]) (h₀ := X.base) I.ok.mod.kin hme.kp (thn (ha.run pos pins s1 σ H1 (fun vs H2 => ∃ ι2 L2 xs, Wd X.K Z.f ι2 L2 H2 ∧ VR X.K Z.f ι2 H2 x (.ref a) ∧ VRs X.K Z.f ι2 H2 xs vs ∧ gd X.K Z.f W (VR X.K Z.f) (m (x :: xs) L2) ι2 H2 σ fun _ _ _ v H' => Q v H') I1
      ⟨ι1, L1, τ, w1, sr1, gd.bind g1 fun xs L2 ι2 vs H2 _ e w2 r2 g2 => ⟨ι2, L2, xs, w2, r1.up e, r2, g2⟩⟩) fun us s2 ⟨vs, H2, I2, r, ι2, L2, xs, w2, rx2, r2, g2⟩ => ⟨I2.kIn, ?_⟩) hst hpl
    exact F.run (us := .ref a :: us) (vs := .ref a :: vs) (xs := x :: xs) tk I2 (.cons rfl r) w2 ⟨_, _, rfl, rx2, r2⟩ g2
theorem fe_me0 {mn : Str} {ms : List (Str × Fn)} {apos : Pos} {pl : Sem Bool} (hm : ∀ C m, ms.lookup C = some m → Mt X Z.f C mn m) (tk : Tk X W) (he : FE Z X W o mo)
    (ht : eval (.Call (.Attribute o mn apos) [] [] pos) X.env = (do
      let ov ← eval o X.env
      standAt apos.atName
      let (f, first) ← holding [ov] (getMethod ov mn pl)
      callWith pos f first (backTo pos (starEach [] X.env)) (backToKw pos (keywordEach [] X.env))) := by rfl) :
    FE Z X W (.Call (.Attribute o mn apos) [] [] pos) (eMe mn ms mo aN) := by
  refine ⟨fun pins s σ H Q I h => ?_⟩
  refine PySem.W.methodCall_KW (pl := pl) (thn (he.run pins s σ H (fun v H1 => ∃ ι1 L1 x, Wd X.K Z.f ι1 L1 H1 ∧ VR X.K Z.f ι1 H1 x v ∧ gd X.K Z.f W (VR X.K Z.f) (match mFind mn ms x L1 with
    | some m => m [x] L1
    | none => .no) ι1 H1 σ fun _ _ _ v H' => Q v H') I (tM.bind h fun τ x L1 ι1 u H1 w1 s1 r1 g1 => ⟨ι1, L1, x, w1, r1, by
      cases hi : mFind mn ms x L1 with
      | none => rw [hi] at g1; exact g1
      | some m => rw [hi] at g1; exact g1⟩)) fun u s1 ⟨v, H1, I1, rx, ι1, L1, x, w1, r1, g1⟩ => ?_) ht
  cases hi : mFind mn ms x L1 with
  | none => rw [hi] at g1; exact g1.elim
  | some m =>
    rw [hi] at g1
    obtain ⟨C, a, dx, l, rfl, ea, ln, c, f, n, hme, F⟩ := mFind_at hm w1 r1 hi
    obtain rfl : u = Value.ref a := rx
    refine getmeth_ok I1 ea c hme ln ?_
    exact PySem.W.callWith_K0 (first := [.ref a]) I1.kIn hme.kp (F.run (us := [.ref a]) (vs := [.ref a]) (xs := [x]) tk I1 (.cons rfl .nil) w1 ⟨_, _, rfl, r1, rfl⟩ g1)
/-! ### o.f = e -/
def sFd (f : Str) (cs : List Str) (v o : ME) : MS := fun τ L => (v τ L).st τ fun y L1 => (o τ L1).st τ fun x L2 => match insOf x L2 with
  | some (n, C, fs) => if cs.contains C = true ∧ fs.length < 1000 then .nx τ (L2.set n (.ins C (putP f y fs))) else .no
  | none => .no
theorem fs_fd {pos' : Pos} {value : Expr} {mv : ME} (hc : ∀ C ∈ cs, Cls X.K (Z.f C) ∧ NoAttr X.K (Z.f C) f) (ha : FE Z X W o mo) (hv : FE Z X W value mv) (hs : swapsWith value (some (.Attribute o f pos')) pos.line X.env = pure false) :
    FS Z X W (.Assign [.Attribute o f pos'] value pos) (sFd f cs mv mo) :=
  PS.imp (ps_fld ha hv hs) fun D σ H h => tS.st h fun τ y L1 ι1 yv H1 w1 s1 ry g1 => ⟨ι1, L1, τ, w1, s1, gs.st (rel := VR X.K Z.f) g1 s1 fun x L2 ι2 u H2 e2 w2 r2 g2 => by
    cases hi : insOf x L2 with
    | none => rw [hi] at g2; exact g2.elim
    | some q =>
      obtain ⟨n, C, fs⟩ := q
      rw [hi] at g2
      dsimp only at g2
      split at g2
      · rename_i hcc
        obtain ⟨rfl, hl, a, dx, l, rfl, hn, ea, rf⟩ := insOf_at w2 r2 hi
        obtain ⟨c, na⟩ := hc C (by simpa using hcc.1)
        refine ⟨a, Z.f C, dx, l, rfl, ea, c, na, by rw [← rf.len]; exact hcc.2, ?_⟩
        have es := Ext.set (K := X.K) (o := .ins (Z.f C) dx (putF f yv l)) hn ea True.intro
        exact g2 ι2 _ σ es (w2.set hn ea True.intro ⟨dx, _, rfl, FRs.put ((ry.up e2).up es) (rf.up es)⟩) ((s1.up e2).up es)
      · exact g2.elim⟩
end
end FL
/-! FLG: new instances, raise, try. -/
namespace FL
open PySem PySem.Spec PyProof.Rows L2
/-! ### C(e, .., k = v) -/
abbrev FK (Z : Zs) (X : Cx) (W : WX) (kws : List Keyword) (m : MA) : Prop := PK X kws (tM X.K Z W (VRs X.K Z.f) m)
theorem PK.imp {X : Cx} {es : List Keyword} {t t' : TA} (h : PK X es t) (q : ∀ σ H Q, t' σ H Q → t σ H Q) : PK X es t' := ⟨fun pos pins s σ H Q I z => h.run pos pins s σ H Q I (q _ _ _ z)⟩
/-- how arguments come to the parameters: by values, and by the mirror's values -/
structure BindF (K : PySem.W.Frag) (ga : Ga) (fd : FuncData) (ps : List Str) (n : Nat) (ks : List Str) (gP : List PV → List PV → List PV) : Prop where
  ex : ∃ g gV, KBn K fd ps n ks g gV ∧ ∀ ι H xs zs vs us, VRs K ga ι H xs vs → VRs K ga ι H zs us → VRs K ga ι H (gP xs zs) (gV vs us)
structure Ini (X : Cx) (ga : Ga) (C : Str) (n : Nat) (ks : List Str) (gP : List PV → List PV → List PV) (m : Fn) : Prop where
  ex : ∃ (f : Addr) (k : Nat) (fd : FuncData) (ps : List Str), L2.Mk X.K (ga C) f ∧ FnM X.prog X.w X.K X.mg X.base ga k f fd ps m ∧ Room (k + 1) X.A ∧ BindF X.K ga fd ps (n + 1) ks gP ∧ ∀ xs L, xs.length ≠ ps.length → m xs L = .no
  gd : X.A.guards = some []
/-- n arguments, nk keywords -/
def eMk (C : Str) (n nk : Nat) (m : Fn) (gP : List PV → List PV → List PV) (ma mk : MA) : ME := fun τ L => (ma τ L).bind fun xs L1 => (mk τ L1).bind fun zs L2 => if xs.length = n ∧ zs.length = nk then (m (gP (.obj L2.length :: xs) zs) (L2 ++ [.ins C []])).bind fun r L3 => match r with
  | .non => .ok (.obj L2.length) L3
  | _ => .no else .no
section
variable {X : Cx} {Z : Zs} {W : WX} {f : Str} {e o a b : Expr} {me mo : ME} {pos p pos2 : Pos} {es : List Expr} {ma mk : MA} {kws : List Keyword} {x : Str} {m : Fn} {gP : List PV → List PV → List PV} {n : Nat} {ks : List Str}
theorem fk_nil : FK Z X W [] aN := PK.imp pk_nil fun σ H Q ⟨ι, L, τ, w, s, g⟩ => g.ok w (by simp [VRs])
theorem fk_cons {nm : Option Str} {kpos : Pos} (ha : FE Z X W e me) (hr : FK Z X W kws mk) : FK Z X W (⟨nm, e, kpos⟩ :: kws) (aC me mk) :=
  PK.imp (pk_cons ha hr) fun σ H Q h => tM.bind h fun τ x L1 ι1 u H1 w1 s1 r1 g1 => ⟨ι1, L1, τ, w1, s1, g1.bind fun y L2 ι2 v H2 _ e w2 r2 g2 => g2.ok w2 ⟨u, v, rfl, r1.up e, r2⟩⟩
theorem under_guards {A : Around} {C : Addr} {us : List Value} {kw : List (Str × Value)} (h : A.guards = some []) : (A.under (.builtin "type.__call__" ⟨.ref C :: us, kw⟩)).guards = some [] := by
  first | exact h | simpa [Around.under, Code.weight, Code.isCreation, Code.isGuard, Code.isCaller, Code.frames, Code.isFrame, guardIds] using h
theorem Ini.run {C : Str} {pins : List (Addr × Obj)} {σ : L2.St} {H : Hp} {s : Shared} {Q : VK} {us ws : List Value} {vs zs : List V} {ι : List Addr} {L : LH} {xs ys : List PV} (F : Ini X Z.f C n ks gP m) (tk : Tk X W)
    (I : Inv X pins σ H s) (r : Vals vs us) (rz : Vals zs ws) (l1 : vs.length = n) (l2 : zs.length = ks.length) (w : Wd X.K Z.f ι L H) (rx : VRs X.K Z.f ι H xs vs) (ry : VRs X.K Z.f ι H ys zs)
    (g : FL.gd X.K Z.f W (VR X.K Z.f) ((m (gP (.obj L.length :: xs) ys) (L ++ [.ins C []])).bind fun r L3 => match r with
      | .non => .ok (.obj L.length) L3
      | _ => .no) ι H σ fun _ _ _ v H' => Q v H') : wpAny (model X.prog X.w) X.A (call (.ref (Z.f C)) us (ks.zip ws)) (EP X pins σ Q) X.xe s := by
  obtain ⟨⟨f, k, fd, ps, M, F, hr, ⟨gv, gV, hb, hP⟩, hlen⟩, hgd⟩ := F
  have J := Inv.made (C := Z.f C) I
  have h1 : H s.heap.objs.size = none := I.hok.fresh (Nat.le_refl _)
  have h2 : H (s.heap.objs.size + 1) = none := I.hok.fresh (Nat.le_succ _)
  generalize ex : s.heap.objs.size + 1 = xa at *
  generalize ed : s.heap.objs.size = dx at *
  have hne : xa ≠ dx := by omega
  have e1 := Ext.new (K := X.K) (ι := ι) (o := .own xa) h1
  have w1 := w.new (o := .own xa) h1
  have h2' : upd H dx (.own xa) xa = none := by rw [upd_ne hne]; exact h2
  have e2 : Ext X.K ι H (ι ++ [xa]) (upd (upd H dx (.own xa)) xa (.ins (Z.f C) dx [])) := e1.trans (Ext.alloc h2')
  have w2 : Wd X.K Z.f (ι ++ [xa]) (L ++ [.ins C []]) (upd (upd H dx (.own xa)) xa (.ins (Z.f C) dx [])) := w1.alloc h2' ⟨dx, [], rfl, rfl⟩
  have rself : VR X.K Z.f (ι ++ [xa]) (upd (upd H dx (.own xa)) xa (.ins (Z.f C) dx [])) (.obj L.length) (.ref xa) := ⟨xa, by rw [← w.len]; simp, rfl⟩
  have rall := hP _ _ _ _ _ _ (show VRs X.K Z.f (ι ++ [xa]) (upd (upd H dx (.own xa)) xa (.ins (Z.f C) dx [])) (.obj L.length :: xs) (.ref xa :: vs) from ⟨_, _, rfl, rself, rx.up e2⟩) (ry.up e2)
  have hlv : (gV (.ref xa :: vs) zs).length = ps.length := by
    rw [← rall.len]
    by_cases h : (gP (.obj L.length :: xs) ys).length = ps.length
    · exact h
    · rw [hlen _ _ h] at g; exact g.elim
  have hsp : spM ps.length X.K Z.f m (gV (.ref xa :: vs) zs) (upd (upd H dx (.own xa)) xa (.ins (Z.f C) dx [])) (fun v H3 => v = .non ∧ Q (.ref xa) H3) (fun c d H => W c d σ H) := by
    refine ⟨hlv, ι ++ [xa], L ++ [.ins C []], _, w2, rall, ?_⟩
    have g' := gd.ext g e2
    refine FL.gd.bind (rel2 := VR X.K Z.f) (W := W) (σ := σ) g' fun r L3 ι3 v H3 _ e3 w3 r3 g3 => ?_
    cases r with
    | non =>
      refine ⟨by simpa [VR] using r3, g3.ok w3 ?_⟩
      exact rself.up e3
    | _ => exact g3.elim
  have rr := hb.rel (Paired.cons (show RelV (V.ref xa) (Value.ref xa) from rfl) r) rz
  have ln : (Value.ref xa :: us).length = n + 1 := congrArg (· + 1) (r.length.symm.trans l1)
  have go := F.run _ X.stack _ _ ⟨Value.ref xa :: us, ks.zip ws⟩ _ _ _ _ (under_guards (C := Z.f C) (us := us) (kw := ks.zip ws) hgd) (hr.make (Z.f C) us (ks.zip ws)) (J.env0.make (Z.f C) us (ks.zip ws)) (hb.to _ (Value.ref xa :: us) ws J.kIn ln (rz.length.symm.trans l2)) rr hsp
  refine wpAny_call (make_map (f := f) I.kIn M.makes M.init (beq_iff_eq.mp M.fn) ?_)
  rw [ed, ex]
  refine codeAny_mono go fun r s' hq => ?_
  match r, hq with
  | .error e, hq => exact tk pins _ _ _ _ e s' J (fun _ _ _ z => z) hq
  | .ok (.ret u), hq =>
    obtain ⟨v, H', I3, rv, rfl, q3⟩ := J.after hq
    exact ⟨rv, ⟨V.ref xa, H', I3, rfl, q3⟩⟩
  | .ok .next, hq => exact hq.elim
  | .ok .brk, hq => exact hq.elim
  | .ok .cont, hq => exact hq.elim
theorem fe_mk {C : Str} (F : Ini X Z.f C n ks gP m) (tk : Tk X W) (hg : Gl X C) (hm : X.mg C = some (.ref (Z.f C))) (ha : FA Z X W (e :: es) ma) (hkw : FK Z X W kws mk)
    (hall : (backToKw pos (keywordEach kws X.env)).all (·.1.isSome) = true := by rfl) (hks : (backToKw pos (keywordEach kws X.env)).filterMap (·.1) = ks := by rfl) (hdb : (C == ("__debug__" : Str)) = false := by decide)
    (he : starEach (e :: es) X.env = (false, eval e X.env) :: starEach es X.env := by rfl) (hpl : ((backTo pos (starEach (e :: es) X.env)).any (·.1) || (backToKw pos (keywordEach kws X.env)).any (·.1.isNone)) = false := by rfl) :
    FE Z X W (.Call (.Name C p) (e :: es) kws pos) (eMk C n ks.length m gP ma mk) := by
  have kp : PySem.W.keepIn X.K (.ref (Z.f C)) = true := let ⟨_, _, _, _, M, _⟩ := F.ex; M.kp
  refine ⟨fun pins s σ H Q I h => wpAny_Call_Name_kw (ld_glob I hg hm (PySem.W.callWith_KW (h₀ := X.base) I.ok.mod.kin kp hall (thn (ha.run pos pins s σ H (fun vs H1 => ∃ ι1 L1 τ xs, Wd X.K Z.f ι1 L1 H1 ∧ SR X.K Z ι1 H1 τ σ ∧ VRs X.K Z.f ι1 H1 xs vs ∧ gd X.K Z.f W (VR X.K Z.f) ((mk τ L1).bind fun zs L2 => if xs.length = n ∧ zs.length = ks.length then (m (gP (.obj L2.length :: xs) zs) (L2 ++ [.ins C []])).bind fun r L3 => match r with
    | .non => .ok (.obj L2.length) L3
    | _ => .no else .no) ι1 H1 σ fun _ _ _ v H' => Q v H') I (tM.bind h fun τ xs L1 ι1 vs H1 w1 s1 r1 g1 => ⟨ι1, L1, τ, xs, w1, s1, r1, g1⟩)) fun us s1 hh => ?_) hpl he) hdb)⟩
  obtain ⟨vs, H1, I1, r, ι1, L1, τ, xs, w1, s1', r1, g1⟩ := hh
  refine thn (hkw.run pos pins s1 σ H1 (fun zv H2 => ∃ ι2 L2 zs, Wd X.K Z.f ι2 L2 H2 ∧ VRs X.K Z.f ι2 H2 xs vs ∧ VRs X.K Z.f ι2 H2 zs zv ∧ gd X.K Z.f W (VR X.K Z.f) (if xs.length = n ∧ zs.length = ks.length then (m (gP (.obj L2.length :: xs) zs) (L2 ++ [.ins C []])).bind fun r L3 => match r with
    | .non => .ok (.obj L2.length) L3
    | _ => .no else .no) ι2 H2 σ fun _ _ _ v H' => Q v H') I1 ⟨ι1, L1, τ, w1, s1', gd.bind g1 fun zs L2 ι2 zv H2 _ e2 w2 r2 g2 => ⟨ι2, L2, zs, w2, r1.up e2, r2, g2⟩⟩) fun ws s2 ⟨zv, H2, I2, rz, ι2, L2, zs, w2, rx2, r2, g2⟩ => ⟨I2.kIn, ?_⟩
  rw [hks]
  split at g2
  · rename_i hl
    exact F.run tk I2 r rz (by rw [← rx2.len]; exact hl.1) (by rw [← r2.len]; exact hl.2) w2 rx2 r2 g2
  · exact g2.elim
/-! ### raise C(e, ..) -/
def sRs (c : Str) (names : List Str) (ma : MA) : MS := fun τ L => (ma τ L).st τ fun xs L1 => if xs.length = names.length then .ex c (names.zip xs).reverse τ L1 else .no
theorem fs_raise1 {c f1 : Str} {fI : Addr} {B newId initId : String} {bm : List Value} {k : Nat} (hc : X.calm = true) (T : ETx X.prog X.K X.mg c (Z.f c) fI B newId initId bm) (G : PySem.MEX.EFn1 X.prog X.K (Z.f c) fI f1) (hr : Room k X.A) (tk : Takes X W) (ha : FA Z X W [a] ma) (hg : Gl X c := by rfl) (hd : (c == ("__debug__" : Str)) = false := by decide)
    (he : starEach [a] X.env = (false, eval a X.env) :: starEach [] X.env := by rfl) (hpl : (backTo pos (starEach [] X.env)).any (·.1) = false := by rfl) :
    FS Z X W (.Raise (some (.Call (.Name c p) [a] [] pos)) none pos2) (sRs c [f1] ma) :=
  PS.imp (ps_raiseE1 hc T G hr tk ha hg hd he hpl) fun D σ H h => tS.st h fun τ xs L1 ι1 vs H1 w1 s1 r1 g1 => by
    split at g1
    · rename_i hl
      refine ⟨by rw [← r1.len]; exact hl, fun d hd => ?_⟩
      obtain ⟨x, rfl⟩ := List.length_eq_one_iff.mp hl
      obtain ⟨v, r, rfl, rv, hr⟩ := r1
      cases (show r = [] from hr)
      have e := Ext.new (K := X.K) (ι := ι1) (o := .xd [(f1, v)]) hd
      exact g1 ι1 _ σ d _ e (w1.new hd) (s1.up e) upd_same ⟨v, [], rfl, rv.up e, rfl⟩
    · exact g1.elim
theorem fs_raise2 {c f1 f2 : Str} {fI : Addr} {B newId initId : String} {bm : List Value} {k : Nat} (hc : X.calm = true) (T : ETx X.prog X.K X.mg c (Z.f c) fI B newId initId bm) (G : PySem.MEX.EFn2 X.prog X.K (Z.f c) fI f1 f2) (hr : Room k X.A) (tk : Takes X W) (ha : FA Z X W [a, b] ma) (hg : Gl X c := by rfl) (hd : (c == ("__debug__" : Str)) = false := by decide)
    (he : starEach [a, b] X.env = (false, eval a X.env) :: starEach [b] X.env := by rfl) (hpl : (backTo pos (starEach [b] X.env)).any (·.1) = false := by rfl) :
    FS Z X W (.Raise (some (.Call (.Name c p) [a, b] [] pos)) none pos2) (sRs c [f1, f2] ma) :=
  PS.imp (ps_raiseE2 hc T G hr tk ha hg hd he hpl) fun D σ H h => tS.st h fun τ xs L1 ι1 vs H1 w1 s1 r1 g1 => by
    split at g1
    · rename_i hl
      refine ⟨by rw [← r1.len]; exact hl, fun d hd => ?_⟩
      have hl2 : ∃ x y, xs = [x, y] := by
        rcases xs with _ | ⟨x, _ | ⟨y, _ | ⟨z, r⟩⟩⟩
        · cases hl
        · cases hl
        · exact ⟨x, y, rfl⟩
        · simp at hl
      obtain ⟨x, y, rfl⟩ := hl2
      obtain ⟨v, r, rfl, rv, hr⟩ := r1
      obtain ⟨u, r, rfl, ru, hr⟩ := hr
      cases (show r = [] from hr)
      have e := Ext.new (K := X.K) (ι := ι1) (o := .xd [(f2, u), (f1, v)]) hd
      exact g1 ι1 _ σ d _ e (w1.new hd) (s1.up e) upd_same ⟨u, _, rfl, ru.up e, v, [], rfl, rv.up e, rfl⟩
    · exact g1.elim
/-! ### try -/
/-- what a suite leaves: slot i is gone -/
def RS.un (i : Nat) : RS → RS
  | .nx τ L => .nx (τ.set i none) L
  | .bk τ L => .bk (τ.set i none) L
  | .ct τ L => .ct (τ.set i none) L
  | .rt v L => .rt v L
  | _ => .no
abbrev Hdl := Str × Nat × (List (Str × PV) → MS)
def hdlL : List Hdl → Str → List (Str × PV) → MS
  | [], c, fs => fun τ L => .ex c fs τ L
  | (c', i, m) :: r, c, fs => if c = c' then fun τ L => if i < τ.length then (m fs (τ.set i none) L).un i else .no else hdlL r c fs
/-- known: the classes that are told apart -/
def sTry (known : List Str) (hs : List Hdl) (mb : MS) : MS := fun τ L => match mb τ L with
  | .ex c fs τ' L' => if known.contains c then hdlL hs c fs τ' L' else .no
  | r => r
/-- a suite's derivation -/
inductive Hds (Z : Zs) (X : Cx) (known : List Str) : List ExceptHandler → List Hdl → Prop
  | nil : Hds Z X known [] []
  | cons {x n : Str} {i : Nat} {m : List (Str × PV) → MS} {b₀ : Stmt} {su : List Stmt} {np po : Pos} {hs : List ExceptHandler} {l : List Hdl} (hc : Names X x (.ref (Z.f x))) (hi : X.N[i]? = some n) (hn : X.env.kindOf n = some .local) (hz : Z.ok i = true)
      (hx : ∀ c ∈ known, PySem.W.exmOne X.K (.ref (Z.f c)) (.ref (Z.f x)) = some (decide (c = x)))
      (hsu : ∀ (a : Addr) (oe : Obj) (d : Addr) (pn : List (Addr × Obj)) (fs : List (Str × PV)), Zc (.ref (Z.f x)) (some d) oe → (∃ vs, oe.data = .fields vs) → FSs ⟨Z.f, ⟨i, a, d, fs, none⟩ :: Z.gh⟩ (X.suite a ((a, oe) :: pn)) W0 (b₀ :: su) (m fs)) (r : Hds Z X known hs l) :
      Hds Z X known (.ExceptHandler (some (.Name x np)) (some n) (b₀ :: su) po :: hs) ((x, i, m) :: l)
/-- the readings of the suites -/
def tsOf (K : PySem.W.Frag) (Z : Zs) (x : Str) (i : Nat) (m : List (Str × PV) → MS) : Addr → Value → Option Addr → TS := fun a cls d D σ H => ∃ fs dd, cls = .ref (Z.f x) ∧ d = some dd ∧ tS K ⟨Z.f, ⟨i, a, dd, fs, none⟩ :: Z.gh⟩ W0 (m fs) D σ H
def claOf (K : PySem.W.Frag) (Z : Zs) (l : List Hdl) : List ClA := l.map fun h => (.ref (Z.f h.1), h.2.1, tsOf K Z h.1 h.2.1 h.2.2)
theorem Hds.toA {known : List Str} {hs : List ExceptHandler} {l : List Hdl} (h : Hds Z X known hs l) : HdsA X hs (claOf X.K Z l) := by
  induction h with
  | nil => exact .nil
  | cons hc hi hn hz hx hsu r ih =>
    refine .cons hc hi hn (fun a oe cls d pn z1 z2 => ?_) ih
    refine ⟨fun pins s σ H D I ⟨fs, dd, e1, e2, h⟩ => ?_⟩
    subst e1 e2
    exact (hsu a oe dd pn fs z1 z2).run pins s σ H D I h
theorem hdl_read {known : List Str} {hs : List ExceptHandler} {l : List Hdl} (h : Hds Z X known hs l) {c : Str} (hk : c ∈ known) {fs : List (Str × PV)} {τ : Sl} {L : LH} {ι : List Addr} {H : Hp} {D : Ends} {σ : L2.St} {d : Addr} {lx : List (Str × V)}
    (w : Wd X.K Z.f ι L H) (s : SR X.K Z ι H τ σ) (hd : H d = some (.xd lx)) (hf : FRs X.K Z.f ι H fs lx) (g : gs X.K Z W (hdlL l c fs τ L) ι H D) : wManyA X.K W D (claOf X.K Z l) (.ref (Z.f c)) (some d) σ H := by
  induction h with
  | nil => exact g ι H σ d lx Ext.refl w s hd hf
  | @cons x n i m b₀ su np po hs l hc hi hn hz hx hsu r ih =>
    refine ⟨_, hx c hk, fun hb a na => ?_, fun hb => ?_⟩
    · have e : c = x := of_decide_eq_true hb
      subst e
      unfold hdlL at g
      rw [if_pos rfl] at g
      split at g
      case isFalse => exact g.elim
      rename_i hil
      show tsOf X.K Z c i m a (.ref (Z.f c)) (some d) (D.un i) (σ.set i (some (.ref a))) H
      refine ⟨fs, d, rfl, rfl, ι, L, τ.set i none, w, ⟨by simp [s.len], fun j y q => ?_, fun gh hg => ?_⟩, ?_⟩
      · by_cases hj : j = i
        · subst hj
          have hl : j < τ.length := by
            have := (List.getElem?_eq_some_iff.mp q).1
            simpa using this
          rw [List.getElem?_set_self hl] at q
          cases q
        · rw [List.getElem?_set_ne (Ne.symm hj)] at q
          rw [List.getElem?_set_ne (Ne.symm hj)]
          exact s.at_ j y q
      · rcases List.mem_cons.mp hg with rfl | hg
        · refine ⟨?_, xd_not (w := w) hd, lx, hd, hf⟩
          rw [List.getElem?_set_self (s.len ▸ hil)]
        · obtain ⟨h1, h2⟩ := s.gh gh hg
          have z := List.all_eq_true.mp hz gh hg
          refine ⟨?_, h2⟩
          rw [List.getElem?_set_ne (by intro y; rw [y] at z; simp at z)]
          exact h1
      · have k : ∀ ι' H' (σ' : L2.St) (τ' : Sl), SR X.K ⟨Z.f, ⟨i, a, d, fs, none⟩ :: Z.gh⟩ ι' H' τ' σ' → SR X.K Z ι' H' (τ'.set i none) (σ'.set i none) := fun ι' H' σ' τ' s' =>
          SR.gone (Z := Z) ⟨s'.len, s'.at_, fun gh hg => s'.gh gh (List.mem_cons_of_mem _ hg)⟩ i hz
        cases hm : m fs (τ.set i none) L with
        | nx τ' L' => rw [hm] at g; exact fun ι' H' σ' e w' s' => g ι' H' _ e w' (k _ _ _ _ s')
        | bk τ' L' => rw [hm] at g; exact fun ι' H' σ' e w' s' => g ι' H' _ e w' (k _ _ _ _ s')
        | ct τ' L' => rw [hm] at g; exact fun ι' H' σ' e w' s' => g ι' H' _ e w' (k _ _ _ _ s')
        | rt v L' => rw [hm] at g; exact g
        | ex => rw [hm] at g; exact g.elim
        | no => rw [hm] at g; exact g.elim
    · have e : c ≠ x := of_decide_eq_false hb
      unfold hdlL at g
      rw [if_neg e] at g
      exact ih g
theorem fs_try {known : List Str} {body : List Stmt} {k₀ : ExceptHandler} {hs : List ExceptHandler} {l : List Hdl} {mb : MS} (e1 : X.stack = X.env :: X.outer) (e2 : X.env.frame = some X.env.locals) (nd : X.N.Nodup) (tk : Takes X W)
    (hb : ∀ (W' : WX) (pn : List (Addr × Obj)) (xe : Value → Shared → Prop), Takes (X.tr pn xe) W' → PassesOwn (model X.prog X.w) X.A X.env xe → FSs Z (X.tr pn xe) W' body mb)
    (hh : Hds Z X known (k₀ :: hs) l) : FS Z X W (.Try body (k₀ :: hs) [] [] pos) (sTry known l mb) :=
  PS.imp (ps_try_manyA (tb := fun W' => tS X.K Z W' mb) e1 e2 nd tk hb hh.toA) fun D σ H ⟨ι, L, τ, w, s, g⟩ => by
    refine ⟨ι, L, τ, w, s, ?_⟩
    unfold sTry at g
    cases hm : mb τ L with
    | ex c fs τ' L' =>
      rw [hm] at g
      intro ι' H' σ' d lx e w' s' hd hf
      dsimp only at g
      split at g
      · rename_i hk
        exact hdl_read hh (by simpa using hk) w' s' hd hf (gs.ext g e)
      · exact g.elim
    | nx => rw [hm] at g; exact g
    | bk => rw [hm] at g; exact g
    | ct => rw [hm] at g; exact g
    | rt => rw [hm] at g; exact g
    | no => rw [hm] at g; exact g.elim
/-- e.f of the exception that is handled -/
def eX (fs : List (Str × PV)) (f : Str) : ME := fun _ L => match fs.lookup f with
  | some v => .ok v L
  | none => .no
theorem fe_x {c f n : Str} {i : Nat} {a d : Addr} {oe : Obj} {pn : List (Addr × Obj)} {fs : List (Str × PV)} {gh : List Gh} {ga : Ga} {np : Pos} (T : XfC X.K (ga c)) (hno : PySem.W.findIn X.K (.ref (ga c)) f = some none) (hz : Zc (.ref (ga c)) (some d) oe) (hf : ∃ vs, oe.data = .fields vs)
    (hN : X.N[i]? = some n) (hv : Vis X.env.scope n) (hd : (n == ("__debug__" : Str)) = false := by decide) (hcd : (n == ("__classdict__" : Str)) = false := by decide) (hb : attributeBase (.Name n np) f X.env (eval (.Name n np) X.env) = eval (.Name n np) X.env := by rfl) :
    FE ⟨ga, ⟨i, a, d, fs, none⟩ :: gh⟩ (X.suite a ((a, oe) :: pn)) W (.Attribute (.Name n np) f pos) (eX fs f) :=
  PE.imp (pe_xf (X := X) T hno hz hf (pe_var (X := X.suite a ((a, oe) :: pn)) (i := i) hN hv hd hcd) hb) fun σ H Q ⟨ι, L, τ, w, s, g⟩ => by
    obtain ⟨h1, hn, l, h2, h3⟩ := s.gh _ List.mem_cons_self
    unfold eX at g
    cases hq : fs.lookup f with
    | none => rw [hq] at g; exact g.elim
    | some y =>
      rw [hq] at g
      obtain ⟨v, q1, q2⟩ := h3.some hq
      exact ⟨_, h1, rfl, rfl, d, l, v, rfl, h2, q1, g.ok w q2⟩
end
end FL
/-! FLH: operators by values. -/
namespace FL
open PySem PySem.Spec PyProof.Rows L2
mutual
/-- data within a value: lists as they stand -/
def dat (L : LH) : Nat → PV → Option PyData
  | 0, _ => none
  | n + 1, x => match x with
    | .non => some .none
    | .bl b => some (.bool b)
    | .int i => some (.int i)
    | .str z => some (.str z)
    | .tup xs => (datL L n xs).map .tuple
    | .rol xs => (datL L n xs).map .list
    | .obj k => match L[k]? with
      | some (.lst xs) => (datL L n xs).map .list
      | _ => none
    | _ => none
def datL (L : LH) : Nat → List PV → Option (List PyData)
  | _, [] => some []
  | 0, _ :: _ => none
  | n + 1, x :: xs => match dat L n x, datL L n xs with
    | some d, some ds => some (d :: ds)
    | _, _ => none
end
section
variable {K : PySem.W.Frag} {ga : Ga} {ι : List Addr} {H : Hp} {L : LH}
mutual
theorem dat_ok (w : Wd K ga ι L H) : ∀ (n : Nat) (x : PV) (v : V) (d : PyData), VR K ga ι H x v → dat L n x = some d → Dp K H v d
  | 0, _, _, _, _, e => by simp [dat] at e
  | n + 1, x, v, d, r, e => by
    cases x with
    | non => obtain rfl : v = .non := by simpa [VR] using r
             simp [dat] at e; subst e; exact .non
    | bl b => obtain rfl : v = .bl b := by simpa [VR] using r
              simp [dat] at e; subst e; exact .bl b
    | int i => obtain rfl : v = .int i := by simpa [VR] using r
               simp [dat] at e; subst e; exact .int i
    | str z => obtain rfl : v = .str z := by simpa [VR] using r
               simp [dat] at e; subst e; exact .str z
    | tup xs =>
      obtain ⟨a, ys, rfl, h1, h2⟩ := r
      simp only [dat] at e
      cases q : datL L n xs with
      | none => rw [q] at e; cases e
      | some ds => rw [q] at e; cases e; exact .tup h1 (datL_ok w n xs ys ds h2 q)
    | rol xs =>
      obtain ⟨a, ys, rfl, h1, h2⟩ := r
      simp only [dat] at e
      cases q : datL L n xs with
      | none => rw [q] at e; cases e
      | some ds => rw [q] at e; cases e; exact .lst h1.sq (datL_ok w n xs ys ds h2 q)
    | obj k =>
      obtain ⟨a, h1, rfl⟩ := r
      simp only [dat] at e
      cases hl : L[k]? with
      | none => rw [hl] at e; cases e
      | some o =>
        rw [hl] at e
        cases o with
        | lst xs =>
          obtain ⟨ho, q1, ys, rfl, q2⟩ := w.at_ k a _ h1 hl
          cases q : datL L n xs with
          | none => simp only [q] at e; cases e
          | some ds => simp only [q] at e; cases e; exact .lst (SqL.of q1) (datL_ok w n xs ys ds q2 q)
        | _ => cases e
    | glo _ => simp [dat] at e
    | ty _ => simp [dat] at e
theorem datL_ok (w : Wd K ga ι L H) : ∀ (n : Nat) (xs : List PV) (vs : List V) (ds : List PyData), VRs K ga ι H xs vs → datL L n xs = some ds → DpAll K H vs ds
  | _, [], _, _, r, e => by cases (show _ = [] from r); simp [datL] at e; subst e; exact .nil
  | 0, _ :: _, _, _, _, e => by simp [datL] at e
  | n + 1, x :: xs, _, ds, r, e => by
    obtain ⟨y, ys, rfl, r1, r2⟩ := r
    simp only [datL] at e
    cases q1 : dat L n x with
    | none => rw [q1] at e; cases e
    | some d =>
      rw [q1] at e
      cases q2 : datL L n xs with
      | none => rw [q2] at e; cases e
      | some ds' => rw [q2] at e; cases e; exact .cons (dat_ok w n x y d r1 q1) (datL_ok w n xs ys ds' r2 q2)
end
/-- flat values, as they are -/
def toV : PV → Option V
  | .non => some .non
  | .bl b => some (.bl b)
  | .int i => some (.int i)
  | .str z => some (.str z)
  | _ => none
theorem toV_ok {x : PV} {v u : V} (r : VR K ga ι H x v) (e : toV x = some u) : v = u ∧ flatV u = true := by
  cases x <;> simp [toV] at e <;> subst e <;> exact ⟨by simpa [VR] using r, rfl⟩
def toVs : List PV → Option (List V)
  | [] => some []
  | x :: xs => match toV x, toVs xs with
    | some v, some vs => some (v :: vs)
    | _, _ => none
theorem toVs_ok : ∀ {xs : List PV} {vs us : List V}, VRs K ga ι H xs vs → toVs xs = some us → vs = us ∧ us.all flatV = true
  | [], _, _, r, e => by cases (show _ = [] from r); simp [toVs] at e; subst e; exact ⟨rfl, rfl⟩
  | x :: xs, _, us, r, e => by
    obtain ⟨y, ys, rfl, r1, r2⟩ := r
    simp only [toVs] at e
    cases q1 : toV x with
    | none => rw [q1] at e; cases e
    | some d =>
      rw [q1] at e
      cases q2 : toVs xs with
      | none => rw [q2] at e; cases e
      | some ds' =>
        rw [q2] at e; cases e
        obtain ⟨rfl, f1⟩ := toV_ok r1 q1
        obtain ⟨rfl, f2⟩ := toVs_ok r2 q2
        exact ⟨rfl, by rw [List.all_cons, f1, f2]; rfl⟩
theorem VR.i {i : Int} {v : V} (r : VR K ga ι H (.int i) v) : v = .int i := by simpa [VR] using r
theorem VR.b {i : Bool} {v : V} (r : VR K ga ι H (.bl i) v) : v = .bl i := by simpa [VR] using r
theorem VR.s {i : Str} {v : V} (r : VR K ga ι H (.str i) v) : v = .str i := by simpa [VR] using r
theorem VR.n {v : V} (r : VR K ga ι H .non v) : v = .non := by simpa [VR] using r
theorem vri {i : Int} : VR K ga ι H (.int i) (.int i) := by simp [VR]
theorem vrb {i : Bool} : VR K ga ι H (.bl i) (.bl i) := by simp [VR]
theorem vrs {i : Str} : VR K ga ι H (.str i) (.str i) := by simp [VR]
theorem vrn : VR K ga ι H .non .non := by simp [VR]
theorem lst_at {n : Nat} {xs : List PV} {v : V} (w : Wd K ga ι L H) (r : VR K ga ι H (.obj n) v) (hl : L[n]? = some (.lst xs)) : ∃ a ys, v = .ref a ∧ ι[n]? = some a ∧ H a = some (.lst ys) ∧ VRs K ga ι H xs ys := by
  obtain ⟨a, h1, rfl⟩ := r
  obtain ⟨ho, q1, ys, rfl, q2⟩ := w.at_ n a _ h1 hl
  exact ⟨a, ys, rfl, h1, q1, q2⟩
/-- a new list -/
theorem new_lst {W : WX} {σ : L2.St} {Q : VK} {xs : List PV} {ys : List V} (w : Wd K ga ι L H) (r : VRs K ga ι H xs ys) (g : gd K ga W (VR K ga) (.ok (.obj L.length) (L ++ [.lst xs])) ι H σ fun _ _ _ z H' => Q z H') {p : Addr} (hp : H p = none) : Q (.ref p) (upd H p (.lst ys)) := by
  have e := Ext.alloc (K := K) (ι := ι) (o := .lst ys) hp
  exact g _ _ (.ref p) e (w.alloc hp ⟨ys, rfl, r.up e⟩) ⟨p, by rw [← w.len]; simp, rfl⟩
theorem new_tup {W : WX} {σ : L2.St} {Q : VK} {xs : List PV} {ys : List V} (w : Wd K ga ι L H) (r : VRs K ga ι H xs ys) (g : gd K ga W (VR K ga) (.ok (.tup xs) L) ι H σ fun _ _ _ z H' => Q z H') {p : Addr} (hp : H p = none) : Q (.ref p) (upd H p (.tup ys)) := by
  have e := Ext.new (K := K) (ι := ι) (o := .tup ys) hp
  exact g _ _ (.ref p) e (w.new hp) ⟨p, ys, rfl, SqT.new, r.up e⟩
end
/-! ### the operators -/
def addF (x y : PV) (L : LH) : R PV := match x, y with
  | .int i, .int j => .ok (.int (i + j)) L
  | .str a, .str b => if a.length + b.length ≤ sizeLine then .ok (.str (a ++ b)) L else .no
  | .tup xs, .tup ys => if xs.length + ys.length ≤ sizeLine then .ok (.tup (xs ++ ys)) L else .no
  | .obj n, .obj m => match L[n]?, L[m]? with
    | some (.lst xs), some (.lst ys) => if xs.length + ys.length ≤ sizeLine then .ok (.obj L.length) (L ++ [.lst (xs ++ ys)]) else .no
    | _, _ => .no
  | _, _ => .no
def rAddA (K : PySem.W.Frag) : R2 := fun x y H Q => (∃ i j, x = .int i ∧ y = .int j ∧ Q (.int (i + j)) H) ∨ (∃ i j, x = .str i ∧ y = .str j ∧ i.length + j.length ≤ sizeLine ∧ Q (.str (i ++ j)) H) ∨ rCat x y H Q ∨ rCatA K x y H Q
section
variable {X : Cx} {K : PySem.W.Frag} {ga : Ga}
theorem op_addA : OpR X (binaryOp .Add) (rAddA X.K) := op_add.or (op_add_str.or (op_cat.or op_catA))
theorem addL : OpL K ga addF (rAddA K) := by
  intro W ι L H σ x y u v Q w rx ry g
  unfold addF at g
  split at g
  · exact .inl ⟨_, _, rx.i, ry.i, g.ok w vri⟩
  · split at g
    · rename_i hz
      exact .inr (.inl ⟨_, _, rx.s, ry.s, hz, g.ok w vrs⟩)
    · exact g.elim
  · split at g
    · rename_i xs ys hz
      obtain ⟨a, as, rfl, h1, h2⟩ := rx
      obtain ⟨b, bs, rfl, h3, h4⟩ := ry
      refine .inr (.inr (.inr ⟨a, b, as, bs, rfl, rfl, h1, h3, by rw [← h2.len, ← h4.len]; exact hz, fun e => ?_, fun e1 e2 => ?_, fun _ _ p hp => new_tup w (h2.app h4) g hp⟩))
      · subst e
        have : xs = [] := by cases xs with | nil => rfl | cons => exact absurd h2.len (by simp)
        subst this
        exact g.ok w ⟨b, bs, rfl, h3, h4⟩
      · subst e2
        have : ys = [] := by cases ys with | nil => rfl | cons => exact absurd h4.len (by simp)
        subst this
        rw [List.append_nil] at g
        exact g.ok w ⟨a, as, rfl, h1, h2⟩
    · exact g.elim
  · split at g
    · rename_i hl hm
      split at g
      · rename_i hz
        obtain ⟨a, as, rfl, _, h1, h2⟩ := lst_at w rx hl
        obtain ⟨b, bs, rfl, _, h3, h4⟩ := lst_at w ry hm
        exact .inr (.inr (.inl ⟨a, b, as, bs, rfl, rfl, h1, h3, by rw [← h2.len, ← h4.len]; exact hz, fun p hp => new_lst w (h2.app h4) g hp⟩))
      · exact g.elim
    · exact g.elim
  · exact g.elim
def subF (x y : PV) (L : LH) : R PV := match x, y with
  | .int i, .int j => .ok (.int (i - j)) L
  | _, _ => .no
theorem subL : OpL K ga subF (rI0 fun i j => .int (i - j)) := by
  intro W ι L H σ x y u v Q w rx ry g
  unfold subF at g
  split at g
  · exact ⟨_, _, rx.i, ry.i, g.ok w vri⟩
  · exact g.elim
def mulF (x y : PV) (L : LH) : R PV := match x, y with
  | .int i, .int j => if i.natAbs.log2 + j.natAbs.log2 < 1000000 then .ok (.int (i * j)) L else .no
  | .tup [a], .int k => if 0 ≤ k ∧ k ≤ 1000 then .ok (.tup (List.replicate k.toNat a)) L else .no
  | _, _ => .no
def rMulA (K : PySem.W.Frag) : R2 := fun x y H Q => rI CMulW (fun i j => .int (i * j)) x y H Q ∨ rRep1 K x y H Q
theorem op_mulA : OpR X (binaryOp .Mult) (rMulA X.K) := op_mulW.or op_rep1
theorem VRs.rep {ι : List Addr} {H : Hp} {x : PV} {v : V} (r : VR K ga ι H x v) : ∀ k, VRs K ga ι H (List.replicate k x) (List.replicate k v)
  | 0 => rfl
  | k + 1 => ⟨v, _, rfl, r, VRs.rep r k⟩
theorem mulL : OpL K ga mulF (rMulA K) := by
  intro W ι L H σ x y u v Q w rx ry g
  unfold mulF at g
  split at g
  · split at g
    · rename_i hz
      exact .inl ⟨_, _, rx.i, ry.i, hz, g.ok w vri⟩
    · exact g.elim
  · split at g
    · rename_i a k hz
      obtain ⟨p, ps, rfl, h1, y, r, rfl, h2, h3⟩ := rx
      cases (show r = [] from h3)
      have ek : ((k.toNat : Nat) : Int) = k := by omega
      refine .inr ⟨p, k.toNat, y, rfl, by rw [ek]; exact ry.i, h1, by omega, fun q H' s hT => ?_⟩
      have e : Ext K ι H ι H' := ⟨⟨[], by simp, fun _ h => nomatch h⟩, fun a o _ h _ => s _ _ h, fun a ys h => by
        rcases h with (h | ⟨u', h⟩) | h
        · exact .inl (.inl (s _ _ h))
        · exact .inl (.inr ⟨u', s _ _ h⟩)
        · exact .inr h, fun a ys h => by
        rcases h with ⟨u', h⟩ | h
        · exact .inl ⟨u', s _ _ h⟩
        · exact .inr h, fun a o u h => s _ _ h⟩
      refine g ι H' (.ref q) e (w.ext e (fun a ha => ?_) (w.tb.ext s)) ⟨q, _, rfl, hT, VRs.rep (h2.up e) _⟩
      obtain ⟨ho, q1, _⟩ := w.some ha
      rw [q1]; exact s _ _ q1
    · exact g.elim
  · exact g.elim
def modF (x y : PV) (L : LH) : R PV := match x, y with
  | .int i, .int j => if 0 < j then .ok (.int (i % j)) L else .no
  | _, _ => .no
theorem modL : OpL K ga modF (rI (fun _ j => 0 < j) fun i j => .int (i % j)) := by
  intro W ι L H σ x y u v Q w rx ry g
  unfold modF at g
  split at g
  · split at g
    · rename_i hz
      exact ⟨_, _, rx.i, ry.i, hz, g.ok w vri⟩
    · exact g.elim
  · exact g.elim
def fdivF (x y : PV) (L : LH) : R PV := match x, y with
  | .int i, .int j => if 0 < j ∧ j.natAbs.log2 < 9000 then .ok (.int (i / j)) L else .no
  | _, _ => .no
theorem fdivL : OpL K ga fdivF (rI CDivW fun i j => .int (i / j)) := by
  intro W ι L H σ x y u v Q w rx ry g
  unfold fdivF at g
  split at g
  · split at g
    · rename_i hz
      exact ⟨_, _, rx.i, ry.i, hz, g.ok w vri⟩
    · exact g.elim
  · exact g.elim
def powF (x y : PV) (L : LH) : R PV := match x, y with
  | .int i, .int j => if 0 ≤ j ∧ j ≤ 1000000 ∧ i.natAbs < 2 ^ 64 then .ok (.int (i ^ j.toNat)) L else .no
  | _, _ => .no
theorem powL : OpL K ga powF (rI CPow fun i j => .int (i ^ j.toNat)) := by
  intro W ι L H σ x y u v Q w rx ry g
  unfold powF at g
  split at g
  · split at g
    · rename_i hz
      exact ⟨_, _, rx.i, ry.i, hz, g.ok w vri⟩
    · exact g.elim
  · exact g.elim
def negF (x : PV) (L : LH) : R PV := match x with
  | .int i => .ok (.int (-i)) L
  | _ => .no
theorem negL : UnL K ga negF (rU fun i => .int (-i)) := by
  intro W ι L H σ x u Q w rx g
  unfold negF at g
  split at g
  · exact ⟨_, rx.i, g.ok w vri⟩
  · exact g.elim
/-! ### comparisons -/
def cmpF (p : Int → Int → Bool) (x y : PV) (L : LH) : R PV := match x, y with
  | .int i, .int j => .ok (.bl (p i j)) L
  | _, _ => .no
theorem cmpL (p : Int → Int → Bool) : OpL K ga (cmpF p) (rI0 fun i j => .bl (p i j)) := by
  intro W ι L H σ x y u v Q w rx ry g
  unfold cmpF at g
  split at g
  · exact ⟨_, _, rx.i, ry.i, g.ok w vrb⟩
  · exact g.elim
abbrev ltF := cmpF fun i j => decide (i < j)
abbrev leF := cmpF fun i j => decide (i ≤ j)
abbrev gtF := cmpF fun i j => decide (j < i)
abbrev geF := cmpF fun i j => decide (j ≤ i)
theorem ltL : OpL K ga ltF (rI0 fun i j => .bl (decide (i < j))) := cmpL _
theorem leL : OpL K ga leF (rI0 fun i j => .bl (decide (i ≤ j))) := cmpL _
theorem gtL : OpL K ga gtF (rI0 fun i j => .bl (decide (j < i))) := cmpL _
theorem geL : OpL K ga geF (rI0 fun i j => .bl (decide (j ≤ i))) := cmpL _
/-- == of data -/
def eqD (L : LH) (x y : PV) : Option Bool := match dat L 60 x, dat L 60 y with
  | some d, some e => if SeqAt.shaped d = true ∧ SeqAt.shaped e = true then some (PyData.eqv d e) else none
  | _, _ => none
def eqF (x y : PV) (L : LH) : R PV := match eqD L x y with
  | some b => .ok (.bl b) L
  | none => .no
def neF (x y : PV) (L : LH) : R PV := match eqD L x y with
  | some b => .ok (.bl (!b)) L
  | none => .no
theorem eqD_ok {ι : List Addr} {H : Hp} {L : LH} {x y : PV} {u v : V} {b : Bool} (w : Wd K ga ι L H) (rx : VR K ga ι H x u) (ry : VR K ga ι H y v) (h : eqD L x y = some b) : ∃ d e, Dp K H u d ∧ Dp K H v e ∧ SeqAt.shaped d = true ∧ SeqAt.shaped e = true ∧ b = PyData.eqv d e := by
  unfold eqD at h
  split at h
  · rename_i d e h1 h2
    split at h
    · rename_i hs
      cases h
      exact ⟨d, e, dat_ok w _ _ _ _ rx h1, dat_ok w _ _ _ _ ry h2, hs.1, hs.2, rfl⟩
    · cases h
  · cases h
theorem eqL : OpL K ga eqF (rEqD K) := by
  intro W ι L H σ x y u v Q w rx ry g
  unfold eqF at g
  split at g
  · rename_i b hb
    obtain ⟨d, e, h1, h2, h3, h4, rfl⟩ := eqD_ok w rx ry hb
    exact ⟨d, e, h1, h2, h3, h4, g.ok w vrb⟩
  · exact g.elim
theorem neL : OpL K ga neF (rNeD K) := by
  intro W ι L H σ x y u v Q w rx ry g
  unfold neF at g
  split at g
  · rename_i b hb
    obtain ⟨d, e, h1, h2, h3, h4, rfl⟩ := eqD_ok w rx ry hb
    exact ⟨d, e, h1, h2, h3, h4, g.ok w vrb⟩
  · exact g.elim
def isNon : PV → Bool
  | .non => true
  | _ => false
def isNF (x y : PV) (L : LH) : R PV := match y with
  | .non => .ok (.bl (isNon x)) L
  | _ => .no
def notNF (x y : PV) (L : LH) : R PV := match y with
  | .non => .ok (.bl (!isNon x)) L
  | _ => .no
theorem VR.isN {ι : List Addr} {H : Hp} {x : PV} {v : V} (r : VR K ga ι H x v) : decide (v = .non) = isNon x := by
  cases x with
  | non => rw [r.n]; rfl
  | bl b => rw [r.b]; rfl
  | int i => rw [r.i]; rfl
  | str z => rw [r.s]; rfl
  | tup xs => obtain ⟨a, ys, rfl, _⟩ := r; rfl
  | rol xs => obtain ⟨a, ys, rfl, _⟩ := r; rfl
  | obj n => obtain ⟨a, _, rfl⟩ := r; rfl
  | glo x => have e : v = .ref (ga x) := by simpa [VR] using r
             subst e; rfl
  | ty n => have e : v = .ty n := by simpa [VR] using r
            subst e; rfl
theorem isNL : OpL K ga isNF (fun x y H Q => y = .non ∧ Q (.bl (decide (x = .non))) H) := by
  intro W ι L H σ x y u v Q w rx ry g
  unfold isNF at g
  split at g
  · refine ⟨ry.n, ?_⟩
    rw [rx.isN]
    exact g.ok w vrb
  · exact g.elim
theorem notNL : OpL K ga notNF (fun x y H Q => y = .non ∧ Q (.bl (!decide (x = .non))) H) := by
  intro W ι L H σ x y u v Q w rx ry g
  unfold notNF at g
  split at g
  · refine ⟨ry.n, ?_⟩
    rw [rx.isN]
    exact g.ok w vrb
  · exact g.elim
/-! ### dicts -/
def getK (kvs : List (Key × PV)) (k : Key) : Option PV := (kvs.find? fun kv => decide (kv.1 = k)).map (·.2)
def toK : PV → Option Key
  | .int i => some (.inl i)
  | .str z => some (.inr z)
  | _ => none
theorem toK_ok {ι : List Addr} {H : Hp} {x : PV} {v : V} {k : Key} (r : VR K ga ι H x v) (e : toK x = some k) : v = kV k := by
  cases x <;> simp [toK] at e <;> subst e
  · exact r.i
  · exact r.s
theorem DRs.get {ι : List Addr} {H : Hp} (k : Key) : ∀ {kvs : List (Key × PV)} {l : List (Key × V)}, DRs K ga ι H kvs l → (getK kvs k = none ∧ valV l k = none) ∨ ∃ x v, getK kvs k = some x ∧ valV l k = some v ∧ VR K ga ι H x v
  | [], _, h => by cases (show _ = [] from h); exact .inl ⟨rfl, rfl⟩
  | (k', x) :: kvs, _, h => by
    obtain ⟨v, r, rfl, h1, h2⟩ := h
    unfold getK valV
    simp only [List.find?_cons]
    by_cases e : k' = k
    · subst e
      simp only [decide_true]
      exact .inr ⟨x, v, rfl, rfl, h1⟩
    · simp only [e, decide_false]
      exact DRs.get k h2
def putD (kvs : List (Key × PV)) (k : Key) (v : PV) : List (Key × PV) := if (getK kvs k).isSome then kvs.map fun kv => if kv.1 = k then (kv.1, v) else kv else kvs ++ [(k, v)]
theorem dct_at {ι : List Addr} {L : LH} {H : Hp} {n : Nat} {kvs : List (Key × PV)} {v : V} (w : Wd K ga ι L H) (r : VR K ga ι H (.obj n) v) (hl : L[n]? = some (.dct kvs)) : ∃ a l, v = .ref a ∧ ι[n]? = some a ∧ H a = some (.dK l) ∧ DRs K ga ι H kvs l := by
  obtain ⟨a, h1, rfl⟩ := r
  obtain ⟨ho, q1, l, rfl, q2⟩ := w.at_ n a _ h1 hl
  exact ⟨a, l, rfl, h1, q1, q2⟩
/-- a dict that is read: locked or not -/
def dctOf : LO → Option (List (Key × PV))
  | .dct kvs => some kvs
  | .fdct kvs => some kvs
  | _ => none
theorem dct_rd {ι : List Addr} {L : LH} {H : Hp} {n : Nat} {o : LO} {kvs : List (Key × PV)} {v : V} (w : Wd K ga ι L H) (r : VR K ga ι H (.obj n) v) (hl : L[n]? = some o) (hd : dctOf o = some kvs) : ∃ a l, v = .ref a ∧ ι[n]? = some a ∧ Rd H a (.dK l) ∧ DRs K ga ι H kvs l := by
  obtain ⟨a, h1, rfl⟩ := r
  obtain ⟨ho, q1, q2⟩ := w.at_ n a _ h1 hl
  cases o with
  | dct kvs' => cases hd; obtain ⟨l, rfl, q2⟩ := q2; exact ⟨a, l, rfl, h1, .inl q1, q2⟩
  | fdct kvs' => cases hd; obtain ⟨od, l, rfl, q2⟩ := q2; exact ⟨a, l, rfl, h1, .inr ⟨od, q1⟩, q2⟩
  | _ => cases hd
theorem DGet.r {H : Hp} {a : Addr} {kvs : List (Key × V)} {k : Key} (e : Rd H a (.dK kvs)) : DGet H a (kV k) (valV kvs k) := .inl ⟨kvs, k, e, rfl, rfl⟩
/-! ### in -/
def inSeq (x : PV) (ys : List PV) : Option Bool := match toV x, toVs ys with
  | some v, some vs => some (inV v vs)
  | _, _ => none
/-- x in y -/
def inB (L : LH) (x y : PV) : Option Bool := match y with
  | .tup ys => inSeq x ys
  | .rol ys => inSeq x ys
  | .obj n => match L[n]? with
    | some (.lst ys) => inSeq x ys
    | some o => match dctOf o, toK x with
      | some kvs, some k => some (getK kvs k).isSome
      | _, _ => none
    | none => none
  | .str z => match x with
    | .str ⟨⟨[c]⟩⟩ => some (decide (c ∈ z.cps.toList))
    | _ => none
  | _ => none
def inF (x y : PV) (L : LH) : R PV := match inB L x y with
  | some b => .ok (.bl b) L
  | none => .no
def ninF (x y : PV) (L : LH) : R PV := match inB L x y with
  | some b => .ok (.bl (!b)) L
  | none => .no
def rInA (K : PySem.W.Frag) (n : Bool) : R2 := fun x y H Q => rIn K n x y H Q ∨ (∃ a o, y = .ref a ∧ DGet H a x o ∧ Q (.bl (xor n o.isSome)) H) ∨ (∃ (c : Nat) (z : Str), x = .str ⟨#[c]⟩ ∧ y = .str z ∧ Q (.bl (xor n (decide (c ∈ z.cps.toList)))) H)
theorem op_inA (hu : X.A.units + 1 < cLine) : OpR X (compareOp .In) (rInA X.K false) := by
  intro pins s σ H x y v u Q I rx ry h
  rcases h with h | ⟨a, o, rfl, g, q⟩ | ⟨c, z, e1, e2, q⟩
  · exact op_in_seq pins s σ H x y v u Q I rx ry h
  · obtain rfl : u = Value.ref a := ry
    exact d_in hu I g rx fun s3 I3 => ⟨.bl o.isSome, H, I3, rfl, by simpa using q⟩
  · exact op_in_sign pins s σ H x y v u Q I rx ry ⟨c, z, e1, e2, by simpa using q⟩
theorem op_ninA (hu : X.A.units + 1 < cLine) : OpR X (compareOp .NotIn) (rInA X.K true) := by
  intro pins s σ H x y v u Q I rx ry h
  rcases h with h | ⟨a, o, rfl, g, q⟩ | ⟨c, z, e1, e2, q⟩
  · exact op_notIn_seq pins s σ H x y v u Q I rx ry h
  · obtain rfl : u = Value.ref a := ry
    exact d_notIn hu I g rx fun s3 I3 => ⟨.bl (!o.isSome), H, I3, rfl, by simpa using q⟩
  · exact op_notIn_sign pins s σ H x y v u Q I rx ry ⟨c, z, e1, e2, by simpa using q⟩
theorem inB_ok {n : Bool} {ι : List Addr} {H : Hp} {L : LH} {x y : PV} {u v : V} {b : Bool} {Q : VK} (w : Wd K ga ι L H) (rx : VR K ga ι H x u) (ry : VR K ga ι H y v) (h : inB L x y = some b) (q : Q (.bl (xor n b)) H) : rInA K n u v H Q := by
  have seq : ∀ {a : Addr} {ys : List PV} {vs : List V}, (SqL K H a vs ∨ SqT K H a vs) → VRs K ga ι H ys vs → inSeq x ys = some b → rInA K n u (.ref a) H Q := by
    intro a ys vs hs rs hb
    unfold inSeq at hb
    split at hb
    · rename_i v' us e1 e2
      cases hb
      obtain ⟨rfl, f1⟩ := toV_ok rx e1
      obtain ⟨rfl, f2⟩ := toVs_ok rs e2
      refine .inl ⟨a, vs, rfl, hs, f1, f2, ?_⟩
      cases n <;> simpa using q
    · cases hb
  unfold inB at h
  split at h
  · obtain ⟨a, ys, rfl, h1, h2⟩ := ry
    exact seq (.inr h1) h2 h
  · obtain ⟨a, ys, rfl, h1, h2⟩ := ry
    exact seq (.inl h1.sq) h2 h
  · split at h
    · rename_i hl
      obtain ⟨a, as, rfl, _, h1, h2⟩ := lst_at w ry hl
      exact seq (.inl (SqL.of h1)) h2 h
    · rename_i o _ hl
      split at h
      · rename_i kvs k hd hk
        cases h
        obtain ⟨a, l, rfl, _, h1, h2⟩ := dct_rd w ry hl hd
        obtain rfl := toK_ok rx hk
        refine .inr (.inl ⟨a, _, rfl, DGet.r h1, ?_⟩)
        rcases h2.get k with ⟨e1, e2⟩ | ⟨x', v', e1, e2, _⟩
        · rw [e2]; rw [e1] at q; exact q
        · rw [e2]; rw [e1] at q; exact q
      · cases h
    · cases h
  · split at h
    · cases h
      exact .inr (.inr ⟨_, _, rx.s, ry.s, q⟩)
    · cases h
  · cases h
theorem inL : OpL K ga inF (rInA K false) := by
  intro W ι L H σ x y u v Q w rx ry g
  unfold inF at g
  split at g
  · rename_i b hb
    exact inB_ok w rx ry hb (by simpa using g.ok w vrb)
  · exact g.elim
theorem ninL : OpL K ga ninF (rInA K true) := by
  intro W ι L H σ x y u v Q w rx ry g
  unfold ninF at g
  split at g
  · rename_i b hb
    exact inB_ok w rx ry hb (by simpa using g.ok w vrb)
  · exact g.elim
/-! ### x[i] -/
def ixF (x y : PV) (L : LH) : R PV := match x, y with
  | .tup xs, .int i => (match atI xs i with
    | some v => .ok v L
    | none => .no)
  | .rol xs, .int i => (match atI xs i with
    | some v => .ok v L
    | none => .no)
  | .str z, .int i => if z.length ≤ sizeLine then (match atI z.cps.toList i with
    | some c => .ok (.str ⟨#[c]⟩) L
    | none => .no) else .no
  | .obj n, y => (match L[n]? with
    | some (.lst xs) => (match y with
      | .int i => (match atI xs i with
        | some v => .ok v L
        | none => .no)
      | _ => .no)
    | some o => (match dctOf o, toK y with
      | some kvs, some k => (match getK kvs k with
        | some v => .ok v L
        | none => .no)
      | _, _ => .no)
    | none => .no)
  | _, _ => .no
def rIxA (K : PySem.W.Frag) : R2 := fun x y H Q => rIx K x y H Q ∨ ∃ a v, x = .ref a ∧ DGet H a y (some v) ∧ Q v H
theorem VRs.atI {ι : List Addr} {H : Hp} {xs : List PV} {vs : List V} {i : Int} {x : PV} (r : VRs K ga ι H xs vs) (h : L2.atI xs i = some x) : ∃ v, L2.atI vs i = some v ∧ VR K ga ι H x v := by
  unfold L2.atI at h ⊢
  rw [← r.len]
  cases e : ixN xs.length i with
  | none => rw [e] at h; cases h
  | some j => rw [e] at h; exact r.get h
end
end FL
/-! FLI: subscripts, slices, stores, methods of lists and dicts. -/
namespace FL
open PySem PySem.Spec PyProof.Rows L2
theorem PE.or {X : Cx} {e : Expr} {t t' : TE} (h : PE X e t) (h' : PE X e t') : PE X e (fun σ H Q => t σ H Q ∨ t' σ H Q) := ⟨fun pins s σ H Q I z => z.elim (h.run pins s σ H Q I) (h'.run pins s σ H Q I)⟩
theorem PS.or {X : Cx} {e : Stmt} {t t' : TS} (h : PS X e t) (h' : PS X e t') : PS X e (fun D σ H => t D σ H ∨ t' D σ H) := ⟨fun pins s σ H D I z => z.elim (h.run pins s σ H D I) (h'.run pins s σ H D I)⟩
/-- nothing raised is told -/
def mX (m : ME) : ME := fun τ L => (m τ L).noex
theorem fe_w0 {Z : Zs} {X : Cx} {W W' : WX} {e : Expr} {m : ME} (h : FE Z X W e m) : FE Z X W' e (mX m) := PE.imp h fun σ H Q ⟨ι, L, τ, w, s, g⟩ => by
  refine ⟨ι, L, τ, w, s, ?_⟩
  unfold mX at g
  cases hm : m τ L with
  | ok x L' => rw [hm] at g; exact g
  | ex => rw [hm] at g; exact g.elim
  | no => rw [hm] at g; exact g.elim
section
variable {X : Cx} {Z : Zs} {W : WX} {e o a b i : Expr} {ma mb mo mi me : ME} {pos cpos apos : Pos} {es : List Expr} {mr : MA} {K : PySem.W.Frag} {ga : Ga}
/-! ### x[i] -/
def isDct (x : PV) (L : LH) : Bool := match x with
  | .obj n => match L[n]? with
    | some o => (dctOf o).isSome
    | none => false
  | _ => false
theorem isDct_at {ι : List Addr} {L : LH} {H : Hp} {x : PV} {v : V} (w : Wd K ga ι L H) (r : VR K ga ι H x v) (h : isDct x L = true) : ∃ n o kvs a l, x = .obj n ∧ L[n]? = some o ∧ dctOf o = some kvs ∧ v = .ref a ∧ ι[n]? = some a ∧ Rd H a (.dK l) ∧ DRs K ga ι H kvs l := by
  unfold isDct at h
  split at h
  · split at h
    · rename_i n o hl
      obtain ⟨kvs, hk⟩ := Option.isSome_iff_exists.mp h
      obtain ⟨a, l, h1, h2, h3, h4⟩ := dct_rd w r hl hk
      exact ⟨_, o, kvs, a, l, rfl, hl, hk, h1, h2, h3, h4⟩
    · cases h
  · cases h
theorem ixSeqL {ι : List Addr} {L : LH} {H : Hp} {x y : PV} {u v : V} {σ : L2.St} {Q : VK} (w : Wd K ga ι L H) (rx : VR K ga ι H x u) (ry : VR K ga ι H y v) (hd : isDct x L = false) (g : gd K ga W (VR K ga) (ixF x y L) ι H σ fun _ _ _ z H' => Q z H') : rIx K u v H Q := by
  unfold ixF at g
  split at g
  · rename_i xs i
    split at g
    · rename_i z hz
      obtain ⟨a, ys, rfl, h1, h2⟩ := rx
      obtain ⟨z', e1, e2⟩ := h2.atI hz
      exact .inr (.inl ⟨a, ys, i, z', rfl, ry.i, h1, e1, g.ok w e2⟩)
    · exact g.elim
  · rename_i xs i
    split at g
    · rename_i z hz
      obtain ⟨a, ys, rfl, h1, h2⟩ := rx
      obtain ⟨z', e1, e2⟩ := h2.atI hz
      exact .inl ⟨a, ys, i, z', rfl, ry.i, h1.sq, e1, g.ok w e2⟩
    · exact g.elim
  · split at g
    · rename_i hl
      split at g
      · rename_i c hc
        exact .inr (.inr ⟨_, _, c, rx.s, ry.i, hl, hc, g.ok w vrs⟩)
      · exact g.elim
    · exact g.elim
  · split at g
    · rename_i hl
      split at g
      · split at g
        · rename_i z hz
          obtain ⟨a, ys, rfl, _, h1, h2⟩ := lst_at w rx hl
          obtain ⟨z', e1, e2⟩ := h2.atI hz
          exact .inl ⟨a, ys, _, z', rfl, ry.i, SqL.of h1, e1, g.ok w e2⟩
        · exact g.elim
      · exact g.elim
    · rename_i o hnl hl
      split at g
      · rename_i kvs k hd1 hk
        unfold isDct at hd
        simp only [hl, hd1] at hd
        cases hd
      · exact g.elim
    · exact g.elim
  · exact g.elim
theorem fe_ix (hu : X.A.units + 1 < cLine) (ha : FE Z X W a ma) (hb : FE Z X W b mb) (hs : PlainIx b) : FE Z X W (.Subscript a b pos) (eOp ixF ma mb) :=
  PE.imp (PE.or (pe_ix ix_seq ha hb hs) (pe_dget hu ha hb hs)) fun σ H Q ⟨ι, L, τ, w, s, g⟩ => by
    cases hD : (match ma τ L with | .ok x L1 => (match mb τ L1 with | .ok _ L2 => isDct x L2 | _ => false) | _ => false) with
    | false =>
      refine .inl ⟨ι, L, τ, w, s, gd.bind g fun x L1 ι1 u H1 e1 ext1 w1 r1 g1 => ⟨ι1, L1, τ, w1, s.up ext1, gd.bind g1 fun y L2 ι2 v H2 e2 ext2 w2 r2 g2 => ?_⟩⟩
      rw [e1] at hD; simp only [e2] at hD
      exact ixSeqL w2 (r1.up ext2) r2 hD g2
    | true =>
      refine .inr ⟨ι, L, τ, w, s, gd.bind g fun x L1 ι1 u H1 e1 ext1 w1 r1 g1 => ⟨ι1, L1, τ, w1, s.up ext1, gd.bind g1 fun y L2 ι2 v H2 e2 ext2 w2 r2 g2 => ?_⟩⟩
      rw [e1] at hD; simp only [e2] at hD
      obtain ⟨n, o, kvs, a, l, rfl, hl, hk, rfl, hn, h3, h4⟩ := isDct_at w2 (r1.up ext2) hD
      unfold ixF at g2
      cases o with
      | dct kvs' =>
        simp only [hl, dctOf] at g2
        cases hk
        cases hy : toK y with
        | none => rw [hy] at g2; exact g2.elim
        | some k =>
          rw [hy] at g2
          obtain rfl := toK_ok r2 hy
          rcases h4.get k with ⟨q1, q2⟩ | ⟨z, z', q1, q2, q3⟩
          · simp only [q1] at g2; exact g2.elim
          · simp only [q1] at g2
            exact ⟨a, z', rfl, by rw [← q2]; exact DGet.r h3, g2.ok w2 q3⟩
      | fdct kvs' =>
        simp only [hl, dctOf] at g2
        cases hk
        cases hy : toK y with
        | none => rw [hy] at g2; exact g2.elim
        | some k =>
          rw [hy] at g2
          obtain rfl := toK_ok r2 hy
          rcases h4.get k with ⟨q1, q2⟩ | ⟨z, z', q1, q2, q3⟩
          · simp only [q1] at g2; exact g2.elim
          · simp only [q1] at g2
            exact ⟨a, z', rfl, by rw [← q2]; exact DGet.r h3, g2.ok w2 q3⟩
      | _ => cases hk
/-! ### slices -/
abbrev MO := Sl → LH → R (Option Int)
abbrev FO (Z : Zs) (X : Cx) (W : WX) (e : Option Expr) (m : MO) : Prop := PO X e (tM X.K Z W (fun _ _ (a b : Option Int) => a = b) m)
theorem PO.imp {X : Cx} {e : Option Expr} {t t' : TO} (h : PO X e t) (q : ∀ σ H Q, t' σ H Q → t σ H Q) : PO X e t' := ⟨fun pins s σ H Q I z => h.run pins s σ H Q I (q _ _ _ z)⟩
def oN : MO := fun _ L => .ok none L
def oS (m : ME) : MO := fun τ L => (m τ L).bind fun x L1 => match x with
  | .int i => .ok (some i) L1
  | _ => .no
theorem fo_none : FO Z X W none oN := PO.imp po_none fun σ H Q ⟨ι, L, τ, w, s, g⟩ => g.ok w rfl
theorem fo_some (h : FE Z X W e me) : FO Z X W (some e) (oS me) := PO.imp (po_some h) fun σ H Q h => tM.bind h fun τ x L1 ι1 u H1 w1 s1 r1 g1 => by
  cases x with
  | int i => exact ⟨i, r1.i, g1.ok w1 rfl⟩
  | _ => exact g1.elim
def cut {α : Type} (xs : List α) (lo hi : Option Int) : List α := (xs.drop (HT.sIx xs.length 0 lo)).take (HT.sIx xs.length xs.length hi - HT.sIx xs.length 0 lo)
theorem VRs.cut {ι : List Addr} {H : Hp} {xs : List PV} {vs : List V} (r : VRs K ga ι H xs vs) (lo hi : Option Int) : VRs K ga ι H (FL.cut xs lo hi) (cutV vs lo hi) := by
  unfold FL.cut cutV
  rw [← r.len]
  exact (r.drop _).take _
def slF (x : PV) (lo hi : Option Int) (L : LH) : R PV := match x with
  | .tup xs => .ok (.tup (cut xs lo hi)) L
  | .rol xs => .ok (.obj L.length) (L ++ [.lst (cut xs lo hi)])
  | .str z => if z.length ≤ sizeLine then .ok (.str (cutS z lo hi)) L else .no
  | .obj n => (match L[n]? with
    | some (.lst xs) => .ok (.obj L.length) (L ++ [.lst (cut xs lo hi)])
    | _ => .no)
  | _ => .no
def eSl (mo : ME) (ml mh : MO) : ME := fun τ L => (mo τ L).bind fun x L1 => (ml τ L1).bind fun lo L2 => (mh τ L2).bind fun hi L3 => slF x lo hi L3
theorem fe_sl {lo hi : Option Expr} {ml mh : MO} {p2 : Pos} (he : FE Z X W e me) (hl : FO Z X W lo ml) (hh : FO Z X W hi mh) : FE Z X W (.Subscript e (.Slice lo hi none p2) pos) (eSl me ml mh) :=
  PE.imp (pe_slice (sl_list.or (sl_tupA.or sl_str)) he hl hh) fun σ H Q h => tM.bind h fun τ x L1 ι1 u H1 w1 s1 r1 g1 => ⟨ι1, L1, τ, w1, s1, gd.bind g1 fun l L2 ι2 l' H2 _ e2 w2 el g2 => ⟨ι2, L2, τ, w2, s1.up e2, gd.bind g2 fun h L3 ι3 h' H3 _ e3 w3 eh g3 => by
    cases el; cases eh
    have r3 := (r1.up e2).up e3
    cases x with
    | tup xs =>
      obtain ⟨a, ys, rfl, h1, h2⟩ := r3
      refine .inr (.inl ⟨a, ys, rfl, h1, fun hw => ?_, fun _ p hp => new_tup w3 (h2.cut l h) g3 hp⟩)
      have ec : cut xs l h = xs := by
        unfold cut
        rw [← h2.len] at hw
        rw [hw.1, hw.2, List.drop_zero, Nat.sub_zero, List.take_length]
      unfold slF at g3
      dsimp only at g3
      rw [ec] at g3
      exact g3.ok w3 ⟨a, ys, rfl, h1, h2⟩
    | str z =>
      unfold slF at g3
      dsimp only at g3
      split at g3
      · rename_i hz
        exact .inr (.inr ⟨z, r3.s, hz, g3.ok w3 vrs⟩)
      · exact g3.elim
    | rol xs =>
      obtain ⟨a, ys, rfl, h1, h2⟩ := r3
      exact .inl ⟨a, ys, rfl, h1.sq, fun p hp => new_lst w3 (h2.cut l h) g3 hp⟩
    | obj n =>
      unfold slF at g3
      dsimp only at g3
      split at g3
      · rename_i hln
        obtain ⟨a, ys, rfl, _, h1, h2⟩ := lst_at w3 r3 hln
        exact .inl ⟨a, ys, rfl, SqL.of h1, fun p hp => new_lst w3 (h2.cut l h) g3 hp⟩
      · exact g3.elim
    | _ => exact g3.elim⟩⟩
/-! ### o[i] = v -/
def setL (o i v : PV) (L : LH) : Option LH := match o with
  | .obj n => (match L[n]? with
    | some (.lst xs) => (match i with
      | .int k => (match ixN xs.length k with
        | some j => some (L.set n (.lst (xs.set j v)))
        | none => none)
      | _ => none)
    | some (.dct kvs) => (match toK i with
      | some k => if kvs.length < sizeLine then some (L.set n (.dct (putD kvs k v))) else none
      | none => none)
    | _ => none)
  | _ => none
def gSb (mo mi : ME) : MG := fun x τ L => (mo τ L).bind0 fun o L1 => (mi τ L1).bind0 fun i L2 => match setL o i x L2 with
  | some L3 => .ok τ L3
  | none => .no
def rSetA : V → V → V → Hp → (Hp → Prop) → Prop := fun o i v H Q => rSetL o i v H Q ∨ ∃ a H', o = .ref a ∧ DPut H a i v H' ∧ Q H'
theorem set_A (hu : X.A.units + 1 < cLine) : PSet X rSetA := by
  intro pins s σ H o i v ov iv u Q I ro ri rv h
  rcases h with h | ⟨a, H', rfl, g, q⟩
  · exact set_list pins s σ H o i v ov iv u Q I ro ri rv h
  · obtain rfl : ov = Value.ref a := ro
    exact d_setItem hu I g ri rv fun s4 I4 => ⟨H', I4, q⟩
theorem DRs.len {ι : List Addr} {H : Hp} : ∀ {kvs : List (Key × PV)} {l : List (Key × V)}, DRs K ga ι H kvs l → kvs.length = l.length
  | [], _, h => by cases (show _ = [] from h); rfl
  | x :: xs, _, h => by obtain ⟨v, r, rfl, _, h2⟩ := h; simp [DRs.len h2]
theorem DRs.app {ι : List Addr} {H : Hp} {k : Key} {x : PV} {v : V} (hx : VR K ga ι H x v) : ∀ {kvs : List (Key × PV)} {l : List (Key × V)}, DRs K ga ι H kvs l → DRs K ga ι H (kvs ++ [(k, x)]) (l ++ [(k, v)])
  | [], _, h => by cases (show _ = [] from h); exact ⟨v, [], rfl, hx, rfl⟩
  | y :: xs, _, h => by obtain ⟨u, r, rfl, h1, h2⟩ := h; exact ⟨u, _, rfl, h1, DRs.app hx h2⟩
theorem DRs.put1 {ι : List Addr} {H : Hp} {k : Key} {x : PV} {v : V} (hx : VR K ga ι H x v) : ∀ {kvs : List (Key × PV)} {l : List (Key × V)}, DRs K ga ι H kvs l → DRs K ga ι H (kvs.map fun kv => if kv.1 = k then (kv.1, x) else kv) (l.map fun kv => if kv.1 = k then (kv.1, v) else kv)
  | [], _, h => by cases (show _ = [] from h); rfl
  | y :: xs, _, h => by
    obtain ⟨u, r, rfl, h1, h2⟩ := h
    by_cases e : y.1 = k
    · refine ⟨v, r.map fun kv => if kv.1 = k then (kv.1, v) else kv, ?_, ?_, ?_⟩
      · simp [e]
      · simp only [List.map_cons, e, if_true]; exact hx
      · exact DRs.put1 hx h2
    · refine ⟨u, r.map fun kv => if kv.1 = k then (kv.1, v) else kv, ?_, ?_, ?_⟩
      · simp [e]
      · simp only [e, if_false]; exact h1
      · exact DRs.put1 hx h2
theorem DRs.put {ι : List Addr} {H : Hp} {k : Key} {x : PV} {v : V} (hx : VR K ga ι H x v) {kvs : List (Key × PV)} {l : List (Key × V)} (h : DRs K ga ι H kvs l) : DRs K ga ι H (putD kvs k x) (putK l k v) := by
  unfold putD putK
  rw [valV_any]
  rcases h.get k with ⟨q1, q2⟩ | ⟨z, z', q1, q2, q3⟩
  · rw [q1, q2]; exact h.app hx
  · rw [q1, q2]; exact h.put1 hx
theorem setL_ok {ι : List Addr} {L L' : LH} {H : Hp} {o i x : PV} {ov iv v : V} (w : Wd K ga ι L H) (ro : VR K ga ι H o ov) (ri : VR K ga ι H i iv) (rv : VR K ga ι H x v) (h : setL o i x L = some L') {Q : Hp → Prop}
    (q : ∀ H', Ext K ι H ι H' → Wd K ga ι L' H' → Q H') : rSetA ov iv v H Q := by
  unfold setL at h
  split at h
  · rename_i n
    split at h
    · rename_i xs hl
      split at h
      · rename_i k
        split at h
        · rename_i j hj
          cases h
          obtain ⟨a, ys, rfl, hn, h1, h2⟩ := lst_at w ro hl
          have e := Ext.set (K := K) (o := .lst (ys.set j v)) hn h1 True.intro
          exact .inl ⟨a, ys, k, j, rfl, ri.i, h1, by rw [← h2.len]; exact hj, q _ e (w.set hn h1 True.intro ⟨_, rfl, (h2.up e).set (rv.up e) j⟩)⟩
        · cases h
      · cases h
    · rename_i kvs hl
      split at h
      · rename_i k hk
        split at h
        · rename_i hz
          cases h
          obtain ⟨a, l, rfl, hn, h1, h2⟩ := dct_at w ro hl
          obtain rfl := toK_ok ri hk
          have e := Ext.set (K := K) (o := .dK (putK l k v)) hn h1 True.intro
          exact .inr ⟨a, _, rfl, DPut.k h1 (by rw [← h2.len]; exact hz), q _ e (w.set hn h1 True.intro ⟨_, rfl, DRs.put (rv.up e) (h2.up e)⟩)⟩
        · cases h
      · cases h
    · cases h
  · cases h
theorem fg_sub (hu : X.A.units + 1 < cLine) (ho : FE Z X W o mo) (hi : FE Z X W i mi) (ha : ∀ v, assign (.Subscript o i pos) X.env v = (do
      let ov ← holding [v] (eval o X.env)
      let iv ← holding [v, ov] (eval i X.env)
      standAt pos
      holding [v, ov, iv] (setItem ov iv v)
      release [v, ov, iv] []) := by intro _; rfl) : FG Z X (.Subscript o i pos) (gSb mo mi) :=
  PG.imp (pg_sub ho hi (set_A hu) ha) fun v σ H Q ⟨ι, L, τ, x, w, s, r, g⟩ => by
    unfold gSb at g
    refine ⟨ι, L, τ, w, s, ?_⟩
    cases h1 : mo τ L with
    | ex => rw [h1] at g; exact g.elim
    | no => rw [h1] at g; exact g.elim
    | ok ox L1 =>
      rw [h1] at g
      have g : gd X.K Z.f W0 (relS X.K Z) ((mi τ L1).bind0 fun i L2 => match setL ox i x L2 with | some L3 => .ok τ L3 | none => .no) ι H σ fun _ _ _ σ' H' => Q σ' H' := g
      intro ι1 H1 ov e1 w1 r1
      refine ⟨ι1, L1, τ, w1, s.up e1, ?_⟩
      cases h2 : mi τ L1 with
      | ex => rw [h2] at g; exact g.elim
      | no => rw [h2] at g; exact g.elim
      | ok ix L2 =>
        rw [h2] at g
        have g : gd X.K Z.f W0 (relS X.K Z) (match setL ox ix x L2 with | some L3 => .ok τ L3 | none => .no) ι H σ fun _ _ _ σ' H' => Q σ' H' := g
        intro ι2 H2 iv e2 w2 r2
        cases h3 : setL ox ix x L2 with
        | none => rw [h3] at g; exact g.elim
        | some L3 =>
          rw [h3] at g
          have e12 := e1.trans e2
          exact setL_ok w2 (r1.up e2) r2 (r.up e12) h3 fun H3 e3 w3 => g ι2 H3 σ (e12.trans e3) w3 (s.up (e12.trans e3))
/-! ### methods of built-in types -/
def MtL (K : PySem.W.Frag) (ga : Ga) (f : PV → List PV → LH → R PV) (r : V → List V → Hp → VK → Prop) : Prop := ∀ W ι L H σ x u xs us Q, Wd K ga ι L H → VR K ga ι H x u → VRs K ga ι H xs us → gd K ga W (VR K ga) (f x xs L) ι H σ (fun _ _ _ z H' => Q z H') → r u us H Q
def TyL (K : PySem.W.Frag) (ga : Ga) (p : PV → LH → Bool) (T : String) : Prop := ∀ ι L H x u, Wd K ga ι L H → VR K ga ι H x u → p x L = true → tyV K T u H
def isLst (x : PV) (L : LH) : Bool := match x with
  | .obj n => match L[n]? with
    | some (.lst _) => true
    | _ => false
  | _ => false
def isStr (x : PV) (_ : LH) : Bool := match x with
  | .str _ => true
  | _ => false
def isDc (x : PV) (L : LH) : Bool := match x with
  | .obj n => match L[n]? with
    | some (.dct _) => true
    | _ => false
  | _ => false
theorem ty_lst : TyL K ga isLst "list" := by
  intro ι L H x u w r h
  unfold isLst at h
  split at h
  · split at h
    · rename_i hl
      obtain ⟨a, ys, rfl, _, h1, _⟩ := lst_at w r hl
      exact .inl ⟨rfl, _, SqL.of h1⟩
    · cases h
  · cases h
theorem ty_str : TyL K ga isStr "str" := by
  intro ι L H x u w r h
  unfold isStr at h
  split at h
  · rw [r.s]; rfl
  · cases h
theorem ty_dc : TyL K ga isDc "dict" := by
  intro ι L H x u w r h
  unfold isDc at h
  split at h
  · split at h
    · rename_i hl
      obtain ⟨a, ys, rfl, _, h1, _⟩ := dct_at w r hl
      exact .inr (.inr (.inl ⟨rfl, .inl ⟨_, h1⟩⟩))
    · cases h
  · cases h
def eBm (p : PV → LH → Bool) (f : PV → List PV → LH → R PV) (mo : ME) (ma : MA) : ME := fun τ L => (mo τ L).bind fun x L1 => if p x L1 = true then (ma τ L1).bind fun xs L2 => f x xs L2 else .no
theorem fe_bm {T id : String} {name : Str} {f : PV → List PV → LH → R PV} {r : V → List V → Hp → VK → Prop} {p : PV → LH → Bool} (pa : PlainAttrs T) (slot : Slot T name id) (hty : typeOf (.builtin id) = pure (.type "method_descriptor")) (hm : MtR X id r) (hf : MtL X.K Z.f f r) (hp : TyL X.K Z.f p T) (ho : FE Z X W o mo) (ha : FA Z X W (e :: es) mr)
    (hbase : attributeBase o name X.env (eval o X.env) = eval o X.env := by rfl)
    (hfew : ((backTo cpos (starEach (e :: es) X.env)).all (fun x => !x.1) && (backToKw cpos (keywordEach [] X.env)).all (fun x => x.1.isSome)
      && decide ((e :: es).length + ([] : List Keyword).length + (if ([] : List Keyword).isEmpty then 0 else 1) < 30)) = true := by rfl)
    (hline : (apos.endLine == cpos.line) = true := by rfl) (hs : starEach (e :: es) X.env = (false, eval e X.env) :: starEach es X.env := by rfl) (hplain : (backTo cpos (starEach es X.env)).any (·.1) = false := by rfl) :
    FE Z X W (.Call (.Attribute o name apos) (e :: es) [] cpos) (eBm p f mo mr) :=
  PE.imp (pe_bm pa slot hty hm ho ha hbase hfew hline hs hplain) fun σ H Q h => tM.bind h fun τ x L1 ι1 u H1 w1 s1 r1 g1 => by
    split at g1
    · rename_i hq
      exact ⟨hp _ _ _ _ _ w1 r1 hq, ι1, L1, τ, w1, s1, gd.bind g1 fun xs L2 ι2 us H2 _ e2 w2 r2 g2 => hf W ι2 L2 H2 σ x u xs us Q w2 (r1.up e2) r2 g2⟩
    · exact g1.elim
theorem fe_bm0 {T id : String} {name : Str} {f : PV → List PV → LH → R PV} {r : V → List V → Hp → VK → Prop} {p : PV → LH → Bool} (pa : PlainAttrs T) (slot : Slot T name id) (hty : typeOf (.builtin id) = pure (.type "method_descriptor")) (hm : MtR X id r) (hf : MtL X.K Z.f f r) (hp : TyL X.K Z.f p T) (ho : FE Z X W o mo)
    (hbase : attributeBase o name X.env (eval o X.env) = eval o X.env := by rfl) (hline : (apos.endLine == cpos.line) = true := by rfl) :
    FE Z X W (.Call (.Attribute o name apos) [] [] cpos) (eBm p f mo aN) :=
  PE.imp (pe_bm0 pa slot hty hm ho hbase hline) fun σ H Q h => tM.bind h fun τ x L1 ι1 u H1 w1 s1 r1 g1 => by
    split at g1
    · rename_i hq
      exact ⟨hp _ _ _ _ _ w1 r1 hq, hf W ι1 L1 H1 σ x u [] [] Q w1 r1 rfl g1⟩
    · exact g1.elim
def appendF (x : PV) (xs : List PV) (L : LH) : R PV := match x, xs with
  | .obj n, [y] => (match L[n]? with
    | some (.lst ys) => if ys.length < sizeLine then .ok .non (L.set n (.lst (ys ++ [y]))) else .no
    | _ => .no)
  | _, _ => .no
theorem appendL : MtL K ga appendF rAppend := by
  intro W ι L H σ x u xs us Q w rx rs g
  unfold appendF at g
  split at g
  · rename_i n y
    split at g
    · rename_i ys hl
      split at g
      · rename_i hz
        obtain ⟨a, vs, rfl, hn, h1, h2⟩ := lst_at w rx hl
        obtain ⟨yv, r, rfl, ry, hr⟩ := rs
        cases (show r = [] from hr)
        have e := Ext.set (K := K) (o := .lst (vs ++ [yv])) hn h1 True.intro
        exact ⟨a, vs, yv, rfl, rfl, h1, by rw [← h2.len]; exact hz, g.ok' e (w.set hn h1 True.intro ⟨_, rfl, (h2.up e).app ⟨yv, [], rfl, ry.up e, rfl⟩⟩) vrn⟩
      · exact g.elim
    · exact g.elim
  · exact g.elim
def extendF (x : PV) (xs : List PV) (L : LH) : R PV := match x, xs with
  | .obj n, [.obj m] => (match L[n]?, L[m]? with
    | some (.lst ys), some (.lst zs) => if ys.length + zs.length ≤ sizeLine then .ok .non (L.set n (.lst (ys ++ zs))) else .no
    | _, _ => .no)
  | _, _ => .no
theorem extendLL : MtL K ga extendF rExtend := by
  intro W ι L H σ x u xs us Q w rx rs g
  unfold extendF at g
  split at g
  · rename_i n m
    split at g
    · rename_i ys zs hl hm
      split at g
      · rename_i hz
        obtain ⟨a, vs, rfl, hn, h1, h2⟩ := lst_at w rx hl
        obtain ⟨yv, r, rfl, ry, hr⟩ := rs
        cases (show r = [] from hr)
        obtain ⟨b, ws, rfl, _, h3, h4⟩ := lst_at w ry hm
        have e := Ext.set (K := K) (o := .lst (vs ++ ws)) hn h1 True.intro
        exact ⟨a, b, vs, ws, rfl, rfl, h1, h3, by rw [← h2.len, ← h4.len]; exact hz, g.ok' e (w.set hn h1 True.intro ⟨_, rfl, (h2.up e).app (h4.up e)⟩) vrn⟩
      · exact g.elim
    · exact g.elim
  · exact g.elim
def clearF (x : PV) (xs : List PV) (L : LH) : R PV := match x, xs with
  | .obj n, [] => (match L[n]? with
    | some (.lst _) => .ok .non (L.set n (.lst []))
    | _ => .no)
  | _, _ => .no
theorem clearLL : MtL K ga clearF rClear := by
  intro W ι L H σ x u xs us Q w rx rs g
  unfold clearF at g
  split at g
  · rename_i n
    split at g
    · rename_i ys hl
      obtain ⟨a, vs, rfl, hn, h1, h2⟩ := lst_at w rx hl
      cases (show us = [] from rs)
      have e := Ext.set (K := K) (o := .lst []) hn h1 True.intro
      exact ⟨a, vs, rfl, rfl, h1, g.ok' e (w.set hn h1 True.intro ⟨_, rfl, rfl⟩) vrn⟩
    · exact g.elim
  · exact g.elim
def popF (x : PV) (xs : List PV) (L : LH) : R PV := match x, xs with
  | .obj n, [] => (match L[n]? with
    | some (.lst ys) => (match ys[ys.length - 1]? with
      | some y => .ok y (L.set n (.lst ys.dropLast))
      | none => .no)
    | _ => .no)
  | _, _ => .no
theorem VRs.dropLast {ι : List Addr} {H : Hp} {xs : List PV} {vs : List V} (r : VRs K ga ι H xs vs) : VRs K ga ι H xs.dropLast vs.dropLast := by
  rw [List.dropLast_eq_take, List.dropLast_eq_take, ← r.len]
  exact r.take _
theorem popLL : MtL K ga popF rPop := by
  intro W ι L H σ x u xs us Q w rx rs g
  unfold popF at g
  split at g
  · rename_i n
    split at g
    · rename_i ys hl
      split at g
      · rename_i y hy
        obtain ⟨a, vs, rfl, hn, h1, h2⟩ := lst_at w rx hl
        cases (show us = [] from rs)
        obtain ⟨v, q1, q2⟩ := h2.get hy
        have e := Ext.set (K := K) (o := .lst vs.dropLast) hn h1 True.intro
        exact ⟨a, vs, v, rfl, rfl, h1, by rw [← h2.len]; exact q1, g.ok' e (w.set hn h1 True.intro ⟨_, rfl, (h2.up e).dropLast⟩) (q2.up e)⟩
      · exact g.elim
    · exact g.elim
  · exact g.elim
/-! ### d.get(k), d.get(k, x) -/
def getF (x y z : PV) (L : LH) : R PV := match x with
  | .obj n => (match L[n]? with
    | some o => (match dctOf o, toK y with
      | some kvs, some k => .ok ((getK kvs k).getD z) L
      | _, _ => .no)
    | none => .no)
  | _ => .no
def eGet (mo me mz : ME) : ME := fun τ L => (mo τ L).bind fun x L1 => if isDct x L1 = true then (me τ L1).bind fun y L2 => (mz τ L2).bind fun z L3 => getF x y z L3 else .no
theorem isD_of {H : Hp} {a : Addr} {l : List (Key × V)} (h : Rd H a (.dK l)) : IsD H a := .inl ⟨l, h⟩
theorem getF_ok {ι : List Addr} {L : LH} {H : Hp} {x y z : PV} {u v zv : V} {σ : L2.St} {Q : VK} (w : Wd K ga ι L H) (rx : VR K ga ι H x u) (ry : VR K ga ι H y v) (rz : VR K ga ι H z zv) (g : gd K ga W (VR K ga) (getF x y z L) ι H σ fun _ _ _ z H' => Q z H') :
    ∃ a o, u = .ref a ∧ DGet H a v o ∧ Q (o.getD zv) H := by
  unfold getF at g
  split at g
  · split at g
    · rename_i hl
      split at g
      · rename_i hd hk
        obtain ⟨a, l, rfl, _, h1, h2⟩ := dct_rd w rx hl hd
        obtain rfl := toK_ok ry hk
        refine ⟨a, _, rfl, DGet.r h1, ?_⟩
        rcases h2.get _ with ⟨q1, q2⟩ | ⟨z', z'', q1, q2, q3⟩
        · rw [q2]; rw [q1] at g; exact g.ok w rz
        · rw [q2]; rw [q1] at g; exact g.ok w q3
      · exact g.elim
    · exact g.elim
  · exact g.elim
theorem fe_get2 {f : Expr} {mz : ME} (hu : X.A.units + 1 < cLine) (ho : FE Z X W o mo) (he : FE Z X W e me) (hf : FE Z X W f mz) (m : M2 X o "get" apos e f cpos) : FE Z X W (.Call (.Attribute o "get" apos) [e, f] [] cpos) (eGet mo me mz) :=
  PE.imp (pe_dget2 hu ho he hf m) fun σ H Q h => tM.bind h fun τ x L1 ι1 u H1 w1 s1 r1 g1 => by
    split at g1
    · rename_i hd
      obtain ⟨n, o, kvs, a, l, rfl, hl, hk, rfl, hn, h3, h4⟩ := isDct_at w1 r1 hd
      refine ⟨a, rfl, isD_of h3, ι1, L1, τ, w1, s1, gd.bind g1 fun y L2 ι2 v H2 _ e2 w2 r2 g2 => ⟨ι2, L2, τ, w2, s1.up e2, gd.bind g2 fun z L3 ι3 zv H3 _ e3 w3 r3 g3 => ?_⟩⟩
      obtain ⟨a', o', e, q1, q2⟩ := getF_ok w3 ((r1.up e2).up e3) (r2.up e3) r3 g3
      cases e
      exact ⟨o', q1, q2⟩
    · exact g1.elim
theorem fe_get1 (hu : X.A.units + 1 < cLine) (ho : FE Z X W o mo) (he : FE Z X W e me) (m : M1 X o "get" apos e cpos) : FE Z X W (.Call (.Attribute o "get" apos) [e] [] cpos) (eGet mo me (eC .non)) :=
  PE.imp (pe_dget1 hu ho he m) fun σ H Q h => tM.bind h fun τ x L1 ι1 u H1 w1 s1 r1 g1 => by
    split at g1
    · rename_i hd
      obtain ⟨n, o, kvs, a, l, rfl, hl, hk, rfl, hn, h3, h4⟩ := isDct_at w1 r1 hd
      refine ⟨a, rfl, isD_of h3, ι1, L1, τ, w1, s1, gd.bind g1 fun y L2 ι2 v H2 _ e2 w2 r2 g2 => ?_⟩
      obtain ⟨a', o', e, q1, q2⟩ := getF_ok (z := .non) (zv := .non) w2 (r1.up e2) r2 vrn g2
      cases e
      exact ⟨o', q1, q2⟩
    · exact g1.elim
end
end FL
/-! FLJ: built-in functions. -/
namespace FL
open PySem PySem.Spec PyProof.Rows L2
def CqL (K : PySem.W.Frag) (ga : Ga) (rel : List Addr → Hp → List PV → V → Prop) (f : List PV → LH → R PV) (r : List V → Hp → VK → Prop) : Prop := ∀ W ι L H σ xs u Q, Wd K ga ι L H → rel ι H xs u → gd K ga W (VR K ga) (f xs L) ι H σ (fun _ _ _ z H' => Q z H') → r [u] H Q
/-- a list to be read -/
def relL (K : PySem.W.Frag) (ga : Ga) : List Addr → Hp → List PV → V → Prop := fun ι H xs v => ∃ a ys, v = .ref a ∧ SqL K H a ys ∧ VRs K ga ι H xs ys
abbrev FL' (Z : Zs) (X : Cx) (W : WX) (e : Expr) (m : MV) : Prop := PE X e (tM X.K Z W (relL X.K Z.f) m)
def itemsL (x : PV) (L : LH) : R (List PV) := match x with
  | .rol xs => .ok xs L
  | .obj n => match L[n]? with
    | some (.lst xs) => .ok xs L
    | _ => .no
  | _ => .no
def qL (m : ME) : MV := fun τ L => (m τ L).bind fun x L1 => itemsL x L1
def eQ (f : List PV → LH → R PV) (m : MV) : ME := fun τ L => (m τ L).bind fun xs L1 => f xs L1
section
variable {X : Cx} {Z : Zs} {W : WX} {e o a b c : Expr} {ma mb me : ME} {mv : MV} {pos p : Pos} {es : List Expr} {mr : MA} {K : PySem.W.Frag} {ga : Ga} {x : Str} {id T : String} {r : List V → Hp → VK → Prop} {f : List PV → LH → R PV}
theorem fl_ofV (h : FV Z X W e mv) : FL' Z X W e mv := PE.imp h fun σ H Q ⟨ι, L, τ, w, s, g⟩ => by
  refine ⟨ι, L, τ, w, s, ?_⟩
  cases hq : mv τ L with
  | ok xs L1 =>
    rw [hq] at g
    intro ι1 H1 a ys e w1 n ni ha r z
    exact g ι1 H1 (.ref a) e w1 ⟨a, ys, rfl, SqL.of ha, r⟩
  | ex c fs L1 => rw [hq] at g; exact g
  | no => rw [hq] at g; exact g
theorem fl_ofE (h : FE Z X W e me) : FL' Z X W e (qL me) := PE.imp h fun σ H Q h => tM.bind h fun τ x L1 ι1 u H1 w1 s1 r1 g1 => by
  cases x with
  | rol xs => obtain ⟨a, ys, rfl, h1, h2⟩ := r1; exact g1.ok w1 ⟨a, ys, rfl, h1.sq, h2⟩
  | obj n =>
    cases hl : L1[n]? with
    | none => simp only [itemsL, hl] at g1; exact g1.elim
    | some o =>
      cases o with
      | lst xs =>
        simp only [itemsL, hl] at g1
        obtain ⟨a, ys, rfl, _, h1, h2⟩ := lst_at w1 r1 hl
        exact g1.ok w1 ⟨a, ys, rfl, SqL.of h1, h2⟩
      | _ => simp only [itemsL, hl] at g1; exact g1.elim
  | _ => exact g1.elim
/-! ### calls by the name of a built-in -/
theorem fe_B (hc : CallR X (.builtin id) r) (hf : CaL X.K Z.f f r) (hg : Gl X x) (hm : X.mg x = none) (hv : bootBuiltins x = some (.builtin id)) (ha : FA Z X W (e :: es) mr) (hn : x ≠ "__name__" := by decide) (hdb : (x == ("__debug__" : Str)) = false := by decide)
    (he : starEach (e :: es) X.env = (false, eval e X.env) :: starEach es X.env := by rfl) (hpl : (backTo pos (starEach es X.env)).any (·.1) = false := by rfl) : FE Z X W (.Call (.Name x p) (e :: es) [] pos) (eF f mr) :=
  PE.imp (pe_callB hc hg hm hv ha hn hdb he hpl) fun σ H Q h => tM.bind h fun τ xs L1 ι1 us H1 w1 s1 r1 g1 => hf W ι1 L1 H1 σ xs us Q w1 r1 g1
theorem fe_T (hc : CallR X (.type T) r) (hf : CaL X.K Z.f f r) (hg : Gl X x) (hm : X.mg x = none) (hv : bootBuiltins x = some (.type T)) (ha : FA Z X W (e :: es) mr) (hn : x ≠ "__name__" := by decide) (hdb : (x == ("__debug__" : Str)) = false := by decide)
    (he : starEach (e :: es) X.env = (false, eval e X.env) :: starEach es X.env := by rfl) (hpl : (backTo pos (starEach es X.env)).any (·.1) = false := by rfl) : FE Z X W (.Call (.Name x p) (e :: es) [] pos) (eF f mr) :=
  PE.imp (pe_callTy hc hg hm hv ha hn hdb he hpl) fun σ H Q h => tM.bind h fun τ xs L1 ι1 us H1 w1 s1 r1 g1 => hf W ι1 L1 H1 σ xs us Q w1 r1 g1
variable {rel : List Addr → Hp → List PV → V → Prop}
theorem fe_Bq (hc : CallR X (.builtin id) r) (hf : CqL X.K Z.f rel f r) (hg : Gl X x) (hm : X.mg x = none) (hv : bootBuiltins x = some (.builtin id)) (ha : PE X e (tM X.K Z W rel mv)) (hn : x ≠ "__name__" := by decide) (hdb : (x == ("__debug__" : Str)) = false := by decide)
    (hs : starEach [e] X.env = (false, eval e X.env) :: starEach [] X.env := by rfl) (hpl : (backTo pos (starEach [] X.env)).any (·.1) = false := by rfl) : FE Z X W (.Call (.Name x p) [e] [] pos) (eQ f mv) :=
  PE.imp (pe_callB hc hg hm hv (pa_cons ha pa_nil hs) hn hdb hs hpl) fun σ H Q h => tM.bind h fun τ xs L1 ι1 u H1 w1 s1 r1 g1 => hf W ι1 L1 H1 σ xs u Q w1 r1 g1
theorem fe_Tq (hc : CallR X (.type T) r) (hf : CqL X.K Z.f rel f r) (hg : Gl X x) (hm : X.mg x = none) (hv : bootBuiltins x = some (.type T)) (ha : PE X e (tM X.K Z W rel mv)) (hn : x ≠ "__name__" := by decide) (hdb : (x == ("__debug__" : Str)) = false := by decide)
    (hs : starEach [e] X.env = (false, eval e X.env) :: starEach [] X.env := by rfl) (hpl : (backTo pos (starEach [] X.env)).any (·.1) = false := by rfl) : FE Z X W (.Call (.Name x p) [e] [] pos) (eQ f mv) :=
  PE.imp (pe_callTy hc hg hm hv (pa_cons ha pa_nil hs) hn hdb hs hpl) fun σ H Q h => tM.bind h fun τ xs L1 ι1 u H1 w1 s1 r1 g1 => hf W ι1 L1 H1 σ xs u Q w1 r1 g1
/-- a built-in class by its name -/
theorem fe_ty {n : String} (hg : Gl X x) (hm : X.mg x = none) (hv : bootBuiltins x = some (.type n)) (hn : x ≠ "__name__" := by decide) (hd : (x == ("__debug__" : Str)) = false := by decide) : FE Z X W (.Name x pos) (eC (.ty n)) := fe_c (pe_bltn (v := .ty n) hg hm hv rfl hn hd) fun _ _ => by simp [VR]
/-- a def or a class of the module by its name -/
theorem fe_glo (hg : Gl X x) (hm : X.mg x = some (.ref (Z.f x))) (hd : (x == ("__debug__" : Str)) = false := by decide) : FE Z X W (.Name x pos) (eC (.glo x)) := fe_c (pe_glob (v := .ref (Z.f x)) hg hm rfl hd) fun _ _ => by simp [VR]
/-- a constant of the module -/
theorem fe_gi {i : Int} {t : Tok} (hg : Gl X x) (hm : X.mg x = some (.int i t)) (hd : (x == ("__debug__" : Str)) = false := by decide) : FE Z X W (.Name x pos) (eC (.int i)) := fe_c (pe_glob (v := .int i) hg hm ⟨t, rfl⟩ hd) fun _ _ => by simp [VR]
theorem fe_gs {i : Str} {t : Tok} (hg : Gl X x) (hm : X.mg x = some (.str i t)) (hd : (x == ("__debug__" : Str)) = false := by decide) : FE Z X W (.Name x pos) (eC (.str i)) := fe_c (pe_glob (v := .str i) hg hm ⟨t, rfl⟩ hd) fun _ _ => by simp [VR]
/-- a written tuple of the module -/
theorem fe_gt {xs : List PV} {a : Addr} {vs : List V} (hg : Gl X x) (hm : X.mg x = some (.ref a)) (hT : ∀ H, SqT X.K H a vs) (hx : ∀ ι H, VRs X.K Z.f ι H xs vs) (hd : (x == ("__debug__" : Str)) = false := by decide) : FE Z X W (.Name x pos) (eC (.tup xs)) :=
  fe_c (pe_glob (v := .ref a) hg hm rfl hd) fun ι H => ⟨a, vs, rfl, hT H, hx ι H⟩
/-! ### bools -/
def toBs : List PV → Option (List Bool)
  | [] => some []
  | .bl b :: xs => (toBs xs).map (b :: ·)
  | _ => none
theorem toBs_ok {ι : List Addr} {H : Hp} : ∀ {xs : List PV} {vs : List V} {bs : List Bool}, VRs K ga ι H xs vs → toBs xs = some bs → vs = bs.map V.bl
  | [], _, _, r, e => by cases (show _ = [] from r); simp [toBs] at e; subst e; rfl
  | x :: xs, _, bs, r, e => by
    obtain ⟨y, ys, rfl, r1, r2⟩ := r
    cases x with
    | bl b =>
      simp only [toBs] at e
      cases q : toBs xs with
      | none => rw [q] at e; cases e
      | some bs' => rw [q] at e; cases e; rw [toBs_ok r2 q, r1.b]; rfl
    | _ => simp [toBs] at e
def allF (xs : List PV) (L : LH) : R PV := match toBs xs with
  | some bs => .ok (.bl (bs.all fun b => b)) L
  | none => .no
def anyF (xs : List PV) (L : LH) : R PV := match toBs xs with
  | some bs => .ok (.bl (bs.any fun b => b)) L
  | none => .no
theorem allL : CqL K ga (relL K ga) allF (rAll K) := by
  intro W ι L H σ xs u Q w ⟨a, ys, e, h1, h2⟩ g
  unfold allF at g
  split at g
  · rename_i bs hb
    obtain rfl := toBs_ok h2 hb
    exact ⟨a, bs, by rw [e], h1, g.ok w vrb⟩
  · exact g.elim
theorem anyLL : CqL K ga (relL K ga) anyF (rAny K) := by
  intro W ι L H σ xs u Q w ⟨a, ys, e, h1, h2⟩ g
  unfold anyF at g
  split at g
  · rename_i bs hb
    obtain rfl := toBs_ok h2 hb
    exact ⟨a, bs, by rw [e], h1, g.ok w vrb⟩
  · exact g.elim
/-! ### ints -/
def toIs : List PV → Option (List Int)
  | [] => some []
  | .int b :: xs => (toIs xs).map (b :: ·)
  | _ => none
theorem toIs_ok {ι : List Addr} {H : Hp} : ∀ {xs : List PV} {vs : List V} {bs : List Int}, VRs K ga ι H xs vs → toIs xs = some bs → vs = bs.map V.int
  | [], _, _, r, e => by cases (show _ = [] from r); simp [toIs] at e; subst e; rfl
  | x :: xs, _, bs, r, e => by
    obtain ⟨y, ys, rfl, r1, r2⟩ := r
    cases x with
    | int b =>
      simp only [toIs] at e
      cases q : toIs xs with
      | none => rw [q] at e; cases e
      | some bs' => rw [q] at e; cases e; rw [toIs_ok r2 q, r1.i]; rfl
    | _ => simp [toIs] at e
def sumF (xs : List PV) (L : LH) : R PV := match toIs xs with
  | some ns => .ok (.int ns.sum) L
  | none => .no
def rSumA (K : PySem.W.Frag) : List V → Hp → VK → Prop := fun vs H Q => rSum K vs H Q ∨ rSumT K vs H Q
theorem cr_sumA (hc : X.calm = true) : CallR X (.builtin "sum") (rSumA X.K) := (cr_sum hc).or (cr_sumT hc)
theorem sumLL : CqL K ga (relQ K ga) sumF (rSumA K) := by
  intro W ι L H σ xs u Q w ⟨a, ys, e, h1, h2⟩ g
  unfold sumF at g
  split at g
  · rename_i ns hb
    obtain rfl := toIs_ok h2 hb
    rcases h1 with h1 | h1
    · exact .inl ⟨a, ns, by rw [e], h1, g.ok w vri⟩
    · exact .inr ⟨a, ns, by rw [e], h1, g.ok w vri⟩
  · exact g.elim
def maxN : List Int → Int
  | [] => 0
  | x :: xs => xs.foldl max x
def minN : List Int → Int
  | [] => 0
  | x :: xs => xs.foldl min x
theorem foldl_maxN (xs : List Int) : ∀ x : Int, x ≤ xs.foldl max x ∧ (∀ y ∈ xs, y ≤ xs.foldl max x) ∧ (xs.foldl max x = x ∨ xs.foldl max x ∈ xs) := by
  induction xs with
  | nil => intro x; exact ⟨Int.le_refl _, (fun y hy => by cases hy), Or.inl rfl⟩
  | cons a xs ih =>
    intro x
    obtain ⟨h1, h2, h3⟩ := ih (max x a)
    rw [List.foldl_cons]
    refine ⟨by omega, fun y hy => ?_, ?_⟩
    · rcases List.mem_cons.mp hy with rfl | hy
      · omega
      · exact h2 y hy
    · rcases h3 with h3 | h3
      · by_cases hx : a ≤ x
        · exact .inl (by omega)
        · exact .inr (by rw [h3, show max x a = a by omega]; exact List.mem_cons_self)
      · exact .inr (List.mem_cons_of_mem _ h3)
theorem foldl_minN (xs : List Int) : ∀ x : Int, xs.foldl min x ≤ x ∧ (∀ y ∈ xs, xs.foldl min x ≤ y) ∧ (xs.foldl min x = x ∨ xs.foldl min x ∈ xs) := by
  induction xs with
  | nil => intro x; exact ⟨Int.le_refl _, (fun y hy => by cases hy), Or.inl rfl⟩
  | cons a xs ih =>
    intro x
    obtain ⟨h1, h2, h3⟩ := ih (min x a)
    rw [List.foldl_cons]
    refine ⟨by omega, fun y hy => ?_, ?_⟩
    · rcases List.mem_cons.mp hy with rfl | hy
      · omega
      · exact h2 y hy
    · rcases h3 with h3 | h3
      · by_cases hx : x ≤ a
        · exact .inl (by omega)
        · exact .inr (by rw [h3, show min x a = a by omega]; exact List.mem_cons_self)
      · exact .inr (List.mem_cons_of_mem _ h3)
theorem maxN_eq {ns : List Int} {m : Int} (h : m ∈ ns) (k : ∀ y ∈ ns, y ≤ m) : m = maxN ns := by
  cases ns with
  | nil => cases h
  | cons x xs =>
    obtain ⟨h1, h2, h3⟩ := foldl_maxN xs x
    show m = xs.foldl max x
    have a : m ≤ xs.foldl max x := by
      rcases List.mem_cons.mp h with rfl | h
      · exact h1
      · exact h2 _ h
    have b : xs.foldl max x ≤ m := by
      rcases h3 with h3 | h3
      · rw [h3]; exact k _ List.mem_cons_self
      · exact k _ (List.mem_cons_of_mem _ h3)
    omega
theorem minN_eq {ns : List Int} {m : Int} (h : m ∈ ns) (k : ∀ y ∈ ns, m ≤ y) : m = minN ns := by
  cases ns with
  | nil => cases h
  | cons x xs =>
    obtain ⟨h1, h2, h3⟩ := foldl_minN xs x
    show m = xs.foldl min x
    have a : xs.foldl min x ≤ m := by
      rcases List.mem_cons.mp h with rfl | h
      · exact h1
      · exact h2 _ h
    have b : m ≤ xs.foldl min x := by
      rcases h3 with h3 | h3
      · rw [h3]; exact k _ List.mem_cons_self
      · exact k _ (List.mem_cons_of_mem _ h3)
    omega
def maxF (xs : List PV) (L : LH) : R PV := match toIs xs with
  | some ns => if 0 < ns.length then .ok (.int (maxN ns)) L else .no
  | none => .no
def minF (xs : List PV) (L : LH) : R PV := match toIs xs with
  | some ns => if 0 < ns.length then .ok (.int (minN ns)) L else .no
  | none => .no
theorem maxLL : CqL K ga (relL K ga) maxF (rMax K) := by
  intro W ι L H σ xs u Q w ⟨a, ys, e, h1, h2⟩ g
  unfold maxF at g
  split at g
  · rename_i ns hb
    split at g
    · rename_i hz
      obtain rfl := toIs_ok h2 hb
      exact ⟨a, ns, by rw [e], h1, hz, fun m hm hk => by rw [maxN_eq hm hk]; exact g.ok w vri⟩
    · exact g.elim
  · exact g.elim
theorem minLL : CqL K ga (relL K ga) minF (rMin K) := by
  intro W ι L H σ xs u Q w ⟨a, ys, e, h1, h2⟩ g
  unfold minF at g
  split at g
  · rename_i ns hb
    split at g
    · rename_i hz
      obtain rfl := toIs_ok h2 hb
      exact ⟨a, ns, by rw [e], h1, hz, fun m hm hk => by rw [minN_eq hm hk]; exact g.ok w vri⟩
    · exact g.elim
  · exact g.elim
def max2F (xs : List PV) (L : LH) : R PV := match xs with
  | [.int i, .int j] => .ok (.int (if j > i then j else i)) L
  | _ => .no
def min2F (xs : List PV) (L : LH) : R PV := match xs with
  | [.int i, .int j] => .ok (.int (if j < i then j else i)) L
  | _ => .no
theorem VRs.two {ι : List Addr} {H : Hp} {x y : PV} {us : List V} (r : VRs K ga ι H [x, y] us) : ∃ u v, us = [u, v] ∧ VR K ga ι H x u ∧ VR K ga ι H y v := by
  obtain ⟨u, r, rfl, r1, v, r', rfl, r2, r3⟩ := r
  cases (show r' = [] from r3)
  exact ⟨u, v, rfl, r1, r2⟩
theorem VRs.one {ι : List Addr} {H : Hp} {x : PV} {us : List V} (r : VRs K ga ι H [x] us) : ∃ u, us = [u] ∧ VR K ga ι H x u := by
  obtain ⟨u, r, rfl, r1, r3⟩ := r
  cases (show r = [] from r3)
  exact ⟨u, rfl, r1⟩
theorem max2L : CaL K ga max2F (fun xs H Q => ∃ i j, xs = [.int i, .int j] ∧ Q (.int (if j > i then j else i)) H) := by
  intro W ι L H σ xs us Q w r g
  unfold max2F at g
  split at g
  · obtain ⟨u, v, rfl, r1, r2⟩ := r.two
    exact ⟨_, _, by rw [r1.i, r2.i], g.ok w vri⟩
  · exact g.elim
theorem min2L : CaL K ga min2F (fun xs H Q => ∃ i j, xs = [.int i, .int j] ∧ Q (.int (if j < i then j else i)) H) := by
  intro W ι L H σ xs us Q w r g
  unfold min2F at g
  split at g
  · obtain ⟨u, v, rfl, r1, r2⟩ := r.two
    exact ⟨_, _, by rw [r1.i, r2.i], g.ok w vri⟩
  · exact g.elim
def intF (xs : List PV) (L : LH) : R PV := match xs with
  | [.int i] => .ok (.int i) L
  | [.bl k] => .ok (.int (if k then 1 else 0)) L
  | _ => .no
theorem intL : CaL K ga intF (fun xs H Q => (∃ i, xs = [.int i] ∧ Q (.int i) H) ∨ ∃ k, xs = [.bl k] ∧ Q (.int (if k then 1 else 0)) H) := by
  intro W ι L H σ xs us Q w r g
  unfold intF at g
  split at g
  · obtain ⟨u, rfl, r1⟩ := r.one
    exact .inl ⟨_, by rw [r1.i], g.ok w vri⟩
  · obtain ⟨u, rfl, r1⟩ := r.one
    exact .inr ⟨_, by rw [r1.b], g.ok w vri⟩
  · exact g.elim
/-! ### len -/
def lenF (xs : List PV) (L : LH) : R PV := match xs with
  | [.str z] => if z.length ≤ sizeLine then .ok (.int z.length) L else .no
  | [.tup ys] => .ok (.int ys.length) L
  | [.rol ys] => .ok (.int ys.length) L
  | [.obj n] => (match L[n]? with
    | some (.lst ys) => .ok (.int ys.length) L
    | some (.dct kvs) => .ok (.int kvs.length) L
    | _ => .no)
  | _ => .no
def rLenA (K : PySem.W.Frag) : List V → Hp → VK → Prop := fun xs H Q => (∃ x n, xs = [x] ∧ LenV K x H n ∧ Q (.int n) H) ∨ ∃ a kvs, xs = [V.ref a] ∧ H a = some (.dK kvs) ∧ Q (.int kvs.length) H
theorem cr_lenA : CallR X (.builtin "len") (rLenA X.K) := call_len.or call_lenD
theorem lenL : CaL K ga lenF (rLenA K) := by
  intro W ι L H σ xs us Q w r g
  unfold lenF at g
  split at g
  · obtain ⟨u, rfl, r1⟩ := r.one
    split at g
    · rename_i hz
      exact .inl ⟨_, _, rfl, by rw [r1.s]; exact ⟨hz, rfl⟩, g.ok w vri⟩
    · exact g.elim
  · obtain ⟨u, rfl, r1⟩ := r.one
    obtain ⟨a, ys, rfl, h1, h2⟩ := r1
    exact .inl ⟨_, _, rfl, .inr ⟨_, h1, rfl⟩, by rw [← h2.len]; exact g.ok w vri⟩
  · obtain ⟨u, rfl, r1⟩ := r.one
    obtain ⟨a, ys, rfl, h1, h2⟩ := r1
    exact .inl ⟨_, _, rfl, .inl ⟨_, h1.sq, rfl⟩, by rw [← h2.len]; exact g.ok w vri⟩
  · obtain ⟨u, rfl, r1⟩ := r.one
    split at g
    · rename_i hl
      obtain ⟨a, ys, rfl, _, h1, h2⟩ := lst_at w r1 hl
      exact .inl ⟨_, _, rfl, .inl ⟨_, SqL.of h1, rfl⟩, by rw [← h2.len]; exact g.ok w vri⟩
    · rename_i hl
      obtain ⟨a, l, rfl, _, h1, h2⟩ := dct_at w r1 hl
      exact .inr ⟨a, l, rfl, h1, by rw [← h2.len]; exact g.ok w vri⟩
    · exact g.elim
  · exact g.elim
/-! ### tuple, list -/
def tupleF (xs : List PV) (L : LH) : R PV := .ok (.tup xs) L
def listF (xs : List PV) (L : LH) : R PV := .ok (.obj L.length) (L ++ [.lst xs])
theorem tupleL : CqL K ga (relQ K ga) tupleF (fun xs H Q => ∃ p ys, xs = [.ref p] ∧ ((SqL K H p ys ∧ ∀ l, H l = none → Q (.ref l) (upd H l (.tup ys))) ∨ (SqT K H p ys ∧ Q (.ref p) H))) := by
  intro W ι L H σ xs u Q w ⟨a, ys, e, h1, h2⟩ g
  refine ⟨a, ys, by rw [e], ?_⟩
  rcases h1 with h1 | h1
  · exact .inl ⟨h1, fun l hl => new_tup w h2 g hl⟩
  · exact .inr ⟨h1, g.ok w ⟨a, ys, rfl, h1, h2⟩⟩
theorem listL : CqL K ga (relQ K ga) listF (fun xs H Q => ∃ p ys, xs = [.ref p] ∧ (SqL K H p ys ∨ SqT K H p ys) ∧ ∀ l, H l = none → Q (.ref l) (upd H l (.lst ys))) := by
  intro W ι L H σ xs u Q w ⟨a, ys, e, h1, h2⟩ g
  exact ⟨a, ys, by rw [e], h1, fun l hl => new_lst w h2 g hl⟩
/-! ### repr -/
def reprF (xs : List PV) (L : LH) : R PV := match xs with
  | [x] => (match dat L 60 x with
    | some d => if d.showable = true ∧ d.hasDict = false ∧ d.depth ≤ 60 ∧ d.shown.length ≤ sizeLine then .ok (.str d.shown) L else .no
    | none => .no)
  | _ => .no
theorem reprL : CaL K ga reprF (rRepr K) := by
  intro W ι L H σ xs us Q w r g
  unfold reprF at g
  split at g
  · obtain ⟨u, rfl, r1⟩ := r.one
    split at g
    · rename_i d hd
      split at g
      · rename_i hz
        exact ⟨u, d, rfl, dat_ok w _ _ _ _ r1 hd, hz.1, hz.2.1, hz.2.2.1, hz.2.2.2, g.ok w vrs⟩
      · exact g.elim
    · exact g.elim
  · exact g.elim
end
end FL
/-! FLK: truth, chains, isinstance, what is walked. -/
namespace FL
open PySem PySem.Spec PyProof.Rows L2
section
variable {X : Cx} {Z : Zs} {W : WX} {e o a b c : Expr} {ma mb mc me mo : ME} {mv : MV} {pos p : Pos} {es : List Expr} {mr : MA} {tc : MT} {K : PySem.W.Frag} {ga : Ga} {x : Str}
/-! ### truth -/
def truP (x : PV) (L : LH) : Option Bool := match x with
  | .non => some false
  | .bl b => some b
  | .int i => some (i != 0)
  | .str z => if z.length ≤ sizeLine then some ((z.length : Int) != 0) else none
  | .tup xs => some (!xs.isEmpty)
  | .rol xs => some (!xs.isEmpty)
  | .obj n => match L[n]? with
    | some (.lst xs) => some (!xs.isEmpty)
    | some (.dct kvs) => some (!kvs.isEmpty)
    | _ => none
  | _ => none
theorem VRs.emp {ι : List Addr} {H : Hp} {xs : List PV} {vs : List V} (r : VRs K ga ι H xs vs) : xs.isEmpty = vs.isEmpty := by
  cases xs with
  | nil => cases (show vs = [] from r); rfl
  | cons x xs => obtain ⟨_, _, rfl, _⟩ := r; rfl
theorem truP_ok {ι : List Addr} {L : LH} {H : Hp} {x : PV} {v : V} {k : Bool} (w : Wd K ga ι L H) (r : VR K ga ι H x v) (h : truP x L = some k) : TruV K v H k := by
  unfold truP at h
  split at h
  · cases h; rw [r.n]; rfl
  · cases h; rw [r.b]; rfl
  · cases h; rw [r.i]; rfl
  · split at h
    · rename_i hz
      cases h; rw [r.s]; exact ⟨hz, rfl⟩
    · cases h
  · cases h
    obtain ⟨a, ys, rfl, h1, h2⟩ := r
    exact .inr (.inl ⟨ys, h1, by rw [h2.emp]⟩)
  · cases h
    obtain ⟨a, ys, rfl, h1, h2⟩ := r
    exact .inl ⟨ys, h1.sq, by rw [h2.emp]⟩
  · split at h
    · rename_i hl
      cases h
      obtain ⟨a, ys, rfl, _, h1, h2⟩ := lst_at w r hl
      exact .inl ⟨ys, SqL.of h1, by rw [h2.emp]⟩
    · rename_i kvs hl
      cases h
      obtain ⟨a, l, rfl, _, h1, h2⟩ := dct_at w r hl
      refine .inr (.inr ⟨l, h1, ?_⟩)
      cases kvs with
      | nil => cases (show l = [] from h2); rfl
      | cons x xs => obtain ⟨_, _, rfl, _⟩ := h2; rfl
    · cases h
  · cases h
def tru (m : ME) : MT := fun τ L => (m τ L).bind fun x L1 => match truP x L1 with
  | some k => .ok k L1
  | none => .no
theorem ft_tru (ha : FE Z X W a ma) (he : ∀ whole, isTrue a X.env whole = (do let v ← whole; standAt a.pos; holding [v] (truthy v)) := by intro _; rfl) : FT Z X W a (tru ma) :=
  PT.imp (pt_truth ha he) fun σ H Q h => tM.bind h fun τ x L1 ι1 u H1 w1 s1 r1 g1 => by
    cases hq : truP x L1 with
    | none => rw [hq] at g1; exact g1.elim
    | some k => rw [hq] at g1; exact ⟨k, truP_ok w1 r1 hq, g1.ok w1 rfl⟩
def eOr (ma mb : ME) : ME := fun τ L => (ma τ L).bind fun x L1 => match truP x L1 with
  | some k => if k = true then .ok x L1 else mb τ L1
  | none => .no
def eAnd (ma mb : ME) : ME := fun τ L => (ma τ L).bind fun x L1 => match truP x L1 with
  | some k => if k = true then mb τ L1 else .ok x L1
  | none => .no
def eNot (ma : ME) : ME := fun τ L => (ma τ L).bind fun x L1 => match truP x L1 with
  | some k => .ok (.bl (!k)) L1
  | none => .no
theorem fe_or {rest : List Expr} (ha : FE Z X W a ma) (hb : FE Z X W (.BoolOp .Or (b :: rest) pos) mb) : FE Z X W (.BoolOp .Or (a :: b :: rest) pos) (eOr ma mb) :=
  PE.imp (pe_orT ha hb) fun σ H Q h => tM.bind h fun τ x L1 ι1 u H1 w1 s1 r1 g1 => by
    cases hq : truP x L1 with
    | none => rw [hq] at g1; exact g1.elim
    | some k =>
      rw [hq] at g1
      refine ⟨k, truP_ok w1 r1 hq, ?_⟩
      cases k with
      | true => exact g1.ok w1 r1
      | false => exact ⟨ι1, L1, τ, w1, s1, g1⟩
theorem fe_and {rest : List Expr} (ha : FE Z X W a ma) (hb : FE Z X W (.BoolOp .And (b :: rest) pos) mb) : FE Z X W (.BoolOp .And (a :: b :: rest) pos) (eAnd ma mb) :=
  PE.imp (pe_andT ha hb) fun σ H Q h => tM.bind h fun τ x L1 ι1 u H1 w1 s1 r1 g1 => by
    cases hq : truP x L1 with
    | none => rw [hq] at g1; exact g1.elim
    | some k =>
      rw [hq] at g1
      refine ⟨k, truP_ok w1 r1 hq, ?_⟩
      cases k with
      | false => exact g1.ok w1 r1
      | true => exact ⟨ι1, L1, τ, w1, s1, g1⟩
theorem fe_not (ha : FE Z X W a ma) : FE Z X W (.UnaryOp .Not a pos) (eNot ma) :=
  PE.imp (pe_notT ha) fun σ H Q h => tM.bind h fun τ x L1 ι1 u H1 w1 s1 r1 g1 => by
    cases hq : truP x L1 with
    | none => rw [hq] at g1; exact g1.elim
    | some k => rw [hq] at g1; exact ⟨k, truP_ok w1 r1 hq, g1.ok w1 vrb⟩
/-- the last of and, or -/
theorem fe_or1 (hs : ∀ env, eval (.BoolOp .Or [a] pos) env = eval a env) (ha : FE Z X W a ma) : FE Z X W (.BoolOp .Or [a] pos) ma := ⟨fun pins s σ H Q I h => by rw [hs]; exact ha.run pins s σ H Q I h⟩
/-! ### a op b op c -/
def eCh (f g : PV → PV → LH → R PV) (ma mb mc : ME) : ME := fun τ L => (ma τ L).bind fun x L1 => (mb τ L1).bind fun y L2 => (f x y L2).bind fun z L3 => match z with
  | .bl k => if k = true then (mc τ L3).bind fun w L4 => g y w L4 else .ok (.bl false) L3
  | _ => .no
theorem fe_ch {op op' : CmpOp} {f g : PV → PV → LH → R PV} {r r' : R2} (ho : OpR X (compareOp op) r) (ho' : OpR X (compareOp op') r') (hf : OpL X.K Z.f f r) (hg : OpL X.K Z.f g r') (ha : FE Z X W a ma) (hb : FE Z X W b mb) (hc : FE Z X W c mc)
    (hm : lastMarks [op, op'] [b, c] = false := by with_unfolding_all rfl) : FE Z X W (.Compare a [op, op'] [b, c] pos) (eCh f g ma mb mc) :=
  PE.imp (pe_chain ho ho' ha hb hc hm) fun σ H Q h => tM.bind h fun τ x L1 ι1 u H1 w1 s1 r1 g1 => ⟨ι1, L1, τ, w1, s1, gd.bind g1 fun y L2 ι2 v H2 _ e2 w2 r2 g2 => by
    refine hf W ι2 L2 H2 σ x y u v _ w2 (r1.up e2) r2 (gd.bind g2 fun z L3 ι3 zv H3 _ e3 w3 r3 g3 => ?_)
    cases z with
    | bl k =>
      refine ⟨k, r3.b, ?_⟩
      cases k with
      | false => exact g3.ok w3 vrb
      | true => exact ⟨ι3, L3, τ, w3, (s1.up e2).up e3, gd.bind g3 fun w' L4 ι4 wv H4 _ e4 w4 r4 g4 => hg W ι4 L4 H4 σ y w' v wv Q w4 ((r2.up e3).up e4) r4 g4⟩
    | _ => exact g3.elim⟩
def tV1 (m : ME) : MT := fun τ L => (m τ L).bind fun x L1 => match x with
  | .bl b => .ok b L1
  | _ => .no
theorem ft_ch {op op' : CmpOp} {f g : PV → PV → LH → R PV} {r r' : R2} (ho : OpR X (compareOp op) r) (ho' : OpR X (compareOp op') r') (hf : OpL X.K Z.f f r) (hg : OpL X.K Z.f g r') (ha : FE Z X W a ma) (hb : FE Z X W b mb) (hc : FE Z X W c mc)
    (hm : lastMarks [op, op'] [b, c] = false := by with_unfolding_all rfl) : FT Z X W (.Compare a [op, op'] [b, c] pos) (tV1 (eCh f g ma mb mc)) :=
  PT.imp (pt_chain ho ho' ha hb hc hm) fun σ H Q h => by
    have h : tM X.K Z W (VR X.K Z.f) (eCh f g ma mb mc) σ H (fun v H' => ∃ b, v = .bl b ∧ Q b H') := tM.bind h fun τ x L1 ι1 u H1 w1 s1 r1 g1 => by
      cases x with
      | bl b => exact ⟨b, r1.b, g1.ok w1 rfl⟩
      | _ => exact g1.elim
    exact tM.bind h fun τ x L1 ι1 u H1 w1 s1 r1 g1 => ⟨ι1, L1, τ, w1, s1, gd.bind g1 fun y L2 ι2 v H2 _ e2 w2 r2 g2 => by
      refine hf W ι2 L2 H2 σ x y u v _ w2 (r1.up e2) r2 (gd.bind g2 fun z L3 ι3 zv H3 _ e3 w3 r3 g3 => ?_)
      cases z with
      | bl k =>
        refine ⟨k, r3.b, ?_⟩
        cases k with
        | false => exact g3.ok w3 vrb
        | true => exact ⟨ι3, L3, τ, w3, (s1.up e2).up e3, gd.bind g3 fun w' L4 ι4 wv H4 _ e4 w4 r4 g4 => hg W ι4 L4 H4 σ y w' v wv _ w4 ((r2.up e3).up e4) r4 g4⟩
      | _ => exact g3.elim⟩
/-! ### isinstance -/
inductive Tp where
  | b (n : String) | c (C : Str)
  deriving DecidableEq
def Tp.v (ga : Ga) : Tp → Value
  | .b n => .type n
  | .c C => .ref (ga C)
/-- the classes of which instances may come, and what isinstance answers -/
structure Kit (K : PySem.W.Frag) (ga : Ga) (cs : List Str) (tab : List (Tp × Tp × Bool)) : Prop where
  ins : ∀ C ∈ cs, Cls K (ga C) ∧ PySem.W.findIn K (.ref (ga C)) "__class__" = some (some (.builtin "object.__class__")) ∧ PySem.W.specialIn K (.builtin "object.__class__") "__get__" = some (some (.builtin "getset_descriptor.__get__")) ∧
    PySem.W.takesIn K (.builtin "object.__class__") = some true ∧ PySem.W.mroIn K (ga C) (.type "object") = some true
  tab : ∀ q ∈ tab, PySem.W.kitOne K (q.1.v ga) (q.2.1.v ga) = some q.2.2
def tpOf (cs : List Str) (x : PV) (L : LH) : Option Tp := match x with
  | .non => some (.b "NoneType")
  | .bl _ => some (.b "bool")
  | .int _ => some (.b "int")
  | .str _ => some (.b "str")
  | .tup _ => some (.b "tuple")
  | .rol _ => some (.b "list")
  | .obj n => match L[n]? with
    | some (.lst _) => some (.b "list")
    | some (.dct _) => some (.b "dict")
    | some (.fdct _) => some (.b "dict")
    | some (.ins C _) => if cs.contains C then some (.c C) else none
    | none => none
  | _ => none
theorem tpOf_ok {cs : List Str} {tab : List (Tp × Tp × Bool)} (k : Kit K ga cs tab) {ι : List Addr} {L : LH} {H : Hp} {x : PV} {v : V} {t : Tp} (w : Wd K ga ι L H) (r : VR K ga ι H x v) (h : tpOf cs x L = some t) : TyX K H v (t.v ga) := by
  unfold tpOf at h
  split at h
  · cases h; rw [r.n]; exact .base .non
  · cases h; rw [r.b]; exact .base (.bl _)
  · cases h; rw [r.i]; exact .base (.int _)
  · cases h; rw [r.s]; exact .base (.str _)
  · cases h
    obtain ⟨a, ys, rfl, h1, _⟩ := r
    rcases h1 with (h1 | ⟨o, h1⟩) | ⟨o, its, n, h1, hc, _⟩
    · exact .base (.tup h1)
    · exact .fTuple h1
    · exact .kTuple h1 hc
  · cases h
    obtain ⟨a, ys, rfl, h1, _⟩ := r
    rcases h1 with ⟨o, h1⟩ | ⟨o, its, n, h1, hc, _⟩
    · exact .base (.frz h1)
    · exact .kList h1 hc
  · split at h
    · rename_i hl
      cases h
      obtain ⟨a, ys, rfl, _, h1, _⟩ := lst_at w r hl
      exact .base (.lst h1)
    · rename_i hl
      cases h
      obtain ⟨a, l, rfl, _, h1, _⟩ := dct_at w r hl
      exact .base (.dK h1)
    · rename_i hl
      cases h
      obtain ⟨a, h1, rfl⟩ := r
      obtain ⟨ho, q1, od, l, rfl, q2⟩ := w.at_ _ a _ h1 hl
      exact .fDict q1
    · rename_i C fs hl
      split at h
      · rename_i hc
        cases h
        obtain ⟨a, h1, rfl⟩ := r
        obtain ⟨ho, q1, dx, l, rfl, q2⟩ := w.at_ _ a _ h1 hl
        obtain ⟨c1, c2, c3, c4, c5⟩ := k.ins C (by simpa using hc)
        exact .base (.ins q1 c1 c2 c3 c4 c5)
      · cases h
    · cases h
  · cases h
def clsOf : PV → Option Tp
  | .ty n => some (.b n)
  | .glo C => some (.c C)
  | _ => none
theorem clsOf_ok {ι : List Addr} {H : Hp} {x : PV} {v : V} {t : Tp} (r : VR K ga ι H x v) (h : clsOf x = some t) : ClsV v (t.v ga) := by
  unfold clsOf at h
  split at h
  · cases h
    rename_i n
    have e : v = .ty n := by simpa [VR] using r
    subst e; exact .ty n
  · cases h
    rename_i C
    have e : v = .ref (ga C) := by simpa [VR] using r
    subst e; exact .own _
  · cases h
def kitL (tab : List (Tp × Tp × Bool)) (t c : Tp) : Option Bool := (tab.find? fun q => decide (q.1 = t) && decide (q.2.1 = c)).map (·.2.2)
theorem kitL_ok {cs : List Str} {tab : List (Tp × Tp × Bool)} (k : Kit K ga cs tab) {t c : Tp} {b : Bool} (h : kitL tab t c = some b) : PySem.W.kitOne K (t.v ga) (c.v ga) = some b := by
  unfold kitL at h
  obtain ⟨q, h1, h2⟩ := Option.map_eq_some_iff.mp h
  have h3 := k.tab q (List.mem_of_find?_eq_some h1)
  have h4 := List.find?_some h1
  simp only [Bool.and_eq_true, decide_eq_true_eq] at h4
  rw [h4.1, h4.2, h2] at h3
  exact h3
def isiF (cs : List Str) (tab : List (Tp × Tp × Bool)) (xs : List PV) (L : LH) : R PV := match xs with
  | [x, c] => (match tpOf cs x L, clsOf c with
    | some t, some u => (match kitL tab t u with
      | some b => .ok (.bl b) L
      | none => .no)
    | _, _ => .no)
  | _ => .no
theorem isiL {cs : List Str} {tab : List (Tp × Tp × Bool)} (k : Kit K ga cs tab) : CaL K ga (isiF cs tab) (rIsi K) := by
  intro W ι L H σ xs us Q w r g
  unfold isiF at g
  split at g
  · obtain ⟨u, v, rfl, r1, r2⟩ := r.two
    split at g
    · rename_i h1 h2
      split at g
      · rename_i h3
        exact ⟨u, v, _, _, _, rfl, clsOf_ok r2 h2, tpOf_ok k w r1 h1, kitL_ok k h3, g.ok w vrb⟩
      · exact g.elim
    · exact g.elim
  · exact g.elim
/-- isinstance(x, (A, B)), the tuple written there -/
def kitAnyL (tab : List (Tp × Tp × Bool)) (t : Tp) : List Tp → Option Bool
  | [] => some false
  | c :: r => match kitL tab t c with
    | some true => some true
    | some false => kitAnyL tab t r
    | none => none
theorem kitAnyL_ok {cs : List Str} {tab : List (Tp × Tp × Bool)} (k : Kit K ga cs tab) {t : Tp} : ∀ {us : List Tp} {b : Bool}, kitAnyL tab t us = some b → PySem.W.kitAny K (t.v ga) (us.map (Tp.v ga)) = some b
  | [], b, h => by cases h; rfl
  | c :: r, b, h => by
    unfold kitAnyL at h
    unfold PySem.W.kitAny
    cases hk : kitL tab t c with
    | none => rw [hk] at h; cases h
    | some q =>
      rw [hk] at h
      rw [List.map_cons]
      dsimp only
      rw [kitL_ok k hk]
      cases q with
      | true => cases h; rfl
      | false => exact kitAnyL_ok k h
def eIsiT (cs : List Str) (tab : List (Tp × Tp × Bool)) (us : List Tp) (m : ME) : ME := fun τ L => (m τ L).bind fun x L1 => match tpOf cs x L1 with
  | some t => (match kitAnyL tab t us with
    | some b => .ok (.bl b) L1
    | none => .no)
  | none => .no
def tConst (vs : List V) : TA := fun _ H Q => Q vs H
theorem pa_const {a : Expr} {as : List Expr} {v : V} {vs : List V} (ha : PE X a (tC v)) (hr : PA X as (tConst vs)) (hs : starEach (a :: as) X.env = (false, eval a X.env) :: starEach as X.env := by rfl) : PA X (a :: as) (tConst (v :: vs)) :=
  PA.imp (pa_cons ha hr hs) fun σ H Q h => h
theorem pa_const0 : PA X [] (tConst []) := PA.imp pa_nil fun σ H Q h => h
theorem paired_cls {ga : Ga} : ∀ us : List Tp, Paired ClsV (us.map fun t => match t with | .b n => V.ty n | .c C => V.ref (ga C)) (us.map (Tp.v ga))
  | [] => .nil
  | .b n :: r => .cons (.ty n) (paired_cls r)
  | .c C :: r => .cons (.own _) (paired_cls r)
theorem fe_isiT {cs : List Str} {tab : List (Tp × Tp × Bool)} {us : List Tp} {xs : List Expr} {k1 : Nat} {tpos : Pos} (k : Kit X.K Z.f cs tab) (hg : Gl X "isinstance") (hm : X.mg "isinstance" = none) (ha : FE Z X W a ma)
    (hx : PA X xs (tConst (us.map fun t => match t with | .b n => V.ty n | .c C => V.ref (Z.f C)))) (hz : us.length ≤ sizeLine := by decide)
    (hs1 : starEach [a, .Tuple xs k1 tpos] X.env = (false, eval a X.env) :: starEach [.Tuple xs k1 tpos] X.env := by rfl) (hs2 : starEach [.Tuple xs k1 tpos] X.env = (false, eval (.Tuple xs k1 tpos) X.env) :: starEach [] X.env := by rfl) (hpl : (backTo pos (starEach [.Tuple xs k1 tpos] X.env)).any (·.1) = false := by rfl) :
    FE Z X W (.Call (.Name "isinstance" p) [a, .Tuple xs k1 tpos] [] pos) (eIsiT cs tab us ma) :=
  PE.imp (pe_callB call_isiT hg hm boot_isinstance (pa_cons ha (pa_cons (pe_tup hx) pa_nil hs2) hs1) (by decide) (by decide) hs1 hpl) fun σ H Q h => tM.bind h fun τ x L1 ι1 u H1 w1 s1 r1 g1 => by
    cases h1 : tpOf cs x L1 with
    | none => rw [h1] at g1; exact g1.elim
    | some t =>
      rw [h1] at g1
      dsimp only at g1
      cases h2 : kitAnyL tab t us with
      | none => rw [h2] at g1; exact g1.elim
      | some b =>
        rw [h2] at g1
        refine ⟨by rw [List.length_map]; exact hz, fun q hq => ?_⟩
        have e := Ext.new (K := X.K) (ι := ι1) (o := .tup (us.map fun t => match t with | .b n => V.ty n | .c C => V.ref (Z.f C))) hq
        have w2 := w1.new (o := .tup (us.map fun t => match t with | .b n => V.ty n | .c C => V.ref (Z.f C))) hq
        exact ⟨u, q, _, t.v Z.f, us.map (Tp.v Z.f), b, rfl, upd_same, paired_cls us, tpOf_ok k w2 (r1.up e) h1, kitAnyL_ok k h2, g1.ok' e w2 vrb⟩
/-! ### what is walked -/
theorem walks_list {a : Addr} {n : Nat} {ι : List Addr} {H : Hp} (hn : ι[n]? = some a) : Walks K ga ι H (.at_ n) (Itl K a) := by
  intro ι2 L2 H2 e w i
  have hn2 : ι2[n]? = some a := by
    obtain ⟨⟨δ, rfl, _⟩, _⟩ := e
    rw [List.getElem?_append_left (List.getElem?_eq_some_iff.mp hn).1]
    exact hn
  have rd : VR K ga ι2 H2 (.obj n) (.ref a) := ⟨a, hn2, rfl⟩
  unfold Src.get
  dsimp only
  cases hl : L2[n]? with
  | none => exact ⟨fun h => (nomatch h), fun x h => (nomatch h)⟩
  | some o =>
    cases o with
    | lst xs =>
      obtain ⟨a', ys, e1, _, h1, h2⟩ := lst_at w rd hl
      cases e1
      refine ⟨fun h => ⟨ys, SqL.of h1, ?_⟩, fun x h => ?_⟩
      · have h' : xs[i]? = none := by simpa using h
        rw [← h2.len]; exact List.getElem?_eq_none_iff.mp h'
      · have h' : xs[i]? = some x := by simpa using h
        obtain ⟨v, q1, q2⟩ := h2.get h'
        refine ⟨⟨ys, v, SqL.of h1, q1⟩, fun u H3 hy => ?_⟩
        obtain ⟨rfl, hy⟩ := hy
        have z := hy ys (SqL.of h1)
        rw [q1] at z; cases z
        exact ⟨Ext.refl, w, q2⟩
    | _ => exact ⟨fun h => (nomatch h), fun x h => (nomatch h)⟩
theorem walks_rol {a : Addr} {xs : List PV} {ys : List V} {ι : List Addr} {H : Hp} (h1 : RoL K H a ys) (h2 : VRs K ga ι H xs ys) : Walks K ga ι H (.vals xs) (Itl K a) := by
  intro ι2 L2 H2 e w i
  have h1' := (e.ro _ _ h1).sq
  have h2' := h2.up e
  refine ⟨fun h => ⟨ys, h1', ?_⟩, fun x h => ?_⟩
  · have h' : xs[i]? = none := by simpa [Src.get] using h
    rw [← h2.len]; exact List.getElem?_eq_none_iff.mp h'
  · have h' : xs[i]? = some x := by simpa [Src.get] using h
    obtain ⟨v, q1, q2⟩ := h2'.get h'
    refine ⟨⟨ys, v, h1', q1⟩, fun u H3 hy => ?_⟩
    obtain ⟨rfl, hy⟩ := hy
    have z := hy ys h1'
    rw [q1] at z; cases z
    exact ⟨Ext.refl, w, q2⟩
theorem walks_tup {a : Addr} {xs : List PV} {ys : List V} {ι : List Addr} {H : Hp} (h1 : SqT K H a ys) (h2 : VRs K ga ι H xs ys) : Walks K ga ι H (.vals xs) (Itt K a) := by
  intro ι2 L2 H2 e w i
  have h1' := e.tp _ _ h1
  have h2' := h2.up e
  refine ⟨fun h => ⟨ys, h1', ?_⟩, fun x h => ?_⟩
  · have h' : xs[i]? = none := by simpa [Src.get] using h
    rw [← h2.len]; exact List.getElem?_eq_none_iff.mp h'
  · have h' : xs[i]? = some x := by simpa [Src.get] using h
    obtain ⟨v, q1, q2⟩ := h2'.get h'
    refine ⟨⟨ys, v, h1', q1⟩, fun u H3 hy => ?_⟩
    obtain ⟨rfl, hy⟩ := hy
    have z := hy ys h1'
    rw [q1] at z; cases z
    exact ⟨Ext.refl, w, q2⟩
/-- a new list that nobody else has -/
theorem walks_new {a : Addr} {xs : List PV} {ys : List V} {ι : List Addr} {H : Hp} (h1 : H a = some (.lst ys)) (n1 : a ∉ ι) (h2 : VRs K ga ι H xs ys) : Walks K ga ι H (.vals xs) (Itl K a) := by
  intro ι2 L2 H2 e w i
  have h1' : SqL K H2 a ys := SqL.of (e.keep h1 n1).1
  have h2' := h2.up e
  refine ⟨fun h => ⟨ys, h1', ?_⟩, fun x h => ?_⟩
  · have h' : xs[i]? = none := by simpa [Src.get] using h
    rw [← h2.len]; exact List.getElem?_eq_none_iff.mp h'
  · have h' : xs[i]? = some x := by simpa [Src.get] using h
    obtain ⟨v, q1, q2⟩ := h2'.get h'
    refine ⟨⟨ys, v, h1', q1⟩, fun u H3 hy => ?_⟩
    obtain ⟨rfl, hy⟩ := hy
    have z := hy ys h1'
    rw [q1] at z; cases z
    exact ⟨Ext.refl, w, q2⟩
theorem walks_rng {lo : Int} {n : Nat} {ι : List Addr} {H : Hp} : Walks K ga ι H (.vals ((List.range n).map fun k => .int (lo + (k : Nat)))) (Itr lo n) := by
  intro ι2 L2 H2 e w i
  refine ⟨fun h => ?_, fun x h => ?_⟩
  · have h' : ((List.range n).map fun k => PV.int (lo + (k : Nat)))[i]? = none := by simpa [Src.get] using h
    have z := List.getElem?_eq_none_iff.mp h'
    rw [List.length_map, List.length_range] at z
    exact z
  · have h' : ((List.range n).map fun k => PV.int (lo + (k : Nat)))[i]? = some x := by simpa [Src.get] using h
    obtain ⟨hl, hx⟩ := List.getElem?_eq_some_iff.mp h'
    have hi : i < n := by simpa using hl
    refine ⟨hi, fun u H3 hy => ?_⟩
    obtain ⟨rfl, rfl⟩ := hy
    refine ⟨Ext.refl, w, ?_⟩
    have e2 : x = .int (lo + (i : Nat)) := by rw [← hx]; simp
    rw [e2]; exact vri
theorem PI.imp {tg : Expr} {t t' : TI} (h : PI X tg e t) (q : ∀ σ H R, t' σ H R → t σ H R) : PI X tg e t' := ⟨fun pins s σ H R I z => h.run pins s σ H R I (q _ _ _ z)⟩
theorem PI.or {tg : Expr} {t t' : TI} (h : PI X tg e t) (h' : PI X tg e t') : PI X tg e (fun σ H R => t σ H R ∨ t' σ H R) := ⟨fun pins s σ H R I z => z.elim (h.run pins s σ H R I) (h'.run pins s σ H R I)⟩
/-- a list or a tuple, as a value -/
def iE (m : ME) : MI := fun τ L => (m τ L).bind fun x L1 => match x with
  | .tup xs => .ok (.vals xs) L1
  | .rol xs => .ok (.vals xs) L1
  | .obj n => (match L1[n]? with
    | some (.lst _) => .ok (.at_ n) L1
    | _ => .no)
  | _ => .no
theorem fi_e {tg : Expr} (h : FE Z X W e me) : FI Z X W tg e (iE me) := PI.imp (PI.or (pi_list h) (pi_tup h)) fun σ H Rr ⟨ι, L, τ, w, s, g⟩ => by
  cases hD : (match me τ L with | .ok (.tup _) _ => true | _ => false) with
  | true =>
    refine .inr ⟨ι, L, τ, w, s, gd.bind g fun x L1 ι1 u H1 e1 ext1 w1 r1 g1 => ?_⟩
    rw [e1] at hD
    cases x with
    | tup xs =>
      obtain ⟨a, ys, rfl, h1, h2⟩ := r1
      exact ⟨a, rfl, ⟨ys, h1⟩, g1.ok w1 (walks_tup h1 h2)⟩
    | _ => cases hD
  | false =>
    refine .inl ⟨ι, L, τ, w, s, gd.bind g fun x L1 ι1 u H1 e1 ext1 w1 r1 g1 => ?_⟩
    rw [e1] at hD
    cases x with
    | tup xs => cases hD
    | rol xs =>
      obtain ⟨a, ys, rfl, h1, h2⟩ := r1
      exact ⟨a, rfl, ⟨ys, h1.sq⟩, g1.ok w1 (walks_rol h1 h2)⟩
    | obj n =>
      cases hl : L1[n]? with
      | none => simp only [hl] at g1; exact g1.elim
      | some o =>
        cases o with
        | lst xs =>
          simp only [hl] at g1
          obtain ⟨a, ys, rfl, hn, h1, h2⟩ := lst_at w1 r1 hl
          exact ⟨a, rfl, ⟨ys, SqL.of h1⟩, g1.ok w1 (walks_list hn)⟩
        | _ => simp only [hl] at g1; exact g1.elim
    | _ => exact g1.elim
/-- a new list, walked where it is made -/
def iV (m : MV) : MI := fun τ L => (m τ L).bind fun xs L1 => .ok (.vals xs) L1
theorem fi_v {tg : Expr} (h : FV Z X W e mv) : FI Z X W tg e (iV mv) := PI.imp (pi_list h) fun σ H Rr ⟨ι, L, τ, w, s, g⟩ => by
  refine ⟨ι, L, τ, w, s, ?_⟩
  unfold iV at g
  cases hq : mv τ L with
  | ok xs L1 =>
    rw [hq] at g
    intro ι1 H1 a ys e w1 n ni ha r z
    exact ⟨a, rfl, ⟨ys, SqL.of ha⟩, g ι1 H1 _ e w1 (walks_new ha ni r)⟩
  | ex c fs L1 => rw [hq] at g; exact g
  | no => rw [hq] at g; exact g
def iR1 (m : MA) : MI := fun τ L => (m τ L).bind fun xs L1 => match xs with
  | [.int j] => if -(2 ^ 62) ≤ j ∧ j < 2 ^ 62 then .ok (.vals ((List.range j.toNat).map fun k => .int (0 + (k : Nat)))) L1 else .no
  | _ => .no
theorem fi_range1 {tg : Expr} (hg : Gl X "range") (hm : X.mg "range" = none) (ha : FA Z X W [a] mr) (hs : starEach [a] X.env = [(false, eval a X.env)] := by rfl) : FI Z X W tg (.Call (.Name "range" p) [a] [] pos) (iR1 mr) :=
  PI.imp (pi_range1 hg hm ha hs) fun σ H Rr h => tM.bind h fun τ xs L1 ι1 us H1 w1 s1 r1 g1 => by
    split at g1
    · split at g1
      · rename_i hz
        obtain ⟨u, rfl, ru⟩ := r1.one
        exact ⟨_, by rw [ru.i], hz.1, hz.2, g1.ok w1 walks_rng⟩
      · exact g1.elim
    · exact g1.elim
end
end FL
/-! FLM: dicts walked (under a lock), lists of their values and items, dict comprehensions, enumerate, tables. -/
namespace L2
open PySem PySem.Spec PyProof.Rows
section
variable {X : Cx} {e : Expr} {te : TE} {p apos cpos pos : Pos}
/-- list(e.values()) -/
def tListVals (te : TE) : TE := fun σ H Q => te σ H fun x H1 => ∃ d kvs, x = .ref d ∧ H1 d = some (.dK kvs) ∧ ∀ p, H1 p = none → Q (.ref p) (upd H1 p (.lst (kvs.map (·.2))))
theorem pe_listVals (hc : X.calm = true) (he : PE X e te) (hg : Gl X "list") (hm : X.mg "list" = none) (hbase : attributeBase e "values" X.env (eval e X.env) = eval e X.env := by rfl) (hline : (apos.endLine == cpos.line) = true := by rfl)
    (hs : starEach [.Call (.Attribute e "values" apos) [] [] cpos] X.env = (false, eval (.Call (.Attribute e "values" apos) [] [] cpos) X.env) :: starEach [] X.env := by rfl) :
    PE X (.Call (.Name "list" p) [.Call (.Attribute e "values" apos) [] [] cpos] [] pos) (tListVals te) := by
  refine ⟨fun pins s σ H Q I hq => ?_⟩
  refine wpAny_Call_Name_kw (ld_blt I hg hm PyProof.Rows.boot_list ?_)
  refine PyProof.Rows.callWith_type1 ?_ hs rfl
  rw [hs]
  show wpAny _ _ (spliced ((false, eval (.Call (.Attribute e "values" apos) [] [] cpos) X.env) :: backTo pos (starEach [] X.env))) _ _ s
  refine Calls.spliced_cons ?_
  refine wpAny_Call_method0_late hbase hline (thn (he.run pins s σ H _ I hq) fun u s1 ⟨x, H1, I1, rx, a, kvs, ex, ha, q⟩ => ?_)
  subst ex
  obtain rfl : u = Value.ref a := rx
  obtain ⟨hz, hsys, vs, rel, dof⟩ := dk_of I1.hok ha
  obtain ⟨ep, dat⟩ := dof.dictAt
  have dat' := dat
  obtain ⟨ob, es, ho, ex, hdat, hko, hpr, hnd⟩ := dat'
  refine ⟨"dict", "dict.values", F.plainAttrs_dict, F.slot_dict_values, F.type_dict_values, ⟨ob, ho, ex.1⟩, fun b e => ?_, Calls.callWith_builtin rfl (PySem.evalArgs_none ?_)⟩
  · cases e
    exact ⟨ob, ho, ex.2.1⟩
  refine call_meetsIn F.slot_dict_values ⟨ob, ho, ex.1⟩ F.entry_dict_values (F.args_dict_values_1 _) (meets_dict_values (mixKind X.prog X.w) a hsys) ⟨⟨vs, dof⟩, ?_⟩
  have k1 : ∀ b u, s1.heap.get? b = some u → (s1.heap.push { cls := .type "dict_values", data := .fields #[.ref a] }).get? b = some u := fun b u e => Heap.get?_push_of_some _ e
  have dat1 : (s1.heap.push { cls := .type "dict_values", data := .fields #[.ref a] }).DictAt (mixKind X.prog X.w) a vs ep := dat.keep k1
  have I2 : Inv X pins σ H1 { s1 with heap := s1.heap.push { cls := .type "dict_values", data := .fields #[.ref a] } } := I1.kept (t' := s1.toks) k1
  refine Calls.spliced_nil ?_
  refine PySem.W.kdl_call (PySem.W.kdl_values (knd := mixKind X.prog X.w) (kvs := vs) (ep := ep) (d := a) (r := s1.heap.objs.size)) (I1.ok.hd hc) ⟨⟨_, Heap.get?_push_size _ rfl, rfl, rfl⟩, dat1⟩ (by rw [← KV.length rel]; exact hz) fun h' tk acc c' hk hD hacc => ?_
  have hv : Vals (kvs.map (·.2)) acc.toList := by
    refine vals_of_idx _ _ (by rw [List.length_map, Array.length_toList, hacc.1]; exact (KV.length rel).symm) fun j u e => ?_
    obtain ⟨k, hk'⟩ := hacc.2 j u (by rw [← Array.getElem?_toList]; exact e)
    obtain ⟨x, h1, h2⟩ := KV.at' rel hk'
    exact ⟨x, by rw [List.getElem?_map, h1]; rfl, h2⟩
  refine ⟨.ref _, upd H1 _ (.lst (kvs.map (·.2))), I2.laid (t' := tk) hk (Nat.le_refl _)
    (show ObjOk X.prog X.w _ _ _ (.lst (kvs.map (·.2))) from ⟨by rw [List.length_map]; exact hz, acc.toList, c', hv, by rw [Array.toArray_toList]; exact hD⟩), rfl, q _ (I2.hok.fresh (Nat.le_refl _))⟩
end
end L2
namespace FL
open PySem PySem.Spec PyProof.Rows L2
def kP : Key → PV
  | .inl i => .int i
  | .inr z => .str z
section
variable {X : Cx} {Z : Zs} {W : WX} {e o a b c : Expr} {ma mb mc me mo md : ME} {mv : MV} {mi : MI} {pos p apos cpos : Pos} {es : List Expr} {mr : MA} {tc : MT} {K : PySem.W.Frag} {ga : Ga} {x : Str} {g : MG} {own : List Nat}
theorem vrk {ι : List Addr} {H : Hp} (k : Key) : VR K ga ι H (kP k) (kV k) := by
  cases k with
  | inl i => exact vri
  | inr z => exact vrs
/-! ### the lock -/
theorem Ext.lock0 {ι ι' : List Addr} {H H' : Hp} {n : Nat} {d : Addr} {od : Obj} {l : List (Key × V)} (e : Ext K ι (upd H d (.frz od (.dK l))) ι' H') (hn : ι[n]? = some d) (hd : H d = some (.dK l)) : Ext K ι H ι' H' := by
  have hm := List.mem_of_getElem? hn
  have k : ∀ a u, a ≠ d → H a = some u → upd H d (.frz od (.dK l)) a = some u := fun a u h q => by rw [upd_ne h]; exact q
  have nd : ∀ a u, H a = some u → (∀ x, u ≠ .dK x) → a ≠ d := fun a u h q z => by rw [z, hd] at h; cases h; exact q _ rfl
  refine ⟨?_, fun a u ha h nt => e.st a u ha (k a u (fun z => ha (z ▸ hm)) h) nt, fun a ys h => e.tp a ys ?_, fun a ys h => e.ro a ys ?_, fun a o' u h => e.fz a o' u (k a _ (nd a _ h fun _ z => nomatch z) h)⟩
  · obtain ⟨δ, h1, h2⟩ := e.gr
    refine ⟨δ, h1, fun a ha => ?_⟩
    rcases h2 a ha with z | z
    · exact .inl z
    · by_cases had : a = d
      · exact .inl (had ▸ hm)
      · exact .inr fun o q => z o (by rw [upd_ne had]; exact q)
  · rcases h with (h | ⟨u', h⟩) | h
    · exact .inl (.inl (k _ _ (nd _ _ h fun _ z => nomatch z) h))
    · exact .inl (.inr ⟨u', k _ _ (nd _ _ h fun _ z => nomatch z) h⟩)
    · exact .inr h
  · rcases h with ⟨u', h⟩ | h
    · exact .inl ⟨u', k _ _ (nd _ _ h fun _ z => nomatch z) h⟩
    · exact .inr h
theorem Ext.lock {ι ι' : List Addr} {H H' : Hp} {n : Nat} {d : Addr} {od : Obj} {l : List (Key × V)} (e : Ext K ι (upd H d (.frz od (.dK l))) ι' H') (hn : ι[n]? = some d) (hd : H d = some (.dK l)) : Ext K ι H ι' (upd H' d (.dK l)) := by
  have e0 := e.lock0 hn hd
  have hm := List.mem_of_getElem? hn
  have hd' : H' d = some (.frz od (.dK l)) := e.fz _ _ _ upd_same
  have nd : ∀ a u, H' a = some u → u ≠ .frz od (.dK l) → a ≠ d := fun a u h q z => by rw [z, hd'] at h; cases h; exact q rfl
  have nd0 : ∀ a u, H a = some u → (∀ x, u ≠ .dK x) → a ≠ d := fun a u h q z => by rw [z, hd] at h; cases h; exact q _ rfl
  refine ⟨e0.gr, fun a u ha h nt => by rw [upd_ne (fun z : a = d => ha (by rw [z]; exact hm))]; exact e0.st a u ha h nt, fun a ys h => ?_, fun a ys h => ?_, fun a o' u h => by rw [upd_ne (nd0 a _ h fun _ z => nomatch z)]; exact e0.fz a o' u h⟩
  · have h := e0.tp a ys h
    rcases h with (h | ⟨u', h⟩) | h
    · exact .inl (.inl (by rw [upd_ne (nd _ _ h fun z => nomatch z)]; exact h))
    · exact .inl (.inr ⟨u', by rw [upd_ne (nd _ _ h fun z => by cases z)]; exact h⟩)
    · exact .inr h
  · have h := e0.ro a ys h
    rcases h with ⟨u', h⟩ | h
    · exact .inl ⟨u', by rw [upd_ne (nd _ _ h fun z => by cases z)]; exact h⟩
    · exact .inr h
theorem Up.lockd {ι : List Addr} {H : Hp} {d : Addr} {od : Obj} {l : List (Key × V)} (hd : H d = some (.dK l)) : Up K ι H ι (upd H d (.frz od (.dK l))) := Up.tmp hd True.intro
theorem Up.unl {ι : List Addr} {H : Hp} {d : Addr} {od : Obj} {l : List (Key × V)} (hd : H d = some (.frz od (.dK l))) : Up K ι H ι (upd H d (.dK l)) := Up.tmp hd True.intro
theorem SR.lock {ι : List Addr} {L : LH} {H : Hp} {τ : Sl} {σ : L2.St} {d : Addr} {od : Obj} {l : List (Key × V)} (s : SR K Z ι H τ σ) (hd : H d = some (.dK l)) : SR K Z ι (upd H d (.frz od (.dK l))) τ σ := s.tmp hd True.intro
/-- what md tells is locked meanwhile, unless it is locked anyway -/
def lockR {α : Type} (md : ME) (m : Sl → LH → R α) : Sl → LH → R α := fun τ L => match md τ L with
  | .ok (.obj n) _ => (match L[n]? with
    | some (.dct kvs) => (match m τ (L.set n (.fdct kvs)) with
      | .ok x L' => .ok x (L'.set n (.dct kvs))
      | r => r)
    | some (.fdct _) => m τ L
    | some (.lst _) => m τ L
    | _ => .no)
  | .ok (.tup _) _ => m τ L
  | .ok (.rol _) _ => m τ L
  | _ => .no
theorem fv_lock (md : ME) (h : FV Z X W e mv) : FV Z X W e (lockR md mv) := PE.imp (PE.or (pe_lock h) h) fun σ H Q ⟨ι, L, τ, w, s, g⟩ => by
  unfold lockR at g
  split at g
  · rename_i n _ _
    split at g
    · rename_i kvs hl
      obtain ⟨d, hn⟩ : ∃ d, ι[n]? = some d := by
        have : n < ι.length := by rw [w.len]; exact (List.getElem?_eq_some_iff.mp hl).1
        exact ⟨_, List.getElem?_eq_getElem this⟩
      obtain ⟨ho, q1, l, rfl, q2⟩ := w.at_ n d _ hn hl
      refine .inl ⟨d, .dK l, q1, True.intro, fun od => ?_⟩
      have up' : Up X.K ι H ι (upd H d (.frz od (.dK l))) := Up.lockd q1
      have wL : Wd X.K Z.f ι (L.set n (.fdct kvs)) (upd H d (.frz od (.dK l))) := w.put hn up' (fun x hx => tabS_upd q1 True.intro (w.tb x hx)) ⟨od, l, rfl, q2.upU up'⟩
      have sL := s.lock (L := L) (od := od) q1
      refine ⟨ι, _, τ, wL, sL, ?_⟩
      cases hm : mv τ (L.set n (.fdct kvs)) with
      | ok xs L' =>
        rw [hm] at g
        intro ι' H' a ys e w' n1 n2 ha r z
        have hd' : H' d = some (.frz od (.dK l)) := e.fz _ _ _ upd_same
        have had : a ≠ d := fun q => by rw [q, hd'] at ha; cases ha
        have hn' : ι'[n]? = some d := by
          obtain ⟨⟨δ, rfl, _⟩, _⟩ := e
          rw [List.getElem?_append_left (List.getElem?_eq_some_iff.mp hn).1]; exact hn
        have eF := Ext.lock e hn q1
        have up2 : Up X.K ι' H' ι' (upd H' d (.dK l)) := Up.unl hd'
        have wF : Wd X.K Z.f ι' (L'.set n (.dct kvs)) (upd H' d (.dK l)) := w'.put hn' up2 (fun x hx => tabS_upd hd' True.intro (w'.tb x hx)) ⟨l, rfl, q2.up eF⟩
        refine ⟨hd', g ι' _ a ys eF wF ?_ n2 (by rw [upd_ne had]; exact ha) (r.upU up2) z⟩
        exact fun o q => n1 o (by rw [upd_ne had]; exact q)
      | ex c fs L' =>
        rw [hm] at g
        intro ι' H' d' l' e w' q3 q4
        exact g ι' H' d' l' (Ext.lock0 e hn q1) w' q3 q4
      | no => rw [hm] at g; exact g.elim
    · exact .inr ⟨ι, L, τ, w, s, g⟩
    · exact .inr ⟨ι, L, τ, w, s, g⟩
    · exact g.elim
  · exact .inr ⟨ι, L, τ, w, s, g⟩
  · exact .inr ⟨ι, L, τ, w, s, g⟩
  · exact g.elim
/-- the same for a statement -/
def lockS (md : ME) (m : MS) : MS := fun τ L => match md τ L with
  | .ok (.obj n) _ => (match L[n]? with
    | some (.dct kvs) => (match m τ (L.set n (.fdct kvs)) with
      | .nx τ' L' => .nx τ' (L'.set n (.dct kvs))
      | .rt v L' => .rt v (L'.set n (.dct kvs))
      | .bk τ' L' => .bk τ' (L'.set n (.dct kvs))
      | .ct τ' L' => .ct τ' (L'.set n (.dct kvs))
      | r => r)
    | some (.fdct _) => m τ L
    | some (.lst _) => m τ L
    | _ => .no)
  | .ok (.tup _) _ => m τ L
  | .ok (.rol _) _ => m τ L
  | _ => .no
theorem fs_lock {st : Stmt} {ms : MS} (md : ME) (h : FS Z X W st ms) : FS Z X W st (lockS md ms) := PS.imp (PS.or (ps_lock h) h) fun D σ H ⟨ι, L, τ, w, s, g⟩ => by
  unfold lockS at g
  split at g
  · rename_i n _ _
    split at g
    · rename_i kvs hl
      obtain ⟨d, hn⟩ : ∃ d, ι[n]? = some d := by
        have : n < ι.length := by rw [w.len]; exact (List.getElem?_eq_some_iff.mp hl).1
        exact ⟨_, List.getElem?_eq_getElem this⟩
      obtain ⟨ho, q1, l, rfl, q2⟩ := w.at_ n d _ hn hl
      refine .inl ⟨d, .dK l, q1, True.intro, fun od => ?_⟩
      have up' : Up X.K ι H ι (upd H d (.frz od (.dK l))) := Up.lockd q1
      have wL : Wd X.K Z.f ι (L.set n (.fdct kvs)) (upd H d (.frz od (.dK l))) := w.put hn up' (fun x hx => tabS_upd q1 True.intro (w.tb x hx)) ⟨od, l, rfl, q2.upU up'⟩
      have sL := s.lock (L := L) (od := od) q1
      refine ⟨ι, _, τ, wL, sL, ?_⟩
      have un : ∀ ι' H' L', Ext X.K ι (upd H d (.frz od (.dK l))) ι' H' → Wd X.K Z.f ι' L' H' → H' d = some (.frz od (.dK l)) ∧ Ext X.K ι H ι' (upd H' d (.dK l)) ∧ Wd X.K Z.f ι' (L'.set n (.dct kvs)) (upd H' d (.dK l)) ∧ Up X.K ι' H' ι' (upd H' d (.dK l)) := fun ι' H' L' e w' => by
        have hd' : H' d = some (.frz od (.dK l)) := e.fz _ _ _ upd_same
        have hn' : ι'[n]? = some d := by
          obtain ⟨⟨δ, rfl, _⟩, _⟩ := e
          rw [List.getElem?_append_left (List.getElem?_eq_some_iff.mp hn).1]; exact hn
        have eF := Ext.lock e hn q1
        have up2 : Up X.K ι' H' ι' (upd H' d (.dK l)) := Up.unl hd'
        exact ⟨hd', eF, w'.put hn' up2 (fun x hx => tabS_upd hd' True.intro (w'.tb x hx)) ⟨l, rfl, q2.up eF⟩, up2⟩
      cases hm : ms τ (L.set n (.fdct kvs)) with
      | nx τ' L' =>
        rw [hm] at g
        intro ι' H' σ' e w' s'
        obtain ⟨a1, a2, a3, a4⟩ := un ι' H' L' e w'
        exact ⟨a1, g ι' _ σ' a2 a3 (s'.tmp a1 True.intro)⟩
      | bk τ' L' =>
        rw [hm] at g
        intro ι' H' σ' e w' s'
        obtain ⟨a1, a2, a3, a4⟩ := un ι' H' L' e w'
        exact ⟨a1, g ι' _ σ' a2 a3 (s'.tmp a1 True.intro)⟩
      | ct τ' L' =>
        rw [hm] at g
        intro ι' H' σ' e w' s'
        obtain ⟨a1, a2, a3, a4⟩ := un ι' H' L' e w'
        exact ⟨a1, g ι' _ σ' a2 a3 (s'.tmp a1 True.intro)⟩
      | rt v L' =>
        rw [hm] at g
        intro ι' H' v' e w' r'
        obtain ⟨a1, a2, a3, a4⟩ := un ι' H' L' e w'
        exact ⟨a1, g ι' _ v' a2 a3 (r'.upU a4)⟩
      | ex c fs τ' L' =>
        rw [hm] at g
        intro ι' H' σ' d' l' e w' s' q3 q4
        have hd' : H' d = some (.frz od (.dK l)) := e.fz _ _ _ upd_same
        exact g ι' H' σ' d' l' (Ext.lock0 e hn q1) w' s' q3 q4
      | no => rw [hm] at g; exact g.elim
    · exact .inr ⟨ι, L, τ, w, s, g⟩
    · exact .inr ⟨ι, L, τ, w, s, g⟩
    · exact g.elim
  · exact .inr ⟨ι, L, τ, w, s, g⟩
  · exact .inr ⟨ι, L, τ, w, s, g⟩
  · exact g.elim
/-! ### keys, values, items of a locked dict -/
def iK (md : ME) : MI := fun τ L => (md τ L).bind fun x L1 => match x with
  | .obj n => (match L1[n]? with
    | some (.fdct kvs) => .ok (.vals (kvs.map fun kv => kP kv.1)) L1
    | _ => .no)
  | _ => .no
def iVs (md : ME) : MI := fun τ L => (md τ L).bind fun x L1 => match x with
  | .obj n => (match L1[n]? with
    | some (.fdct kvs) => .ok (.vals (kvs.map fun kv => kv.2)) L1
    | _ => .no)
  | _ => .no
def iIs (md : ME) : MI := fun τ L => (md τ L).bind fun x L1 => match x with
  | .obj n => (match L1[n]? with
    | some (.fdct kvs) => .ok (.vals (kvs.map fun kv => .tup [kP kv.1, kv.2])) L1
    | _ => .no)
  | _ => .no
theorem DRs.at_ {ι : List Addr} {H : Hp} : ∀ {kvs : List (Key × PV)} {l : List (Key × V)} {i : Nat} {q : Key × PV}, DRs K ga ι H kvs l → kvs[i]? = some q → ∃ v, l[i]? = some (q.1, v) ∧ VR K ga ι H q.2 v
  | [], _, _, _, _, e => by simp at e
  | y :: xs, _, 0, q, h, e => by obtain ⟨v, r, rfl, h1, _⟩ := h; simp at e; subst e; exact ⟨v, rfl, h1⟩
  | y :: xs, _, i + 1, q, h, e => by
    obtain ⟨v, r, rfl, _, h2⟩ := h
    obtain ⟨u, q1, q2⟩ := DRs.at_ (i := i) (q := q) h2 (by simpa using e)
    exact ⟨u, by simpa using q1, q2⟩
theorem walks_keys {d : Addr} {od : Obj} {kvs : List (Key × PV)} {l : List (Key × V)} {ι : List Addr} {H : Hp} (h1 : H d = some (.frz od (.dK l))) (h2 : DRs K ga ι H kvs l) : Walks K ga ι H (.vals (kvs.map fun kv => kP kv.1)) (Itk d od l) := by
  intro ι2 L2 H2 e w i
  have h1' := e.fz _ _ _ h1
  refine ⟨fun h => ⟨h1', ?_⟩, fun x h => ?_⟩
  · have h' : (kvs.map fun kv => kP kv.1)[i]? = none := by simpa [Src.get] using h
    have := List.getElem?_eq_none_iff.mp h'
    rw [List.length_map, h2.len] at this; exact this
  · have h' : (kvs.map fun kv => kP kv.1)[i]? = some x := by simpa [Src.get] using h
    rw [List.getElem?_map] at h'
    obtain ⟨q, q1, q2⟩ := Option.map_eq_some_iff.mp h'
    obtain ⟨v, q3, q4⟩ := h2.at_ q1
    refine ⟨⟨h1', (List.getElem?_eq_some_iff.mp q3).1⟩, fun u H3 hy => ?_⟩
    obtain ⟨rfl, k, v', q5, rfl⟩ := hy
    rw [q3] at q5; cases q5
    rw [← q2]
    exact ⟨Ext.refl, w, vrk _⟩
theorem walks_vals {d : Addr} {od : Obj} {kvs : List (Key × PV)} {l : List (Key × V)} {ι : List Addr} {H : Hp} (h1 : H d = some (.frz od (.dK l))) (h2 : DRs K ga ι H kvs l) : Walks K ga ι H (.vals (kvs.map fun kv => kv.2)) (Itd d od l) := by
  intro ι2 L2 H2 e w i
  have h1' := e.fz _ _ _ h1
  refine ⟨fun h => ⟨h1', ?_⟩, fun x h => ?_⟩
  · have h' : (kvs.map fun kv => kv.2)[i]? = none := by simpa [Src.get] using h
    have := List.getElem?_eq_none_iff.mp h'
    rw [List.length_map, h2.len] at this; exact this
  · have h' : (kvs.map fun kv => kv.2)[i]? = some x := by simpa [Src.get] using h
    rw [List.getElem?_map] at h'
    obtain ⟨q, q1, q2⟩ := Option.map_eq_some_iff.mp h'
    obtain ⟨v, q3, q4⟩ := h2.at_ q1
    refine ⟨⟨h1', (List.getElem?_eq_some_iff.mp q3).1⟩, fun u H3 hy => ?_⟩
    obtain ⟨rfl, k, q5⟩ := hy
    rw [q3] at q5; cases q5
    rw [← q2]
    exact ⟨Ext.refl, w, q4.up e⟩
theorem walks_items {d : Addr} {od : Obj} {kvs : List (Key × PV)} {l : List (Key × V)} {ι : List Addr} {H : Hp} (h1 : H d = some (.frz od (.dK l))) (h2 : DRs K ga ι H kvs l) : Walks K ga ι H (.vals (kvs.map fun kv => .tup [kP kv.1, kv.2])) (Iti d od l) := by
  intro ι2 L2 H2 e w i
  have h1' := e.fz _ _ _ h1
  refine ⟨fun h => ⟨h1', ?_⟩, fun x h => ?_⟩
  · have h' : (kvs.map fun kv => PV.tup [kP kv.1, kv.2])[i]? = none := by simpa [Src.get] using h
    have := List.getElem?_eq_none_iff.mp h'
    rw [List.length_map, h2.len] at this; exact this
  · have h' : (kvs.map fun kv => PV.tup [kP kv.1, kv.2])[i]? = some x := by simpa [Src.get] using h
    rw [List.getElem?_map] at h'
    obtain ⟨q, q1, q2⟩ := Option.map_eq_some_iff.mp h'
    obtain ⟨v, q3, q4⟩ := h2.at_ q1
    refine ⟨⟨h1', (List.getElem?_eq_some_iff.mp q3).1⟩, fun u H3 hy => ?_⟩
    obtain ⟨T, k, v', q5, rfl, hT, rfl⟩ := hy
    rw [q3] at q5; cases q5
    rw [← q2]
    have eN := Ext.new (K := K) (ι := ι2) (o := .tup [kV q.1, v]) hT
    exact ⟨eN, w.new hT, T, _, rfl, SqT.new, kV q.1, [v], rfl, vrk _, v, [], rfl, (q4.up e).up eN, rfl⟩
theorem fdct_at {ι : List Addr} {L : LH} {H : Hp} {n : Nat} {kvs : List (Key × PV)} {v : V} (w : Wd K ga ι L H) (r : VR K ga ι H (.obj n) v) (hl : L[n]? = some (.fdct kvs)) : ∃ a od l, v = .ref a ∧ ι[n]? = some a ∧ H a = some (.frz od (.dK l)) ∧ DRs K ga ι H kvs l := by
  obtain ⟨a, h1, rfl⟩ := r
  obtain ⟨ho, q1, od, l, rfl, q2⟩ := w.at_ n a _ h1 hl
  exact ⟨a, od, l, rfl, h1, q1, q2⟩
theorem fi_keys {tg : Expr} (h : FE Z X W e md) : FI Z X W tg e (iK md) := PI.imp (pi_keys h) fun σ H Rr h => tM.bind h fun τ x L1 ι1 u H1 w1 s1 r1 g1 => by
  split at g1
  · split at g1
    · rename_i hl
      obtain ⟨a, od, l, rfl, hn, h1, h2⟩ := fdct_at w1 r1 hl
      exact ⟨a, od, rfl, .inl ⟨l, h1, g1.ok w1 (walks_keys h1 h2)⟩⟩
    · exact g1.elim
  · exact g1.elim
theorem fi_vals {tg : Expr} (h : FE Z X W e md) (hbase : attributeBase e "values" X.env (eval e X.env) = eval e X.env := by rfl) (hline : (apos.endLine == cpos.line) = true := by rfl) : FI Z X W tg (.Call (.Attribute e "values" apos) [] [] cpos) (iVs md) := PI.imp (pi_values h hbase hline) fun σ H Rr h => tM.bind h fun τ x L1 ι1 u H1 w1 s1 r1 g1 => by
  split at g1
  · split at g1
    · rename_i hl
      obtain ⟨a, od, l, rfl, hn, h1, h2⟩ := fdct_at w1 r1 hl
      exact ⟨a, od, l, rfl, h1, g1.ok w1 (walks_vals h1 h2)⟩
    · exact g1.elim
  · exact g1.elim
theorem fi_items {elts : List Expr} {kk : Nat} {tpos : Pos} (h : FE Z X W e md) (hbase : attributeBase e "items" X.env (eval e X.env) = eval e X.env := by rfl) (hline : (apos.endLine == cpos.line) = true := by rfl) : FI Z X W (.Tuple elts kk tpos) (.Call (.Attribute e "items" apos) [] [] cpos) (iIs md) := PI.imp (pi_items h hbase hline) fun σ H Rr h => tM.bind h fun τ x L1 ι1 u H1 w1 s1 r1 g1 => by
  split at g1
  · split at g1
    · rename_i hl
      obtain ⟨a, od, l, rfl, hn, h1, h2⟩ := fdct_at w1 r1 hl
      exact ⟨a, od, l, rfl, h1, g1.ok w1 (walks_items h1 h2)⟩
    · exact g1.elim
  · exact g1.elim
/-! ### list(d), list(d.values()), list(d.items()) -/
def vK (md : ME) : MV := fun τ L => (md τ L).bind fun x L1 => match x with
  | .obj n => (match L1[n]? with
    | some (.dct kvs) => .ok (kvs.map fun kv => kP kv.1) L1
    | some (.fdct kvs) => .ok (kvs.map fun kv => kP kv.1) L1
    | some (.lst xs) => .ok xs L1
    | _ => .no)
  | .tup xs => .ok xs L1
  | .rol xs => .ok xs L1
  | _ => .no
def eVs (md : ME) : ME := fun τ L => (md τ L).bind fun x L1 => match x with
  | .obj n => (match L1[n]? with
    | some (.dct kvs) => .ok (.obj L1.length) (L1 ++ [.lst (kvs.map fun kv => kv.2)])
    | _ => .no)
  | _ => .no
def eIs (md : ME) : ME := fun τ L => (md τ L).bind fun x L1 => match x with
  | .obj n => (match L1[n]? with
    | some (.dct kvs) => .ok (.obj L1.length) (L1 ++ [.lst (kvs.map fun kv => .tup [kP kv.1, kv.2])])
    | _ => .no)
  | _ => .no
theorem DRs.vals {ι : List Addr} {H : Hp} : ∀ {kvs : List (Key × PV)} {l : List (Key × V)}, DRs K ga ι H kvs l → VRs K ga ι H (kvs.map fun kv => kv.2) (l.map (·.2))
  | [], _, h => by cases (show _ = [] from h); rfl
  | y :: xs, _, h => by obtain ⟨v, r, rfl, h1, h2⟩ := h; exact ⟨v, _, rfl, h1, DRs.vals h2⟩
theorem DRs.keys {ι : List Addr} {H : Hp} : ∀ {kvs : List (Key × PV)} {l : List (Key × V)}, DRs K ga ι H kvs l → VRs K ga ι H (kvs.map fun kv => kP kv.1) (l.map fun kv => kV kv.1)
  | [], _, h => by cases (show _ = [] from h); rfl
  | y :: xs, _, h => by obtain ⟨v, r, rfl, h1, h2⟩ := h; exact ⟨kV y.1, _, rfl, vrk _, DRs.keys h2⟩
theorem fe_listV (hc : X.calm = true) (hg : Gl X "list") (hm : X.mg "list" = none) (h : FE Z X W e md) (hbase : attributeBase e "values" X.env (eval e X.env) = eval e X.env := by rfl) (hline : (apos.endLine == cpos.line) = true := by rfl)
    (hs : starEach [.Call (.Attribute e "values" apos) [] [] cpos] X.env = (false, eval (.Call (.Attribute e "values" apos) [] [] cpos) X.env) :: starEach [] X.env := by rfl) : FE Z X W (.Call (.Name "list" p) [.Call (.Attribute e "values" apos) [] [] cpos] [] pos) (eVs md) :=
  PE.imp (pe_listVals hc h hg hm hbase hline hs) fun σ H Q h => tM.bind h fun τ x L1 ι1 u H1 w1 s1 r1 g1 => by
    split at g1
    · split at g1
      · rename_i hl
        obtain ⟨a, l, rfl, hn, h1, h2⟩ := dct_at w1 r1 hl
        exact ⟨a, l, rfl, h1, fun q hq => new_lst w1 h2.vals g1 hq⟩
      · exact g1.elim
    · exact g1.elim
theorem DRs.paired {ι : List Addr} {H H' : Hp} : ∀ {kvs : List (Key × PV)} {l : List (Key × V)} {ts : List Addr}, DRs K ga ι H' kvs l → Paired (fun (t : Addr) (q : Key × V) => H' t = some (.tup [kV q.1, q.2])) ts l → VRs K ga ι H' (kvs.map fun kv => .tup [kP kv.1, kv.2]) (ts.map V.ref)
  | [], _, _, h, p => by cases (show _ = [] from h); cases p; rfl
  | y :: xs, _, _, h, p => by
    obtain ⟨v, r, rfl, h1, h2⟩ := h
    cases p with
    | cons q p => exact ⟨.ref _, _, rfl, ⟨_, _, rfl, SqT.of q, kV y.1, [v], rfl, vrk _, v, [], rfl, h1, rfl⟩, DRs.paired (H := H) h2 p⟩
theorem Ext.same {ι : List Addr} {H H' : Hp} (s : ∀ b o, H b = Option.some o → H' b = Option.some o) : Ext K ι H ι H' := by
  refine ⟨⟨[], by simp, fun _ h => nomatch h⟩, fun a o _ h _ => s _ _ h, fun a ys h => ?_, fun a ys h => ?_, fun a o u h => s _ _ h⟩
  · rcases h with (h | ⟨u', h⟩) | h
    · exact .inl (.inl (s _ _ h))
    · exact .inl (.inr ⟨u', s _ _ h⟩)
    · exact .inr h
  · rcases h with ⟨u', h⟩ | h
    · exact .inl ⟨u', s _ _ h⟩
    · exact .inr h
theorem Wd.same {ι : List Addr} {L : LH} {H H' : Hp} (w : Wd K ga ι L H) (s : ∀ b o, H b = Option.some o → H' b = Option.some o) : Wd K ga ι L H' := w.ext (Ext.same s) (fun a ha => by
  obtain ⟨ho, q1, _⟩ := w.some ha
  rw [q1]; exact s _ _ q1) (w.tb.ext s)
theorem fe_listI (hc : X.calm = true) (hg : Gl X "list") (hm : X.mg "list" = none) (h : FE Z X W e md) (hbase : attributeBase e "items" X.env (eval e X.env) = eval e X.env := by rfl) (hline : (apos.endLine == cpos.line) = true := by rfl)
    (hs : starEach [.Call (.Attribute e "items" apos) [] [] cpos] X.env = (false, eval (.Call (.Attribute e "items" apos) [] [] cpos) X.env) :: starEach [] X.env := by rfl) : FE Z X W (.Call (.Name "list" p) [.Call (.Attribute e "items" apos) [] [] cpos] [] pos) (eIs md) :=
  PE.imp (LiI.pe_listItems hc h hg hm PyProof.Rows.boot_list hbase hline hs) fun σ H Q h => tM.bind h fun τ x L1 ι1 u H1 w1 s1 r1 g1 => by
    split at g1
    · split at g1
      · rename_i hl
        obtain ⟨a, l, rfl, hn, h1, h2⟩ := dct_at w1 r1 hl
        refine ⟨a, l, rfl, h1, fun H' q ts k1 k2 k3 k4 k5 k6 => ?_⟩
        have e := Ext.same (K := X.K) (ι := ι1) k1
        have w' := w1.same k1
        have hq : q ∉ ι1 := fun z => by obtain ⟨_, q1, _⟩ := w1.some z; rw [k2] at q1; cases q1
        have wA := w'.adopt (o := .lst _) k5 hq ⟨_, rfl, DRs.paired (H := H1) (h2.up e) k6⟩
        exact g1 (ι1 ++ [q]) H' (.ref q) (e.adopt (.of k2)) wA ⟨q, by rw [← w1.len]; simp, rfl⟩
      · exact g1.elim
    · exact g1.elim
def rListA (K : PySem.W.Frag) : List V → Hp → VK → Prop := fun xs H Q => (∃ p ys, xs = [.ref p] ∧ (SqL K H p ys ∨ SqT K H p ys) ∧ ∀ l, H l = none → Q (.ref l) (upd H l (.lst ys))) ∨ (∃ (a : Addr) (kvs : List (Key × V)), xs = [.ref a] ∧ Rd H a (.dK kvs) ∧ ∀ p, H p = none → Q (.ref p) (upd H p (.lst (kvs.map fun kv => kV kv.1))))
theorem cr_listA (hc : X.calm = true) : CallR X (.type "list") (rListA X.K) := call_list_of.or (call_listD hc)
/-- list(x): of a list, a tuple, a dict -/
def listAF (xs : List PV) (L : LH) : R PV := match xs with
  | [.tup ys] => .ok (.obj L.length) (L ++ [.lst ys])
  | [.rol ys] => .ok (.obj L.length) (L ++ [.lst ys])
  | [.obj n] => (match L[n]? with
    | some (.lst ys) => .ok (.obj L.length) (L ++ [.lst ys])
    | some o => (match dctOf o with
      | some kvs => .ok (.obj L.length) (L ++ [.lst (kvs.map fun kv => kP kv.1)])
      | none => .no)
    | none => .no)
  | _ => .no
theorem listAL : CaL K ga listAF (rListA K) := by
  intro W ι L H σ xs us Q w r g
  unfold listAF at g
  split at g
  · obtain ⟨u, rfl, r1⟩ := r.one
    obtain ⟨a, ys, rfl, h1, h2⟩ := r1
    exact .inl ⟨a, ys, rfl, .inr h1, fun l hl => new_lst w h2 g hl⟩
  · obtain ⟨u, rfl, r1⟩ := r.one
    obtain ⟨a, ys, rfl, h1, h2⟩ := r1
    exact .inl ⟨a, ys, rfl, .inl h1.sq, fun l hl => new_lst w h2 g hl⟩
  · obtain ⟨u, rfl, r1⟩ := r.one
    split at g
    · rename_i hl
      obtain ⟨a, ys, rfl, _, h1, h2⟩ := lst_at w r1 hl
      exact .inl ⟨a, ys, rfl, .inl (SqL.of h1), fun l hl => new_lst w h2 g hl⟩
    · rename_i hl
      split at g
      · rename_i hd
        obtain ⟨a, l, rfl, _, h1, h2⟩ := dct_rd w r1 hl hd
        exact .inr ⟨a, l, rfl, h1, fun q hq => new_lst w h2.keys g hq⟩
      · exact g.elim
    · exact g.elim
  · exact g.elim
/-! ### enumerate -/
def enumP (xs : List PV) : List PV := (List.range xs.length).zipWith (fun i x => .tup [.int (i : Nat), x]) xs
theorem walks_enum {a : Addr} {xs : List PV} {ys : List V} {ι : List Addr} {H : Hp} (hst : ∀ ι2 H2, Ext K ι H ι2 H2 → SqL K H2 a ys) (h2 : VRs K ga ι H xs ys) (huniq : ∀ H2 zs, SqL K H2 a ys → SqL K H2 a zs → zs = ys) : Walks K ga ι H (.vals (enumP xs)) (Ite K a) := by
  intro ι2 L2 H2 e w i
  have h1' := hst ι2 H2 e
  have h2' := h2.up e
  refine ⟨fun h => ⟨ys, h1', ?_⟩, fun x h => ?_⟩
  · have h' : (enumP xs)[i]? = none := by simpa [Src.get] using h
    have := List.getElem?_eq_none_iff.mp h'
    unfold enumP at this
    rw [List.length_zipWith, List.length_range, Nat.min_self] at this
    rw [← h2.len]; exact this
  · have h' : (enumP xs)[i]? = some x := by simpa [Src.get] using h
    unfold enumP at h'
    obtain ⟨hl, hx⟩ := List.getElem?_eq_some_iff.mp h'
    rw [List.getElem_zipWith, List.getElem_range] at hx
    have hlx : i < xs.length := by
      rw [List.length_zipWith, List.length_range, Nat.min_self] at hl; exact hl
    obtain ⟨v, q1, q2⟩ := h2'.get (List.getElem?_eq_getElem hlx)
    refine ⟨⟨ys, v, h1', q1⟩, fun u H3 hy => ?_⟩
    obtain ⟨T, z, rfl, hT, rfl, hy⟩ := hy
    have z' := hy ys h1'
    rw [q1] at z'; cases z'
    have eN := Ext.new (K := K) (ι := ι2) (o := .tup [.int (i : Nat), v]) hT
    rw [← hx]
    exact ⟨eN, w.new hT, T, _, rfl, SqT.new, .int (i : Nat), [v], rfl, vri, v, [], rfl, q2.up eN, rfl⟩
end
end FL
/-! FLN: helpers for printed derivations; match; tables. -/
namespace FL
open PySem PySem.Spec PyProof.Rows L2
theorem deep_gd {A : Around} {env : Env} (h : A.guards = some []) : (A.deeper env).guards = some [] := by
  first | exact h | simpa [Around.deeper] using h
section
variable {X : Cx} {Z : Zs} {W : WX} {e o a b i : Expr} {ma mb mo mi me mf : ME} {pos cpos apos p pp pq : Pos} {es : List Expr} {mr : MA} {ga : Ga}
theorem fe_n (i : Nat) {x : Str} {pos : Pos} (hN : X.N[i]? = some x := by rfl) (hv : Vis X.env.scope x := by first | exact Or.inl rfl | exact Or.inr (Or.inl rfl) | exact Or.inr (Or.inr rfl)) (hd : (x == ("__debug__" : Str)) = false := by decide) (hcd : (x == ("__classdict__" : Str)) = false := by decide) :
    FE Z X W (.Name x pos) (eV i) := fe_v hN hv hd hcd
theorem fe_b1 {op} (ha : FE Z X W a ma) : FE Z X W (.BoolOp op [a] pos) ma := ⟨fun pins s σ H Q I h => BoolOp_one (ha.run pins s σ H Q I h)⟩
theorem fnB_len {p n : Nat} {m : MS} (xs : List PV) (L : LH) (h : xs.length ≠ p) : fnB p n m xs L = .no := if_neg h
/-- a def as its callers know it, from its own theorem -/
theorem dfn {X : Cx} {ga : Ga} {f : Addr} {fd : FuncData} {ps : List Str} {k k0 n : Nat} {m : Fn} (F : FnM X.prog X.w X.K X.mg X.base ga k f fd ps m) (hb : Binds X.K fd ps []) (kp : PySem.W.keepIn X.K (.ref f) = true) (hl : ∀ xs L, xs.length ≠ n → m xs L = .no) (hgd : X.A.guards = some []) (hr : Room k0 X.A)
    (hk : k ≤ k0 := by first | decide | omega | (simp only [Nat.add_eq]; omega)) (hn : ps.length = n := by rfl) : Def X ga f n m := ⟨⟨k, fd, ps, F, hr.mono hk, hb, hn⟩, hgd, kp, hl⟩
theorem u1 {k : Nat} {A : Around} (h : Room k A) : A.units + 1 < cLine := by have := h.un; omega
theorem u64 {k : Nat} {A : Around} (h : Room k A) : A.units + 64 < cLine := by have := h.un; omega
theorem u65 {k : Nat} {A : Around} (h : Room k A) : A.units + 65 < cLine := by have := h.un; omega
/-! ### match -/
abbrev MM := PV → MS
def tMm (K : PySem.W.Frag) (Z : Zs) (W : WX) (m : MM) : TM := fun v D σ H => ∃ ι L τ x, Wd K Z.f ι L H ∧ SR K Z ι H τ σ ∧ VR K Z.f ι H x v ∧ gs K Z W (m x τ L) ι H D
theorem PMs.imp {X : Cx} {cs : List MatchCase} {t t' : TM} (h : PMs X cs t) (q : ∀ v D σ H, t' v D σ H → t v D σ H) : PMs X cs t' := ⟨fun pins s σ H D v u first I r z => h.run pins s σ H D v u first I r (q _ _ _ _ z)⟩
abbrev FM (Z : Zs) (X : Cx) (W : WX) (cs : List MatchCase) (m : MM) : Prop := PMs X cs (tMm X.K Z W m)
def sMt (me : ME) (m : MM) : MS := fun τ L => (me τ L).st τ fun x L1 => m x τ L1
theorem fs_match {cs : List MatchCase} {mm : MM} (he : FE Z X W e me) (hm : FM Z X W cs mm) : FS Z X W (.Match e cs pos) (sMt me mm) :=
  PS.imp (ps_match he hm) fun D σ H h => tS.st h fun τ x L1 ι1 u H1 w1 s1 r1 g1 => ⟨ι1, L1, τ, x, w1, s1, r1, g1⟩
section
variable {body : List Stmt} {rest : List MatchCase} {mB : MS} {mm : MM}
def mmA (m : MS) : MM := fun _ => m
theorem fm_any (hb : FSs Z X W body mB) : FM Z X W (⟨.MatchAs none none pp, none, body⟩ :: rest) (mmA mB) :=
  PMs.imp (pm_any hb) fun v D σ H ⟨ι, L, τ, x, w, s, r, g⟩ => ⟨ι, L, τ, w, s, g⟩
def mmS (zs : List Str) (m : MS) (mm : MM) : MM := fun x τ L => match x with
  | .str z => if z ∈ zs then m τ L else mm x τ L
  | _ => .no
theorem mmS_ok {zs : List Str} {v : V} {D : Ends} {σ : L2.St} {H : Hp} (h : tMm X.K Z W (mmS zs mB mm) v D σ H) : tStrCase zs (tS X.K Z W mB) (tMm X.K Z W mm) v D σ H := by
  obtain ⟨ι, L, τ, x, w, s, r, g⟩ := h
  cases x with
  | str z =>
    refine ⟨z, r.s, fun hz => ⟨ι, L, τ, w, s, ?_⟩, fun hz => ⟨ι, L, τ, .str z, w, s, r, ?_⟩⟩
    · have e : mmS zs mB mm (.str z) τ L = mB τ L := if_pos hz
      rw [e] at g; exact g
    · have e : mmS zs mB mm (.str z) τ L = mm (.str z) τ L := if_neg hz
      rw [e] at g; exact g
  | _ => exact g.elim
theorem fm_str1 {c : Str} {j : Nat} {p : Pos} (hb : FSs Z X W body mB) (hr : FM Z X W rest mm) : FM Z X W (⟨.MatchValue (.Constant (.str c) j p) pp, none, body⟩ :: rest) (mmS [c] mB mm) :=
  PMs.imp (pm_str1 hb hr) fun v D σ H h => mmS_ok h
theorem fm_str2 {c d : Str} {j k : Nat} {p q p' q' : Pos} (hb : FSs Z X W body mB) (hr : FM Z X W rest mm) :
    FM Z X W (⟨.MatchOr [.MatchValue (.Constant (.str c) j p) p', .MatchValue (.Constant (.str d) k q) q'] pp, none, body⟩ :: rest) (mmS [c, d] mB mm) :=
  PMs.imp (pm_str2 hb hr) fun v D σ H h => mmS_ok h
end
/-! ### T.get(k, x) of a written table -/
def tabV (tab : List (Str × PV)) (z : Str) : Option V := match tab.lookup z with
  | some x => toV x
  | none => none
def eKG (tab : List (Str × PV)) (me mf : ME) : ME := fun τ L => (me τ L).bind fun y L1 => (mf τ L1).bind fun z L2 => match y with
  | .str k => (match tab.lookup k with
    | some x => if (toV x).isSome then .ok x L2 else .no
    | none => .ok z L2)
  | _ => .no
theorem toV_vr {K : PySem.W.Frag} {ga : Ga} {ι : List Addr} {H : Hp} {x : PV} {u : V} (h : toV x = some u) : VR K ga ι H x u := by
  cases x <;> simp [toV] at h <;> subst h <;> simp [VR]
theorem fe_kget {f : Expr} {x : Str} {d : Addr} {tab : List (Str × PV)} (T : KTab X.K X.w d (tabV tab)) (hg : Gl X x) (hm : X.mg x = some (.ref d)) (he : FE Z X W e me) (hf : FE Z X W f mf) (m : M2 X (.Name x p) "get" apos e f cpos) (hdb : (x == ("__debug__" : Str)) = false := by decide) :
    FE Z X W (.Call (.Attribute (.Name x p) "get" apos) [e, f] [] cpos) (eKG tab me mf) :=
  PE.imp (pe_kget2 T hg hm he hf m hdb) fun σ H Q h => tM.bind h fun τ y L1 ι1 u H1 w1 s1 r1 g1 => ⟨ι1, L1, τ, w1, s1, gd.bind g1 fun z L2 ι2 v H2 _ e2 w2 r2 g2 => by
    cases y with
    | str k =>
      refine ⟨k, (r1.up e2).s, ?_⟩
      dsimp only at g2
      unfold tabV
      cases hl : tab.lookup k with
      | none => rw [hl] at g2; exact g2.ok w2 r2
      | some x =>
        rw [hl] at g2
        dsimp only at g2 ⊢
        cases ht : toV x with
        | none => rw [ht] at g2; exact g2.elim
        | some u => rw [ht] at g2; exact g2.ok w2 (toV_vr ht)
    | _ => exact g2.elim⟩
/-! ### walking a text -/
def iS (m : ME) : MI := fun τ L => (m τ L).bind fun x L1 => match x with
  | .str z => if z.length ≤ sizeLine then .ok (.vals (z.cps.toList.map fun c => .str ⟨#[c]⟩)) L1 else .no
  | _ => .no
/-! ### {} -/
def eD0 : ME := fun _ L => .ok (.obj L.length) (L ++ [.dct []])
theorem fe_dct0 : FE Z X W (.Dict [] [] pos) eD0 := PE.imp pe_dnewK fun σ H Q ⟨ι, L, τ, w, s, g⟩ p hp => by
  have e := Ext.alloc (K := X.K) (ι := ι) (o := .dK []) hp
  exact g _ _ (.ref p) e (w.alloc (o := .dct []) hp ⟨[], rfl, rfl⟩) ⟨p, by rw [← w.len]; simp, rfl⟩
end
end FL
/-! FLO: walking a text, sequence patterns, a text times an int. -/
namespace FL
open PySem PySem.Spec PyProof.Rows L2
section
variable {X : Cx} {Z : Zs} {W : WX} {e o a b i : Expr} {ma mb mo mi me mf : ME} {pos cpos apos p pp pq : Pos} {es : List Expr} {mr : MA} {ga : Ga} {K : PySem.W.Frag}
theorem walks_str {z : Str} {ι : List Addr} {H : Hp} : Walks K ga ι H (.vals (z.cps.toList.map fun c => .str ⟨#[c]⟩)) (Its z) := by
  intro ι2 L2 H2 e w i
  refine ⟨fun h => ?_, fun x h => ?_⟩
  · have h' : (z.cps.toList.map fun c => PV.str ⟨#[c]⟩)[i]? = none := by simpa [Src.get] using h
    have := List.getElem?_eq_none_iff.mp h'
    rw [List.length_map, Array.length_toList] at this; exact this
  · have h' : (z.cps.toList.map fun c => PV.str ⟨#[c]⟩)[i]? = some x := by simpa [Src.get] using h
    rw [List.getElem?_map] at h'
    obtain ⟨c, q1, rfl⟩ := Option.map_eq_some_iff.mp h'
    have q2 : z.cps[i]? = some c := by simpa using q1
    refine ⟨(Array.getElem?_eq_some_iff.mp q2).1, fun v H3 hy => ?_⟩
    obtain ⟨rfl, c', q3, rfl⟩ := hy
    rw [q2] at q3; cases q3
    exact ⟨Ext.refl, w, vrs⟩
/-- a list, a tuple or a text -/
def iA (m : ME) : MI := fun τ L => (m τ L).bind fun x L1 => match x with
  | .tup xs => .ok (.vals xs) L1
  | .rol xs => .ok (.vals xs) L1
  | .str z => .ok (.vals (z.cps.toList.map fun c => .str ⟨#[c]⟩)) L1
  | .obj n => (match L1[n]? with
    | some (.lst _) => .ok (.at_ n) L1
    | _ => .no)
  | _ => .no
theorem fi_a {tg : Expr} (h : FE Z X W e me) : FI Z X W tg e (iA me) := PI.imp (PI.or (pi_list h) (PI.or (pi_tup h) (pi_str h))) fun σ H Rr ⟨ι, L, τ, w, s, g⟩ => by
  by_cases h1 : ∃ xs L', me τ L = .ok (.tup xs) L'
  · obtain ⟨xs, L', e1⟩ := h1
    refine .inr (.inl ⟨ι, L, τ, w, s, gd.bind g fun x L1 ι1 u H1 e2 ext1 w1 r1 g1 => ?_⟩)
    rw [e1] at e2; cases e2
    obtain ⟨a, ys, rfl, h1, h2⟩ := r1
    exact ⟨a, rfl, ⟨ys, h1⟩, g1.ok w1 (walks_tup h1 h2)⟩
  · by_cases h2 : ∃ z L', me τ L = .ok (.str z) L'
    · obtain ⟨z, L', e1⟩ := h2
      refine .inr (.inr ⟨ι, L, τ, w, s, gd.bind g fun x L1 ι1 u H1 e2 ext1 w1 r1 g1 => ?_⟩)
      rw [e1] at e2; cases e2
      exact ⟨z, r1.s, g1.ok w1 walks_str⟩
    · refine .inl ⟨ι, L, τ, w, s, gd.bind g fun x L1 ι1 u H1 e2 ext1 w1 r1 g1 => ?_⟩
      cases x with
      | tup xs => exact (h1 ⟨xs, _, e2⟩).elim
      | str z => exact (h2 ⟨z, _, e2⟩).elim
      | rol xs =>
        obtain ⟨a, ys, rfl, h1, h2⟩ := r1
        exact ⟨a, rfl, ⟨ys, h1.sq⟩, g1.ok w1 (walks_rol h1 h2)⟩
      | obj n =>
        cases hl : L1[n]? with
        | none => simp only [hl] at g1; exact g1.elim
        | some o =>
          cases o with
          | lst xs =>
            simp only [hl] at g1
            obtain ⟨a, ys, rfl, hn, h1, h2⟩ := lst_at w1 r1 hl
            exact ⟨a, rfl, ⟨ys, SqL.of h1⟩, g1.ok w1 (walks_list hn)⟩
          | _ => simp only [hl] at g1; exact g1.elim
      | _ => exact g1.elim
/-! ### sequence patterns -/
mutual
/-- data that a pattern may look at -/
def daq (L : LH) : Nat → PV → Option PyData
  | 0, _ => none
  | n + 1, x => match x with
    | .non => some .none
    | .bl b => some (.bool b)
    | .int i => some (.int i)
    | .str z => if z.length ≤ sizeLine then some (.str z) else none
    | .tup xs => (daqL L n xs).map .tuple
    | .rol xs => (daqL L n xs).map .list
    | .obj k => match L[k]? with
      | some (.lst xs) => (daqL L n xs).map .list
      | some (.dct []) => some (.dict [])
      | _ => none
    | _ => none
def daqL (L : LH) : Nat → List PV → Option (List PyData)
  | _, [] => some []
  | 0, _ :: _ => none
  | n + 1, x :: xs => match daq L n x, daqL L n xs with
    | some d, some ds => some (d :: ds)
    | _, _ => none
end
section
variable {ι : List Addr} {H : Hp} {L : LH}
mutual
theorem daq_ok (w : Wd K ga ι L H) : ∀ (n : Nat) (x : PV) (v : V) (d : PyData), VR K ga ι H x v → daq L n x = some d → Dq K H v d
  | 0, _, _, _, _, e => by simp [daq] at e
  | n + 1, x, v, d, r, e => by
    cases x with
    | non => obtain rfl := r.n
             simp [daq] at e; subst e; exact .non
    | bl b => obtain rfl := r.b
              simp [daq] at e; subst e; exact .bl b
    | int i => obtain rfl := r.i
               simp [daq] at e; subst e; exact .int i
    | str z =>
      obtain rfl := r.s
      simp only [daq] at e
      split at e
      · rename_i hz; cases e; exact .str z hz
      · cases e
    | tup xs =>
      obtain ⟨a, ys, rfl, h1, h2⟩ := r
      simp only [daq] at e
      cases q : daqL L n xs with
      | none => rw [q] at e; cases e
      | some ds => rw [q] at e; cases e; exact .tup h1 (daqL_ok w n xs ys ds h2 q)
    | rol xs =>
      obtain ⟨a, ys, rfl, h1, h2⟩ := r
      simp only [daq] at e
      cases q : daqL L n xs with
      | none => rw [q] at e; cases e
      | some ds => rw [q] at e; cases e; exact .lst h1.sq (daqL_ok w n xs ys ds h2 q)
    | obj k =>
      obtain ⟨a, h1, rfl⟩ := r
      simp only [daq] at e
      cases hl : L[k]? with
      | none => rw [hl] at e; cases e
      | some o =>
        rw [hl] at e
        cases o with
        | lst xs =>
          obtain ⟨ho, q1, ys, rfl, q2⟩ := w.at_ k a _ h1 hl
          cases q : daqL L n xs with
          | none => simp only [q] at e; cases e
          | some ds => simp only [q] at e; cases e; exact .lst (SqL.of q1) (daqL_ok w n xs ys ds q2 q)
        | dct kvs =>
          cases kvs with
          | nil =>
            obtain ⟨ho, q1, l, rfl, q2⟩ := w.at_ k a _ h1 hl
            cases (show l = [] from q2)
            simp only [] at e
            cases e
            exact .dct q1
          | cons => cases e
        | _ => cases e
    | glo _ => simp [daq] at e
    | ty _ => simp [daq] at e
theorem daqL_ok (w : Wd K ga ι L H) : ∀ (n : Nat) (xs : List PV) (vs : List V) (ds : List PyData), VRs K ga ι H xs vs → daqL L n xs = some ds → DqA K H vs ds
  | _, [], _, _, r, e => by cases (show _ = [] from r); simp [daqL] at e; subst e; exact .nil
  | 0, _ :: _, _, _, _, e => by simp [daqL] at e
  | n + 1, x :: xs, _, ds, r, e => by
    obtain ⟨y, ys, rfl, r1, r2⟩ := r
    simp only [daqL] at e
    cases q1 : daq L n x with
    | none => rw [q1] at e; cases e
    | some d =>
      rw [q1] at e
      cases q2 : daqL L n xs with
      | none => rw [q2] at e; cases e
      | some ds' => rw [q2] at e; cases e; exact .cons (daq_ok w n x y d r1 q1) (daqL_ok w n xs ys ds' r2 q2)
end
end
/-- what stands in a value that a pattern of names may meet -/
def seqOf (x : PV) (L : LH) : Option (List PV) := match x with
  | .tup xs => some xs
  | .rol xs => some xs
  | .obj n => match L[n]? with
    | some (.lst xs) => some xs
    | _ => none
  | _ => none
theorem seqOf_len {x : PV} {L : LH} {d : PyData} {n : Nat} (h : daq L 60 x = some d) (hs : ∀ xs, seqOf x L = some xs → xs.length ≠ n) : seqLen d ≠ some n := by
  have k : ∀ (m : Nat) (xs : List PV) (ds : List PyData), daqL L m xs = some ds → xs.length = ds.length := by
    intro m
    induction m with
    | zero => intro xs ds h; cases xs with
      | nil => simp [daqL] at h; subst h; rfl
      | cons => simp [daqL] at h
    | succ m ih =>
      intro xs ds h
      cases xs with
      | nil => simp [daqL] at h; subst h; rfl
      | cons x xs =>
        simp only [daqL] at h
        cases q1 : daq L m x with
        | none => rw [q1] at h; cases h
        | some d =>
          rw [q1] at h
          cases q2 : daqL L m xs with
          | none => rw [q2] at h; cases h
          | some ds' => rw [q2] at h; cases h; simp [ih xs ds' q2]
  cases x with
  | tup xs =>
    simp only [daq] at h
    cases q : daqL L 59 xs with
    | none => rw [q] at h; cases h
    | some ds => rw [q] at h; cases h; intro z; exact hs xs rfl ((k _ _ _ q).trans (Option.some.inj z))
  | rol xs =>
    simp only [daq] at h
    cases q : daqL L 59 xs with
    | none => rw [q] at h; cases h
    | some ds => rw [q] at h; cases h; intro z; exact hs xs rfl ((k _ _ _ q).trans (Option.some.inj z))
  | obj m =>
    simp only [daq] at h
    cases hl : L[m]? with
    | none => rw [hl] at h; cases h
    | some o =>
      rw [hl] at h
      cases o with
      | lst xs =>
        cases q : daqL L 59 xs with
        | none => simp only [q] at h; cases h
        | some ds => simp only [q] at h; cases h; intro z; exact hs xs (by simp only [seqOf, hl]) ((k _ _ _ q).trans (Option.some.inj z))
      | dct kvs => cases kvs with
        | nil => simp only [] at h; cases h; intro z; cases z
        | cons => cases h
      | _ => cases h
  | str z => simp only [daq] at h; split at h <;> cases h; intro z; cases z
  | non => simp [daq] at h; subst h; intro z; cases z
  | bl b => simp [daq] at h; subst h; intro z; cases z
  | int b => simp [daq] at h; subst h; intro z; cases z
  | glo b => simp [daq] at h
  | ty b => simp [daq] at h
/-- case (x1, ..): the slots is -/
def setAll : List Nat → List PV → Sl → Sl
  | i :: is, x :: xs, τ => setAll is xs (τ.set i (some x))
  | _, _, τ => τ
def mmQ (is : List Nat) (m : MS) (mm : MM) : MM := fun x τ L => if (daq L 60 x).isSome = true then (match seqOf x L with
  | some xs => if xs.length = is.length then m (setAll is xs τ) L else mm x τ L
  | none => mm x τ L) else .no
theorem seqOf_at {ι : List Addr} {H : Hp} {L : LH} {x : PV} {v : V} {d : PyData} {a : Addr} {xs : List V} {ds : List PyData} (w : Wd K ga ι L H) (r : VR K ga ι H x v) (h : daq L 60 x = some d) (hsl : seqLen d ≠ none) : ∃ ys, seqOf x L = some ys ∧ ∃ a vs, v = .ref a ∧ (SqT K H a vs ∧ (∃ ds, d = .tuple ds) ∨ SqL K H a vs ∧ ∃ ds, d = .list ds) ∧ VRs K ga ι H ys vs := by
  cases x with
  | tup xs =>
    obtain ⟨a, ys, rfl, h1, h2⟩ := r
    simp only [daq] at h
    cases q : daqL L 59 xs with
    | none => rw [q] at h; cases h
    | some ds => rw [q] at h; cases h; exact ⟨xs, rfl, a, ys, rfl, .inl ⟨h1, ds, rfl⟩, h2⟩
  | rol xs =>
    obtain ⟨a, ys, rfl, h1, h2⟩ := r
    simp only [daq] at h
    cases q : daqL L 59 xs with
    | none => rw [q] at h; cases h
    | some ds => rw [q] at h; cases h; exact ⟨xs, rfl, a, ys, rfl, .inr ⟨h1.sq, ds, rfl⟩, h2⟩
  | obj m =>
    simp only [daq] at h
    cases hl : L[m]? with
    | none => rw [hl] at h; cases h
    | some o =>
      rw [hl] at h
      cases o with
      | lst xs =>
        cases q : daqL L 59 xs with
        | none => simp only [q] at h; cases h
        | some ds =>
          simp only [q] at h; cases h
          obtain ⟨a, ys, rfl, _, h1, h2⟩ := lst_at w r hl
          exact ⟨xs, by simp only [seqOf, hl], a, ys, rfl, .inr ⟨SqL.of h1, ds, rfl⟩, h2⟩
      | dct kvs => cases kvs with
        | nil => simp only [] at h; cases h; exact (hsl rfl).elim
        | cons => cases h
      | _ => cases h
  | str z => simp only [daq] at h; split at h <;> cases h; exact (hsl rfl).elim
  | non => simp [daq] at h; subst h; exact (hsl rfl).elim
  | bl b => simp [daq] at h; subst h; exact (hsl rfl).elim
  | int b => simp [daq] at h; subst h; exact (hsl rfl).elim
  | glo b => simp [daq] at h
  | ty b => simp [daq] at h
/-! ### a text times an int -/
def repS (x : Str) (k : Int) : Str := if k < 1 then Str.empty else if (k == 1 || x.length == 0) = true then x else ⟨(List.replicate k.toNat x.cps).foldl (· ++ ·) #[]⟩
def rRepS : R2 := fun x y H Q => ∃ z k, x = .str z ∧ y = .int k ∧ 0 ≤ k ∧ k ≤ 1000 ∧ z.length ≤ 1000 ∧ Q (.str (repS z k)) H
theorem rep_size (c : Array Nat) : ∀ (m : Nat) (acc : Array Nat), (List.foldl (fun x1 x2 => x1 ++ x2) acc (List.replicate m c)).size = acc.size + m * c.size
  | 0, acc => by simp
  | m + 1, acc => by
    rw [List.replicate_succ, List.foldl_cons, rep_size c m (acc ++ c), Array.size_append, Nat.succ_mul]
    omega
theorem op_repS : OpR X (binaryOp .Mult) rRepS := by
  intro pins s σ H x y v u Q I rx ry h
  obtain ⟨z, k, rfl, rfl, h0, h1, hz, q⟩ := h
  obtain ⟨t, rfl⟩ := rx
  obtain ⟨t', rfl⟩ := ry
  refine P.mul_str ?_ (fun k1 _ z2 => ?_) (fun k1 _ => ?_) ?_
  · rw [decide_eq_false (by omega), decide_eq_false (by omega)]; rfl
  · have h3 : (z.length : Int) * k ≤ 1000 * 1000 := Int.mul_le_mul (by omega) h1 h0 (by omega)
    have h4 := (Int.le_ediv_iff_mul_le (a := (z.length : Int)) (b := 2 ^ 63 - 1) (show (0 : Int) < k by omega)).mpr (by omega)
    omega
  · have : z.length * k.toNat ≤ 1000 * 1000 := Nat.mul_le_mul hz (by omega)
    unfold Builtin.Str.tooLong
    rw [decide_eq_false]
    have e : sizeLine = 16777216 := rfl
    omega
  · unfold repS at q
    split
    · rename_i hk
      rw [if_pos hk] at q
      exact ⟨by decide, ⟨.str Str.empty, H, I.tok _, ⟨_, rfl⟩, q⟩⟩
    · rename_i hk
      rw [if_neg hk] at q
      split
      · rename_i h2
        rw [if_pos h2] at q
        exact ⟨.str z, H, I, ⟨_, rfl⟩, q⟩
      · rename_i h2
        rw [if_neg h2] at q
        refine ⟨?_, ⟨.str _, H, I.tok _, ⟨_, rfl⟩, q⟩⟩
        show (List.foldl (fun x1 x2 => x1 ++ x2) #[] (List.replicate k.toNat z.cps)).size ≤ sizeLine
        rw [rep_size]
        have h3 : k.toNat * z.cps.size ≤ 1000 * 1000 := Nat.mul_le_mul (by omega) hz
        have e : sizeLine = 16777216 := rfl
        have e0 : (#[] : Array Nat).size = 0 := rfl
        omega
def mulBF (x y : PV) (L : LH) : R PV := match x, y with
  | .str z, .int k => if 0 ≤ k ∧ k ≤ 1000 ∧ z.length ≤ 1000 then .ok (.str (repS z k)) L else .no
  | x, y => mulF x y L
def rMulB (K : PySem.W.Frag) : R2 := fun x y H Q => rRepS x y H Q ∨ rMulA K x y H Q
theorem op_mulB : OpR X (binaryOp .Mult) (rMulB X.K) := op_repS.or op_mulA
theorem mulBL : OpL K ga mulBF (rMulB K) := by
  intro W ι L H σ x y u v Q w rx ry g
  unfold mulBF at g
  split at g
  · split at g
    · rename_i hz
      exact .inl ⟨_, _, rx.s, ry.i, hz.1, hz.2.1, hz.2.2, g.ok w vrs⟩
    · exact g.elim
  · exact .inr (mulL W ι L H σ _ _ u v Q w rx ry g)
section
variable {body : List Stmt} {rest : List MatchCase} {mB : MS} {mm : MM} {D : Ends} {σ : L2.St} {H : Hp} {v : V}
theorem VRs.eq1 {ι : List Addr} {H : Hp} {xs : List PV} {y : V} (r : VRs K ga ι H xs [y]) : ∃ x, xs = [x] ∧ VR K ga ι H x y := by
  cases xs with
  | nil => cases (show _ = [] from r)
  | cons x xs =>
    obtain ⟨y', r', e, r1, r2⟩ := r
    cases e
    cases xs with
    | nil => exact ⟨x, rfl, r1⟩
    | cons => obtain ⟨_, _, e, _⟩ := r2; cases e
theorem VRs.eq2 {ι : List Addr} {H : Hp} {xs : List PV} {y z : V} (r : VRs K ga ι H xs [y, z]) : ∃ x x', xs = [x, x'] ∧ VR K ga ι H x y ∧ VR K ga ι H x' z := by
  cases xs with
  | nil => cases (show _ = [] from r)
  | cons x xs =>
    obtain ⟨y', r', e, r1, r2⟩ := r
    cases e
    obtain ⟨x', rfl, r3⟩ := VRs.eq1 r2
    exact ⟨x, x', rfl, r1, r3⟩
end
end
end FL
/-! FLP: sequence patterns. -/
namespace FL
open PySem PySem.Spec PyProof.Rows L2
section
variable {X : Cx} {Z : Zs} {W : WX} {pos p pp pq : Pos} {ga : Ga} {K : PySem.W.Frag} {body : List Stmt} {rest : List MatchCase} {mB : MS} {mm : MM}
theorem seq_patV {pins : List (Addr × Obj)} {s : Shared} {σ : L2.St} {H : Hp} {a : Addr} {xs : List V} {ps : List Pattern} {Q : Option (List (Str × Value)) → Shared → Prop} (hc : X.calm = true) (I : Inv X pins σ H s) (hs : SqT X.K H a xs ∨ SqL X.K H a xs)
    (hit : ∀ its s', xs.length = ps.length → Vals xs its → Inv X pins σ H s' → wpAny (model X.prog X.w) X.A (matchEach ps X.env its) Q X.xe s')
    (miss : xs.length ≠ ps.length → ∀ s', Inv X pins σ H s' → Q none s')
    (hstar : ps.findIdx? (·.isStar) = none := by rfl) (hwild : (ps.all fun p => p.isWildcard || (p.isStar && p.names.isEmpty)) = false := by rfl) :
    wpAny (model X.prog X.w) X.A (matchPattern (.MatchSequence ps pos) X.env (.ref a)) Q X.xe s := by
  have fit : ∀ {xs : List V} {its : List Value}, Vals xs its → xs.length ≤ sizeLine → (its.toArray.size : Int) < 2 ^ 63 := fun {xs its} r h => by
    have e := r.length
    have z := line63
    simp only [List.size_toArray]
    omega
  have kept : ∀ {h' : Heap}, Heap.ExtBut s.heap.objs.size s.heap h' → Inv X pins σ H { s with heap := h', toks := s.toks + 1 + 1 } := fun hx => I.kept (t' := s.toks + 1 + 1) fun b o e => hx b o (Nat.ne_of_lt (Heap.lt_size e)) e
  rcases hs with hs | hs
  · obtain ⟨its, rz, ht, hz⟩ := I.tuple hs
    have ei : its.toArray.size = xs.length := by simp [rz.length]
    by_cases hn : its.toArray.size = ps.length
    · refine matchSeq_tuple_hit ht (fit rz hz) hn ?_ hstar hwild
      rw [← hn]
      refine unpackItems_tuple (I.ok.hd hc) ht fun h' hx => ?_
      exact hit its _ (ei.symm.trans hn) rz (kept hx)
    · exact matchSeq_tuple_miss ht (fit rz hz) hn (miss (fun z => hn (by rw [ei]; exact z)) _ (I.tok _)) hstar hwild
  · obtain ⟨its, rz, pl, hz⟩ := I.list hs
    have hl' : s.heap.IsList a its.toArray := by
      obtain ⟨o, m, e, c, d, q⟩ := pl
      exact ⟨o, e, c, m, q⟩
    have ei : its.toArray.size = xs.length := by simp [rz.length]
    by_cases hn : its.toArray.size = ps.length
    · refine matchSeq_list_hit hl' (fit rz hz) hn ?_ hstar hwild
      rw [← hn]
      refine PySem.W.kun_itemsOf (I.ok.hd hc) hl' fun h' hx => ?_
      exact hit its _ (ei.symm.trans hn) rz (kept hx)
    · exact matchSeq_list_miss hl' (fit rz hz) hn (miss (fun z => hn (by rw [ei]; exact z)) _ (I.tok _)) hstar hwild
/-- the items, or no sequence -/
inductive SeqW (K : PySem.W.Frag) (H : Hp) : V → Option (List V) → Prop
  | sq {a : Addr} {xs : List V} (h : SqT K H a xs ∨ SqL K H a xs) : SeqW K H (.ref a) (some xs)
  | no {v : V} {d : PyData} (h : Dq K H v d) (n : seqLen d = none) : SeqW K H v none
def tSeqW (K : PySem.W.Frag) (n : Nat) (hit : List V → TS) (miss : TM) : TM := fun v D σ H => ∃ o, SeqW K H v o ∧ (match o with
  | some xs => (xs.length = n → hit xs D σ H) ∧ (xs.length ≠ n → miss v D σ H)
  | none => miss v D σ H)
/-- the names of a pattern, with their slots -/
def capsOf (ns : List (Str × Pos)) : List Pattern := ns.map fun q => .MatchAs none (some q.1) q.2
def setV : List Nat → List V → L2.St → L2.St
  | i :: is, x :: xs, σ => setV is xs (σ.set i (some x))
  | _, _, σ => σ
theorem caps_each {Q : Option (List (Str × Value)) → Shared → Prop} {E : Value → Shared → Prop} {s : Shared} : ∀ (ns : List (Str × Pos)) (its : List Value), its.length = ns.length → Q (some ((ns.map (·.1)).zip its)) s → wpAny (model X.prog X.w) X.A (matchEach (capsOf ns) X.env its) Q E s
  | [], [], _, q => wpAny_matchEach_nil q
  | [], _ :: _, h, _ => by cases h
  | _ :: _, [], h, _ => by cases h
  | q1 :: ns, v :: its, h, q => by
    refine wpAny_matchEach_cons (wpAny_matchPattern_Capture ?_)
    refine wpAny_mono (caps_each (Q := fun o s' => o = some ((ns.map (·.1)).zip its) ∧ s' = s) (E := E) ns its (by simpa using h) ⟨rfl, rfl⟩) (fun o s' e => ?_) fun _ _ z => z
    obtain ⟨rfl, rfl⟩ := e
    exact q
theorem pm_seqW1 {i : Nat} {x : Str} {t : TS} {r : TM} (hc : X.calm = true) (nd : X.N.Nodup) (hi : X.N[i]? = some x) (hx : X.env.scope.names.lookup x = some .local) (hb : PSs X body t) (hr : PMs X rest r) :
    PMs X (⟨.MatchSequence [.MatchAs none (some x) pp] pq, none, body⟩ :: rest) (tSeqW X.K 1 (fun xs D σ H => ∀ y, xs = [y] → t D (σ.set i (some y)) H) r) := by
  refine ⟨fun pins s σ H D v u first I rv hw => ?_⟩
  obtain ⟨o, ho, hw⟩ := hw
  cases ho with
  | no hd hn =>
    refine wpAny_matchCases_cons (seq_pat hc I rv hd (fun a xs ds its s' ev hs ha hl rz I' => ?_) (fun ne s' I' => hr.run pins s' σ H D v u false I' rv hw))
    rcases hs with ⟨rfl, _⟩ | ⟨rfl, _⟩ <;> cases hn
  | @sq a xs hs =>
    obtain ⟨h1, h2⟩ := hw
    obtain rfl : u = Value.ref a := rv
    refine wpAny_matchCases_cons (seq_patV hc I hs (fun its s' hl rz I' => ?_) (fun ne s' I' => hr.run pins s' σ H D (V.ref a) (Value.ref a) false I' rfl (h2 ne)))
    obtain ⟨y, rfl⟩ : ∃ y, xs = [y] := List.length_eq_one_iff.mp hl
    obtain ⟨z, rfl, ry⟩ := vals1 rz
    refine wpAny_matchEach_cons (wpAny_matchPattern_Capture (wpAny_matchEach_nil ?_))
    refine wpAny_assignInOrder_more (wpAny_bindName ?_)
    refine store_ok I' nd hi (.inl hx) ry (fun s2 I2 => ?_) (.inr hx)
    exact wpAny_assignInOrder_none (hb.run pins s2 _ H D I2 (h1 hl y rfl))
theorem pm_seqW2 {i j : Nat} {x z : Str} {pr : Pos} {t : TS} {r : TM} (hc : X.calm = true) (nd : X.N.Nodup) (hi : X.N[i]? = some x) (hj : X.N[j]? = some z) (hx : X.env.scope.names.lookup x = some .local) (hz : X.env.scope.names.lookup z = some .local) (hb : PSs X body t) (hr : PMs X rest r) :
    PMs X (⟨.MatchSequence [.MatchAs none (some x) pp, .MatchAs none (some z) pr] pq, none, body⟩ :: rest) (tSeqW X.K 2 (fun xs D σ H => ∀ y1 y2, xs = [y1, y2] → t D ((σ.set i (some y1)).set j (some y2)) H) r) := by
  refine ⟨fun pins s σ H D v u first I rv hw => ?_⟩
  obtain ⟨o, ho, hw⟩ := hw
  cases ho with
  | no hd hn =>
    refine wpAny_matchCases_cons (seq_pat hc I rv hd (fun a xs ds its s' ev hs ha hl rz I' => ?_) (fun ne s' I' => hr.run pins s' σ H D v u false I' rv hw))
    rcases hs with ⟨rfl, _⟩ | ⟨rfl, _⟩ <;> cases hn
  | @sq a xs hs =>
    obtain ⟨h1, h2⟩ := hw
    obtain rfl : u = Value.ref a := rv
    refine wpAny_matchCases_cons (seq_patV hc I hs (fun its s' hl rz I' => ?_) (fun ne s' I' => hr.run pins s' σ H D (V.ref a) (Value.ref a) false I' rfl (h2 ne)))
    obtain ⟨y1, y2, rfl⟩ : ∃ y1 y2, xs = [y1, y2] := by
      rcases xs with _ | ⟨y1, _ | ⟨y2, _ | ⟨_, _⟩⟩⟩ <;> first | cases hl; done | exact ⟨_, _, rfl⟩ | (simp at hl)
    obtain ⟨z1, z2, rfl, ry1, ry2⟩ := vals2 rz
    refine wpAny_matchEach_cons (wpAny_matchPattern_Capture (wpAny_matchEach_cons (wpAny_matchPattern_Capture (wpAny_matchEach_nil ?_))))
    refine wpAny_assignInOrder_more (wpAny_bindName ?_)
    refine store_ok I' nd hi (.inl hx) ry1 (fun s2 I2 => ?_) (.inr hx)
    refine wpAny_assignInOrder_more (wpAny_bindName ?_)
    refine store_ok I2 nd hj (.inl hz) ry2 (fun s3 I3 => ?_) (.inr hz)
    exact wpAny_assignInOrder_none (hb.run pins s3 _ H D I3 (h1 hl y1 y2 rfl))
/-- no sequence at all -/
def nonSeq (x : PV) (L : LH) : Bool := match x with
  | .non => true
  | .bl _ => true
  | .int _ => true
  | .str z => decide (z.length ≤ sizeLine)
  | .obj n => match L[n]? with
    | some (.dct []) => true
    | _ => false
  | _ => false
theorem seqW_of {ι : List Addr} {L : LH} {H : Hp} {x : PV} {v : V} (w : Wd K ga ι L H) (r : VR K ga ι H x v) : (∀ xs, seqOf x L = some xs → ∃ vs, SeqW K H v (some vs) ∧ VRs K ga ι H xs vs) ∧ (seqOf x L = none → nonSeq x L = true → SeqW K H v none) := by
  cases x with
  | tup xs => exact ⟨fun ys e => by cases e; obtain ⟨a, ys, rfl, h1, h2⟩ := r; exact ⟨ys, .sq (.inl h1), h2⟩, fun e => by cases e⟩
  | rol xs => exact ⟨fun ys e => by cases e; obtain ⟨a, ys, rfl, h1, h2⟩ := r; exact ⟨ys, .sq (.inr h1.sq), h2⟩, fun e => by cases e⟩
  | non => exact ⟨fun ys e => (by cases e), fun _ _ => by rw [r.n]; exact .no .non rfl⟩
  | bl b => exact ⟨fun ys e => (by cases e), fun _ _ => by rw [r.b]; exact .no (.bl b) rfl⟩
  | int b => exact ⟨fun ys e => (by cases e), fun _ _ => by rw [r.i]; exact .no (.int b) rfl⟩
  | str b => exact ⟨fun ys e => (by cases e), fun _ h => by rw [r.s]; exact .no (.str b (of_decide_eq_true h)) rfl⟩
  | glo b => exact ⟨fun ys e => (by cases e), fun _ h => by cases h⟩
  | ty b => exact ⟨fun ys e => (by cases e), fun _ h => by cases h⟩
  | obj n =>
    cases hl : L[n]? with
    | none => exact ⟨fun ys e => (by simp [seqOf, hl] at e), fun _ h => (by simp [nonSeq, hl] at h)⟩
    | some o =>
      cases o with
      | lst xs =>
        refine ⟨fun ys e => ?_, fun e => (by simp [seqOf, hl] at e)⟩
        simp only [seqOf, hl] at e; cases e
        obtain ⟨a, ys, rfl, _, h1, h2⟩ := lst_at w r hl
        exact ⟨ys, .sq (.inr (SqL.of h1)), h2⟩
      | dct kvs =>
        refine ⟨fun ys e => (by simp [seqOf, hl] at e), fun _ h => ?_⟩
        cases kvs with
        | nil =>
          obtain ⟨a, l, rfl, _, h1, h2⟩ := dct_at w r hl
          cases (show l = [] from h2)
          exact .no (.dct h1) rfl
        | cons => simp [nonSeq, hl] at h
      | fdct _ => exact ⟨fun ys e => (by simp [seqOf, hl] at e), fun _ h => (by simp [nonSeq, hl] at h)⟩
      | ins _ _ => exact ⟨fun ys e => (by simp [seqOf, hl] at e), fun _ h => (by simp [nonSeq, hl] at h)⟩
/-- case (x1, ..): the slots is -/
def mmW (is : List Nat) (m : MS) (mm : MM) : MM := fun x τ L => match seqOf x L with
  | some xs => if xs.length = is.length then m (setAll is xs τ) L else mm x τ L
  | none => if nonSeq x L = true then mm x τ L else .no
theorem fm_seq1 {i : Nat} {x : Str} (hc : X.calm = true) (nd : X.N.Nodup) (hi : X.N[i]? = some x) (hx : X.env.scope.names.lookup x = some .local) (hb : FSs Z X W body mB) (hr : FM Z X W rest mm) (hz : Z.ok i = true := by rfl) :
    FM Z X W (⟨.MatchSequence [.MatchAs none (some x) pp] pq, none, body⟩ :: rest) (mmW [i] mB mm) :=
  PMs.imp (pm_seqW1 hc nd hi hx hb hr) fun v D σ H ⟨ι, L, τ, x, w, s, r, g⟩ => by
    obtain ⟨h1, h2⟩ := seqW_of w r
    unfold mmW at g
    cases hq : seqOf x L with
    | none =>
      rw [hq] at g
      dsimp only at g
      split at g
      · rename_i hn
        exact ⟨none, h2 hq hn, ι, L, τ, x, w, s, r, g⟩
      · exact g.elim
    | some xs =>
      rw [hq] at g
      dsimp only at g
      obtain ⟨vs, q1, q2⟩ := h1 xs hq
      refine ⟨some vs, q1, fun hl y hy => ?_, fun hl => ?_⟩
      · rw [if_pos (by rw [q2.len]; exact hl)] at g
        subst hy
        obtain ⟨x', rfl, r'⟩ := VRs.eq1 q2
        exact ⟨ι, L, _, w, s.set i hz r', g⟩
      · rw [if_neg (by rw [q2.len]; exact hl)] at g
        exact ⟨ι, L, τ, x, w, s, r, g⟩
theorem fm_seq2 {i j : Nat} {x z : Str} {pr : Pos} (hc : X.calm = true) (nd : X.N.Nodup) (hi : X.N[i]? = some x) (hj : X.N[j]? = some z) (hx : X.env.scope.names.lookup x = some .local) (hy : X.env.scope.names.lookup z = some .local) (hb : FSs Z X W body mB) (hr : FM Z X W rest mm) (hz : Z.ok i = true := by rfl) (hz2 : Z.ok j = true := by rfl) :
    FM Z X W (⟨.MatchSequence [.MatchAs none (some x) pp, .MatchAs none (some z) pr] pq, none, body⟩ :: rest) (mmW [i, j] mB mm) :=
  PMs.imp (pm_seqW2 hc nd hi hj hx hy hb hr) fun v D σ H ⟨ι, L, τ, x, w, s, r, g⟩ => by
    obtain ⟨h1, h2⟩ := seqW_of w r
    unfold mmW at g
    cases hq : seqOf x L with
    | none =>
      rw [hq] at g
      dsimp only at g
      split at g
      · rename_i hn
        exact ⟨none, h2 hq hn, ι, L, τ, x, w, s, r, g⟩
      · exact g.elim
    | some xs =>
      rw [hq] at g
      dsimp only at g
      obtain ⟨vs, q1, q2⟩ := h1 xs hq
      refine ⟨some vs, q1, fun hl y1 y2 hy => ?_, fun hl => ?_⟩
      · rw [if_pos (by rw [q2.len]; exact hl)] at g
        subst hy
        obtain ⟨x1, x2, rfl, r1, r2⟩ := VRs.eq2 q2
        exact ⟨ι, L, _, w, (s.set i hz r1).set j hz2 r2, g⟩
      · rw [if_neg (by rw [q2.len]; exact hl)] at g
        exact ⟨ι, L, τ, x, w, s, r, g⟩
end
end FL
/-! FLQ: small facts for the printed texts. -/
namespace FL
open PySem PySem.Spec PyProof.Rows L2
theorem boot_b_isinstance : bootBuiltins "isinstance" = some (.builtin "isinstance") := by decide +kernel
theorem boot_b_len : bootBuiltins "len" = some (.builtin "len") := by decide +kernel
theorem boot_b_all : bootBuiltins "all" = some (.builtin "all") := by decide +kernel
theorem boot_b_any : bootBuiltins "any" = some (.builtin "any") := by decide +kernel
theorem boot_b_sum : bootBuiltins "sum" = some (.builtin "sum") := by decide +kernel
theorem boot_b_max : bootBuiltins "max" = some (.builtin "max") := by decide +kernel
theorem boot_b_min : bootBuiltins "min" = some (.builtin "min") := by decide +kernel
theorem boot_b_repr : bootBuiltins "repr" = some (.builtin "repr") := by decide +kernel
theorem boot_b_sorted : bootBuiltins "sorted" = some (.builtin "sorted") := by decide +kernel
theorem boot_t_int : bootBuiltins "int" = some (.type "int") := by decide +kernel
theorem boot_t_bool : bootBuiltins "bool" = some (.type "bool") := by decide +kernel
theorem boot_t_str : bootBuiltins "str" = some (.type "str") := by decide +kernel
theorem boot_t_tuple : bootBuiltins "tuple" = some (.type "tuple") := by decide +kernel
theorem boot_t_list : bootBuiltins "list" = some (.type "list") := by decide +kernel
theorem boot_t_dict : bootBuiltins "dict" = some (.type "dict") := by decide +kernel
section
variable {X : Cx} {K : PySem.W.Frag} {ga : Ga} {f : Str}
theorem gN_L {i : Nat} (x : PV) (τ : Sl) (L : LH) (τ' : Sl) (L' : LH) (h : gN i x τ L = .ok τ' L') : L' = L := by cases h; rfl
theorem cs_nil : ∀ C ∈ ([] : List Str), Cls K (ga C) ∧ NoAttr K (ga C) f := fun C h => nomatch h
theorem cs_cons {C : Str} {cs : List Str} (h : Cls K (ga C)) (n : NoAttr K (ga C) f) (r : ∀ C ∈ cs, Cls K (ga C) ∧ NoAttr K (ga C) f) : ∀ D ∈ C :: cs, Cls K (ga D) ∧ NoAttr K (ga D) f := fun D hd => by
  rcases List.mem_cons.mp hd with rfl | hd
  · exact ⟨h, n⟩
  · exact r D hd
theorem ps_nil : ∀ (C : Str) (m : Fn), ([] : List (Str × Fn)).lookup C = some m → Prp X ga C f m := fun C m h => nomatch h
theorem lookup_cons {α : Type} {C D : Str} {x : α} {l : List (Str × α)} {y : α} (h : ((C, x) :: l).lookup D = some y) : (D = C ∧ y = x) ∨ l.lookup D = some y := by
  rw [List.lookup_cons] at h
  cases q : D == C with
  | true => rw [q] at h; cases h; exact .inl ⟨beq_iff_eq.mp q, rfl⟩
  | false => rw [q] at h; exact .inr h
theorem ps_cons {C : Str} {m : Fn} {ps : List (Str × Fn)} (h : Prp X ga C f m) (r : ∀ (C : Str) (m : Fn), ps.lookup C = some m → Prp X ga C f m) : ∀ (D : Str) (m' : Fn), ((C, m) :: ps).lookup D = some m' → Prp X ga D f m' := fun D m' h' => by
  rcases lookup_cons h' with ⟨rfl, rfl⟩ | q
  · exact h
  · exact r _ _ q
theorem ms_nil : ∀ (C : Str) (m : Fn), ([] : List (Str × Fn)).lookup C = some m → Mt X ga C f m := fun C m h => nomatch h
theorem ms_cons {C : Str} {m : Fn} {ps : List (Str × Fn)} (h : Mt X ga C f m) (r : ∀ (C : Str) (m : Fn), ps.lookup C = some m → Mt X ga C f m) : ∀ (D : Str) (m' : Fn), ((C, m) :: ps).lookup D = some m' → Mt X ga D f m' := fun D m' h' => by
  rcases lookup_cons h' with ⟨rfl, rfl⟩ | q
  · exact h
  · exact r _ _ q
theorem prp {C : Str} {p g : Addr} {fd : FuncData} {ps : List Str} {k k0 : Nat} {m : Fn} (c : Cls X.K (ga C)) (hp : PropOf X.K (ga C) f p g) (F : FnM X.prog X.w X.K X.mg X.base ga k g fd ps m) (hb : Binds X.K fd ps []) (hgd : X.A.guards = some []) (hr : Room k0 X.A)
    (hk : k + 1 ≤ k0 := by first | decide | omega | (simp only [Nat.add_eq]; omega)) (hn : ps.length = 1 := by rfl) : Prp X ga C f m := ⟨c, ⟨p, g, k, fd, ps, hp, F, hr.mono hk, hb, hn⟩, hgd⟩
theorem mt {C : Str} {f' : Addr} {n : Nat} {m : Fn} (c : Cls X.K (ga C)) (h : Meth X.K (ga C) f f') (F : Def X ga f' n m) : Mt X ga C f m := ⟨c, f', n, h, F⟩
theorem ini {C : Str} {fi : Addr} {fd : FuncData} {ps ks : List Str} {k k0 n np : Nat} {m : Fn} {gP : List PV → List PV → List PV} (M : L2.Mk X.K (ga C) fi) (F : FnM X.prog X.w X.K X.mg X.base ga k fi fd ps m) (hb : BindF X.K ga fd ps (n + 1) ks gP) (hl : ∀ xs L, xs.length ≠ np → m xs L = .no) (hgd : X.A.guards = some []) (hr : Room k0 X.A)
    (hk : k + 1 ≤ k0 := by first | decide | omega | (simp only [Nat.add_eq]; omega)) (hn : ps.length = np := by rfl) : Ini X ga C n ks gP m := ⟨⟨fi, k, fd, ps, M, F, hr.mono hk, hb, fun xs L h => hl xs L (by rw [← hn]; exact h)⟩, hgd⟩
end
end FL
/-! FLR: own __getitem__, __contains__, __len__; stars; dict comprehensions. -/
namespace FL
open PySem PySem.Spec PyProof.Rows L2
section
variable {X : Cx} {Z : Zs} {W : WX} {e o a b : Expr} {ma mb mo me : ME} {pos p apos cpos : Pos} {es : List Expr} {mr : MA} {K : PySem.W.Frag} {ga : Ga}
/-! ### x[i] by an own __getitem__ -/
structure Mi (X : Cx) (ga : Ga) (C : Str) (mn : Str) (np : Nat) (m : Fn) : Prop where
  cl : Cls X.K (ga C)
  ex : ∃ (f : Addr) (k : Nat) (fd : FuncData) (ps : List Str), Meth X.K (ga C) mn f ∧ PySem.W.fnIn X.K f = true ∧ FnM X.prog X.w X.K X.mg X.base ga k f fd ps m ∧ Room (k + 1) X.A ∧ Binds X.K fd ps [] ∧ ps.length = np
  gd : X.A.guards = some []
  len : ∀ xs L, xs.length ≠ np → m xs L = .no
theorem mi {C mn : Str} {f : Addr} {fd : FuncData} {ps : List Str} {k k0 np : Nat} {m : Fn} (c : Cls X.K (ga C)) (h : Meth X.K (ga C) mn f) (hf : PySem.W.fnIn X.K f = true) (F : FnM X.prog X.w X.K X.mg X.base ga k f fd ps m) (hb : Binds X.K fd ps []) (hl : ∀ xs L, xs.length ≠ np → m xs L = .no) (hgd : X.A.guards = some []) (hr : Room k0 X.A)
    (hk : k + 1 ≤ k0 := by first | decide | omega | (simp only [Nat.add_eq]; omega)) (hn : ps.length = np := by rfl) : Mi X ga C mn np m := ⟨c, ⟨f, k, fd, ps, h, hf, F, hr.mono hk, hb, hn⟩, hgd, hl⟩
theorem Mi.run {np : Nat} {m : Fn} {pins : List (Addr × Obj)} {σ : L2.St} {H : Hp} {s : Shared} {Q : VK} {us : List Value} {vs : List V} {ι : List Addr} {L : LH} {xs : List PV} {f : Addr} {k : Nat} {fd : FuncData} {ps : List Str} (F : FnM X.prog X.w X.K X.mg X.base Z.f k f fd ps m) (hr : Room (k + 1) X.A) (hb : Binds X.K fd ps []) (hn : ps.length = np) (hgd : X.A.guards = some []) (hl : ∀ xs L, xs.length ≠ np → m xs L = .no)
    (tk : Tk X W) (I : Inv X pins σ H s) (r : Vals vs us) (wd : Wd X.K Z.f ι L H) (rx : VRs X.K Z.f ι H xs vs) (g : FL.gd X.K Z.f W (VR X.K Z.f) (m xs L) ι H σ fun _ _ _ v H' => Q v H') : wpAny (model X.prog X.w) X.A.in1 (call (.ref f) us) (EP X pins σ Q) X.xe s := by
  have hlen : vs.length = ps.length := by
    rw [← rx.len]
    by_cases h : xs.length = ps.length
    · exact h
    · rw [hl xs L (by rw [← hn]; exact h)] at g; exact g.elim
  have hsp : spM ps.length X.K Z.f m vs H Q (fun c d H => W c d σ H) := ⟨hlen, ι, L, xs, wd, rx, g⟩
  have hu : us.length = ps.length := r.length ▸ hlen
  have hb' := hb s us I.kIn (by rw [List.append_nil]; exact hu)
  rw [List.append_nil] at hb'
  refine wpAny_call (codeAny_mono (F.run X.A.in1 X.stack s H ⟨us, []⟩ us vs Q _ hgd hr.in1 I.env0.in1 hb' r hsp) fun r s' hq => ?_)
  match r, hq with
  | .error e, hq => exact tk pins σ H s _ e s' I (fun _ _ _ z => z) hq
  | .ok (.ret u), hq => exact I.after hq
  | .ok .next, hq => exact hq.elim
  | .ok .brk, hq => exact hq.elim
  | .ok .cont, hq => exact hq.elim
def eIxO (ms : List (Str × Fn)) (ma mb : ME) : ME := fun τ L => (ma τ L).bind fun x L1 => (mb τ L1).bind fun y L2 => match mFind "__getitem__" ms x L2 with
  | some m => m [x, y] L2
  | none => ixF x y L2
theorem mFind_atM {P : Str → Fn → Prop} {mn : Str} {ms : List (Str × Fn)} (hm : ∀ C m, ms.lookup C = some m → P C m) {x : PV} {L : LH} {ι : List Addr} {H : Hp} {v : V} {m : Fn} (w : Wd X.K Z.f ι L H) (r : VR X.K Z.f ι H x v) (h : mFind mn ms x L = some m) :
    ∃ C a dx l, v = .ref a ∧ H a = some (.ins (Z.f C) dx l) ∧ l.lookup mn = none ∧ P C m := by
  unfold mFind at h
  split at h
  · rename_i n C fs hi
    obtain ⟨rfl, hl, a, dx, l, rfl, hn, ea, rf⟩ := insOf_at w r hi
    split at h
    · rename_i hf
      exact ⟨C, a, dx, l, rfl, ea, rf.none hf, hm C m h⟩
    · cases h
  · cases h
theorem is_nil {mn : Str} {np : Nat} : ∀ (C : Str) (m : Fn), ([] : List (Str × Fn)).lookup C = some m → Mi X ga C mn np m := fun C m h => nomatch h
theorem is_cons {C mn : Str} {np : Nat} {m : Fn} {ps : List (Str × Fn)} (h : Mi X ga C mn np m) (r : ∀ (C : Str) (m : Fn), ps.lookup C = some m → Mi X ga C mn np m) : ∀ (D : Str) (m' : Fn), ((C, m) :: ps).lookup D = some m' → Mi X ga D mn np m' := fun D m' h' => by
  rcases lookup_cons h' with ⟨rfl, rfl⟩ | q
  · exact h
  · exact r _ _ q
theorem fe_ixO {ms : List (Str × Fn)} (hm : ∀ C m, ms.lookup C = some m → Mi X Z.f C "__getitem__" 2 m) (tk : Tk X W) (hu : X.A.units + 1 < cLine) (ha : FE Z X W a ma) (hb : FE Z X W b mb) (hs : PlainIx b)
    (hs2 : ∀ v i, subscripted b true v i = runValue (.builtin "lifetime.subscript" ⟨[v, i], []⟩) := by intro _ _; with_unfolding_all rfl) : FE Z X W (.Subscript a b pos) (eIxO ms ma mb) := by
  refine ⟨fun pins s σ H Q I ⟨ι, L, τ, w, sr, g⟩ => ?_⟩
  cases hD : (match ma τ L with | .ok x L1 => (match mb τ L1 with | .ok _ L2 => (mFind "__getitem__" ms x L2).isSome | _ => false) | _ => false) with
  | false =>
    refine (fe_ix hu ha hb hs).run pins s σ H Q I ⟨ι, L, τ, w, sr, ?_⟩
    unfold eIxO at g
    unfold eOp
    cases h1 : ma τ L with
    | no => rw [h1] at g; exact g
    | ex => rw [h1] at g; exact g
    | ok x L1 =>
      rw [h1] at g hD
      unfold R.bind at g ⊢
      dsimp only at g hD ⊢
      cases h2 : mb τ L1 with
      | no => rw [h2] at g; exact g
      | ex => rw [h2] at g; exact g
      | ok y L2 =>
        rw [h2] at g hD
        dsimp only at g hD ⊢
        cases h3 : mFind "__getitem__" ms x L2 with
        | none => rw [h3] at g; exact g
        | some m => rw [h3] at hD; cases hD
  | true =>
    refine Subscript_ (binT (ta := tM X.K Z W (VR X.K Z.f) ma) (tb := tM X.K Z W (VR X.K Z.f) mb) (R := fun x y H2 => ∃ ι2 L2 px py m, Wd X.K Z.f ι2 L2 H2 ∧ VR X.K Z.f ι2 H2 px x ∧ VR X.K Z.f ι2 H2 py y ∧ mFind "__getitem__" ms px L2 = some m ∧ gd X.K Z.f W (VR X.K Z.f) (m [px, py] L2) ι2 H2 σ fun _ _ _ v H' => Q v H') ha hb I
      ⟨ι, L, τ, w, sr, gd.bind g fun x L1 ι1 u H1 e1 ext1 w1 r1 g1 => ⟨ι1, L1, τ, w1, sr.up ext1, gd.bind g1 fun y L2 ι2 v H2 e2 ext2 w2 r2 g2 => ?_⟩⟩ fun v u s2 x y H2 I2 rx ry q => ?_)
    · rw [e1] at hD
      simp only [e2] at hD
      obtain ⟨m, hm'⟩ := Option.isSome_iff_exists.mp hD
      rw [hm'] at g2
      exact ⟨ι2, L2, x, y, m, w2, r1.up ext2, r2, hm', g2⟩
    · obtain ⟨ι2, L2, px, py, m, w2, r1, r2, hm', g2⟩ := q
      obtain ⟨C, a', dx, l, rfl, ea, ln, c, ⟨f, k, fd, ps, hme, hfn, F, hr, hbd, hn⟩, hgd, hlen⟩ := mFind_atM hm w2 r1 hm'
      obtain rfl : v = Value.ref a' := rx
      obtain ⟨mA, J, _⟩ := ins_get I2.hok ea
      obtain ⟨od, J, _⟩ := J.look
      obtain ⟨m0, hF⟩ := I2.fr
      refine PySem.W.sub_K hF I2.ok.mod.kin J hme.at_ hfn hme.fn ?_ (hs2 _ _)
      exact Mi.run (us := [Value.ref a', u]) (vs := [V.ref a', y]) (xs := [px, py]) F hr hbd hn hgd hlen tk I2 (.cons rfl (.cons ry .nil)) w2 ⟨_, _, rfl, r1, _, _, rfl, r2, rfl⟩ g2
/-! ### x in y by an own __contains__ -/
def ownInF (neg : Bool) (ms : List (Str × Fn)) (x y : PV) (L : LH) : R PV := match mFind "__contains__" ms y L with
  | some m => (m [y, x] L).noex.bind fun r L1 => match r with
    | .bl b => .ok (.bl (xor neg b)) L1
    | _ => .no
  | none => if neg = true then ninF x y L else inF x y L
def rOwnIn (K : PySem.W.Frag) (ga : Ga) (ms : List (Str × Fn)) (neg : Bool) : R2 := fun u v H Q => ∃ ι L x y m, Wd K ga ι L H ∧ VR K ga ι H x u ∧ VR K ga ι H y v ∧ mFind "__contains__" ms y L = some m ∧ gd K ga W0 (VR K ga) (m [y, x] L).noex ι H ([] : L2.St) fun _ _ _ v H' => ∃ b, v = .bl b ∧ Q (.bl (xor neg b)) H'
theorem own_in {ms : List (Str × Fn)} (hm : ∀ C m, ms.lookup C = some m → Mt X Z.f C "__contains__" m) (neg : Bool) : OpR X (compareOp (if neg = true then .NotIn else .In)) (rOwnIn X.K Z.f ms neg) := by
  intro pins s σ H x y v u Q I rx ry h
  obtain ⟨ι, L, px, py, m, w, r1, r2, hf, g⟩ := h
  obtain ⟨C, a', dx, l, rfl, ea, ln, c, f, n, hme, F⟩ := mFind_at hm w r2 hf
  obtain rfl : u = Value.ref a' := ry
  obtain ⟨mA, J, _⟩ := ins_get I.hok ea
  obtain ⟨od, J, _⟩ := J.look
  obtain ⟨m0, hF⟩ := I.fr
  have g' : gd X.K Z.f W0 (VR X.K Z.f) (m [py, px] L) ι H σ fun _ _ _ v H' => ∃ b, v = .bl b ∧ Q (.bl (xor neg b)) H' := by
    cases hq : m [py, px] L with
    | ok x' L' => rw [hq] at g; exact g
    | ex => rw [hq] at g; exact g.elim
    | no => rw [hq] at g; exact g.elim
  have call := F.run (Q := fun v H' => ∃ b, v = .bl b ∧ Q (.bl (xor neg b)) H') (us := [.ref a', v]) (vs := [.ref a', x]) (xs := [py, px]) (W := W0) (tk_0) I (.cons rfl (.cons rx .nil)) w ⟨_, _, rfl, r2, _, _, rfl, r1, rfl⟩ g'
  cases neg with
  | true =>
    refine PySem.W.notIn_K hF I.ok.mod.kin J hme.at_ hme.fn (wpAny_mono call (fun r s' hq => ?_) fun _ _ z => z)
    obtain ⟨z, H', I', rz, b, rfl, q⟩ := hq
    obtain rfl : r = Value.bool b := rz
    exact wpAny_truthy_bool ⟨.bl (!b), H', I', rfl, by simpa using q⟩
  | false =>
    refine PySem.W.in_K hF I.ok.mod.kin J hme.at_ hme.fn (wpAny_mono call (fun r s' hq => ?_) fun _ _ z => z)
    obtain ⟨z, H', I', rz, b, rfl, q⟩ := hq
    obtain rfl : r = Value.bool b := rz
    exact wpAny_truthy_bool ⟨.bl b, H', I', rfl, by simpa using q⟩
def rInO (K : PySem.W.Frag) (ga : Ga) (ms : List (Str × Fn)) (neg : Bool) : R2 := fun x y H Q => rOwnIn K ga ms neg x y H Q ∨ rInA K neg x y H Q
theorem op_inO {ms : List (Str × Fn)} (hm : ∀ C m, ms.lookup C = some m → Mt X Z.f C "__contains__" m) (hu : X.A.units + 1 < cLine) : OpR X (compareOp .In) (rInO X.K Z.f ms false) := (own_in hm false).or (op_inA hu)
theorem op_ninO {ms : List (Str × Fn)} (hm : ∀ C m, ms.lookup C = some m → Mt X Z.f C "__contains__" m) (hu : X.A.units + 1 < cLine) : OpR X (compareOp .NotIn) (rInO X.K Z.f ms true) := (own_in hm true).or (op_ninA hu)
theorem inOL {ms : List (Str × Fn)} (neg : Bool) : OpL K ga (ownInF neg ms) (rInO K ga ms neg) := by
  intro W ι L H σ x y u v Q w rx ry g
  unfold ownInF at g
  cases hf : mFind "__contains__" ms y L with
  | some m =>
    rw [hf] at g
    refine .inl ⟨ι, L, x, y, m, w, rx, ry, hf, ?_⟩
    dsimp only at g
    cases hq : m [y, x] L with
    | ok r L' =>
      rw [hq] at g
      intro ι' H' v' e' w' r'
      cases r with
      | bl b => exact ⟨b, r'.b, g ι' H' _ e' w' vrb⟩
      | _ => exact g.elim
    | ex => rw [hq] at g; exact g.elim
    | no => rw [hq] at g; exact g.elim
  | none =>
    rw [hf] at g
    refine .inr ?_
    cases neg with
    | true => exact ninL W ι L H σ x y u v Q w rx ry g
    | false => exact inL W ι L H σ x y u v Q w rx ry g
/-! ### stars -/
def aS (mq : MV) (mr : MA) : MA := fun τ L => (mq τ L).bind fun xs L1 => (mr τ L1).bind fun ys L2 => .ok (xs ++ ys) L2
theorem fa_star {mq : MV} (h : FQ Z X W e mq) (hr : FA Z X W es mr) (hs : starEach (.Starred e p :: es) X.env = (true, eval e X.env) :: starEach es X.env := by rfl) : FA Z X W (.Starred e p :: es) (aS mq mr) :=
  PA.imp (StX.pa_star h hr hs) fun σ H Q h => tM.bind h fun τ xs L1 ι1 u H1 w1 s1 r1 g1 => by
    obtain ⟨a, ys, rfl, h1, h2⟩ := r1
    exact ⟨a, ys, rfl, h1.symm, ι1, L1, τ, w1, s1, gd.bind g1 fun zs L2 ι2 us H2 _ e2 w2 r2 g2 => g2.ok w2 ((h2.up e2).app r2)⟩
end
end FL
/-! FLS: dict comprehensions, stars over items. -/
namespace FL
open PySem PySem.Spec PyProof.Rows L2
def compD (s : Src) (g : MG) (t : MT) (mk mv : ME) : Nat → Nat → List (Key × PV) → Sl → LH → R (List (Key × PV))
  | 0, _, _, _, _ => .no
  | n + 1, i, acc, τ, L => match s.get L i with
    | none => .no
    | some none => .ok acc L
    | some (some x) => match g x τ L with
      | .ok τ1 _ => (t τ1 L).bind0 fun b L2 => if b = true then (mk τ1 L2).bind0 fun y L3 => (mv τ1 L3).bind0 fun z L4 => match toK y with
          | some k => if acc.length < sizeLine then compD s g t mk mv n (i + 1) (putD acc k z) τ L4 else .no
          | none => .no else compD s g t mk mv n (i + 1) acc τ L2
      | _ => .no
def eDc (mi : MI) (g : MG) (t : MT) (mk mv : ME) (own : List Nat) : ME := fun τ L => (mi τ L).bind fun s L1 => (compD s g t mk mv (s.len L1 + 1) 0 [] (wipeP τ own) L1).bind fun kvs L2 => .ok (.obj L2.length) (L2 ++ [.dct kvs])
section
variable {X : Cx} {Z : Zs} {W : WX} {tc : MT} {g : MG} {mk mv : ME} {own : List Nat} {pos : Pos}
theorem dc_read {K : PySem.W.Frag} {mi : MI} {σ : L2.St} {H : Hp} {Q : VK} {ι : List Addr} {L : LH} {τ : Sl} (w : Wd K Z.f ι L H) (s : SR K Z ι H τ σ) (hz : own.all Z.ok = true) (h : gd K Z.f W (VR K Z.f) (eDc mi g tc mk mv own τ L) ι H σ fun _ _ _ v H' => Q v H') :
    tDc (tI K Z W mi) (tGo K Z own g) (tM K Z W0 relB tc) (tM K Z W0 (VR K Z.f) mk) (tM K Z W0 (VR K Z.f) mv) own σ H Q := by
  refine ⟨ι, L, τ, w, s, ?_⟩
  unfold eDc at h
  cases hq : mi τ L with
  | no => rw [hq] at h; exact h
  | ex c fs L1 => rw [hq] at h; exact h
  | ok sr L1 =>
    rw [hq] at h
    have h : gd K Z.f W (VR K Z.f) ((compD sr g tc mk mv (sr.len L1 + 1) 0 [] (wipeP τ own) L1).bind fun kvs L2 => .ok (.obj L2.length) (L2 ++ [.dct kvs])) ι H σ fun _ _ _ v H' => Q v H' := h
    intro ι1 H1 J e1 w1 wk D hD
    have hD0 : Fre H D := by
      by_cases hi : D ∈ ι
      · obtain ⟨⟨δ, rfl, _⟩, _⟩ := e1
        obtain ⟨ho, q1, _⟩ := w1.some (List.mem_append_left _ hi)
        rw [hD] at q1; cases q1
      · exact e1.fre hi (.of hD)
    have hDi : D ∉ ι1 := fun z => by
      obtain ⟨ho, q1, _⟩ := w1.some z
      rw [hD] at q1; cases q1
    have eD := Ext.new (K := K) (ι := ι1) (o := .dK []) hD
    have wkD := wk.up eD
    have sw := s.wipe own hz
    refine ⟨fun i m H' => ∃ ι2 L2 acc ys, Ext K ι1 H1 ι2 H' ∧ Wd K Z.f ι2 L2 H' ∧ SR K Z ι2 H' (wipeP τ own) (wipe σ own) ∧ D ∉ ι2 ∧ H' D = some (.dK ys) ∧ DRs K Z.f ι2 H' acc ys ∧ gd K Z.f W (VR K Z.f) ((compD sr g tc mk mv m i acc (wipeP τ own) L2).bind fun kvs L2 => .ok (.obj L2.length) (L2 ++ [.dct kvs])) ι H σ fun _ _ _ v H' => Q v H',
      ⟨_, ι1, L1, [], [], eD, w1.new hD, (sw.up e1).up eD, hDi, upd_same, by simp [DRs], h⟩, ?_⟩
    rintro i m H2 ⟨ι2, L2, acc, ys, e2, w2, s2, n2, d2, r2, g2⟩
    cases m with
    | zero => exact g2.elim
    | succ m =>
      unfold compD at g2
      cases hs : sr.get L2 i with
      | none => rw [hs] at g2; exact g2.elim
      | some o =>
        rw [hs] at g2
        cases o with
        | none =>
          refine .inl ⟨(wk ι2 L2 H2 e2 w2 i).1 hs, ?_⟩
          have g2 : gd K Z.f W (VR K Z.f) (.ok (.obj L2.length) (L2 ++ [.dct acc])) ι H σ fun _ _ _ v H' => Q v H' := g2
          have wA := w2.adopt (o := .dct acc) d2 n2 ⟨ys, rfl, r2⟩
          refine g2 _ _ (.ref D) ((e1.trans e2).adopt hD0) wA ⟨D, ?_, rfl⟩
          rw [← w2.len]
          simp
        | some x =>
          dsimp only at g2
          obtain ⟨hgo, hy⟩ := (wk ι2 L2 H2 e2 w2 i).2 x hs
          refine .inr ⟨hgo, fun H' => ∃ ι2 L2 acc ys, Ext K ι1 H1 ι2 H' ∧ Wd K Z.f ι2 L2 H' ∧ SR K Z ι2 H' (wipeP τ own) (wipe σ own) ∧ D ∉ ι2 ∧ H' D = some (.dK ys) ∧ DRs K Z.f ι2 H' acc ys ∧ gd K Z.f W (VR K Z.f) ((compD sr g tc mk mv m (i + 1) acc (wipeP τ own) L2).bind fun kvs L2 => .ok (.obj L2.length) (L2 ++ [.dct kvs])) ι H σ fun _ _ _ v H' => Q v H', fun H' q => ⟨m, Nat.lt_succ_self m, q⟩, fun v H3 yy => ?_⟩
          obtain ⟨e3, w3, r3⟩ := hy v H3 yy
          refine ⟨ι2, L2, wipeP τ own, x, w3, s2.up e3, r3, ?_⟩
          cases hg : g x (wipeP τ own) L2 with
          | no => rw [hg] at g2; exact g2.elim
          | ex => rw [hg] at g2; exact g2.elim
          | ok τ4 L4 =>
            rw [hg] at g2
            dsimp only at g2
            intro σ4 s4 z4
            refine ⟨z4.trans (wipe_wipe _ _), ι2, L2, τ4, w3, s4, ?_⟩
            cases ht : tc τ4 L2 with
            | no => rw [ht] at g2; exact g2.elim
            | ex => rw [ht] at g2; exact g2.elim
            | ok bv L5 =>
              rw [ht] at g2
              intro ι5 H5 bv' e5 w5 eb
              cases (show bv = bv' from eb)
              have g2 : gd K Z.f W (VR K Z.f) ((if bv = true then (mk τ4 L5).bind0 fun y L3 => (mv τ4 L3).bind0 fun z L4 => match toK y with
                | some k => if acc.length < sizeLine then compD sr g tc mk mv m (i + 1) (putD acc k z) (wipeP τ own) L4 else .no
                | none => .no else compD sr g tc mk mv m (i + 1) acc (wipeP τ own) L5).bind fun kvs L2 => .ok (.obj L2.length) (L2 ++ [.dct kvs])) ι H σ fun _ _ _ v H' => Q v H' := g2
              have e35 := e3.trans e5
              obtain ⟨d5, n5⟩ := e35.keep d2 n2
              cases bv with
              | false =>
                rw [if_neg Bool.false_ne_true] at g2 ⊢
                exact ⟨ι5, L5, acc, ys, e2.trans e35, w5, s2.up e35, n5, d5, r2.up e35, g2⟩
              | true =>
                rw [if_pos rfl] at g2 ⊢
                refine ⟨ι5, L5, τ4, w5, s4.up e5, ?_⟩
                cases hm : mk τ4 L5 with
                | no => rw [hm] at g2; exact g2.elim
                | ex => rw [hm] at g2; exact g2.elim
                | ok y L6 =>
                  rw [hm] at g2
                  intro ι6 H6 yv e6 w6 ry
                  have g2 : gd K Z.f W (VR K Z.f) (((mv τ4 L6).bind0 fun z L4 => match toK y with
                    | some k => if acc.length < sizeLine then compD sr g tc mk mv m (i + 1) (putD acc k z) (wipeP τ own) L4 else .no
                    | none => R.no).bind fun (kvs : List (Key × PV)) L2 => R.ok (PV.obj L2.length) (L2 ++ [LO.dct kvs])) ι H σ fun _ _ _ v H' => Q v H' := g2
                  refine ⟨ι6, L6, τ4, w6, (s4.up e5).up e6, ?_⟩
                  cases hv : mv τ4 L6 with
                  | no => rw [hv] at g2; exact g2.elim
                  | ex => rw [hv] at g2; exact g2.elim
                  | ok z L7 =>
                    rw [hv] at g2
                    intro ι7 H7 zv e7 w7 rz
                    have g2 : gd K Z.f W (VR K Z.f) ((match toK y with
                      | some k => if acc.length < sizeLine then compD sr g tc mk mv m (i + 1) (putD acc k z) (wipeP τ own) L7 else .no
                      | none => R.no).bind fun (kvs : List (Key × PV)) L2 => R.ok (PV.obj L2.length) (L2 ++ [LO.dct kvs])) ι H σ fun _ _ _ v H' => Q v H' := g2
                    cases hk : toK y with
                    | none => rw [hk] at g2; exact g2.elim
                    | some k =>
                      rw [hk] at g2
                      dsimp only at g2
                      have e37 := (e35.trans e6).trans e7
                      obtain ⟨d7, n7⟩ := e37.keep d2 n2
                      have r7 := r2.up e37
                      split at g2
                      · rename_i hz
                        refine ⟨ys, k, toK_ok ry hk, d7, by rw [← r2.len]; exact hz, ?_⟩
                        have u7 := Up.tmp (K := K) (ι := ι7) (o := .dK (putK ys k zv)) d7 True.intro
                        refine ⟨ι7, L7, putD acc k z, putK ys k zv, (e2.trans e37).tmp (.of hD) d7 True.intro, w7.tmp d7 True.intro n7, (s2.up e37).tmp d7 True.intro, n7, upd_same, DRs.put (rz.upU u7) (r7.upU u7), g2⟩
                      · exact g2.elim
/-- {k: v for ..} -/
theorem fe_dc {kx vx tg iter : Expr} {ifs : List Expr} {scope : Scope} {ow : List (Str × Nat)} {mi : MI} (hc : X.calm = true) (hN : X.N.Nodup) (hi : FI Z X W tg iter mi) (ok : BlkOk X.N X.env.scope scope ow)
    (hg : ∀ (s : Shared) (H : Hp) (C : Addr) (cl : List (Str × Addr)) (fp : List Addr), FGo Z (X.blk s H scope (compEnvC scope cl C X.env) fp) (ow.map (·.2)) tg g) (ht : ∀ (s : Shared) (H : Hp) (C : Addr) (cl : List (Str × Addr)) (fp : List Addr), FTs Z (X.blk s H scope (compEnvC scope cl C X.env) fp) W0 ifs tc)
    (hk : ∀ (s : Shared) (H : Hp) (C : Addr) (cl : List (Str × Addr)) (fp : List Addr), FE Z (X.blk s H scope (compEnvC scope cl C X.env) fp) W0 kx mk) (hv : ∀ (s : Shared) (H : Hp) (C : Addr) (cl : List (Str × Addr)) (fp : List Addr), FE Z (X.blk s H scope (compEnvC scope cl C X.env) fp) W0 vx mv)
    (hs : ∀ x, foldedSetIterable iter X.env x = pure x := by intro _; rfl) (hz : (ow.map (·.2)).all Z.ok = true := by rfl) :
    FE Z X W (.DictComp kx vx [⟨tg, iter, ifs, 0⟩] scope pos) (eDc mi g tc mk mv (ow.map (·.2))) :=
  PE.imp (pe_dc hc hN hi ok hg ht hk hv hs) fun σ H Q ⟨ι, L, τ, w, s, h⟩ => dc_read w s hz h
end
/-! ### *d.items() -/
theorem slot_dict_items_iter : Slot "dict_items" "__iter__" "dict_items.__iter__" :=
  Slot.of (T := "dict_items") (name := "__iter__") (owner := "dict_items") (n := "__iter__") (by rw [typeLookup_type, builtinLookup_eq_fast]; kernel_rfl) (by decide +kernel) (by decide +kernel) (by decide +kernel) (.inl (by decide +kernel)) (by rw [isSubtype_type]; kernel_rfl)
section
open LiI
variable {X : Cx} {Z : Zs} {W : WX} {e : Expr} {te : TE} {p apos cpos pos : Pos} {es : List Expr} {t : TA} {me : ME} {mr : MA}
theorem items_laidS {pins : List (Addr × Obj)} {σ : L2.St} {H : Hp} {s : Shared} {h' : Heap} {tk : Nat} {kvs : List (Key × V)} {vs : List (Key × Value)} {as : List Addr} (I : Inv X pins σ H s) (kv : KV kvs vs)
    (hk : ∀ b o, s.heap.get? b = some o → h'.get? b = some o) (hl : as.length = vs.length) (hG : PySem.W.KdxG (mixKind X.prog X.w) vs s.heap.objs.size h' as) :
    ∃ H' : Hp, (∀ b o, H b = some o → H' b = some o) ∧ (∀ t ∈ as, H t = none) ∧ Paired (fun (t : Addr) (q : Key × V) => H' t = some (.tup [kV q.1, q.2])) as kvs ∧ Inv X pins σ H' { s with heap := h', toks := tk } := by
  have lk : kvs.length = vs.length := Paired.length kv
  have nd : as.Nodup := List.Pairwise.imp (fun {a b} (h : a < b) => Nat.ne_of_lt h) hG.rise
  have new : ∀ t ∈ as, H t = none := fun t ht => I.hok.fresh (Nat.le_of_lt (hG.above t ht))
  have atP := putT_at as kvs H (by omega) nd
  have off : ∀ b, b ∉ as → putT H as kvs b = H b := fun b h1 => by rw [putT_off as kvs _ h1]
  have low : ∀ b o, s.heap.get? b = some o → b ∉ as := fun b o e z => absurd (Heap.lt_size e) (Nat.not_lt.mpr (Nat.le_of_lt (hG.above b z)))
  have kp : ∀ b u, H b = some u → (putT H as kvs) b = some u := fun b u e => by
    rw [off b (fun z => by rw [new b z] at e; cases e)]
    exact e
  refine ⟨putT H as kvs, kp, new, atP, ?_⟩
  refine I.call' (ch := []) rfl ⟨fun b o q _ _ _ => hk b o q, fun b o q _ _ _ => ⟨o.slots, hk b o q⟩, fun b o q n _ => ?_, fun b o q _ => ⟨o, hk b o q⟩, fun b xs q => kp b _ q, fun b o u q => kp b _ q, fun b ps q => ⟨#[], by rw [kp b _ q]; simp⟩⟩ (fun b u q => ?_) I.bare fun b z => by simp at z
  · have z1 := low b o q
    rw [off b z1]
    exact n
  · by_cases hb : b ∈ as
    · obtain ⟨j, pk, e1, e2, e3⟩ := paired_ix atP hb
      rw [e3] at q
      cases q
      obtain ⟨key, k, x, f1, f2, f3⟩ := hG.pairs j b e1
      obtain ⟨qv, g1, g2, g3⟩ := LiI.paired_get kv e2
      rw [f1] at g1
      cases g1
      have rk : RelV (kV pk.1) key := by
        rw [g2]
        exact relV_key (show keyIs k key = true from f2)
      exact ⟨by show 2 ≤ sizeLine; decide, [key, x], .cons rk (.cons g3 .nil), ⟨_, f3, rfl, _, rfl⟩⟩
    · rw [off b hb] at q
      exact (I.hok b u q).stay (fun d v _ y => hk d v y) (fun d y => kp d _ y) fun d xs y => kp d _ y
def tStarI (te : TE) (t : TA) : TA := fun σ H Q => te σ H fun x H1 => ∃ (d : Addr) (kvs : List (Key × V)), x = .ref d ∧ H1 d = some (.dK kvs) ∧
  ∀ (H' : Hp) (ts : List Addr), (∀ b o, H1 b = some o → H' b = some o) → Paired (fun (t : Addr) (q : Key × V) => H' t = some (.tup [kV q.1, q.2])) ts kvs → t σ H' fun ys H2 => Q (ts.map V.ref ++ ys) H2
theorem pa_starI (hc : X.calm = true) (he : PE X e te) (hr : PA X es t) (hbase : attributeBase e "items" X.env (eval e X.env) = eval e X.env := by rfl) (hline : (apos.endLine == cpos.line) = true := by rfl)
    (hs : starEach (.Starred (.Call (.Attribute e "items" apos) [] [] cpos) p :: es) X.env = (true, eval (.Call (.Attribute e "items" apos) [] [] cpos) X.env) :: starEach es X.env := by rfl) : PA X (.Starred (.Call (.Attribute e "items" apos) [] [] cpos) p :: es) (tStarI te t) := by
  refine ⟨fun pos pins s σ H Q I h => ?_⟩
  refine PySem.W.items_star ?_ hs
  refine wpAny_Call_method (T := "dict") (id := "dict.items") hbase rfl hline F.plainAttrs_dict F.slot_dict_items F.type_dict_items (thn (he.run pins s σ H _ I h) fun u s1 ⟨x, H1, I1, rx, d, kvs, ex, hd, q⟩ => ?_)
  subst ex
  obtain rfl : u = Value.ref d := rx
  obtain ⟨hz, hs0, vs, kv, hdo⟩ := I1.hok d _ hd
  obtain ⟨ep, hat⟩ := hdo.dictAt
  have lk : kvs.length = vs.length := Paired.length kv
  have I2 : Inv X pins σ H1 { s1 with heap := s1.heap.push { cls := .type "dict_items", data := .fields #[.ref d] } } := I1.kept (t' := s1.toks) fun b ob q => Heap.get?_push_of_some _ q
  refine ⟨hdo.typeIs, hdo.mapOf.noDict, ?_⟩
  show wpAny _ _ (callWith cpos (.builtin "dict.items") [.ref d] [] []) _ X.xe s1
  refine method_meetsIn F.slot_dict_items F.entry_dict_items rfl (PySem.evalArgs_none ⟨rfl, hdo.typeIs, F.args_dict_items_1 _, _, meets_dict_items (mixKind X.prog X.w) d hs0, ⟨vs, hdo⟩, ?_⟩)
  have hv : (s1.heap.push { cls := .type "dict_items", data := .fields #[.ref d] }).IsItemsView s1.heap.objs.size d := ⟨_, Heap.get?_push_size _ rfl, rfl, rfl⟩
  have hT : Shared.TypeIs { s1 with heap := s1.heap.push { cls := .type "dict_items", data := .fields #[.ref d] } } (.ref s1.heap.objs.size) "dict_items" := ⟨_, Heap.get?_push_size _ rfl, rfl⟩
  unfold PySem.W.StarOf notIterableAtAll
  refine wpAny_bind (wpAny_specialOf hT slot_dict_items_iter.lookup (wpAny_pure ⟨rfl, ?_⟩))
  refine PySem.W.kdx_collect (knd := mixKind X.prog X.w) (kvs := vs) (ep := ep) (I1.ok.hd hc) hv (hat.push _) (by omega) fun h' tk as hk hl hG => ?_
  obtain ⟨H', k1, k2, k3, J⟩ := items_laidS (tk := tk) I2 kv hk hl hG
  exact thn (hr.run pos pins _ σ H' _ J (q H' as k1 k3)) fun ws s3 ⟨ys, H3, I3, r3, q3⟩ => ⟨_, H3, I3, (vals_refs as).append r3, q3⟩
end
end FL
/-! FLT: lambdas that are handed to a def; stars over items; enumerate. -/
namespace FL
open PySem PySem.Spec PyProof.Rows L2 LamX
section
variable {X : Cx} {Z : Zs} {W : WX} {e : Expr} {te : TE} {p apos cpos pos : Pos} {es : List Expr} {t : TA} {me md : ME} {mr : MA} {K : PySem.W.Frag} {ga : Ga}
/-! ### *d.items() -/
def aSI (md : ME) (mr : MA) : MA := fun τ L => (md τ L).bind fun x L1 => match x with
  | .obj n => (match L1[n]? with
    | some (.dct kvs) => (mr τ L1).bind fun ys L2 => .ok ((kvs.map fun kv => .tup [kP kv.1, kv.2]) ++ ys) L2
    | _ => .no)
  | _ => .no
theorem fa_starI (hc : X.calm = true) (h : FE Z X W e md) (hr : FA Z X W es mr) (hbase : attributeBase e "items" X.env (eval e X.env) = eval e X.env := by rfl) (hline : (apos.endLine == cpos.line) = true := by rfl)
    (hs : starEach (.Starred (.Call (.Attribute e "items" apos) [] [] cpos) p :: es) X.env = (true, eval (.Call (.Attribute e "items" apos) [] [] cpos) X.env) :: starEach es X.env := by rfl) : FA Z X W (.Starred (.Call (.Attribute e "items" apos) [] [] cpos) p :: es) (aSI md mr) :=
  PA.imp (pa_starI hc h hr hbase hline hs) fun σ H Q h => tM.bind h fun τ x L1 ι1 u H1 w1 s1 r1 g1 => by
    split at g1
    · split at g1
      · rename_i hl
        obtain ⟨a, l, rfl, hn, h1, h2⟩ := dct_at w1 r1 hl
        refine ⟨a, l, rfl, h1, fun H' ts k1 k2 => ?_⟩
        have e1 := Ext.same (K := X.K) (ι := ι1) k1
        exact ⟨ι1, L1, τ, w1.same k1, s1.up e1, gd.bind (gd.ext g1 e1) fun ys L2 ι2 us H2 _ e2 w2 r2 g2 => g2.ok w2 (((DRs.paired (H := H1) (h2.up e1) k2).up e2).app r2)⟩
      · exact g1.elim
    · exact g1.elim
/-! ### enumerate(x), x a list -/
theorem walks_enL {a : Addr} {n : Nat} {ι : List Addr} {H : Hp} (hn : ι[n]? = some a) : Walks K ga ι H (.en n) (Ite K a) := by
  intro ι2 L2 H2 e w i
  have hn2 : ι2[n]? = some a := by
    obtain ⟨⟨δ, rfl, _⟩, _⟩ := e
    rw [List.getElem?_append_left (List.getElem?_eq_some_iff.mp hn).1]; exact hn
  cases hl : L2[n]? with
  | none => exact ⟨fun h => (by simp [Src.get, hl] at h), fun x h => (by simp [Src.get, hl] at h)⟩
  | some o =>
    cases o with
    | lst xs =>
      obtain ⟨ho, q1, ys, rfl, q2⟩ := w.at_ n a _ hn2 hl
      refine ⟨fun h => ⟨ys, SqL.of q1, ?_⟩, fun x h => ?_⟩
      · have h' : xs[i]? = none := by simpa [Src.get, hl] using h
        have := List.getElem?_eq_none_iff.mp h'
        rw [q2.len] at this; exact this
      · have h' : (xs[i]?.map fun x => PV.tup [.int (i : Nat), x]) = some x := by simpa [Src.get, hl] using h
        obtain ⟨z, q3, rfl⟩ := Option.map_eq_some_iff.mp h'
        obtain ⟨v, q4, q5⟩ := q2.get q3
        refine ⟨⟨ys, v, SqL.of q1, q4⟩, fun u H3 hy => ?_⟩
        obtain ⟨T, z', rfl, hT, rfl, hy⟩ := hy
        have z1 := hy ys (SqL.of q1)
        rw [q4] at z1; cases z1
        have eN := Ext.new (K := K) (ι := ι2) (o := .tup [.int (i : Nat), v]) hT
        exact ⟨eN, w.new hT, T, _, rfl, SqT.new, .int (i : Nat), [v], rfl, vri, v, [], rfl, q5.up eN, rfl⟩
    | _ => exact ⟨fun h => (by simp [Src.get, hl] at h), fun x h => (by simp [Src.get, hl] at h)⟩
def iEn (m : ME) : MI := fun τ L => (m τ L).bind fun x L1 => match x with
  | .obj n => (match L1[n]? with
    | some (.lst _) => .ok (.en n) L1
    | _ => .no)
  | _ => .no
theorem fi_enum {elts : List Expr} {kk : Nat} {tpos : Pos} (hg : Gl X "enumerate") (hm : X.mg "enumerate" = none) (ha : FE Z X W e me) (hs : starEach [e] X.env = [(false, eval e X.env)] := by rfl) : FI Z X W (.Tuple elts kk tpos) (.Call (.Name "enumerate" p) [e] [] pos) (iEn me) :=
  PI.imp (pi_enum hg hm (pa_cons ha pa_nil hs) hs) fun σ H Rr h => tM.bind h fun τ x L1 ι1 u H1 w1 s1 r1 g1 => by
    cases x with
    | obj n =>
      cases hl : L1[n]? with
      | none => simp only [hl] at g1; exact g1.elim
      | some o =>
        cases o with
        | lst xs =>
          simp only [hl] at g1
          obtain ⟨a, ys, rfl, hn, h1, h2⟩ := lst_at w1 r1 hl
          exact ⟨a, ys, rfl, SqL.of h1, g1.ok w1 (walks_enL hn)⟩
        | _ => simp only [hl] at g1; exact g1.elim
    | _ => exact g1.elim
end
/-! ### lambdas -/
/-- a thunk: what the body of a lambda does -/
abbrev Th := LH → R PV
def fnT (n : Nat) (m : Th → MS) : Th → Th := fun th L => match m th (List.replicate n none) L with
  | .nx _ L' => .ok .non L'
  | .rt v L' => .ok v L'
  | .ex c fs _ L' => .ex c fs L'
  | _ => .no
def eLam (mt : Th → Th) (me : ME) : ME := fun τ L => (mt (fun L' => me τ L') L).noex
def TTL (K : PySem.W.Frag) (ga : Ga) (mt : Th → Th) : (XK → Hp → VK → Prop) → Hp → VK → Prop := fun tl H Q => ∃ ι L th, Wd K ga ι L H ∧
  (∀ ι' L' H' E Q', Up K ι H ι' H' → Wd K ga ι' L' H' → gd K ga (fun c d _ H => E c d H) (VR K ga) (th L') ι' H' ([] : L2.St) (fun _ _ _ v H'' => Q' v H'') → tl E H' Q') ∧ gd K ga W0 (VR K ga) (mt th L).noex ι H ([] : L2.St) fun _ _ _ v H' => Q v H'
theorem Ext.ofN {K : PySem.W.Frag} {ι : List Addr} {H H' : Hp} (e : ExtN H H') : Ext K ι H ι H' := by
  refine ⟨⟨[], by simp, fun _ h => nomatch h⟩, fun a o _ h nt => e _ _ h nt, fun a ys h => ?_, fun a ys h => ?_, fun a o u h => e _ _ h fun _ z => nomatch z⟩
  · rcases h with (h | ⟨u', h⟩) | h
    · exact .inl (.inl (e _ _ h fun _ z => nomatch z))
    · exact .inl (.inr ⟨u', e _ _ h fun _ z => nomatch z⟩)
    · exact .inr h
  · rcases h with ⟨u', h⟩ | h
    · exact .inl ⟨u', e _ _ h fun _ z => nomatch z⟩
    · exact .inr h
theorem Mk.nt {u : HO} (m : Mk u) : ∀ ps, u ≠ .tbl ps := fun ps z => by subst z; exact m
section
variable {X : Cx} {Z : Zs} {W : WX} {me : ME}
theorem SR.upU {K : PySem.W.Frag} {ι ι' : List Addr} {H H' : Hp} {τ : Sl} {σ : L2.St} (s : SR K Z ι H τ σ) (e : Up K ι H ι' H') (hz : Z.gh = []) : SR K Z ι' H' τ σ :=
  ⟨s.len, fun i x q => let ⟨v, a, b⟩ := s.at_ i x q; ⟨v, a, b.upU e⟩, fun g hg => by rw [hz] at hg; cases hg⟩
theorem fe_lam {x a : Str} {c P : Addr} {k : Nat} {pg : Arguments} {bg : List Stmt} {sg : Scope} {fd : FuncData} {Ng : List Str} {mt : Th → Th}
    {params : Arguments} {body : Expr} {scope : Scope} {p lpos pos : Pos} (hg : Gl X x) (hm : X.mg x = some (.ref (Z.f x))) (F : FunD X.K x x pg bg sg [] [] (Z.f x) fd) (hb : Binds X.K fd [a] []) (Sg : FnScope Ng [a] sg) (hNg : Ng[0]? = some a) (hva : Vis sg a)
    (hG : ∀ cdv, GivesW X Ng x sg (Z.f x) cdv bg a (X.env.qual ++ "<lambda>") (TTL X.K Z.f mt))
    (TB : TabB X.base X.mg c P) (hcode : X.env.code = .ref c) (hmT : (P, X.env.qual ++ "<lambda>") ∈ Z.f.T) (hu : ∀ p ∈ Z.f.T, p.1 = P → p.2 = X.env.qual ++ "<lambda>") (hr : Room (k + 2) X.A) (L : LamS X.env.scope scope) (hz : Z.gh = []) (hgd : X.A.guards = some [])
    (hbody : ∀ (A : Around) (outer : List Env) (s : Shared) (H : Hp) (E : XK) (f c' : Addr), A.guards = some [] → Room k (A.deeper (lamEnv X scope s.heap.objs.size f c')) → FE Z (lamCx X A outer s H E scope f c') (WE E) body me)
    (hdef : defaultsOf params X.env = ([], []) := by rfl)
    (hbind : ∀ (q : Str) (cl : List (Str × Addr)) (pm cv ctv : Value), bindArgs (PySem.W.kla_fn "<lambda>" q params body scope cl pm cv ctv) ⟨[], []⟩ = pure [] := by intro _ _ _ _ _; rfl)
    (hdb : (x == ("__debug__" : Str)) = false := by decide) (hd : (a == ("__debug__" : Str)) = false := by decide) (hcd : (a == ("__classdict__" : Str)) = false := by decide) :
    FE Z X W (.Call (.Name x p) [.Lambda params body scope lpos] [] pos) (eLam mt me) :=
  PE.imp (pe_lamG (T := Z.f.T) (TT := TTL X.K Z.f mt) (t := fun E => tM X.K Z (WE E) (VR X.K Z.f) me) hg hm F hb Sg hNg hva hG TB hcode hmT hu hr L hdef hbind hgd (fun A outer s H E f c' hg' hr' => hbody A outer s H E f c' hg' hr') hdb hd hcd) fun σ H Q ⟨ι, L, τ, w, s, g⟩ => by
    refine ⟨w.tb, fun H1 eN T1 => ?_⟩
    have e1 := Ext.ofN (K := X.K) (ι := ι) eN
    have w1 : Wd X.K Z.f ι L H1 := w.ext e1 (fun a ha => by
      obtain ⟨ho, q1, m⟩ := w.some ha
      rw [q1]; exact eN _ _ q1 m.nt) T1
    refine ⟨ι, L, fun L' => me τ L', w1, fun ι' L' H' E Q' u' w' g' => ⟨ι', L', τ, w', (s.up e1).upU u' hz, g'⟩, ?_⟩
    have g1 := gd.ext g e1
    unfold eLam at g1
    cases hq : mt (fun L' => me τ L') L with
    | ok v L' => rw [hq] at g1; exact g1
    | ex => rw [hq] at g1; exact g1.elim
    | no => rw [hq] at g1; exact g1.elim
/-- the def that calls what it got -/
theorem giv {ga : Ga} {Ng : List Str} {x a q : Str} {sg : Scope} {g : Addr} {cdv : Value} {bg : List Stmt} {m : Th → MS} (hgd : X.A.guards = some []) (hu : X.A.units + 70 < cLine)
    (hD : ∀ (f c' : Addr) (ι0 : List Addr) (H0 : Hp) (s : Shared) (H : Hp) (th : Th), (zCx X Ng x sg g cdv s H).A.guards = some [] → (zCx X Ng x sg g cdv s H).A.units + 65 < cLine →
      (∀ (W : WX) (pn : List (Addr × Obj)) (xe : Value → Shared → Prop) (p1 p2 : Pos), Takes ((zCx X Ng x sg g cdv s H).tr pn xe) W → FE ⟨ga, [⟨0, f, c', [], some (q, ι0, H0)⟩]⟩ ((zCx X Ng x sg g cdv s H).tr pn xe) W (.Call (.Name a p1) [] [] p2) (fun _ L => th L)) →
      FSs ⟨ga, [⟨0, f, c', [], some (q, ι0, H0)⟩]⟩ (zCx X Ng x sg g cdv s H).nox W0 bg (m th)) (h1N : 1 ≤ Ng.length := by decide) : GivesW X Ng x sg g cdv bg a q (TTL X.K ga (fnT Ng.length m)) := by
  intro f c' s H Q tl act hc ⟨ι, L, th, w, ok, gg⟩
  have hn : c' ∉ ι := fun z => by
    obtain ⟨u, h1, h2⟩ := w.some z
    rw [hc] at h1; cases h1; exact h2
  refine ⟨_, hD f c' ι H s H th (by exact deep_gd hgd) (by show X.A.units + 3 + 65 < cLine; omega) (fun W pn xe p1 p2 tk => PE.imp (act W pn xe p1 p2 tk) fun σ2 H2 Q2 ⟨ι2, L2, τ, w2, s2, g2⟩ => ?_), ι, L, List.replicate Ng.length none, w, ?_, ?_⟩
  · obtain ⟨h1, h2, h3, h4⟩ := s2.gh _ List.mem_cons_self
    exact ⟨h1, h3, fun c d H => W c d σ2 H, fun _ _ _ h => h, ok ι2 L2 H2 _ Q2 h4 w2 g2⟩
  · refine ⟨by simp [L2.start]; omega, fun i x h => ?_, fun g hg => ?_⟩
    · rw [List.getElem?_replicate] at h
      split at h <;> cases h
    · rcases List.mem_singleton.mp hg with rfl
      exact ⟨rfl, hn, hc, Up.refl⟩
  · unfold fnT at gg
    cases hm : m th (List.replicate Ng.length none) L with
    | nx τ' L' => rw [hm] at gg; exact fun ι2 H2 σ2 e w s => gg ι2 H2 .non e w (by simp [VR])
    | rt v L' => rw [hm] at gg; exact gg
    | ex => rw [hm] at gg; exact gg.elim
    | bk => rw [hm] at gg; exact gg.elim
    | ct => rw [hm] at gg; exact gg.elim
    | no => rw [hm] at gg; exact gg.elim
end
/-! ### a def with lambdas: its own code object is told -/
section
variable {P : Program} {w : World} {K : PySem.W.Frag} {mg : Str → Option Value} {base : Heap} {ga : Ga} {x qual : Str} {params : Arguments} {body : List Stmt} {scope : Scope} {dvs : List V} {kws : List (Str × V)} {f : Addr} {fd : FuncData} {N ps : List Str} {k : Nat} {m : MS}
theorem fn_okC (F : FunD K x qual params body scope dvs kws f fd) (S : FnScope N ps scope)
    (hb : ∀ (A : Around) (outer : List Env) (s : Shared) (H : Hp) (E : XK), A.guards = some [] → Room k (A.deeper (envOfC qual scope s.heap.objs.size f fd.code)) → FSs (Zo ga) (cxOf (L2.CX P w) P w K mg base N qual scope f fd.code A outer s H E) (WE E) body m) :
    FnM P w K mg base ga (k + 1) f fd ps (fnB ps.length N.length m) := by
  refine F.okGC S (fun vs H Q E h => h.1) (fun A outer s H vs Q E hg hr h => ?_)
  obtain ⟨hl, ι, L, xs, wd, r, g⟩ := h
  refine ⟨_, hb A outer s H E hg hr, ι, L, startP N.length xs, wd, VRs.start (Z := Zo ga) r rfl, ?_⟩
  unfold fnB at g
  rw [if_pos (by rw [r.len]; exact hl)] at g
  cases hm : m (startP N.length xs) L with
  | nx τ' L' => rw [hm] at g; exact fun ι2 H2 σ2 e w s => g ι2 H2 .non e w (by simp [VR])
  | rt v L' => rw [hm] at g; exact g
  | ex c fs τ' L' => rw [hm] at g; exact fun ι2 H2 σ2 d l e w s a b => g ι2 H2 d l e w a b
  | bk => rw [hm] at g; exact g.elim
  | ct => rw [hm] at g; exact g.elim
  | no => rw [hm] at g; exact g.elim
end
end FL
/-! FLU: where things stand; what only raises. -/
namespace FL
open PySem PySem.Spec PyProof.Rows L2
/-- the function at a -/
def fdA (K : PySem.W.Frag) (a : Addr) : FuncData := match K.lookup a with
  | some ⟨_, _, .func fd, _⟩ => fd
  | _ => PySem.W.fnOf "" "" ⟨[], [], none, [], [], none, []⟩ [] ⟨.function, [], false, false, []⟩ .none .none .none .none none .none .none
theorem fdA_of {K : PySem.W.Frag} {x qual : Str} {params : Arguments} {body : List Stmt} {scope : Scope} {dvs : List V} {kws : List (Str × V)} {f : Addr} {fd : FuncData} (F : FunD K x qual params body scope dvs kws f fd) : FunD K x qual params body scope dvs kws f (fdA K f) := by
  obtain ⟨oc, od, dV, kV, doc, pm, an, cdv, ct, osl, e, lk, h⟩ := F.ex
  have z : fdA K f = fd := by unfold fdA; rw [lk]
  rw [z]; exact F
/-- a method of C -/
abbrev me (K : PySem.W.Frag) (ga : Ga) (C m : Str) : Addr := He.ma K (ga C) m
/-- what a property of C calls -/
def pg (K : PySem.W.Frag) (ga : Ga) (C p : Str) : Addr := match PySem.W.recIn K (me K ga C p) "property" with
  | some (.ref g :: _) => g
  | _ => 0
/-- a keyword's default -/
def kwA (K : PySem.W.Frag) (f : Addr) (x : Str) : Addr := match K.lookup f with
  | some ⟨_, _, .func fd, _⟩ => (match fd.kwdefaults with
    | .ref D => (match PySem.W.nsIn K D x with
      | some (some (.ref a)) => a
      | _ => 0)
    | _ => 0)
  | _ => 0
/-- what only raises -/
def eX0 (m : ME) : ME := fun τ L => match m τ L with
  | .ex c fs L' => .ex c fs L'
  | _ => .no
def noF : List PV → LH → R PV := fun _ _ => .no
section
variable {X : Cx} {Z : Zs} {W : WX} {me : ME} {K : PySem.W.Frag} {ga : Ga}
theorem noL {r : List V → Hp → VK → Prop} : CaL K ga noF r := fun W ι L H σ xs us Q w rx g => g.elim
theorem fe_setc0 {elt tg iter : Expr} {ifs : List Expr} {rest : List Comprehension} {scope : Scope} {pos : Pos} {k : Nat} (h : FE Z X W iter me) : FE Z X W (.SetComp elt (⟨tg, iter, ifs, k⟩ :: rest) scope pos) (eX0 me) := by
  refine ⟨fun pins s σ H Q I ⟨ι, L, τ, w, sr, g⟩ => ?_⟩
  rw [arm_eval_SetComp]
  refine wpAny_bind (thn (h.run pins s σ H (fun _ _ => False) I ⟨ι, L, τ, w, sr, ?_⟩) fun v s1 ⟨_, _, _, _, q⟩ => q.elim)
  unfold eX0 at g
  cases hm : me τ L with
  | ok v L' => rw [hm] at g; exact g.elim
  | ex c fs L' => rw [hm] at g; exact g
  | no => rw [hm] at g; exact g.elim
/-- a list, a tuple, a text, or a locked dict -/
def iAD (m : ME) : MI := fun τ L => (m τ L).bind fun x L1 => match x with
  | .tup xs => .ok (.vals xs) L1
  | .rol xs => .ok (.vals xs) L1
  | .str z => .ok (.vals (z.cps.toList.map fun c => .str ⟨#[c]⟩)) L1
  | .obj n => (match L1[n]? with
    | some (.lst _) => .ok (.at_ n) L1
    | some (.fdct kvs) => .ok (.vals (kvs.map fun kv => kP kv.1)) L1
    | _ => .no)
  | _ => .no
theorem fi_ad {tg e : Expr} (h : FE Z X W e me) : FI Z X W tg e (iAD me) := PI.imp (PI.or (fi_a h) (fi_keys h)) fun σ H Rr ⟨ι, L, τ, w, s, g⟩ => by
  by_cases hk : ∃ n L1 kvs, me τ L = .ok (.obj n) L1 ∧ L1[n]? = some (.fdct kvs)
  · obtain ⟨n, L1, kvs, h1, h2⟩ := hk
    refine .inr ⟨ι, L, τ, w, s, ?_⟩
    unfold iAD at g
    unfold iK
    rw [h1] at g ⊢
    unfold R.bind at g ⊢
    dsimp only at g ⊢
    rw [h2] at g ⊢
    exact g
  · refine .inl ⟨ι, L, τ, w, s, ?_⟩
    unfold iAD at g
    unfold iA
    cases hm : me τ L with
    | no => rw [hm] at g; exact g
    | ex => rw [hm] at g; exact g
    | ok x L1 =>
      rw [hm] at g
      unfold R.bind at g ⊢
      dsimp only at g ⊢
      cases x with
      | obj n =>
        cases hl : L1[n]? with
        | none => simp only [hl] at g; exact g.elim
        | some o =>
          cases o with
          | lst xs => simp only [hl] at g ⊢; exact g
          | fdct kvs => exact (hk ⟨n, L1, kvs, hm, hl⟩).elim
          | _ => simp only [hl] at g; exact g.elim
      | _ => exact g
/-- arguments of C(..): by values, positional only -/
theorem bf_pos {fd : FuncData} {ps : List Str} {n : Nat} (hb : Binds K fd ps []) (hn : ps.length = n) : BindF K ga fd ps n [] (fun xs _ => xs) :=
  ⟨fun us _ => us, fun vs _ => vs, ⟨fun s us ws hk hl _ => by
    have z := hb s us hk (by rw [List.append_nil, hl, hn])
    rw [List.append_nil] at z
    exact z, fun r _ => r⟩, fun ι H xs zs vs us r _ => r⟩
end
end FL
namespace FL
open PySem PySem.Spec PyProof.Rows L2
theorem v64 {A : Around} (h : A.units + 65 < cLine) : A.units + 64 < cLine := by omega
theorem v1 {A : Around} (h : A.units + 65 < cLine) : A.units + 1 < cLine := by omega
theorem u70 {k : Nat} {A : Around} (h : Room k A) : A.units + 70 < cLine := by have := h.un; omega
/-- where a def's lambdas are named -/
def qLam (x : Str) : Str := (x ++ ".<locals>.") ++ "<lambda>"
end FL
/-! FLV: what is not needed any more goes out of the logical heap. -/
namespace FL
open PySem PySem.Spec PyProof.Rows L2
mutual
/-- only objects below n are told -/
def refB (n : Nat) : PV → Bool
  | .tup xs => refBs n xs
  | .rol xs => refBs n xs
  | .obj k => Nat.blt k n
  | _ => true
def refBs (n : Nat) : List PV → Bool
  | [] => true
  | x :: xs => refB n x && refBs n xs
end
def refO (n : Nat) : LO → Bool
  | .lst xs => refBs n xs
  | .dct kvs => refBs n (kvs.map (·.2))
  | .fdct kvs => refBs n (kvs.map (·.2))
  | .ins _ fs => refBs n (fs.map (·.2))
def refH (n : Nat) (L : LH) : Bool := L.all (refO n)
def gcT (m : MT) : MT := fun τ L => match m τ L with
  | .ok b L' => if refH L.length (L'.take L.length) = true ∧ L.length ≤ L'.length then .ok b (L'.take L.length) else .no
  | r => r
def keepS (ks : List Nat) : Nat → Sl → Sl
  | _, [] => []
  | i, x :: τ => (if ks.contains i then x else none) :: keepS ks (i + 1) τ
def refT (n : Nat) : Sl → Bool
  | [] => true
  | none :: τ => refT n τ
  | some x :: τ => refB n x && refT n τ
def gcK (ks : List Nat) (L : LH) (τ' : Sl) (L' : LH) (k : Sl → LH → RS) : RS :=
  if refH L.length (L'.take L.length) = true ∧ L.length ≤ L'.length ∧ refT L.length (keepS ks 0 τ') = true then k (keepS ks 0 τ') (L'.take L.length) else .no
/-- only the slots ks stay, and the objects that were there -/
def gcS (ks : List Nat) (m : MS) : MS := fun τ L => match m τ L with
  | .nx τ' L' => gcK ks L τ' L' .nx
  | .ct τ' L' => gcK ks L τ' L' .ct
  | r => r
section
variable {K : PySem.W.Frag} {ga : Ga} {ι δ : List Addr} {H H' : Hp} {L' : LH}
mutual
theorem VR.cut : ∀ {x : PV} {v : V}, VR K ga (ι ++ δ) H x v → refB ι.length x = true → VR K ga ι H x v
  | .non, _, h, _ => h
  | .bl _, _, h, _ => h
  | .int _, _, h, _ => h
  | .str _, _, h, _ => h
  | .tup xs, _, h, r => by obtain ⟨a, ys, e1, e2, e3⟩ := h; exact ⟨a, ys, e1, e2, VRs.cutR e3 r⟩
  | .rol xs, _, h, r => by obtain ⟨a, ys, e1, e2, e3⟩ := h; exact ⟨a, ys, e1, e2, VRs.cutR e3 r⟩
  | .obj n, _, h, r => by
    obtain ⟨a, e1, e2⟩ := h
    have hn : n < ι.length := Nat.blt_eq.mp r
    rw [List.getElem?_append_left hn] at e1
    exact ⟨a, e1, e2⟩
  | .glo _, _, h, _ => h
  | .ty _, _, h, _ => h
theorem VRs.cutR : ∀ {xs : List PV} {vs : List V}, VRs K ga (ι ++ δ) H xs vs → refBs ι.length xs = true → VRs K ga ι H xs vs
  | [], _, h, _ => h
  | x :: xs, _, h, r => by
    obtain ⟨y, t, e1, e2, e3⟩ := h
    simp only [refBs, Bool.and_eq_true] at r
    exact ⟨y, t, e1, VR.cut e2 r.1, VRs.cutR e3 r.2⟩
end
theorem DRs.cut : ∀ {xs : List (Key × PV)} {l : List (Key × V)}, DRs K ga (ι ++ δ) H xs l → refBs ι.length (xs.map (·.2)) = true → DRs K ga ι H xs l
  | [], _, h, _ => h
  | x :: xs, _, h, r => by
    obtain ⟨y, t, e1, e2, e3⟩ := h
    simp only [List.map_cons, refBs, Bool.and_eq_true] at r
    exact ⟨y, t, e1, VR.cut e2 r.1, DRs.cut e3 r.2⟩
theorem FRs.cut : ∀ {xs : List (Str × PV)} {l : List (Str × V)}, FRs K ga (ι ++ δ) H xs l → refBs ι.length (xs.map (·.2)) = true → FRs K ga ι H xs l
  | [], _, h, _ => h
  | x :: xs, _, h, r => by
    obtain ⟨y, t, e1, e2, e3⟩ := h
    simp only [List.map_cons, refBs, Bool.and_eq_true] at r
    exact ⟨y, t, e1, VR.cut e2 r.1, FRs.cut e3 r.2⟩
theorem OA.cut {o : LO} {ho : HO} (h : OA K ga (ι ++ δ) H o ho) (r : refO ι.length o = true) : OA K ga ι H o ho := by
  cases o with
  | lst xs => obtain ⟨ys, e, h⟩ := h; exact ⟨ys, e, VRs.cutR h r⟩
  | dct xs => obtain ⟨ys, e, h⟩ := h; exact ⟨ys, e, DRs.cut h r⟩
  | fdct xs => obtain ⟨od, ys, e, h⟩ := h; exact ⟨od, ys, e, DRs.cut h r⟩
  | ins C xs => obtain ⟨dx, ys, e, h⟩ := h; exact ⟨dx, ys, e, FRs.cut h r⟩
theorem Wd.cut {n : Nat} (w : Wd K ga (ι ++ δ) L' H) (hn : ι.length = n) (r : refH n (L'.take n) = true) (hl : n ≤ L'.length) : Wd K ga ι (L'.take n) H := by
  refine ⟨by rw [List.length_take, Nat.min_eq_left hl, hn], (List.nodup_append.mp w.nd).1, fun m a o h1 h2 => ?_, w.tb⟩
  have hm : m < ι.length := (List.getElem?_eq_some_iff.mp h1).1
  have h2' : L'[m]? = Option.some o := by
    rw [List.getElem?_take_of_lt (by rw [← hn]; exact hm)] at h2; exact h2
  obtain ⟨ho, q1, q2⟩ := w.at_ m a o (by rw [List.getElem?_append_left hm]; exact h1) h2'
  have ro : refO n o = true := List.all_eq_true.mp r o (List.mem_of_getElem? h2)
  exact ⟨ho, q1, q2.cut (by rw [hn]; exact ro)⟩
theorem Ext.drop {ι' : List Addr} (e : Ext K ι H ι' H') : Ext K ι H ι H' := ⟨⟨[], by simp, fun _ h => nomatch h⟩, e.st, e.tp, e.ro, e.fz⟩
theorem keepS_get {ks : List Nat} : ∀ (τ : Sl) (j i : Nat) (x : PV), (keepS ks j τ)[i]? = some (some x) → τ[i]? = some (some x)
  | [], _, _, _, h => by simp [keepS] at h
  | y :: τ, j, 0, x, h => by
    simp only [keepS, List.getElem?_cons_zero, Option.some.injEq] at h
    split at h
    · simp [h]
    · cases h
  | y :: τ, j, i + 1, x, h => by
    simp only [keepS, List.getElem?_cons_succ] at h
    simpa using keepS_get τ (j + 1) i x h
theorem keepS_len {ks : List Nat} : ∀ (τ : Sl) (j : Nat), (keepS ks j τ).length = τ.length
  | [], _ => rfl
  | y :: τ, j => by simp [keepS, keepS_len τ (j + 1)]
theorem refT_get {n : Nat} : ∀ (τ : Sl) (i : Nat) (x : PV), refT n τ = true → τ[i]? = some (some x) → refB n x = true
  | [], _, _, _, h => by simp at h
  | none :: τ, 0, _, _, h => by simp at h
  | none :: τ, i + 1, x, r, h => refT_get τ i x r (by simpa using h)
  | some y :: τ, 0, x, r, h => by
    simp only [refT, Bool.and_eq_true] at r
    simp at h; subst h; exact r.1
  | some y :: τ, i + 1, x, r, h => by
    simp only [refT, Bool.and_eq_true] at r
    exact refT_get τ i x r.2 (by simpa using h)
theorem SR.cut {Z : Zs} {τ : Sl} {σ : L2.St} {ks : List Nat} (s : SR K Z (ι ++ δ) H τ σ) (hz : Z.gh = []) (r : refT ι.length (keepS ks 0 τ) = true) : SR K Z ι H (keepS ks 0 τ) σ :=
  ⟨by rw [keepS_len]; exact s.len, fun i x q => by
    obtain ⟨v, h1, h2⟩ := s.at_ i x (keepS_get τ 0 i x q)
    exact ⟨v, h1, h2.cut (refT_get _ i x r q)⟩, fun g hg => by rw [hz] at hg; cases hg⟩
end
section
variable {X : Cx} {Z : Zs} {W : WX} {c : Expr} {tc : MT} {sts : List Stmt} {st : Stmt} {m : MS}
theorem ft_gc (h : FT Z X W c tc) : FT Z X W c (gcT tc) := PT.imp h fun σ H Q ⟨ι, L, τ, w, s, g⟩ => by
  refine ⟨ι, L, τ, w, s, ?_⟩
  unfold gcT at g
  cases hm : tc τ L with
  | no => rw [hm] at g; exact g
  | ex => rw [hm] at g; exact g
  | ok b L' =>
    rw [hm] at g
    dsimp only at g
    split at g
    · rename_i hr
      intro ι' H' v e w' r
      obtain ⟨δ, rfl, _⟩ := id e.gr
      exact g ι H' v e.drop (w'.cut w.len hr.1 hr.2) r
    · exact g.elim
theorem gcK_nx {K : PySem.W.Frag} {ι : List Addr} {H : Hp} {L : LH} {τ' : Sl} {L' : LH} {ks : List Nat} {D : Ends} (w : Wd K Z.f ι L H) (hz : Z.gh = []) (g : gs K Z W (gcK ks L τ' L' .nx) ι H D) : gs K Z W (.nx τ' L') ι H D := by
  unfold gcK at g
  split at g
  · rename_i hr
    intro ι' H' σ' e w' s'
    obtain ⟨δ, rfl, _⟩ := id e.gr
    exact g ι H' σ' e.drop (w'.cut w.len hr.1 hr.2.1) (s'.cut hz (by rw [w.len]; exact hr.2.2))
  · exact g.elim
theorem gcK_ct {K : PySem.W.Frag} {ι : List Addr} {H : Hp} {L : LH} {τ' : Sl} {L' : LH} {ks : List Nat} {D : Ends} (w : Wd K Z.f ι L H) (hz : Z.gh = []) (g : gs K Z W (gcK ks L τ' L' .ct) ι H D) : gs K Z W (.ct τ' L') ι H D := by
  unfold gcK at g
  split at g
  · rename_i hr
    intro ι' H' σ' e w' s'
    obtain ⟨δ, rfl, _⟩ := id e.gr
    exact g ι H' σ' e.drop (w'.cut w.len hr.1 hr.2.1) (s'.cut hz (by rw [w.len]; exact hr.2.2))
  · exact g.elim
theorem gs_gc {K : PySem.W.Frag} {ι : List Addr} {H : Hp} {L : LH} {τ : Sl} {ks : List Nat} {D : Ends} (w : Wd K Z.f ι L H) (hz : Z.gh = []) (g : gs K Z W (gcS ks m τ L) ι H D) : gs K Z W (m τ L) ι H D := by
  unfold gcS at g
  cases hm : m τ L with
  | nx τ' L' => rw [hm] at g; exact gcK_nx w hz g
  | ct τ' L' => rw [hm] at g; exact gcK_ct w hz g
  | bk => rw [hm] at g; exact g
  | rt => rw [hm] at g; exact g
  | ex => rw [hm] at g; exact g
  | no => rw [hm] at g; exact g
theorem fss_gc (ks : List Nat) (h : FSs Z X W sts m) (hz : Z.gh = [] := by rfl) : FSs Z X W sts (gcS ks m) := PSs.imp h fun D σ H ⟨ι, L, τ, w, s, g⟩ => ⟨ι, L, τ, w, s, gs_gc w hz g⟩
theorem fs_gc (ks : List Nat) (h : FS Z X W st m) (hz : Z.gh = [] := by rfl) : FS Z X W st (gcS ks m) := PS.imp h fun D σ H ⟨ι, L, τ, w, s, g⟩ => ⟨ι, L, τ, w, s, gs_gc w hz g⟩
end
end FL
/-! FLX: running a mirror by hand. -/
namespace FL
open PySem PySem.Spec PyProof.Rows L2
section
variable {τ τ' : Sl} {L L1 L2 L3 : LH} {x y z v : PV} {xs ys : List PV} {ma mb mc : ME} {mr : MA} {f : PV → PV → LH → R PV} {g : MG} {a b : MS} {c : MT} {k : Bool} {r : R PV} {rs : RS} {i : Int} {p : Nat}
theorem x_v {i : Nat} (h : τ[i]? = some (some x)) : eV i τ L = .ok x L := by unfold eV; rw [h]
theorem x_c : eC x τ L = .ok x L := rfl
theorem x_op (h1 : ma τ L = .ok x L1) (h2 : mb τ L1 = .ok y L2) (h3 : f x y L2 = r) : eOp f ma mb τ L = r := by unfold eOp; rw [h1]; show (mb τ L1).bind _ = _; rw [h2]; exact h3
theorem x_n : aN τ L = .ok [] L := rfl
theorem x_a (h1 : ma τ L = .ok x L1) (h2 : mr τ L1 = .ok xs L2) : aC ma mr τ L = .ok (x :: xs) L2 := by unfold aC; rw [h1]; show (mr τ L1).bind _ = _; rw [h2]; rfl
theorem x_f {fn : Fn} (h1 : mr τ L = .ok xs L1) (h2 : fn xs L1 = r) : eF fn mr τ L = r := by unfold eF; rw [h1]; exact h2
theorem x_as (h1 : ma τ L = .ok x L1) (h2 : g x τ L1 = .ok τ' L2) : sAs ma g τ L = .nx τ' L2 := by unfold sAs; rw [h1]; show (g x τ L1).nx = _; rw [h2]; rfl
theorem x_seq (h1 : a τ L = .nx τ' L1) (h2 : b τ' L1 = rs) : sSeq a b τ L = rs := by unfold sSeq; rw [h1]; exact h2
theorem x_seq_rt (h1 : a τ L = .rt x L1) : sSeq a b τ L = .rt x L1 := by unfold sSeq; rw [h1]
theorem x_if (h1 : c τ L = .ok k L1) (h2 : (if k = true then a τ L1 else b τ L1) = rs) : sIf c a b τ L = rs := by unfold sIf; rw [h1]; exact h2
theorem x_rt (h1 : ma τ L = .ok x L1) : sRt ma τ L = .rt x L1 := by unfold sRt; rw [h1]; rfl
theorem x_t (h1 : eOp f ma mb τ L = .ok (.bl k) L1) : tOp2 f ma mb τ L = .ok k L1 := by unfold tOp2; rw [h1]; rfl
theorem x_fn {p n : Nat} {m : MS} (hl : xs.length = p) (h : m (startP n xs) L = .rt v L1) : fnB p n m xs L = .ok v L1 := by unfold fnB; rw [if_pos hl, h]
theorem x_fn0 {p n : Nat} {m : MS} (hl : xs.length = p) (h : m (startP n xs) L = .nx τ L1) : fnB p n m xs L = .ok .non L1 := by unfold fnB; rw [if_pos hl, h]
theorem x_ix (hp : L[p]? = some (.lst xs)) (ha : atI xs i = some v) : ixF (.obj p) (.int i) L = .ok v L := by
  unfold ixF
  simp only [hp, ha]
theorem x_ixr (ha : atI xs i = some v) : ixF (.rol xs) (.int i) L = .ok v L := by
  unfold ixF
  simp only [ha]
theorem x_set {ml mi : ME} {j : Nat} {v : PV} (h1 : ml τ L = .ok (.obj p) L1) (h2 : mi τ L1 = .ok (.int i) L2) (hp : L2[p]? = some (.lst xs)) (hj : ixN xs.length i = some j) : gSb ml mi v τ L = .ok τ (L2.set p (.lst (xs.set j v))) := by
  unfold gSb
  rw [h1]
  show (mi τ L1).bind0 _ = _
  rw [h2]
  show (match setL (.obj p) (.int i) v L2 with | some L3 => R.ok τ L3 | none => .no) = _
  unfold setL
  simp only [hp]
  rw [hj]
theorem x_gcT (h1 : c τ L = .ok k L1) (h2 : L1.take L.length = L) (h3 : refH L.length L = true) (h4 : L.length ≤ L1.length) : gcT c τ L = .ok k L := by
  unfold gcT
  rw [h1]
  simp only [h2]
  rw [if_pos ⟨h3, h4⟩]
end
end FL
/-! FLY: the end of a law of the functional layer; the hook. -/
namespace FL
open PySem PySem.Spec PyProof.Rows L2
section
variable {P : Program} {w : World} {K : PySem.W.Frag} {mg mb : Str → Option Value} {CX : CXT} {k : Nat} {fa a : Addr} {fd : FuncData} {x : Str} {sp : Sp} {s₁ : Shared} {vs : List Value} {ns : List Int} {cs : List (Addr × Addr)}
theorem law_callR (KX : K.In s₁.heap) (hns : s₁.heap.Ns mainGlobals mg) (hb : s₁.heap.Ns builtinsNs mb) (hbb : ∀ x : Str, x ≠ "__name__" → mb x = bootBuiltins x) (hlim : s₁.heap.NoLimit) (hg : s₁.gens = #[])
    (hT : ∀ p ∈ cs, s₁.heap.get? p.2 = some tab0) (nT : ∀ p ∈ cs, K.lookup p.2 = none) (hC : ∀ p ∈ cs, PySem.W.CodeHd s₁.heap p.1 p.2)
    (hbm : ∃ (bm : Addr) (ob : Obj), mg "__builtins__" = some (.ref bm) ∧ bm ≠ builtinsNs ∧ s₁.heap.get? bm = some ob ∧ ob.cls = .type "module" ∧ ob.dict = some builtinsNs ∧ ob.data = .plain)
    (ha : s₁.heap.get? a = some { cls := .type "list", data := .seq vs.toArray }) (hi : IntsAre vs ns) (hl : ns.length ≤ sizeLine) (hr : Room k callerA)
    (F : ∀ base : Heap, K.In base → base.Ns mainGlobals mg → (∀ p ∈ cs, LamX.TabB base mg p.1 p.2) → FnG P w K mg base CX k fa fd [x] sp) (hbind : ∀ (s : Shared) (u : Value), BindsTo s fd ⟨[u], []⟩ [(x, u)])
    (hsp : ∀ H : Hp, (∀ p ∈ cs, H p.2 = some (.tbl #[])) → RoL K H a (ns.map V.int) → sp [.ref a] H (fun v _ => v = .bl true) fun _ _ _ => False)
    (hCX : ∀ H e s', CX [] H s₁ (fun _ _ _ => False) e s' → False) : LawGoal P w fa a s₁ := by
  have tabAt : ∀ b, b ∈ cs.map Prod.snd → s₁.heap.get? b = some tab0 := by
    rintro b hb'
    obtain ⟨p, hp, rfl⟩ := List.mem_map.mp hb'
    exact hT p hp
  have main : ∀ H : Hp, (∀ b ∈ cs.map Prod.snd, H b = some (.tbl #[])) → (∀ b, H b ≠ none → b ∈ cs.map Prod.snd ∨ (b = a ∧ K.lookup a = none ∧ ∃ ob ys, H b = some (.frz ob (.lst ys)))) →
      RoL K H a (ns.map V.int) → HOk P w H s₁.heap → LawGoal P w fa a s₁ := by
    intro H hH hO hS hok
    have up : ∀ {b : Addr} {o : Obj}, s₁.heap.get? b = some o → H b = none → (hidT s₁.heap H).get? b = some o := fun e n => hidT_get e n
    -- neither a list nor an empty record: untracked
    have free : ∀ {b : Addr} {o : Obj}, s₁.heap.get? b = some o → (∀ us m, o.data ≠ .seq us m) → o.data ≠ .fields #[] → H b = none := by
      intro b o e n1 n2
      refine Classical.byContradiction fun nz => ?_
      rcases hO b nz with hb' | ⟨rfl, _⟩
      · rw [tabAt b hb'] at e
        cases e
        exact n2 rfl
      · rw [ha] at e
        cases e
        exact n1 _ _ rfl
    have kind : ∀ {d d' : Data}, d = d' → (∀ us m, d' ≠ .seq us m) → d' ≠ .fields #[] → (∀ us m, d ≠ .seq us m) ∧ d ≠ .fields #[] := fun q n1 n2 => by
      rw [q]
      exact ⟨n1, n2⟩
    have nsUp : ∀ {b : Addr} {m : Str → Option Value}, s₁.heap.Ns b m → (hidT s₁.heap H).Ns b m := fun ⟨o, es, ep, e, d, r⟩ =>
      ⟨o, es, ep, up e (let z := kind d (fun _ _ q => nomatch q) (fun q => nomatch q); free e z.1 z.2), d, r⟩
    have KB : K.In (hidT s₁.heap H) := fun b o e => up (KX b o e) (Classical.byContradiction fun nz => by
      rcases hO b nz with hb' | ⟨rfl, hk, _⟩
      · obtain ⟨p, hp, rfl⟩ := List.mem_map.mp hb'
        have z := nT p hp
        rw [z] at e
        cases e
      · rw [hk] at e
        cases e)
    have TB : ∀ p ∈ cs, LamX.TabB (hidT s₁.heap H) mg p.1 p.2 := fun p hp => by
      have at2 := hT p hp
      obtain ⟨og, eg, ng, qg, dg, _⟩ := id hns
      refine { code := ?_, bm := ?_, gP := fun z => ?_ }
      · obtain ⟨o, us, y1, y2, y3, y4, y5, y6, y7, e1, r1, r2, r3, rest⟩ := hC p hp
        refine ⟨o, us, y1, y2, y3, y4, y5, y6, y7, up e1 (free e1 (fun _ _ z => ?_) fun z => ?_), r1, r2, r3, rest⟩
        · rw [r2] at z; cases z
        · rw [r2] at z
          cases z
          simp at r3
      · obtain ⟨bm, ob, b1, b2, b3, b4, b5, b6⟩ := hbm
        refine ⟨bm, ob, b1, b2, fun z => ?_, fun z => ?_, up b3 (let z := kind b6 (fun _ _ q => nomatch q) (fun q => nomatch q); free b3 z.1 z.2), b4, b5, b6⟩
        · rw [z, qg] at b3
          cases b3
          rw [dg] at b6
          cases b6
        · rw [z, at2] at b3
          cases b3
          cases b6
      · rw [z, at2] at qg
        cases qg
        cases dg
    have none0 : ∀ b : Addr, b ∉ frs ([] : List Env) := fun b z => absurd (show b ∈ ([] : List Addr) from z) (by simp)
    have E0 : Env0 P w K mg (hidT s₁.heap H) callerA [] s₁ H :=
      ⟨rfl, ⟨KB, nsUp hns, ⟨mb, nsUp hb, hbb⟩, let ⟨mc, h1, h2⟩ := hlim; ⟨mc, nsUp h1, h2⟩⟩, fun b o e => of_hidT e, Nat.le_of_eq (hidT_size _ _), trivial, fun b z => absurd z (none0 b), hok, .of_eq hg⟩
    have hT' : ∀ p ∈ cs, H p.2 = some (.tbl #[]) := fun p hp => hH _ (List.mem_map.mpr ⟨p, hp, rfl⟩)
    refine codeAny_mono ((F _ KB (nsUp hns) TB).run callerA [] s₁ H ⟨[.ref a], []⟩ [.ref a] [.ref a] _ _ rfl hr E0 (hbind s₁ (.ref a)) (.cons rfl .nil) (hsp H hT' hS)) fun r s' h => ?_
    match r, h with
    | .error e, h => exact (hCX H e s' h).elim
    | .ok .next, h => exact h.elim
    | .ok .brk, h => exact h.elim
    | .ok .cont, h => exact h.elim
    | .ok (.ret u), ⟨v, H', os, bare, un, hok', rz, q⟩ =>
      cases (show v = .bl true from q)
      cases (show u = Value.bool true from rz)
      have kept : ∀ b o, b ∉ cs.map Prod.snd → s₁.heap.get? b = some o → s'.heap.get? b = some o := by
        intro b o nb e
        cases hb' : H b with
        | none => exact un.keep b o e hb' (none0 b) (by simp)
        | some y =>
          rcases hO b (by rw [hb']; simp) with z | ⟨_, _, ob, ys, z⟩
          · exact absurd z nb
          · have o1 := (hok b _ z).1
            have o2 := (hok' b _ (un.frzs b ob _ z)).1
            rw [e] at o1
            cases o1
            exact o2
      have wider : ∀ b ∈ cs.map Prod.snd, ∃ p ∈ cs, p.2 = b ∧ ∃ more : Array Value, s'.heap.get? b = some { cls := .none, data := .fields more } := by
        intro b hb'
        obtain ⟨p, hp, rfl⟩ := List.mem_map.mp hb'
        obtain ⟨more, z⟩ := un.tbls p.2 #[] (hT' p hp)
        exact ⟨p, hp, rfl, _, hok' p.2 _ z⟩
      refine ⟨rfl, ⟨fun b o e => ?_, fun b o e => ?_⟩, os, bare⟩
      · by_cases hb' : b ∈ cs.map Prod.snd
        · obtain ⟨p, hp, rfl, more, hm⟩ := wider b hb'
          have at2 := hT p hp
          rw [at2] at e
          cases e
          exact .inr (.inl ⟨((hC p hp).tab at2).isCodeTable, rfl, #[], more, rfl, by rw [Array.empty_append]; exact hm⟩)
        · exact .inl (kept b o hb' e)
      · by_cases hb' : b ∈ cs.map Prod.snd
        · obtain ⟨p, hp, rfl, more, hm⟩ := wider b hb'
          exact ⟨_, hm⟩
        · exact ⟨o, kept b o hb' e⟩
  have rv := vals_ints hi
  have hlen := hi.length
  have aN : a ∉ cs.map Prod.snd := fun z => by
    have q := tabAt a z
    rw [ha] at q
    have d := congrArg Obj.data (Option.some.inj q)
    exact nomatch (show Data.seq vs.toArray _ = Data.fields #[] from d)
  by_cases hk : K.lookup a = none
  · refine main (fun b => if b = a then some (.frz { cls := .type "list", data := .seq vs.toArray } (.lst (ns.map V.int))) else if b ∈ cs.map Prod.snd then some (.tbl #[]) else none) (fun b hb' => ?_) (fun b nz => ?_) (.inl ⟨_, if_pos rfl⟩) (fun b u z => ?_)
    · have nb : b ≠ a := fun z => aN (z ▸ hb')
      exact (if_neg nb).trans (if_pos hb')
    · by_cases e : b = a
      · exact .inr ⟨e, hk, _, _, if_pos e⟩
      · by_cases hb' : b ∈ cs.map Prod.snd
        · exact .inl hb'
        · exact absurd ((if_neg e).trans (if_neg hb')) nz
    · by_cases e : b = a
      · subst e
        cases (if_pos rfl).symm.trans z
        exact ⟨ha, by rw [List.length_map]; exact hl, vs, _, rv, ha⟩
      · have z' := (if_neg e).symm.trans z
        by_cases hb' : b ∈ cs.map Prod.snd
        · cases (if_pos hb').symm.trans z'
          exact tabAt b hb'
        · cases (if_neg hb').symm.trans z'
  · cases ho : K.lookup a with
    | none => exact absurd ho hk
    | some o =>
      have e := KX a o ho
      rw [ha] at e
      cases e
      refine main (fun b => if b ∈ cs.map Prod.snd then some (.tbl #[]) else none) (fun b hb' => if_pos hb') (fun b nz => ?_) (.inr ⟨_, vs.toArray, _, ho, rfl, rfl, rfl, by rw [List.size_toArray, hlen]; exact hl, by simpa using rv⟩) (fun b u z => ?_)
      · by_cases hb' : b ∈ cs.map Prod.snd
        · exact .inl hb'
        · exact absurd (if_neg hb') nz
      · by_cases hb' : b ∈ cs.map Prod.snd
        · cases (if_pos hb').symm.trans z
          exact tabAt b hb'
        · cases (if_neg hb').symm.trans z
end
/-- a law with tables -/
theorem walk_ofR {l : PySem.W.OpenLaw} {n k : Nat} {q : Program} {loose : List Str} {XP : (Str → Option Value) → Heap → Prop} {YP : World → Heap → Prop} {d : DefRec} {CX : World → CXT} {x : Str}
    (hn : l.most = some n) (hn2 : n ≤ sizeLine) (hdf : d.params.defaults = []) (hr : Room k callerA)
    (F : ∀ (w : World) (mg : Str → Option Value) (fa : Addr) (h : Heap), YP w h → h.Ns mainGlobals mg → mg d.name = some (.ref fa) →
      ∃ (K : PySem.W.Frag) (fd : FuncData) (cs : List (Addr × Addr)) (sp : Sp), K.In h ∧ (∀ (s : Shared) (u : Value), BindsTo s fd ⟨[u], []⟩ [(x, u)]) ∧ (∀ p ∈ cs, h.get? p.2 = some tab0 ∧ K.lookup p.2 = none ∧ PySem.W.CodeHd h p.1 p.2) ∧
        (∀ (H : Hp) (a : Addr) (ns : List Int), ns.length ≤ n → (∀ p ∈ cs, H p.2 = some (.tbl #[])) → RoL K H a (ns.map V.int) → sp [.ref a] H (fun v _ => v = .bl true) fun _ _ _ => False) ∧
        ∀ base : Heap, K.In base → base.Ns mainGlobals mg → (∀ p ∈ cs, LamX.TabB base mg p.1 p.2) → FnG l.prog w K mg base (CX w) k fa fd [x] sp)
    (hCX : ∀ (w : World) (H : Hp) (s : Shared) (e : Value) (s' : Shared), CX w [] H s (fun _ _ _ => False) e s' → False) :
    PySem.W.WalkO q loose XP YP l.row.toRowW d [] (fun f vs => PySem.call f vs) := by
  refine Att.attach_call hn hdf fun w s₀ s₁ mg mb fa o pm cd doc a vs ns G Y ho hd hcd hmg hobj hints hlen hg => ?_
  obtain ⟨K, fd, cs, sp, KX, h1, ht, h2, h3⟩ := F w mg fa _ Y G.T.g hmg
  exact law_callR KX G.T.g G.T.b G.T.builtins G.T.nolimit hg (fun p hp => (ht p hp).1) (fun p hp => (ht p hp).2.1) (fun p hp => (ht p hp).2.2) G.T.bmain hobj hints (Nat.le_trans hlen hn2) hr h3 h1 (fun H hH hS => h2 H a ns hlen hH hS) fun H e s' => hCX w H s₁ e s'
end FL
namespace MCH
open PySem PySem.Spec PyProof.Rows L2 PySem.W He PySem.MCX PySem.MEX
/-! ### errors, properties, tables, tables of code -/
abbrev AlR : Type := AlP × List FnV × List (Option (List (Option (Str × Int)))) × Bool
def obsR (n : Nat) (prog : Program) (bm : String → List Value) (fa : List Fa) (fn : List DefD) (ps : List PD) (es : List ED) (ts : List He.Tab) (tf : List Defn) (ex : Frag → Bool) (g : Addr → Option Obj) : AlR :=
  (obK prog fa fn [] ps (fun K => (es.all fun x => eB prog bm K x) && ex K) (frT g (asM g n)), es.map (fun x => fnE (frT g (asM g n)) x), ts.map (fun t => He.dicW (frT g (asM g n)) (t.1 (frT g (asM g n)))), tabsB g tf (frT g (asM g n)))
def valR (fn : List DefD) (ps : List PD) (es : List ED) (ts : List He.Tab) (w : World) : AlR := (valP fn [] ps, es.map ED.val, ts.map (fun t => some (He.keysIn w.params t.2)), true)
structure SaysR (prog : Program) (bm : String → List Value) (fa : List Fa) (fn : List DefD) (ps : List PD) (es : List ED) (ts : List He.Tab) (tf : List Defn) (ex : Frag → Bool) (w : World) (h : Heap) (K : Frag) : Prop where
  p : SaysP prog fa fn [] ps (fun K => (es.all fun x => eB prog bm K x) && ex K) K
  x : ∀ x ∈ es, eB prog bm K x = true ∧ fnE K x = x.val
  t : ∀ t ∈ ts, He.dicW K (t.1 K) = some (He.keysIn w.params t.2)
  e : ex K = true
  c : ∀ d ∈ tf, codeHdIn K (cT K d).1 (cT K d).2 = true ∧ K.lookup (cT K d).2 = none ∧ h.get? (cT K d).2 = some tab0
theorem saysR_of {n : Nat} {prog : Program} {bm : String → List Value} {fa : List Fa} {fn : List DefD} {ps : List PD} {es : List ED} {ts : List He.Tab} {tf : List Defn} {ex : Frag → Bool} {w : World} {h : Heap} (e : obsR n prog bm fa fn ps es ts tf ex h.get? = valR fn ps es ts w) : SaysR prog bm fa fn ps es ts tf ex w h (frT h.get? (asM h.get? n)) := by
  have e1 := congrArg (fun z : AlR => z.1) e
  have e2 := congrArg (fun z : AlR => z.2.1) e
  have e3 := congrArg (fun z : AlR => z.2.2.1) e
  have e4 := congrArg (fun z : AlR => z.2.2.2) e
  have c := saysO_of (n := n) (prog := prog) (fa := fa) (fn := fn) (xs := []) (ps := ps) (tf := tf) (ex := fun K => (es.all fun x => eB prog bm K x) && ex K) (h := h) (Prod.ext e1 e4)
  obtain ⟨b1, b2⟩ := ba c.p.m.e
  exact ⟨c.p, fun x hx => ⟨List.all_eq_true.mp b1 x hx, map_eq_at e2 x hx⟩, fun t ht => map_eq_at e3 t ht, b2, c.t⟩
def hookR (n : Nat) (prog : Program) (bm : String → List Value) (fa : List Fa) (fn : List DefD) (ps : List PD) (es : List ED) (ts : List He.Tab) (tf : List Defn) (ex : Frag → Bool) : PySem.W.Hook where
  α := AlR
  obs := fun s => obsR n prog bm fa fn ps es ts tf ex s.heap.get?
  val := fun w => valR fn ps es ts w
  says := fun w h => ∃ K : PySem.W.Frag, K.In h ∧ SaysR prog bm fa fn ps es ts tf ex w h K
  of := fun _ _ e => ⟨_, frT_in, saysR_of e⟩
  keeps := fun _ _ _ ⟨K, hK, c⟩ k => ⟨K, PySem.W.Frag.In.keeps hK k, ⟨c.p, c.x, c.t, c.e, fun d hd => let ⟨z1, z2, z3⟩ := c.c d hd; ⟨z1, z2, k _ _ z3⟩⟩⟩
theorem obsR_eq {n : Nat} {prog : Program} {bm : String → List Value} {fa : List Fa} {fn : List DefD} {ps : List PD} {es : List ED} {ts : List He.Tab} {tf : List Defn} {ex : Frag → Bool} {g : Addr → Option Obj} {s : Shared} (h : ∀ a, g a = s.heap.get? a) : obsR n prog bm fa fn ps es ts tf ex g = (hookR n prog bm fa fn ps es ts tf ex).obs s := by
  have e : g = s.heap.get? := funext h
  rw [e] <;> rfl
end MCH
/-! FLZ: from the head's facts to the module. -/
namespace FL
open PySem PySem.Spec PyProof.Rows L2
variable {K : PySem.W.Frag} {ga : Ga}
theorem VRs.ints {ι : List Addr} {H : Hp} : ∀ ns : List Int, VRs K ga ι H (ns.map .int) (ns.map V.int)
  | [] => rfl
  | i :: ns => ⟨.int i, _, rfl, vri, VRs.ints ns⟩
theorem end_sp {m : Fn} {ns : List Int} {H : Hp} {a : Addr} {Lf : LH} (hT : LamX.Tabs ga.T H) (hS : RoL K H a (ns.map V.int)) (hm : m [.rol (ns.map .int)] [] = .ok (.bl true) Lf) :
    spM 1 K ga m [.ref a] H (fun v _ => v = .bl true) (fun _ _ _ => False) := by
  refine ⟨rfl, [], [], [.rol (ns.map .int)], ⟨rfl, List.nodup_nil, fun n a o h _ => by simp at h, hT⟩, ⟨.ref a, [], rfl, ⟨a, _, rfl, hS, VRs.ints ns⟩, rfl⟩, ?_⟩
  rw [hm]
  intro ι' H' v _ _ r
  exact r.b
theorem fnIn_of {x qual : Str} {params : Arguments} {body : List Stmt} {scope : Scope} {dvs : List V} {kws : List (Str × V)} {f : Addr} {fd : FuncData} (F : FunD K x qual params body scope dvs kws f fd) : PySem.W.fnIn K f = true := by
  obtain ⟨oc, od, dV, kV, doc, pm, an, cdv, ct, osl, e, lk, h⟩ := F.ex
  unfold PySem.W.fnIn
  rw [lk]
theorem code_at {x qual : Str} {params : Arguments} {body : List Stmt} {scope : Scope} {dvs : List V} {kws : List (Str × V)} {fd : FuncData} {d : Str} (F : FunD K x qual params body scope dvs kws (He.fAd K (d, none)) fd) : fd.code = .ref (He.cT K (d, none)).1 := by
  obtain ⟨oc, od, dV, kV, doc, pm, an, cdv, ct, osl, rfl, lk, hcd, _, _⟩ := F.ex
  obtain ⟨c, rfl⟩ := He.codeIn_ref hcd
  show Value.ref c = _
  rw [show (He.cT K (d, none)).1 = c from He.codeOf_eq lk rfl]
theorem ns_none {w : World} {a : Addr} {ks : List Str} {k : Str} (h : He.dicW K a = some (He.keysIn w.params ks)) (hk : k ∉ ks) : PySem.W.nsIn K a k = some none := by
  obtain ⟨es, n, D⟩ := He.dicW_ok h
  have e : es.toList.map He.keyOf = He.keysIn w.params ks := by
    unfold He.dicW at h
    rw [D.at_] at h
    dsimp only at h
    split at h
    · exact Option.some.inj h
    · cases h
  exact kmiss_of D.at_ e hk
theorem ktab_of {w : World} {a : Addr} {tab : List (Str × PV)} {ds : List (Str × He.Dv)} (h : He.dicW K a = some (He.keysIn w.params (tab.map (·.1)))) (hv : He.valsB K a ds = true) (hd : tab.map (fun q => (q.1, toV q.2)) = ds.map fun q => (q.1, some (q.2.v K))) : KTab K w a (tabV tab) := by
  refine ⟨He.dicW_ok h, fun k => ?_⟩
  unfold tabV
  cases hl : tab.lookup k with
  | none =>
    dsimp only
    refine ns_none h fun hm => ?_
    obtain ⟨q, hq, e⟩ := List.mem_map.mp hm
    have := List.lookup_eq_none_iff.mp hl q hq
    simp [← e] at this
  | some x =>
    have hm : (k, x) ∈ tab := by
      obtain ⟨l1, l2, e, _⟩ := List.lookup_eq_some_iff.mp hl
      rw [e]; simp
    have h2 : (k, toV x) ∈ ds.map fun q => (q.1, some (q.2.v K)) := by
      rw [← hd]; exact List.mem_map.mpr ⟨(k, x), hm, rfl⟩
    obtain ⟨q, hq, e⟩ := List.mem_map.mp h2
    obtain ⟨e1, e2⟩ := Prod.mk.inj e
    obtain ⟨u, u1, u2⟩ := He.valsB_ok hv hq
    dsimp only
    rw [← e2]
    exact ⟨u, by rw [← e1]; exact u1, u2⟩
/-- a keyword's default that is a written tuple of texts -/
def kwTupB (K : PySem.W.Frag) (a : Addr) (zs : List Str) : Bool := match K.lookup a with
  | some ⟨.type c, _, .seq its _, _⟩ => decide (c = "tuple") && (decide (its.size ≤ sizeLine) && He.relAll (zs.map V.str) its.toList)
  | _ => false
theorem kwTupB_ok {a : Addr} {zs : List Str} (h : kwTupB K a zs = true) (H : Hp) : SqT K H a (zs.map V.str) := by
  unfold kwTupB at h
  cases q : K.lookup a with
  | none => rw [q] at h; cases h
  | some o =>
    obtain ⟨oc, od, dt, osl⟩ := o
    rw [q] at h
    cases oc with
    | type c =>
      cases dt with
      | seq its n =>
        obtain ⟨h1, h2⟩ := He.ba (show (decide (c = "tuple") && (decide (its.size ≤ sizeLine) && He.relAll (zs.map V.str) its.toList)) = true from h)
        obtain ⟨h3, h4⟩ := He.ba h2
        exact .inr ⟨_, its, n, q, congrArg Value.type (of_decide_eq_true h1), rfl, of_decide_eq_true h3, He.relAll_ok h4⟩
      | _ => cases h
    | _ => cases h
/-- what isinstance leans on -/
def kitB (K : PySem.W.Frag) (ga : Ga) (cs : List Str) (tab : List (Tp × Tp × Bool)) : Bool :=
  (cs.all fun C => He.eqO (PySem.W.findIn K (.ref (ga C)) "__class__") (some (some (.builtin "object.__class__"))) && decide (PySem.W.mroIn K (ga C) (.type "object") = some true)) &&
  ((He.eqO (PySem.W.specialIn K (.builtin "object.__class__") "__get__") (some (some (.builtin "getset_descriptor.__get__"))) && decide (PySem.W.takesIn K (.builtin "object.__class__") = some true)) &&
  tab.all fun q => decide (PySem.W.kitOne K (q.1.v ga) (q.2.1.v ga) = some q.2.2))
theorem kitB_ok {cs : List Str} {tab : List (Tp × Tp × Bool)} (h : kitB K ga cs tab = true) (hc : ∀ C ∈ cs, Cls K (ga C)) : Kit K ga cs tab := by
  obtain ⟨h1, h2⟩ := He.ba h
  obtain ⟨h2, h3⟩ := He.ba h2
  obtain ⟨h4, h5⟩ := He.ba h2
  exact ⟨fun C hC => let z := He.ba (List.all_eq_true.mp h1 C hC); ⟨hc C hC, He.eqO_ok z.1, He.eqO_ok h4, of_decide_eq_true h5, of_decide_eq_true z.2⟩, fun q hq => of_decide_eq_true (List.all_eq_true.mp h3 q hq)⟩
/-- what except leans on -/
def excB (K : PySem.W.Frag) (ga : Ga) (known : List Str) : Bool := (known.all fun c => known.all fun d => decide (PySem.W.exmOne K (.ref (ga c)) (.ref (ga d)) = some (decide (c = d)))) && known.all fun c => decide (PySem.W.typeIn K (.ref (ga c)) = some (.type "type"))
theorem excB_ok {known : List Str} (h : excB K ga known = true) : (∀ c ∈ known, ∀ d ∈ known, PySem.W.exmOne K (.ref (ga c)) (.ref (ga d)) = some (decide (c = d))) ∧ ∀ c ∈ known, PySem.W.typeIn K (.ref (ga c)) = some (.type "type") := by
  obtain ⟨h1, h2⟩ := He.ba h
  exact ⟨fun c hc d hd => of_decide_eq_true (List.all_eq_true.mp (List.all_eq_true.mp h1 c hc) d hd), fun c hc => of_decide_eq_true (List.all_eq_true.mp h2 c hc)⟩
/-- the tables of code of the defs with lambdas, one each -/
def tabsOf (K : PySem.W.Frag) (tf : List He.Defn) : List (Addr × Str) := tf.map fun d => ((He.cT K d).2, qLam d.1)
def distB (K : PySem.W.Frag) (tf : List He.Defn) : Bool := tf.all fun d => tf.all fun d' => decide (d = d') || !decide ((He.cT K d).2 = (He.cT K d').2)
theorem distB_ok {tf : List He.Defn} (h : distB K tf = true) {d : He.Defn} (hd : d ∈ tf) : ∀ p ∈ tabsOf K tf, p.1 = (He.cT K d).2 → p.2 = qLam d.1 := fun p hp e => by
  obtain ⟨d', hd', rfl⟩ := List.mem_map.mp hp
  have z := List.all_eq_true.mp (List.all_eq_true.mp h d hd) d' hd'
  simp only [Bool.or_eq_true, decide_eq_true_eq, Bool.not_eq_true', decide_eq_false_iff_not] at z
  rcases z with rfl | z
  · rfl
  · exact absurd e.symm z
end FL
namespace K06
open PySem PySem.Spec PyProof.Rows L2 FL
def top (i : Nat) : Stmt := PySem.Challenge.pw_mostcalls_k06_systems_refused.main.body.getD i (.Pass ⟨0, 0, 0, 0⟩)
def CS : List Str := ["Policy", "System"]
def TAB : List (Tp × Tp × Bool) := [(.b "NoneType", .b "bool", false), (.b "NoneType", .b "int", false), (.b "NoneType", .b "str", false), (.b "NoneType", .b "tuple", false), (.b "NoneType", .b "list", false), (.b "NoneType", .b "dict", false), (.b "NoneType", .c "Policy", false), (.b "NoneType", .c "System", false), (.b "bool", .b "bool", true), (.b "bool", .b "int", true), (.b "bool", .b "str", false), (.b "bool", .b "tuple", false), (.b "bool", .b "list", false), (.b "bool", .b "dict", false), (.b "bool", .c "Policy", false), (.b "bool", .c "System", false), (.b "int", .b "bool", false), (.b "int", .b "int", true), (.b "int", .b "str", false), (.b "int", .b "tuple", false), (.b "int", .b "list", false), (.b "int", .b "dict", false), (.b "int", .c "Policy", false), (.b "int", .c "System", false), (.b "str", .b "bool", false), (.b "str", .b "int", false), (.b "str", .b "str", true), (.b "str", .b "tuple", false), (.b "str", .b "list", false), (.b "str", .b "dict", false), (.b "str", .c "Policy", false), (.b "str", .c "System", false), (.b "tuple", .b "bool", false), (.b "tuple", .b "int", false), (.b "tuple", .b "str", false), (.b "tuple", .b "tuple", true), (.b "tuple", .b "list", false), (.b "tuple", .b "dict", false), (.b "tuple", .c "Policy", false), (.b "tuple", .c "System", false), (.b "list", .b "bool", false), (.b "list", .b "int", false), (.b "list", .b "str", false), (.b "list", .b "tuple", false), (.b "list", .b "list", true), (.b "list", .b "dict", false), (.b "list", .c "Policy", false), (.b "list", .c "System", false), (.b "dict", .b "bool", false), (.b "dict", .b "int", false), (.b "dict", .b "str", false), (.b "dict", .b "tuple", false), (.b "dict", .b "list", false), (.b "dict", .b "dict", true), (.b "dict", .c "Policy", false), (.b "dict", .c "System", false), (.c "Policy", .b "bool", false), (.c "Policy", .b "int", false), (.c "Policy", .b "str", false), (.c "Policy", .b "tuple", false), (.c "Policy", .b "list", false), (.c "Policy", .b "dict", false), (.c "Policy", .c "Policy", true), (.c "Policy", .c "System", false), (.c "System", .b "bool", false), (.c "System", .b "int", false), (.c "System", .b "str", false), (.c "System", .b "tuple", false), (.c "System", .b "list", false), (.c "System", .b "dict", false), (.c "System", .c "Policy", false), (.c "System", .c "System", true)]
def KNOWN : List Str := ["InvalidName", "InvalidPolicy", "InvalidPolicies", "InvalidServices", "InvalidPart", "UnknownName", "TooLong"]
def TB_SIZES : List (Str × PV) := [("run", .int 3), ("risk", .int 1), ("call", .int 3), ("want", .int 3), ("maybe", .int 2), ("both", .int 3)]
abbrev s_is_name : Stmt := top 14
theorem sc_is_name : FnScope ["value", "sign"] ["value"] (defScope s_is_name) := ⟨rfl, rfl, rfl, by decide +kernel, rfl, by decide +kernel, by decide +kernel⟩
abbrev s_is_integer : Stmt := top 12
theorem sc_is_integer : FnScope ["value"] ["value"] (defScope s_is_integer) := ⟨rfl, rfl, rfl, by decide +kernel, rfl, by decide +kernel, by decide +kernel⟩
abbrev s_is_between : Stmt := top 13
theorem sc_is_between : FnScope ["value", "low", "high"] ["value", "low", "high"] (defScope s_is_between) := ⟨rfl, rfl, rfl, by decide +kernel, rfl, by decide +kernel, by decide +kernel⟩
abbrev s_are_pauses : Stmt := top 37
theorem sc_are_pauses : FnScope ["value", "tries", "one"] ["value", "tries"] (defScope s_are_pauses) := ⟨rfl, rfl, rfl, by decide +kernel, rfl, by decide +kernel, by decide +kernel⟩
abbrev s_is_ending : Stmt := top 36
theorem sc_is_ending : FnScope ["value", "word", "delay"] ["value"] (defScope s_is_ending) := ⟨rfl, rfl, rfl, by decide +kernel, rfl, by decide +kernel, by decide +kernel⟩
abbrev s_wrong_field : Stmt := top 38
theorem sc_wrong_field : FnScope ["limit", "tries", "pauses", "early", "lossy", "ending"] ["limit", "tries", "pauses", "early", "lossy", "ending"] (defScope s_wrong_field) := ⟨rfl, rfl, rfl, by decide +kernel, rfl, by decide +kernel, by decide +kernel⟩
abbrev s_Policy_init : Stmt := inClass (top 39) 0
theorem sc_Policy_init : FnScope ["self", "name", "limit", "tries", "pauses", "early", "lossy", "ending", "wrong"] ["self", "name", "limit", "tries", "pauses", "early", "lossy", "ending"] (defScope s_Policy_init) := ⟨rfl, rfl, rfl, by decide +kernel, rfl, by decide +kernel, by decide +kernel⟩
abbrev s_Policy_name : Stmt := inClass (top 39) 1
theorem sc_Policy_name : FnScope ["self"] ["self"] (defScope s_Policy_name) := ⟨rfl, rfl, rfl, by decide +kernel, rfl, by decide +kernel, by decide +kernel⟩
abbrev s_Policy_longest : Stmt := inClass (top 39) 10
theorem sc_Policy_longest : FnScope ["self"] ["self"] (defScope s_Policy_longest) := ⟨rfl, rfl, rfl, by decide +kernel, rfl, by decide +kernel, by decide +kernel⟩
abbrev s_block_span : Stmt := top 25
theorem sc_block_span : FnScope ["block", "policies", "part"] ["block", "policies"] (defScope s_block_span) := ⟨rfl, rfl, rfl, by decide +kernel, rfl, by decide +kernel, by decide +kernel⟩
abbrev s_part_span : Stmt := top 26
theorem sc_part_span : FnScope ["part", "policies", "block"] ["part", "policies"] (defScope s_part_span) := ⟨rfl, rfl, rfl, by decide +kernel, rfl, by decide +kernel, by decide +kernel⟩
abbrev s_is_call : Stmt := top 21
theorem sc_is_call : FnScope ["part"] ["part"] (defScope s_is_call) := ⟨rfl, rfl, rfl, by decide +kernel, rfl, by decide +kernel, by decide +kernel⟩
abbrev s_is_block : Stmt := top 19
theorem sc_is_block : FnScope ["value", "depth"] ["value", "depth"] (defScope s_is_block) := ⟨rfl, rfl, rfl, by decide +kernel, rfl, by decide +kernel, by decide +kernel⟩
abbrev s_is_part : Stmt := top 20
theorem sc_is_part : FnScope ["value", "depth", "block"] ["value", "depth"] (defScope s_is_part) := ⟨rfl, rfl, rfl, by decide +kernel, rfl, by decide +kernel, by decide +kernel⟩
abbrev s_blocks_of : Stmt := top 22
theorem sc_blocks_of : FnScope ["part"] ["part"] (defScope s_blocks_of) := ⟨rfl, rfl, rfl, by decide +kernel, rfl, by decide +kernel, by decide +kernel⟩
abbrev s_numbered : Stmt := top 23
theorem sc_numbered : FnScope ["block", "first", "depth", "rows", "part", "inner"] ["block", "first", "depth"] (defScope s_numbered) := ⟨rfl, rfl, rfl, by decide +kernel, rfl, by decide +kernel, by decide +kernel⟩
abbrev s_parts_of : Stmt := top 24
theorem sc_parts_of : FnScope ["block", "place", "part", "depth"] ["block"] (defScope s_parts_of) := ⟨rfl, rfl, rfl, by decide +kernel, rfl, by decide +kernel, by decide +kernel⟩
abbrev s_check_block : Stmt := top 47
theorem sc_check_block : FnScope ["name", "block", "ahead", "policies", "place", "part", "depth"] ["name", "block", "ahead", "policies"] (defScope s_check_block) := ⟨rfl, rfl, rfl, by decide +kernel, rfl, by decide +kernel, by decide +kernel⟩
abbrev s_check_policies : Stmt := top 45
theorem sc_check_policies : FnScope ["policies", "names", "number", "one"] ["policies"] (defScope s_check_policies) := ⟨rfl, rfl, rfl, by decide +kernel, rfl, by decide +kernel, by decide +kernel⟩
abbrev s_check_services : Stmt := top 46
theorem sc_check_services : FnScope ["services", "names", "number", "one"] ["services"] (defScope s_check_services) := ⟨rfl, rfl, rfl, by decide +kernel, rfl, by decide +kernel, by decide +kernel⟩
abbrev s_System_init : Stmt := inClass (top 48) 0
theorem sc_System_init : FnScope ["self", "policies", "services", "one", "name", "block"] ["self", "policies", "services"] (defScope s_System_init) := ⟨rfl, rfl, rfl, by decide +kernel, rfl, by decide +kernel, by decide +kernel⟩
abbrev s__law_draw : Stmt := top 51
theorem sc__law_draw : FnScope ["_law_pool_here", "_law_many", "_law_digit"] ["_law_pool_here", "_law_many"] (defScope s__law_draw) := ⟨rfl, rfl, rfl, by decide +kernel, rfl, by decide +kernel, by decide +kernel⟩
abbrev s__law_choose : Stmt := top 52
theorem sc__law_choose : FnScope ["_law_pool_here", "_law_items"] ["_law_pool_here", "_law_items"] (defScope s__law_choose) := ⟨rfl, rfl, rfl, by decide +kernel, rfl, by decide +kernel, by decide +kernel⟩
abbrev s_System_contains : Stmt := inClass (top 48) 4
theorem sc_System_contains : FnScope ["self", "name"] ["self", "name"] (defScope s_System_contains) := ⟨rfl, rfl, rfl, by decide +kernel, rfl, by decide +kernel, by decide +kernel⟩
abbrev s_System_require : Stmt := inClass (top 48) 5
theorem sc_System_require : FnScope ["self", "name"] ["self", "name"] (defScope s_System_require) := ⟨rfl, rfl, rfl, by decide +kernel, rfl, by decide +kernel, by decide +kernel⟩
abbrev s_System_getitem : Stmt := inClass (top 48) 6
theorem sc_System_getitem : FnScope ["self", "name"] ["self", "name"] (defScope s_System_getitem) := ⟨rfl, rfl, rfl, by decide +kernel, rfl, by decide +kernel, by decide +kernel⟩
abbrev s_System_callees : Stmt := inClass (top 48) 10
theorem sc_System_callees : FnScope ["self", "name", "part"] ["self", "name"] (defScope s_System_callees) := ⟨rfl, rfl, rfl, by decide +kernel, rfl, by decide +kernel, by decide +kernel⟩
abbrev s_System_policy : Stmt := inClass (top 48) 8
theorem sc_System_policy : FnScope ["self", "name"] ["self", "name"] (defScope s_System_policy) := ⟨rfl, rfl, rfl, by decide +kernel, rfl, by decide +kernel, by decide +kernel⟩
abbrev s_System_span : Stmt := inClass (top 48) 9
theorem sc_System_span : FnScope ["self", "name"] ["self", "name"] (defScope s_System_span) := ⟨rfl, rfl, rfl, by decide +kernel, rfl, by decide +kernel, by decide +kernel⟩
abbrev s_System_with_block : Stmt := inClass (top 48) 12
theorem sc_System_with_block : FnScope ["self", "name", "block", "rows", "one"] ["self", "name", "block"] (defScope s_System_with_block) := ⟨rfl, rfl, rfl, by decide +kernel, rfl, by decide +kernel, by decide +kernel⟩
abbrev s_System_with_policy : Stmt := inClass (top 48) 11
theorem sc_System_with_policy : FnScope ["self", "policy", "rows", "one"] ["self", "policy"] (defScope s_System_with_policy) := ⟨rfl, rfl, rfl, by decide +kernel, rfl, by decide +kernel, by decide +kernel⟩
abbrev s_System_with_service : Stmt := inClass (top 48) 13
theorem sc_System_with_service : FnScope ["self", "name", "block"] ["self", "name", "block"] (defScope s_System_with_service) := ⟨rfl, rfl, rfl, by decide +kernel, rfl, by decide +kernel, by decide +kernel⟩
abbrev s__law_told : Stmt := top 53
theorem sc__law_told : FnScope ["_law_call", "e"] ["_law_call"] (defScope s__law_told) := ⟨rfl, rfl, rfl, by decide +kernel, rfl, by decide +kernel, by decide +kernel⟩
abbrev s__law_doors_right : Stmt := top 54
theorem sc__law_doors_right : FnScope ["_law_one", "_law_name", "_law_due", "_law_value"] ["_law_one"] (defScope s__law_doors_right) := ⟨rfl, rfl, rfl, by decide +kernel, rfl, by decide +kernel, by decide +kernel⟩
abbrev s__law_first_bad : Stmt := top 56
theorem sc__law_first_bad : FnScope ["_law_at", "_law_bad"] ["_law_at", "_law_bad"] (defScope s__law_first_bad) := ⟨rfl, rfl, rfl, by decide +kernel, rfl, by decide +kernel, by decide +kernel⟩
abbrev s_System_policies : Stmt := inClass (top 48) 1
theorem sc_System_policies : FnScope ["self"] ["self"] (defScope s_System_policies) := ⟨rfl, rfl, rfl, by decide +kernel, rfl, by decide +kernel, by decide +kernel⟩
abbrev s__law_lists_right : Stmt := top 55
theorem sc__law_lists_right : FnScope ["_law_good", "_law_names", "_law_turn", "_law_many", "_law_name", "_law_bad"] ["_law_good"] (defScope s__law_lists_right) := ⟨rfl, rfl, rfl, by decide +kernel, rfl, by decide +kernel, by decide +kernel⟩
abbrev s__law_pool : Stmt := top 50
theorem sc__law_pool : FnScope ["_law_script", "_law_k", "_law_cell", "_law_seed"] ["_law_script", "_law_k"] (defScope s__law_pool) := ⟨rfl, rfl, rfl, by decide +kernel, rfl, by decide +kernel, by decide +kernel⟩
abbrev s_law : Stmt := top 57
theorem sc_law : FnScope ["_law_script", "_law_good", "_law_rows", "_law_k", "_law_pool_here", "_law_at", "_law_bad", "_law_late", "_law_block"] ["_law_script"] (defScope s_law) := ⟨rfl, rfl, rfl, by decide +kernel, rfl, by decide +kernel, by decide +kernel⟩
structure En (P : Program) (w : World) (K : PySem.W.Frag) (mg : Str → Option Value) (base : Heap) (ga : Ga) : Prop where
  f_is_name : FunD K "is_name" "is_name" (defArgs s_is_name) (defBody s_is_name) (defScope s_is_name) [] [] (ga "is_name") (fdA K (ga "is_name"))
  m_is_name : mg "is_name" = some (.ref (ga "is_name"))
  f_is_integer : FunD K "is_integer" "is_integer" (defArgs s_is_integer) (defBody s_is_integer) (defScope s_is_integer) [] [] (ga "is_integer") (fdA K (ga "is_integer"))
  m_is_integer : mg "is_integer" = some (.ref (ga "is_integer"))
  f_is_between : FunD K "is_between" "is_between" (defArgs s_is_between) (defBody s_is_between) (defScope s_is_between) [] [] (ga "is_between") (fdA K (ga "is_between"))
  m_is_between : mg "is_between" = some (.ref (ga "is_between"))
  f_are_pauses : FunD K "are_pauses" "are_pauses" (defArgs s_are_pauses) (defBody s_are_pauses) (defScope s_are_pauses) [] [] (ga "are_pauses") (fdA K (ga "are_pauses"))
  m_are_pauses : mg "are_pauses" = some (.ref (ga "are_pauses"))
  f_is_ending : FunD K "is_ending" "is_ending" (defArgs s_is_ending) (defBody s_is_ending) (defScope s_is_ending) [] [] (ga "is_ending") (fdA K (ga "is_ending"))
  m_is_ending : mg "is_ending" = some (.ref (ga "is_ending"))
  f_wrong_field : FunD K "wrong_field" "wrong_field" (defArgs s_wrong_field) (defBody s_wrong_field) (defScope s_wrong_field) [] [] (ga "wrong_field") (fdA K (ga "wrong_field"))
  m_wrong_field : mg "wrong_field" = some (.ref (ga "wrong_field"))
  f_Policy_init : FunD K "__init__" "Policy.__init__" (defArgs s_Policy_init) (defBody s_Policy_init) (defScope s_Policy_init) [] [("tries", .int 1), ("pauses", .non), ("early", .non), ("lossy", .bl false), ("ending", .ref (kwA K (me K ga "Policy" "__init__") "ending"))] (me K ga "Policy" "__init__") (fdA K (me K ga "Policy" "__init__"))
  kt_Policy_init_ending : ∀ H, SqT K H (kwA K (me K ga "Policy" "__init__") "ending") [.str "go"]
  f_Policy_name : FunD K "name" "Policy.name" (defArgs s_Policy_name) (defBody s_Policy_name) (defScope s_Policy_name) [] [] (pg K ga "Policy" "name") (fdA K (pg K ga "Policy" "name"))
  p_Policy_name : PropOf K (ga "Policy") "name" (me K ga "Policy" "name") (pg K ga "Policy" "name")
  f_Policy_longest : FunD K "longest" "Policy.longest" (defArgs s_Policy_longest) (defBody s_Policy_longest) (defScope s_Policy_longest) [] [] (pg K ga "Policy" "longest") (fdA K (pg K ga "Policy" "longest"))
  p_Policy_longest : PropOf K (ga "Policy") "longest" (me K ga "Policy" "longest") (pg K ga "Policy" "longest")
  f_block_span : FunD K "block_span" "block_span" (defArgs s_block_span) (defBody s_block_span) (defScope s_block_span) [] [] (ga "block_span") (fdA K (ga "block_span"))
  m_block_span : mg "block_span" = some (.ref (ga "block_span"))
  f_part_span : FunD K "part_span" "part_span" (defArgs s_part_span) (defBody s_part_span) (defScope s_part_span) [] [] (ga "part_span") (fdA K (ga "part_span"))
  m_part_span : mg "part_span" = some (.ref (ga "part_span"))
  f_is_call : FunD K "is_call" "is_call" (defArgs s_is_call) (defBody s_is_call) (defScope s_is_call) [] [] (ga "is_call") (fdA K (ga "is_call"))
  m_is_call : mg "is_call" = some (.ref (ga "is_call"))
  f_is_block : FunD K "is_block" "is_block" (defArgs s_is_block) (defBody s_is_block) (defScope s_is_block) [] [] (ga "is_block") (fdA K (ga "is_block"))
  m_is_block : mg "is_block" = some (.ref (ga "is_block"))
  f_is_part : FunD K "is_part" "is_part" (defArgs s_is_part) (defBody s_is_part) (defScope s_is_part) [] [] (ga "is_part") (fdA K (ga "is_part"))
  m_is_part : mg "is_part" = some (.ref (ga "is_part"))
  f_blocks_of : FunD K "blocks_of" "blocks_of" (defArgs s_blocks_of) (defBody s_blocks_of) (defScope s_blocks_of) [] [] (ga "blocks_of") (fdA K (ga "blocks_of"))
  m_blocks_of : mg "blocks_of" = some (.ref (ga "blocks_of"))
  f_numbered : FunD K "numbered" "numbered" (defArgs s_numbered) (defBody s_numbered) (defScope s_numbered) [] [] (ga "numbered") (fdA K (ga "numbered"))
  m_numbered : mg "numbered" = some (.ref (ga "numbered"))
  f_parts_of : FunD K "parts_of" "parts_of" (defArgs s_parts_of) (defBody s_parts_of) (defScope s_parts_of) [] [] (ga "parts_of") (fdA K (ga "parts_of"))
  m_parts_of : mg "parts_of" = some (.ref (ga "parts_of"))
  f_check_block : FunD K "check_block" "check_block" (defArgs s_check_block) (defBody s_check_block) (defScope s_check_block) [] [] (ga "check_block") (fdA K (ga "check_block"))
  m_check_block : mg "check_block" = some (.ref (ga "check_block"))
  f_check_policies : FunD K "check_policies" "check_policies" (defArgs s_check_policies) (defBody s_check_policies) (defScope s_check_policies) [] [] (ga "check_policies") (fdA K (ga "check_policies"))
  m_check_policies : mg "check_policies" = some (.ref (ga "check_policies"))
  f_check_services : FunD K "check_services" "check_services" (defArgs s_check_services) (defBody s_check_services) (defScope s_check_services) [] [] (ga "check_services") (fdA K (ga "check_services"))
  m_check_services : mg "check_services" = some (.ref (ga "check_services"))
  f_System_init : FunD K "__init__" "System.__init__" (defArgs s_System_init) (defBody s_System_init) (defScope s_System_init) [] [] (me K ga "System" "__init__") (fdA K (me K ga "System" "__init__"))
  f__law_draw : FunD K "_law_draw" "_law_draw" (defArgs s__law_draw) (defBody s__law_draw) (defScope s__law_draw) [] [] (ga "_law_draw") (fdA K (ga "_law_draw"))
  m__law_draw : mg "_law_draw" = some (.ref (ga "_law_draw"))
  f__law_choose : FunD K "_law_choose" "_law_choose" (defArgs s__law_choose) (defBody s__law_choose) (defScope s__law_choose) [] [] (ga "_law_choose") (fdA K (ga "_law_choose"))
  m__law_choose : mg "_law_choose" = some (.ref (ga "_law_choose"))
  f_System_contains : FunD K "__contains__" "System.__contains__" (defArgs s_System_contains) (defBody s_System_contains) (defScope s_System_contains) [] [] (me K ga "System" "__contains__") (fdA K (me K ga "System" "__contains__"))
  q_System_contains : Meth K (ga "System") "__contains__" (me K ga "System" "__contains__")
  fi_System_contains : PySem.W.fnIn K (me K ga "System" "__contains__") = true
  f_System_require : FunD K "require" "System.require" (defArgs s_System_require) (defBody s_System_require) (defScope s_System_require) [] [] (me K ga "System" "require") (fdA K (me K ga "System" "require"))
  q_System_require : Meth K (ga "System") "require" (me K ga "System" "require")
  fi_System_require : PySem.W.fnIn K (me K ga "System" "require") = true
  f_System_getitem : FunD K "__getitem__" "System.__getitem__" (defArgs s_System_getitem) (defBody s_System_getitem) (defScope s_System_getitem) [] [] (me K ga "System" "__getitem__") (fdA K (me K ga "System" "__getitem__"))
  q_System_getitem : Meth K (ga "System") "__getitem__" (me K ga "System" "__getitem__")
  fi_System_getitem : PySem.W.fnIn K (me K ga "System" "__getitem__") = true
  f_System_callees : FunD K "callees" "System.callees" (defArgs s_System_callees) (defBody s_System_callees) (defScope s_System_callees) [] [] (me K ga "System" "callees") (fdA K (me K ga "System" "callees"))
  q_System_callees : Meth K (ga "System") "callees" (me K ga "System" "callees")
  fi_System_callees : PySem.W.fnIn K (me K ga "System" "callees") = true
  f_System_policy : FunD K "policy" "System.policy" (defArgs s_System_policy) (defBody s_System_policy) (defScope s_System_policy) [] [] (me K ga "System" "policy") (fdA K (me K ga "System" "policy"))
  q_System_policy : Meth K (ga "System") "policy" (me K ga "System" "policy")
  fi_System_policy : PySem.W.fnIn K (me K ga "System" "policy") = true
  f_System_span : FunD K "span" "System.span" (defArgs s_System_span) (defBody s_System_span) (defScope s_System_span) [] [] (me K ga "System" "span") (fdA K (me K ga "System" "span"))
  q_System_span : Meth K (ga "System") "span" (me K ga "System" "span")
  fi_System_span : PySem.W.fnIn K (me K ga "System" "span") = true
  f_System_with_block : FunD K "with_block" "System.with_block" (defArgs s_System_with_block) (defBody s_System_with_block) (defScope s_System_with_block) [] [] (me K ga "System" "with_block") (fdA K (me K ga "System" "with_block"))
  q_System_with_block : Meth K (ga "System") "with_block" (me K ga "System" "with_block")
  fi_System_with_block : PySem.W.fnIn K (me K ga "System" "with_block") = true
  f_System_with_policy : FunD K "with_policy" "System.with_policy" (defArgs s_System_with_policy) (defBody s_System_with_policy) (defScope s_System_with_policy) [] [] (me K ga "System" "with_policy") (fdA K (me K ga "System" "with_policy"))
  q_System_with_policy : Meth K (ga "System") "with_policy" (me K ga "System" "with_policy")
  fi_System_with_policy : PySem.W.fnIn K (me K ga "System" "with_policy") = true
  f_System_with_service : FunD K "with_service" "System.with_service" (defArgs s_System_with_service) (defBody s_System_with_service) (defScope s_System_with_service) [] [] (me K ga "System" "with_service") (fdA K (me K ga "System" "with_service"))
  q_System_with_service : Meth K (ga "System") "with_service" (me K ga "System" "with_service")
  fi_System_with_service : PySem.W.fnIn K (me K ga "System" "with_service") = true
  f__law_told : FunD K "_law_told" "_law_told" (defArgs s__law_told) (defBody s__law_told) (defScope s__law_told) [] [] (ga "_law_told") (fdA K (ga "_law_told"))
  m__law_told : mg "_law_told" = some (.ref (ga "_law_told"))
  f__law_doors_right : FunD K "_law_doors_right" "_law_doors_right" (defArgs s__law_doors_right) (defBody s__law_doors_right) (defScope s__law_doors_right) [] [] (ga "_law_doors_right") (fdA K (ga "_law_doors_right"))
  m__law_doors_right : mg "_law_doors_right" = some (.ref (ga "_law_doors_right"))
  f__law_first_bad : FunD K "_law_first_bad" "_law_first_bad" (defArgs s__law_first_bad) (defBody s__law_first_bad) (defScope s__law_first_bad) [] [] (ga "_law_first_bad") (fdA K (ga "_law_first_bad"))
  m__law_first_bad : mg "_law_first_bad" = some (.ref (ga "_law_first_bad"))
  f_System_policies : FunD K "policies" "System.policies" (defArgs s_System_policies) (defBody s_System_policies) (defScope s_System_policies) [] [] (me K ga "System" "policies") (fdA K (me K ga "System" "policies"))
  q_System_policies : Meth K (ga "System") "policies" (me K ga "System" "policies")
  fi_System_policies : PySem.W.fnIn K (me K ga "System" "policies") = true
  f__law_lists_right : FunD K "_law_lists_right" "_law_lists_right" (defArgs s__law_lists_right) (defBody s__law_lists_right) (defScope s__law_lists_right) [] [] (ga "_law_lists_right") (fdA K (ga "_law_lists_right"))
  m__law_lists_right : mg "_law_lists_right" = some (.ref (ga "_law_lists_right"))
  f__law_pool : FunD K "_law_pool" "_law_pool" (defArgs s__law_pool) (defBody s__law_pool) (defScope s__law_pool) [] [] (ga "_law_pool") (fdA K (ga "_law_pool"))
  m__law_pool : mg "_law_pool" = some (.ref (ga "_law_pool"))
  f_law : FunD K "law" "law" (defArgs s_law) (defBody s_law) (defScope s_law) [] [] (ga "law") (fdA K (ga "law"))
  m_law : mg "law" = some (.ref (ga "law"))
  tb__law_doors_right : LamX.TabB base mg (He.cT K ("_law_doors_right", none)).1 (He.cT K ("_law_doors_right", none)).2
  cd__law_doors_right : (fdA K (ga "_law_doors_right")).code = .ref (He.cT K ("_law_doors_right", none)).1
  tm__law_doors_right : ((He.cT K ("_law_doors_right", none)).2, qLam "_law_doors_right") ∈ ga.T
  tu__law_doors_right : ∀ p ∈ ga.T, p.1 = (He.cT K ("_law_doors_right", none)).2 → p.2 = qLam "_law_doors_right"
  tb__law_lists_right : LamX.TabB base mg (He.cT K ("_law_lists_right", none)).1 (He.cT K ("_law_lists_right", none)).2
  cd__law_lists_right : (fdA K (ga "_law_lists_right")).code = .ref (He.cT K ("_law_lists_right", none)).1
  tm__law_lists_right : ((He.cT K ("_law_lists_right", none)).2, qLam "_law_lists_right") ∈ ga.T
  tu__law_lists_right : ∀ p ∈ ga.T, p.1 = (He.cT K ("_law_lists_right", none)).2 → p.2 = qLam "_law_lists_right"
  tb_law : LamX.TabB base mg (He.cT K ("law", none)).1 (He.cT K ("law", none)).2
  cd_law : (fdA K (ga "law")).code = .ref (He.cT K ("law", none)).1
  tm_law : ((He.cT K ("law", none)).2, qLam "law") ∈ ga.T
  tu_law : ∀ p ∈ ga.T, p.1 = (He.cT K ("law", none)).2 → p.2 = qLam "law"
  m_Policy : mg "Policy" = some (.ref (ga "Policy"))
  k_Policy : Cls K (ga "Policy")
  i_Policy : L2.Mk K (ga "Policy") (me K ga "Policy" "__init__")
  a_Policy_own_name : NoAttr K (ga "Policy") "own_name"
  a_Policy_own_limit : NoAttr K (ga "Policy") "own_limit"
  a_Policy_own_tries : NoAttr K (ga "Policy") "own_tries"
  a_Policy_own_pauses : NoAttr K (ga "Policy") "own_pauses"
  a_Policy_own_early : NoAttr K (ga "Policy") "own_early"
  a_Policy_own_lossy : NoAttr K (ga "Policy") "own_lossy"
  a_Policy_own_ending : NoAttr K (ga "Policy") "own_ending"
  m_System : mg "System" = some (.ref (ga "System"))
  k_System : Cls K (ga "System")
  i_System : L2.Mk K (ga "System") (me K ga "System" "__init__")
  a_System_own_policies : NoAttr K (ga "System") "own_policies"
  a_System_own_blocks : NoAttr K (ga "System") "own_blocks"
  x_InvalidName : ETx P K mg "InvalidName" (ga "InvalidName") (me K ga "InvalidName" "__init__") "ValueError" "ValueError.__new__" "ValueError.__init__" PySem.MEX.bmV
  g_InvalidName : PySem.MEX.EFn1 P K (ga "InvalidName") (me K ga "InvalidName" "__init__") "value"
  n_InvalidName_value : PySem.W.findIn K (.ref (ga "InvalidName")) "value" = some none
  x_InvalidPolicy : ETx P K mg "InvalidPolicy" (ga "InvalidPolicy") (me K ga "InvalidPolicy" "__init__") "ValueError" "ValueError.__new__" "ValueError.__init__" PySem.MEX.bmV
  g_InvalidPolicy : PySem.MEX.EFn1 P K (ga "InvalidPolicy") (me K ga "InvalidPolicy" "__init__") "field"
  n_InvalidPolicy_field : PySem.W.findIn K (.ref (ga "InvalidPolicy")) "field" = some none
  x_InvalidPolicies : ETx P K mg "InvalidPolicies" (ga "InvalidPolicies") (me K ga "InvalidPolicies" "__init__") "ValueError" "ValueError.__new__" "ValueError.__init__" PySem.MEX.bmV
  g_InvalidPolicies : PySem.MEX.EFn1 P K (ga "InvalidPolicies") (me K ga "InvalidPolicies" "__init__") "number"
  n_InvalidPolicies_number : PySem.W.findIn K (.ref (ga "InvalidPolicies")) "number" = some none
  x_InvalidServices : ETx P K mg "InvalidServices" (ga "InvalidServices") (me K ga "InvalidServices" "__init__") "ValueError" "ValueError.__new__" "ValueError.__init__" PySem.MEX.bmV
  g_InvalidServices : PySem.MEX.EFn1 P K (ga "InvalidServices") (me K ga "InvalidServices" "__init__") "number"
  n_InvalidServices_number : PySem.W.findIn K (.ref (ga "InvalidServices")) "number" = some none
  x_InvalidPart : ETx P K mg "InvalidPart" (ga "InvalidPart") (me K ga "InvalidPart" "__init__") "ValueError" "ValueError.__new__" "ValueError.__init__" PySem.MEX.bmV
  g_InvalidPart : PySem.MEX.EFn2 P K (ga "InvalidPart") (me K ga "InvalidPart" "__init__") "service" "place"
  n_InvalidPart_service : PySem.W.findIn K (.ref (ga "InvalidPart")) "service" = some none
  n_InvalidPart_place : PySem.W.findIn K (.ref (ga "InvalidPart")) "place" = some none
  x_UnknownName : ETx P K mg "UnknownName" (ga "UnknownName") (me K ga "UnknownName" "__init__") "LookupError" "LookupError.__new__" "LookupError.__init__" PySem.MEX.bmL
  g_UnknownName : PySem.MEX.EFn1 P K (ga "UnknownName") (me K ga "UnknownName" "__init__") "value"
  n_UnknownName_value : PySem.W.findIn K (.ref (ga "UnknownName")) "value" = some none
  x_TooLong : ETx P K mg "TooLong" (ga "TooLong") (me K ga "TooLong" "__init__") "OverflowError" "OverflowError.__new__" "OverflowError.__init__" PySem.MEX.bmO
  g_TooLong : PySem.MEX.EFn1 P K (ga "TooLong") (me K ga "TooLong" "__init__") "service"
  n_TooLong_service : PySem.W.findIn K (.ref (ga "TooLong")) "service" = some none
  ex : ∀ c ∈ KNOWN, ∀ d ∈ KNOWN, PySem.W.exmOne K (.ref (ga c)) (.ref (ga d)) = some (decide (c = d))
  b_isinstance : mg "isinstance" = none
  b_len : mg "len" = none
  b_all : mg "all" = none
  b_any : mg "any" = none
  b_sum : mg "sum" = none
  b_max : mg "max" = none
  b_min : mg "min" = none
  b_repr : mg "repr" = none
  b_int : mg "int" = none
  b_bool : mg "bool" = none
  b_str : mg "str" = none
  b_tuple : mg "tuple" = none
  b_list : mg "list" = none
  b_range : mg "range" = none
  b_enumerate : mg "enumerate" = none
  b_sorted : mg "sorted" = none
  c_LETTERS : ∃ t, mg "LETTERS" = some (.str "abcdefghijklmnopqrstuvwxyz" t)
  c_MAX_LETTERS : ∃ t, mg "MAX_LETTERS" = some (.int 8 t)
  c_MAX_RUN : ∃ t, mg "MAX_RUN" = some (.int 20 t)
  c_MAX_DEPTH : ∃ t, mg "MAX_DEPTH" = some (.int 3 t)
  c_SIZES : mg "SIZES" = some (.ref (ga "SIZES"))
  t_SIZES : KTab K w (ga "SIZES") (tabV TB_SIZES)
  c_MAX_LIMIT : ∃ t, mg "MAX_LIMIT" = some (.int 20 t)
  c_MAX_TRIES : ∃ t, mg "MAX_TRIES" = some (.int 3 t)
  c_MAX_PAUSE : ∃ t, mg "MAX_PAUSE" = some (.int 8 t)
  c_MAX_DELAY : ∃ t, mg "MAX_DELAY" = some (.int 20 t)
  c_GO : ∃ t, mg "GO" = some (.str "go" t)
  c_STOP : ∃ t, mg "STOP" = some (.str "stop" t)
  c_DEADLINE : ∃ t, mg "DEADLINE" = some (.str "deadline" t)
  c_MAX_POLICIES : ∃ t, mg "MAX_POLICIES" = some (.int 8 t)
  c_MAX_SERVICES : ∃ t, mg "MAX_SERVICES" = some (.int 6 t)
  c_MAX_PARTS : ∃ t, mg "MAX_PARTS" = some (.int 12 t)
  c_MAX_SPAN : ∃ t, mg "MAX_SPAN" = some (.int 400 t)
  kit : Kit K ga CS TAB
section
variable {P : Program} {w : World} {K : PySem.W.Frag} {mg : Str → Option Value} {base : Heap} {ga : Ga}
theorem kn_InvalidName (e : En P w K mg base ga) : ∀ c ∈ KNOWN, PySem.W.exmOne K (.ref (ga c)) (.ref (ga "InvalidName")) = some (decide (c = "InvalidName")) := fun c h => e.ex c h "InvalidName" (by decide)
theorem kn_InvalidPolicy (e : En P w K mg base ga) : ∀ c ∈ KNOWN, PySem.W.exmOne K (.ref (ga c)) (.ref (ga "InvalidPolicy")) = some (decide (c = "InvalidPolicy")) := fun c h => e.ex c h "InvalidPolicy" (by decide)
theorem kn_InvalidPolicies (e : En P w K mg base ga) : ∀ c ∈ KNOWN, PySem.W.exmOne K (.ref (ga c)) (.ref (ga "InvalidPolicies")) = some (decide (c = "InvalidPolicies")) := fun c h => e.ex c h "InvalidPolicies" (by decide)
theorem kn_InvalidServices (e : En P w K mg base ga) : ∀ c ∈ KNOWN, PySem.W.exmOne K (.ref (ga c)) (.ref (ga "InvalidServices")) = some (decide (c = "InvalidServices")) := fun c h => e.ex c h "InvalidServices" (by decide)
theorem kn_InvalidPart (e : En P w K mg base ga) : ∀ c ∈ KNOWN, PySem.W.exmOne K (.ref (ga c)) (.ref (ga "InvalidPart")) = some (decide (c = "InvalidPart")) := fun c h => e.ex c h "InvalidPart" (by decide)
theorem kn_UnknownName (e : En P w K mg base ga) : ∀ c ∈ KNOWN, PySem.W.exmOne K (.ref (ga c)) (.ref (ga "UnknownName")) = some (decide (c = "UnknownName")) := fun c h => e.ex c h "UnknownName" (by decide)
theorem kn_TooLong (e : En P w K mg base ga) : ∀ c ∈ KNOWN, PySem.W.exmOne K (.ref (ga c)) (.ref (ga "TooLong")) = some (decide (c = "TooLong")) := fun c h => e.ex c h "TooLong" (by decide)
noncomputable def m_is_name : Fn := fnB 1 2 ((sSeq (sIf (tOr (tNot (tru (eF (isiF CS TAB) (aC (eV 0) (aC (eC (.ty "str")) aN))))) (tNot (tV1 (eCh leF leF (eC (.int 1)) (eF lenF (aC (eV 0) aN)) (eC (.int 8)))))) (sRt (eC (.bl false))) sN)
    (sRt (eQ allF (vC (iA (eV 0)) (gN 1) tY (eOp inF (eV 1) (eC (.str "abcdefghijklmnopqrstuvwxyz"))) [1])))))
theorem l_is_name : ∀ xs L, xs.length ≠ 1 → m_is_name xs L = .no := fnB_len
theorem b_is_name (e : En P w K mg base ga) : Binds K (fdA K (ga "is_name")) ["value"] [] := e.f_is_name.bindsN fun _ _ _ _ _ _ us hl => match us, hl with | [_], _ => rfl
theorem w_is_name (e : En P w K mg base ga) : FnM P w K mg base ga 1 (ga "is_name") (fdA K (ga "is_name")) ["value"] m_is_name := by
  obtain ⟨_, c_LETTERS⟩ := e.c_LETTERS
  obtain ⟨_, c_MAX_LETTERS⟩ := e.c_MAX_LETTERS
  exact fn_ok e.f_is_name sc_is_name (fun cdv A outer s H E hgd hr => (fs_cons (fs_if (PW.pt (fw_or (ft_not (ft_tru (fe_B call_isi (isiL e.kit) rfl e.b_isinstance boot_b_isinstance (fa_cons (fe_n 0) (fa_cons (fe_ty rfl e.b_str boot_t_str) fa_nil))))) (fw_or1 (ft_not (ft_ch op_le op_le leL leL fe_int (fe_B cr_lenA lenL rfl e.b_len boot_b_len (fa_cons (fe_n 0) fa_nil)) (fe_gi rfl c_MAX_LETTERS)))))) (fs_one (fs_ret fe_bl)) fs_nil)
      (fs_one (fs_ret (fe_Bq (cr_all rfl) allL rfl e.b_all boot_b_all (fl_ofV (fv_lc (ow := [("sign", 1)]) rfl sc_is_name.nd (fi_a (fe_n 0)) (blkOk_by (N := ["value", "sign"]) (sc := defScope s_is_name) (by decide +kernel)) (fun _ _ _ _ _ => (fgo_name (i := 1) (by decide) sc_is_name.nd rfl (Or.inl rfl) (.inr rfl))) (fun _ _ _ _ _ => fts_nil) (fun _ _ _ _ _ => (fe_cmp (op_inA (u1 hr)) inL (fe_n 1) (fe_gs rfl c_LETTERS) (by rfl))))))))))
noncomputable def m_is_integer : Fn := fnB 1 1 ((sRt (eAnd (eF (isiF CS TAB) (aC (eV 0) (aC (eC (.ty "int")) aN))) (eNot (eF (isiF CS TAB) (aC (eV 0) (aC (eC (.ty "bool")) aN)))))))
theorem l_is_integer : ∀ xs L, xs.length ≠ 1 → m_is_integer xs L = .no := fnB_len
theorem b_is_integer (e : En P w K mg base ga) : Binds K (fdA K (ga "is_integer")) ["value"] [] := e.f_is_integer.bindsN fun _ _ _ _ _ _ us hl => match us, hl with | [_], _ => rfl
theorem w_is_integer (e : En P w K mg base ga) : FnM P w K mg base ga 1 (ga "is_integer") (fdA K (ga "is_integer")) ["value"] m_is_integer := by
  exact fn_ok e.f_is_integer sc_is_integer (fun cdv A outer s H E hgd hr => (fs_one (fs_ret (fe_and (fe_B call_isi (isiL e.kit) rfl e.b_isinstance boot_b_isinstance (fa_cons (fe_n 0) (fa_cons (fe_ty rfl e.b_int boot_t_int) fa_nil))) (fe_b1 (fe_not (fe_B call_isi (isiL e.kit) rfl e.b_isinstance boot_b_isinstance (fa_cons (fe_n 0) (fa_cons (fe_ty rfl e.b_bool boot_t_bool) fa_nil)))))))))
noncomputable def m_is_between : Fn := fnB 3 3 ((sRt (eAnd (eF m_is_integer (aC (eV 0) aN)) (eCh leF leF (eV 1) (eV 0) (eV 2)))))
theorem l_is_between : ∀ xs L, xs.length ≠ 3 → m_is_between xs L = .no := fnB_len
theorem b_is_between (e : En P w K mg base ga) : Binds K (fdA K (ga "is_between")) ["value", "low", "high"] [] := e.f_is_between.bindsN fun _ _ _ _ _ _ us hl => match us, hl with | [_, _, _], _ => rfl
theorem w_is_between (e : En P w K mg base ga) : FnM P w K mg base ga 2 (ga "is_between") (fdA K (ga "is_between")) ["value", "low", "high"] m_is_between := by
  exact fn_ok e.f_is_between sc_is_between (fun cdv A outer s H E hgd hr => (fs_one (fs_ret (fe_and (fe_call (dfn (w_is_integer e) (b_is_integer e) e.f_is_integer.kp l_is_integer (by exact deep_gd hgd) hr) (tk_of (takes_of rfl rfl rfl rfl)) rfl e.m_is_integer (fa_cons (fe_n 0) fa_nil)) (fe_b1 (fe_ch op_le op_le leL leL (fe_n 1) (fe_n 0) (fe_n 2)))))))
noncomputable def m_are_pauses : Fn := fnB 2 3 ((sSeq (sIf (tOr (tNot (tru (eF (isiF CS TAB) (aC (eV 0) (aC (eC (.ty "tuple")) aN))))) (tOp2 neF (eF lenF (aC (eV 0) aN)) (eOp subF (eV 1) (eC (.int 1))))) (sRt (eC (.bl false))) sN)
    (sRt (eQ allF (vC (iA (eV 0)) (gN 2) tY (eF m_is_between (aC (eV 2) (aC (eC (.int 0)) (aC (eC (.int 8)) aN)))) [2])))))
theorem l_are_pauses : ∀ xs L, xs.length ≠ 2 → m_are_pauses xs L = .no := fnB_len
theorem b_are_pauses (e : En P w K mg base ga) : Binds K (fdA K (ga "are_pauses")) ["value", "tries"] [] := e.f_are_pauses.bindsN fun _ _ _ _ _ _ us hl => match us, hl with | [_, _], _ => rfl
theorem w_are_pauses (e : En P w K mg base ga) : FnM P w K mg base ga 3 (ga "are_pauses") (fdA K (ga "are_pauses")) ["value", "tries"] m_are_pauses := by
  obtain ⟨_, c_MAX_PAUSE⟩ := e.c_MAX_PAUSE
  exact fn_ok e.f_are_pauses sc_are_pauses (fun cdv A outer s H E hgd hr => (fs_cons (fs_if (PW.pt (fw_or (ft_not (ft_tru (fe_B call_isi (isiL e.kit) rfl e.b_isinstance boot_b_isinstance (fa_cons (fe_n 0) (fa_cons (fe_ty rfl e.b_tuple boot_t_tuple) fa_nil))))) (fw_or1 (ft_cmp (op_neD (u64 hr)) neL (fe_B cr_lenA lenL rfl e.b_len boot_b_len (fa_cons (fe_n 0) fa_nil)) (fe_op op_sub subL (fe_n 1) fe_int) (nomark _))))) (fs_one (fs_ret fe_bl)) fs_nil)
      (fs_one (fs_ret (fe_Bq (cr_all rfl) allL rfl e.b_all boot_b_all (fl_ofV (fv_lc (ow := [("one", 2)]) rfl sc_are_pauses.nd (fi_a (fe_n 0)) (blkOk_by (N := ["value", "tries", "one"]) (sc := defScope s_are_pauses) (by decide +kernel)) (fun _ _ _ _ _ => (fgo_name (i := 2) (by decide) sc_are_pauses.nd rfl (Or.inl rfl) (.inr rfl))) (fun _ _ _ _ _ => fts_nil) (fun _ _ _ _ _ => (fe_call (dfn (w_is_between e) (b_is_between e) e.f_is_between.kp l_is_between (by exact deep_gd hgd) hr) tk_0 rfl e.m_is_between (fa_cons (fe_n 2) (fa_cons fe_int (fa_cons (fe_gi rfl c_MAX_PAUSE) fa_nil))))))))))))
noncomputable def m_is_ending : Fn := fnB 1 3 ((sMt (eV 0) (mmW [1] (sRt (eAnd (eF (isiF CS TAB) (aC (eV 0) (aC (eC (.ty "tuple")) aN))) (eAnd (eF (isiF CS TAB) (aC (eV 1) (aC (eC (.ty "str")) aN))) (eOp inF (eV 1) (eT (aC (eC (.str "go")) (aC (eC (.str "deadline")) aN))))))) (mmW [1, 2] (sSeq (sIf (tOr (tNot (tru (eF (isiF CS TAB) (aC (eV 0) (aC (eC (.ty "tuple")) aN))))) (tNot (tru (eF (isiF CS TAB) (aC (eV 1) (aC (eC (.ty "str")) aN)))))) (sRt (eC (.bl false))) sN)
    (sRt (eAnd (eOp eqF (eV 1) (eC (.str "stop"))) (eF m_is_between (aC (eV 2) (aC (eC (.int 0)) (aC (eC (.int 20)) aN))))))) (mmA (sRt (eC (.bl false))))))))
theorem l_is_ending : ∀ xs L, xs.length ≠ 1 → m_is_ending xs L = .no := fnB_len
theorem b_is_ending (e : En P w K mg base ga) : Binds K (fdA K (ga "is_ending")) ["value"] [] := e.f_is_ending.bindsN fun _ _ _ _ _ _ us hl => match us, hl with | [_], _ => rfl
theorem w_is_ending (e : En P w K mg base ga) : FnM P w K mg base ga 3 (ga "is_ending") (fdA K (ga "is_ending")) ["value"] m_is_ending := by
  obtain ⟨_, c_DEADLINE⟩ := e.c_DEADLINE
  obtain ⟨_, c_GO⟩ := e.c_GO
  obtain ⟨_, c_MAX_DELAY⟩ := e.c_MAX_DELAY
  obtain ⟨_, c_STOP⟩ := e.c_STOP
  exact fn_ok e.f_is_ending sc_is_ending (fun cdv A outer s H E hgd hr => (fs_one (fs_match (fe_n 0) (fm_seq1 (i := 1) rfl sc_is_ending.nd rfl rfl (fs_one (fs_ret (fe_and (fe_B call_isi (isiL e.kit) rfl e.b_isinstance boot_b_isinstance (fa_cons (fe_n 0) (fa_cons (fe_ty rfl e.b_tuple boot_t_tuple) fa_nil))) (fe_and (fe_B call_isi (isiL e.kit) rfl e.b_isinstance boot_b_isinstance (fa_cons (fe_n 1) (fa_cons (fe_ty rfl e.b_str boot_t_str) fa_nil))) (fe_b1 (fe_cmp (op_inA (u1 hr)) inL (fe_n 1) (fe_tup (fa_cons (fe_gs rfl c_GO) (fa_cons (fe_gs rfl c_DEADLINE) fa_nil))) (by rfl))))))) (fm_seq2 (i := 1) (j := 2) rfl sc_is_ending.nd rfl rfl rfl rfl (fs_cons (fs_if (PW.pt (fw_or (ft_not (ft_tru (fe_B call_isi (isiL e.kit) rfl e.b_isinstance boot_b_isinstance (fa_cons (fe_n 0) (fa_cons (fe_ty rfl e.b_tuple boot_t_tuple) fa_nil))))) (fw_or1 (ft_not (ft_tru (fe_B call_isi (isiL e.kit) rfl e.b_isinstance boot_b_isinstance (fa_cons (fe_n 1) (fa_cons (fe_ty rfl e.b_str boot_t_str) fa_nil)))))))) (fs_one (fs_ret fe_bl)) fs_nil)
      (fs_one (fs_ret (fe_and (fe_cmp (op_eqD (u64 hr)) eqL (fe_n 1) (fe_gs rfl c_STOP) (nomark _)) (fe_b1 (fe_call (dfn (w_is_between e) (b_is_between e) e.f_is_between.kp l_is_between (by exact deep_gd hgd) hr) (tk_of (takes_of rfl rfl rfl rfl)) rfl e.m_is_between (fa_cons (fe_n 2) (fa_cons fe_int (fa_cons (fe_gi rfl c_MAX_DELAY) fa_nil))))))))) (fm_any (fs_one (fs_ret fe_bl))))))))
noncomputable def m_wrong_field : Fn := fnB 6 6 ((sSeq (sIf (tNot (tru (eF m_is_between (aC (eV 0) (aC (eC (.int 1)) (aC (eC (.int 20)) aN)))))) (sRt (eC (.str "limit"))) sN)
    (sSeq (sIf (tNot (tru (eF m_is_between (aC (eV 1) (aC (eC (.int 1)) (aC (eC (.int 3)) aN)))))) (sRt (eC (.str "tries"))) sN)
    (sSeq (sIf (tAnd (tOp2 notNF (eV 2) (eC .non)) (tOr (tOp2 notNF (eV 3) (eC .non)) (tNot (tru (eF m_are_pauses (aC (eV 2) (aC (eV 1) aN))))))) (sRt (eC (.str "pauses"))) sN)
    (sSeq (sIf (tAnd (tOp2 notNF (eV 3) (eC .non)) (tOr (tOp2 ltF (eV 1) (eC (.int 2))) (tNot (tru (eF m_is_between (aC (eV 3) (aC (eC (.int 1)) (aC (eC (.int 20)) aN)))))))) (sRt (eC (.str "early"))) sN)
    (sSeq (sIf (tNot (tru (eF (isiF CS TAB) (aC (eV 4) (aC (eC (.ty "bool")) aN))))) (sRt (eC (.str "lossy"))) sN)
    (sRt (eIf (tru (eF m_is_ending (aC (eV 5) aN))) (eC .non) (eC (.str "ending"))))))))))
theorem l_wrong_field : ∀ xs L, xs.length ≠ 6 → m_wrong_field xs L = .no := fnB_len
theorem b_wrong_field (e : En P w K mg base ga) : Binds K (fdA K (ga "wrong_field")) ["limit", "tries", "pauses", "early", "lossy", "ending"] [] := e.f_wrong_field.bindsN fun _ _ _ _ _ _ us hl => match us, hl with | [_, _, _, _, _, _], _ => rfl
theorem w_wrong_field (e : En P w K mg base ga) : FnM P w K mg base ga 4 (ga "wrong_field") (fdA K (ga "wrong_field")) ["limit", "tries", "pauses", "early", "lossy", "ending"] m_wrong_field := by
  obtain ⟨_, c_MAX_LIMIT⟩ := e.c_MAX_LIMIT
  obtain ⟨_, c_MAX_TRIES⟩ := e.c_MAX_TRIES
  exact fn_ok e.f_wrong_field sc_wrong_field (fun cdv A outer s H E hgd hr => (fs_cons (fs_if (ft_not (ft_tru (fe_call (dfn (w_is_between e) (b_is_between e) e.f_is_between.kp l_is_between (by exact deep_gd hgd) hr) (tk_of (takes_of rfl rfl rfl rfl)) rfl e.m_is_between (fa_cons (fe_n 0) (fa_cons fe_int (fa_cons (fe_gi rfl c_MAX_LIMIT) fa_nil)))))) (fs_one (fs_ret fe_str)) fs_nil)
      (fs_cons (fs_if (ft_not (ft_tru (fe_call (dfn (w_is_between e) (b_is_between e) e.f_is_between.kp l_is_between (by exact deep_gd hgd) hr) (tk_of (takes_of rfl rfl rfl rfl)) rfl e.m_is_between (fa_cons (fe_n 1) (fa_cons fe_int (fa_cons (fe_gi rfl c_MAX_TRIES) fa_nil)))))) (fs_one (fs_ret fe_str)) fs_nil)
      (fs_cons (fs_if (PW.pt (fw_and (ft_cmp op_notN notNL (fe_n 2) fe_non rfl) (fw_and1 (PW.pt (fw_or (ft_cmp op_notN notNL (fe_n 3) fe_non rfl) (fw_or1 (ft_not (ft_tru (fe_call (dfn (w_are_pauses e) (b_are_pauses e) e.f_are_pauses.kp l_are_pauses (by exact deep_gd hgd) hr) (tk_of (takes_of rfl rfl rfl rfl)) rfl e.m_are_pauses (fa_cons (fe_n 2) (fa_cons (fe_n 1) fa_nil))))))))))) (fs_one (fs_ret fe_str)) fs_nil)
      (fs_cons (fs_if (PW.pt (fw_and (ft_cmp op_notN notNL (fe_n 3) fe_non rfl) (fw_and1 (PW.pt (fw_or (ft_cmp op_lt ltL (fe_n 1) fe_int (nomark _)) (fw_or1 (ft_not (ft_tru (fe_call (dfn (w_is_between e) (b_is_between e) e.f_is_between.kp l_is_between (by exact deep_gd hgd) hr) (tk_of (takes_of rfl rfl rfl rfl)) rfl e.m_is_between (fa_cons (fe_n 3) (fa_cons fe_int (fa_cons (fe_gi rfl c_MAX_LIMIT) fa_nil)))))))))))) (fs_one (fs_ret fe_str)) fs_nil)
      (fs_cons (fs_if (ft_not (ft_tru (fe_B call_isi (isiL e.kit) rfl e.b_isinstance boot_b_isinstance (fa_cons (fe_n 4) (fa_cons (fe_ty rfl e.b_bool boot_t_bool) fa_nil))))) (fs_one (fs_ret fe_str)) fs_nil)
      (fs_one (fs_ret (fe_if (ft_tru (fe_call (dfn (w_is_ending e) (b_is_ending e) e.f_is_ending.kp l_is_ending (by exact deep_gd hgd) hr) (tk_of (takes_of rfl rfl rfl rfl)) rfl e.m_is_ending (fa_cons (fe_n 5) fa_nil))) fe_non fe_str)))))))))
noncomputable def m_Policy_init : Fn := fnB 8 9 ((sSeq (sIf (tNot (tru (eF m_is_name (aC (eV 1) aN)))) (sRs "InvalidName" ["value"] (aC (eV 1) aN)) sN)
    (sSeq (sAs (eF m_wrong_field (aC (eV 2) (aC (eV 3) (aC (eV 4) (aC (eV 5) (aC (eV 6) (aC (eV 7) aN))))))) (gN 8))
    (sSeq (sIf (tOp2 notNF (eV 8) (eC .non)) (sRs "InvalidPolicy" ["field"] (aC (eV 8) aN)) sN)
    (sSeq (sFd "own_name" ["Policy"] (eV 1) (eV 0))
    (sSeq (sFd "own_limit" ["Policy"] (eV 2) (eV 0))
    (sSeq (sFd "own_tries" ["Policy"] (eV 3) (eV 0))
    (sSeq (sFd "own_pauses" ["Policy"] (eIf (tAnd (tOp2 isNF (eV 4) (eC .non)) (tOp2 isNF (eV 5) (eC .non))) (eOp mulBF (eT (aC (eC (.int 0)) aN)) (eOp subF (eV 3) (eC (.int 1)))) (eOr (eV 4) (eT aN))) (eV 0))
    (sSeq (sFd "own_early" ["Policy"] (eV 5) (eV 0))
    (sSeq (sFd "own_lossy" ["Policy"] (eV 6) (eV 0))
    (sFd "own_ending" ["Policy"] (eV 7) (eV 0))))))))))))
theorem l_Policy_init : ∀ xs L, xs.length ≠ 8 → m_Policy_init xs L = .no := fnB_len
theorem w_Policy_init (e : En P w K mg base ga) : FnM P w K mg base ga 5 (me K ga "Policy" "__init__") (fdA K (me K ga "Policy" "__init__")) ["self", "name", "limit", "tries", "pauses", "early", "lossy", "ending"] m_Policy_init := by
  exact fn_ok e.f_Policy_init sc_Policy_init (fun cdv A outer s H E hgd hr => (fs_cons (fs_if (ft_not (ft_tru (fe_call (dfn (w_is_name e) (b_is_name e) e.f_is_name.kp l_is_name (by exact deep_gd hgd) hr) (tk_of (takes_of rfl rfl rfl rfl)) rfl e.m_is_name (fa_cons (fe_n 1) fa_nil)))) (fs_one (fs_raise1 rfl e.x_InvalidName e.g_InvalidName hr (takes_of rfl rfl rfl rfl) (fa_cons (fe_n 1) fa_nil))) fs_nil)
      (fs_cons (fs_set (i := 8) sc_Policy_init.nd rfl (Or.inl rfl) (fe_call (dfn (w_wrong_field e) (b_wrong_field e) e.f_wrong_field.kp l_wrong_field (by exact deep_gd hgd) hr) (tk_of (takes_of rfl rfl rfl rfl)) rfl e.m_wrong_field (fa_cons (fe_n 2) (fa_cons (fe_n 3) (fa_cons (fe_n 4) (fa_cons (fe_n 5) (fa_cons (fe_n 6) (fa_cons (fe_n 7) fa_nil))))))))
      (fs_cons (fs_if (ft_cmp op_notN notNL (fe_n 8) fe_non rfl) (fs_one (fs_raise1 rfl e.x_InvalidPolicy e.g_InvalidPolicy hr (takes_of rfl rfl rfl rfl) (fa_cons (fe_n 8) fa_nil))) fs_nil)
      (fs_cons (fs_fd (cs := ["Policy"]) (cs_cons e.k_Policy e.a_Policy_own_name cs_nil) (fe_n 0) (fe_n 1) rfl)
      (fs_cons (fs_fd (cs := ["Policy"]) (cs_cons e.k_Policy e.a_Policy_own_limit cs_nil) (fe_n 0) (fe_n 2) rfl)
      (fs_cons (fs_fd (cs := ["Policy"]) (cs_cons e.k_Policy e.a_Policy_own_tries cs_nil) (fe_n 0) (fe_n 3) rfl)
      (fs_cons (fs_fd (cs := ["Policy"]) (cs_cons e.k_Policy e.a_Policy_own_pauses cs_nil) (fe_n 0) (fe_if (PW.pt (fw_and (ft_cmp op_isN isNL (fe_n 4) fe_non rfl) (fw_and1 (ft_cmp op_isN isNL (fe_n 5) fe_non rfl)))) (fe_op op_mulB mulBL (fe_tup (fa_cons fe_int fa_nil)) (fe_op op_sub subL (fe_n 3) fe_int)) (fe_or (fe_n 4) (fe_b1 (fe_tup fa_nil)))) rfl)
      (fs_cons (fs_fd (cs := ["Policy"]) (cs_cons e.k_Policy e.a_Policy_own_early cs_nil) (fe_n 0) (fe_n 5) rfl)
      (fs_cons (fs_fd (cs := ["Policy"]) (cs_cons e.k_Policy e.a_Policy_own_lossy cs_nil) (fe_n 0) (fe_n 6) rfl)
      (fs_one (fs_fd (cs := ["Policy"]) (cs_cons e.k_Policy e.a_Policy_own_ending cs_nil) (fe_n 0) (fe_n 7) rfl))))))))))))
def gP_Policy_2 : List PV → List PV → List PV := fun xs _ => xs ++ [.int 1, .non, .non, .bl false, .tup [.str "go"]]
theorem bf_Policy_2 (e : En P w K mg base ga) : BindF K ga (fdA K (me K ga "Policy" "__init__")) ["self", "name", "limit", "tries", "pauses", "early", "lossy", "ending"] 3 [] gP_Policy_2 := by
  obtain ⟨mv, h⟩ := FunD.kbinds0 (ps := ["self", "name", "limit", "tries", "pauses", "early", "lossy", "ending"]) e.f_Policy_init 3 [] [("tries", .int 1), ("pauses", .non), ("early", .non), ("lossy", .bl false), ("ending", .ref (kwA K (me K ga "Policy" "__init__") "ending"))] (fun us mv _ => us ++ mv) (by simp) (fun q h => h) (fun r1 r2 _ => r1.append r2)
    (fun D doc pm an cdv ct us mv ws l1 l2 l3 => match us, mv, ws, l1, l2, l3 with | [_, _, _], [_, _, _, _, _], [], _, _, _ => ⟨_, _, _, _, _, _, rfl, rfl, _, _, _, _, _, _, rfl, rfl, _, _, _, _, _, _, rfl, rfl, _, _, _, _, _, _, rfl, rfl, _, _, _, _, _, _, rfl, rfl, rfl⟩)
  refine ⟨_, _, h, fun ι H xs zs vs us r _ => r.app ?_⟩
  exact ⟨_, _, rfl, vri, ⟨_, _, rfl, vrn, ⟨_, _, rfl, vrn, ⟨_, _, rfl, vrb, ⟨_, _, rfl, ⟨_, _, rfl, e.kt_Policy_init_ending H, _, _, rfl, vrs, rfl⟩, rfl⟩⟩⟩⟩⟩
noncomputable def m_Policy_name : Fn := fnB 1 1 ((sRt (eAt "own_name" ["Policy"] [] (eV 0))))
theorem l_Policy_name : ∀ xs L, xs.length ≠ 1 → m_Policy_name xs L = .no := fnB_len
theorem b_Policy_name (e : En P w K mg base ga) : Binds K (fdA K (pg K ga "Policy" "name")) ["self"] [] := e.f_Policy_name.bindsN fun _ _ _ _ _ _ us hl => match us, hl with | [_], _ => rfl
theorem w_Policy_name (e : En P w K mg base ga) : FnM P w K mg base ga 1 (pg K ga "Policy" "name") (fdA K (pg K ga "Policy" "name")) ["self"] m_Policy_name := by
  exact fn_ok e.f_Policy_name sc_Policy_name (fun cdv A outer s H E hgd hr => (fs_one (fs_ret (fe_at (cs := ["Policy"]) (ps := []) (cs_cons e.k_Policy e.a_Policy_own_name cs_nil) ps_nil (fe_n 0) rfl))))
noncomputable def m_Policy_longest : Fn := fnB 1 1 ((sSeq (sIf (tOp2 isNF (eAt "own_early" ["Policy"] [] (eV 0)) (eC .non)) (sRt (eOp addF (eOp mulBF (eAt "own_tries" ["Policy"] [] (eV 0)) (eAt "own_limit" ["Policy"] [] (eV 0))) (eQ sumF (qE (eAt "own_pauses" ["Policy"] [] (eV 0)))))) sN)
    (sRt (eOp addF (eOp mulBF (eOp subF (eAt "own_tries" ["Policy"] [] (eV 0)) (eC (.int 1))) (eAt "own_early" ["Policy"] [] (eV 0))) (eAt "own_limit" ["Policy"] [] (eV 0))))))
theorem l_Policy_longest : ∀ xs L, xs.length ≠ 1 → m_Policy_longest xs L = .no := fnB_len
theorem b_Policy_longest (e : En P w K mg base ga) : Binds K (fdA K (pg K ga "Policy" "longest")) ["self"] [] := e.f_Policy_longest.bindsN fun _ _ _ _ _ _ us hl => match us, hl with | [_], _ => rfl
theorem w_Policy_longest (e : En P w K mg base ga) : FnM P w K mg base ga 1 (pg K ga "Policy" "longest") (fdA K (pg K ga "Policy" "longest")) ["self"] m_Policy_longest := by
  exact fn_ok e.f_Policy_longest sc_Policy_longest (fun cdv A outer s H E hgd hr => (fs_cons (fs_if (ft_cmp op_isN isNL (fe_at (cs := ["Policy"]) (ps := []) (cs_cons e.k_Policy e.a_Policy_own_early cs_nil) ps_nil (fe_n 0) rfl) fe_non rfl) (fs_one (fs_ret (fe_op op_addA addL (fe_op op_mulB mulBL (fe_at (cs := ["Policy"]) (ps := []) (cs_cons e.k_Policy e.a_Policy_own_tries cs_nil) ps_nil (fe_n 0) rfl) (fe_at (cs := ["Policy"]) (ps := []) (cs_cons e.k_Policy e.a_Policy_own_limit cs_nil) ps_nil (fe_n 0) rfl)) (fe_Bq (cr_sumA rfl) sumLL rfl e.b_sum boot_b_sum (fq_ofE (fe_at (cs := ["Policy"]) (ps := []) (cs_cons e.k_Policy e.a_Policy_own_pauses cs_nil) ps_nil (fe_n 0) rfl)))))) fs_nil)
      (fs_one (fs_ret (fe_op op_addA addL (fe_op op_mulB mulBL (fe_op op_sub subL (fe_at (cs := ["Policy"]) (ps := []) (cs_cons e.k_Policy e.a_Policy_own_tries cs_nil) ps_nil (fe_n 0) rfl) fe_int) (fe_at (cs := ["Policy"]) (ps := []) (cs_cons e.k_Policy e.a_Policy_own_early cs_nil) ps_nil (fe_n 0) rfl)) (fe_at (cs := ["Policy"]) (ps := []) (cs_cons e.k_Policy e.a_Policy_own_limit cs_nil) ps_nil (fe_n 0) rfl))))))
noncomputable def mm_block_span : Nat → Fn × Fn := fun n => Nat.rec (motive := fun _ => Fn × Fn) (fn0, fn0) (fun _ ih => (fnB 2 3 ((sRt (eQ sumF (vC (iA (eV 0)) (gN 2) tY (eF ih.2 (aC (eV 2) (aC (eV 1) aN))) [2])))),
  fnB 2 3 ((sMt (eOp ixF (eV 0) (eC (.int 0))) (mmS ["run"] (sRt (eOp ixF (eV 0) (eC (.int 2)))) (mmS ["call", "want"] (sRt (eAt "longest" [] [("Policy", m_Policy_longest)] (eOp ixF (eV 1) (eOp ixF (eV 0) (eC (.int 2)))))) (mmS ["maybe", "both"] (sRt (eQ maxF (vC (iA (eSl (eV 0) (oS (eC (.int 1))) oN)) (gN 2) tY (eF ih.1 (aC (eV 2) (aC (eV 1) aN))) [2]))) (mmA (sRt (eC (.int 0))))))))))) n
noncomputable def m_block_span (n : Nat) : Fn := (mm_block_span n).1
noncomputable def m_part_span (n : Nat) : Fn := (mm_block_span n).2
theorem l_block_span (n : Nat) : ∀ xs L, xs.length ≠ 2 → m_block_span n xs L = .no := by
  cases n with
  | zero => intro _ _ _; rfl
  | succ n => exact fnB_len
theorem b_block_span (e : En P w K mg base ga) : Binds K (fdA K (ga "block_span")) ["block", "policies"] [] := e.f_block_span.bindsN fun _ _ _ _ _ _ us hl => match us, hl with | [_, _], _ => rfl
theorem l_part_span (n : Nat) : ∀ xs L, xs.length ≠ 2 → m_part_span n xs L = .no := by
  cases n with
  | zero => intro _ _ _; rfl
  | succ n => exact fnB_len
theorem b_part_span (e : En P w K mg base ga) : Binds K (fdA K (ga "part_span")) ["part", "policies"] [] := e.f_part_span.bindsN fun _ _ _ _ _ _ us hl => match us, hl with | [_, _], _ => rfl
theorem ww_block_span (e : En P w K mg base ga) : ∀ n : Nat, FnM P w K mg base ga (2 + n) (ga "block_span") (fdA K (ga "block_span")) ["block", "policies"] (m_block_span n) ∧ FnM P w K mg base ga (2 + n) (ga "part_span") (fdA K (ga "part_span")) ["part", "policies"] (m_part_span n) := by
  intro n
  induction n with
  | zero => exact ⟨fn_zero, fn_zero⟩
  | succ n ih =>
    obtain ⟨ih_block_span, ih_part_span⟩ := ih
    exact ⟨fn_ok e.f_block_span sc_block_span (fun cdv A outer s H E hgd hr => (fs_one (fs_ret (fe_Bq (cr_sumA rfl) sumLL rfl e.b_sum boot_b_sum (fq_ofV (fv_lc (ow := [("part", 2)]) rfl sc_block_span.nd (fi_a (fe_n 0)) (blkOk_by (N := ["block", "policies", "part"]) (sc := defScope s_block_span) (by decide +kernel)) (fun _ _ _ _ _ => (fgo_name (i := 2) (by decide) sc_block_span.nd rfl (Or.inl rfl) (.inr rfl))) (fun _ _ _ _ _ => fts_nil) (fun _ _ _ _ _ => (fe_call (dfn (ih_part_span) (b_part_span e) e.f_part_span.kp (l_part_span n) (by exact deep_gd hgd) hr) tk_0 rfl e.m_part_span (fa_cons (fe_n 2) (fa_cons (fe_n 1) fa_nil)))))))))),
      fn_ok e.f_part_span sc_part_span (fun cdv A outer s H E hgd hr => (fs_one (fs_match (fe_ix (u1 hr) (fe_n 0) fe_int (fun _ _ => rfl)) (fm_str1 (fs_one (fs_ret (fe_ix (u1 hr) (fe_n 0) fe_int (fun _ _ => rfl)))) (fm_str2 (fs_one (fs_ret (fe_at (cs := []) (ps := [("Policy", m_Policy_longest)]) (fun C h => by cases h) (ps_cons (prp e.k_Policy e.p_Policy_longest (w_Policy_longest e) (b_Policy_longest e) (by exact deep_gd hgd) hr) ps_nil) (fe_ix (u1 hr) (fe_n 1) (fe_ix (u1 hr) (fe_n 0) fe_int (fun _ _ => rfl)) (fun _ _ => rfl)) rfl))) (fm_str2 (fs_one (fs_ret (fe_Bq (cr_max rfl) maxLL rfl e.b_max boot_b_max (fl_ofV (fv_lc (ow := [("block", 2)]) rfl sc_part_span.nd (fi_a (fe_sl (fe_n 0) (fo_some fe_int) fo_none)) (blkOk_by (N := ["part", "policies", "block"]) (sc := defScope s_part_span) (by decide +kernel)) (fun _ _ _ _ _ => (fgo_name (i := 2) (by decide) sc_part_span.nd rfl (Or.inl rfl) (.inr rfl))) (fun _ _ _ _ _ => fts_nil) (fun _ _ _ _ _ => (fe_call (dfn (ih_block_span) (b_block_span e) e.f_block_span.kp (l_block_span n) (by exact deep_gd hgd) hr) tk_0 rfl e.m_block_span (fa_cons (fe_n 2) (fa_cons (fe_n 1) fa_nil))))))))) (fm_any (fs_one (fs_ret fe_int)))))))))⟩
theorem w_block_span (e : En P w K mg base ga) (n : Nat) : FnM P w K mg base ga (2 + n) (ga "block_span") (fdA K (ga "block_span")) ["block", "policies"] (m_block_span n) := (ww_block_span e n).1
theorem w_part_span (e : En P w K mg base ga) (n : Nat) : FnM P w K mg base ga (2 + n) (ga "part_span") (fdA K (ga "part_span")) ["part", "policies"] (m_part_span n) := (ww_block_span e n).2
noncomputable def m_is_call : Fn := fnB 1 1 ((sRt (eOp inF (eOp ixF (eV 0) (eC (.int 0))) (eT (aC (eC (.str "call")) (aC (eC (.str "want")) aN))))))
theorem l_is_call : ∀ xs L, xs.length ≠ 1 → m_is_call xs L = .no := fnB_len
theorem b_is_call (e : En P w K mg base ga) : Binds K (fdA K (ga "is_call")) ["part"] [] := e.f_is_call.bindsN fun _ _ _ _ _ _ us hl => match us, hl with | [_], _ => rfl
theorem w_is_call (e : En P w K mg base ga) : FnM P w K mg base ga 1 (ga "is_call") (fdA K (ga "is_call")) ["part"] m_is_call := by
  exact fn_ok e.f_is_call sc_is_call (fun cdv A outer s H E hgd hr => (fs_one (fs_ret (fe_cmp (op_inA (u1 hr)) inL (fe_ix (u1 hr) (fe_n 0) fe_int (fun _ _ => rfl)) (fe_tup (fa_cons fe_str (fa_cons fe_str fa_nil))) (by rfl)))))
noncomputable def m_is_block : Fn := fnB 2 2 ((sRt (eAnd (eF (isiF CS TAB) (aC (eV 0) (aC (eC (.ty "tuple")) aN))) (eOp ltF (eV 1) (eC (.int 3))))))
theorem l_is_block : ∀ xs L, xs.length ≠ 2 → m_is_block xs L = .no := fnB_len
theorem b_is_block (e : En P w K mg base ga) : Binds K (fdA K (ga "is_block")) ["value", "depth"] [] := e.f_is_block.bindsN fun _ _ _ _ _ _ us hl => match us, hl with | [_, _], _ => rfl
theorem w_is_block (e : En P w K mg base ga) : FnM P w K mg base ga 1 (ga "is_block") (fdA K (ga "is_block")) ["value", "depth"] m_is_block := by
  obtain ⟨_, c_MAX_DEPTH⟩ := e.c_MAX_DEPTH
  exact fn_ok e.f_is_block sc_is_block (fun cdv A outer s H E hgd hr => (fs_one (fs_ret (fe_and (fe_B call_isi (isiL e.kit) rfl e.b_isinstance boot_b_isinstance (fa_cons (fe_n 0) (fa_cons (fe_ty rfl e.b_tuple boot_t_tuple) fa_nil))) (fe_b1 (fe_cmp op_lt ltL (fe_n 1) (fe_gi rfl c_MAX_DEPTH) (nomark _)))))))
noncomputable def m_is_part : Fn := fnB 2 3 ((sSeq (sIf (tOr (tNot (tru (eF (isiF CS TAB) (aC (eV 0) (aC (eC (.ty "tuple")) aN))))) (tOr (tOp2 eqF (eV 0) (eT aN)) (tNot (tru (eF (isiF CS TAB) (aC (eOp ixF (eV 0) (eC (.int 0))) (aC (eC (.ty "str")) aN))))))) (sRt (eC (.bl false))) sN)
    (sSeq (sIf (tOp2 neF (eKG TB_SIZES (eOp ixF (eV 0) (eC (.int 0))) (eC (.int 0))) (eF lenF (aC (eV 0) aN))) (sRt (eC (.bl false))) sN)
    (sMt (eOp ixF (eV 0) (eC (.int 0))) (mmS ["run"] (sRt (eAnd (eF m_is_between (aC (eOp ixF (eV 0) (eC (.int 1))) (aC (eC (.int 0)) (aC (eC (.int 20)) aN)))) (eF m_is_between (aC (eOp ixF (eV 0) (eC (.int 2))) (aC (eOp ixF (eV 0) (eC (.int 1))) (aC (eC (.int 20)) aN)))))) (mmS ["call", "want"] (sRt (eAnd (eF m_is_name (aC (eOp ixF (eV 0) (eC (.int 1))) aN)) (eF m_is_name (aC (eOp ixF (eV 0) (eC (.int 2))) aN)))) (mmS ["maybe", "both"] (sRt (eQ allF (vC (iA (eSl (eV 0) (oS (eC (.int 1))) oN)) (gN 2) tY (eF m_is_block (aC (eV 2) (aC (eOp addF (eV 1) (eC (.int 1))) aN))) [2]))) (mmA (sRt (eC (.bl true)))))))))))
theorem l_is_part : ∀ xs L, xs.length ≠ 2 → m_is_part xs L = .no := fnB_len
theorem b_is_part (e : En P w K mg base ga) : Binds K (fdA K (ga "is_part")) ["value", "depth"] [] := e.f_is_part.bindsN fun _ _ _ _ _ _ us hl => match us, hl with | [_, _], _ => rfl
theorem w_is_part (e : En P w K mg base ga) : FnM P w K mg base ga 3 (ga "is_part") (fdA K (ga "is_part")) ["value", "depth"] m_is_part := by
  obtain ⟨_, c_MAX_RUN⟩ := e.c_MAX_RUN
  exact fn_ok e.f_is_part sc_is_part (fun cdv A outer s H E hgd hr => (fs_cons (fs_if (PW.pt (fw_or (ft_not (ft_tru (fe_B call_isi (isiL e.kit) rfl e.b_isinstance boot_b_isinstance (fa_cons (fe_n 0) (fa_cons (fe_ty rfl e.b_tuple boot_t_tuple) fa_nil))))) (fw_or (ft_cmp (op_eqD (u64 hr)) eqL (fe_n 0) (fe_tup fa_nil) (nomark _)) (fw_or1 (ft_not (ft_tru (fe_B call_isi (isiL e.kit) rfl e.b_isinstance boot_b_isinstance (fa_cons (fe_ix (u1 hr) (fe_n 0) fe_int (fun _ _ => rfl)) (fa_cons (fe_ty rfl e.b_str boot_t_str) fa_nil))))))))) (fs_one (fs_ret fe_bl)) fs_nil)
      (fs_cons (fs_if (ft_cmp (op_neD (u64 hr)) neL (fe_kget (tab := TB_SIZES) e.t_SIZES rfl e.c_SIZES (fe_ix (u1 hr) (fe_n 0) fe_int (fun _ _ => rfl)) fe_int ⟨rfl, rfl, rfl, rfl⟩) (fe_B cr_lenA lenL rfl e.b_len boot_b_len (fa_cons (fe_n 0) fa_nil)) (nomark _)) (fs_one (fs_ret fe_bl)) fs_nil)
      (fs_one (fs_match (fe_ix (u1 hr) (fe_n 0) fe_int (fun _ _ => rfl)) (fm_str1 (fs_one (fs_ret (fe_and (fe_call (dfn (w_is_between e) (b_is_between e) e.f_is_between.kp l_is_between (by exact deep_gd hgd) hr) (tk_of (takes_of rfl rfl rfl rfl)) rfl e.m_is_between (fa_cons (fe_ix (u1 hr) (fe_n 0) fe_int (fun _ _ => rfl)) (fa_cons fe_int (fa_cons (fe_gi rfl c_MAX_RUN) fa_nil)))) (fe_b1 (fe_call (dfn (w_is_between e) (b_is_between e) e.f_is_between.kp l_is_between (by exact deep_gd hgd) hr) (tk_of (takes_of rfl rfl rfl rfl)) rfl e.m_is_between (fa_cons (fe_ix (u1 hr) (fe_n 0) fe_int (fun _ _ => rfl)) (fa_cons (fe_ix (u1 hr) (fe_n 0) fe_int (fun _ _ => rfl)) (fa_cons (fe_gi rfl c_MAX_RUN) fa_nil)))))))) (fm_str2 (fs_one (fs_ret (fe_and (fe_call (dfn (w_is_name e) (b_is_name e) e.f_is_name.kp l_is_name (by exact deep_gd hgd) hr) (tk_of (takes_of rfl rfl rfl rfl)) rfl e.m_is_name (fa_cons (fe_ix (u1 hr) (fe_n 0) fe_int (fun _ _ => rfl)) fa_nil)) (fe_b1 (fe_call (dfn (w_is_name e) (b_is_name e) e.f_is_name.kp l_is_name (by exact deep_gd hgd) hr) (tk_of (takes_of rfl rfl rfl rfl)) rfl e.m_is_name (fa_cons (fe_ix (u1 hr) (fe_n 0) fe_int (fun _ _ => rfl)) fa_nil)))))) (fm_str2 (fs_one (fs_ret (fe_Bq (cr_all rfl) allL rfl e.b_all boot_b_all (fl_ofV (fv_lc (ow := [("block", 2)]) rfl sc_is_part.nd (fi_a (fe_sl (fe_n 0) (fo_some fe_int) fo_none)) (blkOk_by (N := ["value", "depth", "block"]) (sc := defScope s_is_part) (by decide +kernel)) (fun _ _ _ _ _ => (fgo_name (i := 2) (by decide) sc_is_part.nd rfl (Or.inl rfl) (.inr rfl))) (fun _ _ _ _ _ => fts_nil) (fun _ _ _ _ _ => (fe_call (dfn (w_is_block e) (b_is_block e) e.f_is_block.kp l_is_block (by exact deep_gd hgd) hr) tk_0 rfl e.m_is_block (fa_cons (fe_n 2) (fa_cons (fe_op op_addA addL (fe_n 1) fe_int) fa_nil))))))))) (fm_any (fs_one (fs_ret fe_bl)))))))))))
noncomputable def m_blocks_of : Fn := fnB 1 1 ((sRt (eIf (tOp2 inF (eOp ixF (eV 0) (eC (.int 0))) (eT (aC (eC (.str "maybe")) (aC (eC (.str "both")) aN)))) (eSl (eV 0) (oS (eC (.int 1))) oN) (eT aN))))
theorem l_blocks_of : ∀ xs L, xs.length ≠ 1 → m_blocks_of xs L = .no := fnB_len
theorem b_blocks_of (e : En P w K mg base ga) : Binds K (fdA K (ga "blocks_of")) ["part"] [] := e.f_blocks_of.bindsN fun _ _ _ _ _ _ us hl => match us, hl with | [_], _ => rfl
theorem w_blocks_of (e : En P w K mg base ga) : FnM P w K mg base ga 1 (ga "blocks_of") (fdA K (ga "blocks_of")) ["part"] m_blocks_of := by
  exact fn_ok e.f_blocks_of sc_blocks_of (fun cdv A outer s H E hgd hr => (fs_one (fs_ret (fe_if (ft_cmp (op_inA (u1 hr)) inL (fe_ix (u1 hr) (fe_n 0) fe_int (fun _ _ => rfl)) (fe_tup (fa_cons fe_str (fa_cons fe_str fa_nil))) (by rfl)) (fe_sl (fe_n 0) (fo_some fe_int) fo_none) (fe_tup fa_nil)))))
noncomputable def m_numbered : Nat → Fn := fun n => Nat.rec (motive := fun _ => Fn) fn0 (fun _ ih => fnB 3 6 ((sSeq (sAs (eNew (vL aN)) (gN 3))
    (sSeq (sFor (iA (eV 0)) (gN 4) (sSeq (sEx (eBm isLst appendF (eV 3) (aC (eT (aC (eOp addF (eV 1) (eF lenF (aC (eV 3) aN))) (aC (eV 4) (aC (eV 2) aN)))) aN)))
    (sSeq (sIf (tNot (tru (eF m_is_part (aC (eV 4) (aC (eV 2) aN))))) (sRt (eV 3)) sN)
    (sFor (iA (eF m_blocks_of (aC (eV 4) aN))) (gN 5) (sSeq (sEx (eBm isLst extendF (eV 3) (aC (eF ih (aC (eV 5) (aC (eOp addF (eV 1) (eF lenF (aC (eV 3) aN))) (aC (eOp addF (eV 2) (eC (.int 1))) aN)))) aN)))
    (sIf (tNot (tru (eF m_is_part (aC (eOp ixF (eOp ixF (eV 3) (eUn negF (eC (.int 1)))) (eC (.int 1))) (aC (eOp ixF (eOp ixF (eV 3) (eUn negF (eC (.int 1)))) (eC (.int 2))) aN))))) (sRt (eV 3)) sN))))))
    (sRt (eV 3)))))) n
theorem l_numbered (n : Nat) : ∀ xs L, xs.length ≠ 3 → m_numbered n xs L = .no := by
  cases n with
  | zero => intro _ _ _; rfl
  | succ n => exact fnB_len
theorem b_numbered (e : En P w K mg base ga) : Binds K (fdA K (ga "numbered")) ["block", "first", "depth"] [] := e.f_numbered.bindsN fun _ _ _ _ _ _ us hl => match us, hl with | [_, _, _], _ => rfl
theorem ww_numbered (e : En P w K mg base ga) : ∀ n : Nat, FnM P w K mg base ga (3 + n) (ga "numbered") (fdA K (ga "numbered")) ["block", "first", "depth"] (m_numbered n) := by
  intro n
  induction n with
  | zero => exact fn_zero
  | succ n ih =>
    have ih_numbered := ih
    exact fn_ok e.f_numbered sc_numbered (fun cdv A outer s H E hgd hr => (fs_cons (fs_set (i := 3) sc_numbered.nd rfl (Or.inl rfl) (fe_ofV (fv_lst fa_nil)))
      (fs_cons (fs_for (passes_of rfl) rfl (fi_a (fe_n 0)) (fg_name (i := 4) sc_numbered.nd rfl (Or.inl rfl))
        (fs_cons (fs_expr (fe_bm PySem.F.plainAttrs_list PySem.F.slot_list_append PySem.F.type_list_append mt_append appendL ty_lst (fe_n 3) (fa_cons (fe_tup (fa_cons (fe_op op_addA addL (fe_n 1) (fe_B cr_lenA lenL rfl e.b_len boot_b_len (fa_cons (fe_n 3) fa_nil))) (fa_cons (fe_n 4) (fa_cons (fe_n 2) fa_nil)))) fa_nil)))
      (fs_cons (fs_if (ft_not (ft_tru (fe_call (dfn (w_is_part e) (b_is_part e) e.f_is_part.kp l_is_part (by exact deep_gd hgd) hr) (tk_of (takes_of rfl rfl rfl rfl)) rfl e.m_is_part (fa_cons (fe_n 4) (fa_cons (fe_n 2) fa_nil))))) (fs_one (fs_ret (fe_n 3))) fs_nil)
      (fs_one (fs_for (passes_of rfl) rfl (fi_a (fe_call (dfn (w_blocks_of e) (b_blocks_of e) e.f_blocks_of.kp l_blocks_of (by exact deep_gd hgd) hr) (tk_of (takes_of rfl rfl rfl rfl)) rfl e.m_blocks_of (fa_cons (fe_n 4) fa_nil))) (fg_name (i := 5) sc_numbered.nd rfl (Or.inl rfl))
        (fs_cons (fs_expr (fe_bm PySem.F.plainAttrs_list PySem.F.slot_list_extend PySem.F.type_list_extend mt_extend extendLL ty_lst (fe_n 3) (fa_cons (fe_call (dfn (ih_numbered) (b_numbered e) e.f_numbered.kp (l_numbered n) (by exact deep_gd hgd) hr) (tk_of (takes_of rfl rfl rfl rfl)) rfl e.m_numbered (fa_cons (fe_n 5) (fa_cons (fe_op op_addA addL (fe_n 1) (fe_B cr_lenA lenL rfl e.b_len boot_b_len (fa_cons (fe_n 3) fa_nil))) (fa_cons (fe_op op_addA addL (fe_n 2) fe_int) fa_nil)))) fa_nil)))
      (fs_one (fs_if (ft_not (ft_tru (fe_call (dfn (w_is_part e) (b_is_part e) e.f_is_part.kp l_is_part (by exact deep_gd hgd) hr) (tk_of (takes_of rfl rfl rfl rfl)) rfl e.m_is_part (fa_cons (fe_ix (u1 hr) (fe_ix (u1 hr) (fe_n 3) (fe_un un_neg negL fe_int) (fun _ _ => rfl)) fe_int (fun _ _ => rfl)) (fa_cons (fe_ix (u1 hr) (fe_ix (u1 hr) (fe_n 3) (fe_un un_neg negL fe_int) (fun _ _ => rfl)) fe_int (fun _ _ => rfl)) fa_nil))))) (fs_one (fs_ret (fe_n 3))) fs_nil))))))))
      (fs_one (fs_ret (fe_n 3))))))
theorem w_numbered (e : En P w K mg base ga) (n : Nat) : FnM P w K mg base ga (3 + n) (ga "numbered") (fdA K (ga "numbered")) ["block", "first", "depth"] (m_numbered n) := (ww_numbered e n)
noncomputable def m_parts_of : Fn := fnB 1 4 ((sRt (eNew (vC (iA (eF (m_numbered 6) (aC (eV 0) (aC (eC (.int 0)) (aC (eC (.int 0)) aN))))) (gT 3 (gs1 (gN 1) (gs1 (gN 2) (gs1 (gN 3) gs0)))) tY (eV 2) [1, 2, 3]))))
theorem l_parts_of : ∀ xs L, xs.length ≠ 1 → m_parts_of xs L = .no := fnB_len
theorem b_parts_of (e : En P w K mg base ga) : Binds K (fdA K (ga "parts_of")) ["block"] [] := e.f_parts_of.bindsN fun _ _ _ _ _ _ us hl => match us, hl with | [_], _ => rfl
theorem w_parts_of (e : En P w K mg base ga) : FnM P w K mg base ga 10 (ga "parts_of") (fdA K (ga "parts_of")) ["block"] m_parts_of := by
  exact fn_ok e.f_parts_of sc_parts_of (fun cdv A outer s H E hgd hr => (fs_one (fs_ret (fe_ofV (fv_lc (ow := [("place", 1), ("part", 2), ("depth", 3)]) rfl sc_parts_of.nd (fi_a (fe_call (dfn (w_numbered e 6) (b_numbered e) e.f_numbered.kp (l_numbered 6) (by exact deep_gd hgd) hr) (tk_of (takes_of rfl rfl rfl rfl)) rfl e.m_numbered (fa_cons (fe_n 0) (fa_cons fe_int (fa_cons fe_int fa_nil))))) (blkOk_by (N := ["block", "place", "part", "depth"]) (sc := defScope s_parts_of) (by decide +kernel)) (fun _ _ _ _ _ => (fgo_tup rfl (fgo_cons (fgo_name (i := 1) (by decide) sc_parts_of.nd rfl (Or.inl rfl) (.inr rfl)) (fgo_cons (fgo_name (i := 2) (by decide) sc_parts_of.nd rfl (Or.inl rfl) (.inr rfl)) (fgo_cons (fgo_name (i := 3) (by decide) sc_parts_of.nd rfl (Or.inl rfl) (.inr rfl)) fgo_nil gN_L) gN_L) gN_L))) (fun _ _ _ _ _ => fts_nil) (fun _ _ _ _ _ => (fe_n 2)))))))
noncomputable def m_check_block : Fn := fnB 4 7 ((sSeq (sFor (iA (eF (m_numbered 6) (aC (eV 1) (aC (eC (.int 0)) (aC (eC (.int 0)) aN))))) (gT 3 (gs1 (gN 4) (gs1 (gN 5) (gs1 (gN 6) gs0)))) (sIf (tOr (tOp2 geF (eV 4) (eC (.int 12))) (tNot (tru (eF m_is_part (aC (eV 5) (aC (eV 6) aN)))))) (sRs "InvalidPart" ["service", "place"] (aC (eV 0) (aC (eV 4) aN))) sN))
    (sSeq (sFor (iA (eF m_parts_of (aC (eV 1) aN))) (gN 5) (sIf (tru (eF m_is_call (aC (eV 5) aN))) (sSeq (sIf (tOp2 ninF (eOp ixF (eV 5) (eC (.int 1))) (eV 2)) (sRs "UnknownName" ["value"] (aC (eOp ixF (eV 5) (eC (.int 1))) aN)) sN)
    (sIf (tOp2 ninF (eOp ixF (eV 5) (eC (.int 2))) (eV 3)) (sRs "UnknownName" ["value"] (aC (eOp ixF (eV 5) (eC (.int 2))) aN)) sN)) sN))
    (sIf (tOp2 gtF (eF (m_block_span 6) (aC (eV 1) (aC (eV 3) aN))) (eC (.int 400))) (sRs "TooLong" ["service"] (aC (eV 0) aN)) sN))))
theorem l_check_block : ∀ xs L, xs.length ≠ 4 → m_check_block xs L = .no := fnB_len
theorem b_check_block (e : En P w K mg base ga) : Binds K (fdA K (ga "check_block")) ["name", "block", "ahead", "policies"] [] := e.f_check_block.bindsN fun _ _ _ _ _ _ us hl => match us, hl with | [_, _, _, _], _ => rfl
theorem w_check_block (e : En P w K mg base ga) : FnM P w K mg base ga 11 (ga "check_block") (fdA K (ga "check_block")) ["name", "block", "ahead", "policies"] m_check_block := by
  obtain ⟨_, c_MAX_PARTS⟩ := e.c_MAX_PARTS
  obtain ⟨_, c_MAX_SPAN⟩ := e.c_MAX_SPAN
  exact fn_ok e.f_check_block sc_check_block (fun cdv A outer s H E hgd hr => (fs_cons (fs_for (passes_of rfl) rfl (fi_a (fe_call (dfn (w_numbered e 6) (b_numbered e) e.f_numbered.kp (l_numbered 6) (by exact deep_gd hgd) hr) (tk_of (takes_of rfl rfl rfl rfl)) rfl e.m_numbered (fa_cons (fe_n 1) (fa_cons fe_int (fa_cons fe_int fa_nil))))) (fg_tup rfl (fg_cons (fg_name (i := 4) sc_check_block.nd rfl (Or.inl rfl)) (fg_cons (fg_name (i := 5) sc_check_block.nd rfl (Or.inl rfl)) (fg_cons (fg_name (i := 6) sc_check_block.nd rfl (Or.inl rfl)) fg_nil))))
        (fs_one (fs_if (PW.pt (fw_or (ft_cmp op_ge geL (fe_n 4) (fe_gi rfl c_MAX_PARTS) (nomark _)) (fw_or1 (ft_not (ft_tru (fe_call (dfn (w_is_part e) (b_is_part e) e.f_is_part.kp l_is_part (by exact deep_gd hgd) hr) (tk_of (takes_of rfl rfl rfl rfl)) rfl e.m_is_part (fa_cons (fe_n 5) (fa_cons (fe_n 6) fa_nil)))))))) (fs_one (fs_raise2 rfl e.x_InvalidPart e.g_InvalidPart hr (takes_of rfl rfl rfl rfl) (fa_cons (fe_n 0) (fa_cons (fe_n 4) fa_nil)))) fs_nil)))
      (fs_cons (fs_for (passes_of rfl) rfl (fi_a (fe_call (dfn (w_parts_of e) (b_parts_of e) e.f_parts_of.kp l_parts_of (by exact deep_gd hgd) hr) (tk_of (takes_of rfl rfl rfl rfl)) rfl e.m_parts_of (fa_cons (fe_n 1) fa_nil))) (fg_name (i := 5) sc_check_block.nd rfl (Or.inl rfl))
        (fs_one (fs_if (ft_tru (fe_call (dfn (w_is_call e) (b_is_call e) e.f_is_call.kp l_is_call (by exact deep_gd hgd) hr) (tk_of (takes_of rfl rfl rfl rfl)) rfl e.m_is_call (fa_cons (fe_n 5) fa_nil))) (fs_cons (fs_if (ft_cmp (op_ninA (u1 hr)) ninL (fe_ix (u1 hr) (fe_n 5) fe_int (fun _ _ => rfl)) (fe_n 2) (by rfl)) (fs_one (fs_raise1 rfl e.x_UnknownName e.g_UnknownName hr (takes_of rfl rfl rfl rfl) (fa_cons (fe_ix (u1 hr) (fe_n 5) fe_int (fun _ _ => rfl)) fa_nil))) fs_nil)
      (fs_one (fs_if (ft_cmp (op_ninA (u1 hr)) ninL (fe_ix (u1 hr) (fe_n 5) fe_int (fun _ _ => rfl)) (fe_n 3) (by rfl)) (fs_one (fs_raise1 rfl e.x_UnknownName e.g_UnknownName hr (takes_of rfl rfl rfl rfl) (fa_cons (fe_ix (u1 hr) (fe_n 5) fe_int (fun _ _ => rfl)) fa_nil))) fs_nil))) fs_nil)))
      (fs_one (fs_if (ft_cmp op_gt gtL (fe_call (dfn (w_block_span e 6) (b_block_span e) e.f_block_span.kp (l_block_span 6) (by exact deep_gd hgd) hr) (tk_of (takes_of rfl rfl rfl rfl)) rfl e.m_block_span (fa_cons (fe_n 1) (fa_cons (fe_n 3) fa_nil))) (fe_gi rfl c_MAX_SPAN) (nomark _)) (fs_one (fs_raise1 rfl e.x_TooLong e.g_TooLong hr (takes_of rfl rfl rfl rfl) (fa_cons (fe_n 0) fa_nil))) fs_nil)))))
noncomputable def m_check_policies : Fn := fnB 1 4 ((sSeq (sIf (tOr (tNot (tru (eIsiT CS TAB [.b "list", .b "tuple"] (eV 0)))) (tOp2 gtF (eF lenF (aC (eV 0) aN)) (eC (.int 8)))) (sRs "InvalidPolicies" ["number"] (aC (eC .non) aN)) sN)
    (sSeq (sAs (eNew (vL aN)) (gN 1))
    (sFor (iEn (eV 0)) (gT 2 (gs1 (gN 2) (gs1 (gN 3) gs0))) (sSeq (sIf (tOr (tNot (tru (eF (isiF CS TAB) (aC (eV 3) (aC (eC (.glo "Policy")) aN))))) (tOp2 inF (eAt "name" [] [("Policy", m_Policy_name)] (eV 3)) (eV 1))) (sRs "InvalidPolicies" ["number"] (aC (eV 2) aN)) sN)
    (sEx (eBm isLst appendF (eV 1) (aC (eAt "name" [] [("Policy", m_Policy_name)] (eV 3)) aN))))))))
theorem l_check_policies : ∀ xs L, xs.length ≠ 1 → m_check_policies xs L = .no := fnB_len
theorem b_check_policies (e : En P w K mg base ga) : Binds K (fdA K (ga "check_policies")) ["policies"] [] := e.f_check_policies.bindsN fun _ _ _ _ _ _ us hl => match us, hl with | [_], _ => rfl
theorem w_check_policies (e : En P w K mg base ga) : FnM P w K mg base ga 3 (ga "check_policies") (fdA K (ga "check_policies")) ["policies"] m_check_policies := by
  obtain ⟨_, c_MAX_POLICIES⟩ := e.c_MAX_POLICIES
  exact fn_ok e.f_check_policies sc_check_policies (fun cdv A outer s H E hgd hr => (fs_cons (fs_if (PW.pt (fw_or (ft_not (ft_tru (fe_isiT (us := [.b "list", .b "tuple"]) e.kit rfl e.b_isinstance (fe_n 0) (pa_const (pe_bltn (v := .ty "list") rfl e.b_list boot_t_list rfl) (pa_const (pe_bltn (v := .ty "tuple") rfl e.b_tuple boot_t_tuple rfl) pa_const0))))) (fw_or1 (ft_cmp op_gt gtL (fe_B cr_lenA lenL rfl e.b_len boot_b_len (fa_cons (fe_n 0) fa_nil)) (fe_gi rfl c_MAX_POLICIES) (nomark _))))) (fs_one (fs_raise1 rfl e.x_InvalidPolicies e.g_InvalidPolicies hr (takes_of rfl rfl rfl rfl) (fa_cons fe_non fa_nil))) fs_nil)
      (fs_cons (fs_set (i := 1) sc_check_policies.nd rfl (Or.inl rfl) (fe_ofV (fv_lst fa_nil)))
      (fs_one (fs_for (passes_of rfl) rfl (fi_enum rfl e.b_enumerate (fe_n 0)) (fg_tup rfl (fg_cons (fg_name (i := 2) sc_check_policies.nd rfl (Or.inl rfl)) (fg_cons (fg_name (i := 3) sc_check_policies.nd rfl (Or.inl rfl)) fg_nil)))
        (fs_cons (fs_if (PW.pt (fw_or (ft_not (ft_tru (fe_B call_isi (isiL e.kit) rfl e.b_isinstance boot_b_isinstance (fa_cons (fe_n 3) (fa_cons (fe_glo rfl e.m_Policy) fa_nil))))) (fw_or1 (ft_cmp (op_inA (u1 hr)) inL (fe_at (cs := []) (ps := [("Policy", m_Policy_name)]) (fun C h => by cases h) (ps_cons (prp e.k_Policy e.p_Policy_name (w_Policy_name e) (b_Policy_name e) (by exact deep_gd hgd) hr) ps_nil) (fe_n 3) rfl) (fe_n 1) (by rfl))))) (fs_one (fs_raise1 rfl e.x_InvalidPolicies e.g_InvalidPolicies hr (takes_of rfl rfl rfl rfl) (fa_cons (fe_n 2) fa_nil))) fs_nil)
      (fs_one (fs_expr (fe_bm PySem.F.plainAttrs_list PySem.F.slot_list_append PySem.F.type_list_append mt_append appendL ty_lst (fe_n 1) (fa_cons (fe_at (cs := []) (ps := [("Policy", m_Policy_name)]) (fun C h => by cases h) (ps_cons (prp e.k_Policy e.p_Policy_name (w_Policy_name e) (b_Policy_name e) (by exact deep_gd hgd) hr) ps_nil) (fe_n 3) rfl) fa_nil))))))))))
noncomputable def m_check_services : Fn := fnB 1 4 ((sSeq (sIf (tOr (tNot (tru (eIsiT CS TAB [.b "list", .b "tuple"] (eV 0)))) (tNot (tV1 (eCh leF leF (eC (.int 1)) (eF lenF (aC (eV 0) aN)) (eC (.int 6)))))) (sRs "InvalidServices" ["number"] (aC (eC .non) aN)) sN)
    (sSeq (sAs (eNew (vL aN)) (gN 1))
    (sFor (iEn (eV 0)) (gT 2 (gs1 (gN 2) (gs1 (gN 3) gs0))) (sSeq (sIf (tOr (tNot (tru (eF (isiF CS TAB) (aC (eV 3) (aC (eC (.ty "tuple")) aN))))) (tOr (tOp2 neF (eF lenF (aC (eV 3) aN)) (eC (.int 2))) (tOr (tNot (tru (eF m_is_name (aC (eOp ixF (eV 3) (eC (.int 0))) aN)))) (tNot (tru (eF (isiF CS TAB) (aC (eOp ixF (eV 3) (eC (.int 1))) (aC (eC (.ty "tuple")) aN)))))))) (sRs "InvalidServices" ["number"] (aC (eV 2) aN)) sN)
    (sSeq (sIf (tOp2 inF (eOp ixF (eV 3) (eC (.int 0))) (eV 1)) (sRs "InvalidServices" ["number"] (aC (eV 2) aN)) sN)
    (sEx (eBm isLst appendF (eV 1) (aC (eOp ixF (eV 3) (eC (.int 0))) aN)))))))))
theorem l_check_services : ∀ xs L, xs.length ≠ 1 → m_check_services xs L = .no := fnB_len
theorem b_check_services (e : En P w K mg base ga) : Binds K (fdA K (ga "check_services")) ["services"] [] := e.f_check_services.bindsN fun _ _ _ _ _ _ us hl => match us, hl with | [_], _ => rfl
theorem w_check_services (e : En P w K mg base ga) : FnM P w K mg base ga 2 (ga "check_services") (fdA K (ga "check_services")) ["services"] m_check_services := by
  obtain ⟨_, c_MAX_SERVICES⟩ := e.c_MAX_SERVICES
  exact fn_ok e.f_check_services sc_check_services (fun cdv A outer s H E hgd hr => (fs_cons (fs_if (PW.pt (fw_or (ft_not (ft_tru (fe_isiT (us := [.b "list", .b "tuple"]) e.kit rfl e.b_isinstance (fe_n 0) (pa_const (pe_bltn (v := .ty "list") rfl e.b_list boot_t_list rfl) (pa_const (pe_bltn (v := .ty "tuple") rfl e.b_tuple boot_t_tuple rfl) pa_const0))))) (fw_or1 (ft_not (ft_ch op_le op_le leL leL fe_int (fe_B cr_lenA lenL rfl e.b_len boot_b_len (fa_cons (fe_n 0) fa_nil)) (fe_gi rfl c_MAX_SERVICES)))))) (fs_one (fs_raise1 rfl e.x_InvalidServices e.g_InvalidServices hr (takes_of rfl rfl rfl rfl) (fa_cons fe_non fa_nil))) fs_nil)
      (fs_cons (fs_set (i := 1) sc_check_services.nd rfl (Or.inl rfl) (fe_ofV (fv_lst fa_nil)))
      (fs_one (fs_for (passes_of rfl) rfl (fi_enum rfl e.b_enumerate (fe_n 0)) (fg_tup rfl (fg_cons (fg_name (i := 2) sc_check_services.nd rfl (Or.inl rfl)) (fg_cons (fg_name (i := 3) sc_check_services.nd rfl (Or.inl rfl)) fg_nil)))
        (fs_cons (fs_if (PW.pt (fw_or (ft_not (ft_tru (fe_B call_isi (isiL e.kit) rfl e.b_isinstance boot_b_isinstance (fa_cons (fe_n 3) (fa_cons (fe_ty rfl e.b_tuple boot_t_tuple) fa_nil))))) (fw_or (ft_cmp (op_neD (u64 hr)) neL (fe_B cr_lenA lenL rfl e.b_len boot_b_len (fa_cons (fe_n 3) fa_nil)) fe_int (nomark _)) (fw_or (ft_not (ft_tru (fe_call (dfn (w_is_name e) (b_is_name e) e.f_is_name.kp l_is_name (by exact deep_gd hgd) hr) (tk_of (takes_of rfl rfl rfl rfl)) rfl e.m_is_name (fa_cons (fe_ix (u1 hr) (fe_n 3) fe_int (fun _ _ => rfl)) fa_nil)))) (fw_or1 (ft_not (ft_tru (fe_B call_isi (isiL e.kit) rfl e.b_isinstance boot_b_isinstance (fa_cons (fe_ix (u1 hr) (fe_n 3) fe_int (fun _ _ => rfl)) (fa_cons (fe_ty rfl e.b_tuple boot_t_tuple) fa_nil)))))))))) (fs_one (fs_raise1 rfl e.x_InvalidServices e.g_InvalidServices hr (takes_of rfl rfl rfl rfl) (fa_cons (fe_n 2) fa_nil))) fs_nil)
      (fs_cons (fs_if (ft_cmp (op_inA (u1 hr)) inL (fe_ix (u1 hr) (fe_n 3) fe_int (fun _ _ => rfl)) (fe_n 1) (by rfl)) (fs_one (fs_raise1 rfl e.x_InvalidServices e.g_InvalidServices hr (takes_of rfl rfl rfl rfl) (fa_cons (fe_n 2) fa_nil))) fs_nil)
      (fs_one (fs_expr (fe_bm PySem.F.plainAttrs_list PySem.F.slot_list_append PySem.F.type_list_append mt_append appendL ty_lst (fe_n 1) (fa_cons (fe_ix (u1 hr) (fe_n 3) fe_int (fun _ _ => rfl)) fa_nil)))))))))))
noncomputable def m_System_init : Fn := fnB 3 6 ((sSeq (sEx (eF m_check_policies (aC (eV 1) aN)))
    (sSeq (sEx (eF m_check_services (aC (eV 2) aN)))
    (sSeq (sFd "own_policies" ["System"] (eDc (iA (eV 1)) (gN 3) tY (eAt "name" [] [("Policy", m_Policy_name)] (eV 3)) (eV 3) [3]) (eV 0))
    (sSeq (sFd "own_blocks" ["System"] eD0 (eV 0))
    (sFor (iA (eV 2)) (gT 2 (gs1 (gN 4) (gs1 (gN 5) gs0))) (sSeq (sEx (eF m_check_block (aC (eV 4) (aC (eV 5) (aC (eAt "own_blocks" ["System"] [] (eV 0)) (aC (eAt "own_policies" ["System"] [] (eV 0)) aN))))))
    (sAs (eV 5) (gSb (eAt "own_blocks" ["System"] [] (eV 0)) (eV 4))))))))))
theorem l_System_init : ∀ xs L, xs.length ≠ 3 → m_System_init xs L = .no := fnB_len
theorem b_System_init (e : En P w K mg base ga) : Binds K (fdA K (me K ga "System" "__init__")) ["self", "policies", "services"] [] := e.f_System_init.bindsN fun _ _ _ _ _ _ us hl => match us, hl with | [_, _, _], _ => rfl
theorem w_System_init (e : En P w K mg base ga) : FnM P w K mg base ga 12 (me K ga "System" "__init__") (fdA K (me K ga "System" "__init__")) ["self", "policies", "services"] m_System_init := by
  exact fn_ok e.f_System_init sc_System_init (fun cdv A outer s H E hgd hr => (fs_cons (fs_expr (fe_call (dfn (w_check_policies e) (b_check_policies e) e.f_check_policies.kp l_check_policies (by exact deep_gd hgd) hr) (tk_of (takes_of rfl rfl rfl rfl)) rfl e.m_check_policies (fa_cons (fe_n 1) fa_nil)))
      (fs_cons (fs_expr (fe_call (dfn (w_check_services e) (b_check_services e) e.f_check_services.kp l_check_services (by exact deep_gd hgd) hr) (tk_of (takes_of rfl rfl rfl rfl)) rfl e.m_check_services (fa_cons (fe_n 2) fa_nil)))
      (fs_cons (fs_fd (cs := ["System"]) (cs_cons e.k_System e.a_System_own_policies cs_nil) (fe_n 0) (fe_dc (ow := [("one", 3)]) rfl sc_System_init.nd (fi_a (fe_n 1)) (blkOk_by (N := ["self", "policies", "services", "one", "name", "block"]) (sc := defScope s_System_init) (by decide +kernel)) (fun _ _ _ _ _ => (fgo_name (i := 3) (by decide) sc_System_init.nd rfl (Or.inl rfl) (.inr rfl))) (fun _ _ _ _ _ => fts_nil) (fun _ _ _ _ _ => (fe_at (cs := []) (ps := [("Policy", m_Policy_name)]) (fun C h => by cases h) (ps_cons (prp e.k_Policy e.p_Policy_name (w_Policy_name e) (b_Policy_name e) (by exact deep_gd hgd) hr) ps_nil) (fe_n 3) rfl)) (fun _ _ _ _ _ => (fe_n 3))) rfl)
      (fs_cons (fs_fd (cs := ["System"]) (cs_cons e.k_System e.a_System_own_blocks cs_nil) (fe_n 0) fe_dct0 rfl)
      (fs_one (fs_for (passes_of rfl) rfl (fi_a (fe_n 2)) (fg_tup rfl (fg_cons (fg_name (i := 4) sc_System_init.nd rfl (Or.inl rfl)) (fg_cons (fg_name (i := 5) sc_System_init.nd rfl (Or.inl rfl)) fg_nil)))
        (fs_cons (fs_expr (fe_call (dfn (w_check_block e) (b_check_block e) e.f_check_block.kp l_check_block (by exact deep_gd hgd) hr) (tk_of (takes_of rfl rfl rfl rfl)) rfl e.m_check_block (fa_cons (fe_n 4) (fa_cons (fe_n 5) (fa_cons (fe_at (cs := ["System"]) (ps := []) (cs_cons e.k_System e.a_System_own_blocks cs_nil) ps_nil (fe_n 0) rfl) (fa_cons (fe_at (cs := ["System"]) (ps := []) (cs_cons e.k_System e.a_System_own_policies cs_nil) ps_nil (fe_n 0) rfl) fa_nil))))))
      (fs_one (fs_asg (fe_n 5) (fg_sub (W := W0) (u1 hr) (fe_at (cs := ["System"]) (ps := []) (cs_cons e.k_System e.a_System_own_blocks cs_nil) ps_nil (fe_n 0) rfl) (fe_n 4))))))))))))
def gP_System_2 : List PV → List PV → List PV := fun xs _ => xs
theorem bf_System_2 (e : En P w K mg base ga) : BindF K ga (fdA K (me K ga "System" "__init__")) ["self", "policies", "services"] 3 [] gP_System_2 := bf_pos (b_System_init e) rfl
noncomputable def m__law_draw : Fn := fnB 2 3 ((sSeq (sIf (tOp2 gtF (eOp ixF (eV 0) (eC (.int 0))) (eC (.int 0))) (sSeq (sAs (eOp modF (eF intF (aC (eOp ixF (eV 0) (eC (.int 0))) aN)) (eV 1)) (gN 2))
    (sSeq (sAs (eOp fdivF (eOp ixF (eV 0) (eC (.int 0))) (eV 1)) (gSb (eV 0) (eC (.int 0))))
    (sRt (eV 2)))) sN)
    (sSeq (sAs (eOp modF (eF intF (aC (eOp addF (eOp mulBF (eOp ixF (eV 0) (eC (.int 1))) (eC (.int 48271))) (eC (.int 11))) aN)) (eC (.int 2147483647))) (gSb (eV 0) (eC (.int 1))))
    (sRt (eOp modF (eOp fdivF (eOp modF (eF intF (aC (eOp mulBF (eOp ixF (eV 0) (eC (.int 1))) (eOp ixF (eV 0) (eC (.int 1)))) aN)) (eC (.int 2147483629))) (eC (.int 64))) (eV 1))))))
theorem l__law_draw : ∀ xs L, xs.length ≠ 2 → m__law_draw xs L = .no := fnB_len
theorem b__law_draw (e : En P w K mg base ga) : Binds K (fdA K (ga "_law_draw")) ["_law_pool_here", "_law_many"] [] := e.f__law_draw.bindsN fun _ _ _ _ _ _ us hl => match us, hl with | [_, _], _ => rfl
theorem w__law_draw (e : En P w K mg base ga) : FnM P w K mg base ga 1 (ga "_law_draw") (fdA K (ga "_law_draw")) ["_law_pool_here", "_law_many"] m__law_draw := by
  exact fn_ok e.f__law_draw sc__law_draw (fun cdv A outer s H E hgd hr => (fs_cons (fs_if (ft_cmp op_gt gtL (fe_ix (u1 hr) (fe_n 0) fe_int (fun _ _ => rfl)) fe_int (nomark _)) (fs_cons (fs_set (i := 2) sc__law_draw.nd rfl (Or.inl rfl) (fe_op op_mod modL (fe_T call_int1 intL rfl e.b_int boot_t_int (fa_cons (fe_ix (u1 hr) (fe_n 0) fe_int (fun _ _ => rfl)) fa_nil)) (fe_n 1)))
      (fs_cons (fs_asg (fe_op op_fdivW fdivL (fe_ix (u1 hr) (fe_n 0) fe_int (fun _ _ => rfl)) (fe_n 1)) (fg_sub (W := W0) (u1 hr) (fe_n 0) fe_int))
      (fs_one (fs_ret (fe_n 2))))) fs_nil)
      (fs_cons (fs_asg (fe_op op_mod modL (fe_T call_int1 intL rfl e.b_int boot_t_int (fa_cons (fe_op op_addA addL (fe_op op_mulB mulBL (fe_ix (u1 hr) (fe_n 0) fe_int (fun _ _ => rfl)) fe_int) fe_int) fa_nil)) fe_int) (fg_sub (W := W0) (u1 hr) (fe_n 0) fe_int))
      (fs_one (fs_ret (fe_op op_mod modL (fe_op op_fdivW fdivL (fe_op op_mod modL (fe_T call_int1 intL rfl e.b_int boot_t_int (fa_cons (fe_op op_mulB mulBL (fe_ix (u1 hr) (fe_n 0) fe_int (fun _ _ => rfl)) (fe_ix (u1 hr) (fe_n 0) fe_int (fun _ _ => rfl))) fa_nil)) fe_int) fe_int) (fe_n 1)))))))
noncomputable def m__law_choose : Fn := fnB 2 2 ((sRt (eOp ixF (eV 1) (eF m__law_draw (aC (eV 0) (aC (eF lenF (aC (eV 1) aN)) aN))))))
theorem l__law_choose : ∀ xs L, xs.length ≠ 2 → m__law_choose xs L = .no := fnB_len
theorem b__law_choose (e : En P w K mg base ga) : Binds K (fdA K (ga "_law_choose")) ["_law_pool_here", "_law_items"] [] := e.f__law_choose.bindsN fun _ _ _ _ _ _ us hl => match us, hl with | [_, _], _ => rfl
theorem w__law_choose (e : En P w K mg base ga) : FnM P w K mg base ga 2 (ga "_law_choose") (fdA K (ga "_law_choose")) ["_law_pool_here", "_law_items"] m__law_choose := by
  exact fn_ok e.f__law_choose sc__law_choose (fun cdv A outer s H E hgd hr => (fs_one (fs_ret (fe_ix (u1 hr) (fe_n 1) (fe_call (dfn (w__law_draw e) (b__law_draw e) e.f__law_draw.kp l__law_draw (by exact deep_gd hgd) hr) (tk_of (takes_of rfl rfl rfl rfl)) rfl e.m__law_draw (fa_cons (fe_n 0) (fa_cons (fe_B cr_lenA lenL rfl e.b_len boot_b_len (fa_cons (fe_n 1) fa_nil)) fa_nil))) (fun _ _ => rfl)))))
noncomputable def m_System_contains : Fn := fnB 2 2 ((sRt (eAnd (eF m_is_name (aC (eV 1) aN)) (eOp inF (eV 1) (eAt "own_blocks" ["System"] [] (eV 0))))))
theorem l_System_contains : ∀ xs L, xs.length ≠ 2 → m_System_contains xs L = .no := fnB_len
theorem b_System_contains (e : En P w K mg base ga) : Binds K (fdA K (me K ga "System" "__contains__")) ["self", "name"] [] := e.f_System_contains.bindsN fun _ _ _ _ _ _ us hl => match us, hl with | [_, _], _ => rfl
theorem w_System_contains (e : En P w K mg base ga) : FnM P w K mg base ga 2 (me K ga "System" "__contains__") (fdA K (me K ga "System" "__contains__")) ["self", "name"] m_System_contains := by
  exact fn_ok e.f_System_contains sc_System_contains (fun cdv A outer s H E hgd hr => (fs_one (fs_ret (fe_and (fe_call (dfn (w_is_name e) (b_is_name e) e.f_is_name.kp l_is_name (by exact deep_gd hgd) hr) (tk_of (takes_of rfl rfl rfl rfl)) rfl e.m_is_name (fa_cons (fe_n 1) fa_nil)) (fe_b1 (fe_cmp (op_inA (u1 hr)) inL (fe_n 1) (fe_at (cs := ["System"]) (ps := []) (cs_cons e.k_System e.a_System_own_blocks cs_nil) ps_nil (fe_n 0) rfl) (by rfl)))))))
noncomputable def m_System_require : Fn := fnB 2 2 ((sIf (tOp2 (ownInF true [("System", m_System_contains)]) (eV 1) (eV 0)) (sRs "UnknownName" ["value"] (aC (eV 1) aN)) sN))
theorem l_System_require : ∀ xs L, xs.length ≠ 2 → m_System_require xs L = .no := fnB_len
theorem b_System_require (e : En P w K mg base ga) : Binds K (fdA K (me K ga "System" "require")) ["self", "name"] [] := e.f_System_require.bindsN fun _ _ _ _ _ _ us hl => match us, hl with | [_, _], _ => rfl
theorem w_System_require (e : En P w K mg base ga) : FnM P w K mg base ga 3 (me K ga "System" "require") (fdA K (me K ga "System" "require")) ["self", "name"] m_System_require := by
  exact fn_ok e.f_System_require sc_System_require (fun cdv A outer s H E hgd hr => (fs_one (fs_if (ft_cmp (op_ninO (Z := Zo ga) (ms := [("System", m_System_contains)]) (ms_cons (FL.mt e.k_System e.q_System_contains (dfn (w_System_contains e) (b_System_contains e) e.f_System_contains.kp l_System_contains (by exact deep_gd hgd) hr)) ms_nil) (u1 hr)) (inOL true) (fe_n 1) (fe_n 0) (by rfl)) (fs_one (fs_raise1 rfl e.x_UnknownName e.g_UnknownName hr (takes_of rfl rfl rfl rfl) (fa_cons (fe_n 1) fa_nil))) fs_nil)))
noncomputable def m_System_getitem : Fn := fnB 2 2 ((sSeq (sEx (eMe "require" [("System", m_System_require)] (eV 0) (aC (eV 1) aN)))
    (sRt (eOp ixF (eAt "own_blocks" ["System"] [] (eV 0)) (eV 1)))))
theorem l_System_getitem : ∀ xs L, xs.length ≠ 2 → m_System_getitem xs L = .no := fnB_len
theorem b_System_getitem (e : En P w K mg base ga) : Binds K (fdA K (me K ga "System" "__getitem__")) ["self", "name"] [] := e.f_System_getitem.bindsN fun _ _ _ _ _ _ us hl => match us, hl with | [_, _], _ => rfl
theorem w_System_getitem (e : En P w K mg base ga) : FnM P w K mg base ga 4 (me K ga "System" "__getitem__") (fdA K (me K ga "System" "__getitem__")) ["self", "name"] m_System_getitem := by
  exact fn_ok e.f_System_getitem sc_System_getitem (fun cdv A outer s H E hgd hr => (fs_cons (fs_expr (fe_me (ms := [("System", m_System_require)]) (ms_cons (FL.mt e.k_System e.q_System_require (dfn (w_System_require e) (b_System_require e) e.f_System_require.kp l_System_require (by exact deep_gd hgd) hr)) ms_nil) (tk_of (takes_of rfl rfl rfl rfl)) (fe_n 0) (fa_cons (fe_n 1) fa_nil)))
      (fs_one (fs_ret (fe_ix (u1 hr) (fe_at (cs := ["System"]) (ps := []) (cs_cons e.k_System e.a_System_own_blocks cs_nil) ps_nil (fe_n 0) rfl) (fe_n 1) (fun _ _ => rfl))))))
noncomputable def m_System_callees : Fn := fnB 2 3 ((sRt (eF noF (aC (eX0 (eF m_parts_of (aC (eIxO [("System", m_System_getitem)] (eV 0) (eV 1)) aN))) aN))))
theorem l_System_callees : ∀ xs L, xs.length ≠ 2 → m_System_callees xs L = .no := fnB_len
theorem b_System_callees (e : En P w K mg base ga) : Binds K (fdA K (me K ga "System" "callees")) ["self", "name"] [] := e.f_System_callees.bindsN fun _ _ _ _ _ _ us hl => match us, hl with | [_, _], _ => rfl
theorem w_System_callees (e : En P w K mg base ga) : FnM P w K mg base ga 11 (me K ga "System" "callees") (fdA K (me K ga "System" "callees")) ["self", "name"] m_System_callees := by
  exact fn_ok e.f_System_callees sc_System_callees (fun cdv A outer s H E hgd hr => (fs_one (fs_ret (fe_B cr_sortedI noL rfl e.b_sorted boot_b_sorted (fa_cons (fe_setc0 (fe_call (dfn (w_parts_of e) (b_parts_of e) e.f_parts_of.kp l_parts_of (by exact deep_gd hgd) hr) (tk_of (takes_of rfl rfl rfl rfl)) rfl e.m_parts_of (fa_cons (fe_ixO (ms := [("System", m_System_getitem)]) (is_cons (mi e.k_System e.q_System_getitem e.fi_System_getitem (w_System_getitem e) (b_System_getitem e) l_System_getitem (by exact deep_gd hgd) hr) is_nil) (tk_of (takes_of rfl rfl rfl rfl)) (u1 hr) (fe_n 0) (fe_n 1) (fun _ _ => rfl)) fa_nil))) fa_nil)))))
noncomputable def m_System_policy : Fn := fnB 2 2 ((sSeq (sIf (tOr (tNot (tru (eF m_is_name (aC (eV 1) aN)))) (tOp2 ninF (eV 1) (eAt "own_policies" ["System"] [] (eV 0)))) (sRs "UnknownName" ["value"] (aC (eV 1) aN)) sN)
    (sRt (eOp ixF (eAt "own_policies" ["System"] [] (eV 0)) (eV 1)))))
theorem l_System_policy : ∀ xs L, xs.length ≠ 2 → m_System_policy xs L = .no := fnB_len
theorem b_System_policy (e : En P w K mg base ga) : Binds K (fdA K (me K ga "System" "policy")) ["self", "name"] [] := e.f_System_policy.bindsN fun _ _ _ _ _ _ us hl => match us, hl with | [_, _], _ => rfl
theorem w_System_policy (e : En P w K mg base ga) : FnM P w K mg base ga 2 (me K ga "System" "policy") (fdA K (me K ga "System" "policy")) ["self", "name"] m_System_policy := by
  exact fn_ok e.f_System_policy sc_System_policy (fun cdv A outer s H E hgd hr => (fs_cons (fs_if (PW.pt (fw_or (ft_not (ft_tru (fe_call (dfn (w_is_name e) (b_is_name e) e.f_is_name.kp l_is_name (by exact deep_gd hgd) hr) (tk_of (takes_of rfl rfl rfl rfl)) rfl e.m_is_name (fa_cons (fe_n 1) fa_nil)))) (fw_or1 (ft_cmp (op_ninA (u1 hr)) ninL (fe_n 1) (fe_at (cs := ["System"]) (ps := []) (cs_cons e.k_System e.a_System_own_policies cs_nil) ps_nil (fe_n 0) rfl) (by rfl))))) (fs_one (fs_raise1 rfl e.x_UnknownName e.g_UnknownName hr (takes_of rfl rfl rfl rfl) (fa_cons (fe_n 1) fa_nil))) fs_nil)
      (fs_one (fs_ret (fe_ix (u1 hr) (fe_at (cs := ["System"]) (ps := []) (cs_cons e.k_System e.a_System_own_policies cs_nil) ps_nil (fe_n 0) rfl) (fe_n 1) (fun _ _ => rfl))))))
noncomputable def m_System_span : Fn := fnB 2 2 ((sSeq (sEx (eMe "require" [("System", m_System_require)] (eV 0) (aC (eV 1) aN)))
    (sRt (eF (m_block_span 6) (aC (eOp ixF (eAt "own_blocks" ["System"] [] (eV 0)) (eV 1)) (aC (eAt "own_policies" ["System"] [] (eV 0)) aN))))))
theorem l_System_span : ∀ xs L, xs.length ≠ 2 → m_System_span xs L = .no := fnB_len
theorem b_System_span (e : En P w K mg base ga) : Binds K (fdA K (me K ga "System" "span")) ["self", "name"] [] := e.f_System_span.bindsN fun _ _ _ _ _ _ us hl => match us, hl with | [_, _], _ => rfl
theorem w_System_span (e : En P w K mg base ga) : FnM P w K mg base ga 9 (me K ga "System" "span") (fdA K (me K ga "System" "span")) ["self", "name"] m_System_span := by
  exact fn_ok e.f_System_span sc_System_span (fun cdv A outer s H E hgd hr => (fs_cons (fs_expr (fe_me (ms := [("System", m_System_require)]) (ms_cons (FL.mt e.k_System e.q_System_require (dfn (w_System_require e) (b_System_require e) e.f_System_require.kp l_System_require (by exact deep_gd hgd) hr)) ms_nil) (tk_of (takes_of rfl rfl rfl rfl)) (fe_n 0) (fa_cons (fe_n 1) fa_nil)))
      (fs_one (fs_ret (fe_call (dfn (w_block_span e 6) (b_block_span e) e.f_block_span.kp (l_block_span 6) (by exact deep_gd hgd) hr) (tk_of (takes_of rfl rfl rfl rfl)) rfl e.m_block_span (fa_cons (fe_ix (u1 hr) (fe_at (cs := ["System"]) (ps := []) (cs_cons e.k_System e.a_System_own_blocks cs_nil) ps_nil (fe_n 0) rfl) (fe_n 1) (fun _ _ => rfl)) (fa_cons (fe_at (cs := ["System"]) (ps := []) (cs_cons e.k_System e.a_System_own_policies cs_nil) ps_nil (fe_n 0) rfl) fa_nil)))))))
noncomputable def m_System_with_block : Fn := fnB 3 5 ((sSeq (sEx (eMe "require" [("System", m_System_require)] (eV 0) (aC (eV 1) aN)))
    (sSeq (lockS (eAt "own_blocks" ["System"] [] (eV 0)) (sAs (eNew (vC (iAD (eAt "own_blocks" ["System"] [] (eV 0))) (gN 4) tY (eT (aC (eV 4) (aC (eIf (tOp2 eqF (eV 4) (eV 1)) (eV 2) (eOp ixF (eAt "own_blocks" ["System"] [] (eV 0)) (eV 4))) aN))) [4])) (gN 3)))
    (sRt (eMk "System" 2 0 m_System_init gP_System_2 (aC (eVs (eAt "own_policies" ["System"] [] (eV 0))) (aC (eV 3) aN)) aN)))))
theorem l_System_with_block : ∀ xs L, xs.length ≠ 3 → m_System_with_block xs L = .no := fnB_len
theorem b_System_with_block (e : En P w K mg base ga) : Binds K (fdA K (me K ga "System" "with_block")) ["self", "name", "block"] [] := e.f_System_with_block.bindsN fun _ _ _ _ _ _ us hl => match us, hl with | [_, _, _], _ => rfl
theorem w_System_with_block (e : En P w K mg base ga) : FnM P w K mg base ga 14 (me K ga "System" "with_block") (fdA K (me K ga "System" "with_block")) ["self", "name", "block"] m_System_with_block := by
  exact fn_ok e.f_System_with_block sc_System_with_block (fun cdv A outer s H E hgd hr => (fs_cons (fs_expr (fe_me (ms := [("System", m_System_require)]) (ms_cons (FL.mt e.k_System e.q_System_require (dfn (w_System_require e) (b_System_require e) e.f_System_require.kp l_System_require (by exact deep_gd hgd) hr)) ms_nil) (tk_of (takes_of rfl rfl rfl rfl)) (fe_n 0) (fa_cons (fe_n 1) fa_nil)))
      (fs_cons (fs_lock (eAt "own_blocks" ["System"] [] (eV 0)) (fs_setLc (i := 3) (ow := [("one", 4)]) rfl sc_System_with_block.nd rfl rfl rfl (fi_ad (fe_at (cs := ["System"]) (ps := []) (cs_cons e.k_System e.a_System_own_blocks cs_nil) ps_nil (fe_n 0) rfl)) (blkOk_by (N := ["self", "name", "block", "rows", "one"]) (sc := defScope s_System_with_block) (by decide +kernel)) (fun _ _ _ _ _ => (fgo_name (i := 4) (by decide) sc_System_with_block.nd rfl (Or.inl rfl) (.inr rfl))) (fun _ _ _ _ _ => fts_nil) (fun _ _ _ _ _ => (fe_tup (fa_cons (fe_n 4) (fa_cons (fe_if (ft_cmp (op_eqD (u64 hr)) eqL (fe_n 4) (fe_n 1) (nomark _)) (fe_n 2) (fe_ix (u1 hr) (fe_at (cs := ["System"]) (ps := []) (cs_cons e.k_System e.a_System_own_blocks cs_nil) ps_nil (fe_n 0) rfl) (fe_n 4) (fun _ _ => rfl))) fa_nil))))))
      (fs_one (fs_ret (fe_mk (ini e.i_System (w_System_init e) (bf_System_2 e) l_System_init (by exact deep_gd hgd) hr) (tk_of (takes_of rfl rfl rfl rfl)) rfl e.m_System (fa_cons (fe_listV rfl rfl e.b_list (fe_at (cs := ["System"]) (ps := []) (cs_cons e.k_System e.a_System_own_policies cs_nil) ps_nil (fe_n 0) rfl)) (fa_cons (fe_n 3) fa_nil)) fk_nil))))))
noncomputable def m_System_with_policy : Fn := fnB 2 4 ((sSeq (sIf (tNot (tru (eF (isiF CS TAB) (aC (eV 1) (aC (eC (.glo "Policy")) aN))))) (sRs "InvalidPolicies" ["number"] (aC (eC .non) aN)) sN)
    (sSeq (sEx (eMe "policy" [("System", m_System_policy)] (eV 0) (aC (eAt "name" [] [("Policy", m_Policy_name)] (eV 1)) aN)))
    (sSeq (lockS (eAt "own_policies" ["System"] [] (eV 0)) (sAs (eNew (vC (iAD (eAt "own_policies" ["System"] [] (eV 0))) (gN 3) tY (eIf (tOp2 eqF (eV 3) (eAt "name" [] [("Policy", m_Policy_name)] (eV 1))) (eV 1) (eOp ixF (eAt "own_policies" ["System"] [] (eV 0)) (eV 3))) [3])) (gN 2)))
    (sRt (eMk "System" 2 0 m_System_init gP_System_2 (aC (eV 2) (aC (eIs (eAt "own_blocks" ["System"] [] (eV 0))) aN)) aN))))))
theorem l_System_with_policy : ∀ xs L, xs.length ≠ 2 → m_System_with_policy xs L = .no := fnB_len
theorem b_System_with_policy (e : En P w K mg base ga) : Binds K (fdA K (me K ga "System" "with_policy")) ["self", "policy"] [] := e.f_System_with_policy.bindsN fun _ _ _ _ _ _ us hl => match us, hl with | [_, _], _ => rfl
theorem w_System_with_policy (e : En P w K mg base ga) : FnM P w K mg base ga 14 (me K ga "System" "with_policy") (fdA K (me K ga "System" "with_policy")) ["self", "policy"] m_System_with_policy := by
  exact fn_ok e.f_System_with_policy sc_System_with_policy (fun cdv A outer s H E hgd hr => (fs_cons (fs_if (ft_not (ft_tru (fe_B call_isi (isiL e.kit) rfl e.b_isinstance boot_b_isinstance (fa_cons (fe_n 1) (fa_cons (fe_glo rfl e.m_Policy) fa_nil))))) (fs_one (fs_raise1 rfl e.x_InvalidPolicies e.g_InvalidPolicies hr (takes_of rfl rfl rfl rfl) (fa_cons fe_non fa_nil))) fs_nil)
      (fs_cons (fs_expr (fe_me (ms := [("System", m_System_policy)]) (ms_cons (FL.mt e.k_System e.q_System_policy (dfn (w_System_policy e) (b_System_policy e) e.f_System_policy.kp l_System_policy (by exact deep_gd hgd) hr)) ms_nil) (tk_of (takes_of rfl rfl rfl rfl)) (fe_n 0) (fa_cons (fe_at (cs := []) (ps := [("Policy", m_Policy_name)]) (fun C h => by cases h) (ps_cons (prp e.k_Policy e.p_Policy_name (w_Policy_name e) (b_Policy_name e) (by exact deep_gd hgd) hr) ps_nil) (fe_n 1) rfl) fa_nil)))
      (fs_cons (fs_lock (eAt "own_policies" ["System"] [] (eV 0)) (fs_setLc (i := 2) (ow := [("one", 3)]) rfl sc_System_with_policy.nd rfl rfl rfl (fi_ad (fe_at (cs := ["System"]) (ps := []) (cs_cons e.k_System e.a_System_own_policies cs_nil) ps_nil (fe_n 0) rfl)) (blkOk_by (N := ["self", "policy", "rows", "one"]) (sc := defScope s_System_with_policy) (by decide +kernel)) (fun _ _ _ _ _ => (fgo_name (i := 3) (by decide) sc_System_with_policy.nd rfl (Or.inl rfl) (.inr rfl))) (fun _ _ _ _ _ => fts_nil) (fun _ _ _ _ _ => (fe_if (ft_cmp (op_eqD (u64 hr)) eqL (fe_n 3) (fe_at (cs := []) (ps := [("Policy", m_Policy_name)]) (fun C h => by cases h) (ps_cons (prp e.k_Policy e.p_Policy_name (w_Policy_name e) (b_Policy_name e) (by exact deep_gd hgd) hr) ps_nil) (fe_n 1) rfl) (nomark _)) (fe_n 1) (fe_ix (u1 hr) (fe_at (cs := ["System"]) (ps := []) (cs_cons e.k_System e.a_System_own_policies cs_nil) ps_nil (fe_n 0) rfl) (fe_n 3) (fun _ _ => rfl))))))
      (fs_one (fs_ret (fe_mk (ini e.i_System (w_System_init e) (bf_System_2 e) l_System_init (by exact deep_gd hgd) hr) (tk_of (takes_of rfl rfl rfl rfl)) rfl e.m_System (fa_cons (fe_n 2) (fa_cons (fe_listI rfl rfl e.b_list (fe_at (cs := ["System"]) (ps := []) (cs_cons e.k_System e.a_System_own_blocks cs_nil) ps_nil (fe_n 0) rfl)) fa_nil)) fk_nil)))))))
noncomputable def m_System_with_service : Fn := fnB 3 3 ((sRt (eMk "System" 2 0 m_System_init gP_System_2 (aC (eVs (eAt "own_policies" ["System"] [] (eV 0))) (aC (eNew (vL (aSI (eAt "own_blocks" ["System"] [] (eV 0)) (aC (eT (aC (eV 1) (aC (eV 2) aN))) aN)))) aN)) aN)))
theorem l_System_with_service : ∀ xs L, xs.length ≠ 3 → m_System_with_service xs L = .no := fnB_len
theorem b_System_with_service (e : En P w K mg base ga) : Binds K (fdA K (me K ga "System" "with_service")) ["self", "name", "block"] [] := e.f_System_with_service.bindsN fun _ _ _ _ _ _ us hl => match us, hl with | [_, _, _], _ => rfl
theorem w_System_with_service (e : En P w K mg base ga) : FnM P w K mg base ga 14 (me K ga "System" "with_service") (fdA K (me K ga "System" "with_service")) ["self", "name", "block"] m_System_with_service := by
  exact fn_ok e.f_System_with_service sc_System_with_service (fun cdv A outer s H E hgd hr => (fs_one (fs_ret (fe_mk (ini e.i_System (w_System_init e) (bf_System_2 e) l_System_init (by exact deep_gd hgd) hr) (tk_of (takes_of rfl rfl rfl rfl)) rfl e.m_System (fa_cons (fe_listV rfl rfl e.b_list (fe_at (cs := ["System"]) (ps := []) (cs_cons e.k_System e.a_System_own_policies cs_nil) ps_nil (fe_n 0) rfl)) (fa_cons (fe_ofV (fv_lst (fa_starI rfl (fe_at (cs := ["System"]) (ps := []) (cs_cons e.k_System e.a_System_own_blocks cs_nil) ps_nil (fe_n 0) rfl) (fa_cons (fe_tup (fa_cons (fe_n 1) (fa_cons (fe_n 2) fa_nil))) fa_nil)))) fa_nil)) fk_nil))))
noncomputable def m__law_told : Th → Th := fnT 2 (fun th => (sTry KNOWN (("InvalidPolicies", 1, fun fs => (sRt (eNew (vL (aC (eC (.str "policies")) (aC (eX fs "number") aN)))))) :: (("InvalidServices", 1, fun fs => (sRt (eNew (vL (aC (eC (.str "services")) (aC (eX fs "number") aN)))))) :: (("InvalidPart", 1, fun fs => (sRt (eNew (vL (aC (eC (.str "part")) (aC (eX fs "service") (aC (eX fs "place") aN))))))) :: (("UnknownName", 1, fun fs => (sRt (eNew (vL (aC (eC (.str "name")) (aC (eF reprF (aC (eX fs "value") aN)) aN)))))) :: [])))) (sSeq (sEx (fun _ L => th L))
    (sRt (eC (.str "made"))))))
theorem b__law_told (e : En P w K mg base ga) : Binds K (fdA K (ga "_law_told")) ["_law_call"] [] := e.f__law_told.bindsN fun _ _ _ _ _ _ us hl => match us, hl with | [_], _ => rfl
theorem g__law_told {X : Cx} {ga : Ga} (e : En X.prog X.w X.K X.mg X.base ga) (hgd : X.A.guards = some []) (hu : X.A.units + 70 < cLine) (cdv : Value) (q : Str) : GivesW X ["_law_call", "e"] "_law_told" (defScope s__law_told) (ga "_law_told") cdv (defBody s__law_told) "_law_call" q (TTL X.K ga m__law_told) :=
  giv (Ng := ["_law_call", "e"]) (m := fun th => (sTry KNOWN (("InvalidPolicies", 1, fun fs => (sRt (eNew (vL (aC (eC (.str "policies")) (aC (eX fs "number") aN)))))) :: (("InvalidServices", 1, fun fs => (sRt (eNew (vL (aC (eC (.str "services")) (aC (eX fs "number") aN)))))) :: (("InvalidPart", 1, fun fs => (sRt (eNew (vL (aC (eC (.str "part")) (aC (eX fs "service") (aC (eX fs "place") aN))))))) :: (("UnknownName", 1, fun fs => (sRt (eNew (vL (aC (eC (.str "name")) (aC (eF reprF (aC (eX fs "value") aN)) aN)))))) :: [])))) (sSeq (sEx (fun _ L => th L))
    (sRt (eC (.str "made")))))) hgd hu (fun f c' ι0 H0 s H th hg hu call => (fs_one (fs_try (known := KNOWN) rfl rfl sc__law_told.nd takes0 (fun W pn xe tk po => (fs_cons (fs_expr (call _ _ _ _ _ tk))
      (fs_one (fs_ret fe_str))))
      (.cons (i := 1) ⟨rfl, by decide, .inl (e.x_InvalidPolicies).c.gC⟩ rfl rfl rfl (kn_InvalidPolicies e) (fun a oe d pn fs hz hf => (fs_one (fs_ret (fe_ofV (fv_lst (fa_cons fe_str (fa_cons (fe_x (e.x_InvalidPolicies).xf e.n_InvalidPolicies_number hz hf rfl (Or.inl rfl)) fa_nil))))))) (.cons (i := 1) ⟨rfl, by decide, .inl (e.x_InvalidServices).c.gC⟩ rfl rfl rfl (kn_InvalidServices e) (fun a oe d pn fs hz hf => (fs_one (fs_ret (fe_ofV (fv_lst (fa_cons fe_str (fa_cons (fe_x (e.x_InvalidServices).xf e.n_InvalidServices_number hz hf rfl (Or.inl rfl)) fa_nil))))))) (.cons (i := 1) ⟨rfl, by decide, .inl (e.x_InvalidPart).c.gC⟩ rfl rfl rfl (kn_InvalidPart e) (fun a oe d pn fs hz hf => (fs_one (fs_ret (fe_ofV (fv_lst (fa_cons fe_str (fa_cons (fe_x (e.x_InvalidPart).xf e.n_InvalidPart_service hz hf rfl (Or.inl rfl)) (fa_cons (fe_x (e.x_InvalidPart).xf e.n_InvalidPart_place hz hf rfl (Or.inl rfl)) fa_nil)))))))) (.cons (i := 1) ⟨rfl, by decide, .inl (e.x_UnknownName).c.gC⟩ rfl rfl rfl (kn_UnknownName e) (fun a oe d pn fs hz hf => (fs_one (fs_ret (fe_ofV (fv_lst (fa_cons fe_str (fa_cons (fe_B (call_repr hg (v64 hu)) reprL rfl e.b_repr boot_b_repr (fa_cons (fe_x (e.x_UnknownName).xf e.n_UnknownName_value hz hf rfl (Or.inl rfl)) fa_nil)) fa_nil))))))) .nil)))))))
noncomputable def m__law_doors_right : Fn := fnB 1 4 ((sSeq (sFor (iV (vL (aC (eC (.str "c")) (aC (eC (.str "")) (aC (eC .non) (aC (eC (.int 5)) (aC (eNew (vL (aC (eC (.str "a")) aN))) (aC (eT (aC (eC (.str "a")) aN)) (aC (eC (.str "p")) (aC (eC (.bl true)) aN)))))))))) (gN 1) (sSeq (sAs (eNew (vL (aC (eC (.str "name")) (aC (eF reprF (aC (eV 1) aN)) aN)))) (gN 2))
    (sSeq (sIf (gcT (tOp2 neF (eLam m__law_told (eIxO [("System", m_System_getitem)] (eV 0) (eV 1))) (eV 2))) (sRt (eC (.bl false))) sN)
    (sSeq (sIf (gcT (tOp2 neF (eLam m__law_told (eMe "span" [("System", m_System_span)] (eV 0) (aC (eV 1) aN))) (eV 2))) (sRt (eC (.bl false))) sN)
    (sSeq (sIf (gcT (tOp2 neF (eLam m__law_told (eMe "callees" [("System", m_System_callees)] (eV 0) (aC (eV 1) aN))) (eV 2))) (sRt (eC (.bl false))) sN)
    (sSeq (sIf (gcT (tOp2 neF (eLam m__law_told (eMe "with_block" [("System", m_System_with_block)] (eV 0) (aC (eV 1) (aC (eC .non) aN)))) (eV 2))) (sRt (eC (.bl false))) sN)
    (sIf (gcT (tAnd (tOp2 neF (eV 1) (eC (.str "p"))) (tOp2 neF (eLam m__law_told (eMe "policy" [("System", m_System_policy)] (eV 0) (aC (eV 1) aN))) (eV 2)))) (sRt (eC (.bl false))) sN)))))))
    (sSeq (sFor (iV (vL (aC (eC .non) (aC (eC (.int 5)) (aC (eC (.str "p")) (aC eD0 aN)))))) (gN 3) (sIf (gcT (tOp2 neF (eLam m__law_told (eMe "with_policy" [("System", m_System_with_policy)] (eV 0) (aC (eV 3) aN))) (eNew (vL (aC (eC (.str "policies")) (aC (eC .non) aN)))))) (sRt (eC (.bl false))) sN))
    (sSeq (sIf (gcT (tOp2 neF (eLam m__law_told (eMe "with_policy" [("System", m_System_with_policy)] (eV 0) (aC (eMk "Policy" 2 0 m_Policy_init gP_Policy_2 (aC (eC (.str "r")) (aC (eC (.int 1)) aN)) aN) aN))) (eNew (vL (aC (eC (.str "name")) (aC (eC (.str "'r'")) aN)))))) (sRt (eC (.bl false))) sN)
    (sSeq (sIf (gcT (tOp2 neF (eLam m__law_told (eMe "with_block" [("System", m_System_with_block)] (eV 0) (aC (eC (.str "a")) (aC (eT (aC (eT (aC (eC (.str "call")) (aC (eC (.str "b")) (aC (eC (.str "p")) aN)))) aN)) aN)))) (eNew (vL (aC (eC (.str "name")) (aC (eC (.str "'b'")) aN)))))) (sRt (eC (.bl false))) sN)
    (sSeq (sIf (gcT (tOp2 neF (eLam m__law_told (eMe "with_block" [("System", m_System_with_block)] (eV 0) (aC (eC (.str "b")) (aC (eT (aC (eT (aC (eC (.str "want")) (aC (eC (.str "b")) (aC (eC (.str "p")) aN)))) aN)) aN)))) (eNew (vL (aC (eC (.str "name")) (aC (eC (.str "'b'")) aN)))))) (sRt (eC (.bl false))) sN)
    (sSeq (sIf (gcT (tOp2 neF (eLam m__law_told (eMe "with_block" [("System", m_System_with_block)] (eV 0) (aC (eC (.str "b")) (aC (eT (aC (eT (aC (eC (.str "want")) (aC (eC (.str "a")) (aC (eC (.str "r")) aN)))) aN)) aN)))) (eNew (vL (aC (eC (.str "name")) (aC (eC (.str "'r'")) aN)))))) (sRt (eC (.bl false))) sN)
    (sSeq (sIf (gcT (tOp2 neF (eLam m__law_told (eMe "with_block" [("System", m_System_with_block)] (eV 0) (aC (eC (.str "b")) (aC (eT (aC (eT (aC (eC (.str "risk")) aN)) (aC (eT (aC (eC (.str "run")) (aC (eC (.int 2)) (aC (eC (.int 1)) aN)))) aN))) aN)))) (eNew (vL (aC (eC (.str "part")) (aC (eC (.str "b")) (aC (eC (.int 1)) aN))))))) (sRt (eC (.bl false))) sN)
    (sSeq (sIf (gcT (tOp2 neF (eLam m__law_told (eMe "with_service" [("System", m_System_with_service)] (eV 0) (aC (eC (.str "c")) (aC (eT (aC (eT (aC (eC (.str "call")) (aC (eC (.str "c")) (aC (eC (.str "p")) aN)))) aN)) aN)))) (eNew (vL (aC (eC (.str "name")) (aC (eC (.str "'c'")) aN)))))) (sRt (eC (.bl false))) sN)
    (sRt (eOp eqF (eLam m__law_told (eMe "with_service" [("System", m_System_with_service)] (eV 0) (aC (eC (.str "a")) (aC (eT aN) aN)))) (eNew (vL (aC (eC (.str "services")) (aC (eC (.int 2)) aN)))))))))))))))
theorem l__law_doors_right : ∀ xs L, xs.length ≠ 1 → m__law_doors_right xs L = .no := fnB_len
theorem b__law_doors_right (e : En P w K mg base ga) : Binds K (fdA K (ga "_law_doors_right")) ["_law_one"] [] := e.f__law_doors_right.bindsN fun _ _ _ _ _ _ us hl => match us, hl with | [_], _ => rfl
theorem w__law_doors_right (e : En P w K mg base ga) : FnM P w K mg base ga 17 (ga "_law_doors_right") (fdA K (ga "_law_doors_right")) ["_law_one"] m__law_doors_right := by
  exact fn_okC e.f__law_doors_right sc__law_doors_right (fun A outer s H E hgd hr => (fs_cons (fs_for (passes_of rfl) rfl (fi_v (fv_lst (fa_cons fe_str (fa_cons fe_str (fa_cons fe_non (fa_cons fe_int (fa_cons (fe_ofV (fv_lst (fa_cons fe_str fa_nil))) (fa_cons (fe_tup (fa_cons fe_str fa_nil)) (fa_cons fe_str (fa_cons fe_bl fa_nil)))))))))) (fg_name (i := 1) sc__law_doors_right.nd rfl (Or.inr rfl))
        (fs_cons (fs_set (i := 2) sc__law_doors_right.nd rfl (Or.inl rfl) (fe_ofV (fv_lst (fa_cons fe_str (fa_cons (fe_B (call_repr (by exact deep_gd hgd) (u64 hr)) reprL rfl e.b_repr boot_b_repr (fa_cons (fe_n 1) fa_nil)) fa_nil)))))
      (fs_cons (fs_if (ft_gc (ft_cmp (op_neD (u64 hr)) neL (fe_lam (k := 14) (Ng := ["_law_call", "e"]) rfl e.m__law_told e.f__law_told (b__law_told e) sc__law_told rfl (.inl rfl) (fun cdv => g__law_told e (by exact deep_gd hgd) (u70 hr) cdv _) e.tb__law_doors_right e.cd__law_doors_right e.tm__law_doors_right e.tu__law_doors_right (hr.mono (by decide)) (LamX.lamS_by (sc := defScope s__law_doors_right) (by decide +kernel)) rfl (by exact deep_gd hgd) (fun A outer s H E f c' hgd hr => ((fe_ixO (ms := [("System", m_System_getitem)]) (is_cons (mi e.k_System e.q_System_getitem e.fi_System_getitem (w_System_getitem e) (b_System_getitem e) l_System_getitem (by exact deep_gd hgd) hr) is_nil) (tk_of (takes_of rfl rfl rfl rfl)) (u1 hr) (fe_n 0) (fe_n 1) (fun _ _ => rfl))))) (fe_n 2) (nomark _))) (fs_one (fs_ret fe_bl)) fs_nil)
      (fs_cons (fs_if (ft_gc (ft_cmp (op_neD (u64 hr)) neL (fe_lam (k := 14) (Ng := ["_law_call", "e"]) rfl e.m__law_told e.f__law_told (b__law_told e) sc__law_told rfl (.inl rfl) (fun cdv => g__law_told e (by exact deep_gd hgd) (u70 hr) cdv _) e.tb__law_doors_right e.cd__law_doors_right e.tm__law_doors_right e.tu__law_doors_right (hr.mono (by decide)) (LamX.lamS_by (sc := defScope s__law_doors_right) (by decide +kernel)) rfl (by exact deep_gd hgd) (fun A outer s H E f c' hgd hr => ((fe_me (ms := [("System", m_System_span)]) (ms_cons (FL.mt e.k_System e.q_System_span (dfn (w_System_span e) (b_System_span e) e.f_System_span.kp l_System_span (by exact deep_gd hgd) hr)) ms_nil) (tk_of (takes_of rfl rfl rfl rfl)) (fe_n 0) (fa_cons (fe_n 1) fa_nil))))) (fe_n 2) (nomark _))) (fs_one (fs_ret fe_bl)) fs_nil)
      (fs_cons (fs_if (ft_gc (ft_cmp (op_neD (u64 hr)) neL (fe_lam (k := 14) (Ng := ["_law_call", "e"]) rfl e.m__law_told e.f__law_told (b__law_told e) sc__law_told rfl (.inl rfl) (fun cdv => g__law_told e (by exact deep_gd hgd) (u70 hr) cdv _) e.tb__law_doors_right e.cd__law_doors_right e.tm__law_doors_right e.tu__law_doors_right (hr.mono (by decide)) (LamX.lamS_by (sc := defScope s__law_doors_right) (by decide +kernel)) rfl (by exact deep_gd hgd) (fun A outer s H E f c' hgd hr => ((fe_me (ms := [("System", m_System_callees)]) (ms_cons (FL.mt e.k_System e.q_System_callees (dfn (w_System_callees e) (b_System_callees e) e.f_System_callees.kp l_System_callees (by exact deep_gd hgd) hr)) ms_nil) (tk_of (takes_of rfl rfl rfl rfl)) (fe_n 0) (fa_cons (fe_n 1) fa_nil))))) (fe_n 2) (nomark _))) (fs_one (fs_ret fe_bl)) fs_nil)
      (fs_cons (fs_if (ft_gc (ft_cmp (op_neD (u64 hr)) neL (fe_lam (k := 14) (Ng := ["_law_call", "e"]) rfl e.m__law_told e.f__law_told (b__law_told e) sc__law_told rfl (.inl rfl) (fun cdv => g__law_told e (by exact deep_gd hgd) (u70 hr) cdv _) e.tb__law_doors_right e.cd__law_doors_right e.tm__law_doors_right e.tu__law_doors_right (hr.mono (by decide)) (LamX.lamS_by (sc := defScope s__law_doors_right) (by decide +kernel)) rfl (by exact deep_gd hgd) (fun A outer s H E f c' hgd hr => ((fe_me (ms := [("System", m_System_with_block)]) (ms_cons (FL.mt e.k_System e.q_System_with_block (dfn (w_System_with_block e) (b_System_with_block e) e.f_System_with_block.kp l_System_with_block (by exact deep_gd hgd) hr)) ms_nil) (tk_of (takes_of rfl rfl rfl rfl)) (fe_n 0) (fa_cons (fe_n 1) (fa_cons fe_non fa_nil)))))) (fe_n 2) (nomark _))) (fs_one (fs_ret fe_bl)) fs_nil)
      (fs_one (fs_if (ft_gc (PW.pt (fw_and (ft_cmp (op_neD (u64 hr)) neL (fe_n 1) fe_str (nomark _)) (fw_and1 (ft_cmp (op_neD (u64 hr)) neL (fe_lam (k := 14) (Ng := ["_law_call", "e"]) rfl e.m__law_told e.f__law_told (b__law_told e) sc__law_told rfl (.inl rfl) (fun cdv => g__law_told e (by exact deep_gd hgd) (u70 hr) cdv _) e.tb__law_doors_right e.cd__law_doors_right e.tm__law_doors_right e.tu__law_doors_right (hr.mono (by decide)) (LamX.lamS_by (sc := defScope s__law_doors_right) (by decide +kernel)) rfl (by exact deep_gd hgd) (fun A outer s H E f c' hgd hr => ((fe_me (ms := [("System", m_System_policy)]) (ms_cons (FL.mt e.k_System e.q_System_policy (dfn (w_System_policy e) (b_System_policy e) e.f_System_policy.kp l_System_policy (by exact deep_gd hgd) hr)) ms_nil) (tk_of (takes_of rfl rfl rfl rfl)) (fe_n 0) (fa_cons (fe_n 1) fa_nil))))) (fe_n 2) (nomark _)))))) (fs_one (fs_ret fe_bl)) fs_nil))))))))
      (fs_cons (fs_for (passes_of rfl) rfl (fi_v (fv_lst (fa_cons fe_non (fa_cons fe_int (fa_cons fe_str (fa_cons fe_dct0 fa_nil)))))) (fg_name (i := 3) sc__law_doors_right.nd rfl (Or.inr rfl))
        (fs_one (fs_if (ft_gc (ft_cmp (op_neD (u64 hr)) neL (fe_lam (k := 14) (Ng := ["_law_call", "e"]) rfl e.m__law_told e.f__law_told (b__law_told e) sc__law_told rfl (.inl rfl) (fun cdv => g__law_told e (by exact deep_gd hgd) (u70 hr) cdv _) e.tb__law_doors_right e.cd__law_doors_right e.tm__law_doors_right e.tu__law_doors_right (hr.mono (by decide)) (LamX.lamS_by (sc := defScope s__law_doors_right) (by decide +kernel)) rfl (by exact deep_gd hgd) (fun A outer s H E f c' hgd hr => ((fe_me (ms := [("System", m_System_with_policy)]) (ms_cons (FL.mt e.k_System e.q_System_with_policy (dfn (w_System_with_policy e) (b_System_with_policy e) e.f_System_with_policy.kp l_System_with_policy (by exact deep_gd hgd) hr)) ms_nil) (tk_of (takes_of rfl rfl rfl rfl)) (fe_n 0) (fa_cons (fe_n 3) fa_nil))))) (fe_ofV (fv_lst (fa_cons fe_str (fa_cons fe_non fa_nil)))) (nomark _))) (fs_one (fs_ret fe_bl)) fs_nil)))
      (fs_cons (fs_if (ft_gc (ft_cmp (op_neD (u64 hr)) neL (fe_lam (k := 14) (Ng := ["_law_call", "e"]) rfl e.m__law_told e.f__law_told (b__law_told e) sc__law_told rfl (.inl rfl) (fun cdv => g__law_told e (by exact deep_gd hgd) (u70 hr) cdv _) e.tb__law_doors_right e.cd__law_doors_right e.tm__law_doors_right e.tu__law_doors_right (hr.mono (by decide)) (LamX.lamS_by (sc := defScope s__law_doors_right) (by decide +kernel)) rfl (by exact deep_gd hgd) (fun A outer s H E f c' hgd hr => ((fe_me (ms := [("System", m_System_with_policy)]) (ms_cons (FL.mt e.k_System e.q_System_with_policy (dfn (w_System_with_policy e) (b_System_with_policy e) e.f_System_with_policy.kp l_System_with_policy (by exact deep_gd hgd) hr)) ms_nil) (tk_of (takes_of rfl rfl rfl rfl)) (fe_n 0) (fa_cons (fe_mk (ini e.i_Policy (w_Policy_init e) (bf_Policy_2 e) l_Policy_init (by exact deep_gd hgd) hr) (tk_of (takes_of rfl rfl rfl rfl)) rfl e.m_Policy (fa_cons fe_str (fa_cons fe_int fa_nil)) fk_nil) fa_nil))))) (fe_ofV (fv_lst (fa_cons fe_str (fa_cons fe_str fa_nil)))) (nomark _))) (fs_one (fs_ret fe_bl)) fs_nil)
      (fs_cons (fs_if (ft_gc (ft_cmp (op_neD (u64 hr)) neL (fe_lam (k := 14) (Ng := ["_law_call", "e"]) rfl e.m__law_told e.f__law_told (b__law_told e) sc__law_told rfl (.inl rfl) (fun cdv => g__law_told e (by exact deep_gd hgd) (u70 hr) cdv _) e.tb__law_doors_right e.cd__law_doors_right e.tm__law_doors_right e.tu__law_doors_right (hr.mono (by decide)) (LamX.lamS_by (sc := defScope s__law_doors_right) (by decide +kernel)) rfl (by exact deep_gd hgd) (fun A outer s H E f c' hgd hr => ((fe_me (ms := [("System", m_System_with_block)]) (ms_cons (FL.mt e.k_System e.q_System_with_block (dfn (w_System_with_block e) (b_System_with_block e) e.f_System_with_block.kp l_System_with_block (by exact deep_gd hgd) hr)) ms_nil) (tk_of (takes_of rfl rfl rfl rfl)) (fe_n 0) (fa_cons fe_str (fa_cons (fe_tup (fa_cons (fe_tup (fa_cons fe_str (fa_cons fe_str (fa_cons fe_str fa_nil)))) fa_nil)) fa_nil)))))) (fe_ofV (fv_lst (fa_cons fe_str (fa_cons fe_str fa_nil)))) (nomark _))) (fs_one (fs_ret fe_bl)) fs_nil)
      (fs_cons (fs_if (ft_gc (ft_cmp (op_neD (u64 hr)) neL (fe_lam (k := 14) (Ng := ["_law_call", "e"]) rfl e.m__law_told e.f__law_told (b__law_told e) sc__law_told rfl (.inl rfl) (fun cdv => g__law_told e (by exact deep_gd hgd) (u70 hr) cdv _) e.tb__law_doors_right e.cd__law_doors_right e.tm__law_doors_right e.tu__law_doors_right (hr.mono (by decide)) (LamX.lamS_by (sc := defScope s__law_doors_right) (by decide +kernel)) rfl (by exact deep_gd hgd) (fun A outer s H E f c' hgd hr => ((fe_me (ms := [("System", m_System_with_block)]) (ms_cons (FL.mt e.k_System e.q_System_with_block (dfn (w_System_with_block e) (b_System_with_block e) e.f_System_with_block.kp l_System_with_block (by exact deep_gd hgd) hr)) ms_nil) (tk_of (takes_of rfl rfl rfl rfl)) (fe_n 0) (fa_cons fe_str (fa_cons (fe_tup (fa_cons (fe_tup (fa_cons fe_str (fa_cons fe_str (fa_cons fe_str fa_nil)))) fa_nil)) fa_nil)))))) (fe_ofV (fv_lst (fa_cons fe_str (fa_cons fe_str fa_nil)))) (nomark _))) (fs_one (fs_ret fe_bl)) fs_nil)
      (fs_cons (fs_if (ft_gc (ft_cmp (op_neD (u64 hr)) neL (fe_lam (k := 14) (Ng := ["_law_call", "e"]) rfl e.m__law_told e.f__law_told (b__law_told e) sc__law_told rfl (.inl rfl) (fun cdv => g__law_told e (by exact deep_gd hgd) (u70 hr) cdv _) e.tb__law_doors_right e.cd__law_doors_right e.tm__law_doors_right e.tu__law_doors_right (hr.mono (by decide)) (LamX.lamS_by (sc := defScope s__law_doors_right) (by decide +kernel)) rfl (by exact deep_gd hgd) (fun A outer s H E f c' hgd hr => ((fe_me (ms := [("System", m_System_with_block)]) (ms_cons (FL.mt e.k_System e.q_System_with_block (dfn (w_System_with_block e) (b_System_with_block e) e.f_System_with_block.kp l_System_with_block (by exact deep_gd hgd) hr)) ms_nil) (tk_of (takes_of rfl rfl rfl rfl)) (fe_n 0) (fa_cons fe_str (fa_cons (fe_tup (fa_cons (fe_tup (fa_cons fe_str (fa_cons fe_str (fa_cons fe_str fa_nil)))) fa_nil)) fa_nil)))))) (fe_ofV (fv_lst (fa_cons fe_str (fa_cons fe_str fa_nil)))) (nomark _))) (fs_one (fs_ret fe_bl)) fs_nil)
      (fs_cons (fs_if (ft_gc (ft_cmp (op_neD (u64 hr)) neL (fe_lam (k := 14) (Ng := ["_law_call", "e"]) rfl e.m__law_told e.f__law_told (b__law_told e) sc__law_told rfl (.inl rfl) (fun cdv => g__law_told e (by exact deep_gd hgd) (u70 hr) cdv _) e.tb__law_doors_right e.cd__law_doors_right e.tm__law_doors_right e.tu__law_doors_right (hr.mono (by decide)) (LamX.lamS_by (sc := defScope s__law_doors_right) (by decide +kernel)) rfl (by exact deep_gd hgd) (fun A outer s H E f c' hgd hr => ((fe_me (ms := [("System", m_System_with_block)]) (ms_cons (FL.mt e.k_System e.q_System_with_block (dfn (w_System_with_block e) (b_System_with_block e) e.f_System_with_block.kp l_System_with_block (by exact deep_gd hgd) hr)) ms_nil) (tk_of (takes_of rfl rfl rfl rfl)) (fe_n 0) (fa_cons fe_str (fa_cons (fe_tup (fa_cons (fe_tup (fa_cons fe_str fa_nil)) (fa_cons (fe_tup (fa_cons fe_str (fa_cons fe_int (fa_cons fe_int fa_nil)))) fa_nil))) fa_nil)))))) (fe_ofV (fv_lst (fa_cons fe_str (fa_cons fe_str (fa_cons fe_int fa_nil))))) (nomark _))) (fs_one (fs_ret fe_bl)) fs_nil)
      (fs_cons (fs_if (ft_gc (ft_cmp (op_neD (u64 hr)) neL (fe_lam (k := 14) (Ng := ["_law_call", "e"]) rfl e.m__law_told e.f__law_told (b__law_told e) sc__law_told rfl (.inl rfl) (fun cdv => g__law_told e (by exact deep_gd hgd) (u70 hr) cdv _) e.tb__law_doors_right e.cd__law_doors_right e.tm__law_doors_right e.tu__law_doors_right (hr.mono (by decide)) (LamX.lamS_by (sc := defScope s__law_doors_right) (by decide +kernel)) rfl (by exact deep_gd hgd) (fun A outer s H E f c' hgd hr => ((fe_me (ms := [("System", m_System_with_service)]) (ms_cons (FL.mt e.k_System e.q_System_with_service (dfn (w_System_with_service e) (b_System_with_service e) e.f_System_with_service.kp l_System_with_service (by exact deep_gd hgd) hr)) ms_nil) (tk_of (takes_of rfl rfl rfl rfl)) (fe_n 0) (fa_cons fe_str (fa_cons (fe_tup (fa_cons (fe_tup (fa_cons fe_str (fa_cons fe_str (fa_cons fe_str fa_nil)))) fa_nil)) fa_nil)))))) (fe_ofV (fv_lst (fa_cons fe_str (fa_cons fe_str fa_nil)))) (nomark _))) (fs_one (fs_ret fe_bl)) fs_nil)
      (fs_one (fs_ret (fe_cmp (op_eqD (u64 hr)) eqL (fe_lam (k := 14) (Ng := ["_law_call", "e"]) rfl e.m__law_told e.f__law_told (b__law_told e) sc__law_told rfl (.inl rfl) (fun cdv => g__law_told e (by exact deep_gd hgd) (u70 hr) cdv _) e.tb__law_doors_right e.cd__law_doors_right e.tm__law_doors_right e.tu__law_doors_right (hr.mono (by decide)) (LamX.lamS_by (sc := defScope s__law_doors_right) (by decide +kernel)) rfl (by exact deep_gd hgd) (fun A outer s H E f c' hgd hr => ((fe_me (ms := [("System", m_System_with_service)]) (ms_cons (FL.mt e.k_System e.q_System_with_service (dfn (w_System_with_service e) (b_System_with_service e) e.f_System_with_service.kp l_System_with_service (by exact deep_gd hgd) hr)) ms_nil) (tk_of (takes_of rfl rfl rfl rfl)) (fe_n 0) (fa_cons fe_str (fa_cons (fe_tup fa_nil) fa_nil)))))) (fe_ofV (fv_lst (fa_cons fe_str (fa_cons fe_int fa_nil)))) (nomark _)))))))))))))
noncomputable def m__law_first_bad : Fn := fnB 2 2 ((sSeq (sIf (gcT (tNot (tru (eF (isiF CS TAB) (aC (eV 1) (aC (eC (.glo "Policy")) aN)))))) (sRt (eV 0)) sN)
    (sRt (eIf (tOp2 eqF (eAt "name" [] [("Policy", m_Policy_name)] (eV 1)) (eC (.str "p"))) (eF max2F (aC (eV 0) (aC (eC (.int 1)) aN))) (eC (.int 2))))))
theorem l__law_first_bad : ∀ xs L, xs.length ≠ 2 → m__law_first_bad xs L = .no := fnB_len
theorem b__law_first_bad (e : En P w K mg base ga) : Binds K (fdA K (ga "_law_first_bad")) ["_law_at", "_law_bad"] [] := e.f__law_first_bad.bindsN fun _ _ _ _ _ _ us hl => match us, hl with | [_, _], _ => rfl
theorem w__law_first_bad (e : En P w K mg base ga) : FnM P w K mg base ga 3 (ga "_law_first_bad") (fdA K (ga "_law_first_bad")) ["_law_at", "_law_bad"] m__law_first_bad := by
  exact fn_ok e.f__law_first_bad sc__law_first_bad (fun cdv A outer s H E hgd hr => (fs_cons (fs_if (ft_gc (ft_not (ft_tru (fe_B call_isi (isiL e.kit) rfl e.b_isinstance boot_b_isinstance (fa_cons (fe_n 1) (fa_cons (fe_glo rfl e.m_Policy) fa_nil)))))) (fs_one (fs_ret (fe_n 0))) fs_nil)
      (fs_one (fs_ret (fe_if (ft_cmp (op_eqD (u64 hr)) eqL (fe_at (cs := []) (ps := [("Policy", m_Policy_name)]) (fun C h => by cases h) (ps_cons (prp e.k_Policy e.p_Policy_name (w_Policy_name e) (b_Policy_name e) (by exact deep_gd hgd) hr) ps_nil) (fe_n 1) rfl) fe_str (nomark _)) (fe_B (call_max2 rfl) max2L rfl e.b_max boot_b_max (fa_cons (fe_n 0) (fa_cons fe_int fa_nil))) fe_int)))))
noncomputable def m_System_policies : Fn := fnB 1 1 ((sRt (eF listAF (aC (eAt "own_policies" ["System"] [] (eV 0)) aN))))
theorem l_System_policies : ∀ xs L, xs.length ≠ 1 → m_System_policies xs L = .no := fnB_len
theorem b_System_policies (e : En P w K mg base ga) : Binds K (fdA K (me K ga "System" "policies")) ["self"] [] := e.f_System_policies.bindsN fun _ _ _ _ _ _ us hl => match us, hl with | [_], _ => rfl
theorem w_System_policies (e : En P w K mg base ga) : FnM P w K mg base ga 1 (me K ga "System" "policies") (fdA K (me K ga "System" "policies")) ["self"] m_System_policies := by
  exact fn_ok e.f_System_policies sc_System_policies (fun cdv A outer s H E hgd hr => (fs_one (fs_ret (fe_T (cr_listA rfl) listAL rfl e.b_list boot_t_list (fa_cons (fe_at (cs := ["System"]) (ps := []) (cs_cons e.k_System e.a_System_own_policies cs_nil) ps_nil (fe_n 0) rfl) fa_nil)))))
noncomputable def m__law_lists_right : Fn := fnB 1 6 ((sSeq (sAs (eNew (vC (iR1 (aC (eC (.int 8)) aN)) (gN 2) tY (eOp mulBF (eC (.str "p")) (eOp addF (eV 2) (eC (.int 1)))) [2])) (gN 1))
    (sSeq (sAs (eMk "System" 2 0 m_System_init gP_System_2 (aC (eNew (vC (iA (eV 1)) (gN 4) tY (eMk "Policy" 2 0 m_Policy_init gP_Policy_2 (aC (eV 4) (aC (eC (.int 1)) aN)) aN) [4])) (aC (eNew (vL (aC (eT (aC (eC (.str "a")) (aC (eT aN) aN))) aN))) aN)) aN) (gN 3))
    (sSeq (sIf (gcT (tOp2 neF (eMe "policies" [("System", m_System_policies)] (eV 3) aN) (eV 1))) (sRt (eC (.bl false))) sN)
    (sSeq (sIf (gcT (tOp2 neF (eLam m__law_told (eMk "System" 2 0 m_System_init gP_System_2 (aC (eNew (vC (iA (eOp addF (eV 1) (eNew (vL (aC (eC (.str "q")) aN))))) (gN 4) tY (eMk "Policy" 2 0 m_Policy_init gP_Policy_2 (aC (eV 4) (aC (eC (.int 1)) aN)) aN) [4])) (aC (eC .non) aN)) aN)) (eNew (vL (aC (eC (.str "policies")) (aC (eC .non) aN)))))) (sRt (eC (.bl false))) sN)
    (sSeq (sFor (iV (vL (aC (eC .non) (aC (eC (.int 5)) (aC (eC (.str "pq")) (aC eD0 (aC (eOp addF (eNew (vC (iR1 (aC (eC (.int 8)) aN)) (gN 2) tY (eMk "Policy" 2 0 m_Policy_init gP_Policy_2 (aC (eOp mulBF (eC (.str "p")) (eOp addF (eV 2) (eC (.int 1)))) (aC (eC (.int 1)) aN)) aN) [2])) (eV 0)) aN))))))) (gN 5) (sIf (gcT (tOp2 neF (eLam m__law_told (eMk "System" 2 0 m_System_init gP_System_2 (aC (eV 5) (aC (eC .non) aN)) aN)) (eNew (vL (aC (eC (.str "policies")) (aC (eC .non) aN)))))) (sRt (eC (.bl false))) sN))
    (sSeq (sFor (iV (vL (aC (eC .non) (aC (eC (.int 5)) (aC (eC (.str "ab")) (aC eD0 (aC (eNew (vL aN)) (aC (eT aN) (aC (eNew (vC (iR1 (aC (eC (.int 7)) aN)) (gN 2) tY (eT (aC (eOp addF (eC (.str "x")) (eOp mulBF (eC (.str "y")) (eV 2))) (aC (eT aN) aN))) [2])) aN))))))))) (gN 5) (sIf (gcT (tOp2 neF (eLam m__law_told (eMk "System" 2 0 m_System_init gP_System_2 (aC (eV 0) (aC (eV 5) aN)) aN)) (eNew (vL (aC (eC (.str "services")) (aC (eC .non) aN)))))) (sRt (eC (.bl false))) sN))
    (sRt (eC (.bl true))))))))))
theorem l__law_lists_right : ∀ xs L, xs.length ≠ 1 → m__law_lists_right xs L = .no := fnB_len
theorem b__law_lists_right (e : En P w K mg base ga) : Binds K (fdA K (ga "_law_lists_right")) ["_law_good"] [] := e.f__law_lists_right.bindsN fun _ _ _ _ _ _ us hl => match us, hl with | [_], _ => rfl
theorem w__law_lists_right (e : En P w K mg base ga) : FnM P w K mg base ga 16 (ga "_law_lists_right") (fdA K (ga "_law_lists_right")) ["_law_good"] m__law_lists_right := by
  exact fn_okC e.f__law_lists_right sc__law_lists_right (fun A outer s H E hgd hr => (fs_cons (fs_set (i := 1) sc__law_lists_right.nd rfl (Or.inr rfl) (fe_ofV (fv_lc (ow := [("_law_turn", 2)]) rfl sc__law_lists_right.nd (fi_range1 rfl e.b_range (fa_cons fe_int fa_nil)) (blkOk_by (N := ["_law_good", "_law_names", "_law_turn", "_law_many", "_law_name", "_law_bad"]) (sc := defScope s__law_lists_right) (by decide +kernel)) (fun _ _ _ _ _ => (fgo_name (i := 2) (by decide) sc__law_lists_right.nd rfl (Or.inl rfl) (.inr rfl))) (fun _ _ _ _ _ => fts_nil) (fun _ _ _ _ _ => (fe_op op_mulB mulBL fe_str (fe_op op_addA addL (fe_n 2) fe_int))))))
      (fs_cons (fs_set (i := 3) sc__law_lists_right.nd rfl (Or.inl rfl) (fe_mk (ini e.i_System (w_System_init e) (bf_System_2 e) l_System_init (by exact deep_gd hgd) hr) (tk_of (takes_of rfl rfl rfl rfl)) rfl e.m_System (fa_cons (fe_ofV (fv_lc (ow := [("_law_name", 4)]) rfl sc__law_lists_right.nd (fi_a (fe_n 1)) (blkOk_by (N := ["_law_good", "_law_names", "_law_turn", "_law_many", "_law_name", "_law_bad"]) (sc := defScope s__law_lists_right) (by decide +kernel)) (fun _ _ _ _ _ => (fgo_name (i := 4) (by decide) sc__law_lists_right.nd rfl (Or.inl rfl) (.inr rfl))) (fun _ _ _ _ _ => fts_nil) (fun _ _ _ _ _ => (fe_mk (ini e.i_Policy (w_Policy_init e) (bf_Policy_2 e) l_Policy_init (by exact deep_gd hgd) hr) tk_0 rfl e.m_Policy (fa_cons (fe_n 4) (fa_cons fe_int fa_nil)) fk_nil)))) (fa_cons (fe_ofV (fv_lst (fa_cons (fe_tup (fa_cons fe_str (fa_cons (fe_tup fa_nil) fa_nil))) fa_nil))) fa_nil)) fk_nil))
      (fs_cons (fs_if (ft_gc (ft_cmp (op_neD (u64 hr)) neL (fe_me0 (ms := [("System", m_System_policies)]) (ms_cons (FL.mt e.k_System e.q_System_policies (dfn (w_System_policies e) (b_System_policies e) e.f_System_policies.kp l_System_policies (by exact deep_gd hgd) hr)) ms_nil) (tk_of (takes_of rfl rfl rfl rfl)) (fe_n 3)) (fe_n 1) (nomark _))) (fs_one (fs_ret fe_bl)) fs_nil)
      (fs_cons (fs_if (ft_gc (ft_cmp (op_neD (u64 hr)) neL (fe_lam (k := 13) (Ng := ["_law_call", "e"]) rfl e.m__law_told e.f__law_told (b__law_told e) sc__law_told rfl (.inl rfl) (fun cdv => g__law_told e (by exact deep_gd hgd) (u70 hr) cdv _) e.tb__law_lists_right e.cd__law_lists_right e.tm__law_lists_right e.tu__law_lists_right (hr.mono (by decide)) (LamX.lamS_by (sc := defScope s__law_lists_right) (by decide +kernel)) rfl (by exact deep_gd hgd) (fun A outer s H E f c' hgd hr => ((fe_mk (ini e.i_System (w_System_init e) (bf_System_2 e) l_System_init (by exact deep_gd hgd) hr) (tk_of (takes_of rfl rfl rfl rfl)) rfl e.m_System (fa_cons (fe_ofV (fv_lc (ow := [("_law_name", 4)]) rfl sc__law_lists_right.nd (fi_a (fe_op op_addA addL (fe_n 1) (fe_ofV (fv_lst (fa_cons fe_str fa_nil))))) (by refine blkOk_by (N := ["_law_good", "_law_names", "_law_turn", "_law_many", "_law_name", "_law_bad"]) ?_; kernel_rfl) (fun _ _ _ _ _ => (fgo_name (i := 4) (by decide) sc__law_lists_right.nd rfl (Or.inl rfl) (.inr rfl))) (fun _ _ _ _ _ => fts_nil) (fun _ _ _ _ _ => (fe_mk (ini e.i_Policy (w_Policy_init e) (bf_Policy_2 e) l_Policy_init (by exact deep_gd hgd) hr) tk_0 rfl e.m_Policy (fa_cons (fe_n 4) (fa_cons fe_int fa_nil)) fk_nil)))) (fa_cons fe_non fa_nil)) fk_nil)))) (fe_ofV (fv_lst (fa_cons fe_str (fa_cons fe_non fa_nil)))) (nomark _))) (fs_one (fs_ret fe_bl)) fs_nil)
      (fs_cons (fs_for (passes_of rfl) rfl (fi_v (fv_lst (fa_cons fe_non (fa_cons fe_int (fa_cons fe_str (fa_cons fe_dct0 (fa_cons (fe_op op_addA addL (fe_ofV (fv_lc (ow := [("_law_turn", 2)]) rfl sc__law_lists_right.nd (fi_range1 rfl e.b_range (fa_cons fe_int fa_nil)) (blkOk_by (N := ["_law_good", "_law_names", "_law_turn", "_law_many", "_law_name", "_law_bad"]) (sc := defScope s__law_lists_right) (by decide +kernel)) (fun _ _ _ _ _ => (fgo_name (i := 2) (by decide) sc__law_lists_right.nd rfl (Or.inl rfl) (.inr rfl))) (fun _ _ _ _ _ => fts_nil) (fun _ _ _ _ _ => (fe_mk (ini e.i_Policy (w_Policy_init e) (bf_Policy_2 e) l_Policy_init (by exact deep_gd hgd) hr) tk_0 rfl e.m_Policy (fa_cons (fe_op op_mulB mulBL fe_str (fe_op op_addA addL (fe_n 2) fe_int)) (fa_cons fe_int fa_nil)) fk_nil)))) (fe_n 0)) fa_nil))))))) (fg_name (i := 5) sc__law_lists_right.nd rfl (Or.inr rfl))
        (fs_one (fs_if (ft_gc (ft_cmp (op_neD (u64 hr)) neL (fe_lam (k := 13) (Ng := ["_law_call", "e"]) rfl e.m__law_told e.f__law_told (b__law_told e) sc__law_told rfl (.inl rfl) (fun cdv => g__law_told e (by exact deep_gd hgd) (u70 hr) cdv _) e.tb__law_lists_right e.cd__law_lists_right e.tm__law_lists_right e.tu__law_lists_right (hr.mono (by decide)) (LamX.lamS_by (sc := defScope s__law_lists_right) (by decide +kernel)) rfl (by exact deep_gd hgd) (fun A outer s H E f c' hgd hr => ((fe_mk (ini e.i_System (w_System_init e) (bf_System_2 e) l_System_init (by exact deep_gd hgd) hr) (tk_of (takes_of rfl rfl rfl rfl)) rfl e.m_System (fa_cons (fe_n 5) (fa_cons fe_non fa_nil)) fk_nil)))) (fe_ofV (fv_lst (fa_cons fe_str (fa_cons fe_non fa_nil)))) (nomark _))) (fs_one (fs_ret fe_bl)) fs_nil)))
      (fs_cons (fs_for (passes_of rfl) rfl (fi_v (fv_lst (fa_cons fe_non (fa_cons fe_int (fa_cons fe_str (fa_cons fe_dct0 (fa_cons (fe_ofV (fv_lst fa_nil)) (fa_cons (fe_tup fa_nil) (fa_cons (fe_ofV (fv_lc (ow := [("_law_turn", 2)]) rfl sc__law_lists_right.nd (fi_range1 rfl e.b_range (fa_cons fe_int fa_nil)) (blkOk_by (N := ["_law_good", "_law_names", "_law_turn", "_law_many", "_law_name", "_law_bad"]) (sc := defScope s__law_lists_right) (by decide +kernel)) (fun _ _ _ _ _ => (fgo_name (i := 2) (by decide) sc__law_lists_right.nd rfl (Or.inl rfl) (.inr rfl))) (fun _ _ _ _ _ => fts_nil) (fun _ _ _ _ _ => (fe_tup (fa_cons (fe_op op_addA addL fe_str (fe_op op_mulB mulBL fe_str (fe_n 2))) (fa_cons (fe_tup fa_nil) fa_nil)))))) fa_nil))))))))) (fg_name (i := 5) sc__law_lists_right.nd rfl (Or.inr rfl))
        (fs_one (fs_if (ft_gc (ft_cmp (op_neD (u64 hr)) neL (fe_lam (k := 13) (Ng := ["_law_call", "e"]) rfl e.m__law_told e.f__law_told (b__law_told e) sc__law_told rfl (.inl rfl) (fun cdv => g__law_told e (by exact deep_gd hgd) (u70 hr) cdv _) e.tb__law_lists_right e.cd__law_lists_right e.tm__law_lists_right e.tu__law_lists_right (hr.mono (by decide)) (LamX.lamS_by (sc := defScope s__law_lists_right) (by decide +kernel)) rfl (by exact deep_gd hgd) (fun A outer s H E f c' hgd hr => ((fe_mk (ini e.i_System (w_System_init e) (bf_System_2 e) l_System_init (by exact deep_gd hgd) hr) (tk_of (takes_of rfl rfl rfl rfl)) rfl e.m_System (fa_cons (fe_n 0) (fa_cons (fe_n 5) fa_nil)) fk_nil)))) (fe_ofV (fv_lst (fa_cons fe_str (fa_cons fe_non fa_nil)))) (nomark _))) (fs_one (fs_ret fe_bl)) fs_nil)))
      (fs_one (fs_ret fe_bl)))))))))
noncomputable def m__law_pool : Fn := fnB 2 4 ((sSeq (sAs (eC (.int 0)) (gN 2))
    (sSeq (sIf (gcT (tOp2 ltF (eV 1) (eF lenF (aC (eV 0) aN)))) (sAs (eOp ixF (eV 0) (eV 1)) (gN 2)) sN)
    (sSeq (sAs (eOp modF (eOp powF (eOp addF (eOp addF (eOp modF (eF intF (aC (eV 2) aN)) (eC (.int 2147483629))) (eOp mulBF (eOp mulBF (eC (.int 7919)) (eV 1)) (eV 1))) (eC (.int 31))) (eC (.int 3))) (eC (.int 2147483647))) (gN 3))
    (sSeq (sIf (tOp2 ltF (eV 2) (eOp powF (eC (.int 10)) (eC (.int 18)))) (sAs (eC (.int 0)) (gN 2)) sN)
    (sRt (eNew (vL (aC (eV 2) (aC (eV 3) aN))))))))))
theorem l__law_pool : ∀ xs L, xs.length ≠ 2 → m__law_pool xs L = .no := fnB_len
theorem b__law_pool (e : En P w K mg base ga) : Binds K (fdA K (ga "_law_pool")) ["_law_script", "_law_k"] [] := e.f__law_pool.bindsN fun _ _ _ _ _ _ us hl => match us, hl with | [_, _], _ => rfl
theorem w__law_pool (e : En P w K mg base ga) : FnM P w K mg base ga 1 (ga "_law_pool") (fdA K (ga "_law_pool")) ["_law_script", "_law_k"] m__law_pool := by
  exact fn_ok e.f__law_pool sc__law_pool (fun cdv A outer s H E hgd hr => (fs_cons (fs_set (i := 2) sc__law_pool.nd rfl (Or.inl rfl) fe_int)
      (fs_cons (fs_if (ft_gc (ft_cmp op_lt ltL (fe_n 1) (fe_B cr_lenA lenL rfl e.b_len boot_b_len (fa_cons (fe_n 0) fa_nil)) (nomark _))) (fs_one (fs_set (i := 2) sc__law_pool.nd rfl (Or.inl rfl) (fe_ix (u1 hr) (fe_n 0) (fe_n 1) (fun _ _ => rfl)))) fs_nil)
      (fs_cons (fs_set (i := 3) sc__law_pool.nd rfl (Or.inl rfl) (fe_op op_mod modL (fe_op op_pow powL (fe_op op_addA addL (fe_op op_addA addL (fe_op op_mod modL (fe_T call_int1 intL rfl e.b_int boot_t_int (fa_cons (fe_n 2) fa_nil)) fe_int) (fe_op op_mulB mulBL (fe_op op_mulB mulBL fe_int (fe_n 1)) (fe_n 1))) fe_int) fe_int) fe_int))
      (fs_cons (fs_if (ft_cmp op_lt ltL (fe_n 2) (fe_op op_pow powL fe_int fe_int) (nomark _)) (fs_one (fs_set (i := 2) sc__law_pool.nd rfl (Or.inl rfl) fe_int)) fs_nil)
      (fs_one (fs_ret (fe_ofV (fv_lst (fa_cons (fe_n 2) (fa_cons (fe_n 3) fa_nil)))))))))))
noncomputable def m_law : Fn := fnB 1 9 ((sSeq (sAs (eNew (vL (aC (eMk "Policy" 2 0 m_Policy_init gP_Policy_2 (aC (eC (.str "p")) (aC (eC (.int 3)) aN)) aN) (aC (eMk "Policy" 2 0 m_Policy_init gP_Policy_2 (aC (eC (.str "q")) (aC (eC (.int 4)) aN)) aN) aN)))) (gN 1))
    (sSeq (sAs (eNew (vL (aC (eT (aC (eC (.str "a")) (aC (eT (aC (eT (aC (eC (.str "run")) (aC (eC (.int 1)) (aC (eC (.int 2)) aN)))) aN)) aN))) (aC (eT (aC (eC (.str "b")) (aC (eT (aC (eT (aC (eC (.str "call")) (aC (eC (.str "a")) (aC (eC (.str "p")) aN)))) (aC (eT (aC (eC (.str "want")) (aC (eC (.str "a")) (aC (eC (.str "q")) aN)))) aN))) aN))) aN)))) (gN 2))
    (sSeq (sIf (gcT (tOr (tNot (tru (eF m__law_lists_right (aC (eV 1) aN)))) (tNot (tru (eF m__law_doors_right (aC (eMk "System" 2 0 m_System_init gP_System_2 (aC (eV 1) (aC (eV 2) aN)) aN) aN)))))) (sRt (eC (.bl false))) sN)
    (sSeq (sFor (iR1 (aC (eF max2F (aC (eC (.int 1)) (aC (eF min2F (aC (eF lenF (aC (eV 0) aN)) (aC (eC (.int 6)) aN))) aN))) aN)) (gN 3) (gcS [0, 1, 2] (sSeq (sAs (eF m__law_pool (aC (eV 0) (aC (eV 3) aN))) (gN 4))
    (sSeq (sAs (eF m__law_draw (aC (eV 4) (aC (eC (.int 3)) aN))) (gN 5))
    (sSeq (sAs (eF m__law_choose (aC (eV 4) (aC (eNew (vL (aC (eC .non) (aC (eC (.int 5)) (aC (eC (.str "p")) (aC (eT (aC (eC (.str "p")) (aC (eC (.int 3)) aN))) (aC (eMk "Policy" 2 0 m_Policy_init gP_Policy_2 (aC (eC (.str "p")) (aC (eC (.int 9)) aN)) aN) (aC (eMk "Policy" 2 0 m_Policy_init gP_Policy_2 (aC (eC (.str "q")) (aC (eC (.int 9)) aN)) aN) aN)))))))) aN))) (gN 6))
    (sSeq (sIf (gcT (tOp2 neF (eLam m__law_told (eMk "System" 2 0 m_System_init gP_System_2 (aC (eOp addF (eOp addF (eSl (eV 1) oN (oS (eV 5))) (eNew (vL (aC (eV 6) aN)))) (eSl (eV 1) (oS (eV 5)) oN)) (aC (eC .non) aN)) aN)) (eNew (vL (aC (eC (.str "policies")) (aC (eF m__law_first_bad (aC (eV 5) (aC (eV 6) aN))) aN)))))) (sRt (eC (.bl false))) sN)
    (sSeq (sAs (eF m__law_choose (aC (eV 4) (aC (eNew (vL (aC (eC .non) (aC (eC (.str "a")) (aC (eT (aC (eC (.str "c")) aN)) (aC (eT (aC (eC (.str "C")) (aC (eT aN) aN))) (aC (eNew (vL (aC (eC (.str "c")) (aC (eT aN) aN)))) (aC (eT (aC (eC (.str "c")) (aC (eNew (vL aN)) aN))) (aC (eT (aC (eC (.str "c")) (aC (eT aN) (aC (eT aN) aN)))) (aC (eT (aC (eC (.str "")) (aC (eT aN) aN))) (aC (eT (aC (eC (.int 5)) (aC (eT aN) aN))) aN))))))))))) aN))) (gN 6))
    (sSeq (sIf (gcT (tOp2 neF (eLam m__law_told (eMk "System" 2 0 m_System_init gP_System_2 (aC (eV 1) (aC (eOp addF (eOp addF (eOp addF (eSl (eV 2) oN (oS (eV 5))) (eNew (vL (aC (eV 6) aN)))) (eSl (eV 2) (oS (eV 5)) oN)) (eNew (vL (aC (eV 6) aN)))) aN)) aN)) (eNew (vL (aC (eC (.str "services")) (aC (eV 5) aN)))))) (sRt (eC (.bl false))) sN)
    (sSeq (sIf (gcT (tOp2 neF (eLam m__law_told (eMk "System" 2 0 m_System_init gP_System_2 (aC (eV 1) (aC (eOp addF (eV 2) (eNew (vL (aC (eT (aC (eC (.str "a")) (aC (eC .non) aN))) (aC (eT (aC (eC (.str "b")) (aC (eT aN) aN))) aN))))) aN)) aN)) (eNew (vL (aC (eC (.str "services")) (aC (eC (.int 2)) aN)))))) (sRt (eC (.bl false))) sN)
    (sSeq (sAs (eF m__law_choose (aC (eV 4) (aC (eNew (vL (aC (eC (.str "b")) (aC (eC (.str "c")) (aC (eC (.str "zz")) aN))))) aN))) (gN 7))
    (sSeq (sAs (eT (aC (eT (aC (eC (.str "run")) (aC (eC (.int 1)) (aC (eC (.int 1)) aN)))) (aC (eT (aC (eC (.str "call")) (aC (eV 7) (aC (eC (.str "none")) aN)))) (aC (eT (aC (eC (.str "call")) (aC (eC (.str "none")) (aC (eC (.str "p")) aN)))) aN)))) (gN 8))
    (sSeq (sIf (gcT (tOp2 neF (eLam m__law_told (eMk "System" 2 0 m_System_init gP_System_2 (aC (eV 1) (aC (eNew (vL (aC (eOp ixF (eV 2) (eC (.int 0))) (aC (eT (aC (eC (.str "b")) (aC (eV 8) aN))) (aC (eT (aC (eC (.str "c")) (aC (eT aN) aN))) aN))))) aN)) aN)) (eNew (vL (aC (eC (.str "name")) (aC (eF reprF (aC (eV 7) aN)) aN)))))) (sRt (eC (.bl false))) sN)
    (sSeq (sAs (eT (aC (eT (aC (eC (.str "want")) (aC (eC (.str "a")) (aC (eC (.str "r")) aN)))) (aC (eT (aC (eC (.str "call")) (aC (eC (.str "x")) (aC (eC (.str "p")) aN)))) aN))) (gN 8))
    (sIf (gcT (tOp2 neF (eLam m__law_told (eMk "System" 2 0 m_System_init gP_System_2 (aC (eV 1) (aC (eNew (vL (aC (eOp ixF (eV 2) (eC (.int 0))) (aC (eT (aC (eC (.str "b")) (aC (eV 8) aN))) aN)))) aN)) aN)) (eNew (vL (aC (eC (.str "name")) (aC (eC (.str "'r'")) aN)))))) (sRt (eC (.bl false))) sN))))))))))))))
    (sRt (eC (.bl true))))))))
theorem l_law : ∀ xs L, xs.length ≠ 1 → m_law xs L = .no := fnB_len
theorem b_law (e : En P w K mg base ga) : Binds K (fdA K (ga "law")) ["_law_script"] [] := e.f_law.bindsN fun _ _ _ _ _ _ us hl => match us, hl with | [_], _ => rfl
theorem w_law (e : En P w K mg base ga) : FnM P w K mg base ga 20 (ga "law") (fdA K (ga "law")) ["_law_script"] m_law := by
  exact fn_okC e.f_law sc_law (fun A outer s H E hgd hr => (fs_cons (fs_set (i := 1) sc_law.nd rfl (Or.inr rfl) (fe_ofV (fv_lst (fa_cons (fe_mk (ini e.i_Policy (w_Policy_init e) (bf_Policy_2 e) l_Policy_init (by exact deep_gd hgd) hr) (tk_of (takes_of rfl rfl rfl rfl)) rfl e.m_Policy (fa_cons fe_str (fa_cons fe_int fa_nil)) fk_nil) (fa_cons (fe_mk (ini e.i_Policy (w_Policy_init e) (bf_Policy_2 e) l_Policy_init (by exact deep_gd hgd) hr) (tk_of (takes_of rfl rfl rfl rfl)) rfl e.m_Policy (fa_cons fe_str (fa_cons fe_int fa_nil)) fk_nil) fa_nil)))))
      (fs_cons (fs_set (i := 2) sc_law.nd rfl (Or.inr rfl) (fe_ofV (fv_lst (fa_cons (fe_tup (fa_cons fe_str (fa_cons (fe_tup (fa_cons (fe_tup (fa_cons fe_str (fa_cons fe_int (fa_cons fe_int fa_nil)))) fa_nil)) fa_nil))) (fa_cons (fe_tup (fa_cons fe_str (fa_cons (fe_tup (fa_cons (fe_tup (fa_cons fe_str (fa_cons fe_str (fa_cons fe_str fa_nil)))) (fa_cons (fe_tup (fa_cons fe_str (fa_cons fe_str (fa_cons fe_str fa_nil)))) fa_nil))) fa_nil))) fa_nil)))))
      (fs_cons (fs_if (ft_gc (PW.pt (fw_or (ft_not (ft_tru (fe_call (dfn (w__law_lists_right e) (b__law_lists_right e) e.f__law_lists_right.kp l__law_lists_right (by exact deep_gd hgd) hr) (tk_of (takes_of rfl rfl rfl rfl)) rfl e.m__law_lists_right (fa_cons (fe_n 1) fa_nil)))) (fw_or1 (ft_not (ft_tru (fe_call (dfn (w__law_doors_right e) (b__law_doors_right e) e.f__law_doors_right.kp l__law_doors_right (by exact deep_gd hgd) hr) (tk_of (takes_of rfl rfl rfl rfl)) rfl e.m__law_doors_right (fa_cons (fe_mk (ini e.i_System (w_System_init e) (bf_System_2 e) l_System_init (by exact deep_gd hgd) hr) (tk_of (takes_of rfl rfl rfl rfl)) rfl e.m_System (fa_cons (fe_n 1) (fa_cons (fe_n 2) fa_nil)) fk_nil) fa_nil)))))))) (fs_one (fs_ret fe_bl)) fs_nil)
      (fs_cons (fs_for (passes_of rfl) rfl (fi_range1 rfl e.b_range (fa_cons (fe_B (call_max2 rfl) max2L rfl e.b_max boot_b_max (fa_cons fe_int (fa_cons (fe_B (call_min2 rfl) min2L rfl e.b_min boot_b_min (fa_cons (fe_B cr_lenA lenL rfl e.b_len boot_b_len (fa_cons (fe_n 0) fa_nil)) (fa_cons fe_int fa_nil))) fa_nil))) fa_nil)) (fg_name (i := 3) sc_law.nd rfl (Or.inl rfl))
        (fss_gc [0, 1, 2] (fs_cons (fs_set (i := 4) sc_law.nd rfl (Or.inl rfl) (fe_call (dfn (w__law_pool e) (b__law_pool e) e.f__law_pool.kp l__law_pool (by exact deep_gd hgd) hr) (tk_of (takes_of rfl rfl rfl rfl)) rfl e.m__law_pool (fa_cons (fe_n 0) (fa_cons (fe_n 3) fa_nil))))
      (fs_cons (fs_set (i := 5) sc_law.nd rfl (Or.inr rfl) (fe_call (dfn (w__law_draw e) (b__law_draw e) e.f__law_draw.kp l__law_draw (by exact deep_gd hgd) hr) (tk_of (takes_of rfl rfl rfl rfl)) rfl e.m__law_draw (fa_cons (fe_n 4) (fa_cons fe_int fa_nil))))
      (fs_cons (fs_set (i := 6) sc_law.nd rfl (Or.inr rfl) (fe_call (dfn (w__law_choose e) (b__law_choose e) e.f__law_choose.kp l__law_choose (by exact deep_gd hgd) hr) (tk_of (takes_of rfl rfl rfl rfl)) rfl e.m__law_choose (fa_cons (fe_n 4) (fa_cons (fe_ofV (fv_lst (fa_cons fe_non (fa_cons fe_int (fa_cons fe_str (fa_cons (fe_tup (fa_cons fe_str (fa_cons fe_int fa_nil))) (fa_cons (fe_mk (ini e.i_Policy (w_Policy_init e) (bf_Policy_2 e) l_Policy_init (by exact deep_gd hgd) hr) (tk_of (takes_of rfl rfl rfl rfl)) rfl e.m_Policy (fa_cons fe_str (fa_cons fe_int fa_nil)) fk_nil) (fa_cons (fe_mk (ini e.i_Policy (w_Policy_init e) (bf_Policy_2 e) l_Policy_init (by exact deep_gd hgd) hr) (tk_of (takes_of rfl rfl rfl rfl)) rfl e.m_Policy (fa_cons fe_str (fa_cons fe_int fa_nil)) fk_nil) fa_nil)))))))) fa_nil))))
      (fs_cons (fs_if (ft_gc (ft_cmp (op_neD (u64 hr)) neL (fe_lam (k := 17) (Ng := ["_law_call", "e"]) rfl e.m__law_told e.f__law_told (b__law_told e) sc__law_told rfl (.inl rfl) (fun cdv => g__law_told e (by exact deep_gd hgd) (u70 hr) cdv _) e.tb_law e.cd_law e.tm_law e.tu_law (hr.mono (by decide)) (LamX.lamS_by (sc := defScope s_law) (by decide +kernel)) rfl (by exact deep_gd hgd) (fun A outer s H E f c' hgd hr => ((fe_mk (ini e.i_System (w_System_init e) (bf_System_2 e) l_System_init (by exact deep_gd hgd) hr) (tk_of (takes_of rfl rfl rfl rfl)) rfl e.m_System (fa_cons (fe_op op_addA addL (fe_op op_addA addL (fe_sl (fe_n 1) fo_none (fo_some (fe_n 5))) (fe_ofV (fv_lst (fa_cons (fe_n 6) fa_nil)))) (fe_sl (fe_n 1) (fo_some (fe_n 5)) fo_none)) (fa_cons fe_non fa_nil)) fk_nil)))) (fe_ofV (fv_lst (fa_cons fe_str (fa_cons (fe_call (dfn (w__law_first_bad e) (b__law_first_bad e) e.f__law_first_bad.kp l__law_first_bad (by exact deep_gd hgd) hr) (tk_of (takes_of rfl rfl rfl rfl)) rfl e.m__law_first_bad (fa_cons (fe_n 5) (fa_cons (fe_n 6) fa_nil))) fa_nil)))) (nomark _))) (fs_one (fs_ret fe_bl)) fs_nil)
      (fs_cons (fs_set (i := 6) sc_law.nd rfl (Or.inr rfl) (fe_call (dfn (w__law_choose e) (b__law_choose e) e.f__law_choose.kp l__law_choose (by exact deep_gd hgd) hr) (tk_of (takes_of rfl rfl rfl rfl)) rfl e.m__law_choose (fa_cons (fe_n 4) (fa_cons (fe_ofV (fv_lst (fa_cons fe_non (fa_cons fe_str (fa_cons (fe_tup (fa_cons fe_str fa_nil)) (fa_cons (fe_tup (fa_cons fe_str (fa_cons (fe_tup fa_nil) fa_nil))) (fa_cons (fe_ofV (fv_lst (fa_cons fe_str (fa_cons (fe_tup fa_nil) fa_nil)))) (fa_cons (fe_tup (fa_cons fe_str (fa_cons (fe_ofV (fv_lst fa_nil)) fa_nil))) (fa_cons (fe_tup (fa_cons fe_str (fa_cons (fe_tup fa_nil) (fa_cons (fe_tup fa_nil) fa_nil)))) (fa_cons (fe_tup (fa_cons fe_str (fa_cons (fe_tup fa_nil) fa_nil))) (fa_cons (fe_tup (fa_cons fe_int (fa_cons (fe_tup fa_nil) fa_nil))) fa_nil))))))))))) fa_nil))))
      (fs_cons (fs_if (ft_gc (ft_cmp (op_neD (u64 hr)) neL (fe_lam (k := 17) (Ng := ["_law_call", "e"]) rfl e.m__law_told e.f__law_told (b__law_told e) sc__law_told rfl (.inl rfl) (fun cdv => g__law_told e (by exact deep_gd hgd) (u70 hr) cdv _) e.tb_law e.cd_law e.tm_law e.tu_law (hr.mono (by decide)) (LamX.lamS_by (sc := defScope s_law) (by decide +kernel)) rfl (by exact deep_gd hgd) (fun A outer s H E f c' hgd hr => ((fe_mk (ini e.i_System (w_System_init e) (bf_System_2 e) l_System_init (by exact deep_gd hgd) hr) (tk_of (takes_of rfl rfl rfl rfl)) rfl e.m_System (fa_cons (fe_n 1) (fa_cons (fe_op op_addA addL (fe_op op_addA addL (fe_op op_addA addL (fe_sl (fe_n 2) fo_none (fo_some (fe_n 5))) (fe_ofV (fv_lst (fa_cons (fe_n 6) fa_nil)))) (fe_sl (fe_n 2) (fo_some (fe_n 5)) fo_none)) (fe_ofV (fv_lst (fa_cons (fe_n 6) fa_nil)))) fa_nil)) fk_nil)))) (fe_ofV (fv_lst (fa_cons fe_str (fa_cons (fe_n 5) fa_nil)))) (nomark _))) (fs_one (fs_ret fe_bl)) fs_nil)
      (fs_cons (fs_if (ft_gc (ft_cmp (op_neD (u64 hr)) neL (fe_lam (k := 17) (Ng := ["_law_call", "e"]) rfl e.m__law_told e.f__law_told (b__law_told e) sc__law_told rfl (.inl rfl) (fun cdv => g__law_told e (by exact deep_gd hgd) (u70 hr) cdv _) e.tb_law e.cd_law e.tm_law e.tu_law (hr.mono (by decide)) (LamX.lamS_by (sc := defScope s_law) (by decide +kernel)) rfl (by exact deep_gd hgd) (fun A outer s H E f c' hgd hr => ((fe_mk (ini e.i_System (w_System_init e) (bf_System_2 e) l_System_init (by exact deep_gd hgd) hr) (tk_of (takes_of rfl rfl rfl rfl)) rfl e.m_System (fa_cons (fe_n 1) (fa_cons (fe_op op_addA addL (fe_n 2) (fe_ofV (fv_lst (fa_cons (fe_tup (fa_cons fe_str (fa_cons fe_non fa_nil))) (fa_cons (fe_tup (fa_cons fe_str (fa_cons (fe_tup fa_nil) fa_nil))) fa_nil))))) fa_nil)) fk_nil)))) (fe_ofV (fv_lst (fa_cons fe_str (fa_cons fe_int fa_nil)))) (nomark _))) (fs_one (fs_ret fe_bl)) fs_nil)
      (fs_cons (fs_set (i := 7) sc_law.nd rfl (Or.inl rfl) (fe_call (dfn (w__law_choose e) (b__law_choose e) e.f__law_choose.kp l__law_choose (by exact deep_gd hgd) hr) (tk_of (takes_of rfl rfl rfl rfl)) rfl e.m__law_choose (fa_cons (fe_n 4) (fa_cons (fe_ofV (fv_lst (fa_cons fe_str (fa_cons fe_str (fa_cons fe_str fa_nil))))) fa_nil))))
      (fs_cons (fs_set (i := 8) sc_law.nd rfl (Or.inr rfl) (fe_tup (fa_cons (fe_tup (fa_cons fe_str (fa_cons fe_int (fa_cons fe_int fa_nil)))) (fa_cons (fe_tup (fa_cons fe_str (fa_cons (fe_n 7) (fa_cons fe_str fa_nil)))) (fa_cons (fe_tup (fa_cons fe_str (fa_cons fe_str (fa_cons fe_str fa_nil)))) fa_nil)))))
      (fs_cons (fs_if (ft_gc (ft_cmp (op_neD (u64 hr)) neL (fe_lam (k := 17) (Ng := ["_law_call", "e"]) rfl e.m__law_told e.f__law_told (b__law_told e) sc__law_told rfl (.inl rfl) (fun cdv => g__law_told e (by exact deep_gd hgd) (u70 hr) cdv _) e.tb_law e.cd_law e.tm_law e.tu_law (hr.mono (by decide)) (LamX.lamS_by (sc := defScope s_law) (by decide +kernel)) rfl (by exact deep_gd hgd) (fun A outer s H E f c' hgd hr => ((fe_mk (ini e.i_System (w_System_init e) (bf_System_2 e) l_System_init (by exact deep_gd hgd) hr) (tk_of (takes_of rfl rfl rfl rfl)) rfl e.m_System (fa_cons (fe_n 1) (fa_cons (fe_ofV (fv_lst (fa_cons (fe_ix (u1 hr) (fe_n 2) fe_int (fun _ _ => rfl)) (fa_cons (fe_tup (fa_cons fe_str (fa_cons (fe_n 8) fa_nil))) (fa_cons (fe_tup (fa_cons fe_str (fa_cons (fe_tup fa_nil) fa_nil))) fa_nil))))) fa_nil)) fk_nil)))) (fe_ofV (fv_lst (fa_cons fe_str (fa_cons (fe_B (call_repr (by exact deep_gd hgd) (u64 hr)) reprL rfl e.b_repr boot_b_repr (fa_cons (fe_n 7) fa_nil)) fa_nil)))) (nomark _))) (fs_one (fs_ret fe_bl)) fs_nil)
      (fs_cons (fs_set (i := 8) sc_law.nd rfl (Or.inr rfl) (fe_tup (fa_cons (fe_tup (fa_cons fe_str (fa_cons fe_str (fa_cons fe_str fa_nil)))) (fa_cons (fe_tup (fa_cons fe_str (fa_cons fe_str (fa_cons fe_str fa_nil)))) fa_nil))))
      (fs_one (fs_if (ft_gc (ft_cmp (op_neD (u64 hr)) neL (fe_lam (k := 17) (Ng := ["_law_call", "e"]) rfl e.m__law_told e.f__law_told (b__law_told e) sc__law_told rfl (.inl rfl) (fun cdv => g__law_told e (by exact deep_gd hgd) (u70 hr) cdv _) e.tb_law e.cd_law e.tm_law e.tu_law (hr.mono (by decide)) (LamX.lamS_by (sc := defScope s_law) (by decide +kernel)) rfl (by exact deep_gd hgd) (fun A outer s H E f c' hgd hr => ((fe_mk (ini e.i_System (w_System_init e) (bf_System_2 e) l_System_init (by exact deep_gd hgd) hr) (tk_of (takes_of rfl rfl rfl rfl)) rfl e.m_System (fa_cons (fe_n 1) (fa_cons (fe_ofV (fv_lst (fa_cons (fe_ix (u1 hr) (fe_n 2) fe_int (fun _ _ => rfl)) (fa_cons (fe_tup (fa_cons fe_str (fa_cons (fe_n 8) fa_nil))) fa_nil)))) fa_nil)) fk_nil)))) (fe_ofV (fv_lst (fa_cons fe_str (fa_cons fe_str fa_nil)))) (nomark _))) (fs_one (fs_ret fe_bl)) fs_nil)))))))))))))))
      (fs_one (fs_ret fe_bl)))))))
end
noncomputable def a_0 : MS := (sAs (eNew (vL (aC (eMk "Policy" 2 0 m_Policy_init gP_Policy_2 (aC (eC (.str "p")) (aC (eC (.int 3)) aN)) aN) (aC (eMk "Policy" 2 0 m_Policy_init gP_Policy_2 (aC (eC (.str "q")) (aC (eC (.int 4)) aN)) aN) aN)))) (gN 1))
noncomputable def a_1 : MS := (sAs (eNew (vL (aC (eT (aC (eC (.str "a")) (aC (eT (aC (eT (aC (eC (.str "run")) (aC (eC (.int 1)) (aC (eC (.int 2)) aN)))) aN)) aN))) (aC (eT (aC (eC (.str "b")) (aC (eT (aC (eT (aC (eC (.str "call")) (aC (eC (.str "a")) (aC (eC (.str "p")) aN)))) (aC (eT (aC (eC (.str "want")) (aC (eC (.str "a")) (aC (eC (.str "q")) aN)))) aN))) aN))) aN)))) (gN 2))
noncomputable def a_2 : MS := (sIf (gcT (tOr (tNot (tru (eF m__law_lists_right (aC (eV 1) aN)))) (tNot (tru (eF m__law_doors_right (aC (eMk "System" 2 0 m_System_init gP_System_2 (aC (eV 1) (aC (eV 2) aN)) aN) aN)))))) (sRt (eC (.bl false))) sN)
noncomputable def b_0 : MS := (sAs (eF m__law_pool (aC (eV 0) (aC (eV 3) aN))) (gN 4))
noncomputable def b_1 : MS := (sAs (eF m__law_draw (aC (eV 4) (aC (eC (.int 3)) aN))) (gN 5))
noncomputable def b_2 : MS := (sAs (eF m__law_choose (aC (eV 4) (aC (eNew (vL (aC (eC .non) (aC (eC (.int 5)) (aC (eC (.str "p")) (aC (eT (aC (eC (.str "p")) (aC (eC (.int 3)) aN))) (aC (eMk "Policy" 2 0 m_Policy_init gP_Policy_2 (aC (eC (.str "p")) (aC (eC (.int 9)) aN)) aN) (aC (eMk "Policy" 2 0 m_Policy_init gP_Policy_2 (aC (eC (.str "q")) (aC (eC (.int 9)) aN)) aN) aN)))))))) aN))) (gN 6))
noncomputable def b_3 : MS := (sIf (gcT (tOp2 neF (eLam m__law_told (eMk "System" 2 0 m_System_init gP_System_2 (aC (eOp addF (eOp addF (eSl (eV 1) oN (oS (eV 5))) (eNew (vL (aC (eV 6) aN)))) (eSl (eV 1) (oS (eV 5)) oN)) (aC (eC .non) aN)) aN)) (eNew (vL (aC (eC (.str "policies")) (aC (eF m__law_first_bad (aC (eV 5) (aC (eV 6) aN))) aN)))))) (sRt (eC (.bl false))) sN)
noncomputable def b_4 : MS := (sAs (eF m__law_choose (aC (eV 4) (aC (eNew (vL (aC (eC .non) (aC (eC (.str "a")) (aC (eT (aC (eC (.str "c")) aN)) (aC (eT (aC (eC (.str "C")) (aC (eT aN) aN))) (aC (eNew (vL (aC (eC (.str "c")) (aC (eT aN) aN)))) (aC (eT (aC (eC (.str "c")) (aC (eNew (vL aN)) aN))) (aC (eT (aC (eC (.str "c")) (aC (eT aN) (aC (eT aN) aN)))) (aC (eT (aC (eC (.str "")) (aC (eT aN) aN))) (aC (eT (aC (eC (.int 5)) (aC (eT aN) aN))) aN))))))))))) aN))) (gN 6))
noncomputable def b_5 : MS := (sIf (gcT (tOp2 neF (eLam m__law_told (eMk "System" 2 0 m_System_init gP_System_2 (aC (eV 1) (aC (eOp addF (eOp addF (eOp addF (eSl (eV 2) oN (oS (eV 5))) (eNew (vL (aC (eV 6) aN)))) (eSl (eV 2) (oS (eV 5)) oN)) (eNew (vL (aC (eV 6) aN)))) aN)) aN)) (eNew (vL (aC (eC (.str "services")) (aC (eV 5) aN)))))) (sRt (eC (.bl false))) sN)
noncomputable def b_6 : MS := (sIf (gcT (tOp2 neF (eLam m__law_told (eMk "System" 2 0 m_System_init gP_System_2 (aC (eV 1) (aC (eOp addF (eV 2) (eNew (vL (aC (eT (aC (eC (.str "a")) (aC (eC .non) aN))) (aC (eT (aC (eC (.str "b")) (aC (eT aN) aN))) aN))))) aN)) aN)) (eNew (vL (aC (eC (.str "services")) (aC (eC (.int 2)) aN)))))) (sRt (eC (.bl false))) sN)
noncomputable def b_7 : MS := (sAs (eF m__law_choose (aC (eV 4) (aC (eNew (vL (aC (eC (.str "b")) (aC (eC (.str "c")) (aC (eC (.str "zz")) aN))))) aN))) (gN 7))
noncomputable def b_8 : MS := (sAs (eT (aC (eT (aC (eC (.str "run")) (aC (eC (.int 1)) (aC (eC (.int 1)) aN)))) (aC (eT (aC (eC (.str "call")) (aC (eV 7) (aC (eC (.str "none")) aN)))) (aC (eT (aC (eC (.str "call")) (aC (eC (.str "none")) (aC (eC (.str "p")) aN)))) aN)))) (gN 8))
noncomputable def b_9 : MS := (sIf (gcT (tOp2 neF (eLam m__law_told (eMk "System" 2 0 m_System_init gP_System_2 (aC (eV 1) (aC (eNew (vL (aC (eOp ixF (eV 2) (eC (.int 0))) (aC (eT (aC (eC (.str "b")) (aC (eV 8) aN))) (aC (eT (aC (eC (.str "c")) (aC (eT aN) aN))) aN))))) aN)) aN)) (eNew (vL (aC (eC (.str "name")) (aC (eF reprF (aC (eV 7) aN)) aN)))))) (sRt (eC (.bl false))) sN)
noncomputable def b_10 : MS := (sAs (eT (aC (eT (aC (eC (.str "want")) (aC (eC (.str "a")) (aC (eC (.str "r")) aN)))) (aC (eT (aC (eC (.str "call")) (aC (eC (.str "x")) (aC (eC (.str "p")) aN)))) aN))) (gN 8))
noncomputable def b_11 : MS := (sIf (gcT (tOp2 neF (eLam m__law_told (eMk "System" 2 0 m_System_init gP_System_2 (aC (eV 1) (aC (eNew (vL (aC (eOp ixF (eV 2) (eC (.int 0))) (aC (eT (aC (eC (.str "b")) (aC (eV 8) aN))) aN)))) aN)) aN)) (eNew (vL (aC (eC (.str "name")) (aC (eC (.str "'r'")) aN)))))) (sRt (eC (.bl false))) sN)
noncomputable def bodyL : MS := (sSeq b_0 (sSeq b_1 (sSeq b_2 (sSeq b_3 (sSeq b_4 (sSeq b_5 (sSeq b_6 (sSeq b_7 (sSeq b_8 (sSeq b_9 (sSeq b_10 b_11)))))))))))
noncomputable def bodyG : MS := gcS [0, 1, 2] bodyL
noncomputable def a_3 : MS := sFor (iR1 (aC (eF max2F (aC (eC (.int 1)) (aC (eF min2F (aC (eF lenF (aC (eV 0) aN)) (aC (eC (.int 6)) aN))) aN))) aN)) (gN 3) bodyG
noncomputable def a_4 : MS := (sRt (eC (.bl true)))
theorem m_law_eq : m_law = fnB 1 9 (sSeq a_0 (sSeq a_1 (sSeq a_2 (sSeq a_3 a_4)))) := rfl
end K06
namespace K06
open PySem PySem.Spec PyProof.Rows L2 FL
theorem log_le {n : Nat} (h : n < 2 ^ 100) : n.log2 < 200 := by
  by_cases h0 : n = 0
  · subst h0; decide
  · exact Nat.lt_of_lt_of_le ((Nat.log2_lt h0).mpr h) (by decide)
/-- the draws' state -/
structure Pl (s : Int) : Prop where
  lo : 0 ≤ s
  hi : s < 2147483648
theorem mul_int {i j : Int} {L : LH} (h1 : i.natAbs < 2 ^ 100) (h2 : j.natAbs < 2 ^ 100) : mulBF (.int i) (.int j) L = .ok (.int (i * j)) L := by
  show (if i.natAbs.log2 + j.natAbs.log2 < 1000000 then R.ok (PV.int (i * j)) L else .no) = _
  rw [if_pos (by have := log_le h1; have := log_le h2; omega)]
theorem draw_ok {L : LH} {p : Nat} {c s m : Int} (hp : L[p]? = some (.lst [.int c, .int s])) (h : Pl s) (m0 : 0 < m) (m1 : m < 1000) :
    ∃ d c' s' : Int, 0 ≤ d ∧ d < m ∧ Pl s' ∧ m__law_draw [.obj p, .int m] L = .ok (.int d) (L.set p (.lst [.int c', .int s'])) := by
  obtain ⟨s0, s1⟩ := h
  have hpl : p < L.length := (List.getElem?_eq_some_iff.mp hp).1
  have lm : m.natAbs.log2 < 9000 := Nat.lt_trans (log_le (by omega)) (by decide)
  have hm : ∀ (x : Int) (L : LH), modF (.int x) (.int m) L = .ok (.int (x % m)) L := fun x L => if_pos m0
  by_cases hc : 0 < c
  · refine ⟨c % m, c / m, s, Int.emod_nonneg _ (by omega), Int.emod_lt_of_pos _ m0, ⟨s0, s1⟩, ?_⟩
    exact x_fn rfl (x_seq_rt (x_if (x_t (x_op (x_op (x_v rfl) x_c (x_ix hp rfl)) x_c rfl)) ((if_pos (decide_eq_true hc)).trans
      (x_seq (x_as (x_op (x_f (x_a (x_op (x_v rfl) x_c (x_ix hp rfl)) x_n) rfl) (x_v rfl) (hm _ _)) rfl)
        (x_seq (x_as (x_op (x_op (x_v rfl) x_c (x_ix hp rfl)) (x_v rfl) (if_pos ⟨m0, lm⟩)) (x_set (x_v rfl) x_c hp rfl)) (x_rt (x_v rfl)))))))
  · have e1 : ∀ (x y : Int) (L : LH), 0 < y → modF (.int x) (.int y) L = .ok (.int (x % y)) L := fun x y L h => if_pos h
    have t0 := Int.emod_nonneg (s * 48271 + 11) (show (2147483647 : Int) ≠ 0 by decide)
    have t1 := Int.emod_lt_of_pos (s * 48271 + 11) (show (0 : Int) < 2147483647 by decide)
    generalize ht : (s * 48271 + 11) % 2147483647 = t at t0 t1
    have hq : (L.set p (.lst [.int c, .int t]))[p]? = some (.lst [.int c, .int t]) := List.getElem?_set_self hpl
    have f64 : ∀ (x : Int) (L : LH), fdivF (.int x) (.int 64) L = .ok (.int (x / 64)) L := fun x L => by
      show (if (0 : Int) < 64 ∧ (64 : Int).natAbs.log2 < 9000 then R.ok (PV.int (x / 64)) L else .no) = _
      rw [if_pos (by decide +kernel)]
    refine ⟨(t * t) % 2147483629 / 64 % m, c, t, Int.emod_nonneg _ (by omega), Int.emod_lt_of_pos _ m0, ⟨t0, by omega⟩, ?_⟩
    refine x_fn rfl (x_seq (x_if (x_t (x_op (x_op (x_v rfl) x_c (x_ix hp rfl)) x_c rfl)) ((if_neg fun z => hc (of_decide_eq_true z)).trans rfl)) ?_)
    refine x_seq (x_as (x := .int t) (x_op (x_f (x_a (x_op (x_op (x_op (x_v rfl) x_c (x_ix hp rfl)) x_c (mul_int (by omega) (by decide))) x_c rfl) x_n) rfl) x_c ((e1 _ _ _ (by decide)).trans (by rw [ht]))) (x_set (x_v rfl) x_c hp rfl)) ?_
    exact x_rt (x_op (x_op (x_op (x_f (x_a (x_op (x_op (x_v rfl) x_c (x_ix hq rfl)) (x_op (x_v rfl) x_c (x_ix hq rfl)) (mul_int (by omega) (by omega))) x_n) rfl) x_c (e1 _ _ _ (by decide))) x_c (f64 _ _)) (x_v rfl) (hm _ _))
theorem choose_ok {L : LH} {p l : Nat} {c s : Int} {xs : List PV} (hp : L[p]? = some (.lst [.int c, .int s])) (hl : L[l]? = some (.lst xs)) (hne : p ≠ l) (h : Pl s) (h0 : 0 < xs.length) (h1 : xs.length < 1000) :
    ∃ (d : Nat) (v : PV) (c' s' : Int), xs[d]? = some v ∧ Pl s' ∧ m__law_choose [.obj p, .obj l] L = .ok v (L.set p (.lst [.int c', .int s'])) := by
  obtain ⟨d, c', s', d0, d1, hs, e⟩ := draw_ok (m := xs.length) hp h (by omega) (by omega)
  have hd : d.toNat < xs.length := by omega
  refine ⟨d.toNat, xs[d.toNat], c', s', List.getElem?_eq_getElem hd, hs, ?_⟩
  have hl' : (L.set p (.lst [.int c', .int s']))[l]? = some (.lst xs) := by rw [List.getElem?_set_ne hne]; exact hl
  have lenE : lenF [.obj l] L = .ok (.int xs.length) L := by
    unfold lenF
    simp only [hl]
  refine x_fn rfl (x_rt (x_op (x_v rfl) (x_f (x_a (x_v rfl) (x_a (x_f (x_a (x_v rfl) x_n) lenE) x_n)) e) (x_ix hl' ?_)))
  unfold atI ixN
  rw [if_pos d0, if_pos (by omega)]
  exact List.getElem?_eq_getElem hd
theorem pool_ok {ns : List Int} {k : Nat} {L : LH} (hk : k < 100) (hr : refH L.length L = true) :
    ∃ c s : Int, Pl s ∧ m__law_pool [.rol (ns.map .int), .int k] L = .ok (.obj L.length) (L ++ [.lst [.int c, .int s]]) := by
  have e1 : ∀ (x y : Int) (L : LH), 0 < y → modF (.int x) (.int y) L = .ok (.int (x % y)) L := fun x y L h => if_pos h
  have tk : L.take L.length = L := List.take_length
  -- the cell
  have cell : ∃ c : Int, sIf (gcT (tOp2 ltF (eV 1) (eF lenF (aC (eV 0) aN)))) (sAs (eOp ixF (eV 0) (eV 1)) (gN 2)) sN [some (.rol (ns.map .int)), some (.int k), some (.int 0), none] L = .nx [some (.rol (ns.map .int)), some (.int k), some (.int c), none] L := by
    have lenE : lenF [.rol (ns.map .int)] L = .ok (.int ns.length) L := by
      unfold lenF
      simp
    have ct : gcT (tOp2 ltF (eV 1) (eF lenF (aC (eV 0) aN))) [some (.rol (ns.map .int)), some (.int k), some (.int 0), none] L = .ok (decide ((k : Int) < (ns.length : Int))) L :=
      x_gcT (x_t (x_op (x_v rfl) (x_f (x_a (x_v rfl) x_n) lenE) rfl)) tk hr (Nat.le_refl _)
    by_cases h : k < ns.length
    · refine ⟨ns[k], x_if ct ((if_pos (decide_eq_true (by omega))).trans (x_as (x_op (x_v rfl) (x_v rfl) (x_ixr ?_)) rfl))⟩
      unfold atI ixN
      rw [if_pos (by omega), if_pos (by rw [List.length_map]; omega)]
      simp [h]
    · exact ⟨0, x_if ct ((if_neg fun z => h (by have := of_decide_eq_true z; omega)).trans rfl)⟩
  obtain ⟨c, hc⟩ := cell
  have u0 := Int.emod_nonneg c (show (2147483629 : Int) ≠ 0 by decide)
  have u1 := Int.emod_lt_of_pos c (show (0 : Int) < 2147483629 by decide)
  have kk : (k : Int) * k ≤ 10000 := by
    have : k * k ≤ 100 * 100 := Nat.mul_le_mul (by omega) (by omega)
    exact_mod_cast this
  have kk0 : 0 ≤ (k : Int) * k := by exact_mod_cast Nat.zero_le (k * k)
  have t0 := Int.emod_nonneg ((c % 2147483629 + 7919 * k * k + 31) ^ 3) (show (2147483647 : Int) ≠ 0 by decide)
  have t1 := Int.emod_lt_of_pos ((c % 2147483629 + 7919 * k * k + 31) ^ 3) (show (0 : Int) < 2147483647 by decide)
  have eb : (7919 : Int) * k * k = 7919 * ((k : Int) * k) := by rw [Int.mul_assoc]
  have pw : ∀ L : LH, powF (.int (c % 2147483629 + 7919 * k * k + 31)) (.int 3) L = .ok (.int ((c % 2147483629 + 7919 * k * k + 31) ^ 3)) L := fun L => if_pos ⟨by decide, by decide, by rw [eb]; omega⟩
  have p18 : ∀ L : LH, powF (.int 10) (.int 18) L = .ok (.int 1000000000000000000) L := fun L => by
    show (if (0 : Int) ≤ 18 ∧ (18 : Int) ≤ 1000000 ∧ (10 : Int).natAbs < 2 ^ 64 then R.ok (PV.int (10 ^ (18 : Int).toNat)) L else .no) = _
    rw [if_pos (by decide)]
    rfl
  generalize hs : (c % 2147483629 + 7919 * k * k + 31) ^ 3 % 2147483647 = s at t0 t1
  refine ⟨if c < 1000000000000000000 then 0 else c, s, ⟨t0, by omega⟩, ?_⟩
  refine x_fn rfl (x_seq (x_as x_c rfl) (x_seq hc (x_seq (x_as (x := .int s) (x_op (x_op (x_op (x_op (x_op (x_f (x_a (x_v rfl) x_n) rfl) x_c (e1 _ _ _ (by decide))) (x_op (x_op x_c (x_v rfl) (mul_int (by decide) (by omega))) (x_v rfl) (mul_int (by omega) (by omega))) rfl) x_c rfl) x_c (pw _)) x_c ((e1 _ _ _ (by decide)).trans (by rw [hs]))) rfl) ?_)))
  by_cases hz : c < 1000000000000000000
  · rw [if_pos hz]
    exact x_seq (x_if (x_t (x_op (x_v rfl) (x_op x_c x_c (p18 _)) rfl)) ((if_pos (decide_eq_true hz)).trans (x_as x_c rfl))) rfl
  · rw [if_neg hz]
    exact x_seq (x_if (x_t (x_op (x_v rfl) (x_op x_c x_c (p18 _)) rfl)) ((if_neg fun z => hz (of_decide_eq_true z)).trans rfl)) rfl
end K06
namespace K06
open PySem PySem.Spec PyProof.Rows L2 FL
def pol (n : Str) (k : Int) : LO := .ins "Policy" [("own_name", .str n), ("own_limit", .int k), ("own_tries", .int 1), ("own_pauses", .tup []), ("own_early", .non), ("own_lossy", .bl false), ("own_ending", .tup [.str "go"])]
def bA : PV := .tup [.tup [.str "run", .int 1, .int 2]]
def bB : PV := .tup [.tup [.str "call", .str "a", .str "p"], .tup [.str "want", .str "a", .str "q"]]
def Lb : LH := [pol "p" 3, pol "q" 4, .lst [.obj 0, .obj 1], .lst [.tup [.str "a", bA], .tup [.str "b", bB]]]
theorem a0 (xs : List PV) : a_0 [some (.rol xs), none, none, none, none, none, none, none, none] [] = .nx [some (.rol xs), some (.obj 2), none, none, none, none, none, none, none] [pol "p" 3, pol "q" 4, .lst [.obj 0, .obj 1]] := by kernel_rfl
theorem a1 (xs : List PV) : a_1 [some (.rol xs), some (.obj 2), none, none, none, none, none, none, none] [pol "p" 3, pol "q" 4, .lst [.obj 0, .obj 1]] = .nx [some (.rol xs), some (.obj 2), some (.obj 3), none, none, none, none, none, none] Lb := by kernel_rfl
theorem a2 (xs : List PV) : a_2 [some (.rol xs), some (.obj 2), some (.obj 3), none, none, none, none, none, none] Lb = .nx [some (.rol xs), some (.obj 2), some (.obj 3), none, none, none, none, none, none] Lb := by kernel_rfl
def H1 (c s : Int) : LH := [pol "p" 3, pol "q" 4, .lst [.obj 0, .obj 1], .lst [.tup [.str "a", bA], .tup [.str "b", bB]], .lst [.int c, .int s]]
def H2 (c s : Int) : LH := [pol "p" 3, pol "q" 4, .lst [.obj 0, .obj 1], .lst [.tup [.str "a", bA], .tup [.str "b", bB]], .lst [.int c, .int s], pol "p" 9, pol "q" 9, .lst [.non, .int 5, .str "p", .tup [.str "p", .int 3], .obj 5, .obj 6]]
def H3 (c s : Int) : LH := [pol "p" 3, pol "q" 4, .lst [.obj 0, .obj 1], .lst [.tup [.str "a", bA], .tup [.str "b", bB]], .lst [.int c, .int s], pol "p" 9, pol "q" 9, .lst [.non, .int 5, .str "p", .tup [.str "p", .int 3], .obj 5, .obj 6], .lst [.str "c", .tup []], .lst [], .lst [.non, .str "a", .tup [.str "c"], .tup [.str "C", .tup []], .obj 8, .tup [.str "c", .obj 9], .tup [.str "c", .tup [], .tup []], .tup [.str "", .tup []], .tup [.int 5, .tup []]]]
def H4 (c s : Int) : LH := [pol "p" 3, pol "q" 4, .lst [.obj 0, .obj 1], .lst [.tup [.str "a", bA], .tup [.str "b", bB]], .lst [.int c, .int s], pol "p" 9, pol "q" 9, .lst [.non, .int 5, .str "p", .tup [.str "p", .int 3], .obj 5, .obj 6], .lst [.str "c", .tup []], .lst [], .lst [.non, .str "a", .tup [.str "c"], .tup [.str "C", .tup []], .obj 8, .tup [.str "c", .obj 9], .tup [.str "c", .tup [], .tup []], .tup [.str "", .tup []], .tup [.int 5, .tup []]], .lst [.str "b", .str "c", .str "zz"]]
def T8 (z : PV) : PV := .tup [.tup [.str "run", .int 1, .int 1], .tup [.str "call", z, .str "none"], .tup [.str "call", .str "none", .str "p"]]
def T10 : PV := .tup [.tup [.str "want", .str "a", .str "r"], .tup [.str "call", .str "x", .str "p"]]
theorem g2 (xs : List PV) (k : PV) (c s : Int) (d : Int) : (eNew (vL (aC (eC .non) (aC (eC (.int 5)) (aC (eC (.str "p")) (aC (eT (aC (eC (.str "p")) (aC (eC (.int 3)) aN))) (aC (eMk "Policy" 2 0 m_Policy_init gP_Policy_2 (aC (eC (.str "p")) (aC (eC (.int 9)) aN)) aN) (aC (eMk "Policy" 2 0 m_Policy_init gP_Policy_2 (aC (eC (.str "q")) (aC (eC (.int 9)) aN)) aN) aN)))))))) [some (.rol xs), some (.obj 2), some (.obj 3), some k, some (.obj 4), some (.int d), none, none, none] (H1 c s) = .ok (.obj 7) (H2 c s) := by kernel_rfl
theorem g4 (xs : List PV) (k : PV) (c s : Int) (d : Int) (v : PV) : (eNew (vL (aC (eC .non) (aC (eC (.str "a")) (aC (eT (aC (eC (.str "c")) aN)) (aC (eT (aC (eC (.str "C")) (aC (eT aN) aN))) (aC (eNew (vL (aC (eC (.str "c")) (aC (eT aN) aN)))) (aC (eT (aC (eC (.str "c")) (aC (eNew (vL aN)) aN))) (aC (eT (aC (eC (.str "c")) (aC (eT aN) (aC (eT aN) aN)))) (aC (eT (aC (eC (.str "")) (aC (eT aN) aN))) (aC (eT (aC (eC (.int 5)) (aC (eT aN) aN))) aN))))))))))) [some (.rol xs), some (.obj 2), some (.obj 3), some k, some (.obj 4), some (.int d), some v, none, none] (H2 c s) = .ok (.obj 10) (H3 c s) := by kernel_rfl
theorem g7 (xs : List PV) (k : PV) (c s : Int) (d : Int) (v : PV) : (eNew (vL (aC (eC (.str "b")) (aC (eC (.str "c")) (aC (eC (.str "zz")) aN))))) [some (.rol xs), some (.obj 2), some (.obj 3), some k, some (.obj 4), some (.int d), some v, none, none] (H3 c s) = .ok (.obj 11) (H4 c s) := by kernel_rfl
theorem b3_0_0 (xs : List PV) (k : PV) (c s : Int) : b_3 [some (.rol xs), some (.obj 2), some (.obj 3), some k, some (.obj 4), some (.int 0), some (.non), none, none] (H2 c s) = .nx [some (.rol xs), some (.obj 2), some (.obj 3), some k, some (.obj 4), some (.int 0), some (.non), none, none] (H2 c s) := by kernel_rfl
theorem b3_0_1 (xs : List PV) (k : PV) (c s : Int) : b_3 [some (.rol xs), some (.obj 2), some (.obj 3), some k, some (.obj 4), some (.int 0), some (.int 5), none, none] (H2 c s) = .nx [some (.rol xs), some (.obj 2), some (.obj 3), some k, some (.obj 4), some (.int 0), some (.int 5), none, none] (H2 c s) := by kernel_rfl
theorem b3_0_2 (xs : List PV) (k : PV) (c s : Int) : b_3 [some (.rol xs), some (.obj 2), some (.obj 3), some k, some (.obj 4), some (.int 0), some (.str "p"), none, none] (H2 c s) = .nx [some (.rol xs), some (.obj 2), some (.obj 3), some k, some (.obj 4), some (.int 0), some (.str "p"), none, none] (H2 c s) := by kernel_rfl
theorem b3_0_3 (xs : List PV) (k : PV) (c s : Int) : b_3 [some (.rol xs), some (.obj 2), some (.obj 3), some k, some (.obj 4), some (.int 0), some (.tup [.str "p", .int 3]), none, none] (H2 c s) = .nx [some (.rol xs), some (.obj 2), some (.obj 3), some k, some (.obj 4), some (.int 0), some (.tup [.str "p", .int 3]), none, none] (H2 c s) := by kernel_rfl
theorem b3_0_4 (xs : List PV) (k : PV) (c s : Int) : b_3 [some (.rol xs), some (.obj 2), some (.obj 3), some k, some (.obj 4), some (.int 0), some (.obj 5), none, none] (H2 c s) = .nx [some (.rol xs), some (.obj 2), some (.obj 3), some k, some (.obj 4), some (.int 0), some (.obj 5), none, none] (H2 c s) := by kernel_rfl
theorem b3_0_5 (xs : List PV) (k : PV) (c s : Int) : b_3 [some (.rol xs), some (.obj 2), some (.obj 3), some k, some (.obj 4), some (.int 0), some (.obj 6), none, none] (H2 c s) = .nx [some (.rol xs), some (.obj 2), some (.obj 3), some k, some (.obj 4), some (.int 0), some (.obj 6), none, none] (H2 c s) := by kernel_rfl
theorem b3_1_0 (xs : List PV) (k : PV) (c s : Int) : b_3 [some (.rol xs), some (.obj 2), some (.obj 3), some k, some (.obj 4), some (.int 1), some (.non), none, none] (H2 c s) = .nx [some (.rol xs), some (.obj 2), some (.obj 3), some k, some (.obj 4), some (.int 1), some (.non), none, none] (H2 c s) := by kernel_rfl
theorem b3_1_1 (xs : List PV) (k : PV) (c s : Int) : b_3 [some (.rol xs), some (.obj 2), some (.obj 3), some k, some (.obj 4), some (.int 1), some (.int 5), none, none] (H2 c s) = .nx [some (.rol xs), some (.obj 2), some (.obj 3), some k, some (.obj 4), some (.int 1), some (.int 5), none, none] (H2 c s) := by kernel_rfl
theorem b3_1_2 (xs : List PV) (k : PV) (c s : Int) : b_3 [some (.rol xs), some (.obj 2), some (.obj 3), some k, some (.obj 4), some (.int 1), some (.str "p"), none, none] (H2 c s) = .nx [some (.rol xs), some (.obj 2), some (.obj 3), some k, some (.obj 4), some (.int 1), some (.str "p"), none, none] (H2 c s) := by kernel_rfl
theorem b3_1_3 (xs : List PV) (k : PV) (c s : Int) : b_3 [some (.rol xs), some (.obj 2), some (.obj 3), some k, some (.obj 4), some (.int 1), some (.tup [.str "p", .int 3]), none, none] (H2 c s) = .nx [some (.rol xs), some (.obj 2), some (.obj 3), some k, some (.obj 4), some (.int 1), some (.tup [.str "p", .int 3]), none, none] (H2 c s) := by kernel_rfl
theorem b3_1_4 (xs : List PV) (k : PV) (c s : Int) : b_3 [some (.rol xs), some (.obj 2), some (.obj 3), some k, some (.obj 4), some (.int 1), some (.obj 5), none, none] (H2 c s) = .nx [some (.rol xs), some (.obj 2), some (.obj 3), some k, some (.obj 4), some (.int 1), some (.obj 5), none, none] (H2 c s) := by kernel_rfl
theorem b3_1_5 (xs : List PV) (k : PV) (c s : Int) : b_3 [some (.rol xs), some (.obj 2), some (.obj 3), some k, some (.obj 4), some (.int 1), some (.obj 6), none, none] (H2 c s) = .nx [some (.rol xs), some (.obj 2), some (.obj 3), some k, some (.obj 4), some (.int 1), some (.obj 6), none, none] (H2 c s) := by kernel_rfl
theorem b3_2_0 (xs : List PV) (k : PV) (c s : Int) : b_3 [some (.rol xs), some (.obj 2), some (.obj 3), some k, some (.obj 4), some (.int 2), some (.non), none, none] (H2 c s) = .nx [some (.rol xs), some (.obj 2), some (.obj 3), some k, some (.obj 4), some (.int 2), some (.non), none, none] (H2 c s) := by kernel_rfl
theorem b3_2_1 (xs : List PV) (k : PV) (c s : Int) : b_3 [some (.rol xs), some (.obj 2), some (.obj 3), some k, some (.obj 4), some (.int 2), some (.int 5), none, none] (H2 c s) = .nx [some (.rol xs), some (.obj 2), some (.obj 3), some k, some (.obj 4), some (.int 2), some (.int 5), none, none] (H2 c s) := by kernel_rfl
theorem b3_2_2 (xs : List PV) (k : PV) (c s : Int) : b_3 [some (.rol xs), some (.obj 2), some (.obj 3), some k, some (.obj 4), some (.int 2), some (.str "p"), none, none] (H2 c s) = .nx [some (.rol xs), some (.obj 2), some (.obj 3), some k, some (.obj 4), some (.int 2), some (.str "p"), none, none] (H2 c s) := by kernel_rfl
theorem b3_2_3 (xs : List PV) (k : PV) (c s : Int) : b_3 [some (.rol xs), some (.obj 2), some (.obj 3), some k, some (.obj 4), some (.int 2), some (.tup [.str "p", .int 3]), none, none] (H2 c s) = .nx [some (.rol xs), some (.obj 2), some (.obj 3), some k, some (.obj 4), some (.int 2), some (.tup [.str "p", .int 3]), none, none] (H2 c s) := by kernel_rfl
theorem b3_2_4 (xs : List PV) (k : PV) (c s : Int) : b_3 [some (.rol xs), some (.obj 2), some (.obj 3), some k, some (.obj 4), some (.int 2), some (.obj 5), none, none] (H2 c s) = .nx [some (.rol xs), some (.obj 2), some (.obj 3), some k, some (.obj 4), some (.int 2), some (.obj 5), none, none] (H2 c s) := by kernel_rfl
theorem b3_2_5 (xs : List PV) (k : PV) (c s : Int) : b_3 [some (.rol xs), some (.obj 2), some (.obj 3), some k, some (.obj 4), some (.int 2), some (.obj 6), none, none] (H2 c s) = .nx [some (.rol xs), some (.obj 2), some (.obj 3), some k, some (.obj 4), some (.int 2), some (.obj 6), none, none] (H2 c s) := by kernel_rfl
theorem b5_0_0 (xs : List PV) (k : PV) (c s : Int) : b_5 [some (.rol xs), some (.obj 2), some (.obj 3), some k, some (.obj 4), some (.int 0), some (.non), none, none] (H3 c s) = .nx [some (.rol xs), some (.obj 2), some (.obj 3), some k, some (.obj 4), some (.int 0), some (.non), none, none] (H3 c s) := by kernel_rfl
theorem b5_0_1 (xs : List PV) (k : PV) (c s : Int) : b_5 [some (.rol xs), some (.obj 2), some (.obj 3), some k, some (.obj 4), some (.int 0), some (.str "a"), none, none] (H3 c s) = .nx [some (.rol xs), some (.obj 2), some (.obj 3), some k, some (.obj 4), some (.int 0), some (.str "a"), none, none] (H3 c s) := by kernel_rfl
theorem b5_0_2 (xs : List PV) (k : PV) (c s : Int) : b_5 [some (.rol xs), some (.obj 2), some (.obj 3), some k, some (.obj 4), some (.int 0), some (.tup [.str "c"]), none, none] (H3 c s) = .nx [some (.rol xs), some (.obj 2), some (.obj 3), some k, some (.obj 4), some (.int 0), some (.tup [.str "c"]), none, none] (H3 c s) := by kernel_rfl
theorem b5_0_3 (xs : List PV) (k : PV) (c s : Int) : b_5 [some (.rol xs), some (.obj 2), some (.obj 3), some k, some (.obj 4), some (.int 0), some (.tup [.str "C", .tup []]), none, none] (H3 c s) = .nx [some (.rol xs), some (.obj 2), some (.obj 3), some k, some (.obj 4), some (.int 0), some (.tup [.str "C", .tup []]), none, none] (H3 c s) := by kernel_rfl
theorem b5_0_4 (xs : List PV) (k : PV) (c s : Int) : b_5 [some (.rol xs), some (.obj 2), some (.obj 3), some k, some (.obj 4), some (.int 0), some (.obj 8), none, none] (H3 c s) = .nx [some (.rol xs), some (.obj 2), some (.obj 3), some k, some (.obj 4), some (.int 0), some (.obj 8), none, none] (H3 c s) := by kernel_rfl
theorem b5_0_5 (xs : List PV) (k : PV) (c s : Int) : b_5 [some (.rol xs), some (.obj 2), some (.obj 3), some k, some (.obj 4), some (.int 0), some (.tup [.str "c", .obj 9]), none, none] (H3 c s) = .nx [some (.rol xs), some (.obj 2), some (.obj 3), some k, some (.obj 4), some (.int 0), some (.tup [.str "c", .obj 9]), none, none] (H3 c s) := by kernel_rfl
theorem b5_0_6 (xs : List PV) (k : PV) (c s : Int) : b_5 [some (.rol xs), some (.obj 2), some (.obj 3), some k, some (.obj 4), some (.int 0), some (.tup [.str "c", .tup [], .tup []]), none, none] (H3 c s) = .nx [some (.rol xs), some (.obj 2), some (.obj 3), some k, some (.obj 4), some (.int 0), some (.tup [.str "c", .tup [], .tup []]), none, none] (H3 c s) := by kernel_rfl
theorem b5_0_7 (xs : List PV) (k : PV) (c s : Int) : b_5 [some (.rol xs), some (.obj 2), some (.obj 3), some k, some (.obj 4), some (.int 0), some (.tup [.str "", .tup []]), none, none] (H3 c s) = .nx [some (.rol xs), some (.obj 2), some (.obj 3), some k, some (.obj 4), some (.int 0), some (.tup [.str "", .tup []]), none, none] (H3 c s) := by kernel_rfl
theorem b5_0_8 (xs : List PV) (k : PV) (c s : Int) : b_5 [some (.rol xs), some (.obj 2), some (.obj 3), some k, some (.obj 4), some (.int 0), some (.tup [.int 5, .tup []]), none, none] (H3 c s) = .nx [some (.rol xs), some (.obj 2), some (.obj 3), some k, some (.obj 4), some (.int 0), some (.tup [.int 5, .tup []]), none, none] (H3 c s) := by kernel_rfl
theorem b5_1_0 (xs : List PV) (k : PV) (c s : Int) : b_5 [some (.rol xs), some (.obj 2), some (.obj 3), some k, some (.obj 4), some (.int 1), some (.non), none, none] (H3 c s) = .nx [some (.rol xs), some (.obj 2), some (.obj 3), some k, some (.obj 4), some (.int 1), some (.non), none, none] (H3 c s) := by kernel_rfl
theorem b5_1_1 (xs : List PV) (k : PV) (c s : Int) : b_5 [some (.rol xs), some (.obj 2), some (.obj 3), some k, some (.obj 4), some (.int 1), some (.str "a"), none, none] (H3 c s) = .nx [some (.rol xs), some (.obj 2), some (.obj 3), some k, some (.obj 4), some (.int 1), some (.str "a"), none, none] (H3 c s) := by kernel_rfl
theorem b5_1_2 (xs : List PV) (k : PV) (c s : Int) : b_5 [some (.rol xs), some (.obj 2), some (.obj 3), some k, some (.obj 4), some (.int 1), some (.tup [.str "c"]), none, none] (H3 c s) = .nx [some (.rol xs), some (.obj 2), some (.obj 3), some k, some (.obj 4), some (.int 1), some (.tup [.str "c"]), none, none] (H3 c s) := by kernel_rfl
theorem b5_1_3 (xs : List PV) (k : PV) (c s : Int) : b_5 [some (.rol xs), some (.obj 2), some (.obj 3), some k, some (.obj 4), some (.int 1), some (.tup [.str "C", .tup []]), none, none] (H3 c s) = .nx [some (.rol xs), some (.obj 2), some (.obj 3), some k, some (.obj 4), some (.int 1), some (.tup [.str "C", .tup []]), none, none] (H3 c s) := by kernel_rfl
theorem b5_1_4 (xs : List PV) (k : PV) (c s : Int) : b_5 [some (.rol xs), some (.obj 2), some (.obj 3), some k, some (.obj 4), some (.int 1), some (.obj 8), none, none] (H3 c s) = .nx [some (.rol xs), some (.obj 2), some (.obj 3), some k, some (.obj 4), some (.int 1), some (.obj 8), none, none] (H3 c s) := by kernel_rfl
theorem b5_1_5 (xs : List PV) (k : PV) (c s : Int) : b_5 [some (.rol xs), some (.obj 2), some (.obj 3), some k, some (.obj 4), some (.int 1), some (.tup [.str "c", .obj 9]), none, none] (H3 c s) = .nx [some (.rol xs), some (.obj 2), some (.obj 3), some k, some (.obj 4), some (.int 1), some (.tup [.str "c", .obj 9]), none, none] (H3 c s) := by kernel_rfl
theorem b5_1_6 (xs : List PV) (k : PV) (c s : Int) : b_5 [some (.rol xs), some (.obj 2), some (.obj 3), some k, some (.obj 4), some (.int 1), some (.tup [.str "c", .tup [], .tup []]), none, none] (H3 c s) = .nx [some (.rol xs), some (.obj 2), some (.obj 3), some k, some (.obj 4), some (.int 1), some (.tup [.str "c", .tup [], .tup []]), none, none] (H3 c s) := by kernel_rfl
theorem b5_1_7 (xs : List PV) (k : PV) (c s : Int) : b_5 [some (.rol xs), some (.obj 2), some (.obj 3), some k, some (.obj 4), some (.int 1), some (.tup [.str "", .tup []]), none, none] (H3 c s) = .nx [some (.rol xs), some (.obj 2), some (.obj 3), some k, some (.obj 4), some (.int 1), some (.tup [.str "", .tup []]), none, none] (H3 c s) := by kernel_rfl
theorem b5_1_8 (xs : List PV) (k : PV) (c s : Int) : b_5 [some (.rol xs), some (.obj 2), some (.obj 3), some k, some (.obj 4), some (.int 1), some (.tup [.int 5, .tup []]), none, none] (H3 c s) = .nx [some (.rol xs), some (.obj 2), some (.obj 3), some k, some (.obj 4), some (.int 1), some (.tup [.int 5, .tup []]), none, none] (H3 c s) := by kernel_rfl
theorem b5_2_0 (xs : List PV) (k : PV) (c s : Int) : b_5 [some (.rol xs), some (.obj 2), some (.obj 3), some k, some (.obj 4), some (.int 2), some (.non), none, none] (H3 c s) = .nx [some (.rol xs), some (.obj 2), some (.obj 3), some k, some (.obj 4), some (.int 2), some (.non), none, none] (H3 c s) := by kernel_rfl
theorem b5_2_1 (xs : List PV) (k : PV) (c s : Int) : b_5 [some (.rol xs), some (.obj 2), some (.obj 3), some k, some (.obj 4), some (.int 2), some (.str "a"), none, none] (H3 c s) = .nx [some (.rol xs), some (.obj 2), some (.obj 3), some k, some (.obj 4), some (.int 2), some (.str "a"), none, none] (H3 c s) := by kernel_rfl
theorem b5_2_2 (xs : List PV) (k : PV) (c s : Int) : b_5 [some (.rol xs), some (.obj 2), some (.obj 3), some k, some (.obj 4), some (.int 2), some (.tup [.str "c"]), none, none] (H3 c s) = .nx [some (.rol xs), some (.obj 2), some (.obj 3), some k, some (.obj 4), some (.int 2), some (.tup [.str "c"]), none, none] (H3 c s) := by kernel_rfl
theorem b5_2_3 (xs : List PV) (k : PV) (c s : Int) : b_5 [some (.rol xs), some (.obj 2), some (.obj 3), some k, some (.obj 4), some (.int 2), some (.tup [.str "C", .tup []]), none, none] (H3 c s) = .nx [some (.rol xs), some (.obj 2), some (.obj 3), some k, some (.obj 4), some (.int 2), some (.tup [.str "C", .tup []]), none, none] (H3 c s) := by kernel_rfl
theorem b5_2_4 (xs : List PV) (k : PV) (c s : Int) : b_5 [some (.rol xs), some (.obj 2), some (.obj 3), some k, some (.obj 4), some (.int 2), some (.obj 8), none, none] (H3 c s) = .nx [some (.rol xs), some (.obj 2), some (.obj 3), some k, some (.obj 4), some (.int 2), some (.obj 8), none, none] (H3 c s) := by kernel_rfl
theorem b5_2_5 (xs : List PV) (k : PV) (c s : Int) : b_5 [some (.rol xs), some (.obj 2), some (.obj 3), some k, some (.obj 4), some (.int 2), some (.tup [.str "c", .obj 9]), none, none] (H3 c s) = .nx [some (.rol xs), some (.obj 2), some (.obj 3), some k, some (.obj 4), some (.int 2), some (.tup [.str "c", .obj 9]), none, none] (H3 c s) := by kernel_rfl
theorem b5_2_6 (xs : List PV) (k : PV) (c s : Int) : b_5 [some (.rol xs), some (.obj 2), some (.obj 3), some k, some (.obj 4), some (.int 2), some (.tup [.str "c", .tup [], .tup []]), none, none] (H3 c s) = .nx [some (.rol xs), some (.obj 2), some (.obj 3), some k, some (.obj 4), some (.int 2), some (.tup [.str "c", .tup [], .tup []]), none, none] (H3 c s) := by kernel_rfl
theorem b5_2_7 (xs : List PV) (k : PV) (c s : Int) : b_5 [some (.rol xs), some (.obj 2), some (.obj 3), some k, some (.obj 4), some (.int 2), some (.tup [.str "", .tup []]), none, none] (H3 c s) = .nx [some (.rol xs), some (.obj 2), some (.obj 3), some k, some (.obj 4), some (.int 2), some (.tup [.str "", .tup []]), none, none] (H3 c s) := by kernel_rfl
theorem b5_2_8 (xs : List PV) (k : PV) (c s : Int) : b_5 [some (.rol xs), some (.obj 2), some (.obj 3), some k, some (.obj 4), some (.int 2), some (.tup [.int 5, .tup []]), none, none] (H3 c s) = .nx [some (.rol xs), some (.obj 2), some (.obj 3), some k, some (.obj 4), some (.int 2), some (.tup [.int 5, .tup []]), none, none] (H3 c s) := by kernel_rfl
theorem b6 (xs : List PV) (k : PV) (c s : Int) (d : Int) (v : PV) : b_6 [some (.rol xs), some (.obj 2), some (.obj 3), some k, some (.obj 4), some (.int d), some v, none, none] (H3 c s) = .nx [some (.rol xs), some (.obj 2), some (.obj 3), some k, some (.obj 4), some (.int d), some v, none, none] (H3 c s) := by kernel_rfl
theorem b8 (xs : List PV) (k : PV) (c s : Int) (d : Int) (v z : PV) : b_8 [some (.rol xs), some (.obj 2), some (.obj 3), some k, some (.obj 4), some (.int d), some v, some z, none] (H4 c s) = .nx [some (.rol xs), some (.obj 2), some (.obj 3), some k, some (.obj 4), some (.int d), some v, some z, some (T8 z)] (H4 c s) := by kernel_rfl
theorem b9_0 (xs : List PV) (k : PV) (c s : Int) (d : Int) (v : PV) : b_9 [some (.rol xs), some (.obj 2), some (.obj 3), some k, some (.obj 4), some (.int d), some v, some (.str "b"), some (T8 (.str "b"))] (H4 c s) = .nx [some (.rol xs), some (.obj 2), some (.obj 3), some k, some (.obj 4), some (.int d), some v, some (.str "b"), some (T8 (.str "b"))] (H4 c s) := by kernel_rfl
theorem b9_1 (xs : List PV) (k : PV) (c s : Int) (d : Int) (v : PV) : b_9 [some (.rol xs), some (.obj 2), some (.obj 3), some k, some (.obj 4), some (.int d), some v, some (.str "c"), some (T8 (.str "c"))] (H4 c s) = .nx [some (.rol xs), some (.obj 2), some (.obj 3), some k, some (.obj 4), some (.int d), some v, some (.str "c"), some (T8 (.str "c"))] (H4 c s) := by kernel_rfl
theorem b9_2 (xs : List PV) (k : PV) (c s : Int) (d : Int) (v : PV) : b_9 [some (.rol xs), some (.obj 2), some (.obj 3), some k, some (.obj 4), some (.int d), some v, some (.str "zz"), some (T8 (.str "zz"))] (H4 c s) = .nx [some (.rol xs), some (.obj 2), some (.obj 3), some k, some (.obj 4), some (.int d), some v, some (.str "zz"), some (T8 (.str "zz"))] (H4 c s) := by kernel_rfl
theorem b10 (xs : List PV) (k : PV) (c s : Int) (d : Int) (v z : PV) : b_10 [some (.rol xs), some (.obj 2), some (.obj 3), some k, some (.obj 4), some (.int d), some v, some z, some (T8 z)] (H4 c s) = .nx [some (.rol xs), some (.obj 2), some (.obj 3), some k, some (.obj 4), some (.int d), some v, some z, some T10] (H4 c s) := by kernel_rfl
theorem b11 (xs : List PV) (k : PV) (c s : Int) (d : Int) (v z : PV) : b_11 [some (.rol xs), some (.obj 2), some (.obj 3), some k, some (.obj 4), some (.int d), some v, some z, some T10] (H4 c s) = .nx [some (.rol xs), some (.obj 2), some (.obj 3), some k, some (.obj 4), some (.int d), some v, some z, some T10] (H4 c s) := by kernel_rfl
theorem b0 (ns : List Int) (k : Nat) (hk : k < 100) : ∃ c s, Pl s ∧ b_0 [some (.rol (ns.map .int)), some (.obj 2), some (.obj 3), some (.int k), none, none, none, none, none] Lb = .nx [some (.rol (ns.map .int)), some (.obj 2), some (.obj 3), some (.int k), some (.obj 4), none, none, none, none] (H1 c s) := by
  obtain ⟨c, s, h, e⟩ := pool_ok (ns := ns) (L := Lb) hk (by kernel_rfl)
  exact ⟨c, s, h, x_as (x_f (x_a (x_v rfl) (x_a (x_v rfl) x_n)) e) rfl⟩
theorem three {d : Int} (h0 : 0 ≤ d) (h1 : d < 3) : d = 0 ∨ d = 1 ∨ d = 2 := by omega
theorem b345 (xs : List PV) (k : PV) (c s d : Int) (h : Pl s) (h0 : 0 ≤ d) (h1 : d < 3) : ∃ v c' s', Pl s' ∧ sSeq b_2 (sSeq b_3 (sSeq b_4 (sSeq b_5 b_6))) [some (.rol xs), some (.obj 2), some (.obj 3), some k, some (.obj 4), some (.int d), none, none, none] (H1 c s) = .nx [some (.rol xs), some (.obj 2), some (.obj 3), some k, some (.obj 4), some (.int d), some v, none, none] (H3 c' s') := by
  obtain ⟨i, v, c1, s1, hv, p1, e1⟩ := choose_ok (L := H2 c s) (p := 4) (l := 7) (c := c) (s := s) rfl rfl (by decide) h (by decide) (by decide)
  have q2 : b_2 [some (.rol xs), some (.obj 2), some (.obj 3), some k, some (.obj 4), some (.int d), none, none, none] (H1 c s) = .nx [some (.rol xs), some (.obj 2), some (.obj 3), some k, some (.obj 4), some (.int d), some v, none, none] (H2 c1 s1) := x_as (x_f (x_a (x_v rfl) (x_a (g2 xs k c s d) x_n)) e1) rfl
  have q3 : b_3 [some (.rol xs), some (.obj 2), some (.obj 3), some k, some (.obj 4), some (.int d), some v, none, none] (H2 c1 s1) = .nx [some (.rol xs), some (.obj 2), some (.obj 3), some k, some (.obj 4), some (.int d), some v, none, none] (H2 c1 s1) := by
    have hi : i < 6 := (List.getElem?_eq_some_iff.mp hv).1
    rcases three h0 h1 with rfl | rfl | rfl
    · rcases (by omega : i = 0 ∨ i = 1 ∨ i = 2 ∨ i = 3 ∨ i = 4 ∨ i = 5) with rfl | rfl | rfl | rfl | rfl | rfl
      · cases hv; exact b3_0_0 xs k c1 s1
      · cases hv; exact b3_0_1 xs k c1 s1
      · cases hv; exact b3_0_2 xs k c1 s1
      · cases hv; exact b3_0_3 xs k c1 s1
      · cases hv; exact b3_0_4 xs k c1 s1
      · cases hv; exact b3_0_5 xs k c1 s1
    · rcases (by omega : i = 0 ∨ i = 1 ∨ i = 2 ∨ i = 3 ∨ i = 4 ∨ i = 5) with rfl | rfl | rfl | rfl | rfl | rfl
      · cases hv; exact b3_1_0 xs k c1 s1
      · cases hv; exact b3_1_1 xs k c1 s1
      · cases hv; exact b3_1_2 xs k c1 s1
      · cases hv; exact b3_1_3 xs k c1 s1
      · cases hv; exact b3_1_4 xs k c1 s1
      · cases hv; exact b3_1_5 xs k c1 s1
    · rcases (by omega : i = 0 ∨ i = 1 ∨ i = 2 ∨ i = 3 ∨ i = 4 ∨ i = 5) with rfl | rfl | rfl | rfl | rfl | rfl
      · cases hv; exact b3_2_0 xs k c1 s1
      · cases hv; exact b3_2_1 xs k c1 s1
      · cases hv; exact b3_2_2 xs k c1 s1
      · cases hv; exact b3_2_3 xs k c1 s1
      · cases hv; exact b3_2_4 xs k c1 s1
      · cases hv; exact b3_2_5 xs k c1 s1
  obtain ⟨j, u, c2, s2, hu, p2, e2⟩ := choose_ok (L := H3 c1 s1) (p := 4) (l := 10) (c := c1) (s := s1) rfl rfl (by decide) p1 (by decide) (by decide)
  have q4 : b_4 [some (.rol xs), some (.obj 2), some (.obj 3), some k, some (.obj 4), some (.int d), some v, none, none] (H2 c1 s1) = .nx [some (.rol xs), some (.obj 2), some (.obj 3), some k, some (.obj 4), some (.int d), some u, none, none] (H3 c2 s2) := x_as (x_f (x_a (x_v rfl) (x_a (g4 xs k c1 s1 d v) x_n)) e2) rfl
  have q5 : b_5 [some (.rol xs), some (.obj 2), some (.obj 3), some k, some (.obj 4), some (.int d), some u, none, none] (H3 c2 s2) = .nx [some (.rol xs), some (.obj 2), some (.obj 3), some k, some (.obj 4), some (.int d), some u, none, none] (H3 c2 s2) := by
    have hi : j < 9 := (List.getElem?_eq_some_iff.mp hu).1
    rcases three h0 h1 with rfl | rfl | rfl
    · rcases (by omega : j = 0 ∨ j = 1 ∨ j = 2 ∨ j = 3 ∨ j = 4 ∨ j = 5 ∨ j = 6 ∨ j = 7 ∨ j = 8) with rfl | rfl | rfl | rfl | rfl | rfl | rfl | rfl | rfl
      · cases hu; exact b5_0_0 xs k c2 s2
      · cases hu; exact b5_0_1 xs k c2 s2
      · cases hu; exact b5_0_2 xs k c2 s2
      · cases hu; exact b5_0_3 xs k c2 s2
      · cases hu; exact b5_0_4 xs k c2 s2
      · cases hu; exact b5_0_5 xs k c2 s2
      · cases hu; exact b5_0_6 xs k c2 s2
      · cases hu; exact b5_0_7 xs k c2 s2
      · cases hu; exact b5_0_8 xs k c2 s2
    · rcases (by omega : j = 0 ∨ j = 1 ∨ j = 2 ∨ j = 3 ∨ j = 4 ∨ j = 5 ∨ j = 6 ∨ j = 7 ∨ j = 8) with rfl | rfl | rfl | rfl | rfl | rfl | rfl | rfl | rfl
      · cases hu; exact b5_1_0 xs k c2 s2
      · cases hu; exact b5_1_1 xs k c2 s2
      · cases hu; exact b5_1_2 xs k c2 s2
      · cases hu; exact b5_1_3 xs k c2 s2
      · cases hu; exact b5_1_4 xs k c2 s2
      · cases hu; exact b5_1_5 xs k c2 s2
      · cases hu; exact b5_1_6 xs k c2 s2
      · cases hu; exact b5_1_7 xs k c2 s2
      · cases hu; exact b5_1_8 xs k c2 s2
    · rcases (by omega : j = 0 ∨ j = 1 ∨ j = 2 ∨ j = 3 ∨ j = 4 ∨ j = 5 ∨ j = 6 ∨ j = 7 ∨ j = 8) with rfl | rfl | rfl | rfl | rfl | rfl | rfl | rfl | rfl
      · cases hu; exact b5_2_0 xs k c2 s2
      · cases hu; exact b5_2_1 xs k c2 s2
      · cases hu; exact b5_2_2 xs k c2 s2
      · cases hu; exact b5_2_3 xs k c2 s2
      · cases hu; exact b5_2_4 xs k c2 s2
      · cases hu; exact b5_2_5 xs k c2 s2
      · cases hu; exact b5_2_6 xs k c2 s2
      · cases hu; exact b5_2_7 xs k c2 s2
      · cases hu; exact b5_2_8 xs k c2 s2
  exact ⟨u, c2, s2, p2, x_seq q2 (x_seq q3 (x_seq q4 (x_seq q5 (b6 xs k c2 s2 d u))))⟩
theorem b7e (xs : List PV) (k : PV) (c s d : Int) (v : PV) (h : Pl s) : ∃ z c' s', sSeq b_7 (sSeq b_8 (sSeq b_9 (sSeq b_10 b_11))) [some (.rol xs), some (.obj 2), some (.obj 3), some k, some (.obj 4), some (.int d), some v, none, none] (H3 c s) = .nx [some (.rol xs), some (.obj 2), some (.obj 3), some k, some (.obj 4), some (.int d), some v, some z, some T10] (H4 c' s') := by
  obtain ⟨i, z, c1, s1, hz, p1, e1⟩ := choose_ok (L := H4 c s) (p := 4) (l := 11) (c := c) (s := s) rfl rfl (by decide) h (by decide) (by decide)
  have q7 : b_7 [some (.rol xs), some (.obj 2), some (.obj 3), some k, some (.obj 4), some (.int d), some v, none, none] (H3 c s) = .nx [some (.rol xs), some (.obj 2), some (.obj 3), some k, some (.obj 4), some (.int d), some v, some z, none] (H4 c1 s1) := x_as (x_f (x_a (x_v rfl) (x_a (g7 xs k c s d v) x_n)) e1) rfl
  have q9 : b_9 [some (.rol xs), some (.obj 2), some (.obj 3), some k, some (.obj 4), some (.int d), some v, some z, some (T8 z)] (H4 c1 s1) = .nx [some (.rol xs), some (.obj 2), some (.obj 3), some k, some (.obj 4), some (.int d), some v, some z, some (T8 z)] (H4 c1 s1) := by
    have hi : i < 3 := (List.getElem?_eq_some_iff.mp hz).1
    rcases (by omega : i = 0 ∨ i = 1 ∨ i = 2) with rfl | rfl | rfl
    · cases hz; exact b9_0 xs k c1 s1 d v
    · cases hz; exact b9_1 xs k c1 s1 d v
    · cases hz; exact b9_2 xs k c1 s1 d v
  exact ⟨z, c1, s1, x_seq q7 (x_seq (b8 xs k c1 s1 d v z) (x_seq q9 (x_seq (b10 xs k c1 s1 d v z) (b11 xs k c1 s1 d v z))))⟩
theorem seq_assoc (a b c : MS) (τ : Sl) (L : LH) : sSeq (sSeq a b) c τ L = sSeq a (sSeq b c) τ L := by
  unfold sSeq
  cases a τ L <;> rfl
theorem seq_assoc' (a b c : MS) : sSeq (sSeq a b) c = sSeq a (sSeq b c) := funext fun τ => funext fun L => seq_assoc a b c τ L
theorem refBs_int (n : Nat) : ∀ ns : List Int, refBs n (ns.map .int) = true
  | [] => rfl
  | i :: ns => by simp only [List.map_cons, refBs, refB, refBs_int n ns, Bool.and_self]
abbrev tb (ns : List Int) : Sl := [some (.rol (ns.map .int)), some (.obj 2), some (.obj 3), none, none, none, none, none, none]
theorem body_ok (ns : List Int) (k : Nat) (hk : k < 100) : bodyG [some (.rol (ns.map .int)), some (.obj 2), some (.obj 3), some (.int k), none, none, none, none, none] Lb = .nx (tb ns) Lb := by
  obtain ⟨c, s, p0, e0⟩ := b0 ns k hk
  obtain ⟨d, c1, s1, d0, d1, p1, e1⟩ := draw_ok (L := H1 c s) (p := 4) (m := 3) rfl p0 (by decide) (by decide)
  have q1 : b_1 [some (.rol (ns.map .int)), some (.obj 2), some (.obj 3), some (.int k), some (.obj 4), none, none, none, none] (H1 c s) = .nx [some (.rol (ns.map .int)), some (.obj 2), some (.obj 3), some (.int k), some (.obj 4), some (.int d), none, none, none] (H1 c1 s1) := x_as (x_f (x_a (x_v rfl) (x_a x_c x_n)) e1) rfl
  obtain ⟨v, c2, s2, p2, e2⟩ := b345 (ns.map .int) (.int k) c1 s1 d p1 d0 d1
  obtain ⟨z, c3, s3, e3⟩ := b7e (ns.map .int) (.int k) c2 s2 d v p2
  have e : bodyL [some (.rol (ns.map .int)), some (.obj 2), some (.obj 3), some (.int k), none, none, none, none, none] Lb = .nx [some (.rol (ns.map .int)), some (.obj 2), some (.obj 3), some (.int k), some (.obj 4), some (.int d), some v, some z, some T10] (H4 c3 s3) := by
    unfold bodyL
    refine x_seq e0 (x_seq q1 ?_)
    have h := x_seq e2 e3
    simp only [seq_assoc'] at h
    exact h
  unfold bodyG gcS
  rw [e]
  show gcK [0, 1, 2] Lb _ (H4 c3 s3) .nx = _
  unfold gcK
  have hr : refT Lb.length (keepS [0, 1, 2] 0 [some (.rol (ns.map .int)), some (.obj 2), some (.obj 3), some (.int k), some (.obj 4), some (.int d), some v, some z, some T10]) = true := by
    show (refBs 4 (ns.map .int) && _) = true
    rw [refBs_int]
    rfl
  rw [if_pos ⟨by kernel_rfl, (by show (4 : Nat) ≤ 12; decide), hr⟩]
  rfl
theorem loop_same {xs : List PV} {g : MG} {b : MS} {τ0 : Sl} {L : LH} (hb : ∀ x ∈ xs, ∃ τ1, g x τ0 L = .ok τ1 L ∧ b τ1 L = .nx τ0 L) : ∀ n i, i ≤ xs.length → i + n = xs.length + 1 → loop (.vals xs) g b n i τ0 L = .nx τ0 L
  | 0, i, h1, h => by omega
  | n + 1, i, h1, h => by
    unfold loop
    by_cases hi : i < xs.length
    · obtain ⟨τ1, e1, e2⟩ := hb xs[i] (List.getElem_mem hi)
      have hg : (Src.vals xs).get L i = some (some xs[i]) := by simp [Src.get, hi]
      rw [hg]
      dsimp only
      rw [e1]
      dsimp only
      rw [e2]
      exact loop_same hb n (i + 1) (by omega) (by omega)
    · have hg : (Src.vals xs).get L i = some none := by simp [Src.get]; omega
      rw [hg]
theorem law_ok (ns : List Int) (hn : ns.length ≤ 63) : m_law [.rol (ns.map .int)] [] = .ok (.bl true) Lb := by
  rw [m_law_eq]
  refine x_fn rfl (x_seq (a0 _) (x_seq (a1 _) (x_seq (a2 _) (x_seq (L1 := Lb) (τ' := tb ns) ?_ rfl))))
  have lenE : lenF [.rol (ns.map .int)] Lb = .ok (.int ns.length) Lb := by
    unfold lenF
    simp
  have hm : ∃ m : Nat, m ≤ 64 ∧ iR1 (aC (eF max2F (aC (eC (.int 1)) (aC (eF min2F (aC (eF lenF (aC (eV 0) aN)) (aC (eC (.int 6)) aN))) aN))) aN) (tb ns) Lb = .ok (.vals ((List.range m).map fun k => .int (0 + (k : Nat)))) Lb := by
    have e : ∃ j : Int, 0 ≤ j ∧ j ≤ 64 ∧ aC (eF max2F (aC (eC (.int 1)) (aC (eF min2F (aC (eF lenF (aC (eV 0) aN)) (aC (eC (.int 6)) aN))) aN))) aN (tb ns) Lb = .ok [.int j] Lb := by
      refine ⟨_, ?_, ?_, x_a (x_f (x_a x_c (x_a (x_f (x_a (x_f (x_a (x_v rfl) x_n) lenE) (x_a x_c x_n)) rfl) x_n)) rfl) x_n⟩
      · split <;> split <;> omega
      · split <;> split <;> omega
    obtain ⟨j, j0, j1, e⟩ := e
    refine ⟨j.toNat, by omega, ?_⟩
    unfold iR1
    rw [e]
    exact if_pos ⟨by omega, by omega⟩
  obtain ⟨m, hm64, em⟩ := hm
  unfold a_3 sFor
  rw [em]
  refine loop_same (fun x hx => ?_) _ _ (Nat.zero_le _) (by show 0 + ((List.map _ _).length + 1) = _; omega)
  obtain ⟨k, hk, rfl⟩ := List.mem_map.mp hx
  have hk' : k < m := List.mem_range.mp hk
  refine ⟨_, rfl, ?_⟩
  have := body_ok ns k (by omega)
  rw [show (0 : Int) + (k : Nat) = (k : Int) from Int.zero_add _]
  exact this
end K06
namespace K06
open PySem PySem.Spec PyProof.Rows L2 FL
abbrev dd0 : He.DefD := ⟨("is_name", none), "is_name", "is_name", defArgs s_is_name, defBody s_is_name, defScope s_is_name, [], []⟩
abbrev dd1 : He.DefD := ⟨("is_integer", none), "is_integer", "is_integer", defArgs s_is_integer, defBody s_is_integer, defScope s_is_integer, [], []⟩
abbrev dd2 : He.DefD := ⟨("is_between", none), "is_between", "is_between", defArgs s_is_between, defBody s_is_between, defScope s_is_between, [], []⟩
abbrev dd3 : He.DefD := ⟨("are_pauses", none), "are_pauses", "are_pauses", defArgs s_are_pauses, defBody s_are_pauses, defScope s_are_pauses, [], []⟩
abbrev dd4 : He.DefD := ⟨("is_ending", none), "is_ending", "is_ending", defArgs s_is_ending, defBody s_is_ending, defScope s_is_ending, [], []⟩
abbrev dd5 : He.DefD := ⟨("wrong_field", none), "wrong_field", "wrong_field", defArgs s_wrong_field, defBody s_wrong_field, defScope s_wrong_field, [], []⟩
abbrev dd6 : He.DefD := ⟨("block_span", none), "block_span", "block_span", defArgs s_block_span, defBody s_block_span, defScope s_block_span, [], []⟩
abbrev dd7 : He.DefD := ⟨("part_span", none), "part_span", "part_span", defArgs s_part_span, defBody s_part_span, defScope s_part_span, [], []⟩
abbrev dd8 : He.DefD := ⟨("is_call", none), "is_call", "is_call", defArgs s_is_call, defBody s_is_call, defScope s_is_call, [], []⟩
abbrev dd9 : He.DefD := ⟨("is_block", none), "is_block", "is_block", defArgs s_is_block, defBody s_is_block, defScope s_is_block, [], []⟩
abbrev dd10 : He.DefD := ⟨("is_part", none), "is_part", "is_part", defArgs s_is_part, defBody s_is_part, defScope s_is_part, [], []⟩
abbrev dd11 : He.DefD := ⟨("blocks_of", none), "blocks_of", "blocks_of", defArgs s_blocks_of, defBody s_blocks_of, defScope s_blocks_of, [], []⟩
abbrev dd12 : He.DefD := ⟨("numbered", none), "numbered", "numbered", defArgs s_numbered, defBody s_numbered, defScope s_numbered, [], []⟩
abbrev dd13 : He.DefD := ⟨("parts_of", none), "parts_of", "parts_of", defArgs s_parts_of, defBody s_parts_of, defScope s_parts_of, [], []⟩
abbrev dd14 : He.DefD := ⟨("check_block", none), "check_block", "check_block", defArgs s_check_block, defBody s_check_block, defScope s_check_block, [], []⟩
abbrev dd15 : He.DefD := ⟨("check_policies", none), "check_policies", "check_policies", defArgs s_check_policies, defBody s_check_policies, defScope s_check_policies, [], []⟩
abbrev dd16 : He.DefD := ⟨("check_services", none), "check_services", "check_services", defArgs s_check_services, defBody s_check_services, defScope s_check_services, [], []⟩
abbrev dd17 : He.DefD := ⟨("_law_draw", none), "_law_draw", "_law_draw", defArgs s__law_draw, defBody s__law_draw, defScope s__law_draw, [], []⟩
abbrev dd18 : He.DefD := ⟨("_law_choose", none), "_law_choose", "_law_choose", defArgs s__law_choose, defBody s__law_choose, defScope s__law_choose, [], []⟩
abbrev dd19 : He.DefD := ⟨("_law_told", none), "_law_told", "_law_told", defArgs s__law_told, defBody s__law_told, defScope s__law_told, [], []⟩
abbrev dd20 : He.DefD := ⟨("_law_doors_right", none), "_law_doors_right", "_law_doors_right", defArgs s__law_doors_right, defBody s__law_doors_right, defScope s__law_doors_right, [], []⟩
abbrev dd21 : He.DefD := ⟨("_law_first_bad", none), "_law_first_bad", "_law_first_bad", defArgs s__law_first_bad, defBody s__law_first_bad, defScope s__law_first_bad, [], []⟩
abbrev dd22 : He.DefD := ⟨("_law_lists_right", none), "_law_lists_right", "_law_lists_right", defArgs s__law_lists_right, defBody s__law_lists_right, defScope s__law_lists_right, [], []⟩
abbrev dd23 : He.DefD := ⟨("_law_pool", none), "_law_pool", "_law_pool", defArgs s__law_pool, defBody s__law_pool, defScope s__law_pool, [], []⟩
abbrev dd24 : He.DefD := ⟨("law", none), "law", "law", defArgs s_law, defBody s_law, defScope s_law, [], []⟩
abbrev dd25 : He.DefD := ⟨("Policy", some "__init__"), "__init__", "Policy.__init__", defArgs s_Policy_init, defBody s_Policy_init, defScope s_Policy_init, [], [("tries", .int 1), ("pauses", .non), ("early", .non), ("lossy", .bl false), ("ending", .adr (fun K => kwA K (He.ma K (He.ga K "Policy") "__init__") "ending"))]⟩
abbrev dd26 : He.DefD := ⟨("System", some "__init__"), "__init__", "System.__init__", defArgs s_System_init, defBody s_System_init, defScope s_System_init, [], []⟩
abbrev dd27 : He.DefD := ⟨("System", some "__contains__"), "__contains__", "System.__contains__", defArgs s_System_contains, defBody s_System_contains, defScope s_System_contains, [], []⟩
abbrev dd28 : He.DefD := ⟨("System", some "require"), "require", "System.require", defArgs s_System_require, defBody s_System_require, defScope s_System_require, [], []⟩
abbrev dd29 : He.DefD := ⟨("System", some "__getitem__"), "__getitem__", "System.__getitem__", defArgs s_System_getitem, defBody s_System_getitem, defScope s_System_getitem, [], []⟩
abbrev dd30 : He.DefD := ⟨("System", some "callees"), "callees", "System.callees", defArgs s_System_callees, defBody s_System_callees, defScope s_System_callees, [], []⟩
abbrev dd31 : He.DefD := ⟨("System", some "policy"), "policy", "System.policy", defArgs s_System_policy, defBody s_System_policy, defScope s_System_policy, [], []⟩
abbrev dd32 : He.DefD := ⟨("System", some "span"), "span", "System.span", defArgs s_System_span, defBody s_System_span, defScope s_System_span, [], []⟩
abbrev dd33 : He.DefD := ⟨("System", some "with_block"), "with_block", "System.with_block", defArgs s_System_with_block, defBody s_System_with_block, defScope s_System_with_block, [], []⟩
abbrev dd34 : He.DefD := ⟨("System", some "with_policy"), "with_policy", "System.with_policy", defArgs s_System_with_policy, defBody s_System_with_policy, defScope s_System_with_policy, [], []⟩
abbrev dd35 : He.DefD := ⟨("System", some "with_service"), "with_service", "System.with_service", defArgs s_System_with_service, defBody s_System_with_service, defScope s_System_with_service, [], []⟩
abbrev dd36 : He.DefD := ⟨("System", some "policies"), "policies", "System.policies", defArgs s_System_policies, defBody s_System_policies, defScope s_System_policies, [], []⟩
def fn : List He.DefD := [dd0, dd1, dd2, dd3, dd4, dd5, dd6, dd7, dd8, dd9, dd10, dd11, dd12, dd13, dd14, dd15, dd16, dd17, dd18, dd19, dd20, dd21, dd22, dd23, dd24, dd25, dd26, dd27, dd28, dd29, dd30, dd31, dd32, dd33, dd34, dd35, dd36]
def fa : List He.Fa := [.glo "is_name", .glo "is_integer", .glo "is_between", .glo "are_pauses", .glo "is_ending", .glo "wrong_field", .glo "block_span", .glo "part_span", .glo "is_call", .glo "is_block", .glo "is_part", .glo "blocks_of", .glo "numbered", .glo "parts_of", .glo "check_block", .glo "check_policies", .glo "check_services", .glo "_law_draw", .glo "_law_choose", .glo "_law_told", .glo "_law_doors_right", .glo "_law_first_bad", .glo "_law_lists_right", .glo "_law_pool", .glo "law", .glo "Policy", .glo "System", .glo "SIZES", .free "isinstance", .free "len", .free "all", .free "any", .free "sum", .free "max", .free "min", .free "repr", .free "int", .free "bool", .free "str", .free "tuple", .free "list", .free "range", .free "enumerate", .free "sorted", .int "MAX_LETTERS" 8, .int "MAX_RUN" 20, .int "MAX_DEPTH" 3, .int "MAX_LIMIT" 20, .int "MAX_TRIES" 3, .int "MAX_PAUSE" 8, .int "MAX_DELAY" 20, .int "MAX_POLICIES" 8, .int "MAX_SERVICES" 6, .int "MAX_PARTS" 12, .int "MAX_SPAN" 400, .str "LETTERS" "abcdefghijklmnopqrstuvwxyz", .str "GO" "go", .str "STOP" "stop", .str "DEADLINE" "deadline", .cls "Policy", .mkr "Policy", .noat "Policy" "own_name", .noat "Policy" "own_limit", .noat "Policy" "own_tries", .noat "Policy" "own_pauses", .noat "Policy" "own_early", .noat "Policy" "own_lossy", .noat "Policy" "own_ending", .cls "System", .mkr "System", .noat "System" "own_policies", .noat "System" "own_blocks", .meth "System" "__contains__", .meth "System" "require", .meth "System" "__getitem__", .meth "System" "callees", .meth "System" "policy", .meth "System" "span", .meth "System" "with_block", .meth "System" "with_policy", .meth "System" "with_service", .meth "System" "policies"]
abbrev pp0 : MCH.PD := ⟨"Policy", "name", "Policy.name", s_Policy_name⟩
abbrev pp1 : MCH.PD := ⟨"Policy", "longest", "Policy.longest", s_Policy_longest⟩
def pps : List MCH.PD := [pp0, pp1]
def bmF (s : String) : List Value := if s = "ValueError" then PySem.MEX.bmV else if s = "LookupError" then PySem.MEX.bmL else PySem.MEX.bmO
abbrev ee0 : MCH.ED := ⟨"InvalidName", ["value"], "ValueError", inClass (top 2) 0⟩
abbrev ee1 : MCH.ED := ⟨"InvalidPolicy", ["field"], "ValueError", inClass (top 3) 0⟩
abbrev ee2 : MCH.ED := ⟨"InvalidPolicies", ["number"], "ValueError", inClass (top 4) 0⟩
abbrev ee3 : MCH.ED := ⟨"InvalidServices", ["number"], "ValueError", inClass (top 5) 0⟩
abbrev ee4 : MCH.ED := ⟨"InvalidPart", ["service", "place"], "ValueError", inClass (top 6) 0⟩
abbrev ee5 : MCH.ED := ⟨"UnknownName", ["value"], "LookupError", inClass (top 7) 0⟩
abbrev ee6 : MCH.ED := ⟨"TooLong", ["service"], "OverflowError", inClass (top 8) 0⟩
abbrev es : List MCH.ED := [ee0, ee1, ee2, ee3, ee4, ee5, ee6]
def ds_SIZES : List (Str × He.Dv) := [("run", .int 3), ("risk", .int 1), ("call", .int 3), ("want", .int 3), ("maybe", .int 2), ("both", .int 3)]
def ts : List He.Tab := [(fun K => He.ga K "SIZES", TB_SIZES.map (·.1))]
def tfs : List He.Defn := [("_law_doors_right", none), ("_law_lists_right", none), ("law", none)]
abbrev gaK (K : PySem.W.Frag) : Ga := ⟨He.ga K, tabsOf K tfs⟩
def ex0 (K : PySem.W.Frag) : Bool := (He.valsB K (He.ga K "SIZES") ds_SIZES && (kwTupB K (kwA K (He.ma K (He.ga K "Policy") "__init__") "ending") ["go"] && (kitB K (gaK K) CS TAB && (excB K (gaK K) KNOWN && distB K tfs))))
abbrev R : PySem.W.OpenRow := PySem.W.OpenLaw.row PySem.Challenge.rw_mostcalls_k06_systems_refused
abbrev hk : PySem.W.Hook := MCH.hookR 7 R.prog bmF fa fn pps es ts tfs ex0
def ob (s : PySem.W.SharedT) : MCH.AlR := MCH.obsR 7 R.prog bmF fa fn pps es ts tfs ex0 (HandSHeadRun.getT s)
theorem ob_eq (s : PySem.W.SharedT) : ob s = hk.obs s.abs := MCH.obsR_eq (HandSHeadRun.getT_eq s)
def names : List Str := (["_wall", "InvalidName", "InvalidPolicy", "InvalidPolicies", "InvalidServices", "InvalidPart", "UnknownName", "TooLong", "LETTERS", "MAX_LETTERS", "is_integer", "is_between"] : List Str) ++ (["is_name", "MAX_RUN", "MAX_DEPTH", "SIZES", "is_block", "is_part", "is_call", "blocks_of", "numbered", "parts_of", "block_span", "part_span"] : List Str) ++ (["MAX_LIMIT", "MAX_TRIES", "MAX_PAUSE", "MAX_DELAY", "FIELDS", "GO", "STOP", "DEADLINE", "is_ending", "are_pauses", "wrong_field", "Policy"] : List Str) ++ (["MAX_POLICIES", "MAX_SERVICES", "MAX_PARTS", "MAX_SPAN", "check_policies", "check_services", "check_block", "System", "_law_pool", "_law_draw", "_law_choose", "_law_told"] : List Str) ++ (["_law_doors_right", "_law_lists_right", "_law_first_bad"] : List Str)
theorem run_false (w : World) : HandSHeadRun.RunEq R (PySem.W.view R.prog [57]) hk ob 20000 names (w.withFollow "special-get-raises" false) := by
  intro os
  kernel_rfl
theorem run_true (w : World) : HandSHeadRun.RunEq R (PySem.W.view R.prog [57]) hk ob 20000 names (w.withFollow "special-get-raises" true) := by
  intro os
  kernel_rfl
theorem run (w : World) : HandSHeadRun.RunEq R (PySem.W.view R.prog [57]) hk ob 20000 names w := by
  have e := World.withFollow_self w "special-get-raises"
  cases hb : w.params.followText "special-get-raises" <;> rw [hb] at e
  · rw [← e]
    exact run_false w
  · rw [← e]
    exact run_true w
theorem fok_field : PySem.MEX.FOk1 "field" := ⟨by decide, rfl, by decide, rfl, rfl, fun _ _ _ _ _ _ _ _ _ _ _ _ => rfl, fun _ _ _ _ _ _ _ _ _ _ _ _ => rfl⟩
theorem fok_number : PySem.MEX.FOk1 "number" := ⟨by decide, rfl, by decide, rfl, rfl, fun _ _ _ _ _ _ _ _ _ _ _ _ => rfl, fun _ _ _ _ _ _ _ _ _ _ _ _ => rfl⟩
theorem fok_service : PySem.MEX.FOk1 "service" := ⟨by decide, rfl, by decide, rfl, rfl, fun _ _ _ _ _ _ _ _ _ _ _ _ => rfl, fun _ _ _ _ _ _ _ _ _ _ _ _ => rfl⟩
theorem fok_value : PySem.MEX.FOk1 "value" := ⟨by decide, rfl, by decide, rfl, rfl, fun _ _ _ _ _ _ _ _ _ _ _ _ => rfl, fun _ _ _ _ _ _ _ _ _ _ _ _ => rfl⟩
theorem fok_service_place : PySem.MEX.FOk2 "service" "place" := ⟨by decide, rfl, by decide, by decide, rfl, by decide, by decide, rfl, rfl, fun _ _ _ _ _ _ _ _ _ _ _ _ _ _ => rfl, fun _ _ _ _ _ _ _ _ _ _ _ _ _ _ => rfl⟩
theorem facts {w : World} {K : PySem.W.Frag} {h : Heap} {mg : Str → Option Value} {f : Addr} (X : K.In h) (G : h.Ns mainGlobals mg) (hfa : mg ("law" : Str) = some (.ref f)) (c : MCH.SaysR R.prog bmF fa fn pps es ts tfs ex0 w h K) :
    ∃ fd : FuncData, (∀ (s : Shared) (v : Value), BindsTo s fd ⟨[v], []⟩ [("_law_script", v)]) ∧ ∀ base : Heap, K.In base → base.Ns mainGlobals mg → (∀ p ∈ tfs.map (He.cT K), LamX.TabB base mg p.1 p.2) → FnG R.prog w K mg base (L2.CX R.prog w) 20 f fd ["_law_script"] (spM 1 K (gaK K) m_law) := by
  obtain ⟨e0, F0⟩ := c.p.m.d.def_ 0 (d := dd0) rfl
  obtain ⟨e1, F1⟩ := c.p.m.d.def_ 1 (d := dd1) rfl
  obtain ⟨e2, F2⟩ := c.p.m.d.def_ 2 (d := dd2) rfl
  obtain ⟨e3, F3⟩ := c.p.m.d.def_ 3 (d := dd3) rfl
  obtain ⟨e4, F4⟩ := c.p.m.d.def_ 4 (d := dd4) rfl
  obtain ⟨e5, F5⟩ := c.p.m.d.def_ 5 (d := dd5) rfl
  obtain ⟨e6, F6⟩ := c.p.m.d.def_ 6 (d := dd6) rfl
  obtain ⟨e7, F7⟩ := c.p.m.d.def_ 7 (d := dd7) rfl
  obtain ⟨e8, F8⟩ := c.p.m.d.def_ 8 (d := dd8) rfl
  obtain ⟨e9, F9⟩ := c.p.m.d.def_ 9 (d := dd9) rfl
  obtain ⟨e10, F10⟩ := c.p.m.d.def_ 10 (d := dd10) rfl
  obtain ⟨e11, F11⟩ := c.p.m.d.def_ 11 (d := dd11) rfl
  obtain ⟨e12, F12⟩ := c.p.m.d.def_ 12 (d := dd12) rfl
  obtain ⟨e13, F13⟩ := c.p.m.d.def_ 13 (d := dd13) rfl
  obtain ⟨e14, F14⟩ := c.p.m.d.def_ 14 (d := dd14) rfl
  obtain ⟨e15, F15⟩ := c.p.m.d.def_ 15 (d := dd15) rfl
  obtain ⟨e16, F16⟩ := c.p.m.d.def_ 16 (d := dd16) rfl
  obtain ⟨e17, F17⟩ := c.p.m.d.def_ 17 (d := dd17) rfl
  obtain ⟨e18, F18⟩ := c.p.m.d.def_ 18 (d := dd18) rfl
  obtain ⟨e19, F19⟩ := c.p.m.d.def_ 19 (d := dd19) rfl
  obtain ⟨e20, F20⟩ := c.p.m.d.def_ 20 (d := dd20) rfl
  obtain ⟨e21, F21⟩ := c.p.m.d.def_ 21 (d := dd21) rfl
  obtain ⟨e22, F22⟩ := c.p.m.d.def_ 22 (d := dd22) rfl
  obtain ⟨e23, F23⟩ := c.p.m.d.def_ 23 (d := dd23) rfl
  obtain ⟨e24, F24⟩ := c.p.m.d.def_ 24 (d := dd24) rfl
  obtain ⟨e25, F25⟩ := c.p.m.d.def_ 25 (d := dd25) rfl
  obtain ⟨e26, F26⟩ := c.p.m.d.def_ 26 (d := dd26) rfl
  obtain ⟨e27, F27⟩ := c.p.m.d.def_ 27 (d := dd27) rfl
  obtain ⟨e28, F28⟩ := c.p.m.d.def_ 28 (d := dd28) rfl
  obtain ⟨e29, F29⟩ := c.p.m.d.def_ 29 (d := dd29) rfl
  obtain ⟨e30, F30⟩ := c.p.m.d.def_ 30 (d := dd30) rfl
  obtain ⟨e31, F31⟩ := c.p.m.d.def_ 31 (d := dd31) rfl
  obtain ⟨e32, F32⟩ := c.p.m.d.def_ 32 (d := dd32) rfl
  obtain ⟨e33, F33⟩ := c.p.m.d.def_ 33 (d := dd33) rfl
  obtain ⟨e34, F34⟩ := c.p.m.d.def_ 34 (d := dd34) rfl
  obtain ⟨e35, F35⟩ := c.p.m.d.def_ 35 (d := dd35) rfl
  obtain ⟨e36, F36⟩ := c.p.m.d.def_ 36 (d := dd36) rfl
  obtain ⟨c0, d0⟩ := c.p.p pp0 (by simp [pps])
  obtain ⟨O0, g0, X0⟩ := MCH.pB_ok d0 c0
  obtain ⟨c1, d1⟩ := c.p.p pp1 (by simp [pps])
  obtain ⟨O1, g1, X1⟩ := MCH.pB_ok d1 c1
  have e := hfa.symm.trans (He.glo_ok X G (c.p.m.d.fact 24 (f := .glo "law") rfl))
  cases e
  obtain ⟨y0, z0⟩ := He.ba c.e
  obtain ⟨y1, z1⟩ := He.ba z0
  obtain ⟨y2, z2⟩ := He.ba z1
  obtain ⟨y3, z3⟩ := He.ba z2
  have y4 := z3
  have htop : (R.prog.main.scope.names.lookup ("super" : Str)).isSome = false := by decide +kernel
  obtain ⟨xe1, xe2⟩ := excB_ok (ga := gaK K) y3
  obtain ⟨p0, q0⟩ := c.x ee0 (by simp)
  obtain ⟨C0, n0, b0⟩ := MCH.eB_ok X G p0 htop PySem.MEX.baseV
  have G0 := MCH.eFn1_ok b0 n0 q0 fok_value rfl rfl rfl rfl rfl
  obtain ⟨p1, q1⟩ := c.x ee1 (by simp)
  obtain ⟨C1, n1, b1⟩ := MCH.eB_ok X G p1 htop PySem.MEX.baseV
  have G1 := MCH.eFn1_ok b1 n1 q1 fok_field rfl rfl rfl rfl rfl
  obtain ⟨p2, q2⟩ := c.x ee2 (by simp)
  obtain ⟨C2, n2, b2⟩ := MCH.eB_ok X G p2 htop PySem.MEX.baseV
  have G2 := MCH.eFn1_ok b2 n2 q2 fok_number rfl rfl rfl rfl rfl
  obtain ⟨p3, q3⟩ := c.x ee3 (by simp)
  obtain ⟨C3, n3, b3⟩ := MCH.eB_ok X G p3 htop PySem.MEX.baseV
  have G3 := MCH.eFn1_ok b3 n3 q3 fok_number rfl rfl rfl rfl rfl
  obtain ⟨p4, q4⟩ := c.x ee4 (by simp)
  obtain ⟨C4, n4, b4⟩ := MCH.eB_ok X G p4 htop PySem.MEX.baseV
  have G4 := MCH.eFn2_ok b4 n4 q4 fok_service_place rfl rfl rfl rfl rfl
  obtain ⟨p5, q5⟩ := c.x ee5 (by simp)
  obtain ⟨C5, n5, b5⟩ := MCH.eB_ok X G p5 htop PySem.MEX.baseL
  have G5 := MCH.eFn1_ok b5 n5 q5 fok_value rfl rfl rfl rfl rfl
  obtain ⟨p6, q6⟩ := c.x ee6 (by simp)
  obtain ⟨C6, n6, b6⟩ := MCH.eB_ok X G p6 htop PySem.MEX.baseO
  have G6 := MCH.eFn1_ok b6 n6 q6 fok_service rfl rfl rfl rfl rfl
  have b := FunD.bindsA (ps := ["_law_script"]) F24 fun _ _ _ _ _ _ us hl => match us, hl with | [_], _ => rfl
  refine ⟨e24, fun s v => b s [v] rfl, fun base _ _ hTB => ?_⟩
  have hE : En R.prog w K mg base (gaK K) := {
    f_is_name := fdA_of F0,
    m_is_name := He.glo_ok X G (c.p.m.d.fact 0 (f := .glo "is_name") rfl),
    f_is_integer := fdA_of F1,
    m_is_integer := He.glo_ok X G (c.p.m.d.fact 1 (f := .glo "is_integer") rfl),
    f_is_between := fdA_of F2,
    m_is_between := He.glo_ok X G (c.p.m.d.fact 2 (f := .glo "is_between") rfl),
    f_are_pauses := fdA_of F3,
    m_are_pauses := He.glo_ok X G (c.p.m.d.fact 3 (f := .glo "are_pauses") rfl),
    f_is_ending := fdA_of F4,
    m_is_ending := He.glo_ok X G (c.p.m.d.fact 4 (f := .glo "is_ending") rfl),
    f_wrong_field := fdA_of F5,
    m_wrong_field := He.glo_ok X G (c.p.m.d.fact 5 (f := .glo "wrong_field") rfl),
    f_Policy_init := fdA_of F25,
    f_Policy_name := fdA_of X0,
    p_Policy_name := O0,
    f_Policy_longest := fdA_of X1,
    p_Policy_longest := O1,
    f_block_span := fdA_of F6,
    m_block_span := He.glo_ok X G (c.p.m.d.fact 6 (f := .glo "block_span") rfl),
    f_part_span := fdA_of F7,
    m_part_span := He.glo_ok X G (c.p.m.d.fact 7 (f := .glo "part_span") rfl),
    f_is_call := fdA_of F8,
    m_is_call := He.glo_ok X G (c.p.m.d.fact 8 (f := .glo "is_call") rfl),
    f_is_block := fdA_of F9,
    m_is_block := He.glo_ok X G (c.p.m.d.fact 9 (f := .glo "is_block") rfl),
    f_is_part := fdA_of F10,
    m_is_part := He.glo_ok X G (c.p.m.d.fact 10 (f := .glo "is_part") rfl),
    f_blocks_of := fdA_of F11,
    m_blocks_of := He.glo_ok X G (c.p.m.d.fact 11 (f := .glo "blocks_of") rfl),
    f_numbered := fdA_of F12,
    m_numbered := He.glo_ok X G (c.p.m.d.fact 12 (f := .glo "numbered") rfl),
    f_parts_of := fdA_of F13,
    m_parts_of := He.glo_ok X G (c.p.m.d.fact 13 (f := .glo "parts_of") rfl),
    f_check_block := fdA_of F14,
    m_check_block := He.glo_ok X G (c.p.m.d.fact 14 (f := .glo "check_block") rfl),
    f_check_policies := fdA_of F15,
    m_check_policies := He.glo_ok X G (c.p.m.d.fact 15 (f := .glo "check_policies") rfl),
    f_check_services := fdA_of F16,
    m_check_services := He.glo_ok X G (c.p.m.d.fact 16 (f := .glo "check_services") rfl),
    f_System_init := fdA_of F26,
    f__law_draw := fdA_of F17,
    m__law_draw := He.glo_ok X G (c.p.m.d.fact 17 (f := .glo "_law_draw") rfl),
    f__law_choose := fdA_of F18,
    m__law_choose := He.glo_ok X G (c.p.m.d.fact 18 (f := .glo "_law_choose") rfl),
    f_System_contains := fdA_of F27,
    q_System_contains := He.meth_ok (c.p.m.d.fact 72 (f := .meth "System" "__contains__") rfl),
    fi_System_contains := fnIn_of F27,
    f_System_require := fdA_of F28,
    q_System_require := He.meth_ok (c.p.m.d.fact 73 (f := .meth "System" "require") rfl),
    fi_System_require := fnIn_of F28,
    f_System_getitem := fdA_of F29,
    q_System_getitem := He.meth_ok (c.p.m.d.fact 74 (f := .meth "System" "__getitem__") rfl),
    fi_System_getitem := fnIn_of F29,
    f_System_callees := fdA_of F30,
    q_System_callees := He.meth_ok (c.p.m.d.fact 75 (f := .meth "System" "callees") rfl),
    fi_System_callees := fnIn_of F30,
    f_System_policy := fdA_of F31,
    q_System_policy := He.meth_ok (c.p.m.d.fact 76 (f := .meth "System" "policy") rfl),
    fi_System_policy := fnIn_of F31,
    f_System_span := fdA_of F32,
    q_System_span := He.meth_ok (c.p.m.d.fact 77 (f := .meth "System" "span") rfl),
    fi_System_span := fnIn_of F32,
    f_System_with_block := fdA_of F33,
    q_System_with_block := He.meth_ok (c.p.m.d.fact 78 (f := .meth "System" "with_block") rfl),
    fi_System_with_block := fnIn_of F33,
    f_System_with_policy := fdA_of F34,
    q_System_with_policy := He.meth_ok (c.p.m.d.fact 79 (f := .meth "System" "with_policy") rfl),
    fi_System_with_policy := fnIn_of F34,
    f_System_with_service := fdA_of F35,
    q_System_with_service := He.meth_ok (c.p.m.d.fact 80 (f := .meth "System" "with_service") rfl),
    fi_System_with_service := fnIn_of F35,
    f__law_told := fdA_of F19,
    m__law_told := He.glo_ok X G (c.p.m.d.fact 19 (f := .glo "_law_told") rfl),
    f__law_doors_right := fdA_of F20,
    m__law_doors_right := He.glo_ok X G (c.p.m.d.fact 20 (f := .glo "_law_doors_right") rfl),
    f__law_first_bad := fdA_of F21,
    m__law_first_bad := He.glo_ok X G (c.p.m.d.fact 21 (f := .glo "_law_first_bad") rfl),
    f_System_policies := fdA_of F36,
    q_System_policies := He.meth_ok (c.p.m.d.fact 81 (f := .meth "System" "policies") rfl),
    fi_System_policies := fnIn_of F36,
    f__law_lists_right := fdA_of F22,
    m__law_lists_right := He.glo_ok X G (c.p.m.d.fact 22 (f := .glo "_law_lists_right") rfl),
    f__law_pool := fdA_of F23,
    m__law_pool := He.glo_ok X G (c.p.m.d.fact 23 (f := .glo "_law_pool") rfl),
    f_law := fdA_of F24,
    m_law := He.glo_ok X G (c.p.m.d.fact 24 (f := .glo "law") rfl),
    kt_Policy_init_ending := fun H => kwTupB_ok y1 H,
    tb__law_doors_right := hTB (He.cT K ("_law_doors_right", none)) (List.mem_map.mpr ⟨("_law_doors_right", none), by simp [tfs], rfl⟩),
    cd__law_doors_right := FL.code_at (fdA_of F20),
    tm__law_doors_right := List.mem_map.mpr ⟨("_law_doors_right", none), by simp [tfs], rfl⟩,
    tu__law_doors_right := distB_ok y4 (d := ("_law_doors_right", none)) (by simp [tfs]),
    tb__law_lists_right := hTB (He.cT K ("_law_lists_right", none)) (List.mem_map.mpr ⟨("_law_lists_right", none), by simp [tfs], rfl⟩),
    cd__law_lists_right := FL.code_at (fdA_of F22),
    tm__law_lists_right := List.mem_map.mpr ⟨("_law_lists_right", none), by simp [tfs], rfl⟩,
    tu__law_lists_right := distB_ok y4 (d := ("_law_lists_right", none)) (by simp [tfs]),
    tb_law := hTB (He.cT K ("law", none)) (List.mem_map.mpr ⟨("law", none), by simp [tfs], rfl⟩),
    cd_law := FL.code_at (fdA_of F24),
    tm_law := List.mem_map.mpr ⟨("law", none), by simp [tfs], rfl⟩,
    tu_law := distB_ok y4 (d := ("law", none)) (by simp [tfs]),
    m_Policy := He.glo_ok X G (c.p.m.d.fact 25 (f := .glo "Policy") rfl),
    k_Policy := He.cls_ok (c.p.m.d.fact 59 (f := .cls "Policy") rfl),
    i_Policy := He.mkr_ok (c.p.m.d.fact 60 (f := .mkr "Policy") rfl),
    a_Policy_own_name := He.noat_ok (c.p.m.d.fact 61 (f := .noat "Policy" "own_name") rfl),
    a_Policy_own_limit := He.noat_ok (c.p.m.d.fact 62 (f := .noat "Policy" "own_limit") rfl),
    a_Policy_own_tries := He.noat_ok (c.p.m.d.fact 63 (f := .noat "Policy" "own_tries") rfl),
    a_Policy_own_pauses := He.noat_ok (c.p.m.d.fact 64 (f := .noat "Policy" "own_pauses") rfl),
    a_Policy_own_early := He.noat_ok (c.p.m.d.fact 65 (f := .noat "Policy" "own_early") rfl),
    a_Policy_own_lossy := He.noat_ok (c.p.m.d.fact 66 (f := .noat "Policy" "own_lossy") rfl),
    a_Policy_own_ending := He.noat_ok (c.p.m.d.fact 67 (f := .noat "Policy" "own_ending") rfl),
    m_System := He.glo_ok X G (c.p.m.d.fact 26 (f := .glo "System") rfl),
    k_System := He.cls_ok (c.p.m.d.fact 68 (f := .cls "System") rfl),
    i_System := He.mkr_ok (c.p.m.d.fact 69 (f := .mkr "System") rfl),
    a_System_own_policies := He.noat_ok (c.p.m.d.fact 70 (f := .noat "System" "own_policies") rfl),
    a_System_own_blocks := He.noat_ok (c.p.m.d.fact 71 (f := .noat "System" "own_blocks") rfl),
    x_InvalidName := ⟨C0, xe2 "InvalidName" (by decide), (xe1 "InvalidName" (by decide) "InvalidName" (by decide)).trans (by decide)⟩,
    g_InvalidName := G0,
    n_InvalidName_value := G0.no1,
    x_InvalidPolicy := ⟨C1, xe2 "InvalidPolicy" (by decide), (xe1 "InvalidPolicy" (by decide) "InvalidPolicy" (by decide)).trans (by decide)⟩,
    g_InvalidPolicy := G1,
    n_InvalidPolicy_field := G1.no1,
    x_InvalidPolicies := ⟨C2, xe2 "InvalidPolicies" (by decide), (xe1 "InvalidPolicies" (by decide) "InvalidPolicies" (by decide)).trans (by decide)⟩,
    g_InvalidPolicies := G2,
    n_InvalidPolicies_number := G2.no1,
    x_InvalidServices := ⟨C3, xe2 "InvalidServices" (by decide), (xe1 "InvalidServices" (by decide) "InvalidServices" (by decide)).trans (by decide)⟩,
    g_InvalidServices := G3,
    n_InvalidServices_number := G3.no1,
    x_InvalidPart := ⟨C4, xe2 "InvalidPart" (by decide), (xe1 "InvalidPart" (by decide) "InvalidPart" (by decide)).trans (by decide)⟩,
    g_InvalidPart := G4,
    n_InvalidPart_service := G4.no1,
    n_InvalidPart_place := G4.no2,
    x_UnknownName := ⟨C5, xe2 "UnknownName" (by decide), (xe1 "UnknownName" (by decide) "UnknownName" (by decide)).trans (by decide)⟩,
    g_UnknownName := G5,
    n_UnknownName_value := G5.no1,
    x_TooLong := ⟨C6, xe2 "TooLong" (by decide), (xe1 "TooLong" (by decide) "TooLong" (by decide)).trans (by decide)⟩,
    g_TooLong := G6,
    n_TooLong_service := G6.no1,
    ex := xe1,
    b_isinstance := He.free_ok X G (c.p.m.d.fact 28 (f := .free "isinstance") rfl),
    b_len := He.free_ok X G (c.p.m.d.fact 29 (f := .free "len") rfl),
    b_all := He.free_ok X G (c.p.m.d.fact 30 (f := .free "all") rfl),
    b_any := He.free_ok X G (c.p.m.d.fact 31 (f := .free "any") rfl),
    b_sum := He.free_ok X G (c.p.m.d.fact 32 (f := .free "sum") rfl),
    b_max := He.free_ok X G (c.p.m.d.fact 33 (f := .free "max") rfl),
    b_min := He.free_ok X G (c.p.m.d.fact 34 (f := .free "min") rfl),
    b_repr := He.free_ok X G (c.p.m.d.fact 35 (f := .free "repr") rfl),
    b_int := He.free_ok X G (c.p.m.d.fact 36 (f := .free "int") rfl),
    b_bool := He.free_ok X G (c.p.m.d.fact 37 (f := .free "bool") rfl),
    b_str := He.free_ok X G (c.p.m.d.fact 38 (f := .free "str") rfl),
    b_tuple := He.free_ok X G (c.p.m.d.fact 39 (f := .free "tuple") rfl),
    b_list := He.free_ok X G (c.p.m.d.fact 40 (f := .free "list") rfl),
    b_range := He.free_ok X G (c.p.m.d.fact 41 (f := .free "range") rfl),
    b_enumerate := He.free_ok X G (c.p.m.d.fact 42 (f := .free "enumerate") rfl),
    b_sorted := He.free_ok X G (c.p.m.d.fact 43 (f := .free "sorted") rfl),
    c_MAX_LETTERS := He.int_ok X G (c.p.m.d.fact 44 (f := .int "MAX_LETTERS" 8) rfl),
    c_MAX_RUN := He.int_ok X G (c.p.m.d.fact 45 (f := .int "MAX_RUN" 20) rfl),
    c_MAX_DEPTH := He.int_ok X G (c.p.m.d.fact 46 (f := .int "MAX_DEPTH" 3) rfl),
    c_MAX_LIMIT := He.int_ok X G (c.p.m.d.fact 47 (f := .int "MAX_LIMIT" 20) rfl),
    c_MAX_TRIES := He.int_ok X G (c.p.m.d.fact 48 (f := .int "MAX_TRIES" 3) rfl),
    c_MAX_PAUSE := He.int_ok X G (c.p.m.d.fact 49 (f := .int "MAX_PAUSE" 8) rfl),
    c_MAX_DELAY := He.int_ok X G (c.p.m.d.fact 50 (f := .int "MAX_DELAY" 20) rfl),
    c_MAX_POLICIES := He.int_ok X G (c.p.m.d.fact 51 (f := .int "MAX_POLICIES" 8) rfl),
    c_MAX_SERVICES := He.int_ok X G (c.p.m.d.fact 52 (f := .int "MAX_SERVICES" 6) rfl),
    c_MAX_PARTS := He.int_ok X G (c.p.m.d.fact 53 (f := .int "MAX_PARTS" 12) rfl),
    c_MAX_SPAN := He.int_ok X G (c.p.m.d.fact 54 (f := .int "MAX_SPAN" 400) rfl),
    c_LETTERS := He.str_ok X G (c.p.m.d.fact 55 (f := .str "LETTERS" "abcdefghijklmnopqrstuvwxyz") rfl),
    c_GO := He.str_ok X G (c.p.m.d.fact 56 (f := .str "GO" "go") rfl),
    c_STOP := He.str_ok X G (c.p.m.d.fact 57 (f := .str "STOP" "stop") rfl),
    c_DEADLINE := He.str_ok X G (c.p.m.d.fact 58 (f := .str "DEADLINE" "deadline") rfl),
    c_SIZES := He.glo_ok X G (c.p.m.d.fact 27 (f := .glo "SIZES") rfl),
    t_SIZES := ktab_of (c.t (fun K => He.ga K "SIZES", TB_SIZES.map (·.1)) (by simp [ts])) y0 rfl,
    kit := kitB_ok y2 (by intro C hC; simp only [CS, List.mem_cons, List.not_mem_nil, or_false] at hC; rcases hC with rfl | rfl <;> first | exact He.cls_ok (c.p.m.d.fact 59 (f := .cls "Policy") rfl) | exact He.cls_ok (c.p.m.d.fact 68 (f := .cls "System") rfl)) }
  have hW := w_law hE
  have ee : fdA K (He.ga K "law") = e24 := by
    obtain ⟨oc, od, dV, kV, doc, pm, an, cdv, ct, osl, z, lk, _⟩ := F24.ex
    unfold fdA
    rw [show K.lookup (He.ga K "law") = _ from lk]
  rw [← ee]
  exact hW
end K06
open PySem PySem.W PySem.Calls PyProof.Rows
set_option maxRecDepth 100000 in
set_option maxHeartbeats 0 in
theorem PySem.Challenge.cw_mostcalls_k06_systems_refused_holds : PySem.Challenge.rw_mostcalls_k06_systems_refused.Holds := by
  w_on; o_law
  refine HandSHeadRun.head_any (r := OpenLaw.row PySem.Challenge.rw_mostcalls_k06_systems_refused) (q := view (OpenLaw.row PySem.Challenge.rw_mostcalls_k06_systems_refused).prog [57]) (H := K06.hk) (ob := K06.ob) (M := 20000) (loose := K06.names) (d := HandSHeadRun.topDef (OpenLaw.row PySem.Challenge.rw_mostcalls_k06_systems_refused).prog 57) (kwd := []) K06.ob_eq
    (by kernel_rfl) (fun s => by kernel_rfl) K06.run (by kernel_rfl) (by kernel_rfl) (by kernel_rfl) (by rfl) (by first | assumption | decide +kernel) (by decide +kernel) ⟨rfl, rfl, rfl, rfl, rfl, by decide +kernel⟩ ?hw ?hc
  case hw => w_witness2
  case hc =>
    refine FL.walk_ofR (l := PySem.Challenge.rw_mostcalls_k06_systems_refused) (n := 63) (k := 20) (x := "_law_script") (CX := fun w => L2.CX K06.R.prog w) rfl (by decide) (by kernel_rfl) ⟨rfl, by decide, by decide⟩ ?F (fun _ _ _ _ _ ⟨_, _, _, _, _, _, _, _, _, _, _, _, q⟩ => q)
    intro w mg fa h Y G hmg0
    obtain ⟨K, KX, c⟩ := Y
    have hmg : mg ("law" : PySem.Str) = some (.ref fa) := by
      have e : (HandSHeadRun.topDef (OpenLaw.row PySem.Challenge.rw_mostcalls_k06_systems_refused).prog 57).name = ("law" : PySem.Str) := by kernel_rfl
      rw [← e]
      exact hmg0
    obtain ⟨fd, hb, hF⟩ := K06.facts (w := w) KX G hmg c
    refine ⟨K, fd, K06.tfs.map (He.cT K), FL.spM 1 K (K06.gaK K) K06.m_law, KX, hb, fun p hp => ?_, fun H a ns hl hT hS => FL.end_sp (fun p hp => ?_) hS (K06.law_ok ns hl), hF⟩
    · obtain ⟨d, hd, rfl⟩ := List.mem_map.mp hp
      obtain ⟨z1, z2, z3⟩ := c.c d hd
      exact ⟨z3, z2, PySem.W.codeHd_of_K KX z1⟩
    · obtain ⟨d, hd, rfl⟩ := List.mem_map.mp hp
      exact LamX.TabS.nil (hT (He.cT K d) (List.mem_map.mpr ⟨d, hd, rfl⟩))
#print axioms PySem.Challenge.cw_mostcalls_k06_systems_refused_holds
