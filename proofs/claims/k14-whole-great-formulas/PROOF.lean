import PyProof.Rows.All
import Wide.All
import OpenK.AllK
import Wide.FinOn
import HandS.Codes
import HandS.Conv
import HandS.Deep
import HandS.Defaults
import HandS.Dict
import HandS.DictComp
import HandS.ForMost
import HandS.IsInst
import HandS.Iter
import HandS.More
import HandS.Nested
import HandS.SetFor
import HandS.Strs
import HandS.Style
import HandS.TupAny
import HandS.TupMul
import HandS.Zip
import KE.DataMinMax
import KE.KDictCopyH
import KE.KDictPairs
import KE.KDictSum
import KE.KNestM
import KE.KRevSl
import KE.KSortAsk
import KE.LtData
import KE.SortData
import PyProof.CallFns
import PyProof.EqKinds
import PyProof.FactsAll.NoneType_1
import PyProof.FactsAll.bool_1
import PyProof.ReprRoads
import PySem.Challenge.RW_everychoice_k14_whole_great_formulas_by
set_option Elab.async false
set_option linter.all false
set_option maxRecDepth 100000
/-! L0: what differs from law to law: its lambdas, the code tables that they are written into. -/
namespace WL
open PySem PySem.Spec PyProof.Rows L2
/-- a lambda: its name, its parameters, its body, its names, the names that it captures -/
structure Lam where
  qual : Str
  params : Arguments
  body : Expr
  scope : Scope
  fr : List Str
def retX (i j : Nat) : Expr := match (PySem.Challenge.pw_everychoice_k14_whole_great_formulas_by.main.body.getD i (.Pass ⟨0, 0, 0, 0⟩)) with
  | .FunctionDef _ _ b _ _ _ _ _ _ _ => match b.getD j (.Pass ⟨0, 0, 0, 0⟩) with
    | .Return (some e) _ => e
    | _ => .Constant .none 0 ⟨0, 0, 0, 0⟩
  | _ => .Constant .none 0 ⟨0, 0, 0, 0⟩
def argX (k : Nat) : Expr → Expr
  | .Call _ xs _ _ => xs.getD k (.Constant .none 0 ⟨0, 0, 0, 0⟩)
  | e => e
def lamP : Expr → Arguments
  | .Lambda p _ _ _ => p
  | _ => ⟨[], [], none, [], [], none, []⟩
def lamB : Expr → Expr
  | .Lambda _ b _ _ => b
  | e => e
def lamS : Expr → Scope
  | .Lambda _ _ s _ => s
  | _ => ⟨.function, [], false, false, []⟩
def lx0 : Expr := argX 1 (retX 38 4)
def lam0 : Lam := ⟨(("fixed_formula" : Str) ++ ".<locals>.") ++ "<lambda>", lamP lx0, lamB lx0, lamS lx0, ["switch", "is_on"]⟩
def lx1 : Expr := argX 1 (retX 39 3)
def lam1 : Lam := ⟨(("turned_formula" : Str) ++ ".<locals>.") ++ "<lambda>", lamP lx1, lamB lx1, lamS lx1, ["switch"]⟩
/-- the law's tables of code objects, each with the name that its code objects bear -/
def lawTabs : List (Addr × Str) := [(250, (("fixed_formula" : Str) ++ ".<locals>.") ++ "<lambda>"), (257, (("turned_formula" : Str) ++ ".<locals>.") ++ "<lambda>")]
/-- the law's lambdas -/
def lawLams : List Lam := [lam0, lam1]
end WL

set_option maxHeartbeats 1000000
/-! W0: new tuples, told exactly. -/
namespace WL
open PySem PySem.Spec PyProof.Rows L2
/-- a tuple's object, as it is made -/
abbrev tupO (its : List Value) : Obj := { cls := .type "tuple", data := .seq its.toArray }
/-- a tuple without a dict of its own: made here, or an object of the module -/
def TAt (K : PySem.W.Frag) (H : Hp) (a : Addr) (xs : List V) : Prop :=
  (∃ its, H a = some (.frz (tupO its) (.tup xs))) ∨ ∃ (o : Obj) (its : Array Value) (n : Nat), K.lookup a = some o ∧ o.cls = .type "tuple" ∧ o.dict = none ∧ o.data = .seq its n ∧ its.size ≤ sizeLine ∧ Vals xs its.toList
theorem TAt.sq {K : PySem.W.Frag} {H : Hp} {a : Addr} {xs : List V} (h : TAt K H a xs) : SqT K H a xs := by
  rcases h with ⟨its, h⟩ | ⟨o, its, n, h1, h2, h3, h4, h5, h6⟩
  · exact .inl (.inr ⟨_, h⟩)
  · exact .inr ⟨o, its, n, h1, h2, h4, h5, h6⟩
instance {K : PySem.W.Frag} {H : Hp} {a : Addr} {xs : List V} : CoeOut (TAt K H a xs) (SqT K H a xs) := ⟨TAt.sq⟩
/-- a new tuple of these -/
def newT (H : Hp) (xs : List V) (Q : VK) : Prop := ∀ p its, H p = none → Q (.ref p) (upd H p (.frz (tupO its) (.tup xs)))
section
variable {X : Cx} {pins : List (Addr × Obj)} {σ : L2.St} {H : Hp} {s : Shared}
theorem tupO_ok {P : Program} {w : World} {xs : List V} {its : List Value} {h : Heap} {a : Addr} (r : Vals xs its) (hz : xs.length ≤ sizeLine) (e : h.get? a = some (tupO its)) : ObjOk P w H h a (.frz (tupO its) (.tup xs)) :=
  ⟨e, hz, its, r, ⟨_, e, rfl, _, rfl⟩⟩
theorem inv_tup {xs : List V} {its : List Value} {t' : Nat} (I : Inv X pins σ H s) (r : Vals xs its) (hz : xs.length ≤ sizeLine) :
    Inv X pins σ (upd H s.heap.objs.size (.frz (tupO its) (.tup xs))) { s with heap := s.heap.push (tupO its), toks := t' } :=
  I.laid (t' := t') (fun b ob q => Heap.get?_push_of_some _ q) (Nat.le_refl _) (tupO_ok r hz (Heap.get?_push_size _ rfl))
/-- what tells of the dict -/
theorem Inv.plainT {a : Addr} {xs : List V} (I : Inv X pins σ H s) (h : TAt X.K H a xs) : ∃ o, s.heap.get? a = some o ∧ o.cls = .type "tuple" ∧ o.dict = none := by
  rcases h with ⟨its, h⟩ | ⟨o, its, n, h1, h2, h3, _⟩
  · exact ⟨_, (I.hok a _ h).1, rfl, rfl⟩
  · exact ⟨o, I.kIn a o h1, h2, h3⟩
end
section
variable {X : Cx}
def tTupF (t : TA) : TE := fun σ H Q => t σ H fun xs H1 => xs.length ≤ sizeLine ∧ newT H1 xs Q
theorem pe_tupF {x1} {es : List Expr} {pos : Pos} {t : TA} (h : PA X es t) : PE X (.Tuple es x1 pos) (tTupF t) := by
  refine ⟨fun pins s σ H Q I hq => wpAny_Tuple_spliced (thn (h.run pos pins s σ H _ I hq) fun us s1 ⟨xs, H1, I1, r, z, q⟩ => ⟨by rw [← r.length]; exact z, ?_⟩)⟩
  exact ⟨.ref s1.heap.objs.size, _, inv_tup (t' := s1.toks) I1 r z, rfl, q _ _ (I1.hok.fresh (Nat.le_refl _))⟩
theorem call_tupF : CallR X (.type "tuple") (fun xs H Q => ∃ p ys, xs = [.ref p] ∧ ((SqL X.K H p ys ∧ newT H ys Q) ∨ (SqT X.K H p ys ∧ Q (.ref p) H))) := by
  intro pins s σ H xs us Q I r h
  obtain ⟨p, ys, rfl, h⟩ := h
  obtain ⟨u, rfl, rx⟩ := vals1 r
  cases rx
  rcases h with ⟨hq, q⟩ | ⟨hq, q⟩
  · obtain ⟨its, r', pl, hz⟩ := I.list hq
    have len := r'.length
    refine call_tuple_list pl.isList (fun h' kp => ?_) (by simp only [List.size_toArray] <;> omega)
    have I1 : Inv X pins σ H { s with heap := h' } := I.kept (t' := s.toks) kp
    exact ⟨.ref h'.objs.size, _, inv_tup (t' := s.toks) I1 r' hz, rfl, q _ _ (I1.hok.fresh (Nat.le_refl _))⟩
  · obtain ⟨its, r', pl, hz⟩ := I.tuple hq
    exact call_tuple_same pl ⟨.ref p, H, I, rfl, q⟩
/-- t + u -/
def rCatF (K : PySem.W.Frag) : R2 := fun x y H Q => ∃ a b xs ys, x = .ref a ∧ y = .ref b ∧ SqT K H a xs ∧ SqT K H b ys ∧ xs.length + ys.length ≤ sizeLine ∧ (xs = [] → Q (.ref b) H) ∧ (xs ≠ [] → ys = [] → Q (.ref a) H) ∧ newT H (xs ++ ys) Q
theorem op_catF : OpR X (binaryOp .Add) (rCatF X.K) := by
  intro pins s σ H x y v u Q I rx ry h
  obtain ⟨a, b, xs, ys, rfl, rfl, ha, hb, hz, q0, q1, q2⟩ := h
  cases rx
  cases ry
  obtain ⟨its, r1, p1, _⟩ := I.tuple ha
  obtain ⟨its2, r2, p2, _⟩ := I.tuple hb
  by_cases hx : xs = []
  · subst hx
    cases r1
    exact cat_tup0 p1 p2 ⟨.ref b, H, I, rfl, q0 rfl⟩
  · refine HT.cat_tup p1 p2 (fun z => hx (r1.nil_iff.mp z)) (fun z => ⟨.ref a, H, I, rfl, q1 hx (r2.nil_iff.mp z)⟩) (fun z => ?_) (by rw [← r1.length, ← r2.length]; exact hz)
    exact ⟨.ref s.heap.objs.size, _, inv_tup (t' := s.toks) I (r1.append r2) (by rw [List.length_append]; exact hz), rfl, q2 _ _ (I.hok.fresh (Nat.le_refl _))⟩
/-- t[lo:hi] -/
def rSlF (K : PySem.W.Frag) : V → Option Int → Option Int → Hp → VK → Prop := fun x lo hi H Q => ∃ a xs, x = .ref a ∧ SqT K H a xs ∧ (HT.sIx xs.length 0 lo = 0 ∧ HT.sIx xs.length xs.length hi = xs.length → Q (.ref a) H) ∧ newT H (cutV xs lo hi) Q
theorem sl_tupF : SlR X (rSlF X.K) := by
  intro pins s σ H x v vl vu lo hi sl Q I rx hs pl pu h
  obtain ⟨a, xs, rfl, hx, q1, q2⟩ := h
  cases rx
  obtain ⟨its, r, ht, hz⟩ := I.tuple hx
  have len : its.toArray.size = xs.length := by rw [List.size_toArray]; exact r.length.symm
  refine ⟨"tuple", _, PyProof.Rows.slot_tuple_getitem.lookup, ht.typeIs, ?_⟩
  by_cases hw : HT.sIx xs.length 0 lo = 0 ∧ HT.sIx xs.length xs.length hi = xs.length
  · exact getItem_tuple_whole ht hs pl pu (by rw [len]; exact hw) ⟨.ref a, H, I, rfl, q1 hw⟩
  · refine HT.getItem_tuple_cut ht hs pl pu (by rw [len]; exact hw) ?_ (by rw [len]; exact hz)
    rw [len]
    exact ⟨.ref s.heap.objs.size, _, inv_tup (t' := s.toks) I ((r.drop (HT.sIx xs.length 0 lo)).take (HT.sIx xs.length xs.length hi - HT.sIx xs.length 0 lo)) (Nat.le_trans (cutV_length xs lo hi) hz), rfl, q2 _ _ (I.hok.fresh (Nat.le_refl _))⟩
/-- t * k, k at least 2 -/
def rRepF (K : PySem.W.Frag) : R2 := fun x y H Q => ∃ l k xs, x = .ref l ∧ y = .int k ∧ SqT K H l xs ∧ xs ≠ [] ∧ 2 ≤ k ∧ k ≤ 1000 ∧ xs.length ≤ 1000 ∧ newT H (List.replicate k.toNat xs).flatten Q
theorem op_repF : OpR X (binaryOp .Mult) (rRepF X.K) := by
  intro pins s σ H x y v u Q I rx ry h
  obtain ⟨l, k, xs, rfl, rfl, hT, hne, h1, h2, hz, q⟩ := h
  cases rx
  obtain ⟨t, rfl⟩ := ry
  obtain ⟨its, r, ⟨⟨cls, dd, data, sl⟩, ho, hc, n, hd⟩, hs⟩ := I.tuple hT
  simp only at hc hd
  subst hc hd
  have len : its.length = xs.length := r.length.symm
  have nn : its ≠ [] := fun e => hne (List.eq_nil_of_length_eq_zero (by rw [← len, e]; rfl))
  have ne : its.toArray.isEmpty = false := by
    cases its with
    | nil => exact absurd rfl nn
    | cons a b => rfl
  have big : k.toNat * xs.length ≤ 1000 * 1000 := Nat.mul_le_mul (by omega) hz
  have fits : (List.replicate k.toNat its).flatten.length ≤ sizeLine := by
    rw [PyProof.Rows.lm_len_rep_flat, len, sizeLine_eq]
    omega
  have hm : ((its.toArray.size : Nat) : Int) * k ≤ 1000000 := by
    have e1 : its.toArray.size = xs.length := by rw [List.size_toArray, len]
    have a1 : ((xs.length : Nat) : Int) * k ≤ 1000 * k := Int.mul_le_mul_of_nonneg_right (by omega) (by omega)
    rw [e1]
    omega
  have few : Builtin.Tuple.tupleTooMany (((its.toArray.size : Nat) : Int) * k) = false := by
    unfold Builtin.Tuple.tupleTooMany
    rw [sizeLine_eq]
    exact decide_eq_false (by omega)
  have b0 : (decide (k < -(2 ^ 63)) || decide (k ≥ 2 ^ 63)) = false := by rw [decide_eq_false (by omega), decide_eq_false (by omega)] <;> rfl
  have b1 : (its.toArray.isEmpty || k == 1) = false := by rw [ne, Bool.false_or]; exact beq_eq_false_iff_ne.mpr (by omega)
  have b2 : (decide (k ≤ 0) || its.toArray.isEmpty) = false := by rw [ne, Bool.or_false]; exact decide_eq_false (by omega)
  refine wpAny_binaryOp_repeat_ref (T := "tuple") (U := "int") (by decide) ⟨_, ho, rfl⟩ (fun s' => typeIs_int s' k t) noFill_tuple_mul F.fills_int_mul F.slot_int_rmul repeat_tuple F.slot_int_index.lookup
    (call_meets F.slot_int_rmul (typeIs_int s k t) F.entry_int_rmul (F.args_int_rmul_2 _ _) (int_rmul_tuple k t l its.toArray n dd sl)
      ⟨ho, rfl, ⟨_, ho, rfl⟩, call_meets F.slot_tuple_mul ⟨_, ho, rfl⟩ F.entry_tuple_mul (F.args_tuple_mul_2 _ _) (tuple_mulW l its.toArray n dd sl k t b0 b1 b2 (by omega) few (by rw [size_rep, List.size_toArray]; exact fits)) ⟨ho, ?_⟩⟩)
  rw [size_rep]
  exact ⟨.ref s.heap.objs.size, _, inv_tup (t' := s.toks) I (r.rep k.toNat) (by rw [PyProof.Rows.lm_len_rep_flat, sizeLine_eq]; omega), rfl, q _ _ (I.hok.fresh (Nat.le_refl _))⟩
theorem call_divmodF : CallR X (.builtin "divmod") (fun xs H Q => ∃ i j, xs = [.int i, .int j] ∧ CDiv i j ∧ newT H [.int (i / j), .int (i % j)] Q) := by
  intro pins s σ H xs us Q I r h
  obtain ⟨i, j, rfl, ⟨h1, h2⟩, q⟩ := h
  obtain ⟨u, w', rfl, ⟨t, rfl⟩, ⟨t', rfl⟩⟩ := vals2 r
  refine divmod_int (by omega) ?_ (.inl (PyProof.noPylong_small (by omega)))
  rw [Int.fdiv_eq_ediv_of_nonneg i (by omega), Int.fmod_eq_emod_of_nonneg i (by omega)]
  exact ⟨.ref s.heap.objs.size, _, inv_tup (xs := [.int (i / j), .int (i % j)]) (its := [.int (i / j) s.toks, .int (i % j) (s.toks + 1)]) I (.cons ⟨_, rfl⟩ (.cons ⟨_, rfl⟩ .nil)) (show 2 ≤ sizeLine by decide), rfl, q _ _ (I.hok.fresh (Nat.le_refl _))⟩
end
end WL
namespace ZM
open PySem PySem.Spec PyProof.Rows L2 RZ
/-- a state of an iterator: it hangs on what stands at i and at l alone -/
def Dep (i l : Addr) (S : Heap → Prop) : Prop := ∀ h h' : Heap, (∀ c o, c = i ∨ c = l → h.get? c = some o → h'.get? c = some o) → S h → S h'
def Gives (i : Addr) (S T : Heap → Prop) (x : Value) : Prop := ∀ (prog : Program) (w : World) (A : Around) (E : Value → Shared → Prop) (s : Shared) (Q : Value → Shared → Prop), S s.heap →
  (∀ h', T h' → Heap.SameBut i s.heap h' → Q x { s with heap := h' }) → wpAny (model prog w) A (Builtin.SmallTypes.nextOf (.ref i)) Q E s
def Stops (i : Addr) (S : Heap → Prop) : Prop := ∀ (prog : Program) (w : World) (A : Around) (E : Value → Shared → Prop) (s : Shared) (Q : Value → Shared → Prop), A.handled = none → S s.heap →
  (∀ h' e, Heap.ExtBut i s.heap h' → (∃ o, h'.get? e = some o ∧ o.cls = .type "StopIteration") → E (.ref e) { s with heap := h' }) → wpAny (model prog w) A (Builtin.SmallTypes.nextOf (.ref i)) Q E s
section
variable {i l : Addr} {k : Nat} {xs : Array Value}
theorem dep_tup : Dep i l fun h => h.IsTupleIter i l k ∧ h.IsTuple l xs := fun _ _ e ⟨⟨o, a, b⟩, ⟨u, c, d⟩⟩ => ⟨⟨o, e _ _ (.inl rfl) a, b⟩, ⟨u, e _ _ (.inr rfl) c, d⟩⟩
theorem dep_lst : Dep i l fun h => h.IsListIter i l k ∧ h.IsList l xs := fun _ _ e ⟨⟨o, a, b⟩, ⟨u, c, d⟩⟩ => ⟨⟨o, e _ _ (.inl rfl) a, b⟩, ⟨u, e _ _ (.inr rfl) c, d⟩⟩
theorem gives_tup {x : Value} (ne : l ≠ i) (hx : xs[k]? = some x) : Gives i (fun h => h.IsTupleIter i l k ∧ h.IsTuple l xs) (fun h => h.IsTupleIter i l (k + 1) ∧ h.IsTuple l xs) x := fun prog w A E s Q ⟨a, b⟩ q =>
  nextOf_tuple_item a b hx fun h' c d => q h' ⟨c, by
    obtain ⟨u, e, r⟩ := b
    exact ⟨u, (d.2 _ ne).trans e, r⟩⟩ d
theorem gives_lst {x : Value} (ne : l ≠ i) (hx : xs[k]? = some x) : Gives i (fun h => h.IsListIter i l k ∧ h.IsList l xs) (fun h => h.IsListIter i l (k + 1) ∧ h.IsList l xs) x := fun prog w A E s Q ⟨a, b⟩ q =>
  wpAny_nextOf_list_item a b hx fun h' c d => q h' ⟨c, by
    obtain ⟨u, e, r⟩ := b
    exact ⟨u, (d.2 _ ne).trans e, r⟩⟩ d
theorem stops_tup (hx : xs[k]? = none) : Stops i fun h => h.IsTupleIter i l k ∧ h.IsTuple l xs := fun prog w A E s Q hh ⟨a, b⟩ q => nextOf_tuple_end hh a b hx q
theorem stops_lst (hx : xs[k]? = none) : Stops i fun h => h.IsListIter i l k ∧ h.IsList l xs := fun prog w A E s Q hh ⟨a, b⟩ q => wpAny_nextOf_list_end hh a b hx q
end
section
variable {prog : Program} {w : World} {A : Around} {E : Value → Shared → Prop} {s : Shared} {z TI TO i1 i2 l1 l2 : Addr} {a b x y : Value} {S1 S2 T1 T2 : Heap → Prop}
/-- the change of a heap outside some places -/
theorem dep_go {i l : Addr} {S : Heap → Prop} {h h' : Heap} (d : Dep i l S) {c : Addr} (e : Heap.ExtBut c h h') (n1 : i ≠ c) (n2 : l ≠ c) (q : S h) : S h' := d h h' (fun u o hu e' => e u o (by
  rcases hu with r | r
  · rw [r]; exact n1
  · rw [r]; exact n2) e') q
theorem next_item {Q : Value → Shared → Prop} (Z : ZipApart z TI TO i1 i2 l1 l2) (gz : IsZip s.heap z TI TO .none) (gi : IsPair s.heap TI (.ref i1) (.ref i2)) (go : IsPair s.heap TO a b)
    (d1 : Dep i1 l1 S1) (d2 : Dep i2 l2 S2) (d3 : Dep i1 l1 T1) (d4 : Dep i2 l2 T2) (v1 : Gives i1 S1 T1 x) (v2 : Gives i2 S2 T2 y) (q1 : S1 s.heap) (q2 : S2 s.heap)
    (K : ∀ h', IsZip h' z TI TO (rawInt s.heap.objs.size) → IsPair h' TO x y → T1 h' → T2 h' → IsPair h' s.heap.objs.size x y → h'.objs.size = s.heap.objs.size + 1 →
      (∀ c o, c ≠ z → c ≠ TO → c ≠ i1 → c ≠ i2 → s.heap.get? c = some o → h'.get? c = some o) → Q (.ref s.heap.objs.size) { s with heap := h' }) :
    wpAny (model prog w) A (Builtin.«zip.__next__» ⟨[.ref z], []⟩) (fun fin s' => ∃ v, fin = .done (.ret v) ∧ Q v s') E s := by
  show wpAny _ _ (field (.ref z) 2 >>= _) _ _ _
  refine wpAny_bind (wpAny_field gz rfl (x := .bool false) rfl ?_)
  show wpAny _ _ (field (.ref z) 3 >>= _) _ _ _
  refine wpAny_bind (wpAny_field gz rfl (x := .ref TI) rfl ?_)
  refine wpAny_bind (wpAny_seqItems gi rfl ?_)
  show wpAny _ _ (Builtin.SmallTypes.ownedTupleIsFree _ >>= _) _ _ _
  refine wpAny_bind ?_
  unfold Builtin.SmallTypes.ownedTupleIsFree
  refine wpAny_bind (wpAny_field gz rfl (x := .none) rfl (wpAny_pure ?_))
  simp only [if_true]
  refine wpAny_bind (wpAny_rule ?_)
  refine wpAny_bind (wpAny_field gz rfl (x := .ref TO) rfl ?_)
  refine wpAny_bind (wpAny_setField_rec gz (by simp) fun m1 gz1 r1 => ?_)
  replace gz1 : IsZip m1 z TI TO .ellipsis := gz1
  refine wpAny_bind ?_
  simp only [List.zipIdx_cons, List.zipIdx_nil, List.forIn_cons, List.forIn_nil]
  refine wpAny_bind (wpAny_bind (wpAny_onRaise ?_))
  show wpAny _ _ (Builtin.SmallTypes.nextOf (.ref i1) >>= _) _ _ _
  refine wpAny_bind (v1 _ _ _ _ _ _ (dep_go d1 r1.extBut Z.i1z Z.l1z q1) fun m2 t1 r2 => wpAny_pure ?_)
  have go2 : IsPair m2 TO a b := r2.extBut _ _ Z.TOi1 (r1.extBut _ _ Z.TOz go)
  refine wpAny_bind (wpAny_seqItems go2 rfl ?_)
  refine wpAny_bind (wpAny_updateSeq_pair go2 fun m3 go3 r3 => ?_)
  replace go3 : IsPair m3 TO x b := go3
  refine wpAny_bind (wpAny_letGo (wpAny_pure ?_))
  refine wpAny_bind (wpAny_bind (wpAny_onRaise ?_))
  show wpAny _ _ (Builtin.SmallTypes.nextOf (.ref i2) >>= _) _ _ _
  refine wpAny_bind (v2 _ _ _ _ _ _ (dep_go d2 r3.extBut Z.TOi2.symm Z.l2TO (dep_go d2 r2.extBut Z.i12.symm Z.l2i1 (dep_go d2 r1.extBut Z.i2z Z.l2z q2))) fun m4 t2 r4 => wpAny_pure ?_)
  have go4 : IsPair m4 TO x b := r4.extBut _ _ Z.TOi2 go3
  refine wpAny_bind (wpAny_seqItems go4 rfl ?_)
  refine wpAny_bind (wpAny_updateSeq_pair go4 fun m5 go5 r5 => ?_)
  replace go5 : IsPair m5 TO x y := go5
  refine wpAny_bind (wpAny_letGo (wpAny_pure (wpAny_pure ?_)))
  refine wpAny_bind (wpAny_seqItems go5 rfl ?_)
  refine wpAny_bind (wpAny_newTuple ?_)
  have sz5 : m5.objs.size = s.heap.objs.size := by rw [r5.1, r4.1, r3.1, r2.1, r1.1]
  have gz5 : IsZip m5 z TI TO .ellipsis := r5.extBut _ _ Z.TOz.symm (r4.extBut _ _ Z.i2z.symm (r3.extBut _ _ Z.TOz.symm (r2.extBut _ _ Z.i1z.symm gz1)))
  have kp5 : ∀ c o, c ≠ z → c ≠ TO → c ≠ i1 → c ≠ i2 → s.heap.get? c = some o → m5.get? c = some o := fun c o n1 n2 n3 n4 e =>
    r5.extBut _ _ n2 (r4.extBut _ _ n4 (r3.extBut _ _ n2 (r2.extBut _ _ n3 (r1.extBut _ _ n1 e))))
  have u1 : T1 m5 := dep_go d3 r5.extBut Z.TOi1.symm Z.l1TO (dep_go d3 r4.extBut Z.i12 Z.l1i2 (dep_go d3 r3.extBut Z.TOi1.symm Z.l1TO t1))
  have u2 : T2 m5 := dep_go d4 r5.extBut Z.TOi2.symm Z.l2TO t2
  have zl : z < m5.objs.size := Heap.lt_size gz5
  show wpAny _ _ (Builtin.SmallTypes.ownedTupleHandOut _ (.ref m5.objs.size) >>= _) _ _ _
  refine wpAny_bind ?_
  unfold Builtin.SmallTypes.ownedTupleHandOut
  have gz6 : IsZip (m5.push { cls := .type "tuple", data := .seq #[x, y] }) z TI TO .ellipsis := Heap.get?_push_of_some _ gz5
  refine wpAny_bind (wpAny_setField_rec gz6 (by simp) fun m7 gz7 r7 => ?_)
  replace gz7 : IsZip m7 z TI TO (rawInt m5.objs.size) := gz7
  refine wpAny_setField_rec gz7 (by simp) fun m8 gz8 r8 => ?_
  replace gz8 : IsZip m8 z TI TO (rawInt m5.objs.size) := gz8
  have up : ∀ c o, c ≠ z → m5.get? c = some o → m8.get? c = some o := fun c o n e => r8.extBut _ _ n (r7.extBut _ _ n (Heap.get?_push_of_some _ e))
  have pr : IsPair m8 m5.objs.size x y := r8.extBut _ _ (Nat.ne_of_gt zl) (r7.extBut _ _ (Nat.ne_of_gt zl) (Heap.get?_push_size _ rfl))
  have sz8 : m8.objs.size = m5.objs.size + 1 := by rw [r8.1, r7.1, Heap.size_push]
  rw [sz5] at gz8 pr sz8
  refine wpAny_pure ⟨_, rfl, ?_⟩
  show Q (.ref m5.objs.size) _
  rw [sz5]
  exact K m8 gz8 (up _ _ Z.TOz go5) (d3 _ _ (fun c o hc e => up c o (by
    rcases hc with r | r
    · rw [r]; exact Z.i1z
    · rw [r]; exact Z.l1z) e) u1) (d4 _ _ (fun c o hc e => up c o (by
    rcases hc with r | r
    · rw [r]; exact Z.i2z
    · rw [r]; exact Z.l2z) e) u2) pr sz8 fun c o n1 n2 n3 n4 e => up c o n1 (kp5 c o n1 n2 n3 n4 e)
theorem next_end {Q : Fin → Shared → Prop} (hh : A.handled = none) (Z : ZipApart z TI TO i1 i2 l1 l2) (gz : IsZip s.heap z TI TO .none) (gi : IsPair s.heap TI (.ref i1) (.ref i2)) (go : IsPair s.heap TO a b)
    (d1 : Dep i1 l1 S1) (d2 : Dep i2 l2 S2) (q1 : S1 s.heap) (q2 : S2 s.heap) (fin : Stops i1 S1 ∨ ∃ T1 x, Gives i1 S1 T1 x ∧ Stops i2 S2)
    (K : ∀ h' e, (∀ c o, c ≠ z → c ≠ TO → c ≠ i1 → c ≠ i2 → s.heap.get? c = some o → h'.get? c = some o) → (∃ o, h'.get? e = some o ∧ o.cls = .type "StopIteration") → E (.ref e) { s with heap := h' }) :
    wpAny (model prog w) A (Builtin.«zip.__next__» ⟨[.ref z], []⟩) Q E s := by
  show wpAny _ _ (field (.ref z) 2 >>= _) _ _ _
  refine wpAny_bind (wpAny_field gz rfl (x := .bool false) rfl ?_)
  show wpAny _ _ (field (.ref z) 3 >>= _) _ _ _
  refine wpAny_bind (wpAny_field gz rfl (x := .ref TI) rfl ?_)
  refine wpAny_bind (wpAny_seqItems gi rfl ?_)
  show wpAny _ _ (Builtin.SmallTypes.ownedTupleIsFree _ >>= _) _ _ _
  refine wpAny_bind ?_
  unfold Builtin.SmallTypes.ownedTupleIsFree
  refine wpAny_bind (wpAny_field gz rfl (x := .none) rfl (wpAny_pure ?_))
  simp only [if_true]
  refine wpAny_bind (wpAny_rule ?_)
  refine wpAny_bind (wpAny_field gz rfl (x := .ref TO) rfl ?_)
  refine wpAny_bind (wpAny_setField_rec gz (by simp) fun m1 gz1 r1 => ?_)
  replace gz1 : IsZip m1 z TI TO .ellipsis := gz1
  refine wpAny_bind ?_
  simp only [List.zipIdx_cons, List.zipIdx_nil, List.forIn_cons, List.forIn_nil]
  refine wpAny_bind (wpAny_bind (wpAny_onRaise ?_))
  show wpAny _ _ (Builtin.SmallTypes.nextOf (.ref i1) >>= _) _ _ _
  rcases fin with st | ⟨T1, x, v1, st⟩
  · refine wpAny_bind (st _ _ _ _ _ _ hh (dep_go d1 r1.extBut Z.i1z Z.l1z q1) fun m2 e r2 he => ?_)
    obtain ⟨oe, ho, hc⟩ := he
    have gz2 : IsZip m2 z TI TO .ellipsis := r2 _ _ Z.i1z.symm gz1
    have ne : e ≠ z := fun r => by subst r; rw [gz2] at ho; cases ho; simp at hc
    refine wpAny_setField_rec gz2 (by simp) fun m3 _ r3 => K m3 e (fun c o n1 _ n3 _ r => r3.extBut _ _ n1 (r2 _ _ n3 (r1.extBut _ _ n1 r))) ⟨oe, r3.extBut _ _ ne ho, hc⟩
  · refine wpAny_bind (v1 _ _ _ _ _ _ (dep_go d1 r1.extBut Z.i1z Z.l1z q1) fun m2 t1 r2 => wpAny_pure ?_)
    have go2 : IsPair m2 TO a b := r2.extBut _ _ Z.TOi1 (r1.extBut _ _ Z.TOz go)
    refine wpAny_bind (wpAny_seqItems go2 rfl ?_)
    refine wpAny_bind (wpAny_updateSeq_pair go2 fun m3 go3 r3 => ?_)
    refine wpAny_bind (wpAny_letGo (wpAny_pure ?_))
    refine wpAny_bind (wpAny_bind (wpAny_onRaise ?_))
    show wpAny _ _ (Builtin.SmallTypes.nextOf (.ref i2) >>= _) _ _ _
    refine wpAny_bind (st _ _ _ _ _ _ hh (dep_go d2 r3.extBut Z.TOi2.symm Z.l2TO (dep_go d2 r2.extBut Z.i12.symm Z.l2i1 (dep_go d2 r1.extBut Z.i2z Z.l2z q2))) fun m4 e r4 he => ?_)
    obtain ⟨oe, ho, hc⟩ := he
    have gz4 : IsZip m4 z TI TO .ellipsis := r4 _ _ Z.i2z.symm (r3.extBut _ _ Z.TOz.symm (r2.extBut _ _ Z.i1z.symm gz1))
    have ne : e ≠ z := fun r => by subst r; rw [gz4] at ho; cases ho; simp at hc
    refine wpAny_setField_rec gz4 (by simp) fun m5 _ r5 => K m5 e (fun c o n1 n2 n3 n4 r => r5.extBut _ _ n1 (r4 _ _ n4 (r3.extBut _ _ n2 (r2.extBut _ _ n3 (r1.extBut _ _ n1 r))))) ⟨oe, r5.extBut _ _ ne ho, hc⟩
theorem py_item {Q : Option Value → Shared → Prop} (Z : ZipApart z TI TO i1 i2 l1 l2) (gz : IsZip s.heap z TI TO .none) (gi : IsPair s.heap TI (.ref i1) (.ref i2)) (go : IsPair s.heap TO a b)
    (d1 : Dep i1 l1 S1) (d2 : Dep i2 l2 S2) (d3 : Dep i1 l1 T1) (d4 : Dep i2 l2 T2) (v1 : Gives i1 S1 T1 x) (v2 : Gives i2 S2 T2 y) (q1 : S1 s.heap) (q2 : S2 s.heap)
    (K : ∀ h', IsZip h' z TI TO (rawInt s.heap.objs.size) → IsPair h' TO x y → T1 h' → T2 h' → IsPair h' s.heap.objs.size x y → h'.objs.size = s.heap.objs.size + 1 →
      (∀ c o, c ≠ z → c ≠ TO → c ≠ i1 → c ≠ i2 → s.heap.get? c = some o → h'.get? c = some o) → Q (some (.ref s.heap.objs.size)) { s with heap := h' }) :
    wpAny (model prog w) A (pyNext (.ref z)) Q E s := by
  have ty : s.TypeIs (.ref z) "zip" := ⟨_, gz, rfl⟩
  unfold pyNext
  exact wpAny_bind (wpAny_attempt (wpAny_callSpecial?_slot (name := Str.ofString "__next__") ty F.slot_zip_next
    (wpAny_call_entry F.slot_zip_next ty F.entry_zip_next (next_item Z gz gi go d1 d2 d3 d4 v1 v2 q1 q2 fun h' a1 a2 a3 a4 a5 a6 a7 => wpAny_pure (K h' a1 a2 a3 a4 a5 a6 a7)) (F.args_zip_next_1 _))))
theorem py_end {Q : Option Value → Shared → Prop} (hh : A.handled = none) (Z : ZipApart z TI TO i1 i2 l1 l2) (gz : IsZip s.heap z TI TO .none) (gi : IsPair s.heap TI (.ref i1) (.ref i2)) (go : IsPair s.heap TO a b)
    (d1 : Dep i1 l1 S1) (d2 : Dep i2 l2 S2) (q1 : S1 s.heap) (q2 : S2 s.heap) (fin : Stops i1 S1 ∨ ∃ T1 x, Gives i1 S1 T1 x ∧ Stops i2 S2)
    (K : ∀ h', (∀ c o, c ≠ z → c ≠ TO → c ≠ i1 → c ≠ i2 → s.heap.get? c = some o → h'.get? c = some o) → Q none { s with heap := h' }) : wpAny (model prog w) A (pyNext (.ref z)) Q E s := by
  have ty : s.TypeIs (.ref z) "zip" := ⟨_, gz, rfl⟩
  unfold pyNext
  refine wpAny_bind (wpAny_attempt (wpAny_callSpecial?_slot (name := Str.ofString "__next__") ty F.slot_zip_next
    (wpAny_call_entry F.slot_zip_next ty F.entry_zip_next (next_end hh Z gz gi go d1 d2 q1 q2 fin fun h' e hk he => ?_) (F.args_zip_next_1 _))))
  obtain ⟨o, ho, hc⟩ := he
  refine wpAny_bind (wpAny_isInstance (T := "StopIteration") (b := true) ⟨o, ho, hc⟩ isSubtype_stop ?_)
  exact wpAny_pure (K _ hk)
end
abbrev hp1 (h : Heap) (l1 : Addr) : Heap := h.push { cls := .type "tuple_iterator", data := .fields #[.ref l1, .int 0 0] }
abbrev hp2 (h : Heap) (l1 l2 : Addr) : Heap := (hp1 h l1).push { cls := .type "list_iterator", data := .fields #[.ref l2, .int 0 0] }
abbrev hp3 (h : Heap) (l1 l2 : Addr) : Heap := (hp2 h l1 l2).push { cls := .type "tuple", data := .seq #[.ref h.objs.size, .ref (hp1 h l1).objs.size] }
abbrev hp4 (h : Heap) (l1 l2 : Addr) : Heap := (hp3 h l1 l2).push { cls := .type "tuple", data := .seq #[.none, .none] }
abbrev hp5 (h : Heap) (l1 l2 : Addr) : Heap := (hp4 h l1 l2).push { cls := .type "zip", data := .fields #[.none, .bool false, .bool false, .ref (hp2 h l1 l2).objs.size, .ref (hp3 h l1 l2).objs.size] }
theorem meets_new (l1 l2 : Addr) (xs ys : Array Value) :
    Meets (Builtin.«zip.__new__» ⟨[.type "zip", .ref l1, .ref l2], []⟩) (fun _ R s => s.heap.IsTuple l1 xs ∧ s.heap.IsList l2 ys ∧ R (.ok (.ret (.ref (hp4 s.heap l1 l2).objs.size))) { s with heap := hp5 s.heap l1 l2 }) :=
  .of_wp fun prog w A R s h => by
    obtain ⟨m, g, d, tk, os⟩ := s; obtain ⟨p1, p2, h⟩ := h
    have sub := sub_zip
    have e1 : Heap.IsTuple (Shared.heap ⟨m, g, d, tk, os⟩) l1 xs := p1
    have e2 : Heap.IsList (Shared.heap ⟨m.push { cls := .type "tuple_iterator", data := .fields #[.ref l1, .int 0 0] }, g, d, tk, os⟩) l2 ys := Heap.IsList.push p2 _
    wp_walk using wpAny_pyIter_tuple e1, wpAny_pyIter_list e2
    exact ⟨_, rfl, h⟩
theorem call_zipM {prog : Program} {w : World} {A : Around} {E : Value → Shared → Prop} {s : Shared} {l1 l2 : Addr} {xs ys : Array Value} {Q : Value → Shared → Prop} (p1 : s.heap.IsTuple l1 xs) (p2 : s.heap.IsList l2 ys)
    (K : ∀ h', IsZip h' (s.heap.objs.size + 4) (s.heap.objs.size + 2) (s.heap.objs.size + 3) .none → IsPair h' (s.heap.objs.size + 2) (.ref s.heap.objs.size) (.ref (s.heap.objs.size + 1)) →
      IsPair h' (s.heap.objs.size + 3) .none .none → h'.IsTupleIter s.heap.objs.size l1 0 → h'.IsListIter (s.heap.objs.size + 1) l2 0 → (∀ c o, s.heap.get? c = some o → h'.get? c = some o) → Q (.ref (s.heap.objs.size + 4)) { s with heap := h' }) :
    wpAny (model prog w) A (call (.type "zip") [.ref l1, .ref l2]) Q E s := by
  refine callType_new F.called_zip (by decide) (F.typeCall_zip_2 _ _) (F.newCall_zip_2 _ _) (fun obj => F.args_object_init_3 obj _ _) F.entry_zip_new (meets_new l1 l2 xs ys) ⟨p1, p2, ?_⟩
  have y1 : (hp1 s.heap l1).objs.size = s.heap.objs.size + 1 := Heap.size_push ..
  have y2 : (hp2 s.heap l1 l2).objs.size = s.heap.objs.size + 2 := by rw [Heap.size_push, y1]
  have y3 : (hp3 s.heap l1 l2).objs.size = s.heap.objs.size + 3 := by rw [Heap.size_push, y2]
  have y4 : (hp4 s.heap l1 l2).objs.size = s.heap.objs.size + 4 := by rw [Heap.size_push, y3]
  have k5 : (hp5 s.heap l1 l2).get? (hp4 s.heap l1 l2).objs.size = some _ := Heap.get?_push_size _ rfl
  have k4 : (hp5 s.heap l1 l2).get? (hp3 s.heap l1 l2).objs.size = some _ := Heap.get?_push_of_some _ (Heap.get?_push_size _ rfl)
  have k3 : (hp5 s.heap l1 l2).get? (hp2 s.heap l1 l2).objs.size = some _ := Heap.get?_push_of_some _ (Heap.get?_push_of_some _ (Heap.get?_push_size _ rfl))
  have k2 : (hp5 s.heap l1 l2).get? (hp1 s.heap l1).objs.size = some _ := Heap.get?_push_of_some _ (Heap.get?_push_of_some _ (Heap.get?_push_of_some _ (Heap.get?_push_size _ rfl)))
  have k1 : (hp5 s.heap l1 l2).get? s.heap.objs.size = some _ := Heap.get?_push_of_some _ (Heap.get?_push_of_some _ (Heap.get?_push_of_some _ (Heap.get?_push_of_some _ (Heap.get?_push_size _ rfl))))
  show _ ∧ _
  rw [y2, y3, y4] at k5
  rw [y1, y2] at k3
  rw [y3] at k4
  rw [y1] at k2
  rw [y4]
  exact ⟨⟨_, k5, rfl⟩, K _ k5 k3 k4 ⟨_, k1, rfl, rfl⟩ ⟨_, k2, rfl, rfl⟩ fun c o r => Heap.get?_push_of_some _ (Heap.get?_push_of_some _ (Heap.get?_push_of_some _ (Heap.get?_push_of_some _ (Heap.get?_push_of_some _ r))))⟩
/-! zip of lists and tuples (true: a tuple) -/
def SqX (K : PySem.W.Frag) (t : Bool) (H : Hp) (a : Addr) (xs : List V) : Prop := match t with
  | true => SqT K H a xs
  | false => SqL K H a xs
def ItX (t : Bool) (h : Heap) (i a : Addr) (n : Nat) : Prop := match t with
  | true => h.IsTupleIter i a n
  | false => h.IsListIter i a n
def SrX (t : Bool) (h : Heap) (a : Addr) (items : Array Value) : Prop := match t with
  | true => h.IsTuple a items
  | false => h.IsList a items
theorem ItX.at {t : Bool} {h h' : Heap} {i a : Addr} {n : Nat} (u : ItX t h i a n) (e : ∀ o, h.get? i = some o → h'.get? i = some o) : ItX t h' i a n := by
  cases t with
  | true => obtain ⟨o, a, b⟩ := u; exact ⟨o, e o a, b⟩
  | false => obtain ⟨o, a, b⟩ := u; exact ⟨o, e o a, b⟩
theorem ItX.obj {t : Bool} {h : Heap} {i a : Addr} {n : Nat} (u : ItX t h i a n) : ∃ o, h.get? i = some o ∧ ∀ v, o.data ≠ .cell v := by
  cases t with
  | true => obtain ⟨o, a, _, d⟩ := u; exact ⟨o, a, fun v q => by rw [d] at q; cases q⟩
  | false => obtain ⟨o, a, _, d⟩ := u; exact ⟨o, a, fun v q => by rw [d] at q; cases q⟩
theorem dep_x {t : Bool} {i l : Addr} {k : Nat} {xs : Array Value} : Dep i l fun h => ItX t h i l k ∧ SrX t h l xs := by
  cases t with
  | true => exact dep_tup
  | false => exact dep_lst
theorem gives_x {t : Bool} {i l : Addr} {k : Nat} {xs : Array Value} {x : Value} (ne : l ≠ i) (hx : xs[k]? = some x) : Gives i (fun h => ItX t h i l k ∧ SrX t h l xs) (fun h => ItX t h i l (k + 1) ∧ SrX t h l xs) x := by
  cases t with
  | true => exact gives_tup ne hx
  | false => exact gives_lst ne hx
theorem stops_x {t : Bool} {i l : Addr} {k : Nat} {xs : Array Value} (hx : xs[k]? = none) : Stops i fun h => ItX t h i l k ∧ SrX t h l xs := by
  cases t with
  | true => exact stops_tup hx
  | false => exact stops_lst hx
theorem src_x {X : Cx} {pins : List (Addr × Obj)} {σ : L2.St} {H : Hp} {s : Shared} {t : Bool} {a : Addr} {xs : List V} (I : Inv X pins σ H s) (h : SqX X.K t H a xs) : ∃ its : List Value, Vals xs its ∧ SrX t s.heap a its.toArray ∧ a < s.heap.objs.size := by
  cases t with
  | true =>
    obtain ⟨its, rv, p, _⟩ := I.tuple h
    obtain ⟨o, ho, _⟩ := id p
    exact ⟨its, rv, p, Heap.lt_size ho⟩
  | false =>
    obtain ⟨its, rv, p, _⟩ := I.list h
    exact ⟨its, rv, p.isList, p.lt⟩
theorem sqx_inj {X : Cx} {pins : List (Addr × Obj)} {σ : L2.St} {H : Hp} {s : Shared} {t : Bool} {a : Addr} {xs ys : List V} (I : Inv X pins σ H s) (h : SqX X.K t H a xs) (h' : SqX X.K t H a ys) : xs = ys := by
  cases t with
  | true => exact I.tuple_inj h h'
  | false => exact I.list_inj h h'
/-- both as they stand at each turn, the items in new pairs -/
def ItzX (K : PySem.W.Frag) (t u : Bool) (a b : Addr) : It :=
  ⟨fun i H => ∃ (xs ys : List V) (x y : V), SqX K t H a xs ∧ SqX K u H b ys ∧ xs[i]? = some x ∧ ys[i]? = some y,
    fun i H v H' => ∃ T its x y, v = .ref T ∧ H T = none ∧ H' = upd H T (.frz (WL.tupO its) (.tup [x, y])) ∧ (∀ xs, SqX K t H a xs → xs[i]? = some x) ∧ ∀ ys, SqX K u H b ys → ys[i]? = some y,
    fun i H => ∃ xs ys : List V, SqX K t H a xs ∧ SqX K u H b ys ∧ (xs.length ≤ i ∨ ys.length ≤ i)⟩
theorem turn_zipX {P : Program} {w : World} {K : PySem.W.Frag} {elts : List Expr} {kk : Nat} {tpos : Pos} {t u : Bool} {a b z TI TO i1 i2 : Addr} (Z : ZipApart z TI TO i1 i2 a b) :
    Turn P w K (.Tuple elts kk tpos) (ItzX K t u a b) [z, TI, TO, i1, i2] z (fun i h => IsZip h z TI TO .none ∧ IsPair h TI (.ref i1) (.ref i2) ∧ (∃ x y, IsPair h TO x y) ∧ ItX t h i1 a i ∧ ItX u h i2 b i) where
  mem := by simp
  obj := fun i h st c hc => by
    obtain ⟨gz, gi, ⟨x, y, go⟩, u1, u2⟩ := st
    rcases (show c = z ∨ c = TI ∨ c = TO ∨ c = i1 ∨ c = i2 by simpa using hc) with rfl | rfl | rfl | rfl | rfl
    · exact ⟨_, gz, fun v q => nomatch q⟩
    · exact ⟨_, gi, fun v q => nomatch q⟩
    · exact ⟨_, go, fun v q => nomatch q⟩
    · exact u1.obj
    · exact u2.obj
  keep := fun i h h' st k => by
    obtain ⟨gz, gi, ⟨x, y, go⟩, u1, u2⟩ := st
    exact ⟨k z (by simp) _ gz, k TI (by simp) _ gi, ⟨x, y, k TO (by simp) _ go⟩, u1.at fun o q => k i1 (by simp) o q, u2.at fun o q => k i2 (by simp) o q⟩
  item := by
    intro X hP hw hK hc i pins s σ H E I hf st hg
    subst hP hw hK
    obtain ⟨gz, gi, ⟨x0, y0, go⟩, u1, u2⟩ := st
    obtain ⟨xs, ys, x, y, sx, sy, hx, hy⟩ := hg
    obtain ⟨its, rv, p, _⟩ := src_x I sx
    obtain ⟨its2, rv2, p2, _⟩ := src_x I sy
    obtain ⟨v1, hu, ru⟩ := rv.get hx
    obtain ⟨v2, hv, rw2⟩ := rv2.get hy
    have zl : z < s.heap.objs.size := Heap.lt_size gz
    refine py_item Z gz gi go dep_x dep_x dep_x dep_x (gives_x Z.l1i1 (x := v1) (by simpa using hu)) (gives_x Z.l2i2 (x := v2) (by simpa using hv)) ⟨u1, p⟩ ⟨u2, p2⟩ fun m z' TO' t1 t2 pr sz kp => ?_
    refine ⟨_, rfl, wpAny_letOwnedTupleGo_zip (s := { s with heap := m }) z' fun m2 z2 sb => ?_⟩
    have pr2 : m2.get? s.heap.objs.size = some (WL.tupO [v1, v2]) := (sb.2 _ (Nat.ne_of_gt zl)).trans pr
    have I1 : Inv X pins σ (upd H s.heap.objs.size (.frz (WL.tupO [v1, v2]) (.tup [x, y]))) { s with heap := m2 } :=
      I.turnedNew (t' := s.toks) (ch := [z, TI, TO, i1, i2]) (fun c o n e => (sb.2 c (fun r => n (by simp [r]))).trans (kp c o (fun r => n (by simp [r])) (fun r => n (by simp [r])) (fun r => n (by simp [r])) (fun r => n (by simp [r])) e)) hf (Nat.le_refl _) (WL.tupO_ok (.cons ru (.cons rw2 .nil)) (show 2 ≤ sizeLine by decide) pr2)
    refine ⟨.ref s.heap.objs.size, _, I1, rfl, ⟨_, _, x, y, rfl, I.hok.fresh (Nat.le_refl _), rfl, fun l hl => by rw [sqx_inj I hl sx]; exact hx, fun l hl => by rw [sqx_inj I hl sy]; exact hy⟩, ⟨z2, ?_, ⟨v1, v2, ?_⟩, ?_, ?_⟩, fun c hcm => ?_⟩
    · exact (sb.2 _ Z.TIz).trans (kp _ _ Z.TIz Z.TITO Z.TIi1 Z.TIi2 gi)
    · exact (sb.2 _ Z.TOz).trans TO'
    · exact t1.1.at fun o q => (sb.2 _ Z.i1z).trans q
    · exact t2.1.at fun o q => (sb.2 _ Z.i2z).trans q
    · have lt : c < s.heap.objs.size := by
        rcases (show c = z ∨ c = TI ∨ c = TO ∨ c = i1 ∨ c = i2 by simpa using hcm) with r | r | r | r | r
        · rw [r]; exact zl
        · rw [r]; exact Heap.lt_size gi
        · rw [r]; exact Heap.lt_size go
        · rw [r]; obtain ⟨_, e1, _⟩ := u1.obj; exact Heap.lt_size e1
        · rw [r]; obtain ⟨_, e2, _⟩ := u2.obj; exact Heap.lt_size e2
      rw [upd_ne (Nat.ne_of_lt lt)]
      exact (hf c hcm).1
  done := by
    intro X hP hw hK hc i pins s σ H E I hf st hg
    subst hP hw hK
    obtain ⟨gz, gi, ⟨x0, y0, go⟩, u1, u2⟩ := st
    obtain ⟨xs, ys, sx, sy, hend⟩ := hg
    obtain ⟨its, rv, p, _⟩ := src_x I sx
    obtain ⟨its2, rv2, p2, _⟩ := src_x I sy
    have l1 := rv.length
    have l2 := rv2.length
    have fin : Stops i1 (fun h => ItX t h i1 a i ∧ SrX t h a its.toArray) ∨ ∃ T1 x, Gives i1 (fun h => ItX t h i1 a i ∧ SrX t h a its.toArray) T1 x ∧ Stops i2 (fun h => ItX u h i2 b i ∧ SrX u h b its2.toArray) := by
      cases e : its.toArray[i]? with
      | none => exact .inl (stops_x e)
      | some x =>
        refine .inr ⟨_, x, gives_x Z.l1i1 e, stops_x ?_⟩
        rcases hend with q | q
        · have : i < its.toArray.size := (Array.getElem?_eq_some_iff.mp e).1
          simp at this
          omega
        · simp
          omega
    exact py_end (I.ok.hd hc) Z gz gi go dep_x dep_x ⟨u1, p⟩ ⟨u2, p2⟩ fin fun m kp => ⟨rfl, I.turnedL (t' := s.toks) (ch := [z, TI, TO, i1, i2]) (fun c o n q =>
      kp c o (fun r => n (by simp [r])) (fun r => n (by simp [r])) (fun r => n (by simp [r])) (fun r => n (by simp [r])) q) hf⟩
  self := fun A i s Q E st h => wpAny_pyIter_zip st.1 h
def iZipX (K : PySem.W.Frag) (ta : TA) : TI := fun σ H R => ta σ H fun vs H1 => ∃ t u a b xs ys, vs = [.ref a, .ref b] ∧ (t || !u) = true ∧ SqX K t H1 a xs ∧ SqX K u H1 b ys ∧ R (ItzX K t u a b) H1
theorem pi_zipX {X : Cx} {e e2 : Expr} {ta : TA} {p pos tpos : Pos} {elts : List Expr} {kk : Nat} (hg : Gl X "zip") (hm : X.mg "zip" = none) (ha : PA X [e, e2] ta)
    (hs : starEach [e, e2] X.env = (false, eval e X.env) :: starEach [e2] X.env := by rfl) (hpl : (backTo pos (starEach [e2] X.env)).any (·.1) = false := by rfl) :
    PI X (.Tuple elts kk tpos) (.Call (.Name "zip" p) [e, e2] [] pos) (iZipX X.K ta) := by
  refine ⟨fun pins s σ H R I h => ?_⟩
  refine Call_ (ld_blt I hg hm PyProof.Rows.boot_zip (PyProof.Rows.callWith_type1 (thn (ha.run pos pins s σ H _ I h) fun us s1 ⟨vs, H1, I1, r1, q1⟩ => ?_) hs hpl))
  obtain ⟨t, u, a, b, xs, ys, ex, tu, sx, sy, q⟩ := q1
  subst ex
  cases r1 with
  | cons r rr =>
    cases rr with
    | cons r' rr =>
      cases rr
      cases r
      cases r'
      have new5 : ∀ c, c ∈ [s1.heap.objs.size + 4, s1.heap.objs.size + 2, s1.heap.objs.size + 3, s1.heap.objs.size, s1.heap.objs.size + 1] → FpOk X pins H1 c := fun c hcm => by
        have le : s1.heap.objs.size ≤ c := by
          simp only [List.mem_cons, List.not_mem_nil, or_false] at hcm
          omega
        exact I1.fpOk le (I1.hok.fresh le)
      obtain ⟨its, rv, p1, lt1⟩ := src_x I1 sx
      obtain ⟨its2, rv2, p2, lt2⟩ := src_x I1 sy
      cases t with
      | true =>
        cases u with
        | true =>
          refine call_zipT p1 p2 fun h' gz gi go u1 u2 hsz hk => wpAny_pyIter_zip gz ?_
          have I2 : Inv X pins σ H1 { s1 with heap := h' } := I1.kept (t' := s1.toks) hk
          exact ⟨s1.heap.objs.size + 4, _, _, _, H1, rfl, I2, turn_zipX (t := true) (u := true) (PySem.W.ktu_apart s1.heap.objs.size a b lt1 lt2), ⟨gz, gi, ⟨_, _, go⟩, u1, u2⟩, new5, q⟩
        | false =>
          refine call_zipM p1 p2 fun h' gz gi go u1 u2 hk => wpAny_pyIter_zip gz ?_
          have I2 : Inv X pins σ H1 { s1 with heap := h' } := I1.kept (t' := s1.toks) hk
          exact ⟨s1.heap.objs.size + 4, _, _, _, H1, rfl, I2, turn_zipX (t := true) (u := false) (PySem.W.ktu_apart s1.heap.objs.size a b lt1 lt2), ⟨gz, gi, ⟨_, _, go⟩, u1, u2⟩, new5, q⟩
      | false =>
        cases u with
        | true => cases tu
        | false =>
          refine call_zip_2 p1 p2 fun h' gz gi go u1 u2 hsz hk => wpAny_pyIter_zip gz ?_
          have I2 : Inv X pins σ H1 { s1 with heap := h' } := I1.kept (t' := s1.toks) hk
          exact ⟨s1.heap.objs.size + 4, _, _, _, H1, rfl, I2, turn_zipX (t := false) (u := false) (PySem.W.ktu_apart s1.heap.objs.size a b lt1 lt2), ⟨gz, gi, ⟨_, _, go⟩, u1, u2⟩, new5, q⟩
end ZM

/-! W1: values as plain data, and how they stand in the heap. -/
namespace WL
open PySem PySem.Spec PyProof.Rows L2

abbrev W (α : Type) := (α → Prop) → Prop
/-- a pot of draws, as a value -/
abbrev potD : PyData := .dict [(.none, .none)]

/-- pots: lists of two small numbers -/
def Pot1 (P : Addr → Prop) (H : Hp) : Prop := ∀ a, P a → ∃ x y : Int, H a = some (.lst [.int x, .int y]) ∧ 0 ≤ x ∧ 0 ≤ y ∧ y < 2 ^ 32
/-- .. and the law's code tables, as they are at every state -/
def PotsOk (P : Addr → Prop) (H : Hp) : Prop := Pot1 P H ∧ LamX.Tabs lawTabs H
/-- an object stays; a table may have grown -/
def KpO (H' : Hp) (b : Addr) : HO → Prop
  | .tbl _ => True
  | o => H' b = some o
theorem KpO.of {H' : Hp} {b : Addr} {o : HO} (h : H' b = some o) : KpO H' b o := by
  cases o <;> first | exact h | trivial
theorem KpO.get {H' : Hp} {b : Addr} {o : HO} (h : KpO H' b o) (n : ∀ ps, o ≠ .tbl ps) : H' b = some o := by
  cases o <;> first | exact h | exact absurd rfl (n _)
theorem _root_.LamX.Tabs.put {T : List (Addr × Str)} {H : Hp} {p : Addr} {o : HO} {xs : List V} (hp : H p = some (.lst xs)) (t : LamX.Tabs T H) : LamX.Tabs T (upd H p o) := fun q hq => by
  obtain ⟨ps, h1, h2, h3⟩ := t q hq
  have ne : ∀ {b : Addr} {u : HO}, H b = some u → (u ≠ .lst xs) → b ≠ p := fun e n z => by
    rw [z, hp] at e
    exact n (Option.some.inj e).symm
  refine ⟨ps, by rw [upd_ne (ne h1 fun z => by cases z)]; exact h1, h2, fun pos cv hc => ?_⟩
  obtain ⟨c, e1, e2⟩ := h3 pos cv hc
  exact ⟨c, e1, by rw [upd_ne (ne e2 fun z => by unfold LamX.CodeO at z; cases z)]; exact e2⟩
theorem _root_.LamX.Tabs.new {T : List (Addr × Str)} {H : Hp} {p : Addr} {o : HO} (hp : H p = none) (t : LamX.Tabs T H) : LamX.Tabs T (upd H p o) := t.ext fun b u e => by
  rw [upd_ne (ne_of_none e hp)]
  exact e

/-- a list that nobody changes -/
def LAt (K : PySem.W.Frag) (H : Hp) (M P : Addr → Prop) (a : Addr) (xs : List V) : Prop :=
  (H a = some (.lst xs) ∧ ¬ M a ∧ ¬ P a) ∨ (∃ o, H a = some (.frz o (.lst xs))) ∨
    ∃ (o : Obj) (its : Array Value) (n : Nat), K.lookup a = some o ∧ o.cls = .type "list" ∧ o.dict = none ∧ o.data = .seq its n ∧ its.size ≤ sizeLine ∧ Vals xs its.toList
theorem LAt.sq {K : PySem.W.Frag} {H : Hp} {M P : Addr → Prop} {a : Addr} {xs : List V} (h : LAt K H M P a xs) : SqL K H a xs := by
  rcases h with ⟨h, _⟩ | ⟨o, h⟩ | h
  · exact .inl (.inl h)
  · exact .inl (.inr ⟨o, h⟩)
  · exact .inr h

/-- a flat value, a flat key; what stands in the heap for a dict of such -/
def flatD : PyData → Bool
  | .none | .bool _ | .int _ | .str _ => true
  | _ => false
def toV : PyData → V
  | .none => .non
  | .bool b => .bl b
  | .int i => .int i
  | .str x => .str x
  | _ => .non
def keyD : PyData → Option Key
  | .int i => some (.inl i)
  | .str x => some (.inr x)
  | _ => none
def dkOf : List (PyData × PyData) → Option (List (Key × V))
  | [] => some []
  | (k, v) :: r => match keyD k, flatD v, dkOf r with
    | some a, true, some l => some ((a, toV v) :: l)
    | _, _, _ => none

/-- the function object at f is the lambda L that captured vs; its cells are known objects -/
structure ClAt (H : Hp) (f : Addr) (L : Lam) (pm ctv : Value) (c' : Addr) (cl : List (Str × Addr)) (vs : List V) : Prop where
  obj : H f = some (.frz (PySem.W.kla_obj "<lambda>" L.qual L.params L.body L.scope cl pm c' ctv) (.own 0))
  code : H c' = some (LamX.CodeO c' L.qual)
  len : vs.length = L.fr.length
  all : ∀ y c, cl.lookup y = some c → y ∈ L.fr
  inj : ∀ x y c, cl.lookup x = some c → cl.lookup y = some c → x = y
  has : ∀ (i : Nat) (y : Str), L.fr[i]? = some y → ∃ (c : Addr) (o : Obj) (u : Value) (v : V), cl.lookup y = some c ∧ vs[i]? = some v ∧ L2.RelV v u ∧ o.data = .cell (some u) ∧ H c = some (.frz o (.own 0))
theorem ClAt.stay {H H' : Hp} {f : Addr} {L : Lam} {pm ctv : Value} {c' : Addr} {cl : List (Str × Addr)} {vs : List V} (h : ClAt H f L pm ctv c' cl vs) (k1 : ∀ b o, H b = some (.frz o (.own 0)) → H' b = some (.frz o (.own 0))) (k2 : ∀ b q, H b = some (LamX.CodeO b q) → H' b = some (LamX.CodeO b q)) : ClAt H' f L pm ctv c' cl vs where
  obj := k1 _ _ h.obj
  code := k2 _ _ h.code
  len := h.len
  all := h.all
  inj := h.inj
  has := fun i y e => by
    obtain ⟨c, o, u, v, a1, a2, a3, a4, a5⟩ := h.has i y e
    exact ⟨c, o, u, v, a1, a2, a3, a4, k1 _ _ a5⟩
section
variable (K : PySem.W.Frag) (H : Hp) (M P : Addr → Prop)
mutual
def Rp : PyData → V → Prop
  | .none, v => v = .non
  | .bool b, v => v = .bl b
  | .int i, v => v = .int i
  | .str x, v => v = .str x
  | .list ds, v => ∃ a vs, v = .ref a ∧ LAt K H M P a vs ∧ RpA ds vs
  | .tuple ds, v => ∃ a vs, v = .ref a ∧ TAt K H a vs ∧ RpA ds vs
  | .dict kvs, v => (∃ ks, dkOf kvs = some ks ∧ ∃ a, v = .ref a ∧ H a = some (.dK ks)) ∨ (kvs = [(.none, .none)] ∧ ∃ a, v = .ref a ∧ P a) ∨ RpC kvs v
def RpA : List PyData → List V → Prop
  | [], vs => vs = []
  | d :: ds, vs => ∃ v r, vs = v :: r ∧ Rp d v ∧ RpA ds r
/-- a closure, as a value -/
def RpC : List (PyData × PyData) → V → Prop
  | [], _ => False
  | (k, d) :: r, v => k = .none ∧ r = [] ∧ RpD d v
def RpD : PyData → V → Prop
  | .tuple (i :: ds), v => ∃ (n : Nat) (L : Lam) (f : Addr) (pm ctv : Value) (c' : Addr) (cl : List (Str × Addr)) (vs : List V), i = .int n ∧ lawLams[n]? = some L ∧ v = .ref f ∧ ClAt H f L pm ctv c' cl vs ∧ RpA ds vs
  | _, _ => False
end
end

section
variable {K : PySem.W.Frag} {H H' H'' : Hp} {M M' P P' P'' : Addr → Prop}

theorem RpA.len : ∀ {ds : List PyData} {vs : List V}, RpA K H M P ds vs → vs.length = ds.length
  | [], _, h => by subst h; rfl
  | d :: ds, _, h => by
    obtain ⟨v, r, rfl, _, h2⟩ := h
    rw [List.length_cons, List.length_cons, RpA.len h2]
theorem RpA.get : ∀ {ds : List PyData} {vs : List V} {i : Nat} {d : PyData}, RpA K H M P ds vs → ds[i]? = some d → ∃ v, vs[i]? = some v ∧ Rp K H M P d v
  | [], _, _, _, _, e => by simp at e
  | d :: ds, _, 0, d', h, e => by
    obtain ⟨v, r, rfl, h1, _⟩ := h
    simp at e
    subst e
    exact ⟨v, rfl, h1⟩
  | d :: ds, _, i + 1, d', h, e => by
    obtain ⟨v, r, rfl, _, h2⟩ := h
    obtain ⟨u, e1, e2⟩ := RpA.get (i := i) h2 (by simpa using e)
    exact ⟨u, by simpa using e1, e2⟩
theorem RpA.append : ∀ {ds es : List PyData} {vs us : List V}, RpA K H M P ds vs → RpA K H M P es us → RpA K H M P (ds ++ es) (vs ++ us)
  | [], _, _, _, h, k => by subst h; exact k
  | d :: ds, _, _, _, h, k => by
    obtain ⟨v, r, rfl, h1, h2⟩ := h
    exact ⟨v, r ++ _, rfl, h1, RpA.append h2 k⟩
theorem RpA.one {d : PyData} {v : V} (h : Rp K H M P d v) : RpA K H M P [d] [v] := ⟨v, [], rfl, h, rfl⟩
theorem RpA.take : ∀ {ds : List PyData} {vs : List V} (n : Nat), RpA K H M P ds vs → RpA K H M P (ds.take n) (vs.take n)
  | _, _, 0, _ => rfl
  | [], _, n + 1, h => by subst h; rfl
  | d :: ds, _, n + 1, h => by
    obtain ⟨v, r, rfl, h1, h2⟩ := h
    exact ⟨v, r.take n, rfl, h1, RpA.take n h2⟩
theorem RpA.drop : ∀ {ds : List PyData} {vs : List V} (n : Nat), RpA K H M P ds vs → RpA K H M P (ds.drop n) (vs.drop n)
  | _, _, 0, h => h
  | [], _, n + 1, h => by subst h; rfl
  | d :: ds, _, n + 1, h => by
    obtain ⟨v, r, rfl, h1, h2⟩ := h
    exact RpA.drop n h2
theorem RpA.set {d : PyData} {v : V} (h : Rp K H M P d v) : ∀ {ds : List PyData} {vs : List V} (n : Nat), RpA K H M P ds vs → RpA K H M P (ds.set n d) (vs.set n v)
  | [], _, n, k => by subst k; rfl
  | e :: ds, _, 0, k => by
    obtain ⟨u, r, rfl, _, h2⟩ := k
    exact ⟨v, r, rfl, h, h2⟩
  | e :: ds, _, n + 1, k => by
    obtain ⟨u, r, rfl, h1, h2⟩ := k
    exact ⟨u, r.set n v, rfl, h1, RpA.set h n h2⟩
theorem RpA.erase : ∀ {ds : List PyData} {vs : List V} (n : Nat), RpA K H M P ds vs → RpA K H M P (ds.eraseIdx n) (vs.eraseIdx n)
  | [], _, n, k => by subst k; cases n <;> rfl
  | e :: ds, _, 0, k => by
    obtain ⟨u, r, rfl, _, h2⟩ := k
    exact h2
  | e :: ds, _, n + 1, k => by
    obtain ⟨u, r, rfl, h1, h2⟩ := k
    exact ⟨u, r.eraseIdx n, rfl, h1, RpA.erase n h2⟩
theorem RpA.rev : ∀ {ds : List PyData} {vs : List V}, RpA K H M P ds vs → RpA K H M P ds.reverse vs.reverse
  | [], _, k => by subst k; rfl
  | e :: ds, _, k => by
    obtain ⟨u, r, rfl, h1, h2⟩ := k
    rw [List.reverse_cons, List.reverse_cons]
    exact (RpA.rev h2).append (.one h1)
theorem RpA.rep {ds : List PyData} {vs : List V} (h : RpA K H M P ds vs) : ∀ n : Nat, RpA K H M P (List.replicate n ds).flatten (List.replicate n vs).flatten
  | 0 => rfl
  | n + 1 => by
    rw [List.replicate_succ, List.replicate_succ, List.flatten_cons, List.flatten_cons]
    exact h.append (RpA.rep h n)
theorem RpA.of_get : ∀ {ds : List PyData} {vs : List V}, vs.length = ds.length → (∀ (i : Nat) (d : PyData) (v : V), ds[i]? = some d → vs[i]? = some v → Rp K H M P d v) → RpA K H M P ds vs
  | [], vs, l, _ => List.eq_nil_of_length_eq_zero l
  | d :: ds, [], l, _ => by simp at l
  | d :: ds, v :: vs, l, h => ⟨v, vs, rfl, h 0 d v rfl rfl, RpA.of_get (by simpa using l) fun i d v e1 e2 => h (i + 1) d v (by simpa using e1) (by simpa using e2)⟩

/-- from state to state -/
structure Step (K : PySem.W.Frag) (H : Hp) (M P : Addr → Prop) (H' : Hp) (M' P' : Addr → Prop) : Prop where
  l : ∀ a xs, LAt K H M P a xs → LAt K H' M' P' a xs
  t : ∀ a xs, TAt K H a xs → TAt K H' a xs
  d : ∀ a ks, H a = some (.dK ks) → H' a = some (.dK ks)
  p : ∀ a, P a → P' a
  f : ∀ a o, H a = some (.frz o (.own 0)) → H' a = some (.frz o (.own 0))
  c : ∀ a q, H a = some (LamX.CodeO a q) → H' a = some (LamX.CodeO a q)
theorem RpC.ref : ∀ {kvs : List (PyData × PyData)} {v : V}, RpC K H M P kvs v → ∃ f, v = .ref f
  | [], _, h => h.elim
  | (k, d) :: r, _, h => by
    have h := h.2.2
    cases d with
    | tuple ds =>
      cases ds with
      | nil => exact h.elim
      | cons i ds =>
        obtain ⟨n, L, f, pm, ctv, c', cl, vs, _, _, e, _⟩ := h
        exact ⟨f, e⟩
    | _ => exact h.elim
mutual
theorem Rp.step (s : Step K H M P H' M' P') : ∀ {d : PyData} {v : V}, Rp K H M P d v → Rp K H' M' P' d v
  | .none, _, h => h
  | .bool _, _, h => h
  | .int _, _, h => h
  | .str _, _, h => h
  | .list ds, _, h => by
    obtain ⟨a, vs, rfl, h1, h2⟩ := h
    exact ⟨a, vs, rfl, s.l _ _ h1, RpA.step s h2⟩
  | .tuple ds, _, h => by
    obtain ⟨a, vs, rfl, h1, h2⟩ := h
    exact ⟨a, vs, rfl, s.t _ _ h1, RpA.step s h2⟩
  | .dict kvs, _, h => by
    rcases h with ⟨ks, e, a, rfl, x⟩ | ⟨e, a, rfl, z⟩ | h
    · exact .inl ⟨ks, e, a, rfl, s.d _ _ x⟩
    · exact .inr (.inl ⟨e, a, rfl, s.p a z⟩)
    · exact .inr (.inr (RpC.step s h))
theorem RpA.step (s : Step K H M P H' M' P') : ∀ {ds : List PyData} {vs : List V}, RpA K H M P ds vs → RpA K H' M' P' ds vs
  | [], _, h => h
  | d :: ds, _, h => by
    obtain ⟨v, r, rfl, h1, h2⟩ := h
    exact ⟨v, r, rfl, Rp.step s h1, RpA.step s h2⟩
theorem RpC.step (s : Step K H M P H' M' P') : ∀ {kvs : List (PyData × PyData)} {v : V}, RpC K H M P kvs v → RpC K H' M' P' kvs v
  | [], _, h => h.elim
  | (k, d) :: r, _, h => ⟨h.1, h.2.1, RpD.step s h.2.2⟩
theorem RpD.step (s : Step K H M P H' M' P') : ∀ {d : PyData} {v : V}, RpD K H M P d v → RpD K H' M' P' d v
  | .none, _, h => h.elim
  | .bool _, _, h => h.elim
  | .int _, _, h => h.elim
  | .str _, _, h => h.elim
  | .list _, _, h => h.elim
  | .dict _, _, h => h.elim
  | .tuple [], _, h => h.elim
  | .tuple (i :: ds), _, h => by
    obtain ⟨n, L, f, pm, ctv, c', cl, vs, e1, e2, e3, ca, r⟩ := h
    exact ⟨n, L, f, pm, ctv, c', cl, vs, e1, e2, e3, ca.stay s.f s.c, RpA.step s r⟩
end
theorem Step.anti (s : ∀ a, M' a → M a) : Step K H M P H M' P where
  l := fun a xs h1 => by
    rcases h1 with ⟨x, y, z⟩ | h1 | h1
    · exact .inl ⟨x, fun q => y (s a q), z⟩
    · exact .inr (.inl h1)
    · exact .inr (.inr h1)
  t := fun _ _ h => h
  d := fun _ _ h => h
  p := fun _ h => h
  f := fun _ _ h => h
  c := fun _ _ h => h
theorem Rp.anti (s : ∀ a, M' a → M a) {d : PyData} {v : V} (h : Rp K H M P d v) : Rp K H M' P d v := h.step (.anti s)
theorem RpA.anti (s : ∀ a, M' a → M a) {ds : List PyData} {vs : List V} (h : RpA K H M P ds vs) : RpA K H M' P ds vs := h.step (.anti s)

/-- what may have come: S are the lists that may have been changed besides the pots -/
structure Fut (S P : Addr → Prop) (H : Hp) (P' : Addr → Prop) (H' : Hp) : Prop where
  up : ∀ a, P a → P' a
  kp : ∀ b o, H b = some o → ¬ P b → ¬ S b → KpO H' b o
  nw : ∀ a, P' a → ¬ P a → H a = none
  ok : PotsOk P H
  ok' : PotsOk P' H'
  tr : ∀ b, (H b).isSome = true → (H' b).isSome = true
  ls : ∀ b, S b → ∃ xs, H b = some (.lst xs)

/-- nothing but pots -/
abbrev S0 : Addr → Prop := fun _ => False

variable {S S' : Addr → Prop}
theorem PotsOk.isS (h : PotsOk P H) {a : Addr} (p : P a) : (H a).isSome = true := by
  obtain ⟨x, y, e, _⟩ := h.1 a p
  rw [e]
  rfl
theorem PotsOk.not (h : PotsOk P H) {a : Addr} {o : HO} (e : H a = some o) (n : ∀ xs, o ≠ .lst xs) : ¬ P a := fun p => by
  obtain ⟨x, y, e', _⟩ := h.1 a p
  rw [e] at e'
  exact n _ (Option.some.inj e')
theorem Fut.notS (f : Fut S P H P' H') {a : Addr} {o : HO} (e : H a = some o) (n : ∀ xs, o ≠ .lst xs) : ¬ S a := fun p => by
  obtain ⟨x, e'⟩ := f.ls a p
  rw [e] at e'
  exact n _ (Option.some.inj e')
/-- what is no list stays -/
theorem Fut.stay (f : Fut S P H P' H') {a : Addr} {o : HO} (e : H a = some o) (n : ∀ xs, o ≠ .lst xs) : KpO H' a o := f.kp a o e (f.ok.not e n) (f.notS e n)
theorem Fut.notP (f : Fut S P H P' H') {a : Addr} {o : HO} (e : H a = some o) (n : ¬ P a) : ¬ P' a := fun q => by
  have := f.nw a q n
  rw [e] at this
  cases this
theorem Fut.refl (h : PotsOk P H) : Fut S0 P H P H := ⟨fun _ h => h, fun _ _ h _ _ => .of h, fun _ h n => absurd h n, h, h, fun _ h => h, fun _ h => h.elim⟩
theorem Fut.none_of (f : Fut S P H P' H') {a : Addr} (h : H' a = none) : H a = none := by
  cases e : H a with
  | none => rfl
  | some o =>
    have := f.tr a (by rw [e]; rfl)
    rw [h] at this
    cases this
theorem Fut.trans (a : Fut S P H P' H') (b : Fut S' P' H' P'' H'') (hs : ∀ c, (H c).isSome = true → S' c → S c) : Fut S P H P'' H'' where
  up := fun c h => b.up c (a.up c h)
  kp := fun c o h n m => by
    by_cases ht : ∃ ps, o = .tbl ps
    · obtain ⟨ps, rfl⟩ := ht
      trivial
    · exact b.kp c o ((a.kp c o h n m).get fun ps z => ht ⟨ps, z⟩) (a.notP h n) fun q => m (hs c (by rw [h]; rfl) q)
  nw := fun c h n => by
    by_cases q : P' c
    · exact a.nw c q n
    · exact a.none_of (b.nw c h q)
  ok := a.ok
  ok' := b.ok'
  tr := fun c h => b.tr c (a.tr c h)
  ls := a.ls
theorem Fut.trans0 (a : Fut S P H P' H') (b : Fut S0 P' H' P'' H'') : Fut S P H P'' H'' := a.trans b fun _ _ q => q.elim
theorem Fut.mono (a : Fut S P H P' H') (hs : ∀ c, S c → S' c) (hl : ∀ b, S' b → ∃ xs, H b = some (.lst xs)) : Fut S' P H P' H' := ⟨a.up, fun b o h n m => a.kp b o h n fun q => m (hs b q), a.nw, a.ok, a.ok', a.tr, hl⟩
/-- a new object -/
theorem Fut.new {p : Addr} {o : HO} (h : PotsOk P H) (hp : H p = none) : Fut S0 P H P (upd H p o) := by
  have ne : ∀ b u, H b = some u → b ≠ p := fun b u e => ne_of_none e hp
  refine ⟨fun _ h => h, fun b u e _ _ => .of (by rw [upd_ne (ne b u e)]; exact e), fun _ h n => absurd h n, h, ⟨fun a pa => ?_, h.2.new hp⟩, fun b e => ?_, fun _ h => h.elim⟩
  · obtain ⟨x, y, e, r⟩ := h.1 a pa
    exact ⟨x, y, by rw [upd_ne (ne a _ e)]; exact e, r⟩
  · cases q : H b with
    | none => rw [q] at e; cases e
    | some u => rw [upd_ne (ne b u q), q]; rfl
/-- a list of S is changed -/
theorem Fut.put {p : Addr} {o : HO} {xs : List V} (h : PotsOk P H) (hp : H p = some (.lst xs)) (hn : ¬ P p) : Fut (fun b => b = p) P H P (upd H p o) := by
  refine ⟨fun _ h => h, fun b u e _ m => .of ?_, fun _ h n => absurd h n, h, ⟨fun a pa => ?_, h.2.put hp⟩, fun b e => ?_, fun b e => ⟨xs, by rw [e]; exact hp⟩⟩
  · rw [upd_ne m]
    exact e
  · obtain ⟨x, y, e, r⟩ := h.1 a pa
    have ne : a ≠ p := fun q => by rw [q] at pa; exact hn pa
    exact ⟨x, y, by rw [upd_ne ne]; exact e, r⟩
  · by_cases q : b = p
    · rw [q, upd_same]; rfl
    · rw [upd_ne q]; exact e
theorem Fut.sqT (f : Fut S P H P' H') {a : Addr} {xs : List V} (h : SqT K H a xs) : SqT K H' a xs := by
  rcases h with (h | ⟨o, h⟩) | h
  · exact .inl (.inl (f.stay h fun _ e => nomatch e))
  · exact .inl (.inr ⟨o, f.stay h fun _ e => nomatch e⟩)
  · exact .inr h
theorem Fut.tAt (f : Fut S P H P' H') {a : Addr} {xs : List V} (h : TAt K H a xs) : TAt K H' a xs := by
  rcases h with ⟨its, h⟩ | h
  · exact .inl ⟨its, f.stay h fun _ e => nomatch e⟩
  · exact .inr h
theorem Fut.lAt (f : Fut S P H P' H') (hs : ∀ c, S c → M c) {a : Addr} {xs : List V} (h : LAt K H M P a xs) : LAt K H' M P' a xs := by
  rcases h with ⟨x, y, z⟩ | ⟨o, x⟩ | h
  · exact .inl ⟨f.kp a _ x z (fun q => y (hs a q)), y, f.notP x z⟩
  · exact .inr (.inl ⟨o, f.stay x fun _ e => nomatch e⟩)
  · exact .inr (.inr h)
theorem Fut.step (f : Fut S P H P' H') (hs : ∀ c, S c → M c) : Step K H M P H' M P' where
  l := fun _ _ h => f.lAt hs h
  t := fun _ _ h => f.tAt h
  d := fun _ _ h => f.stay h fun _ e => nomatch e
  p := f.up
  f := fun _ _ h => f.stay h fun _ e => nomatch e
  c := fun _ _ h => (f.stay h fun _ e => by unfold LamX.CodeO at e; cases e).get fun _ e => by unfold LamX.CodeO at e; cases e
theorem Rp.fut (f : Fut S P H P' H') (hs : ∀ c, S c → M c) {d : PyData} {v : V} (h : Rp K H M P d v) : Rp K H' M P' d v := h.step (f.step hs)
theorem RpA.fut (f : Fut S P H P' H') (hs : ∀ c, S c → M c) {ds : List PyData} {vs : List V} (h : RpA K H M P ds vs) : RpA K H' M P' ds vs := h.step (f.step hs)
theorem Rp.fut0 (f : Fut S0 P H P' H') {d : PyData} {v : V} (h : Rp K H M P d v) : Rp K H' M P' d v := h.fut f fun _ q => q.elim
theorem RpA.fut0 (f : Fut S0 P H P' H') {d : List PyData} {v : List V} (h : RpA K H M P d v) : RpA K H' M P' d v := h.fut f fun _ q => q.elim
/-- a new address is not among them -/
theorem Step.avoid {p : Addr} (hp : H p = none) : Step K H M P H (fun a => M a ∨ a = p) P where
  l := fun a xs h1 => by
    rcases h1 with ⟨x, y, z⟩ | h1 | h1
    · exact .inl ⟨x, fun q => q.elim y fun e => ne_of_none x hp e, z⟩
    · exact .inr (.inl h1)
    · exact .inr (.inr h1)
  t := fun _ _ h => h
  d := fun _ _ h => h
  p := fun _ h => h
  f := fun _ _ h => h
  c := fun _ _ h => h
theorem Rp.avoid {p : Addr} (hp : H p = none) {d : PyData} {v : V} (h : Rp K H M P d v) : Rp K H (fun a => M a ∨ a = p) P d v := h.step (.avoid hp)
theorem RpA.avoid {p : Addr} (hp : H p = none) {ds : List PyData} {vs : List V} (h : RpA K H M P ds vs) : RpA K H (fun a => M a ∨ a = p) P ds vs := h.step (.avoid hp)
/-- what is not tracked is not among them -/
theorem Step.avoidAll : Step K H M P H (fun a => M a ∨ H a = none) P where
  l := fun a xs h1 => by
    rcases h1 with ⟨x, y, z⟩ | h1 | h1
    · exact .inl ⟨x, fun q => Or.elim q y (fun e => by rw [x] at e; cases e), z⟩
    · exact .inr (.inl h1)
    · exact .inr (.inr h1)
  t := fun _ _ h => h
  d := fun _ _ h => h
  p := fun _ h => h
  f := fun _ _ h => h
  c := fun _ _ h => h
theorem Rp.avoidAll {d : PyData} {v : V} (h : Rp K H M P d v) : Rp K H (fun a => M a ∨ H a = none) P d v := h.step .avoidAll
theorem RpA.avoidAll {ds : List PyData} {vs : List V} (h : RpA K H M P ds vs) : RpA K H (fun a => M a ∨ H a = none) P ds vs := h.step .avoidAll
/-- a state that knows more -/
theorem Step.ext (h : ∀ b o, H b = some o → H' b = some o) : Step K H M P H' M P where
  l := fun a xs h1 => by
    rcases h1 with ⟨x, y, z⟩ | ⟨o, h1⟩ | h1
    · exact .inl ⟨h _ _ x, y, z⟩
    · exact .inr (.inl ⟨o, h _ _ h1⟩)
    · exact .inr (.inr h1)
  t := fun a xs h1 => by
    rcases h1 with ⟨its, h1⟩ | h1
    · exact .inl ⟨its, h _ _ h1⟩
    · exact .inr h1
  d := fun _ _ e => h _ _ e
  p := fun _ h => h
  f := fun _ _ e => h _ _ e
  c := fun _ _ e => h _ _ e
end
end WL

namespace WL
open PySem PySem.Spec PyProof.Rows L2

/-! ### slots -/
inductive Sl where
  | no
  | sh (d : PyData)
  | ow (ds : List PyData)
  /-- an owned list of owned lists, at these places -/
  | ns (a : Addr) (bs : List Addr) (dss : List (List PyData))
abbrev Ev := List Sl

def Own1 (ρ : Ev) (σ : L2.St) (a : Addr) : Prop := ∃ (i : Nat) (ds : List PyData), ρ[i]? = some (.ow ds) ∧ σ[i]? = some (some (.ref a))
def Own2 (ρ : Ev) (a : Addr) : Prop := ∃ (i : Nat) (x : Addr) (bs : List Addr) (dss : List (List PyData)), ρ[i]? = some (.ns x bs dss) ∧ a ∈ x :: bs
def Own (ρ : Ev) (σ : L2.St) (a : Addr) : Prop := Own1 ρ σ a ∨ Own2 ρ a
def Mo (B : Addr → Prop) (ρ : Ev) (σ : L2.St) (a : Addr) : Prop := B a ∨ Own ρ σ a

structure NsOk (K : PySem.W.Frag) (H : Hp) (M B P : Addr → Prop) (a : Addr) (bs : List Addr) (dss : List (List PyData)) : Prop where
  top : H a = some (.lst (bs.map V.ref))
  fr : ∀ x ∈ a :: bs, ¬ B x ∧ ¬ P x
  nd : (a :: bs).Nodup
  len : bs.length = dss.length
  inn : ∀ (j : Nat) (b : Addr) (ds : List PyData), bs[j]? = some b → dss[j]? = some ds → ∃ vs, H b = some (.lst vs) ∧ RpA K H M P ds vs
structure RE (K : PySem.W.Frag) (B P : Addr → Prop) (H : Hp) (ρ : Ev) (σ : L2.St) : Prop where
  len : ρ.length = σ.length
  trk : ∀ a, B a → (H a).isSome = true
  pots : PotsOk P H
  sh : ∀ (i : Nat) (d : PyData), ρ[i]? = some (.sh d) → ∃ v, σ[i]? = some (some v) ∧ Rp K H (Mo B ρ σ) P d v
  ow : ∀ (i : Nat) (ds : List PyData), ρ[i]? = some (.ow ds) → ∃ a vs, σ[i]? = some (some (.ref a)) ∧ H a = some (.lst vs) ∧ ¬ B a ∧ ¬ P a ∧ RpA K H (Mo B ρ σ) P ds vs
  inj : ∀ (i j : Nat) (ds es : List PyData) (a : Addr), ρ[i]? = some (.ow ds) → ρ[j]? = some (.ow es) → σ[i]? = some (some (.ref a)) → σ[j]? = some (some (.ref a)) → i = j
  ns : ∀ (i : Nat) (a : Addr) (bs : List Addr) (dss : List (List PyData)), ρ[i]? = some (.ns a bs dss) → σ[i]? = some (some (.ref a)) ∧ NsOk K H (Mo B ρ σ) B P a bs dss
  nw : ∀ (i : Nat) (a : Addr) (bs : List Addr) (dss : List (List PyData)) (j : Nat) (es : List PyData) (c : Addr), ρ[i]? = some (.ns a bs dss) → ρ[j]? = some (.ow es) → σ[j]? = some (some (.ref c)) → c ∉ a :: bs
  n1 : ∀ (i j : Nat) (a a' : Addr) (bs bs' : List Addr) (dss dss' : List (List PyData)), ρ[i]? = some (.ns a bs dss) → ρ[j]? = some (.ns a' bs' dss') → i = j

theorem NsOk.lst {K : PySem.W.Frag} {H : Hp} {M B P : Addr → Prop} {a : Addr} {bs : List Addr} {dss : List (List PyData)} (n : NsOk K H M B P a bs dss) {x : Addr} (h : x ∈ a :: bs) : ∃ vs, H x = some (.lst vs) := by
  rcases List.mem_cons.mp h with rfl | h
  · exact ⟨_, n.top⟩
  · obtain ⟨j, hj, e⟩ := List.mem_iff_getElem.mp h
    have hd : j < dss.length := by rw [← n.len]; exact hj
    obtain ⟨vs, e2, _⟩ := n.inn j x dss[j] (by rw [List.getElem?_eq_getElem hj, e]) (List.getElem?_eq_getElem hd)
    exact ⟨vs, e2⟩
/-- the same, later, where none of its lists was changed -/
theorem NsOk.next {K : PySem.W.Frag} {H H' : Hp} {M M' B B' P P' S : Addr → Prop} {a : Addr} {bs : List Addr} {dss : List (List PyData)} (n : NsOk K H M B P a bs dss) (f : Fut S P H P' H') (hs : ∀ c, S c → M c) (hn : ∀ x ∈ a :: bs, ¬ S x) (hb : ∀ x ∈ a :: bs, ¬ B' x) (hm : ∀ x, M' x → M x) : NsOk K H' M' B' P' a bs dss where
  top := f.kp a _ n.top (n.fr a List.mem_cons_self).2 (hn a List.mem_cons_self)
  fr := fun x h => ⟨hb x h, by
    obtain ⟨vs, e⟩ := n.lst h
    exact f.notP e (n.fr x h).2⟩
  nd := n.nd
  len := n.len
  inn := fun j b ds h1 h2 => by
    obtain ⟨vs, e, r⟩ := n.inn j b ds h1 h2
    have hbm : b ∈ a :: bs := List.mem_cons_of_mem _ (List.mem_of_getElem? h1)
    exact ⟨vs, f.kp b _ e (n.fr b hbm).2 (hn b hbm), (r.fut f hs).anti hm⟩
section
variable {K : PySem.W.Frag} {B P P' : Addr → Prop} {H H' : Hp} {ρ : Ev} {σ : L2.St}
theorem RE.mtrk (R : RE K B P H ρ σ) {a : Addr} (h : Mo B ρ σ a) : (H a).isSome = true := by
  rcases h with h | ⟨i, ds, h1, h2⟩ | ⟨i, x, bs, dss, h1, h2⟩
  · exact R.trk a h
  · obtain ⟨b, vs, e1, e2, _⟩ := R.ow i ds h1
    rw [h2] at e1
    cases e1
    rw [e2]
    rfl
  · obtain ⟨vs, e⟩ := (R.ns i x bs dss h1).2.lst h2
    rw [e]
    rfl
theorem RE.fut (R : RE K B P H ρ σ) (f : Fut S0 P H P' H') : RE K B P' H' ρ σ where
  len := R.len
  trk := fun a h => f.tr a (R.trk a h)
  pots := f.ok'
  sh := fun i d h => by
    obtain ⟨v, e, r⟩ := R.sh i d h
    exact ⟨v, e, r.fut0 f⟩
  ow := fun i ds h => by
    obtain ⟨a, vs, e, e2, b, p, r⟩ := R.ow i ds h
    exact ⟨a, vs, e, f.kp a _ e2 p (fun q => q.elim), b, f.notP e2 p, r.fut0 f⟩
  inj := R.inj
  ns := fun i a bs dss h => ⟨(R.ns i a bs dss h).1, (R.ns i a bs dss h).2.next f (fun _ q => q.elim) (fun _ _ q => q) (fun x hx => ((R.ns i a bs dss h).2.fr x hx).1) fun _ q => q⟩
  nw := R.nw
  n1 := R.n1
end

/-! ### results -/
inductive Md where
  | B | S | F
/-- how a result stands: F a new list that nobody else knows, S shared, B perhaps an owned list of the frame -/
def RM (m : Md) (K : PySem.W.Frag) (M : Addr → Prop) (H : Hp) (P' : Addr → Prop) (H' : Hp) (d : PyData) (v : V) : Prop :=
  match m with
  | .S => Rp K H' M P' d v
  | .B => Rp K H' M P' d v ∨ ∃ ds a vs, d = .list ds ∧ v = .ref a ∧ H' a = some (.lst vs) ∧ ¬ P' a ∧ RpA K H' M P' ds vs
  | .F => ∃ ds p vs, d = .list ds ∧ v = .ref p ∧ H p = none ∧ H' p = some (.lst vs) ∧ ¬ P' p ∧ RpA K H' (fun a => M a ∨ a = p) P' ds vs

def tW (K : PySem.W.Frag) (m : Md) (g : Ev → W PyData) : TE := fun σ H Q =>
  ∃ B P ρ, RE K B P H ρ σ ∧ g ρ fun d => ∀ v P' H', Fut S0 P H P' H' → RM m K (Mo B ρ σ) H P' H' d v → Q v H'
def tWb (K : PySem.W.Frag) (g : Ev → W Bool) : TT := fun σ H Q =>
  ∃ B P ρ, RE K B P H ρ σ ∧ g ρ fun b => ∀ P' H', Fut S0 P H P' H' → Q b H'
def tWa (K : PySem.W.Frag) (g : Ev → W (List PyData)) : TA := fun σ H Q =>
  ∃ B P ρ, RE K B P H ρ σ ∧ g ρ fun ds => ∀ vs P' H', Fut S0 P H P' H' → RpA K H' (Mo B ρ σ) P' ds vs → Q vs H'

def Mono {α : Type} (g : Ev → W α) : Prop := ∀ ρ (Q Q' : α → Prop), (∀ a, Q a → Q' a) → g ρ Q → g ρ Q'

structure EW (X : Cx) (m : Md) (e : Expr) (g : Ev → W PyData) : Prop where
  mono : Mono g
  pe : PE X e (tW X.K m g)
structure EB (X : Cx) (e : Expr) (g : Ev → W Bool) : Prop where
  mono : Mono g
  pt : PT X e (tWb X.K g)
structure EA (X : Cx) (es : List Expr) (g : Ev → W (List PyData)) : Prop where
  mono : Mono g
  pa : PA X es (tWa X.K g)

/-- pure ones -/
def lft {α : Type} (f : Ev → Option α) : Ev → W α := fun ρ Q => ∃ d, f ρ = some d ∧ Q d
theorem mono_lft {α : Type} {f : Ev → Option α} : Mono (lft f) := fun _ _ _ h ⟨d, e, q⟩ => ⟨d, e, h d q⟩

/-- weaken what is asked -/
theorem _root_.L2.PE.imp {X : Cx} {e : Expr} {t t' : TE} (h : PE X e t) (i : ∀ σ H Q, t' σ H Q → t σ H Q) : PE X e t' := ⟨fun pins s σ H Q I q => h.run pins s σ H Q I (i _ _ _ q)⟩
theorem _root_.L2.PT.imp {X : Cx} {e : Expr} {t t' : TT} (h : PT X e t) (i : ∀ σ H Q, t' σ H Q → t σ H Q) : PT X e t' := ⟨fun pins s σ H Q I q => h.run pins s σ H Q I (i _ _ _ q)⟩
theorem _root_.L2.PA.imp {X : Cx} {e : List Expr} {t t' : TA} (h : PA X e t) (i : ∀ σ H Q, t' σ H Q → t σ H Q) : PA X e t' := ⟨fun pos pins s σ H Q I q => h.run pos pins s σ H Q I (i _ _ _ q)⟩
theorem _root_.L2.PS.imp {X : Cx} {e : Stmt} {t t' : TS} (h : PS X e t) (i : ∀ D σ H, t' D σ H → t D σ H) : PS X e t' := ⟨fun pins s σ H D I q => h.run pins s σ H D I (i _ _ _ q)⟩
theorem _root_.L2.PSs.imp {X : Cx} {e : List Stmt} {t t' : TS} (h : PSs X e t) (i : ∀ D σ H, t' D σ H → t D σ H) : PSs X e t' := ⟨fun pins s σ H D I q => h.run pins s σ H D I (i _ _ _ q)⟩
/-- what every state bears, at hand -/
def Fx (K : PySem.W.Frag) (H : Hp) : Prop := (∀ a xs, SqL K H a xs → xs.length ≤ sizeLine) ∧ (∀ a xs, SqT K H a xs → xs.length ≤ sizeLine) ∧ (∀ a xs ys, SqL K H a xs → SqL K H a ys → xs = ys) ∧ (∀ a xs ys, SqT K H a xs → SqT K H a ys → xs = ys) ∧ (∀ a xs ys, SqL K H a xs → SqT K H a ys → False)
theorem fx_of {X : Cx} {pins : List (Addr × Obj)} {σ : L2.St} {H : Hp} {s : Shared} (I : Inv X pins σ H s) : Fx X.K H := by
  refine ⟨fun a xs h => ?_, fun a xs h => ?_, fun a xs ys h h' => I.list_inj h h', fun a xs ys h h' => I.tuple_inj h h', fun a xs ys h h' => ?_⟩
  · obtain ⟨_, _, _, z⟩ := I.list h
    exact z
  · obtain ⟨_, _, _, z⟩ := I.tuple h
    exact z
  · obtain ⟨_, _, ⟨o, n, e, c, _⟩, _⟩ := I.list h
    obtain ⟨_, _, ⟨o', e', c', _⟩, _⟩ := I.tuple h'
    rw [e] at e'
    cases e'
    rw [c] at c'
    exact absurd c' (by decide)
theorem _root_.L2.PE.fx {X : Cx} {e : Expr} {t : TE} (h : PE X e t) : PE X e (fun σ H Q => Fx X.K H → t σ H fun v H' => Fx X.K H' → Q v H') := ⟨fun pins s σ H Q I q =>
  thn (h.run pins s σ H _ I (q (fx_of I))) fun _ _ ⟨v, H', I', r, q'⟩ => ⟨v, H', I', r, q' (fx_of I')⟩⟩
theorem _root_.L2.PA.fx {X : Cx} {e : List Expr} {t : TA} (h : PA X e t) : PA X e (fun σ H Q => Fx X.K H → t σ H fun v H' => Fx X.K H' → Q v H') := ⟨fun pos pins s σ H Q I q =>
  thn (h.run pos pins s σ H _ I (q (fx_of I))) fun _ _ ⟨v, H', I', r, q'⟩ => ⟨v, H', I', r, q' (fx_of I')⟩⟩

section
variable {K : PySem.W.Frag} {B M P P' P'' : Addr → Prop} {H H0 H' H'' : Hp} {ρ : Ev} {σ : L2.St} {d : PyData} {v : V}
theorem RM.toB {m : Md} (h : RM m K M H P' H' d v) : RM .B K M H P' H' d v := by
  cases m with
  | B => exact h
  | S => exact .inl h
  | F =>
    obtain ⟨ds, p, vs, rfl, rfl, _, e, n, r⟩ := h
    exact .inr ⟨ds, p, vs, rfl, rfl, e, n, r.anti fun _ h => .inl h⟩
theorem RM.FtoS (h : RM .F K M H P' H' d v) (ht : ∀ a, M a → (H a).isSome = true) : RM .S K M H P' H' d v := by
  obtain ⟨ds, p, vs, rfl, rfl, np, e, n, r⟩ := h
  refine ⟨p, vs, rfl, .inl ⟨e, fun q => ?_, n⟩, r.anti fun _ h => .inl h⟩
  have := ht p q
  rw [np] at this
  cases this
/-- results of an earlier state, later -/
theorem RM.fut {m : Md} (h : RM m K M H P' H' d v) (f : Fut S0 P' H' P'' H'') : RM m K M H P'' H'' d v := by
  cases m with
  | S => exact Rp.fut0 f h
  | B =>
    rcases h with h | ⟨ds, a, vs, rfl, rfl, e, n, r⟩
    · exact .inl (h.fut0 f)
    · exact .inr ⟨ds, a, vs, rfl, rfl, f.kp a _ e n (fun q => q.elim), f.notP e n, r.fut0 f⟩
  | F =>
    obtain ⟨ds, p, vs, rfl, rfl, np, e, n, r⟩ := h
    exact ⟨ds, p, vs, rfl, rfl, np, f.kp p _ e n (fun q => q.elim), f.notP e n, r.fut0 f⟩
/-- .. told from an earlier start -/
theorem RM.back {m : Md} (h : RM m K M H P' H' d v) (f : Fut S0 P H0 P'' H) : RM m K M H0 P' H' d v := by
  cases m with
  | S => exact h
  | B => exact h
  | F =>
    obtain ⟨ds, p, vs, rfl, rfl, np, e, n, r⟩ := h
    exact ⟨ds, p, vs, rfl, rfl, f.none_of np, e, n, r⟩
/-- a list that is read -/
theorem RM.lst {ds : List PyData} (h : RM .B K M H P' H' (.list ds) v) : ∃ a vs, v = .ref a ∧ SqL K H' a vs ∧ RpA K H' M P' ds vs := by
  rcases h with ⟨a, vs, rfl, l, r⟩ | ⟨ds', a, vs, e, rfl, l, n, r⟩
  · exact ⟨a, vs, rfl, l.sq, r⟩
  · cases e
    exact ⟨a, vs, rfl, .inl (.inl l), r⟩
theorem RM.tup {ds : List PyData} (h : RM .B K M H P' H' (.tuple ds) v) : ∃ a vs, v = .ref a ∧ TAt K H' a vs ∧ RpA K H' M P' ds vs := by
  rcases h with ⟨a, vs, rfl, l, r⟩ | ⟨ds', a, vs, e, rfl, l, n, r⟩
  · exact ⟨a, vs, rfl, l, r⟩
  · cases e
theorem RM.int {i : Int} (h : RM .B K M H P' H' (.int i) v) : v = .int i := by
  rcases h with h | ⟨ds', a, vs, e, _⟩
  · exact h
  · cases e
theorem RM.bl {b : Bool} (h : RM .B K M H P' H' (.bool b) v) : v = .bl b := by
  rcases h with h | ⟨ds', a, vs, e, _⟩
  · exact h
  · cases e
theorem RM.str {b : Str} (h : RM .B K M H P' H' (.str b) v) : v = .str b := by
  rcases h with h | ⟨ds', a, vs, e, _⟩
  · exact h
  · cases e
theorem RM.non (h : RM .B K M H P' H' .none v) : v = .non := by
  rcases h with h | ⟨ds', a, vs, e, _⟩
  · exact h
  · cases e
end

/-! ### weakening -/
section
variable {X : Cx} {e a b : Expr} {g ga gb : Ev → W PyData} {m : Md}
theorem EW.toB (h : EW X m e g) : EW X .B e g := ⟨h.mono, h.pe.imp fun σ H Q ⟨B, P, ρ, R, q⟩ => ⟨B, P, ρ, R, h.mono ρ _ _ (fun d q v P' H' f r => q v P' H' f r.toB) q⟩⟩
theorem EW.FS (h : EW X .F e g) : EW X .S e g := ⟨h.mono, h.pe.imp fun σ H Q ⟨B, P, ρ, R, q⟩ => ⟨B, P, ρ, R, h.mono ρ _ _ (fun d q v P' H' f r => q v P' H' f (r.FtoS fun _ z => R.mtrk z)) q⟩⟩

/-! ### leaves -/
def wC (d : PyData) : Ev → W PyData := fun _ Q => Q d
theorem mono_wC {d : PyData} : Mono (wC d) := fun _ _ _ h q => h d q
theorem ew_const {d : PyData} {v : V} (h : PE X e (tC v)) (hr : ∀ K H M P, Rp K H M P d v) : EW X .S e (wC d) := ⟨mono_wC, h.imp fun σ H Q ⟨B, P, ρ, R, q⟩ => q v P H (.refl R.pots) (hr _ _ _ _)⟩
theorem ew_int {i : Int} {j pos} : EW X .S (.Constant (.int i) j pos) (wC (.int i)) := ew_const pe_int fun _ _ _ _ => rfl
theorem ew_bl {b : Bool} {j pos} : EW X .S (.Constant (.bool b) j pos) (wC (.bool b)) := ew_const pe_bl fun _ _ _ _ => rfl
theorem ew_non {j pos} : EW X .S (.Constant .none j pos) (wC .none) := ew_const pe_non fun _ _ _ _ => rfl
theorem ew_str {x : Str} {j pos} : EW X .S (.Constant (.str x) j pos) (wC (.str x)) := ew_const pe_str fun _ _ _ _ => rfl
/-- a module's constant -/
theorem ew_glob {x : Str} {v : V} {u : Value} {pos : Pos} {d : PyData} (hg : Gl X x) (hm : X.mg x = some u) (r : RelV v u) (hr : ∀ H M P, Rp X.K H M P d v) (hd : (x == ("__debug__" : Str)) = false := by decide) : EW X .S (.Name x pos) (wC d) :=
  ⟨mono_wC, (pe_glob hg hm r hd).imp fun σ H Q ⟨B, P, ρ, R, q⟩ => q v P H (.refl R.pots) (hr _ _ _)⟩

/-- a name's value: shared -/
def wV (i : Nat) : Ev → W PyData := fun ρ Q => ∃ d, ρ[i]? = some (.sh d) ∧ Q d
/-- .. or owned, read and let go -/
def wVb (i : Nat) : Ev → W PyData := fun ρ Q => (∃ d, ρ[i]? = some (.sh d) ∧ Q d) ∨ ∃ ds, ρ[i]? = some (.ow ds) ∧ Q (.list ds)
theorem mono_wV {i : Nat} : Mono (wV i) := fun _ _ _ h ⟨d, e, q⟩ => ⟨d, e, h d q⟩
theorem mono_wVb {i : Nat} : Mono (wVb i) := fun _ _ _ h q => by
  rcases q with ⟨d, e, q⟩ | ⟨d, e, q⟩
  · exact .inl ⟨d, e, h _ q⟩
  · exact .inr ⟨d, e, h _ q⟩
theorem ew_v {x : Str} {pos : Pos} (i : Nat) (hN : X.N[i]? = some x := by rfl) (hv : Vis X.env.scope x := by first | exact Or.inl rfl | exact Or.inr (Or.inl rfl) | exact Or.inr (Or.inr rfl)) (hd : (x == ("__debug__" : Str)) = false := by decide)
    (hcd : (x == ("__classdict__" : Str)) = false := by decide) : EW X .S (.Name x pos) (wV i) :=
  ⟨mono_wV, (pe_var hN hv hd hcd).imp fun σ H Q ⟨B, P, ρ, R, d, e, q⟩ => by
    obtain ⟨v, e2, r⟩ := R.sh i d e
    exact ⟨v, e2, q v P H (.refl R.pots) r⟩⟩
theorem ew_vb {x : Str} {pos : Pos} (i : Nat) (hN : X.N[i]? = some x := by rfl) (hv : Vis X.env.scope x := by first | exact Or.inl rfl | exact Or.inr (Or.inl rfl) | exact Or.inr (Or.inr rfl)) (hd : (x == ("__debug__" : Str)) = false := by decide)
    (hcd : (x == ("__classdict__" : Str)) = false := by decide) : EW X .B (.Name x pos) (wVb i) :=
  ⟨mono_wVb, (pe_var hN hv hd hcd).imp fun σ H Q ⟨B, P, ρ, R, q⟩ => by
    rcases q with ⟨d, e, q⟩ | ⟨ds, e, q⟩
    · obtain ⟨v, e2, r⟩ := R.sh i d e
      exact ⟨v, e2, q v P H (.refl R.pots) (.inl r)⟩
    · obtain ⟨a, vs, e2, e3, nb, np, r⟩ := R.ow i ds e
      exact ⟨.ref a, e2, q _ P H (.refl R.pots) (.inr ⟨ds, a, vs, rfl, rfl, e3, np, r⟩)⟩⟩

/-! ### one operand, two operands -/
def wU (op : PyData → Option PyData) (g : Ev → W PyData) : Ev → W PyData := fun ρ Q => g ρ fun x => ∃ d, op x = some d ∧ Q d
def wB (op : PyData → PyData → Option PyData) (ga gb : Ev → W PyData) : Ev → W PyData := fun ρ Q => ga ρ fun x => gb ρ fun y => ∃ d, op x y = some d ∧ Q d
theorem mono_wU {op : PyData → Option PyData} (h : Mono g) : Mono (wU op g) := fun ρ _ _ i q => h ρ _ _ (fun _ ⟨d, e, q⟩ => ⟨d, e, i d q⟩) q
theorem mono_wB {op : PyData → PyData → Option PyData} (h : Mono ga) (h' : Mono gb) : Mono (wB op ga gb) := fun ρ _ _ i q => h ρ _ _ (fun _ q => h' ρ _ _ (fun _ ⟨d, e, q⟩ => ⟨d, e, i d q⟩) q) q

/-- what a rule on values asks, met -/
def BinOk (K : PySem.W.Frag) (m : Md) (r : R2) (op : PyData → PyData → Option PyData) : Prop :=
  ∀ (M P : Addr → Prop) (H : Hp) (x y : V) (dx dy d : PyData) (Q : VK), Fx K H → PotsOk P H → (∀ a, M a → (H a).isSome = true) → RM .B K M H P H dx x → RM .B K M H P H dy y → op dx dy = some d →
    (∀ v P' H', Fut S0 P H P' H' → RM m K M H P' H' d v → Q v H') → r x y H Q
def UnOk (K : PySem.W.Frag) (m : Md) (r : V → Hp → VK → Prop) (op : PyData → Option PyData) : Prop :=
  ∀ (M P : Addr → Prop) (H : Hp) (x : V) (dx d : PyData) (Q : VK), Fx K H → PotsOk P H → (∀ a, M a → (H a).isSome = true) → RM .B K M H P H dx x → op dx = some d →
    (∀ v P' H', Fut S0 P H P' H' → RM m K M H P' H' d v → Q v H') → r x H Q

/-- the common part: one operand first, then what is asked of its value -/
theorem ew_un {r : V → Hp → VK → Prop} {op : PyData → Option PyData} (U : UnOk X.K m r op) (ha : EW X .B a ga)
    (h : ∀ t, PE X a t → PE X e (fun σ H Q => t σ H fun x H1 => r x H1 Q)) : EW X m e (wU op ga) := by
  refine ⟨mono_wU ha.mono, (h _ ha.pe.fx).imp fun σ H Q ⟨B, P, ρ, R, q⟩ => fun _ => ⟨B, P, ρ, R, ha.mono ρ _ _ (fun dx q v P1 H1 f1 r1 fx => ?_) q⟩⟩
  obtain ⟨d, e, q⟩ := q
  have R1 := R.fut f1
  exact U (Mo B ρ σ) P1 H1 v dx d Q fx f1.ok' (fun a h => R1.mtrk h) (by cases r1 with | inl z => exact .inl z | inr z => exact .inr z) e fun v' P2 H2 f2 r2 => q v' P2 H2 (f1.trans0 f2) (r2.back f1)
theorem ew_bin {r : R2} {op : PyData → PyData → Option PyData} (U : BinOk X.K m r op) (ha : EW X .B a ga) (hb : EW X .B b gb)
    (h : ∀ ta tb, PE X a ta → PE X b tb → PE X e (tOp r ta tb)) : EW X m e (wB op ga gb) := by
  refine ⟨mono_wB ha.mono hb.mono, (h _ _ ha.pe hb.pe.fx).imp fun σ H Q ⟨B, P, ρ, R, q⟩ => ⟨B, P, ρ, R, ha.mono ρ _ _ (fun dx q v P1 H1 f1 r1 => fun _ => ?_) q⟩⟩
  have R1 := R.fut f1
  refine ⟨B, P1, ρ, R1, hb.mono ρ _ _ (fun dy q v' P2 H2 f2 r2 fx => ?_) q⟩
  obtain ⟨d, e, q⟩ := q
  have R2 := R1.fut f2
  exact U (Mo B ρ σ) P2 H2 v v' dx dy d Q fx f2.ok' (fun a h => R2.mtrk h) (r1.fut f2) (by cases r2 with | inl z => exact .inl z | inr z => exact .inr z) e fun w P3 H3 f3 r3 => q w P3 H3 ((f1.trans0 f2).trans0 f3) (r3.back (f1.trans0 f2))
theorem ew_binop {op' : Operator} {pos : Pos} {r : R2} {op : PyData → PyData → Option PyData} (U : BinOk X.K m r op) (ho : OpR X (binaryOp op') r) (ha : EW X .B a ga) (hb : EW X .B b gb) : EW X m (.BinOp a op' b pos) (wB op ga gb) :=
  ew_bin U ha hb fun _ _ => pe_op ho
theorem ew_cmp {op' : CmpOp} {pos : Pos} {r : R2} {op : PyData → PyData → Option PyData} (U : BinOk X.K m r op) (ho : OpR X (compareOp op') r) (ha : EW X .B a ga) (hb : EW X .B b gb) (hm : behindInMarks op' b = false) : EW X m (.Compare a [op'] [b] pos) (wB op ga gb) :=
  ew_bin U ha hb fun _ _ x y => pe_cmpR ho x y hm
theorem ew_unop {op' : UnaryOp} {pos : Pos} {r : V → Hp → VK → Prop} {op : PyData → Option PyData} (U : UnOk X.K m r op) (ho : UnR X (unaryOp op') r) (ha : EW X .B a ga) : EW X m (.UnaryOp op' a pos) (wU op ga) :=
  ew_un U ha fun _ x => pe_un ho x
theorem ew_ix {pos : Pos} {r : R2} {op : PyData → PyData → Option PyData} (U : BinOk X.K m r op) (ho : IxR X r) (ha : EW X .B a ga) (hb : EW X .B b gb) (hs : PlainIx b) : EW X m (.Subscript a b pos) (wB op ga gb) :=
  ew_bin U ha hb fun _ _ x y => pe_ix ho x y hs
end
end WL

namespace WL
open PySem PySem.Spec PyProof.Rows L2

/-! ### rules joined -/
theorem OpR.or {X : Cx} {f : Value → Value → Sem Value} {r r' : R2} (h : OpR X f r) (h' : OpR X f r') : OpR X f (fun x y H Q => r x y H Q ∨ r' x y H Q) := by
  intro pins s σ H x y v u Q I rx ry q
  rcases q with q | q
  · exact h pins s σ H x y v u Q I rx ry q
  · exact h' pins s σ H x y v u Q I rx ry q
section
variable {K : PySem.W.Frag} {m : Md} {r r' : R2} {op : PyData → PyData → Option PyData} {u u' : V → Hp → VK → Prop} {uo : PyData → Option PyData}
theorem BinOk.inl (h : BinOk K m r op) : BinOk K m (fun x y H Q => r x y H Q ∨ r' x y H Q) op := fun M P H x y dx dy d Q a b c e f g k => .inl (h M P H x y dx dy d Q a b c e f g k)
theorem BinOk.inr (h : BinOk K m r op) : BinOk K m (fun x y H Q => r' x y H Q ∨ r x y H Q) op := fun M P H x y dx dy d Q a b c e f g k => .inr (h M P H x y dx dy d Q a b c e f g k)
end

/-! ### numbers -/
def intOp (f : Int → Int → PyData) : PyData → PyData → Option PyData
  | .int i, .int j => some (f i j)
  | _, _ => none
def intOpC (C : Int → Int → Prop) [∀ i j, Decidable (C i j)] (f : Int → Int → PyData) : PyData → PyData → Option PyData
  | .int i, .int j => if C i j then some (f i j) else none
  | _, _ => none
section
variable {K : PySem.W.Frag}
theorem bin_int0 {g : Int → Int → V} {f : Int → Int → PyData} (hf : ∀ i j K H M P, Rp K H M P (f i j) (g i j)) : BinOk K .S (rI0 g) (intOp f) := by
  intro M P H x y dx dy d Q fx po mt rx ry e k
  cases dx with
  | int i =>
    cases dy with
    | int j =>
      cases e
      obtain rfl := rx.int
      obtain rfl := ry.int
      exact ⟨i, j, rfl, rfl, k _ P H (.refl po) (hf i j _ _ _ _)⟩
    | _ => exact nomatch e
  | _ => exact nomatch e
theorem bin_intC {C : Int → Int → Prop} [∀ i j, Decidable (C i j)] {g : Int → Int → V} {f : Int → Int → PyData} (hf : ∀ i j K H M P, Rp K H M P (f i j) (g i j)) : BinOk K .S (rI C g) (intOpC C f) := by
  intro M P H x y dx dy d Q fx po mt rx ry e k
  cases dx with
  | int i =>
    cases dy with
    | int j =>
      have e : (if C i j then some (f i j) else none) = some d := e
      by_cases c : C i j
      · rw [if_pos c] at e
        cases e
        obtain rfl := rx.int
        obtain rfl := ry.int
        exact ⟨i, j, rfl, rfl, c, k _ P H (.refl po) (hf i j _ _ _ _)⟩
      · rw [if_neg c] at e
        cases e
    | _ => exact nomatch e
  | _ => exact nomatch e
end
instance : ∀ i j, Decidable (CMul i j) := fun i j => by unfold CMul; exact inferInstance
instance : ∀ i j, Decidable (CDiv i j) := fun i j => by unfold CDiv; exact inferInstance
instance : ∀ i j, Decidable (CPow i j) := fun i j => by unfold CPow; exact inferInstance
abbrev subD : PyData → PyData → Option PyData := intOp fun i j => .int (i - j)
abbrev fdivD : PyData → PyData → Option PyData := intOpC CDiv fun i j => .int (i / j)
abbrev modD : PyData → PyData → Option PyData := intOpC (fun _ j => 0 < j) fun i j => .int (i % j)
abbrev powD : PyData → PyData → Option PyData := intOpC CPow fun i j => .int (i ^ j.toNat)
abbrev shlD : PyData → PyData → Option PyData := intOpC CPow fun i j => .int (i * 2 ^ j.toNat)
abbrev shrD : PyData → PyData → Option PyData := intOpC (fun _ j => 0 ≤ j) fun i j => .int (i / 2 ^ j.toNat)
abbrev bandD : PyData → PyData → Option PyData := intOp fun i j => .int (Builtin.bitAnd i j)
abbrev borD : PyData → PyData → Option PyData := intOp fun i j => .int (Builtin.bitOr i j)
abbrev bxorD : PyData → PyData → Option PyData := intOp fun i j => .int (Builtin.bitXor i j)
abbrev ltI : PyData → PyData → Option PyData := intOp fun i j => .bool (decide (i < j))
abbrev leI : PyData → PyData → Option PyData := intOp fun i j => .bool (decide (i ≤ j))
abbrev gtI : PyData → PyData → Option PyData := intOp fun i j => .bool (decide (j < i))
abbrev geI : PyData → PyData → Option PyData := intOp fun i j => .bool (decide (j ≤ i))

section
variable {X : Cx} {a b : Expr} {ga gb : Ev → W PyData} {pos : Pos}
theorem ew_sub (ha : EW X .B a ga) (hb : EW X .B b gb) : EW X .S (.BinOp a .Sub b pos) (wB subD ga gb) := ew_binop (bin_int0 fun _ _ _ _ _ _ => rfl) op_sub ha hb
theorem ew_fdiv (ha : EW X .B a ga) (hb : EW X .B b gb) : EW X .S (.BinOp a .FloorDiv b pos) (wB fdivD ga gb) := ew_binop (bin_intC fun _ _ _ _ _ _ => rfl) op_fdiv ha hb
theorem ew_mod (ha : EW X .B a ga) (hb : EW X .B b gb) : EW X .S (.BinOp a .Mod b pos) (wB modD ga gb) := ew_binop (bin_intC fun _ _ _ _ _ _ => rfl) op_mod ha hb
theorem ew_pow (ha : EW X .B a ga) (hb : EW X .B b gb) : EW X .S (.BinOp a .Pow b pos) (wB powD ga gb) := ew_binop (bin_intC fun _ _ _ _ _ _ => rfl) op_pow ha hb
theorem ew_shl (ha : EW X .B a ga) (hb : EW X .B b gb) : EW X .S (.BinOp a .LShift b pos) (wB shlD ga gb) := ew_binop (bin_intC fun _ _ _ _ _ _ => rfl) op_shl ha hb
theorem ew_shr (ha : EW X .B a ga) (hb : EW X .B b gb) : EW X .S (.BinOp a .RShift b pos) (wB shrD ga gb) := ew_binop (bin_intC fun _ _ _ _ _ _ => rfl) op_shr ha hb
theorem ew_band (ha : EW X .B a ga) (hb : EW X .B b gb) : EW X .S (.BinOp a .BitAnd b pos) (wB bandD ga gb) := ew_binop (bin_int0 fun _ _ _ _ _ _ => rfl) op_and ha hb
theorem ew_bor (ha : EW X .B a ga) (hb : EW X .B b gb) : EW X .S (.BinOp a .BitOr b pos) (wB borD ga gb) := ew_binop (bin_int0 fun _ _ _ _ _ _ => rfl) op_or ha hb
theorem ew_bxor (ha : EW X .B a ga) (hb : EW X .B b gb) : EW X .S (.BinOp a .BitXor b pos) (wB bxorD ga gb) := ew_binop (bin_int0 fun _ _ _ _ _ _ => rfl) op_xor ha hb
theorem ew_lt (ha : EW X .B a ga) (hb : EW X .B b gb) : EW X .S (.Compare a [.Lt] [b] pos) (wB ltI ga gb) := ew_cmp (bin_int0 fun _ _ _ _ _ _ => rfl) op_lt ha hb (nomark _)
theorem ew_le (ha : EW X .B a ga) (hb : EW X .B b gb) : EW X .S (.Compare a [.LtE] [b] pos) (wB leI ga gb) := ew_cmp (bin_int0 fun _ _ _ _ _ _ => rfl) op_le ha hb (nomark _)
theorem ew_gt (ha : EW X .B a ga) (hb : EW X .B b gb) : EW X .S (.Compare a [.Gt] [b] pos) (wB gtI ga gb) := ew_cmp (bin_int0 fun _ _ _ _ _ _ => rfl) op_gt ha hb (nomark _)
theorem ew_ge (ha : EW X .B a ga) (hb : EW X .B b gb) : EW X .S (.Compare a [.GtE] [b] pos) (wB geI ga gb) := ew_cmp (bin_int0 fun _ _ _ _ _ _ => rfl) op_ge ha hb (nomark _)
def negD : PyData → Option PyData
  | .int i => some (.int (-i))
  | _ => none
theorem un_negOk {K : PySem.W.Frag} : UnOk K .S (rU fun i => .int (-i)) negD := by
  intro M P H x dx d Q fx po mt rx e k
  cases dx with
  | int i =>
    cases e
    obtain rfl := rx.int
    exact ⟨i, rfl, k _ P H (.refl po) rfl⟩
  | _ => exact nomatch e
theorem ew_neg (ha : EW X .B a ga) : EW X .S (.UnaryOp .USub a pos) (wU negD ga) := ew_unop un_negOk un_neg ha
/-- -3 as it is written -/
theorem ew_nint {i : Int} {j p1} : EW X .S (.UnaryOp .USub (.Constant (.int i) j p1) pos) (wU negD (wC (.int i))) := ew_neg ew_int.toB
end

/-! ### the data that a value shows -/
mutual
/-- no pots within; dicts are empty -/
def plain : PyData → Bool
  | .none | .bool _ | .int _ | .str _ => true
  | .list ds => plainA ds
  | .tuple ds => plainA ds
  | .dict kvs => kvs.isEmpty
def plainA : List PyData → Bool
  | [] => true
  | d :: ds => plain d && plainA ds
end
section
variable {X : Cx} {pins : List (Addr × Obj)} {σ : L2.St} {H : Hp} {s : Shared} {M P : Addr → Prop}
mutual
theorem Rp.reads (I : Inv X pins σ H s) : ∀ (d : PyData) (v : V) (u : Value), plain d = true → Rp X.K H M P d v → RelV v u → ∃ as, Reads s.heap u d as
  | .none, _, _, _, h, r => by
    subst h
    cases r
    exact ⟨_, Reads.none⟩
  | .bool b, _, _, _, h, r => by
    subst h
    cases r
    exact ⟨_, Reads.bool b⟩
  | .int i, _, _, _, h, r => by
    subst h
    obtain ⟨t, rfl⟩ := r
    exact ⟨_, Reads.int i t⟩
  | .str x, _, _, _, h, r => by
    subst h
    obtain ⟨t, rfl⟩ := r
    exact ⟨_, Reads.str x t⟩
  | .list ds, _, _, p, h, r => by
    obtain ⟨a, vs, rfl, hs, ha⟩ := h
    cases r
    obtain ⟨its, rv, ⟨o, n, ho, hc, _, hd⟩, _⟩ := I.list hs.sq
    obtain ⟨as, hr⟩ := RpA.reads I ds _ its p ha rv
    exact ⟨_, Reads.list ho hc hd hr⟩
  | .tuple ds, _, _, p, h, r => by
    obtain ⟨a, vs, rfl, hs, ha⟩ := h
    cases r
    obtain ⟨its, rv, ⟨o, ho, hc, n, hd⟩, _⟩ := I.tuple hs.sq
    obtain ⟨as, hr⟩ := RpA.reads I ds _ its p ha rv
    exact ⟨_, Reads.tuple ho hc hd hr⟩
  | .dict kvs, _, _, p, h, r => by
    rcases h with ⟨ks, e0, a, rfl, l⟩ | ⟨rfl, _⟩ | hC
    · cases r
      cases kvs with
      | cons _ _ => exact nomatch p
      | nil =>
      cases e0
      obtain ⟨_, na, vs, kv, o, es, ep, ho, hc, hd, _, hp, _⟩ := I.hok a _ l
      cases kv
      have e : es.toList = [] := by
        revert hp
        generalize es.toList = l
        intro hp
        cases hp
        rfl
      have e : es = #[] := by
        apply Array.toList_inj.mp
        rw [e]
      subst e
      exact ⟨_, Reads.dict ho hc.1 hd (by exact ReadsAll.nil) (by exact ReadsAll.nil)⟩
    · exact nomatch p
    · cases kvs with
      | nil => exact hC.elim
      | cons _ _ => exact nomatch p
theorem RpA.reads (I : Inv X pins σ H s) : ∀ (ds : List PyData) (vs : List V) (us : List Value), plainA ds = true → RpA X.K H M P ds vs → Vals vs us → ∃ as, ReadsAll s.heap us ds as
  | [], _, _, _, h, r => by
    subst h
    cases r
    exact ⟨_, ReadsAll.nil⟩
  | d :: ds, _, _, p, h, r => by
    obtain ⟨v, vr, rfl, h1, h2⟩ := h
    have p : (plain d && plainA ds) = true := p
    rw [Bool.and_eq_true] at p
    cases r with
    | cons r1 r2 =>
      obtain ⟨as, q1⟩ := Rp.reads I d _ _ p.1 h1 r1
      obtain ⟨bs, q2⟩ := RpA.reads I ds _ _ p.2 h2 r2
      exact ⟨_, ReadsAll.cons q1 q2⟩
end
theorem RM.reads (I : Inv X pins σ H s) {H0 : Hp} {d : PyData} {v : V} {u : Value} (p : plain d = true) (h : RM .B X.K M H0 P H d v) (r : RelV v u) : ∃ as, Reads s.heap u d as := by
  rcases h with h | ⟨ds, a, vs, rfl, rfl, l, n, q⟩
  · exact Rp.reads I d v u p h r
  · cases r
    obtain ⟨its, rv, ⟨o, n, ho, hc, _, hd⟩, _⟩ := I.list (.inl (.inl l))
    obtain ⟨as, hr⟩ := RpA.reads I ds _ its p q rv
    exact ⟨_, Reads.list ho hc hd hr⟩
end

/-! ### == and != -/
def emp2 : PyData → PyData → Option Bool
  | .tuple xs, .tuple ys => if xs.isEmpty || ys.isEmpty then some (xs.isEmpty && ys.isEmpty) else none
  | .list xs, .list ys => if xs.isEmpty || ys.isEmpty then some (xs.isEmpty && ys.isEmpty) else none
  | .str a, .str b => some (a == b)
  | _, _ => none
def eqvD (d e : PyData) : Option Bool := if plain d && plain e && SeqAt.shaped d && SeqAt.shaped e then some (PyData.eqv d e) else emp2 d e
def eqD (d e : PyData) : Option PyData := (eqvD d e).map .bool
def neD (d e : PyData) : Option PyData := (eqvD d e).map fun b => .bool (!b)
/-- how two values are read at a state -/
def Two (K : PySem.W.Frag) (H : Hp) (x y : V) (b : Bool) : Prop := ∃ M P d e, RM .B K M H P H d x ∧ RM .B K M H P H e y ∧ eqvD d e = some b
def rEqP (K : PySem.W.Frag) (neg : Bool) : R2 := fun x y H Q => ∃ b, Two K H x y b ∧ Q (.bl (if neg then !b else b)) H
theorem two_split {d e : PyData} {b : Bool} (h : eqvD d e = some b) : (plain d = true ∧ plain e = true ∧ SeqAt.shaped d = true ∧ SeqAt.shaped e = true ∧ b = PyData.eqv d e) ∨
    (∃ xs ys, d = .tuple xs ∧ e = .tuple ys ∧ (xs.isEmpty || ys.isEmpty) = true ∧ b = (xs.isEmpty && ys.isEmpty)) ∨ (∃ xs ys, d = .list xs ∧ e = .list ys ∧ (xs.isEmpty || ys.isEmpty) = true ∧ b = (xs.isEmpty && ys.isEmpty)) ∨ ∃ x y, d = .str x ∧ e = .str y ∧ b = (x == y) := by
  unfold eqvD at h
  split at h
  · rename_i c
    cases h
    simp only [Bool.and_eq_true] at c
    exact .inl ⟨c.1.1.1, c.1.1.2, c.1.2, c.2, rfl⟩
  · unfold emp2 at h
    split at h
    · split at h
      · rename_i c
        cases h
        exact .inr (.inl ⟨_, _, rfl, rfl, c, rfl⟩)
      · cases h
    · split at h
      · rename_i c
        cases h
        exact .inr (.inr (.inl ⟨_, _, rfl, rfl, c, rfl⟩))
      · cases h
    · cases h
      exact .inr (.inr (.inr ⟨_, _, rfl, rfl, rfl⟩))
    · cases h
theorem emp_sizes {xs ys : List PyData} {its its2 : List Value} (l1 : its.length = xs.length) (l2 : its2.length = ys.length) (h : (xs.isEmpty || ys.isEmpty) = true) :
    min its.toArray.size its2.toArray.size = 0 ∧ (its.toArray.size == its2.toArray.size) = (xs.isEmpty && ys.isEmpty) := by
  rw [List.size_toArray, List.size_toArray, l1, l2]
  cases xs with
  | nil => cases ys with
    | nil => exact ⟨rfl, rfl⟩
    | cons y ys => exact ⟨by simp, by simp⟩
  | cons x xs => cases ys with
    | nil => exact ⟨by simp, by simp⟩
    | cons y ys => simp at h
theorem op_eqP {X : Cx} (hu : X.A.units + 64 < cLine) : OpR X (compareOp .Eq) (rEqP X.K false) := by
  intro pins s σ H x y v u Q I rx ry h
  obtain ⟨b, ⟨M, P, d, e, hd, he, c⟩, q⟩ := h
  have q : Q (.bl b) H := q
  have hu' : X.A.units < cLine := by omega
  rcases two_split c with ⟨pd, pe, sd, se, rfl⟩ | ⟨xs, ys, rfl, rfl, z, rfl⟩ | ⟨xs, ys, rfl, rfl, z, rfl⟩ | ⟨x, y, rfl, rfl, rfl⟩
  · obtain ⟨as, r1⟩ := RM.reads I pd hd rx
    obtain ⟨bs, r2⟩ := RM.reads I pe he ry
    exact SeqAt.compareEq_shaped r1 r2 sd se hu ⟨.bl _, H, I, rfl, q⟩
  · obtain ⟨a, vs, rfl, l1, r1⟩ := hd.tup
    obtain ⟨b, us, rfl, l2, r2⟩ := he.tup
    cases rx
    cases ry
    obtain ⟨its, rv, p1, _⟩ := I.tuple l1.sq
    obtain ⟨its2, rv2, p2, _⟩ := I.tuple l2.sq
    obtain ⟨m0, eb⟩ := emp_sizes (rv.length.symm.trans r1.len) (rv2.length.symm.trans r2.len) z
    have R := SeqAt.RcAt.tuples (A := X.A) (s := s) (e := fun _ => true) p1 p2 hu' (fun j h1 h2 => by omega)
    rw [m0, eb] at R
    exact R X.prog X.w X.xe (EP X pins σ Q) ⟨.bl _, H, I, rfl, by simpa using q⟩
  · obtain ⟨a, vs, rfl, l1, r1⟩ := hd.lst
    obtain ⟨b, us, rfl, l2, r2⟩ := he.lst
    cases rx
    cases ry
    obtain ⟨its, rv, p1, _⟩ := I.list l1
    obtain ⟨its2, rv2, p2, _⟩ := I.list l2
    obtain ⟨m0, eb⟩ := emp_sizes (rv.length.symm.trans r1.len) (rv2.length.symm.trans r2.len) z
    by_cases hs : its.toArray.size = its2.toArray.size
    · have R := SeqAt.RcAt.lists (A := X.A) (s := s) (e := fun _ => true) p1.isList p2.isList hs hu' (fun j h1 h2 => by omega)
      have e1 : (xs.isEmpty && ys.isEmpty) = true := by rw [← eb]; exact beq_iff_eq.mpr hs
      rw [e1] at q
      rw [List.all_eq_true.mpr fun _ _ => rfl] at R
      exact R X.prog X.w X.xe (EP X pins σ Q) ⟨.bl _, H, I, rfl, q⟩
    · have R := SeqAt.RcAt.lists_lengths (A := X.A) (s := s) p1.isList p2.isList (by simpa using hs) hu'
      have e1 : (xs.isEmpty && ys.isEmpty) = false := by rw [← eb]; exact beq_eq_false_iff_ne.mpr hs
      rw [e1] at q
      exact R X.prog X.w X.xe (EP X pins σ Q) ⟨.bl _, H, I, rfl, q⟩
  · obtain rfl := hd.str
    obtain rfl := he.str
    obtain ⟨t, rfl⟩ := rx
    obtain ⟨t', rfl⟩ := ry
    exact SeqAt.RcAt.str_str x t y t' X.prog X.w X.xe (EP X pins σ Q) ⟨.bl _, H, I, rfl, q⟩
theorem op_neP {X : Cx} (hu : X.A.units + 64 < cLine) : OpR X (compareOp .NotEq) (rEqP X.K true) := by
  intro pins s σ H x y v u Q I rx ry h
  obtain ⟨b, ⟨M, P, d, e, hd, he, c⟩, q⟩ := h
  have q : Q (.bl (!b)) H := q
  have hu' : X.A.units < cLine := by omega
  rcases two_split c with ⟨pd, pe, sd, se, rfl⟩ | ⟨xs, ys, rfl, rfl, z, rfl⟩ | ⟨xs, ys, rfl, rfl, z, rfl⟩ | ⟨x, y, rfl, rfl, rfl⟩
  · obtain ⟨as, r1⟩ := RM.reads I pd hd rx
    obtain ⟨bs, r2⟩ := RM.reads I pe he ry
    exact SeqAt.compareNe_shaped r1 r2 sd se hu ⟨.bl _, H, I, rfl, q⟩
  · obtain ⟨a, vs, rfl, l1, r1⟩ := hd.tup
    obtain ⟨b, us, rfl, l2, r2⟩ := he.tup
    cases rx
    cases ry
    obtain ⟨its, rv, p1, _⟩ := I.tuple l1.sq
    obtain ⟨its2, rv2, p2, _⟩ := I.tuple l2.sq
    obtain ⟨m0, eb⟩ := emp_sizes (rv.length.symm.trans r1.len) (rv2.length.symm.trans r2.len) z
    have R := SeqAt.RcNeAt.tuples (A := X.A) (s := s) (e := fun _ => true) p1 p2 hu' (fun j h1 h2 => by omega)
    rw [m0, eb] at R
    exact R X.prog X.w X.xe (EP X pins σ Q) ⟨.bl _, H, I, rfl, by simpa using q⟩
  · obtain ⟨a, vs, rfl, l1, r1⟩ := hd.lst
    obtain ⟨b, us, rfl, l2, r2⟩ := he.lst
    cases rx
    cases ry
    obtain ⟨its, rv, p1, _⟩ := I.list l1
    obtain ⟨its2, rv2, p2, _⟩ := I.list l2
    obtain ⟨m0, eb⟩ := emp_sizes (rv.length.symm.trans r1.len) (rv2.length.symm.trans r2.len) z
    by_cases hs : its.toArray.size = its2.toArray.size
    · have R := SeqAt.RcNeAt.lists (A := X.A) (s := s) (e := fun _ => true) p1.isList p2.isList hs hu' (fun j h1 h2 => by omega)
      have e1 : (xs.isEmpty && ys.isEmpty) = true := by rw [← eb]; exact beq_iff_eq.mpr hs
      rw [e1] at q
      rw [List.all_eq_true.mpr fun _ _ => rfl] at R
      exact R X.prog X.w X.xe (EP X pins σ Q) ⟨.bl _, H, I, rfl, q⟩
    · have R := SeqAt.RcNeAt.lists_lengths (A := X.A) (s := s) p1.isList p2.isList (by simpa using hs) hu'
      have e1 : (xs.isEmpty && ys.isEmpty) = false := by rw [← eb]; exact beq_eq_false_iff_ne.mpr hs
      rw [e1] at q
      exact R X.prog X.w X.xe (EP X pins σ Q) ⟨.bl _, H, I, rfl, q⟩
  · obtain rfl := hd.str
    obtain rfl := he.str
    obtain ⟨t, rfl⟩ := rx
    obtain ⟨t', rfl⟩ := ry
    exact SeqAt.RcNeAt.str_str x t y t' X.prog X.w X.xe (EP X pins σ Q) ⟨.bl _, H, I, rfl, q⟩
theorem bin_eqP {K : PySem.W.Frag} : BinOk K .S (rEqP K false) eqD := by
  intro M P H x y dx dy d Q fx po mt rx ry e k
  cases c : eqvD dx dy with
  | none => rw [eqD, c] at e; cases e
  | some b =>
    rw [eqD, c] at e
    cases e
    exact ⟨b, ⟨M, P, dx, dy, rx, ry, c⟩, k _ P H (.refl po) rfl⟩
theorem bin_neP {K : PySem.W.Frag} : BinOk K .S (rEqP K true) neD := by
  intro M P H x y dx dy d Q fx po mt rx ry e k
  cases c : eqvD dx dy with
  | none => rw [neD, c] at e; cases e
  | some b =>
    rw [neD, c] at e
    cases e
    exact ⟨b, ⟨M, P, dx, dy, rx, ry, c⟩, k _ P H (.refl po) rfl⟩
section
variable {X : Cx} {a b : Expr} {ga gb : Ev → W PyData} {pos : Pos}
theorem ew_eq (hu : X.A.units + 64 < cLine) (ha : EW X .B a ga) (hb : EW X .B b gb) : EW X .S (.Compare a [.Eq] [b] pos) (wB eqD ga gb) := ew_cmp bin_eqP (op_eqP hu) ha hb (nomark _)
theorem ew_ne (hu : X.A.units + 64 < cLine) (ha : EW X .B a ga) (hb : EW X .B b gb) : EW X .S (.Compare a [.NotEq] [b] pos) (wB neD ga gb) := ew_cmp bin_neP (op_neP hu) ha hb (nomark _)
end
end WL

namespace WL
open PySem PySem.Spec PyProof.Rows L2

/-! ### + -/
def addD : PyData → PyData → Option PyData
  | .int i, .int j => some (.int (i + j))
  | .str x, .str y => if x.length + y.length ≤ sizeLine then some (.str (x ++ y)) else none
  | .tuple xs, .tuple ys => if xs.length + ys.length ≤ sizeLine then some (.tuple (xs ++ ys)) else none
  | _, _ => none
abbrev rAddS : R2 := fun x y H Q => ∃ i j, x = .str i ∧ y = .str j ∧ i.length + j.length ≤ sizeLine ∧ Q (.str (i ++ j)) H
theorem Rp.len {K : PySem.W.Frag} {H : Hp} {M P : Addr → Prop} {ds : List PyData} {v : V} (h : Rp K H M P (.tuple ds) v) : ∃ a vs, v = .ref a ∧ TAt K H a vs ∧ vs.length = ds.length ∧ RpA K H M P ds vs := by
  obtain ⟨a, vs, rfl, l, r⟩ := h
  exact ⟨a, vs, rfl, l, r.len, r⟩
theorem op_addS {X : Cx} : OpR X (binaryOp .Add) rAddS := op_add_str
theorem bin_add {K : PySem.W.Frag} : BinOk K .S (fun x y H Q => rI0 (fun i j => .int (i + j)) x y H Q ∨ rAddS x y H Q ∨ rCatF K x y H Q) addD := by
  intro M P H x y dx dy d Q fx po mt rx ry e k
  unfold addD at e
  split at e
  · cases e
    obtain rfl := rx.int
    obtain rfl := ry.int
    exact .inl ⟨_, _, rfl, rfl, k _ P H (.refl po) rfl⟩
  · split at e
    · cases e
      obtain rfl := rx.str
      obtain rfl := ry.str
      exact .inr (.inl ⟨_, _, rfl, rfl, by assumption, k _ P H (.refl po) rfl⟩)
    · cases e
  · rename_i xs ys
    split at e
    · rename_i hz
      cases e
      obtain ⟨a, vs, rfl, l, r⟩ := rx.tup
      obtain ⟨b, us, rfl, l2, r2⟩ := ry.tup
      refine .inr (.inr ⟨a, b, vs, us, rfl, rfl, l.sq, l2.sq, by rw [r.len, r2.len]; exact hz, fun z => ?_, fun z1 z => ?_, fun p its hp => ?_⟩)
      · refine k _ P H (.refl po) ⟨b, us, rfl, l2, ?_⟩
        have := r.len
        rw [z] at this
        have : xs = [] := List.eq_nil_of_length_eq_zero this.symm
        rw [this]
        exact r2
      · refine k _ P H (.refl po) ⟨a, vs, rfl, l, ?_⟩
        have := r2.len
        rw [z] at this
        have : ys = [] := List.eq_nil_of_length_eq_zero this.symm
        rw [this, List.append_nil]
        exact r
      · have f : Fut S0 P H P (upd H p (.frz (tupO its) (.tup (vs ++ us)))) := .new po hp
        exact k _ P _ f ⟨p, vs ++ us, rfl, .inl ⟨its, upd_same⟩, (r.fut0 f).append (r2.fut0 f)⟩
    · cases e
  · cases e
/-- list + list: a new list -/
def catD : PyData → PyData → Option PyData
  | .list xs, .list ys => if xs.length + ys.length ≤ sizeLine then some (.list (xs ++ ys)) else none
  | _, _ => none
def rCatL (K : PySem.W.Frag) : R2 := fun x y H Q => ∃ l b xs zs, x = .ref l ∧ y = .ref b ∧ SqL K H l xs ∧ SqL K H b zs ∧ xs.length + zs.length ≤ sizeLine ∧ ∀ p, H p = none → Q (.ref p) (upd H p (.lst (xs ++ zs)))
theorem op_catL {X : Cx} : OpR X (binaryOp .Add) (rCatL X.K) := by
  intro pins s σ H x y v u Q I rx ry h
  obtain ⟨l, b, xs, zs, rfl, rfl, hH, hB, hz, q⟩ := h
  cases rx
  cases ry
  obtain ⟨its, r, ⟨⟨cls, dd, data, sl⟩, n, ho, hc, hdd, hd⟩, z⟩ := I.list hH
  obtain ⟨its2, r2, ⟨⟨cls2, dd2, data2, sl2⟩, n2, ho2, hc2, hdd2, hd2⟩, z2⟩ := I.list hB
  simp only at hc hd hc2 hd2 hdd hdd2
  subst hc hd hc2 hd2 hdd hdd2
  have e : its.toArray ++ its2.toArray = (its ++ its2).toArray := by simp
  have l1 := r.length
  have l2 := r2.length
  refine concat_meets ⟨_, ho, rfl⟩ ⟨_, ho2, rfl⟩ noFill_list_add seq_list_add PySem.F.slot_list_add PySem.F.entry_list_add (PySem.F.args_list_add_2 _ _) (list_addW l b its.toArray its2.toArray n n2 _ _ sl sl2 (by simp; omega)) ⟨ho, ho2, ?_⟩
  rw [e]
  exact ⟨.ref _, _, I.lnew (t' := s.toks) (r.append r2) (by rw [List.length_append]; omega), rfl, q _ I.fresh⟩
/-- a new list with these items -/
theorem new_list {K : PySem.W.Frag} {M P : Addr → Prop} {H : Hp} {ds : List PyData} {vs : List V} {Q : VK} (po : PotsOk P H) (r : RpA K H M P ds vs) (mt : ∀ a, M a → (H a).isSome = true)
    (k : ∀ v P' H', Fut S0 P H P' H' → RM .F K M H P' H' (.list ds) v → Q v H') : ∀ p, H p = none → Q (.ref p) (upd H p (.lst vs)) := fun p hp => by
  have f : Fut S0 P H P (upd H p (.lst vs)) := .new po hp
  have np : ¬ P p := fun q => by
    have := po.isS q
    rw [hp] at this
    cases this
  refine k _ P _ f ⟨ds, p, vs, rfl, rfl, hp, upd_same, np, ?_⟩
  exact (r.avoid hp).fut0 f
theorem bin_cat {K : PySem.W.Frag} : BinOk K .F (rCatL K) catD := by
  intro M P H x y dx dy d Q fx po mt rx ry e k
  unfold catD at e
  split at e
  · split at e
    · rename_i hz
      cases e
      obtain ⟨a, vs, rfl, l, r⟩ := rx.lst
      obtain ⟨b, us, rfl, l2, r2⟩ := ry.lst
      exact ⟨a, b, vs, us, rfl, rfl, l, l2, by rw [r.len, r2.len]; exact hz, new_list po (r.append r2) mt k⟩
    · cases e
  · cases e
section
variable {X : Cx} {a b : Expr} {ga gb : Ev → W PyData} {pos : Pos}
theorem ew_add (ha : EW X .B a ga) (hb : EW X .B b gb) : EW X .S (.BinOp a .Add b pos) (wB addD ga gb) := ew_binop bin_add (OpR.or op_add (OpR.or op_addS op_catF)) ha hb
theorem ew_cat (ha : EW X .B a ga) (hb : EW X .B b gb) : EW X .F (.BinOp a .Add b pos) (wB catD ga gb) := ew_binop bin_cat op_catL ha hb
end

/-! ### * -/
def mulD : PyData → PyData → Option PyData
  | .int i, .int j => if CMul i j then some (.int (i * j)) else none
  | .tuple xs, .int k => if 2 ≤ k ∧ k ≤ 1000 ∧ xs.length ≤ 1000 ∧ xs ≠ [] then some (.tuple (List.replicate k.toNat xs).flatten) else none
  | _, _ => none
theorem bin_mul {K : PySem.W.Frag} : BinOk K .S (fun x y H Q => rI CMul (fun i j => .int (i * j)) x y H Q ∨ rRepF K x y H Q) mulD := by
  intro M P H x y dx dy d Q fx po mt rx ry e k
  unfold mulD at e
  split at e
  · split at e
    · rename_i c
      cases e
      obtain rfl := rx.int
      obtain rfl := ry.int
      exact .inl ⟨_, _, rfl, rfl, c, k _ P H (.refl po) rfl⟩
    · cases e
  · split at e
    · rename_i c
      cases e
      obtain ⟨a, vs, rfl, l, r⟩ := rx.tup
      obtain rfl := ry.int
      refine .inr ⟨a, _, vs, rfl, rfl, l.sq, fun z => c.2.2.2 ?_, c.1, c.2.1, by rw [r.len]; exact c.2.2.1, fun p its hp => ?_⟩
      · have := r.len
        rw [z] at this
        exact List.eq_nil_of_length_eq_zero this.symm
      · exact k _ P _ (.new po hp) ⟨p, _, rfl, .inl ⟨its, upd_same⟩, (r.fut0 (.new po hp)).rep _⟩
    · cases e
  · cases e
section
variable {X : Cx} {a b : Expr} {ga gb : Ev → W PyData} {pos : Pos}
theorem ew_mul (ha : EW X .B a ga) (hb : EW X .B b gb) : EW X .S (.BinOp a .Mult b pos) (wB mulD ga gb) := ew_binop bin_mul (OpR.or op_mul op_repF) ha hb
end

/-! ### in, not in: flat things in a list or a tuple -/
def eqFlat : PyData → PyData → Bool
  | .none, .none => true
  | .bool a, .bool b => a == b
  | .int i, .int j => i == j
  | .str x, .str y => x == y
  | .bool a, .int j => (if a then 1 else 0) == j
  | .int i, .bool b => i == (if b then 1 else 0)
  | _, _ => false
def itemsD : PyData → Option (List PyData)
  | .list ds => some ds
  | .tuple ds => some ds
  | _ => none
def inF (x : PyData) (ds : List PyData) : Bool := ds.any fun y => eqFlat y x
def inD (neg : Bool) (x y : PyData) : Option PyData := (itemsD y).bind fun ds => if flatD x && ds.all flatD then some (.bool (if neg then !inF x ds else inF x ds)) else none
section
variable {K : PySem.W.Frag} {H : Hp} {M P : Addr → Prop}
theorem flat_toV {d : PyData} {v : V} (f : flatD d = true) (h : Rp K H M P d v) : v = toV d ∧ flatV v = true := by
  cases d with
  | none => subst h; exact ⟨rfl, rfl⟩
  | bool b => subst h; exact ⟨rfl, rfl⟩
  | int i => subst h; exact ⟨rfl, rfl⟩
  | str x => subst h; exact ⟨rfl, rfl⟩
  | _ => exact nomatch f
theorem flat_all : ∀ {ds : List PyData} {vs : List V}, ds.all flatD = true → RpA K H M P ds vs → vs = ds.map toV ∧ vs.all flatV = true
  | [], _, _, h => by subst h; exact ⟨rfl, rfl⟩
  | d :: ds, _, f, h => by
    obtain ⟨v, r, rfl, h1, h2⟩ := h
    rw [List.all_cons, Bool.and_eq_true] at f
    obtain ⟨e1, g1⟩ := flat_toV f.1 h1
    obtain ⟨e2, g2⟩ := flat_all f.2 h2
    exact ⟨by rw [e1, e2]; rfl, by rw [List.all_cons, g1, g2]; rfl⟩
theorem eqV_flat {a b : PyData} (fa : flatD a = true) (fb : flatD b = true) : eqV (toV a) (toV b) = eqFlat a b := by
  cases a with
  | none => cases b <;> first | rfl | exact absurd fb Bool.false_ne_true
  | bool x => cases b <;> first | rfl | exact absurd fb Bool.false_ne_true
  | int x => cases b <;> first | rfl | exact absurd fb Bool.false_ne_true
  | str x => cases b <;> first | rfl | exact absurd fb Bool.false_ne_true
  | _ => exact absurd fa Bool.false_ne_true
theorem inV_flat {x : PyData} (fx : flatD x = true) : ∀ {ds : List PyData}, ds.all flatD = true → inV (toV x) (ds.map toV) = inF x ds
  | [], _ => rfl
  | d :: ds, f => by
    rw [List.all_cons, Bool.and_eq_true] at f
    show (eqV (toV d) (toV x) || inV (toV x) (ds.map toV)) = (eqFlat d x || inF x ds)
    rw [eqV_flat f.1 fx, inV_flat fx f.2]
theorem RM.flat {m : Md} {H0 : Hp} {d : PyData} {v : V} (f : flatD d = true) (h : RM .B K M H0 P H d v) : Rp K H M P d v := by
  rcases h with h | ⟨ds, a, vs, rfl, _⟩
  · exact h
  · exact nomatch f
theorem bin_in {neg : Bool} : BinOk K .S (rIn K neg) (inD neg) := by
  intro M P H x y dx dy d Q fx po mt rx ry e k
  unfold inD at e
  have key : ∀ ds (p : Addr) (vs : List V), y = .ref p → (SqL K H p vs ∨ SqT K H p vs) → RpA K H M P ds vs → (if (flatD dx && ds.all flatD) = true then some (PyData.bool (if neg then !inF dx ds else inF dx ds)) else none) = some d → rIn K neg x y H Q := by
    intro ds p vs ey sq r e
    split at e
    · rename_i c
      cases e
      rw [Bool.and_eq_true] at c
      obtain ⟨e1, g1⟩ := flat_toV c.1 (rx.flat (m := .B) c.1)
      obtain ⟨e2, g2⟩ := flat_all c.2 r
      refine ⟨p, vs, ey, sq, g1, g2, ?_⟩
      rw [e1, e2, inV_flat c.1 c.2]
      exact k _ P H (.refl po) rfl
    · cases e
  cases dy with
  | list ds =>
    obtain ⟨a, vs, rfl, l, r⟩ := ry.lst
    exact key ds a vs rfl (.inl l) r e
  | tuple ds =>
    obtain ⟨a, vs, rfl, l, r⟩ := ry.tup
    exact key ds a vs rfl (.inr l) r e
  | _ => exact nomatch e
end
section
variable {X : Cx} {a b : Expr} {ga gb : Ev → W PyData} {pos : Pos}
theorem ew_in (ha : EW X .B a ga) (hb : EW X .B b gb) (hm : behindInMarks .In b = false := by rfl) : EW X .S (.Compare a [.In] [b] pos) (wB (inD false) ga gb) := ew_cmp bin_in op_in_seq ha hb hm
theorem ew_notIn (ha : EW X .B a ga) (hb : EW X .B b gb) (hm : behindInMarks .NotIn b = false := by rfl) : EW X .S (.Compare a [.NotIn] [b] pos) (wB (inD true) ga gb) := ew_cmp bin_in op_notIn_seq ha hb hm
end

/-! ### is None -/
def nonD : PyData → Bool
  | .none => true
  | _ => false
def isNonD (neg : Bool) : PyData → PyData → Option PyData
  | d, .none => some (.bool (if neg then !nonD d else nonD d))
  | _, _ => none
theorem Rp.notNon {K : PySem.W.Frag} {H : Hp} {M P : Addr → Prop} {d : PyData} {v : V} (h : Rp K H M P d v) : decide (v = .non) = nonD d := by
  cases d with
  | none => subst h; rfl
  | bool b => subst h; rfl
  | int i => subst h; rfl
  | str x => subst h; rfl
  | list ds => obtain ⟨a, vs, rfl, _⟩ := h; rfl
  | tuple ds => obtain ⟨a, vs, rfl, _⟩ := h; rfl
  | dict kvs =>
    rcases h with ⟨_, _, a, rfl, _⟩ | ⟨_, a, rfl, _⟩ | hC
    · rfl
    · rfl
    · obtain ⟨f, rfl⟩ := hC.ref
      rfl
theorem RM.notNon {K : PySem.W.Frag} {H H0 : Hp} {M P : Addr → Prop} {d : PyData} {v : V} (h : RM .B K M H0 P H d v) : decide (v = .non) = nonD d := by
  rcases h with h | ⟨ds, a, vs, rfl, rfl, _⟩
  · exact h.notNon
  · rfl
theorem bin_isN {K : PySem.W.Frag} : BinOk K .S (fun x y H Q => y = .non ∧ Q (.bl (decide (x = .non))) H) (isNonD false) := by
  intro M P H x y dx dy d Q fx po mt rx ry e k
  cases dy with
  | none =>
    cases e
    refine ⟨ry.non, ?_⟩
    rw [rx.notNon]
    exact k _ P H (.refl po) rfl
  | _ => exact nomatch e
theorem bin_notN {K : PySem.W.Frag} : BinOk K .S (fun x y H Q => y = .non ∧ Q (.bl (!decide (x = .non))) H) (isNonD true) := by
  intro M P H x y dx dy d Q fx po mt rx ry e k
  cases dy with
  | none =>
    cases e
    refine ⟨ry.non, ?_⟩
    rw [rx.notNon]
    exact k _ P H (.refl po) rfl
  | _ => exact nomatch e
section
variable {X : Cx} {a b : Expr} {ga gb : Ev → W PyData} {pos : Pos}
theorem ew_isN {j p2} (ha : EW X .B a ga) : EW X .S (.Compare a [.Is] [.Constant .none j p2] pos) (wB (isNonD false) ga (wC .none)) := ew_cmp bin_isN op_isN ha ew_non.toB (nomark _)
theorem ew_notN {j p2} (ha : EW X .B a ga) : EW X .S (.Compare a [.IsNot] [.Constant .none j p2] pos) (wB (isNonD true) ga (wC .none)) := ew_cmp bin_notN op_notN ha ew_non.toB (nomark _)
end
/-- is, is not, of two bools -/
def isB (b : Bool) : PyData → Bool
  | .bool a => decide (a = b)
  | _ => false
def isBD (neg : Bool) : PyData → PyData → Option PyData
  | d, .bool b => some (.bool (if neg then !isB b d else isB b d))
  | _, _ => none
def rIsC : R2 := fun x y H Q => ∃ b, y = .bl b ∧ Q (.bl (decide (x = .bl b))) H
def rNotC : R2 := fun x y H Q => ∃ b, y = .bl b ∧ Q (.bl (!decide (x = .bl b))) H
theorem op_isC {X : Cx} : OpR X (compareOp .Is) rIsC := by
  intro pins s σ H x y v u Q I rx ry h
  obtain ⟨b, rfl, q⟩ := h
  cases (show u = Value.bool b from ry)
  cases x with
  | bl a =>
    cases (show v = Value.bool a from rx)
    by_cases e : a = b
    · subst e
      exact wpAny_is_self rfl ⟨.bl true, H, I, rfl, by simpa using q⟩
    · exact wpAny_is_other rfl (fun z => e (Value.bool.inj z)) ⟨.bl false, H, I, rfl, by simpa [e] using q⟩
  | _ => first
    | (cases rx; exact wpAny_is_other rfl (fun z => nomatch z) ⟨.bl false, H, I, rfl, by simpa using q⟩)
    | (obtain ⟨t, rfl⟩ := rx; exact wpAny_is_other rfl (fun z => nomatch z) ⟨.bl false, H, I, rfl, by simpa using q⟩)
theorem op_notC {X : Cx} : OpR X (compareOp .IsNot) rNotC := by
  intro pins s σ H x y v u Q I rx ry h
  obtain ⟨b, rfl, q⟩ := h
  cases (show u = Value.bool b from ry)
  cases x with
  | bl a =>
    cases (show v = Value.bool a from rx)
    by_cases e : a = b
    · subst e
      exact wpAny_isNot_self rfl ⟨.bl false, H, I, rfl, by simpa using q⟩
    · exact wpAny_isNot_other rfl (fun z => e (Value.bool.inj z)) ⟨.bl true, H, I, rfl, by simpa [e] using q⟩
  | _ => first
    | (cases rx; exact wpAny_isNot_other rfl (fun z => nomatch z) ⟨.bl true, H, I, rfl, by simpa using q⟩)
    | (obtain ⟨t, rfl⟩ := rx; exact wpAny_isNot_other rfl (fun z => nomatch z) ⟨.bl true, H, I, rfl, by simpa using q⟩)
theorem Rp.isB {K : PySem.W.Frag} {H : Hp} {M P : Addr → Prop} {d : PyData} {v : V} {b : Bool} (h : Rp K H M P d v) : decide (v = .bl b) = isB b d := by
  cases d with
  | none => subst h; rfl
  | bool a =>
    subst h
    show _ = decide (a = b)
    exact decide_eq_decide.mpr ⟨fun z => V.bl.inj z, fun z => by rw [z]⟩
  | int i => subst h; rfl
  | str x => subst h; rfl
  | list ds => obtain ⟨a, vs, rfl, _⟩ := h; rfl
  | tuple ds => obtain ⟨a, vs, rfl, _⟩ := h; rfl
  | dict kvs =>
    rcases h with ⟨_, _, a, rfl, _⟩ | ⟨_, a, rfl, _⟩ | hC
    · rfl
    · rfl
    · obtain ⟨f, rfl⟩ := hC.ref
      rfl
theorem RM.isB {K : PySem.W.Frag} {H H0 : Hp} {M P : Addr → Prop} {d : PyData} {v : V} {b : Bool} (h : RM .B K M H0 P H d v) : decide (v = .bl b) = WL.isB b d := by
  rcases h with h | ⟨ds, a, vs, rfl, rfl, _⟩
  · exact h.isB
  · rfl
theorem bin_isB {K : PySem.W.Frag} : BinOk K .S rIsC (isBD false) := by
  intro M P H x y dx dy d Q fx po mt rx ry e k
  cases dy with
  | bool b =>
    cases e
    refine ⟨b, ry.bl, ?_⟩
    rw [rx.isB]
    exact k _ P H (.refl po) rfl
  | _ => exact nomatch e
theorem bin_notB {K : PySem.W.Frag} : BinOk K .S rNotC (isBD true) := by
  intro M P H x y dx dy d Q fx po mt rx ry e k
  cases dy with
  | bool b =>
    cases e
    refine ⟨b, ry.bl, ?_⟩
    rw [rx.isB]
    exact k _ P H (.refl po) rfl
  | _ => exact nomatch e
section
variable {X : Cx} {a b : Expr} {ga gb : Ev → W PyData} {pos : Pos}
theorem ew_isB (ha : EW X .B a ga) (hb : EW X .B b gb) (hm : behindInMarks .Is b = false := by rfl) : EW X .S (.Compare a [.Is] [b] pos) (wB (isBD false) ga gb) := ew_cmp bin_isB op_isC ha hb hm
theorem ew_notB (ha : EW X .B a ga) (hb : EW X .B b gb) (hm : behindInMarks .IsNot b = false := by rfl) : EW X .S (.Compare a [.IsNot] [b] pos) (wB (isBD true) ga gb) := ew_cmp bin_notB op_notC ha hb hm
end

/-! ### tests -/
def wT (g : Ev → W PyData) : Ev → W Bool := fun ρ Q => g ρ fun d => ∃ b, d = .bool b ∧ Q b
def wNot (g : Ev → W Bool) : Ev → W Bool := fun ρ Q => g ρ fun b => Q (!b)
def wAnd (ga gb : Ev → W Bool) : Ev → W Bool := fun ρ Q => ga ρ fun a => if a = true then gb ρ Q else Q false
def wOr (ga gb : Ev → W Bool) : Ev → W Bool := fun ρ Q => ga ρ fun a => if a = true then Q true else gb ρ Q
/-- and, or as values -/
def wAndV (ga gb : Ev → W PyData) : Ev → W PyData := fun ρ Q => ga ρ fun x => ∃ a, x = .bool a ∧ if a = true then gb ρ Q else Q (.bool false)
def wOrV (ga gb : Ev → W PyData) : Ev → W PyData := fun ρ Q => ga ρ fun x => ∃ a, x = .bool a ∧ if a = true then Q (.bool true) else gb ρ Q
def wNotV (g : Ev → W PyData) : Ev → W PyData := fun ρ Q => g ρ fun x => ∃ a, x = .bool a ∧ Q (.bool (!a))
def wIf {α : Type} (c : Ev → W Bool) (ga gb : Ev → W α) : Ev → W α := fun ρ Q => c ρ fun b => if b = true then ga ρ Q else gb ρ Q
theorem ite_mono {c : Prop} [Decidable c] {A B A' B' : Prop} (h : A → A') (h' : B → B') (q : if c then A else B) : if c then A' else B' := by
  by_cases e : c
  · rw [if_pos e] at q ⊢; exact h q
  · rw [if_neg e] at q ⊢; exact h' q
section
variable {X : Cx} {a b : Expr} {g ga gb : Ev → W PyData} {c ca cb : Ev → W Bool} {pos : Pos} {m : Md} {rest : List Expr}
theorem mono_wT (h : Mono g) : Mono (wT g) := fun ρ _ _ i q => h ρ _ _ (fun _ ⟨b, e, q⟩ => ⟨b, e, i b q⟩) q
theorem mono_wNot (h : Mono c) : Mono (wNot c) := fun ρ _ _ i q => h ρ _ _ (fun _ q => i _ q) q
theorem mono_wAnd (h : Mono ca) (h' : Mono cb) : Mono (wAnd ca cb) := fun ρ _ _ i q => h ρ _ _ (fun _ q => ite_mono (h' ρ _ _ i) (i _) q) q
theorem mono_wOr (h : Mono ca) (h' : Mono cb) : Mono (wOr ca cb) := fun ρ _ _ i q => h ρ _ _ (fun _ q => ite_mono (i _) (h' ρ _ _ i) q) q
theorem mono_wAndV (h : Mono ga) (h' : Mono gb) : Mono (wAndV ga gb) := fun ρ _ _ i q => h ρ _ _ (fun _ ⟨b, e, q⟩ => ⟨b, e, ite_mono (h' ρ _ _ i) (i _) q⟩) q
theorem mono_wOrV (h : Mono ga) (h' : Mono gb) : Mono (wOrV ga gb) := fun ρ _ _ i q => h ρ _ _ (fun _ ⟨b, e, q⟩ => ⟨b, e, ite_mono (i _) (h' ρ _ _ i) q⟩) q
theorem mono_wNotV (h : Mono g) : Mono (wNotV g) := fun ρ _ _ i q => h ρ _ _ (fun _ ⟨b, e, q⟩ => ⟨b, e, i _ q⟩) q
theorem mono_wIf {α : Type} {ga gb : Ev → W α} (hc : Mono c) (h : Mono ga) (h' : Mono gb) : Mono (wIf c ga gb) := fun ρ _ _ i q => hc ρ _ _ (fun _ q => ite_mono (h ρ _ _ i) (h' ρ _ _ i) q) q

theorem eb_val (h : EW X .B a g) (he : ∀ whole, isTrue a X.env whole = (do let v ← whole; standAt a.pos; holding [v] (truthy v)) := by intro _; rfl) : EB X a (wT g) :=
  ⟨mono_wT h.mono, (pt_val h.pe he).imp fun σ H Q ⟨B, P, ρ, R, q⟩ => ⟨B, P, ρ, R, h.mono ρ _ _ (fun d ⟨b, e, q⟩ v P' H' f r => by
    subst e
    exact ⟨b, r.bl, q P' H' f⟩) q⟩⟩
theorem eb_not (h : EB X a c) : EB X (.UnaryOp .Not a pos) (wNot c) :=
  ⟨mono_wNot h.mono, (pt_not h.pt).imp fun σ H Q ⟨B, P, ρ, R, q⟩ => ⟨B, P, ρ, R, h.mono ρ _ _ (fun b q P' H' f => q P' H' f) q⟩⟩
structure EBW (X : Cx) (e : Expr) (g : Ev → W Bool) : Prop where
  mono : Mono g
  pw : PW X e (tWb X.K g)
theorem _root_.L2.PW.imp {X : Cx} {e : Expr} {t t' : TT} (h : PW X e t) (i : ∀ σ H Q, t' σ H Q → t σ H Q) : PW X e t' := ⟨fun w pins s σ H Q I q => h.run w pins s σ H Q I (i _ _ _ q)⟩
theorem EBW.eb (h : EBW X a c) : EB X a c := ⟨h.mono, h.pw.pt⟩
theorem ebw_and1 (h : EB X a c) : EBW X (.BoolOp .And [a] pos) c := ⟨h.mono, pw_and1 h.pt⟩
theorem ebw_or1 (h : EB X a c) : EBW X (.BoolOp .Or [a] pos) c := ⟨h.mono, pw_or1 h.pt⟩
theorem ebw_and (h : EB X a ca) (h' : EBW X (.BoolOp .And (b :: rest) pos) cb) : EBW X (.BoolOp .And (a :: b :: rest) pos) (wAnd ca cb) :=
  ⟨mono_wAnd h.mono h'.mono, (pw_and h.pt h'.pw).imp fun σ H Q ⟨B, P, ρ, R, q⟩ => ⟨B, P, ρ, R, h.mono ρ _ _ (fun k q P1 H1 f1 => ite_mono (fun q => ⟨B, P1, ρ, R.fut f1, h'.mono ρ _ _ (fun _ q P2 H2 f2 => q P2 H2 (f1.trans0 f2)) q⟩) (fun q => q P1 H1 f1) q) q⟩⟩
theorem ebw_or (h : EB X a ca) (h' : EBW X (.BoolOp .Or (b :: rest) pos) cb) : EBW X (.BoolOp .Or (a :: b :: rest) pos) (wOr ca cb) :=
  ⟨mono_wOr h.mono h'.mono, (pw_or h.pt h'.pw).imp fun σ H Q ⟨B, P, ρ, R, q⟩ => ⟨B, P, ρ, R, h.mono ρ _ _ (fun k q P1 H1 f1 => ite_mono (fun q => q P1 H1 f1) (fun q => ⟨B, P1, ρ, R.fut f1, h'.mono ρ _ _ (fun _ q P2 H2 f2 => q P2 H2 (f1.trans0 f2)) q⟩) q) q⟩⟩
theorem eb_and (h : EB X a ca) (h' : EBW X (.BoolOp .And (b :: rest) pos) cb) : EB X (.BoolOp .And (a :: b :: rest) pos) (wAnd ca cb) := (ebw_and h h').eb
theorem eb_or (h : EB X a ca) (h' : EBW X (.BoolOp .Or (b :: rest) pos) cb) : EB X (.BoolOp .Or (a :: b :: rest) pos) (wOr ca cb) := (ebw_or h h').eb

theorem ew_one {op} (h : EW X m a g) : EW X m (.BoolOp op [a] pos) g := ⟨h.mono, pe_one h.pe⟩
theorem ew_and (h : EW X .S a ga) (h' : EW X .S (.BoolOp .And (b :: rest) pos) gb) : EW X .S (.BoolOp .And (a :: b :: rest) pos) (wAndV ga gb) :=
  ⟨mono_wAndV h.mono h'.mono, (pe_and h.pe h'.pe).imp fun σ H Q ⟨B, P, ρ, R, q⟩ => ⟨B, P, ρ, R, h.mono ρ _ _ (fun d ⟨k, e, q⟩ v P1 H1 f1 r => by
    subst e
    exact ⟨k, r, ite_mono (fun q => ⟨B, P1, ρ, R.fut f1, h'.mono ρ _ _ (fun _ q v P2 H2 f2 r2 => q v P2 H2 (f1.trans0 f2) r2) q⟩) (fun q => q _ P1 H1 f1 rfl) q⟩) q⟩⟩
theorem ew_or (h : EW X .S a ga) (h' : EW X .S (.BoolOp .Or (b :: rest) pos) gb) : EW X .S (.BoolOp .Or (a :: b :: rest) pos) (wOrV ga gb) :=
  ⟨mono_wOrV h.mono h'.mono, (pe_or h.pe h'.pe).imp fun σ H Q ⟨B, P, ρ, R, q⟩ => ⟨B, P, ρ, R, h.mono ρ _ _ (fun d ⟨k, e, q⟩ v P1 H1 f1 r => by
    subst e
    exact ⟨k, r, ite_mono (fun q => q _ P1 H1 f1 rfl) (fun q => ⟨B, P1, ρ, R.fut f1, h'.mono ρ _ _ (fun _ q v P2 H2 f2 r2 => q v P2 H2 (f1.trans0 f2) r2) q⟩) q⟩) q⟩⟩
theorem ew_not (h : EW X .S a g) : EW X .S (.UnaryOp .Not a pos) (wNotV g) :=
  ⟨mono_wNotV h.mono, (pe_not h.pe).imp fun σ H Q ⟨B, P, ρ, R, q⟩ => ⟨B, P, ρ, R, h.mono ρ _ _ (fun d ⟨k, e, q⟩ v P1 H1 f1 r => by
    subst e
    exact ⟨k, r, q _ P1 H1 f1 rfl⟩) q⟩⟩
theorem ew_if {t : Expr} (hc : EB X t c) (h : EW X m a ga) (h' : EW X m b gb) : EW X m (.IfExp t a b pos) (wIf c ga gb) :=
  ⟨mono_wIf hc.mono h.mono h'.mono, (pe_ifExp hc.pt h.pe h'.pe).imp fun σ H Q ⟨B, P, ρ, R, q⟩ => ⟨B, P, ρ, R, hc.mono ρ _ _ (fun k q P1 H1 f1 => ite_mono
    (fun q => ⟨B, P1, ρ, R.fut f1, h.mono ρ _ _ (fun _ q v P2 H2 f2 r2 => q v P2 H2 (f1.trans0 f2) (r2.back f1)) q⟩)
    (fun q => ⟨B, P1, ρ, R.fut f1, h'.mono ρ _ _ (fun _ q v P2 H2 f2 r2 => q v P2 H2 (f1.trans0 f2) (r2.back f1)) q⟩) q) q⟩⟩
end
end WL

namespace WL
open PySem PySem.Spec PyProof.Rows L2

/-! ### lists of expressions -/
def wNil : Ev → W (List PyData) := fun _ Q => Q []
def wCons (g : Ev → W PyData) (gs : Ev → W (List PyData)) : Ev → W (List PyData) := fun ρ Q => g ρ fun d => gs ρ fun ds => Q (d :: ds)
def wTup (gs : Ev → W (List PyData)) : Ev → W PyData := fun ρ Q => gs ρ fun ds => ds.length ≤ sizeLine ∧ Q (.tuple ds)
def wLst (gs : Ev → W (List PyData)) : Ev → W PyData := fun ρ Q => gs ρ fun ds => ds.length ≤ sizeLine ∧ Q (.list ds)
section
variable {X : Cx} {a b e : Expr} {es : List Expr} {g ga gb : Ev → W PyData} {gs : Ev → W (List PyData)} {pos : Pos} {m : Md}
theorem mono_wCons (h : Mono g) (h' : Mono gs) : Mono (wCons g gs) := fun ρ _ _ i q => h ρ _ _ (fun _ q => h' ρ _ _ (fun _ q => i _ q) q) q
theorem ea_nil : EA X [] wNil := ⟨fun _ _ _ i q => i _ q, pa_nil.imp fun σ H Q ⟨B, P, ρ, R, q⟩ => q [] P H (.refl R.pots) rfl⟩
theorem ea_cons (h : EW X .S e g) (h' : EA X es gs) (hs : starEach (e :: es) X.env = (false, eval e X.env) :: starEach es X.env := by rfl) : EA X (e :: es) (wCons g gs) :=
  ⟨mono_wCons h.mono h'.mono, (pa_cons h.pe h'.pa hs).imp fun σ H Q ⟨B, P, ρ, R, q⟩ => ⟨B, P, ρ, R, h.mono ρ _ _ (fun d q v P1 H1 f1 r1 => ⟨B, P1, ρ, R.fut f1, h'.mono ρ _ _ (fun ds q vs P2 H2 f2 r2 =>
    q (v :: vs) P2 H2 (f1.trans0 f2) ⟨v, vs, rfl, Rp.fut0 f2 r1, r2⟩) q⟩) q⟩⟩
theorem ew_tup {k} (h : EA X es gs) : EW X .S (.Tuple es k pos) (wTup gs) :=
  ⟨fun ρ _ _ i q => h.mono ρ _ _ (fun _ ⟨z, q⟩ => ⟨z, i _ q⟩) q, (pe_tupF h.pa).imp fun σ H Q ⟨B, P, ρ, R, q⟩ => ⟨B, P, ρ, R, h.mono ρ _ _ (fun ds ⟨z, q⟩ vs P1 H1 f1 r1 => ⟨by rw [r1.len]; exact z, fun p its hp => by
    have f2 : Fut S0 P1 H1 P1 (upd H1 p (.frz (tupO its) (.tup vs))) := .new f1.ok' hp
    exact q (.ref p) P1 _ (f1.trans0 f2) ⟨p, vs, rfl, .inl ⟨its, upd_same⟩, r1.fut0 f2⟩⟩) q⟩⟩
theorem ew_lst (h : EA X es gs) : EW X .F (.List es pos) (wLst gs) :=
  ⟨fun ρ _ _ i q => h.mono ρ _ _ (fun _ ⟨z, q⟩ => ⟨z, i _ q⟩) q, (pe_lst h.pa).imp fun σ H Q ⟨B, P, ρ, R, q⟩ => ⟨B, P, ρ, R, h.mono ρ _ _ (fun ds ⟨z, q⟩ vs P1 H1 f1 r1 => ⟨by rw [r1.len]; exact z,
    new_list (M := Mo B ρ σ) f1.ok' r1 (fun a h => (R.fut f1).mtrk h) fun v P2 H2 f2 r2 => q v P2 H2 (f1.trans0 f2) (r2.back f1)⟩) q⟩⟩
end

/-! ### built-ins of one argument -/
section
variable {X : Cx} {a b e : Expr} {g : Ev → W PyData} {pos p : Pos} {m : Md} {x : Str} {id T : String} {r : List V → Hp → VK → Prop} {op : PyData → Option PyData}
theorem ew_callB (U : UnOk X.K m (fun v => r [v]) op) (hc : CallR X (.builtin id) r) (hg : Gl X x) (hm : X.mg x = none) (hv : bootBuiltins x = some (.builtin id)) (ha : EW X .B e g) (hn : x ≠ "__name__" := by decide) (hdb : (x == ("__debug__" : Str)) = false := by decide)
    (hs : starEach [e] X.env = (false, eval e X.env) :: starEach [] X.env := by rfl) : EW X m (.Call (.Name x p) [e] [] pos) (wU op g) :=
  ew_un U ha fun t ht => pe_callB hc hg hm hv (pa_cons ht pa_nil hs) hn hdb hs rfl
theorem ew_callTy (U : UnOk X.K m (fun v => r [v]) op) (hc : CallR X (.type T) r) (hg : Gl X x) (hm : X.mg x = none) (hv : bootBuiltins x = some (.type T)) (ha : EW X .B e g) (hn : x ≠ "__name__" := by decide) (hdb : (x == ("__debug__" : Str)) = false := by decide)
    (hs : starEach [e] X.env = (false, eval e X.env) :: starEach [] X.env := by rfl) : EW X m (.Call (.Name x p) [e] [] pos) (wU op g) :=
  ew_un U ha fun t ht => pe_callTy hc hg hm hv (pa_cons ht pa_nil hs) hn hdb hs rfl
end
def lenD : PyData → Option PyData
  | .list ds => some (.int ds.length)
  | .tuple ds => some (.int ds.length)
  | .str x => if x.length ≤ sizeLine then some (.int x.length) else none
  | _ => none
def allBools : List PyData → Option (List Bool)
  | [] => some []
  | .bool b :: ds => (allBools ds).map (b :: ·)
  | _ :: _ => none
def allD : PyData → Option PyData
  | .list ds => (allBools ds).map fun bs => .bool (bs.all id)
  | _ => none
def anyD : PyData → Option PyData
  | .list ds => (allBools ds).map fun bs => .bool (bs.any id)
  | _ => none
def allInts : List PyData → Option (List Int)
  | [] => some []
  | .int i :: ds => (allInts ds).map (i :: ·)
  | _ :: _ => none
def sumD : PyData → Option PyData
  | .list ds => (allInts ds).map fun ns => .int ns.sum
  | _ => none
def maxD : PyData → Option PyData
  | .list (d :: ds) => (allInts (d :: ds)).map fun ns => .int (ns.foldl max ns.head!)
  | _ => none
def minD : PyData → Option PyData
  | .list (d :: ds) => (allInts (d :: ds)).map fun ns => .int (ns.foldl min ns.head!)
  | _ => none
def tupleD : PyData → Option PyData
  | .list ds => some (.tuple ds)
  | .tuple ds => some (.tuple ds)
  | _ => none
def listD : PyData → Option PyData
  | .list ds => some (.list ds)
  | .tuple ds => some (.list ds)
  | _ => none
def absD : PyData → Option PyData
  | .int i => some (.int (if i < 0 then -i else i))
  | _ => none
def intD : PyData → Option PyData
  | .int i => some (.int i)
  | .bool b => some (.int (if b then 1 else 0))
  | _ => none
section
variable {K : PySem.W.Frag} {H : Hp} {M P : Addr → Prop}
theorem bools_of : ∀ {ds : List PyData} {vs : List V} {bs : List Bool}, allBools ds = some bs → RpA K H M P ds vs → vs = bs.map V.bl
  | [], _, _, e, h => by cases e; exact h
  | .bool b :: ds, _, bs, e, h => by
    obtain ⟨v, r, rfl, h1, h2⟩ := h
    obtain rfl : v = .bl b := h1
    cases q : allBools ds with
    | none => simp [allBools, q] at e
    | some cs =>
      simp [allBools, q] at e
      subst e
      rw [bools_of q h2]
      rfl
  | .none :: _, _, _, e, _ => nomatch e
  | .int _ :: _, _, _, e, _ => nomatch e
  | .str _ :: _, _, _, e, _ => nomatch e
  | .list _ :: _, _, _, e, _ => nomatch e
  | .tuple _ :: _, _, _, e, _ => nomatch e
  | .dict _ :: _, _, _, e, _ => nomatch e
theorem ints_of : ∀ {ds : List PyData} {vs : List V} {bs : List Int}, allInts ds = some bs → RpA K H M P ds vs → vs = bs.map V.int
  | [], _, _, e, h => by cases e; exact h
  | .int b :: ds, _, bs, e, h => by
    obtain ⟨v, r, rfl, h1, h2⟩ := h
    obtain rfl : v = .int b := h1
    cases q : allInts ds with
    | none => simp [allInts, q] at e
    | some cs =>
      simp [allInts, q] at e
      subst e
      rw [ints_of q h2]
      rfl
  | .none :: _, _, _, e, _ => nomatch e
  | .bool _ :: _, _, _, e, _ => nomatch e
  | .str _ :: _, _, _, e, _ => nomatch e
  | .list _ :: _, _, _, e, _ => nomatch e
  | .tuple _ :: _, _, _, e, _ => nomatch e
  | .dict _ :: _, _, _, e, _ => nomatch e
theorem foldl_max_ge (ns : List Int) : ∀ a, a ≤ ns.foldl max a ∧ ∀ y ∈ ns, y ≤ ns.foldl max a := by
  induction ns with
  | nil => intro a; exact ⟨Int.le_refl _, fun y h => nomatch h⟩
  | cons n r ih =>
    intro a
    obtain ⟨h1, h2⟩ := ih (max a n)
    refine ⟨by have := Int.le_max_left a n; rw [List.foldl_cons]; omega, fun y hy => ?_⟩
    rw [List.foldl_cons]
    rcases List.mem_cons.mp hy with rfl | hy
    · have := Int.le_max_right a y; omega
    · exact h2 y hy
theorem foldl_max_mem (ns : List Int) : ∀ a, ns.foldl max a = a ∨ ns.foldl max a ∈ ns := by
  induction ns with
  | nil => intro a; exact .inl rfl
  | cons n r ih =>
    intro a
    rw [List.foldl_cons]
    rcases ih (max a n) with e | e
    · rw [e]
      by_cases h : a ≤ n
      · rw [Int.max_eq_right h]; exact .inr List.mem_cons_self
      · rw [Int.max_eq_left (by omega)]; exact .inl rfl
    · exact .inr (List.mem_cons_of_mem _ e)
theorem foldl_min_le (ns : List Int) : ∀ a, ns.foldl min a ≤ a ∧ ∀ y ∈ ns, ns.foldl min a ≤ y := by
  induction ns with
  | nil => intro a; exact ⟨Int.le_refl _, fun y h => nomatch h⟩
  | cons n r ih =>
    intro a
    obtain ⟨h1, h2⟩ := ih (min a n)
    refine ⟨by have := Int.min_le_left a n; rw [List.foldl_cons]; omega, fun y hy => ?_⟩
    rw [List.foldl_cons]
    rcases List.mem_cons.mp hy with rfl | hy
    · have := Int.min_le_right a y; omega
    · exact h2 y hy
theorem foldl_min_mem (ns : List Int) : ∀ a, ns.foldl min a = a ∨ ns.foldl min a ∈ ns := by
  induction ns with
  | nil => intro a; exact .inl rfl
  | cons n r ih =>
    intro a
    rw [List.foldl_cons]
    rcases ih (min a n) with e | e
    · rw [e]
      by_cases h : a ≤ n
      · rw [Int.min_eq_left h]; exact .inl rfl
      · rw [Int.min_eq_right (by omega)]; exact .inr List.mem_cons_self
    · exact .inr (List.mem_cons_of_mem _ e)
theorem un_len : UnOk K .S (fun v H Q => (∃ p ys, [v] = [V.ref p] ∧ (SqL K H p ys ∨ SqT K H p ys) ∧ Q (.int ys.length) H) ∨ ∃ z, [v] = [V.str z] ∧ z.length ≤ sizeLine ∧ Q (.int z.length) H) lenD := by
  intro M P H x dx d Q fx po mt rx e k
  cases dx with
  | list ds =>
    cases e
    obtain ⟨a, vs, rfl, l, r⟩ := rx.lst
    refine .inl ⟨a, vs, rfl, .inl l, ?_⟩
    rw [r.len]
    exact k _ P H (.refl po) rfl
  | tuple ds =>
    cases e
    obtain ⟨a, vs, rfl, l, r⟩ := rx.tup
    refine .inl ⟨a, vs, rfl, .inr l, ?_⟩
    rw [r.len]
    exact k _ P H (.refl po) rfl
  | str z =>
    have e : (if z.length ≤ sizeLine then some (PyData.int z.length) else none) = some d := e
    split at e
    · rename_i c
      cases e
      obtain rfl := rx.str
      exact .inr ⟨z, rfl, c, k _ P H (.refl po) rfl⟩
    · cases e
  | _ => exact nomatch e
theorem un_all : UnOk K .S (fun v => rAll K [v]) allD := by
  intro M P H x dx d Q fx po mt rx e k
  cases dx with
  | list ds =>
    obtain ⟨a, vs, rfl, l, r⟩ := rx.lst
    cases q : allBools ds with
    | none => simp [allD, q] at e
    | some bs =>
      simp [allD, q] at e
      subst e
      exact ⟨a, bs, rfl, by rw [← bools_of q r]; exact l, k _ P H (.refl po) (by show _ = _; simp)⟩
  | _ => exact nomatch e
theorem un_any : UnOk K .S (fun v => rAny K [v]) anyD := by
  intro M P H x dx d Q fx po mt rx e k
  cases dx with
  | list ds =>
    obtain ⟨a, vs, rfl, l, r⟩ := rx.lst
    cases q : allBools ds with
    | none => simp [anyD, q] at e
    | some bs =>
      simp [anyD, q] at e
      subst e
      exact ⟨a, bs, rfl, by rw [← bools_of q r]; exact l, k _ P H (.refl po) (by show _ = _; simp)⟩
  | _ => exact nomatch e
theorem un_sum : UnOk K .S (fun v => rSum K [v]) sumD := by
  intro M P H x dx d Q fx po mt rx e k
  cases dx with
  | list ds =>
    obtain ⟨a, vs, rfl, l, r⟩ := rx.lst
    cases q : allInts ds with
    | none => simp [sumD, q] at e
    | some bs =>
      simp [sumD, q] at e
      subst e
      exact ⟨a, bs, rfl, by rw [← ints_of q r]; exact l, k _ P H (.refl po) rfl⟩
  | _ => exact nomatch e
theorem un_max : UnOk K .S (fun v => rMax K [v]) maxD := by
  intro M P H x dx d Q fx po mt rx e k
  cases dx with
  | list ds =>
    obtain ⟨a, vs, rfl, l, r⟩ := rx.lst
    cases ds with
    | nil => exact nomatch e
    | cons d0 ds =>
      cases q : allInts (d0 :: ds) with
      | none => simp [maxD, q] at e
      | some bs =>
        simp [maxD, q] at e
        subst e
        have hv := ints_of q r
        cases bs with
        | nil =>
          have := r.len
          rw [hv] at this
          simp at this
        | cons n ns =>
          refine ⟨a, n :: ns, rfl, by rw [← hv]; exact l, by simp, fun m hm hle => ?_⟩
          have e2 : m = (n :: ns).foldl max n := by
            obtain ⟨h1, h2⟩ := foldl_max_ge (n :: ns) n
            have h3 := h2 m hm
            rcases foldl_max_mem (n :: ns) n with h4 | h4
            · rw [h4] at h3 ⊢
              have := hle n List.mem_cons_self
              omega
            · have := hle _ h4
              omega
          rw [e2]
          exact k _ P H (.refl po) rfl
  | _ => exact nomatch e
theorem un_min : UnOk K .S (fun v => rMin K [v]) minD := by
  intro M P H x dx d Q fx po mt rx e k
  cases dx with
  | list ds =>
    obtain ⟨a, vs, rfl, l, r⟩ := rx.lst
    cases ds with
    | nil => exact nomatch e
    | cons d0 ds =>
      cases q : allInts (d0 :: ds) with
      | none => simp [minD, q] at e
      | some bs =>
        simp [minD, q] at e
        subst e
        have hv := ints_of q r
        cases bs with
        | nil =>
          have := r.len
          rw [hv] at this
          simp at this
        | cons n ns =>
          refine ⟨a, n :: ns, rfl, by rw [← hv]; exact l, by simp, fun m hm hle => ?_⟩
          have e2 : m = (n :: ns).foldl min n := by
            obtain ⟨h1, h2⟩ := foldl_min_le (n :: ns) n
            have h3 := h2 m hm
            rcases foldl_min_mem (n :: ns) n with h4 | h4
            · rw [h4] at h3 ⊢
              have := hle n List.mem_cons_self
              omega
            · have := hle _ h4
              omega
          rw [e2]
          exact k _ P H (.refl po) rfl
  | _ => exact nomatch e
theorem un_tuple : UnOk K .S (fun v H Q => ∃ p ys, [v] = [V.ref p] ∧ ((SqL K H p ys ∧ newT H ys Q) ∨ (SqT K H p ys ∧ Q (.ref p) H))) tupleD := by
  intro M P H x dx d Q fx po mt rx e k
  cases dx with
  | list ds =>
    cases e
    obtain ⟨a, vs, rfl, l, r⟩ := rx.lst
    exact ⟨a, vs, rfl, .inl ⟨l, fun p its hp => k _ P _ (.new po hp) ⟨p, vs, rfl, .inl ⟨its, upd_same⟩, r.fut0 (.new po hp)⟩⟩⟩
  | tuple ds =>
    cases e
    obtain ⟨a, vs, rfl, l, r⟩ := rx.tup
    exact ⟨a, vs, rfl, .inr ⟨l.sq, k _ P H (.refl po) ⟨a, vs, rfl, l, r⟩⟩⟩
  | _ => exact nomatch e
theorem un_list : UnOk K .F (fun v H Q => ∃ p ys, [v] = [V.ref p] ∧ (SqL K H p ys ∨ SqT K H p ys) ∧ ∀ l, H l = none → Q (.ref l) (upd H l (.lst ys))) listD := by
  intro M P H x dx d Q fx po mt rx e k
  cases dx with
  | list ds =>
    cases e
    obtain ⟨a, vs, rfl, l, r⟩ := rx.lst
    exact ⟨a, vs, rfl, .inl l, new_list po r mt k⟩
  | tuple ds =>
    cases e
    obtain ⟨a, vs, rfl, l, r⟩ := rx.tup
    exact ⟨a, vs, rfl, .inr l, new_list po r mt k⟩
  | _ => exact nomatch e
end
theorem un_abs {K : PySem.W.Frag} : UnOk K .S (fun v H Q => ∃ i, [v] = [V.int i] ∧ Q (.int (if i < 0 then -i else i)) H) absD := by
  intro M P H x dx d Q fx po mt rx e k
  cases dx with
  | int i =>
    cases e
    obtain rfl := rx.int
    exact ⟨i, rfl, k _ P H (.refl po) rfl⟩
  | _ => exact nomatch e
theorem un_int {K : PySem.W.Frag} : UnOk K .S (fun v H Q => (∃ i, [v] = [V.int i] ∧ Q (.int i) H) ∨ ∃ k, [v] = [V.bl k] ∧ Q (.int (if k then 1 else 0)) H) intD := by
  intro M P H x dx d Q fx po mt rx e k
  cases dx with
  | int i =>
    cases e
    obtain rfl := rx.int
    exact .inl ⟨i, rfl, k _ P H (.refl po) rfl⟩
  | bool b =>
    cases e
    obtain rfl := rx.bl
    exact .inr ⟨b, rfl, k _ P H (.refl po) rfl⟩
  | _ => exact nomatch e
section
variable {X : Cx} {a b e : Expr} {g ga gb : Ev → W PyData} {pos p : Pos}
theorem ew_len (hg : Gl X "len") (hm : X.mg "len" = none) (ha : EW X .B e g) (hs : starEach [e] X.env = (false, eval e X.env) :: starEach [] X.env := by rfl) : EW X .S (.Call (.Name "len" p) [e] [] pos) (wU lenD g) :=
  ew_callB un_len (CallR.or call_len_seq call_len_str) hg hm PySem.boot_len ha (hs := hs)
theorem ew_all (hg : Gl X "all") (hm : X.mg "all" = none) (ha : EW X .B e g) (hc : X.calm = true := by rfl) (hs : starEach [e] X.env = (false, eval e X.env) :: starEach [] X.env := by rfl) : EW X .S (.Call (.Name "all" p) [e] [] pos) (wU allD g) :=
  ew_callB un_all (cr_all hc) hg hm (by decide +kernel) ha (hs := hs)
theorem ew_any (hg : Gl X "any") (hm : X.mg "any" = none) (ha : EW X .B e g) (hc : X.calm = true := by rfl) (hs : starEach [e] X.env = (false, eval e X.env) :: starEach [] X.env := by rfl) : EW X .S (.Call (.Name "any" p) [e] [] pos) (wU anyD g) :=
  ew_callB un_any (cr_any hc) hg hm (by decide +kernel) ha (hs := hs)
theorem ew_sum (hg : Gl X "sum") (hm : X.mg "sum" = none) (ha : EW X .B e g) (hc : X.calm = true := by rfl) (hs : starEach [e] X.env = (false, eval e X.env) :: starEach [] X.env := by rfl) : EW X .S (.Call (.Name "sum" p) [e] [] pos) (wU sumD g) :=
  ew_callB un_sum (cr_sum hc) hg hm (by decide +kernel) ha (hs := hs)
theorem ew_max1 (hg : Gl X "max") (hm : X.mg "max" = none) (ha : EW X .B e g) (hc : X.calm = true := by rfl) (hs : starEach [e] X.env = (false, eval e X.env) :: starEach [] X.env := by rfl) : EW X .S (.Call (.Name "max" p) [e] [] pos) (wU maxD g) :=
  ew_callB un_max (cr_max hc) hg hm (by decide +kernel) ha (hs := hs)
theorem ew_min1 (hg : Gl X "min") (hm : X.mg "min" = none) (ha : EW X .B e g) (hc : X.calm = true := by rfl) (hs : starEach [e] X.env = (false, eval e X.env) :: starEach [] X.env := by rfl) : EW X .S (.Call (.Name "min" p) [e] [] pos) (wU minD g) :=
  ew_callB un_min (cr_min hc) hg hm (by decide +kernel) ha (hs := hs)
theorem ew_tuple (hg : Gl X "tuple") (hm : X.mg "tuple" = none) (ha : EW X .B e g) (hs : starEach [e] X.env = (false, eval e X.env) :: starEach [] X.env := by rfl) : EW X .S (.Call (.Name "tuple" p) [e] [] pos) (wU tupleD g) :=
  ew_callTy un_tuple call_tupF hg hm (by decide +kernel) ha (hs := hs)
theorem ew_list (hg : Gl X "list") (hm : X.mg "list" = none) (ha : EW X .B e g) (hs : starEach [e] X.env = (false, eval e X.env) :: starEach [] X.env := by rfl) : EW X .F (.Call (.Name "list" p) [e] [] pos) (wU listD g) :=
  ew_callTy un_list call_list_of hg hm (by decide +kernel) ha (hs := hs)
theorem ew_abs (hg : Gl X "abs") (hm : X.mg "abs" = none) (ha : EW X .B e g) (hs : starEach [e] X.env = (false, eval e X.env) :: starEach [] X.env := by rfl) : EW X .S (.Call (.Name "abs" p) [e] [] pos) (wU absD g) :=
  ew_callB un_abs call_abs hg hm (by decide +kernel) ha (hs := hs)
theorem ew_int1 (hg : Gl X "int") (hm : X.mg "int" = none) (ha : EW X .B e g) (hs : starEach [e] X.env = (false, eval e X.env) :: starEach [] X.env := by rfl) : EW X .S (.Call (.Name "int" p) [e] [] pos) (wU intD g) :=
  ew_callTy un_int call_int1 hg hm (by decide +kernel) ha (hs := hs)
end

/-! ### built-ins of two arguments -/
section
variable {X : Cx} {a b e : Expr} {g ga gb : Ev → W PyData} {pos p : Pos} {m : Md} {x : Str} {id T : String} {r : List V → Hp → VK → Prop} {op : PyData → PyData → Option PyData}
theorem ew_callB2 (U : BinOk X.K m (fun v u => r [v, u]) op) (hc : CallR X (.builtin id) r) (hg : Gl X x) (hm : X.mg x = none) (hv : bootBuiltins x = some (.builtin id)) (ha : EW X .B a ga) (hb : EW X .B b gb) (hn : x ≠ "__name__" := by decide) (hdb : (x == ("__debug__" : Str)) = false := by decide)
    (hs : starEach [a, b] X.env = (false, eval a X.env) :: starEach [b] X.env := by rfl) (hs2 : starEach [b] X.env = (false, eval b X.env) :: starEach [] X.env := by rfl) (hpl : (backTo pos (starEach [b] X.env)).any (·.1) = false := by rfl) : EW X m (.Call (.Name x p) [a, b] [] pos) (wB op ga gb) :=
  ew_bin U ha hb fun ta tb hta htb => pe_callB hc hg hm hv (pa_cons hta (pa_cons htb pa_nil hs2) hs) hn hdb hs hpl
abbrev max2D : PyData → PyData → Option PyData := intOp fun i j => .int (if j > i then j else i)
abbrev min2D : PyData → PyData → Option PyData := intOp fun i j => .int (if j < i then j else i)
theorem bin_call2 {K : PySem.W.Frag} {f : Int → Int → Int} : BinOk K .S (fun v u H Q => ∃ i j, [v, u] = [V.int i, V.int j] ∧ Q (.int (f i j)) H) (intOp fun i j => .int (f i j)) := by
  intro M P H x y dx dy d Q fx po mt rx ry e k
  cases dx with
  | int i =>
    cases dy with
    | int j =>
      cases e
      obtain rfl := rx.int
      obtain rfl := ry.int
      exact ⟨i, j, rfl, k _ P H (.refl po) rfl⟩
    | _ => exact nomatch e
  | _ => exact nomatch e
theorem ew_max2 (hg : Gl X "max") (hm : X.mg "max" = none) (ha : EW X .B a ga) (hb : EW X .B b gb) (hc : X.calm = true := by rfl)
    (hs : starEach [a, b] X.env = (false, eval a X.env) :: starEach [b] X.env := by rfl) (hs2 : starEach [b] X.env = (false, eval b X.env) :: starEach [] X.env := by rfl) (hpl : (backTo pos (starEach [b] X.env)).any (·.1) = false := by rfl) : EW X .S (.Call (.Name "max" p) [a, b] [] pos) (wB max2D ga gb) :=
  ew_callB2 bin_call2 (call_max2 hc) hg hm (by decide +kernel) ha hb (hs := hs) (hs2 := hs2) (hpl := hpl)
theorem ew_min2 (hg : Gl X "min") (hm : X.mg "min" = none) (ha : EW X .B a ga) (hb : EW X .B b gb) (hc : X.calm = true := by rfl)
    (hs : starEach [a, b] X.env = (false, eval a X.env) :: starEach [b] X.env := by rfl) (hs2 : starEach [b] X.env = (false, eval b X.env) :: starEach [] X.env := by rfl) (hpl : (backTo pos (starEach [b] X.env)).any (·.1) = false := by rfl) : EW X .S (.Call (.Name "min" p) [a, b] [] pos) (wB min2D ga gb) :=
  ew_callB2 bin_call2 (call_min2 hc) hg hm (by decide +kernel) ha hb (hs := hs) (hs2 := hs2) (hpl := hpl)
def divmodD : PyData → PyData → Option PyData := intOpC CDiv fun i j => .tuple [.int (i / j), .int (i % j)]
theorem bin_divmod {K : PySem.W.Frag} : BinOk K .S (fun v u H Q => ∃ i j, [v, u] = [V.int i, V.int j] ∧ CDiv i j ∧ newT H [.int (i / j), .int (i % j)] Q) divmodD := by
  intro M P H x y dx dy d Q fx po mt rx ry e k
  cases dx with
  | int i =>
    cases dy with
    | int j =>
      have e : (if CDiv i j then some (PyData.tuple [.int (i / j), .int (i % j)]) else none) = some d := e
      by_cases c : CDiv i j
      · rw [if_pos c] at e
        cases e
        obtain rfl := rx.int
        obtain rfl := ry.int
        exact ⟨i, j, rfl, c, fun p its hp => k _ P _ (.new po hp) ⟨p, _, rfl, .inl ⟨its, upd_same⟩, _, _, rfl, rfl, _, _, rfl, rfl, rfl⟩⟩
      · rw [if_neg c] at e
        cases e
    | _ => exact nomatch e
  | _ => exact nomatch e
theorem ew_divmod (hg : Gl X "divmod") (hm : X.mg "divmod" = none) (ha : EW X .B a ga) (hb : EW X .B b gb)
    (hs : starEach [a, b] X.env = (false, eval a X.env) :: starEach [b] X.env := by rfl) (hs2 : starEach [b] X.env = (false, eval b X.env) :: starEach [] X.env := by rfl) (hpl : (backTo pos (starEach [b] X.env)).any (·.1) = false := by rfl) : EW X .S (.Call (.Name "divmod" p) [a, b] [] pos) (wB divmodD ga gb) :=
  ew_callB2 bin_divmod call_divmodF hg hm (by decide +kernel) ha hb (hs := hs) (hs2 := hs2) (hpl := hpl)
end

/-! ### isinstance -/
inductive Ty where
  | int | bool | str | tuple | list | dict
def Ty.nm : Ty → String
  | .int => "int" | .bool => "bool" | .str => "str" | .tuple => "tuple" | .list => "list" | .dict => "dict"
def tyOf : PyData → Option String
  | .none => some "NoneType" | .bool _ => some "bool" | .int _ => some "int" | .str _ => some "str" | .list _ => some "list" | .tuple _ => some "tuple"
  | .dict kvs => if kvs.isEmpty then some "dict" else none
def isTy : Ty → PyData → Bool
  | .int, .int _ => true
  | .int, .bool _ => true
  | .bool, .bool _ => true
  | .str, .str _ => true
  | .tuple, .tuple _ => true
  | .list, .list _ => true
  | .dict, .dict _ => true
  | _, _ => false
def noTok : PyData → Bool
  | .dict kvs => kvs.isEmpty
  | _ => true
def isiD (T : Ty) (d : PyData) : Option PyData := if noTok d then some (.bool (isTy T d)) else none
def isi2D (T U : Ty) (d : PyData) : Option PyData := if noTok d then some (.bool (isTy T d || isTy U d)) else none
theorem kit_isTy : ∀ (T : Ty) (d : PyData) (t : String), tyOf d = some t → kitB t T.nm = some (isTy T d) := by
  intro T d t e
  cases d with
  | none =>
    cases e
    cases T <;> first | exact (show kitB "NoneType" _ = some true by decide +kernel) | exact (show kitB "NoneType" _ = some false by decide +kernel)
  | bool _ =>
    cases e
    cases T <;> first | exact (show kitB "bool" _ = some true by decide +kernel) | exact (show kitB "bool" _ = some false by decide +kernel)
  | int _ =>
    cases e
    cases T <;> first | exact (show kitB "int" _ = some true by decide +kernel) | exact (show kitB "int" _ = some false by decide +kernel)
  | str _ =>
    cases e
    cases T <;> first | exact (show kitB "str" _ = some true by decide +kernel) | exact (show kitB "str" _ = some false by decide +kernel)
  | list _ =>
    cases e
    cases T <;> first | exact (show kitB "list" _ = some true by decide +kernel) | exact (show kitB "list" _ = some false by decide +kernel)
  | tuple _ =>
    cases e
    cases T <;> first | exact (show kitB "tuple" _ = some true by decide +kernel) | exact (show kitB "tuple" _ = some false by decide +kernel)
  | dict kvs =>
    have e : (if kvs.isEmpty then some "dict" else none) = some t := e
    split at e
    · cases e
      cases T <;> first | exact (show kitB "dict" _ = some true by decide +kernel) | exact (show kitB "dict" _ = some false by decide +kernel)
    · cases e
theorem ty_of {K : PySem.W.Frag} {H H0 : Hp} {M P : Addr → Prop} {d : PyData} {v : V} (f : noTok d = true) (h : RM .B K M H0 P H d v) : ∃ t, tyOf d = some t ∧ TyX K H v (.type t) := by
  rcases h with h | ⟨ds, a, vs, rfl, rfl, l, _⟩
  · cases d with
    | none => subst h; exact ⟨_, rfl, .base .non⟩
    | bool b => subst h; exact ⟨_, rfl, .base (.bl b)⟩
    | int b => subst h; exact ⟨_, rfl, .base (.int b)⟩
    | str b => subst h; exact ⟨_, rfl, .base (.str b)⟩
    | list ds =>
      obtain ⟨a, vs, rfl, l, _⟩ := h
      refine ⟨_, rfl, ?_⟩
      rcases l with ⟨l, _⟩ | ⟨o, l⟩ | ⟨o, its, n, l, c, _⟩
      · exact .base (.lst l)
      · exact .base (.frz l)
      · exact .kList l c
    | tuple ds =>
      obtain ⟨a, vs, rfl, l, _⟩ := h
      refine ⟨_, rfl, ?_⟩
      rcases l with ⟨its, l⟩ | ⟨o, its, n, l, c, _⟩
      · exact .fTuple l
      · exact .kTuple l c
    | dict kvs =>
      rcases h with ⟨ks, e0, a, rfl, l⟩ | ⟨rfl, _⟩ | hC
      · cases kvs with
        | cons _ _ => exact nomatch f
        | nil => exact ⟨_, rfl, .base (.dK l)⟩
      · exact nomatch f
      · cases kvs with
        | nil => exact hC.elim
        | cons _ _ => exact nomatch f
  · exact ⟨_, rfl, .base (.lst l)⟩
section
variable {X : Cx} {a b e : Expr} {g ga gb : Ev → W PyData} {pos p p2 p3 p4 : Pos}
theorem ew_isi (T : Ty) {tn : Str} (hg : Gl X "isinstance") (hm : X.mg "isinstance" = none) (hgt : Gl X tn) (hmt : X.mg tn = none) (hbt : bootBuiltins tn = some (.type T.nm)) (ha : EW X .B e g)
    (hs : starEach [e, .Name tn p2] X.env = (false, eval e X.env) :: starEach [.Name tn p2] X.env := by rfl) (hs2 : starEach [Expr.Name tn p2] X.env = (false, eval (.Name tn p2) X.env) :: starEach [] X.env := by rfl) (hpl : (backTo pos (starEach [Expr.Name tn p2] X.env)).any (·.1) = false := by rfl)
    (hn : tn ≠ "__name__" := by decide) (hdb : (tn == ("__debug__" : Str)) = false := by decide) : EW X .S (.Call (.Name "isinstance" p) [e, .Name tn p2] [] pos) (wU (isiD T) g) := by
  refine ew_un (r := fun v H Q => rIsi X.K [v, .ty T.nm] H Q) (fun M P H x dx d Q fx po mt rx e k => ?_) ha fun t ht =>
    (pe_callB call_isi hg hm (by decide +kernel) (pa_cons ht (pa_cons (pe_bltn (v := .ty T.nm) hgt hmt hbt rfl hn hdb) pa_nil hs2) hs) (by decide) (by decide) hs hpl).imp fun σ H Q q => q
  unfold isiD at e
  split at e
  · rename_i f
    cases e
    obtain ⟨t, e1, e2⟩ := ty_of f rx
    exact ⟨x, .ty T.nm, _, _, _, rfl, .ty _, e2, kit_ty (kit_isTy T dx t e1), k _ P H (.refl po) rfl⟩
  · cases e
theorem ew_isi2 (T U : Ty) {tn un : Str} {k1} (hg : Gl X "isinstance") (hm : X.mg "isinstance" = none) (hgt : Gl X tn) (hmt : X.mg tn = none) (hbt : bootBuiltins tn = some (.type T.nm)) (hgu : Gl X un) (hmu : X.mg un = none) (hbu : bootBuiltins un = some (.type U.nm)) (ha : EW X .B e g)
    (hs : starEach [e, .Tuple [.Name tn p2, .Name un p3] k1 p4] X.env = (false, eval e X.env) :: starEach [.Tuple [.Name tn p2, .Name un p3] k1 p4] X.env := by rfl)
    (hs2 : starEach [Expr.Tuple [.Name tn p2, .Name un p3] k1 p4] X.env = (false, eval (.Tuple [.Name tn p2, .Name un p3] k1 p4) X.env) :: starEach [] X.env := by rfl)
    (hs3 : starEach [Expr.Name tn p2, .Name un p3] X.env = (false, eval (.Name tn p2) X.env) :: starEach [.Name un p3] X.env := by rfl) (hs4 : starEach [Expr.Name un p3] X.env = (false, eval (.Name un p3) X.env) :: starEach [] X.env := by rfl)
    (hpl : (backTo pos (starEach [Expr.Tuple [.Name tn p2, .Name un p3] k1 p4] X.env)).any (·.1) = false := by rfl)
    (hn : tn ≠ "__name__" := by decide) (hdb : (tn == ("__debug__" : Str)) = false := by decide) (hn2 : un ≠ "__name__" := by decide) (hdb2 : (un == ("__debug__" : Str)) = false := by decide) :
    EW X .S (.Call (.Name "isinstance" p) [e, .Tuple [.Name tn p2, .Name un p3] k1 p4] [] pos) (wU (isi2D T U) g) := by
  refine ew_un (r := fun v H Q => 2 ≤ sizeLine ∧ ∀ q, H q = none → rIsiT X.K [v, .ref q] (upd H q (.tup [.ty T.nm, .ty U.nm])) Q) (fun M P H x dx d Q fx po mt rx e k => ?_) ha fun t ht =>
    (pe_callB call_isiT hg hm (by decide +kernel) (pa_cons ht (pa_cons (pe_tup (pa_cons (pe_bltn (v := .ty T.nm) hgt hmt hbt rfl hn hdb) (pa_cons (pe_bltn (v := .ty U.nm) hgu hmu hbu rfl hn2 hdb2) pa_nil hs4) hs3)) pa_nil hs2) hs) (by decide) (by decide) hs hpl).imp fun σ H Q q => q
  unfold isi2D at e
  split at e
  · rename_i f
    cases e
    refine ⟨by decide, fun q hq => ?_⟩
    have f1 : Fut S0 P H P (upd H q (.tup [.ty T.nm, .ty U.nm])) := .new po hq
    obtain ⟨t, e1, e2⟩ := ty_of f (rx.fut f1)
    have h1 := kit_ty (K := X.K) (kit_isTy T dx t e1)
    have h2 := kit_ty (K := X.K) (kit_isTy U dx t e1)
    have h3 : PySem.W.kitAny X.K (.type t) [.type T.nm, .type U.nm] = some (isTy T dx || isTy U dx) := kitAny_cons h1 (fun z => by
      rw [z, Bool.false_or]
      exact kitAny_cons h2 (fun z2 => by rw [z2]; exact kitAny_nil) fun z2 => z2) fun z => by rw [z]; rfl
    exact ⟨x, q, _, _, _, _, rfl, upd_same, .cons (.ty _) (.cons (.ty _) .nil), e2, h3, k _ P _ f1 rfl⟩
  · cases e
end
end WL

namespace WL
open PySem PySem.Spec PyProof.Rows L2

/-! ### the environment changes -/
section
variable {K : PySem.W.Frag} {B P P' S : Addr → Prop} {H H' : Hp} {ρ : Ev} {σ : L2.St}
/-- lists of the base may change -/
theorem RE.futS (R : RE K B P H ρ σ) (f : Fut S P H P' H') (hs : ∀ c, S c → B c) : RE K B P' H' ρ σ where
  len := R.len
  trk := fun a h => f.tr a (R.trk a h)
  pots := f.ok'
  sh := fun i d h => by
    obtain ⟨v, e, r⟩ := R.sh i d h
    exact ⟨v, e, r.fut f fun c z => .inl (hs c z)⟩
  ow := fun i ds h => by
    obtain ⟨a, vs, e, e2, b, p, r⟩ := R.ow i ds h
    exact ⟨a, vs, e, f.kp a _ e2 p (fun q => b (hs a q)), b, f.notP e2 p, r.fut f fun c z => .inl (hs c z)⟩
  inj := R.inj
  ns := fun i a bs dss h => ⟨(R.ns i a bs dss h).1, (R.ns i a bs dss h).2.next f (fun c z => .inl (hs c z)) (fun x hx z => ((R.ns i a bs dss h).2.fr x hx).1 (hs x z)) (fun x hx => ((R.ns i a bs dss h).2.fr x hx).1) fun _ q => q⟩
  nw := R.nw
  n1 := R.n1
/-- a new object joins the base -/
theorem RE.join {p : Addr} {o : HO} (R : RE K B P H ρ σ) (hp : H p = none) : RE K (fun a => B a ∨ a = p) P (upd H p o) ρ σ := by
  have f : Fut S0 P H P (upd H p o) := .new R.pots hp
  have mo : ∀ a, Mo (fun a => B a ∨ a = p) ρ σ a → Mo B ρ σ a ∨ a = p := fun a h => by
    rcases h with (h | h) | h
    · exact .inl (.inl h)
    · exact .inr h
    · exact .inl (.inr h)
  refine ⟨R.len, fun a h => ?_, f.ok', fun i d h => ?_, fun i ds h => ?_, R.inj, fun i a bs dss h => ⟨(R.ns i a bs dss h).1, ?_⟩, R.nw, R.n1⟩
  · rcases h with h | h
    · exact f.tr a (R.trk a h)
    · rw [h, upd_same]; rfl
  · obtain ⟨v, e, r⟩ := R.sh i d h
    exact ⟨v, e, ((r.avoid hp).anti mo).fut0 f⟩
  · obtain ⟨a, vs, e, e2, b, q, r⟩ := R.ow i ds h
    exact ⟨a, vs, e, f.kp a _ e2 q (fun q => q.elim), fun z => z.elim b fun z => ne_of_none e2 hp z, q, ((r.avoid hp).anti mo).fut0 f⟩
  · obtain ⟨_, n⟩ := R.ns i a bs dss h
    have hx : ∀ x ∈ a :: bs, ¬ (B x ∨ x = p) := fun x hx z => by
      obtain ⟨vs, e⟩ := n.lst hx
      exact z.elim (n.fr x hx).1 fun z => ne_of_none e hp z
    have n' : NsOk K H (Mo (fun a => B a ∨ a = p) ρ σ) B P a bs dss := ⟨n.top, n.fr, n.nd, n.len, fun j b ds h1 h2 => by
      obtain ⟨vs, e, r⟩ := n.inn j b ds h1 h2
      exact ⟨vs, e, (r.avoid hp).anti mo⟩⟩
    exact n'.next f (fun _ q => q.elim) (fun _ _ q => q) hx fun _ q => q
theorem get_set {α : Type} {l : List α} {i j : Nat} {x y : α} (h : (l.set i x)[j]? = some y) : (j = i ∧ y = x ∧ i < l.length) ∨ (j ≠ i ∧ l[j]? = some y) := by
  by_cases e : j = i
  · subst e
    by_cases hl : j < l.length
    · rw [List.getElem?_set_self hl] at h
      exact .inl ⟨rfl, (Option.some.inj h).symm, hl⟩
    · rw [List.getElem?_eq_none (by rw [List.length_set]; omega)] at h
      cases h
  · rw [List.getElem?_set_ne (fun z => e z.symm)] at h
    exact .inr ⟨e, h⟩
/-- a slot that owns nothing is stored -/
theorem own_put {i : Nat} {s : Sl} {x : Option V} {a : Addr} (n1 : ∀ ds, s ≠ .ow ds) (n2 : ∀ a bs dss, s ≠ .ns a bs dss) (h : Own (ρ.set i s) (σ.set i x) a) : Own ρ σ a := by
  rcases h with ⟨j, ds, h1, h2⟩ | ⟨j, y, bs, dss, h1, h2⟩
  · rcases get_set h1 with ⟨_, e, _⟩ | ⟨e, h1⟩
    · exact absurd e.symm (n1 _)
    · rcases get_set h2 with ⟨e', _⟩ | ⟨_, h2⟩
      · exact absurd e' e
      · exact .inl ⟨j, ds, h1, h2⟩
  · rcases get_set h1 with ⟨_, e, _⟩ | ⟨e, h1⟩
    · exact absurd e.symm (n2 _ _ _)
    · exact .inr ⟨j, y, bs, dss, h1, h2⟩
theorem own_set {i : Nat} {d : PyData} {x : Option V} {a : Addr} (h : Own (ρ.set i (.sh d)) (σ.set i x) a) : Own ρ σ a := own_put (fun _ e => by cases e) (fun _ _ _ e => by cases e) h
theorem own_no {i : Nat} {x : Option V} {a : Addr} (h : Own (ρ.set i .no) (σ.set i x) a) : Own ρ σ a := own_put (fun _ e => by cases e) (fun _ _ _ e => by cases e) h
theorem set_len {α : Type} {l : List α} {i : Nat} {x : α} : (l.set i x).length = l.length := List.length_set
/-- a shared value is stored -/
theorem RE.set {i : Nat} {d : PyData} {v : V} (R : RE K B P H ρ σ) (r : Rp K H (Mo B ρ σ) P d v) : RE K B P H (ρ.set i (.sh d)) (σ.set i (some v)) := by
  have mo : ∀ a, Mo B (ρ.set i (.sh d)) (σ.set i (some v)) a → Mo B ρ σ a := fun a h => h.elim .inl fun h => .inr (own_set h)
  refine ⟨by rw [set_len, set_len]; exact R.len, R.trk, R.pots, fun j e h => ?_, fun j es h => ?_, fun j k es fs a h1 h2 h3 h4 => ?_, fun j a bs dss h => ?_, fun j a bs dss k es c h1 h2 h3 => ?_, fun j k a a' bs bs' dss dss' h1 h2 => ?_⟩
  · rcases get_set h with ⟨rfl, q, l⟩ | ⟨n, h⟩
    · cases q
      exact ⟨v, by rw [List.getElem?_set_self (by rw [← R.len]; exact l)], r.anti mo⟩
    · obtain ⟨u, e1, r1⟩ := R.sh j e h
      exact ⟨u, by rw [List.getElem?_set_ne (fun z => n z.symm)]; exact e1, r1.anti mo⟩
  · rcases get_set h with ⟨rfl, q, l⟩ | ⟨n, h⟩
    · cases q
    · obtain ⟨a, us, e1, e2, b, p, r1⟩ := R.ow j es h
      exact ⟨a, us, by rw [List.getElem?_set_ne (fun z => n z.symm)]; exact e1, e2, b, p, r1.anti mo⟩
  · rcases get_set h1 with ⟨_, q, _⟩ | ⟨n1, h1⟩
    · cases q
    · rcases get_set h2 with ⟨_, q, _⟩ | ⟨n2, h2⟩
      · cases q
      · rw [List.getElem?_set_ne (fun z => n1 z.symm)] at h3
        rw [List.getElem?_set_ne (fun z => n2 z.symm)] at h4
        exact R.inj j k es fs a h1 h2 h3 h4
  · rcases get_set h with ⟨_, q, _⟩ | ⟨n, h⟩
    · cases q
    · obtain ⟨e1, ok⟩ := R.ns j a bs dss h
      exact ⟨by rw [List.getElem?_set_ne (fun z => n z.symm)]; exact e1, ok.next (.refl R.pots) (fun _ q => q.elim) (fun _ _ q => q) (fun x hx => (ok.fr x hx).1) mo⟩
  · rcases get_set h1 with ⟨_, q, _⟩ | ⟨n1, h1⟩
    · cases q
    · rcases get_set h2 with ⟨_, q, _⟩ | ⟨n2, h2⟩
      · cases q
      · rw [List.getElem?_set_ne (fun z => n2 z.symm)] at h3
        exact R.nw j a bs dss k es c h1 h2 h3
  · rcases get_set h1 with ⟨_, q, _⟩ | ⟨n1, h1⟩
    · cases q
    · rcases get_set h2 with ⟨_, q, _⟩ | ⟨n2, h2⟩
      · cases q
      · exact R.n1 j k a a' bs bs' dss dss' h1 h2
/-- a name is forgotten -/
theorem RE.forget {i : Nat} (R : RE K B P H ρ σ) (x : Option V) : RE K B P H (ρ.set i .no) (σ.set i x) := by
  have mo : ∀ a, Mo B (ρ.set i .no) (σ.set i x) a → Mo B ρ σ a := fun a h => h.elim .inl fun h => .inr (own_no h)
  refine ⟨by rw [set_len, set_len]; exact R.len, R.trk, R.pots, fun j e h => ?_, fun j es h => ?_, fun j k es fs a h1 h2 h3 h4 => ?_, fun j a bs dss h => ?_, fun j a bs dss k es c h1 h2 h3 => ?_, fun j k a a' bs bs' dss dss' h1 h2 => ?_⟩
  · rcases get_set h with ⟨rfl, q, l⟩ | ⟨n, h⟩
    · cases q
    · obtain ⟨u, e1, r1⟩ := R.sh j e h
      exact ⟨u, by rw [List.getElem?_set_ne (fun z => n z.symm)]; exact e1, r1.anti mo⟩
  · rcases get_set h with ⟨rfl, q, l⟩ | ⟨n, h⟩
    · cases q
    · obtain ⟨a, us, e1, e2, b, p, r1⟩ := R.ow j es h
      exact ⟨a, us, by rw [List.getElem?_set_ne (fun z => n z.symm)]; exact e1, e2, b, p, r1.anti mo⟩
  · rcases get_set h1 with ⟨_, q, _⟩ | ⟨n1, h1⟩
    · cases q
    · rcases get_set h2 with ⟨_, q, _⟩ | ⟨n2, h2⟩
      · cases q
      · rw [List.getElem?_set_ne (fun z => n1 z.symm)] at h3
        rw [List.getElem?_set_ne (fun z => n2 z.symm)] at h4
        exact R.inj j k es fs a h1 h2 h3 h4
  · rcases get_set h with ⟨_, q, _⟩ | ⟨n, h⟩
    · cases q
    · obtain ⟨e1, ok⟩ := R.ns j a bs dss h
      exact ⟨by rw [List.getElem?_set_ne (fun z => n z.symm)]; exact e1, ok.next (.refl R.pots) (fun _ q => q.elim) (fun _ _ q => q) (fun x hx => (ok.fr x hx).1) mo⟩
  · rcases get_set h1 with ⟨_, q, _⟩ | ⟨n1, h1⟩
    · cases q
    · rcases get_set h2 with ⟨_, q, _⟩ | ⟨n2, h2⟩
      · cases q
      · rw [List.getElem?_set_ne (fun z => n2 z.symm)] at h3
        exact R.nw j a bs dss k es c h1 h2 h3
  · rcases get_set h1 with ⟨_, q, _⟩ | ⟨n1, h1⟩
    · cases q
    · rcases get_set h2 with ⟨_, q, _⟩ | ⟨n2, h2⟩
      · cases q
      · exact R.n1 j k a a' bs bs' dss dss' h1 h2
end

/-! ### targets -/
abbrev Set1 := PyData → Ev → Option Ev
def tG (K : PySem.W.Frag) (st : Set1) (is : List Nat) : TG := fun v σ H Q => ∃ B P ρ d ρ', RE K B P H ρ σ ∧ Rp K H (Mo B ρ σ) P d v ∧ st d ρ = some ρ' ∧
  ∀ σ', RE K B P H ρ' σ' → (∀ a, Own ρ' σ' a → Own ρ σ a) → σ'.length = σ.length → (∀ j, j ∉ is → σ'[j]? = σ[j]?) → Q σ' H
structure EG (X : Cx) (tg : Expr) (st : Set1) (is : List Nat) : Prop where
  loc : ∀ d ρ ρ', st d ρ = some ρ' → ∀ j, j ∉ is → ρ'[j]? = ρ[j]?
  pg : PG X tg (tG X.K st is)
theorem _root_.L2.PG.imp {X : Cx} {e : Expr} {t t' : TG} (h : PG X e t) (i : ∀ v σ H Q, t' v σ H Q → t v σ H Q) : PG X e t' := ⟨fun pins s σ H v u Q I r q => h.run pins s σ H v u Q I r (i _ _ _ _ q)⟩
def stN (i : Nat) : Set1 := fun d ρ => some (ρ.set i (.sh d))
/-- a, b, .. -/
def stL : List Nat → List PyData → Ev → Option Ev
  | [], [], ρ => some ρ
  | i :: is, d :: ds, ρ => stL is ds (ρ.set i (.sh d))
  | _, _, _ => none
def stT (is : List Nat) : Set1 := fun d ρ => match d with
  | .tuple ds => stL is ds ρ
  | _ => none
theorem set_other {α : Type} {l : List α} {i j : Nat} {x : α} (h : j ∉ [i]) : (l.set i x)[j]? = l[j]? := by
  rw [List.getElem?_set_ne]
  intro e
  exact h (by simp [e])
theorem stL_loc : ∀ {is : List Nat} {ds : List PyData} {ρ ρ' : Ev}, stL is ds ρ = some ρ' → ∀ j, j ∉ is → ρ'[j]? = ρ[j]?
  | [], [], ρ, ρ', e, j, hj => by cases e; rfl
  | [], _ :: _, ρ, ρ', e, j, hj => nomatch e
  | _ :: _, [], ρ, ρ', e, j, hj => nomatch e
  | i :: is, d :: ds, ρ, ρ', e, j, hj => by
    have h1 : j ∉ is := fun z => hj (List.mem_cons_of_mem _ z)
    have h2 : j ∉ [i] := fun z => hj (by simp at z; simp [z])
    rw [stL_loc (is := is) (ds := ds) e j h1]
    exact set_other h2
theorem stT_loc {is : List Nat} : ∀ d ρ ρ', stT is d ρ = some ρ' → ∀ j, j ∉ is → ρ'[j]? = ρ[j]? := fun d ρ ρ' e j hj => by
  cases d with
  | tuple ds => exact stL_loc (ds := ds) e j hj
  | _ => exact nomatch e
section
variable {X : Cx} {pos : Pos}
theorem eg_name {i : Nat} {x : Str} (hN : X.N.Nodup) (hi : X.N[i]? = some x) (hx : Loc X.env.scope x) (hf : X.fn x = true ∨ X.env.scope.names.lookup x = some .local := by first | exact .inl rfl | exact .inr rfl | assumption) : EG X (.Name x pos) (stN i) [i] :=
  ⟨fun d ρ ρ' e j hj => by
    cases e
    exact set_other hj, (pg_name hN hi hx hf).imp fun v σ H Q ⟨B, P, ρ, d, ρ', R, r, e, q⟩ => by
    cases e
    exact q _ (R.set r) (fun a h => own_set h) set_len fun j hj => set_other hj⟩
structure EGs (X : Cx) (ts : List Expr) (is : List Nat) : Prop where
  pgs : PGs X ts (fun vs σ H Q => ∃ B P ρ ds ρ', RE X.K B P H ρ σ ∧ RpA X.K H (Mo B ρ σ) P ds vs ∧ stL is ds ρ = some ρ' ∧
    ∀ σ', RE X.K B P H ρ' σ' → (∀ a, Own ρ' σ' a → Own ρ σ a) → σ'.length = σ.length → (∀ j, j ∉ is → σ'[j]? = σ[j]?) → Q σ' H)
theorem _root_.L2.PGs.imp {X : Cx} {e : List Expr} {t t' : TGs} (h : PGs X e t) (i : ∀ v σ H Q, t' v σ H Q → t v σ H Q) : PGs X e t' := ⟨fun pins s σ H vs us Q I r q => h.run pins s σ H vs us Q I r (i _ _ _ _ q)⟩
theorem egs_nil : EGs X [] [] := ⟨pgs_nil.imp fun vs σ H Q ⟨B, P, ρ, ds, ρ', R, r, e, q⟩ => by
  cases ds with
  | nil =>
    cases e
    exact ⟨r, q σ R (fun a h => h) rfl fun j _ => rfl⟩
  | cons => cases e⟩
theorem egs_cons {i : Nat} {is : List Nat} {e : Expr} {es : List Expr} (h : EG X e (stN i) [i]) (h' : EGs X es is) (hs : (assignEach (e :: es) X.env).map (·.2) = assign e X.env :: (assignEach es X.env).map (·.2) := by rfl) : EGs X (e :: es) (i :: is) :=
  ⟨(pgs_cons h.pg h'.pgs hs).imp fun vs σ H Q ⟨B, P, ρ, ds, ρ', R, r, e, q⟩ => by
    cases ds with
    | nil => cases e
    | cons d ds =>
      obtain ⟨v, us, rfl, r1, r2⟩ := r
      refine ⟨v, us, rfl, B, P, ρ, d, _, R, r1, rfl, fun σ1 R1 o1 l1 k1 => ⟨B, P, _, ds, ρ', R1, r2.anti (fun a h => h.elim .inl fun h => .inr (o1 a h)), e, fun σ2 R2 o2 l2 k2 => q σ2 R2 (fun a h => o1 a (o2 a h)) (l2.trans l1) fun j hj => ?_⟩⟩
      have h1 : j ∉ is := fun z => hj (List.mem_cons_of_mem _ z)
      have h2 : j ∉ [i] := fun z => hj (by simp at z; simp [z])
      rw [k2 j h1, k1 j h2]⟩
theorem eg_tup {es : List Expr} {k : Nat} {is : List Nat} (hc : X.calm = true) (h : EGs X es is) (hn : (assignEach es X.env).length = is.length := by rfl) (hst : (assignEach es X.env).findIdx? (·.1) = none := by rfl) : EG X (.Tuple es k pos) (stT is) is :=
  ⟨stT_loc, (pg_tup hc h.pgs hn hst).imp fun v σ H Q ⟨B, P, ρ, d, ρ', R, r, e, q⟩ => by
    cases d with
    | tuple ds =>
      obtain ⟨a, vs, rfl, l, r⟩ := r
      refine ⟨a, vs, rfl, l, ?_, B, P, ρ, ds, ρ', R, r, e, q⟩
      rw [r.len]
      have : ∀ (is : List Nat) (ds : List PyData) (ρ ρ' : Ev), stL is ds ρ = some ρ' → ds.length = is.length := by
        intro is
        induction is with
        | nil => intro ds ρ ρ' h; cases ds with
          | nil => rfl
          | cons => cases h
        | cons i is ih => intro ds ρ ρ' h; cases ds with
          | nil => cases h
          | cons d ds => rw [List.length_cons, List.length_cons, ih ds _ _ h]
      exact this is ds ρ ρ' e
    | _ => cases e⟩
end

/-! ### what is walked -/
/-- J yields just these, as long as what is read stands -/
def ItOk (K : PySem.W.Frag) (J : It) (ds : List PyData) (M P0 : Addr → Prop) (H0 : Hp) : Prop :=
  ∀ (S P : Addr → Prop) (H : Hp), Fut S P0 H0 P H → (∀ c, S c → M c) → (∀ i, i < ds.length → J.go i H) ∧ J.stop ds.length H ∧
    ∀ i x H' d, ds[i]? = some d → J.yld i H x H' → Fut S0 P H P H' ∧ Rp K H' (fun a => M a ∨ H0 a = none) P d x
def tI (K : PySem.W.Frag) (g : Ev → W (List PyData)) : TI := fun σ H R => ∃ B P ρ, RE K B P H ρ σ ∧ g ρ fun ds => ∀ J P' H', Fut S0 P H P' H' → ItOk K J ds (Mo B ρ σ) P' H' → ds.length ≤ sizeLine → R J H'
structure EI (X : Cx) (tg e : Expr) (g : Ev → W (List PyData)) : Prop where
  mono : Mono g
  pi : PI X tg e (tI X.K g)
theorem _root_.L2.PI.imp {X : Cx} {tg e : Expr} {t t' : TI} (h : PI X tg e t) (i : ∀ σ H Q, t' σ H Q → t σ H Q) : PI X tg e t' := ⟨fun pins s σ H Q I q => h.run pins s σ H Q I (i _ _ _ q)⟩
theorem pi_seq {X : Cx} {tg l : Expr} {tl : TE} (hl : PE X l tl) : PI X tg l (fun σ H R => tl σ H fun x H1 => Fx X.K H1 → ∃ a, x = .ref a ∧ (((∃ xs, SqL X.K H1 a xs) ∧ R (Itl X.K a) H1) ∨ ((∃ xs, SqT X.K H1 a xs) ∧ R (Itt X.K a) H1))) := by
  refine ⟨fun pins s σ H R I h => ?_⟩
  refine thn (hl.run pins s σ H _ I h) fun v s1 ⟨x, H1, I1, r1, q1⟩ => ?_
  obtain ⟨a, e, q⟩ := q1 (fx_of I1)
  subst e
  cases r1
  have fin : ∀ b ∈ [s1.heap.objs.size], FpOk X pins H1 b := fun b hb => by
    have e : b = s1.heap.objs.size := by simpa using hb
    subst e
    exact I1.fpOk (Nat.le_refl _) (I1.hok.fresh (Nat.le_refl _))
  rcases q with ⟨⟨xs, hq⟩, q⟩ | ⟨⟨xs, hq⟩, q⟩
  · obtain ⟨its, rv, p, hz⟩ := I1.list hq
    refine wpAny_pyIter_list p.isList ?_
    exact ⟨s1.heap.objs.size, [s1.heap.objs.size], _, _, H1, rfl, I1.kept (t' := s1.toks) fun b o e => Heap.get?_push_of_some _ e, turn_list a _, ⟨_, Heap.get?_push_size _ rfl, rfl, rfl⟩, fin, q⟩
  · obtain ⟨its, rv, p, hz⟩ := I1.tuple hq
    refine wpAny_pyIter_tuple (show s1.heap.IsTuple a its.toArray from p) ?_
    exact ⟨s1.heap.objs.size, [s1.heap.objs.size], _, _, H1, rfl, I1.kept (t' := s1.toks) fun b o e => Heap.get?_push_of_some _ e, turn_tuple a _, ⟨_, Heap.get?_push_size _ rfl, rfl, rfl⟩, fin, q⟩
section
variable {K : PySem.W.Frag} {M P : Addr → Prop} {H : Hp}
theorem itOk_list {a : Addr} {vs : List V} {ds : List PyData} (po : PotsOk P H) (l : LAt K H M P a vs) (r : RpA K H M P ds vs) : ItOk K (Itl K a) ds M P H := by
  intro S P1 H1 f hs
  have l1 := f.lAt hs l
  have r1 := r.avoidAll.fut f fun c z => .inl (hs c z)
  refine ⟨fun i hi => ?_, ⟨vs, l1.sq, by rw [r.len]; exact Nat.le_refl _⟩, fun i x H' d e y => ?_⟩
  · obtain ⟨v, e, _⟩ := r.get (i := i) (d := ds[i]) (by rw [List.getElem?_eq_getElem hi])
    exact ⟨vs, v, l1.sq, e⟩
  · obtain ⟨rfl, y⟩ := y
    obtain ⟨v, e2, r2⟩ := r1.get e
    have := y vs l1.sq
    rw [e2] at this
    cases this
    exact ⟨.refl f.ok', r2⟩
theorem itOk_tup {a : Addr} {vs : List V} {ds : List PyData} (po : PotsOk P H) (l : SqT K H a vs) (r : RpA K H M P ds vs) : ItOk K (Itt K a) ds M P H := by
  intro S P1 H1 f hs
  have l1 := f.sqT l
  have r1 := r.avoidAll.fut f fun c z => .inl (hs c z)
  refine ⟨fun i hi => ?_, ⟨vs, l1, by rw [r.len]; exact Nat.le_refl _⟩, fun i x H' d e y => ?_⟩
  · obtain ⟨v, e, _⟩ := r.get (i := i) (d := ds[i]) (by rw [List.getElem?_eq_getElem hi])
    exact ⟨vs, v, l1, e⟩
  · obtain ⟨rfl, y⟩ := y
    obtain ⟨v, e2, r2⟩ := r1.get e
    have := y vs l1
    rw [e2] at this
    cases this
    exact ⟨.refl f.ok', r2⟩
def rangeL (lo : Int) (n : Nat) : List PyData := (List.range n).map fun (i : Nat) => .int (lo + (i : Int))
theorem itOk_range {lo : Int} {n : Nat} : ItOk K (Itr lo n) (rangeL lo n) M P H := by
  intro S P1 H1 f hs
  have hl : (rangeL lo n).length = n := by unfold rangeL; rw [List.length_map, List.length_range]
  refine ⟨fun i hi => by rw [hl] at hi; exact hi, by rw [hl]; exact Nat.le_refl n, fun i x H' d e y => ?_⟩
  obtain ⟨rfl, rfl⟩ := y
  unfold rangeL at e
  rw [List.getElem?_map] at e
  by_cases hi : i < n
  · rw [List.getElem?_range hi] at e
    cases e
    exact ⟨.refl f.ok', rfl⟩
  · rw [List.getElem?_eq_none (by rw [List.length_range]; omega)] at e
    cases e
end
section
variable {X : Cx} {tg e a b : Expr} {g ga gb : Ev → W PyData} {p pos : Pos}
def wItems (g : Ev → W PyData) : Ev → W (List PyData) := fun ρ Q => g ρ fun d => ∃ ds, itemsD d = some ds ∧ Q ds
theorem ei_seq (h : EW X .S e g) : EI X tg e (wItems g) :=
  ⟨fun ρ _ _ i q => h.mono ρ _ _ (fun d ⟨ds, e, q⟩ => ⟨ds, e, i _ q⟩) q, (pi_seq h.pe).imp fun σ H Q ⟨B, P, ρ, R, q⟩ => ⟨B, P, ρ, R, h.mono ρ _ _ (fun d ⟨ds, e, q⟩ v P1 H1 f1 r1 fx => by
    cases d with
    | list ds' =>
      cases e
      obtain ⟨a, vs, rfl, l, r⟩ := r1
      exact ⟨a, rfl, .inl ⟨⟨vs, l.sq⟩, q _ P1 H1 f1 (itOk_list f1.ok' l r) (by rw [← r.len]; exact fx.1 a vs l.sq)⟩⟩
    | tuple ds' =>
      cases e
      obtain ⟨a, vs, rfl, l, r⟩ := r1
      exact ⟨a, rfl, .inr ⟨⟨vs, l⟩, q _ P1 H1 f1 (itOk_tup f1.ok' l r) (by rw [← r.len]; exact fx.2.1 a vs l)⟩⟩
    | _ => exact nomatch e) q⟩⟩
def rg1D (d : PyData) : Option (List PyData) := match d with
  | .int n => if -(sizeLine : Int) ≤ n ∧ n ≤ sizeLine then some (rangeL 0 n.toNat) else none
  | _ => none
def rg2D (d e : PyData) : Option (List PyData) := match d, e with
  | .int i, .int j => if -(sizeLine : Int) ≤ i ∧ i ≤ sizeLine ∧ -(sizeLine : Int) ≤ j ∧ j ≤ sizeLine ∧ j ≤ i + sizeLine then some (rangeL i (j - i).toNat) else none
  | _, _ => none
def wRange1 (g : Ev → W PyData) : Ev → W (List PyData) := fun ρ Q => g ρ fun d => ∃ ds, rg1D d = some ds ∧ Q ds
def wRange2 (ga gb : Ev → W PyData) : Ev → W (List PyData) := fun ρ Q => ga ρ fun d => gb ρ fun e => ∃ ds, rg2D d e = some ds ∧ Q ds
theorem rangeL_len {lo : Int} {n : Nat} : (rangeL lo n).length = n := by unfold rangeL; rw [List.length_map, List.length_range]
theorem sz62 : ((sizeLine : Nat) : Int) < 2 ^ 60 := by decide
theorem ei_range1 (hg : Gl X "range") (hm : X.mg "range" = none) (h : EW X .S a g) (hs : starEach [a] X.env = [(false, eval a X.env)] := by rfl) : EI X tg (.Call (.Name "range" p) [a] [] pos) (wRange1 g) :=
  ⟨fun ρ _ _ i q => h.mono ρ _ _ (fun d ⟨n, e, q⟩ => ⟨n, e, i _ q⟩) q, (pi_range1 hg hm (pa_cons h.pe pa_nil (by rw [hs] <;> rfl)) hs).imp fun σ H Q ⟨B, P, ρ, R, q⟩ => ⟨B, P, ρ, R, h.mono ρ _ _ (fun d ⟨ds, e, q⟩ v P1 H1 f1 r1 => by
    cases d with
    | int n =>
      obtain rfl : v = .int n := r1
      have e : (if -(sizeLine : Int) ≤ n ∧ n ≤ sizeLine then some (rangeL 0 n.toNat) else none) = some ds := e
      split at e
      · rename_i c
        cases e
        have z := sz62
        exact ⟨n, rfl, by omega, by omega, q _ P1 H1 f1 itOk_range (by rw [rangeL_len]; omega)⟩
      · cases e
    | _ => exact nomatch e) q⟩⟩
theorem ei_range2 (hg : Gl X "range") (hm : X.mg "range" = none) (h : EW X .S a ga) (h' : EW X .S b gb) (hs : starEach [a, b] X.env = [(false, eval a X.env), (false, eval b X.env)] := by rfl) (hs2 : starEach [b] X.env = [(false, eval b X.env)] := by rfl) : EI X tg (.Call (.Name "range" p) [a, b] [] pos) (wRange2 ga gb) :=
  ⟨fun ρ _ _ i q => h.mono ρ _ _ (fun d q => h'.mono ρ _ _ (fun d ⟨n, e, q⟩ => ⟨n, e, i _ q⟩) q) q, (pi_range2 hg hm (pa_cons h.pe (pa_cons h'.pe pa_nil (by rw [hs2] <;> rfl)) (by rw [hs, hs2])) hs hs2).imp fun σ H Q ⟨B, P, ρ, R, q⟩ => ⟨B, P, ρ, R, h.mono ρ _ _ (fun d q v P1 H1 f1 r1 =>
    ⟨B, P1, ρ, R.fut f1, h'.mono ρ _ _ (fun d' ⟨ds, e, q⟩ v' P2 H2 f2 r2 => by
    cases d with
    | int i =>
      cases d' with
      | int j =>
        obtain rfl : v = .int i := r1
        obtain rfl : v' = .int j := r2
        have e : (if -(sizeLine : Int) ≤ i ∧ i ≤ sizeLine ∧ -(sizeLine : Int) ≤ j ∧ j ≤ sizeLine ∧ j ≤ i + sizeLine then some (rangeL i (j - i).toNat) else none) = some ds := e
        split at e
        · rename_i c
          cases e
          have z := sz62
          exact ⟨i, j, rfl, ⟨by omega, by omega, by omega, by omega⟩, q _ P2 H2 (f1.trans0 f2) itOk_range (by rw [rangeL_len]; omega)⟩
        · cases e
      | _ => exact nomatch e
    | _ => exact nomatch e) q⟩) q⟩⟩
end

/-! ### comprehensions -/
/-- the block's names forgotten; none of them an owned list -/
def wipeE : List Nat → Ev → Option Ev
  | [], ρ => some ρ
  | i :: is, ρ => (wipeE is ρ).bind fun ρ' => match ρ'[i]? with
    | some (.ow _) => none
    | some (.ns _ _ _) => none
    | _ => some (ρ'.set i .no)
def wLc1 (st : Set1) (c : Ev → W Bool) (g : Ev → W PyData) (ρ : Ev) : List PyData → W (List PyData)
  | [], Q => Q []
  | d :: ds, Q => ∃ ρ', st d ρ = some ρ' ∧ c ρ' fun b => if b = true then g ρ' (fun y => wLc1 st c g ρ ds fun ys => Q (y :: ys)) else wLc1 st c g ρ ds Q
def wLc (vs : List Nat) (gi : Ev → W (List PyData)) (st : Set1) (c : Ev → W Bool) (g : Ev → W PyData) : Ev → W PyData := fun ρ Q => gi ρ fun ds => ∃ ρw, wipeE vs ρ = some ρw ∧ wLc1 st c g ρw ds fun ys => Q (.list ys)
def wYes : Ev → W Bool := fun _ Q => Q true
theorem mono_wYes : Mono wYes := fun _ _ _ i q => i _ q
theorem mono_wLc1 {st : Set1} {c : Ev → W Bool} {g : Ev → W PyData} (hc : Mono c) (hg : Mono g) (ρ : Ev) : ∀ (ds : List PyData) (Q Q' : List PyData → Prop), (∀ a, Q a → Q' a) → wLc1 st c g ρ ds Q → wLc1 st c g ρ ds Q'
  | [], _, _, i, q => i _ q
  | d :: ds, Q, Q', i, ⟨ρ', e, q⟩ => ⟨ρ', e, hc ρ' _ _ (fun b q => ite_mono (fun q => hg ρ' _ _ (fun y q => mono_wLc1 hc hg ρ ds _ _ (fun ys q => i _ q) q) q) (fun q => mono_wLc1 hc hg ρ ds _ _ i q) q) q⟩
theorem mono_wLc {vs : List Nat} {gi : Ev → W (List PyData)} {st : Set1} {c : Ev → W Bool} {g : Ev → W PyData} (hi : Mono gi) (hc : Mono c) (hg : Mono g) : Mono (wLc vs gi st c g) :=
  fun ρ _ _ i q => hi ρ _ _ (fun ds ⟨ρw, e, q⟩ => ⟨ρw, e, mono_wLc1 hc hg ρw ds _ _ (fun ys q => i _ q) q⟩) q
section
variable {K : PySem.W.Frag} {B P : Addr → Prop} {H : Hp} {ρ ρw : Ev} {σ : L2.St}
theorem RE.wipe : ∀ {vs : List Nat} {ρw : Ev}, RE K B P H ρ σ → wipeE vs ρ = some ρw → RE K B P H ρw (wipe σ vs) ∧ ∀ a, Own ρw (wipe σ vs) a ↔ Own ρ σ a
  | [], ρw, R, e => by
    cases e
    exact ⟨R, fun a => Iff.rfl⟩
  | i :: is, ρw, R, e => by
    cases q : wipeE is ρ with
    | none =>
      have e : (wipeE is ρ).bind _ = some ρw := e
      rw [q] at e
      cases e
    | some ρ1 =>
      obtain ⟨R1, h1⟩ := RE.wipe R q
      have e : (wipeE is ρ).bind _ = some ρw := e
      rw [q] at e
      have e : (match ρ1[i]? with | some (.ow _) => none | some (.ns _ _ _) => none | _ => some (ρ1.set i .no)) = some ρw := e
      split at e
      · cases e
      · cases e
      · rename_i n n'
        cases e
        refine ⟨R1.forget none, fun a => ?_⟩
        rw [← h1 a]
        refine ⟨fun h => own_no h, fun h => ?_⟩
        rcases h with ⟨j, ds, a1, a2⟩ | ⟨j, y, bs, dss, a1, a2⟩
        · have nij : i ≠ j := fun z => by
            rw [z] at n
            exact n ds a1
          exact .inl ⟨j, ds, by rw [List.getElem?_set_ne nij]; exact a1, by show ((L2.wipe σ is).set i none)[j]? = _; rw [List.getElem?_set_ne nij]; exact a2⟩
        · have nij : i ≠ j := fun z => by
            rw [z] at n'
            exact n' _ _ _ a1
          exact .inr ⟨j, y, bs, dss, by rw [List.getElem?_set_ne nij]; exact a1, a2⟩
theorem wipeE_no : ∀ {vs : List Nat} {ρ ρw : Ev}, wipeE vs ρ = some ρw → ∀ i ∈ vs, ∀ ds, ρw[i]? ≠ some (.ow ds)
  | [], _, _, _, i, hi, _ => by cases hi
  | v :: vs, ρ, ρw, e, i, hi, ds => by
    cases q : wipeE vs ρ with
    | none =>
      have e : (wipeE vs ρ).bind _ = some ρw := e
      rw [q] at e
      cases e
    | some ρ1 =>
      have e : (wipeE vs ρ).bind _ = some ρw := e
      rw [q] at e
      have e : (match ρ1[v]? with | some (.ow _) => none | some (.ns _ _ _) => none | _ => some (ρ1.set v .no)) = some ρw := e
      split at e
      · cases e
      · cases e
      · cases e
        intro z
        rcases get_set z with ⟨_, z, _⟩ | ⟨n, z⟩
        · cases z
        · rcases List.mem_cons.mp hi with rfl | hi
          · exact n rfl
          · exact wipeE_no q i hi ds z
theorem wipeE_ns : ∀ {vs : List Nat} {ρ ρw : Ev}, wipeE vs ρ = some ρw → ∀ i ∈ vs, ∀ a bs dss, ρw[i]? ≠ some (.ns a bs dss)
  | [], _, _, _, i, hi, _, _, _ => by cases hi
  | v :: vs, ρ, ρw, e, i, hi, a, bs, dss => by
    cases q : wipeE vs ρ with
    | none =>
      have e : (wipeE vs ρ).bind _ = some ρw := e
      rw [q] at e
      cases e
    | some ρ1 =>
      have e : (wipeE vs ρ).bind _ = some ρw := e
      rw [q] at e
      have e : (match ρ1[v]? with | some (.ow _) => none | some (.ns _ _ _) => none | _ => some (ρ1.set v .no)) = some ρw := e
      split at e
      · cases e
      · cases e
      · cases e
        intro z
        rcases get_set z with ⟨_, z, _⟩ | ⟨n, z⟩
        · cases z
        · rcases List.mem_cons.mp hi with rfl | hi
          · exact n rfl
          · exact wipeE_ns q i hi a bs dss z
theorem wipe_get : ∀ (vs : List Nat) (σ : L2.St) (j : Nat), (wipe σ vs)[j]? = if j ∈ vs then (if j < σ.length then some none else none) else σ[j]? := by
    intro vs
    induction vs with
    | nil => intro σ j; rw [if_neg (by simp)]; rfl
    | cons v vs ih =>
      intro σ j
      show ((wipe σ vs).set v none)[j]? = _
      by_cases e : v = j
      · subst e
        rw [if_pos List.mem_cons_self, List.getElem?_set_self']
        rw [ih]
        by_cases l : v < σ.length
        · by_cases m : v ∈ vs
          · rw [if_pos m, if_pos l]; simp [l]
          · rw [if_neg m]; simp [l]
        · by_cases m : v ∈ vs
          · rw [if_pos m, if_neg l]; simp [l]
          · rw [if_neg m]; simp [l]
      · rw [List.getElem?_set_ne e, ih]
        by_cases m : j ∈ vs
        · rw [if_pos m, if_pos (List.mem_cons_of_mem _ m)]
        · rw [if_neg m, if_neg (by simp only [List.mem_cons, not_or]; exact ⟨fun z => e z.symm, m⟩)]
theorem wipe_wipe {σ : L2.St} {vs : List Nat} : wipe (wipe σ vs) vs = wipe σ vs := by
  refine List.ext_getElem? fun j => ?_
  rw [wipe_get, wipe_get, wipe_length]
  by_cases m : j ∈ vs
  · rw [if_pos m, if_pos m]
  · rw [if_neg m, if_neg m]
theorem wipe_same {σ1 σ2 : L2.St} {vs is : List Nat} (hs : ∀ i ∈ is, i ∈ vs) (hl : σ1.length = σ2.length) (h : ∀ j, j ∉ is → σ1[j]? = σ2[j]?) : wipe σ1 vs = wipe σ2 vs := by
  refine List.ext_getElem? fun j => ?_
  rw [wipe_get, wipe_get, hl]
  by_cases m : j ∈ vs
  · rw [if_pos m, if_pos m]
  · rw [if_neg m, if_neg m]
    exact h j fun z => m (hs j z)
end
end WL

namespace WL
open PySem PySem.Spec PyProof.Rows L2

/-- the ifs of a comprehension -/
structure EC (X : Cx) (ifs : List Expr) (g : Ev → W Bool) : Prop where
  mono : Mono g
  pts : PTs X ifs (tWb X.K g)
theorem _root_.L2.PTs.imp {X : Cx} {e : List Expr} {t t' : TT} (h : PTs X e t) (i : ∀ σ H Q, t' σ H Q → t σ H Q) : PTs X e t' := ⟨fun pins s σ H Q I q => h.run pins s σ H Q I (i _ _ _ q)⟩
theorem ec_nil {X : Cx} : EC X [] wYes := ⟨mono_wYes, pts_nil.imp fun σ H Q ⟨B, P, ρ, R, q⟩ => q P H (.refl R.pots)⟩
theorem ec_one {X : Cx} {e : Expr} {c : Ev → W Bool} (h : EB X e c) : EC X [e] c := ⟨h.mono, pts_one h.pt⟩

section
variable {X : Cx}
/-- where a comprehension's turn stands -/
def LcW (K : PySem.W.Frag) (B M P1 : Addr → Prop) (H1 : Hp) (D : Addr) (ρw : Ev) (σw : L2.St) (st : Set1) (c : Ev → W Bool) (g : Ev → W PyData) (ds : List PyData) (Q : PyData → Prop) (i m : Nat) (H : Hp) : Prop :=
  i ≤ ds.length ∧ m = ds.length - i ∧ ∃ P acc as, Fut S0 P1 H1 P H ∧ Fut (fun a => a = D) P1 (upd H1 D (.lst [])) P H ∧ H D = some (.lst acc) ∧ acc.length ≤ i ∧ RpA K H (fun a => M a ∨ a = D) P as acc ∧
    wLc1 st c g ρw (ds.drop i) fun ys => Q (.list (as ++ ys))
theorem lc_imp {elt tg iter : Expr} {ifs : List Expr} {scope : Scope} {own : List (Str × Nat)} {gi : Ev → W (List PyData)} {st : Set1} {is : List Nat} {c : Ev → W Bool} {g : Ev → W PyData} (hc : X.calm = true) (hN : X.N.Nodup) (hi : EI X tg iter gi) (ok : BlkOk X.N X.env.scope scope own)
    (hg : ∀ (s : Shared) (H : Hp) (C : Addr) (cl : List (Str × Addr)) (fp : List Addr), EG (X.blk s H scope (compEnvC scope cl C X.env) fp) tg st is)
    (ht : ∀ (s : Shared) (H : Hp) (C : Addr) (cl : List (Str × Addr)) (fp : List Addr), EC (X.blk s H scope (compEnvC scope cl C X.env) fp) ifs c)
    (he : ∀ (s : Shared) (H : Hp) (C : Addr) (cl : List (Str × Addr)) (fp : List Addr), EW (X.blk s H scope (compEnvC scope cl C X.env) fp) .S elt g)
    (his : ∀ i ∈ is, i ∈ own.map (·.2) := by decide)   (σ : L2.St) (H : Hp) (Q : VK) (hq : tW X.K .F (wLc (own.map (·.2)) gi st c g) σ H Q) : tLc (tI X.K gi) (tG X.K st is) (tWb X.K c) (tW X.K .S g) (own.map (·.2)) σ H Q := by
  let s0 : Shared := {}
  let H0 : Hp := fun _ => none
  have mc : Mono c := (ht {} (fun _ => none) 0 [] []).mono
  have mg : Mono g := (he {} (fun _ => none) 0 [] []).mono
  obtain ⟨B, P, ρ, R, q⟩ := hq
  refine ⟨B, P, ρ, R, hi.mono ρ _ _ (fun ds ⟨ρw, ew, q⟩ J P1 H1 f1 it hz D hD => ?_) q⟩
  have R1 := R.fut f1
  obtain ⟨Rw, hown⟩ := R1.wipe ew
  have hmo : ∀ a, Mo B ρw (wipe σ (own.map (·.2))) a ↔ Mo B ρ σ a := fun a => ⟨fun h => h.elim .inl fun h => .inr ((hown a).mp h), fun h => h.elim .inl fun h => .inr ((hown a).mpr h)⟩
  have RD : RE X.K (fun a => B a ∨ a = D) P1 (upd H1 D (.lst [])) ρw (wipe σ (own.map (·.2))) := Rw.join hD
  have nP : ∀ {P2 H2}, Fut (fun a => a = D) P1 (upd H1 D (.lst [])) P2 H2 → ¬ P2 D := fun f2 => f2.notP upd_same fun z => by
    have := f1.ok'.isS z
    rw [hD] at this
    cases this
  refine ⟨LcW X.K B (Mo B ρ σ) P1 H1 D ρw (wipe σ (own.map (·.2))) st c g ds (fun d => ∀ v P' H', Fut S0 P H P' H' → RM .F X.K (Mo B ρ σ) H P' H' d v → Q v H'), ⟨ds.length, Nat.zero_le _, by simp, P1, [], [], .new f1.ok' hD, ?_, upd_same, Nat.zero_le _, rfl, ?_⟩, ?_⟩
  · have := Fut.put (H := upd H1 D (.lst [])) (p := D) (o := .lst []) (P := P1) (Fut.new f1.ok' hD).ok' upd_same (fun z => by
      have := f1.ok'.isS z
      rw [hD] at this
      cases this)
    rw [upd_upd] at this
    exact this
  · simpa using q
  · rintro i m H2 ⟨hi2, rfl, P2, acc, as, f2, f2', hacc, hal, racc, q⟩
    obtain ⟨go, stop, yld⟩ := it S0 P2 H2 f2 fun _ z => z.elim
    have nP2 := nP f2'
    by_cases hlt : i < ds.length
    · refine .inr ⟨go i hlt, LcW X.K B (Mo B ρ σ) P1 H1 D ρw (wipe σ (own.map (·.2))) st c g ds (fun d => ∀ v P' H', Fut S0 P H P' H' → RM .F X.K (Mo B ρ σ) H P' H' d v → Q v H') (i + 1) (ds.length - (i + 1)), fun H' w => ⟨ds.length - (i + 1), by omega, w⟩, fun x H3 y => ?_⟩
      have ed : ds[i]? = some ds[i] := List.getElem?_eq_getElem hlt
      obtain ⟨f3, rx⟩ := yld i x H3 ds[i] ed y
      have q : wLc1 st c g ρw (ds.drop i) (fun ys => (fun d => ∀ v P' H', Fut S0 P H P' H' → RM .F X.K (Mo B ρ σ) H P' H' d v → Q v H') (.list (as ++ ys))) := q
      rw [List.drop_eq_getElem_cons hlt] at q
      obtain ⟨ρ', es, q⟩ := q
      have f3' : Fut (fun a => a = D) P1 (upd H1 D (.lst [])) P2 H3 := f2'.trans0 f3
      have R3 : RE X.K (fun a => B a ∨ a = D) P2 H3 ρw (wipe σ (own.map (·.2))) := RD.futS f3' fun _ z => .inr z
      have hacc3 : H3 D = some (.lst acc) := f3.kp D _ hacc nP2 fun z => z.elim
      -- the item, apart from the new list
      have rx' : Rp X.K H3 (Mo (fun a => B a ∨ a = D) ρw (wipe σ (own.map (·.2)))) P2 ds[i] x := by
        refine rx.anti fun a h => ?_
        rcases h with (h | h) | h
        · exact .inl (.inl h)
        · exact .inr (by rw [h]; exact hD)
        · exact .inl (.inr ((hown a).mp h))
      refine ⟨_, P2, ρw, ds[i], ρ', R3, rx', es, fun σ4 R4 o4 l4 k4 => ⟨?_, ?_⟩⟩
      · rw [show wipe σ4 (own.map (·.2)) = wipe (wipe σ (own.map (·.2))) (own.map (·.2)) from wipe_same his l4 k4]
        exact wipe_wipe
      · refine ⟨_, P2, ρ', R4, mc ρ' _ _ (fun b q P5 H5 f5 => ite_mono (fun q => ?_) (fun q => ?_) q) q⟩
        · refine ⟨_, P5, ρ', R4.fut f5, mg ρ' _ _ (fun y q v P6 H6 f6 r6 => ?_) q⟩
          have f36 : Fut S0 P2 H2 P6 H6 := (f3.trans0 f5).trans0 f6
          have hacc6 : H6 D = some (.lst acc) := f36.kp D _ hacc nP2 fun z => z.elim
          have nP6 : ¬ P6 D := f36.notP hacc nP2
          have fput := Fut.put (o := .lst (acc ++ [v])) f36.ok' hacc6 nP6
          refine ⟨acc, hacc6, by omega, by omega, rfl, P6, acc ++ [v], as ++ [y], (f2.trans0 f36).trans fput (fun c h z => ?_), (f2'.trans0 f36).trans fput (fun c _ z => z), upd_same, by rw [List.length_append]; simp; omega, ?_, ?_⟩
          · have z : c = D := z
            rw [z, hD] at h
            cases h
          · refine RpA.fut fput (fun c z => .inr z) ((racc.fut0 f36).append (.one (Rp.anti (fun a h => ?_) r6)))
            rcases h with h | h
            · rcases h with h | h
              · exact .inl (.inl h)
              · rcases (hown a).mpr h with ⟨j, es', a1, a2⟩ | ⟨j, y, bs, dss, a1, a2⟩
                · have hj : j ∉ is := fun z => wipeE_no ew j (his j z) es' a1
                  exact .inr (.inl ⟨j, es', by rw [(hg s0 H0 0 [] []).loc _ _ _ es j hj]; exact a1, by rw [k4 j hj]; exact a2⟩)
                · have hj : j ∉ is := fun z => wipeE_ns ew j (his j z) _ _ _ a1
                  exact .inr (.inr ⟨j, y, bs, dss, by rw [(hg s0 H0 0 [] []).loc _ _ _ es j hj]; exact a1, a2⟩)
            · exact .inl (.inr h)
          · refine mono_wLc1 mc mg ρw _ _ _ (fun ys q => ?_) q
            rw [List.append_assoc]
            exact q
        · have f36 : Fut S0 P2 H2 P5 H5 := f3.trans0 f5
          exact ⟨by omega, rfl, P5, acc, as, f2.trans0 f36, f2'.trans0 f36, f36.kp D _ hacc nP2 (fun z => z.elim), by omega, racc.fut0 f36, q⟩
    · have e : i = ds.length := by omega
      subst e
      refine .inl ⟨stop, ?_⟩
      have q : wLc1 st c g ρw (ds.drop ds.length) (fun ys => (fun d => ∀ v P' H', Fut S0 P H P' H' → RM .F X.K (Mo B ρ σ) H P' H' d v → Q v H') (.list (as ++ ys))) := q
      rw [List.drop_length] at q
      have q : ∀ v P' H', Fut S0 P H P' H' → RM .F X.K (Mo B ρ σ) H P' H' (.list (as ++ [])) v → Q v H' := q
      rw [List.append_nil] at q
      exact q (.ref D) P2 H2 (f1.trans0 f2) ⟨as, D, acc, rfl, rfl, f1.none_of hD, hacc, nP2, racc⟩
theorem ew_lc {elt tg iter : Expr} {ifs : List Expr} {scope : Scope} {own : List (Str × Nat)} {pos : Pos} {gi : Ev → W (List PyData)} {st : Set1} {is : List Nat} {c : Ev → W Bool} {g : Ev → W PyData} (hc : X.calm = true) (hN : X.N.Nodup) (hi : EI X tg iter gi) (ok : BlkOk X.N X.env.scope scope own)
    (hg : ∀ (s : Shared) (H : Hp) (C : Addr) (cl : List (Str × Addr)) (fp : List Addr), EG (X.blk s H scope (compEnvC scope cl C X.env) fp) tg st is)
    (ht : ∀ (s : Shared) (H : Hp) (C : Addr) (cl : List (Str × Addr)) (fp : List Addr), EC (X.blk s H scope (compEnvC scope cl C X.env) fp) ifs c)
    (he : ∀ (s : Shared) (H : Hp) (C : Addr) (cl : List (Str × Addr)) (fp : List Addr), EW (X.blk s H scope (compEnvC scope cl C X.env) fp) .S elt g)
    (his : ∀ i ∈ is, i ∈ own.map (·.2) := by decide) (hs : ∀ x, foldedSetIterable iter X.env x = pure x := by intro _; rfl) :
    EW X .F (.ListComp elt [⟨tg, iter, ifs, 0⟩] scope pos) (wLc (own.map (·.2)) gi st c g) :=
  ⟨mono_wLc hi.mono (ht {} (fun _ => none) 0 [] []).mono (he {} (fun _ => none) 0 [] []).mono,
    (pe_lc (g := tG X.K st is) (tt := tWb X.K c) (te := tW X.K .S g) hc hN hi.pi ok (fun s H C cl fp => (hg s H C cl fp).pg) (fun s H C cl fp => (ht s H C cl fp).pts) (fun s H C cl fp => (he s H C cl fp).pe) hs).imp (lc_imp hc hN hi ok hg ht he his)⟩
end
end WL

namespace WL
open PySem PySem.Spec PyProof.Rows L2

inductive Rs where
  | nx (ρ : Ev)
  | rt (d : PyData)
  | bk (ρ : Ev)
  | ct (ρ : Ev)
/-- what a statement may have done -/
structure Gr (ρ : Ev) (σ : L2.St) (P : Addr → Prop) (H : Hp) (ρ' : Ev) (σ' : L2.St) (P' : Addr → Prop) (H' : Hp) : Prop where
  fut : Fut (Own ρ σ) P H P' H'
  own : ∀ a, Own ρ' σ' a → Own ρ σ a ∨ H a = none
section
variable {K : PySem.W.Frag} {B P P' P'' : Addr → Prop} {H H' H'' : Hp} {ρ ρ' ρ'' : Ev} {σ σ' σ'' : L2.St}
theorem RE.ls (R : RE K B P H ρ σ) : ∀ a, Own ρ σ a → ∃ xs, H a = some (.lst xs) := fun a h => by
  rcases h with ⟨i, ds, h1, h2⟩ | ⟨i, x, bs, dss, h1, h2⟩
  · obtain ⟨b, vs, e1, e2, _⟩ := R.ow i ds h1
    rw [h2] at e1
    cases e1
    exact ⟨vs, e2⟩
  · exact (R.ns i x bs dss h1).2.lst h2
theorem Fut.own (f : Fut S0 P H P' H') (R : RE K B P H ρ σ) : Fut (Own ρ σ) P H P' H' := f.mono (fun _ z => z.elim) R.ls
theorem Gr.refl (R : RE K B P H ρ σ) : Gr ρ σ P H ρ σ P H := ⟨(Fut.refl R.pots).own R, fun _ h => .inl h⟩
theorem Gr.trans (a : Gr ρ σ P H ρ' σ' P' H') (b : Gr ρ' σ' P' H' ρ'' σ'' P'' H'') : Gr ρ σ P H ρ'' σ'' P'' H'' :=
  ⟨a.fut.trans b.fut (fun c h z => (a.own c z).elim id fun e => by rw [e] at h; cases h), fun c h => (b.own c h).elim (a.own c) fun e => .inr (a.fut.none_of e)⟩
/-- an expression first -/
theorem Gr.after (f : Fut S0 P H P' H') (R : RE K B P H ρ σ) (b : Gr ρ σ P' H' ρ'' σ'' P'' H'') : Gr ρ σ P H ρ'' σ'' P'' H'' :=
  ⟨(f.own R).trans b.fut fun _ _ z => z, fun c h => (b.own c h).elim .inl fun e => .inr (f.none_of e)⟩
end

/-- how a returned value stands -/
def RR (m : Md) (K : PySem.W.Frag) (B : Addr → Prop) (H : Hp) (ρ : Ev) (σ : L2.St) (P' : Addr → Prop) (H' : Hp) (d : PyData) (v : V) : Prop :=
  match m with
  | .F => ∃ ds p vs, d = .list ds ∧ v = .ref p ∧ (H p = none ∨ Own ρ σ p) ∧ H' p = some (.lst vs) ∧ ¬ P' p ∧ RpA K H' (fun a => B a ∨ a = p) P' ds vs
  | _ => Rp K H' B P' d v
def Post (K : PySem.W.Frag) (m : Md) (D : Ends) (B P : Addr → Prop) (H : Hp) (ρ : Ev) (σ : L2.St) : Rs → Prop
  | .nx ρ' => ∀ σ' P' H', Gr ρ σ P H ρ' σ' P' H' → RE K B P' H' ρ' σ' → D.nx σ' H'
  | .bk ρ' => ∀ σ' P' H', Gr ρ σ P H ρ' σ' P' H' → RE K B P' H' ρ' σ' → D.bk σ' H'
  | .ct ρ' => ∀ σ' P' H', Gr ρ σ P H ρ' σ' P' H' → RE K B P' H' ρ' σ' → D.ct σ' H'
  | .rt d => ∀ v P' H', Fut (Own ρ σ) P H P' H' → RR m K B H ρ σ P' H' d v → D.rt v H'
def tSt (K : PySem.W.Frag) (m : Md) (g : Ev → W Rs) : TS := fun D σ H => ∃ B P ρ, RE K B P H ρ σ ∧ g ρ (Post K m D B P H ρ σ)
structure ESt (X : Cx) (m : Md) (s : Stmt) (g : Ev → W Rs) : Prop where
  mono : Mono g
  ps : PS X s (tSt X.K m g)
structure ESs (X : Cx) (m : Md) (s : List Stmt) (g : Ev → W Rs) : Prop where
  mono : Mono g
  pss : PSs X s (tSt X.K m g)
section
variable {K : PySem.W.Frag} {m : Md} {D : Ends} {B P P' P'' : Addr → Prop} {H H' H'' : Hp} {ρ ρ' ρ'' : Ev} {σ σ' σ'' : L2.St}
theorem RR.step {d : PyData} {v : V} (g : Gr ρ σ P H ρ' σ' P' H') (r : RR m K B H' ρ' σ' P'' H'' d v) : RR m K B H ρ σ P'' H'' d v := by
  cases m with
  | F =>
    obtain ⟨ds, p, vs, e1, e2, h, r⟩ := r
    refine ⟨ds, p, vs, e1, e2, ?_, r⟩
    rcases h with h | h
    · exact .inl (g.fut.none_of h)
    · exact (g.own p h).symm
  | B => exact r
  | S => exact r
/-- what was wanted, from a later state on -/
theorem Post.step (g : Gr ρ σ P H ρ' σ' P' H') {r : Rs} (h : Post K m D B P H ρ σ r) : Post K m D B P' H' ρ' σ' r := by
  cases r with
  | nx ρ2 => exact fun σ2 P2 H2 g2 R => h σ2 P2 H2 (g.trans g2) R
  | bk ρ2 => exact fun σ2 P2 H2 g2 R => h σ2 P2 H2 (g.trans g2) R
  | ct ρ2 => exact fun σ2 P2 H2 g2 R => h σ2 P2 H2 (g.trans g2) R
  | rt d => exact fun v P2 H2 f r => h v P2 H2 (g.fut.trans f fun c hc z => (g.own c z).elim id fun e => by rw [e] at hc; cases hc) (r.step g)
end

/-! ### rules -/
def wSkip : Ev → W Rs := fun ρ Q => Q (.nx ρ)
def wSeq (g h : Ev → W Rs) : Ev → W Rs := fun ρ Q => g ρ fun r => match r with
  | .nx ρ' => h ρ' Q
  | r => Q r
def wRet (g : Ev → W PyData) : Ev → W Rs := fun ρ Q => g ρ fun d => Q (.rt d)
def wRetO (i : Nat) : Ev → W Rs := fun ρ Q => ∃ ds, ρ[i]? = some (.ow ds) ∧ Q (.rt (.list ds))
def wSet (i : Nat) (g : Ev → W PyData) : Ev → W Rs := fun ρ Q => g ρ fun d => Q (.nx (ρ.set i (.sh d)))
def wSetF (i : Nat) (g : Ev → W PyData) : Ev → W Rs := fun ρ Q => g ρ fun d => ∃ ds, d = .list ds ∧ Q (.nx (ρ.set i (.ow ds)))
def wAsg (st : Set1) (g : Ev → W PyData) : Ev → W Rs := fun ρ Q => g ρ fun d => ∃ ρ', st d ρ = some ρ' ∧ Q (.nx ρ')
def wDrop (g : Ev → W PyData) : Ev → W Rs := fun ρ Q => g ρ fun _ => Q (.nx ρ)
def wFail {α : Type} : Ev → W α := fun _ _ => False
section
variable {X : Cx} {m : Md} {s : Stmt} {ss : List Stmt} {e : Expr} {g h : Ev → W Rs} {ge : Ev → W PyData} {pos p1 : Pos}
theorem mono_wSeq (a : Mono g) (b : Mono h) : Mono (wSeq g h) := fun ρ _ _ i q => a ρ _ _ (fun r q => by
  cases r with
  | nx ρ' => exact b ρ' _ _ i q
  | rt d => exact i _ q
  | bk ρ' => exact i _ q
  | ct ρ' => exact i _ q) q
theorem ess_nil : ESs X m [] wSkip := ⟨fun _ _ _ i q => i _ q, pss_nil.imp fun D σ H ⟨B, P, ρ, R, q⟩ => q σ P H (.refl R) R⟩
theorem ess_cons (a : ESt X m s g) (b : ESs X m ss h) : ESs X m (s :: ss) (wSeq g h) :=
  ⟨mono_wSeq a.mono b.mono, (pss_cons a.ps b.pss).imp fun D σ H ⟨B, P, ρ, R, q⟩ => ⟨B, P, ρ, R, a.mono ρ _ _ (fun r q => by
    cases r with
    | nx ρ' => exact fun σ' P' H' gr R' => ⟨B, P', ρ', R', b.mono ρ' _ _ (fun r q => q.step gr) q⟩
    | rt d => exact q
    | bk ρ' => exact q
    | ct ρ' => exact q) q⟩⟩
theorem ess_one (a : ESt X m s g) : ESs X m [s] g := ⟨a.mono, pss_one a.ps⟩
theorem es_fail : ESt X m s wFail := ⟨fun _ _ _ _ q => q.elim, ps_never.imp fun D σ H ⟨B, P, ρ, R, q⟩ => q.elim⟩
theorem es_pass : ESt X m (.Pass pos) wSkip := ⟨fun _ _ _ i q => i _ q, ps_pass.imp fun D σ H ⟨B, P, ρ, R, q⟩ => q σ P H (.refl R) R⟩
theorem es_ret (hm : m ≠ .B) (a : EW X m e ge) : ESt X m (.Return (some e) pos) (wRet ge) :=
  ⟨fun ρ _ _ i q => a.mono ρ _ _ (fun _ q => i _ q) q, (ps_ret a.pe).imp fun D σ H ⟨B, P, ρ, R, q⟩ => ⟨B, P, ρ, R, a.mono ρ _ _ (fun d q v P' H' f r => by
    refine q v P' H' (f.own R) ?_
    cases m with
    | B => exact absurd rfl hm
    | S => exact Rp.anti (fun a h => .inl h) r
    | F =>
      obtain ⟨ds, p, vs, e1, e2, np, e3, n, r⟩ := r
      exact ⟨ds, p, vs, e1, e2, .inl np, e3, n, r.anti fun a h => h.elim (fun h => .inl (.inl h)) .inr⟩) q⟩⟩
theorem es_retN : ESt X .S (.Return none pos) (fun ρ Q => Q (.rt .none)) := ⟨fun _ _ _ i q => i _ q, ps_retN.imp fun D σ H ⟨B, P, ρ, R, q⟩ => q _ P H ((Fut.refl R.pots).own R) rfl⟩
theorem es_retO {x : Str} (i : Nat) (hN : X.N[i]? = some x := by rfl) (hv : Vis X.env.scope x := by first | exact Or.inl rfl | exact Or.inr (Or.inl rfl) | exact Or.inr (Or.inr rfl)) (hd : (x == ("__debug__" : Str)) = false := by decide) (hcd : (x == ("__classdict__" : Str)) = false := by decide) : ESt X .F (.Return (some (.Name x p1)) pos) (wRetO i) :=
  ⟨fun ρ _ _ i ⟨ds, e, q⟩ => ⟨ds, e, i _ q⟩, (ps_ret (pe_var (i := i) hN hv hd hcd)).imp fun D σ H ⟨B, P, ρ, R, ds, e, q⟩ => by
    obtain ⟨a, vs, e1, e2, nb, np, r⟩ := R.ow i ds e
    have own : Own ρ σ a := .inl ⟨i, ds, e, e1⟩
    exact ⟨.ref a, e1, q (.ref a) P H ((Fut.refl R.pots).own R) ⟨ds, a, vs, rfl, rfl, .inr own, e2, np, r.anti fun b h => h.elim .inl fun z => .inr (.inl ⟨i, ds, e, by rw [z]; exact e1⟩)⟩⟩⟩
theorem es_expr (a : EW X .B e ge) (hs : swapsWith e none pos.line X.env = pure false := by rfl) : ESt X m (.Expr e pos) (wDrop ge) :=
  ⟨fun ρ _ _ i q => a.mono ρ _ _ (fun _ q => i _ q) q, (ps_expr a.pe hs).imp fun D σ H ⟨B, P, ρ, R, q⟩ => ⟨B, P, ρ, R, a.mono ρ _ _ (fun d q v P' H' f r => q σ P' H' ((Gr.refl (R.fut f)).after f R) (R.fut f)) q⟩⟩

/-- a value at a name -/
theorem store_S {K : PySem.W.Frag} {B P P' : Addr → Prop} {H H' : Hp} {ρ : Ev} {σ : L2.St} {D : Ends} {i : Nat} {d : PyData} {v : V} (R : RE K B P H ρ σ) (f : Fut S0 P H P' H') (r : RM .S K (Mo B ρ σ) H P' H' d v)
    (q : Post K m D B P H ρ σ (.nx (ρ.set i (.sh d)))) : D.nx (σ.set i (some v)) H' :=
  q _ P' H' (Gr.after f R ⟨(Fut.refl f.ok').own (R.fut f), fun a h => .inl (own_set h)⟩) ((R.fut f).set r)
theorem RE.setF {K : PySem.W.Frag} {B P P' : Addr → Prop} {H H' : Hp} {ρ : Ev} {σ : L2.St} {i : Nat} {ds : List PyData} {p : Addr} {vs : List V} (R : RE K B P H ρ σ) (hl : i < ρ.length) (f : Fut S0 P H P' H') (np : H p = none) (e : H' p = some (.lst vs)) (nP : ¬ P' p)
    (r : RpA K H' (fun a => Mo B ρ σ a ∨ a = p) P' ds vs) : RE K B P' H' (ρ.set i (.ow ds)) (σ.set i (some (.ref p))) := by
  have mo : ∀ a, Mo B (ρ.set i (.ow ds)) (σ.set i (some (.ref p))) a → Mo B ρ σ a ∨ a = p := fun a h => by
    rcases h with h | ⟨j, es, h1, h2⟩ | ⟨j, y, bs, dss, h1, h2⟩
    · exact .inl (.inl h)
    · rcases get_set h1 with ⟨e1, _, _⟩ | ⟨n, h1⟩
      · rcases get_set h2 with ⟨_, e2, _⟩ | ⟨n, _⟩
        · exact .inr (V.ref.inj (Option.some.inj e2))
        · exact absurd e1 n
      · rcases get_set h2 with ⟨e2, _⟩ | ⟨_, h2⟩
        · exact absurd e2 n
        · exact .inl (.inr (.inl ⟨j, es, h1, h2⟩))
    · rcases get_set h1 with ⟨_, e1, _⟩ | ⟨n, h1⟩
      · cases e1
      · exact .inl (.inr (.inr ⟨j, y, bs, dss, h1, h2⟩))
  have un : ∀ {b : Addr} {o : HO}, H b = some o → b ≠ p := fun h => ne_of_none h np
  have R' := R.fut f
  refine ⟨by rw [set_len, set_len]; exact R.len, R'.trk, R'.pots, fun j d h => ?_, fun j es h => ?_, fun j k es fs a h1 h2 h3 h4 => ?_, fun j a bs dss h => ?_, fun j a bs dss k es c h1 h2 h3 => ?_, fun j k a a' bs bs' dss dss' h1 h2 => ?_⟩
  · rcases get_set h with ⟨_, q, _⟩ | ⟨n, h⟩
    · cases q
    · obtain ⟨u, e1, r1⟩ := R.sh j d h
      exact ⟨u, by rw [List.getElem?_set_ne (fun z => n z.symm)]; exact e1, ((r1.avoid np).fut0 f).anti mo⟩
  · rcases get_set h with ⟨rfl, q, l⟩ | ⟨n, h⟩
    · cases q
      refine ⟨p, vs, by rw [List.getElem?_set_self (by rw [← R.len]; exact l)], e, fun z => ?_, nP, r.anti mo⟩
      have := R.trk p z
      rw [np] at this
      cases this
    · obtain ⟨a, us, e1, e2, b, q, r1⟩ := R.ow j es h
      exact ⟨a, us, by rw [List.getElem?_set_ne (fun z => n z.symm)]; exact e1, f.kp a _ e2 q (fun z => z.elim), b, f.notP e2 q, ((r1.avoid np).fut0 f).anti mo⟩
  · have other : ∀ {k : Nat} {fs : List PyData}, ρ[k]? = some (.ow fs) → σ[k]? ≠ some (some (.ref p)) := fun h1 h2 => by
      obtain ⟨a, us, e1, e2, _⟩ := R.ow _ _ h1
      rw [h2] at e1
      cases e1
      exact un e2 rfl
    rcases get_set h1 with ⟨z1, q, l⟩ | ⟨n1, k1⟩
    · rcases get_set h2 with ⟨e2, _⟩ | ⟨n2, k2⟩
      · exact z1.trans e2.symm
      · rw [List.getElem?_set_ne (fun z => n2 z.symm)] at h4
        rw [z1, List.getElem?_set_self (by rw [← R.len]; exact l)] at h3
        cases h3
        exact absurd h4 (other k2)
    · rcases get_set h2 with ⟨z2, q, l⟩ | ⟨n2, k2⟩
      · rw [List.getElem?_set_ne (fun z => n1 z.symm)] at h3
        rw [z2, List.getElem?_set_self (by rw [← R.len]; exact l)] at h4
        cases h4
        exact absurd h3 (other k1)
      · rw [List.getElem?_set_ne (fun z => n1 z.symm)] at h3
        rw [List.getElem?_set_ne (fun z => n2 z.symm)] at h4
        exact R.inj j k es fs a k1 k2 h3 h4
  · rcases get_set h with ⟨_, q, _⟩ | ⟨n, h⟩
    · cases q
    · obtain ⟨e1, ok⟩ := R.ns j a bs dss h
      have ok' : NsOk K H (fun a => Mo B ρ σ a ∨ a = p) B P a bs dss := ⟨ok.top, ok.fr, ok.nd, ok.len, fun j b ds h1 h2 => by
        obtain ⟨vs, e, r⟩ := ok.inn j b ds h1 h2
        exact ⟨vs, e, r.avoid np⟩⟩
      exact ⟨by rw [List.getElem?_set_ne (fun z => n z.symm)]; exact e1, ok'.next f (fun _ q => q.elim) (fun _ _ q => q) (fun x hx => (ok.fr x hx).1) mo⟩
  · rcases get_set h1 with ⟨_, q, _⟩ | ⟨n1, h1⟩
    · cases q
    · rcases get_set h2 with ⟨z2, q, l⟩ | ⟨n2, h2⟩
      · rw [z2, List.getElem?_set_self (by rw [← R.len]; exact l)] at h3
        cases h3
        intro hm
        obtain ⟨vs, e⟩ := (R.ns j a bs dss h1).2.lst hm
        exact un e rfl
      · rw [List.getElem?_set_ne (fun z => n2 z.symm)] at h3
        exact R.nw j a bs dss k es c h1 h2 h3
  · rcases get_set h1 with ⟨_, q, _⟩ | ⟨n1, h1⟩
    · cases q
    · rcases get_set h2 with ⟨_, q, _⟩ | ⟨n2, h2⟩
      · cases q
      · exact R.n1 j k a a' bs bs' dss dss' h1 h2
theorem own_setF {ρ : Ev} {σ : L2.St} {i : Nat} {ds : List PyData} {p a : Addr} (h : Own (ρ.set i (.ow ds)) (σ.set i (some (.ref p))) a) : Own ρ σ a ∨ a = p := by
  rcases h with ⟨j, es, h1, h2⟩ | ⟨j, y, bs, dss, h1, h2⟩
  · rcases get_set h1 with ⟨e1, _, _⟩ | ⟨n, h1⟩
    · rcases get_set h2 with ⟨_, e2, _⟩ | ⟨n, _⟩
      · exact .inr (V.ref.inj (Option.some.inj e2))
      · exact absurd e1 n
    · rcases get_set h2 with ⟨e2, _⟩ | ⟨_, h2⟩
      · exact absurd e2 n
      · exact .inl (.inl ⟨j, es, h1, h2⟩)
  · rcases get_set h1 with ⟨_, e1, _⟩ | ⟨n, h1⟩
    · cases e1
    · exact .inl (.inr ⟨j, y, bs, dss, h1, h2⟩)
theorem store_F {K : PySem.W.Frag} {B P P' : Addr → Prop} {H H' : Hp} {ρ : Ev} {σ : L2.St} {D : Ends} {i : Nat} {ds : List PyData} {v : V} (R : RE K B P H ρ σ) (hl : i < ρ.length) (f : Fut S0 P H P' H') (r : RM .F K (Mo B ρ σ) H P' H' (.list ds) v)
    (q : Post K m D B P H ρ σ (.nx (ρ.set i (.ow ds)))) : D.nx (σ.set i (some v)) H' := by
  obtain ⟨ds', p, vs, e1, rfl, np, e3, n, r⟩ := r
  cases e1
  exact q _ P' H' ⟨f.own R, fun a h => (own_setF h).elim .inl fun z => .inr (by rw [z]; exact np)⟩ (R.setF hl f np e3 n r)
end
section
variable {X : Cx} {m : Md} {s : Stmt} {ss : List Stmt} {e c : Expr} {g h : Ev → W Rs} {ge : Ev → W PyData} {gc : Ev → W Bool} {pos p1 : Pos} {x : Str} {i : Nat}
theorem es_set (hN : X.N.Nodup) (hi : X.N[i]? = some x) (hx : Loc X.env.scope x) (he : EW X .S e ge) (hs : swapsWith e (some (.Name x p1)) pos.line X.env = pure false := by rfl) (hf : X.fn x = true ∨ X.env.scope.names.lookup x = some .local := by first | exact .inl rfl | exact .inr rfl | assumption) :
    ESt X m (.Assign [.Name x p1] e pos) (wSet i ge) :=
  ⟨fun ρ _ _ i q => he.mono ρ _ _ (fun _ q => i _ q) q, (ps_set hN hi hx he.pe hs hf).imp fun D σ H ⟨B, P, ρ, R, q⟩ => ⟨B, P, ρ, R, he.mono ρ _ _ (fun d q v P' H' f r => store_S R f r q) q⟩⟩
theorem es_setF (hN : X.N.Nodup) (hi : X.N[i]? = some x) (hx : Loc X.env.scope x) (he : EW X .F e ge) (hs : swapsWith e (some (.Name x p1)) pos.line X.env = pure false := by rfl) (hf : X.fn x = true ∨ X.env.scope.names.lookup x = some .local := by first | exact .inl rfl | exact .inr rfl | assumption) :
    ESt X m (.Assign [.Name x p1] e pos) (wSetF i ge) :=
  ⟨fun ρ _ _ i q => he.mono ρ _ _ (fun _ ⟨ds, e, q⟩ => ⟨ds, e, i _ q⟩) q, (ps_set hN hi hx he.pe hs hf).imp fun D σ H ⟨B, P, ρ, R, q⟩ => ⟨B, P, ρ, R, he.mono ρ _ _ (fun d ⟨ds, e, q⟩ v P' H' f r => by
    subst e
    by_cases hl : i < ρ.length
    · exact store_F R hl f r q
    · have e1 : ρ.set i (.ow ds) = ρ := List.set_eq_of_length_le (by omega)
      have e2 : σ.set i (some v) = σ := List.set_eq_of_length_le (by rw [← R.len]; omega)
      show D.nx (σ.set i (some v)) H'
      rw [e2]
      rw [e1] at q
      exact q σ P' H' ((Gr.refl (R.fut f)).after f R) (R.fut f)) q⟩⟩
theorem es_asg {tg : Expr} {st : Set1} {is : List Nat} (he : EW X .S e ge) (hg : EG X tg st is) (hs : swapsWithSole [tg] e pos.line X.env = pure false := by rfl) (hw : swappedStores [tg] e X.env = pure none := by rfl) (h1 : (assignEach [tg] X.env).map (·.2) = [assign tg X.env] := by rfl) : ESt X m (.Assign [tg] e pos) (wAsg st ge) :=
  ⟨fun ρ _ _ i q => he.mono ρ _ _ (fun _ ⟨ρ', e, q⟩ => ⟨ρ', e, i _ q⟩) q, (ps_asg he.pe hg.pg hs hw h1).imp fun D σ H ⟨B, P, ρ, R, q⟩ => ⟨B, P, ρ, R, he.mono ρ _ _ (fun d ⟨ρ', e, q⟩ v P' H' f r => ⟨B, P', ρ, d, ρ', R.fut f, r, e, fun σ' R' o' l' k' => q σ' P' H' (Gr.after f R ⟨(Fut.refl f.ok').own (R.fut f), fun a h => .inl (o' a h)⟩) R'⟩) q⟩⟩
theorem es_if {a b : List Stmt} (hc : EB X c gc) (ha : ESs X m a g) (hb : ESs X m b h) : ESt X m (.If c a b pos) (wIf gc g h) :=
  ⟨mono_wIf hc.mono ha.mono hb.mono, (ps_if hc.pt ha.pss hb.pss).imp fun D σ H ⟨B, P, ρ, R, q⟩ => ⟨B, P, ρ, R, hc.mono ρ _ _ (fun k q P1 H1 f1 => ite_mono
    (fun q => ⟨B, P1, ρ, R.fut f1, ha.mono ρ _ _ (fun r q => q.step ((Gr.refl (R.fut f1)).after f1 R)) q⟩)
    (fun q => ⟨B, P1, ρ, R.fut f1, hb.mono ρ _ _ (fun r q => q.step ((Gr.refl (R.fut f1)).after f1 R)) q⟩) q) q⟩⟩
/-- a, b = e1, e2 -/
def wPar (i j : Nat) (gs : Ev → W (List PyData)) : Ev → W Rs := fun ρ Q => gs ρ fun ds => ∃ d1 d2, ds = [d1, d2] ∧ Q (.nx ((ρ.set i (.sh d1)).set j (.sh d2)))
theorem es_par {i j : Nat} {x y : Str} {a b : Expr} {gs : Ev → W (List PyData)} {px py pt : Pos} {kt k2 pt2} (hc : X.calm = true) (hN : X.N.Nodup) (hi : X.N[i]? = some x) (hj : X.N[j]? = some y) (hij : i ≠ j)
    (ha : EA X [a, b] gs) (hp : ∀ {ta : TA}, PA X [a, b] ta → PS X (.Assign [.Tuple [.Name x px, .Name y py] kt pt] (.Tuple [a, b] k2 pt2) pos) (tPar i j ta)) : ESt X m (.Assign [.Tuple [.Name x px, .Name y py] kt pt] (.Tuple [a, b] k2 pt2) pos) (wPar i j gs) :=
  ⟨fun ρ _ _ i q => ha.mono ρ _ _ (fun _ ⟨d1, d2, e, q⟩ => ⟨d1, d2, e, i _ q⟩) q, (hp ha.pa).imp fun D σ H ⟨B, P, ρ, R, q⟩ => ⟨B, P, ρ, R, ha.mono ρ _ _ (fun ds ⟨d1, d2, e, q⟩ vs P1 H1 f1 r1 => by
    subst e
    obtain ⟨v, us, rfl, r1, w, us', rfl, r2, rfl⟩ := r1
    have R1 := R.fut f1
    have R2 := R1.set (i := i) r1
    have o2 : ∀ a, Mo B (ρ.set i (.sh d1)) (σ.set i (some v)) a → Mo B ρ σ a := fun a h => h.elim .inl fun h => .inr (own_set h)
    have R3 := R2.set (i := j) (r2.anti o2)
    exact ⟨v, w, rfl, q _ P1 H1 (Gr.after f1 R ⟨(Fut.refl f1.ok').own R1, fun a h => .inl (own_set (own_set h))⟩) R3⟩) q⟩⟩

/-! ### for -/
def wLoop (st : Set1) (g : Ev → W Rs) : List PyData → Ev → W Rs
  | [], ρ, Q => Q (.nx ρ)
  | d :: ds, ρ, Q => ∃ ρ', st d ρ = some ρ' ∧ g ρ' fun r => match r with
    | .nx ρ2 => wLoop st g ds ρ2 Q
    | .ct ρ2 => wLoop st g ds ρ2 Q
    | .bk ρ2 => Q (.nx ρ2)
    | .rt d => Q (.rt d)
def wFor (gi : Ev → W (List PyData)) (st : Set1) (g : Ev → W Rs) : Ev → W Rs := fun ρ Q => gi ρ fun ds => wLoop st g ds ρ Q
theorem mono_wLoop {st : Set1} (hg : Mono g) : ∀ (ds : List PyData) (ρ : Ev) (Q Q' : Rs → Prop), (∀ r, Q r → Q' r) → wLoop st g ds ρ Q → wLoop st g ds ρ Q'
  | [], _, _, _, i, q => i _ q
  | d :: ds, ρ, Q, Q', i, ⟨ρ', e, q⟩ => ⟨ρ', e, hg ρ' _ _ (fun r q => by
    cases r with
    | nx ρ2 => exact mono_wLoop hg ds ρ2 _ _ i q
    | ct ρ2 => exact mono_wLoop hg ds ρ2 _ _ i q
    | bk ρ2 => exact i _ q
    | rt d => exact i _ q) q⟩
theorem es_for {tg iter : Expr} {body : List Stmt} {gi : Ev → W (List PyData)} {st : Set1} {is : List Nat} (hp : PassesOwn (model X.prog X.w) X.A X.env X.xe) (hc : X.calm = true) (hi : EI X tg iter gi) (hg : EG X tg st is) (hb : ESs X m body g)
    (hs : ∀ x, foldedSetIterable iter X.env x = pure x := by intro _; rfl) : ESt X m (.For tg iter body [] pos) (wFor gi st g) := by
  refine ⟨fun ρ _ _ i q => hi.mono ρ _ _ (fun ds q => mono_wLoop hb.mono ds ρ _ _ i q) q, (ps_for hp hc hi.pi hg.pg hb.pss hs).imp fun D σ H ⟨B, P, ρ, R, q⟩ => ⟨B, P, ρ, R, hi.mono ρ _ _ (fun ds q J P1 H1 f1 it hz => ?_) q⟩⟩
  have R1 := R.fut f1
  refine ⟨fun i k σ2 H2 => i ≤ ds.length ∧ k = ds.length - i ∧ ∃ P2 ρ2, Gr ρ σ P1 H1 ρ2 σ2 P2 H2 ∧ RE X.K B P2 H2 ρ2 σ2 ∧ wLoop st g (ds.drop i) ρ2 (Post X.K m D B P H ρ σ), ⟨ds.length, Nat.zero_le _, by simp, P1, ρ, .refl R1, R1, q⟩, ?_⟩
  rintro i k σ2 H2 ⟨hi2, rfl, P2, ρ2, gr, R2, q⟩
  have hM : ∀ c, Own ρ σ c → Mo B ρ σ c := fun c h => .inr h
  obtain ⟨go, stop, yld⟩ := it (Own ρ σ) P2 H2 gr.fut hM
  have gr0 : Gr ρ σ P H ρ2 σ2 P2 H2 := gr.after f1 R
  by_cases hlt : i < ds.length
  · refine .inr ⟨go i hlt, fun σ' H' => i + 1 ≤ ds.length ∧ ∃ P2 ρ2, Gr ρ σ P1 H1 ρ2 σ' P2 H' ∧ RE X.K B P2 H' ρ2 σ' ∧ wLoop st g (ds.drop (i + 1)) ρ2 (Post X.K m D B P H ρ σ), fun σ' H' ⟨h1, w⟩ => ⟨ds.length - (i + 1), by omega, h1, rfl, w⟩, fun x H3 y => ?_⟩
    have ed : ds[i]? = some ds[i] := List.getElem?_eq_getElem hlt
    obtain ⟨f3, rx⟩ := yld i x H3 ds[i] ed y
    rw [List.drop_eq_getElem_cons hlt] at q
    obtain ⟨ρ', es, q⟩ := q
    have R3 := R2.fut f3
    have rx' : Rp X.K H3 (Mo B ρ2 σ2) P2 ds[i] x := rx.anti fun a h => h.elim (fun h => .inl (.inl h)) fun h => (gr.own a h).elim (fun h => .inl (.inr h)) .inr
    refine ⟨B, P2, ρ2, ds[i], ρ', R3, rx', es, fun σ4 R4 o4 l4 k4 => ⟨B, P2, ρ', R4, hb.mono ρ' _ _ (fun r q => ?_) q⟩⟩
    have gr4 : Gr ρ σ P1 H1 ρ' σ4 P2 H3 := gr.trans (Gr.after f3 R2 ⟨(Fut.refl f3.ok').own R3, fun a h => .inl (o4 a h)⟩)
    have gr04 : Gr ρ σ P H ρ' σ4 P2 H3 := gr4.after f1 R
    cases r with
    | nx ρ5 => exact fun σ5 P5 H5 g5 R5 => ⟨by omega, P5, ρ5, gr4.trans g5, R5, q⟩
    | ct ρ5 => exact fun σ5 P5 H5 g5 R5 => ⟨by omega, P5, ρ5, gr4.trans g5, R5, q⟩
    | bk ρ5 => exact fun σ5 P5 H5 g5 R5 => q σ5 P5 H5 (gr04.trans g5) R5
    | rt d => exact (Post.step gr04 q : Post X.K m D B P2 H3 ρ' σ4 (.rt d))
  · have e : i = ds.length := by omega
    subst e
    rw [List.drop_length] at q
    exact .inl ⟨stop, q σ2 P2 H2 gr0 R2⟩
end
end WL

namespace WL
open PySem PySem.Spec PyProof.Rows L2

/-! ### owned lists change -/
section
variable {K : PySem.W.Frag} {B P : Addr → Prop} {H : Hp} {ρ : Ev} {σ : L2.St} {i : Nat} {ds es : List PyData} {a : Addr} {us : List V}
theorem own_same (h1 : ρ[i]? = some (.ow ds)) (b : Addr) : Own (ρ.set i (.ow es)) σ b ↔ Own ρ σ b := by
  refine ⟨fun h => ?_, fun h => ?_⟩
  · rcases h with ⟨j, fs, e1, e2⟩ | ⟨j, y, bs, dss, e1, e2⟩
    · rcases get_set e1 with ⟨rfl, _, _⟩ | ⟨n, e1⟩
      · exact .inl ⟨j, ds, h1, e2⟩
      · exact .inl ⟨j, fs, e1, e2⟩
    · rcases get_set e1 with ⟨_, q, _⟩ | ⟨n, e1⟩
      · cases q
      · exact .inr ⟨j, y, bs, dss, e1, e2⟩
  · rcases h with ⟨j, fs, e1, e2⟩ | ⟨j, y, bs, dss, e1, e2⟩
    · by_cases e : j = i
      · subst e
        have hl : j < ρ.length := by
          by_cases q : j < ρ.length
          · exact q
          · rw [List.getElem?_eq_none (by omega)] at h1; cases h1
        exact .inl ⟨j, es, List.getElem?_set_self hl, e2⟩
      · exact .inl ⟨j, fs, by rw [List.getElem?_set_ne (fun z => e z.symm)]; exact e1, e2⟩
    · have e : j ≠ i := fun z => by
        rw [z, h1] at e1
        cases e1
      exact .inr ⟨j, y, bs, dss, by rw [List.getElem?_set_ne (fun z => e z.symm)]; exact e1, e2⟩
theorem RE.chg (R : RE K B P H ρ σ) (h1 : ρ[i]? = some (.ow ds)) (h2 : σ[i]? = some (some (.ref a))) (r : RpA K H (Mo B ρ σ) P es us) :
    Gr ρ σ P H (ρ.set i (.ow es)) σ P (upd H a (.lst us)) ∧ RE K B P (upd H a (.lst us)) (ρ.set i (.ow es)) σ := by
  obtain ⟨b, vs, e1, e2, nb, np, _⟩ := R.ow i ds h1
  rw [h2] at e1
  cases e1
  have hl : i < ρ.length := by
    by_cases q : i < ρ.length
    · exact q
    · rw [List.getElem?_eq_none (by omega)] at h1; cases h1
  have own : Own ρ σ a := .inl ⟨i, ds, h1, h2⟩
  have fp := Fut.put (o := .lst us) R.pots e2 np
  have mo : ∀ c, Mo B (ρ.set i (.ow es)) σ c → Mo B ρ σ c := fun c h => h.elim .inl fun h => .inr ((own_same h1 c).mp h)
  have hs : ∀ c, c = a → Mo B ρ σ c := fun c h => by rw [h]; exact .inr own
  refine ⟨⟨fp.mono (fun c h => by rw [h]; exact own) R.ls, fun c h => .inl ((own_same h1 c).mp h)⟩, by rw [set_len]; exact R.len, fun c h => fp.tr c (R.trk c h), fp.ok', fun j d h => ?_, fun j fs h => ?_, fun j k fs gs c e1 e2 e3 e4 => ?_, fun j y bs dss h => ?_, fun j y bs dss k gs c h1' h2' h3' => ?_, fun j k y y' bs bs' dss dss' h1' h2' => ?_⟩
  · rcases get_set h with ⟨_, q, _⟩ | ⟨n, h⟩
    · cases q
    · obtain ⟨u, e, r1⟩ := R.sh j d h
      exact ⟨u, e, (r1.fut fp hs).anti mo⟩
  · rcases get_set h with ⟨rfl, q, _⟩ | ⟨n, h⟩
    · cases q
      exact ⟨a, us, h2, upd_same, nb, np, (r.fut fp hs).anti mo⟩
    · obtain ⟨c, ws, e, e5, b, q, r1⟩ := R.ow j fs h
      have nca : c ≠ a := fun z => n (R.inj j i fs ds a h h1 (by rw [← z]; exact e) h2)
      exact ⟨c, ws, e, by rw [upd_ne nca]; exact e5, b, q, (r1.fut fp hs).anti mo⟩
  · have back : ∀ {j : Nat} {fs : List PyData}, (ρ.set i (.ow es))[j]? = some (.ow fs) → ∃ fs', ρ[j]? = some (.ow fs') := fun {j fs} z => by
      rcases get_set z with ⟨rfl, _, _⟩ | ⟨_, z⟩
      · exact ⟨ds, h1⟩
      · exact ⟨fs, z⟩
    obtain ⟨_, b1⟩ := back e1
    obtain ⟨_, b2⟩ := back e2
    exact R.inj j k _ _ c b1 b2 e3 e4
  · rcases get_set h with ⟨_, q, _⟩ | ⟨n, h⟩
    · cases q
    · obtain ⟨e1, ok⟩ := R.ns j y bs dss h
      exact ⟨e1, ok.next fp hs (fun x hx z => R.nw j y bs dss i ds a h h1 h2 (by rw [← z]; exact hx)) (fun x hx => (ok.fr x hx).1) mo⟩
  · rcases get_set h1' with ⟨_, q, _⟩ | ⟨n1, h1'⟩
    · cases q
    · rcases get_set h2' with ⟨z2, q, _⟩ | ⟨n2, h2'⟩
      · rw [z2] at h3'
        exact R.nw j y bs dss i ds c h1' h1 h3'
      · exact R.nw j y bs dss k gs c h1' h2' h3'
  · rcases get_set h1' with ⟨_, q, _⟩ | ⟨n1, h1'⟩
    · cases q
    · rcases get_set h2' with ⟨_, q, _⟩ | ⟨n2, h2'⟩
      · cases q
      · exact R.n1 j k y y' bs bs' dss dss' h1' h2'
end
/-- an owned name is shared from now on -/
def frz1 (i : Nat) (ρ : Ev) : Ev := match ρ[i]? with
  | some (.ow ds) => ρ.set i (.sh (.list ds))
  | _ => ρ
def frz : List Nat → Ev → Ev
  | [], ρ => ρ
  | i :: is, ρ => frz is (frz1 i ρ)
section
variable {K : PySem.W.Frag} {B P : Addr → Prop} {H : Hp} {ρ : Ev} {σ : L2.St}
theorem RE.frz1 (i : Nat) (R : RE K B P H ρ σ) : RE K B P H (frz1 i ρ) σ ∧ ∀ a, Own (WL.frz1 i ρ) σ a → Own ρ σ a := by
  unfold WL.frz1
  split
  · rename_i ds h1
    obtain ⟨a, vs, e1, e2, nb, np, r⟩ := R.ow i ds h1
    have ow : ∀ c, Own (ρ.set i (.sh (.list ds))) σ c → Own ρ σ c ∧ c ≠ a := fun c h => by
      rcases h with ⟨j, fs, z1, z2⟩ | ⟨j, y, bs, dss, z1, z2⟩
      · rcases get_set z1 with ⟨_, q, _⟩ | ⟨n, z1⟩
        · cases q
        · refine ⟨.inl ⟨j, fs, z1, z2⟩, fun z => n (R.inj j i fs ds a z1 h1 (by rw [← z]; exact z2) e1)⟩
      · rcases get_set z1 with ⟨_, q, _⟩ | ⟨n, z1⟩
        · cases q
        · exact ⟨.inr ⟨j, y, bs, dss, z1, z2⟩, fun z => R.nw j y bs dss i ds a z1 h1 e1 (by rw [← z]; exact z2)⟩
    have mo : ∀ c, Mo B (ρ.set i (.sh (.list ds))) σ c → Mo B ρ σ c := fun c h => h.elim .inl fun h => .inr (ow c h).1
    refine ⟨⟨by rw [set_len]; exact R.len, R.trk, R.pots, fun j d h => ?_, fun j fs h => ?_, fun j k fs gs c q1 q2 q3 q4 => ?_, fun j y bs dss h => ?_, fun j y bs dss k gs c h1' h2' h3' => ?_, fun j k y y' bs bs' dss dss' h1' h2' => ?_⟩, fun c h => (ow c h).1⟩
    · rcases get_set h with ⟨rfl, q, _⟩ | ⟨n, h⟩
      · cases q
        exact ⟨.ref a, e1, a, vs, rfl, .inl ⟨e2, fun z => z.elim nb fun z => (ow a z).2 rfl, np⟩, r.anti mo⟩
      · obtain ⟨u, e, r1⟩ := R.sh j d h
        exact ⟨u, e, r1.anti mo⟩
    · rcases get_set h with ⟨_, q, _⟩ | ⟨n, h⟩
      · cases q
      · obtain ⟨c, ws, e, e5, b, q, r1⟩ := R.ow j fs h
        exact ⟨c, ws, e, e5, b, q, r1.anti mo⟩
    · rcases get_set q1 with ⟨_, q, _⟩ | ⟨_, q1⟩
      · cases q
      · rcases get_set q2 with ⟨_, q, _⟩ | ⟨_, q2⟩
        · cases q
        · exact R.inj j k fs gs c q1 q2 q3 q4
    · rcases get_set h with ⟨_, q, _⟩ | ⟨n, h⟩
      · cases q
      · obtain ⟨e1, ok⟩ := R.ns j y bs dss h
        exact ⟨e1, ok.next (.refl R.pots) (fun _ q => q.elim) (fun _ _ q => q) (fun x hx => (ok.fr x hx).1) mo⟩
    · rcases get_set h1' with ⟨_, q, _⟩ | ⟨n1, h1'⟩
      · cases q
      · rcases get_set h2' with ⟨_, q, _⟩ | ⟨n2, h2'⟩
        · cases q
        · exact R.nw j y bs dss k gs c h1' h2' h3'
    · rcases get_set h1' with ⟨_, q, _⟩ | ⟨n1, h1'⟩
      · cases q
      · rcases get_set h2' with ⟨_, q, _⟩ | ⟨n2, h2'⟩
        · cases q
        · exact R.n1 j k y y' bs bs' dss dss' h1' h2'
  · exact ⟨R, fun a h => h⟩
theorem RE.frz : ∀ (is : List Nat) {ρ : Ev}, RE K B P H ρ σ → RE K B P H (frz is ρ) σ ∧ ∀ a, Own (WL.frz is ρ) σ a → Own ρ σ a
  | [], ρ, R => ⟨R, fun a h => h⟩
  | i :: is, ρ, R => by
    obtain ⟨R1, h1⟩ := RE.frz1 i R
    obtain ⟨R2, h2⟩ := RE.frz is R1
    exact ⟨R2, fun a h => h1 a (h2 a h)⟩
end
def wFrz (is : List Nat) (g : Ev → W Rs) : Ev → W Rs := fun ρ Q => g (frz is ρ) Q
def wFrzE {α : Type} (is : List Nat) (g : Ev → W α) : Ev → W α := fun ρ Q => g (frz is ρ) Q
section
variable {X : Cx} {m : Md} {s : Stmt} {ss : List Stmt} {e c : Expr} {g h : Ev → W Rs} {ge gf : Ev → W PyData} {gc : Ev → W Bool} {pos p1 p2 p3 : Pos} {x : Str} {i j : Nat}
theorem es_frz (is : List Nat) (a : ESt X m s g) : ESt X m s (wFrz is g) :=
  ⟨fun ρ _ _ i q => a.mono _ _ _ i q, a.ps.imp fun D σ H ⟨B, P, ρ, R, q⟩ => by
    obtain ⟨R', ho⟩ := R.frz is
    exact ⟨B, P, _, R', a.mono _ _ _ (fun r q => q.step ⟨(Fut.refl R.pots).own R, fun c z => .inl (ho c z)⟩) q⟩⟩

end

/-! ### append, extend, pop, x[k] = v -/
def wApp (i : Nat) (g : Ev → W PyData) : Ev → W Rs := fun ρ Q => ∃ ds, ρ[i]? = some (.ow ds) ∧ g ρ fun d => ds.length < sizeLine ∧ Q (.nx (ρ.set i (.ow (ds ++ [d]))))
def wExt (i : Nat) (g : Ev → W PyData) : Ev → W Rs := fun ρ Q => ∃ ds, ρ[i]? = some (.ow ds) ∧ g ρ fun d => ∃ es, d = .list es ∧ ds.length + es.length ≤ sizeLine ∧ Q (.nx (ρ.set i (.ow (ds ++ es))))
def wPut (i : Nat) (gk gv : Ev → W PyData) : Ev → W Rs := fun ρ Q => ∃ ds, ρ[i]? = some (.ow ds) ∧ gv ρ fun d => gk ρ fun k => ∃ n j, k = .int n ∧ ixN ds.length n = some j ∧ Q (.nx (ρ.set i (.ow (ds.set j d))))
/-- x.append(y.pop(k)) -/
def wAppPop (i j : Nat) (g : Ev → W PyData) : Ev → W Rs := fun ρ Q => ∃ ds es, i ≠ j ∧ ρ[i]? = some (.ow ds) ∧ ρ[j]? = some (.ow es) ∧ g ρ fun d => ∃ (n k : Nat) (y : PyData), d = .int n ∧ n = k ∧ es[k]? = some y ∧ es.length ≤ 2 ^ 62 ∧ ds.length < sizeLine ∧ Q (.nx ((ρ.set j (.ow (es.eraseIdx k))).set i (.ow (ds ++ [y]))))
/-- y = x.pop() -/
def wSetPop (i j : Nat) : Ev → W Rs := fun ρ Q => ∃ es y, ρ[j]? = some (.ow es) ∧ es[es.length - 1]? = some y ∧ Q (.nx ((ρ.set j (.ow es.dropLast)).set i (.sh y)))
section
variable {X : Cx} {m : Md} {e c st : Expr} {ge gf : Ev → W PyData} {pos p1 p2 p3 : Pos} {x : Str} {i j : Nat}
theorem es_append {call : Expr} (i : Nat) (he : EW X .S e ge) (hp : ∀ {t : TE}, PE X e t → PE X call (tBM X.K "list" rAppend (tVar i) (tCons t tNil))) (hs : swapsWith call none pos.line X.env = pure false := by rfl) : ESt X m (.Expr call pos) (wApp i ge) :=
  ⟨fun ρ _ _ i ⟨ds, e, q⟩ => ⟨ds, e, he.mono ρ _ _ (fun d ⟨z, q⟩ => ⟨z, i _ q⟩) q⟩, (ps_expr (hp he.pe) hs).imp fun D σ H ⟨B, P, ρ, R, ds, eds, q⟩ => by
    obtain ⟨a, vs, e1, e2, nb, np, r⟩ := R.ow i ds eds
    refine ⟨.ref a, e1, .inl ⟨rfl, vs, .inl (.inl e2)⟩, B, P, ρ, R, he.mono ρ _ _ (fun d ⟨z, q⟩ v P1 H1 f1 r1 => ?_) q⟩
    have R1 := R.fut f1
    obtain ⟨a', us, e1', e2', nb', np', r'⟩ := R1.ow i ds eds
    rw [e1] at e1'
    cases e1'
    obtain ⟨gr, R2⟩ := R1.chg eds e1 (r'.append (.one r1))
    exact ⟨a, us, v, rfl, rfl, e2', by rw [r'.len]; exact z, q σ P1 _ (Gr.after f1 R gr) R2⟩⟩
theorem es_extend {call : Expr} (i : Nat) (he : EW X .F e ge) (hp : ∀ {t : TE}, PE X e t → PE X call (tBM X.K "list" rExtend (tVar i) (tCons t tNil))) (hs : swapsWith call none pos.line X.env = pure false := by rfl) : ESt X m (.Expr call pos) (wExt i ge) :=
  ⟨fun ρ _ _ i ⟨ds, e, q⟩ => ⟨ds, e, he.mono ρ _ _ (fun d ⟨es, e, z, q⟩ => ⟨es, e, z, i _ q⟩) q⟩, (ps_expr (hp he.pe) hs).imp fun D σ H ⟨B, P, ρ, R, ds, eds, q⟩ => by
    obtain ⟨a, vs, e1, e2, nb, np, r⟩ := R.ow i ds eds
    refine ⟨.ref a, e1, .inl ⟨rfl, vs, .inl (.inl e2)⟩, B, P, ρ, R, he.mono ρ _ _ (fun d ⟨es, ee, z, q⟩ v P1 H1 f1 r1 => ?_) q⟩
    subst ee
    have R1 := R.fut f1
    obtain ⟨a', us, e1', e2', nb', np', r'⟩ := R1.ow i ds eds
    rw [e1] at e1'
    cases e1'
    obtain ⟨es', p, ws, ee, rfl, hp0, hp1, hpn, rp⟩ := r1
    cases ee
    obtain ⟨gr, R2⟩ := R1.chg eds e1 (r'.append (rp.anti fun b h => .inl h))
    exact ⟨a, p, us, ws, rfl, rfl, e2', hp1, by rw [r'.len, rp.len]; exact z, q σ P1 _ (Gr.after f1 R gr) R2⟩⟩
theorem es_put {s : Stmt} (i : Nat) (hk : EW X .B c gf) (he : EW X .S e ge) (hp : ∀ {tk tv : TE}, PE X c tk → PE X e tv → PS X s (tAsg tv (gSub (tVar i) tk rSetL))) : ESt X m s (wPut i gf ge) :=
  ⟨fun ρ _ _ i ⟨ds, e, q⟩ => ⟨ds, e, he.mono ρ _ _ (fun d q => hk.mono ρ _ _ (fun k ⟨n, j, a, b, q⟩ => ⟨n, j, a, b, i _ q⟩) q) q⟩, (hp hk.pe he.pe).imp fun D σ H ⟨B, P, ρ, R, ds, eds, q⟩ => by
    refine ⟨B, P, ρ, R, he.mono ρ _ _ (fun d q v P1 H1 f1 r1 => ?_) q⟩
    obtain ⟨a, vs, e1, e2, nb, np, r⟩ := R.ow i ds eds
    refine ⟨.ref a, e1, B, P1, ρ, R.fut f1, hk.mono ρ _ _ (fun k ⟨n, j, ek, ej, q⟩ u P2 H2 f2 r2 => ?_) q⟩
    subst ek
    obtain rfl := r2.int
    have f12 := f1.trans0 f2
    have R2 := R.fut f12
    obtain ⟨a', us, e1', e2', nb', np', r'⟩ := R2.ow i ds eds
    rw [e1] at e1'
    cases e1'
    obtain ⟨gr, R3⟩ := R2.chg eds e1 (RpA.set (Rp.fut0 f2 r1) j r')
    exact ⟨a, us, n, j, rfl, rfl, e2', by rw [r'.len]; exact ej, q σ P2 _ (Gr.after f12 R gr) R3⟩⟩
theorem es_appPop {call : Expr} (i j : Nat) (he : EW X .B e ge) (hp : ∀ {t : TE}, PE X e t → PE X call (tBM X.K "list" rAppend (tVar i) (tCons (tBM X.K "list" rPopAt (tVar j) (tCons t tNil)) tNil))) (hs : swapsWith call none pos.line X.env = pure false := by rfl) : ESt X m (.Expr call pos) (wAppPop i j ge) :=
  ⟨fun ρ _ _ i ⟨ds, es, n, e, e', q⟩ => ⟨ds, es, n, e, e', he.mono ρ _ _ (fun d ⟨n, k, y, a, b, c, d, z, q⟩ => ⟨n, k, y, a, b, c, d, z, i _ q⟩) q⟩, (ps_expr (hp he.pe) hs).imp fun D σ H ⟨B, P, ρ, R, ds, es, nij, eds, ees, q⟩ => by
    obtain ⟨a, vs, e1, e2, nb, np, r⟩ := R.ow i ds eds
    obtain ⟨b, ws, f1, f2, nb2, np2, r2⟩ := R.ow j es ees
    refine ⟨.ref a, e1, .inl ⟨rfl, vs, .inl (.inl e2)⟩, .ref b, f1, .inl ⟨rfl, ws, .inl (.inl f2)⟩, B, P, ρ, R, he.mono ρ _ _ (fun d ⟨n, k, y, ed, enk, ey, hz, hz2, q⟩ v P1 H1 fu r1 => ?_) q⟩
    subst ed
    obtain rfl := r1.int
    have R1 := R.fut fu
    obtain ⟨b', us, f1', f2', nb', np', r'⟩ := R1.ow j es ees
    rw [f1] at f1'
    cases f1'
    subst enk
    obtain ⟨yv, ey1, ry⟩ := r'.get ey
    obtain ⟨gr1, R2⟩ := R1.chg ees f1 (RpA.erase n r')
    have hn : n < es.length := by
      by_cases q : n < es.length
      · exact q
      · rw [List.getElem?_eq_none (by omega)] at ey; cases ey
    refine ⟨b, us, n, n, yv, rfl, rfl, f2', by omega, by omega, ?_, ey1, ?_⟩
    · have := ixN_seq (n := us.length) (i := (n : Int)) (j := n) (by unfold ixN; rw [if_pos (by omega), if_pos (by rw [r'.len]; omega)]; simp)
      exact this.1
    · have eds2 : (ρ.set j (.ow (es.eraseIdx n)))[i]? = some (.ow ds) := by rw [List.getElem?_set_ne (fun z => nij z.symm)]; exact eds
      obtain ⟨a', xs, g1, g2, nb3, np3, r3⟩ := R2.ow i ds eds2
      rw [e1] at g1
      cases g1
      have ry2 : Rp X.K (upd H1 b (.lst (us.eraseIdx n))) (Mo B (ρ.set j (.ow (es.eraseIdx n))) σ) P1 y yv := by
        have fp := Fut.put (o := .lst (us.eraseIdx n)) R1.pots f2' np'
        exact (ry.fut fp fun c z => by rw [z]; exact .inr (.inl ⟨j, es, ees, f1⟩)).anti fun c h => h.elim .inl fun h => .inr ((own_same ees c).mp h)
      obtain ⟨gr2, R3⟩ := R2.chg eds2 e1 (r3.append (.one ry2))
      exact ⟨a, xs, yv, rfl, rfl, g2, by rw [r3.len]; exact hz2, q σ P1 _ (Gr.after fu R (gr1.trans gr2)) R3⟩⟩
theorem es_setPop {s : Stmt} (i j : Nat) (hp : PS X s (tAsg (tBM0 X.K "list" rPop (tVar j)) (gName i))) : ESt X m s (wSetPop i j) :=
  ⟨fun ρ _ _ i ⟨es, y, a, b, q⟩ => ⟨es, y, a, b, i _ q⟩, hp.imp fun D σ H ⟨B, P, ρ, R, es, y, ees, ey, q⟩ => by
    obtain ⟨a, vs, e1, e2, nb, np, r⟩ := R.ow j es ees
    obtain ⟨yv, ey1, ry⟩ := r.get ey
    have hd : RpA X.K H (Mo B ρ σ) P es.dropLast vs.dropLast := by
      rw [List.dropLast_eq_take, List.dropLast_eq_take, r.len]
      exact r.take _
    obtain ⟨gr1, R2⟩ := R.chg ees e1 hd
    have fp := Fut.put (o := .lst vs.dropLast) R.pots e2 np
    have ry2 : Rp X.K (upd H a (.lst vs.dropLast)) (Mo B (ρ.set j (.ow es.dropLast)) σ) P y yv := (ry.fut fp fun c z => by rw [z]; exact .inr (.inl ⟨j, es, ees, e1⟩)).anti fun c h => h.elim .inl fun h => .inr ((own_same ees c).mp h)
    exact ⟨.ref a, e1, .inl ⟨rfl, vs, .inl (.inl e2)⟩, a, vs, yv, rfl, rfl, e2, by rw [r.len]; exact ey1, q _ P _ (gr1.trans ⟨(Fut.refl R2.pots).own R2, fun c h => .inl (own_set h)⟩) (R2.set ry2)⟩⟩
/-- y = [..] at one line, y a plain local -/
theorem es_setLc {i : Nat} {y : Str} {py : Pos} {elt tg iter : Expr} {ifs : List Expr} {scope : Scope} {own : List (Str × Nat)} {pos spos : Pos} {gi : Ev → W (List PyData)} {st : Set1} {is : List Nat} {c : Ev → W Bool} {g : Ev → W PyData} (hc : X.calm = true) (hN : X.N.Nodup) (hy : X.N[i]? = some y) (hyl : X.env.scope.names.lookup y = some .local)
    (hsw : swapsWith (.ListComp elt [⟨tg, iter, ifs, 0⟩] scope pos) (some (.Name y py)) spos.line X.env = pure true) (hi : EI X tg iter gi) (ok : BlkOk X.N X.env.scope scope own)
    (hg : ∀ (s : Shared) (H : Hp) (C : Addr) (cl : List (Str × Addr)) (fp : List Addr), EG (X.blk s H scope (compEnvC scope cl C X.env) fp) tg st is)
    (ht : ∀ (s : Shared) (H : Hp) (C : Addr) (cl : List (Str × Addr)) (fp : List Addr), EC (X.blk s H scope (compEnvC scope cl C X.env) fp) ifs c)
    (he : ∀ (s : Shared) (H : Hp) (C : Addr) (cl : List (Str × Addr)) (fp : List Addr), EW (X.blk s H scope (compEnvC scope cl C X.env) fp) .S elt g)
    (his : ∀ i ∈ is, i ∈ own.map (·.2) := by decide) (hs : ∀ x, foldedSetIterable iter X.env x = pure x := by intro _; rfl) :
    ESt X m (.Assign [.Name y py] (.ListComp elt [⟨tg, iter, ifs, 0⟩] scope pos) spos) (wSetF i (wLc (own.map (·.2)) gi st c g)) := by
  have mg : Mono (wLc (own.map (·.2)) gi st c g) := mono_wLc hi.mono (ht {} (fun _ => none) 0 [] []).mono (he {} (fun _ => none) 0 [] []).mono
  refine ⟨fun ρ _ _ i q => mg ρ _ _ (fun _ ⟨ds, e, q⟩ => ⟨ds, e, i _ q⟩) q,
    (ps_setLc (i := i) (g := tG X.K st is) (tt := tWb X.K c) (te := tW X.K .S g) hc hN hy hyl hsw hi.pi ok (fun s H C cl fp => (hg s H C cl fp).pg) (fun s H C cl fp => (ht s H C cl fp).pts) (fun s H C cl fp => (he s H C cl fp).pe) hs).imp fun D σ H ⟨B, P, ρ, R, q⟩ => ?_⟩
  refine lc_imp hc hN hi ok hg ht he his σ H _ ⟨B, P, ρ, R, mg ρ _ _ (fun d ⟨ds, e, q⟩ v P' H' f r => ?_) q⟩
  subst e
  by_cases hl : i < ρ.length
  · exact store_F R hl f r q
  · have e1 : ρ.set i (.ow ds) = ρ := List.set_eq_of_length_le (by omega)
    have e2 : σ.set i (some v) = σ := List.set_eq_of_length_le (by rw [← R.len]; omega)
    show D.nx (σ.set i (some v)) H'
    rw [e2]
    rw [e1] at q
    exact q σ P' H' ((Gr.refl (R.fut f)).after f R) (R.fut f)
end

/-! ### while -/
def wWhile (c : Ev → W Bool) (g : Ev → W Rs) : Nat → Ev → W Rs
  | 0, _, _ => False
  | n + 1, ρ, Q => c ρ fun b => if b = true then g ρ (fun r => match r with
      | .nx ρ2 => wWhile c g n ρ2 Q
      | .ct ρ2 => wWhile c g n ρ2 Q
      | .bk ρ2 => Q (.nx ρ2)
      | .rt d => Q (.rt d)) else Q (.nx ρ)
def wWh (c : Ev → W Bool) (g : Ev → W Rs) : Ev → W Rs := fun ρ Q => ∃ n, wWhile c g n ρ Q
theorem mono_wWhile {c : Ev → W Bool} {g : Ev → W Rs} (hc : Mono c) (hg : Mono g) : ∀ (n : Nat) (ρ : Ev) (Q Q' : Rs → Prop), (∀ r, Q r → Q' r) → wWhile c g n ρ Q → wWhile c g n ρ Q'
  | 0, _, _, _, _, q => q.elim
  | n + 1, ρ, Q, Q', i, q => hc ρ _ _ (fun b q => ite_mono (fun q => hg ρ _ _ (fun r q => by
    cases r with
    | nx ρ2 => exact mono_wWhile hc hg n ρ2 _ _ i q
    | ct ρ2 => exact mono_wWhile hc hg n ρ2 _ _ i q
    | bk ρ2 => exact i _ q
    | rt d => exact i _ q) q) (i _) q) q
section
variable {X : Cx} {m : Md} {e c : Expr} {g : Ev → W Rs} {gc : Ev → W Bool} {pos : Pos}
theorem es_while {body : List Stmt} (hp : PassesOwn (model X.prog X.w) X.A X.env X.xe) (hc : EB X c gc) (hb : ESs X m body g) : ESt X m (.While c body [] pos) (wWh gc g) := by
  refine ⟨fun ρ _ _ i ⟨n, q⟩ => ⟨n, mono_wWhile hc.mono hb.mono n ρ _ _ i q⟩, (ps_while hp hc.pt hb.pss).imp fun D σ H ⟨B, P, ρ, R, n, q⟩ => ?_⟩
  refine ⟨fun k σ2 H2 => ∃ P2 ρ2, Gr ρ σ P H ρ2 σ2 P2 H2 ∧ RE X.K B P2 H2 ρ2 σ2 ∧ wWhile gc g k ρ2 (Post X.K m D B P H ρ σ), ⟨n, P, ρ, .refl R, R, q⟩, ?_⟩
  rintro k σ2 H2 ⟨P2, ρ2, gr, R2, q⟩
  cases k with
  | zero => exact q.elim
  | succ k =>
    refine ⟨B, P2, ρ2, R2, hc.mono ρ2 _ _ (fun b q P3 H3 f3 => ?_) q⟩
    have R3 := R2.fut f3
    have gr3 : Gr ρ σ P H ρ2 σ2 P3 H3 := gr.trans ((Gr.refl R3).after f3 R2)
    refine ite_mono (fun q => ?_) (fun q => q σ2 P3 H3 gr3 R3) q
    refine ⟨fun σ' H' => ∃ P2 ρ2, Gr ρ σ P H ρ2 σ' P2 H' ∧ RE X.K B P2 H' ρ2 σ' ∧ wWhile gc g k ρ2 (Post X.K m D B P H ρ σ), fun σ' H' w => ⟨k, Nat.lt_succ_self k, w⟩, B, P3, ρ2, R3, hb.mono ρ2 _ _ (fun r q => ?_) q⟩
    cases r with
    | nx ρ5 => exact fun σ5 P5 H5 g5 R5 => ⟨P5, ρ5, gr3.trans g5, R5, q⟩
    | ct ρ5 => exact fun σ5 P5 H5 g5 R5 => ⟨P5, ρ5, gr3.trans g5, R5, q⟩
    | bk ρ5 => exact fun σ5 P5 H5 g5 R5 => q σ5 P5 H5 (gr3.trans g5) R5
    | rt d => exact (Post.step gr3 q : Post X.K m D B P3 H3 ρ2 σ2 (.rt d))
end
end WL

namespace WL
open PySem PySem.Spec PyProof.Rows L2

/-! ### defs -/
abbrev Fn := List PyData → W PyData
def MonoF (g : Fn) : Prop := ∀ ds (Q Q' : PyData → Prop), (∀ a, Q a → Q' a) → g ds Q → g ds Q'
/-- what a def promises: n arguments, its answer by g -/
def spW (K : PySem.W.Frag) (m : Md) (n : Nat) (g : Fn) : Sp := fun vs H Q _ => ∃ M P ds, (∀ a, M a → (H a).isSome = true) ∧ PotsOk P H ∧ RpA K H M P ds vs ∧ ds.length = n ∧
  g ds fun d => ∀ v P' H', Fut S0 P H P' H' → RM m K M H P' H' d v → Q v H'
/-- a def's promise where no repr is under way: as FnOk, for such callers alone -/
structure FnG (P : Program) (w : World) (K : PySem.W.Frag) (mg : Str → Option Value) (base : Heap) (CX : CXT) (k : Nat) (f : Addr) (fd : FuncData) (ps : List Str) (sp : Sp) : Prop where
  len : ∀ vs H Q E, sp vs H Q E → vs.length = ps.length
  run : ∀ (A : Around) (outer : List Env) (s : Shared) (H : Hp) (args : Args) (us : List Value) (vs : List V) (Q : VK) (E : XK), Room k A → A.guards = some [] → Env0 P w K mg base A outer s H → BindsTo s fd args (ps.zip us) → Vals vs us → sp vs H Q E →
    codeAny (model P w) A (.call (.ref f) args) (CR CX outer P w H s Q E) s
theorem FnG.mono {P : Program} {w : World} {K : PySem.W.Frag} {mg : Str → Option Value} {base : Heap} {CX : CXT} {j k : Nat} {f : Addr} {fd : FuncData} {ps : List Str} {sp : Sp} (F : FnG P w K mg base CX j f fd ps sp) (h : j ≤ k) : FnG P w K mg base CX k f fd ps sp :=
  ⟨F.len, fun A outer s H args us vs Q E hr => F.run A outer s H args us vs Q E (hr.mono h)⟩
theorem fnG_of {CX : CXT} {P : Program} {w : World} {K : PySem.W.Frag} {mg : Str → Option Value} {base : Heap} {k : Nat} {x qual : Str} {st : Stmt} {f : Addr} {fd : FuncData} {N ps : List Str} {sp : Sp} (F : Fun K x qual st f fd) (S : FnScope N ps (defScope st))
    (len : ∀ vs H Q E, sp vs H Q E → vs.length = ps.length)
    (hbody : ∀ (cdv : Value) (A : Around) (outer : List Env) (s : Shared) (H : Hp) (vs : List V) (Q : VK) (E : XK), Room k (A.deeper (envOfC qual (defScope st) s.heap.objs.size f cdv)) → A.guards = some [] → sp vs H Q E →
      ∃ t, PSs (cxOf CX P w K mg base N qual (defScope st) f cdv A outer s H E) (defBody st) t ∧ t { nx := fun _ H' => Q .non H', rt := Q } (L2.start N vs) H) :
    FnG P w K mg base CX (k + 1) f fd ps sp := by
  obtain ⟨oc, od, kV, doc, pm, an, cdv, ct, osl, rfl, lk, hcd⟩ := F.ex
  refine ⟨len, fun A outer s H args us vs Q E hr hgd e0 hb r hsp => ?_⟩
  have hl := len vs H Q E hsp
  have keepB : ∀ b o, base.get? b = some o → s.heap.get? b = some o := fun b o z => (e0.bs b o z).1
  have KX : K.In s.heap := e0.mod.kin.keeps keepB
  refine codeAny_call_function hr.depth (KX _ _ lk) rfl S.co S.gen rfl (PySem.W.codeRec_of KX hcd) (hb _ _ _ _ ?_)
  have hk : ∀ y ∈ ps.zip us, (defScope st).names.lookup y.1 = some .local ∨ ((defScope st).names.lookup y.1 = some .cell ∧ ((cellsFrom (s.heap.objs.size + 1) (defScope st).names []).lookup y.1).isSome = true) := fun ⟨n, v⟩ hy =>
    (S.par n (List.of_mem_zip hy).1).elim .inl fun q => .inr ⟨q, PySem.W.cellsFrom_some _ _ _ (.inl q)⟩
  refine wpAny_newFunctionEnv_cells S.kind hk fun env he s1 xc => ?_
  subst he
  refine ⟨(e0.mod.nolimit.keeps keepB).keeps xc.toInCall.keep, codeAny_func ?_⟩
  obtain ⟨t, ht, hq⟩ := hbody cdv A outer s H vs Q E (hr.deeper _) hgd hsp
  refine wpAny_mono (ht.run [] s1 (L2.start N vs) H _ (inv_start S hr.hd e0 hl r xc) hq) (fun fl s' hs => ?_) fun _ _ z => z
  cases fl with
  | ret u => obtain ⟨v, σ', H', J, rv, q⟩ := hs; exact ⟨v, H', J.os, J.bare, J.base, J.hok, rv, q⟩
  | next => obtain ⟨σ', H', J, q⟩ := hs; exact ⟨V.non, H', J.os, J.bare, J.base, J.hok, rfl, q⟩
  | brk => obtain ⟨_, _, _, q⟩ := hs; exact q.elim
  | cont => obtain ⟨_, _, _, q⟩ := hs; exact q.elim
theorem runG {X : Cx} {CX : CXT} {k : Nat} {f : Addr} {fd : FuncData} {ps : List Str} {sp : Sp} {E : XK} {args : Args} {pins : List (Addr × Obj)} {σ : L2.St} {H : Hp} {s : Shared} {Q : VK} {us : List Value} {vs : List V} (F : FnG X.prog X.w X.K X.mg X.base CX k f fd ps sp) (hr : Room k X.A) (hgd : X.A.guards = some [])
    (hb : BindsTo s fd args (ps.zip us)) (hx : Passes CX X E) (I : Inv X pins σ H s) (r : Vals vs us) (h : sp vs H Q E) : codeAny (model X.prog X.w) X.A (.call (.ref f) args) (fun r s' => match r with
      | .ok (.ret u) => EP X pins σ Q u s'
      | .ok _ => False
      | .error e => X.xe e s') s := by
  refine codeAny_mono (F.run X.A X.stack s H args us vs Q E hr hgd I.env0 hb r h) fun res s' hq => ?_
  cases res with
  | error e => exact hx pins σ H s e s' I hq
  | ok fl =>
    cases fl with
    | ret u => exact I.after hq
    | next => exact hq.elim
    | brk => exact hq.elim
    | cont => exact hq.elim
/-- a def at its level -/
structure FnW (P : Program) (w : World) (K : PySem.W.Frag) (mg : Str → Option Value) (base : Heap) (k : Nat) (x : Str) (ps : List Str) (m : Md) (g : Fn) : Prop where
  mono : MonoF g
  ok : ∃ f fd, mg x = some (.ref f) ∧ PySem.W.keepIn K (.ref f) = true ∧ Binds K fd ps [] ∧ FnG P w K mg base CX0 k f fd ps (spW K m ps.length g)
theorem FnW.up {P : Program} {w : World} {K : PySem.W.Frag} {mg : Str → Option Value} {base : Heap} {j k : Nat} {x : Str} {ps : List Str} {m : Md} {g : Fn} (F : FnW P w K mg base j x ps m g) (h : j ≤ k) : FnW P w K mg base k x ps m g := by
  obtain ⟨mo, f, fd, a, b, c, d⟩ := F
  exact ⟨mo, f, fd, a, b, c, d.mono h⟩
/-- a body's end -/
def endB (m : Md) (Q : PyData → Prop) : Rs → Prop
  | .rt d => Q d
  | .nx _ => m = .S ∧ Q .none
  | _ => False
/-- the parameters' values, the other names empty -/
def args (n : Nat) (ds : List PyData) : Ev := ds.map Sl.sh ++ List.replicate (n - ds.length) Sl.no
def gBody (m : Md) (n : Nat) (g : Ev → W Rs) : Fn := fun ds Q => ∃ R : Rs → Prop, g (args n ds) R ∧ ∀ r, R r → endB m Q r
theorem endB_mono {m : Md} {Q Q' : PyData → Prop} (i : ∀ d, Q d → Q' d) : ∀ r, endB m Q r → endB m Q' r
  | .rt d, q => i d q
  | .nx _, q => ⟨q.1, i _ q.2⟩
  | .bk _, q => q
  | .ct _, q => q
theorem mono_gBody {m : Md} {n : Nat} {g : Ev → W Rs} : MonoF (gBody m n g) := fun ds _ _ i ⟨R, h, q⟩ => ⟨R, h, fun r z => endB_mono i r (q r z)⟩
theorem gBody_of {m : Md} {n : Nat} {g : Ev → W Rs} {ds : List PyData} {Q : PyData → Prop} (h : g (args n ds) (endB m Q)) : gBody m n g ds Q := ⟨_, h, fun _ z => z⟩
section
variable {K : PySem.W.Frag} {M P : Addr → Prop} {H : Hp}
theorem get_args {n : Nat} {ds : List PyData} {i : Nat} {s : Sl} (h : (args n ds)[i]? = some s) : (∃ d, ds[i]? = some d ∧ s = .sh d) ∨ s = .no := by
  unfold args at h
  by_cases e : i < ds.length
  · rw [List.getElem?_append_left (by rw [List.length_map]; exact e), List.getElem?_map] at h
    rw [List.getElem?_eq_getElem e] at h
    cases h
    exact .inl ⟨ds[i], List.getElem?_eq_getElem e, rfl⟩
  · rw [List.getElem?_append_right (by rw [List.length_map]; omega), List.getElem?_replicate] at h
    split at h
    · cases h; exact .inr rfl
    · cases h
theorem RE.enter {N : List Str} {ds : List PyData} {vs : List V} (po : PotsOk P H) (mt : ∀ a, M a → (H a).isSome = true) (r : RpA K H M P ds vs) (hl : ds.length ≤ N.length) : RE K M P H (args N.length ds) (start N vs) ∧ ∀ a, ¬ Own (args N.length ds) (start N vs) a := by
  have no : ∀ (i : Nat) (es : List PyData), (args N.length ds)[i]? ≠ some (.ow es) := fun i es h => by
    rcases get_args h with ⟨d, _, e⟩ | e <;> cases e
  have nn : ∀ (i : Nat) (a : Addr) (bs : List Addr) (dss : List (List PyData)), (args N.length ds)[i]? ≠ some (.ns a bs dss) := fun i a bs dss h => by
    rcases get_args h with ⟨d, _, e⟩ | e <;> cases e
  have nown : ∀ a, ¬ Own (args N.length ds) (start N vs) a := fun a h => by
    rcases h with ⟨i, es, h, _⟩ | ⟨i, x, bs, dss, h, _⟩
    · exact no i es h
    · exact nn i x bs dss h
  refine ⟨⟨?_, mt, po, fun i d h => ?_, fun i es h => absurd h (no i es), fun i j es fs a h _ _ _ => absurd h (no i es), fun i a bs dss h => absurd h (nn i a bs dss), fun i a bs dss _ _ _ h => absurd h (nn i a bs dss), fun i _ a _ bs _ dss _ h => absurd h (nn i a bs dss)⟩, nown⟩
  · unfold args L2.start
    rw [List.length_append, List.length_append, List.length_map, List.length_map, List.length_replicate, List.length_replicate, r.len]
  · rcases get_args h with ⟨d', e, e'⟩ | e
    · cases e'
      obtain ⟨v, ev, rv⟩ := r.get e
      have hi : i < vs.length := by
        by_cases q : i < vs.length
        · exact q
        · rw [List.getElem?_eq_none (by omega)] at ev; cases ev
      refine ⟨v, ?_, rv.anti fun a h => ?_⟩
      · unfold L2.start
        rw [List.getElem?_append_left (by rw [List.length_map]; exact hi), List.getElem?_map, ev]
        rfl
      · rcases h with h | h
        · exact h
        · exact absurd h (nown a)
    · cases e
end
section
variable {P : Program} {w : World} {K : PySem.W.Frag} {mg : Str → Option Value} {base : Heap}
/-- THE RULE for a def -/
theorem fnG_body {x qual : Str} {st : Stmt} {f : Addr} {fd : FuncData} {N ps : List Str} {k : Nat} {m : Md} {g : Ev → W Rs} (F : Fun K x qual st f fd) (S : FnScope N ps (defScope st))
    (h : ∀ (cdv : Value) (A : Around) (outer : List Env) (s : Shared) (H : Hp) (E : XK), Room k (A.deeper (envOfC qual (defScope st) s.heap.objs.size f cdv)) → A.guards = some [] → ESs (cxOf CX0 P w K mg base N qual (defScope st) f cdv A outer s H E).nox m (defBody st) g) :
    FnG P w K mg base CX0 (k + 1) f fd ps (spW K m ps.length (gBody m N.length g)) := by
  refine fnG_of F S (fun vs H Q E hsp => ?_) fun cdv A outer s H vs Q E hr hgd hsp => ?_
  · obtain ⟨M, Pt, ds, _, _, r, e, _⟩ := hsp
    rw [r.len, e]
  · obtain ⟨M, Pt, ds, mt, po, r, e, q⟩ := hsp
    have hB := h cdv A outer s H E hr hgd
    have hpl : ps.length ≤ N.length := by
      have := congrArg List.length S.pre
      rw [List.length_take] at this
      omega
    obtain ⟨R, no⟩ := RE.enter (N := N) po mt r (by omega)
    obtain ⟨Rq, q, hRq⟩ := q
    refine ⟨_, hB.pss.nox, M, Pt, _, R, hB.mono _ _ _ (fun rs z => ?_) q⟩
    have q := hRq rs z
    have hf : ∀ {P' : Addr → Prop} {H' : Hp}, Fut (Own (args N.length ds) (start N vs)) Pt H P' H' → Fut S0 Pt H P' H' := fun f => f.mono (fun c z => (no c z).elim) fun _ z => z.elim
    cases rs with
    | rt d =>
      refine fun v P' H' f rr => q v P' H' (hf f) ?_
      cases m with
      | S => exact rr
      | B => exact .inl rr
      | F =>
        obtain ⟨ds', p, us, e1, e2, h0, e3, n, ra⟩ := rr
        exact ⟨ds', p, us, e1, e2, h0.elim id fun z => (no p z).elim, e3, n, ra⟩
    | nx ρ =>
      obtain ⟨rfl, q⟩ := q
      exact fun σ' P' H' gr R' => q .non P' H' (hf gr.fut) rfl
    | bk ρ => exact q.elim
    | ct ρ => exact q.elim

theorem fnW_of {x qual : Str} {st : Stmt} {f : Addr} {fd : FuncData} {N ps : List Str} {k : Nat} {m : Md} {g : Ev → W Rs} (F : Fun K x qual st f fd) (hm : mg x = some (.ref f)) (hb : Binds K fd ps [])
    (h : FnG P w K mg base CX0 (k + 1) f fd ps (spW K m ps.length (gBody m N.length g))) :
    FnW P w K mg base (k + 1) x ps m (gBody m N.length g) := ⟨mono_gBody, f, fd, hm, F.kp, hb, h⟩

/-! ### calls -/
def wCall (n : Nat) (g : Fn) (gs : Ev → W (List PyData)) : Ev → W PyData := fun ρ Q => gs ρ fun ds => ds.length = n ∧ g ds Q
theorem mono_wCall {n : Nat} {g : Fn} {gs : Ev → W (List PyData)} (h : MonoF g) (h' : Mono gs) : Mono (wCall n g gs) := fun ρ _ _ i q => h' ρ _ _ (fun ds ⟨e, q⟩ => ⟨e, h ds _ _ i q⟩) q
theorem RM.ofM {m : Md} {K : PySem.W.Frag} {M : Addr → Prop} {H H' H0 : Hp} {P P' : Addr → Prop} {d : PyData} {v : V} (h : RM m K M H P' H' d v) : RM m K M H P' H' d v := h
section
variable {X : Cx} {k j : Nat} {x : Str} {ps : List Str} {m : Md} {g : Fn} {gs : Ev → W (List PyData)} {e : Expr} {es : List Expr} {p pos : Pos}
theorem ew_call {n : Nat} (F : FnW X.prog X.w X.K X.mg X.base k x ps m g) (hr : Room j X.A) (hgd : X.A.guards = some []) (hk : k ≤ j) (hg : Gl X x) (ha : EA X (e :: es) gs) (hdb : (x == ("__debug__" : Str)) = false := by decide)
    (he : starEach (e :: es) X.env = (false, eval e X.env) :: starEach es X.env := by rfl) (hpl : (backTo pos (starEach es X.env)).any (·.1) = false := by rfl) (hn : ps.length = n := by rfl) : EW X m (.Call (.Name x p) (e :: es) [] pos) (wCall n g gs) := by
  subst hn
  obtain ⟨mo, f, fd, hm, kp, hb, ok⟩ := F
  refine ⟨mono_wCall mo ha.mono, ⟨fun pins s σ H Q I ⟨B, P, ρ, R, q⟩ => ?_⟩⟩
  refine wpAny_Call_Name_kw (ld_glob I hg hm ?_ hdb)
  have ta : tWa X.K gs σ H fun vs H1 => vs.length = ps.length ∧ spW X.K m ps.length g vs H1 Q E0 := ⟨B, P, ρ, R, ha.mono ρ _ _ (fun ds ⟨el, q⟩ vs P1 H1 f1 r1 => ⟨by rw [r1.len, el],
    Mo B ρ σ, P1, ds, fun a h => (R.fut f1).mtrk h, f1.ok', r1, el, mo ds _ _ (fun d q v P2 H2 f2 r2 => q v P2 H2 (f1.trans0 f2) (r2.back f1)) q⟩) q⟩
  refine PySem.W.callWith_K (h₀ := X.base) I.ok.mod.kin kp (thn (ha.pa.run pos pins s σ H _ I ta) fun us s1 ⟨vs, H1, I1, r, hl, q1⟩ => ⟨I1.kIn, ?_⟩) he hpl
  refine wpAny_call (codeAny_mono (runG ok (hr.mono hk) hgd (us := us) (by
    have := hb s1 us I1.kIn (by rw [List.append_nil, ← r.length]; exact hl)
    rw [List.append_nil] at this
    exact this) pass0 I1 r q1) fun res s' z => ?_)
  cases res with
  | error e => exact z
  | ok fl => cases fl <;> first | exact z | exact z.elim
theorem ew_call0 (F : FnW X.prog X.w X.K X.mg X.base k x [] m g) (hr : Room j X.A) (hgd : X.A.guards = some []) (hk : k ≤ j) (hg : Gl X x) (hdb : (x == ("__debug__" : Str)) = false := by decide) : EW X m (.Call (.Name x p) [] [] pos) (wCall 0 g wNil) := by
  obtain ⟨mo, f, fd, hm, kp, hb, ok⟩ := F
  refine ⟨mono_wCall mo (fun _ _ _ i q => i _ q), ⟨fun pins s σ H Q I ⟨B, P, ρ, R, e, q⟩ => ?_⟩⟩
  refine wpAny_Call_Name_kw (ld_glob I hg hm ?_ hdb)
  have q1 : spW X.K m 0 g [] H Q E0 := ⟨Mo B ρ σ, P, [], fun a h => R.mtrk h, R.pots, rfl, rfl, mo _ _ _ (fun d q v P2 H2 f2 r2 => q v P2 H2 f2 r2) q⟩
  refine PySem.W.callWith_K0 I.kIn kp (wpAny_call (codeAny_mono (runG ok (hr.mono hk) hgd (us := []) (hb s [] I.kIn rfl) pass0 I .nil q1) fun res s' z => ?_))
  cases res with
  | error e => exact z
  | ok fl => cases fl <;> first | exact z | exact z.elim
end
end
end WL

namespace WL
open PySem PySem.Spec PyProof.Rows L2

/-! ### the law's own call -/
/-- the abstract heap at the law's entry: the script alone, locked -/
def scriptH (a : Addr) (o : Obj) (xs : List V) : Hp := fun b => if b = a then some (.frz o (.lst xs)) else none
theorem law_go {P : Program} {w : World} {K : PySem.W.Frag} {mg mb : Str → Option Value} {k : Nat} {fa a : Addr} {fd : FuncData} {x : Str} {g : Fn} {s : Shared} {vs : List Value} {ns : List Int} (hz : lawTabs = [])
    (KX : K.In s.heap) (hns : s.heap.Ns mainGlobals mg) (hb : s.heap.Ns builtinsNs mb) (hbb : ∀ x : Str, x ≠ "__name__" → mb x = bootBuiltins x) (hlim : s.heap.NoLimit) (hgen : s.gens = #[])
    (ha : s.heap.get? a = some { cls := .type "list", data := .seq vs.toArray }) (hi : IntsAre vs ns) (hl : ns.length ≤ sizeLine) (hr : Room k callerA)
    (F : ∀ base : Heap, K.In base → base.Ns mainGlobals mg → FnG P w K mg base CX0 k fa fd [x] (spW K .S 1 g)) (hbind : ∀ (s : Shared) (u : Value), BindsTo s fd ⟨[u], []⟩ [(x, u)])
    (hg : g [.list (ns.map PyData.int)] fun d => d = .bool true) (mo : MonoF g) :
    codeAny (model P w) callerA (.call (.ref fa) ⟨[.ref a], []⟩) (fun r s' => r = .ok (.ret (.bool true)) ∧ OldK s.heap s'.heap ∧ s'.os = s.os ∧ AllBare s'.gens) s := by
  have rv := vals_ints hi
  have lenV := hi.length
  have rints : ∀ (K : PySem.W.Frag) (H : Hp) (M Pt : Addr → Prop) (ns : List Int), RpA K H M Pt (ns.map PyData.int) (ns.map V.int) := fun K H M Pt ns => by
    induction ns with
    | nil => rfl
    | cons n r ih => exact ⟨_, _, rfl, rfl, ih⟩
  have main : ∀ H : Hp, (∀ b, H b = none ∨ ∃ o xs, H b = some (.frz o (.lst xs))) → LAt K H S0 S0 a (ns.map V.int) → HOk P w H s.heap → (∀ b, H b ≠ none → b = a) → (H a ≠ none → K.lookup a = none) →
      codeAny (model P w) callerA (.call (.ref fa) ⟨[.ref a], []⟩) (fun r s' => r = .ok (.ret (.bool true)) ∧ OldK s.heap s'.heap ∧ s'.os = s.os ∧ AllBare s'.gens) s := by
    intro H hO hS hok hA hK
    have isA : ∀ {b : Addr} {u : HO}, H b = some u → b = a := fun q => hA _ (by rw [q]; exact fun z => nomatch z)
    have dicts : ∀ {b : Addr} {m : Str → Option Value}, s.heap.Ns b m → (hidT s.heap H).Ns b m := fun {b m} ⟨o, es, ep, e, d, r⟩ => by
      refine ⟨o, es, ep, hidT_get e ?_, d, r⟩
      cases q : H b with
      | none => rfl
      | some u =>
        rw [isA q, ha] at e
        cases e
        have z : Data.seq vs.toArray _ = Data.dict es ep := d
        cases z
    have hKb : K.In (hidT s.heap H) := fun b o e => hidT_get (KX b o e) (by
      cases q : H b with
      | none => rfl
      | some u =>
        have := isA q
        rw [this] at e q
        rw [hK (by rw [q]; exact fun z => nomatch z)] at e
        cases e)
    obtain ⟨mc, l1, l2⟩ := hlim
    have hM : Mod K mg (hidT s.heap H) := ⟨hKb, dicts hns, ⟨mb, dicts hb, hbb⟩, mc, dicts l1, l2⟩
    have e0 : Env0 P w K mg (hidT s.heap H) callerA [] s H := ⟨rfl, hM, fun b o e => of_hidT e, Nat.le_of_eq (hidT_size _ _), trivial, fun b hb => (nomatch (show b ∈ ([] : List Addr) from hb)), hok, .of_eq hgen⟩
    have hsp : spW K .S 1 g [.ref a] H (fun v _ => v = .bl true) fun _ _ _ => False := by
      refine ⟨S0, S0, [.list (ns.map PyData.int)], fun _ z => z.elim, ⟨fun _ z => z.elim, by rw [hz]; exact fun _ z => nomatch z⟩, ⟨_, _, rfl, ⟨a, _, rfl, hS, rints K H S0 S0 ns⟩, rfl⟩, rfl, mo _ _ _ (fun d e v P' H' _ r => ?_) hg⟩
      subst e
      exact r
    refine codeAny_mono ((F _ hKb (dicts hns)).run callerA [] s H ⟨[.ref a], []⟩ [.ref a] [.ref a] _ _ hr rfl e0 (hbind s (.ref a)) (.cons rfl .nil) hsp) fun r s' h => ?_
    cases r with
    | error e => exact h.elim
    | ok fl =>
      cases fl with
      | next => exact False.elim h
      | brk => exact False.elim h
      | cont => exact False.elim h
      | ret u =>
        obtain ⟨v, H', os, bare, un, hok', r', q⟩ := h
        have q' : v = .bl true := q
        subst q'
        obtain rfl : u = Value.bool true := r'
        refine ⟨rfl, OldK.of_keep fun b o e => ?_, os, bare⟩
        have nil : b ∉ frs [] := fun z => nomatch (show b ∈ ([] : List Addr) from z)
        rcases hO b with z | ⟨ob, xs, z⟩
        · exact un.keep b o e z nil fun z => nomatch z
        · obtain ⟨e1, _⟩ := hok b _ z
          obtain ⟨e2, _⟩ := hok' b _ (un.frzs b ob _ z)
          rw [e] at e1
          cases e1
          exact e2
  cases hk : K.lookup a with
  | some o =>
    have e := KX a o hk
    rw [ha] at e
    cases e
    exact main (fun _ => none) (fun _ => .inl rfl) (.inr (.inr ⟨_, vs.toArray, _, hk, rfl, rfl, rfl, by rw [List.size_toArray, lenV]; exact hl, by simpa using rv⟩)) (fun b u z => nomatch (show (none : Option HO) = some u from z)) (fun b z => absurd rfl z) fun z => absurd rfl z
  | none =>
    refine main (scriptH a { cls := .type "list", data := .seq vs.toArray } (ns.map V.int)) (fun b => ?_) (.inr (.inl ⟨_, if_pos rfl⟩)) (fun b u z => ?_) (fun b z => ?_) fun _ => hk
    · by_cases hb : b = a
      · exact .inr ⟨_, _, if_pos hb⟩
      · exact .inl (if_neg hb)
    · by_cases hb : b = a
      · have z' := (if_pos hb).symm.trans z
        cases z'
        subst hb
        exact ⟨ha, by rw [List.length_map]; exact hl, vs, _, rv, ha⟩
      · exact nomatch (if_neg hb).symm.trans z
    · by_cases hb : b = a
      · exact hb
      · exact absurd (if_neg hb) z
/-- the goal that k_head leaves -/
theorem walk_ofG {l : PySem.W.OpenLaw} {k : Nat} {q : Program} {loose : List Str} {XP : (Str → Option Value) → Heap → Prop} {YP : World → Heap → Prop} {d : DefRec} {K : Params → PySem.W.Frag} {g : Fn} {x : Str}
    (hn : l.most = some 63) (hdf : d.params.defaults = []) (hr : Room k callerA) (hY : ∀ (w : World) (h : Heap), YP w h → (K w.params).In h)
    (F : ∀ (w : World) (mg : Str → Option Value) (fa : Addr) (h : Heap), (K w.params).In h → h.Ns mainGlobals mg → mg d.name = some (.ref fa) →
      ∃ fd : FuncData, (∀ (s : Shared) (u : Value), BindsTo s fd ⟨[u], []⟩ [(x, u)]) ∧ ∀ base : Heap, (K w.params).In base → base.Ns mainGlobals mg → FnG l.prog w (K w.params) mg base CX0 k fa fd [x] (spW (K w.params) .S 1 g))
    (mo : MonoF g) (hg : ∀ ns : List Int, ns.length ≤ 63 → g [.list (ns.map PyData.int)] fun d => d = .bool true) (hz : lawTabs = [] := by rfl) :
    PySem.W.WalkO q loose XP YP l.row.toRowW d [] (fun f vs => PySem.call f vs) := by
  refine Att.attach_call hn hdf fun w s₀ s₁ mg mb fa o pm cd doc a vs ns G Y ho hd hcd hmg hobj hints hlen hgen => ?_
  have KX := hY w _ Y
  obtain ⟨fd, hb, hF⟩ := F w mg fa _ KX G.T.g hmg
  exact law_go hz KX G.T.g G.T.b G.T.builtins G.T.nolimit hgen hobj hints (Nat.le_trans hlen (by decide)) hr hF hb (hg ns hlen) mo
end WL

namespace WL
open PySem PySem.Spec PyProof.Rows L2

/-! ### repr -/
section
variable {X : Cx} {pins : List (Addr × Obj)} {σ : L2.St} {H : Hp} {s : Shared} {M P : Addr → Prop}
abbrev Rr (X : Cx) (s : Shared) (d : PyData) (u : Value) : Prop := ∃ bs, ReadAtMost s.heap d.depth bs ∧ ReprK X.prog X.w bs s.heap d.depth u d.shown
abbrev RrA (X : Cx) (s : Shared) (ds : List PyData) (us : List Value) : Prop := ∃ bs, ReadAtMost s.heap (PyData.depthAll ds) bs ∧ ReprAllK X.prog X.w bs s.heap (PyData.depthAll ds) us (PyData.shownAll ds)
/-- an empty dict's object -/
theorem emptyDict {a : Addr} (I : Inv X pins σ H s) (l : H a = some (.dK [])) : (a == sysModules) = false ∧ ∃ o ep, s.heap.get? a = some o ∧ o.cls = .type "dict" ∧ o.data = .dict #[] ep := by
  obtain ⟨_, na, vs, kv, o, es, ep, ho, hc, hd, _, hp, _⟩ := I.hok a _ l
  cases kv
  have e : es.toList = [] := by
    revert hp
    generalize es.toList = l
    intro hp
    cases hp
    rfl
  obtain rfl : es = #[] := Array.toList_inj.mp e
  exact ⟨na, o, ep, ho, hc.1, hd⟩
mutual
theorem Rp.repr (I : Inv X pins σ H s) : ∀ (d : PyData) (v : V) (u : Value), plain d = true → d.showable = true → d.shown.length ≤ sizeLine → Rp X.K H M P d v → RelV v u → Rr X s d u
  | .none, _, _, _, sh, z, h, r => by
    subst h
    cases r
    exact ReprK.of_reads .none sh (fun e => nomatch e) z
  | .bool b, _, _, _, sh, z, h, r => by
    subst h
    cases r
    exact ReprK.of_reads (.bool b) sh (fun e => nomatch e) z
  | .int i, _, _, _, sh, z, h, r => by
    subst h
    obtain ⟨t, rfl⟩ := r
    exact ReprK.of_reads (.int i t) sh (fun e => nomatch e) z
  | .str x, _, _, _, sh, z, h, r => by
    subst h
    obtain ⟨t, rfl⟩ := r
    exact ReprK.of_reads (.str x t) sh (fun e => nomatch e) z
  | .list ds, _, _, p, sh, z, h, r => by
    obtain ⟨a, vs, rfl, hs, ha⟩ := h
    cases r
    obtain ⟨its, rv, ⟨o, n, ho, hc, _, hd⟩, _⟩ := I.list hs.sq
    have z' : (listText (PyData.shownAll ds)).length ≤ sizeLine := by simpa only [PyData.shown] using z
    obtain ⟨bs, hb, hk⟩ := RpA.repr I ds _ its p (by simpa [PyData.showable] using sh) (fun t ht => Nat.le_trans (listText_mem_le ht) z') ha rv
    obtain ⟨as, hr⟩ := RpA.reads I ds _ its p ha rv
    have rr : Reads s.heap (.ref a) (.list ds) _ := .list ho hc hd hr
    have nm : a ∉ bs := not_mem_of_deeper rr (by simp only [PyData.depth]; omega) hb
    refine ⟨a :: bs, ReadAtMost.cons rr (by simp only [PyData.depth]; omega) hb, ?_⟩
    simp only [PyData.depth, PyData.shown]
    cases its with
    | nil =>
      cases hr
      simp only [PyData.shownAll, listText_nil]
      exact .listEmpty ho hc hd
    | cons y l => exact .list ho hc hd nm (by simpa using hk.length_eq) fun i y e => hk.item i y (by simpa using e)
  | .tuple ds, _, _, p, sh, z, h, r => by
    obtain ⟨a, vs, rfl, hs, ha⟩ := h
    cases r
    obtain ⟨its, rv, ⟨o, ho, hc, n, hd⟩, _⟩ := I.tuple hs.sq
    have z' : (tupleText (PyData.shownAll ds)).length ≤ sizeLine := by simpa only [PyData.shown] using z
    obtain ⟨bs, hb, hk⟩ := RpA.repr I ds _ its p (by simpa [PyData.showable] using sh) (fun t ht => Nat.le_trans (tupleText_mem_le ht) z') ha rv
    obtain ⟨as, hr⟩ := RpA.reads I ds _ its p ha rv
    have rr : Reads s.heap (.ref a) (.tuple ds) _ := .tuple ho hc hd hr
    have nm : a ∉ bs := not_mem_of_deeper rr (by simp only [PyData.depth]; omega) hb
    refine ⟨a :: bs, ReadAtMost.cons rr (by simp only [PyData.depth]; omega) hb, ?_⟩
    simp only [PyData.depth, PyData.shown]
    exact .tuple ho hc hd nm hk
  | .dict kvs, _, _, p, sh, z, h, r => by
    rcases h with ⟨ks, e0, a, rfl, l⟩ | ⟨rfl, _⟩ | hC
    · cases r
      cases kvs with
      | cons _ _ => exact nomatch p
      | nil =>
      cases e0
      obtain ⟨na, o, ep, ho, hc, hd⟩ := emptyDict I l
      have rr : Reads s.heap (.ref a) (.dict []) _ := .dict ho hc hd (by exact ReadsAll.nil) (by exact ReadsAll.nil)
      exact ReprK.of_reads rr sh (fun _ => by
        have := beq_eq_false_iff_ne.mp na
        simp only [List.append_nil, List.mem_singleton]
        exact fun e => this e.symm) z
    · exact nomatch p
    · cases kvs with
      | nil => exact hC.elim
      | cons _ _ => exact nomatch p
theorem RpA.repr (I : Inv X pins σ H s) : ∀ (ds : List PyData) (vs : List V) (us : List Value), plainA ds = true → PyData.showableAll ds = true → (∀ t ∈ PyData.shownAll ds, t.length ≤ sizeLine) → RpA X.K H M P ds vs → Vals vs us → RrA X s ds us
  | [], _, _, _, _, _, h, r => by
    subst h
    cases r
    exact ⟨[], (fun _ h => nomatch h), by simp only [PyData.shownAll]; exact .nil⟩
  | d :: ds, _, _, p, sh, z, h, r => by
    obtain ⟨v, vr, rfl, h1, h2⟩ := h
    have p : (plain d && plainA ds) = true := p
    rw [Bool.and_eq_true] at p
    have sh : d.showable = true ∧ PyData.showableAll ds = true := by simpa [PyData.showableAll] using sh
    simp only [PyData.shownAll, List.mem_cons, forall_eq_or_imp] at z
    cases r with
    | cons r1 r2 =>
      obtain ⟨b1, q1, k1⟩ := Rp.repr I d _ _ p.1 sh.1 z.1 h1 r1
      obtain ⟨b2, q2, k2⟩ := RpA.repr I ds _ _ p.2 sh.2 z.2 h2 r2
      refine ⟨b1 ++ b2, ?_, ?_⟩
      · simp only [PyData.depthAll]
        exact (q1.mono (Nat.le_max_left _ _)).append (q2.mono (Nat.le_max_right _ _))
      · simp only [PyData.depthAll, PyData.shownAll]
        exact .cons ((k1.more fun b hb => List.mem_append_left _ hb).level_le (Nat.le_max_left _ _)) (k2.more_le (fun b hb => List.mem_append_right _ hb) (Nat.le_max_right _ _))
end
def reprD (d : PyData) : Option PyData := if plain d = true ∧ d.showable = true ∧ d.depth ≤ 50 ∧ d.shown.length ≤ sizeLine then some (.str d.shown) else none
theorem call_list (hg : X.A.guards = some []) (hu : X.A.units + 64 < cLine) (I : Inv X pins σ H s) {a : Addr} {vs : List V} {ds : List PyData} {Q : VK} (hs : SqL X.K H a vs) (ha : RpA X.K H M P ds vs) (p : plain (.list ds) = true) (sh : (PyData.list ds).showable = true) (hdp : (PyData.list ds).depth ≤ 50) (z : (PyData.list ds).shown.length ≤ sizeLine)
    (q : Q (.str (PyData.list ds).shown) H) : wpAny (model X.prog X.w) X.A (call (.builtin "repr") [.ref a]) (EP X pins σ Q) X.xe s := by
  obtain ⟨its, rv, ⟨o, n, ho, hc, _, hd⟩, _⟩ := I.list hs
  have z' : (listText (PyData.shownAll ds)).length ≤ sizeLine := by simpa only [PyData.shown] using z
  obtain ⟨bs, hb, hk⟩ := RpA.repr I ds _ its p (by simpa [PyData.showable] using sh) (fun t ht => Nat.le_trans (listText_mem_le ht) z') ha rv
  obtain ⟨as, hr⟩ := RpA.reads I ds _ its p ha rv
  have rr : Reads s.heap (.ref a) (.list ds) _ := .list ho hc hd hr
  have nm : a ∉ bs := not_mem_of_deeper rr (by simp only [PyData.depth]; omega) hb
  simp only [PyData.depth] at hdp
  simp only [PyData.shown] at q
  refine call_repr_slot (T := "list") (idr := "list.__repr__") (by omega) ⟨o, ho, hc⟩ F.slot_list_repr.toG ?_
  cases its with
  | nil =>
    cases hr
    simp only [PyData.shownAll, listText_nil] at q
    exact call_list_repr_empty ⟨o, ho, hc⟩ ho hd ⟨_, _, rfl, .str _, H, I.kept (t' := s.toks + 1) fun _ _ e => e, ⟨_, rfl⟩, q⟩
  | cons y l =>
    exact call_list_reprK ho hc hd nm (by simpa using hk.length_eq) (fun i y e => hk.item i y (by simpa using e)) hg (fun b _ => Clear.nil b) (by show X.A.units + 1 + _ < cLine; omega) (fun _ _ e => e)
      (fun h' u tk k => ⟨_, _, rfl, .str _, H, I.kept (t' := tk) k, ⟨_, rfl⟩, q⟩) z'
theorem call_reprD (hg : X.A.guards = some []) (hu : X.A.units + 64 < cLine) (I : Inv X pins σ H s) {d : PyData} {v : V} {u : Value} {H0 : Hp} {e : PyData} {Q : VK} (h : RM .B X.K M H0 P H d v) (r : RelV v u) (he : reprD d = some e) (q : ∀ x, e = .str x → Q (.str x) H) :
    wpAny (model X.prog X.w) X.A (call (.builtin "repr") [u]) (EP X pins σ Q) X.xe s := by
  unfold reprD at he
  split at he
  · rename_i c
    cases he
    obtain ⟨p, sh, hdp, z⟩ := c
    have q := q _ rfl
    rcases h with h | ⟨ds, a, vs, rfl, rfl, l, n, ra⟩
    · cases d with
      | none =>
        subst h
        cases r
        simp only [PyData.shown] at q
        exact PySem.P.repr_of_none ⟨.str _, H, I.kept (t' := s.toks + 1) fun _ _ e => e, ⟨_, rfl⟩, q⟩
      | bool b =>
        subst h
        cases r
        simp only [PyData.shown] at q
        exact PySem.P.repr_of_bool ⟨.str _, H, I.kept (t' := s.toks + 1) fun _ _ e => e, ⟨_, rfl⟩, q⟩
      | int i =>
        subst h
        obtain ⟨t, rfl⟩ := r
        simp only [PyData.shown] at q
        exact PySem.P.repr_of_int (by simpa [PyData.showable] using sh) ⟨.str _, H, I.kept (t' := s.toks + 1) fun _ _ e => e, ⟨_, rfl⟩, q⟩
      | str x =>
        subst h
        obtain ⟨t, rfl⟩ := r
        simp only [PyData.shown] at q
        exact PySem.P.repr_of_str ⟨.str _, H, I.kept (t' := s.toks + 1) fun _ _ e => e, ⟨_, rfl⟩, q⟩ (by simpa only [PyData.shown] using z)
      | list ds =>
        obtain ⟨a, vs, rfl, hs, ha⟩ := h
        cases r
        exact call_list hg hu I hs.sq ha p sh hdp z q
      | tuple ds =>
        obtain ⟨a, vs, rfl, hs, ha⟩ := h
        cases r
        obtain ⟨its, rv, ⟨o, ho, hc, n, hd⟩, _⟩ := I.tuple hs.sq
        have z' : (tupleText (PyData.shownAll ds)).length ≤ sizeLine := by simpa only [PyData.shown] using z
        obtain ⟨bs, hb, hk⟩ := RpA.repr I ds _ its p (by simpa [PyData.showable] using sh) (fun t ht => Nat.le_trans (tupleText_mem_le ht) z') ha rv
        obtain ⟨as, hr⟩ := RpA.reads I ds _ its p ha rv
        have rr : Reads s.heap (.ref a) (.tuple ds) _ := .tuple ho hc hd hr
        have nm : a ∉ bs := not_mem_of_deeper rr (by simp only [PyData.depth]; omega) hb
        simp only [PyData.depth] at hdp
        simp only [PyData.shown] at q
        refine call_repr_slot (T := "tuple") (idr := "tuple.__repr__") (by omega) ⟨o, ho, hc⟩ F.slot_tuple_repr ?_
        exact call_tuple_reprK ho hc hd nm hk hg (fun b _ => Clear.nil b) (by show X.A.units + 1 + _ < cLine; omega) (fun _ _ e => e) (fun h' u tk k => ⟨_, _, rfl, .str _, H, I.kept (t' := tk) k, ⟨_, rfl⟩, q⟩) z'
      | dict kvs =>
        rcases h with ⟨ks, e0, a, rfl, l⟩ | ⟨rfl, _⟩ | hC
        · cases r
          cases kvs with
          | cons _ _ => exact nomatch p
          | nil =>
          cases e0
          obtain ⟨na, o, ep, ho, hc, hd⟩ := emptyDict I l
          have rr : Reads s.heap (.ref a) (.dict []) _ := .dict ho hc hd (by exact ReadsAll.nil) (by exact ReadsAll.nil)
          simp only [PyData.depth] at hdp
          exact repr_of_reads' rr sh (fun _ => by
            have := beq_eq_false_iff_ne.mp na
            simp only [List.append_nil, List.mem_singleton]
            exact fun e => this e.symm) hg (by have : (PyData.dict []).depth ≤ 50 := by simp [PyData.depth, PyData.depthKv]
                                               omega) (fun _ _ e => e) (fun h' u tk k => ⟨.str _, H, I.kept (t' := tk) k, ⟨_, rfl⟩, q⟩) z
        · exact nomatch p
        · cases kvs with
          | nil => exact hC.elim
          | cons _ _ => exact nomatch p
    · cases r
      exact call_list hg hu I (.inl (.inl l)) ra p sh hdp z q
  · cases he
end
def rReprD (K : PySem.W.Frag) : List V → Hp → VK → Prop := fun vs H Q => ∃ v M H0 P d e, vs = [v] ∧ RM .B K M H0 P H d v ∧ reprD d = some e ∧ ∀ x, e = .str x → Q (.str x) H
theorem cr_repr {X : Cx} (hg : X.A.guards = some []) (hu : X.A.units + 64 < cLine) : CallR X (.builtin "repr") (rReprD X.K) := by
  intro pins s σ H vs us Q I r h
  obtain ⟨v, M, H0, P, d, e, rfl, hm, he, q⟩ := h
  obtain ⟨u, rfl, ru⟩ := vals1 r
  exact call_reprD hg hu I hm ru he q
theorem un_repr {K : PySem.W.Frag} : UnOk K .S (fun v => rReprD K [v]) reprD := by
  intro M P H x dx d Q fx po mt rx e k
  refine ⟨x, M, H, P, dx, d, rfl, rx, e, fun z ez => ?_⟩
  subst ez
  exact k _ P H (.refl po) rfl
section
variable {X : Cx} {a b e : Expr} {g ga gb : Ev → W PyData} {pos p : Pos}
theorem ew_repr (hgd : X.A.guards = some []) (hu : X.A.units + 64 < cLine) (hg : Gl X "repr") (hm : X.mg "repr" = none) (ha : EW X .B e g) (hs : starEach [e] X.env = (false, eval e X.env) :: starEach [] X.env := by rfl) : EW X .S (.Call (.Name "repr" p) [e] [] pos) (wU reprD g) :=
  ew_callB un_repr (cr_repr hgd hu) hg hm (by decide +kernel) ha (hs := hs)
end
end WL

namespace WL
open PySem PySem.Spec PyProof.Rows L2

/-! ### a[i] -/
def ixD : PyData → PyData → Option PyData
  | .list ds, .int i => atI ds i
  | .tuple ds, .int i => atI ds i
  | .str z, .int i => if z.length ≤ sizeLine then (atI z.cps.toList i).map fun c => .str ⟨#[c]⟩ else none
  | _, _ => none
theorem RpA.atI {K : PySem.W.Frag} {H : Hp} {M P : Addr → Prop} {ds : List PyData} {vs : List V} {i : Int} {d : PyData} (h : RpA K H M P ds vs) (e : L2.atI ds i = some d) : ∃ v, L2.atI vs i = some v ∧ Rp K H M P d v := by
  unfold L2.atI at e ⊢
  rw [h.len]
  cases q : L2.ixN ds.length i with
  | none => rw [q] at e; cases e
  | some j =>
    rw [q] at e
    exact h.get e
theorem bin_ix {K : PySem.W.Frag} : BinOk K .S (rIx K) ixD := by
  intro M P H x y dx dy d Q fx po mt rx ry e k
  unfold ixD at e
  split at e
  · obtain ⟨a, vs, rfl, l, r⟩ := rx.lst
    obtain rfl := ry.int
    obtain ⟨v, e1, r1⟩ := r.atI e
    exact .inl ⟨a, vs, _, v, rfl, rfl, l, e1, k _ P H (.refl po) r1⟩
  · obtain ⟨a, vs, rfl, l, r⟩ := rx.tup
    obtain rfl := ry.int
    obtain ⟨v, e1, r1⟩ := r.atI e
    exact .inr (.inl ⟨a, vs, _, v, rfl, rfl, l, e1, k _ P H (.refl po) r1⟩)
  · rename_i z i
    split at e
    · rename_i hz
      obtain rfl := rx.str
      obtain rfl := ry.int
      cases q : L2.atI z.cps.toList i with
      | none => rw [q] at e; cases e
      | some c =>
        rw [q] at e
        cases e
        exact .inr (.inr ⟨z, i, c, rfl, rfl, hz, q, k _ P H (.refl po) rfl⟩)
    · cases e
  · cases e
section
variable {X : Cx} {a b : Expr} {ga gb : Ev → W PyData} {pos : Pos}
theorem ew_at (ha : EW X .B a ga) (hb : EW X .B b gb) (hs : PlainIx b := by intro _ _; rfl) : EW X .S (.Subscript a b pos) (wB ixD ga gb) := ew_ix bin_ix ix_seq ha hb hs
end

/-! ### a[lo:hi] -/
def cutP (xs : List PyData) (lo hi : Option Int) : List PyData := (xs.drop (HT.sIx xs.length 0 lo)).take (HT.sIx xs.length xs.length hi - HT.sIx xs.length 0 lo)
def cutD (d : PyData) (lo hi : Option Int) : Option PyData := match d with
  | .list ds => some (.list (cutP ds lo hi))
  | .tuple ds => some (.tuple (cutP ds lo hi))
  | .str z => if z.length ≤ sizeLine then some (.str (Txt.slice z lo hi)) else none
  | _ => none
theorem RpA.cut {K : PySem.W.Frag} {H : Hp} {M P : Addr → Prop} {ds : List PyData} {vs : List V} {lo hi : Option Int} (h : RpA K H M P ds vs) : RpA K H M P (cutP ds lo hi) (cutV vs lo hi) := by
  unfold cutP L2.cutV
  rw [h.len]
  exact (h.drop _).take _
def tWo (K : PySem.W.Frag) (g : Ev → W (Option Int)) : TO := fun σ H Q => ∃ B P ρ, RE K B P H ρ σ ∧ g ρ fun o => ∀ P' H', Fut S0 P H P' H' → Q o H'
structure EO (X : Cx) (e : Option Expr) (g : Ev → W (Option Int)) : Prop where
  mono : Mono g
  po : PO X e (tWo X.K g)
theorem _root_.L2.PO.imp {X : Cx} {e : Option Expr} {t t' : TO} (h : PO X e t) (i : ∀ σ H Q, t' σ H Q → t σ H Q) : PO X e t' := ⟨fun pins s σ H Q I q => h.run pins s σ H Q I (i _ _ _ q)⟩
def wNo : Ev → W (Option Int) := fun _ Q => Q none
def wPart (g : Ev → W PyData) : Ev → W (Option Int) := fun ρ Q => g ρ fun d => ∃ i, d = .int i ∧ Q (some i)
def wSl (g : Ev → W PyData) (gl gh : Ev → W (Option Int)) : Ev → W PyData := fun ρ Q => g ρ fun d => gl ρ fun lo => gh ρ fun hi => ∃ e, cutD d lo hi = some e ∧ Q e
/-- what a slice of a list, tuple, text is -/
abbrev rSlAny (K : PySem.W.Frag) : V → Option Int → Option Int → Hp → VK → Prop := fun x lo hi H Q => rSlL K x lo hi H Q ∨ rSlF K x lo hi H Q ∨ C8.rSlX x lo hi H Q
theorem cut_whole {ds : List PyData} {lo hi : Option Int} (h : HT.sIx ds.length 0 lo = 0 ∧ HT.sIx ds.length ds.length hi = ds.length) : cutP ds lo hi = ds := by
  unfold cutP
  rw [h.1, h.2]
  simp
theorem slice_ok {K : PySem.W.Frag} {M P : Addr → Prop} {H H0 : Hp} {x : V} {dx d : PyData} {lo hi : Option Int} {Q : VK} (po : PotsOk P H) (mt : ∀ a, M a → (H a).isSome = true) (rx : RM .B K M H0 P H dx x) (e : cutD dx lo hi = some d)
    (k : ∀ v P' H', Fut S0 P H P' H' → RM .S K M H P' H' d v → Q v H') : rSlAny K x lo hi H Q := by
  cases dx with
  | list ds =>
    cases e
    obtain ⟨a, vs, rfl, l, r⟩ := rx.lst
    exact .inl ⟨a, vs, rfl, l, new_list po r.cut mt fun v P' H' f r => k v P' H' f (r.FtoS mt)⟩
  | tuple ds =>
    cases e
    obtain ⟨a, vs, rfl, l, r⟩ := rx.tup
    refine .inr (.inl ⟨a, vs, rfl, l.sq, fun w => ?_, fun p its hp => ?_⟩)
    · rw [r.len] at w
      rw [cut_whole w] at k
      exact k _ P H (.refl po) ⟨a, vs, rfl, l, r⟩
    · have f : Fut S0 P H P (upd H p (.frz (tupO its) (.tup (cutV vs lo hi)))) := .new po hp
      exact k _ P _ f ⟨p, _, rfl, .inl ⟨its, upd_same⟩, r.cut.fut0 f⟩
  | str z =>
    have e : (if z.length ≤ sizeLine then some (PyData.str (Txt.slice z lo hi)) else none) = some d := e
    split at e
    · rename_i hz
      cases e
      obtain rfl := rx.str
      exact .inr (.inr ⟨z, rfl, hz, k _ P H (.refl po) rfl⟩)
    · cases e
  | _ => exact nomatch e
section
variable {X : Cx} {a b e : Expr} {lo hi : Option Expr} {g ga gb : Ev → W PyData} {gl gh : Ev → W (Option Int)} {pos p2 : Pos}
theorem eo_none : EO X none wNo := ⟨fun _ _ _ i q => i _ q, po_none.imp fun σ H Q ⟨B, P, ρ, R, q⟩ => q P H (.refl R.pots)⟩
theorem eo_some (h : EW X .B e g) : EO X (some e) (wPart g) := ⟨fun ρ _ _ i q => h.mono ρ _ _ (fun d ⟨n, e, q⟩ => ⟨n, e, i _ q⟩) q, (po_some h.pe).imp fun σ H Q ⟨B, P, ρ, R, q⟩ => ⟨B, P, ρ, R, h.mono ρ _ _ (fun d ⟨n, e, q⟩ v P1 H1 f1 r1 => by
  subst e
  exact ⟨n, r1.int, q P1 H1 f1⟩) q⟩⟩
theorem ew_slice (h : EW X .B e g) (hl : EO X lo gl) (hh : EO X hi gh) : EW X .S (.Subscript e (.Slice lo hi none p2) pos) (wSl g gl gh) :=
  ⟨fun ρ _ _ i q => h.mono ρ _ _ (fun d q => hl.mono ρ _ _ (fun l q => hh.mono ρ _ _ (fun u ⟨z, e, q⟩ => ⟨z, e, i _ q⟩) q) q) q,
    (pe_slice (sl_list.or (sl_tupF.or C8.sl_txt)) h.pe hl.po hh.po).imp fun σ H Q ⟨B, P, ρ, R, q⟩ => ⟨B, P, ρ, R, h.mono ρ _ _ (fun d q v P1 H1 f1 r1 => ⟨B, P1, ρ, R.fut f1, hl.mono ρ _ _ (fun l q P2 H2 f2 => ⟨B, P2, ρ, (R.fut f1).fut f2, hh.mono ρ _ _ (fun u ⟨z, e, q⟩ P3 H3 f3 =>
      slice_ok (M := Mo B ρ σ) f3.ok' (fun a h => (((R.fut f1).fut f2).fut f3).mtrk h) (H0 := H) ((r1.fut f2).fut f3) e fun v' P4 H4 f4 r4 => q v' P4 H4 (((f1.trans0 f2).trans0 f3).trans0 f4) r4) q⟩) q⟩) q⟩⟩
end

/-! ### list or tuple or .. + -/
def addAD (x y : PyData) : Option PyData := match x with
  | .list _ => catD x y
  | _ => addD x y
theorem bin_addA {K : PySem.W.Frag} : BinOk K .S (fun x y H Q => (rI0 (fun i j => .int (i + j)) x y H Q ∨ rAddS x y H Q ∨ rCatF K x y H Q) ∨ rCatL K x y H Q) addAD := by
  intro M P H x y dx dy d Q fx po mt rx ry e k
  cases dx with
  | list ds => exact .inr (bin_cat M P H x y (.list ds) dy d Q fx po mt rx ry e fun v P' H' f r => k v P' H' f (r.FtoS mt))
  | _ => exact .inl (bin_add M P H x y _ dy d Q fx po mt rx ry e k)
/-- list * int -/
def repD : PyData → PyData → Option PyData
  | .list xs, .int k => if 0 ≤ k ∧ k ≤ 1000 ∧ xs.length ≤ 1000 then some (.list (List.replicate k.toNat xs).flatten) else none
  | _, _ => none
section
variable {X : Cx} {a b e : Expr} {g ga gb : Ev → W PyData} {pos : Pos}
theorem ew_addA (ha : EW X .B a ga) (hb : EW X .B b gb) : EW X .S (.BinOp a .Add b pos) (wB addAD ga gb) := ew_binop bin_addA (OpR.or (OpR.or op_add (OpR.or op_addS op_catF)) op_catL) ha hb
theorem ew_rep (ha : EW X .F a ga) (hb : EW X .B b gb) : EW X .F (.BinOp a .Mult b pos) (wB repD ga gb) := by
  refine ⟨mono_wB ha.mono hb.mono, (pe_op op_rep ha.pe hb.pe).imp fun σ H Q ⟨B, P, ρ, R, q⟩ => ⟨B, P, ρ, R, ha.mono ρ _ _ (fun dx q v P1 H1 f1 r1 => ?_) q⟩⟩
  refine ⟨B, P1, ρ, R.fut f1, hb.mono ρ _ _ (fun dy ⟨d, e, q⟩ v' P2 H2 f2 r2 => ?_) q⟩
  obtain ⟨ds, p, vs, rfl, rfl, np, ep, nP, r⟩ := r1
  cases dy with
  | int k =>
    have e : (if 0 ≤ k ∧ k ≤ 1000 ∧ ds.length ≤ 1000 then some (PyData.list (List.replicate k.toNat ds).flatten) else none) = some d := e
    split at e
    · rename_i c
      cases e
      obtain rfl := r2.int
      have r' := r.fut0 f2
      have hz : vs.length * k.toNat ≤ sizeLine := by
        have h1 : vs.length * k.toNat ≤ 1000 * 1000 := Nat.mul_le_mul (by rw [r.len]; exact c.2.2) (by omega)
        have h2 : (1000 * 1000 : Nat) ≤ sizeLine := by decide
        omega
      refine ⟨p, k, vs, rfl, rfl, f2.kp p _ ep nP (fun z => z.elim), by omega, by omega, hz, new_list (M := Mo B ρ σ) f2.ok' ((r'.anti fun a h => .inl h).rep _) (fun a h => ((R.fut f1).fut f2).mtrk h) fun v P3 H3 f3 r3 => q v P3 H3 ((f1.trans0 f2).trans0 f3) (r3.back (f1.trans0 f2))⟩
    · cases e
  | _ => exact nomatch e

/-! ### {} -/
theorem ew_dnew : EW X .S (.Dict [] [] pos) (wC (.dict [])) := ⟨mono_wC, pe_dnewK.imp fun σ H Q ⟨B, P, ρ, R, q⟩ => fun p hp => q _ P _ (.new R.pots hp) (.inl ⟨[], rfl, p, rfl, upd_same⟩)⟩

/-! ### a < b < c -/
def wChain (r r' : PyData → PyData → Option PyData) (ga gb gc : Ev → W PyData) : Ev → W PyData := fun ρ Q => ga ρ fun x => gb ρ fun y => ∃ d b, r x y = some d ∧ d = .bool b ∧ if b = true then gc ρ fun z => ∃ e, r' y z = some e ∧ Q e else Q (.bool false)
theorem mono_wChain {r r' : PyData → PyData → Option PyData} {gc : Ev → W PyData} (h : Mono ga) (h' : Mono gb) (h2 : Mono gc) : Mono (wChain r r' ga gb gc) := fun ρ _ _ i q => h ρ _ _ (fun x q => h' ρ _ _ (fun y ⟨d, b, e, e', q⟩ => ⟨d, b, e, e', ite_mono (fun q => h2 ρ _ _ (fun z ⟨e, e1, q⟩ => ⟨e, e1, i _ q⟩) q) (i _) q⟩) q) q
theorem ew_chain {c : Expr} {gc : Ev → W PyData} {op op' : CmpOp} {r r' : R2} {f f' : PyData → PyData → Option PyData} (U : BinOk X.K .S r f) (U' : BinOk X.K .S r' f') (ho : OpR X (compareOp op) r) (ho' : OpR X (compareOp op') r') (ha : EW X .B a ga) (hb : EW X .B b gb) (hc : EW X .B c gc)
    (hm : lastMarks [op, op'] [b, c] = false := by with_unfolding_all rfl) : EW X .S (.Compare a [op, op'] [b, c] pos) (wChain f f' ga gb gc) := by
  refine ⟨mono_wChain ha.mono hb.mono hc.mono, (pe_chain ho ho' ha.pe hb.pe.fx hc.pe.fx hm).imp fun σ H Q ⟨B, P, ρ, R, q⟩ => ⟨B, P, ρ, R, ha.mono ρ _ _ (fun dx q v P1 H1 f1 r1 => fun _ => ?_) q⟩⟩
  refine ⟨B, P1, ρ, R.fut f1, hb.mono ρ _ _ (fun dy ⟨d, k, e, ek, q⟩ v' P2 H2 f2 r2 fx => ?_) q⟩
  have R2 := (R.fut f1).fut f2
  have r1' := r1.fut f2
  have r2' : RM .B X.K (Mo B ρ σ) H2 P2 H2 dy v' := by cases r2 with | inl z => exact .inl z | inr z => exact .inr z
  refine U (Mo B ρ σ) P2 H2 v v' dx dy d _ fx f2.ok' (fun a h => R2.mtrk h) (by cases r1' with | inl z => exact .inl z | inr z => exact .inr z) r2' e fun w P3 H3 f3 r3 => ?_
  subst ek
  refine ⟨k, r3, ?_⟩
  have f13 := (f1.trans0 f2).trans0 f3
  refine ite_mono (fun q => ?_) (fun q => q _ P3 H3 f13 rfl) q
  intro fx3
  refine ⟨B, P3, ρ, R.fut f13, hc.mono ρ _ _ (fun dz ⟨e, e1, q⟩ u P4 H4 f4 r4 fx4 => ?_) q⟩
  have r2'' := (r2.fut f3).fut f4
  exact U' (Mo B ρ σ) P4 H4 v' u dy dz e _ fx4 f4.ok' (fun a h => (R.fut (f13.trans0 f4)).mtrk h) (by cases r2'' with | inl z => exact .inl z | inr z => exact .inr z) (by cases r4 with | inl z => exact .inl z | inr z => exact .inr z) e1
    fun w' P5 H5 f5 r5 => q w' P5 H5 ((f13.trans0 f4).trans0 f5) r5
theorem ew_lele {c : Expr} {gc : Ev → W PyData} (ha : EW X .B a ga) (hb : EW X .B b gb) (hc : EW X .B c gc) (hm : lastMarks [.LtE, .LtE] [b, c] = false := by with_unfolding_all rfl) : EW X .S (.Compare a [.LtE, .LtE] [b, c] pos) (wChain leI leI ga gb gc) :=
  ew_chain (bin_int0 fun _ _ _ _ _ _ => rfl) (bin_int0 fun _ _ _ _ _ _ => rfl) op_le op_le ha hb hc hm
theorem ew_ltle {c : Expr} {gc : Ev → W PyData} (ha : EW X .B a ga) (hb : EW X .B b gb) (hc : EW X .B c gc) (hm : lastMarks [.Lt, .LtE] [b, c] = false := by with_unfolding_all rfl) : EW X .S (.Compare a [.Lt, .LtE] [b, c] pos) (wChain ltI leI ga gb gc) :=
  ew_chain (bin_int0 fun _ _ _ _ _ _ => rfl) (bin_int0 fun _ _ _ _ _ _ => rfl) op_lt op_le ha hb hc hm
theorem ew_lelt {c : Expr} {gc : Ev → W PyData} (ha : EW X .B a ga) (hb : EW X .B b gb) (hc : EW X .B c gc) (hm : lastMarks [.LtE, .Lt] [b, c] = false := by with_unfolding_all rfl) : EW X .S (.Compare a [.LtE, .Lt] [b, c] pos) (wChain leI ltI ga gb gc) :=
  ew_chain (bin_int0 fun _ _ _ _ _ _ => rfl) (bin_int0 fun _ _ _ _ _ _ => rfl) op_le op_lt ha hb hc hm
end
end WL

namespace WL
open PySem PySem.Spec PyProof.Rows L2

/-! ### calls by keyword -/
def pick {α : Type} (π : List Nat) (l : List α) : List α := π.filterMap (l[·]?)
theorem RpA.pick {K : PySem.W.Frag} {H : Hp} {M P : Addr → Prop} {ds : List PyData} {vs : List V} (h : RpA K H M P ds vs) : ∀ π : List Nat, RpA K H M P (pick π ds) (pick π vs)
  | [] => rfl
  | i :: π => by
    unfold WL.pick
    cases q : ds[i]? with
    | none =>
      have q2 : vs[i]? = none := by
        rw [List.getElem?_eq_none_iff] at q ⊢
        rw [h.len]
        exact q
      rw [List.filterMap_cons_none q, List.filterMap_cons_none q2]
      exact RpA.pick h π
    | some d =>
      obtain ⟨v, e, r⟩ := h.get q
      rw [List.filterMap_cons_some q, List.filterMap_cons_some e]
      exact ⟨v, _, rfl, r, RpA.pick h π⟩
theorem vals_pick {vs : List V} {us : List Value} (h : Vals vs us) : ∀ π : List Nat, Vals (pick π vs) (pick π us)
  | [] => .nil
  | i :: π => by
    unfold WL.pick
    cases q : vs[i]? with
    | none =>
      have q2 : us[i]? = none := by
        rw [List.getElem?_eq_none_iff] at q ⊢
        rw [← h.length]
        exact q
      rw [List.filterMap_cons_none q, List.filterMap_cons_none q2]
      exact vals_pick h π
    | some d =>
      obtain ⟨v, e, r⟩ := h.get q
      rw [List.filterMap_cons_some q, List.filterMap_cons_some e]
      exact .cons r (vals_pick h π)
theorem vals_app {vs vs' : List V} {us us' : List Value} (h : Vals vs us) (h' : Vals vs' us') : Vals (vs ++ vs') (us ++ us') := h.append h'
/-- how a call binds that gives np values by place, then some by the names ks: π puts them in the parameters' order -/
def KB (K : PySem.W.Frag) (fd : FuncData) (ps ks : List Str) (np : Nat) (π : List Nat) : Prop :=
  ∀ (s : Shared) (us ws : List Value), K.In s.heap → us.length = np → ws.length = ks.length → BindsTo s fd ⟨us, ks.zip ws⟩ (ps.zip (pick π (us ++ ws)))
structure FnK (P : Program) (w : World) (K : PySem.W.Frag) (mg : Str → Option Value) (base : Heap) (k : Nat) (x : Str) (ks : List Str) (np : Nat) (π : List Nat) (m : Md) (g : Fn) : Prop where
  mono : MonoF g
  ok : ∃ f fd ps, mg x = some (.ref f) ∧ PySem.W.keepIn K (.ref f) = true ∧ KB K fd ps ks np π ∧ π.length = ps.length ∧ (∀ i ∈ π, i < np + ks.length) ∧ FnG P w K mg base CX0 k f fd ps (spW K m ps.length g)
theorem fnK_of {P : Program} {w : World} {K : PySem.W.Frag} {mg : Str → Option Value} {base : Heap} {x qual : Str} {st : Stmt} {f : Addr} {fd : FuncData} {N ps ks : List Str} {np : Nat} {π : List Nat} {k : Nat} {m : Md} {g : Ev → W Rs} (F : Fun K x qual st f fd) (hm : mg x = some (.ref f)) (hb : KB K fd ps ks np π)
    (h1 : π.length = ps.length := by rfl) (h2 : ∀ i ∈ π, i < np + ks.length := by decide) (h : FnG P w K mg base CX0 k f fd ps (spW K m ps.length (gBody m N.length g))) : FnK P w K mg base k x ks np π m (gBody m N.length g) :=
  ⟨mono_gBody, f, fd, ps, hm, F.kp, hb, h1, h2, h⟩
theorem pick_len {α : Type} {l : List α} {n : Nat} (h : l.length = n) : ∀ π : List Nat, (∀ i ∈ π, i < n) → (pick π l).length = π.length
  | [], _ => rfl
  | i :: π, hi => by
    have hl : i < l.length := by rw [h]; exact hi i List.mem_cons_self
    unfold WL.pick
    rw [List.filterMap_cons_some (List.getElem?_eq_getElem hl)]
    exact congrArg Nat.succ (pick_len h π fun j hj => hi j (List.mem_cons_of_mem _ hj))
structure EK (X : Cx) (es : List Keyword) (g : Ev → W (List PyData)) : Prop where
  mono : Mono g
  pk : PK X es (tWa X.K g)
theorem _root_.L2.PK.imp {X : Cx} {e : List Keyword} {t t' : TA} (h : PK X e t) (i : ∀ σ H Q, t' σ H Q → t σ H Q) : PK X e t' := ⟨fun pos pins s σ H Q I q => h.run pos pins s σ H Q I (i _ _ _ q)⟩
def wCallK (np nk : Nat) (π : List Nat) (g : Fn) (gs gk : Ev → W (List PyData)) : Ev → W PyData := fun ρ Q => gs ρ fun ds => gk ρ fun es => ds.length = np ∧ es.length = nk ∧ g (pick π (ds ++ es)) Q
section
variable {X : Cx} {k j : Nat} {x : Str} {ks : List Str} {m : Md} {g : Fn} {ge : Ev → W PyData} {gs gk : Ev → W (List PyData)} {e : Expr} {es : List Expr} {kws : List Keyword} {p pos kp : Pos} {np : Nat} {π : List Nat} {nm : Option Str}
theorem ek_nil : EK X [] wNil := ⟨fun _ _ _ i q => i _ q, pk_nil.imp fun σ H Q ⟨B, P, ρ, R, q⟩ => q [] P H (.refl R.pots) rfl⟩
theorem ek_cons (h : EW X .S e ge) (h' : EK X kws gk) : EK X (⟨nm, e, kp⟩ :: kws) (wCons ge gk) :=
  ⟨mono_wCons h.mono h'.mono, (pk_cons h.pe h'.pk).imp fun σ H Q ⟨B, P, ρ, R, q⟩ => ⟨B, P, ρ, R, h.mono ρ _ _ (fun d q v P1 H1 f1 r1 => ⟨B, P1, ρ, R.fut f1, h'.mono ρ _ _ (fun ds q vs P2 H2 f2 r2 =>
    q (v :: vs) P2 H2 (f1.trans0 f2) ⟨v, vs, rfl, Rp.fut0 f2 r1, r2⟩) q⟩) q⟩⟩
theorem mono_wCallK {nk : Nat} (h : MonoF g) (h1 : Mono gs) (h2 : Mono gk) : Mono (wCallK np nk π g gs gk) := fun ρ _ _ i q => h1 ρ _ _ (fun ds q => h2 ρ _ _ (fun es ⟨a, b, q⟩ => ⟨a, b, h _ _ _ i q⟩) q) q
theorem ew_callK0 {nk : Nat} (F : FnK X.prog X.w X.K X.mg X.base k x ks 0 π m g) (hr : Room j X.A) (hgd : X.A.guards = some []) (hk : k ≤ j) (hg : Gl X x) (ha : EK X kws gk) (hall : (backToKw pos (keywordEach kws X.env)).all (·.1.isSome) = true := by rfl)
    (hks : (backToKw pos (keywordEach kws X.env)).filterMap (·.1) = ks := by rfl) (hdb : (x == ("__debug__" : Str)) = false := by decide) (hpl : ((backTo pos (starEach [] X.env)).any (·.1) || (backToKw pos (keywordEach kws X.env)).any (·.1.isNone)) = false := by rfl) (hn : ks.length = nk := by rfl) :
    EW X m (.Call (.Name x p) [] kws pos) (wCallK 0 nk π g wNil gk) := by
  subst hn
  obtain ⟨mo, f, fd, ps, hm, kp, hb, h1, h2, ok⟩ := F
  refine ⟨mono_wCallK mo (fun _ _ _ i q => i _ q) ha.mono, ⟨fun pins s σ H Q I ⟨B, P, ρ, R, q⟩ => ?_⟩⟩
  refine wpAny_Call_Name_kw (ld_glob I hg hm ?_ hdb)
  have ta : tWa X.K gk σ H fun zs H1 => zs.length = ks.length ∧ spW X.K m ps.length g (pick π zs) H1 Q E0 := ⟨B, P, ρ, R, ha.mono ρ _ _ (fun ds ⟨_, el, q⟩ vs P1 H1 f1 r1 => by
    have el2 : vs.length = ks.length := by rw [r1.len, el]
    exact ⟨el2, Mo B ρ σ, P1, pick π ds, fun a h => (R.fut f1).mtrk h, f1.ok', r1.pick π, by rw [pick_len el π (by simpa using h2), h1], mo _ _ _ (fun d q v P2 H2 f2 r2 => q v P2 H2 (f1.trans0 f2) (r2.back f1)) q⟩) q⟩
  refine PySem.W.callWith_KW0 (h₀ := X.base) I.ok.mod.kin kp hall (thn (ha.pk.run pos pins s σ H _ I ta) fun ws s1 ⟨zs, H1, I1, r, hl, q1⟩ => ⟨I1.kIn, ?_⟩) hpl
  rw [hks]
  refine wpAny_call (codeAny_mono (runG ok (hr.mono hk) hgd (us := pick π ws) (hb s1 [] ws I1.kIn rfl (by rw [← r.length]; exact hl)) pass0 I1 (vals_pick r π) q1) fun res s' z => ?_)
  cases res with
  | error e => exact z
  | ok fl => cases fl <;> first | exact z | exact z.elim
theorem ew_callK {nk : Nat} (F : FnK X.prog X.w X.K X.mg X.base k x ks np π m g) (hr : Room j X.A) (hgd : X.A.guards = some []) (hk : k ≤ j) (hg : Gl X x) (hp : EA X (e :: es) gs) (ha : EK X kws gk) (hall : (backToKw pos (keywordEach kws X.env)).all (·.1.isSome) = true := by rfl)
    (hks : (backToKw pos (keywordEach kws X.env)).filterMap (·.1) = ks := by rfl) (hdb : (x == ("__debug__" : Str)) = false := by decide) (he : starEach (e :: es) X.env = (false, eval e X.env) :: starEach es X.env := by rfl)
    (hpl : ((backTo pos (starEach (e :: es) X.env)).any (·.1) || (backToKw pos (keywordEach kws X.env)).any (·.1.isNone)) = false := by rfl) (hn : ks.length = nk := by rfl) :
    EW X m (.Call (.Name x p) (e :: es) kws pos) (wCallK np nk π g gs gk) := by
  subst hn
  obtain ⟨mo, f, fd, ps, hm, kp, hb, h1, h2, ok⟩ := F
  refine ⟨mono_wCallK mo hp.mono ha.mono, ⟨fun pins s σ H Q I ⟨B, P, ρ, R, q⟩ => ?_⟩⟩
  refine wpAny_Call_Name_kw (ld_glob I hg hm ?_ hdb)
  have ta : tWa X.K gs σ H fun vs H1 => tWa X.K gk σ H1 fun zs H2 => vs.length = np ∧ zs.length = ks.length ∧ spW X.K m ps.length g (pick π (vs ++ zs)) H2 Q E0 := ⟨B, P, ρ, R, hp.mono ρ _ _ (fun ds q vs P1 H1 f1 r1 => ⟨B, P1, ρ, R.fut f1, ha.mono ρ _ _ (fun es ⟨dl, el, q⟩ zs P2 H2 f2 r2 => by
    have el1 : vs.length = np := by rw [r1.len, dl]
    have el2 : zs.length = ks.length := by rw [r2.len, el]
    have rr := (r1.fut0 f2).append r2
    exact ⟨el1, el2, Mo B ρ σ, P2, pick π (ds ++ es), fun a h => ((R.fut f1).fut f2).mtrk h, f2.ok', rr.pick π, by rw [pick_len (by rw [List.length_append, dl, el]) π h2, h1], mo _ _ _ (fun d q v P3 H3 f3 r3 => q v P3 H3 ((f1.trans0 f2).trans0 f3) (r3.back (f1.trans0 f2))) q⟩) q⟩) q⟩
  refine PySem.W.callWith_KW (h₀ := X.base) I.ok.mod.kin kp hall (thn (hp.pa.run pos pins s σ H _ I ta) fun us s1 ⟨vs, H1, I1, r, q1⟩ => thn (ha.pk.run pos pins s1 σ H1 _ I1 q1) fun ws s2 ⟨zs, H2, I2, rz, hl1, hl2, q2⟩ => ⟨I2.kIn, ?_⟩) hpl he
  rw [hks]
  refine wpAny_call (codeAny_mono (runG ok (hr.mono hk) hgd (us := pick π (us ++ ws)) (hb s2 us ws I2.kIn (by rw [← r.length]; exact hl1) (by rw [← rz.length]; exact hl2)) pass0 I2 (vals_pick (vals_app r rz) π) q2) fun res s' z => ?_)
  cases res with
  | error e => exact z
  | ok fl => cases fl <;> first | exact z | exact z.elim
end
end WL

namespace WL
open PySem PySem.Spec PyProof.Rows L2

/-! ### x[::-1] -/
section
variable {prog : Program} {w : World} {A : Around} {E : Value → Shared → Prop} {s : Shared}
theorem applied_rev {sl : Addr} {vl vu vs : Value} {n : Nat} {Q : Int × Int × Nat → Shared → Prop} (hs : s.heap.IsSliceOf sl vl vu vs) (pl : IsPart vl none) (pu : IsPart vu none) (ps : IsPart vs (some (-1)))
    (h : Q ((n : Int) - 1, -1, n) s) : wpAny (model prog w) A (Builtin.Slice.sliceApplied (.ref sl) (pure (n : Int))) Q E s := by
  obtain ⟨os, hos, hcs, hds⟩ := id hs
  unfold Builtin.Slice.sliceApplied Builtin.Slice.sliceFields
  refine wpAny_bind (wpAny_bind (wpAny_field hos hds (x := vl) rfl (wpAny_bind (wpAny_field hos hds (x := vu) rfl (wpAny_bind (wpAny_field hos hds (x := vs) rfl (wpAny_pure ?_)))))))
  refine wpAny_bind (HT.slicePart_ ps ?_)
  show wpAny _ _ (if ((-1 : Int) == 0) = true then _ else _) _ _ s
  rw [if_neg (by decide)]
  refine wpAny_bind (HT.slicePart_ pl (wpAny_bind (HT.slicePart_ pu (wpAny_bind (wpAny_pure ?_)))))
  refine wpAny_pure ?_
  have e1 : Builtin.Slice.sliceAdjust none none (-1) (n : Int) = ((n : Int) - 1, -1) := rfl
  have e2 : Builtin.Slice.slicePlaces ((n : Int) - 1) (-1) (-1) = n := by
    unfold Builtin.Slice.slicePlaces
    rw [if_neg (by decide)]
    by_cases c : (n : Int) - 1 > -1
    · rw [if_pos c]
      have : ((n : Int) - 1 - -1 - 1) / (- -1) = (n : Int) - 1 := by
        rw [show (- -1 : Int) = 1 by decide, Int.ediv_one]
        omega
      rw [this]
      omega
    · rw [if_neg c]
      have : n = 0 := by omega
      rw [this]
      rfl
  show Q ((Builtin.Slice.sliceAdjust none none (-1) (n : Int)).1, -1, Builtin.Slice.slicePlaces (Builtin.Slice.sliceAdjust none none (-1) (n : Int)).1 (Builtin.Slice.sliceAdjust none none (-1) (n : Int)).2 (-1)) s
  rw [e1]
  show Q ((n : Int) - 1, -1, Builtin.Slice.slicePlaces ((n : Int) - 1) (-1) (-1)) s
  rw [e2]
  exact h
theorem fm_congr {α β : Type} {f g : α → Option β} : ∀ {l : List α}, (∀ x ∈ l, f x = g x) → l.filterMap f = l.filterMap g
  | [], _ => rfl
  | x :: l, h => by
    have h1 := h x List.mem_cons_self
    have h2 := fm_congr fun y hy => h y (List.mem_cons_of_mem _ hy)
    cases q : g x with
    | none => rw [List.filterMap_cons_none q, List.filterMap_cons_none (h1.trans q), h2]
    | some z => rw [List.filterMap_cons_some q, List.filterMap_cons_some (h1.trans q), h2]
theorem pick_rev (xs : Array Value) : ((List.range xs.size).filterMap fun (k : Nat) => xs[(((xs.size : Int) - 1) + (k : Int) * (-1)).toNat]?).toArray = xs.toList.reverse.toArray := by
  rw [← PySem.W.krv_pick]
  unfold slicePick
  rw [PySem.W.krv_bounds]
  show _ = ((sliceRange ((xs.size : Int) - 1) (-1) (-1)).filterMap (xs[·]?)).toArray
  rw [PySem.W.krv_sliceRange, List.filterMap_map]
  congr 1
  refine fm_congr fun k hk => ?_
  have := List.mem_range.mp hk
  have e : (((xs.size : Int) - 1) + (k : Int) * (-1)).toNat = xs.size - 1 - k := by omega
  show xs[(((xs.size : Int) - 1) + (k : Int) * (-1)).toNat]? = xs[xs.size - 1 - k]?
  rw [e]
theorem tuple_rev {t sl : Addr} {items : Array Value} {vl vu vs : Value} {Q : Value → Shared → Prop} (ht : IsTup s.heap t items) (hs : s.heap.IsSliceOf sl vl vu vs) (pl : IsPart vl none) (pu : IsPart vu none) (ps : IsPart vs (some (-1)))
    (h : Q (.ref s.heap.objs.size) { s with heap := s.heap.push { cls := .type "tuple", data := .seq items.toList.reverse.toArray } }) (hsz : items.size ≤ sizeLine) : wpAny (model prog w) A (getItem (.ref t) (.ref sl)) Q E s := by
  have htake : sizeOk (.seq items.toList.reverse.toArray) := by
    show items.toList.reverse.toArray.size ≤ sizeLine
    rw [List.size_toArray, List.length_reverse, Array.length_toList]
    exact hsz
  obtain ⟨os, hos, hcs, hds⟩ := id hs
  have hTs : s.TypeIs (.ref sl) "slice" := ⟨os, hos, hcs⟩
  unfold getItem
  try with_reducible refine wpAny_holding ?_
  first | refine wpAny_bind (wpAny_pure ?_) | skip
  refine wpAny_bind (wpAny_sequenceKey ht.typeIs (by decide) ?_)
  refine wpAny_bind (wpAny_callSpecial?_slot (name := Str.ofString "__getitem__") ht.typeIs PyProof.Rows.slot_tuple_getitem (wpAny_call_entry PyProof.Rows.slot_tuple_getitem ht.typeIs PyProof.Rows.entry_tuple_getitem ?_ (PyProof.Rows.args_tuple_getitem _ _)))
  show wpAny (model prog w) A.in1 (Builtin.Tuple.tupleItemsOf (Value.ref t) >>= _) _ _ s
  refine wpAny_bind (tupleItemsOf_ ht ?_)
  refine wpAny_bind (wpAny_typeOf hTs ?_)
  rw [if_pos (by decide)]
  refine wpAny_bind (applied_rev hs pl pu ps ?_)
  have hno : ¬ ((((items.size : Int) - 1 == 0) && (-1 : Int) == 1 && items.size == items.size) = true) := by
    intro q
    rw [Bool.and_eq_true, Bool.and_eq_true] at q
    exact absurd q.1.2 (by decide)
  show wpAny _ _ (if (((items.size : Int) - 1 == 0) && (-1 : Int) == 1 && items.size == items.size) = true then _ else _) _ _ s
  rw [if_neg hno, pick_rev]
  first
    | exact wpAny_bind (m := Builtin.Tuple.tupleExact _) (wpAny_newObj_type (wpAny_pure ⟨_, rfl, wpAny_pure h⟩) htake)
    | exact wpAny_bind (m := Builtin.Tuple.tupleExact _) (wpAny_newObj_type (wpAny_bind (wpAny_pure (wpAny_pure ⟨_, rfl, wpAny_pure h⟩))) htake)
    | exact wpAny_bind (wpAny_bind (m := Builtin.Tuple.tupleExact _) (wpAny_newObj_type (wpAny_pure (wpAny_pure ⟨_, rfl, wpAny_pure h⟩)) htake))
    | exact wpAny_bind (wpAny_bind (m := Builtin.Tuple.tupleExact _) (wpAny_newObj_type (wpAny_pure ⟨_, rfl, wpAny_pure h⟩) htake))
end
def revS (z : Str) : Str := ⟨((Builtin.Str.strSliceIndices none none (-1) z.length).filterMap (z.cps[·]?)).toArray⟩
def rRevA (K : PySem.W.Frag) : V → Hp → VK → Prop := fun x H Q => (∃ a xs, x = .ref a ∧ SqL K H a xs ∧ ∀ p, H p = none → Q (.ref p) (upd H p (.lst xs.reverse))) ∨
  (∃ a xs, x = .ref a ∧ SqT K H a xs ∧ newT H xs.reverse Q) ∨ ∃ z, x = .str z ∧ (revS z).length ≤ sizeLine ∧ Q (.str (revS z)) H
theorem pe_revA {X : Cx} {e : Expr} {te : TE} {k : Nat} {p1 p2 p3 pos : Pos} (he : PE X e te) : PE X (.Subscript e (.Slice none none (some (.UnaryOp .USub (.Constant (.int 1) k p1) p2)) p3) pos) (fun σ H Q => te σ H fun x H1 => rRevA X.K x H1 Q) := by
  refine ⟨fun pins s σ H Q I h => ?_⟩
  refine Subscript_ (thn (he.run pins s σ H _ I h) fun v s1 ⟨x, H1, I1, r1, q1⟩ => ?_)
  have hst : PO X (some (.UnaryOp .USub (.Constant (.int 1) k p1) p2)) (tPart (tUn (rU fun i => .int (-i)) (tC (.int 1)))) := po_some (pe_un un_neg pe_int)
  refine wpAny_Slice (thn (po_none.run pins s1 σ H1 (fun o H2 => o = none ∧ H2 = H1) I1 ⟨rfl, rfl⟩) fun vl s2 ⟨l, H2, I2, pl, el, e2⟩ => ?_)
  subst el e2
  refine thn (po_none.run pins s2 σ H2 (fun o H3 => o = none ∧ H3 = H2) I2 ⟨rfl, rfl⟩) fun vu s3 ⟨u, H3, I3, pu, eu, e3⟩ => ?_
  subst eu e3
  refine thn (hst.run pins s3 σ H3 (fun o H4 => o = some (-1) ∧ H4 = H3) I3 ⟨1, rfl, -1, rfl, rfl, rfl⟩) fun vs s4 ⟨o, H4, I4, ps, eo, e4⟩ => ?_
  subst eo e4
  have I5 : Inv X pins σ H4 { s4 with heap := s4.heap.push { cls := .type "slice", data := .fields #[vl, vu, vs] } } := I4.kept (t' := s4.toks) fun b ob q => Heap.get?_push_of_some _ q
  have hsl : (s4.heap.push { cls := .type "slice", data := .fields #[vl, vu, vs] }).IsSliceOf s4.heap.objs.size vl vu vs := Heap.IsSliceOf.new _ vl vu vs
  show wpAny (model X.prog X.w) X.A (subscriptTail e (.Slice none none (some (.UnaryOp .USub (.Constant (.int 1) k p1) p2)) p3) v (.ref s4.heap.objs.size)) (EP X pins σ Q) X.xe { s4 with heap := s4.heap.push { cls := .type "slice", data := .fields #[vl, vu, vs] } }
  rcases q1 with ⟨a, xs, rfl, hx, q⟩ | ⟨a, xs, rfl, hx, q⟩ | ⟨z, rfl, hz, q⟩
  · cases r1
    obtain ⟨its, r, ht, hz⟩ := I5.list hx
    have hlen := r.length
    refine tail_any (ops := [.ref a, .ref s4.heap.objs.size]) ht.isList.typeIs (PySem.slot_list_getitem.lookup) ?_ (by with_unfolding_all rfl)
    refine wpAny_getItem_list_slice ht.isList hsl pl pu ps (by decide) ?_ (by rw [List.size_toArray]; omega)
    rw [PySem.W.krv_pick]
    refine ⟨.ref _, _, I5.laid (t' := s4.toks) (o := .lst xs.reverse) (fun b ob q => Heap.get?_push_of_some _ q) (Nat.le_refl _) ?_, rfl, q _ (I5.hok.fresh (Nat.le_refl _))⟩
    exact ⟨by rw [List.length_reverse]; exact hz, _, 0, r.reverse, Heap.get?_push_size _ rfl⟩
  · cases r1
    obtain ⟨its, r, ht, hz⟩ := I5.tuple hx
    have hlen := r.length
    refine tail_any (ops := [.ref a, .ref s4.heap.objs.size]) ht.typeIs (PyProof.Rows.slot_tuple_getitem.lookup) ?_ (by with_unfolding_all rfl)
    refine tuple_rev ht hsl pl pu ps ?_ (by rw [List.size_toArray]; omega)
    exact ⟨.ref _, _, inv_tup (t' := s4.toks) I5 r.reverse (by rw [List.length_reverse]; exact hz), rfl, q _ _ (I5.hok.fresh (Nat.le_refl _))⟩
  · obtain ⟨t, rfl⟩ := r1
    refine tail_any (ops := [.str z t, .ref s4.heap.objs.size]) (typeIs_str _ _ _) (PySem.F.slot_str_getitem.lookup) ?_ (by with_unfolding_all rfl)
    obtain ⟨os, hos, hcs, hds⟩ := hsl
    obtain ⟨l, rfl, el⟩ := IsPart.raw pl
    obtain ⟨u, rfl, eu⟩ := IsPart.raw pu
    obtain ⟨st, rfl, es⟩ := IsPart.raw ps
    have el' : l = none := by cases l with
      | none => rfl
      | some _ => cases el
    have eu' : u = none := by cases u with
      | none => rfl
      | some _ => cases eu
    subst el' eu'
    cases st with
    | none => cases es
    | some ti =>
      obtain ⟨i, tk⟩ := ti
      have ei : i = -1 := (Option.some.inj es : i = (-1 : Int))
      subst ei
      refine wpAny_getItem_str_slice (l := none) (u := none) (st := some (-1, tk)) ⟨os, hos, hcs, hds⟩ rfl ?_
      show Made.post (if ((-1 : Int) == 1 && (slicePicked z none none (some (-1, tk))).length == z.length) = true then Made.val (.str z t) else Made.str (revS z)) (EP X pins σ Q) _
      rw [if_neg (by
        intro q
        rw [Bool.and_eq_true] at q
        exact absurd q.1 (by decide))]
      exact ⟨hz, .str _, H4, I5.tok _, ⟨_, rfl⟩, q⟩
def revD : PyData → Option PyData
  | .list ds => some (.list ds.reverse)
  | .tuple ds => some (.tuple ds.reverse)
  | .str z => if (revS z).length ≤ sizeLine then some (.str (revS z)) else none
  | _ => none
theorem un_rev {K : PySem.W.Frag} : UnOk K .S (rRevA K) revD := by
  intro M P H x dx d Q fx po mt rx e k
  cases dx with
  | list ds =>
    cases e
    obtain ⟨a, vs, rfl, l, r⟩ := rx.lst
    exact .inl ⟨a, vs, rfl, l, new_list po r.rev mt fun v P' H' f r => k v P' H' f (r.FtoS mt)⟩
  | tuple ds =>
    cases e
    obtain ⟨a, vs, rfl, l, r⟩ := rx.tup
    exact .inr (.inl ⟨a, vs, rfl, l.sq, fun p its hp => k _ P _ (.new po hp) ⟨p, _, rfl, .inl ⟨its, upd_same⟩, r.rev.fut0 (.new po hp)⟩⟩)
  | str z =>
    have e : (if (revS z).length ≤ sizeLine then some (PyData.str (revS z)) else none) = some d := e
    split at e
    · rename_i hz
      cases e
      obtain rfl := rx.str
      exact .inr (.inr ⟨z, rfl, hz, k _ P H (.refl po) rfl⟩)
    · cases e
  | _ => exact nomatch e
section
variable {X : Cx} {a : Expr} {ga : Ev → W PyData} {pos : Pos}
theorem ew_rev {k : Nat} {p1 p2 p3 : Pos} (ha : EW X .B a ga) : EW X .S (.Subscript a (.Slice none none (some (.UnaryOp .USub (.Constant (.int 1) k p1) p2)) p3) pos) (wU revD ga) := ew_un un_rev ha fun _ x => pe_revA x
end

/-! ### the module's constants -/
structure GC (K : PySem.W.Frag) (mg : Str → Option Value) (x : Str) (d : PyData) : Prop where
  ok : ∃ v u, mg x = some u ∧ RelV v u ∧ ∀ H M P, Rp K H M P d v
theorem ew_gc {X : Cx} {x : Str} {d : PyData} {pos : Pos} (h : GC X.K X.mg x d) (hg : Gl X x) (hd : (x == ("__debug__" : Str)) = false := by decide) : EW X .S (.Name x pos) (wC d) := by
  obtain ⟨v, u, hm, r, hr⟩ := h.ok
  exact ew_glob hg hm r hr hd
section
variable {K : PySem.W.Frag} {mg : Str → Option Value} {base : Heap} {x : Str}
theorem gc_int {n : Int} {t : Tok} (h : mg x = some (.int n t)) : GC K mg x (.int n) := ⟨.int n, _, h, ⟨t, rfl⟩, fun _ _ _ => rfl⟩
/-- a tuple of texts -/
def strsV : List Value → Option (List Str)
  | [] => some []
  | .str x _ :: r => (strsV r).map (x :: ·)
  | _ :: _ => none
theorem strs_rel {K : PySem.W.Frag} {H : Hp} {M P : Addr → Prop} : ∀ {vs : List Value} {ss : List Str}, strsV vs = some ss → Vals (ss.map V.str) vs ∧ RpA K H M P (ss.map PyData.str) (ss.map V.str)
  | [], _, e => by cases e; exact ⟨.nil, rfl⟩
  | .str x t :: r, _, e => by
    cases q : strsV r with
    | none => rw [strsV, q] at e; cases e
    | some ss =>
      rw [strsV, q] at e
      cases e
      obtain ⟨a, b⟩ := strs_rel q
      exact ⟨.cons ⟨t, rfl⟩ a, _, _, rfl, rfl, b⟩
  | .none :: _, _, e => nomatch e
  | .bool _ :: _, _, e => nomatch e
  | .int _ _ :: _, _, e => nomatch e
end
end WL

namespace WL
open PySem PySem.Spec PyProof.Rows L2

/-! ### pots -/
/-- a draw: any number below many -/
def drawF : Fn := fun ds Q => match ds with
  | [.dict [(.none, .none)], .int m] => 0 < m ∧ m < 2 ^ 30 ∧ ∀ d : Int, 0 ≤ d → d < m → Q (.int d)
  | _ => False
theorem mono_drawF : MonoF drawF := fun ds Q Q' i q => by
  unfold drawF at q ⊢
  split at q
  · obtain ⟨a, b, c⟩ := q
    exact ⟨a, b, fun d h h' => i _ (c d h h')⟩
  · exact q.elim
/-- one of a pot's two numbers -/
abbrev tPot (K : PySem.W.Frag) (k : Int) : TE := tOp (rIxL K) (tVar 0) (tC (.int k))
def tDraw (K : PySem.W.Frag) (c1 c2 c3 c4 c5 : Int) : TS :=
  tSeq (tIfS (tTest (tOp (rI0 fun i j => .bl (decide (j < i))) (tPot K 0) (tC (.int 0))))
      (tSeq (tAsg (tCB (fun xs H Q => ∃ i j, xs = [.int i, .int j] ∧ CDiv i j ∧ ∀ p, H p = none → Q (.ref p) (upd H p (.tup [.int (i / j), .int (i % j)]))) (tCons (tPot K 0) (tCons (tVar 1) tNil)))
          (gTup K 2 (gCons (gSub (tVar 0) (tC (.int 0)) rSetL) (gCons (gName 2) gNil)))) (tRet (tVar 2)))
      tNext)
    (tSeq (tAsg (tOp (rI (fun _ j => 0 < j) fun i j => .int (i % j)) (tCB (fun xs H Q => (∃ i, xs = [.int i] ∧ Q (.int i) H) ∨ ∃ k, xs = [.bl k] ∧ Q (.int (if k then 1 else 0)) H) (tCons (tOp (rI0 fun i j => .int (i + j)) (tOp (rI CMul fun i j => .int (i * j)) (tPot K 1) (tC (.int c1))) (tC (.int c2))) tNil)) (tC (.int c3)))
        (gSub (tVar 0) (tC (.int 1)) rSetL))
      (tRet (tOp (rI (fun _ j => 0 < j) fun i j => .int (i % j)) (tCB (fun xs H Q => (∃ i, xs = [.int i] ∧ Q (.int i) H) ∨ ∃ k, xs = [.bl k] ∧ Q (.int (if k then 1 else 0)) H) (tCons (tOp (rI CDiv fun i j => .int (i / j))
        (tOp (rI (fun _ j => 0 < j) fun i j => .int (i % j)) (tCB (fun xs H Q => (∃ i, xs = [.int i] ∧ Q (.int i) H) ∨ ∃ k, xs = [.bl k] ∧ Q (.int (if k then 1 else 0)) H) (tCons (tOp (rI CMul fun i j => .int (i * j)) (tPot K 1) (tPot K 1)) tNil)) (tC (.int c4))) (tC (.int c5))) tNil)) (tVar 1))))

theorem Fut.pot {P : Addr → Prop} {H : Hp} {a : Addr} {x y : Int} (po : PotsOk P H) (pa : P a) (hx : 0 ≤ x) (hy : 0 ≤ y) (hy2 : y < 2 ^ 32) : Fut S0 P H P (upd H a (.lst [.int x, .int y])) := by
  obtain ⟨x0, y0, e0, _⟩ := po.1 a pa
  refine ⟨fun _ h => h, fun b u e n _ => .of (by rw [upd_ne (fun z => n (by rw [z]; exact pa))]; exact e), fun _ h n => absurd h n, po, ⟨fun b pb => ?_, po.2.put e0⟩, fun b e => ?_, fun _ h => h.elim⟩
  · by_cases q : b = a
    · rw [q]
      exact ⟨x, y, upd_same, hx, hy, hy2⟩
    · obtain ⟨x', y', e, r⟩ := po.1 b pb
      exact ⟨x', y', by rw [upd_ne q]; exact e, r⟩
  · by_cases q : b = a
    · rw [q, upd_same]
      rfl
    · rw [upd_ne q]
      exact e
theorem draw_sem {K : PySem.W.Frag} {c1 c2 c3 c4 c5 : Int} {M P : Addr → Prop} {H : Hp} {a : Addr} {m : Int} {Q : VK} {D : Ends} (h1 : 0 ≤ c1 ∧ c1 < 2 ^ 60) (h3 : 0 < c3 ∧ c3 ≤ 2 ^ 32) (h4 : 0 < c4) (h5 : 0 < c5 ∧ c5 < 1073741824) (po : PotsOk P H) (pa : P a) (hm : 0 < m) (hm2 : m < 2 ^ 30)
    (hD : D.rt = Q) (q : ∀ d : Int, 0 ≤ d → d < m → ∀ v P' H', Fut S0 P H P' H' → RM .S K M H P' H' (.int d) v → Q v H') : tDraw K c1 c2 c3 c4 c5 D [some (.ref a), some (.int m), none] H := by
  obtain ⟨x, y, e, hx, hy, hy2⟩ := po.1 a pa
  have eL : SqL K H a [.int x, .int y] := .inl (.inl e)
  have e0 : atI [V.int x, V.int y] 0 = some (.int x) := rfl
  have e1 : atI [V.int x, V.int y] 1 = some (.int y) := rfl
  refine ⟨.ref a, rfl, ⟨a, _, 0, _, rfl, rfl, eL, e0, x, 0, rfl, rfl, _, rfl, ?_⟩⟩
  by_cases hx0 : 0 < x
  · rw [decide_eq_true hx0]
    refine iteT ?_
    refine ⟨.ref a, rfl, a, _, 0, _, rfl, rfl, eL, e0, .int m, rfl, x, m, rfl, ⟨hm, hm2⟩, fun p hp => ?_⟩
    have f1 : Fut S0 P H P (upd H p (.tup [.int (x / m), .int (x % m)])) := .new po hp
    have ne : a ≠ p := ne_of_none e hp
    refine ⟨p, _, rfl, .inl (.inl upd_same), rfl, .int (x / m), _, rfl, .ref a, rfl, a, [.int x, .int y], 0, 0, rfl, rfl, by rw [upd_ne ne]; exact e, rfl, .int (x % m), [], rfl, rfl, .int (x % m), rfl, ?_⟩
    rw [hD]
    have f2 := Fut.pot (x := x / m) (y := y) f1.ok' pa (Int.ediv_nonneg hx (by omega)) hy hy2
    exact q (x % m) (Int.emod_nonneg _ (by omega)) (Int.emod_lt_of_pos _ hm) _ P _ (f1.trans0 f2) rfl
  · rw [decide_eq_false hx0]
    refine iteF ?_
    refine ⟨.ref a, rfl, a, _, 1, _, rfl, rfl, eL, e1, y, c1, rfl, rfl, .inl ⟨by omega, by omega⟩, y * c1, c2, rfl, rfl, .inl ⟨_, rfl, _, c3, rfl, rfl, h3.1, .ref a, rfl, a, [.int x, .int y], 1, 1, rfl, rfl, e, rfl, ?_⟩⟩
    have hn : 0 ≤ (y * c1 + c2) % c3 := Int.emod_nonneg _ (by omega)
    have hl : (y * c1 + c2) % c3 < c3 := Int.emod_lt_of_pos _ h3.1
    have hb : (y * c1 + c2) % c3 < 2 ^ 32 := by omega
    have f1 : Fut S0 P H P (upd H a (.lst ([V.int x, V.int y].set 1 (.int ((y * c1 + c2) % c3))))) := Fut.pot (x := x) (y := (y * c1 + c2) % c3) po pa hx hn hb
    have eL2 : SqL K (upd H a (.lst ([V.int x, V.int y].set 1 (.int ((y * c1 + c2) % c3))))) a [.int x, .int ((y * c1 + c2) % c3)] := .inl (.inl upd_same)
    have e2 : atI [V.int x, V.int ((y * c1 + c2) % c3)] 1 = some (.int ((y * c1 + c2) % c3)) := rfl
    refine ⟨.ref a, rfl, a, _, 1, _, rfl, rfl, eL2, e2, .ref a, rfl, a, _, 1, _, rfl, rfl, eL2, e2, (y * c1 + c2) % c3, (y * c1 + c2) % c3, rfl, rfl, .inl ⟨by omega, by omega⟩, .inl ⟨_, rfl, _, c4, rfl, rfl, h4, _, c5, rfl, rfl, ⟨h5.1, h5.2⟩, .inl ⟨_, rfl, .int m, rfl, _, m, rfl, rfl, hm, ?_⟩⟩⟩
    rw [hD]
    exact q _ (Int.emod_nonneg _ (by omega)) (Int.emod_lt_of_pos _ hm) _ P _ f1 rfl
theorem draw_fn {P : Program} {w : World} {K : PySem.W.Frag} {mg : Str → Option Value} {base : Heap} {qual : Str} {st : Stmt} {f : Addr} {fd : FuncData} {c1 c2 c3 c4 c5 : Int} (F : Fun K "_law_draw" qual st f fd) (hm : mg "_law_draw" = some (.ref f)) (hb : Binds K fd ["pot", "many"] []) (S : FnScope ["pot", "many", "digit"] ["pot", "many"] (defScope st))
    (h1 : 0 ≤ c1 ∧ c1 < 2 ^ 60) (h3 : 0 < c3 ∧ c3 ≤ 2 ^ 32) (h4 : 0 < c4) (h5 : 0 < c5 ∧ c5 < 1073741824)
    (h : ∀ (cdv : Value) (A : Around) (outer : List Env) (s : Shared) (H : Hp) (E : XK), PSs (cxOf CX0 P w K mg base ["pot", "many", "digit"] qual (defScope st) f cdv A outer s H E).nox (defBody st) (tDraw K c1 c2 c3 c4 c5)) :
    FnW P w K mg base 1 "_law_draw" ["pot", "many"] .S drawF := by
  refine ⟨mono_drawF, f, fd, hm, F.kp, hb, fnG_of F S (fun vs H Q E hsp => ?_) fun cdv A outer s H vs Q E hr hgd hsp => ?_⟩
  · obtain ⟨M, Pt, ds, _, _, r, e, _⟩ := hsp
    exact r.len.trans e
  · obtain ⟨M, Pt, ds, mt, po, r, e, q⟩ := hsp
    refine ⟨_, (h cdv A outer s H E).nox, ?_⟩
    unfold drawF at q
    split at q
    · obtain ⟨hm1, hm2, q⟩ := q
      obtain ⟨v, vs', rfl, r1, u, vs'', rfl, r2, rfl⟩ := r
      obtain rfl : u = .int _ := r2
      rcases r1 with ⟨ks, e, _⟩ | ⟨_, a, rfl, pa⟩ | hC
      · exact nomatch e
      · exact draw_sem (M := M) h1 h3 h4 h5 po pa hm1 hm2 rfl q
      · exact hC.2.2.elim
    · exact q.elim
end WL

namespace WL
open PySem PySem.Spec PyProof.Rows L2

section
variable {P : Program} {w : World} {K : PySem.W.Frag} {mg : Str → Option Value} {base : Heap}
theorem FnG.imp {CX : CXT} {k : Nat} {f : Addr} {fd : FuncData} {ps : List Str} {sp sp' : Sp} (F : FnG P w K mg base CX k f fd ps sp) (h : ∀ vs H Q E, sp' vs H Q E → sp vs H Q E) : FnG P w K mg base CX k f fd ps sp' :=
  ⟨fun vs H Q E q => F.len vs H Q E (h _ _ _ _ q), fun A outer s H args us vs Q E hr hgd e0 hb r q => F.run A outer s H args us vs Q E hr hgd e0 hb r (h _ _ _ _ q)⟩
theorem vac_fnG {k : Nat} {f : Addr} {fd : FuncData} {ps : List Str} {m : Md} : FnG P w K mg base CX0 k f fd ps (spW K m ps.length fun _ _ => False) :=
  ⟨fun vs H Q E h => by
    obtain ⟨M, Pt, ds, _, _, _, _, q⟩ := h
    exact q.elim, fun A outer s H args us vs Q E hr hgd e0 hb r h => by
    obtain ⟨M, Pt, ds, _, _, _, _, q⟩ := h
    exact q.elim⟩
/-- a def that makes a pot, its answer as a pot -/
def potF (g : Fn) : Fn := fun ds Q => g ds fun d => ∃ x y : Int, d = .list [.int x, .int y] ∧ 0 ≤ x ∧ 0 ≤ y ∧ y < 2 ^ 32 ∧ Q potD
theorem FnW.pot {k : Nat} {x : Str} {ps : List Str} {g : Fn} (F : FnW P w K mg base k x ps .F g) : FnW P w K mg base k x ps .S (potF g) := by
  obtain ⟨mo, f, fd, a, b, c, d⟩ := F
  refine ⟨fun ds Q Q' i q => mo ds _ _ (fun d ⟨x, y, e, h1, h2, h3, q⟩ => ⟨x, y, e, h1, h2, h3, i _ q⟩) q, f, fd, a, b, c, d.imp fun vs H Q E ⟨M, Pt, ds, mt, po, r, e, q⟩ => ⟨M, Pt, ds, mt, po, r, e, mo ds _ _ (fun d ⟨x, y, e, h1, h2, h3, q⟩ v P' H' f rm => ?_) q⟩⟩
  obtain ⟨ds', p, vs', e1, rfl, np, ep, nP, ra⟩ := rm
  subst e
  cases e1
  obtain ⟨v1, r1, rfl, q1, v2, r2, rfl, q2, rfl⟩ := ra
  obtain rfl : v1 = .int x := q1
  obtain rfl : v2 = .int y := q2
  refine q (.ref p) (fun b => P' b ∨ b = p) H' ⟨fun b h => .inl (f.up b h), f.kp, fun b h n => h.elim (fun h => f.nw b h n) fun e => by rw [e]; exact np, f.ok, ⟨fun b h => ?_, f.ok'.2⟩, f.tr, f.ls⟩ (.inr (.inl ⟨rfl, p, rfl, .inr rfl⟩))
  rcases h with h | h
  · exact f.ok'.1 b h
  · rw [h]
    exact ⟨x, y, ep, h1, h2, h3⟩
theorem gc_strs {x : Str} {a : Addr} {its : Array Value} {n : Nat} {sl : Array (Option Value)} {ss : List Str} (hm : mg x = some (.ref a)) (hl : K.lookup a = some ⟨.type "tuple", none, .seq its n, sl⟩) (hs : strsV its.toList = some ss) (hz : its.size ≤ sizeLine := by decide) : GC K mg x (.tuple (ss.map PyData.str)) :=
  ⟨.ref a, _, hm, rfl, fun H M P => ⟨a, _, rfl, .inr ⟨_, its, n, hl, rfl, rfl, rfl, hz, (strs_rel (K := K) (H := H) (M := M) (P := P) hs).1⟩, (strs_rel hs).2⟩⟩
end
end WL

namespace WL
open PySem PySem.Spec PyProof.Rows L2

/-! ### comparisons as tests -/
section
variable {X : Cx} {a b c e : Expr} {ga gb gc : Ev → W PyData} {pos : Pos}
theorem eb_bin {r : R2} {op : PyData → PyData → Option PyData} (U : BinOk X.K .S r op) (ha : EW X .B a ga) (hb : EW X .B b gb)
    (h : ∀ ta tb, PE X a ta → PE X b tb → PT X e (tTest (tOp r ta tb))) : EB X e (wT (wB op ga gb)) := by
  refine ⟨mono_wT (mono_wB ha.mono hb.mono), (h _ _ ha.pe hb.pe.fx).imp fun σ H Q ⟨B, P, ρ, R, q⟩ => ⟨B, P, ρ, R, ha.mono ρ _ _ (fun dx q v P1 H1 f1 r1 => fun _ => ?_) q⟩⟩
  have R1 := R.fut f1
  refine ⟨B, P1, ρ, R1, hb.mono ρ _ _ (fun dy q v' P2 H2 f2 r2 fx => ?_) q⟩
  obtain ⟨d, e, k, ek, q⟩ := q
  subst ek
  have R2 := R1.fut f2
  exact U (Mo B ρ σ) P2 H2 v v' dx dy _ _ fx f2.ok' (fun a h => R2.mtrk h) (r1.fut f2) (by cases r2 with | inl z => exact .inl z | inr z => exact .inr z) e fun w P3 H3 f3 r3 => ⟨k, r3, q P3 H3 ((f1.trans0 f2).trans0 f3)⟩
theorem eb_cmp {op' : CmpOp} {r : R2} {op : PyData → PyData → Option PyData} (U : BinOk X.K .S r op) (ho : OpR X (compareOp op') r) (ha : EW X .B a ga) (hb : EW X .B b gb) (hm : behindInMarks op' b = false) : EB X (.Compare a [op'] [b] pos) (wT (wB op ga gb)) :=
  eb_bin U ha hb fun _ _ x y => pt_cmpR ho x y hm
theorem eb_lt (ha : EW X .B a ga) (hb : EW X .B b gb) : EB X (.Compare a [.Lt] [b] pos) (wT (wB ltI ga gb)) := eb_cmp (bin_int0 fun _ _ _ _ _ _ => rfl) op_lt ha hb (nomark _)
theorem eb_le (ha : EW X .B a ga) (hb : EW X .B b gb) : EB X (.Compare a [.LtE] [b] pos) (wT (wB leI ga gb)) := eb_cmp (bin_int0 fun _ _ _ _ _ _ => rfl) op_le ha hb (nomark _)
theorem eb_gt (ha : EW X .B a ga) (hb : EW X .B b gb) : EB X (.Compare a [.Gt] [b] pos) (wT (wB gtI ga gb)) := eb_cmp (bin_int0 fun _ _ _ _ _ _ => rfl) op_gt ha hb (nomark _)
theorem eb_ge (ha : EW X .B a ga) (hb : EW X .B b gb) : EB X (.Compare a [.GtE] [b] pos) (wT (wB geI ga gb)) := eb_cmp (bin_int0 fun _ _ _ _ _ _ => rfl) op_ge ha hb (nomark _)
theorem eb_eq (hu : X.A.units + 64 < cLine) (ha : EW X .B a ga) (hb : EW X .B b gb) : EB X (.Compare a [.Eq] [b] pos) (wT (wB eqD ga gb)) := eb_cmp bin_eqP (op_eqP hu) ha hb (nomark _)
theorem eb_ne (hu : X.A.units + 64 < cLine) (ha : EW X .B a ga) (hb : EW X .B b gb) : EB X (.Compare a [.NotEq] [b] pos) (wT (wB neD ga gb)) := eb_cmp bin_neP (op_neP hu) ha hb (nomark _)
theorem eb_in (ha : EW X .B a ga) (hb : EW X .B b gb) (hm : behindInMarks .In b = false := by rfl) : EB X (.Compare a [.In] [b] pos) (wT (wB (inD false) ga gb)) := eb_cmp bin_in op_in_seq ha hb hm
theorem eb_notIn (ha : EW X .B a ga) (hb : EW X .B b gb) (hm : behindInMarks .NotIn b = false := by rfl) : EB X (.Compare a [.NotIn] [b] pos) (wT (wB (inD true) ga gb)) := eb_cmp bin_in op_notIn_seq ha hb hm
theorem eb_isN {j p2} (ha : EW X .B a ga) : EB X (.Compare a [.Is] [.Constant .none j p2] pos) (wT (wB (isNonD false) ga (wC .none))) := eb_cmp bin_isN op_isN ha ew_non.toB (nomark _)
theorem eb_notN {j p2} (ha : EW X .B a ga) : EB X (.Compare a [.IsNot] [.Constant .none j p2] pos) (wT (wB (isNonD true) ga (wC .none))) := eb_cmp bin_notN op_notN ha ew_non.toB (nomark _)
theorem eb_chain {op op' : CmpOp} {r r' : R2} {f f' : PyData → PyData → Option PyData} (U : BinOk X.K .S r f) (U' : BinOk X.K .S r' f') (ho : OpR X (compareOp op) r) (ho' : OpR X (compareOp op') r') (ha : EW X .B a ga) (hb : EW X .B b gb) (hc : EW X .B c gc)
    (hm : lastMarks [op, op'] [b, c] = false := by with_unfolding_all rfl) : EB X (.Compare a [op, op'] [b, c] pos) (wT (wChain f f' ga gb gc)) := by
  refine ⟨mono_wT (mono_wChain ha.mono hb.mono hc.mono), (pt_chain ho ho' ha.pe hb.pe.fx hc.pe.fx hm).imp fun σ H Q ⟨B, P, ρ, R, q⟩ => ⟨B, P, ρ, R, ha.mono ρ _ _ (fun dx q v P1 H1 f1 r1 => fun _ => ?_) q⟩⟩
  refine ⟨B, P1, ρ, R.fut f1, hb.mono ρ _ _ (fun dy ⟨d, k, e, ek, q⟩ v' P2 H2 f2 r2 fx => ?_) q⟩
  have R2 := (R.fut f1).fut f2
  have r1' := r1.fut f2
  have r2' : RM .B X.K (Mo B ρ σ) H2 P2 H2 dy v' := by cases r2 with | inl z => exact .inl z | inr z => exact .inr z
  refine U (Mo B ρ σ) P2 H2 v v' dx dy d _ fx f2.ok' (fun a h => R2.mtrk h) (by cases r1' with | inl z => exact .inl z | inr z => exact .inr z) r2' e fun w P3 H3 f3 r3 => ?_
  subst ek
  refine ⟨k, r3, ?_⟩
  have f13 := (f1.trans0 f2).trans0 f3
  refine ite_mono (fun q => ?_) (fun ⟨z, ez, q⟩ => ⟨z, by cases ez; rfl, q P3 H3 f13⟩) q
  intro fx3
  refine ⟨B, P3, ρ, R.fut f13, hc.mono ρ _ _ (fun dz ⟨e, e1, z, ez, q⟩ u P4 H4 f4 r4 fx4 => ?_) q⟩
  subst ez
  have r2'' := (r2.fut f3).fut f4
  exact U' (Mo B ρ σ) P4 H4 v' u dy dz _ _ fx4 f4.ok' (fun a h => (R.fut (f13.trans0 f4)).mtrk h) (by cases r2'' with | inl z => exact .inl z | inr z => exact .inr z) (by cases r4 with | inl z => exact .inl z | inr z => exact .inr z) e1
    fun w' P5 H5 f5 r5 => ⟨z, r5, q P5 H5 ((f13.trans0 f4).trans0 f5)⟩
theorem eb_lele (ha : EW X .B a ga) (hb : EW X .B b gb) (hc : EW X .B c gc) (hm : lastMarks [.LtE, .LtE] [b, c] = false := by with_unfolding_all rfl) : EB X (.Compare a [.LtE, .LtE] [b, c] pos) (wT (wChain leI leI ga gb gc)) :=
  eb_chain (bin_int0 fun _ _ _ _ _ _ => rfl) (bin_int0 fun _ _ _ _ _ _ => rfl) op_le op_le ha hb hc hm
theorem eb_lelt (ha : EW X .B a ga) (hb : EW X .B b gb) (hc : EW X .B c gc) (hm : lastMarks [.LtE, .Lt] [b, c] = false := by with_unfolding_all rfl) : EB X (.Compare a [.LtE, .Lt] [b, c] pos) (wT (wChain leI ltI ga gb gc)) :=
  eb_chain (bin_int0 fun _ _ _ _ _ _ => rfl) (bin_int0 fun _ _ _ _ _ _ => rfl) op_le op_lt ha hb hc hm
end

/-- a, b, c = e1, e2, e3 -/
def wPar3 (i j l : Nat) (gs : Ev → W (List PyData)) : Ev → W Rs := fun ρ Q => gs ρ fun ds => ∃ d1 d2 d3, ds = [d1, d2, d3] ∧ Q (.nx (((ρ.set i (.sh d1)).set j (.sh d2)).set l (.sh d3)))
theorem es_par3 {X : Cx} {m : Md} {pos : Pos} {i j l : Nat} {x y z : Str} {a b c : Expr} {gs : Ev → W (List PyData)} {px py pz pt : Pos} {kt k2 pt2}
    (ha : EA X [a, b, c] gs) (hp : ∀ {ta : TA}, PA X [a, b, c] ta → PS X (.Assign [.Tuple [.Name x px, .Name y py, .Name z pz] kt pt] (.Tuple [a, b, c] k2 pt2) pos) (tPar3 i j l ta)) : ESt X m (.Assign [.Tuple [.Name x px, .Name y py, .Name z pz] kt pt] (.Tuple [a, b, c] k2 pt2) pos) (wPar3 i j l gs) :=
  ⟨fun ρ _ _ i q => ha.mono ρ _ _ (fun _ ⟨d1, d2, d3, e, q⟩ => ⟨d1, d2, d3, e, i _ q⟩) q, (hp ha.pa).imp fun D σ H ⟨B, P, ρ, R, q⟩ => ⟨B, P, ρ, R, ha.mono ρ _ _ (fun ds ⟨d1, d2, d3, e, q⟩ vs P1 H1 f1 r1 => by
    subst e
    obtain ⟨v, us, rfl, r1, w, us', rfl, r2, u, us2, rfl, r3, rfl⟩ := r1
    have R1 := R.fut f1
    have R2 := R1.set (i := i) r1
    have o2 : ∀ a, Mo B (ρ.set i (.sh d1)) (σ.set i (some v)) a → Mo B ρ σ a := fun a h => h.elim .inl fun h => .inr (own_set h)
    have R3 := R2.set (i := j) (r2.anti o2)
    have o3 : ∀ a, Mo B ((ρ.set i (.sh d1)).set j (.sh d2)) ((σ.set i (some v)).set j (some w)) a → Mo B ρ σ a := fun a h => h.elim .inl fun h => .inr (own_set (own_set h))
    have R4 := R3.set (i := l) (r3.anti o3)
    exact ⟨v, w, u, rfl, q _ P1 H1 (Gr.after f1 R ⟨(Fut.refl f1.ok').own R1, fun a h => .inl (own_set (own_set (own_set h)))⟩) R4⟩) q⟩⟩
end WL

namespace WL
open PySem PySem.Spec PyProof.Rows L2

/-! ### reading the denotations -/
section
variable {i j : Int}
@[simp] theorem leI_int : leI (.int i) (.int j) = some (.bool (decide (i ≤ j))) := rfl
@[simp] theorem ltI_int : ltI (.int i) (.int j) = some (.bool (decide (i < j))) := rfl
@[simp] theorem geI_int : geI (.int i) (.int j) = some (.bool (decide (j ≤ i))) := rfl
@[simp] theorem gtI_int : gtI (.int i) (.int j) = some (.bool (decide (j < i))) := rfl
@[simp] theorem subD_int : subD (.int i) (.int j) = some (.int (i - j)) := rfl
@[simp] theorem addAD_int : addAD (.int i) (.int j) = some (.int (i + j)) := rfl
@[simp] theorem negD_int : negD (.int i) = some (.int (-i)) := rfl
@[simp] theorem intD_int : intD (.int i) = some (.int i) := rfl
@[simp] theorem max2D_int : max2D (.int i) (.int j) = some (.int (if j > i then j else i)) := rfl
@[simp] theorem min2D_int : min2D (.int i) (.int j) = some (.int (if j < i then j else i)) := rfl
@[simp] theorem absD_int : absD (.int i) = some (.int (if i < 0 then -i else i)) := rfl
theorem modD_int (h : 0 < j) : modD (.int i) (.int j) = some (.int (i % j)) := if_pos h
theorem mulD_int (h : CMul i j) : mulD (.int i) (.int j) = some (.int (i * j)) := if_pos h
@[simp] theorem lenD_list {ds : List PyData} : lenD (.list ds) = some (.int ds.length) := rfl
@[simp] theorem lenD_tuple {ds : List PyData} : lenD (.tuple ds) = some (.int ds.length) := rfl
@[simp] theorem tupleD_list {ds : List PyData} : tupleD (.list ds) = some (.tuple ds) := rfl
@[simp] theorem tupleD_tuple {ds : List PyData} : tupleD (.tuple ds) = some (.tuple ds) := rfl
@[simp] theorem listD_list {ds : List PyData} : listD (.list ds) = some (.list ds) := rfl
@[simp] theorem listD_tuple {ds : List PyData} : listD (.tuple ds) = some (.list ds) := rfl
@[simp] theorem itemsD_list {ds : List PyData} : itemsD (.list ds) = some ds := rfl
@[simp] theorem itemsD_tuple {ds : List PyData} : itemsD (.tuple ds) = some ds := rfl
@[simp] theorem eqvD_int : eqvD (.int i) (.int j) = some (decide (i = j)) := by
  have h : eqvD (.int i) (.int j) = some (PyData.eqv (.int i) (.int j)) := if_pos rfl
  rw [h]
  simp only [PyData.eqv]
  congr 1
@[simp] theorem eqD_int : eqD (.int i) (.int j) = some (.bool (decide (i = j))) := by unfold eqD; rw [eqvD_int]; rfl
@[simp] theorem neD_int : neD (.int i) (.int j) = some (.bool (!decide (i = j))) := by unfold neD; rw [eqvD_int]; rfl
theorem eqvD_str {a b : Str} (ha : PyData.strOk a = true) (hb : PyData.strOk b = true) : eqvD (.str a) (.str b) = some (a == b) := by
  have h : eqvD (.str a) (.str b) = some (PyData.eqv (.str a) (.str b)) := if_pos (by
    have h1 : SeqAt.shaped (.str a) = true := by simp [SeqAt.shaped, PyData.canLay0, ha, PyData.depth]
    have h2 : SeqAt.shaped (.str b) = true := by simp [SeqAt.shaped, PyData.canLay0, hb, PyData.depth]
    rw [h1, h2]
    rfl)
  rw [h]
  simp only [PyData.eqv]
theorem eqD_str {a b : Str} (ha : PyData.strOk a = true) (hb : PyData.strOk b = true) : eqD (.str a) (.str b) = some (.bool (a == b)) := by unfold eqD; rw [eqvD_str ha hb]; rfl
theorem neD_str {a b : Str} (ha : PyData.strOk a = true) (hb : PyData.strOk b = true) : neD (.str a) (.str b) = some (.bool (!(a == b))) := by unfold neD; rw [eqvD_str ha hb]; rfl
theorem eqvD_strs {a b : Str} : eqvD (.str a) (.str b) = some (a == b) := by
  unfold eqvD
  split
  · simp only [PyData.eqv]
  · rfl
theorem neD_strs {a b : Str} : neD (.str a) (.str b) = some (.bool (!(a == b))) := by unfold neD; rw [eqvD_strs]; rfl
/-- a tuple against the empty one -/
@[simp] theorem eqvD_tup0 {xs : List PyData} : eqvD (.tuple xs) (.tuple []) = some xs.isEmpty := by
  unfold eqvD
  split
  · cases xs <;> simp [PyData.eqv, PyData.eqvAll]
  · cases xs <;> simp [emp2]
@[simp] theorem eqD_tup0 {xs : List PyData} : eqD (.tuple xs) (.tuple []) = some (.bool xs.isEmpty) := by unfold eqD; rw [eqvD_tup0]; rfl
@[simp] theorem neD_tup0 {xs : List PyData} : neD (.tuple xs) (.tuple []) = some (.bool (!xs.isEmpty)) := by unfold neD; rw [eqvD_tup0]; rfl
@[simp] theorem eqvD_lst0 {xs : List PyData} : eqvD (.list xs) (.list []) = some xs.isEmpty := by
  unfold eqvD
  split
  · cases xs <;> simp [PyData.eqv, PyData.eqvAll]
  · cases xs <;> simp [emp2]
@[simp] theorem ixD_0 {x : PyData} {xs : List PyData} : ixD (.tuple (x :: xs)) (.int 0) = some x := by
  show atI (x :: xs) ((0 : Nat) : Int) = some x
  exact atI_nat rfl
@[simp] theorem ixD_l0 {x : PyData} {xs : List PyData} : ixD (.list (x :: xs)) (.int 0) = some x := by
  show atI (x :: xs) ((0 : Nat) : Int) = some x
  exact atI_nat rfl
theorem atI_of {xs : List PyData} {k : Nat} (h : k < xs.length) : atI xs (k : Int) = some xs[k] := atI_nat (List.getElem?_eq_getElem h)
@[simp] theorem ixD_1 {x y : PyData} {xs : List PyData} : ixD (.tuple (x :: y :: xs)) (.int 1) = some y := by
  show atI (x :: y :: xs) ((1 : Nat) : Int) = some y
  exact atI_nat rfl
theorem cut_from {xs : List PyData} {k : Nat} : cutP xs (some (k : Int)) none = xs.drop k := by
  unfold cutP
  rw [show HT.sIx xs.length 0 (some (k : Int)) = min k xs.length from HT.sIx_nat _ _ _, HT.sIx_none]
  by_cases h : k ≤ xs.length
  · rw [Nat.min_eq_left h, List.take_of_length_le (by rw [List.length_drop]; omega)]
  · rw [Nat.min_eq_right (by omega), List.drop_of_length_le (Nat.le_refl _), List.drop_of_length_le (by omega)]
    simp
theorem cut_to {xs : List PyData} {k : Nat} : cutP xs none (some (k : Int)) = xs.take k := by
  unfold cutP
  rw [show HT.sIx xs.length xs.length (some (k : Int)) = min k xs.length from HT.sIx_nat _ _ _, HT.sIx_none]
  simp only [List.drop_zero, Nat.sub_zero]
  by_cases h : k ≤ xs.length
  · rw [Nat.min_eq_left h]
  · rw [Nat.min_eq_right (by omega), List.take_of_length_le (Nat.le_refl _), List.take_of_length_le (by omega)]
@[simp] theorem cut_1 {xs : List PyData} : cutP xs (some 1) none = xs.drop 1 := cut_from (k := 1)
@[simp] theorem cut_2 {xs : List PyData} : cutP xs (some 2) none = xs.drop 2 := cut_from (k := 2)
@[simp] theorem cutD_tuple {xs : List PyData} {lo hi : Option Int} : cutD (.tuple xs) lo hi = some (.tuple (cutP xs lo hi)) := rfl
@[simp] theorem cutD_list {xs : List PyData} {lo hi : Option Int} : cutD (.list xs) lo hi = some (.list (cutP xs lo hi)) := rfl
end
/-- a comprehension whose items are told one by one -/
theorem wLc1_map {c : Ev → W Bool} {g : Ev → W PyData} {st : Set1} {ρ : Ev} {f : PyData → PyData} : ∀ {ds : List PyData} {Q : List PyData → Prop},
    (∀ d ∈ ds, ∀ R : PyData → Prop, R (f d) → ∃ ρ', st d ρ = some ρ' ∧ c ρ' fun b => b = true ∧ g ρ' R) → (∀ ρ' (R R' : Bool → Prop), (∀ b, R b → R' b) → c ρ' R → c ρ' R') → Q (ds.map f) → wLc1 st c g ρ ds Q
  | [], _, _, _, q => q
  | d :: ds, Q, h, mc, q => by
    obtain ⟨ρ', e, hc⟩ := h d List.mem_cons_self (fun y => wLc1 st c g ρ ds fun ys => Q (y :: ys)) (wLc1_map (fun x hx => h x (List.mem_cons_of_mem _ hx)) mc q)
    exact ⟨ρ', e, mc ρ' _ _ (fun b hb => by
      obtain ⟨rfl, hb⟩ := hb
      exact hb) hc⟩
/-- .. without a test -/
theorem wLc1_all {g : Ev → W PyData} {st : Set1} {ρ : Ev} {f : PyData → PyData} {ds : List PyData} {Q : List PyData → Prop}
    (h : ∀ d ∈ ds, ∀ R : PyData → Prop, R (f d) → ∃ ρ', st d ρ = some ρ' ∧ g ρ' R) (q : Q (ds.map f)) : wLc1 st wYes g ρ ds Q :=
  wLc1_map (fun d hd R r => by
    obtain ⟨ρ', e, hg⟩ := h d hd R r
    exact ⟨ρ', e, rfl, hg⟩) (fun ρ' R R' i q => i _ q) q
/-- .. by a rule for each item: some answer that is right -/
theorem wLc1_any {g : Ev → W PyData} {st : Set1} {ρ : Ev} {G : PyData → Prop} : ∀ {ds : List PyData} {Q : List PyData → Prop},
    (∀ d ∈ ds, ∀ R : PyData → Prop, (∀ y, G y → R y) → ∃ ρ', st d ρ = some ρ' ∧ g ρ' R) → (∀ ys, ys.length = ds.length → (∀ y ∈ ys, G y) → Q ys) → wLc1 st wYes g ρ ds Q
  | [], _, _, q => q [] rfl fun _ h => nomatch h
  | d :: ds, Q, h, q => by
    obtain ⟨ρ', e, hg⟩ := h d List.mem_cons_self (fun y => wLc1 st wYes g ρ ds fun ys => Q (y :: ys)) (fun y hy => wLc1_any (fun x hx => h x (List.mem_cons_of_mem _ hx)) fun ys hl hys => q _ (by simp [hl]) (by
      intro z hz
      rcases List.mem_cons.mp hz with rfl | hz
      · exact hy
      · exact hys z hz))
    exact ⟨ρ', e, hg⟩
theorem allBools_map {α : Type} (f : α → Bool) : ∀ l : List α, allBools (l.map fun x => .bool (f x)) = some (l.map f)
  | [] => rfl
  | x :: l => by
    show (allBools (l.map fun x => .bool (f x))).map (f x :: ·) = _
    rw [allBools_map f l]
    rfl
theorem allD_map {α : Type} (f : α → Bool) (l : List α) : allD (.list (l.map fun x => .bool (f x))) = some (.bool (l.all f)) := by
  show (allBools (l.map fun x => .bool (f x))).map _ = _
  rw [allBools_map]
  simp [List.all_map]
theorem allInts_map {α : Type} (f : α → Int) : ∀ l : List α, allInts (l.map fun x => .int (f x)) = some (l.map f)
  | [] => rfl
  | x :: l => by
    show (allInts (l.map fun x => .int (f x))).map (f x :: ·) = _
    rw [allInts_map f l]
    rfl
theorem sumD_map {α : Type} (f : α → Int) (l : List α) : sumD (.list (l.map fun x => .int (f x))) = some (.int (l.map f).sum) := by
  show (allInts (l.map fun x => .int (f x))).map _ = _
  rw [allInts_map]
  rfl
end WL

namespace WL
open PySem PySem.Spec PyProof.Rows L2

/-! ### xs.count(x), flat things -/
theorem vals_mem {u : Value} : ∀ {xs : List V} {us : List Value}, Vals xs us → u ∈ us → ∃ y ∈ xs, RelV y u
  | _, _, .nil, h => nomatch h
  | _, _, .cons (a := a) r t, h => by
    rcases List.mem_cons.mp h with e | h
    · exact ⟨a, List.mem_cons_self, by rw [e]; exact r⟩
    · obtain ⟨y, hy, ry⟩ := vals_mem t h
      exact ⟨y, List.mem_cons_of_mem _ hy, ry⟩
theorem count_vals {x : V} : ∀ {xs : List V} {us : List Value}, Vals xs us → xs.all flatV = true → us.countP (eqU x) = xs.countP fun y => eqV y x
  | _, _, .nil, _ => rfl
  | _, _, .cons r t, f => by
    rw [List.all_cons, Bool.and_eq_true] at f
    rw [List.countP_cons, List.countP_cons, count_vals t f.2, eqU_of r f.1]
def rCntF (K : PySem.W.Frag) : V → List V → Hp → VK → Prop := fun x xs H Q => ∃ (p : Addr) (vs : List V) (k : V), x = .ref p ∧ xs = [k] ∧ SqL K H p vs ∧ vs.all flatV = true ∧ flatV k = true ∧ Q (.int (vs.countP (fun y => eqV y k) : Nat)) H
theorem mt_cntF {X : Cx} : MtR X "list.count" (rCntF X.K) := by
  intro pins s σ H x xs v us Q I rx rxs h
  obtain ⟨p, vs, k, rfl, rfl, hs, hf, hk, q⟩ := h
  cases rx
  obtain ⟨u, rfl, ru⟩ := rxs.one
  obtain ⟨its, rv, ⟨⟨cls, dd, data, sl⟩, n, ho, hc, hdn, hd⟩, hlen⟩ := I.list hs
  simp only at hc hd
  subst hc hd
  refine call_meets PySem.F.slot_list_count ⟨_, ho, rfl⟩ PySem.F.entry_list_count (PySem.F.args_list_count_2 _ _)
    (SeqAt.list_countAt p its.toArray n dd sl u (eqU k)) ⟨ho, fun y hy => ?_, ?_⟩
  · obtain ⟨z, hz, rz⟩ := vals_mem rv (by simpa using hy)
    have fz := List.all_eq_true.mp hf z hz
    rw [eqU_of rz fz]
    exact eqAt_V rz ru fz hk
  · refine ⟨.int (vs.countP (fun y => eqV y k) : Nat), H, I.tok _, ⟨s.toks, ?_⟩, q⟩
    show Value.int ((its.toArray.toList.countP (eqU k) : Nat) : Int) s.toks = Value.int ((vs.countP (fun y => eqV y k) : Nat) : Int) s.toks
    rw [List.toList_toArray, count_vals rv hf]
def cntD (x y : PyData) : Option PyData := match x with
  | .list ds => if flatD y && ds.all flatD then some (.int (ds.countP fun d => eqFlat d y : Nat)) else none
  | _ => none
theorem countP_flat {x : PyData} (fx : flatD x = true) : ∀ {ds : List PyData}, ds.all flatD = true → (ds.map toV).countP (fun v => eqV v (toV x)) = ds.countP fun d => eqFlat d x
  | [], _ => rfl
  | d :: ds, f => by
    rw [List.all_cons, Bool.and_eq_true] at f
    rw [List.map_cons, List.countP_cons, List.countP_cons, countP_flat fx f.2, eqV_flat f.1 fx]
section
variable {X : Cx} {o e : Expr} {go ge : Ev → W PyData}
/-- x.m(y) of a list x -/
def wBL (op : PyData → PyData → Option PyData) (ga gb : Ev → W PyData) : Ev → W PyData := fun ρ Q => ga ρ fun x => (∃ ds, x = .list ds) ∧ gb ρ fun y => ∃ d, op x y = some d ∧ Q d
theorem mono_wBL {op : PyData → PyData → Option PyData} {ga gb : Ev → W PyData} (h : Mono ga) (h' : Mono gb) : Mono (wBL op ga gb) := fun ρ _ _ i q => h ρ _ _ (fun _ ⟨l, q⟩ => ⟨l, h' ρ _ _ (fun _ ⟨d, e, q⟩ => ⟨d, e, i d q⟩) q⟩) q
theorem ew_count {call : Expr} (ho : EW X .B o go) (he : EW X .B e ge) (hp : ∀ {to te : TE}, PE X o to → PE X e te → PE X call (tBM X.K "list" (rCntF X.K) to (tCons te tNil))) : EW X .S call (wBL cntD go ge) := by
  refine ⟨mono_wBL ho.mono he.mono, (hp ho.pe he.pe).imp fun σ H Q ⟨B, P, ρ, R, q⟩ => ⟨B, P, ρ, R, ho.mono ρ _ _ (fun dx q v P1 H1 f1 r1 => ?_) q⟩⟩
  obtain ⟨⟨ds, rfl⟩, q⟩ := q
  have R1 := R.fut f1
  obtain ⟨a, vs, rfl, sq, r⟩ := r1.lst
  refine ⟨.inl ⟨rfl, vs, sq⟩, B, P1, ρ, R1, he.mono ρ _ _ (fun dy q v' P2 H2 f2 r2 => ?_) q⟩
  obtain ⟨d, e, q⟩ := q
  have R2 := R1.fut f2
  obtain ⟨a', vs', ea, sq', r'⟩ := (r1.fut f2).lst
  cases ea
  have e : (if (flatD dy && ds.all flatD) = true then some (PyData.int (ds.countP fun d => eqFlat d dy : Nat)) else none) = some d := e
  split at e
  · rename_i c
    cases e
    rw [Bool.and_eq_true] at c
    obtain ⟨e1, g1⟩ := flat_toV c.1 (r2.flat (m := .B) c.1)
    obtain ⟨e2, g2⟩ := flat_all c.2 r'
    refine ⟨a, vs', v', rfl, rfl, sq', g2, g1, ?_⟩
    rw [e1, e2, countP_flat c.1 c.2]
    exact q _ P2 H2 (f1.trans0 f2) rfl
  · cases e
end
end WL

namespace WL
open PySem PySem.Spec PyProof.Rows L2

/-! ### defs with defaults -/
theorem fnG_ofD {CX : CXT} {P : Program} {w : World} {K : PySem.W.Frag} {mg : Str → Option Value} {base : Heap} {k : Nat} {x qual : Str} {st : Stmt} {f : Addr} {fd : FuncData} {N ps : List Str} {dvs : List V} {kws : List (Str × V)} {sp : Sp} (F : FunD K x qual (defArgs st) (defBody st) (defScope st) dvs kws f fd) (S : FnScope N ps (defScope st))
    (len : ∀ vs H Q E, sp vs H Q E → vs.length = ps.length)
    (hbody : ∀ (cdv : Value) (A : Around) (outer : List Env) (s : Shared) (H : Hp) (vs : List V) (Q : VK) (E : XK), Room k (A.deeper (envOfC qual (defScope st) s.heap.objs.size f cdv)) → A.guards = some [] → sp vs H Q E →
      ∃ t, PSs (cxOf CX P w K mg base N qual (defScope st) f cdv A outer s H E) (defBody st) t ∧ t { nx := fun _ H' => Q .non H', rt := Q } (L2.start N vs) H) :
    FnG P w K mg base CX (k + 1) f fd ps sp := by
  obtain ⟨oc, od, dV, kV, doc, pm, an, cdv, ct, osl, rfl, lk, hcd, _, _⟩ := F.ex
  refine ⟨len, fun A outer s H args us vs Q E hr hgd e0 hb r hsp => ?_⟩
  have hl := len vs H Q E hsp
  have keepB : ∀ b o, base.get? b = some o → s.heap.get? b = some o := fun b o z => (e0.bs b o z).1
  have KX : K.In s.heap := e0.mod.kin.keeps keepB
  refine codeAny_call_function hr.depth (KX _ _ lk) rfl S.co S.gen rfl (PySem.W.codeRec_of KX hcd) (hb _ _ _ _ ?_)
  have hk : ∀ y ∈ ps.zip us, (defScope st).names.lookup y.1 = some .local ∨ ((defScope st).names.lookup y.1 = some .cell ∧ ((cellsFrom (s.heap.objs.size + 1) (defScope st).names []).lookup y.1).isSome = true) := fun ⟨n, v⟩ hy =>
    (S.par n (List.of_mem_zip hy).1).elim .inl fun q => .inr ⟨q, PySem.W.cellsFrom_some _ _ _ (.inl q)⟩
  refine wpAny_newFunctionEnv_cells S.kind hk fun env he s1 xc => ?_
  subst he
  refine ⟨(e0.mod.nolimit.keeps keepB).keeps xc.toInCall.keep, codeAny_func ?_⟩
  obtain ⟨t, ht, hq⟩ := hbody cdv A outer s H vs Q E (hr.deeper _) hgd hsp
  refine wpAny_mono (ht.run [] s1 (L2.start N vs) H _ (inv_start S hr.hd e0 hl r xc) hq) (fun fl s' hs => ?_) fun _ _ z => z
  cases fl with
  | ret u => obtain ⟨v, σ', H', J, rv, q⟩ := hs; exact ⟨v, H', J.os, J.bare, J.base, J.hok, rv, q⟩
  | next => obtain ⟨σ', H', J, q⟩ := hs; exact ⟨V.non, H', J.os, J.bare, J.base, J.hok, rfl, q⟩
  | brk => obtain ⟨_, _, _, q⟩ := hs; exact q.elim
  | cont => obtain ⟨_, _, _, q⟩ := hs; exact q.elim
section
variable {P : Program} {w : World} {K : PySem.W.Frag} {mg : Str → Option Value} {base : Heap}
theorem fnG_bodyD {x qual : Str} {st : Stmt} {f : Addr} {fd : FuncData} {N ps : List Str} {dvs : List V} {kws : List (Str × V)} {k : Nat} {m : Md} {g : Ev → W Rs} (F : FunD K x qual (defArgs st) (defBody st) (defScope st) dvs kws f fd) (S : FnScope N ps (defScope st))
    (h : ∀ (cdv : Value) (A : Around) (outer : List Env) (s : Shared) (H : Hp) (E : XK), Room k (A.deeper (envOfC qual (defScope st) s.heap.objs.size f cdv)) → A.guards = some [] → ESs (cxOf CX0 P w K mg base N qual (defScope st) f cdv A outer s H E).nox m (defBody st) g) :
    FnG P w K mg base CX0 (k + 1) f fd ps (spW K m ps.length (gBody m N.length g)) := by
  refine fnG_ofD F S (fun vs H Q E hsp => ?_) fun cdv A outer s H vs Q E hr hgd hsp => ?_
  · obtain ⟨M, Pt, ds, _, _, r, e, _⟩ := hsp
    rw [r.len, e]
  · obtain ⟨M, Pt, ds, mt, po, r, e, q⟩ := hsp
    have hB := h cdv A outer s H E hr hgd
    have hpl : ps.length ≤ N.length := by
      have := congrArg List.length S.pre
      rw [List.length_take] at this
      omega
    obtain ⟨R, no⟩ := RE.enter (N := N) po mt r (by omega)
    obtain ⟨Rq, q, hRq⟩ := q
    refine ⟨_, hB.pss.nox, M, Pt, _, R, hB.mono _ _ _ (fun rs z => ?_) q⟩
    have q := hRq rs z
    have hf : ∀ {P' : Addr → Prop} {H' : Hp}, Fut (Own (args N.length ds) (start N vs)) Pt H P' H' → Fut S0 Pt H P' H' := fun f => f.mono (fun c z => (no c z).elim) fun _ z => z.elim
    cases rs with
    | rt d =>
      refine fun v P' H' f rr => q v P' H' (hf f) ?_
      cases m with
      | S => exact rr
      | B => exact .inl rr
      | F =>
        obtain ⟨ds', p, us, e1, e2, h0, e3, n, ra⟩ := rr
        exact ⟨ds', p, us, e1, e2, h0.elim id fun z => (no p z).elim, e3, n, ra⟩
    | nx ρ =>
      obtain ⟨rfl, q⟩ := q
      exact fun σ' P' H' gr R' => q .non P' H' (hf gr.fut) rfl
    | bk ρ => exact q.elim
    | ct ρ => exact q.elim

end
theorem rp_toV {K : PySem.W.Frag} {H : Hp} {M P : Addr → Prop} {d : PyData} (f : flatD d = true) : Rp K H M P d (toV d) := by
  cases d with
  | none => rfl
  | bool b => rfl
  | int i => rfl
  | str x => rfl
  | _ => exact nomatch f
theorem rpA_toV {K : PySem.W.Frag} {H : Hp} {M P : Addr → Prop} : ∀ {ds : List PyData}, ds.all flatD = true → RpA K H M P ds (ds.map toV)
  | [], _ => rfl
  | d :: ds, f => by
    rw [List.all_cons, Bool.and_eq_true] at f
    exact ⟨toV d, ds.map toV, rfl, rp_toV f.1, rpA_toV f.2⟩
/-- a def called with n arguments, dds the defaults behind them -/
structure FnD (P : Program) (w : World) (K : PySem.W.Frag) (mg : Str → Option Value) (base : Heap) (k : Nat) (x : Str) (n : Nat) (dds : List PyData) (m : Md) (g : Fn) : Prop where
  mono : MonoF g
  ok : ∃ f fd ps ds, mg x = some (.ref f) ∧ PySem.W.keepIn K (.ref f) = true ∧ Binds K fd ps ds ∧ Vals (dds.map toV) ds ∧ dds.all flatD = true ∧ ps.length = n + dds.length ∧ FnG P w K mg base CX0 k f fd ps (spW K m ps.length g)
def wCallD (n : Nat) (dds : List PyData) (g : Fn) (gs : Ev → W (List PyData)) : Ev → W PyData := fun ρ Q => gs ρ fun ds => ds.length = n ∧ g (ds ++ dds) Q
theorem mono_wCallD {n : Nat} {dds : List PyData} {g : Fn} {gs : Ev → W (List PyData)} (h : MonoF g) (h' : Mono gs) : Mono (wCallD n dds g gs) := fun ρ _ _ i q => h' ρ _ _ (fun ds ⟨e, q⟩ => ⟨e, h _ _ _ i q⟩) q
section
variable {X : Cx} {k j : Nat} {x : Str} {ps : List Str} {m : Md} {g : Fn} {gs : Ev → W (List PyData)} {e : Expr} {es : List Expr} {p pos : Pos}
theorem ew_callD {n : Nat} {dds : List PyData} (F : FnD X.prog X.w X.K X.mg X.base k x n dds m g) (hr : Room j X.A) (hgd : X.A.guards = some []) (hk : k ≤ j) (hg : Gl X x) (ha : EA X (e :: es) gs) (hdb : (x == ("__debug__" : Str)) = false := by decide)
    (he : starEach (e :: es) X.env = (false, eval e X.env) :: starEach es X.env := by rfl) (hpl : (backTo pos (starEach es X.env)).any (·.1) = false := by rfl) : EW X m (.Call (.Name x p) (e :: es) [] pos) (wCallD n dds g gs) := by
  obtain ⟨mo, f, fd, ps, dvs, hm, kp, hb, hd, hf, hl, ok⟩ := F
  refine ⟨mono_wCallD mo ha.mono, ⟨fun pins s σ H Q I ⟨B, P, ρ, R, q⟩ => ?_⟩⟩
  refine wpAny_Call_Name_kw (ld_glob I hg hm ?_ hdb)
  have ta : tWa X.K gs σ H fun vs H1 => vs.length = n ∧ spW X.K m ps.length g (vs ++ dds.map toV) H1 Q E0 := ⟨B, P, ρ, R, ha.mono ρ _ _ (fun ds ⟨el, q⟩ vs P1 H1 f1 r1 => ⟨by rw [r1.len, el],
    Mo B ρ σ, P1, ds ++ dds, fun a h => (R.fut f1).mtrk h, f1.ok', r1.append (rpA_toV hf), by rw [List.length_append, el, hl], mo _ _ _ (fun d q v P2 H2 f2 r2 => q v P2 H2 (f1.trans0 f2) (r2.back f1)) q⟩) q⟩
  refine PySem.W.callWith_K (h₀ := X.base) I.ok.mod.kin kp (thn (ha.pa.run pos pins s σ H _ I ta) fun us s1 ⟨vs, H1, I1, r, hl1, q1⟩ => ⟨I1.kIn, ?_⟩) he hpl
  refine wpAny_call (codeAny_mono (runG ok (hr.mono hk) hgd (us := us ++ dvs) (hb s1 us I1.kIn (by
    have l1 : us.length = n := by rw [← r.length]; exact hl1
    have l2 : dvs.length = dds.length := by rw [← hd.length, List.length_map]
    rw [List.length_append, l1, l2, hl])) pass0 I1 (vals_app r hd) q1) fun res s' z => ?_)
  cases res with
  | error e => exact z
  | ok fl => cases fl <;> first | exact z | exact z.elim
end

section
variable {P : Program} {w : World} {K : PySem.W.Frag} {mg : Str → Option Value} {base : Heap} {x qual : Str} {st : Stmt} {f : Addr} {fd : FuncData} {N ps : List Str} {k : Nat} {m : Md} {g : Fn} {dvs : List V} {kws : List (Str × V)}
theorem fnD_of {n j : Nat} {dds : List PyData} (mo : MonoF g) (F : FunD K x qual (defArgs st) (defBody st) (defScope st) dvs kws f fd) (hm : mg x = some (.ref f)) (hd : dvs ≠ []) (e : dvs.drop j = dds.map toV) (hf : dds.all flatD = true) (hn : n + (dvs.length - j) = ps.length)
    (hb : ∀ (T : Addr) (kV doc pm : Value) (an : Option Addr) (cdv ct : Value) (us its : List Value), us.length = n → its.length = dvs.length →
      ∃ k, bindArgs (PySem.W.fnOf x qual (defArgs st) (defBody st) (defScope st) (.ref T) kV doc pm an cdv ct) ⟨us, []⟩ = seqItems? (.ref T) >>= k ∧ k (some its.toArray) = pure (ps.zip (us ++ its.drop j)))
    (h : FnG P w K mg base CX0 k f fd ps (spW K m ps.length g)) : FnD P w K mg base k x n dds m g := by
  obtain ⟨ds, r, b⟩ := F.binds1 n j hd hn hb
  rw [e] at r
  exact ⟨mo, f, fd, ps, ds, hm, F.kp, b, r, hf, by rw [← hn, ← List.length_drop, e, List.length_map], h⟩
def intsV : List Value → Option (List Int)
  | [] => some []
  | .int i _ :: r => match intsV r with
    | some l => some (i :: l)
    | none => none
  | _ => none
theorem intsV_vals : ∀ {us : List Value} {is : List Int}, intsV us = some is → Vals (is.map V.int) us
  | [], _, e => by cases e; exact .nil
  | .int i t :: r, is, e => by
    unfold intsV at e
    split at e
    · rename_i l el
      cases e
      exact .cons ⟨t, rfl⟩ (intsV_vals el)
    · cases e
theorem funD_mk {oc tc : Value} {od td an : Option Addr} {T : Addr} {u : Array Value} {nn : Nat} {osl ts : Array (Option Value)} {kV doc pm cdv ct : Value} {is : List Int} (l : K.lookup f = some ⟨oc, od, .func (PySem.W.fnOf x qual (defArgs st) (defBody st) (defScope st) (.ref T) kV doc pm an cdv ct), osl⟩)
    (c : PySem.W.codeIn K cdv qual = true) (k : PySem.W.keepIn K (.ref f) = true) (lT : K.lookup T = some ⟨tc, td, .seq u nn, ts⟩) (p : intsV u.toList = some is) (h : is ≠ []) : FunD K x qual (defArgs st) (defBody st) (defScope st) (is.map V.int) [] f (PySem.W.fnOf x qual (defArgs st) (defBody st) (defScope st) (.ref T) kV doc pm an cdv ct) :=
  ⟨⟨oc, od, _, kV, doc, pm, an, cdv, ct, osl, rfl, l, c, .inr ⟨fun e => h (List.map_eq_nil_iff.mp e), T, _, u.toList, nn, rfl, lT, by rw [Array.toArray_toList], intsV_vals p⟩, .inl rfl⟩, k⟩
theorem fnW_ofD (mo : MonoF g) (F : FunD K x qual (defArgs st) (defBody st) (defScope st) dvs kws f fd) (hm : mg x = some (.ref f)) (hd : dvs ≠ []) {n : Nat} (hn : n = ps.length)
    (hb : ∀ (T : Addr) (kV doc pm : Value) (an : Option Addr) (cdv ct : Value) (us its : List Value), us.length = n → its.length = dvs.length →
      ∃ k, bindArgs (PySem.W.fnOf x qual (defArgs st) (defBody st) (defScope st) (.ref T) kV doc pm an cdv ct) ⟨us, []⟩ = seqItems? (.ref T) >>= k ∧ k (some its.toArray) = pure (ps.zip (us ++ its.drop dvs.length)))
    (h : FnG P w K mg base CX0 k f fd ps (spW K m ps.length g)) : FnW P w K mg base k x ps m g := by
  obtain ⟨ds, r, b⟩ := F.binds1 n dvs.length hd (by omega) hb
  rw [List.drop_length] at r
  cases r
  exact ⟨mo, f, fd, hm, F.kp, b, h⟩
end
end WL

set_option maxHeartbeats 4000000
namespace WL
open PySem PySem.Spec PyProof.Rows L2
/-! ### tuple * 1: the tuple itself -/
theorem tuple_mul1 (l : Addr) (items : Array Value) (n : Nat) (dd : Option Addr) (sl : Array (Option Value)) (x : Int) (u : Tok) (c0 : (decide (x < -(2 ^ 63)) || decide (x ≥ 2 ^ 63)) = false) (c1 : (items.isEmpty || x == 1) = true) :
    Meets (Builtin.«tuple.__mul__» ⟨[.ref l, .int x u], []⟩) (fun _ R s => s.heap.get? l = some { cls := .type "tuple", dict := dd, data := .seq items n, slots := sl } ∧
      R (.ok (.ret (Value.ref l))) s) :=
  .of_wp fun prog w A R s h => by
    obtain ⟨hp, g, d, tk, os⟩ := s
    obtain ⟨hl, h⟩ := h
    have f1 := AutoSeq1.idx_int
    wp_walk using wpAny_loadPart' hl
    repeat (first
      | (refine wpAny_ite_false (decide_eq_false (by rw [c0]; exact Bool.false_ne_true)) ?_; wp_walk using wpAny_loadPart' hl)
      | (refine wpAny_ite_true (decide_eq_true (by rw [c1])) ?_; wp_walk using wpAny_loadPart' hl))
    exact ⟨_, rfl, h⟩
def rRep1 (K : PySem.W.Frag) : R2 := fun x y H Q => ∃ l k xs, x = .ref l ∧ y = .int k ∧ SqT K H l xs ∧ (xs = [] ∨ k = 1) ∧ -1000 ≤ k ∧ k ≤ 1000 ∧ Q (.ref l) H
section
variable {X : Cx}
theorem op_rep1 : OpR X (binaryOp .Mult) (rRep1 X.K) := by
  intro pins s σ H x y v u Q I rx ry h
  obtain ⟨l, k, xs, rfl, rfl, hT, hne, h1, h2, q⟩ := h
  cases rx
  obtain ⟨t, rfl⟩ := ry
  obtain ⟨its, r, ⟨⟨cls, dd, data, sl⟩, ho, hc, n, hd⟩, hs⟩ := I.tuple hT
  simp only at hc hd
  subst hc hd
  have c0 : (decide (k < -(2 ^ 63)) || decide (k ≥ 2 ^ 63)) = false := by
    rw [decide_eq_false (by omega), decide_eq_false (by omega)] <;> rfl
  have c1 : (its.toArray.isEmpty || k == 1) = true := by
    rcases hne with rfl | rfl
    · cases r
      rfl
    · simp
  refine wpAny_binaryOp_repeat_ref (T := "tuple") (U := "int") (by decide) ⟨_, ho, rfl⟩ (fun s' => typeIs_int s' k t) noFill_tuple_mul F.fills_int_mul F.slot_int_rmul repeat_tuple F.slot_int_index.lookup
    (call_meets F.slot_int_rmul (typeIs_int s k t) F.entry_int_rmul (F.args_int_rmul_2 _ _) (int_rmul_tuple k t l its.toArray n dd sl)
      ⟨ho, rfl, ⟨_, ho, rfl⟩, call_meets F.slot_tuple_mul ⟨_, ho, rfl⟩ F.entry_tuple_mul (F.args_tuple_mul_2 _ _) (tuple_mul1 l its.toArray n dd sl k t c0 c1) ⟨ho, ?_⟩⟩)
  exact ⟨.ref l, _, I, rfl, q⟩
end
def mulAD (x y : PyData) : Option PyData := match x with
  | .tuple xs => match y with
    | .int k => if (xs = [] ∨ k = 1) ∧ -1000 ≤ k ∧ k ≤ 1000 then some (.tuple xs) else mulD x y
    | _ => none
  | _ => mulD x y
theorem bin_mulA {K : PySem.W.Frag} : BinOk K .S (fun x y H Q => (rI CMul (fun i j => .int (i * j)) x y H Q ∨ rRepF K x y H Q) ∨ rRep1 K x y H Q) mulAD := by
  intro M P H x y dx dy d Q fx po mt rx ry e k
  cases dx with
  | tuple ds =>
    cases dy with
    | int j =>
      have e : (if (ds = [] ∨ j = 1) ∧ -1000 ≤ j ∧ j ≤ 1000 then some (PyData.tuple ds) else mulD (.tuple ds) (.int j)) = some d := e
      split at e
      · rename_i c
        cases e
        have rx0 := rx
        obtain ⟨a, vs, rfl, l, r⟩ := rx.tup
        obtain rfl := ry.int
        refine .inr ⟨a, _, vs, rfl, rfl, l.sq, ?_, c.2.1, c.2.2, k _ P H (.refl po) ⟨a, vs, rfl, l, r⟩⟩
        rcases c.1 with rfl | h
        · exact .inl (List.eq_nil_of_length_eq_zero r.len)
        · exact .inr h
      · exact .inl (bin_mul M P H x y _ _ d Q fx po mt rx ry e k)
    | _ => cases e
  | _ => exact .inl (bin_mul M P H x y _ dy d Q fx po mt rx ry e k)
section
variable {X : Cx} {a b : Expr} {ga gb : Ev → W PyData} {pos : Pos}
theorem ew_mulA (ha : EW X .B a ga) (hb : EW X .B b gb) : EW X .S (.BinOp a .Mult b pos) (wB mulAD ga gb) := ew_binop bin_mulA (OpR.or (OpR.or op_mul op_repF) op_rep1) ha hb
end
theorem mulAD_int {i j : Int} (h : CMul i j) : mulAD (.int i) (.int j) = some (.int (i * j)) := mulD_int h
theorem mulAD_tup {xs : List PyData} {k : Int} (h : 1 ≤ k ∧ k ≤ 1000 ∧ xs.length ≤ 1000) : mulAD (.tuple xs) (.int k) = some (.tuple (List.replicate k.toNat xs).flatten) := by
  show (if (xs = [] ∨ k = 1) ∧ -1000 ≤ k ∧ k ≤ 1000 then some (PyData.tuple xs) else mulD (.tuple xs) (.int k)) = _
  by_cases c : xs = [] ∨ k = 1
  · rw [if_pos ⟨c, by omega, by omega⟩]
    rcases c with rfl | rfl
    · simp
    · simp
  · rw [if_neg fun z => c z.1]
    show (if 2 ≤ k ∧ k ≤ 1000 ∧ xs.length ≤ 1000 ∧ xs ≠ [] then some (PyData.tuple (List.replicate k.toNat xs).flatten) else none) = _
    rw [if_pos ⟨by have := mt Or.inr c; omega, h.2.1, h.2.2, fun z => c (.inl z)⟩]
end WL

namespace WL
open PySem PySem.Spec PyProof.Rows L2
/-! ### zip of lists and tuples -/
def zipL (ds es : List PyData) : List PyData := (ds.zip es).map fun p => .tuple [p.1, p.2]
theorem zipL_len {ds es : List PyData} : (zipL ds es).length = min ds.length es.length := by simp [zipL]
theorem zipL_get {ds es : List PyData} {i : Nat} {d : PyData} (h : (zipL ds es)[i]? = some d) : ∃ x y, d = .tuple [x, y] ∧ ds[i]? = some x ∧ es[i]? = some y := by
  unfold zipL at h
  rw [List.getElem?_map] at h
  obtain ⟨p, hp, rfl⟩ := Option.map_eq_some_iff.mp h
  have := List.getElem?_zip_eq_some.mp hp
  exact ⟨p.1, p.2, rfl, this.1, this.2⟩
section
variable {K : PySem.W.Frag} {M P : Addr → Prop} {H : Hp}
/-- a list (false) or a tuple (true) that is walked -/
def AtX (K : PySem.W.Frag) (H : Hp) (M P : Addr → Prop) (t : Bool) (a : Addr) (vs : List V) : Prop := match t with
  | true => TAt K H a vs
  | false => LAt K H M P a vs
theorem AtX.sq {t : Bool} {a : Addr} {vs : List V} (h : AtX K H M P t a vs) : ZM.SqX K t H a vs := by
  cases t with
  | true => exact TAt.sq h
  | false => exact LAt.sq h
theorem AtX.fut {S P' : Addr → Prop} {H' : Hp} (f : Fut S P H P' H') (hs : ∀ c, S c → M c) {t : Bool} {a : Addr} {vs : List V} (h : AtX K H M P t a vs) : AtX K H' M P' t a vs := by
  cases t with
  | true => exact f.tAt h
  | false => exact f.lAt hs h
theorem itOk_zipX {t u : Bool} {a b : Addr} {vs ws : List V} {ds es : List PyData} (l : AtX K H M P t a vs) (r : RpA K H M P ds vs) (l' : AtX K H M P u b ws) (r' : RpA K H M P es ws) : ItOk K (ZM.ItzX K t u a b) (zipL ds es) M P H := by
  intro S P1 H1 f hs
  have l1 := l.fut f hs
  have r1 := r.avoidAll.fut f fun c z => .inl (hs c z)
  have l2 := l'.fut f hs
  have r2 := r'.avoidAll.fut f fun c z => .inl (hs c z)
  refine ⟨fun i hi => ?_, ⟨vs, ws, l1.sq, l2.sq, ?_⟩, fun i x H' d e y => ?_⟩
  · rw [zipL_len] at hi
    obtain ⟨v, e, _⟩ := r.get (i := i) (d := ds[i]'(by omega)) (by rw [List.getElem?_eq_getElem])
    obtain ⟨v', e', _⟩ := r'.get (i := i) (d := es[i]'(by omega)) (by rw [List.getElem?_eq_getElem])
    exact ⟨vs, ws, v, v', l1.sq, l2.sq, e, e'⟩
  · rw [zipL_len]
    have := r.len
    have := r'.len
    omega
  · obtain ⟨T, its, x, y, rfl, hT, rfl, hx, hy⟩ := y
    obtain ⟨dx, dy, rfl, e1, e2⟩ := zipL_get e
    obtain ⟨v, g1, q1⟩ := r1.get e1
    obtain ⟨v', g2, q2⟩ := r2.get e2
    have := hx vs l1.sq
    rw [g1] at this
    cases this
    have := hy ws l2.sq
    rw [g2] at this
    cases this
    have f2 : Fut S0 P1 H1 P1 (upd H1 T (.frz (tupO its) (.tup [x, y]))) := .new f.ok' hT
    exact ⟨f2, T, [x, y], rfl, .inl ⟨its, upd_same⟩, x, [y], rfl, q1.fut0 f2, y, [], rfl, q2.fut0 f2, rfl⟩
end
/-- zip of two of a kind, or of a tuple with a list -/
def zipD (d e : PyData) : Option (List PyData) := match d with
  | .tuple ds => match e with
    | .tuple es => if (zipL ds es).length ≤ sizeLine then some (zipL ds es) else none
    | .list es => if (zipL ds es).length ≤ sizeLine then some (zipL ds es) else none
    | _ => none
  | .list ds => match e with
    | .list es => if (zipL ds es).length ≤ sizeLine then some (zipL ds es) else none
    | _ => none
  | _ => none
def wZip (gs : Ev → W (List PyData)) : Ev → W (List PyData) := fun ρ Q => gs ρ fun ds => ∃ d1 d2 zs, ds = [d1, d2] ∧ zipD d1 d2 = some zs ∧ Q zs
theorem ei_zip {X : Cx} {a b : Expr} {gs : Ev → W (List PyData)} {p pos tpos : Pos} {elts : List Expr} {kk : Nat} (hg : Gl X "zip") (hm : X.mg "zip" = none) (ha : EA X [a, b] gs)
    (hs : starEach [a, b] X.env = (false, eval a X.env) :: starEach [b] X.env := by rfl) (hpl : (backTo pos (starEach [b] X.env)).any (·.1) = false := by rfl) : EI X (.Tuple elts kk tpos) (.Call (.Name "zip" p) [a, b] [] pos) (wZip gs) :=
  ⟨fun ρ _ _ i q => ha.mono ρ _ _ (fun _ ⟨d1, d2, zs, e, z, q⟩ => ⟨d1, d2, zs, e, z, i _ q⟩) q, (ZM.pi_zipX hg hm ha.pa hs hpl).imp fun σ H Q ⟨B, P, ρ, R, q⟩ => ⟨B, P, ρ, R, ha.mono ρ _ _ (fun ds ⟨d1, d2, zs, e, z, q⟩ vs P1 H1 f1 r1 => by
    subst e
    obtain ⟨v, us, rfl, r1, w, us', rfl, r2, rfl⟩ := r1
    have R1 := R.fut f1
    have go : ∀ (t u : Bool) (ds es : List PyData) (x y : Addr) (vs ws : List V), (t || !u) = true → AtX X.K H1 (Mo B ρ σ) P1 t x vs → RpA X.K H1 (Mo B ρ σ) P1 ds vs → AtX X.K H1 (Mo B ρ σ) P1 u y ws → RpA X.K H1 (Mo B ρ σ) P1 es ws →
        (if (zipL ds es).length ≤ sizeLine then some (zipL ds es) else none) = some zs → v = .ref x → w = .ref y → ∃ t u a b xs ys, [v, w] = [V.ref a, V.ref b] ∧ (t || !u) = true ∧ ZM.SqX X.K t H1 a xs ∧ ZM.SqX X.K u H1 b ys ∧ Q (ZM.ItzX X.K t u a b) H1 := fun t u ds es x y vs ws tu l r l' r' z ev ew => by
      split at z
      · cases z
        subst ev ew
        exact ⟨t, u, x, y, vs, ws, rfl, tu, l.sq, l'.sq, q _ P1 H1 f1 (itOk_zipX l r l' r') (by assumption)⟩
      · cases z
    cases d1 with
    | tuple ds =>
      obtain ⟨x, vs, rfl, l, r⟩ := r1
      cases d2 with
      | tuple es =>
        obtain ⟨y, ws, rfl, l', r'⟩ := r2
        exact go true true ds es x y vs ws rfl l r l' r' z rfl rfl
      | list es =>
        obtain ⟨y, ws, rfl, l', r'⟩ := r2
        exact go true false ds es x y vs ws rfl l r l' r' z rfl rfl
      | _ => cases z
    | list ds =>
      obtain ⟨x, vs, rfl, l, r⟩ := r1
      cases d2 with
      | list es =>
        obtain ⟨y, ws, rfl, l', r'⟩ := r2
        exact go false false ds es x y vs ws rfl l r l' r' z rfl rfl
      | _ => cases z
    | _ => cases z) q⟩⟩
end WL

namespace WL
open PySem PySem.Spec PyProof.Rows L2
/-! ### None, True, False as keys -/
section
variable {prog : Program} {w : World} {A : Around} {E : Value → Shared → Prop} {s : Shared}
theorem pyHash_bool {b : Bool} {Q : Int → Shared → Prop} (h : Q (if b then 1 else 0) { s with toks := s.toks + 1 }) : wpAny (model prog w) A (pyHash (.bool b)) Q E s := by
  unfold pyHash
  have hv : [Value.bool b].any Value.onHeap = false := rfl
  refine wpAny_bind ?_
  rw [cRoomFor, if_neg (by rw [hv]; exact Bool.false_ne_true)]; refine wpAny_pure ?_
  have ht : s.TypeIs (.bool b) "bool" := rfl
  refine wpAny_bind (wpAny_specialOf ht PySem.F.slot_bool_hash.lookup ?_)
  show wpAny _ _ (if (some (Value.builtin "int.__hash__") == some Value.none) = true then _ else _) Q E s
  rw [if_neg (by rw [beq_builtin_none]; exact Bool.false_ne_true)]
  refine wpAny_bind (wpAny_specialOf ht PySem.F.slot_bool_hash.lookup ?_)
  show wpAny _ _ (callSpecialIfBoundUnlessNone? (.bool b) "__hash__" _ >>= _) Q E s
  cases b with
  | true =>
    refine wpAny_bind (wpAny_callSpecialIfBoundUnlessNone?_slot ht PySem.F.slot_bool_hash
      (wpAny_call_entry PySem.F.slot_bool_hash ht entry_int_hash
        (show wpAny _ _ (do ret (← mkInt 1)) _ _ s from wpAny_ret_mkInt ?_) (args_int_hash _)))
    exact wpAny_pure h
  | false =>
    refine wpAny_bind (wpAny_callSpecialIfBoundUnlessNone?_slot ht PySem.F.slot_bool_hash
      (wpAny_call_entry PySem.F.slot_bool_hash ht entry_int_hash
        (show wpAny _ _ (do ret (← mkInt 0)) _ _ s from wpAny_ret_mkInt ?_) (args_int_hash _)))
    exact wpAny_pure h
theorem pyHash_none {Q : Int → Shared → Prop} (h : Q 0xFCA86420 { s with toks := s.toks + 1 }) : wpAny (model prog w) A (pyHash .none) Q E s := by
  unfold pyHash
  have hv : [Value.none].any Value.onHeap = false := rfl
  refine wpAny_bind ?_
  rw [cRoomFor, if_neg (by rw [hv]; exact Bool.false_ne_true)]; refine wpAny_pure ?_
  have ht : s.TypeIs .none "NoneType" := rfl
  refine wpAny_bind (wpAny_specialOf ht PySem.F.slot_NoneType_hash.lookup ?_)
  show wpAny _ _ (if (some (Value.builtin "NoneType.__hash__") == some Value.none) = true then _ else _) Q E s
  rw [if_neg (by rw [beq_builtin_none]; exact Bool.false_ne_true)]
  refine wpAny_bind (wpAny_specialOf ht PySem.F.slot_NoneType_hash.lookup ?_)
  show wpAny _ _ (callSpecialIfBoundUnlessNone? .none "__hash__" _ >>= _) Q E s
  refine wpAny_bind (wpAny_callSpecialIfBoundUnlessNone?_slot ht PySem.F.slot_NoneType_hash
    (wpAny_call_entry PySem.F.slot_NoneType_hash ht PySem.F.entry_NoneType_hash
      (show wpAny _ _ (do ret (← mkInt 0xFCA86420)) _ _ s from wpAny_ret_mkInt ?_) (PySem.F.args_NoneType_hash_1 _)))
  exact wpAny_pure h
end
theorem eq_none_none {prog : Program} {w : World} {A : Around} {E : Value → Shared → Prop} {s : Shared} {Q : Bool → Shared → Prop} (h : Q true s) : wpAny (model prog w) A (eqBool .none .none) Q E s := by
  unfold eqBool
  refine wpAny_holding ?_
  refine wpAny_ite_split (fun hab => ?_) (fun _ => ?_)
  · exact wpAny_bind (wpAny_rule (wpAny_pure h))
  · exact wpAny_bind (SeqAt.RcAt.none_none prog w E _ (wpAny_truthy_bool h))
def atomIs : Option Bool → Value → Bool
  | none, .none => true
  | some b, .bool c => b == c
  | _, _ => false
theorem atomIs_shape {k : Option Bool} {v : Value} (h : atomIs k v = true) : (k = none ∧ v = .none) ∨ ∃ b, k = some b ∧ v = .bool b := by
  cases k with
  | none => cases v <;> simp_all [atomIs]
  | some b => cases v <;> simp_all [atomIs]
def atomKind (prog : Program) (w : World) : PySem.KeyKind prog w (Option Bool) where
  is := atomIs
  hash := fun k => match k with
    | none => 0xFCA86420
    | some b => if b then 1 else 0
  inj := fun v a b ha hb => by
    rcases atomIs_shape ha with ⟨rfl, rfl⟩ | ⟨x, rfl, rfl⟩ <;> rcases atomIs_shape hb with ⟨rfl, e⟩ | ⟨y, rfl, e⟩ <;> cases e <;> rfl
  byValue := fun k v h => by
    rcases atomIs_shape h with ⟨rfl, rfl⟩ | ⟨x, rfl, rfl⟩ <;> rfl
  pyHash := fun hv h => by
    rcases atomIs_shape hv with ⟨rfl, rfl⟩ | ⟨x, rfl, rfl⟩
    · exact pyHash_none h
    · exact pyHash_bool h
  eqBool := fun hu hv h => by
    rcases atomIs_shape hu with ⟨rfl, rfl⟩ | ⟨x, rfl, rfl⟩ <;> rcases atomIs_shape hv with ⟨rfl, rfl⟩ | ⟨y, rfl, rfl⟩
    · exact eq_none_none h
    · exact SeqAt.EqAt.none_bool y _ _ _ _ h
    · exact SeqAt.EqAt.bool_none x _ _ _ _ h
    · refine SeqAt.EqAt.bool_bool x y _ _ _ _ ?_
      have e : (x == y) = decide (some x = some y) := by cases x <;> cases y <;> rfl
      rw [e]
      exact h
  «strs» := fun k x t v h => by
    rcases atomIs_shape h with ⟨_, e⟩ | ⟨_, _, e⟩ <;> cases e
end WL

namespace WL
open PySem PySem.Spec PyProof.Rows L2
/-! ### {k: v, ..}[e]: the dict is thrown away -/
section
variable {κ : Type} [DecidableEq κ]
def mergeG (kvs more : List (κ × V)) : List (κ × V) := more.foldl (fun acc kv => putK acc kv.1 kv.2) kvs
theorem kv_merge : ∀ {more : List (κ × V)} {rs : List (κ × Value)} {kvs : List (κ × V)} {vs : List (κ × Value)}, KV more rs → KV kvs vs → KV (mergeG kvs more) (merged vs rs) := by
  intro more rs kvs vs r
  unfold KV at r
  induction r generalizing kvs vs with
  | nil => intro q; exact q
  | @cons p q ps qs h t ih =>
    intro r0
    have e : KV (putK kvs p.1 p.2) (stored vs q.1 q.2) := by
      have := r0.put p.1 h.2
      rw [← h.1]; exact this
    exact ih e
theorem carries_g {P : Program} {w : World} (knd : PySem.KeyKind P w κ) (kv : κ → V) (hk : ∀ k u, RelV (kv k) u → knd.is k u = true) : ∀ {kvs : List (κ × V)} {ws : List (Value × Value)}, VV (kvs.map fun p => (kv p.1, p.2)) ws → ∃ rs, Carries knd ws rs ∧ KV kvs rs
  | [], _, r => by rw [List.map_nil] at r; cases r; exact ⟨[], True.intro, .nil⟩
  | p :: kvs, _, r => by
    rw [List.map_cons] at r
    cases r with
    | @cons a b as bs h t =>
      obtain ⟨rs, c, q⟩ := carries_g knd kv hk t
      obtain ⟨b1, b2⟩ := b
      exact ⟨(p.1, b2) :: rs, ⟨hk _ _ h.1, rfl, c⟩, .cons ⟨rfl, h.2⟩ q⟩
def tPickG (kv : κ → V) (kvs : List (κ × V)) (ty : TE) : TE := fun σ H Q => ty σ H fun y H2 => ∃ k v, y = kv k ∧ valV (mergeG [] kvs) k = some v ∧ Q v H2
theorem tPairs_const {kv : κ → V} {σ : L2.St} : ∀ {kvs : List (κ × V)} {H : Hp} {Q : List (V × V) → Hp → Prop}, Q (kvs.map fun p => (kv p.1, p.2)) H → tPairs (kvs.map fun p => (tC (kv p.1), tC p.2)) σ H Q
  | [], _, _, q => q
  | p :: kvs, H, Q, q => tPairs_const (kvs := kvs) (Q := fun ps H3 => Q ((kv p.1, p.2) :: ps) H3) q
theorem pe_pickG {X : Cx} {dpos pos : Pos} {keys : List (Option Expr)} {values : List Expr} {e : Expr} {ty : TE} (knd : PySem.KeyKind X.prog X.w κ) (kv : κ → V) (hk : ∀ k u, RelV (kv k) u → knd.is k u = true) {kvs : List (κ × V)}
    (h : PPs X dpos keys values (kvs.map fun p => (tC (kv p.1), tC p.2))) (hall : keys.all (·.isSome) = true) (hl : keys.length = values.length) (h0 : keys ≠ []) (h15 : keys.length ≤ 15) (he : PE X e ty) (hs : NoSl e) :
    PE X (.Subscript (.Dict keys values dpos) e pos) (tPickG kv kvs ty) := by
  refine ⟨fun pins s σ H Q I q => ?_⟩
  refine subD_of PySem.F.slot_dict_getitem.lookup hs ?_
  have hn := I.hok.fresh (Nat.le_refl s.heap.objs.size)
  have I1 : Inv X pins σ H { s with heap := s.heap.push { cls := .type "dict", data := .dict #[] }, toks := s.toks } := I.kept (t' := s.toks) fun _ _ q => Heap.get?_push_of_some _ q
  have ltp : ∀ p ∈ X.pn ++ pins, p.1 ≠ s.heap.objs.size := fun p hp z => by
    have := Heap.lt_size (I.pin p hp).1
    rw [z] at this
    exact Nat.lt_irrefl _ this
  have pinned : ∀ {s' : Shared} {H' : Hp} {o : Obj}, Inv X pins σ H' s' → s'.heap.get? s.heap.objs.size = some o → H' s.heap.objs.size = none → (∀ v, o.data ≠ .cell v) → Inv X (pins ++ [(s.heap.objs.size, o)]) σ H' s' := fun {s' H' o} I' ho hH hc =>
    I'.pins_of fun p hp => by
      rcases List.mem_append.mp hp with hp | hp
      · exact I'.pin p (List.mem_append_right _ hp)
      · simp only [List.mem_singleton] at hp
        subst hp
        exact ⟨ho, hH, Nat.ne_of_gt I.lt, I.nofs (Nat.le_refl _), hc⟩
  have Ip := pinned I1 (Heap.get?_push_size _ rfl) hn (fun v q => nomatch q)
  refine wpAny_Dict_walk (knd := knd) hall hl h0 h15 (thn (h.run _ _ σ _ (fun ps H1 => ps = kvs.map (fun p => (kv p.1, p.2)) ∧ tPickG kv kvs ty σ H1 Q) Ip (tPairs_const (kv := kv) (kvs := kvs) ⟨rfl, q⟩)) fun ws s2 ⟨ps, H2, I2, rel, ep, q2⟩ => ?_)
  subst ep
  obtain ⟨rs, c, rk⟩ := carries_g knd kv hk rel
  have pin2 := I2.pin (s.heap.objs.size, { cls := .type "dict", data := .dict #[] }) (by simp)
  refine ⟨rs, c, ⟨_, #[], _, pin2.1, ⟨rfl, rfl, rfl⟩, rfl, fun e he => by simp at he, .nil, List.nodup_nil⟩, fun h' dd hsb => ?_⟩
  obtain ⟨o, es, ep, ho, hx, hd, hr⟩ := dd
  have I3 : Inv X pins σ H2 { s2 with heap := h', toks := s2.toks + ws.length } := I2.unpinned.turned (it := s.heap.objs.size) (fun b o hb e => (hsb.2 b hb).trans e) pin2.2.1 (Nat.ne_of_gt I.lt) (.inr I.sz) (fun x c e z => by
    obtain ⟨v, q⟩ := I.cell x c e
    have := q.lt
    rw [z] at this
    exact Nat.lt_irrefl _ this) ltp
  have I3p := pinned I3 ho pin2.2.1 (fun v q => by rw [hd] at q; cases q)
  refine thn (he.run _ _ σ _ _ I3p q2) fun u s3 ⟨y, H4, I4, ry, k, v, ey, hv, q4⟩ => ?_
  subst ey
  have pin4 := I4.pin (s.heap.objs.size, o) (by simp)
  have dd4 : s3.heap.DictOf knd s.heap.objs.size (merged [] rs) := ⟨o, es, ep, pin4.1, hx, hd, hr⟩
  obtain ⟨w', hw, rw'⟩ := RelO.some_of (v := v) (o := valueAt (merged [] rs) k) (by rw [← hv]; exact (kv_merge rk .nil).val k)
  exact ⟨dd4.mapOf.typeIs, wpAny_getItem_of (hk _ _ ry) dd4.mapOf hw ⟨v, H4, I4.unpinned.tok _, rw', q4⟩⟩
end
end WL

namespace WL
open PySem PySem.Spec PyProof.Rows L2
/-! ### a pick out of a dict display of constants -/
section
variable {κ : Type} [DecidableEq κ]
def lookG {α : Type} : List (κ × α) → κ → Option α
  | [], _ => none
  | p :: r, k => if p.1 = k then some p.2 else lookG r k
theorem valV_map_toV {k : κ} : ∀ {kvs : List (κ × PyData)}, valV (kvs.map fun p => (p.1, toV p.2)) k = (lookG kvs k).map toV
  | [] => rfl
  | p :: r => by
    rw [List.map_cons]
    by_cases e : p.1 = k
    · rw [valV_pos (p := (p.1, toV p.2)) e, lookG, if_pos e]
      rfl
    · rw [valV_neg (p := (p.1, toV p.2)) e, lookG, if_neg e]
      exact valV_map_toV
theorem mergeG_nodup : ∀ {more acc : List (κ × V)}, ((acc ++ more).map (·.1)).Nodup → mergeG acc more = acc ++ more
  | [], acc, _ => (List.append_nil acc).symm
  | p :: r, acc, h => by
    have hn : valV acc p.1 = none := by
      cases e : valV acc p.1 with
      | none => rfl
      | some v =>
        exfalso
        have ha : (acc.any fun kv => decide (kv.1 = p.1)) = true := by rw [valV_any, e]; rfl
        obtain ⟨q, hq, eq⟩ := List.any_eq_true.mp ha
        rw [List.map_append, List.map_cons] at h
        have := (List.nodup_append.mp h).2.2 q.1 (List.mem_map.mpr ⟨q, hq, rfl⟩) p.1 List.mem_cons_self
        exact this (of_decide_eq_true eq)
    show mergeG (putK acc p.1 p.2) r = _
    rw [putK_new _ hn, mergeG_nodup (by simpa using h)]
    simp
/-- kd: the key that a value is -/
def wPick (kd : PyData → Option κ) (kvs : List (κ × PyData)) (g : Ev → W PyData) : Ev → W PyData := fun ρ Q => g ρ fun d => ∃ k r, kd d = some k ∧ lookG kvs k = some r ∧ Q r
theorem look_mem {α : Type} {k : κ} {r : α} : ∀ {kvs : List (κ × α)}, lookG kvs k = some r → (k, r) ∈ kvs
  | p :: l, h => by
    unfold lookG at h
    split at h
    · rename_i e
      cases h
      rw [← e]
      exact List.mem_cons_self
    · exact List.mem_cons_of_mem _ (look_mem h)
theorem ew_pickG {X : Cx} {dpos pos : Pos} {keys : List (Option Expr)} {values : List Expr} {e : Expr} {g : Ev → W PyData} (knd : PySem.KeyKind X.prog X.w κ) (kv : κ → V) (hk : ∀ k u, RelV (kv k) u → knd.is k u = true)
    (kd : PyData → Option κ) (hkd : ∀ d k, kd d = some k → flatD d = true ∧ toV d = kv k) {kvs : List (κ × PyData)} (hn : (kvs.map (·.1)).Nodup) (hf : (kvs.all fun p => flatD p.2) = true)
    (h : PPs X dpos keys values ((kvs.map fun p => (p.1, toV p.2)).map fun p => (tC (kv p.1), tC p.2))) (hall : keys.all (·.isSome) = true) (hl : keys.length = values.length) (h0 : keys ≠ []) (h15 : keys.length ≤ 15) (he : EW X .B e g) (hs : NoSl e) :
    EW X .S (.Subscript (.Dict keys values dpos) e pos) (wPick kd kvs g) := by
  refine ⟨fun ρ _ _ i q => he.mono ρ _ _ (fun d ⟨k, r, e1, e2, q⟩ => ⟨k, r, e1, e2, i _ q⟩) q, (?_ : PE X _ _)⟩
  have base := pe_pickG knd kv hk h hall hl h0 h15 he.pe hs (pos := pos)
  refine base.imp fun σ H Q ⟨B, P, ρ, R, q⟩ => ⟨B, P, ρ, R, he.mono ρ _ _ (fun d ⟨k, r, e1, e2, q⟩ v P1 H1 f1 r1 => ?_) q⟩
  obtain ⟨fl, ek⟩ := hkd d k e1
  obtain ⟨ev, _⟩ := flat_toV fl (r1.flat (m := .B) fl)
  have hm : mergeG [] (kvs.map fun p => (p.1, toV p.2)) = kvs.map fun p => (p.1, toV p.2) := by
    rw [mergeG_nodup (by simpa [List.map_map, Function.comp_def] using hn)]
    rfl
  refine ⟨k, toV r, ev.trans ek, by rw [hm, valV_map_toV, e2]; rfl, q _ P1 H1 f1 (rp_toV ?_)⟩
  exact List.all_eq_true.mp hf _ (look_mem e2)
end
def kvA : Option Bool → V
  | none => .non
  | some b => .bl b
def kdA : PyData → Option (Option Bool)
  | .none => some none
  | .bool b => some (some b)
  | _ => none
def kdS : PyData → Option Key
  | .str x => some (.inr x)
  | _ => none
section
variable {X : Cx} {dpos pos : Pos} {keys : List (Option Expr)} {values : List Expr} {e : Expr} {g : Ev → W PyData}
theorem ew_pickA {kvs : List (Option Bool × PyData)} (hn : (kvs.map (·.1)).Nodup) (hf : (kvs.all fun p => flatD p.2) = true)
    (h : PPs X dpos keys values ((kvs.map fun p => (p.1, toV p.2)).map fun p => (tC (kvA p.1), tC p.2))) (he : EW X .B e g) (hs : NoSl e) (hall : keys.all (·.isSome) = true := by rfl) (hl : keys.length = values.length := by rfl) (h0 : keys ≠ [] := by simp) (h15 : keys.length ≤ 15 := by decide) :
    EW X .S (.Subscript (.Dict keys values dpos) e pos) (wPick kdA kvs g) :=
  ew_pickG (atomKind X.prog X.w) kvA (fun k u r => by
    cases k with
    | none =>
      cases (show u = Value.none from r)
      rfl
    | some b =>
      cases (show u = Value.bool b from r)
      exact beq_self_eq_true b) kdA (fun d k e => by
    cases d <;> cases e <;> exact ⟨rfl, rfl⟩) hn hf h hall hl h0 h15 he hs
theorem ew_pickS {kvs : List (Key × PyData)} (hn : (kvs.map (·.1)).Nodup) (hf : (kvs.all fun p => flatD p.2) = true)
    (h : PPs X dpos keys values ((kvs.map fun p => (p.1, toV p.2)).map fun p => (tC (kV p.1), tC p.2))) (he : EW X .B e g) (hs : NoSl e) (hall : keys.all (·.isSome) = true := by rfl) (hl : keys.length = values.length := by rfl) (h0 : keys ≠ [] := by simp) (h15 : keys.length ≤ 15 := by decide) :
    EW X .S (.Subscript (.Dict keys values dpos) e pos) (wPick kdS kvs g) :=
  ew_pickG (mixKind X.prog X.w) kV (fun k u r => kV_is r) kdS (fun d k e => by
    cases d <;> cases e <;> exact ⟨rfl, rfl⟩) hn hf h hall hl h0 h15 he hs
end
end WL

namespace WL
open PySem PySem.Spec PyProof.Rows L2
open PySem.W (Looks kas_first_eq kas_mapM EachIs AllAlike Sortable alike alikeAll dataLt dataLe SortsAt dataKind dataKind_some dataKind_inv)
/-! ### sorted, the first one an empty tuple -/
section
variable {prog : Program} {w : World} {A : Around} {E : Value → Shared → Prop} {s : Shared}
theorem call_tuple_lt {Q : Value → Shared → Prop} {l b : Addr} {items items2 : Array Value} {e r : Nat → Bool} (hl : s.heap.IsTuple l items) (hb : s.heap.IsTuple b items2)
    (he : ∀ j (h1 : j < items.size) (h2 : j < items2.size), SeqAt.EqAt A.in1 s items[j] items2[j] (e j)) (hr : ∀ j (h1 : j < items.size) (h2 : j < items2.size), e j = false → SeqAt.RcLt A.in1 s items[j] items2[j] (r j))
    (h : Q (.bool (SeqAt.firstLt e r (decide (items.size < items2.size)) (List.range (min items.size items2.size)))) s) : wpAny (model prog w) A (call (.builtin "tuple.__lt__") [.ref l, .ref b]) Q E s := by
  obtain ⟨⟨cls, dd, data, sl⟩, ho, hc, n, hd⟩ := id hl
  obtain ⟨⟨cls2, dd2, data2, sl2⟩, ho2, hc2, n2, hd2⟩ := id hb
  simp only at hc hd hc2 hd2
  subst hc hd hc2 hd2
  exact call_meets PySem.F.slot_tuple_lt ⟨_, ho, rfl⟩ PySem.F.entry_tuple_lt (PySem.F.args_tuple_lt_2 _ _) (SeqAt.tuple_ltAt l b items items2 n n2 dd dd2 sl sl2 e r) ⟨ho, ho2, he, hr, h⟩
open PySem.W in
theorem oneLt_tuple {xs ys : List PyData} {a b : Value} {as bs : List Addr} {Q : Bool → Shared → Prop} (ra : Reads s.heap a (.tuple xs) as) (rb : Reads s.heap b (.tuple ys) bs) (hal : alikeAll xs ys = true)
    (hu : A.units + min (PyData.tuple xs).depth (PyData.tuple ys).depth < cLine) (hq : Q (dataLt (.tuple xs) (.tuple ys)) s) : wpAny (model prog w) A (oneLt' true a b) Q E s := by
  cases ra with
  | @tuple l o vs n _ as₁ h1 h2 h3 h4 =>
    cases rb with
    | @tuple l' o' vs' n' _ bs₁ k1 k2 k3 k4 =>
      have n1 : vs.size = xs.length := by simpa using SeqAt.ReadsAll.length _ _ _ h4
      have n2 : vs'.size = ys.length := by simpa using SeqAt.ReadsAll.length _ _ _ k4
      rw [dataLt_tuple, ← firstLt_toks xs ys hal, ← n1, ← n2] at hq
      rw [oneLt'_eq]
      simp only [if_true]
      refine wpAny_bind (wpAny_cRoomFor (SeqAt.room_here hu) ?_)
      refine wpAny_bind (wpAny_callSpecialIfBound?_slot (T := "tuple") ⟨_, h1, h2⟩ PySem.F.slot_tuple_lt (call_tuple_lt (e := SeqAt.pairEq xs ys) (r := fun j => dataLt (xs.getD j .none) (ys.getD j .none)) ⟨_, h1, h2, _, h3⟩ ⟨_, k1, k2, _, k3⟩ (fun j j1 j2 => ?_) (fun j j1 j2 hj => ?_) ?_))
      · have := eqAt_alikeAll xs ys A.in1 s vs.toList vs'.toList _ _ h4 k4 hal (SeqAt.room_in hu) j (by simpa using j1) (by simpa using j2)
        simpa using this
      · have := rcLt_alikeAll xs ys A.in1 s vs.toList vs'.toList _ _ h4 k4 hal (SeqAt.room_in hu) j (by simpa using j1) (by simpa using j2) hj
        simpa using this
      · exact wpAny_truthy_bool hq
end
def TupAt (h : Heap) (v : Value) (xs : Array Value) : Prop := ∃ a o n, v = .ref a ∧ h.get? a = some o ∧ o.cls = .type "tuple" ∧ o.data = .seq xs n
section
variable {M : Model} {A : Around} {E : Value → Shared → Prop} {s : Shared}
theorem tups_firsts : ∀ {vs : List Value} {xss : List (Array Value)} {Q : List (Option Value) → Shared → Prop}, EachIs (TupAt s.heap) vs xss → Q (xss.map (·[0]?)) s → wpAny M A (vs.mapM firstOfTuple') Q E s
  | _, _, Q, .nil, h => by rw [List.mapM_nil]; exact wpAny_pure h
  | _, _, Q, .cons (b := xs) ⟨a, o, n, e, ho, hc, hd⟩ t, h => by
    subst e
    rw [List.mapM_cons]
    refine wpAny_bind ?_
    rw [kas_first_eq]
    refine wpAny_bind (PySem.W.Looks.here (show Looks M s.heap (typeOf (.ref a)) o.cls from (PySem.W.Looks.ld ho).andThen .now) ?_)
    rw [hc, if_neg (by first | decide | simp)]
    refine wpAny_bind (listItems_at ho hd (wpAny_pure ?_))
    exact wpAny_bind (tups_firsts (Q := fun bs s' => wpAny M A (pure (xs[0]? :: bs)) Q E s') t (wpAny_pure h))
theorem tups_kind {vs : List Value} {xss : List (Array Value)} {Q : SortKind → Shared → Prop} (t : EachIs (TupAt s.heap) vs (#[] :: xss)) (h : Q oneType' s) : wpAny M A (keyKind' vs.toArray) Q E s := by
  rw [keyKind'_eq, List.mapM_toArray, map_eq_pure_bind]
  refine wpAny_bind (wpAny_bind (tups_firsts t (wpAny_pure ?_)))
  have hT : ∀ v ∈ vs, Looks M s.heap (typeOf v) (Value.type "tuple") := fun v hv => by
    obtain ⟨xs, _, a, o, n, e, ho, hc, hd⟩ := t.left v hv
    subst e
    rw [← hc]
    exact (PySem.W.Looks.ld ho).andThen .now
  rw [if_neg (by simp), if_neg (by simp)]
  rw [oneTypeOnly'_eq, List.mapM_toArray, map_eq_pure_bind]
  refine wpAny_bind (wpAny_bind (wpAny_bind (kas_mapM (r := Value.type "tuple") _ (fun v hv Q' hq => (hT v hv).here hq) (wpAny_pure ?_))))
  cases t with
  | cons h1 t1 =>
    rename_i v₁ rest
    have hall : ((List.map (fun _ => Value.type "tuple") (v₁ :: rest)).toArray.all fun x => x == Value.type "tuple") = true := by
      simp only [List.all_toArray, List.all_map, List.all_eq_true]
      intro _ _
      exact beq_self_eq_true _
    have h0 : (List.map (fun _ => Value.type "tuple") (v₁ :: rest)).toArray[0]? = some (Value.type "tuple") := by simp
    rw [h0]
    simp only [hall, if_true]
    exact wpAny_pure (wpAny_pure h)
end
section
variable {prog : Program} {w : World} {A : Around} {s : Shared}
theorem each_tupAt : ∀ {vs : List Value} {ds : List PyData}, EachIs (fun v d => ∃ as, Reads s.heap v d as) vs ds → (∀ d ∈ ds, ∃ xs, d = .tuple xs) → ∃ xss : List (Array Value), EachIs (TupAt s.heap) vs xss ∧ xss.map (·.size) = ds.map fun d => match d with | .tuple xs => xs.length | _ => 0
  | _, _, .nil, _ => ⟨[], .nil, rfl⟩
  | _, _, .cons (b := d) ⟨as, r⟩ t, ht => by
    obtain ⟨xss, h1, h2⟩ := each_tupAt t fun d hd => ht d (List.mem_cons_of_mem _ hd)
    obtain ⟨ys, rfl⟩ := ht d List.mem_cons_self
    cases r with
    | @tuple a o xs n _ _ ho hc hd hr =>
      have n1 : xs.size = ys.length := by simpa using SeqAt.ReadsAll.length _ _ _ hr
      exact ⟨xs :: xss, .cons ⟨a, o, n, rfl, ho, hc, hd⟩ h1, by simp [n1, h2]⟩
theorem sortsAt_tup0 {vs : List Value} {ds : List PyData} (e : EachIs (fun v d => ∃ as, Reads s.heap v d as) vs (.tuple [] :: ds)) (hal : AllAlike (.tuple [] :: ds)) (ht : ∀ d ∈ PyData.tuple [] :: ds, ∃ xs, d = .tuple xs) (hu : ∀ d ∈ PyData.tuple [] :: ds, A.units + d.depth < cLine) :
    SortsAt prog w A s (dataKind s.heap (.tuple [] :: ds)) vs := by
  refine ⟨fun v hv => ?_, oneType', ?_, fun h2 E Q hq => ?_⟩
  · obtain ⟨d, hd, as, r⟩ := e.left v hv
    exact ⟨_, dataKind_some hal hd r⟩
  · intro E x y a b Q ha hb hq
    obtain ⟨d, as, hd, ra, rfl⟩ := dataKind_inv ha
    obtain ⟨d', as', hd', rb, rfl⟩ := dataKind_inv hb
    rw [keyLt'_oneType]
    have hdd := hal d hd d' hd'
    obtain ⟨xs, rfl⟩ := ht d hd
    obtain ⟨ys, rfl⟩ := ht d' hd'
    exact oneLt_tuple ra rb (by simpa [alike] using hdd) (Nat.lt_of_le_of_lt (Nat.add_le_add_left (Nat.min_le_left _ _) _) (hu _ hd)) hq
  · obtain ⟨xss, h1, h2'⟩ := each_tupAt e ht
    cases xss with
    | nil => cases h1; cases e
    | cons z xss =>
      have z0 : z = #[] := by
        have : z.size = 0 := by simpa using congrArg List.head? h2'
        exact Array.eq_empty_of_size_eq_zero this
      subst z0
      exact tups_kind h1 hq
theorem tups_kindG {M : Model} {A : Around} {E : Value → Shared → Prop} {s : Shared} {vs : List Value} {xss : List (Array Value)} {Q : SortKind → Shared → Prop} (t : EachIs (TupAt s.heap) vs xss) (h0 : ∃ x r, xss = x :: r ∧ x[0]? ≠ none) (h1 : #[] ∈ xss) (h : Q general' s) : wpAny M A (keyKind' vs.toArray) Q E s := by
  rw [keyKind'_eq, List.mapM_toArray, map_eq_pure_bind]
  refine wpAny_bind (wpAny_bind (tups_firsts t (wpAny_pure ?_)))
  obtain ⟨x, r, rfl, hx⟩ := h0
  have c1 : ¬ ((((x :: r).map (·[0]?)).toArray.all fun y => y.isSome) = true) := by
    simp only [List.all_toArray, List.all_map, List.all_eq_true]
    intro hc
    have := hc _ h1
    simp at this
  rw [if_neg c1, if_pos (by
    have e : ((x :: r).map (·[0]?)).toArray[0]? = some x[0]? := by simp
    rw [e]
    cases hh : x[0]? with
    | none => exact absurd hh hx
    | some y => rfl)]
  exact wpAny_pure h
theorem sortsAt_tupG {prog : Program} {w : World} {A : Around} {s : Shared} {vs : List Value} {ds : List PyData} {d₀ : PyData} {l₀ : List PyData} (e : EachIs (fun v d => ∃ as, Reads s.heap v d as) vs (.tuple (d₀ :: l₀) :: ds)) (hal : AllAlike (.tuple (d₀ :: l₀) :: ds)) (ht : ∀ d ∈ PyData.tuple (d₀ :: l₀) :: ds, ∃ xs, d = .tuple xs) (h0 : .tuple [] ∈ ds)
    (hu : ∀ d ∈ PyData.tuple (d₀ :: l₀) :: ds, A.units + d.depth < cLine) : SortsAt prog w A s (dataKind s.heap (.tuple (d₀ :: l₀) :: ds)) vs := by
  refine ⟨fun v hv => ?_, general', ?_, fun h2 E Q hq => ?_⟩
  · obtain ⟨d, hd, as, r⟩ := e.left v hv
    exact ⟨_, dataKind_some hal hd r⟩
  · intro E x y a b Q ha hb hq
    obtain ⟨d, as, hd, ra, rfl⟩ := dataKind_inv ha
    obtain ⟨d', as', hd', rb, rfl⟩ := dataKind_inv hb
    show wpAny _ _ (oneLt' false x y) Q E s
    refine PySem.W.oneLt_alike (fun z => nomatch z) ra rb (hal d hd d' hd') ?_ (Nat.lt_of_le_of_lt (Nat.add_le_add_left (Nat.min_le_left _ _) _) (hu _ hd)) hq
    obtain ⟨xs, rfl⟩ := ht d hd
    nofun
  · obtain ⟨xss, h1, h2'⟩ := each_tupAt e ht
    cases xss with
    | nil => cases h1; cases e
    | cons z xss =>
      have z0 : z.size = l₀.length + 1 := by simpa using congrArg List.head? h2'
      refine tups_kindG h1 ⟨z, xss, rfl, by simp [z0]⟩ ?_ hq
      have hm : (0 : Nat) ∈ (z :: xss).map (·.size) := by
        rw [h2']
        exact List.mem_map.mpr ⟨.tuple [], List.mem_cons_of_mem _ h0, rfl⟩
      obtain ⟨y, hy, e0⟩ := List.mem_map.mp hm
      rw [Array.eq_empty_of_size_eq_zero e0] at hy
      exact hy
end
end WL

namespace WL
open PySem PySem.Spec PyProof.Rows L2
open PySem.W (EachIs AllAlike Sortable alike alikeAll dataLt dataLe SortsAt dataKind sortVals sortingHeap copyHeap)
/-! ### sorted(xs) of plain data that are alike -/
def nonTup : PyData → Bool
  | .none => false
  | .tuple _ => false
  | _ => true
def isTup : PyData → Bool
  | .tuple _ => true
  | _ => false
def sortB (ds : List PyData) : Bool := ds.all isTup || ds.all nonTup
def sortOk (ds : List PyData) : Bool := (ds.all fun d => ds.all fun e => alike d e) && sortB ds && plainA ds && ds.all fun d => decide (d.depth ≤ 50)
def sortL (ds : List PyData) : List PyData := ds.mergeSort (dataLe false id)
def sortD : PyData → Option PyData
  | .list ds => if sortOk ds then some (.list (sortL ds)) else none
  | _ => none
theorem all_alike {ds : List PyData} (h : (ds.all fun d => ds.all fun e => alike d e) = true) : AllAlike ds := fun d hd e he => List.all_eq_true.mp (List.all_eq_true.mp h d hd) e he
theorem plainA_all : ∀ {ds : List PyData}, plainA ds = true → ∀ d ∈ ds, plain d = true
  | d :: ds, h, x, hx => by
    have h : (plain d && plainA ds) = true := h
    rw [Bool.and_eq_true] at h
    rcases List.mem_cons.mp hx with rfl | hx
    · exact h.1
    · exact plainA_all h.2 x hx
theorem sorts_of {prog : Program} {w : World} {A : Around} {s : Shared} {vs : List Value} {ds : List PyData} (e : EachIs (fun v d => ∃ as, Reads s.heap v d as) vs ds) (h : sortOk ds = true) (hu : A.units + 51 < cLine) :
    SortsAt prog w A s (dataKind s.heap ds) vs := by
  unfold sortOk at h
  simp only [Bool.and_eq_true] at h
  obtain ⟨⟨⟨h1, h2⟩, h3⟩, h4⟩ := h
  have hal := all_alike h1
  have hd : ∀ d ∈ ds, A.units + d.depth < cLine := fun d hd => by
    have := of_decide_eq_true (List.all_eq_true.mp h4 d hd)
    omega
  rcases Bool.or_eq_true_iff.mp h2 with h2 | h2
  · have ht : ∀ d ∈ ds, ∃ xs, d = .tuple xs := fun d hd => by
      have := List.all_eq_true.mp h2 d hd
      unfold isTup at this
      split at this
      · exact ⟨_, rfl⟩
      · cases this
    cases ds with
    | nil => exact SortsAt.data e hal (.inl fun d hd => nomatch hd) hd
    | cons d ds =>
      obtain ⟨xs, rfl⟩ := ht d List.mem_cons_self
      cases xs with
      | nil => exact sortsAt_tup0 e hal ht hd
      | cons x xs =>
        by_cases h0 : PyData.tuple [] ∈ ds
        · exact sortsAt_tupG e hal ht h0 hd
        · refine SortsAt.data e hal (.inl fun d' hd' => ?_) hd
          obtain ⟨ys, rfl⟩ := ht d' hd'
          cases ys with
          | nil =>
            rcases List.mem_cons.mp hd' with h | h
            · cases h
            · exact absurd h h0
          | cons y ys => exact ⟨y, ys, rfl⟩
  · exact SortsAt.data e hal (.inr fun d hd => by
      have := List.all_eq_true.mp h2 d hd
      cases d with
      | none => cases this
      | tuple _ => cases this
      | _ => exact ⟨nofun, nofun⟩) hd
theorem each_zip {X : Cx} {pins : List (Addr × Obj)} {σ : L2.St} {H : Hp} {s : Shared} {M P : Addr → Prop} (I : Inv X pins σ H s) : ∀ {ds : List PyData} {xs : List V} {its : List Value}, plainA ds = true → RpA X.K H M P ds xs → Vals xs its →
    EachIs (fun v (b : V × PyData) => RelV b.1 v ∧ Rp X.K H M P b.2 b.1) its (xs.zip ds) ∧ EachIs (fun v (b : V × PyData) => ∃ as, Reads s.heap v b.2 as) its (xs.zip ds)
  | [], _, _, _, h, r => by
    subst h
    cases r
    exact ⟨.nil, .nil⟩
  | d :: ds, _, _, p, h, r => by
    obtain ⟨v, vr, rfl, h1, h2⟩ := h
    have p : (plain d && plainA ds) = true := p
    rw [Bool.and_eq_true] at p
    cases r with
    | cons r1 r2 =>
      obtain ⟨e1, e2⟩ := each_zip I p.2 h2 r2
      exact ⟨.cons ⟨r1, h1⟩ e1, .cons (Rp.reads I d _ _ p.1 h1 r1) e2⟩
def rSortW (K : PySem.W.Frag) : List V → Hp → VK → Prop := fun vs H Q => ∃ (a : Addr) (xs : List V) (ds : List PyData) (M P : Addr → Prop), vs = [.ref a] ∧ SqL K H a xs ∧ RpA K H M P ds xs ∧ sortOk ds = true ∧
  ∀ p ys, RpA K H M P (sortL ds) ys → H p = none → Q (.ref p) (upd H p (.lst ys))
theorem each_back {K : PySem.W.Frag} {H : Hp} {M P : Addr → Prop} : ∀ {out : List Value} {bs : List (V × PyData)}, EachIs (fun v (b : V × PyData) => RelV b.1 v ∧ Rp K H M P b.2 b.1) out bs → Vals (bs.map Prod.fst) out ∧ RpA K H M P (bs.map Prod.snd) (bs.map Prod.fst)
  | _, _, .nil => ⟨.nil, rfl⟩
  | _, _, .cons h t => by
    obtain ⟨h1, h2⟩ := each_back t
    exact ⟨.cons h.1 h1, _, _, rfl, h.2, h2⟩
theorem cr_sortW {X : Cx} (hu : X.A.units + 64 < cLine) : CallR X (.builtin "sorted") (rSortW X.K) := by
  intro pins s σ H vs us Q I r h
  obtain ⟨a, xs, ds, M, P, rfl, hs, ra, so, q⟩ := h
  obtain ⟨u, rfl, ru⟩ := vals1 r
  obtain rfl : u = Value.ref a := ru
  obtain ⟨its, rv, hl, hz⟩ := I.list hs
  have hp : plainA ds = true := by
    unfold sortOk at so
    simp only [Bool.and_eq_true] at so
    exact so.1.2
  obtain ⟨e, er⟩ := each_zip I hp ra rv
  have hsnd : (xs.zip ds).map Prod.snd = ds := by rw [List.map_snd_zip]; rw [ra.len]; exact Nat.le_refl _
  have hle : its.length ≤ sizeLine := by rw [← rv.length]; exact hz
  have er' : EachIs (fun v (b : V × PyData) => ∃ as, Reads (sortingHeap (copyHeap s.heap its) (s.heap.objs.size + 1) its) v b.2 as) its (xs.zip ds) := er.mono fun _ _ ⟨as, r⟩ => ⟨as, PyProof.Rows.Reads.keeps (fun _ _ => PySem.W.sorting_copy_old) r⟩
  have er2 : EachIs (fun v d => ∃ as, Reads (sortingHeap (copyHeap s.heap its) (s.heap.objs.size + 1) its) v d as) its ds := by
    have := PySem.W.each_map (R := fun v d => ∃ as, Reads (sortingHeap (copyHeap s.heap its) (s.heap.objs.size + 1) its) v d as) (fun b : V × PyData => b.2) er'
    rwa [hsnd] at this
  have hal : AllAlike ((xs.zip ds).map fun b => b.2) := by
    show AllAlike ((xs.zip ds).map Prod.snd)
    rw [hsnd]
    unfold sortOk at so
    simp only [Bool.and_eq_true] at so
    exact all_alike so.1.1.1
  refine PySem.W.sorted_vals hl.isList (sorts_of (s := { s with heap := sortingHeap (copyHeap s.heap its) (s.heap.objs.size + 1) its }) er2 so (by show X.A.units + 1 + 1 + 51 < cLine; omega)) hle ?_
  have out := PySem.W.sortVals_data (h' := sortingHeap (copyHeap s.heap its) (s.heap.objs.size + 1) its) (enc := fun b : V × PyData => b.2) false e er' hal
  have hk : (xs.zip ds).map (fun b => b.2) = ds := hsnd
  rw [hk] at out
  obtain ⟨o1, o2⟩ := each_back out
  have hm : ((xs.zip ds).mergeSort (dataLe false fun b => b.2)).map Prod.snd = sortL ds := by
    unfold sortL
    have := List.map_mergeSort (r := dataLe false fun b : V × PyData => b.2) (s := dataLe false (id : PyData → PyData)) (f := Prod.snd) (l := xs.zip ds) fun a _ b _ => rfl
    rw [this, hsnd]
  rw [hm] at o2
  obtain ⟨c, hc⟩ := PyProof.Rows.sortedAll_at s.heap its (sortVals (dataKind (sortingHeap (copyHeap s.heap its) (s.heap.objs.size + 1) its) ds) false its its).toArray
  have hlen : (((xs.zip ds).mergeSort (dataLe false fun b => b.2)).map Prod.fst).length ≤ sizeLine := by
    rw [List.length_map, List.length_mergeSort, List.length_zip]
    have := rv.length
    omega
  exact ⟨.ref (s.heap.objs.size + 1), _, I.laid (t' := s.toks) (a := s.heap.objs.size + 1) (fun b u q => PyProof.Rows.sortedAll_old q) (Nat.le_succ _) (show ObjOk X.prog X.w _ _ _ (.lst (((xs.zip ds).mergeSort (dataLe false fun b => b.2)).map Prod.fst)) from ⟨hlen, _, c, o1, hc⟩), rfl, q _ _ o2 (I.hok.fresh (Nat.le_succ _))⟩
theorem un_sort {K : PySem.W.Frag} : UnOk K .F (fun v => rSortW K [v]) sortD := by
  intro M P H x dx d Q fx po mt rx e k
  cases dx with
  | list ds =>
    have e : (if sortOk ds = true then some (PyData.list (sortL ds)) else none) = some d := e
    split at e
    · rename_i c
      cases e
      rcases rx with rx | ⟨ds', a, vs, e1, rfl, l, n, ra⟩
      · obtain ⟨a, vs, rfl, l, ra⟩ := rx
        exact ⟨a, vs, ds, M, P, rfl, l.sq, ra, c, fun p ys ry hp => new_list po ry mt k p hp⟩
      · cases e1
        exact ⟨a, vs, ds, M, P, rfl, .inl (.inl l), ra, c, fun p ys ry hp => new_list po ry mt k p hp⟩
    · cases e
  | _ => cases e
section
variable {X : Cx} {e : Expr} {g : Ev → W PyData} {pos p : Pos}
theorem ew_sorted (hu : X.A.units + 64 < cLine) (hg : Gl X "sorted") (hm : X.mg "sorted" = none) (ha : EW X .B e g) (hs : starEach [e] X.env = (false, eval e X.env) :: starEach [] X.env := by rfl) : EW X .F (.Call (.Name "sorted" p) [e] [] pos) (wU sortD g) :=
  ew_callB un_sort (cr_sortW hu) hg hm (by decide +kernel) ha (hs := hs)
end
end WL

namespace WL
open PySem PySem.Spec PyProof.Rows L2
open PySem.W (EachIs AllAlike Sortable alike alikeAll dataLt dataLe SortsAt dataKind sortVals sortingHeap copyHeap)
/-! ### sorted(dict(pairs)), the keys tuples of ints -/
/-- a dict, told by its keys -/
def KeysO (a : Addr) (ys : List V) : HO := .ext fun h => (a == sysModules) = false ∧ ∃ es ep, h.DictRaw a es ep ∧ Vals ys (es.toList.map (·.key))
def firstsK {α : Type} : List (List Int × α) → List (List Int × α) → List (List Int × α)
  | acc, [] => acc
  | acc, p :: r => firstsK (if acc.any (fun q => decide (q.1 = p.1)) then acc else acc ++ [p]) r
section
variable {X : Cx} {pins : List (Addr × Obj)} {σ : L2.St} {H : Hp} {s : Shared}
theorem pairsT_of (I : Inv X pins σ H s) {v : V} : ∀ {ps : List Addr} {kts : List (List Int × Addr)}, Paired (fun p kt => SqT X.K H p [.ref kt.2, v] ∧ SqT X.K H kt.2 (kt.1.map V.int)) ps kts →
    ∃ us : List Value, us.length = ps.length ∧ kts.length = ps.length ∧ (∀ (j : Nat) (u : Value), us[j]? = some u → ∃ (b : Addr) (kt : List Int × Addr), ps[j]? = some b ∧ kts[j]? = some kt ∧ IsTup s.heap b #[.ref kt.2, u]) ∧
      ∀ kt ∈ kts, (tupleKind (mixKind X.prog X.w)).is s.heap (kt.1.map Sum.inl) kt.2
  | _, _, .nil => ⟨[], rfl, rfl, fun j q e => by simp at e, fun _ h => nomatch h⟩
  | _, _, .cons (a := p) (b := kt) ⟨h1, h2⟩ t => by
    obtain ⟨us, hl, hl2, hp, hk⟩ := pairsT_of I t
    obtain ⟨its, rv, ht, _⟩ := I.tuple h1
    obtain ⟨u, y, ei, ru, ry⟩ := vals2 rv
    subst ei
    cases ru
    refine ⟨y :: us, by rw [List.length_cons, List.length_cons, hl], by rw [List.length_cons, List.length_cons, hl2], fun j q e => ?_, fun kt' hm => ?_⟩
    · cases j with
      | zero =>
        have e' : y = q := Option.some.inj e
        subst e'
        exact ⟨p, kt, rfl, rfl, ht⟩
      | succ j =>
        obtain ⟨b, kt', e1, e2, e3⟩ := hp j q (by simpa using e)
        exact ⟨b, kt', by simpa using e1, by simpa using e2, e3⟩
    · rcases List.mem_cons.mp hm with rfl | hm
      · obtain ⟨its, r, ⟨o, ho, hc, n, hd⟩, _⟩ := I.tuple h2
        refine ⟨o, its.toArray, n, ho, hc, hd, ?_⟩
        have r' : Vals ((kt'.1.map Sum.inl).map kV) its := by
          have : (kt'.1.map Sum.inl).map kV = kt'.1.map V.int := by rw [List.map_map]; rfl
          rw [this]
          exact r
        simpa using items_are r'
      · exact hk kt' hm
end
/-- the key, its own object: what a dict's entry is told by -/
def ka (x : List Key × Addr × Value) : List Key × Addr := (x.1, x.2.1)
theorem atKey_any {xs : List (List Key × Addr × Value)} {k : List Key} : (atKey xs k).isSome = (xs.map ka).any fun q => decide (q.1 = k) := by
  induction xs with
  | nil => rfl
  | cons x xs ih =>
    by_cases e : x.1 = k
    · simp [atKey, ka, e]
    · have : (atKey (x :: xs) k) = atKey xs k := by simp [atKey, e]
      rw [this, ih]
      simp [ka, e]
theorem stored_ka {xs : List (List Key × Addr × Value)} {k : List Key} {a : Addr} {v : Value} : (storedH xs k a v).map ka = if (xs.map ka).any (fun q => decide (q.1 = k)) then xs.map ka else xs.map ka ++ [(k, a)] := by
  unfold storedH
  rw [atKey_any]
  split
  · rw [List.map_map]
    refine List.map_congr_left fun x _ => ?_
    by_cases e : x.1 = k <;> simp [ka, putAt, e]
  · simp [ka]
def toK (p : List Int × Addr) : List Key × Addr := (p.1.map Sum.inl, p.2)
theorem any_toK {acc : List (List Int × Addr)} {k : List Int} : ((acc.map toK).any fun q => decide (q.1 = k.map (Sum.inl : Int → Key))) = acc.any fun q => decide (q.1 = k) := by
  rw [List.any_map]
  congr 1
  funext q
  have : (q.1.map (Sum.inl : Int → Key) = k.map Sum.inl) ↔ q.1 = k := ⟨fun h => (List.map_inj_right (f := (Sum.inl : Int → Key)) (fun a b e => Sum.inl.inj e)).mp h, fun h => by rw [h]⟩
  simp [toK, this]
theorem stored_all_ka : ∀ {ps : List (List Key × Addr × Value)} {acc : List (List Key × Addr × Value)} {kts acc' : List (List Int × Addr)}, ps.map ka = kts.map toK → acc.map ka = acc'.map toK → (storedAllH acc ps).map ka = (firstsK acc' kts).map toK
  | [], acc, [], acc', _, h2 => h2
  | p :: ps, acc, kt :: kts, acc', h1, h2 => by
    rw [List.map_cons, List.map_cons] at h1
    obtain ⟨e1, e2⟩ := List.cons.inj h1
    show (storedAllH (storedH acc p.1 p.2.1 p.2.2) ps).map ka = (firstsK (if acc'.any (fun q => decide (q.1 = kt.1)) then acc' else acc' ++ [kt]) kts).map toK
    refine stored_all_ka e2 ?_
    rw [stored_ka, h2]
    have e3 : p.1 = kt.1.map Sum.inl := congrArg Prod.fst e1
    have e4 : p.2.1 = kt.2 := congrArg Prod.snd e1
    rw [e3, any_toK]
    split
    · rfl
    · rw [List.map_append, e4]
      rfl
theorem cr_dictT {X : Cx} (hcalm : X.calm = true) (hu : X.A.units + 64 < cLine) : CallR X (.type "dict") (fun xs H Q => ∃ (a : Addr) (ps : List Addr) (kts : List (List Int × Addr)) (v : V), xs = [.ref a] ∧ SqL X.K H a (ps.map V.ref) ∧
    Paired (fun p kt => SqT X.K H p [.ref kt.2, v] ∧ SqT X.K H kt.2 (kt.1.map V.int)) ps kts ∧ ∀ p, H p = none → Q (.ref p) (upd H p (KeysO p ((firstsK [] kts).map fun kt => V.ref kt.2)))) := by
  intro pins s σ H xs us Q I r q
  obtain ⟨a, ps, kts, v, ex, hq, hp, q⟩ := q
  subst ex
  obtain ⟨u, eu, rx⟩ := vals1 r
  subst eu
  cases rx
  obtain ⟨its, rv, pl, hz⟩ := I.list hq
  have ei := refs_at rv
  subst ei
  rw [List.length_map] at hz
  obtain ⟨us, l1, l2, hus, hks⟩ := pairsT_of I hp
  obtain ⟨o, n, ho, hc, hd, hdat⟩ := pl
  let prs : List (Value × Value) := (kts.zip us).map fun z => (.ref z.1.2, z.2)
  let psH : List (List Key × Addr × Value) := (kts.zip us).map fun z => (z.1.1.map Sum.inl, z.1.2, z.2)
  have lz : (kts.zip us).length = ps.length := by rw [List.length_zip]; omega
  have lp : prs.length = ps.length := by simp [prs, l1, l2]
  have get : ∀ (j : Nat) (k u : Value), prs[j]? = some (k, u) → ∃ (b : Addr) (kt : List Int × Addr), ps[j]? = some b ∧ kts[j]? = some kt ∧ us[j]? = some u ∧ k = Value.ref kt.2 ∧ IsTup s.heap b #[.ref kt.2, u] := fun j k u e => by
    have e : ((kts.zip us)[j]?).map (fun z => ((Value.ref z.1.2, z.2) : Value × Value)) = some (k, u) := by rw [← List.getElem?_map]; exact e
    obtain ⟨z, hz, ez⟩ := Option.map_eq_some_iff.mp e
    obtain ⟨z1, z2⟩ := List.getElem?_zip_eq_some.mp hz
    cases ez
    obtain ⟨b, kt, h1, h2, h3⟩ := hus j z.2 z2
    rw [z1] at h2
    cases h2
    exact ⟨b, z.1, h1, z1, z2, rfl, h3⟩
  have pit : PairItems s.heap (ps.map Value.ref).toArray (fun j => ps.getD j 0) prs := by
    refine ⟨by simp [lp], fun j k u e => ?_⟩
    obtain ⟨b, kt, h1, h2, h3, rfl, h5⟩ := get j k u e
    have eb : ps.getD j 0 = b := by rw [List.getD_eq_getElem?_getD, h1]; rfl
    refine ⟨by simp [h1], ?_⟩
    show PairAt s.heap (ps.getD j 0) _ _
    rw [eb]
    exact .inl h5
  refine call_dict_pairsH (knd := tupleKind (mixKind X.prog X.w)) (ps := psH) (PairArg.list a (ps.map Value.ref).toArray (fun j => ps.getD j 0) prs) (I.ok.hd hcalm) (by show X.A.units + 1 + 1 < cLine; omega)
    ⟨⟨o, n, ho, hc, hd, hdat⟩, pit⟩ ⟨by simp [psH, lp, lz], fun i key u e => ?_⟩ (fun h' hk x hx => ?_) (by rw [lp]; exact hz) fun h' tk hd' hk => ?_
  · obtain ⟨b, kt, h1, h2, h3, rfl, h5⟩ := get i key u e
    refine ⟨kt.1.map Sum.inl, kt.2, ?_, rfl⟩
    show ((kts.zip us).map _)[i]? = _
    have hzz : (kts.zip us)[i]? = some (kt, u) := List.getElem?_zip_eq_some.mpr ⟨h2, h3⟩
    rw [List.getElem?_map, hzz]
    rfl
  · obtain ⟨z, hz, rfl⟩ := List.mem_map.mp hx
    obtain ⟨o, items, n, ho, hc, hd, hi⟩ := hks z.1 (List.of_mem_zip hz).1
    exact ⟨o, items, n, hk _ o (Nat.ne_of_lt (Heap.lt_size ho)) (by simp) ho, hc, hd, hi⟩
  · have hm : (s.heap.objs.size == sysModules) = false := beq_eq_false_iff_ne.mpr (Nat.ne_of_gt I.big)
    obtain ⟨es, ep, hr, hs, hes⟩ := hd'.raw
    have ekeys : Vals ((firstsK [] kts).map fun kt => V.ref kt.2) (es.toList.map (·.key)) := by
      have e1 : (storedAllH [] psH).map ka = (firstsK [] kts).map toK := by
        refine stored_all_ka (acc := []) (acc' := []) ?_ rfl
        show ((kts.zip us).map _).map ka = _
        rw [List.map_map]
        have e2 : (ka ∘ fun z : (List Int × Addr) × Value => (z.1.1.map (Sum.inl : Int → Key), z.1.2, z.2)) = toK ∘ Prod.fst := rfl
        rw [e2, ← List.map_map, List.map_fst_zip]
        omega
      have e3 : es.toList.map (·.key) = ((firstsK [] kts).map fun kt => Value.ref kt.2) := by
        refine List.ext_getElem? fun i => ?_
        rw [List.getElem?_map, List.getElem?_map]
        by_cases hi : i < es.size
        · obtain ⟨y, hy, h1, _⟩ := hes i hi
          have h2 : (storedAllH [] psH).map ka = (firstsK [] kts).map toK := e1
          have h3 : ((storedAllH [] psH).map ka)[i]? = some (ka y) := by rw [List.getElem?_map, hy]; rfl
          rw [h2, List.getElem?_map] at h3
          obtain ⟨kt, hkt, ekt⟩ := Option.map_eq_some_iff.mp h3
          have e4 : kt.2 = y.2.1 := congrArg Prod.snd ekt
          rw [hkt]
          simp [hi, h1, e4]
        · have h4 : (firstsK [] kts).length = es.size := by
            rw [hs]
            have := congrArg List.length e1
            simpa using this.symm
          rw [List.getElem?_eq_none (by simpa using hi), List.getElem?_eq_none (by omega)]
          rfl
      rw [e3]
      have : ∀ l : List (List Int × Addr), Vals (l.map fun kt => V.ref kt.2) (l.map fun kt => Value.ref kt.2) := by
        intro l
        induction l with
        | nil => exact .nil
        | cons x l ih => exact .cons rfl ih
      exact this _
    refine ⟨.ref s.heap.objs.size, _, I.laid (t' := tk) (a := s.heap.objs.size) (fun b o e => hk b o (by simp) e) (Nat.le_refl _)
      (show ObjOk X.prog X.w _ _ _ (KeysO s.heap.objs.size _) from ⟨⟨hm, es, ep, hr, ekeys⟩, ?_, ?_⟩), rfl, q _ (I.hok.fresh (Nat.le_refl _))⟩
    · obtain ⟨o, ho, _⟩ := hr
      exact ⟨o, ho⟩
    · rintro h1 h2 ⟨a1, es, ep, hr, hv⟩ hk
      exact ⟨a1, es, ep, hr.at hk, hv⟩
end WL

namespace WL
open PySem PySem.Spec PyProof.Rows L2
open PySem.W (EachIs AllAlike Sortable alike alikeAll dataLt dataLe SortsAt dataKind sortVals sortingHeap copyHeap)
/-! ### sorted(d) of a dict that is told by its keys -/
theorem cr_sortK {X : Cx} (hcalm : X.calm = true) (hu : X.A.units + 64 < cLine) : CallR X (.builtin "sorted") (fun vs H Q => ∃ (a : Addr) (xs : List V) (ds : List PyData) (M P : Addr → Prop), vs = [.ref a] ∧ H a = some (KeysO a xs) ∧ RpA X.K H M P ds xs ∧ sortOk ds = true ∧ ds.length ≤ 1000 ∧
    ∀ p ys, RpA X.K H M P (sortL ds) ys → H p = none → Q (.ref p) (upd H p (.lst ys))) := by
  intro pins s σ H vs us Q I r h
  obtain ⟨a, xs, ds, M, P, rfl, hs, ra, so, hlen, q⟩ := h
  obtain ⟨u, rfl, ru⟩ := vals1 r
  obtain rfl : u = Value.ref a := ru
  obtain ⟨⟨lo, es, ep, hr, hv⟩, _, _⟩ := I.hok a _ hs
  have hp : plainA ds = true := by
    unfold sortOk at so
    simp only [Bool.and_eq_true] at so
    exact so.1.2
  have hes : es.size = ds.length := by
    have h1 := hv.length
    have h2 := ra.len
    simp at h1
    omega
  have h16 : es.size ≤ sizeLine := by rw [hes]; exact Nat.le_trans hlen (by decide)
  refine Calls.call_function_entry PyProof.Rows.kind_sorted PyProof.Rows.plain_sorted PyProof.Rows.entry_sorted (PyProof.Rows.args_sorted1 _) ?_
  unfold Builtin.«sorted»
  refine wpAny_bind (m := checkCount "sorted" 1 1 _) (wpAny_pure ?_)
  refine wpAny_bind (PySem.W.kdu_collect (A := X.A.in1) (KdlSrc.rawDict (es := es) (ep := ep) lo) (I.ok.hd hcalm) hr h16 fun h' tk acc hk hacc => ?_)
  have eacc : acc.toList = es.toList.map (·.key) := by
    refine List.ext_getElem? fun i => ?_
    rw [List.getElem?_map]
    by_cases hi : i < es.size
    · have ha : i < acc.size := by rw [hacc.1]; exact hi
      obtain ⟨hi', e⟩ := hacc.2 i acc[i] (Array.getElem?_eq_getElem ha)
      have h1 : acc.toList[i]? = some acc[i] := by simp [ha]
      rw [h1, e]
      simp [hi]
    · have ha : ¬ i < acc.size := by rw [hacc.1]; exact hi
      rw [List.getElem?_eq_none (by simpa using ha), List.getElem?_eq_none (by simpa using hi)]
      rfl
  have rv : Vals xs acc.toList := by rw [eacc]; exact hv
  have I1 : Inv X pins σ H { s with heap := h', toks := tk } := I.kept hk
  have hle : acc.toList.length ≤ sizeLine := by rw [← rv.length, ra.len]; exact Nat.le_trans hlen (by decide)
  refine wpAny_bind (wpAny_newList ?_ hle)
  have hoL : (h'.push (seqObj "list" acc.toList.toArray 0)).get? h'.objs.size = some (seqObj "list" acc.toList.toArray 0) := Heap.get?_push_size _ rfl
  show wpAny _ _ _ _ _ { s with heap := h'.push (seqObj "list" acc.toList.toArray 0), toks := tk }
  obtain ⟨e, er⟩ := each_zip I1 hp ra rv
  have hsnd : (xs.zip ds).map Prod.snd = ds := by rw [List.map_snd_zip]; rw [ra.len]; exact Nat.le_refl _
  have kp : ∀ (b : Addr) (o : Obj), h'.get? b = some o → (sortingHeap (h'.push (seqObj "list" acc.toList.toArray 0)) h'.objs.size acc.toList).get? b = some o := fun b o q =>
    PySem.W.sortingHeap_old (Nat.ne_of_lt (Heap.lt_size q)) (Heap.get?_push_of_some _ q)
  have er' : EachIs (fun v (b : V × PyData) => ∃ as, Reads (sortingHeap (h'.push (seqObj "list" acc.toList.toArray 0)) h'.objs.size acc.toList) v b.2 as) acc.toList (xs.zip ds) := er.mono fun _ _ ⟨as, r⟩ => ⟨as, PyProof.Rows.Reads.keeps kp r⟩
  have er2 : EachIs (fun v d => ∃ as, Reads (sortingHeap (h'.push (seqObj "list" acc.toList.toArray 0)) h'.objs.size acc.toList) v d as) acc.toList ds := by
    have := PySem.W.each_map (R := fun v d => ∃ as, Reads (sortingHeap (h'.push (seqObj "list" acc.toList.toArray 0)) h'.objs.size acc.toList) v d as) (fun b : V × PyData => b.2) er'
    have hk2 : (xs.zip ds).map (fun b => b.2) = ds := hsnd
    rwa [hk2] at this
  have hal : AllAlike ((xs.zip ds).map fun b => b.2) := by
    show AllAlike ((xs.zip ds).map Prod.snd)
    rw [hsnd]
    unfold sortOk at so
    simp only [Bool.and_eq_true] at so
    exact all_alike so.1.1.1
  have out := PySem.W.sortVals_data (h' := sortingHeap (h'.push (seqObj "list" acc.toList.toArray 0)) h'.objs.size acc.toList) (enc := fun b : V × PyData => b.2) false e er' hal
  have hk2 : (xs.zip ds).map (fun b => b.2) = ds := hsnd
  rw [hk2] at out
  obtain ⟨o1, o2⟩ := each_back out
  have hm : ((xs.zip ds).mergeSort (dataLe false fun b => b.2)).map Prod.snd = sortL ds := by
    unfold sortL
    have := List.map_mergeSort (r := dataLe false fun b : V × PyData => b.2) (s := dataLe false (id : PyData → PyData)) (f := Prod.snd) (l := xs.zip ds) fun a _ b _ => rfl
    rw [this, hsnd]
  rw [hm] at o2
  refine wpAny_bind (wpAny_holding (wpAny_call_entry PyProof.Rows.slot_list_sort ⟨_, hoL, rfl⟩ PyProof.Rows.entry_list_sort
    (PySem.W.list_sort_vals (s := { s with heap := h'.push (seqObj "list" acc.toList.toArray 0), toks := tk }) (κ := dataKind (sortingHeap (h'.push (seqObj "list" acc.toList.toArray 0)) h'.objs.size acc.toList) ds) hoL
      (sorts_of (s := { s with heap := sortingHeap (h'.push (seqObj "list" acc.toList.toArray 0)) h'.objs.size acc.toList, toks := tk }) er2 so (by show X.A.units + 1 + 1 + 51 < cLine; omega)) hle ⟨_, rfl, ?_⟩)
    (PyProof.Rows.args_list_sort _)))
  obtain ⟨c, hc⟩ := PyProof.Rows.sortedHeap_at (vs := acc.toList) (out := (sortVals (dataKind (sortingHeap (h'.push (seqObj "list" acc.toList.toArray 0)) h'.objs.size acc.toList) ds) false acc.toList acc.toList).toArray) hoL
  have hlen2 : (((xs.zip ds).mergeSort (dataLe false fun b => b.2)).map Prod.fst).length ≤ sizeLine := by
    rw [List.length_map, List.length_mergeSort, List.length_zip]
    have := rv.length
    omega
  refine wpAny_pure ⟨_, rfl, .ref h'.objs.size, _, I1.laid (t' := tk) (a := h'.objs.size) (fun b u e => ?_) (Nat.le_refl _)
    (show ObjOk X.prog X.w _ _ _ (.lst (((xs.zip ds).mergeSort (dataLe false fun b => b.2)).map Prod.fst)) from ⟨hlen2, _, c, o1, hc⟩), rfl, q _ _ o2 (I1.hok.fresh (Nat.le_refl _))⟩
  have hb : b < h'.objs.size := Heap.lt_size e
  rw [PyProof.Rows.sortedHeap_old (Nat.ne_of_lt hb) (by rw [PyProof.Rows.size_push']; exact Nat.lt_succ_of_lt hb)]
  exact Heap.get?_push_of_some _ e
end WL

namespace WL
open PySem PySem.Spec PyProof.Rows L2
/-! ### sorted(dict([(k, 1), ..])) -/
def tupI (l : List Int) : PyData := .tuple (l.map PyData.int)
/-- the first ones of each -/
def fstsL : List (List Int) → List (List Int) → List (List Int)
  | acc, [] => acc
  | acc, p :: r => fstsL (if acc.any (fun q => decide (q = p)) then acc else acc ++ [p]) r
theorem firstsK_fst {α : Type} : ∀ {kts : List (List Int × α)} {acc : List (List Int × α)}, (firstsK acc kts).map Prod.fst = fstsL (acc.map Prod.fst) (kts.map Prod.fst)
  | [], _ => rfl
  | p :: r, acc => by
    show (firstsK (if acc.any (fun q => decide (q.1 = p.1)) then acc else acc ++ [p]) r).map Prod.fst = fstsL (if (acc.map Prod.fst).any (fun q => decide (q = p.1)) then acc.map Prod.fst else acc.map Prod.fst ++ [p.1]) (r.map Prod.fst)
    rw [firstsK_fst, List.any_map]
    congr 1
    show (if _ then acc else acc ++ [p]).map Prod.fst = if (acc.any fun q => decide (q.1 = p.1)) = true then _ else _
    split <;> simp
theorem firstsK_mem {α : Type} {x : List Int × α} : ∀ {kts : List (List Int × α)} {acc : List (List Int × α)}, x ∈ firstsK acc kts → x ∈ acc ∨ x ∈ kts
  | [], _, h => .inl h
  | p :: r, acc, h => by
    rcases firstsK_mem (kts := r) h with h | h
    · split at h
      · exact .inl h
      · rcases List.mem_append.mp h with h | h
        · exact .inl h
        · rw [List.mem_singleton.mp h]
          exact .inr List.mem_cons_self
    · exact .inr (List.mem_cons_of_mem _ h)
theorem mem_fstsL {x : List Int} : ∀ {l acc : List (List Int)}, x ∈ fstsL acc l ↔ x ∈ acc ∨ x ∈ l
  | [], acc => by simp [fstsL]
  | p :: r, acc => by
    show x ∈ fstsL (if _ then acc else acc ++ [p]) r ↔ _
    rw [mem_fstsL]
    split
    · rename_i h
      obtain ⟨q, hq, e⟩ := List.any_eq_true.mp h
      have e := of_decide_eq_true e
      subst e
      constructor
      · rintro (h | h)
        · exact .inl h
        · exact .inr (List.mem_cons_of_mem _ h)
      · rintro (h | h)
        · exact .inl h
        · rcases List.mem_cons.mp h with rfl | h
          · exact .inl hq
          · exact .inr h
    · simp [or_assoc]
theorem fstsL_nodup : ∀ {l acc : List (List Int)}, acc.Nodup → (fstsL acc l).Nodup
  | [], _, h => h
  | p :: r, acc, h => by
    refine fstsL_nodup (l := r) ?_
    split
    · exact h
    · rename_i hn
      refine List.nodup_append.mpr ⟨h, by simp, fun a ha b hb e => ?_⟩
      rw [List.mem_singleton.mp hb] at e
      subst e
      exact hn (List.any_eq_true.mpr ⟨a, ha, decide_eq_true rfl⟩)
section
variable {K : PySem.W.Frag} {H : Hp} {M P : Addr → Prop}
theorem rpA_ints : ∀ {l : List Int} {vs : List V}, RpA K H M P (l.map PyData.int) vs → vs = l.map V.int
  | [], _, h => h
  | i :: l, _, h => by
    obtain ⟨v, r, rfl, h1, h2⟩ := h
    rw [rpA_ints h2, show v = .int i from h1]
    rfl
theorem pairs_rp : ∀ {ts : List (List Int)} {vs : List V}, RpA K H M P (ts.map fun t => .tuple [tupI t, .int 1]) vs → ∃ (ps : List Addr) (kts : List (List Int × Addr)), vs = ps.map V.ref ∧ kts.map Prod.fst = ts ∧
    Paired (fun p (kt : List Int × Addr) => SqT K H p [.ref kt.2, .int 1] ∧ SqT K H kt.2 (kt.1.map V.int)) ps kts ∧ ∀ kt ∈ kts, Rp K H M P (tupI kt.1) (.ref kt.2)
  | [], _, h => by
    cases (show _ = [] from h)
    exact ⟨[], [], rfl, rfl, .nil, fun _ h => nomatch h⟩
  | t :: ts, _, h => by
    obtain ⟨v, r, rfl, h1, h2⟩ := h
    obtain ⟨ps, kts, rfl, e, hp, hk⟩ := pairs_rp h2
    obtain ⟨p, us, rfl, s1, u1, us', rfl, q1, u2, us2, rfl, q2, rfl⟩ := h1
    have q1' := q1
    obtain ⟨b, ws, rfl, s2, r2⟩ := q1
    have := rpA_ints r2
    subst this
    cases (show u2 = .int 1 from q2)
    refine ⟨p :: ps, (t, b) :: kts, rfl, by rw [List.map_cons, e], .cons ⟨s1, s2⟩ hp, fun kt hm => ?_⟩
    rcases List.mem_cons.mp hm with rfl | hm
    · exact q1'
    · exact hk kt hm
theorem rpA_of {α : Type} {f : α → PyData} {g : α → V} : ∀ {l : List α}, (∀ x ∈ l, Rp K H M P (f x) (g x)) → RpA K H M P (l.map f) (l.map g)
  | [], _ => rfl
  | x :: l, h => ⟨_, _, rfl, h x List.mem_cons_self, rpA_of fun y hy => h y (List.mem_cons_of_mem _ hy)⟩
theorem pairs_ints : ∀ {ns : List Int} {vs : List V}, RpA K H M P (ns.map fun n => .tuple [.int n, .int 1]) vs → ∃ ps : List Addr, vs = ps.map V.ref ∧ Paired (fun p (kv : Key × V) => SqT K H p [kV kv.1, kv.2]) ps (ns.map fun n => (Sum.inl n, V.int 1))
  | [], _, h => by
    cases (show _ = [] from h)
    exact ⟨[], rfl, .nil⟩
  | n :: ns, _, h => by
    obtain ⟨v, r, rfl, h1, h2⟩ := h
    obtain ⟨ps, rfl, hp⟩ := pairs_ints h2
    obtain ⟨p, us, rfl, s1, u1, us', rfl, q1, u2, us2, rfl, q2, rfl⟩ := h1
    cases (show u1 = .int n from q1)
    cases (show u2 = .int 1 from q2)
    exact ⟨p :: ps, rfl, .cons s1.sq hp⟩
end
theorem putK_keys {κ : Type} [DecidableEq κ] {kvs : List (κ × V)} {k : κ} {v : V} : (putK kvs k v).map Prod.fst = if kvs.any (fun q => decide (q.1 = k)) then kvs.map Prod.fst else kvs.map Prod.fst ++ [k] := by
  unfold putK
  split
  · rw [List.map_map]
    refine List.map_congr_left fun x _ => ?_
    show (if x.1 = k then (x.1, v) else x).1 = x.1
    split <;> rfl
  · rw [List.map_append]
    rfl
def fstsI : List Int → List Int → List Int
  | acc, [] => acc
  | acc, p :: r => fstsI (if acc.any (fun q => decide (q = p)) then acc else acc ++ [p]) r
theorem mem_fstsI {x : Int} : ∀ {l acc : List Int}, x ∈ fstsI acc l ↔ x ∈ acc ∨ x ∈ l
  | [], acc => by simp [fstsI]
  | p :: r, acc => by
    show x ∈ fstsI (if _ then acc else acc ++ [p]) r ↔ _
    rw [mem_fstsI]
    split
    · rename_i h
      obtain ⟨q, hq, e⟩ := List.any_eq_true.mp h
      have e := of_decide_eq_true e
      subst e
      constructor
      · rintro (h | h)
        · exact .inl h
        · exact .inr (List.mem_cons_of_mem _ h)
      · rintro (h | h)
        · exact .inl h
        · rcases List.mem_cons.mp h with rfl | h
          · exact .inl hq
          · exact .inr h
    · simp [or_assoc]
theorem fstsI_nodup : ∀ {l acc : List Int}, acc.Nodup → (fstsI acc l).Nodup
  | [], _, h => h
  | p :: r, acc, h => by
    refine fstsI_nodup (l := r) ?_
    split
    · exact h
    · rename_i hn
      refine List.nodup_append.mpr ⟨h, by simp, fun a ha b hb e => ?_⟩
      rw [List.mem_singleton.mp hb] at e
      subst e
      exact hn (List.any_eq_true.mpr ⟨a, ha, decide_eq_true rfl⟩)
theorem fstsI_len : ∀ {l acc : List Int}, (fstsI acc l).length ≤ acc.length + l.length
  | [], _ => Nat.le_refl _
  | p :: r, acc => by
    refine Nat.le_trans (fstsI_len (l := r)) ?_
    split <;> simp <;> omega
theorem merge_keys {ns : List Int} : ∀ {acc : List (Key × V)} {ks : List Int}, acc.map Prod.fst = ks.map Sum.inl → (mergeK acc (ns.map fun n => (Sum.inl n, V.int 1))).map Prod.fst = (fstsI ks ns).map Sum.inl := by
  induction ns with
  | nil => intro acc ks h; exact h
  | cons n ns ih =>
    intro acc ks h
    show (mergeK (putK acc (Sum.inl n) (V.int 1)) (ns.map fun n => (Sum.inl n, V.int 1))).map Prod.fst = _
    refine ih ?_
    rw [putK_keys, h]
    have e : (acc.any fun q => decide (q.1 = (Sum.inl n : Key))) = ks.any fun q => decide (q = n) := by
      have e1 : (acc.any fun q => decide (q.1 = (Sum.inl n : Key))) = (acc.map Prod.fst).any fun q => decide (q = (Sum.inl n : Key)) := by rw [List.any_map]; rfl
      rw [e1, h, List.any_map]
      congr 1
      funext q
      show decide ((Sum.inl q : Key) = Sum.inl n) = _
      by_cases z : q = n
      · simp [z]
      · have : ¬ (Sum.inl q : Key) = Sum.inl n := fun e => z (Sum.inl.inj e)
        rw [decide_eq_false this, decide_eq_false z]
    rw [e]
    split
    · rfl
    · rw [List.map_append]
      rfl
end WL

namespace WL
open PySem PySem.Spec PyProof.Rows L2
def wSortedDict (g : Ev → W PyData) : Ev → W PyData := fun ρ Q => g ρ fun d =>
  (∃ ns : List Int, d = .list (ns.map fun n => .tuple [.int n, .int 1]) ∧ ns.length < 64 ∧ ∀ ys : List Int, ys.Perm (fstsI [] ns) → ys.Pairwise (· ≤ ·) → Q (.list (ys.map PyData.int))) ∨
  (∃ ts : List (List Int), d = .list (ts.map fun t => .tuple [tupI t, .int 1]) ∧ ts.length ≤ 1000 ∧ sortOk ((fstsL [] ts).map tupI) = true ∧ Q (.list (sortL ((fstsL [] ts).map tupI))))
theorem mono_wSortedDict {g : Ev → W PyData} (h : Mono g) : Mono (wSortedDict g) := fun ρ _ _ i q => h ρ _ _ (fun _ q => q.imp (fun ⟨ns, e, l, q⟩ => ⟨ns, e, l, fun ys h1 h2 => i _ (q ys h1 h2)⟩) fun ⟨ts, e, l, s, q⟩ => ⟨ts, e, l, s, i _ q⟩) q
theorem fstsL_len : ∀ {l acc : List (List Int)}, (fstsL acc l).length ≤ acc.length + l.length
  | [], _ => Nat.le_refl _
  | p :: r, acc => by
    refine Nat.le_trans (fstsL_len (l := r)) ?_
    split <;> simp <;> omega
section
variable {X : Cx} {e : Expr} {g : Ev → W PyData} {pos pos2 p p2 : Pos}
theorem ew_sortedDict (hu : X.A.units + 64 < cLine) (hg : Gl X "sorted") (hm : X.mg "sorted" = none) (hg2 : Gl X "dict") (hm2 : X.mg "dict" = none) (ha : EW X .B e g) (hc : X.calm = true := by rfl)
    (hs : starEach [e] X.env = (false, eval e X.env) :: starEach [] X.env := by rfl) (hs2 : starEach [.Call (.Name "dict" p2) [e] [] pos2] X.env = (false, eval (.Call (.Name "dict" p2) [e] [] pos2) X.env) :: starEach [] X.env := by rfl) :
    EW X .F (.Call (.Name "sorted" p) [.Call (.Name "dict" p2) [e] [] pos2] [] pos) (wSortedDict g) := by
  refine ⟨mono_wSortedDict ha.mono, (?_ : PE X _ _)⟩
  have inner := pe_callTy (CallR.or (call_dictP hc) (cr_dictT hc hu)) hg2 hm2 (T := "dict") (by decide +kernel) (pa_cons ha.pe pa_nil hs) (by decide) (by decide) hs rfl (pos := pos2) (p := p2)
  have base := pe_callB (CallR.or (call_sortedDI hc) (cr_sortK hc hu)) hg hm (id := "sorted") (by decide +kernel) (pa_cons inner pa_nil hs2) (by decide) (by decide) hs2 rfl (pos := pos) (p := p)
  refine base.imp fun σ H Q ⟨B, P, ρ, R, q⟩ => ⟨B, P, ρ, R, ha.mono ρ _ _ (fun d q v P1 H1 f1 r1 => ?_) q⟩
  have R1 := R.fut f1
  have mt : ∀ a, Mo B ρ σ a → (H1 a).isSome = true := fun a h => R1.mtrk h
  have back : ∀ {a : Addr} {ds : List PyData} {vs : List V}, RM .B X.K (Mo B ρ σ) H P1 H1 (.list ds) v → ∃ a vs, v = .ref a ∧ SqL X.K H1 a vs ∧ RpA X.K H1 (Mo B ρ σ) P1 ds vs := fun {a ds vs} r => by
    rcases r with ⟨a, vs, rfl, l, ra⟩ | ⟨ds', a, vs, e1, rfl, l, n, ra⟩
    · exact ⟨a, vs, rfl, l.sq, ra⟩
    · cases e1
      exact ⟨a, vs, rfl, .inl (.inl l), ra⟩
  rcases q with ⟨ns, rfl, l64, q⟩ | ⟨ts, rfl, l1000, so, q⟩
  · obtain ⟨a, vs, rfl, sq, ra⟩ := back (a := 0) (vs := []) r1
    obtain ⟨ps, rfl, hp⟩ := pairs_ints ra
    refine .inl ⟨a, ps, _, rfl, sq, hp, fun p0 hp0 => .inl ⟨p0, _, fstsI [] ns, rfl, .inl upd_same, merge_keys (acc := []) (ks := []) rfl, ?_, fun ys p1 h1 h2 hp1 => ?_⟩⟩
    · have := fstsI_len (l := ns) (acc := [])
      simp at this
      omega
    · have f2 : Fut S0 P1 H1 P1 (upd H1 p0 (.dK (mergeK [] (ns.map fun n => (Sum.inl n, V.int 1))))) := .new f1.ok' hp0
      have rr : RpA X.K (upd H1 p0 (.dK (mergeK [] (ns.map fun n => (Sum.inl n, V.int 1))))) (Mo B ρ σ) P1 (ys.map PyData.int) (ys.map V.int) := rpA_of fun x _ => rfl
      exact new_list (M := Mo B ρ σ) f2.ok' rr (fun a h => ((R1.fut f2).mtrk h)) (fun v P3 H3 f3 r3 => q ys h1 h2 v P3 H3 ((f1.trans0 f2).trans0 f3) (r3.back (f1.trans0 f2))) p1 hp1
  · obtain ⟨a, vs, rfl, sq, ra⟩ := back (a := 0) (vs := []) r1
    obtain ⟨ps, kts, rfl, ek, hp, hk⟩ := pairs_rp ra
    refine .inr ⟨a, ps, kts, .int 1, rfl, sq, hp, fun p0 hp0 => ?_⟩
    have f2 : Fut S0 P1 H1 P1 (upd H1 p0 (KeysO p0 ((firstsK [] kts).map fun kt => V.ref kt.2))) := .new f1.ok' hp0
    have em : (firstsK [] kts).map (fun kt => tupI kt.1) = (fstsL [] ts).map tupI := by
      have := firstsK_fst (kts := kts) (acc := [])
      rw [ek] at this
      rw [show (firstsK [] kts).map (fun kt => tupI kt.1) = ((firstsK [] kts).map Prod.fst).map tupI by rw [List.map_map]; rfl, this]
      rfl
    have rr : RpA X.K (upd H1 p0 (KeysO p0 ((firstsK [] kts).map fun kt => V.ref kt.2))) (Mo B ρ σ) P1 ((firstsK [] kts).map fun kt => tupI kt.1) ((firstsK [] kts).map fun kt => V.ref kt.2) :=
      (rpA_of (l := firstsK [] kts) (f := fun kt => tupI kt.1) (g := fun kt => V.ref kt.2) fun x hx => hk x ((firstsK_mem hx).resolve_left (by simp))).fut0 f2
    rw [em] at rr
    refine .inr ⟨p0, _, (fstsL [] ts).map tupI, Mo B ρ σ, P1, rfl, upd_same, rr, so, ?_, fun p1 ys ry hp1 => ?_⟩
    · rw [List.length_map]
      have := fstsL_len (l := ts) (acc := [])
      simp at this
      omega
    · exact new_list (M := Mo B ρ σ) f2.ok' ry (fun a h => ((R1.fut f2).mtrk h)) (fun v P3 H3 f3 r3 => q v P3 H3 ((f1.trans0 f2).trans0 f3) (r3.back (f1.trans0 f2))) p1 hp1
end
end WL

namespace WL
open PySem PySem.Spec PyProof.Rows L2
/-! ### repr([e, ..]), the items lent: lists of one's own may be among them -/
def N0 : Addr → Prop := fun _ => False
def tWab (K : PySem.W.Frag) (g : Ev → W (List PyData)) : TA := fun σ H Q =>
  ∃ B P ρ, RE K B P H ρ σ ∧ g ρ fun ds => ∀ vs P' H', Fut S0 P H P' H' → RpA K H' N0 P' ds vs → Q vs H'
structure EAB (X : Cx) (es : List Expr) (g : Ev → W (List PyData)) : Prop where
  mono : Mono g
  pa : PA X es (tWab X.K g)
theorem rm_lent {K : PySem.W.Frag} {M : Addr → Prop} {H0 H : Hp} {P : Addr → Prop} {d : PyData} {v : V} (h : RM .B K M H0 P H d v) : Rp K H N0 P d v := by
  rcases h with h | ⟨ds, a, vs, rfl, rfl, l, n, ra⟩
  · exact h.anti fun _ z => z.elim
  · exact ⟨a, vs, rfl, .inl ⟨l, (fun z => z.elim), n⟩, ra.anti fun _ z => z.elim⟩
section
variable {X : Cx} {e : Expr} {es : List Expr} {g : Ev → W PyData} {gs : Ev → W (List PyData)}
theorem eab_nil : EAB X [] wNil := ⟨fun _ _ _ i q => i _ q, pa_nil.imp fun σ H Q ⟨B, P, ρ, R, q⟩ => q [] P H (.refl R.pots) rfl⟩
theorem eab_cons (h : EW X .B e g) (h' : EAB X es gs) (hs : starEach (e :: es) X.env = (false, eval e X.env) :: starEach es X.env := by rfl) : EAB X (e :: es) (wCons g gs) :=
  ⟨mono_wCons h.mono h'.mono, (pa_cons h.pe h'.pa hs).imp fun σ H Q ⟨B, P, ρ, R, q⟩ => ⟨B, P, ρ, R, h.mono ρ _ _ (fun d q v P1 H1 f1 r1 => ⟨B, P1, ρ, R.fut f1, h'.mono ρ _ _ (fun ds q vs P2 H2 f2 r2 =>
    q (v :: vs) P2 H2 (f1.trans0 f2) ⟨v, vs, rfl, (rm_lent r1).fut0 f2, r2⟩) q⟩) q⟩⟩
theorem ew_reprL {p pos lpos : Pos} (hgd : X.A.guards = some []) (hu : X.A.units + 64 < cLine) (hg : Gl X "repr") (hm : X.mg "repr" = none) (ha : EAB X es gs) (hs : starEach [.List es lpos] X.env = (false, eval (.List es lpos) X.env) :: starEach [] X.env := by rfl) :
    EW X .S (.Call (.Name "repr" p) [.List es lpos] [] pos) (wU reprD (wLst gs)) := by
  refine ⟨mono_wU fun ρ _ _ i q => ha.mono ρ _ _ (fun _ ⟨z, q⟩ => ⟨z, i _ q⟩) q, (?_ : PE X _ _)⟩
  have base := pe_callB (cr_repr hgd hu) hg hm (id := "repr") (by decide +kernel) (pa_cons (pe_lst ha.pa) pa_nil hs) (by decide) (by decide) hs rfl (pos := pos) (p := p)
  refine base.imp fun σ H Q ⟨B, P, ρ, R, q⟩ => ⟨B, P, ρ, R, ha.mono ρ _ _ (fun ds ⟨z, d, e, q⟩ vs P1 H1 f1 r1 => ⟨by rw [r1.len]; exact z, fun p0 hp0 => ?_⟩) q⟩
  have f2 : Fut S0 P1 H1 P1 (upd H1 p0 (.lst vs)) := .new f1.ok' hp0
  have np : ¬ P1 p0 := fun q => by
    have := f1.ok'.isS q
    rw [hp0] at this
    cases this
  refine ⟨.ref p0, N0, H1, P1, .list ds, d, rfl, .inr ⟨ds, p0, vs, rfl, rfl, upd_same, np, r1.fut0 f2⟩, e, fun x ex => ?_⟩
  subst ex
  exact q _ P1 _ (f1.trans0 f2) rfl
end
end WL

namespace WL
open PySem PySem.Spec PyProof.Rows L2

/-! ### dicts of flat keys: in, and comprehensions -/
def sameK (a b : PyData) : Bool := match keyD a, keyD b with
  | some x, some y => decide (x = y)
  | _, _ => false
/-- in its place, or at the end -/
def putD (kvs : List (PyData × PyData)) (k v : PyData) : List (PyData × PyData) :=
  if kvs.any (fun p => sameK p.1 k) then kvs.map (fun p => if sameK p.1 k then (p.1, v) else p) else kvs ++ [(k, v)]
def hasK (kvs : List (PyData × PyData)) (k : PyData) : Bool := kvs.any fun p => sameK p.1 k
theorem dkOf_cons {k v : PyData} {r : List (PyData × PyData)} {l : List (Key × V)} (h : dkOf ((k, v) :: r) = some l) : ∃ a l', keyD k = some a ∧ flatD v = true ∧ dkOf r = some l' ∧ l = (a, toV v) :: l' := by
  unfold dkOf at h
  split at h
  · rename_i a l' h1 h2 h3
    cases h
    exact ⟨a, l', h1, h2, h3, rfl⟩
  · cases h
theorem dkOf_mk {k v : PyData} {r : List (PyData × PyData)} {a : Key} {l : List (Key × V)} (h1 : keyD k = some a) (h2 : flatD v = true) (h3 : dkOf r = some l) : dkOf ((k, v) :: r) = some ((a, toV v) :: l) := by
  unfold dkOf
  rw [h1, h2, h3]
theorem dkOf_any {k : PyData} {a : Key} (hk : keyD k = some a) : ∀ {kvs : List (PyData × PyData)} {ks : List (Key × V)}, dkOf kvs = some ks → hasK kvs k = ks.any fun kv => decide (kv.1 = a)
  | [], _, h => by cases h; rfl
  | (k', v) :: r, _, h => by
    obtain ⟨a', l', h1, h2, h3, rfl⟩ := dkOf_cons h
    show (sameK k' k || hasK r k) = _
    rw [dkOf_any hk h3, List.any_cons]
    have : sameK k' k = decide (a' = a) := by unfold sameK; rw [h1, hk]
    rw [this]
theorem dkOf_app : ∀ {kvs es : List (PyData × PyData)} {ks ls : List (Key × V)}, dkOf kvs = some ks → dkOf es = some ls → dkOf (kvs ++ es) = some (ks ++ ls)
  | [], _, _, _, h, h' => by cases h; exact h'
  | (k', v) :: r, _, _, _, h, h' => by
    obtain ⟨a', l', h1, h2, h3, rfl⟩ := dkOf_cons h
    exact dkOf_mk h1 h2 (dkOf_app h3 h')
theorem dkOf_upd {k v : PyData} {a : Key} (hk : keyD k = some a) (hv : flatD v = true) : ∀ {kvs : List (PyData × PyData)} {ks : List (Key × V)}, dkOf kvs = some ks →
    dkOf (kvs.map fun p => if sameK p.1 k then (p.1, v) else p) = some (ks.map fun kv => if kv.1 = a then (kv.1, toV v) else kv)
  | [], _, h => by cases h; rfl
  | (k', w) :: r, _, h => by
    obtain ⟨a', l', h1, h2, h3, rfl⟩ := dkOf_cons h
    have : sameK k' k = decide (a' = a) := by unfold sameK; rw [h1, hk]
    rw [List.map_cons, List.map_cons]
    by_cases e : a' = a
    · simp only [this, e, decide_true, if_true]
      rw [e] at h1
      exact dkOf_mk h1 hv (dkOf_upd hk hv h3)
    · simp only [this, e, decide_false, if_false]
      exact dkOf_mk h1 h2 (dkOf_upd hk hv h3)
theorem dkOf_put {k v : PyData} {a : Key} {kvs : List (PyData × PyData)} {ks : List (Key × V)} (hk : keyD k = some a) (hv : flatD v = true) (h : dkOf kvs = some ks) : dkOf (putD kvs k v) = some (putK ks a (toV v)) := by
  unfold putD putK
  rw [show (kvs.any fun p => sameK p.1 k) = hasK kvs k from rfl, dkOf_any hk h]
  split
  · exact dkOf_upd hk hv h
  · exact dkOf_app h (dkOf_mk hk hv rfl)
theorem valV_some {α : Type} [DecidableEq α] {ks : List (α × V)} {a : α} : (valV ks a).isSome = ks.any fun kv => decide (kv.1 = a) := by
  unfold valV
  rw [Option.isSome_map]
  induction ks with
  | nil => rfl
  | cons p ks ih =>
    rw [List.find?_cons, List.any_cons]
    cases h : decide (p.1 = a) with
    | true => rfl
    | false => exact ih
theorem putD_len {kvs : List (PyData × PyData)} {k v : PyData} : (putD kvs k v).length ≤ kvs.length + 1 := by
  unfold putD
  split
  · rw [List.length_map]; omega
  · rw [List.length_append]; simp
theorem dkOf_len : ∀ {kvs : List (PyData × PyData)} {ks : List (Key × V)}, dkOf kvs = some ks → ks.length = kvs.length
  | [], _, h => by cases h; rfl
  | (k', w) :: r, _, h => by
    obtain ⟨a', l', h1, h2, h3, rfl⟩ := dkOf_cons h
    rw [List.length_cons, List.length_cons, dkOf_len h3]
theorem keyD_val {K : PySem.W.Frag} {H : Hp} {M P : Addr → Prop} {d : PyData} {v : V} {a : Key} (h : keyD d = some a) (r : Rp K H M P d v) : v = kV a := by
  cases d with
  | int i => cases h; exact r
  | str x => cases h; exact r
  | _ => cases h
theorem keyD_RM {K : PySem.W.Frag} {H H0 : Hp} {M P : Addr → Prop} {d : PyData} {v : V} {a : Key} (h : keyD d = some a) (r : RM .B K M H0 P H d v) : v = kV a := by
  rcases r with r | ⟨ds, p, vs, rfl, _⟩
  · exact keyD_val h r
  · cases h

/-! ### in -/
def inKD (neg : Bool) (x y : PyData) : Option PyData := match y with
  | .dict kvs => if (keyD x).isSome && (dkOf kvs).isSome then some (.bool (if neg then !hasK kvs x else hasK kvs x)) else none
  | _ => none
def rInKD (neg : Bool) : R2 := fun y x H Q => ∃ a o, x = .ref a ∧ DGet H a y o ∧ Q (.bl (if neg then !o.isSome else o.isSome)) H
theorem op_inKD {X : Cx} (hu : X.A.units + 64 < cLine) : OpR X (compareOp .In) (rInKD false) := by
  intro pins s σ H x y v u Q I rx ry h
  obtain ⟨a, o, rfl, g, q⟩ := h
  cases ry
  exact d_in (by omega) I g rx fun s' I' => ⟨.bl _, H, I', rfl, q⟩
theorem op_notInKD {X : Cx} (hu : X.A.units + 64 < cLine) : OpR X (compareOp .NotIn) (rInKD true) := by
  intro pins s σ H x y v u Q I rx ry h
  obtain ⟨a, o, rfl, g, q⟩ := h
  cases ry
  exact d_notIn (by omega) I g rx fun s' I' => ⟨.bl _, H, I', rfl, q⟩
theorem bin_inKD {K : PySem.W.Frag} {neg : Bool} : BinOk K .S (rInKD neg) (inKD neg) := by
  intro M P H x y dx dy d Q fx po mt rx ry e k
  cases dy with
  | dict kvs =>
    have e : (if ((keyD dx).isSome && (dkOf kvs).isSome) = true then some (PyData.bool (if neg then !hasK kvs dx else hasK kvs dx)) else none) = some d := e
    split at e
    · rename_i c
      cases e
      rw [Bool.and_eq_true] at c
      obtain ⟨a, ha⟩ := Option.isSome_iff_exists.mp c.1
      obtain ⟨ks, hk⟩ := Option.isSome_iff_exists.mp c.2
      rcases ry with ry | ⟨ds, p, vs, e1, _⟩
      · rcases ry with ⟨ks', e0, p, rfl, l⟩ | ⟨rfl, _⟩ | hC
        · rw [hk] at e0
          cases e0
          refine ⟨p, valV ks a, rfl, ?_, ?_⟩
          · rw [keyD_RM ha rx]
            exact .k l
          · rw [valV_some, ← dkOf_any ha hk]
            exact k _ P H (.refl po) rfl
        · exact nomatch hk
        · cases kvs with
          | nil => exact hC.elim
          | cons p r =>
            obtain ⟨k0, d0⟩ := p
            obtain ⟨rfl, _⟩ := hC
            exact nomatch hk
      · cases e1
    · cases e
  | _ => cases e
section
variable {X : Cx} {a b : Expr} {ga gb : Ev → W PyData} {pos : Pos}
theorem ew_inKD (hu : X.A.units + 64 < cLine) (ha : EW X .B a ga) (hb : EW X .B b gb) (hm : behindInMarks .In b = false := by rfl) : EW X .S (.Compare a [.In] [b] pos) (wB (inKD false) ga gb) := ew_cmp bin_inKD (op_inKD hu) ha hb hm
theorem ew_notInKD (hu : X.A.units + 64 < cLine) (ha : EW X .B a ga) (hb : EW X .B b gb) (hm : behindInMarks .NotIn b = false := by rfl) : EW X .S (.Compare a [.NotIn] [b] pos) (wB (inKD true) ga gb) := ew_cmp bin_inKD (op_notInKD hu) ha hb hm
theorem eb_inKD (hu : X.A.units + 64 < cLine) (ha : EW X .B a ga) (hb : EW X .B b gb) (hm : behindInMarks .In b = false := by rfl) : EB X (.Compare a [.In] [b] pos) (wT (wB (inKD false) ga gb)) := eb_cmp bin_inKD (op_inKD hu) ha hb hm
theorem eb_notInKD (hu : X.A.units + 64 < cLine) (ha : EW X .B a ga) (hb : EW X .B b gb) (hm : behindInMarks .NotIn b = false := by rfl) : EB X (.Compare a [.NotIn] [b] pos) (wT (wB (inKD true) ga gb)) := eb_cmp bin_inKD (op_notInKD hu) ha hb hm
end

/-! ### {k: v for ..} -/
def wDc1 (st : Set1) (c : Ev → W Bool) (gk gv : Ev → W PyData) (ρ : Ev) : List (PyData × PyData) → List PyData → W (List (PyData × PyData))
  | kvs, [], Q => Q kvs
  | kvs, d :: ds, Q => ∃ ρ', st d ρ = some ρ' ∧ c ρ' fun b => if b = true then gk ρ' (fun k => gv ρ' fun v => (keyD k).isSome = true ∧ flatD v = true ∧ wDc1 st c gk gv ρ (putD kvs k v) ds Q) else wDc1 st c gk gv ρ kvs ds Q
def wDc (vs : List Nat) (gi : Ev → W (List PyData)) (st : Set1) (c : Ev → W Bool) (gk gv : Ev → W PyData) : Ev → W PyData := fun ρ Q => gi ρ fun ds => ds.length < sizeLine ∧ ∃ ρw, wipeE vs ρ = some ρw ∧ wDc1 st c gk gv ρw [] ds fun kvs => Q (.dict kvs)
theorem mono_wDc1 {st : Set1} {c : Ev → W Bool} {gk gv : Ev → W PyData} (hc : Mono c) (hk : Mono gk) (hv : Mono gv) (ρ : Ev) : ∀ (ds : List PyData) (kvs : List (PyData × PyData)) (Q Q' : List (PyData × PyData) → Prop), (∀ a, Q a → Q' a) → wDc1 st c gk gv ρ kvs ds Q → wDc1 st c gk gv ρ kvs ds Q'
  | [], _, _, _, i, q => i _ q
  | d :: ds, kvs, Q, Q', i, ⟨ρ', e, q⟩ => ⟨ρ', e, hc ρ' _ _ (fun b q => ite_mono (fun q => hk ρ' _ _ (fun k q => hv ρ' _ _ (fun v ⟨a, b, q⟩ => ⟨a, b, mono_wDc1 hc hk hv ρ ds _ _ _ i q⟩) q) q) (fun q => mono_wDc1 hc hk hv ρ ds _ _ _ i q) q) q⟩
theorem mono_wDc {vs : List Nat} {gi : Ev → W (List PyData)} {st : Set1} {c : Ev → W Bool} {gk gv : Ev → W PyData} (hi : Mono gi) (hc : Mono c) (hk : Mono gk) (hv : Mono gv) : Mono (wDc vs gi st c gk gv) :=
  fun ρ _ _ i q => hi ρ _ _ (fun ds ⟨l, ρw, e, q⟩ => ⟨l, ρw, e, mono_wDc1 hc hk hv ρw ds _ _ _ (fun ys q => i _ q) q⟩) q
/-- the new dict's place is nobody else's -/
theorem Fut.updNew {P P' : Addr → Prop} {H H' : Hp} {D : Addr} {o o' : HO} (f : Fut S0 P H P' H') (h0 : H D = none) (hD : H' D = some o) (hn : ∀ xs, o ≠ .lst xs) (hn' : ∀ xs, o' ≠ .lst xs) (ht : (∀ ps, o ≠ .tbl ps) ∧ ∀ c q, o ≠ LamX.CodeO c q) : Fut S0 P H P' (upd H' D o') := by
  have nP : ¬ P' D := f.ok'.not hD hn
  have tb : LamX.Tabs lawTabs (upd H' D o') := fun q hq => by
    obtain ⟨ps, h1, h2, h3⟩ := f.ok'.2 q hq
    refine ⟨ps, by rw [upd_ne (ne_of h1 hD fun z => (ht.1 ps z.symm).elim)]; exact h1, h2, fun pos cv hc => ?_⟩
    obtain ⟨c, e1, e2⟩ := h3 pos cv hc
    exact ⟨c, e1, by rw [upd_ne (ne_of e2 hD fun z => (ht.2 c q.2 z.symm).elim)]; exact e2⟩
  refine ⟨f.up, fun b u e n m => ?_, f.nw, f.ok, ⟨fun a pa => ?_, tb⟩, fun b e => ?_, f.ls⟩
  · have := f.kp b u e n m
    by_cases hu : ∃ ps, u = .tbl ps
    · obtain ⟨ps, rfl⟩ := hu
      trivial
    · have := this.get fun ps z => hu ⟨ps, z⟩
      exact .of (by rw [upd_ne (ne_of_none e h0)]; exact this)
  · obtain ⟨x, y, e, r⟩ := f.ok'.1 a pa
    have ne : a ≠ D := fun z => nP (z ▸ pa)
    exact ⟨x, y, by rw [upd_ne ne]; exact e, r⟩
  · have := f.tr b e
    by_cases z : b = D
    · rw [z, upd_same]; rfl
    · rw [upd_ne z]; exact this
section
variable {X : Cx}
/-- where the block stands -/
def DcW (P1 : Addr → Prop) (H1 : Hp) (D : Addr) (ρw : Ev) (st : Set1) (c : Ev → W Bool) (gk gv : Ev → W PyData) (ds : List PyData) (Q : PyData → Prop) (i m : Nat) (H : Hp) : Prop :=
  i ≤ ds.length ∧ m = ds.length - i ∧ ∃ P kvs ks, Fut S0 P1 H1 P H ∧ H D = some (.dK ks) ∧ dkOf kvs = some ks ∧ kvs.length ≤ i ∧ wDc1 st c gk gv ρw kvs (ds.drop i) fun kvs => Q (.dict kvs)
theorem ew_dc {kx vx tg iter : Expr} {ifs : List Expr} {scope : Scope} {own : List (Str × Nat)} {pos : Pos} {gi : Ev → W (List PyData)} {st : Set1} {is : List Nat} {c : Ev → W Bool} {gk gv : Ev → W PyData} (hc : X.calm = true) (hN : X.N.Nodup) (hi : EI X tg iter gi) (ok : BlkOk X.N X.env.scope scope own)
    (hg : ∀ (s : Shared) (H : Hp) (C : Addr) (cl : List (Str × Addr)) (fp : List Addr), EG (X.blk s H scope (compEnvC scope cl C X.env) fp) tg st is)
    (ht : ∀ (s : Shared) (H : Hp) (C : Addr) (cl : List (Str × Addr)) (fp : List Addr), EC (X.blk s H scope (compEnvC scope cl C X.env) fp) ifs c)
    (hk : ∀ (s : Shared) (H : Hp) (C : Addr) (cl : List (Str × Addr)) (fp : List Addr), EW (X.blk s H scope (compEnvC scope cl C X.env) fp) .S kx gk)
    (he : ∀ (s : Shared) (H : Hp) (C : Addr) (cl : List (Str × Addr)) (fp : List Addr), EW (X.blk s H scope (compEnvC scope cl C X.env) fp) .S vx gv)
    (his : ∀ i ∈ is, i ∈ own.map (·.2) := by decide) (hs : ∀ x, foldedSetIterable iter X.env x = pure x := by intro _; rfl) :
    EW X .S (.DictComp kx vx [⟨tg, iter, ifs, 0⟩] scope pos) (wDc (own.map (·.2)) gi st c gk gv) := by
  have mc : Mono c := (ht {} (fun _ => none) 0 [] []).mono
  have mk : Mono gk := (hk {} (fun _ => none) 0 [] []).mono
  have mv : Mono gv := (he {} (fun _ => none) 0 [] []).mono
  refine ⟨mono_wDc hi.mono mc mk mv, (pe_dc (g := tG X.K st is) (tt := tWb X.K c) (tk := tW X.K .S gk) (tv := tW X.K .S gv) hc hN hi.pi ok (fun s H C cl fp => (hg s H C cl fp).pg) (fun s H C cl fp => (ht s H C cl fp).pts) (fun s H C cl fp => (hk s H C cl fp).pe) (fun s H C cl fp => (he s H C cl fp).pe) hs).imp
    fun σ H Q ⟨B, P, ρ, R, q⟩ => ⟨B, P, ρ, R, hi.mono ρ _ _ (fun ds ⟨hz, ρw, ew, q⟩ J P1 H1 f1 it _ D hD => ?_) q⟩⟩
  have R1 := R.fut f1
  obtain ⟨Rw, hown⟩ := R1.wipe ew
  have hmo : ∀ a, Mo B ρw (wipe σ (own.map (·.2))) a → Mo B ρ σ a := fun a h => h.elim .inl fun h => .inr ((hown a).mp h)
  refine ⟨DcW P1 H1 D ρw st c gk gv ds (fun d => ∀ v P' H', Fut S0 P H P' H' → RM .S X.K (Mo B ρ σ) H P' H' d v → Q v H'), ⟨ds.length, Nat.zero_le _, by simp, P1, [], [], .new f1.ok' hD, upd_same, rfl, Nat.zero_le _, by simpa using q⟩, ?_⟩
  rintro i m H2 ⟨hi2, rfl, P2, kvs, ks, f2, hD2, hk2, hl2, q⟩
  obtain ⟨go, stop, yld⟩ := it S0 P2 H2 f2 fun _ z => z.elim
  by_cases hlt : i < ds.length
  · refine .inr ⟨go i hlt, DcW P1 H1 D ρw st c gk gv ds (fun d => ∀ v P' H', Fut S0 P H P' H' → RM .S X.K (Mo B ρ σ) H P' H' d v → Q v H') (i + 1) (ds.length - (i + 1)), fun H' w => ⟨ds.length - (i + 1), by omega, w⟩, fun x H3 y => ?_⟩
    have ed : ds[i]? = some ds[i] := List.getElem?_eq_getElem hlt
    obtain ⟨f3, rx⟩ := yld i x H3 ds[i] ed y
    rw [List.drop_eq_getElem_cons hlt] at q
    obtain ⟨ρ', es, q⟩ := q
    have f23 := f2.trans0 f3
    have R3 : RE X.K B P2 H3 ρw (wipe σ (own.map (·.2))) := Rw.fut f23
    have hD3 : H3 D = some (.dK ks) := f3.stay hD2 fun _ e => nomatch e
    have rx' : Rp X.K H3 (Mo B ρw (wipe σ (own.map (·.2)))) P2 ds[i] x := rx.anti fun a h => .inl (hmo a h)
    refine ⟨B, P2, ρw, ds[i], ρ', R3, rx', es, fun σ4 R4 o4 l4 k4 => ⟨?_, ?_⟩⟩
    · rw [show wipe σ4 (own.map (·.2)) = wipe (wipe σ (own.map (·.2))) (own.map (·.2)) from wipe_same his l4 k4]
      exact wipe_wipe
    · refine ⟨B, P2, ρ', R4, mc ρ' _ _ (fun b q P5 H5 f5 => ite_mono (fun q => ?_) (fun q => ?_) q) q⟩
      · refine ⟨B, P5, ρ', R4.fut f5, mk ρ' _ _ (fun k q u P6 H6 f6 r6 => ?_) q⟩
        refine ⟨B, P6, ρ', (R4.fut f5).fut f6, mv ρ' _ _ (fun v q w P7 H7 f7 r7 => ?_) q⟩
        obtain ⟨hks, hfl, q⟩ := q
        obtain ⟨a, ha⟩ := Option.isSome_iff_exists.mp hks
        have f37 := (f5.trans0 f6).trans0 f7
        have hD7 : H7 D = some (.dK ks) := f37.stay hD3 fun _ e => nomatch e
        have l1 := dkOf_len hk2
        have l2 : kvs.length < sizeLine := by omega
        obtain ⟨e1, _⟩ := flat_toV hfl r7
        refine ⟨ks, a, keyD_val ha r6, hD7, by omega, by omega, rfl, P7, putD kvs k v, putK ks a w, (f23.trans0 f37).updNew hD hD7 (fun _ z => nomatch z) (fun _ z => nomatch z) ⟨fun _ z => (nomatch z), fun _ _ z => (nomatch z)⟩, upd_same, ?_, ?_, q⟩
        · rw [e1]
          exact dkOf_put ha hfl hk2
        · have := @putD_len kvs k v
          omega
      · exact ⟨by omega, rfl, P5, kvs, ks, f23.trans0 f5, f5.stay hD3 (fun _ e => nomatch e), hk2, by omega, q⟩
  · have e : i = ds.length := by omega
    subst e
    refine .inl ⟨stop, ?_⟩
    rw [List.drop_length] at q
    have q : ∀ v P' H', Fut S0 P H P' H' → RM .S X.K (Mo B ρ σ) H P' H' (.dict kvs) v → Q v H' := q
    exact q (.ref D) P2 H2 (f1.trans0 f2) (.inl ⟨ks, hk2, D, rfl, hD2⟩)
end
end WL

namespace WL
open PySem PySem.Spec PyProof.Rows L2
open PySem.W (EachIs alike dataLt AlikeAll)

/-! ### x in a list or a tuple, data of any depth -/
def inAD (neg : Bool) (x y : PyData) : Option PyData := (itemsD y).bind fun ds =>
  if flatD x && ds.all flatD then some (.bool (if neg then !inF x ds else inF x ds))
  else if plain x && plain y && SeqAt.shaped x && SeqAt.shaped y then some (.bool (if neg then !(ds.any fun z => PyData.eqv z x) else ds.any fun z => PyData.eqv z x)) else none
def rInP (K : PySem.W.Frag) (neg : Bool) : R2 := fun x y H Q => ∃ M P d e ds, RM .B K M H P H d x ∧ RM .B K M H P H e y ∧ itemsD e = some ds ∧ plain d = true ∧ plain e = true ∧ SeqAt.shaped d = true ∧ SeqAt.shaped e = true ∧
  Q (.bl (if neg then !(ds.any fun z => PyData.eqv z d) else ds.any fun z => PyData.eqv z d)) H
theorem op_inP {X : Cx} (hu : X.A.units + 70 < cLine) : OpR X (compareOp .In) (rInP X.K false) := by
  intro pins s σ H x y v u Q I rx ry h
  obtain ⟨M, P, d, e, ds, hd, he, hi, pd, pe, sd, se, q⟩ := h
  obtain ⟨as, r1⟩ := RM.reads I pd hd rx
  obtain ⟨bs, r2⟩ := RM.reads I pe he ry
  cases e with
  | list es =>
    cases hi
    exact SeqAt.in_list_reads r2 r1 (SeqAt.canLay_of_shaped se) (SeqAt.canLay_of_shaped sd) (room_in_shaped sd (by omega)) ⟨.bl _, H, I, rfl, q⟩
  | tuple es =>
    cases hi
    exact SeqAt.in_tuple_reads r2 r1 (SeqAt.canLay_of_shaped se) (SeqAt.canLay_of_shaped sd) (room_in_shaped sd (by omega)) ⟨.bl _, H, I, rfl, q⟩
  | _ => cases hi
theorem op_notInP {X : Cx} (hu : X.A.units + 70 < cLine) : OpR X (compareOp .NotIn) (rInP X.K true) := by
  intro pins s σ H x y v u Q I rx ry h
  obtain ⟨M, P, d, e, ds, hd, he, hi, pd, pe, sd, se, q⟩ := h
  obtain ⟨as, r1⟩ := RM.reads I pd hd rx
  obtain ⟨bs, r2⟩ := RM.reads I pe he ry
  cases e with
  | list es =>
    cases hi
    exact SeqAt.notIn_list_reads r2 r1 (SeqAt.canLay_of_shaped se) (SeqAt.canLay_of_shaped sd) (room_in_shaped sd (by omega)) ⟨.bl _, H, I, rfl, q⟩
  | tuple es =>
    cases hi
    exact SeqAt.notIn_tuple_reads r2 r1 (SeqAt.canLay_of_shaped se) (SeqAt.canLay_of_shaped sd) (room_in_shaped sd (by omega)) ⟨.bl _, H, I, rfl, q⟩
  | _ => cases hi
theorem bin_inAD {K : PySem.W.Frag} {neg : Bool} : BinOk K .S (fun x y H Q => rIn K neg x y H Q ∨ rInP K neg x y H Q) (inAD neg) := by
  intro M P H x y dx dy d Q fx po mt rx ry e k
  unfold inAD at e
  cases hi : itemsD dy with
  | none => rw [hi] at e; cases e
  | some ds =>
    rw [hi] at e
    have e : (if (flatD dx && ds.all flatD) = true then some (PyData.bool (if neg then !inF dx ds else inF dx ds))
      else if (plain dx && plain dy && SeqAt.shaped dx && SeqAt.shaped dy) = true then some (PyData.bool (if neg then !(ds.any fun z => PyData.eqv z dx) else ds.any fun z => PyData.eqv z dx)) else none) = some d := e
    by_cases c : (flatD dx && ds.all flatD) = true
    · rw [if_pos c] at e
      refine .inl (bin_in M P H x y dx dy d Q fx po mt rx ry ?_ k)
      unfold inD
      rw [hi]
      show (if (flatD dx && ds.all flatD) = true then _ else _) = _
      rw [if_pos c]
      exact e
    · rw [if_neg c] at e
      split at e
      · rename_i c2
        cases e
        simp only [Bool.and_eq_true] at c2
        exact .inr ⟨M, P, dx, dy, ds, rx, ry, hi, c2.1.1.1, c2.1.1.2, c2.1.2, c2.2, k _ P H (.refl po) rfl⟩
      · cases e
theorem room70 {k : Nat} {A : Around} (r : Room k A) : A.units + 70 < cLine := by have := r.un; omega
section
variable {X : Cx} {a b : Expr} {ga gb : Ev → W PyData} {pos : Pos}
theorem ew_inA (hu : X.A.units + 70 < cLine) (ha : EW X .B a ga) (hb : EW X .B b gb) (hm : behindInMarks .In b = false := by rfl) : EW X .S (.Compare a [.In] [b] pos) (wB (inAD false) ga gb) := ew_cmp bin_inAD (OpR.or op_in_seq (op_inP hu)) ha hb hm
theorem ew_notInA (hu : X.A.units + 70 < cLine) (ha : EW X .B a ga) (hb : EW X .B b gb) (hm : behindInMarks .NotIn b = false := by rfl) : EW X .S (.Compare a [.NotIn] [b] pos) (wB (inAD true) ga gb) := ew_cmp bin_inAD (OpR.or op_notIn_seq (op_notInP hu)) ha hb hm
theorem eb_inA (hu : X.A.units + 70 < cLine) (ha : EW X .B a ga) (hb : EW X .B b gb) (hm : behindInMarks .In b = false := by rfl) : EB X (.Compare a [.In] [b] pos) (wT (wB (inAD false) ga gb)) := eb_cmp bin_inAD (OpR.or op_in_seq (op_inP hu)) ha hb hm
theorem eb_notInA (hu : X.A.units + 70 < cLine) (ha : EW X .B a ga) (hb : EW X .B b gb) (hm : behindInMarks .NotIn b = false := by rfl) : EB X (.Compare a [.NotIn] [b] pos) (wT (wB (inAD true) ga gb)) := eb_cmp bin_inAD (OpR.or op_notIn_seq (op_notInP hu)) ha hb hm
end

/-! ### min of a list of data that are alike -/
def minOk (ds : List PyData) : Bool := (ds.all fun d => ds.all fun e => alike d e) && ds.all (fun d => !nonD d) && plainA ds && SeqAt.shaped (.list ds)
def minAD : PyData → Option PyData
  | .list (d :: ds) => if minOk (d :: ds) then some (PySem.W.minD d ds) else none
  | _ => none
def rMinA (K : PySem.W.Frag) : V → Hp → VK → Prop := fun v H Q => ∃ (a : Addr) (xs : List V) (d : PyData) (ds : List PyData) (M P : Addr → Prop), v = .ref a ∧ SqL K H a xs ∧ RpA K H M P (d :: ds) xs ∧ minOk (d :: ds) = true ∧ ∀ x, Rp K H M P (PySem.W.minD d ds) x → Q x H
theorem minD_mem {d : PyData} : ∀ {ds : List PyData}, PySem.W.minD d ds ∈ d :: ds
  | [] => List.mem_cons_self
  | e :: ds => by
    show PySem.W.minD (if dataLt e d then e else d) ds ∈ _
    have := @minD_mem (if dataLt e d then e else d) ds
    rcases List.mem_cons.mp this with h | h
    · rw [h]
      split
      · exact List.mem_cons_of_mem _ List.mem_cons_self
      · exact List.mem_cons_self
    · exact List.mem_cons_of_mem _ (List.mem_cons_of_mem _ h)
theorem canLayAll_mem : ∀ {ds : List PyData}, PyData.canLayAll0 ds = true → ∀ z ∈ ds, z.canLay0 = true
  | [], _, z, hz => by cases hz
  | y :: ys, h, z, hz => by
    rw [PyData.canLayAll0, Bool.and_eq_true] at h
    rcases List.mem_cons.mp hz with rfl | hz
    · exact h.1
    · exact canLayAll_mem h.2 z hz
theorem vals_get : ∀ {xs : List V} {its : List Value} {i : Nat} {v : Value}, Vals xs its → its[i]? = some v → ∃ x, xs[i]? = some x ∧ RelV x v
  | _, _, i, v, .nil, h => by simp at h
  | _, _, 0, v, .cons (a := a) r t, h => by
    simp at h
    subst h
    exact ⟨a, rfl, r⟩
  | _, _, i + 1, v, .cons r t, h => by
    obtain ⟨x, e, q⟩ := vals_get (i := i) t (by simpa using h)
    exact ⟨x, by simpa using e, q⟩
theorem cr_minA {X : Cx} (hu : X.A.units + 70 < cLine) (hcalm : X.calm = true) : CallR X (.builtin "min") (fun vs H Q => ∃ v, vs = [v] ∧ rMinA X.K v H Q) := by
  intro pins s σ H vs us Q I r h
  obtain ⟨v, rfl, a, xs, d, ds, M, P, rfl, hs, ra, mo, q⟩ := h
  obtain ⟨u, rfl, ru⟩ := vals1 r
  obtain rfl : u = Value.ref a := ru
  obtain ⟨its, rv, hl, hz⟩ := I.list hs
  unfold minOk at mo
  simp only [Bool.and_eq_true] at mo
  obtain ⟨⟨⟨m1, m2⟩, m3⟩, m4⟩ := mo
  obtain ⟨as, rr⟩ := RpA.reads I (d :: ds) xs its m3 ra rv
  have hal : AlikeAll (d :: ds) := ⟨fun x hx y hy => List.all_eq_true.mp (List.all_eq_true.mp m1 x hx) y hy, fun x hx e => by
    have := List.all_eq_true.mp m2 x hx
    rw [e] at this
    cases this⟩
  have hd := SeqAt.depth_of_shaped m4
  have hc := SeqAt.canLay_of_shaped m4
  refine PySem.W.min_list_data (vs := its.toArray) (I.ok.hd hcalm) hl.isList (by simpa using rr) hal ?_ fun i v h' tk bs hv rm hk => ?_
  · have : (PyData.list (d :: ds)).depth = PyData.depthAll (d :: ds) + 1 := by simp [PyData.depth]
    omega
  · have hv : its[i]? = some v := by simpa using hv
    obtain ⟨x, hx, rx⟩ := vals_get rv hv
    obtain ⟨bs2, r2, hlt, hm, _⟩ := PySem.W.readsAll_at rr i v hv
    have ci : ∀ z ∈ d :: ds, z.canLay0 = true := canLayAll_mem hc
    have e1 := SeqAt.readOf_eq (ci _ minD_mem) rm
    have e2 := SeqAt.readOf_eq (ci _ hm) (PySem.W.reads_keeps hk r2)
    have em : (d :: ds).getD i .none = PySem.W.minD d ds := e2.symm.trans e1
    have hg : (d :: ds)[i]? = some (PySem.W.minD d ds) := by
      rw [← em, List.getD_eq_getElem?_getD, List.getElem?_eq_getElem hlt]
      rfl
    obtain ⟨x', hx', rx'⟩ := ra.get hg
    rw [hx] at hx'
    cases hx'
    exact ⟨x, H, I.kept (t' := tk) hk, rx, q x rx'⟩
theorem un_minA {K : PySem.W.Frag} : UnOk K .S (rMinA K) minAD := by
  intro M P H x dx d Q fx po mt rx e k
  cases dx with
  | list ds =>
    cases ds with
    | nil => cases e
    | cons y ys =>
      have e : (if minOk (y :: ys) = true then some (PySem.W.minD y ys) else none) = some d := e
      split at e
      · rename_i c
        cases e
        obtain ⟨a, vs, rfl, l, r⟩ := rx.lst
        exact ⟨a, vs, y, ys, M, P, rfl, l, r, c, fun x rx => k x P H (.refl po) rx⟩
      · cases e
  | _ => cases e
theorem un_minA2 {K : PySem.W.Frag} : UnOk K .S (fun v H Q => ∃ w, [v] = [w] ∧ rMinA K w H Q) minAD := fun M P H x dx d Q a b c f e k => ⟨x, rfl, un_minA M P H x dx d Q a b c f e k⟩
section
variable {X : Cx} {e : Expr} {g : Ev → W PyData} {pos p : Pos}
theorem ew_minA (hu : X.A.units + 70 < cLine) (hg : Gl X "min") (hm : X.mg "min" = none) (ha : EW X .B e g) (hc : X.calm = true := by rfl) (hs : starEach [e] X.env = (false, eval e X.env) :: starEach [] X.env := by rfl) : EW X .S (.Call (.Name "min" p) [e] [] pos) (wU minAD g) :=
  ew_callB un_minA2 (cr_minA hu hc) hg hm (by decide +kernel) ha (hs := hs)
end
end WL

namespace WL
open PySem PySem.Spec PyProof.Rows L2

/-! ### len(set(xs)), the ints of a list, all unlike -/
def lenSetD : PyData → Option PyData
  | .list ds => (allInts ds).bind fun ns => if decide ns.Nodup && decide (ns.length ≤ 4000) then some (.int (ns.length : Nat)) else none
  | _ => none
section
variable {X : Cx} {e : Expr} {g : Ev → W PyData} {pos p p2 q : Pos}
theorem un_lenSet {K : PySem.W.Frag} : UnOk K .S (fun x H Q => ∃ (l : Addr) (ns : List Int), x = .ref l ∧ SqL K H l (ns.map V.int) ∧ ns.Nodup ∧ ns.length ≤ 4000 ∧ Q (.int (ns.length : Nat)) H) lenSetD := by
  intro M P H x dx d Q fx po mt rx e k
  cases dx with
  | list ds =>
    obtain ⟨a, vs, rfl, l, r⟩ := rx.lst
    cases q : allInts ds with
    | none => simp [lenSetD, q] at e
    | some bs =>
      have e : (if (decide bs.Nodup && decide (bs.length ≤ 4000)) = true then some (PyData.int (bs.length : Nat)) else none) = some d := by
        rw [← e]
        show _ = (allInts ds).bind _
        rw [q]
        rfl
      split at e
      · rename_i c
        cases e
        rw [Bool.and_eq_true] at c
        exact ⟨a, bs, rfl, by rw [← ints_of q r]; exact l, of_decide_eq_true c.1, of_decide_eq_true c.2, k _ P H (.refl po) rfl⟩
      · cases e
  | _ => exact nomatch e
theorem ew_lenSet (hg : Gl X "len") (hm : X.mg "len" = none) (hg2 : Gl X "set") (hm2 : X.mg "set" = none) (ha : EW X .B e g) (hc : X.calm = true := by rfl)
    (na : starEach [e] X.env = (false, eval e X.env) :: starEach [] X.env := by rfl) : EW X .S (.Call (.Name "len" p) [.Call (.Name "set" p2) [e] [] q] [] pos) (wU lenSetD g) :=
  ew_un un_lenSet ha fun t ht => (RZ.pe_lenSetI hg hm hg2 hm2 ht hc na).imp fun σ H Q q => q
end
/-! ### a text at the top -/
theorem gc_str {K : PySem.W.Frag} {mg : Str → Option Value} {x y : Str} {t : Tok} (h : mg x = some (.str y t)) : GC K mg x (.str y) := ⟨.str y, _, h, ⟨t, rfl⟩, fun _ _ _ => rfl⟩
section
variable {X : Cx} {a b : Expr} {ga gb : Ev → W PyData} {pos : Pos}
theorem eb_isB (ha : EW X .B a ga) (hb : EW X .B b gb) (hm : behindInMarks .Is b = false := by rfl) : EB X (.Compare a [.Is] [b] pos) (wT (wB (isBD false) ga gb)) := eb_cmp bin_isB op_isC ha hb hm
theorem eb_notB (ha : EW X .B a ga) (hb : EW X .B b gb) (hm : behindInMarks .IsNot b = false := by rfl) : EB X (.Compare a [.IsNot] [b] pos) (wT (wB (isBD true) ga gb)) := eb_cmp bin_notB op_notC ha hb hm
end
end WL

namespace WL
open PySem PySem.Spec PyProof.Rows L2

/-! ### an own list of own lists: y = [own, own]; repr(y); y[0].append(x) -/
section
variable {K : PySem.W.Frag} {B P P' : Addr → Prop} {H H' : Hp} {ρ : Ev} {σ : L2.St}
/-- a list that came to be meanwhile joins the base -/
theorem RE.joinF {p : Addr} (R : RE K B P H ρ σ) (f : Fut S0 P H P' H') (hp : H p = none) (hs : (H' p).isSome = true) : RE K (fun a => B a ∨ a = p) P' H' ρ σ := by
  have mo : ∀ a, Mo (fun a => B a ∨ a = p) ρ σ a → Mo B ρ σ a ∨ H a = none := fun a h => by
    rcases h with (h | h) | h
    · exact .inl (.inl h)
    · exact .inr (by rw [h]; exact hp)
    · exact .inl (.inr h)
  have un : ∀ {b : Addr} {o : HO}, H b = some o → b ≠ p := fun h => ne_of_none h hp
  refine ⟨R.len, fun a h => ?_, f.ok', fun i d h => ?_, fun i ds h => ?_, R.inj, fun i a bs dss h => ⟨(R.ns i a bs dss h).1, ?_⟩, R.nw, R.n1⟩
  · rcases h with h | h
    · exact f.tr a (R.trk a h)
    · rw [h]; exact hs
  · obtain ⟨v, e, r⟩ := R.sh i d h
    exact ⟨v, e, (r.avoidAll.fut0 f).anti mo⟩
  · obtain ⟨a, vs, e, e2, b, q, r⟩ := R.ow i ds h
    exact ⟨a, vs, e, f.kp a _ e2 q (fun q => q.elim), fun z => z.elim b fun z => un e2 z, f.notP e2 q, (r.avoidAll.fut0 f).anti mo⟩
  · obtain ⟨_, n⟩ := R.ns i a bs dss h
    have n' : NsOk K H (fun a => Mo B ρ σ a ∨ H a = none) B P a bs dss := ⟨n.top, n.fr, n.nd, n.len, fun j b ds h1 h2 => by
      obtain ⟨vs, e, r⟩ := n.inn j b ds h1 h2
      exact ⟨vs, e, r.avoidAll⟩⟩
    refine n'.next f (fun _ q => q.elim) (fun _ _ q => q) (fun x hx z => ?_) mo
    obtain ⟨vs, e⟩ := n.lst hx
    exact z.elim (n.fr x hx).1 fun z => un e z
theorem own_setNs {i : Nat} {p b1 b2 a : Addr} {ds1 ds2 : List PyData} (h : Own (ρ.set i (.ns p [b1, b2] [ds1, ds2])) (σ.set i (some (.ref p))) a) : Own ρ σ a ∨ a ∈ [p, b1, b2] := by
  rcases h with ⟨j, es, h1, h2⟩ | ⟨j, y, bs, dss, h1, h2⟩
  · rcases get_set h1 with ⟨_, e1, _⟩ | ⟨n, h1⟩
    · cases e1
    · rcases get_set h2 with ⟨e2, _⟩ | ⟨_, h2⟩
      · exact absurd e2 n
      · exact .inl (.inl ⟨j, es, h1, h2⟩)
  · rcases get_set h1 with ⟨_, e1, _⟩ | ⟨n, h1⟩
    · cases e1
      exact .inr h2
    · exact .inl (.inr ⟨j, y, bs, dss, h1, h2⟩)
theorem RE.setNs {i : Nat} {p b1 b2 : Addr} {ds1 ds2 : List PyData} {vs1 vs2 : List V} (R : RE K B P H ρ σ) (hl : i < ρ.length) (no : ∀ j a bs dss, j ≠ i → ρ[j]? ≠ some (.ns a bs dss)) (f : Fut S0 P H P' H')
    (nn : ∀ x ∈ [p, b1, b2], H x = none) (nd : [p, b1, b2].Nodup) (e : H' p = some (.lst [.ref b1, .ref b2])) (e1 : H' b1 = some (.lst vs1)) (e2 : H' b2 = some (.lst vs2)) (nP : ∀ x ∈ [p, b1, b2], ¬ P' x)
    (r1 : RpA K H' (fun a => Mo B ρ σ a ∨ a ∈ [p, b1, b2]) P' ds1 vs1) (r2 : RpA K H' (fun a => Mo B ρ σ a ∨ a ∈ [p, b1, b2]) P' ds2 vs2) :
    RE K B P' H' (ρ.set i (.ns p [b1, b2] [ds1, ds2])) (σ.set i (some (.ref p))) := by
  have mo : ∀ a, Mo B (ρ.set i (.ns p [b1, b2] [ds1, ds2])) (σ.set i (some (.ref p))) a → Mo B ρ σ a ∨ a ∈ [p, b1, b2] := fun a h => by
    rcases h with h | h
    · exact .inl (.inl h)
    · exact (own_setNs h).elim (fun h => .inl (.inr h)) .inr
  have mo' : ∀ a, Mo B (ρ.set i (.ns p [b1, b2] [ds1, ds2])) (σ.set i (some (.ref p))) a → Mo B ρ σ a ∨ H a = none := fun a h => (mo a h).elim .inl fun h => .inr (nn a h)
  have un : ∀ {b : Addr} {o : HO}, H b = some o → b ∉ [p, b1, b2] := fun h z => by rw [nn _ z] at h; cases h
  have R' := R.fut f
  refine ⟨by rw [set_len, set_len]; exact R.len, R'.trk, R'.pots, fun j d h => ?_, fun j es h => ?_, fun j k es fs a h1 h2 h3 h4 => ?_, fun j a bs dss h => ?_, fun j a bs dss k es c h1 h2 h3 => ?_, fun j k a a' bs bs' dss dss' h1 h2 => ?_⟩
  · rcases get_set h with ⟨_, q, _⟩ | ⟨n, h⟩
    · cases q
    · obtain ⟨u, e1, r1⟩ := R.sh j d h
      exact ⟨u, by rw [List.getElem?_set_ne (fun z => n z.symm)]; exact e1, (r1.avoidAll.fut0 f).anti mo'⟩
  · rcases get_set h with ⟨_, q, _⟩ | ⟨n, h⟩
    · cases q
    · obtain ⟨a, us, e1, e2, b, q, r1⟩ := R.ow j es h
      exact ⟨a, us, by rw [List.getElem?_set_ne (fun z => n z.symm)]; exact e1, f.kp a _ e2 q (fun z => z.elim), b, f.notP e2 q, (r1.avoidAll.fut0 f).anti mo'⟩
  · rcases get_set h1 with ⟨_, q, _⟩ | ⟨n1, k1⟩
    · cases q
    · rcases get_set h2 with ⟨_, q, _⟩ | ⟨n2, k2⟩
      · cases q
      · rw [List.getElem?_set_ne (fun z => n1 z.symm)] at h3
        rw [List.getElem?_set_ne (fun z => n2 z.symm)] at h4
        exact R.inj j k es fs a k1 k2 h3 h4
  · rcases get_set h with ⟨z1, q, l⟩ | ⟨n, h⟩
    · cases q
      refine ⟨by rw [z1, List.getElem?_set_self (by rw [← R.len]; exact l)], e, fun x hx => ⟨fun z => ?_, nP x hx⟩, nd, rfl, fun j b ds h1 h2 => ?_⟩
      · have := R.trk x z
        rw [nn x hx] at this
        cases this
      · match j, h1, h2 with
        | 0, h1, h2 =>
          cases h1
          cases h2
          exact ⟨vs1, e1, r1.anti mo⟩
        | 1, h1, h2 =>
          cases h1
          cases h2
          exact ⟨vs2, e2, r2.anti mo⟩
    · exact absurd h (no j a bs dss n)
  · rcases get_set h1 with ⟨z1, q, l⟩ | ⟨n, h1⟩
    · cases q
      rcases get_set h2 with ⟨_, q, _⟩ | ⟨n2, h2⟩
      · cases q
      · rw [List.getElem?_set_ne (fun z => n2 z.symm)] at h3
        obtain ⟨a, us, e1, e2, _⟩ := R.ow k es h2
        rw [h3] at e1
        cases e1
        exact un e2
    · exact absurd h1 (no j a bs dss n)
  · rcases get_set h1 with ⟨z1, _, _⟩ | ⟨n, h1⟩
    · rcases get_set h2 with ⟨z2, _, _⟩ | ⟨n, h2⟩
      · exact z1.trans z2.symm
      · exact absurd h2 (no k a' bs' dss' n)
    · exact absurd h1 (no j a bs dss n)
end
def noNs (i : Nat) (ρ : Ev) : Prop := ∀ j a bs dss, j ≠ i → ρ[j]? ≠ some (.ns a bs dss)
def wSetNs (i : Nat) (g1 g2 : Ev → W PyData) : Ev → W Rs := fun ρ Q => g1 ρ fun d1 => g2 ρ fun d2 => ∃ ds1 ds2, d1 = .list ds1 ∧ d2 = .list ds2 ∧ i < ρ.length ∧ noNs i ρ ∧ ∀ p b1 b2, Q (.nx (ρ.set i (.ns p [b1, b2] [ds1, ds2])))
section
variable {X : Cx} {m : Md} {e1 e2 e : Expr} {g1 g2 ge : Ev → W PyData} {pos p1 p2 p3 : Pos} {x : Str} {i : Nat}
theorem es_setNs (hN : X.N.Nodup) (hi : X.N[i]? = some x) (hx : Loc X.env.scope x) (h1 : EW X .F e1 g1) (h2 : EW X .F e2 g2) (hs : swapsWith (.List [e1, e2] p2) (some (.Name x p1)) pos.line X.env = pure false := by rfl) (hf : X.fn x = true ∨ X.env.scope.names.lookup x = some .local := by first | exact .inl rfl | exact .inr rfl | assumption)
    (ha : starEach [e1, e2] X.env = (false, eval e1 X.env) :: starEach [e2] X.env := by rfl) (hb : starEach [e2] X.env = (false, eval e2 X.env) :: starEach [] X.env := by rfl) :
    ESt X m (.Assign [.Name x p1] (.List [e1, e2] p2) pos) (wSetNs i g1 g2) :=
  ⟨fun ρ _ _ i q => h1.mono ρ _ _ (fun _ q => h2.mono ρ _ _ (fun _ ⟨ds1, ds2, a, b, l, n, q⟩ => ⟨ds1, ds2, a, b, l, n, fun p b1 b2 => i _ (q p b1 b2)⟩) q) q,
    (ps_set hN hi hx (pe_lst (pa_cons h1.pe (pa_cons h2.pe pa_nil hb) ha)) hs hf).imp fun D σ H ⟨B, P, ρ, R, q⟩ => ⟨B, P, ρ, R, h1.mono ρ _ _ (fun d1 q v1 P1 H1 f1 r1 => by
    obtain ⟨ds1, b1, vs1, rfl, rfl, n1, l1, np1, ra1⟩ := r1
    have R1 : RE X.K (fun a => B a ∨ a = b1) P1 H1 ρ σ := R.joinF f1 n1 (by rw [l1]; rfl)
    refine ⟨_, P1, ρ, R1, h2.mono ρ _ _ (fun d2 ⟨ds1', ds2, ea, eb, hl, no, q⟩ v2 P2 H2 f2 r2 => ?_) q⟩
    cases ea
    obtain ⟨ds2', b2, vs2, ed, rfl, n2, l2, np2, ra2⟩ := r2
    subst ed
    cases eb
    refine ⟨(show 2 ≤ sizeLine by decide), fun p hp => ?_⟩
    have f3 : Fut S0 P2 H2 P2 (upd H2 p (.lst [.ref b1, .ref b2])) := .new f2.ok' hp
    have l1' : H2 b1 = some (.lst vs1) := f2.kp b1 _ l1 np1 fun z => z.elim
    have ne1 : b1 ≠ p := ne_of_none l1' hp
    have ne2 : b2 ≠ p := ne_of_none l2 hp
    have ne3 : b1 ≠ b2 := fun z => by rw [z, n2] at l1; cases l1
    have f := (f1.trans0 f2).trans0 f3
    have hp1 : H1 p = none := f2.none_of hp
    have np1' : ¬ P2 b1 := f2.notP l1 np1
    have npp : ¬ P2 p := fun z => by
      have := f2.ok'.isS z
      rw [hp] at this
      cases this
    have R3 := R.setNs (i := i) (p := p) (b1 := b1) (b2 := b2) (ds1 := ds1) (ds2 := ds2) (vs1 := vs1) (vs2 := vs2) hl no f (fun y hy => by
        simp only [List.mem_cons, List.not_mem_nil, or_false] at hy
        rcases hy with rfl | rfl | rfl
        · exact f1.none_of hp1
        · exact n1
        · exact f1.none_of n2) (by
        simp only [List.nodup_cons, List.mem_cons, List.not_mem_nil, or_false, not_or, not_false_eq_true, List.nodup_nil, and_true]
        exact ⟨⟨fun z => ne1 z.symm, fun z => ne2 z.symm⟩, ne3⟩) upd_same (by rw [upd_ne ne1]; exact l1') (by rw [upd_ne ne2]; exact l2) (fun y hy => by
        simp only [List.mem_cons, List.not_mem_nil, or_false] at hy
        rcases hy with rfl | rfl | rfl
        · exact npp
        · exact np1'
        · exact np2)
      (((ra1.avoidAll.fut0 f2).fut0 f3).anti fun a h => by
        rcases h with h | h
        · exact .inl (.inl h)
        · simp only [List.mem_cons, List.not_mem_nil, or_false] at h
          rcases h with rfl | rfl | rfl
          · exact .inr hp1
          · exact .inl (.inr rfl)
          · exact .inr n2)
      ((ra2.avoidAll.fut0 f3).anti fun a h => by
        rcases h with h | h
        · rcases h with h | h
          · exact .inl (.inl (.inl (.inl h)))
          · exact .inl (.inl (.inr h))
        · simp only [List.mem_cons, List.not_mem_nil, or_false] at h
          rcases h with rfl | rfl | rfl
          · exact .inr hp
          · exact .inl (.inl (.inl (.inr rfl)))
          · exact .inl (.inr rfl))
    exact q p b1 b2 _ P2 _ ⟨f.own R, fun a h => (own_setNs h).imp id fun h => by
      simp only [List.mem_cons, List.not_mem_nil, or_false] at h
      rcases h with rfl | rfl | rfl
      · exact f1.none_of hp1
      · exact n1
      · exact f1.none_of n2⟩ R3) q⟩⟩
/-- repr(y) -/
def wReprNs (i : Nat) : Ev → W PyData := fun ρ Q => ∃ a bs dss d, ρ[i]? = some (.ns a bs dss) ∧ reprD (.list (dss.map PyData.list)) = some d ∧ Q d
theorem ew_reprNs (i : Nat) (hgd : X.A.guards = some []) (hu : X.A.units + 64 < cLine) (hg : Gl X "repr") (hm : X.mg "repr" = none) (hN : X.N[i]? = some x := by rfl) (hv : Vis X.env.scope x := by first | exact Or.inl rfl | exact Or.inr (Or.inl rfl) | exact Or.inr (Or.inr rfl)) (hd : (x == ("__debug__" : Str)) = false := by decide)
    (hcd : (x == ("__classdict__" : Str)) = false := by decide) (hs : starEach [.Name x p1] X.env = (false, eval (.Name x p1) X.env) :: starEach [] X.env := by rfl) : EW X .S (.Call (.Name "repr" p2) [.Name x p1] [] pos) (wReprNs i) :=
  ⟨fun ρ _ _ h ⟨a, bs, dss, d, e, r, q⟩ => ⟨a, bs, dss, d, e, r, h _ q⟩, (pe_callB (cr_repr hgd hu) hg hm (by decide +kernel) (pa_cons (pe_var hN hv hd hcd) pa_nil hs) (by decide) (by decide) hs rfl).imp fun σ H Q ⟨B, P, ρ, R, a, bs, dss, d, e, r, q⟩ => by
    obtain ⟨e1, n⟩ := R.ns i a bs dss e
    refine ⟨.ref a, e1, .ref a, (fun _ => False), H, P, .list (dss.map PyData.list), d, rfl, .inr ⟨_, a, bs.map V.ref, rfl, rfl, n.top, (n.fr a List.mem_cons_self).2, ?_⟩, r, fun z ez => ?_⟩
    · refine RpA.of_get (by rw [List.length_map, List.length_map]; exact n.len) fun j d v h1 h2 => ?_
      rw [List.getElem?_map] at h1 h2
      obtain ⟨ds, hds, rfl⟩ := Option.map_eq_some_iff.mp h1
      obtain ⟨b, hb, rfl⟩ := Option.map_eq_some_iff.mp h2
      obtain ⟨vs, e3, r3⟩ := n.inn j b ds hb hds
      exact ⟨b, vs, rfl, .inl ⟨e3, fun z => z, (n.fr b (List.mem_cons_of_mem _ (List.mem_of_getElem? hb))).2⟩, r3.anti fun _ z => z.elim⟩
    · subst ez
      exact q _ P H (.refl R.pots) rfl⟩
end
end WL

namespace WL
open PySem PySem.Spec PyProof.Rows L2

/-! ### y[0].append(x), y an own list of own lists -/
section
variable {K : PySem.W.Frag} {B P : Addr → Prop} {H : Hp} {ρ : Ev} {σ : L2.St} {i : Nat} {a b : Addr} {bs : List Addr} {ds es : List PyData} {dss : List (List PyData)} {us : List V}
theorem own_sameNs (h1 : ρ[i]? = some (.ns a bs dss)) {dss' : List (List PyData)} (c : Addr) : Own (ρ.set i (.ns a bs dss')) σ c ↔ Own ρ σ c := by
  have hl : i < ρ.length := by
    by_cases q : i < ρ.length
    · exact q
    · rw [List.getElem?_eq_none (by omega)] at h1; cases h1
  refine ⟨fun h => ?_, fun h => ?_⟩
  · rcases h with ⟨j, fs, e1, e2⟩ | ⟨j, y, cs, fss, e1, e2⟩
    · rcases get_set e1 with ⟨_, q, _⟩ | ⟨n, e1⟩
      · cases q
      · exact .inl ⟨j, fs, e1, e2⟩
    · rcases get_set e1 with ⟨_, q, _⟩ | ⟨n, e1⟩
      · cases q
        exact .inr ⟨i, _, _, dss, h1, e2⟩
      · exact .inr ⟨j, y, cs, fss, e1, e2⟩
  · rcases h with ⟨j, fs, e1, e2⟩ | ⟨j, y, cs, fss, e1, e2⟩
    · have e : j ≠ i := fun z => by
        rw [z, h1] at e1
        cases e1
      exact .inl ⟨j, fs, by rw [List.getElem?_set_ne (fun z => e z.symm)]; exact e1, e2⟩
    · by_cases e : j = i
      · subst e
        rw [h1] at e1
        cases e1
        exact .inr ⟨j, _, _, dss', List.getElem?_set_self hl, e2⟩
      · exact .inr ⟨j, y, cs, fss, by rw [List.getElem?_set_ne (fun z => e z.symm)]; exact e1, e2⟩
theorem RE.chgNs (R : RE K B P H ρ σ) (h1 : ρ[i]? = some (.ns a (b :: bs) (ds :: dss))) (r : RpA K H (Mo B ρ σ) P es us) :
    Gr ρ σ P H (ρ.set i (.ns a (b :: bs) (es :: dss))) σ P (upd H b (.lst us)) ∧ RE K B P (upd H b (.lst us)) (ρ.set i (.ns a (b :: bs) (es :: dss))) σ := by
  obtain ⟨e1, n⟩ := R.ns i a (b :: bs) (ds :: dss) h1
  have hbm : b ∈ a :: b :: bs := List.mem_cons_of_mem _ List.mem_cons_self
  obtain ⟨vs, e2⟩ := n.lst hbm
  have np := (n.fr b hbm).2
  have own : Own ρ σ b := .inr ⟨i, a, _, _, h1, hbm⟩
  have fp := Fut.put (o := .lst us) R.pots e2 np
  have mo : ∀ c, Mo B (ρ.set i (.ns a (b :: bs) (es :: dss))) σ c → Mo B ρ σ c := fun c h => h.elim .inl fun h => .inr ((own_sameNs h1 c).mp h)
  have hs : ∀ c, c = b → Mo B ρ σ c := fun c h => by rw [h]; exact .inr own
  have nab : a ≠ b := fun z => (List.nodup_cons.mp n.nd).1 (by rw [z]; exact List.mem_cons_self)
  have nb2 : b ∉ bs := (List.nodup_cons.mp (List.nodup_cons.mp n.nd).2).1
  refine ⟨⟨fp.mono (fun c h => by rw [h]; exact own) R.ls, fun c h => .inl ((own_sameNs h1 c).mp h)⟩, by rw [set_len]; exact R.len, fun c h => fp.tr c (R.trk c h), fp.ok', fun j d h => ?_, fun j fs h => ?_, fun j k fs gs c e1 e2 e3 e4 => ?_, fun j y cs fss h => ?_, fun j y cs fss k gs c k1 k2 k3 => ?_, fun j k y y' cs cs' fss fss' k1 k2 => ?_⟩
  · rcases get_set h with ⟨_, q, _⟩ | ⟨_, h⟩
    · cases q
    · obtain ⟨u, e, r1⟩ := R.sh j d h
      exact ⟨u, e, (r1.fut fp hs).anti mo⟩
  · rcases get_set h with ⟨_, q, _⟩ | ⟨_, h⟩
    · cases q
    · obtain ⟨c, ws, e, e5, nb, q, r1⟩ := R.ow j fs h
      have nca : c ≠ b := fun z => R.nw i a _ _ j fs c h1 h e (by rw [z]; exact hbm)
      exact ⟨c, ws, e, by rw [upd_ne nca]; exact e5, nb, q, (r1.fut fp hs).anti mo⟩
  · rcases get_set e1 with ⟨_, q, _⟩ | ⟨_, e1⟩
    · cases q
    · rcases get_set e2 with ⟨_, q, _⟩ | ⟨_, e2⟩
      · cases q
      · exact R.inj j k fs gs c e1 e2 e3 e4
  · rcases get_set h with ⟨z1, q, _⟩ | ⟨nj, h⟩
    · cases q
      refine ⟨by rw [z1]; exact e1, by rw [upd_ne nab]; exact n.top, n.fr, n.nd, by have := n.len; simpa using this, fun j c fs q1 q2 => ?_⟩
      cases j with
      | zero =>
        cases q1
        cases q2
        exact ⟨us, upd_same, (r.fut fp hs).anti mo⟩
      | succ j =>
        obtain ⟨ws, e5, r5⟩ := n.inn (j + 1) c fs q1 q2
        have ncb : c ≠ b := fun z => nb2 (by rw [← z]; exact List.mem_of_getElem? (show bs[j]? = some c from q1))
        exact ⟨ws, by rw [upd_ne ncb]; exact e5, (r5.fut fp hs).anti mo⟩
    · exact absurd (R.n1 j i y a cs _ fss _ h h1) nj
  · rcases get_set k2 with ⟨_, q, _⟩ | ⟨_, k2⟩
    · cases q
    · rcases get_set k1 with ⟨_, q, _⟩ | ⟨_, k1⟩
      · cases q
        exact R.nw i _ (b :: bs) _ k gs c h1 k2 k3
      · exact R.nw j y cs fss k gs c k1 k2 k3
  · have back : ∀ {j : Nat} {y : Addr} {cs : List Addr} {fss : List (List PyData)}, (ρ.set i (.ns a (b :: bs) (es :: dss)))[j]? = some (.ns y cs fss) → ∃ y cs fss, ρ[j]? = some (.ns y cs fss) := fun z => by
      rcases get_set z with ⟨rfl, _, _⟩ | ⟨_, z⟩
      · exact ⟨_, _, _, h1⟩
      · exact ⟨_, _, _, z⟩
    obtain ⟨_, _, _, b1⟩ := back k1
    obtain ⟨_, _, _, b2⟩ := back k2
    exact R.n1 j k _ _ _ _ _ _ b1 b2
end
def wAppNs (i : Nat) (g : Ev → W PyData) : Ev → W Rs := fun ρ Q => ∃ a b bs ds dss, ρ[i]? = some (.ns a (b :: bs) (ds :: dss)) ∧ g ρ fun d => ds.length < sizeLine ∧ Q (.nx (ρ.set i (.ns a (b :: bs) ((ds ++ [d]) :: dss))))
theorem es_appNs {X : Cx} {m : Md} {e call : Expr} {ge : Ev → W PyData} {pos : Pos} (i : Nat) (he : EW X .S e ge) (hp : ∀ {t : TE}, PE X e t → PE X call (tBM X.K "list" rAppend (tOp (rIxL X.K) (tVar i) (tC (.int 0))) (tCons t tNil))) (hs : swapsWith call none pos.line X.env = pure false := by rfl) : ESt X m (.Expr call pos) (wAppNs i ge) :=
  ⟨fun ρ _ _ i ⟨a, b, bs, ds, dss, e, q⟩ => ⟨a, b, bs, ds, dss, e, he.mono ρ _ _ (fun d ⟨z, q⟩ => ⟨z, i _ q⟩) q⟩, (ps_expr (hp he.pe) hs).imp fun D σ H ⟨B, P, ρ, R, a, b, bs, ds, dss, eds, q⟩ => by
    obtain ⟨e1, n⟩ := R.ns i a _ _ eds
    obtain ⟨vs, e2, r⟩ := n.inn 0 b ds rfl rfl
    refine ⟨.ref a, e1, a, (b :: bs).map V.ref, 0, .ref b, rfl, rfl, .inl (.inl n.top), ?_, .inl ⟨rfl, vs, .inl (.inl e2)⟩, B, P, ρ, R, he.mono ρ _ _ (fun d ⟨z, q⟩ v P1 H1 f1 r1 => ?_) q⟩
    · unfold L2.atI L2.ixN
      rw [if_pos (by decide), if_pos (by simp)]
      rfl
    · have R1 := R.fut f1
      obtain ⟨e1', n'⟩ := R1.ns i a _ _ eds
      obtain ⟨vs', e2', r'⟩ := n'.inn 0 b ds rfl rfl
      obtain ⟨gr, R2⟩ := R1.chgNs eds (r'.append (.one r1))
      exact ⟨b, vs', v, rfl, rfl, e2', by rw [r'.len]; exact z, q σ P1 _ (Gr.after f1 R gr) R2⟩⟩
end WL

namespace WL
open PySem PySem.Spec PyProof.Rows L2

/-! ### xs.index(x), flat things -/
/-- the first place of a flat thing -/
def firstF (y : PyData) : List PyData → Option Nat
  | [] => none
  | d :: ds => if eqFlat d y then some 0 else (firstF y ds).map (· + 1)
theorem firstF_spec {y : PyData} : ∀ {ds : List PyData} {j : Nat}, firstF y ds = some j → ∃ z, ds[j]? = some z ∧ eqFlat z y = true ∧ ∀ m z', m < j → ds[m]? = some z' → eqFlat z' y = false
  | [], _, h => nomatch h
  | d :: ds, j, h => by
    unfold firstF at h
    split at h
    · rename_i c
      cases h
      exact ⟨d, rfl, c, fun m z' hm => absurd hm (Nat.not_lt_zero _)⟩
    · rename_i c
      obtain ⟨k, hk, rfl⟩ := Option.map_eq_some_iff.mp h
      obtain ⟨z, e1, e2, e3⟩ := firstF_spec hk
      refine ⟨z, by simpa using e1, e2, fun m z' hm e => ?_⟩
      cases m with
      | zero =>
        simp at e
        subst e
        exact Bool.eq_false_iff.mpr c
      | succ m => exact e3 m z' (by omega) (by simpa using e)
def lixD (x y : PyData) : Option PyData := match x with
  | .list ds => if flatD y && ds.all flatD then (firstF y ds).map fun j => .int (j : Nat) else none
  | _ => none
theorem first_V {y : PyData} {ds : List PyData} {j : Nat} (fy : flatD y = true) (fds : ds.all flatD = true) (h : firstF y ds = some j) :
    ∃ z, (ds.map toV)[j]? = some z ∧ eqV z (toV y) = true ∧ ∀ m z', m < j → (ds.map toV)[m]? = some z' → eqV z' (toV y) = false := by
  obtain ⟨z, e1, e2, e3⟩ := firstF_spec h
  refine ⟨toV z, by rw [List.getElem?_map, e1]; rfl, ?_, fun m z' hm e => ?_⟩
  · rw [eqV_flat (List.all_eq_true.mp fds z (List.mem_of_getElem? e1)) fy]
    exact e2
  · rw [List.getElem?_map] at e
    obtain ⟨w, ew, rfl⟩ := Option.map_eq_some_iff.mp e
    rw [eqV_flat (List.all_eq_true.mp fds w (List.mem_of_getElem? ew)) fy]
    exact e3 m w hm ew
section
variable {X : Cx} {o e : Expr} {go ge : Ev → W PyData}
theorem ew_lix {call : Expr} (ho : EW X .B o go) (he : EW X .B e ge) (hp : ∀ {to te : TE}, PE X o to → PE X e te → PE X call (tBM X.K "list" (rIndex X.K) to (tCons te tNil))) : EW X .S call (wBL lixD go ge) := by
  refine ⟨mono_wBL ho.mono he.mono, (hp ho.pe he.pe).imp fun σ H Q ⟨B, P, ρ, R, q⟩ => ⟨B, P, ρ, R, ho.mono ρ _ _ (fun dx q v P1 H1 f1 r1 => ?_) q⟩⟩
  obtain ⟨⟨ds, rfl⟩, q⟩ := q
  have R1 := R.fut f1
  obtain ⟨a, vs, rfl, sq, r⟩ := r1.lst
  refine ⟨.inl ⟨rfl, vs, sq⟩, B, P1, ρ, R1, he.mono ρ _ _ (fun dy q v' P2 H2 f2 r2 => ?_) q⟩
  obtain ⟨d, e, q⟩ := q
  obtain ⟨a', vs', ea, sq', r'⟩ := (r1.fut f2).lst
  cases ea
  have e : (if (flatD dy && ds.all flatD) = true then (firstF dy ds).map (fun j => PyData.int (j : Nat)) else none) = some d := e
  split at e
  · rename_i c
    rw [Bool.and_eq_true] at c
    obtain ⟨j, hj, rfl⟩ := Option.map_eq_some_iff.mp e
    obtain ⟨e1, g1⟩ := flat_toV c.1 (r2.flat (m := .B) c.1)
    obtain ⟨e2, g2⟩ := flat_all c.2 r'
    obtain ⟨z, z1, z2, z3⟩ := first_V c.1 c.2 hj
    refine ⟨a, vs', v', j, z, rfl, rfl, sq', g1, g2, by rw [e2]; exact z1, by rw [e1]; exact z2, fun m z' hm ez => ?_, q _ P2 H2 (f1.trans0 f2) rfl⟩
    rw [e2] at ez
    rw [e1]
    exact z3 m z' hm ez
  · cases e
end
end WL

namespace WL
open PySem PySem.Spec PyProof.Rows L2

/-! ### t.m(x), t a tuple; t.index(x) -/
def tBMT (K : PySem.W.Frag) (r : V → List V → Hp → VK → Prop) (to : TE) (t : TA) : TE := fun σ H Q => to σ H fun x H1 => (∃ a xs, x = .ref a ∧ TAt K H1 a xs) ∧ t σ H1 fun ys H2 => r x ys H2 Q
theorem pe_bmT {X : Cx} {o e : Expr} {es : List Expr} {to : TE} {t : TA} {name : Str} {apos cpos : Pos} {id : String} {r : V → List V → Hp → VK → Prop} (pa : PlainAttrs "tuple") (slot : Slot "tuple" name id) (hty : typeOf (.builtin id) = pure (.type "method_descriptor")) (hm : MtR X id r) (ho : PE X o to) (ha : PA X (e :: es) t)
    (hbase : attributeBase o name X.env (eval o X.env) = eval o X.env := by rfl)
    (hfew : ((backTo cpos (starEach (e :: es) X.env)).all (fun x => !x.1) && (backToKw cpos (keywordEach [] X.env)).all (fun x => x.1.isSome) && decide ((e :: es).length + ([] : List Keyword).length + (if ([] : List Keyword).isEmpty then 0 else 1) < 30)) = true := by rfl)
    (hline : (apos.endLine == cpos.line) = true := by rfl) (hs : starEach (e :: es) X.env = (false, eval e X.env) :: starEach es X.env := by rfl) (hplain : (backTo cpos (starEach es X.env)).any (·.1) = false := by rfl) :
    PE X (.Call (.Attribute o name apos) (e :: es) [] cpos) (tBMT X.K r to t) := by
  refine ⟨fun pins s σ H Q I h => ?_⟩
  refine wpAny_Call_method_late hbase hfew hline rfl (thn (ho.run pins s σ H _ I h) fun v s1 ⟨x, H1, I1, r1, ⟨a, xs, ex, pt⟩, q1⟩ => ?_)
  subst ex
  obtain ⟨ob, e1, e2, e3⟩ := Inv.plainT I1 pt
  have rv : v = .ref a := r1
  refine ⟨"tuple", id, pa, slot, hty, by rw [rv]; exact ⟨ob, e1, e2⟩, fun b eb => by rw [rv] at eb; cases eb; exact ⟨ob, e1, e3⟩, ?_⟩
  have hA := ha.run cpos pins s1 σ H1 _ I1 q1
  rw [hs] at hA ⊢
  refine Calls.callWith_builtin (by show (false || (backTo cpos (starEach es X.env)).any (·.1)) = false; rw [hplain] <;> rfl) (Calls.evalArgs_plain ?_)
  exact thn hA fun us s2 ⟨vs, H2, I2, r2, q2⟩ => hm pins s2 σ H2 (.ref a) vs v us Q I2 r1 r2 q2
def rTIxF (K : PySem.W.Frag) : V → List V → Hp → VK → Prop := fun x xs H Q => ∃ (p : Addr) (ys : List V) (y : V) (j : Nat) (z : V), x = .ref p ∧ xs = [y] ∧ SqT K H p ys ∧ flatV y = true ∧ ys.all flatV = true ∧ ys[j]? = some z ∧ eqV z y = true ∧
  (∀ (m : Nat) (z' : V), m < j → ys[m]? = some z' → eqV z' y = false) ∧ Q (.int (j : Nat)) H
theorem mt_tixF {X : Cx} : MtR X "tuple.index" (rTIxF X.K) := by
  intro pins s σ H x xs v us Q I rx rxs h
  obtain ⟨p, ys, y, j, z, rfl, rfl, hs, fy, fys, hz, hzj, hno, q⟩ := h
  cases rx
  obtain ⟨uy, rfl, ry⟩ := rxs.one
  obtain ⟨its, rv, ⟨⟨cls, dd, data, sl⟩, ho, hc, n, hd⟩, hlen⟩ := I.tuple hs
  simp only at hc hd
  subst hc hd
  obtain ⟨u, hu, ru⟩ := rv.get hz
  obtain ⟨hjl, hje⟩ := List.getElem?_eq_some_iff.mp hu
  have hvl := rv.length
  have hj : j < its.toArray.size := by simpa using hjl
  refine call_meets PySem.F.slot_tuple_index ⟨_, ho, rfl⟩ PySem.F.entry_tuple_index (PySem.F.args_tuple_index_2 _ _)
    (TI.tuple_indexAt p its.toArray n dd sl uy (eqU y) j hj ?_ ?_) ⟨ho, fun u' hu' => mem_eqAt ry fy rv fys u' (by simpa using hu'), ?_⟩
  · have e1 : its.toArray[j] = u := by simpa using hje
    rw [e1, eqU_of ru (flat_at fys hz)]
    exact hzj
  · intro m hm hmj
    have hml : m < its.length := by simpa using hm
    have hmy : m < ys.length := by omega
    have hy' : ys[m]? = some ys[m] := List.getElem?_eq_getElem hmy
    obtain ⟨u2, hu2, ru2⟩ := rv.get hy'
    obtain ⟨_, hme⟩ := List.getElem?_eq_some_iff.mp hu2
    have e1 : its.toArray[m] = u2 := by simpa using hme
    rw [e1, eqU_of ru2 (flat_at fys hy')]
    exact hno m _ hmj hy'
  · exact ⟨.int (j : Nat), H, I.tok _, ⟨_, rfl⟩, q⟩
def tixD (x y : PyData) : Option PyData := match x with
  | .tuple ds => if flatD y && ds.all flatD then (firstF y ds).map fun j => .int (j : Nat) else none
  | _ => none
/-- x.m(y) of a tuple x -/
def wBT (op : PyData → PyData → Option PyData) (ga gb : Ev → W PyData) : Ev → W PyData := fun ρ Q => ga ρ fun x => (∃ ds, x = .tuple ds) ∧ gb ρ fun y => ∃ d, op x y = some d ∧ Q d
theorem mono_wBT {op : PyData → PyData → Option PyData} {ga gb : Ev → W PyData} (h : Mono ga) (h' : Mono gb) : Mono (wBT op ga gb) := fun ρ _ _ i q => h ρ _ _ (fun _ ⟨l, q⟩ => ⟨l, h' ρ _ _ (fun _ ⟨d, e, q⟩ => ⟨d, e, i d q⟩) q⟩) q
theorem ew_tix {X : Cx} {o e : Expr} {go ge : Ev → W PyData} {call : Expr} (ho : EW X .B o go) (he : EW X .B e ge) (hp : ∀ {to te : TE}, PE X o to → PE X e te → PE X call (tBMT X.K (rTIxF X.K) to (tCons te tNil))) : EW X .S call (wBT tixD go ge) := by
  refine ⟨mono_wBT ho.mono he.mono, (hp ho.pe he.pe).imp fun σ H Q ⟨B, P, ρ, R, q⟩ => ⟨B, P, ρ, R, ho.mono ρ _ _ (fun dx q v P1 H1 f1 r1 => ?_) q⟩⟩
  obtain ⟨⟨ds, rfl⟩, q⟩ := q
  have R1 := R.fut f1
  obtain ⟨a, vs, rfl, sq, r⟩ := r1.tup
  refine ⟨⟨a, vs, rfl, sq⟩, B, P1, ρ, R1, he.mono ρ _ _ (fun dy q v' P2 H2 f2 r2 => ?_) q⟩
  obtain ⟨d, e, q⟩ := q
  obtain ⟨a', vs', ea, sq', r'⟩ := (r1.fut f2).tup
  cases ea
  have e : (if (flatD dy && ds.all flatD) = true then (firstF dy ds).map (fun j => PyData.int (j : Nat)) else none) = some d := e
  split at e
  · rename_i c
    rw [Bool.and_eq_true] at c
    obtain ⟨j, hj, rfl⟩ := Option.map_eq_some_iff.mp e
    obtain ⟨e1, g1⟩ := flat_toV c.1 (r2.flat (m := .B) c.1)
    obtain ⟨e2, g2⟩ := flat_all c.2 r'
    obtain ⟨z, z1, z2, z3⟩ := first_V c.1 c.2 hj
    refine ⟨a, vs', v', j, z, rfl, rfl, sq'.sq, g1, g2, by rw [e2]; exact z1, by rw [e1]; exact z2, fun m z' hm ez => ?_, q _ P2 H2 (f1.trans0 f2) rfl⟩
    rw [e2] at ez
    rw [e1]
    exact z3 m z' hm ez
  · cases e
end WL

/-! W41: what is known of the heap, cut and filled. -/
namespace WL
open PySem PySem.Spec PyProof.Rows L2
/-- some objects are known exactly, that were not known -/
def trk (H : Hp) (S : Addr → Option Obj) : Hp := fun b => match S b with
  | some o => some (.frz o (.own 0))
  | none => H b
/-- some objects are not known any more -/
def unt (H : Hp) (S : Addr → Option Obj) : Hp := fun b => match S b with
  | some _ => none
  | none => H b
section
variable {P : Program} {w : World} {H H' : Hp} {h h' : Heap} {S : Addr → Option Obj} {b : Addr}
theorem trk_in {o : Obj} (e : S b = some o) : trk H S b = some (.frz o (.own 0)) := by unfold trk; rw [e]
theorem trk_out (e : S b = none) : trk H S b = H b := by unfold trk; rw [e]
theorem unt_in {o : Obj} (e : S b = some o) : unt H S b = none := by unfold unt; rw [e]
theorem unt_out (e : S b = none) : unt H S b = H b := by unfold unt; rw [e]
/-- none of them is known -/
abbrev Free (H : Hp) (S : Addr → Option Obj) : Prop := ∀ b o, S b = some o → H b = none
/-- each of them is known exactly -/
abbrev Held (H : Hp) (S : Addr → Option Obj) : Prop := ∀ b o, S b = some o → H b = some (.frz o (.own 0))
abbrev InHeap (h : Heap) (S : Addr → Option Obj) : Prop := ∀ b o, S b = some o → h.get? b = some o
theorem Free.none_of (f : Free H S) {u : HO} (e : H b = some u) : S b = none := by
  cases z : S b with
  | none => rfl
  | some o => rw [f b o z] at e; cases e
theorem Held.none_of (f : Held H S) {u : HO} (e : H b = some u) (n : ∀ o, u ≠ .frz o (.own 0)) : S b = none := by
  cases z : S b with
  | none => rfl
  | some o => rw [f b o z] at e; exact absurd (Option.some.inj e).symm (n o)
theorem trk_ext (f : Free H S) {u : HO} (e : H b = some u) : trk H S b = some u := by rw [trk_out (f.none_of e)]; exact e
theorem held_trk : Held (trk H S) S := fun b o e => trk_in e
theorem free_unt : Free (unt H S) S := fun b o e => unt_in e
theorem unt_some {u : HO} (e : unt H S b = some u) : S b = none ∧ H b = some u := by
  cases z : S b with
  | none => rw [unt_out z] at e; exact ⟨rfl, e⟩
  | some o => rw [unt_in z] at e; cases e
theorem hok_trk (x : HOk P w H h) (f : Free H S) (i : InHeap h S) : HOk P w (trk H S) h := fun b u e => by
  cases z : S b with
  | some o =>
    rw [trk_in z] at e
    cases e
    exact ⟨i b o z, o, i b o z⟩
  | none =>
    rw [trk_out z] at e
    exact (x b u e).stay (fun _ _ _ q => q) (fun _ q => trk_ext f q) fun _ _ q => trk_ext f q
theorem hok_unt (x : HOk P w H h) (l : Held H S) : HOk P w (unt H S) h := fun b u e => by
  obtain ⟨_, e⟩ := unt_some e
  exact (x b u e).stay (fun _ _ _ q => q) (fun c q => by rw [unt_out (l.none_of q fun _ z => nomatch z)]; exact q) fun c _ q => by rw [unt_out (l.none_of q fun _ z => nomatch z)]; exact q
theorem tabs_trk {T : List (Addr × Str)} (t : LamX.Tabs T H) (f : Free H S) : LamX.Tabs T (trk H S) := t.ext fun _ _ e => trk_ext f e
theorem tabs_unt {T : List (Addr × Str)} (t : LamX.Tabs T H) (l : Held H S) : LamX.Tabs T (unt H S) := fun q hq => by
  obtain ⟨ps, h1, h2, h3⟩ := t q hq
  refine ⟨ps, by rw [unt_out (l.none_of h1 fun _ z => nomatch z)]; exact h1, h2, fun pos cv hc => ?_⟩
  obtain ⟨c, e1, e2⟩ := h3 pos cv hc
  exact ⟨c, e1, by rw [unt_out (l.none_of e2 fun _ z => by unfold LamX.CodeO at z; cases z)]; exact e2⟩
variable {Pt Pt' : Addr → Prop}
theorem PotsOk.trk (p : PotsOk Pt H) (f : Free H S) : PotsOk Pt (trk H S) := ⟨fun a pa => by
  obtain ⟨x, y, e, r⟩ := p.1 a pa
  exact ⟨x, y, trk_ext f e, r⟩, tabs_trk p.2 f⟩
theorem PotsOk.unt (p : PotsOk Pt H) (l : Held H S) : PotsOk Pt (unt H S) := ⟨fun a pa => by
  obtain ⟨x, y, e, r⟩ := p.1 a pa
  exact ⟨x, y, by rw [unt_out (l.none_of e fun _ z => nomatch z)]; exact e, r⟩, tabs_unt p.2 l⟩
theorem trk_sees (f : Free H S) (e : (H b).isSome = true) : (trk H S b).isSome = true := by
  obtain ⟨u, e⟩ := Option.isSome_iff_exists.mp e
  rw [trk_ext f e]
  rfl
/-- behind a call that knew more: what it knew stays, and is forgotten -/
theorem un_unt {fs : List Addr} (f : Free H S) (i : InHeap h S) (u : Un fs [] (trk H S) H' h h') (x : HOk P w H' h') : Held H' S ∧ Un fs [] H (unt H' S) h h' := by
  have hd : Held H' S := fun b o e => u.frzs b o _ (trk_in e)
  have same : ∀ b o ob, h.get? b = some o → S b = some ob → h'.get? b = some o := fun b o ob e z => by
    obtain rfl := Option.some.inj ((i b ob z).symm.trans e)
    exact (x b _ (hd b _ z)).1
  have out : ∀ b u', H b = some u' → S b = none := fun b u' e => f.none_of e
  refine ⟨hd, fun b o e n nf _ => ?_, fun b o e n nf _ => ?_, fun b o e n _ => ?_, fun b o e _ => u.there b o e (fun z => (nomatch z)), fun b xs e => ?_, fun b o v e => ?_, fun b ps e => ?_⟩
  · cases z : S b with
    | some ob => exact same b o ob e z
    | none => exact u.keep b o e (by rw [trk_out z]; exact n) nf fun z => nomatch z
  · cases z : S b with
    | some ob => exact ⟨o.slots, same b o ob e z⟩
    | none => exact u.slot b o e (by rw [trk_out z]; exact n) nf fun z => nomatch z
  · cases z : S b with
    | some ob => exact unt_in z
    | none =>
      rw [unt_out z]
      exact u.free b o e (by rw [trk_out z]; exact n) fun z => nomatch z
  · rw [unt_out (out b _ e)]
    exact u.tups b xs (trk_ext f e)
  · rw [unt_out (out b _ e)]
    exact u.frzs b o v (trk_ext f e)
  · obtain ⟨more, q⟩ := u.tbls b ps (trk_ext f e)
    exact ⟨more, by rw [unt_out (out b _ e)]; exact q⟩
/-- behind a call that knew less: what it did not know stays, and is known again -/
theorem un_trk {fs : List Addr} (l : Held H S) (i : InHeap h S) (nf : ∀ b o, S b = some o → b ∉ fs) (u : Un fs [] (unt H S) H' h h') : Free H' S ∧ InHeap h' S ∧ Un fs [] H (trk H' S) h h' := by
  have fr : Free H' S := fun b o e => u.free b o (i b o e) (unt_in e) fun z => nomatch z
  have ih : InHeap h' S := fun b o e => u.keep b o (i b o e) (unt_in e) (nf b o e) fun z => nomatch z
  refine ⟨fr, ih, fun b o e n nf' _ => ?_, fun b o e n nf' _ => ?_, fun b o e n _ => ?_, fun b o e _ => u.there b o e (fun z => (nomatch z)), fun b xs e => ?_, fun b o v e => ?_, fun b ps e => ?_⟩
  · cases z : S b with
    | some ob => rw [l b ob z] at n; cases n
    | none => exact u.keep b o e (by rw [unt_out z]; exact n) nf' fun z => nomatch z
  · cases z : S b with
    | some ob => rw [l b ob z] at n; cases n
    | none => exact u.slot b o e (by rw [unt_out z]; exact n) nf' fun z => nomatch z
  · cases z : S b with
    | some ob => rw [l b ob z] at n; cases n
    | none =>
      rw [trk_out z]
      exact u.free b o e (by rw [unt_out z]; exact n) fun z => nomatch z
  · have z := l.none_of e fun _ z => nomatch z
    rw [trk_out z]
    exact u.tups b xs (by rw [unt_out z]; exact e)
  · cases z : S b with
    | some ob =>
      rw [l b ob z] at e
      cases e
      exact trk_in z
    | none =>
      rw [trk_out z]
      exact u.frzs b o v (by rw [unt_out z]; exact e)
  · have z := l.none_of e fun _ z => nomatch z
    obtain ⟨more, q⟩ := u.tbls b ps (by rw [unt_out z]; exact e)
    exact ⟨more, by rw [trk_out z]; exact q⟩
theorem fut_unt (po : PotsOk Pt H) (f : Free H S) (hd : Held H' S) (u : Fut S0 Pt (trk H S) Pt' H') : Fut S0 Pt H Pt' (unt H' S) where
  up := u.up
  kp := fun b o e n m => by
    have z := f.none_of e
    have := u.kp b o (trk_ext f e) n m
    by_cases ht : ∃ ps, o = .tbl ps
    · obtain ⟨ps, rfl⟩ := ht
      trivial
    · exact .of (by rw [unt_out z]; exact this.get fun ps q => ht ⟨ps, q⟩)
  nw := fun a p n => by
    have e := u.nw a p n
    cases z : S a with
    | some o => exact f a o z
    | none => rw [trk_out z] at e; exact e
  ok := po
  ok' := u.ok'.unt hd
  tr := fun b e => by
    obtain ⟨v, e'⟩ := Option.isSome_iff_exists.mp e
    have z := f.none_of e'
    rw [unt_out z]
    exact u.tr b (trk_sees f e)
  ls := fun _ z => z.elim
theorem fut_trk (po : PotsOk Pt H) (l : Held H S) (fr : Free H' S) (u : Fut S0 Pt (unt H S) Pt' H') : Fut S0 Pt H Pt' (trk H' S) where
  up := u.up
  kp := fun b o e n m => by
    cases z : S b with
    | some ob =>
      rw [l b ob z] at e
      cases e
      exact trk_in z
    | none =>
      have := u.kp b o (by rw [unt_out z]; exact e) n m
      by_cases ht : ∃ ps, o = .tbl ps
      · obtain ⟨ps, rfl⟩ := ht
        trivial
      · exact .of (by rw [trk_out z]; exact this.get fun ps q => ht ⟨ps, q⟩)
  nw := fun a p n => by
    obtain ⟨x, y, e, _⟩ := u.ok'.1 a p
    have z := fr.none_of e
    have := u.nw a p n
    rw [unt_out z] at this
    exact this
  ok := po
  ok' := u.ok'.trk fr
  tr := fun b e => by
    cases z : S b with
    | some ob => rw [trk_in z]; rfl
    | none =>
      rw [trk_out z]
      exact u.tr b (by rw [unt_out z]; exact e)
  ls := fun _ z => z.elim
end
/-! ### values without closures -/
mutual
def noClo : PyData → Bool
  | .none | .bool _ | .int _ | .str _ => true
  | .list ds => noCloA ds
  | .tuple ds => noCloA ds
  | .dict kvs => kvs.all fun p => match p.2 with
    | .tuple _ => false
    | _ => true
def noCloA : List PyData → Bool
  | [] => true
  | d :: ds => noClo d && noCloA ds
end
/-- from state to state, for what holds no closure -/
structure Step0 (K : PySem.W.Frag) (H : Hp) (M P : Addr → Prop) (H' : Hp) (M' P' : Addr → Prop) : Prop where
  l : ∀ a xs, LAt K H M P a xs → LAt K H' M' P' a xs
  t : ∀ a xs, TAt K H a xs → TAt K H' a xs
  d : ∀ a ks, H a = some (.dK ks) → H' a = some (.dK ks)
  p : ∀ a, P a → P' a
section
variable {K : PySem.W.Frag} {H H' : Hp} {M M' P P' : Addr → Prop}
theorem RpC.not : ∀ {kvs : List (PyData × PyData)} {v : V}, (kvs.all fun p => match p.2 with | .tuple _ => false | _ => true) = true → ¬ RpC K H M P kvs v
  | [], _, _, h => h
  | (k, d) :: r, v, n, h => by
    have h := h.2.2
    cases d with
    | tuple ds => simp at n
    | _ => exact h
mutual
theorem Rp.step0 (s : Step0 K H M P H' M' P') : ∀ {d : PyData} {v : V}, noClo d = true → Rp K H M P d v → Rp K H' M' P' d v
  | .none, _, _, h => h
  | .bool _, _, _, h => h
  | .int _, _, _, h => h
  | .str _, _, _, h => h
  | .list ds, _, n, h => by
    obtain ⟨a, vs, rfl, h1, h2⟩ := h
    exact ⟨a, vs, rfl, s.l _ _ h1, RpA.step0 s n h2⟩
  | .tuple ds, _, n, h => by
    obtain ⟨a, vs, rfl, h1, h2⟩ := h
    exact ⟨a, vs, rfl, s.t _ _ h1, RpA.step0 s n h2⟩
  | .dict kvs, _, n, h => by
    rcases h with ⟨ks, e, a, rfl, x⟩ | ⟨e, a, rfl, z⟩ | h
    · exact .inl ⟨ks, e, a, rfl, s.d _ _ x⟩
    · exact .inr (.inl ⟨e, a, rfl, s.p a z⟩)
    · exact absurd h (RpC.not n)
theorem RpA.step0 (s : Step0 K H M P H' M' P') : ∀ {ds : List PyData} {vs : List V}, noCloA ds = true → RpA K H M P ds vs → RpA K H' M' P' ds vs
  | [], _, _, h => h
  | d :: ds, _, n, h => by
    obtain ⟨v, r, rfl, h1, h2⟩ := h
    have n : (noClo d && noCloA ds) = true := n
    rw [Bool.and_eq_true] at n
    exact ⟨v, r, rfl, Rp.step0 s n.1 h1, RpA.step0 s n.2 h2⟩
end
theorem step0_unt {S : Addr → Option Obj} (l : Held H S) : Step0 K H M P (unt H S) M P where
  l := fun a xs h1 => by
    rcases h1 with ⟨x, y, z⟩ | ⟨o, h1⟩ | h1
    · exact .inl ⟨by rw [unt_out (l.none_of x fun _ z => nomatch z)]; exact x, y, z⟩
    · exact .inr (.inl ⟨o, by rw [unt_out (l.none_of h1 fun _ z => nomatch z)]; exact h1⟩)
    · exact .inr (.inr h1)
  t := fun a xs h1 => by
    rcases h1 with ⟨its, h1⟩ | h1
    · exact .inl ⟨its, by rw [unt_out (l.none_of h1 fun _ z => nomatch z)]; exact h1⟩
    · exact .inr h1
  d := fun a ks e => by rw [unt_out (l.none_of e fun _ z => nomatch z)]; exact e
  p := fun _ h => h
end
end WL

/-! W42: what a lambda promises, by its body. -/
namespace WL
open PySem PySem.Spec PyProof.Rows L2
/-- what a lambda promises: np arguments and what it captured, its answer by g -/
structure LamOk (P : Program) (w : World) (K : PySem.W.Frag) (mg : Str → Option Value) (base : Heap) (k np : Nat) (L : Lam) (g : Fn) : Prop where
  mono : MonoF g
  run : ∀ (A : Around) (outer : List Env) (s : Shared) (H : Hp) (f : Addr) (pm ctv : Value) (c' : Addr) (cl : List (Str × Addr)) (us : List Value) (vs ws : List V) (M Pt : Addr → Prop) (ds es : List PyData) (Q : VK) (E : XK),
    Room k A → A.guards = some [] → Env0 P w K mg base A outer s H → ClAt H f L pm ctv c' cl ws → Vals vs us → (∀ a, M a → (H a).isSome = true) → PotsOk Pt H → RpA K H M Pt ds vs → RpA K H M Pt es ws → noCloA ds = true → noCloA es = true → ds.length = np →
    (g (ds ++ es) fun d => ∀ v P' H', Fut S0 Pt H P' H' → Rp K H' M P' d v → Q v H') → codeAny (model P w) A (.call (.ref f) ⟨us, []⟩) (CR CX0 outer P w H s Q E) s
theorem LamOk.up {P : Program} {w : World} {K : PySem.W.Frag} {mg : Str → Option Value} {base : Heap} {j k np : Nat} {L : Lam} {g : Fn} (o : LamOk P w K mg base j np L g) (h : j ≤ k) : LamOk P w K mg base k np L g :=
  ⟨o.mono, fun A outer s H f pm ctv c' cl us vs ws M Pt ds es Q E hr => o.run A outer s H f pm ctv c' cl us vs ws M Pt ds es Q E (hr.mono h)⟩
/-- a lambda by its body -/
def gLam (n : Nat) (g : Ev → W PyData) : Fn := fun ds Q => g (args n ds) Q
theorem mono_gLam {n : Nat} {g : Ev → W PyData} (h : Mono g) : MonoF (gLam n g) := fun ds _ _ i q => h _ _ _ i q
/-- the lambda's words, as a nested def's -/
abbrev Lam.nf (L : Lam) (cl : List (Str × Addr)) (c' : Addr) : NdefX.NF := ⟨"<lambda>", L.qual, L.params, [], L.scope, cl, c'⟩
open Classical in
/-- the captured cells' objects -/
noncomputable def cellObj (h : Heap) (cl : List (Str × Addr)) (b : Addr) : Option Obj := if ∃ y, cl.lookup y = some b then h.get? b else none
section
variable {P : Program} {w : World} {K : PySem.W.Frag} {mg : Str → Option Value} {base : Heap} {H : Hp} {s : Shared} {f : Addr} {L : Lam} {pm ctv : Value} {c' : Addr} {cl : List (Str × Addr)} {ws : List V}
theorem cellObj_some {h : Heap} {b : Addr} {o : Obj} (e : cellObj h cl b = some o) : (∃ y, cl.lookup y = some b) ∧ h.get? b = some o := by
  unfold cellObj at e
  split at e
  · rename_i q
    exact ⟨q, e⟩
  · cases e
theorem ClAt.cell (C : ClAt H f L pm ctv c' cl ws) {y : Str} {b : Addr} (e : cl.lookup y = some b) : ∃ (o : Obj) (u : Value), o.data = .cell (some u) ∧ H b = some (.frz o (.own 0)) := by
  obtain ⟨i, hi⟩ := List.mem_iff_getElem?.mp (C.all y b e)
  obtain ⟨c, o, u, v, a1, _, _, a4, a5⟩ := C.has i y hi
  rw [e] at a1
  cases a1
  exact ⟨o, u, a4, a5⟩
theorem ClAt.held (C : ClAt H f L pm ctv c' cl ws) (hok : HOk P w H s.heap) : Held H (cellObj s.heap cl) := fun b o e => by
  obtain ⟨⟨y, hy⟩, e⟩ := cellObj_some e
  obtain ⟨o', u, _, h⟩ := C.cell hy
  obtain ⟨e', _⟩ := hok b _ h
  rw [e] at e'
  cases e'
  exact h
theorem ClAt.cells (C : ClAt H f L pm ctv c' cl ws) (hok : HOk P w H s.heap) : NdefX.CellsAt cl L.fr (ws.map some) s.heap (unt H (cellObj s.heap cl)) := by
  have at_ : ∀ {y : Str} {b : Addr} {o : Obj}, cl.lookup y = some b → H b = some (.frz o (.own 0)) → s.heap.get? b = some o := fun e h => (hok _ _ h).1
  refine ⟨by rw [List.length_map]; exact C.len, fun y c e => ?_, C.inj, fun i y e => ?_⟩
  · obtain ⟨o, u, hd, h⟩ := C.cell e
    have g := at_ e h
    refine ⟨?_, some u, o, g, hd⟩
    have : cellObj s.heap cl c = some o := by
      unfold cellObj
      rw [if_pos ⟨y, e⟩]
      exact g
    exact unt_in this
  · obtain ⟨c, o, u, v, a1, a2, a3, a4, a5⟩ := C.has i y e
    refine ⟨c, a1, fun v' e' => ?_⟩
    rw [List.getElem?_map, a2] at e'
    cases e'
    exact ⟨u, a3, o, at_ a1 a5, a4⟩
theorem env0_unt {A : Around} {outer : List Env} {S : Addr → Option Obj} (e0 : Env0 P w K mg base A outer s H) (l : Held H S) : Env0 P w K mg base A outer s (unt H S) := by
  have no : ∀ b, H b = none → unt H S b = none := fun b e => by
    cases z : S b with
    | some o => exact unt_in z
    | none => rw [unt_out z]; exact e
  exact ⟨e0.frames, e0.mod, fun b o e => ⟨(e0.bs b o e).1, no b (e0.bs b o e).2⟩, e0.bsz, e0.funs, fun b hb => no b (e0.frf b hb), hok_unt e0.hok l, e0.bare⟩
theorem start_eq {N : List Str} {vs ws : List V} : NdefX.startF N vs (ws.map some) = L2.start N (vs ++ ws) := by
  unfold NdefX.startF L2.start
  rw [List.map_append, List.append_assoc, List.length_map, List.length_append, Nat.sub_sub]
/-- THE RULE for a lambda -/
theorem lam_of {N ps : List Str} {k : Nat} {g : Ev → W PyData} (S : NdefX.NScope N ps L.fr L.scope)
    (hb : ∀ (cl : List (Str × Addr)) (pm : Value) (c' : Addr) (ctv : Value) (us : List Value), us.length = ps.length → bindArgs (PySem.W.kla_fn "<lambda>" L.qual L.params L.body L.scope cl pm (.ref c') ctv) ⟨us, []⟩ = pure (ps.zip us)) (hc : Room (k + 1) callerA)
    (h : ∀ (A : Around) (outer : List Env) (s : Shared) (H : Hp) (E : XK) (f c' : Addr) (cl : List (Str × Addr)), Room k (A.deeper (NdefX.envF (L.nf cl c') f s.heap.objs.size)) → A.guards = some [] → EW (NdefX.ncx CX0 P w K mg base N (L.nf cl c') f A outer s H E).nox .S L.body g) :
    LamOk P w K mg base (k + 1) ps.length L (gLam N.length g) := by
  have hm : Mono g := (h callerA [] {} (fun _ => none) (fun _ _ _ => False) 0 0 [] (hc.deeper _) rfl).mono
  refine ⟨mono_gLam hm, fun A outer s H f pm ctv c' cl us vs ws M Pt ds es Q E hr hgd e0 C r mt po rd re nd ne hl q => ?_⟩
  have hok := e0.hok
  have hd := C.held hok
  have e1 := env0_unt e0 hd
  have ca := C.cells hok
  obtain ⟨ho, _⟩ := hok f _ C.obj
  have lim : s.heap.NoLimit := e0.mod.nolimit.keeps fun b o e => (e0.bs b o e).1
  have vl : vs.length = ps.length := by rw [rd.len, hl]
  have hpl : ps.length + L.fr.length ≤ N.length := by
    have q := congrArg List.length S.pre
    rw [List.length_take, List.length_append] at q
    omega
  -- it runs where its cells are not known
  have run : codeAny (model P w) A (.call (.ref f) ⟨us, []⟩) (CR CX0 outer P w (unt H (cellObj s.heap cl)) s (fun v H' => ∃ P' d, Fut S0 Pt (unt H (cellObj s.heap cl)) P' H' ∧ Rp K H' (fun a => M a ∧ cellObj s.heap cl a = none) P' d v ∧ ∀ v P' H', Fut S0 Pt H P' H' → Rp K H' M P' d v → Q v H') E) s := by
    refine PySem.W.kla_callFunE hr.depth ho rfl S.co S.gen rfl (NdefX.codeO_at hok C.code) ?_
    rw [hb cl pm c' ctv us (by rw [← r.length]; exact vl)]
    refine wpAny_pure (wpAny_newFunctionEnv S.nocell (fun ⟨n, _⟩ hy => S.par n (List.of_mem_zip hy).1) (fun h1 hns hsb => ⟨lim.fresh _ hsb, PySem.W.kla_codeExpr ?_⟩) S.kind)
    have kp : ∀ b o, s.heap.get? b = some o → h1.get? b = some o := fun b o e => hsb.extBut b o (Nat.ne_of_lt (Heap.lt_size e)) (Heap.get?_push_of_some _ e)
    have I := NdefX.inv_startN (CX := CX0) (E := E) (tk := s.toks + (ps.zip us).length) (f := f) (F := L.nf cl c') S hr.hd e1 vl r ca hns kp
    rw [start_eq] at I
    have hw := h A outer s (unt H (cellObj s.heap cl)) E f c' cl (hr.deeper _) hgd
    have rall : RpA K (unt H (cellObj s.heap cl)) (fun a => M a ∧ cellObj s.heap cl a = none) Pt (ds ++ es) (vs ++ ws) :=
      ((rd.step0 (step0_unt hd) nd).append (re.step0 (step0_unt hd) ne)).anti fun a z => z.1
    have mt' : ∀ a, (M a ∧ cellObj s.heap cl a = none) → (unt H (cellObj s.heap cl) a).isSome = true := fun a z => by
      rw [unt_out z.2]
      exact mt a z.1
    have hlen : (ds ++ es).length ≤ N.length := by
      have := re.len
      have := C.len
      rw [List.length_append]
      omega
    obtain ⟨R, no⟩ := RE.enter (N := N) (po.unt hd) mt' rall hlen
    refine wpAny_mono (hw.pe.nox.run [] _ (L2.start N (vs ++ ws)) _ (fun v H' => ∃ P' d, Fut S0 Pt (unt H (cellObj s.heap cl)) P' H' ∧ Rp K H' (fun a => M a ∧ cellObj s.heap cl a = none) P' d v ∧ ∀ v P' H', Fut S0 Pt H P' H' → Rp K H' M P' d v → Q v H') I ⟨_, Pt, _, R, hm _ _ _ (fun d qd v P' H' f' rr => ⟨P', d, f', ?_, qd⟩) q⟩) (fun u s' z => ?_) fun e s' z => z
    · exact rr.anti fun a z => .inl z
    · obtain ⟨v, H', J, rv, qv⟩ := z
      exact ⟨v, H', J.os, J.bare, J.base, J.hok, rv, qv⟩
  refine codeAny_mono run fun res s' z => ?_
  cases res with
  | error e => exact z.elim
  | ok fl =>
    cases fl with
    | ret u =>
      obtain ⟨v, H', os, bare, un, hok', rv, P', d, fu, rr, qd⟩ := z
      obtain ⟨fr, ih, un'⟩ := un_trk hd (fun b o e => (cellObj_some e).2) (fun b o e hb => by have := hd b o e; rw [e0.frf b hb] at this; cases this) un
      refine ⟨v, trk H' (cellObj s.heap cl), os, bare, un', hok_trk hok' fr ih, rv, qd v P' _ (fut_trk po hd fr fu) ?_⟩
      have := (rr.avoidAll.step (.ext fun b o e => trk_ext fr e) : Rp K (trk H' (cellObj s.heap cl)) _ P' d v)
      refine this.anti fun a ma => ?_
      cases z : cellObj s.heap cl a with
      | none => exact .inl ⟨ma, rfl⟩
      | some o => exact .inr (fr a o z)
    | next => exact z.elim
    | brk => exact z.elim
    | cont => exact z.elim
end
end WL

/-! W43: a closure called. -/
namespace WL
open PySem PySem.Spec PyProof.Rows L2
/-- the n-th lambda with what it captured -/
abbrev cloD (n : Nat) (es : List PyData) : PyData := .dict [(.none, .tuple (.int n :: es))]
theorem Rp.clo {K : PySem.W.Frag} {H : Hp} {M P : Addr → Prop} {n : Nat} {es : List PyData} {v : V} (h : Rp K H M P (cloD n es) v) :
    ∃ (L : Lam) (f : Addr) (pm ctv : Value) (c' : Addr) (cl : List (Str × Addr)) (ws : List V), lawLams[n]? = some L ∧ v = .ref f ∧ ClAt H f L pm ctv c' cl ws ∧ RpA K H M P es ws := by
  rcases h with ⟨ks, e, _⟩ | ⟨e, _⟩ | h
  · exact nomatch e
  · cases e
  · obtain ⟨m, L, f, pm, ctv, c', cl, ws, e, e2, e3, C, r⟩ := h.2.2
    have e : n = m := by
      have := PyData.int.inj e
      omega
    subst e
    exact ⟨L, f, pm, ctv, c', cl, ws, e2, e3, C, r⟩
/-- x(..), x one of the closures ns -/
def wClo (ns : List Nat) (np : Nat) (χ : Nat → Fn) (i : Nat) (gs : Ev → W (List PyData)) : Ev → W PyData := fun ρ Q => ∃ n es, ρ[i]? = some (.sh (cloD n es)) ∧ n ∈ ns ∧ noCloA es = true ∧ gs ρ fun ds => ds.length = np ∧ noCloA ds = true ∧ χ n (ds ++ es) Q
theorem ClAt.fnAt {P : Program} {w : World} {H : Hp} {h : Heap} {f : Addr} {L : Lam} {pm ctv : Value} {c' : Addr} {cl : List (Str × Addr)} {ws : List V} (C : ClAt H f L pm ctv c' cl ws) (hok : HOk P w H h) : PySem.W.FnAt f h := by
  obtain ⟨e, _⟩ := hok f _ C.obj
  exact ⟨_, _, _, _, e⟩
theorem ew_clo {X : Cx} {ns : List Nat} {np k j i : Nat} {χ : Nat → Fn} {gs : Ev → W (List PyData)} {x : Str} {e : Expr} {es : List Expr} {p pos : Pos} (hχ : ∀ n, n ∈ ns → ∀ L, lawLams[n]? = some L → LamOk X.prog X.w X.K X.mg X.base k np L (χ n)) (hmo : ∀ n, MonoF (χ n)) (hr : Room j X.A) (hgd : X.A.guards = some []) (hk : k ≤ j) (hN : X.N[i]? = some x) (hv : Vis X.env.scope x) (ha : EA X (e :: es) gs)
    (hd : (x == ("__debug__" : Str)) = false := by decide) (hcd : (x == ("__classdict__" : Str)) = false := by decide)
    (he : starEach (e :: es) X.env = (false, eval e X.env) :: starEach es X.env := by rfl) (hpl : (backTo pos (starEach es X.env)).any (·.1) = false := by rfl) : EW X .S (.Call (.Name x p) (e :: es) [] pos) (wClo ns np χ i gs) := by
  refine ⟨fun ρ Q Q' im ⟨n, fs, e1, e2, e3, q⟩ => ⟨n, fs, e1, e2, e3, ha.mono ρ _ _ (fun ds ⟨a, b, q⟩ => ⟨a, b, hmo n _ _ _ im q⟩) q⟩, ⟨fun pins s σ H Q I ⟨B, P, ρ, R, n, fs, h1, h2, h3, q⟩ => ?_⟩⟩
  obtain ⟨v, hs, rv⟩ := R.sh i _ h1
  obtain ⟨L, f, pm, ctv, c', cl, ws, hL, rfl, C, re⟩ := rv.clo
  refine wpAny_Call_Name_kw (thn ((pe_var (pos := p) hN hv hd hcd).run pins s σ H (fun v H1 => v = .ref f ∧ H1 = H) I ⟨.ref f, hs, rfl, rfl⟩) fun u s1 ⟨v, H1, I1, r1, q1⟩ => ?_)
  obtain ⟨rfl, rfl⟩ := q1
  obtain rfl : u = Value.ref f := r1
  have ta : tWa X.K gs σ H1 fun vs H2 => ∃ ds P2, Fut S0 P H1 P2 H2 ∧ RpA X.K H2 (Mo B ρ σ) P2 ds vs ∧ ds.length = np ∧ noCloA ds = true ∧ χ n (ds ++ fs) fun d => ∀ v P' H', Fut S0 P H1 P' H' → RM .S X.K (Mo B ρ σ) H1 P' H' d v → Q v H' :=
    ⟨B, P, ρ, R, ha.mono ρ _ _ (fun ds ⟨a, b, q⟩ vs P2 H2 f2 r2 => ⟨ds, P2, f2, r2, a, b, q⟩) q⟩
  refine PySem.W.callWith_F (first := []) (C.fnAt I1.hok) (thn (ha.pa.run pos pins s1 σ H1 _ I1 ta) fun us s2 ⟨vs, H2, I2, r, ds, P2, f2, r2, a, b, q⟩ => ?_) he hpl
  have C2 : ClAt H2 f L pm ctv c' cl ws := C.stay (f2.step (M := S0) (K := X.K) fun _ z => z.elim).f (f2.step (M := S0) (K := X.K) fun _ z => z.elim).c
  refine ⟨C2.fnAt I2.hok, ?_⟩
  show wpAny _ _ (call (.ref f) us) _ _ _
  refine wpAny_call (codeAny_mono ((hχ n h2 L hL).run X.A X.stack s2 H2 f pm ctv c' cl us vs ws (Mo B ρ σ) P2 ds fs Q E0 (hr.mono hk) hgd I2.env0 C2 r (fun a h => (R.fut f2).mtrk h) f2.ok' r2 (re.fut0 f2) b h3 a (hmo n _ _ _ (fun d qd v P' H' f' r' => qd v P' H' (f2.trans0 f') r') q)) fun res s' z => ?_)
  cases res with
  | error e => exact z.elim
  | ok fl =>
    cases fl with
    | ret u => exact I2.after z
    | next => exact z.elim
    | brk => exact z.elim
    | cont => exact z.elim
end WL

/-! W44: a lambda handed on to a def. -/
namespace WL
open PySem PySem.Spec PyProof.Rows L2
section
variable {X : Cx} {pins : List (Addr × Obj)} {σ : L2.St} {H : Hp} {s : Shared}
/-- a lambda is made: a new function object -/
theorem lam_new {c T : Addr} {prm : Arguments} {bd : Expr} {sc : Scope} {pos : Pos} {E : Value → Shared → Prop} {Q : Value → Shared → Prop} (I : Inv X pins σ H s) (tb : LamX.TabB X.base X.mg c T) (ec : X.env.code = .ref c)
    (hm : (T, X.env.qual ++ "<lambda>") ∈ lawTabs) (hu : ∀ p ∈ lawTabs, p.1 = T → p.2 = X.env.qual ++ "<lambda>") (hT : LamX.Tabs lawTabs H) (nod : defaultsOf prm X.env = ([], [])) (cap : ∀ y ∈ sc.names, y.2 = .free → ∃ a, X.env.cells.lookup y.1 = some a)
    (h : ∀ (f c' : Addr) (pm ctv : Value) (H1 : Hp) (s' : Shared), Inv X pins σ H1 s' → LamX.ExtN H H1 → LamX.Tabs lawTabs H1 → (∀ b, (H b).isSome = true → (H1 b).isSome = true) → s.heap.objs.size ≤ f →
      s'.heap.get? f = some (PySem.W.kla_obj "<lambda>" (X.env.qual ++ "<lambda>") prm bd sc (cloFrom X.env.cells sc.names []) pm c' ctv) → H1 f = none → H1 c' = some (LamX.CodeO c' (X.env.qual ++ "<lambda>")) → Q (.ref f) s') :
    wpAny (model X.prog X.w) X.A (eval (.Lambda prm bd sc pos) X.env) Q E s := by
  obtain ⟨ps, eT, tr, told⟩ := hT _ hm
  have bi := tb.bm.keeps I.bk
  have oT : s.heap.get? T = some { cls := .none, data := .fields ps } := I.hok T _ eT
  refine PySem.W.kla_eval nod ?_
  rcases hq : codeAmong pos ps.toList with _ | cv
  · refine PySem.W.kla_makeFunction (mg := X.mg) (ps := ps) (closure_ok cap) I.ok.glob (I.mod.glob.keeps I.bk) ec (tb.code.keeps I.bk) oT tr hq tb.gP bi fun c' ctv h' tk hx g1 g2 ⟨c2, oc, us, t, q2, o1, o2, o3⟩ o4 => ?_
    cases q2
    have gr := Nat.le_trans g1 (Nat.le_of_lt g2)
    have nc : H c' = none := I.hok.fresh g1
    have push : ∀ {b : Addr} {o : Obj} (n : Obj), h'.get? b = some o → (h'.push n).get? b = some o := fun n e => Heap.get?_push_of_some n e
    have J := LamX.inv_table (t' := tk) (more := #[rawInt pos.line, rawInt pos.col, .ref c']) (h' := h'.push (PySem.W.kla_obj "<lambda>" (X.env.qual ++ "<lambda>") prm bd sc (cloFrom X.env.cells sc.names []) ((X.mg "__name__").getD .none) c' ctv)) I eT
      (fun b o nb e => push _ (hx b o nb e)) (push _ o4) g1 (q := X.env.qual ++ "<lambda>") ⟨oc, us, t, push _ o1, o2, o3⟩
    have keep : ∀ b o, H b = some o → b ≠ T → upd (upd H T (.tbl (ps ++ #[rawInt pos.line, rawInt pos.col, .ref c']))) c' (LamX.CodeO c' (X.env.qual ++ "<lambda>")) b = some o := fun b o e nb => by
      rw [upd_ne (ne_of_none e nc), upd_ne nb]
      exact e
    have keepT : upd (upd H T (.tbl (ps ++ #[rawInt pos.line, rawInt pos.col, .ref c']))) c' (LamX.CodeO c' (X.env.qual ++ "<lambda>")) T = some (.tbl (ps ++ #[rawInt pos.line, rawInt pos.col, .ref c'])) := by
      rw [upd_ne (ne_of_none eT nc), upd_same]
    have isC : ∀ b q, H b = some (LamX.CodeO b q) → b ≠ T := fun b q e z => by
      rw [z, eT] at e
      unfold LamX.CodeO at e
      cases e
    have nt : ∀ b o, H b = some o → (∀ ps, o ≠ .tbl ps) → b ≠ T := fun b o e n z => by
      rw [z, eT] at e
      exact n ps (Option.some.inj e).symm
    refine h h'.objs.size c' ((X.mg "__name__").getD .none) ctv _ _ J (fun b o e n => keep b o e (nt b o e n)) (fun p hp => ?_) (fun b e => ?_) gr (Heap.get?_push_size _ rfl) ?_ upd_same
    · by_cases hb : p.1 = T
      · rw [hu p hp hb, hb]
        have el : (ps ++ #[rawInt pos.line, rawInt pos.col, .ref c']).toList = ps.toList ++ [rawInt pos.line, rawInt pos.col, .ref c'] := by simp
        refine ⟨_, keepT, el ▸ PySem.TriplesOk_snoc _ _ _ _ tr, fun p' cv hcv => ?_⟩
        rw [el] at hcv
        cases LamX.among_app _ tr hcv with
        | inl z =>
          obtain ⟨c0, w1, w2⟩ := told p' cv z
          exact ⟨c0, w1, keep _ _ w2 (isC _ _ w2)⟩
        | inr z => exact ⟨c', z, upd_same⟩
      · obtain ⟨ps', w1, w2, w3⟩ := hT p hp
        refine ⟨ps', keep _ _ w1 hb, w2, fun p' cv hcv => ?_⟩
        obtain ⟨c0, v1, v2⟩ := w3 p' cv hcv
        exact ⟨c0, v1, keep _ _ v2 (isC _ _ v2)⟩
    · by_cases hb : b = T
      · rw [hb, keepT]
        rfl
      · obtain ⟨o, e⟩ := Option.isSome_iff_exists.mp e
        rw [keep b o e hb]
        rfl
    · have d1 : h'.objs.size ≠ c' := Nat.ne_of_gt g2
      have d2 : h'.objs.size ≠ T := Nat.ne_of_gt (Nat.lt_of_lt_of_le (Heap.lt_size oT) gr)
      rw [upd_ne d1, upd_ne d2]
      exact I.hok.fresh gr
  · obtain ⟨c', rfl, oc⟩ := told pos cv hq
    refine PySem.W.kla_makeFunctionHit (mg := X.mg) (ps := ps) (closure_ok cap) I.ok.glob (I.mod.glob.keeps I.bk) ec (tb.code.keeps I.bk) oT tr hq bi fun ctv h' tk hx gr => ?_
    exact h h'.objs.size c' ((X.mg "__name__").getD .none) ctv H _ (I.kept (t' := tk) fun b o e => Heap.get?_push_of_some _ (hx b o e)) (LamX.ExtN.refl H) hT (fun _ e => e) gr (Heap.get?_push_size _ rfl) (I.hok.fresh gr) oc
end
/-- what some slots hold -/
def capt : List Nat → Ev → Option (List PyData)
  | [], _ => some []
  | j :: js, ρ => match ρ[j]?, capt js ρ with
    | some (.sh d), some ds => some (d :: ds)
    | _, _ => none
/-- f(e, lambda ..) -/
def wCallL (g : Fn) (n : Nat) (js : List Nat) (ge : Ev → W PyData) : Ev → W PyData := fun ρ Q => ge ρ fun d => ∃ es, capt js ρ = some es ∧ noCloA es = true ∧ g [d, cloD n es] fun r => noClo r = true ∧ Q r
end WL

/-! W45: f(e, lambda ..): the rule. -/
namespace WL
open PySem PySem.Spec PyProof.Rows L2
section
variable {P : Program} {w : World} {K : PySem.W.Frag} {mg : Str → Option Value} {base : Heap} {H H' : Hp} {s : Shared}
theorem env0_trk {A : Around} {outer : List Env} {S : Addr → Option Obj} (e0 : Env0 P w K mg base A outer s H) (f : Free H S) (i : InHeap s.heap S) (nb : ∀ b o, S b = some o → base.get? b = none) (nf : ∀ b o, S b = some o → b ∉ frs outer) : Env0 P w K mg base A outer s (trk H S) := by
  have none_of : ∀ {b : Addr}, (∀ o, S b ≠ some o) → S b = none := fun {b} h => by
    cases z : S b with
    | none => rfl
    | some o => exact absurd z (h o)
  refine ⟨e0.frames, e0.mod, fun b o e => ⟨(e0.bs b o e).1, ?_⟩, e0.bsz, e0.funs, fun b hb => ?_, hok_trk e0.hok f i, e0.bare⟩
  · rw [trk_out (none_of fun o' z => by rw [nb b o' z] at e; cases e)]
    exact (e0.bs b o e).2
  · rw [trk_out (none_of fun o' z => nf b o' z hb)]
    exact e0.frf b hb
theorem Fut.lam {Pt : Addr → Prop} (po : PotsOk Pt H) (e : LamX.ExtN H H') (t : LamX.Tabs lawTabs H') (tr : ∀ b, (H b).isSome = true → (H' b).isSome = true) : Fut S0 Pt H Pt H' where
  up := fun _ h => h
  kp := fun b o h _ _ => by
    by_cases ht : ∃ ps, o = .tbl ps
    · obtain ⟨ps, rfl⟩ := ht
      trivial
    · exact .of (e b o h fun ps z => ht ⟨ps, z⟩)
  nw := fun _ h n => absurd h n
  ok := po
  ok' := ⟨fun a pa => by
    obtain ⟨x, y, h, r⟩ := po.1 a pa
    exact ⟨x, y, e _ _ h fun ps z => (nomatch z), r⟩, t⟩
  tr := tr
  ls := fun _ z => z.elim
theorem capt_rel {B Pt : Addr → Prop} {ρ : Ev} {σ : L2.St} (R : RE K B Pt H ρ σ) : ∀ {js : List Nat} {es : List PyData}, capt js ρ = some es → ∃ ws, RpA K H (Mo B ρ σ) Pt es ws ∧ js.map (NdefX.slotAt σ) = ws.map some
  | [], es, e => by
    cases e
    exact ⟨[], rfl, rfl⟩
  | j :: js, es, e => by
    unfold capt at e
    split at e
    · rename_i d ds e1 e2
      cases e
      obtain ⟨v, hs, rv⟩ := R.sh j d e1
      obtain ⟨ws, rw_, ew⟩ := capt_rel R e2
      exact ⟨v :: ws, ⟨v, ws, rfl, rv, rw_⟩, by rw [List.map_cons, List.map_cons, ew, NdefX.slotAt_of hs]⟩
    · cases e
end
/-- the callers' frames lie ahead of the def's own places -/
theorem frsAbove {X : Cx} (ok : X.Ok) {a : Addr} (h : X.s_0.heap.objs.size ≤ a) : a ∉ X.fs := fun hb => by
  obtain ⟨_, o, e, _⟩ := ok.funs.mem hb
  exact absurd (Nat.lt_of_lt_of_le (Heap.lt_size e) h) (Nat.lt_irrefl _)
open Classical in
/-- the objects that the def learns of -/
noncomputable def lentObj (h : Heap) (f : Addr) (cl : List (Str × Addr)) (b : Addr) : Option Obj := if b = f ∨ ∃ y, cl.lookup y = some b then h.get? b else none
theorem lent_some {h : Heap} {f : Addr} {cl : List (Str × Addr)} {b : Addr} {o : Obj} (e : lentObj h f cl b = some o) : (b = f ∨ ∃ y, cl.lookup y = some b) ∧ h.get? b = some o := by
  unfold lentObj at e
  split at e
  · rename_i q
    exact ⟨q, e⟩
  · cases e
section
variable {X : Cx} {k j n : Nat} {x : Str} {ps : List Str} {g : Fn} {ge : Ev → W PyData} {e : Expr} {L : Lam} {js : List Nat} {c T : Addr} {p pos lp : Pos}
theorem ew_callL (F : FnW X.prog X.w X.K X.mg X.base k x ps .S g) (hr : Room j X.A) (hgd : X.A.guards = some []) (hk : k ≤ j) (hg : Gl X x) (h1 : EW X .S e ge) (hL : lawLams[n]? = some L) (hq : L.qual = X.env.qual ++ "<lambda>")
    (tb : LamX.TabB X.base X.mg c T) (ec : X.env.code = .ref c) (hm : (T, X.env.qual ++ "<lambda>") ∈ lawTabs) (hu : ∀ p ∈ lawTabs, p.1 = T → p.2 = X.env.qual ++ "<lambda>") (nod : defaultsOf L.params X.env = ([], []))
    (hfree : ∀ y ∈ L.scope.names, y.2 = .free → X.env.scope.names.lookup y.1 = some .cell ∨ X.env.scope.names.lookup y.1 = some .free) (hfr : ∀ y ∈ L.fr, (y, NameKind.free) ∈ L.scope.names) (hfr2 : ∀ y ∈ L.scope.names, y.2 = .free → y.1 ∈ L.fr)
    (hjs : js.map (fun j => X.N[j]?) = L.fr.map some) (hnew : ∀ y b, X.env.cells.lookup y = some b → X.env.locals < b) (hn : ps.length = 2 := by rfl)
    (hs : starEach [e, .Lambda L.params L.body L.scope lp] X.env = (false, eval e X.env) :: starEach [.Lambda L.params L.body L.scope lp] X.env := by rfl) (hs2 : starEach [.Lambda L.params L.body L.scope lp] X.env = (false, eval (.Lambda L.params L.body L.scope lp) X.env) :: starEach [] X.env := by rfl)
    (hpl : (backTo pos (starEach [.Lambda L.params L.body L.scope lp] X.env)).any (·.1) = false := by rfl) (hdb : (x == ("__debug__" : Str)) = false := by decide) :
    EW X .S (.Call (.Name x p) [e, .Lambda L.params L.body L.scope lp] [] pos) (wCallL g n js ge) := by
  obtain ⟨mo, f0, fd, hm0, kp, hb, ok⟩ := F
  refine ⟨fun ρ Q Q' im q => h1.mono ρ _ _ (fun d ⟨es, a, b, q⟩ => ⟨es, a, b, mo _ _ _ (fun r ⟨nr, q⟩ => ⟨nr, im _ q⟩) q⟩) q, ⟨fun pins s σ H Q I ⟨B, P, ρ, R, q⟩ => ?_⟩⟩
  refine wpAny_Call_Name_kw (ld_glob I hg hm0 ?_ hdb)
  refine PySem.W.callWith_K (h₀ := X.base) I.ok.mod.kin kp ?_ hs hpl
  rw [hs]
  show wpAny _ _ (spliced ((false, eval e X.env) :: backTo pos (starEach [.Lambda L.params L.body L.scope lp] X.env))) _ _ s
  have t1 : tW X.K .S ge σ H fun v H1 => ∃ d P1, Fut S0 P H P1 H1 ∧ Rp X.K H1 (Mo B ρ σ) P1 d v ∧ ∃ es, capt js ρ = some es ∧ noCloA es = true ∧ g [d, cloD n es] fun r => noClo r = true ∧ ∀ v P' H', Fut S0 P H P' H' → RM .S X.K (Mo B ρ σ) H P' H' r v → Q v H' :=
    ⟨B, P, ρ, R, h1.mono ρ _ _ (fun d q v P1 H1 f1 r1 => ⟨d, P1, f1, r1, q⟩) q⟩
  refine Calls.spliced_cons (thn (h1.pe.run pins s σ H _ I t1) fun u1 s1 ⟨v1, H1, I1, ru, d, P1, f1, r1, es, hc, nes, q1⟩ => ?_)
  rw [hs2]
  show wpAny _ _ (spliced [(false, eval (.Lambda L.params L.body L.scope lp) X.env)]) _ _ s1
  refine Calls.spliced_cons (lam_new I1 tb ec hm hu f1.ok'.2 nod (fun y hy e => (hfree y hy e).elim (fun z => I1.ok.has _ (.inl z)) fun z => I1.ok.has _ (.inr z)) fun f c' pm ctv H2 s2 I2 ex tabs tr new ho nf hco => Calls.spliced_nil ⟨I2.kIn, ?_⟩)
  have f2 : Fut S0 P1 H1 P1 H2 := .lam f1.ok' ex tabs tr
  have R2 := (R.fut f1).fut f2
  have cp := NdefX.Caps.made (fr := L.fr) (js := js) I2.ok hfree hfr hjs
  have ca := NdefX.cells_of I2 cp
  obtain ⟨ws, rws, ews⟩ := capt_rel R2 hc
  rw [ews] at ca
  generalize hcl : cloFrom X.env.cells L.scope.names [] = cl at ca cp ho
  have isCell : ∀ {y : Str} {b : Addr}, cl.lookup y = some b → X.env.cells.lookup y = some b := fun e => cp.sub _ _ e
  have free : Free H2 (lentObj s2.heap f cl) := fun b o e => by
    rcases (lent_some e).1 with rfl | ⟨y, hy⟩
    · exact nf
    · exact (ca.all y b hy).1
  have inh : InHeap s2.heap (lentObj s2.heap f cl) := fun b o e => (lent_some e).2
  have lt : ∀ {b : Addr} {o : Obj}, X.base.get? b = some o → b < X.s_0.heap.objs.size := fun e => Heap.lt_size (I2.ok.bs _ _ e).1
  have nbase : ∀ b o, lentObj s2.heap f cl b = some o → X.base.get? b = none := fun b o e => by
    cases z : X.base.get? b with
    | none => rfl
    | some o' =>
      have l1 := lt z
      rcases (lent_some e).1 with rfl | ⟨y, hy⟩
      · exact absurd (Nat.lt_of_lt_of_le l1 I1.sz) (Nat.not_lt.mpr new)
      · exact absurd (Nat.lt_of_lt_of_le l1 (Nat.le_trans I2.ok.above (Nat.le_of_lt (hnew y b (isCell hy))))) (Nat.lt_irrefl _)
  have nfr : ∀ b o, lentObj s2.heap f cl b = some o → b ∉ frs X.stack := fun b o e hb => by
    rcases (lent_some e).1 with rfl | ⟨y, hy⟩
    · rcases List.mem_cons.mp (I1.stkSub b hb) with z | z
      · have := I1.lt
        rw [← z] at this
        exact absurd (Nat.lt_of_lt_of_le this new) (Nat.lt_irrefl _)
      · exact I1.nofs new z
    · have hl := hnew y b (isCell hy)
      rcases List.mem_cons.mp (I2.stkSub b hb) with z | z
      · rw [z] at hl
        exact Nat.lt_irrefl _ hl
      · exact frsAbove I2.ok (Nat.le_trans I2.ok.above (Nat.le_of_lt hl)) z
  have C : ClAt (trk H2 (lentObj s2.heap f cl)) f L pm ctv c' cl ws := by
    refine ⟨?_, ?_, by have := ca.len; rw [List.length_map] at this; exact this, fun y b e => ?_, ca.inj, fun i y e => ?_⟩
    · refine trk_in ?_
      unfold lentObj
      rw [if_pos (.inl rfl), hq]
      exact ho
    · rw [hq]
      exact trk_ext free hco
    · have hy := PySem.mem_of_lookup e
      rw [← hcl] at hy
      rcases cloFrom_mem hy with z | z
      · cases z
      · exact hfr2 _ z.1 rfl
    · obtain ⟨b, e1, e2⟩ := ca.has i y e
      have hi : i < ws.length := by
        have := ca.len
        rw [List.length_map] at this
        rw [this]
        exact (List.getElem?_eq_some_iff.mp e).1
      obtain ⟨u, ru, o, go, od⟩ := e2 ws[i] (by rw [List.getElem?_map, List.getElem?_eq_getElem hi]; rfl)
      refine ⟨b, o, u, ws[i], e1, List.getElem?_eq_getElem hi, ru, od, trk_in ?_⟩
      unfold lentObj
      rw [if_pos (.inr ⟨y, e1⟩)]
      exact go
  have st : Step X.K H2 (Mo B ρ σ) P1 (trk H2 (lentObj s2.heap f cl)) (Mo B ρ σ) P1 := .ext fun b o e => trk_ext free e
  have sp : spW X.K .S ps.length g [v1, .ref f] (trk H2 (lentObj s2.heap f cl)) (fun v H' => ∃ P' r, Fut S0 P1 (trk H2 (lentObj s2.heap f cl)) P' H' ∧ Rp X.K H' (Mo B ρ σ) P' r v ∧ noClo r = true ∧ ∀ v P' H', Fut S0 P H P' H' → RM .S X.K (Mo B ρ σ) H P' H' r v → Q v H') E0 :=
    ⟨Mo B ρ σ, P1, [d, cloD n es], fun a h => trk_sees free (R2.mtrk h), f2.ok'.trk free, ⟨v1, [.ref f], rfl, (r1.fut0 f2).step st, .ref f, [], rfl, .inr (.inr ⟨rfl, rfl, n, L, f, pm, ctv, c', cl, ws, rfl, hL, rfl, C, rws.step st⟩), rfl⟩, by rw [hn]; rfl,
      mo _ _ _ (fun r ⟨nr, q⟩ v P' H' f' r' => ⟨P', r, f', r', nr, q⟩) q1⟩
  refine wpAny_call (codeAny_mono (ok.run X.A X.stack s2 (trk H2 (lentObj s2.heap f cl)) ⟨[u1, .ref f], []⟩ [u1, .ref f] [v1, .ref f] _ E0 (hr.mono hk) hgd (env0_trk I2.env0 free inh nbase nfr) (by
    have := hb s2 [u1, .ref f] I2.kIn (by rw [List.append_nil, hn]; rfl)
    rw [List.append_nil] at this
    exact this) (.cons ru (.cons rfl .nil)) sp) fun res s' z => ?_)
  cases res with
  | error e => exact z.elim
  | ok fl =>
    cases fl with
    | ret u =>
      obtain ⟨v, H', os, bare, un, hok', rv, P', r, fu, rr, nr, qd⟩ := z
      obtain ⟨hd, un'⟩ := un_unt free inh un hok'
      refine I2.after ⟨v, unt H' (lentObj s2.heap f cl), os, bare, un', hok_unt hok' hd, rv, qd v P' _ ((f1.trans0 f2).trans0 (fut_unt f2.ok' free hd fu)) ?_⟩
      exact rr.step0 (step0_unt hd) nr
    | next => exact z.elim
    | brk => exact z.elim
    | cont => exact z.elim
end
end WL

/-! W46: defs that make lambdas; the law's own call where some do. -/
namespace WL
open PySem PySem.Spec PyProof.Rows L2
/-! ### a def whose code object is known -/
section
variable {P : Program} {w : World} {K : PySem.W.Frag} {mg : Str → Option Value} {base : Heap}
theorem fnG_ofC {CX : CXT} {k : Nat} {x qual : Str} {st : Stmt} {f : Addr} {fd : FuncData} {N ps : List Str} {sp : Sp} (F : Fun K x qual st f fd) (S : FnScope N ps (defScope st)) (len : ∀ vs H Q E, sp vs H Q E → vs.length = ps.length)
    (hbody : ∀ (cdv : Value) (A : Around) (outer : List Env) (s : Shared) (H : Hp) (vs : List V) (Q : VK) (E : XK), fd.code = cdv → Room k (A.deeper (envOfC qual (defScope st) s.heap.objs.size f cdv)) → A.guards = some [] → sp vs H Q E →
      ∃ t, PSs (cxOf CX P w K mg base N qual (defScope st) f cdv A outer s H E) (defBody st) t ∧ t { nx := fun _ H' => Q .non H', rt := Q } (L2.start N vs) H) : FnG P w K mg base CX (k + 1) f fd ps sp := by
  obtain ⟨oc, od, kV, doc, pm, an, cdv, ct, osl, rfl, lk, hcd⟩ := F.ex
  refine ⟨len, fun A outer s H args us vs Q E hr hgd e0 hb r hsp => ?_⟩
  have hl := len vs H Q E hsp
  have keepB : ∀ b o, base.get? b = some o → s.heap.get? b = some o := fun b o z => (e0.bs b o z).1
  have KX : K.In s.heap := e0.mod.kin.keeps keepB
  refine codeAny_call_function hr.depth (KX _ _ lk) rfl S.co S.gen rfl (PySem.W.codeRec_of KX hcd) (hb _ _ _ _ ?_)
  have hk : ∀ y ∈ ps.zip us, (defScope st).names.lookup y.1 = some .local ∨ ((defScope st).names.lookup y.1 = some .cell ∧ ((cellsFrom (s.heap.objs.size + 1) (defScope st).names []).lookup y.1).isSome = true) := fun ⟨n, v⟩ hy =>
    (S.par n (List.of_mem_zip hy).1).elim .inl fun q => .inr ⟨q, PySem.W.cellsFrom_some _ _ _ (.inl q)⟩
  refine wpAny_newFunctionEnv_cells S.kind hk fun env he s1 xc => ?_
  subst he
  refine ⟨(e0.mod.nolimit.keeps keepB).keeps xc.toInCall.keep, codeAny_func ?_⟩
  obtain ⟨t, ht, hq⟩ := hbody cdv A outer s H vs Q E rfl (hr.deeper _) hgd hsp
  refine wpAny_mono (ht.run [] s1 (L2.start N vs) H _ (inv_start S hr.hd e0 hl r xc) hq) (fun fl s' hs => ?_) fun _ _ z => z
  cases fl with
  | ret u => obtain ⟨v, σ', H', J, rv, q⟩ := hs; exact ⟨v, H', J.os, J.bare, J.base, J.hok, rv, q⟩
  | next => obtain ⟨σ', H', J, q⟩ := hs; exact ⟨V.non, H', J.os, J.bare, J.base, J.hok, rfl, q⟩
  | brk => obtain ⟨_, _, _, q⟩ := hs; exact q.elim
  | cont => obtain ⟨_, _, _, q⟩ := hs; exact q.elim
theorem fnG_bodyC {x qual : Str} {st : Stmt} {f : Addr} {fd : FuncData} {N ps : List Str} {k : Nat} {m : Md} {g : Ev → W Rs} (F : Fun K x qual st f fd) (S : FnScope N ps (defScope st))
    (h : ∀ (cdv : Value) (A : Around) (outer : List Env) (s : Shared) (H : Hp) (E : XK), fd.code = cdv → Room k (A.deeper (envOfC qual (defScope st) s.heap.objs.size f cdv)) → A.guards = some [] → ESs (cxOf CX0 P w K mg base N qual (defScope st) f cdv A outer s H E).nox m (defBody st) g) :
    FnG P w K mg base CX0 (k + 1) f fd ps (spW K m ps.length (gBody m N.length g)) := by
  refine fnG_ofC F S (fun vs H Q E hsp => ?_) fun cdv A outer s H vs Q E hcd hr hgd hsp => ?_
  · obtain ⟨M, Pt, ds, _, _, r, e, _⟩ := hsp
    rw [r.len, e]
  · obtain ⟨M, Pt, ds, mt, po, r, e, q⟩ := hsp
    have hB := h cdv A outer s H E hcd hr hgd
    have hpl : ps.length ≤ N.length := by
      have := congrArg List.length S.pre
      rw [List.length_take] at this
      omega
    obtain ⟨R, no⟩ := RE.enter (N := N) po mt r (by omega)
    obtain ⟨Rq, q, hRq⟩ := q
    refine ⟨_, hB.pss.nox, M, Pt, _, R, hB.mono _ _ _ (fun rs z => ?_) q⟩
    have q := hRq rs z
    have hf : ∀ {P' : Addr → Prop} {H' : Hp}, Fut (Own (args N.length ds) (L2.start N vs)) Pt H P' H' → Fut S0 Pt H P' H' := fun f => f.mono (fun c z => (no c z).elim) fun _ z => z.elim
    cases rs with
    | rt d =>
      refine fun v P' H' f rr => q v P' H' (hf f) ?_
      cases m with
      | S => exact rr
      | B => exact .inl rr
      | F =>
        obtain ⟨ds', p, us, e1, e2, h0, e3, n, ra⟩ := rr
        exact ⟨ds', p, us, e1, e2, h0.elim id fun z => (no p z).elim, e3, n, ra⟩
    | nx ρ =>
      obtain ⟨rfl, q⟩ := q
      exact fun σ' P' H' gr R' => q .non P' H' (hf gr.fut) rfl
    | bk ρ => exact q.elim
    | ct ρ => exact q.elim
end
theorem cells_above : ∀ (names : List (Str × NameKind)) (L n : Nat) (acc : List (Str × Addr)), L < n → (∀ y b, acc.lookup y = some b → L < b) → ∀ y b, (cellsFrom n names acc).lookup y = some b → L < b
  | [], _, _, _, _, h => h
  | (z, k) :: r, L, n, acc, hn, h => by
    unfold cellsFrom
    split
    · refine cells_above r L (n + 1) _ (Nat.lt_succ_of_lt hn) fun y b e => ?_
      rw [List.lookup_cons] at e
      split at e
      · cases e
        exact hn
      · exact h y b e
    · exact cells_above r L n acc hn h
theorem new_cells {CX : CXT} {P : Program} {w : World} {K : PySem.W.Frag} {mg : Str → Option Value} {base : Heap} {N : List Str} {qual : Str} {scope : Scope} {f : Addr} {cdv : Value} {A : Around} {outer : List Env} {s : Shared} {H : Hp} {E : XK} :
    ∀ y b, (cxOf CX P w K mg base N qual scope f cdv A outer s H E).nox.env.cells.lookup y = some b → (cxOf CX P w K mg base N qual scope f cdv A outer s H E).nox.env.locals < b :=
  cells_above scope.names s.heap.objs.size (s.heap.objs.size + 1) [] (Nat.lt_succ_self _) fun _ _ e => nomatch e
/-- the names that a lambda captures are its maker's -/
def capB (sc scope : Scope) (fr : List Str) : Bool := scope.names.all (fun y => !decide (y.2 = .free) || ((decide (sc.names.lookup y.1 = some .cell) || decide (sc.names.lookup y.1 = some .free)) && decide (y.1 ∈ fr))) && fr.all fun y => decide ((y, NameKind.free) ∈ scope.names)
theorem cap1 {sc scope : Scope} {fr : List Str} (h : capB sc scope fr = true) : ∀ y ∈ scope.names, y.2 = .free → sc.names.lookup y.1 = some .cell ∨ sc.names.lookup y.1 = some .free := fun y hy e => by
  unfold capB at h
  simp only [Bool.and_eq_true, List.all_eq_true, Bool.or_eq_true, Bool.not_eq_true', decide_eq_true_eq, decide_eq_false_iff_not] at h
  rcases h.1 y hy with z | z
  · exact absurd e z
  · exact z.1
theorem cap2 {sc scope : Scope} {fr : List Str} (h : capB sc scope fr = true) : ∀ y ∈ fr, (y, NameKind.free) ∈ scope.names := fun y hy => by
  unfold capB at h
  simp only [Bool.and_eq_true, List.all_eq_true, Bool.or_eq_true, Bool.not_eq_true', decide_eq_true_eq, decide_eq_false_iff_not] at h
  exact h.2 y hy
theorem cap3 {sc scope : Scope} {fr : List Str} (h : capB sc scope fr = true) : ∀ y ∈ scope.names, y.2 = .free → y.1 ∈ fr := fun y hy e => by
  unfold capB at h
  simp only [Bool.and_eq_true, List.all_eq_true, Bool.or_eq_true, Bool.not_eq_true', decide_eq_true_eq, decide_eq_false_iff_not] at h
  rcases h.1 y hy with z | z
  · exact absurd e z
  · exact z.2
theorem key_one {l : List (Addr × Str)} (nd : (l.map (·.1)).Nodup) {T : Addr} {q : Str} (h : (T, q) ∈ l) : ∀ p ∈ l, p.1 = T → p.2 = q := fun p hp e => by
  induction l with
  | nil => cases hp
  | cons r l ih =>
    rw [List.map_cons, List.nodup_cons] at nd
    have out : ∀ t ∈ l, t.1 ≠ r.1 := fun t ht z => nd.1 (List.mem_map.mpr ⟨t, ht, z⟩)
    rcases List.mem_cons.mp h with h1 | h1
    · rcases List.mem_cons.mp hp with h2 | h2
      · rw [h2, ← h1]
      · exact (out p h2 (by rw [← h1]; exact e)).elim
    · rcases List.mem_cons.mp hp with h2 | h2
      · exact (out (T, q) h1 (by rw [← h2]; exact e.symm)).elim
      · exact ih nd.2 h1 h2
/-! ### the law's own call -/
theorem law_goT {P : Program} {w : World} {K : PySem.W.Frag} {mg mb : Str → Option Value} {k : Nat} {fa a : Addr} {cs : List (Addr × Addr)} {fd : FuncData} {x : Str} {g : Fn} {s : Shared} {vs : List Value} {ns : List Int}
    (KX : K.In s.heap) (hns : s.heap.Ns mainGlobals mg) (hb : s.heap.Ns builtinsNs mb) (hbb : ∀ x : Str, x ≠ "__name__" → mb x = bootBuiltins x) (hlim : s.heap.NoLimit) (hgen : s.gens = #[])
    (tabE : ∀ p ∈ cs, s.heap.get? p.2 = some (PySem.W.tabObj #[])) (tabK : ∀ p ∈ cs, K.lookup p.2 = none) (codes : ∀ p ∈ cs, PySem.W.CodeHd s.heap p.1 p.2) (all : ∀ p ∈ lawTabs, p.1 ∈ cs.map (·.2))
    (bmain : ∃ (bm : Addr) (ob : Obj), mg "__builtins__" = some (.ref bm) ∧ bm ≠ builtinsNs ∧ s.heap.get? bm = some ob ∧ ob.cls = .type "module" ∧ ob.dict = some builtinsNs ∧ ob.data = .plain)
    (ha : s.heap.get? a = some { cls := .type "list", data := .seq vs.toArray }) (hi : IntsAre vs ns) (hl : ns.length ≤ sizeLine) (hr : Room k callerA)
    (F : ∀ base : Heap, K.In base → base.Ns mainGlobals mg → (∀ p ∈ cs, LamX.TabB base mg p.1 p.2) → FnG P w K mg base CX0 k fa fd [x] (spW K .S 1 g)) (hbind : ∀ (s : Shared) (u : Value), BindsTo s fd ⟨[u], []⟩ [(x, u)])
    (hg : g [.list (ns.map PyData.int)] fun d => d = .bool true) (mo : MonoF g) :
    codeAny (model P w) callerA (.call (.ref fa) ⟨[.ref a], []⟩) (fun r s' => r = .ok (.ret (.bool true)) ∧ OldK s.heap s'.heap ∧ s'.os = s.os ∧ AllBare s'.gens) s := by
  have rv := vals_ints hi
  have rints : ∀ (K : PySem.W.Frag) (H : Hp) (M Pt : Addr → Prop) (ns : List Int), RpA K H M Pt (ns.map PyData.int) (ns.map V.int) := fun K H M Pt ns => by
    induction ns with
    | nil => rfl
    | cons n r ih => exact ⟨_, _, rfl, rfl, ih⟩
  have atT : ∀ {b : Addr}, b ∈ cs.map (·.2) → s.heap.get? b = some (PySem.W.tabObj #[]) := fun hb => by
    obtain ⟨p, hp, e⟩ := List.mem_map.mp hb
    exact e ▸ tabE p hp
  have aNot : a ∉ cs.map (·.2) := fun z => by
    have e := ha.symm.trans (atT z)
    exact nomatch congrArg (fun o : Option Obj => o.map (·.data)) e
  have main : ∀ HS : Hp, (∀ b u, HS b = some u → b = a ∧ ∃ o xs, u = .frz o (.lst xs)) → LAt K HS S0 S0 a (ns.map V.int) → HOk P w HS s.heap → (HS a ≠ none → K.lookup a = none) →
      codeAny (model P w) callerA (.call (.ref fa) ⟨[.ref a], []⟩) (fun r s' => r = .ok (.ret (.bool true)) ∧ OldK s.heap s'.heap ∧ s'.os = s.os ∧ AllBare s'.gens) s := by
    intro HS hA hS hok hK
    obtain ⟨H, hH⟩ : ∃ H : Hp, H = fun b => if b ∈ cs.map (·.2) then some (.tbl #[]) else HS b := ⟨_, rfl⟩
    have inT : ∀ {b : Addr}, b ∈ cs.map (·.2) → H b = some (.tbl #[]) := fun h => by rw [hH]; exact if_pos h
    have outT : ∀ {b : Addr}, b ∉ cs.map (·.2) → H b = HS b := fun h => by rw [hH]; exact if_neg h
    have ext : ∀ b u, HS b = some u → H b = some u := fun b u e => by
      rw [outT (by rw [(hA b u e).1]; exact aNot)]
      exact e
    have hokH : HOk P w H s.heap := fun b u e => by
      by_cases h : b ∈ cs.map (·.2)
      · rw [inT h] at e
        cases e
        exact atT h
      · rw [outT h] at e
        exact (hok b u e).stay (fun _ _ _ q => q) (fun c q => ext c _ q) fun c _ q => ext c _ q
    -- what is neither the script nor a table is not known
    have bare : ∀ {b : Addr} {o : Obj}, s.heap.get? b = some o → o.data ≠ .fields #[] → (∀ us n, o.data ≠ .seq us n) → H b = none := fun {b o} e d1 d2 => by
      by_cases h : b ∈ cs.map (·.2)
      · rw [atT h] at e
        cases e
        exact absurd rfl d1
      · rw [outT h]
        cases q : HS b with
        | none => rfl
        | some u =>
          rw [(hA b u q).1, ha] at e
          cases e
          exact absurd rfl (d2 _ _)
    have low : ∀ {b : Addr} {o : Obj}, s.heap.get? b = some o → H b = none → (hidT s.heap H).get? b = some o := fun e n => hidT_get e n
    have dicts : ∀ {b : Addr} {m : Str → Option Value}, s.heap.Ns b m → (hidT s.heap H).Ns b m := fun {b m} ⟨o, es, ep, e, d, r⟩ => ⟨o, es, ep, low e (bare e (by rw [d]; exact fun z => nomatch z) (by rw [d]; exact fun _ _ z => nomatch z)), d, r⟩
    have hKb : K.In (hidT s.heap H) := fun b o e => low (KX b o e) (by
      by_cases h : b ∈ cs.map (·.2)
      · obtain ⟨p, hp, rfl⟩ := List.mem_map.mp h
        rw [tabK p hp] at e
        cases e
      · rw [outT h]
        cases q : HS b with
        | none => rfl
        | some u =>
          have eb := (hA b u q).1
          rw [eb] at e q
          rw [hK (by rw [q]; exact fun z => nomatch z)] at e
          cases e)
    obtain ⟨mc, l1, l2⟩ := hlim
    have hM : Mod K mg (hidT s.heap H) := ⟨hKb, dicts hns, ⟨mb, dicts hb, hbb⟩, mc, dicts l1, l2⟩
    have hTB : ∀ p ∈ cs, LamX.TabB (hidT s.heap H) mg p.1 p.2 := fun p hp => by
      refine ⟨?_, ?_, fun z => ?_⟩
      · obtain ⟨o, us, v1, v2, v3, v4, v5, v6, v7, e, q1, q2, q3, q⟩ := codes p hp
        refine ⟨o, us, v1, v2, v3, v4, v5, v6, v7, low e (bare e (fun z => ?_) fun _ _ z => ?_), q1, q2, q3, q⟩
        · rw [q2] at z
          have z := Data.fields.inj z
          rw [z] at q3
          exact nomatch q3
        · rw [q2] at z
          exact nomatch z
      · obtain ⟨bm, ob, b1, b2, b3, b4, b5, b6⟩ := bmain
        refine ⟨bm, ob, b1, b2, fun z => ?_, fun z => ?_, low b3 (bare b3 (by rw [b6]; exact fun z => nomatch z) (by rw [b6]; exact fun _ _ z => nomatch z)), b4, b5, b6⟩
        · obtain ⟨o, es, ep, e, d, _⟩ := hns
          rw [z, e] at b3
          rw [Option.some.inj b3, b6] at d
          exact nomatch d
        · rw [z, tabE p hp] at b3
          rw [← Option.some.inj b3] at b6
          exact nomatch b6
      · obtain ⟨o, es, ep, e, d, _⟩ := hns
        rw [z, tabE p hp] at e
        rw [← Option.some.inj e] at d
        exact nomatch d
    have e0 : Env0 P w K mg (hidT s.heap H) callerA [] s H := ⟨rfl, hM, fun b o e => of_hidT e, Nat.le_of_eq (hidT_size _ _), trivial, fun b hb => (nomatch (show b ∈ ([] : List Addr) from hb)), hokH, .of_eq hgen⟩
    have tabs : LamX.Tabs lawTabs H := fun p hp => .nil (inT (all p hp))
    have hSH : LAt K H S0 S0 a (ns.map V.int) := (Step.ext ext).l _ _ hS
    have hsp : spW K .S 1 g [.ref a] H (fun v _ => v = .bl true) fun _ _ _ => False := by
      refine ⟨S0, S0, [.list (ns.map PyData.int)], fun _ z => z.elim, ⟨fun _ z => z.elim, tabs⟩, ⟨_, _, rfl, ⟨a, _, rfl, hSH, rints K H S0 S0 ns⟩, rfl⟩, rfl, mo _ _ _ (fun d e v P' H' _ r => ?_) hg⟩
      subst e
      exact r
    refine codeAny_mono ((F _ hKb (dicts hns) hTB).run callerA [] s H ⟨[.ref a], []⟩ [.ref a] [.ref a] _ _ hr rfl e0 (hbind s (.ref a)) (.cons rfl .nil) hsp) fun r s' h => ?_
    cases r with
    | error e => exact h.elim
    | ok fl =>
      cases fl with
      | next => exact False.elim h
      | brk => exact False.elim h
      | cont => exact False.elim h
      | ret u =>
        obtain ⟨v, H', os, ba, un, hok', r', q⟩ := h
        have q' : v = .bl true := q
        subst q'
        obtain rfl : u = Value.bool true := r'
        have old : ∀ b o, b ∉ cs.map (·.2) → s.heap.get? b = some o → s'.heap.get? b = some o := fun b o nb e => by
          cases z : HS b with
          | none => exact un.keep b o e (by rw [outT nb]; exact z) (fun z => nomatch (show b ∈ ([] : List Addr) from z)) fun z => nomatch z
          | some u =>
            obtain ⟨_, ob, xs, rfl⟩ := hA b u z
            have e1 := (hok b _ z).1
            have e2 := (hok' b _ (un.frzs b ob _ (ext b _ z))).1
            exact e2.trans (e1.symm.trans e)
        have tab : ∀ {b : Addr}, b ∈ cs.map (·.2) → ∃ more, s'.heap.get? b = some (PySem.W.tabObj more) := fun h => by
          obtain ⟨more, z⟩ := un.tbls _ #[] (inT h)
          exact ⟨_, hok' _ _ z⟩
        refine ⟨rfl, ⟨fun b o e => ?_, fun b o e => ?_⟩, os, ba⟩
        · by_cases h : b ∈ cs.map (·.2)
          · obtain ⟨more, hm⟩ := tab h
            rw [atT h] at e
            obtain ⟨p, hp, rfl⟩ := List.mem_map.mp h
            cases e
            exact .inr (.inl ⟨((codes p hp).tab (tabE p hp)).isCodeTable, rfl, #[], more, rfl, by rw [Array.empty_append]; exact hm⟩)
          · exact .inl (old b o h e)
        · by_cases h : b ∈ cs.map (·.2)
          · obtain ⟨more, hm⟩ := tab h
            exact ⟨_, hm⟩
          · exact ⟨o, old b o h e⟩
  cases hk : K.lookup a with
  | some o =>
    have e := KX a o hk
    rw [ha] at e
    cases e
    exact main (fun _ => none) (fun b u z => nomatch z) (.inr (.inr ⟨_, vs.toArray, _, hk, rfl, rfl, rfl, by rw [List.size_toArray, hi.length]; exact hl, by simpa using rv⟩)) (fun b u z => nomatch (show (none : Option HO) = some u from z)) fun z => absurd rfl z
  | none =>
    have at_ : ∀ b u, scriptH a { cls := .type "list", data := .seq vs.toArray } (ns.map V.int) b = some u → b = a ∧ u = .frz { cls := .type "list", data := .seq vs.toArray } (.lst (ns.map V.int)) := fun b u z => by
      unfold scriptH at z
      split at z
      · rename_i h
        cases z
        exact ⟨h, rfl⟩
      · cases z
    refine main (scriptH a { cls := .type "list", data := .seq vs.toArray } (ns.map V.int)) (fun b u z => ?_) (.inr (.inl ⟨_, if_pos rfl⟩)) (fun b u z => ?_) fun _ => hk
    · obtain ⟨e1, e2⟩ := at_ b u z
      exact ⟨e1, _, _, e2⟩
    · obtain ⟨rfl, rfl⟩ := at_ b u z
      exact ⟨ha, by rw [List.length_map]; exact hl, vs, _, rv, ha⟩
/-- the goal that k_head leaves, tables with it -/
theorem walk_ofT {l : PySem.W.OpenLaw} {k : Nat} {q : Program} {loose : List Str} {XP : (Str → Option Value) → Heap → Prop} {YP : World → Heap → Prop} {d : DefRec} {K : Params → PySem.W.Frag} {g : Fn} {x : Str}
    (hn : l.most = some 63) (hdf : d.params.defaults = []) (hr : Room k callerA) (hY : ∀ (w : World) (h : Heap), YP w h → (K w.params).In h) (hT : ∀ (w : World) (h : Heap), YP w h → ∀ p ∈ lawTabs, h.get? p.1 = some (PySem.W.tabObj #[]))
    (F : ∀ (w : World) (mg : Str → Option Value) (fa : Addr) (h : Heap), (K w.params).In h → h.Ns mainGlobals mg → mg d.name = some (.ref fa) →
      ∃ (fd : FuncData) (cs : List (Addr × Addr)), cs.map (·.2) = lawTabs.map (·.1) ∧ (∀ p ∈ cs, (K w.params).lookup p.2 = none) ∧ (∀ p ∈ cs, PySem.W.codeHdIn (K w.params) p.1 p.2 = true) ∧ (∀ (s : Shared) (u : Value), BindsTo s fd ⟨[u], []⟩ [(x, u)]) ∧
        ∀ base : Heap, (K w.params).In base → base.Ns mainGlobals mg → (∀ p ∈ cs, LamX.TabB base mg p.1 p.2) → FnG l.prog w (K w.params) mg base CX0 k fa fd [x] (spW (K w.params) .S 1 g))
    (mo : MonoF g) (hg : ∀ ns : List Int, ns.length ≤ 63 → g [.list (ns.map PyData.int)] fun d => d = .bool true) :
    PySem.W.WalkO q loose XP YP l.row.toRowW d [] (fun f vs => PySem.call f vs) := by
  refine Att.attach_call hn hdf fun w s₀ s₁ mg mb fa o pm cd doc a vs ns G Y ho hd hcd hmg hobj hints hlen hgen => ?_
  have KX := hY w _ Y
  obtain ⟨fd, cs, ec, nT, C, hb, hF⟩ := F w mg fa _ KX G.T.g hmg
  have hE : ∀ p ∈ cs, s₁.heap.get? p.2 = some (PySem.W.tabObj #[]) := fun p hp => by
    have : p.2 ∈ lawTabs.map (·.1) := ec ▸ List.mem_map.mpr ⟨p, hp, rfl⟩
    obtain ⟨t, ht, e⟩ := List.mem_map.mp this
    exact e ▸ hT w _ Y t ht
  exact law_goT KX G.T.g G.T.b G.T.builtins G.T.nolimit hgen hE nT (fun p hp => PySem.W.codeHd_of_K KX (C p hp)) (fun p hp => ec ▸ List.mem_map.mpr ⟨p, hp, rfl⟩) G.T.bmain hobj hints (Nat.le_trans hlen (by decide)) hr hF hb (hg ns hlen) mo
end WL

/-! W47: enumerate, range with a step, list(range(..)), x, y = list(..), []. -/
namespace EN
open PySem PySem.Spec PyProof.Rows L2
/-- a list walked with its numbers, in pairs that are told exactly -/
def ItE (K : PySem.W.Frag) (a : Addr) : It where
  go := fun i H => ∃ (xs : List V) (x : V), SqL K H a xs ∧ xs[i]? = some x
  yld := fun i H v H' => ∃ (T : Addr) (us : List Value) (x : V), v = .ref T ∧ H T = none ∧ H' = upd H T (.frz (WL.tupO us) (.tup [.int (i : Nat), x])) ∧ ∀ xs, SqL K H a xs → xs[i]? = some x
  stop := fun i H => ∃ xs : List V, SqL K H a xs ∧ xs.length ≤ i
theorem turn_E {P : Program} {w : World} {K : PySem.W.Frag} {elts : List Expr} {kk : Nat} {tpos : Pos} (a e it : Addr) :
    Turn P w K (.Tuple elts kk tpos) (ItE K a) [e, it] e (fun i h => (∃ old, IsEnum h e it ((i : Nat) : Int) old) ∧ h.IsListIter it a i ∧ e ≠ it) where
  mem := .head _
  obj := fun i h st b hb => by
    obtain ⟨⟨old, g⟩, ⟨o, g2, _, d2⟩, _⟩ := st
    rcases List.mem_cons.mp hb with rfl | hb
    · exact ⟨_, g, fun v z => (nomatch z)⟩
    · rcases List.mem_singleton.mp hb with rfl
      exact ⟨o, g2, fun v z => by rw [d2] at z; exact nomatch z⟩
  keep := fun i h h' ⟨⟨old, g⟩, g2, ne⟩ k => ⟨⟨old, k e (.head _) _ g⟩, g2.at fun o q => k it (.tail _ (.head _)) o q, ne⟩
  item := by
    intro X hP hw hK hc i pins s σ H E I hf ⟨⟨old, g⟩, g2, ne⟩ ⟨xs, x, hq, hx⟩
    subst hP hw hK
    obtain ⟨its, rv, p, _⟩ := I.list hq
    obtain ⟨u, hu, ru⟩ := rv.get hx
    have l1 : e < s.heap.objs.size := Heap.lt_size g
    have l2 : it < s.heap.objs.size := by
      obtain ⟨_, q, _⟩ := g2
      exact Heap.lt_size q
    refine wpAny_pyNext_enum_item g g2 p.isList (x := u) (by simpa using hu) ne fun m gm g2m pr _ kp => ?_
    refine ⟨_, rfl, wpAny_letOwnedTupleGo_enum (s := { s with heap := m, toks := s.toks + 1 }) gm fun m2 gm2 sb => ?_⟩
    have pr2 : m2.get? s.heap.objs.size = some (WL.tupO [.int i s.toks, u]) := (sb.2 _ (Nat.ne_of_gt l1)).trans pr
    have J : Inv X pins σ (upd H s.heap.objs.size (.frz (WL.tupO [.int i s.toks, u]) (.tup [.int (i : Nat), x]))) { s with heap := m2, toks := s.toks + 1 } :=
      I.turnedNew (ch := [e, it]) (fun b ob nb q => (sb.2 b fun z => nb (z ▸ .head _)).trans (kp b ob (fun z => nb (z ▸ .head _)) (fun z => nb (z ▸ .tail _ (.head _))) q)) hf (Nat.le_refl _) (WL.tupO_ok (.cons ⟨_, rfl⟩ (.cons ru .nil)) (show 2 ≤ sizeLine by decide) pr2)
    refine ⟨.ref s.heap.objs.size, _, J, rfl, ⟨_, _, x, rfl, I.hok.fresh (Nat.le_refl _), rfl, fun ys hy => by rw [I.list_inj hy hq]; exact hx⟩, ⟨⟨u, ?_⟩, g2m.at fun o q => (sb.2 it ne.symm).trans q, ne⟩, fun b hb => ?_⟩
    · have e1 : ((i + 1 : Nat) : Int) = (i : Int) + 1 := by omega
      rw [e1]
      exact gm2
    · have lt : b < s.heap.objs.size := by
        rcases List.mem_cons.mp hb with rfl | hb
        · exact l1
        · rcases List.mem_singleton.mp hb with rfl
          exact l2
      rw [upd_ne (Nat.ne_of_lt lt)]
      exact (hf b hb).1
  done := by
    intro X hP hw hK hc i pins s σ H E I hf ⟨⟨old, g⟩, g2, ne⟩ ⟨xs, hq, hx⟩
    subst hP hw hK
    obtain ⟨its, rv, p, _⟩ := I.list hq
    obtain ⟨f0, f1, f2, f3, f4, f5⟩ := hf it (.tail _ (.head _))
    have hl := rv.length
    exact wpAny_pyNext_enum_end (I.ok.hd hc) g g2 p.isList (by simp; omega) fun m kp => ⟨rfl, I.turned (t' := s.toks) (fun b o nb q => kp b o nb q) f0 f1 f3 f4 f5⟩
  self := fun A i s Q E ⟨⟨_, g⟩, _⟩ h => wpAny_pyIter_enum g h
theorem pi_E {X : Cx} {e : Expr} {ta : TA} {p pos tpos : Pos} {elts : List Expr} {kk : Nat} (hg : Gl X "enumerate") (hm : X.mg "enumerate" = none) (ha : PA X [e] ta) (hs : starEach [e] X.env = [(false, eval e X.env)] := by rfl) :
    PI X (.Tuple elts kk tpos) (.Call (.Name "enumerate" p) [e] [] pos) (fun σ H R => ta σ H fun vs H1 => ∃ a xs, vs = [.ref a] ∧ SqL X.K H1 a xs ∧ R (ItE X.K a) H1) := by
  refine ⟨fun pins s σ H R I h => Call_ (ld_blt I hg hm boot_enumerate (PyProof.Rows.callWith_type1 (thn (ha.run pos pins s σ H _ I h) fun us s1 ⟨vs, H1, I1, r1, a, xs, ex, hq, q⟩ => ?_) hs rfl))⟩
  subst ex
  rw [Vals.ref1 r1]
  obtain ⟨its, _, p', _⟩ := I1.list hq
  refine call_enumerate_list p'.isList fun m g g2 _ kp => wpAny_pyIter_enum g ?_
  refine ⟨s1.heap.objs.size + 1, [s1.heap.objs.size + 1, s1.heap.objs.size], _, _, H1, rfl, I1.kept (t' := s1.toks) kp, turn_E a (s1.heap.objs.size + 1) s1.heap.objs.size, ⟨⟨.none, g⟩, g2, Nat.succ_ne_self _⟩, fun b hb => ?_, q⟩
  have le : s1.heap.objs.size ≤ b := by
    rcases List.mem_cons.mp hb with rfl | hb
    · exact Nat.le_succ _
    · rcases List.mem_singleton.mp hb with rfl
      exact Nat.le_refl _
  exact I1.fpOk le (I1.hok.fresh le)
end EN
namespace WL
open PySem PySem.Spec PyProof.Rows L2
/-- the items with their numbers -/
def enumL (ds : List PyData) : List PyData := ds.zipIdx.map fun p => .tuple [.int (p.2 : Nat), p.1]
theorem enumL_len {ds : List PyData} : (enumL ds).length = ds.length := by simp [enumL]
theorem enumL_get {ds : List PyData} {i : Nat} {d : PyData} (h : (enumL ds)[i]? = some d) : ∃ x, d = .tuple [.int (i : Nat), x] ∧ ds[i]? = some x := by
  unfold enumL at h
  rw [List.getElem?_map, List.getElem?_zipIdx] at h
  cases e : ds[i]? with
  | none => rw [e] at h; cases h
  | some x =>
    rw [e] at h
    cases h
    exact ⟨x, by simp, rfl⟩
theorem itOk_enum {K : PySem.W.Frag} {M P : Addr → Prop} {H : Hp} {a : Addr} {vs : List V} {ds : List PyData} (l : LAt K H M P a vs) (r : RpA K H M P ds vs) : ItOk K (EN.ItE K a) (enumL ds) M P H := by
  intro S P1 H1 f hs
  have l1 := f.lAt hs l
  have r1 := r.avoidAll.fut f fun c z => .inl (hs c z)
  refine ⟨fun i hi => ?_, ⟨vs, l1.sq, by rw [enumL_len, r.len]; exact Nat.le_refl _⟩, fun i x H' d e y => ?_⟩
  · rw [enumL_len] at hi
    obtain ⟨v, e, _⟩ := r.get (i := i) (d := ds[i]) (by rw [List.getElem?_eq_getElem hi])
    exact ⟨vs, v, l1.sq, e⟩
  · obtain ⟨T, us, x, rfl, hT, rfl, hx⟩ := y
    obtain ⟨dx, rfl, e1⟩ := enumL_get e
    obtain ⟨v, g1, q1⟩ := r1.get e1
    have := hx vs l1.sq
    rw [g1] at this
    cases this
    have f2 : Fut S0 P1 H1 P1 (upd H1 T (.frz (tupO us) (.tup [.int (i : Nat), x]))) := .new f.ok' hT
    exact ⟨f2, T, [.int (i : Nat), x], rfl, .inl ⟨us, upd_same⟩, .int (i : Nat), [x], rfl, rfl, x, [], rfl, q1.fut0 f2, rfl⟩
def wEnum (g : Ev → W PyData) : Ev → W (List PyData) := fun ρ Q => g ρ fun d => ∃ ds, d = .list ds ∧ ds.length ≤ sizeLine ∧ Q (enumL ds)
section
variable {X : Cx} {tg e a b c : Expr} {g ga gb gc : Ev → W PyData} {p p2 pos tpos : Pos} {elts : List Expr} {kk : Nat}
theorem ei_enum (hg : Gl X "enumerate") (hm : X.mg "enumerate" = none) (h : EW X .S e g) (hs : starEach [e] X.env = [(false, eval e X.env)] := by rfl) : EI X (.Tuple elts kk tpos) (.Call (.Name "enumerate" p) [e] [] pos) (wEnum g) :=
  ⟨fun ρ _ _ i q => h.mono ρ _ _ (fun d ⟨ds, e, z, q⟩ => ⟨ds, e, z, i _ q⟩) q, (EN.pi_E hg hm (pa_cons h.pe pa_nil (by rw [hs] <;> rfl)) hs).imp fun σ H Q ⟨B, P, ρ, R, q⟩ => ⟨B, P, ρ, R, h.mono ρ _ _ (fun d ⟨ds, e, z, q⟩ v P1 H1 f1 r1 => by
    subst e
    obtain ⟨a, vs, rfl, l, r⟩ := r1
    exact ⟨a, vs, rfl, l.sq, q _ P1 H1 f1 (itOk_enum l r) (by rw [enumL_len]; exact z)⟩) q⟩⟩
end
end WL

/-! W48: list(range(..)), range with a step, x, y = list(..), []. -/
namespace WL
open PySem PySem.Spec PyProof.Rows L2
section
variable {X : Cx} {m : Md} {tg e a b c : Expr} {g ga gb gc : Ev → W PyData} {gs : Ev → W (List PyData)} {p p2 pos tpos : Pos} {elts : List Expr} {kk : Nat}
/-! ### list(range(n)) -/
def wLRg (g : Ev → W PyData) : Ev → W PyData := fun ρ Q => g ρ fun d => ∃ n : Nat, d = .int (n : Int) ∧ n ≤ 10000 ∧ Q (.list (rangeL 0 n))
theorem ew_lrg (hg : Gl X "list") (hm : X.mg "list" = none) (hg2 : Gl X "range") (hm2 : X.mg "range" = none) (h : EW X .S a g) (hc : X.calm = true := by rfl) (na : starEach [.Call (.Name "range" p2) [a] [] pos] X.env = (false, eval (.Call (.Name "range" p2) [a] [] pos) X.env) :: starEach [] X.env := by rfl)
    (na2 : starEach [a] X.env = (false, eval a X.env) :: starEach [] X.env := by rfl) : EW X .F (.Call (.Name "list" p) [.Call (.Name "range" p2) [a] [] pos] [] tpos) (wLRg g) :=
  ⟨fun ρ _ _ i q => h.mono ρ _ _ (fun d ⟨n, e, z, q⟩ => ⟨n, e, z, i _ q⟩) q, (pe_listRg hc hg hm (prg_1 hg2 hm2 h.pe na2) na).imp fun σ H Q ⟨B, P, ρ, R, q⟩ => ⟨B, P, ρ, R, h.mono ρ _ _ (fun d ⟨n, e, z, q⟩ v P1 H1 f1 r1 => by
    subst e
    obtain rfl : v = .int (n : Int) := r1
    refine ⟨_, rfl, ⟨by omega, by omega, by omega, by omega, by omega⟩, fun p hp => ?_⟩
    have f2 : Fut S0 P1 H1 P1 (upd H1 p (.lst (rgV 0 n))) := .new f1.ok' hp
    refine q (.ref p) P1 _ (f1.trans0 f2) ⟨_, p, rgV 0 n, rfl, rfl, f1.none_of hp, upd_same, fun z => ?_, ?_⟩
    · obtain ⟨x, y, e, _⟩ := f1.ok'.1 p z
      rw [hp] at e
      cases e
    · have go : ∀ l : List Nat, RpA X.K (upd H1 p (.lst (rgV 0 n))) (fun a => Mo B ρ σ a ∨ a = p) P1 (l.map fun i : Nat => PyData.int (0 + (i : Int))) (l.map fun i : Nat => V.int (0 + (i : Nat))) := fun l => by
        induction l with
        | nil => rfl
        | cons i l ih => exact ⟨_, _, rfl, rfl, ih⟩
      have e : (((n : Int) - 0).toNat) = n := by omega
      unfold rgV rangeL
      rw [e]
      exact go (List.range n)) q⟩⟩
/-! ### range(i, j, c) -/
/-- the numbers i, i + c, .. -/
def stepL (i c : Int) (n : Nat) : List PyData := (List.range n).map fun k : Nat => .int (i + (k : Nat) * c)
def wRange3 (gs : Ev → W (List PyData)) : Ev → W (List PyData) := fun ρ Q => gs ρ fun ds => ∃ (i j c : Int) (n : Nat), ds = [.int i, .int j, .int c] ∧ RgC i j c n ∧ n ≤ sizeLine ∧ Q (stepL i c n)
theorem itOk_step {K : PySem.W.Frag} {M P : Addr → Prop} {H : Hp} {i c : Int} {n : Nat} : ItOk K (Itc i c n) (stepL i c n) M P H := by
  intro S P1 H1 f hs
  have hl : (stepL i c n).length = n := by unfold stepL; rw [List.length_map, List.length_range]
  refine ⟨fun k hk => by rw [hl] at hk; exact hk, by rw [hl]; exact Nat.le_refl n, fun k x H' d e y => ?_⟩
  obtain ⟨rfl, rfl⟩ := y
  unfold stepL at e
  rw [List.getElem?_map] at e
  by_cases hk : k < n
  · rw [List.getElem?_range hk] at e
    cases e
    exact ⟨.refl f.ok', rfl⟩
  · rw [List.getElem?_eq_none (by rw [List.length_range]; omega)] at e
    cases e
theorem ei_range3 (hg : Gl X "range") (hm : X.mg "range" = none) (ha : EA X [a, b, c] gs) (hs : starEach [a, b, c] X.env = (false, eval a X.env) :: starEach [b, c] X.env := by rfl) (hpl : (backTo pos (starEach [b, c] X.env)).any (·.1) = false := by rfl) : EI X tg (.Call (.Name "range" p) [a, b, c] [] pos) (wRange3 gs) :=
  ⟨fun ρ _ _ i q => ha.mono ρ _ _ (fun _ ⟨i1, j, c, n, e, z, z2, q⟩ => ⟨i1, j, c, n, e, z, z2, i _ q⟩) q, (pi_range3 hg hm ha.pa hs hpl).imp fun σ H Q ⟨B, P, ρ, R, q⟩ => ⟨B, P, ρ, R, ha.mono ρ _ _ (fun ds ⟨i, j, c, n, e, z, z2, q⟩ vs P1 H1 f1 r1 => by
    subst e
    obtain ⟨v1, us, rfl, q1, v2, us, rfl, q2, v3, us, rfl, q3, rfl⟩ := r1
    obtain rfl : v1 = .int i := q1
    obtain rfl : v2 = .int j := q2
    obtain rfl : v3 = .int c := q3
    exact ⟨i, j, c, n, rfl, z, q _ P1 H1 f1 itOk_step (by unfold stepL; rw [List.length_map, List.length_range]; exact z2)⟩) q⟩⟩
/-! ### x, y = list(..), [] -/
def wParF0 (i j : Nat) (g : Ev → W PyData) : Ev → W Rs := fun ρ Q => g ρ fun d => ∃ ds, d = .list ds ∧ i < ρ.length ∧ j < ρ.length ∧ Q (.nx ((ρ.set i (.ow ds)).set j (.ow [])))
theorem es_parF0 {i j : Nat} {x y : Str} {px py pt : Pos} {kt k2 pt2 pl} (ha : EW X .F a g)
    (hp : ∀ {ta : TA}, PA X [a, .List [] pl] ta → PS X (.Assign [.Tuple [.Name x px, .Name y py] kt pt] (.Tuple [a, .List [] pl] k2 pt2) pos) (tPar i j ta))
    (hs : starEach [a, .List [] pl] X.env = (false, eval a X.env) :: starEach [.List [] pl] X.env := by rfl) (hs2 : starEach [.List [] pl] X.env = (false, eval (.List [] pl) X.env) :: starEach [] X.env := by rfl) :
    ESt X m (.Assign [.Tuple [.Name x px, .Name y py] kt pt] (.Tuple [a, .List [] pl] k2 pt2) pos) (wParF0 i j g) :=
  ⟨fun ρ _ _ i q => ha.mono ρ _ _ (fun _ ⟨ds, e, h1, h2, q⟩ => ⟨ds, e, h1, h2, i _ q⟩) q, (hp (pa_cons ha.pe (pa_cons (ew_lst (X := X) (pos := pl) ea_nil).pe pa_nil hs2) hs)).imp fun D σ H ⟨B, P, ρ, R, q⟩ => ⟨B, P, ρ, R, ha.mono ρ _ _ (fun d ⟨ds, e, h1, h2, q⟩ v1 P1 H1 f1 r1 => by
    subst e
    obtain ⟨ds', p1, us, e1, rfl, n1, l1, np1, ra⟩ := r1
    cases e1
    refine ⟨B, P1, ρ, R.fut f1, Nat.zero_le _, fun v2 P2 H2 f2 r2 => ?_⟩
    obtain ⟨ds2, p2, us2, e2, rfl, n2, l2, np2, rb⟩ := r2
    cases e2
    have R1 := R.setF h1 f1 n1 l1 np1 ra
    have R2 := R1.setF (i := j) (ds := []) (by rw [List.length_set]; exact h2) f2 n2 l2 np2 rb
    have gr : Gr ρ σ P H ((ρ.set i (.ow ds)).set j (.ow [])) ((σ.set i (some (.ref p1))).set j (some (.ref p2))) P2 H2 := ⟨(f1.trans0 f2).own R, fun a h => by
      rcases own_setF h with h | h
      · rcases own_setF h with h | h
        · exact .inl h
        · exact .inr (by rw [h]; exact n1)
      · exact .inr (by rw [h]; exact f1.none_of n2)⟩
    exact ⟨_, _, rfl, q _ P2 H2 gr R2⟩) q⟩⟩
end
end WL

/-! W49: sorted(set(xs)), xs a list of ints. -/
namespace SL
open PySem PySem.Spec PyProof.Rows L2
/-- an empty set, new -/
abbrev newSet (w : World) : Obj := { cls := .type "set", dict := none, data := .set #[] 0 (.fresh 0 0 (!w.params.followText "set-order")) }
section
variable {P : Program} {w : World} {A : Around} {E : Value → Shared → Prop} {s : Shared}
set_option maxHeartbeats 3200000 in
/-- set(xs) -/
theorem set_ints {l : Addr} {its : Array Value} (ns : List Int) {Q : Value → Shared → Prop} (nh : A.handled = none) (lst : s.heap.IsList l its) (itg : IntsAre its.toList ns) (few : ns.length + 1 < scanBound)
    (fin : ∀ (m : Heap) (tk c : Nat), SetR w m s.heap.objs.size (fun j => decide (j ∈ ns)) c → c ≤ ns.length → (∀ b o, s.heap.get? b = some o → m.get? b = some o) → Q (.ref s.heap.objs.size) { s with heap := m, toks := tk }) :
    wpAny (model P w) A (call (.type "set") [.ref l]) Q E s := by
  have size : its.size = ns.length := by
    have := IntsAre.length itg
    rwa [Array.length_toList] at this
  obtain ⟨c, tl, e1⟩ := F.called_set.mro
  have e2 := F.called_set.made
  have e3 := F.called_set.sub
  refine wpAny_call (codeAny_of_tree (show wpAny _ _ (callAny (.type "set") _) _ _ _ from ?_))
  refine wpAny_pure (And.intro (Code.quiet_builtin _ (by decide +kernel)) (codeAny_builtin F.entry_type_call ?_))
  rw [Around.under_plain (weight_type_call_type "set" [.ref l] []) rfl]
  have e4 := F.called_set.notType
  have e5 := F.called_set.canCreate
  have e6 := F.typeCall_set_1 (.ref l)
  repeat (any_goals (first | assumption | wp_step))

  refine codeAny_mono (code_set_led1 (.ref l) (E := E) (Q₁ := fun v t => v = .ref s.heap.objs.size ∧ t = { s with heap := s.heap.push (newSet w) }) (And.intro rfl rfl)) fun r t hr => ?_
  rcases r with e | fl
  · exact hr
  cases fl with
  | ret v =>
    obtain ⟨rfl, rfl⟩ := hr
    have there : (s.heap.push (newSet w)).get? s.heap.objs.size = some (newSet w) := Heap.get?_push_size _ rfl
    have ty : Shared.TypeIs { s with heap := s.heap.push (newSet w) } (.ref s.heap.objs.size) "set" := ⟨_, there, rfl⟩
    have e7 := F.called_set.init.lookup
    have e8 := F.called_set.init.bind (.ref s.heap.objs.size)
    repeat (any_goals (first | assumption | wp_step))

    refine codeAny_mono (codeAny_call_builtin (R := wants (fun r t => r = .none ∧ ∃ m tk c, t = { s with heap := m, toks := tk } ∧ SetR w m s.heap.objs.size (fun j => decide (j ∈ ns)) c ∧ c ≤ ns.length ∧ ∀ b o, s.heap.get? b = some o → m.get? b = some o) E)
      F.called_set.init.plain F.entry_set_init (check_set_init_1 ty ?_)) fun r2 t2 hr2 => ?_
    · obtain ⟨⟨lc, ld, lda, lsl⟩, ho, hc, nl, hd⟩ := lst
      obtain rfl : lc = _ := hc
      obtain rfl : lda = _ := hd
      have ho' : (s.heap.push (newSet w)).get? l = some { cls := .type "list", dict := ld, data := .seq its nl, slots := lsl } := Heap.get?_push_of_some _ ho
      have sub1 := F.sub_list_set
      have sub2 := F.sub_list_frozenset
      have nd : (Value.type "list" == Value.type "dict") = false := by decide
      have lst1 : (s.heap.push (newSet w)).IsList l its := ⟨_, ho', rfl, nl, rfl⟩
      unfold Builtin.«set.__init__» noKeywords Builtin.Frozenset.updateFrom
      generalize hPI : pyIter = PI
      wp_walk
      subst hPI

      refine wpAny_pyIter_list lst1 (wpAny_bind (wpAny_runValue ?_))
      have below : l < s.heap.objs.size := Heap.lt_size ho
      have sz1 : (s.heap.push (newSet w)).objs.size = s.heap.objs.size + 1 := Heap.size_push ..
      have ne1 : l ≠ (s.heap.push (newSet w)).objs.size := by
        rw [sz1]
        exact Nat.ne_of_lt (Nat.lt_succ_of_lt below)
      have out : s.heap.objs.size ∉ [(s.heap.push (newSet w)).objs.size, l] := by
        rw [sz1]
        simp only [List.mem_cons, List.not_mem_nil, or_false, not_or]
        exact ⟨Nat.ne_of_lt (Nat.lt_succ_self _), Nat.ne_of_gt below⟩
      have val : ∀ (i : Nat) (v : Value), its[i]? = some v → ∃ k t, ns[i]? = some k ∧ v = .int k t := fun i v hv => by
        have hi : i < ns.length := size ▸ (Array.getElem?_eq_some_iff.mp hv).1
        obtain ⟨t, e⟩ := PyProof.Rows.IntsAre.int_at itg i v (by rw [Array.getElem?_toList]; exact hv)
        exact ⟨ns[i], t, List.getElem?_eq_getElem hi, by rw [e, List.getD_eq_getElem?_getD, List.getElem?_eq_getElem hi] <;> rfl⟩
      refine set_update_ints ((Walks.list (by simp [nh] : A.in1.in1.in1.handled = none) _ l ne1 its).toS) s.heap.objs.size out ns size few val (its.size - 0) 0 _ (by omega) (Nat.zero_le _) ⟨⟨_, Heap.get?_push_size _ rfl, rfl, rfl⟩, lst1.push _⟩ ?start ?stop
      case start => exact ⟨0, Nat.le_refl 0, setR_new_at (Heap.get?_push_of_some _ there)⟩
      case stop =>
        intro t3 c3 mv hc3 hS3
        obtain ⟨m, g, d, tk, os⟩ := t3
        obtain rfl : g = s.gens := mv.gens
        obtain rfl : d = s.drawn := mv.drawn
        obtain rfl : os = s.os := mv.os
        refine (show wpAny _ _ _ _ _ _ from wpAny_pure ?_)
        rw [size] at hc3
        refine (show wpAny _ _ (ret Value.none) _ _ _ from wpAny_pure ⟨rfl, m, tk, c3, rfl, hS3, hc3, fun b o e => ?_⟩)
        have lb : b < s.heap.objs.size := Heap.lt_size e
        refine mv.heap b o ?_ (Heap.get?_push_of_some _ (Heap.get?_push_of_some _ e))
        simp only [List.mem_cons, List.not_mem_nil, or_false, not_or]
        exact ⟨Nat.ne_of_lt lb, by rw [sz1]; exact Nat.ne_of_lt (Nat.lt_succ_of_lt lb)⟩
    · rcases r2 with e | fl2
      · exact hr2
      cases fl2 with
      | ret r =>
        obtain ⟨rfl, m, tk, c3, rfl, hS3, hc3, kp⟩ := hr2
        repeat (any_goals (first | assumption | wp_step))
        exact fin _ _ _ hS3 hc3 kp
      | _ => exact hr2.elim
  | _ => exact hr.elim
end
end SL

/-! W50: sorted(set(xs)): the rule. -/
namespace WL
open PySem PySem.Spec PyProof.Rows L2
/-- sorted(set(xs)), the ints of a list, fewer than 64 -/
def wSortSet (g : Ev → W PyData) : Ev → W PyData := fun ρ Q => g ρ fun d => ∃ ns : List Int, d = .list (ns.map PyData.int) ∧ ns.length < 64 ∧ ∀ out : List Int, out.Pairwise (· < ·) → (∀ k, k ∈ out ↔ k ∈ ns) → Q (.list (out.map PyData.int))
theorem rel_ints {K : PySem.W.Frag} {H : Hp} {M P : Addr → Prop} : ∀ {ns : List Int} {vs : List V}, RpA K H M P (ns.map PyData.int) vs → vs = ns.map V.int
  | [], _, h => h
  | n :: ns, _, h => by
    obtain ⟨v, r, rfl, e, h2⟩ := h
    obtain rfl : v = .int n := e
    rw [rel_ints h2]
    rfl
theorem ints_rel {K : PySem.W.Frag} {H : Hp} {M P : Addr → Prop} : ∀ ns : List Int, RpA K H M P (ns.map PyData.int) (ns.map V.int)
  | [] => rfl
  | _ :: ns => ⟨_, _, rfl, rfl, ints_rel ns⟩
theorem RM.refI {K : PySem.W.Frag} {M P : Addr → Prop} {H0 H : Hp} {ns : List Int} {v : V} (h : RM .B K M H0 P H (.list (ns.map PyData.int)) v) : ∃ l, v = .ref l ∧ SqL K H l (ns.map V.int) := by
  obtain ⟨a, vs, rfl, l, r⟩ := h.lst
  exact ⟨a, rfl, rel_ints r ▸ l⟩
theorem ew_sortSet {X : Cx} {e : Expr} {g : Ev → W PyData} {p p2 q pos : Pos} (hg : Gl X "sorted") (hm : X.mg "sorted" = none) (hg2 : Gl X "set") (hm2 : X.mg "set" = none) (ha : EW X .B e g) (hc : X.calm = true := by rfl)
    (na : starEach [e] X.env = (false, eval e X.env) :: starEach [] X.env := by rfl) : EW X .F (.Call (.Name "sorted" p) [.Call (.Name "set" p2) [e] [] q] [] pos) (wSortSet g) := by
  refine ⟨fun ρ _ _ i q => ha.mono ρ _ _ (fun d ⟨ns, e, z, q⟩ => ⟨ns, e, z, fun out h h' => i _ (q out h h')⟩) q, ⟨fun pins s σ H Q I ⟨B, P, ρ, R, hq⟩ => ?_⟩⟩
  have t1 : tW X.K .B g σ H fun v H1 => ∃ (d : PyData) (P1 : Addr → Prop), Fut S0 P H P1 H1 ∧ RM .B X.K (Mo B ρ σ) H P1 H1 d v ∧ ∃ ns : List Int, d = .list (ns.map PyData.int) ∧ ns.length < 64 ∧ ∀ out : List Int, out.Pairwise (· < ·) → (∀ k, k ∈ out ↔ k ∈ ns) → ∀ v P' H', Fut S0 P H P' H' → RM .F X.K (Mo B ρ σ) H P' H' (.list (out.map PyData.int)) v → Q v H' :=
    ⟨B, P, ρ, R, ha.mono ρ _ _ (fun d q v P1 H1 f1 r1 => ⟨d, P1, f1, r1, q⟩) hq⟩
  refine Call_ (ld_blt I hg hm boot_sorted ?_)
  refine PyProof.Rows.callWith_builtin1 (PyProof.Rows.args_cons ?_ rfl) rfl rfl
  refine Call_ (ld_blt I hg2 hm2 boot_set ?_)
  refine PyProof.Rows.callWith_type1 (PyProof.Rows.args_cons (thn (ha.pe.run pins s σ H _ I t1) fun u s1 ⟨v, H1, I1, r1, d, P1, f1, rm, ns, ed, few, cont⟩ => PyProof.Rows.args_nil ?_) na) na rfl
  subst ed
  obtain ⟨l, rfl, hq⟩ := rm.refI
  cases r1
  obtain ⟨its, r, pl, hz⟩ := I1.list hq
  refine SL.set_ints ns (I1.ok.hd hc) pl.isList (by simpa using RZ.intsAre_vals r) (by unfold scanBound; omega) fun m tk c hS hcl kp => PyProof.Rows.args_nil ?_
  have I2 : Inv X pins σ H1 { s1 with heap := m, toks := tk } := I1.kept kp
  refine sorted_set hS (I1.ok.hd hc) (by omega) fun s' p out k zs kp2 g2 o2 hp hob hi hs hm2 hl => ?_
  have hn : H1 p = none := I2.hok.fresh hp
  have len : (zs.map V.int).length ≤ sizeLine := by
    have : (1000 : Nat) ≤ sizeLine := by decide
    rw [List.length_map]
    omega
  have J : Inv X pins σ (upd H1 p (.lst (zs.map V.int))) { ({ s1 with heap := m, toks := tk } : Shared) with heap := s'.heap, gens := s'.gens, drawn := s'.drawn, toks := s'.toks } := I2.call (h' := s'.heap) (g' := s'.gens) (d' := s'.drawn) (t' := s'.toks) (ch := []) (Un.laid kp2 hp hn) (I2.hok.laid kp2 hp ⟨len, out.toList, k, vals_of_ints hi, hob⟩) (by rw [g2]; exact I2.bare) fun _ z => (nomatch z)
  have es : s' = { ({ s1 with heap := m, toks := tk } : Shared) with heap := s'.heap, gens := s'.gens, drawn := s'.drawn, toks := s'.toks } := by
    cases s'
    obtain rfl := o2
    rfl
  rw [es]
  have f2 : Fut S0 P1 H1 P1 (upd H1 p (.lst (zs.map V.int))) := .new f1.ok' hn
  refine ⟨.ref p, _, J, rfl, cont zs hs (fun j => (hm2 j).trans decide_eq_true_iff) _ P1 _ (f1.trans0 f2) ⟨_, p, _, rfl, rfl, f1.none_of hn, upd_same, fun z => ?_, ints_rel zs⟩⟩
  have := f1.ok'.isS z
  rw [hn] at this
  cases this
end WL

/-! W51: steps through a denotation, each with the construct at the head of the goal. -/
namespace WL
open PySem PySem.Spec PyProof.Rows L2
/-- what goes on behind a statement -/
def kSeq (h : Ev → W Rs) (R : Rs → Prop) : Rs → Prop
  | .nx ρ => h ρ R
  | r => R r
/-- .. behind a turn of a loop -/
def kLoop (st : Set1) (g : Ev → W Rs) (ds : List PyData) (R : Rs → Prop) : Rs → Prop
  | .nx ρ => wLoop st g ds ρ R
  | .ct ρ => wLoop st g ds ρ R
  | .bk ρ => R (.nx ρ)
  | .rt d => R (.rt d)
section
variable {ρ : Ev} {Q : PyData → Prop} {K : Bool → Prop} {L : List PyData → Prop} {R : Rs → Prop} {O : Option Int → Prop}
variable {g ga gb gc : Ev → W PyData} {gs gk : Ev → W (List PyData)} {h h1 h2 : Ev → W Rs} {c ca cb : Ev → W Bool} {d : PyData} {i j k : Nat}
-- expressions
theorem i_C (q : Q d) : wC d ρ Q := q
theorem i_V (q : ∃ d, ρ[i]? = some (.sh d) ∧ Q d) : wV i ρ Q := q
theorem i_Vs (q : ∃ d, ρ[i]? = some (.sh d) ∧ Q d) : wVb i ρ Q := .inl q
theorem i_Vo (q : ∃ d, ρ[i]? = some (.ow d) ∧ Q (.list d)) : wVb i ρ Q := .inr q
theorem i_U {op : PyData → Option PyData} (q : g ρ fun x => ∃ d, op x = some d ∧ Q d) : wU op g ρ Q := q
theorem i_B {op : PyData → PyData → Option PyData} (q : ga ρ fun x => gb ρ fun y => ∃ d, op x y = some d ∧ Q d) : wB op ga gb ρ Q := q
theorem i_BL {op : PyData → PyData → Option PyData} (q : ga ρ fun x => (∃ ds, x = .list ds) ∧ gb ρ fun y => ∃ d, op x y = some d ∧ Q d) : wBL op ga gb ρ Q := q
theorem i_BT {op : PyData → PyData → Option PyData} (q : ga ρ fun x => (∃ ds, x = .tuple ds) ∧ gb ρ fun y => ∃ d, op x y = some d ∧ Q d) : wBT op ga gb ρ Q := q
theorem i_Nil (q : L []) : wNil ρ L := q
theorem i_Cons (q : g ρ fun d => gs ρ fun ds => L (d :: ds)) : wCons g gs ρ L := q
theorem i_Tup (q : gs ρ fun ds => ds.length ≤ sizeLine ∧ Q (.tuple ds)) : wTup gs ρ Q := q
theorem i_Lst (q : gs ρ fun ds => ds.length ≤ sizeLine ∧ Q (.list ds)) : wLst gs ρ Q := q
theorem i_No (q : O none) : wNo ρ O := q
theorem i_Part (q : g ρ fun d => ∃ i, d = .int i ∧ O (some i)) : wPart g ρ O := q
theorem i_Sl {gl gh : Ev → W (Option Int)} (q : g ρ fun d => gl ρ fun lo => gh ρ fun hi => ∃ e, cutD d lo hi = some e ∧ Q e) : wSl g gl gh ρ Q := q
theorem i_T (q : g ρ fun d => ∃ b, d = .bool b ∧ K b) : wT g ρ K := q
theorem i_Not (q : c ρ fun b => K (!b)) : wNot c ρ K := q
theorem i_And (q : ca ρ fun a => if a = true then cb ρ K else K false) : wAnd ca cb ρ K := q
theorem i_Or (q : ca ρ fun a => if a = true then K true else cb ρ K) : wOr ca cb ρ K := q
theorem i_AndV (q : ga ρ fun x => ∃ a, x = .bool a ∧ if a = true then gb ρ Q else Q (.bool false)) : wAndV ga gb ρ Q := q
theorem i_OrV (q : ga ρ fun x => ∃ a, x = .bool a ∧ if a = true then Q (.bool true) else gb ρ Q) : wOrV ga gb ρ Q := q
theorem i_NotV (q : g ρ fun x => ∃ a, x = .bool a ∧ Q (.bool (!a))) : wNotV g ρ Q := q
theorem i_IfE {α : Type} {x y : Ev → W α} {Z : α → Prop} (q : c ρ fun b => if b = true then x ρ Z else y ρ Z) : wIf c x y ρ Z := q
theorem i_Chain {r r' : PyData → PyData → Option PyData} (q : ga ρ fun x => gb ρ fun y => ∃ d b, r x y = some d ∧ d = .bool b ∧ if b = true then gc ρ fun z => ∃ e, r' y z = some e ∧ Q e else Q (.bool false)) : wChain r r' ga gb gc ρ Q := q
theorem i_Call {n : Nat} {f : Fn} (q : gs ρ fun ds => ds.length = n ∧ f ds Q) : wCall n f gs ρ Q := q
theorem i_CallD {n : Nat} {dds : List PyData} {f : Fn} (q : gs ρ fun ds => ds.length = n ∧ f (ds ++ dds) Q) : wCallD n dds f gs ρ Q := q
theorem i_CallK {np nk : Nat} {π : List Nat} {f : Fn} (q : gs ρ fun ds => gk ρ fun es => ds.length = np ∧ es.length = nk ∧ f (pick π (ds ++ es)) Q) : wCallK np nk π f gs gk ρ Q := q
theorem i_Items (q : g ρ fun d => ∃ ds, itemsD d = some ds ∧ L ds) : wItems g ρ L := q
theorem i_Range1 (q : g ρ fun d => ∃ ds, rg1D d = some ds ∧ L ds) : wRange1 g ρ L := q
theorem i_Range2 (q : ga ρ fun d => gb ρ fun e => ∃ ds, rg2D d e = some ds ∧ L ds) : wRange2 ga gb ρ L := q
theorem i_Zip (q : gs ρ fun ds => ∃ d1 d2 zs, ds = [d1, d2] ∧ zipD d1 d2 = some zs ∧ L zs) : wZip gs ρ L := q
theorem i_Enum (q : g ρ fun d => ∃ ds, d = .list ds ∧ ds.length ≤ sizeLine ∧ L (enumL ds)) : wEnum g ρ L := q
theorem i_Lc {vs : List Nat} {gi : Ev → W (List PyData)} {st : Set1} (q : gi ρ fun ds => ∃ ρw, wipeE vs ρ = some ρw ∧ wLc1 st c g ρw ds fun ys => Q (.list ys)) : wLc vs gi st c g ρ Q := q
theorem i_Yes (q : K true) : wYes ρ K := q
theorem i_LRg (q : g ρ fun d => ∃ n : Nat, d = .int (n : Int) ∧ n ≤ 10000 ∧ Q (.list (rangeL 0 n))) : wLRg g ρ Q := q
-- statements
theorem i_Skip (q : R (.nx ρ)) : wSkip ρ R := q
theorem i_Seq (q : h1 ρ (kSeq h2 R)) : wSeq h1 h2 ρ R := by
  have e : kSeq h2 R = fun r => match r with
      | .nx ρ' => h2 ρ' R
      | r => R r := by
    funext r
    cases r <;> rfl
  rw [e] at q
  exact q
theorem i_Ret (q : g ρ fun d => R (.rt d)) : wRet g ρ R := q
theorem i_RetO (q : ∃ ds, ρ[i]? = some (.ow ds) ∧ R (.rt (.list ds))) : wRetO i ρ R := q
theorem i_Set (q : g ρ fun d => R (.nx (ρ.set i (.sh d)))) : wSet i g ρ R := q
theorem i_SetF (q : g ρ fun d => ∃ ds, d = .list ds ∧ R (.nx (ρ.set i (.ow ds)))) : wSetF i g ρ R := q
theorem i_Asg {st : Set1} (q : g ρ fun d => ∃ ρ', st d ρ = some ρ' ∧ R (.nx ρ')) : wAsg st g ρ R := q
theorem i_Drop (q : g ρ fun _ => R (.nx ρ)) : wDrop g ρ R := q
theorem i_Par (q : gs ρ fun ds => ∃ d1 d2, ds = [d1, d2] ∧ R (.nx ((ρ.set i (.sh d1)).set j (.sh d2)))) : wPar i j gs ρ R := q
theorem i_Par3 (q : gs ρ fun ds => ∃ d1 d2 d3, ds = [d1, d2, d3] ∧ R (.nx (((ρ.set i (.sh d1)).set j (.sh d2)).set k (.sh d3)))) : wPar3 i j k gs ρ R := q
theorem i_ParF0 (q : g ρ fun d => ∃ ds, d = .list ds ∧ i < ρ.length ∧ j < ρ.length ∧ R (.nx ((ρ.set i (.ow ds)).set j (.ow [])))) : wParF0 i j g ρ R := q
theorem i_Frz {is : List Nat} (q : h (frz is ρ) R) : wFrz is h ρ R := q
theorem i_App (q : ∃ ds, ρ[i]? = some (.ow ds) ∧ g ρ fun d => ds.length < sizeLine ∧ R (.nx (ρ.set i (.ow (ds ++ [d]))))) : wApp i g ρ R := q
theorem i_Ext (q : ∃ ds, ρ[i]? = some (.ow ds) ∧ g ρ fun d => ∃ es, d = .list es ∧ ds.length + es.length ≤ sizeLine ∧ R (.nx (ρ.set i (.ow (ds ++ es))))) : wExt i g ρ R := q
theorem i_Put (q : ∃ ds, ρ[i]? = some (.ow ds) ∧ gb ρ fun d => ga ρ fun k => ∃ n j, k = .int n ∧ ixN ds.length n = some j ∧ R (.nx (ρ.set i (.ow (ds.set j d))))) : wPut i ga gb ρ R := q
theorem i_For {gi : Ev → W (List PyData)} {st : Set1} (q : gi ρ fun ds => wLoop st h ds ρ R) : wFor gi st h ρ R := q
theorem i_Loop0 {st : Set1} (q : R (.nx ρ)) : wLoop st h [] ρ R := q
theorem i_Loop1 {st : Set1} {ds : List PyData} (q : ∃ ρ', st d ρ = some ρ' ∧ h ρ' (kLoop st h ds R)) : wLoop st h (d :: ds) ρ R := by
  obtain ⟨ρ', e, q⟩ := q
  refine ⟨ρ', e, ?_⟩
  have e2 : kLoop st h ds R = fun r => match r with
      | .nx ρ2 => wLoop st h ds ρ2 R
      | .ct ρ2 => wLoop st h ds ρ2 R
      | .bk ρ2 => R (.nx ρ2)
      | .rt d => R (.rt d) := by
    funext r
    cases r <;> rfl
  rw [e2] at q
  exact q
-- what goes on
theorem i_kS (q : h ρ R) : kSeq h R (.nx ρ) := q
theorem i_kSr (q : R (.rt d)) : kSeq h R (.rt d) := q
theorem i_kSc (q : R (.ct ρ)) : kSeq h R (.ct ρ) := q
theorem i_kSb (q : R (.bk ρ)) : kSeq h R (.bk ρ) := q
theorem i_kL {st : Set1} {ds : List PyData} (q : wLoop st h ds ρ R) : kLoop st h ds R (.nx ρ) := q
theorem i_kLc {st : Set1} {ds : List PyData} (q : wLoop st h ds ρ R) : kLoop st h ds R (.ct ρ) := q
theorem i_kLb {st : Set1} {ds : List PyData} (q : R (.nx ρ)) : kLoop st h ds R (.bk ρ) := q
theorem i_kLr {st : Set1} {ds : List PyData} (q : R (.rt d)) : kLoop st h ds R (.rt d) := q
theorem i_end {m : Md} (q : Q d) : endB m Q (.rt d) := q
theorem i_endN (q : Q .none) : endB .S Q (.nx ρ) := ⟨rfl, q⟩
-- tests
theorem i_t {b : Bool} {A B : Prop} (e : b = true) (q : A) : if b = true then A else B := by rw [if_pos e]; exact q
theorem i_f {b : Bool} {A B : Prop} (e : b = false) (q : B) : if b = true then A else B := by rw [e, if_neg Bool.false_ne_true]; exact q
theorem i_b {b : Bool} {A B : Prop} (q : b = true → A) (q' : b = false → B) : if b = true then A else B := by
  cases b with
  | true => exact i_t rfl (q rfl)
  | false => exact i_f rfl (q' rfl)
theorem i_ex1 {α : Type} {P : α → Prop} (q : Exists P) : Exists P := q
theorem i_cj {A B : Prop} (q : A ∧ B) : A ∧ B := q
theorem i_it {b : Bool} {A B : Prop} (q : if b = true then A else B) : if b = true then A else B := q
theorem i_sz {n : Nat} {A : Prop} (h : n ≤ 1000) (q : A) : n ≤ sizeLine ∧ A := ⟨Nat.le_trans h (by decide), q⟩
theorem i_szl {n : Nat} {A : Prop} (h : n ≤ 1000) (q : A) : n < sizeLine ∧ A := ⟨Nat.lt_of_le_of_lt h (by decide), q⟩
/-- the value is told -/
theorem i_via {α : Type} {g : Ev → W α} {Q : α → Prop} (d : α) (hh : ∀ K : α → Prop, K d → g ρ K) (q : Q d) : g ρ Q := hh Q q
/-- a function, called at the arguments -/
theorem i_fn {n : Nat} {g : Ev → W Rs} {ds : List PyData} (q : g (args n ds) (endB .S Q)) : gBody .S n g ds Q := gBody_of q
theorem i_fnF {n : Nat} {g : Ev → W Rs} {ds : List PyData} (q : g (args n ds) (endB .F Q)) : gBody .F n g ds Q := gBody_of q
-- loops by an invariant
theorem i_loop {α : Type} {f : α → PyData} {st : Set1} {I : List α → Ev → Prop} (hs : ∀ (x : α) (xs : List α) (ρ : Ev), I (x :: xs) ρ → ∃ ρ', st (f x) ρ = some ρ' ∧ ∀ K : Rs → Prop, (∀ ρ2, I xs ρ2 → K (.nx ρ2)) → (∀ ρ2, I xs ρ2 → K (.ct ρ2)) → (∀ ρ2, R (.nx ρ2) → K (.bk ρ2)) → (∀ d, R (.rt d) → K (.rt d)) → h ρ' K)
    (h0 : ∀ ρ, I [] ρ → R (.nx ρ)) : ∀ (xs : List α) (ρ : Ev), I xs ρ → wLoop st h (xs.map f) ρ R
  | [], ρ, q => h0 ρ q
  | x :: xs, ρ, q => by
    obtain ⟨ρ', e, z⟩ := hs x xs ρ q
    exact i_Loop1 ⟨ρ', e, z _ (fun ρ2 y => i_loop hs h0 xs ρ2 y) (fun ρ2 y => i_loop hs h0 xs ρ2 y) (fun ρ2 y => y) fun d y => y⟩
-- list comprehensions: each item, some items
theorem i_map {α : Type} {f F : α → PyData} {st : Set1} : ∀ {xs : List α} {L : List PyData → Prop}, (∀ x ∈ xs, ∃ ρ', st (f x) ρ = some ρ' ∧ ∀ R : PyData → Prop, R (F x) → g ρ' R) → L (xs.map F) → wLc1 st wYes g ρ (xs.map f) L
  | [], _, _, q => q
  | x :: xs, _, hh, q => by
    obtain ⟨ρ', e, z⟩ := hh x List.mem_cons_self
    exact ⟨ρ', e, by rw [show wYes ρ' = fun Q => Q true from rfl]; exact i_t rfl (z _ (i_map (fun y hy => hh y (List.mem_cons_of_mem _ hy)) q))⟩
theorem i_filter {α : Type} {f F : α → PyData} {p : α → Bool} {st : Set1} : ∀ {xs : List α} {L : List PyData → Prop}, (∀ x ∈ xs, ∃ ρ', st (f x) ρ = some ρ' ∧ ∀ B : Bool → Prop, B (p x) → c ρ' B) →
    (∀ x ∈ xs, p x = true → ∀ ρ', st (f x) ρ = some ρ' → ∀ R : PyData → Prop, R (F x) → g ρ' R) → L ((xs.filter p).map F) → wLc1 st c g ρ (xs.map f) L
  | [], _, _, _, q => q
  | x :: xs, _, hh, hg, q => by
    obtain ⟨ρ', e, z⟩ := hh x List.mem_cons_self
    refine ⟨ρ', e, z _ ?_⟩
    refine i_b (fun b => hg x List.mem_cons_self b ρ' e _ ?_) fun b => ?_
    · refine i_filter (fun y hy => hh y (List.mem_cons_of_mem _ hy)) (fun y hy => hg y (List.mem_cons_of_mem _ hy)) ?_
      rw [List.filter_cons_of_pos b] at q
      exact q
    · refine i_filter (fun y hy => hh y (List.mem_cons_of_mem _ hy)) (fun y hy => hg y (List.mem_cons_of_mem _ hy)) ?_
      rw [List.filter_cons_of_neg (by rw [b]; exact Bool.false_ne_true)] at q
      exact q
end
end WL
namespace WL
open PySem PySem.Spec PyProof.Rows L2
theorem eqD_bool' {a b : Bool} : eqD (.bool a) (.bool b) = some (.bool (a == b)) := by cases a <;> cases b <;> rfl
theorem neD_bool' {a b : Bool} : neD (.bool a) (.bool b) = some (.bool (a != b)) := by cases a <;> cases b <;> rfl
theorem eqD_strs' {a b : Str} : eqD (.str a) (.str b) = some (.bool (a == b)) := by unfold eqD; rw [eqvD_strs]; rfl
theorem ixD_nat {xs : List PyData} {k : Nat} {x : PyData} (h : xs[k]? = some x) : ixD (.list xs) (.int (k : Int)) = some x := atI_nat h
theorem ixD_natT {xs : List PyData} {k : Nat} {x : PyData} (h : xs[k]? = some x) : ixD (.tuple xs) (.int (k : Int)) = some x := atI_nat h
theorem ixN_nat' {n k : Nat} (h : k < n) : ixN n (k : Int) = some k := by
  unfold ixN
  rw [if_pos (by omega), if_pos (by omega)]
  simp
theorem addAD_tup {xs ys : List PyData} (h : xs.length + ys.length ≤ 1000) : addAD (.tuple xs) (.tuple ys) = some (.tuple (xs ++ ys)) := if_pos (Nat.le_trans h (by decide))
/-! what can be compared -/
structure Cq (D : Nat) (d : PyData) : Prop where
  pl : plain d = true
  cl : d.canLay0 = true
  dp : d.depth ≤ D
theorem Cq.mono {D D' : Nat} {d : PyData} (h : Cq D d) (i : D ≤ D') : Cq D' d := ⟨h.pl, h.cl, Nat.le_trans h.dp i⟩
theorem cq_int {D : Nat} {i : Int} : Cq D (.int i) := ⟨rfl, rfl, by simp [PyData.depth]⟩
theorem cq_bool {D : Nat} {b : Bool} : Cq D (.bool b) := ⟨rfl, rfl, by simp [PyData.depth]⟩
theorem cq_none {D : Nat} : Cq D .none := ⟨rfl, rfl, by simp [PyData.depth]⟩
theorem cq_str {D : Nat} {x : Str} (h : PyData.strOk x = true) : Cq D (.str x) := ⟨rfl, by simpa [PyData.canLay0] using h, by simp [PyData.depth]⟩
theorem cq_all {D : Nat} : ∀ {ds : List PyData}, (∀ d ∈ ds, Cq D d) → plainA ds = true ∧ PyData.canLayAll0 ds = true ∧ PyData.depthAll ds ≤ D
  | [], _ => ⟨rfl, rfl, by simp [PyData.depthAll]⟩
  | d :: ds, h => by
    obtain ⟨a, b, c⟩ := cq_all fun e he => h e (List.mem_cons_of_mem _ he)
    have g := h d List.mem_cons_self
    refine ⟨?_, ?_, ?_⟩
    · show (plain d && plainA ds) = true
      rw [g.pl, a]
      rfl
    · rw [PyData.canLayAll0, g.cl, b]
      rfl
    · have := g.dp
      simp only [PyData.depthAll]
      omega
theorem cq_list {D : Nat} {ds : List PyData} (h : ∀ d ∈ ds, Cq D d) : Cq (D + 1) (.list ds) := by
  obtain ⟨a, b, c⟩ := cq_all h
  exact ⟨a, by rw [PyData.canLay0]; exact b, by simp only [PyData.depth]; omega⟩
theorem cq_tuple {D : Nat} {ds : List PyData} (h : ∀ d ∈ ds, Cq D d) : Cq (D + 1) (.tuple ds) := by
  obtain ⟨a, b, c⟩ := cq_all h
  exact ⟨a, by rw [PyData.canLay0]; exact b, by simp only [PyData.depth]; omega⟩
theorem Cq.shaped {D : Nat} {d : PyData} (h : Cq D d) (i : D ≤ 64) : SeqAt.shaped d = true := by
  unfold SeqAt.shaped
  rw [h.cl, decide_eq_true (Nat.le_trans h.dp i)]
  rfl
theorem eqvD_cq {D : Nat} {d e : PyData} (h : Cq D d) (g : Cq D e) (i : D ≤ 64) : eqvD d e = some (PyData.eqv d e) := by
  unfold eqvD
  rw [h.pl, g.pl, h.shaped i, g.shaped i]
  rfl
theorem eqD_cq {D : Nat} {d e : PyData} (h : Cq D d) (g : Cq D e) (i : D ≤ 64) : eqD d e = some (.bool (PyData.eqv d e)) := by
  unfold eqD
  rw [eqvD_cq h g i]
  rfl
theorem neD_cq {D : Nat} {d e : PyData} (h : Cq D d) (g : Cq D e) (i : D ≤ 64) : neD d e = some (.bool (!PyData.eqv d e)) := by
  unfold neD
  rw [eqvD_cq h g i]
  rfl
theorem eqD_same {D : Nat} {d : PyData} (h : Cq D d) (i : D ≤ 64) : eqD d d = some (.bool true) := by
  rw [eqD_cq h h i, SeqAt.eqv_refl d h.cl]
theorem neD_same' {D : Nat} {d : PyData} (h : Cq D d) (i : D ≤ 64) : neD d d = some (.bool false) := by
  rw [neD_cq h h i, SeqAt.eqv_refl d h.cl]
  rfl
theorem eqD_str1 {s : Str} : eqD (.str s) (.str s) = some (.bool true) := by rw [eqD_strs']; simp
theorem neD_str1 {s : Str} : neD (.str s) (.str s) = some (.bool false) := by rw [neD_strs]; simp
theorem list_of {α : Type} {f : α → PyData} {P : α → Prop} : ∀ {ys : List PyData}, (∀ y ∈ ys, ∃ a, y = f a ∧ P a) → ∃ as : List α, ys = as.map f ∧ as.length = ys.length ∧ ∀ a ∈ as, P a
  | [], _ => ⟨[], rfl, rfl, fun _ h => nomatch h⟩
  | y :: ys, h => by
    obtain ⟨a, rfl, p⟩ := h y List.mem_cons_self
    obtain ⟨as, rfl, hl, hp⟩ := list_of (P := P) (f := f) fun z hz => h z (List.mem_cons_of_mem _ hz)
    exact ⟨a :: as, rfl, by simp, fun b hb => by
      rcases List.mem_cons.mp hb with rfl | hb
      · exact p
      · exact hp b hb⟩
theorem anyD_map {α : Type} (f : α → Bool) (l : List α) : anyD (.list (l.map fun x => .bool (f x))) = some (.bool (l.any f)) := by
  show (allBools (l.map fun x => .bool (f x))).map _ = _
  rw [allBools_map]
  simp [List.any_map]
/-! sorted ints -/
open PySem.W (dataLt dataLe keyToks keyToksAll sortLe sortLe_total alike alikeAll)
theorem lt_int {a b : Int} : dataLt (.int a) (.int b) = decide (a < b) := by
  unfold dataLt
  simp only [keyToks]
  have e : itemLt (.inl a) (.inl b) = decide (a < b) := rfl
  have e2 : itemLt (.inl b) (.inl a) = decide (b < a) := rfl
  show (itemLt (.inl a) (.inl b) || (!itemLt (.inl b) (.inl a) && PyProof.Rows.lexLt itemOrd [] [])) = _
  rw [e, show PyProof.Rows.lexLt itemOrd [] [] = false from rfl, Bool.and_false, Bool.or_false]
theorem le_int {a b : Int} : dataLe false id (.int a) (.int b) = decide (a ≤ b) := by
  show (!dataLt (.int b) (.int a)) = _
  rw [lt_int, ← decide_not]
  exact decide_eq_decide.mpr (by omega)
theorem sortL_int {l : List Int} : sortL (l.map .int) = (l.mergeSort (fun a b => decide (a ≤ b))).map .int := by
  unfold sortL
  exact (List.map_mergeSort (f := PyData.int) fun a _ b _ => le_int.symm).symm
theorem sortI_sorted {l : List Int} : (l.mergeSort (fun a b => decide (a ≤ b))).Pairwise (· ≤ ·) := by
  have := List.pairwise_mergeSort (le := fun a b : Int => decide (a ≤ b)) (fun a b c h1 h2 => by
    simp only [decide_eq_true_eq] at h1 h2 ⊢
    omega) (fun a b => by
    simp only [Bool.or_eq_true, decide_eq_true_eq]
    omega) l
  exact this.imp fun h => by simpa using h
theorem sortI_perm {l : List Int} : (l.mergeSort (fun a b => decide (a ≤ b))).Perm l := List.mergeSort_perm l _
theorem plainA_ints : ∀ {a : List Int}, plainA (a.map PyData.int) = true
  | [] => rfl
  | x :: a => by
    show (plain (.int x) && plainA (a.map PyData.int)) = true
    rw [plainA_ints]
    rfl
theorem sortOk_int {l : List Int} : sortOk (l.map .int) = true := by
  have h1 : ((l.map PyData.int).all fun d => (l.map PyData.int).all fun e => alike d e) = true := by
    simp only [List.all_eq_true, List.mem_map]
    rintro _ ⟨a, _, rfl⟩ _ ⟨b, _, rfl⟩
    simp [alike]
  have h4 : ((l.map PyData.int).all fun d => decide (d.depth ≤ 50)) = true := by
    simp only [List.all_eq_true, List.mem_map, decide_eq_true_eq]
    rintro _ ⟨a, _, rfl⟩
    simp [PyData.depth]
  have h2 : sortB (l.map PyData.int) = true := by
    unfold sortB
    rw [Bool.or_eq_true]
    right
    simp only [List.all_eq_true, List.mem_map]
    rintro _ ⟨a, _, rfl⟩
    rfl
  unfold sortOk
  rw [h1, h2, plainA_ints, h4]
  rfl
theorem sortD_int {l : List Int} : sortD (.list (l.map .int)) = some (.list ((l.mergeSort (fun a b => decide (a ≤ b))).map .int)) := by
  show (if sortOk _ = true then some (PyData.list (sortL _)) else none) = _
  rw [sortOk_int, if_pos rfl, sortL_int]
/-- two sorted lists with the same members, without repeats, are the same -/
theorem sorted_same {l m : List Int} (hl : l.Pairwise (· < ·)) (hm : m.Pairwise (· ≤ ·)) (nm : m.Nodup) (h : ∀ x, x ∈ l ↔ x ∈ m) : l = m := by
  have nl : l.Nodup := hl.imp fun h => by omega
  exact List.Perm.eq_of_pairwise (le := (· ≤ ·)) (fun a b _ _ h1 h2 => by omega) (hl.imp fun h => by omega) hm ((List.perm_ext_iff_of_nodup nl nm).mpr h)
end WL

namespace K14
open PySem PySem.Spec PyProof.Rows L2 WL
def topS (i : Nat) : Stmt := PySem.Challenge.pw_everychoice_k14_whole_great_formulas_by.main.body.getD i (.Pass ⟨0, 0, 0, 0⟩)
section
variable {P : Program} {w : World} {K : PySem.W.Frag} {mg : Str → Option Value} {base : Heap}
/-- each table has one name -/
theorem tabs_one {T : Addr} {q : Str} (h : (T, q) ∈ lawTabs) : ∀ p ∈ lawTabs, p.1 = T → p.2 = q := key_one (by decide) h
/-! _law_pot -/
abbrev s_law_pot : Stmt := topS 53
theorem c_law_pot : FnScope ["script", "k", "cell"] ["script", "k"] (defScope s_law_pot) := ⟨rfl, rfl, rfl, by decide +kernel, rfl, by decide +kernel, by decide +kernel⟩
def g_law_pot : Ev → W Rs := (wSeq (wSet 2 (wB addAD (wB mulD (wC (.int 937)) (wVb 1)) (wC (.int 9029))))
  (wSeq (wIf (wT (wB ltI (wVb 1) (wU lenD (wVb 0)))) (wSet 2 (wU absD (wB ixD (wVb 0) (wVb 1)))) wSkip)
  (wRet (wLst (wCons (wB max2D (wC (.int 0)) (wB subD (wVb 2) (wB powD (wC (.int 10)) (wC (.int 18))))) (wCons (wB addAD (wB modD (wU intD (wB addAD (wB addAD (wB mulD (wB modD (wU intD (wVb 2)) (wC (.int 2147483549))) (wC (.int 40014))) (wB mulD (wC (.int 9029)) (wVb 1))) (wC (.int 61)))) (wC (.int 2147483563))) (wC (.int 1))) wNil))))))
theorem b_law_pot {f : Addr} {fd : FuncData} (F : Fun K "_law_pot" "_law_pot" s_law_pot f fd) (n_len : mg "len" = none) (n_abs : mg "abs" = none) (n_max : mg "max" = none) (n_int : mg "int" = none) : FnG P w K mg base CX0 (0 + 1) f fd ["script", "k"] (spW K .F 2 (gBody .F 3 g_law_pot)) :=
  fnG_body (m := .F) (g := g_law_pot) (N := ["script", "k", "cell"]) F c_law_pot fun cdv A outer s H E hr hgd => (ess_cons (es_set (i := 2) c_law_pot.nd rfl (by first | exact Or.inl rfl | exact Or.inr rfl) (ew_addA (EW.toB (ew_mul (EW.toB ew_int) (ew_vb 1))) (EW.toB ew_int)))
  (ess_cons (es_if (eb_lt (ew_vb 1) (EW.toB (ew_len rfl n_len (ew_vb 0)))) (ess_one (es_set (i := 2) c_law_pot.nd rfl (by first | exact Or.inl rfl | exact Or.inr rfl) (ew_abs rfl n_abs (EW.toB (ew_at (ew_vb 0) (ew_vb 1)))))) ess_nil)
  (ess_one (es_ret (fun e => nomatch e) (ew_lst (ea_cons (ew_max2 rfl n_max (EW.toB ew_int) (EW.toB (ew_sub (ew_vb 2) (EW.toB (ew_pow (EW.toB ew_int) (EW.toB ew_int)))))) (ea_cons (ew_addA (EW.toB (ew_mod (EW.toB (ew_int1 rfl n_int (EW.toB (ew_addA (EW.toB (ew_addA (EW.toB (ew_mul (EW.toB (ew_mod (EW.toB (ew_int1 rfl n_int (ew_vb 2))) (EW.toB ew_int))) (EW.toB ew_int))) (EW.toB (ew_mul (EW.toB ew_int) (ew_vb 1))))) (EW.toB ew_int))))) (EW.toB ew_int))) (EW.toB ew_int)) ea_nil)))))))
def fn_law_pot : Fn := gBody .F 3 g_law_pot
theorem w_law_pot {f : Addr} {fd : FuncData} (F : Fun K "_law_pot" "_law_pot" s_law_pot f fd) (hm : mg "_law_pot" = some (.ref f)) (hb : Binds K fd ["script", "k"] []) (n_len : mg "len" = none) (n_abs : mg "abs" = none) (n_max : mg "max" = none) (n_int : mg "int" = none) : FnW P w K mg base 1 "_law_pot" ["script", "k"] .F fn_law_pot :=
  ⟨mono_gBody, f, fd, hm, F.kp, hb, b_law_pot F n_len n_abs n_max n_int⟩
def fp_law_pot : Fn := potF fn_law_pot
/-! _law_draw -/
abbrev s_law_draw : Stmt := topS 54
theorem c_law_draw : FnScope ["pot", "many", "digit"] ["pot", "many"] (defScope s_law_draw) := ⟨rfl, rfl, rfl, by decide +kernel, rfl, by decide +kernel, by decide +kernel⟩
theorem w_law_draw {f : Addr} {fd : FuncData} (F : Fun K "_law_draw" "_law_draw" s_law_draw f fd) (hm : mg "_law_draw" = some (.ref f)) (hb : Binds K fd ["pot", "many"] []) (n_divmod : mg "divmod" = none) (n_int : mg "int" = none) : FnW P w K mg base 1 "_law_draw" ["pot", "many"] .S drawF :=
  draw_fn (c1 := 39373) (c2 := 941) (c3 := 2147483587) (c4 := 2147483563) (c5 := 19) F hm hb c_law_draw (by decide) (by decide) (by decide) (by decide) fun cdv A outer s H E =>
  pss_cons (ps_if (pt_cmpR op_gt (pe_ix ix_list (pv 0) pe_int fun _ _ => rfl) pe_int (nomark _)) (pss_cons (ps_asg (pe_callB call_divmod rfl n_divmod (by decide +kernel) (pa_cons (pe_ix ix_list (pv 0) pe_int fun _ _ => rfl) (pa_cons (pv 1) pa_nil)) (by decide) (by decide) rfl rfl) (pg_tup rfl (pgs_cons (pg_sub (pv 0) pe_int set_list) (pgs_cons (pg_name (i := 2) c_law_draw.nd rfl (.inl rfl)) pgs_nil)))) (pss_one (ps_ret (pv 2)))) pss_nil)
    (pss_cons (ps_asg (pe_op op_mod (pe_callTy call_int1 rfl n_int (by decide +kernel) (pa_cons (pe_op op_add (pe_op op_mul (pe_ix ix_list (pv 0) pe_int fun _ _ => rfl) pe_int) pe_int) pa_nil) (by decide) (by decide) rfl rfl) pe_int) (pg_sub (pv 0) pe_int set_list))
    (pss_one (ps_ret (pe_op op_mod (pe_callTy call_int1 rfl n_int (by decide +kernel) (pa_cons (pe_op op_fdiv (pe_op op_mod (pe_callTy call_int1 rfl n_int (by decide +kernel) (pa_cons (pe_op op_mul (pe_ix ix_list (pv 0) pe_int fun _ _ => rfl) (pe_ix ix_list (pv 0) pe_int fun _ _ => rfl)) pa_nil) (by decide) (by decide) rfl rfl) pe_int) pe_int) pa_nil) (by decide) (by decide) rfl rfl) (pv 1)))))
/-! _law_ons -/
abbrev s_law_ons : Stmt := topS 57
theorem c_law_ons : FnScope ["some", "switch"] ["some"] (defScope s_law_ons) := ⟨rfl, rfl, rfl, by decide +kernel, rfl, by decide +kernel, by decide +kernel⟩
def g_law_ons : Ev → W Rs := (wRet (wU tupleD (wLc [1] (wItems (wV 0)) (stN 1) wYes (wTup (wCons (wC (.str "on")) (wCons (wV 1) wNil))))))
theorem b_law_ons {f : Addr} {fd : FuncData} (F : Fun K "_law_ons" "_law_ons" s_law_ons f fd) (n_tuple : mg "tuple" = none) : FnG P w K mg base CX0 (0 + 1) f fd ["some"] (spW K .S 1 (gBody .S 2 g_law_ons)) :=
  fnG_body (m := .S) (g := g_law_ons) (N := ["some", "switch"]) F c_law_ons fun cdv A outer s H E hr hgd => (ess_one (es_ret (fun e => nomatch e) (ew_tuple rfl n_tuple (EW.toB (ew_lc (own := [("switch", 1)]) rfl c_law_ons.nd (ei_seq (ew_v 0)) (blkOk_by (by rfl)) (fun _ _ _ _ _ => (eg_name (i := 1) c_law_ons.nd rfl (by first | exact Or.inl rfl | exact Or.inr rfl))) (fun _ _ _ _ _ => ec_nil) (fun _ _ _ _ _ => (ew_tup (ea_cons ew_str (ea_cons (ew_v 1) ea_nil)))))))))
def fn_law_ons : Fn := gBody .S 2 g_law_ons
theorem w_law_ons {f : Addr} {fd : FuncData} (F : Fun K "_law_ons" "_law_ons" s_law_ons f fd) (hm : mg "_law_ons" = some (.ref f)) (hb : Binds K fd ["some"] []) (n_tuple : mg "tuple" = none) : FnW P w K mg base 1 "_law_ons" ["some"] .S fn_law_ons :=
  ⟨mono_gBody, f, fd, hm, F.kp, hb, b_law_ons F n_tuple⟩
/-! _law_pick -/
abbrev s_law_pick : Stmt := topS 55
theorem c_law_pick : FnScope ["pot", "some"] ["pot", "some"] (defScope s_law_pick) := ⟨rfl, rfl, rfl, by decide +kernel, rfl, by decide +kernel, by decide +kernel⟩
def g_law_pick : Ev → W Rs := (wRet (wB ixD (wVb 1) (wCall 2 drawF (wCons (wV 0) (wCons (wU lenD (wVb 1)) wNil)))))
theorem b_law_pick {f : Addr} {fd : FuncData} (F : Fun K "_law_pick" "_law_pick" s_law_pick f fd) (n_len : mg "len" = none) (f_law_draw : FnW P w K mg base 1 "_law_draw" ["pot", "many"] .S drawF) : FnG P w K mg base CX0 (1 + 1) f fd ["pot", "some"] (spW K .S 2 (gBody .S 2 g_law_pick)) :=
  fnG_body (m := .S) (g := g_law_pick) (N := ["pot", "some"]) F c_law_pick fun cdv A outer s H E hr hgd => (ess_one (es_ret (fun e => nomatch e) (ew_at (ew_vb 1) (EW.toB (ew_call f_law_draw hr hgd (by omega) rfl (ea_cons (ew_v 0) (ea_cons (ew_len rfl n_len (ew_vb 1)) ea_nil)))))))
def fn_law_pick : Fn := gBody .S 2 g_law_pick
theorem w_law_pick {f : Addr} {fd : FuncData} (F : Fun K "_law_pick" "_law_pick" s_law_pick f fd) (hm : mg "_law_pick" = some (.ref f)) (hb : Binds K fd ["pot", "some"] []) (n_len : mg "len" = none) (f_law_draw : FnW P w K mg base 1 "_law_draw" ["pot", "many"] .S drawF) : FnW P w K mg base 2 "_law_pick" ["pot", "some"] .S fn_law_pick :=
  ⟨mono_gBody, f, fd, hm, F.kp, hb, b_law_pick F n_len f_law_draw⟩
/-! is_integer -/
abbrev s_is_integer : Stmt := topS 10
theorem c_is_integer : FnScope ["value"] ["value"] (defScope s_is_integer) := ⟨rfl, rfl, rfl, by decide +kernel, rfl, by decide +kernel, by decide +kernel⟩
def g_is_integer : Ev → W Rs := (wRet (wAndV (wU (isiD .int) (wVb 0)) (wNotV (wU (isiD .bool) (wVb 0)))))
theorem b_is_integer {f : Addr} {fd : FuncData} (F : Fun K "is_integer" "is_integer" s_is_integer f fd) (n_isinstance : mg "isinstance" = none) (n_bool : mg "bool" = none) (n_int : mg "int" = none) : FnG P w K mg base CX0 (0 + 1) f fd ["value"] (spW K .S 1 (gBody .S 1 g_is_integer)) :=
  fnG_body (m := .S) (g := g_is_integer) (N := ["value"]) F c_is_integer fun cdv A outer s H E hr hgd => (ess_one (es_ret (fun e => nomatch e) (ew_and (ew_isi .int rfl n_isinstance rfl n_int (by decide +kernel) (ew_vb 0)) (ew_one (ew_not (ew_isi .bool rfl n_isinstance rfl n_bool (by decide +kernel) (ew_vb 0)))))))
def fn_is_integer : Fn := gBody .S 1 g_is_integer
theorem w_is_integer {f : Addr} {fd : FuncData} (F : Fun K "is_integer" "is_integer" s_is_integer f fd) (hm : mg "is_integer" = some (.ref f)) (hb : Binds K fd ["value"] []) (n_isinstance : mg "isinstance" = none) (n_bool : mg "bool" = none) (n_int : mg "int" = none) : FnW P w K mg base 1 "is_integer" ["value"] .S fn_is_integer :=
  ⟨mono_gBody, f, fd, hm, F.kp, hb, b_is_integer F n_isinstance n_bool n_int⟩
/-! is_within -/
abbrev s_is_within : Stmt := topS 11
theorem c_is_within : FnScope ["value", "least", "most"] ["value", "least", "most"] (defScope s_is_within) := ⟨rfl, rfl, rfl, by decide +kernel, rfl, by decide +kernel, by decide +kernel⟩
def g_is_within : Ev → W Rs := (wRet (wAndV (wCall 1 fn_is_integer (wCons (wV 0) wNil)) (wChain leI leI (wVb 1) (wVb 0) (wVb 2))))
theorem b_is_within {f : Addr} {fd : FuncData} (F : Fun K "is_within" "is_within" s_is_within f fd) (f_is_integer : FnW P w K mg base 1 "is_integer" ["value"] .S fn_is_integer) : FnG P w K mg base CX0 (1 + 1) f fd ["value", "least", "most"] (spW K .S 3 (gBody .S 3 g_is_within)) :=
  fnG_body (m := .S) (g := g_is_within) (N := ["value", "least", "most"]) F c_is_within fun cdv A outer s H E hr hgd => (ess_one (es_ret (fun e => nomatch e) (ew_and (ew_call f_is_integer hr hgd (by omega) rfl (ea_cons (ew_v 0) ea_nil)) (ew_one (ew_lele (ew_vb 1) (ew_vb 0) (ew_vb 2))))))
def fn_is_within : Fn := gBody .S 3 g_is_within
theorem w_is_within {f : Addr} {fd : FuncData} (F : Fun K "is_within" "is_within" s_is_within f fd) (hm : mg "is_within" = some (.ref f)) (hb : Binds K fd ["value", "least", "most"] []) (f_is_integer : FnW P w K mg base 1 "is_integer" ["value"] .S fn_is_integer) : FnW P w K mg base 2 "is_within" ["value", "least", "most"] .S fn_is_within :=
  ⟨mono_gBody, f, fd, hm, F.kp, hb, b_is_within F f_is_integer⟩
/-! check_switches -/
abbrev s_check_switches : Stmt := topS 12
theorem c_check_switches : FnScope ["value", "least"] ["value", "least"] (defScope s_check_switches) := ⟨rfl, rfl, rfl, by decide +kernel, rfl, by decide +kernel, by decide +kernel⟩
def g_check_switches : Ev → W Rs := (wIf (wNot (wT (wCall 3 fn_is_within (wCons (wV 0) (wCons (wV 1) (wCons (wC (.int 12)) wNil)))))) wFail wSkip)
theorem b_check_switches {f : Addr} {fd : FuncData} (F : FunD K "check_switches" "check_switches" (defArgs s_check_switches) (defBody s_check_switches) (defScope s_check_switches) (List.map V.int [1]) [] f fd) (q_MOST_SWITCHES : GC K mg "MOST_SWITCHES" (.int 12)) (f_is_within : FnW P w K mg base 2 "is_within" ["value", "least", "most"] .S fn_is_within) : FnG P w K mg base CX0 (2 + 1) f fd ["value", "least"] (spW K .S 2 (gBody .S 2 g_check_switches)) :=
  fnG_bodyD (m := .S) (g := g_check_switches) (N := ["value", "least"]) F c_check_switches fun cdv A outer s H E hr hgd => (ess_one (es_if (eb_not (eb_val (EW.toB (ew_call f_is_within hr hgd (by omega) rfl (ea_cons (ew_v 0) (ea_cons (ew_v 1) (ea_cons (ew_gc q_MOST_SWITCHES rfl) ea_nil))))))) (ess_one es_fail) ess_nil))
def fn_check_switches : Fn := gBody .S 2 g_check_switches
theorem w_check_switches {f : Addr} {fd : FuncData} (F : FunD K "check_switches" "check_switches" (defArgs s_check_switches) (defBody s_check_switches) (defScope s_check_switches) (List.map V.int [1]) [] f fd) (hm : mg "check_switches" = some (.ref f)) (hb : Binds K fd ["value", "least"] []) (q_MOST_SWITCHES : GC K mg "MOST_SWITCHES" (.int 12)) (f_is_within : FnW P w K mg base 2 "is_within" ["value", "least", "most"] .S fn_is_within) : FnW P w K mg base 3 "check_switches" ["value", "least"] .S fn_check_switches :=
  ⟨mono_gBody, f, fd, hm, F.kp, hb, b_check_switches F q_MOST_SWITCHES f_is_within⟩
/-! is_switch -/
abbrev s_is_switch : Stmt := topS 13
theorem c_is_switch : FnScope ["switches", "value"] ["switches", "value"] (defScope s_is_switch) := ⟨rfl, rfl, rfl, by decide +kernel, rfl, by decide +kernel, by decide +kernel⟩
def g_is_switch : Ev → W Rs := (wRet (wCall 3 fn_is_within (wCons (wV 1) (wCons (wC (.int 0)) (wCons (wB subD (wVb 0) (wC (.int 1))) wNil)))))
theorem b_is_switch {f : Addr} {fd : FuncData} (F : Fun K "is_switch" "is_switch" s_is_switch f fd) (f_is_within : FnW P w K mg base 2 "is_within" ["value", "least", "most"] .S fn_is_within) : FnG P w K mg base CX0 (2 + 1) f fd ["switches", "value"] (spW K .S 2 (gBody .S 2 g_is_switch)) :=
  fnG_body (m := .S) (g := g_is_switch) (N := ["switches", "value"]) F c_is_switch fun cdv A outer s H E hr hgd => (ess_one (es_ret (fun e => nomatch e) (ew_call f_is_within hr hgd (by omega) rfl (ea_cons (ew_v 1) (ea_cons ew_int (ea_cons (ew_sub (ew_vb 0) (EW.toB ew_int)) ea_nil))))))
def fn_is_switch : Fn := gBody .S 2 g_is_switch
theorem w_is_switch {f : Addr} {fd : FuncData} (F : Fun K "is_switch" "is_switch" s_is_switch f fd) (hm : mg "is_switch" = some (.ref f)) (hb : Binds K fd ["switches", "value"] []) (f_is_within : FnW P w K mg base 2 "is_within" ["value", "least", "most"] .S fn_is_within) : FnW P w K mg base 3 "is_switch" ["switches", "value"] .S fn_is_switch :=
  ⟨mono_gBody, f, fd, hm, F.kp, hb, b_is_switch F f_is_within⟩
/-! has_form -/
abbrev s_has_form : Stmt := topS 24
theorem c_has_form : FnScope ["switches", "value", "word", "many"] ["switches", "value"] (defScope s_has_form) := ⟨rfl, rfl, rfl, by decide +kernel, rfl, by decide +kernel, by decide +kernel⟩
def g_has_form : Ev → W Rs := (wSeq (wPar 2 3 (wCons (wB ixD (wVb 1) (wC (.int 0))) (wCons (wB subD (wU lenD (wVb 1)) (wC (.int 1))) wNil)))
  (wSeq (wIf (wT (wB (inD false) (wVb 2) (wTup (wCons (wC (.str "yes")) (wCons (wC (.str "no")) wNil))))) (wRet (wB eqD (wVb 3) (wC (.int 0)))) wSkip)
  (wSeq (wIf (wT (wB eqD (wVb 2) (wC (.str "on")))) (wRet (wAndV (wB eqD (wVb 3) (wC (.int 1))) (wCall 2 fn_is_switch (wCons (wV 0) (wCons (wB ixD (wVb 1) (wC (.int 1))) wNil))))) wSkip)
  (wSeq (wIf (wT (wB eqD (wVb 2) (wC (.str "not")))) (wRet (wB eqD (wVb 3) (wC (.int 1)))) wSkip)
  (wSeq (wIf (wT (wB (inD false) (wVb 2) (wC (.tuple (List.map PyData.str (["then", "same"] : List Str)))))) (wRet (wB eqD (wVb 3) (wC (.int 2)))) wSkip)
  (wSeq (wIf (wT (wB eqD (wVb 2) (wC (.str "most")))) (wRet (wAndV (wChain leI leI (wC (.int 3)) (wVb 3) (wB addAD (wC (.int 8)) (wC (.int 1)))) (wCall 3 fn_is_within (wCons (wB ixD (wVb 1) (wC (.int 1))) (wCons (wC (.int 0)) (wCons (wC (.int 7)) wNil)))))) wSkip)
  (wRet (wAndV (wB (inD false) (wVb 2) (wC (.tuple (List.map PyData.str (["and", "or", "one"] : List Str))))) (wChain leI leI (wC (.int 2)) (wVb 3) (wC (.int 8)))))))))))
theorem b_has_form {f : Addr} {fd : FuncData} (F : Fun K "has_form" "has_form" s_has_form f fd) (n_len : mg "len" = none) (q_PAIRED : GC K mg "PAIRED" (.tuple (List.map PyData.str (["then", "same"] : List Str)))) (q_MOST_NUMBER : GC K mg "MOST_NUMBER" (.int 7)) (q_MOST_PARTS : GC K mg "MOST_PARTS" (.int 8)) (q_LISTED : GC K mg "LISTED" (.tuple (List.map PyData.str (["and", "or", "one"] : List Str)))) (f_is_switch : FnW P w K mg base 3 "is_switch" ["switches", "value"] .S fn_is_switch) (f_is_within : FnW P w K mg base 2 "is_within" ["value", "least", "most"] .S fn_is_within) : FnG P w K mg base CX0 (3 + 1) f fd ["switches", "value"] (spW K .S 2 (gBody .S 4 g_has_form)) :=
  fnG_body (m := .S) (g := g_has_form) (N := ["switches", "value", "word", "many"]) F c_has_form fun cdv A outer s H E hr hgd => (ess_cons (es_par (i := 2) (j := 3) rfl c_has_form.nd rfl rfl (by decide) (ea_cons (ew_at (ew_vb 1) (EW.toB ew_int)) (ea_cons (ew_sub (EW.toB (ew_len rfl n_len (ew_vb 1))) (EW.toB ew_int)) ea_nil)) (fun h => ps_par rfl c_has_form.nd rfl rfl (by decide) rfl rfl h rfl))
  (ess_cons (es_if (eb_in (ew_vb 2) (EW.toB (ew_tup (ea_cons ew_str (ea_cons ew_str ea_nil))))) (ess_one (es_ret (fun e => nomatch e) (ew_eq hr.units (ew_vb 3) (EW.toB ew_int)))) ess_nil)
  (ess_cons (es_if (eb_eq hr.units (ew_vb 2) (EW.toB ew_str)) (ess_one (es_ret (fun e => nomatch e) (ew_and (ew_eq hr.units (ew_vb 3) (EW.toB ew_int)) (ew_one (ew_call f_is_switch hr hgd (by omega) rfl (ea_cons (ew_v 0) (ea_cons (ew_at (ew_vb 1) (EW.toB ew_int)) ea_nil))))))) ess_nil)
  (ess_cons (es_if (eb_eq hr.units (ew_vb 2) (EW.toB ew_str)) (ess_one (es_ret (fun e => nomatch e) (ew_eq hr.units (ew_vb 3) (EW.toB ew_int)))) ess_nil)
  (ess_cons (es_if (eb_in (ew_vb 2) (EW.toB (ew_gc q_PAIRED rfl))) (ess_one (es_ret (fun e => nomatch e) (ew_eq hr.units (ew_vb 3) (EW.toB ew_int)))) ess_nil)
  (ess_cons (es_if (eb_eq hr.units (ew_vb 2) (EW.toB ew_str)) (ess_one (es_ret (fun e => nomatch e) (ew_and (ew_lele (EW.toB ew_int) (ew_vb 3) (EW.toB (ew_addA (EW.toB (ew_gc q_MOST_PARTS rfl)) (EW.toB ew_int)))) (ew_one (ew_call f_is_within hr hgd (by omega) rfl (ea_cons (ew_at (ew_vb 1) (EW.toB ew_int)) (ea_cons ew_int (ea_cons (ew_gc q_MOST_NUMBER rfl) ea_nil)))))))) ess_nil)
  (ess_one (es_ret (fun e => nomatch e) (ew_and (ew_in (ew_vb 2) (EW.toB (ew_gc q_LISTED rfl))) (ew_one (ew_lele (EW.toB ew_int) (ew_vb 3) (EW.toB (ew_gc q_MOST_PARTS rfl)))))))))))))
def fn_has_form : Fn := gBody .S 4 g_has_form
theorem w_has_form {f : Addr} {fd : FuncData} (F : Fun K "has_form" "has_form" s_has_form f fd) (hm : mg "has_form" = some (.ref f)) (hb : Binds K fd ["switches", "value"] []) (n_len : mg "len" = none) (q_PAIRED : GC K mg "PAIRED" (.tuple (List.map PyData.str (["then", "same"] : List Str)))) (q_MOST_NUMBER : GC K mg "MOST_NUMBER" (.int 7)) (q_MOST_PARTS : GC K mg "MOST_PARTS" (.int 8)) (q_LISTED : GC K mg "LISTED" (.tuple (List.map PyData.str (["and", "or", "one"] : List Str)))) (f_is_switch : FnW P w K mg base 3 "is_switch" ["switches", "value"] .S fn_is_switch) (f_is_within : FnW P w K mg base 2 "is_within" ["value", "least", "most"] .S fn_is_within) : FnW P w K mg base 4 "has_form" ["switches", "value"] .S fn_has_form :=
  ⟨mono_gBody, f, fd, hm, F.kp, hb, b_has_form F n_len q_PAIRED q_MOST_NUMBER q_MOST_PARTS q_LISTED f_is_switch f_is_within⟩
/-! parts_of -/
abbrev s_parts_of : Stmt := topS 23
theorem c_parts_of : FnScope ["formula"] ["formula"] (defScope s_parts_of) := ⟨rfl, rfl, rfl, by decide +kernel, rfl, by decide +kernel, by decide +kernel⟩
def g_parts_of : Ev → W Rs := (wSeq (wIf (wOr (wT (wB (inD false) (wB ixD (wVb 0) (wC (.int 0))) (wC (.tuple (List.map PyData.str (["and", "or", "one"] : List Str)))))) (wOr (wT (wB (inD false) (wB ixD (wVb 0) (wC (.int 0))) (wC (.tuple (List.map PyData.str (["then", "same"] : List Str)))))) (wT (wB eqD (wB ixD (wVb 0) (wC (.int 0))) (wC (.str "not")))))) (wRet (wU listD (wSl (wVb 0) (wPart (wC (.int 1))) wNo))) wSkip)
  (wRet (wIf (wT (wB eqD (wB ixD (wVb 0) (wC (.int 0))) (wC (.str "most")))) (wU listD (wSl (wVb 0) (wPart (wC (.int 2))) wNo)) (wLst wNil))))
theorem b_parts_of {f : Addr} {fd : FuncData} (F : Fun K "parts_of" "parts_of" s_parts_of f fd) (n_list : mg "list" = none) (q_PAIRED : GC K mg "PAIRED" (.tuple (List.map PyData.str (["then", "same"] : List Str)))) (q_LISTED : GC K mg "LISTED" (.tuple (List.map PyData.str (["and", "or", "one"] : List Str)))) : FnG P w K mg base CX0 (0 + 1) f fd ["formula"] (spW K .S 1 (gBody .S 1 g_parts_of)) :=
  fnG_body (m := .S) (g := g_parts_of) (N := ["formula"]) F c_parts_of fun cdv A outer s H E hr hgd => (ess_cons (es_if (eb_or (eb_in (EW.toB (ew_at (ew_vb 0) (EW.toB ew_int))) (EW.toB (ew_gc q_LISTED rfl))) (ebw_or (eb_in (EW.toB (ew_at (ew_vb 0) (EW.toB ew_int))) (EW.toB (ew_gc q_PAIRED rfl))) (ebw_or1 (eb_eq hr.units (EW.toB (ew_at (ew_vb 0) (EW.toB ew_int))) (EW.toB ew_str))))) (ess_one (es_ret (fun e => nomatch e) (EW.FS (ew_list rfl n_list (EW.toB (ew_slice (ew_vb 0) (eo_some (EW.toB ew_int)) eo_none)))))) ess_nil)
  (ess_one (es_ret (fun e => nomatch e) (EW.FS (ew_if (eb_eq hr.units (EW.toB (ew_at (ew_vb 0) (EW.toB ew_int))) (EW.toB ew_str)) (ew_list rfl n_list (EW.toB (ew_slice (ew_vb 0) (eo_some (EW.toB ew_int)) eo_none))) (ew_lst ea_nil))))))
def fn_parts_of : Fn := gBody .S 1 g_parts_of
theorem w_parts_of {f : Addr} {fd : FuncData} (F : Fun K "parts_of" "parts_of" s_parts_of f fd) (hm : mg "parts_of" = some (.ref f)) (hb : Binds K fd ["formula"] []) (n_list : mg "list" = none) (q_PAIRED : GC K mg "PAIRED" (.tuple (List.map PyData.str (["then", "same"] : List Str)))) (q_LISTED : GC K mg "LISTED" (.tuple (List.map PyData.str (["and", "or", "one"] : List Str)))) : FnW P w K mg base 1 "parts_of" ["formula"] .S fn_parts_of :=
  ⟨mono_gBody, f, fd, hm, F.kp, hb, b_parts_of F n_list q_PAIRED q_LISTED⟩
/-! is_built -/
abbrev s_is_built : Stmt := topS 25
theorem c_is_built : FnScope ["switches", "value", "depth", "part"] ["switches", "value", "depth"] (defScope s_is_built) := ⟨rfl, rfl, rfl, by decide +kernel, rfl, by decide +kernel, by decide +kernel⟩
def g_is_built (self : Fn) : Ev → W Rs := (wSeq (wIf (wOr (wT (wB ltI (wVb 2) (wC (.int 1)))) (wOr (wNot (wT (wU (isiD .tuple) (wVb 1)))) (wOr (wT (wB eqD (wVb 1) (wTup wNil))) (wNot (wT (wU (isiD .str) (wB ixD (wVb 1) (wC (.int 0))))))))) (wRet (wC (.bool false))) wSkip)
  (wSeq (wIf (wNot (wT (wCall 2 fn_has_form (wCons (wV 0) (wCons (wV 1) wNil))))) (wRet (wC (.bool false))) wSkip)
  (wRet (wU allD (wLc [3] (wItems (wCall 1 fn_parts_of (wCons (wV 1) wNil))) (stN 3) wYes (wCall 3 self (wCons (wV 0) (wCons (wV 3) (wCons (wB subD (wVb 2) (wC (.int 1))) wNil)))))))))
theorem b_is_built {f : Addr} {fd : FuncData} (F : Fun K "is_built" "is_built" s_is_built f fd) (n : Nat) {self : Fn} (n_isinstance : mg "isinstance" = none) (n_str : mg "str" = none) (n_tuple : mg "tuple" = none) (n_all : mg "all" = none) (f_has_form : FnW P w K mg base 4 "has_form" ["switches", "value"] .S fn_has_form) (f_parts_of : FnW P w K mg base 1 "parts_of" ["formula"] .S fn_parts_of) (f_self : FnW P w K mg base (4 + n) "is_built" ["switches", "value", "depth"] .S self) : FnG P w K mg base CX0 (4 + n + 1) f fd ["switches", "value", "depth"] (spW K .S 3 (gBody .S 4 (g_is_built self))) :=
  fnG_body (m := .S) (g := (g_is_built self)) (N := ["switches", "value", "depth", "part"]) F c_is_built fun cdv A outer s H E hr hgd => (ess_cons (es_if (eb_or (eb_lt (ew_vb 2) (EW.toB ew_int)) (ebw_or (eb_not (eb_val (EW.toB (ew_isi .tuple rfl n_isinstance rfl n_tuple (by decide +kernel) (ew_vb 1))))) (ebw_or (eb_eq hr.units (ew_vb 1) (EW.toB (ew_tup ea_nil))) (ebw_or1 (eb_not (eb_val (EW.toB (ew_isi .str rfl n_isinstance rfl n_str (by decide +kernel) (EW.toB (ew_at (ew_vb 1) (EW.toB ew_int))))))))))) (ess_one (es_ret (fun e => nomatch e) ew_bl)) ess_nil)
  (ess_cons (es_if (eb_not (eb_val (EW.toB (ew_call f_has_form hr hgd (by omega) rfl (ea_cons (ew_v 0) (ea_cons (ew_v 1) ea_nil)))))) (ess_one (es_ret (fun e => nomatch e) ew_bl)) ess_nil)
  (ess_one (es_ret (fun e => nomatch e) (ew_all rfl n_all (EW.toB (ew_lc (own := [("part", 3)]) rfl c_is_built.nd (ei_seq (ew_call f_parts_of hr hgd (by omega) rfl (ea_cons (ew_v 1) ea_nil))) (blkOk_by (by rfl)) (fun _ _ _ _ _ => (eg_name (i := 3) c_is_built.nd rfl (by first | exact Or.inl rfl | exact Or.inr rfl))) (fun _ _ _ _ _ => ec_nil) (fun _ _ _ _ _ => (ew_call f_self hr hgd (by omega) rfl (ea_cons (ew_v 0) (ea_cons (ew_v 3) (ea_cons (ew_sub (ew_vb 2) (EW.toB ew_int)) ea_nil))))))))))))
def fn_is_built : Nat → Fn
  | 0 => fun _ _ => False
  | n + 1 => gBody .S 4 (g_is_built (fn_is_built n))
theorem w_is_built {f : Addr} {fd : FuncData} (F : Fun K "is_built" "is_built" s_is_built f fd) (hm : mg "is_built" = some (.ref f)) (hb : Binds K fd ["switches", "value", "depth"] []) (n_isinstance : mg "isinstance" = none) (n_str : mg "str" = none) (n_tuple : mg "tuple" = none) (n_all : mg "all" = none) (f_has_form : FnW P w K mg base 4 "has_form" ["switches", "value"] .S fn_has_form) (f_parts_of : FnW P w K mg base 1 "parts_of" ["formula"] .S fn_parts_of) : ∀ n : Nat, FnW P w K mg base (4 + n) "is_built" ["switches", "value", "depth"] .S (fn_is_built n)
  | 0 => ⟨fun _ _ _ _ q => q.elim, f, fd, hm, F.kp, hb, vac_fnG⟩
  | n + 1 => by
    have ih := w_is_built F hm hb n_isinstance n_str n_tuple n_all f_has_form f_parts_of n
    exact ⟨mono_gBody, f, fd, hm, F.kp, hb, b_is_built F n n_isinstance n_str n_tuple n_all f_has_form f_parts_of ih⟩
/-! size_of -/
abbrev s_size_of : Stmt := topS 26
theorem c_size_of : FnScope ["formula", "part"] ["formula"] (defScope s_size_of) := ⟨rfl, rfl, rfl, by decide +kernel, rfl, by decide +kernel, by decide +kernel⟩
def g_size_of (self : Fn) : Ev → W Rs := (wRet (wB addAD (wC (.int 1)) (wU sumD (wLc [1] (wItems (wCall 1 fn_parts_of (wCons (wV 0) wNil))) (stN 1) wYes (wCall 1 self (wCons (wV 1) wNil))))))
theorem b_size_of {f : Addr} {fd : FuncData} (F : Fun K "size_of" "size_of" s_size_of f fd) (n : Nat) {self : Fn} (n_sum : mg "sum" = none) (f_parts_of : FnW P w K mg base 1 "parts_of" ["formula"] .S fn_parts_of) (f_self : FnW P w K mg base (1 + n) "size_of" ["formula"] .S self) : FnG P w K mg base CX0 (1 + n + 1) f fd ["formula"] (spW K .S 1 (gBody .S 2 (g_size_of self))) :=
  fnG_body (m := .S) (g := (g_size_of self)) (N := ["formula", "part"]) F c_size_of fun cdv A outer s H E hr hgd => (ess_one (es_ret (fun e => nomatch e) (ew_addA (EW.toB ew_int) (EW.toB (ew_sum rfl n_sum (EW.toB (ew_lc (own := [("part", 1)]) rfl c_size_of.nd (ei_seq (ew_call f_parts_of hr hgd (by omega) rfl (ea_cons (ew_v 0) ea_nil))) (blkOk_by (by rfl)) (fun _ _ _ _ _ => (eg_name (i := 1) c_size_of.nd rfl (by first | exact Or.inl rfl | exact Or.inr rfl))) (fun _ _ _ _ _ => ec_nil) (fun _ _ _ _ _ => (ew_call f_self hr hgd (by omega) rfl (ea_cons (ew_v 1) ea_nil))))))))))
def fn_size_of : Nat → Fn
  | 0 => fun _ _ => False
  | n + 1 => gBody .S 2 (g_size_of (fn_size_of n))
theorem w_size_of {f : Addr} {fd : FuncData} (F : Fun K "size_of" "size_of" s_size_of f fd) (hm : mg "size_of" = some (.ref f)) (hb : Binds K fd ["formula"] []) (n_sum : mg "sum" = none) (f_parts_of : FnW P w K mg base 1 "parts_of" ["formula"] .S fn_parts_of) : ∀ n : Nat, FnW P w K mg base (1 + n) "size_of" ["formula"] .S (fn_size_of n)
  | 0 => ⟨fun _ _ _ _ q => q.elim, f, fd, hm, F.kp, hb, vac_fnG⟩
  | n + 1 => by
    have ih := w_size_of F hm hb n_sum f_parts_of n
    exact ⟨mono_gBody, f, fd, hm, F.kp, hb, b_size_of F n n_sum f_parts_of ih⟩
/-! is_formula_of -/
abbrev s_is_formula_of : Stmt := topS 28
theorem c_is_formula_of : FnScope ["switches", "value"] ["switches", "value"] (defScope s_is_formula_of) := ⟨rfl, rfl, rfl, by decide +kernel, rfl, by decide +kernel, by decide +kernel⟩
def g_is_formula_of : Ev → W Rs := (wRet (wAndV (wCall 3 (fn_is_built 10) (wCons (wV 0) (wCons (wV 1) (wCons (wC (.int 8)) wNil)))) (wB leI (wCall 1 (fn_size_of 10) (wCons (wV 1) wNil)) (wC (.int 60)))))
theorem b_is_formula_of {f : Addr} {fd : FuncData} (F : Fun K "is_formula_of" "is_formula_of" s_is_formula_of f fd) (q_MOST_SIZE : GC K mg "MOST_SIZE" (.int 60)) (q_MOST_DEPTH : GC K mg "MOST_DEPTH" (.int 8)) (f_size_of : FnW P w K mg base 11 "size_of" ["formula"] .S (fn_size_of 10)) (f_is_built : FnW P w K mg base 14 "is_built" ["switches", "value", "depth"] .S (fn_is_built 10)) : FnG P w K mg base CX0 (14 + 1) f fd ["switches", "value"] (spW K .S 2 (gBody .S 2 g_is_formula_of)) :=
  fnG_body (m := .S) (g := g_is_formula_of) (N := ["switches", "value"]) F c_is_formula_of fun cdv A outer s H E hr hgd => (ess_one (es_ret (fun e => nomatch e) (ew_and (ew_call f_is_built hr hgd (by omega) rfl (ea_cons (ew_v 0) (ea_cons (ew_v 1) (ea_cons (ew_gc q_MOST_DEPTH rfl) ea_nil)))) (ew_one (ew_le (EW.toB (ew_call f_size_of hr hgd (by omega) rfl (ea_cons (ew_v 1) ea_nil))) (EW.toB (ew_gc q_MOST_SIZE rfl)))))))
def fn_is_formula_of : Fn := gBody .S 2 g_is_formula_of
theorem w_is_formula_of {f : Addr} {fd : FuncData} (F : Fun K "is_formula_of" "is_formula_of" s_is_formula_of f fd) (hm : mg "is_formula_of" = some (.ref f)) (hb : Binds K fd ["switches", "value"] []) (q_MOST_SIZE : GC K mg "MOST_SIZE" (.int 60)) (q_MOST_DEPTH : GC K mg "MOST_DEPTH" (.int 8)) (f_size_of : FnW P w K mg base 11 "size_of" ["formula"] .S (fn_size_of 10)) (f_is_built : FnW P w K mg base 14 "is_built" ["switches", "value", "depth"] .S (fn_is_built 10)) : FnW P w K mg base 15 "is_formula_of" ["switches", "value"] .S fn_is_formula_of :=
  ⟨mono_gBody, f, fd, hm, F.kp, hb, b_is_formula_of F q_MOST_SIZE q_MOST_DEPTH f_size_of f_is_built⟩
/-! check_formula -/
abbrev s_check_formula : Stmt := topS 29
theorem c_check_formula : FnScope ["switches", "value"] ["switches", "value"] (defScope s_check_formula) := ⟨rfl, rfl, rfl, by decide +kernel, rfl, by decide +kernel, by decide +kernel⟩
def g_check_formula : Ev → W Rs := (wIf (wNot (wT (wCall 2 fn_is_formula_of (wCons (wV 0) (wCons (wV 1) wNil))))) wFail wSkip)
theorem b_check_formula {f : Addr} {fd : FuncData} (F : Fun K "check_formula" "check_formula" s_check_formula f fd) (f_is_formula_of : FnW P w K mg base 15 "is_formula_of" ["switches", "value"] .S fn_is_formula_of) : FnG P w K mg base CX0 (15 + 1) f fd ["switches", "value"] (spW K .S 2 (gBody .S 2 g_check_formula)) :=
  fnG_body (m := .S) (g := g_check_formula) (N := ["switches", "value"]) F c_check_formula fun cdv A outer s H E hr hgd => (ess_one (es_if (eb_not (eb_val (EW.toB (ew_call f_is_formula_of hr hgd (by omega) rfl (ea_cons (ew_v 0) (ea_cons (ew_v 1) ea_nil)))))) (ess_one es_fail) ess_nil))
def fn_check_formula : Fn := gBody .S 2 g_check_formula
theorem w_check_formula {f : Addr} {fd : FuncData} (F : Fun K "check_formula" "check_formula" s_check_formula f fd) (hm : mg "check_formula" = some (.ref f)) (hb : Binds K fd ["switches", "value"] []) (f_is_formula_of : FnW P w K mg base 15 "is_formula_of" ["switches", "value"] .S fn_is_formula_of) : FnW P w K mg base 16 "check_formula" ["switches", "value"] .S fn_check_formula :=
  ⟨mono_gBody, f, fd, hm, F.kp, hb, b_check_formula F f_is_formula_of⟩
/-! is_open_of -/
abbrev s_is_open_of : Stmt := topS 42
theorem c_is_open_of : FnScope ["switches", "value", "one"] ["switches", "value"] (defScope s_is_open_of) := ⟨rfl, rfl, rfl, by decide +kernel, rfl, by decide +kernel, by decide +kernel⟩
def g_is_open_of : Ev → W Rs := (wSeq (wIf (wOr (wNot (wT (wU (isiD .tuple) (wVb 1)))) (wT (wB neD (wU lenD (wVb 1)) (wVb 0)))) (wRet (wC (.bool false))) wSkip)
  (wRet (wU allD (wLc [2] (wItems (wV 1)) (stN 2) wYes (wOrV (wB (isNonD false) (wVb 2) (wC .none)) (wU (isiD .bool) (wVb 2)))))))
theorem b_is_open_of {f : Addr} {fd : FuncData} (F : Fun K "is_open_of" "is_open_of" s_is_open_of f fd) (n_len : mg "len" = none) (n_isinstance : mg "isinstance" = none) (n_tuple : mg "tuple" = none) (n_bool : mg "bool" = none) (n_all : mg "all" = none) : FnG P w K mg base CX0 (0 + 1) f fd ["switches", "value"] (spW K .S 2 (gBody .S 3 g_is_open_of)) :=
  fnG_body (m := .S) (g := g_is_open_of) (N := ["switches", "value", "one"]) F c_is_open_of fun cdv A outer s H E hr hgd => (ess_cons (es_if (eb_or (eb_not (eb_val (EW.toB (ew_isi .tuple rfl n_isinstance rfl n_tuple (by decide +kernel) (ew_vb 1))))) (ebw_or1 (eb_ne hr.units (EW.toB (ew_len rfl n_len (ew_vb 1))) (ew_vb 0)))) (ess_one (es_ret (fun e => nomatch e) ew_bl)) ess_nil)
  (ess_one (es_ret (fun e => nomatch e) (ew_all rfl n_all (EW.toB (ew_lc (own := [("one", 2)]) rfl c_is_open_of.nd (ei_seq (ew_v 1)) (blkOk_by (by rfl)) (fun _ _ _ _ _ => (eg_name (i := 2) c_is_open_of.nd rfl (by first | exact Or.inl rfl | exact Or.inr rfl))) (fun _ _ _ _ _ => ec_nil) (fun _ _ _ _ _ => (ew_or (ew_isN (ew_vb 2)) (ew_one (ew_isi .bool rfl n_isinstance rfl n_bool (by decide +kernel) (ew_vb 2)))))))))))
def fn_is_open_of : Fn := gBody .S 3 g_is_open_of
theorem w_is_open_of {f : Addr} {fd : FuncData} (F : Fun K "is_open_of" "is_open_of" s_is_open_of f fd) (hm : mg "is_open_of" = some (.ref f)) (hb : Binds K fd ["switches", "value"] []) (n_len : mg "len" = none) (n_isinstance : mg "isinstance" = none) (n_tuple : mg "tuple" = none) (n_bool : mg "bool" = none) (n_all : mg "all" = none) : FnW P w K mg base 1 "is_open_of" ["switches", "value"] .S fn_is_open_of :=
  ⟨mono_gBody, f, fd, hm, F.kp, hb, b_is_open_of F n_len n_isinstance n_tuple n_bool n_all⟩
/-! check_open -/
abbrev s_check_open : Stmt := topS 44
theorem c_check_open : FnScope ["switches", "value"] ["switches", "value"] (defScope s_check_open) := ⟨rfl, rfl, rfl, by decide +kernel, rfl, by decide +kernel, by decide +kernel⟩
def g_check_open : Ev → W Rs := (wIf (wNot (wT (wCall 2 fn_is_open_of (wCons (wV 0) (wCons (wV 1) wNil))))) wFail wSkip)
theorem b_check_open {f : Addr} {fd : FuncData} (F : Fun K "check_open" "check_open" s_check_open f fd) (f_is_open_of : FnW P w K mg base 1 "is_open_of" ["switches", "value"] .S fn_is_open_of) : FnG P w K mg base CX0 (1 + 1) f fd ["switches", "value"] (spW K .S 2 (gBody .S 2 g_check_open)) :=
  fnG_body (m := .S) (g := g_check_open) (N := ["switches", "value"]) F c_check_open fun cdv A outer s H E hr hgd => (ess_one (es_if (eb_not (eb_val (EW.toB (ew_call f_is_open_of hr hgd (by omega) rfl (ea_cons (ew_v 0) (ea_cons (ew_v 1) ea_nil)))))) (ess_one es_fail) ess_nil))
def fn_check_open : Fn := gBody .S 2 g_check_open
theorem w_check_open {f : Addr} {fd : FuncData} (F : Fun K "check_open" "check_open" s_check_open f fd) (hm : mg "check_open" = some (.ref f)) (hb : Binds K fd ["switches", "value"] []) (f_is_open_of : FnW P w K mg base 1 "is_open_of" ["switches", "value"] .S fn_is_open_of) : FnW P w K mg base 2 "check_open" ["switches", "value"] .S fn_check_open :=
  ⟨mono_gBody, f, fd, hm, F.kp, hb, b_check_open F f_is_open_of⟩
/-! read_most -/
abbrev s_read_most : Stmt := topS 48
theorem c_read_most : FnScope ["number", "some"] ["number", "some"] (defScope s_read_most) := ⟨rfl, rfl, rfl, by decide +kernel, rfl, by decide +kernel, by decide +kernel⟩
def g_read_most : Ev → W Rs := (wSeq (wIf (wT (wB gtI (wBL cntD (wVb 1) (wC (.bool true))) (wVb 0))) (wRet (wC (.bool false))) wSkip)
  (wRet (wIf (wT (wB leI (wB addAD (wBL cntD (wVb 1) (wC (.bool true))) (wBL cntD (wVb 1) (wC .none))) (wVb 0))) (wC (.bool true)) (wC .none))))
theorem b_read_most {f : Addr} {fd : FuncData} (F : Fun K "read_most" "read_most" s_read_most f fd)  : FnG P w K mg base CX0 (0 + 1) f fd ["number", "some"] (spW K .S 2 (gBody .S 2 g_read_most)) :=
  fnG_body (m := .S) (g := g_read_most) (N := ["number", "some"]) F c_read_most fun cdv A outer s H E hr hgd => (ess_cons (es_if (eb_gt (EW.toB (ew_count (ew_vb 1) (EW.toB ew_bl) (fun ho he => pe_bm PySem.F.plainAttrs_list PySem.F.slot_list_count PySem.F.type_list_count mt_cntF ho (pa_cons he pa_nil)))) (ew_vb 0)) (ess_one (es_ret (fun e => nomatch e) ew_bl)) ess_nil)
  (ess_one (es_ret (fun e => nomatch e) (ew_if (eb_le (EW.toB (ew_addA (EW.toB (ew_count (ew_vb 1) (EW.toB ew_bl) (fun ho he => pe_bm PySem.F.plainAttrs_list PySem.F.slot_list_count PySem.F.type_list_count mt_cntF ho (pa_cons he pa_nil)))) (EW.toB (ew_count (ew_vb 1) (EW.toB ew_non) (fun ho he => pe_bm PySem.F.plainAttrs_list PySem.F.slot_list_count PySem.F.type_list_count mt_cntF ho (pa_cons he pa_nil)))))) (ew_vb 0)) ew_bl ew_non))))
def fn_read_most : Fn := gBody .S 2 g_read_most
theorem w_read_most {f : Addr} {fd : FuncData} (F : Fun K "read_most" "read_most" s_read_most f fd) (hm : mg "read_most" = some (.ref f)) (hb : Binds K fd ["number", "some"] [])  : FnW P w K mg base 1 "read_most" ["number", "some"] .S fn_read_most :=
  ⟨mono_gBody, f, fd, hm, F.kp, hb, b_read_most F ⟩
/-! turned -/
abbrev s_turned : Stmt := topS 46
theorem c_turned : FnScope ["read"] ["read"] (defScope s_turned) := ⟨rfl, rfl, rfl, by decide +kernel, rfl, by decide +kernel, by decide +kernel⟩
def g_turned : Ev → W Rs := (wRet (wIf (wT (wB (isNonD false) (wVb 0) (wC .none))) (wC .none) (wNotV (wV 0))))
theorem b_turned {f : Addr} {fd : FuncData} (F : Fun K "turned" "turned" s_turned f fd)  : FnG P w K mg base CX0 (0 + 1) f fd ["read"] (spW K .S 1 (gBody .S 1 g_turned)) :=
  fnG_body (m := .S) (g := g_turned) (N := ["read"]) F c_turned fun cdv A outer s H E hr hgd => (ess_one (es_ret (fun e => nomatch e) (ew_if (eb_isN (ew_vb 0)) ew_non (ew_not (ew_v 0)))))
def fn_turned : Fn := gBody .S 1 g_turned
theorem w_turned {f : Addr} {fd : FuncData} (F : Fun K "turned" "turned" s_turned f fd) (hm : mg "turned" = some (.ref f)) (hb : Binds K fd ["read"] [])  : FnW P w K mg base 1 "turned" ["read"] .S fn_turned :=
  ⟨mono_gBody, f, fd, hm, F.kp, hb, b_turned F ⟩
/-! read_all -/
abbrev s_read_all : Stmt := topS 45
theorem c_read_all : FnScope ["some"] ["some"] (defScope s_read_all) := ⟨rfl, rfl, rfl, by decide +kernel, rfl, by decide +kernel, by decide +kernel⟩
def g_read_all : Ev → W Rs := (wSeq (wIf (wT (wB (inD false) (wC (.bool false)) (wVb 0))) (wRet (wC (.bool false))) wSkip)
  (wRet (wIf (wT (wB (inD false) (wC .none) (wVb 0))) (wC .none) (wC (.bool true)))))
theorem b_read_all {f : Addr} {fd : FuncData} (F : Fun K "read_all" "read_all" s_read_all f fd)  : FnG P w K mg base CX0 (0 + 1) f fd ["some"] (spW K .S 1 (gBody .S 1 g_read_all)) :=
  fnG_body (m := .S) (g := g_read_all) (N := ["some"]) F c_read_all fun cdv A outer s H E hr hgd => (ess_cons (es_if (eb_in (EW.toB ew_bl) (ew_vb 0)) (ess_one (es_ret (fun e => nomatch e) ew_bl)) ess_nil)
  (ess_one (es_ret (fun e => nomatch e) (ew_if (eb_in (EW.toB ew_non) (ew_vb 0)) ew_non ew_bl))))
def fn_read_all : Fn := gBody .S 1 g_read_all
theorem w_read_all {f : Addr} {fd : FuncData} (F : Fun K "read_all" "read_all" s_read_all f fd) (hm : mg "read_all" = some (.ref f)) (hb : Binds K fd ["some"] [])  : FnW P w K mg base 1 "read_all" ["some"] .S fn_read_all :=
  ⟨mono_gBody, f, fd, hm, F.kp, hb, b_read_all F ⟩
/-! read_any -/
abbrev s_read_any : Stmt := topS 47
theorem c_read_any : FnScope ["some", "read"] ["some"] (defScope s_read_any) := ⟨rfl, rfl, rfl, by decide +kernel, rfl, by decide +kernel, by decide +kernel⟩
def g_read_any : Ev → W Rs := (wRet (wCall 1 fn_turned (wCons (wCall 1 fn_read_all (wCons (wLc [1] (wItems (wV 0)) (stN 1) wYes (wCall 1 fn_turned (wCons (wV 1) wNil))) wNil)) wNil)))
theorem b_read_any {f : Addr} {fd : FuncData} (F : Fun K "read_any" "read_any" s_read_any f fd) (f_turned : FnW P w K mg base 1 "turned" ["read"] .S fn_turned) (f_read_all : FnW P w K mg base 1 "read_all" ["some"] .S fn_read_all) : FnG P w K mg base CX0 (1 + 1) f fd ["some"] (spW K .S 1 (gBody .S 2 g_read_any)) :=
  fnG_body (m := .S) (g := g_read_any) (N := ["some", "read"]) F c_read_any fun cdv A outer s H E hr hgd => (ess_one (es_ret (fun e => nomatch e) (ew_call f_turned hr hgd (by omega) rfl (ea_cons (ew_call f_read_all hr hgd (by omega) rfl (ea_cons (EW.FS (ew_lc (own := [("read", 1)]) rfl c_read_any.nd (ei_seq (ew_v 0)) (blkOk_by (by rfl)) (fun _ _ _ _ _ => (eg_name (i := 1) c_read_any.nd rfl (by first | exact Or.inl rfl | exact Or.inr rfl))) (fun _ _ _ _ _ => ec_nil) (fun _ _ _ _ _ => (ew_call f_turned hr hgd (by omega) rfl (ea_cons (ew_v 1) ea_nil))))) ea_nil)) ea_nil))))
def fn_read_any : Fn := gBody .S 2 g_read_any
theorem w_read_any {f : Addr} {fd : FuncData} (F : Fun K "read_any" "read_any" s_read_any f fd) (hm : mg "read_any" = some (.ref f)) (hb : Binds K fd ["some"] []) (f_turned : FnW P w K mg base 1 "turned" ["read"] .S fn_turned) (f_read_all : FnW P w K mg base 1 "read_all" ["some"] .S fn_read_all) : FnW P w K mg base 2 "read_any" ["some"] .S fn_read_any :=
  ⟨mono_gBody, f, fd, hm, F.kp, hb, b_read_any F f_turned f_read_all⟩
/-! read_by -/
abbrev s_read_by : Stmt := topS 49
theorem c_read_by : FnScope ["formula", "opened", "word", "some", "part"] ["formula", "opened"] (defScope s_read_by) := ⟨rfl, rfl, rfl, by decide +kernel, rfl, by decide +kernel, by decide +kernel⟩
def g_read_by (self : Fn) : Ev → W Rs := (wSeq (wSet 2 (wB ixD (wVb 0) (wC (.int 0))))
  (wSeq (wIf (wT (wB (inD false) (wVb 2) (wTup (wCons (wC (.str "yes")) (wCons (wC (.str "no")) wNil))))) (wRet (wB eqD (wVb 2) (wC (.str "yes")))) wSkip)
  (wSeq (wIf (wT (wB eqD (wVb 2) (wC (.str "on")))) (wRet (wB ixD (wVb 1) (wB ixD (wVb 0) (wC (.int 1))))) wSkip)
  (wSeq (wSetF 3 (wLc [4] (wItems (wCall 1 fn_parts_of (wCons (wV 0) wNil))) (stN 4) wYes (wCall 2 self (wCons (wV 4) (wCons (wV 1) wNil)))))
  (wSeq (wIf (wT (wB eqD (wVb 2) (wC (.str "not")))) (wRet (wCall 1 fn_turned (wCons (wB ixD (wVb 3) (wC (.int 0))) wNil))) wSkip)
  (wSeq (wIf (wT (wB eqD (wVb 2) (wC (.str "and")))) (wFrz [3] (wRet (wCall 1 fn_read_all (wCons (wV 3) wNil)))) wSkip)
  (wSeq (wIf (wT (wB eqD (wVb 2) (wC (.str "or")))) (wFrz [3] (wRet (wCall 1 fn_read_any (wCons (wV 3) wNil)))) wSkip)
  (wSeq (wIf (wT (wB eqD (wVb 2) (wC (.str "then")))) (wRet (wCall 1 fn_read_any (wCons (wLst (wCons (wCall 1 fn_turned (wCons (wB ixD (wVb 3) (wC (.int 0))) wNil)) (wCons (wB ixD (wVb 3) (wC (.int 1))) wNil))) wNil))) wSkip)
  (wSeq (wIf (wT (wB eqD (wVb 2) (wC (.str "same")))) (wRet (wIf (wT (wB (inD false) (wC .none) (wVb 3))) (wC .none) (wB eqD (wB ixD (wVb 3) (wC (.int 0))) (wB ixD (wVb 3) (wC (.int 1)))))) wSkip)
  (wSeq (wIf (wT (wB eqD (wVb 2) (wC (.str "one")))) (wFrz [3] (wRet (wCall 1 fn_read_all (wCons (wLst (wCons (wCall 1 fn_read_any (wCons (wV 3) wNil)) (wCons (wCall 2 fn_read_most (wCons (wC (.int 1)) (wCons (wV 3) wNil))) wNil))) wNil)))) wSkip)
  (wFrz [3] (wRet (wCall 2 fn_read_most (wCons (wB ixD (wVb 0) (wC (.int 1))) (wCons (wV 3) wNil)))))))))))))))
theorem b_read_by {f : Addr} {fd : FuncData} (F : Fun K "read_by" "read_by" s_read_by f fd) (n : Nat) {self : Fn} (f_parts_of : FnW P w K mg base 1 "parts_of" ["formula"] .S fn_parts_of) (f_turned : FnW P w K mg base 1 "turned" ["read"] .S fn_turned) (f_read_all : FnW P w K mg base 1 "read_all" ["some"] .S fn_read_all) (f_read_any : FnW P w K mg base 2 "read_any" ["some"] .S fn_read_any) (f_read_most : FnW P w K mg base 1 "read_most" ["number", "some"] .S fn_read_most) (f_self : FnW P w K mg base (2 + n) "read_by" ["formula", "opened"] .S self) : FnG P w K mg base CX0 (2 + n + 1) f fd ["formula", "opened"] (spW K .S 2 (gBody .S 5 (g_read_by self))) :=
  fnG_body (m := .S) (g := (g_read_by self)) (N := ["formula", "opened", "word", "some", "part"]) F c_read_by fun cdv A outer s H E hr hgd => (ess_cons (es_set (i := 2) c_read_by.nd rfl (by first | exact Or.inl rfl | exact Or.inr rfl) (ew_at (ew_vb 0) (EW.toB ew_int)))
  (ess_cons (es_if (eb_in (ew_vb 2) (EW.toB (ew_tup (ea_cons ew_str (ea_cons ew_str ea_nil))))) (ess_one (es_ret (fun e => nomatch e) (ew_eq hr.units (ew_vb 2) (EW.toB ew_str)))) ess_nil)
  (ess_cons (es_if (eb_eq hr.units (ew_vb 2) (EW.toB ew_str)) (ess_one (es_ret (fun e => nomatch e) (ew_at (ew_vb 1) (EW.toB (ew_at (ew_vb 0) (EW.toB ew_int)))))) ess_nil)
  (ess_cons (es_setLc (i := 3) (own := [("part", 4)]) rfl c_read_by.nd rfl rfl (L2.sw_true rfl rfl rfl (by decide +kernel)) (ei_seq (ew_call f_parts_of hr hgd (by omega) rfl (ea_cons (ew_v 0) ea_nil))) (blkOk_by (by rfl)) (fun _ _ _ _ _ => (eg_name (i := 4) c_read_by.nd rfl (by first | exact Or.inl rfl | exact Or.inr rfl))) (fun _ _ _ _ _ => ec_nil) (fun _ _ _ _ _ => (ew_call f_self hr hgd (by omega) rfl (ea_cons (ew_v 4) (ea_cons (ew_v 1) ea_nil)))))
  (ess_cons (es_if (eb_eq hr.units (ew_vb 2) (EW.toB ew_str)) (ess_one (es_ret (fun e => nomatch e) (ew_call f_turned hr hgd (by omega) rfl (ea_cons (ew_at (ew_vb 3) (EW.toB ew_int)) ea_nil)))) ess_nil)
  (ess_cons (es_if (eb_eq hr.units (ew_vb 2) (EW.toB ew_str)) (ess_one (es_frz [3] (es_ret (fun e => nomatch e) (ew_call f_read_all hr hgd (by omega) rfl (ea_cons (ew_v 3) ea_nil))))) ess_nil)
  (ess_cons (es_if (eb_eq hr.units (ew_vb 2) (EW.toB ew_str)) (ess_one (es_frz [3] (es_ret (fun e => nomatch e) (ew_call f_read_any hr hgd (by omega) rfl (ea_cons (ew_v 3) ea_nil))))) ess_nil)
  (ess_cons (es_if (eb_eq hr.units (ew_vb 2) (EW.toB ew_str)) (ess_one (es_ret (fun e => nomatch e) (ew_call f_read_any hr hgd (by omega) rfl (ea_cons (EW.FS (ew_lst (ea_cons (ew_call f_turned hr hgd (by omega) rfl (ea_cons (ew_at (ew_vb 3) (EW.toB ew_int)) ea_nil)) (ea_cons (ew_at (ew_vb 3) (EW.toB ew_int)) ea_nil)))) ea_nil)))) ess_nil)
  (ess_cons (es_if (eb_eq hr.units (ew_vb 2) (EW.toB ew_str)) (ess_one (es_ret (fun e => nomatch e) (ew_if (eb_in (EW.toB ew_non) (ew_vb 3)) ew_non (ew_eq hr.units (EW.toB (ew_at (ew_vb 3) (EW.toB ew_int))) (EW.toB (ew_at (ew_vb 3) (EW.toB ew_int))))))) ess_nil)
  (ess_cons (es_if (eb_eq hr.units (ew_vb 2) (EW.toB ew_str)) (ess_one (es_frz [3] (es_ret (fun e => nomatch e) (ew_call f_read_all hr hgd (by omega) rfl (ea_cons (EW.FS (ew_lst (ea_cons (ew_call f_read_any hr hgd (by omega) rfl (ea_cons (ew_v 3) ea_nil)) (ea_cons (ew_call f_read_most hr hgd (by omega) rfl (ea_cons ew_int (ea_cons (ew_v 3) ea_nil))) ea_nil)))) ea_nil))))) ess_nil)
  (ess_one (es_frz [3] (es_ret (fun e => nomatch e) (ew_call f_read_most hr hgd (by omega) rfl (ea_cons (ew_at (ew_vb 0) (EW.toB ew_int)) (ea_cons (ew_v 3) ea_nil))))))))))))))))
def fn_read_by : Nat → Fn
  | 0 => fun _ _ => False
  | n + 1 => gBody .S 5 (g_read_by (fn_read_by n))
theorem w_read_by {f : Addr} {fd : FuncData} (F : Fun K "read_by" "read_by" s_read_by f fd) (hm : mg "read_by" = some (.ref f)) (hb : Binds K fd ["formula", "opened"] []) (f_parts_of : FnW P w K mg base 1 "parts_of" ["formula"] .S fn_parts_of) (f_turned : FnW P w K mg base 1 "turned" ["read"] .S fn_turned) (f_read_all : FnW P w K mg base 1 "read_all" ["some"] .S fn_read_all) (f_read_any : FnW P w K mg base 2 "read_any" ["some"] .S fn_read_any) (f_read_most : FnW P w K mg base 1 "read_most" ["number", "some"] .S fn_read_most) : ∀ n : Nat, FnW P w K mg base (2 + n) "read_by" ["formula", "opened"] .S (fn_read_by n)
  | 0 => ⟨fun _ _ _ _ q => q.elim, f, fd, hm, F.kp, hb, vac_fnG⟩
  | n + 1 => by
    have ih := w_read_by F hm hb f_parts_of f_turned f_read_all f_read_any f_read_most n
    exact ⟨mono_gBody, f, fd, hm, F.kp, hb, b_read_by F n f_parts_of f_turned f_read_all f_read_any f_read_most ih⟩
/-! read_open -/
abbrev s_read_open : Stmt := topS 51
theorem c_read_open : FnScope ["switches", "formula", "opened"] ["switches", "formula", "opened"] (defScope s_read_open) := ⟨rfl, rfl, rfl, by decide +kernel, rfl, by decide +kernel, by decide +kernel⟩
def g_read_open : Ev → W Rs := (wSeq (wDrop (wCallD 1 [.int 1] fn_check_switches (wCons (wV 0) wNil)))
  (wSeq (wDrop (wCall 2 fn_check_formula (wCons (wV 0) (wCons (wV 1) wNil))))
  (wSeq (wDrop (wCall 2 fn_check_open (wCons (wV 0) (wCons (wV 2) wNil))))
  (wRet (wCall 2 (fn_read_by 9) (wCons (wV 1) (wCons (wV 2) wNil)))))))
theorem b_read_open {f : Addr} {fd : FuncData} (F : Fun K "read_open" "read_open" s_read_open f fd) (f_check_formula : FnW P w K mg base 16 "check_formula" ["switches", "value"] .S fn_check_formula) (f_check_open : FnW P w K mg base 2 "check_open" ["switches", "value"] .S fn_check_open) (f_read_by : FnW P w K mg base 11 "read_by" ["formula", "opened"] .S (fn_read_by 9)) (d1_check_switches : FnD P w K mg base 3 "check_switches" 1 [.int 1] .S fn_check_switches) : FnG P w K mg base CX0 (16 + 1) f fd ["switches", "formula", "opened"] (spW K .S 3 (gBody .S 3 g_read_open)) :=
  fnG_body (m := .S) (g := g_read_open) (N := ["switches", "formula", "opened"]) F c_read_open fun cdv A outer s H E hr hgd => (ess_cons (es_expr (EW.toB (ew_callD d1_check_switches hr hgd (by omega) rfl (ea_cons (ew_v 0) ea_nil))))
  (ess_cons (es_expr (EW.toB (ew_call f_check_formula hr hgd (by omega) rfl (ea_cons (ew_v 0) (ea_cons (ew_v 1) ea_nil)))))
  (ess_cons (es_expr (EW.toB (ew_call f_check_open hr hgd (by omega) rfl (ea_cons (ew_v 0) (ea_cons (ew_v 2) ea_nil)))))
  (ess_one (es_ret (fun e => nomatch e) (ew_call f_read_by hr hgd (by omega) rfl (ea_cons (ew_v 1) (ea_cons (ew_v 2) ea_nil))))))))
def fn_read_open : Fn := gBody .S 3 g_read_open
theorem w_read_open {f : Addr} {fd : FuncData} (F : Fun K "read_open" "read_open" s_read_open f fd) (hm : mg "read_open" = some (.ref f)) (hb : Binds K fd ["switches", "formula", "opened"] []) (f_check_formula : FnW P w K mg base 16 "check_formula" ["switches", "value"] .S fn_check_formula) (f_check_open : FnW P w K mg base 2 "check_open" ["switches", "value"] .S fn_check_open) (f_read_by : FnW P w K mg base 11 "read_by" ["formula", "opened"] .S (fn_read_by 9)) (d1_check_switches : FnD P w K mg base 3 "check_switches" 1 [.int 1] .S fn_check_switches) : FnW P w K mg base 17 "read_open" ["switches", "formula", "opened"] .S fn_read_open :=
  ⟨mono_gBody, f, fd, hm, F.kp, hb, b_read_open F f_check_formula f_check_open f_read_by d1_check_switches⟩
/-! _law_mixed -/
abbrev s_law_mixed : Stmt := topS 56
theorem c_law_mixed : FnScope ["pot", "some", "left", "found"] ["pot", "some"] (defScope s_law_mixed) := ⟨rfl, rfl, rfl, by decide +kernel, rfl, by decide +kernel, by decide +kernel⟩
def g_law_mixed : Ev → W Rs := (wSeq (wParF0 2 3 (wU listD (wVb 1)))
  (wSeq (wWh (wT (wB neD (wVb 2) (wLst wNil))) (wAppPop 3 2 (wCall 2 drawF (wCons (wV 0) (wCons (wU lenD (wVb 2)) wNil)))))
  (wFrz [3] (wRet (wV 3)))))
theorem b_law_mixed {f : Addr} {fd : FuncData} (F : Fun K "_law_mixed" "_law_mixed" s_law_mixed f fd) (n_list : mg "list" = none) (n_len : mg "len" = none) (f_law_draw : FnW P w K mg base 1 "_law_draw" ["pot", "many"] .S drawF) : FnG P w K mg base CX0 (1 + 1) f fd ["pot", "some"] (spW K .S 2 (gBody .S 4 g_law_mixed)) :=
  fnG_body (m := .S) (g := g_law_mixed) (N := ["pot", "some", "left", "found"]) F c_law_mixed fun cdv A outer s H E hr hgd => (ess_cons (es_parF0 (i := 2) (j := 3) (ew_list rfl n_list (ew_vb 1)) (fun h => ps_par rfl c_law_mixed.nd rfl rfl (by decide) rfl rfl h rfl))
  (ess_cons (es_while PassesOwn.never (eb_ne hr.units (ew_vb 2) (EW.toB (ew_lst ea_nil))) (ess_one (es_appPop 3 2 (EW.toB (ew_call f_law_draw hr hgd (by omega) rfl (ea_cons (ew_v 0) (ea_cons (ew_len rfl n_len (ew_vb 2)) ea_nil)))) (fun h => pe_bm PySem.F.plainAttrs_list PySem.F.slot_list_append PySem.F.type_list_append mt_append (pv 3) (pa_cons (pe_bm PySem.F.plainAttrs_list PySem.F.slot_list_pop PySem.F.type_list_pop mt_popAt (pv 2) (pa_cons h pa_nil)) pa_nil)))))
  (ess_one (es_frz [3] (es_ret (fun e => nomatch e) (ew_v 3))))))
def fn_law_mixed : Fn := gBody .S 4 g_law_mixed
theorem w_law_mixed {f : Addr} {fd : FuncData} (F : Fun K "_law_mixed" "_law_mixed" s_law_mixed f fd) (hm : mg "_law_mixed" = some (.ref f)) (hb : Binds K fd ["pot", "some"] []) (n_list : mg "list" = none) (n_len : mg "len" = none) (f_law_draw : FnW P w K mg base 1 "_law_draw" ["pot", "many"] .S drawF) : FnW P w K mg base 2 "_law_mixed" ["pot", "some"] .S fn_law_mixed :=
  ⟨mono_gBody, f, fd, hm, F.kp, hb, b_law_mixed F n_list n_len f_law_draw⟩
/-! size -/
abbrev s_size : Stmt := topS 35
theorem c_size : FnScope ["switches", "formula"] ["switches", "formula"] (defScope s_size) := ⟨rfl, rfl, rfl, by decide +kernel, rfl, by decide +kernel, by decide +kernel⟩
def g_size : Ev → W Rs := (wSeq (wDrop (wCallD 1 [.int 1] fn_check_switches (wCons (wV 0) wNil)))
  (wSeq (wDrop (wCall 2 fn_check_formula (wCons (wV 0) (wCons (wV 1) wNil))))
  (wRet (wCall 1 (fn_size_of 10) (wCons (wV 1) wNil)))))
theorem b_size {f : Addr} {fd : FuncData} (F : Fun K "size" "size" s_size f fd) (f_check_formula : FnW P w K mg base 16 "check_formula" ["switches", "value"] .S fn_check_formula) (f_size_of : FnW P w K mg base 11 "size_of" ["formula"] .S (fn_size_of 10)) (d1_check_switches : FnD P w K mg base 3 "check_switches" 1 [.int 1] .S fn_check_switches) : FnG P w K mg base CX0 (16 + 1) f fd ["switches", "formula"] (spW K .S 2 (gBody .S 2 g_size)) :=
  fnG_body (m := .S) (g := g_size) (N := ["switches", "formula"]) F c_size fun cdv A outer s H E hr hgd => (ess_cons (es_expr (EW.toB (ew_callD d1_check_switches hr hgd (by omega) rfl (ea_cons (ew_v 0) ea_nil))))
  (ess_cons (es_expr (EW.toB (ew_call f_check_formula hr hgd (by omega) rfl (ea_cons (ew_v 0) (ea_cons (ew_v 1) ea_nil)))))
  (ess_one (es_ret (fun e => nomatch e) (ew_call f_size_of hr hgd (by omega) rfl (ea_cons (ew_v 1) ea_nil))))))
def fn_size : Fn := gBody .S 2 g_size
theorem w_size {f : Addr} {fd : FuncData} (F : Fun K "size" "size" s_size f fd) (hm : mg "size" = some (.ref f)) (hb : Binds K fd ["switches", "formula"] []) (f_check_formula : FnW P w K mg base 16 "check_formula" ["switches", "value"] .S fn_check_formula) (f_size_of : FnW P w K mg base 11 "size_of" ["formula"] .S (fn_size_of 10)) (d1_check_switches : FnD P w K mg base 3 "check_switches" 1 [.int 1] .S fn_check_switches) : FnW P w K mg base 17 "size" ["switches", "formula"] .S fn_size :=
  ⟨mono_gBody, f, fd, hm, F.kp, hb, b_size F f_check_formula f_size_of d1_check_switches⟩
/-! named_in -/
abbrev s_named_in : Stmt := topS 30
theorem c_named_in : FnScope ["formula", "found", "part"] ["formula"] (defScope s_named_in) := ⟨rfl, rfl, rfl, by decide +kernel, rfl, by decide +kernel, by decide +kernel⟩
def g_named_in (self : Fn) : Ev → W Rs := (wSeq (wIf (wT (wB eqD (wB ixD (wVb 0) (wC (.int 0))) (wC (.str "on")))) (wRet (wLst (wCons (wB ixD (wVb 0) (wC (.int 1))) wNil))) wSkip)
  (wSeq (wSetF 1 (wLst wNil))
  (wSeq (wFor (wItems (wCall 1 fn_parts_of (wCons (wV 0) wNil))) (stN 2) (wExt 1 (wCall 1 self (wCons (wV 2) wNil))))
  (wRetO 1))))
theorem b_named_in {f : Addr} {fd : FuncData} (F : Fun K "named_in" "named_in" s_named_in f fd) (n : Nat) {self : Fn} (f_parts_of : FnW P w K mg base 1 "parts_of" ["formula"] .S fn_parts_of) (f_self : FnW P w K mg base (1 + n) "named_in" ["formula"] .F self) : FnG P w K mg base CX0 (1 + n + 1) f fd ["formula"] (spW K .F 1 (gBody .F 3 (g_named_in self))) :=
  fnG_body (m := .F) (g := (g_named_in self)) (N := ["formula", "found", "part"]) F c_named_in fun cdv A outer s H E hr hgd => (ess_cons (es_if (eb_eq hr.units (EW.toB (ew_at (ew_vb 0) (EW.toB ew_int))) (EW.toB ew_str)) (ess_one (es_ret (fun e => nomatch e) (ew_lst (ea_cons (ew_at (ew_vb 0) (EW.toB ew_int)) ea_nil)))) ess_nil)
  (ess_cons (es_setF (i := 1) c_named_in.nd rfl (by first | exact Or.inl rfl | exact Or.inr rfl) (ew_lst ea_nil))
  (ess_cons (es_for PassesOwn.never rfl (ei_seq (ew_call f_parts_of hr hgd (by omega) rfl (ea_cons (ew_v 0) ea_nil))) (eg_name (i := 2) c_named_in.nd rfl (by first | exact Or.inl rfl | exact Or.inr rfl)) (ess_one (es_extend 1 (ew_call f_self hr hgd (by omega) rfl (ea_cons (ew_v 2) ea_nil)) (fun h => pe_bm PySem.F.plainAttrs_list PySem.F.slot_list_extend PySem.F.type_list_extend mt_extend (pv 1) (pa_cons h pa_nil)))))
  (ess_one (es_retO 1)))))
def fn_named_in : Nat → Fn
  | 0 => fun _ _ => False
  | n + 1 => gBody .F 3 (g_named_in (fn_named_in n))
theorem w_named_in {f : Addr} {fd : FuncData} (F : Fun K "named_in" "named_in" s_named_in f fd) (hm : mg "named_in" = some (.ref f)) (hb : Binds K fd ["formula"] []) (f_parts_of : FnW P w K mg base 1 "parts_of" ["formula"] .S fn_parts_of) : ∀ n : Nat, FnW P w K mg base (1 + n) "named_in" ["formula"] .F (fn_named_in n)
  | 0 => ⟨fun _ _ _ _ q => q.elim, f, fd, hm, F.kp, hb, vac_fnG⟩
  | n + 1 => by
    have ih := w_named_in F hm hb f_parts_of n
    exact ⟨mono_gBody, f, fd, hm, F.kp, hb, b_named_in F n f_parts_of ih⟩
/-! named -/
abbrev s_named : Stmt := topS 37
theorem c_named : FnScope ["switches", "formula"] ["switches", "formula"] (defScope s_named) := ⟨rfl, rfl, rfl, by decide +kernel, rfl, by decide +kernel, by decide +kernel⟩
def g_named : Ev → W Rs := (wSeq (wDrop (wCallD 1 [.int 1] fn_check_switches (wCons (wV 0) wNil)))
  (wSeq (wDrop (wCall 2 fn_check_formula (wCons (wV 0) (wCons (wV 1) wNil))))
  (wRet (wSortSet (wCall 1 (fn_named_in 10) (wCons (wV 1) wNil))))))
theorem b_named {f : Addr} {fd : FuncData} (F : Fun K "named" "named" s_named f fd) (n_sorted : mg "sorted" = none) (n_set : mg "set" = none) (f_check_formula : FnW P w K mg base 16 "check_formula" ["switches", "value"] .S fn_check_formula) (f_named_in : FnW P w K mg base 11 "named_in" ["formula"] .F (fn_named_in 10)) (d1_check_switches : FnD P w K mg base 3 "check_switches" 1 [.int 1] .S fn_check_switches) : FnG P w K mg base CX0 (16 + 1) f fd ["switches", "formula"] (spW K .S 2 (gBody .S 2 g_named)) :=
  fnG_body (m := .S) (g := g_named) (N := ["switches", "formula"]) F c_named fun cdv A outer s H E hr hgd => (ess_cons (es_expr (EW.toB (ew_callD d1_check_switches hr hgd (by omega) rfl (ea_cons (ew_v 0) ea_nil))))
  (ess_cons (es_expr (EW.toB (ew_call f_check_formula hr hgd (by omega) rfl (ea_cons (ew_v 0) (ea_cons (ew_v 1) ea_nil)))))
  (ess_one (es_ret (fun e => nomatch e) (EW.FS (ew_sortSet rfl n_sorted rfl n_set (EW.toB (ew_call f_named_in hr hgd (by omega) rfl (ea_cons (ew_v 1) ea_nil)))))))))
def fn_named : Fn := gBody .S 2 g_named
theorem w_named {f : Addr} {fd : FuncData} (F : Fun K "named" "named" s_named f fd) (hm : mg "named" = some (.ref f)) (hb : Binds K fd ["switches", "formula"] []) (n_sorted : mg "sorted" = none) (n_set : mg "set" = none) (f_check_formula : FnW P w K mg base 16 "check_formula" ["switches", "value"] .S fn_check_formula) (f_named_in : FnW P w K mg base 11 "named_in" ["formula"] .F (fn_named_in 10)) (d1_check_switches : FnD P w K mg base 3 "check_switches" 1 [.int 1] .S fn_check_switches) : FnW P w K mg base 17 "named" ["switches", "formula"] .S fn_named :=
  ⟨mono_gBody, f, fd, hm, F.kp, hb, b_named F n_sorted n_set f_check_formula f_named_in d1_check_switches⟩
/-! is_choice_of -/
abbrev s_is_choice_of : Stmt := topS 41
theorem c_is_choice_of : FnScope ["switches", "value", "one"] ["switches", "value"] (defScope s_is_choice_of) := ⟨rfl, rfl, rfl, by decide +kernel, rfl, by decide +kernel, by decide +kernel⟩
def g_is_choice_of : Ev → W Rs := (wRet (wAndV (wU (isiD .tuple) (wVb 1)) (wAndV (wB eqD (wU lenD (wVb 1)) (wVb 0)) (wU allD (wLc [2] (wItems (wV 1)) (stN 2) wYes (wU (isiD .bool) (wVb 2)))))))
theorem b_is_choice_of {f : Addr} {fd : FuncData} (F : Fun K "is_choice_of" "is_choice_of" s_is_choice_of f fd) (n_isinstance : mg "isinstance" = none) (n_bool : mg "bool" = none) (n_all : mg "all" = none) (n_len : mg "len" = none) (n_tuple : mg "tuple" = none) : FnG P w K mg base CX0 (0 + 1) f fd ["switches", "value"] (spW K .S 2 (gBody .S 3 g_is_choice_of)) :=
  fnG_body (m := .S) (g := g_is_choice_of) (N := ["switches", "value", "one"]) F c_is_choice_of fun cdv A outer s H E hr hgd => (ess_one (es_ret (fun e => nomatch e) (ew_and (ew_isi .tuple rfl n_isinstance rfl n_tuple (by decide +kernel) (ew_vb 1)) (ew_and (ew_eq hr.units (EW.toB (ew_len rfl n_len (ew_vb 1))) (ew_vb 0)) (ew_one (ew_all rfl n_all (EW.toB (ew_lc (own := [("one", 2)]) rfl c_is_choice_of.nd (ei_seq (ew_v 1)) (blkOk_by (by rfl)) (fun _ _ _ _ _ => (eg_name (i := 2) c_is_choice_of.nd rfl (by first | exact Or.inl rfl | exact Or.inr rfl))) (fun _ _ _ _ _ => ec_nil) (fun _ _ _ _ _ => (ew_isi .bool rfl n_isinstance rfl n_bool (by decide +kernel) (ew_vb 2)))))))))))
def fn_is_choice_of : Fn := gBody .S 3 g_is_choice_of
theorem w_is_choice_of {f : Addr} {fd : FuncData} (F : Fun K "is_choice_of" "is_choice_of" s_is_choice_of f fd) (hm : mg "is_choice_of" = some (.ref f)) (hb : Binds K fd ["switches", "value"] []) (n_isinstance : mg "isinstance" = none) (n_bool : mg "bool" = none) (n_all : mg "all" = none) (n_len : mg "len" = none) (n_tuple : mg "tuple" = none) : FnW P w K mg base 1 "is_choice_of" ["switches", "value"] .S fn_is_choice_of :=
  ⟨mono_gBody, f, fd, hm, F.kp, hb, b_is_choice_of F n_isinstance n_bool n_all n_len n_tuple⟩
/-! check_choice -/
abbrev s_check_choice : Stmt := topS 43
theorem c_check_choice : FnScope ["switches", "value"] ["switches", "value"] (defScope s_check_choice) := ⟨rfl, rfl, rfl, by decide +kernel, rfl, by decide +kernel, by decide +kernel⟩
def g_check_choice : Ev → W Rs := (wIf (wNot (wT (wCall 2 fn_is_choice_of (wCons (wV 0) (wCons (wV 1) wNil))))) wFail wSkip)
theorem b_check_choice {f : Addr} {fd : FuncData} (F : Fun K "check_choice" "check_choice" s_check_choice f fd) (f_is_choice_of : FnW P w K mg base 1 "is_choice_of" ["switches", "value"] .S fn_is_choice_of) : FnG P w K mg base CX0 (1 + 1) f fd ["switches", "value"] (spW K .S 2 (gBody .S 2 g_check_choice)) :=
  fnG_body (m := .S) (g := g_check_choice) (N := ["switches", "value"]) F c_check_choice fun cdv A outer s H E hr hgd => (ess_one (es_if (eb_not (eb_val (EW.toB (ew_call f_is_choice_of hr hgd (by omega) rfl (ea_cons (ew_v 0) (ea_cons (ew_v 1) ea_nil)))))) (ess_one es_fail) ess_nil))
def fn_check_choice : Fn := gBody .S 2 g_check_choice
theorem w_check_choice {f : Addr} {fd : FuncData} (F : Fun K "check_choice" "check_choice" s_check_choice f fd) (hm : mg "check_choice" = some (.ref f)) (hb : Binds K fd ["switches", "value"] []) (f_is_choice_of : FnW P w K mg base 1 "is_choice_of" ["switches", "value"] .S fn_is_choice_of) : FnW P w K mg base 2 "check_choice" ["switches", "value"] .S fn_check_choice :=
  ⟨mono_gBody, f, fd, hm, F.kp, hb, b_check_choice F f_is_choice_of⟩
/-! holds -/
abbrev s_holds : Stmt := topS 50
theorem c_holds : FnScope ["switches", "formula", "choice"] ["switches", "formula", "choice"] (defScope s_holds) := ⟨rfl, rfl, rfl, by decide +kernel, rfl, by decide +kernel, by decide +kernel⟩
def g_holds : Ev → W Rs := (wSeq (wDrop (wCallD 1 [.int 1] fn_check_switches (wCons (wV 0) wNil)))
  (wSeq (wDrop (wCall 2 fn_check_formula (wCons (wV 0) (wCons (wV 1) wNil))))
  (wSeq (wDrop (wCall 2 fn_check_choice (wCons (wV 0) (wCons (wV 2) wNil))))
  (wRet (wCall 2 (fn_read_by 9) (wCons (wV 1) (wCons (wV 2) wNil)))))))
theorem b_holds {f : Addr} {fd : FuncData} (F : Fun K "holds" "holds" s_holds f fd) (f_check_formula : FnW P w K mg base 16 "check_formula" ["switches", "value"] .S fn_check_formula) (f_check_choice : FnW P w K mg base 2 "check_choice" ["switches", "value"] .S fn_check_choice) (f_read_by : FnW P w K mg base 11 "read_by" ["formula", "opened"] .S (fn_read_by 9)) (d1_check_switches : FnD P w K mg base 3 "check_switches" 1 [.int 1] .S fn_check_switches) : FnG P w K mg base CX0 (16 + 1) f fd ["switches", "formula", "choice"] (spW K .S 3 (gBody .S 3 g_holds)) :=
  fnG_body (m := .S) (g := g_holds) (N := ["switches", "formula", "choice"]) F c_holds fun cdv A outer s H E hr hgd => (ess_cons (es_expr (EW.toB (ew_callD d1_check_switches hr hgd (by omega) rfl (ea_cons (ew_v 0) ea_nil))))
  (ess_cons (es_expr (EW.toB (ew_call f_check_formula hr hgd (by omega) rfl (ea_cons (ew_v 0) (ea_cons (ew_v 1) ea_nil)))))
  (ess_cons (es_expr (EW.toB (ew_call f_check_choice hr hgd (by omega) rfl (ea_cons (ew_v 0) (ea_cons (ew_v 2) ea_nil)))))
  (ess_one (es_ret (fun e => nomatch e) (ew_call f_read_by hr hgd (by omega) rfl (ea_cons (ew_v 1) (ea_cons (ew_v 2) ea_nil))))))))
def fn_holds : Fn := gBody .S 3 g_holds
theorem w_holds {f : Addr} {fd : FuncData} (F : Fun K "holds" "holds" s_holds f fd) (hm : mg "holds" = some (.ref f)) (hb : Binds K fd ["switches", "formula", "choice"] []) (f_check_formula : FnW P w K mg base 16 "check_formula" ["switches", "value"] .S fn_check_formula) (f_check_choice : FnW P w K mg base 2 "check_choice" ["switches", "value"] .S fn_check_choice) (f_read_by : FnW P w K mg base 11 "read_by" ["formula", "opened"] .S (fn_read_by 9)) (d1_check_switches : FnD P w K mg base 3 "check_switches" 1 [.int 1] .S fn_check_switches) : FnW P w K mg base 17 "holds" ["switches", "formula", "choice"] .S fn_holds :=
  ⟨mono_gBody, f, fd, hm, F.kp, hb, b_holds F f_check_formula f_check_choice f_read_by d1_check_switches⟩
/-! _law_heaps_right -/
abbrev s_law_heaps_right : Stmt := topS 58
theorem c_law_heaps_right : FnScope ["pot", "switches", "some", "many", "left", "opened", "at", "switch", "parts", "rows", "is_one", "number", "formula", "due", "named_so", "choice", "one"] ["pot"] (defScope s_law_heaps_right) := ⟨rfl, rfl, rfl, by decide +kernel, rfl, by decide +kernel, by decide +kernel⟩
def g_law_heaps_right : Ev → W Rs := (wSeq (wSet 1 (wB addAD (wC (.int 8)) (wCall 2 drawF (wCons (wV 0) (wCons (wC (.int 5)) wNil)))))
  (wSeq (wPar 2 3 (wCons (wSl (wCall 2 fn_law_mixed (wCons (wV 0) (wCons (wLRg (wV 1)) wNil))) wNo (wPart (wC (.int 8)))) (wCons (wCall 2 drawF (wCons (wV 0) (wCons (wC (.int 9)) wNil))) wNil)))
  (wSeq (wSet 4 (wCall 2 drawF (wCons (wV 0) (wCons (wB subD (wC (.int 9)) (wVb 3)) wNil))))
  (wSeq (wSetF 5 (wLc [7] (wRange1 (wV 1)) (stN 7) wYes (wCall 2 fn_law_pick (wCons (wV 0) (wCons (wLst (wCons (wC (.bool true)) (wCons (wC (.bool false)) (wCons (wC .none) wNil)))) wNil)))))
  (wSeq (wFor (wEnum (wV 2)) (stT [6, 7]) (wPut 5 (wVb 7) (wIf (wT (wB ltI (wVb 6) (wVb 3))) (wC (.bool true)) (wIf (wT (wB ltI (wVb 6) (wB addAD (wVb 3) (wVb 4)))) (wC .none) (wC (.bool false))))))
  (wSeq (wSet 5 (wU tupleD (wVb 5)))
  (wSeq (wSet 8 (wCall 1 fn_law_ons (wCons (wV 2) wNil)))
  (wSeq (wSetF 9 (wLst (wCons (wTup (wCons (wB addAD (wTup (wCons (wC (.str "and")) wNil)) (wVb 8)) (wCons (wIf (wT (wB eqD (wVb 3) (wC (.int 8)))) (wC (.bool true)) (wIf (wT (wB eqD (wB addAD (wVb 3) (wVb 4)) (wC (.int 8)))) (wC .none) (wC (.bool false)))) wNil))) wNil)))
  (wSeq (wApp 9 (wTup (wCons (wB addAD (wTup (wCons (wC (.str "or")) wNil)) (wVb 8)) (wCons (wIf (wT (wB gtI (wVb 3) (wC (.int 0)))) (wC (.bool true)) (wIf (wT (wB gtI (wVb 4) (wC (.int 0)))) (wC .none) (wC (.bool false)))) wNil))))
  (wSeq (wSet 10 (wOrV (wB gtI (wVb 3) (wC (.int 1))) (wB eqD (wB addAD (wVb 3) (wVb 4)) (wC (.int 0)))))
  (wSeq (wApp 9 (wTup (wCons (wB addAD (wTup (wCons (wC (.str "one")) wNil)) (wVb 8)) (wCons (wIf (wT (wVb 10)) (wC (.bool false)) (wIf (wAnd (wT (wB eqD (wVb 3) (wC (.int 1)))) (wT (wB eqD (wVb 4) (wC (.int 0))))) (wC (.bool true)) (wC .none))) wNil))))
  (wSeq (wFor (wRange1 (wC (.int 8))) (stN 11) (wSeq (wSet 13 (wIf (wT (wB gtI (wVb 3) (wVb 11))) (wC (.bool false)) (wIf (wT (wB leI (wB addAD (wVb 3) (wVb 4)) (wVb 11))) (wC (.bool true)) (wC .none))))
  (wSeq (wApp 9 (wTup (wCons (wB addAD (wTup (wCons (wC (.str "most")) (wCons (wV 11) wNil))) (wVb 8)) (wCons (wV 13) wNil))))
  (wApp 9 (wTup (wCons (wTup (wCons (wC (.str "not")) (wCons (wB addAD (wTup (wCons (wC (.str "most")) (wCons (wV 11) wNil))) (wVb 8)) wNil))) (wCons (wIf (wT (wB (isNonD false) (wVb 13) (wC .none))) (wC .none) (wNotV (wV 13))) wNil)))))))
  (wSeq (wFrz [9] (wFor (wItems (wV 9)) (stT [12, 13]) (wSeq (wFrz [5] (wSet 14 (wCallK 0 3 [2, 1, 0] fn_read_open wNil (wCons (wV 5) (wCons (wV 12) (wCons (wV 1) wNil))))))
  (wSeq (wFrz [5] (wIf (wT (wB neD (wU reprD (wLst (wCons (wCall 3 fn_read_open (wCons (wV 1) (wCons (wV 12) (wCons (wV 5) wNil)))) (wCons (wV 14) wNil)))) (wU reprD (wLst (wCons (wV 13) (wCons (wV 13) wNil)))))) (wRet (wC (.bool false))) wSkip))
  (wSeq (wIf (wT (wB neD (wLst (wCons (wCall 2 fn_size (wCons (wV 1) (wCons (wV 12) wNil))) (wCons (wCall 2 fn_named (wCons (wV 1) (wCons (wV 12) wNil))) wNil))) (wLst (wCons (wB addAD (wC (.int 9)) (wU intD (wB eqD (wB ixD (wVb 12) (wC (.int 0))) (wC (.str "not"))))) (wCons (wU sortD (wVb 2)) wNil))))) (wRet (wC (.bool false))) wSkip)
  (wSeq (wFrz [5] (wSet 15 (wU tupleD (wLc [16] (wItems (wV 5)) (stN 16) wYes (wB (isBD false) (wVb 16) (wC (.bool true)))))))
  (wIf (wAnd (wT (wB eqD (wVb 4) (wC (.int 0)))) (wAnd (wT (wB (inD true) (wC .none) (wVb 5))) (wT (wB neD (wU reprD (wCall 3 fn_holds (wCons (wV 1) (wCons (wV 12) (wCons (wV 15) wNil))))) (wU reprD (wVb 13)))))) (wRet (wC (.bool false))) wSkip)))))))
  (wRet (wC (.bool true))))))))))))))))
theorem b_law_heaps_right {f : Addr} {fd : FuncData} (F : Fun K "_law_heaps_right" "_law_heaps_right" s_law_heaps_right f fd) (n_list : mg "list" = none) (n_range : mg "range" = none) (n_enumerate : mg "enumerate" = none) (n_tuple : mg "tuple" = none) (n_repr : mg "repr" = none) (n_int : mg "int" = none) (n_sorted : mg "sorted" = none) (f_law_draw : FnW P w K mg base 1 "_law_draw" ["pot", "many"] .S drawF) (f_law_mixed : FnW P w K mg base 2 "_law_mixed" ["pot", "some"] .S fn_law_mixed) (f_law_pick : FnW P w K mg base 2 "_law_pick" ["pot", "some"] .S fn_law_pick) (f_law_ons : FnW P w K mg base 1 "_law_ons" ["some"] .S fn_law_ons) (f_read_open : FnW P w K mg base 17 "read_open" ["switches", "formula", "opened"] .S fn_read_open) (f_size : FnW P w K mg base 17 "size" ["switches", "formula"] .S fn_size) (f_named : FnW P w K mg base 17 "named" ["switches", "formula"] .S fn_named) (f_holds : FnW P w K mg base 17 "holds" ["switches", "formula", "choice"] .S fn_holds) (k0_read_open : FnK P w K mg base 17 "read_open" ["opened", "formula", "switches"] 0 [2, 1, 0] .S fn_read_open) : FnG P w K mg base CX0 (17 + 1) f fd ["pot"] (spW K .S 1 (gBody .S 17 g_law_heaps_right)) :=
  fnG_body (m := .S) (g := g_law_heaps_right) (N := ["pot", "switches", "some", "many", "left", "opened", "at", "switch", "parts", "rows", "is_one", "number", "formula", "due", "named_so", "choice", "one"]) F c_law_heaps_right fun cdv A outer s H E hr hgd => (ess_cons (es_set (i := 1) c_law_heaps_right.nd rfl (by first | exact Or.inl rfl | exact Or.inr rfl) (ew_addA (EW.toB ew_int) (EW.toB (ew_call f_law_draw hr hgd (by omega) rfl (ea_cons (ew_v 0) (ea_cons ew_int ea_nil))))))
  (ess_cons (es_par (i := 2) (j := 3) rfl c_law_heaps_right.nd rfl rfl (by decide) (ea_cons (ew_slice (EW.toB (ew_call f_law_mixed hr hgd (by omega) rfl (ea_cons (ew_v 0) (ea_cons (EW.FS (ew_lrg rfl n_list rfl n_range (ew_v 1))) ea_nil)))) eo_none (eo_some (EW.toB ew_int))) (ea_cons (ew_call f_law_draw hr hgd (by omega) rfl (ea_cons (ew_v 0) (ea_cons ew_int ea_nil))) ea_nil)) (fun h => ps_par rfl c_law_heaps_right.nd rfl rfl (by decide) rfl rfl h rfl))
  (ess_cons (es_set (i := 4) c_law_heaps_right.nd rfl (by first | exact Or.inl rfl | exact Or.inr rfl) (ew_call f_law_draw hr hgd (by omega) rfl (ea_cons (ew_v 0) (ea_cons (ew_sub (EW.toB ew_int) (ew_vb 3)) ea_nil))))
  (ess_cons (es_setLc (i := 5) (own := [("switch", 7)]) rfl c_law_heaps_right.nd rfl rfl (L2.sw_true rfl rfl rfl (by decide +kernel)) (ei_range1 rfl n_range (ew_v 1)) (blkOk_by (by rfl)) (fun _ _ _ _ _ => (eg_name (i := 7) c_law_heaps_right.nd rfl (by first | exact Or.inl rfl | exact Or.inr rfl))) (fun _ _ _ _ _ => ec_nil) (fun _ _ _ _ _ => (ew_call f_law_pick hr hgd (by omega) rfl (ea_cons (ew_v 0) (ea_cons (EW.FS (ew_lst (ea_cons ew_bl (ea_cons ew_bl (ea_cons ew_non ea_nil))))) ea_nil)))))
  (ess_cons (es_for PassesOwn.never rfl (ei_enum rfl n_enumerate (ew_v 2)) (eg_tup rfl (egs_cons (eg_name (i := 6) c_law_heaps_right.nd rfl (by first | exact Or.inl rfl | exact Or.inr rfl)) (egs_cons (eg_name (i := 7) c_law_heaps_right.nd rfl (by first | exact Or.inl rfl | exact Or.inr rfl)) egs_nil))) (ess_one (es_put 5 (ew_vb 7) (ew_if (eb_lt (ew_vb 6) (ew_vb 3)) ew_bl (ew_if (eb_lt (ew_vb 6) (EW.toB (ew_addA (ew_vb 3) (ew_vb 4)))) ew_non ew_bl)) (fun hk he => ps_asg he (pg_sub (pv 5) hk set_list)))))
  (ess_cons (es_set (i := 5) c_law_heaps_right.nd rfl (by first | exact Or.inl rfl | exact Or.inr rfl) (ew_tuple rfl n_tuple (ew_vb 5)))
  (ess_cons (es_set (i := 8) c_law_heaps_right.nd rfl (by first | exact Or.inl rfl | exact Or.inr rfl) (ew_call f_law_ons hr hgd (by omega) rfl (ea_cons (ew_v 2) ea_nil)))
  (ess_cons (es_setF (i := 9) c_law_heaps_right.nd rfl (by first | exact Or.inl rfl | exact Or.inr rfl) (ew_lst (ea_cons (ew_tup (ea_cons (ew_addA (EW.toB (ew_tup (ea_cons ew_str ea_nil))) (ew_vb 8)) (ea_cons (ew_if (eb_eq hr.units (ew_vb 3) (EW.toB ew_int)) ew_bl (ew_if (eb_eq hr.units (EW.toB (ew_addA (ew_vb 3) (ew_vb 4))) (EW.toB ew_int)) ew_non ew_bl)) ea_nil))) ea_nil)))
  (ess_cons (es_append 9 (ew_tup (ea_cons (ew_addA (EW.toB (ew_tup (ea_cons ew_str ea_nil))) (ew_vb 8)) (ea_cons (ew_if (eb_gt (ew_vb 3) (EW.toB ew_int)) ew_bl (ew_if (eb_gt (ew_vb 4) (EW.toB ew_int)) ew_non ew_bl)) ea_nil))) (fun h => pe_bm PySem.F.plainAttrs_list PySem.F.slot_list_append PySem.F.type_list_append mt_append (pv 9) (pa_cons h pa_nil)))
  (ess_cons (es_set (i := 10) c_law_heaps_right.nd rfl (by first | exact Or.inl rfl | exact Or.inr rfl) (ew_or (ew_gt (ew_vb 3) (EW.toB ew_int)) (ew_one (ew_eq hr.units (EW.toB (ew_addA (ew_vb 3) (ew_vb 4))) (EW.toB ew_int)))))
  (ess_cons (es_append 9 (ew_tup (ea_cons (ew_addA (EW.toB (ew_tup (ea_cons ew_str ea_nil))) (ew_vb 8)) (ea_cons (ew_if (eb_val (ew_vb 10)) ew_bl (ew_if (eb_and (eb_eq hr.units (ew_vb 3) (EW.toB ew_int)) (ebw_and1 (eb_eq hr.units (ew_vb 4) (EW.toB ew_int)))) ew_bl ew_non)) ea_nil))) (fun h => pe_bm PySem.F.plainAttrs_list PySem.F.slot_list_append PySem.F.type_list_append mt_append (pv 9) (pa_cons h pa_nil)))
  (ess_cons (es_for PassesOwn.never rfl (ei_range1 rfl n_range ew_int) (eg_name (i := 11) c_law_heaps_right.nd rfl (by first | exact Or.inl rfl | exact Or.inr rfl)) (ess_cons (es_set (i := 13) c_law_heaps_right.nd rfl (by first | exact Or.inl rfl | exact Or.inr rfl) (ew_if (eb_gt (ew_vb 3) (ew_vb 11)) ew_bl (ew_if (eb_le (EW.toB (ew_addA (ew_vb 3) (ew_vb 4))) (ew_vb 11)) ew_bl ew_non)))
  (ess_cons (es_append 9 (ew_tup (ea_cons (ew_addA (EW.toB (ew_tup (ea_cons ew_str (ea_cons (ew_v 11) ea_nil)))) (ew_vb 8)) (ea_cons (ew_v 13) ea_nil))) (fun h => pe_bm PySem.F.plainAttrs_list PySem.F.slot_list_append PySem.F.type_list_append mt_append (pv 9) (pa_cons h pa_nil)))
  (ess_one (es_append 9 (ew_tup (ea_cons (ew_tup (ea_cons ew_str (ea_cons (ew_addA (EW.toB (ew_tup (ea_cons ew_str (ea_cons (ew_v 11) ea_nil)))) (ew_vb 8)) ea_nil))) (ea_cons (ew_if (eb_isN (ew_vb 13)) ew_non (ew_not (ew_v 13))) ea_nil))) (fun h => pe_bm PySem.F.plainAttrs_list PySem.F.slot_list_append PySem.F.type_list_append mt_append (pv 9) (pa_cons h pa_nil)))))))
  (ess_cons (es_frz [9] (es_for PassesOwn.never rfl (ei_seq (ew_v 9)) (eg_tup rfl (egs_cons (eg_name (i := 12) c_law_heaps_right.nd rfl (by first | exact Or.inl rfl | exact Or.inr rfl)) (egs_cons (eg_name (i := 13) c_law_heaps_right.nd rfl (by first | exact Or.inl rfl | exact Or.inr rfl)) egs_nil))) (ess_cons (es_frz [5] (es_set (i := 14) c_law_heaps_right.nd rfl (by first | exact Or.inl rfl | exact Or.inr rfl) (ew_callK0 k0_read_open hr hgd (by omega) rfl (ek_cons (ew_v 5) (ek_cons (ew_v 12) (ek_cons (ew_v 1) ek_nil))))))
  (ess_cons (es_frz [5] (es_if (eb_ne hr.units (EW.toB (ew_repr hgd hr.units rfl n_repr (EW.toB (ew_lst (ea_cons (ew_call f_read_open hr hgd (by omega) rfl (ea_cons (ew_v 1) (ea_cons (ew_v 12) (ea_cons (ew_v 5) ea_nil)))) (ea_cons (ew_v 14) ea_nil)))))) (EW.toB (ew_repr hgd hr.units rfl n_repr (EW.toB (ew_lst (ea_cons (ew_v 13) (ea_cons (ew_v 13) ea_nil))))))) (ess_one (es_ret (fun e => nomatch e) ew_bl)) ess_nil))
  (ess_cons (es_if (eb_ne hr.units (EW.toB (ew_lst (ea_cons (ew_call f_size hr hgd (by omega) rfl (ea_cons (ew_v 1) (ea_cons (ew_v 12) ea_nil))) (ea_cons (ew_call f_named hr hgd (by omega) rfl (ea_cons (ew_v 1) (ea_cons (ew_v 12) ea_nil))) ea_nil)))) (EW.toB (ew_lst (ea_cons (ew_addA (EW.toB ew_int) (EW.toB (ew_int1 rfl n_int (EW.toB (ew_eq hr.units (EW.toB (ew_at (ew_vb 12) (EW.toB ew_int))) (EW.toB ew_str)))))) (ea_cons (EW.FS (ew_sorted hr.units rfl n_sorted (ew_vb 2))) ea_nil))))) (ess_one (es_ret (fun e => nomatch e) ew_bl)) ess_nil)
  (ess_cons (es_frz [5] (es_set (i := 15) c_law_heaps_right.nd rfl (by first | exact Or.inl rfl | exact Or.inr rfl) (ew_tuple rfl n_tuple (EW.toB (ew_lc (own := [("one", 16)]) rfl c_law_heaps_right.nd (ei_seq (ew_v 5)) (blkOk_by (by rfl)) (fun _ _ _ _ _ => (eg_name (i := 16) c_law_heaps_right.nd rfl (by first | exact Or.inl rfl | exact Or.inr rfl))) (fun _ _ _ _ _ => ec_nil) (fun _ _ _ _ _ => (ew_isB (ew_vb 16) (EW.toB ew_bl))))))))
  (ess_one (es_if (eb_and (eb_eq hr.units (ew_vb 4) (EW.toB ew_int)) (ebw_and (eb_notIn (EW.toB ew_non) (ew_vb 5)) (ebw_and1 (eb_ne hr.units (EW.toB (ew_repr hgd hr.units rfl n_repr (EW.toB (ew_call f_holds hr hgd (by omega) rfl (ea_cons (ew_v 1) (ea_cons (ew_v 12) (ea_cons (ew_v 15) ea_nil))))))) (EW.toB (ew_repr hgd hr.units rfl n_repr (ew_vb 13))))))) (ess_one (es_ret (fun e => nomatch e) ew_bl)) ess_nil))))))))
  (ess_one (es_ret (fun e => nomatch e) ew_bl)))))))))))))))
def fn_law_heaps_right : Fn := gBody .S 17 g_law_heaps_right
theorem w_law_heaps_right {f : Addr} {fd : FuncData} (F : Fun K "_law_heaps_right" "_law_heaps_right" s_law_heaps_right f fd) (hm : mg "_law_heaps_right" = some (.ref f)) (hb : Binds K fd ["pot"] []) (n_list : mg "list" = none) (n_range : mg "range" = none) (n_enumerate : mg "enumerate" = none) (n_tuple : mg "tuple" = none) (n_repr : mg "repr" = none) (n_int : mg "int" = none) (n_sorted : mg "sorted" = none) (f_law_draw : FnW P w K mg base 1 "_law_draw" ["pot", "many"] .S drawF) (f_law_mixed : FnW P w K mg base 2 "_law_mixed" ["pot", "some"] .S fn_law_mixed) (f_law_pick : FnW P w K mg base 2 "_law_pick" ["pot", "some"] .S fn_law_pick) (f_law_ons : FnW P w K mg base 1 "_law_ons" ["some"] .S fn_law_ons) (f_read_open : FnW P w K mg base 17 "read_open" ["switches", "formula", "opened"] .S fn_read_open) (f_size : FnW P w K mg base 17 "size" ["switches", "formula"] .S fn_size) (f_named : FnW P w K mg base 17 "named" ["switches", "formula"] .S fn_named) (f_holds : FnW P w K mg base 17 "holds" ["switches", "formula", "choice"] .S fn_holds) (k0_read_open : FnK P w K mg base 17 "read_open" ["opened", "formula", "switches"] 0 [2, 1, 0] .S fn_read_open) : FnW P w K mg base 18 "_law_heaps_right" ["pot"] .S fn_law_heaps_right :=
  ⟨mono_gBody, f, fd, hm, F.kp, hb, b_law_heaps_right F n_list n_range n_enumerate n_tuple n_repr n_int n_sorted f_law_draw f_law_mixed f_law_pick f_law_ons f_read_open f_size f_named f_holds k0_read_open⟩
/-! depth_of -/
abbrev s_depth_of : Stmt := topS 27
theorem c_depth_of : FnScope ["formula", "part"] ["formula"] (defScope s_depth_of) := ⟨rfl, rfl, rfl, by decide +kernel, rfl, by decide +kernel, by decide +kernel⟩
def g_depth_of (self : Fn) : Ev → W Rs := (wRet (wB addAD (wC (.int 1)) (wU maxD (wB catD (wLst (wCons (wC (.int 0)) wNil)) (wLc [1] (wItems (wCall 1 fn_parts_of (wCons (wV 0) wNil))) (stN 1) wYes (wCall 1 self (wCons (wV 1) wNil)))))))
theorem b_depth_of {f : Addr} {fd : FuncData} (F : Fun K "depth_of" "depth_of" s_depth_of f fd) (n : Nat) {self : Fn} (n_max : mg "max" = none) (f_parts_of : FnW P w K mg base 1 "parts_of" ["formula"] .S fn_parts_of) (f_self : FnW P w K mg base (1 + n) "depth_of" ["formula"] .S self) : FnG P w K mg base CX0 (1 + n + 1) f fd ["formula"] (spW K .S 1 (gBody .S 2 (g_depth_of self))) :=
  fnG_body (m := .S) (g := (g_depth_of self)) (N := ["formula", "part"]) F c_depth_of fun cdv A outer s H E hr hgd => (ess_one (es_ret (fun e => nomatch e) (ew_addA (EW.toB ew_int) (EW.toB (ew_max1 rfl n_max (EW.toB (ew_cat (EW.toB (ew_lst (ea_cons ew_int ea_nil))) (EW.toB (ew_lc (own := [("part", 1)]) rfl c_depth_of.nd (ei_seq (ew_call f_parts_of hr hgd (by omega) rfl (ea_cons (ew_v 0) ea_nil))) (blkOk_by (by rfl)) (fun _ _ _ _ _ => (eg_name (i := 1) c_depth_of.nd rfl (by first | exact Or.inl rfl | exact Or.inr rfl))) (fun _ _ _ _ _ => ec_nil) (fun _ _ _ _ _ => (ew_call f_self hr hgd (by omega) rfl (ea_cons (ew_v 1) ea_nil))))))))))))
def fn_depth_of : Nat → Fn
  | 0 => fun _ _ => False
  | n + 1 => gBody .S 2 (g_depth_of (fn_depth_of n))
theorem w_depth_of {f : Addr} {fd : FuncData} (F : Fun K "depth_of" "depth_of" s_depth_of f fd) (hm : mg "depth_of" = some (.ref f)) (hb : Binds K fd ["formula"] []) (n_max : mg "max" = none) (f_parts_of : FnW P w K mg base 1 "parts_of" ["formula"] .S fn_parts_of) : ∀ n : Nat, FnW P w K mg base (1 + n) "depth_of" ["formula"] .S (fn_depth_of n)
  | 0 => ⟨fun _ _ _ _ q => q.elim, f, fd, hm, F.kp, hb, vac_fnG⟩
  | n + 1 => by
    have ih := w_depth_of F hm hb n_max f_parts_of n
    exact ⟨mono_gBody, f, fd, hm, F.kp, hb, b_depth_of F n n_max f_parts_of ih⟩
/-! depth -/
abbrev s_depth : Stmt := topS 36
theorem c_depth : FnScope ["switches", "formula"] ["switches", "formula"] (defScope s_depth) := ⟨rfl, rfl, rfl, by decide +kernel, rfl, by decide +kernel, by decide +kernel⟩
def g_depth : Ev → W Rs := (wSeq (wDrop (wCallD 1 [.int 1] fn_check_switches (wCons (wV 0) wNil)))
  (wSeq (wDrop (wCall 2 fn_check_formula (wCons (wV 0) (wCons (wV 1) wNil))))
  (wRet (wCall 1 (fn_depth_of 10) (wCons (wV 1) wNil)))))
theorem b_depth {f : Addr} {fd : FuncData} (F : Fun K "depth" "depth" s_depth f fd) (f_check_formula : FnW P w K mg base 16 "check_formula" ["switches", "value"] .S fn_check_formula) (f_depth_of : FnW P w K mg base 11 "depth_of" ["formula"] .S (fn_depth_of 10)) (d1_check_switches : FnD P w K mg base 3 "check_switches" 1 [.int 1] .S fn_check_switches) : FnG P w K mg base CX0 (16 + 1) f fd ["switches", "formula"] (spW K .S 2 (gBody .S 2 g_depth)) :=
  fnG_body (m := .S) (g := g_depth) (N := ["switches", "formula"]) F c_depth fun cdv A outer s H E hr hgd => (ess_cons (es_expr (EW.toB (ew_callD d1_check_switches hr hgd (by omega) rfl (ea_cons (ew_v 0) ea_nil))))
  (ess_cons (es_expr (EW.toB (ew_call f_check_formula hr hgd (by omega) rfl (ea_cons (ew_v 0) (ea_cons (ew_v 1) ea_nil)))))
  (ess_one (es_ret (fun e => nomatch e) (ew_call f_depth_of hr hgd (by omega) rfl (ea_cons (ew_v 1) ea_nil))))))
def fn_depth : Fn := gBody .S 2 g_depth
theorem w_depth {f : Addr} {fd : FuncData} (F : Fun K "depth" "depth" s_depth f fd) (hm : mg "depth" = some (.ref f)) (hb : Binds K fd ["switches", "formula"] []) (f_check_formula : FnW P w K mg base 16 "check_formula" ["switches", "value"] .S fn_check_formula) (f_depth_of : FnW P w K mg base 11 "depth_of" ["formula"] .S (fn_depth_of 10)) (d1_check_switches : FnD P w K mg base 3 "check_switches" 1 [.int 1] .S fn_check_switches) : FnW P w K mg base 17 "depth" ["switches", "formula"] .S fn_depth :=
  ⟨mono_gBody, f, fd, hm, F.kp, hb, b_depth F f_check_formula f_depth_of d1_check_switches⟩
/-! check_switch -/
abbrev s_check_switch : Stmt := topS 14
theorem c_check_switch : FnScope ["switches", "value"] ["switches", "value"] (defScope s_check_switch) := ⟨rfl, rfl, rfl, by decide +kernel, rfl, by decide +kernel, by decide +kernel⟩
def g_check_switch : Ev → W Rs := (wIf (wNot (wT (wCall 2 fn_is_switch (wCons (wV 0) (wCons (wV 1) wNil))))) wFail wSkip)
theorem b_check_switch {f : Addr} {fd : FuncData} (F : Fun K "check_switch" "check_switch" s_check_switch f fd) (f_is_switch : FnW P w K mg base 3 "is_switch" ["switches", "value"] .S fn_is_switch) : FnG P w K mg base CX0 (3 + 1) f fd ["switches", "value"] (spW K .S 2 (gBody .S 2 g_check_switch)) :=
  fnG_body (m := .S) (g := g_check_switch) (N := ["switches", "value"]) F c_check_switch fun cdv A outer s H E hr hgd => (ess_one (es_if (eb_not (eb_val (EW.toB (ew_call f_is_switch hr hgd (by omega) rfl (ea_cons (ew_v 0) (ea_cons (ew_v 1) ea_nil)))))) (ess_one es_fail) ess_nil))
def fn_check_switch : Fn := gBody .S 2 g_check_switch
theorem w_check_switch {f : Addr} {fd : FuncData} (F : Fun K "check_switch" "check_switch" s_check_switch f fd) (hm : mg "check_switch" = some (.ref f)) (hb : Binds K fd ["switches", "value"] []) (f_is_switch : FnW P w K mg base 3 "is_switch" ["switches", "value"] .S fn_is_switch) : FnW P w K mg base 4 "check_switch" ["switches", "value"] .S fn_check_switch :=
  ⟨mono_gBody, f, fd, hm, F.kp, hb, b_check_switch F f_is_switch⟩
/-! check_on -/
abbrev s_check_on : Stmt := topS 15
theorem c_check_on : FnScope ["value"] ["value"] (defScope s_check_on) := ⟨rfl, rfl, rfl, by decide +kernel, rfl, by decide +kernel, by decide +kernel⟩
def g_check_on : Ev → W Rs := (wIf (wNot (wT (wU (isiD .bool) (wVb 0)))) wFail wSkip)
theorem b_check_on {f : Addr} {fd : FuncData} (F : Fun K "check_on" "check_on" s_check_on f fd) (n_isinstance : mg "isinstance" = none) (n_bool : mg "bool" = none) : FnG P w K mg base CX0 (0 + 1) f fd ["value"] (spW K .S 1 (gBody .S 1 g_check_on)) :=
  fnG_body (m := .S) (g := g_check_on) (N := ["value"]) F c_check_on fun cdv A outer s H E hr hgd => (ess_one (es_if (eb_not (eb_val (EW.toB (ew_isi .bool rfl n_isinstance rfl n_bool (by decide +kernel) (ew_vb 0))))) (ess_one es_fail) ess_nil))
def fn_check_on : Fn := gBody .S 1 g_check_on
theorem w_check_on {f : Addr} {fd : FuncData} (F : Fun K "check_on" "check_on" s_check_on f fd) (hm : mg "check_on" = some (.ref f)) (hb : Binds K fd ["value"] []) (n_isinstance : mg "isinstance" = none) (n_bool : mg "bool" = none) : FnW P w K mg base 1 "check_on" ["value"] .S fn_check_on :=
  ⟨mono_gBody, f, fd, hm, F.kp, hb, b_check_on F n_isinstance n_bool⟩
/-! fixed_at -/
abbrev s_fixed_at : Stmt := topS 34
theorem c_fixed_at : FnScope ["switch", "is_on", "late"] ["switch", "is_on", "late"] (defScope s_fixed_at) := ⟨rfl, rfl, rfl, by decide +kernel, rfl, by decide +kernel, by decide +kernel⟩
def g_fixed_at : Ev → W Rs := (wSeq (wIf (wT (wB neD (wVb 2) (wVb 0))) (wRet (wTup (wCons (wC (.str "on")) (wCons (wV 2) wNil)))) wSkip)
  (wRet (wIf (wT (wVb 1)) (wTup (wCons (wC (.str "yes")) wNil)) (wTup (wCons (wC (.str "no")) wNil)))))
theorem b_fixed_at {f : Addr} {fd : FuncData} (F : Fun K "fixed_at" "fixed_at" s_fixed_at f fd)  : FnG P w K mg base CX0 (0 + 1) f fd ["switch", "is_on", "late"] (spW K .S 3 (gBody .S 3 g_fixed_at)) :=
  fnG_body (m := .S) (g := g_fixed_at) (N := ["switch", "is_on", "late"]) F c_fixed_at fun cdv A outer s H E hr hgd => (ess_cons (es_if (eb_ne hr.units (ew_vb 2) (ew_vb 0)) (ess_one (es_ret (fun e => nomatch e) (ew_tup (ea_cons ew_str (ea_cons (ew_v 2) ea_nil))))) ess_nil)
  (ess_one (es_ret (fun e => nomatch e) (ew_if (eb_val (ew_vb 1)) (ew_tup (ea_cons ew_str ea_nil)) (ew_tup (ea_cons ew_str ea_nil))))))
def fn_fixed_at : Fn := gBody .S 3 g_fixed_at
theorem w_fixed_at {f : Addr} {fd : FuncData} (F : Fun K "fixed_at" "fixed_at" s_fixed_at f fd) (hm : mg "fixed_at" = some (.ref f)) (hb : Binds K fd ["switch", "is_on", "late"] [])  : FnW P w K mg base 1 "fixed_at" ["switch", "is_on", "late"] .S fn_fixed_at :=
  ⟨mono_gBody, f, fd, hm, F.kp, hb, b_fixed_at F ⟩
/-! turned_at -/
abbrev s_turned_at : Stmt := topS 33
theorem c_turned_at : FnScope ["switch", "late"] ["switch", "late"] (defScope s_turned_at) := ⟨rfl, rfl, rfl, by decide +kernel, rfl, by decide +kernel, by decide +kernel⟩
def g_turned_at : Ev → W Rs := (wRet (wIf (wT (wB eqD (wVb 1) (wVb 0))) (wTup (wCons (wC (.str "not")) (wCons (wTup (wCons (wC (.str "on")) (wCons (wV 1) wNil))) wNil))) (wTup (wCons (wC (.str "on")) (wCons (wV 1) wNil)))))
theorem b_turned_at {f : Addr} {fd : FuncData} (F : Fun K "turned_at" "turned_at" s_turned_at f fd)  : FnG P w K mg base CX0 (0 + 1) f fd ["switch", "late"] (spW K .S 2 (gBody .S 2 g_turned_at)) :=
  fnG_body (m := .S) (g := g_turned_at) (N := ["switch", "late"]) F c_turned_at fun cdv A outer s H E hr hgd => (ess_one (es_ret (fun e => nomatch e) (ew_if (eb_eq hr.units (ew_vb 1) (ew_vb 0)) (ew_tup (ea_cons ew_str (ea_cons (ew_tup (ea_cons ew_str (ea_cons (ew_v 1) ea_nil))) ea_nil))) (ew_tup (ea_cons ew_str (ea_cons (ew_v 1) ea_nil))))))
def fn_turned_at : Fn := gBody .S 2 g_turned_at
theorem w_turned_at {f : Addr} {fd : FuncData} (F : Fun K "turned_at" "turned_at" s_turned_at f fd) (hm : mg "turned_at" = some (.ref f)) (hb : Binds K fd ["switch", "late"] [])  : FnW P w K mg base 1 "turned_at" ["switch", "late"] .S fn_turned_at :=
  ⟨mono_gBody, f, fd, hm, F.kp, hb, b_turned_at F ⟩
/-! with_parts -/
abbrev s_with_parts : Stmt := topS 31
theorem c_with_parts : FnScope ["formula", "parts", "head"] ["formula", "parts"] (defScope s_with_parts) := ⟨rfl, rfl, rfl, by decide +kernel, rfl, by decide +kernel, by decide +kernel⟩
def g_with_parts : Ev → W Rs := (wSeq (wSet 2 (wIf (wT (wB eqD (wB ixD (wVb 0) (wC (.int 0))) (wC (.str "most")))) (wSl (wVb 0) wNo (wPart (wC (.int 2)))) (wSl (wVb 0) wNo (wPart (wC (.int 1))))))
  (wRet (wB addAD (wVb 2) (wU tupleD (wVb 1)))))
theorem b_with_parts {f : Addr} {fd : FuncData} (F : Fun K "with_parts" "with_parts" s_with_parts f fd) (n_tuple : mg "tuple" = none) : FnG P w K mg base CX0 (0 + 1) f fd ["formula", "parts"] (spW K .S 2 (gBody .S 3 g_with_parts)) :=
  fnG_body (m := .S) (g := g_with_parts) (N := ["formula", "parts", "head"]) F c_with_parts fun cdv A outer s H E hr hgd => (ess_cons (es_set (i := 2) c_with_parts.nd rfl (by first | exact Or.inl rfl | exact Or.inr rfl) (ew_if (eb_eq hr.units (EW.toB (ew_at (ew_vb 0) (EW.toB ew_int))) (EW.toB ew_str)) (ew_slice (ew_vb 0) eo_none (eo_some (EW.toB ew_int))) (ew_slice (ew_vb 0) eo_none (eo_some (EW.toB ew_int)))))
  (ess_one (es_ret (fun e => nomatch e) (ew_addA (ew_vb 2) (EW.toB (ew_tuple rfl n_tuple (ew_vb 1)))))))
def fn_with_parts : Fn := gBody .S 3 g_with_parts
theorem w_with_parts {f : Addr} {fd : FuncData} (F : Fun K "with_parts" "with_parts" s_with_parts f fd) (hm : mg "with_parts" = some (.ref f)) (hb : Binds K fd ["formula", "parts"] []) (n_tuple : mg "tuple" = none) : FnW P w K mg base 1 "with_parts" ["formula", "parts"] .S fn_with_parts :=
  ⟨mono_gBody, f, fd, hm, F.kp, hb, b_with_parts F n_tuple⟩
/-! the lambda 0, of fixed_formula -/
def g_lam0 : Ev → W PyData := (wCall 3 fn_fixed_at (wCons (wV 1) (wCons (wV 2) (wCons (wV 0) wNil))))
theorem ok_lam0 (f_fixed_at : FnW P w K mg base 1 "fixed_at" ["switch", "is_on", "late"] .S fn_fixed_at) : LamOk P w K mg base 2 1 lam0 (gLam 3 g_lam0) :=
  lam_of (N := ["late", "switch", "is_on"]) (ps := ["late"]) (NdefX.nscope_by (by decide +kernel)) (fun cl pm c' ctv us hl => match us, hl with | [_], _ => rfl) ⟨rfl, by decide, by decide⟩ fun A outer s H E f c' cl hr hgd => (ew_call f_fixed_at hr hgd (by omega) rfl (ea_cons (ew_v 1) (ea_cons (ew_v 2) (ea_cons (ew_v 0) ea_nil))))
/-! the lambda 1, of turned_formula -/
def g_lam1 : Ev → W PyData := (wCall 2 fn_turned_at (wCons (wV 1) (wCons (wV 0) wNil)))
theorem ok_lam1 (f_turned_at : FnW P w K mg base 1 "turned_at" ["switch", "late"] .S fn_turned_at) : LamOk P w K mg base 2 1 lam1 (gLam 2 g_lam1) :=
  lam_of (N := ["late", "switch"]) (ps := ["late"]) (NdefX.nscope_by (by decide +kernel)) (fun cl pm c' ctv us hl => match us, hl with | [_], _ => rfl) ⟨rfl, by decide, by decide⟩ fun A outer s H E f c' cl hr hgd => (ew_call f_turned_at hr hgd (by omega) rfl (ea_cons (ew_v 1) (ea_cons (ew_v 0) ea_nil)))
/-! what may be handed to put_for -/
def chi_put_for : Nat → Fn
  | 0 => gLam 3 g_lam0
  | 1 => gLam 2 g_lam1
  | _ => fun _ _ => False
theorem ok_chi_put_for (o0 : LamOk P w K mg base 2 1 lam0 (gLam 3 g_lam0)) (o1 : LamOk P w K mg base 2 1 lam1 (gLam 2 g_lam1)) : ∀ n : Nat, n ∈ ([0, 1] : List Nat) → ∀ L, lawLams[n]? = some L → LamOk P w K mg base 2 1 L (chi_put_for n) := by
  intro n hn L hL
  simp only [List.mem_cons, List.not_mem_nil, or_false] at hn
  rcases hn with rfl | rfl
  · obtain rfl : lam0 = L := Option.some.inj hL
    exact (o0.up (by decide))
  · obtain rfl : lam1 = L := Option.some.inj hL
    exact (o1.up (by decide))
theorem mono_chi_put_for (h : ∀ n : Nat, n ∈ ([0, 1] : List Nat) → MonoF (chi_put_for n)) : ∀ n, MonoF (chi_put_for n) := fun n => by
  by_cases hn : n ∈ ([0, 1] : List Nat)
  · exact h n hn
  · simp only [List.mem_cons, List.not_mem_nil, or_false, not_or] at hn
    have e : chi_put_for n = fun _ _ => False := by
      unfold chi_put_for
      split <;> first | rfl | omega
    rw [e]
    exact fun _ _ _ _ q => q
/-! put_for -/
abbrev s_put_for : Stmt := topS 32
theorem c_put_for : FnScope ["formula", "change", "parts", "part"] ["formula", "change"] (defScope s_put_for) := ⟨rfl, rfl, rfl, by decide +kernel, rfl, by decide +kernel, by decide +kernel⟩
def g_put_for (self : Fn) : Ev → W Rs := (wSeq (wIf (wT (wB eqD (wB ixD (wVb 0) (wC (.int 0))) (wC (.str "on")))) (wRet (wClo [0, 1] 1 chi_put_for 1 (wCons (wB ixD (wVb 0) (wC (.int 1))) wNil))) wSkip)
  (wSeq (wSet 2 (wCall 1 fn_parts_of (wCons (wV 0) wNil)))
  (wRet (wIf (wT (wB eqD (wVb 2) (wLst wNil))) (wV 0) (wCall 2 fn_with_parts (wCons (wV 0) (wCons (wLc [3] (wItems (wV 2)) (stN 3) wYes (wCall 2 self (wCons (wV 3) (wCons (wV 1) wNil)))) wNil)))))))
theorem b_put_for {f : Addr} {fd : FuncData} (F : Fun K "put_for" "put_for" s_put_for f fd) (n : Nat) {self : Fn} (f_parts_of : FnW P w K mg base 1 "parts_of" ["formula"] .S fn_parts_of) (f_with_parts : FnW P w K mg base 1 "with_parts" ["formula", "parts"] .S fn_with_parts) (h_chi : ∀ n : Nat, n ∈ ([0, 1] : List Nat) → ∀ L, lawLams[n]? = some L → LamOk P w K mg base 2 1 L (chi_put_for n)) (m_chi : ∀ n, MonoF (chi_put_for n)) (f_self : FnW P w K mg base (2 + n) "put_for" ["formula", "change"] .S self) : FnG P w K mg base CX0 (2 + n + 1) f fd ["formula", "change"] (spW K .S 2 (gBody .S 4 (g_put_for self))) :=
  fnG_body (m := .S) (g := (g_put_for self)) (N := ["formula", "change", "parts", "part"]) F c_put_for fun cdv A outer s H E hr hgd => (ess_cons (es_if (eb_eq hr.units (EW.toB (ew_at (ew_vb 0) (EW.toB ew_int))) (EW.toB ew_str)) (ess_one (es_ret (fun e => nomatch e) (ew_clo h_chi m_chi hr hgd (by omega) rfl (by first | exact Or.inl rfl | exact Or.inr (Or.inl rfl) | exact Or.inr (Or.inr rfl)) (ea_cons (ew_at (ew_vb 0) (EW.toB ew_int)) ea_nil)))) ess_nil)
  (ess_cons (es_set (i := 2) c_put_for.nd rfl (by first | exact Or.inl rfl | exact Or.inr rfl) (ew_call f_parts_of hr hgd (by omega) rfl (ea_cons (ew_v 0) ea_nil)))
  (ess_one (es_ret (fun e => nomatch e) (ew_if (eb_eq hr.units (ew_vb 2) (EW.toB (ew_lst ea_nil))) (ew_v 0) (ew_call f_with_parts hr hgd (by omega) rfl (ea_cons (ew_v 0) (ea_cons (EW.FS (ew_lc (own := [("part", 3)]) rfl c_put_for.nd (ei_seq (ew_v 2)) (blkOk_by (by rfl)) (fun _ _ _ _ _ => (eg_name (i := 3) c_put_for.nd rfl (by first | exact Or.inl rfl | exact Or.inr rfl))) (fun _ _ _ _ _ => ec_nil) (fun _ _ _ _ _ => (ew_call f_self hr hgd (by omega) rfl (ea_cons (ew_v 3) (ea_cons (ew_v 1) ea_nil)))))) ea_nil))))))))
def fn_put_for : Nat → Fn
  | 0 => fun _ _ => False
  | n + 1 => gBody .S 4 (g_put_for (fn_put_for n))
theorem w_put_for {f : Addr} {fd : FuncData} (F : Fun K "put_for" "put_for" s_put_for f fd) (hm : mg "put_for" = some (.ref f)) (hb : Binds K fd ["formula", "change"] []) (f_parts_of : FnW P w K mg base 1 "parts_of" ["formula"] .S fn_parts_of) (f_with_parts : FnW P w K mg base 1 "with_parts" ["formula", "parts"] .S fn_with_parts) (h_chi : ∀ n : Nat, n ∈ ([0, 1] : List Nat) → ∀ L, lawLams[n]? = some L → LamOk P w K mg base 2 1 L (chi_put_for n)) (m_chi : ∀ n, MonoF (chi_put_for n)) : ∀ n : Nat, FnW P w K mg base (2 + n) "put_for" ["formula", "change"] .S (fn_put_for n)
  | 0 => ⟨fun _ _ _ _ q => q.elim, f, fd, hm, F.kp, hb, vac_fnG⟩
  | n + 1 => by
    have ih := w_put_for F hm hb f_parts_of f_with_parts h_chi m_chi n
    exact ⟨mono_gBody, f, fd, hm, F.kp, hb, b_put_for F n f_parts_of f_with_parts h_chi m_chi ih⟩
/-! fixed_formula -/
abbrev s_fixed_formula : Stmt := topS 38
theorem c_fixed_formula : FnScope ["switches", "formula", "switch", "is_on"] ["switches", "formula", "switch", "is_on"] (defScope s_fixed_formula) := ⟨rfl, rfl, rfl, by decide +kernel, rfl, by decide +kernel, by decide +kernel⟩
def g_fixed_formula : Ev → W Rs := (wSeq (wDrop (wCallD 1 [.int 1] fn_check_switches (wCons (wV 0) wNil)))
  (wSeq (wDrop (wCall 2 fn_check_formula (wCons (wV 0) (wCons (wV 1) wNil))))
  (wSeq (wDrop (wCall 2 fn_check_switch (wCons (wV 0) (wCons (wV 2) wNil))))
  (wSeq (wDrop (wCall 1 fn_check_on (wCons (wV 3) wNil)))
  (wRet (wCallL (fn_put_for 10) 0 [2, 3] (wV 1)))))))
theorem b_fixed_formula {f : Addr} {fd : FuncData} (F : Fun K "fixed_formula" "fixed_formula" s_fixed_formula f fd) {cc : Addr} (e_code : fd.code = .ref cc) (e_tab : LamX.TabB base mg cc 250) (f_check_formula : FnW P w K mg base 16 "check_formula" ["switches", "value"] .S fn_check_formula) (f_check_switch : FnW P w K mg base 4 "check_switch" ["switches", "value"] .S fn_check_switch) (f_check_on : FnW P w K mg base 1 "check_on" ["value"] .S fn_check_on) (f_put_for : FnW P w K mg base 12 "put_for" ["formula", "change"] .S (fn_put_for 10)) (d1_check_switches : FnD P w K mg base 3 "check_switches" 1 [.int 1] .S fn_check_switches) : FnG P w K mg base CX0 (16 + 1) f fd ["switches", "formula", "switch", "is_on"] (spW K .S 4 (gBody .S 4 g_fixed_formula)) :=
  fnG_bodyC (m := .S) (g := g_fixed_formula) (N := ["switches", "formula", "switch", "is_on"]) F c_fixed_formula fun cdv A outer s H E ecd hr hgd => (ess_cons (es_expr (EW.toB (ew_callD d1_check_switches hr hgd (by omega) rfl (ea_cons (ew_v 0) ea_nil))))
  (ess_cons (es_expr (EW.toB (ew_call f_check_formula hr hgd (by omega) rfl (ea_cons (ew_v 0) (ea_cons (ew_v 1) ea_nil)))))
  (ess_cons (es_expr (EW.toB (ew_call f_check_switch hr hgd (by omega) rfl (ea_cons (ew_v 0) (ea_cons (ew_v 2) ea_nil)))))
  (ess_cons (es_expr (EW.toB (ew_call f_check_on hr hgd (by omega) rfl (ea_cons (ew_v 3) ea_nil))))
  (ess_one (es_ret (fun e => nomatch e) (ew_callL (L := lam0) (js := [2, 3]) f_put_for hr hgd (by omega) rfl (ew_v 1) rfl rfl e_tab (ecd.symm.trans e_code) (by unfold lawTabs; simp only [List.mem_cons, List.not_mem_nil, or_false]; first | exact rfl | exact Or.inl rfl | exact Or.inr (Or.inl rfl) | exact Or.inr rfl) (tabs_one (by unfold lawTabs; simp only [List.mem_cons, List.not_mem_nil, or_false]; first | exact rfl | exact Or.inl rfl | exact Or.inr (Or.inl rfl) | exact Or.inr rfl)) rfl (cap1 (by decide +kernel : capB (defScope s_fixed_formula) lam0.scope lam0.fr = true)) (cap2 (by decide +kernel : capB (defScope s_fixed_formula) lam0.scope lam0.fr = true)) (cap3 (by decide +kernel : capB (defScope s_fixed_formula) lam0.scope lam0.fr = true)) rfl new_cells)))))))
def fn_fixed_formula : Fn := gBody .S 4 g_fixed_formula
theorem w_fixed_formula {f : Addr} {fd : FuncData} (F : Fun K "fixed_formula" "fixed_formula" s_fixed_formula f fd) (hm : mg "fixed_formula" = some (.ref f)) (hb : Binds K fd ["switches", "formula", "switch", "is_on"] []) {cc : Addr} (e_code : fd.code = .ref cc) (e_tab : LamX.TabB base mg cc 250) (f_check_formula : FnW P w K mg base 16 "check_formula" ["switches", "value"] .S fn_check_formula) (f_check_switch : FnW P w K mg base 4 "check_switch" ["switches", "value"] .S fn_check_switch) (f_check_on : FnW P w K mg base 1 "check_on" ["value"] .S fn_check_on) (f_put_for : FnW P w K mg base 12 "put_for" ["formula", "change"] .S (fn_put_for 10)) (d1_check_switches : FnD P w K mg base 3 "check_switches" 1 [.int 1] .S fn_check_switches) : FnW P w K mg base 17 "fixed_formula" ["switches", "formula", "switch", "is_on"] .S fn_fixed_formula :=
  ⟨mono_gBody, f, fd, hm, F.kp, hb, b_fixed_formula F e_code e_tab f_check_formula f_check_switch f_check_on f_put_for d1_check_switches⟩
/-! turned_formula -/
abbrev s_turned_formula : Stmt := topS 39
theorem c_turned_formula : FnScope ["switches", "formula", "switch"] ["switches", "formula", "switch"] (defScope s_turned_formula) := ⟨rfl, rfl, rfl, by decide +kernel, rfl, by decide +kernel, by decide +kernel⟩
def g_turned_formula : Ev → W Rs := (wSeq (wDrop (wCallD 1 [.int 1] fn_check_switches (wCons (wV 0) wNil)))
  (wSeq (wDrop (wCall 2 fn_check_formula (wCons (wV 0) (wCons (wV 1) wNil))))
  (wSeq (wDrop (wCall 2 fn_check_switch (wCons (wV 0) (wCons (wV 2) wNil))))
  (wRet (wCallL (fn_put_for 10) 1 [2] (wV 1))))))
theorem b_turned_formula {f : Addr} {fd : FuncData} (F : Fun K "turned_formula" "turned_formula" s_turned_formula f fd) {cc : Addr} (e_code : fd.code = .ref cc) (e_tab : LamX.TabB base mg cc 257) (f_check_formula : FnW P w K mg base 16 "check_formula" ["switches", "value"] .S fn_check_formula) (f_check_switch : FnW P w K mg base 4 "check_switch" ["switches", "value"] .S fn_check_switch) (f_put_for : FnW P w K mg base 12 "put_for" ["formula", "change"] .S (fn_put_for 10)) (d1_check_switches : FnD P w K mg base 3 "check_switches" 1 [.int 1] .S fn_check_switches) : FnG P w K mg base CX0 (16 + 1) f fd ["switches", "formula", "switch"] (spW K .S 3 (gBody .S 3 g_turned_formula)) :=
  fnG_bodyC (m := .S) (g := g_turned_formula) (N := ["switches", "formula", "switch"]) F c_turned_formula fun cdv A outer s H E ecd hr hgd => (ess_cons (es_expr (EW.toB (ew_callD d1_check_switches hr hgd (by omega) rfl (ea_cons (ew_v 0) ea_nil))))
  (ess_cons (es_expr (EW.toB (ew_call f_check_formula hr hgd (by omega) rfl (ea_cons (ew_v 0) (ea_cons (ew_v 1) ea_nil)))))
  (ess_cons (es_expr (EW.toB (ew_call f_check_switch hr hgd (by omega) rfl (ea_cons (ew_v 0) (ea_cons (ew_v 2) ea_nil)))))
  (ess_one (es_ret (fun e => nomatch e) (ew_callL (L := lam1) (js := [2]) f_put_for hr hgd (by omega) rfl (ew_v 1) rfl rfl e_tab (ecd.symm.trans e_code) (by unfold lawTabs; simp only [List.mem_cons, List.not_mem_nil, or_false]; first | exact rfl | exact Or.inl rfl | exact Or.inr (Or.inl rfl) | exact Or.inr rfl) (tabs_one (by unfold lawTabs; simp only [List.mem_cons, List.not_mem_nil, or_false]; first | exact rfl | exact Or.inl rfl | exact Or.inr (Or.inl rfl) | exact Or.inr rfl)) rfl (cap1 (by decide +kernel : capB (defScope s_turned_formula) lam1.scope lam1.fr = true)) (cap2 (by decide +kernel : capB (defScope s_turned_formula) lam1.scope lam1.fr = true)) (cap3 (by decide +kernel : capB (defScope s_turned_formula) lam1.scope lam1.fr = true)) rfl new_cells))))))
def fn_turned_formula : Fn := gBody .S 3 g_turned_formula
theorem w_turned_formula {f : Addr} {fd : FuncData} (F : Fun K "turned_formula" "turned_formula" s_turned_formula f fd) (hm : mg "turned_formula" = some (.ref f)) (hb : Binds K fd ["switches", "formula", "switch"] []) {cc : Addr} (e_code : fd.code = .ref cc) (e_tab : LamX.TabB base mg cc 257) (f_check_formula : FnW P w K mg base 16 "check_formula" ["switches", "value"] .S fn_check_formula) (f_check_switch : FnW P w K mg base 4 "check_switch" ["switches", "value"] .S fn_check_switch) (f_put_for : FnW P w K mg base 12 "put_for" ["formula", "change"] .S (fn_put_for 10)) (d1_check_switches : FnD P w K mg base 3 "check_switches" 1 [.int 1] .S fn_check_switches) : FnW P w K mg base 17 "turned_formula" ["switches", "formula", "switch"] .S fn_turned_formula :=
  ⟨mono_gBody, f, fd, hm, F.kp, hb, b_turned_formula F e_code e_tab f_check_formula f_check_switch f_put_for d1_check_switches⟩
/-! _law_chain_right -/
abbrev s_law_chain_right : Stmt := topS 59
theorem c_law_chain_right : FnScope ["pot", "switches", "found", "switch", "choice", "due", "at", "late"] ["pot"] (defScope s_law_chain_right) := ⟨rfl, rfl, rfl, by decide +kernel, rfl, by decide +kernel, by decide +kernel⟩
def g_law_chain_right : Ev → W Rs := (wSeq (wSet 1 (wC (.int 8)))
  (wSeq (wSet 2 (wTup (wCons (wC (.str "on")) (wCons (wC (.int 7)) wNil))))
  (wSeq (wFor (wRange3 (wCons (wC (.int 6)) (wCons (wU negD (wC (.int 1))) (wCons (wU negD (wC (.int 1))) wNil)))) (stN 3) (wSet 2 (wTup (wCons (wC (.str "then")) (wCons (wTup (wCons (wC (.str "on")) (wCons (wV 3) wNil))) (wCons (wV 2) wNil))))))
  (wSeq (wSet 4 (wU tupleD (wLc [3] (wRange1 (wV 1)) (stN 3) wYes (wB gtI (wCall 2 drawF (wCons (wV 0) (wCons (wC (.int 4)) wNil))) (wC (.int 0))))))
  (wSeq (wSet 5 (wOrV (wB ixD (wVb 4) (wC (.int 7))) (wB (inD false) (wC (.bool false)) (wSl (wVb 4) wNo (wPart (wC (.int 7)))))))
  (wSeq (wIf (wT (wB neD (wLst (wCons (wCall 2 fn_size (wCons (wC (.int 8)) (wCons (wV 2) wNil))) (wCons (wCall 2 fn_depth (wCons (wC (.int 8)) (wCons (wV 2) wNil))) (wCons (wCall 3 fn_holds (wCons (wC (.int 8)) (wCons (wV 2) (wCons (wV 4) wNil)))) wNil)))) (wLst (wCons (wC (.int 15)) (wCons (wC (.int 8)) (wCons (wV 5) wNil)))))) (wRet (wC (.bool false))) wSkip)
  (wSeq (wSet 6 (wCall 2 drawF (wCons (wV 0) (wCons (wC (.int 7)) wNil))))
  (wSeq (wIf (wT (wB (isBD true) (wCall 3 fn_holds (wCons (wC (.int 8)) (wCons (wCall 4 fn_fixed_formula (wCons (wC (.int 8)) (wCons (wV 2) (wCons (wV 6) (wCons (wC (.bool false)) wNil))))) (wCons (wV 4) wNil)))) (wC (.bool true)))) (wRet (wC (.bool false))) wSkip)
  (wSeq (wSet 6 (wCall 2 drawF (wCons (wV 0) (wCons (wC (.int 6)) wNil))))
  (wSeq (wSet 7 (wB addAD (wB addAD (wSl (wVb 4) wNo (wPart (wVb 6))) (wTup (wCons (wNotV (wB ixD (wVb 4) (wVb 6))) wNil))) (wSl (wVb 4) (wPart (wB addAD (wVb 6) (wC (.int 1)))) wNo)))
  (wRet (wB eqD (wCallK 0 3 [2, 1, 0] fn_holds wNil (wCons (wV 4) (wCons (wCall 3 fn_turned_formula (wCons (wC (.int 8)) (wCons (wV 2) (wCons (wV 6) wNil)))) (wCons (wC (.int 8)) wNil)))) (wCall 3 fn_holds (wCons (wC (.int 8)) (wCons (wV 2) (wCons (wV 7) wNil))))))))))))))))
theorem b_law_chain_right {f : Addr} {fd : FuncData} (F : Fun K "_law_chain_right" "_law_chain_right" s_law_chain_right f fd) (n_range : mg "range" = none) (n_tuple : mg "tuple" = none) (f_law_draw : FnW P w K mg base 1 "_law_draw" ["pot", "many"] .S drawF) (f_size : FnW P w K mg base 17 "size" ["switches", "formula"] .S fn_size) (f_depth : FnW P w K mg base 17 "depth" ["switches", "formula"] .S fn_depth) (f_holds : FnW P w K mg base 17 "holds" ["switches", "formula", "choice"] .S fn_holds) (f_fixed_formula : FnW P w K mg base 17 "fixed_formula" ["switches", "formula", "switch", "is_on"] .S fn_fixed_formula) (f_turned_formula : FnW P w K mg base 17 "turned_formula" ["switches", "formula", "switch"] .S fn_turned_formula) (k0_holds : FnK P w K mg base 17 "holds" ["choice", "formula", "switches"] 0 [2, 1, 0] .S fn_holds) : FnG P w K mg base CX0 (17 + 1) f fd ["pot"] (spW K .S 1 (gBody .S 8 g_law_chain_right)) :=
  fnG_body (m := .S) (g := g_law_chain_right) (N := ["pot", "switches", "found", "switch", "choice", "due", "at", "late"]) F c_law_chain_right fun cdv A outer s H E hr hgd => (ess_cons (es_set (i := 1) c_law_chain_right.nd rfl (by first | exact Or.inl rfl | exact Or.inr rfl) ew_int)
  (ess_cons (es_set (i := 2) c_law_chain_right.nd rfl (by first | exact Or.inl rfl | exact Or.inr rfl) (ew_tup (ea_cons ew_str (ea_cons ew_int ea_nil))))
  (ess_cons (es_for PassesOwn.never rfl (ei_range3 rfl n_range (ea_cons ew_int (ea_cons (ew_neg (EW.toB ew_int)) (ea_cons (ew_neg (EW.toB ew_int)) ea_nil)))) (eg_name (i := 3) c_law_chain_right.nd rfl (by first | exact Or.inl rfl | exact Or.inr rfl)) (ess_one (es_set (i := 2) c_law_chain_right.nd rfl (by first | exact Or.inl rfl | exact Or.inr rfl) (ew_tup (ea_cons ew_str (ea_cons (ew_tup (ea_cons ew_str (ea_cons (ew_v 3) ea_nil))) (ea_cons (ew_v 2) ea_nil)))))))
  (ess_cons (es_set (i := 4) c_law_chain_right.nd rfl (by first | exact Or.inl rfl | exact Or.inr rfl) (ew_tuple rfl n_tuple (EW.toB (ew_lc (own := [("switch", 3)]) rfl c_law_chain_right.nd (ei_range1 rfl n_range (ew_v 1)) (blkOk_by (by rfl)) (fun _ _ _ _ _ => (eg_name (i := 3) c_law_chain_right.nd rfl (by first | exact Or.inl rfl | exact Or.inr rfl))) (fun _ _ _ _ _ => ec_nil) (fun _ _ _ _ _ => (ew_gt (EW.toB (ew_call f_law_draw hr hgd (by omega) rfl (ea_cons (ew_v 0) (ea_cons ew_int ea_nil)))) (EW.toB ew_int)))))))
  (ess_cons (es_set (i := 5) c_law_chain_right.nd rfl (by first | exact Or.inl rfl | exact Or.inr rfl) (ew_or (ew_at (ew_vb 4) (EW.toB ew_int)) (ew_one (ew_in (EW.toB ew_bl) (EW.toB (ew_slice (ew_vb 4) eo_none (eo_some (EW.toB ew_int))))))))
  (ess_cons (es_if (eb_ne hr.units (EW.toB (ew_lst (ea_cons (ew_call f_size hr hgd (by omega) rfl (ea_cons ew_int (ea_cons (ew_v 2) ea_nil))) (ea_cons (ew_call f_depth hr hgd (by omega) rfl (ea_cons ew_int (ea_cons (ew_v 2) ea_nil))) (ea_cons (ew_call f_holds hr hgd (by omega) rfl (ea_cons ew_int (ea_cons (ew_v 2) (ea_cons (ew_v 4) ea_nil)))) ea_nil))))) (EW.toB (ew_lst (ea_cons ew_int (ea_cons ew_int (ea_cons (ew_v 5) ea_nil)))))) (ess_one (es_ret (fun e => nomatch e) ew_bl)) ess_nil)
  (ess_cons (es_set (i := 6) c_law_chain_right.nd rfl (by first | exact Or.inl rfl | exact Or.inr rfl) (ew_call f_law_draw hr hgd (by omega) rfl (ea_cons (ew_v 0) (ea_cons ew_int ea_nil))))
  (ess_cons (es_if (eb_notB (EW.toB (ew_call f_holds hr hgd (by omega) rfl (ea_cons ew_int (ea_cons (ew_call f_fixed_formula hr hgd (by omega) rfl (ea_cons ew_int (ea_cons (ew_v 2) (ea_cons (ew_v 6) (ea_cons ew_bl ea_nil))))) (ea_cons (ew_v 4) ea_nil))))) (EW.toB ew_bl)) (ess_one (es_ret (fun e => nomatch e) ew_bl)) ess_nil)
  (ess_cons (es_set (i := 6) c_law_chain_right.nd rfl (by first | exact Or.inl rfl | exact Or.inr rfl) (ew_call f_law_draw hr hgd (by omega) rfl (ea_cons (ew_v 0) (ea_cons ew_int ea_nil))))
  (ess_cons (es_set (i := 7) c_law_chain_right.nd rfl (by first | exact Or.inl rfl | exact Or.inr rfl) (ew_addA (EW.toB (ew_addA (EW.toB (ew_slice (ew_vb 4) eo_none (eo_some (ew_vb 6)))) (EW.toB (ew_tup (ea_cons (ew_not (ew_at (ew_vb 4) (ew_vb 6))) ea_nil))))) (EW.toB (ew_slice (ew_vb 4) (eo_some (EW.toB (ew_addA (ew_vb 6) (EW.toB ew_int)))) eo_none))))
  (ess_one (es_ret (fun e => nomatch e) (ew_eq hr.units (EW.toB (ew_callK0 k0_holds hr hgd (by omega) rfl (ek_cons (ew_v 4) (ek_cons (ew_call f_turned_formula hr hgd (by omega) rfl (ea_cons ew_int (ea_cons (ew_v 2) (ea_cons (ew_v 6) ea_nil)))) (ek_cons ew_int ek_nil))))) (EW.toB (ew_call f_holds hr hgd (by omega) rfl (ea_cons ew_int (ea_cons (ew_v 2) (ea_cons (ew_v 7) ea_nil))))))))))))))))))
def fn_law_chain_right : Fn := gBody .S 8 g_law_chain_right
theorem w_law_chain_right {f : Addr} {fd : FuncData} (F : Fun K "_law_chain_right" "_law_chain_right" s_law_chain_right f fd) (hm : mg "_law_chain_right" = some (.ref f)) (hb : Binds K fd ["pot"] []) (n_range : mg "range" = none) (n_tuple : mg "tuple" = none) (f_law_draw : FnW P w K mg base 1 "_law_draw" ["pot", "many"] .S drawF) (f_size : FnW P w K mg base 17 "size" ["switches", "formula"] .S fn_size) (f_depth : FnW P w K mg base 17 "depth" ["switches", "formula"] .S fn_depth) (f_holds : FnW P w K mg base 17 "holds" ["switches", "formula", "choice"] .S fn_holds) (f_fixed_formula : FnW P w K mg base 17 "fixed_formula" ["switches", "formula", "switch", "is_on"] .S fn_fixed_formula) (f_turned_formula : FnW P w K mg base 17 "turned_formula" ["switches", "formula", "switch"] .S fn_turned_formula) (k0_holds : FnK P w K mg base 17 "holds" ["choice", "formula", "switches"] 0 [2, 1, 0] .S fn_holds) : FnW P w K mg base 18 "_law_chain_right" ["pot"] .S fn_law_chain_right :=
  ⟨mono_gBody, f, fd, hm, F.kp, hb, b_law_chain_right F n_range n_tuple f_law_draw f_size f_depth f_holds f_fixed_formula f_turned_formula k0_holds⟩
/-! _law_great_right -/
abbrev s_law_great_right : Stmt := topS 60
theorem c_law_great_right : FnScope ["pot", "rows", "last", "parts", "choice", "held", "many", "number", "told", "formula", "turn", "word", "switch", "row", "one"] ["pot"] (defScope s_law_great_right) := ⟨rfl, rfl, rfl, by decide +kernel, rfl, by decide +kernel, by decide +kernel⟩
def g_law_great_right : Ev → W Rs := (wSeq (wSetF 1 (wLc [10] (wRange1 (wC (.int 6))) (stN 10) wYes (wSl (wCall 2 fn_law_mixed (wCons (wV 0) (wCons (wLRg (wC (.int 12))) wNil))) wNo (wPart (wC (.int 8))))))
  (wSeq (wSet 2 (wSl (wCall 2 fn_law_mixed (wCons (wV 0) (wCons (wLRg (wC (.int 12))) wNil))) wNo (wPart (wC (.int 4)))))
  (wSeq (wFrz [1] (wSet 3 (wB addAD (wU tupleD (wLc [13] (wItems (wV 1)) (stN 13) wYes (wB addAD (wTup (wCons (wC (.str "or")) wNil)) (wCall 1 fn_law_ons (wCons (wV 13) wNil))))) (wTup (wCons (wB addAD (wTup (wCons (wC (.str "and")) wNil)) (wCall 1 fn_law_ons (wCons (wV 2) wNil))) wNil)))))
  (wSeq (wSet 4 (wU tupleD (wLc [12] (wRange1 (wC (.int 12))) (stN 12) wYes (wB eqD (wCall 2 drawF (wCons (wV 0) (wCons (wC (.int 6)) wNil))) (wC (.int 0))))))
  (wSeq (wFrz [1] (wSet 5 (wB catD (wLc [13] (wItems (wV 1)) (stN 13) wYes (wU anyD (wLc [12] (wItems (wV 13)) (stN 12) wYes (wB ixD (wVb 4) (wVb 12))))) (wLst (wCons (wU allD (wLc [12] (wItems (wV 2)) (stN 12) wYes (wB ixD (wVb 4) (wVb 12)))) wNil)))))
  (wSeq (wSet 6 (wU lenD (wLc [14] (wItems (wV 5)) (stN 14) (wT (wVb 14)) (wV 14))))
  (wSeq (wFor (wRange1 (wC (.int 8))) (stN 7) (wSeq (wSet 9 (wB addAD (wTup (wCons (wC (.str "most")) (wCons (wV 7) wNil))) (wVb 3)))
  (wIf (wT (wB neD (wU reprD (wLst (wCons (wCall 2 fn_size (wCons (wC (.int 12)) (wCons (wV 9) wNil))) (wCons (wCall 2 fn_depth (wCons (wC (.int 12)) (wCons (wV 9) wNil))) (wCons (wCall 3 fn_holds (wCons (wC (.int 12)) (wCons (wV 9) (wCons (wV 4) wNil)))) wNil))))) (wU reprD (wLst (wCons (wC (.int 60)) (wCons (wC (.int 3)) (wCons (wB leI (wVb 6) (wVb 7)) wNil))))))) (wRet (wC (.bool false))) wSkip)))
  (wSeq (wSetF 8 (wLc [11] (wItems (wTup (wCons (wC (.str "and")) (wCons (wC (.str "or")) (wCons (wC (.str "one")) wNil))))) (stN 11) wYes (wCall 3 fn_holds (wCons (wC (.int 12)) (wCons (wB addAD (wTup (wCons (wV 11) wNil)) (wVb 3)) (wCons (wV 4) wNil))))))
  (wRet (wB eqD (wU reprD (wVb 8)) (wU reprD (wLst (wCons (wB eqD (wVb 6) (wC (.int 7))) (wCons (wB gtI (wVb 6) (wC (.int 0))) (wCons (wB eqD (wVb 6) (wC (.int 1))) wNil)))))))))))))))
theorem b_law_great_right {f : Addr} {fd : FuncData} (F : Fun K "_law_great_right" "_law_great_right" s_law_great_right f fd) (n_range : mg "range" = none) (n_list : mg "list" = none) (n_tuple : mg "tuple" = none) (n_any : mg "any" = none) (n_all : mg "all" = none) (n_len : mg "len" = none) (n_repr : mg "repr" = none) (f_law_mixed : FnW P w K mg base 2 "_law_mixed" ["pot", "some"] .S fn_law_mixed) (f_law_ons : FnW P w K mg base 1 "_law_ons" ["some"] .S fn_law_ons) (f_law_draw : FnW P w K mg base 1 "_law_draw" ["pot", "many"] .S drawF) (f_size : FnW P w K mg base 17 "size" ["switches", "formula"] .S fn_size) (f_depth : FnW P w K mg base 17 "depth" ["switches", "formula"] .S fn_depth) (f_holds : FnW P w K mg base 17 "holds" ["switches", "formula", "choice"] .S fn_holds) : FnG P w K mg base CX0 (17 + 1) f fd ["pot"] (spW K .S 1 (gBody .S 15 g_law_great_right)) :=
  fnG_body (m := .S) (g := g_law_great_right) (N := ["pot", "rows", "last", "parts", "choice", "held", "many", "number", "told", "formula", "turn", "word", "switch", "row", "one"]) F c_law_great_right fun cdv A outer s H E hr hgd => (ess_cons (es_setLc (i := 1) (own := [("turn", 10)]) rfl c_law_great_right.nd rfl rfl (L2.sw_true rfl rfl rfl (by decide +kernel)) (ei_range1 rfl n_range ew_int) (blkOk_by (by rfl)) (fun _ _ _ _ _ => (eg_name (i := 10) c_law_great_right.nd rfl (by first | exact Or.inl rfl | exact Or.inr rfl))) (fun _ _ _ _ _ => ec_nil) (fun _ _ _ _ _ => (ew_slice (EW.toB (ew_call f_law_mixed hr hgd (by omega) rfl (ea_cons (ew_v 0) (ea_cons (EW.FS (ew_lrg rfl n_list rfl n_range ew_int)) ea_nil)))) eo_none (eo_some (EW.toB ew_int)))))
  (ess_cons (es_set (i := 2) c_law_great_right.nd rfl (by first | exact Or.inl rfl | exact Or.inr rfl) (ew_slice (EW.toB (ew_call f_law_mixed hr hgd (by omega) rfl (ea_cons (ew_v 0) (ea_cons (EW.FS (ew_lrg rfl n_list rfl n_range ew_int)) ea_nil)))) eo_none (eo_some (EW.toB ew_int))))
  (ess_cons (es_frz [1] (es_set (i := 3) c_law_great_right.nd rfl (by first | exact Or.inl rfl | exact Or.inr rfl) (ew_addA (EW.toB (ew_tuple rfl n_tuple (EW.toB (ew_lc (own := [("row", 13)]) rfl c_law_great_right.nd (ei_seq (ew_v 1)) (blkOk_by (by rfl)) (fun _ _ _ _ _ => (eg_name (i := 13) c_law_great_right.nd rfl (by first | exact Or.inl rfl | exact Or.inr rfl))) (fun _ _ _ _ _ => ec_nil) (fun _ _ _ _ _ => (ew_addA (EW.toB (ew_tup (ea_cons ew_str ea_nil))) (EW.toB (ew_call f_law_ons hr hgd (by omega) rfl (ea_cons (ew_v 13) ea_nil))))))))) (EW.toB (ew_tup (ea_cons (ew_addA (EW.toB (ew_tup (ea_cons ew_str ea_nil))) (EW.toB (ew_call f_law_ons hr hgd (by omega) rfl (ea_cons (ew_v 2) ea_nil)))) ea_nil))))))
  (ess_cons (es_set (i := 4) c_law_great_right.nd rfl (by first | exact Or.inl rfl | exact Or.inr rfl) (ew_tuple rfl n_tuple (EW.toB (ew_lc (own := [("switch", 12)]) rfl c_law_great_right.nd (ei_range1 rfl n_range ew_int) (blkOk_by (by rfl)) (fun _ _ _ _ _ => (eg_name (i := 12) c_law_great_right.nd rfl (by first | exact Or.inl rfl | exact Or.inr rfl))) (fun _ _ _ _ _ => ec_nil) (fun _ _ _ _ _ => (ew_eq hr.units (EW.toB (ew_call f_law_draw hr hgd (by omega) rfl (ea_cons (ew_v 0) (ea_cons ew_int ea_nil)))) (EW.toB ew_int)))))))
  (ess_cons (es_frz [1] (es_set (i := 5) c_law_great_right.nd rfl (by first | exact Or.inl rfl | exact Or.inr rfl) (EW.FS (ew_cat (EW.toB (ew_lc (own := [("row", 13)]) rfl c_law_great_right.nd (ei_seq (ew_v 1)) (blkOk_by (by rfl)) (fun _ _ _ _ _ => (eg_name (i := 13) c_law_great_right.nd rfl (by first | exact Or.inl rfl | exact Or.inr rfl))) (fun _ _ _ _ _ => ec_nil) (fun _ _ _ _ _ => (ew_any rfl n_any (EW.toB (ew_lc (own := [("switch", 12)]) rfl c_law_great_right.nd (ei_seq (ew_v 13)) (blkOk_by (by rfl)) (fun _ _ _ _ _ => (eg_name (i := 12) c_law_great_right.nd rfl (by first | exact Or.inl rfl | exact Or.inr rfl))) (fun _ _ _ _ _ => ec_nil) (fun _ _ _ _ _ => (ew_at (ew_vb 4) (ew_vb 12))))))))) (EW.toB (ew_lst (ea_cons (ew_all rfl n_all (EW.toB (ew_lc (own := [("switch", 12)]) rfl c_law_great_right.nd (ei_seq (ew_v 2)) (blkOk_by (by rfl)) (fun _ _ _ _ _ => (eg_name (i := 12) c_law_great_right.nd rfl (by first | exact Or.inl rfl | exact Or.inr rfl))) (fun _ _ _ _ _ => ec_nil) (fun _ _ _ _ _ => (ew_at (ew_vb 4) (ew_vb 12)))))) ea_nil)))))))
  (ess_cons (es_set (i := 6) c_law_great_right.nd rfl (by first | exact Or.inl rfl | exact Or.inr rfl) (ew_len rfl n_len (EW.toB (ew_lc (own := [("one", 14)]) rfl c_law_great_right.nd (ei_seq (ew_v 5)) (blkOk_by (by rfl)) (fun _ _ _ _ _ => (eg_name (i := 14) c_law_great_right.nd rfl (by first | exact Or.inl rfl | exact Or.inr rfl))) (fun _ _ _ _ _ => (ec_one (eb_val (ew_vb 14)))) (fun _ _ _ _ _ => (ew_v 14))))))
  (ess_cons (es_for PassesOwn.never rfl (ei_range1 rfl n_range ew_int) (eg_name (i := 7) c_law_great_right.nd rfl (by first | exact Or.inl rfl | exact Or.inr rfl)) (ess_cons (es_set (i := 9) c_law_great_right.nd rfl (by first | exact Or.inl rfl | exact Or.inr rfl) (ew_addA (EW.toB (ew_tup (ea_cons ew_str (ea_cons (ew_v 7) ea_nil)))) (ew_vb 3)))
  (ess_one (es_if (eb_ne hr.units (EW.toB (ew_repr hgd hr.units rfl n_repr (EW.toB (ew_lst (ea_cons (ew_call f_size hr hgd (by omega) rfl (ea_cons ew_int (ea_cons (ew_v 9) ea_nil))) (ea_cons (ew_call f_depth hr hgd (by omega) rfl (ea_cons ew_int (ea_cons (ew_v 9) ea_nil))) (ea_cons (ew_call f_holds hr hgd (by omega) rfl (ea_cons ew_int (ea_cons (ew_v 9) (ea_cons (ew_v 4) ea_nil)))) ea_nil))))))) (EW.toB (ew_repr hgd hr.units rfl n_repr (EW.toB (ew_lst (ea_cons ew_int (ea_cons ew_int (ea_cons (ew_le (ew_vb 6) (ew_vb 7)) ea_nil)))))))) (ess_one (es_ret (fun e => nomatch e) ew_bl)) ess_nil))))
  (ess_cons (es_setLc (i := 8) (own := [("word", 11)]) rfl c_law_great_right.nd rfl rfl (L2.sw_true rfl rfl rfl (by decide +kernel)) (ei_seq (ew_tup (ea_cons ew_str (ea_cons ew_str (ea_cons ew_str ea_nil))))) (blkOk_by (by rfl)) (fun _ _ _ _ _ => (eg_name (i := 11) c_law_great_right.nd rfl (by first | exact Or.inl rfl | exact Or.inr rfl))) (fun _ _ _ _ _ => ec_nil) (fun _ _ _ _ _ => (ew_call f_holds hr hgd (by omega) rfl (ea_cons ew_int (ea_cons (ew_addA (EW.toB (ew_tup (ea_cons (ew_v 11) ea_nil))) (ew_vb 3)) (ea_cons (ew_v 4) ea_nil))))))
  (ess_one (es_ret (fun e => nomatch e) (ew_eq hr.units (EW.toB (ew_repr hgd hr.units rfl n_repr (ew_vb 8))) (EW.toB (ew_repr hgd hr.units rfl n_repr (EW.toB (ew_lst (ea_cons (ew_eq hr.units (ew_vb 6) (EW.toB ew_int)) (ea_cons (ew_gt (ew_vb 6) (EW.toB ew_int)) (ea_cons (ew_eq hr.units (ew_vb 6) (EW.toB ew_int)) ea_nil))))))))))))))))))
def fn_law_great_right : Fn := gBody .S 15 g_law_great_right
theorem w_law_great_right {f : Addr} {fd : FuncData} (F : Fun K "_law_great_right" "_law_great_right" s_law_great_right f fd) (hm : mg "_law_great_right" = some (.ref f)) (hb : Binds K fd ["pot"] []) (n_range : mg "range" = none) (n_list : mg "list" = none) (n_tuple : mg "tuple" = none) (n_any : mg "any" = none) (n_all : mg "all" = none) (n_len : mg "len" = none) (n_repr : mg "repr" = none) (f_law_mixed : FnW P w K mg base 2 "_law_mixed" ["pot", "some"] .S fn_law_mixed) (f_law_ons : FnW P w K mg base 1 "_law_ons" ["some"] .S fn_law_ons) (f_law_draw : FnW P w K mg base 1 "_law_draw" ["pot", "many"] .S drawF) (f_size : FnW P w K mg base 17 "size" ["switches", "formula"] .S fn_size) (f_depth : FnW P w K mg base 17 "depth" ["switches", "formula"] .S fn_depth) (f_holds : FnW P w K mg base 17 "holds" ["switches", "formula", "choice"] .S fn_holds) : FnW P w K mg base 18 "_law_great_right" ["pot"] .S fn_law_great_right :=
  ⟨mono_gBody, f, fd, hm, F.kp, hb, b_law_great_right F n_range n_list n_tuple n_any n_all n_len n_repr f_law_mixed f_law_ons f_law_draw f_size f_depth f_holds⟩
/-! law -/
abbrev s_law : Stmt := topS 61
theorem c_law : FnScope ["script", "pot"] ["script"] (defScope s_law) := ⟨rfl, rfl, rfl, by decide +kernel, rfl, by decide +kernel, by decide +kernel⟩
def g_law : Ev → W Rs := (wSeq (wSet 1 (wCall 2 fp_law_pot (wCons (wV 0) (wCons (wC (.int 0)) wNil))))
  (wRet (wAndV (wCall 1 fn_law_heaps_right (wCons (wV 1) wNil)) (wAndV (wCall 1 fn_law_chain_right (wCons (wV 1) wNil)) (wCall 1 fn_law_great_right (wCons (wV 1) wNil))))))
theorem b_law {f : Addr} {fd : FuncData} (F : Fun K "law" "law" s_law f fd) (f_law_pot : FnW P w K mg base 1 "_law_pot" ["script", "k"] .S fp_law_pot) (f_law_great_right : FnW P w K mg base 18 "_law_great_right" ["pot"] .S fn_law_great_right) (f_law_chain_right : FnW P w K mg base 18 "_law_chain_right" ["pot"] .S fn_law_chain_right) (f_law_heaps_right : FnW P w K mg base 18 "_law_heaps_right" ["pot"] .S fn_law_heaps_right) : FnG P w K mg base CX0 (18 + 1) f fd ["script"] (spW K .S 1 (gBody .S 2 g_law)) :=
  fnG_body (m := .S) (g := g_law) (N := ["script", "pot"]) F c_law fun cdv A outer s H E hr hgd => (ess_cons (es_set (i := 1) c_law.nd rfl (by first | exact Or.inl rfl | exact Or.inr rfl) (ew_call f_law_pot hr hgd (by omega) rfl (ea_cons (ew_v 0) (ea_cons ew_int ea_nil))))
  (ess_one (es_ret (fun e => nomatch e) (ew_and (ew_call f_law_heaps_right hr hgd (by omega) rfl (ea_cons (ew_v 1) ea_nil)) (ew_and (ew_call f_law_chain_right hr hgd (by omega) rfl (ea_cons (ew_v 1) ea_nil)) (ew_one (ew_call f_law_great_right hr hgd (by omega) rfl (ea_cons (ew_v 1) ea_nil))))))))
def fn_law : Fn := gBody .S 2 g_law
theorem w_law {f : Addr} {fd : FuncData} (F : Fun K "law" "law" s_law f fd) (hm : mg "law" = some (.ref f)) (hb : Binds K fd ["script"] []) (f_law_pot : FnW P w K mg base 1 "_law_pot" ["script", "k"] .S fp_law_pot) (f_law_great_right : FnW P w K mg base 18 "_law_great_right" ["pot"] .S fn_law_great_right) (f_law_chain_right : FnW P w K mg base 18 "_law_chain_right" ["pot"] .S fn_law_chain_right) (f_law_heaps_right : FnW P w K mg base 18 "_law_heaps_right" ["pot"] .S fn_law_heaps_right) : FnW P w K mg base 19 "law" ["script"] .S fn_law :=
  ⟨mono_gBody, f, fd, hm, F.kp, hb, b_law F f_law_pot f_law_great_right f_law_chain_right f_law_heaps_right⟩
end
/-! what the top has written -/
set_option maxHeartbeats 0 in
theorem all_mk {l : PySem.W.OpenLaw} {w : World} {K : PySem.W.Frag} {h : Heap} {mg : Str → Option Value} {fa : Addr} (X : K.In h) (G : h.Ns mainGlobals mg) (hfa : mg "law" = some (.ref fa))
    {f1 f2 f3 f4 f5 f6 f7 f8 f9 f10 f11 f12 f13 f14 f15 f16 f17 f18 f19 f20 f21 f22 f23 f24 f25 f26 f27 f28 f29 f30 f31 f32 f33 f34 f35 f36 f37 f38 f39 f40 f41 f42 f43 : Addr} {od1 an1 od2 an2 od3 an3 od4 an4 od5 an5 od6 an6 od7 an7 od8 an8 od9 an9 od10 an10 od11 an11 od12 an12 od13 an13 od14 an14 od15 an15 od16 an16 od17 an17 od18 an18 od19 an19 od20 an20 od21 an21 od22 an22 od23 an23 od24 an24 od25 an25 od26 an26 od27 an27 od28 an28 od29 an29 od30 an30 od31 an31 od32 an32 od33 an33 od34 an34 od35 an35 od36 an36 od37 an37 od38 an38 od39 an39 od40 an40 od41 an41 od42 an42 od43 an43 : Option Addr} {sl1 sl2 sl3 sl4 sl5 sl6 sl7 sl8 sl9 sl10 sl11 sl12 sl13 sl14 sl15 sl16 sl17 sl18 sl19 sl20 sl21 sl22 sl23 sl24 sl25 sl26 sl27 sl28 sl29 sl30 sl31 sl32 sl33 sl34 sl35 sl36 sl37 sl38 sl39 sl40 sl41 sl42 sl43 : Array (Option Value)} {oc1 kV1 dc1 pm1 cd1 ct1 oc2 kV2 dc2 pm2 cd2 ct2 oc3 kV3 dc3 pm3 cd3 ct3 oc4 kV4 dc4 pm4 cd4 ct4 oc5 kV5 dc5 pm5 cd5 ct5 oc6 kV6 dc6 pm6 cd6 ct6 oc7 kV7 dc7 pm7 cd7 ct7 oc8 kV8 dc8 pm8 cd8 ct8 oc9 kV9 dc9 pm9 cd9 ct9 oc10 kV10 dc10 pm10 cd10 ct10 oc11 kV11 dc11 pm11 cd11 ct11 oc12 kV12 dc12 pm12 cd12 ct12 oc13 kV13 dc13 pm13 cd13 ct13 oc14 kV14 dc14 pm14 cd14 ct14 oc15 kV15 dc15 pm15 cd15 ct15 oc16 kV16 dc16 pm16 cd16 ct16 oc17 kV17 dc17 pm17 cd17 ct17 oc18 kV18 dc18 pm18 cd18 ct18 oc19 kV19 dc19 pm19 cd19 ct19 oc20 kV20 dc20 pm20 cd20 ct20 oc21 kV21 dc21 pm21 cd21 ct21 oc22 kV22 dc22 pm22 cd22 ct22 oc23 kV23 dc23 pm23 cd23 ct23 oc24 kV24 dc24 pm24 cd24 ct24 oc25 kV25 dc25 pm25 cd25 ct25 oc26 kV26 dc26 pm26 cd26 ct26 oc27 kV27 dc27 pm27 cd27 ct27 oc28 kV28 dc28 pm28 cd28 ct28 oc29 kV29 dc29 pm29 cd29 ct29 oc30 kV30 dc30 pm30 cd30 ct30 oc31 kV31 dc31 pm31 cd31 ct31 oc32 kV32 dc32 pm32 cd32 ct32 oc33 kV33 dc33 pm33 cd33 ct33 oc34 kV34 dc34 pm34 cd34 ct34 oc35 kV35 dc35 pm35 cd35 ct35 oc36 kV36 dc36 pm36 cd36 ct36 oc37 kV37 dc37 pm37 cd37 ct37 oc38 kV38 dc38 pm38 cd38 ct38 oc39 kV39 dc39 pm39 ct39 oc40 kV40 dc40 pm40 ct40 oc41 kV41 dc41 pm41 cd41 ct41 oc42 kV42 dc42 pm42 cd42 ct42 oc43 kV43 dc43 pm43 cd43 ct43 : Value}
    (a1 : PySem.W.nsIn K mainGlobals "_law_pot" = some (some (.ref f1))) (l1 : K.lookup f1 = some ⟨oc1, od1, .func (PySem.W.fnOf "_law_pot" "_law_pot" (defArgs s_law_pot) (defBody s_law_pot) (defScope s_law_pot) .none kV1 dc1 pm1 an1 cd1 ct1), sl1⟩) (c1 : PySem.W.codeIn K cd1 "_law_pot" = true) (k1 : PySem.W.keepIn K (.ref f1) = true)
    (a2 : PySem.W.nsIn K mainGlobals "_law_draw" = some (some (.ref f2))) (l2 : K.lookup f2 = some ⟨oc2, od2, .func (PySem.W.fnOf "_law_draw" "_law_draw" (defArgs s_law_draw) (defBody s_law_draw) (defScope s_law_draw) .none kV2 dc2 pm2 an2 cd2 ct2), sl2⟩) (c2 : PySem.W.codeIn K cd2 "_law_draw" = true) (k2 : PySem.W.keepIn K (.ref f2) = true)
    (a3 : PySem.W.nsIn K mainGlobals "_law_ons" = some (some (.ref f3))) (l3 : K.lookup f3 = some ⟨oc3, od3, .func (PySem.W.fnOf "_law_ons" "_law_ons" (defArgs s_law_ons) (defBody s_law_ons) (defScope s_law_ons) .none kV3 dc3 pm3 an3 cd3 ct3), sl3⟩) (c3 : PySem.W.codeIn K cd3 "_law_ons" = true) (k3 : PySem.W.keepIn K (.ref f3) = true)
    (a4 : PySem.W.nsIn K mainGlobals "_law_pick" = some (some (.ref f4))) (l4 : K.lookup f4 = some ⟨oc4, od4, .func (PySem.W.fnOf "_law_pick" "_law_pick" (defArgs s_law_pick) (defBody s_law_pick) (defScope s_law_pick) .none kV4 dc4 pm4 an4 cd4 ct4), sl4⟩) (c4 : PySem.W.codeIn K cd4 "_law_pick" = true) (k4 : PySem.W.keepIn K (.ref f4) = true)
    (a5 : PySem.W.nsIn K mainGlobals "is_integer" = some (some (.ref f5))) (l5 : K.lookup f5 = some ⟨oc5, od5, .func (PySem.W.fnOf "is_integer" "is_integer" (defArgs s_is_integer) (defBody s_is_integer) (defScope s_is_integer) .none kV5 dc5 pm5 an5 cd5 ct5), sl5⟩) (c5 : PySem.W.codeIn K cd5 "is_integer" = true) (k5 : PySem.W.keepIn K (.ref f5) = true)
    (a6 : PySem.W.nsIn K mainGlobals "is_within" = some (some (.ref f6))) (l6 : K.lookup f6 = some ⟨oc6, od6, .func (PySem.W.fnOf "is_within" "is_within" (defArgs s_is_within) (defBody s_is_within) (defScope s_is_within) .none kV6 dc6 pm6 an6 cd6 ct6), sl6⟩) (c6 : PySem.W.codeIn K cd6 "is_within" = true) (k6 : PySem.W.keepIn K (.ref f6) = true)
    {T7 : Addr} {tc7 : Value} {td7 : Option Addr} {tu7 : Array Value} {tn7 : Nat} {ts7 : Array (Option Value)}
    (a7 : PySem.W.nsIn K mainGlobals "check_switches" = some (some (.ref f7))) (l7 : K.lookup f7 = some ⟨oc7, od7, .func (PySem.W.fnOf "check_switches" "check_switches" (defArgs s_check_switches) (defBody s_check_switches) (defScope s_check_switches) (.ref T7) kV7 dc7 pm7 an7 cd7 ct7), sl7⟩) (c7 : PySem.W.codeIn K cd7 "check_switches" = true) (k7 : PySem.W.keepIn K (.ref f7) = true)
    (lT7 : K.lookup T7 = some ⟨tc7, td7, .seq tu7 tn7, ts7⟩) (pT7 : intsV tu7.toList = some [1])
    (a8 : PySem.W.nsIn K mainGlobals "is_switch" = some (some (.ref f8))) (l8 : K.lookup f8 = some ⟨oc8, od8, .func (PySem.W.fnOf "is_switch" "is_switch" (defArgs s_is_switch) (defBody s_is_switch) (defScope s_is_switch) .none kV8 dc8 pm8 an8 cd8 ct8), sl8⟩) (c8 : PySem.W.codeIn K cd8 "is_switch" = true) (k8 : PySem.W.keepIn K (.ref f8) = true)
    (a9 : PySem.W.nsIn K mainGlobals "has_form" = some (some (.ref f9))) (l9 : K.lookup f9 = some ⟨oc9, od9, .func (PySem.W.fnOf "has_form" "has_form" (defArgs s_has_form) (defBody s_has_form) (defScope s_has_form) .none kV9 dc9 pm9 an9 cd9 ct9), sl9⟩) (c9 : PySem.W.codeIn K cd9 "has_form" = true) (k9 : PySem.W.keepIn K (.ref f9) = true)
    (a10 : PySem.W.nsIn K mainGlobals "parts_of" = some (some (.ref f10))) (l10 : K.lookup f10 = some ⟨oc10, od10, .func (PySem.W.fnOf "parts_of" "parts_of" (defArgs s_parts_of) (defBody s_parts_of) (defScope s_parts_of) .none kV10 dc10 pm10 an10 cd10 ct10), sl10⟩) (c10 : PySem.W.codeIn K cd10 "parts_of" = true) (k10 : PySem.W.keepIn K (.ref f10) = true)
    (a11 : PySem.W.nsIn K mainGlobals "is_built" = some (some (.ref f11))) (l11 : K.lookup f11 = some ⟨oc11, od11, .func (PySem.W.fnOf "is_built" "is_built" (defArgs s_is_built) (defBody s_is_built) (defScope s_is_built) .none kV11 dc11 pm11 an11 cd11 ct11), sl11⟩) (c11 : PySem.W.codeIn K cd11 "is_built" = true) (k11 : PySem.W.keepIn K (.ref f11) = true)
    (a12 : PySem.W.nsIn K mainGlobals "size_of" = some (some (.ref f12))) (l12 : K.lookup f12 = some ⟨oc12, od12, .func (PySem.W.fnOf "size_of" "size_of" (defArgs s_size_of) (defBody s_size_of) (defScope s_size_of) .none kV12 dc12 pm12 an12 cd12 ct12), sl12⟩) (c12 : PySem.W.codeIn K cd12 "size_of" = true) (k12 : PySem.W.keepIn K (.ref f12) = true)
    (a13 : PySem.W.nsIn K mainGlobals "is_formula_of" = some (some (.ref f13))) (l13 : K.lookup f13 = some ⟨oc13, od13, .func (PySem.W.fnOf "is_formula_of" "is_formula_of" (defArgs s_is_formula_of) (defBody s_is_formula_of) (defScope s_is_formula_of) .none kV13 dc13 pm13 an13 cd13 ct13), sl13⟩) (c13 : PySem.W.codeIn K cd13 "is_formula_of" = true) (k13 : PySem.W.keepIn K (.ref f13) = true)
    (a14 : PySem.W.nsIn K mainGlobals "check_formula" = some (some (.ref f14))) (l14 : K.lookup f14 = some ⟨oc14, od14, .func (PySem.W.fnOf "check_formula" "check_formula" (defArgs s_check_formula) (defBody s_check_formula) (defScope s_check_formula) .none kV14 dc14 pm14 an14 cd14 ct14), sl14⟩) (c14 : PySem.W.codeIn K cd14 "check_formula" = true) (k14 : PySem.W.keepIn K (.ref f14) = true)
    (a15 : PySem.W.nsIn K mainGlobals "is_open_of" = some (some (.ref f15))) (l15 : K.lookup f15 = some ⟨oc15, od15, .func (PySem.W.fnOf "is_open_of" "is_open_of" (defArgs s_is_open_of) (defBody s_is_open_of) (defScope s_is_open_of) .none kV15 dc15 pm15 an15 cd15 ct15), sl15⟩) (c15 : PySem.W.codeIn K cd15 "is_open_of" = true) (k15 : PySem.W.keepIn K (.ref f15) = true)
    (a16 : PySem.W.nsIn K mainGlobals "check_open" = some (some (.ref f16))) (l16 : K.lookup f16 = some ⟨oc16, od16, .func (PySem.W.fnOf "check_open" "check_open" (defArgs s_check_open) (defBody s_check_open) (defScope s_check_open) .none kV16 dc16 pm16 an16 cd16 ct16), sl16⟩) (c16 : PySem.W.codeIn K cd16 "check_open" = true) (k16 : PySem.W.keepIn K (.ref f16) = true)
    (a17 : PySem.W.nsIn K mainGlobals "read_most" = some (some (.ref f17))) (l17 : K.lookup f17 = some ⟨oc17, od17, .func (PySem.W.fnOf "read_most" "read_most" (defArgs s_read_most) (defBody s_read_most) (defScope s_read_most) .none kV17 dc17 pm17 an17 cd17 ct17), sl17⟩) (c17 : PySem.W.codeIn K cd17 "read_most" = true) (k17 : PySem.W.keepIn K (.ref f17) = true)
    (a18 : PySem.W.nsIn K mainGlobals "turned" = some (some (.ref f18))) (l18 : K.lookup f18 = some ⟨oc18, od18, .func (PySem.W.fnOf "turned" "turned" (defArgs s_turned) (defBody s_turned) (defScope s_turned) .none kV18 dc18 pm18 an18 cd18 ct18), sl18⟩) (c18 : PySem.W.codeIn K cd18 "turned" = true) (k18 : PySem.W.keepIn K (.ref f18) = true)
    (a19 : PySem.W.nsIn K mainGlobals "read_all" = some (some (.ref f19))) (l19 : K.lookup f19 = some ⟨oc19, od19, .func (PySem.W.fnOf "read_all" "read_all" (defArgs s_read_all) (defBody s_read_all) (defScope s_read_all) .none kV19 dc19 pm19 an19 cd19 ct19), sl19⟩) (c19 : PySem.W.codeIn K cd19 "read_all" = true) (k19 : PySem.W.keepIn K (.ref f19) = true)
    (a20 : PySem.W.nsIn K mainGlobals "read_any" = some (some (.ref f20))) (l20 : K.lookup f20 = some ⟨oc20, od20, .func (PySem.W.fnOf "read_any" "read_any" (defArgs s_read_any) (defBody s_read_any) (defScope s_read_any) .none kV20 dc20 pm20 an20 cd20 ct20), sl20⟩) (c20 : PySem.W.codeIn K cd20 "read_any" = true) (k20 : PySem.W.keepIn K (.ref f20) = true)
    (a21 : PySem.W.nsIn K mainGlobals "read_by" = some (some (.ref f21))) (l21 : K.lookup f21 = some ⟨oc21, od21, .func (PySem.W.fnOf "read_by" "read_by" (defArgs s_read_by) (defBody s_read_by) (defScope s_read_by) .none kV21 dc21 pm21 an21 cd21 ct21), sl21⟩) (c21 : PySem.W.codeIn K cd21 "read_by" = true) (k21 : PySem.W.keepIn K (.ref f21) = true)
    (a22 : PySem.W.nsIn K mainGlobals "read_open" = some (some (.ref f22))) (l22 : K.lookup f22 = some ⟨oc22, od22, .func (PySem.W.fnOf "read_open" "read_open" (defArgs s_read_open) (defBody s_read_open) (defScope s_read_open) .none kV22 dc22 pm22 an22 cd22 ct22), sl22⟩) (c22 : PySem.W.codeIn K cd22 "read_open" = true) (k22 : PySem.W.keepIn K (.ref f22) = true)
    (a23 : PySem.W.nsIn K mainGlobals "_law_mixed" = some (some (.ref f23))) (l23 : K.lookup f23 = some ⟨oc23, od23, .func (PySem.W.fnOf "_law_mixed" "_law_mixed" (defArgs s_law_mixed) (defBody s_law_mixed) (defScope s_law_mixed) .none kV23 dc23 pm23 an23 cd23 ct23), sl23⟩) (c23 : PySem.W.codeIn K cd23 "_law_mixed" = true) (k23 : PySem.W.keepIn K (.ref f23) = true)
    (a24 : PySem.W.nsIn K mainGlobals "size" = some (some (.ref f24))) (l24 : K.lookup f24 = some ⟨oc24, od24, .func (PySem.W.fnOf "size" "size" (defArgs s_size) (defBody s_size) (defScope s_size) .none kV24 dc24 pm24 an24 cd24 ct24), sl24⟩) (c24 : PySem.W.codeIn K cd24 "size" = true) (k24 : PySem.W.keepIn K (.ref f24) = true)
    (a25 : PySem.W.nsIn K mainGlobals "named_in" = some (some (.ref f25))) (l25 : K.lookup f25 = some ⟨oc25, od25, .func (PySem.W.fnOf "named_in" "named_in" (defArgs s_named_in) (defBody s_named_in) (defScope s_named_in) .none kV25 dc25 pm25 an25 cd25 ct25), sl25⟩) (c25 : PySem.W.codeIn K cd25 "named_in" = true) (k25 : PySem.W.keepIn K (.ref f25) = true)
    (a26 : PySem.W.nsIn K mainGlobals "named" = some (some (.ref f26))) (l26 : K.lookup f26 = some ⟨oc26, od26, .func (PySem.W.fnOf "named" "named" (defArgs s_named) (defBody s_named) (defScope s_named) .none kV26 dc26 pm26 an26 cd26 ct26), sl26⟩) (c26 : PySem.W.codeIn K cd26 "named" = true) (k26 : PySem.W.keepIn K (.ref f26) = true)
    (a27 : PySem.W.nsIn K mainGlobals "is_choice_of" = some (some (.ref f27))) (l27 : K.lookup f27 = some ⟨oc27, od27, .func (PySem.W.fnOf "is_choice_of" "is_choice_of" (defArgs s_is_choice_of) (defBody s_is_choice_of) (defScope s_is_choice_of) .none kV27 dc27 pm27 an27 cd27 ct27), sl27⟩) (c27 : PySem.W.codeIn K cd27 "is_choice_of" = true) (k27 : PySem.W.keepIn K (.ref f27) = true)
    (a28 : PySem.W.nsIn K mainGlobals "check_choice" = some (some (.ref f28))) (l28 : K.lookup f28 = some ⟨oc28, od28, .func (PySem.W.fnOf "check_choice" "check_choice" (defArgs s_check_choice) (defBody s_check_choice) (defScope s_check_choice) .none kV28 dc28 pm28 an28 cd28 ct28), sl28⟩) (c28 : PySem.W.codeIn K cd28 "check_choice" = true) (k28 : PySem.W.keepIn K (.ref f28) = true)
    (a29 : PySem.W.nsIn K mainGlobals "holds" = some (some (.ref f29))) (l29 : K.lookup f29 = some ⟨oc29, od29, .func (PySem.W.fnOf "holds" "holds" (defArgs s_holds) (defBody s_holds) (defScope s_holds) .none kV29 dc29 pm29 an29 cd29 ct29), sl29⟩) (c29 : PySem.W.codeIn K cd29 "holds" = true) (k29 : PySem.W.keepIn K (.ref f29) = true)
    (a30 : PySem.W.nsIn K mainGlobals "_law_heaps_right" = some (some (.ref f30))) (l30 : K.lookup f30 = some ⟨oc30, od30, .func (PySem.W.fnOf "_law_heaps_right" "_law_heaps_right" (defArgs s_law_heaps_right) (defBody s_law_heaps_right) (defScope s_law_heaps_right) .none kV30 dc30 pm30 an30 cd30 ct30), sl30⟩) (c30 : PySem.W.codeIn K cd30 "_law_heaps_right" = true) (k30 : PySem.W.keepIn K (.ref f30) = true)
    (a31 : PySem.W.nsIn K mainGlobals "depth_of" = some (some (.ref f31))) (l31 : K.lookup f31 = some ⟨oc31, od31, .func (PySem.W.fnOf "depth_of" "depth_of" (defArgs s_depth_of) (defBody s_depth_of) (defScope s_depth_of) .none kV31 dc31 pm31 an31 cd31 ct31), sl31⟩) (c31 : PySem.W.codeIn K cd31 "depth_of" = true) (k31 : PySem.W.keepIn K (.ref f31) = true)
    (a32 : PySem.W.nsIn K mainGlobals "depth" = some (some (.ref f32))) (l32 : K.lookup f32 = some ⟨oc32, od32, .func (PySem.W.fnOf "depth" "depth" (defArgs s_depth) (defBody s_depth) (defScope s_depth) .none kV32 dc32 pm32 an32 cd32 ct32), sl32⟩) (c32 : PySem.W.codeIn K cd32 "depth" = true) (k32 : PySem.W.keepIn K (.ref f32) = true)
    (a33 : PySem.W.nsIn K mainGlobals "check_switch" = some (some (.ref f33))) (l33 : K.lookup f33 = some ⟨oc33, od33, .func (PySem.W.fnOf "check_switch" "check_switch" (defArgs s_check_switch) (defBody s_check_switch) (defScope s_check_switch) .none kV33 dc33 pm33 an33 cd33 ct33), sl33⟩) (c33 : PySem.W.codeIn K cd33 "check_switch" = true) (k33 : PySem.W.keepIn K (.ref f33) = true)
    (a34 : PySem.W.nsIn K mainGlobals "check_on" = some (some (.ref f34))) (l34 : K.lookup f34 = some ⟨oc34, od34, .func (PySem.W.fnOf "check_on" "check_on" (defArgs s_check_on) (defBody s_check_on) (defScope s_check_on) .none kV34 dc34 pm34 an34 cd34 ct34), sl34⟩) (c34 : PySem.W.codeIn K cd34 "check_on" = true) (k34 : PySem.W.keepIn K (.ref f34) = true)
    (a35 : PySem.W.nsIn K mainGlobals "fixed_at" = some (some (.ref f35))) (l35 : K.lookup f35 = some ⟨oc35, od35, .func (PySem.W.fnOf "fixed_at" "fixed_at" (defArgs s_fixed_at) (defBody s_fixed_at) (defScope s_fixed_at) .none kV35 dc35 pm35 an35 cd35 ct35), sl35⟩) (c35 : PySem.W.codeIn K cd35 "fixed_at" = true) (k35 : PySem.W.keepIn K (.ref f35) = true)
    (a36 : PySem.W.nsIn K mainGlobals "turned_at" = some (some (.ref f36))) (l36 : K.lookup f36 = some ⟨oc36, od36, .func (PySem.W.fnOf "turned_at" "turned_at" (defArgs s_turned_at) (defBody s_turned_at) (defScope s_turned_at) .none kV36 dc36 pm36 an36 cd36 ct36), sl36⟩) (c36 : PySem.W.codeIn K cd36 "turned_at" = true) (k36 : PySem.W.keepIn K (.ref f36) = true)
    (a37 : PySem.W.nsIn K mainGlobals "with_parts" = some (some (.ref f37))) (l37 : K.lookup f37 = some ⟨oc37, od37, .func (PySem.W.fnOf "with_parts" "with_parts" (defArgs s_with_parts) (defBody s_with_parts) (defScope s_with_parts) .none kV37 dc37 pm37 an37 cd37 ct37), sl37⟩) (c37 : PySem.W.codeIn K cd37 "with_parts" = true) (k37 : PySem.W.keepIn K (.ref f37) = true)
    (a38 : PySem.W.nsIn K mainGlobals "put_for" = some (some (.ref f38))) (l38 : K.lookup f38 = some ⟨oc38, od38, .func (PySem.W.fnOf "put_for" "put_for" (defArgs s_put_for) (defBody s_put_for) (defScope s_put_for) .none kV38 dc38 pm38 an38 cd38 ct38), sl38⟩) (c38 : PySem.W.codeIn K cd38 "put_for" = true) (k38 : PySem.W.keepIn K (.ref f38) = true)
    {cc39 : Addr}
    (a39 : PySem.W.nsIn K mainGlobals "fixed_formula" = some (some (.ref f39))) (l39 : K.lookup f39 = some ⟨oc39, od39, .func (PySem.W.fnOf "fixed_formula" "fixed_formula" (defArgs s_fixed_formula) (defBody s_fixed_formula) (defScope s_fixed_formula) .none kV39 dc39 pm39 an39 (.ref cc39) ct39), sl39⟩) (c39 : PySem.W.codeIn K (.ref cc39) "fixed_formula" = true) (k39 : PySem.W.keepIn K (.ref f39) = true)
    (h39 : PySem.W.codeHdIn K cc39 250 = true) (t39 : K.lookup 250 = none)
    {cc40 : Addr}
    (a40 : PySem.W.nsIn K mainGlobals "turned_formula" = some (some (.ref f40))) (l40 : K.lookup f40 = some ⟨oc40, od40, .func (PySem.W.fnOf "turned_formula" "turned_formula" (defArgs s_turned_formula) (defBody s_turned_formula) (defScope s_turned_formula) .none kV40 dc40 pm40 an40 (.ref cc40) ct40), sl40⟩) (c40 : PySem.W.codeIn K (.ref cc40) "turned_formula" = true) (k40 : PySem.W.keepIn K (.ref f40) = true)
    (h40 : PySem.W.codeHdIn K cc40 257 = true) (t40 : K.lookup 257 = none)
    (a41 : PySem.W.nsIn K mainGlobals "_law_chain_right" = some (some (.ref f41))) (l41 : K.lookup f41 = some ⟨oc41, od41, .func (PySem.W.fnOf "_law_chain_right" "_law_chain_right" (defArgs s_law_chain_right) (defBody s_law_chain_right) (defScope s_law_chain_right) .none kV41 dc41 pm41 an41 cd41 ct41), sl41⟩) (c41 : PySem.W.codeIn K cd41 "_law_chain_right" = true) (k41 : PySem.W.keepIn K (.ref f41) = true)
    (a42 : PySem.W.nsIn K mainGlobals "_law_great_right" = some (some (.ref f42))) (l42 : K.lookup f42 = some ⟨oc42, od42, .func (PySem.W.fnOf "_law_great_right" "_law_great_right" (defArgs s_law_great_right) (defBody s_law_great_right) (defScope s_law_great_right) .none kV42 dc42 pm42 an42 cd42 ct42), sl42⟩) (c42 : PySem.W.codeIn K cd42 "_law_great_right" = true) (k42 : PySem.W.keepIn K (.ref f42) = true)
    (a43 : PySem.W.nsIn K mainGlobals "law" = some (some (.ref f43))) (l43 : K.lookup f43 = some ⟨oc43, od43, .func (PySem.W.fnOf "law" "law" (defArgs s_law) (defBody s_law) (defScope s_law) .none kV43 dc43 pm43 an43 cd43 ct43), sl43⟩) (c43 : PySem.W.codeIn K cd43 "law" = true) (k43 : PySem.W.keepIn K (.ref f43) = true)
    (z_len : PySem.W.nsIn K mainGlobals "len" = some none)
    (z_abs : PySem.W.nsIn K mainGlobals "abs" = some none)
    (z_max : PySem.W.nsIn K mainGlobals "max" = some none)
    (z_int : PySem.W.nsIn K mainGlobals "int" = some none)
    (z_divmod : PySem.W.nsIn K mainGlobals "divmod" = some none)
    (z_tuple : PySem.W.nsIn K mainGlobals "tuple" = some none)
    (z_isinstance : PySem.W.nsIn K mainGlobals "isinstance" = some none)
    (z_bool : PySem.W.nsIn K mainGlobals "bool" = some none)
    (z_list : PySem.W.nsIn K mainGlobals "list" = some none)
    (z_str : PySem.W.nsIn K mainGlobals "str" = some none)
    (z_all : PySem.W.nsIn K mainGlobals "all" = some none)
    (z_sum : PySem.W.nsIn K mainGlobals "sum" = some none)
    (z_sorted : PySem.W.nsIn K mainGlobals "sorted" = some none)
    (z_set : PySem.W.nsIn K mainGlobals "set" = some none)
    (z_range : PySem.W.nsIn K mainGlobals "range" = some none)
    (z_enumerate : PySem.W.nsIn K mainGlobals "enumerate" = some none)
    (z_repr : PySem.W.nsIn K mainGlobals "repr" = some none)
    (z_any : PySem.W.nsIn K mainGlobals "any" = some none)
    {t_MOST_SWITCHES : Tok} (q_MOST_SWITCHES : PySem.W.nsIn K mainGlobals "MOST_SWITCHES" = some (some (.int 12 t_MOST_SWITCHES)))
    {x_PAIRED : Addr} {u_PAIRED : Array Value} {v_PAIRED : Nat} {w_PAIRED : Array (Option Value)} (q_PAIRED : PySem.W.nsIn K mainGlobals "PAIRED" = some (some (.ref x_PAIRED))) (r_PAIRED : K.lookup x_PAIRED = some ⟨.type "tuple", none, .seq u_PAIRED v_PAIRED, w_PAIRED⟩) (p_PAIRED : strsV u_PAIRED.toList = some (["then", "same"] : List Str)) (m_PAIRED : u_PAIRED.size ≤ sizeLine)
    {t_MOST_NUMBER : Tok} (q_MOST_NUMBER : PySem.W.nsIn K mainGlobals "MOST_NUMBER" = some (some (.int 7 t_MOST_NUMBER)))
    {t_MOST_PARTS : Tok} (q_MOST_PARTS : PySem.W.nsIn K mainGlobals "MOST_PARTS" = some (some (.int 8 t_MOST_PARTS)))
    {x_LISTED : Addr} {u_LISTED : Array Value} {v_LISTED : Nat} {w_LISTED : Array (Option Value)} (q_LISTED : PySem.W.nsIn K mainGlobals "LISTED" = some (some (.ref x_LISTED))) (r_LISTED : K.lookup x_LISTED = some ⟨.type "tuple", none, .seq u_LISTED v_LISTED, w_LISTED⟩) (p_LISTED : strsV u_LISTED.toList = some (["and", "or", "one"] : List Str)) (m_LISTED : u_LISTED.size ≤ sizeLine)
    {t_MOST_SIZE : Tok} (q_MOST_SIZE : PySem.W.nsIn K mainGlobals "MOST_SIZE" = some (some (.int 60 t_MOST_SIZE)))
    {t_MOST_DEPTH : Tok} (q_MOST_DEPTH : PySem.W.nsIn K mainGlobals "MOST_DEPTH" = some (some (.int 8 t_MOST_DEPTH)))
    : ∃ (fd : FuncData) (cs : List (Addr × Addr)), cs.map (·.2) = lawTabs.map (·.1) ∧ (∀ p ∈ cs, K.lookup p.2 = none) ∧ (∀ p ∈ cs, PySem.W.codeHdIn K p.1 p.2 = true) ∧ (∀ (s : Shared) (v : Value), BindsTo s fd ⟨[v], []⟩ [("script", v)]) ∧ ∀ base : Heap, K.In base → base.Ns mainGlobals mg → (∀ p ∈ cs, LamX.TabB base mg p.1 p.2) → FnG l.prog w K mg base CX0 19 fa fd ["script"] (spW K .S 1 fn_law) := by
  have e := hfa.symm.trans (PySem.W.mg_of X G a43)
  cases e
  have F1 := fun_mk (st := s_law_pot) l1 c1 k1
  have F2 := fun_mk (st := s_law_draw) l2 c2 k2
  have F3 := fun_mk (st := s_law_ons) l3 c3 k3
  have F4 := fun_mk (st := s_law_pick) l4 c4 k4
  have F5 := fun_mk (st := s_is_integer) l5 c5 k5
  have F6 := fun_mk (st := s_is_within) l6 c6 k6
  have F7 := funD_mk (st := s_check_switches) l7 c7 k7 lT7 pT7 (by decide)
  have F8 := fun_mk (st := s_is_switch) l8 c8 k8
  have F9 := fun_mk (st := s_has_form) l9 c9 k9
  have F10 := fun_mk (st := s_parts_of) l10 c10 k10
  have F11 := fun_mk (st := s_is_built) l11 c11 k11
  have F12 := fun_mk (st := s_size_of) l12 c12 k12
  have F13 := fun_mk (st := s_is_formula_of) l13 c13 k13
  have F14 := fun_mk (st := s_check_formula) l14 c14 k14
  have F15 := fun_mk (st := s_is_open_of) l15 c15 k15
  have F16 := fun_mk (st := s_check_open) l16 c16 k16
  have F17 := fun_mk (st := s_read_most) l17 c17 k17
  have F18 := fun_mk (st := s_turned) l18 c18 k18
  have F19 := fun_mk (st := s_read_all) l19 c19 k19
  have F20 := fun_mk (st := s_read_any) l20 c20 k20
  have F21 := fun_mk (st := s_read_by) l21 c21 k21
  have F22 := fun_mk (st := s_read_open) l22 c22 k22
  have F23 := fun_mk (st := s_law_mixed) l23 c23 k23
  have F24 := fun_mk (st := s_size) l24 c24 k24
  have F25 := fun_mk (st := s_named_in) l25 c25 k25
  have F26 := fun_mk (st := s_named) l26 c26 k26
  have F27 := fun_mk (st := s_is_choice_of) l27 c27 k27
  have F28 := fun_mk (st := s_check_choice) l28 c28 k28
  have F29 := fun_mk (st := s_holds) l29 c29 k29
  have F30 := fun_mk (st := s_law_heaps_right) l30 c30 k30
  have F31 := fun_mk (st := s_depth_of) l31 c31 k31
  have F32 := fun_mk (st := s_depth) l32 c32 k32
  have F33 := fun_mk (st := s_check_switch) l33 c33 k33
  have F34 := fun_mk (st := s_check_on) l34 c34 k34
  have F35 := fun_mk (st := s_fixed_at) l35 c35 k35
  have F36 := fun_mk (st := s_turned_at) l36 c36 k36
  have F37 := fun_mk (st := s_with_parts) l37 c37 k37
  have F38 := fun_mk (st := s_put_for) l38 c38 k38
  have F39 := fun_mk (st := s_fixed_formula) l39 c39 k39
  have F40 := fun_mk (st := s_turned_formula) l40 c40 k40
  have F41 := fun_mk (st := s_law_chain_right) l41 c41 k41
  have F42 := fun_mk (st := s_law_great_right) l42 c42 k42
  have F43 := fun_mk (st := s_law) l43 c43 k43
  have n_len := PySem.W.mg_none_of X G z_len
  have n_abs := PySem.W.mg_none_of X G z_abs
  have n_max := PySem.W.mg_none_of X G z_max
  have n_int := PySem.W.mg_none_of X G z_int
  have n_divmod := PySem.W.mg_none_of X G z_divmod
  have n_tuple := PySem.W.mg_none_of X G z_tuple
  have n_isinstance := PySem.W.mg_none_of X G z_isinstance
  have n_bool := PySem.W.mg_none_of X G z_bool
  have n_list := PySem.W.mg_none_of X G z_list
  have n_str := PySem.W.mg_none_of X G z_str
  have n_all := PySem.W.mg_none_of X G z_all
  have n_sum := PySem.W.mg_none_of X G z_sum
  have n_sorted := PySem.W.mg_none_of X G z_sorted
  have n_set := PySem.W.mg_none_of X G z_set
  have n_range := PySem.W.mg_none_of X G z_range
  have n_enumerate := PySem.W.mg_none_of X G z_enumerate
  have n_repr := PySem.W.mg_none_of X G z_repr
  have n_any := PySem.W.mg_none_of X G z_any
  have q_MOST_SWITCHES := gc_int (K := K) (PySem.W.mg_of X G q_MOST_SWITCHES)
  have q_PAIRED := gc_strs (K := K) (PySem.W.mg_of X G q_PAIRED) r_PAIRED p_PAIRED m_PAIRED
  have q_MOST_NUMBER := gc_int (K := K) (PySem.W.mg_of X G q_MOST_NUMBER)
  have q_MOST_PARTS := gc_int (K := K) (PySem.W.mg_of X G q_MOST_PARTS)
  have q_LISTED := gc_strs (K := K) (PySem.W.mg_of X G q_LISTED) r_LISTED p_LISTED m_LISTED
  have q_MOST_SIZE := gc_int (K := K) (PySem.W.mg_of X G q_MOST_SIZE)
  have q_MOST_DEPTH := gc_int (K := K) (PySem.W.mg_of X G q_MOST_DEPTH)
  refine ⟨PySem.W.fnOf "law" "law" (defArgs s_law) (defBody s_law) (defScope s_law) .none kV43 dc43 pm43 an43 cd43 ct43, [(cc39, 250), (cc40, 257)], rfl, ?_, ?_, fun s v => .of_eq rfl, fun base _ _ hTB => ?_⟩
  · intro p hp
    simp only [List.mem_cons, List.not_mem_nil, or_false] at hp
    rcases hp with rfl | rfl
    · exact t39
    · exact t40
  · intro p hp
    simp only [List.mem_cons, List.not_mem_nil, or_false] at hp
    rcases hp with rfl | rfl
    · exact h39
    · exact h40
  have B39 : LamX.TabB base mg cc39 250 := hTB (cc39, 250) (by simp)
  have B40 : LamX.TabB base mg cc40 257 := hTB (cc40, 257) (by simp)
  have f_law_pot := FnW.pot (w_law_pot (P := l.prog) (w := w) (base := base) F1 (PySem.W.mg_of X G a1) (F1.binds (ps := ["script", "k"]) fun _ _ _ _ _ _ us hl => match us, hl with | [_, _], _ => rfl) n_len n_abs n_max n_int)
  have f_law_draw := w_law_draw (P := l.prog) (w := w) (base := base) F2 (PySem.W.mg_of X G a2) (F2.binds (ps := ["pot", "many"]) fun _ _ _ _ _ _ us hl => match us, hl with | [_, _], _ => rfl) n_divmod n_int
  have f_law_ons := w_law_ons (P := l.prog) (w := w) (base := base) F3 (PySem.W.mg_of X G a3) (F3.binds (ps := ["some"]) fun _ _ _ _ _ _ us hl => match us, hl with | [_], _ => rfl) n_tuple
  have f_law_pick := w_law_pick (P := l.prog) (w := w) (base := base) F4 (PySem.W.mg_of X G a4) (F4.binds (ps := ["pot", "some"]) fun _ _ _ _ _ _ us hl => match us, hl with | [_, _], _ => rfl) n_len f_law_draw
  have f_is_integer := w_is_integer (P := l.prog) (w := w) (base := base) F5 (PySem.W.mg_of X G a5) (F5.binds (ps := ["value"]) fun _ _ _ _ _ _ us hl => match us, hl with | [_], _ => rfl) n_isinstance n_bool n_int
  have f_is_within := w_is_within (P := l.prog) (w := w) (base := base) F6 (PySem.W.mg_of X G a6) (F6.binds (ps := ["value", "least", "most"]) fun _ _ _ _ _ _ us hl => match us, hl with | [_, _, _], _ => rfl) f_is_integer
  have B_check_switches := b_check_switches (P := l.prog) (w := w) (base := base) F7 q_MOST_SWITCHES f_is_within
  have f_check_switches := fnW_ofD (n := 2) mono_gBody F7 (PySem.W.mg_of X G a7) (by decide) rfl (fun _ _ _ _ _ _ _ us its h1 h2 => match us, its, h1, h2 with | [_, _], [_], _, _ => ⟨_, rfl, rfl⟩) B_check_switches
  have d1_check_switches := fnD_of (n := 1) (j := 0) (dds := [.int 1]) mono_gBody F7 (PySem.W.mg_of X G a7) (by decide) rfl rfl rfl (fun _ _ _ _ _ _ _ us its h1 h2 => match us, its, h1, h2 with | [_], [_], _, _ => ⟨_, rfl, rfl⟩) B_check_switches
  have f_is_switch := w_is_switch (P := l.prog) (w := w) (base := base) F8 (PySem.W.mg_of X G a8) (F8.binds (ps := ["switches", "value"]) fun _ _ _ _ _ _ us hl => match us, hl with | [_, _], _ => rfl) f_is_within
  have f_has_form := w_has_form (P := l.prog) (w := w) (base := base) F9 (PySem.W.mg_of X G a9) (F9.binds (ps := ["switches", "value"]) fun _ _ _ _ _ _ us hl => match us, hl with | [_, _], _ => rfl) n_len q_PAIRED q_MOST_NUMBER q_MOST_PARTS q_LISTED f_is_switch f_is_within
  have f_parts_of := w_parts_of (P := l.prog) (w := w) (base := base) F10 (PySem.W.mg_of X G a10) (F10.binds (ps := ["formula"]) fun _ _ _ _ _ _ us hl => match us, hl with | [_], _ => rfl) n_list q_PAIRED q_LISTED
  have f_is_built := w_is_built (P := l.prog) (w := w) (base := base) F11 (PySem.W.mg_of X G a11) (F11.binds (ps := ["switches", "value", "depth"]) fun _ _ _ _ _ _ us hl => match us, hl with | [_, _, _], _ => rfl) n_isinstance n_str n_tuple n_all f_has_form f_parts_of 10
  have f_size_of := w_size_of (P := l.prog) (w := w) (base := base) F12 (PySem.W.mg_of X G a12) (F12.binds (ps := ["formula"]) fun _ _ _ _ _ _ us hl => match us, hl with | [_], _ => rfl) n_sum f_parts_of 10
  have f_is_formula_of := w_is_formula_of (P := l.prog) (w := w) (base := base) F13 (PySem.W.mg_of X G a13) (F13.binds (ps := ["switches", "value"]) fun _ _ _ _ _ _ us hl => match us, hl with | [_, _], _ => rfl) q_MOST_SIZE q_MOST_DEPTH f_size_of f_is_built
  have f_check_formula := w_check_formula (P := l.prog) (w := w) (base := base) F14 (PySem.W.mg_of X G a14) (F14.binds (ps := ["switches", "value"]) fun _ _ _ _ _ _ us hl => match us, hl with | [_, _], _ => rfl) f_is_formula_of
  have f_is_open_of := w_is_open_of (P := l.prog) (w := w) (base := base) F15 (PySem.W.mg_of X G a15) (F15.binds (ps := ["switches", "value"]) fun _ _ _ _ _ _ us hl => match us, hl with | [_, _], _ => rfl) n_len n_isinstance n_tuple n_bool n_all
  have f_check_open := w_check_open (P := l.prog) (w := w) (base := base) F16 (PySem.W.mg_of X G a16) (F16.binds (ps := ["switches", "value"]) fun _ _ _ _ _ _ us hl => match us, hl with | [_, _], _ => rfl) f_is_open_of
  have f_read_most := w_read_most (P := l.prog) (w := w) (base := base) F17 (PySem.W.mg_of X G a17) (F17.binds (ps := ["number", "some"]) fun _ _ _ _ _ _ us hl => match us, hl with | [_, _], _ => rfl) 
  have f_turned := w_turned (P := l.prog) (w := w) (base := base) F18 (PySem.W.mg_of X G a18) (F18.binds (ps := ["read"]) fun _ _ _ _ _ _ us hl => match us, hl with | [_], _ => rfl) 
  have f_read_all := w_read_all (P := l.prog) (w := w) (base := base) F19 (PySem.W.mg_of X G a19) (F19.binds (ps := ["some"]) fun _ _ _ _ _ _ us hl => match us, hl with | [_], _ => rfl) 
  have f_read_any := w_read_any (P := l.prog) (w := w) (base := base) F20 (PySem.W.mg_of X G a20) (F20.binds (ps := ["some"]) fun _ _ _ _ _ _ us hl => match us, hl with | [_], _ => rfl) f_turned f_read_all
  have f_read_by := w_read_by (P := l.prog) (w := w) (base := base) F21 (PySem.W.mg_of X G a21) (F21.binds (ps := ["formula", "opened"]) fun _ _ _ _ _ _ us hl => match us, hl with | [_, _], _ => rfl) f_parts_of f_turned f_read_all f_read_any f_read_most 9
  have f_read_open := w_read_open (P := l.prog) (w := w) (base := base) F22 (PySem.W.mg_of X G a22) (F22.binds (ps := ["switches", "formula", "opened"]) fun _ _ _ _ _ _ us hl => match us, hl with | [_, _, _], _ => rfl) f_check_formula f_check_open f_read_by d1_check_switches
  have f_law_mixed := w_law_mixed (P := l.prog) (w := w) (base := base) F23 (PySem.W.mg_of X G a23) (F23.binds (ps := ["pot", "some"]) fun _ _ _ _ _ _ us hl => match us, hl with | [_, _], _ => rfl) n_list n_len f_law_draw
  have f_size := w_size (P := l.prog) (w := w) (base := base) F24 (PySem.W.mg_of X G a24) (F24.binds (ps := ["switches", "formula"]) fun _ _ _ _ _ _ us hl => match us, hl with | [_, _], _ => rfl) f_check_formula f_size_of d1_check_switches
  have f_named_in := w_named_in (P := l.prog) (w := w) (base := base) F25 (PySem.W.mg_of X G a25) (F25.binds (ps := ["formula"]) fun _ _ _ _ _ _ us hl => match us, hl with | [_], _ => rfl) f_parts_of 10
  have f_named := w_named (P := l.prog) (w := w) (base := base) F26 (PySem.W.mg_of X G a26) (F26.binds (ps := ["switches", "formula"]) fun _ _ _ _ _ _ us hl => match us, hl with | [_, _], _ => rfl) n_sorted n_set f_check_formula f_named_in d1_check_switches
  have f_is_choice_of := w_is_choice_of (P := l.prog) (w := w) (base := base) F27 (PySem.W.mg_of X G a27) (F27.binds (ps := ["switches", "value"]) fun _ _ _ _ _ _ us hl => match us, hl with | [_, _], _ => rfl) n_isinstance n_bool n_all n_len n_tuple
  have f_check_choice := w_check_choice (P := l.prog) (w := w) (base := base) F28 (PySem.W.mg_of X G a28) (F28.binds (ps := ["switches", "value"]) fun _ _ _ _ _ _ us hl => match us, hl with | [_, _], _ => rfl) f_is_choice_of
  have f_holds := w_holds (P := l.prog) (w := w) (base := base) F29 (PySem.W.mg_of X G a29) (F29.binds (ps := ["switches", "formula", "choice"]) fun _ _ _ _ _ _ us hl => match us, hl with | [_, _, _], _ => rfl) f_check_formula f_check_choice f_read_by d1_check_switches
  have K_k0_read_open := fnK_of (P := l.prog) (w := w) (base := base) (ps := ["switches", "formula", "opened"]) (N := ["switches", "formula", "opened"]) (m := .S) (g := g_read_open) (ks := ["opened", "formula", "switches"]) (np := 0) (π := [2, 1, 0]) F22 (PySem.W.mg_of X G a22) (fun s us ws _ hu hw => match us, ws, hu, hw with | [], [_, _, _], _, _ => .of_eq rfl) rfl (by decide) (b_read_open (P := l.prog) (w := w) (base := base) F22 f_check_formula f_check_open f_read_by d1_check_switches)
  have f_law_heaps_right := w_law_heaps_right (P := l.prog) (w := w) (base := base) F30 (PySem.W.mg_of X G a30) (F30.binds (ps := ["pot"]) fun _ _ _ _ _ _ us hl => match us, hl with | [_], _ => rfl) n_list n_range n_enumerate n_tuple n_repr n_int n_sorted f_law_draw f_law_mixed f_law_pick f_law_ons f_read_open f_size f_named f_holds K_k0_read_open
  have f_depth_of := w_depth_of (P := l.prog) (w := w) (base := base) F31 (PySem.W.mg_of X G a31) (F31.binds (ps := ["formula"]) fun _ _ _ _ _ _ us hl => match us, hl with | [_], _ => rfl) n_max f_parts_of 10
  have f_depth := w_depth (P := l.prog) (w := w) (base := base) F32 (PySem.W.mg_of X G a32) (F32.binds (ps := ["switches", "formula"]) fun _ _ _ _ _ _ us hl => match us, hl with | [_, _], _ => rfl) f_check_formula f_depth_of d1_check_switches
  have f_check_switch := w_check_switch (P := l.prog) (w := w) (base := base) F33 (PySem.W.mg_of X G a33) (F33.binds (ps := ["switches", "value"]) fun _ _ _ _ _ _ us hl => match us, hl with | [_, _], _ => rfl) f_is_switch
  have f_check_on := w_check_on (P := l.prog) (w := w) (base := base) F34 (PySem.W.mg_of X G a34) (F34.binds (ps := ["value"]) fun _ _ _ _ _ _ us hl => match us, hl with | [_], _ => rfl) n_isinstance n_bool
  have f_fixed_at := w_fixed_at (P := l.prog) (w := w) (base := base) F35 (PySem.W.mg_of X G a35) (F35.binds (ps := ["switch", "is_on", "late"]) fun _ _ _ _ _ _ us hl => match us, hl with | [_, _, _], _ => rfl) 
  have f_turned_at := w_turned_at (P := l.prog) (w := w) (base := base) F36 (PySem.W.mg_of X G a36) (F36.binds (ps := ["switch", "late"]) fun _ _ _ _ _ _ us hl => match us, hl with | [_, _], _ => rfl) 
  have f_with_parts := w_with_parts (P := l.prog) (w := w) (base := base) F37 (PySem.W.mg_of X G a37) (F37.binds (ps := ["formula", "parts"]) fun _ _ _ _ _ _ us hl => match us, hl with | [_, _], _ => rfl) n_tuple
  have o0 := ok_lam0 (P := l.prog) (w := w) (K := K) (mg := mg) (base := base) f_fixed_at
  have o1 := ok_lam1 (P := l.prog) (w := w) (K := K) (mg := mg) (base := base) f_turned_at
  have h_chi_put_for := ok_chi_put_for o0 o1
  have m_chi_put_for := mono_chi_put_for (by
    intro n hn
    simp only [List.mem_cons, List.not_mem_nil, or_false] at hn
    rcases hn with rfl | rfl
    · exact o0.mono
    · exact o1.mono)
  have f_put_for := w_put_for (P := l.prog) (w := w) (base := base) F38 (PySem.W.mg_of X G a38) (F38.binds (ps := ["formula", "change"]) fun _ _ _ _ _ _ us hl => match us, hl with | [_, _], _ => rfl) f_parts_of f_with_parts h_chi_put_for m_chi_put_for 10
  have f_fixed_formula := w_fixed_formula (P := l.prog) (w := w) (base := base) F39 (PySem.W.mg_of X G a39) (F39.binds (ps := ["switches", "formula", "switch", "is_on"]) fun _ _ _ _ _ _ us hl => match us, hl with | [_, _, _, _], _ => rfl) rfl B39 f_check_formula f_check_switch f_check_on f_put_for d1_check_switches
  have f_turned_formula := w_turned_formula (P := l.prog) (w := w) (base := base) F40 (PySem.W.mg_of X G a40) (F40.binds (ps := ["switches", "formula", "switch"]) fun _ _ _ _ _ _ us hl => match us, hl with | [_, _, _], _ => rfl) rfl B40 f_check_formula f_check_switch f_put_for d1_check_switches
  have K_k0_holds := fnK_of (P := l.prog) (w := w) (base := base) (ps := ["switches", "formula", "choice"]) (N := ["switches", "formula", "choice"]) (m := .S) (g := g_holds) (ks := ["choice", "formula", "switches"]) (np := 0) (π := [2, 1, 0]) F29 (PySem.W.mg_of X G a29) (fun s us ws _ hu hw => match us, ws, hu, hw with | [], [_, _, _], _, _ => .of_eq rfl) rfl (by decide) (b_holds (P := l.prog) (w := w) (base := base) F29 f_check_formula f_check_choice f_read_by d1_check_switches)
  have f_law_chain_right := w_law_chain_right (P := l.prog) (w := w) (base := base) F41 (PySem.W.mg_of X G a41) (F41.binds (ps := ["pot"]) fun _ _ _ _ _ _ us hl => match us, hl with | [_], _ => rfl) n_range n_tuple f_law_draw f_size f_depth f_holds f_fixed_formula f_turned_formula K_k0_holds
  have f_law_great_right := w_law_great_right (P := l.prog) (w := w) (base := base) F42 (PySem.W.mg_of X G a42) (F42.binds (ps := ["pot"]) fun _ _ _ _ _ _ us hl => match us, hl with | [_], _ => rfl) n_range n_list n_tuple n_any n_all n_len n_repr f_law_mixed f_law_ons f_law_draw f_size f_depth f_holds
  exact b_law F43 f_law_pot f_law_great_right f_law_chain_right f_law_heaps_right
end K14

namespace K14
open PySem PySem.Spec PyProof.Rows L2 WL

/-! ### formulas of many parts, and what is read of them -/
inductive Lw where
  | and | or | one
  | most (k : Nat)
def Lw.head : Lw → List PyData
  | .and => [.str "and"]
  | .or => [.str "or"]
  | .one => [.str "one"]
  | .most k => [.str "most", .int k]
def Lw.ok : Lw → Prop
  | .most k => k ≤ 7
  | _ => True
inductive Gf where
  | yes | no
  | on (s : Nat)
  | neg (a : Gf)
  | thn (a b : Gf)
  | many (w : Lw) (as : List Gf)
mutual
def Gf.d : Gf → PyData
  | .yes => .tuple [.str "yes"]
  | .no => .tuple [.str "no"]
  | .on s => .tuple [.str "on", .int s]
  | .neg a => .tuple [.str "not", a.d]
  | .thn a b => .tuple [.str "then", a.d, b.d]
  | .many w as => .tuple (w.head ++ Gf.dL as)
def Gf.dL : List Gf → List PyData
  | [] => []
  | a :: as => a.d :: Gf.dL as
end
mutual
def Gf.dep : Gf → Nat
  | .yes | .no | .on _ => 1
  | .neg a => 1 + a.dep
  | .thn a b => 1 + max a.dep b.dep
  | .many _ as => 1 + Gf.depL as
def Gf.depL : List Gf → Nat
  | [] => 0
  | a :: as => max a.dep (Gf.depL as)
end
mutual
def Gf.sz : Gf → Nat
  | .yes | .no | .on _ => 1
  | .neg a => 1 + a.sz
  | .thn a b => 1 + (a.sz + b.sz)
  | .many _ as => 1 + Gf.szL as
def Gf.szL : List Gf → Nat
  | [] => 0
  | a :: as => a.sz + Gf.szL as
end
mutual
def Gf.wf (sw : Nat) : Gf → Prop
  | .yes | .no => True
  | .on s => s < sw
  | .neg a => a.wf sw
  | .thn a b => a.wf sw ∧ b.wf sw
  | .many w as => w.ok ∧ 2 ≤ as.length ∧ as.length ≤ 8 ∧ Gf.wfL sw as
def Gf.wfL (sw : Nat) : List Gf → Prop
  | [] => True
  | a :: as => a.wf sw ∧ Gf.wfL sw as
end
abbrev Ob := Option Bool
def rTurn (x : Ob) : Ob := x.map (!·)
def rAll (l : List Ob) : Ob := if l.contains (some false) then some false else if l.contains none then none else some true
def rAny (l : List Ob) : Ob := if l.contains (some true) then some true else if l.contains none then none else some false
def rMost (k : Nat) (l : List Ob) : Ob := if k < l.count (some true) then some false else if l.count (some true) + l.count none ≤ k then some true else none
def rOne (l : List Ob) : Ob := if 1 < l.count (some true) ∨ l.count (some false) = l.length then some false else if l.count (some true) = 1 ∧ l.count none = 0 then some true else none
def rW : Lw → List Ob → Ob
  | .and, l => rAll l
  | .or, l => rAny l
  | .one, l => rOne l
  | .most k, l => rMost k l
def rThen (a b : Ob) : Ob := rAny [rTurn a, b]
mutual
def rd (o : Nat → Ob) : Gf → Ob
  | .yes => some true
  | .no => some false
  | .on s => o s
  | .neg a => rTurn (rd o a)
  | .thn a b => rThen (rd o a) (rd o b)
  | .many w as => rW w (rdL o as)
def rdL (o : Nat → Ob) : List Gf → List Ob
  | [] => []
  | a :: as => rd o a :: rdL o as
end
theorem Gf.dL_map : ∀ as : List Gf, Gf.dL as = as.map Gf.d
  | [] => rfl
  | a :: as => by rw [Gf.dL, Gf.dL_map as, List.map_cons]
theorem rdL_map {o : Nat → Ob} : ∀ as : List Gf, rdL o as = as.map (rd o)
  | [] => rfl
  | a :: as => by rw [rdL, rdL_map as, List.map_cons]
theorem Gf.szL_sum : ∀ as : List Gf, Gf.szL as = (as.map Gf.sz).sum
  | [] => rfl
  | a :: as => by rw [Gf.szL, Gf.szL_sum as, List.map_cons, List.sum_cons]
theorem Gf.depL_le : ∀ {as : List Gf} {n : Nat}, Gf.depL as ≤ n ↔ ∀ a ∈ as, a.dep ≤ n
  | [], n => by simp [Gf.depL]
  | a :: as, n => by simp [Gf.depL, Gf.depL_le (as := as), Nat.max_le]
theorem Gf.wfL_all {sw : Nat} : ∀ {as : List Gf}, Gf.wfL sw as ↔ ∀ a ∈ as, a.wf sw
  | [] => by simp [Gf.wfL]
  | a :: as => by simp [Gf.wfL, Gf.wfL_all (as := as)]
theorem Gf.dep_pos : ∀ F : Gf, 1 ≤ F.dep := fun F => by cases F <;> simp [Gf.dep] <;> omega
theorem rAny_turn (l : List Ob) : rTurn (rAll (l.map rTurn)) = rAny l := by
  unfold rAll rAny
  have e1 : (l.map rTurn).contains (some false) = l.contains (some true) := by
    induction l with
    | nil => rfl
    | cons x l ih =>
      rw [List.map_cons, List.contains_cons, List.contains_cons, ih]
      congr 1
      rcases x with _ | _ | _ <;> rfl
  have e2 : (l.map rTurn).contains none = l.contains none := by
    induction l with
    | nil => rfl
    | cons x l ih =>
      rw [List.map_cons, List.contains_cons, List.contains_cons]
      rw [show (l.map rTurn).contains none = l.contains none from by
        clear ih e1
        induction l with
        | nil => rfl
        | cons x l ih =>
          rw [List.map_cons, List.contains_cons, List.contains_cons, ih]
          congr 1
          rcases x with _ | _ | _ <;> rfl]
      congr 1
      rcases x with _ | _ | _ <;> rfl
  rw [e1, e2]
  split
  · rfl
  · split <;> rfl
theorem cnt_all : ∀ l : List Ob, l.count (some true) + l.count (some false) + l.count none = l.length
  | [] => rfl
  | x :: l => by
    have := cnt_all l
    rcases x with _ | _ | _ <;> simp [List.count_cons] <;> omega
theorem has_cnt {x : Ob} {l : List Ob} : l.contains x = decide (0 < l.count x) := by
  rw [Bool.eq_iff_iff, List.contains_iff_mem, decide_eq_true_eq, List.count_pos_iff]
theorem rOne_eq (l : List Ob) : rAll [rAny l, rMost 1 l] = rOne l := by
  have hc := cnt_all l
  unfold rAny rMost rOne
  rw [has_cnt, has_cnt]
  by_cases h1 : 0 < l.count (some true)
  · by_cases h2 : 1 < l.count (some true)
    · simp [h1, h2, rAll]
    · by_cases h3 : l.count none = 0
      · have : l.count (some true) = 1 := by omega
        have n1 : ¬ l.count (some false) = l.length := by omega
        simp [h1, h2, h3, this, n1, rAll]
      · have n1 : ¬ l.count (some false) = l.length := by omega
        have n2 : ¬ l.count (some true) + l.count none ≤ 1 := by omega
        simp [h1, h2, h3, n1, n2, rAll]
  · have z : l.count (some true) = 0 := by omega
    by_cases h3 : l.count none = 0
    · have n1 : l.count (some false) = l.length := by omega
      simp [z, h3, n1, rAll]
    · have n1 : ¬ l.count (some false) = l.length := by omega
      have n2 : 0 < l.count none := by omega
      by_cases h4 : l.count none ≤ 1
      · simp [z, h3, n1, n2, h4, rAll]
      · simp [z, h3, n1, n2, h4, rAll]
end K14

namespace K14
open PySem PySem.Spec PyProof.Rows L2 WL
def isInt : PyData → Bool
  | .int _ => true
  | _ => false
def inR (lo hi : Int) : PyData → Bool
  | .int i => decide (lo ≤ i) && decide (i ≤ hi)
  | _ => false
theorem is_integer_ok {d : PyData} {Q : PyData → Prop} (h : noTok d = true) (q : Q (.bool (isInt d))) : fn_is_integer [d] Q := by
  refine gBody_of ?_
  unfold g_is_integer
  simp [wRet, wAndV, wU, wVb, wNotV, args, isiD, h, endB]
  cases d <;> simp_all [isTy, isInt]
theorem is_within_ok {d : PyData} {lo hi : Int} {Q : PyData → Prop} (h : noTok d = true) (q : Q (.bool (inR lo hi d))) : fn_is_within [d, .int lo, .int hi] Q := by
  refine gBody_of ?_
  unfold g_is_within
  simp [wRet, wAndV, wCall, wCons, wNil, wV, wVb, wChain, args, endB]
  refine is_integer_ok h ?_
  cases d with
  | int i => simp_all [isInt, inR]; by_cases c : lo ≤ i <;> simp_all
  | _ => simp_all [isInt, inR]
theorem is_switch_ok {d : PyData} {sw : Int} {Q : PyData → Prop} (h : noTok d = true) (q : Q (.bool (inR 0 (sw - 1) d))) : fn_is_switch [.int sw, d] Q := by
  refine gBody_of ?_
  unfold g_is_switch
  simp [wRet, wCall, wCons, wNil, wV, wVb, wB, wC, args, endB]
  exact is_within_ok h q
end K14

namespace K14
open PySem PySem.Spec PyProof.Rows L2 WL
@[simp] theorem flatD_str {s : Str} : flatD (.str s) = true := rfl
@[simp] theorem eqFlat_str {a b : Str} : eqFlat (.str a) (.str b) = (a == b) := rfl
@[simp] theorem inF_nil {x : PyData} : inF x [] = false := rfl
@[simp] theorem inF_cons {x y : PyData} {l : List PyData} : inF x (y :: l) = (eqFlat y x || inF x l) := rfl
theorem ex2 {x y : PyData} {p : PyData → PyData → Prop} : (∃ d1 d2, (x = d1 ∧ y = d2) ∧ p d1 d2) ↔ p x y := ⟨fun ⟨_, _, ⟨rfl, rfl⟩, h⟩ => h, fun h => ⟨_, _, ⟨rfl, rfl⟩, h⟩⟩
theorem ex3 {x y z : PyData} {p : PyData → PyData → PyData → Prop} : (∃ d1 d2 d3, (x = d1 ∧ y = d2 ∧ z = d3) ∧ p d1 d2 d3) ↔ p x y z := ⟨fun ⟨_, _, _, ⟨rfl, rfl, rfl⟩, h⟩ => h, fun h => ⟨_, _, _, ⟨rfl, rfl, rfl⟩, h⟩⟩
@[simp] theorem sz2 : 2 ≤ sizeLine := by decide
@[simp] theorem sz0 : 0 ≤ sizeLine := by decide
@[simp] theorem sz4 : 4 ≤ sizeLine := by decide
@[simp] theorem sz7 : 7 ≤ sizeLine := by decide
theorem words (w : Str) : w = "yes" ∨ w = "no" ∨ w = "on" ∨ w = "not" ∨ w = "then" ∨ w = "same" ∨ w = "most" ∨ w = "and" ∨ w = "or" ∨ w = "one" ∨ ((w == ("yes" : Str)) = false ∧ (("yes" : Str) == w) = false ∧ (w == ("no" : Str)) = false ∧ (("no" : Str) == w) = false ∧ (w == ("on" : Str)) = false ∧ (("on" : Str) == w) = false ∧ (w == ("not" : Str)) = false ∧ (("not" : Str) == w) = false ∧ (w == ("then" : Str)) = false ∧ (("then" : Str) == w) = false ∧ (w == ("same" : Str)) = false ∧ (("same" : Str) == w) = false ∧ (w == ("most" : Str)) = false ∧ (("most" : Str) == w) = false ∧ (w == ("and" : Str)) = false ∧ (("and" : Str) == w) = false ∧ (w == ("or" : Str)) = false ∧ (("or" : Str) == w) = false ∧ (w == ("one" : Str)) = false ∧ (("one" : Str) == w) = false) := by
  have sym : ∀ s : Str, w ≠ s → (w == s) = false ∧ (s == w) = false := fun s h => ⟨beq_eq_false_iff_ne.mpr h, beq_eq_false_iff_ne.mpr fun e => h e.symm⟩
  by_cases h0 : w = "yes"
  · exact (.inl h0)
  by_cases h1 : w = "no"
  · exact (.inr (.inl h1))
  by_cases h2 : w = "on"
  · exact (.inr (.inr (.inl h2)))
  by_cases h3 : w = "not"
  · exact (.inr (.inr (.inr (.inl h3))))
  by_cases h4 : w = "then"
  · exact (.inr (.inr (.inr (.inr (.inl h4)))))
  by_cases h5 : w = "same"
  · exact (.inr (.inr (.inr (.inr (.inr (.inl h5))))))
  by_cases h6 : w = "most"
  · exact (.inr (.inr (.inr (.inr (.inr (.inr (.inl h6)))))))
  by_cases h7 : w = "and"
  · exact (.inr (.inr (.inr (.inr (.inr (.inr (.inr (.inl h7))))))))
  by_cases h8 : w = "or"
  · exact (.inr (.inr (.inr (.inr (.inr (.inr (.inr (.inr (.inl h8)))))))))
  by_cases h9 : w = "one"
  · exact (.inr (.inr (.inr (.inr (.inr (.inr (.inr (.inr (.inr (.inl h9))))))))))
  exact (.inr (.inr (.inr (.inr (.inr (.inr (.inr (.inr (.inr (.inr ⟨(sym _ h0).1, (sym _ h0).2, (sym _ h1).1, (sym _ h1).2, (sym _ h2).1, (sym _ h2).2, (sym _ h3).1, (sym _ h3).2, (sym _ h4).1, (sym _ h4).2, (sym _ h5).1, (sym _ h5).2, (sym _ h6).1, (sym _ h6).2, (sym _ h7).1, (sym _ h7).2, (sym _ h8).1, (sym _ h8).2, (sym _ h9).1, (sym _ h9).2⟩))))))))))
@[simp] theorem ok_yes : PyData.strOk ("yes" : Str) = true := by decide +kernel
@[simp] theorem q_yes_yes : (("yes" : Str) == ("yes" : Str)) = true := by decide +kernel
@[simp] theorem q_yes_no : (("yes" : Str) == ("no" : Str)) = false := by decide +kernel
@[simp] theorem q_yes_on : (("yes" : Str) == ("on" : Str)) = false := by decide +kernel
@[simp] theorem q_yes_not : (("yes" : Str) == ("not" : Str)) = false := by decide +kernel
@[simp] theorem q_yes_then : (("yes" : Str) == ("then" : Str)) = false := by decide +kernel
@[simp] theorem q_yes_same : (("yes" : Str) == ("same" : Str)) = false := by decide +kernel
@[simp] theorem q_yes_most : (("yes" : Str) == ("most" : Str)) = false := by decide +kernel
@[simp] theorem q_yes_and : (("yes" : Str) == ("and" : Str)) = false := by decide +kernel
@[simp] theorem q_yes_or : (("yes" : Str) == ("or" : Str)) = false := by decide +kernel
@[simp] theorem q_yes_one : (("yes" : Str) == ("one" : Str)) = false := by decide +kernel
@[simp] theorem ok_no : PyData.strOk ("no" : Str) = true := by decide +kernel
@[simp] theorem q_no_yes : (("no" : Str) == ("yes" : Str)) = false := by decide +kernel
@[simp] theorem q_no_no : (("no" : Str) == ("no" : Str)) = true := by decide +kernel
@[simp] theorem q_no_on : (("no" : Str) == ("on" : Str)) = false := by decide +kernel
@[simp] theorem q_no_not : (("no" : Str) == ("not" : Str)) = false := by decide +kernel
@[simp] theorem q_no_then : (("no" : Str) == ("then" : Str)) = false := by decide +kernel
@[simp] theorem q_no_same : (("no" : Str) == ("same" : Str)) = false := by decide +kernel
@[simp] theorem q_no_most : (("no" : Str) == ("most" : Str)) = false := by decide +kernel
@[simp] theorem q_no_and : (("no" : Str) == ("and" : Str)) = false := by decide +kernel
@[simp] theorem q_no_or : (("no" : Str) == ("or" : Str)) = false := by decide +kernel
@[simp] theorem q_no_one : (("no" : Str) == ("one" : Str)) = false := by decide +kernel
@[simp] theorem ok_on : PyData.strOk ("on" : Str) = true := by decide +kernel
@[simp] theorem q_on_yes : (("on" : Str) == ("yes" : Str)) = false := by decide +kernel
@[simp] theorem q_on_no : (("on" : Str) == ("no" : Str)) = false := by decide +kernel
@[simp] theorem q_on_on : (("on" : Str) == ("on" : Str)) = true := by decide +kernel
@[simp] theorem q_on_not : (("on" : Str) == ("not" : Str)) = false := by decide +kernel
@[simp] theorem q_on_then : (("on" : Str) == ("then" : Str)) = false := by decide +kernel
@[simp] theorem q_on_same : (("on" : Str) == ("same" : Str)) = false := by decide +kernel
@[simp] theorem q_on_most : (("on" : Str) == ("most" : Str)) = false := by decide +kernel
@[simp] theorem q_on_and : (("on" : Str) == ("and" : Str)) = false := by decide +kernel
@[simp] theorem q_on_or : (("on" : Str) == ("or" : Str)) = false := by decide +kernel
@[simp] theorem q_on_one : (("on" : Str) == ("one" : Str)) = false := by decide +kernel
@[simp] theorem ok_not : PyData.strOk ("not" : Str) = true := by decide +kernel
@[simp] theorem q_not_yes : (("not" : Str) == ("yes" : Str)) = false := by decide +kernel
@[simp] theorem q_not_no : (("not" : Str) == ("no" : Str)) = false := by decide +kernel
@[simp] theorem q_not_on : (("not" : Str) == ("on" : Str)) = false := by decide +kernel
@[simp] theorem q_not_not : (("not" : Str) == ("not" : Str)) = true := by decide +kernel
@[simp] theorem q_not_then : (("not" : Str) == ("then" : Str)) = false := by decide +kernel
@[simp] theorem q_not_same : (("not" : Str) == ("same" : Str)) = false := by decide +kernel
@[simp] theorem q_not_most : (("not" : Str) == ("most" : Str)) = false := by decide +kernel
@[simp] theorem q_not_and : (("not" : Str) == ("and" : Str)) = false := by decide +kernel
@[simp] theorem q_not_or : (("not" : Str) == ("or" : Str)) = false := by decide +kernel
@[simp] theorem q_not_one : (("not" : Str) == ("one" : Str)) = false := by decide +kernel
@[simp] theorem ok_then : PyData.strOk ("then" : Str) = true := by decide +kernel
@[simp] theorem q_then_yes : (("then" : Str) == ("yes" : Str)) = false := by decide +kernel
@[simp] theorem q_then_no : (("then" : Str) == ("no" : Str)) = false := by decide +kernel
@[simp] theorem q_then_on : (("then" : Str) == ("on" : Str)) = false := by decide +kernel
@[simp] theorem q_then_not : (("then" : Str) == ("not" : Str)) = false := by decide +kernel
@[simp] theorem q_then_then : (("then" : Str) == ("then" : Str)) = true := by decide +kernel
@[simp] theorem q_then_same : (("then" : Str) == ("same" : Str)) = false := by decide +kernel
@[simp] theorem q_then_most : (("then" : Str) == ("most" : Str)) = false := by decide +kernel
@[simp] theorem q_then_and : (("then" : Str) == ("and" : Str)) = false := by decide +kernel
@[simp] theorem q_then_or : (("then" : Str) == ("or" : Str)) = false := by decide +kernel
@[simp] theorem q_then_one : (("then" : Str) == ("one" : Str)) = false := by decide +kernel
@[simp] theorem ok_same : PyData.strOk ("same" : Str) = true := by decide +kernel
@[simp] theorem q_same_yes : (("same" : Str) == ("yes" : Str)) = false := by decide +kernel
@[simp] theorem q_same_no : (("same" : Str) == ("no" : Str)) = false := by decide +kernel
@[simp] theorem q_same_on : (("same" : Str) == ("on" : Str)) = false := by decide +kernel
@[simp] theorem q_same_not : (("same" : Str) == ("not" : Str)) = false := by decide +kernel
@[simp] theorem q_same_then : (("same" : Str) == ("then" : Str)) = false := by decide +kernel
@[simp] theorem q_same_same : (("same" : Str) == ("same" : Str)) = true := by decide +kernel
@[simp] theorem q_same_most : (("same" : Str) == ("most" : Str)) = false := by decide +kernel
@[simp] theorem q_same_and : (("same" : Str) == ("and" : Str)) = false := by decide +kernel
@[simp] theorem q_same_or : (("same" : Str) == ("or" : Str)) = false := by decide +kernel
@[simp] theorem q_same_one : (("same" : Str) == ("one" : Str)) = false := by decide +kernel
@[simp] theorem ok_most : PyData.strOk ("most" : Str) = true := by decide +kernel
@[simp] theorem q_most_yes : (("most" : Str) == ("yes" : Str)) = false := by decide +kernel
@[simp] theorem q_most_no : (("most" : Str) == ("no" : Str)) = false := by decide +kernel
@[simp] theorem q_most_on : (("most" : Str) == ("on" : Str)) = false := by decide +kernel
@[simp] theorem q_most_not : (("most" : Str) == ("not" : Str)) = false := by decide +kernel
@[simp] theorem q_most_then : (("most" : Str) == ("then" : Str)) = false := by decide +kernel
@[simp] theorem q_most_same : (("most" : Str) == ("same" : Str)) = false := by decide +kernel
@[simp] theorem q_most_most : (("most" : Str) == ("most" : Str)) = true := by decide +kernel
@[simp] theorem q_most_and : (("most" : Str) == ("and" : Str)) = false := by decide +kernel
@[simp] theorem q_most_or : (("most" : Str) == ("or" : Str)) = false := by decide +kernel
@[simp] theorem q_most_one : (("most" : Str) == ("one" : Str)) = false := by decide +kernel
@[simp] theorem ok_and : PyData.strOk ("and" : Str) = true := by decide +kernel
@[simp] theorem q_and_yes : (("and" : Str) == ("yes" : Str)) = false := by decide +kernel
@[simp] theorem q_and_no : (("and" : Str) == ("no" : Str)) = false := by decide +kernel
@[simp] theorem q_and_on : (("and" : Str) == ("on" : Str)) = false := by decide +kernel
@[simp] theorem q_and_not : (("and" : Str) == ("not" : Str)) = false := by decide +kernel
@[simp] theorem q_and_then : (("and" : Str) == ("then" : Str)) = false := by decide +kernel
@[simp] theorem q_and_same : (("and" : Str) == ("same" : Str)) = false := by decide +kernel
@[simp] theorem q_and_most : (("and" : Str) == ("most" : Str)) = false := by decide +kernel
@[simp] theorem q_and_and : (("and" : Str) == ("and" : Str)) = true := by decide +kernel
@[simp] theorem q_and_or : (("and" : Str) == ("or" : Str)) = false := by decide +kernel
@[simp] theorem q_and_one : (("and" : Str) == ("one" : Str)) = false := by decide +kernel
@[simp] theorem ok_or : PyData.strOk ("or" : Str) = true := by decide +kernel
@[simp] theorem q_or_yes : (("or" : Str) == ("yes" : Str)) = false := by decide +kernel
@[simp] theorem q_or_no : (("or" : Str) == ("no" : Str)) = false := by decide +kernel
@[simp] theorem q_or_on : (("or" : Str) == ("on" : Str)) = false := by decide +kernel
@[simp] theorem q_or_not : (("or" : Str) == ("not" : Str)) = false := by decide +kernel
@[simp] theorem q_or_then : (("or" : Str) == ("then" : Str)) = false := by decide +kernel
@[simp] theorem q_or_same : (("or" : Str) == ("same" : Str)) = false := by decide +kernel
@[simp] theorem q_or_most : (("or" : Str) == ("most" : Str)) = false := by decide +kernel
@[simp] theorem q_or_and : (("or" : Str) == ("and" : Str)) = false := by decide +kernel
@[simp] theorem q_or_or : (("or" : Str) == ("or" : Str)) = true := by decide +kernel
@[simp] theorem q_or_one : (("or" : Str) == ("one" : Str)) = false := by decide +kernel
@[simp] theorem ok_one : PyData.strOk ("one" : Str) = true := by decide +kernel
@[simp] theorem q_one_yes : (("one" : Str) == ("yes" : Str)) = false := by decide +kernel
@[simp] theorem q_one_no : (("one" : Str) == ("no" : Str)) = false := by decide +kernel
@[simp] theorem q_one_on : (("one" : Str) == ("on" : Str)) = false := by decide +kernel
@[simp] theorem q_one_not : (("one" : Str) == ("not" : Str)) = false := by decide +kernel
@[simp] theorem q_one_then : (("one" : Str) == ("then" : Str)) = false := by decide +kernel
@[simp] theorem q_one_same : (("one" : Str) == ("same" : Str)) = false := by decide +kernel
@[simp] theorem q_one_most : (("one" : Str) == ("most" : Str)) = false := by decide +kernel
@[simp] theorem q_one_and : (("one" : Str) == ("and" : Str)) = false := by decide +kernel
@[simp] theorem q_one_or : (("one" : Str) == ("or" : Str)) = false := by decide +kernel
@[simp] theorem q_one_one : (("one" : Str) == ("one" : Str)) = true := by decide +kernel
end K14

namespace K14
open PySem PySem.Spec PyProof.Rows L2 WL
def inH (lo hi : Int) : List PyData → Bool
  | x :: _ => inR lo hi x
  | [] => false
def form (sw : Int) (w : Str) (rest : List PyData) : Bool :=
  if w == "yes" then decide (rest = []) else if w == "no" then decide (rest = []) else if w == "on" then decide ((rest.length : Int) = 1) && inH 0 (sw - 1) rest else if w == "not" then decide ((rest.length : Int) = 1) else
  if w == "then" then decide ((rest.length : Int) = 2) else if w == "same" then decide ((rest.length : Int) = 2) else if w == "most" then decide (3 ≤ (rest.length : Int) ∧ (rest.length : Int) ≤ 9) && inH 0 7 rest else
  (("and" : Str) == w || ("or" : Str) == w || ("one" : Str) == w) && decide (2 ≤ (rest.length : Int) ∧ (rest.length : Int) ≤ 8)
def parts (w : Str) (rest : List PyData) : List PyData :=
  if ("and" : Str) == w || ("or" : Str) == w || ("one" : Str) == w || ("then" : Str) == w || ("same" : Str) == w || w == "not" then rest else if w == "most" then rest.drop 1 else []
set_option maxHeartbeats 4000000 in
theorem has_form_ok {sw : Int} {w : Str} {rest : List PyData} {Q : PyData → Prop} (hw : PyData.strOk w = true) (h : ∀ d ∈ rest, noTok d = true) (q : Q (.bool (form sw w rest))) : fn_has_form [.int sw, .tuple (.str w :: rest)] Q := by
  refine gBody_of ?_
  unfold g_has_form
  rcases words w with rfl | rfl | rfl | rfl | rfl | rfl | rfl | rfl | rfl | rfl | ⟨a1, a2, b1, b2, c1, c2, d1, d2, e1, e2, f1, f2, g1, g2, k1, k2, l1, l2, m1, m2⟩
  · simp [wSeq, wIf, wT, wNot, wAnd, wOr, wPar, wCons, wNil, wB, wU, wV, wVb, wC, wRet, wSkip, wTup, wLst, wCall, wChain, wAndV, wSl, wNo, wPart, wItems, args, endB, inD, eqD_str, ex2, hw]
    simp [form, parts] at q
    exact q
  · simp [wSeq, wIf, wT, wNot, wAnd, wOr, wPar, wCons, wNil, wB, wU, wV, wVb, wC, wRet, wSkip, wTup, wLst, wCall, wChain, wAndV, wSl, wNo, wPart, wItems, args, endB, inD, eqD_str, ex2, hw]
    simp [form, parts] at q
    exact q
  · simp [wSeq, wIf, wT, wNot, wAnd, wOr, wPar, wCons, wNil, wB, wU, wV, wVb, wC, wRet, wSkip, wTup, wLst, wCall, wChain, wAndV, wSl, wNo, wPart, wItems, args, endB, inD, eqD_str, ex2, hw]
    simp [form, parts] at q
    by_cases c : (rest.length : Int) = 1
    · obtain ⟨x, rfl⟩ : ∃ x, rest = [x] := List.length_eq_one_iff.mp (by omega)
      exact .inr ⟨c, x, ixD_1, is_switch_ok (h x (by simp)) (by simpa [inH] using q)⟩
    · exact .inl ⟨c, by simpa [c] using q⟩
  · simp [wSeq, wIf, wT, wNot, wAnd, wOr, wPar, wCons, wNil, wB, wU, wV, wVb, wC, wRet, wSkip, wTup, wLst, wCall, wChain, wAndV, wSl, wNo, wPart, wItems, args, endB, inD, eqD_str, ex2, hw]
    simp [form, parts] at q
    exact q
  · simp [wSeq, wIf, wT, wNot, wAnd, wOr, wPar, wCons, wNil, wB, wU, wV, wVb, wC, wRet, wSkip, wTup, wLst, wCall, wChain, wAndV, wSl, wNo, wPart, wItems, args, endB, inD, eqD_str, ex2, hw]
    simp [form, parts] at q
    exact q
  · simp [wSeq, wIf, wT, wNot, wAnd, wOr, wPar, wCons, wNil, wB, wU, wV, wVb, wC, wRet, wSkip, wTup, wLst, wCall, wChain, wAndV, wSl, wNo, wPart, wItems, args, endB, inD, eqD_str, ex2, hw]
    simp [form, parts] at q
    exact q
  · simp [wSeq, wIf, wT, wNot, wAnd, wOr, wPar, wCons, wNil, wB, wU, wV, wVb, wC, wRet, wSkip, wTup, wLst, wCall, wChain, wAndV, wSl, wNo, wPart, wItems, args, endB, inD, eqD_str, ex2, hw]
    simp [form, parts] at q
    by_cases c : 3 ≤ (rest.length : Int)
    · by_cases c2 : (rest.length : Int) ≤ 9
      · cases rest with
        | nil => simp at c
        | cons x r => exact .inr ⟨c, .inr ⟨c2, x, ixD_1, is_within_ok (h x (by simp)) (by
            rw [decide_eq_true c, decide_eq_true c2] at q
            simpa [inH] using q)⟩⟩
      · exact .inr ⟨c, .inl ⟨by omega, by simpa [c, c2] using q⟩⟩
    · exact .inl ⟨by omega, by simpa [c] using q⟩
  · simp [wSeq, wIf, wT, wNot, wAnd, wOr, wPar, wCons, wNil, wB, wU, wV, wVb, wC, wRet, wSkip, wTup, wLst, wCall, wChain, wAndV, wSl, wNo, wPart, wItems, args, endB, inD, eqD_str, ex2, hw]
    simp [form, parts] at q
    by_cases c : 2 ≤ (rest.length : Int)
    · exact .inr ⟨c, by simpa [c] using q⟩
    · exact .inl ⟨by omega, by simpa [c] using q⟩
  · simp [wSeq, wIf, wT, wNot, wAnd, wOr, wPar, wCons, wNil, wB, wU, wV, wVb, wC, wRet, wSkip, wTup, wLst, wCall, wChain, wAndV, wSl, wNo, wPart, wItems, args, endB, inD, eqD_str, ex2, hw]
    simp [form, parts] at q
    by_cases c : 2 ≤ (rest.length : Int)
    · exact .inr ⟨c, by simpa [c] using q⟩
    · exact .inl ⟨by omega, by simpa [c] using q⟩
  · simp [wSeq, wIf, wT, wNot, wAnd, wOr, wPar, wCons, wNil, wB, wU, wV, wVb, wC, wRet, wSkip, wTup, wLst, wCall, wChain, wAndV, wSl, wNo, wPart, wItems, args, endB, inD, eqD_str, ex2, hw]
    simp [form, parts] at q
    by_cases c : 2 ≤ (rest.length : Int)
    · exact .inr ⟨c, by simpa [c] using q⟩
    · exact .inl ⟨by omega, by simpa [c] using q⟩
  · simp [wSeq, wIf, wT, wNot, wAnd, wOr, wPar, wCons, wNil, wB, wU, wV, wVb, wC, wRet, wSkip, wTup, wLst, wCall, wChain, wAndV, wSl, wNo, wPart, wItems, args, endB, inD, eqD_str, ex2, hw, a1, a2, b1, b2, c1, c2, d1, d2, e1, e2, f1, f2, g1, g2, k1, k2, l1, l2, m1, m2]
    simp [form, parts, a1, a2, b1, b2, c1, c2, d1, d2, e1, e2, f1, f2, g1, g2, k1, k2, l1, l2, m1, m2] at q
    exact q
end K14

namespace K14
open PySem PySem.Spec PyProof.Rows L2 WL
set_option maxHeartbeats 4000000 in
theorem parts_of_ok {w : Str} {rest : List PyData} {Q : PyData → Prop} (hw : PyData.strOk w = true) (q : Q (.list (parts w rest))) : fn_parts_of [.tuple (.str w :: rest)] Q := by
  refine gBody_of ?_
  unfold g_parts_of
  rcases words w with rfl | rfl | rfl | rfl | rfl | rfl | rfl | rfl | rfl | rfl | ⟨a1, a2, b1, b2, c1, c2, d1, d2, e1, e2, f1, f2, g1, g2, k1, k2, l1, l2, m1, m2⟩
  · simp [wSeq, wIf, wT, wNot, wAnd, wOr, wPar, wCons, wNil, wB, wU, wV, wVb, wC, wRet, wSkip, wTup, wLst, wCall, wChain, wAndV, wSl, wNo, wPart, wItems, args, endB, inD, eqD_str, ex2, hw]
    simp [form, parts] at q
    exact q
  · simp [wSeq, wIf, wT, wNot, wAnd, wOr, wPar, wCons, wNil, wB, wU, wV, wVb, wC, wRet, wSkip, wTup, wLst, wCall, wChain, wAndV, wSl, wNo, wPart, wItems, args, endB, inD, eqD_str, ex2, hw]
    simp [form, parts] at q
    exact q
  · simp [wSeq, wIf, wT, wNot, wAnd, wOr, wPar, wCons, wNil, wB, wU, wV, wVb, wC, wRet, wSkip, wTup, wLst, wCall, wChain, wAndV, wSl, wNo, wPart, wItems, args, endB, inD, eqD_str, ex2, hw]
    simp [form, parts] at q
    exact q
  · simp [wSeq, wIf, wT, wNot, wAnd, wOr, wPar, wCons, wNil, wB, wU, wV, wVb, wC, wRet, wSkip, wTup, wLst, wCall, wChain, wAndV, wSl, wNo, wPart, wItems, args, endB, inD, eqD_str, ex2, hw]
    simp [form, parts] at q
    exact q
  · simp [wSeq, wIf, wT, wNot, wAnd, wOr, wPar, wCons, wNil, wB, wU, wV, wVb, wC, wRet, wSkip, wTup, wLst, wCall, wChain, wAndV, wSl, wNo, wPart, wItems, args, endB, inD, eqD_str, ex2, hw]
    simp [form, parts] at q
    exact q
  · simp [wSeq, wIf, wT, wNot, wAnd, wOr, wPar, wCons, wNil, wB, wU, wV, wVb, wC, wRet, wSkip, wTup, wLst, wCall, wChain, wAndV, wSl, wNo, wPart, wItems, args, endB, inD, eqD_str, ex2, hw]
    simp [form, parts] at q
    exact q
  · simp [wSeq, wIf, wT, wNot, wAnd, wOr, wPar, wCons, wNil, wB, wU, wV, wVb, wC, wRet, wSkip, wTup, wLst, wCall, wChain, wAndV, wSl, wNo, wPart, wItems, args, endB, inD, eqD_str, ex2, hw]
    simp [form, parts] at q
    exact q
  · simp [wSeq, wIf, wT, wNot, wAnd, wOr, wPar, wCons, wNil, wB, wU, wV, wVb, wC, wRet, wSkip, wTup, wLst, wCall, wChain, wAndV, wSl, wNo, wPart, wItems, args, endB, inD, eqD_str, ex2, hw]
    simp [form, parts] at q
    exact q
  · simp [wSeq, wIf, wT, wNot, wAnd, wOr, wPar, wCons, wNil, wB, wU, wV, wVb, wC, wRet, wSkip, wTup, wLst, wCall, wChain, wAndV, wSl, wNo, wPart, wItems, args, endB, inD, eqD_str, ex2, hw]
    simp [form, parts] at q
    exact q
  · simp [wSeq, wIf, wT, wNot, wAnd, wOr, wPar, wCons, wNil, wB, wU, wV, wVb, wC, wRet, wSkip, wTup, wLst, wCall, wChain, wAndV, wSl, wNo, wPart, wItems, args, endB, inD, eqD_str, ex2, hw]
    simp [form, parts] at q
    exact q
  · simp [wSeq, wIf, wT, wNot, wAnd, wOr, wPar, wCons, wNil, wB, wU, wV, wVb, wC, wRet, wSkip, wTup, wLst, wCall, wChain, wAndV, wSl, wNo, wPart, wItems, args, endB, inD, eqD_str, ex2, hw, a1, a2, b1, b2, c1, c2, d1, d2, e1, e2, f1, f2, g1, g2, k1, k2, l1, l2, m1, m2]
    simp [form, parts, a1, a2, b1, b2, c1, c2, d1, d2, e1, e2, f1, f2, g1, g2, k1, k2, l1, l2, m1, m2] at q
    exact q
/-- whether a value is built right, k deep -/
def bl : Nat → Int → PyData → Bool
  | 0, _, _ => false
  | k + 1, sw, .tuple (.str w :: rest) => form sw w rest && (parts w rest).all (bl k sw)
  | _ + 1, _, _ => false
def sz : Nat → PyData → Int
  | 0, _ => 0
  | k + 1, .tuple (.str w :: rest) => 1 + ((parts w rest).map (sz k)).sum
  | _ + 1, _ => 0
/-- what is asked of a value: no pot within, its texts plain -/
def tame : PyData → Prop
  | .str x => PyData.strOk x = true
  | .list ds => ∀ d ∈ ds, tame d
  | .tuple ds => ∀ d ∈ ds, tame d
  | .dict kvs => kvs = []
  | _ => True
theorem tame.noTok {d : PyData} (h : tame d) : noTok d = true := by
  cases d <;> simp_all [tame, WL.noTok]
theorem tame.parts {w : Str} {rest : List PyData} (h : ∀ d ∈ rest, tame d) : ∀ d ∈ parts w rest, tame d := by
  intro d hd
  unfold K14.parts at hd
  split at hd
  · exact h d hd
  · split at hd
    · exact h d (List.mem_of_mem_drop hd)
    · cases hd
end K14

namespace K14
open PySem PySem.Spec PyProof.Rows L2 WL
@[simp] theorem isi_tup {T : Ty} {ds : List PyData} : isiD T (.tuple ds) = some (.bool (isTy T (.tuple ds))) := rfl
@[simp] theorem isi_str {T : Ty} {s : Str} : isiD T (.str s) = some (.bool (isTy T (.str s))) := rfl
theorem isiD_of {T : Ty} {d : PyData} (h : noTok d = true) : isiD T d = some (.bool (isTy T d)) := by unfold isiD; rw [if_pos h]
theorem tame_tup {ds : List PyData} : tame (.tuple ds) ↔ ∀ d ∈ ds, tame d := by rw [tame]
theorem tame_lst {ds : List PyData} : tame (.list ds) ↔ ∀ d ∈ ds, tame d := by rw [tame]
theorem tame_str {x : Str} : tame (.str x) ↔ PyData.strOk x = true := by rw [tame]
set_option maxHeartbeats 4000000 in
theorem is_built_ok : ∀ (n k : Nat) (sw : Int) (v : PyData) (Q : PyData → Prop), k < n → tame v → Q (.bool (bl k sw v)) → fn_is_built n [.int sw, v, .int k] Q
  | 0, _, _, _, _, h, _, _ => absurd h (Nat.not_lt_zero _)
  | n + 1, 0, sw, v, Q, h, t, q => by
    refine gBody_of ?_
    unfold g_is_built
    simp [wSeq, wIf, wT, wOr, wRet, wB, wC, wVb, args, endB]
    exact q
  | n + 1, k + 1, sw, v, Q, h, t, q => by
    refine gBody_of ?_
    unfold g_is_built
    have hk : ¬ ((k : Int) + 1 < 1) := by omega
    cases v with
    | tuple ds =>
      cases ds with
      | nil =>
        simp [wSeq, wIf, wT, wOr, wNot, wRet, wB, wU, wC, wVb, wTup, wNil, args, endB, hk, isTy]
        exact q
      | cons x rest =>
        have tx : tame x := tame_tup.mp t x List.mem_cons_self
        have tr : ∀ d ∈ rest, tame d := fun d hd => tame_tup.mp t d (List.mem_cons_of_mem _ hd)
        cases x with
        | str w =>
          simp [wSeq, wIf, wT, wOr, wNot, wRet, wB, wU, wC, wV, wVb, wTup, wNil, wCons, wCall, wLc, wItems, wipeE, args, endB, hk, isTy, wSkip]
          refine has_form_ok (tame_str.mp tx) (fun d hd => (tr d hd).noTok) ?_
          have q : Q (.bool (form sw w rest && (parts w rest).all (bl k sw))) := q
          cases hf : form sw w rest with
          | false => rw [hf] at q; exact .inl ⟨rfl, by simpa using q⟩
          | true =>
            rw [hf] at q
            refine .inr ⟨rfl, ?_⟩
            refine parts_of_ok (tame_str.mp tx) ?_
            simp
            refine wLc1_all (f := fun d => .bool (bl k sw d)) (fun d hd R r => ⟨_, rfl, ?_⟩) ?_
            · have ih := is_built_ok n k sw d R (by omega) (tame.parts tr d hd) r
              simpa [wCall, wCons, wNil, wV, wVb, wB, wC] using ih
            · rw [allD_map]
              exact ⟨_, rfl, by simpa using q⟩
        | _ =>
          simp [wSeq, wIf, wT, wOr, wNot, wRet, wB, wU, wC, wV, wVb, wTup, wNil, args, endB, hk, isTy, isiD_of tx.noTok]
          exact q
    | _ =>
      simp [wSeq, wIf, wT, wOr, wNot, wRet, wB, wU, wC, wV, wVb, wTup, wNil, args, endB, hk, isTy, isiD_of t.noTok]
      exact q
/-- what the parts of a value that is built right are -/
theorem bl_succ {k : Nat} {sw : Int} {v : PyData} (h : bl (k + 1) sw v = true) : ∃ w rest, v = .tuple (.str w :: rest) ∧ form sw w rest = true ∧ ∀ d ∈ parts w rest, bl k sw d = true := by
  unfold bl at h
  split at h
  · exact absurd ‹k + 1 = 0› (by omega)
  · rename_i k' sw' w rest e
    cases e
    rw [Bool.and_eq_true, List.all_eq_true] at h
    exact ⟨w, rest, rfl, h.1, h.2⟩
  · cases h
set_option maxHeartbeats 4000000 in
theorem size_of_ok : ∀ (n k : Nat) (sw : Int) (v : PyData) (Q : PyData → Prop), k ≤ n → tame v → bl k sw v = true → Q (.int (sz k v)) → fn_size_of n [v] Q
  | _, 0, _, _, _, _, _, b, _ => by cases b
  | 0, k + 1, _, _, _, h, _, _, _ => absurd h (by omega)
  | n + 1, k + 1, sw, v, Q, h, t, b, q => by
    obtain ⟨w, rest, rfl, hf, hp⟩ := bl_succ b
    have tx := tame_tup.mp t _ List.mem_cons_self
    have tr : ∀ d ∈ rest, tame d := fun d hd => tame_tup.mp t d (List.mem_cons_of_mem _ hd)
    refine gBody_of ?_
    unfold g_size_of
    simp [wRet, wB, wU, wC, wV, wVb, wNil, wCons, wCall, wLc, wItems, wipeE, args, endB]
    refine parts_of_ok (tame_str.mp tx) ?_
    simp
    refine wLc1_all (f := fun d => .int (sz k d)) (fun d hd R r => ⟨_, rfl, ?_⟩) ?_
    · have ih := size_of_ok n k sw d R (by omega) (tame.parts tr d hd) (hp d hd) r
      simpa [wCall, wCons, wNil, wV, wVb, wB, wC] using ih
    · rw [sumD_map]
      refine ⟨_, rfl, _, rfl, ?_⟩
      exact q
theorem is_formula_of_ok {sw : Int} {v : PyData} {Q : PyData → Prop} (t : tame v) (q : Q (.bool (bl 8 sw v && decide (sz 8 v ≤ 60)))) : fn_is_formula_of [.int sw, v] Q := by
  refine gBody_of ?_
  unfold g_is_formula_of
  simp [wRet, wAndV, wB, wU, wC, wV, wVb, wNil, wCons, wCall, args, endB]
  refine is_built_ok 10 8 sw v _ (by omega) t ?_
  cases b : bl 8 sw v with
  | false => rw [b] at q; exact .inl ⟨rfl, by simpa using q⟩
  | true =>
    rw [b] at q
    refine .inr ⟨rfl, ?_⟩
    refine size_of_ok 10 8 sw v _ (by omega) t b ?_
    simpa using q
end K14

namespace K14
open PySem PySem.Spec PyProof.Rows L2 WL
/-! ### these formulas are formulas -/
mutual
theorem bl_g {sw : Nat} : ∀ (k : Nat) (F : Gf), F.wf sw → F.dep ≤ k → bl k sw F.d = true
  | 0, F, _, h => by have := F.dep_pos; omega
  | k + 1, .yes, _, _ => by simp [Gf.d, bl, form, parts]
  | k + 1, .no, _, _ => by simp [Gf.d, bl, form, parts]
  | k + 1, .on s, w, _ => by
    have w : s < sw := w
    simp [Gf.d, bl, form, parts, inH, inR]
    omega
  | k + 1, .neg a, w, h => by
    simp [Gf.dep] at h
    simp [Gf.d, bl, form, parts, bl_g k a w (by omega)]
  | k + 1, .thn a b, w, h => by
    simp [Gf.dep] at h
    simp [Gf.d, bl, form, parts, bl_g k a w.1 (by omega), bl_g k b w.2 (by omega)]
  | k + 1, .many o as, w, h => by
    simp [Gf.dep] at h
    obtain ⟨w1, w2, w3, w4⟩ := w
    have ih := bl_gL k as w4 (by omega)
    have len : (Gf.dL as).length = as.length := by rw [Gf.dL_map, List.length_map]
    cases o with
    | most n =>
      have w1 : n ≤ 7 := w1
      simp [Gf.d, Lw.head, bl, form, parts, inH, inR, len, ih]
      omega
    | _ =>
      simp [Gf.d, Lw.head, bl, form, parts, len, ih]
      omega
theorem bl_gL {sw : Nat} : ∀ (k : Nat) (as : List Gf), Gf.wfL sw as → Gf.depL as ≤ k → (Gf.dL as).all (bl k sw) = true
  | _, [], _, _ => rfl
  | k, a :: as, w, h => by
    simp [Gf.depL] at h
    rw [Gf.dL, List.all_cons, bl_g k a w.1 (by omega), bl_gL k as w.2 (by omega)]
    rfl
end
mutual
theorem sz_g : ∀ (k : Nat) (F : Gf), F.dep ≤ k → sz k F.d = (F.sz : Int)
  | 0, F, h => by have := F.dep_pos; omega
  | k + 1, .yes, _ => by simp [Gf.d, sz, parts, Gf.sz]
  | k + 1, .no, _ => by simp [Gf.d, sz, parts, Gf.sz]
  | k + 1, .on s, _ => by simp [Gf.d, sz, parts, Gf.sz]
  | k + 1, .neg a, h => by
    simp [Gf.dep] at h
    simp [Gf.d, sz, parts, Gf.sz, sz_g k a (by omega)]
  | k + 1, .thn a b, h => by
    simp [Gf.dep] at h
    simp [Gf.d, sz, parts, Gf.sz, sz_g k a (by omega), sz_g k b (by omega)]
  | k + 1, .many o as, h => by
    simp [Gf.dep] at h
    have ih := sz_gL k as (by omega)
    cases o <;> simp [Gf.d, Lw.head, sz, parts, Gf.sz, ih]
theorem sz_gL : ∀ (k : Nat) (as : List Gf), Gf.depL as ≤ k → ((Gf.dL as).map (sz k)).sum = (Gf.szL as : Int)
  | _, [], _ => rfl
  | k, a :: as, h => by
    simp [Gf.depL] at h
    rw [Gf.dL, List.map_cons, List.sum_cons, sz_g k a (by omega), sz_gL k as (by omega), Gf.szL]
    omega
end
mutual
theorem tame_g : ∀ F : Gf, tame F.d
  | .yes => by rw [Gf.d, tame_tup]; simp [tame]
  | .no => by rw [Gf.d, tame_tup]; simp [tame]
  | .on s => by rw [Gf.d, tame_tup]; simp [tame]
  | .neg a => by
    have := tame_g a
    rw [Gf.d, tame_tup]; simp [tame, this]
  | .thn a b => by
    have := tame_g a
    have := tame_g b
    rw [Gf.d, tame_tup]; simp [tame, *]
  | .many o as => by
    have ih := tame_gL as
    rw [Gf.d, tame_tup]
    intro d hd
    rcases List.mem_append.mp hd with hd | hd
    · cases o <;> simp [Lw.head] at hd <;> (try rcases hd with rfl | rfl) <;> (try subst hd) <;> simp [tame]
    · exact ih d hd
theorem tame_gL : ∀ as : List Gf, ∀ d ∈ Gf.dL as, tame d
  | [], d, h => nomatch h
  | a :: as, d, h => by
    rcases List.mem_cons.mp h with rfl | h
    · exact tame_g a
    · exact tame_gL as d h
end
theorem is_formula_g {sw : Nat} {F : Gf} {Q : PyData → Prop} (w : F.wf sw) (h : F.dep ≤ 8) (hz : F.sz ≤ 60) (q : Q (.bool true)) : fn_is_formula_of [.int sw, F.d] Q := by
  refine is_formula_of_ok (tame_g F) ?_
  rw [bl_g 8 F w (by omega), sz_g 8 F (by omega), decide_eq_true (by omega)]
  exact q
/-! ### steps -/
section
variable {Q : PyData → Prop}
theorem st_no {c : Ev → W Bool} {g h : Ev → W Rs} {ρ : Ev} {Q : Rs → Prop} (hc : ∀ R : Bool → Prop, R false → c ρ R) (q : h ρ Q) : wSeq (wIf c g wSkip) h ρ Q := hc _ (by rw [if_neg Bool.false_ne_true]; exact q)
theorem st_yes {c : Ev → W Bool} {e : Ev → W PyData} {h : Ev → W Rs} {ρ : Ev} {Q : Rs → Prop} (hc : ∀ R : Bool → Prop, R true → c ρ R) (q : e ρ fun d => Q (.rt d)) : wSeq (wIf c (wRet e) wSkip) h ρ Q := hc _ (by rw [if_pos rfl]; exact q)
theorem st_yesF {c : Ev → W Bool} {e h : Ev → W Rs} {ρ : Ev} {Q : Rs → Prop} (hc : ∀ R : Bool → Prop, R true → c ρ R) (q : e ρ fun r => match r with | .nx ρ' => h ρ' Q | r => Q r) : wSeq (wIf c e wSkip) h ρ Q := hc _ (by rw [if_pos rfl]; exact q)
theorem st_set {i : Nat} {g : Ev → W PyData} {h : Ev → W Rs} {ρ : Ev} {Q : Rs → Prop} {d : PyData} (hg : ∀ R : PyData → Prop, R d → g ρ R) (q : h (ρ.set i (.sh d)) Q) : wSeq (wSet i g) h ρ Q := hg _ q
theorem st_setQ {i : Nat} {g : Ev → W PyData} {h : Ev → W Rs} {ρ : Ev} {Q : Rs → Prop} (q : g ρ fun d => h (ρ.set i (.sh d)) Q) : wSeq (wSet i g) h ρ Q := q
theorem st_setFQ {i : Nat} {g : Ev → W PyData} {h : Ev → W Rs} {ρ : Ev} {Q : Rs → Prop} (q : g ρ fun d => ∃ ds, d = .list ds ∧ h (ρ.set i (.ow ds)) Q) : wSeq (wSetF i g) h ρ Q := q
theorem st_par {i j : Nat} {gs : Ev → W (List PyData)} {h : Ev → W Rs} {ρ : Ev} {Q : Rs → Prop} {d1 d2 : PyData} (hg : ∀ R : List PyData → Prop, R [d1, d2] → gs ρ R) (q : h ((ρ.set i (.sh d1)).set j (.sh d2)) Q) : wSeq (wPar i j gs) h ρ Q := hg _ ⟨d1, d2, rfl, q⟩
theorem st_frz {is : List Nat} {g h : Ev → W Rs} {ρ : Ev} {Q : Rs → Prop} (q : wSeq g h (frz is ρ) Q) : wSeq (wFrz is g) h ρ Q := q
theorem st_ret0 {e : Ev → W PyData} {ρ : Ev} {Q : Rs → Prop} (q : e ρ fun d => Q (.rt d)) : wRet e ρ Q := q
theorem st_ok {c : Ev → W Bool} {h : Ev → W Rs} {ρ : Ev} {Q : Rs → Prop} (hc : ∀ R : Bool → Prop, R false → c ρ R) (q : h ρ Q) : wSeq (wIf c wFail wSkip) h ρ Q := hc _ (by rw [if_neg Bool.false_ne_true]; exact q)
theorem st_ok0 {c : Ev → W Bool} {ρ : Ev} {Q : Rs → Prop} (hc : ∀ R : Bool → Prop, R false → c ρ R) (q : Q (.nx ρ)) : wIf c wFail wSkip ρ Q := hc _ (by rw [if_neg Bool.false_ne_true]; exact q)
variable {a b : Ev → W Bool} {g h : Ev → W PyData} {ρ : Ev} {R : Bool → Prop}
theorem and_t (h1 : ∀ K : Bool → Prop, K true → a ρ K) (h2 : b ρ R) : wAnd a b ρ R := h1 _ (by rw [if_pos rfl]; exact h2)
theorem and_f (h1 : ∀ K : Bool → Prop, K false → a ρ K) (r : R false) : wAnd a b ρ R := h1 _ (by rw [if_neg Bool.false_ne_true]; exact r)
theorem or_t (h1 : ∀ K : Bool → Prop, K true → a ρ K) (r : R true) : wOr a b ρ R := h1 _ (by rw [if_pos rfl]; exact r)
theorem or_f (h1 : ∀ K : Bool → Prop, K false → a ρ K) (h2 : b ρ R) : wOr a b ρ R := h1 _ (by rw [if_neg Bool.false_ne_true]; exact h2)
theorem not_wT {a : Ev → W PyData} {K : Bool → Prop} (b : Bool) (h : ∀ R : PyData → Prop, R (.bool b) → a ρ R) (k : K (!b)) : wNot (wT a) ρ K := h _ ⟨b, rfl, k⟩
theorem andV_t (h1 : ∀ K : PyData → Prop, K (.bool true) → g ρ K) (h2 : h ρ Q) : wAndV g h ρ Q := h1 _ ⟨_, rfl, by rw [if_pos rfl]; exact h2⟩
theorem andV_f (h1 : ∀ K : PyData → Prop, K (.bool false) → g ρ K) (r : Q (.bool false)) : wAndV g h ρ Q := h1 _ ⟨_, rfl, by rw [if_neg Bool.false_ne_true]; exact r⟩
theorem orV_t (h1 : ∀ K : PyData → Prop, K (.bool true) → g ρ K) (r : Q (.bool true)) : wOrV g h ρ Q := h1 _ ⟨_, rfl, by rw [if_pos rfl]; exact r⟩
theorem orV_f (h1 : ∀ K : PyData → Prop, K (.bool false) → g ρ K) (h2 : h ρ Q) : wOrV g h ρ Q := h1 _ ⟨_, rfl, by rw [if_neg Bool.false_ne_true]; exact h2⟩
theorem notV_of (t : Bool) (h1 : ∀ K : PyData → Prop, K (.bool t) → g ρ K) (r : Q (.bool (!t))) : wNotV g ρ Q := h1 _ ⟨_, rfl, r⟩
theorem ifE_t {α : Type} {x y : Ev → W α} {Z : α → Prop} (h1 : ∀ K : Bool → Prop, K true → a ρ K) (r : x ρ Z) : wIf a x y ρ Z := h1 _ (by rw [if_pos rfl]; exact r)
theorem ifE_f {α : Type} {x y : Ev → W α} {Z : α → Prop} (h1 : ∀ K : Bool → Prop, K false → a ρ K) (r : y ρ Z) : wIf a x y ρ Z := h1 _ (by rw [if_neg Bool.false_ne_true]; exact r)
theorem ifE_b {α : Type} {x y : Ev → W α} {Z : α → Prop} (t : Bool) (h1 : ∀ K : Bool → Prop, K t → a ρ K) (r1 : t = true → x ρ Z) (r2 : t = false → y ρ Z) : wIf a x y ρ Z := by
  cases t with
  | true => exact ifE_t h1 (r1 rfl)
  | false => exact ifE_f h1 (r2 rfl)
theorem ifE_any {α : Type} {a : Ev → W Bool} {x y : Ev → W α} {ρ : Ev} {Z : α → Prop} (h1 : ∀ K : Bool → Prop, K true → K false → a ρ K) (r1 : x ρ Z) (r2 : y ρ Z) : wIf a x y ρ Z := h1 _ (by rw [if_pos rfl]; exact r1) (by rw [if_neg Bool.false_ne_true]; exact r2)
end
theorem eqs {a b : Str} {t : Bool} (h : (a == b) = t) : eqD (.str a) (.str b) = some (.bool t) := by unfold eqD; rw [eqvD_strs, h]; rfl
theorem nes {a b : Str} {t : Bool} (h : (!(a == b)) = t) : neD (.str a) (.str b) = some (.bool t) := by rw [neD_strs, h]
theorem tst {i : Nat} {ρ : Ev} {w x : Str} {t : Bool} {R : Bool → Prop} (e : ρ[i]? = some (.sh (.str w))) (h : (w == x) = t) (r : R t) : wT (wB eqD (wVb i) (wC (.str x))) ρ R := .inl ⟨_, e, _, eqs h, _, rfl, r⟩
theorem all_strs : ∀ l : List Str, (l.map PyData.str).all flatD = true
  | [] => rfl
  | x :: l => by rw [List.map_cons, List.all_cons, all_strs l]; rfl
theorem ins {a : Str} {l : List Str} {t : Bool} (h : (l.any fun x => x == a) = t) : inD false (.str a) (.tuple (l.map PyData.str)) = some (.bool t) := by
  unfold inD
  show (if (flatD (.str a) && (l.map PyData.str).all flatD) = true then some (PyData.bool (inF (.str a) (l.map PyData.str))) else none) = _
  have h2 : inF (.str a) (l.map PyData.str) = t := by
    unfold inF
    rw [List.any_map]
    exact h
  rw [all_strs, h2]
  rfl
theorem tstIn {i : Nat} {ρ : Ev} {w x y : Str} {t : Bool} {R : Bool → Prop} (e : ρ[i]? = some (.sh (.str w))) (h : ([x, y].any fun z => z == w) = t) (r : R t) : wT (wB (inD false) (wVb i) (wTup (wCons (wC (.str x)) (wCons (wC (.str y)) wNil)))) ρ R := by
  have := ins (a := w) (l := [x, y]) h
  exact .inl ⟨_, e, (show 2 ≤ sizeLine by decide), _, this, _, rfl, r⟩
section
variable {α : Type} {f F : α → PyData} {p : α → Bool} {st : Set1} {c : Ev → W Bool} {g : Ev → W PyData} {ρ : Ev}
theorem lc_fm : ∀ {xs : List α} {Q : List PyData → Prop}, (∀ x ∈ xs, ∃ ρ', st (f x) ρ = some ρ' ∧ (∀ R : Bool → Prop, R (p x) → c ρ' R) ∧ (p x = true → ∀ R : PyData → Prop, R (F x) → g ρ' R)) → Q ((xs.filter p).map F) → wLc1 st c g ρ (xs.map f) Q
  | [], _, _, q => q
  | x :: xs, Q, h, q => by
    obtain ⟨ρ', e, hc, hg⟩ := h x List.mem_cons_self
    refine ⟨ρ', e, hc _ ?_⟩
    cases z : p x with
    | true =>
      rw [List.filter_cons_of_pos z] at q
      rw [if_pos rfl]
      exact hg z _ (lc_fm (fun y hy => h y (List.mem_cons_of_mem _ hy)) q)
    | false =>
      rw [List.filter_cons_of_neg (by rw [z]; exact Bool.false_ne_true)] at q
      rw [if_neg Bool.false_ne_true]
      exact lc_fm (fun y hy => h y (List.mem_cons_of_mem _ hy)) q
theorem lc_m {xs : List α} {Q : List PyData → Prop} (h : ∀ x ∈ xs, ∃ ρ', st (f x) ρ = some ρ' ∧ ∀ R : PyData → Prop, R (F x) → g ρ' R) (q : Q (xs.map F)) : wLc1 st wYes g ρ (xs.map f) Q :=
  lc_fm (p := fun _ => true) (fun x hx => by
    obtain ⟨ρ', e, hg⟩ := h x hx
    exact ⟨ρ', e, fun R r => r, fun _ => hg⟩) (by rw [List.filter_eq_self.mpr fun _ _ => rfl]; exact q)
theorem lc_all {xs : List α} {Q : PyData → Prop} (h : ∀ x ∈ xs, ∃ ρ', st (f x) ρ = some ρ' ∧ ∀ R : PyData → Prop, R (.bool (p x)) → g ρ' R) (q : Q (.bool (xs.all p))) : wLc1 st wYes g ρ (xs.map f) fun ys => ∃ d, allD (.list ys) = some d ∧ Q d :=
  lc_m (F := fun x => .bool (p x)) h ⟨_, allD_map p xs, q⟩
end
theorem all_tt {α : Type} {xs : List α} : (xs.all fun _ => true) = true := List.all_eq_true.mpr fun _ _ => rfl
theorem loop_all {α : Type} {f : α → PyData} {p : α → Bool} {st : Set1} {g : Ev → W Rs} {I : Ev → Prop} {Q : Rs → Prop} : ∀ (xs : List α) (ρ : Ev), I ρ →
    (∀ x ∈ xs, ∀ ρ, I ρ → ∃ ρ', st (f x) ρ = some ρ' ∧ ∀ R : Rs → Prop, (p x = true → ∀ ρ2, I ρ2 → R (.nx ρ2)) → (p x = false → R (.rt (.bool false))) → g ρ' R) →
    (xs.all p = true → ∀ ρ, I ρ → Q (.nx ρ)) → (xs.all p = false → Q (.rt (.bool false))) → wLoop st g (xs.map f) ρ Q
  | [], ρ, i, _, q, _ => q rfl ρ i
  | x :: xs, ρ, i, h, q, q' => by
    obtain ⟨ρ', e, hg⟩ := h x List.mem_cons_self ρ i
    refine ⟨ρ', e, hg _ (fun hp ρ2 i2 => ?_) fun hp => ?_⟩
    · refine loop_all xs ρ2 i2 (fun y hy => h y (List.mem_cons_of_mem _ hy)) (fun z => q (by rw [List.all_cons, hp, z]; rfl)) fun z => q' (by rw [List.all_cons, hp, z]; rfl)
    · exact q' (by rw [List.all_cons, hp]; rfl)
end K14

namespace K14
open PySem PySem.Spec PyProof.Rows L2 WL
/-! ### open choices as data -/
def optD : Ob → PyData
  | none => .none
  | some b => .bool b
abbrev opD (os : List Ob) : PyData := .tuple (os.map optD)
abbrev chD (l : List Bool) : PyData := .tuple (l.map .bool)
theorem opD_some {l : List Bool} : opD (l.map some) = chD l := by
  show PyData.tuple _ = PyData.tuple _
  rw [List.map_map]
  rfl
theorem flat_opt {x : Ob} : flatD (optD x) = true := by cases x <;> rfl
theorem flat_opts {l : List Ob} : (l.map optD).all flatD = true := List.all_eq_true.mpr fun d hd => by
  obtain ⟨x, _, rfl⟩ := List.mem_map.mp hd
  exact flat_opt
theorem eq_opt {x y : Ob} : eqFlat (optD y) (optD x) = (y == x) := by
  rcases x with _ | _ | _ <;> rcases y with _ | _ | _ <;> rfl
theorem inF_opt {x : Ob} {l : List Ob} : inF (optD x) (l.map optD) = l.contains x := by
  unfold inF
  rw [List.any_map, List.contains_eq_any_beq]
  congr 1
  funext y
  show eqFlat (optD y) (optD x) = (x == y)
  rw [eq_opt, Bool.eq_iff_iff, beq_iff_eq, beq_iff_eq]
  exact eq_comm
theorem in_optL {x : Ob} {l : List Ob} : inD false (optD x) (.list (l.map optD)) = some (.bool (l.contains x)) := by
  show (if (flatD (optD x) && (l.map optD).all flatD) = true then some (PyData.bool (inF (optD x) (l.map optD))) else none) = _
  rw [flat_opt, flat_opts, inF_opt]
  rfl
theorem in_optT {x : Ob} {l : List Ob} : inD false (optD x) (.tuple (l.map optD)) = some (.bool (l.contains x)) := by
  show (if (flatD (optD x) && (l.map optD).all flatD) = true then some (PyData.bool (inF (optD x) (l.map optD))) else none) = _
  rw [flat_opt, flat_opts, inF_opt]
  rfl
theorem cnt_opt {x : Ob} {l : List Ob} : cntD (.list (l.map optD)) (optD x) = some (.int (l.count x : Nat)) := by
  show (if (flatD (optD x) && (l.map optD).all flatD) = true then some (PyData.int ((l.map optD).countP fun d => eqFlat d (optD x) : Nat)) else none) = _
  rw [flat_opt, flat_opts]
  have e : (l.map optD).countP (fun d => eqFlat d (optD x)) = l.count x := by
    rw [List.countP_map]
    unfold List.count
    congr 1
    funext y
    exact eq_opt
  rw [e]
  rfl
section
variable {Q : PyData → Prop} {l : List Ob}
theorem turned_ok {x : Ob} (q : Q (optD (rTurn x))) : fn_turned [optD x] Q := by
  refine gBody_of ?_
  show g_turned [.sh (optD x)] (endB .S Q)
  unfold g_turned
  refine st_ret0 ?_
  cases x with
  | none => exact ifE_t (fun K k => .inl ⟨_, rfl, _, rfl, _, rfl, k⟩) q
  | some b => exact ifE_f (fun K k => .inl ⟨_, rfl, _, rfl, _, rfl, k⟩) (notV_of b (fun K k => ⟨_, rfl, k⟩) q)
theorem read_all_ok (q : Q (optD (rAll l))) : fn_read_all [.list (l.map optD)] Q := by
  refine gBody_of ?_
  show g_read_all [.sh (.list (l.map optD))] (endB .S Q)
  unfold g_read_all
  have t1 : ∀ K : Bool → Prop, K (l.contains (some false)) → wT (wB (inD false) (wC (.bool false)) (wVb 0)) [.sh (.list (l.map optD))] K := fun K k => .inl ⟨_, rfl, _, in_optL (x := some false), _, rfl, k⟩
  have t2 : ∀ K : Bool → Prop, K (l.contains none) → wT (wB (inD false) (wC .none) (wVb 0)) [.sh (.list (l.map optD))] K := fun K k => .inl ⟨_, rfl, _, in_optL (x := none), _, rfl, k⟩
  unfold rAll at q
  cases h1 : l.contains (some false) with
  | true =>
    rw [h1, if_pos rfl] at q
    exact st_yes (fun R r => t1 R (by rw [h1]; exact r)) q
  | false =>
    rw [h1, if_neg Bool.false_ne_true] at q
    refine st_no (fun R r => t1 R (by rw [h1]; exact r)) (st_ret0 (ifE_b _ t2 (fun h => ?_) fun h => ?_))
    · rw [h, if_pos rfl] at q; exact q
    · rw [h, if_neg Bool.false_ne_true] at q; exact q
theorem read_any_ok (q : Q (optD (rAny l))) : fn_read_any [.list (l.map optD)] Q := by
  refine gBody_of ?_
  show g_read_any [.sh (.list (l.map optD)), .no] (endB .S Q)
  unfold g_read_any
  refine st_ret0 ⟨_, rfl, _, rfl, _, rfl, ?_⟩
  refine (show wLc1 _ _ _ _ (l.map optD) _ from ?_)
  refine lc_m (F := fun x => optD (rTurn x)) (fun x hx => ⟨_, rfl, fun R r => ⟨_, rfl, rfl, turned_ok r⟩⟩) ?_
  have e : l.map (fun x => optD (rTurn x)) = (l.map rTurn).map optD := by rw [List.map_map]; rfl
  rw [e]
  refine ⟨rfl, read_all_ok ⟨rfl, turned_ok ?_⟩⟩
  rw [rAny_turn]
  exact q
theorem read_most_ok {k : Nat} (q : Q (optD (rMost k l))) : fn_read_most [.int k, .list (l.map optD)] Q := by
  refine gBody_of ?_
  show g_read_most [.sh (.int k), .sh (.list (l.map optD))] (endB .S Q)
  unfold g_read_most
  have c1 : ∀ K : PyData → Prop, K (.int (l.count (some true) : Nat)) → wBL cntD (wVb 1) (wC (.bool true)) [.sh (.int (k : Int)), .sh (.list (l.map optD))] K := fun K k => .inl ⟨_, rfl, ⟨_, rfl⟩, _, cnt_opt (x := some true), k⟩
  have c2 : ∀ K : PyData → Prop, K (.int (l.count none : Nat)) → wBL cntD (wVb 1) (wC .none) [.sh (.int (k : Int)), .sh (.list (l.map optD))] K := fun K k => .inl ⟨_, rfl, ⟨_, rfl⟩, _, cnt_opt (x := none), k⟩
  have t1 : ∀ K : Bool → Prop, K (decide (k < l.count (some true))) → wT (wB gtI (wBL cntD (wVb 1) (wC (.bool true))) (wVb 0)) [.sh (.int (k : Int)), .sh (.list (l.map optD))] K := fun K z => c1 _ (.inl ⟨_, rfl, _, gtI_int, _, rfl, by
    have e : decide ((k : Int) < ((l.count (some true) : Nat) : Int)) = decide (k < l.count (some true)) := decide_eq_decide.mpr (by omega)
    rw [e]; exact z⟩)
  unfold rMost at q
  by_cases h : k < l.count (some true)
  · rw [if_pos h] at q
    exact st_yes (fun R r => t1 R (by rw [decide_eq_true h]; exact r)) q
  · rw [if_neg h] at q
    refine st_no (fun R r => t1 R (by rw [decide_eq_false h]; exact r)) (st_ret0 ?_)
    have t2 : ∀ K : Bool → Prop, K (decide (l.count (some true) + l.count none ≤ k)) → wT (wB leI (wB addAD (wBL cntD (wVb 1) (wC (.bool true))) (wBL cntD (wVb 1) (wC .none))) (wVb 0)) [.sh (.int (k : Int)), .sh (.list (l.map optD))] K := fun K z => c1 _ (c2 _ ⟨_, addAD_int, .inl ⟨_, rfl, _, leI_int, _, rfl, by
      have e : decide (((l.count (some true) : Nat) : Int) + ((l.count none : Nat) : Int) ≤ (k : Int)) = decide (l.count (some true) + l.count none ≤ k) := decide_eq_decide.mpr (by omega)
      rw [e]; exact z⟩⟩)
    refine ifE_b _ t2 (fun z => ?_) fun z => ?_
    · rw [if_pos (of_decide_eq_true z)] at q; exact q
    · rw [if_neg (of_decide_eq_false z)] at q; exact q
end
/-! ### what the program reads -/
abbrev oL (os : List Ob) (s : Nat) : Ob := os.getD s none
theorem get_oL {os : List Ob} {s : Nat} (h : s < os.length) : os[s]? = some (oL os s) := by
  unfold oL
  rw [List.getD_eq_getElem?_getD, List.getElem?_eq_getElem h]
  rfl
theorem ix_op {os : List Ob} {s : Nat} (h : s < os.length) : ixD (opD os) (.int s) = some (optD (oL os s)) := by
  show atI (os.map optD) (s : Int) = _
  exact atI_nat (by rw [List.getElem?_map, get_oL h]; rfl)
section
variable {os : List Ob} {self : Fn} {Q : Rs → Prop}
theorem rb_parts {w : Str} {rest : List PyData} {Fs : List Gf} {h : Ev → W Rs} (hw : PyData.strOk w = true) (hp : parts w rest = Fs.map Gf.d) (hs : ∀ F ∈ Fs, ∀ R : PyData → Prop, R (optD (rd (oL os) F)) → self [F.d, opD os] R)
    (q : h [.sh (.tuple (.str w :: rest)), .sh (opD os), .sh (.str w), .ow ((Fs.map (rd (oL os))).map optD), .no] Q) :
    wSeq (wSetF 3 (wLc [4] (wItems (wCall 1 fn_parts_of (wCons (wV 0) wNil))) (WL.stN 4) wYes (wCall 2 self (wCons (wV 4) (wCons (wV 1) wNil))))) h [.sh (.tuple (.str w :: rest)), .sh (opD os), .sh (.str w), .no, .no] Q := by
  refine st_setFQ ⟨_, rfl, rfl, parts_of_ok hw ?_⟩
  rw [hp]
  refine ⟨_, rfl, _, rfl, ?_⟩
  refine (show wLc1 _ _ _ _ (Fs.map Gf.d) _ from ?_)
  refine lc_m (F := fun F => optD (rd (oL os) F)) (fun F hF => ⟨_, rfl, fun R r => ⟨_, rfl, _, rfl, rfl, hs F hF R r⟩⟩) ⟨_, rfl, ?_⟩
  have e : Fs.map (fun F => optD (rd (oL os) F)) = (Fs.map (rd (oL os))).map optD := by rw [List.map_map]; rfl
  rw [e]
  exact q
end
theorem ixD_l1 {x y : PyData} {xs : List PyData} : ixD (.list (x :: y :: xs)) (.int 1) = some y := by
  show atI (x :: y :: xs) ((1 : Nat) : Int) = some y
  exact atI_nat rfl
theorem eqD_bool {a b : Bool} : eqD (.bool a) (.bool b) = some (.bool (a == b)) := by cases a <;> cases b <;> rfl
theorem neD_bool {a b : Bool} : neD (.bool a) (.bool b) = some (.bool (a != b)) := by cases a <;> cases b <;> rfl
section
variable {Q : PyData → Prop}
/-- the readings of a list, by its word -/
theorem read_by_ok {os : List Ob} : ∀ (n : Nat) (F : Gf) (Q : PyData → Prop), F.wf os.length → F.dep ≤ n → Q (optD (rd (oL os) F)) → fn_read_by n [F.d, opD os] Q
  | 0, F, _, _, h, _ => by have := F.dep_pos; omega
  | n + 1, F, Q, w, h, q => by
    have ih : ∀ G : Gf, G.wf os.length → G.dep ≤ n → ∀ R : PyData → Prop, R (optD (rd (oL os) G)) → fn_read_by n [G.d, opD os] R := fun G a b R r => read_by_ok n G R a b r
    refine gBody_of ?_
    show g_read_by (fn_read_by n) [.sh F.d, .sh (opD os), .no, .no, .no] (endB .S Q)
    unfold g_read_by
    have word : ∀ {w : Str} {rest : List PyData} {h : Ev → W Rs} {K : Rs → Prop}, h [.sh (.tuple (.str w :: rest)), .sh (opD os), .sh (.str w), .no, .no] K → wSeq (wSet 2 (wB ixD (wVb 0) (wC (.int 0)))) h [.sh (.tuple (.str w :: rest)), .sh (opD os), .no, .no, .no] K := fun k =>
      st_set (fun R r => .inl ⟨_, rfl, _, ixD_0, r⟩) k
    have lists : ∀ (o : Lw) (Fs : List Gf), (∀ G ∈ Fs, G.wf os.length ∧ G.dep ≤ n) → (match o with | .most _ => True | _ => parts (match o with | .and => "and" | .or => "or" | _ => "one") (Fs.map Gf.d) = Fs.map Gf.d) → Q (optD (rW o (Fs.map (rd (oL os))))) →
        g_read_by (fn_read_by n) [.sh (.tuple (o.head ++ Fs.map Gf.d)), .sh (opD os), .no, .no, .no] (endB .S Q) := by
      intro o Fs hF hp q
      have hs : ∀ G ∈ Fs, ∀ R : PyData → Prop, R (optD (rd (oL os) G)) → fn_read_by n [G.d, opD os] R := fun G hG => ih G (hF G hG).1 (hF G hG).2
      unfold g_read_by
      cases o with
      | and =>
        refine word (w := "and") (rest := Fs.map Gf.d) ?_
        refine st_no (fun R r => tstIn rfl (by decide) r) ?_
        refine st_no (fun R r => tst rfl (by decide) r) ?_
        refine rb_parts (by decide +kernel) hp hs ?_
        refine st_no (fun R r => tst rfl (by decide) r) ?_
        refine st_yesF (fun R r => tst rfl (by decide) r) ?_
        exact ⟨_, rfl, rfl, read_all_ok q⟩
      | or =>
        refine word (w := "or") (rest := Fs.map Gf.d) ?_
        refine st_no (fun R r => tstIn rfl (by decide) r) ?_
        refine st_no (fun R r => tst rfl (by decide) r) ?_
        refine rb_parts (by decide +kernel) hp hs ?_
        refine st_no (fun R r => tst rfl (by decide) r) ?_
        refine st_no (fun R r => tst rfl (by decide) r) ?_
        refine st_yesF (fun R r => tst rfl (by decide) r) ?_
        exact ⟨_, rfl, rfl, read_any_ok q⟩
      | one =>
        refine word (w := "one") (rest := Fs.map Gf.d) ?_
        refine st_no (fun R r => tstIn rfl (by decide) r) ?_
        refine st_no (fun R r => tst rfl (by decide) r) ?_
        refine rb_parts (by decide +kernel) hp hs ?_
        refine st_no (fun R r => tst rfl (by decide) r) ?_
        refine st_no (fun R r => tst rfl (by decide) r) ?_
        refine st_no (fun R r => tst rfl (by decide) r) ?_
        refine st_no (fun R r => tst rfl (by decide) r) ?_
        refine st_no (fun R r => tst rfl (by decide) r) ?_
        refine st_yesF (fun R r => tst rfl (by decide) r) ?_
        have q : Q (optD (rOne (Fs.map (rd (oL os))))) := q
        rw [← rOne_eq] at q
        refine ⟨_, rfl, rfl, read_any_ok ⟨_, rfl, rfl, read_most_ok (k := 1) ⟨(show 2 ≤ sizeLine by decide), rfl, ?_⟩⟩⟩
        exact read_all_ok (l := [rAny (Fs.map (rd (oL os))), rMost 1 (Fs.map (rd (oL os)))]) q
      | most k =>
        refine word (w := "most") (rest := .int k :: Fs.map Gf.d) ?_
        refine st_no (fun R r => tstIn rfl (by decide) r) ?_
        refine st_no (fun R r => tst rfl (by decide) r) ?_
        refine rb_parts (Fs := Fs) (by decide +kernel) (by simp [parts]) hs ?_
        refine st_no (fun R r => tst rfl (by decide) r) ?_
        refine st_no (fun R r => tst rfl (by decide) r) ?_
        refine st_no (fun R r => tst rfl (by decide) r) ?_
        refine st_no (fun R r => tst rfl (by decide) r) ?_
        refine st_no (fun R r => tst rfl (by decide) r) ?_
        refine st_no (fun R r => tst rfl (by decide) r) ?_
        exact .inl ⟨_, rfl, _, ixD_1, _, rfl, rfl, read_most_ok q⟩
    cases F with
    | yes =>
      refine word (w := "yes") (rest := []) ?_
      refine st_yes (fun R r => tstIn rfl (by decide) r) ?_
      exact .inl ⟨_, rfl, _, eqs (t := true) (by decide), q⟩
    | no =>
      refine word (w := "no") (rest := []) ?_
      refine st_yes (fun R r => tstIn rfl (by decide) r) ?_
      exact .inl ⟨_, rfl, _, eqs (t := false) (by decide), q⟩
    | on s =>
      refine word (w := "on") (rest := [.int s]) ?_
      refine st_no (fun R r => tstIn rfl (by decide) r) ?_
      refine st_yes (fun R r => tst rfl (by decide) r) ?_
      exact .inl ⟨_, rfl, .inl ⟨_, rfl, _, ixD_1, _, ix_op w, q⟩⟩
    | neg a =>
      simp [Gf.dep] at h
      refine word (w := "not") (rest := [a.d]) ?_
      refine st_no (fun R r => tstIn rfl (by decide) r) ?_
      refine st_no (fun R r => tst rfl (by decide) r) ?_
      refine rb_parts (Fs := [a]) (by decide +kernel) (by simp [parts]) (fun G hG => by
        rcases List.mem_singleton.mp hG with rfl
        exact ih _ w (by omega)) ?_
      refine st_yes (fun R r => tst rfl (by decide) r) ?_
      exact .inr ⟨_, rfl, _, ixD_l0, rfl, turned_ok q⟩
    | thn a b =>
      simp [Gf.dep] at h
      refine word (w := "then") (rest := [a.d, b.d]) ?_
      refine st_no (fun R r => tstIn rfl (by decide) r) ?_
      refine st_no (fun R r => tst rfl (by decide) r) ?_
      refine rb_parts (Fs := [a, b]) (by decide +kernel) (by simp [parts]) (fun G hG => by
        simp only [List.mem_cons, List.not_mem_nil, or_false] at hG
        rcases hG with rfl | rfl
        · exact ih _ w.1 (by omega)
        · exact ih _ w.2 (by omega)) ?_
      refine st_no (fun R r => tst rfl (by decide) r) ?_
      refine st_no (fun R r => tst rfl (by decide) r) ?_
      refine st_no (fun R r => tst rfl (by decide) r) ?_
      refine st_yes (fun R r => tst rfl (by decide) r) ?_
      refine .inr ⟨_, rfl, _, ixD_l0, rfl, turned_ok (.inr ⟨_, rfl, _, ixD_l1, (show 2 ≤ sizeLine by decide), rfl, ?_⟩)⟩
      exact read_any_ok (l := [rTurn (rd (oL os) a), rd (oL os) b]) q
    | many o as =>
      simp [Gf.dep] at h
      rw [Gf.d, Gf.dL_map]
      have q : Q (optD (rW o (rdL (oL os) as))) := q
      rw [rdL_map] at q
      exact lists o as (fun G hG => ⟨Gf.wfL_all.mp w.2.2.2 G hG, Gf.depL_le.mp (by omega : Gf.depL as ≤ n) G hG⟩) (by cases o <;> simp [parts]) q
end
end K14

namespace K14
open PySem PySem.Spec PyProof.Rows L2 WL
/-! ### repr -/
structure Nice (D W : Nat) (d : PyData) : Prop where
  pl : plain d = true
  sh : d.showable = true
  lv : d.leavesShort 13 = true
  dp : d.depth ≤ D
  bk : d.bulk ≤ W
theorem Nice.repr {D W : Nat} {d : PyData} (h : Nice D W d) (hD : D ≤ 50) (hW : W ≤ 2 ^ 20) : reprD d = some (.str d.shown) := by
  have z := PyData.shown_fits_bulk (B := 13) (by decide) (by decide) h.lv (Nat.le_trans h.bk hW)
  unfold reprD
  rw [if_pos ⟨h.pl, h.sh, Nat.le_trans h.dp hD, z⟩]
theorem nice_int {i : Int} (h : -1000 ≤ i ∧ i ≤ 1000) : Nice 0 0 (.int i) := by
  refine ⟨rfl, ?_, ?_, by simp [PyData.depth], by simp [PyData.bulk]⟩
  · simp only [PyData.showable, decide_eq_true_eq]
    have : i.natAbs.log2 ≤ i.natAbs := Nat.log2_le_self _
    omega
  · simp only [PyData.leavesShort, decide_eq_true_eq]
    exact PyData.shown_int_le (by omega)
theorem showAll_of : ∀ {ds : List PyData}, (∀ d ∈ ds, d.showable = true) → PyData.showableAll ds = true
  | [], _ => rfl
  | d :: ds, h => by
    simp only [PyData.showableAll, h d List.mem_cons_self, Bool.true_and]
    exact showAll_of fun x hx => h x (List.mem_cons_of_mem _ hx)
theorem leavesAll_of : ∀ {ds : List PyData}, (∀ d ∈ ds, d.leavesShort 13 = true) → PyData.leavesShortAll 13 ds = true
  | [], _ => rfl
  | d :: ds, h => by
    simp only [PyData.leavesShortAll, h d List.mem_cons_self, Bool.true_and]
    exact leavesAll_of fun x hx => h x (List.mem_cons_of_mem _ hx)
theorem depthAll_of {D : Nat} : ∀ {ds : List PyData}, (∀ d ∈ ds, d.depth ≤ D) → PyData.depthAll ds ≤ D
  | [], _ => by simp [PyData.depthAll]
  | d :: ds, h => by
    have h1 := h d List.mem_cons_self
    have h2 := depthAll_of fun x hx => h x (List.mem_cons_of_mem _ hx)
    simp only [PyData.depthAll]
    omega
theorem bulkAll_of {B : Nat} : ∀ {ds : List PyData}, (∀ d ∈ ds, d.bulk ≤ B) → PyData.bulkAll ds ≤ ds.length * (B + 1)
  | [], _ => by simp [PyData.bulkAll]
  | d :: ds, h => by
    have h1 := h d List.mem_cons_self
    have h2 := bulkAll_of fun x hx => h x (List.mem_cons_of_mem _ hx)
    rw [PyData.bulkAll, List.length_cons, Nat.succ_mul]
    omega
theorem plainA_of : ∀ {ds : List PyData}, (∀ d ∈ ds, plain d = true) → plainA ds = true
  | [], _ => rfl
  | d :: ds, h => by
    show (plain d && plainA ds) = true
    rw [h d List.mem_cons_self, plainA_of fun x hx => h x (List.mem_cons_of_mem _ hx)]
    rfl
theorem nice_box {mk : List PyData → PyData} (hb : mk = PyData.list ∨ mk = PyData.tuple) {D W n : Nat} {ds : List PyData} (h : ∀ d ∈ ds, Nice D W d) (hn : ds.length ≤ n) : Nice (D + 1) (n * (W + 1)) (mk ds) := by
  have p1 : plainA ds = true := plainA_of fun d hd => (h d hd).pl
  have p2 := showAll_of fun d hd => (h d hd).sh
  have p3 := leavesAll_of fun d hd => (h d hd).lv
  have p4 := depthAll_of fun d hd => (h d hd).dp
  have p5 := bulkAll_of fun d hd => (h d hd).bk
  have z : ds.length * (W + 1) ≤ n * (W + 1) := Nat.mul_le_mul_right _ hn
  rcases hb with rfl | rfl
  · exact ⟨p1, by simpa [PyData.showable] using p2, by simpa [PyData.leavesShort] using p3, by simp only [PyData.depth]; omega, by simp only [PyData.bulk]; omega⟩
  · exact ⟨p1, by simpa [PyData.showable] using p2, by simpa [PyData.leavesShort] using p3, by simp only [PyData.depth]; omega, by simp only [PyData.bulk]; omega⟩
theorem Nice.mono {D W D' W' : Nat} {d : PyData} (g : Nice D W d) (h : D ≤ D') (h' : W ≤ W') : Nice D' W' d := ⟨g.pl, g.sh, g.lv, Nat.le_trans g.dp h, Nat.le_trans g.bk h'⟩
theorem nice_bool {b : Bool} : Nice 0 0 (.bool b) := ⟨rfl, rfl, by cases b <;> decide +kernel, by simp [PyData.depth], by simp [PyData.bulk]⟩
theorem nice_opt {x : Ob} : Nice 0 0 (optD x) := by
  cases x with
  | none => exact ⟨rfl, rfl, by decide +kernel, by simp [optD, PyData.depth], by simp [optD, PyData.bulk]⟩
  | some b => exact nice_bool
theorem nice_str {x : Str} {n : Nat} (hs : (PyData.str x).showable = true) (hl : (PyData.str x).leavesShort 13 = true) (hb : (PyData.str x).bulk ≤ n) : Nice 0 n (.str x) := ⟨rfl, hs, hl, by simp [PyData.depth], hb⟩
theorem nice_word {x : Str} (h : x ∈ (["yes", "no", "on", "not", "then", "same", "and", "or", "one", "most"] : List Str)) : Nice 0 20 (.str x) := by
  simp only [List.mem_cons, List.not_mem_nil, or_false] at h
  rcases h with rfl | rfl | rfl | rfl | rfl | rfl | rfl | rfl | rfl | rfl <;> exact nice_str (by decide +kernel) (by decide +kernel) (by decide +kernel)
theorem repr_opt {x : Ob} : reprD (optD x) = some (.str (optD x).shown) := nice_opt.repr (by decide) (by decide)
theorem repr_two {x : Ob} : reprD (.list [optD x, optD x]) = some (.str (PyData.list [optD x, optD x]).shown) :=
  (nice_box (mk := PyData.list) (.inl rfl) (n := 2) (D := 0) (W := 0) (ds := [optD x, optD x]) (fun d hd => by
    simp only [List.mem_cons, List.not_mem_nil, or_false, or_self] at hd
    subst hd
    exact nice_opt) (by simp)).repr (by decide) (by decide)
theorem rgn {n : Nat} (h : n ≤ 1000) : rg1D (.int (n : Int)) = some (rangeL 0 n) := by
  unfold rg1D
  exact if_pos (by
    have : (1000 : Int) ≤ sizeLine := by decide
    omega)
theorem rangeL_zero {n : Nat} : rangeL 0 n = (List.range n).map fun i : Nat => PyData.int (((0 + i : Nat) : Int)) := by
  unfold rangeL
  exact List.map_congr_left fun i _ => by
    show PyData.int (0 + (i : Int)) = PyData.int (((0 + i : Nat) : Int))
    rw [show (0 : Int) + (i : Int) = ((0 + i : Nat) : Int) by omega]
theorem same_str {s : Str} : neD (.str s) (.str s) = some (.bool false) := by rw [neD_strs]; simp
theorem rd_sh {i : Nat} {ρ : Ev} {d : PyData} {R : PyData → Prop} (e : ρ[i]? = some (.sh d)) (r : R d) : wVb i ρ R := .inl ⟨_, e, r⟩
theorem rd_ow {i : Nat} {ρ : Ev} {ds : List PyData} {R : PyData → Prop} (e : ρ[i]? = some (.ow ds)) (r : R (.list ds)) : wVb i ρ R := .inr ⟨_, e, r⟩
theorem ne_same {e1 e2 : Ev → W PyData} {ρ : Ev} {s : Str} (h1 : ∀ R : PyData → Prop, R (.str s) → e1 ρ R) (h2 : ∀ R : PyData → Prop, R (.str s) → e2 ρ R) : ∀ R : Bool → Prop, R false → wT (wB neD e1 e2) ρ R := fun R r => h1 _ (h2 _ ⟨_, same_str, _, rfl, r⟩)
theorem repr_of {e : Ev → W PyData} {ρ : Ev} {d : PyData} {s : Str} (hr : reprD d = some (.str s)) (h : ∀ R : PyData → Prop, R d → e ρ R) : ∀ R : PyData → Prop, R (.str s) → wU reprD e ρ R := fun R r => h _ ⟨_, hr, r⟩
/-! ### the program's functions from outside -/
theorem check_switches_ok {sw : Nat} {Q : PyData → Prop} (h0 : 1 ≤ sw) (h1 : sw ≤ 12) (q : Q .none) : fn_check_switches [.int sw, .int 1] Q := by
  refine gBody_of ?_
  show g_check_switches [.sh (.int sw), .sh (.int 1)] (endB .S Q)
  unfold g_check_switches
  refine st_ok0 (fun R r => not_wT (b := true) (fun K k => ⟨_, rfl, _, rfl, rfl, is_within_ok rfl ?_⟩) r) ⟨rfl, q⟩
  have e : inR 1 12 (.int sw) = true := by
    show (decide ((1 : Int) ≤ (sw : Int)) && decide ((sw : Int) ≤ 12)) = true
    rw [decide_eq_true (by omega), decide_eq_true (by omega)]
    rfl
  rw [e]
  exact k
theorem check_formula_ok {sw : Nat} {F : Gf} {Q : PyData → Prop} (w : F.wf sw) (h : F.dep ≤ 8) (hz : F.sz ≤ 60) (q : Q .none) : fn_check_formula [.int sw, F.d] Q := by
  refine gBody_of ?_
  show g_check_formula [.sh (.int sw), .sh F.d] (endB .S Q)
  unfold g_check_formula
  exact st_ok0 (fun R r => not_wT (b := true) (fun K k => ⟨_, rfl, _, rfl, rfl, is_formula_g w h hz k⟩) r) ⟨rfl, q⟩
theorem is_choice_ok {sw : Nat} {l : List Bool} {Q : PyData → Prop} (h : l.length = sw) (q : Q (.bool true)) : fn_is_choice_of [.int sw, chD l] Q := by
  refine gBody_of ?_
  show g_is_choice_of [.sh (.int sw), .sh (chD l), .no] (endB .S Q)
  unfold g_is_choice_of
  refine st_ret0 (andV_t (fun K k => .inl ⟨_, rfl, _, rfl, k⟩) (andV_t (fun K k => .inl ⟨_, rfl, _, rfl, .inl ⟨_, rfl, _, eqD_int, ?_⟩⟩) ⟨_, rfl, _, rfl, _, rfl, ?_⟩))
  · rw [List.length_map, h, decide_eq_true rfl]
    exact k
  · refine (show wLc1 _ _ _ _ (l.map PyData.bool) _ from ?_)
    exact lc_all (p := fun _ => true) (fun b hb => ⟨_, rfl, fun R r => .inl ⟨_, rfl, _, rfl, r⟩⟩) (by rw [all_tt]; exact q)
theorem check_choice_ok {sw : Nat} {l : List Bool} {Q : PyData → Prop} (h : l.length = sw) (q : Q .none) : fn_check_choice [.int sw, chD l] Q := by
  refine gBody_of ?_
  show g_check_choice [.sh (.int sw), .sh (chD l)] (endB .S Q)
  unfold g_check_choice
  exact st_ok0 (fun R r => not_wT (b := true) (fun K k => ⟨_, rfl, _, rfl, rfl, is_choice_ok h k⟩) r) ⟨rfl, q⟩
theorem is_open_ok {sw : Nat} {os : List Ob} {Q : PyData → Prop} (h : os.length = sw) (q : Q (.bool true)) : fn_is_open_of [.int sw, opD os] Q := by
  refine gBody_of ?_
  show g_is_open_of [.sh (.int sw), .sh (opD os), .no] (endB .S Q)
  unfold g_is_open_of
  refine st_no (fun R r => or_f (fun K k => not_wT (b := true) (fun K k => .inl ⟨_, rfl, _, rfl, k⟩) k) (.inl ⟨_, rfl, _, rfl, .inl ⟨_, rfl, _, neD_int, _, rfl, ?_⟩⟩)) (st_ret0 ⟨_, rfl, _, rfl, _, rfl, ?_⟩)
  · rw [List.length_map, h, decide_eq_true rfl]
    exact r
  · refine (show wLc1 _ _ _ _ (os.map optD) _ from ?_)
    refine lc_all (p := fun _ => true) (fun b hb => ⟨_, rfl, fun R r => ?_⟩) (by rw [all_tt]; exact q)
    cases b with
    | none => exact orV_t (fun K k => .inl ⟨_, rfl, _, rfl, k⟩) r
    | some b => exact orV_f (fun K k => .inl ⟨_, rfl, _, rfl, k⟩) (.inl ⟨_, rfl, _, rfl, r⟩)
theorem check_open_ok {sw : Nat} {os : List Ob} {Q : PyData → Prop} (h : os.length = sw) (q : Q .none) : fn_check_open [.int sw, opD os] Q := by
  refine gBody_of ?_
  show g_check_open [.sh (.int sw), .sh (opD os)] (endB .S Q)
  unfold g_check_open
  exact st_ok0 (fun R r => not_wT (b := true) (fun K k => ⟨_, rfl, _, rfl, rfl, is_open_ok h k⟩) r) ⟨rfl, q⟩
theorem st_drop {g : Ev → W PyData} {h : Ev → W Rs} {ρ : Ev} {Q : Rs → Prop} (q : g ρ fun _ => h ρ Q) : wSeq (wDrop g) h ρ Q := q
section
variable {sw : Nat} {F : Gf} {os : List Ob} {l : List Bool} {Q : PyData → Prop}
theorem holds_ok (h0 : 1 ≤ sw) (h1 : sw ≤ 12) (hl : l.length = sw) (w : F.wf sw) (h : F.dep ≤ 8) (hz : F.sz ≤ 60) (q : Q (optD (rd (oL (l.map some)) F))) : fn_holds [.int sw, F.d, chD l] Q := by
  refine gBody_of ?_
  show g_holds [.sh (.int sw), .sh F.d, .sh (chD l)] (endB .S Q)
  unfold g_holds
  refine st_drop ⟨_, rfl, rfl, check_switches_ok h0 h1 (st_drop ⟨_, rfl, _, rfl, rfl, check_formula_ok w h hz (st_drop ⟨_, rfl, _, rfl, rfl, check_choice_ok hl (st_ret0 ⟨_, rfl, _, rfl, rfl, ?_⟩)⟩)⟩)⟩
  show fn_read_by 9 [F.d, chD l] Q
  rw [← opD_some]
  exact read_by_ok 9 F Q (by rw [List.length_map, hl]; exact w) (by omega) q
theorem read_open_ok (h0 : 1 ≤ sw) (h1 : sw ≤ 12) (hl : os.length = sw) (w : F.wf sw) (h : F.dep ≤ 8) (hz : F.sz ≤ 60) (q : Q (optD (rd (oL os) F))) : fn_read_open [.int sw, F.d, opD os] Q := by
  refine gBody_of ?_
  show g_read_open [.sh (.int sw), .sh F.d, .sh (opD os)] (endB .S Q)
  unfold g_read_open
  refine st_drop ⟨_, rfl, rfl, check_switches_ok h0 h1 (st_drop ⟨_, rfl, _, rfl, rfl, check_formula_ok w h hz (st_drop ⟨_, rfl, _, rfl, rfl, check_open_ok hl (st_ret0 ⟨_, rfl, _, rfl, rfl, ?_⟩)⟩)⟩)⟩
  exact read_by_ok 9 F Q (by rw [hl]; exact w) (by omega) q
end
/-! ### what is drawn -/
theorem draw_in {m : Int} {Q : PyData → Prop} (h : 0 < m) (h2 : m < 2 ^ 30) (q : ∀ d : Int, 0 ≤ d → d < m → Q (.int d)) : drawF [potD, .int m] Q := ⟨h, h2, q⟩
theorem draw_gt {m k : Int} {ρ : Ev} {K : Bool → Prop} (e : ρ[0]? = some (.sh potD)) (h : 0 < m) (h2 : m < 2 ^ 30) (k1 : K true) (k2 : K false) : wT (wB gtI (wCall 2 drawF (wCons (wV 0) (wCons (wC (.int m)) wNil))) (wC (.int k))) ρ K :=
  ⟨_, e, rfl, draw_in h h2 fun x x0 x1 => ⟨_, gtI_int, _, rfl, by
    by_cases c : k < x
    · rw [decide_eq_true c]; exact k1
    · rw [decide_eq_false c]; exact k2⟩⟩
theorem law_pick_ok {ds : List PyData} {Q : PyData → Prop} (h0 : ds ≠ []) (hl : ds.length ≤ 1000) (q : ∀ d ∈ ds, Q d) : fn_law_pick [potD, .list ds] Q := by
  refine gBody_of ?_
  show g_law_pick [.sh potD, .sh (.list ds)] (endB .S Q)
  unfold g_law_pick
  have hpos : 0 < ds.length := List.length_pos_iff.mpr h0
  refine .inl ⟨_, rfl, _, rfl, .inl ⟨_, rfl, _, rfl, rfl, draw_in (by omega) (by omega) fun d d0 d1 => ?_⟩⟩
  have hlt : d.toNat < ds.length := by omega
  obtain ⟨k, rfl⟩ := Int.eq_ofNat_of_zero_le d0
  have hk : k < ds.length := by omega
  exact ⟨ds[k], atI_nat (List.getElem?_eq_getElem hk), q _ (List.getElem_mem hk)⟩
end K14

namespace K14
open PySem PySem.Spec PyProof.Rows L2 WL
/-! ### the program's measures -/
def Gf.parts : Gf → List Gf
  | .neg a => [a]
  | .thn a b => [a, b]
  | .many _ as => as
  | _ => []
theorem parts_g {F : Gf} {Q : PyData → Prop} (q : Q (.list (F.parts.map Gf.d))) : fn_parts_of [F.d] Q := by
  cases F with
  | yes => exact parts_of_ok (w := "yes") (rest := []) (by decide +kernel) q
  | no => exact parts_of_ok (w := "no") (rest := []) (by decide +kernel) q
  | on s => exact parts_of_ok (w := "on") (rest := [.int s]) (by decide +kernel) q
  | neg a => exact parts_of_ok (w := "not") (rest := [a.d]) (by decide +kernel) q
  | thn a b => exact parts_of_ok (w := "then") (rest := [a.d, b.d]) (by decide +kernel) q
  | many o as =>
    rw [Gf.d, Gf.dL_map]
    cases o with
    | and => exact parts_of_ok (w := "and") (rest := as.map Gf.d) (by decide +kernel) q
    | or => exact parts_of_ok (w := "or") (rest := as.map Gf.d) (by decide +kernel) q
    | one => exact parts_of_ok (w := "one") (rest := as.map Gf.d) (by decide +kernel) q
    | most k => exact parts_of_ok (w := "most") (rest := .int k :: as.map Gf.d) (by decide +kernel) q
section
variable {sw : Nat} {F : Gf} {Q : PyData → Prop}
theorem size_ok (h0 : 1 ≤ sw) (h1 : sw ≤ 12) (w : F.wf sw) (h : F.dep ≤ 8) (hz : F.sz ≤ 60) (q : Q (.int (F.sz : Nat))) : fn_size [.int sw, F.d] Q := by
  refine gBody_of ?_
  show g_size [.sh (.int sw), .sh F.d] (endB .S Q)
  unfold g_size
  refine st_drop ⟨_, rfl, rfl, check_switches_ok h0 h1 (st_drop ⟨_, rfl, _, rfl, rfl, check_formula_ok w h hz (st_ret0 ⟨_, rfl, rfl, ?_⟩)⟩)⟩
  refine size_of_ok 10 8 sw F.d _ (by omega) (tame_g F) (bl_g 8 F w h) ?_
  rw [sz_g 8 F h]
  exact q
end
theorem Gf.parts_dep {F : Gf} {n : Nat} (h : F.dep ≤ n + 1) : ∀ a ∈ F.parts, a.dep ≤ n := fun a ha => by
  cases F with
  | yes | no | on s => cases ha
  | neg b =>
    simp [Gf.dep] at h
    rcases List.mem_singleton.mp ha with rfl
    omega
  | thn b c =>
    simp [Gf.dep] at h
    simp only [Gf.parts, List.mem_cons, List.not_mem_nil, or_false] at ha
    rcases ha with rfl | rfl <;> omega
  | many o as =>
    simp [Gf.dep] at h
    exact Gf.depL_le.mp (by omega : Gf.depL as ≤ n) a ha
theorem Gf.parts_wf {F : Gf} {sw : Nat} (h : F.wf sw) : ∀ a ∈ F.parts, a.wf sw := fun a ha => by
  cases F with
  | yes | no | on s => cases ha
  | neg b =>
    rcases List.mem_singleton.mp ha with rfl
    exact h
  | thn b c =>
    simp only [Gf.parts, List.mem_cons, List.not_mem_nil, or_false] at ha
    rcases ha with rfl | rfl
    · exact h.1
    · exact h.2
  | many o as => exact Gf.wfL_all.mp h.2.2.2 a ha
mutual
/-- the switches that stand in a formula, with repeats -/
def Gf.ons : Gf → List Nat
  | .yes | .no => []
  | .on s => [s]
  | .neg a => a.ons
  | .thn a b => a.ons ++ b.ons
  | .many _ as => Gf.onsL as
def Gf.onsL : List Gf → List Nat
  | [] => []
  | a :: as => a.ons ++ Gf.onsL as
end
theorem Gf.onsL_flat : ∀ as : List Gf, Gf.onsL as = as.flatMap Gf.ons
  | [] => rfl
  | a :: as => by rw [Gf.onsL, Gf.onsL_flat as, List.flatMap_cons]
theorem Gf.ons_parts {F : Gf} (h : ∀ s, F ≠ .on s) : F.ons = F.parts.flatMap Gf.ons := by
  cases F with
  | yes | no => rfl
  | on s => exact absurd rfl (h s)
  | neg a => simp [Gf.ons, Gf.parts]
  | thn a b => simp [Gf.ons, Gf.parts]
  | many o as => rw [Gf.ons, Gf.onsL_flat]; rfl
abbrev natsD (l : List Nat) : List PyData := l.map fun s => .int (s : Nat)
end K14

namespace K14
open PySem PySem.Spec PyProof.Rows L2 WL
/-! ### depths -/
theorem foldl_max : ∀ (l : List Gf) (b : Nat), (l.map fun F => ((F.dep : Nat) : Int)).foldl max (b : Int) = ((max b (Gf.depL l) : Nat) : Int)
  | [], b => by simp [Gf.depL]
  | F :: l, b => by
    rw [List.map_cons, List.foldl_cons]
    have e : max (b : Int) ((F.dep : Nat) : Int) = ((max b F.dep : Nat) : Int) := by omega
    rw [e, foldl_max l, Gf.depL]
    omega
theorem maxD_dep {l : List Gf} : maxD (.list (.int 0 :: l.map fun F => .int ((F.dep : Nat) : Int))) = some (.int ((Gf.depL l : Nat) : Int)) := by
  have e : (.int 0 :: l.map fun F => PyData.int ((F.dep : Nat) : Int)) = ((0 : Int) :: l.map fun F => ((F.dep : Nat) : Int)).map fun i => PyData.int i := by
    rw [List.map_cons, List.map_map]
    rfl
  show Option.map _ (allInts _) = _
  rw [e, allInts_map]
  have := foldl_max l 0
  simp only [List.map_id', Option.map_some, List.head!, List.foldl_cons]
  rw [show max (0 : Int) 0 = ((0 : Nat) : Int) by rfl, this]
  simp
theorem Gf.dep_parts (F : Gf) : F.dep = 1 + Gf.depL F.parts := by
  cases F <;> simp [Gf.dep, Gf.parts, Gf.depL]
theorem depth_of_ok : ∀ (n : Nat) (F : Gf) (Q : PyData → Prop), F.dep ≤ n → F.parts.length ≤ 8 → (∀ a, a ∈ F.parts → True) → (∀ sw, F.wf sw → True) → (∃ sw, F.wf sw) → Q (.int (F.dep : Nat)) → fn_depth_of n [F.d] Q
  | 0, F, _, h, _, _, _, _, _ => by have := F.dep_pos; omega
  | n + 1, F, Q, h, hl, _, _, ⟨sw, w⟩, q => by
    refine gBody_of ?_
    show g_depth_of (fn_depth_of n) [.sh F.d, .no] (endB .S Q)
    unfold g_depth_of
    refine st_ret0 ?_
    refine (show wU maxD _ _ _ from ?_)
    refine ⟨(show 1 ≤ sizeLine by decide), _, rfl, rfl, parts_g ⟨_, rfl, _, rfl, ?_⟩⟩
    refine (show wLc1 _ _ _ _ (F.parts.map Gf.d) _ from ?_)
    have len : ∀ G ∈ F.parts, G.parts.length ≤ 8 := fun G hG => by
      have := Gf.parts_wf w G hG
      cases G with
      | many o as => exact this.2.2.1
      | _ => simp [Gf.parts]
    refine lc_m (F := fun G => .int ((G.dep : Nat) : Int)) (fun G hG => ⟨_, rfl, fun R r => ⟨_, rfl, rfl, depth_of_ok n G R (Gf.parts_dep h G hG) (len G hG) (fun _ _ => trivial) (fun _ _ => trivial) ⟨sw, Gf.parts_wf w G hG⟩ r⟩⟩) ?_
    refine ⟨_, if_pos (Nat.le_trans (by simp; omega : _ ≤ 1000) (by decide)), _, maxD_dep, _, addAD_int, ?_⟩
    have e : (1 : Int) + ((Gf.depL F.parts : Nat) : Int) = ((F.dep : Nat) : Int) := by
      rw [Gf.dep_parts F]
      omega
    rw [e]
    exact q
theorem Gf.parts_len {F : Gf} {sw : Nat} (w : F.wf sw) : F.parts.length ≤ 8 := by
  cases F with
  | many o as => exact w.2.2.1
  | _ => simp [Gf.parts]
theorem depth_ok {sw : Nat} {F : Gf} {Q : PyData → Prop} (h0 : 1 ≤ sw) (h1 : sw ≤ 12) (w : F.wf sw) (h : F.dep ≤ 8) (hz : F.sz ≤ 60) (q : Q (.int (F.dep : Nat))) : fn_depth [.int sw, F.d] Q := by
  refine gBody_of ?_
  show g_depth [.sh (.int sw), .sh F.d] (endB .S Q)
  unfold g_depth
  exact st_drop ⟨_, rfl, rfl, check_switches_ok h0 h1 (st_drop ⟨_, rfl, _, rfl, rfl, check_formula_ok w h hz (st_ret0 ⟨_, rfl, rfl, depth_of_ok 10 F Q (by omega) (Gf.parts_len w) (fun _ _ => trivial) (fun _ _ => trivial) ⟨sw, w⟩ q⟩)⟩)⟩
end K14

namespace K14
open PySem PySem.Spec PyProof.Rows L2 WL
/-! ### the switches named -/
def Gf.isOn : Gf → Bool
  | .on _ => true
  | _ => false
theorem tst_on {F : Gf} {ρ : Ev} {K : Bool → Prop} (e : ρ[0]? = some (.sh F.d)) (k : K F.isOn) : wT (wB eqD (wB ixD (wVb 0) (wC (.int 0))) (wC (.str "on"))) ρ K := by
  have go : ∀ {w : Str} {rest : List PyData} {t : Bool}, F.d = .tuple (.str w :: rest) → (w == ("on" : Str)) = t → K t → wT (wB eqD (wB ixD (wVb 0) (wC (.int 0))) (wC (.str "on"))) ρ K := fun {w rest t} ed h k => by
    rw [ed] at e
    exact .inl ⟨_, e, _, ixD_0, _, eqs h, _, rfl, k⟩
  cases F with
  | yes => exact go (w := "yes") (t := false) rfl (by decide) k
  | no => exact go (w := "no") (t := false) rfl (by decide) k
  | on s => exact go (w := "on") (t := true) rfl (by decide) k
  | neg a => exact go (w := "not") (t := false) rfl (by decide) k
  | thn a b => exact go (w := "then") (t := false) rfl (by decide) k
  | many o as =>
    cases o with
    | and => exact go (w := "and") (t := false) rfl (by decide) k
    | or => exact go (w := "or") (t := false) rfl (by decide) k
    | one => exact go (w := "one") (t := false) rfl (by decide) k
    | most n => exact go (w := "most") (t := false) rfl (by decide) k
theorem nm_loop {self : Fn} : ∀ (as : List Gf) (acc : List Nat) (x0 x2 : Sl) (Q : Rs → Prop), (∀ a ∈ as, ∀ R : PyData → Prop, R (.list (natsD a.ons)) → self [a.d] R) → acc.length + (as.flatMap Gf.ons).length ≤ 1000 →
    (∀ y, Q (.nx [x0, .ow (natsD (acc ++ as.flatMap Gf.ons)), y])) → wLoop (WL.stN 2) (wExt 1 (wCall 1 self (wCons (wV 2) wNil))) (as.map Gf.d) [x0, .ow (natsD acc), x2] Q
  | [], acc, x0, x2, Q, _, _, q => by
    have := q x2
    rw [List.flatMap_nil, List.append_nil] at this
    exact this
  | a :: as, acc, x0, x2, Q, h, hl, q => by
    rw [List.flatMap_cons, List.length_append] at hl
    refine ⟨_, rfl, _, rfl, _, rfl, rfl, h a List.mem_cons_self _ ⟨_, rfl, Nat.le_trans (by simp [natsD]; omega : _ ≤ 1000) (by decide), ?_⟩⟩
    have e : natsD acc ++ natsD a.ons = natsD (acc ++ a.ons) := by unfold natsD; rw [List.map_append]
    show wLoop _ _ _ [x0, .ow (natsD acc ++ natsD a.ons), .sh a.d] Q
    rw [e]
    exact nm_loop as (acc ++ a.ons) x0 _ Q (fun b hb => h b (List.mem_cons_of_mem _ hb)) (by rw [List.length_append]; omega) fun y => by
      have := q y
      rw [List.flatMap_cons] at this
      rw [List.append_assoc]
      exact this
mutual
theorem Gf.ons_sz : ∀ F : Gf, F.ons.length ≤ F.sz
  | .yes | .no => by simp [Gf.ons, Gf.sz]
  | .on s => by simp [Gf.ons, Gf.sz]
  | .neg a => by have := Gf.ons_sz a; simp [Gf.ons, Gf.sz]; omega
  | .thn a b => by have := Gf.ons_sz a; have := Gf.ons_sz b; simp [Gf.ons, Gf.sz]; omega
  | .many o as => by have := Gf.onsL_sz as; simp [Gf.ons, Gf.sz]; omega
theorem Gf.onsL_sz : ∀ as : List Gf, (Gf.onsL as).length ≤ Gf.szL as
  | [] => by simp [Gf.onsL, Gf.szL]
  | a :: as => by have := Gf.ons_sz a; have := Gf.onsL_sz as; simp [Gf.onsL, Gf.szL]; omega
end
theorem Gf.parts_sz {F : Gf} : ∀ a ∈ F.parts, a.sz ≤ F.sz := fun a ha => by
  cases F with
  | yes | no | on s => cases ha
  | neg b =>
    rcases List.mem_singleton.mp ha with rfl
    simp [Gf.sz]
  | thn b c =>
    simp only [Gf.parts, List.mem_cons, List.not_mem_nil, or_false] at ha
    rcases ha with rfl | rfl <;> simp [Gf.sz] <;> omega
  | many o as =>
    have go : ∀ as : List Gf, a ∈ as → a.sz ≤ Gf.szL as := fun as => by
      induction as with
      | nil => exact fun h => nomatch h
      | cons b as ih =>
        intro h
        rw [Gf.szL]
        rcases List.mem_cons.mp h with rfl | h
        · omega
        · have := ih h
          omega
    have := go as ha
    rw [Gf.sz]
    omega
theorem named_in_ok : ∀ (n : Nat) (F : Gf) (Q : PyData → Prop), F.dep ≤ n → F.sz ≤ 60 → Q (.list (natsD F.ons)) → fn_named_in n [F.d] Q
  | 0, F, _, h, _, _ => by have := F.dep_pos; omega
  | n + 1, F, Q, h, hz, q => by
    refine gBody_of ?_
    show g_named_in (fn_named_in n) [.sh F.d, .no, .no] (endB .F Q)
    unfold g_named_in
    cases ho : F.isOn with
    | true =>
      cases F with
      | on s =>
        refine st_yes (fun R r => tst_on rfl r) ?_
        exact .inl ⟨_, rfl, _, ixD_1, (show 1 ≤ sizeLine by decide), q⟩
      | _ => cases ho
    | false =>
      refine st_no (fun R r => tst_on rfl (by rw [ho]; exact r)) ?_
      refine st_setFQ ⟨Nat.zero_le _, _, rfl, ?_⟩
      refine (show wSeq (wFor _ _ _) _ _ _ from ⟨_, rfl, rfl, parts_g ⟨_, rfl, ?_⟩⟩)
      have e : F.ons = F.parts.flatMap Gf.ons := Gf.ons_parts fun s z => by rw [z] at ho; cases ho
      have len := Gf.ons_sz F
      refine nm_loop F.parts [] _ _ _ (fun a ha R r => named_in_ok n a R (Gf.parts_dep h a ha) (Nat.le_trans (Gf.parts_sz a ha) hz) r) (by rw [← e]; simp; omega) fun y => ⟨_, rfl, ?_⟩
      rw [List.nil_append, ← e]
      exact q
theorem named_ok {sw : Nat} {F : Gf} {Q : PyData → Prop} (h0 : 1 ≤ sw) (h1 : sw ≤ 12) (w : F.wf sw) (h : F.dep ≤ 8) (hz : F.sz ≤ 60) (q : ∀ out : List Int, out.Pairwise (· < ·) → (∀ k, k ∈ out ↔ k ∈ F.ons.map fun s : Nat => (s : Int)) → Q (.list (out.map .int))) : fn_named [.int sw, F.d] Q := by
  refine gBody_of ?_
  show g_named [.sh (.int sw), .sh F.d] (endB .S Q)
  unfold g_named
  have len := Gf.ons_sz F
  refine st_drop ⟨_, rfl, rfl, check_switches_ok h0 h1 (st_drop ⟨_, rfl, _, rfl, rfl, check_formula_ok w h hz (st_ret0 ⟨_, rfl, rfl, named_in_ok 10 F _ (by omega) hz ⟨F.ons.map fun s : Nat => (s : Int), ?_, by rw [List.length_map]; omega, q⟩⟩)⟩)⟩
  unfold natsD
  rw [List.map_map]
  rfl
end K14

namespace K14
open PySem PySem.Spec PyProof.Rows L2 WL
/-! ### formulas made of formulas -/
mutual
/-- something in the place of each switch -/
def Gf.sub (f : Nat → Gf) : Gf → Gf
  | .yes => .yes
  | .no => .no
  | .on s => f s
  | .neg a => .neg (a.sub f)
  | .thn a b => .thn (a.sub f) (b.sub f)
  | .many o as => .many o (Gf.subL f as)
def Gf.subL (f : Nat → Gf) : List Gf → List Gf
  | [] => []
  | a :: as => a.sub f :: Gf.subL f as
end
theorem Gf.subL_map {f : Nat → Gf} : ∀ as : List Gf, Gf.subL f as = as.map (Gf.sub f)
  | [] => rfl
  | a :: as => by rw [Gf.subL, Gf.subL_map as, List.map_cons]
mutual
theorem noClo_g : ∀ F : Gf, noClo F.d = true
  | .yes => rfl
  | .no => rfl
  | .on s => rfl
  | .neg a => by simp [Gf.d, noClo, noCloA, noClo_g a]
  | .thn a b => by simp [Gf.d, noClo, noCloA, noClo_g a, noClo_g b]
  | .many o as => by
    have ih := noClo_gL as
    cases o <;> simp [Gf.d, Lw.head, noClo, noCloA, ih]
theorem noClo_gL : ∀ as : List Gf, noCloA (Gf.dL as) = true
  | [] => rfl
  | a :: as => by simp [Gf.dL, noCloA, noClo_g a, noClo_gL as]
end
/-- the word of a formula that has parts, its number with it -/
def Gf.hd : Gf → List PyData
  | .neg _ => [.str "not"]
  | .thn _ _ => [.str "then"]
  | .many o _ => o.head
  | _ => []
theorem cutT {xs : List PyData} {k : Nat} : cutD (.tuple xs) none (some (k : Int)) = some (.tuple (xs.take k)) := by
  show some (PyData.tuple (cutP xs none (some (k : Int)))) = _
  rw [cut_to]
theorem with_parts_ok {F : Gf} {ds : List PyData} {Q : PyData → Prop} (hp : F.parts ≠ []) (hl : ds.length ≤ 100) (q : Q (.tuple (F.hd ++ ds))) : fn_with_parts [F.d, .list ds] Q := by
  refine gBody_of ?_
  show g_with_parts [.sh F.d, .sh (.list ds), .no] (endB .S Q)
  unfold g_with_parts
  have fin : ∀ {w : Str} {rest : List PyData} {t : Bool} {h : List PyData}, F.d = .tuple (.str w :: rest) → (w == ("most" : Str)) = t → (.str w :: rest).take (if t then 2 else 1) = h → h.length ≤ 2 → Q (.tuple (h ++ ds)) →
      wSeq (wSet 2 (wIf (wT (wB eqD (wB ixD (wVb 0) (wC (.int 0))) (wC (.str "most")))) (wSl (wVb 0) wNo (wPart (wC (.int 2)))) (wSl (wVb 0) wNo (wPart (wC (.int 1)))))) (wRet (wB addAD (wVb 2) (wU tupleD (wVb 1)))) [.sh F.d, .sh (.list ds), .no] (endB .S Q) := by
    intro w rest t h ed ht hh hl2 q
    rw [ed]
    refine st_set (d := .tuple h) (fun R r => ?_) (st_ret0 (.inl ⟨_, rfl, .inl ⟨_, rfl, _, rfl, _, if_pos (Nat.le_trans (by omega : h.length + ds.length ≤ 1000) (by decide)), q⟩⟩))
    cases t with
    | true =>
      refine ifE_t (fun K k => .inl ⟨_, rfl, _, ixD_0, _, eqs ht, _, rfl, k⟩) (.inl ⟨_, rfl, _, rfl, _, cutT (k := 2), ?_⟩)
      rw [if_pos rfl] at hh
      rw [hh]
      exact r
    | false =>
      refine ifE_f (fun K k => .inl ⟨_, rfl, _, ixD_0, _, eqs ht, _, rfl, k⟩) (.inl ⟨_, rfl, _, rfl, _, cutT (k := 1), ?_⟩)
      rw [if_neg Bool.false_ne_true] at hh
      rw [hh]
      exact r
  cases F with
  | yes | no | on s => exact absurd rfl hp
  | neg a => exact fin (w := "not") (t := false) rfl (by decide) rfl (by simp) q
  | thn a b => exact fin (w := "then") (t := false) rfl (by decide) rfl (by simp) q
  | many o as =>
    cases o with
    | and => exact fin (w := "and") (t := false) rfl (by decide) rfl (by simp) q
    | or => exact fin (w := "or") (t := false) rfl (by decide) rfl (by simp) q
    | one => exact fin (w := "one") (t := false) rfl (by decide) rfl (by simp) q
    | most k => exact fin (w := "most") (t := true) (h := [.str "most", .int k]) rfl (by decide) (by simp [Lw.head]) (by simp) q
theorem Gf.sub_parts {f : Nat → Gf} {F : Gf} (h : F.parts ≠ []) : (F.sub f).d = .tuple (F.hd ++ F.parts.map fun a => (a.sub f).d) := by
  cases F with
  | yes | no | on s => exact absurd rfl h
  | neg a => rfl
  | thn a b => rfl
  | many o as =>
    rw [Gf.sub, Gf.d, Gf.dL_map, Gf.subL_map, List.map_map]
    rfl
theorem Gf.sub_none {f : Nat → Gf} {F : Gf} (h : F.parts = []) (ho : F.isOn = false) (w : ∃ sw, F.wf sw) : F.sub f = F := by
  cases F with
  | yes | no => rfl
  | on s => cases ho
  | neg a => cases h
  | thn a b => cases h
  | many o as =>
    obtain ⟨sw, w⟩ := w
    have h : as = [] := h
    subst h
    have := w.2.1
    simp at this
theorem put_for_ok {sw n : Nat} {es : List PyData} {f : Nat → Gf} (hn : n ∈ ([0, 1] : List Nat)) (he : noCloA es = true) (hf : ∀ s, s < sw → ∀ R : PyData → Prop, R (f s).d → chi_put_for n (.int (s : Nat) :: es) R) :
    ∀ (k : Nat) (F : Gf) (Q : PyData → Prop), F.wf sw → F.dep ≤ k → Q (F.sub f).d → fn_put_for k [F.d, cloD n es] Q
  | 0, F, _, _, h, _ => by have := F.dep_pos; omega
  | k + 1, F, Q, w, h, q => by
    refine gBody_of ?_
    show g_put_for (fn_put_for k) [.sh F.d, .sh (cloD n es), .no, .no] (endB .S Q)
    unfold g_put_for
    cases ho : F.isOn with
    | true =>
      cases F with
      | on s =>
        refine st_yes (fun R r => tst_on rfl r) ?_
        exact ⟨n, es, rfl, hn, he, .inl ⟨_, rfl, _, ixD_1, rfl, rfl, hf s w _ q⟩⟩
      | _ => cases ho
    | false =>
      refine st_no (fun R r => tst_on rfl (by rw [ho]; exact r)) ?_
      refine st_setQ ⟨_, rfl, rfl, parts_g ?_⟩
      refine st_ret0 ?_
      have te : ∀ K : Bool → Prop, K (F.parts.map Gf.d).isEmpty → wT (wB eqD (wVb 2) (wLst wNil)) [.sh F.d, .sh (cloD n es), .sh (.list (F.parts.map Gf.d)), .no] K := fun K z =>
        .inl ⟨_, rfl, Nat.zero_le _, _, by unfold eqD; rw [eqvD_lst0]; rfl, _, rfl, z⟩
      by_cases hp : F.parts = []
      · refine ifE_t (fun K z => te K (by rw [hp]; exact z)) ⟨_, rfl, ?_⟩
        rw [Gf.sub_none hp ho ⟨sw, w⟩] at q
        exact q
      · refine ifE_f (fun K z => te K (by
          cases e : F.parts with
          | nil => exact absurd e hp
          | cons a as => exact z)) ?_
        refine ⟨_, rfl, _, rfl, _, rfl, _, rfl, ?_⟩
        refine (show wLc1 _ _ _ _ (F.parts.map Gf.d) _ from ?_)
        refine lc_m (F := fun a => (a.sub f).d) (fun a ha => ⟨_, rfl, fun R r => ⟨_, rfl, _, rfl, rfl, put_for_ok hn he hf k a R (Gf.parts_wf w a ha) (Gf.parts_dep h a ha) r⟩⟩) ⟨rfl, with_parts_ok hp (by have := Gf.parts_len w; rw [List.length_map]; omega) ?_⟩
        rw [← Gf.sub_parts hp]
        exact q
end K14

namespace K14
open PySem PySem.Spec PyProof.Rows L2 WL
/-! ### fixed, turned -/
def fx (a : Nat) (on : Bool) (s : Nat) : Gf := if s ≠ a then .on s else if on then .yes else .no
def tn (a : Nat) (s : Nat) : Gf := if s = a then .neg (.on s) else .on s
theorem nat_ne {a s : Nat} : neD (.int (s : Int)) (.int (a : Int)) = some (.bool (decide (s ≠ a))) := by
  have e : (!decide ((s : Int) = (a : Int))) = decide (s ≠ a) := by
    by_cases h : s = a
    · subst h; simp
    · have : ¬ (s : Int) = (a : Int) := by omega
      simp [h, this]
  rw [neD_int, e]
theorem nat_eq {a s : Nat} : eqD (.int (s : Int)) (.int (a : Int)) = some (.bool (decide (s = a))) := by
  have e : decide ((s : Int) = (a : Int)) = decide (s = a) := decide_eq_decide.mpr (by omega)
  rw [eqD_int, e]
theorem fixed_at_ok {a s : Nat} {on : Bool} {Q : PyData → Prop} (q : Q (fx a on s).d) : fn_fixed_at [.int a, .bool on, .int s] Q := by
  refine gBody_of ?_
  show g_fixed_at [.sh (.int a), .sh (.bool on), .sh (.int s)] (endB .S Q)
  unfold g_fixed_at
  by_cases h : s ≠ a
  · refine st_yes (fun R r => .inl ⟨_, rfl, .inl ⟨_, rfl, _, nat_ne, _, rfl, by rw [decide_eq_true h]; exact r⟩⟩) ⟨_, rfl, (show 2 ≤ sizeLine by decide), ?_⟩
    unfold fx at q
    rw [if_pos h] at q
    exact q
  · refine st_no (fun R r => .inl ⟨_, rfl, .inl ⟨_, rfl, _, nat_ne, _, rfl, by rw [decide_eq_false h]; exact r⟩⟩) ?_
    unfold fx at q
    rw [if_neg h] at q
    cases on with
    | true => exact ifE_t (fun K k => .inl ⟨_, rfl, _, rfl, k⟩) ⟨(show 1 ≤ sizeLine by decide), q⟩
    | false => exact ifE_f (fun K k => .inl ⟨_, rfl, _, rfl, k⟩) ⟨(show 1 ≤ sizeLine by decide), q⟩
theorem turned_at_ok {a s : Nat} {Q : PyData → Prop} (q : Q (tn a s).d) : fn_turned_at [.int a, .int s] Q := by
  refine gBody_of ?_
  show g_turned_at [.sh (.int a), .sh (.int s)] (endB .S Q)
  unfold g_turned_at
  unfold tn at q
  by_cases h : s = a
  · rw [if_pos h] at q
    exact ifE_t (fun K k => .inl ⟨_, rfl, .inl ⟨_, rfl, _, nat_eq, _, rfl, by rw [decide_eq_true h]; exact k⟩⟩) ⟨_, rfl, (show 2 ≤ sizeLine by decide), (show 2 ≤ sizeLine by decide), q⟩
  · rw [if_neg h] at q
    exact ifE_f (fun K k => .inl ⟨_, rfl, .inl ⟨_, rfl, _, nat_eq, _, rfl, by rw [decide_eq_false h]; exact k⟩⟩) ⟨_, rfl, (show 2 ≤ sizeLine by decide), q⟩
theorem check_switch_ok {sw a : Nat} {Q : PyData → Prop} (h : a < sw) (q : Q .none) : fn_check_switch [.int sw, .int a] Q := by
  refine gBody_of ?_
  show g_check_switch [.sh (.int sw), .sh (.int a)] (endB .S Q)
  unfold g_check_switch
  refine st_ok0 (fun R r => not_wT (b := true) (fun K k => ⟨_, rfl, _, rfl, rfl, is_switch_ok rfl ?_⟩) r) ⟨rfl, q⟩
  have e : inR 0 ((sw : Int) - 1) (.int (a : Int)) = true := by
    show (decide ((0 : Int) ≤ (a : Int)) && decide ((a : Int) ≤ (sw : Int) - 1)) = true
    rw [decide_eq_true (by omega), decide_eq_true (by omega)]
    rfl
  rw [e]
  exact k
theorem check_on_ok {b : Bool} {Q : PyData → Prop} (q : Q .none) : fn_check_on [.bool b] Q := by
  refine gBody_of ?_
  show g_check_on [.sh (.bool b)] (endB .S Q)
  unfold g_check_on
  exact st_ok0 (fun R r => not_wT (b := true) (fun K k => .inl ⟨_, rfl, _, rfl, k⟩) r) ⟨rfl, q⟩
section
variable {sw a : Nat} {F : Gf} {Q : PyData → Prop}
theorem fixed_ok {b : Bool} (h0 : 1 ≤ sw) (h1 : sw ≤ 12) (w : F.wf sw) (h : F.dep ≤ 8) (hz : F.sz ≤ 60) (ha : a < sw) (q : Q (F.sub (fx a b)).d) : fn_fixed_formula [.int sw, F.d, .int a, .bool b] Q := by
  refine gBody_of ?_
  show g_fixed_formula [.sh (.int sw), .sh F.d, .sh (.int a), .sh (.bool b)] (endB .S Q)
  unfold g_fixed_formula
  refine st_drop ⟨_, rfl, rfl, check_switches_ok h0 h1 (st_drop ⟨_, rfl, _, rfl, rfl, check_formula_ok w h hz (st_drop ⟨_, rfl, _, rfl, rfl, check_switch_ok ha (st_drop ⟨_, rfl, rfl, check_on_ok (st_ret0 ?_)⟩)⟩)⟩)⟩
  refine ⟨_, rfl, [.int a, .bool b], rfl, rfl, put_for_ok (sw := sw) (n := 0) (f := fx a b) (by simp) rfl (fun s hs R r => ?_) _ F _ w (by omega) ⟨noClo_g _, q⟩⟩
  exact ⟨_, rfl, _, rfl, _, rfl, rfl, fixed_at_ok r⟩
theorem turned_ok' (h0 : 1 ≤ sw) (h1 : sw ≤ 12) (w : F.wf sw) (h : F.dep ≤ 8) (hz : F.sz ≤ 60) (ha : a < sw) (q : Q (F.sub (tn a)).d) : fn_turned_formula [.int sw, F.d, .int a] Q := by
  refine gBody_of ?_
  show g_turned_formula [.sh (.int sw), .sh F.d, .sh (.int a)] (endB .S Q)
  unfold g_turned_formula
  refine st_drop ⟨_, rfl, rfl, check_switches_ok h0 h1 (st_drop ⟨_, rfl, _, rfl, rfl, check_formula_ok w h hz (st_drop ⟨_, rfl, _, rfl, rfl, check_switch_ok ha (st_ret0 ?_)⟩)⟩)⟩
  refine ⟨_, rfl, [.int a], rfl, rfl, put_for_ok (sw := sw) (n := 1) (f := tn a) (by simp) rfl (fun s hs R r => ?_) _ F _ w (by omega) ⟨noClo_g _, q⟩⟩
  exact ⟨_, rfl, _, rfl, rfl, turned_at_ok r⟩
end
end K14

namespace K14
open PySem PySem.Spec PyProof.Rows L2 WL
/-! ### mixed -/
theorem wh_stop {c : Ev → W Bool} {g : Ev → W Rs} {n : Nat} {ρ : Ev} {Q : Rs → Prop} (hc : ∀ K : Bool → Prop, K false → c ρ K) (q : Q (.nx ρ)) : wWhile c g (n + 1) ρ Q := hc _ (by rw [if_neg Bool.false_ne_true]; exact q)
theorem wh_go {c : Ev → W Bool} {g : Ev → W Rs} {n : Nat} {ρ : Ev} {Q : Rs → Prop} (hc : ∀ K : Bool → Prop, K true → c ρ K) (q : g ρ fun r => match r with
      | .nx ρ2 => wWhile c g n ρ2 Q
      | .ct ρ2 => wWhile c g n ρ2 Q
      | .bk ρ2 => Q (.nx ρ2)
      | .rt d => Q (.rt d)) : wWhile c g (n + 1) ρ Q := hc _ (by rw [if_pos rfl]; exact q)
theorem erase_perm {α : Type} : ∀ {l : List α} {k : Nat} {y : α}, l[k]? = some y → (y :: l.eraseIdx k).Perm l
  | [], k, y, h => by simp at h
  | x :: l, 0, y, h => by
    simp at h
    subst h
    exact .refl _
  | x :: l, k + 1, y, h => by
    have h : l[k]? = some y := by simpa using h
    exact (List.Perm.swap x y _).trans ((erase_perm h).cons x)
theorem mix_loop {x1 : Sl} {Q : Rs → Prop} : ∀ (m : Nat) (left acc : List PyData), left.length = m → acc.length + m ≤ 100 → (∀ es : List PyData, es.Perm (acc ++ left) → Q (.nx [.sh potD, x1, .ow [], .ow es])) →
    wWhile (wT (wB neD (wVb 2) (wLst wNil))) (wAppPop 3 2 (wCall 2 drawF (wCons (wV 0) (wCons (wU lenD (wVb 2)) wNil)))) (m + 1) [.sh potD, x1, .ow left, .ow acc] Q
  | 0, left, acc, hl, _, q => by
    have : left = [] := List.eq_nil_of_length_eq_zero hl
    subst this
    refine wh_stop (fun K k => .inr ⟨_, rfl, Nat.zero_le _, _, by unfold neD; rw [eqvD_lst0]; rfl, _, rfl, k⟩) ?_
    exact q acc (by rw [List.append_nil])
  | m + 1, left, acc, hl, ha, q => by
    have ne : left.isEmpty = false := by cases left with
      | nil => cases hl
      | cons a l => rfl
    refine wh_go (fun K k => .inr ⟨_, rfl, Nat.zero_le _, _, by unfold neD; rw [eqvD_lst0, ne]; rfl, _, rfl, k⟩) ?_
    refine ⟨acc, left, by decide, rfl, rfl, _, rfl, .inr ⟨_, rfl, _, rfl, rfl, draw_in (by omega) (by omega) fun d d0 d1 => ?_⟩⟩
    obtain ⟨k, rfl⟩ := Int.eq_ofNat_of_zero_le d0
    have hk : k < left.length := by omega
    refine ⟨k, k, left[k], rfl, rfl, List.getElem?_eq_getElem hk, by omega, Nat.lt_of_lt_of_le (by omega : acc.length < 1000) (by decide), ?_⟩
    refine mix_loop m (left.eraseIdx k) (acc ++ [left[k]]) (by rw [List.length_eraseIdx_of_lt hk]; omega) (by rw [List.length_append]; simp; omega) fun es hp => q es (hp.trans ?_)
    rw [List.append_assoc]
    exact (erase_perm (List.getElem?_eq_getElem hk)).append_left acc
theorem law_mixed_ok {ds : List PyData} {Q : PyData → Prop} (hl : ds.length ≤ 100) (q : ∀ es : List PyData, es.Perm ds → Q (.list es)) : fn_law_mixed [potD, .list ds] Q := by
  refine gBody_of ?_
  show g_law_mixed [.sh potD, .sh (.list ds), .no, .no] (endB .S Q)
  unfold g_law_mixed
  refine (show wSeq (wParF0 _ _ _) _ _ _ from .inl ⟨_, rfl, _, rfl, _, rfl, by simp, by simp, ?_⟩)
  refine (show wSeq (wWh _ _) _ _ _ from ⟨ds.length + 1, ?_⟩)
  exact mix_loop ds.length ds [] rfl (by simpa using hl) fun es hp => ⟨_, rfl, q es hp⟩
/-! ### ons -/
abbrev onsG (l : List Nat) : List Gf := l.map Gf.on
theorem law_ons_ok {l : List Nat} {Q : PyData → Prop} (q : Q (.tuple ((onsG l).map Gf.d))) : fn_law_ons [.list (natsD l)] Q := by
  refine gBody_of ?_
  show g_law_ons [.sh (.list (natsD l)), .no] (endB .S Q)
  unfold g_law_ons
  refine st_ret0 ⟨_, rfl, _, rfl, _, rfl, ?_⟩
  refine (show wLc1 _ _ _ _ (l.map fun s => PyData.int (s : Nat)) _ from ?_)
  refine lc_m (F := fun s => (Gf.on s).d) (fun s _ => ⟨_, rfl, fun R r => ⟨_, rfl, (show 2 ≤ sizeLine by decide), r⟩⟩) ⟨_, rfl, ?_⟩
  have e : l.map (fun s => (Gf.on s).d) = (onsG l).map Gf.d := by rw [List.map_map]; rfl
  rw [e]
  exact q
end K14

namespace K14
open PySem PySem.Spec PyProof.Rows L2 WL
/-! ### the end -/
theorem pow18 : powD (.int 10) (.int 18) = some (.int (10 ^ 18)) := by
  show (if CPow 10 18 then some (PyData.int (10 ^ (18 : Int).toNat)) else none) = _
  rw [if_pos (by unfold CPow; decide)]
  rfl
theorem law_pot_ok {ns : List Int} {k : Nat} {Q : PyData → Prop} (hk : k ≤ 1) (q : Q potD) : fp_law_pot [.list (ns.map PyData.int), .int k] Q := by
  refine gBody_of ?_
  show g_law_pot [.sh (.list (ns.map PyData.int)), .sh (.int (k : Int)), .no] _
  unfold g_law_pot
  have e0 : mulD (.int 937) (.int k) = some (.int (937 * k)) := mulD_int (.inl ⟨by decide, by decide⟩)
  refine st_setQ (.inl ⟨_, rfl, _, e0, _, addAD_int, ?_⟩)
  have cell : ∀ {a : PyData} {h : Ev → W Rs} {K : Rs → Prop}, (∃ c : Int, 0 ≤ c ∧ a = .int c) → (∀ c : Int, 0 ≤ c → h [.sh (.list (ns.map PyData.int)), .sh (.int (k : Int)), .sh (.int c)] K) →
      wSeq (wIf (wT (wB ltI (wVb 1) (wU lenD (wVb 0)))) (wSet 2 (wU absD (wB ixD (wVb 0) (wVb 1)))) wSkip) h [.sh (.list (ns.map PyData.int)), .sh (.int (k : Int)), .sh a] K := by
    rintro _ h K ⟨c, hc, rfl⟩ r
    by_cases hk : k < ns.length
    · have e : ixD (.list (ns.map PyData.int)) (.int k) = some (.int ns[k]) := by
        show atI (ns.map PyData.int) (k : Int) = _
        rw [atI_of (by simpa using hk)]
        simp
      refine st_yesF (fun R r => .inl ⟨_, rfl, .inl ⟨_, rfl, _, rfl, _, ltI_int, _, rfl, ?_⟩⟩) (.inl ⟨_, rfl, .inl ⟨_, rfl, _, e, _, rfl, ?_⟩⟩)
      · rw [List.length_map, decide_eq_true (by omega)]
        exact r
      · refine r _ ?_
        split <;> omega
    · refine st_no (fun R r => .inl ⟨_, rfl, .inl ⟨_, rfl, _, rfl, _, ltI_int, _, rfl, ?_⟩⟩) (r c hc)
      rw [List.length_map, decide_eq_false (by omega)]
      exact r
  refine cell ⟨_, by omega, rfl⟩ fun c hc => ?_
  have e1 : modD (.int c) (.int 2147483549) = some (.int (c % 2147483549)) := modD_int (by decide)
  have c1 : 0 ≤ c % 2147483549 := Int.emod_nonneg _ (by decide)
  have c2 : c % 2147483549 < 2147483549 := Int.emod_lt_of_pos _ (by decide)
  have e2 : mulD (.int (c % 2147483549)) (.int 40014) = some (.int (c % 2147483549 * 40014)) := mulD_int (.inr ⟨by decide, by decide⟩)
  have e3 : mulD (.int 9029) (.int k) = some (.int (9029 * k)) := mulD_int (.inl ⟨by decide, by decide⟩)
  have e4 : modD (.int (c % 2147483549 * 40014 + 9029 * k + 61)) (.int 2147483563) = some (.int ((c % 2147483549 * 40014 + 9029 * k + 61) % 2147483563)) := modD_int (by decide)
  have d1 : 0 ≤ (c % 2147483549 * 40014 + 9029 * k + 61) % 2147483563 := Int.emod_nonneg _ (by decide)
  have d2 : (c % 2147483549 * 40014 + 9029 * k + 61) % 2147483563 < 2147483563 := Int.emod_lt_of_pos _ (by decide)
  show wRet _ [.sh (.list (ns.map PyData.int)), .sh (.int (k : Int)), .sh (.int c)] _
  simp [wRet, wLst, wCons, wNil, wB, wU, wC, wVb, pow18, e1, e2, e3, e4, endB]
  refine ⟨_, _, ⟨rfl, rfl⟩, ?_, ?_, ?_, q⟩
  · split <;> omega
  · omega
  · omega
theorem law_of (h1 : ∀ Q : PyData → Prop, Q (.bool true) → fn_law_heaps_right [potD] Q) (h2 : ∀ Q : PyData → Prop, Q (.bool true) → fn_law_chain_right [potD] Q) (h3 : ∀ Q : PyData → Prop, Q (.bool true) → fn_law_great_right [potD] Q) :
    ∀ ns : List Int, ns.length ≤ 63 → fn_law [.list (ns.map PyData.int)] fun d => d = .bool true := by
  intro ns _
  refine gBody_of ?_
  show g_law [.sh (.list (ns.map PyData.int)), .no] _
  unfold g_law
  refine st_setQ ⟨_, rfl, rfl, law_pot_ok (k := 0) (by decide) ?_⟩
  refine st_ret0 (andV_t (fun K k => ⟨_, rfl, rfl, h1 K k⟩) (andV_t (fun K k => ⟨_, rfl, rfl, h2 K k⟩) ⟨_, rfl, rfl, h3 _ rfl⟩))
end K14

namespace K14
open PySem PySem.Spec PyProof.Rows L2 WL
/-! ### the chain -/
def chn : Nat → Gf
  | 0 => .on 7
  | k + 1 => .thn (.on (6 - k)) (chn k)
theorem chn_holds : ∀ a0 a1 a2 a3 a4 a5 a6 a7 : Bool, rd (oL ([a0, a1, a2, a3, a4, a5, a6, a7].map some)) (chn 7) = some (a7 || [a0, a1, a2, a3, a4, a5, a6].contains false) := by decide +kernel
theorem chn_fixed : ∀ (k : Fin 7) (a0 a1 a2 a3 a4 a5 a6 a7 : Bool), rd (oL ([a0, a1, a2, a3, a4, a5, a6, a7].map some)) ((chn 7).sub (fx k.val false)) = some true := by decide +kernel
theorem chn_turned : ∀ (k : Fin 6) (a0 a1 a2 a3 a4 a5 a6 a7 : Bool), rd (oL ([a0, a1, a2, a3, a4, a5, a6, a7].map some)) ((chn 7).sub (tn k.val)) = rd (oL (([a0, a1, a2, a3, a4, a5, a6, a7].modify k.val not).map some)) (chn 7) := by decide +kernel
theorem list8 : ∀ {l : List Bool}, l.length = 8 → ∃ a0 a1 a2 a3 a4 a5 a6 a7, l = [a0, a1, a2, a3, a4, a5, a6, a7]
  | [a0, a1, a2, a3, a4, a5, a6, a7], _ => ⟨a0, a1, a2, a3, a4, a5, a6, a7, rfl⟩
theorem chn_wf : (chn 7).wf 8 := by
  simp [chn, Gf.wf]
theorem chn_dep : (chn 7).dep = 8 := by decide +kernel
theorem chn_sz : (chn 7).sz = 15 := by decide +kernel
end K14

namespace K14
open PySem PySem.Spec PyProof.Rows L2 WL
theorem fx_facts : ∀ k : Nat, k < 7 → ((chn 7).sub (fx k false)).wf 8 ∧ ((chn 7).sub (fx k false)).dep ≤ 8 ∧ ((chn 7).sub (fx k false)).sz ≤ 60 := fun k h => by
  have h : k = 0 ∨ k = 1 ∨ k = 2 ∨ k = 3 ∨ k = 4 ∨ k = 5 ∨ k = 6 := by omega
  rcases h with rfl | rfl | rfl | rfl | rfl | rfl | rfl <;> exact ⟨by simp [chn, Gf.sub, fx, Gf.wf], by decide +kernel, by decide +kernel⟩
theorem tn_facts : ∀ k : Nat, k < 6 → ((chn 7).sub (tn k)).wf 8 ∧ ((chn 7).sub (tn k)).dep ≤ 8 ∧ ((chn 7).sub (tn k)).sz ≤ 60 := fun k h => by
  have h : k = 0 ∨ k = 1 ∨ k = 2 ∨ k = 3 ∨ k = 4 ∨ k = 5 := by omega
  rcases h with rfl | rfl | rfl | rfl | rfl | rfl <;> exact ⟨by simp [chn, Gf.sub, tn, Gf.wf], by decide +kernel, by decide +kernel⟩
def Nw (a : Sl) : Prop := a = .no ∨ ∃ d, a = .sh d
theorem chain_loop {x0 x1 : Sl} {xs : List Sl} {Q : Rs → Prop} : ∀ (m k : Nat) (x3 : Sl), Nw x3 → k + m ≤ 7 → (∀ y, Nw y → Q (.nx (x0 :: x1 :: .sh (chn (k + m)).d :: y :: xs))) →
    wLoop (WL.stN 3) (wSet 2 (wTup (wCons (wC (.str "then")) (wCons (wTup (wCons (wC (.str "on")) (wCons (wV 3) wNil))) (wCons (wV 2) wNil))))) ((List.range m).map fun i : Nat => PyData.int (6 + ((k + i : Nat) : Int) * (-1))) (x0 :: x1 :: .sh (chn k).d :: x3 :: xs) Q
  | 0, k, x3, n3, _, q => q x3 n3
  | m + 1, k, x3, _, hk, q => by
    rw [List.range_succ_eq_map, List.map_cons, List.map_map]
    refine ⟨_, rfl, ?_⟩
    refine ⟨_, rfl, (show 2 ≤ sizeLine by decide), _, rfl, (show 3 ≤ sizeLine by decide), ?_⟩
    have e : (.tuple [.str "then", .tuple [.str "on", .int (6 + ((k + 0 : Nat) : Int) * (-1))], (chn k).d] : PyData) = (chn (k + 1)).d := by
      have : (6 : Int) + ((k + 0 : Nat) : Int) * (-1) = ((6 - k : Nat) : Int) := by omega
      rw [this]
      rfl
    have ih := chain_loop (x0 := x0) (x1 := x1) (xs := xs) (Q := Q) m (k + 1) (.sh (.int (6 + ((k + 0 : Nat) : Int) * (-1)))) (.inr ⟨_, rfl⟩) (by omega) fun y ny => by
      have := q y ny
      rw [show k + 1 + m = k + (m + 1) by omega]
      exact this
    have el : (List.range m).map ((fun i : Nat => PyData.int (6 + ((k + i : Nat) : Int) * (-1))) ∘ Nat.succ) = (List.range m).map fun i : Nat => PyData.int (6 + ((k + 1 + i : Nat) : Int) * (-1)) := List.map_congr_left fun i _ => by
      show PyData.int (6 + ((k + (i + 1) : Nat) : Int) * (-1)) = PyData.int (6 + ((k + 1 + i : Nat) : Int) * (-1))
      rw [show k + (i + 1) = k + 1 + i by omega]
    rw [el]
    show wLoop _ _ _ (x0 :: x1 :: .sh (.tuple [.str "then", .tuple [.str "on", .int (6 + ((k + 0 : Nat) : Int) * (-1))], (chn k).d]) :: .sh (.int (6 + ((k + 0 : Nat) : Int) * (-1))) :: xs) Q
    rw [e]
    exact ih
theorem bools_of : ∀ {ys : List PyData}, (∀ y ∈ ys, ∃ b : Bool, y = .bool b) → ∃ l : List Bool, ys = l.map .bool ∧ l.length = ys.length
  | [], _ => ⟨[], rfl, rfl⟩
  | y :: ys, h => by
    obtain ⟨b, rfl⟩ := h y List.mem_cons_self
    obtain ⟨l, rfl, hl⟩ := bools_of fun z hz => h z (List.mem_cons_of_mem _ hz)
    exact ⟨b :: l, rfl, by simp⟩
end K14

namespace K14
open PySem PySem.Spec PyProof.Rows L2 WL
theorem ne_row {b : Bool} : neD (.list [.int 15, .int 8, .bool b]) (.list [.int 15, .int 8, .bool b]) = some (.bool false) := by cases b <;> rfl
theorem in_false {l : List Bool} : inD false (.bool false) (.tuple (l.map .bool)) = some (.bool (l.contains false)) := by
  have := in_optT (x := some false) (l := l.map some)
  rw [List.map_map] at this
  have e : (l.map some).contains (some false) = l.contains false := by
    induction l with
    | nil => rfl
    | cons b l ih => rw [List.map_cons, List.contains_cons, List.contains_cons, ih (by have := in_optT (x := some false) (l := l.map some); rw [List.map_map] at this; exact this)]; cases b <;> rfl
  rw [e] at this
  exact this
theorem chain_right_ok (Q : PyData → Prop) (q : Q (.bool true)) : fn_law_chain_right [potD] Q := by
  refine gBody_of ?_
  show g_law_chain_right [.sh potD, .no, .no, .no, .no, .no, .no, .no] (endB .S Q)
  unfold g_law_chain_right
  refine st_set (d := .int 8) (fun R r => r) (st_set (d := (chn 0).d) (fun R r => ⟨(show 2 ≤ sizeLine by decide), r⟩) ?_)
  refine (show wSeq (wFor _ _ _) _ _ _ from ⟨_, rfl, _, rfl, 6, -1, -1, 7, rfl, RgC.neg (by decide) (by decide) (by decide) (by decide), by decide, ?_⟩)
  have es : stepL 6 (-1) 7 = (List.range 7).map fun i : Nat => PyData.int (6 + ((0 + i : Nat) : Int) * (-1)) := List.map_congr_left fun i _ => by rw [Nat.zero_add]
  rw [es]
  refine chain_loop 7 0 .no (.inl rfl) (by decide) fun y ny => ?_
  have wp : wipeE [3] [.sh potD, .sh (.int 8), .sh (chn 7).d, y, .no, .no, .no, .no] = some [.sh potD, .sh (.int 8), .sh (chn 7).d, .no, .no, .no, .no, .no] := by
    rcases ny with rfl | ⟨d, rfl⟩ <;> rfl
  refine st_setQ ⟨_, rfl, _, rgn (n := 8) (by decide), _, wp, ?_⟩
  refine wLc1_any (G := fun d => ∃ b : Bool, d = .bool b) (fun d hd R r => ⟨_, rfl, ⟨_, rfl, rfl, draw_in (by decide) (by decide) fun x x0 x1 => ⟨_, gtI_int, r _ ⟨_, rfl⟩⟩⟩⟩) fun ys hl hys => ⟨_, rfl, ?_⟩
  obtain ⟨l, rfl, hl2⟩ := bools_of hys
  obtain ⟨a0, a1, a2, a3, a4, a5, a6, a7, rfl⟩ := list8 (by rw [hl2, hl, rangeL_len] : l.length = 8)
  refine st_set (d := .bool (a7 || [a0, a1, a2, a3, a4, a5, a6].contains false)) (fun R r => ?_) ?_
  · cases a7 with
    | true => exact orV_t (fun K k => .inl ⟨_, rfl, _, rfl, k⟩) r
    | false => exact orV_f (fun K k => .inl ⟨_, rfl, _, rfl, k⟩) (.inl ⟨_, rfl, _, rfl, _, cutT (k := 7), _, in_false (l := [a0, a1, a2, a3, a4, a5, a6]), r⟩)
  refine st_no (fun R r => ⟨_, rfl, rfl, size_ok (sw := 8) (by decide) (by decide) chn_wf (by decide +kernel) (by decide +kernel) ⟨_, rfl, rfl, depth_ok (sw := 8) (by decide) (by decide) chn_wf (by decide +kernel) (by decide +kernel) ⟨_, rfl, _, rfl, rfl, holds_ok (sw := 8) (l := [a0, a1, a2, a3, a4, a5, a6, a7]) (by decide) (by decide) rfl chn_wf (by decide +kernel) (by decide +kernel) ?_⟩⟩⟩) ?_
  · rw [chn_holds, chn_dep, chn_sz]
    exact ⟨(show 3 ≤ sizeLine by decide), _, rfl, (show 3 ≤ sizeLine by decide), _, ne_row, _, rfl, r⟩
  refine st_setQ ⟨_, rfl, rfl, draw_in (by decide) (by decide) fun x x0 x1 => ?_⟩
  obtain ⟨k, rfl⟩ := Int.eq_ofNat_of_zero_le x0
  have hk : k < 7 := by omega
  obtain ⟨f1, f2, f3⟩ := fx_facts k hk
  refine st_no (fun R r => ⟨_, rfl, _, rfl, rfl, fixed_ok (sw := 8) (a := k) (b := false) (by decide) (by decide) chn_wf (by decide +kernel) (by decide +kernel) (by omega) ⟨_, rfl, rfl, holds_ok (sw := 8) (l := [a0, a1, a2, a3, a4, a5, a6, a7]) (by decide) (by decide) rfl f1 f2 f3 ?_⟩⟩) ?_
  · rw [chn_fixed ⟨k, hk⟩]
    exact ⟨_, rfl, _, rfl, r⟩
  refine st_setQ ⟨_, rfl, rfl, draw_in (by decide) (by decide) fun x x0 x1 => ?_⟩
  obtain ⟨j, rfl⟩ := Int.eq_ofNat_of_zero_le x0
  have hj : j < 6 := by omega
  obtain ⟨t1, t2, t3⟩ := tn_facts j hj
  have tu := chn_turned ⟨j, hj⟩ a0 a1 a2 a3 a4 a5 a6 a7
  simp only at tu
  generalize hL : [a0, a1, a2, a3, a4, a5, a6, a7] = L at tu
  have hlen : L.length = 8 := by rw [← hL]; rfl
  have hjl : j < L.length := by omega
  refine st_set (d := chD (L.modify j not)) (fun R r => ?_) ?_
  · have e1 : cutD (chD L) none (some (j : Int)) = some (.tuple ((L.take j).map .bool)) := by
      rw [cutT, List.map_take]
    have e2 : cutD (chD L) (some ((j : Nat) + 1 : Int)) none = some (.tuple ((L.drop (j + 1)).map .bool)) := by
      show some (PyData.tuple (cutP (L.map .bool) (some ((j : Nat) + 1 : Int)) none)) = _
      rw [show ((j : Nat) : Int) + 1 = ((j + 1 : Nat) : Int) by omega, cut_from, List.map_drop]
    have e3 : ixD (chD L) (.int j) = some (.bool L[j]) := by
      show atI (L.map PyData.bool) (j : Int) = _
      exact atI_nat (by rw [List.getElem?_map, List.getElem?_eq_getElem hjl]; rfl)
    refine .inl ⟨_, rfl, .inl ⟨_, rfl, _, rfl, _, e1, .inl ⟨_, rfl, .inl ⟨_, rfl, _, e3, _, rfl, (show 1 ≤ sizeLine by decide), _, if_pos (Nat.le_trans (by simp; omega : _ ≤ 1000) (by decide)), .inl ⟨_, rfl, .inl ⟨_, rfl, _, addAD_int, _, rfl, _, e2, _, if_pos (Nat.le_trans (by simp; omega : _ ≤ 1000) (by decide)), ?_⟩⟩⟩⟩⟩⟩
    have e : chD (L.modify j not) = .tuple ((L.take j).map .bool ++ [.bool (!L[j])] ++ (L.drop (j + 1)).map .bool) := by
      show PyData.tuple _ = PyData.tuple _
      rw [List.modify_eq_take_cons_drop hjl, List.map_append, List.map_cons, List.append_assoc]
      rfl
    rw [e] at r
    exact r
  refine st_ret0 ⟨_, rfl, _, rfl, _, rfl, rfl, turned_ok' (sw := 8) (a := j) (by decide) (by decide) chn_wf (by decide +kernel) (by decide +kernel) (by omega) ⟨rfl, rfl, holds_ok (sw := 8) (l := L) (by decide) (by decide) hlen t1 t2 t3 ?_⟩⟩
  refine ⟨_, rfl, _, rfl, rfl, holds_ok (sw := 8) (l := L.modify j not) (by decide) (by decide) (by rw [List.length_modify]; exact hlen) chn_wf (by decide +kernel) (by decide +kernel) ?_⟩
  rw [tu]
  obtain ⟨b0, b1, b2, b3, b4, b5, b6, b7, eb⟩ := list8 (l := L.modify j not) (by rw [List.length_modify]; exact hlen)
  rw [eb, chn_holds]
  exact ⟨_, eqD_bool, by rw [beq_self_eq_true]; exact q⟩
end K14

namespace K14
open PySem PySem.Spec PyProof.Rows L2 WL
theorem perm_map {α β : Type} {f : α → β} {es ds : List β} (p : es.Perm ds) : ∀ l : List α, ds = l.map f → ∃ l' : List α, l'.Perm l ∧ es = l'.map f := by
  induction p with
  | nil => exact fun l e => ⟨l, .refl _, e⟩
  | cons x p ih =>
    intro l e
    cases l with
    | nil => cases e
    | cons a t =>
      rw [List.map_cons] at e
      have e2 := (List.cons.inj e).2
      obtain rfl := (List.cons.inj e).1
      obtain ⟨t', pt, rfl⟩ := ih t e2
      exact ⟨a :: t', pt.cons a, rfl⟩
  | swap x y l0 =>
    intro l e
    cases l with
    | nil => cases e
    | cons a t =>
      cases t with
      | nil => simp at e
      | cons b t =>
        rw [List.map_cons, List.map_cons] at e
        have e2 := (List.cons.inj e).2
        obtain rfl := (List.cons.inj e).1
        have e3 := (List.cons.inj e2).2
        obtain rfl := (List.cons.inj e2).1
        subst e3
        exact ⟨b :: a :: t, .swap a b t, rfl⟩
  | trans p1 p2 ih1 ih2 =>
    intro l e
    obtain ⟨l2, q2, e2⟩ := ih2 l e
    obtain ⟨l1, q1, e1⟩ := ih1 l2 e2
    exact ⟨l1, q1.trans q2, e1⟩
theorem mixed_nat {n : Nat} {Q : PyData → Prop} (hn : n ≤ 100) (q : ∀ l : List Nat, l.Perm (List.range n) → Q (.list (natsD l))) : fn_law_mixed [potD, .list (rangeL 0 n)] Q := by
  have e : rangeL 0 n = natsD (List.range n) := List.map_congr_left fun i _ => by
    show PyData.int (0 + (i : Int)) = PyData.int (i : Nat)
    rw [Int.zero_add]
  refine law_mixed_ok (by rw [rangeL_len]; exact hn) fun es hp => ?_
  rw [e] at hp
  obtain ⟨l, pl, rfl⟩ := perm_map hp (List.range n) rfl
  exact q l pl
end K14

namespace K14
open PySem PySem.Spec PyProof.Rows L2 WL
local macro_rules | `(tactic| and_intros) => `(tactic| repeat (first
  | with_reducible refine i_kS ?_ | with_reducible refine i_Seq ?_ | with_reducible refine i_C ?_
  | (with_reducible refine i_V ?_; refine ⟨_, rfl, ?_⟩) | ((first | with_reducible refine i_Vs ?_ | fail); refine ⟨_, rfl, ?_⟩) | (with_reducible refine i_Vo ?_; refine ⟨_, rfl, ?_⟩)
  | with_reducible refine i_Cons ?_ | with_reducible refine i_Nil ?_ | with_reducible refine i_B ?_ | with_reducible refine i_U ?_ | with_reducible refine i_T ?_
  | with_reducible refine i_Set ?_ | with_reducible refine i_Ret ?_ | with_reducible refine i_end ?_ | with_reducible refine i_kSr ?_
  | (with_reducible refine i_Call ?_) | (with_reducible refine i_CallK ?_) | (with_reducible refine i_CallD ?_)
  | with_reducible refine i_Tup ?_ | with_reducible refine i_Lst ?_ | with_reducible refine i_IfE ?_ | with_reducible refine i_Skip ?_ | with_reducible refine i_Drop ?_
  | with_reducible refine i_Not ?_ | with_reducible refine i_And ?_ | with_reducible refine i_Or ?_ | with_reducible refine i_AndV ?_ | with_reducible refine i_OrV ?_ | with_reducible refine i_NotV ?_
  | with_reducible refine i_SetF ?_ | with_reducible refine i_Asg ?_ | with_reducible refine i_Par ?_ | with_reducible refine i_Par3 ?_ | with_reducible refine i_ParF0 ?_ | with_reducible refine i_Frz ?_
  | with_reducible refine i_Sl ?_ | with_reducible refine i_No ?_ | with_reducible refine i_Part ?_ | with_reducible refine i_Chain ?_ | with_reducible refine i_BL ?_ | with_reducible refine i_BT ?_
  | (with_reducible refine i_App ?_; refine ⟨_, rfl, ?_⟩) | (with_reducible refine i_Ext ?_; refine ⟨_, rfl, ?_⟩) | (with_reducible refine i_Put ?_; refine ⟨_, rfl, ?_⟩) | (with_reducible refine i_RetO ?_; refine ⟨_, rfl, ?_⟩)
  | with_reducible refine i_For ?_ | with_reducible refine i_Items ?_ | with_reducible refine i_Range1 ?_ | with_reducible refine i_Range2 ?_ | with_reducible refine i_Zip ?_ | with_reducible refine i_Enum ?_ | with_reducible refine i_Lc ?_ | with_reducible refine i_Yes ?_ | with_reducible refine i_LRg ?_
  | with_reducible refine i_kL ?_ | with_reducible refine i_kLc ?_ | with_reducible refine i_kLb ?_ | with_reducible refine i_kLr ?_ | with_reducible refine i_kSc ?_ | with_reducible refine i_kSb ?_ | with_reducible refine i_endN ?_
  | with_reducible refine ⟨_, neD_str1, ?_⟩ | with_reducible refine ⟨_, eqD_str1, ?_⟩ | with_reducible refine ⟨_, eqD_int, ?_⟩ | with_reducible refine ⟨_, neD_int, ?_⟩ | with_reducible refine ⟨_, eqD_bool', ?_⟩ | with_reducible refine ⟨_, neD_bool', ?_⟩ | with_reducible refine ⟨_, eqD_strs', ?_⟩ | with_reducible refine ⟨_, neD_strs, ?_⟩ | with_reducible refine ⟨_, eqD_tup0, ?_⟩ | with_reducible refine ⟨_, neD_tup0, ?_⟩
  | with_reducible refine ⟨_, ixD_0, ?_⟩ | with_reducible refine ⟨_, ixD_1, ?_⟩ | with_reducible refine ⟨_, ixD_l0, ?_⟩ | with_reducible refine ⟨_, ixD_nat, ?_⟩
  | (with_reducible refine i_ex1 ?_; (first | refine ⟨_, rfl, ?_⟩ | refine ⟨_, _, rfl, ?_⟩ | refine ⟨_, _, rfl, rfl, ?_⟩ | refine ⟨_, _, _, rfl, rfl, ?_⟩ | refine ⟨_, _, _, rfl, ?_⟩))
  | (with_reducible refine i_it ?_; (first | refine i_t rfl ?_ | refine i_f rfl ?_))
  | (with_reducible refine i_sz ?_ ?_; focus (first | decide | (simp; done))) | (with_reducible refine i_szl ?_ ?_; focus (first | decide | (simp; done)))
  | (with_reducible refine i_cj ?_; (first | refine ⟨rfl, ?_⟩ | refine ⟨⟨_, rfl⟩, ?_⟩))))
local macro_rules | `(tactic| bv_omega) => `(tactic| repeat (first
  | with_reducible refine i_kS ?_ | with_reducible refine i_Seq ?_ | with_reducible refine i_C ?_
  | (with_reducible refine i_V ?_; refine ⟨_, rfl, ?_⟩) | ((first | with_reducible refine i_Vs ?_ | fail); refine ⟨_, rfl, ?_⟩) | (with_reducible refine i_Vo ?_; refine ⟨_, rfl, ?_⟩)
  | with_reducible refine i_Cons ?_ | with_reducible refine i_Nil ?_ | with_reducible refine i_B ?_ | with_reducible refine i_U ?_ | with_reducible refine i_T ?_
  | with_reducible refine i_Set ?_ | with_reducible refine i_Ret ?_ | with_reducible refine i_end ?_ | with_reducible refine i_kSr ?_
  | (with_reducible refine i_Call ?_) | (with_reducible refine i_CallK ?_) | (with_reducible refine i_CallD ?_)
  | with_reducible refine i_Tup ?_ | with_reducible refine i_Lst ?_ | with_reducible refine i_Skip ?_ | with_reducible refine i_Drop ?_
  | with_reducible refine i_Not ?_ | with_reducible refine i_NotV ?_
  | with_reducible refine i_SetF ?_ | with_reducible refine i_Asg ?_ | with_reducible refine i_Par ?_ | with_reducible refine i_Par3 ?_ | with_reducible refine i_ParF0 ?_ | with_reducible refine i_Frz ?_
  | with_reducible refine i_Sl ?_ | with_reducible refine i_No ?_ | with_reducible refine i_Part ?_ | with_reducible refine i_BL ?_ | with_reducible refine i_BT ?_
  | (with_reducible refine i_App ?_; refine ⟨_, rfl, ?_⟩) | (with_reducible refine i_Ext ?_; refine ⟨_, rfl, ?_⟩) | (with_reducible refine i_Put ?_; refine ⟨_, rfl, ?_⟩) | (with_reducible refine i_RetO ?_; refine ⟨_, rfl, ?_⟩)
  | with_reducible refine i_For ?_ | with_reducible refine i_Items ?_ | with_reducible refine i_Range1 ?_ | with_reducible refine i_Range2 ?_ | with_reducible refine i_Zip ?_ | with_reducible refine i_Enum ?_ | with_reducible refine i_Lc ?_ | with_reducible refine i_Yes ?_ | with_reducible refine i_LRg ?_
  | with_reducible refine i_kL ?_ | with_reducible refine i_kLc ?_ | with_reducible refine i_kLb ?_ | with_reducible refine i_kLr ?_ | with_reducible refine i_kSc ?_ | with_reducible refine i_kSb ?_ | with_reducible refine i_endN ?_
  | with_reducible refine ⟨_, neD_str1, ?_⟩ | with_reducible refine ⟨_, eqD_str1, ?_⟩ | with_reducible refine ⟨_, eqD_int, ?_⟩ | with_reducible refine ⟨_, neD_int, ?_⟩ | with_reducible refine ⟨_, eqD_bool', ?_⟩ | with_reducible refine ⟨_, neD_bool', ?_⟩ | with_reducible refine ⟨_, eqD_strs', ?_⟩ | with_reducible refine ⟨_, neD_strs, ?_⟩ | with_reducible refine ⟨_, eqD_tup0, ?_⟩ | with_reducible refine ⟨_, neD_tup0, ?_⟩
  | with_reducible refine ⟨_, ixD_0, ?_⟩ | with_reducible refine ⟨_, ixD_1, ?_⟩ | with_reducible refine ⟨_, ixD_l0, ?_⟩ | with_reducible refine ⟨_, ixD_nat, ?_⟩
  | (with_reducible refine i_ex1 ?_; (first | refine ⟨_, rfl, ?_⟩ | refine ⟨_, _, rfl, ?_⟩ | refine ⟨_, _, rfl, rfl, ?_⟩ | refine ⟨_, _, _, rfl, rfl, ?_⟩ | refine ⟨_, _, _, rfl, ?_⟩))
  | (with_reducible refine i_it ?_; (first | refine i_t rfl ?_ | refine i_f rfl ?_))
  | (with_reducible refine i_sz ?_ ?_; focus (first | decide | (simp; done))) | (with_reducible refine i_szl ?_ ?_; focus (first | decide | (simp; done)))
  | (with_reducible refine i_cj ?_; (first | refine ⟨rfl, ?_⟩ | refine ⟨⟨_, rfl⟩, ?_⟩))))
/-! ### eight of the switches: what the heaps are -/
/-- what stands at the k-th of the eight -/
def vl (m l k : Nat) : Ob := if k < m then some true else if k < m + l then none else some false
def vls (m l : Nat) : List Ob := (List.range 8).map (vl m l)
structure HRow where
  F : Gf
  due : Ob
def HRow.d (r : HRow) : PyData := .tuple [r.F.d, optD r.due]
def mostF (k : Nat) (s : List Nat) : Gf := .many (.most k) (onsG s)
def mostV (m l k : Nat) : Ob := if m > k then some false else if m + l ≤ k then some true else none
def rows3 (s : List Nat) (m l : Nat) : List HRow :=
  [⟨.many .and (onsG s), if m = 8 then some true else if m + l = 8 then none else some false⟩,
   ⟨.many .or (onsG s), if m > 0 then some true else if l > 0 then none else some false⟩,
   ⟨.many .one (onsG s), if m > 1 ∨ m + l = 0 then some false else if m = 1 ∧ l = 0 then some true else none⟩]
def rows2 (s : List Nat) (m l k : Nat) : List HRow := [⟨mostF k s, mostV m l k⟩, ⟨.neg (mostF k s), (mostV m l k).map (!·)⟩]
def rowsN (s : List Nat) (m l n : Nat) : List HRow := rows3 s m l ++ (List.range n).flatMap (rows2 s m l)
theorem vls_and : ∀ m, m < 9 → ∀ l, l < 9 - m → rAll (vls m l) = (if m = 8 then some true else if m + l = 8 then none else some false) := by decide +kernel
theorem vls_or : ∀ m, m < 9 → ∀ l, l < 9 - m → rAny (vls m l) = (if m > 0 then some true else if l > 0 then none else some false) := by decide +kernel
theorem vls_one : ∀ m, m < 9 → ∀ l, l < 9 - m → rOne (vls m l) = (if m > 1 ∨ m + l = 0 then some false else if m = 1 ∧ l = 0 then some true else none) := by decide +kernel
theorem vls_most : ∀ m, m < 9 → ∀ l, l < 9 - m → ∀ k, k < 8 → rMost k (vls m l) = mostV m l k := by decide +kernel
/-- what a row is -/
structure HRow.Ok (sw : Nat) (s : List Nat) (os : List Ob) (r : HRow) : Prop where
  wf : r.F.wf sw
  dep : r.F.dep ≤ 8
  sz : r.F.sz = 9 + (if (match r.F with | .neg _ => true | _ => false) = true then 1 else 0)
  ons : ∀ k, k ∈ r.F.ons ↔ k ∈ s
  rd : rd (oL os) r.F = r.due
theorem onsG_wf {sw : Nat} {s : List Nat} (h : ∀ k ∈ s, k < sw) : Gf.wfL sw (onsG s) := Gf.wfL_all.mpr fun a ha => by
  obtain ⟨k, hk, rfl⟩ := List.mem_map.mp ha
  exact h k hk
theorem onsG_dep {s : List Nat} : Gf.depL (onsG s) ≤ 1 := Gf.depL_le.mpr fun a ha => by
  obtain ⟨k, hk, rfl⟩ := List.mem_map.mp ha
  exact Nat.le_refl 1
theorem onsG_sz : ∀ {s : List Nat}, Gf.szL (onsG s) = s.length
  | [] => rfl
  | k :: s => by
    show 1 + Gf.szL (onsG s) = _
    rw [onsG_sz, List.length_cons]
    omega
theorem onsG_ons : ∀ {s : List Nat}, Gf.onsL (onsG s) = s
  | [] => rfl
  | k :: s => by
    show [k] ++ Gf.onsL (onsG s) = _
    rw [onsG_ons]
    rfl
theorem onsG_rd {o : Nat → Ob} : ∀ {s : List Nat}, rdL o (onsG s) = s.map o
  | [] => rfl
  | k :: s => by
    show o k :: rdL o (onsG s) = _
    rw [onsG_rd]
    rfl
section
variable {sw m l : Nat} {s : List Nat} {os : List Ob}
theorem row_many {w : Lw} {v : Ob} (hw : w.ok) (hs : s.length = 8) (hlt : ∀ k ∈ s, k < sw) (e : rW w (s.map (oL os)) = v) : HRow.Ok sw s os ⟨.many w (onsG s), v⟩ := by
  have hd := onsG_dep (s := s)
  refine ⟨⟨hw, by simp [hs], by simp [hs], onsG_wf hlt⟩, ?_, ?_, ?_, ?_⟩
  · show 1 + Gf.depL _ ≤ 8
    omega
  · show 1 + Gf.szL _ = 9 + 0
    rw [onsG_sz, hs]
  · intro k
    show k ∈ Gf.onsL (onsG s) ↔ _
    rw [onsG_ons]
  · show rW w (rdL _ _) = v
    rw [onsG_rd, e]
theorem row_neg {w : Lw} {v : Ob} (hw : w.ok) (hs : s.length = 8) (hlt : ∀ k ∈ s, k < sw) (e : rW w (s.map (oL os)) = v) : HRow.Ok sw s os ⟨.neg (.many w (onsG s)), v.map (!·)⟩ := by
  have R := row_many hw hs hlt e
  refine ⟨R.wf, ?_, ?_, R.ons, ?_⟩
  · have := onsG_dep (s := s)
    show 1 + (1 + Gf.depL _) ≤ 8
    omega
  · show 1 + (1 + Gf.szL _) = 9 + 1
    rw [onsG_sz, hs]
  · show rTurn (K14.rd _ _) = _
    rw [show K14.rd (oL os) (.many w (onsG s)) = v from R.rd]
    rfl
theorem rows_ok (hm : m < 9) (hl : l < 9 - m) (hs : s.length = 8) (hlt : ∀ k ∈ s, k < sw) (e : s.map (oL os) = vls m l) : ∀ r ∈ rowsN s m l 8, HRow.Ok sw s os r := by
  intro r hr
  rcases List.mem_append.mp hr with hr | hr
  · simp only [rows3, List.mem_cons, List.not_mem_nil, or_false] at hr
    rcases hr with rfl | rfl | rfl
    · exact row_many (w := .and) trivial hs hlt (by rw [e]; exact vls_and m hm l hl)
    · exact row_many (w := .or) trivial hs hlt (by rw [e]; exact vls_or m hm l hl)
    · exact row_many (w := .one) trivial hs hlt (by rw [e]; exact vls_one m hm l hl)
  · obtain ⟨k, hk, hr⟩ := List.mem_flatMap.mp hr
    rw [List.mem_range] at hk
    simp only [rows2, List.mem_cons, List.not_mem_nil, or_false] at hr
    rcases hr with rfl | rfl
    · exact row_many (w := .most k) (by show k ≤ 7; omega) hs hlt (by rw [e]; exact vls_most m hm l hl k hk)
    · exact row_neg (w := .most k) (by show k ≤ 7; omega) hs hlt (by rw [e]; exact vls_most m hm l hl k hk)
end
/-! ### opened: the loop that sets it -/
def pairD (p : Nat × Nat) : PyData := .tuple [.int (p.2 : Nat), .int (p.1 : Nat)]
theorem enum_nats {s : List Nat} : enumL (natsD s) = s.zipIdx.map pairD := by
  unfold enumL natsD
  rw [List.zipIdx_map, List.map_map]
  rfl
theorem zip_vals {s : List Nat} {os : List Ob} {m l : Nat} (h8 : s.length = 8) (h : ∀ p ∈ s.zipIdx, oL os p.1 = vl m l p.2) : s.map (oL os) = vls m l := by
  have e1 : s.zipIdx.map (fun p => oL os p.1) = s.zipIdx.map (fun p => vl m l p.2) := List.map_congr_left h
  have e2 : s.zipIdx.map (fun p => oL os p.1) = s.map (oL os) := by
    rw [show (fun p : Nat × Nat => oL os p.1) = oL os ∘ Prod.fst from rfl, ← List.map_map, List.zipIdx_map_fst]
  have e3 : s.zipIdx.map (fun p => vl m l p.2) = vls m l := by
    rw [show (fun p : Nat × Nat => vl m l p.2) = vl m l ∘ Prod.snd from rfl, ← List.map_map, List.zipIdx_map_snd, h8]
    rfl
  rw [← e2, e1, e3]
theorem many_d {w : Lw} {s : List Nat} : PyData.tuple (w.head ++ List.map Gf.d (onsG s)) = (Gf.many w (onsG s)).d := by
  rw [Gf.d, Gf.dL_map]
theorem op_loop {x0 x1 : Sl} {xs : List Sl} {sw m l : Nat} {s : List Nat} {os : List Ob} {R : Rs → Prop} (hx : xs.length = 9) (ho : os.length = sw) (hlt : ∀ k ∈ s, k < sw) (nd : s.Nodup) (h8 : s.length = 8)
    (q : ∀ (os : List Ob) (a b : Sl), Nw a → Nw b → os.length = sw → s.map (oL os) = vls m l → R (.nx (x0 :: x1 :: .sh (.list (natsD s)) :: .sh (.int m) :: .sh (.int l) :: .ow (os.map optD) :: a :: b :: xs))) :
    wLoop (stT [6, 7]) (wPut 5 (wVb 7) (wIf (wT (wB ltI (wVb 6) (wVb 3))) (wC (.bool true)) (wIf (wT (wB ltI (wVb 6) (wB addAD (wVb 3) (wVb 4)))) (wC .none) (wC (.bool false))))) (enumL (natsD s))
      (x0 :: x1 :: .sh (.list (natsD s)) :: .sh (.int m) :: .sh (.int l) :: .ow (os.map optD) :: .no :: .no :: xs) R := by
  rw [enum_nats]
  refine i_loop (I := fun rest ρ => ∃ (os : List Ob) (a b : Sl), Nw a ∧ Nw b ∧ os.length = sw ∧ ρ = x0 :: x1 :: .sh (.list (natsD s)) :: .sh (.int m) :: .sh (.int l) :: .ow (os.map optD) :: a :: b :: xs ∧
    ∃ done, done ++ rest = s.zipIdx ∧ ∀ p ∈ done, oL os p.1 = vl m l p.2) ?_ ?_ _ _ ⟨os, .no, .no, .inl rfl, .inl rfl, ho, rfl, [], rfl, fun p h => nomatch h⟩
  · rintro ⟨k, i⟩ rest _ ⟨os, a, b, na, nb, ho, rfl, done, hd, hv⟩
    refine ⟨_, rfl, fun K k1 k2 k3 k4 => ?_⟩
    have mem : ((k, i) : Nat × Nat) ∈ s.zipIdx := by rw [← hd]; simp
    have hk : k < sw := hlt k (List.fst_mem_of_mem_zipIdx mem)
    have fin : K (.nx (x0 :: x1 :: .sh (.list (natsD s)) :: .sh (.int m) :: .sh (.int l) :: .ow ((os.map optD).set k (optD (vl m l i))) :: .sh (.int (i : Nat)) :: .sh (.int (k : Nat)) :: xs)) := by
      refine k1 _ ⟨os.set k (vl m l i), _, _, .inr ⟨_, rfl⟩, .inr ⟨_, rfl⟩, by rw [List.length_set]; exact ho, by rw [List.map_set], done ++ [(k, i)], by rw [List.append_assoc]; exact hd, ?_⟩
      intro p hp
      have nd2 : (s.zipIdx.map Prod.fst).Nodup := by rw [List.zipIdx_map_fst]; exact nd
      rw [← hd, List.map_append, List.map_cons] at nd2
      have nd3 := (List.nodup_append.mp nd2).2.2
      rcases List.mem_append.mp hp with hp | hp
      · have ne : p.1 ≠ k := nd3 p.1 (List.mem_map_of_mem hp) k List.mem_cons_self
        rw [← hv p hp]
        unfold oL
        rw [List.getD_eq_getElem?_getD, List.getD_eq_getElem?_getD, List.getElem?_set_ne (Ne.symm ne)]
      · rw [List.mem_singleton] at hp
        subst hp
        unfold oL
        rw [List.getD_eq_getElem?_getD, List.getElem?_set_self (by omega)]
        rfl
    refine i_Put ⟨_, rfl, ?_⟩
    and_intros
    have kl : k < (os.map optD).length := by rw [List.length_map, ho]; exact hk
    refine i_b (fun h => ?_) fun h => ?_
    · have h : i < m := by simpa using h
      rw [show vl m l i = some true from if_pos h] at fin
      and_intros
      exact ⟨_, k, rfl, ixN_nat' kl, fin⟩
    · have h : ¬ i < m := by simpa using h
      and_intros
      refine i_b (fun z => ?_) fun z => ?_
      · have z : i < m + l := by simp at z; omega
        rw [show vl m l i = none from by unfold vl; rw [if_neg h, if_pos z]] at fin
        and_intros
        exact ⟨_, k, rfl, ixN_nat' kl, fin⟩
      · have z : ¬ i < m + l := by simp at z; omega
        rw [show vl m l i = some false from by unfold vl; rw [if_neg h, if_neg z]] at fin
        and_intros
        exact ⟨_, k, rfl, ixN_nat' kl, fin⟩
  · rintro _ ⟨os, a, b, na, nb, ho, rfl, done, hd, hv⟩
    rw [List.append_nil] at hd
    subst hd
    exact q os a b na nb ho (zip_vals h8 hv)
abbrev rowsD (l : List HRow) : List PyData := l.map HRow.d
theorem flat2_len {s : List Nat} {m l : Nat} : ∀ {d : List Nat}, (d.flatMap (rows2 s m l)).length = 2 * d.length
  | [] => rfl
  | k :: d => by
    rw [List.flatMap_cons, List.length_append, flat2_len, List.length_cons]
    show 2 + _ = _
    omega
/-- the rows of "most" -/
theorem most_loop {x0 x1 x2 x5 x6 x7 x10 x12 : Sl} {xs : List Sl} {m l : Nat} {s : List Nat} {R : Rs → Prop} (h8 : s.length = 8)
    (q : ∀ a b : Sl, Nw a → Nw b → R (.nx (x0 :: x1 :: x2 :: .sh (.int m) :: .sh (.int l) :: x5 :: x6 :: x7 :: .sh (.tuple (List.map Gf.d (onsG s))) :: .ow (rowsD (rowsN s m l 8)) :: x10 :: a :: x12 :: b :: xs))) :
    wLoop (WL.stN 11) (wSeq (wSet 13 (wIf (wT (wB gtI (wVb 3) (wVb 11))) (wC (.bool false)) (wIf (wT (wB leI (wB addAD (wVb 3) (wVb 4)) (wVb 11))) (wC (.bool true)) (wC .none))))
  (wSeq (wApp 9 (wTup (wCons (wB addAD (wTup (wCons (wC (.str "most")) (wCons (wV 11) wNil))) (wVb 8)) (wCons (wV 13) wNil))))
  (wApp 9 (wTup (wCons (wTup (wCons (wC (.str "not")) (wCons (wB addAD (wTup (wCons (wC (.str "most")) (wCons (wV 11) wNil))) (wVb 8)) wNil))) (wCons (wIf (wT (wB (isNonD false) (wVb 13) (wC .none))) (wC .none) (wNotV (wV 13))) wNil))))))
      (rangeL 0 8) (x0 :: x1 :: x2 :: .sh (.int m) :: .sh (.int l) :: x5 :: x6 :: x7 :: .sh (.tuple (List.map Gf.d (onsG s))) :: .ow (rowsD (rows3 s m l)) :: x10 :: .no :: x12 :: .no :: xs) R := by
  have e : rangeL 0 8 = (List.range 8).map fun i : Nat => PyData.int (i : Nat) := rfl
  rw [e]
  refine i_loop (I := fun rest ρ => ∃ (done : List Nat) (a b : Sl), Nw a ∧ Nw b ∧ done ++ rest = List.range 8 ∧ ρ = (x0 :: x1 :: x2 :: .sh (.int m) :: .sh (.int l) :: x5 :: x6 :: x7 :: .sh (.tuple (List.map Gf.d (onsG s))) :: .ow (rowsD (rows3 s m l ++ done.flatMap (rows2 s m l))) :: x10 :: a :: x12 :: b :: xs)) ?_ ?_ _ _ ⟨[], .no, .no, .inl rfl, .inl rfl, rfl, by simp⟩
  · rintro k rest _ ⟨done, a, b, na, nb, hd, rfl⟩
    refine ⟨_, rfl, fun K k1 k2 k3 k4 => ?_⟩
    refine i_Seq (i_Set (i_via (optD (mostV m l k)) (fun K kk => ?_) ?_))
    · unfold mostV at kk
      and_intros
      refine i_b (fun h => ?_) fun h => ?_
      · have h : m > k := by simp at h; omega
        and_intros
        rw [if_pos h] at kk
        exact kk
      · have h : ¬ m > k := by simp at h; omega
        rw [if_neg h] at kk
        and_intros
        refine i_b (fun z => ?_) fun z => ?_
        · have z : m + l ≤ k := by simp at z; omega
          rw [if_pos z] at kk
          and_intros
          exact kk
        · have z : ¬ m + l ≤ k := by simp at z; omega
          rw [if_neg z] at kk
          and_intros
          exact kk
    bv_omega
    refine ⟨_, addAD_tup (by simp [h8]), ?_⟩
    rw [show PyData.tuple ([PyData.str "most", .int (k : Nat)] ++ List.map Gf.d (onsG s)) = (mostF k s).d from many_d (w := .most k)]
    bv_omega
    have hdl : done.length ≤ 8 := by
      have := congrArg List.length hd
      simp at this
      omega
    have hfl : (rowsD (rows3 s m l ++ done.flatMap (rows2 s m l))).length = 3 + 2 * done.length := by
      rw [List.length_map, List.length_append, flat2_len]
      rfl
    refine i_szl (by omega) ?_
    bv_omega
    refine ⟨_, addAD_tup (by simp [h8]), ?_⟩
    rw [show PyData.tuple ([PyData.str "most", .int (k : Nat)] ++ List.map Gf.d (onsG s)) = (mostF k s).d from many_d (w := .most k)]
    bv_omega
    refine i_via (optD ((mostV m l k).map (!·))) (fun K kk => ?_) ?_
    · cases hv : mostV m l k with
      | none =>
        rw [hv] at kk
        and_intros
        exact kk
      | some b =>
        rw [hv] at kk
        and_intros
        exact kk
    bv_omega
    refine i_szl (by rw [List.length_append, hfl]; simp; omega) ?_
    refine k1 _ ⟨done ++ [k], .sh (.int (k : Nat)), .sh (optD (mostV m l k)), .inr ⟨_, rfl⟩, .inr ⟨_, rfl⟩, by rw [List.append_assoc]; exact hd, ?_⟩
    rw [List.flatMap_append, ← List.append_assoc, List.flatMap_cons, List.flatMap_nil, List.append_nil]
    show _ = x0 :: x1 :: x2 :: .sh (.int m) :: .sh (.int l) :: x5 :: x6 :: x7 :: .sh (.tuple (List.map Gf.d (onsG s))) :: .ow ((rows3 s m l ++ done.flatMap (rows2 s m l) ++ rows2 s m l k).map HRow.d) :: x10 :: .sh (.int (k : Nat)) :: x12 :: .sh (optD (mostV m l k)) :: xs
    rw [List.map_append, show (rows2 s m l k).map HRow.d = [PyData.tuple [(mostF k s).d, optD (mostV m l k)]] ++ [.tuple [.tuple [.str "not", (mostF k s).d], optD ((mostV m l k).map (!·))]] from rfl, ← List.append_assoc]
    rfl
  · rintro _ ⟨done, a, b, na, nb, hd, rfl⟩
    rw [List.append_nil] at hd
    subst hd
    exact q a b na nb
end K14

namespace K14
open PySem PySem.Spec PyProof.Rows L2 WL
local macro_rules | `(tactic| and_intros) => `(tactic| repeat (first
  | with_reducible refine i_kS ?_ | with_reducible refine i_Seq ?_ | with_reducible refine i_C ?_
  | (with_reducible refine i_V ?_; refine ⟨_, rfl, ?_⟩) | ((first | with_reducible refine i_Vs ?_ | fail); refine ⟨_, rfl, ?_⟩) | (with_reducible refine i_Vo ?_; refine ⟨_, rfl, ?_⟩)
  | with_reducible refine i_Cons ?_ | with_reducible refine i_Nil ?_ | with_reducible refine i_B ?_ | with_reducible refine i_U ?_ | with_reducible refine i_T ?_
  | with_reducible refine i_Set ?_ | with_reducible refine i_Ret ?_ | with_reducible refine i_end ?_ | with_reducible refine i_kSr ?_
  | (with_reducible refine i_Call ?_) | (with_reducible refine i_CallK ?_) | (with_reducible refine i_CallD ?_)
  | with_reducible refine i_Tup ?_ | with_reducible refine i_Lst ?_ | with_reducible refine i_IfE ?_ | with_reducible refine i_Skip ?_ | with_reducible refine i_Drop ?_
  | with_reducible refine i_Not ?_ | with_reducible refine i_And ?_ | with_reducible refine i_Or ?_ | with_reducible refine i_AndV ?_ | with_reducible refine i_OrV ?_ | with_reducible refine i_NotV ?_
  | with_reducible refine i_SetF ?_ | with_reducible refine i_Asg ?_ | with_reducible refine i_Par ?_ | with_reducible refine i_Par3 ?_ | with_reducible refine i_ParF0 ?_ | with_reducible refine i_Frz ?_
  | with_reducible refine i_Sl ?_ | with_reducible refine i_No ?_ | with_reducible refine i_Part ?_ | with_reducible refine i_Chain ?_ | with_reducible refine i_BL ?_ | with_reducible refine i_BT ?_
  | (with_reducible refine i_App ?_; refine ⟨_, rfl, ?_⟩) | (with_reducible refine i_Ext ?_; refine ⟨_, rfl, ?_⟩) | (with_reducible refine i_Put ?_; refine ⟨_, rfl, ?_⟩) | (with_reducible refine i_RetO ?_; refine ⟨_, rfl, ?_⟩)
  | with_reducible refine i_For ?_ | with_reducible refine i_Items ?_ | with_reducible refine i_Range1 ?_ | with_reducible refine i_Range2 ?_ | with_reducible refine i_Zip ?_ | with_reducible refine i_Enum ?_ | with_reducible refine i_Lc ?_ | with_reducible refine i_Yes ?_ | with_reducible refine i_LRg ?_
  | with_reducible refine i_kL ?_ | with_reducible refine i_kLc ?_ | with_reducible refine i_kLb ?_ | with_reducible refine i_kLr ?_ | with_reducible refine i_kSc ?_ | with_reducible refine i_kSb ?_ | with_reducible refine i_endN ?_
  | with_reducible refine ⟨_, neD_str1, ?_⟩ | with_reducible refine ⟨_, eqD_str1, ?_⟩ | with_reducible refine ⟨_, eqD_int, ?_⟩ | with_reducible refine ⟨_, neD_int, ?_⟩ | with_reducible refine ⟨_, eqD_bool', ?_⟩ | with_reducible refine ⟨_, neD_bool', ?_⟩ | with_reducible refine ⟨_, eqD_strs', ?_⟩ | with_reducible refine ⟨_, neD_strs, ?_⟩ | with_reducible refine ⟨_, eqD_tup0, ?_⟩ | with_reducible refine ⟨_, neD_tup0, ?_⟩
  | with_reducible refine ⟨_, ixD_0, ?_⟩ | with_reducible refine ⟨_, ixD_1, ?_⟩ | with_reducible refine ⟨_, ixD_l0, ?_⟩ | with_reducible refine ⟨_, ixD_nat, ?_⟩
  | (with_reducible refine i_ex1 ?_; (first | refine ⟨_, rfl, ?_⟩ | refine ⟨_, _, rfl, ?_⟩ | refine ⟨_, _, rfl, rfl, ?_⟩ | refine ⟨_, _, _, rfl, rfl, ?_⟩ | refine ⟨_, _, _, rfl, ?_⟩))
  | (with_reducible refine i_it ?_; (first | refine i_t rfl ?_ | refine i_f rfl ?_))
  | (with_reducible refine i_sz ?_ ?_; focus (first | decide | (simp; done))) | (with_reducible refine i_szl ?_ ?_; focus (first | decide | (simp; done)))
  | (with_reducible refine i_cj ?_; (first | refine ⟨rfl, ?_⟩ | refine ⟨⟨_, rfl⟩, ?_⟩))))
local macro_rules | `(tactic| bv_omega) => `(tactic| repeat (first
  | with_reducible refine i_kS ?_ | with_reducible refine i_Seq ?_ | with_reducible refine i_C ?_
  | (with_reducible refine i_V ?_; refine ⟨_, rfl, ?_⟩) | ((first | with_reducible refine i_Vs ?_ | fail); refine ⟨_, rfl, ?_⟩) | (with_reducible refine i_Vo ?_; refine ⟨_, rfl, ?_⟩)
  | with_reducible refine i_Cons ?_ | with_reducible refine i_Nil ?_ | with_reducible refine i_B ?_ | with_reducible refine i_U ?_ | with_reducible refine i_T ?_
  | with_reducible refine i_Set ?_ | with_reducible refine i_Ret ?_ | with_reducible refine i_end ?_ | with_reducible refine i_kSr ?_
  | (with_reducible refine i_Call ?_) | (with_reducible refine i_CallK ?_) | (with_reducible refine i_CallD ?_)
  | with_reducible refine i_Tup ?_ | with_reducible refine i_Lst ?_ | with_reducible refine i_Skip ?_ | with_reducible refine i_Drop ?_
  | with_reducible refine i_Not ?_ | with_reducible refine i_NotV ?_
  | with_reducible refine i_SetF ?_ | with_reducible refine i_Asg ?_ | with_reducible refine i_Par ?_ | with_reducible refine i_Par3 ?_ | with_reducible refine i_ParF0 ?_ | with_reducible refine i_Frz ?_
  | with_reducible refine i_Sl ?_ | with_reducible refine i_No ?_ | with_reducible refine i_Part ?_ | with_reducible refine i_BL ?_ | with_reducible refine i_BT ?_
  | (with_reducible refine i_App ?_; refine ⟨_, rfl, ?_⟩) | (with_reducible refine i_Ext ?_; refine ⟨_, rfl, ?_⟩) | (with_reducible refine i_Put ?_; refine ⟨_, rfl, ?_⟩) | (with_reducible refine i_RetO ?_; refine ⟨_, rfl, ?_⟩)
  | with_reducible refine i_For ?_ | with_reducible refine i_Items ?_ | with_reducible refine i_Range1 ?_ | with_reducible refine i_Range2 ?_ | with_reducible refine i_Zip ?_ | with_reducible refine i_Enum ?_ | with_reducible refine i_Lc ?_ | with_reducible refine i_Yes ?_ | with_reducible refine i_LRg ?_
  | with_reducible refine i_kL ?_ | with_reducible refine i_kLc ?_ | with_reducible refine i_kLb ?_ | with_reducible refine i_kLr ?_ | with_reducible refine i_kSc ?_ | with_reducible refine i_kSb ?_ | with_reducible refine i_endN ?_
  | with_reducible refine ⟨_, neD_str1, ?_⟩ | with_reducible refine ⟨_, eqD_str1, ?_⟩ | with_reducible refine ⟨_, eqD_int, ?_⟩ | with_reducible refine ⟨_, neD_int, ?_⟩ | with_reducible refine ⟨_, eqD_bool', ?_⟩ | with_reducible refine ⟨_, neD_bool', ?_⟩ | with_reducible refine ⟨_, eqD_strs', ?_⟩ | with_reducible refine ⟨_, neD_strs, ?_⟩ | with_reducible refine ⟨_, eqD_tup0, ?_⟩ | with_reducible refine ⟨_, neD_tup0, ?_⟩
  | with_reducible refine ⟨_, ixD_0, ?_⟩ | with_reducible refine ⟨_, ixD_1, ?_⟩ | with_reducible refine ⟨_, ixD_l0, ?_⟩ | with_reducible refine ⟨_, ixD_nat, ?_⟩
  | (with_reducible refine i_ex1 ?_; (first | refine ⟨_, rfl, ?_⟩ | refine ⟨_, _, rfl, ?_⟩ | refine ⟨_, _, rfl, rfl, ?_⟩ | refine ⟨_, _, _, rfl, rfl, ?_⟩ | refine ⟨_, _, _, rfl, ?_⟩))
  | (with_reducible refine i_it ?_; (first | refine i_t rfl ?_ | refine i_f rfl ?_))
  | (with_reducible refine i_sz ?_ ?_; focus (first | decide | (simp; done))) | (with_reducible refine i_szl ?_ ?_; focus (first | decide | (simp; done)))
  | (with_reducible refine i_cj ?_; (first | refine ⟨rfl, ?_⟩ | refine ⟨⟨_, rfl⟩, ?_⟩))))
theorem cutN {s : List Nat} {k : Nat} : cutP (natsD s) none (some (k : Int)) = natsD (s.take k) := by
  rw [cut_to]
  unfold natsD
  rw [List.map_take]
theorem obs_of : ∀ {ys : List PyData}, (∀ y ∈ ys, ∃ b : Ob, y = optD b) → ∃ l : List Ob, ys = l.map optD ∧ l.length = ys.length
  | [], _ => ⟨[], rfl, rfl⟩
  | y :: ys, h => by
    obtain ⟨b, rfl⟩ := h y List.mem_cons_self
    obtain ⟨l, rfl, hl⟩ := obs_of fun z hz => h z (List.mem_cons_of_mem _ hz)
    exact ⟨b :: l, rfl, by simp⟩
/-- a row, looked at -/
def g_row : Ev → W Rs := (wSeq (wFrz [5] (wSet 14 (wCallK 0 3 [2, 1, 0] fn_read_open wNil (wCons (wV 5) (wCons (wV 12) (wCons (wV 1) wNil))))))
  (wSeq (wFrz [5] (wIf (wT (wB neD (wU reprD (wLst (wCons (wCall 3 fn_read_open (wCons (wV 1) (wCons (wV 12) (wCons (wV 5) wNil)))) (wCons (wV 14) wNil)))) (wU reprD (wLst (wCons (wV 13) (wCons (wV 13) wNil)))))) (wRet (wC (.bool false))) wSkip))
  (wSeq (wIf (wT (wB neD (wLst (wCons (wCall 2 fn_size (wCons (wV 1) (wCons (wV 12) wNil))) (wCons (wCall 2 fn_named (wCons (wV 1) (wCons (wV 12) wNil))) wNil))) (wLst (wCons (wB addAD (wC (.int 9)) (wU intD (wB eqD (wB ixD (wVb 12) (wC (.int 0))) (wC (.str "not"))))) (wCons (wU sortD (wVb 2)) wNil))))) (wRet (wC (.bool false))) wSkip)
  (wSeq (wFrz [5] (wSet 15 (wU tupleD (wLc [16] (wItems (wV 5)) (WL.stN 16) wYes (wB (isBD false) (wVb 16) (wC (.bool true)))))))
  (wIf (wAnd (wT (wB eqD (wVb 4) (wC (.int 0)))) (wAnd (wT (wB (inD true) (wC .none) (wVb 5))) (wT (wB neD (wU reprD (wCall 3 fn_holds (wCons (wV 1) (wCons (wV 12) (wCons (wV 15) wNil))))) (wU reprD (wVb 13)))))) (wRet (wC (.bool false))) wSkip)))))
theorem pair_same {n : Int} {l : List Int} : neD (.list [.int n, .list (l.map .int)]) (.list [.int n, .list (l.map .int)]) = some (.bool false) :=
  neD_same' (D := 2) (cq_list fun d hd => by
    simp only [List.mem_cons, List.not_mem_nil, or_false] at hd
    rcases hd with rfl | rfl
    · exact cq_int
    · exact cq_list (D := 0) fun d hd => by
        obtain ⟨i, _, rfl⟩ := List.mem_map.mp hd
        exact cq_int) (by decide)
def Gf.isNeg : Gf → Bool
  | .neg _ => true
  | _ => false
theorem head_not (F : Gf) : ∃ w rest, F.d = .tuple (.str w :: rest) ∧ (w == ("not" : Str)) = F.isNeg := by
  cases F with
  | many o as => cases o <;> exact ⟨_, _, rfl, by show _ = false; decide +kernel⟩
  | neg a => exact ⟨_, _, rfl, by show _ = true; decide +kernel⟩
  | _ => exact ⟨_, _, rfl, by show _ = false; decide +kernel⟩
theorem notIn_opt {x : Ob} {l : List Ob} : inD true (optD x) (.tuple (l.map optD)) = some (.bool (!l.contains x)) := by
  show (if (flatD (optD x) && (l.map optD).all flatD) = true then some (PyData.bool (!inF (optD x) (l.map optD))) else none) = _
  rw [flat_opt, flat_opts, inF_opt]
  rfl
theorem all_told : ∀ {os : List Ob}, os.contains none = false → (os.map (· == some true)).map some = os
  | [], _ => rfl
  | o :: os, h => by
    rw [List.contains_cons, Bool.or_eq_false_iff] at h
    rw [List.map_cons, List.map_cons, all_told h.2]
    rcases o with _ | _ | _
    · cases h.1
    · rfl
    · rfl
theorem natsD_int {s : List Nat} : natsD s = (s.map fun n : Nat => (n : Int)).map .int := by
  unfold natsD
  rw [List.map_map]
  rfl
theorem row_right {x0 x6 x7 x8 x9 x10 x11 x14 x15 : Sl} {sw m l : Nat} {s : List Nat} {os : List Ob} {r : HRow} {R : Rs → Prop} (h1 : 1 ≤ sw) (h2' : sw ≤ 12) (ho : os.length = sw) (nd : s.Nodup) (hr : r.Ok sw s os)
    (q : ∀ a b : PyData, R (.nx [x0, .sh (.int sw), .sh (.list (natsD s)), .sh (.int m), .sh (.int l), .sh (opD os), x6, x7, x8, x9, x10, x11, .sh r.F.d, .sh (optD r.due), .sh a, .sh b, .no])) :
    g_row [x0, .sh (.int sw), .sh (.list (natsD s)), .sh (.int m), .sh (.int l), .sh (opD os), x6, x7, x8, x9, x10, x11, .sh r.F.d, .sh (optD r.due), x14, x15, .no] R := by
  unfold g_row
  bv_omega
  have hz : r.F.sz = 9 + (if r.F.isNeg = true then 1 else 0) := by
    rw [hr.sz]
    cases r.F <;> rfl
  have hz2 : r.F.sz ≤ 60 := by rw [hz]; split <;> omega
  refine read_open_ok h1 h2' ho hr.wf hr.dep hz2 ?_
  rw [hr.rd]
  bv_omega
  refine i_IfE ?_
  bv_omega
  refine read_open_ok h1 h2' ho hr.wf hr.dep hz2 ?_
  rw [hr.rd]
  bv_omega
  refine ⟨_, repr_two, ?_⟩
  bv_omega
  refine ⟨_, repr_two, ?_⟩
  bv_omega
  refine i_IfE ?_
  bv_omega
  refine size_ok h1 h2' hr.wf hr.dep hz2 ?_
  bv_omega
  refine named_ok h1 h2' hr.wf hr.dep hz2 fun out so mo => ?_
  bv_omega
  obtain ⟨w, rest, ed, ew⟩ := head_not r.F
  rw [ed]
  bv_omega
  refine ⟨_, (by rw [natsD_int]; exact sortD_int), ?_⟩
  have ndI : (s.map fun n : Nat => (n : Int)).Nodup := List.Pairwise.map _ (fun a b (h : a ≠ b) => fun (e : ((a : Nat) : Int) = ((b : Nat) : Int)) => h (by omega)) nd
  have eo : (s.map fun n : Nat => (n : Int)).mergeSort (fun a b => decide (a ≤ b)) = out := (sorted_same so sortI_sorted (sortI_perm.nodup_iff.mpr ndI) fun k => by
    rw [mo, sortI_perm.mem_iff, List.mem_map, List.mem_map]
    constructor
    · rintro ⟨n, hn, rfl⟩
      exact ⟨n, (hr.ons n).mp hn, rfl⟩
    · rintro ⟨n, hn, rfl⟩
      exact ⟨n, (hr.ons n).mpr hn, rfl⟩).symm
  have es : ((9 : Int) + if (w == ("not" : Str)) = true then 1 else 0) = (r.F.sz : Int) := by
    rw [ew, hz]
    cases r.F.isNeg <;> rfl
  rw [eo, es]
  bv_omega
  refine ⟨_, pair_same, ?_⟩
  bv_omega
  refine i_map (f := optD) (F := fun x => .bool (x == some true)) (fun x _ => ⟨_, rfl, fun R k => ?_⟩) ?_
  · bv_omega
    rw [show (if false = true then !isB true (optD x) else isB true (optD x)) = (x == some true) from by rcases x with _ | _ | _ <;> rfl]
    exact k
  bv_omega
  rw [show os.map (fun x => PyData.bool (x == some true)) = (os.map (· == some true)).map .bool from by rw [List.map_map]; rfl]
  rw [← ed]
  have fin : ∀ a b : PyData, R (.nx [x0, .sh (.int sw), .sh (.list (natsD s)), .sh (.int m), .sh (.int l), .sh (opD os), x6, x7, x8, x9, x10, x11, .sh r.F.d, .sh (optD r.due), .sh a, .sh b, .no]) := q
  refine i_IfE ?_
  and_intros
  refine i_b (fun h => ?_) fun h => ?_
  · and_intros
    refine ⟨_, notIn_opt (x := none), ?_⟩
    and_intros
    refine i_b (fun h2 => ?_) fun h2 => ?_
    · have e := all_told (os := os) (by simpa using h2)
      and_intros
      refine holds_ok (l := os.map (· == some true)) h1 h2' (by rw [List.length_map]; exact ho) hr.wf hr.dep hz2 ?_
      rw [e, hr.rd]
      and_intros
      refine ⟨_, repr_opt, ?_⟩
      and_intros
      refine ⟨_, repr_opt, ?_⟩
      and_intros
      exact fin _ _
    · and_intros
      exact fin _ _
  · and_intros
    exact fin _ _
theorem heaps_right_ok (Q : PyData → Prop) (q : Q (.bool true)) : fn_law_heaps_right [potD] Q := by
  refine i_fn ?_
  unfold g_law_heaps_right
  and_intros
  refine draw_in (by decide) (by decide) fun x x0 x1 => ?_
  obtain ⟨x, rfl⟩ := Int.eq_ofNat_of_zero_le x0
  refine ⟨.int ((8 + x : Nat) : Int), rfl, ?_⟩
  generalize hsw : 8 + x = sw
  have hsw1 : 8 ≤ sw := by omega
  have hsw2 : sw ≤ 12 := by omega
  and_intros
  refine ⟨by omega, ?_⟩
  and_intros
  refine mixed_nat (by omega) fun p hp => ?_
  and_intros
  rw [show cutP (natsD p) none (some 8) = natsD (p.take 8) from cutN (k := 8)]
  have hs8 : (p.take 8).length = 8 := by rw [List.length_take, hp.length_eq, List.length_range]; omega
  have hlt : ∀ k ∈ p.take 8, k < sw := fun k hk => by
    have := hp.mem_iff.mp (List.mem_of_mem_take hk)
    simpa using this
  have nd : (p.take 8).Nodup := (hp.nodup_iff.mpr List.nodup_range).sublist (List.take_sublist 8 p)
  generalize p.take 8 = s at hs8 hlt nd
  refine draw_in (by decide) (by decide) fun y y0 y1 => ?_
  obtain ⟨m, rfl⟩ := Int.eq_ofNat_of_zero_le y0
  have hm : m < 9 := by omega
  and_intros
  refine draw_in (by omega) (by omega) fun y y0 y1 => ?_
  obtain ⟨l, rfl⟩ := Int.eq_ofNat_of_zero_le y0
  have hl : l < 9 - m := by omega
  and_intros
  refine ⟨_, rgn (n := sw) (by omega), ?_⟩
  and_intros
  refine wLc1_any (G := fun d => ∃ b : Ob, d = optD b) (fun d hd R r => ⟨_, rfl, ?_⟩) fun ys hlen hys => ?_
  · and_intros
    refine law_pick_ok (by simp) (by simp) fun d hd => r d ?_
    simp only [List.mem_cons, List.not_mem_nil, or_false] at hd
    rcases hd with rfl | rfl | rfl
    · exact ⟨some true, rfl⟩
    · exact ⟨some false, rfl⟩
    · exact ⟨none, rfl⟩
  obtain ⟨os0, rfl, ho0⟩ := obs_of hys
  have ho : os0.length = sw := by rw [ho0, hlen, rangeL_len]
  and_intros
  refine i_sz (by simp [natsD, hs8]) ?_
  refine op_loop (xs := [.no, .no, .no, .no, .no, .no, .no, .no, .no]) rfl ho hlt nd hs8 fun os a b na nb ho hv => ?_
  clear ho0 hlen hys
  and_intros
  refine law_ons_ok ?_
  and_intros
  refine ⟨_, addAD_tup (by simp [hs8]), ?_⟩
  bv_omega
  refine (i_via (optD (if m = 8 then some true else if m + l = 8 then none else some false)) (fun K k => ?_) ?_)
  · and_intros
    refine i_b (fun h => ?_) fun h => ?_
    · have h : m = 8 := by simp at h; omega
      and_intros
      rw [if_pos h] at k
      exact k
    · have h : ¬ m = 8 := by simp at h; omega
      rw [if_neg h] at k
      and_intros
      refine i_b (fun z => ?_) fun z => ?_
      · have z : m + l = 8 := by simp at z; omega
        rw [if_pos z] at k
        and_intros
        exact k
      · have z : ¬ m + l = 8 := by simp at z; omega
        rw [if_neg z] at k
        and_intros
        exact k
  and_intros
  refine ⟨_, addAD_tup (by simp [hs8]), ?_⟩
  bv_omega
  refine (i_via (optD (if m > 0 then some true else if l > 0 then none else some false)) (fun K k => ?_) ?_)
  · and_intros
    refine i_b (fun h => ?_) fun h => ?_
    · have h : m > 0 := by simp at h; omega
      and_intros
      rw [if_pos h] at k
      exact k
    · have h : ¬ m > 0 := by simp at h; omega
      rw [if_neg h] at k
      and_intros
      refine i_b (fun z => ?_) fun z => ?_
      · have z : l > 0 := by simp at z; omega
        rw [if_pos z] at k
        and_intros
        exact k
      · have z : ¬ l > 0 := by simp at z; omega
        rw [if_neg z] at k
        and_intros
        exact k
  bv_omega
  refine i_via (.bool (decide (m > 1 ∨ m + l = 0))) (fun K k => ?_) ?_
  · and_intros
    refine i_b (fun h => ?_) fun h => ?_
    · have h : m > 1 := by simp at h; omega
      rw [decide_eq_true (.inl h)] at k
      exact k
    · have h : ¬ m > 1 := by simp at h; omega
      and_intros
      rw [show decide (m > 1 ∨ m + l = 0) = decide ((m : Int) + (l : Int) = 0) from decide_eq_decide.mpr (by omega)] at k
      exact k
  bv_omega
  refine ⟨_, addAD_tup (by simp [hs8]), ?_⟩
  bv_omega
  refine (i_via (optD (if m > 1 ∨ m + l = 0 then some false else if m = 1 ∧ l = 0 then some true else none)) (fun K k => ?_) ?_)
  · and_intros
    refine i_b (fun h => ?_) fun h => ?_
    · have h : m > 1 ∨ m + l = 0 := by simpa using h
      and_intros
      rw [if_pos h] at k
      exact k
    · have h : ¬ (m > 1 ∨ m + l = 0) := by simpa using h
      rw [if_neg h] at k
      and_intros
      refine i_b (fun z => ?_) fun z => ?_
      · have z : m = 1 := by simp at z; omega
        and_intros
        refine i_b (fun y => ?_) fun y => ?_
        · have y : l = 0 := by simp at y; omega
          rw [if_pos ⟨z, y⟩] at k
          and_intros
          exact k
        · have y : ¬ l = 0 := by simp at y; omega
          rw [if_neg (fun c => y c.2)] at k
          and_intros
          exact k
      · have z : ¬ m = 1 := by simp at z; omega
        rw [if_neg (fun c => z c.1)] at k
        and_intros
        exact k
  bv_omega
  rw [show PyData.tuple ([PyData.str "and"] ++ List.map Gf.d (onsG s)) = (Gf.many .and (onsG s)).d from many_d (w := .and),
    show PyData.tuple ([PyData.str "or"] ++ List.map Gf.d (onsG s)) = (Gf.many .or (onsG s)).d from many_d (w := .or),
    show PyData.tuple ([PyData.str "one"] ++ List.map Gf.d (onsG s)) = (Gf.many .one (onsG s)).d from many_d (w := .one)]
  refine most_loop (m := m) (l := l) (s := s) hs8 fun c d nc nd' => ?_
  have hok := rows_ok hm hl hs8 hlt hv
  generalize rowsN s m l 8 = rows at hok
  bv_omega
  refine i_loop (I := fun rest ρ => (∀ r ∈ rest, HRow.Ok sw s os r) ∧ ∃ x12 x13 x14 x15 : Sl, ρ = [Sl.sh potD, .sh (.int sw), .sh (.list (natsD s)), .sh (.int m), .sh (.int l), .sh (opD os), a, b, .sh (.tuple (List.map Gf.d (onsG s))), .sh (.list (rowsD rows)), .sh (.bool (decide (m > 1 ∨ m + l = 0))), c, x12, x13, x14, x15, .no]) ?_ ?_ _ _ ⟨hok, _, _, _, _, rfl⟩
  · rintro r rest _ ⟨hok, x12, x13, x14, x15, rfl⟩
    refine ⟨_, rfl, fun K k1 k2 k3 k4 => ?_⟩
    refine row_right (r := r) (by omega) hsw2 ho nd (hok r List.mem_cons_self) fun u v => k1 _ ⟨fun y hy => hok y (List.mem_cons_of_mem _ hy), _, _, _, _, rfl⟩
  · rintro _ ⟨_, x12, x13, x14, x15, rfl⟩
    and_intros
    exact q
end K14

namespace K14
open PySem PySem.Spec PyProof.Rows L2 WL
local macro_rules | `(tactic| and_intros) => `(tactic| repeat (first
  | with_reducible refine i_kS ?_ | with_reducible refine i_Seq ?_ | with_reducible refine i_C ?_
  | (with_reducible refine i_V ?_; refine ⟨_, rfl, ?_⟩) | ((first | with_reducible refine i_Vs ?_ | fail); refine ⟨_, rfl, ?_⟩) | (with_reducible refine i_Vo ?_; refine ⟨_, rfl, ?_⟩)
  | with_reducible refine i_Cons ?_ | with_reducible refine i_Nil ?_ | with_reducible refine i_B ?_ | with_reducible refine i_U ?_ | with_reducible refine i_T ?_
  | with_reducible refine i_Set ?_ | with_reducible refine i_Ret ?_ | with_reducible refine i_end ?_ | with_reducible refine i_kSr ?_
  | (with_reducible refine i_Call ?_) | (with_reducible refine i_CallK ?_) | (with_reducible refine i_CallD ?_)
  | with_reducible refine i_Tup ?_ | with_reducible refine i_Lst ?_ | with_reducible refine i_IfE ?_ | with_reducible refine i_Skip ?_ | with_reducible refine i_Drop ?_
  | with_reducible refine i_Not ?_ | with_reducible refine i_And ?_ | with_reducible refine i_Or ?_ | with_reducible refine i_AndV ?_ | with_reducible refine i_OrV ?_ | with_reducible refine i_NotV ?_
  | with_reducible refine i_SetF ?_ | with_reducible refine i_Asg ?_ | with_reducible refine i_Par ?_ | with_reducible refine i_Par3 ?_ | with_reducible refine i_ParF0 ?_ | with_reducible refine i_Frz ?_
  | with_reducible refine i_Sl ?_ | with_reducible refine i_No ?_ | with_reducible refine i_Part ?_ | with_reducible refine i_Chain ?_ | with_reducible refine i_BL ?_ | with_reducible refine i_BT ?_
  | (with_reducible refine i_App ?_; refine ⟨_, rfl, ?_⟩) | (with_reducible refine i_Ext ?_; refine ⟨_, rfl, ?_⟩) | (with_reducible refine i_Put ?_; refine ⟨_, rfl, ?_⟩) | (with_reducible refine i_RetO ?_; refine ⟨_, rfl, ?_⟩)
  | with_reducible refine i_For ?_ | with_reducible refine i_Items ?_ | with_reducible refine i_Range1 ?_ | with_reducible refine i_Range2 ?_ | with_reducible refine i_Zip ?_ | with_reducible refine i_Enum ?_ | with_reducible refine i_Lc ?_ | with_reducible refine i_Yes ?_ | with_reducible refine i_LRg ?_
  | with_reducible refine i_kL ?_ | with_reducible refine i_kLc ?_ | with_reducible refine i_kLb ?_ | with_reducible refine i_kLr ?_ | with_reducible refine i_kSc ?_ | with_reducible refine i_kSb ?_ | with_reducible refine i_endN ?_
  | with_reducible refine ⟨_, neD_str1, ?_⟩ | with_reducible refine ⟨_, eqD_str1, ?_⟩ | with_reducible refine ⟨_, eqD_int, ?_⟩ | with_reducible refine ⟨_, neD_int, ?_⟩ | with_reducible refine ⟨_, eqD_bool', ?_⟩ | with_reducible refine ⟨_, neD_bool', ?_⟩ | with_reducible refine ⟨_, eqD_strs', ?_⟩ | with_reducible refine ⟨_, neD_strs, ?_⟩ | with_reducible refine ⟨_, eqD_tup0, ?_⟩ | with_reducible refine ⟨_, neD_tup0, ?_⟩
  | with_reducible refine ⟨_, ixD_0, ?_⟩ | with_reducible refine ⟨_, ixD_1, ?_⟩ | with_reducible refine ⟨_, ixD_l0, ?_⟩ | with_reducible refine ⟨_, ixD_nat, ?_⟩
  | (with_reducible refine i_ex1 ?_; (first | refine ⟨_, rfl, ?_⟩ | refine ⟨_, _, rfl, ?_⟩ | refine ⟨_, _, rfl, rfl, ?_⟩ | refine ⟨_, _, _, rfl, rfl, ?_⟩ | refine ⟨_, _, _, rfl, ?_⟩))
  | (with_reducible refine i_it ?_; (first | refine i_t rfl ?_ | refine i_f rfl ?_))
  | (with_reducible refine i_sz ?_ ?_; focus (first | decide | (simp; done))) | (with_reducible refine i_szl ?_ ?_; focus (first | decide | (simp; done)))
  | (with_reducible refine i_cj ?_; (first | refine ⟨rfl, ?_⟩ | refine ⟨⟨_, rfl⟩, ?_⟩))))
local macro_rules | `(tactic| bv_omega) => `(tactic| repeat (first
  | with_reducible refine i_kS ?_ | with_reducible refine i_Seq ?_ | with_reducible refine i_C ?_
  | (with_reducible refine i_V ?_; refine ⟨_, rfl, ?_⟩) | ((first | with_reducible refine i_Vs ?_ | fail); refine ⟨_, rfl, ?_⟩) | (with_reducible refine i_Vo ?_; refine ⟨_, rfl, ?_⟩)
  | with_reducible refine i_Cons ?_ | with_reducible refine i_Nil ?_ | with_reducible refine i_B ?_ | with_reducible refine i_U ?_ | with_reducible refine i_T ?_
  | with_reducible refine i_Set ?_ | with_reducible refine i_Ret ?_ | with_reducible refine i_end ?_ | with_reducible refine i_kSr ?_
  | (with_reducible refine i_Call ?_) | (with_reducible refine i_CallK ?_) | (with_reducible refine i_CallD ?_)
  | with_reducible refine i_Tup ?_ | with_reducible refine i_Lst ?_ | with_reducible refine i_Skip ?_ | with_reducible refine i_Drop ?_
  | with_reducible refine i_Not ?_ | with_reducible refine i_NotV ?_
  | with_reducible refine i_SetF ?_ | with_reducible refine i_Asg ?_ | with_reducible refine i_Par ?_ | with_reducible refine i_Par3 ?_ | with_reducible refine i_ParF0 ?_ | with_reducible refine i_Frz ?_
  | with_reducible refine i_Sl ?_ | with_reducible refine i_No ?_ | with_reducible refine i_Part ?_ | with_reducible refine i_BL ?_ | with_reducible refine i_BT ?_
  | (with_reducible refine i_App ?_; refine ⟨_, rfl, ?_⟩) | (with_reducible refine i_Ext ?_; refine ⟨_, rfl, ?_⟩) | (with_reducible refine i_Put ?_; refine ⟨_, rfl, ?_⟩) | (with_reducible refine i_RetO ?_; refine ⟨_, rfl, ?_⟩)
  | with_reducible refine i_For ?_ | with_reducible refine i_Items ?_ | with_reducible refine i_Range1 ?_ | with_reducible refine i_Range2 ?_ | with_reducible refine i_Zip ?_ | with_reducible refine i_Enum ?_ | with_reducible refine i_Lc ?_ | with_reducible refine i_Yes ?_ | with_reducible refine i_LRg ?_
  | with_reducible refine i_kL ?_ | with_reducible refine i_kLc ?_ | with_reducible refine i_kLb ?_ | with_reducible refine i_kLr ?_ | with_reducible refine i_kSc ?_ | with_reducible refine i_kSb ?_ | with_reducible refine i_endN ?_
  | with_reducible refine ⟨_, neD_str1, ?_⟩ | with_reducible refine ⟨_, eqD_str1, ?_⟩ | with_reducible refine ⟨_, eqD_int, ?_⟩ | with_reducible refine ⟨_, neD_int, ?_⟩ | with_reducible refine ⟨_, eqD_bool', ?_⟩ | with_reducible refine ⟨_, neD_bool', ?_⟩ | with_reducible refine ⟨_, eqD_strs', ?_⟩ | with_reducible refine ⟨_, neD_strs, ?_⟩ | with_reducible refine ⟨_, eqD_tup0, ?_⟩ | with_reducible refine ⟨_, neD_tup0, ?_⟩
  | with_reducible refine ⟨_, ixD_0, ?_⟩ | with_reducible refine ⟨_, ixD_1, ?_⟩ | with_reducible refine ⟨_, ixD_l0, ?_⟩ | with_reducible refine ⟨_, ixD_nat, ?_⟩
  | (with_reducible refine i_ex1 ?_; (first | refine ⟨_, rfl, ?_⟩ | refine ⟨_, _, rfl, ?_⟩ | refine ⟨_, _, rfl, rfl, ?_⟩ | refine ⟨_, _, _, rfl, rfl, ?_⟩ | refine ⟨_, _, _, rfl, ?_⟩))
  | (with_reducible refine i_it ?_; (first | refine i_t rfl ?_ | refine i_f rfl ?_))
  | (with_reducible refine i_sz ?_ ?_; focus (first | decide | (simp; done))) | (with_reducible refine i_szl ?_ ?_; focus (first | decide | (simp; done)))
  | (with_reducible refine i_cj ?_; (first | refine ⟨rfl, ?_⟩ | refine ⟨⟨_, rfl⟩, ?_⟩))))
/-! ### heaps of heaps -/
theorem cnt_some {hs : List Bool} {b : Bool} : (hs.map some).count (some b) = hs.count b := by
  induction hs with
  | nil => rfl
  | cons x hs ih => rw [List.map_cons, List.count_cons, List.count_cons, ih]; cases x <;> cases b <;> rfl
theorem cnt_none {hs : List Bool} : (hs.map some).count none = 0 := by
  induction hs with
  | nil => rfl
  | cons x hs ih => rw [List.map_cons, List.count_cons, ih]; rfl
section
variable {hs : List Bool}
theorem rMost_some {k : Nat} : rMost k (hs.map some) = some (decide (hs.count true ≤ k)) := by
  unfold rMost
  rw [cnt_some, cnt_none]
  by_cases h : k < hs.count true
  · rw [if_pos h, decide_eq_false (by omega)]
  · rw [if_neg h, if_pos (by omega), decide_eq_true (by omega)]
theorem cnt_tf : hs.count true + hs.count false = hs.length := by
  induction hs with
  | nil => rfl
  | cons x hs ih => cases x <;> simp [List.count_cons] <;> omega
theorem rAll_some : rAll (hs.map some) = some (decide (hs.count true = hs.length)) := by
  have := cnt_tf (hs := hs)
  unfold rAll
  rw [has_cnt, has_cnt, cnt_some, cnt_none]
  by_cases h : 0 < hs.count false
  · rw [decide_eq_true h, if_pos rfl, decide_eq_false (by omega)]
  · rw [decide_eq_false h, if_neg Bool.false_ne_true, if_neg (by simp), decide_eq_true (by omega)]
theorem rAny_some : rAny (hs.map some) = some (decide (0 < hs.count true)) := by
  unfold rAny
  rw [has_cnt, has_cnt, cnt_some, cnt_none]
  by_cases h : 0 < hs.count true
  · rw [decide_eq_true h, if_pos rfl]
  · rw [decide_eq_false h, if_neg Bool.false_ne_true, if_neg (by simp)]
theorem rOne_some : rOne (hs.map some) = some (decide (hs.count true = 1)) := by
  have := cnt_tf (hs := hs)
  unfold rOne
  rw [cnt_some, cnt_some, cnt_none, List.length_map]
  by_cases h : 1 < hs.count true ∨ hs.count false = hs.length
  · rw [if_pos h, decide_eq_false (by omega)]
  · rw [if_neg h]
    have : hs.count true = 1 := by omega
    rw [if_pos ⟨this, rfl⟩, decide_eq_true this]
end
/-- the seven heaps -/
def heapsG (rows : List (List Nat)) (last : List Nat) : List Gf := rows.map (fun r => Gf.many .or (onsG r)) ++ [.many .and (onsG last)]
/-- which of them hold -/
def heldB (c : Nat → Bool) (rows : List (List Nat)) (last : List Nat) : List Bool := rows.map (fun r => r.any c) ++ [last.all c]
def atB (l : List Bool) (k : Nat) : Bool := l.getD k false
theorem oL_some {l : List Bool} {k : Nat} (h : k < l.length) : oL (l.map some) k = some (atB l k) := by
  unfold oL atB
  rw [List.getD_eq_getElem?_getD, List.getD_eq_getElem?_getD, List.getElem?_map, List.getElem?_eq_getElem h]
  rfl
theorem any_cnt {c : Nat → Bool} : ∀ {r : List Nat}, r.any c = decide (0 < (r.map c).count true)
  | [] => rfl
  | x :: r => by
    rw [List.any_cons, any_cnt, List.map_cons, List.count_cons]
    cases c x <;> simp
theorem all_cnt {c : Nat → Bool} : ∀ {r : List Nat}, r.all c = decide ((r.map c).count true = r.length)
  | [] => rfl
  | x :: r => by
    have := List.count_le_length (l := r.map c) (a := true)
    rw [List.length_map] at this
    rw [List.all_cons, all_cnt, List.map_cons, List.count_cons, List.length_cons]
    cases h : c x
    · simp; omega
    · simp
section
variable {rows : List (List Nat)} {last : List Nat} {l : List Bool} {w : Lw}
theorem heaps_rd (hl : l.length = 12) (hr : ∀ r ∈ rows, ∀ k ∈ r, k < 12) (hz : ∀ k ∈ last, k < 12) : (heapsG rows last).map (rd (oL (l.map some))) = (heldB (atB l) rows last).map some := by
  have row : ∀ r : List Nat, (∀ k ∈ r, k < 12) → r.map (oL (l.map some)) = (r.map (atB l)).map some := fun r h => by
    rw [List.map_map]
    exact List.map_congr_left fun k hk => oL_some (by rw [hl]; exact h k hk)
  unfold heapsG heldB
  rw [List.map_append, List.map_append, List.map_map, List.map_map]
  congr 1
  · refine List.map_congr_left fun r h => ?_
    show rW .or (rdL _ _) = _
    rw [onsG_rd, row r (hr r h)]
    show rAny _ = _
    rw [rAny_some]
    show _ = some (r.any (atB l))
    rw [any_cnt]
  · show [rW .and (rdL _ _)] = [some (last.all (atB l))]
    rw [onsG_rd, row last hz]
    show [rAll _] = _
    rw [rAll_some, List.length_map, all_cnt]
theorem many_rd (hl : l.length = 12) (hr : ∀ r ∈ rows, ∀ k ∈ r, k < 12) (hz : ∀ k ∈ last, k < 12) : rd (oL (l.map some)) (.many w (heapsG rows last)) = rW w ((heldB (atB l) rows last).map some) := by
  show rW w (rdL _ _) = _
  rw [rdL_map, heaps_rd hl hr hz]
theorem heaps_facts (h6 : rows.length = 6) (h8 : ∀ r ∈ rows, r.length = 8) (h4 : last.length = 4) (hr : ∀ r ∈ rows, ∀ k ∈ r, k < 12) (hz : ∀ k ∈ last, k < 12) (hw : w.ok) :
    (Gf.many w (heapsG rows last)).wf 12 ∧ (Gf.many w (heapsG rows last)).dep = 3 ∧ (Gf.many w (heapsG rows last)).sz = 60 := by
  have hlen : (heapsG rows last).length = 7 := by simp [heapsG, h6]
  refine ⟨⟨hw, by omega, by omega, Gf.wfL_all.mpr fun a ha => ?_⟩, ?_, ?_⟩
  · rcases List.mem_append.mp ha with ha | ha
    · obtain ⟨r, hr', rfl⟩ := List.mem_map.mp ha
      exact ⟨trivial, by simp [h8 r hr'], by simp [h8 r hr'], onsG_wf (hr r hr')⟩
    · rw [List.mem_singleton] at ha
      subst ha
      exact ⟨trivial, by simp [h4], by simp [h4], onsG_wf hz⟩
  · have od : ∀ r : List Nat, r ≠ [] → Gf.depL (onsG r) = 1 := fun r h => by
      cases r with
      | nil => exact absurd rfl h
      | cons k r =>
        have := onsG_dep (s := r)
        show max 1 (Gf.depL (onsG r)) = 1
        omega
    have ub : Gf.depL (heapsG rows last) ≤ 2 := Gf.depL_le.mpr fun a ha => by
      rcases List.mem_append.mp ha with ha | ha
      · obtain ⟨r, hr', rfl⟩ := List.mem_map.mp ha
        show 1 + Gf.depL (onsG r) ≤ 2
        have := onsG_dep (s := r)
        omega
      · rw [List.mem_singleton] at ha
        subst ha
        show 1 + Gf.depL (onsG last) ≤ 2
        have := onsG_dep (s := last)
        omega
    have lb : 2 ≤ Gf.depL (heapsG rows last) := by
      have h1 : (Gf.many .and (onsG last)) ∈ heapsG rows last := by unfold heapsG; simp
      have h2 := Gf.depL_le.mp (Nat.le_refl (Gf.depL (heapsG rows last))) _ h1
      have h3 : (Gf.many .and (onsG last)).dep = 2 := by
        show 1 + Gf.depL (onsG last) = 2
        rw [od last (fun z => by rw [z] at h4; cases h4)]
      omega
    show 1 + Gf.depL (heapsG rows last) = 3
    omega
  · have e1 : ∀ rows : List (List Nat), (∀ r ∈ rows, r.length = 8) → ((rows.map (fun r => Gf.many .or (onsG r))).map Gf.sz).sum = 9 * rows.length := by
      intro rows
      induction rows with
      | nil => intro _; rfl
      | cons r rows ih =>
        intro h
        have := ih fun y hy => h y (List.mem_cons_of_mem _ hy)
        rw [List.map_cons, List.map_cons, List.sum_cons, this, List.length_cons]
        show 1 + Gf.szL (onsG r) + _ = _
        rw [onsG_sz, h r List.mem_cons_self]
        omega
    show 1 + Gf.szL (heapsG rows last) = 60
    rw [Gf.szL_sum]
    unfold heapsG
    rw [List.map_append, List.sum_append, e1 rows h8, h6]
    show 1 + (9 * 6 + ((1 + Gf.szL (onsG last)) + 0)) = 60
    rw [onsG_sz, h4]
end
end K14

namespace K14
open PySem PySem.Spec PyProof.Rows L2 WL
local macro_rules | `(tactic| and_intros) => `(tactic| repeat (first
  | with_reducible refine i_kS ?_ | with_reducible refine i_Seq ?_ | with_reducible refine i_C ?_
  | (with_reducible refine i_V ?_; refine ⟨_, rfl, ?_⟩) | ((first | with_reducible refine i_Vs ?_ | fail); refine ⟨_, rfl, ?_⟩) | (with_reducible refine i_Vo ?_; refine ⟨_, rfl, ?_⟩)
  | with_reducible refine i_Cons ?_ | with_reducible refine i_Nil ?_ | with_reducible refine i_B ?_ | with_reducible refine i_U ?_ | with_reducible refine i_T ?_
  | with_reducible refine i_Set ?_ | with_reducible refine i_Ret ?_ | with_reducible refine i_end ?_ | with_reducible refine i_kSr ?_
  | (with_reducible refine i_Call ?_) | (with_reducible refine i_CallK ?_) | (with_reducible refine i_CallD ?_)
  | with_reducible refine i_Tup ?_ | with_reducible refine i_Lst ?_ | with_reducible refine i_IfE ?_ | with_reducible refine i_Skip ?_ | with_reducible refine i_Drop ?_
  | with_reducible refine i_Not ?_ | with_reducible refine i_And ?_ | with_reducible refine i_Or ?_ | with_reducible refine i_AndV ?_ | with_reducible refine i_OrV ?_ | with_reducible refine i_NotV ?_
  | with_reducible refine i_SetF ?_ | with_reducible refine i_Asg ?_ | with_reducible refine i_Par ?_ | with_reducible refine i_Par3 ?_ | with_reducible refine i_ParF0 ?_ | with_reducible refine i_Frz ?_
  | with_reducible refine i_Sl ?_ | with_reducible refine i_No ?_ | with_reducible refine i_Part ?_ | with_reducible refine i_Chain ?_ | with_reducible refine i_BL ?_ | with_reducible refine i_BT ?_
  | (with_reducible refine i_App ?_; refine ⟨_, rfl, ?_⟩) | (with_reducible refine i_Ext ?_; refine ⟨_, rfl, ?_⟩) | (with_reducible refine i_Put ?_; refine ⟨_, rfl, ?_⟩) | (with_reducible refine i_RetO ?_; refine ⟨_, rfl, ?_⟩)
  | with_reducible refine i_For ?_ | with_reducible refine i_Items ?_ | with_reducible refine i_Range1 ?_ | with_reducible refine i_Range2 ?_ | with_reducible refine i_Zip ?_ | with_reducible refine i_Enum ?_ | with_reducible refine i_Lc ?_ | with_reducible refine i_Yes ?_ | with_reducible refine i_LRg ?_
  | with_reducible refine i_kL ?_ | with_reducible refine i_kLc ?_ | with_reducible refine i_kLb ?_ | with_reducible refine i_kLr ?_ | with_reducible refine i_kSc ?_ | with_reducible refine i_kSb ?_ | with_reducible refine i_endN ?_
  | with_reducible refine ⟨_, leI_int, ?_⟩ | with_reducible refine ⟨_, ltI_int, ?_⟩ | with_reducible refine ⟨_, gtI_int, ?_⟩ | with_reducible refine ⟨_, geI_int, ?_⟩ | with_reducible refine ⟨_, subD_int, ?_⟩ | with_reducible refine ⟨_, addAD_int, ?_⟩
  | with_reducible refine ⟨_, neD_str1, ?_⟩ | with_reducible refine ⟨_, eqD_str1, ?_⟩ | with_reducible refine ⟨_, eqD_int, ?_⟩ | with_reducible refine ⟨_, neD_int, ?_⟩ | with_reducible refine ⟨_, eqD_bool', ?_⟩ | with_reducible refine ⟨_, neD_bool', ?_⟩ | with_reducible refine ⟨_, eqD_strs', ?_⟩ | with_reducible refine ⟨_, neD_strs, ?_⟩ | with_reducible refine ⟨_, eqD_tup0, ?_⟩ | with_reducible refine ⟨_, neD_tup0, ?_⟩
  | with_reducible refine ⟨_, ixD_0, ?_⟩ | with_reducible refine ⟨_, ixD_1, ?_⟩ | with_reducible refine ⟨_, ixD_l0, ?_⟩ | with_reducible refine ⟨_, ixD_nat, ?_⟩
  | (with_reducible refine i_ex1 ?_; (first | refine ⟨_, rfl, ?_⟩ | refine ⟨_, _, rfl, ?_⟩ | refine ⟨_, _, rfl, rfl, ?_⟩ | refine ⟨_, _, _, rfl, rfl, ?_⟩ | refine ⟨_, _, _, rfl, ?_⟩))
  | (with_reducible refine i_it ?_; (first | refine i_t rfl ?_ | refine i_f rfl ?_))
  | (with_reducible refine i_sz ?_ ?_; focus (first | decide | (simp; done))) | (with_reducible refine i_szl ?_ ?_; focus (first | decide | (simp; done)))
  | (with_reducible refine i_cj ?_; (first | refine ⟨rfl, ?_⟩ | refine ⟨⟨_, rfl⟩, ?_⟩))))
local macro_rules | `(tactic| bv_omega) => `(tactic| repeat (first
  | with_reducible refine i_kS ?_ | with_reducible refine i_Seq ?_ | with_reducible refine i_C ?_
  | (with_reducible refine i_V ?_; refine ⟨_, rfl, ?_⟩) | ((first | with_reducible refine i_Vs ?_ | fail); refine ⟨_, rfl, ?_⟩) | (with_reducible refine i_Vo ?_; refine ⟨_, rfl, ?_⟩)
  | with_reducible refine i_Cons ?_ | with_reducible refine i_Nil ?_ | with_reducible refine i_B ?_ | with_reducible refine i_U ?_ | with_reducible refine i_T ?_
  | with_reducible refine i_Set ?_ | with_reducible refine i_Ret ?_ | with_reducible refine i_end ?_ | with_reducible refine i_kSr ?_
  | (with_reducible refine i_Call ?_) | (with_reducible refine i_CallK ?_) | (with_reducible refine i_CallD ?_)
  | with_reducible refine i_Tup ?_ | with_reducible refine i_Lst ?_ | with_reducible refine i_Skip ?_ | with_reducible refine i_Drop ?_
  | with_reducible refine i_Not ?_ | with_reducible refine i_NotV ?_
  | with_reducible refine i_SetF ?_ | with_reducible refine i_Asg ?_ | with_reducible refine i_Par ?_ | with_reducible refine i_Par3 ?_ | with_reducible refine i_ParF0 ?_ | with_reducible refine i_Frz ?_
  | with_reducible refine i_Sl ?_ | with_reducible refine i_No ?_ | with_reducible refine i_Part ?_ | with_reducible refine i_BL ?_ | with_reducible refine i_BT ?_
  | (with_reducible refine i_App ?_; refine ⟨_, rfl, ?_⟩) | (with_reducible refine i_Ext ?_; refine ⟨_, rfl, ?_⟩) | (with_reducible refine i_Put ?_; refine ⟨_, rfl, ?_⟩) | (with_reducible refine i_RetO ?_; refine ⟨_, rfl, ?_⟩)
  | with_reducible refine i_For ?_ | with_reducible refine i_Items ?_ | with_reducible refine i_Range1 ?_ | with_reducible refine i_Range2 ?_ | with_reducible refine i_Zip ?_ | with_reducible refine i_Enum ?_ | with_reducible refine i_Lc ?_ | with_reducible refine i_Yes ?_ | with_reducible refine i_LRg ?_
  | with_reducible refine i_kL ?_ | with_reducible refine i_kLc ?_ | with_reducible refine i_kLb ?_ | with_reducible refine i_kLr ?_ | with_reducible refine i_kSc ?_ | with_reducible refine i_kSb ?_ | with_reducible refine i_endN ?_
  | with_reducible refine ⟨_, leI_int, ?_⟩ | with_reducible refine ⟨_, ltI_int, ?_⟩ | with_reducible refine ⟨_, gtI_int, ?_⟩ | with_reducible refine ⟨_, geI_int, ?_⟩ | with_reducible refine ⟨_, subD_int, ?_⟩ | with_reducible refine ⟨_, addAD_int, ?_⟩
  | with_reducible refine ⟨_, neD_str1, ?_⟩ | with_reducible refine ⟨_, eqD_str1, ?_⟩ | with_reducible refine ⟨_, eqD_int, ?_⟩ | with_reducible refine ⟨_, neD_int, ?_⟩ | with_reducible refine ⟨_, eqD_bool', ?_⟩ | with_reducible refine ⟨_, neD_bool', ?_⟩ | with_reducible refine ⟨_, eqD_strs', ?_⟩ | with_reducible refine ⟨_, neD_strs, ?_⟩ | with_reducible refine ⟨_, eqD_tup0, ?_⟩ | with_reducible refine ⟨_, neD_tup0, ?_⟩
  | with_reducible refine ⟨_, ixD_0, ?_⟩ | with_reducible refine ⟨_, ixD_1, ?_⟩ | with_reducible refine ⟨_, ixD_l0, ?_⟩ | with_reducible refine ⟨_, ixD_nat, ?_⟩
  | (with_reducible refine i_ex1 ?_; (first | refine ⟨_, rfl, ?_⟩ | refine ⟨_, _, rfl, ?_⟩ | refine ⟨_, _, rfl, rfl, ?_⟩ | refine ⟨_, _, _, rfl, rfl, ?_⟩ | refine ⟨_, _, _, rfl, ?_⟩))
  | (with_reducible refine i_it ?_; (first | refine i_t rfl ?_ | refine i_f rfl ?_))
  | (with_reducible refine i_sz ?_ ?_; focus (first | decide | (simp; done))) | (with_reducible refine i_szl ?_ ?_; focus (first | decide | (simp; done)))
  | (with_reducible refine i_cj ?_; (first | refine ⟨rfl, ?_⟩ | refine ⟨⟨_, rfl⟩, ?_⟩))))
theorem ixD_at {l : List Bool} {k : Nat} (h : k < l.length) : ixD (.tuple (l.map .bool)) (.int (k : Nat)) = some (.bool (atB l k)) := by
  refine ixD_natT ?_
  unfold atB
  rw [List.getD_eq_getElem?_getD, List.getElem?_map, List.getElem?_eq_getElem h]
  rfl
theorem filter_cnt {hs : List Bool} : (hs.filter id).length = hs.count true := by
  induction hs with
  | nil => rfl
  | cons x hs ih => cases x <;> simp [List.count_cons, ih]
theorem many_dG {w : Lw} {Gs : List Gf} : PyData.tuple (w.head ++ Gs.map Gf.d) = (Gf.many w Gs).d := by
  rw [Gf.d, Gf.dL_map]
def wordD : Lw → PyData
  | .and => .str "and"
  | .or => .str "or"
  | .one => .str "one"
  | .most _ => .none
theorem rW_some {w : Lw} {hs : List Bool} : ∃ b, rW w (hs.map some) = some b := by
  cases w with
  | and => exact ⟨_, rAll_some⟩
  | or => exact ⟨_, rAny_some⟩
  | one => exact ⟨_, rOne_some⟩
  | most k => exact ⟨_, rMost_some⟩
theorem repr_bools {bs : List Bool} (h : bs.length ≤ 100) : reprD (.list (bs.map .bool)) = some (.str (PyData.list (bs.map .bool)).shown) :=
  (nice_box (mk := PyData.list) (.inl rfl) (n := 100) (D := 0) (W := 0) (fun d hd => by
    obtain ⟨b, _, rfl⟩ := List.mem_map.mp hd
    exact nice_bool) (by rw [List.length_map]; exact h)).repr (by decide) (by decide)
theorem repr_mix {b : Bool} : reprD (.list [.int 60, .int 3, .bool b]) = some (.str (PyData.list [.int 60, .int 3, .bool b]).shown) :=
  (nice_box (mk := PyData.list) (.inl rfl) (n := 3) (D := 0) (W := 0) (fun d hd => by
    simp only [List.mem_cons, List.not_mem_nil, or_false] at hd
    rcases hd with rfl | rfl | rfl
    · exact nice_int (by decide)
    · exact nice_int (by decide)
    · exact nice_bool) (by simp)).repr (by decide) (by decide)
theorem great_right_ok (Q : PyData → Prop) (q : Q (.bool true)) : fn_law_great_right [potD] Q := by
  refine i_fn ?_
  unfold g_law_great_right
  bv_omega
  refine wLc1_any (G := fun d => ∃ r : List Nat, d = .list (natsD r) ∧ r.length = 8 ∧ ∀ k ∈ r, k < 12) (fun d hd R r => ⟨_, rfl, ?_⟩) fun ys hlen hys => ?_
  · bv_omega
    refine ⟨by decide, ?_⟩
    bv_omega
    refine mixed_nat (by decide) fun p hp => ?_
    bv_omega
    rw [show cutP (natsD p) none (some 8) = natsD (p.take 8) from cutN (k := 8)]
    refine r _ ⟨_, rfl, by rw [List.length_take, hp.length_eq, List.length_range]; rfl, fun k hk => ?_⟩
    simpa using hp.mem_iff.mp (List.mem_of_mem_take hk)
  obtain ⟨rows, rfl, hl, hrows⟩ := list_of hys
  have h6 : rows.length = 6 := by rw [hl, hlen, rangeL_len]; rfl
  clear hl hlen hys
  bv_omega
  refine ⟨by decide, ?_⟩
  bv_omega
  refine mixed_nat (by decide) fun p hp => ?_
  bv_omega
  rw [show cutP (natsD p) none (some 4) = natsD (p.take 4) from cutN (k := 4)]
  have h4 : (p.take 4).length = 4 := by rw [List.length_take, hp.length_eq, List.length_range]; rfl
  have hz : ∀ k ∈ p.take 4, k < 12 := fun k hk => by simpa using hp.mem_iff.mp (List.mem_of_mem_take hk)
  generalize p.take 4 = last at h4 hz
  bv_omega
  refine i_map (f := fun r => .list (natsD r)) (F := fun r => (Gf.many .or (onsG r)).d) (fun r hr => ⟨_, rfl, fun K k => ?_⟩) ?_
  · bv_omega
    refine law_ons_ok ?_
    refine ⟨_, addAD_tup (by simp [(hrows r hr).1]), ?_⟩
    rw [show PyData.tuple ([PyData.str "or"] ++ List.map Gf.d (onsG r)) = (Gf.many .or (onsG r)).d from many_d (w := .or)]
    exact k
  bv_omega
  refine law_ons_ok ?_
  bv_omega
  refine ⟨_, addAD_tup (by simp [h4]), ?_⟩
  rw [show PyData.tuple ([PyData.str "and"] ++ List.map Gf.d (onsG last)) = (Gf.many .and (onsG last)).d from many_d (w := .and)]
  bv_omega
  refine ⟨_, addAD_tup (by simp [h6]), ?_⟩
  rw [show PyData.tuple (rows.map (fun r => (Gf.many .or (onsG r)).d) ++ [(Gf.many .and (onsG last)).d]) = .tuple ((heapsG rows last).map Gf.d) from by unfold heapsG; rw [List.map_append, List.map_map]; rfl]
  bv_omega
  refine wLc1_any (G := fun d => ∃ b : Bool, d = .bool b ∧ True) (fun d hd R r => ⟨_, rfl, ?_⟩) fun ys hlen hys => ?_
  · bv_omega
    refine draw_in (by decide) (by decide) fun x x0 x1 => ?_
    bv_omega
    exact r _ ⟨_, rfl, trivial⟩
  obtain ⟨l, rfl, hl, _⟩ := list_of (f := PyData.bool) hys
  have h12 : l.length = 12 := by rw [hl, hlen, rangeL_len]; rfl
  clear hl hlen hys
  have hat : ∀ (s : List Nat), (∀ k ∈ s, k < 12) → ∀ (ρ : Ev) (L : List PyData → Prop), (∀ d, (ρ.set 12 (.sh d))[4]? = some (.sh (.tuple (l.map .bool)))) → (∀ d, (ρ.set 12 (.sh d))[12]? = some (.sh d)) → L (s.map fun n => .bool (atB l n)) → wLc1 (WL.stN 12) wYes (wB ixD (wVb 4) (wVb 12)) ρ (natsD s) L := fun s hs ρ L e4 e12 q =>
    i_map (f := fun n : Nat => PyData.int (n : Int)) (F := fun n => .bool (atB l n)) (fun n hn => ⟨_, rfl, fun K k => .inl ⟨_, e4 _, .inl ⟨_, e12 _, _, ixD_at (by rw [h12]; exact hs n hn), k⟩⟩⟩) q
  bv_omega
  refine i_map (f := fun r => .list (natsD r)) (F := fun r => .bool (r.any (atB l))) (fun r hr => ⟨_, rfl, fun K k => ?_⟩) ?_
  · bv_omega
    refine hat r (hrows r hr).2 _ _ (fun _ => rfl) (fun _ => rfl) ?_
    exact ⟨_, anyD_map (atB l) r, k⟩
  bv_omega
  refine hat last hz _ _ (fun _ => rfl) (fun _ => rfl) ?_
  refine ⟨_, allD_map (atB l) last, ?_⟩
  bv_omega
  refine ⟨_, if_pos (Nat.le_trans (by simp [h6] : _ ≤ 1000) (by decide)), ?_⟩
  rw [show rows.map (fun r => PyData.bool (r.any (atB l))) ++ [PyData.bool (last.all (atB l))] = (heldB (atB l) rows last).map .bool from by unfold heldB; rw [List.map_append, List.map_map]; rfl]
  have hrd : ∀ w : Lw, rd (oL (l.map some)) (.many w (heapsG rows last)) = rW w ((heldB (atB l) rows last).map some) := fun w => many_rd h12 (fun r hr => (hrows r hr).2) hz
  have hfx : ∀ w : Lw, w.ok → (Gf.many w (heapsG rows last)).wf 12 ∧ (Gf.many w (heapsG rows last)).dep = 3 ∧ (Gf.many w (heapsG rows last)).sz = 60 := fun w hw => heaps_facts h6 (fun r hr => (hrows r hr).1) h4 (fun r hr => (hrows r hr).2) hz hw
  have hlen7 : (heldB (atB l) rows last).length = 7 := by simp [heldB, h6]
  have hlenG : (heapsG rows last).length = 7 := by simp [heapsG, h6]
  generalize heldB (atB l) rows last = hs at hrd hlen7
  generalize heapsG rows last = Gs at hrd hfx hlenG
  bv_omega
  refine i_filter (f := PyData.bool) (F := PyData.bool) (p := id) (fun b hb => ⟨_, rfl, fun K k => ?_⟩) (fun b hb _ ρ' e R r => ?_) ?_
  · bv_omega
    exact k
  · cases e
    bv_omega
    exact r
  bv_omega
  rw [show ((List.map PyData.bool (List.filter id hs)).length : Int) = ((hs.count true : Nat) : Int) from by rw [List.length_map, filter_cnt]]
  have e8 : rangeL 0 (Int.toNat 8) = (List.range 8).map fun i : Nat => PyData.int (i : Nat) := rfl
  bv_omega
  rw [e8]
  refine i_loop (I := fun rest ρ => (∀ k ∈ rest, k < 8) ∧ ∃ x7 x9 : Sl, ρ = [Sl.sh potD, .sh (.list (rows.map fun a => .list (natsD a))), .sh (.list (natsD last)), .sh (.tuple (Gs.map Gf.d)), .sh (.tuple (l.map .bool)), .sh (.list (hs.map .bool)), .sh (.int (hs.count true : Nat)), x7, .no, x9, .no, .no, .no, .no, .no]) ?_ ?_ _ _ ⟨fun k hk => by simpa using hk, _, _, rfl⟩
  · rintro k rest _ ⟨hk, x7, x9, rfl⟩
    refine ⟨_, rfl, fun K k1 k2 k3 k4 => ?_⟩
    have hk8 : k < 8 := hk k List.mem_cons_self
    obtain ⟨f1, f2, f3⟩ := hfx (.most k) (by show k ≤ 7; omega)
    bv_omega
    refine ⟨_, addAD_tup (by simp [hlenG]), ?_⟩
    rw [show PyData.tuple ([PyData.str "most", .int (k : Nat)] ++ List.map Gf.d Gs) = (Gf.many (.most k) Gs).d from many_dG (w := .most k)]
    bv_omega
    refine i_IfE ?_
    bv_omega
    refine size_ok (sw := 12) (by decide) (by decide) f1 (by omega) (by omega) ?_
    bv_omega
    refine depth_ok (sw := 12) (by decide) (by decide) f1 (by omega) (by omega) ?_
    bv_omega
    refine holds_ok (sw := 12) (l := l) (by decide) (by decide) h12 f1 (by omega) (by omega) ?_
    rw [hrd, f2, f3, show rW (.most k) (hs.map some) = some (decide (hs.count true ≤ k)) from rMost_some]
    bv_omega
    refine ⟨_, repr_mix, ?_⟩
    bv_omega
    rw [show decide (((hs.count true : Nat) : Int) ≤ (k : Nat)) = decide (hs.count true ≤ k) from decide_eq_decide.mpr (by omega)]
    refine ⟨_, repr_mix, ?_⟩
    and_intros
    exact k1 _ ⟨fun y hy => hk y (List.mem_cons_of_mem _ hy), _, _, rfl⟩
  · rintro _ ⟨_, x7, x9, rfl⟩
    bv_omega
    show wLc1 _ _ _ _ ([Lw.and, Lw.or, Lw.one].map wordD) _
    refine i_map (F := fun w => optD (rW w (hs.map some))) (fun w hw => ⟨_, rfl, fun R r => ?_⟩) ?_
    · have hok : w.ok := by
        simp only [List.mem_cons, List.not_mem_nil, or_false] at hw
        rcases hw with rfl | rfl | rfl <;> exact trivial
      obtain ⟨f1, f2, f3⟩ := hfx w hok
      bv_omega
      refine ⟨_, addAD_tup (by simp [hlenG]), ?_⟩
      rw [show PyData.tuple ([wordD w] ++ List.map Gf.d Gs) = (Gf.many w Gs).d from by
        rw [← many_dG]
        simp only [List.mem_cons, List.not_mem_nil, or_false] at hw
        rcases hw with rfl | rfl | rfl <;> rfl]
      bv_omega
      refine holds_ok (sw := 12) (l := l) (by decide) (by decide) h12 f1 (by omega) (by omega) ?_
      rw [hrd]
      exact r
    bv_omega
    rw [show List.map (fun w => optD (rW w (hs.map some))) [Lw.and, .or, .one] = [decide (hs.count true = 7), decide (0 < hs.count true), decide (hs.count true = 1)].map .bool from by
      show [optD (rAll (hs.map some)), optD (rAny (hs.map some)), optD (rOne (hs.map some))] = _
      rw [rAll_some, rAny_some, rOne_some, hlen7]
      rfl]
    refine ⟨_, repr_bools (by simp), ?_⟩
    bv_omega
    rw [show decide (((hs.count true : Nat) : Int) = 7) = decide (hs.count true = 7) from decide_eq_decide.mpr (by omega),
      show decide ((0 : Int) < ((hs.count true : Nat) : Int)) = decide (0 < hs.count true) from decide_eq_decide.mpr (by omega),
      show decide (((hs.count true : Nat) : Int) = 1) = decide (hs.count true = 1) from decide_eq_decide.mpr (by omega)]
    refine ⟨_, repr_bools (bs := [decide (hs.count true = 7), decide (0 < hs.count true), decide (hs.count true = 1)]) (by simp), ?_⟩
    bv_omega
    exact q
theorem law_true : ∀ ns : List Int, ns.length ≤ 63 → fn_law [.list (ns.map PyData.int)] fun d => d = .bool true := law_of heaps_right_ok chain_right_ok great_right_ok
end K14

open PySem PySem.W PyProof.Rows
set_option maxHeartbeats 0 in
theorem PySem.Challenge.cw_everychoice_k14_whole_great_formulas_by_holds : PySem.Challenge.rw_everychoice_k14_whole_great_formulas_by.Holds := by
  w_on; o_law; k_head; (case hw => w_witness2)
  k_fill
  refine WL.walk_ofT (l := PySem.Challenge.rw_everychoice_k14_whole_great_formulas_by) (k := 19) (x := "script") (g := K14.fn_law) rfl (by decide) ⟨rfl, by decide, by decide⟩ (fun w h Y => PySem.W.km_in_of Y) (fun w h Y p hp => PySem.W.km_tabs_of Y p.1 (by unfold WL.lawTabs at hp; simp only [List.mem_cons, List.not_mem_nil, or_false] at hp; rcases hp with rfl | rfl <;> simp)) ?F WL.mono_gBody K14.law_true
  case F =>
    intro w mg fa h KX G hmg
    refine' K14.all_mk KX G hmg ?a1 ?l1 ?c1 ?k1 ?a2 ?l2 ?c2 ?k2 ?a3 ?l3 ?c3 ?k3 ?a4 ?l4 ?c4 ?k4 ?a5 ?l5 ?c5 ?k5 ?a6 ?l6 ?c6 ?k6 ?a7 ?l7 ?c7 ?k7 ?lT7 ?pT7 ?a8 ?l8 ?c8 ?k8 ?a9 ?l9 ?c9 ?k9 ?a10 ?l10 ?c10 ?k10 ?a11 ?l11 ?c11 ?k11 ?a12 ?l12 ?c12 ?k12 ?a13 ?l13 ?c13 ?k13 ?a14 ?l14 ?c14 ?k14 ?a15 ?l15 ?c15 ?k15 ?a16 ?l16 ?c16 ?k16 ?a17 ?l17 ?c17 ?k17 ?a18 ?l18 ?c18 ?k18 ?a19 ?l19 ?c19 ?k19 ?a20 ?l20 ?c20 ?k20 ?a21 ?l21 ?c21 ?k21 ?a22 ?l22 ?c22 ?k22 ?a23 ?l23 ?c23 ?k23 ?a24 ?l24 ?c24 ?k24 ?a25 ?l25 ?c25 ?k25 ?a26 ?l26 ?c26 ?k26 ?a27 ?l27 ?c27 ?k27 ?a28 ?l28 ?c28 ?k28 ?a29 ?l29 ?c29 ?k29 ?a30 ?l30 ?c30 ?k30 ?a31 ?l31 ?c31 ?k31 ?a32 ?l32 ?c32 ?k32 ?a33 ?l33 ?c33 ?k33 ?a34 ?l34 ?c34 ?k34 ?a35 ?l35 ?c35 ?k35 ?a36 ?l36 ?c36 ?k36 ?a37 ?l37 ?c37 ?k37 ?a38 ?l38 ?c38 ?k38 ?a39 ?l39 ?c39 ?k39 ?h39 ?t39 ?a40 ?l40 ?c40 ?k40 ?h40 ?t40 ?a41 ?l41 ?c41 ?k41 ?a42 ?l42 ?c42 ?k42 ?a43 ?l43 ?c43 ?k43 ?z_len ?z_abs ?z_max ?z_int ?z_divmod ?z_tuple ?z_isinstance ?z_bool ?z_list ?z_str ?z_all ?z_sum ?z_sorted ?z_set ?z_range ?z_enumerate ?z_repr ?z_any ?q_MOST_SWITCHES ?q_PAIRED ?r_PAIRED ?p_PAIRED ?m_PAIRED ?q_MOST_NUMBER ?q_MOST_PARTS ?q_LISTED ?r_LISTED ?p_LISTED ?m_LISTED ?q_MOST_SIZE ?q_MOST_DEPTH
    (case a1 => k_is); (case l1 => k_is); (case c1 => k_is); (case k1 => k_is); (case a2 => k_is); (case l2 => k_is); (case c2 => k_is); (case k2 => k_is); (case a3 => k_is); (case l3 => k_is); (case c3 => k_is); (case k3 => k_is); (case a4 => k_is); (case l4 => k_is); (case c4 => k_is); (case k4 => k_is); (case a5 => k_is); (case l5 => k_is); (case c5 => k_is); (case k5 => k_is); (case a6 => k_is); (case l6 => k_is); (case c6 => k_is); (case k6 => k_is); (case a7 => k_is); (case l7 => k_is); (case c7 => k_is); (case k7 => k_is); (case lT7 => k_is); (case pT7 => rfl); (case a8 => k_is); (case l8 => k_is); (case c8 => k_is); (case k8 => k_is); (case a9 => k_is); (case l9 => k_is); (case c9 => k_is); (case k9 => k_is); (case a10 => k_is); (case l10 => k_is); (case c10 => k_is); (case k10 => k_is); (case a11 => k_is); (case l11 => k_is); (case c11 => k_is); (case k11 => k_is); (case a12 => k_is); (case l12 => k_is); (case c12 => k_is); (case k12 => k_is); (case a13 => k_is); (case l13 => k_is); (case c13 => k_is); (case k13 => k_is); (case a14 => k_is); (case l14 => k_is); (case c14 => k_is); (case k14 => k_is); (case a15 => k_is); (case l15 => k_is); (case c15 => k_is); (case k15 => k_is); (case a16 => k_is); (case l16 => k_is); (case c16 => k_is); (case k16 => k_is); (case a17 => k_is); (case l17 => k_is); (case c17 => k_is); (case k17 => k_is); (case a18 => k_is); (case l18 => k_is); (case c18 => k_is); (case k18 => k_is); (case a19 => k_is); (case l19 => k_is); (case c19 => k_is); (case k19 => k_is); (case a20 => k_is); (case l20 => k_is); (case c20 => k_is); (case k20 => k_is); (case a21 => k_is); (case l21 => k_is); (case c21 => k_is); (case k21 => k_is); (case a22 => k_is); (case l22 => k_is); (case c22 => k_is); (case k22 => k_is); (case a23 => k_is); (case l23 => k_is); (case c23 => k_is); (case k23 => k_is); (case a24 => k_is); (case l24 => k_is); (case c24 => k_is); (case k24 => k_is); (case a25 => k_is); (case l25 => k_is); (case c25 => k_is); (case k25 => k_is); (case a26 => k_is); (case l26 => k_is); (case c26 => k_is); (case k26 => k_is); (case a27 => k_is); (case l27 => k_is); (case c27 => k_is); (case k27 => k_is); (case a28 => k_is); (case l28 => k_is); (case c28 => k_is); (case k28 => k_is); (case a29 => k_is); (case l29 => k_is); (case c29 => k_is); (case k29 => k_is); (case a30 => k_is); (case l30 => k_is); (case c30 => k_is); (case k30 => k_is); (case a31 => k_is); (case l31 => k_is); (case c31 => k_is); (case k31 => k_is); (case a32 => k_is); (case l32 => k_is); (case c32 => k_is); (case k32 => k_is); (case a33 => k_is); (case l33 => k_is); (case c33 => k_is); (case k33 => k_is); (case a34 => k_is); (case l34 => k_is); (case c34 => k_is); (case k34 => k_is); (case a35 => k_is); (case l35 => k_is); (case c35 => k_is); (case k35 => k_is); (case a36 => k_is); (case l36 => k_is); (case c36 => k_is); (case k36 => k_is); (case a37 => k_is); (case l37 => k_is); (case c37 => k_is); (case k37 => k_is); (case a38 => k_is); (case l38 => k_is); (case c38 => k_is); (case k38 => k_is); (case a39 => k_is); (case l39 => k_is); (case c39 => k_is); (case k39 => k_is); (case h39 => kernel_rfl); (case t39 => kernel_rfl); (case a40 => k_is); (case l40 => k_is); (case c40 => k_is); (case k40 => k_is); (case h40 => kernel_rfl); (case t40 => kernel_rfl); (case a41 => k_is); (case l41 => k_is); (case c41 => k_is); (case k41 => k_is); (case a42 => k_is); (case l42 => k_is); (case c42 => k_is); (case k42 => k_is); (case a43 => k_is); (case l43 => k_is); (case c43 => k_is); (case k43 => k_is); (case z_len => k_is); (case z_abs => k_is); (case z_max => k_is); (case z_int => k_is); (case z_divmod => k_is); (case z_tuple => k_is); (case z_isinstance => k_is); (case z_bool => k_is); (case z_list => k_is); (case z_str => k_is); (case z_all => k_is); (case z_sum => k_is); (case z_sorted => k_is); (case z_set => k_is); (case z_range => k_is); (case z_enumerate => k_is); (case z_repr => k_is); (case z_any => k_is); (case q_MOST_SWITCHES => k_is); (case q_PAIRED => k_is); (case r_PAIRED => k_is); (case p_PAIRED => rfl); (case m_PAIRED => decide); (case q_MOST_NUMBER => k_is); (case q_MOST_PARTS => k_is); (case q_LISTED => k_is); (case r_LISTED => k_is); (case p_LISTED => rfl); (case m_LISTED => decide); (case q_MOST_SIZE => k_is); (case q_MOST_DEPTH => k_is)
