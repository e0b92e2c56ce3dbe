import PyProof.Rows.All
import Wide.All
import OpenK.AllK
import Wide.FinOn
import HandS.Codes
import HandS.Conv
import HandS.Deep
import HandS.Defaults
import HandS.ForMost
import HandS.IsInst
import HandS.Style
import HandS.TupAny
import HandS.TupMul
import HandS.Zip
import KE.KRevSl
import PyProof.CallFns
import PyProof.ReprRoads
import PySem.Challenge.RW_everychoice_k11_any_value_as_formula_or
set_option Elab.async false
set_option linter.all false
set_option maxRecDepth 100000
/-! W1: values as plain data, and how they stand in the heap. -/
namespace WL
open PySem PySem.Spec PyProof.Rows L2

abbrev W (α : Type) := (α → Prop) → Prop
/-- a pot of draws, as a value -/
abbrev potD : PyData := .dict [(.none, .none)]

/-- pots: lists of two small numbers -/
def PotsOk (P : Addr → Prop) (H : Hp) : Prop := ∀ a, P a → ∃ x y : Int, H a = some (.lst [.int x, .int y]) ∧ 0 ≤ x ∧ 0 ≤ y ∧ y < 2 ^ 32

/-- a list that nobody changes -/
def LAt (K : PySem.W.Frag) (H : Hp) (M P : Addr → Prop) (a : Addr) (xs : List V) : Prop :=
  (H a = some (.lst xs) ∧ ¬ M a ∧ ¬ P a) ∨ (∃ o, H a = some (.frz o (.lst xs))) ∨
    ∃ (o : Obj) (its : Array Value) (n : Nat), K.lookup a = some o ∧ o.cls = .type "list" ∧ o.dict = none ∧ o.data = .seq its n ∧ its.size ≤ sizeLine ∧ Vals xs its.toList
theorem LAt.sq {K : PySem.W.Frag} {H : Hp} {M P : Addr → Prop} {a : Addr} {xs : List V} (h : LAt K H M P a xs) : SqL K H a xs := by
  rcases h with ⟨h, _⟩ | ⟨o, h⟩ | h
  · exact .inl (.inl h)
  · exact .inl (.inr ⟨o, h⟩)
  · exact .inr h

section
variable (K : PySem.W.Frag) (H : Hp) (M P : Addr → Prop)
mutual
def Rp : PyData → V → Prop
  | .none, v => v = .non
  | .bool b, v => v = .bl b
  | .int i, v => v = .int i
  | .str x, v => v = .str x
  | .list ds, v => ∃ a vs, v = .ref a ∧ LAt K H M P a vs ∧ RpA ds vs
  | .tuple ds, v => ∃ a vs, v = .ref a ∧ SqT K H a vs ∧ RpA ds vs
  | .dict kvs, v => (kvs = [] ∧ ∃ a, v = .ref a ∧ H a = some (.dK [])) ∨ (kvs = [(.none, .none)] ∧ ∃ a, v = .ref a ∧ P a)
def RpA : List PyData → List V → Prop
  | [], vs => vs = []
  | d :: ds, vs => ∃ v r, vs = v :: r ∧ Rp d v ∧ RpA ds r
end
end

section
variable {K : PySem.W.Frag} {H H' H'' : Hp} {M M' P P' P'' : Addr → Prop}

theorem RpA.len : ∀ {ds : List PyData} {vs : List V}, RpA K H M P ds vs → vs.length = ds.length
  | [], _, h => by subst h; rfl
  | d :: ds, _, h => by
    obtain ⟨v, r, rfl, _, h2⟩ := h
    rw [List.length_cons, List.length_cons, RpA.len h2]
theorem RpA.get : ∀ {ds : List PyData} {vs : List V} {i : Nat} {d : PyData}, RpA K H M P ds vs → ds[i]? = some d → ∃ v, vs[i]? = some v ∧ Rp K H M P d v
  | [], _, _, _, _, e => by simp at e
  | d :: ds, _, 0, d', h, e => by
    obtain ⟨v, r, rfl, h1, _⟩ := h
    simp at e
    subst e
    exact ⟨v, rfl, h1⟩
  | d :: ds, _, i + 1, d', h, e => by
    obtain ⟨v, r, rfl, _, h2⟩ := h
    obtain ⟨u, e1, e2⟩ := RpA.get (i := i) h2 (by simpa using e)
    exact ⟨u, by simpa using e1, e2⟩
theorem RpA.append : ∀ {ds es : List PyData} {vs us : List V}, RpA K H M P ds vs → RpA K H M P es us → RpA K H M P (ds ++ es) (vs ++ us)
  | [], _, _, _, h, k => by subst h; exact k
  | d :: ds, _, _, _, h, k => by
    obtain ⟨v, r, rfl, h1, h2⟩ := h
    exact ⟨v, r ++ _, rfl, h1, RpA.append h2 k⟩
theorem RpA.one {d : PyData} {v : V} (h : Rp K H M P d v) : RpA K H M P [d] [v] := ⟨v, [], rfl, h, rfl⟩
theorem RpA.take : ∀ {ds : List PyData} {vs : List V} (n : Nat), RpA K H M P ds vs → RpA K H M P (ds.take n) (vs.take n)
  | _, _, 0, _ => rfl
  | [], _, n + 1, h => by subst h; rfl
  | d :: ds, _, n + 1, h => by
    obtain ⟨v, r, rfl, h1, h2⟩ := h
    exact ⟨v, r.take n, rfl, h1, RpA.take n h2⟩
theorem RpA.drop : ∀ {ds : List PyData} {vs : List V} (n : Nat), RpA K H M P ds vs → RpA K H M P (ds.drop n) (vs.drop n)
  | _, _, 0, h => h
  | [], _, n + 1, h => by subst h; rfl
  | d :: ds, _, n + 1, h => by
    obtain ⟨v, r, rfl, h1, h2⟩ := h
    exact RpA.drop n h2
theorem RpA.set {d : PyData} {v : V} (h : Rp K H M P d v) : ∀ {ds : List PyData} {vs : List V} (n : Nat), RpA K H M P ds vs → RpA K H M P (ds.set n d) (vs.set n v)
  | [], _, n, k => by subst k; rfl
  | e :: ds, _, 0, k => by
    obtain ⟨u, r, rfl, _, h2⟩ := k
    exact ⟨v, r, rfl, h, h2⟩
  | e :: ds, _, n + 1, k => by
    obtain ⟨u, r, rfl, h1, h2⟩ := k
    exact ⟨u, r.set n v, rfl, h1, RpA.set h n h2⟩
theorem RpA.erase : ∀ {ds : List PyData} {vs : List V} (n : Nat), RpA K H M P ds vs → RpA K H M P (ds.eraseIdx n) (vs.eraseIdx n)
  | [], _, n, k => by subst k; cases n <;> rfl
  | e :: ds, _, 0, k => by
    obtain ⟨u, r, rfl, _, h2⟩ := k
    exact h2
  | e :: ds, _, n + 1, k => by
    obtain ⟨u, r, rfl, h1, h2⟩ := k
    exact ⟨u, r.eraseIdx n, rfl, h1, RpA.erase n h2⟩
theorem RpA.rev : ∀ {ds : List PyData} {vs : List V}, RpA K H M P ds vs → RpA K H M P ds.reverse vs.reverse
  | [], _, k => by subst k; rfl
  | e :: ds, _, k => by
    obtain ⟨u, r, rfl, h1, h2⟩ := k
    rw [List.reverse_cons, List.reverse_cons]
    exact (RpA.rev h2).append (.one h1)
theorem RpA.rep {ds : List PyData} {vs : List V} (h : RpA K H M P ds vs) : ∀ n : Nat, RpA K H M P (List.replicate n ds).flatten (List.replicate n vs).flatten
  | 0 => rfl
  | n + 1 => by
    rw [List.replicate_succ, List.replicate_succ, List.flatten_cons, List.flatten_cons]
    exact h.append (RpA.rep h n)
theorem RpA.of_get : ∀ {ds : List PyData} {vs : List V}, vs.length = ds.length → (∀ (i : Nat) (d : PyData) (v : V), ds[i]? = some d → vs[i]? = some v → Rp K H M P d v) → RpA K H M P ds vs
  | [], vs, l, _ => List.eq_nil_of_length_eq_zero l
  | d :: ds, [], l, _ => by simp at l
  | d :: ds, v :: vs, l, h => ⟨v, vs, rfl, h 0 d v rfl rfl, RpA.of_get (by simpa using l) fun i d v e1 e2 => h (i + 1) d v (by simpa using e1) (by simpa using e2)⟩

mutual
theorem Rp.anti (s : ∀ a, M' a → M a) : ∀ {d : PyData} {v : V}, Rp K H M P d v → Rp K H M' P d v
  | .none, _, h => h
  | .bool _, _, h => h
  | .int _, _, h => h
  | .str _, _, h => h
  | .list ds, _, h => by
    obtain ⟨a, vs, rfl, h1, h2⟩ := h
    refine ⟨a, vs, rfl, ?_, RpA.anti s h2⟩
    rcases h1 with ⟨x, y, z⟩ | h1 | h1
    · exact .inl ⟨x, fun q => y (s a q), z⟩
    · exact .inr (.inl h1)
    · exact .inr (.inr h1)
  | .tuple ds, _, h => by
    obtain ⟨a, vs, rfl, h1, h2⟩ := h
    exact ⟨a, vs, rfl, h1, RpA.anti s h2⟩
  | .dict _, _, h => h
theorem RpA.anti (s : ∀ a, M' a → M a) : ∀ {ds : List PyData} {vs : List V}, RpA K H M P ds vs → RpA K H M' P ds vs
  | [], _, h => h
  | d :: ds, _, h => by
    obtain ⟨v, r, rfl, h1, h2⟩ := h
    exact ⟨v, r, rfl, Rp.anti s h1, RpA.anti s h2⟩
end

/-- what may have come: S are the lists that may have been changed besides the pots -/
structure Fut (S P : Addr → Prop) (H : Hp) (P' : Addr → Prop) (H' : Hp) : Prop where
  up : ∀ a, P a → P' a
  kp : ∀ b o, H b = some o → ¬ P b → ¬ S b → H' b = some o
  nw : ∀ a, P' a → ¬ P a → H a = none
  ok : PotsOk P H
  ok' : PotsOk P' H'
  tr : ∀ b, (H b).isSome = true → (H' b).isSome = true
  ls : ∀ b, S b → ∃ xs, H b = some (.lst xs)

/-- nothing but pots -/
abbrev S0 : Addr → Prop := fun _ => False

variable {S S' : Addr → Prop}
theorem PotsOk.isS (h : PotsOk P H) {a : Addr} (p : P a) : (H a).isSome = true := by
  obtain ⟨x, y, e, _⟩ := h a p
  rw [e]
  rfl
theorem PotsOk.not (h : PotsOk P H) {a : Addr} {o : HO} (e : H a = some o) (n : ∀ xs, o ≠ .lst xs) : ¬ P a := fun p => by
  obtain ⟨x, y, e', _⟩ := h a p
  rw [e] at e'
  exact n _ (Option.some.inj e')
theorem Fut.notS (f : Fut S P H P' H') {a : Addr} {o : HO} (e : H a = some o) (n : ∀ xs, o ≠ .lst xs) : ¬ S a := fun p => by
  obtain ⟨x, e'⟩ := f.ls a p
  rw [e] at e'
  exact n _ (Option.some.inj e')
/-- what is no list stays -/
theorem Fut.stay (f : Fut S P H P' H') {a : Addr} {o : HO} (e : H a = some o) (n : ∀ xs, o ≠ .lst xs) : H' a = some o := f.kp a o e (f.ok.not e n) (f.notS e n)
theorem Fut.notP (f : Fut S P H P' H') {a : Addr} {o : HO} (e : H a = some o) (n : ¬ P a) : ¬ P' a := fun q => by
  have := f.nw a q n
  rw [e] at this
  cases this
theorem Fut.refl (h : PotsOk P H) : Fut S0 P H P H := ⟨fun _ h => h, fun _ _ h _ _ => h, fun _ h n => absurd h n, h, h, fun _ h => h, fun _ h => h.elim⟩
theorem Fut.none_of (f : Fut S P H P' H') {a : Addr} (h : H' a = none) : H a = none := by
  cases e : H a with
  | none => rfl
  | some o =>
    have := f.tr a (by rw [e]; rfl)
    rw [h] at this
    cases this
theorem Fut.trans (a : Fut S P H P' H') (b : Fut S' P' H' P'' H'') (hs : ∀ c, (H c).isSome = true → S' c → S c) : Fut S P H P'' H'' where
  up := fun c h => b.up c (a.up c h)
  kp := fun c o h n m => b.kp c o (a.kp c o h n m) (a.notP h n) fun q => m (hs c (by rw [h]; rfl) q)
  nw := fun c h n => by
    by_cases q : P' c
    · exact a.nw c q n
    · exact a.none_of (b.nw c h q)
  ok := a.ok
  ok' := b.ok'
  tr := fun c h => b.tr c (a.tr c h)
  ls := a.ls
theorem Fut.trans0 (a : Fut S P H P' H') (b : Fut S0 P' H' P'' H'') : Fut S P H P'' H'' := a.trans b fun _ _ q => q.elim
theorem Fut.mono (a : Fut S P H P' H') (hs : ∀ c, S c → S' c) (hl : ∀ b, S' b → ∃ xs, H b = some (.lst xs)) : Fut S' P H P' H' := ⟨a.up, fun b o h n m => a.kp b o h n fun q => m (hs b q), a.nw, a.ok, a.ok', a.tr, hl⟩
/-- a new object -/
theorem Fut.new {p : Addr} {o : HO} (h : PotsOk P H) (hp : H p = none) : Fut S0 P H P (upd H p o) := by
  have ne : ∀ b u, H b = some u → b ≠ p := fun b u e => ne_of_none e hp
  refine ⟨fun _ h => h, fun b u e _ _ => by rw [upd_ne (ne b u e)]; exact e, fun _ h n => absurd h n, h, fun a pa => ?_, fun b e => ?_, fun _ h => h.elim⟩
  · obtain ⟨x, y, e, r⟩ := h a pa
    exact ⟨x, y, by rw [upd_ne (ne a _ e)]; exact e, r⟩
  · cases q : H b with
    | none => rw [q] at e; cases e
    | some u => rw [upd_ne (ne b u q), q]; rfl
/-- a list of S is changed -/
theorem Fut.put {p : Addr} {o : HO} {xs : List V} (h : PotsOk P H) (hp : H p = some (.lst xs)) (hn : ¬ P p) : Fut (fun b => b = p) P H P (upd H p o) := by
  refine ⟨fun _ h => h, fun b u e _ m => ?_, fun _ h n => absurd h n, h, fun a pa => ?_, fun b e => ?_, fun b e => ⟨xs, by rw [e]; exact hp⟩⟩
  · rw [upd_ne m]
    exact e
  · obtain ⟨x, y, e, r⟩ := h a pa
    have ne : a ≠ p := fun q => by rw [q] at pa; exact hn pa
    exact ⟨x, y, by rw [upd_ne ne]; exact e, r⟩
  · by_cases q : b = p
    · rw [q, upd_same]; rfl
    · rw [upd_ne q]; exact e
theorem Fut.sqT (f : Fut S P H P' H') {a : Addr} {xs : List V} (h : SqT K H a xs) : SqT K H' a xs := by
  rcases h with (h | ⟨o, h⟩) | h
  · exact .inl (.inl (f.stay h fun _ e => nomatch e))
  · exact .inl (.inr ⟨o, f.stay h fun _ e => nomatch e⟩)
  · exact .inr h
theorem Fut.lAt (f : Fut S P H P' H') (hs : ∀ c, S c → M c) {a : Addr} {xs : List V} (h : LAt K H M P a xs) : LAt K H' M P' a xs := by
  rcases h with ⟨x, y, z⟩ | ⟨o, x⟩ | h
  · exact .inl ⟨f.kp a _ x z (fun q => y (hs a q)), y, f.notP x z⟩
  · exact .inr (.inl ⟨o, f.stay x fun _ e => nomatch e⟩)
  · exact .inr (.inr h)
mutual
theorem Rp.fut (f : Fut S P H P' H') (hs : ∀ c, S c → M c) : ∀ {d : PyData} {v : V}, Rp K H M P d v → Rp K H' M P' d v
  | .none, _, h => h
  | .bool _, _, h => h
  | .int _, _, h => h
  | .str _, _, h => h
  | .list ds, _, h => by
    obtain ⟨a, vs, rfl, h1, h2⟩ := h
    exact ⟨a, vs, rfl, f.lAt hs h1, RpA.fut f hs h2⟩
  | .tuple ds, _, h => by
    obtain ⟨a, vs, rfl, h1, h2⟩ := h
    exact ⟨a, vs, rfl, f.sqT h1, RpA.fut f hs h2⟩
  | .dict _, _, h => by
    rcases h with ⟨e, a, rfl, x⟩ | ⟨e, a, rfl, z⟩
    · exact .inl ⟨e, a, rfl, f.stay x fun _ e => nomatch e⟩
    · exact .inr ⟨e, a, rfl, f.up a z⟩
theorem RpA.fut (f : Fut S P H P' H') (hs : ∀ c, S c → M c) : ∀ {ds : List PyData} {vs : List V}, RpA K H M P ds vs → RpA K H' M P' ds vs
  | [], _, h => h
  | d :: ds, _, h => by
    obtain ⟨v, r, rfl, h1, h2⟩ := h
    exact ⟨v, r, rfl, Rp.fut f hs h1, RpA.fut f hs h2⟩
end
theorem Rp.fut0 (f : Fut S0 P H P' H') {d : PyData} {v : V} (h : Rp K H M P d v) : Rp K H' M P' d v := h.fut f fun _ q => q.elim
theorem RpA.fut0 (f : Fut S0 P H P' H') {d : List PyData} {v : List V} (h : RpA K H M P d v) : RpA K H' M P' d v := h.fut f fun _ q => q.elim
mutual
/-- a new address is not among them -/
theorem Rp.avoid {p : Addr} (hp : H p = none) : ∀ {d : PyData} {v : V}, Rp K H M P d v → Rp K H (fun a => M a ∨ a = p) P d v
  | .none, _, h => h
  | .bool _, _, h => h
  | .int _, _, h => h
  | .str _, _, h => h
  | .list ds, _, h => by
    obtain ⟨a, vs, rfl, h1, h2⟩ := h
    refine ⟨a, vs, rfl, ?_, RpA.avoid hp h2⟩
    rcases h1 with ⟨x, y, z⟩ | h1 | h1
    · exact .inl ⟨x, fun q => q.elim y fun e => ne_of_none x hp e, z⟩
    · exact .inr (.inl h1)
    · exact .inr (.inr h1)
  | .tuple ds, _, h => by
    obtain ⟨a, vs, rfl, h1, h2⟩ := h
    exact ⟨a, vs, rfl, h1, RpA.avoid hp h2⟩
  | .dict _, _, h => h
theorem RpA.avoid {p : Addr} (hp : H p = none) : ∀ {ds : List PyData} {vs : List V}, RpA K H M P ds vs → RpA K H (fun a => M a ∨ a = p) P ds vs
  | [], _, h => h
  | d :: ds, _, h => by
    obtain ⟨v, r, rfl, h1, h2⟩ := h
    exact ⟨v, r, rfl, Rp.avoid hp h1, RpA.avoid hp h2⟩
end
mutual
/-- what is not tracked is not among them -/
theorem Rp.avoidAll : ∀ {d : PyData} {v : V}, Rp K H M P d v → Rp K H (fun a => M a ∨ H a = none) P d v
  | .none, _, h => h
  | .bool _, _, h => h
  | .int _, _, h => h
  | .str _, _, h => h
  | .list ds, _, h => by
    obtain ⟨a, vs, rfl, h1, h2⟩ := h
    refine ⟨a, vs, rfl, ?_, RpA.avoidAll h2⟩
    rcases h1 with ⟨x, y, z⟩ | h1 | h1
    · exact .inl ⟨x, fun q => Or.elim q y (fun e => by rw [x] at e; cases e), z⟩
    · exact .inr (.inl h1)
    · exact .inr (.inr h1)
  | .tuple ds, _, h => by
    obtain ⟨a, vs, rfl, h1, h2⟩ := h
    exact ⟨a, vs, rfl, h1, RpA.avoidAll h2⟩
  | .dict _, _, h => h
theorem RpA.avoidAll : ∀ {ds : List PyData} {vs : List V}, RpA K H M P ds vs → RpA K H (fun a => M a ∨ H a = none) P ds vs
  | [], _, h => h
  | d :: ds, _, h => by
    obtain ⟨v, r, rfl, h1, h2⟩ := h
    exact ⟨v, r, rfl, Rp.avoidAll h1, RpA.avoidAll h2⟩
end
end
end WL

namespace WL
open PySem PySem.Spec PyProof.Rows L2

/-! ### slots -/
inductive Sl where
  | no
  | sh (d : PyData)
  | ow (ds : List PyData)
abbrev Ev := List Sl

def Own (ρ : Ev) (σ : L2.St) (a : Addr) : Prop := ∃ (i : Nat) (ds : List PyData), ρ[i]? = some (.ow ds) ∧ σ[i]? = some (some (.ref a))
def Mo (B : Addr → Prop) (ρ : Ev) (σ : L2.St) (a : Addr) : Prop := B a ∨ Own ρ σ a

structure RE (K : PySem.W.Frag) (B P : Addr → Prop) (H : Hp) (ρ : Ev) (σ : L2.St) : Prop where
  len : ρ.length = σ.length
  trk : ∀ a, B a → (H a).isSome = true
  pots : PotsOk P H
  sh : ∀ (i : Nat) (d : PyData), ρ[i]? = some (.sh d) → ∃ v, σ[i]? = some (some v) ∧ Rp K H (Mo B ρ σ) P d v
  ow : ∀ (i : Nat) (ds : List PyData), ρ[i]? = some (.ow ds) → ∃ a vs, σ[i]? = some (some (.ref a)) ∧ H a = some (.lst vs) ∧ ¬ B a ∧ ¬ P a ∧ RpA K H (Mo B ρ σ) P ds vs
  inj : ∀ (i j : Nat) (ds es : List PyData) (a : Addr), ρ[i]? = some (.ow ds) → ρ[j]? = some (.ow es) → σ[i]? = some (some (.ref a)) → σ[j]? = some (some (.ref a)) → i = j

section
variable {K : PySem.W.Frag} {B P P' : Addr → Prop} {H H' : Hp} {ρ : Ev} {σ : L2.St}
theorem RE.mtrk (R : RE K B P H ρ σ) {a : Addr} (h : Mo B ρ σ a) : (H a).isSome = true := by
  rcases h with h | ⟨i, ds, h1, h2⟩
  · exact R.trk a h
  · obtain ⟨b, vs, e1, e2, _⟩ := R.ow i ds h1
    rw [h2] at e1
    cases e1
    rw [e2]
    rfl
theorem RE.fut (R : RE K B P H ρ σ) (f : Fut S0 P H P' H') : RE K B P' H' ρ σ where
  len := R.len
  trk := fun a h => f.tr a (R.trk a h)
  pots := f.ok'
  sh := fun i d h => by
    obtain ⟨v, e, r⟩ := R.sh i d h
    exact ⟨v, e, r.fut0 f⟩
  ow := fun i ds h => by
    obtain ⟨a, vs, e, e2, b, p, r⟩ := R.ow i ds h
    exact ⟨a, vs, e, f.kp a _ e2 p (fun q => q.elim), b, f.notP e2 p, r.fut0 f⟩
  inj := R.inj
end

/-! ### results -/
inductive Md where
  | B | S | F
/-- how a result stands: F a new list that nobody else knows, S shared, B perhaps an owned list of the frame -/
def RM (m : Md) (K : PySem.W.Frag) (M : Addr → Prop) (H : Hp) (P' : Addr → Prop) (H' : Hp) (d : PyData) (v : V) : Prop :=
  match m with
  | .S => Rp K H' M P' d v
  | .B => Rp K H' M P' d v ∨ ∃ ds a vs, d = .list ds ∧ v = .ref a ∧ H' a = some (.lst vs) ∧ ¬ P' a ∧ RpA K H' M P' ds vs
  | .F => ∃ ds p vs, d = .list ds ∧ v = .ref p ∧ H p = none ∧ H' p = some (.lst vs) ∧ ¬ P' p ∧ RpA K H' (fun a => M a ∨ a = p) P' ds vs

def tW (K : PySem.W.Frag) (m : Md) (g : Ev → W PyData) : TE := fun σ H Q =>
  ∃ B P ρ, RE K B P H ρ σ ∧ g ρ fun d => ∀ v P' H', Fut S0 P H P' H' → RM m K (Mo B ρ σ) H P' H' d v → Q v H'
def tWb (K : PySem.W.Frag) (g : Ev → W Bool) : TT := fun σ H Q =>
  ∃ B P ρ, RE K B P H ρ σ ∧ g ρ fun b => ∀ P' H', Fut S0 P H P' H' → Q b H'
def tWa (K : PySem.W.Frag) (g : Ev → W (List PyData)) : TA := fun σ H Q =>
  ∃ B P ρ, RE K B P H ρ σ ∧ g ρ fun ds => ∀ vs P' H', Fut S0 P H P' H' → RpA K H' (Mo B ρ σ) P' ds vs → Q vs H'

def Mono {α : Type} (g : Ev → W α) : Prop := ∀ ρ (Q Q' : α → Prop), (∀ a, Q a → Q' a) → g ρ Q → g ρ Q'

structure EW (X : Cx) (m : Md) (e : Expr) (g : Ev → W PyData) : Prop where
  mono : Mono g
  pe : PE X e (tW X.K m g)
structure EB (X : Cx) (e : Expr) (g : Ev → W Bool) : Prop where
  mono : Mono g
  pt : PT X e (tWb X.K g)
structure EA (X : Cx) (es : List Expr) (g : Ev → W (List PyData)) : Prop where
  mono : Mono g
  pa : PA X es (tWa X.K g)

/-- pure ones -/
def lft {α : Type} (f : Ev → Option α) : Ev → W α := fun ρ Q => ∃ d, f ρ = some d ∧ Q d
theorem mono_lft {α : Type} {f : Ev → Option α} : Mono (lft f) := fun _ _ _ h ⟨d, e, q⟩ => ⟨d, e, h d q⟩

/-- weaken what is asked -/
theorem _root_.L2.PE.imp {X : Cx} {e : Expr} {t t' : TE} (h : PE X e t) (i : ∀ σ H Q, t' σ H Q → t σ H Q) : PE X e t' := ⟨fun pins s σ H Q I q => h.run pins s σ H Q I (i _ _ _ q)⟩
theorem _root_.L2.PT.imp {X : Cx} {e : Expr} {t t' : TT} (h : PT X e t) (i : ∀ σ H Q, t' σ H Q → t σ H Q) : PT X e t' := ⟨fun pins s σ H Q I q => h.run pins s σ H Q I (i _ _ _ q)⟩
theorem _root_.L2.PA.imp {X : Cx} {e : List Expr} {t t' : TA} (h : PA X e t) (i : ∀ σ H Q, t' σ H Q → t σ H Q) : PA X e t' := ⟨fun pos pins s σ H Q I q => h.run pos pins s σ H Q I (i _ _ _ q)⟩
theorem _root_.L2.PS.imp {X : Cx} {e : Stmt} {t t' : TS} (h : PS X e t) (i : ∀ D σ H, t' D σ H → t D σ H) : PS X e t' := ⟨fun pins s σ H D I q => h.run pins s σ H D I (i _ _ _ q)⟩
theorem _root_.L2.PSs.imp {X : Cx} {e : List Stmt} {t t' : TS} (h : PSs X e t) (i : ∀ D σ H, t' D σ H → t D σ H) : PSs X e t' := ⟨fun pins s σ H D I q => h.run pins s σ H D I (i _ _ _ q)⟩
/-- what every state bears, at hand -/
def Fx (K : PySem.W.Frag) (H : Hp) : Prop := (∀ a xs, SqL K H a xs → xs.length ≤ sizeLine) ∧ (∀ a xs, SqT K H a xs → xs.length ≤ sizeLine) ∧ (∀ a xs ys, SqL K H a xs → SqL K H a ys → xs = ys) ∧ (∀ a xs ys, SqT K H a xs → SqT K H a ys → xs = ys) ∧ (∀ a xs ys, SqL K H a xs → SqT K H a ys → False)
theorem fx_of {X : Cx} {pins : List (Addr × Obj)} {σ : L2.St} {H : Hp} {s : Shared} (I : Inv X pins σ H s) : Fx X.K H := by
  refine ⟨fun a xs h => ?_, fun a xs h => ?_, fun a xs ys h h' => I.list_inj h h', fun a xs ys h h' => I.tuple_inj h h', fun a xs ys h h' => ?_⟩
  · obtain ⟨_, _, _, z⟩ := I.list h
    exact z
  · obtain ⟨_, _, _, z⟩ := I.tuple h
    exact z
  · obtain ⟨_, _, ⟨o, n, e, c, _⟩, _⟩ := I.list h
    obtain ⟨_, _, ⟨o', e', c', _⟩, _⟩ := I.tuple h'
    rw [e] at e'
    cases e'
    rw [c] at c'
    exact absurd c' (by decide)
theorem _root_.L2.PE.fx {X : Cx} {e : Expr} {t : TE} (h : PE X e t) : PE X e (fun σ H Q => Fx X.K H → t σ H fun v H' => Fx X.K H' → Q v H') := ⟨fun pins s σ H Q I q =>
  thn (h.run pins s σ H _ I (q (fx_of I))) fun _ _ ⟨v, H', I', r, q'⟩ => ⟨v, H', I', r, q' (fx_of I')⟩⟩
theorem _root_.L2.PA.fx {X : Cx} {e : List Expr} {t : TA} (h : PA X e t) : PA X e (fun σ H Q => Fx X.K H → t σ H fun v H' => Fx X.K H' → Q v H') := ⟨fun pos pins s σ H Q I q =>
  thn (h.run pos pins s σ H _ I (q (fx_of I))) fun _ _ ⟨v, H', I', r, q'⟩ => ⟨v, H', I', r, q' (fx_of I')⟩⟩

section
variable {K : PySem.W.Frag} {B M P P' P'' : Addr → Prop} {H H0 H' H'' : Hp} {ρ : Ev} {σ : L2.St} {d : PyData} {v : V}
theorem RM.toB {m : Md} (h : RM m K M H P' H' d v) : RM .B K M H P' H' d v := by
  cases m with
  | B => exact h
  | S => exact .inl h
  | F =>
    obtain ⟨ds, p, vs, rfl, rfl, _, e, n, r⟩ := h
    exact .inr ⟨ds, p, vs, rfl, rfl, e, n, r.anti fun _ h => .inl h⟩
theorem RM.FtoS (h : RM .F K M H P' H' d v) (ht : ∀ a, M a → (H a).isSome = true) : RM .S K M H P' H' d v := by
  obtain ⟨ds, p, vs, rfl, rfl, np, e, n, r⟩ := h
  refine ⟨p, vs, rfl, .inl ⟨e, fun q => ?_, n⟩, r.anti fun _ h => .inl h⟩
  have := ht p q
  rw [np] at this
  cases this
/-- results of an earlier state, later -/
theorem RM.fut {m : Md} (h : RM m K M H P' H' d v) (f : Fut S0 P' H' P'' H'') : RM m K M H P'' H'' d v := by
  cases m with
  | S => exact Rp.fut0 f h
  | B =>
    rcases h with h | ⟨ds, a, vs, rfl, rfl, e, n, r⟩
    · exact .inl (h.fut0 f)
    · exact .inr ⟨ds, a, vs, rfl, rfl, f.kp a _ e n (fun q => q.elim), f.notP e n, r.fut0 f⟩
  | F =>
    obtain ⟨ds, p, vs, rfl, rfl, np, e, n, r⟩ := h
    exact ⟨ds, p, vs, rfl, rfl, np, f.kp p _ e n (fun q => q.elim), f.notP e n, r.fut0 f⟩
/-- .. told from an earlier start -/
theorem RM.back {m : Md} (h : RM m K M H P' H' d v) (f : Fut S0 P H0 P'' H) : RM m K M H0 P' H' d v := by
  cases m with
  | S => exact h
  | B => exact h
  | F =>
    obtain ⟨ds, p, vs, rfl, rfl, np, e, n, r⟩ := h
    exact ⟨ds, p, vs, rfl, rfl, f.none_of np, e, n, r⟩
/-- a list that is read -/
theorem RM.lst {ds : List PyData} (h : RM .B K M H P' H' (.list ds) v) : ∃ a vs, v = .ref a ∧ SqL K H' a vs ∧ RpA K H' M P' ds vs := by
  rcases h with ⟨a, vs, rfl, l, r⟩ | ⟨ds', a, vs, e, rfl, l, n, r⟩
  · exact ⟨a, vs, rfl, l.sq, r⟩
  · cases e
    exact ⟨a, vs, rfl, .inl (.inl l), r⟩
theorem RM.tup {ds : List PyData} (h : RM .B K M H P' H' (.tuple ds) v) : ∃ a vs, v = .ref a ∧ SqT K H' a vs ∧ RpA K H' M P' ds vs := by
  rcases h with ⟨a, vs, rfl, l, r⟩ | ⟨ds', a, vs, e, rfl, l, n, r⟩
  · exact ⟨a, vs, rfl, l, r⟩
  · cases e
theorem RM.int {i : Int} (h : RM .B K M H P' H' (.int i) v) : v = .int i := by
  rcases h with h | ⟨ds', a, vs, e, _⟩
  · exact h
  · cases e
theorem RM.bl {b : Bool} (h : RM .B K M H P' H' (.bool b) v) : v = .bl b := by
  rcases h with h | ⟨ds', a, vs, e, _⟩
  · exact h
  · cases e
theorem RM.str {b : Str} (h : RM .B K M H P' H' (.str b) v) : v = .str b := by
  rcases h with h | ⟨ds', a, vs, e, _⟩
  · exact h
  · cases e
theorem RM.non (h : RM .B K M H P' H' .none v) : v = .non := by
  rcases h with h | ⟨ds', a, vs, e, _⟩
  · exact h
  · cases e
end

/-! ### weakening -/
section
variable {X : Cx} {e a b : Expr} {g ga gb : Ev → W PyData} {m : Md}
theorem EW.toB (h : EW X m e g) : EW X .B e g := ⟨h.mono, h.pe.imp fun σ H Q ⟨B, P, ρ, R, q⟩ => ⟨B, P, ρ, R, h.mono ρ _ _ (fun d q v P' H' f r => q v P' H' f r.toB) q⟩⟩
theorem EW.FS (h : EW X .F e g) : EW X .S e g := ⟨h.mono, h.pe.imp fun σ H Q ⟨B, P, ρ, R, q⟩ => ⟨B, P, ρ, R, h.mono ρ _ _ (fun d q v P' H' f r => q v P' H' f (r.FtoS fun _ z => R.mtrk z)) q⟩⟩

/-! ### leaves -/
def wC (d : PyData) : Ev → W PyData := fun _ Q => Q d
theorem mono_wC {d : PyData} : Mono (wC d) := fun _ _ _ h q => h d q
theorem ew_const {d : PyData} {v : V} (h : PE X e (tC v)) (hr : ∀ K H M P, Rp K H M P d v) : EW X .S e (wC d) := ⟨mono_wC, h.imp fun σ H Q ⟨B, P, ρ, R, q⟩ => q v P H (.refl R.pots) (hr _ _ _ _)⟩
theorem ew_int {i : Int} {j pos} : EW X .S (.Constant (.int i) j pos) (wC (.int i)) := ew_const pe_int fun _ _ _ _ => rfl
theorem ew_bl {b : Bool} {j pos} : EW X .S (.Constant (.bool b) j pos) (wC (.bool b)) := ew_const pe_bl fun _ _ _ _ => rfl
theorem ew_non {j pos} : EW X .S (.Constant .none j pos) (wC .none) := ew_const pe_non fun _ _ _ _ => rfl
theorem ew_str {x : Str} {j pos} : EW X .S (.Constant (.str x) j pos) (wC (.str x)) := ew_const pe_str fun _ _ _ _ => rfl
/-- a module's constant -/
theorem ew_glob {x : Str} {v : V} {u : Value} {pos : Pos} {d : PyData} (hg : Gl X x) (hm : X.mg x = some u) (r : RelV v u) (hr : ∀ H M P, Rp X.K H M P d v) (hd : (x == ("__debug__" : Str)) = false := by decide) : EW X .S (.Name x pos) (wC d) :=
  ⟨mono_wC, (pe_glob hg hm r hd).imp fun σ H Q ⟨B, P, ρ, R, q⟩ => q v P H (.refl R.pots) (hr _ _ _)⟩

/-- a name's value: shared -/
def wV (i : Nat) : Ev → W PyData := fun ρ Q => ∃ d, ρ[i]? = some (.sh d) ∧ Q d
/-- .. or owned, read and let go -/
def wVb (i : Nat) : Ev → W PyData := fun ρ Q => (∃ d, ρ[i]? = some (.sh d) ∧ Q d) ∨ ∃ ds, ρ[i]? = some (.ow ds) ∧ Q (.list ds)
theorem mono_wV {i : Nat} : Mono (wV i) := fun _ _ _ h ⟨d, e, q⟩ => ⟨d, e, h d q⟩
theorem mono_wVb {i : Nat} : Mono (wVb i) := fun _ _ _ h q => by
  rcases q with ⟨d, e, q⟩ | ⟨d, e, q⟩
  · exact .inl ⟨d, e, h _ q⟩
  · exact .inr ⟨d, e, h _ q⟩
theorem ew_v {x : Str} {pos : Pos} (i : Nat) (hN : X.N[i]? = some x := by rfl) (hv : Vis X.env.scope x := by first | exact Or.inl rfl | exact Or.inr (Or.inl rfl) | exact Or.inr (Or.inr rfl)) (hd : (x == ("__debug__" : Str)) = false := by decide)
    (hcd : (x == ("__classdict__" : Str)) = false := by decide) : EW X .S (.Name x pos) (wV i) :=
  ⟨mono_wV, (pe_var hN hv hd hcd).imp fun σ H Q ⟨B, P, ρ, R, d, e, q⟩ => by
    obtain ⟨v, e2, r⟩ := R.sh i d e
    exact ⟨v, e2, q v P H (.refl R.pots) r⟩⟩
theorem ew_vb {x : Str} {pos : Pos} (i : Nat) (hN : X.N[i]? = some x := by rfl) (hv : Vis X.env.scope x := by first | exact Or.inl rfl | exact Or.inr (Or.inl rfl) | exact Or.inr (Or.inr rfl)) (hd : (x == ("__debug__" : Str)) = false := by decide)
    (hcd : (x == ("__classdict__" : Str)) = false := by decide) : EW X .B (.Name x pos) (wVb i) :=
  ⟨mono_wVb, (pe_var hN hv hd hcd).imp fun σ H Q ⟨B, P, ρ, R, q⟩ => by
    rcases q with ⟨d, e, q⟩ | ⟨ds, e, q⟩
    · obtain ⟨v, e2, r⟩ := R.sh i d e
      exact ⟨v, e2, q v P H (.refl R.pots) (.inl r)⟩
    · obtain ⟨a, vs, e2, e3, nb, np, r⟩ := R.ow i ds e
      exact ⟨.ref a, e2, q _ P H (.refl R.pots) (.inr ⟨ds, a, vs, rfl, rfl, e3, np, r⟩)⟩⟩

/-! ### one operand, two operands -/
def wU (op : PyData → Option PyData) (g : Ev → W PyData) : Ev → W PyData := fun ρ Q => g ρ fun x => ∃ d, op x = some d ∧ Q d
def wB (op : PyData → PyData → Option PyData) (ga gb : Ev → W PyData) : Ev → W PyData := fun ρ Q => ga ρ fun x => gb ρ fun y => ∃ d, op x y = some d ∧ Q d
theorem mono_wU {op : PyData → Option PyData} (h : Mono g) : Mono (wU op g) := fun ρ _ _ i q => h ρ _ _ (fun _ ⟨d, e, q⟩ => ⟨d, e, i d q⟩) q
theorem mono_wB {op : PyData → PyData → Option PyData} (h : Mono ga) (h' : Mono gb) : Mono (wB op ga gb) := fun ρ _ _ i q => h ρ _ _ (fun _ q => h' ρ _ _ (fun _ ⟨d, e, q⟩ => ⟨d, e, i d q⟩) q) q

/-- what a rule on values asks, met -/
def BinOk (K : PySem.W.Frag) (m : Md) (r : R2) (op : PyData → PyData → Option PyData) : Prop :=
  ∀ (M P : Addr → Prop) (H : Hp) (x y : V) (dx dy d : PyData) (Q : VK), Fx K H → PotsOk P H → (∀ a, M a → (H a).isSome = true) → RM .B K M H P H dx x → RM .B K M H P H dy y → op dx dy = some d →
    (∀ v P' H', Fut S0 P H P' H' → RM m K M H P' H' d v → Q v H') → r x y H Q
def UnOk (K : PySem.W.Frag) (m : Md) (r : V → Hp → VK → Prop) (op : PyData → Option PyData) : Prop :=
  ∀ (M P : Addr → Prop) (H : Hp) (x : V) (dx d : PyData) (Q : VK), Fx K H → PotsOk P H → (∀ a, M a → (H a).isSome = true) → RM .B K M H P H dx x → op dx = some d →
    (∀ v P' H', Fut S0 P H P' H' → RM m K M H P' H' d v → Q v H') → r x H Q

/-- the common part: one operand first, then what is asked of its value -/
theorem ew_un {r : V → Hp → VK → Prop} {op : PyData → Option PyData} (U : UnOk X.K m r op) (ha : EW X .B a ga)
    (h : ∀ t, PE X a t → PE X e (fun σ H Q => t σ H fun x H1 => r x H1 Q)) : EW X m e (wU op ga) := by
  refine ⟨mono_wU ha.mono, (h _ ha.pe.fx).imp fun σ H Q ⟨B, P, ρ, R, q⟩ => fun _ => ⟨B, P, ρ, R, ha.mono ρ _ _ (fun dx q v P1 H1 f1 r1 fx => ?_) q⟩⟩
  obtain ⟨d, e, q⟩ := q
  have R1 := R.fut f1
  exact U (Mo B ρ σ) P1 H1 v dx d Q fx f1.ok' (fun a h => R1.mtrk h) (by cases r1 with | inl z => exact .inl z | inr z => exact .inr z) e fun v' P2 H2 f2 r2 => q v' P2 H2 (f1.trans0 f2) (r2.back f1)
theorem ew_bin {r : R2} {op : PyData → PyData → Option PyData} (U : BinOk X.K m r op) (ha : EW X .B a ga) (hb : EW X .B b gb)
    (h : ∀ ta tb, PE X a ta → PE X b tb → PE X e (tOp r ta tb)) : EW X m e (wB op ga gb) := by
  refine ⟨mono_wB ha.mono hb.mono, (h _ _ ha.pe hb.pe.fx).imp fun σ H Q ⟨B, P, ρ, R, q⟩ => ⟨B, P, ρ, R, ha.mono ρ _ _ (fun dx q v P1 H1 f1 r1 => fun _ => ?_) q⟩⟩
  have R1 := R.fut f1
  refine ⟨B, P1, ρ, R1, hb.mono ρ _ _ (fun dy q v' P2 H2 f2 r2 fx => ?_) q⟩
  obtain ⟨d, e, q⟩ := q
  have R2 := R1.fut f2
  exact U (Mo B ρ σ) P2 H2 v v' dx dy d Q fx f2.ok' (fun a h => R2.mtrk h) (r1.fut f2) (by cases r2 with | inl z => exact .inl z | inr z => exact .inr z) e fun w P3 H3 f3 r3 => q w P3 H3 ((f1.trans0 f2).trans0 f3) (r3.back (f1.trans0 f2))
theorem ew_binop {op' : Operator} {pos : Pos} {r : R2} {op : PyData → PyData → Option PyData} (U : BinOk X.K m r op) (ho : OpR X (binaryOp op') r) (ha : EW X .B a ga) (hb : EW X .B b gb) : EW X m (.BinOp a op' b pos) (wB op ga gb) :=
  ew_bin U ha hb fun _ _ => pe_op ho
theorem ew_cmp {op' : CmpOp} {pos : Pos} {r : R2} {op : PyData → PyData → Option PyData} (U : BinOk X.K m r op) (ho : OpR X (compareOp op') r) (ha : EW X .B a ga) (hb : EW X .B b gb) (hm : behindInMarks op' b = false) : EW X m (.Compare a [op'] [b] pos) (wB op ga gb) :=
  ew_bin U ha hb fun _ _ x y => pe_cmpR ho x y hm
theorem ew_unop {op' : UnaryOp} {pos : Pos} {r : V → Hp → VK → Prop} {op : PyData → Option PyData} (U : UnOk X.K m r op) (ho : UnR X (unaryOp op') r) (ha : EW X .B a ga) : EW X m (.UnaryOp op' a pos) (wU op ga) :=
  ew_un U ha fun _ x => pe_un ho x
theorem ew_ix {pos : Pos} {r : R2} {op : PyData → PyData → Option PyData} (U : BinOk X.K m r op) (ho : IxR X r) (ha : EW X .B a ga) (hb : EW X .B b gb) (hs : PlainIx b) : EW X m (.Subscript a b pos) (wB op ga gb) :=
  ew_bin U ha hb fun _ _ x y => pe_ix ho x y hs
end
end WL

namespace WL
open PySem PySem.Spec PyProof.Rows L2

/-! ### rules joined -/
theorem OpR.or {X : Cx} {f : Value → Value → Sem Value} {r r' : R2} (h : OpR X f r) (h' : OpR X f r') : OpR X f (fun x y H Q => r x y H Q ∨ r' x y H Q) := by
  intro pins s σ H x y v u Q I rx ry q
  rcases q with q | q
  · exact h pins s σ H x y v u Q I rx ry q
  · exact h' pins s σ H x y v u Q I rx ry q
section
variable {K : PySem.W.Frag} {m : Md} {r r' : R2} {op : PyData → PyData → Option PyData} {u u' : V → Hp → VK → Prop} {uo : PyData → Option PyData}
theorem BinOk.inl (h : BinOk K m r op) : BinOk K m (fun x y H Q => r x y H Q ∨ r' x y H Q) op := fun M P H x y dx dy d Q a b c e f g k => .inl (h M P H x y dx dy d Q a b c e f g k)
theorem BinOk.inr (h : BinOk K m r op) : BinOk K m (fun x y H Q => r' x y H Q ∨ r x y H Q) op := fun M P H x y dx dy d Q a b c e f g k => .inr (h M P H x y dx dy d Q a b c e f g k)
end

/-! ### numbers -/
def intOp (f : Int → Int → PyData) : PyData → PyData → Option PyData
  | .int i, .int j => some (f i j)
  | _, _ => none
def intOpC (C : Int → Int → Prop) [∀ i j, Decidable (C i j)] (f : Int → Int → PyData) : PyData → PyData → Option PyData
  | .int i, .int j => if C i j then some (f i j) else none
  | _, _ => none
section
variable {K : PySem.W.Frag}
theorem bin_int0 {g : Int → Int → V} {f : Int → Int → PyData} (hf : ∀ i j K H M P, Rp K H M P (f i j) (g i j)) : BinOk K .S (rI0 g) (intOp f) := by
  intro M P H x y dx dy d Q fx po mt rx ry e k
  cases dx with
  | int i =>
    cases dy with
    | int j =>
      cases e
      obtain rfl := rx.int
      obtain rfl := ry.int
      exact ⟨i, j, rfl, rfl, k _ P H (.refl po) (hf i j _ _ _ _)⟩
    | _ => exact nomatch e
  | _ => exact nomatch e
theorem bin_intC {C : Int → Int → Prop} [∀ i j, Decidable (C i j)] {g : Int → Int → V} {f : Int → Int → PyData} (hf : ∀ i j K H M P, Rp K H M P (f i j) (g i j)) : BinOk K .S (rI C g) (intOpC C f) := by
  intro M P H x y dx dy d Q fx po mt rx ry e k
  cases dx with
  | int i =>
    cases dy with
    | int j =>
      have e : (if C i j then some (f i j) else none) = some d := e
      by_cases c : C i j
      · rw [if_pos c] at e
        cases e
        obtain rfl := rx.int
        obtain rfl := ry.int
        exact ⟨i, j, rfl, rfl, c, k _ P H (.refl po) (hf i j _ _ _ _)⟩
      · rw [if_neg c] at e
        cases e
    | _ => exact nomatch e
  | _ => exact nomatch e
end
instance : ∀ i j, Decidable (CMul i j) := fun i j => by unfold CMul; exact inferInstance
instance : ∀ i j, Decidable (CDiv i j) := fun i j => by unfold CDiv; exact inferInstance
instance : ∀ i j, Decidable (CPow i j) := fun i j => by unfold CPow; exact inferInstance
abbrev subD : PyData → PyData → Option PyData := intOp fun i j => .int (i - j)
abbrev fdivD : PyData → PyData → Option PyData := intOpC CDiv fun i j => .int (i / j)
abbrev modD : PyData → PyData → Option PyData := intOpC (fun _ j => 0 < j) fun i j => .int (i % j)
abbrev powD : PyData → PyData → Option PyData := intOpC CPow fun i j => .int (i ^ j.toNat)
abbrev shlD : PyData → PyData → Option PyData := intOpC CPow fun i j => .int (i * 2 ^ j.toNat)
abbrev shrD : PyData → PyData → Option PyData := intOpC (fun _ j => 0 ≤ j) fun i j => .int (i / 2 ^ j.toNat)
abbrev bandD : PyData → PyData → Option PyData := intOp fun i j => .int (Builtin.bitAnd i j)
abbrev borD : PyData → PyData → Option PyData := intOp fun i j => .int (Builtin.bitOr i j)
abbrev bxorD : PyData → PyData → Option PyData := intOp fun i j => .int (Builtin.bitXor i j)
abbrev ltI : PyData → PyData → Option PyData := intOp fun i j => .bool (decide (i < j))
abbrev leI : PyData → PyData → Option PyData := intOp fun i j => .bool (decide (i ≤ j))
abbrev gtI : PyData → PyData → Option PyData := intOp fun i j => .bool (decide (j < i))
abbrev geI : PyData → PyData → Option PyData := intOp fun i j => .bool (decide (j ≤ i))

section
variable {X : Cx} {a b : Expr} {ga gb : Ev → W PyData} {pos : Pos}
theorem ew_sub (ha : EW X .B a ga) (hb : EW X .B b gb) : EW X .S (.BinOp a .Sub b pos) (wB subD ga gb) := ew_binop (bin_int0 fun _ _ _ _ _ _ => rfl) op_sub ha hb
theorem ew_fdiv (ha : EW X .B a ga) (hb : EW X .B b gb) : EW X .S (.BinOp a .FloorDiv b pos) (wB fdivD ga gb) := ew_binop (bin_intC fun _ _ _ _ _ _ => rfl) op_fdiv ha hb
theorem ew_mod (ha : EW X .B a ga) (hb : EW X .B b gb) : EW X .S (.BinOp a .Mod b pos) (wB modD ga gb) := ew_binop (bin_intC fun _ _ _ _ _ _ => rfl) op_mod ha hb
theorem ew_pow (ha : EW X .B a ga) (hb : EW X .B b gb) : EW X .S (.BinOp a .Pow b pos) (wB powD ga gb) := ew_binop (bin_intC fun _ _ _ _ _ _ => rfl) op_pow ha hb
theorem ew_shl (ha : EW X .B a ga) (hb : EW X .B b gb) : EW X .S (.BinOp a .LShift b pos) (wB shlD ga gb) := ew_binop (bin_intC fun _ _ _ _ _ _ => rfl) op_shl ha hb
theorem ew_shr (ha : EW X .B a ga) (hb : EW X .B b gb) : EW X .S (.BinOp a .RShift b pos) (wB shrD ga gb) := ew_binop (bin_intC fun _ _ _ _ _ _ => rfl) op_shr ha hb
theorem ew_band (ha : EW X .B a ga) (hb : EW X .B b gb) : EW X .S (.BinOp a .BitAnd b pos) (wB bandD ga gb) := ew_binop (bin_int0 fun _ _ _ _ _ _ => rfl) op_and ha hb
theorem ew_bor (ha : EW X .B a ga) (hb : EW X .B b gb) : EW X .S (.BinOp a .BitOr b pos) (wB borD ga gb) := ew_binop (bin_int0 fun _ _ _ _ _ _ => rfl) op_or ha hb
theorem ew_bxor (ha : EW X .B a ga) (hb : EW X .B b gb) : EW X .S (.BinOp a .BitXor b pos) (wB bxorD ga gb) := ew_binop (bin_int0 fun _ _ _ _ _ _ => rfl) op_xor ha hb
theorem ew_lt (ha : EW X .B a ga) (hb : EW X .B b gb) : EW X .S (.Compare a [.Lt] [b] pos) (wB ltI ga gb) := ew_cmp (bin_int0 fun _ _ _ _ _ _ => rfl) op_lt ha hb (nomark _)
theorem ew_le (ha : EW X .B a ga) (hb : EW X .B b gb) : EW X .S (.Compare a [.LtE] [b] pos) (wB leI ga gb) := ew_cmp (bin_int0 fun _ _ _ _ _ _ => rfl) op_le ha hb (nomark _)
theorem ew_gt (ha : EW X .B a ga) (hb : EW X .B b gb) : EW X .S (.Compare a [.Gt] [b] pos) (wB gtI ga gb) := ew_cmp (bin_int0 fun _ _ _ _ _ _ => rfl) op_gt ha hb (nomark _)
theorem ew_ge (ha : EW X .B a ga) (hb : EW X .B b gb) : EW X .S (.Compare a [.GtE] [b] pos) (wB geI ga gb) := ew_cmp (bin_int0 fun _ _ _ _ _ _ => rfl) op_ge ha hb (nomark _)
def negD : PyData → Option PyData
  | .int i => some (.int (-i))
  | _ => none
theorem un_negOk {K : PySem.W.Frag} : UnOk K .S (rU fun i => .int (-i)) negD := by
  intro M P H x dx d Q fx po mt rx e k
  cases dx with
  | int i =>
    cases e
    obtain rfl := rx.int
    exact ⟨i, rfl, k _ P H (.refl po) rfl⟩
  | _ => exact nomatch e
theorem ew_neg (ha : EW X .B a ga) : EW X .S (.UnaryOp .USub a pos) (wU negD ga) := ew_unop un_negOk un_neg ha
/-- -3 as it is written -/
theorem ew_nint {i : Int} {j p1} : EW X .S (.UnaryOp .USub (.Constant (.int i) j p1) pos) (wU negD (wC (.int i))) := ew_neg ew_int.toB
end

/-! ### the data that a value shows -/
mutual
/-- no pots within; dicts are empty -/
def plain : PyData → Bool
  | .none | .bool _ | .int _ | .str _ => true
  | .list ds => plainA ds
  | .tuple ds => plainA ds
  | .dict kvs => kvs.isEmpty
def plainA : List PyData → Bool
  | [] => true
  | d :: ds => plain d && plainA ds
end
section
variable {X : Cx} {pins : List (Addr × Obj)} {σ : L2.St} {H : Hp} {s : Shared} {M P : Addr → Prop}
mutual
theorem Rp.reads (I : Inv X pins σ H s) : ∀ (d : PyData) (v : V) (u : Value), plain d = true → Rp X.K H M P d v → RelV v u → ∃ as, Reads s.heap u d as
  | .none, _, _, _, h, r => by
    subst h
    cases r
    exact ⟨_, Reads.none⟩
  | .bool b, _, _, _, h, r => by
    subst h
    cases r
    exact ⟨_, Reads.bool b⟩
  | .int i, _, _, _, h, r => by
    subst h
    obtain ⟨t, rfl⟩ := r
    exact ⟨_, Reads.int i t⟩
  | .str x, _, _, _, h, r => by
    subst h
    obtain ⟨t, rfl⟩ := r
    exact ⟨_, Reads.str x t⟩
  | .list ds, _, _, p, h, r => by
    obtain ⟨a, vs, rfl, hs, ha⟩ := h
    cases r
    obtain ⟨its, rv, ⟨o, n, ho, hc, _, hd⟩, _⟩ := I.list hs.sq
    obtain ⟨as, hr⟩ := RpA.reads I ds _ its p ha rv
    exact ⟨_, Reads.list ho hc hd hr⟩
  | .tuple ds, _, _, p, h, r => by
    obtain ⟨a, vs, rfl, hs, ha⟩ := h
    cases r
    obtain ⟨its, rv, ⟨o, ho, hc, n, hd⟩, _⟩ := I.tuple hs
    obtain ⟨as, hr⟩ := RpA.reads I ds _ its p ha rv
    exact ⟨_, Reads.tuple ho hc hd hr⟩
  | .dict kvs, _, _, p, h, r => by
    rcases h with ⟨rfl, a, rfl, l⟩ | ⟨rfl, _⟩
    · cases r
      obtain ⟨_, na, vs, kv, o, es, ep, ho, hc, hd, _, hp, _⟩ := I.hok a _ l
      cases kv
      have e : es.toList = [] := by
        revert hp
        generalize es.toList = l
        intro hp
        cases hp
        rfl
      have e : es = #[] := by
        apply Array.toList_inj.mp
        rw [e]
      subst e
      exact ⟨_, Reads.dict ho hc.1 hd (by exact ReadsAll.nil) (by exact ReadsAll.nil)⟩
    · exact nomatch p
theorem RpA.reads (I : Inv X pins σ H s) : ∀ (ds : List PyData) (vs : List V) (us : List Value), plainA ds = true → RpA X.K H M P ds vs → Vals vs us → ∃ as, ReadsAll s.heap us ds as
  | [], _, _, _, h, r => by
    subst h
    cases r
    exact ⟨_, ReadsAll.nil⟩
  | d :: ds, _, _, p, h, r => by
    obtain ⟨v, vr, rfl, h1, h2⟩ := h
    have p : (plain d && plainA ds) = true := p
    rw [Bool.and_eq_true] at p
    cases r with
    | cons r1 r2 =>
      obtain ⟨as, q1⟩ := Rp.reads I d _ _ p.1 h1 r1
      obtain ⟨bs, q2⟩ := RpA.reads I ds _ _ p.2 h2 r2
      exact ⟨_, ReadsAll.cons q1 q2⟩
end
theorem RM.reads (I : Inv X pins σ H s) {H0 : Hp} {d : PyData} {v : V} {u : Value} (p : plain d = true) (h : RM .B X.K M H0 P H d v) (r : RelV v u) : ∃ as, Reads s.heap u d as := by
  rcases h with h | ⟨ds, a, vs, rfl, rfl, l, n, q⟩
  · exact Rp.reads I d v u p h r
  · cases r
    obtain ⟨its, rv, ⟨o, n, ho, hc, _, hd⟩, _⟩ := I.list (.inl (.inl l))
    obtain ⟨as, hr⟩ := RpA.reads I ds _ its p q rv
    exact ⟨_, Reads.list ho hc hd hr⟩
end

/-! ### == and != -/
def emp2 : PyData → PyData → Option Bool
  | .tuple xs, .tuple ys => if xs.isEmpty || ys.isEmpty then some (xs.isEmpty && ys.isEmpty) else none
  | .list xs, .list ys => if xs.isEmpty || ys.isEmpty then some (xs.isEmpty && ys.isEmpty) else none
  | .str a, .str b => some (a == b)
  | _, _ => none
def eqvD (d e : PyData) : Option Bool := if plain d && plain e && SeqAt.shaped d && SeqAt.shaped e then some (PyData.eqv d e) else emp2 d e
def eqD (d e : PyData) : Option PyData := (eqvD d e).map .bool
def neD (d e : PyData) : Option PyData := (eqvD d e).map fun b => .bool (!b)
/-- how two values are read at a state -/
def Two (K : PySem.W.Frag) (H : Hp) (x y : V) (b : Bool) : Prop := ∃ M P d e, RM .B K M H P H d x ∧ RM .B K M H P H e y ∧ eqvD d e = some b
def rEqP (K : PySem.W.Frag) (neg : Bool) : R2 := fun x y H Q => ∃ b, Two K H x y b ∧ Q (.bl (if neg then !b else b)) H
theorem two_split {d e : PyData} {b : Bool} (h : eqvD d e = some b) : (plain d = true ∧ plain e = true ∧ SeqAt.shaped d = true ∧ SeqAt.shaped e = true ∧ b = PyData.eqv d e) ∨
    (∃ xs ys, d = .tuple xs ∧ e = .tuple ys ∧ (xs.isEmpty || ys.isEmpty) = true ∧ b = (xs.isEmpty && ys.isEmpty)) ∨ (∃ xs ys, d = .list xs ∧ e = .list ys ∧ (xs.isEmpty || ys.isEmpty) = true ∧ b = (xs.isEmpty && ys.isEmpty)) ∨ ∃ x y, d = .str x ∧ e = .str y ∧ b = (x == y) := by
  unfold eqvD at h
  split at h
  · rename_i c
    cases h
    simp only [Bool.and_eq_true] at c
    exact .inl ⟨c.1.1.1, c.1.1.2, c.1.2, c.2, rfl⟩
  · unfold emp2 at h
    split at h
    · split at h
      · rename_i c
        cases h
        exact .inr (.inl ⟨_, _, rfl, rfl, c, rfl⟩)
      · cases h
    · split at h
      · rename_i c
        cases h
        exact .inr (.inr (.inl ⟨_, _, rfl, rfl, c, rfl⟩))
      · cases h
    · cases h
      exact .inr (.inr (.inr ⟨_, _, rfl, rfl, rfl⟩))
    · cases h
theorem emp_sizes {xs ys : List PyData} {its its2 : List Value} (l1 : its.length = xs.length) (l2 : its2.length = ys.length) (h : (xs.isEmpty || ys.isEmpty) = true) :
    min its.toArray.size its2.toArray.size = 0 ∧ (its.toArray.size == its2.toArray.size) = (xs.isEmpty && ys.isEmpty) := by
  rw [List.size_toArray, List.size_toArray, l1, l2]
  cases xs with
  | nil => cases ys with
    | nil => exact ⟨rfl, rfl⟩
    | cons y ys => exact ⟨by simp, by simp⟩
  | cons x xs => cases ys with
    | nil => exact ⟨by simp, by simp⟩
    | cons y ys => simp at h
theorem op_eqP {X : Cx} (hu : X.A.units + 64 < cLine) : OpR X (compareOp .Eq) (rEqP X.K false) := by
  intro pins s σ H x y v u Q I rx ry h
  obtain ⟨b, ⟨M, P, d, e, hd, he, c⟩, q⟩ := h
  have q : Q (.bl b) H := q
  have hu' : X.A.units < cLine := by omega
  rcases two_split c with ⟨pd, pe, sd, se, rfl⟩ | ⟨xs, ys, rfl, rfl, z, rfl⟩ | ⟨xs, ys, rfl, rfl, z, rfl⟩ | ⟨x, y, rfl, rfl, rfl⟩
  · obtain ⟨as, r1⟩ := RM.reads I pd hd rx
    obtain ⟨bs, r2⟩ := RM.reads I pe he ry
    exact SeqAt.compareEq_shaped r1 r2 sd se hu ⟨.bl _, H, I, rfl, q⟩
  · obtain ⟨a, vs, rfl, l1, r1⟩ := hd.tup
    obtain ⟨b, us, rfl, l2, r2⟩ := he.tup
    cases rx
    cases ry
    obtain ⟨its, rv, p1, _⟩ := I.tuple l1
    obtain ⟨its2, rv2, p2, _⟩ := I.tuple l2
    obtain ⟨m0, eb⟩ := emp_sizes (rv.length.symm.trans r1.len) (rv2.length.symm.trans r2.len) z
    have R := SeqAt.RcAt.tuples (A := X.A) (s := s) (e := fun _ => true) p1 p2 hu' (fun j h1 h2 => by omega)
    rw [m0, eb] at R
    exact R X.prog X.w X.xe (EP X pins σ Q) ⟨.bl _, H, I, rfl, by simpa using q⟩
  · obtain ⟨a, vs, rfl, l1, r1⟩ := hd.lst
    obtain ⟨b, us, rfl, l2, r2⟩ := he.lst
    cases rx
    cases ry
    obtain ⟨its, rv, p1, _⟩ := I.list l1
    obtain ⟨its2, rv2, p2, _⟩ := I.list l2
    obtain ⟨m0, eb⟩ := emp_sizes (rv.length.symm.trans r1.len) (rv2.length.symm.trans r2.len) z
    by_cases hs : its.toArray.size = its2.toArray.size
    · have R := SeqAt.RcAt.lists (A := X.A) (s := s) (e := fun _ => true) p1.isList p2.isList hs hu' (fun j h1 h2 => by omega)
      have e1 : (xs.isEmpty && ys.isEmpty) = true := by rw [← eb]; exact beq_iff_eq.mpr hs
      rw [e1] at q
      rw [List.all_eq_true.mpr fun _ _ => rfl] at R
      exact R X.prog X.w X.xe (EP X pins σ Q) ⟨.bl _, H, I, rfl, q⟩
    · have R := SeqAt.RcAt.lists_lengths (A := X.A) (s := s) p1.isList p2.isList (by simpa using hs) hu'
      have e1 : (xs.isEmpty && ys.isEmpty) = false := by rw [← eb]; exact beq_eq_false_iff_ne.mpr hs
      rw [e1] at q
      exact R X.prog X.w X.xe (EP X pins σ Q) ⟨.bl _, H, I, rfl, q⟩
  · obtain rfl := hd.str
    obtain rfl := he.str
    obtain ⟨t, rfl⟩ := rx
    obtain ⟨t', rfl⟩ := ry
    exact SeqAt.RcAt.str_str x t y t' X.prog X.w X.xe (EP X pins σ Q) ⟨.bl _, H, I, rfl, q⟩
theorem op_neP {X : Cx} (hu : X.A.units + 64 < cLine) : OpR X (compareOp .NotEq) (rEqP X.K true) := by
  intro pins s σ H x y v u Q I rx ry h
  obtain ⟨b, ⟨M, P, d, e, hd, he, c⟩, q⟩ := h
  have q : Q (.bl (!b)) H := q
  have hu' : X.A.units < cLine := by omega
  rcases two_split c with ⟨pd, pe, sd, se, rfl⟩ | ⟨xs, ys, rfl, rfl, z, rfl⟩ | ⟨xs, ys, rfl, rfl, z, rfl⟩ | ⟨x, y, rfl, rfl, rfl⟩
  · obtain ⟨as, r1⟩ := RM.reads I pd hd rx
    obtain ⟨bs, r2⟩ := RM.reads I pe he ry
    exact SeqAt.compareNe_shaped r1 r2 sd se hu ⟨.bl _, H, I, rfl, q⟩
  · obtain ⟨a, vs, rfl, l1, r1⟩ := hd.tup
    obtain ⟨b, us, rfl, l2, r2⟩ := he.tup
    cases rx
    cases ry
    obtain ⟨its, rv, p1, _⟩ := I.tuple l1
    obtain ⟨its2, rv2, p2, _⟩ := I.tuple l2
    obtain ⟨m0, eb⟩ := emp_sizes (rv.length.symm.trans r1.len) (rv2.length.symm.trans r2.len) z
    have R := SeqAt.RcNeAt.tuples (A := X.A) (s := s) (e := fun _ => true) p1 p2 hu' (fun j h1 h2 => by omega)
    rw [m0, eb] at R
    exact R X.prog X.w X.xe (EP X pins σ Q) ⟨.bl _, H, I, rfl, by simpa using q⟩
  · obtain ⟨a, vs, rfl, l1, r1⟩ := hd.lst
    obtain ⟨b, us, rfl, l2, r2⟩ := he.lst
    cases rx
    cases ry
    obtain ⟨its, rv, p1, _⟩ := I.list l1
    obtain ⟨its2, rv2, p2, _⟩ := I.list l2
    obtain ⟨m0, eb⟩ := emp_sizes (rv.length.symm.trans r1.len) (rv2.length.symm.trans r2.len) z
    by_cases hs : its.toArray.size = its2.toArray.size
    · have R := SeqAt.RcNeAt.lists (A := X.A) (s := s) (e := fun _ => true) p1.isList p2.isList hs hu' (fun j h1 h2 => by omega)
      have e1 : (xs.isEmpty && ys.isEmpty) = true := by rw [← eb]; exact beq_iff_eq.mpr hs
      rw [e1] at q
      rw [List.all_eq_true.mpr fun _ _ => rfl] at R
      exact R X.prog X.w X.xe (EP X pins σ Q) ⟨.bl _, H, I, rfl, q⟩
    · have R := SeqAt.RcNeAt.lists_lengths (A := X.A) (s := s) p1.isList p2.isList (by simpa using hs) hu'
      have e1 : (xs.isEmpty && ys.isEmpty) = false := by rw [← eb]; exact beq_eq_false_iff_ne.mpr hs
      rw [e1] at q
      exact R X.prog X.w X.xe (EP X pins σ Q) ⟨.bl _, H, I, rfl, q⟩
  · obtain rfl := hd.str
    obtain rfl := he.str
    obtain ⟨t, rfl⟩ := rx
    obtain ⟨t', rfl⟩ := ry
    exact SeqAt.RcNeAt.str_str x t y t' X.prog X.w X.xe (EP X pins σ Q) ⟨.bl _, H, I, rfl, q⟩
theorem bin_eqP {K : PySem.W.Frag} : BinOk K .S (rEqP K false) eqD := by
  intro M P H x y dx dy d Q fx po mt rx ry e k
  cases c : eqvD dx dy with
  | none => rw [eqD, c] at e; cases e
  | some b =>
    rw [eqD, c] at e
    cases e
    exact ⟨b, ⟨M, P, dx, dy, rx, ry, c⟩, k _ P H (.refl po) rfl⟩
theorem bin_neP {K : PySem.W.Frag} : BinOk K .S (rEqP K true) neD := by
  intro M P H x y dx dy d Q fx po mt rx ry e k
  cases c : eqvD dx dy with
  | none => rw [neD, c] at e; cases e
  | some b =>
    rw [neD, c] at e
    cases e
    exact ⟨b, ⟨M, P, dx, dy, rx, ry, c⟩, k _ P H (.refl po) rfl⟩
section
variable {X : Cx} {a b : Expr} {ga gb : Ev → W PyData} {pos : Pos}
theorem ew_eq (hu : X.A.units + 64 < cLine) (ha : EW X .B a ga) (hb : EW X .B b gb) : EW X .S (.Compare a [.Eq] [b] pos) (wB eqD ga gb) := ew_cmp bin_eqP (op_eqP hu) ha hb (nomark _)
theorem ew_ne (hu : X.A.units + 64 < cLine) (ha : EW X .B a ga) (hb : EW X .B b gb) : EW X .S (.Compare a [.NotEq] [b] pos) (wB neD ga gb) := ew_cmp bin_neP (op_neP hu) ha hb (nomark _)
end
end WL

namespace WL
open PySem PySem.Spec PyProof.Rows L2

/-! ### + -/
def addD : PyData → PyData → Option PyData
  | .int i, .int j => some (.int (i + j))
  | .str x, .str y => if x.length + y.length ≤ sizeLine then some (.str (x ++ y)) else none
  | .tuple xs, .tuple ys => if xs.length + ys.length ≤ sizeLine then some (.tuple (xs ++ ys)) else none
  | _, _ => none
abbrev rAddS : R2 := fun x y H Q => ∃ i j, x = .str i ∧ y = .str j ∧ i.length + j.length ≤ sizeLine ∧ Q (.str (i ++ j)) H
theorem Rp.len {K : PySem.W.Frag} {H : Hp} {M P : Addr → Prop} {ds : List PyData} {v : V} (h : Rp K H M P (.tuple ds) v) : ∃ a vs, v = .ref a ∧ SqT K H a vs ∧ vs.length = ds.length ∧ RpA K H M P ds vs := by
  obtain ⟨a, vs, rfl, l, r⟩ := h
  exact ⟨a, vs, rfl, l, r.len, r⟩
theorem op_addS {X : Cx} : OpR X (binaryOp .Add) rAddS := op_add_str
theorem bin_add {K : PySem.W.Frag} : BinOk K .S (fun x y H Q => rI0 (fun i j => .int (i + j)) x y H Q ∨ rAddS x y H Q ∨ rCatA K x y H Q) addD := by
  intro M P H x y dx dy d Q fx po mt rx ry e k
  unfold addD at e
  split at e
  · cases e
    obtain rfl := rx.int
    obtain rfl := ry.int
    exact .inl ⟨_, _, rfl, rfl, k _ P H (.refl po) rfl⟩
  · split at e
    · cases e
      obtain rfl := rx.str
      obtain rfl := ry.str
      exact .inr (.inl ⟨_, _, rfl, rfl, by assumption, k _ P H (.refl po) rfl⟩)
    · cases e
  · rename_i xs ys
    split at e
    · rename_i hz
      cases e
      obtain ⟨a, vs, rfl, l, r⟩ := rx.tup
      obtain ⟨b, us, rfl, l2, r2⟩ := ry.tup
      refine .inr (.inr ⟨a, b, vs, us, rfl, rfl, l, l2, by rw [r.len, r2.len]; exact hz, fun z => ?_, fun z1 z => ?_, fun z1 z2 p hp => ?_⟩)
      · refine k _ P H (.refl po) ⟨b, us, rfl, l2, ?_⟩
        have := r.len
        rw [z] at this
        have : xs = [] := List.eq_nil_of_length_eq_zero this.symm
        rw [this]
        exact r2
      · refine k _ P H (.refl po) ⟨a, vs, rfl, l, ?_⟩
        have := r2.len
        rw [z] at this
        have : ys = [] := List.eq_nil_of_length_eq_zero this.symm
        rw [this, List.append_nil]
        exact r
      · have f : Fut S0 P H P (upd H p (.tup (vs ++ us))) := .new po hp
        exact k _ P _ f ⟨p, vs ++ us, rfl, .inl (.inl upd_same), (r.fut0 f).append (r2.fut0 f)⟩
    · cases e
  · cases e
/-- list + list: a new list -/
def catD : PyData → PyData → Option PyData
  | .list xs, .list ys => if xs.length + ys.length ≤ sizeLine then some (.list (xs ++ ys)) else none
  | _, _ => none
def rCatL (K : PySem.W.Frag) : R2 := fun x y H Q => ∃ l b xs zs, x = .ref l ∧ y = .ref b ∧ SqL K H l xs ∧ SqL K H b zs ∧ xs.length + zs.length ≤ sizeLine ∧ ∀ p, H p = none → Q (.ref p) (upd H p (.lst (xs ++ zs)))
theorem op_catL {X : Cx} : OpR X (binaryOp .Add) (rCatL X.K) := by
  intro pins s σ H x y v u Q I rx ry h
  obtain ⟨l, b, xs, zs, rfl, rfl, hH, hB, hz, q⟩ := h
  cases rx
  cases ry
  obtain ⟨its, r, ⟨⟨cls, dd, data, sl⟩, n, ho, hc, hdd, hd⟩, z⟩ := I.list hH
  obtain ⟨its2, r2, ⟨⟨cls2, dd2, data2, sl2⟩, n2, ho2, hc2, hdd2, hd2⟩, z2⟩ := I.list hB
  simp only at hc hd hc2 hd2 hdd hdd2
  subst hc hd hc2 hd2 hdd hdd2
  have e : its.toArray ++ its2.toArray = (its ++ its2).toArray := by simp
  have l1 := r.length
  have l2 := r2.length
  refine concat_meets ⟨_, ho, rfl⟩ ⟨_, ho2, rfl⟩ noFill_list_add seq_list_add PySem.F.slot_list_add PySem.F.entry_list_add (PySem.F.args_list_add_2 _ _) (list_addW l b its.toArray its2.toArray n n2 _ _ sl sl2 (by simp; omega)) ⟨ho, ho2, ?_⟩
  rw [e]
  exact ⟨.ref _, _, I.lnew (t' := s.toks) (r.append r2) (by rw [List.length_append]; omega), rfl, q _ I.fresh⟩
/-- a new list with these items -/
theorem new_list {K : PySem.W.Frag} {M P : Addr → Prop} {H : Hp} {ds : List PyData} {vs : List V} {Q : VK} (po : PotsOk P H) (r : RpA K H M P ds vs) (mt : ∀ a, M a → (H a).isSome = true)
    (k : ∀ v P' H', Fut S0 P H P' H' → RM .F K M H P' H' (.list ds) v → Q v H') : ∀ p, H p = none → Q (.ref p) (upd H p (.lst vs)) := fun p hp => by
  have f : Fut S0 P H P (upd H p (.lst vs)) := .new po hp
  have np : ¬ P p := fun q => by
    have := po.isS q
    rw [hp] at this
    cases this
  refine k _ P _ f ⟨ds, p, vs, rfl, rfl, hp, upd_same, np, ?_⟩
  exact (r.avoid hp).fut0 f
theorem bin_cat {K : PySem.W.Frag} : BinOk K .F (rCatL K) catD := by
  intro M P H x y dx dy d Q fx po mt rx ry e k
  unfold catD at e
  split at e
  · split at e
    · rename_i hz
      cases e
      obtain ⟨a, vs, rfl, l, r⟩ := rx.lst
      obtain ⟨b, us, rfl, l2, r2⟩ := ry.lst
      exact ⟨a, b, vs, us, rfl, rfl, l, l2, by rw [r.len, r2.len]; exact hz, new_list po (r.append r2) mt k⟩
    · cases e
  · cases e
section
variable {X : Cx} {a b : Expr} {ga gb : Ev → W PyData} {pos : Pos}
theorem ew_add (ha : EW X .B a ga) (hb : EW X .B b gb) : EW X .S (.BinOp a .Add b pos) (wB addD ga gb) := ew_binop bin_add (OpR.or op_add (OpR.or op_addS op_catA)) ha hb
theorem ew_cat (ha : EW X .B a ga) (hb : EW X .B b gb) : EW X .F (.BinOp a .Add b pos) (wB catD ga gb) := ew_binop bin_cat op_catL ha hb
end

/-! ### * -/
def mulD : PyData → PyData → Option PyData
  | .int i, .int j => if CMul i j then some (.int (i * j)) else none
  | .tuple xs, .int k => if 2 ≤ k ∧ k ≤ 1000 ∧ xs.length ≤ 1000 ∧ xs ≠ [] then some (.tuple (List.replicate k.toNat xs).flatten) else none
  | _, _ => none
theorem bin_mul {K : PySem.W.Frag} : BinOk K .S (fun x y H Q => rI CMul (fun i j => .int (i * j)) x y H Q ∨ rRepT K x y H Q) mulD := by
  intro M P H x y dx dy d Q fx po mt rx ry e k
  unfold mulD at e
  split at e
  · split at e
    · rename_i c
      cases e
      obtain rfl := rx.int
      obtain rfl := ry.int
      exact .inl ⟨_, _, rfl, rfl, c, k _ P H (.refl po) rfl⟩
    · cases e
  · split at e
    · rename_i c
      cases e
      obtain ⟨a, vs, rfl, l, r⟩ := rx.tup
      obtain rfl := ry.int
      refine .inr ⟨a, _, vs, rfl, rfl, l, fun z => c.2.2.2 ?_, c.1, c.2.1, by rw [r.len]; exact c.2.2.1, fun p hp => ?_⟩
      · have := r.len
        rw [z] at this
        exact List.eq_nil_of_length_eq_zero this.symm
      · exact k _ P _ (.new po hp) ⟨p, _, rfl, .inl (.inl upd_same), (r.fut0 (.new po hp)).rep _⟩
    · cases e
  · cases e
section
variable {X : Cx} {a b : Expr} {ga gb : Ev → W PyData} {pos : Pos}
theorem ew_mul (ha : EW X .B a ga) (hb : EW X .B b gb) : EW X .S (.BinOp a .Mult b pos) (wB mulD ga gb) := ew_binop bin_mul (OpR.or op_mul op_repT) ha hb
end

/-! ### in, not in: flat things in a list or a tuple -/
def flatD : PyData → Bool
  | .none | .bool _ | .int _ | .str _ => true
  | _ => false
def eqFlat : PyData → PyData → Bool
  | .none, .none => true
  | .bool a, .bool b => a == b
  | .int i, .int j => i == j
  | .str x, .str y => x == y
  | .bool a, .int j => (if a then 1 else 0) == j
  | .int i, .bool b => i == (if b then 1 else 0)
  | _, _ => false
def itemsD : PyData → Option (List PyData)
  | .list ds => some ds
  | .tuple ds => some ds
  | _ => none
def inF (x : PyData) (ds : List PyData) : Bool := ds.any fun y => eqFlat y x
def inD (neg : Bool) (x y : PyData) : Option PyData := (itemsD y).bind fun ds => if flatD x && ds.all flatD then some (.bool (if neg then !inF x ds else inF x ds)) else none
def toV : PyData → V
  | .none => .non
  | .bool b => .bl b
  | .int i => .int i
  | .str x => .str x
  | _ => .non
section
variable {K : PySem.W.Frag} {H : Hp} {M P : Addr → Prop}
theorem flat_toV {d : PyData} {v : V} (f : flatD d = true) (h : Rp K H M P d v) : v = toV d ∧ flatV v = true := by
  cases d with
  | none => subst h; exact ⟨rfl, rfl⟩
  | bool b => subst h; exact ⟨rfl, rfl⟩
  | int i => subst h; exact ⟨rfl, rfl⟩
  | str x => subst h; exact ⟨rfl, rfl⟩
  | _ => exact nomatch f
theorem flat_all : ∀ {ds : List PyData} {vs : List V}, ds.all flatD = true → RpA K H M P ds vs → vs = ds.map toV ∧ vs.all flatV = true
  | [], _, _, h => by subst h; exact ⟨rfl, rfl⟩
  | d :: ds, _, f, h => by
    obtain ⟨v, r, rfl, h1, h2⟩ := h
    rw [List.all_cons, Bool.and_eq_true] at f
    obtain ⟨e1, g1⟩ := flat_toV f.1 h1
    obtain ⟨e2, g2⟩ := flat_all f.2 h2
    exact ⟨by rw [e1, e2]; rfl, by rw [List.all_cons, g1, g2]; rfl⟩
theorem eqV_flat {a b : PyData} (fa : flatD a = true) (fb : flatD b = true) : eqV (toV a) (toV b) = eqFlat a b := by
  cases a with
  | none => cases b <;> first | rfl | exact absurd fb Bool.false_ne_true
  | bool x => cases b <;> first | rfl | exact absurd fb Bool.false_ne_true
  | int x => cases b <;> first | rfl | exact absurd fb Bool.false_ne_true
  | str x => cases b <;> first | rfl | exact absurd fb Bool.false_ne_true
  | _ => exact absurd fa Bool.false_ne_true
theorem inV_flat {x : PyData} (fx : flatD x = true) : ∀ {ds : List PyData}, ds.all flatD = true → inV (toV x) (ds.map toV) = inF x ds
  | [], _ => rfl
  | d :: ds, f => by
    rw [List.all_cons, Bool.and_eq_true] at f
    show (eqV (toV d) (toV x) || inV (toV x) (ds.map toV)) = (eqFlat d x || inF x ds)
    rw [eqV_flat f.1 fx, inV_flat fx f.2]
theorem RM.flat {m : Md} {H0 : Hp} {d : PyData} {v : V} (f : flatD d = true) (h : RM .B K M H0 P H d v) : Rp K H M P d v := by
  rcases h with h | ⟨ds, a, vs, rfl, _⟩
  · exact h
  · exact nomatch f
theorem bin_in {neg : Bool} : BinOk K .S (rIn K neg) (inD neg) := by
  intro M P H x y dx dy d Q fx po mt rx ry e k
  unfold inD at e
  have key : ∀ ds (p : Addr) (vs : List V), y = .ref p → (SqL K H p vs ∨ SqT K H p vs) → RpA K H M P ds vs → (if (flatD dx && ds.all flatD) = true then some (PyData.bool (if neg then !inF dx ds else inF dx ds)) else none) = some d → rIn K neg x y H Q := by
    intro ds p vs ey sq r e
    split at e
    · rename_i c
      cases e
      rw [Bool.and_eq_true] at c
      obtain ⟨e1, g1⟩ := flat_toV c.1 (rx.flat (m := .B) c.1)
      obtain ⟨e2, g2⟩ := flat_all c.2 r
      refine ⟨p, vs, ey, sq, g1, g2, ?_⟩
      rw [e1, e2, inV_flat c.1 c.2]
      exact k _ P H (.refl po) rfl
    · cases e
  cases dy with
  | list ds =>
    obtain ⟨a, vs, rfl, l, r⟩ := ry.lst
    exact key ds a vs rfl (.inl l) r e
  | tuple ds =>
    obtain ⟨a, vs, rfl, l, r⟩ := ry.tup
    exact key ds a vs rfl (.inr l) r e
  | _ => exact nomatch e
end
section
variable {X : Cx} {a b : Expr} {ga gb : Ev → W PyData} {pos : Pos}
theorem ew_in (ha : EW X .B a ga) (hb : EW X .B b gb) (hm : behindInMarks .In b = false := by rfl) : EW X .S (.Compare a [.In] [b] pos) (wB (inD false) ga gb) := ew_cmp bin_in op_in_seq ha hb hm
theorem ew_notIn (ha : EW X .B a ga) (hb : EW X .B b gb) (hm : behindInMarks .NotIn b = false := by rfl) : EW X .S (.Compare a [.NotIn] [b] pos) (wB (inD true) ga gb) := ew_cmp bin_in op_notIn_seq ha hb hm
end

/-! ### is None -/
def nonD : PyData → Bool
  | .none => true
  | _ => false
def isNonD (neg : Bool) : PyData → PyData → Option PyData
  | d, .none => some (.bool (if neg then !nonD d else nonD d))
  | _, _ => none
theorem Rp.notNon {K : PySem.W.Frag} {H : Hp} {M P : Addr → Prop} {d : PyData} {v : V} (h : Rp K H M P d v) : decide (v = .non) = nonD d := by
  cases d with
  | none => subst h; rfl
  | bool b => subst h; rfl
  | int i => subst h; rfl
  | str x => subst h; rfl
  | list ds => obtain ⟨a, vs, rfl, _⟩ := h; rfl
  | tuple ds => obtain ⟨a, vs, rfl, _⟩ := h; rfl
  | dict kvs =>
    rcases h with ⟨_, a, rfl, _⟩ | ⟨_, a, rfl, _⟩ <;> rfl
theorem RM.notNon {K : PySem.W.Frag} {H H0 : Hp} {M P : Addr → Prop} {d : PyData} {v : V} (h : RM .B K M H0 P H d v) : decide (v = .non) = nonD d := by
  rcases h with h | ⟨ds, a, vs, rfl, rfl, _⟩
  · exact h.notNon
  · rfl
theorem bin_isN {K : PySem.W.Frag} : BinOk K .S (fun x y H Q => y = .non ∧ Q (.bl (decide (x = .non))) H) (isNonD false) := by
  intro M P H x y dx dy d Q fx po mt rx ry e k
  cases dy with
  | none =>
    cases e
    refine ⟨ry.non, ?_⟩
    rw [rx.notNon]
    exact k _ P H (.refl po) rfl
  | _ => exact nomatch e
theorem bin_notN {K : PySem.W.Frag} : BinOk K .S (fun x y H Q => y = .non ∧ Q (.bl (!decide (x = .non))) H) (isNonD true) := by
  intro M P H x y dx dy d Q fx po mt rx ry e k
  cases dy with
  | none =>
    cases e
    refine ⟨ry.non, ?_⟩
    rw [rx.notNon]
    exact k _ P H (.refl po) rfl
  | _ => exact nomatch e
section
variable {X : Cx} {a b : Expr} {ga gb : Ev → W PyData} {pos : Pos}
theorem ew_isN {j p2} (ha : EW X .B a ga) : EW X .S (.Compare a [.Is] [.Constant .none j p2] pos) (wB (isNonD false) ga (wC .none)) := ew_cmp bin_isN op_isN ha ew_non.toB (nomark _)
theorem ew_notN {j p2} (ha : EW X .B a ga) : EW X .S (.Compare a [.IsNot] [.Constant .none j p2] pos) (wB (isNonD true) ga (wC .none)) := ew_cmp bin_notN op_notN ha ew_non.toB (nomark _)
end
/-- is, is not, of two bools -/
def isBD (neg : Bool) : PyData → PyData → Option PyData
  | .bool a, .bool b => some (.bool (if neg then !decide (a = b) else decide (a = b)))
  | _, _ => none
theorem bin_isB {K : PySem.W.Frag} : BinOk K .S rIsB (isBD false) := by
  intro M P H x y dx dy d Q fx po mt rx ry e k
  cases dx with
  | bool a =>
    cases dy with
    | bool b =>
      cases e
      obtain rfl := rx.bl
      obtain rfl := ry.bl
      exact ⟨a, b, rfl, rfl, k _ P H (.refl po) rfl⟩
    | _ => exact nomatch e
  | _ => exact nomatch e
theorem bin_notB {K : PySem.W.Frag} : BinOk K .S rNotB (isBD true) := by
  intro M P H x y dx dy d Q fx po mt rx ry e k
  cases dx with
  | bool a =>
    cases dy with
    | bool b =>
      cases e
      obtain rfl := rx.bl
      obtain rfl := ry.bl
      exact ⟨a, b, rfl, rfl, k _ P H (.refl po) rfl⟩
    | _ => exact nomatch e
  | _ => exact nomatch e
section
variable {X : Cx} {a b : Expr} {ga gb : Ev → W PyData} {pos : Pos}
theorem ew_isB (ha : EW X .B a ga) (hb : EW X .B b gb) (hm : behindInMarks .Is b = false := by rfl) : EW X .S (.Compare a [.Is] [b] pos) (wB (isBD false) ga gb) := ew_cmp bin_isB op_isBl ha hb hm
theorem ew_notB (ha : EW X .B a ga) (hb : EW X .B b gb) (hm : behindInMarks .IsNot b = false := by rfl) : EW X .S (.Compare a [.IsNot] [b] pos) (wB (isBD true) ga gb) := ew_cmp bin_notB op_notBl ha hb hm
end

/-! ### tests -/
def wT (g : Ev → W PyData) : Ev → W Bool := fun ρ Q => g ρ fun d => ∃ b, d = .bool b ∧ Q b
def wNot (g : Ev → W Bool) : Ev → W Bool := fun ρ Q => g ρ fun b => Q (!b)
def wAnd (ga gb : Ev → W Bool) : Ev → W Bool := fun ρ Q => ga ρ fun a => if a = true then gb ρ Q else Q false
def wOr (ga gb : Ev → W Bool) : Ev → W Bool := fun ρ Q => ga ρ fun a => if a = true then Q true else gb ρ Q
/-- and, or as values -/
def wAndV (ga gb : Ev → W PyData) : Ev → W PyData := fun ρ Q => ga ρ fun x => ∃ a, x = .bool a ∧ if a = true then gb ρ Q else Q (.bool false)
def wOrV (ga gb : Ev → W PyData) : Ev → W PyData := fun ρ Q => ga ρ fun x => ∃ a, x = .bool a ∧ if a = true then Q (.bool true) else gb ρ Q
def wNotV (g : Ev → W PyData) : Ev → W PyData := fun ρ Q => g ρ fun x => ∃ a, x = .bool a ∧ Q (.bool (!a))
def wIf {α : Type} (c : Ev → W Bool) (ga gb : Ev → W α) : Ev → W α := fun ρ Q => c ρ fun b => if b = true then ga ρ Q else gb ρ Q
theorem ite_mono {c : Prop} [Decidable c] {A B A' B' : Prop} (h : A → A') (h' : B → B') (q : if c then A else B) : if c then A' else B' := by
  by_cases e : c
  · rw [if_pos e] at q ⊢; exact h q
  · rw [if_neg e] at q ⊢; exact h' q
section
variable {X : Cx} {a b : Expr} {g ga gb : Ev → W PyData} {c ca cb : Ev → W Bool} {pos : Pos} {m : Md} {rest : List Expr}
theorem mono_wT (h : Mono g) : Mono (wT g) := fun ρ _ _ i q => h ρ _ _ (fun _ ⟨b, e, q⟩ => ⟨b, e, i b q⟩) q
theorem mono_wNot (h : Mono c) : Mono (wNot c) := fun ρ _ _ i q => h ρ _ _ (fun _ q => i _ q) q
theorem mono_wAnd (h : Mono ca) (h' : Mono cb) : Mono (wAnd ca cb) := fun ρ _ _ i q => h ρ _ _ (fun _ q => ite_mono (h' ρ _ _ i) (i _) q) q
theorem mono_wOr (h : Mono ca) (h' : Mono cb) : Mono (wOr ca cb) := fun ρ _ _ i q => h ρ _ _ (fun _ q => ite_mono (i _) (h' ρ _ _ i) q) q
theorem mono_wAndV (h : Mono ga) (h' : Mono gb) : Mono (wAndV ga gb) := fun ρ _ _ i q => h ρ _ _ (fun _ ⟨b, e, q⟩ => ⟨b, e, ite_mono (h' ρ _ _ i) (i _) q⟩) q
theorem mono_wOrV (h : Mono ga) (h' : Mono gb) : Mono (wOrV ga gb) := fun ρ _ _ i q => h ρ _ _ (fun _ ⟨b, e, q⟩ => ⟨b, e, ite_mono (i _) (h' ρ _ _ i) q⟩) q
theorem mono_wNotV (h : Mono g) : Mono (wNotV g) := fun ρ _ _ i q => h ρ _ _ (fun _ ⟨b, e, q⟩ => ⟨b, e, i _ q⟩) q
theorem mono_wIf {α : Type} {ga gb : Ev → W α} (hc : Mono c) (h : Mono ga) (h' : Mono gb) : Mono (wIf c ga gb) := fun ρ _ _ i q => hc ρ _ _ (fun _ q => ite_mono (h ρ _ _ i) (h' ρ _ _ i) q) q

theorem eb_val (h : EW X .B a g) (he : ∀ whole, isTrue a X.env whole = (do let v ← whole; standAt a.pos; holding [v] (truthy v)) := by intro _; rfl) : EB X a (wT g) :=
  ⟨mono_wT h.mono, (pt_val h.pe he).imp fun σ H Q ⟨B, P, ρ, R, q⟩ => ⟨B, P, ρ, R, h.mono ρ _ _ (fun d ⟨b, e, q⟩ v P' H' f r => by
    subst e
    exact ⟨b, r.bl, q P' H' f⟩) q⟩⟩
theorem eb_not (h : EB X a c) : EB X (.UnaryOp .Not a pos) (wNot c) :=
  ⟨mono_wNot h.mono, (pt_not h.pt).imp fun σ H Q ⟨B, P, ρ, R, q⟩ => ⟨B, P, ρ, R, h.mono ρ _ _ (fun b q P' H' f => q P' H' f) q⟩⟩
structure EBW (X : Cx) (e : Expr) (g : Ev → W Bool) : Prop where
  mono : Mono g
  pw : PW X e (tWb X.K g)
theorem _root_.L2.PW.imp {X : Cx} {e : Expr} {t t' : TT} (h : PW X e t) (i : ∀ σ H Q, t' σ H Q → t σ H Q) : PW X e t' := ⟨fun w pins s σ H Q I q => h.run w pins s σ H Q I (i _ _ _ q)⟩
theorem EBW.eb (h : EBW X a c) : EB X a c := ⟨h.mono, h.pw.pt⟩
theorem ebw_and1 (h : EB X a c) : EBW X (.BoolOp .And [a] pos) c := ⟨h.mono, pw_and1 h.pt⟩
theorem ebw_or1 (h : EB X a c) : EBW X (.BoolOp .Or [a] pos) c := ⟨h.mono, pw_or1 h.pt⟩
theorem ebw_and (h : EB X a ca) (h' : EBW X (.BoolOp .And (b :: rest) pos) cb) : EBW X (.BoolOp .And (a :: b :: rest) pos) (wAnd ca cb) :=
  ⟨mono_wAnd h.mono h'.mono, (pw_and h.pt h'.pw).imp fun σ H Q ⟨B, P, ρ, R, q⟩ => ⟨B, P, ρ, R, h.mono ρ _ _ (fun k q P1 H1 f1 => ite_mono (fun q => ⟨B, P1, ρ, R.fut f1, h'.mono ρ _ _ (fun _ q P2 H2 f2 => q P2 H2 (f1.trans0 f2)) q⟩) (fun q => q P1 H1 f1) q) q⟩⟩
theorem ebw_or (h : EB X a ca) (h' : EBW X (.BoolOp .Or (b :: rest) pos) cb) : EBW X (.BoolOp .Or (a :: b :: rest) pos) (wOr ca cb) :=
  ⟨mono_wOr h.mono h'.mono, (pw_or h.pt h'.pw).imp fun σ H Q ⟨B, P, ρ, R, q⟩ => ⟨B, P, ρ, R, h.mono ρ _ _ (fun k q P1 H1 f1 => ite_mono (fun q => q P1 H1 f1) (fun q => ⟨B, P1, ρ, R.fut f1, h'.mono ρ _ _ (fun _ q P2 H2 f2 => q P2 H2 (f1.trans0 f2)) q⟩) q) q⟩⟩
theorem eb_and (h : EB X a ca) (h' : EBW X (.BoolOp .And (b :: rest) pos) cb) : EB X (.BoolOp .And (a :: b :: rest) pos) (wAnd ca cb) := (ebw_and h h').eb
theorem eb_or (h : EB X a ca) (h' : EBW X (.BoolOp .Or (b :: rest) pos) cb) : EB X (.BoolOp .Or (a :: b :: rest) pos) (wOr ca cb) := (ebw_or h h').eb

theorem ew_one {op} (h : EW X m a g) : EW X m (.BoolOp op [a] pos) g := ⟨h.mono, pe_one h.pe⟩
theorem ew_and (h : EW X .S a ga) (h' : EW X .S (.BoolOp .And (b :: rest) pos) gb) : EW X .S (.BoolOp .And (a :: b :: rest) pos) (wAndV ga gb) :=
  ⟨mono_wAndV h.mono h'.mono, (pe_and h.pe h'.pe).imp fun σ H Q ⟨B, P, ρ, R, q⟩ => ⟨B, P, ρ, R, h.mono ρ _ _ (fun d ⟨k, e, q⟩ v P1 H1 f1 r => by
    subst e
    exact ⟨k, r, ite_mono (fun q => ⟨B, P1, ρ, R.fut f1, h'.mono ρ _ _ (fun _ q v P2 H2 f2 r2 => q v P2 H2 (f1.trans0 f2) r2) q⟩) (fun q => q _ P1 H1 f1 rfl) q⟩) q⟩⟩
theorem ew_or (h : EW X .S a ga) (h' : EW X .S (.BoolOp .Or (b :: rest) pos) gb) : EW X .S (.BoolOp .Or (a :: b :: rest) pos) (wOrV ga gb) :=
  ⟨mono_wOrV h.mono h'.mono, (pe_or h.pe h'.pe).imp fun σ H Q ⟨B, P, ρ, R, q⟩ => ⟨B, P, ρ, R, h.mono ρ _ _ (fun d ⟨k, e, q⟩ v P1 H1 f1 r => by
    subst e
    exact ⟨k, r, ite_mono (fun q => q _ P1 H1 f1 rfl) (fun q => ⟨B, P1, ρ, R.fut f1, h'.mono ρ _ _ (fun _ q v P2 H2 f2 r2 => q v P2 H2 (f1.trans0 f2) r2) q⟩) q⟩) q⟩⟩
theorem ew_not (h : EW X .S a g) : EW X .S (.UnaryOp .Not a pos) (wNotV g) :=
  ⟨mono_wNotV h.mono, (pe_not h.pe).imp fun σ H Q ⟨B, P, ρ, R, q⟩ => ⟨B, P, ρ, R, h.mono ρ _ _ (fun d ⟨k, e, q⟩ v P1 H1 f1 r => by
    subst e
    exact ⟨k, r, q _ P1 H1 f1 rfl⟩) q⟩⟩
theorem ew_if {t : Expr} (hc : EB X t c) (h : EW X m a ga) (h' : EW X m b gb) : EW X m (.IfExp t a b pos) (wIf c ga gb) :=
  ⟨mono_wIf hc.mono h.mono h'.mono, (pe_ifExp hc.pt h.pe h'.pe).imp fun σ H Q ⟨B, P, ρ, R, q⟩ => ⟨B, P, ρ, R, hc.mono ρ _ _ (fun k q P1 H1 f1 => ite_mono
    (fun q => ⟨B, P1, ρ, R.fut f1, h.mono ρ _ _ (fun _ q v P2 H2 f2 r2 => q v P2 H2 (f1.trans0 f2) (r2.back f1)) q⟩)
    (fun q => ⟨B, P1, ρ, R.fut f1, h'.mono ρ _ _ (fun _ q v P2 H2 f2 r2 => q v P2 H2 (f1.trans0 f2) (r2.back f1)) q⟩) q) q⟩⟩
end
end WL

namespace WL
open PySem PySem.Spec PyProof.Rows L2

/-! ### lists of expressions -/
def wNil : Ev → W (List PyData) := fun _ Q => Q []
def wCons (g : Ev → W PyData) (gs : Ev → W (List PyData)) : Ev → W (List PyData) := fun ρ Q => g ρ fun d => gs ρ fun ds => Q (d :: ds)
def wTup (gs : Ev → W (List PyData)) : Ev → W PyData := fun ρ Q => gs ρ fun ds => ds.length ≤ sizeLine ∧ Q (.tuple ds)
def wLst (gs : Ev → W (List PyData)) : Ev → W PyData := fun ρ Q => gs ρ fun ds => ds.length ≤ sizeLine ∧ Q (.list ds)
section
variable {X : Cx} {a b e : Expr} {es : List Expr} {g ga gb : Ev → W PyData} {gs : Ev → W (List PyData)} {pos : Pos} {m : Md}
theorem mono_wCons (h : Mono g) (h' : Mono gs) : Mono (wCons g gs) := fun ρ _ _ i q => h ρ _ _ (fun _ q => h' ρ _ _ (fun _ q => i _ q) q) q
theorem ea_nil : EA X [] wNil := ⟨fun _ _ _ i q => i _ q, pa_nil.imp fun σ H Q ⟨B, P, ρ, R, q⟩ => q [] P H (.refl R.pots) rfl⟩
theorem ea_cons (h : EW X .S e g) (h' : EA X es gs) (hs : starEach (e :: es) X.env = (false, eval e X.env) :: starEach es X.env := by rfl) : EA X (e :: es) (wCons g gs) :=
  ⟨mono_wCons h.mono h'.mono, (pa_cons h.pe h'.pa hs).imp fun σ H Q ⟨B, P, ρ, R, q⟩ => ⟨B, P, ρ, R, h.mono ρ _ _ (fun d q v P1 H1 f1 r1 => ⟨B, P1, ρ, R.fut f1, h'.mono ρ _ _ (fun ds q vs P2 H2 f2 r2 =>
    q (v :: vs) P2 H2 (f1.trans0 f2) ⟨v, vs, rfl, Rp.fut0 f2 r1, r2⟩) q⟩) q⟩⟩
theorem ew_tup {k} (h : EA X es gs) : EW X .S (.Tuple es k pos) (wTup gs) :=
  ⟨fun ρ _ _ i q => h.mono ρ _ _ (fun _ ⟨z, q⟩ => ⟨z, i _ q⟩) q, (pe_tup h.pa).imp fun σ H Q ⟨B, P, ρ, R, q⟩ => ⟨B, P, ρ, R, h.mono ρ _ _ (fun ds ⟨z, q⟩ vs P1 H1 f1 r1 => ⟨by rw [r1.len]; exact z, fun p hp => by
    have f2 : Fut S0 P1 H1 P1 (upd H1 p (.tup vs)) := .new f1.ok' hp
    exact q (.ref p) P1 _ (f1.trans0 f2) ⟨p, vs, rfl, .inl (.inl upd_same), r1.fut0 f2⟩⟩) q⟩⟩
theorem ew_lst (h : EA X es gs) : EW X .F (.List es pos) (wLst gs) :=
  ⟨fun ρ _ _ i q => h.mono ρ _ _ (fun _ ⟨z, q⟩ => ⟨z, i _ q⟩) q, (pe_lst h.pa).imp fun σ H Q ⟨B, P, ρ, R, q⟩ => ⟨B, P, ρ, R, h.mono ρ _ _ (fun ds ⟨z, q⟩ vs P1 H1 f1 r1 => ⟨by rw [r1.len]; exact z,
    new_list (M := Mo B ρ σ) f1.ok' r1 (fun a h => (R.fut f1).mtrk h) fun v P2 H2 f2 r2 => q v P2 H2 (f1.trans0 f2) (r2.back f1)⟩) q⟩⟩
end

/-! ### built-ins of one argument -/
section
variable {X : Cx} {a b e : Expr} {g : Ev → W PyData} {pos p : Pos} {m : Md} {x : Str} {id T : String} {r : List V → Hp → VK → Prop} {op : PyData → Option PyData}
theorem ew_callB (U : UnOk X.K m (fun v => r [v]) op) (hc : CallR X (.builtin id) r) (hg : Gl X x) (hm : X.mg x = none) (hv : bootBuiltins x = some (.builtin id)) (ha : EW X .B e g) (hn : x ≠ "__name__" := by decide) (hdb : (x == ("__debug__" : Str)) = false := by decide)
    (hs : starEach [e] X.env = (false, eval e X.env) :: starEach [] X.env := by rfl) : EW X m (.Call (.Name x p) [e] [] pos) (wU op g) :=
  ew_un U ha fun t ht => pe_callB hc hg hm hv (pa_cons ht pa_nil hs) hn hdb hs rfl
theorem ew_callTy (U : UnOk X.K m (fun v => r [v]) op) (hc : CallR X (.type T) r) (hg : Gl X x) (hm : X.mg x = none) (hv : bootBuiltins x = some (.type T)) (ha : EW X .B e g) (hn : x ≠ "__name__" := by decide) (hdb : (x == ("__debug__" : Str)) = false := by decide)
    (hs : starEach [e] X.env = (false, eval e X.env) :: starEach [] X.env := by rfl) : EW X m (.Call (.Name x p) [e] [] pos) (wU op g) :=
  ew_un U ha fun t ht => pe_callTy hc hg hm hv (pa_cons ht pa_nil hs) hn hdb hs rfl
end
def lenD : PyData → Option PyData
  | .list ds => some (.int ds.length)
  | .tuple ds => some (.int ds.length)
  | .str x => if x.length ≤ sizeLine then some (.int x.length) else none
  | _ => none
def allBools : List PyData → Option (List Bool)
  | [] => some []
  | .bool b :: ds => (allBools ds).map (b :: ·)
  | _ :: _ => none
def allD : PyData → Option PyData
  | .list ds => (allBools ds).map fun bs => .bool (bs.all id)
  | _ => none
def anyD : PyData → Option PyData
  | .list ds => (allBools ds).map fun bs => .bool (bs.any id)
  | _ => none
def allInts : List PyData → Option (List Int)
  | [] => some []
  | .int i :: ds => (allInts ds).map (i :: ·)
  | _ :: _ => none
def sumD : PyData → Option PyData
  | .list ds => (allInts ds).map fun ns => .int ns.sum
  | _ => none
def maxD : PyData → Option PyData
  | .list (d :: ds) => (allInts (d :: ds)).map fun ns => .int (ns.foldl max ns.head!)
  | _ => none
def minD : PyData → Option PyData
  | .list (d :: ds) => (allInts (d :: ds)).map fun ns => .int (ns.foldl min ns.head!)
  | _ => none
def tupleD : PyData → Option PyData
  | .list ds => some (.tuple ds)
  | .tuple ds => some (.tuple ds)
  | _ => none
def listD : PyData → Option PyData
  | .list ds => some (.list ds)
  | .tuple ds => some (.list ds)
  | _ => none
def absD : PyData → Option PyData
  | .int i => some (.int (if i < 0 then -i else i))
  | _ => none
def intD : PyData → Option PyData
  | .int i => some (.int i)
  | .bool b => some (.int (if b then 1 else 0))
  | _ => none
section
variable {K : PySem.W.Frag} {H : Hp} {M P : Addr → Prop}
theorem bools_of : ∀ {ds : List PyData} {vs : List V} {bs : List Bool}, allBools ds = some bs → RpA K H M P ds vs → vs = bs.map V.bl
  | [], _, _, e, h => by cases e; exact h
  | .bool b :: ds, _, bs, e, h => by
    obtain ⟨v, r, rfl, h1, h2⟩ := h
    obtain rfl : v = .bl b := h1
    cases q : allBools ds with
    | none => simp [allBools, q] at e
    | some cs =>
      simp [allBools, q] at e
      subst e
      rw [bools_of q h2]
      rfl
  | .none :: _, _, _, e, _ => nomatch e
  | .int _ :: _, _, _, e, _ => nomatch e
  | .str _ :: _, _, _, e, _ => nomatch e
  | .list _ :: _, _, _, e, _ => nomatch e
  | .tuple _ :: _, _, _, e, _ => nomatch e
  | .dict _ :: _, _, _, e, _ => nomatch e
theorem ints_of : ∀ {ds : List PyData} {vs : List V} {bs : List Int}, allInts ds = some bs → RpA K H M P ds vs → vs = bs.map V.int
  | [], _, _, e, h => by cases e; exact h
  | .int b :: ds, _, bs, e, h => by
    obtain ⟨v, r, rfl, h1, h2⟩ := h
    obtain rfl : v = .int b := h1
    cases q : allInts ds with
    | none => simp [allInts, q] at e
    | some cs =>
      simp [allInts, q] at e
      subst e
      rw [ints_of q h2]
      rfl
  | .none :: _, _, _, e, _ => nomatch e
  | .bool _ :: _, _, _, e, _ => nomatch e
  | .str _ :: _, _, _, e, _ => nomatch e
  | .list _ :: _, _, _, e, _ => nomatch e
  | .tuple _ :: _, _, _, e, _ => nomatch e
  | .dict _ :: _, _, _, e, _ => nomatch e
theorem foldl_max_ge (ns : List Int) : ∀ a, a ≤ ns.foldl max a ∧ ∀ y ∈ ns, y ≤ ns.foldl max a := by
  induction ns with
  | nil => intro a; exact ⟨Int.le_refl _, fun y h => nomatch h⟩
  | cons n r ih =>
    intro a
    obtain ⟨h1, h2⟩ := ih (max a n)
    refine ⟨by have := Int.le_max_left a n; rw [List.foldl_cons]; omega, fun y hy => ?_⟩
    rw [List.foldl_cons]
    rcases List.mem_cons.mp hy with rfl | hy
    · have := Int.le_max_right a y; omega
    · exact h2 y hy
theorem foldl_max_mem (ns : List Int) : ∀ a, ns.foldl max a = a ∨ ns.foldl max a ∈ ns := by
  induction ns with
  | nil => intro a; exact .inl rfl
  | cons n r ih =>
    intro a
    rw [List.foldl_cons]
    rcases ih (max a n) with e | e
    · rw [e]
      by_cases h : a ≤ n
      · rw [Int.max_eq_right h]; exact .inr List.mem_cons_self
      · rw [Int.max_eq_left (by omega)]; exact .inl rfl
    · exact .inr (List.mem_cons_of_mem _ e)
theorem foldl_min_le (ns : List Int) : ∀ a, ns.foldl min a ≤ a ∧ ∀ y ∈ ns, ns.foldl min a ≤ y := by
  induction ns with
  | nil => intro a; exact ⟨Int.le_refl _, fun y h => nomatch h⟩
  | cons n r ih =>
    intro a
    obtain ⟨h1, h2⟩ := ih (min a n)
    refine ⟨by have := Int.min_le_left a n; rw [List.foldl_cons]; omega, fun y hy => ?_⟩
    rw [List.foldl_cons]
    rcases List.mem_cons.mp hy with rfl | hy
    · have := Int.min_le_right a y; omega
    · exact h2 y hy
theorem foldl_min_mem (ns : List Int) : ∀ a, ns.foldl min a = a ∨ ns.foldl min a ∈ ns := by
  induction ns with
  | nil => intro a; exact .inl rfl
  | cons n r ih =>
    intro a
    rw [List.foldl_cons]
    rcases ih (min a n) with e | e
    · rw [e]
      by_cases h : a ≤ n
      · rw [Int.min_eq_left h]; exact .inl rfl
      · rw [Int.min_eq_right (by omega)]; exact .inr List.mem_cons_self
    · exact .inr (List.mem_cons_of_mem _ e)
theorem un_len : UnOk K .S (fun v H Q => (∃ p ys, [v] = [V.ref p] ∧ (SqL K H p ys ∨ SqT K H p ys) ∧ Q (.int ys.length) H) ∨ ∃ z, [v] = [V.str z] ∧ z.length ≤ sizeLine ∧ Q (.int z.length) H) lenD := by
  intro M P H x dx d Q fx po mt rx e k
  cases dx with
  | list ds =>
    cases e
    obtain ⟨a, vs, rfl, l, r⟩ := rx.lst
    refine .inl ⟨a, vs, rfl, .inl l, ?_⟩
    rw [r.len]
    exact k _ P H (.refl po) rfl
  | tuple ds =>
    cases e
    obtain ⟨a, vs, rfl, l, r⟩ := rx.tup
    refine .inl ⟨a, vs, rfl, .inr l, ?_⟩
    rw [r.len]
    exact k _ P H (.refl po) rfl
  | str z =>
    have e : (if z.length ≤ sizeLine then some (PyData.int z.length) else none) = some d := e
    split at e
    · rename_i c
      cases e
      obtain rfl := rx.str
      exact .inr ⟨z, rfl, c, k _ P H (.refl po) rfl⟩
    · cases e
  | _ => exact nomatch e
theorem un_all : UnOk K .S (fun v => rAll K [v]) allD := by
  intro M P H x dx d Q fx po mt rx e k
  cases dx with
  | list ds =>
    obtain ⟨a, vs, rfl, l, r⟩ := rx.lst
    cases q : allBools ds with
    | none => simp [allD, q] at e
    | some bs =>
      simp [allD, q] at e
      subst e
      exact ⟨a, bs, rfl, by rw [← bools_of q r]; exact l, k _ P H (.refl po) (by show _ = _; simp)⟩
  | _ => exact nomatch e
theorem un_any : UnOk K .S (fun v => rAny K [v]) anyD := by
  intro M P H x dx d Q fx po mt rx e k
  cases dx with
  | list ds =>
    obtain ⟨a, vs, rfl, l, r⟩ := rx.lst
    cases q : allBools ds with
    | none => simp [anyD, q] at e
    | some bs =>
      simp [anyD, q] at e
      subst e
      exact ⟨a, bs, rfl, by rw [← bools_of q r]; exact l, k _ P H (.refl po) (by show _ = _; simp)⟩
  | _ => exact nomatch e
theorem un_sum : UnOk K .S (fun v => rSum K [v]) sumD := by
  intro M P H x dx d Q fx po mt rx e k
  cases dx with
  | list ds =>
    obtain ⟨a, vs, rfl, l, r⟩ := rx.lst
    cases q : allInts ds with
    | none => simp [sumD, q] at e
    | some bs =>
      simp [sumD, q] at e
      subst e
      exact ⟨a, bs, rfl, by rw [← ints_of q r]; exact l, k _ P H (.refl po) rfl⟩
  | _ => exact nomatch e
theorem un_max : UnOk K .S (fun v => rMax K [v]) maxD := by
  intro M P H x dx d Q fx po mt rx e k
  cases dx with
  | list ds =>
    obtain ⟨a, vs, rfl, l, r⟩ := rx.lst
    cases ds with
    | nil => exact nomatch e
    | cons d0 ds =>
      cases q : allInts (d0 :: ds) with
      | none => simp [maxD, q] at e
      | some bs =>
        simp [maxD, q] at e
        subst e
        have hv := ints_of q r
        cases bs with
        | nil =>
          have := r.len
          rw [hv] at this
          simp at this
        | cons n ns =>
          refine ⟨a, n :: ns, rfl, by rw [← hv]; exact l, by simp, fun m hm hle => ?_⟩
          have e2 : m = (n :: ns).foldl max n := by
            obtain ⟨h1, h2⟩ := foldl_max_ge (n :: ns) n
            have h3 := h2 m hm
            rcases foldl_max_mem (n :: ns) n with h4 | h4
            · rw [h4] at h3 ⊢
              have := hle n List.mem_cons_self
              omega
            · have := hle _ h4
              omega
          rw [e2]
          exact k _ P H (.refl po) rfl
  | _ => exact nomatch e
theorem un_min : UnOk K .S (fun v => rMin K [v]) minD := by
  intro M P H x dx d Q fx po mt rx e k
  cases dx with
  | list ds =>
    obtain ⟨a, vs, rfl, l, r⟩ := rx.lst
    cases ds with
    | nil => exact nomatch e
    | cons d0 ds =>
      cases q : allInts (d0 :: ds) with
      | none => simp [minD, q] at e
      | some bs =>
        simp [minD, q] at e
        subst e
        have hv := ints_of q r
        cases bs with
        | nil =>
          have := r.len
          rw [hv] at this
          simp at this
        | cons n ns =>
          refine ⟨a, n :: ns, rfl, by rw [← hv]; exact l, by simp, fun m hm hle => ?_⟩
          have e2 : m = (n :: ns).foldl min n := by
            obtain ⟨h1, h2⟩ := foldl_min_le (n :: ns) n
            have h3 := h2 m hm
            rcases foldl_min_mem (n :: ns) n with h4 | h4
            · rw [h4] at h3 ⊢
              have := hle n List.mem_cons_self
              omega
            · have := hle _ h4
              omega
          rw [e2]
          exact k _ P H (.refl po) rfl
  | _ => exact nomatch e
theorem un_tuple : UnOk K .S (fun v H Q => ∃ p ys, [v] = [V.ref p] ∧ ((SqL K H p ys ∧ ∀ l, H l = none → Q (.ref l) (upd H l (.tup ys))) ∨ (SqT K H p ys ∧ Q (.ref p) H))) tupleD := by
  intro M P H x dx d Q fx po mt rx e k
  cases dx with
  | list ds =>
    cases e
    obtain ⟨a, vs, rfl, l, r⟩ := rx.lst
    exact ⟨a, vs, rfl, .inl ⟨l, fun p hp => k _ P _ (.new po hp) ⟨p, vs, rfl, .inl (.inl upd_same), r.fut0 (.new po hp)⟩⟩⟩
  | tuple ds =>
    cases e
    obtain ⟨a, vs, rfl, l, r⟩ := rx.tup
    exact ⟨a, vs, rfl, .inr ⟨l, k _ P H (.refl po) ⟨a, vs, rfl, l, r⟩⟩⟩
  | _ => exact nomatch e
theorem un_list : UnOk K .F (fun v H Q => ∃ p ys, [v] = [V.ref p] ∧ (SqL K H p ys ∨ SqT K H p ys) ∧ ∀ l, H l = none → Q (.ref l) (upd H l (.lst ys))) listD := by
  intro M P H x dx d Q fx po mt rx e k
  cases dx with
  | list ds =>
    cases e
    obtain ⟨a, vs, rfl, l, r⟩ := rx.lst
    exact ⟨a, vs, rfl, .inl l, new_list po r mt k⟩
  | tuple ds =>
    cases e
    obtain ⟨a, vs, rfl, l, r⟩ := rx.tup
    exact ⟨a, vs, rfl, .inr l, new_list po r mt k⟩
  | _ => exact nomatch e
end
theorem un_abs {K : PySem.W.Frag} : UnOk K .S (fun v H Q => ∃ i, [v] = [V.int i] ∧ Q (.int (if i < 0 then -i else i)) H) absD := by
  intro M P H x dx d Q fx po mt rx e k
  cases dx with
  | int i =>
    cases e
    obtain rfl := rx.int
    exact ⟨i, rfl, k _ P H (.refl po) rfl⟩
  | _ => exact nomatch e
theorem un_int {K : PySem.W.Frag} : UnOk K .S (fun v H Q => (∃ i, [v] = [V.int i] ∧ Q (.int i) H) ∨ ∃ k, [v] = [V.bl k] ∧ Q (.int (if k then 1 else 0)) H) intD := by
  intro M P H x dx d Q fx po mt rx e k
  cases dx with
  | int i =>
    cases e
    obtain rfl := rx.int
    exact .inl ⟨i, rfl, k _ P H (.refl po) rfl⟩
  | bool b =>
    cases e
    obtain rfl := rx.bl
    exact .inr ⟨b, rfl, k _ P H (.refl po) rfl⟩
  | _ => exact nomatch e
section
variable {X : Cx} {a b e : Expr} {g ga gb : Ev → W PyData} {pos p : Pos}
theorem ew_len (hg : Gl X "len") (hm : X.mg "len" = none) (ha : EW X .B e g) (hs : starEach [e] X.env = (false, eval e X.env) :: starEach [] X.env := by rfl) : EW X .S (.Call (.Name "len" p) [e] [] pos) (wU lenD g) :=
  ew_callB un_len (CallR.or call_len_seq call_len_str) hg hm PySem.boot_len ha (hs := hs)
theorem ew_all (hg : Gl X "all") (hm : X.mg "all" = none) (ha : EW X .B e g) (hc : X.calm = true := by rfl) (hs : starEach [e] X.env = (false, eval e X.env) :: starEach [] X.env := by rfl) : EW X .S (.Call (.Name "all" p) [e] [] pos) (wU allD g) :=
  ew_callB un_all (cr_all hc) hg hm (by decide +kernel) ha (hs := hs)
theorem ew_any (hg : Gl X "any") (hm : X.mg "any" = none) (ha : EW X .B e g) (hc : X.calm = true := by rfl) (hs : starEach [e] X.env = (false, eval e X.env) :: starEach [] X.env := by rfl) : EW X .S (.Call (.Name "any" p) [e] [] pos) (wU anyD g) :=
  ew_callB un_any (cr_any hc) hg hm (by decide +kernel) ha (hs := hs)
theorem ew_sum (hg : Gl X "sum") (hm : X.mg "sum" = none) (ha : EW X .B e g) (hc : X.calm = true := by rfl) (hs : starEach [e] X.env = (false, eval e X.env) :: starEach [] X.env := by rfl) : EW X .S (.Call (.Name "sum" p) [e] [] pos) (wU sumD g) :=
  ew_callB un_sum (cr_sum hc) hg hm (by decide +kernel) ha (hs := hs)
theorem ew_max1 (hg : Gl X "max") (hm : X.mg "max" = none) (ha : EW X .B e g) (hc : X.calm = true := by rfl) (hs : starEach [e] X.env = (false, eval e X.env) :: starEach [] X.env := by rfl) : EW X .S (.Call (.Name "max" p) [e] [] pos) (wU maxD g) :=
  ew_callB un_max (cr_max hc) hg hm (by decide +kernel) ha (hs := hs)
theorem ew_min1 (hg : Gl X "min") (hm : X.mg "min" = none) (ha : EW X .B e g) (hc : X.calm = true := by rfl) (hs : starEach [e] X.env = (false, eval e X.env) :: starEach [] X.env := by rfl) : EW X .S (.Call (.Name "min" p) [e] [] pos) (wU minD g) :=
  ew_callB un_min (cr_min hc) hg hm (by decide +kernel) ha (hs := hs)
theorem ew_tuple (hg : Gl X "tuple") (hm : X.mg "tuple" = none) (ha : EW X .B e g) (hs : starEach [e] X.env = (false, eval e X.env) :: starEach [] X.env := by rfl) : EW X .S (.Call (.Name "tuple" p) [e] [] pos) (wU tupleD g) :=
  ew_callTy un_tuple call_tuple_of hg hm (by decide +kernel) ha (hs := hs)
theorem ew_list (hg : Gl X "list") (hm : X.mg "list" = none) (ha : EW X .B e g) (hs : starEach [e] X.env = (false, eval e X.env) :: starEach [] X.env := by rfl) : EW X .F (.Call (.Name "list" p) [e] [] pos) (wU listD g) :=
  ew_callTy un_list call_list_of hg hm (by decide +kernel) ha (hs := hs)
theorem ew_abs (hg : Gl X "abs") (hm : X.mg "abs" = none) (ha : EW X .B e g) (hs : starEach [e] X.env = (false, eval e X.env) :: starEach [] X.env := by rfl) : EW X .S (.Call (.Name "abs" p) [e] [] pos) (wU absD g) :=
  ew_callB un_abs call_abs hg hm (by decide +kernel) ha (hs := hs)
theorem ew_int1 (hg : Gl X "int") (hm : X.mg "int" = none) (ha : EW X .B e g) (hs : starEach [e] X.env = (false, eval e X.env) :: starEach [] X.env := by rfl) : EW X .S (.Call (.Name "int" p) [e] [] pos) (wU intD g) :=
  ew_callTy un_int call_int1 hg hm (by decide +kernel) ha (hs := hs)
end

/-! ### built-ins of two arguments -/
section
variable {X : Cx} {a b e : Expr} {g ga gb : Ev → W PyData} {pos p : Pos} {m : Md} {x : Str} {id T : String} {r : List V → Hp → VK → Prop} {op : PyData → PyData → Option PyData}
theorem ew_callB2 (U : BinOk X.K m (fun v u => r [v, u]) op) (hc : CallR X (.builtin id) r) (hg : Gl X x) (hm : X.mg x = none) (hv : bootBuiltins x = some (.builtin id)) (ha : EW X .B a ga) (hb : EW X .B b gb) (hn : x ≠ "__name__" := by decide) (hdb : (x == ("__debug__" : Str)) = false := by decide)
    (hs : starEach [a, b] X.env = (false, eval a X.env) :: starEach [b] X.env := by rfl) (hs2 : starEach [b] X.env = (false, eval b X.env) :: starEach [] X.env := by rfl) (hpl : (backTo pos (starEach [b] X.env)).any (·.1) = false := by rfl) : EW X m (.Call (.Name x p) [a, b] [] pos) (wB op ga gb) :=
  ew_bin U ha hb fun ta tb hta htb => pe_callB hc hg hm hv (pa_cons hta (pa_cons htb pa_nil hs2) hs) hn hdb hs hpl
abbrev max2D : PyData → PyData → Option PyData := intOp fun i j => .int (if j > i then j else i)
abbrev min2D : PyData → PyData → Option PyData := intOp fun i j => .int (if j < i then j else i)
theorem bin_call2 {K : PySem.W.Frag} {f : Int → Int → Int} : BinOk K .S (fun v u H Q => ∃ i j, [v, u] = [V.int i, V.int j] ∧ Q (.int (f i j)) H) (intOp fun i j => .int (f i j)) := by
  intro M P H x y dx dy d Q fx po mt rx ry e k
  cases dx with
  | int i =>
    cases dy with
    | int j =>
      cases e
      obtain rfl := rx.int
      obtain rfl := ry.int
      exact ⟨i, j, rfl, k _ P H (.refl po) rfl⟩
    | _ => exact nomatch e
  | _ => exact nomatch e
theorem ew_max2 (hg : Gl X "max") (hm : X.mg "max" = none) (ha : EW X .B a ga) (hb : EW X .B b gb) (hc : X.calm = true := by rfl)
    (hs : starEach [a, b] X.env = (false, eval a X.env) :: starEach [b] X.env := by rfl) (hs2 : starEach [b] X.env = (false, eval b X.env) :: starEach [] X.env := by rfl) (hpl : (backTo pos (starEach [b] X.env)).any (·.1) = false := by rfl) : EW X .S (.Call (.Name "max" p) [a, b] [] pos) (wB max2D ga gb) :=
  ew_callB2 bin_call2 (call_max2 hc) hg hm (by decide +kernel) ha hb (hs := hs) (hs2 := hs2) (hpl := hpl)
theorem ew_min2 (hg : Gl X "min") (hm : X.mg "min" = none) (ha : EW X .B a ga) (hb : EW X .B b gb) (hc : X.calm = true := by rfl)
    (hs : starEach [a, b] X.env = (false, eval a X.env) :: starEach [b] X.env := by rfl) (hs2 : starEach [b] X.env = (false, eval b X.env) :: starEach [] X.env := by rfl) (hpl : (backTo pos (starEach [b] X.env)).any (·.1) = false := by rfl) : EW X .S (.Call (.Name "min" p) [a, b] [] pos) (wB min2D ga gb) :=
  ew_callB2 bin_call2 (call_min2 hc) hg hm (by decide +kernel) ha hb (hs := hs) (hs2 := hs2) (hpl := hpl)
def divmodD : PyData → PyData → Option PyData := intOpC CDiv fun i j => .tuple [.int (i / j), .int (i % j)]
theorem bin_divmod {K : PySem.W.Frag} : BinOk K .S (fun v u H Q => ∃ i j, [v, u] = [V.int i, V.int j] ∧ CDiv i j ∧ ∀ p, H p = none → Q (.ref p) (upd H p (.tup [.int (i / j), .int (i % j)]))) divmodD := by
  intro M P H x y dx dy d Q fx po mt rx ry e k
  cases dx with
  | int i =>
    cases dy with
    | int j =>
      have e : (if CDiv i j then some (PyData.tuple [.int (i / j), .int (i % j)]) else none) = some d := e
      by_cases c : CDiv i j
      · rw [if_pos c] at e
        cases e
        obtain rfl := rx.int
        obtain rfl := ry.int
        exact ⟨i, j, rfl, c, fun p hp => k _ P _ (.new po hp) ⟨p, _, rfl, .inl (.inl upd_same), _, _, rfl, rfl, _, _, rfl, rfl, rfl⟩⟩
      · rw [if_neg c] at e
        cases e
    | _ => exact nomatch e
  | _ => exact nomatch e
theorem ew_divmod (hg : Gl X "divmod") (hm : X.mg "divmod" = none) (ha : EW X .B a ga) (hb : EW X .B b gb)
    (hs : starEach [a, b] X.env = (false, eval a X.env) :: starEach [b] X.env := by rfl) (hs2 : starEach [b] X.env = (false, eval b X.env) :: starEach [] X.env := by rfl) (hpl : (backTo pos (starEach [b] X.env)).any (·.1) = false := by rfl) : EW X .S (.Call (.Name "divmod" p) [a, b] [] pos) (wB divmodD ga gb) :=
  ew_callB2 bin_divmod call_divmod hg hm (by decide +kernel) ha hb (hs := hs) (hs2 := hs2) (hpl := hpl)
end

/-! ### isinstance -/
inductive Ty where
  | int | bool | str | tuple | list | dict
def Ty.nm : Ty → String
  | .int => "int" | .bool => "bool" | .str => "str" | .tuple => "tuple" | .list => "list" | .dict => "dict"
def tyOf : PyData → Option String
  | .none => some "NoneType" | .bool _ => some "bool" | .int _ => some "int" | .str _ => some "str" | .list _ => some "list" | .tuple _ => some "tuple"
  | .dict kvs => if kvs.isEmpty then some "dict" else none
def isTy : Ty → PyData → Bool
  | .int, .int _ => true
  | .int, .bool _ => true
  | .bool, .bool _ => true
  | .str, .str _ => true
  | .tuple, .tuple _ => true
  | .list, .list _ => true
  | .dict, .dict _ => true
  | _, _ => false
def noTok : PyData → Bool
  | .dict kvs => kvs.isEmpty
  | _ => true
def isiD (T : Ty) (d : PyData) : Option PyData := if noTok d then some (.bool (isTy T d)) else none
def isi2D (T U : Ty) (d : PyData) : Option PyData := if noTok d then some (.bool (isTy T d || isTy U d)) else none
theorem kit_isTy : ∀ (T : Ty) (d : PyData) (t : String), tyOf d = some t → kitB t T.nm = some (isTy T d) := by
  intro T d t e
  cases d with
  | none =>
    cases e
    cases T <;> first | exact (show kitB "NoneType" _ = some true by decide +kernel) | exact (show kitB "NoneType" _ = some false by decide +kernel)
  | bool _ =>
    cases e
    cases T <;> first | exact (show kitB "bool" _ = some true by decide +kernel) | exact (show kitB "bool" _ = some false by decide +kernel)
  | int _ =>
    cases e
    cases T <;> first | exact (show kitB "int" _ = some true by decide +kernel) | exact (show kitB "int" _ = some false by decide +kernel)
  | str _ =>
    cases e
    cases T <;> first | exact (show kitB "str" _ = some true by decide +kernel) | exact (show kitB "str" _ = some false by decide +kernel)
  | list _ =>
    cases e
    cases T <;> first | exact (show kitB "list" _ = some true by decide +kernel) | exact (show kitB "list" _ = some false by decide +kernel)
  | tuple _ =>
    cases e
    cases T <;> first | exact (show kitB "tuple" _ = some true by decide +kernel) | exact (show kitB "tuple" _ = some false by decide +kernel)
  | dict kvs =>
    have e : (if kvs.isEmpty then some "dict" else none) = some t := e
    split at e
    · cases e
      cases T <;> first | exact (show kitB "dict" _ = some true by decide +kernel) | exact (show kitB "dict" _ = some false by decide +kernel)
    · cases e
theorem ty_of {K : PySem.W.Frag} {H H0 : Hp} {M P : Addr → Prop} {d : PyData} {v : V} (f : noTok d = true) (h : RM .B K M H0 P H d v) : ∃ t, tyOf d = some t ∧ TyX K H v (.type t) := by
  rcases h with h | ⟨ds, a, vs, rfl, rfl, l, _⟩
  · cases d with
    | none => subst h; exact ⟨_, rfl, .base .non⟩
    | bool b => subst h; exact ⟨_, rfl, .base (.bl b)⟩
    | int b => subst h; exact ⟨_, rfl, .base (.int b)⟩
    | str b => subst h; exact ⟨_, rfl, .base (.str b)⟩
    | list ds =>
      obtain ⟨a, vs, rfl, l, _⟩ := h
      refine ⟨_, rfl, ?_⟩
      rcases l with ⟨l, _⟩ | ⟨o, l⟩ | ⟨o, its, n, l, c, _⟩
      · exact .base (.lst l)
      · exact .base (.frz l)
      · exact .kList l c
    | tuple ds =>
      obtain ⟨a, vs, rfl, l, _⟩ := h
      refine ⟨_, rfl, ?_⟩
      rcases l with (l | ⟨o, l⟩) | ⟨o, its, n, l, c, _⟩
      · exact .base (.tup l)
      · exact .fTuple l
      · exact .kTuple l c
    | dict kvs =>
      rcases h with ⟨rfl, a, rfl, l⟩ | ⟨rfl, _⟩
      · exact ⟨_, rfl, .base (.dK l)⟩
      · exact nomatch f
  · exact ⟨_, rfl, .base (.lst l)⟩
section
variable {X : Cx} {a b e : Expr} {g ga gb : Ev → W PyData} {pos p p2 p3 p4 : Pos}
theorem ew_isi (T : Ty) {tn : Str} (hg : Gl X "isinstance") (hm : X.mg "isinstance" = none) (hgt : Gl X tn) (hmt : X.mg tn = none) (hbt : bootBuiltins tn = some (.type T.nm)) (ha : EW X .B e g)
    (hs : starEach [e, .Name tn p2] X.env = (false, eval e X.env) :: starEach [.Name tn p2] X.env := by rfl) (hs2 : starEach [Expr.Name tn p2] X.env = (false, eval (.Name tn p2) X.env) :: starEach [] X.env := by rfl) (hpl : (backTo pos (starEach [Expr.Name tn p2] X.env)).any (·.1) = false := by rfl)
    (hn : tn ≠ "__name__" := by decide) (hdb : (tn == ("__debug__" : Str)) = false := by decide) : EW X .S (.Call (.Name "isinstance" p) [e, .Name tn p2] [] pos) (wU (isiD T) g) := by
  refine ew_un (r := fun v H Q => rIsi X.K [v, .ty T.nm] H Q) (fun M P H x dx d Q fx po mt rx e k => ?_) ha fun t ht =>
    (pe_callB call_isi hg hm (by decide +kernel) (pa_cons ht (pa_cons (pe_bltn (v := .ty T.nm) hgt hmt hbt rfl hn hdb) pa_nil hs2) hs) (by decide) (by decide) hs hpl).imp fun σ H Q q => q
  unfold isiD at e
  split at e
  · rename_i f
    cases e
    obtain ⟨t, e1, e2⟩ := ty_of f rx
    exact ⟨x, .ty T.nm, _, _, _, rfl, .ty _, e2, kit_ty (kit_isTy T dx t e1), k _ P H (.refl po) rfl⟩
  · cases e
theorem ew_isi2 (T U : Ty) {tn un : Str} {k1} (hg : Gl X "isinstance") (hm : X.mg "isinstance" = none) (hgt : Gl X tn) (hmt : X.mg tn = none) (hbt : bootBuiltins tn = some (.type T.nm)) (hgu : Gl X un) (hmu : X.mg un = none) (hbu : bootBuiltins un = some (.type U.nm)) (ha : EW X .B e g)
    (hs : starEach [e, .Tuple [.Name tn p2, .Name un p3] k1 p4] X.env = (false, eval e X.env) :: starEach [.Tuple [.Name tn p2, .Name un p3] k1 p4] X.env := by rfl)
    (hs2 : starEach [Expr.Tuple [.Name tn p2, .Name un p3] k1 p4] X.env = (false, eval (.Tuple [.Name tn p2, .Name un p3] k1 p4) X.env) :: starEach [] X.env := by rfl)
    (hs3 : starEach [Expr.Name tn p2, .Name un p3] X.env = (false, eval (.Name tn p2) X.env) :: starEach [.Name un p3] X.env := by rfl) (hs4 : starEach [Expr.Name un p3] X.env = (false, eval (.Name un p3) X.env) :: starEach [] X.env := by rfl)
    (hpl : (backTo pos (starEach [Expr.Tuple [.Name tn p2, .Name un p3] k1 p4] X.env)).any (·.1) = false := by rfl)
    (hn : tn ≠ "__name__" := by decide) (hdb : (tn == ("__debug__" : Str)) = false := by decide) (hn2 : un ≠ "__name__" := by decide) (hdb2 : (un == ("__debug__" : Str)) = false := by decide) :
    EW X .S (.Call (.Name "isinstance" p) [e, .Tuple [.Name tn p2, .Name un p3] k1 p4] [] pos) (wU (isi2D T U) g) := by
  refine ew_un (r := fun v H Q => 2 ≤ sizeLine ∧ ∀ q, H q = none → rIsiT X.K [v, .ref q] (upd H q (.tup [.ty T.nm, .ty U.nm])) Q) (fun M P H x dx d Q fx po mt rx e k => ?_) ha fun t ht =>
    (pe_callB call_isiT hg hm (by decide +kernel) (pa_cons ht (pa_cons (pe_tup (pa_cons (pe_bltn (v := .ty T.nm) hgt hmt hbt rfl hn hdb) (pa_cons (pe_bltn (v := .ty U.nm) hgu hmu hbu rfl hn2 hdb2) pa_nil hs4) hs3)) pa_nil hs2) hs) (by decide) (by decide) hs hpl).imp fun σ H Q q => q
  unfold isi2D at e
  split at e
  · rename_i f
    cases e
    refine ⟨by decide, fun q hq => ?_⟩
    have f1 : Fut S0 P H P (upd H q (.tup [.ty T.nm, .ty U.nm])) := .new po hq
    obtain ⟨t, e1, e2⟩ := ty_of f (rx.fut f1)
    have h1 := kit_ty (K := X.K) (kit_isTy T dx t e1)
    have h2 := kit_ty (K := X.K) (kit_isTy U dx t e1)
    have h3 : PySem.W.kitAny X.K (.type t) [.type T.nm, .type U.nm] = some (isTy T dx || isTy U dx) := kitAny_cons h1 (fun z => by
      rw [z, Bool.false_or]
      exact kitAny_cons h2 (fun z2 => by rw [z2]; exact kitAny_nil) fun z2 => z2) fun z => by rw [z]; rfl
    exact ⟨x, q, _, _, _, _, rfl, upd_same, .cons (.ty _) (.cons (.ty _) .nil), e2, h3, k _ P _ f1 rfl⟩
  · cases e
end
end WL

namespace WL
open PySem PySem.Spec PyProof.Rows L2

/-! ### the environment changes -/
section
variable {K : PySem.W.Frag} {B P P' S : Addr → Prop} {H H' : Hp} {ρ : Ev} {σ : L2.St}
/-- lists of the base may change -/
theorem RE.futS (R : RE K B P H ρ σ) (f : Fut S P H P' H') (hs : ∀ c, S c → B c) : RE K B P' H' ρ σ where
  len := R.len
  trk := fun a h => f.tr a (R.trk a h)
  pots := f.ok'
  sh := fun i d h => by
    obtain ⟨v, e, r⟩ := R.sh i d h
    exact ⟨v, e, r.fut f fun c z => .inl (hs c z)⟩
  ow := fun i ds h => by
    obtain ⟨a, vs, e, e2, b, p, r⟩ := R.ow i ds h
    exact ⟨a, vs, e, f.kp a _ e2 p (fun q => b (hs a q)), b, f.notP e2 p, r.fut f fun c z => .inl (hs c z)⟩
  inj := R.inj
/-- a new object joins the base -/
theorem RE.join {p : Addr} {o : HO} (R : RE K B P H ρ σ) (hp : H p = none) : RE K (fun a => B a ∨ a = p) P (upd H p o) ρ σ := by
  have f : Fut S0 P H P (upd H p o) := .new R.pots hp
  have mo : ∀ a, Mo (fun a => B a ∨ a = p) ρ σ a → Mo B ρ σ a ∨ a = p := fun a h => by
    rcases h with (h | h) | h
    · exact .inl (.inl h)
    · exact .inr h
    · exact .inl (.inr h)
  refine ⟨R.len, fun a h => ?_, f.ok', fun i d h => ?_, fun i ds h => ?_, R.inj⟩
  · rcases h with h | h
    · exact f.tr a (R.trk a h)
    · rw [h, upd_same]; rfl
  · obtain ⟨v, e, r⟩ := R.sh i d h
    exact ⟨v, e, ((r.avoid hp).anti mo).fut0 f⟩
  · obtain ⟨a, vs, e, e2, b, q, r⟩ := R.ow i ds h
    exact ⟨a, vs, e, f.kp a _ e2 q (fun q => q.elim), fun z => z.elim b fun z => ne_of_none e2 hp z, q, ((r.avoid hp).anti mo).fut0 f⟩
theorem get_set {α : Type} {l : List α} {i j : Nat} {x y : α} (h : (l.set i x)[j]? = some y) : (j = i ∧ y = x ∧ i < l.length) ∨ (j ≠ i ∧ l[j]? = some y) := by
  by_cases e : j = i
  · subst e
    by_cases hl : j < l.length
    · rw [List.getElem?_set_self hl] at h
      exact .inl ⟨rfl, (Option.some.inj h).symm, hl⟩
    · rw [List.getElem?_eq_none (by rw [List.length_set]; omega)] at h
      cases h
  · rw [List.getElem?_set_ne (fun z => e z.symm)] at h
    exact .inr ⟨e, h⟩
theorem own_set {i : Nat} {d : PyData} {x : Option V} {a : Addr} (h : Own (ρ.set i (.sh d)) (σ.set i x) a) : Own ρ σ a := by
  obtain ⟨j, ds, h1, h2⟩ := h
  rcases get_set h1 with ⟨_, e, _⟩ | ⟨e, h1⟩
  · cases e
  · rcases get_set h2 with ⟨e', _⟩ | ⟨_, h2⟩
    · exact absurd e' e
    · exact ⟨j, ds, h1, h2⟩
theorem own_no {i : Nat} {x : Option V} {a : Addr} (h : Own (ρ.set i .no) (σ.set i x) a) : Own ρ σ a := by
  obtain ⟨j, ds, h1, h2⟩ := h
  rcases get_set h1 with ⟨_, e, _⟩ | ⟨e, h1⟩
  · cases e
  · rcases get_set h2 with ⟨e', _⟩ | ⟨_, h2⟩
    · exact absurd e' e
    · exact ⟨j, ds, h1, h2⟩
theorem set_len {α : Type} {l : List α} {i : Nat} {x : α} : (l.set i x).length = l.length := List.length_set
/-- a shared value is stored -/
theorem RE.set {i : Nat} {d : PyData} {v : V} (R : RE K B P H ρ σ) (r : Rp K H (Mo B ρ σ) P d v) : RE K B P H (ρ.set i (.sh d)) (σ.set i (some v)) := by
  have mo : ∀ a, Mo B (ρ.set i (.sh d)) (σ.set i (some v)) a → Mo B ρ σ a := fun a h => h.elim .inl fun h => .inr (own_set h)
  refine ⟨by rw [set_len, set_len]; exact R.len, R.trk, R.pots, fun j e h => ?_, fun j es h => ?_, fun j k es fs a h1 h2 h3 h4 => ?_⟩
  · rcases get_set h with ⟨rfl, q, l⟩ | ⟨n, h⟩
    · cases q
      exact ⟨v, by rw [List.getElem?_set_self (by rw [← R.len]; exact l)], r.anti mo⟩
    · obtain ⟨u, e1, r1⟩ := R.sh j e h
      exact ⟨u, by rw [List.getElem?_set_ne (fun z => n z.symm)]; exact e1, r1.anti mo⟩
  · rcases get_set h with ⟨rfl, q, l⟩ | ⟨n, h⟩
    · cases q
    · obtain ⟨a, us, e1, e2, b, p, r1⟩ := R.ow j es h
      exact ⟨a, us, by rw [List.getElem?_set_ne (fun z => n z.symm)]; exact e1, e2, b, p, r1.anti mo⟩
  · rcases get_set h1 with ⟨_, q, _⟩ | ⟨n1, h1⟩
    · cases q
    · rcases get_set h2 with ⟨_, q, _⟩ | ⟨n2, h2⟩
      · cases q
      · rw [List.getElem?_set_ne (fun z => n1 z.symm)] at h3
        rw [List.getElem?_set_ne (fun z => n2 z.symm)] at h4
        exact R.inj j k es fs a h1 h2 h3 h4
/-- a name is forgotten -/
theorem RE.forget {i : Nat} (R : RE K B P H ρ σ) (x : Option V) : RE K B P H (ρ.set i .no) (σ.set i x) := by
  have mo : ∀ a, Mo B (ρ.set i .no) (σ.set i x) a → Mo B ρ σ a := fun a h => h.elim .inl fun h => .inr (own_no h)
  refine ⟨by rw [set_len, set_len]; exact R.len, R.trk, R.pots, fun j e h => ?_, fun j es h => ?_, fun j k es fs a h1 h2 h3 h4 => ?_⟩
  · rcases get_set h with ⟨rfl, q, l⟩ | ⟨n, h⟩
    · cases q
    · obtain ⟨u, e1, r1⟩ := R.sh j e h
      exact ⟨u, by rw [List.getElem?_set_ne (fun z => n z.symm)]; exact e1, r1.anti mo⟩
  · rcases get_set h with ⟨rfl, q, l⟩ | ⟨n, h⟩
    · cases q
    · obtain ⟨a, us, e1, e2, b, p, r1⟩ := R.ow j es h
      exact ⟨a, us, by rw [List.getElem?_set_ne (fun z => n z.symm)]; exact e1, e2, b, p, r1.anti mo⟩
  · rcases get_set h1 with ⟨_, q, _⟩ | ⟨n1, h1⟩
    · cases q
    · rcases get_set h2 with ⟨_, q, _⟩ | ⟨n2, h2⟩
      · cases q
      · rw [List.getElem?_set_ne (fun z => n1 z.symm)] at h3
        rw [List.getElem?_set_ne (fun z => n2 z.symm)] at h4
        exact R.inj j k es fs a h1 h2 h3 h4
end

/-! ### targets -/
abbrev Set1 := PyData → Ev → Option Ev
def tG (K : PySem.W.Frag) (st : Set1) (is : List Nat) : TG := fun v σ H Q => ∃ B P ρ d ρ', RE K B P H ρ σ ∧ Rp K H (Mo B ρ σ) P d v ∧ st d ρ = some ρ' ∧
  ∀ σ', RE K B P H ρ' σ' → (∀ a, Own ρ' σ' a → Own ρ σ a) → σ'.length = σ.length → (∀ j, j ∉ is → σ'[j]? = σ[j]?) → Q σ' H
structure EG (X : Cx) (tg : Expr) (st : Set1) (is : List Nat) : Prop where
  loc : ∀ d ρ ρ', st d ρ = some ρ' → ∀ j, j ∉ is → ρ'[j]? = ρ[j]?
  pg : PG X tg (tG X.K st is)
theorem _root_.L2.PG.imp {X : Cx} {e : Expr} {t t' : TG} (h : PG X e t) (i : ∀ v σ H Q, t' v σ H Q → t v σ H Q) : PG X e t' := ⟨fun pins s σ H v u Q I r q => h.run pins s σ H v u Q I r (i _ _ _ _ q)⟩
def stN (i : Nat) : Set1 := fun d ρ => some (ρ.set i (.sh d))
/-- a, b, .. -/
def stL : List Nat → List PyData → Ev → Option Ev
  | [], [], ρ => some ρ
  | i :: is, d :: ds, ρ => stL is ds (ρ.set i (.sh d))
  | _, _, _ => none
def stT (is : List Nat) : Set1 := fun d ρ => match d with
  | .tuple ds => stL is ds ρ
  | _ => none
theorem set_other {α : Type} {l : List α} {i j : Nat} {x : α} (h : j ∉ [i]) : (l.set i x)[j]? = l[j]? := by
  rw [List.getElem?_set_ne]
  intro e
  exact h (by simp [e])
theorem stL_loc : ∀ {is : List Nat} {ds : List PyData} {ρ ρ' : Ev}, stL is ds ρ = some ρ' → ∀ j, j ∉ is → ρ'[j]? = ρ[j]?
  | [], [], ρ, ρ', e, j, hj => by cases e; rfl
  | [], _ :: _, ρ, ρ', e, j, hj => nomatch e
  | _ :: _, [], ρ, ρ', e, j, hj => nomatch e
  | i :: is, d :: ds, ρ, ρ', e, j, hj => by
    have h1 : j ∉ is := fun z => hj (List.mem_cons_of_mem _ z)
    have h2 : j ∉ [i] := fun z => hj (by simp at z; simp [z])
    rw [stL_loc (is := is) (ds := ds) e j h1]
    exact set_other h2
theorem stT_loc {is : List Nat} : ∀ d ρ ρ', stT is d ρ = some ρ' → ∀ j, j ∉ is → ρ'[j]? = ρ[j]? := fun d ρ ρ' e j hj => by
  cases d with
  | tuple ds => exact stL_loc (ds := ds) e j hj
  | _ => exact nomatch e
section
variable {X : Cx} {pos : Pos}
theorem eg_name {i : Nat} {x : Str} (hN : X.N.Nodup) (hi : X.N[i]? = some x) (hx : Loc X.env.scope x) (hf : X.fn x = true ∨ X.env.scope.names.lookup x = some .local := by first | exact .inl rfl | exact .inr rfl | assumption) : EG X (.Name x pos) (stN i) [i] :=
  ⟨fun d ρ ρ' e j hj => by
    cases e
    exact set_other hj, (pg_name hN hi hx hf).imp fun v σ H Q ⟨B, P, ρ, d, ρ', R, r, e, q⟩ => by
    cases e
    exact q _ (R.set r) (fun a h => own_set h) set_len fun j hj => set_other hj⟩
structure EGs (X : Cx) (ts : List Expr) (is : List Nat) : Prop where
  pgs : PGs X ts (fun vs σ H Q => ∃ B P ρ ds ρ', RE X.K B P H ρ σ ∧ RpA X.K H (Mo B ρ σ) P ds vs ∧ stL is ds ρ = some ρ' ∧
    ∀ σ', RE X.K B P H ρ' σ' → (∀ a, Own ρ' σ' a → Own ρ σ a) → σ'.length = σ.length → (∀ j, j ∉ is → σ'[j]? = σ[j]?) → Q σ' H)
theorem _root_.L2.PGs.imp {X : Cx} {e : List Expr} {t t' : TGs} (h : PGs X e t) (i : ∀ v σ H Q, t' v σ H Q → t v σ H Q) : PGs X e t' := ⟨fun pins s σ H vs us Q I r q => h.run pins s σ H vs us Q I r (i _ _ _ _ q)⟩
theorem egs_nil : EGs X [] [] := ⟨pgs_nil.imp fun vs σ H Q ⟨B, P, ρ, ds, ρ', R, r, e, q⟩ => by
  cases ds with
  | nil =>
    cases e
    exact ⟨r, q σ R (fun a h => h) rfl fun j _ => rfl⟩
  | cons => cases e⟩
theorem egs_cons {i : Nat} {is : List Nat} {e : Expr} {es : List Expr} (h : EG X e (stN i) [i]) (h' : EGs X es is) (hs : (assignEach (e :: es) X.env).map (·.2) = assign e X.env :: (assignEach es X.env).map (·.2) := by rfl) : EGs X (e :: es) (i :: is) :=
  ⟨(pgs_cons h.pg h'.pgs hs).imp fun vs σ H Q ⟨B, P, ρ, ds, ρ', R, r, e, q⟩ => by
    cases ds with
    | nil => cases e
    | cons d ds =>
      obtain ⟨v, us, rfl, r1, r2⟩ := r
      refine ⟨v, us, rfl, B, P, ρ, d, _, R, r1, rfl, fun σ1 R1 o1 l1 k1 => ⟨B, P, _, ds, ρ', R1, r2.anti (fun a h => h.elim .inl fun h => .inr (o1 a h)), e, fun σ2 R2 o2 l2 k2 => q σ2 R2 (fun a h => o1 a (o2 a h)) (l2.trans l1) fun j hj => ?_⟩⟩
      have h1 : j ∉ is := fun z => hj (List.mem_cons_of_mem _ z)
      have h2 : j ∉ [i] := fun z => hj (by simp at z; simp [z])
      rw [k2 j h1, k1 j h2]⟩
theorem eg_tup {es : List Expr} {k : Nat} {is : List Nat} (hc : X.calm = true) (h : EGs X es is) (hn : (assignEach es X.env).length = is.length := by rfl) (hst : (assignEach es X.env).findIdx? (·.1) = none := by rfl) : EG X (.Tuple es k pos) (stT is) is :=
  ⟨stT_loc, (pg_tup hc h.pgs hn hst).imp fun v σ H Q ⟨B, P, ρ, d, ρ', R, r, e, q⟩ => by
    cases d with
    | tuple ds =>
      obtain ⟨a, vs, rfl, l, r⟩ := r
      refine ⟨a, vs, rfl, l, ?_, B, P, ρ, ds, ρ', R, r, e, q⟩
      rw [r.len]
      have : ∀ (is : List Nat) (ds : List PyData) (ρ ρ' : Ev), stL is ds ρ = some ρ' → ds.length = is.length := by
        intro is
        induction is with
        | nil => intro ds ρ ρ' h; cases ds with
          | nil => rfl
          | cons => cases h
        | cons i is ih => intro ds ρ ρ' h; cases ds with
          | nil => cases h
          | cons d ds => rw [List.length_cons, List.length_cons, ih ds _ _ h]
      exact this is ds ρ ρ' e
    | _ => cases e⟩
end

/-! ### what is walked -/
/-- J yields just these, as long as what is read stands -/
def ItOk (K : PySem.W.Frag) (J : It) (ds : List PyData) (M P0 : Addr → Prop) (H0 : Hp) : Prop :=
  ∀ (S P : Addr → Prop) (H : Hp), Fut S P0 H0 P H → (∀ c, S c → M c) → (∀ i, i < ds.length → J.go i H) ∧ J.stop ds.length H ∧
    ∀ i x H' d, ds[i]? = some d → J.yld i H x H' → Fut S0 P H P H' ∧ Rp K H' (fun a => M a ∨ H0 a = none) P d x
def tI (K : PySem.W.Frag) (g : Ev → W (List PyData)) : TI := fun σ H R => ∃ B P ρ, RE K B P H ρ σ ∧ g ρ fun ds => ∀ J P' H', Fut S0 P H P' H' → ItOk K J ds (Mo B ρ σ) P' H' → ds.length ≤ sizeLine → R J H'
structure EI (X : Cx) (tg e : Expr) (g : Ev → W (List PyData)) : Prop where
  mono : Mono g
  pi : PI X tg e (tI X.K g)
theorem _root_.L2.PI.imp {X : Cx} {tg e : Expr} {t t' : TI} (h : PI X tg e t) (i : ∀ σ H Q, t' σ H Q → t σ H Q) : PI X tg e t' := ⟨fun pins s σ H Q I q => h.run pins s σ H Q I (i _ _ _ q)⟩
theorem pi_seq {X : Cx} {tg l : Expr} {tl : TE} (hl : PE X l tl) : PI X tg l (fun σ H R => tl σ H fun x H1 => Fx X.K H1 → ∃ a, x = .ref a ∧ (((∃ xs, SqL X.K H1 a xs) ∧ R (Itl X.K a) H1) ∨ ((∃ xs, SqT X.K H1 a xs) ∧ R (Itt X.K a) H1))) := by
  refine ⟨fun pins s σ H R I h => ?_⟩
  refine thn (hl.run pins s σ H _ I h) fun v s1 ⟨x, H1, I1, r1, q1⟩ => ?_
  obtain ⟨a, e, q⟩ := q1 (fx_of I1)
  subst e
  cases r1
  have fin : ∀ b ∈ [s1.heap.objs.size], FpOk X pins H1 b := fun b hb => by
    have e : b = s1.heap.objs.size := by simpa using hb
    subst e
    exact I1.fpOk (Nat.le_refl _) (I1.hok.fresh (Nat.le_refl _))
  rcases q with ⟨⟨xs, hq⟩, q⟩ | ⟨⟨xs, hq⟩, q⟩
  · obtain ⟨its, rv, p, hz⟩ := I1.list hq
    refine wpAny_pyIter_list p.isList ?_
    exact ⟨s1.heap.objs.size, [s1.heap.objs.size], _, _, H1, rfl, I1.kept (t' := s1.toks) fun b o e => Heap.get?_push_of_some _ e, turn_list a _, ⟨_, Heap.get?_push_size _ rfl, rfl, rfl⟩, fin, q⟩
  · obtain ⟨its, rv, p, hz⟩ := I1.tuple hq
    refine wpAny_pyIter_tuple (show s1.heap.IsTuple a its.toArray from p) ?_
    exact ⟨s1.heap.objs.size, [s1.heap.objs.size], _, _, H1, rfl, I1.kept (t' := s1.toks) fun b o e => Heap.get?_push_of_some _ e, turn_tuple a _, ⟨_, Heap.get?_push_size _ rfl, rfl, rfl⟩, fin, q⟩
section
variable {K : PySem.W.Frag} {M P : Addr → Prop} {H : Hp}
theorem itOk_list {a : Addr} {vs : List V} {ds : List PyData} (po : PotsOk P H) (l : LAt K H M P a vs) (r : RpA K H M P ds vs) : ItOk K (Itl K a) ds M P H := by
  intro S P1 H1 f hs
  have l1 := f.lAt hs l
  have r1 := r.avoidAll.fut f fun c z => .inl (hs c z)
  refine ⟨fun i hi => ?_, ⟨vs, l1.sq, by rw [r.len]; exact Nat.le_refl _⟩, fun i x H' d e y => ?_⟩
  · obtain ⟨v, e, _⟩ := r.get (i := i) (d := ds[i]) (by rw [List.getElem?_eq_getElem hi])
    exact ⟨vs, v, l1.sq, e⟩
  · obtain ⟨rfl, y⟩ := y
    obtain ⟨v, e2, r2⟩ := r1.get e
    have := y vs l1.sq
    rw [e2] at this
    cases this
    exact ⟨.refl f.ok', r2⟩
theorem itOk_tup {a : Addr} {vs : List V} {ds : List PyData} (po : PotsOk P H) (l : SqT K H a vs) (r : RpA K H M P ds vs) : ItOk K (Itt K a) ds M P H := by
  intro S P1 H1 f hs
  have l1 := f.sqT l
  have r1 := r.avoidAll.fut f fun c z => .inl (hs c z)
  refine ⟨fun i hi => ?_, ⟨vs, l1, by rw [r.len]; exact Nat.le_refl _⟩, fun i x H' d e y => ?_⟩
  · obtain ⟨v, e, _⟩ := r.get (i := i) (d := ds[i]) (by rw [List.getElem?_eq_getElem hi])
    exact ⟨vs, v, l1, e⟩
  · obtain ⟨rfl, y⟩ := y
    obtain ⟨v, e2, r2⟩ := r1.get e
    have := y vs l1
    rw [e2] at this
    cases this
    exact ⟨.refl f.ok', r2⟩
def rangeL (lo : Int) (n : Nat) : List PyData := (List.range n).map fun (i : Nat) => .int (lo + (i : Int))
theorem itOk_range {lo : Int} {n : Nat} : ItOk K (Itr lo n) (rangeL lo n) M P H := by
  intro S P1 H1 f hs
  have hl : (rangeL lo n).length = n := by unfold rangeL; rw [List.length_map, List.length_range]
  refine ⟨fun i hi => by rw [hl] at hi; exact hi, by rw [hl]; exact Nat.le_refl n, fun i x H' d e y => ?_⟩
  obtain ⟨rfl, rfl⟩ := y
  unfold rangeL at e
  rw [List.getElem?_map] at e
  by_cases hi : i < n
  · rw [List.getElem?_range hi] at e
    cases e
    exact ⟨.refl f.ok', rfl⟩
  · rw [List.getElem?_eq_none (by rw [List.length_range]; omega)] at e
    cases e
end
section
variable {X : Cx} {tg e a b : Expr} {g ga gb : Ev → W PyData} {p pos : Pos}
def wItems (g : Ev → W PyData) : Ev → W (List PyData) := fun ρ Q => g ρ fun d => ∃ ds, itemsD d = some ds ∧ Q ds
theorem ei_seq (h : EW X .S e g) : EI X tg e (wItems g) :=
  ⟨fun ρ _ _ i q => h.mono ρ _ _ (fun d ⟨ds, e, q⟩ => ⟨ds, e, i _ q⟩) q, (pi_seq h.pe).imp fun σ H Q ⟨B, P, ρ, R, q⟩ => ⟨B, P, ρ, R, h.mono ρ _ _ (fun d ⟨ds, e, q⟩ v P1 H1 f1 r1 fx => by
    cases d with
    | list ds' =>
      cases e
      obtain ⟨a, vs, rfl, l, r⟩ := r1
      exact ⟨a, rfl, .inl ⟨⟨vs, l.sq⟩, q _ P1 H1 f1 (itOk_list f1.ok' l r) (by rw [← r.len]; exact fx.1 a vs l.sq)⟩⟩
    | tuple ds' =>
      cases e
      obtain ⟨a, vs, rfl, l, r⟩ := r1
      exact ⟨a, rfl, .inr ⟨⟨vs, l⟩, q _ P1 H1 f1 (itOk_tup f1.ok' l r) (by rw [← r.len]; exact fx.2.1 a vs l)⟩⟩
    | _ => exact nomatch e) q⟩⟩
def rg1D (d : PyData) : Option (List PyData) := match d with
  | .int n => if -(sizeLine : Int) ≤ n ∧ n ≤ sizeLine then some (rangeL 0 n.toNat) else none
  | _ => none
def rg2D (d e : PyData) : Option (List PyData) := match d, e with
  | .int i, .int j => if -(sizeLine : Int) ≤ i ∧ i ≤ sizeLine ∧ -(sizeLine : Int) ≤ j ∧ j ≤ sizeLine ∧ j ≤ i + sizeLine then some (rangeL i (j - i).toNat) else none
  | _, _ => none
def wRange1 (g : Ev → W PyData) : Ev → W (List PyData) := fun ρ Q => g ρ fun d => ∃ ds, rg1D d = some ds ∧ Q ds
def wRange2 (ga gb : Ev → W PyData) : Ev → W (List PyData) := fun ρ Q => ga ρ fun d => gb ρ fun e => ∃ ds, rg2D d e = some ds ∧ Q ds
theorem rangeL_len {lo : Int} {n : Nat} : (rangeL lo n).length = n := by unfold rangeL; rw [List.length_map, List.length_range]
theorem sz62 : ((sizeLine : Nat) : Int) < 2 ^ 60 := by decide
theorem ei_range1 (hg : Gl X "range") (hm : X.mg "range" = none) (h : EW X .S a g) (hs : starEach [a] X.env = [(false, eval a X.env)] := by rfl) : EI X tg (.Call (.Name "range" p) [a] [] pos) (wRange1 g) :=
  ⟨fun ρ _ _ i q => h.mono ρ _ _ (fun d ⟨n, e, q⟩ => ⟨n, e, i _ q⟩) q, (pi_range1 hg hm (pa_cons h.pe pa_nil (by rw [hs] <;> rfl)) hs).imp fun σ H Q ⟨B, P, ρ, R, q⟩ => ⟨B, P, ρ, R, h.mono ρ _ _ (fun d ⟨ds, e, q⟩ v P1 H1 f1 r1 => by
    cases d with
    | int n =>
      obtain rfl : v = .int n := r1
      have e : (if -(sizeLine : Int) ≤ n ∧ n ≤ sizeLine then some (rangeL 0 n.toNat) else none) = some ds := e
      split at e
      · rename_i c
        cases e
        have z := sz62
        exact ⟨n, rfl, by omega, by omega, q _ P1 H1 f1 itOk_range (by rw [rangeL_len]; omega)⟩
      · cases e
    | _ => exact nomatch e) q⟩⟩
theorem ei_range2 (hg : Gl X "range") (hm : X.mg "range" = none) (h : EW X .S a ga) (h' : EW X .S b gb) (hs : starEach [a, b] X.env = [(false, eval a X.env), (false, eval b X.env)] := by rfl) (hs2 : starEach [b] X.env = [(false, eval b X.env)] := by rfl) : EI X tg (.Call (.Name "range" p) [a, b] [] pos) (wRange2 ga gb) :=
  ⟨fun ρ _ _ i q => h.mono ρ _ _ (fun d q => h'.mono ρ _ _ (fun d ⟨n, e, q⟩ => ⟨n, e, i _ q⟩) q) q, (pi_range2 hg hm (pa_cons h.pe (pa_cons h'.pe pa_nil (by rw [hs2] <;> rfl)) (by rw [hs, hs2])) hs hs2).imp fun σ H Q ⟨B, P, ρ, R, q⟩ => ⟨B, P, ρ, R, h.mono ρ _ _ (fun d q v P1 H1 f1 r1 =>
    ⟨B, P1, ρ, R.fut f1, h'.mono ρ _ _ (fun d' ⟨ds, e, q⟩ v' P2 H2 f2 r2 => by
    cases d with
    | int i =>
      cases d' with
      | int j =>
        obtain rfl : v = .int i := r1
        obtain rfl : v' = .int j := r2
        have e : (if -(sizeLine : Int) ≤ i ∧ i ≤ sizeLine ∧ -(sizeLine : Int) ≤ j ∧ j ≤ sizeLine ∧ j ≤ i + sizeLine then some (rangeL i (j - i).toNat) else none) = some ds := e
        split at e
        · rename_i c
          cases e
          have z := sz62
          exact ⟨i, j, rfl, ⟨by omega, by omega, by omega, by omega⟩, q _ P2 H2 (f1.trans0 f2) itOk_range (by rw [rangeL_len]; omega)⟩
        · cases e
      | _ => exact nomatch e
    | _ => exact nomatch e) q⟩) q⟩⟩
end

/-! ### comprehensions -/
/-- the block's names forgotten; none of them an owned list -/
def wipeE : List Nat → Ev → Option Ev
  | [], ρ => some ρ
  | i :: is, ρ => (wipeE is ρ).bind fun ρ' => match ρ'[i]? with
    | some (.ow _) => none
    | _ => some (ρ'.set i .no)
def wLc1 (st : Set1) (c : Ev → W Bool) (g : Ev → W PyData) (ρ : Ev) : List PyData → W (List PyData)
  | [], Q => Q []
  | d :: ds, Q => ∃ ρ', st d ρ = some ρ' ∧ c ρ' fun b => if b = true then g ρ' (fun y => wLc1 st c g ρ ds fun ys => Q (y :: ys)) else wLc1 st c g ρ ds Q
def wLc (vs : List Nat) (gi : Ev → W (List PyData)) (st : Set1) (c : Ev → W Bool) (g : Ev → W PyData) : Ev → W PyData := fun ρ Q => gi ρ fun ds => ∃ ρw, wipeE vs ρ = some ρw ∧ wLc1 st c g ρw ds fun ys => Q (.list ys)
def wYes : Ev → W Bool := fun _ Q => Q true
theorem mono_wYes : Mono wYes := fun _ _ _ i q => i _ q
theorem mono_wLc1 {st : Set1} {c : Ev → W Bool} {g : Ev → W PyData} (hc : Mono c) (hg : Mono g) (ρ : Ev) : ∀ (ds : List PyData) (Q Q' : List PyData → Prop), (∀ a, Q a → Q' a) → wLc1 st c g ρ ds Q → wLc1 st c g ρ ds Q'
  | [], _, _, i, q => i _ q
  | d :: ds, Q, Q', i, ⟨ρ', e, q⟩ => ⟨ρ', e, hc ρ' _ _ (fun b q => ite_mono (fun q => hg ρ' _ _ (fun y q => mono_wLc1 hc hg ρ ds _ _ (fun ys q => i _ q) q) q) (fun q => mono_wLc1 hc hg ρ ds _ _ i q) q) q⟩
theorem mono_wLc {vs : List Nat} {gi : Ev → W (List PyData)} {st : Set1} {c : Ev → W Bool} {g : Ev → W PyData} (hi : Mono gi) (hc : Mono c) (hg : Mono g) : Mono (wLc vs gi st c g) :=
  fun ρ _ _ i q => hi ρ _ _ (fun ds ⟨ρw, e, q⟩ => ⟨ρw, e, mono_wLc1 hc hg ρw ds _ _ (fun ys q => i _ q) q⟩) q
section
variable {K : PySem.W.Frag} {B P : Addr → Prop} {H : Hp} {ρ ρw : Ev} {σ : L2.St}
theorem RE.wipe : ∀ {vs : List Nat} {ρw : Ev}, RE K B P H ρ σ → wipeE vs ρ = some ρw → RE K B P H ρw (wipe σ vs) ∧ ∀ a, Own ρw (wipe σ vs) a ↔ Own ρ σ a
  | [], ρw, R, e => by
    cases e
    exact ⟨R, fun a => Iff.rfl⟩
  | i :: is, ρw, R, e => by
    cases q : wipeE is ρ with
    | none =>
      have e : (wipeE is ρ).bind _ = some ρw := e
      rw [q] at e
      cases e
    | some ρ1 =>
      obtain ⟨R1, h1⟩ := RE.wipe R q
      have e : (wipeE is ρ).bind _ = some ρw := e
      rw [q] at e
      have e : (match ρ1[i]? with | some (.ow _) => none | _ => some (ρ1.set i .no)) = some ρw := e
      split at e
      · cases e
      · rename_i n
        cases e
        refine ⟨R1.forget none, fun a => ?_⟩
        rw [← h1 a]
        refine ⟨fun h => own_no h, fun ⟨j, ds, a1, a2⟩ => ?_⟩
        have nij : i ≠ j := fun z => by
          rw [z] at n
          exact n ds a1
        exact ⟨j, ds, by rw [List.getElem?_set_ne nij]; exact a1, by show ((L2.wipe σ is).set i none)[j]? = _; rw [List.getElem?_set_ne nij]; exact a2⟩
theorem wipeE_no : ∀ {vs : List Nat} {ρ ρw : Ev}, wipeE vs ρ = some ρw → ∀ i ∈ vs, ∀ ds, ρw[i]? ≠ some (.ow ds)
  | [], _, _, _, i, hi, _ => by cases hi
  | v :: vs, ρ, ρw, e, i, hi, ds => by
    cases q : wipeE vs ρ with
    | none =>
      have e : (wipeE vs ρ).bind _ = some ρw := e
      rw [q] at e
      cases e
    | some ρ1 =>
      have e : (wipeE vs ρ).bind _ = some ρw := e
      rw [q] at e
      have e : (match ρ1[v]? with | some (.ow _) => none | _ => some (ρ1.set v .no)) = some ρw := e
      split at e
      · cases e
      · cases e
        intro z
        rcases get_set z with ⟨_, z, _⟩ | ⟨n, z⟩
        · cases z
        · rcases List.mem_cons.mp hi with rfl | hi
          · exact n rfl
          · exact wipeE_no q i hi ds z
theorem wipe_get : ∀ (vs : List Nat) (σ : L2.St) (j : Nat), (wipe σ vs)[j]? = if j ∈ vs then (if j < σ.length then some none else none) else σ[j]? := by
    intro vs
    induction vs with
    | nil => intro σ j; rw [if_neg (by simp)]; rfl
    | cons v vs ih =>
      intro σ j
      show ((wipe σ vs).set v none)[j]? = _
      by_cases e : v = j
      · subst e
        rw [if_pos List.mem_cons_self, List.getElem?_set_self']
        rw [ih]
        by_cases l : v < σ.length
        · by_cases m : v ∈ vs
          · rw [if_pos m, if_pos l]; simp [l]
          · rw [if_neg m]; simp [l]
        · by_cases m : v ∈ vs
          · rw [if_pos m, if_neg l]; simp [l]
          · rw [if_neg m]; simp [l]
      · rw [List.getElem?_set_ne e, ih]
        by_cases m : j ∈ vs
        · rw [if_pos m, if_pos (List.mem_cons_of_mem _ m)]
        · rw [if_neg m, if_neg (by simp only [List.mem_cons, not_or]; exact ⟨fun z => e z.symm, m⟩)]
theorem wipe_wipe {σ : L2.St} {vs : List Nat} : wipe (wipe σ vs) vs = wipe σ vs := by
  refine List.ext_getElem? fun j => ?_
  rw [wipe_get, wipe_get, wipe_length]
  by_cases m : j ∈ vs
  · rw [if_pos m, if_pos m]
  · rw [if_neg m, if_neg m]
theorem wipe_same {σ1 σ2 : L2.St} {vs is : List Nat} (hs : ∀ i ∈ is, i ∈ vs) (hl : σ1.length = σ2.length) (h : ∀ j, j ∉ is → σ1[j]? = σ2[j]?) : wipe σ1 vs = wipe σ2 vs := by
  refine List.ext_getElem? fun j => ?_
  rw [wipe_get, wipe_get, hl]
  by_cases m : j ∈ vs
  · rw [if_pos m, if_pos m]
  · rw [if_neg m, if_neg m]
    exact h j fun z => m (hs j z)
end
end WL

namespace WL
open PySem PySem.Spec PyProof.Rows L2

/-- the ifs of a comprehension -/
structure EC (X : Cx) (ifs : List Expr) (g : Ev → W Bool) : Prop where
  mono : Mono g
  pts : PTs X ifs (tWb X.K g)
theorem _root_.L2.PTs.imp {X : Cx} {e : List Expr} {t t' : TT} (h : PTs X e t) (i : ∀ σ H Q, t' σ H Q → t σ H Q) : PTs X e t' := ⟨fun pins s σ H Q I q => h.run pins s σ H Q I (i _ _ _ q)⟩
theorem ec_nil {X : Cx} : EC X [] wYes := ⟨mono_wYes, pts_nil.imp fun σ H Q ⟨B, P, ρ, R, q⟩ => q P H (.refl R.pots)⟩
theorem ec_one {X : Cx} {e : Expr} {c : Ev → W Bool} (h : EB X e c) : EC X [e] c := ⟨h.mono, pts_one h.pt⟩

section
variable {X : Cx}
/-- where a comprehension's turn stands -/
def LcW (K : PySem.W.Frag) (B M P1 : Addr → Prop) (H1 : Hp) (D : Addr) (ρw : Ev) (σw : L2.St) (st : Set1) (c : Ev → W Bool) (g : Ev → W PyData) (ds : List PyData) (Q : PyData → Prop) (i m : Nat) (H : Hp) : Prop :=
  i ≤ ds.length ∧ m = ds.length - i ∧ ∃ P acc as, Fut S0 P1 H1 P H ∧ Fut (fun a => a = D) P1 (upd H1 D (.lst [])) P H ∧ H D = some (.lst acc) ∧ acc.length ≤ i ∧ RpA K H (fun a => M a ∨ a = D) P as acc ∧
    wLc1 st c g ρw (ds.drop i) fun ys => Q (.list (as ++ ys))
theorem lc_imp {elt tg iter : Expr} {ifs : List Expr} {scope : Scope} {own : List (Str × Nat)} {gi : Ev → W (List PyData)} {st : Set1} {is : List Nat} {c : Ev → W Bool} {g : Ev → W PyData} (hc : X.calm = true) (hN : X.N.Nodup) (hi : EI X tg iter gi) (ok : BlkOk X.N X.env.scope scope own)
    (hg : ∀ (s : Shared) (H : Hp) (C : Addr) (cl : List (Str × Addr)) (fp : List Addr), EG (X.blk s H scope (compEnvC scope cl C X.env) fp) tg st is)
    (ht : ∀ (s : Shared) (H : Hp) (C : Addr) (cl : List (Str × Addr)) (fp : List Addr), EC (X.blk s H scope (compEnvC scope cl C X.env) fp) ifs c)
    (he : ∀ (s : Shared) (H : Hp) (C : Addr) (cl : List (Str × Addr)) (fp : List Addr), EW (X.blk s H scope (compEnvC scope cl C X.env) fp) .S elt g)
    (his : ∀ i ∈ is, i ∈ own.map (·.2) := by decide)   (σ : L2.St) (H : Hp) (Q : VK) (hq : tW X.K .F (wLc (own.map (·.2)) gi st c g) σ H Q) : tLc (tI X.K gi) (tG X.K st is) (tWb X.K c) (tW X.K .S g) (own.map (·.2)) σ H Q := by
  let s0 : Shared := {}
  let H0 : Hp := fun _ => none
  have mc : Mono c := (ht {} (fun _ => none) 0 [] []).mono
  have mg : Mono g := (he {} (fun _ => none) 0 [] []).mono
  obtain ⟨B, P, ρ, R, q⟩ := hq
  refine ⟨B, P, ρ, R, hi.mono ρ _ _ (fun ds ⟨ρw, ew, q⟩ J P1 H1 f1 it hz D hD => ?_) q⟩
  have R1 := R.fut f1
  obtain ⟨Rw, hown⟩ := R1.wipe ew
  have hmo : ∀ a, Mo B ρw (wipe σ (own.map (·.2))) a ↔ Mo B ρ σ a := fun a => ⟨fun h => h.elim .inl fun h => .inr ((hown a).mp h), fun h => h.elim .inl fun h => .inr ((hown a).mpr h)⟩
  have RD : RE X.K (fun a => B a ∨ a = D) P1 (upd H1 D (.lst [])) ρw (wipe σ (own.map (·.2))) := Rw.join hD
  have nP : ∀ {P2 H2}, Fut (fun a => a = D) P1 (upd H1 D (.lst [])) P2 H2 → ¬ P2 D := fun f2 => f2.notP upd_same fun z => by
    have := f1.ok'.isS z
    rw [hD] at this
    cases this
  refine ⟨LcW X.K B (Mo B ρ σ) P1 H1 D ρw (wipe σ (own.map (·.2))) st c g ds (fun d => ∀ v P' H', Fut S0 P H P' H' → RM .F X.K (Mo B ρ σ) H P' H' d v → Q v H'), ⟨ds.length, Nat.zero_le _, by simp, P1, [], [], .new f1.ok' hD, ?_, upd_same, Nat.zero_le _, rfl, ?_⟩, ?_⟩
  · have := Fut.put (H := upd H1 D (.lst [])) (p := D) (o := .lst []) (P := P1) (Fut.new f1.ok' hD).ok' upd_same (fun z => by
      have := f1.ok'.isS z
      rw [hD] at this
      cases this)
    rw [upd_upd] at this
    exact this
  · simpa using q
  · rintro i m H2 ⟨hi2, rfl, P2, acc, as, f2, f2', hacc, hal, racc, q⟩
    obtain ⟨go, stop, yld⟩ := it S0 P2 H2 f2 fun _ z => z.elim
    have nP2 := nP f2'
    by_cases hlt : i < ds.length
    · refine .inr ⟨go i hlt, LcW X.K B (Mo B ρ σ) P1 H1 D ρw (wipe σ (own.map (·.2))) st c g ds (fun d => ∀ v P' H', Fut S0 P H P' H' → RM .F X.K (Mo B ρ σ) H P' H' d v → Q v H') (i + 1) (ds.length - (i + 1)), fun H' w => ⟨ds.length - (i + 1), by omega, w⟩, fun x H3 y => ?_⟩
      have ed : ds[i]? = some ds[i] := List.getElem?_eq_getElem hlt
      obtain ⟨f3, rx⟩ := yld i x H3 ds[i] ed y
      have q : wLc1 st c g ρw (ds.drop i) (fun ys => (fun d => ∀ v P' H', Fut S0 P H P' H' → RM .F X.K (Mo B ρ σ) H P' H' d v → Q v H') (.list (as ++ ys))) := q
      rw [List.drop_eq_getElem_cons hlt] at q
      obtain ⟨ρ', es, q⟩ := q
      have f3' : Fut (fun a => a = D) P1 (upd H1 D (.lst [])) P2 H3 := f2'.trans0 f3
      have R3 : RE X.K (fun a => B a ∨ a = D) P2 H3 ρw (wipe σ (own.map (·.2))) := RD.futS f3' fun _ z => .inr z
      have hacc3 : H3 D = some (.lst acc) := f3.kp D _ hacc nP2 fun z => z.elim
      -- the item, apart from the new list
      have rx' : Rp X.K H3 (Mo (fun a => B a ∨ a = D) ρw (wipe σ (own.map (·.2)))) P2 ds[i] x := by
        refine rx.anti fun a h => ?_
        rcases h with (h | h) | h
        · exact .inl (.inl h)
        · exact .inr (by rw [h]; exact hD)
        · exact .inl (.inr ((hown a).mp h))
      refine ⟨_, P2, ρw, ds[i], ρ', R3, rx', es, fun σ4 R4 o4 l4 k4 => ⟨?_, ?_⟩⟩
      · rw [show wipe σ4 (own.map (·.2)) = wipe (wipe σ (own.map (·.2))) (own.map (·.2)) from wipe_same his l4 k4]
        exact wipe_wipe
      · refine ⟨_, P2, ρ', R4, mc ρ' _ _ (fun b q P5 H5 f5 => ite_mono (fun q => ?_) (fun q => ?_) q) q⟩
        · refine ⟨_, P5, ρ', R4.fut f5, mg ρ' _ _ (fun y q v P6 H6 f6 r6 => ?_) q⟩
          have f36 : Fut S0 P2 H2 P6 H6 := (f3.trans0 f5).trans0 f6
          have hacc6 : H6 D = some (.lst acc) := f36.kp D _ hacc nP2 fun z => z.elim
          have nP6 : ¬ P6 D := f36.notP hacc nP2
          have fput := Fut.put (o := .lst (acc ++ [v])) f36.ok' hacc6 nP6
          refine ⟨acc, hacc6, by omega, by omega, rfl, P6, acc ++ [v], as ++ [y], (f2.trans0 f36).trans fput (fun c h z => ?_), (f2'.trans0 f36).trans fput (fun c _ z => z), upd_same, by rw [List.length_append]; simp; omega, ?_, ?_⟩
          · have z : c = D := z
            rw [z, hD] at h
            cases h
          · refine RpA.fut fput (fun c z => .inr z) ((racc.fut0 f36).append (.one (Rp.anti (fun a h => ?_) r6)))
            rcases h with h | h
            · rcases h with h | h
              · exact .inl (.inl h)
              · obtain ⟨j, es', a1, a2⟩ := (hown a).mpr h
                have hj : j ∉ is := fun z => wipeE_no ew j (his j z) es' a1
                exact .inr ⟨j, es', by rw [(hg s0 H0 0 [] []).loc _ _ _ es j hj]; exact a1, by rw [k4 j hj]; exact a2⟩
            · exact .inl (.inr h)
          · refine mono_wLc1 mc mg ρw _ _ _ (fun ys q => ?_) q
            rw [List.append_assoc]
            exact q
        · have f36 : Fut S0 P2 H2 P5 H5 := f3.trans0 f5
          exact ⟨by omega, rfl, P5, acc, as, f2.trans0 f36, f2'.trans0 f36, f36.kp D _ hacc nP2 (fun z => z.elim), by omega, racc.fut0 f36, q⟩
    · have e : i = ds.length := by omega
      subst e
      refine .inl ⟨stop, ?_⟩
      have q : wLc1 st c g ρw (ds.drop ds.length) (fun ys => (fun d => ∀ v P' H', Fut S0 P H P' H' → RM .F X.K (Mo B ρ σ) H P' H' d v → Q v H') (.list (as ++ ys))) := q
      rw [List.drop_length] at q
      have q : ∀ v P' H', Fut S0 P H P' H' → RM .F X.K (Mo B ρ σ) H P' H' (.list (as ++ [])) v → Q v H' := q
      rw [List.append_nil] at q
      exact q (.ref D) P2 H2 (f1.trans0 f2) ⟨as, D, acc, rfl, rfl, f1.none_of hD, hacc, nP2, racc⟩
theorem ew_lc {elt tg iter : Expr} {ifs : List Expr} {scope : Scope} {own : List (Str × Nat)} {pos : Pos} {gi : Ev → W (List PyData)} {st : Set1} {is : List Nat} {c : Ev → W Bool} {g : Ev → W PyData} (hc : X.calm = true) (hN : X.N.Nodup) (hi : EI X tg iter gi) (ok : BlkOk X.N X.env.scope scope own)
    (hg : ∀ (s : Shared) (H : Hp) (C : Addr) (cl : List (Str × Addr)) (fp : List Addr), EG (X.blk s H scope (compEnvC scope cl C X.env) fp) tg st is)
    (ht : ∀ (s : Shared) (H : Hp) (C : Addr) (cl : List (Str × Addr)) (fp : List Addr), EC (X.blk s H scope (compEnvC scope cl C X.env) fp) ifs c)
    (he : ∀ (s : Shared) (H : Hp) (C : Addr) (cl : List (Str × Addr)) (fp : List Addr), EW (X.blk s H scope (compEnvC scope cl C X.env) fp) .S elt g)
    (his : ∀ i ∈ is, i ∈ own.map (·.2) := by decide) (hs : ∀ x, foldedSetIterable iter X.env x = pure x := by intro _; rfl) :
    EW X .F (.ListComp elt [⟨tg, iter, ifs, 0⟩] scope pos) (wLc (own.map (·.2)) gi st c g) :=
  ⟨mono_wLc hi.mono (ht {} (fun _ => none) 0 [] []).mono (he {} (fun _ => none) 0 [] []).mono,
    (pe_lc (g := tG X.K st is) (tt := tWb X.K c) (te := tW X.K .S g) hc hN hi.pi ok (fun s H C cl fp => (hg s H C cl fp).pg) (fun s H C cl fp => (ht s H C cl fp).pts) (fun s H C cl fp => (he s H C cl fp).pe) hs).imp (lc_imp hc hN hi ok hg ht he his)⟩
end
end WL

namespace WL
open PySem PySem.Spec PyProof.Rows L2

inductive Rs where
  | nx (ρ : Ev)
  | rt (d : PyData)
  | bk (ρ : Ev)
  | ct (ρ : Ev)
/-- what a statement may have done -/
structure Gr (ρ : Ev) (σ : L2.St) (P : Addr → Prop) (H : Hp) (ρ' : Ev) (σ' : L2.St) (P' : Addr → Prop) (H' : Hp) : Prop where
  fut : Fut (Own ρ σ) P H P' H'
  own : ∀ a, Own ρ' σ' a → Own ρ σ a ∨ H a = none
section
variable {K : PySem.W.Frag} {B P P' P'' : Addr → Prop} {H H' H'' : Hp} {ρ ρ' ρ'' : Ev} {σ σ' σ'' : L2.St}
theorem RE.ls (R : RE K B P H ρ σ) : ∀ a, Own ρ σ a → ∃ xs, H a = some (.lst xs) := fun a ⟨i, ds, h1, h2⟩ => by
  obtain ⟨b, vs, e1, e2, _⟩ := R.ow i ds h1
  rw [h2] at e1
  cases e1
  exact ⟨vs, e2⟩
theorem Fut.own (f : Fut S0 P H P' H') (R : RE K B P H ρ σ) : Fut (Own ρ σ) P H P' H' := f.mono (fun _ z => z.elim) R.ls
theorem Gr.refl (R : RE K B P H ρ σ) : Gr ρ σ P H ρ σ P H := ⟨(Fut.refl R.pots).own R, fun _ h => .inl h⟩
theorem Gr.trans (a : Gr ρ σ P H ρ' σ' P' H') (b : Gr ρ' σ' P' H' ρ'' σ'' P'' H'') : Gr ρ σ P H ρ'' σ'' P'' H'' :=
  ⟨a.fut.trans b.fut (fun c h z => (a.own c z).elim id fun e => by rw [e] at h; cases h), fun c h => (b.own c h).elim (a.own c) fun e => .inr (a.fut.none_of e)⟩
/-- an expression first -/
theorem Gr.after (f : Fut S0 P H P' H') (R : RE K B P H ρ σ) (b : Gr ρ σ P' H' ρ'' σ'' P'' H'') : Gr ρ σ P H ρ'' σ'' P'' H'' :=
  ⟨(f.own R).trans b.fut fun _ _ z => z, fun c h => (b.own c h).elim .inl fun e => .inr (f.none_of e)⟩
end

/-- how a returned value stands -/
def RR (m : Md) (K : PySem.W.Frag) (B : Addr → Prop) (H : Hp) (ρ : Ev) (σ : L2.St) (P' : Addr → Prop) (H' : Hp) (d : PyData) (v : V) : Prop :=
  match m with
  | .F => ∃ ds p vs, d = .list ds ∧ v = .ref p ∧ (H p = none ∨ Own ρ σ p) ∧ H' p = some (.lst vs) ∧ ¬ P' p ∧ RpA K H' (fun a => B a ∨ a = p) P' ds vs
  | _ => Rp K H' B P' d v
def Post (K : PySem.W.Frag) (m : Md) (D : Ends) (B P : Addr → Prop) (H : Hp) (ρ : Ev) (σ : L2.St) : Rs → Prop
  | .nx ρ' => ∀ σ' P' H', Gr ρ σ P H ρ' σ' P' H' → RE K B P' H' ρ' σ' → D.nx σ' H'
  | .bk ρ' => ∀ σ' P' H', Gr ρ σ P H ρ' σ' P' H' → RE K B P' H' ρ' σ' → D.bk σ' H'
  | .ct ρ' => ∀ σ' P' H', Gr ρ σ P H ρ' σ' P' H' → RE K B P' H' ρ' σ' → D.ct σ' H'
  | .rt d => ∀ v P' H', Fut (Own ρ σ) P H P' H' → RR m K B H ρ σ P' H' d v → D.rt v H'
def tSt (K : PySem.W.Frag) (m : Md) (g : Ev → W Rs) : TS := fun D σ H => ∃ B P ρ, RE K B P H ρ σ ∧ g ρ (Post K m D B P H ρ σ)
structure ESt (X : Cx) (m : Md) (s : Stmt) (g : Ev → W Rs) : Prop where
  mono : Mono g
  ps : PS X s (tSt X.K m g)
structure ESs (X : Cx) (m : Md) (s : List Stmt) (g : Ev → W Rs) : Prop where
  mono : Mono g
  pss : PSs X s (tSt X.K m g)
section
variable {K : PySem.W.Frag} {m : Md} {D : Ends} {B P P' P'' : Addr → Prop} {H H' H'' : Hp} {ρ ρ' ρ'' : Ev} {σ σ' σ'' : L2.St}
theorem RR.step {d : PyData} {v : V} (g : Gr ρ σ P H ρ' σ' P' H') (r : RR m K B H' ρ' σ' P'' H'' d v) : RR m K B H ρ σ P'' H'' d v := by
  cases m with
  | F =>
    obtain ⟨ds, p, vs, e1, e2, h, r⟩ := r
    refine ⟨ds, p, vs, e1, e2, ?_, r⟩
    rcases h with h | h
    · exact .inl (g.fut.none_of h)
    · exact (g.own p h).symm
  | B => exact r
  | S => exact r
/-- what was wanted, from a later state on -/
theorem Post.step (g : Gr ρ σ P H ρ' σ' P' H') {r : Rs} (h : Post K m D B P H ρ σ r) : Post K m D B P' H' ρ' σ' r := by
  cases r with
  | nx ρ2 => exact fun σ2 P2 H2 g2 R => h σ2 P2 H2 (g.trans g2) R
  | bk ρ2 => exact fun σ2 P2 H2 g2 R => h σ2 P2 H2 (g.trans g2) R
  | ct ρ2 => exact fun σ2 P2 H2 g2 R => h σ2 P2 H2 (g.trans g2) R
  | rt d => exact fun v P2 H2 f r => h v P2 H2 (g.fut.trans f fun c hc z => (g.own c z).elim id fun e => by rw [e] at hc; cases hc) (r.step g)
end

/-! ### rules -/
def wSkip : Ev → W Rs := fun ρ Q => Q (.nx ρ)
def wSeq (g h : Ev → W Rs) : Ev → W Rs := fun ρ Q => g ρ fun r => match r with
  | .nx ρ' => h ρ' Q
  | r => Q r
def wRet (g : Ev → W PyData) : Ev → W Rs := fun ρ Q => g ρ fun d => Q (.rt d)
def wRetO (i : Nat) : Ev → W Rs := fun ρ Q => ∃ ds, ρ[i]? = some (.ow ds) ∧ Q (.rt (.list ds))
def wSet (i : Nat) (g : Ev → W PyData) : Ev → W Rs := fun ρ Q => g ρ fun d => Q (.nx (ρ.set i (.sh d)))
def wSetF (i : Nat) (g : Ev → W PyData) : Ev → W Rs := fun ρ Q => g ρ fun d => ∃ ds, d = .list ds ∧ Q (.nx (ρ.set i (.ow ds)))
def wAsg (st : Set1) (g : Ev → W PyData) : Ev → W Rs := fun ρ Q => g ρ fun d => ∃ ρ', st d ρ = some ρ' ∧ Q (.nx ρ')
def wDrop (g : Ev → W PyData) : Ev → W Rs := fun ρ Q => g ρ fun _ => Q (.nx ρ)
def wFail {α : Type} : Ev → W α := fun _ _ => False
section
variable {X : Cx} {m : Md} {s : Stmt} {ss : List Stmt} {e : Expr} {g h : Ev → W Rs} {ge : Ev → W PyData} {pos p1 : Pos}
theorem mono_wSeq (a : Mono g) (b : Mono h) : Mono (wSeq g h) := fun ρ _ _ i q => a ρ _ _ (fun r q => by
  cases r with
  | nx ρ' => exact b ρ' _ _ i q
  | rt d => exact i _ q
  | bk ρ' => exact i _ q
  | ct ρ' => exact i _ q) q
theorem ess_nil : ESs X m [] wSkip := ⟨fun _ _ _ i q => i _ q, pss_nil.imp fun D σ H ⟨B, P, ρ, R, q⟩ => q σ P H (.refl R) R⟩
theorem ess_cons (a : ESt X m s g) (b : ESs X m ss h) : ESs X m (s :: ss) (wSeq g h) :=
  ⟨mono_wSeq a.mono b.mono, (pss_cons a.ps b.pss).imp fun D σ H ⟨B, P, ρ, R, q⟩ => ⟨B, P, ρ, R, a.mono ρ _ _ (fun r q => by
    cases r with
    | nx ρ' => exact fun σ' P' H' gr R' => ⟨B, P', ρ', R', b.mono ρ' _ _ (fun r q => q.step gr) q⟩
    | rt d => exact q
    | bk ρ' => exact q
    | ct ρ' => exact q) q⟩⟩
theorem ess_one (a : ESt X m s g) : ESs X m [s] g := ⟨a.mono, pss_one a.ps⟩
theorem es_fail : ESt X m s wFail := ⟨fun _ _ _ _ q => q.elim, ps_never.imp fun D σ H ⟨B, P, ρ, R, q⟩ => q.elim⟩
theorem es_pass : ESt X m (.Pass pos) wSkip := ⟨fun _ _ _ i q => i _ q, ps_pass.imp fun D σ H ⟨B, P, ρ, R, q⟩ => q σ P H (.refl R) R⟩
theorem es_ret (hm : m ≠ .B) (a : EW X m e ge) : ESt X m (.Return (some e) pos) (wRet ge) :=
  ⟨fun ρ _ _ i q => a.mono ρ _ _ (fun _ q => i _ q) q, (ps_ret a.pe).imp fun D σ H ⟨B, P, ρ, R, q⟩ => ⟨B, P, ρ, R, a.mono ρ _ _ (fun d q v P' H' f r => by
    refine q v P' H' (f.own R) ?_
    cases m with
    | B => exact absurd rfl hm
    | S => exact Rp.anti (fun a h => .inl h) r
    | F =>
      obtain ⟨ds, p, vs, e1, e2, np, e3, n, r⟩ := r
      exact ⟨ds, p, vs, e1, e2, .inl np, e3, n, r.anti fun a h => h.elim (fun h => .inl (.inl h)) .inr⟩) q⟩⟩
theorem es_retN : ESt X .S (.Return none pos) (fun ρ Q => Q (.rt .none)) := ⟨fun _ _ _ i q => i _ q, ps_retN.imp fun D σ H ⟨B, P, ρ, R, q⟩ => q _ P H ((Fut.refl R.pots).own R) rfl⟩
theorem es_retO {x : Str} (i : Nat) (hN : X.N[i]? = some x := by rfl) (hv : Vis X.env.scope x := by first | exact Or.inl rfl | exact Or.inr (Or.inl rfl) | exact Or.inr (Or.inr rfl)) (hd : (x == ("__debug__" : Str)) = false := by decide) (hcd : (x == ("__classdict__" : Str)) = false := by decide) : ESt X .F (.Return (some (.Name x p1)) pos) (wRetO i) :=
  ⟨fun ρ _ _ i ⟨ds, e, q⟩ => ⟨ds, e, i _ q⟩, (ps_ret (pe_var (i := i) hN hv hd hcd)).imp fun D σ H ⟨B, P, ρ, R, ds, e, q⟩ => by
    obtain ⟨a, vs, e1, e2, nb, np, r⟩ := R.ow i ds e
    have own : Own ρ σ a := ⟨i, ds, e, e1⟩
    exact ⟨.ref a, e1, q (.ref a) P H ((Fut.refl R.pots).own R) ⟨ds, a, vs, rfl, rfl, .inr own, e2, np, r.anti fun b h => h.elim .inl fun z => .inr ⟨i, ds, e, by rw [z]; exact e1⟩⟩⟩⟩
theorem es_expr (a : EW X .B e ge) (hs : swapsWith e none pos.line X.env = pure false := by rfl) : ESt X m (.Expr e pos) (wDrop ge) :=
  ⟨fun ρ _ _ i q => a.mono ρ _ _ (fun _ q => i _ q) q, (ps_expr a.pe hs).imp fun D σ H ⟨B, P, ρ, R, q⟩ => ⟨B, P, ρ, R, a.mono ρ _ _ (fun d q v P' H' f r => q σ P' H' ((Gr.refl (R.fut f)).after f R) (R.fut f)) q⟩⟩

/-- a value at a name -/
theorem store_S {K : PySem.W.Frag} {B P P' : Addr → Prop} {H H' : Hp} {ρ : Ev} {σ : L2.St} {D : Ends} {i : Nat} {d : PyData} {v : V} (R : RE K B P H ρ σ) (f : Fut S0 P H P' H') (r : RM .S K (Mo B ρ σ) H P' H' d v)
    (q : Post K m D B P H ρ σ (.nx (ρ.set i (.sh d)))) : D.nx (σ.set i (some v)) H' :=
  q _ P' H' (Gr.after f R ⟨(Fut.refl f.ok').own (R.fut f), fun a h => .inl (own_set h)⟩) ((R.fut f).set r)
theorem RE.setF {K : PySem.W.Frag} {B P P' : Addr → Prop} {H H' : Hp} {ρ : Ev} {σ : L2.St} {i : Nat} {ds : List PyData} {p : Addr} {vs : List V} (R : RE K B P H ρ σ) (hl : i < ρ.length) (f : Fut S0 P H P' H') (np : H p = none) (e : H' p = some (.lst vs)) (nP : ¬ P' p)
    (r : RpA K H' (fun a => Mo B ρ σ a ∨ a = p) P' ds vs) : RE K B P' H' (ρ.set i (.ow ds)) (σ.set i (some (.ref p))) := by
  have mo : ∀ a, Mo B (ρ.set i (.ow ds)) (σ.set i (some (.ref p))) a → Mo B ρ σ a ∨ a = p := fun a h => by
    rcases h with h | ⟨j, es, h1, h2⟩
    · exact .inl (.inl h)
    · rcases get_set h1 with ⟨e1, _, _⟩ | ⟨n, h1⟩
      · rcases get_set h2 with ⟨_, e2, _⟩ | ⟨n, _⟩
        · exact .inr (V.ref.inj (Option.some.inj e2))
        · exact absurd e1 n
      · rcases get_set h2 with ⟨e2, _⟩ | ⟨_, h2⟩
        · exact absurd e2 n
        · exact .inl (.inr ⟨j, es, h1, h2⟩)
  have un : ∀ {b : Addr} {o : HO}, H b = some o → b ≠ p := fun h => ne_of_none h np
  have R' := R.fut f
  refine ⟨by rw [set_len, set_len]; exact R.len, R'.trk, R'.pots, fun j d h => ?_, fun j es h => ?_, fun j k es fs a h1 h2 h3 h4 => ?_⟩
  · rcases get_set h with ⟨_, q, _⟩ | ⟨n, h⟩
    · cases q
    · obtain ⟨u, e1, r1⟩ := R.sh j d h
      exact ⟨u, by rw [List.getElem?_set_ne (fun z => n z.symm)]; exact e1, ((r1.avoid np).fut0 f).anti mo⟩
  · rcases get_set h with ⟨rfl, q, l⟩ | ⟨n, h⟩
    · cases q
      refine ⟨p, vs, by rw [List.getElem?_set_self (by rw [← R.len]; exact l)], e, fun z => ?_, nP, r.anti mo⟩
      have := R.trk p z
      rw [np] at this
      cases this
    · obtain ⟨a, us, e1, e2, b, q, r1⟩ := R.ow j es h
      exact ⟨a, us, by rw [List.getElem?_set_ne (fun z => n z.symm)]; exact e1, f.kp a _ e2 q (fun z => z.elim), b, f.notP e2 q, ((r1.avoid np).fut0 f).anti mo⟩
  · have other : ∀ {k : Nat} {fs : List PyData}, ρ[k]? = some (.ow fs) → σ[k]? ≠ some (some (.ref p)) := fun h1 h2 => by
      obtain ⟨a, us, e1, e2, _⟩ := R.ow _ _ h1
      rw [h2] at e1
      cases e1
      exact un e2 rfl
    rcases get_set h1 with ⟨z1, q, l⟩ | ⟨n1, k1⟩
    · rcases get_set h2 with ⟨e2, _⟩ | ⟨n2, k2⟩
      · exact z1.trans e2.symm
      · rw [List.getElem?_set_ne (fun z => n2 z.symm)] at h4
        rw [z1, List.getElem?_set_self (by rw [← R.len]; exact l)] at h3
        cases h3
        exact absurd h4 (other k2)
    · rcases get_set h2 with ⟨z2, q, l⟩ | ⟨n2, k2⟩
      · rw [List.getElem?_set_ne (fun z => n1 z.symm)] at h3
        rw [z2, List.getElem?_set_self (by rw [← R.len]; exact l)] at h4
        cases h4
        exact absurd h3 (other k1)
      · rw [List.getElem?_set_ne (fun z => n1 z.symm)] at h3
        rw [List.getElem?_set_ne (fun z => n2 z.symm)] at h4
        exact R.inj j k es fs a k1 k2 h3 h4
theorem own_setF {ρ : Ev} {σ : L2.St} {i : Nat} {ds : List PyData} {p a : Addr} (h : Own (ρ.set i (.ow ds)) (σ.set i (some (.ref p))) a) : Own ρ σ a ∨ a = p := by
  obtain ⟨j, es, h1, h2⟩ := h
  rcases get_set h1 with ⟨e1, _, _⟩ | ⟨n, h1⟩
  · rcases get_set h2 with ⟨_, e2, _⟩ | ⟨n, _⟩
    · exact .inr (V.ref.inj (Option.some.inj e2))
    · exact absurd e1 n
  · rcases get_set h2 with ⟨e2, _⟩ | ⟨_, h2⟩
    · exact absurd e2 n
    · exact .inl ⟨j, es, h1, h2⟩
theorem store_F {K : PySem.W.Frag} {B P P' : Addr → Prop} {H H' : Hp} {ρ : Ev} {σ : L2.St} {D : Ends} {i : Nat} {ds : List PyData} {v : V} (R : RE K B P H ρ σ) (hl : i < ρ.length) (f : Fut S0 P H P' H') (r : RM .F K (Mo B ρ σ) H P' H' (.list ds) v)
    (q : Post K m D B P H ρ σ (.nx (ρ.set i (.ow ds)))) : D.nx (σ.set i (some v)) H' := by
  obtain ⟨ds', p, vs, e1, rfl, np, e3, n, r⟩ := r
  cases e1
  exact q _ P' H' ⟨f.own R, fun a h => (own_setF h).elim .inl fun z => .inr (by rw [z]; exact np)⟩ (R.setF hl f np e3 n r)
end
section
variable {X : Cx} {m : Md} {s : Stmt} {ss : List Stmt} {e c : Expr} {g h : Ev → W Rs} {ge : Ev → W PyData} {gc : Ev → W Bool} {pos p1 : Pos} {x : Str} {i : Nat}
theorem es_set (hN : X.N.Nodup) (hi : X.N[i]? = some x) (hx : Loc X.env.scope x) (he : EW X .S e ge) (hs : swapsWith e (some (.Name x p1)) pos.line X.env = pure false := by rfl) (hf : X.fn x = true ∨ X.env.scope.names.lookup x = some .local := by first | exact .inl rfl | exact .inr rfl | assumption) :
    ESt X m (.Assign [.Name x p1] e pos) (wSet i ge) :=
  ⟨fun ρ _ _ i q => he.mono ρ _ _ (fun _ q => i _ q) q, (ps_set hN hi hx he.pe hs hf).imp fun D σ H ⟨B, P, ρ, R, q⟩ => ⟨B, P, ρ, R, he.mono ρ _ _ (fun d q v P' H' f r => store_S R f r q) q⟩⟩
theorem es_setF (hN : X.N.Nodup) (hi : X.N[i]? = some x) (hx : Loc X.env.scope x) (he : EW X .F e ge) (hs : swapsWith e (some (.Name x p1)) pos.line X.env = pure false := by rfl) (hf : X.fn x = true ∨ X.env.scope.names.lookup x = some .local := by first | exact .inl rfl | exact .inr rfl | assumption) :
    ESt X m (.Assign [.Name x p1] e pos) (wSetF i ge) :=
  ⟨fun ρ _ _ i q => he.mono ρ _ _ (fun _ ⟨ds, e, q⟩ => ⟨ds, e, i _ q⟩) q, (ps_set hN hi hx he.pe hs hf).imp fun D σ H ⟨B, P, ρ, R, q⟩ => ⟨B, P, ρ, R, he.mono ρ _ _ (fun d ⟨ds, e, q⟩ v P' H' f r => by
    subst e
    by_cases hl : i < ρ.length
    · exact store_F R hl f r q
    · have e1 : ρ.set i (.ow ds) = ρ := List.set_eq_of_length_le (by omega)
      have e2 : σ.set i (some v) = σ := List.set_eq_of_length_le (by rw [← R.len]; omega)
      show D.nx (σ.set i (some v)) H'
      rw [e2]
      rw [e1] at q
      exact q σ P' H' ((Gr.refl (R.fut f)).after f R) (R.fut f)) q⟩⟩
theorem es_asg {tg : Expr} {st : Set1} {is : List Nat} (he : EW X .S e ge) (hg : EG X tg st is) (hs : swapsWithSole [tg] e pos.line X.env = pure false := by rfl) (hw : swappedStores [tg] e X.env = pure none := by rfl) (h1 : (assignEach [tg] X.env).map (·.2) = [assign tg X.env] := by rfl) : ESt X m (.Assign [tg] e pos) (wAsg st ge) :=
  ⟨fun ρ _ _ i q => he.mono ρ _ _ (fun _ ⟨ρ', e, q⟩ => ⟨ρ', e, i _ q⟩) q, (ps_asg he.pe hg.pg hs hw h1).imp fun D σ H ⟨B, P, ρ, R, q⟩ => ⟨B, P, ρ, R, he.mono ρ _ _ (fun d ⟨ρ', e, q⟩ v P' H' f r => ⟨B, P', ρ, d, ρ', R.fut f, r, e, fun σ' R' o' l' k' => q σ' P' H' (Gr.after f R ⟨(Fut.refl f.ok').own (R.fut f), fun a h => .inl (o' a h)⟩) R'⟩) q⟩⟩
theorem es_if {a b : List Stmt} (hc : EB X c gc) (ha : ESs X m a g) (hb : ESs X m b h) : ESt X m (.If c a b pos) (wIf gc g h) :=
  ⟨mono_wIf hc.mono ha.mono hb.mono, (ps_if hc.pt ha.pss hb.pss).imp fun D σ H ⟨B, P, ρ, R, q⟩ => ⟨B, P, ρ, R, hc.mono ρ _ _ (fun k q P1 H1 f1 => ite_mono
    (fun q => ⟨B, P1, ρ, R.fut f1, ha.mono ρ _ _ (fun r q => q.step ((Gr.refl (R.fut f1)).after f1 R)) q⟩)
    (fun q => ⟨B, P1, ρ, R.fut f1, hb.mono ρ _ _ (fun r q => q.step ((Gr.refl (R.fut f1)).after f1 R)) q⟩) q) q⟩⟩
/-- a, b = e1, e2 -/
def wPar (i j : Nat) (gs : Ev → W (List PyData)) : Ev → W Rs := fun ρ Q => gs ρ fun ds => ∃ d1 d2, ds = [d1, d2] ∧ Q (.nx ((ρ.set i (.sh d1)).set j (.sh d2)))
theorem es_par {i j : Nat} {x y : Str} {a b : Expr} {gs : Ev → W (List PyData)} {px py pt : Pos} {kt k2 pt2} (hc : X.calm = true) (hN : X.N.Nodup) (hi : X.N[i]? = some x) (hj : X.N[j]? = some y) (hij : i ≠ j)
    (ha : EA X [a, b] gs) (hp : ∀ {ta : TA}, PA X [a, b] ta → PS X (.Assign [.Tuple [.Name x px, .Name y py] kt pt] (.Tuple [a, b] k2 pt2) pos) (tPar i j ta)) : ESt X m (.Assign [.Tuple [.Name x px, .Name y py] kt pt] (.Tuple [a, b] k2 pt2) pos) (wPar i j gs) :=
  ⟨fun ρ _ _ i q => ha.mono ρ _ _ (fun _ ⟨d1, d2, e, q⟩ => ⟨d1, d2, e, i _ q⟩) q, (hp ha.pa).imp fun D σ H ⟨B, P, ρ, R, q⟩ => ⟨B, P, ρ, R, ha.mono ρ _ _ (fun ds ⟨d1, d2, e, q⟩ vs P1 H1 f1 r1 => by
    subst e
    obtain ⟨v, us, rfl, r1, w, us', rfl, r2, rfl⟩ := r1
    have R1 := R.fut f1
    have R2 := R1.set (i := i) r1
    have o2 : ∀ a, Mo B (ρ.set i (.sh d1)) (σ.set i (some v)) a → Mo B ρ σ a := fun a h => h.elim .inl fun h => .inr (own_set h)
    have R3 := R2.set (i := j) (r2.anti o2)
    exact ⟨v, w, rfl, q _ P1 H1 (Gr.after f1 R ⟨(Fut.refl f1.ok').own R1, fun a h => .inl (own_set (own_set h))⟩) R3⟩) q⟩⟩

/-! ### for -/
def wLoop (st : Set1) (g : Ev → W Rs) : List PyData → Ev → W Rs
  | [], ρ, Q => Q (.nx ρ)
  | d :: ds, ρ, Q => ∃ ρ', st d ρ = some ρ' ∧ g ρ' fun r => match r with
    | .nx ρ2 => wLoop st g ds ρ2 Q
    | .ct ρ2 => wLoop st g ds ρ2 Q
    | .bk ρ2 => Q (.nx ρ2)
    | .rt d => Q (.rt d)
def wFor (gi : Ev → W (List PyData)) (st : Set1) (g : Ev → W Rs) : Ev → W Rs := fun ρ Q => gi ρ fun ds => wLoop st g ds ρ Q
theorem mono_wLoop {st : Set1} (hg : Mono g) : ∀ (ds : List PyData) (ρ : Ev) (Q Q' : Rs → Prop), (∀ r, Q r → Q' r) → wLoop st g ds ρ Q → wLoop st g ds ρ Q'
  | [], _, _, _, i, q => i _ q
  | d :: ds, ρ, Q, Q', i, ⟨ρ', e, q⟩ => ⟨ρ', e, hg ρ' _ _ (fun r q => by
    cases r with
    | nx ρ2 => exact mono_wLoop hg ds ρ2 _ _ i q
    | ct ρ2 => exact mono_wLoop hg ds ρ2 _ _ i q
    | bk ρ2 => exact i _ q
    | rt d => exact i _ q) q⟩
theorem es_for {tg iter : Expr} {body : List Stmt} {gi : Ev → W (List PyData)} {st : Set1} {is : List Nat} (hp : PassesOwn (model X.prog X.w) X.A X.env X.xe) (hc : X.calm = true) (hi : EI X tg iter gi) (hg : EG X tg st is) (hb : ESs X m body g)
    (hs : ∀ x, foldedSetIterable iter X.env x = pure x := by intro _; rfl) : ESt X m (.For tg iter body [] pos) (wFor gi st g) := by
  refine ⟨fun ρ _ _ i q => hi.mono ρ _ _ (fun ds q => mono_wLoop hb.mono ds ρ _ _ i q) q, (ps_for hp hc hi.pi hg.pg hb.pss hs).imp fun D σ H ⟨B, P, ρ, R, q⟩ => ⟨B, P, ρ, R, hi.mono ρ _ _ (fun ds q J P1 H1 f1 it hz => ?_) q⟩⟩
  have R1 := R.fut f1
  refine ⟨fun i k σ2 H2 => i ≤ ds.length ∧ k = ds.length - i ∧ ∃ P2 ρ2, Gr ρ σ P1 H1 ρ2 σ2 P2 H2 ∧ RE X.K B P2 H2 ρ2 σ2 ∧ wLoop st g (ds.drop i) ρ2 (Post X.K m D B P H ρ σ), ⟨ds.length, Nat.zero_le _, by simp, P1, ρ, .refl R1, R1, q⟩, ?_⟩
  rintro i k σ2 H2 ⟨hi2, rfl, P2, ρ2, gr, R2, q⟩
  have hM : ∀ c, Own ρ σ c → Mo B ρ σ c := fun c h => .inr h
  obtain ⟨go, stop, yld⟩ := it (Own ρ σ) P2 H2 gr.fut hM
  have gr0 : Gr ρ σ P H ρ2 σ2 P2 H2 := gr.after f1 R
  by_cases hlt : i < ds.length
  · refine .inr ⟨go i hlt, fun σ' H' => i + 1 ≤ ds.length ∧ ∃ P2 ρ2, Gr ρ σ P1 H1 ρ2 σ' P2 H' ∧ RE X.K B P2 H' ρ2 σ' ∧ wLoop st g (ds.drop (i + 1)) ρ2 (Post X.K m D B P H ρ σ), fun σ' H' ⟨h1, w⟩ => ⟨ds.length - (i + 1), by omega, h1, rfl, w⟩, fun x H3 y => ?_⟩
    have ed : ds[i]? = some ds[i] := List.getElem?_eq_getElem hlt
    obtain ⟨f3, rx⟩ := yld i x H3 ds[i] ed y
    rw [List.drop_eq_getElem_cons hlt] at q
    obtain ⟨ρ', es, q⟩ := q
    have R3 := R2.fut f3
    have rx' : Rp X.K H3 (Mo B ρ2 σ2) P2 ds[i] x := rx.anti fun a h => h.elim (fun h => .inl (.inl h)) fun h => (gr.own a h).elim (fun h => .inl (.inr h)) .inr
    refine ⟨B, P2, ρ2, ds[i], ρ', R3, rx', es, fun σ4 R4 o4 l4 k4 => ⟨B, P2, ρ', R4, hb.mono ρ' _ _ (fun r q => ?_) q⟩⟩
    have gr4 : Gr ρ σ P1 H1 ρ' σ4 P2 H3 := gr.trans (Gr.after f3 R2 ⟨(Fut.refl f3.ok').own R3, fun a h => .inl (o4 a h)⟩)
    have gr04 : Gr ρ σ P H ρ' σ4 P2 H3 := gr4.after f1 R
    cases r with
    | nx ρ5 => exact fun σ5 P5 H5 g5 R5 => ⟨by omega, P5, ρ5, gr4.trans g5, R5, q⟩
    | ct ρ5 => exact fun σ5 P5 H5 g5 R5 => ⟨by omega, P5, ρ5, gr4.trans g5, R5, q⟩
    | bk ρ5 => exact fun σ5 P5 H5 g5 R5 => q σ5 P5 H5 (gr04.trans g5) R5
    | rt d => exact (Post.step gr04 q : Post X.K m D B P2 H3 ρ' σ4 (.rt d))
  · have e : i = ds.length := by omega
    subst e
    rw [List.drop_length] at q
    exact .inl ⟨stop, q σ2 P2 H2 gr0 R2⟩
end
end WL

namespace WL
open PySem PySem.Spec PyProof.Rows L2

/-! ### owned lists change -/
section
variable {K : PySem.W.Frag} {B P : Addr → Prop} {H : Hp} {ρ : Ev} {σ : L2.St} {i : Nat} {ds es : List PyData} {a : Addr} {us : List V}
theorem own_same (h1 : ρ[i]? = some (.ow ds)) (b : Addr) : Own (ρ.set i (.ow es)) σ b ↔ Own ρ σ b := by
  refine ⟨fun ⟨j, fs, e1, e2⟩ => ?_, fun ⟨j, fs, e1, e2⟩ => ?_⟩
  · rcases get_set e1 with ⟨rfl, _, _⟩ | ⟨n, e1⟩
    · exact ⟨j, ds, h1, e2⟩
    · exact ⟨j, fs, e1, e2⟩
  · by_cases e : j = i
    · subst e
      have hl : j < ρ.length := by
        by_cases q : j < ρ.length
        · exact q
        · rw [List.getElem?_eq_none (by omega)] at h1; cases h1
      exact ⟨j, es, List.getElem?_set_self hl, e2⟩
    · exact ⟨j, fs, by rw [List.getElem?_set_ne (fun z => e z.symm)]; exact e1, e2⟩
theorem RE.chg (R : RE K B P H ρ σ) (h1 : ρ[i]? = some (.ow ds)) (h2 : σ[i]? = some (some (.ref a))) (r : RpA K H (Mo B ρ σ) P es us) :
    Gr ρ σ P H (ρ.set i (.ow es)) σ P (upd H a (.lst us)) ∧ RE K B P (upd H a (.lst us)) (ρ.set i (.ow es)) σ := by
  obtain ⟨b, vs, e1, e2, nb, np, _⟩ := R.ow i ds h1
  rw [h2] at e1
  cases e1
  have hl : i < ρ.length := by
    by_cases q : i < ρ.length
    · exact q
    · rw [List.getElem?_eq_none (by omega)] at h1; cases h1
  have own : Own ρ σ a := ⟨i, ds, h1, h2⟩
  have fp := Fut.put (o := .lst us) R.pots e2 np
  have mo : ∀ c, Mo B (ρ.set i (.ow es)) σ c → Mo B ρ σ c := fun c h => h.elim .inl fun h => .inr ((own_same h1 c).mp h)
  have hs : ∀ c, c = a → Mo B ρ σ c := fun c h => by rw [h]; exact .inr own
  refine ⟨⟨fp.mono (fun c h => by rw [h]; exact own) R.ls, fun c h => .inl ((own_same h1 c).mp h)⟩, by rw [set_len]; exact R.len, fun c h => fp.tr c (R.trk c h), fp.ok', fun j d h => ?_, fun j fs h => ?_, fun j k fs gs c e1 e2 e3 e4 => ?_⟩
  · rcases get_set h with ⟨_, q, _⟩ | ⟨n, h⟩
    · cases q
    · obtain ⟨u, e, r1⟩ := R.sh j d h
      exact ⟨u, e, (r1.fut fp hs).anti mo⟩
  · rcases get_set h with ⟨rfl, q, _⟩ | ⟨n, h⟩
    · cases q
      exact ⟨a, us, h2, upd_same, nb, np, (r.fut fp hs).anti mo⟩
    · obtain ⟨c, ws, e, e5, b, q, r1⟩ := R.ow j fs h
      have nca : c ≠ a := fun z => n (R.inj j i fs ds a h h1 (by rw [← z]; exact e) h2)
      exact ⟨c, ws, e, by rw [upd_ne nca]; exact e5, b, q, (r1.fut fp hs).anti mo⟩
  · have back : ∀ {j : Nat} {fs : List PyData}, (ρ.set i (.ow es))[j]? = some (.ow fs) → ∃ fs', ρ[j]? = some (.ow fs') := fun {j fs} z => by
      rcases get_set z with ⟨rfl, _, _⟩ | ⟨_, z⟩
      · exact ⟨ds, h1⟩
      · exact ⟨fs, z⟩
    obtain ⟨_, b1⟩ := back e1
    obtain ⟨_, b2⟩ := back e2
    exact R.inj j k _ _ c b1 b2 e3 e4
end
/-- an owned name is shared from now on -/
def frz1 (i : Nat) (ρ : Ev) : Ev := match ρ[i]? with
  | some (.ow ds) => ρ.set i (.sh (.list ds))
  | _ => ρ
def frz : List Nat → Ev → Ev
  | [], ρ => ρ
  | i :: is, ρ => frz is (frz1 i ρ)
section
variable {K : PySem.W.Frag} {B P : Addr → Prop} {H : Hp} {ρ : Ev} {σ : L2.St}
theorem RE.frz1 (i : Nat) (R : RE K B P H ρ σ) : RE K B P H (frz1 i ρ) σ ∧ ∀ a, Own (WL.frz1 i ρ) σ a → Own ρ σ a := by
  unfold WL.frz1
  split
  · rename_i ds h1
    obtain ⟨a, vs, e1, e2, nb, np, r⟩ := R.ow i ds h1
    have ow : ∀ c, Own (ρ.set i (.sh (.list ds))) σ c → Own ρ σ c ∧ c ≠ a := fun c ⟨j, fs, z1, z2⟩ => by
      rcases get_set z1 with ⟨_, q, _⟩ | ⟨n, z1⟩
      · cases q
      · refine ⟨⟨j, fs, z1, z2⟩, fun z => n (R.inj j i fs ds a z1 h1 (by rw [← z]; exact z2) e1)⟩
    have mo : ∀ c, Mo B (ρ.set i (.sh (.list ds))) σ c → Mo B ρ σ c := fun c h => h.elim .inl fun h => .inr (ow c h).1
    refine ⟨⟨by rw [set_len]; exact R.len, R.trk, R.pots, fun j d h => ?_, fun j fs h => ?_, fun j k fs gs c q1 q2 q3 q4 => ?_⟩, fun c h => (ow c h).1⟩
    · rcases get_set h with ⟨rfl, q, _⟩ | ⟨n, h⟩
      · cases q
        exact ⟨.ref a, e1, a, vs, rfl, .inl ⟨e2, fun z => z.elim nb fun z => (ow a z).2 rfl, np⟩, r.anti mo⟩
      · obtain ⟨u, e, r1⟩ := R.sh j d h
        exact ⟨u, e, r1.anti mo⟩
    · rcases get_set h with ⟨_, q, _⟩ | ⟨n, h⟩
      · cases q
      · obtain ⟨c, ws, e, e5, b, q, r1⟩ := R.ow j fs h
        exact ⟨c, ws, e, e5, b, q, r1.anti mo⟩
    · rcases get_set q1 with ⟨_, q, _⟩ | ⟨_, q1⟩
      · cases q
      · rcases get_set q2 with ⟨_, q, _⟩ | ⟨_, q2⟩
        · cases q
        · exact R.inj j k fs gs c q1 q2 q3 q4
  · exact ⟨R, fun a h => h⟩
theorem RE.frz : ∀ (is : List Nat) {ρ : Ev}, RE K B P H ρ σ → RE K B P H (frz is ρ) σ ∧ ∀ a, Own (WL.frz is ρ) σ a → Own ρ σ a
  | [], ρ, R => ⟨R, fun a h => h⟩
  | i :: is, ρ, R => by
    obtain ⟨R1, h1⟩ := RE.frz1 i R
    obtain ⟨R2, h2⟩ := RE.frz is R1
    exact ⟨R2, fun a h => h1 a (h2 a h)⟩
end
def wFrz (is : List Nat) (g : Ev → W Rs) : Ev → W Rs := fun ρ Q => g (frz is ρ) Q
def wFrzE {α : Type} (is : List Nat) (g : Ev → W α) : Ev → W α := fun ρ Q => g (frz is ρ) Q
section
variable {X : Cx} {m : Md} {s : Stmt} {ss : List Stmt} {e c : Expr} {g h : Ev → W Rs} {ge gf : Ev → W PyData} {gc : Ev → W Bool} {pos p1 p2 p3 : Pos} {x : Str} {i j : Nat}
theorem es_frz (is : List Nat) (a : ESt X m s g) : ESt X m s (wFrz is g) :=
  ⟨fun ρ _ _ i q => a.mono _ _ _ i q, a.ps.imp fun D σ H ⟨B, P, ρ, R, q⟩ => by
    obtain ⟨R', ho⟩ := R.frz is
    exact ⟨B, P, _, R', a.mono _ _ _ (fun r q => q.step ⟨(Fut.refl R.pots).own R, fun c z => .inl (ho c z)⟩) q⟩⟩

end

/-! ### append, extend, pop, x[k] = v -/
def wApp (i : Nat) (g : Ev → W PyData) : Ev → W Rs := fun ρ Q => ∃ ds, ρ[i]? = some (.ow ds) ∧ g ρ fun d => ds.length < sizeLine ∧ Q (.nx (ρ.set i (.ow (ds ++ [d]))))
def wExt (i : Nat) (g : Ev → W PyData) : Ev → W Rs := fun ρ Q => ∃ ds, ρ[i]? = some (.ow ds) ∧ g ρ fun d => ∃ es, d = .list es ∧ ds.length + es.length ≤ sizeLine ∧ Q (.nx (ρ.set i (.ow (ds ++ es))))
def wPut (i : Nat) (gk gv : Ev → W PyData) : Ev → W Rs := fun ρ Q => ∃ ds, ρ[i]? = some (.ow ds) ∧ gv ρ fun d => gk ρ fun k => ∃ n j, k = .int n ∧ ixN ds.length n = some j ∧ Q (.nx (ρ.set i (.ow (ds.set j d))))
/-- x.append(y.pop(k)) -/
def wAppPop (i j : Nat) (g : Ev → W PyData) : Ev → W Rs := fun ρ Q => ∃ ds es, i ≠ j ∧ ρ[i]? = some (.ow ds) ∧ ρ[j]? = some (.ow es) ∧ g ρ fun d => ∃ (n k : Nat) (y : PyData), d = .int n ∧ n = k ∧ es[k]? = some y ∧ es.length ≤ 2 ^ 62 ∧ ds.length < sizeLine ∧ Q (.nx ((ρ.set j (.ow (es.eraseIdx k))).set i (.ow (ds ++ [y]))))
/-- y = x.pop() -/
def wSetPop (i j : Nat) : Ev → W Rs := fun ρ Q => ∃ es y, ρ[j]? = some (.ow es) ∧ es[es.length - 1]? = some y ∧ Q (.nx ((ρ.set j (.ow es.dropLast)).set i (.sh y)))
section
variable {X : Cx} {m : Md} {e c st : Expr} {ge gf : Ev → W PyData} {pos p1 p2 p3 : Pos} {x : Str} {i j : Nat}
theorem es_append {call : Expr} (i : Nat) (he : EW X .S e ge) (hp : ∀ {t : TE}, PE X e t → PE X call (tBM X.K "list" rAppend (tVar i) (tCons t tNil))) (hs : swapsWith call none pos.line X.env = pure false := by rfl) : ESt X m (.Expr call pos) (wApp i ge) :=
  ⟨fun ρ _ _ i ⟨ds, e, q⟩ => ⟨ds, e, he.mono ρ _ _ (fun d ⟨z, q⟩ => ⟨z, i _ q⟩) q⟩, (ps_expr (hp he.pe) hs).imp fun D σ H ⟨B, P, ρ, R, ds, eds, q⟩ => by
    obtain ⟨a, vs, e1, e2, nb, np, r⟩ := R.ow i ds eds
    refine ⟨.ref a, e1, .inl ⟨rfl, vs, .inl (.inl e2)⟩, B, P, ρ, R, he.mono ρ _ _ (fun d ⟨z, q⟩ v P1 H1 f1 r1 => ?_) q⟩
    have R1 := R.fut f1
    obtain ⟨a', us, e1', e2', nb', np', r'⟩ := R1.ow i ds eds
    rw [e1] at e1'
    cases e1'
    obtain ⟨gr, R2⟩ := R1.chg eds e1 (r'.append (.one r1))
    exact ⟨a, us, v, rfl, rfl, e2', by rw [r'.len]; exact z, q σ P1 _ (Gr.after f1 R gr) R2⟩⟩
theorem es_extend {call : Expr} (i : Nat) (he : EW X .F e ge) (hp : ∀ {t : TE}, PE X e t → PE X call (tBM X.K "list" rExtend (tVar i) (tCons t tNil))) (hs : swapsWith call none pos.line X.env = pure false := by rfl) : ESt X m (.Expr call pos) (wExt i ge) :=
  ⟨fun ρ _ _ i ⟨ds, e, q⟩ => ⟨ds, e, he.mono ρ _ _ (fun d ⟨es, e, z, q⟩ => ⟨es, e, z, i _ q⟩) q⟩, (ps_expr (hp he.pe) hs).imp fun D σ H ⟨B, P, ρ, R, ds, eds, q⟩ => by
    obtain ⟨a, vs, e1, e2, nb, np, r⟩ := R.ow i ds eds
    refine ⟨.ref a, e1, .inl ⟨rfl, vs, .inl (.inl e2)⟩, B, P, ρ, R, he.mono ρ _ _ (fun d ⟨es, ee, z, q⟩ v P1 H1 f1 r1 => ?_) q⟩
    subst ee
    have R1 := R.fut f1
    obtain ⟨a', us, e1', e2', nb', np', r'⟩ := R1.ow i ds eds
    rw [e1] at e1'
    cases e1'
    obtain ⟨es', p, ws, ee, rfl, hp0, hp1, hpn, rp⟩ := r1
    cases ee
    obtain ⟨gr, R2⟩ := R1.chg eds e1 (r'.append (rp.anti fun b h => .inl h))
    exact ⟨a, p, us, ws, rfl, rfl, e2', hp1, by rw [r'.len, rp.len]; exact z, q σ P1 _ (Gr.after f1 R gr) R2⟩⟩
theorem es_put {s : Stmt} (i : Nat) (hk : EW X .B c gf) (he : EW X .S e ge) (hp : ∀ {tk tv : TE}, PE X c tk → PE X e tv → PS X s (tAsg tv (gSub (tVar i) tk rSetL))) : ESt X m s (wPut i gf ge) :=
  ⟨fun ρ _ _ i ⟨ds, e, q⟩ => ⟨ds, e, he.mono ρ _ _ (fun d q => hk.mono ρ _ _ (fun k ⟨n, j, a, b, q⟩ => ⟨n, j, a, b, i _ q⟩) q) q⟩, (hp hk.pe he.pe).imp fun D σ H ⟨B, P, ρ, R, ds, eds, q⟩ => by
    refine ⟨B, P, ρ, R, he.mono ρ _ _ (fun d q v P1 H1 f1 r1 => ?_) q⟩
    obtain ⟨a, vs, e1, e2, nb, np, r⟩ := R.ow i ds eds
    refine ⟨.ref a, e1, B, P1, ρ, R.fut f1, hk.mono ρ _ _ (fun k ⟨n, j, ek, ej, q⟩ u P2 H2 f2 r2 => ?_) q⟩
    subst ek
    obtain rfl := r2.int
    have f12 := f1.trans0 f2
    have R2 := R.fut f12
    obtain ⟨a', us, e1', e2', nb', np', r'⟩ := R2.ow i ds eds
    rw [e1] at e1'
    cases e1'
    obtain ⟨gr, R3⟩ := R2.chg eds e1 (RpA.set (Rp.fut0 f2 r1) j r')
    exact ⟨a, us, n, j, rfl, rfl, e2', by rw [r'.len]; exact ej, q σ P2 _ (Gr.after f12 R gr) R3⟩⟩
theorem es_appPop {call : Expr} (i j : Nat) (he : EW X .B e ge) (hp : ∀ {t : TE}, PE X e t → PE X call (tBM X.K "list" rAppend (tVar i) (tCons (tBM X.K "list" rPopAt (tVar j) (tCons t tNil)) tNil))) (hs : swapsWith call none pos.line X.env = pure false := by rfl) : ESt X m (.Expr call pos) (wAppPop i j ge) :=
  ⟨fun ρ _ _ i ⟨ds, es, n, e, e', q⟩ => ⟨ds, es, n, e, e', he.mono ρ _ _ (fun d ⟨n, k, y, a, b, c, d, z, q⟩ => ⟨n, k, y, a, b, c, d, z, i _ q⟩) q⟩, (ps_expr (hp he.pe) hs).imp fun D σ H ⟨B, P, ρ, R, ds, es, nij, eds, ees, q⟩ => by
    obtain ⟨a, vs, e1, e2, nb, np, r⟩ := R.ow i ds eds
    obtain ⟨b, ws, f1, f2, nb2, np2, r2⟩ := R.ow j es ees
    refine ⟨.ref a, e1, .inl ⟨rfl, vs, .inl (.inl e2)⟩, .ref b, f1, .inl ⟨rfl, ws, .inl (.inl f2)⟩, B, P, ρ, R, he.mono ρ _ _ (fun d ⟨n, k, y, ed, enk, ey, hz, hz2, q⟩ v P1 H1 fu r1 => ?_) q⟩
    subst ed
    obtain rfl := r1.int
    have R1 := R.fut fu
    obtain ⟨b', us, f1', f2', nb', np', r'⟩ := R1.ow j es ees
    rw [f1] at f1'
    cases f1'
    subst enk
    obtain ⟨yv, ey1, ry⟩ := r'.get ey
    obtain ⟨gr1, R2⟩ := R1.chg ees f1 (RpA.erase n r')
    have hn : n < es.length := by
      by_cases q : n < es.length
      · exact q
      · rw [List.getElem?_eq_none (by omega)] at ey; cases ey
    refine ⟨b, us, n, n, yv, rfl, rfl, f2', by omega, by omega, ?_, ey1, ?_⟩
    · have := ixN_seq (n := us.length) (i := (n : Int)) (j := n) (by unfold ixN; rw [if_pos (by omega), if_pos (by rw [r'.len]; omega)]; simp)
      exact this.1
    · have eds2 : (ρ.set j (.ow (es.eraseIdx n)))[i]? = some (.ow ds) := by rw [List.getElem?_set_ne (fun z => nij z.symm)]; exact eds
      obtain ⟨a', xs, g1, g2, nb3, np3, r3⟩ := R2.ow i ds eds2
      rw [e1] at g1
      cases g1
      have ry2 : Rp X.K (upd H1 b (.lst (us.eraseIdx n))) (Mo B (ρ.set j (.ow (es.eraseIdx n))) σ) P1 y yv := by
        have fp := Fut.put (o := .lst (us.eraseIdx n)) R1.pots f2' np'
        exact (ry.fut fp fun c z => by rw [z]; exact .inr ⟨j, es, ees, f1⟩).anti fun c h => h.elim .inl fun h => .inr ((own_same ees c).mp h)
      obtain ⟨gr2, R3⟩ := R2.chg eds2 e1 (r3.append (.one ry2))
      exact ⟨a, xs, yv, rfl, rfl, g2, by rw [r3.len]; exact hz2, q σ P1 _ (Gr.after fu R (gr1.trans gr2)) R3⟩⟩
theorem es_setPop {s : Stmt} (i j : Nat) (hp : PS X s (tAsg (tBM0 X.K "list" rPop (tVar j)) (gName i))) : ESt X m s (wSetPop i j) :=
  ⟨fun ρ _ _ i ⟨es, y, a, b, q⟩ => ⟨es, y, a, b, i _ q⟩, hp.imp fun D σ H ⟨B, P, ρ, R, es, y, ees, ey, q⟩ => by
    obtain ⟨a, vs, e1, e2, nb, np, r⟩ := R.ow j es ees
    obtain ⟨yv, ey1, ry⟩ := r.get ey
    have hd : RpA X.K H (Mo B ρ σ) P es.dropLast vs.dropLast := by
      rw [List.dropLast_eq_take, List.dropLast_eq_take, r.len]
      exact r.take _
    obtain ⟨gr1, R2⟩ := R.chg ees e1 hd
    have fp := Fut.put (o := .lst vs.dropLast) R.pots e2 np
    have ry2 : Rp X.K (upd H a (.lst vs.dropLast)) (Mo B (ρ.set j (.ow es.dropLast)) σ) P y yv := (ry.fut fp fun c z => by rw [z]; exact .inr ⟨j, es, ees, e1⟩).anti fun c h => h.elim .inl fun h => .inr ((own_same ees c).mp h)
    exact ⟨.ref a, e1, .inl ⟨rfl, vs, .inl (.inl e2)⟩, a, vs, yv, rfl, rfl, e2, by rw [r.len]; exact ey1, q _ P _ (gr1.trans ⟨(Fut.refl R2.pots).own R2, fun c h => .inl (own_set h)⟩) (R2.set ry2)⟩⟩
/-- y = [..] at one line, y a plain local -/
theorem es_setLc {i : Nat} {y : Str} {py : Pos} {elt tg iter : Expr} {ifs : List Expr} {scope : Scope} {own : List (Str × Nat)} {pos spos : Pos} {gi : Ev → W (List PyData)} {st : Set1} {is : List Nat} {c : Ev → W Bool} {g : Ev → W PyData} (hc : X.calm = true) (hN : X.N.Nodup) (hy : X.N[i]? = some y) (hyl : X.env.scope.names.lookup y = some .local)
    (hsw : swapsWith (.ListComp elt [⟨tg, iter, ifs, 0⟩] scope pos) (some (.Name y py)) spos.line X.env = pure true) (hi : EI X tg iter gi) (ok : BlkOk X.N X.env.scope scope own)
    (hg : ∀ (s : Shared) (H : Hp) (C : Addr) (cl : List (Str × Addr)) (fp : List Addr), EG (X.blk s H scope (compEnvC scope cl C X.env) fp) tg st is)
    (ht : ∀ (s : Shared) (H : Hp) (C : Addr) (cl : List (Str × Addr)) (fp : List Addr), EC (X.blk s H scope (compEnvC scope cl C X.env) fp) ifs c)
    (he : ∀ (s : Shared) (H : Hp) (C : Addr) (cl : List (Str × Addr)) (fp : List Addr), EW (X.blk s H scope (compEnvC scope cl C X.env) fp) .S elt g)
    (his : ∀ i ∈ is, i ∈ own.map (·.2) := by decide) (hs : ∀ x, foldedSetIterable iter X.env x = pure x := by intro _; rfl) :
    ESt X m (.Assign [.Name y py] (.ListComp elt [⟨tg, iter, ifs, 0⟩] scope pos) spos) (wSetF i (wLc (own.map (·.2)) gi st c g)) := by
  have mg : Mono (wLc (own.map (·.2)) gi st c g) := mono_wLc hi.mono (ht {} (fun _ => none) 0 [] []).mono (he {} (fun _ => none) 0 [] []).mono
  refine ⟨fun ρ _ _ i q => mg ρ _ _ (fun _ ⟨ds, e, q⟩ => ⟨ds, e, i _ q⟩) q,
    (ps_setLc (i := i) (g := tG X.K st is) (tt := tWb X.K c) (te := tW X.K .S g) hc hN hy hyl hsw hi.pi ok (fun s H C cl fp => (hg s H C cl fp).pg) (fun s H C cl fp => (ht s H C cl fp).pts) (fun s H C cl fp => (he s H C cl fp).pe) hs).imp fun D σ H ⟨B, P, ρ, R, q⟩ => ?_⟩
  refine lc_imp hc hN hi ok hg ht he his σ H _ ⟨B, P, ρ, R, mg ρ _ _ (fun d ⟨ds, e, q⟩ v P' H' f r => ?_) q⟩
  subst e
  by_cases hl : i < ρ.length
  · exact store_F R hl f r q
  · have e1 : ρ.set i (.ow ds) = ρ := List.set_eq_of_length_le (by omega)
    have e2 : σ.set i (some v) = σ := List.set_eq_of_length_le (by rw [← R.len]; omega)
    show D.nx (σ.set i (some v)) H'
    rw [e2]
    rw [e1] at q
    exact q σ P' H' ((Gr.refl (R.fut f)).after f R) (R.fut f)
end

/-! ### while -/
def wWhile (c : Ev → W Bool) (g : Ev → W Rs) : Nat → Ev → W Rs
  | 0, _, _ => False
  | n + 1, ρ, Q => c ρ fun b => if b = true then g ρ (fun r => match r with
      | .nx ρ2 => wWhile c g n ρ2 Q
      | .ct ρ2 => wWhile c g n ρ2 Q
      | .bk ρ2 => Q (.nx ρ2)
      | .rt d => Q (.rt d)) else Q (.nx ρ)
def wWh (c : Ev → W Bool) (g : Ev → W Rs) : Ev → W Rs := fun ρ Q => ∃ n, wWhile c g n ρ Q
theorem mono_wWhile {c : Ev → W Bool} {g : Ev → W Rs} (hc : Mono c) (hg : Mono g) : ∀ (n : Nat) (ρ : Ev) (Q Q' : Rs → Prop), (∀ r, Q r → Q' r) → wWhile c g n ρ Q → wWhile c g n ρ Q'
  | 0, _, _, _, _, q => q.elim
  | n + 1, ρ, Q, Q', i, q => hc ρ _ _ (fun b q => ite_mono (fun q => hg ρ _ _ (fun r q => by
    cases r with
    | nx ρ2 => exact mono_wWhile hc hg n ρ2 _ _ i q
    | ct ρ2 => exact mono_wWhile hc hg n ρ2 _ _ i q
    | bk ρ2 => exact i _ q
    | rt d => exact i _ q) q) (i _) q) q
section
variable {X : Cx} {m : Md} {e c : Expr} {g : Ev → W Rs} {gc : Ev → W Bool} {pos : Pos}
theorem es_while {body : List Stmt} (hp : PassesOwn (model X.prog X.w) X.A X.env X.xe) (hc : EB X c gc) (hb : ESs X m body g) : ESt X m (.While c body [] pos) (wWh gc g) := by
  refine ⟨fun ρ _ _ i ⟨n, q⟩ => ⟨n, mono_wWhile hc.mono hb.mono n ρ _ _ i q⟩, (ps_while hp hc.pt hb.pss).imp fun D σ H ⟨B, P, ρ, R, n, q⟩ => ?_⟩
  refine ⟨fun k σ2 H2 => ∃ P2 ρ2, Gr ρ σ P H ρ2 σ2 P2 H2 ∧ RE X.K B P2 H2 ρ2 σ2 ∧ wWhile gc g k ρ2 (Post X.K m D B P H ρ σ), ⟨n, P, ρ, .refl R, R, q⟩, ?_⟩
  rintro k σ2 H2 ⟨P2, ρ2, gr, R2, q⟩
  cases k with
  | zero => exact q.elim
  | succ k =>
    refine ⟨B, P2, ρ2, R2, hc.mono ρ2 _ _ (fun b q P3 H3 f3 => ?_) q⟩
    have R3 := R2.fut f3
    have gr3 : Gr ρ σ P H ρ2 σ2 P3 H3 := gr.trans ((Gr.refl R3).after f3 R2)
    refine ite_mono (fun q => ?_) (fun q => q σ2 P3 H3 gr3 R3) q
    refine ⟨fun σ' H' => ∃ P2 ρ2, Gr ρ σ P H ρ2 σ' P2 H' ∧ RE X.K B P2 H' ρ2 σ' ∧ wWhile gc g k ρ2 (Post X.K m D B P H ρ σ), fun σ' H' w => ⟨k, Nat.lt_succ_self k, w⟩, B, P3, ρ2, R3, hb.mono ρ2 _ _ (fun r q => ?_) q⟩
    cases r with
    | nx ρ5 => exact fun σ5 P5 H5 g5 R5 => ⟨P5, ρ5, gr3.trans g5, R5, q⟩
    | ct ρ5 => exact fun σ5 P5 H5 g5 R5 => ⟨P5, ρ5, gr3.trans g5, R5, q⟩
    | bk ρ5 => exact fun σ5 P5 H5 g5 R5 => q σ5 P5 H5 (gr3.trans g5) R5
    | rt d => exact (Post.step gr3 q : Post X.K m D B P3 H3 ρ2 σ2 (.rt d))
end
end WL

namespace WL
open PySem PySem.Spec PyProof.Rows L2

/-! ### defs -/
abbrev Fn := List PyData → W PyData
def MonoF (g : Fn) : Prop := ∀ ds (Q Q' : PyData → Prop), (∀ a, Q a → Q' a) → g ds Q → g ds Q'
/-- what a def promises: n arguments, its answer by g -/
def spW (K : PySem.W.Frag) (m : Md) (n : Nat) (g : Fn) : Sp := fun vs H Q _ => ∃ M P ds, (∀ a, M a → (H a).isSome = true) ∧ PotsOk P H ∧ RpA K H M P ds vs ∧ ds.length = n ∧
  g ds fun d => ∀ v P' H', Fut S0 P H P' H' → RM m K M H P' H' d v → Q v H'
/-- a def's promise where no repr is under way: as FnOk, for such callers alone -/
structure FnG (P : Program) (w : World) (K : PySem.W.Frag) (mg : Str → Option Value) (base : Heap) (CX : CXT) (k : Nat) (f : Addr) (fd : FuncData) (ps : List Str) (sp : Sp) : Prop where
  len : ∀ vs H Q E, sp vs H Q E → vs.length = ps.length
  run : ∀ (A : Around) (outer : List Env) (s : Shared) (H : Hp) (args : Args) (us : List Value) (vs : List V) (Q : VK) (E : XK), Room k A → A.guards = some [] → Env0 P w K mg base A outer s H → BindsTo s fd args (ps.zip us) → Vals vs us → sp vs H Q E →
    codeAny (model P w) A (.call (.ref f) args) (CR CX outer P w H s Q E) s
theorem FnG.mono {P : Program} {w : World} {K : PySem.W.Frag} {mg : Str → Option Value} {base : Heap} {CX : CXT} {j k : Nat} {f : Addr} {fd : FuncData} {ps : List Str} {sp : Sp} (F : FnG P w K mg base CX j f fd ps sp) (h : j ≤ k) : FnG P w K mg base CX k f fd ps sp :=
  ⟨F.len, fun A outer s H args us vs Q E hr => F.run A outer s H args us vs Q E (hr.mono h)⟩
theorem fnG_of {CX : CXT} {P : Program} {w : World} {K : PySem.W.Frag} {mg : Str → Option Value} {base : Heap} {k : Nat} {x qual : Str} {st : Stmt} {f : Addr} {fd : FuncData} {N ps : List Str} {sp : Sp} (F : Fun K x qual st f fd) (S : FnScope N ps (defScope st))
    (len : ∀ vs H Q E, sp vs H Q E → vs.length = ps.length)
    (hbody : ∀ (cdv : Value) (A : Around) (outer : List Env) (s : Shared) (H : Hp) (vs : List V) (Q : VK) (E : XK), Room k (A.deeper (envOfC qual (defScope st) s.heap.objs.size f cdv)) → A.guards = some [] → sp vs H Q E →
      ∃ t, PSs (cxOf CX P w K mg base N qual (defScope st) f cdv A outer s H E) (defBody st) t ∧ t { nx := fun _ H' => Q .non H', rt := Q } (L2.start N vs) H) :
    FnG P w K mg base CX (k + 1) f fd ps sp := by
  obtain ⟨oc, od, kV, doc, pm, an, cdv, ct, osl, rfl, lk, hcd⟩ := F.ex
  refine ⟨len, fun A outer s H args us vs Q E hr hgd e0 hb r hsp => ?_⟩
  have hl := len vs H Q E hsp
  have keepB : ∀ b o, base.get? b = some o → s.heap.get? b = some o := fun b o z => (e0.bs b o z).1
  have KX : K.In s.heap := e0.mod.kin.keeps keepB
  refine codeAny_call_function hr.depth (KX _ _ lk) rfl S.co S.gen rfl (PySem.W.codeRec_of KX hcd) (hb _ _ _ _ ?_)
  have hk : ∀ y ∈ ps.zip us, (defScope st).names.lookup y.1 = some .local ∨ ((defScope st).names.lookup y.1 = some .cell ∧ ((cellsFrom (s.heap.objs.size + 1) (defScope st).names []).lookup y.1).isSome = true) := fun ⟨n, v⟩ hy =>
    (S.par n (List.of_mem_zip hy).1).elim .inl fun q => .inr ⟨q, PySem.W.cellsFrom_some _ _ _ (.inl q)⟩
  refine wpAny_newFunctionEnv_cells S.kind hk fun env he s1 xc => ?_
  subst he
  refine ⟨(e0.mod.nolimit.keeps keepB).keeps xc.toInCall.keep, codeAny_func ?_⟩
  obtain ⟨t, ht, hq⟩ := hbody cdv A outer s H vs Q E (hr.deeper _) hgd hsp
  refine wpAny_mono (ht.run [] s1 (L2.start N vs) H _ (inv_start S hr.hd e0 hl r xc) hq) (fun fl s' hs => ?_) fun _ _ z => z
  cases fl with
  | ret u => obtain ⟨v, σ', H', J, rv, q⟩ := hs; exact ⟨v, H', J.os, J.bare, J.base, J.hok, rv, q⟩
  | next => obtain ⟨σ', H', J, q⟩ := hs; exact ⟨V.non, H', J.os, J.bare, J.base, J.hok, rfl, q⟩
  | brk => obtain ⟨_, _, _, q⟩ := hs; exact q.elim
  | cont => obtain ⟨_, _, _, q⟩ := hs; exact q.elim
theorem runG {X : Cx} {CX : CXT} {k : Nat} {f : Addr} {fd : FuncData} {ps : List Str} {sp : Sp} {E : XK} {args : Args} {pins : List (Addr × Obj)} {σ : L2.St} {H : Hp} {s : Shared} {Q : VK} {us : List Value} {vs : List V} (F : FnG X.prog X.w X.K X.mg X.base CX k f fd ps sp) (hr : Room k X.A) (hgd : X.A.guards = some [])
    (hb : BindsTo s fd args (ps.zip us)) (hx : Passes CX X E) (I : Inv X pins σ H s) (r : Vals vs us) (h : sp vs H Q E) : codeAny (model X.prog X.w) X.A (.call (.ref f) args) (fun r s' => match r with
      | .ok (.ret u) => EP X pins σ Q u s'
      | .ok _ => False
      | .error e => X.xe e s') s := by
  refine codeAny_mono (F.run X.A X.stack s H args us vs Q E hr hgd I.env0 hb r h) fun res s' hq => ?_
  cases res with
  | error e => exact hx pins σ H s e s' I hq
  | ok fl =>
    cases fl with
    | ret u => exact I.after hq
    | next => exact hq.elim
    | brk => exact hq.elim
    | cont => exact hq.elim
/-- a def at its level -/
structure FnW (P : Program) (w : World) (K : PySem.W.Frag) (mg : Str → Option Value) (base : Heap) (k : Nat) (x : Str) (ps : List Str) (m : Md) (g : Fn) : Prop where
  mono : MonoF g
  ok : ∃ f fd, mg x = some (.ref f) ∧ PySem.W.keepIn K (.ref f) = true ∧ Binds K fd ps [] ∧ FnG P w K mg base CX0 k f fd ps (spW K m ps.length g)
theorem FnW.up {P : Program} {w : World} {K : PySem.W.Frag} {mg : Str → Option Value} {base : Heap} {j k : Nat} {x : Str} {ps : List Str} {m : Md} {g : Fn} (F : FnW P w K mg base j x ps m g) (h : j ≤ k) : FnW P w K mg base k x ps m g := by
  obtain ⟨mo, f, fd, a, b, c, d⟩ := F
  exact ⟨mo, f, fd, a, b, c, d.mono h⟩
/-- a body's end -/
def endB (m : Md) (Q : PyData → Prop) : Rs → Prop
  | .rt d => Q d
  | .nx _ => m = .S ∧ Q .none
  | _ => False
/-- the parameters' values, the other names empty -/
def args (n : Nat) (ds : List PyData) : Ev := ds.map Sl.sh ++ List.replicate (n - ds.length) Sl.no
def gBody (m : Md) (n : Nat) (g : Ev → W Rs) : Fn := fun ds Q => ∃ R : Rs → Prop, g (args n ds) R ∧ ∀ r, R r → endB m Q r
theorem endB_mono {m : Md} {Q Q' : PyData → Prop} (i : ∀ d, Q d → Q' d) : ∀ r, endB m Q r → endB m Q' r
  | .rt d, q => i d q
  | .nx _, q => ⟨q.1, i _ q.2⟩
  | .bk _, q => q
  | .ct _, q => q
theorem mono_gBody {m : Md} {n : Nat} {g : Ev → W Rs} : MonoF (gBody m n g) := fun ds _ _ i ⟨R, h, q⟩ => ⟨R, h, fun r z => endB_mono i r (q r z)⟩
theorem gBody_of {m : Md} {n : Nat} {g : Ev → W Rs} {ds : List PyData} {Q : PyData → Prop} (h : g (args n ds) (endB m Q)) : gBody m n g ds Q := ⟨_, h, fun _ z => z⟩
section
variable {K : PySem.W.Frag} {M P : Addr → Prop} {H : Hp}
theorem get_args {n : Nat} {ds : List PyData} {i : Nat} {s : Sl} (h : (args n ds)[i]? = some s) : (∃ d, ds[i]? = some d ∧ s = .sh d) ∨ s = .no := by
  unfold args at h
  by_cases e : i < ds.length
  · rw [List.getElem?_append_left (by rw [List.length_map]; exact e), List.getElem?_map] at h
    rw [List.getElem?_eq_getElem e] at h
    cases h
    exact .inl ⟨ds[i], List.getElem?_eq_getElem e, rfl⟩
  · rw [List.getElem?_append_right (by rw [List.length_map]; omega), List.getElem?_replicate] at h
    split at h
    · cases h; exact .inr rfl
    · cases h
theorem RE.enter {N : List Str} {ds : List PyData} {vs : List V} (po : PotsOk P H) (mt : ∀ a, M a → (H a).isSome = true) (r : RpA K H M P ds vs) (hl : ds.length ≤ N.length) : RE K M P H (args N.length ds) (start N vs) ∧ ∀ a, ¬ Own (args N.length ds) (start N vs) a := by
  have no : ∀ (i : Nat) (es : List PyData), (args N.length ds)[i]? ≠ some (.ow es) := fun i es h => by
    rcases get_args h with ⟨d, _, e⟩ | e <;> cases e
  refine ⟨⟨?_, mt, po, fun i d h => ?_, fun i es h => absurd h (no i es), fun i j es fs a h _ _ _ => absurd h (no i es)⟩, fun a ⟨i, es, h, _⟩ => no i es h⟩
  · unfold args L2.start
    rw [List.length_append, List.length_append, List.length_map, List.length_map, List.length_replicate, List.length_replicate, r.len]
  · rcases get_args h with ⟨d', e, e'⟩ | e
    · cases e'
      obtain ⟨v, ev, rv⟩ := r.get e
      have hi : i < vs.length := by
        by_cases q : i < vs.length
        · exact q
        · rw [List.getElem?_eq_none (by omega)] at ev; cases ev
      refine ⟨v, ?_, rv.anti fun a h => ?_⟩
      · unfold L2.start
        rw [List.getElem?_append_left (by rw [List.length_map]; exact hi), List.getElem?_map, ev]
        rfl
      · rcases h with h | ⟨i, es, h, _⟩
        · exact h
        · exact absurd h (no i es)
    · cases e
end
section
variable {P : Program} {w : World} {K : PySem.W.Frag} {mg : Str → Option Value} {base : Heap}
/-- THE RULE for a def -/
theorem fnG_body {x qual : Str} {st : Stmt} {f : Addr} {fd : FuncData} {N ps : List Str} {k : Nat} {m : Md} {g : Ev → W Rs} (F : Fun K x qual st f fd) (S : FnScope N ps (defScope st))
    (h : ∀ (cdv : Value) (A : Around) (outer : List Env) (s : Shared) (H : Hp) (E : XK), Room k (A.deeper (envOfC qual (defScope st) s.heap.objs.size f cdv)) → A.guards = some [] → ESs (cxOf CX0 P w K mg base N qual (defScope st) f cdv A outer s H E).nox m (defBody st) g) :
    FnG P w K mg base CX0 (k + 1) f fd ps (spW K m ps.length (gBody m N.length g)) := by
  refine fnG_of F S (fun vs H Q E hsp => ?_) fun cdv A outer s H vs Q E hr hgd hsp => ?_
  · obtain ⟨M, Pt, ds, _, _, r, e, _⟩ := hsp
    rw [r.len, e]
  · obtain ⟨M, Pt, ds, mt, po, r, e, q⟩ := hsp
    have hB := h cdv A outer s H E hr hgd
    have hpl : ps.length ≤ N.length := by
      have := congrArg List.length S.pre
      rw [List.length_take] at this
      omega
    obtain ⟨R, no⟩ := RE.enter (N := N) po mt r (by omega)
    obtain ⟨Rq, q, hRq⟩ := q
    refine ⟨_, hB.pss.nox, M, Pt, _, R, hB.mono _ _ _ (fun rs z => ?_) q⟩
    have q := hRq rs z
    have hf : ∀ {P' : Addr → Prop} {H' : Hp}, Fut (Own (args N.length ds) (start N vs)) Pt H P' H' → Fut S0 Pt H P' H' := fun f => f.mono (fun c z => (no c z).elim) fun _ z => z.elim
    cases rs with
    | rt d =>
      refine fun v P' H' f rr => q v P' H' (hf f) ?_
      cases m with
      | S => exact rr
      | B => exact .inl rr
      | F =>
        obtain ⟨ds', p, us, e1, e2, h0, e3, n, ra⟩ := rr
        exact ⟨ds', p, us, e1, e2, h0.elim id fun z => (no p z).elim, e3, n, ra⟩
    | nx ρ =>
      obtain ⟨rfl, q⟩ := q
      exact fun σ' P' H' gr R' => q .non P' H' (hf gr.fut) rfl
    | bk ρ => exact q.elim
    | ct ρ => exact q.elim

theorem fnW_of {x qual : Str} {st : Stmt} {f : Addr} {fd : FuncData} {N ps : List Str} {k : Nat} {m : Md} {g : Ev → W Rs} (F : Fun K x qual st f fd) (hm : mg x = some (.ref f)) (hb : Binds K fd ps [])
    (h : FnG P w K mg base CX0 (k + 1) f fd ps (spW K m ps.length (gBody m N.length g))) :
    FnW P w K mg base (k + 1) x ps m (gBody m N.length g) := ⟨mono_gBody, f, fd, hm, F.kp, hb, h⟩

/-! ### calls -/
def wCall (n : Nat) (g : Fn) (gs : Ev → W (List PyData)) : Ev → W PyData := fun ρ Q => gs ρ fun ds => ds.length = n ∧ g ds Q
theorem mono_wCall {n : Nat} {g : Fn} {gs : Ev → W (List PyData)} (h : MonoF g) (h' : Mono gs) : Mono (wCall n g gs) := fun ρ _ _ i q => h' ρ _ _ (fun ds ⟨e, q⟩ => ⟨e, h ds _ _ i q⟩) q
theorem RM.ofM {m : Md} {K : PySem.W.Frag} {M : Addr → Prop} {H H' H0 : Hp} {P P' : Addr → Prop} {d : PyData} {v : V} (h : RM m K M H P' H' d v) : RM m K M H P' H' d v := h
section
variable {X : Cx} {k j : Nat} {x : Str} {ps : List Str} {m : Md} {g : Fn} {gs : Ev → W (List PyData)} {e : Expr} {es : List Expr} {p pos : Pos}
theorem ew_call {n : Nat} (F : FnW X.prog X.w X.K X.mg X.base k x ps m g) (hr : Room j X.A) (hgd : X.A.guards = some []) (hk : k ≤ j) (hg : Gl X x) (ha : EA X (e :: es) gs) (hdb : (x == ("__debug__" : Str)) = false := by decide)
    (he : starEach (e :: es) X.env = (false, eval e X.env) :: starEach es X.env := by rfl) (hpl : (backTo pos (starEach es X.env)).any (·.1) = false := by rfl) (hn : ps.length = n := by rfl) : EW X m (.Call (.Name x p) (e :: es) [] pos) (wCall n g gs) := by
  subst hn
  obtain ⟨mo, f, fd, hm, kp, hb, ok⟩ := F
  refine ⟨mono_wCall mo ha.mono, ⟨fun pins s σ H Q I ⟨B, P, ρ, R, q⟩ => ?_⟩⟩
  refine wpAny_Call_Name_kw (ld_glob I hg hm ?_ hdb)
  have ta : tWa X.K gs σ H fun vs H1 => vs.length = ps.length ∧ spW X.K m ps.length g vs H1 Q E0 := ⟨B, P, ρ, R, ha.mono ρ _ _ (fun ds ⟨el, q⟩ vs P1 H1 f1 r1 => ⟨by rw [r1.len, el],
    Mo B ρ σ, P1, ds, fun a h => (R.fut f1).mtrk h, f1.ok', r1, el, mo ds _ _ (fun d q v P2 H2 f2 r2 => q v P2 H2 (f1.trans0 f2) (r2.back f1)) q⟩) q⟩
  refine PySem.W.callWith_K (h₀ := X.base) I.ok.mod.kin kp (thn (ha.pa.run pos pins s σ H _ I ta) fun us s1 ⟨vs, H1, I1, r, hl, q1⟩ => ⟨I1.kIn, ?_⟩) he hpl
  refine wpAny_call (codeAny_mono (runG ok (hr.mono hk) hgd (us := us) (by
    have := hb s1 us I1.kIn (by rw [List.append_nil, ← r.length]; exact hl)
    rw [List.append_nil] at this
    exact this) pass0 I1 r q1) fun res s' z => ?_)
  cases res with
  | error e => exact z
  | ok fl => cases fl <;> first | exact z | exact z.elim
theorem ew_call0 (F : FnW X.prog X.w X.K X.mg X.base k x [] m g) (hr : Room j X.A) (hgd : X.A.guards = some []) (hk : k ≤ j) (hg : Gl X x) (hdb : (x == ("__debug__" : Str)) = false := by decide) : EW X m (.Call (.Name x p) [] [] pos) (wCall 0 g wNil) := by
  obtain ⟨mo, f, fd, hm, kp, hb, ok⟩ := F
  refine ⟨mono_wCall mo (fun _ _ _ i q => i _ q), ⟨fun pins s σ H Q I ⟨B, P, ρ, R, e, q⟩ => ?_⟩⟩
  refine wpAny_Call_Name_kw (ld_glob I hg hm ?_ hdb)
  have q1 : spW X.K m 0 g [] H Q E0 := ⟨Mo B ρ σ, P, [], fun a h => R.mtrk h, R.pots, rfl, rfl, mo _ _ _ (fun d q v P2 H2 f2 r2 => q v P2 H2 f2 r2) q⟩
  refine PySem.W.callWith_K0 I.kIn kp (wpAny_call (codeAny_mono (runG ok (hr.mono hk) hgd (us := []) (hb s [] I.kIn rfl) pass0 I .nil q1) fun res s' z => ?_))
  cases res with
  | error e => exact z
  | ok fl => cases fl <;> first | exact z | exact z.elim
end
end
end WL

namespace WL
open PySem PySem.Spec PyProof.Rows L2

/-! ### the law's own call -/
/-- the abstract heap at the law's entry: the script alone, locked -/
def scriptH (a : Addr) (o : Obj) (xs : List V) : Hp := fun b => if b = a then some (.frz o (.lst xs)) else none
theorem law_go {P : Program} {w : World} {K : PySem.W.Frag} {mg mb : Str → Option Value} {k : Nat} {fa a : Addr} {fd : FuncData} {x : Str} {g : Fn} {s : Shared} {vs : List Value} {ns : List Int}
    (KX : K.In s.heap) (hns : s.heap.Ns mainGlobals mg) (hb : s.heap.Ns builtinsNs mb) (hbb : ∀ x : Str, x ≠ "__name__" → mb x = bootBuiltins x) (hlim : s.heap.NoLimit) (hgen : s.gens = #[])
    (ha : s.heap.get? a = some { cls := .type "list", data := .seq vs.toArray }) (hi : IntsAre vs ns) (hl : ns.length ≤ sizeLine) (hr : Room k callerA)
    (F : ∀ base : Heap, K.In base → base.Ns mainGlobals mg → FnG P w K mg base CX0 k fa fd [x] (spW K .S 1 g)) (hbind : ∀ (s : Shared) (u : Value), BindsTo s fd ⟨[u], []⟩ [(x, u)])
    (hg : g [.list (ns.map PyData.int)] fun d => d = .bool true) (mo : MonoF g) :
    codeAny (model P w) callerA (.call (.ref fa) ⟨[.ref a], []⟩) (fun r s' => r = .ok (.ret (.bool true)) ∧ OldK s.heap s'.heap ∧ s'.os = s.os ∧ AllBare s'.gens) s := by
  have rv := vals_ints hi
  have lenV := hi.length
  have rints : ∀ (K : PySem.W.Frag) (H : Hp) (M Pt : Addr → Prop) (ns : List Int), RpA K H M Pt (ns.map PyData.int) (ns.map V.int) := fun K H M Pt ns => by
    induction ns with
    | nil => rfl
    | cons n r ih => exact ⟨_, _, rfl, rfl, ih⟩
  have main : ∀ H : Hp, (∀ b, H b = none ∨ ∃ o xs, H b = some (.frz o (.lst xs))) → LAt K H S0 S0 a (ns.map V.int) → HOk P w H s.heap → (∀ b, H b ≠ none → b = a) → (H a ≠ none → K.lookup a = none) →
      codeAny (model P w) callerA (.call (.ref fa) ⟨[.ref a], []⟩) (fun r s' => r = .ok (.ret (.bool true)) ∧ OldK s.heap s'.heap ∧ s'.os = s.os ∧ AllBare s'.gens) s := by
    intro H hO hS hok hA hK
    have isA : ∀ {b : Addr} {u : HO}, H b = some u → b = a := fun q => hA _ (by rw [q]; exact fun z => nomatch z)
    have dicts : ∀ {b : Addr} {m : Str → Option Value}, s.heap.Ns b m → (hidT s.heap H).Ns b m := fun {b m} ⟨o, es, ep, e, d, r⟩ => by
      refine ⟨o, es, ep, hidT_get e ?_, d, r⟩
      cases q : H b with
      | none => rfl
      | some u =>
        rw [isA q, ha] at e
        cases e
        have z : Data.seq vs.toArray _ = Data.dict es ep := d
        cases z
    have hKb : K.In (hidT s.heap H) := fun b o e => hidT_get (KX b o e) (by
      cases q : H b with
      | none => rfl
      | some u =>
        have := isA q
        rw [this] at e q
        rw [hK (by rw [q]; exact fun z => nomatch z)] at e
        cases e)
    obtain ⟨mc, l1, l2⟩ := hlim
    have hM : Mod K mg (hidT s.heap H) := ⟨hKb, dicts hns, ⟨mb, dicts hb, hbb⟩, mc, dicts l1, l2⟩
    have e0 : Env0 P w K mg (hidT s.heap H) callerA [] s H := ⟨rfl, hM, fun b o e => of_hidT e, Nat.le_of_eq (hidT_size _ _), trivial, fun b hb => (nomatch (show b ∈ ([] : List Addr) from hb)), hok, .of_eq hgen⟩
    have hsp : spW K .S 1 g [.ref a] H (fun v _ => v = .bl true) fun _ _ _ => False := by
      refine ⟨S0, S0, [.list (ns.map PyData.int)], fun _ z => z.elim, fun _ z => z.elim, ⟨_, _, rfl, ⟨a, _, rfl, hS, rints K H S0 S0 ns⟩, rfl⟩, rfl, mo _ _ _ (fun d e v P' H' _ r => ?_) hg⟩
      subst e
      exact r
    refine codeAny_mono ((F _ hKb (dicts hns)).run callerA [] s H ⟨[.ref a], []⟩ [.ref a] [.ref a] _ _ hr rfl e0 (hbind s (.ref a)) (.cons rfl .nil) hsp) fun r s' h => ?_
    cases r with
    | error e => exact h.elim
    | ok fl =>
      cases fl with
      | next => exact False.elim h
      | brk => exact False.elim h
      | cont => exact False.elim h
      | ret u =>
        obtain ⟨v, H', os, bare, un, hok', r', q⟩ := h
        have q' : v = .bl true := q
        subst q'
        obtain rfl : u = Value.bool true := r'
        refine ⟨rfl, OldK.of_keep fun b o e => ?_, os, bare⟩
        have nil : b ∉ frs [] := fun z => nomatch (show b ∈ ([] : List Addr) from z)
        rcases hO b with z | ⟨ob, xs, z⟩
        · exact un.keep b o e z nil fun z => nomatch z
        · obtain ⟨e1, _⟩ := hok b _ z
          obtain ⟨e2, _⟩ := hok' b _ (un.frzs b ob _ z)
          rw [e] at e1
          cases e1
          exact e2
  cases hk : K.lookup a with
  | some o =>
    have e := KX a o hk
    rw [ha] at e
    cases e
    exact main (fun _ => none) (fun _ => .inl rfl) (.inr (.inr ⟨_, vs.toArray, _, hk, rfl, rfl, rfl, by rw [List.size_toArray, lenV]; exact hl, by simpa using rv⟩)) (fun b u z => nomatch (show (none : Option HO) = some u from z)) (fun b z => absurd rfl z) fun z => absurd rfl z
  | none =>
    refine main (scriptH a { cls := .type "list", data := .seq vs.toArray } (ns.map V.int)) (fun b => ?_) (.inr (.inl ⟨_, if_pos rfl⟩)) (fun b u z => ?_) (fun b z => ?_) fun _ => hk
    · by_cases hb : b = a
      · exact .inr ⟨_, _, if_pos hb⟩
      · exact .inl (if_neg hb)
    · by_cases hb : b = a
      · have z' := (if_pos hb).symm.trans z
        cases z'
        subst hb
        exact ⟨ha, by rw [List.length_map]; exact hl, vs, _, rv, ha⟩
      · exact nomatch (if_neg hb).symm.trans z
    · by_cases hb : b = a
      · exact hb
      · exact absurd (if_neg hb) z
/-- the goal that k_head leaves -/
theorem walk_ofG {l : PySem.W.OpenLaw} {k : Nat} {q : Program} {loose : List Str} {XP : (Str → Option Value) → Heap → Prop} {YP : World → Heap → Prop} {d : DefRec} {K : Params → PySem.W.Frag} {g : Fn} {x : Str}
    (hn : l.most = some 63) (hdf : d.params.defaults = []) (hr : Room k callerA) (hY : ∀ (w : World) (h : Heap), YP w h → (K w.params).In h)
    (F : ∀ (w : World) (mg : Str → Option Value) (fa : Addr) (h : Heap), (K w.params).In h → h.Ns mainGlobals mg → mg d.name = some (.ref fa) →
      ∃ fd : FuncData, (∀ (s : Shared) (u : Value), BindsTo s fd ⟨[u], []⟩ [(x, u)]) ∧ ∀ base : Heap, (K w.params).In base → base.Ns mainGlobals mg → FnG l.prog w (K w.params) mg base CX0 k fa fd [x] (spW (K w.params) .S 1 g))
    (mo : MonoF g) (hg : ∀ ns : List Int, ns.length ≤ 63 → g [.list (ns.map PyData.int)] fun d => d = .bool true) :
    PySem.W.WalkO q loose XP YP l.row.toRowW d [] (fun f vs => PySem.call f vs) := by
  refine Att.attach_call hn hdf fun w s₀ s₁ mg mb fa o pm cd doc a vs ns G Y ho hd hcd hmg hobj hints hlen hgen => ?_
  have KX := hY w _ Y
  obtain ⟨fd, hb, hF⟩ := F w mg fa _ KX G.T.g hmg
  exact law_go KX G.T.g G.T.b G.T.builtins G.T.nolimit hgen hobj hints (Nat.le_trans hlen (by decide)) hr hF hb (hg ns hlen) mo
end WL

namespace WL
open PySem PySem.Spec PyProof.Rows L2

/-! ### repr -/
section
variable {X : Cx} {pins : List (Addr × Obj)} {σ : L2.St} {H : Hp} {s : Shared} {M P : Addr → Prop}
abbrev Rr (X : Cx) (s : Shared) (d : PyData) (u : Value) : Prop := ∃ bs, ReadAtMost s.heap d.depth bs ∧ ReprK X.prog X.w bs s.heap d.depth u d.shown
abbrev RrA (X : Cx) (s : Shared) (ds : List PyData) (us : List Value) : Prop := ∃ bs, ReadAtMost s.heap (PyData.depthAll ds) bs ∧ ReprAllK X.prog X.w bs s.heap (PyData.depthAll ds) us (PyData.shownAll ds)
/-- an empty dict's object -/
theorem emptyDict {a : Addr} (I : Inv X pins σ H s) (l : H a = some (.dK [])) : (a == sysModules) = false ∧ ∃ o ep, s.heap.get? a = some o ∧ o.cls = .type "dict" ∧ o.data = .dict #[] ep := by
  obtain ⟨_, na, vs, kv, o, es, ep, ho, hc, hd, _, hp, _⟩ := I.hok a _ l
  cases kv
  have e : es.toList = [] := by
    revert hp
    generalize es.toList = l
    intro hp
    cases hp
    rfl
  obtain rfl : es = #[] := Array.toList_inj.mp e
  exact ⟨na, o, ep, ho, hc.1, hd⟩
mutual
theorem Rp.repr (I : Inv X pins σ H s) : ∀ (d : PyData) (v : V) (u : Value), plain d = true → d.showable = true → d.shown.length ≤ sizeLine → Rp X.K H M P d v → RelV v u → Rr X s d u
  | .none, _, _, _, sh, z, h, r => by
    subst h
    cases r
    exact ReprK.of_reads .none sh (fun e => nomatch e) z
  | .bool b, _, _, _, sh, z, h, r => by
    subst h
    cases r
    exact ReprK.of_reads (.bool b) sh (fun e => nomatch e) z
  | .int i, _, _, _, sh, z, h, r => by
    subst h
    obtain ⟨t, rfl⟩ := r
    exact ReprK.of_reads (.int i t) sh (fun e => nomatch e) z
  | .str x, _, _, _, sh, z, h, r => by
    subst h
    obtain ⟨t, rfl⟩ := r
    exact ReprK.of_reads (.str x t) sh (fun e => nomatch e) z
  | .list ds, _, _, p, sh, z, h, r => by
    obtain ⟨a, vs, rfl, hs, ha⟩ := h
    cases r
    obtain ⟨its, rv, ⟨o, n, ho, hc, _, hd⟩, _⟩ := I.list hs.sq
    have z' : (listText (PyData.shownAll ds)).length ≤ sizeLine := by simpa only [PyData.shown] using z
    obtain ⟨bs, hb, hk⟩ := RpA.repr I ds _ its p (by simpa [PyData.showable] using sh) (fun t ht => Nat.le_trans (listText_mem_le ht) z') ha rv
    obtain ⟨as, hr⟩ := RpA.reads I ds _ its p ha rv
    have rr : Reads s.heap (.ref a) (.list ds) _ := .list ho hc hd hr
    have nm : a ∉ bs := not_mem_of_deeper rr (by simp only [PyData.depth]; omega) hb
    refine ⟨a :: bs, ReadAtMost.cons rr (by simp only [PyData.depth]; omega) hb, ?_⟩
    simp only [PyData.depth, PyData.shown]
    cases its with
    | nil =>
      cases hr
      simp only [PyData.shownAll, listText_nil]
      exact .listEmpty ho hc hd
    | cons y l => exact .list ho hc hd nm (by simpa using hk.length_eq) fun i y e => hk.item i y (by simpa using e)
  | .tuple ds, _, _, p, sh, z, h, r => by
    obtain ⟨a, vs, rfl, hs, ha⟩ := h
    cases r
    obtain ⟨its, rv, ⟨o, ho, hc, n, hd⟩, _⟩ := I.tuple hs
    have z' : (tupleText (PyData.shownAll ds)).length ≤ sizeLine := by simpa only [PyData.shown] using z
    obtain ⟨bs, hb, hk⟩ := RpA.repr I ds _ its p (by simpa [PyData.showable] using sh) (fun t ht => Nat.le_trans (tupleText_mem_le ht) z') ha rv
    obtain ⟨as, hr⟩ := RpA.reads I ds _ its p ha rv
    have rr : Reads s.heap (.ref a) (.tuple ds) _ := .tuple ho hc hd hr
    have nm : a ∉ bs := not_mem_of_deeper rr (by simp only [PyData.depth]; omega) hb
    refine ⟨a :: bs, ReadAtMost.cons rr (by simp only [PyData.depth]; omega) hb, ?_⟩
    simp only [PyData.depth, PyData.shown]
    exact .tuple ho hc hd nm hk
  | .dict kvs, _, _, p, sh, z, h, r => by
    rcases h with ⟨rfl, a, rfl, l⟩ | ⟨rfl, _⟩
    · cases r
      obtain ⟨na, o, ep, ho, hc, hd⟩ := emptyDict I l
      have rr : Reads s.heap (.ref a) (.dict []) _ := .dict ho hc hd (by exact ReadsAll.nil) (by exact ReadsAll.nil)
      exact ReprK.of_reads rr sh (fun _ => by
        have := beq_eq_false_iff_ne.mp na
        simp only [List.append_nil, List.mem_singleton]
        exact fun e => this e.symm) z
    · exact nomatch p
theorem RpA.repr (I : Inv X pins σ H s) : ∀ (ds : List PyData) (vs : List V) (us : List Value), plainA ds = true → PyData.showableAll ds = true → (∀ t ∈ PyData.shownAll ds, t.length ≤ sizeLine) → RpA X.K H M P ds vs → Vals vs us → RrA X s ds us
  | [], _, _, _, _, _, h, r => by
    subst h
    cases r
    exact ⟨[], (fun _ h => nomatch h), by simp only [PyData.shownAll]; exact .nil⟩
  | d :: ds, _, _, p, sh, z, h, r => by
    obtain ⟨v, vr, rfl, h1, h2⟩ := h
    have p : (plain d && plainA ds) = true := p
    rw [Bool.and_eq_true] at p
    have sh : d.showable = true ∧ PyData.showableAll ds = true := by simpa [PyData.showableAll] using sh
    simp only [PyData.shownAll, List.mem_cons, forall_eq_or_imp] at z
    cases r with
    | cons r1 r2 =>
      obtain ⟨b1, q1, k1⟩ := Rp.repr I d _ _ p.1 sh.1 z.1 h1 r1
      obtain ⟨b2, q2, k2⟩ := RpA.repr I ds _ _ p.2 sh.2 z.2 h2 r2
      refine ⟨b1 ++ b2, ?_, ?_⟩
      · simp only [PyData.depthAll]
        exact (q1.mono (Nat.le_max_left _ _)).append (q2.mono (Nat.le_max_right _ _))
      · simp only [PyData.depthAll, PyData.shownAll]
        exact .cons ((k1.more fun b hb => List.mem_append_left _ hb).level_le (Nat.le_max_left _ _)) (k2.more_le (fun b hb => List.mem_append_right _ hb) (Nat.le_max_right _ _))
end
def reprD (d : PyData) : Option PyData := if plain d = true ∧ d.showable = true ∧ d.depth ≤ 50 ∧ d.shown.length ≤ sizeLine then some (.str d.shown) else none
theorem call_list (hg : X.A.guards = some []) (hu : X.A.units + 64 < cLine) (I : Inv X pins σ H s) {a : Addr} {vs : List V} {ds : List PyData} {Q : VK} (hs : SqL X.K H a vs) (ha : RpA X.K H M P ds vs) (p : plain (.list ds) = true) (sh : (PyData.list ds).showable = true) (hdp : (PyData.list ds).depth ≤ 50) (z : (PyData.list ds).shown.length ≤ sizeLine)
    (q : Q (.str (PyData.list ds).shown) H) : wpAny (model X.prog X.w) X.A (call (.builtin "repr") [.ref a]) (EP X pins σ Q) X.xe s := by
  obtain ⟨its, rv, ⟨o, n, ho, hc, _, hd⟩, _⟩ := I.list hs
  have z' : (listText (PyData.shownAll ds)).length ≤ sizeLine := by simpa only [PyData.shown] using z
  obtain ⟨bs, hb, hk⟩ := RpA.repr I ds _ its p (by simpa [PyData.showable] using sh) (fun t ht => Nat.le_trans (listText_mem_le ht) z') ha rv
  obtain ⟨as, hr⟩ := RpA.reads I ds _ its p ha rv
  have rr : Reads s.heap (.ref a) (.list ds) _ := .list ho hc hd hr
  have nm : a ∉ bs := not_mem_of_deeper rr (by simp only [PyData.depth]; omega) hb
  simp only [PyData.depth] at hdp
  simp only [PyData.shown] at q
  refine call_repr_slot (T := "list") (idr := "list.__repr__") (by omega) ⟨o, ho, hc⟩ F.slot_list_repr.toG ?_
  cases its with
  | nil =>
    cases hr
    simp only [PyData.shownAll, listText_nil] at q
    exact call_list_repr_empty ⟨o, ho, hc⟩ ho hd ⟨_, _, rfl, .str _, H, I.kept (t' := s.toks + 1) fun _ _ e => e, ⟨_, rfl⟩, q⟩
  | cons y l =>
    exact call_list_reprK ho hc hd nm (by simpa using hk.length_eq) (fun i y e => hk.item i y (by simpa using e)) hg (fun b _ => Clear.nil b) (by show X.A.units + 1 + _ < cLine; omega) (fun _ _ e => e)
      (fun h' u tk k => ⟨_, _, rfl, .str _, H, I.kept (t' := tk) k, ⟨_, rfl⟩, q⟩) z'
theorem call_reprD (hg : X.A.guards = some []) (hu : X.A.units + 64 < cLine) (I : Inv X pins σ H s) {d : PyData} {v : V} {u : Value} {H0 : Hp} {e : PyData} {Q : VK} (h : RM .B X.K M H0 P H d v) (r : RelV v u) (he : reprD d = some e) (q : ∀ x, e = .str x → Q (.str x) H) :
    wpAny (model X.prog X.w) X.A (call (.builtin "repr") [u]) (EP X pins σ Q) X.xe s := by
  unfold reprD at he
  split at he
  · rename_i c
    cases he
    obtain ⟨p, sh, hdp, z⟩ := c
    have q := q _ rfl
    rcases h with h | ⟨ds, a, vs, rfl, rfl, l, n, ra⟩
    · cases d with
      | none =>
        subst h
        cases r
        simp only [PyData.shown] at q
        exact PySem.P.repr_of_none ⟨.str _, H, I.kept (t' := s.toks + 1) fun _ _ e => e, ⟨_, rfl⟩, q⟩
      | bool b =>
        subst h
        cases r
        simp only [PyData.shown] at q
        exact PySem.P.repr_of_bool ⟨.str _, H, I.kept (t' := s.toks + 1) fun _ _ e => e, ⟨_, rfl⟩, q⟩
      | int i =>
        subst h
        obtain ⟨t, rfl⟩ := r
        simp only [PyData.shown] at q
        exact PySem.P.repr_of_int (by simpa [PyData.showable] using sh) ⟨.str _, H, I.kept (t' := s.toks + 1) fun _ _ e => e, ⟨_, rfl⟩, q⟩
      | str x =>
        subst h
        obtain ⟨t, rfl⟩ := r
        simp only [PyData.shown] at q
        exact PySem.P.repr_of_str ⟨.str _, H, I.kept (t' := s.toks + 1) fun _ _ e => e, ⟨_, rfl⟩, q⟩ (by simpa only [PyData.shown] using z)
      | list ds =>
        obtain ⟨a, vs, rfl, hs, ha⟩ := h
        cases r
        exact call_list hg hu I hs.sq ha p sh hdp z q
      | tuple ds =>
        obtain ⟨a, vs, rfl, hs, ha⟩ := h
        cases r
        obtain ⟨its, rv, ⟨o, ho, hc, n, hd⟩, _⟩ := I.tuple hs
        have z' : (tupleText (PyData.shownAll ds)).length ≤ sizeLine := by simpa only [PyData.shown] using z
        obtain ⟨bs, hb, hk⟩ := RpA.repr I ds _ its p (by simpa [PyData.showable] using sh) (fun t ht => Nat.le_trans (tupleText_mem_le ht) z') ha rv
        obtain ⟨as, hr⟩ := RpA.reads I ds _ its p ha rv
        have rr : Reads s.heap (.ref a) (.tuple ds) _ := .tuple ho hc hd hr
        have nm : a ∉ bs := not_mem_of_deeper rr (by simp only [PyData.depth]; omega) hb
        simp only [PyData.depth] at hdp
        simp only [PyData.shown] at q
        refine call_repr_slot (T := "tuple") (idr := "tuple.__repr__") (by omega) ⟨o, ho, hc⟩ F.slot_tuple_repr ?_
        exact call_tuple_reprK ho hc hd nm hk hg (fun b _ => Clear.nil b) (by show X.A.units + 1 + _ < cLine; omega) (fun _ _ e => e) (fun h' u tk k => ⟨_, _, rfl, .str _, H, I.kept (t' := tk) k, ⟨_, rfl⟩, q⟩) z'
      | dict kvs =>
        rcases h with ⟨rfl, a, rfl, l⟩ | ⟨rfl, _⟩
        · cases r
          obtain ⟨na, o, ep, ho, hc, hd⟩ := emptyDict I l
          have rr : Reads s.heap (.ref a) (.dict []) _ := .dict ho hc hd (by exact ReadsAll.nil) (by exact ReadsAll.nil)
          simp only [PyData.depth] at hdp
          exact repr_of_reads' rr sh (fun _ => by
            have := beq_eq_false_iff_ne.mp na
            simp only [List.append_nil, List.mem_singleton]
            exact fun e => this e.symm) hg (by have : (PyData.dict []).depth ≤ 50 := by simp [PyData.depth, PyData.depthKv]
                                               omega) (fun _ _ e => e) (fun h' u tk k => ⟨.str _, H, I.kept (t' := tk) k, ⟨_, rfl⟩, q⟩) z
        · exact nomatch p
    · cases r
      exact call_list hg hu I (.inl (.inl l)) ra p sh hdp z q
  · cases he
end
def rReprD (K : PySem.W.Frag) : List V → Hp → VK → Prop := fun vs H Q => ∃ v M H0 P d e, vs = [v] ∧ RM .B K M H0 P H d v ∧ reprD d = some e ∧ ∀ x, e = .str x → Q (.str x) H
theorem cr_repr {X : Cx} (hg : X.A.guards = some []) (hu : X.A.units + 64 < cLine) : CallR X (.builtin "repr") (rReprD X.K) := by
  intro pins s σ H vs us Q I r h
  obtain ⟨v, M, H0, P, d, e, rfl, hm, he, q⟩ := h
  obtain ⟨u, rfl, ru⟩ := vals1 r
  exact call_reprD hg hu I hm ru he q
theorem un_repr {K : PySem.W.Frag} : UnOk K .S (fun v => rReprD K [v]) reprD := by
  intro M P H x dx d Q fx po mt rx e k
  refine ⟨x, M, H, P, dx, d, rfl, rx, e, fun z ez => ?_⟩
  subst ez
  exact k _ P H (.refl po) rfl
section
variable {X : Cx} {a b e : Expr} {g ga gb : Ev → W PyData} {pos p : Pos}
theorem ew_repr (hgd : X.A.guards = some []) (hu : X.A.units + 64 < cLine) (hg : Gl X "repr") (hm : X.mg "repr" = none) (ha : EW X .B e g) (hs : starEach [e] X.env = (false, eval e X.env) :: starEach [] X.env := by rfl) : EW X .S (.Call (.Name "repr" p) [e] [] pos) (wU reprD g) :=
  ew_callB un_repr (cr_repr hgd hu) hg hm (by decide +kernel) ha (hs := hs)
end
end WL

namespace WL
open PySem PySem.Spec PyProof.Rows L2

/-! ### a[i] -/
def ixD : PyData → PyData → Option PyData
  | .list ds, .int i => atI ds i
  | .tuple ds, .int i => atI ds i
  | .str z, .int i => if z.length ≤ sizeLine then (atI z.cps.toList i).map fun c => .str ⟨#[c]⟩ else none
  | _, _ => none
theorem RpA.atI {K : PySem.W.Frag} {H : Hp} {M P : Addr → Prop} {ds : List PyData} {vs : List V} {i : Int} {d : PyData} (h : RpA K H M P ds vs) (e : L2.atI ds i = some d) : ∃ v, L2.atI vs i = some v ∧ Rp K H M P d v := by
  unfold L2.atI at e ⊢
  rw [h.len]
  cases q : L2.ixN ds.length i with
  | none => rw [q] at e; cases e
  | some j =>
    rw [q] at e
    exact h.get e
theorem bin_ix {K : PySem.W.Frag} : BinOk K .S (rIx K) ixD := by
  intro M P H x y dx dy d Q fx po mt rx ry e k
  unfold ixD at e
  split at e
  · obtain ⟨a, vs, rfl, l, r⟩ := rx.lst
    obtain rfl := ry.int
    obtain ⟨v, e1, r1⟩ := r.atI e
    exact .inl ⟨a, vs, _, v, rfl, rfl, l, e1, k _ P H (.refl po) r1⟩
  · obtain ⟨a, vs, rfl, l, r⟩ := rx.tup
    obtain rfl := ry.int
    obtain ⟨v, e1, r1⟩ := r.atI e
    exact .inr (.inl ⟨a, vs, _, v, rfl, rfl, l, e1, k _ P H (.refl po) r1⟩)
  · rename_i z i
    split at e
    · rename_i hz
      obtain rfl := rx.str
      obtain rfl := ry.int
      cases q : L2.atI z.cps.toList i with
      | none => rw [q] at e; cases e
      | some c =>
        rw [q] at e
        cases e
        exact .inr (.inr ⟨z, i, c, rfl, rfl, hz, q, k _ P H (.refl po) rfl⟩)
    · cases e
  · cases e
section
variable {X : Cx} {a b : Expr} {ga gb : Ev → W PyData} {pos : Pos}
theorem ew_at (ha : EW X .B a ga) (hb : EW X .B b gb) (hs : PlainIx b := by intro _ _; rfl) : EW X .S (.Subscript a b pos) (wB ixD ga gb) := ew_ix bin_ix ix_seq ha hb hs
end

/-! ### a[lo:hi] -/
def cutP (xs : List PyData) (lo hi : Option Int) : List PyData := (xs.drop (HT.sIx xs.length 0 lo)).take (HT.sIx xs.length xs.length hi - HT.sIx xs.length 0 lo)
def cutD (d : PyData) (lo hi : Option Int) : Option PyData := match d with
  | .list ds => some (.list (cutP ds lo hi))
  | .tuple ds => some (.tuple (cutP ds lo hi))
  | .str z => if z.length ≤ sizeLine then some (.str (Txt.slice z lo hi)) else none
  | _ => none
theorem RpA.cut {K : PySem.W.Frag} {H : Hp} {M P : Addr → Prop} {ds : List PyData} {vs : List V} {lo hi : Option Int} (h : RpA K H M P ds vs) : RpA K H M P (cutP ds lo hi) (cutV vs lo hi) := by
  unfold cutP L2.cutV
  rw [h.len]
  exact (h.drop _).take _
def tWo (K : PySem.W.Frag) (g : Ev → W (Option Int)) : TO := fun σ H Q => ∃ B P ρ, RE K B P H ρ σ ∧ g ρ fun o => ∀ P' H', Fut S0 P H P' H' → Q o H'
structure EO (X : Cx) (e : Option Expr) (g : Ev → W (Option Int)) : Prop where
  mono : Mono g
  po : PO X e (tWo X.K g)
theorem _root_.L2.PO.imp {X : Cx} {e : Option Expr} {t t' : TO} (h : PO X e t) (i : ∀ σ H Q, t' σ H Q → t σ H Q) : PO X e t' := ⟨fun pins s σ H Q I q => h.run pins s σ H Q I (i _ _ _ q)⟩
def wNo : Ev → W (Option Int) := fun _ Q => Q none
def wPart (g : Ev → W PyData) : Ev → W (Option Int) := fun ρ Q => g ρ fun d => ∃ i, d = .int i ∧ Q (some i)
def wSl (g : Ev → W PyData) (gl gh : Ev → W (Option Int)) : Ev → W PyData := fun ρ Q => g ρ fun d => gl ρ fun lo => gh ρ fun hi => ∃ e, cutD d lo hi = some e ∧ Q e
/-- what a slice of a list, tuple, text is -/
abbrev rSlAny (K : PySem.W.Frag) : V → Option Int → Option Int → Hp → VK → Prop := fun x lo hi H Q => rSlL K x lo hi H Q ∨ rSlA K x lo hi H Q ∨ C8.rSlX x lo hi H Q
theorem cut_whole {ds : List PyData} {lo hi : Option Int} (h : HT.sIx ds.length 0 lo = 0 ∧ HT.sIx ds.length ds.length hi = ds.length) : cutP ds lo hi = ds := by
  unfold cutP
  rw [h.1, h.2]
  simp
theorem slice_ok {K : PySem.W.Frag} {M P : Addr → Prop} {H H0 : Hp} {x : V} {dx d : PyData} {lo hi : Option Int} {Q : VK} (po : PotsOk P H) (mt : ∀ a, M a → (H a).isSome = true) (rx : RM .B K M H0 P H dx x) (e : cutD dx lo hi = some d)
    (k : ∀ v P' H', Fut S0 P H P' H' → RM .S K M H P' H' d v → Q v H') : rSlAny K x lo hi H Q := by
  cases dx with
  | list ds =>
    cases e
    obtain ⟨a, vs, rfl, l, r⟩ := rx.lst
    exact .inl ⟨a, vs, rfl, l, new_list po r.cut mt fun v P' H' f r => k v P' H' f (r.FtoS mt)⟩
  | tuple ds =>
    cases e
    obtain ⟨a, vs, rfl, l, r⟩ := rx.tup
    refine .inr (.inl ⟨a, vs, rfl, l, fun w => ?_, fun _ p hp => ?_⟩)
    · rw [r.len] at w
      rw [cut_whole w] at k
      exact k _ P H (.refl po) ⟨a, vs, rfl, l, r⟩
    · have f : Fut S0 P H P (upd H p (.tup (cutV vs lo hi))) := .new po hp
      exact k _ P _ f ⟨p, _, rfl, .inl (.inl upd_same), r.cut.fut0 f⟩
  | str z =>
    have e : (if z.length ≤ sizeLine then some (PyData.str (Txt.slice z lo hi)) else none) = some d := e
    split at e
    · rename_i hz
      cases e
      obtain rfl := rx.str
      exact .inr (.inr ⟨z, rfl, hz, k _ P H (.refl po) rfl⟩)
    · cases e
  | _ => exact nomatch e
section
variable {X : Cx} {a b e : Expr} {lo hi : Option Expr} {g ga gb : Ev → W PyData} {gl gh : Ev → W (Option Int)} {pos p2 : Pos}
theorem eo_none : EO X none wNo := ⟨fun _ _ _ i q => i _ q, po_none.imp fun σ H Q ⟨B, P, ρ, R, q⟩ => q P H (.refl R.pots)⟩
theorem eo_some (h : EW X .B e g) : EO X (some e) (wPart g) := ⟨fun ρ _ _ i q => h.mono ρ _ _ (fun d ⟨n, e, q⟩ => ⟨n, e, i _ q⟩) q, (po_some h.pe).imp fun σ H Q ⟨B, P, ρ, R, q⟩ => ⟨B, P, ρ, R, h.mono ρ _ _ (fun d ⟨n, e, q⟩ v P1 H1 f1 r1 => by
  subst e
  exact ⟨n, r1.int, q P1 H1 f1⟩) q⟩⟩
theorem ew_slice (h : EW X .B e g) (hl : EO X lo gl) (hh : EO X hi gh) : EW X .S (.Subscript e (.Slice lo hi none p2) pos) (wSl g gl gh) :=
  ⟨fun ρ _ _ i q => h.mono ρ _ _ (fun d q => hl.mono ρ _ _ (fun l q => hh.mono ρ _ _ (fun u ⟨z, e, q⟩ => ⟨z, e, i _ q⟩) q) q) q,
    (pe_slice (sl_list.or (sl_tupA.or C8.sl_txt)) h.pe hl.po hh.po).imp fun σ H Q ⟨B, P, ρ, R, q⟩ => ⟨B, P, ρ, R, h.mono ρ _ _ (fun d q v P1 H1 f1 r1 => ⟨B, P1, ρ, R.fut f1, hl.mono ρ _ _ (fun l q P2 H2 f2 => ⟨B, P2, ρ, (R.fut f1).fut f2, hh.mono ρ _ _ (fun u ⟨z, e, q⟩ P3 H3 f3 =>
      slice_ok (M := Mo B ρ σ) f3.ok' (fun a h => (((R.fut f1).fut f2).fut f3).mtrk h) (H0 := H) ((r1.fut f2).fut f3) e fun v' P4 H4 f4 r4 => q v' P4 H4 (((f1.trans0 f2).trans0 f3).trans0 f4) r4) q⟩) q⟩) q⟩⟩
end

/-! ### list or tuple or .. + -/
def addAD (x y : PyData) : Option PyData := match x with
  | .list _ => catD x y
  | _ => addD x y
theorem bin_addA {K : PySem.W.Frag} : BinOk K .S (fun x y H Q => (rI0 (fun i j => .int (i + j)) x y H Q ∨ rAddS x y H Q ∨ rCatA K x y H Q) ∨ rCatL K x y H Q) addAD := by
  intro M P H x y dx dy d Q fx po mt rx ry e k
  cases dx with
  | list ds => exact .inr (bin_cat M P H x y (.list ds) dy d Q fx po mt rx ry e fun v P' H' f r => k v P' H' f (r.FtoS mt))
  | _ => exact .inl (bin_add M P H x y _ dy d Q fx po mt rx ry e k)
/-- list * int -/
def repD : PyData → PyData → Option PyData
  | .list xs, .int k => if 0 ≤ k ∧ k ≤ 1000 ∧ xs.length ≤ 1000 then some (.list (List.replicate k.toNat xs).flatten) else none
  | _, _ => none
section
variable {X : Cx} {a b e : Expr} {g ga gb : Ev → W PyData} {pos : Pos}
theorem ew_addA (ha : EW X .B a ga) (hb : EW X .B b gb) : EW X .S (.BinOp a .Add b pos) (wB addAD ga gb) := ew_binop bin_addA (OpR.or (OpR.or op_add (OpR.or op_addS op_catA)) op_catL) ha hb
theorem ew_rep (ha : EW X .F a ga) (hb : EW X .B b gb) : EW X .F (.BinOp a .Mult b pos) (wB repD ga gb) := by
  refine ⟨mono_wB ha.mono hb.mono, (pe_op op_rep ha.pe hb.pe).imp fun σ H Q ⟨B, P, ρ, R, q⟩ => ⟨B, P, ρ, R, ha.mono ρ _ _ (fun dx q v P1 H1 f1 r1 => ?_) q⟩⟩
  refine ⟨B, P1, ρ, R.fut f1, hb.mono ρ _ _ (fun dy ⟨d, e, q⟩ v' P2 H2 f2 r2 => ?_) q⟩
  obtain ⟨ds, p, vs, rfl, rfl, np, ep, nP, r⟩ := r1
  cases dy with
  | int k =>
    have e : (if 0 ≤ k ∧ k ≤ 1000 ∧ ds.length ≤ 1000 then some (PyData.list (List.replicate k.toNat ds).flatten) else none) = some d := e
    split at e
    · rename_i c
      cases e
      obtain rfl := r2.int
      have r' := r.fut0 f2
      have hz : vs.length * k.toNat ≤ sizeLine := by
        have h1 : vs.length * k.toNat ≤ 1000 * 1000 := Nat.mul_le_mul (by rw [r.len]; exact c.2.2) (by omega)
        have h2 : (1000 * 1000 : Nat) ≤ sizeLine := by decide
        omega
      refine ⟨p, k, vs, rfl, rfl, f2.kp p _ ep nP (fun z => z.elim), by omega, by omega, hz, new_list (M := Mo B ρ σ) f2.ok' ((r'.anti fun a h => .inl h).rep _) (fun a h => ((R.fut f1).fut f2).mtrk h) fun v P3 H3 f3 r3 => q v P3 H3 ((f1.trans0 f2).trans0 f3) (r3.back (f1.trans0 f2))⟩
    · cases e
  | _ => exact nomatch e

/-! ### {} -/
theorem ew_dnew : EW X .S (.Dict [] [] pos) (wC (.dict [])) := ⟨mono_wC, pe_dnewK.imp fun σ H Q ⟨B, P, ρ, R, q⟩ => fun p hp => q _ P _ (.new R.pots hp) (.inl ⟨rfl, p, rfl, upd_same⟩)⟩

/-! ### a < b < c -/
def wChain (r r' : PyData → PyData → Option PyData) (ga gb gc : Ev → W PyData) : Ev → W PyData := fun ρ Q => ga ρ fun x => gb ρ fun y => ∃ d b, r x y = some d ∧ d = .bool b ∧ if b = true then gc ρ fun z => ∃ e, r' y z = some e ∧ Q e else Q (.bool false)
theorem mono_wChain {r r' : PyData → PyData → Option PyData} {gc : Ev → W PyData} (h : Mono ga) (h' : Mono gb) (h2 : Mono gc) : Mono (wChain r r' ga gb gc) := fun ρ _ _ i q => h ρ _ _ (fun x q => h' ρ _ _ (fun y ⟨d, b, e, e', q⟩ => ⟨d, b, e, e', ite_mono (fun q => h2 ρ _ _ (fun z ⟨e, e1, q⟩ => ⟨e, e1, i _ q⟩) q) (i _) q⟩) q) q
theorem ew_chain {c : Expr} {gc : Ev → W PyData} {op op' : CmpOp} {r r' : R2} {f f' : PyData → PyData → Option PyData} (U : BinOk X.K .S r f) (U' : BinOk X.K .S r' f') (ho : OpR X (compareOp op) r) (ho' : OpR X (compareOp op') r') (ha : EW X .B a ga) (hb : EW X .B b gb) (hc : EW X .B c gc)
    (hm : lastMarks [op, op'] [b, c] = false := by with_unfolding_all rfl) : EW X .S (.Compare a [op, op'] [b, c] pos) (wChain f f' ga gb gc) := by
  refine ⟨mono_wChain ha.mono hb.mono hc.mono, (pe_chain ho ho' ha.pe hb.pe.fx hc.pe.fx hm).imp fun σ H Q ⟨B, P, ρ, R, q⟩ => ⟨B, P, ρ, R, ha.mono ρ _ _ (fun dx q v P1 H1 f1 r1 => fun _ => ?_) q⟩⟩
  refine ⟨B, P1, ρ, R.fut f1, hb.mono ρ _ _ (fun dy ⟨d, k, e, ek, q⟩ v' P2 H2 f2 r2 fx => ?_) q⟩
  have R2 := (R.fut f1).fut f2
  have r1' := r1.fut f2
  have r2' : RM .B X.K (Mo B ρ σ) H2 P2 H2 dy v' := by cases r2 with | inl z => exact .inl z | inr z => exact .inr z
  refine U (Mo B ρ σ) P2 H2 v v' dx dy d _ fx f2.ok' (fun a h => R2.mtrk h) (by cases r1' with | inl z => exact .inl z | inr z => exact .inr z) r2' e fun w P3 H3 f3 r3 => ?_
  subst ek
  refine ⟨k, r3, ?_⟩
  have f13 := (f1.trans0 f2).trans0 f3
  refine ite_mono (fun q => ?_) (fun q => q _ P3 H3 f13 rfl) q
  intro fx3
  refine ⟨B, P3, ρ, R.fut f13, hc.mono ρ _ _ (fun dz ⟨e, e1, q⟩ u P4 H4 f4 r4 fx4 => ?_) q⟩
  have r2'' := (r2.fut f3).fut f4
  exact U' (Mo B ρ σ) P4 H4 v' u dy dz e _ fx4 f4.ok' (fun a h => (R.fut (f13.trans0 f4)).mtrk h) (by cases r2'' with | inl z => exact .inl z | inr z => exact .inr z) (by cases r4 with | inl z => exact .inl z | inr z => exact .inr z) e1
    fun w' P5 H5 f5 r5 => q w' P5 H5 ((f13.trans0 f4).trans0 f5) r5
theorem ew_lele {c : Expr} {gc : Ev → W PyData} (ha : EW X .B a ga) (hb : EW X .B b gb) (hc : EW X .B c gc) (hm : lastMarks [.LtE, .LtE] [b, c] = false := by with_unfolding_all rfl) : EW X .S (.Compare a [.LtE, .LtE] [b, c] pos) (wChain leI leI ga gb gc) :=
  ew_chain (bin_int0 fun _ _ _ _ _ _ => rfl) (bin_int0 fun _ _ _ _ _ _ => rfl) op_le op_le ha hb hc hm
theorem ew_ltle {c : Expr} {gc : Ev → W PyData} (ha : EW X .B a ga) (hb : EW X .B b gb) (hc : EW X .B c gc) (hm : lastMarks [.Lt, .LtE] [b, c] = false := by with_unfolding_all rfl) : EW X .S (.Compare a [.Lt, .LtE] [b, c] pos) (wChain ltI leI ga gb gc) :=
  ew_chain (bin_int0 fun _ _ _ _ _ _ => rfl) (bin_int0 fun _ _ _ _ _ _ => rfl) op_lt op_le ha hb hc hm
theorem ew_lelt {c : Expr} {gc : Ev → W PyData} (ha : EW X .B a ga) (hb : EW X .B b gb) (hc : EW X .B c gc) (hm : lastMarks [.LtE, .Lt] [b, c] = false := by with_unfolding_all rfl) : EW X .S (.Compare a [.LtE, .Lt] [b, c] pos) (wChain leI ltI ga gb gc) :=
  ew_chain (bin_int0 fun _ _ _ _ _ _ => rfl) (bin_int0 fun _ _ _ _ _ _ => rfl) op_le op_lt ha hb hc hm
end
end WL

namespace WL
open PySem PySem.Spec PyProof.Rows L2

/-! ### calls by keyword -/
def pick {α : Type} (π : List Nat) (l : List α) : List α := π.filterMap (l[·]?)
theorem RpA.pick {K : PySem.W.Frag} {H : Hp} {M P : Addr → Prop} {ds : List PyData} {vs : List V} (h : RpA K H M P ds vs) : ∀ π : List Nat, RpA K H M P (pick π ds) (pick π vs)
  | [] => rfl
  | i :: π => by
    unfold WL.pick
    cases q : ds[i]? with
    | none =>
      have q2 : vs[i]? = none := by
        rw [List.getElem?_eq_none_iff] at q ⊢
        rw [h.len]
        exact q
      rw [List.filterMap_cons_none q, List.filterMap_cons_none q2]
      exact RpA.pick h π
    | some d =>
      obtain ⟨v, e, r⟩ := h.get q
      rw [List.filterMap_cons_some q, List.filterMap_cons_some e]
      exact ⟨v, _, rfl, r, RpA.pick h π⟩
theorem vals_pick {vs : List V} {us : List Value} (h : Vals vs us) : ∀ π : List Nat, Vals (pick π vs) (pick π us)
  | [] => .nil
  | i :: π => by
    unfold WL.pick
    cases q : vs[i]? with
    | none =>
      have q2 : us[i]? = none := by
        rw [List.getElem?_eq_none_iff] at q ⊢
        rw [← h.length]
        exact q
      rw [List.filterMap_cons_none q, List.filterMap_cons_none q2]
      exact vals_pick h π
    | some d =>
      obtain ⟨v, e, r⟩ := h.get q
      rw [List.filterMap_cons_some q, List.filterMap_cons_some e]
      exact .cons r (vals_pick h π)
theorem vals_app {vs vs' : List V} {us us' : List Value} (h : Vals vs us) (h' : Vals vs' us') : Vals (vs ++ vs') (us ++ us') := h.append h'
/-- how a call binds that gives np values by place, then some by the names ks: π puts them in the parameters' order -/
def KB (K : PySem.W.Frag) (fd : FuncData) (ps ks : List Str) (np : Nat) (π : List Nat) : Prop :=
  ∀ (s : Shared) (us ws : List Value), K.In s.heap → us.length = np → ws.length = ks.length → BindsTo s fd ⟨us, ks.zip ws⟩ (ps.zip (pick π (us ++ ws)))
structure FnK (P : Program) (w : World) (K : PySem.W.Frag) (mg : Str → Option Value) (base : Heap) (k : Nat) (x : Str) (ks : List Str) (np : Nat) (π : List Nat) (m : Md) (g : Fn) : Prop where
  mono : MonoF g
  ok : ∃ f fd ps, mg x = some (.ref f) ∧ PySem.W.keepIn K (.ref f) = true ∧ KB K fd ps ks np π ∧ π.length = ps.length ∧ (∀ i ∈ π, i < np + ks.length) ∧ FnG P w K mg base CX0 k f fd ps (spW K m ps.length g)
theorem fnK_of {P : Program} {w : World} {K : PySem.W.Frag} {mg : Str → Option Value} {base : Heap} {x qual : Str} {st : Stmt} {f : Addr} {fd : FuncData} {N ps ks : List Str} {np : Nat} {π : List Nat} {k : Nat} {m : Md} {g : Ev → W Rs} (F : Fun K x qual st f fd) (hm : mg x = some (.ref f)) (hb : KB K fd ps ks np π)
    (h1 : π.length = ps.length := by rfl) (h2 : ∀ i ∈ π, i < np + ks.length := by decide) (h : FnG P w K mg base CX0 k f fd ps (spW K m ps.length (gBody m N.length g))) : FnK P w K mg base k x ks np π m (gBody m N.length g) :=
  ⟨mono_gBody, f, fd, ps, hm, F.kp, hb, h1, h2, h⟩
theorem pick_len {α : Type} {l : List α} {n : Nat} (h : l.length = n) : ∀ π : List Nat, (∀ i ∈ π, i < n) → (pick π l).length = π.length
  | [], _ => rfl
  | i :: π, hi => by
    have hl : i < l.length := by rw [h]; exact hi i List.mem_cons_self
    unfold WL.pick
    rw [List.filterMap_cons_some (List.getElem?_eq_getElem hl)]
    exact congrArg Nat.succ (pick_len h π fun j hj => hi j (List.mem_cons_of_mem _ hj))
structure EK (X : Cx) (es : List Keyword) (g : Ev → W (List PyData)) : Prop where
  mono : Mono g
  pk : PK X es (tWa X.K g)
theorem _root_.L2.PK.imp {X : Cx} {e : List Keyword} {t t' : TA} (h : PK X e t) (i : ∀ σ H Q, t' σ H Q → t σ H Q) : PK X e t' := ⟨fun pos pins s σ H Q I q => h.run pos pins s σ H Q I (i _ _ _ q)⟩
def wCallK (np nk : Nat) (π : List Nat) (g : Fn) (gs gk : Ev → W (List PyData)) : Ev → W PyData := fun ρ Q => gs ρ fun ds => gk ρ fun es => ds.length = np ∧ es.length = nk ∧ g (pick π (ds ++ es)) Q
section
variable {X : Cx} {k j : Nat} {x : Str} {ks : List Str} {m : Md} {g : Fn} {ge : Ev → W PyData} {gs gk : Ev → W (List PyData)} {e : Expr} {es : List Expr} {kws : List Keyword} {p pos kp : Pos} {np : Nat} {π : List Nat} {nm : Option Str}
theorem ek_nil : EK X [] wNil := ⟨fun _ _ _ i q => i _ q, pk_nil.imp fun σ H Q ⟨B, P, ρ, R, q⟩ => q [] P H (.refl R.pots) rfl⟩
theorem ek_cons (h : EW X .S e ge) (h' : EK X kws gk) : EK X (⟨nm, e, kp⟩ :: kws) (wCons ge gk) :=
  ⟨mono_wCons h.mono h'.mono, (pk_cons h.pe h'.pk).imp fun σ H Q ⟨B, P, ρ, R, q⟩ => ⟨B, P, ρ, R, h.mono ρ _ _ (fun d q v P1 H1 f1 r1 => ⟨B, P1, ρ, R.fut f1, h'.mono ρ _ _ (fun ds q vs P2 H2 f2 r2 =>
    q (v :: vs) P2 H2 (f1.trans0 f2) ⟨v, vs, rfl, Rp.fut0 f2 r1, r2⟩) q⟩) q⟩⟩
theorem mono_wCallK {nk : Nat} (h : MonoF g) (h1 : Mono gs) (h2 : Mono gk) : Mono (wCallK np nk π g gs gk) := fun ρ _ _ i q => h1 ρ _ _ (fun ds q => h2 ρ _ _ (fun es ⟨a, b, q⟩ => ⟨a, b, h _ _ _ i q⟩) q) q
theorem ew_callK0 {nk : Nat} (F : FnK X.prog X.w X.K X.mg X.base k x ks 0 π m g) (hr : Room j X.A) (hgd : X.A.guards = some []) (hk : k ≤ j) (hg : Gl X x) (ha : EK X kws gk) (hall : (backToKw pos (keywordEach kws X.env)).all (·.1.isSome) = true := by rfl)
    (hks : (backToKw pos (keywordEach kws X.env)).filterMap (·.1) = ks := by rfl) (hdb : (x == ("__debug__" : Str)) = false := by decide) (hpl : ((backTo pos (starEach [] X.env)).any (·.1) || (backToKw pos (keywordEach kws X.env)).any (·.1.isNone)) = false := by rfl) (hn : ks.length = nk := by rfl) :
    EW X m (.Call (.Name x p) [] kws pos) (wCallK 0 nk π g wNil gk) := by
  subst hn
  obtain ⟨mo, f, fd, ps, hm, kp, hb, h1, h2, ok⟩ := F
  refine ⟨mono_wCallK mo (fun _ _ _ i q => i _ q) ha.mono, ⟨fun pins s σ H Q I ⟨B, P, ρ, R, q⟩ => ?_⟩⟩
  refine wpAny_Call_Name_kw (ld_glob I hg hm ?_ hdb)
  have ta : tWa X.K gk σ H fun zs H1 => zs.length = ks.length ∧ spW X.K m ps.length g (pick π zs) H1 Q E0 := ⟨B, P, ρ, R, ha.mono ρ _ _ (fun ds ⟨_, el, q⟩ vs P1 H1 f1 r1 => by
    have el2 : vs.length = ks.length := by rw [r1.len, el]
    exact ⟨el2, Mo B ρ σ, P1, pick π ds, fun a h => (R.fut f1).mtrk h, f1.ok', r1.pick π, by rw [pick_len el π (by simpa using h2), h1], mo _ _ _ (fun d q v P2 H2 f2 r2 => q v P2 H2 (f1.trans0 f2) (r2.back f1)) q⟩) q⟩
  refine PySem.W.callWith_KW0 (h₀ := X.base) I.ok.mod.kin kp hall (thn (ha.pk.run pos pins s σ H _ I ta) fun ws s1 ⟨zs, H1, I1, r, hl, q1⟩ => ⟨I1.kIn, ?_⟩) hpl
  rw [hks]
  refine wpAny_call (codeAny_mono (runG ok (hr.mono hk) hgd (us := pick π ws) (hb s1 [] ws I1.kIn rfl (by rw [← r.length]; exact hl)) pass0 I1 (vals_pick r π) q1) fun res s' z => ?_)
  cases res with
  | error e => exact z
  | ok fl => cases fl <;> first | exact z | exact z.elim
theorem ew_callK {nk : Nat} (F : FnK X.prog X.w X.K X.mg X.base k x ks np π m g) (hr : Room j X.A) (hgd : X.A.guards = some []) (hk : k ≤ j) (hg : Gl X x) (hp : EA X (e :: es) gs) (ha : EK X kws gk) (hall : (backToKw pos (keywordEach kws X.env)).all (·.1.isSome) = true := by rfl)
    (hks : (backToKw pos (keywordEach kws X.env)).filterMap (·.1) = ks := by rfl) (hdb : (x == ("__debug__" : Str)) = false := by decide) (he : starEach (e :: es) X.env = (false, eval e X.env) :: starEach es X.env := by rfl)
    (hpl : ((backTo pos (starEach (e :: es) X.env)).any (·.1) || (backToKw pos (keywordEach kws X.env)).any (·.1.isNone)) = false := by rfl) (hn : ks.length = nk := by rfl) :
    EW X m (.Call (.Name x p) (e :: es) kws pos) (wCallK np nk π g gs gk) := by
  subst hn
  obtain ⟨mo, f, fd, ps, hm, kp, hb, h1, h2, ok⟩ := F
  refine ⟨mono_wCallK mo hp.mono ha.mono, ⟨fun pins s σ H Q I ⟨B, P, ρ, R, q⟩ => ?_⟩⟩
  refine wpAny_Call_Name_kw (ld_glob I hg hm ?_ hdb)
  have ta : tWa X.K gs σ H fun vs H1 => tWa X.K gk σ H1 fun zs H2 => vs.length = np ∧ zs.length = ks.length ∧ spW X.K m ps.length g (pick π (vs ++ zs)) H2 Q E0 := ⟨B, P, ρ, R, hp.mono ρ _ _ (fun ds q vs P1 H1 f1 r1 => ⟨B, P1, ρ, R.fut f1, ha.mono ρ _ _ (fun es ⟨dl, el, q⟩ zs P2 H2 f2 r2 => by
    have el1 : vs.length = np := by rw [r1.len, dl]
    have el2 : zs.length = ks.length := by rw [r2.len, el]
    have rr := (r1.fut0 f2).append r2
    exact ⟨el1, el2, Mo B ρ σ, P2, pick π (ds ++ es), fun a h => ((R.fut f1).fut f2).mtrk h, f2.ok', rr.pick π, by rw [pick_len (by rw [List.length_append, dl, el]) π h2, h1], mo _ _ _ (fun d q v P3 H3 f3 r3 => q v P3 H3 ((f1.trans0 f2).trans0 f3) (r3.back (f1.trans0 f2))) q⟩) q⟩) q⟩
  refine PySem.W.callWith_KW (h₀ := X.base) I.ok.mod.kin kp hall (thn (hp.pa.run pos pins s σ H _ I ta) fun us s1 ⟨vs, H1, I1, r, q1⟩ => thn (ha.pk.run pos pins s1 σ H1 _ I1 q1) fun ws s2 ⟨zs, H2, I2, rz, hl1, hl2, q2⟩ => ⟨I2.kIn, ?_⟩) hpl he
  rw [hks]
  refine wpAny_call (codeAny_mono (runG ok (hr.mono hk) hgd (us := pick π (us ++ ws)) (hb s2 us ws I2.kIn (by rw [← r.length]; exact hl1) (by rw [← rz.length]; exact hl2)) pass0 I2 (vals_pick (vals_app r rz) π) q2) fun res s' z => ?_)
  cases res with
  | error e => exact z
  | ok fl => cases fl <;> first | exact z | exact z.elim
end
end WL

namespace WL
open PySem PySem.Spec PyProof.Rows L2

/-! ### x[::-1] -/
section
variable {prog : Program} {w : World} {A : Around} {E : Value → Shared → Prop} {s : Shared}
theorem applied_rev {sl : Addr} {vl vu vs : Value} {n : Nat} {Q : Int × Int × Nat → Shared → Prop} (hs : s.heap.IsSliceOf sl vl vu vs) (pl : IsPart vl none) (pu : IsPart vu none) (ps : IsPart vs (some (-1)))
    (h : Q ((n : Int) - 1, -1, n) s) : wpAny (model prog w) A (Builtin.Slice.sliceApplied (.ref sl) (pure (n : Int))) Q E s := by
  obtain ⟨os, hos, hcs, hds⟩ := id hs
  unfold Builtin.Slice.sliceApplied Builtin.Slice.sliceFields
  refine wpAny_bind (wpAny_bind (wpAny_field hos hds (x := vl) rfl (wpAny_bind (wpAny_field hos hds (x := vu) rfl (wpAny_bind (wpAny_field hos hds (x := vs) rfl (wpAny_pure ?_)))))))
  refine wpAny_bind (HT.slicePart_ ps ?_)
  show wpAny _ _ (if ((-1 : Int) == 0) = true then _ else _) _ _ s
  rw [if_neg (by decide)]
  refine wpAny_bind (HT.slicePart_ pl (wpAny_bind (HT.slicePart_ pu (wpAny_bind (wpAny_pure ?_)))))
  refine wpAny_pure ?_
  have e1 : Builtin.Slice.sliceAdjust none none (-1) (n : Int) = ((n : Int) - 1, -1) := rfl
  have e2 : Builtin.Slice.slicePlaces ((n : Int) - 1) (-1) (-1) = n := by
    unfold Builtin.Slice.slicePlaces
    rw [if_neg (by decide)]
    by_cases c : (n : Int) - 1 > -1
    · rw [if_pos c]
      have : ((n : Int) - 1 - -1 - 1) / (- -1) = (n : Int) - 1 := by
        rw [show (- -1 : Int) = 1 by decide, Int.ediv_one]
        omega
      rw [this]
      omega
    · rw [if_neg c]
      have : n = 0 := by omega
      rw [this]
      rfl
  show Q ((Builtin.Slice.sliceAdjust none none (-1) (n : Int)).1, -1, Builtin.Slice.slicePlaces (Builtin.Slice.sliceAdjust none none (-1) (n : Int)).1 (Builtin.Slice.sliceAdjust none none (-1) (n : Int)).2 (-1)) s
  rw [e1]
  show Q ((n : Int) - 1, -1, Builtin.Slice.slicePlaces ((n : Int) - 1) (-1) (-1)) s
  rw [e2]
  exact h
theorem fm_congr {α β : Type} {f g : α → Option β} : ∀ {l : List α}, (∀ x ∈ l, f x = g x) → l.filterMap f = l.filterMap g
  | [], _ => rfl
  | x :: l, h => by
    have h1 := h x List.mem_cons_self
    have h2 := fm_congr fun y hy => h y (List.mem_cons_of_mem _ hy)
    cases q : g x with
    | none => rw [List.filterMap_cons_none q, List.filterMap_cons_none (h1.trans q), h2]
    | some z => rw [List.filterMap_cons_some q, List.filterMap_cons_some (h1.trans q), h2]
theorem pick_rev (xs : Array Value) : ((List.range xs.size).filterMap fun (k : Nat) => xs[(((xs.size : Int) - 1) + (k : Int) * (-1)).toNat]?).toArray = xs.toList.reverse.toArray := by
  rw [← PySem.W.krv_pick]
  unfold slicePick
  rw [PySem.W.krv_bounds]
  show _ = ((sliceRange ((xs.size : Int) - 1) (-1) (-1)).filterMap (xs[·]?)).toArray
  rw [PySem.W.krv_sliceRange, List.filterMap_map]
  congr 1
  refine fm_congr fun k hk => ?_
  have := List.mem_range.mp hk
  have e : (((xs.size : Int) - 1) + (k : Int) * (-1)).toNat = xs.size - 1 - k := by omega
  show xs[(((xs.size : Int) - 1) + (k : Int) * (-1)).toNat]? = xs[xs.size - 1 - k]?
  rw [e]
theorem tuple_rev {t sl : Addr} {items : Array Value} {vl vu vs : Value} {Q : Value → Shared → Prop} (ht : IsTup s.heap t items) (hs : s.heap.IsSliceOf sl vl vu vs) (pl : IsPart vl none) (pu : IsPart vu none) (ps : IsPart vs (some (-1)))
    (h : Q (.ref s.heap.objs.size) { s with heap := s.heap.push { cls := .type "tuple", data := .seq items.toList.reverse.toArray } }) (hsz : items.size ≤ sizeLine) : wpAny (model prog w) A (getItem (.ref t) (.ref sl)) Q E s := by
  have htake : sizeOk (.seq items.toList.reverse.toArray) := by
    show items.toList.reverse.toArray.size ≤ sizeLine
    rw [List.size_toArray, List.length_reverse, Array.length_toList]
    exact hsz
  obtain ⟨os, hos, hcs, hds⟩ := id hs
  have hTs : s.TypeIs (.ref sl) "slice" := ⟨os, hos, hcs⟩
  unfold getItem
  try with_reducible refine wpAny_holding ?_
  first | refine wpAny_bind (wpAny_pure ?_) | skip
  refine wpAny_bind (wpAny_sequenceKey ht.typeIs (by decide) ?_)
  refine wpAny_bind (wpAny_callSpecial?_slot (name := Str.ofString "__getitem__") ht.typeIs PyProof.Rows.slot_tuple_getitem (wpAny_call_entry PyProof.Rows.slot_tuple_getitem ht.typeIs PyProof.Rows.entry_tuple_getitem ?_ (PyProof.Rows.args_tuple_getitem _ _)))
  show wpAny (model prog w) A.in1 (Builtin.Tuple.tupleItemsOf (Value.ref t) >>= _) _ _ s
  refine wpAny_bind (tupleItemsOf_ ht ?_)
  refine wpAny_bind (wpAny_typeOf hTs ?_)
  rw [if_pos (by decide)]
  refine wpAny_bind (applied_rev hs pl pu ps ?_)
  have hno : ¬ ((((items.size : Int) - 1 == 0) && (-1 : Int) == 1 && items.size == items.size) = true) := by
    intro q
    rw [Bool.and_eq_true, Bool.and_eq_true] at q
    exact absurd q.1.2 (by decide)
  show wpAny _ _ (if (((items.size : Int) - 1 == 0) && (-1 : Int) == 1 && items.size == items.size) = true then _ else _) _ _ s
  rw [if_neg hno, pick_rev]
  first
    | exact wpAny_bind (m := Builtin.Tuple.tupleExact _) (wpAny_newObj_type (wpAny_pure ⟨_, rfl, wpAny_pure h⟩) htake)
    | exact wpAny_bind (m := Builtin.Tuple.tupleExact _) (wpAny_newObj_type (wpAny_bind (wpAny_pure (wpAny_pure ⟨_, rfl, wpAny_pure h⟩))) htake)
    | exact wpAny_bind (wpAny_bind (m := Builtin.Tuple.tupleExact _) (wpAny_newObj_type (wpAny_pure (wpAny_pure ⟨_, rfl, wpAny_pure h⟩)) htake))
    | exact wpAny_bind (wpAny_bind (m := Builtin.Tuple.tupleExact _) (wpAny_newObj_type (wpAny_pure ⟨_, rfl, wpAny_pure h⟩) htake))
end
def revS (z : Str) : Str := ⟨((Builtin.Str.strSliceIndices none none (-1) z.length).filterMap (z.cps[·]?)).toArray⟩
def rRevA (K : PySem.W.Frag) : V → Hp → VK → Prop := fun x H Q => (∃ a xs, x = .ref a ∧ SqL K H a xs ∧ ∀ p, H p = none → Q (.ref p) (upd H p (.lst xs.reverse))) ∨
  (∃ a xs, x = .ref a ∧ SqT K H a xs ∧ ∀ p, H p = none → Q (.ref p) (upd H p (.tup xs.reverse))) ∨ ∃ z, x = .str z ∧ (revS z).length ≤ sizeLine ∧ Q (.str (revS z)) H
theorem pe_revA {X : Cx} {e : Expr} {te : TE} {k : Nat} {p1 p2 p3 pos : Pos} (he : PE X e te) : PE X (.Subscript e (.Slice none none (some (.UnaryOp .USub (.Constant (.int 1) k p1) p2)) p3) pos) (fun σ H Q => te σ H fun x H1 => rRevA X.K x H1 Q) := by
  refine ⟨fun pins s σ H Q I h => ?_⟩
  refine Subscript_ (thn (he.run pins s σ H _ I h) fun v s1 ⟨x, H1, I1, r1, q1⟩ => ?_)
  have hst : PO X (some (.UnaryOp .USub (.Constant (.int 1) k p1) p2)) (tPart (tUn (rU fun i => .int (-i)) (tC (.int 1)))) := po_some (pe_un un_neg pe_int)
  refine wpAny_Slice (thn (po_none.run pins s1 σ H1 (fun o H2 => o = none ∧ H2 = H1) I1 ⟨rfl, rfl⟩) fun vl s2 ⟨l, H2, I2, pl, el, e2⟩ => ?_)
  subst el e2
  refine thn (po_none.run pins s2 σ H2 (fun o H3 => o = none ∧ H3 = H2) I2 ⟨rfl, rfl⟩) fun vu s3 ⟨u, H3, I3, pu, eu, e3⟩ => ?_
  subst eu e3
  refine thn (hst.run pins s3 σ H3 (fun o H4 => o = some (-1) ∧ H4 = H3) I3 ⟨1, rfl, -1, rfl, rfl, rfl⟩) fun vs s4 ⟨o, H4, I4, ps, eo, e4⟩ => ?_
  subst eo e4
  have I5 : Inv X pins σ H4 { s4 with heap := s4.heap.push { cls := .type "slice", data := .fields #[vl, vu, vs] } } := I4.kept (t' := s4.toks) fun b ob q => Heap.get?_push_of_some _ q
  have hsl : (s4.heap.push { cls := .type "slice", data := .fields #[vl, vu, vs] }).IsSliceOf s4.heap.objs.size vl vu vs := Heap.IsSliceOf.new _ vl vu vs
  show wpAny (model X.prog X.w) X.A (subscriptTail e (.Slice none none (some (.UnaryOp .USub (.Constant (.int 1) k p1) p2)) p3) v (.ref s4.heap.objs.size)) (EP X pins σ Q) X.xe { s4 with heap := s4.heap.push { cls := .type "slice", data := .fields #[vl, vu, vs] } }
  rcases q1 with ⟨a, xs, rfl, hx, q⟩ | ⟨a, xs, rfl, hx, q⟩ | ⟨z, rfl, hz, q⟩
  · cases r1
    obtain ⟨its, r, ht, hz⟩ := I5.list hx
    have hlen := r.length
    refine tail_any (ops := [.ref a, .ref s4.heap.objs.size]) ht.isList.typeIs (PySem.slot_list_getitem.lookup) ?_ (by with_unfolding_all rfl)
    refine wpAny_getItem_list_slice ht.isList hsl pl pu ps (by decide) ?_ (by rw [List.size_toArray]; omega)
    rw [PySem.W.krv_pick]
    refine ⟨.ref _, _, I5.laid (t' := s4.toks) (o := .lst xs.reverse) (fun b ob q => Heap.get?_push_of_some _ q) (Nat.le_refl _) ?_, rfl, q _ (I5.hok.fresh (Nat.le_refl _))⟩
    exact ⟨by rw [List.length_reverse]; exact hz, _, 0, r.reverse, Heap.get?_push_size _ rfl⟩
  · cases r1
    obtain ⟨its, r, ht, hz⟩ := I5.tuple hx
    have hlen := r.length
    refine tail_any (ops := [.ref a, .ref s4.heap.objs.size]) ht.typeIs (PyProof.Rows.slot_tuple_getitem.lookup) ?_ (by with_unfolding_all rfl)
    refine tuple_rev ht hsl pl pu ps ?_ (by rw [List.size_toArray]; omega)
    refine ⟨.ref _, _, I5.laid (t' := s4.toks) (o := .tup xs.reverse) (fun b ob q => Heap.get?_push_of_some _ q) (Nat.le_refl _) ?_, rfl, q _ (I5.hok.fresh (Nat.le_refl _))⟩
    exact ⟨by rw [List.length_reverse]; exact hz, _, r.reverse, IsTup.new _ _⟩
  · obtain ⟨t, rfl⟩ := r1
    refine tail_any (ops := [.str z t, .ref s4.heap.objs.size]) (typeIs_str _ _ _) (PySem.F.slot_str_getitem.lookup) ?_ (by with_unfolding_all rfl)
    obtain ⟨os, hos, hcs, hds⟩ := hsl
    obtain ⟨l, rfl, el⟩ := IsPart.raw pl
    obtain ⟨u, rfl, eu⟩ := IsPart.raw pu
    obtain ⟨st, rfl, es⟩ := IsPart.raw ps
    have el' : l = none := by cases l with
      | none => rfl
      | some _ => cases el
    have eu' : u = none := by cases u with
      | none => rfl
      | some _ => cases eu
    subst el' eu'
    cases st with
    | none => cases es
    | some ti =>
      obtain ⟨i, tk⟩ := ti
      have ei : i = -1 := (Option.some.inj es : i = (-1 : Int))
      subst ei
      refine wpAny_getItem_str_slice (l := none) (u := none) (st := some (-1, tk)) ⟨os, hos, hcs, hds⟩ rfl ?_
      show Made.post (if ((-1 : Int) == 1 && (slicePicked z none none (some (-1, tk))).length == z.length) = true then Made.val (.str z t) else Made.str (revS z)) (EP X pins σ Q) _
      rw [if_neg (by
        intro q
        rw [Bool.and_eq_true] at q
        exact absurd q.1 (by decide))]
      exact ⟨hz, .str _, H4, I5.tok _, ⟨_, rfl⟩, q⟩
def revD : PyData → Option PyData
  | .list ds => some (.list ds.reverse)
  | .tuple ds => some (.tuple ds.reverse)
  | .str z => if (revS z).length ≤ sizeLine then some (.str (revS z)) else none
  | _ => none
theorem un_rev {K : PySem.W.Frag} : UnOk K .S (rRevA K) revD := by
  intro M P H x dx d Q fx po mt rx e k
  cases dx with
  | list ds =>
    cases e
    obtain ⟨a, vs, rfl, l, r⟩ := rx.lst
    exact .inl ⟨a, vs, rfl, l, new_list po r.rev mt fun v P' H' f r => k v P' H' f (r.FtoS mt)⟩
  | tuple ds =>
    cases e
    obtain ⟨a, vs, rfl, l, r⟩ := rx.tup
    exact .inr (.inl ⟨a, vs, rfl, l, fun p hp => k _ P _ (.new po hp) ⟨p, _, rfl, .inl (.inl upd_same), r.rev.fut0 (.new po hp)⟩⟩)
  | str z =>
    have e : (if (revS z).length ≤ sizeLine then some (PyData.str (revS z)) else none) = some d := e
    split at e
    · rename_i hz
      cases e
      obtain rfl := rx.str
      exact .inr (.inr ⟨z, rfl, hz, k _ P H (.refl po) rfl⟩)
    · cases e
  | _ => exact nomatch e
section
variable {X : Cx} {a : Expr} {ga : Ev → W PyData} {pos : Pos}
theorem ew_rev {k : Nat} {p1 p2 p3 : Pos} (ha : EW X .B a ga) : EW X .S (.Subscript a (.Slice none none (some (.UnaryOp .USub (.Constant (.int 1) k p1) p2)) p3) pos) (wU revD ga) := ew_un un_rev ha fun _ x => pe_revA x
end

/-! ### the module's constants -/
structure GC (K : PySem.W.Frag) (mg : Str → Option Value) (x : Str) (d : PyData) : Prop where
  ok : ∃ v u, mg x = some u ∧ RelV v u ∧ ∀ H M P, Rp K H M P d v
theorem ew_gc {X : Cx} {x : Str} {d : PyData} {pos : Pos} (h : GC X.K X.mg x d) (hg : Gl X x) (hd : (x == ("__debug__" : Str)) = false := by decide) : EW X .S (.Name x pos) (wC d) := by
  obtain ⟨v, u, hm, r, hr⟩ := h.ok
  exact ew_glob hg hm r hr hd
section
variable {K : PySem.W.Frag} {mg : Str → Option Value} {base : Heap} {x : Str}
theorem gc_int {n : Int} {t : Tok} (h : mg x = some (.int n t)) : GC K mg x (.int n) := ⟨.int n, _, h, ⟨t, rfl⟩, fun _ _ _ => rfl⟩
/-- a tuple of texts -/
def strsV : List Value → Option (List Str)
  | [] => some []
  | .str x _ :: r => (strsV r).map (x :: ·)
  | _ :: _ => none
theorem strs_rel {K : PySem.W.Frag} {H : Hp} {M P : Addr → Prop} : ∀ {vs : List Value} {ss : List Str}, strsV vs = some ss → Vals (ss.map V.str) vs ∧ RpA K H M P (ss.map PyData.str) (ss.map V.str)
  | [], _, e => by cases e; exact ⟨.nil, rfl⟩
  | .str x t :: r, _, e => by
    cases q : strsV r with
    | none => rw [strsV, q] at e; cases e
    | some ss =>
      rw [strsV, q] at e
      cases e
      obtain ⟨a, b⟩ := strs_rel q
      exact ⟨.cons ⟨t, rfl⟩ a, _, _, rfl, rfl, b⟩
  | .none :: _, _, e => nomatch e
  | .bool _ :: _, _, e => nomatch e
  | .int _ _ :: _, _, e => nomatch e
end
end WL

namespace WL
open PySem PySem.Spec PyProof.Rows L2

/-! ### pots -/
/-- a draw: any number below many -/
def drawF : Fn := fun ds Q => match ds with
  | [.dict [(.none, .none)], .int m] => 0 < m ∧ m < 2 ^ 30 ∧ ∀ d : Int, 0 ≤ d → d < m → Q (.int d)
  | _ => False
theorem mono_drawF : MonoF drawF := fun ds Q Q' i q => by
  unfold drawF at q ⊢
  split at q
  · obtain ⟨a, b, c⟩ := q
    exact ⟨a, b, fun d h h' => i _ (c d h h')⟩
  · exact q.elim
/-- one of a pot's two numbers -/
abbrev tPot (K : PySem.W.Frag) (k : Int) : TE := tOp (rIxL K) (tVar 0) (tC (.int k))
def tDraw (K : PySem.W.Frag) (c1 c2 c3 c4 c5 : Int) : TS :=
  tSeq (tIfS (tTest (tOp (rI0 fun i j => .bl (decide (j < i))) (tPot K 0) (tC (.int 0))))
      (tSeq (tAsg (tCB (fun xs H Q => ∃ i j, xs = [.int i, .int j] ∧ CDiv i j ∧ ∀ p, H p = none → Q (.ref p) (upd H p (.tup [.int (i / j), .int (i % j)]))) (tCons (tPot K 0) (tCons (tVar 1) tNil)))
          (gTup K 2 (gCons (gSub (tVar 0) (tC (.int 0)) rSetL) (gCons (gName 2) gNil)))) (tRet (tVar 2)))
      tNext)
    (tSeq (tAsg (tOp (rI (fun _ j => 0 < j) fun i j => .int (i % j)) (tCB (fun xs H Q => (∃ i, xs = [.int i] ∧ Q (.int i) H) ∨ ∃ k, xs = [.bl k] ∧ Q (.int (if k then 1 else 0)) H) (tCons (tOp (rI0 fun i j => .int (i + j)) (tOp (rI CMul fun i j => .int (i * j)) (tPot K 1) (tC (.int c1))) (tC (.int c2))) tNil)) (tC (.int c3)))
        (gSub (tVar 0) (tC (.int 1)) rSetL))
      (tRet (tOp (rI (fun _ j => 0 < j) fun i j => .int (i % j)) (tCB (fun xs H Q => (∃ i, xs = [.int i] ∧ Q (.int i) H) ∨ ∃ k, xs = [.bl k] ∧ Q (.int (if k then 1 else 0)) H) (tCons (tOp (rI CDiv fun i j => .int (i / j))
        (tOp (rI (fun _ j => 0 < j) fun i j => .int (i % j)) (tCB (fun xs H Q => (∃ i, xs = [.int i] ∧ Q (.int i) H) ∨ ∃ k, xs = [.bl k] ∧ Q (.int (if k then 1 else 0)) H) (tCons (tOp (rI CMul fun i j => .int (i * j)) (tPot K 1) (tPot K 1)) tNil)) (tC (.int c4))) (tC (.int c5))) tNil)) (tVar 1))))

theorem Fut.pot {P : Addr → Prop} {H : Hp} {a : Addr} {x y : Int} (po : PotsOk P H) (pa : P a) (hx : 0 ≤ x) (hy : 0 ≤ y) (hy2 : y < 2 ^ 32) : Fut S0 P H P (upd H a (.lst [.int x, .int y])) := by
  refine ⟨fun _ h => h, fun b u e n _ => by rw [upd_ne (fun z => n (by rw [z]; exact pa))]; exact e, fun _ h n => absurd h n, po, fun b pb => ?_, fun b e => ?_, fun _ h => h.elim⟩
  · by_cases q : b = a
    · rw [q]
      exact ⟨x, y, upd_same, hx, hy, hy2⟩
    · obtain ⟨x', y', e, r⟩ := po b pb
      exact ⟨x', y', by rw [upd_ne q]; exact e, r⟩
  · by_cases q : b = a
    · rw [q, upd_same]
      rfl
    · rw [upd_ne q]
      exact e
theorem draw_sem {K : PySem.W.Frag} {c1 c2 c3 c4 c5 : Int} {M P : Addr → Prop} {H : Hp} {a : Addr} {m : Int} {Q : VK} {D : Ends} (h1 : 0 ≤ c1 ∧ c1 < 2 ^ 60) (h3 : 0 < c3 ∧ c3 ≤ 2 ^ 32) (h4 : 0 < c4) (h5 : 0 < c5 ∧ c5 < 1073741824) (po : PotsOk P H) (pa : P a) (hm : 0 < m) (hm2 : m < 2 ^ 30)
    (hD : D.rt = Q) (q : ∀ d : Int, 0 ≤ d → d < m → ∀ v P' H', Fut S0 P H P' H' → RM .S K M H P' H' (.int d) v → Q v H') : tDraw K c1 c2 c3 c4 c5 D [some (.ref a), some (.int m), none] H := by
  obtain ⟨x, y, e, hx, hy, hy2⟩ := po a pa
  have eL : SqL K H a [.int x, .int y] := .inl (.inl e)
  have e0 : atI [V.int x, V.int y] 0 = some (.int x) := rfl
  have e1 : atI [V.int x, V.int y] 1 = some (.int y) := rfl
  refine ⟨.ref a, rfl, ⟨a, _, 0, _, rfl, rfl, eL, e0, x, 0, rfl, rfl, _, rfl, ?_⟩⟩
  by_cases hx0 : 0 < x
  · rw [decide_eq_true hx0]
    refine iteT ?_
    refine ⟨.ref a, rfl, a, _, 0, _, rfl, rfl, eL, e0, .int m, rfl, x, m, rfl, ⟨hm, hm2⟩, fun p hp => ?_⟩
    have f1 : Fut S0 P H P (upd H p (.tup [.int (x / m), .int (x % m)])) := .new po hp
    have ne : a ≠ p := ne_of_none e hp
    refine ⟨p, _, rfl, .inl (.inl upd_same), rfl, .int (x / m), _, rfl, .ref a, rfl, a, [.int x, .int y], 0, 0, rfl, rfl, by rw [upd_ne ne]; exact e, rfl, .int (x % m), [], rfl, rfl, .int (x % m), rfl, ?_⟩
    rw [hD]
    have f2 := Fut.pot (x := x / m) (y := y) f1.ok' pa (Int.ediv_nonneg hx (by omega)) hy hy2
    exact q (x % m) (Int.emod_nonneg _ (by omega)) (Int.emod_lt_of_pos _ hm) _ P _ (f1.trans0 f2) rfl
  · rw [decide_eq_false hx0]
    refine iteF ?_
    refine ⟨.ref a, rfl, a, _, 1, _, rfl, rfl, eL, e1, y, c1, rfl, rfl, .inl ⟨by omega, by omega⟩, y * c1, c2, rfl, rfl, .inl ⟨_, rfl, _, c3, rfl, rfl, h3.1, .ref a, rfl, a, [.int x, .int y], 1, 1, rfl, rfl, e, rfl, ?_⟩⟩
    have hn : 0 ≤ (y * c1 + c2) % c3 := Int.emod_nonneg _ (by omega)
    have hl : (y * c1 + c2) % c3 < c3 := Int.emod_lt_of_pos _ h3.1
    have hb : (y * c1 + c2) % c3 < 2 ^ 32 := by omega
    have f1 : Fut S0 P H P (upd H a (.lst ([V.int x, V.int y].set 1 (.int ((y * c1 + c2) % c3))))) := Fut.pot (x := x) (y := (y * c1 + c2) % c3) po pa hx hn hb
    have eL2 : SqL K (upd H a (.lst ([V.int x, V.int y].set 1 (.int ((y * c1 + c2) % c3))))) a [.int x, .int ((y * c1 + c2) % c3)] := .inl (.inl upd_same)
    have e2 : atI [V.int x, V.int ((y * c1 + c2) % c3)] 1 = some (.int ((y * c1 + c2) % c3)) := rfl
    refine ⟨.ref a, rfl, a, _, 1, _, rfl, rfl, eL2, e2, .ref a, rfl, a, _, 1, _, rfl, rfl, eL2, e2, (y * c1 + c2) % c3, (y * c1 + c2) % c3, rfl, rfl, .inl ⟨by omega, by omega⟩, .inl ⟨_, rfl, _, c4, rfl, rfl, h4, _, c5, rfl, rfl, ⟨h5.1, h5.2⟩, .inl ⟨_, rfl, .int m, rfl, _, m, rfl, rfl, hm, ?_⟩⟩⟩
    rw [hD]
    exact q _ (Int.emod_nonneg _ (by omega)) (Int.emod_lt_of_pos _ hm) _ P _ f1 rfl
theorem draw_fn {P : Program} {w : World} {K : PySem.W.Frag} {mg : Str → Option Value} {base : Heap} {qual : Str} {st : Stmt} {f : Addr} {fd : FuncData} {c1 c2 c3 c4 c5 : Int} (F : Fun K "_law_draw" qual st f fd) (hm : mg "_law_draw" = some (.ref f)) (hb : Binds K fd ["pot", "many"] []) (S : FnScope ["pot", "many", "digit"] ["pot", "many"] (defScope st))
    (h1 : 0 ≤ c1 ∧ c1 < 2 ^ 60) (h3 : 0 < c3 ∧ c3 ≤ 2 ^ 32) (h4 : 0 < c4) (h5 : 0 < c5 ∧ c5 < 1073741824)
    (h : ∀ (cdv : Value) (A : Around) (outer : List Env) (s : Shared) (H : Hp) (E : XK), PSs (cxOf CX0 P w K mg base ["pot", "many", "digit"] qual (defScope st) f cdv A outer s H E).nox (defBody st) (tDraw K c1 c2 c3 c4 c5)) :
    FnW P w K mg base 1 "_law_draw" ["pot", "many"] .S drawF := by
  refine ⟨mono_drawF, f, fd, hm, F.kp, hb, fnG_of F S (fun vs H Q E hsp => ?_) fun cdv A outer s H vs Q E hr hgd hsp => ?_⟩
  · obtain ⟨M, Pt, ds, _, _, r, e, _⟩ := hsp
    exact r.len.trans e
  · obtain ⟨M, Pt, ds, mt, po, r, e, q⟩ := hsp
    refine ⟨_, (h cdv A outer s H E).nox, ?_⟩
    unfold drawF at q
    split at q
    · obtain ⟨hm1, hm2, q⟩ := q
      obtain ⟨v, vs', rfl, r1, u, vs'', rfl, r2, rfl⟩ := r
      obtain rfl : u = .int _ := r2
      rcases r1 with ⟨e, _⟩ | ⟨_, a, rfl, pa⟩
      · cases e
      · exact draw_sem (M := M) h1 h3 h4 h5 po pa hm1 hm2 rfl q
    · exact q.elim
end WL

namespace WL
open PySem PySem.Spec PyProof.Rows L2

section
variable {P : Program} {w : World} {K : PySem.W.Frag} {mg : Str → Option Value} {base : Heap}
theorem FnG.imp {CX : CXT} {k : Nat} {f : Addr} {fd : FuncData} {ps : List Str} {sp sp' : Sp} (F : FnG P w K mg base CX k f fd ps sp) (h : ∀ vs H Q E, sp' vs H Q E → sp vs H Q E) : FnG P w K mg base CX k f fd ps sp' :=
  ⟨fun vs H Q E q => F.len vs H Q E (h _ _ _ _ q), fun A outer s H args us vs Q E hr hgd e0 hb r q => F.run A outer s H args us vs Q E hr hgd e0 hb r (h _ _ _ _ q)⟩
theorem vac_fnG {k : Nat} {f : Addr} {fd : FuncData} {ps : List Str} {m : Md} : FnG P w K mg base CX0 k f fd ps (spW K m ps.length fun _ _ => False) :=
  ⟨fun vs H Q E h => by
    obtain ⟨M, Pt, ds, _, _, _, _, q⟩ := h
    exact q.elim, fun A outer s H args us vs Q E hr hgd e0 hb r h => by
    obtain ⟨M, Pt, ds, _, _, _, _, q⟩ := h
    exact q.elim⟩
/-- a def that makes a pot, its answer as a pot -/
def potF (g : Fn) : Fn := fun ds Q => g ds fun d => ∃ x y : Int, d = .list [.int x, .int y] ∧ 0 ≤ x ∧ 0 ≤ y ∧ y < 2 ^ 32 ∧ Q potD
theorem FnW.pot {k : Nat} {x : Str} {ps : List Str} {g : Fn} (F : FnW P w K mg base k x ps .F g) : FnW P w K mg base k x ps .S (potF g) := by
  obtain ⟨mo, f, fd, a, b, c, d⟩ := F
  refine ⟨fun ds Q Q' i q => mo ds _ _ (fun d ⟨x, y, e, h1, h2, h3, q⟩ => ⟨x, y, e, h1, h2, h3, i _ q⟩) q, f, fd, a, b, c, d.imp fun vs H Q E ⟨M, Pt, ds, mt, po, r, e, q⟩ => ⟨M, Pt, ds, mt, po, r, e, mo ds _ _ (fun d ⟨x, y, e, h1, h2, h3, q⟩ v P' H' f rm => ?_) q⟩⟩
  obtain ⟨ds', p, vs', e1, rfl, np, ep, nP, ra⟩ := rm
  subst e
  cases e1
  obtain ⟨v1, r1, rfl, q1, v2, r2, rfl, q2, rfl⟩ := ra
  obtain rfl : v1 = .int x := q1
  obtain rfl : v2 = .int y := q2
  refine q (.ref p) (fun b => P' b ∨ b = p) H' ⟨fun b h => .inl (f.up b h), f.kp, fun b h n => h.elim (fun h => f.nw b h n) fun e => by rw [e]; exact np, f.ok, fun b h => ?_, f.tr, f.ls⟩ (.inr ⟨rfl, p, rfl, .inr rfl⟩)
  rcases h with h | h
  · exact f.ok' b h
  · rw [h]
    exact ⟨x, y, ep, h1, h2, h3⟩
theorem gc_strs {x : Str} {a : Addr} {od : Option Addr} {its : Array Value} {n : Nat} {sl : Array (Option Value)} {ss : List Str} (hm : mg x = some (.ref a)) (hl : K.lookup a = some ⟨.type "tuple", od, .seq its n, sl⟩) (hs : strsV its.toList = some ss) (hz : its.size ≤ sizeLine := by decide) : GC K mg x (.tuple (ss.map PyData.str)) :=
  ⟨.ref a, _, hm, rfl, fun H M P => ⟨a, _, rfl, .inr ⟨_, its, n, hl, rfl, rfl, hz, (strs_rel (K := K) (H := H) (M := M) (P := P) hs).1⟩, (strs_rel hs).2⟩⟩
end
end WL

namespace WL
open PySem PySem.Spec PyProof.Rows L2

/-! ### comparisons as tests -/
section
variable {X : Cx} {a b c e : Expr} {ga gb gc : Ev → W PyData} {pos : Pos}
theorem eb_bin {r : R2} {op : PyData → PyData → Option PyData} (U : BinOk X.K .S r op) (ha : EW X .B a ga) (hb : EW X .B b gb)
    (h : ∀ ta tb, PE X a ta → PE X b tb → PT X e (tTest (tOp r ta tb))) : EB X e (wT (wB op ga gb)) := by
  refine ⟨mono_wT (mono_wB ha.mono hb.mono), (h _ _ ha.pe hb.pe.fx).imp fun σ H Q ⟨B, P, ρ, R, q⟩ => ⟨B, P, ρ, R, ha.mono ρ _ _ (fun dx q v P1 H1 f1 r1 => fun _ => ?_) q⟩⟩
  have R1 := R.fut f1
  refine ⟨B, P1, ρ, R1, hb.mono ρ _ _ (fun dy q v' P2 H2 f2 r2 fx => ?_) q⟩
  obtain ⟨d, e, k, ek, q⟩ := q
  subst ek
  have R2 := R1.fut f2
  exact U (Mo B ρ σ) P2 H2 v v' dx dy _ _ fx f2.ok' (fun a h => R2.mtrk h) (r1.fut f2) (by cases r2 with | inl z => exact .inl z | inr z => exact .inr z) e fun w P3 H3 f3 r3 => ⟨k, r3, q P3 H3 ((f1.trans0 f2).trans0 f3)⟩
theorem eb_cmp {op' : CmpOp} {r : R2} {op : PyData → PyData → Option PyData} (U : BinOk X.K .S r op) (ho : OpR X (compareOp op') r) (ha : EW X .B a ga) (hb : EW X .B b gb) (hm : behindInMarks op' b = false) : EB X (.Compare a [op'] [b] pos) (wT (wB op ga gb)) :=
  eb_bin U ha hb fun _ _ x y => pt_cmpR ho x y hm
theorem eb_lt (ha : EW X .B a ga) (hb : EW X .B b gb) : EB X (.Compare a [.Lt] [b] pos) (wT (wB ltI ga gb)) := eb_cmp (bin_int0 fun _ _ _ _ _ _ => rfl) op_lt ha hb (nomark _)
theorem eb_le (ha : EW X .B a ga) (hb : EW X .B b gb) : EB X (.Compare a [.LtE] [b] pos) (wT (wB leI ga gb)) := eb_cmp (bin_int0 fun _ _ _ _ _ _ => rfl) op_le ha hb (nomark _)
theorem eb_gt (ha : EW X .B a ga) (hb : EW X .B b gb) : EB X (.Compare a [.Gt] [b] pos) (wT (wB gtI ga gb)) := eb_cmp (bin_int0 fun _ _ _ _ _ _ => rfl) op_gt ha hb (nomark _)
theorem eb_ge (ha : EW X .B a ga) (hb : EW X .B b gb) : EB X (.Compare a [.GtE] [b] pos) (wT (wB geI ga gb)) := eb_cmp (bin_int0 fun _ _ _ _ _ _ => rfl) op_ge ha hb (nomark _)
theorem eb_eq (hu : X.A.units + 64 < cLine) (ha : EW X .B a ga) (hb : EW X .B b gb) : EB X (.Compare a [.Eq] [b] pos) (wT (wB eqD ga gb)) := eb_cmp bin_eqP (op_eqP hu) ha hb (nomark _)
theorem eb_ne (hu : X.A.units + 64 < cLine) (ha : EW X .B a ga) (hb : EW X .B b gb) : EB X (.Compare a [.NotEq] [b] pos) (wT (wB neD ga gb)) := eb_cmp bin_neP (op_neP hu) ha hb (nomark _)
theorem eb_in (ha : EW X .B a ga) (hb : EW X .B b gb) (hm : behindInMarks .In b = false := by rfl) : EB X (.Compare a [.In] [b] pos) (wT (wB (inD false) ga gb)) := eb_cmp bin_in op_in_seq ha hb hm
theorem eb_notIn (ha : EW X .B a ga) (hb : EW X .B b gb) (hm : behindInMarks .NotIn b = false := by rfl) : EB X (.Compare a [.NotIn] [b] pos) (wT (wB (inD true) ga gb)) := eb_cmp bin_in op_notIn_seq ha hb hm
theorem eb_isN {j p2} (ha : EW X .B a ga) : EB X (.Compare a [.Is] [.Constant .none j p2] pos) (wT (wB (isNonD false) ga (wC .none))) := eb_cmp bin_isN op_isN ha ew_non.toB (nomark _)
theorem eb_notN {j p2} (ha : EW X .B a ga) : EB X (.Compare a [.IsNot] [.Constant .none j p2] pos) (wT (wB (isNonD true) ga (wC .none))) := eb_cmp bin_notN op_notN ha ew_non.toB (nomark _)
theorem eb_chain {op op' : CmpOp} {r r' : R2} {f f' : PyData → PyData → Option PyData} (U : BinOk X.K .S r f) (U' : BinOk X.K .S r' f') (ho : OpR X (compareOp op) r) (ho' : OpR X (compareOp op') r') (ha : EW X .B a ga) (hb : EW X .B b gb) (hc : EW X .B c gc)
    (hm : lastMarks [op, op'] [b, c] = false := by with_unfolding_all rfl) : EB X (.Compare a [op, op'] [b, c] pos) (wT (wChain f f' ga gb gc)) := by
  refine ⟨mono_wT (mono_wChain ha.mono hb.mono hc.mono), (pt_chain ho ho' ha.pe hb.pe.fx hc.pe.fx hm).imp fun σ H Q ⟨B, P, ρ, R, q⟩ => ⟨B, P, ρ, R, ha.mono ρ _ _ (fun dx q v P1 H1 f1 r1 => fun _ => ?_) q⟩⟩
  refine ⟨B, P1, ρ, R.fut f1, hb.mono ρ _ _ (fun dy ⟨d, k, e, ek, q⟩ v' P2 H2 f2 r2 fx => ?_) q⟩
  have R2 := (R.fut f1).fut f2
  have r1' := r1.fut f2
  have r2' : RM .B X.K (Mo B ρ σ) H2 P2 H2 dy v' := by cases r2 with | inl z => exact .inl z | inr z => exact .inr z
  refine U (Mo B ρ σ) P2 H2 v v' dx dy d _ fx f2.ok' (fun a h => R2.mtrk h) (by cases r1' with | inl z => exact .inl z | inr z => exact .inr z) r2' e fun w P3 H3 f3 r3 => ?_
  subst ek
  refine ⟨k, r3, ?_⟩
  have f13 := (f1.trans0 f2).trans0 f3
  refine ite_mono (fun q => ?_) (fun ⟨z, ez, q⟩ => ⟨z, by cases ez; rfl, q P3 H3 f13⟩) q
  intro fx3
  refine ⟨B, P3, ρ, R.fut f13, hc.mono ρ _ _ (fun dz ⟨e, e1, z, ez, q⟩ u P4 H4 f4 r4 fx4 => ?_) q⟩
  subst ez
  have r2'' := (r2.fut f3).fut f4
  exact U' (Mo B ρ σ) P4 H4 v' u dy dz _ _ fx4 f4.ok' (fun a h => (R.fut (f13.trans0 f4)).mtrk h) (by cases r2'' with | inl z => exact .inl z | inr z => exact .inr z) (by cases r4 with | inl z => exact .inl z | inr z => exact .inr z) e1
    fun w' P5 H5 f5 r5 => ⟨z, r5, q P5 H5 ((f13.trans0 f4).trans0 f5)⟩
theorem eb_lele (ha : EW X .B a ga) (hb : EW X .B b gb) (hc : EW X .B c gc) (hm : lastMarks [.LtE, .LtE] [b, c] = false := by with_unfolding_all rfl) : EB X (.Compare a [.LtE, .LtE] [b, c] pos) (wT (wChain leI leI ga gb gc)) :=
  eb_chain (bin_int0 fun _ _ _ _ _ _ => rfl) (bin_int0 fun _ _ _ _ _ _ => rfl) op_le op_le ha hb hc hm
theorem eb_lelt (ha : EW X .B a ga) (hb : EW X .B b gb) (hc : EW X .B c gc) (hm : lastMarks [.LtE, .Lt] [b, c] = false := by with_unfolding_all rfl) : EB X (.Compare a [.LtE, .Lt] [b, c] pos) (wT (wChain leI ltI ga gb gc)) :=
  eb_chain (bin_int0 fun _ _ _ _ _ _ => rfl) (bin_int0 fun _ _ _ _ _ _ => rfl) op_le op_lt ha hb hc hm
end

/-- a, b, c = e1, e2, e3 -/
def wPar3 (i j l : Nat) (gs : Ev → W (List PyData)) : Ev → W Rs := fun ρ Q => gs ρ fun ds => ∃ d1 d2 d3, ds = [d1, d2, d3] ∧ Q (.nx (((ρ.set i (.sh d1)).set j (.sh d2)).set l (.sh d3)))
theorem es_par3 {X : Cx} {m : Md} {pos : Pos} {i j l : Nat} {x y z : Str} {a b c : Expr} {gs : Ev → W (List PyData)} {px py pz pt : Pos} {kt k2 pt2}
    (ha : EA X [a, b, c] gs) (hp : ∀ {ta : TA}, PA X [a, b, c] ta → PS X (.Assign [.Tuple [.Name x px, .Name y py, .Name z pz] kt pt] (.Tuple [a, b, c] k2 pt2) pos) (tPar3 i j l ta)) : ESt X m (.Assign [.Tuple [.Name x px, .Name y py, .Name z pz] kt pt] (.Tuple [a, b, c] k2 pt2) pos) (wPar3 i j l gs) :=
  ⟨fun ρ _ _ i q => ha.mono ρ _ _ (fun _ ⟨d1, d2, d3, e, q⟩ => ⟨d1, d2, d3, e, i _ q⟩) q, (hp ha.pa).imp fun D σ H ⟨B, P, ρ, R, q⟩ => ⟨B, P, ρ, R, ha.mono ρ _ _ (fun ds ⟨d1, d2, d3, e, q⟩ vs P1 H1 f1 r1 => by
    subst e
    obtain ⟨v, us, rfl, r1, w, us', rfl, r2, u, us2, rfl, r3, rfl⟩ := r1
    have R1 := R.fut f1
    have R2 := R1.set (i := i) r1
    have o2 : ∀ a, Mo B (ρ.set i (.sh d1)) (σ.set i (some v)) a → Mo B ρ σ a := fun a h => h.elim .inl fun h => .inr (own_set h)
    have R3 := R2.set (i := j) (r2.anti o2)
    have o3 : ∀ a, Mo B ((ρ.set i (.sh d1)).set j (.sh d2)) ((σ.set i (some v)).set j (some w)) a → Mo B ρ σ a := fun a h => h.elim .inl fun h => .inr (own_set (own_set h))
    have R4 := R3.set (i := l) (r3.anti o3)
    exact ⟨v, w, u, rfl, q _ P1 H1 (Gr.after f1 R ⟨(Fut.refl f1.ok').own R1, fun a h => .inl (own_set (own_set (own_set h)))⟩) R4⟩) q⟩⟩
end WL

namespace WL
open PySem PySem.Spec PyProof.Rows L2

/-! ### reading the denotations -/
section
variable {i j : Int}
@[simp] theorem leI_int : leI (.int i) (.int j) = some (.bool (decide (i ≤ j))) := rfl
@[simp] theorem ltI_int : ltI (.int i) (.int j) = some (.bool (decide (i < j))) := rfl
@[simp] theorem geI_int : geI (.int i) (.int j) = some (.bool (decide (j ≤ i))) := rfl
@[simp] theorem gtI_int : gtI (.int i) (.int j) = some (.bool (decide (j < i))) := rfl
@[simp] theorem subD_int : subD (.int i) (.int j) = some (.int (i - j)) := rfl
@[simp] theorem addAD_int : addAD (.int i) (.int j) = some (.int (i + j)) := rfl
@[simp] theorem negD_int : negD (.int i) = some (.int (-i)) := rfl
@[simp] theorem intD_int : intD (.int i) = some (.int i) := rfl
@[simp] theorem max2D_int : max2D (.int i) (.int j) = some (.int (if j > i then j else i)) := rfl
@[simp] theorem min2D_int : min2D (.int i) (.int j) = some (.int (if j < i then j else i)) := rfl
@[simp] theorem absD_int : absD (.int i) = some (.int (if i < 0 then -i else i)) := rfl
theorem modD_int (h : 0 < j) : modD (.int i) (.int j) = some (.int (i % j)) := if_pos h
theorem mulD_int (h : CMul i j) : mulD (.int i) (.int j) = some (.int (i * j)) := if_pos h
@[simp] theorem lenD_list {ds : List PyData} : lenD (.list ds) = some (.int ds.length) := rfl
@[simp] theorem lenD_tuple {ds : List PyData} : lenD (.tuple ds) = some (.int ds.length) := rfl
@[simp] theorem tupleD_list {ds : List PyData} : tupleD (.list ds) = some (.tuple ds) := rfl
@[simp] theorem tupleD_tuple {ds : List PyData} : tupleD (.tuple ds) = some (.tuple ds) := rfl
@[simp] theorem listD_list {ds : List PyData} : listD (.list ds) = some (.list ds) := rfl
@[simp] theorem listD_tuple {ds : List PyData} : listD (.tuple ds) = some (.list ds) := rfl
@[simp] theorem itemsD_list {ds : List PyData} : itemsD (.list ds) = some ds := rfl
@[simp] theorem itemsD_tuple {ds : List PyData} : itemsD (.tuple ds) = some ds := rfl
@[simp] theorem eqvD_int : eqvD (.int i) (.int j) = some (decide (i = j)) := by
  have h : eqvD (.int i) (.int j) = some (PyData.eqv (.int i) (.int j)) := if_pos rfl
  rw [h]
  simp only [PyData.eqv]
  congr 1
@[simp] theorem eqD_int : eqD (.int i) (.int j) = some (.bool (decide (i = j))) := by unfold eqD; rw [eqvD_int]; rfl
@[simp] theorem neD_int : neD (.int i) (.int j) = some (.bool (!decide (i = j))) := by unfold neD; rw [eqvD_int]; rfl
theorem eqvD_str {a b : Str} (ha : PyData.strOk a = true) (hb : PyData.strOk b = true) : eqvD (.str a) (.str b) = some (a == b) := by
  have h : eqvD (.str a) (.str b) = some (PyData.eqv (.str a) (.str b)) := if_pos (by
    have h1 : SeqAt.shaped (.str a) = true := by simp [SeqAt.shaped, PyData.canLay0, ha, PyData.depth]
    have h2 : SeqAt.shaped (.str b) = true := by simp [SeqAt.shaped, PyData.canLay0, hb, PyData.depth]
    rw [h1, h2]
    rfl)
  rw [h]
  simp only [PyData.eqv]
theorem eqD_str {a b : Str} (ha : PyData.strOk a = true) (hb : PyData.strOk b = true) : eqD (.str a) (.str b) = some (.bool (a == b)) := by unfold eqD; rw [eqvD_str ha hb]; rfl
theorem neD_str {a b : Str} (ha : PyData.strOk a = true) (hb : PyData.strOk b = true) : neD (.str a) (.str b) = some (.bool (!(a == b))) := by unfold neD; rw [eqvD_str ha hb]; rfl
theorem eqvD_strs {a b : Str} : eqvD (.str a) (.str b) = some (a == b) := by
  unfold eqvD
  split
  · simp only [PyData.eqv]
  · rfl
theorem neD_strs {a b : Str} : neD (.str a) (.str b) = some (.bool (!(a == b))) := by unfold neD; rw [eqvD_strs]; rfl
/-- a tuple against the empty one -/
@[simp] theorem eqvD_tup0 {xs : List PyData} : eqvD (.tuple xs) (.tuple []) = some xs.isEmpty := by
  unfold eqvD
  split
  · cases xs <;> simp [PyData.eqv, PyData.eqvAll]
  · cases xs <;> simp [emp2]
@[simp] theorem eqD_tup0 {xs : List PyData} : eqD (.tuple xs) (.tuple []) = some (.bool xs.isEmpty) := by unfold eqD; rw [eqvD_tup0]; rfl
@[simp] theorem neD_tup0 {xs : List PyData} : neD (.tuple xs) (.tuple []) = some (.bool (!xs.isEmpty)) := by unfold neD; rw [eqvD_tup0]; rfl
@[simp] theorem eqvD_lst0 {xs : List PyData} : eqvD (.list xs) (.list []) = some xs.isEmpty := by
  unfold eqvD
  split
  · cases xs <;> simp [PyData.eqv, PyData.eqvAll]
  · cases xs <;> simp [emp2]
@[simp] theorem ixD_0 {x : PyData} {xs : List PyData} : ixD (.tuple (x :: xs)) (.int 0) = some x := by
  show atI (x :: xs) ((0 : Nat) : Int) = some x
  exact atI_nat rfl
@[simp] theorem ixD_l0 {x : PyData} {xs : List PyData} : ixD (.list (x :: xs)) (.int 0) = some x := by
  show atI (x :: xs) ((0 : Nat) : Int) = some x
  exact atI_nat rfl
theorem atI_of {xs : List PyData} {k : Nat} (h : k < xs.length) : atI xs (k : Int) = some xs[k] := atI_nat (List.getElem?_eq_getElem h)
@[simp] theorem ixD_1 {x y : PyData} {xs : List PyData} : ixD (.tuple (x :: y :: xs)) (.int 1) = some y := by
  show atI (x :: y :: xs) ((1 : Nat) : Int) = some y
  exact atI_nat rfl
theorem cut_from {xs : List PyData} {k : Nat} : cutP xs (some (k : Int)) none = xs.drop k := by
  unfold cutP
  rw [show HT.sIx xs.length 0 (some (k : Int)) = min k xs.length from HT.sIx_nat _ _ _, HT.sIx_none]
  by_cases h : k ≤ xs.length
  · rw [Nat.min_eq_left h, List.take_of_length_le (by rw [List.length_drop]; omega)]
  · rw [Nat.min_eq_right (by omega), List.drop_of_length_le (Nat.le_refl _), List.drop_of_length_le (by omega)]
    simp
theorem cut_to {xs : List PyData} {k : Nat} : cutP xs none (some (k : Int)) = xs.take k := by
  unfold cutP
  rw [show HT.sIx xs.length xs.length (some (k : Int)) = min k xs.length from HT.sIx_nat _ _ _, HT.sIx_none]
  simp only [List.drop_zero, Nat.sub_zero]
  by_cases h : k ≤ xs.length
  · rw [Nat.min_eq_left h]
  · rw [Nat.min_eq_right (by omega), List.take_of_length_le (Nat.le_refl _), List.take_of_length_le (by omega)]
@[simp] theorem cut_1 {xs : List PyData} : cutP xs (some 1) none = xs.drop 1 := cut_from (k := 1)
@[simp] theorem cut_2 {xs : List PyData} : cutP xs (some 2) none = xs.drop 2 := cut_from (k := 2)
@[simp] theorem cutD_tuple {xs : List PyData} {lo hi : Option Int} : cutD (.tuple xs) lo hi = some (.tuple (cutP xs lo hi)) := rfl
@[simp] theorem cutD_list {xs : List PyData} {lo hi : Option Int} : cutD (.list xs) lo hi = some (.list (cutP xs lo hi)) := rfl
end
/-- a comprehension whose items are told one by one -/
theorem wLc1_map {c : Ev → W Bool} {g : Ev → W PyData} {st : Set1} {ρ : Ev} {f : PyData → PyData} : ∀ {ds : List PyData} {Q : List PyData → Prop},
    (∀ d ∈ ds, ∀ R : PyData → Prop, R (f d) → ∃ ρ', st d ρ = some ρ' ∧ c ρ' fun b => b = true ∧ g ρ' R) → (∀ ρ' (R R' : Bool → Prop), (∀ b, R b → R' b) → c ρ' R → c ρ' R') → Q (ds.map f) → wLc1 st c g ρ ds Q
  | [], _, _, _, q => q
  | d :: ds, Q, h, mc, q => by
    obtain ⟨ρ', e, hc⟩ := h d List.mem_cons_self (fun y => wLc1 st c g ρ ds fun ys => Q (y :: ys)) (wLc1_map (fun x hx => h x (List.mem_cons_of_mem _ hx)) mc q)
    exact ⟨ρ', e, mc ρ' _ _ (fun b hb => by
      obtain ⟨rfl, hb⟩ := hb
      exact hb) hc⟩
/-- .. without a test -/
theorem wLc1_all {g : Ev → W PyData} {st : Set1} {ρ : Ev} {f : PyData → PyData} {ds : List PyData} {Q : List PyData → Prop}
    (h : ∀ d ∈ ds, ∀ R : PyData → Prop, R (f d) → ∃ ρ', st d ρ = some ρ' ∧ g ρ' R) (q : Q (ds.map f)) : wLc1 st wYes g ρ ds Q :=
  wLc1_map (fun d hd R r => by
    obtain ⟨ρ', e, hg⟩ := h d hd R r
    exact ⟨ρ', e, rfl, hg⟩) (fun ρ' R R' i q => i _ q) q
/-- .. by a rule for each item: some answer that is right -/
theorem wLc1_any {g : Ev → W PyData} {st : Set1} {ρ : Ev} {G : PyData → Prop} : ∀ {ds : List PyData} {Q : List PyData → Prop},
    (∀ d ∈ ds, ∀ R : PyData → Prop, (∀ y, G y → R y) → ∃ ρ', st d ρ = some ρ' ∧ g ρ' R) → (∀ ys, ys.length = ds.length → (∀ y ∈ ys, G y) → Q ys) → wLc1 st wYes g ρ ds Q
  | [], _, _, q => q [] rfl fun _ h => nomatch h
  | d :: ds, Q, h, q => by
    obtain ⟨ρ', e, hg⟩ := h d List.mem_cons_self (fun y => wLc1 st wYes g ρ ds fun ys => Q (y :: ys)) (fun y hy => wLc1_any (fun x hx => h x (List.mem_cons_of_mem _ hx)) fun ys hl hys => q _ (by simp [hl]) (by
      intro z hz
      rcases List.mem_cons.mp hz with rfl | hz
      · exact hy
      · exact hys z hz))
    exact ⟨ρ', e, hg⟩
theorem allBools_map {α : Type} (f : α → Bool) : ∀ l : List α, allBools (l.map fun x => .bool (f x)) = some (l.map f)
  | [] => rfl
  | x :: l => by
    show (allBools (l.map fun x => .bool (f x))).map (f x :: ·) = _
    rw [allBools_map f l]
    rfl
theorem allD_map {α : Type} (f : α → Bool) (l : List α) : allD (.list (l.map fun x => .bool (f x))) = some (.bool (l.all f)) := by
  show (allBools (l.map fun x => .bool (f x))).map _ = _
  rw [allBools_map]
  simp [List.all_map]
theorem allInts_map {α : Type} (f : α → Int) : ∀ l : List α, allInts (l.map fun x => .int (f x)) = some (l.map f)
  | [] => rfl
  | x :: l => by
    show (allInts (l.map fun x => .int (f x))).map (f x :: ·) = _
    rw [allInts_map f l]
    rfl
theorem sumD_map {α : Type} (f : α → Int) (l : List α) : sumD (.list (l.map fun x => .int (f x))) = some (.int (l.map f).sum) := by
  show (allInts (l.map fun x => .int (f x))).map _ = _
  rw [allInts_map]
  rfl
end WL

namespace WL
open PySem PySem.Spec PyProof.Rows L2

/-! ### xs.count(x), flat things -/
theorem vals_mem {u : Value} : ∀ {xs : List V} {us : List Value}, Vals xs us → u ∈ us → ∃ y ∈ xs, RelV y u
  | _, _, .nil, h => nomatch h
  | _, _, .cons (a := a) r t, h => by
    rcases List.mem_cons.mp h with e | h
    · exact ⟨a, List.mem_cons_self, by rw [e]; exact r⟩
    · obtain ⟨y, hy, ry⟩ := vals_mem t h
      exact ⟨y, List.mem_cons_of_mem _ hy, ry⟩
theorem count_vals {x : V} : ∀ {xs : List V} {us : List Value}, Vals xs us → xs.all flatV = true → us.countP (eqU x) = xs.countP fun y => eqV y x
  | _, _, .nil, _ => rfl
  | _, _, .cons r t, f => by
    rw [List.all_cons, Bool.and_eq_true] at f
    rw [List.countP_cons, List.countP_cons, count_vals t f.2, eqU_of r f.1]
def rCntF (K : PySem.W.Frag) : V → List V → Hp → VK → Prop := fun x xs H Q => ∃ (p : Addr) (vs : List V) (k : V), x = .ref p ∧ xs = [k] ∧ SqL K H p vs ∧ vs.all flatV = true ∧ flatV k = true ∧ Q (.int (vs.countP (fun y => eqV y k) : Nat)) H
theorem mt_cntF {X : Cx} : MtR X "list.count" (rCntF X.K) := by
  intro pins s σ H x xs v us Q I rx rxs h
  obtain ⟨p, vs, k, rfl, rfl, hs, hf, hk, q⟩ := h
  cases rx
  obtain ⟨u, rfl, ru⟩ := rxs.one
  obtain ⟨its, rv, ⟨⟨cls, dd, data, sl⟩, n, ho, hc, hdn, hd⟩, hlen⟩ := I.list hs
  simp only at hc hd
  subst hc hd
  refine call_meets PySem.F.slot_list_count ⟨_, ho, rfl⟩ PySem.F.entry_list_count (PySem.F.args_list_count_2 _ _)
    (SeqAt.list_countAt p its.toArray n dd sl u (eqU k)) ⟨ho, fun y hy => ?_, ?_⟩
  · obtain ⟨z, hz, rz⟩ := vals_mem rv (by simpa using hy)
    have fz := List.all_eq_true.mp hf z hz
    rw [eqU_of rz fz]
    exact eqAt_V rz ru fz hk
  · refine ⟨.int (vs.countP (fun y => eqV y k) : Nat), H, I.tok _, ⟨s.toks, ?_⟩, q⟩
    show Value.int ((its.toArray.toList.countP (eqU k) : Nat) : Int) s.toks = Value.int ((vs.countP (fun y => eqV y k) : Nat) : Int) s.toks
    rw [List.toList_toArray, count_vals rv hf]
def cntD (x y : PyData) : Option PyData := match x with
  | .list ds => if flatD y && ds.all flatD then some (.int (ds.countP fun d => eqFlat d y : Nat)) else none
  | _ => none
theorem countP_flat {x : PyData} (fx : flatD x = true) : ∀ {ds : List PyData}, ds.all flatD = true → (ds.map toV).countP (fun v => eqV v (toV x)) = ds.countP fun d => eqFlat d x
  | [], _ => rfl
  | d :: ds, f => by
    rw [List.all_cons, Bool.and_eq_true] at f
    rw [List.map_cons, List.countP_cons, List.countP_cons, countP_flat fx f.2, eqV_flat f.1 fx]
section
variable {X : Cx} {o e : Expr} {go ge : Ev → W PyData}
/-- x.m(y) of a list x -/
def wBL (op : PyData → PyData → Option PyData) (ga gb : Ev → W PyData) : Ev → W PyData := fun ρ Q => ga ρ fun x => (∃ ds, x = .list ds) ∧ gb ρ fun y => ∃ d, op x y = some d ∧ Q d
theorem mono_wBL {op : PyData → PyData → Option PyData} {ga gb : Ev → W PyData} (h : Mono ga) (h' : Mono gb) : Mono (wBL op ga gb) := fun ρ _ _ i q => h ρ _ _ (fun _ ⟨l, q⟩ => ⟨l, h' ρ _ _ (fun _ ⟨d, e, q⟩ => ⟨d, e, i d q⟩) q⟩) q
theorem ew_count {call : Expr} (ho : EW X .B o go) (he : EW X .B e ge) (hp : ∀ {to te : TE}, PE X o to → PE X e te → PE X call (tBM X.K "list" (rCntF X.K) to (tCons te tNil))) : EW X .S call (wBL cntD go ge) := by
  refine ⟨mono_wBL ho.mono he.mono, (hp ho.pe he.pe).imp fun σ H Q ⟨B, P, ρ, R, q⟩ => ⟨B, P, ρ, R, ho.mono ρ _ _ (fun dx q v P1 H1 f1 r1 => ?_) q⟩⟩
  obtain ⟨⟨ds, rfl⟩, q⟩ := q
  have R1 := R.fut f1
  obtain ⟨a, vs, rfl, sq, r⟩ := r1.lst
  refine ⟨.inl ⟨rfl, vs, sq⟩, B, P1, ρ, R1, he.mono ρ _ _ (fun dy q v' P2 H2 f2 r2 => ?_) q⟩
  obtain ⟨d, e, q⟩ := q
  have R2 := R1.fut f2
  obtain ⟨a', vs', ea, sq', r'⟩ := (r1.fut f2).lst
  cases ea
  have e : (if (flatD dy && ds.all flatD) = true then some (PyData.int (ds.countP fun d => eqFlat d dy : Nat)) else none) = some d := e
  split at e
  · rename_i c
    cases e
    rw [Bool.and_eq_true] at c
    obtain ⟨e1, g1⟩ := flat_toV c.1 (r2.flat (m := .B) c.1)
    obtain ⟨e2, g2⟩ := flat_all c.2 r'
    refine ⟨a, vs', v', rfl, rfl, sq', g2, g1, ?_⟩
    rw [e1, e2, countP_flat c.1 c.2]
    exact q _ P2 H2 (f1.trans0 f2) rfl
  · cases e
end
end WL

namespace WL
open PySem PySem.Spec PyProof.Rows L2

/-! ### defs with defaults -/
theorem fnG_ofD {CX : CXT} {P : Program} {w : World} {K : PySem.W.Frag} {mg : Str → Option Value} {base : Heap} {k : Nat} {x qual : Str} {st : Stmt} {f : Addr} {fd : FuncData} {N ps : List Str} {dvs : List V} {kws : List (Str × V)} {sp : Sp} (F : FunD K x qual (defArgs st) (defBody st) (defScope st) dvs kws f fd) (S : FnScope N ps (defScope st))
    (len : ∀ vs H Q E, sp vs H Q E → vs.length = ps.length)
    (hbody : ∀ (cdv : Value) (A : Around) (outer : List Env) (s : Shared) (H : Hp) (vs : List V) (Q : VK) (E : XK), Room k (A.deeper (envOfC qual (defScope st) s.heap.objs.size f cdv)) → A.guards = some [] → sp vs H Q E →
      ∃ t, PSs (cxOf CX P w K mg base N qual (defScope st) f cdv A outer s H E) (defBody st) t ∧ t { nx := fun _ H' => Q .non H', rt := Q } (L2.start N vs) H) :
    FnG P w K mg base CX (k + 1) f fd ps sp := by
  obtain ⟨oc, od, dV, kV, doc, pm, an, cdv, ct, osl, rfl, lk, hcd, _, _⟩ := F.ex
  refine ⟨len, fun A outer s H args us vs Q E hr hgd e0 hb r hsp => ?_⟩
  have hl := len vs H Q E hsp
  have keepB : ∀ b o, base.get? b = some o → s.heap.get? b = some o := fun b o z => (e0.bs b o z).1
  have KX : K.In s.heap := e0.mod.kin.keeps keepB
  refine codeAny_call_function hr.depth (KX _ _ lk) rfl S.co S.gen rfl (PySem.W.codeRec_of KX hcd) (hb _ _ _ _ ?_)
  have hk : ∀ y ∈ ps.zip us, (defScope st).names.lookup y.1 = some .local ∨ ((defScope st).names.lookup y.1 = some .cell ∧ ((cellsFrom (s.heap.objs.size + 1) (defScope st).names []).lookup y.1).isSome = true) := fun ⟨n, v⟩ hy =>
    (S.par n (List.of_mem_zip hy).1).elim .inl fun q => .inr ⟨q, PySem.W.cellsFrom_some _ _ _ (.inl q)⟩
  refine wpAny_newFunctionEnv_cells S.kind hk fun env he s1 xc => ?_
  subst he
  refine ⟨(e0.mod.nolimit.keeps keepB).keeps xc.toInCall.keep, codeAny_func ?_⟩
  obtain ⟨t, ht, hq⟩ := hbody cdv A outer s H vs Q E (hr.deeper _) hgd hsp
  refine wpAny_mono (ht.run [] s1 (L2.start N vs) H _ (inv_start S hr.hd e0 hl r xc) hq) (fun fl s' hs => ?_) fun _ _ z => z
  cases fl with
  | ret u => obtain ⟨v, σ', H', J, rv, q⟩ := hs; exact ⟨v, H', J.os, J.bare, J.base, J.hok, rv, q⟩
  | next => obtain ⟨σ', H', J, q⟩ := hs; exact ⟨V.non, H', J.os, J.bare, J.base, J.hok, rfl, q⟩
  | brk => obtain ⟨_, _, _, q⟩ := hs; exact q.elim
  | cont => obtain ⟨_, _, _, q⟩ := hs; exact q.elim
section
variable {P : Program} {w : World} {K : PySem.W.Frag} {mg : Str → Option Value} {base : Heap}
theorem fnG_bodyD {x qual : Str} {st : Stmt} {f : Addr} {fd : FuncData} {N ps : List Str} {dvs : List V} {kws : List (Str × V)} {k : Nat} {m : Md} {g : Ev → W Rs} (F : FunD K x qual (defArgs st) (defBody st) (defScope st) dvs kws f fd) (S : FnScope N ps (defScope st))
    (h : ∀ (cdv : Value) (A : Around) (outer : List Env) (s : Shared) (H : Hp) (E : XK), Room k (A.deeper (envOfC qual (defScope st) s.heap.objs.size f cdv)) → A.guards = some [] → ESs (cxOf CX0 P w K mg base N qual (defScope st) f cdv A outer s H E).nox m (defBody st) g) :
    FnG P w K mg base CX0 (k + 1) f fd ps (spW K m ps.length (gBody m N.length g)) := by
  refine fnG_ofD F S (fun vs H Q E hsp => ?_) fun cdv A outer s H vs Q E hr hgd hsp => ?_
  · obtain ⟨M, Pt, ds, _, _, r, e, _⟩ := hsp
    rw [r.len, e]
  · obtain ⟨M, Pt, ds, mt, po, r, e, q⟩ := hsp
    have hB := h cdv A outer s H E hr hgd
    have hpl : ps.length ≤ N.length := by
      have := congrArg List.length S.pre
      rw [List.length_take] at this
      omega
    obtain ⟨R, no⟩ := RE.enter (N := N) po mt r (by omega)
    obtain ⟨Rq, q, hRq⟩ := q
    refine ⟨_, hB.pss.nox, M, Pt, _, R, hB.mono _ _ _ (fun rs z => ?_) q⟩
    have q := hRq rs z
    have hf : ∀ {P' : Addr → Prop} {H' : Hp}, Fut (Own (args N.length ds) (start N vs)) Pt H P' H' → Fut S0 Pt H P' H' := fun f => f.mono (fun c z => (no c z).elim) fun _ z => z.elim
    cases rs with
    | rt d =>
      refine fun v P' H' f rr => q v P' H' (hf f) ?_
      cases m with
      | S => exact rr
      | B => exact .inl rr
      | F =>
        obtain ⟨ds', p, us, e1, e2, h0, e3, n, ra⟩ := rr
        exact ⟨ds', p, us, e1, e2, h0.elim id fun z => (no p z).elim, e3, n, ra⟩
    | nx ρ =>
      obtain ⟨rfl, q⟩ := q
      exact fun σ' P' H' gr R' => q .non P' H' (hf gr.fut) rfl
    | bk ρ => exact q.elim
    | ct ρ => exact q.elim

end
theorem rp_toV {K : PySem.W.Frag} {H : Hp} {M P : Addr → Prop} {d : PyData} (f : flatD d = true) : Rp K H M P d (toV d) := by
  cases d with
  | none => rfl
  | bool b => rfl
  | int i => rfl
  | str x => rfl
  | _ => exact nomatch f
theorem rpA_toV {K : PySem.W.Frag} {H : Hp} {M P : Addr → Prop} : ∀ {ds : List PyData}, ds.all flatD = true → RpA K H M P ds (ds.map toV)
  | [], _ => rfl
  | d :: ds, f => by
    rw [List.all_cons, Bool.and_eq_true] at f
    exact ⟨toV d, ds.map toV, rfl, rp_toV f.1, rpA_toV f.2⟩
/-- a def called with n arguments, dds the defaults behind them -/
structure FnD (P : Program) (w : World) (K : PySem.W.Frag) (mg : Str → Option Value) (base : Heap) (k : Nat) (x : Str) (n : Nat) (dds : List PyData) (m : Md) (g : Fn) : Prop where
  mono : MonoF g
  ok : ∃ f fd ps ds, mg x = some (.ref f) ∧ PySem.W.keepIn K (.ref f) = true ∧ Binds K fd ps ds ∧ Vals (dds.map toV) ds ∧ dds.all flatD = true ∧ ps.length = n + dds.length ∧ FnG P w K mg base CX0 k f fd ps (spW K m ps.length g)
def wCallD (n : Nat) (dds : List PyData) (g : Fn) (gs : Ev → W (List PyData)) : Ev → W PyData := fun ρ Q => gs ρ fun ds => ds.length = n ∧ g (ds ++ dds) Q
theorem mono_wCallD {n : Nat} {dds : List PyData} {g : Fn} {gs : Ev → W (List PyData)} (h : MonoF g) (h' : Mono gs) : Mono (wCallD n dds g gs) := fun ρ _ _ i q => h' ρ _ _ (fun ds ⟨e, q⟩ => ⟨e, h _ _ _ i q⟩) q
section
variable {X : Cx} {k j : Nat} {x : Str} {ps : List Str} {m : Md} {g : Fn} {gs : Ev → W (List PyData)} {e : Expr} {es : List Expr} {p pos : Pos}
theorem ew_callD {n : Nat} {dds : List PyData} (F : FnD X.prog X.w X.K X.mg X.base k x n dds m g) (hr : Room j X.A) (hgd : X.A.guards = some []) (hk : k ≤ j) (hg : Gl X x) (ha : EA X (e :: es) gs) (hdb : (x == ("__debug__" : Str)) = false := by decide)
    (he : starEach (e :: es) X.env = (false, eval e X.env) :: starEach es X.env := by rfl) (hpl : (backTo pos (starEach es X.env)).any (·.1) = false := by rfl) : EW X m (.Call (.Name x p) (e :: es) [] pos) (wCallD n dds g gs) := by
  obtain ⟨mo, f, fd, ps, dvs, hm, kp, hb, hd, hf, hl, ok⟩ := F
  refine ⟨mono_wCallD mo ha.mono, ⟨fun pins s σ H Q I ⟨B, P, ρ, R, q⟩ => ?_⟩⟩
  refine wpAny_Call_Name_kw (ld_glob I hg hm ?_ hdb)
  have ta : tWa X.K gs σ H fun vs H1 => vs.length = n ∧ spW X.K m ps.length g (vs ++ dds.map toV) H1 Q E0 := ⟨B, P, ρ, R, ha.mono ρ _ _ (fun ds ⟨el, q⟩ vs P1 H1 f1 r1 => ⟨by rw [r1.len, el],
    Mo B ρ σ, P1, ds ++ dds, fun a h => (R.fut f1).mtrk h, f1.ok', r1.append (rpA_toV hf), by rw [List.length_append, el, hl], mo _ _ _ (fun d q v P2 H2 f2 r2 => q v P2 H2 (f1.trans0 f2) (r2.back f1)) q⟩) q⟩
  refine PySem.W.callWith_K (h₀ := X.base) I.ok.mod.kin kp (thn (ha.pa.run pos pins s σ H _ I ta) fun us s1 ⟨vs, H1, I1, r, hl1, q1⟩ => ⟨I1.kIn, ?_⟩) he hpl
  refine wpAny_call (codeAny_mono (runG ok (hr.mono hk) hgd (us := us ++ dvs) (hb s1 us I1.kIn (by
    have l1 : us.length = n := by rw [← r.length]; exact hl1
    have l2 : dvs.length = dds.length := by rw [← hd.length, List.length_map]
    rw [List.length_append, l1, l2, hl])) pass0 I1 (vals_app r hd) q1) fun res s' z => ?_)
  cases res with
  | error e => exact z
  | ok fl => cases fl <;> first | exact z | exact z.elim
end

section
variable {P : Program} {w : World} {K : PySem.W.Frag} {mg : Str → Option Value} {base : Heap} {x qual : Str} {st : Stmt} {f : Addr} {fd : FuncData} {N ps : List Str} {k : Nat} {m : Md} {g : Fn} {dvs : List V} {kws : List (Str × V)}
theorem fnD_of {n j : Nat} {dds : List PyData} (mo : MonoF g) (F : FunD K x qual (defArgs st) (defBody st) (defScope st) dvs kws f fd) (hm : mg x = some (.ref f)) (hd : dvs ≠ []) (e : dvs.drop j = dds.map toV) (hf : dds.all flatD = true) (hn : n + (dvs.length - j) = ps.length)
    (hb : ∀ (T : Addr) (kV doc pm : Value) (an : Option Addr) (cdv ct : Value) (us its : List Value), us.length = n → its.length = dvs.length →
      ∃ k, bindArgs (PySem.W.fnOf x qual (defArgs st) (defBody st) (defScope st) (.ref T) kV doc pm an cdv ct) ⟨us, []⟩ = seqItems? (.ref T) >>= k ∧ k (some its.toArray) = pure (ps.zip (us ++ its.drop j)))
    (h : FnG P w K mg base CX0 k f fd ps (spW K m ps.length g)) : FnD P w K mg base k x n dds m g := by
  obtain ⟨ds, r, b⟩ := F.binds1 n j hd hn hb
  rw [e] at r
  exact ⟨mo, f, fd, ps, ds, hm, F.kp, b, r, hf, by rw [← hn, ← List.length_drop, e, List.length_map], h⟩
def intsV : List Value → Option (List Int)
  | [] => some []
  | .int i _ :: r => match intsV r with
    | some l => some (i :: l)
    | none => none
  | _ => none
theorem intsV_vals : ∀ {us : List Value} {is : List Int}, intsV us = some is → Vals (is.map V.int) us
  | [], _, e => by cases e; exact .nil
  | .int i t :: r, is, e => by
    unfold intsV at e
    split at e
    · rename_i l el
      cases e
      exact .cons ⟨t, rfl⟩ (intsV_vals el)
    · cases e
theorem funD_mk {oc tc : Value} {od td an : Option Addr} {T : Addr} {u : Array Value} {nn : Nat} {osl ts : Array (Option Value)} {kV doc pm cdv ct : Value} {is : List Int} (l : K.lookup f = some ⟨oc, od, .func (PySem.W.fnOf x qual (defArgs st) (defBody st) (defScope st) (.ref T) kV doc pm an cdv ct), osl⟩)
    (c : PySem.W.codeIn K cdv qual = true) (k : PySem.W.keepIn K (.ref f) = true) (lT : K.lookup T = some ⟨tc, td, .seq u nn, ts⟩) (p : intsV u.toList = some is) (h : is ≠ []) : FunD K x qual (defArgs st) (defBody st) (defScope st) (is.map V.int) [] f (PySem.W.fnOf x qual (defArgs st) (defBody st) (defScope st) (.ref T) kV doc pm an cdv ct) :=
  ⟨⟨oc, od, _, kV, doc, pm, an, cdv, ct, osl, rfl, l, c, .inr ⟨fun e => h (List.map_eq_nil_iff.mp e), T, _, u.toList, nn, rfl, lT, by rw [Array.toArray_toList], intsV_vals p⟩, .inl rfl⟩, k⟩
theorem fnW_ofD (mo : MonoF g) (F : FunD K x qual (defArgs st) (defBody st) (defScope st) dvs kws f fd) (hm : mg x = some (.ref f)) (hd : dvs ≠ []) {n : Nat} (hn : n = ps.length)
    (hb : ∀ (T : Addr) (kV doc pm : Value) (an : Option Addr) (cdv ct : Value) (us its : List Value), us.length = n → its.length = dvs.length →
      ∃ k, bindArgs (PySem.W.fnOf x qual (defArgs st) (defBody st) (defScope st) (.ref T) kV doc pm an cdv ct) ⟨us, []⟩ = seqItems? (.ref T) >>= k ∧ k (some its.toArray) = pure (ps.zip (us ++ its.drop dvs.length)))
    (h : FnG P w K mg base CX0 k f fd ps (spW K m ps.length g)) : FnW P w K mg base k x ps m g := by
  obtain ⟨ds, r, b⟩ := F.binds1 n dvs.length hd (by omega) hb
  rw [List.drop_length] at r
  cases r
  exact ⟨mo, f, fd, hm, F.kp, b, h⟩
end
end WL

set_option maxHeartbeats 4000000
namespace WL
open PySem PySem.Spec PyProof.Rows L2
/-! ### tuple * 1: the tuple itself -/
theorem tuple_mul1 (l : Addr) (items : Array Value) (n : Nat) (dd : Option Addr) (sl : Array (Option Value)) (x : Int) (u : Tok) (c0 : (decide (x < -(2 ^ 63)) || decide (x ≥ 2 ^ 63)) = false) (c1 : (items.isEmpty || x == 1) = true) :
    Meets (Builtin.«tuple.__mul__» ⟨[.ref l, .int x u], []⟩) (fun _ R s => s.heap.get? l = some { cls := .type "tuple", dict := dd, data := .seq items n, slots := sl } ∧
      R (.ok (.ret (Value.ref l))) s) :=
  .of_wp fun prog w A R s h => by
    obtain ⟨hp, g, d, tk, os⟩ := s
    obtain ⟨hl, h⟩ := h
    have f1 := AutoSeq1.idx_int
    wp_walk using wpAny_loadPart' hl
    repeat (first
      | (refine wpAny_ite_false (decide_eq_false (by rw [c0]; exact Bool.false_ne_true)) ?_; wp_walk using wpAny_loadPart' hl)
      | (refine wpAny_ite_true (decide_eq_true (by rw [c1])) ?_; wp_walk using wpAny_loadPart' hl))
    exact ⟨_, rfl, h⟩
def rRep1 (K : PySem.W.Frag) : R2 := fun x y H Q => ∃ l k xs, x = .ref l ∧ y = .int k ∧ SqT K H l xs ∧ (xs = [] ∨ k = 1) ∧ -1000 ≤ k ∧ k ≤ 1000 ∧ Q (.ref l) H
section
variable {X : Cx}
theorem op_rep1 : OpR X (binaryOp .Mult) (rRep1 X.K) := by
  intro pins s σ H x y v u Q I rx ry h
  obtain ⟨l, k, xs, rfl, rfl, hT, hne, h1, h2, q⟩ := h
  cases rx
  obtain ⟨t, rfl⟩ := ry
  obtain ⟨its, r, ⟨⟨cls, dd, data, sl⟩, ho, hc, n, hd⟩, hs⟩ := I.tuple hT
  simp only at hc hd
  subst hc hd
  have c0 : (decide (k < -(2 ^ 63)) || decide (k ≥ 2 ^ 63)) = false := by
    rw [decide_eq_false (by omega), decide_eq_false (by omega)] <;> rfl
  have c1 : (its.toArray.isEmpty || k == 1) = true := by
    rcases hne with rfl | rfl
    · cases r
      rfl
    · simp
  refine wpAny_binaryOp_repeat_ref (T := "tuple") (U := "int") (by decide) ⟨_, ho, rfl⟩ (fun s' => typeIs_int s' k t) noFill_tuple_mul F.fills_int_mul F.slot_int_rmul repeat_tuple F.slot_int_index.lookup
    (call_meets F.slot_int_rmul (typeIs_int s k t) F.entry_int_rmul (F.args_int_rmul_2 _ _) (int_rmul_tuple k t l its.toArray n dd sl)
      ⟨ho, rfl, ⟨_, ho, rfl⟩, call_meets F.slot_tuple_mul ⟨_, ho, rfl⟩ F.entry_tuple_mul (F.args_tuple_mul_2 _ _) (tuple_mul1 l its.toArray n dd sl k t c0 c1) ⟨ho, ?_⟩⟩)
  exact ⟨.ref l, _, I, rfl, q⟩
end
def mulAD (x y : PyData) : Option PyData := match x with
  | .tuple xs => match y with
    | .int k => if (xs = [] ∨ k = 1) ∧ -1000 ≤ k ∧ k ≤ 1000 then some (.tuple xs) else mulD x y
    | _ => none
  | _ => mulD x y
theorem bin_mulA {K : PySem.W.Frag} : BinOk K .S (fun x y H Q => (rI CMul (fun i j => .int (i * j)) x y H Q ∨ rRepT K x y H Q) ∨ rRep1 K x y H Q) mulAD := by
  intro M P H x y dx dy d Q fx po mt rx ry e k
  cases dx with
  | tuple ds =>
    cases dy with
    | int j =>
      have e : (if (ds = [] ∨ j = 1) ∧ -1000 ≤ j ∧ j ≤ 1000 then some (PyData.tuple ds) else mulD (.tuple ds) (.int j)) = some d := e
      split at e
      · rename_i c
        cases e
        have rx0 := rx
        obtain ⟨a, vs, rfl, l, r⟩ := rx.tup
        obtain rfl := ry.int
        refine .inr ⟨a, _, vs, rfl, rfl, l, ?_, c.2.1, c.2.2, k _ P H (.refl po) ⟨a, vs, rfl, l, r⟩⟩
        rcases c.1 with rfl | h
        · exact .inl (List.eq_nil_of_length_eq_zero r.len)
        · exact .inr h
      · exact .inl (bin_mul M P H x y _ _ d Q fx po mt rx ry e k)
    | _ => cases e
  | _ => exact .inl (bin_mul M P H x y _ dy d Q fx po mt rx ry e k)
section
variable {X : Cx} {a b : Expr} {ga gb : Ev → W PyData} {pos : Pos}
theorem ew_mulA (ha : EW X .B a ga) (hb : EW X .B b gb) : EW X .S (.BinOp a .Mult b pos) (wB mulAD ga gb) := ew_binop bin_mulA (OpR.or (OpR.or op_mul op_repT) op_rep1) ha hb
end
theorem mulAD_int {i j : Int} (h : CMul i j) : mulAD (.int i) (.int j) = some (.int (i * j)) := mulD_int h
theorem mulAD_tup {xs : List PyData} {k : Int} (h : 1 ≤ k ∧ k ≤ 1000 ∧ xs.length ≤ 1000) : mulAD (.tuple xs) (.int k) = some (.tuple (List.replicate k.toNat xs).flatten) := by
  show (if (xs = [] ∨ k = 1) ∧ -1000 ≤ k ∧ k ≤ 1000 then some (PyData.tuple xs) else mulD (.tuple xs) (.int k)) = _
  by_cases c : xs = [] ∨ k = 1
  · rw [if_pos ⟨c, by omega, by omega⟩]
    rcases c with rfl | rfl
    · simp
    · simp
  · rw [if_neg fun z => c z.1]
    show (if 2 ≤ k ∧ k ≤ 1000 ∧ xs.length ≤ 1000 ∧ xs ≠ [] then some (PyData.tuple (List.replicate k.toNat xs).flatten) else none) = _
    rw [if_pos ⟨by have := mt Or.inr c; omega, h.2.1, h.2.2, fun z => c (.inl z)⟩]
end WL

namespace K11
open PySem PySem.Spec PyProof.Rows L2 WL
def topS (i : Nat) : Stmt := PySem.Challenge.pw_everychoice_k11_any_value_as_formula_or.main.body.getD i (.Pass ⟨0, 0, 0, 0⟩)
section
variable {P : Program} {w : World} {K : PySem.W.Frag} {mg : Str → Option Value} {base : Heap}
/-! _law_draw -/
abbrev s_law_draw : Stmt := topS 29
theorem c_law_draw : FnScope ["pot", "many", "digit"] ["pot", "many"] (defScope s_law_draw) := ⟨rfl, rfl, rfl, by decide +kernel, rfl, by decide +kernel, by decide +kernel⟩
theorem w_law_draw {f : Addr} {fd : FuncData} (F : Fun K "_law_draw" "_law_draw" s_law_draw f fd) (hm : mg "_law_draw" = some (.ref f)) (hb : Binds K fd ["pot", "many"] []) (n_divmod : mg "divmod" = none) (n_int : mg "int" = none) : FnW P w K mg base 1 "_law_draw" ["pot", "many"] .S drawF :=
  draw_fn (c1 := 39373) (c2 := 919) (c3 := 2147483587) (c4 := 2147483563) (c5 := 19) F hm hb c_law_draw (by decide) (by decide) (by decide) (by decide) fun cdv A outer s H E =>
  pss_cons (ps_if (pt_cmpR op_gt (pe_ix ix_list (pv 0) pe_int fun _ _ => rfl) pe_int (nomark _)) (pss_cons (ps_asg (pe_callB call_divmod rfl n_divmod (by decide +kernel) (pa_cons (pe_ix ix_list (pv 0) pe_int fun _ _ => rfl) (pa_cons (pv 1) pa_nil)) (by decide) (by decide) rfl rfl) (pg_tup rfl (pgs_cons (pg_sub (pv 0) pe_int set_list) (pgs_cons (pg_name (i := 2) c_law_draw.nd rfl (.inl rfl)) pgs_nil)))) (pss_one (ps_ret (pv 2)))) pss_nil)
    (pss_cons (ps_asg (pe_op op_mod (pe_callTy call_int1 rfl n_int (by decide +kernel) (pa_cons (pe_op op_add (pe_op op_mul (pe_ix ix_list (pv 0) pe_int fun _ _ => rfl) pe_int) pe_int) pa_nil) (by decide) (by decide) rfl rfl) pe_int) (pg_sub (pv 0) pe_int set_list))
    (pss_one (ps_ret (pe_op op_mod (pe_callTy call_int1 rfl n_int (by decide +kernel) (pa_cons (pe_op op_fdiv (pe_op op_mod (pe_callTy call_int1 rfl n_int (by decide +kernel) (pa_cons (pe_op op_mul (pe_ix ix_list (pv 0) pe_int fun _ _ => rfl) (pe_ix ix_list (pv 0) pe_int fun _ _ => rfl)) pa_nil) (by decide) (by decide) rfl rfl) pe_int) pe_int) pa_nil) (by decide) (by decide) rfl rfl) (pv 1)))))
/-! _law_pick -/
abbrev s_law_pick : Stmt := topS 30
theorem c_law_pick : FnScope ["pot", "some"] ["pot", "some"] (defScope s_law_pick) := ⟨rfl, rfl, rfl, by decide +kernel, rfl, by decide +kernel, by decide +kernel⟩
def g_law_pick : Ev → W Rs := (wRet (wB ixD (wVb 1) (wCall 2 drawF (wCons (wV 0) (wCons (wU lenD (wVb 1)) wNil)))))
theorem b_law_pick {f : Addr} {fd : FuncData} (F : Fun K "_law_pick" "_law_pick" s_law_pick f fd) (n_len : mg "len" = none) (f_law_draw : FnW P w K mg base 1 "_law_draw" ["pot", "many"] .S drawF) : FnG P w K mg base CX0 (1 + 1) f fd ["pot", "some"] (spW K .S 2 (gBody .S 2 g_law_pick)) :=
  fnG_body (m := .S) (g := g_law_pick) (N := ["pot", "some"]) F c_law_pick fun cdv A outer s H E hr hgd => (ess_one (es_ret (fun e => nomatch e) (ew_at (ew_vb 1) (EW.toB (ew_call f_law_draw hr hgd (by omega) rfl (ea_cons (ew_v 0) (ea_cons (ew_len rfl n_len (ew_vb 1)) ea_nil)))))))
def fn_law_pick : Fn := gBody .S 2 g_law_pick
theorem w_law_pick {f : Addr} {fd : FuncData} (F : Fun K "_law_pick" "_law_pick" s_law_pick f fd) (hm : mg "_law_pick" = some (.ref f)) (hb : Binds K fd ["pot", "some"] []) (n_len : mg "len" = none) (f_law_draw : FnW P w K mg base 1 "_law_draw" ["pot", "many"] .S drawF) : FnW P w K mg base 2 "_law_pick" ["pot", "some"] .S fn_law_pick :=
  ⟨mono_gBody, f, fd, hm, F.kp, hb, b_law_pick F n_len f_law_draw⟩
/-! _law_formula -/
abbrev s_law_formula : Stmt := topS 32
theorem c_law_formula : FnScope ["pot", "switches", "depth", "way", "parts", "turn"] ["pot", "switches", "depth"] (defScope s_law_formula) := ⟨rfl, rfl, rfl, by decide +kernel, rfl, by decide +kernel, by decide +kernel⟩
def g_law_formula (self : Fn) : Ev → W Rs := (wSeq (wSet 3 (wIf (wT (wB gtI (wVb 2) (wC (.int 1)))) (wCall 2 drawF (wCons (wV 0) (wCons (wC (.int 9)) wNil))) (wC (.int 0))))
  (wSeq (wIf (wT (wB ltI (wVb 3) (wC (.int 2)))) (wRet (wIf (wT (wB gtI (wCall 2 drawF (wCons (wV 0) (wCons (wC (.int 9)) wNil))) (wC (.int 0)))) (wTup (wCons (wC (.str "on")) (wCons (wCall 2 drawF (wCons (wV 0) (wCons (wV 1) wNil))) wNil))) (wTup (wCons (wCall 2 fn_law_pick (wCons (wV 0) (wCons (wLst (wCons (wC (.str "yes")) (wCons (wC (.str "no")) wNil))) wNil))) wNil)))) wSkip)
  (wSeq (wIf (wT (wB eqD (wVb 3) (wC (.int 2)))) (wRet (wTup (wCons (wC (.str "not")) (wCons (wCall 3 self (wCons (wV 0) (wCons (wV 1) (wCons (wB subD (wVb 2) (wC (.int 1))) wNil)))) wNil)))) wSkip)
  (wSeq (wIf (wT (wB ltI (wVb 3) (wC (.int 5)))) (wSeq (wSet 4 (wTup (wCons (wCall 3 self (wCons (wV 0) (wCons (wV 1) (wCons (wB subD (wVb 2) (wC (.int 1))) wNil)))) (wCons (wCall 3 self (wCons (wV 0) (wCons (wV 1) (wCons (wB subD (wVb 2) (wC (.int 1))) wNil)))) wNil))))
  (wRet (wB addAD (wTup (wCons (wB ixD (wLst (wCons (wC (.str "then")) (wCons (wC (.str "same")) wNil))) (wB subD (wVb 3) (wC (.int 3)))) wNil)) (wVb 4)))) wSkip)
  (wSeq (wSet 4 (wU tupleD (wLc [5] (wRange1 (wB addAD (wC (.int 2)) (wCall 2 drawF (wCons (wV 0) (wCons (wC (.int 2)) wNil))))) (stN 5) wYes (wCall 3 self (wCons (wV 0) (wCons (wV 1) (wCons (wB subD (wVb 2) (wC (.int 1))) wNil)))))))
  (wSeq (wIf (wT (wB eqD (wVb 3) (wC (.int 5)))) (wRet (wB addAD (wTup (wCons (wC (.str "most")) (wCons (wCall 2 drawF (wCons (wV 0) (wCons (wC (.int 4)) wNil))) wNil))) (wVb 4))) wSkip)
  (wRet (wB addAD (wTup (wCons (wB ixD (wLst (wCons (wC (.str "and")) (wCons (wC (.str "or")) (wCons (wC (.str "one")) wNil)))) (wB subD (wVb 3) (wC (.int 6)))) wNil)) (wVb 4)))))))))
theorem b_law_formula {f : Addr} {fd : FuncData} (F : Fun K "_law_formula" "_law_formula" s_law_formula f fd) (n : Nat) {self : Fn} (n_range : mg "range" = none) (n_tuple : mg "tuple" = none) (f_law_draw : FnW P w K mg base 1 "_law_draw" ["pot", "many"] .S drawF) (f_law_pick : FnW P w K mg base 2 "_law_pick" ["pot", "some"] .S fn_law_pick) (f_self : FnW P w K mg base (2 + n) "_law_formula" ["pot", "switches", "depth"] .S self) : FnG P w K mg base CX0 (2 + n + 1) f fd ["pot", "switches", "depth"] (spW K .S 3 (gBody .S 6 (g_law_formula self))) :=
  fnG_body (m := .S) (g := (g_law_formula self)) (N := ["pot", "switches", "depth", "way", "parts", "turn"]) F c_law_formula fun cdv A outer s H E hr hgd => (ess_cons (es_set (i := 3) c_law_formula.nd rfl (by first | exact Or.inl rfl | exact Or.inr rfl) (ew_if (eb_gt (ew_vb 2) (EW.toB ew_int)) (ew_call f_law_draw hr hgd (by omega) rfl (ea_cons (ew_v 0) (ea_cons ew_int ea_nil))) ew_int))
  (ess_cons (es_if (eb_lt (ew_vb 3) (EW.toB ew_int)) (ess_one (es_ret (fun e => nomatch e) (ew_if (eb_gt (EW.toB (ew_call f_law_draw hr hgd (by omega) rfl (ea_cons (ew_v 0) (ea_cons ew_int ea_nil)))) (EW.toB ew_int)) (ew_tup (ea_cons ew_str (ea_cons (ew_call f_law_draw hr hgd (by omega) rfl (ea_cons (ew_v 0) (ea_cons (ew_v 1) ea_nil))) ea_nil))) (ew_tup (ea_cons (ew_call f_law_pick hr hgd (by omega) rfl (ea_cons (ew_v 0) (ea_cons (EW.FS (ew_lst (ea_cons ew_str (ea_cons ew_str ea_nil)))) ea_nil))) ea_nil))))) ess_nil)
  (ess_cons (es_if (eb_eq hr.units (ew_vb 3) (EW.toB ew_int)) (ess_one (es_ret (fun e => nomatch e) (ew_tup (ea_cons ew_str (ea_cons (ew_call f_self hr hgd (by omega) rfl (ea_cons (ew_v 0) (ea_cons (ew_v 1) (ea_cons (ew_sub (ew_vb 2) (EW.toB ew_int)) ea_nil)))) ea_nil))))) ess_nil)
  (ess_cons (es_if (eb_lt (ew_vb 3) (EW.toB ew_int)) (ess_cons (es_set (i := 4) c_law_formula.nd rfl (by first | exact Or.inl rfl | exact Or.inr rfl) (ew_tup (ea_cons (ew_call f_self hr hgd (by omega) rfl (ea_cons (ew_v 0) (ea_cons (ew_v 1) (ea_cons (ew_sub (ew_vb 2) (EW.toB ew_int)) ea_nil)))) (ea_cons (ew_call f_self hr hgd (by omega) rfl (ea_cons (ew_v 0) (ea_cons (ew_v 1) (ea_cons (ew_sub (ew_vb 2) (EW.toB ew_int)) ea_nil)))) ea_nil))))
  (ess_one (es_ret (fun e => nomatch e) (ew_addA (EW.toB (ew_tup (ea_cons (ew_at (EW.toB (ew_lst (ea_cons ew_str (ea_cons ew_str ea_nil)))) (EW.toB (ew_sub (ew_vb 3) (EW.toB ew_int)))) ea_nil))) (ew_vb 4))))) ess_nil)
  (ess_cons (es_set (i := 4) c_law_formula.nd rfl (by first | exact Or.inl rfl | exact Or.inr rfl) (ew_tuple rfl n_tuple (EW.toB (ew_lc (own := [("turn", 5)]) rfl c_law_formula.nd (ei_range1 rfl n_range (ew_addA (EW.toB ew_int) (EW.toB (ew_call f_law_draw hr hgd (by omega) rfl (ea_cons (ew_v 0) (ea_cons ew_int ea_nil)))))) (blkOk_by (by rfl)) (fun _ _ _ _ _ => (eg_name (i := 5) c_law_formula.nd rfl (by first | exact Or.inl rfl | exact Or.inr rfl))) (fun _ _ _ _ _ => ec_nil) (fun _ _ _ _ _ => (ew_call f_self hr hgd (by omega) rfl (ea_cons (ew_v 0) (ea_cons (ew_v 1) (ea_cons (ew_sub (ew_vb 2) (EW.toB ew_int)) ea_nil)))))))))
  (ess_cons (es_if (eb_eq hr.units (ew_vb 3) (EW.toB ew_int)) (ess_one (es_ret (fun e => nomatch e) (ew_addA (EW.toB (ew_tup (ea_cons ew_str (ea_cons (ew_call f_law_draw hr hgd (by omega) rfl (ea_cons (ew_v 0) (ea_cons ew_int ea_nil))) ea_nil)))) (ew_vb 4)))) ess_nil)
  (ess_one (es_ret (fun e => nomatch e) (ew_addA (EW.toB (ew_tup (ea_cons (ew_at (EW.toB (ew_lst (ea_cons ew_str (ea_cons ew_str (ea_cons ew_str ea_nil))))) (EW.toB (ew_sub (ew_vb 3) (EW.toB ew_int)))) ea_nil))) (ew_vb 4))))))))))
def fn_law_formula : Nat → Fn
  | 0 => fun _ _ => False
  | n + 1 => gBody .S 6 (g_law_formula (fn_law_formula n))
theorem w_law_formula {f : Addr} {fd : FuncData} (F : Fun K "_law_formula" "_law_formula" s_law_formula f fd) (hm : mg "_law_formula" = some (.ref f)) (hb : Binds K fd ["pot", "switches", "depth"] []) (n_range : mg "range" = none) (n_tuple : mg "tuple" = none) (f_law_draw : FnW P w K mg base 1 "_law_draw" ["pot", "many"] .S drawF) (f_law_pick : FnW P w K mg base 2 "_law_pick" ["pot", "some"] .S fn_law_pick) : ∀ n : Nat, FnW P w K mg base (2 + n) "_law_formula" ["pot", "switches", "depth"] .S (fn_law_formula n)
  | 0 => ⟨fun _ _ _ _ q => q.elim, f, fd, hm, F.kp, hb, vac_fnG⟩
  | n + 1 => by
    have ih := w_law_formula F hm hb n_range n_tuple f_law_draw f_law_pick n
    exact ⟨mono_gBody, f, fd, hm, F.kp, hb, b_law_formula F n n_range n_tuple f_law_draw f_law_pick ih⟩
/-! _law_bent -/
abbrev s_law_bent : Stmt := topS 38
theorem c_law_bent : FnScope ["pot", "formula", "at", "odds", "odd", "head", "tail", "some", "word"] ["pot", "formula"] (defScope s_law_bent) := ⟨rfl, rfl, rfl, by decide +kernel, rfl, by decide +kernel, by decide +kernel⟩
def g_law_bent (self : Fn) : Ev → W Rs := (wSeq (wSet 2 (wB addAD (wC (.int 1)) (wCall 2 drawF (wCons (wV 0) (wCons (wU lenD (wVb 1)) wNil)))))
  (wSeq (wIf (wAnd (wT (wB ltI (wVb 2) (wU lenD (wVb 1)))) (wAnd (wT (wU (isiD .tuple) (wB ixD (wVb 1) (wVb 2)))) (wT (wB gtI (wCall 2 drawF (wCons (wV 0) (wCons (wC (.int 4)) wNil))) (wC (.int 0)))))) (wRet (wB addAD (wB addAD (wSl (wVb 1) wNo (wPart (wVb 2))) (wTup (wCons (wCall 2 self (wCons (wV 0) (wCons (wB ixD (wVb 1) (wVb 2)) wNil))) wNil))) (wSl (wVb 1) (wPart (wB addAD (wVb 2) (wC (.int 1)))) wNo))) wSkip)
  (wSeq (wSet 3 (wLst (wCons (wC .none) (wCons (wC (.bool true)) (wCons (wC (.bool false)) (wCons (wU negD (wC (.int 1))) (wCons (wC (.int 0)) (wCons (wC (.int 1)) (wCons (wC (.int 7)) (wCons (wC (.int 8)) (wCons (wC (.int 12)) (wCons (wC (.str "yes")) (wCons (wC (.str "")) (wCons (wTup (wCons (wC (.str "yes")) wNil)) (wCons (wTup (wCons (wC (.str "on")) (wCons (wC (.int 0)) wNil))) (wCons (wLst wNil) (wCons (wTup wNil) (wCons (wLst (wCons (wC (.str "yes")) wNil)) (wCons (wB powD (wC (.int 10)) (wC (.int 20))) wNil)))))))))))))))))))
  (wSeq (wPar3 4 5 6 (wCons (wCall 2 fn_law_pick (wCons (wV 0) (wCons (wV 3) wNil))) (wCons (wSl (wVb 1) wNo (wPart (wVb 2))) (wCons (wSl (wVb 1) (wPart (wB addAD (wVb 2) (wC (.int 1)))) wNo) wNil))))
  (wSeq (wSet 7 (wLst (wCons (wB addAD (wB addAD (wVb 5) (wTup (wCons (wV 4) wNil))) (wSl (wVb 1) (wPart (wVb 2)) wNo)) (wCons (wB addAD (wB addAD (wVb 5) (wTup (wCons (wV 4) wNil))) (wVb 6)) (wCons (wB addAD (wVb 5) (wVb 6)) wNil)))))
  (wSeq (wSet 8 (wCall 2 fn_law_pick (wCons (wV 0) (wCons (wLst (wCons (wC (.str "yes")) (wCons (wC (.str "no")) (wCons (wC (.str "on")) (wCons (wC (.str "not")) (wCons (wC (.str "and")) (wCons (wC (.str "or")) (wCons (wC (.str "one")) (wCons (wC (.str "most")) (wCons (wC (.str "then")) (wCons (wC (.str "same")) (wCons (wC (.str "And")) (wCons (wC (.str "some")) (wCons (wC (.str "")) wNil)))))))))))))) wNil))))
  (wSeq (wSet 7 (wB catD (wVb 7) (wLst (wCons (wU listD (wVb 1)) (wCons (wSl (wVb 1) (wPart (wC (.int 1))) wNo) (wCons (wB addAD (wVb 1) (wSl (wVb 1) (wPart (wC (.int 1))) wNo)) (wCons (wB addAD (wTup (wCons (wV 8) wNil)) (wSl (wVb 1) (wPart (wC (.int 1))) wNo)) (wCons (wTup (wCons (wV 1) wNil)) wNil))))))))
  (wSeq (wSet 7 (wB catD (wVb 7) (wLst (wCons (wTup (wCons (wC (.str "not")) (wCons (wV 1) wNil))) (wCons (wTup (wCons (wC (.str "then")) (wCons (wV 1) (wCons (wV 1) wNil)))) (wCons (wB addAD (wTup (wCons (wC (.str "and")) wNil)) (wB mulAD (wTup (wCons (wV 1) wNil)) (wC (.int 9)))) wNil))))))
  (wRet (wCall 2 fn_law_pick (wCons (wV 0) (wCons (wB catD (wVb 7) (wLst (wCons (wTup (wCons (wC (.str "most")) (wCons (wC (.int 1)) (wCons (wV 1) (wCons (wV 1) wNil))))) wNil))) wNil))))))))))))
theorem b_law_bent {f : Addr} {fd : FuncData} (F : Fun K "_law_bent" "_law_bent" s_law_bent f fd) (n : Nat) {self : Fn} (n_len : mg "len" = none) (n_isinstance : mg "isinstance" = none) (n_tuple : mg "tuple" = none) (n_list : mg "list" = none) (f_law_draw : FnW P w K mg base 1 "_law_draw" ["pot", "many"] .S drawF) (f_law_pick : FnW P w K mg base 2 "_law_pick" ["pot", "some"] .S fn_law_pick) (f_self : FnW P w K mg base (2 + n) "_law_bent" ["pot", "formula"] .S self) : FnG P w K mg base CX0 (2 + n + 1) f fd ["pot", "formula"] (spW K .S 2 (gBody .S 9 (g_law_bent self))) :=
  fnG_body (m := .S) (g := (g_law_bent self)) (N := ["pot", "formula", "at", "odds", "odd", "head", "tail", "some", "word"]) F c_law_bent fun cdv A outer s H E hr hgd => (ess_cons (es_set (i := 2) c_law_bent.nd rfl (by first | exact Or.inl rfl | exact Or.inr rfl) (ew_addA (EW.toB ew_int) (EW.toB (ew_call f_law_draw hr hgd (by omega) rfl (ea_cons (ew_v 0) (ea_cons (ew_len rfl n_len (ew_vb 1)) ea_nil))))))
  (ess_cons (es_if (eb_and (eb_lt (ew_vb 2) (EW.toB (ew_len rfl n_len (ew_vb 1)))) (ebw_and (eb_val (EW.toB (ew_isi .tuple rfl n_isinstance rfl n_tuple (by decide +kernel) (EW.toB (ew_at (ew_vb 1) (ew_vb 2)))))) (ebw_and1 (eb_gt (EW.toB (ew_call f_law_draw hr hgd (by omega) rfl (ea_cons (ew_v 0) (ea_cons ew_int ea_nil)))) (EW.toB ew_int))))) (ess_one (es_ret (fun e => nomatch e) (ew_addA (EW.toB (ew_addA (EW.toB (ew_slice (ew_vb 1) eo_none (eo_some (ew_vb 2)))) (EW.toB (ew_tup (ea_cons (ew_call f_self hr hgd (by omega) rfl (ea_cons (ew_v 0) (ea_cons (ew_at (ew_vb 1) (ew_vb 2)) ea_nil))) ea_nil))))) (EW.toB (ew_slice (ew_vb 1) (eo_some (EW.toB (ew_addA (ew_vb 2) (EW.toB ew_int)))) eo_none))))) ess_nil)
  (ess_cons (es_set (i := 3) c_law_bent.nd rfl (by first | exact Or.inl rfl | exact Or.inr rfl) (EW.FS (ew_lst (ea_cons ew_non (ea_cons ew_bl (ea_cons ew_bl (ea_cons (ew_neg (EW.toB ew_int)) (ea_cons ew_int (ea_cons ew_int (ea_cons ew_int (ea_cons ew_int (ea_cons ew_int (ea_cons ew_str (ea_cons ew_str (ea_cons (ew_tup (ea_cons ew_str ea_nil)) (ea_cons (ew_tup (ea_cons ew_str (ea_cons ew_int ea_nil))) (ea_cons (EW.FS (ew_lst ea_nil)) (ea_cons (ew_tup ea_nil) (ea_cons (EW.FS (ew_lst (ea_cons ew_str ea_nil))) (ea_cons (ew_pow (EW.toB ew_int) (EW.toB ew_int)) ea_nil))))))))))))))))))))
  (ess_cons (es_par3 (i := 4) (j := 5) (l := 6) (ea_cons (ew_call f_law_pick hr hgd (by omega) rfl (ea_cons (ew_v 0) (ea_cons (ew_v 3) ea_nil))) (ea_cons (ew_slice (ew_vb 1) eo_none (eo_some (ew_vb 2))) (ea_cons (ew_slice (ew_vb 1) (eo_some (EW.toB (ew_addA (ew_vb 2) (EW.toB ew_int)))) eo_none) ea_nil))) (fun h => ps_par3 rfl c_law_bent.nd rfl rfl rfl (by decide) (by decide) (by decide) rfl rfl rfl h rfl))
  (ess_cons (es_set (i := 7) c_law_bent.nd rfl (by first | exact Or.inl rfl | exact Or.inr rfl) (EW.FS (ew_lst (ea_cons (ew_addA (EW.toB (ew_addA (ew_vb 5) (EW.toB (ew_tup (ea_cons (ew_v 4) ea_nil))))) (EW.toB (ew_slice (ew_vb 1) (eo_some (ew_vb 2)) eo_none))) (ea_cons (ew_addA (EW.toB (ew_addA (ew_vb 5) (EW.toB (ew_tup (ea_cons (ew_v 4) ea_nil))))) (ew_vb 6)) (ea_cons (ew_addA (ew_vb 5) (ew_vb 6)) ea_nil))))))
  (ess_cons (es_set (i := 8) c_law_bent.nd rfl (by first | exact Or.inl rfl | exact Or.inr rfl) (ew_call f_law_pick hr hgd (by omega) rfl (ea_cons (ew_v 0) (ea_cons (EW.FS (ew_lst (ea_cons ew_str (ea_cons ew_str (ea_cons ew_str (ea_cons ew_str (ea_cons ew_str (ea_cons ew_str (ea_cons ew_str (ea_cons ew_str (ea_cons ew_str (ea_cons ew_str (ea_cons ew_str (ea_cons ew_str (ea_cons ew_str ea_nil))))))))))))))) ea_nil))))
  (ess_cons (es_set (i := 7) c_law_bent.nd rfl (by first | exact Or.inl rfl | exact Or.inr rfl) (EW.FS (ew_cat (ew_vb 7) (EW.toB (ew_lst (ea_cons (EW.FS (ew_list rfl n_list (ew_vb 1))) (ea_cons (ew_slice (ew_vb 1) (eo_some (EW.toB ew_int)) eo_none) (ea_cons (ew_addA (ew_vb 1) (EW.toB (ew_slice (ew_vb 1) (eo_some (EW.toB ew_int)) eo_none))) (ea_cons (ew_addA (EW.toB (ew_tup (ea_cons (ew_v 8) ea_nil))) (EW.toB (ew_slice (ew_vb 1) (eo_some (EW.toB ew_int)) eo_none))) (ea_cons (ew_tup (ea_cons (ew_v 1) ea_nil)) ea_nil))))))))))
  (ess_cons (es_set (i := 7) c_law_bent.nd rfl (by first | exact Or.inl rfl | exact Or.inr rfl) (EW.FS (ew_cat (ew_vb 7) (EW.toB (ew_lst (ea_cons (ew_tup (ea_cons ew_str (ea_cons (ew_v 1) ea_nil))) (ea_cons (ew_tup (ea_cons ew_str (ea_cons (ew_v 1) (ea_cons (ew_v 1) ea_nil)))) (ea_cons (ew_addA (EW.toB (ew_tup (ea_cons ew_str ea_nil))) (EW.toB (ew_mulA (EW.toB (ew_tup (ea_cons (ew_v 1) ea_nil))) (EW.toB ew_int)))) ea_nil))))))))
  (ess_one (es_ret (fun e => nomatch e) (ew_call f_law_pick hr hgd (by omega) rfl (ea_cons (ew_v 0) (ea_cons (EW.FS (ew_cat (ew_vb 7) (EW.toB (ew_lst (ea_cons (ew_tup (ea_cons ew_str (ea_cons ew_int (ea_cons (ew_v 1) (ea_cons (ew_v 1) ea_nil))))) ea_nil))))) ea_nil)))))))))))))
def fn_law_bent : Nat → Fn
  | 0 => fun _ _ => False
  | n + 1 => gBody .S 9 (g_law_bent (fn_law_bent n))
theorem w_law_bent {f : Addr} {fd : FuncData} (F : Fun K "_law_bent" "_law_bent" s_law_bent f fd) (hm : mg "_law_bent" = some (.ref f)) (hb : Binds K fd ["pot", "formula"] []) (n_len : mg "len" = none) (n_isinstance : mg "isinstance" = none) (n_tuple : mg "tuple" = none) (n_list : mg "list" = none) (f_law_draw : FnW P w K mg base 1 "_law_draw" ["pot", "many"] .S drawF) (f_law_pick : FnW P w K mg base 2 "_law_pick" ["pot", "some"] .S fn_law_pick) : ∀ n : Nat, FnW P w K mg base (2 + n) "_law_bent" ["pot", "formula"] .S (fn_law_bent n)
  | 0 => ⟨fun _ _ _ _ q => q.elim, f, fd, hm, F.kp, hb, vac_fnG⟩
  | n + 1 => by
    have ih := w_law_bent F hm hb n_len n_isinstance n_tuple n_list f_law_draw f_law_pick n
    exact ⟨mono_gBody, f, fd, hm, F.kp, hb, b_law_bent F n n_len n_isinstance n_tuple n_list f_law_draw f_law_pick ih⟩
/-! _law_great -/
abbrev s_law_great : Stmt := topS 39
theorem c_law_great : FnScope ["pot", "switches", "found", "turn", "some"] ["pot", "switches"] (defScope s_law_great) := ⟨rfl, rfl, rfl, by decide +kernel, rfl, by decide +kernel, by decide +kernel⟩
def g_law_great : Ev → W Rs := (wSeq (wSet 2 (wTup (wCons (wC (.str "on")) (wCons (wCall 2 drawF (wCons (wV 0) (wCons (wV 1) wNil))) wNil))))
  (wSeq (wFor (wRange1 (wCall 2 drawF (wCons (wV 0) (wCons (wC (.int 9)) wNil)))) (stN 3) (wSeq (wSet 4 (wLst (wCons (wTup (wCons (wC (.str "not")) (wCons (wV 2) wNil))) (wCons (wTup (wCons (wC (.str "and")) (wCons (wV 2) (wCons (wTup (wCons (wC (.str "no")) wNil)) wNil)))) (wCons (wTup (wCons (wC (.str "or")) (wCons (wTup (wCons (wC (.str "yes")) wNil)) (wCons (wV 2) (wCons (wV 2) wNil))))) (wCons (wTup (wCons (wC (.str "not")) (wCons (wV 2) wNil))) wNil))))))
  (wSet 2 (wCall 2 fn_law_pick (wCons (wV 0) (wCons (wV 4) wNil))))))
  (wRet (wV 2))))
theorem b_law_great {f : Addr} {fd : FuncData} (F : Fun K "_law_great" "_law_great" s_law_great f fd) (n_range : mg "range" = none) (f_law_draw : FnW P w K mg base 1 "_law_draw" ["pot", "many"] .S drawF) (f_law_pick : FnW P w K mg base 2 "_law_pick" ["pot", "some"] .S fn_law_pick) : FnG P w K mg base CX0 (2 + 1) f fd ["pot", "switches"] (spW K .S 2 (gBody .S 5 g_law_great)) :=
  fnG_body (m := .S) (g := g_law_great) (N := ["pot", "switches", "found", "turn", "some"]) F c_law_great fun cdv A outer s H E hr hgd => (ess_cons (es_set (i := 2) c_law_great.nd rfl (by first | exact Or.inl rfl | exact Or.inr rfl) (ew_tup (ea_cons ew_str (ea_cons (ew_call f_law_draw hr hgd (by omega) rfl (ea_cons (ew_v 0) (ea_cons (ew_v 1) ea_nil))) ea_nil))))
  (ess_cons (es_for PassesOwn.never rfl (ei_range1 rfl n_range (ew_call f_law_draw hr hgd (by omega) rfl (ea_cons (ew_v 0) (ea_cons ew_int ea_nil)))) (eg_name (i := 3) c_law_great.nd rfl (by first | exact Or.inl rfl | exact Or.inr rfl)) (ess_cons (es_set (i := 4) c_law_great.nd rfl (by first | exact Or.inl rfl | exact Or.inr rfl) (EW.FS (ew_lst (ea_cons (ew_tup (ea_cons ew_str (ea_cons (ew_v 2) ea_nil))) (ea_cons (ew_tup (ea_cons ew_str (ea_cons (ew_v 2) (ea_cons (ew_tup (ea_cons ew_str ea_nil)) ea_nil)))) (ea_cons (ew_tup (ea_cons ew_str (ea_cons (ew_tup (ea_cons ew_str ea_nil)) (ea_cons (ew_v 2) (ea_cons (ew_v 2) ea_nil))))) (ea_cons (ew_tup (ea_cons ew_str (ea_cons (ew_v 2) ea_nil))) ea_nil)))))))
  (ess_one (es_set (i := 2) c_law_great.nd rfl (by first | exact Or.inl rfl | exact Or.inr rfl) (ew_call f_law_pick hr hgd (by omega) rfl (ea_cons (ew_v 0) (ea_cons (ew_v 4) ea_nil)))))))
  (ess_one (es_ret (fun e => nomatch e) (ew_v 2)))))
def fn_law_great : Fn := gBody .S 5 g_law_great
theorem w_law_great {f : Addr} {fd : FuncData} (F : Fun K "_law_great" "_law_great" s_law_great f fd) (hm : mg "_law_great" = some (.ref f)) (hb : Binds K fd ["pot", "switches"] []) (n_range : mg "range" = none) (f_law_draw : FnW P w K mg base 1 "_law_draw" ["pot", "many"] .S drawF) (f_law_pick : FnW P w K mg base 2 "_law_pick" ["pot", "some"] .S fn_law_pick) : FnW P w K mg base 3 "_law_great" ["pot", "switches"] .S fn_law_great :=
  ⟨mono_gBody, f, fd, hm, F.kp, hb, b_law_great F n_range f_law_draw f_law_pick⟩
/-! _law_values -/
abbrev s_law_values : Stmt := topS 40
theorem c_law_values : FnScope ["pot", "switches", "formula", "values", "some", "wide", "turn"] ["pot", "switches"] (defScope s_law_values) := ⟨rfl, rfl, rfl, by decide +kernel, rfl, by decide +kernel, by decide +kernel⟩
def g_law_values : Ev → W Rs := (wSeq (wSet 2 (wCall 3 (fn_law_formula 4) (wCons (wV 0) (wCons (wV 1) (wCons (wC (.int 4)) wNil)))))
  (wSeq (wSetF 3 (wB catD (wLst (wCons (wV 2) wNil)) (wLc [6] (wRange1 (wC (.int 20))) (stN 6) wYes (wCall 2 (fn_law_bent 8) (wCons (wV 0) (wCons (wV 2) wNil))))))
  (wSeq (wSetF 3 (wB catD (wVb 3) (wLc [6] (wRange1 (wC (.int 5))) (stN 6) wYes (wCall 2 fn_law_great (wCons (wV 0) (wCons (wV 1) wNil))))))
  (wSeq (wSet 4 (wB mulAD (wTup (wCons (wTup (wCons (wC (.str "yes")) wNil)) wNil)) (wB addAD (wC (.int 6)) (wCall 2 drawF (wCons (wV 0) (wCons (wC (.int 4)) wNil))))))
  (wSeq (wExt 3 (wLst (wCons (wB addAD (wTup (wCons (wC (.str "and")) wNil)) (wVb 4)) (wCons (wB addAD (wTup (wCons (wC (.str "one")) wNil)) (wVb 4)) (wCons (wB addAD (wTup (wCons (wC (.str "most")) (wCons (wB subD (wCall 2 drawF (wCons (wV 0) (wCons (wC (.int 10)) wNil))) (wC (.int 1))) wNil))) (wVb 4)) (wCons (wB addAD (wTup (wCons (wC (.str "most")) wNil)) (wVb 4)) wNil))))))
  (wSeq (wSet 5 (wB addAD (wTup (wCons (wC (.str "or")) wNil)) (wB mulAD (wTup (wCons (wTup (wCons (wC (.str "no")) wNil)) wNil)) (wB addAD (wC (.int 6)) (wCall 2 drawF (wCons (wV 0) (wCons (wC (.int 3)) wNil)))))))
  (wSeq (wExt 3 (wLst (wCons (wB addAD (wTup (wCons (wC (.str "and")) wNil)) (wB mulAD (wTup (wCons (wV 5) wNil)) (wB addAD (wC (.int 5)) (wCall 2 drawF (wCons (wV 0) (wCons (wC (.int 4)) wNil)))))) (wCons (wTup (wCons (wC (.str "same")) (wCons (wB addAD (wTup (wCons (wC (.str "and")) wNil)) (wB mulAD (wTup (wCons (wV 5) wNil)) (wC (.int 6)))) (wCons (wV 5) wNil)))) wNil))))
  (wSeq (wExt 3 (wLst (wCons (wTup (wCons (wC (.str "on")) (wCons (wB subD (wVb 1) (wC (.int 1))) wNil))) (wCons (wTup (wCons (wC (.str "on")) (wCons (wV 1) wNil))) (wCons (wTup (wCons (wC (.str "most")) (wCons (wC (.int 2)) wNil))) wNil)))))
  (wRet (wB catD (wVb 3) (wLst (wCons (wC .none) (wCons (wC (.int 0)) (wCons (wC (.str "")) (wCons (wC (.str "yes")) (wCons (wTup wNil) (wCons (wLst wNil) (wCons (wC (.dict [])) (wCons (wC (.bool true)) (wCons (wTup (wCons (wC (.str "yes")) wNil)) (wCons (wTup (wCons (wC (.str "no")) wNil)) (wCons (wTup (wCons (wTup (wCons (wC (.str "yes")) wNil)) wNil)) (wCons (wTup (wCons (wC (.str "yes")) (wCons (wTup wNil) wNil))) wNil)))))))))))))))))))))))
theorem b_law_values {f : Addr} {fd : FuncData} (F : Fun K "_law_values" "_law_values" s_law_values f fd) (n_range : mg "range" = none) (f_law_formula : FnW P w K mg base 6 "_law_formula" ["pot", "switches", "depth"] .S (fn_law_formula 4)) (f_law_bent : FnW P w K mg base 10 "_law_bent" ["pot", "formula"] .S (fn_law_bent 8)) (f_law_great : FnW P w K mg base 3 "_law_great" ["pot", "switches"] .S fn_law_great) (f_law_draw : FnW P w K mg base 1 "_law_draw" ["pot", "many"] .S drawF) : FnG P w K mg base CX0 (10 + 1) f fd ["pot", "switches"] (spW K .S 2 (gBody .S 7 g_law_values)) :=
  fnG_body (m := .S) (g := g_law_values) (N := ["pot", "switches", "formula", "values", "some", "wide", "turn"]) F c_law_values fun cdv A outer s H E hr hgd => (ess_cons (es_set (i := 2) c_law_values.nd rfl (by first | exact Or.inl rfl | exact Or.inr rfl) (ew_call f_law_formula hr hgd (by omega) rfl (ea_cons (ew_v 0) (ea_cons (ew_v 1) (ea_cons ew_int ea_nil)))))
  (ess_cons (es_setF (i := 3) c_law_values.nd rfl (by first | exact Or.inl rfl | exact Or.inr rfl) (ew_cat (EW.toB (ew_lst (ea_cons (ew_v 2) ea_nil))) (EW.toB (ew_lc (own := [("turn", 6)]) rfl c_law_values.nd (ei_range1 rfl n_range ew_int) (blkOk_by (by rfl)) (fun _ _ _ _ _ => (eg_name (i := 6) c_law_values.nd rfl (by first | exact Or.inl rfl | exact Or.inr rfl))) (fun _ _ _ _ _ => ec_nil) (fun _ _ _ _ _ => (ew_call f_law_bent hr hgd (by omega) rfl (ea_cons (ew_v 0) (ea_cons (ew_v 2) ea_nil))))))))
  (ess_cons (es_setF (i := 3) c_law_values.nd rfl (by first | exact Or.inl rfl | exact Or.inr rfl) (ew_cat (ew_vb 3) (EW.toB (ew_lc (own := [("turn", 6)]) rfl c_law_values.nd (ei_range1 rfl n_range ew_int) (blkOk_by (by rfl)) (fun _ _ _ _ _ => (eg_name (i := 6) c_law_values.nd rfl (by first | exact Or.inl rfl | exact Or.inr rfl))) (fun _ _ _ _ _ => ec_nil) (fun _ _ _ _ _ => (ew_call f_law_great hr hgd (by omega) rfl (ea_cons (ew_v 0) (ea_cons (ew_v 1) ea_nil))))))))
  (ess_cons (es_set (i := 4) c_law_values.nd rfl (by first | exact Or.inl rfl | exact Or.inr rfl) (ew_mulA (EW.toB (ew_tup (ea_cons (ew_tup (ea_cons ew_str ea_nil)) ea_nil))) (EW.toB (ew_addA (EW.toB ew_int) (EW.toB (ew_call f_law_draw hr hgd (by omega) rfl (ea_cons (ew_v 0) (ea_cons ew_int ea_nil))))))))
  (ess_cons (es_extend 3 (ew_lst (ea_cons (ew_addA (EW.toB (ew_tup (ea_cons ew_str ea_nil))) (ew_vb 4)) (ea_cons (ew_addA (EW.toB (ew_tup (ea_cons ew_str ea_nil))) (ew_vb 4)) (ea_cons (ew_addA (EW.toB (ew_tup (ea_cons ew_str (ea_cons (ew_sub (EW.toB (ew_call f_law_draw hr hgd (by omega) rfl (ea_cons (ew_v 0) (ea_cons ew_int ea_nil)))) (EW.toB ew_int)) ea_nil)))) (ew_vb 4)) (ea_cons (ew_addA (EW.toB (ew_tup (ea_cons ew_str ea_nil))) (ew_vb 4)) ea_nil))))) (fun h => pe_bm PySem.F.plainAttrs_list PySem.F.slot_list_extend PySem.F.type_list_extend mt_extend (pv 3) (pa_cons h pa_nil)))
  (ess_cons (es_set (i := 5) c_law_values.nd rfl (by first | exact Or.inl rfl | exact Or.inr rfl) (ew_addA (EW.toB (ew_tup (ea_cons ew_str ea_nil))) (EW.toB (ew_mulA (EW.toB (ew_tup (ea_cons (ew_tup (ea_cons ew_str ea_nil)) ea_nil))) (EW.toB (ew_addA (EW.toB ew_int) (EW.toB (ew_call f_law_draw hr hgd (by omega) rfl (ea_cons (ew_v 0) (ea_cons ew_int ea_nil))))))))))
  (ess_cons (es_extend 3 (ew_lst (ea_cons (ew_addA (EW.toB (ew_tup (ea_cons ew_str ea_nil))) (EW.toB (ew_mulA (EW.toB (ew_tup (ea_cons (ew_v 5) ea_nil))) (EW.toB (ew_addA (EW.toB ew_int) (EW.toB (ew_call f_law_draw hr hgd (by omega) rfl (ea_cons (ew_v 0) (ea_cons ew_int ea_nil))))))))) (ea_cons (ew_tup (ea_cons ew_str (ea_cons (ew_addA (EW.toB (ew_tup (ea_cons ew_str ea_nil))) (EW.toB (ew_mulA (EW.toB (ew_tup (ea_cons (ew_v 5) ea_nil))) (EW.toB ew_int)))) (ea_cons (ew_v 5) ea_nil)))) ea_nil))) (fun h => pe_bm PySem.F.plainAttrs_list PySem.F.slot_list_extend PySem.F.type_list_extend mt_extend (pv 3) (pa_cons h pa_nil)))
  (ess_cons (es_extend 3 (ew_lst (ea_cons (ew_tup (ea_cons ew_str (ea_cons (ew_sub (ew_vb 1) (EW.toB ew_int)) ea_nil))) (ea_cons (ew_tup (ea_cons ew_str (ea_cons (ew_v 1) ea_nil))) (ea_cons (ew_tup (ea_cons ew_str (ea_cons ew_int ea_nil))) ea_nil)))) (fun h => pe_bm PySem.F.plainAttrs_list PySem.F.slot_list_extend PySem.F.type_list_extend mt_extend (pv 3) (pa_cons h pa_nil)))
  (ess_one (es_ret (fun e => nomatch e) (EW.FS (ew_cat (ew_vb 3) (EW.toB (ew_lst (ea_cons ew_non (ea_cons ew_int (ea_cons ew_str (ea_cons ew_str (ea_cons (ew_tup ea_nil) (ea_cons (EW.FS (ew_lst ea_nil)) (ea_cons ew_dnew (ea_cons ew_bl (ea_cons (ew_tup (ea_cons ew_str ea_nil)) (ea_cons (ew_tup (ea_cons ew_str ea_nil)) (ea_cons (ew_tup (ea_cons (ew_tup (ea_cons ew_str ea_nil)) ea_nil)) (ea_cons (ew_tup (ea_cons ew_str (ea_cons (ew_tup ea_nil) ea_nil))) ea_nil))))))))))))))))))))))))))
def fn_law_values : Fn := gBody .S 7 g_law_values
theorem w_law_values {f : Addr} {fd : FuncData} (F : Fun K "_law_values" "_law_values" s_law_values f fd) (hm : mg "_law_values" = some (.ref f)) (hb : Binds K fd ["pot", "switches"] []) (n_range : mg "range" = none) (f_law_formula : FnW P w K mg base 6 "_law_formula" ["pot", "switches", "depth"] .S (fn_law_formula 4)) (f_law_bent : FnW P w K mg base 10 "_law_bent" ["pot", "formula"] .S (fn_law_bent 8)) (f_law_great : FnW P w K mg base 3 "_law_great" ["pot", "switches"] .S fn_law_great) (f_law_draw : FnW P w K mg base 1 "_law_draw" ["pot", "many"] .S drawF) : FnW P w K mg base 11 "_law_values" ["pot", "switches"] .S fn_law_values :=
  ⟨mono_gBody, f, fd, hm, F.kp, hb, b_law_values F n_range f_law_formula f_law_bent f_law_great f_law_draw⟩
/-! _law_choice -/
abbrev s_law_choice : Stmt := topS 33
theorem c_law_choice : FnScope ["pot", "switches", "switch"] ["pot", "switches"] (defScope s_law_choice) := ⟨rfl, rfl, rfl, by decide +kernel, rfl, by decide +kernel, by decide +kernel⟩
def g_law_choice : Ev → W Rs := (wRet (wU tupleD (wLc [2] (wRange1 (wV 1)) (stN 2) wYes (wB eqD (wCall 2 drawF (wCons (wV 0) (wCons (wC (.int 2)) wNil))) (wC (.int 1))))))
theorem b_law_choice {f : Addr} {fd : FuncData} (F : Fun K "_law_choice" "_law_choice" s_law_choice f fd) (n_range : mg "range" = none) (n_tuple : mg "tuple" = none) (f_law_draw : FnW P w K mg base 1 "_law_draw" ["pot", "many"] .S drawF) : FnG P w K mg base CX0 (1 + 1) f fd ["pot", "switches"] (spW K .S 2 (gBody .S 3 g_law_choice)) :=
  fnG_body (m := .S) (g := g_law_choice) (N := ["pot", "switches", "switch"]) F c_law_choice fun cdv A outer s H E hr hgd => (ess_one (es_ret (fun e => nomatch e) (ew_tuple rfl n_tuple (EW.toB (ew_lc (own := [("switch", 2)]) rfl c_law_choice.nd (ei_range1 rfl n_range (ew_v 1)) (blkOk_by (by rfl)) (fun _ _ _ _ _ => (eg_name (i := 2) c_law_choice.nd rfl (by first | exact Or.inl rfl | exact Or.inr rfl))) (fun _ _ _ _ _ => ec_nil) (fun _ _ _ _ _ => (ew_eq hr.units (EW.toB (ew_call f_law_draw hr hgd (by omega) rfl (ea_cons (ew_v 0) (ea_cons ew_int ea_nil)))) (EW.toB ew_int))))))))
def fn_law_choice : Fn := gBody .S 3 g_law_choice
theorem w_law_choice {f : Addr} {fd : FuncData} (F : Fun K "_law_choice" "_law_choice" s_law_choice f fd) (hm : mg "_law_choice" = some (.ref f)) (hb : Binds K fd ["pot", "switches"] []) (n_range : mg "range" = none) (n_tuple : mg "tuple" = none) (f_law_draw : FnW P w K mg base 1 "_law_draw" ["pot", "many"] .S drawF) : FnW P w K mg base 2 "_law_choice" ["pot", "switches"] .S fn_law_choice :=
  ⟨mono_gBody, f, fd, hm, F.kp, hb, b_law_choice F n_range n_tuple f_law_draw⟩
/-! _law_are_bools -/
abbrev s_law_are_bools : Stmt := topS 37
theorem c_law_are_bools : FnScope ["switches", "value", "some", "one"] ["switches", "value", "some"] (defScope s_law_are_bools) := ⟨rfl, rfl, rfl, by decide +kernel, rfl, by decide +kernel, by decide +kernel⟩
def g_law_are_bools : Ev → W Rs := (wSeq (wIf (wOr (wNot (wT (wU (isiD .tuple) (wVb 1)))) (wT (wB neD (wU lenD (wVb 1)) (wVb 0)))) (wRet (wC (.bool false))) wSkip)
  (wRet (wU allD (wLc [3] (wItems (wV 1)) (stN 3) wYes (wB (inD false) (wU reprD (wVb 3)) (wVb 2))))))
theorem b_law_are_bools {f : Addr} {fd : FuncData} (F : Fun K "_law_are_bools" "_law_are_bools" s_law_are_bools f fd) (n_len : mg "len" = none) (n_isinstance : mg "isinstance" = none) (n_tuple : mg "tuple" = none) (n_repr : mg "repr" = none) (n_all : mg "all" = none) : FnG P w K mg base CX0 (0 + 1) f fd ["switches", "value", "some"] (spW K .S 3 (gBody .S 4 g_law_are_bools)) :=
  fnG_body (m := .S) (g := g_law_are_bools) (N := ["switches", "value", "some", "one"]) F c_law_are_bools fun cdv A outer s H E hr hgd => (ess_cons (es_if (eb_or (eb_not (eb_val (EW.toB (ew_isi .tuple rfl n_isinstance rfl n_tuple (by decide +kernel) (ew_vb 1))))) (ebw_or1 (eb_ne hr.units (EW.toB (ew_len rfl n_len (ew_vb 1))) (ew_vb 0)))) (ess_one (es_ret (fun e => nomatch e) ew_bl)) ess_nil)
  (ess_one (es_ret (fun e => nomatch e) (ew_all rfl n_all (EW.toB (ew_lc (own := [("one", 3)]) rfl c_law_are_bools.nd (ei_seq (ew_v 1)) (blkOk_by (by rfl)) (fun _ _ _ _ _ => (eg_name (i := 3) c_law_are_bools.nd rfl (by first | exact Or.inl rfl | exact Or.inr rfl))) (fun _ _ _ _ _ => ec_nil) (fun _ _ _ _ _ => (ew_in (EW.toB (ew_repr hgd hr.units rfl n_repr (ew_vb 3))) (ew_vb 2)))))))))
def fn_law_are_bools : Fn := gBody .S 4 g_law_are_bools
theorem w_law_are_bools {f : Addr} {fd : FuncData} (F : Fun K "_law_are_bools" "_law_are_bools" s_law_are_bools f fd) (hm : mg "_law_are_bools" = some (.ref f)) (hb : Binds K fd ["switches", "value", "some"] []) (n_len : mg "len" = none) (n_isinstance : mg "isinstance" = none) (n_tuple : mg "tuple" = none) (n_repr : mg "repr" = none) (n_all : mg "all" = none) : FnW P w K mg base 1 "_law_are_bools" ["switches", "value", "some"] .S fn_law_are_bools :=
  ⟨mono_gBody, f, fd, hm, F.kp, hb, b_law_are_bools F n_len n_isinstance n_tuple n_repr n_all⟩
/-! is_integer -/
abbrev s_is_integer : Stmt := topS 5
theorem c_is_integer : FnScope ["value"] ["value"] (defScope s_is_integer) := ⟨rfl, rfl, rfl, by decide +kernel, rfl, by decide +kernel, by decide +kernel⟩
def g_is_integer : Ev → W Rs := (wRet (wAndV (wU (isiD .int) (wVb 0)) (wNotV (wU (isiD .bool) (wVb 0)))))
theorem b_is_integer {f : Addr} {fd : FuncData} (F : Fun K "is_integer" "is_integer" s_is_integer f fd) (n_isinstance : mg "isinstance" = none) (n_bool : mg "bool" = none) (n_int : mg "int" = none) : FnG P w K mg base CX0 (0 + 1) f fd ["value"] (spW K .S 1 (gBody .S 1 g_is_integer)) :=
  fnG_body (m := .S) (g := g_is_integer) (N := ["value"]) F c_is_integer fun cdv A outer s H E hr hgd => (ess_one (es_ret (fun e => nomatch e) (ew_and (ew_isi .int rfl n_isinstance rfl n_int (by decide +kernel) (ew_vb 0)) (ew_one (ew_not (ew_isi .bool rfl n_isinstance rfl n_bool (by decide +kernel) (ew_vb 0)))))))
def fn_is_integer : Fn := gBody .S 1 g_is_integer
theorem w_is_integer {f : Addr} {fd : FuncData} (F : Fun K "is_integer" "is_integer" s_is_integer f fd) (hm : mg "is_integer" = some (.ref f)) (hb : Binds K fd ["value"] []) (n_isinstance : mg "isinstance" = none) (n_bool : mg "bool" = none) (n_int : mg "int" = none) : FnW P w K mg base 1 "is_integer" ["value"] .S fn_is_integer :=
  ⟨mono_gBody, f, fd, hm, F.kp, hb, b_is_integer F n_isinstance n_bool n_int⟩
/-! is_within -/
abbrev s_is_within : Stmt := topS 6
theorem c_is_within : FnScope ["value", "least", "most"] ["value", "least", "most"] (defScope s_is_within) := ⟨rfl, rfl, rfl, by decide +kernel, rfl, by decide +kernel, by decide +kernel⟩
def g_is_within : Ev → W Rs := (wRet (wAndV (wCall 1 fn_is_integer (wCons (wV 0) wNil)) (wChain leI leI (wVb 1) (wVb 0) (wVb 2))))
theorem b_is_within {f : Addr} {fd : FuncData} (F : Fun K "is_within" "is_within" s_is_within f fd) (f_is_integer : FnW P w K mg base 1 "is_integer" ["value"] .S fn_is_integer) : FnG P w K mg base CX0 (1 + 1) f fd ["value", "least", "most"] (spW K .S 3 (gBody .S 3 g_is_within)) :=
  fnG_body (m := .S) (g := g_is_within) (N := ["value", "least", "most"]) F c_is_within fun cdv A outer s H E hr hgd => (ess_one (es_ret (fun e => nomatch e) (ew_and (ew_call f_is_integer hr hgd (by omega) rfl (ea_cons (ew_v 0) ea_nil)) (ew_one (ew_lele (ew_vb 1) (ew_vb 0) (ew_vb 2))))))
def fn_is_within : Fn := gBody .S 3 g_is_within
theorem w_is_within {f : Addr} {fd : FuncData} (F : Fun K "is_within" "is_within" s_is_within f fd) (hm : mg "is_within" = some (.ref f)) (hb : Binds K fd ["value", "least", "most"] []) (f_is_integer : FnW P w K mg base 1 "is_integer" ["value"] .S fn_is_integer) : FnW P w K mg base 2 "is_within" ["value", "least", "most"] .S fn_is_within :=
  ⟨mono_gBody, f, fd, hm, F.kp, hb, b_is_within F f_is_integer⟩
/-! check_switches -/
abbrev s_check_switches : Stmt := topS 7
theorem c_check_switches : FnScope ["value", "least"] ["value", "least"] (defScope s_check_switches) := ⟨rfl, rfl, rfl, by decide +kernel, rfl, by decide +kernel, by decide +kernel⟩
def g_check_switches : Ev → W Rs := (wIf (wNot (wT (wCall 3 fn_is_within (wCons (wV 0) (wCons (wV 1) (wCons (wC (.int 12)) wNil)))))) wFail wSkip)
theorem b_check_switches {f : Addr} {fd : FuncData} (F : FunD K "check_switches" "check_switches" (defArgs s_check_switches) (defBody s_check_switches) (defScope s_check_switches) (List.map V.int [1]) [] f fd) (q_MOST_SWITCHES : GC K mg "MOST_SWITCHES" (.int 12)) (f_is_within : FnW P w K mg base 2 "is_within" ["value", "least", "most"] .S fn_is_within) : FnG P w K mg base CX0 (2 + 1) f fd ["value", "least"] (spW K .S 2 (gBody .S 2 g_check_switches)) :=
  fnG_bodyD (m := .S) (g := g_check_switches) (N := ["value", "least"]) F c_check_switches fun cdv A outer s H E hr hgd => (ess_one (es_if (eb_not (eb_val (EW.toB (ew_call f_is_within hr hgd (by omega) rfl (ea_cons (ew_v 0) (ea_cons (ew_v 1) (ea_cons (ew_gc q_MOST_SWITCHES rfl) ea_nil))))))) (ess_one es_fail) ess_nil))
def fn_check_switches : Fn := gBody .S 2 g_check_switches
theorem w_check_switches {f : Addr} {fd : FuncData} (F : FunD K "check_switches" "check_switches" (defArgs s_check_switches) (defBody s_check_switches) (defScope s_check_switches) (List.map V.int [1]) [] f fd) (hm : mg "check_switches" = some (.ref f)) (hb : Binds K fd ["value", "least"] []) (q_MOST_SWITCHES : GC K mg "MOST_SWITCHES" (.int 12)) (f_is_within : FnW P w K mg base 2 "is_within" ["value", "least", "most"] .S fn_is_within) : FnW P w K mg base 3 "check_switches" ["value", "least"] .S fn_check_switches :=
  ⟨mono_gBody, f, fd, hm, F.kp, hb, b_check_switches F q_MOST_SWITCHES f_is_within⟩
/-! is_choice_of -/
abbrev s_is_choice_of : Stmt := topS 23
theorem c_is_choice_of : FnScope ["switches", "value", "one"] ["switches", "value"] (defScope s_is_choice_of) := ⟨rfl, rfl, rfl, by decide +kernel, rfl, by decide +kernel, by decide +kernel⟩
def g_is_choice_of : Ev → W Rs := (wRet (wAndV (wU (isiD .tuple) (wVb 1)) (wAndV (wB eqD (wU lenD (wVb 1)) (wVb 0)) (wU allD (wLc [2] (wItems (wV 1)) (stN 2) wYes (wU (isiD .bool) (wVb 2)))))))
theorem b_is_choice_of {f : Addr} {fd : FuncData} (F : Fun K "is_choice_of" "is_choice_of" s_is_choice_of f fd) (n_isinstance : mg "isinstance" = none) (n_bool : mg "bool" = none) (n_all : mg "all" = none) (n_len : mg "len" = none) (n_tuple : mg "tuple" = none) : FnG P w K mg base CX0 (0 + 1) f fd ["switches", "value"] (spW K .S 2 (gBody .S 3 g_is_choice_of)) :=
  fnG_body (m := .S) (g := g_is_choice_of) (N := ["switches", "value", "one"]) F c_is_choice_of fun cdv A outer s H E hr hgd => (ess_one (es_ret (fun e => nomatch e) (ew_and (ew_isi .tuple rfl n_isinstance rfl n_tuple (by decide +kernel) (ew_vb 1)) (ew_and (ew_eq hr.units (EW.toB (ew_len rfl n_len (ew_vb 1))) (ew_vb 0)) (ew_one (ew_all rfl n_all (EW.toB (ew_lc (own := [("one", 2)]) rfl c_is_choice_of.nd (ei_seq (ew_v 1)) (blkOk_by (by rfl)) (fun _ _ _ _ _ => (eg_name (i := 2) c_is_choice_of.nd rfl (by first | exact Or.inl rfl | exact Or.inr rfl))) (fun _ _ _ _ _ => ec_nil) (fun _ _ _ _ _ => (ew_isi .bool rfl n_isinstance rfl n_bool (by decide +kernel) (ew_vb 2)))))))))))
def fn_is_choice_of : Fn := gBody .S 3 g_is_choice_of
theorem w_is_choice_of {f : Addr} {fd : FuncData} (F : Fun K "is_choice_of" "is_choice_of" s_is_choice_of f fd) (hm : mg "is_choice_of" = some (.ref f)) (hb : Binds K fd ["switches", "value"] []) (n_isinstance : mg "isinstance" = none) (n_bool : mg "bool" = none) (n_all : mg "all" = none) (n_len : mg "len" = none) (n_tuple : mg "tuple" = none) : FnW P w K mg base 1 "is_choice_of" ["switches", "value"] .S fn_is_choice_of :=
  ⟨mono_gBody, f, fd, hm, F.kp, hb, b_is_choice_of F n_isinstance n_bool n_all n_len n_tuple⟩
/-! is_choice -/
abbrev s_is_choice : Stmt := topS 25
theorem c_is_choice : FnScope ["switches", "value"] ["switches", "value"] (defScope s_is_choice) := ⟨rfl, rfl, rfl, by decide +kernel, rfl, by decide +kernel, by decide +kernel⟩
def g_is_choice : Ev → W Rs := (wSeq (wDrop (wCallD 1 [.int 1] fn_check_switches (wCons (wV 0) wNil)))
  (wRet (wCall 2 fn_is_choice_of (wCons (wV 0) (wCons (wV 1) wNil)))))
theorem b_is_choice {f : Addr} {fd : FuncData} (F : Fun K "is_choice" "is_choice" s_is_choice f fd) (f_is_choice_of : FnW P w K mg base 1 "is_choice_of" ["switches", "value"] .S fn_is_choice_of) (d1_check_switches : FnD P w K mg base 3 "check_switches" 1 [.int 1] .S fn_check_switches) : FnG P w K mg base CX0 (3 + 1) f fd ["switches", "value"] (spW K .S 2 (gBody .S 2 g_is_choice)) :=
  fnG_body (m := .S) (g := g_is_choice) (N := ["switches", "value"]) F c_is_choice fun cdv A outer s H E hr hgd => (ess_cons (es_expr (EW.toB (ew_callD d1_check_switches hr hgd (by omega) rfl (ea_cons (ew_v 0) ea_nil))))
  (ess_one (es_ret (fun e => nomatch e) (ew_call f_is_choice_of hr hgd (by omega) rfl (ea_cons (ew_v 0) (ea_cons (ew_v 1) ea_nil))))))
def fn_is_choice : Fn := gBody .S 2 g_is_choice
theorem w_is_choice {f : Addr} {fd : FuncData} (F : Fun K "is_choice" "is_choice" s_is_choice f fd) (hm : mg "is_choice" = some (.ref f)) (hb : Binds K fd ["switches", "value"] []) (f_is_choice_of : FnW P w K mg base 1 "is_choice_of" ["switches", "value"] .S fn_is_choice_of) (d1_check_switches : FnD P w K mg base 3 "check_switches" 1 [.int 1] .S fn_check_switches) : FnW P w K mg base 4 "is_choice" ["switches", "value"] .S fn_is_choice :=
  ⟨mono_gBody, f, fd, hm, F.kp, hb, b_is_choice F f_is_choice_of d1_check_switches⟩
/-! is_open_of -/
abbrev s_is_open_of : Stmt := topS 24
theorem c_is_open_of : FnScope ["switches", "value", "one"] ["switches", "value"] (defScope s_is_open_of) := ⟨rfl, rfl, rfl, by decide +kernel, rfl, by decide +kernel, by decide +kernel⟩
def g_is_open_of : Ev → W Rs := (wSeq (wIf (wOr (wNot (wT (wU (isiD .tuple) (wVb 1)))) (wT (wB neD (wU lenD (wVb 1)) (wVb 0)))) (wRet (wC (.bool false))) wSkip)
  (wRet (wU allD (wLc [2] (wItems (wV 1)) (stN 2) wYes (wOrV (wB (isNonD false) (wVb 2) (wC .none)) (wU (isiD .bool) (wVb 2)))))))
theorem b_is_open_of {f : Addr} {fd : FuncData} (F : Fun K "is_open_of" "is_open_of" s_is_open_of f fd) (n_len : mg "len" = none) (n_isinstance : mg "isinstance" = none) (n_tuple : mg "tuple" = none) (n_bool : mg "bool" = none) (n_all : mg "all" = none) : FnG P w K mg base CX0 (0 + 1) f fd ["switches", "value"] (spW K .S 2 (gBody .S 3 g_is_open_of)) :=
  fnG_body (m := .S) (g := g_is_open_of) (N := ["switches", "value", "one"]) F c_is_open_of fun cdv A outer s H E hr hgd => (ess_cons (es_if (eb_or (eb_not (eb_val (EW.toB (ew_isi .tuple rfl n_isinstance rfl n_tuple (by decide +kernel) (ew_vb 1))))) (ebw_or1 (eb_ne hr.units (EW.toB (ew_len rfl n_len (ew_vb 1))) (ew_vb 0)))) (ess_one (es_ret (fun e => nomatch e) ew_bl)) ess_nil)
  (ess_one (es_ret (fun e => nomatch e) (ew_all rfl n_all (EW.toB (ew_lc (own := [("one", 2)]) rfl c_is_open_of.nd (ei_seq (ew_v 1)) (blkOk_by (by rfl)) (fun _ _ _ _ _ => (eg_name (i := 2) c_is_open_of.nd rfl (by first | exact Or.inl rfl | exact Or.inr rfl))) (fun _ _ _ _ _ => ec_nil) (fun _ _ _ _ _ => (ew_or (ew_isN (ew_vb 2)) (ew_one (ew_isi .bool rfl n_isinstance rfl n_bool (by decide +kernel) (ew_vb 2)))))))))))
def fn_is_open_of : Fn := gBody .S 3 g_is_open_of
theorem w_is_open_of {f : Addr} {fd : FuncData} (F : Fun K "is_open_of" "is_open_of" s_is_open_of f fd) (hm : mg "is_open_of" = some (.ref f)) (hb : Binds K fd ["switches", "value"] []) (n_len : mg "len" = none) (n_isinstance : mg "isinstance" = none) (n_tuple : mg "tuple" = none) (n_bool : mg "bool" = none) (n_all : mg "all" = none) : FnW P w K mg base 1 "is_open_of" ["switches", "value"] .S fn_is_open_of :=
  ⟨mono_gBody, f, fd, hm, F.kp, hb, b_is_open_of F n_len n_isinstance n_tuple n_bool n_all⟩
/-! is_open -/
abbrev s_is_open : Stmt := topS 26
theorem c_is_open : FnScope ["switches", "value"] ["switches", "value"] (defScope s_is_open) := ⟨rfl, rfl, rfl, by decide +kernel, rfl, by decide +kernel, by decide +kernel⟩
def g_is_open : Ev → W Rs := (wSeq (wDrop (wCallD 1 [.int 1] fn_check_switches (wCons (wV 0) wNil)))
  (wRet (wCall 2 fn_is_open_of (wCons (wV 0) (wCons (wV 1) wNil)))))
theorem b_is_open {f : Addr} {fd : FuncData} (F : Fun K "is_open" "is_open" s_is_open f fd) (f_is_open_of : FnW P w K mg base 1 "is_open_of" ["switches", "value"] .S fn_is_open_of) (d1_check_switches : FnD P w K mg base 3 "check_switches" 1 [.int 1] .S fn_check_switches) : FnG P w K mg base CX0 (3 + 1) f fd ["switches", "value"] (spW K .S 2 (gBody .S 2 g_is_open)) :=
  fnG_body (m := .S) (g := g_is_open) (N := ["switches", "value"]) F c_is_open fun cdv A outer s H E hr hgd => (ess_cons (es_expr (EW.toB (ew_callD d1_check_switches hr hgd (by omega) rfl (ea_cons (ew_v 0) ea_nil))))
  (ess_one (es_ret (fun e => nomatch e) (ew_call f_is_open_of hr hgd (by omega) rfl (ea_cons (ew_v 0) (ea_cons (ew_v 1) ea_nil))))))
def fn_is_open : Fn := gBody .S 2 g_is_open
theorem w_is_open {f : Addr} {fd : FuncData} (F : Fun K "is_open" "is_open" s_is_open f fd) (hm : mg "is_open" = some (.ref f)) (hb : Binds K fd ["switches", "value"] []) (f_is_open_of : FnW P w K mg base 1 "is_open_of" ["switches", "value"] .S fn_is_open_of) (d1_check_switches : FnD P w K mg base 3 "check_switches" 1 [.int 1] .S fn_check_switches) : FnW P w K mg base 4 "is_open" ["switches", "value"] .S fn_is_open :=
  ⟨mono_gBody, f, fd, hm, F.kp, hb, b_is_open F f_is_open_of d1_check_switches⟩
/-! _law_choices_right -/
abbrev s_law_choices_right : Stmt := topS 41
theorem c_law_choices_right : FnScope ["pot", "switches", "choice", "at", "values", "odd", "value", "due", "told", "named", "some"] ["pot", "switches"] (defScope s_law_choices_right) := ⟨rfl, rfl, rfl, by decide +kernel, rfl, by decide +kernel, by decide +kernel⟩
def g_law_choices_right : Ev → W Rs := (wSeq (wSet 2 (wCall 2 fn_law_choice (wCons (wV 0) (wCons (wV 1) wNil))))
  (wSeq (wSet 3 (wCall 2 drawF (wCons (wV 0) (wCons (wV 1) wNil))))
  (wSeq (wSetF 4 (wLst (wCons (wV 2) (wCons (wU listD (wVb 2)) (wCons (wSl (wVb 2) (wPart (wC (.int 1))) wNo) (wCons (wB addAD (wVb 2) (wTup (wCons (wC (.bool true)) wNil))) (wCons (wC .none) (wCons (wTup wNil) (wCons (wC (.int 0)) (wCons (wC (.str "")) (wCons (wC (.dict [])) (wCons (wTup (wCons (wV 2) wNil)) (wCons (wB mulAD (wTup (wCons (wC .none) wNil)) (wVb 1)) wNil)))))))))))))
  (wSeq (wFor (wItems (wLst (wCons (wC .none) (wCons (wC (.int 0)) (wCons (wC (.int 1)) (wCons (wC (.str "True")) (wCons (wTup (wCons (wC (.bool true)) wNil)) (wCons (wLst wNil) (wCons (wNotV (wB ixD (wVb 2) (wVb 3))) (wCons (wC (.int 2)) wNil)))))))))) (stN 5) (wApp 4 (wB addAD (wB addAD (wSl (wVb 2) wNo (wPart (wVb 3))) (wTup (wCons (wV 5) wNil))) (wSl (wVb 2) (wPart (wB addAD (wVb 3) (wC (.int 1)))) wNo))))
  (wSeq (wFrz [4] (wFor (wItems (wV 4)) (stN 6) (wSeq (wSetF 7 (wLc [10] (wItems (wTup (wCons (wLst (wCons (wC (.str "True")) (wCons (wC (.str "False")) wNil))) (wCons (wLst (wCons (wC (.str "True")) (wCons (wC (.str "False")) (wCons (wC (.str "None")) wNil)))) wNil)))) (stN 10) wYes (wCall 3 fn_law_are_bools (wCons (wV 1) (wCons (wV 6) (wCons (wV 10) wNil))))))
  (wSeq (wSet 8 (wLst (wCons (wCall 2 fn_is_choice (wCons (wV 1) (wCons (wV 6) wNil))) (wCons (wCall 2 fn_is_open (wCons (wV 1) (wCons (wV 6) wNil))) wNil))))
  (wSeq (wSet 9 (wLst (wCons (wCallK 0 2 [1, 0] fn_is_choice wNil (wCons (wV 6) (wCons (wV 1) wNil))) (wCons (wCallK 0 2 [1, 0] fn_is_open wNil (wCons (wV 6) (wCons (wV 1) wNil))) wNil))))
  (wFrz [7] (wIf (wT (wB neD (wU reprD (wLst (wCons (wV 8) (wCons (wV 9) wNil)))) (wU reprD (wLst (wCons (wV 7) (wCons (wV 7) wNil)))))) (wRet (wC (.bool false))) wSkip)))))))
  (wRet (wC (.bool true))))))))
theorem b_law_choices_right {f : Addr} {fd : FuncData} (F : Fun K "_law_choices_right" "_law_choices_right" s_law_choices_right f fd) (n_list : mg "list" = none) (n_repr : mg "repr" = none) (f_law_choice : FnW P w K mg base 2 "_law_choice" ["pot", "switches"] .S fn_law_choice) (f_law_draw : FnW P w K mg base 1 "_law_draw" ["pot", "many"] .S drawF) (f_law_are_bools : FnW P w K mg base 1 "_law_are_bools" ["switches", "value", "some"] .S fn_law_are_bools) (f_is_choice : FnW P w K mg base 4 "is_choice" ["switches", "value"] .S fn_is_choice) (f_is_open : FnW P w K mg base 4 "is_open" ["switches", "value"] .S fn_is_open) (k0_is_choice : FnK P w K mg base 4 "is_choice" ["value", "switches"] 0 [1, 0] .S fn_is_choice) (k1_is_open : FnK P w K mg base 4 "is_open" ["value", "switches"] 0 [1, 0] .S fn_is_open) : FnG P w K mg base CX0 (4 + 1) f fd ["pot", "switches"] (spW K .S 2 (gBody .S 11 g_law_choices_right)) :=
  fnG_body (m := .S) (g := g_law_choices_right) (N := ["pot", "switches", "choice", "at", "values", "odd", "value", "due", "told", "named", "some"]) F c_law_choices_right fun cdv A outer s H E hr hgd => (ess_cons (es_set (i := 2) c_law_choices_right.nd rfl (by first | exact Or.inl rfl | exact Or.inr rfl) (ew_call f_law_choice hr hgd (by omega) rfl (ea_cons (ew_v 0) (ea_cons (ew_v 1) ea_nil))))
  (ess_cons (es_set (i := 3) c_law_choices_right.nd rfl (by first | exact Or.inl rfl | exact Or.inr rfl) (ew_call f_law_draw hr hgd (by omega) rfl (ea_cons (ew_v 0) (ea_cons (ew_v 1) ea_nil))))
  (ess_cons (es_setF (i := 4) c_law_choices_right.nd rfl (by first | exact Or.inl rfl | exact Or.inr rfl) (ew_lst (ea_cons (ew_v 2) (ea_cons (EW.FS (ew_list rfl n_list (ew_vb 2))) (ea_cons (ew_slice (ew_vb 2) (eo_some (EW.toB ew_int)) eo_none) (ea_cons (ew_addA (ew_vb 2) (EW.toB (ew_tup (ea_cons ew_bl ea_nil)))) (ea_cons ew_non (ea_cons (ew_tup ea_nil) (ea_cons ew_int (ea_cons ew_str (ea_cons ew_dnew (ea_cons (ew_tup (ea_cons (ew_v 2) ea_nil)) (ea_cons (ew_mulA (EW.toB (ew_tup (ea_cons ew_non ea_nil))) (ew_vb 1)) ea_nil)))))))))))))
  (ess_cons (es_for PassesOwn.never rfl (ei_seq (EW.FS (ew_lst (ea_cons ew_non (ea_cons ew_int (ea_cons ew_int (ea_cons ew_str (ea_cons (ew_tup (ea_cons ew_bl ea_nil)) (ea_cons (EW.FS (ew_lst ea_nil)) (ea_cons (ew_not (ew_at (ew_vb 2) (ew_vb 3))) (ea_cons ew_int ea_nil))))))))))) (eg_name (i := 5) c_law_choices_right.nd rfl (by first | exact Or.inl rfl | exact Or.inr rfl)) (ess_one (es_append 4 (ew_addA (EW.toB (ew_addA (EW.toB (ew_slice (ew_vb 2) eo_none (eo_some (ew_vb 3)))) (EW.toB (ew_tup (ea_cons (ew_v 5) ea_nil))))) (EW.toB (ew_slice (ew_vb 2) (eo_some (EW.toB (ew_addA (ew_vb 3) (EW.toB ew_int)))) eo_none))) (fun h => pe_bm PySem.F.plainAttrs_list PySem.F.slot_list_append PySem.F.type_list_append mt_append (pv 4) (pa_cons h pa_nil)))))
  (ess_cons (es_frz [4] (es_for PassesOwn.never rfl (ei_seq (ew_v 4)) (eg_name (i := 6) c_law_choices_right.nd rfl (by first | exact Or.inl rfl | exact Or.inr rfl)) (ess_cons (es_setLc (i := 7) (own := [("some", 10)]) rfl c_law_choices_right.nd rfl rfl (L2.sw_true rfl rfl rfl (by decide +kernel)) (ei_seq (ew_tup (ea_cons (EW.FS (ew_lst (ea_cons ew_str (ea_cons ew_str ea_nil)))) (ea_cons (EW.FS (ew_lst (ea_cons ew_str (ea_cons ew_str (ea_cons ew_str ea_nil))))) ea_nil)))) (blkOk_by (by rfl)) (fun _ _ _ _ _ => (eg_name (i := 10) c_law_choices_right.nd rfl (by first | exact Or.inl rfl | exact Or.inr rfl))) (fun _ _ _ _ _ => ec_nil) (fun _ _ _ _ _ => (ew_call f_law_are_bools hr hgd (by omega) rfl (ea_cons (ew_v 1) (ea_cons (ew_v 6) (ea_cons (ew_v 10) ea_nil))))))
  (ess_cons (es_set (i := 8) c_law_choices_right.nd rfl (by first | exact Or.inl rfl | exact Or.inr rfl) (EW.FS (ew_lst (ea_cons (ew_call f_is_choice hr hgd (by omega) rfl (ea_cons (ew_v 1) (ea_cons (ew_v 6) ea_nil))) (ea_cons (ew_call f_is_open hr hgd (by omega) rfl (ea_cons (ew_v 1) (ea_cons (ew_v 6) ea_nil))) ea_nil)))))
  (ess_cons (es_set (i := 9) c_law_choices_right.nd rfl (by first | exact Or.inl rfl | exact Or.inr rfl) (EW.FS (ew_lst (ea_cons (ew_callK0 k0_is_choice hr hgd (by omega) rfl (ek_cons (ew_v 6) (ek_cons (ew_v 1) ek_nil))) (ea_cons (ew_callK0 k1_is_open hr hgd (by omega) rfl (ek_cons (ew_v 6) (ek_cons (ew_v 1) ek_nil))) ea_nil)))))
  (ess_one (es_frz [7] (es_if (eb_ne hr.units (EW.toB (ew_repr hgd hr.units rfl n_repr (EW.toB (ew_lst (ea_cons (ew_v 8) (ea_cons (ew_v 9) ea_nil)))))) (EW.toB (ew_repr hgd hr.units rfl n_repr (EW.toB (ew_lst (ea_cons (ew_v 7) (ea_cons (ew_v 7) ea_nil))))))) (ess_one (es_ret (fun e => nomatch e) ew_bl)) ess_nil))))))))
  (ess_one (es_ret (fun e => nomatch e) ew_bl)))))))
def fn_law_choices_right : Fn := gBody .S 11 g_law_choices_right
theorem w_law_choices_right {f : Addr} {fd : FuncData} (F : Fun K "_law_choices_right" "_law_choices_right" s_law_choices_right f fd) (hm : mg "_law_choices_right" = some (.ref f)) (hb : Binds K fd ["pot", "switches"] []) (n_list : mg "list" = none) (n_repr : mg "repr" = none) (f_law_choice : FnW P w K mg base 2 "_law_choice" ["pot", "switches"] .S fn_law_choice) (f_law_draw : FnW P w K mg base 1 "_law_draw" ["pot", "many"] .S drawF) (f_law_are_bools : FnW P w K mg base 1 "_law_are_bools" ["switches", "value", "some"] .S fn_law_are_bools) (f_is_choice : FnW P w K mg base 4 "is_choice" ["switches", "value"] .S fn_is_choice) (f_is_open : FnW P w K mg base 4 "is_open" ["switches", "value"] .S fn_is_open) (k0_is_choice : FnK P w K mg base 4 "is_choice" ["value", "switches"] 0 [1, 0] .S fn_is_choice) (k1_is_open : FnK P w K mg base 4 "is_open" ["value", "switches"] 0 [1, 0] .S fn_is_open) : FnW P w K mg base 5 "_law_choices_right" ["pot", "switches"] .S fn_law_choices_right :=
  ⟨mono_gBody, f, fd, hm, F.kp, hb, b_law_choices_right F n_list n_repr f_law_choice f_law_draw f_law_are_bools f_is_choice f_is_open k0_is_choice k1_is_open⟩
/-! _law_is_whole -/
abbrev s_law_is_whole : Stmt := topS 35
theorem c_law_is_whole : FnScope ["value", "least", "most"] ["value", "least", "most"] (defScope s_law_is_whole) := ⟨rfl, rfl, rfl, by decide +kernel, rfl, by decide +kernel, by decide +kernel⟩
def g_law_is_whole : Ev → W Rs := (wRet (wAndV (wU (isiD .int) (wVb 0)) (wAndV (wNotV (wU (isiD .bool) (wVb 0))) (wChain leI leI (wVb 1) (wVb 0) (wVb 2)))))
theorem b_law_is_whole {f : Addr} {fd : FuncData} (F : Fun K "_law_is_whole" "_law_is_whole" s_law_is_whole f fd) (n_isinstance : mg "isinstance" = none) (n_bool : mg "bool" = none) (n_int : mg "int" = none) : FnG P w K mg base CX0 (0 + 1) f fd ["value", "least", "most"] (spW K .S 3 (gBody .S 3 g_law_is_whole)) :=
  fnG_body (m := .S) (g := g_law_is_whole) (N := ["value", "least", "most"]) F c_law_is_whole fun cdv A outer s H E hr hgd => (ess_one (es_ret (fun e => nomatch e) (ew_and (ew_isi .int rfl n_isinstance rfl n_int (by decide +kernel) (ew_vb 0)) (ew_and (ew_not (ew_isi .bool rfl n_isinstance rfl n_bool (by decide +kernel) (ew_vb 0))) (ew_one (ew_lele (ew_vb 1) (ew_vb 0) (ew_vb 2)))))))
def fn_law_is_whole : Fn := gBody .S 3 g_law_is_whole
theorem w_law_is_whole {f : Addr} {fd : FuncData} (F : Fun K "_law_is_whole" "_law_is_whole" s_law_is_whole f fd) (hm : mg "_law_is_whole" = some (.ref f)) (hb : Binds K fd ["value", "least", "most"] []) (n_isinstance : mg "isinstance" = none) (n_bool : mg "bool" = none) (n_int : mg "int" = none) : FnW P w K mg base 1 "_law_is_whole" ["value", "least", "most"] .S fn_law_is_whole :=
  ⟨mono_gBody, f, fd, hm, F.kp, hb, b_law_is_whole F n_isinstance n_bool n_int⟩
/-! _law_look -/
abbrev s_law_look : Stmt := topS 34
theorem c_law_look : FnScope ["switches", "value", "word", "parts", "least", "most", "rows", "part", "row"] ["switches", "value"] (defScope s_law_look) := ⟨rfl, rfl, rfl, by decide +kernel, rfl, by decide +kernel, by decide +kernel⟩
def g_law_look (self : Fn) : Ev → W Rs := (wSeq (wIf (wOr (wNot (wT (wU (isiD .tuple) (wVb 1)))) (wOr (wT (wB eqD (wU lenD (wVb 1)) (wC (.int 0)))) (wNot (wT (wU (isiD .str) (wB ixD (wVb 1) (wC (.int 0)))))))) (wRet (wTup (wCons (wC (.bool false)) (wCons (wC (.int 1)) (wCons (wC (.int 1)) wNil))))) wSkip)
  (wSeq (wPar 2 3 (wCons (wB ixD (wVb 1) (wC (.int 0))) (wCons (wU listD (wSl (wVb 1) (wPart (wC (.int 1))) wNo)) wNil)))
  (wSeq (wIf (wT (wB (inD false) (wVb 2) (wTup (wCons (wC (.str "yes")) (wCons (wC (.str "no")) wNil))))) (wRet (wTup (wCons (wB eqD (wVb 3) (wLst wNil)) (wCons (wC (.int 1)) (wCons (wC (.int 1)) wNil))))) wSkip)
  (wSeq (wIf (wT (wB eqD (wVb 2) (wC (.str "on")))) (wRet (wTup (wCons (wAndV (wB eqD (wU lenD (wVb 3)) (wC (.int 1))) (wCall 3 fn_law_is_whole (wCons (wB ixD (wVb 3) (wC (.int 0))) (wCons (wC (.int 0)) (wCons (wB subD (wVb 0) (wC (.int 1))) wNil))))) (wCons (wC (.int 1)) (wCons (wC (.int 1)) wNil))))) wSkip)
  (wSeq (wAsg (stT [4, 5]) (wTup (wCons (wC (.int 2)) (wCons (wC (.int 8)) wNil))))
  (wSeq (wIf (wT (wB eqD (wVb 2) (wC (.str "not")))) (wAsg (stT [4, 5]) (wTup (wCons (wC (.int 1)) (wCons (wC (.int 1)) wNil)))) (wIf (wT (wB (inD false) (wVb 2) (wTup (wCons (wC (.str "then")) (wCons (wC (.str "same")) wNil))))) (wSet 5 (wC (.int 2))) (wIf (wT (wB eqD (wVb 2) (wC (.str "most")))) (wSeq (wIf (wOr (wT (wB eqD (wVb 3) (wLst wNil))) (wNot (wT (wCall 3 fn_law_is_whole (wCons (wB ixD (wVb 3) (wC (.int 0))) (wCons (wC (.int 0)) (wCons (wC (.int 7)) wNil))))))) (wRet (wTup (wCons (wC (.bool false)) (wCons (wC (.int 1)) (wCons (wC (.int 1)) wNil))))) wSkip)
  (wSet 3 (wSl (wVb 3) (wPart (wC (.int 1))) wNo))) (wIf (wT (wB (inD true) (wVb 2) (wTup (wCons (wC (.str "and")) (wCons (wC (.str "or")) (wCons (wC (.str "one")) wNil)))))) (wRet (wTup (wCons (wC (.bool false)) (wCons (wC (.int 1)) (wCons (wC (.int 1)) wNil))))) wSkip))))
  (wSeq (wIf (wNot (wT (wChain leI leI (wVb 4) (wU lenD (wVb 3)) (wVb 5)))) (wRet (wTup (wCons (wC (.bool false)) (wCons (wC (.int 1)) (wCons (wC (.int 1)) wNil))))) wSkip)
  (wSeq (wSetF 6 (wLc [7] (wItems (wV 3)) (stN 7) wYes (wCall 2 self (wCons (wV 0) (wCons (wV 7) wNil)))))
  (wFrz [6] (wRet (wTup (wCons (wU allD (wLc [8] (wItems (wV 6)) (stN 8) wYes (wB ixD (wVb 8) (wC (.int 0))))) (wCons (wB addAD (wC (.int 1)) (wU sumD (wLc [8] (wItems (wV 6)) (stN 8) wYes (wB ixD (wVb 8) (wC (.int 1)))))) (wCons (wB addAD (wC (.int 1)) (wU maxD (wLc [8] (wItems (wV 6)) (stN 8) wYes (wB ixD (wVb 8) (wC (.int 2)))))) wNil))))))))))))))
theorem b_law_look {f : Addr} {fd : FuncData} (F : Fun K "_law_look" "_law_look" s_law_look f fd) (n : Nat) {self : Fn} (n_isinstance : mg "isinstance" = none) (n_str : mg "str" = none) (n_len : mg "len" = none) (n_tuple : mg "tuple" = none) (n_list : mg "list" = none) (n_all : mg "all" = none) (n_sum : mg "sum" = none) (n_max : mg "max" = none) (f_law_is_whole : FnW P w K mg base 1 "_law_is_whole" ["value", "least", "most"] .S fn_law_is_whole) (f_self : FnW P w K mg base (1 + n) "_law_look" ["switches", "value"] .S self) : FnG P w K mg base CX0 (1 + n + 1) f fd ["switches", "value"] (spW K .S 2 (gBody .S 9 (g_law_look self))) :=
  fnG_body (m := .S) (g := (g_law_look self)) (N := ["switches", "value", "word", "parts", "least", "most", "rows", "part", "row"]) F c_law_look fun cdv A outer s H E hr hgd => (ess_cons (es_if (eb_or (eb_not (eb_val (EW.toB (ew_isi .tuple rfl n_isinstance rfl n_tuple (by decide +kernel) (ew_vb 1))))) (ebw_or (eb_eq hr.units (EW.toB (ew_len rfl n_len (ew_vb 1))) (EW.toB ew_int)) (ebw_or1 (eb_not (eb_val (EW.toB (ew_isi .str rfl n_isinstance rfl n_str (by decide +kernel) (EW.toB (ew_at (ew_vb 1) (EW.toB ew_int)))))))))) (ess_one (es_ret (fun e => nomatch e) (ew_tup (ea_cons ew_bl (ea_cons ew_int (ea_cons ew_int ea_nil)))))) ess_nil)
  (ess_cons (es_par (i := 2) (j := 3) rfl c_law_look.nd rfl rfl (by decide) (ea_cons (ew_at (ew_vb 1) (EW.toB ew_int)) (ea_cons (EW.FS (ew_list rfl n_list (EW.toB (ew_slice (ew_vb 1) (eo_some (EW.toB ew_int)) eo_none)))) ea_nil)) (fun h => ps_par rfl c_law_look.nd rfl rfl (by decide) rfl rfl h rfl))
  (ess_cons (es_if (eb_in (ew_vb 2) (EW.toB (ew_tup (ea_cons ew_str (ea_cons ew_str ea_nil))))) (ess_one (es_ret (fun e => nomatch e) (ew_tup (ea_cons (ew_eq hr.units (ew_vb 3) (EW.toB (ew_lst ea_nil))) (ea_cons ew_int (ea_cons ew_int ea_nil)))))) ess_nil)
  (ess_cons (es_if (eb_eq hr.units (ew_vb 2) (EW.toB ew_str)) (ess_one (es_ret (fun e => nomatch e) (ew_tup (ea_cons (ew_and (ew_eq hr.units (EW.toB (ew_len rfl n_len (ew_vb 3))) (EW.toB ew_int)) (ew_one (ew_call f_law_is_whole hr hgd (by omega) rfl (ea_cons (ew_at (ew_vb 3) (EW.toB ew_int)) (ea_cons ew_int (ea_cons (ew_sub (ew_vb 0) (EW.toB ew_int)) ea_nil)))))) (ea_cons ew_int (ea_cons ew_int ea_nil)))))) ess_nil)
  (ess_cons (es_asg (ew_tup (ea_cons ew_int (ea_cons ew_int ea_nil))) (eg_tup rfl (egs_cons (eg_name (i := 4) c_law_look.nd rfl (by first | exact Or.inl rfl | exact Or.inr rfl)) (egs_cons (eg_name (i := 5) c_law_look.nd rfl (by first | exact Or.inl rfl | exact Or.inr rfl)) egs_nil))))
  (ess_cons (es_if (eb_eq hr.units (ew_vb 2) (EW.toB ew_str)) (ess_one (es_asg (ew_tup (ea_cons ew_int (ea_cons ew_int ea_nil))) (eg_tup rfl (egs_cons (eg_name (i := 4) c_law_look.nd rfl (by first | exact Or.inl rfl | exact Or.inr rfl)) (egs_cons (eg_name (i := 5) c_law_look.nd rfl (by first | exact Or.inl rfl | exact Or.inr rfl)) egs_nil))))) (ess_one (es_if (eb_in (ew_vb 2) (EW.toB (ew_tup (ea_cons ew_str (ea_cons ew_str ea_nil))))) (ess_one (es_set (i := 5) c_law_look.nd rfl (by first | exact Or.inl rfl | exact Or.inr rfl) ew_int)) (ess_one (es_if (eb_eq hr.units (ew_vb 2) (EW.toB ew_str)) (ess_cons (es_if (eb_or (eb_eq hr.units (ew_vb 3) (EW.toB (ew_lst ea_nil))) (ebw_or1 (eb_not (eb_val (EW.toB (ew_call f_law_is_whole hr hgd (by omega) rfl (ea_cons (ew_at (ew_vb 3) (EW.toB ew_int)) (ea_cons ew_int (ea_cons ew_int ea_nil))))))))) (ess_one (es_ret (fun e => nomatch e) (ew_tup (ea_cons ew_bl (ea_cons ew_int (ea_cons ew_int ea_nil)))))) ess_nil)
  (ess_one (es_set (i := 3) c_law_look.nd rfl (by first | exact Or.inl rfl | exact Or.inr rfl) (ew_slice (ew_vb 3) (eo_some (EW.toB ew_int)) eo_none)))) (ess_one (es_if (eb_notIn (ew_vb 2) (EW.toB (ew_tup (ea_cons ew_str (ea_cons ew_str (ea_cons ew_str ea_nil)))))) (ess_one (es_ret (fun e => nomatch e) (ew_tup (ea_cons ew_bl (ea_cons ew_int (ea_cons ew_int ea_nil)))))) ess_nil)))))))
  (ess_cons (es_if (eb_not (eb_lele (ew_vb 4) (EW.toB (ew_len rfl n_len (ew_vb 3))) (ew_vb 5))) (ess_one (es_ret (fun e => nomatch e) (ew_tup (ea_cons ew_bl (ea_cons ew_int (ea_cons ew_int ea_nil)))))) ess_nil)
  (ess_cons (es_setLc (i := 6) (own := [("part", 7)]) rfl c_law_look.nd rfl rfl (L2.sw_true rfl rfl rfl (by decide +kernel)) (ei_seq (ew_v 3)) (blkOk_by (by rfl)) (fun _ _ _ _ _ => (eg_name (i := 7) c_law_look.nd rfl (by first | exact Or.inl rfl | exact Or.inr rfl))) (fun _ _ _ _ _ => ec_nil) (fun _ _ _ _ _ => (ew_call f_self hr hgd (by omega) rfl (ea_cons (ew_v 0) (ea_cons (ew_v 7) ea_nil)))))
  (ess_one (es_frz [6] (es_ret (fun e => nomatch e) (ew_tup (ea_cons (ew_all rfl n_all (EW.toB (ew_lc (own := [("row", 8)]) rfl c_law_look.nd (ei_seq (ew_v 6)) (blkOk_by (by rfl)) (fun _ _ _ _ _ => (eg_name (i := 8) c_law_look.nd rfl (by first | exact Or.inl rfl | exact Or.inr rfl))) (fun _ _ _ _ _ => ec_nil) (fun _ _ _ _ _ => (ew_at (ew_vb 8) (EW.toB ew_int)))))) (ea_cons (ew_addA (EW.toB ew_int) (EW.toB (ew_sum rfl n_sum (EW.toB (ew_lc (own := [("row", 8)]) rfl c_law_look.nd (ei_seq (ew_v 6)) (blkOk_by (by rfl)) (fun _ _ _ _ _ => (eg_name (i := 8) c_law_look.nd rfl (by first | exact Or.inl rfl | exact Or.inr rfl))) (fun _ _ _ _ _ => ec_nil) (fun _ _ _ _ _ => (ew_at (ew_vb 8) (EW.toB ew_int)))))))) (ea_cons (ew_addA (EW.toB ew_int) (EW.toB (ew_max1 rfl n_max (EW.toB (ew_lc (own := [("row", 8)]) rfl c_law_look.nd (ei_seq (ew_v 6)) (blkOk_by (by rfl)) (fun _ _ _ _ _ => (eg_name (i := 8) c_law_look.nd rfl (by first | exact Or.inl rfl | exact Or.inr rfl))) (fun _ _ _ _ _ => ec_nil) (fun _ _ _ _ _ => (ew_at (ew_vb 8) (EW.toB ew_int)))))))) ea_nil)))))))))))))))
def fn_law_look : Nat → Fn
  | 0 => fun _ _ => False
  | n + 1 => gBody .S 9 (g_law_look (fn_law_look n))
theorem w_law_look {f : Addr} {fd : FuncData} (F : Fun K "_law_look" "_law_look" s_law_look f fd) (hm : mg "_law_look" = some (.ref f)) (hb : Binds K fd ["switches", "value"] []) (n_isinstance : mg "isinstance" = none) (n_str : mg "str" = none) (n_len : mg "len" = none) (n_tuple : mg "tuple" = none) (n_list : mg "list" = none) (n_all : mg "all" = none) (n_sum : mg "sum" = none) (n_max : mg "max" = none) (f_law_is_whole : FnW P w K mg base 1 "_law_is_whole" ["value", "least", "most"] .S fn_law_is_whole) : ∀ n : Nat, FnW P w K mg base (1 + n) "_law_look" ["switches", "value"] .S (fn_law_look n)
  | 0 => ⟨fun _ _ _ _ q => q.elim, f, fd, hm, F.kp, hb, vac_fnG⟩
  | n + 1 => by
    have ih := w_law_look F hm hb n_isinstance n_str n_len n_tuple n_list n_all n_sum n_max f_law_is_whole n
    exact ⟨mono_gBody, f, fd, hm, F.kp, hb, b_law_look F n n_isinstance n_str n_len n_tuple n_list n_all n_sum n_max f_law_is_whole ih⟩
/-! _law_is_formula -/
abbrev s_law_is_formula : Stmt := topS 36
theorem c_law_is_formula : FnScope ["switches", "value", "is_one", "many", "deep"] ["switches", "value"] (defScope s_law_is_formula) := ⟨rfl, rfl, rfl, by decide +kernel, rfl, by decide +kernel, by decide +kernel⟩
def g_law_is_formula : Ev → W Rs := (wSeq (wAsg (stT [2, 3, 4]) (wCall 2 (fn_law_look 16) (wCons (wV 0) (wCons (wV 1) wNil))))
  (wRet (wAndV (wV 2) (wAndV (wB leI (wVb 3) (wC (.int 60))) (wB leI (wVb 4) (wC (.int 8)))))))
theorem b_law_is_formula {f : Addr} {fd : FuncData} (F : Fun K "_law_is_formula" "_law_is_formula" s_law_is_formula f fd) (f_law_look : FnW P w K mg base 17 "_law_look" ["switches", "value"] .S (fn_law_look 16)) : FnG P w K mg base CX0 (17 + 1) f fd ["switches", "value"] (spW K .S 2 (gBody .S 5 g_law_is_formula)) :=
  fnG_body (m := .S) (g := g_law_is_formula) (N := ["switches", "value", "is_one", "many", "deep"]) F c_law_is_formula fun cdv A outer s H E hr hgd => (ess_cons (es_asg (ew_call f_law_look hr hgd (by omega) rfl (ea_cons (ew_v 0) (ea_cons (ew_v 1) ea_nil))) (eg_tup rfl (egs_cons (eg_name (i := 2) c_law_is_formula.nd rfl (by first | exact Or.inl rfl | exact Or.inr rfl)) (egs_cons (eg_name (i := 3) c_law_is_formula.nd rfl (by first | exact Or.inl rfl | exact Or.inr rfl)) (egs_cons (eg_name (i := 4) c_law_is_formula.nd rfl (by first | exact Or.inl rfl | exact Or.inr rfl)) egs_nil)))))
  (ess_one (es_ret (fun e => nomatch e) (ew_and (ew_v 2) (ew_and (ew_le (ew_vb 3) (EW.toB ew_int)) (ew_one (ew_le (ew_vb 4) (EW.toB ew_int))))))))
def fn_law_is_formula : Fn := gBody .S 5 g_law_is_formula
theorem w_law_is_formula {f : Addr} {fd : FuncData} (F : Fun K "_law_is_formula" "_law_is_formula" s_law_is_formula f fd) (hm : mg "_law_is_formula" = some (.ref f)) (hb : Binds K fd ["switches", "value"] []) (f_law_look : FnW P w K mg base 17 "_law_look" ["switches", "value"] .S (fn_law_look 16)) : FnW P w K mg base 18 "_law_is_formula" ["switches", "value"] .S fn_law_is_formula :=
  ⟨mono_gBody, f, fd, hm, F.kp, hb, b_law_is_formula F f_law_look⟩
/-! is_switch -/
abbrev s_is_switch : Stmt := topS 8
theorem c_is_switch : FnScope ["switches", "value"] ["switches", "value"] (defScope s_is_switch) := ⟨rfl, rfl, rfl, by decide +kernel, rfl, by decide +kernel, by decide +kernel⟩
def g_is_switch : Ev → W Rs := (wRet (wCall 3 fn_is_within (wCons (wV 1) (wCons (wC (.int 0)) (wCons (wB subD (wVb 0) (wC (.int 1))) wNil)))))
theorem b_is_switch {f : Addr} {fd : FuncData} (F : Fun K "is_switch" "is_switch" s_is_switch f fd) (f_is_within : FnW P w K mg base 2 "is_within" ["value", "least", "most"] .S fn_is_within) : FnG P w K mg base CX0 (2 + 1) f fd ["switches", "value"] (spW K .S 2 (gBody .S 2 g_is_switch)) :=
  fnG_body (m := .S) (g := g_is_switch) (N := ["switches", "value"]) F c_is_switch fun cdv A outer s H E hr hgd => (ess_one (es_ret (fun e => nomatch e) (ew_call f_is_within hr hgd (by omega) rfl (ea_cons (ew_v 1) (ea_cons ew_int (ea_cons (ew_sub (ew_vb 0) (EW.toB ew_int)) ea_nil))))))
def fn_is_switch : Fn := gBody .S 2 g_is_switch
theorem w_is_switch {f : Addr} {fd : FuncData} (F : Fun K "is_switch" "is_switch" s_is_switch f fd) (hm : mg "is_switch" = some (.ref f)) (hb : Binds K fd ["switches", "value"] []) (f_is_within : FnW P w K mg base 2 "is_within" ["value", "least", "most"] .S fn_is_within) : FnW P w K mg base 3 "is_switch" ["switches", "value"] .S fn_is_switch :=
  ⟨mono_gBody, f, fd, hm, F.kp, hb, b_is_switch F f_is_within⟩
/-! has_form -/
abbrev s_has_form : Stmt := topS 17
theorem c_has_form : FnScope ["switches", "value", "word", "many"] ["switches", "value"] (defScope s_has_form) := ⟨rfl, rfl, rfl, by decide +kernel, rfl, by decide +kernel, by decide +kernel⟩
def g_has_form : Ev → W Rs := (wSeq (wPar 2 3 (wCons (wB ixD (wVb 1) (wC (.int 0))) (wCons (wB subD (wU lenD (wVb 1)) (wC (.int 1))) wNil)))
  (wSeq (wIf (wT (wB (inD false) (wVb 2) (wTup (wCons (wC (.str "yes")) (wCons (wC (.str "no")) wNil))))) (wRet (wB eqD (wVb 3) (wC (.int 0)))) wSkip)
  (wSeq (wIf (wT (wB eqD (wVb 2) (wC (.str "on")))) (wRet (wAndV (wB eqD (wVb 3) (wC (.int 1))) (wCall 2 fn_is_switch (wCons (wV 0) (wCons (wB ixD (wVb 1) (wC (.int 1))) wNil))))) wSkip)
  (wSeq (wIf (wT (wB eqD (wVb 2) (wC (.str "not")))) (wRet (wB eqD (wVb 3) (wC (.int 1)))) wSkip)
  (wSeq (wIf (wT (wB (inD false) (wVb 2) (wC (.tuple (List.map PyData.str (["then", "same"] : List Str)))))) (wRet (wB eqD (wVb 3) (wC (.int 2)))) wSkip)
  (wSeq (wIf (wT (wB eqD (wVb 2) (wC (.str "most")))) (wRet (wAndV (wChain leI leI (wC (.int 3)) (wVb 3) (wB addAD (wC (.int 8)) (wC (.int 1)))) (wCall 3 fn_is_within (wCons (wB ixD (wVb 1) (wC (.int 1))) (wCons (wC (.int 0)) (wCons (wC (.int 7)) wNil)))))) wSkip)
  (wRet (wAndV (wB (inD false) (wVb 2) (wC (.tuple (List.map PyData.str (["and", "or", "one"] : List Str))))) (wChain leI leI (wC (.int 2)) (wVb 3) (wC (.int 8)))))))))))
theorem b_has_form {f : Addr} {fd : FuncData} (F : Fun K "has_form" "has_form" s_has_form f fd) (n_len : mg "len" = none) (q_PAIRED : GC K mg "PAIRED" (.tuple (List.map PyData.str (["then", "same"] : List Str)))) (q_MOST_NUMBER : GC K mg "MOST_NUMBER" (.int 7)) (q_MOST_PARTS : GC K mg "MOST_PARTS" (.int 8)) (q_LISTED : GC K mg "LISTED" (.tuple (List.map PyData.str (["and", "or", "one"] : List Str)))) (f_is_switch : FnW P w K mg base 3 "is_switch" ["switches", "value"] .S fn_is_switch) (f_is_within : FnW P w K mg base 2 "is_within" ["value", "least", "most"] .S fn_is_within) : FnG P w K mg base CX0 (3 + 1) f fd ["switches", "value"] (spW K .S 2 (gBody .S 4 g_has_form)) :=
  fnG_body (m := .S) (g := g_has_form) (N := ["switches", "value", "word", "many"]) F c_has_form fun cdv A outer s H E hr hgd => (ess_cons (es_par (i := 2) (j := 3) rfl c_has_form.nd rfl rfl (by decide) (ea_cons (ew_at (ew_vb 1) (EW.toB ew_int)) (ea_cons (ew_sub (EW.toB (ew_len rfl n_len (ew_vb 1))) (EW.toB ew_int)) ea_nil)) (fun h => ps_par rfl c_has_form.nd rfl rfl (by decide) rfl rfl h rfl))
  (ess_cons (es_if (eb_in (ew_vb 2) (EW.toB (ew_tup (ea_cons ew_str (ea_cons ew_str ea_nil))))) (ess_one (es_ret (fun e => nomatch e) (ew_eq hr.units (ew_vb 3) (EW.toB ew_int)))) ess_nil)
  (ess_cons (es_if (eb_eq hr.units (ew_vb 2) (EW.toB ew_str)) (ess_one (es_ret (fun e => nomatch e) (ew_and (ew_eq hr.units (ew_vb 3) (EW.toB ew_int)) (ew_one (ew_call f_is_switch hr hgd (by omega) rfl (ea_cons (ew_v 0) (ea_cons (ew_at (ew_vb 1) (EW.toB ew_int)) ea_nil))))))) ess_nil)
  (ess_cons (es_if (eb_eq hr.units (ew_vb 2) (EW.toB ew_str)) (ess_one (es_ret (fun e => nomatch e) (ew_eq hr.units (ew_vb 3) (EW.toB ew_int)))) ess_nil)
  (ess_cons (es_if (eb_in (ew_vb 2) (EW.toB (ew_gc q_PAIRED rfl))) (ess_one (es_ret (fun e => nomatch e) (ew_eq hr.units (ew_vb 3) (EW.toB ew_int)))) ess_nil)
  (ess_cons (es_if (eb_eq hr.units (ew_vb 2) (EW.toB ew_str)) (ess_one (es_ret (fun e => nomatch e) (ew_and (ew_lele (EW.toB ew_int) (ew_vb 3) (EW.toB (ew_addA (EW.toB (ew_gc q_MOST_PARTS rfl)) (EW.toB ew_int)))) (ew_one (ew_call f_is_within hr hgd (by omega) rfl (ea_cons (ew_at (ew_vb 1) (EW.toB ew_int)) (ea_cons ew_int (ea_cons (ew_gc q_MOST_NUMBER rfl) ea_nil)))))))) ess_nil)
  (ess_one (es_ret (fun e => nomatch e) (ew_and (ew_in (ew_vb 2) (EW.toB (ew_gc q_LISTED rfl))) (ew_one (ew_lele (EW.toB ew_int) (ew_vb 3) (EW.toB (ew_gc q_MOST_PARTS rfl)))))))))))))
def fn_has_form : Fn := gBody .S 4 g_has_form
theorem w_has_form {f : Addr} {fd : FuncData} (F : Fun K "has_form" "has_form" s_has_form f fd) (hm : mg "has_form" = some (.ref f)) (hb : Binds K fd ["switches", "value"] []) (n_len : mg "len" = none) (q_PAIRED : GC K mg "PAIRED" (.tuple (List.map PyData.str (["then", "same"] : List Str)))) (q_MOST_NUMBER : GC K mg "MOST_NUMBER" (.int 7)) (q_MOST_PARTS : GC K mg "MOST_PARTS" (.int 8)) (q_LISTED : GC K mg "LISTED" (.tuple (List.map PyData.str (["and", "or", "one"] : List Str)))) (f_is_switch : FnW P w K mg base 3 "is_switch" ["switches", "value"] .S fn_is_switch) (f_is_within : FnW P w K mg base 2 "is_within" ["value", "least", "most"] .S fn_is_within) : FnW P w K mg base 4 "has_form" ["switches", "value"] .S fn_has_form :=
  ⟨mono_gBody, f, fd, hm, F.kp, hb, b_has_form F n_len q_PAIRED q_MOST_NUMBER q_MOST_PARTS q_LISTED f_is_switch f_is_within⟩
/-! parts_of -/
abbrev s_parts_of : Stmt := topS 16
theorem c_parts_of : FnScope ["formula"] ["formula"] (defScope s_parts_of) := ⟨rfl, rfl, rfl, by decide +kernel, rfl, by decide +kernel, by decide +kernel⟩
def g_parts_of : Ev → W Rs := (wSeq (wIf (wOr (wT (wB (inD false) (wB ixD (wVb 0) (wC (.int 0))) (wC (.tuple (List.map PyData.str (["and", "or", "one"] : List Str)))))) (wOr (wT (wB (inD false) (wB ixD (wVb 0) (wC (.int 0))) (wC (.tuple (List.map PyData.str (["then", "same"] : List Str)))))) (wT (wB eqD (wB ixD (wVb 0) (wC (.int 0))) (wC (.str "not")))))) (wRet (wU listD (wSl (wVb 0) (wPart (wC (.int 1))) wNo))) wSkip)
  (wRet (wIf (wT (wB eqD (wB ixD (wVb 0) (wC (.int 0))) (wC (.str "most")))) (wU listD (wSl (wVb 0) (wPart (wC (.int 2))) wNo)) (wLst wNil))))
theorem b_parts_of {f : Addr} {fd : FuncData} (F : Fun K "parts_of" "parts_of" s_parts_of f fd) (n_list : mg "list" = none) (q_PAIRED : GC K mg "PAIRED" (.tuple (List.map PyData.str (["then", "same"] : List Str)))) (q_LISTED : GC K mg "LISTED" (.tuple (List.map PyData.str (["and", "or", "one"] : List Str)))) : FnG P w K mg base CX0 (0 + 1) f fd ["formula"] (spW K .S 1 (gBody .S 1 g_parts_of)) :=
  fnG_body (m := .S) (g := g_parts_of) (N := ["formula"]) F c_parts_of fun cdv A outer s H E hr hgd => (ess_cons (es_if (eb_or (eb_in (EW.toB (ew_at (ew_vb 0) (EW.toB ew_int))) (EW.toB (ew_gc q_LISTED rfl))) (ebw_or (eb_in (EW.toB (ew_at (ew_vb 0) (EW.toB ew_int))) (EW.toB (ew_gc q_PAIRED rfl))) (ebw_or1 (eb_eq hr.units (EW.toB (ew_at (ew_vb 0) (EW.toB ew_int))) (EW.toB ew_str))))) (ess_one (es_ret (fun e => nomatch e) (EW.FS (ew_list rfl n_list (EW.toB (ew_slice (ew_vb 0) (eo_some (EW.toB ew_int)) eo_none)))))) ess_nil)
  (ess_one (es_ret (fun e => nomatch e) (EW.FS (ew_if (eb_eq hr.units (EW.toB (ew_at (ew_vb 0) (EW.toB ew_int))) (EW.toB ew_str)) (ew_list rfl n_list (EW.toB (ew_slice (ew_vb 0) (eo_some (EW.toB ew_int)) eo_none))) (ew_lst ea_nil))))))
def fn_parts_of : Fn := gBody .S 1 g_parts_of
theorem w_parts_of {f : Addr} {fd : FuncData} (F : Fun K "parts_of" "parts_of" s_parts_of f fd) (hm : mg "parts_of" = some (.ref f)) (hb : Binds K fd ["formula"] []) (n_list : mg "list" = none) (q_PAIRED : GC K mg "PAIRED" (.tuple (List.map PyData.str (["then", "same"] : List Str)))) (q_LISTED : GC K mg "LISTED" (.tuple (List.map PyData.str (["and", "or", "one"] : List Str)))) : FnW P w K mg base 1 "parts_of" ["formula"] .S fn_parts_of :=
  ⟨mono_gBody, f, fd, hm, F.kp, hb, b_parts_of F n_list q_PAIRED q_LISTED⟩
/-! is_built -/
abbrev s_is_built : Stmt := topS 18
theorem c_is_built : FnScope ["switches", "value", "depth", "part"] ["switches", "value", "depth"] (defScope s_is_built) := ⟨rfl, rfl, rfl, by decide +kernel, rfl, by decide +kernel, by decide +kernel⟩
def g_is_built (self : Fn) : Ev → W Rs := (wSeq (wIf (wOr (wT (wB ltI (wVb 2) (wC (.int 1)))) (wOr (wNot (wT (wU (isiD .tuple) (wVb 1)))) (wOr (wT (wB eqD (wVb 1) (wTup wNil))) (wNot (wT (wU (isiD .str) (wB ixD (wVb 1) (wC (.int 0))))))))) (wRet (wC (.bool false))) wSkip)
  (wSeq (wIf (wNot (wT (wCall 2 fn_has_form (wCons (wV 0) (wCons (wV 1) wNil))))) (wRet (wC (.bool false))) wSkip)
  (wRet (wU allD (wLc [3] (wItems (wCall 1 fn_parts_of (wCons (wV 1) wNil))) (stN 3) wYes (wCall 3 self (wCons (wV 0) (wCons (wV 3) (wCons (wB subD (wVb 2) (wC (.int 1))) wNil)))))))))
theorem b_is_built {f : Addr} {fd : FuncData} (F : Fun K "is_built" "is_built" s_is_built f fd) (n : Nat) {self : Fn} (n_isinstance : mg "isinstance" = none) (n_str : mg "str" = none) (n_tuple : mg "tuple" = none) (n_all : mg "all" = none) (f_has_form : FnW P w K mg base 4 "has_form" ["switches", "value"] .S fn_has_form) (f_parts_of : FnW P w K mg base 1 "parts_of" ["formula"] .S fn_parts_of) (f_self : FnW P w K mg base (4 + n) "is_built" ["switches", "value", "depth"] .S self) : FnG P w K mg base CX0 (4 + n + 1) f fd ["switches", "value", "depth"] (spW K .S 3 (gBody .S 4 (g_is_built self))) :=
  fnG_body (m := .S) (g := (g_is_built self)) (N := ["switches", "value", "depth", "part"]) F c_is_built fun cdv A outer s H E hr hgd => (ess_cons (es_if (eb_or (eb_lt (ew_vb 2) (EW.toB ew_int)) (ebw_or (eb_not (eb_val (EW.toB (ew_isi .tuple rfl n_isinstance rfl n_tuple (by decide +kernel) (ew_vb 1))))) (ebw_or (eb_eq hr.units (ew_vb 1) (EW.toB (ew_tup ea_nil))) (ebw_or1 (eb_not (eb_val (EW.toB (ew_isi .str rfl n_isinstance rfl n_str (by decide +kernel) (EW.toB (ew_at (ew_vb 1) (EW.toB ew_int))))))))))) (ess_one (es_ret (fun e => nomatch e) ew_bl)) ess_nil)
  (ess_cons (es_if (eb_not (eb_val (EW.toB (ew_call f_has_form hr hgd (by omega) rfl (ea_cons (ew_v 0) (ea_cons (ew_v 1) ea_nil)))))) (ess_one (es_ret (fun e => nomatch e) ew_bl)) ess_nil)
  (ess_one (es_ret (fun e => nomatch e) (ew_all rfl n_all (EW.toB (ew_lc (own := [("part", 3)]) rfl c_is_built.nd (ei_seq (ew_call f_parts_of hr hgd (by omega) rfl (ea_cons (ew_v 1) ea_nil))) (blkOk_by (by rfl)) (fun _ _ _ _ _ => (eg_name (i := 3) c_is_built.nd rfl (by first | exact Or.inl rfl | exact Or.inr rfl))) (fun _ _ _ _ _ => ec_nil) (fun _ _ _ _ _ => (ew_call f_self hr hgd (by omega) rfl (ea_cons (ew_v 0) (ea_cons (ew_v 3) (ea_cons (ew_sub (ew_vb 2) (EW.toB ew_int)) ea_nil))))))))))))
def fn_is_built : Nat → Fn
  | 0 => fun _ _ => False
  | n + 1 => gBody .S 4 (g_is_built (fn_is_built n))
theorem w_is_built {f : Addr} {fd : FuncData} (F : Fun K "is_built" "is_built" s_is_built f fd) (hm : mg "is_built" = some (.ref f)) (hb : Binds K fd ["switches", "value", "depth"] []) (n_isinstance : mg "isinstance" = none) (n_str : mg "str" = none) (n_tuple : mg "tuple" = none) (n_all : mg "all" = none) (f_has_form : FnW P w K mg base 4 "has_form" ["switches", "value"] .S fn_has_form) (f_parts_of : FnW P w K mg base 1 "parts_of" ["formula"] .S fn_parts_of) : ∀ n : Nat, FnW P w K mg base (4 + n) "is_built" ["switches", "value", "depth"] .S (fn_is_built n)
  | 0 => ⟨fun _ _ _ _ q => q.elim, f, fd, hm, F.kp, hb, vac_fnG⟩
  | n + 1 => by
    have ih := w_is_built F hm hb n_isinstance n_str n_tuple n_all f_has_form f_parts_of n
    exact ⟨mono_gBody, f, fd, hm, F.kp, hb, b_is_built F n n_isinstance n_str n_tuple n_all f_has_form f_parts_of ih⟩
/-! size_of -/
abbrev s_size_of : Stmt := topS 19
theorem c_size_of : FnScope ["formula", "part"] ["formula"] (defScope s_size_of) := ⟨rfl, rfl, rfl, by decide +kernel, rfl, by decide +kernel, by decide +kernel⟩
def g_size_of (self : Fn) : Ev → W Rs := (wRet (wB addAD (wC (.int 1)) (wU sumD (wLc [1] (wItems (wCall 1 fn_parts_of (wCons (wV 0) wNil))) (stN 1) wYes (wCall 1 self (wCons (wV 1) wNil))))))
theorem b_size_of {f : Addr} {fd : FuncData} (F : Fun K "size_of" "size_of" s_size_of f fd) (n : Nat) {self : Fn} (n_sum : mg "sum" = none) (f_parts_of : FnW P w K mg base 1 "parts_of" ["formula"] .S fn_parts_of) (f_self : FnW P w K mg base (1 + n) "size_of" ["formula"] .S self) : FnG P w K mg base CX0 (1 + n + 1) f fd ["formula"] (spW K .S 1 (gBody .S 2 (g_size_of self))) :=
  fnG_body (m := .S) (g := (g_size_of self)) (N := ["formula", "part"]) F c_size_of fun cdv A outer s H E hr hgd => (ess_one (es_ret (fun e => nomatch e) (ew_addA (EW.toB ew_int) (EW.toB (ew_sum rfl n_sum (EW.toB (ew_lc (own := [("part", 1)]) rfl c_size_of.nd (ei_seq (ew_call f_parts_of hr hgd (by omega) rfl (ea_cons (ew_v 0) ea_nil))) (blkOk_by (by rfl)) (fun _ _ _ _ _ => (eg_name (i := 1) c_size_of.nd rfl (by first | exact Or.inl rfl | exact Or.inr rfl))) (fun _ _ _ _ _ => ec_nil) (fun _ _ _ _ _ => (ew_call f_self hr hgd (by omega) rfl (ea_cons (ew_v 1) ea_nil))))))))))
def fn_size_of : Nat → Fn
  | 0 => fun _ _ => False
  | n + 1 => gBody .S 2 (g_size_of (fn_size_of n))
theorem w_size_of {f : Addr} {fd : FuncData} (F : Fun K "size_of" "size_of" s_size_of f fd) (hm : mg "size_of" = some (.ref f)) (hb : Binds K fd ["formula"] []) (n_sum : mg "sum" = none) (f_parts_of : FnW P w K mg base 1 "parts_of" ["formula"] .S fn_parts_of) : ∀ n : Nat, FnW P w K mg base (1 + n) "size_of" ["formula"] .S (fn_size_of n)
  | 0 => ⟨fun _ _ _ _ q => q.elim, f, fd, hm, F.kp, hb, vac_fnG⟩
  | n + 1 => by
    have ih := w_size_of F hm hb n_sum f_parts_of n
    exact ⟨mono_gBody, f, fd, hm, F.kp, hb, b_size_of F n n_sum f_parts_of ih⟩
/-! is_formula_of -/
abbrev s_is_formula_of : Stmt := topS 20
theorem c_is_formula_of : FnScope ["switches", "value"] ["switches", "value"] (defScope s_is_formula_of) := ⟨rfl, rfl, rfl, by decide +kernel, rfl, by decide +kernel, by decide +kernel⟩
def g_is_formula_of : Ev → W Rs := (wRet (wAndV (wCall 3 (fn_is_built 10) (wCons (wV 0) (wCons (wV 1) (wCons (wC (.int 8)) wNil)))) (wB leI (wCall 1 (fn_size_of 16) (wCons (wV 1) wNil)) (wC (.int 60)))))
theorem b_is_formula_of {f : Addr} {fd : FuncData} (F : Fun K "is_formula_of" "is_formula_of" s_is_formula_of f fd) (q_MOST_SIZE : GC K mg "MOST_SIZE" (.int 60)) (q_MOST_DEPTH : GC K mg "MOST_DEPTH" (.int 8)) (f_size_of : FnW P w K mg base 17 "size_of" ["formula"] .S (fn_size_of 16)) (f_is_built : FnW P w K mg base 14 "is_built" ["switches", "value", "depth"] .S (fn_is_built 10)) : FnG P w K mg base CX0 (17 + 1) f fd ["switches", "value"] (spW K .S 2 (gBody .S 2 g_is_formula_of)) :=
  fnG_body (m := .S) (g := g_is_formula_of) (N := ["switches", "value"]) F c_is_formula_of fun cdv A outer s H E hr hgd => (ess_one (es_ret (fun e => nomatch e) (ew_and (ew_call f_is_built hr hgd (by omega) rfl (ea_cons (ew_v 0) (ea_cons (ew_v 1) (ea_cons (ew_gc q_MOST_DEPTH rfl) ea_nil)))) (ew_one (ew_le (EW.toB (ew_call f_size_of hr hgd (by omega) rfl (ea_cons (ew_v 1) ea_nil))) (EW.toB (ew_gc q_MOST_SIZE rfl)))))))
def fn_is_formula_of : Fn := gBody .S 2 g_is_formula_of
theorem w_is_formula_of {f : Addr} {fd : FuncData} (F : Fun K "is_formula_of" "is_formula_of" s_is_formula_of f fd) (hm : mg "is_formula_of" = some (.ref f)) (hb : Binds K fd ["switches", "value"] []) (q_MOST_SIZE : GC K mg "MOST_SIZE" (.int 60)) (q_MOST_DEPTH : GC K mg "MOST_DEPTH" (.int 8)) (f_size_of : FnW P w K mg base 17 "size_of" ["formula"] .S (fn_size_of 16)) (f_is_built : FnW P w K mg base 14 "is_built" ["switches", "value", "depth"] .S (fn_is_built 10)) : FnW P w K mg base 18 "is_formula_of" ["switches", "value"] .S fn_is_formula_of :=
  ⟨mono_gBody, f, fd, hm, F.kp, hb, b_is_formula_of F q_MOST_SIZE q_MOST_DEPTH f_size_of f_is_built⟩
/-! is_formula -/
abbrev s_is_formula : Stmt := topS 21
theorem c_is_formula : FnScope ["switches", "value"] ["switches", "value"] (defScope s_is_formula) := ⟨rfl, rfl, rfl, by decide +kernel, rfl, by decide +kernel, by decide +kernel⟩
def g_is_formula : Ev → W Rs := (wSeq (wDrop (wCallD 1 [.int 1] fn_check_switches (wCons (wV 0) wNil)))
  (wRet (wCall 2 fn_is_formula_of (wCons (wV 0) (wCons (wV 1) wNil)))))
theorem b_is_formula {f : Addr} {fd : FuncData} (F : Fun K "is_formula" "is_formula" s_is_formula f fd) (f_is_formula_of : FnW P w K mg base 18 "is_formula_of" ["switches", "value"] .S fn_is_formula_of) (d1_check_switches : FnD P w K mg base 3 "check_switches" 1 [.int 1] .S fn_check_switches) : FnG P w K mg base CX0 (18 + 1) f fd ["switches", "value"] (spW K .S 2 (gBody .S 2 g_is_formula)) :=
  fnG_body (m := .S) (g := g_is_formula) (N := ["switches", "value"]) F c_is_formula fun cdv A outer s H E hr hgd => (ess_cons (es_expr (EW.toB (ew_callD d1_check_switches hr hgd (by omega) rfl (ea_cons (ew_v 0) ea_nil))))
  (ess_one (es_ret (fun e => nomatch e) (ew_call f_is_formula_of hr hgd (by omega) rfl (ea_cons (ew_v 0) (ea_cons (ew_v 1) ea_nil))))))
def fn_is_formula : Fn := gBody .S 2 g_is_formula
theorem w_is_formula {f : Addr} {fd : FuncData} (F : Fun K "is_formula" "is_formula" s_is_formula f fd) (hm : mg "is_formula" = some (.ref f)) (hb : Binds K fd ["switches", "value"] []) (f_is_formula_of : FnW P w K mg base 18 "is_formula_of" ["switches", "value"] .S fn_is_formula_of) (d1_check_switches : FnD P w K mg base 3 "check_switches" 1 [.int 1] .S fn_check_switches) : FnW P w K mg base 19 "is_formula" ["switches", "value"] .S fn_is_formula :=
  ⟨mono_gBody, f, fd, hm, F.kp, hb, b_is_formula F f_is_formula_of d1_check_switches⟩
/-! _law_right -/
abbrev s_law_right : Stmt := topS 42
theorem c_law_right : FnScope ["pot", "switches", "value", "shown", "many", "due"] ["pot"] (defScope s_law_right) := ⟨rfl, rfl, rfl, by decide +kernel, rfl, by decide +kernel, by decide +kernel⟩
def g_law_right : Ev → W Rs := (wSeq (wSet 1 (wB addAD (wC (.int 1)) (wCall 2 drawF (wCons (wV 0) (wCons (wC (.int 12)) wNil)))))
  (wSeq (wFor (wItems (wCall 2 fn_law_values (wCons (wV 0) (wCons (wV 1) wNil)))) (stN 2) (wSeq (wSet 3 (wU reprD (wVb 2)))
  (wSeq (wFor (wItems (wTup (wCons (wV 1) (wCons (wB addAD (wC (.int 1)) (wCall 2 drawF (wCons (wV 0) (wCons (wC (.int 12)) wNil)))) wNil)))) (stN 4) (wSeq (wSet 5 (wCall 2 fn_law_is_formula (wCons (wV 4) (wCons (wV 2) wNil))))
  (wIf (wT (wB neD (wU reprD (wLst (wCons (wCall 2 fn_is_formula (wCons (wV 4) (wCons (wV 2) wNil))) (wCons (wCallK 0 2 [1, 0] fn_is_formula wNil (wCons (wV 2) (wCons (wV 4) wNil))) wNil)))) (wU reprD (wLst (wCons (wV 5) (wCons (wV 5) wNil)))))) (wRet (wC (.bool false))) wSkip)))
  (wIf (wT (wB neD (wU reprD (wVb 2)) (wVb 3))) (wRet (wC (.bool false))) wSkip))))
  (wRet (wCall 2 fn_law_choices_right (wCons (wV 0) (wCons (wV 1) wNil))))))
theorem b_law_right {f : Addr} {fd : FuncData} (F : Fun K "_law_right" "_law_right" s_law_right f fd) (n_repr : mg "repr" = none) (f_law_draw : FnW P w K mg base 1 "_law_draw" ["pot", "many"] .S drawF) (f_law_values : FnW P w K mg base 11 "_law_values" ["pot", "switches"] .S fn_law_values) (f_law_is_formula : FnW P w K mg base 18 "_law_is_formula" ["switches", "value"] .S fn_law_is_formula) (f_is_formula : FnW P w K mg base 19 "is_formula" ["switches", "value"] .S fn_is_formula) (f_law_choices_right : FnW P w K mg base 5 "_law_choices_right" ["pot", "switches"] .S fn_law_choices_right) (k0_is_formula : FnK P w K mg base 19 "is_formula" ["value", "switches"] 0 [1, 0] .S fn_is_formula) : FnG P w K mg base CX0 (19 + 1) f fd ["pot"] (spW K .S 1 (gBody .S 6 g_law_right)) :=
  fnG_body (m := .S) (g := g_law_right) (N := ["pot", "switches", "value", "shown", "many", "due"]) F c_law_right fun cdv A outer s H E hr hgd => (ess_cons (es_set (i := 1) c_law_right.nd rfl (by first | exact Or.inl rfl | exact Or.inr rfl) (ew_addA (EW.toB ew_int) (EW.toB (ew_call f_law_draw hr hgd (by omega) rfl (ea_cons (ew_v 0) (ea_cons ew_int ea_nil))))))
  (ess_cons (es_for PassesOwn.never rfl (ei_seq (ew_call f_law_values hr hgd (by omega) rfl (ea_cons (ew_v 0) (ea_cons (ew_v 1) ea_nil)))) (eg_name (i := 2) c_law_right.nd rfl (by first | exact Or.inl rfl | exact Or.inr rfl)) (ess_cons (es_set (i := 3) c_law_right.nd rfl (by first | exact Or.inl rfl | exact Or.inr rfl) (ew_repr hgd hr.units rfl n_repr (ew_vb 2)))
  (ess_cons (es_for PassesOwn.never rfl (ei_seq (ew_tup (ea_cons (ew_v 1) (ea_cons (ew_addA (EW.toB ew_int) (EW.toB (ew_call f_law_draw hr hgd (by omega) rfl (ea_cons (ew_v 0) (ea_cons ew_int ea_nil))))) ea_nil)))) (eg_name (i := 4) c_law_right.nd rfl (by first | exact Or.inl rfl | exact Or.inr rfl)) (ess_cons (es_set (i := 5) c_law_right.nd rfl (by first | exact Or.inl rfl | exact Or.inr rfl) (ew_call f_law_is_formula hr hgd (by omega) rfl (ea_cons (ew_v 4) (ea_cons (ew_v 2) ea_nil))))
  (ess_one (es_if (eb_ne hr.units (EW.toB (ew_repr hgd hr.units rfl n_repr (EW.toB (ew_lst (ea_cons (ew_call f_is_formula hr hgd (by omega) rfl (ea_cons (ew_v 4) (ea_cons (ew_v 2) ea_nil))) (ea_cons (ew_callK0 k0_is_formula hr hgd (by omega) rfl (ek_cons (ew_v 2) (ek_cons (ew_v 4) ek_nil))) ea_nil)))))) (EW.toB (ew_repr hgd hr.units rfl n_repr (EW.toB (ew_lst (ea_cons (ew_v 5) (ea_cons (ew_v 5) ea_nil))))))) (ess_one (es_ret (fun e => nomatch e) ew_bl)) ess_nil))))
  (ess_one (es_if (eb_ne hr.units (EW.toB (ew_repr hgd hr.units rfl n_repr (ew_vb 2))) (ew_vb 3)) (ess_one (es_ret (fun e => nomatch e) ew_bl)) ess_nil)))))
  (ess_one (es_ret (fun e => nomatch e) (ew_call f_law_choices_right hr hgd (by omega) rfl (ea_cons (ew_v 0) (ea_cons (ew_v 1) ea_nil)))))))
def fn_law_right : Fn := gBody .S 6 g_law_right
theorem w_law_right {f : Addr} {fd : FuncData} (F : Fun K "_law_right" "_law_right" s_law_right f fd) (hm : mg "_law_right" = some (.ref f)) (hb : Binds K fd ["pot"] []) (n_repr : mg "repr" = none) (f_law_draw : FnW P w K mg base 1 "_law_draw" ["pot", "many"] .S drawF) (f_law_values : FnW P w K mg base 11 "_law_values" ["pot", "switches"] .S fn_law_values) (f_law_is_formula : FnW P w K mg base 18 "_law_is_formula" ["switches", "value"] .S fn_law_is_formula) (f_is_formula : FnW P w K mg base 19 "is_formula" ["switches", "value"] .S fn_is_formula) (f_law_choices_right : FnW P w K mg base 5 "_law_choices_right" ["pot", "switches"] .S fn_law_choices_right) (k0_is_formula : FnK P w K mg base 19 "is_formula" ["value", "switches"] 0 [1, 0] .S fn_is_formula) : FnW P w K mg base 20 "_law_right" ["pot"] .S fn_law_right :=
  ⟨mono_gBody, f, fd, hm, F.kp, hb, b_law_right F n_repr f_law_draw f_law_values f_law_is_formula f_is_formula f_law_choices_right k0_is_formula⟩
/-! _law_pot -/
abbrev s_law_pot : Stmt := topS 28
theorem c_law_pot : FnScope ["script", "k", "cell"] ["script", "k"] (defScope s_law_pot) := ⟨rfl, rfl, rfl, by decide +kernel, rfl, by decide +kernel, by decide +kernel⟩
def g_law_pot : Ev → W Rs := (wSeq (wSet 2 (wB addAD (wB mulAD (wC (.int 911)) (wVb 1)) (wC (.int 9007))))
  (wSeq (wIf (wT (wB ltI (wVb 1) (wU lenD (wVb 0)))) (wSet 2 (wU absD (wB ixD (wVb 0) (wVb 1)))) wSkip)
  (wRet (wLst (wCons (wB max2D (wC (.int 0)) (wB subD (wVb 2) (wB powD (wC (.int 10)) (wC (.int 18))))) (wCons (wB addAD (wB modD (wU intD (wB addAD (wB addAD (wB mulAD (wB modD (wU intD (wVb 2)) (wC (.int 2147483549))) (wC (.int 40014))) (wB mulAD (wC (.int 9007)) (wVb 1))) (wC (.int 61)))) (wC (.int 2147483563))) (wC (.int 1))) wNil))))))
theorem b_law_pot {f : Addr} {fd : FuncData} (F : Fun K "_law_pot" "_law_pot" s_law_pot f fd) (n_len : mg "len" = none) (n_abs : mg "abs" = none) (n_max : mg "max" = none) (n_int : mg "int" = none) : FnG P w K mg base CX0 (0 + 1) f fd ["script", "k"] (spW K .F 2 (gBody .F 3 g_law_pot)) :=
  fnG_body (m := .F) (g := g_law_pot) (N := ["script", "k", "cell"]) F c_law_pot fun cdv A outer s H E hr hgd => (ess_cons (es_set (i := 2) c_law_pot.nd rfl (by first | exact Or.inl rfl | exact Or.inr rfl) (ew_addA (EW.toB (ew_mulA (EW.toB ew_int) (ew_vb 1))) (EW.toB ew_int)))
  (ess_cons (es_if (eb_lt (ew_vb 1) (EW.toB (ew_len rfl n_len (ew_vb 0)))) (ess_one (es_set (i := 2) c_law_pot.nd rfl (by first | exact Or.inl rfl | exact Or.inr rfl) (ew_abs rfl n_abs (EW.toB (ew_at (ew_vb 0) (ew_vb 1)))))) ess_nil)
  (ess_one (es_ret (fun e => nomatch e) (ew_lst (ea_cons (ew_max2 rfl n_max (EW.toB ew_int) (EW.toB (ew_sub (ew_vb 2) (EW.toB (ew_pow (EW.toB ew_int) (EW.toB ew_int)))))) (ea_cons (ew_addA (EW.toB (ew_mod (EW.toB (ew_int1 rfl n_int (EW.toB (ew_addA (EW.toB (ew_addA (EW.toB (ew_mulA (EW.toB (ew_mod (EW.toB (ew_int1 rfl n_int (ew_vb 2))) (EW.toB ew_int))) (EW.toB ew_int))) (EW.toB (ew_mulA (EW.toB ew_int) (ew_vb 1))))) (EW.toB ew_int))))) (EW.toB ew_int))) (EW.toB ew_int)) ea_nil)))))))
def fn_law_pot : Fn := gBody .F 3 g_law_pot
theorem w_law_pot {f : Addr} {fd : FuncData} (F : Fun K "_law_pot" "_law_pot" s_law_pot f fd) (hm : mg "_law_pot" = some (.ref f)) (hb : Binds K fd ["script", "k"] []) (n_len : mg "len" = none) (n_abs : mg "abs" = none) (n_max : mg "max" = none) (n_int : mg "int" = none) : FnW P w K mg base 1 "_law_pot" ["script", "k"] .F fn_law_pot :=
  ⟨mono_gBody, f, fd, hm, F.kp, hb, b_law_pot F n_len n_abs n_max n_int⟩
def fp_law_pot : Fn := potF fn_law_pot
/-! law -/
abbrev s_law : Stmt := topS 43
theorem c_law : FnScope ["script", "k"] ["script"] (defScope s_law) := ⟨rfl, rfl, rfl, by decide +kernel, rfl, by decide +kernel, by decide +kernel⟩
def g_law : Ev → W Rs := (wRet (wU allD (wLc [1] (wRange1 (wB max2D (wC (.int 1)) (wB min2D (wC (.int 2)) (wU lenD (wVb 0))))) (stN 1) wYes (wCall 1 fn_law_right (wCons (wCall 2 fp_law_pot (wCons (wV 0) (wCons (wV 1) wNil))) wNil)))))
theorem b_law {f : Addr} {fd : FuncData} (F : Fun K "law" "law" s_law f fd) (n_range : mg "range" = none) (n_max : mg "max" = none) (n_min : mg "min" = none) (n_len : mg "len" = none) (n_all : mg "all" = none) (f_law_right : FnW P w K mg base 20 "_law_right" ["pot"] .S fn_law_right) (f_law_pot : FnW P w K mg base 1 "_law_pot" ["script", "k"] .S fp_law_pot) : FnG P w K mg base CX0 (20 + 1) f fd ["script"] (spW K .S 1 (gBody .S 2 g_law)) :=
  fnG_body (m := .S) (g := g_law) (N := ["script", "k"]) F c_law fun cdv A outer s H E hr hgd => (ess_one (es_ret (fun e => nomatch e) (ew_all rfl n_all (EW.toB (ew_lc (own := [("k", 1)]) rfl c_law.nd (ei_range1 rfl n_range (ew_max2 rfl n_max (EW.toB ew_int) (EW.toB (ew_min2 rfl n_min (EW.toB ew_int) (EW.toB (ew_len rfl n_len (ew_vb 0))))))) (blkOk_by (by rfl)) (fun _ _ _ _ _ => (eg_name (i := 1) c_law.nd rfl (by first | exact Or.inl rfl | exact Or.inr rfl))) (fun _ _ _ _ _ => ec_nil) (fun _ _ _ _ _ => (ew_call f_law_right hr hgd (by omega) rfl (ea_cons (ew_call f_law_pot hr hgd (by omega) rfl (ea_cons (ew_v 0) (ea_cons (ew_v 1) ea_nil))) ea_nil))))))))
def fn_law : Fn := gBody .S 2 g_law
theorem w_law {f : Addr} {fd : FuncData} (F : Fun K "law" "law" s_law f fd) (hm : mg "law" = some (.ref f)) (hb : Binds K fd ["script"] []) (n_range : mg "range" = none) (n_max : mg "max" = none) (n_min : mg "min" = none) (n_len : mg "len" = none) (n_all : mg "all" = none) (f_law_right : FnW P w K mg base 20 "_law_right" ["pot"] .S fn_law_right) (f_law_pot : FnW P w K mg base 1 "_law_pot" ["script", "k"] .S fp_law_pot) : FnW P w K mg base 21 "law" ["script"] .S fn_law :=
  ⟨mono_gBody, f, fd, hm, F.kp, hb, b_law F n_range n_max n_min n_len n_all f_law_right f_law_pot⟩
end
/-! what the top has written -/
set_option maxHeartbeats 0 in
theorem all_mk {l : PySem.W.OpenLaw} {w : World} {K : PySem.W.Frag} {h : Heap} {mg : Str → Option Value} {fa : Addr} (X : K.In h) (G : h.Ns mainGlobals mg) (hfa : mg "law" = some (.ref fa))
    {f1 f2 f3 f4 f5 f6 f7 f8 f9 f10 f11 f12 f13 f14 f15 f16 f17 f18 f19 f20 f21 f22 f23 f24 f25 f26 f27 f28 f29 : Addr} {od1 an1 od2 an2 od3 an3 od4 an4 od5 an5 od6 an6 od7 an7 od8 an8 od9 an9 od10 an10 od11 an11 od12 an12 od13 an13 od14 an14 od15 an15 od16 an16 od17 an17 od18 an18 od19 an19 od20 an20 od21 an21 od22 an22 od23 an23 od24 an24 od25 an25 od26 an26 od27 an27 od28 an28 od29 an29 : Option Addr} {sl1 sl2 sl3 sl4 sl5 sl6 sl7 sl8 sl9 sl10 sl11 sl12 sl13 sl14 sl15 sl16 sl17 sl18 sl19 sl20 sl21 sl22 sl23 sl24 sl25 sl26 sl27 sl28 sl29 : Array (Option Value)} {oc1 kV1 dc1 pm1 cd1 ct1 oc2 kV2 dc2 pm2 cd2 ct2 oc3 kV3 dc3 pm3 cd3 ct3 oc4 kV4 dc4 pm4 cd4 ct4 oc5 kV5 dc5 pm5 cd5 ct5 oc6 kV6 dc6 pm6 cd6 ct6 oc7 kV7 dc7 pm7 cd7 ct7 oc8 kV8 dc8 pm8 cd8 ct8 oc9 kV9 dc9 pm9 cd9 ct9 oc10 kV10 dc10 pm10 cd10 ct10 oc11 kV11 dc11 pm11 cd11 ct11 oc12 kV12 dc12 pm12 cd12 ct12 oc13 kV13 dc13 pm13 cd13 ct13 oc14 kV14 dc14 pm14 cd14 ct14 oc15 kV15 dc15 pm15 cd15 ct15 oc16 kV16 dc16 pm16 cd16 ct16 oc17 kV17 dc17 pm17 cd17 ct17 oc18 kV18 dc18 pm18 cd18 ct18 oc19 kV19 dc19 pm19 cd19 ct19 oc20 kV20 dc20 pm20 cd20 ct20 oc21 kV21 dc21 pm21 cd21 ct21 oc22 kV22 dc22 pm22 cd22 ct22 oc23 kV23 dc23 pm23 cd23 ct23 oc24 kV24 dc24 pm24 cd24 ct24 oc25 kV25 dc25 pm25 cd25 ct25 oc26 kV26 dc26 pm26 cd26 ct26 oc27 kV27 dc27 pm27 cd27 ct27 oc28 kV28 dc28 pm28 cd28 ct28 oc29 kV29 dc29 pm29 cd29 ct29 : Value}
    (a1 : PySem.W.nsIn K mainGlobals "_law_draw" = some (some (.ref f1))) (l1 : K.lookup f1 = some ⟨oc1, od1, .func (PySem.W.fnOf "_law_draw" "_law_draw" (defArgs s_law_draw) (defBody s_law_draw) (defScope s_law_draw) .none kV1 dc1 pm1 an1 cd1 ct1), sl1⟩) (c1 : PySem.W.codeIn K cd1 "_law_draw" = true) (k1 : PySem.W.keepIn K (.ref f1) = true)
    (a2 : PySem.W.nsIn K mainGlobals "_law_pick" = some (some (.ref f2))) (l2 : K.lookup f2 = some ⟨oc2, od2, .func (PySem.W.fnOf "_law_pick" "_law_pick" (defArgs s_law_pick) (defBody s_law_pick) (defScope s_law_pick) .none kV2 dc2 pm2 an2 cd2 ct2), sl2⟩) (c2 : PySem.W.codeIn K cd2 "_law_pick" = true) (k2 : PySem.W.keepIn K (.ref f2) = true)
    (a3 : PySem.W.nsIn K mainGlobals "_law_formula" = some (some (.ref f3))) (l3 : K.lookup f3 = some ⟨oc3, od3, .func (PySem.W.fnOf "_law_formula" "_law_formula" (defArgs s_law_formula) (defBody s_law_formula) (defScope s_law_formula) .none kV3 dc3 pm3 an3 cd3 ct3), sl3⟩) (c3 : PySem.W.codeIn K cd3 "_law_formula" = true) (k3 : PySem.W.keepIn K (.ref f3) = true)
    (a4 : PySem.W.nsIn K mainGlobals "_law_bent" = some (some (.ref f4))) (l4 : K.lookup f4 = some ⟨oc4, od4, .func (PySem.W.fnOf "_law_bent" "_law_bent" (defArgs s_law_bent) (defBody s_law_bent) (defScope s_law_bent) .none kV4 dc4 pm4 an4 cd4 ct4), sl4⟩) (c4 : PySem.W.codeIn K cd4 "_law_bent" = true) (k4 : PySem.W.keepIn K (.ref f4) = true)
    (a5 : PySem.W.nsIn K mainGlobals "_law_great" = some (some (.ref f5))) (l5 : K.lookup f5 = some ⟨oc5, od5, .func (PySem.W.fnOf "_law_great" "_law_great" (defArgs s_law_great) (defBody s_law_great) (defScope s_law_great) .none kV5 dc5 pm5 an5 cd5 ct5), sl5⟩) (c5 : PySem.W.codeIn K cd5 "_law_great" = true) (k5 : PySem.W.keepIn K (.ref f5) = true)
    (a6 : PySem.W.nsIn K mainGlobals "_law_values" = some (some (.ref f6))) (l6 : K.lookup f6 = some ⟨oc6, od6, .func (PySem.W.fnOf "_law_values" "_law_values" (defArgs s_law_values) (defBody s_law_values) (defScope s_law_values) .none kV6 dc6 pm6 an6 cd6 ct6), sl6⟩) (c6 : PySem.W.codeIn K cd6 "_law_values" = true) (k6 : PySem.W.keepIn K (.ref f6) = true)
    (a7 : PySem.W.nsIn K mainGlobals "_law_choice" = some (some (.ref f7))) (l7 : K.lookup f7 = some ⟨oc7, od7, .func (PySem.W.fnOf "_law_choice" "_law_choice" (defArgs s_law_choice) (defBody s_law_choice) (defScope s_law_choice) .none kV7 dc7 pm7 an7 cd7 ct7), sl7⟩) (c7 : PySem.W.codeIn K cd7 "_law_choice" = true) (k7 : PySem.W.keepIn K (.ref f7) = true)
    (a8 : PySem.W.nsIn K mainGlobals "_law_are_bools" = some (some (.ref f8))) (l8 : K.lookup f8 = some ⟨oc8, od8, .func (PySem.W.fnOf "_law_are_bools" "_law_are_bools" (defArgs s_law_are_bools) (defBody s_law_are_bools) (defScope s_law_are_bools) .none kV8 dc8 pm8 an8 cd8 ct8), sl8⟩) (c8 : PySem.W.codeIn K cd8 "_law_are_bools" = true) (k8 : PySem.W.keepIn K (.ref f8) = true)
    (a9 : PySem.W.nsIn K mainGlobals "is_integer" = some (some (.ref f9))) (l9 : K.lookup f9 = some ⟨oc9, od9, .func (PySem.W.fnOf "is_integer" "is_integer" (defArgs s_is_integer) (defBody s_is_integer) (defScope s_is_integer) .none kV9 dc9 pm9 an9 cd9 ct9), sl9⟩) (c9 : PySem.W.codeIn K cd9 "is_integer" = true) (k9 : PySem.W.keepIn K (.ref f9) = true)
    (a10 : PySem.W.nsIn K mainGlobals "is_within" = some (some (.ref f10))) (l10 : K.lookup f10 = some ⟨oc10, od10, .func (PySem.W.fnOf "is_within" "is_within" (defArgs s_is_within) (defBody s_is_within) (defScope s_is_within) .none kV10 dc10 pm10 an10 cd10 ct10), sl10⟩) (c10 : PySem.W.codeIn K cd10 "is_within" = true) (k10 : PySem.W.keepIn K (.ref f10) = true)
    {T11 : Addr} {tc11 : Value} {td11 : Option Addr} {tu11 : Array Value} {tn11 : Nat} {ts11 : Array (Option Value)}
    (a11 : PySem.W.nsIn K mainGlobals "check_switches" = some (some (.ref f11))) (l11 : K.lookup f11 = some ⟨oc11, od11, .func (PySem.W.fnOf "check_switches" "check_switches" (defArgs s_check_switches) (defBody s_check_switches) (defScope s_check_switches) (.ref T11) kV11 dc11 pm11 an11 cd11 ct11), sl11⟩) (c11 : PySem.W.codeIn K cd11 "check_switches" = true) (k11 : PySem.W.keepIn K (.ref f11) = true)
    (lT11 : K.lookup T11 = some ⟨tc11, td11, .seq tu11 tn11, ts11⟩) (pT11 : intsV tu11.toList = some [1])
    (a12 : PySem.W.nsIn K mainGlobals "is_choice_of" = some (some (.ref f12))) (l12 : K.lookup f12 = some ⟨oc12, od12, .func (PySem.W.fnOf "is_choice_of" "is_choice_of" (defArgs s_is_choice_of) (defBody s_is_choice_of) (defScope s_is_choice_of) .none kV12 dc12 pm12 an12 cd12 ct12), sl12⟩) (c12 : PySem.W.codeIn K cd12 "is_choice_of" = true) (k12 : PySem.W.keepIn K (.ref f12) = true)
    (a13 : PySem.W.nsIn K mainGlobals "is_choice" = some (some (.ref f13))) (l13 : K.lookup f13 = some ⟨oc13, od13, .func (PySem.W.fnOf "is_choice" "is_choice" (defArgs s_is_choice) (defBody s_is_choice) (defScope s_is_choice) .none kV13 dc13 pm13 an13 cd13 ct13), sl13⟩) (c13 : PySem.W.codeIn K cd13 "is_choice" = true) (k13 : PySem.W.keepIn K (.ref f13) = true)
    (a14 : PySem.W.nsIn K mainGlobals "is_open_of" = some (some (.ref f14))) (l14 : K.lookup f14 = some ⟨oc14, od14, .func (PySem.W.fnOf "is_open_of" "is_open_of" (defArgs s_is_open_of) (defBody s_is_open_of) (defScope s_is_open_of) .none kV14 dc14 pm14 an14 cd14 ct14), sl14⟩) (c14 : PySem.W.codeIn K cd14 "is_open_of" = true) (k14 : PySem.W.keepIn K (.ref f14) = true)
    (a15 : PySem.W.nsIn K mainGlobals "is_open" = some (some (.ref f15))) (l15 : K.lookup f15 = some ⟨oc15, od15, .func (PySem.W.fnOf "is_open" "is_open" (defArgs s_is_open) (defBody s_is_open) (defScope s_is_open) .none kV15 dc15 pm15 an15 cd15 ct15), sl15⟩) (c15 : PySem.W.codeIn K cd15 "is_open" = true) (k15 : PySem.W.keepIn K (.ref f15) = true)
    (a16 : PySem.W.nsIn K mainGlobals "_law_choices_right" = some (some (.ref f16))) (l16 : K.lookup f16 = some ⟨oc16, od16, .func (PySem.W.fnOf "_law_choices_right" "_law_choices_right" (defArgs s_law_choices_right) (defBody s_law_choices_right) (defScope s_law_choices_right) .none kV16 dc16 pm16 an16 cd16 ct16), sl16⟩) (c16 : PySem.W.codeIn K cd16 "_law_choices_right" = true) (k16 : PySem.W.keepIn K (.ref f16) = true)
    (a17 : PySem.W.nsIn K mainGlobals "_law_is_whole" = some (some (.ref f17))) (l17 : K.lookup f17 = some ⟨oc17, od17, .func (PySem.W.fnOf "_law_is_whole" "_law_is_whole" (defArgs s_law_is_whole) (defBody s_law_is_whole) (defScope s_law_is_whole) .none kV17 dc17 pm17 an17 cd17 ct17), sl17⟩) (c17 : PySem.W.codeIn K cd17 "_law_is_whole" = true) (k17 : PySem.W.keepIn K (.ref f17) = true)
    (a18 : PySem.W.nsIn K mainGlobals "_law_look" = some (some (.ref f18))) (l18 : K.lookup f18 = some ⟨oc18, od18, .func (PySem.W.fnOf "_law_look" "_law_look" (defArgs s_law_look) (defBody s_law_look) (defScope s_law_look) .none kV18 dc18 pm18 an18 cd18 ct18), sl18⟩) (c18 : PySem.W.codeIn K cd18 "_law_look" = true) (k18 : PySem.W.keepIn K (.ref f18) = true)
    (a19 : PySem.W.nsIn K mainGlobals "_law_is_formula" = some (some (.ref f19))) (l19 : K.lookup f19 = some ⟨oc19, od19, .func (PySem.W.fnOf "_law_is_formula" "_law_is_formula" (defArgs s_law_is_formula) (defBody s_law_is_formula) (defScope s_law_is_formula) .none kV19 dc19 pm19 an19 cd19 ct19), sl19⟩) (c19 : PySem.W.codeIn K cd19 "_law_is_formula" = true) (k19 : PySem.W.keepIn K (.ref f19) = true)
    (a20 : PySem.W.nsIn K mainGlobals "is_switch" = some (some (.ref f20))) (l20 : K.lookup f20 = some ⟨oc20, od20, .func (PySem.W.fnOf "is_switch" "is_switch" (defArgs s_is_switch) (defBody s_is_switch) (defScope s_is_switch) .none kV20 dc20 pm20 an20 cd20 ct20), sl20⟩) (c20 : PySem.W.codeIn K cd20 "is_switch" = true) (k20 : PySem.W.keepIn K (.ref f20) = true)
    (a21 : PySem.W.nsIn K mainGlobals "has_form" = some (some (.ref f21))) (l21 : K.lookup f21 = some ⟨oc21, od21, .func (PySem.W.fnOf "has_form" "has_form" (defArgs s_has_form) (defBody s_has_form) (defScope s_has_form) .none kV21 dc21 pm21 an21 cd21 ct21), sl21⟩) (c21 : PySem.W.codeIn K cd21 "has_form" = true) (k21 : PySem.W.keepIn K (.ref f21) = true)
    (a22 : PySem.W.nsIn K mainGlobals "parts_of" = some (some (.ref f22))) (l22 : K.lookup f22 = some ⟨oc22, od22, .func (PySem.W.fnOf "parts_of" "parts_of" (defArgs s_parts_of) (defBody s_parts_of) (defScope s_parts_of) .none kV22 dc22 pm22 an22 cd22 ct22), sl22⟩) (c22 : PySem.W.codeIn K cd22 "parts_of" = true) (k22 : PySem.W.keepIn K (.ref f22) = true)
    (a23 : PySem.W.nsIn K mainGlobals "is_built" = some (some (.ref f23))) (l23 : K.lookup f23 = some ⟨oc23, od23, .func (PySem.W.fnOf "is_built" "is_built" (defArgs s_is_built) (defBody s_is_built) (defScope s_is_built) .none kV23 dc23 pm23 an23 cd23 ct23), sl23⟩) (c23 : PySem.W.codeIn K cd23 "is_built" = true) (k23 : PySem.W.keepIn K (.ref f23) = true)
    (a24 : PySem.W.nsIn K mainGlobals "size_of" = some (some (.ref f24))) (l24 : K.lookup f24 = some ⟨oc24, od24, .func (PySem.W.fnOf "size_of" "size_of" (defArgs s_size_of) (defBody s_size_of) (defScope s_size_of) .none kV24 dc24 pm24 an24 cd24 ct24), sl24⟩) (c24 : PySem.W.codeIn K cd24 "size_of" = true) (k24 : PySem.W.keepIn K (.ref f24) = true)
    (a25 : PySem.W.nsIn K mainGlobals "is_formula_of" = some (some (.ref f25))) (l25 : K.lookup f25 = some ⟨oc25, od25, .func (PySem.W.fnOf "is_formula_of" "is_formula_of" (defArgs s_is_formula_of) (defBody s_is_formula_of) (defScope s_is_formula_of) .none kV25 dc25 pm25 an25 cd25 ct25), sl25⟩) (c25 : PySem.W.codeIn K cd25 "is_formula_of" = true) (k25 : PySem.W.keepIn K (.ref f25) = true)
    (a26 : PySem.W.nsIn K mainGlobals "is_formula" = some (some (.ref f26))) (l26 : K.lookup f26 = some ⟨oc26, od26, .func (PySem.W.fnOf "is_formula" "is_formula" (defArgs s_is_formula) (defBody s_is_formula) (defScope s_is_formula) .none kV26 dc26 pm26 an26 cd26 ct26), sl26⟩) (c26 : PySem.W.codeIn K cd26 "is_formula" = true) (k26 : PySem.W.keepIn K (.ref f26) = true)
    (a27 : PySem.W.nsIn K mainGlobals "_law_right" = some (some (.ref f27))) (l27 : K.lookup f27 = some ⟨oc27, od27, .func (PySem.W.fnOf "_law_right" "_law_right" (defArgs s_law_right) (defBody s_law_right) (defScope s_law_right) .none kV27 dc27 pm27 an27 cd27 ct27), sl27⟩) (c27 : PySem.W.codeIn K cd27 "_law_right" = true) (k27 : PySem.W.keepIn K (.ref f27) = true)
    (a28 : PySem.W.nsIn K mainGlobals "_law_pot" = some (some (.ref f28))) (l28 : K.lookup f28 = some ⟨oc28, od28, .func (PySem.W.fnOf "_law_pot" "_law_pot" (defArgs s_law_pot) (defBody s_law_pot) (defScope s_law_pot) .none kV28 dc28 pm28 an28 cd28 ct28), sl28⟩) (c28 : PySem.W.codeIn K cd28 "_law_pot" = true) (k28 : PySem.W.keepIn K (.ref f28) = true)
    (a29 : PySem.W.nsIn K mainGlobals "law" = some (some (.ref f29))) (l29 : K.lookup f29 = some ⟨oc29, od29, .func (PySem.W.fnOf "law" "law" (defArgs s_law) (defBody s_law) (defScope s_law) .none kV29 dc29 pm29 an29 cd29 ct29), sl29⟩) (c29 : PySem.W.codeIn K cd29 "law" = true) (k29 : PySem.W.keepIn K (.ref f29) = true)
    (z_divmod : PySem.W.nsIn K mainGlobals "divmod" = some none)
    (z_int : PySem.W.nsIn K mainGlobals "int" = some none)
    (z_len : PySem.W.nsIn K mainGlobals "len" = some none)
    (z_range : PySem.W.nsIn K mainGlobals "range" = some none)
    (z_tuple : PySem.W.nsIn K mainGlobals "tuple" = some none)
    (z_isinstance : PySem.W.nsIn K mainGlobals "isinstance" = some none)
    (z_list : PySem.W.nsIn K mainGlobals "list" = some none)
    (z_repr : PySem.W.nsIn K mainGlobals "repr" = some none)
    (z_all : PySem.W.nsIn K mainGlobals "all" = some none)
    (z_bool : PySem.W.nsIn K mainGlobals "bool" = some none)
    (z_str : PySem.W.nsIn K mainGlobals "str" = some none)
    (z_sum : PySem.W.nsIn K mainGlobals "sum" = some none)
    (z_max : PySem.W.nsIn K mainGlobals "max" = some none)
    (z_abs : PySem.W.nsIn K mainGlobals "abs" = some none)
    (z_min : PySem.W.nsIn K mainGlobals "min" = some none)
    {t_MOST_SWITCHES : Tok} (q_MOST_SWITCHES : PySem.W.nsIn K mainGlobals "MOST_SWITCHES" = some (some (.int 12 t_MOST_SWITCHES)))
    {x_PAIRED : Addr} {y_PAIRED : Option Addr} {u_PAIRED : Array Value} {v_PAIRED : Nat} {w_PAIRED : Array (Option Value)} (q_PAIRED : PySem.W.nsIn K mainGlobals "PAIRED" = some (some (.ref x_PAIRED))) (r_PAIRED : K.lookup x_PAIRED = some ⟨.type "tuple", y_PAIRED, .seq u_PAIRED v_PAIRED, w_PAIRED⟩) (p_PAIRED : strsV u_PAIRED.toList = some (["then", "same"] : List Str)) (m_PAIRED : u_PAIRED.size ≤ sizeLine)
    {t_MOST_NUMBER : Tok} (q_MOST_NUMBER : PySem.W.nsIn K mainGlobals "MOST_NUMBER" = some (some (.int 7 t_MOST_NUMBER)))
    {t_MOST_PARTS : Tok} (q_MOST_PARTS : PySem.W.nsIn K mainGlobals "MOST_PARTS" = some (some (.int 8 t_MOST_PARTS)))
    {x_LISTED : Addr} {y_LISTED : Option Addr} {u_LISTED : Array Value} {v_LISTED : Nat} {w_LISTED : Array (Option Value)} (q_LISTED : PySem.W.nsIn K mainGlobals "LISTED" = some (some (.ref x_LISTED))) (r_LISTED : K.lookup x_LISTED = some ⟨.type "tuple", y_LISTED, .seq u_LISTED v_LISTED, w_LISTED⟩) (p_LISTED : strsV u_LISTED.toList = some (["and", "or", "one"] : List Str)) (m_LISTED : u_LISTED.size ≤ sizeLine)
    {t_MOST_SIZE : Tok} (q_MOST_SIZE : PySem.W.nsIn K mainGlobals "MOST_SIZE" = some (some (.int 60 t_MOST_SIZE)))
    {t_MOST_DEPTH : Tok} (q_MOST_DEPTH : PySem.W.nsIn K mainGlobals "MOST_DEPTH" = some (some (.int 8 t_MOST_DEPTH)))
    : ∃ fd : FuncData, (∀ (s : Shared) (v : Value), BindsTo s fd ⟨[v], []⟩ [("script", v)]) ∧ ∀ base : Heap, K.In base → base.Ns mainGlobals mg → FnG l.prog w K mg base CX0 21 fa fd ["script"] (spW K .S 1 fn_law) := by
  have e := hfa.symm.trans (PySem.W.mg_of X G a29)
  cases e
  have F1 := fun_mk (st := s_law_draw) l1 c1 k1
  have F2 := fun_mk (st := s_law_pick) l2 c2 k2
  have F3 := fun_mk (st := s_law_formula) l3 c3 k3
  have F4 := fun_mk (st := s_law_bent) l4 c4 k4
  have F5 := fun_mk (st := s_law_great) l5 c5 k5
  have F6 := fun_mk (st := s_law_values) l6 c6 k6
  have F7 := fun_mk (st := s_law_choice) l7 c7 k7
  have F8 := fun_mk (st := s_law_are_bools) l8 c8 k8
  have F9 := fun_mk (st := s_is_integer) l9 c9 k9
  have F10 := fun_mk (st := s_is_within) l10 c10 k10
  have F11 := funD_mk (st := s_check_switches) l11 c11 k11 lT11 pT11 (by decide)
  have F12 := fun_mk (st := s_is_choice_of) l12 c12 k12
  have F13 := fun_mk (st := s_is_choice) l13 c13 k13
  have F14 := fun_mk (st := s_is_open_of) l14 c14 k14
  have F15 := fun_mk (st := s_is_open) l15 c15 k15
  have F16 := fun_mk (st := s_law_choices_right) l16 c16 k16
  have F17 := fun_mk (st := s_law_is_whole) l17 c17 k17
  have F18 := fun_mk (st := s_law_look) l18 c18 k18
  have F19 := fun_mk (st := s_law_is_formula) l19 c19 k19
  have F20 := fun_mk (st := s_is_switch) l20 c20 k20
  have F21 := fun_mk (st := s_has_form) l21 c21 k21
  have F22 := fun_mk (st := s_parts_of) l22 c22 k22
  have F23 := fun_mk (st := s_is_built) l23 c23 k23
  have F24 := fun_mk (st := s_size_of) l24 c24 k24
  have F25 := fun_mk (st := s_is_formula_of) l25 c25 k25
  have F26 := fun_mk (st := s_is_formula) l26 c26 k26
  have F27 := fun_mk (st := s_law_right) l27 c27 k27
  have F28 := fun_mk (st := s_law_pot) l28 c28 k28
  have F29 := fun_mk (st := s_law) l29 c29 k29
  have n_divmod := PySem.W.mg_none_of X G z_divmod
  have n_int := PySem.W.mg_none_of X G z_int
  have n_len := PySem.W.mg_none_of X G z_len
  have n_range := PySem.W.mg_none_of X G z_range
  have n_tuple := PySem.W.mg_none_of X G z_tuple
  have n_isinstance := PySem.W.mg_none_of X G z_isinstance
  have n_list := PySem.W.mg_none_of X G z_list
  have n_repr := PySem.W.mg_none_of X G z_repr
  have n_all := PySem.W.mg_none_of X G z_all
  have n_bool := PySem.W.mg_none_of X G z_bool
  have n_str := PySem.W.mg_none_of X G z_str
  have n_sum := PySem.W.mg_none_of X G z_sum
  have n_max := PySem.W.mg_none_of X G z_max
  have n_abs := PySem.W.mg_none_of X G z_abs
  have n_min := PySem.W.mg_none_of X G z_min
  have q_MOST_SWITCHES := gc_int (K := K) (PySem.W.mg_of X G q_MOST_SWITCHES)
  have q_PAIRED := gc_strs (K := K) (PySem.W.mg_of X G q_PAIRED) r_PAIRED p_PAIRED m_PAIRED
  have q_MOST_NUMBER := gc_int (K := K) (PySem.W.mg_of X G q_MOST_NUMBER)
  have q_MOST_PARTS := gc_int (K := K) (PySem.W.mg_of X G q_MOST_PARTS)
  have q_LISTED := gc_strs (K := K) (PySem.W.mg_of X G q_LISTED) r_LISTED p_LISTED m_LISTED
  have q_MOST_SIZE := gc_int (K := K) (PySem.W.mg_of X G q_MOST_SIZE)
  have q_MOST_DEPTH := gc_int (K := K) (PySem.W.mg_of X G q_MOST_DEPTH)
  refine ⟨PySem.W.fnOf "law" "law" (defArgs s_law) (defBody s_law) (defScope s_law) .none kV29 dc29 pm29 an29 cd29 ct29, fun s v => .of_eq rfl, fun base _ _ => ?_⟩
  have f_law_draw := w_law_draw (P := l.prog) (w := w) (base := base) F1 (PySem.W.mg_of X G a1) (F1.binds (ps := ["pot", "many"]) fun _ _ _ _ _ _ us hl => match us, hl with | [_, _], _ => rfl) n_divmod n_int
  have f_law_pick := w_law_pick (P := l.prog) (w := w) (base := base) F2 (PySem.W.mg_of X G a2) (F2.binds (ps := ["pot", "some"]) fun _ _ _ _ _ _ us hl => match us, hl with | [_, _], _ => rfl) n_len f_law_draw
  have f_law_formula := w_law_formula (P := l.prog) (w := w) (base := base) F3 (PySem.W.mg_of X G a3) (F3.binds (ps := ["pot", "switches", "depth"]) fun _ _ _ _ _ _ us hl => match us, hl with | [_, _, _], _ => rfl) n_range n_tuple f_law_draw f_law_pick 4
  have f_law_bent := w_law_bent (P := l.prog) (w := w) (base := base) F4 (PySem.W.mg_of X G a4) (F4.binds (ps := ["pot", "formula"]) fun _ _ _ _ _ _ us hl => match us, hl with | [_, _], _ => rfl) n_len n_isinstance n_tuple n_list f_law_draw f_law_pick 8
  have f_law_great := w_law_great (P := l.prog) (w := w) (base := base) F5 (PySem.W.mg_of X G a5) (F5.binds (ps := ["pot", "switches"]) fun _ _ _ _ _ _ us hl => match us, hl with | [_, _], _ => rfl) n_range f_law_draw f_law_pick
  have f_law_values := w_law_values (P := l.prog) (w := w) (base := base) F6 (PySem.W.mg_of X G a6) (F6.binds (ps := ["pot", "switches"]) fun _ _ _ _ _ _ us hl => match us, hl with | [_, _], _ => rfl) n_range f_law_formula f_law_bent f_law_great f_law_draw
  have f_law_choice := w_law_choice (P := l.prog) (w := w) (base := base) F7 (PySem.W.mg_of X G a7) (F7.binds (ps := ["pot", "switches"]) fun _ _ _ _ _ _ us hl => match us, hl with | [_, _], _ => rfl) n_range n_tuple f_law_draw
  have f_law_are_bools := w_law_are_bools (P := l.prog) (w := w) (base := base) F8 (PySem.W.mg_of X G a8) (F8.binds (ps := ["switches", "value", "some"]) fun _ _ _ _ _ _ us hl => match us, hl with | [_, _, _], _ => rfl) n_len n_isinstance n_tuple n_repr n_all
  have f_is_integer := w_is_integer (P := l.prog) (w := w) (base := base) F9 (PySem.W.mg_of X G a9) (F9.binds (ps := ["value"]) fun _ _ _ _ _ _ us hl => match us, hl with | [_], _ => rfl) n_isinstance n_bool n_int
  have f_is_within := w_is_within (P := l.prog) (w := w) (base := base) F10 (PySem.W.mg_of X G a10) (F10.binds (ps := ["value", "least", "most"]) fun _ _ _ _ _ _ us hl => match us, hl with | [_, _, _], _ => rfl) f_is_integer
  have B_check_switches := b_check_switches (P := l.prog) (w := w) (base := base) F11 q_MOST_SWITCHES f_is_within
  have f_check_switches := fnW_ofD (n := 2) mono_gBody F11 (PySem.W.mg_of X G a11) (by decide) rfl (fun _ _ _ _ _ _ _ us its h1 h2 => match us, its, h1, h2 with | [_, _], [_], _, _ => ⟨_, rfl, rfl⟩) B_check_switches
  have d1_check_switches := fnD_of (n := 1) (j := 0) (dds := [.int 1]) mono_gBody F11 (PySem.W.mg_of X G a11) (by decide) rfl rfl rfl (fun _ _ _ _ _ _ _ us its h1 h2 => match us, its, h1, h2 with | [_], [_], _, _ => ⟨_, rfl, rfl⟩) B_check_switches
  have f_is_choice_of := w_is_choice_of (P := l.prog) (w := w) (base := base) F12 (PySem.W.mg_of X G a12) (F12.binds (ps := ["switches", "value"]) fun _ _ _ _ _ _ us hl => match us, hl with | [_, _], _ => rfl) n_isinstance n_bool n_all n_len n_tuple
  have f_is_choice := w_is_choice (P := l.prog) (w := w) (base := base) F13 (PySem.W.mg_of X G a13) (F13.binds (ps := ["switches", "value"]) fun _ _ _ _ _ _ us hl => match us, hl with | [_, _], _ => rfl) f_is_choice_of d1_check_switches
  have f_is_open_of := w_is_open_of (P := l.prog) (w := w) (base := base) F14 (PySem.W.mg_of X G a14) (F14.binds (ps := ["switches", "value"]) fun _ _ _ _ _ _ us hl => match us, hl with | [_, _], _ => rfl) n_len n_isinstance n_tuple n_bool n_all
  have f_is_open := w_is_open (P := l.prog) (w := w) (base := base) F15 (PySem.W.mg_of X G a15) (F15.binds (ps := ["switches", "value"]) fun _ _ _ _ _ _ us hl => match us, hl with | [_, _], _ => rfl) f_is_open_of d1_check_switches
  have K_k0_is_choice := fnK_of (P := l.prog) (w := w) (base := base) (ps := ["switches", "value"]) (N := ["switches", "value"]) (m := .S) (g := g_is_choice) (ks := ["value", "switches"]) (np := 0) (π := [1, 0]) F13 (PySem.W.mg_of X G a13) (fun s us ws _ hu hw => match us, ws, hu, hw with | [], [_, _], _, _ => .of_eq rfl) rfl (by decide) (b_is_choice (P := l.prog) (w := w) (base := base) F13 f_is_choice_of d1_check_switches)
  have K_k1_is_open := fnK_of (P := l.prog) (w := w) (base := base) (ps := ["switches", "value"]) (N := ["switches", "value"]) (m := .S) (g := g_is_open) (ks := ["value", "switches"]) (np := 0) (π := [1, 0]) F15 (PySem.W.mg_of X G a15) (fun s us ws _ hu hw => match us, ws, hu, hw with | [], [_, _], _, _ => .of_eq rfl) rfl (by decide) (b_is_open (P := l.prog) (w := w) (base := base) F15 f_is_open_of d1_check_switches)
  have f_law_choices_right := w_law_choices_right (P := l.prog) (w := w) (base := base) F16 (PySem.W.mg_of X G a16) (F16.binds (ps := ["pot", "switches"]) fun _ _ _ _ _ _ us hl => match us, hl with | [_, _], _ => rfl) n_list n_repr f_law_choice f_law_draw f_law_are_bools f_is_choice f_is_open K_k0_is_choice K_k1_is_open
  have f_law_is_whole := w_law_is_whole (P := l.prog) (w := w) (base := base) F17 (PySem.W.mg_of X G a17) (F17.binds (ps := ["value", "least", "most"]) fun _ _ _ _ _ _ us hl => match us, hl with | [_, _, _], _ => rfl) n_isinstance n_bool n_int
  have f_law_look := w_law_look (P := l.prog) (w := w) (base := base) F18 (PySem.W.mg_of X G a18) (F18.binds (ps := ["switches", "value"]) fun _ _ _ _ _ _ us hl => match us, hl with | [_, _], _ => rfl) n_isinstance n_str n_len n_tuple n_list n_all n_sum n_max f_law_is_whole 16
  have f_law_is_formula := w_law_is_formula (P := l.prog) (w := w) (base := base) F19 (PySem.W.mg_of X G a19) (F19.binds (ps := ["switches", "value"]) fun _ _ _ _ _ _ us hl => match us, hl with | [_, _], _ => rfl) f_law_look
  have f_is_switch := w_is_switch (P := l.prog) (w := w) (base := base) F20 (PySem.W.mg_of X G a20) (F20.binds (ps := ["switches", "value"]) fun _ _ _ _ _ _ us hl => match us, hl with | [_, _], _ => rfl) f_is_within
  have f_has_form := w_has_form (P := l.prog) (w := w) (base := base) F21 (PySem.W.mg_of X G a21) (F21.binds (ps := ["switches", "value"]) fun _ _ _ _ _ _ us hl => match us, hl with | [_, _], _ => rfl) n_len q_PAIRED q_MOST_NUMBER q_MOST_PARTS q_LISTED f_is_switch f_is_within
  have f_parts_of := w_parts_of (P := l.prog) (w := w) (base := base) F22 (PySem.W.mg_of X G a22) (F22.binds (ps := ["formula"]) fun _ _ _ _ _ _ us hl => match us, hl with | [_], _ => rfl) n_list q_PAIRED q_LISTED
  have f_is_built := w_is_built (P := l.prog) (w := w) (base := base) F23 (PySem.W.mg_of X G a23) (F23.binds (ps := ["switches", "value", "depth"]) fun _ _ _ _ _ _ us hl => match us, hl with | [_, _, _], _ => rfl) n_isinstance n_str n_tuple n_all f_has_form f_parts_of 10
  have f_size_of := w_size_of (P := l.prog) (w := w) (base := base) F24 (PySem.W.mg_of X G a24) (F24.binds (ps := ["formula"]) fun _ _ _ _ _ _ us hl => match us, hl with | [_], _ => rfl) n_sum f_parts_of 16
  have f_is_formula_of := w_is_formula_of (P := l.prog) (w := w) (base := base) F25 (PySem.W.mg_of X G a25) (F25.binds (ps := ["switches", "value"]) fun _ _ _ _ _ _ us hl => match us, hl with | [_, _], _ => rfl) q_MOST_SIZE q_MOST_DEPTH f_size_of f_is_built
  have f_is_formula := w_is_formula (P := l.prog) (w := w) (base := base) F26 (PySem.W.mg_of X G a26) (F26.binds (ps := ["switches", "value"]) fun _ _ _ _ _ _ us hl => match us, hl with | [_, _], _ => rfl) f_is_formula_of d1_check_switches
  have K_k0_is_formula := fnK_of (P := l.prog) (w := w) (base := base) (ps := ["switches", "value"]) (N := ["switches", "value"]) (m := .S) (g := g_is_formula) (ks := ["value", "switches"]) (np := 0) (π := [1, 0]) F26 (PySem.W.mg_of X G a26) (fun s us ws _ hu hw => match us, ws, hu, hw with | [], [_, _], _, _ => .of_eq rfl) rfl (by decide) (b_is_formula (P := l.prog) (w := w) (base := base) F26 f_is_formula_of d1_check_switches)
  have f_law_right := w_law_right (P := l.prog) (w := w) (base := base) F27 (PySem.W.mg_of X G a27) (F27.binds (ps := ["pot"]) fun _ _ _ _ _ _ us hl => match us, hl with | [_], _ => rfl) n_repr f_law_draw f_law_values f_law_is_formula f_is_formula f_law_choices_right K_k0_is_formula
  have f_law_pot := FnW.pot (w_law_pot (P := l.prog) (w := w) (base := base) F28 (PySem.W.mg_of X G a28) (F28.binds (ps := ["script", "k"]) fun _ _ _ _ _ _ us hl => match us, hl with | [_, _], _ => rfl) n_len n_abs n_max n_int)
  exact b_law F29 n_range n_max n_min n_len n_all f_law_right f_law_pot
end K11

namespace K11
open PySem PySem.Spec PyProof.Rows L2 WL
def isInt : PyData → Bool
  | .int _ => true
  | _ => false
def inR (lo hi : Int) : PyData → Bool
  | .int i => decide (lo ≤ i) && decide (i ≤ hi)
  | _ => false
theorem is_integer_ok {d : PyData} {Q : PyData → Prop} (h : noTok d = true) (q : Q (.bool (isInt d))) : fn_is_integer [d] Q := by
  refine gBody_of ?_
  unfold g_is_integer
  simp [wRet, wAndV, wU, wVb, wNotV, args, isiD, h, endB]
  cases d <;> simp_all [isTy, isInt]
theorem is_within_ok {d : PyData} {lo hi : Int} {Q : PyData → Prop} (h : noTok d = true) (q : Q (.bool (inR lo hi d))) : fn_is_within [d, .int lo, .int hi] Q := by
  refine gBody_of ?_
  unfold g_is_within
  simp [wRet, wAndV, wCall, wCons, wNil, wV, wVb, wChain, args, endB]
  refine is_integer_ok h ?_
  cases d with
  | int i => simp_all [isInt, inR]; by_cases c : lo ≤ i <;> simp_all
  | _ => simp_all [isInt, inR]
theorem is_switch_ok {d : PyData} {sw : Int} {Q : PyData → Prop} (h : noTok d = true) (q : Q (.bool (inR 0 (sw - 1) d))) : fn_is_switch [.int sw, d] Q := by
  refine gBody_of ?_
  unfold g_is_switch
  simp [wRet, wCall, wCons, wNil, wV, wVb, wB, wC, args, endB]
  exact is_within_ok h q
end K11

namespace K11
open PySem PySem.Spec PyProof.Rows L2 WL
@[simp] theorem flatD_str {s : Str} : flatD (.str s) = true := rfl
@[simp] theorem eqFlat_str {a b : Str} : eqFlat (.str a) (.str b) = (a == b) := rfl
@[simp] theorem inF_nil {x : PyData} : inF x [] = false := rfl
@[simp] theorem inF_cons {x y : PyData} {l : List PyData} : inF x (y :: l) = (eqFlat y x || inF x l) := rfl
theorem ex2 {x y : PyData} {p : PyData → PyData → Prop} : (∃ d1 d2, (x = d1 ∧ y = d2) ∧ p d1 d2) ↔ p x y := ⟨fun ⟨_, _, ⟨rfl, rfl⟩, h⟩ => h, fun h => ⟨_, _, ⟨rfl, rfl⟩, h⟩⟩
theorem ex3 {x y z : PyData} {p : PyData → PyData → PyData → Prop} : (∃ d1 d2 d3, (x = d1 ∧ y = d2 ∧ z = d3) ∧ p d1 d2 d3) ↔ p x y z := ⟨fun ⟨_, _, _, ⟨rfl, rfl, rfl⟩, h⟩ => h, fun h => ⟨_, _, _, ⟨rfl, rfl, rfl⟩, h⟩⟩
@[simp] theorem sz2 : 2 ≤ sizeLine := by decide
@[simp] theorem sz0 : 0 ≤ sizeLine := by decide
@[simp] theorem sz4 : 4 ≤ sizeLine := by decide
@[simp] theorem sz7 : 7 ≤ sizeLine := by decide
theorem words (w : Str) : w = "yes" ∨ w = "no" ∨ w = "on" ∨ w = "not" ∨ w = "then" ∨ w = "same" ∨ w = "most" ∨ w = "and" ∨ w = "or" ∨ w = "one" ∨ ((w == ("yes" : Str)) = false ∧ (("yes" : Str) == w) = false ∧ (w == ("no" : Str)) = false ∧ (("no" : Str) == w) = false ∧ (w == ("on" : Str)) = false ∧ (("on" : Str) == w) = false ∧ (w == ("not" : Str)) = false ∧ (("not" : Str) == w) = false ∧ (w == ("then" : Str)) = false ∧ (("then" : Str) == w) = false ∧ (w == ("same" : Str)) = false ∧ (("same" : Str) == w) = false ∧ (w == ("most" : Str)) = false ∧ (("most" : Str) == w) = false ∧ (w == ("and" : Str)) = false ∧ (("and" : Str) == w) = false ∧ (w == ("or" : Str)) = false ∧ (("or" : Str) == w) = false ∧ (w == ("one" : Str)) = false ∧ (("one" : Str) == w) = false) := by
  have sym : ∀ s : Str, w ≠ s → (w == s) = false ∧ (s == w) = false := fun s h => ⟨beq_eq_false_iff_ne.mpr h, beq_eq_false_iff_ne.mpr fun e => h e.symm⟩
  by_cases h0 : w = "yes"
  · exact (.inl h0)
  by_cases h1 : w = "no"
  · exact (.inr (.inl h1))
  by_cases h2 : w = "on"
  · exact (.inr (.inr (.inl h2)))
  by_cases h3 : w = "not"
  · exact (.inr (.inr (.inr (.inl h3))))
  by_cases h4 : w = "then"
  · exact (.inr (.inr (.inr (.inr (.inl h4)))))
  by_cases h5 : w = "same"
  · exact (.inr (.inr (.inr (.inr (.inr (.inl h5))))))
  by_cases h6 : w = "most"
  · exact (.inr (.inr (.inr (.inr (.inr (.inr (.inl h6)))))))
  by_cases h7 : w = "and"
  · exact (.inr (.inr (.inr (.inr (.inr (.inr (.inr (.inl h7))))))))
  by_cases h8 : w = "or"
  · exact (.inr (.inr (.inr (.inr (.inr (.inr (.inr (.inr (.inl h8)))))))))
  by_cases h9 : w = "one"
  · exact (.inr (.inr (.inr (.inr (.inr (.inr (.inr (.inr (.inr (.inl h9))))))))))
  exact (.inr (.inr (.inr (.inr (.inr (.inr (.inr (.inr (.inr (.inr ⟨(sym _ h0).1, (sym _ h0).2, (sym _ h1).1, (sym _ h1).2, (sym _ h2).1, (sym _ h2).2, (sym _ h3).1, (sym _ h3).2, (sym _ h4).1, (sym _ h4).2, (sym _ h5).1, (sym _ h5).2, (sym _ h6).1, (sym _ h6).2, (sym _ h7).1, (sym _ h7).2, (sym _ h8).1, (sym _ h8).2, (sym _ h9).1, (sym _ h9).2⟩))))))))))
@[simp] theorem ok_yes : PyData.strOk ("yes" : Str) = true := by decide +kernel
@[simp] theorem q_yes_yes : (("yes" : Str) == ("yes" : Str)) = true := by decide +kernel
@[simp] theorem q_yes_no : (("yes" : Str) == ("no" : Str)) = false := by decide +kernel
@[simp] theorem q_yes_on : (("yes" : Str) == ("on" : Str)) = false := by decide +kernel
@[simp] theorem q_yes_not : (("yes" : Str) == ("not" : Str)) = false := by decide +kernel
@[simp] theorem q_yes_then : (("yes" : Str) == ("then" : Str)) = false := by decide +kernel
@[simp] theorem q_yes_same : (("yes" : Str) == ("same" : Str)) = false := by decide +kernel
@[simp] theorem q_yes_most : (("yes" : Str) == ("most" : Str)) = false := by decide +kernel
@[simp] theorem q_yes_and : (("yes" : Str) == ("and" : Str)) = false := by decide +kernel
@[simp] theorem q_yes_or : (("yes" : Str) == ("or" : Str)) = false := by decide +kernel
@[simp] theorem q_yes_one : (("yes" : Str) == ("one" : Str)) = false := by decide +kernel
@[simp] theorem ok_no : PyData.strOk ("no" : Str) = true := by decide +kernel
@[simp] theorem q_no_yes : (("no" : Str) == ("yes" : Str)) = false := by decide +kernel
@[simp] theorem q_no_no : (("no" : Str) == ("no" : Str)) = true := by decide +kernel
@[simp] theorem q_no_on : (("no" : Str) == ("on" : Str)) = false := by decide +kernel
@[simp] theorem q_no_not : (("no" : Str) == ("not" : Str)) = false := by decide +kernel
@[simp] theorem q_no_then : (("no" : Str) == ("then" : Str)) = false := by decide +kernel
@[simp] theorem q_no_same : (("no" : Str) == ("same" : Str)) = false := by decide +kernel
@[simp] theorem q_no_most : (("no" : Str) == ("most" : Str)) = false := by decide +kernel
@[simp] theorem q_no_and : (("no" : Str) == ("and" : Str)) = false := by decide +kernel
@[simp] theorem q_no_or : (("no" : Str) == ("or" : Str)) = false := by decide +kernel
@[simp] theorem q_no_one : (("no" : Str) == ("one" : Str)) = false := by decide +kernel
@[simp] theorem ok_on : PyData.strOk ("on" : Str) = true := by decide +kernel
@[simp] theorem q_on_yes : (("on" : Str) == ("yes" : Str)) = false := by decide +kernel
@[simp] theorem q_on_no : (("on" : Str) == ("no" : Str)) = false := by decide +kernel
@[simp] theorem q_on_on : (("on" : Str) == ("on" : Str)) = true := by decide +kernel
@[simp] theorem q_on_not : (("on" : Str) == ("not" : Str)) = false := by decide +kernel
@[simp] theorem q_on_then : (("on" : Str) == ("then" : Str)) = false := by decide +kernel
@[simp] theorem q_on_same : (("on" : Str) == ("same" : Str)) = false := by decide +kernel
@[simp] theorem q_on_most : (("on" : Str) == ("most" : Str)) = false := by decide +kernel
@[simp] theorem q_on_and : (("on" : Str) == ("and" : Str)) = false := by decide +kernel
@[simp] theorem q_on_or : (("on" : Str) == ("or" : Str)) = false := by decide +kernel
@[simp] theorem q_on_one : (("on" : Str) == ("one" : Str)) = false := by decide +kernel
@[simp] theorem ok_not : PyData.strOk ("not" : Str) = true := by decide +kernel
@[simp] theorem q_not_yes : (("not" : Str) == ("yes" : Str)) = false := by decide +kernel
@[simp] theorem q_not_no : (("not" : Str) == ("no" : Str)) = false := by decide +kernel
@[simp] theorem q_not_on : (("not" : Str) == ("on" : Str)) = false := by decide +kernel
@[simp] theorem q_not_not : (("not" : Str) == ("not" : Str)) = true := by decide +kernel
@[simp] theorem q_not_then : (("not" : Str) == ("then" : Str)) = false := by decide +kernel
@[simp] theorem q_not_same : (("not" : Str) == ("same" : Str)) = false := by decide +kernel
@[simp] theorem q_not_most : (("not" : Str) == ("most" : Str)) = false := by decide +kernel
@[simp] theorem q_not_and : (("not" : Str) == ("and" : Str)) = false := by decide +kernel
@[simp] theorem q_not_or : (("not" : Str) == ("or" : Str)) = false := by decide +kernel
@[simp] theorem q_not_one : (("not" : Str) == ("one" : Str)) = false := by decide +kernel
@[simp] theorem ok_then : PyData.strOk ("then" : Str) = true := by decide +kernel
@[simp] theorem q_then_yes : (("then" : Str) == ("yes" : Str)) = false := by decide +kernel
@[simp] theorem q_then_no : (("then" : Str) == ("no" : Str)) = false := by decide +kernel
@[simp] theorem q_then_on : (("then" : Str) == ("on" : Str)) = false := by decide +kernel
@[simp] theorem q_then_not : (("then" : Str) == ("not" : Str)) = false := by decide +kernel
@[simp] theorem q_then_then : (("then" : Str) == ("then" : Str)) = true := by decide +kernel
@[simp] theorem q_then_same : (("then" : Str) == ("same" : Str)) = false := by decide +kernel
@[simp] theorem q_then_most : (("then" : Str) == ("most" : Str)) = false := by decide +kernel
@[simp] theorem q_then_and : (("then" : Str) == ("and" : Str)) = false := by decide +kernel
@[simp] theorem q_then_or : (("then" : Str) == ("or" : Str)) = false := by decide +kernel
@[simp] theorem q_then_one : (("then" : Str) == ("one" : Str)) = false := by decide +kernel
@[simp] theorem ok_same : PyData.strOk ("same" : Str) = true := by decide +kernel
@[simp] theorem q_same_yes : (("same" : Str) == ("yes" : Str)) = false := by decide +kernel
@[simp] theorem q_same_no : (("same" : Str) == ("no" : Str)) = false := by decide +kernel
@[simp] theorem q_same_on : (("same" : Str) == ("on" : Str)) = false := by decide +kernel
@[simp] theorem q_same_not : (("same" : Str) == ("not" : Str)) = false := by decide +kernel
@[simp] theorem q_same_then : (("same" : Str) == ("then" : Str)) = false := by decide +kernel
@[simp] theorem q_same_same : (("same" : Str) == ("same" : Str)) = true := by decide +kernel
@[simp] theorem q_same_most : (("same" : Str) == ("most" : Str)) = false := by decide +kernel
@[simp] theorem q_same_and : (("same" : Str) == ("and" : Str)) = false := by decide +kernel
@[simp] theorem q_same_or : (("same" : Str) == ("or" : Str)) = false := by decide +kernel
@[simp] theorem q_same_one : (("same" : Str) == ("one" : Str)) = false := by decide +kernel
@[simp] theorem ok_most : PyData.strOk ("most" : Str) = true := by decide +kernel
@[simp] theorem q_most_yes : (("most" : Str) == ("yes" : Str)) = false := by decide +kernel
@[simp] theorem q_most_no : (("most" : Str) == ("no" : Str)) = false := by decide +kernel
@[simp] theorem q_most_on : (("most" : Str) == ("on" : Str)) = false := by decide +kernel
@[simp] theorem q_most_not : (("most" : Str) == ("not" : Str)) = false := by decide +kernel
@[simp] theorem q_most_then : (("most" : Str) == ("then" : Str)) = false := by decide +kernel
@[simp] theorem q_most_same : (("most" : Str) == ("same" : Str)) = false := by decide +kernel
@[simp] theorem q_most_most : (("most" : Str) == ("most" : Str)) = true := by decide +kernel
@[simp] theorem q_most_and : (("most" : Str) == ("and" : Str)) = false := by decide +kernel
@[simp] theorem q_most_or : (("most" : Str) == ("or" : Str)) = false := by decide +kernel
@[simp] theorem q_most_one : (("most" : Str) == ("one" : Str)) = false := by decide +kernel
@[simp] theorem ok_and : PyData.strOk ("and" : Str) = true := by decide +kernel
@[simp] theorem q_and_yes : (("and" : Str) == ("yes" : Str)) = false := by decide +kernel
@[simp] theorem q_and_no : (("and" : Str) == ("no" : Str)) = false := by decide +kernel
@[simp] theorem q_and_on : (("and" : Str) == ("on" : Str)) = false := by decide +kernel
@[simp] theorem q_and_not : (("and" : Str) == ("not" : Str)) = false := by decide +kernel
@[simp] theorem q_and_then : (("and" : Str) == ("then" : Str)) = false := by decide +kernel
@[simp] theorem q_and_same : (("and" : Str) == ("same" : Str)) = false := by decide +kernel
@[simp] theorem q_and_most : (("and" : Str) == ("most" : Str)) = false := by decide +kernel
@[simp] theorem q_and_and : (("and" : Str) == ("and" : Str)) = true := by decide +kernel
@[simp] theorem q_and_or : (("and" : Str) == ("or" : Str)) = false := by decide +kernel
@[simp] theorem q_and_one : (("and" : Str) == ("one" : Str)) = false := by decide +kernel
@[simp] theorem ok_or : PyData.strOk ("or" : Str) = true := by decide +kernel
@[simp] theorem q_or_yes : (("or" : Str) == ("yes" : Str)) = false := by decide +kernel
@[simp] theorem q_or_no : (("or" : Str) == ("no" : Str)) = false := by decide +kernel
@[simp] theorem q_or_on : (("or" : Str) == ("on" : Str)) = false := by decide +kernel
@[simp] theorem q_or_not : (("or" : Str) == ("not" : Str)) = false := by decide +kernel
@[simp] theorem q_or_then : (("or" : Str) == ("then" : Str)) = false := by decide +kernel
@[simp] theorem q_or_same : (("or" : Str) == ("same" : Str)) = false := by decide +kernel
@[simp] theorem q_or_most : (("or" : Str) == ("most" : Str)) = false := by decide +kernel
@[simp] theorem q_or_and : (("or" : Str) == ("and" : Str)) = false := by decide +kernel
@[simp] theorem q_or_or : (("or" : Str) == ("or" : Str)) = true := by decide +kernel
@[simp] theorem q_or_one : (("or" : Str) == ("one" : Str)) = false := by decide +kernel
@[simp] theorem ok_one : PyData.strOk ("one" : Str) = true := by decide +kernel
@[simp] theorem q_one_yes : (("one" : Str) == ("yes" : Str)) = false := by decide +kernel
@[simp] theorem q_one_no : (("one" : Str) == ("no" : Str)) = false := by decide +kernel
@[simp] theorem q_one_on : (("one" : Str) == ("on" : Str)) = false := by decide +kernel
@[simp] theorem q_one_not : (("one" : Str) == ("not" : Str)) = false := by decide +kernel
@[simp] theorem q_one_then : (("one" : Str) == ("then" : Str)) = false := by decide +kernel
@[simp] theorem q_one_same : (("one" : Str) == ("same" : Str)) = false := by decide +kernel
@[simp] theorem q_one_most : (("one" : Str) == ("most" : Str)) = false := by decide +kernel
@[simp] theorem q_one_and : (("one" : Str) == ("and" : Str)) = false := by decide +kernel
@[simp] theorem q_one_or : (("one" : Str) == ("or" : Str)) = false := by decide +kernel
@[simp] theorem q_one_one : (("one" : Str) == ("one" : Str)) = true := by decide +kernel
end K11

namespace K11
open PySem PySem.Spec PyProof.Rows L2 WL
def inH (lo hi : Int) : List PyData → Bool
  | x :: _ => inR lo hi x
  | [] => false
def form (sw : Int) (w : Str) (rest : List PyData) : Bool :=
  if w == "yes" then decide (rest = []) else if w == "no" then decide (rest = []) else if w == "on" then decide ((rest.length : Int) = 1) && inH 0 (sw - 1) rest else if w == "not" then decide ((rest.length : Int) = 1) else
  if w == "then" then decide ((rest.length : Int) = 2) else if w == "same" then decide ((rest.length : Int) = 2) else if w == "most" then decide (3 ≤ (rest.length : Int) ∧ (rest.length : Int) ≤ 9) && inH 0 7 rest else
  (("and" : Str) == w || ("or" : Str) == w || ("one" : Str) == w) && decide (2 ≤ (rest.length : Int) ∧ (rest.length : Int) ≤ 8)
def parts (w : Str) (rest : List PyData) : List PyData :=
  if ("and" : Str) == w || ("or" : Str) == w || ("one" : Str) == w || ("then" : Str) == w || ("same" : Str) == w || w == "not" then rest else if w == "most" then rest.drop 1 else []
set_option maxHeartbeats 4000000 in
theorem has_form_ok {sw : Int} {w : Str} {rest : List PyData} {Q : PyData → Prop} (hw : PyData.strOk w = true) (h : ∀ d ∈ rest, noTok d = true) (q : Q (.bool (form sw w rest))) : fn_has_form [.int sw, .tuple (.str w :: rest)] Q := by
  refine gBody_of ?_
  unfold g_has_form
  rcases words w with rfl | rfl | rfl | rfl | rfl | rfl | rfl | rfl | rfl | rfl | ⟨a1, a2, b1, b2, c1, c2, d1, d2, e1, e2, f1, f2, g1, g2, k1, k2, l1, l2, m1, m2⟩
  · simp [wSeq, wIf, wT, wNot, wAnd, wOr, wPar, wCons, wNil, wB, wU, wV, wVb, wC, wRet, wSkip, wTup, wLst, wCall, wChain, wAndV, wSl, wNo, wPart, wItems, args, endB, inD, eqD_str, ex2, hw]
    simp [form, parts] at q
    exact q
  · simp [wSeq, wIf, wT, wNot, wAnd, wOr, wPar, wCons, wNil, wB, wU, wV, wVb, wC, wRet, wSkip, wTup, wLst, wCall, wChain, wAndV, wSl, wNo, wPart, wItems, args, endB, inD, eqD_str, ex2, hw]
    simp [form, parts] at q
    exact q
  · simp [wSeq, wIf, wT, wNot, wAnd, wOr, wPar, wCons, wNil, wB, wU, wV, wVb, wC, wRet, wSkip, wTup, wLst, wCall, wChain, wAndV, wSl, wNo, wPart, wItems, args, endB, inD, eqD_str, ex2, hw]
    simp [form, parts] at q
    by_cases c : (rest.length : Int) = 1
    · obtain ⟨x, rfl⟩ : ∃ x, rest = [x] := List.length_eq_one_iff.mp (by omega)
      exact .inr ⟨c, x, ixD_1, is_switch_ok (h x (by simp)) (by simpa [inH] using q)⟩
    · exact .inl ⟨c, by simpa [c] using q⟩
  · simp [wSeq, wIf, wT, wNot, wAnd, wOr, wPar, wCons, wNil, wB, wU, wV, wVb, wC, wRet, wSkip, wTup, wLst, wCall, wChain, wAndV, wSl, wNo, wPart, wItems, args, endB, inD, eqD_str, ex2, hw]
    simp [form, parts] at q
    exact q
  · simp [wSeq, wIf, wT, wNot, wAnd, wOr, wPar, wCons, wNil, wB, wU, wV, wVb, wC, wRet, wSkip, wTup, wLst, wCall, wChain, wAndV, wSl, wNo, wPart, wItems, args, endB, inD, eqD_str, ex2, hw]
    simp [form, parts] at q
    exact q
  · simp [wSeq, wIf, wT, wNot, wAnd, wOr, wPar, wCons, wNil, wB, wU, wV, wVb, wC, wRet, wSkip, wTup, wLst, wCall, wChain, wAndV, wSl, wNo, wPart, wItems, args, endB, inD, eqD_str, ex2, hw]
    simp [form, parts] at q
    exact q
  · simp [wSeq, wIf, wT, wNot, wAnd, wOr, wPar, wCons, wNil, wB, wU, wV, wVb, wC, wRet, wSkip, wTup, wLst, wCall, wChain, wAndV, wSl, wNo, wPart, wItems, args, endB, inD, eqD_str, ex2, hw]
    simp [form, parts] at q
    by_cases c : 3 ≤ (rest.length : Int)
    · by_cases c2 : (rest.length : Int) ≤ 9
      · cases rest with
        | nil => simp at c
        | cons x r => exact .inr ⟨c, .inr ⟨c2, x, ixD_1, is_within_ok (h x (by simp)) (by
            rw [decide_eq_true c, decide_eq_true c2] at q
            simpa [inH] using q)⟩⟩
      · exact .inr ⟨c, .inl ⟨by omega, by simpa [c, c2] using q⟩⟩
    · exact .inl ⟨by omega, by simpa [c] using q⟩
  · simp [wSeq, wIf, wT, wNot, wAnd, wOr, wPar, wCons, wNil, wB, wU, wV, wVb, wC, wRet, wSkip, wTup, wLst, wCall, wChain, wAndV, wSl, wNo, wPart, wItems, args, endB, inD, eqD_str, ex2, hw]
    simp [form, parts] at q
    by_cases c : 2 ≤ (rest.length : Int)
    · exact .inr ⟨c, by simpa [c] using q⟩
    · exact .inl ⟨by omega, by simpa [c] using q⟩
  · simp [wSeq, wIf, wT, wNot, wAnd, wOr, wPar, wCons, wNil, wB, wU, wV, wVb, wC, wRet, wSkip, wTup, wLst, wCall, wChain, wAndV, wSl, wNo, wPart, wItems, args, endB, inD, eqD_str, ex2, hw]
    simp [form, parts] at q
    by_cases c : 2 ≤ (rest.length : Int)
    · exact .inr ⟨c, by simpa [c] using q⟩
    · exact .inl ⟨by omega, by simpa [c] using q⟩
  · simp [wSeq, wIf, wT, wNot, wAnd, wOr, wPar, wCons, wNil, wB, wU, wV, wVb, wC, wRet, wSkip, wTup, wLst, wCall, wChain, wAndV, wSl, wNo, wPart, wItems, args, endB, inD, eqD_str, ex2, hw]
    simp [form, parts] at q
    by_cases c : 2 ≤ (rest.length : Int)
    · exact .inr ⟨c, by simpa [c] using q⟩
    · exact .inl ⟨by omega, by simpa [c] using q⟩
  · simp [wSeq, wIf, wT, wNot, wAnd, wOr, wPar, wCons, wNil, wB, wU, wV, wVb, wC, wRet, wSkip, wTup, wLst, wCall, wChain, wAndV, wSl, wNo, wPart, wItems, args, endB, inD, eqD_str, ex2, hw, a1, a2, b1, b2, c1, c2, d1, d2, e1, e2, f1, f2, g1, g2, k1, k2, l1, l2, m1, m2]
    simp [form, parts, a1, a2, b1, b2, c1, c2, d1, d2, e1, e2, f1, f2, g1, g2, k1, k2, l1, l2, m1, m2] at q
    exact q
end K11

namespace K11
open PySem PySem.Spec PyProof.Rows L2 WL
set_option maxHeartbeats 4000000 in
theorem parts_of_ok {w : Str} {rest : List PyData} {Q : PyData → Prop} (hw : PyData.strOk w = true) (q : Q (.list (parts w rest))) : fn_parts_of [.tuple (.str w :: rest)] Q := by
  refine gBody_of ?_
  unfold g_parts_of
  rcases words w with rfl | rfl | rfl | rfl | rfl | rfl | rfl | rfl | rfl | rfl | ⟨a1, a2, b1, b2, c1, c2, d1, d2, e1, e2, f1, f2, g1, g2, k1, k2, l1, l2, m1, m2⟩
  · simp [wSeq, wIf, wT, wNot, wAnd, wOr, wPar, wCons, wNil, wB, wU, wV, wVb, wC, wRet, wSkip, wTup, wLst, wCall, wChain, wAndV, wSl, wNo, wPart, wItems, args, endB, inD, eqD_str, ex2, hw]
    simp [form, parts] at q
    exact q
  · simp [wSeq, wIf, wT, wNot, wAnd, wOr, wPar, wCons, wNil, wB, wU, wV, wVb, wC, wRet, wSkip, wTup, wLst, wCall, wChain, wAndV, wSl, wNo, wPart, wItems, args, endB, inD, eqD_str, ex2, hw]
    simp [form, parts] at q
    exact q
  · simp [wSeq, wIf, wT, wNot, wAnd, wOr, wPar, wCons, wNil, wB, wU, wV, wVb, wC, wRet, wSkip, wTup, wLst, wCall, wChain, wAndV, wSl, wNo, wPart, wItems, args, endB, inD, eqD_str, ex2, hw]
    simp [form, parts] at q
    exact q
  · simp [wSeq, wIf, wT, wNot, wAnd, wOr, wPar, wCons, wNil, wB, wU, wV, wVb, wC, wRet, wSkip, wTup, wLst, wCall, wChain, wAndV, wSl, wNo, wPart, wItems, args, endB, inD, eqD_str, ex2, hw]
    simp [form, parts] at q
    exact q
  · simp [wSeq, wIf, wT, wNot, wAnd, wOr, wPar, wCons, wNil, wB, wU, wV, wVb, wC, wRet, wSkip, wTup, wLst, wCall, wChain, wAndV, wSl, wNo, wPart, wItems, args, endB, inD, eqD_str, ex2, hw]
    simp [form, parts] at q
    exact q
  · simp [wSeq, wIf, wT, wNot, wAnd, wOr, wPar, wCons, wNil, wB, wU, wV, wVb, wC, wRet, wSkip, wTup, wLst, wCall, wChain, wAndV, wSl, wNo, wPart, wItems, args, endB, inD, eqD_str, ex2, hw]
    simp [form, parts] at q
    exact q
  · simp [wSeq, wIf, wT, wNot, wAnd, wOr, wPar, wCons, wNil, wB, wU, wV, wVb, wC, wRet, wSkip, wTup, wLst, wCall, wChain, wAndV, wSl, wNo, wPart, wItems, args, endB, inD, eqD_str, ex2, hw]
    simp [form, parts] at q
    exact q
  · simp [wSeq, wIf, wT, wNot, wAnd, wOr, wPar, wCons, wNil, wB, wU, wV, wVb, wC, wRet, wSkip, wTup, wLst, wCall, wChain, wAndV, wSl, wNo, wPart, wItems, args, endB, inD, eqD_str, ex2, hw]
    simp [form, parts] at q
    exact q
  · simp [wSeq, wIf, wT, wNot, wAnd, wOr, wPar, wCons, wNil, wB, wU, wV, wVb, wC, wRet, wSkip, wTup, wLst, wCall, wChain, wAndV, wSl, wNo, wPart, wItems, args, endB, inD, eqD_str, ex2, hw]
    simp [form, parts] at q
    exact q
  · simp [wSeq, wIf, wT, wNot, wAnd, wOr, wPar, wCons, wNil, wB, wU, wV, wVb, wC, wRet, wSkip, wTup, wLst, wCall, wChain, wAndV, wSl, wNo, wPart, wItems, args, endB, inD, eqD_str, ex2, hw]
    simp [form, parts] at q
    exact q
  · simp [wSeq, wIf, wT, wNot, wAnd, wOr, wPar, wCons, wNil, wB, wU, wV, wVb, wC, wRet, wSkip, wTup, wLst, wCall, wChain, wAndV, wSl, wNo, wPart, wItems, args, endB, inD, eqD_str, ex2, hw, a1, a2, b1, b2, c1, c2, d1, d2, e1, e2, f1, f2, g1, g2, k1, k2, l1, l2, m1, m2]
    simp [form, parts, a1, a2, b1, b2, c1, c2, d1, d2, e1, e2, f1, f2, g1, g2, k1, k2, l1, l2, m1, m2] at q
    exact q
/-- whether a value is built right, k deep -/
def bl : Nat → Int → PyData → Bool
  | 0, _, _ => false
  | k + 1, sw, .tuple (.str w :: rest) => form sw w rest && (parts w rest).all (bl k sw)
  | _ + 1, _, _ => false
def sz : Nat → PyData → Int
  | 0, _ => 0
  | k + 1, .tuple (.str w :: rest) => 1 + ((parts w rest).map (sz k)).sum
  | _ + 1, _ => 0
/-- what is asked of a value: no pot within, its texts plain -/
def tame : PyData → Prop
  | .str x => PyData.strOk x = true
  | .list ds => ∀ d ∈ ds, tame d
  | .tuple ds => ∀ d ∈ ds, tame d
  | .dict kvs => kvs = []
  | _ => True
theorem tame.noTok {d : PyData} (h : tame d) : noTok d = true := by
  cases d <;> simp_all [tame, WL.noTok]
theorem tame.parts {w : Str} {rest : List PyData} (h : ∀ d ∈ rest, tame d) : ∀ d ∈ parts w rest, tame d := by
  intro d hd
  unfold K11.parts at hd
  split at hd
  · exact h d hd
  · split at hd
    · exact h d (List.mem_of_mem_drop hd)
    · cases hd
end K11

namespace K11
open PySem PySem.Spec PyProof.Rows L2 WL
@[simp] theorem isi_tup {T : Ty} {ds : List PyData} : isiD T (.tuple ds) = some (.bool (isTy T (.tuple ds))) := rfl
@[simp] theorem isi_str {T : Ty} {s : Str} : isiD T (.str s) = some (.bool (isTy T (.str s))) := rfl
theorem isiD_of {T : Ty} {d : PyData} (h : noTok d = true) : isiD T d = some (.bool (isTy T d)) := by unfold isiD; rw [if_pos h]
theorem tame_tup {ds : List PyData} : tame (.tuple ds) ↔ ∀ d ∈ ds, tame d := by rw [tame]
theorem tame_lst {ds : List PyData} : tame (.list ds) ↔ ∀ d ∈ ds, tame d := by rw [tame]
theorem tame_str {x : Str} : tame (.str x) ↔ PyData.strOk x = true := by rw [tame]
set_option maxHeartbeats 4000000 in
theorem is_built_ok : ∀ (n k : Nat) (sw : Int) (v : PyData) (Q : PyData → Prop), k < n → tame v → Q (.bool (bl k sw v)) → fn_is_built n [.int sw, v, .int k] Q
  | 0, _, _, _, _, h, _, _ => absurd h (Nat.not_lt_zero _)
  | n + 1, 0, sw, v, Q, h, t, q => by
    refine gBody_of ?_
    unfold g_is_built
    simp [wSeq, wIf, wT, wOr, wRet, wB, wC, wVb, args, endB]
    exact q
  | n + 1, k + 1, sw, v, Q, h, t, q => by
    refine gBody_of ?_
    unfold g_is_built
    have hk : ¬ ((k : Int) + 1 < 1) := by omega
    cases v with
    | tuple ds =>
      cases ds with
      | nil =>
        simp [wSeq, wIf, wT, wOr, wNot, wRet, wB, wU, wC, wVb, wTup, wNil, args, endB, hk, isTy]
        exact q
      | cons x rest =>
        have tx : tame x := tame_tup.mp t x List.mem_cons_self
        have tr : ∀ d ∈ rest, tame d := fun d hd => tame_tup.mp t d (List.mem_cons_of_mem _ hd)
        cases x with
        | str w =>
          simp [wSeq, wIf, wT, wOr, wNot, wRet, wB, wU, wC, wV, wVb, wTup, wNil, wCons, wCall, wLc, wItems, wipeE, args, endB, hk, isTy, wSkip]
          refine has_form_ok (tame_str.mp tx) (fun d hd => (tr d hd).noTok) ?_
          have q : Q (.bool (form sw w rest && (parts w rest).all (bl k sw))) := q
          cases hf : form sw w rest with
          | false => rw [hf] at q; exact .inl ⟨rfl, by simpa using q⟩
          | true =>
            rw [hf] at q
            refine .inr ⟨rfl, ?_⟩
            refine parts_of_ok (tame_str.mp tx) ?_
            simp
            refine wLc1_all (f := fun d => .bool (bl k sw d)) (fun d hd R r => ⟨_, rfl, ?_⟩) ?_
            · have ih := is_built_ok n k sw d R (by omega) (tame.parts tr d hd) r
              simpa [wCall, wCons, wNil, wV, wVb, wB, wC] using ih
            · rw [allD_map]
              exact ⟨_, rfl, by simpa using q⟩
        | _ =>
          simp [wSeq, wIf, wT, wOr, wNot, wRet, wB, wU, wC, wV, wVb, wTup, wNil, args, endB, hk, isTy, isiD_of tx.noTok]
          exact q
    | _ =>
      simp [wSeq, wIf, wT, wOr, wNot, wRet, wB, wU, wC, wV, wVb, wTup, wNil, args, endB, hk, isTy, isiD_of t.noTok]
      exact q
/-- what the parts of a value that is built right are -/
theorem bl_succ {k : Nat} {sw : Int} {v : PyData} (h : bl (k + 1) sw v = true) : ∃ w rest, v = .tuple (.str w :: rest) ∧ form sw w rest = true ∧ ∀ d ∈ parts w rest, bl k sw d = true := by
  unfold bl at h
  split at h
  · exact absurd ‹k + 1 = 0› (by omega)
  · rename_i k' sw' w rest e
    cases e
    rw [Bool.and_eq_true, List.all_eq_true] at h
    exact ⟨w, rest, rfl, h.1, h.2⟩
  · cases h
set_option maxHeartbeats 4000000 in
theorem size_of_ok : ∀ (n k : Nat) (sw : Int) (v : PyData) (Q : PyData → Prop), k ≤ n → tame v → bl k sw v = true → Q (.int (sz k v)) → fn_size_of n [v] Q
  | _, 0, _, _, _, _, _, b, _ => by cases b
  | 0, k + 1, _, _, _, h, _, _, _ => absurd h (by omega)
  | n + 1, k + 1, sw, v, Q, h, t, b, q => by
    obtain ⟨w, rest, rfl, hf, hp⟩ := bl_succ b
    have tx := tame_tup.mp t _ List.mem_cons_self
    have tr : ∀ d ∈ rest, tame d := fun d hd => tame_tup.mp t d (List.mem_cons_of_mem _ hd)
    refine gBody_of ?_
    unfold g_size_of
    simp [wRet, wB, wU, wC, wV, wVb, wNil, wCons, wCall, wLc, wItems, wipeE, args, endB]
    refine parts_of_ok (tame_str.mp tx) ?_
    simp
    refine wLc1_all (f := fun d => .int (sz k d)) (fun d hd R r => ⟨_, rfl, ?_⟩) ?_
    · have ih := size_of_ok n k sw d R (by omega) (tame.parts tr d hd) (hp d hd) r
      simpa [wCall, wCons, wNil, wV, wVb, wB, wC] using ih
    · rw [sumD_map]
      refine ⟨_, rfl, _, rfl, ?_⟩
      exact q
theorem is_formula_of_ok {sw : Int} {v : PyData} {Q : PyData → Prop} (t : tame v) (q : Q (.bool (bl 8 sw v && decide (sz 8 v ≤ 60)))) : fn_is_formula_of [.int sw, v] Q := by
  refine gBody_of ?_
  unfold g_is_formula_of
  simp [wRet, wAndV, wB, wU, wC, wV, wVb, wNil, wCons, wCall, args, endB]
  refine is_built_ok 10 8 sw v _ (by omega) t ?_
  cases b : bl 8 sw v with
  | false => rw [b] at q; exact .inl ⟨rfl, by simpa using q⟩
  | true =>
    rw [b] at q
    refine .inr ⟨rfl, ?_⟩
    refine size_of_ok 16 8 sw v _ (by omega) t b ?_
    simpa using q
end K11

namespace K11
open PySem PySem.Spec PyProof.Rows L2 WL
theorem is_whole_ok {d : PyData} {lo hi : Int} {Q : PyData → Prop} (h : noTok d = true) (q : Q (.bool (inR lo hi d))) : fn_law_is_whole [d, .int lo, .int hi] Q := by
  refine gBody_of ?_
  unfold g_law_is_whole
  simp [wRet, wAndV, wU, wVb, wNotV, wChain, wC, args, isiD, h, endB]
  cases d with
  | int i => simp_all [isTy, inR]; by_cases c : lo ≤ i <;> simp_all
  | bool b => simp_all [isTy, inR]
  | _ => simp_all [isTy, inR]
/-- the word's bounds, its parts: what the law's own look reads -/
def bnd (w : Str) : Int × Int := if w == "not" then (1, 1) else if w == "then" || w == "same" then (2, 2) else (2, 8)
def known (w : Str) : Bool := w == "not" || w == "then" || w == "same" || w == "most" || w == "and" || w == "or" || w == "one"
def maxI : List Int → Int
  | [] => 0
  | x :: xs => xs.foldl max x
def lk : Nat → Int → PyData → Bool × Int × Int
  | n + 1, sw, .tuple (.str w :: rest) =>
    if w == "yes" || w == "no" then (rest.isEmpty, 1, 1)
    else if w == "on" then ((rest.length == 1) && inH 0 (sw - 1) rest, 1, 1)
    else if !known w then (false, 1, 1)
    else if w == "most" && !inH 0 7 rest then (false, 1, 1)
    else
      let ps := if w == "most" then rest.drop 1 else rest
      if (bnd w).1 ≤ ps.length ∧ (ps.length : Int) ≤ (bnd w).2 then
        let rows := ps.map (lk n sw)
        (rows.all (·.1), 1 + (rows.map (·.2.1)).sum, 1 + maxI (rows.map (·.2.2)))
      else (false, 1, 1)
  | _, _, _ => (false, 1, 1)
end K11

namespace K11
open PySem PySem.Spec PyProof.Rows L2 WL
theorem foldl_max_le {k : Int} : ∀ (xs : List Int) (a : Int), xs.foldl max a ≤ k ↔ a ≤ k ∧ ∀ x ∈ xs, x ≤ k
  | [], a => by simp
  | x :: xs, a => by
    rw [List.foldl_cons, foldl_max_le xs]
    constructor
    · rintro ⟨h1, h2⟩
      exact ⟨by omega, fun y hy => by
        rcases List.mem_cons.mp hy with e | hy
        · rw [e]; omega
        · exact h2 y hy⟩
    · rintro ⟨h1, h2⟩
      have := h2 x List.mem_cons_self
      exact ⟨by omega, fun y hy => h2 y (List.mem_cons_of_mem _ hy)⟩
theorem maxI_le {k : Int} {xs : List Int} (h : 0 ≤ k) : maxI xs ≤ k ↔ ∀ x ∈ xs, x ≤ k := by
  cases xs with
  | nil => simp [maxI, h]
  | cons x xs => unfold maxI; rw [foldl_max_le]; simp
theorem le_foldl_max : ∀ (xs : List Int) (a : Int), a ≤ xs.foldl max a
  | [], a => Int.le_refl a
  | x :: xs, a => Int.le_trans (by omega) (le_foldl_max xs (max a x))
end K11

namespace K11
open PySem PySem.Spec PyProof.Rows L2 WL
def rowsOf (rows : List (Bool × Int × Int)) : Bool × Int × Int := (rows.all (·.1), 1 + (rows.map (·.2.1)).sum, 1 + maxI (rows.map (·.2.2)))
theorem drop_len {rest : List PyData} {lo hi : Int} (h : inH lo hi rest = true) : ((rest.drop 1).length : Int) = (rest.length : Int) - 1 := by
  cases rest with
  | nil => cases h
  | cons a b => simp
theorem lk_succ {n : Nat} {sw : Int} {w : Str} {rest : List PyData} : lk (n + 1) sw (.tuple (.str w :: rest)) = if form sw w rest then rowsOf ((parts w rest).map (lk n sw)) else (false, 1, 1) := by
  rcases words w with rfl | rfl | rfl | rfl | rfl | rfl | rfl | rfl | rfl | rfl | h
  · cases rest <;> rfl
  · cases rest <;> rfl
  · unfold lk form parts
    cases rest with
    | nil => simp [inH]
    | cons a b =>
      cases b with
      | nil => simp [rowsOf, maxI, inH]; by_cases q : inR 0 (sw - 1) a = true <;> simp [q]
      | cons c d =>
        have z : ¬ ((d.length : Int) + 1 + 1 = 1) := by omega
        simp [rowsOf, maxI, inH, z]
  · unfold lk form parts
    simp only [known, bnd]
    simp [rowsOf, Function.comp_def]
    split <;> split <;> first | rfl | omega
  · unfold lk form parts
    simp only [known, bnd]
    simp [rowsOf, Function.comp_def]
    split <;> split <;> first | rfl | omega
  · unfold lk form parts
    simp only [known, bnd]
    simp [rowsOf, Function.comp_def]
    split <;> split <;> first | rfl | omega
  · unfold lk form parts
    simp only [known, bnd]
    by_cases c : inH 0 7 rest = true
    · have e := drop_len c
      simp [rowsOf, Function.comp_def, c] at e ⊢
      split <;> split <;> first | rfl | omega
    · simp [c]
  · unfold lk form parts
    simp only [known, bnd]
    simp [rowsOf, Function.comp_def]
  · unfold lk form parts
    simp only [known, bnd]
    simp [rowsOf, Function.comp_def]
  · unfold lk form parts
    simp only [known, bnd]
    simp [rowsOf, Function.comp_def]
  · unfold lk form parts
    simp only [known, bnd]
    simp [h]
end K11

namespace K11
open PySem PySem.Spec PyProof.Rows L2 WL
theorem lk_not {n : Nat} {sw : Int} {v : PyData} (h : ∀ w rest, v ≠ .tuple (.str w :: rest)) : lk n sw v = (false, 1, 1) := by
  unfold lk
  split
  · exact absurd rfl (h _ _)
  · rfl
theorem bl_not {k : Nat} {sw : Int} {v : PyData} (h : ∀ w rest, v ≠ .tuple (.str w :: rest)) : bl k sw v = false := by
  unfold bl
  split
  · rfl
  · exact absurd rfl (h _ _)
  · rfl
theorem parts_mem {w : Str} {rest : List PyData} {d : PyData} (h : d ∈ parts w rest) : d ∈ rest := by
  unfold parts at h
  split at h
  · exact h
  · split at h
    · exact List.mem_of_mem_drop h
    · cases h
theorem depth_mem : ∀ {xs : List PyData} {x : PyData}, x ∈ xs → x.depth ≤ PyData.depthAll xs
  | y :: xs, x, h => by
    simp only [PyData.depthAll]
    rcases List.mem_cons.mp h with rfl | h
    · omega
    · have := depth_mem h
      omega
theorem maxI_nn {xs : List Int} (h : ∀ x ∈ xs, 0 ≤ x) : 0 ≤ maxI xs := by
  cases xs with
  | nil => exact Int.le_refl 0
  | cons x xs => exact Int.le_trans (h x List.mem_cons_self) (le_foldl_max xs x)
/-- depth by tuples alone -/
theorem dep_rest {w : Str} {rest : List PyData} {d : PyData} (h : d ∈ rest) : d.depth + 1 ≤ (PyData.tuple (.str w :: rest)).depth := by
  have := depth_mem (xs := .str w :: rest) (List.mem_cons_of_mem _ h)
  simp only [PyData.depth]
  omega
theorem lk_bl : ∀ (n k : Nat) (sw : Int) (v : PyData), v.depth ≤ n → bl k sw v = ((lk n sw v).1 && decide ((lk n sw v).2.2 ≤ k)) ∧ (bl k sw v = true → (lk n sw v).2.1 = sz k v) ∧ 1 ≤ (lk n sw v).2.2 := by
  intro n
  induction n with
  | zero =>
    intro k sw v hv
    have hn : ∀ w rest, v ≠ .tuple (.str w :: rest) := fun w rest e => by
      subst e
      simp only [PyData.depth] at hv
      omega
    rw [lk_not hn, bl_not hn]
    simp
  | succ n ih =>
    intro k sw v hv
    by_cases hn : ∀ w rest, v ≠ .tuple (.str w :: rest)
    · rw [lk_not hn, bl_not hn]
      simp
    · have ⟨w, rest, e⟩ : ∃ w rest, v = .tuple (.str w :: rest) := by
        apply Classical.byContradiction
        intro z
        exact hn fun w rest e => z ⟨w, rest, e⟩
      subst e
      rw [lk_succ]
      have ihp : ∀ d ∈ parts w rest, ∀ k, bl k sw d = ((lk n sw d).1 && decide ((lk n sw d).2.2 ≤ k)) ∧ (bl k sw d = true → (lk n sw d).2.1 = sz k d) ∧ 1 ≤ (lk n sw d).2.2 := fun d hd k => ih k sw d (by
        have := dep_rest (w := w) (parts_mem hd)
        omega)
      by_cases f : form sw w rest = true
      · rw [if_pos f]
        have nn : 0 ≤ maxI (((parts w rest).map (lk n sw)).map (·.2.2)) := maxI_nn fun x hx => by
          rw [List.map_map] at hx
          obtain ⟨d, hd, rfl⟩ := List.mem_map.mp hx
          have := (ihp d hd 0).2.2
          simp only [Function.comp_apply]
          omega
        refine ⟨?_, ?_, ?_⟩
        · cases k with
          | zero =>
            have z : ¬ (1 + maxI (((parts w rest).map (lk n sw)).map (·.2.2)) ≤ ((0 : Nat) : Int)) := by omega
            show false = ((rowsOf _).1 && decide (1 + maxI (((parts w rest).map (lk n sw)).map (·.2.2)) ≤ ((0 : Nat) : Int)))
            rw [decide_eq_false z, Bool.and_false]
          | succ k =>
            show (form sw w rest && (parts w rest).all (bl k sw)) = ((((parts w rest).map (lk n sw)).all (·.1)) && decide (1 + maxI (((parts w rest).map (lk n sw)).map (·.2.2)) ≤ ((k + 1 : Nat) : Int)))
            have z : (1 + maxI (((parts w rest).map (lk n sw)).map (·.2.2)) ≤ ((k + 1 : Nat) : Int)) ↔ ∀ d ∈ parts w rest, (lk n sw d).2.2 ≤ k := by
              have := maxI_le (k := (k : Int)) (xs := ((parts w rest).map (lk n sw)).map (·.2.2)) (by omega)
              constructor
              · intro h d hd
                exact (this.mp (by omega)) _ (List.mem_map.mpr ⟨_, List.mem_map.mpr ⟨d, hd, rfl⟩, rfl⟩)
              · intro h
                have := this.mpr fun x hx => by
                  rw [List.map_map] at hx
                  obtain ⟨d, hd, rfl⟩ := List.mem_map.mp hx
                  exact h d hd
                omega
            rw [f, Bool.true_and, Bool.eq_iff_iff, Bool.and_eq_true, decide_eq_true_eq, z]
            simp only [List.all_eq_true, List.mem_map, forall_exists_index, and_imp, forall_apply_eq_imp_iff₂]
            constructor
            · intro h
              exact ⟨fun d hd => by have := h d hd; rw [(ihp d hd k).1, Bool.and_eq_true] at this; exact this.1, fun d hd => by have := h d hd; rw [(ihp d hd k).1, Bool.and_eq_true, decide_eq_true_eq] at this; exact this.2⟩
            · rintro ⟨h1, h2⟩ d hd
              rw [(ihp d hd k).1, h1 d hd, decide_eq_true (h2 d hd)]
              rfl
        · intro hb
          cases k with
          | zero => cases hb
          | succ k =>
            have hb : (form sw w rest && (parts w rest).all (bl k sw)) = true := hb
            rw [Bool.and_eq_true, List.all_eq_true] at hb
            show 1 + ((((parts w rest).map (lk n sw)).map (·.2.1)).sum) = 1 + ((parts w rest).map (sz k)).sum
            rw [List.map_map]
            have e : (parts w rest).map ((·.2.1) ∘ lk n sw) = (parts w rest).map (sz k) := List.map_congr_left fun d hd => (ihp d hd k).2.1 (hb.2 d hd)
            rw [e]
        · show 1 ≤ 1 + maxI _
          omega
      · rw [if_neg f]
        refine ⟨?_, fun hb => ?_, Int.le_refl 1⟩
        · cases k with
          | zero => rfl
          | succ k =>
            show (form sw w rest && _) = _
            rw [Bool.not_eq_true] at f
            rw [f]
            rfl
        · cases k with
          | zero => cases hb
          | succ k =>
            have hb : (form sw w rest && (parts w rest).all (bl k sw)) = true := hb
            rw [Bool.and_eq_true] at hb
            exact absurd hb.1 f
end K11

namespace K11
open PySem PySem.Spec PyProof.Rows L2 WL
theorem st_no {c : Ev → W Bool} {g h : Ev → W Rs} {ρ : Ev} {Q : Rs → Prop} (hc : ∀ R : Bool → Prop, R false → c ρ R) (q : h ρ Q) : wSeq (wIf c g wSkip) h ρ Q := hc _ (by
  rw [if_neg Bool.false_ne_true]
  exact q)
theorem st_yes {c : Ev → W Bool} {e : Ev → W PyData} {h : Ev → W Rs} {ρ : Ev} {Q : Rs → Prop} (hc : ∀ R : Bool → Prop, R true → c ρ R) (q : e ρ fun d => Q (.rt d)) : wSeq (wIf c (wRet e) wSkip) h ρ Q := hc _ (by
  rw [if_pos rfl]
  exact q)
theorem st_then {c : Ev → W Bool} {g h : Ev → W Rs} {ρ : Ev} {Q : Rs → Prop} (hc : ∀ R : Bool → Prop, R true → c ρ R) (q : wSeq g h ρ Q) : wSeq (wIf c g wSkip) h ρ Q := hc _ (by
  rw [if_pos rfl]
  exact q)
theorem st_assoc {a b h : Ev → W Rs} {ρ : Ev} {Q : Rs → Prop} (q : wSeq a (wSeq b h) ρ Q) : wSeq (wSeq a b) h ρ Q := by
  have e : (fun r : Rs => match r with | .nx ρ' => wSeq b h ρ' Q | r => Q r) = fun r : Rs => match r with | .nx ρ' => b ρ' (fun r => match r with | .nx ρ' => h ρ' Q | r => Q r) | r => (match r with | .nx ρ' => h ρ' Q | r => Q r) := by
    funext r
    cases r <;> rfl
  have q : a ρ (fun r : Rs => match r with | .nx ρ' => wSeq b h ρ' Q | r => Q r) := q
  rw [e] at q
  exact q
theorem st_set {i : Nat} {g : Ev → W PyData} {h : Ev → W Rs} {ρ : Ev} {Q : Rs → Prop} {d : PyData} (hg : ∀ R : PyData → Prop, R d → g ρ R) (q : h (ρ.set i (.sh d)) Q) : wSeq (wSet i g) h ρ Q := hg _ q
theorem st_par {i j : Nat} {gs : Ev → W (List PyData)} {h : Ev → W Rs} {ρ : Ev} {Q : Rs → Prop} {d1 d2 : PyData} (hg : ∀ R : List PyData → Prop, R [d1, d2] → gs ρ R) (q : h ((ρ.set i (.sh d1)).set j (.sh d2)) Q) : wSeq (wPar i j gs) h ρ Q := hg _ ⟨d1, d2, rfl, q⟩
set_option maxHeartbeats 16000000 in
def rowD (r : Bool × Int × Int) : PyData := .tuple [.bool r.1, .int r.2.1, .int r.2.2]
theorem rowD0 {r : Bool × Int × Int} : ixD (rowD r) (.int 0) = some (.bool r.1) := ixD_0
theorem lk_not_tup {n : Nat} {sw : Int} {v : PyData} (h : isTy .tuple v = false) : lk n sw v = (false, 1, 1) := lk_not fun w rest e => by
  subst e
  cases h
theorem look_not {n : Nat} {sw : Int} {v : PyData} {Q : PyData → Prop} (h : isTy .tuple v = false) (t : tame v) (q : Q (rowD (lk (n + 1) sw v))) : fn_law_look (n + 1) [.int sw, v] Q := by
  refine gBody_of ?_
  unfold g_law_look
  rw [lk_not_tup h] at q
  refine st_yes (fun R r => by simpa [wOr, wNot, wT, wU, wVb, wC, args, isiD_of t.noTok, h] using r) ?_
  have s3 : 3 ≤ sizeLine := by decide
  simpa [wTup, wCons, wNil, wC, endB, rowD, s3] using q
end K11

namespace K11
open PySem PySem.Spec PyProof.Rows L2 WL
theorem s3 : 3 ≤ sizeLine := by decide
theorem look_nil {n : Nat} {sw : Int} {Q : PyData → Prop} (q : Q (rowD (lk (n + 1) sw (.tuple [])))) : fn_law_look (n + 1) [.int sw, .tuple []] Q := by
  refine gBody_of ?_
  unfold g_law_look
  rw [lk_not (fun w rest e => by cases e)] at q
  have nt : isiD .tuple (.tuple []) = some (.bool true) := isiD_of (tame.noTok (tame_tup.mpr fun d hd => nomatch hd))
  refine st_yes (fun R r => by simpa [wOr, wNot, wT, wB, wU, wVb, wC, args, nt] using r) ?_
  simpa [wTup, wCons, wNil, wC, endB, rowD, s3] using q
theorem look_odd {n : Nat} {sw : Int} {x : PyData} {rest : List PyData} {Q : PyData → Prop} (h : isTy .str x = false) (t : tame (.tuple (x :: rest))) (q : Q (rowD (lk (n + 1) sw (.tuple (x :: rest))))) : fn_law_look (n + 1) [.int sw, .tuple (x :: rest)] Q := by
  refine gBody_of ?_
  unfold g_law_look
  rw [lk_not (fun w rest e => by cases e; cases h)] at q
  have tx := (tame_tup.mp t x List.mem_cons_self).noTok
  have nt : isiD .tuple (.tuple (x :: rest)) = some (.bool true) := isiD_of t.noTok
  have z : ¬ ((rest.length : Int) + 1 = 0) := by omega
  refine st_yes (fun R r => by simpa [wOr, wNot, wT, wB, wU, wVb, wC, args, nt, isiD_of tx, h, z] using r) ?_
  simpa [wTup, wCons, wNil, wC, endB, rowD, s3] using q
end K11

namespace K11
open PySem PySem.Spec PyProof.Rows L2 WL
theorem ixD_row {r : Bool × Int × Int} : ixD (rowD r) (.int 0) = some (.bool r.1) ∧ ixD (rowD r) (.int 1) = some (.int r.2.1) ∧ ixD (rowD r) (.int 2) = some (.int r.2.2) := ⟨rfl, rfl, rfl⟩
theorem allInts_map {α : Type} (f : α → Int) : ∀ l : List α, allInts (l.map fun x => PyData.int (f x)) = some (l.map f)
  | [] => rfl
  | x :: l => by
    have ih := allInts_map f l
    simp [allInts, ih]
theorem maxD_map {α : Type} (f : α → Int) {l : List α} (h : l ≠ []) : maxD (.list (l.map fun x => .int (f x))) = some (.int (maxI (l.map f))) := by
  cases l with
  | nil => exact absurd rfl h
  | cons x l =>
    show Option.map _ (allInts ((x :: l).map fun x => PyData.int (f x))) = _
    rw [allInts_map]
    have e : (f x :: List.map f l).head! = f x := rfl
    simp [maxI, e]
end K11

namespace K11
open PySem PySem.Spec PyProof.Rows L2 WL
theorem st_setFQ {i : Nat} {g : Ev → W PyData} {h : Ev → W Rs} {ρ : Ev} {Q : Rs → Prop} (q : g ρ fun d => ∃ ds, d = .list ds ∧ h (ρ.set i (.ow ds)) Q) : wSeq (wSetF i g) h ρ Q := q
theorem rows_ok {self : Fn} {sw : Int} {f : PyData → Bool × Int × Int} {ps : List PyData} {v w a b : PyData} {Q : Rs → Prop} (hps : ps ≠ []) (hl : ps.length ≤ 8)
    (hs : ∀ d ∈ ps, ∀ R : PyData → Prop, R (rowD (f d)) → self [.int sw, d] R) (q : Q (.rt (rowD (rowsOf (ps.map f))))) :
    wSeq (wSetF 6 (wLc [7] (wItems (wV 3)) (WL.stN 7) wYes (wCall 2 self (wCons (wV 0) (wCons (wV 7) wNil)))))
  (wFrz [6] (wRet (wTup (wCons (wU allD (wLc [8] (wItems (wV 6)) (WL.stN 8) wYes (wB ixD (wVb 8) (wC (.int 0))))) (wCons (wB addAD (wC (.int 1)) (wU sumD (wLc [8] (wItems (wV 6)) (WL.stN 8) wYes (wB ixD (wVb 8) (wC (.int 1)))))) (wCons (wB addAD (wC (.int 1)) (wU maxD (wLc [8] (wItems (wV 6)) (WL.stN 8) wYes (wB ixD (wVb 8) (wC (.int 2)))))) wNil))))))
   [.sh (.int sw), .sh v, .sh w, .sh (.list ps), .sh a, .sh b, .no, .no, .no] Q := by
  have inner : ∀ (i : Int) (g : Bool × Int × Int → PyData), (∀ r, ixD (rowD r) (.int i) = some (g r)) → ∀ (ρ' : Ev) (R : List PyData → Prop), ρ'.length = 9 → R (ps.map fun d => g (f d)) → wLc1 (WL.stN 8) wYes (wB ixD (wVb 8) (wC (.int i))) ρ' (ps.map fun d => rowD (f d)) R := by
    intro i g hg ρ' R hl r
    have e : (ps.map fun d => g (f d)) = (ps.map fun d => rowD (f d)).map fun x => (ixD x (.int i)).getD .none := by
      rw [List.map_map]
      exact List.map_congr_left fun d _ => by simp [hg]
    refine wLc1_all (f := fun x => (ixD x (.int i)).getD .none) (fun d hd R' r' => ⟨_, rfl, ?_⟩) (by rw [← e]; exact r)
    obtain ⟨d', hd', rfl⟩ := List.mem_map.mp hd
    have e5 : (ρ'.set 8 (.sh (rowD (f d'))))[8]? = some (.sh (rowD (f d'))) := List.getElem?_set_self (by omega)
    rw [hg] at r'
    simpa [wB, wVb, wC, e5, hg] using r'
  have h1 : allD (.list (ps.map fun d => PyData.bool (f d).1)) = some (.bool (((ps.map f)).all (·.1))) := by rw [allD_map (fun d => (f d).1)]; simp [Function.comp_def]
  have h2 : sumD (.list (ps.map fun d => PyData.int (f d).2.1)) = some (.int (((ps.map f).map (·.2.1)).sum)) := by rw [sumD_map (fun d => (f d).2.1)]; simp [Function.comp_def]
  have h3 : maxD (.list (ps.map fun d => PyData.int (f d).2.2)) = some (.int (maxI ((ps.map f).map (·.2.2)))) := by rw [maxD_map (fun d => (f d).2.2) hps]; simp [Function.comp_def]
  refine st_setFQ ?_
  refine (show wLc [7] (wItems (wV 3)) (WL.stN 7) wYes (wCall 2 self (wCons (wV 0) (wCons (wV 7) wNil))) [.sh (.int sw), .sh v, .sh w, .sh (.list ps), .sh a, .sh b, .no, .no, .no] _ from ?_)
  refine ⟨.list ps, rfl, ps, rfl, _, rfl, ?_⟩
  refine wLc1_all (f := fun d => rowD (f d)) (fun d hd R r => ⟨_, rfl, ?_⟩) ?_
  · have := hs d hd R r
    simpa [wCall, wCons, wNil, wV] using this
  · refine ⟨_, rfl, ?_⟩
    show wRet _ [.sh (.int sw), .sh v, .sh w, .sh (.list ps), .sh a, .sh b, .sh (.list (ps.map fun d => rowD (f d))), .no, .no] Q
    simp [wRet, wTup, wCons, wNil, wU, wB, wC, wLc, wItems, wV, wipeE, s3, endB]
    refine inner 0 (fun r => .bool r.1) (fun r => rfl) _ _ rfl ⟨_, h1, ?_⟩
    refine inner 1 (fun r => .int r.2.1) (fun r => rfl) _ _ rfl ⟨_, h2, _, rfl, ?_⟩
    exact inner 2 (fun r => .int r.2.2) (fun r => rfl) _ _ rfl ⟨_, h3, _, rfl, q⟩
end K11

namespace K11
open PySem PySem.Spec PyProof.Rows L2 WL
theorem eqD_lst0 {xs : List PyData} : eqD (.list xs) (.list []) = some (.bool xs.isEmpty) := by unfold eqD; rw [eqvD_lst0]; rfl
theorem st_asg {st : Set1} {d : PyData} {ρ' : Ev} {g : Ev → W PyData} {h : Ev → W Rs} {ρ : Ev} {Q : Rs → Prop} (hg : ∀ R : PyData → Prop, R d → g ρ R) (hs : st d ρ = some ρ') (q : h ρ' Q) : wSeq (wAsg st g) h ρ Q := hg _ ⟨ρ', hs, q⟩
theorem st_if {c : Ev → W Bool} {g k h : Ev → W Rs} {ρ : Ev} {Q : Rs → Prop} (hc : ∀ R : Bool → Prop, R true → c ρ R) (q : wSeq g h ρ Q) : wSeq (wIf c g k) h ρ Q := hc _ (by
  rw [if_pos rfl]
  exact q)
theorem st_else {c : Ev → W Bool} {g k h : Ev → W Rs} {ρ : Ev} {Q : Rs → Prop} (hc : ∀ R : Bool → Prop, R false → c ρ R) (q : wSeq k h ρ Q) : wSeq (wIf c g k) h ρ Q := hc _ (by
  rw [if_neg Bool.false_ne_true]
  exact q)
theorem st_ret {e : Ev → W PyData} {h : Ev → W Rs} {ρ : Ev} {Q : Rs → Prop} (q : e ρ fun d => Q (.rt d)) : wSeq (wRet e) h ρ Q := q
theorem tail_ok {self : Fn} {sw : Int} {f : PyData → Bool × Int × Int} {ps : List PyData} {v w : PyData} {lo hi : Int} {Q : Rs → Prop} (hlo : 1 ≤ lo) (hhi : hi ≤ 8)
    (hs : ∀ d ∈ ps, ∀ R : PyData → Prop, R (rowD (f d)) → self [.int sw, d] R) (q : Q (.rt (rowD (if lo ≤ (ps.length : Int) ∧ (ps.length : Int) ≤ hi then rowsOf (ps.map f) else (false, 1, 1))))) :
    wSeq (wIf (wNot (wT (wChain leI leI (wVb 4) (wU lenD (wVb 3)) (wVb 5)))) (wRet (wTup (wCons (wC (.bool false)) (wCons (wC (.int 1)) (wCons (wC (.int 1)) wNil))))) wSkip) (wSeq (wSetF 6 (wLc [7] (wItems (wV 3)) (WL.stN 7) wYes (wCall 2 self (wCons (wV 0) (wCons (wV 7) wNil)))))
  (wFrz [6] (wRet (wTup (wCons (wU allD (wLc [8] (wItems (wV 6)) (WL.stN 8) wYes (wB ixD (wVb 8) (wC (.int 0))))) (wCons (wB addAD (wC (.int 1)) (wU sumD (wLc [8] (wItems (wV 6)) (WL.stN 8) wYes (wB ixD (wVb 8) (wC (.int 1)))))) (wCons (wB addAD (wC (.int 1)) (wU maxD (wLc [8] (wItems (wV 6)) (WL.stN 8) wYes (wB ixD (wVb 8) (wC (.int 2)))))) wNil)))))))
   [.sh (.int sw), .sh v, .sh w, .sh (.list ps), .sh (.int lo), .sh (.int hi), .no, .no, .no] Q := by
  by_cases c1 : lo ≤ (ps.length : Int)
  · by_cases c2 : (ps.length : Int) ≤ hi
    · rw [if_pos ⟨c1, c2⟩] at q
      refine st_no (fun R r => by simpa [wNot, wT, wChain, wU, wVb, c1, c2] using r) ?_
      exact rows_ok (by rintro rfl; simp at c1; omega) (by omega) hs q
    · rw [if_neg fun h => c2 h.2] at q
      refine st_yes (fun R r => by simpa [wNot, wT, wChain, wU, wVb, c1, c2] using r) ?_
      simpa [wTup, wCons, wNil, wC, rowD, s3] using q
  · rw [if_neg fun h => c1 h.1] at q
    refine st_yes (fun R r => by simpa [wNot, wT, wChain, wU, wVb, c1] using r) ?_
    simpa [wTup, wCons, wNil, wC, rowD, s3] using q
end K11

namespace K11
open PySem PySem.Spec PyProof.Rows L2 WL
theorem look_str {n : Nat} {sw : Int} {w : Str} {rest : List PyData} {Q : PyData → Prop} (t : tame (.tuple (.str w :: rest))) (ih : ∀ d ∈ rest, ∀ R : PyData → Prop, R (rowD (lk n sw d)) → fn_law_look n [.int sw, d] R)
    (q : Q (rowD (lk (n + 1) sw (.tuple (.str w :: rest))))) : fn_law_look (n + 1) [.int sw, .tuple (.str w :: rest)] Q := by
  refine gBody_of ?_
  unfold g_law_look
  have tx := tame_tup.mp t (.str w) List.mem_cons_self
  have tr : ∀ d ∈ rest, tame d := fun d hd => tame_tup.mp t d (List.mem_cons_of_mem _ hd)
  have hw := tame_str.mp tx
  have nt : isiD .tuple (.tuple (.str w :: rest)) = some (.bool true) := isiD_of t.noTok
  have ns : isiD .str (.str w) = some (.bool true) := isiD_of tx.noTok
  have z : ¬ ((rest.length : Int) + 1 = 0) := by omega
  refine st_no (fun R r => by simpa [wOr, wNot, wT, wB, wU, wVb, wC, args, nt, ns, z] using r) ?_
  refine st_par (d1 := .str w) (d2 := .list rest) (fun R r => by simpa [wCons, wNil, wB, wU, wSl, wPart, wNo, wVb, wC, args] using r) ?_
  show wSeq _ _ [Sl.sh (.int sw), Sl.sh (.tuple (.str w :: rest)), Sl.sh (.str w), Sl.sh (.list rest), Sl.no, Sl.no, Sl.no, Sl.no, Sl.no] _
  rw [lk_succ] at q
  have yes : ∀ tl : Ev → W Rs, (("yes" : Str) = w ∨ ("no" : Str) = w) → Q (rowD (rest.isEmpty, 1, 1)) → wSeq (wIf (wT (wB (inD false) (wVb 2) (wTup (wCons (wC (.str "yes")) (wCons (wC (.str "no")) wNil))))) (wRet (wTup (wCons (wB eqD (wVb 3) (wLst wNil)) (wCons (wC (.int 1)) (wCons (wC (.int 1)) wNil))))) wSkip) tl [Sl.sh (.int sw), Sl.sh (.tuple (.str w :: rest)), Sl.sh (.str w), Sl.sh (.list rest), Sl.no, Sl.no, Sl.no, Sl.no, Sl.no] (endB .S Q) := fun tl h q => by
    refine st_yes (fun R r => by rcases h with rfl | rfl <;> simpa [wT, wB, wVb, wC, wTup, wCons, wNil, inD, s3, eqD_str, hw] using r) ?_
    simpa [rowD, wB, wV, wVb, wTup, wLst, wCons, wC, wNil, endB, s3, eqD_lst0] using q
  rcases words w with rfl | rfl | rfl | rfl | rfl | rfl | rfl | rfl | rfl | rfl | ⟨a1, a2, b1, b2, c1, c2, d1, d2, e1, e2, f1, f2, g1, g2, k1, k2, l1, l2, m1, m2⟩
  · refine yes _ (.inl rfl) ?_
    cases rest <;> simpa [form, parts, rowsOf, maxI] using q
  · refine yes _ (.inr rfl) ?_
    cases rest <;> simpa [form, parts, rowsOf, maxI] using q
  · refine st_no (fun R r => by simpa [wT, wB, wVb, wC, wTup, wCons, wNil, inD, s3, eqD_str, hw] using r) ?_
    refine st_yes (fun R r => by simpa [wT, wB, wVb, wC, eqD_str, hw] using r) ?_
    match rest, tr with
    | [], _ => simpa [form, parts, rowD, wAndV, wB, wU, wV, wVb, wTup, wLst, wCons, wC, wNil, endB, s3] using q
    | [x], tr =>
      simp [rowD, wAndV, wB, wU, wV, wVb, wTup, wLst, wCons, wC, wCall, wNil, endB, s3]
      refine is_whole_ok (tr x (by simp)).noTok ?_
      cases c : inR 0 (sw - 1) x <;> simpa [form, parts, rowsOf, maxI, rowD, inH, c] using q
    | x :: y :: l, _ =>
      have z : ¬ ((l.length : Int) + 1 + 1 = 1) := by omega
      simpa [form, parts, rowD, wAndV, wB, wU, wV, wVb, wTup, wLst, wCons, wC, wNil, endB, s3, z] using q
  · refine st_no (fun R r => by simpa [wT, wB, wVb, wC, wTup, wCons, wNil, inD, s3, eqD_str, hw] using r) ?_
    refine st_no (fun R r => by simpa [wT, wB, wVb, wC, eqD_str, hw] using r) ?_
    refine st_asg (d := .tuple [.int 2, .int 8]) (fun R r => by simpa [wTup, wCons, wNil, wC] using r) rfl ?_
    refine st_if (fun R r => by simpa [wT, wB, wVb, wC, eqD_str, hw] using r) ?_
    refine st_asg (d := .tuple [.int 1, .int 1]) (fun R r => by simpa [wTup, wCons, wNil, wC] using r) rfl ?_
    refine tail_ok (f := lk n sw) (by omega) (by omega) (fun d hd => ih d hd) ?_
    show Q _
    have e : (1 ≤ (rest.length : Int) ∧ (rest.length : Int) ≤ 1) ↔ (rest.length : Int) = 1 := by omega
    simpa [form, parts, e] using q
  · refine st_no (fun R r => by simpa [wT, wB, wVb, wC, wTup, wCons, wNil, inD, s3, eqD_str, hw] using r) ?_
    refine st_no (fun R r => by simpa [wT, wB, wVb, wC, eqD_str, hw] using r) ?_
    refine st_asg (d := .tuple [.int 2, .int 8]) (fun R r => by simpa [wTup, wCons, wNil, wC] using r) rfl ?_
    refine st_else (fun R r => by simpa [wT, wB, wVb, wC, eqD_str, hw] using r) ?_
    refine st_if (fun R r => by simpa [wT, wB, wVb, wC, wTup, wCons, wNil, inD, s3, eqD_str, hw] using r) ?_
    refine st_set (d := .int 2) (fun R r => r) ?_
    refine tail_ok (f := lk n sw) (by omega) (by omega) (fun d hd => ih d hd) ?_
    show Q _
    have e : (2 ≤ (rest.length : Int) ∧ (rest.length : Int) ≤ 2) ↔ (rest.length : Int) = 2 := by omega
    simpa [form, parts, e] using q
  · refine st_no (fun R r => by simpa [wT, wB, wVb, wC, wTup, wCons, wNil, inD, s3, eqD_str, hw] using r) ?_
    refine st_no (fun R r => by simpa [wT, wB, wVb, wC, eqD_str, hw] using r) ?_
    refine st_asg (d := .tuple [.int 2, .int 8]) (fun R r => by simpa [wTup, wCons, wNil, wC] using r) rfl ?_
    refine st_else (fun R r => by simpa [wT, wB, wVb, wC, eqD_str, hw] using r) ?_
    refine st_if (fun R r => by simpa [wT, wB, wVb, wC, wTup, wCons, wNil, inD, s3, eqD_str, hw] using r) ?_
    refine st_set (d := .int 2) (fun R r => r) ?_
    refine tail_ok (f := lk n sw) (by omega) (by omega) (fun d hd => ih d hd) ?_
    show Q _
    have e : (2 ≤ (rest.length : Int) ∧ (rest.length : Int) ≤ 2) ↔ (rest.length : Int) = 2 := by omega
    simpa [form, parts, e] using q
  · refine st_no (fun R r => by simpa [wT, wB, wVb, wC, wTup, wCons, wNil, inD, s3, eqD_str, hw] using r) ?_
    refine st_no (fun R r => by simpa [wT, wB, wVb, wC, eqD_str, hw] using r) ?_
    refine st_asg (d := .tuple [.int 2, .int 8]) (fun R r => by simpa [wTup, wCons, wNil, wC] using r) rfl ?_
    refine st_else (fun R r => by simpa [wT, wB, wVb, wC, eqD_str, hw] using r) ?_
    refine st_else (fun R r => by simpa [wT, wB, wVb, wC, wTup, wCons, wNil, inD, s3, eqD_str, hw] using r) ?_
    refine st_if (fun R r => by simpa [wT, wB, wVb, wC, eqD_str, hw] using r) ?_
    refine st_assoc ?_
    cases rest with
    | nil =>
      refine st_yes (fun R r => by simpa [wOr, wT, wB, wVb, wLst, wNil, eqD_lst0] using r) ?_
      simpa [wTup, wCons, wNil, wC, rowD, s3, form, parts, endB] using q
    | cons x r0 =>
      have nx := (tr x List.mem_cons_self).noTok
      cases hx : inR 0 7 x with
      | false =>
        refine st_yes (fun R r => ?_) ?_
        · simp [wOr, wNot, wT, wB, wVb, wLst, wNil, eqD_lst0, wCall, wCons, wC]
          exact is_whole_ok nx (by simpa [hx] using r)
        · simpa [wTup, wCons, wNil, wC, rowD, s3, form, parts, endB, inH, hx] using q
      | true =>
        refine st_no (fun R r => ?_) ?_
        · simp [wOr, wNot, wT, wB, wVb, wLst, wNil, eqD_lst0, wCall, wCons, wC]
          exact is_whole_ok nx (by simpa [hx] using r)
        refine st_set (d := .list r0) (fun R r => by simpa [wSl, wVb, wPart, wNo, wC] using r) ?_
        refine tail_ok (f := lk n sw) (by omega) (by omega) (fun d hd => ih d (List.mem_cons_of_mem _ hd)) ?_
        show Q _
        have e : (2 ≤ (r0.length : Int) ∧ (r0.length : Int) ≤ 8) ↔ (3 ≤ (r0.length : Int) + 1 ∧ (r0.length : Int) + 1 ≤ 9) := by omega
        simp only [e]
        simpa [form, parts, inH, hx] using q
  · refine st_no (fun R r => by simpa [wT, wB, wVb, wC, wTup, wCons, wNil, inD, s3, eqD_str, hw] using r) ?_
    refine st_no (fun R r => by simpa [wT, wB, wVb, wC, eqD_str, hw] using r) ?_
    refine st_asg (d := .tuple [.int 2, .int 8]) (fun R r => by simpa [wTup, wCons, wNil, wC] using r) rfl ?_
    refine st_else (fun R r => by simpa [wT, wB, wVb, wC, eqD_str, hw] using r) ?_
    refine st_else (fun R r => by simpa [wT, wB, wVb, wC, wTup, wCons, wNil, inD, s3, eqD_str, hw] using r) ?_
    refine st_else (fun R r => by simpa [wT, wB, wVb, wC, eqD_str, hw] using r) ?_
    refine st_no (fun R r => by simpa [wT, wB, wVb, wC, wTup, wCons, wNil, inD, s3, eqD_str, hw] using r) ?_
    refine tail_ok (f := lk n sw) (by omega) (by omega) (fun d hd => ih d hd) ?_
    show Q _
    simpa [form, parts] using q
  · refine st_no (fun R r => by simpa [wT, wB, wVb, wC, wTup, wCons, wNil, inD, s3, eqD_str, hw] using r) ?_
    refine st_no (fun R r => by simpa [wT, wB, wVb, wC, eqD_str, hw] using r) ?_
    refine st_asg (d := .tuple [.int 2, .int 8]) (fun R r => by simpa [wTup, wCons, wNil, wC] using r) rfl ?_
    refine st_else (fun R r => by simpa [wT, wB, wVb, wC, eqD_str, hw] using r) ?_
    refine st_else (fun R r => by simpa [wT, wB, wVb, wC, wTup, wCons, wNil, inD, s3, eqD_str, hw] using r) ?_
    refine st_else (fun R r => by simpa [wT, wB, wVb, wC, eqD_str, hw] using r) ?_
    refine st_no (fun R r => by simpa [wT, wB, wVb, wC, wTup, wCons, wNil, inD, s3, eqD_str, hw] using r) ?_
    refine tail_ok (f := lk n sw) (by omega) (by omega) (fun d hd => ih d hd) ?_
    show Q _
    simpa [form, parts] using q
  · refine st_no (fun R r => by simpa [wT, wB, wVb, wC, wTup, wCons, wNil, inD, s3, eqD_str, hw] using r) ?_
    refine st_no (fun R r => by simpa [wT, wB, wVb, wC, eqD_str, hw] using r) ?_
    refine st_asg (d := .tuple [.int 2, .int 8]) (fun R r => by simpa [wTup, wCons, wNil, wC] using r) rfl ?_
    refine st_else (fun R r => by simpa [wT, wB, wVb, wC, eqD_str, hw] using r) ?_
    refine st_else (fun R r => by simpa [wT, wB, wVb, wC, wTup, wCons, wNil, inD, s3, eqD_str, hw] using r) ?_
    refine st_else (fun R r => by simpa [wT, wB, wVb, wC, eqD_str, hw] using r) ?_
    refine st_no (fun R r => by simpa [wT, wB, wVb, wC, wTup, wCons, wNil, inD, s3, eqD_str, hw] using r) ?_
    refine tail_ok (f := lk n sw) (by omega) (by omega) (fun d hd => ih d hd) ?_
    show Q _
    simpa [form, parts] using q
  · refine st_no (fun R r => by simpa [wT, wB, wVb, wC, wTup, wCons, wNil, inD, s3, eqD_str, hw, a1, a2, b1, b2] using r) ?_
    refine st_no (fun R r => by simpa [wT, wB, wVb, wC, eqD_str, hw, c1, c2] using r) ?_
    refine st_asg (d := .tuple [.int 2, .int 8]) (fun R r => by simpa [wTup, wCons, wNil, wC] using r) rfl ?_
    refine st_else (fun R r => by simpa [wT, wB, wVb, wC, eqD_str, hw, d1, d2] using r) ?_
    refine st_else (fun R r => by simpa [wT, wB, wVb, wC, wTup, wCons, wNil, inD, s3, eqD_str, hw, e1, e2, f1, f2] using r) ?_
    refine st_else (fun R r => by simpa [wT, wB, wVb, wC, eqD_str, hw, g1, g2] using r) ?_
    refine st_yes (fun R r => by simpa [wT, wB, wVb, wC, wTup, wCons, wNil, inD, s3, eqD_str, hw, k1, k2, l1, l2, m1, m2] using r) ?_
    simpa [wTup, wCons, wNil, wC, rowD, s3, form, parts, endB, a1, a2, b1, b2, c1, c2, d1, d2, e1, e2, f1, f2, g1, g2, k1, k2, l1, l2, m1, m2] using q
theorem look_ok : ∀ (n : Nat) (sw : Int) (v : PyData) (Q : PyData → Prop), v.depth < n → tame v → Q (rowD (lk n sw v)) → fn_law_look n [.int sw, v] Q
  | 0, _, _, _, h, _, _ => absurd h (by omega)
  | n + 1, sw, v, Q, h, t, q => by
    cases c : isTy .tuple v with
    | false => exact look_not c t q
    | true =>
      cases v with
      | tuple ds =>
        cases ds with
        | nil => exact look_nil q
        | cons x rest =>
          cases c : isTy .str x with
          | false => exact look_odd c t q
          | true =>
            cases x with
            | str w => exact look_str t (fun d hd R r => look_ok n sw d R (by have := dep_rest (w := w) hd; omega) (tame_tup.mp t d (List.mem_cons_of_mem _ hd)) r) q
            | _ => cases c
      | _ => cases c
end K11

namespace K11
open PySem PySem.Spec PyProof.Rows L2 WL
/-- what the law makes: small numbers, plain texts, no pots -/
def ok (I : Int) : PyData → Prop
  | .int i => -I ≤ i ∧ i ≤ I
  | .str x => ∀ c ∈ x.cps.toList, c < 0x110000
  | .list ds => ∀ d ∈ ds, ok I d
  | .tuple ds => ∀ d ∈ ds, ok I d
  | .dict kvs => kvs = []
  | _ => True
section
variable {I J : Int}
theorem ok_tup {ds : List PyData} : ok I (.tuple ds) ↔ ∀ d ∈ ds, ok I d := by rw [ok]
theorem ok_lst {ds : List PyData} : ok I (.list ds) ↔ ∀ d ∈ ds, ok I d := by rw [ok]
theorem ok_str {x : Str} : ok I (.str x) ↔ ∀ c ∈ x.cps.toList, c < 0x110000 := by rw [ok]
theorem ok_int {i : Int} : ok I (.int i) ↔ -I ≤ i ∧ i ≤ I := by rw [ok]
theorem ok_none : ok I .none := by simp [ok]
theorem ok_bool {b : Bool} : ok I (.bool b) := by simp [ok]
theorem ok_dict {kvs : List (PyData × PyData)} : ok I (.dict kvs) ↔ kvs = [] := by rw [ok]
theorem strOk_of {x : Str} (h : ∀ c ∈ x.cps.toList, c < 0x110000) : PyData.strOk x = true := by
  unfold PyData.strOk
  rw [← Array.all_toList, List.all_eq_true]
  intro c hc
  exact decide_eq_true (h c hc)
theorem ok_of_str {x : Str} (h : PyData.strOk x = true) : ok I (.str x) := by
  rw [ok_str]
  unfold PyData.strOk at h
  rw [← Array.all_toList, List.all_eq_true] at h
  intro c hc
  exact of_decide_eq_true (h c hc)
mutual
theorem ok_tame : ∀ d : PyData, ok I d → tame d
  | .none, _ => by simp [tame]
  | .bool _, _ => by simp [tame]
  | .int _, _ => by simp [tame]
  | .str x, h => tame_str.mpr (strOk_of (ok_str.mp h))
  | .list ds, h => tame_lst.mpr (ok_tameA ds (ok_lst.mp h))
  | .tuple ds, h => tame_tup.mpr (ok_tameA ds (ok_tup.mp h))
  | .dict kvs, h => by rw [tame]; exact ok_dict.mp h
theorem ok_tameA : ∀ ds : List PyData, (∀ d ∈ ds, ok I d) → ∀ d ∈ ds, tame d
  | [], _ => fun _ h => nomatch h
  | x :: ds, h => fun d hd => by
    have h1 := ok_tame x (h x List.mem_cons_self)
    have h2 := ok_tameA ds fun y hy => h y (List.mem_cons_of_mem _ hy)
    rcases List.mem_cons.mp hd with rfl | hd
    · exact h1
    · exact h2 d hd
end
mutual
theorem ok_mono (hI : I ≤ J) : ∀ d : PyData, ok I d → ok J d
  | .none, _ => ok_none
  | .bool _, _ => ok_bool
  | .int _, h => by rw [ok_int] at h ⊢; omega
  | .str x, h => ok_str.mpr (ok_str.mp h)
  | .list ds, h => ok_lst.mpr (ok_monoA hI ds (ok_lst.mp h))
  | .tuple ds, h => ok_tup.mpr (ok_monoA hI ds (ok_tup.mp h))
  | .dict kvs, h => ok_dict.mpr (ok_dict.mp h)
theorem ok_monoA (hI : I ≤ J) : ∀ ds : List PyData, (∀ d ∈ ds, ok I d) → ∀ d ∈ ds, ok J d
  | [], _ => fun _ h => nomatch h
  | x :: ds, h => fun d hd => by
    have h1 := ok_mono hI x (h x List.mem_cons_self)
    have h2 := ok_monoA hI ds fun y hy => h y (List.mem_cons_of_mem _ hy)
    rcases List.mem_cons.mp hd with rfl | hd
    · exact h1
    · exact h2 d hd
end
mutual
theorem ok_leaves (hI : I ≤ 10 ^ 21) : ∀ d : PyData, ok I d → d.leavesShort 26 = true ∧ plain d = true ∧ d.showable = true
  | .none, _ => ⟨rfl, rfl, rfl⟩
  | .bool _, _ => ⟨rfl, rfl, rfl⟩
  | .int i, h => by
    rw [ok_int] at h
    refine ⟨?_, rfl, ?_⟩
    · simp only [PyData.leavesShort, decide_eq_true_eq]
      have h2 : i.natAbs < 10 ^ 25 := by omega
      have e := int_text_length_le10 (k := 25) (by decide) h2
      show (Str.ofString (toString i)).length ≤ 26
      rw [PySem.ofString_length]
      exact e
    · simp only [PyData.showable, decide_eq_true_eq]
      by_cases z : i.natAbs = 0
      · rw [z]
        decide
      · have : i.natAbs.log2 < 100 := (Nat.log2_lt z).mpr (by omega)
        omega
  | .str x, h => by
    rw [ok_str] at h
    refine ⟨?_, rfl, rfl⟩
    simp only [PyData.leavesShort, List.all_eq_true, decide_eq_true_eq]
    intro c hc
    have := h c hc
    omega
  | .list ds, h => by
    obtain ⟨a, b, c⟩ := ok_leavesA hI ds (ok_lst.mp h)
    exact ⟨by simpa [PyData.leavesShort] using a, b, by simpa [PyData.showable] using c⟩
  | .tuple ds, h => by
    obtain ⟨a, b, c⟩ := ok_leavesA hI ds (ok_tup.mp h)
    exact ⟨by simpa [PyData.leavesShort] using a, b, by simpa [PyData.showable] using c⟩
  | .dict kvs, h => by
    obtain rfl := ok_dict.mp h
    exact ⟨rfl, rfl, rfl⟩
theorem ok_leavesA (hI : I ≤ 10 ^ 21) : ∀ ds : List PyData, (∀ d ∈ ds, ok I d) → PyData.leavesShortAll 26 ds = true ∧ plainA ds = true ∧ PyData.showableAll ds = true
  | [], _ => ⟨rfl, rfl, rfl⟩
  | d :: ds, h => by
    obtain ⟨a, b, c⟩ := ok_leaves hI d (h d List.mem_cons_self)
    obtain ⟨a', b', c'⟩ := ok_leavesA hI ds fun y hy => h y (List.mem_cons_of_mem _ hy)
    refine ⟨by simp [PyData.leavesShortAll, a, a'], ?_, by simp [PyData.showableAll, c, c']⟩
    show (plain d && plainA ds) = true
    rw [b, b']
    rfl
end
end
/-- of these bounds -/
structure Gd (I : Int) (D W : Nat) (d : PyData) : Prop where
  ok : ok I d
  dp : d.depth ≤ D
  bk : d.bulk ≤ W
theorem Gd.repr {I : Int} {D W : Nat} {d : PyData} (h : Gd I D W d) (hI : I ≤ 10 ^ 21) (hD : D ≤ 50) (hW : W ≤ 2 ^ 19) : reprD d = some (.str d.shown) := by
  obtain ⟨a, b, c⟩ := ok_leaves hI d h.ok
  have z : d.shown.length ≤ sizeLine := by
    have z := PyData.shown_le_bulk 26 (by decide) d a
    have z2 : (26 + 2) * d.bulk ≤ 28 * 2 ^ 19 := Nat.mul_le_mul (by omega) (Nat.le_trans h.bk hW)
    rw [sizeLine_eq]
    omega
  unfold reprD
  rw [if_pos ⟨b, c, Nat.le_trans h.dp hD, z⟩]
theorem Gd.le {I J : Int} {D D' W W' : Nat} {d : PyData} (h : Gd I D W d) (hI : I ≤ J := by omega) (hD : D ≤ D' := by omega) (hW : W ≤ W' := by omega) : Gd J D' W' d := ⟨ok_mono hI d h.ok, Nat.le_trans h.dp hD, Nat.le_trans h.bk hW⟩
/-! ### bulk and depth of lists -/
theorem bulk_app : ∀ xs ys : List PyData, PyData.bulkAll (xs ++ ys) = PyData.bulkAll xs + PyData.bulkAll ys
  | [], ys => by simp [PyData.bulkAll]
  | x :: xs, ys => by
    show PyData.bulkAll (x :: (xs ++ ys)) = _
    rw [PyData.bulkAll, PyData.bulkAll, bulk_app xs ys]
    omega
theorem bulk_le {B : Nat} : ∀ xs : List PyData, (∀ x ∈ xs, x.bulk ≤ B) → PyData.bulkAll xs ≤ xs.length * (B + 1)
  | [], _ => by simp [PyData.bulkAll]
  | x :: xs, h => by
    have h1 := h x List.mem_cons_self
    have h2 := bulk_le xs fun y hy => h y (List.mem_cons_of_mem _ hy)
    rw [PyData.bulkAll, List.length_cons, Nat.succ_mul]
    omega
theorem bulk_mem : ∀ {xs : List PyData} {x : PyData}, x ∈ xs → x.bulk + 1 ≤ PyData.bulkAll xs
  | y :: xs, x, h => by
    rw [PyData.bulkAll]
    rcases List.mem_cons.mp h with rfl | h
    · omega
    · have := bulk_mem h
      omega
theorem depth_le {D : Nat} : ∀ xs : List PyData, (∀ x ∈ xs, x.depth ≤ D) → PyData.depthAll xs ≤ D
  | [], _ => by simp [PyData.depthAll]
  | x :: xs, h => by
    have h1 := h x List.mem_cons_self
    have h2 := depth_le xs fun y hy => h y (List.mem_cons_of_mem _ hy)
    simp only [PyData.depthAll]
    omega
/-- a tuple, a list of such things -/
theorem Gd.tup {I : Int} {D W : Nat} {ds : List PyData} {n : Nat} (h : ∀ d ∈ ds, Gd I D W d) (hn : ds.length ≤ n) : Gd I (D + 1) (n * (W + 1)) (.tuple ds) := by
  refine ⟨ok_tup.mpr fun d hd => (h d hd).ok, ?_, ?_⟩
  · have := depth_le ds fun d hd => (h d hd).dp
    simp only [PyData.depth]
    omega
  · have := bulk_le ds fun d hd => (h d hd).bk
    have z : ds.length * (W + 1) ≤ n * (W + 1) := Nat.mul_le_mul_right _ hn
    simp only [PyData.bulk]
    omega
theorem Gd.lst {I : Int} {D W : Nat} {ds : List PyData} {n : Nat} (h : ∀ d ∈ ds, Gd I D W d) (hn : ds.length ≤ n) : Gd I (D + 1) (n * (W + 1)) (.list ds) := by
  refine ⟨ok_lst.mpr fun d hd => (h d hd).ok, ?_, ?_⟩
  · have := depth_le ds fun d hd => (h d hd).dp
    simp only [PyData.depth]
    omega
  · have := bulk_le ds fun d hd => (h d hd).bk
    have z : ds.length * (W + 1) ≤ n * (W + 1) := Nat.mul_le_mul_right _ hn
    simp only [PyData.bulk]
    omega
theorem Gd.int {I : Int} {i : Int} (h : -I ≤ i ∧ i ≤ I) : Gd I 0 0 (.int i) := ⟨ok_int.mpr h, by simp [PyData.depth], by simp [PyData.bulk]⟩
theorem Gd.bool {I : Int} {b : Bool} : Gd I 0 0 (.bool b) := ⟨ok_bool, by simp [PyData.depth], by simp [PyData.bulk]⟩
theorem Gd.none {I : Int} : Gd I 0 0 .none := ⟨ok_none, by simp [PyData.depth], by simp [PyData.bulk]⟩
theorem Gd.dict {I : Int} : Gd I 1 0 (.dict []) := ⟨ok_dict.mpr rfl, by simp [PyData.depth, PyData.depthKv], by simp [PyData.bulk, PyData.bulkKv]⟩
theorem Gd.str {I : Int} {x : Str} {n : Nat} (h : PyData.strOk x = true) (hn : x.cps.size ≤ n) : Gd I 0 n (.str x) := ⟨ok_of_str h, by simp [PyData.depth], by simpa [PyData.bulk] using hn⟩
end K11

namespace K11
open PySem PySem.Spec PyProof.Rows L2 WL
theorem draw_in {m : Int} {Q : PyData → Prop} (h : 0 < m) (h2 : m < 2 ^ 30) (q : ∀ d : Int, 0 ≤ d → d < m → Q (.int d)) : drawF [potD, .int m] Q := ⟨h, h2, q⟩
theorem law_pick_ok {ds : List PyData} {Q : PyData → Prop} (h : 0 < ds.length) (h2 : ds.length < 1000) (q : ∀ d ∈ ds, Q d) : fn_law_pick [potD, .list ds] Q := by
  refine gBody_of ?_
  unfold g_law_pick
  simp [wRet, wB, wU, wV, wVb, wCall, wCons, wNil, args, endB]
  refine draw_in (by omega) (by omega) fun d h0 h1 => ?_
  obtain ⟨k, rfl⟩ := Int.eq_ofNat_of_zero_le h0
  have hk : k < ds.length := by omega
  refine ⟨ds[k], atI_of hk, q _ (List.getElem_mem hk)⟩
theorem st_setQ {i : Nat} {g : Ev → W PyData} {h : Ev → W Rs} {ρ : Ev} {Q : Rs → Prop} (q : g ρ fun d => h (ρ.set i (.sh d)) Q) : wSeq (wSet i g) h ρ Q := q
theorem st_both {c : Ev → W Bool} {g h : Ev → W Rs} {ρ : Ev} {Q : Rs → Prop} (hc : ∀ R : Bool → Prop, R true → R false → c ρ R) (q : wSeq g h ρ Q) (q2 : h ρ Q) : wSeq (wIf c g wSkip) h ρ Q := hc _ (by
  rw [if_pos rfl]
  exact q) (by
  rw [if_neg Bool.false_ne_true]
  exact q2)
theorem bulk_drop : ∀ (n : Nat) (xs : List PyData), PyData.bulkAll (xs.drop n) ≤ PyData.bulkAll xs
  | 0, _ => Nat.le_refl _
  | n + 1, [] => by simp
  | n + 1, x :: xs => by
    have := bulk_drop n xs
    rw [List.drop_succ_cons, PyData.bulkAll]
    omega
theorem bulk_take (n : Nat) (xs : List PyData) : PyData.bulkAll (xs.take n) + PyData.bulkAll (xs.drop n) = PyData.bulkAll xs := by
  rw [← bulk_app, List.take_append_drop]
theorem len_bulk : ∀ xs : List PyData, xs.length ≤ PyData.bulkAll xs
  | [] => by simp
  | x :: xs => by
    have := len_bulk xs
    rw [PyData.bulkAll, List.length_cons]
    omega
theorem bulk_rep {x : PyData} : ∀ n : Nat, PyData.bulkAll (List.replicate n x) = n * (x.bulk + 1)
  | 0 => by simp [PyData.bulkAll]
  | n + 1 => by
    rw [List.replicate_succ, PyData.bulkAll, bulk_rep n, Nat.succ_mul]
    omega
theorem depth_rep {x : PyData} : ∀ n : Nat, PyData.depthAll (List.replicate n x) ≤ x.depth := fun n => depth_le _ fun y hy => by
  rw [List.eq_of_mem_replicate hy]
  exact Nat.le_refl _
theorem flat1 {x : PyData} : ∀ n : Nat, (List.replicate n [x]).flatten = List.replicate n x
  | 0 => rfl
  | n + 1 => by
    rw [List.replicate_succ, List.flatten_cons, flat1 n, List.replicate_succ]
    rfl
theorem big_size {n : Nat} (h : n ≤ 1000) : n ≤ sizeLine := Nat.le_trans h (by decide)
theorem sizeB {n : Nat} (h : n ≤ 2 ^ 20) : n ≤ sizeLine := Nat.le_trans h (by decide)
theorem cat_ok {xs ys : List PyData} (h : xs.length + ys.length ≤ 1000) : catD (.list xs) (.list ys) = some (.list (xs ++ ys)) := if_pos (big_size h)
theorem addTup {xs ys : List PyData} (h : xs.length + ys.length ≤ 1000) : addAD (.tuple xs) (.tuple ys) = some (.tuple (xs ++ ys)) := if_pos (big_size h)
theorem mul1 {x : PyData} {k : Nat} (h : 1 ≤ k) (h2 : k ≤ 100) : mulAD (.tuple [x]) (.int (k : Int)) = some (.tuple (List.replicate k x)) := by
  rw [mulAD_tup ⟨by omega, by omega, by simp⟩, Int.toNat_natCast, flat1]
@[simp] theorem sz5 : 5 ≤ sizeLine := by decide
@[simp] theorem sz3 : 3 ≤ sizeLine := by decide
@[simp] theorem sz1 : 1 ≤ sizeLine := by decide
@[simp] theorem sz12 : 12 ≤ sizeLine := by decide
@[simp] theorem z_yes : ("yes" : Str).cps.size = 3 := by decide +kernel
@[simp] theorem z_no : ("no" : Str).cps.size = 2 := by decide +kernel
@[simp] theorem z_on : ("on" : Str).cps.size = 2 := by decide +kernel
@[simp] theorem z_not : ("not" : Str).cps.size = 3 := by decide +kernel
@[simp] theorem z_then : ("then" : Str).cps.size = 4 := by decide +kernel
@[simp] theorem z_same : ("same" : Str).cps.size = 4 := by decide +kernel
@[simp] theorem z_most : ("most" : Str).cps.size = 4 := by decide +kernel
@[simp] theorem z_and : ("and" : Str).cps.size = 3 := by decide +kernel
@[simp] theorem z_or : ("or" : Str).cps.size = 2 := by decide +kernel
@[simp] theorem z_one : ("one" : Str).cps.size = 3 := by decide +kernel
@[simp] theorem z_And : ("And" : Str).cps.size = 3 := by decide +kernel
@[simp] theorem z_some : ("some" : Str).cps.size = 4 := by decide +kernel
@[simp] theorem z_emp : ("" : Str).cps.size = 0 := by decide +kernel
@[simp] theorem ok_And : PyData.strOk ("And" : Str) = true := by decide +kernel
@[simp] theorem ok_some : PyData.strOk ("some" : Str) = true := by decide +kernel
@[simp] theorem ok_emp : PyData.strOk ("" : Str) = true := by decide +kernel
theorem Gd.s {I : Int} {x : Str} (h : PyData.strOk x = true) (n : Nat) (hn : x.cps.size ≤ n := by decide +kernel) : Gd I 0 n (.str x) := Gd.str h hn
/-- no tuple in it is empty, or long -/
def full : PyData → Prop
  | .tuple ds => 0 < ds.length ∧ ds.length ≤ 5 ∧ ∀ d ∈ ds, full d
  | _ => True
theorem full_tup {ds : List PyData} : full (.tuple ds) ↔ 0 < ds.length ∧ ds.length ≤ 5 ∧ ∀ d ∈ ds, full d := by rw [full]
@[simp] theorem full_str {x : Str} : full (.str x) := by simp [full]
@[simp] theorem full_int {i : Int} : full (.int i) := by simp [full]
@[reducible] def fB : Nat → Nat
  | 0 => 0
  | 1 => 10
  | 2 => 60
  | 3 => 310
  | _ => 1600
structure Fm (k : Nat) (f : PyData) : Prop where
  gd : Gd 1000000000000000000000 k (fB k) f
  tup : ∃ ds, f = .tuple ds
  full : full f
/-- ground -/
theorem ground {sw d : Int} {k : Nat} (hk : 1 ≤ k) (hk2 : k ≤ 4) (h2 : sw ≤ 13) (h0 : 0 ≤ d) (h1 : d < sw) : Fm k (.tuple [.str "on", .int d]) := by
  refine ⟨⟨ok_tup.mpr ?_, by simp [PyData.depth, PyData.depthAll]; omega, ?_⟩, ⟨_, rfl⟩, full_tup.mpr ⟨by simp, by simp, by simp⟩⟩
  · intro x hx
    simp at hx
    rcases hx with rfl | rfl
    · exact ok_of_str ok_on
    · exact ok_int.mpr (by omega)
  · simp [PyData.bulk, PyData.bulkAll]
    rcases (by omega : k = 1 ∨ k = 2 ∨ k = 3 ∨ k = 4) with rfl | rfl | rfl | rfl <;> decide
theorem ground1 {w : Str} {k : Nat} (hk : 1 ≤ k) (hk2 : k ≤ 4) (h : PyData.strOk w = true) (hw : w.cps.size ≤ 4) : Fm k (.tuple [.str w]) := by
  refine ⟨⟨ok_tup.mpr ?_, by simp [PyData.depth, PyData.depthAll]; omega, ?_⟩, ⟨_, rfl⟩, full_tup.mpr ⟨by simp, by simp, by simp⟩⟩
  · intro x hx
    simp at hx
    subst hx
    exact ok_of_str h
  · simp [PyData.bulk, PyData.bulkAll]
    have : 10 ≤ fB k := by rcases (by omega : k = 1 ∨ k = 2 ∨ k = 3 ∨ k = 4) with rfl | rfl | rfl | rfl <;> decide
    omega
/-- a word, a number -/
structure Wd (d : PyData) : Prop where
  gd : Gd 1000000000000000000000 0 10 d
  full : K11.full d
theorem Wd.s {x : Str} (h : PyData.strOk x = true) (hn : x.cps.size ≤ 10 := by decide +kernel) : Wd (.str x) := ⟨Gd.str h hn, full_str⟩
theorem node {k : Nat} (hk : 1 ≤ k) (hk2 : k ≤ 3) {ds : List PyData} (h : ∀ d ∈ ds, Wd d ∨ Fm k d) (h0 : 0 < ds.length) (hn : ds.length ≤ 5) : Fm (k + 1) (.tuple ds) := by
  have h' : ∀ d ∈ ds, Gd 1000000000000000000000 k (fB k) d := fun d hd => (h d hd).elim (fun g => g.gd.le (by omega) (by omega) (by
    rcases (by omega : k = 1 ∨ k = 2 ∨ k = 3) with rfl | rfl | rfl <;> decide)) fun g => g.gd
  refine ⟨(Gd.tup h' hn).le (by omega) (by omega) ?_, ⟨_, rfl⟩, full_tup.mpr ⟨h0, hn, fun d hd => (h d hd).elim (fun g => g.full) fun g => g.full⟩⟩
  rcases (by omega : k = 1 ∨ k = 2 ∨ k = 3) with rfl | rfl | rfl <;> decide
theorem rng2 {m : Int} {ρ : Ev} {R : List PyData → Prop} (e0 : ρ[0]? = some (.sh potD)) (r : ∀ ds, ds.length ≤ 3 → R ds) : wRange1 (wB addAD (wC (.int 2)) (wCall 2 drawF (wCons (wV 0) (wCons (wC (.int 2)) wNil)))) ρ R := by
  simp [wRange1, wB, wC, wCall, wCons, wNil, wV, e0]
  refine draw_in (by decide) (by decide) fun d d0 d1 => ⟨_, rfl, rangeL 0 (2 + d).toNat, if_pos (by
    have : (1000 : Int) ≤ sizeLine := by decide
    omega), r _ (by rw [rangeL_len]; omega)⟩
theorem ixD_l1 {x y : PyData} {xs : List PyData} : ixD (.list (x :: y :: xs)) (.int 1) = some y := by
  show atI (x :: y :: xs) ((1 : Nat) : Int) = some y
  exact atI_nat rfl
theorem ixD_l2 {x y z : PyData} {xs : List PyData} : ixD (.list (x :: y :: z :: xs)) (.int 2) = some z := by
  show atI (x :: y :: z :: xs) ((2 : Nat) : Int) = some z
  exact atI_nat rfl
theorem law_formula_ok : ∀ (n k : Nat) (sw : Int) (Q : PyData → Prop), k ≤ n → 1 ≤ k → k ≤ 4 → 1 ≤ sw → sw ≤ 13 → (∀ f, Fm k f → Q f) → fn_law_formula n [potD, .int sw, .int k] Q
  | 0, _, _, _, h, h', _, _, _, _ => absurd h (by omega)
  | n + 1, k, sw, Q, h, hk1, hk2, h1, h2, q => by
    refine gBody_of ?_
    unfold g_law_formula
    -- what a deeper one gives
    have sub : ∀ (ρ : Ev) (R : PyData → Prop), 2 ≤ k → ρ[0]? = some (.sh potD) → ρ[1]? = some (.sh (.int sw)) → ρ[2]? = some (.sh (.int k)) → (∀ f, Fm (k - 1) f → R f) →
        wCall 3 (fn_law_formula n) (wCons (wV 0) (wCons (wV 1) (wCons (wB subD (wVb 2) (wC (.int 1))) wNil))) ρ R := by
      intro ρ R hk e0 e1 e2 r
      have ih := law_formula_ok n (k - 1) sw R (by omega) (by omega) (by omega) h1 h2 r
      have e : ((k : Int) - 1) = ((k - 1 : Nat) : Int) := by omega
      simp [wCall, wCons, wNil, wV, wVb, wB, wC, e0, e1, e2]
      rw [e]
      exact ih
    have way_in : ∀ (h : Ev → W Rs) (K : Rs → Prop), (∀ way : Int, 0 ≤ way → way < 9 → (k = 1 → way = 0) → h [Sl.sh potD, .sh (.int sw), .sh (.int k), .sh (.int way), .no, .no] K) →
        wSeq (wSet 3 (wIf (wT (wB gtI (wVb 2) (wC (.int 1)))) (wCall 2 drawF (wCons (wV 0) (wCons (wC (.int 9)) wNil))) (wC (.int 0)))) h (args 6 [potD, .int sw, .int k]) K := by
      intro h K main
      refine st_setQ ?_
      by_cases hk : (1 : Int) < (k : Int)
      · have hk' : ¬ (k : Int) ≤ 1 := by omega
        simp only [wIf, wT, wB, wC, wV, wVb, wCall, wCons, wNil, args]
        simp [hk, hk']
        exact draw_in (by decide) (by decide) fun d d0 d1 => main d d0 d1 fun e => absurd e (by omega)
      · have hk' : (k : Int) ≤ 1 := by omega
        simp [wIf, wT, wB, wC, wV, wVb, wCall, wCons, wNil, args, hk, hk']
        exact main 0 (by omega) (by omega) fun _ => rfl
    refine way_in _ _ fun way w0 w1 w2 => ?_
    by_cases c1 : way < 2
    · refine st_yes (fun R r => by simpa [wT, wB, wVb, wC, c1] using r) ?_
      simp [wIf, wT, wB, wCall, wCons, wNil, wLst, wTup, wC, wV, endB]
      refine draw_in (by omega) (by omega) fun a a0 a1 => ?_
      by_cases ca : 0 < a
      · simp [ca]
        exact draw_in (by omega) (by omega) fun b b0 b1 => q _ (ground hk1 hk2 h2 b0 b1)
      · simp [ca]
        refine law_pick_ok (by simp) (by simp) fun d hd => q _ ?_
        simp at hd
        rcases hd with rfl | rfl
        · exact ground1 hk1 hk2 ok_yes (by decide +kernel)
        · exact ground1 hk1 hk2 ok_no (by decide +kernel)
    have hk : 2 ≤ k := by
      rcases (by omega : k = 1 ∨ 2 ≤ k) with z | z
      · have := w2 z
        omega
      · exact z
    obtain ⟨j, rfl⟩ : ∃ j, k = j + 1 := ⟨k - 1, by omega⟩
    have hj : 1 ≤ j := by omega
    have hj3 : j ≤ 3 := by omega
    refine st_no (fun R r => by simpa [wT, wB, wVb, wC, c1] using r) ?_
    by_cases c2 : way = 2
    · subst c2
      refine st_yes (fun R r => by simpa [wT, wB, wVb, wC] using r) ?_
      simp only [wTup, wCons, wNil, wC]
      refine sub _ _ hk rfl rfl rfl fun f hf => ⟨by simp, q _ (node hj hj3 (fun d hd => ?_) (by simp) (by simp))⟩
      simp at hd
      rcases hd with rfl | rfl
      · exact .inl (Wd.s ok_not)
      · exact .inr hf
    refine st_no (fun R r => by simpa [wT, wB, wVb, wC, c2] using r) ?_
    by_cases c3 : way < 5
    · refine st_then (fun R r => by simpa [wT, wB, wVb, wC, c3] using r) ?_
      refine st_assoc ?_
      refine st_setQ ?_
      simp only [wTup, wCons, wNil]
      refine sub _ _ hk rfl rfl rfl fun f hf => sub _ _ hk rfl rfl rfl fun g hg => ⟨by simp, ?_⟩
      have fin : ∀ w : Str, Wd (.str w) → Q (.tuple [.str w, f, g]) := fun w hw => q _ (node hj hj3 (fun d hd => by
        simp at hd
        rcases hd with rfl | rfl | rfl
        · exact .inl hw
        · exact .inr hf
        · exact .inr hg) (by simp) (by simp))
      rcases (by omega : way = 3 ∨ way = 4) with rfl | rfl
      · simpa [wSeq, wRet, wB, wTup, wLst, wCons, wNil, wC, wVb, endB, addTup] using fin _ (Wd.s ok_then)
      · simpa [wSeq, wRet, wB, wTup, wLst, wCons, wNil, wC, wVb, endB, addTup, ixD_l1] using fin _ (Wd.s ok_same)
    refine st_no (fun R r => by simpa [wT, wB, wVb, wC, c3] using r) ?_
    refine st_setQ ?_
    simp only [wU, wLc]
    refine rng2 (m := 0) rfl fun ds hds => ⟨_, rfl, ?_⟩
    refine wLc1_any (G := fun f => Fm j f) (fun d hd R r => ⟨_, rfl, sub _ _ hk rfl rfl rfl r⟩) fun ys hl hys => ⟨_, tupleD_list, ?_⟩
    show wSeq _ _ [Sl.sh potD, .sh (.int sw), .sh (.int ((j + 1 : Nat) : Int)), .sh (.int way), .sh (.tuple ys), .no] _
    have fin : ∀ w : Str, Wd (.str w) → Q (.tuple (.str w :: ys)) := fun w hw => q _ (node hj hj3 (fun d hd => by
      rcases List.mem_cons.mp hd with rfl | hd
      · exact .inl hw
      · exact .inr (hys d hd)) (by simp) (by simp; omega))
    by_cases c4 : way = 5
    · subst c4
      refine st_yes (fun R r => by simpa [wT, wB, wVb, wC] using r) ?_
      simp [wTup, wB, wCall, wCons, wNil, wC, wV, wVb, endB]
      refine draw_in (by decide) (by decide) fun m m0 m1 => ⟨_, addTup (by simp; omega), q _ (node hj hj3 (fun d hd => ?_) (by simp) (by simp; omega))⟩
      simp at hd
      rcases hd with rfl | rfl | hd
      · exact .inl (Wd.s ok_most)
      · exact .inl ⟨(Gd.int (I := 1000000000000000000000) (by omega)).le (by omega) (by omega) (by omega), by simp⟩
      · exact .inr (hys d hd)
    refine st_no (fun R r => by simpa [wT, wB, wVb, wC, c4] using r) ?_
    have s3' : 3 ≤ sizeLine := by decide
    have la : ∀ w : PyData, addAD (.tuple [w]) (.tuple ys) = some (.tuple ([w] ++ ys)) := fun w => addTup (by simp; omega)
    rcases (by omega : way = 6 ∨ way = 7 ∨ way = 8) with rfl | rfl | rfl
    · simpa [wRet, wB, wTup, wLst, wCons, wNil, wC, wVb, endB, la] using fin _ (Wd.s ok_and)
    · simpa [wRet, wB, wTup, wLst, wCons, wNil, wC, wVb, endB, la, ixD_l1] using fin _ (Wd.s ok_or)
    · simpa [wRet, wB, wTup, wLst, wCons, wNil, wC, wVb, endB, la, ixD_l2] using fin _ (Wd.s ok_one)
end K11

namespace K11
open PySem PySem.Spec PyProof.Rows L2 WL
structure Bt (v r : PyData) : Prop where
  ok : ok 1000000000000000000000 r
  dp : r.depth ≤ v.depth + 2
  bk : r.bulk ≤ 9 * v.bulk + 20
theorem bt_tup {ds es : List PyData} (h : ∀ e ∈ es, ok 1000000000000000000000 e ∧ e.depth ≤ PyData.depthAll ds + 2) (hb : PyData.bulkAll es ≤ 9 * PyData.bulkAll ds + 20) : Bt (.tuple ds) (.tuple es) := by
  refine ⟨ok_tup.mpr fun e he => (h e he).1, ?_, by simpa [PyData.bulk] using hb⟩
  have := depth_le es fun e he => (h e he).2
  simp only [PyData.depth]
  omega
theorem bt_lst {ds es : List PyData} (h : ∀ e ∈ es, ok 1000000000000000000000 e ∧ e.depth ≤ PyData.depthAll ds + 2) (hb : PyData.bulkAll es ≤ 9 * PyData.bulkAll ds + 20) : Bt (.tuple ds) (.list es) := by
  refine ⟨ok_lst.mpr fun e he => (h e he).1, ?_, by simpa [PyData.bulk] using hb⟩
  have := depth_le es fun e he => (h e he).2
  simp only [PyData.depth]
  omega
theorem pow20 : powD (.int 10) (.int 20) = some (.int (100000000000000000000)) := by
  show (if CPow 10 20 then some (PyData.int (10 ^ (20 : Int).toNat)) else none) = _
  rw [if_pos (by unfold CPow; decide)]
  rfl
def odds : List PyData := [.none, .bool true, .bool false, .int (-1), .int 0, .int 1, .int 7, .int 8, .int 12, .str "yes", .str "", .tuple [.str "yes"], .tuple [.str "on", .int 0], .list [], .tuple [], .list [.str "yes"], .int 100000000000000000000]
structure Sm (d : PyData) : Prop where
  ok : ok 1000000000000000000000 d
  dp : d.depth ≤ 1
  bk : d.bulk ≤ 6
theorem ok_s {x : Str} (h : PyData.strOk x = true) : ok 1000000000000000000000 (.str x) := ok_of_str h
theorem odds_ok : ∀ d ∈ odds, Sm d := by
  intro d hd
  simp only [odds, List.mem_cons, List.not_mem_nil, or_false] at hd
  rcases hd with rfl | rfl | rfl | rfl | rfl | rfl | rfl | rfl | rfl | rfl | rfl | rfl | rfl | rfl | rfl | rfl | rfl
  · exact ⟨ok_none, by simp [PyData.depth], by simp [PyData.bulk]⟩
  · exact ⟨ok_bool, by simp [PyData.depth], by simp [PyData.bulk]⟩
  · exact ⟨ok_bool, by simp [PyData.depth], by simp [PyData.bulk]⟩
  · exact ⟨ok_int.mpr (by omega), by simp [PyData.depth], by simp [PyData.bulk]⟩
  · exact ⟨ok_int.mpr (by omega), by simp [PyData.depth], by simp [PyData.bulk]⟩
  · exact ⟨ok_int.mpr (by omega), by simp [PyData.depth], by simp [PyData.bulk]⟩
  · exact ⟨ok_int.mpr (by omega), by simp [PyData.depth], by simp [PyData.bulk]⟩
  · exact ⟨ok_int.mpr (by omega), by simp [PyData.depth], by simp [PyData.bulk]⟩
  · exact ⟨ok_int.mpr (by omega), by simp [PyData.depth], by simp [PyData.bulk]⟩
  · exact ⟨ok_s ok_yes, by simp [PyData.depth], by simp [PyData.bulk]⟩
  · exact ⟨ok_s ok_emp, by simp [PyData.depth], by simp [PyData.bulk]⟩
  · exact ⟨ok_tup.mpr (by simpa using ok_s ok_yes), by simp [PyData.depth, PyData.depthAll], by simp [PyData.bulk, PyData.bulkAll]⟩
  · exact ⟨ok_tup.mpr (by simpa using ⟨ok_s ok_on, ok_int.mpr (by omega)⟩), by simp [PyData.depth, PyData.depthAll], by simp [PyData.bulk, PyData.bulkAll]⟩
  · exact ⟨ok_lst.mpr (by simp), by simp [PyData.depth, PyData.depthAll], by simp [PyData.bulk, PyData.bulkAll]⟩
  · exact ⟨ok_tup.mpr (by simp), by simp [PyData.depth, PyData.depthAll], by simp [PyData.bulk, PyData.bulkAll]⟩
  · exact ⟨ok_lst.mpr (by simpa using ok_s ok_yes), by simp [PyData.depth, PyData.depthAll], by simp [PyData.bulk, PyData.bulkAll]⟩
  · exact ⟨ok_int.mpr (by omega), by simp [PyData.depth], by simp [PyData.bulk]⟩
def wrds : List PyData := [.str "yes", .str "no", .str "on", .str "not", .str "and", .str "or", .str "one", .str "most", .str "then", .str "same", .str "And", .str "some", .str ""]
theorem wrds_ok : ∀ d ∈ wrds, ok 1000000000000000000000 d ∧ d.depth = 0 ∧ d.bulk ≤ 4 := by
  intro d hd
  simp only [wrds, List.mem_cons, List.not_mem_nil, or_false] at hd
  rcases hd with rfl | rfl | rfl | rfl | rfl | rfl | rfl | rfl | rfl | rfl | rfl | rfl | rfl <;> exact ⟨ok_s (by simp), by simp [PyData.depth], by simp [PyData.bulk]⟩
theorem st_par3Q {i j l : Nat} {gs : Ev → W (List PyData)} {h : Ev → W Rs} {ρ : Ev} {Q : Rs → Prop} (q : gs ρ fun ds => ∃ d1 d2 d3, ds = [d1, d2, d3] ∧ h (((ρ.set i (.sh d1)).set j (.sh d2)).set l (.sh d3)) Q) : wSeq (wPar3 i j l gs) h ρ Q := by
  have q : gs ρ fun ds => ∃ d1 d2 d3, ds = [d1, d2, d3] ∧ (fun r : Rs => match r with | .nx ρ' => h ρ' Q | r => Q r) (.nx (((ρ.set i (.sh d1)).set j (.sh d2)).set l (.sh d3))) := q
  exact q
/-- what bent values are picked from -/
def cands (ds : List PyData) (k : Nat) (odd word : PyData) : List PyData :=
  [.tuple (ds.take (k + 1) ++ [odd] ++ ds.drop (k + 1)), .tuple (ds.take (k + 1) ++ [odd] ++ ds.drop (k + 2)), .tuple (ds.take (k + 1) ++ ds.drop (k + 2)),
   .list ds, .tuple (ds.drop 1), .tuple (ds ++ ds.drop 1), .tuple ([word] ++ ds.drop 1), .tuple [.tuple ds],
   .tuple [.str "not", .tuple ds], .tuple [.str "then", .tuple ds, .tuple ds], .tuple ([.str "and"] ++ List.replicate 9 (.tuple ds)), .tuple [.str "most", .int 1, .tuple ds, .tuple ds]]
theorem cands_ok {ds : List PyData} {k : Nat} {odd word : PyData} (hok : ∀ d ∈ ds, ok 1000000000000000000000 d) (ho : Sm odd) (hw : ok 1000000000000000000000 word ∧ word.depth = 0 ∧ word.bulk ≤ 4) : ∀ r ∈ cands ds k odd word, Bt (.tuple ds) r := by
  have i1 : ∀ e ∈ ds, ok 1000000000000000000000 e ∧ e.depth ≤ PyData.depthAll ds + 2 := fun e he => ⟨hok e he, by have := depth_mem he; omega⟩
  have i2 : ok 1000000000000000000000 odd ∧ odd.depth ≤ PyData.depthAll ds + 2 := ⟨ho.ok, by have := ho.dp; omega⟩
  have i3 : ok 1000000000000000000000 word ∧ word.depth ≤ PyData.depthAll ds + 2 := ⟨hw.1, by omega⟩
  have i4 : ok 1000000000000000000000 (.tuple ds) ∧ (PyData.tuple ds).depth ≤ PyData.depthAll ds + 2 := ⟨ok_tup.mpr hok, by simp only [PyData.depth]; omega⟩
  have i5 : ∀ w : Str, PyData.strOk w = true → ok 1000000000000000000000 (.str w) ∧ (PyData.str w).depth ≤ PyData.depthAll ds + 2 := fun w h => ⟨ok_s h, by simp [PyData.depth]⟩
  have b1 := bulk_take (k + 1) ds
  have b2 := bulk_drop (k + 2) ds
  have b3 := bulk_drop 1 ds
  have b4 := ho.bk
  have b5 := hw.2.2
  have b6 : PyData.bulkAll (ds.drop (k + 2)) ≤ PyData.bulkAll (ds.drop (k + 1)) := by
    have := bulk_drop 1 (ds.drop (k + 1))
    rw [List.drop_drop] at this
    exact this
  intro r hr
  simp only [cands, List.mem_cons, List.not_mem_nil, or_false] at hr
  rcases hr with rfl | rfl | rfl | rfl | rfl | rfl | rfl | rfl | rfl | rfl | rfl | rfl
  · refine bt_tup (fun e he => ?_) (by simp only [bulk_app, PyData.bulkAll]; omega)
    simp only [List.mem_append, List.mem_singleton] at he
    rcases he with (he | rfl) | he
    · exact i1 e (List.mem_of_mem_take he)
    · exact i2
    · exact i1 e (List.mem_of_mem_drop he)
  · refine bt_tup (fun e he => ?_) (by simp only [bulk_app, PyData.bulkAll]; omega)
    simp only [List.mem_append, List.mem_singleton] at he
    rcases he with (he | rfl) | he
    · exact i1 e (List.mem_of_mem_take he)
    · exact i2
    · exact i1 e (List.mem_of_mem_drop he)
  · refine bt_tup (fun e he => ?_) (by simp only [bulk_app, PyData.bulkAll]; omega)
    simp only [List.mem_append, List.mem_singleton] at he
    rcases he with he | he
    · exact i1 e (List.mem_of_mem_take he)
    · exact i1 e (List.mem_of_mem_drop he)
  · exact bt_lst i1 (by omega)
  · exact bt_tup (fun e he => i1 e (List.mem_of_mem_drop he)) (by omega)
  · refine bt_tup (fun e he => ?_) (by simp only [bulk_app]; omega)
    rcases List.mem_append.mp he with he | he
    · exact i1 e he
    · exact i1 e (List.mem_of_mem_drop he)
  · refine bt_tup (fun e he => ?_) (by simp only [bulk_app, PyData.bulkAll]; omega)
    rcases List.mem_append.mp he with he | he
    · simp at he
      subst he
      exact i3
    · exact i1 e (List.mem_of_mem_drop he)
  · exact bt_tup (by simpa using i4) (by simp only [PyData.bulkAll, PyData.bulk]; omega)
  · refine bt_tup (fun e he => ?_) (by simp only [PyData.bulkAll, PyData.bulk, z_not]; omega)
    simp only [List.mem_cons, List.not_mem_nil, or_false] at he
    rcases he with rfl | rfl
    · exact i5 _ ok_not
    · exact i4
  · refine bt_tup (fun e he => ?_) (by simp only [PyData.bulkAll, PyData.bulk, z_then]; omega)
    simp only [List.mem_cons, List.not_mem_nil, or_false] at he
    rcases he with rfl | rfl | rfl
    · exact i5 _ ok_then
    · exact i4
    · exact i4
  · refine bt_tup (fun e he => ?_) (by simp only [bulk_app, bulk_rep, PyData.bulkAll, PyData.bulk, z_and]; omega)
    rcases List.mem_append.mp he with he | he
    · simp at he
      subst he
      exact i5 _ ok_and
    · rw [List.eq_of_mem_replicate he]
      exact i4
  · refine bt_tup (fun e he => ?_) (by simp only [PyData.bulkAll, PyData.bulk, z_most]; omega)
    simp only [List.mem_cons, List.not_mem_nil, or_false] at he
    rcases he with rfl | rfl | rfl | rfl
    · exact i5 _ ok_most
    · exact ⟨ok_int.mpr (by omega), by simp [PyData.depth]⟩
    · exact i4
    · exact i4
/-- bent behind its first `if` -/
def g_rest : Ev → W Rs := (wSeq (wSet 3 (wLst (wCons (wC .none) (wCons (wC (.bool true)) (wCons (wC (.bool false)) (wCons (wU negD (wC (.int 1))) (wCons (wC (.int 0)) (wCons (wC (.int 1)) (wCons (wC (.int 7)) (wCons (wC (.int 8)) (wCons (wC (.int 12)) (wCons (wC (.str "yes")) (wCons (wC (.str "")) (wCons (wTup (wCons (wC (.str "yes")) wNil)) (wCons (wTup (wCons (wC (.str "on")) (wCons (wC (.int 0)) wNil))) (wCons (wLst wNil) (wCons (wTup wNil) (wCons (wLst (wCons (wC (.str "yes")) wNil)) (wCons (wB powD (wC (.int 10)) (wC (.int 20))) wNil)))))))))))))))))))
  (wSeq (wPar3 4 5 6 (wCons (wCall 2 fn_law_pick (wCons (wV 0) (wCons (wV 3) wNil))) (wCons (wSl (wVb 1) wNo (wPart (wVb 2))) (wCons (wSl (wVb 1) (wPart (wB addAD (wVb 2) (wC (.int 1)))) wNo) wNil))))
  (wSeq (wSet 7 (wLst (wCons (wB addAD (wB addAD (wVb 5) (wTup (wCons (wV 4) wNil))) (wSl (wVb 1) (wPart (wVb 2)) wNo)) (wCons (wB addAD (wB addAD (wVb 5) (wTup (wCons (wV 4) wNil))) (wVb 6)) (wCons (wB addAD (wVb 5) (wVb 6)) wNil)))))
  (wSeq (wSet 8 (wCall 2 fn_law_pick (wCons (wV 0) (wCons (wLst (wCons (wC (.str "yes")) (wCons (wC (.str "no")) (wCons (wC (.str "on")) (wCons (wC (.str "not")) (wCons (wC (.str "and")) (wCons (wC (.str "or")) (wCons (wC (.str "one")) (wCons (wC (.str "most")) (wCons (wC (.str "then")) (wCons (wC (.str "same")) (wCons (wC (.str "And")) (wCons (wC (.str "some")) (wCons (wC (.str "")) wNil)))))))))))))) wNil))))
  (wSeq (wSet 7 (wB catD (wVb 7) (wLst (wCons (wU listD (wVb 1)) (wCons (wSl (wVb 1) (wPart (wC (.int 1))) wNo) (wCons (wB addAD (wVb 1) (wSl (wVb 1) (wPart (wC (.int 1))) wNo)) (wCons (wB addAD (wTup (wCons (wV 8) wNil)) (wSl (wVb 1) (wPart (wC (.int 1))) wNo)) (wCons (wTup (wCons (wV 1) wNil)) wNil))))))))
  (wSeq (wSet 7 (wB catD (wVb 7) (wLst (wCons (wTup (wCons (wC (.str "not")) (wCons (wV 1) wNil))) (wCons (wTup (wCons (wC (.str "then")) (wCons (wV 1) (wCons (wV 1) wNil)))) (wCons (wB addAD (wTup (wCons (wC (.str "and")) wNil)) (wB mulAD (wTup (wCons (wV 1) wNil)) (wC (.int 9)))) wNil))))))
  (wRet (wCall 2 fn_law_pick (wCons (wV 0) (wCons (wB catD (wVb 7) (wLst (wCons (wTup (wCons (wC (.str "most")) (wCons (wC (.int 1)) (wCons (wV 1) (wCons (wV 1) wNil))))) wNil))) wNil))))))))))
@[simp] theorem sz17 : 17 ≤ sizeLine := by decide
@[simp] theorem sz13 : 13 ≤ sizeLine := by decide
theorem rest_ok {ds : List PyData} {k : Nat} {Q : PyData → Prop} (h0 : 0 < ds.length) (h5 : ds.length ≤ 5) (hok : ∀ d ∈ ds, ok 1000000000000000000000 d) (q : ∀ r, Bt (.tuple ds) r → Q r) :
    g_rest [Sl.sh potD, .sh (.tuple ds), .sh (.int ((k + 1 : Nat) : Int)), .no, .no, .no, .no, .no, .no] (endB .S Q) := by
  have cu : cutP ds none (some ((k + 1 : Nat) : Int)) = ds.take (k + 1) := cut_to
  have cd : cutP ds (some ((k + 1 : Nat) : Int)) none = ds.drop (k + 1) := cut_from
  have e2 : (((k + 1 : Nat) : Int) + 1) = (k : Int) + 2 := by omega
  have cd2 : cutP ds (some ((k : Int) + 2)) none = ds.drop (k + 2) := cut_from (k := k + 2)
  have l1 : (ds.take (k + 1)).length ≤ 5 := by rw [List.length_take]; omega
  have l2 : ∀ n, (ds.drop n).length ≤ 5 := fun n => by rw [List.length_drop]; omega
  generalize hat : ((k + 1 : Nat) : Int) = at' at *
  unfold g_rest
  refine st_set (d := .list odds) (fun R r => ?_) ?_
  · simpa [odds, wLst, wTup, wCons, wNil, wC, wU, wB, pow20] using r
  have hs0 : ∀ (ρ : Ev) (R : PyData → Prop), ρ[1]? = some (.sh (.tuple ds)) → ρ[2]? = some (.sh (.int at')) → R (.tuple (ds.take (k + 1))) → wSl (wVb 1) wNo (wPart (wVb 2)) ρ R := fun ρ R e1 e2' r => by
    simp [wSl, wNo, wPart, wVb, e1, e2', cu]
    exact r
  have hs1 : ∀ (ρ : Ev) (R : PyData → Prop), ρ[1]? = some (.sh (.tuple ds)) → ρ[2]? = some (.sh (.int at')) → R (.tuple (ds.drop (k + 1))) → wSl (wVb 1) (wPart (wVb 2)) wNo ρ R := fun ρ R e1 e2' r => by
    simp [wSl, wNo, wPart, wVb, e1, e2', cd]
    exact r
  have hs2 : ∀ (ρ : Ev) (R : PyData → Prop), ρ[1]? = some (.sh (.tuple ds)) → ρ[2]? = some (.sh (.int at')) → R (.tuple (ds.drop (k + 2))) → wSl (wVb 1) (wPart (wB addAD (wVb 2) (wC (.int 1)))) wNo ρ R := fun ρ R e1 e2' r => by
    simp [wSl, wNo, wPart, wVb, wB, wC, e1, e2', e2, cd2]
    exact r
  refine st_par3Q ?_
  refine ⟨_, rfl, _, rfl, rfl, law_pick_ok (by simp [odds]) (by simp [odds]) fun odd ho => hs0 _ _ rfl rfl (hs2 _ _ rfl rfl ⟨_, _, _, rfl, ?_⟩)⟩
  show wSeq _ _ [Sl.sh potD, .sh (.tuple ds), .sh (.int at'), .sh (.list odds), .sh odd, .sh (.tuple (ds.take (k + 1))), .sh (.tuple (ds.drop (k + 2))), .no, .no] _
  have t1 : addAD (.tuple (ds.take (k + 1))) (.tuple [odd]) = some (.tuple (ds.take (k + 1) ++ [odd])) := addTup (by simp; omega)
  have t2 : addAD (.tuple (ds.take (k + 1) ++ [odd])) (.tuple (ds.drop (k + 1))) = some (.tuple (ds.take (k + 1) ++ [odd] ++ ds.drop (k + 1))) := addTup (by have := l2 (k + 1); simp only [List.length_append, List.length_singleton]; omega)
  have t3 : addAD (.tuple (ds.take (k + 1) ++ [odd])) (.tuple (ds.drop (k + 2))) = some (.tuple (ds.take (k + 1) ++ [odd] ++ ds.drop (k + 2))) := addTup (by have := l2 (k + 2); simp only [List.length_append, List.length_singleton]; omega)
  have t4 : addAD (.tuple (ds.take (k + 1))) (.tuple (ds.drop (k + 2))) = some (.tuple (ds.take (k + 1) ++ ds.drop (k + 2))) := addTup (by have := l2 (k + 2); omega)
  refine st_set (d := .list ((cands ds k odd .none).take 3)) (fun R r => ?_) ?_
  · simp only [wLst, wTup, wCons, wNil, wB, wV, wVb]
    simp [t1]
    refine hs1 _ _ rfl rfl ?_
    simp only [t2, t3, t4, Option.some.injEq, exists_eq_left']
    simpa [cands] using r
  refine st_setQ ?_
  refine (show wCall 2 fn_law_pick _ [Sl.sh potD, .sh (.tuple ds), .sh (.int at'), .sh (.list odds), .sh odd, .sh (.tuple (ds.take (k + 1))), .sh (.tuple (ds.drop (k + 2))), .sh (.list ((cands ds k odd .none).take 3)), .no] _ from ?_)
  have lw : ∀ (ρ : Ev) (R : PyData → Prop), R (.list wrds) → (wLst (wCons (wC (.str "yes")) (wCons (wC (.str "no")) (wCons (wC (.str "on")) (wCons (wC (.str "not")) (wCons (wC (.str "and")) (wCons (wC (.str "or")) (wCons (wC (.str "one")) (wCons (wC (.str "most")) (wCons (wC (.str "then")) (wCons (wC (.str "same")) (wCons (wC (.str "And")) (wCons (wC (.str "some")) (wCons (wC (.str "")) wNil)))))))))))))) ρ R := fun ρ R r => by
    simpa [wLst, wCons, wNil, wC, wrds] using r
  refine ⟨_, rfl, lw _ _ ⟨rfl, law_pick_ok (by simp [wrds]) (by simp [wrds]) fun word hw => ?_⟩⟩
  have fin := cands_ok (k := k) hok (odds_ok odd ho) (wrds_ok word hw)
  show wSeq _ _ [Sl.sh potD, .sh (.tuple ds), .sh (.int at'), .sh (.list odds), .sh odd, .sh (.tuple (ds.take (k + 1))), .sh (.tuple (ds.drop (k + 2))), .sh (.list ((cands ds k odd .none).take 3)), .sh word] _
  have u1 : addAD (.tuple ds) (.tuple ds.tail) = some (.tuple (ds ++ ds.tail)) := addTup (by have := l2 1; rw [List.drop_one] at this; omega)
  have u2 : addAD (.tuple [word]) (.tuple ds.tail) = some (.tuple ([word] ++ ds.tail)) := addTup (by have := l2 1; rw [List.drop_one] at this; simp only [List.length_singleton]; omega)
  have u3 : addAD (.tuple [.str "and"]) (.tuple (List.replicate 9 (.tuple ds))) = some (.tuple ([.str "and"] ++ List.replicate 9 (.tuple ds))) := addTup (by simp)
  have u4 : mulAD (.tuple [.tuple ds]) (.int 9) = some (.tuple (List.replicate 9 (.tuple ds))) := mul1 (k := 9) (by omega) (by omega)
  refine st_set (d := .list ((cands ds k odd word).take 8)) (fun R r => ?_) ?_
  · simp [wB, wVb, wLst, wTup, wCons, wNil, wV, wU, wSl, wNo, wPart, wC, u1, u2]
    exact ⟨_, cat_ok (by simp [cands]), by simpa [cands] using r⟩
  refine st_set (d := .list ((cands ds k odd word).take 11)) (fun R r => ?_) ?_
  · simp [wB, wVb, wLst, wTup, wCons, wNil, wV, wU, wC, u3, u4, -List.reduceReplicate]
    exact ⟨_, cat_ok (by simp [cands]), by simpa [cands, -List.reduceReplicate] using r⟩
  simp [wRet, wCall, wB, wVb, wLst, wTup, wCons, wNil, wV, wC]
  refine ⟨_, cat_ok (by simp [cands]), ?_⟩
  refine law_pick_ok (by simp [cands]) (by simp [cands]) fun r hr => q r (fin r ?_)
  simpa [cands] using hr
end K11

namespace K11
open PySem PySem.Spec PyProof.Rows L2 WL
theorem law_bent_ok : ∀ (n : Nat) (ds : List PyData) (Q : PyData → Prop), (PyData.tuple ds).depth < n → full (.tuple ds) → (∀ d ∈ ds, ok 1000000000000000000000 d) → (∀ r, Bt (.tuple ds) r → Q r) → fn_law_bent n [potD, .tuple ds] Q
  | 0, _, _, h, _, _, _ => absurd h (Nat.not_lt_zero _)
  | n + 1, ds, Q, hn, hf, hok, q => by
    obtain ⟨f0, f5, fs⟩ := full_tup.mp hf
    refine gBody_of ?_
    show g_law_bent (fn_law_bent n) [Sl.sh potD, .sh (.tuple ds), .no, .no, .no, .no, .no, .no, .no] (endB .S Q)
    unfold g_law_bent
    refine st_setQ ?_
    simp [wB, wC, wCall, wCons, wNil, wV, wVb, wU]
    refine draw_in (by omega) (by omega) fun d d0 d1 => ⟨_, rfl, ?_⟩
    obtain ⟨k, rfl⟩ := Int.eq_ofNat_of_zero_le d0
    have e1 : (1 + (k : Int)) = ((k + 1 : Nat) : Int) := by omega
    have hk : k < ds.length := by omega
    rw [e1]
    have rest := rest_ok (k := k) f0 f5 hok q
    by_cases c : k + 1 < ds.length
    · have hx := atI_of c
      have mx : ds[k + 1] ∈ ds := List.getElem_mem c
      have nt := (ok_tame _ (hok _ mx)).noTok
      have lt : (((k + 1 : Nat) : Int) < (ds.length : Int)) := by omega
      cases ct : isTy .tuple ds[k + 1] with
      | false => exact st_no (fun R r => by simpa [wAnd, wT, wB, wU, wVb, wC, ixD, hx, isiD_of nt, ct, -Int.natCast_add, lt] using r) rest
      | true =>
        refine st_both (fun R r1 r2 => ?_) ?_ rest
        · simp [wAnd, wT, wB, wU, wVb, wC, wV, wCall, wCons, wNil, ixD, hx, isiD_of nt, ct, -Int.natCast_add, lt]
          refine draw_in (by decide) (by decide) fun d d0 d1 => ?_
          by_cases c : 0 < d
          · simpa [c] using r1
          · simpa [c] using r2
        · obtain ⟨es, hes⟩ : ∃ es, ds[k + 1] = .tuple es := by
            cases hz : ds[k + 1] with
            | tuple es => exact ⟨es, rfl⟩
            | _ => rw [hz] at ct; cases ct
          have cu : cutP ds none (some ((k + 1 : Nat) : Int)) = ds.take (k + 1) := cut_to
          have cd : cutP ds (some ((k + 2 : Nat) : Int)) none = ds.drop (k + 2) := cut_from
          have e2 : (((k + 1 : Nat) : Int) + 1) = ((k + 2 : Nat) : Int) := by omega
          have l1 : (ds.take (k + 1)).length ≤ 5 := by rw [List.length_take]; omega
          have l2 : (ds.drop (k + 2)).length ≤ 5 := by rw [List.length_drop]; omega
          have de := depth_mem mx
          rw [hes] at mx hx de
          have ih := law_bent_ok n es
          show wSeq (wRet _) _ _ _
          refine st_ret ?_
          simp [wB, wSl, wNo, wPart, wTup, wCons, wNil, wCall, wV, wVb, wC, ixD, hx, cu, cd, e2, -Int.natCast_add]
          refine ih _ (by simp only [PyData.depth] at hn de ⊢; omega) (fs _ mx) (ok_tup.mp (hok _ mx)) fun r hr => ?_
          have t1 : addAD (.tuple (ds.take (k + 1))) (.tuple [r]) = some (.tuple (ds.take (k + 1) ++ [r])) := addTup (by simp; omega)
          have t2 : addAD (.tuple (ds.take (k + 1) ++ [r])) (.tuple (ds.drop (k + 2))) = some (.tuple (ds.take (k + 1) ++ [r] ++ ds.drop (k + 2))) := addTup (by simp only [List.length_append, List.length_singleton]; omega)
          refine ⟨_, t1, _, t2, q _ ⟨ok_tup.mpr fun e he => ?_, ?_, ?_⟩⟩
          · simp only [List.mem_append, List.mem_singleton] at he
            rcases he with (he | rfl) | he
            · exact hok e (List.mem_of_mem_take he)
            · exact hr.ok
            · exact hok e (List.mem_of_mem_drop he)
          · have := depth_le (D := PyData.depthAll ds + 2) (ds.take (k + 1) ++ [r] ++ ds.drop (k + 2)) fun e he => by
              simp only [List.mem_append, List.mem_singleton] at he
              rcases he with (he | rfl) | he
              · have := depth_mem (List.mem_of_mem_take he); omega
              · have := hr.dp
                omega
              · have := depth_mem (List.mem_of_mem_drop he); omega
            simp only [PyData.depth] at this ⊢
            omega
          · have b1 := bulk_take (k + 1) ds
            have b2 : PyData.bulkAll (ds.drop (k + 1)) = (PyData.tuple es).bulk + 1 + PyData.bulkAll (ds.drop (k + 2)) := by
              rw [List.drop_eq_getElem_cons c, PyData.bulkAll, hes]
            have b3 := hr.bk
            simp only [PyData.bulk, bulk_app, PyData.bulkAll] at b3 ⊢
            simp only [PyData.bulk] at b2
            omega
    · have lt : ¬ (((k + 1 : Nat) : Int) < (ds.length : Int)) := by omega
      exact st_no (fun R r => by simpa [wAnd, wT, wB, wU, wVb, -Int.natCast_add, lt] using r) rest
/-! ### great ones -/
theorem great_loop {sw : Int} {Q : Rs → Prop} : ∀ (xs : List PyData) (D W : Nat) (d : PyData) (a3 a4 : Sl), Gd 1000000000000000000000 D W d → 1 ≤ D → (∀ d' x y, Gd 1000000000000000000000 (D + xs.length) ((W + 10) * 2 ^ xs.length) d' → Q (.nx [.sh potD, .sh (.int sw), .sh d', x, y])) →
    wLoop (WL.stN 3) (wSeq (wSet 4 (wLst (wCons (wTup (wCons (wC (.str "not")) (wCons (wV 2) wNil))) (wCons (wTup (wCons (wC (.str "and")) (wCons (wV 2) (wCons (wTup (wCons (wC (.str "no")) wNil)) wNil)))) (wCons (wTup (wCons (wC (.str "or")) (wCons (wTup (wCons (wC (.str "yes")) wNil)) (wCons (wV 2) (wCons (wV 2) wNil))))) (wCons (wTup (wCons (wC (.str "not")) (wCons (wV 2) wNil))) wNil))))))
  (wSet 2 (wCall 2 fn_law_pick (wCons (wV 0) (wCons (wV 4) wNil))))) xs [.sh potD, .sh (.int sw), .sh d, a3, a4] Q
  | [], D, W, d, a3, a4, h, hD, q => q d a3 a4 (h.le (by omega) (by simp) (by simp))
  | x :: xs, D, W, d, a3, a4, h, hD, q => by
    refine ⟨_, rfl, ?_⟩
    show wSeq _ _ [.sh potD, .sh (.int sw), .sh d, .sh x, a4] _
    refine st_set (d := .list [.tuple [.str "not", d], .tuple [.str "and", d, .tuple [.str "no"]], .tuple [.str "or", .tuple [.str "yes"], d, d], .tuple [.str "not", d]]) (fun R r => by simpa [wLst, wTup, wCons, wNil, wC, wV] using r) ?_
    simp [wSet, wCall, wCons, wNil, wV]
    refine law_pick_ok (by simp) (by simp) fun e he => ?_
    refine great_loop xs (D + 1) (2 * W + 10) e (.sh x) _ ?_ (by omega) fun d' y z h' => q d' y z (h'.le (by omega) (by simp only [List.length_cons]; omega) ?_)
    · have h1 := h.ok
      have h2 := h.dp
      have h3 := h.bk
      simp only [List.mem_cons, List.not_mem_nil, or_false] at he
      rcases he with rfl | rfl | rfl | rfl
      · exact ⟨ok_tup.mpr (by simpa using ⟨ok_s ok_not, h1⟩), by simp only [PyData.depth, PyData.depthAll]; omega, by simp only [PyData.bulk, PyData.bulkAll, z_not]; omega⟩
      · exact ⟨ok_tup.mpr (by simpa using ⟨ok_s ok_and, h1, ok_tup.mpr (by simpa using ok_s ok_no)⟩), by simp only [PyData.depth, PyData.depthAll]; omega, by simp only [PyData.bulk, PyData.bulkAll, z_and, z_no]; omega⟩
      · exact ⟨ok_tup.mpr (by simpa using ⟨ok_s ok_or, ok_tup.mpr (by simpa using ok_s ok_yes), h1⟩), by simp only [PyData.depth, PyData.depthAll]; omega, by simp only [PyData.bulk, PyData.bulkAll, z_or, z_yes]; omega⟩
      · exact ⟨ok_tup.mpr (by simpa using ⟨ok_s ok_not, h1⟩), by simp only [PyData.depth, PyData.depthAll]; omega, by simp only [PyData.bulk, PyData.bulkAll, z_not]; omega⟩
    · have e : 2 * W + 10 + 10 = (W + 10) * 2 := by omega
      rw [e, List.length_cons, Nat.pow_succ', Nat.mul_assoc]
      exact Nat.le_refl _
theorem law_great_ok {sw : Int} {Q : PyData → Prop} (h1 : 1 ≤ sw) (h2 : sw ≤ 13) (q : ∀ d, Gd 1000000000000000000000 9 6000 d → Q d) : fn_law_great [potD, .int sw] Q := by
  refine gBody_of ?_
  show g_law_great [Sl.sh potD, .sh (.int sw), .no, .no, .no] (endB .S Q)
  unfold g_law_great
  refine st_setQ ?_
  simp [wTup, wCons, wNil, wC, wCall, wV]
  refine draw_in (by omega) (by omega) fun a a0 a1 => ?_
  have g := (ground (k := 1) (by omega) (by omega) h2 a0 a1).gd
  have rng : ∀ (ρ : Ev) (R : List PyData → Prop), ρ[0]? = some (.sh potD) → (∀ ds, ds.length ≤ 8 → R ds) → wRange1 (wCall 2 drawF (wCons (wV 0) (wCons (wC (.int 9)) wNil))) ρ R := by
    intro ρ R e0 r
    simp [wRange1, wC, wCall, wCons, wNil, wV, e0]
    refine draw_in (by decide) (by decide) fun d d0 d1 => ⟨rangeL 0 d.toNat, if_pos (by
      have : (1000 : Int) ≤ sizeLine := by decide
      omega), r _ (by rw [rangeL_len]; omega)⟩
  refine rng _ _ rfl fun ds hds => ?_
  refine great_loop ds 1 10 _ _ _ g (by omega) fun d' x y h' => ?_
  refine ⟨_, rfl, q _ (h'.le (by omega) (by omega) ?_)⟩
  have : 2 ^ ds.length ≤ 2 ^ 8 := Nat.pow_le_pow_right (by decide) hds
  have : 20 * 2 ^ ds.length ≤ 20 * 2 ^ 8 := Nat.mul_le_mul_left _ this
  omega
end K11

namespace K11
open PySem PySem.Spec PyProof.Rows L2 WL
abbrev Vv (d : PyData) : Prop := Gd 1000000000000000000000 12 (2 ^ 17) d
theorem vtup {es : List PyData} {D W n : Nat} (h : ∀ e ∈ es, Gd 1000000000000000000000 D W e) (hn : es.length ≤ n) (hD : D ≤ 11 := by omega) (hW : n * (W + 1) ≤ 2 ^ 17 := by omega) : Vv (.tuple es) := (Gd.tup h hn).le (by omega) (by omega) hW
theorem gword {w : Str} {D W : Nat} (h : PyData.strOk w = true) (hn : w.cps.size ≤ 10 := by decide +kernel) (hW : 10 ≤ W := by omega) : Gd 1000000000000000000000 D W (.str w) := (Gd.str (I := 1000000000000000000000) (n := 10) h hn).le (by omega) (by omega) hW
theorem gint {i : Int} {D W : Nat} (h : -20 ≤ i ∧ i ≤ 20) : Gd 1000000000000000000000 D W (.int i) := (Gd.int (I := 1000000000000000000000) (by omega)).le (by omega) (by omega) (by omega)
theorem gone {w : Str} {D W : Nat} (h : PyData.strOk w = true) (hn : w.cps.size ≤ 10 := by decide +kernel) (hD : 1 ≤ D := by omega) (hW : 20 ≤ W := by omega) : Gd 1000000000000000000000 D W (.tuple [.str w]) :=
  (Gd.tup (D := 0) (W := 10) (n := 1) (fun d hd => by
    simp at hd
    subst hd
    exact gword h hn (by omega)) (by simp)).le (by omega) (by omega) (by omega)
theorem gwide {w u : Str} {m n : Nat} {D W : Nat} (h : PyData.strOk w = true) (h2 : PyData.strOk u = true) (hm : m ≤ n) (hn : w.cps.size ≤ 10 := by decide +kernel) (hn2 : u.cps.size ≤ 10 := by decide +kernel) (hD : 2 ≤ D := by omega) (hW : 21 * (n + 1) ≤ W := by omega) :
    Gd 1000000000000000000000 D W (.tuple (.str w :: List.replicate m (.tuple [.str u]))) :=
  (Gd.tup (D := 1) (W := 20) (n := n + 1) (fun d hd => by
    rcases List.mem_cons.mp hd with rfl | hd
    · exact gword h hn (by omega)
    · rw [List.eq_of_mem_replicate hd]
      exact gone h2 hn2) (by simp; omega)).le (by omega) (by omega) (by omega)
theorem ext_in {gs : Ev → W (List PyData)} {h : Ev → W Rs} {ρ : Ev} {Q : Rs → Prop} {ds : List PyData} (e : ρ[3]? = some (.ow ds)) (hd : (∀ d ∈ ds, Vv d) ∧ ds.length ≤ 500) (hg : ∀ R : List PyData → Prop, (∀ es, (∀ d ∈ es, Vv d) → es.length ≤ 12 → R es) → gs ρ R)
    (q : ∀ ds', ((∀ d ∈ ds', Vv d) ∧ ds'.length ≤ ds.length + 12) → h (ρ.set 3 (.ow ds')) Q) : wSeq (wExt 3 (wLst gs)) h ρ Q := by
  refine ⟨ds, e, hg _ fun es he hl => ⟨big_size (by omega), es, rfl, big_size (by omega), q (ds ++ es) ⟨fun d hm => ?_, by rw [List.length_append]; omega⟩⟩⟩
  rcases List.mem_append.mp hm with hm | hm
  · exact hd.1 d hm
  · exact he d hm
theorem rgn {n : Nat} (h : n ≤ 1000) : rg1D (.int (n : Int)) = some (rangeL 0 n) := by
  unfold rg1D
  exact if_pos (by
    have : (1000 : Int) ≤ sizeLine := by decide
    omega)
theorem law_values_ok {sw : Int} {Q : PyData → Prop} (h1 : 1 ≤ sw) (h2 : sw ≤ 12) (q : ∀ vs, (∀ d ∈ vs, Vv d) → Q (.list vs)) : fn_law_values [potD, .int sw] Q := by
  refine gBody_of ?_
  show g_law_values [Sl.sh potD, .sh (.int sw), .no, .no, .no, .no, .no] (endB .S Q)
  unfold g_law_values
  refine st_setQ ?_
  refine ⟨_, rfl, _, rfl, rfl, law_formula_ok 4 4 sw _ (by omega) (by omega) (by omega) h1 (by omega) fun f hf => ?_⟩
  obtain ⟨⟨fo, fd, fb⟩, ⟨ds, rfl⟩, ff⟩ := hf
  have fb : (PyData.tuple ds).bulk ≤ 1600 := fb
  show wSeq _ _ [Sl.sh potD, .sh (.int sw), .sh (.tuple ds), .no, .no, .no, .no] _
  refine st_setFQ ?_
  refine ⟨_, rfl, sz1, ?_⟩
  refine ⟨_, rgn (n := 20) (by omega), _, rfl, ?_⟩
  refine wLc1_any (G := Vv) (fun d hd R r => ⟨_, rfl, _, rfl, _, rfl, rfl, law_bent_ok 8 ds R (by simp only [PyData.depth] at fd ⊢; omega) ff (ok_tup.mp fo) fun b hb => r b ⟨hb.ok, by have := hb.dp; omega, by have := hb.bk; omega⟩⟩) fun ys hl hys => ?_
  have hl : ys.length = 20 := hl
  refine ⟨_, cat_ok (by simp; omega), _, rfl, ?_⟩
  have gf : Vv (.tuple ds) := ⟨fo, by omega, by omega⟩
  have g1 : (∀ d ∈ [PyData.tuple ds] ++ ys, Vv d) ∧ ([PyData.tuple ds] ++ ys).length ≤ 21 := ⟨fun d hd => by
    rcases List.mem_append.mp hd with hd | hd
    · simp at hd
      subst hd
      exact gf
    · exact hys d hd, by simp; omega⟩
  generalize [PyData.tuple ds] ++ ys = v1 at g1
  show wSeq _ _ [Sl.sh potD, .sh (.int sw), .sh (.tuple ds), .ow v1, .no, .no, .no] _
  refine st_setFQ ?_
  refine .inr ⟨_, rfl, ?_⟩
  refine ⟨_, rgn (n := 5) (by omega), _, rfl, ?_⟩
  refine wLc1_any (G := Vv) (fun d hd R r => ⟨_, rfl, _, rfl, _, rfl, rfl, law_great_ok h1 (by omega) fun d hd => r d (hd.le (by omega) (by omega) (by omega))⟩) fun ys hl hys => ?_
  have hl : ys.length = 5 := hl
  refine ⟨_, cat_ok (by have := g1.2; omega), _, rfl, ?_⟩
  have g2 : (∀ d ∈ v1 ++ ys, Vv d) ∧ (v1 ++ ys).length ≤ 26 := ⟨fun d hd => by
    rcases List.mem_append.mp hd with hd | hd
    · exact g1.1 d hd
    · exact hys d hd, by have := g1.2; simp; omega⟩
  generalize v1 ++ ys = v2 at g2
  show wSeq _ _ [Sl.sh potD, .sh (.int sw), .sh (.tuple ds), .ow v2, .no, .no, .no] _
  refine st_setQ ?_
  simp [wB, wTup, wC, wCall, wCons, wNil, wV]
  refine draw_in (by decide) (by decide) fun a a0 a1 => ?_
  obtain ⟨m, rfl⟩ : ∃ m : Nat, a = (m : Int) := ⟨a.toNat, by omega⟩
  have e6 : (6 : Int) + (m : Int) = ((6 + m : Nat) : Int) := by omega
  refine ⟨_, addAD_int, ?_⟩
  rw [e6]
  refine ⟨_, mul1 (by omega) (by omega), ?_⟩
  have hm : 6 + m ≤ 9 := by omega
  generalize 6 + m = m at hm
  have ad : ∀ xs : List PyData, xs.length ≤ 5 → addAD (.tuple xs) (.tuple (List.replicate m (.tuple [.str "yes"]))) = some (.tuple (xs ++ List.replicate m (.tuple [.str "yes"]))) := fun xs h => addTup (by rw [List.length_replicate]; omega)
  refine ext_in rfl ⟨g2.1, by have := g2.2; omega⟩ (fun R r => ?_) fun v3 g3 => ?_
  · simp [wB, wTup, wC, wCall, wCons, wNil, wV, wVb, ad]
    refine draw_in (by decide) (by decide) fun b b0 b1 => ⟨_, subD_int, r _ (fun d hd => ?_) (by simp)⟩
    simp only [List.mem_cons, List.not_mem_nil, or_false] at hd
    rcases hd with rfl | rfl | rfl | rfl
    · exact gwide (n := 9) ok_and ok_yes hm
    · exact gwide (n := 9) ok_one ok_yes hm
    · refine vtup (D := 1) (W := 20) (n := 11) (fun e he => ?_) (by simp; omega)
      simp only [List.mem_append, List.mem_cons, List.not_mem_nil, or_false] at he
      rcases he with rfl | rfl | he
      · exact gword ok_most
      · exact gint (by omega)
      · rw [List.eq_of_mem_replicate he]
        exact gone ok_yes
    · exact gwide (n := 9) ok_most ok_yes hm
  have g3l := g3.2
  show wSeq _ _ [Sl.sh potD, .sh (.int sw), .sh (.tuple ds), .ow v3, .sh (.tuple (List.replicate m (.tuple [.str "yes"]))), .no, .no] _
  refine st_setQ ?_
  simp [wB, wTup, wC, wCall, wCons, wNil, wV]
  refine draw_in (by decide) (by decide) fun a a0 a1 => ?_
  obtain ⟨n, rfl⟩ : ∃ n : Nat, a = (n : Int) := ⟨a.toNat, by omega⟩
  have e6 : (6 : Int) + (n : Int) = ((6 + n : Nat) : Int) := by omega
  refine ⟨_, addAD_int, ?_⟩
  rw [e6]
  refine ⟨_, mul1 (by omega) (by omega), _, addTup (by rw [List.length_replicate]; simp; omega), ?_⟩
  have hn : 6 + n ≤ 8 := by omega
  generalize 6 + n = n at hn
  have gw : Gd 1000000000000000000000 2 200 (.tuple ([PyData.str "or"] ++ List.replicate n (.tuple [.str "no"]))) := gwide (n := 8) ok_or ok_no hn
  generalize PyData.tuple ([PyData.str "or"] ++ List.replicate n (.tuple [.str "no"])) = wide at gw
  refine ext_in rfl ⟨g3.1, by omega⟩ (fun R r => ?_) fun v4 g4 => ?_
  · have m6 : mulAD (.tuple [wide]) (.int 6) = some (.tuple (List.replicate 6 wide)) := mul1 (k := 6) (by omega) (by omega)
    have a6 : addAD (.tuple [.str "and"]) (.tuple (List.replicate 6 wide)) = some (.tuple ([.str "and"] ++ List.replicate 6 wide)) := addTup (by simp)
    have gn : ∀ k, k ≤ 8 → Gd 1000000000000000000000 3 2000 (.tuple ([PyData.str "and"] ++ List.replicate k wide)) := fun k hk => (Gd.tup (D := 2) (W := 200) (n := 9) (fun e he => by
      rcases List.mem_append.mp he with he | he
      · simp at he
        subst he
        exact gword ok_and
      · rw [List.eq_of_mem_replicate he]
        exact gw) (by simp; omega)).le (by omega) (by omega) (by omega)
    simp [wB, wTup, wC, wCall, wCons, wNil, wV, wVb, -List.reduceReplicate]
    refine draw_in (by decide) (by decide) fun a a0 a1 => ?_
    obtain ⟨k, rfl⟩ : ∃ k : Nat, a = (k : Int) := ⟨a.toNat, by omega⟩
    have e5 : (5 : Int) + (k : Int) = ((5 + k : Nat) : Int) := by omega
    refine ⟨_, addAD_int, ?_⟩
    rw [e5]
    refine ⟨_, mul1 (by omega) (by omega), _, addTup (by rw [List.length_replicate]; simp; omega), _, m6, _, a6, r _ (fun d hd => ?_) (by simp)⟩
    simp only [List.mem_cons, List.not_mem_nil, or_false] at hd
    rcases hd with rfl | rfl
    · exact (gn _ (by omega)).le (by omega) (by omega) (by omega)
    · refine vtup (D := 3) (W := 2000) (n := 3) (fun e he => ?_) (by simp)
      simp only [List.mem_cons, List.not_mem_nil, or_false] at he
      rcases he with rfl | rfl | rfl
      · exact gword ok_same
      · exact gn 6 (by omega)
      · exact gw.le (by omega) (by omega) (by omega)
  have g4l := g4.2
  refine ext_in rfl ⟨g4.1, by omega⟩ (fun R r => ?_) fun v5 g5 => ?_
  · simp [wB, wTup, wC, wCall, wCons, wNil, wV, wVb]
    refine r _ (fun d hd => ?_) (by simp)
    simp only [List.mem_cons, List.not_mem_nil, or_false] at hd
    rcases hd with rfl | rfl | rfl <;> refine vtup (D := 0) (W := 10) (n := 2) (fun e he => ?_) (by simp) <;> simp only [List.mem_cons, List.not_mem_nil, or_false] at he <;> rcases he with rfl | rfl
    · exact gword ok_on
    · exact gint (by omega)
    · exact gword ok_on
    · exact gint (by omega)
    · exact gword ok_most
    · exact gint (by omega)
  have g5l := g5.2
  simp [wRet, wB, wTup, wLst, wC, wCons, wNil, wVb, endB]
  refine ⟨_, cat_ok (by simp; omega), q _ fun d hd => ?_⟩
  rcases List.mem_append.mp hd with hd | hd
  · exact g5.1 d hd
  have nil1 : Gd 1000000000000000000000 1 20 (.tuple []) := (Gd.tup (I := 1000000000000000000000) (D := 0) (W := 0) (n := 0) (by simp) (by simp)).le (by omega) (by omega) (by omega)
  simp only [List.mem_cons, List.not_mem_nil, or_false] at hd
  rcases hd with rfl | rfl | rfl | rfl | rfl | rfl | rfl | rfl | rfl | rfl | rfl | rfl
  · exact (Gd.none (I := 1000000000000000000000)).le (by omega) (by omega) (by omega)
  · exact gint (by omega)
  · exact gword ok_emp
  · exact gword ok_yes
  · exact nil1.le (by omega) (by omega) (by omega)
  · exact (Gd.lst (I := 1000000000000000000000) (D := 0) (W := 0) (n := 0) (by simp) (by simp)).le (by omega) (by omega) (by omega)
  · exact (Gd.dict (I := 1000000000000000000000)).le (by omega) (by omega) (by omega)
  · exact (Gd.bool (I := 1000000000000000000000)).le (by omega) (by omega) (by omega)
  · exact gone ok_yes
  · exact gone ok_no
  · refine vtup (D := 1) (W := 20) (n := 1) (fun e he => ?_) (by simp)
    simp at he
    subst he
    exact gone ok_yes
  · refine vtup (D := 1) (W := 20) (n := 2) (fun e he => ?_) (by simp)
    simp at he
    rcases he with rfl | rfl
    · exact gword ok_yes
    · exact nil1
end K11

namespace K11
open PySem PySem.Spec PyProof.Rows L2 WL
def fm (sw : Int) (v : PyData) : Bool := bl 8 sw v && decide (sz 8 v ≤ 60)
theorem check_switches_ok {sw : Int} {Q : PyData → Prop} (h1 : 1 ≤ sw) (h2 : sw ≤ 12) (q : Q .none) : fn_check_switches [.int sw, .int 1] Q := by
  refine gBody_of ?_
  unfold g_check_switches
  simp [wIf, wNot, wT, wCall, wCons, wNil, wV, wC, wSkip, args]
  refine is_within_ok rfl ?_
  simp [inR, h1, h2, endB]
  exact q
theorem is_formula_ok {sw : Int} {v : PyData} {Q : PyData → Prop} (h1 : 1 ≤ sw) (h2 : sw ≤ 12) (t : tame v) (q : Q (.bool (fm sw v))) : fn_is_formula [.int sw, v] Q := by
  refine gBody_of ?_
  unfold g_is_formula
  refine (show wDrop _ _ _ from ?_)
  simp [wDrop, wCallD, wCons, wNil, wV, args]
  refine check_switches_ok h1 h2 ?_
  simp [wRet, wCall, wCons, wNil, wV, endB]
  exact is_formula_of_ok t q
theorem law_is_formula_ok {sw : Int} {v : PyData} {Q : PyData → Prop} (hd : v.depth ≤ 12) (t : tame v) (q : Q (.bool (fm sw v))) : fn_law_is_formula [.int sw, v] Q := by
  refine gBody_of ?_
  unfold g_law_is_formula
  refine (show wAsg _ _ _ _ from ?_)
  simp only [wAsg, wCall, wCons, wNil, wV]
  refine ⟨_, rfl, _, rfl, rfl, look_ok 16 sw v _ (by omega) t ⟨_, rfl, ?_⟩⟩
  obtain ⟨e1, e2, e3⟩ := lk_bl 16 8 sw v (by omega)
  show wRet _ [Sl.sh (.int sw), .sh v, .sh (.bool (lk 16 sw v).1), .sh (.int (lk 16 sw v).2.1), .sh (.int (lk 16 sw v).2.2)] (endB .S Q)
  have e : fm sw v = ((lk 16 sw v).1 && (decide ((lk 16 sw v).2.1 ≤ 60) && decide ((lk 16 sw v).2.2 ≤ 8))) := by
    unfold fm
    cases hb : bl 8 sw v with
    | false =>
      rw [hb] at e1
      cases h1 : (lk 16 sw v).1 with
      | false => simp
      | true =>
        rw [h1] at e1
        have e1 : decide ((lk 16 sw v).2.2 ≤ (8 : Int)) = false := by simpa using e1.symm
        simp [e1]
    | true =>
      have e4 := e2 hb
      rw [hb] at e1
      have h3 := (Bool.and_eq_true _ _).mp e1.symm
      have h4 : decide ((lk 16 sw v).2.2 ≤ (8 : Int)) = true := h3.2
      rw [h3.1, h4, e4]
      simp
  rw [e] at q
  cases h1 : (lk 16 sw v).1 with
  | false =>
    rw [h1] at q
    simpa [wRet, wAndV, wV, endB, h1] using q
  | true =>
    rw [h1] at q
    by_cases c : (lk 16 sw v).2.1 ≤ 60
    · simpa [wRet, wAndV, wV, wVb, wB, wC, endB, h1, c] using q
    · simpa [wRet, wAndV, wV, wVb, wB, wC, endB, h1, c] using q
theorem bools_repr (b c : Bool) : ∃ s, reprD (.list [.bool b, .bool c]) = some (.str s) :=
  ⟨_, Gd.repr (I := 100) (D := 1) (W := 10) ⟨ok_lst.mpr (by
    intro d hd
    simp at hd
    rcases hd with rfl | rfl <;> exact ok_bool), by simp [PyData.depth, PyData.depthAll], by simp [PyData.bulk, PyData.bulkAll]⟩ (by decide) (by decide) (by decide)⟩
theorem many_loop {v : PyData} {sw0 : Int} {sh : PyData} {Q : Rs → Prop} (hv : Vv v) : ∀ (ms : List Int) (a4 a5 : Sl), (∀ m ∈ ms, 1 ≤ m ∧ m ≤ 12) → (∀ x y, Q (.nx [.sh potD, .sh (.int sw0), .sh v, .sh sh, x, y])) →
    wLoop (WL.stN 4) (wSeq (wSet 5 (wCall 2 fn_law_is_formula (wCons (wV 4) (wCons (wV 2) wNil))))
  (wIf (wT (wB neD (wU reprD (wLst (wCons (wCall 2 fn_is_formula (wCons (wV 4) (wCons (wV 2) wNil))) (wCons (wCallK 0 2 [1, 0] fn_is_formula wNil (wCons (wV 2) (wCons (wV 4) wNil))) wNil)))) (wU reprD (wLst (wCons (wV 5) (wCons (wV 5) wNil)))))) (wRet (wC (.bool false))) wSkip)) (ms.map PyData.int) [.sh potD, .sh (.int sw0), .sh v, .sh sh, a4, a5] Q
  | [], a4, a5, _, q => q a4 a5
  | m :: ms, a4, a5, h, q => by
    have tv := ok_tame v hv.ok
    obtain ⟨m1, m2⟩ := h m List.mem_cons_self
    obtain ⟨s, rb⟩ := bools_repr (fm m v) (fm m v)
    refine ⟨_, rfl, ?_⟩
    show wSeq _ _ [.sh potD, .sh (.int sw0), .sh v, .sh sh, .sh (.int m), a5] _
    refine st_setQ ?_
    refine ⟨_, rfl, _, rfl, rfl, law_is_formula_ok hv.dp tv ?_⟩
    have t1 : neD (.str s) (.str s) = some (.bool false) := by rw [neD_strs]; simp
    simp [wIf, wT, wB, wU, wLst, wCall, wCallK, wCons, wNil, wV, wSkip, pick]
    refine is_formula_ok m1 m2 tv (is_formula_ok m1 m2 tv ?_)
    simp [rb, t1]
    exact many_loop hv ms _ _ (fun x hx => h x (List.mem_cons_of_mem _ hx)) q
theorem value_loop {sw : Int} {Q : Rs → Prop} (h1 : 1 ≤ sw) (h2 : sw ≤ 12) (q : ∀ x y z u, Q (.nx [.sh potD, .sh (.int sw), x, y, z, u])) : ∀ (vs : List PyData) (a2 a3 a4 a5 : Sl), (∀ d ∈ vs, Vv d) →
    wLoop (WL.stN 2) (wSeq (wSet 3 (wU reprD (wVb 2)))
  (wSeq (wFor (wItems (wTup (wCons (wV 1) (wCons (wB addAD (wC (.int 1)) (wCall 2 drawF (wCons (wV 0) (wCons (wC (.int 12)) wNil)))) wNil)))) (WL.stN 4) (wSeq (wSet 5 (wCall 2 fn_law_is_formula (wCons (wV 4) (wCons (wV 2) wNil))))
  (wIf (wT (wB neD (wU reprD (wLst (wCons (wCall 2 fn_is_formula (wCons (wV 4) (wCons (wV 2) wNil))) (wCons (wCallK 0 2 [1, 0] fn_is_formula wNil (wCons (wV 2) (wCons (wV 4) wNil))) wNil)))) (wU reprD (wLst (wCons (wV 5) (wCons (wV 5) wNil)))))) (wRet (wC (.bool false))) wSkip)))
  (wIf (wT (wB neD (wU reprD (wVb 2)) (wVb 3))) (wRet (wC (.bool false))) wSkip))) vs [.sh potD, .sh (.int sw), a2, a3, a4, a5] Q
  | [], _, _, _, _, _ => q _ _ _ _
  | v :: vs, a2, a3, a4, a5, h => by
    have hv := h v List.mem_cons_self
    have rv := hv.repr (by decide) (by decide) (by decide)
    have t2 : neD (.str v.shown) (.str v.shown) = some (.bool false) := by rw [neD_strs]; simp
    refine ⟨_, rfl, ?_⟩
    show wSeq _ _ [.sh potD, .sh (.int sw), .sh v, a3, a4, a5] _
    refine st_set (d := .str v.shown) (fun R r => by simpa [wU, wVb, rv] using r) ?_
    show wSeq _ _ [.sh potD, .sh (.int sw), .sh v, .sh (.str v.shown), a4, a5] _
    refine (show wFor _ _ _ _ _ from ?_)
    simp only [wFor, wItems, wTup, wCons, wNil, wV, wB, wC, wCall]
    refine ⟨_, rfl, _, rfl, rfl, draw_in (by decide) (by decide) fun d d0 d1 => ⟨_, addAD_int, (by decide : 2 ≤ sizeLine), _, rfl, ?_⟩⟩
    refine many_loop (sw0 := sw) (sh := .str v.shown) hv [sw, 1 + d] _ _ (fun m hm => ?_) fun x y => ?_
    · simp at hm
      rcases hm with rfl | rfl
      · exact ⟨h1, h2⟩
      · omega
    · simp [wIf, wT, wB, wU, wVb, wSkip, rv, t2]
      exact value_loop h1 h2 q vs _ _ _ _ fun d hd => h d (List.mem_cons_of_mem _ hd)
end K11

namespace K11
open PySem PySem.Spec PyProof.Rows L2 WL
def isB : PyData → Bool
  | .bool _ => true
  | _ => false
def isBN : PyData → Bool
  | .none => true
  | .bool _ => true
  | _ => false
def cb (sw : Int) (p : PyData → Bool) : PyData → Bool
  | .tuple es => decide ((es.length : Int) = sw) && es.all p
  | _ => false
def els : List PyData := [.none, .bool true, .bool false, .int 0, .int 1, .int 2, .str "True", .list [], .tuple [.bool true], .tuple [.bool false]]
def w2 : PyData := .list [.str "True", .str "False"]
def w3 : PyData := .list [.str "True", .str "False", .str "None"]
theorem ok_True : PyData.strOk ("True" : Str) = true := by decide +kernel
theorem els_gd : ∀ e ∈ els, Gd 100 1 10 e := by
  intro e he
  simp only [els, List.mem_cons, List.not_mem_nil, or_false] at he
  rcases he with rfl | rfl | rfl | rfl | rfl | rfl | rfl | rfl | rfl | rfl
  · exact (Gd.none (I := 100)).le (by omega) (by omega) (by omega)
  · exact (Gd.bool (I := 100)).le (by omega) (by omega) (by omega)
  · exact (Gd.bool (I := 100)).le (by omega) (by omega) (by omega)
  · exact (Gd.int (I := 100) (by omega)).le (by omega) (by omega) (by omega)
  · exact (Gd.int (I := 100) (by omega)).le (by omega) (by omega) (by omega)
  · exact (Gd.int (I := 100) (by omega)).le (by omega) (by omega) (by omega)
  · exact (Gd.str (I := 100) (n := 10) ok_True (by decide +kernel)).le (by omega) (by omega) (by omega)
  · exact (Gd.lst (I := 100) (D := 0) (W := 0) (n := 0) (by simp) (by simp)).le (by omega) (by omega) (by omega)
  · exact (Gd.tup (I := 100) (D := 0) (W := 0) (n := 1) (fun d hd => by
      simp at hd
      subst hd
      exact Gd.bool) (by simp)).le (by omega) (by omega) (by omega)
  · exact (Gd.tup (I := 100) (D := 0) (W := 0) (n := 1) (fun d hd => by
      simp at hd
      subst hd
      exact Gd.bool) (by simp)).le (by omega) (by omega) (by omega)
theorem els_in : ∀ e ∈ els, inD false (.str e.shown) w2 = some (.bool (isB e)) ∧ inD false (.str e.shown) w3 = some (.bool (isBN e)) := by
  intro e he
  simp only [els, List.mem_cons, List.not_mem_nil, or_false] at he
  rcases he with rfl | rfl | rfl | rfl | rfl | rfl | rfl | rfl | rfl | rfl <;> exact ⟨congrArg (fun b => some (PyData.bool b)) (show inF (.str _) _ = _ by decide +kernel), congrArg (fun b => some (PyData.bool b)) (show inF (.str _) _ = _ by decide +kernel)⟩
theorem els_all {e : PyData} (he : e ∈ els) : noTok e = true ∧ reprD e = some (.str e.shown) := ⟨(ok_tame e (els_gd e he).ok).noTok, (els_gd e he).repr (by decide) (by decide) (by decide)⟩
structure Cv (sw : Int) (v : PyData) : Prop where
  tok : noTok v = true
  el : ∀ es, v = .tuple es → (es.length : Int) = sw → ∀ e ∈ es, e ∈ els
theorem all_ok {ρ : Ev} {es : List PyData} {i : Nat} {g : Ev → W PyData} {p : PyData → Bool} {Q : PyData → Prop} (h : ∀ e ∈ es, ∀ R : PyData → Prop, R (.bool (p e)) → ∃ ρ', WL.stN i e ρ = some ρ' ∧ g ρ' R) (q : Q (.bool (es.all p))) :
    wLc1 (WL.stN i) wYes g ρ es fun ys => ∃ d, allD (.list ys) = some d ∧ Q d :=
  wLc1_all (f := fun e => .bool (p e)) h ⟨_, allD_map p es, q⟩
theorem are_bools_ok {sw : Int} {v ws : PyData} {p : PyData → Bool} {Q : PyData → Prop} (c : Cv sw v) (h : ∀ e ∈ els, inD false (.str e.shown) ws = some (.bool (p e))) (q : Q (.bool (cb sw p v))) : fn_law_are_bools [.int sw, v, ws] Q := by
  refine gBody_of ?_
  show g_law_are_bools [.sh (.int sw), .sh v, .sh ws, .no] (endB .S Q)
  unfold g_law_are_bools
  cases v with
  | tuple es =>
    by_cases e : (es.length : Int) = sw
    · refine st_no (fun R r => by simpa [wOr, wNot, wT, wB, wU, wVb, isTy, e] using r) ?_
      simp only [wRet, wU, wLc, wItems, wV]
      refine ⟨_, rfl, es, rfl, _, rfl, all_ok (p := p) (fun x hx R r => ⟨_, rfl, ?_⟩) ?_⟩
      · have hm := c.el es rfl e x hx
        simpa [wB, wU, wVb, (els_all hm).2, h x hm] using r
      · simpa [cb, e, endB] using q
    · refine st_yes (fun R r => by simpa [wOr, wNot, wT, wB, wU, wVb, isTy, e] using r) ?_
      simpa [wC, endB, cb, e] using q
  | _ =>
    refine st_yes (fun R r => by simpa [wOr, wNot, wT, wU, wVb, isiD_of c.tok, isTy] using r) ?_
    simpa [wC, endB, cb] using q
theorem is_choice_of_ok {sw : Int} {v : PyData} {Q : PyData → Prop} (c : Cv sw v) (q : Q (.bool (cb sw isB v))) : fn_is_choice_of [.int sw, v] Q := by
  refine gBody_of ?_
  show g_is_choice_of [.sh (.int sw), .sh v, .no] (endB .S Q)
  unfold g_is_choice_of
  cases v with
  | tuple es =>
    by_cases e : (es.length : Int) = sw
    · simp [wRet, wAndV, wB, wU, wVb, isTy, e]
      simp only [wLc, wItems, wV]
      refine ⟨_, rfl, es, rfl, _, rfl, all_ok (p := isB) (fun x hx R r => ⟨_, rfl, ?_⟩) ?_⟩
      · have hm := c.el es rfl e x hx
        have z : isTy .bool x = isB x := by cases x <;> rfl
        simpa [wU, wVb, isiD_of (els_all hm).1, z] using r
      · simpa [cb, e, endB] using q
    · simp [wRet, wAndV, wB, wU, wVb, isTy, e]
      simpa [endB, cb, e] using q
  | _ =>
    simp [wRet, wAndV, wB, wU, wVb, isTy, isiD_of c.tok]
    simpa [endB, cb] using q
theorem is_open_of_ok {sw : Int} {v : PyData} {Q : PyData → Prop} (c : Cv sw v) (q : Q (.bool (cb sw isBN v))) : fn_is_open_of [.int sw, v] Q := by
  refine gBody_of ?_
  show g_is_open_of [.sh (.int sw), .sh v, .no] (endB .S Q)
  unfold g_is_open_of
  cases v with
  | tuple es =>
    by_cases e : (es.length : Int) = sw
    · refine st_no (fun R r => by simpa [wOr, wNot, wT, wB, wU, wVb, isTy, e] using r) ?_
      simp only [wRet, wU, wLc, wItems, wV]
      refine ⟨_, rfl, es, rfl, _, rfl, all_ok (p := isBN) (fun x hx R r => ⟨_, rfl, ?_⟩) ?_⟩
      · have hm := c.el es rfl e x hx
        have nt := (els_all hm).1
        have z : isBN x = (nonD x || isTy .bool x) := by cases x <;> rfl
        rw [z] at r
        cases n : nonD x <;> simp [n] at r <;> simpa [wOrV, wB, wU, wVb, wC, isNonD, n, isiD_of nt] using r
      · simpa [cb, e, endB] using q
    · refine st_yes (fun R r => by simpa [wOr, wNot, wT, wB, wU, wVb, isTy, e] using r) ?_
      simpa [wC, endB, cb, e] using q
  | _ =>
    refine st_yes (fun R r => by simpa [wOr, wNot, wT, wU, wVb, isiD_of c.tok, isTy] using r) ?_
    simpa [wC, endB, cb] using q
theorem is_choice_ok {sw : Int} {v : PyData} {Q : PyData → Prop} (h1 : 1 ≤ sw) (h2 : sw ≤ 12) (c : Cv sw v) (q : Q (.bool (cb sw isB v))) : fn_is_choice [.int sw, v] Q := by
  refine gBody_of ?_
  unfold g_is_choice
  refine (show wDrop _ _ _ from ?_)
  simp [wDrop, wCallD, wCons, wNil, wV, args]
  refine check_switches_ok h1 h2 ?_
  simp [wRet, wCall, wCons, wNil, wV, endB]
  exact is_choice_of_ok c q
theorem is_open_ok {sw : Int} {v : PyData} {Q : PyData → Prop} (h1 : 1 ≤ sw) (h2 : sw ≤ 12) (c : Cv sw v) (q : Q (.bool (cb sw isBN v))) : fn_is_open [.int sw, v] Q := by
  refine gBody_of ?_
  unfold g_is_open
  refine (show wDrop _ _ _ from ?_)
  simp [wDrop, wCallD, wCons, wNil, wV, args]
  refine check_switches_ok h1 h2 ?_
  simp [wRet, wCall, wCons, wNil, wV, endB]
  exact is_open_of_ok c q
theorem bools_of : ∀ {ys : List PyData}, (∀ y ∈ ys, ∃ b, y = .bool b) → ∃ bs : List Bool, ys = bs.map PyData.bool
  | [], _ => ⟨[], rfl⟩
  | y :: ys, h => by
    obtain ⟨b, rfl⟩ := h y List.mem_cons_self
    obtain ⟨bs, rfl⟩ := bools_of fun z hz => h z (List.mem_cons_of_mem _ hz)
    exact ⟨b :: bs, rfl⟩
theorem law_choice_ok {sw : Int} {Q : PyData → Prop} (h1 : 1 ≤ sw) (h2 : sw ≤ 12) (q : ∀ bs : List Bool, (bs.length : Int) = sw → Q (.tuple (bs.map PyData.bool))) : fn_law_choice [potD, .int sw] Q := by
  refine gBody_of ?_
  show g_law_choice [Sl.sh potD, .sh (.int sw), .no] (endB .S Q)
  unfold g_law_choice
  obtain ⟨n, rfl⟩ : ∃ n : Nat, sw = (n : Int) := ⟨sw.toNat, by omega⟩
  simp only [wRet, wU, wLc, wRange1, wV]
  refine ⟨_, rfl, _, rgn (n := n) (by omega), _, rfl, ?_⟩
  refine wLc1_any (G := fun d => ∃ b, d = .bool b) (fun d hd R r => ⟨_, rfl, ?_⟩) fun ys hl hys => ?_
  · simp only [wB, wC, wCall, wCons, wNil, wV]
    exact ⟨_, rfl, rfl, draw_in (by decide) (by decide) fun d d0 d1 => ⟨_, eqD_int, r _ ⟨_, rfl⟩⟩⟩
  · obtain ⟨bs, rfl⟩ := bools_of hys
    refine ⟨_, rfl, q bs ?_⟩
    rw [List.length_map, rangeL_len] at hl
    omega
theorem lc_cons {st : Set1} {g : Ev → W PyData} {ρ ρ' : Ev} {d : PyData} {ds : List PyData} {Q : List PyData → Prop} (e : st d ρ = some ρ') (q : g ρ' fun y => wLc1 st wYes g ρ ds fun ys => Q (y :: ys)) : wLc1 st wYes g ρ (d :: ds) Q := by
  refine ⟨ρ', e, ?_⟩
  show (if (true = true) then (g ρ' fun y => wLc1 st wYes g ρ ds fun ys => Q (y :: ys)) else wLc1 st wYes g ρ ds Q)
  rw [if_pos rfl]
  exact q
theorem dd_repr (b c : Bool) : ∃ s, reprD (.list [.list [.bool b, .bool c], .list [.bool b, .bool c]]) = some (.str s) := by
  have g : Gd 100 1 2 (.list [.bool b, .bool c]) := (Gd.lst (I := 100) (D := 0) (W := 0) (n := 2) (fun d hd => by
    simp at hd
    rcases hd with rfl | rfl <;> exact Gd.bool) (by simp)).le (by omega) (by omega) (by omega)
  exact ⟨_, Gd.repr (I := 100) (D := 2) (W := 10) ((Gd.lst (D := 1) (W := 2) (n := 2) (fun d hd => by
    simp at hd
    subst hd
    exact g) (by simp)).le (by omega) (by omega) (by omega)) (by decide) (by decide) (by decide)⟩
theorem choice_loop {sw : Int} {c a : PyData} {vs : Sl} {Q : Rs → Prop} (h1 : 1 ≤ sw) (h2 : sw ≤ 12) (q : ∀ a4 a5 a6 a7 a8 a9, Q (.nx [.sh potD, .sh (.int sw), .sh c, .sh a, a4, a5, a6, a7, a8, a9, .no])) : ∀ (xs : List PyData) (a5 a6 a7 a8 a9 : Sl), (∀ d ∈ xs, Cv sw d) →
    wLoop (WL.stN 6) (wSeq (wSetF 7 (wLc [10] (wItems (wTup (wCons (wLst (wCons (wC (.str "True")) (wCons (wC (.str "False")) wNil))) (wCons (wLst (wCons (wC (.str "True")) (wCons (wC (.str "False")) (wCons (wC (.str "None")) wNil)))) wNil)))) (stN 10) wYes (wCall 3 fn_law_are_bools (wCons (wV 1) (wCons (wV 6) (wCons (wV 10) wNil))))))
  (wSeq (wSet 8 (wLst (wCons (wCall 2 fn_is_choice (wCons (wV 1) (wCons (wV 6) wNil))) (wCons (wCall 2 fn_is_open (wCons (wV 1) (wCons (wV 6) wNil))) wNil))))
  (wSeq (wSet 9 (wLst (wCons (wCallK 0 2 [1, 0] fn_is_choice wNil (wCons (wV 6) (wCons (wV 1) wNil))) (wCons (wCallK 0 2 [1, 0] fn_is_open wNil (wCons (wV 6) (wCons (wV 1) wNil))) wNil))))
  (wFrz [7] (wIf (wT (wB neD (wU reprD (wLst (wCons (wV 8) (wCons (wV 9) wNil)))) (wU reprD (wLst (wCons (wV 7) (wCons (wV 7) wNil)))))) (wRet (wC (.bool false))) wSkip))))) xs [.sh potD, .sh (.int sw), .sh c, .sh a, vs, a5, a6, a7, a8, a9, .no] Q
  | [], _, _, _, _, _, _ => q _ _ _ _ _ _
  | v :: xs, a5, a6, a7, a8, a9, h => by
    have cv := h v List.mem_cons_self
    obtain ⟨s, rb⟩ := dd_repr (cb sw isB v) (cb sw isBN v)
    have t1 : neD (.str s) (.str s) = some (.bool false) := by rw [neD_strs]; simp
    refine ⟨_, rfl, ?_⟩
    show wSeq _ _ [.sh potD, .sh (.int sw), .sh c, .sh a, vs, a5, .sh v, a7, a8, a9, .no] _
    have l2 : ∀ (ρ : Ev) (R : List PyData → Prop), R [w2, w3] → wItems (wTup (wCons (wLst (wCons (wC (.str "True")) (wCons (wC (.str "False")) wNil))) (wCons (wLst (wCons (wC (.str "True")) (wCons (wC (.str "False")) (wCons (wC (.str "None")) wNil)))) wNil))) ρ R := fun ρ R r => by
      simpa [wItems, wTup, wLst, wCons, wNil, wC, w2, w3] using r
    refine st_setFQ ?_
    refine l2 _ _ ⟨_, rfl, ?_⟩
    refine lc_cons rfl ?_
    refine ⟨_, rfl, _, rfl, _, rfl, rfl, are_bools_ok cv (fun e he => (els_in e he).1) ?_⟩
    refine lc_cons rfl ?_
    refine ⟨_, rfl, _, rfl, _, rfl, rfl, are_bools_ok cv (fun e he => (els_in e he).2) ?_⟩
    refine ⟨_, rfl, ?_⟩
    show wSeq _ _ [.sh potD, .sh (.int sw), .sh c, .sh a, vs, a5, .sh v, .ow [.bool (cb sw isB v), .bool (cb sw isBN v)], a8, a9, .no] _
    refine st_setQ ?_
    simp [wLst, wCall, wCons, wNil, wV]
    refine is_choice_ok h1 h2 cv (is_open_ok h1 h2 cv ?_)
    refine st_setQ ?_
    simp [wLst, wCallK, wCons, wNil, wV, pick]
    refine is_choice_ok h1 h2 cv (is_open_ok h1 h2 cv ?_)
    refine (show wIf _ _ _ [.sh potD, .sh (.int sw), .sh c, .sh a, vs, a5, .sh v, .sh (.list [.bool (cb sw isB v), .bool (cb sw isBN v)]), .sh (.list [.bool (cb sw isB v), .bool (cb sw isBN v)]), .sh (.list [.bool (cb sw isB v), .bool (cb sw isBN v)]), .no] _ from ?_)
    simp [wIf, wT, wB, wU, wLst, wCons, wNil, wV, wSkip, rb, t1]
    exact choice_loop h1 h2 q xs _ _ _ _ _ fun d hd => h d (List.mem_cons_of_mem _ hd)
end K11

namespace K11
open PySem PySem.Spec PyProof.Rows L2 WL
theorem cv_not {sw : Int} {v : PyData} (t : noTok v = true) (h : ∀ es, v ≠ .tuple es) : Cv sw v := ⟨t, fun es e => absurd e (h es)⟩
theorem cv_tup {sw : Int} {es : List PyData} (h : ∀ e ∈ es, e ∈ els) : Cv sw (.tuple es) := ⟨(tame_tup.mpr fun d hd => ok_tame d (els_gd d (h d hd)).ok).noTok, fun es' e _ => by
  cases e
  exact h⟩
theorem el_bool {b : Bool} : PyData.bool b ∈ els := by cases b <;> simp [els]
theorem app_loop {sw : Int} {bs : List Bool} {k : Nat} {a6 a7 a8 a9 : Sl} {Q : Rs → Prop} (hk : k < bs.length) (hb : bs.length ≤ 12) (q : ∀ ds x, (∀ d ∈ ds, Cv sw d) → Q (.nx [.sh potD, .sh (.int sw), .sh (.tuple (bs.map PyData.bool)), .sh (.int k), .ow ds, x, a6, a7, a8, a9, .no])) :
    ∀ (xs ds : List PyData) (a5 : Sl), (∀ x ∈ xs, x ∈ els) → (∀ d ∈ ds, Cv sw d) → ds.length + xs.length ≤ 100 →
    wLoop (WL.stN 5) (wApp 4 (wB addAD (wB addAD (wSl (wVb 2) wNo (wPart (wVb 3))) (wTup (wCons (wV 5) wNil))) (wSl (wVb 2) (wPart (wB addAD (wVb 3) (wC (.int 1)))) wNo))) xs [.sh potD, .sh (.int sw), .sh (.tuple (bs.map PyData.bool)), .sh (.int k), .ow ds, a5, a6, a7, a8, a9, .no] Q
  | [], ds, a5, _, h, _ => q ds a5 h
  | x :: xs, ds, a5, hx, h, hl => by
    have cu : cutP (bs.map PyData.bool) none (some (k : Int)) = (bs.map PyData.bool).take k := cut_to
    have cd : cutP (bs.map PyData.bool) (some ((k : Int) + 1)) none = (bs.map PyData.bool).drop (k + 1) := cut_from (k := k + 1)
    have l1 : ((bs.map PyData.bool).take k).length ≤ 12 := by rw [List.length_take, List.length_map]; omega
    have l2 : ((bs.map PyData.bool).drop (k + 1)).length ≤ 12 := by rw [List.length_drop, List.length_map]; omega
    have t1 : addAD (.tuple ((bs.map PyData.bool).take k)) (.tuple [x]) = some (.tuple ((bs.map PyData.bool).take k ++ [x])) := addTup (by simp only [List.length_singleton]; omega)
    have t2 : addAD (.tuple ((bs.map PyData.bool).take k ++ [x])) (.tuple ((bs.map PyData.bool).drop (k + 1))) = some (.tuple ((bs.map PyData.bool).take k ++ [x] ++ (bs.map PyData.bool).drop (k + 1))) := addTup (by rw [List.length_append]; simp only [List.length_singleton]; omega)
    have ih := app_loop (a6 := a6) (a7 := a7) (a8 := a8) (a9 := a9) hk hb q xs (ds ++ [.tuple ((bs.map PyData.bool).take k ++ [x] ++ (bs.map PyData.bool).drop (k + 1))]) (.sh x) fun y hy => hx y (List.mem_cons_of_mem _ hy)
    generalize hB : bs.map PyData.bool = B at *
    have hB' : ∀ e ∈ B, e ∈ els := by
      rw [← hB]
      intro e he
      obtain ⟨b, _, rfl⟩ := List.mem_map.mp he
      exact el_bool
    refine ⟨_, rfl, ds, rfl, ?_⟩
    simp [wB, wSl, wNo, wPart, wTup, wCons, wNil, wV, wVb, wC, cu, cd]
    refine ⟨_, t1, _, t2, Nat.lt_of_lt_of_le (by simp only [List.length_cons] at hl; omega : ds.length < 1000) (by decide), ?_⟩
    refine ih (fun d hd => ?_) (by simp only [List.length_cons, List.length_append, List.length_nil] at hl ⊢; omega)
    rcases List.mem_append.mp hd with hd | hd
    · exact h d hd
    · simp only [List.mem_singleton] at hd
      subst hd
      refine cv_tup fun e he => ?_
      simp only [List.mem_append, List.mem_singleton] at he
      rcases he with (he | rfl) | he
      · exact hB' e (List.mem_of_mem_take he)
      · exact hx e List.mem_cons_self
      · exact hB' e (List.mem_of_mem_drop he)
theorem law_choices_right_ok {sw : Int} {Q : PyData → Prop} (h1 : 1 ≤ sw) (h2 : sw ≤ 12) (q : Q (.bool true)) : fn_law_choices_right [potD, .int sw] Q := by
  refine gBody_of ?_
  show g_law_choices_right [Sl.sh potD, .sh (.int sw), .no, .no, .no, .no, .no, .no, .no, .no, .no] (endB .S Q)
  unfold g_law_choices_right
  refine st_setQ ?_
  refine ⟨_, rfl, _, rfl, rfl, law_choice_ok h1 h2 fun bs hbs => ?_⟩
  refine st_setQ ?_
  refine ⟨_, rfl, _, rfl, rfl, draw_in (by omega) (by omega) fun d d0 d1 => ?_⟩
  obtain ⟨k, rfl⟩ := Int.eq_ofNat_of_zero_le d0
  have hk : k < bs.length := by omega
  have hb : bs.length ≤ 12 := by omega
  show wSeq _ _ [Sl.sh potD, .sh (.int sw), .sh (.tuple (bs.map PyData.bool)), .sh (.int (k : Int)), .no, .no, .no, .no, .no, .no, .no] _
  have hB' : ∀ e ∈ bs.map PyData.bool, e ∈ els := by
    intro e he
    obtain ⟨b, _, rfl⟩ := List.mem_map.mp he
    exact el_bool
  have u1 : addAD (.tuple (bs.map PyData.bool)) (.tuple [.bool true]) = some (.tuple (bs.map PyData.bool ++ [.bool true])) := addTup (by simp; omega)
  have u2 : mulAD (.tuple [.none]) (.int sw) = some (.tuple (List.replicate bs.length .none)) := by
    rw [← hbs]
    exact mul1 (by omega) (by omega)
  refine st_setFQ ?_
  simp [wLst, wTup, wCons, wNil, wB, wU, wV, wVb, wC, wSl, wNo, wPart, u1, u2, -List.map_append]
  have vs : ∀ v ∈ ([PyData.tuple (bs.map PyData.bool), .list (bs.map PyData.bool), .tuple (bs.map PyData.bool).tail, .tuple (bs.map PyData.bool ++ [.bool true]), .none, .tuple [], .int 0, .str "", .dict [], .tuple [.tuple (bs.map PyData.bool)], .tuple (List.replicate bs.length .none)] : List PyData), Cv sw v := by
    intro v hv
    simp only [List.mem_cons, List.not_mem_nil, or_false] at hv
    rcases hv with rfl | rfl | rfl | rfl | rfl | rfl | rfl | rfl | rfl | rfl | rfl
    · exact cv_tup hB'
    · exact cv_not ((tame_lst.mpr fun d hd => ok_tame d (els_gd d (hB' d hd)).ok).noTok) (by simp)
    · exact cv_tup fun e he => hB' e (List.mem_of_mem_tail he)
    · refine cv_tup fun e he => ?_
      rcases List.mem_append.mp he with he | he
      · exact hB' e he
      · simp at he
        subst he
        exact el_bool
    · exact cv_not rfl (by simp)
    · exact cv_tup (by simp)
    · exact cv_not rfl (by simp)
    · exact cv_not rfl (by simp)
    · exact cv_not rfl (by simp)
    · refine ⟨(tame_tup.mpr fun d hd => ?_ : tame (.tuple [.tuple (bs.map PyData.bool)])).noTok, fun es e hl x hx => ?_⟩
      · simp at hd
        subst hd
        exact tame_tup.mpr fun d hd => ok_tame d (els_gd d (hB' d hd)).ok
      · cases e
        simp at hx hl
        subst hx
        have : bs.length = 1 := by omega
        obtain ⟨b, rfl⟩ := List.length_eq_one_iff.mp this
        cases b <;> simp [els]
    · refine cv_tup fun e he => ?_
      rw [List.eq_of_mem_replicate he]
      simp [els]
  refine ⟨by decide, ?_⟩
  have od : ∀ (ρ : Ev) (R : List PyData → Prop), ρ[2]? = some (.sh (.tuple (bs.map PyData.bool))) → ρ[3]? = some (.sh (.int (k : Int))) → (∀ xs, (∀ x ∈ xs, x ∈ els) → xs.length = 8 → R xs) →
      wItems (wLst (wCons (wC .none) (wCons (wC (.int 0)) (wCons (wC (.int 1)) (wCons (wC (.str "True")) (wCons (wTup (wCons (wC (.bool true)) wNil)) (wCons (wLst wNil) (wCons (wNotV (wB ixD (wVb 2) (wVb 3))) (wCons (wC (.int 2)) wNil))))))))) ρ R := by
    intro ρ R e2 e3 r
    have hx : ixD (.tuple (bs.map PyData.bool)) (.int (k : Int)) = some (.bool bs[k]) := by
      show atI (bs.map PyData.bool) (k : Int) = _
      rw [atI_of (by simpa using hk)]
      simp
    simp [wItems, wLst, wTup, wCons, wNil, wC, wNotV, wB, wVb, e2, e3, hx]
    have fin : ∀ b : Bool, R [.none, .int 0, .int 1, .str "True", .tuple [.bool true], .list [], .bool b, .int 2] := fun b => r _ (fun x hx => by
      simp only [List.mem_cons, List.not_mem_nil, or_false] at hx
      rcases hx with rfl | rfl | rfl | rfl | rfl | rfl | rfl | rfl <;> first | exact el_bool | simp [els]) (by simp)
    cases c : bs[k]
    · exact .inl ⟨rfl, by decide, fin _⟩
    · exact .inr ⟨rfl, by decide, fin _⟩
  refine od _ _ rfl rfl fun xs hxs hl => ?_
  refine app_loop hk hb (fun ds x hds => ?_) xs _ _ hxs (by simpa using vs) (by simp; omega)
  refine (show wFor _ _ _ _ _ from ?_)
  refine ⟨_, rfl, ds, rfl, ?_⟩
  refine choice_loop h1 h2 (fun a4 a5 a6 a7 a8 a9 => ?_) ds _ _ _ _ _ hds
  exact q
theorem law_right_ok {Q : PyData → Prop} (q : Q (.bool true)) : fn_law_right [potD] Q := by
  refine gBody_of ?_
  show g_law_right [Sl.sh potD, .no, .no, .no, .no, .no] (endB .S Q)
  unfold g_law_right
  refine st_setQ ?_
  refine ⟨_, rfl, rfl, draw_in (by decide) (by decide) fun d d0 d1 => ⟨_, addAD_int, ?_⟩⟩
  have h1 : 1 ≤ 1 + d := by omega
  have h2 : 1 + d ≤ 12 := by omega
  generalize 1 + d = sw at h1 h2
  refine (show wFor _ _ _ _ _ from ?_)
  refine ⟨_, rfl, _, rfl, rfl, law_values_ok h1 h2 fun vs hvs => ⟨vs, rfl, ?_⟩⟩
  refine value_loop h1 h2 (fun x y z u => ?_) vs _ _ _ _ hvs
  exact ⟨_, rfl, _, rfl, rfl, law_choices_right_ok h1 h2 q⟩
theorem pow18 : powD (.int 10) (.int 18) = some (.int (10 ^ 18)) := by
  show (if CPow 10 18 then some (PyData.int (10 ^ (18 : Int).toNat)) else none) = _
  rw [if_pos (by unfold CPow; decide)]
  rfl
theorem law_pot_ok {ns : List Int} {k : Nat} {Q : PyData → Prop} (hk : k ≤ 1) (q : Q potD) : fp_law_pot [.list (ns.map PyData.int), .int k] Q := by
  refine gBody_of ?_
  show g_law_pot [.sh (.list (ns.map PyData.int)), .sh (.int (k : Int)), .no] _
  unfold g_law_pot
  refine st_setQ ?_
  have e0 : mulAD (.int 911) (.int k) = some (.int (911 * k)) := mulAD_int (.inl ⟨by decide, by decide⟩)
  simp [wB, wC, wVb, e0]
  have cell : ∀ (h : Ev → W Rs) (K : Rs → Prop), (∀ c : Int, 0 ≤ c → h [.sh (.list (ns.map PyData.int)), .sh (.int (k : Int)), .sh (.int c)] K) →
      wSeq (wIf (wT (wB ltI (wVb 1) (wU lenD (wVb 0)))) (wSet 2 (wU absD (wB ixD (wVb 0) (wVb 1)))) wSkip) h [.sh (.list (ns.map PyData.int)), .sh (.int (k : Int)), .sh (.int (911 * (k : Int) + 9007))] K := by
    intro h K r
    by_cases c : k < ns.length
    · have e : ixD (.list (ns.map PyData.int)) (.int k) = some (.int ns[k]) := by
        show atI (ns.map PyData.int) (k : Int) = _
        rw [atI_of (by simpa using c)]
        simp
      refine st_then (fun R r => by simpa [wT, wB, wU, wVb, c] using r) ?_
      refine st_set (d := .int (if ns[k] < 0 then -ns[k] else ns[k])) (fun R r => by simpa [wB, wU, wVb, e] using r) ?_
      refine r _ ?_
      split <;> omega
    · refine st_no (fun R r => by simpa [wT, wB, wU, wVb, c] using r) ?_
      exact r _ (by omega)
  refine cell _ _ fun c hc => ?_
  have e1 : modD (.int c) (.int 2147483549) = some (.int (c % 2147483549)) := modD_int (by decide)
  have c1 : 0 ≤ c % 2147483549 := Int.emod_nonneg _ (by decide)
  have c2 : c % 2147483549 < 2147483549 := Int.emod_lt_of_pos _ (by decide)
  have e2 : mulAD (.int (c % 2147483549)) (.int 40014) = some (.int (c % 2147483549 * 40014)) := mulAD_int (.inr ⟨by decide, by decide⟩)
  have e3 : mulAD (.int 9007) (.int k) = some (.int (9007 * k)) := mulAD_int (.inl ⟨by decide, by decide⟩)
  have e4 : modD (.int (c % 2147483549 * 40014 + 9007 * k + 61)) (.int 2147483563) = some (.int ((c % 2147483549 * 40014 + 9007 * k + 61) % 2147483563)) := modD_int (by decide)
  have d1 : 0 ≤ (c % 2147483549 * 40014 + 9007 * k + 61) % 2147483563 := Int.emod_nonneg _ (by decide)
  have d2 : (c % 2147483549 * 40014 + 9007 * k + 61) % 2147483563 < 2147483563 := Int.emod_lt_of_pos _ (by decide)
  simp [wRet, wLst, wCons, wNil, wB, wU, wC, wVb, pow18, e1, e2, e3, e4, endB]
  refine ⟨_, _, ⟨rfl, rfl⟩, ?_, ?_, ?_, q⟩
  · split <;> omega
  · omega
  · omega
theorem allD_true : ∀ {ys : List PyData}, (∀ y ∈ ys, y = .bool true) → allD (.list ys) = some (.bool true) := by
  intro ys h
  have e : ys = ys.map fun _ => PyData.bool true := by
    refine List.ext_getElem (by simp) fun i h1 h2 => ?_
    rw [List.getElem_map]
    exact h _ (List.getElem_mem h1)
  rw [e, allD_map (fun _ => true)]
  simp
theorem law_true : ∀ ns : List Int, ns.length ≤ 63 → fn_law [.list (ns.map PyData.int)] fun d => d = .bool true := by
  intro ns _
  refine gBody_of ?_
  unfold g_law
  have rg : ∀ R : List PyData → Prop, (∀ m : Nat, m ≤ 2 → R (rangeL 0 m)) → wRange1 (wB max2D (wC (.int 1)) (wB min2D (wC (.int 2)) (wU lenD (wVb 0)))) (args 2 [.list (ns.map PyData.int)]) R := by
    intro R r
    simp [wRange1, wB, wC, wU, wVb, args]
    generalize hm : (if (1 : Int) < (if (ns.length : Int) < 2 then (ns.length : Int) else 2) then (if (ns.length : Int) < 2 then (ns.length : Int) else 2) else 1) = m
    have h0 : 0 ≤ m ∧ m ≤ 2 := by
      subst hm
      split <;> split <;> omega
    refine ⟨_, if_pos (by
      have : (1000 : Int) ≤ sizeLine := by decide
      omega), r m.toNat (by omega)⟩
  refine rg _ fun m hm => ?_
  refine ⟨_, rfl, ?_⟩
  refine wLc1_any (G := fun d => d = .bool true) (fun d hd R r => ⟨_, rfl, ?_⟩) fun ys hl hys => ?_
  · unfold rangeL at hd
    obtain ⟨k, hk, rfl⟩ := List.mem_map.mp hd
    have hk := List.mem_range.mp hk
    simp [wCall, wCons, wNil, wV, args]
    refine law_pot_ok (by omega) ?_
    exact law_right_ok (r _ rfl)
  · exact ⟨_, allD_true hys, rfl⟩
end K11

open PySem PySem.W PyProof.Rows
set_option maxHeartbeats 0 in
theorem PySem.Challenge.cw_everychoice_k11_any_value_as_formula_or_holds : PySem.Challenge.rw_everychoice_k11_any_value_as_formula_or.Holds := by
  w_on; o_law; k_head; (case hw => w_witness2)
  k_fill
  refine WL.walk_ofG (l := PySem.Challenge.rw_everychoice_k11_any_value_as_formula_or) (k := 21) (x := "script") (g := K11.fn_law) rfl (by decide) ⟨rfl, by decide, by decide⟩ (fun w h Y => PySem.W.kIn_of Y) ?F WL.mono_gBody K11.law_true
  case F =>
    intro w mg fa h KX G hmg
    refine' K11.all_mk KX G hmg ?a1 ?l1 ?c1 ?k1 ?a2 ?l2 ?c2 ?k2 ?a3 ?l3 ?c3 ?k3 ?a4 ?l4 ?c4 ?k4 ?a5 ?l5 ?c5 ?k5 ?a6 ?l6 ?c6 ?k6 ?a7 ?l7 ?c7 ?k7 ?a8 ?l8 ?c8 ?k8 ?a9 ?l9 ?c9 ?k9 ?a10 ?l10 ?c10 ?k10 ?a11 ?l11 ?c11 ?k11 ?lT11 ?pT11 ?a12 ?l12 ?c12 ?k12 ?a13 ?l13 ?c13 ?k13 ?a14 ?l14 ?c14 ?k14 ?a15 ?l15 ?c15 ?k15 ?a16 ?l16 ?c16 ?k16 ?a17 ?l17 ?c17 ?k17 ?a18 ?l18 ?c18 ?k18 ?a19 ?l19 ?c19 ?k19 ?a20 ?l20 ?c20 ?k20 ?a21 ?l21 ?c21 ?k21 ?a22 ?l22 ?c22 ?k22 ?a23 ?l23 ?c23 ?k23 ?a24 ?l24 ?c24 ?k24 ?a25 ?l25 ?c25 ?k25 ?a26 ?l26 ?c26 ?k26 ?a27 ?l27 ?c27 ?k27 ?a28 ?l28 ?c28 ?k28 ?a29 ?l29 ?c29 ?k29 ?z_divmod ?z_int ?z_len ?z_range ?z_tuple ?z_isinstance ?z_list ?z_repr ?z_all ?z_bool ?z_str ?z_sum ?z_max ?z_abs ?z_min ?q_MOST_SWITCHES ?q_PAIRED ?r_PAIRED ?p_PAIRED ?m_PAIRED ?q_MOST_NUMBER ?q_MOST_PARTS ?q_LISTED ?r_LISTED ?p_LISTED ?m_LISTED ?q_MOST_SIZE ?q_MOST_DEPTH
    (case a1 => k_is); (case l1 => k_is); (case c1 => k_is); (case k1 => k_is); (case a2 => k_is); (case l2 => k_is); (case c2 => k_is); (case k2 => k_is); (case a3 => k_is); (case l3 => k_is); (case c3 => k_is); (case k3 => k_is); (case a4 => k_is); (case l4 => k_is); (case c4 => k_is); (case k4 => k_is); (case a5 => k_is); (case l5 => k_is); (case c5 => k_is); (case k5 => k_is); (case a6 => k_is); (case l6 => k_is); (case c6 => k_is); (case k6 => k_is); (case a7 => k_is); (case l7 => k_is); (case c7 => k_is); (case k7 => k_is); (case a8 => k_is); (case l8 => k_is); (case c8 => k_is); (case k8 => k_is); (case a9 => k_is); (case l9 => k_is); (case c9 => k_is); (case k9 => k_is); (case a10 => k_is); (case l10 => k_is); (case c10 => k_is); (case k10 => k_is); (case a11 => k_is); (case l11 => k_is); (case c11 => k_is); (case k11 => k_is); (case lT11 => k_is); (case pT11 => rfl); (case a12 => k_is); (case l12 => k_is); (case c12 => k_is); (case k12 => k_is); (case a13 => k_is); (case l13 => k_is); (case c13 => k_is); (case k13 => k_is); (case a14 => k_is); (case l14 => k_is); (case c14 => k_is); (case k14 => k_is); (case a15 => k_is); (case l15 => k_is); (case c15 => k_is); (case k15 => k_is); (case a16 => k_is); (case l16 => k_is); (case c16 => k_is); (case k16 => k_is); (case a17 => k_is); (case l17 => k_is); (case c17 => k_is); (case k17 => k_is); (case a18 => k_is); (case l18 => k_is); (case c18 => k_is); (case k18 => k_is); (case a19 => k_is); (case l19 => k_is); (case c19 => k_is); (case k19 => k_is); (case a20 => k_is); (case l20 => k_is); (case c20 => k_is); (case k20 => k_is); (case a21 => k_is); (case l21 => k_is); (case c21 => k_is); (case k21 => k_is); (case a22 => k_is); (case l22 => k_is); (case c22 => k_is); (case k22 => k_is); (case a23 => k_is); (case l23 => k_is); (case c23 => k_is); (case k23 => k_is); (case a24 => k_is); (case l24 => k_is); (case c24 => k_is); (case k24 => k_is); (case a25 => k_is); (case l25 => k_is); (case c25 => k_is); (case k25 => k_is); (case a26 => k_is); (case l26 => k_is); (case c26 => k_is); (case k26 => k_is); (case a27 => k_is); (case l27 => k_is); (case c27 => k_is); (case k27 => k_is); (case a28 => k_is); (case l28 => k_is); (case c28 => k_is); (case k28 => k_is); (case a29 => k_is); (case l29 => k_is); (case c29 => k_is); (case k29 => k_is); (case z_divmod => k_is); (case z_int => k_is); (case z_len => k_is); (case z_range => k_is); (case z_tuple => k_is); (case z_isinstance => k_is); (case z_list => k_is); (case z_repr => k_is); (case z_all => k_is); (case z_bool => k_is); (case z_str => k_is); (case z_sum => k_is); (case z_max => k_is); (case z_abs => k_is); (case z_min => k_is); (case q_MOST_SWITCHES => k_is); (case q_PAIRED => k_is); (case r_PAIRED => k_is); (case p_PAIRED => rfl); (case m_PAIRED => decide); (case q_MOST_NUMBER => k_is); (case q_MOST_PARTS => k_is); (case q_LISTED => k_is); (case r_LISTED => k_is); (case p_LISTED => rfl); (case m_LISTED => decide); (case q_MOST_SIZE => k_is); (case q_MOST_DEPTH => k_is)
