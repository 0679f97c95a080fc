import PyProof.Rows.All
import Wide.All
import OpenK.AllK
import Wide.FinOn
import HandS.ForMost
import HandS.Exc
import HandS.ExcOwn
import HandS.TryOnly
import HandS.TryMany
import HandS.ExcInit
import HandS.CallSlots
import HandS.WordsExc
import HandS.SortInts
import HandS.SortKw
import HandS.IsInst
import HandS.Wide
import HandS.More
import HandS.Conv
import KE.OsSort
import HandS.SetFor
import HandS.Strs
import KE.KExcIs
import HandS.ExcField
import KE.KDictZip
import KE.KDictSum
import KE.KTurns
import HandS.Iter
import HandS.Defaults
import KE.SortData
import KE.DataCmp
import HandS.WordsDict
import PySem.Challenge.RW_tracebook_k36_whole_hearts_are_calm
set_option Elab.async false
set_option linter.all false
set_option maxRecDepth 100000
set_option maxHeartbeats 4000000
/-! TbBase: a typed layer over the hand layer's readings: what slots hold, told as Lean data. -/
namespace TB
open PySem L2

/-- the program's own classes -/
inductive CN where
  | BookError | BadSize | Stranger | NoUnit | NoBack | NotTogether | NoPart | NotSteady | BadWheel | NoMove | BadMarks | NoWay | NotKept | OtherGroup | OtherWheel | TooGreat | Group | Wheel | Carriers | Way | Regular | Lifted | Beside | Crossed | Backed | Within | Raised | Book
  deriving DecidableEq
/-- the written part, and where the program's own classes stand -/
structure Zz where
  K : PySem.W.Frag
  cls : CN → Addr

/-- a type whose data stand in the heap, never to be changed -/
class Rp (α : Type) where
  /-- what is taken where nothing stands -/
  df : α
  rp : Zz → Hp → V → α → Prop
  mono : ∀ {Z : Zz} {H H' : Hp} {v : V} {d : α}, Same H H' → rp Z H v d → rp Z H' v d

theorem paired_mono {α β : Type} {F G : α → β → Prop} (h : ∀ a b, F a b → G a b) : ∀ {l : List α} {m : List β}, Paired F l m → Paired G l m
  | _, _, .nil => .nil
  | _, _, .cons r t => .cons (h _ _ r) (paired_mono h t)
theorem paired_get {α β : Type} {F : α → β → Prop} : ∀ {l : List α} {m : List β} {i : Nat} {b : β}, Paired F l m → m[i]? = some b → ∃ a, l[i]? = some a ∧ F a b
  | _, _, _, _, .nil, e => by simp at e
  | _, _, 0, _, .cons r _, e => by simp at e; subst e; exact ⟨_, rfl, r⟩
  | _, _, i + 1, b, .cons _ t, e => by
    obtain ⟨u, h1, h2⟩ := paired_get (i := i) (b := b) t (by simpa using e)
    exact ⟨u, by simpa using h1, h2⟩
theorem paired_getL {α β : Type} {F : α → β → Prop} : ∀ {l : List α} {m : List β} {i : Nat} {a : α}, Paired F l m → l[i]? = some a → ∃ b, m[i]? = some b ∧ F a b
  | _, _, _, _, .nil, e => by simp at e
  | _, _, 0, _, .cons r _, e => by simp at e; subst e; exact ⟨_, rfl, r⟩
  | _, _, i + 1, b, .cons _ t, e => by
    obtain ⟨u, h1, h2⟩ := paired_getL (i := i) (a := b) t (by simpa using e)
    exact ⟨u, by simpa using h1, h2⟩
theorem paired_append {α β : Type} {F : α → β → Prop} : ∀ {l l' : List α} {m m' : List β}, Paired F l m → Paired F l' m' → Paired F (l ++ l') (m ++ m')
  | _, _, _, _, .nil, s => s
  | _, _, _, _, .cons r t, s => .cons r (paired_append t s)
theorem paired_set {α β : Type} {F : α → β → Prop} {a : α} {b : β} (h : F a b) : ∀ {l : List α} {m : List β} (i : Nat), Paired F l m → Paired F (l.set i a) (m.set i b)
  | _, _, _, .nil => .nil
  | _, _, 0, .cons _ t => .cons h t
  | _, _, i + 1, .cons r t => .cons r (paired_set h i t)
theorem paired_take {α β : Type} {F : α → β → Prop} : ∀ {l : List α} {m : List β} (n : Nat), Paired F l m → Paired F (l.take n) (m.take n)
  | _, _, 0, _ => .nil
  | _, _, _ + 1, .nil => .nil
  | _, _, n + 1, .cons r t => .cons r (paired_take n t)
theorem paired_drop {α β : Type} {F : α → β → Prop} : ∀ {l : List α} {m : List β} (n : Nat), Paired F l m → Paired F (l.drop n) (m.drop n)
  | _, _, 0, r => r
  | _, _, _ + 1, .nil => .nil
  | _, _, n + 1, .cons _ t => paired_drop n t
theorem paired_map_int : ∀ {vs : List V} {xs : List Int}, Paired (fun v d => v = V.int d) vs xs → vs = xs.map V.int
  | _, _, .nil => rfl
  | _, _, .cons r t => by rw [List.map_cons, ← r, ← paired_map_int t]
theorem paired_of_int : ∀ (xs : List Int), Paired (fun v d => v = V.int d) (xs.map V.int) xs
  | [] => .nil
  | _ :: t => .cons rfl (paired_of_int t)
theorem paired_map_bl : ∀ {vs : List V} {xs : List Bool}, Paired (fun v d => v = V.bl d) vs xs → vs = xs.map V.bl
  | _, _, .nil => rfl
  | _, _, .cons r t => by rw [List.map_cons, ← r, ← paired_map_bl t]

instance : Rp Int := ⟨0, fun _ _ v d => v = .int d, fun _ h => h⟩
instance : Rp Bool := ⟨false, fun _ _ v d => v = .bl d, fun _ h => h⟩
instance : Rp Unit := ⟨(), fun _ _ v _ => v = .non, fun _ h => h⟩
instance : Rp Str := ⟨Str.empty, fun _ _ v d => v = .str d, fun _ h => h⟩
instance {α : Type} [Rp α] : Rp (Option α) := ⟨none, fun Z H v d => match d with | none => v = .non | some x => Rp.rp Z H v x, fun {Z H H' v d} e h => by
  cases d with
  | none => exact h
  | some x => exact Rp.mono e h⟩
instance {α : Type} [Rp α] : Rp (List α) := ⟨[], fun Z H v d => ∃ a vs, v = .ref a ∧ H a = some (.lst vs) ∧ Paired (Rp.rp Z H) vs d,
  fun e h => by
    obtain ⟨a, vs, h1, h2, h3⟩ := h
    exact ⟨a, vs, h1, e _ _ h2, paired_mono (fun _ _ => Rp.mono e) h3⟩⟩
instance {α β : Type} [Rp α] [Rp β] : Rp (α × β) := ⟨(Rp.df, Rp.df), fun Z H v d => ∃ a x y, v = .ref a ∧ H a = some (.tup [x, y]) ∧ Rp.rp Z H x d.1 ∧ Rp.rp Z H y d.2,
  fun e h => by
    obtain ⟨a, x, y, h1, h2, h3, h4⟩ := h
    exact ⟨a, x, y, h1, e _ _ h2, Rp.mono e h3, Rp.mono e h4⟩⟩
/-- the script: a list that is known to the law's object -/
structure Scr where
  l : List Int
instance : Rp Scr := ⟨⟨[]⟩, fun Z H v d => ∃ a, v = .ref a ∧ SqL Z.K H a (d.l.map V.int), fun e h => by
    obtain ⟨a, h1, h2⟩ := h
    exact ⟨a, h1, e.seq h2⟩⟩
/-- a value of a mixed list: an int or a text -/
inductive IS where
  | i (n : Int) | s (x : Str)
  deriving DecidableEq
instance : Rp IS := ⟨.i 0, fun _ _ v d => match d with | .i n => v = .int n | .s x => v = .str x, fun {Z H H' v d} _ h => by cases d <;> exact h⟩

/-- h within these addresses -/
def res (H : Hp) (f : List Addr) : Hp := fun p => if p ∈ f then H p else none
theorem res_in {H : Hp} {f : List Addr} {p : Addr} (h : p ∈ f) : res H f p = H p := by simp [res, h]
theorem res_some {H : Hp} {f : List Addr} {p : Addr} {o : HO} (h : res H f p = some o) : p ∈ f ∧ H p = some o := by
  unfold res at h
  by_cases c : p ∈ f
  · rw [if_pos c] at h; exact ⟨c, h⟩
  · rw [if_neg c] at h; cases h
/-- own objects of any make: told of the frozen part and of the own objects alone -/
structure Own where
  G : Zz → Hp → Hp → V → Prop
  mono : ∀ {Z : Zz} {R R' h : Hp} {v : V}, Same R R' → G Z R h v → G Z R' h v
/-- what a slot holds -/
inductive Sl : Type 1
  /-- nothing that matters -/
  | un : Sl
  /-- data that never change -/
  | im {α : Type} [Rp α] (d : α) : Sl
  /-- a list of this frame's own -/
  | ol {α : Type} [Rp α] (xs : List α) : Sl
  /-- an own list of own lists -/
  | o2 {α : Type} [Rp α] (xss : List (List α)) : Sl
  /-- an own dict, keys ints -/
  | od {α : Type} [Rp α] (kvs : List (Int × α)) : Sl
  /-- own objects of any make -/
  | ow (O : Own) : Sl

section
variable (Z : Zz) (R H : Hp)
def kvOk {α : Type} [Rp α] (a : Key × V) (b : Int × α) : Prop := a.1 = Sum.inl b.1 ∧ Rp.rp Z R a.2 b.2
def inOk {α : Type} [Rp α] (q : Addr) (xs : List α) : Prop := ∃ vs, H q = some (.lst vs) ∧ Paired (Rp.rp Z R) vs xs
def slok (o : Option V) : Sl → List Addr → Prop
  | .un, f => f = []
  | @Sl.im _ _ d, f => f = [] ∧ ∃ v, o = some v ∧ Rp.rp Z R v d
  | @Sl.ol _ _ xs, f => ∃ p vs, f = [p] ∧ o = some (.ref p) ∧ H p = some (.lst vs) ∧ Paired (Rp.rp Z R) vs xs
  | @Sl.o2 _ _ xss, f => ∃ p qs, f = p :: qs ∧ o = some (.ref p) ∧ H p = some (.lst (qs.map V.ref)) ∧ Paired (inOk Z R H) qs xss
  | @Sl.od _ _ kvs, f => ∃ p kv, f = [p] ∧ o = some (.ref p) ∧ H p = some (.dK kv) ∧ Paired (kvOk Z R) kv kvs
  | .ow O, f => ∃ v, o = some v ∧ O.G Z R (res H f) v ∧ ∀ p ∈ f, H p ≠ none
def Es : List (Option V) → List Sl → List Addr → Prop
  | [], [], own => own = []
  | o :: σ, s :: Γ, own => ∃ f g, own = f ++ g ∧ slok Z R H o s f ∧ Es σ Γ g
  | _, _, _ => False
end
/-- the heap H over the frozen part R; B: the heap at the frame's entry, R0 the frozen part there; own: this frame's own objects -/
structure Hs (B R0 R H : Hp) (own : List Addr) : Prop where
  rh : Same R H
  bh : Same B H
  r0 : Same R0 R
  nw : ∀ b o, R b = some o → R0 b = some o ∨ B b = none
  ow : ∀ p ∈ own, R p = none ∧ B p = none
  nd : own.Nodup
def Sy (Z : Zz) (B R0 R H : Hp) (τ : List (Option V)) (Θ : List Sl) : Prop := ∃ own, Hs B R0 R H own ∧ Es Z R H τ Θ own

section
variable {Z : Zz} {B R0 R R' H H' : Hp} {τ : List (Option V)} {Θ : List Sl} {s : Sl} {o : Option V} {f own : List Addr}
theorem inOk_mono {α : Type} [Rp α] {q : Addr} {xs : List α} (e : Same R R') (k : H' q = H q) (h : inOk Z R H q xs) : inOk Z R' H' q xs := by
  obtain ⟨vs, h1, h2⟩ := h
  exact ⟨vs, by rw [k]; exact h1, paired_mono (fun _ _ => Rp.mono e) h2⟩
theorem paired_inOk {α : Type} [Rp α] : ∀ {qs : List Addr} {xss : List (List α)}, Same R R' → (∀ p ∈ qs, H' p = H p) → Paired (inOk Z R H) qs xss → Paired (inOk Z R' H') qs xss
  | _, _, _, _, .nil => .nil
  | _, _, e, k, .cons r t => .cons (inOk_mono e (k _ List.mem_cons_self) r) (paired_inOk e (fun p hp => k p (List.mem_cons_of_mem _ hp)) t)
theorem slok_mono (e : Same R R') (k : ∀ p ∈ f, H' p = H p) (h : slok Z R H o s f) : slok Z R' H' o s f := by
  cases s with
  | un => exact h
  | im d =>
    obtain ⟨h1, v, h2, h3⟩ := h
    exact ⟨h1, v, h2, Rp.mono e h3⟩
  | ol xs =>
    obtain ⟨p, vs, rfl, h2, h3, h4⟩ := h
    exact ⟨p, vs, rfl, h2, by rw [k p (by simp)]; exact h3, paired_mono (fun _ _ => Rp.mono e) h4⟩
  | o2 xss =>
    obtain ⟨p, qs, rfl, h2, h3, h4⟩ := h
    exact ⟨p, qs, rfl, h2, by rw [k p (by simp)]; exact h3, paired_inOk e (fun q hq => k q (List.mem_cons_of_mem _ hq)) h4⟩
  | od kvs =>
    obtain ⟨p, kv, rfl, h2, h3, h4⟩ := h
    exact ⟨p, kv, rfl, h2, by rw [k p (by simp)]; exact h3, paired_mono (fun _ _ q => ⟨q.1, Rp.mono e q.2⟩) h4⟩
  | ow O =>
    obtain ⟨v, h2, h3, h4⟩ := h
    have e2 : res H' f = res H f := by
      funext p
      by_cases c : p ∈ f
      · rw [res_in c, res_in c, k p c]
      · simp [res, c]
    exact ⟨v, h2, by rw [e2]; exact O.mono e h3, fun p hp => by rw [k p hp]; exact h4 p hp⟩
theorem inOk_some {α : Type} [Rp α] : ∀ {qs : List Addr} {xss : List (List α)}, Paired (inOk Z R H) qs xss → ∀ p ∈ qs, H p ≠ none
  | _, _, .nil, p, hp => by simp at hp
  | _, _, .cons r t, p, hp => by
    rcases List.mem_cons.mp hp with e | e
    · subst e
      obtain ⟨vs, h1, _⟩ := r
      rw [h1]; simp
    · exact inOk_some t p e
theorem slok_some (h : slok Z R H o s f) : ∀ p ∈ f, H p ≠ none := by
  intro q hq
  cases s with
  | un => rw [show f = [] from h] at hq; simp at hq
  | im d => rw [h.1] at hq; simp at hq
  | ol xs =>
    obtain ⟨p, vs, rfl, h2, h3, h4⟩ := h
    have e : q = p := by simpa using hq
    rw [e, h3]; simp
  | o2 xss =>
    obtain ⟨p, qs, rfl, h2, h3, h4⟩ := h
    rcases List.mem_cons.mp hq with e | e
    · rw [e, h3]; simp
    · exact inOk_some h4 q e
  | od kvs =>
    obtain ⟨p, kv, rfl, h2, h3, h4⟩ := h
    have e : q = p := by simpa using hq
    rw [e, h3]; simp
  | ow O =>
    obtain ⟨v, h2, h3, h4⟩ := h
    exact h4 q hq
theorem es_len : ∀ {τ : List (Option V)} {Θ : List Sl} {own : List Addr}, Es Z R H τ Θ own → τ.length = Θ.length
  | [], [], _, _ => rfl
  | _ :: _, _ :: _, _, ⟨_, _, _, _, t⟩ => by rw [List.length_cons, List.length_cons, es_len t]
  | [], _ :: _, _, h => h.elim
  | _ :: _, [], _, h => h.elim
theorem es_mono (e : Same R R') : ∀ {τ : List (Option V)} {Θ : List Sl} {own : List Addr}, (∀ p ∈ own, H' p = H p) → Es Z R H τ Θ own → Es Z R' H' τ Θ own
  | [], [], _, _, h => h
  | _ :: _, _ :: _, _, k, ⟨f, g, e1, h1, t⟩ => by
    subst e1
    exact ⟨f, g, rfl, slok_mono e (fun p hp => k p (List.mem_append_left _ hp)) h1, es_mono e (fun p hp => k p (List.mem_append_right _ hp)) t⟩
  | [], _ :: _, _, _, h => h.elim
  | _ :: _, [], _, _, h => h.elim
theorem es_some : ∀ {τ : List (Option V)} {Θ : List Sl} {own : List Addr}, Es Z R H τ Θ own → ∀ p ∈ own, H p ≠ none
  | [], [], _, h, p, hp => by rw [show _ = [] from h] at hp; simp at hp
  | _ :: _, _ :: _, _, ⟨f, g, e1, h1, t⟩, p, hp => by
    subst e1
    rcases List.mem_append.mp hp with q | q
    · exact slok_some h1 p q
    · exact es_some t p q
  | [], _ :: _, _, h, _, _ => h.elim
  | _ :: _, [], _, h, _, _ => h.elim
/-- one slot, and all else -/
theorem es_at : ∀ {τ : List (Option V)} {Θ : List Sl} {own : List Addr} {i : Nat} {s : Sl}, Es Z R H τ Θ own → Θ[i]? = some s →
    ∃ o g1 f g2, τ[i]? = some o ∧ own = g1 ++ f ++ g2 ∧ slok Z R H o s f ∧ ∀ (R' H' : Hp) (o' : Option V) (s' : Sl) (f' : List Addr), Same R R' → (∀ p ∈ g1 ++ g2, H' p = H p) → slok Z R' H' o' s' f' → Es Z R' H' (τ.set i o') (Θ.set i s') (g1 ++ f' ++ g2)
  | [], [], _, _, _, _, e => by simp at e
  | o :: τ, s0 :: Θ, _, 0, s, ⟨f, g, e1, h1, t⟩, e => by
    have e' : s0 = s := by simpa using e
    subst e'
    refine ⟨o, [], f, g, rfl, by simpa using e1, h1, fun R' H' o' s' f' a k h => ⟨f', g, by simp, h, es_mono a (fun p hp => k p (by simpa using hp)) t⟩⟩
  | o :: τ, s0 :: Θ, _, i + 1, s, ⟨f, g, e1, h1, t⟩, e => by
    obtain ⟨o1, g1, f1, g2, h2, h3, h4, h5⟩ := es_at (i := i) t (by simpa using e)
    refine ⟨o1, f ++ g1, f1, g2, by simpa using h2, by rw [e1, h3]; simp, h4, fun R' H' o' s' f' a k h => ⟨f, g1 ++ f' ++ g2, by simp, slok_mono a (fun p hp => k p (by simp [hp])) h1, h5 R' H' o' s' f' a (fun p hp => k p (by simp at hp ⊢; rcases hp with q | q <;> simp [q])) h⟩⟩
  | [], _ :: _, _, _, _, h, _ => h.elim
  | _ :: _, [], _, _, _, h, _ => h.elim
end
end TB

namespace TB
open PySem L2
section
variable {Z : Zz} {B R0 R R' H H' : Hp} {τ : List (Option V)} {Θ : List Sl} {s : Sl} {o : Option V} {f own own' : List Addr}
theorem hs_sub (h : Hs B R0 R H own) (k : ∀ p ∈ own', p ∈ own) (nd : own'.Nodup) : Hs B R0 R H own' := ⟨h.rh, h.bh, h.r0, h.nw, fun p hp => h.ow p (k p hp), nd⟩
theorem nd_mid {g1 f g2 : List Addr} (h : (g1 ++ f ++ g2).Nodup) : (g1 ++ [] ++ g2).Nodup := by
  simp only [List.nodup_append, List.mem_append] at h ⊢
  grind
theorem nd_move {f g1 f1 g2 : List Addr} (h : (f ++ (g1 ++ f1 ++ g2)).Nodup) : (g1 ++ f ++ g2).Nodup := by
  simp only [List.nodup_append, List.mem_append] at h ⊢
  grind
theorem nd_tail {f g : List Addr} (h : (f ++ g).Nodup) : g.Nodup := by
  simp only [List.nodup_append] at h
  exact h.2.1
theorem sy_get (S : Sy Z B R0 R H τ Θ) {i : Nat} (e : Θ[i]? = some s) : ∃ o f, τ[i]? = some o ∧ slok Z R H o s f := by
  obtain ⟨own, h, es⟩ := S
  obtain ⟨o, g1, f, g2, h1, _, h3, _⟩ := es_at es e
  exact ⟨o, f, h1, h3⟩
theorem sy_im {α : Type} [Rp α] {d : α} (S : Sy Z B R0 R H τ Θ) {i : Nat} (e : Θ[i]? = some (.im d)) : ∃ v, τ[i]? = some (some v) ∧ Rp.rp Z R v d := by
  obtain ⟨o, f, h1, _, v, h2, h3⟩ := sy_get S e
  exact ⟨v, by rw [h1, h2], h3⟩
theorem sy_push {α : Type} [Rp α] {d : α} {v : V} (S : Sy Z B R0 R H τ Θ) (h : Rp.rp Z R v d) : Sy Z B R0 R H (some v :: τ) (.im d :: Θ) := by
  obtain ⟨own, hs, es⟩ := S
  exact ⟨own, hs, [], own, rfl, ⟨rfl, v, rfl, h⟩, es⟩
theorem sy_pushu (S : Sy Z B R0 R H τ Θ) : Sy Z B R0 R H (o :: τ) (.un :: Θ) := by
  obtain ⟨own, hs, es⟩ := S
  exact ⟨own, hs, [], own, rfl, rfl, es⟩
theorem sy_tail (S : Sy Z B R0 R H (o :: τ) (s :: Θ)) : Sy Z B R0 R H τ Θ := by
  obtain ⟨own, hs, f, g, e1, _, es⟩ := S
  subst e1
  exact ⟨g, hs_sub hs (fun p hp => List.mem_append_right _ hp) (nd_tail hs.nd), es⟩
theorem sy_top {α : Type} [Rp α] {d : α} (S : Sy Z B R0 R H (o :: τ) (.im d :: Θ)) : ∃ v, o = some v ∧ Rp.rp Z R v d := by
  obtain ⟨own, hs, f, g, e1, ⟨_, v, h1, h2⟩, es⟩ := S
  exact ⟨v, h1, h2⟩
/-- the top goes into slot i -/
theorem sy_move (S : Sy Z B R0 R H (o :: τ) (s :: Θ)) (i : Nat) : Sy Z B R0 R H (τ.set i o) (Θ.set i s) := by
  obtain ⟨own, hs, f, g, e1, h1, es⟩ := S
  subst e1
  cases e : Θ[i]? with
  | none =>
    have l1 : Θ.length ≤ i := List.getElem?_eq_none_iff.mp e
    have l2 : τ.length ≤ i := by rw [es_len es]; exact l1
    rw [List.set_eq_of_length_le l1, List.set_eq_of_length_le l2]
    exact ⟨g, hs_sub hs (fun p hp => List.mem_append_right _ hp) (nd_tail hs.nd), es⟩
  | some s0 =>
    obtain ⟨o0, g1, f1, g2, h2, h3, h4, h5⟩ := es_at es e
    subst h3
    refine ⟨g1 ++ f ++ g2, hs_sub hs (fun p hp => ?_) (nd_move hs.nd), h5 R H o s f (Same.refl _) (fun _ _ => rfl) h1⟩
    simp only [List.mem_append] at hp ⊢
    grind
/-- slot i forgotten -/
theorem sy_forget (S : Sy Z B R0 R H τ Θ) (i : Nat) (o' : Option V) : Sy Z B R0 R H (τ.set i o') (Θ.set i .un) := sy_move (sy_pushu S) i
theorem sy_forget' (S : Sy Z B R0 R H τ Θ) (i : Nat) : Sy Z B R0 R H τ (Θ.set i .un) := by
  obtain ⟨own, hs, es⟩ := S
  cases e : Θ[i]? with
  | none =>
    rw [List.set_eq_of_length_le (List.getElem?_eq_none_iff.mp e)]
    exact ⟨own, hs, es⟩
  | some s0 =>
    obtain ⟨o0, g1, f1, g2, h2, h3, h4, h5⟩ := es_at es e
    subst h3
    have h6 := h5 R H o0 .un [] (Same.refl _) (fun _ _ => rfl) rfl
    have e2 : τ.set i o0 = τ := by
      apply List.ext_getElem?
      intro j
      rw [List.getElem?_set]
      split
      · rename_i hj
        subst hj
        split
        · rw [h2]
        · rename_i hl
          rw [List.getElem?_eq_none (by omega)]
      · rfl
    rw [e2] at h6
    exact ⟨_, hs_sub hs (fun p hp => by simp only [List.mem_append] at hp ⊢; grind) (nd_mid hs.nd), h6⟩
theorem fresh_own (hs : Hs B R0 R H own) (es : Es Z R H τ Θ own) {p : Addr} (hp : H p = none) : R p = none ∧ B p = none ∧ p ∉ own := by
  refine ⟨hs.rh.free hp, hs.bh.free hp, fun hm => es_some es p hm hp⟩
theorem same_upd {p : Addr} {u : HO} (hp : H p = none) : Same H (upd H p u) := fun b o e => by
  rw [upd_ne (ne_of_none e hp)]
  exact e
/-- a new object that nobody needs -/
theorem sy_alloc (S : Sy Z B R0 R H τ Θ) {p : Addr} (hp : H p = none) (u : HO) : Sy Z B R0 R (upd H p u) τ Θ := by
  obtain ⟨own, hs, es⟩ := S
  obtain ⟨a, b, c⟩ := fresh_own hs es hp
  exact ⟨own, ⟨hs.rh.trans (same_upd hp), hs.bh.trans (same_upd hp), hs.r0, hs.nw, hs.ow, hs.nd⟩, es_mono (Same.refl _) (fun q hq => upd_ne (fun z => c (z ▸ hq))) es⟩
/-- a new object, frozen at once -/
theorem sy_froz (S : Sy Z B R0 R H τ Θ) {p : Addr} (hp : H p = none) (u : HO) : Sy Z B R0 (upd R p u) (upd H p u) τ Θ ∧ Same R (upd R p u) := by
  obtain ⟨own, hs, es⟩ := S
  obtain ⟨a, b, c⟩ := fresh_own hs es hp
  have sr : Same R (upd R p u) := same_upd a
  refine ⟨⟨own, ⟨fun q o e => ?_, hs.bh.trans (same_upd hp), hs.r0.trans sr, fun q o e => ?_, fun q hq => ?_, hs.nd⟩, es_mono sr (fun q hq => upd_ne (fun z => c (z ▸ hq))) es⟩, sr⟩
  · by_cases hq : q = p
    · subst hq
      rw [upd_same] at e ⊢
      exact e
    · rw [upd_ne hq] at e ⊢
      exact hs.rh _ _ e
  · by_cases hq : q = p
    · subst hq
      exact .inr b
    · rw [upd_ne hq] at e
      exact hs.nw _ _ e
  · have n : q ≠ p := fun z => c (z ▸ hq)
    rw [upd_ne n]
    exact hs.ow q hq
/-- a new own list | dict -/
theorem sy_newl {α : Type} [Rp α] {vs : List V} {xs : List α} (S : Sy Z B R0 R H τ Θ) {p : Addr} (hp : H p = none) (hv : Paired (Rp.rp Z R) vs xs) : Sy Z B R0 R (upd H p (.lst vs)) (some (.ref p) :: τ) (.ol xs :: Θ) := by
  obtain ⟨own, hs, es⟩ := S
  obtain ⟨a, b, c⟩ := fresh_own hs es hp
  refine ⟨p :: own, ⟨hs.rh.trans (same_upd hp), hs.bh.trans (same_upd hp), hs.r0, hs.nw, fun q hq => ?_, List.nodup_cons.mpr ⟨c, hs.nd⟩⟩, [p], own, rfl, ⟨p, vs, rfl, rfl, upd_same, hv⟩, es_mono (Same.refl _) (fun q hq => upd_ne (fun z => c (z ▸ hq))) es⟩
  rcases List.mem_cons.mp hq with z | z
  · rw [z]; exact ⟨a, b⟩
  · exact hs.ow q z
theorem sy_newd {α : Type} [Rp α] (S : Sy Z B R0 R H τ Θ) {p : Addr} (hp : H p = none) : Sy Z B R0 R (upd H p (.dK [])) (some (.ref p) :: τ) (.od ([] : List (Int × α)) :: Θ) := by
  obtain ⟨own, hs, es⟩ := S
  obtain ⟨a, b, c⟩ := fresh_own hs es hp
  refine ⟨p :: own, ⟨hs.rh.trans (same_upd hp), hs.bh.trans (same_upd hp), hs.r0, hs.nw, fun q hq => ?_, List.nodup_cons.mpr ⟨c, hs.nd⟩⟩, [p], own, rfl, ⟨p, [], rfl, rfl, upd_same, .nil⟩, es_mono (Same.refl _) (fun q hq => upd_ne (fun z => c (z ▸ hq))) es⟩
  rcases List.mem_cons.mp hq with z | z
  · rw [z]; exact ⟨a, b⟩
  · exact hs.ow q z
/-- an own list changes -/
theorem sy_mutl {α : Type} [Rp α] {xs : List α} (S : Sy Z B R0 R H τ Θ) {i : Nat} (e : Θ[i]? = some (.ol xs)) : ∃ p vs, τ[i]? = some (some (.ref p)) ∧ H p = some (.lst vs) ∧ Paired (Rp.rp Z R) vs xs ∧
    ∀ {β : Type} [Rp β] (vs' : List V) (ys : List β), Paired (Rp.rp Z R) vs' ys → Sy Z B R0 R (upd H p (.lst vs')) τ (Θ.set i (.ol ys)) := by
  obtain ⟨own, hs, es⟩ := S
  obtain ⟨o, g1, f, g2, h2, h3, ⟨p, vs, rfl, rfl, h4, h5⟩, h6⟩ := es_at es e
  subst h3
  refine ⟨p, vs, h2, h4, h5, fun {β} _ vs' ys hy => ?_⟩
  have hp := hs.ow p (by simp)
  have nd := hs.nd
  have ne : ∀ q ∈ g1 ++ g2, q ≠ p := fun q hq z => by
    subst z
    simp only [List.nodup_append, List.mem_append, List.mem_singleton] at nd hq
    grind
  have h7 := h6 R (upd H p (.lst vs')) (some (.ref p)) (.ol ys) [p] (Same.refl _) (fun q hq => upd_ne (ne q hq)) ⟨p, vs', rfl, rfl, upd_same, hy⟩
  have e2 : τ.set i (some (.ref p)) = τ := by
    apply List.ext_getElem?
    intro j
    rw [List.getElem?_set]
    split
    · rename_i hj
      subst hj
      split
      · rw [h2]
      · rename_i hl
        rw [List.getElem?_eq_none (by omega)]
    · rfl
  rw [e2] at h7
  exact ⟨_, ⟨fun q u a => by rw [upd_ne (ne_of_none a hp.1)]; exact hs.rh _ _ a, fun q u a => by rw [upd_ne (ne_of_none a hp.2)]; exact hs.bh _ _ a, hs.r0, hs.nw, hs.ow, hs.nd⟩, h7⟩
theorem sy_mutd {α : Type} [Rp α] {xs : List (Int × α)} (S : Sy Z B R0 R H τ Θ) {i : Nat} (e : Θ[i]? = some (.od xs)) : ∃ p kv, τ[i]? = some (some (.ref p)) ∧ H p = some (.dK kv) ∧ Paired (kvOk Z R) kv xs ∧
    ∀ {β : Type} [Rp β] (kv' : List (Key × V)) (ys : List (Int × β)), Paired (kvOk Z R) kv' ys → Sy Z B R0 R (upd H p (.dK kv')) τ (Θ.set i (.od ys)) := by
  obtain ⟨own, hs, es⟩ := S
  obtain ⟨o, g1, f, g2, h2, h3, ⟨p, vs, rfl, rfl, h4, h5⟩, h6⟩ := es_at es e
  subst h3
  refine ⟨p, vs, h2, h4, h5, fun {β} _ vs' ys hy => ?_⟩
  have hp := hs.ow p (by simp)
  have nd := hs.nd
  have ne : ∀ q ∈ g1 ++ g2, q ≠ p := fun q hq z => by
    subst z
    simp only [List.nodup_append, List.mem_append, List.mem_singleton] at nd hq
    grind
  have h7 := h6 R (upd H p (.dK vs')) (some (.ref p)) (.od ys) [p] (Same.refl _) (fun q hq => upd_ne (ne q hq)) ⟨p, vs', rfl, rfl, upd_same, hy⟩
  have e2 : τ.set i (some (.ref p)) = τ := by
    apply List.ext_getElem?
    intro j
    rw [List.getElem?_set]
    split
    · rename_i hj
      subst hj
      split
      · rw [h2]
      · rename_i hl
        rw [List.getElem?_eq_none (by omega)]
    · rfl
  rw [e2] at h7
  exact ⟨_, ⟨fun q u a => by rw [upd_ne (ne_of_none a hp.1)]; exact hs.rh _ _ a, fun q u a => by rw [upd_ne (ne_of_none a hp.2)]; exact hs.bh _ _ a, hs.r0, hs.nw, hs.ow, hs.nd⟩, h7⟩
/-- an own list is frozen -/
theorem sy_frl {α : Type} [Rp α] {xs : List α} (S : Sy Z B R0 R H τ Θ) {i : Nat} (e : Θ[i]? = some (.ol xs)) : ∃ R', Same R R' ∧ Sy Z B R0 R' H τ (Θ.set i (.im xs)) := by
  obtain ⟨own, hs, es⟩ := S
  obtain ⟨o, g1, f, g2, h2, h3, ⟨p, vs, rfl, rfl, h4, h5⟩, h6⟩ := es_at es e
  subst h3
  have hp := hs.ow p (by simp)
  have nd := hs.nd
  have ne : ∀ q ∈ g1 ++ g2, q ≠ p := fun q hq z => by
    subst z
    simp only [List.nodup_append, List.mem_append, List.mem_singleton] at nd hq
    grind
  have sr : Same R (upd R p (.lst vs)) := same_upd hp.1
  have h7 := h6 (upd R p (.lst vs)) H (some (.ref p)) (.im xs) [] sr (fun q hq => rfl) ⟨rfl, .ref p, rfl, p, vs, rfl, upd_same, paired_mono (fun _ _ => Rp.mono sr) h5⟩
  have e2 : τ.set i (some (.ref p)) = τ := by
    apply List.ext_getElem?
    intro j
    rw [List.getElem?_set]
    split
    · rename_i hj
      subst hj
      split
      · rw [h2]
      · rename_i hl
        rw [List.getElem?_eq_none (by omega)]
    · rfl
  rw [e2] at h7
  refine ⟨_, sr, _, ⟨fun q u a => ?_, hs.bh, hs.r0.trans sr, fun q u a => ?_, fun q hq => ?_, nd_mid hs.nd⟩, h7⟩
  · by_cases hq : q = p
    · subst hq
      rw [upd_same] at a
      rw [h4]; exact a
    · rw [upd_ne hq] at a
      exact hs.rh _ _ a
  · by_cases hq : q = p
    · subst hq
      exact .inr hp.2
    · rw [upd_ne hq] at a
      exact hs.nw _ _ a
  · rw [List.append_nil] at hq
    rw [upd_ne (ne q hq)]
    exact hs.ow q (by simp only [List.mem_append] at hq ⊢; grind)
end
end TB

/-! TbG: operators by values, whatever the kinds (ints or lists; lists, tuples or dicts). -/
namespace TB
open PySem PySem.Spec PyProof.Rows L2
theorem opR_or {X : Cx} {f : Value → Value → Sem Value} {r r' : R2} (h : OpR X f r) (h' : OpR X f r') : OpR X f (fun x y H Q => r x y H Q ∨ r' x y H Q) := by
  intro pins s σ H x y v u Q I rx ry q
  rcases q with q | q
  · exact h pins s σ H x y v u Q I rx ry q
  · exact h' pins s σ H x y v u Q I rx ry q
theorem callR_or {X : Cx} {f : Value} {r r' : List V → Hp → VK → Prop} (h : CallR X f r) (h' : CallR X f r') : CallR X f (fun xs H Q => r xs H Q ∨ r' xs H Q) := by
  intro pins s σ H xs us Q I rx q
  rcases q with q | q
  · exact h pins s σ H xs us Q I rx q
  · exact h' pins s σ H xs us Q I rx q
def rAddI : R2 := rI0 fun i j => .int (i + j)
def gAdd : R2 := fun x y H Q => rAddI x y H Q ∨ rCat x y H Q
def gMns : R2 := rI0 fun i j => .int (i - j)
def rMulI : R2 := rI CMulW fun i j => .int (i * j)
def rMulS : R2 := rI CMul fun i j => .int (i * j)
def gMul : R2 := fun x y H Q => rMulI x y H Q ∨ rRep x y H Q ∨ rMulS x y H Q
def gMod : R2 := rI (fun _ j => j ≠ 0) fun i j => .int (i.fmod j)
def rDivN : R2 := rI CDivN fun i j => .int (i.fdiv j)
def rDivW : R2 := rI CDivW fun i j => .int (i / j)
def gDiv : R2 := fun x y H Q => rDivN x y H Q ∨ rDivW x y H Q
def gPow : R2 := rI CPow fun i j => .int (i ^ j.toNat)
def gEq (K : PySem.W.Frag) : R2 := fun x y H Q => rEq x y H Q ∨ rEqD K x y H Q
def gNe (K : PySem.W.Frag) : R2 := fun x y H Q => rNe x y H Q ∨ rNeD K x y H Q
def gLt : R2 := rI0 fun i j => .bl (decide (i < j))
def gLe : R2 := rI0 fun i j => .bl (decide (i ≤ j))
def gGt : R2 := rI0 fun i j => .bl (decide (j < i))
def gGe : R2 := rI0 fun i j => .bl (decide (j ≤ i))
def gIs : R2 := fun x y H Q => y = .non ∧ Q (.bl (decide (x = .non))) H
def gIsNot : R2 := fun x y H Q => y = .non ∧ Q (.bl (!decide (x = .non))) H
def rDIn : R2 := fun x y H Q => ∃ a o, y = .ref a ∧ DGet H a x o ∧ Q (.bl o.isSome) H
def rDNotIn : R2 := fun x y H Q => ∃ a o, y = .ref a ∧ DGet H a x o ∧ Q (.bl (!o.isSome)) H
def gIn (K : PySem.W.Frag) : R2 := fun x y H Q => rIn K false x y H Q ∨ rDIn x y H Q
def gNotIn (K : PySem.W.Frag) : R2 := fun x y H Q => rIn K true x y H Q ∨ rDNotIn x y H Q
def rDIx : R2 := fun x y H Q => ∃ a v, x = .ref a ∧ DGet H a y (some v) ∧ Q v H
def gIx (K : PySem.W.Frag) : R2 := fun x y H Q => rIxL K x y H Q ∨ rIxT K x y H Q ∨ rDIx x y H Q
def uNeg : V → Hp → VK → Prop := rU fun i => .int (-i)
section
variable {X : Cx}
theorem go_add : OpR X (binaryOp .Add) gAdd := opR_or op_add op_cat
theorem go_sub : OpR X (binaryOp .Sub) gMns := op_sub
theorem go_mul : OpR X (binaryOp .Mult) gMul := opR_or op_mulW (opR_or op_rep op_mul)
theorem go_mod : OpR X (binaryOp .Mod) gMod := op_modN
theorem go_div : OpR X (binaryOp .FloorDiv) gDiv := opR_or op_fdivN op_fdivW
theorem go_pow : OpR X (binaryOp .Pow) gPow := op_pow
theorem go_eq (hu : X.A.units + 64 < cLine) : OpR X (compareOp .Eq) (gEq X.K) := opR_or op_eq (op_eqD hu)
theorem go_ne (hu : X.A.units + 64 < cLine) : OpR X (compareOp .NotEq) (gNe X.K) := opR_or op_ne (op_neD hu)
theorem go_lt : OpR X (compareOp .Lt) gLt := op_lt
theorem go_le : OpR X (compareOp .LtE) gLe := op_le
theorem go_gt : OpR X (compareOp .Gt) gGt := op_gt
theorem go_ge : OpR X (compareOp .GtE) gGe := op_ge
theorem go_is : OpR X (compareOp .Is) gIs := op_isN
theorem go_isNot : OpR X (compareOp .IsNot) gIsNot := op_notN
theorem go_dIn (hu : X.A.units + 1 < cLine) : OpR X (compareOp .In) rDIn := by
  intro pins s σ H x y v u Q I rx ry q
  obtain ⟨a, o, rfl, g, q⟩ := q
  cases ry
  exact d_in hu I g rx fun s3 I3 => ⟨.bl o.isSome, H, I3, rfl, q⟩
theorem go_dNotIn (hu : X.A.units + 1 < cLine) : OpR X (compareOp .NotIn) rDNotIn := by
  intro pins s σ H x y v u Q I rx ry q
  obtain ⟨a, o, rfl, g, q⟩ := q
  cases ry
  exact d_notIn hu I g rx fun s3 I3 => ⟨.bl (!o.isSome), H, I3, rfl, q⟩
theorem go_in (hu : X.A.units + 1 < cLine) : OpR X (compareOp .In) (gIn X.K) := opR_or op_in_seq (go_dIn hu)
theorem go_notIn (hu : X.A.units + 1 < cLine) : OpR X (compareOp .NotIn) (gNotIn X.K) := opR_or op_notIn_seq (go_dNotIn hu)
theorem go_dIx (hu : X.A.units + 1 < cLine) : IxR X rDIx := by
  intro value slice pins s σ H x y v u Q I rx ry h hs
  obtain ⟨a, w, rfl, g, q⟩ := h
  cases rx
  exact tail_any (dict_typeIs I g) PySem.F.slot_dict_getitem.lookup (d_getItem hu I g ry fun w' s3 I3 rw' => ⟨w, H, I3, rw', q⟩) hs
theorem go_ix (hu : X.A.units + 1 < cLine) : IxR X (gIx X.K) := ix_list.or (ix_tup.or (go_dIx hu))
theorem go_neg : UnR X (unaryOp .USub) uNeg := un_neg
theorem hu64 {k : Nat} {A : Around} (hr : Room k A) : A.units + 64 < cLine := by have := hr.un; omega
theorem hu1 {k : Nat} {A : Around} (hr : Room k A) : A.units + 1 < cLine := by have := hr.un; omega
end
end TB

/-! TbJ: the judgements: what an expression is worth (Ev), a test (EvT), arguments (EvA), what a walk draws (EvI), what a statement leads to (W). -/
namespace TB
open PySem L2
/-- a frame's state: ρ, Δ what lies ahead of the slots (values under way) -/
def Sx (Z : Zz) (B R0 R H : Hp) (ρ : List (Option V)) (Δ : List Sl) (σ : List (Option V)) (Γ : List Sl) : Prop := ρ.length = Δ.length ∧ Sy Z B R0 R H (ρ ++ σ) (Δ ++ Γ)
section
variable {Z : Zz} {B R0 R R' H H' : Hp} {ρ σ τ τ' : List (Option V)} {Δ Γ Θ Θ' : List Sl} {s : Sl} {o : Option V} {f own own' : List Addr}
theorem es_append : ∀ {τ τ' : List (Option V)} {Θ Θ' : List Sl} {own : List Addr}, τ.length = Θ.length → (Es Z R H (τ ++ τ') (Θ ++ Θ') own ↔ ∃ f g, own = f ++ g ∧ Es Z R H τ Θ f ∧ Es Z R H τ' Θ' g)
  | [], _, [], _, own, _ => ⟨fun h => ⟨[], own, rfl, rfl, h⟩, fun ⟨f, g, e, h1, h2⟩ => by
      have h1' : f = [] := h1
      subst h1'
      rw [e]
      exact h2⟩
  | o :: τ, τ', s :: Θ, Θ', own, hl => by
    have hl' : τ.length = Θ.length := by simpa using hl
    constructor
    · rintro ⟨f, g, e, h1, h2⟩
      obtain ⟨f2, g2, e2, h3, h4⟩ := (es_append hl').mp h2
      exact ⟨f ++ f2, g2, by rw [e, e2, List.append_assoc], ⟨f, f2, rfl, h1, h3⟩, h4⟩
    · rintro ⟨f, g, e, ⟨f1, f2, e1, h1, h2⟩, h3⟩
      exact ⟨f1, f2 ++ g, by rw [e, e1, List.append_assoc], h1, (es_append hl').mpr ⟨f2, g, rfl, h2, h3⟩⟩
  | [], _, _ :: _, _, _, hl => by simp at hl
  | _ :: _, _, [], _, _, hl => by simp at hl
theorem sy_sub {τ1 τ2 τ3 : List (Option V)} {Θ1 Θ2 Θ3 : List Sl} (h1 : τ1.length = Θ1.length) (h2 : τ2.length = Θ2.length) (S : Sy Z B R0 R H (τ1 ++ (τ2 ++ τ3)) (Θ1 ++ (Θ2 ++ Θ3))) : Sy Z B R0 R H (τ1 ++ τ3) (Θ1 ++ Θ3) := by
  obtain ⟨own, hs, es⟩ := S
  obtain ⟨f, g, rfl, e1, e2⟩ := (es_append h1).mp es
  obtain ⟨f2, g2, rfl, e3, e4⟩ := (es_append h2).mp e2
  refine ⟨f ++ g2, hs_sub hs (fun p hp => ?_) ?_, (es_append h1).mpr ⟨f, g2, rfl, e1, e4⟩⟩
  · simp only [List.mem_append] at hp ⊢
    grind
  · have nd := hs.nd
    simp only [List.nodup_append, List.mem_append] at nd ⊢
    grind
theorem sx_len (S : Sx Z B R0 R H ρ Δ σ Γ) : σ.length = Γ.length := by
  obtain ⟨h, own, _, es⟩ := S
  have := es_len es
  simp only [List.length_append] at this
  omega
theorem sx_same (S : Sx Z B R0 R H ρ Δ σ Γ) : Same R H := by
  obtain ⟨_, own, hs, _⟩ := S
  exact hs.rh
theorem sx_base (S : Sx Z B R0 R H ρ Δ σ Γ) : Same B H := by
  obtain ⟨_, own, hs, _⟩ := S
  exact hs.bh
theorem sx_r0 (S : Sx Z B R0 R H ρ Δ σ Γ) : Same R0 R := by
  obtain ⟨_, own, hs, _⟩ := S
  exact hs.r0
theorem at_slot {α β : Type _} {l : List α} {m : List β} {i : Nat} {r : List β} (h : l.length = m.length) : (m ++ r)[l.length + i]? = r[i]? := by
  rw [h, List.getElem?_append_right (by omega)]
  congr 1
  omega
theorem at_slot' {α : Type _} {l r : List α} {i : Nat} : (l ++ r)[l.length + i]? = r[i]? := at_slot rfl
theorem sx_slot (S : Sx Z B R0 R H ρ Δ σ Γ) {i : Nat} (e : Γ[i]? = some s) : ∃ o f, σ[i]? = some o ∧ slok Z R H o s f := by
  obtain ⟨hl, S⟩ := S
  obtain ⟨o, f, h1, h2⟩ := sy_get S (i := ρ.length + i) (by rw [at_slot hl]; exact e)
  rw [at_slot'] at h1
  exact ⟨o, f, h1, h2⟩
theorem sx_im {α : Type} [Rp α] {d : α} (S : Sx Z B R0 R H ρ Δ σ Γ) {i : Nat} (e : Γ[i]? = some (.im d)) : ∃ v, σ[i]? = some (some v) ∧ Rp.rp Z R v d := by
  obtain ⟨o, f, h1, _, v, h2, h3⟩ := sx_slot S e
  exact ⟨v, by rw [h1, h2], h3⟩
theorem sx_push {α : Type} [Rp α] {d : α} {v : V} (S : Sx Z B R0 R H ρ Δ σ Γ) (h : Rp.rp Z R v d) : Sx Z B R0 R H (some v :: ρ) (.im d :: Δ) σ Γ := ⟨by simp [S.1], sy_push S.2 h⟩
theorem sx_pushu (S : Sx Z B R0 R H ρ Δ σ Γ) : Sx Z B R0 R H (o :: ρ) (.un :: Δ) σ Γ := ⟨by simp [S.1], sy_pushu S.2⟩
theorem sx_pop {s : Sl} (S : Sx Z B R0 R H (o :: ρ) (s :: Δ) σ Γ) : Sx Z B R0 R H ρ Δ σ Γ := ⟨by have := S.1; simpa using this, sy_tail S.2⟩
theorem sx_pop2 {o2 : Option V} {s s2 : Sl} (S : Sx Z B R0 R H (o :: o2 :: ρ) (s :: s2 :: Δ) σ Γ) : Sx Z B R0 R H (o :: ρ) (s :: Δ) σ Γ :=
  ⟨by have := S.1; simpa using this, sy_sub (τ1 := [o]) (τ2 := [o2]) (Θ1 := [s]) (Θ2 := [s2]) rfl rfl S.2⟩
theorem sx_top {α : Type} [Rp α] {d : α} (S : Sx Z B R0 R H (o :: ρ) (.im d :: Δ) σ Γ) : ∃ v, o = some v ∧ Rp.rp Z R v d := sy_top S.2
theorem sx_top' {α : Type} [Rp α] {d : α} {v : V} (S : Sx Z B R0 R H (some v :: ρ) (.im d :: Δ) σ Γ) : Rp.rp Z R v d := by
  obtain ⟨w, h1, h2⟩ := sx_top S
  cases h1
  exact h2
theorem sx_drop {ρ' : List (Option V)} {Δ' : List Sl} (h : ρ'.length = Δ'.length) (S : Sx Z B R0 R H (ρ' ++ ρ) (Δ' ++ Δ) σ Γ) : Sx Z B R0 R H ρ Δ σ Γ := by
  obtain ⟨h1, S⟩ := S
  rw [List.length_append, List.length_append] at h1
  exact ⟨by omega, sy_sub (τ1 := []) (Θ1 := []) rfl h (by simpa using S)⟩
theorem sx_drop1 {ρ' : List (Option V)} {Δ' : List Sl} (h : ρ'.length = Δ'.length) (S : Sx Z B R0 R H (o :: (ρ' ++ ρ)) (s :: (Δ' ++ Δ)) σ Γ) : Sx Z B R0 R H (o :: ρ) (s :: Δ) σ Γ := by
  obtain ⟨h1, S⟩ := S
  simp only [List.length_cons, List.length_append] at h1
  refine ⟨by simp; omega, sy_sub (τ1 := [o]) (Θ1 := [s]) (τ2 := ρ') (Θ2 := Δ') rfl h (by simpa using S)⟩
/-- the slots are let go -/
theorem sx_leave (S : Sx Z B R0 R H ρ Δ σ Γ) : Sx Z B R0 R H ρ Δ [] [] := by
  refine ⟨S.1, ?_⟩
  have h := sx_len S
  exact sy_sub (τ1 := ρ) (Θ1 := Δ) (τ2 := σ) (Θ2 := Γ) (τ3 := []) (Θ3 := []) S.1 h (by simpa using S.2)
theorem sx_asg (S : Sx Z B R0 R H (o :: ρ) (s :: Δ) σ Γ) (i : Nat) : Sx Z B R0 R H ρ Δ (σ.set i o) (Γ.set i s) := by
  obtain ⟨h, S⟩ := S
  have h' : ρ.length = Δ.length := by simpa using h
  refine ⟨h', ?_⟩
  have q := sy_move (τ := ρ ++ σ) (Θ := Δ ++ Γ) S (ρ.length + i)
  rw [List.set_append_right _ _ (by omega), h', List.set_append_right _ _ (by omega), show Δ.length + i - Δ.length = i by omega] at q
  exact q
theorem sx_forget (S : Sx Z B R0 R H ρ Δ σ Γ) (i : Nat) : Sx Z B R0 R H ρ Δ σ (Γ.set i .un) := by
  obtain ⟨h, S⟩ := S
  refine ⟨h, ?_⟩
  have q := sy_forget' S (Δ.length + i)
  rw [List.set_append_right _ _ (by omega), show Δ.length + i - Δ.length = i by omega] at q
  exact q
theorem sx_forgets (S : Sx Z B R0 R H ρ Δ σ Γ) (i : Nat) (o' : Option V) : Sx Z B R0 R H ρ Δ (σ.set i o') (Γ.set i .un) := sx_asg (sx_pushu S) i
theorem sx_alloc (S : Sx Z B R0 R H ρ Δ σ Γ) {p : Addr} (hp : H p = none) (u : HO) : Sx Z B R0 R (upd H p u) ρ Δ σ Γ := ⟨S.1, sy_alloc S.2 hp u⟩
theorem sx_froz (S : Sx Z B R0 R H ρ Δ σ Γ) {p : Addr} (hp : H p = none) (u : HO) : Sx Z B R0 (upd R p u) (upd H p u) ρ Δ σ Γ ∧ Same R (upd R p u) := ⟨⟨S.1, (sy_froz S.2 hp u).1⟩, (sy_froz S.2 hp u).2⟩
theorem sx_newl {α : Type} [Rp α] {vs : List V} {xs : List α} (S : Sx Z B R0 R H ρ Δ σ Γ) {p : Addr} (hp : H p = none) (hv : Paired (Rp.rp Z R) vs xs) : Sx Z B R0 R (upd H p (.lst vs)) (some (.ref p) :: ρ) (.ol xs :: Δ) σ Γ :=
  ⟨by simp [S.1], sy_newl S.2 hp hv⟩
theorem sx_newd {α : Type} [Rp α] (S : Sx Z B R0 R H ρ Δ σ Γ) {p : Addr} (hp : H p = none) : Sx Z B R0 R (upd H p (.dK [])) (some (.ref p) :: ρ) (.od ([] : List (Int × α)) :: Δ) σ Γ := ⟨by simp [S.1], sy_newd S.2 hp⟩
theorem sx_mutl {α : Type} [Rp α] {xs : List α} (S : Sx Z B R0 R H ρ Δ σ Γ) {i : Nat} (e : Γ[i]? = some (.ol xs)) : ∃ p vs, σ[i]? = some (some (.ref p)) ∧ H p = some (.lst vs) ∧ Paired (Rp.rp Z R) vs xs ∧
    ∀ {β : Type} [Rp β] (vs' : List V) (ys : List β), Paired (Rp.rp Z R) vs' ys → Sx Z B R0 R (upd H p (.lst vs')) ρ Δ σ (Γ.set i (.ol ys)) := by
  obtain ⟨h, S⟩ := S
  obtain ⟨p, vs, h1, h2, h3, h4⟩ := sy_mutl S (i := ρ.length + i) (by rw [at_slot h]; exact e)
  rw [at_slot'] at h1
  refine ⟨p, vs, h1, h2, h3, fun vs' ys hy => ⟨h, ?_⟩⟩
  have q := h4 vs' ys hy
  rw [h, List.set_append_right _ _ (by omega), show Δ.length + i - Δ.length = i by omega] at q
  exact q
theorem sx_mutd {α : Type} [Rp α] {xs : List (Int × α)} (S : Sx Z B R0 R H ρ Δ σ Γ) {i : Nat} (e : Γ[i]? = some (.od xs)) : ∃ p kv, σ[i]? = some (some (.ref p)) ∧ H p = some (.dK kv) ∧ Paired (kvOk Z R) kv xs ∧
    ∀ {β : Type} [Rp β] (kv' : List (Key × V)) (ys : List (Int × β)), Paired (kvOk Z R) kv' ys → Sx Z B R0 R (upd H p (.dK kv')) ρ Δ σ (Γ.set i (.od ys)) := by
  obtain ⟨h, S⟩ := S
  obtain ⟨p, vs, h1, h2, h3, h4⟩ := sy_mutd S (i := ρ.length + i) (by rw [at_slot h]; exact e)
  rw [at_slot'] at h1
  refine ⟨p, vs, h1, h2, h3, fun vs' ys hy => ⟨h, ?_⟩⟩
  have q := h4 vs' ys hy
  rw [h, List.set_append_right _ _ (by omega), show Δ.length + i - Δ.length = i by omega] at q
  exact q
/-- the top, an own list, changes -/
theorem sx_mutTop {α : Type} [Rp α] {xs : List α} (S : Sx Z B R0 R H (o :: ρ) (.ol xs :: Δ) σ Γ) : ∃ p vs, o = some (.ref p) ∧ H p = some (.lst vs) ∧ Paired (Rp.rp Z R) vs xs ∧
    ∀ {β : Type} [Rp β] (vs' : List V) (ys : List β), Paired (Rp.rp Z R) vs' ys → Sx Z B R0 R (upd H p (.lst vs')) (o :: ρ) (.ol ys :: Δ) σ Γ := by
  obtain ⟨h, S⟩ := S
  obtain ⟨p, vs, h1, h2, h3, h4⟩ := sy_mutl S (i := 0) rfl
  refine ⟨p, vs, by simpa using h1, h2, h3, fun vs' ys hy => ⟨by simpa using h, ?_⟩⟩
  exact h4 vs' ys hy
theorem sx_frl {α : Type} [Rp α] {xs : List α} (S : Sx Z B R0 R H ρ Δ σ Γ) {i : Nat} (e : Γ[i]? = some (.ol xs)) : ∃ R', Same R R' ∧ Sx Z B R0 R' H ρ Δ σ (Γ.set i (.im xs)) := by
  obtain ⟨h, S⟩ := S
  obtain ⟨R', h1, h2⟩ := sy_frl S (i := ρ.length + i) (by rw [at_slot h]; exact e)
  rw [h, List.set_append_right _ _ (by omega), show Δ.length + i - Δ.length = i by omega] at h2
  exact ⟨R', h1, h, h2⟩
theorem sx_frTop {α : Type} [Rp α] {xs : List α} (S : Sx Z B R0 R H (o :: ρ) (.ol xs :: Δ) σ Γ) : ∃ R', Same R R' ∧ Sx Z B R0 R' H (o :: ρ) (.im xs :: Δ) σ Γ := by
  obtain ⟨h, S⟩ := S
  obtain ⟨R', h1, h2⟩ := sy_frl S (i := 0) rfl
  exact ⟨R', h1, by simpa using h, h2⟩
end

/-! ### refusals -/
structure Rf where
  name : CN
  fs : List (Str × V)
/-- a refusal: its class, its dict in H, which is new since B -/
def RepEx (Z : Zz) (B H : Hp) (r : Rf) (cls : Value) (d : Option Addr) : Prop := cls = .ref (Z.cls r.name) ∧ ((r.fs = [] ∧ d = none) ∨ (r.fs ≠ [] ∧ ∃ dx, d = some dx ∧ B dx = none ∧ H dx = some (.xd r.fs)))
theorem RepEx.mono {Z : Zz} {B H H' : Hp} {r : Rf} {cls : Value} {d : Option Addr} (e : Same H H') (h : RepEx Z B H r cls d) : RepEx Z B H' r cls d := by
  obtain ⟨h1, h2 | ⟨h2, dx, h3, h4, h5⟩⟩ := h
  · exact ⟨h1, .inl h2⟩
  · exact ⟨h1, .inr ⟨h2, dx, h3, h4, e _ _ h5⟩⟩
/-- the written part, what is wished of an exception, which refusals may come -/
structure Cn where
  Z : Zz
  X : WX
  ex : Rf → List Sl → Prop
abbrev Cn.no (c : Cn) : Cn := { c with ex := fun _ _ => False }
def Xok (c : Cn) (B R0 : Hp) (ρ : List (Option V)) (Δ : List Sl) : Prop := ∀ R' H' σ' Γ' r cls d, Sx c.Z B R0 R' H' ρ Δ σ' Γ' → RepEx c.Z B R' r cls d → c.ex r Γ' → c.X cls d σ' H'
theorem Xok.push {c : Cn} {B R0 : Hp} {ρ ρ' : List (Option V)} {Δ Δ' : List Sl} (h : ρ'.length = Δ'.length) (x : Xok c B R0 ρ Δ) : Xok c B R0 (ρ' ++ ρ) (Δ' ++ Δ) := fun R' H' σ' Γ' r cls d S => x R' H' σ' Γ' r cls d (sx_drop h S)
theorem Xok.push1 {c : Cn} {B R0 : Hp} {ρ : List (Option V)} {Δ : List Sl} {o : Option V} {s : Sl} (x : Xok c B R0 ρ Δ) : Xok c B R0 (o :: ρ) (s :: Δ) := fun R' H' σ' Γ' r cls d S => x R' H' σ' Γ' r cls d (sx_pop S)
theorem Xok.no (c : Cn) (B R0 : Hp) (ρ : List (Option V)) (Δ : List Sl) : Xok c.no B R0 ρ Δ := fun _ _ _ _ _ _ _ _ _ z => z.elim

/-! ### the judgements -/
def Ev (c : Cn) (Γ : List Sl) (t : TE) (s : Sl) : Prop := ∀ B R0 R H ρ Δ σ, Sx c.Z B R0 R H ρ Δ σ Γ → ∀ Q : VK, (∀ v R' H', Sx c.Z B R0 R' H' (some v :: ρ) (s :: Δ) σ Γ → Q v H') → Xok c B R0 ρ Δ → t σ H Q
def EvT (c : Cn) (Γ : List Sl) (t : TT) (b : Bool) : Prop := ∀ B R0 R H ρ Δ σ, Sx c.Z B R0 R H ρ Δ σ Γ → ∀ Q : Bool → Hp → Prop, (∀ R' H', Sx c.Z B R0 R' H' ρ Δ σ Γ → Q b H') → Xok c B R0 ρ Δ → t σ H Q
inductive Slims (Z : Zz) (R : Hp) : List V → List Sl → Prop
  | nil : Slims Z R [] []
  | cons {α : Type} [Rp α] {v : V} {d : α} {vs : List V} {ss : List Sl} : Rp.rp Z R v d → Slims Z R vs ss → Slims Z R (v :: vs) (.im d :: ss)
def EvA (c : Cn) (Γ : List Sl) (t : TA) (ss : List Sl) : Prop := ∀ B R0 R H ρ Δ σ, Sx c.Z B R0 R H ρ Δ σ Γ → ∀ Q : List V → Hp → Prop, (∀ vs R' H', Sx c.Z B R0 R' H' ρ Δ σ Γ → Slims c.Z R' vs ss → Q vs H') → Xok c B R0 ρ Δ → t σ H Q
structure Po where
  nx : List Sl → Prop
  rt : Sl → Prop
  bk : List Sl → Prop := fun _ => False
  ct : List Sl → Prop := fun _ => False
def W (c : Cn) (Γ : List Sl) (t : TS) (P : Po) : Prop := ∀ B R0 R H ρ Δ σ D, Sx c.Z B R0 R H ρ Δ σ Γ →
  (∀ R' H' σ' Γ', Sx c.Z B R0 R' H' ρ Δ σ' Γ' → P.nx Γ' → D.nx σ' H') → (∀ R' H' v s, Sx c.Z B R0 R' H' (some v :: ρ) (s :: Δ) [] [] → P.rt s → D.rt v H') →
  (∀ R' H' σ' Γ', Sx c.Z B R0 R' H' ρ Δ σ' Γ' → P.bk Γ' → D.bk σ' H') → (∀ R' H' σ' Γ', Sx c.Z B R0 R' H' ρ Δ σ' Γ' → P.ct Γ' → D.ct σ' H') → Xok c B R0 ρ Δ → t D σ H
/-- forget the block's own slots -/
def wipeG (Γ : List Sl) : List Nat → List Sl
  | [] => Γ
  | v :: vs => (wipeG Γ vs).set v .un
/-- nothing stands in these slots -/
def UnAt (Γ : List Sl) : List Nat → Prop
  | [] => True
  | v :: vs => (Γ[v]? = some .un ∨ Γ.length ≤ v) ∧ UnAt Γ vs
/-- a walk: n turns, turn i stores as us i tells, into slots of js -/
structure ItOk (Z : Zz) (B R0 : Hp) (ρ : List (Option V)) (Δ : List Sl) (J : It) (g : TG) (n : Nat) (us : Nat → List Sl → List Sl) (js : List Nat) : Prop where
  back : ∀ (i : Nat) (Γ : List Sl) (vs : List Nat), (∀ j ∈ js, j ∈ vs) → wipeG (us i Γ) vs = wipeG Γ vs
  go : ∀ {R H : Hp} {ρx : List (Option V)} {Δx : List Sl} {σ : List (Option V)} {Γ : List Sl} {i : Nat}, ρx.length = Δx.length → Sx Z B R0 R H (ρx ++ ρ) (Δx ++ Δ) σ Γ → i < n → J.go i H
  stop : ∀ {R H : Hp} {ρx : List (Option V)} {Δx : List Sl} {σ : List (Option V)} {Γ : List Sl}, ρx.length = Δx.length → Sx Z B R0 R H (ρx ++ ρ) (Δx ++ Δ) σ Γ → J.stop n H
  yld : ∀ {R H : Hp} {ρx : List (Option V)} {Δx : List Sl} {σ : List (Option V)} {Γ : List Sl} {i : Nat} {x : V} {H' : Hp}, ρx.length = Δx.length → Sx Z B R0 R H (ρx ++ ρ) (Δx ++ Δ) σ Γ → i < n → J.yld i H x H' → ∀ K : St → Hp → Prop,
    (∀ R2 σ2 H2, Sx Z B R0 R2 H2 (ρx ++ ρ) (Δx ++ Δ) σ2 (us i Γ) → (∀ vs : List Nat, (∀ j ∈ js, j ∈ vs) → wipe σ2 vs = wipe σ vs) → K σ2 H2) → g x σ H' K
def EvI (c : Cn) (Γ : List Sl) (wi : TI) (g : TG) (n : Nat) (us : Nat → List Sl → List Sl) (js : List Nat) : Prop := ∀ B R0 R H ρ Δ σ, Sx c.Z B R0 R H ρ Δ σ Γ → ∀ K : It → Hp → Prop,
  (∀ J R' H' ρ' Δ', ρ'.length = Δ'.length → Sx c.Z B R0 R' H' (ρ' ++ ρ) (Δ' ++ Δ) σ Γ → ItOk c.Z B R0 (ρ' ++ ρ) (Δ' ++ Δ) J g n us js → K J H') → Xok c B R0 ρ Δ → wi σ H K
end TB

/-! TbR: the rules of the judgements. -/
namespace TB
open PySem L2
variable {c : Cn} {Γ : List Sl} {ta tb te tl : TE} {t u : TT} {s : Sl} {α β γ : Type} {_ : Rp α} {_ : Rp β} {_ : Rp γ}

/-- the item of a list at an int -/
def gt {α : Type} [Rp α] (xs : List α) (i : Int) : α := xs.getD i.toNat Rp.df
theorem gt_nat {α : Type} [Rp α] {xs : List α} {i : Nat} (h : i < xs.length) : gt xs (i : Int) = xs[i] := by simp [gt, h]
theorem gt_some {α : Type} [Rp α] {xs : List α} {i : Int} (h0 : 0 ≤ i) (h1 : i < xs.length) : xs[i.toNat]? = some (gt xs i) := by
  have : i.toNat < xs.length := by omega
  simp [gt, this]
theorem atI_of {α : Type} {xs : List α} {i : Int} {x : α} (h0 : 0 ≤ i) (h1 : i < xs.length) (e : xs[i.toNat]? = some x) : atI xs i = some x := by
  unfold atI ixN
  rw [if_pos h0, if_pos h1]
  exact e

/-! ### expressions -/
theorem Ev.weak (h : Ev c.no Γ te s) : Ev c Γ te s := fun B R0 R H ρ Δ σ S Q q _ => h B R0 R H ρ Δ σ S Q q (Xok.no c B R0 ρ Δ)
theorem EvT.weak {b : Bool} (h : EvT c.no Γ t b) : EvT c Γ t b := fun B R0 R H ρ Δ σ S Q q _ => h B R0 R H ρ Δ σ S Q q (Xok.no c B R0 ρ Δ)
theorem ev_is {s' : Sl} (h : Ev c Γ te s) (e : s = s') : Ev c Γ te s' := e ▸ h
theorem ev_to {d d' : α} (h : Ev c Γ te (.im d)) (e : d = d') : Ev c Γ te (.im d') := e ▸ h
theorem et_to {b b' : Bool} (h : EvT c Γ t b) (e : b = b') : EvT c Γ t b' := e ▸ h
theorem ev_var {i : Nat} {d : α} (e : Γ[i]? = some (.im d)) : Ev c Γ (tVar i) (.im d) := fun B R0 R H ρ Δ σ S Q q _ => by
  obtain ⟨v, h1, h2⟩ := sx_im S e
  exact ⟨v, h1, q v R H (sx_push S h2)⟩
theorem ev_int {i : Int} : Ev c Γ (tC (.int i)) (.im i) := fun B R0 R H ρ Δ σ S Q q _ => q _ R H (sx_push S rfl)
theorem ev_bl {b : Bool} : Ev c Γ (tC (.bl b)) (.im b) := fun B R0 R H ρ Δ σ S Q q _ => q _ R H (sx_push S rfl)
theorem ev_str {x : Str} : Ev c Γ (tC (.str x)) (.im x) := fun B R0 R H ρ Δ σ S Q q _ => q _ R H (sx_push S rfl)
theorem ev_non : Ev c Γ (tC .non) (.im ()) := fun B R0 R H ρ Δ σ S Q q _ => q _ R H (sx_push S rfl)
theorem ev_none : Ev c Γ (tC .non) (.im (none : Option α)) := fun B R0 R H ρ Δ σ S Q q _ => q _ R H (sx_push S rfl)
/-- data told as an optional datum -/
theorem ev_opt {d : α} (h : Ev c Γ te (.im d)) : Ev c Γ te (.im (some d)) := fun B R0 R H ρ Δ σ S Q q x => h B R0 R H ρ Δ σ S Q (fun v R' H' S' => q v R' H' (sx_push (sx_pop S') (sx_top' S'))) x
theorem ev_unopt {d : α} (h : Ev c Γ te (.im (some d))) : Ev c Γ te (.im d) := fun B R0 R H ρ Δ σ S Q q x => h B R0 R H ρ Δ σ S Q (fun v R' H' S' => q v R' H' (sx_push (sx_pop S') (show Rp.rp c.Z R' v d from sx_top' S'))) x
theorem ev_fr {xs : List α} (h : Ev c Γ te (.ol xs)) : Ev c Γ te (.im xs) := fun B R0 R H ρ Δ σ S Q q x => h B R0 R H ρ Δ σ S Q (fun v R' H' S' => by
  obtain ⟨R2, _, S2⟩ := sx_frTop S'
  exact q v R2 H' S2) x
theorem ev_op {r : R2} {x : α} {y : β} (ha : Ev c Γ ta (.im x)) (hb : Ev c Γ tb (.im y))
    (hr : ∀ B R0 R H ρ Δ σ v w, Sx c.Z B R0 R H ρ Δ σ Γ → Rp.rp c.Z R v x → Rp.rp c.Z R w y → ∀ Q : VK, (∀ z R' H', Sx c.Z B R0 R' H' (some z :: ρ) (s :: Δ) σ Γ → Q z H') → r v w H Q) : Ev c Γ (tOp r ta tb) s :=
  fun B R0 R H ρ Δ σ S Q q xk => ha B R0 R H ρ Δ σ S _ (fun v R1 H1 S1 => hb B R0 R1 H1 _ _ σ S1 _ (fun w R2 H2 S2 => hr B R0 R2 H2 ρ Δ σ v w (sx_pop (sx_pop S2)) (sx_top' (sx_pop S2)) (sx_top' S2) Q q) xk.push1) xk
/-- an operation on flat values -/
theorem ev_opv {r : R2} {x : α} {y : β} {z : γ} (ha : Ev c Γ ta (.im x)) (hb : Ev c Γ tb (.im y)) (hr : ∀ R H v w, Same R H → Rp.rp c.Z R v x → Rp.rp c.Z R w y → ∃ k, Rp.rp c.Z R k z ∧ ∀ Q : VK, Q k H → r v w H Q) : Ev c Γ (tOp r ta tb) (.im z) :=
  ev_op ha hb fun B R0 R H ρ Δ σ v w S rv rw Q q => by
    obtain ⟨k, h1, h2⟩ := hr R H v w (sx_same S) rv rw
    exact h2 Q (q k R H (sx_push S h1))
section
variable {i j : Int}
theorem ev_add (ha : Ev c Γ ta (.im i)) (hb : Ev c Γ tb (.im j)) : Ev c Γ (tOp gAdd ta tb) (.im (i + j)) := ev_opv ha hb fun R H v w _ rv rw => ⟨.int (i + j), rfl, fun Q q => .inl ⟨i, j, rv, rw, q⟩⟩
theorem ev_sub (ha : Ev c Γ ta (.im i)) (hb : Ev c Γ tb (.im j)) : Ev c Γ (tOp gMns ta tb) (.im (i - j)) := ev_opv ha hb fun R H v w _ rv rw => ⟨.int (i - j), rfl, fun Q q => ⟨i, j, rv, rw, q⟩⟩
theorem ev_mul (ha : Ev c Γ ta (.im i)) (hb : Ev c Γ tb (.im j)) (h : CMulW i j) : Ev c Γ (tOp gMul ta tb) (.im (i * j)) := ev_opv ha hb fun R H v w _ rv rw => ⟨.int (i * j), rfl, fun Q q => .inl ⟨i, j, rv, rw, h, q⟩⟩
theorem ev_mulS (ha : Ev c Γ ta (.im i)) (hb : Ev c Γ tb (.im j)) (h : CMul i j) : Ev c Γ (tOp gMul ta tb) (.im (i * j)) := ev_opv ha hb fun R H v w _ rv rw => ⟨.int (i * j), rfl, fun Q q => .inr (.inr ⟨i, j, rv, rw, h, q⟩)⟩
theorem ev_mod (ha : Ev c Γ ta (.im i)) (hb : Ev c Γ tb (.im j)) (h : 0 < j) : Ev c Γ (tOp gMod ta tb) (.im (i % j)) := ev_opv ha hb fun R H v w _ rv rw => ⟨.int (i % j), rfl, fun Q q => ⟨i, j, rv, rw, by omega, by show Q (.int (i.fmod j)) H; rw [Int.fmod_eq_emod_of_nonneg _ (by omega)]; exact q⟩⟩
theorem ev_div (ha : Ev c Γ ta (.im i)) (hb : Ev c Γ tb (.im j)) (h : 0 < j) (h2 : j < 1073741824) : Ev c Γ (tOp gDiv ta tb) (.im (i / j)) := ev_opv ha hb fun R H v w _ rv rw => ⟨.int (i / j), rfl, fun Q q => .inl ⟨i, j, rv, rw, ⟨by omega, by omega⟩, by show Q (.int (i.fdiv j)) H; rw [Int.fdiv_eq_ediv_of_nonneg _ (by omega)]; exact q⟩⟩
theorem ev_divW (ha : Ev c Γ ta (.im i)) (hb : Ev c Γ tb (.im j)) (h : CDivW i j) : Ev c Γ (tOp gDiv ta tb) (.im (i / j)) := ev_opv ha hb fun R H v w _ rv rw => ⟨.int (i / j), rfl, fun Q q => .inr ⟨i, j, rv, rw, h, q⟩⟩
theorem ev_pow (ha : Ev c Γ ta (.im i)) (hb : Ev c Γ tb (.im j)) (h : CPow i j) : Ev c Γ (tOp gPow ta tb) (.im (i ^ j.toNat)) := ev_opv ha hb fun R H v w _ rv rw => ⟨.int (i ^ j.toNat), rfl, fun Q q => ⟨i, j, rv, rw, h, q⟩⟩
theorem ev_lt (ha : Ev c Γ ta (.im i)) (hb : Ev c Γ tb (.im j)) : Ev c Γ (tOp gLt ta tb) (.im (decide (i < j))) := ev_opv ha hb fun R H v w _ rv rw => ⟨.bl _, rfl, fun Q q => ⟨i, j, rv, rw, q⟩⟩
theorem ev_le (ha : Ev c Γ ta (.im i)) (hb : Ev c Γ tb (.im j)) : Ev c Γ (tOp gLe ta tb) (.im (decide (i ≤ j))) := ev_opv ha hb fun R H v w _ rv rw => ⟨.bl _, rfl, fun Q q => ⟨i, j, rv, rw, q⟩⟩
theorem ev_gt (ha : Ev c Γ ta (.im i)) (hb : Ev c Γ tb (.im j)) : Ev c Γ (tOp gGt ta tb) (.im (decide (j < i))) := ev_opv ha hb fun R H v w _ rv rw => ⟨.bl _, rfl, fun Q q => ⟨i, j, rv, rw, q⟩⟩
theorem ev_ge (ha : Ev c Γ ta (.im i)) (hb : Ev c Γ tb (.im j)) : Ev c Γ (tOp gGe ta tb) (.im (decide (j ≤ i))) := ev_opv ha hb fun R H v w _ rv rw => ⟨.bl _, rfl, fun Q q => ⟨i, j, rv, rw, q⟩⟩
theorem int_eq_iff {i j : Int} : decide (V.int i = V.int j) = decide (i = j) := by
  by_cases h : i = j
  · subst h; simp
  · have : ¬ V.int i = V.int j := fun z => h (V.int.inj z)
    simp [h, this]
theorem ev_eqI (ha : Ev c Γ ta (.im i)) (hb : Ev c Γ tb (.im j)) : Ev c Γ (tOp (gEq c.Z.K) ta tb) (.im (decide (i = j))) := ev_opv ha hb fun R H v w _ rv rw => ⟨.bl _, rfl, fun Q q => by
  have rv' : v = .int i := rv
  have rw' : w = .int j := rw
  subst rv' rw'
  exact .inl ⟨rfl, by rw [int_eq_iff]; exact q⟩⟩
theorem ev_neI (ha : Ev c Γ ta (.im i)) (hb : Ev c Γ tb (.im j)) : Ev c Γ (tOp (gNe c.Z.K) ta tb) (.im (!decide (i = j))) := ev_opv ha hb fun R H v w _ rv rw => ⟨.bl _, rfl, fun Q q => by
  have rv' : v = .int i := rv
  have rw' : w = .int j := rw
  subst rv' rw'
  exact .inl ⟨rfl, by rw [int_eq_iff]; exact q⟩⟩
theorem ev_neg (ha : Ev c Γ ta (.im i)) : Ev c Γ (tUn uNeg ta) (.im (-i)) := fun B R0 R H ρ Δ σ S Q q xk => ha B R0 R H ρ Δ σ S _ (fun v R1 H1 S1 => by
  have rv : v = .int i := sx_top' S1
  exact ⟨i, rv, q _ R1 H1 (sx_push (sx_pop S1) rfl)⟩) xk
end
theorem ev_isN {d : α} (ha : Ev c Γ ta (.im d)) (b : Bool) (hb : ∀ R v, Rp.rp c.Z R v d → decide (v = .non) = b) : Ev c Γ (tOp gIs ta (tC .non)) (.im b) := fun B R0 R H ρ Δ σ S Q q xk => ha B R0 R H ρ Δ σ S _ (fun v R1 H1 S1 =>
  ⟨rfl, q _ R1 H1 (sx_push (sx_pop S1) (congrArg V.bl (hb R1 v (sx_top' S1))))⟩) xk
theorem ev_isNotN {d : α} (ha : Ev c Γ ta (.im d)) (b : Bool) (hb : ∀ R v, Rp.rp c.Z R v d → (!decide (v = .non)) = b) : Ev c Γ (tOp gIsNot ta (tC .non)) (.im b) := fun B R0 R H ρ Δ σ S Q q xk => ha B R0 R H ρ Δ σ S _ (fun v R1 H1 S1 =>
  ⟨rfl, q _ R1 H1 (sx_push (sx_pop S1) (congrArg V.bl (hb R1 v (sx_top' S1))))⟩) xk
/-! lists -/
theorem ev_ix {xs : List α} {i : Int} (ha : Ev c Γ ta (.im xs)) (hb : Ev c Γ tb (.im i)) (h0 : 0 ≤ i) (h1 : i < xs.length) : Ev c Γ (tOp (gIx c.Z.K) ta tb) (.im (gt xs i)) := ev_opv ha hb fun R H v w sm rv rw => by
  obtain ⟨a, vs, rfl, ha, hp⟩ := rv
  obtain ⟨k, hk, rk⟩ := paired_get hp (gt_some h0 h1)
  exact ⟨k, rk, fun Q q => .inl ⟨a, vs, i, k, rfl, rw, SqL.of (sm _ _ ha), atI_of h0 (by rw [Paired.length hp]; exact h1) hk, q⟩⟩
theorem ev_ixL {xs : List α} {i : Int} (ha : Ev c Γ ta (.im xs)) (hb : Ev c Γ tb (.im i)) (h0 : i = -1) (h1 : 0 < xs.length) : Ev c Γ (tOp (gIx c.Z.K) ta tb) (.im (gt xs ((xs.length : Int) - 1))) := ev_opv ha hb fun R H v w sm rv rw => by
  subst h0
  obtain ⟨a, vs, rfl, ha, hp⟩ := rv
  obtain ⟨k, hk, rk⟩ := paired_get hp (gt_some (xs := xs) (i := (xs.length : Int) - 1) (by omega) (by omega))
  have hl := Paired.length hp
  refine ⟨k, rk, fun Q q => .inl ⟨a, vs, -1, k, rfl, rw, SqL.of (sm _ _ ha), ?_, q⟩⟩
  unfold atI ixN
  rw [if_neg (by omega), if_pos (by omega)]
  rw [show (-1 + (vs.length : Int)).toNat = ((xs.length : Int) - 1).toNat by omega]
  exact hk
theorem ev_ix1 {p : α × β} (ha : Ev c Γ ta (.im p)) (hb : Ev c Γ tb (.im (0 : Int))) : Ev c Γ (tOp (gIx c.Z.K) ta tb) (.im p.1) := ev_opv ha hb fun R H v w sm rv rw => by
  obtain ⟨a, x, y, rfl, ha, hx, hy⟩ := rv
  exact ⟨x, hx, fun Q q => .inr (.inl ⟨a, [x, y], 0, x, rfl, rw, SqT.of (sm _ _ ha), rfl, q⟩)⟩
theorem ev_ix2 {p : α × β} (ha : Ev c Γ ta (.im p)) (hb : Ev c Γ tb (.im (1 : Int))) : Ev c Γ (tOp (gIx c.Z.K) ta tb) (.im p.2) := ev_opv ha hb fun R H v w sm rv rw => by
  obtain ⟨a, x, y, rfl, ha, hx, hy⟩ := rv
  exact ⟨y, hy, fun Q q => .inr (.inl ⟨a, [x, y], 1, y, rfl, rw, SqT.of (sm _ _ ha), rfl, q⟩)⟩
/-- an own list's item -/
theorem ev_ixO {xs : List α} {k : Nat} {i : Int} (e : Γ[k]? = some (.ol xs)) (hb : Ev c Γ tb (.im i)) (h0 : 0 ≤ i) (h1 : i < xs.length) : Ev c Γ (tOp (gIx c.Z.K) (tVar k) tb) (.im (gt xs i)) := fun B R0 R H ρ Δ σ S Q q xk => by
  obtain ⟨p, vs, h2, _⟩ := sx_mutl S e
  refine ⟨.ref p, h2, hb B R0 R H ρ Δ σ S _ (fun w R1 H1 S1 => ?_) xk⟩
  have rw' : w = .int i := sx_top' S1
  obtain ⟨p', vs', h2', h3, h4, _⟩ := sx_mutl (sx_pop S1) e
  have ep : p = p' := by
    rw [h2] at h2'
    cases h2'
    rfl
  subst ep
  obtain ⟨v, hv, rv⟩ := paired_get h4 (gt_some h0 h1)
  exact .inl ⟨p, vs', i, v, rfl, rw', SqL.of h3, atI_of h0 (by rw [Paired.length h4]; exact h1) hv, q v R1 H1 (sx_push (sx_pop S1) rv)⟩
theorem ev_ixOL {xs : List α} {k : Nat} {i : Int} (e : Γ[k]? = some (.ol xs)) (hb : Ev c Γ tb (.im i)) (h0 : i = -1) (h1 : 0 < xs.length) : Ev c Γ (tOp (gIx c.Z.K) (tVar k) tb) (.im (gt xs ((xs.length : Int) - 1))) := fun B R0 R H ρ Δ σ S Q q xk => by
  subst h0
  obtain ⟨p, vs, h2, _⟩ := sx_mutl S e
  refine ⟨.ref p, h2, hb B R0 R H ρ Δ σ S _ (fun w R1 H1 S1 => ?_) xk⟩
  have rw' : w = .int (-1) := sx_top' S1
  obtain ⟨p', vs', h2', h3, h4, _⟩ := sx_mutl (sx_pop S1) e
  have ep : p = p' := by
    rw [h2] at h2'
    cases h2'
    rfl
  subst ep
  obtain ⟨v, hv, rv⟩ := paired_get h4 (gt_some (xs := xs) (i := (xs.length : Int) - 1) (by omega) (by omega))
  have hl := Paired.length h4
  refine .inl ⟨p, vs', -1, v, rfl, rw', SqL.of h3, ?_, q v R1 H1 (sx_push (sx_pop S1) rv)⟩
  unfold atI ixN
  rw [if_neg (by omega), if_pos (by omega)]
  rw [show (-1 + (vs'.length : Int)).toNat = ((xs.length : Int) - 1).toNat by omega]
  exact hv
theorem ev_ixS {l : Scr} {i : Int} (ha : Ev c Γ ta (.im l)) (hb : Ev c Γ tb (.im i)) (h0 : 0 ≤ i) (h1 : i < l.l.length) : Ev c Γ (tOp (gIx c.Z.K) ta tb) (.im (gt l.l i)) := ev_opv ha hb fun R H v w sm rv rw => by
  obtain ⟨a, rfl, ha⟩ := rv
  refine ⟨.int (gt l.l i), rfl, fun Q q => .inl ⟨a, _, i, _, rfl, rw, sm.seq ha, atI_of h0 (by simpa using h1) ?_, q⟩⟩
  rw [List.getElem?_map, gt_some h0 h1]
  rfl
/-! tests -/
theorem et_test {b : Bool} (h : Ev c Γ te (.im b)) : EvT c Γ (tTest te) b := fun B R0 R H ρ Δ σ S Q q xk => h B R0 R H ρ Δ σ S _ (fun v R1 H1 S1 => ⟨b, sx_top' S1, q R1 H1 (sx_pop S1)⟩) xk
theorem et_B {b : Bool} (h : Ev c Γ te (.im b)) : EvT c Γ (tB te) b := fun B R0 R H ρ Δ σ S Q q xk => h B R0 R H ρ Δ σ S _ (fun v R1 H1 S1 => ⟨b, sx_top' S1, q R1 H1 (sx_pop S1)⟩) xk
theorem et_and {a b : Bool} (h1 : EvT c Γ t a) (h2 : a = true → EvT c Γ u b) : EvT c Γ (tAnd t u) (a && b) := fun B R0 R H ρ Δ σ S Q q xk => h1 B R0 R H ρ Δ σ S _ (fun R1 H1 S1 => by
  cases a with
  | true => exact h2 rfl B R0 R1 H1 ρ Δ σ S1 Q q xk
  | false => exact q R1 H1 S1) xk
theorem et_or {a b : Bool} (h1 : EvT c Γ t a) (h2 : a = false → EvT c Γ u b) : EvT c Γ (tOr t u) (a || b) := fun B R0 R H ρ Δ σ S Q q xk => h1 B R0 R H ρ Δ σ S _ (fun R1 H1 S1 => by
  cases a with
  | true => exact q R1 H1 S1
  | false => exact h2 rfl B R0 R1 H1 ρ Δ σ S1 Q q xk) xk
theorem et_not {a : Bool} (h1 : EvT c Γ t a) : EvT c Γ (tNot t) (!a) := fun B R0 R H ρ Δ σ S Q q xk => h1 B R0 R H ρ Δ σ S _ (fun R1 H1 S1 => q R1 H1 S1) xk
theorem et_yes : EvT c Γ tYes true := fun B R0 R H ρ Δ σ S Q q _ => q R H S
theorem ev_andV {a b : Bool} (h1 : Ev c Γ ta (.im a)) (h2 : a = true → Ev c Γ tb (.im b)) : Ev c Γ (tAndV ta tb) (.im (a && b)) := fun B R0 R H ρ Δ σ S Q q xk => h1 B R0 R H ρ Δ σ S _ (fun v R1 H1 S1 => ⟨a, sx_top' S1, by
  cases a with
  | true => exact h2 rfl B R0 R1 H1 ρ Δ σ (sx_pop S1) Q q xk
  | false => exact q _ R1 H1 (sx_push (sx_pop S1) rfl)⟩) xk
theorem ev_orV {a b : Bool} (h1 : Ev c Γ ta (.im a)) (h2 : a = false → Ev c Γ tb (.im b)) : Ev c Γ (tOrV ta tb) (.im (a || b)) := fun B R0 R H ρ Δ σ S Q q xk => h1 B R0 R H ρ Δ σ S _ (fun v R1 H1 S1 => ⟨a, sx_top' S1, by
  cases a with
  | true => exact q _ R1 H1 (sx_push (sx_pop S1) rfl)
  | false => exact h2 rfl B R0 R1 H1 ρ Δ σ (sx_pop S1) Q q xk⟩) xk
theorem ev_notV {a : Bool} (h1 : Ev c Γ ta (.im a)) : Ev c Γ (tNotV ta) (.im (!a)) := fun B R0 R H ρ Δ σ S Q q xk => h1 B R0 R H ρ Δ σ S _ (fun v R1 H1 S1 => ⟨a, sx_top' S1, q _ R1 H1 (sx_push (sx_pop S1) rfl)⟩) xk
/-! arguments, displays, calls -/
theorem slims_mono {Z : Zz} {R R' : Hp} (e : Same R R') {vs : List V} {ss : List Sl} (h : Slims Z R vs ss) : Slims Z R' vs ss := by
  induction h with
  | nil => exact .nil
  | cons r t ih => exact .cons (Rp.mono e r) ih
theorem ea_nil : EvA c Γ tNil [] := fun B R0 R H ρ Δ σ S Q q _ => q [] R H S .nil
theorem ea_cons {d : α} {tr : TA} {ss : List Sl} (h : Ev c Γ te (.im d)) (hr : EvA c Γ tr ss) : EvA c Γ (tCons te tr) (.im d :: ss) := fun B R0 R H ρ Δ σ S Q q xk => h B R0 R H ρ Δ σ S _ (fun v R1 H1 S1 =>
  hr B R0 R1 H1 _ _ σ S1 _ (fun vs R2 H2 S2 sl => q (v :: vs) R2 H2 (sx_pop S2) (.cons (sx_top' S2) sl)) xk.push1) xk
theorem slims_append {Z : Zz} {R : Hp} {vs ws : List V} {ss rs : List Sl} (h : Slims Z R vs ss) (h' : Slims Z R ws rs) : Slims Z R (vs ++ ws) (ss ++ rs) := by
  induction h with
  | nil => exact h'
  | cons r t ih => exact .cons r ih
theorem slims_list {Z : Zz} {R : Hp} : ∀ {xs : List α} {vs : List V}, Slims Z R vs (xs.map fun x => .im x) → Paired (Rp.rp Z R) vs xs
  | [], _, h => by cases h; exact .nil
  | x :: xs, _, h => by
    cases h with
    | cons r t => exact Paired.cons r (slims_list t)
/-- a written list, of like items -/
theorem ev_lst {t : TA} (xs : List α) (h : EvA c Γ t (xs.map fun x => .im x)) (hl : xs.length ≤ 1000) : Ev c Γ (tLst t) (.ol xs) := fun B R0 R H ρ Δ σ S Q q xk => h B R0 R H ρ Δ σ S _ (fun vs R1 H1 S1 sl => by
  have hp := slims_list sl
  refine ⟨Nat.le_of_lt (small1000 (by rw [Paired.length hp]; exact hl)), fun p np => q _ R1 _ (sx_newl S1 np hp)⟩) xk
theorem ev_nil {δ : Type} [Rp δ] : Ev c Γ (tLst tNil) (.ol ([] : List δ)) := ev_lst [] ea_nil (by simp)
theorem ev_tup {x : α} {y : β} (hx : Ev c Γ ta (.im x)) (hy : Ev c Γ tb (.im y)) : Ev c Γ (tTup (tCons ta (tCons tb tNil))) (.im (x, y)) := fun B R0 R H ρ Δ σ S Q q xk => (ea_cons hx (ea_cons hy ea_nil)) B R0 R H ρ Δ σ S _ (fun vs R1 H1 S1 sl => by
  cases sl with
  | cons r1 t1 =>
    cases t1 with
    | cons r2 t2 =>
      cases t2
      rename_i v1 v2
      refine ⟨by show 2 ≤ sizeLine; decide, fun p np => ?_⟩
      obtain ⟨S2, sr⟩ := sx_froz S1 np (.tup [v1, v2])
      exact q _ _ _ (sx_push S2 ⟨p, v1, v2, rfl, upd_same, Rp.mono sr r1, Rp.mono sr r2⟩)) xk
theorem ev_dict {δ : Type} [Rp δ] : Ev c Γ tDNewK (.od ([] : List (Int × δ))) := fun B R0 R H ρ Δ σ S Q q _ p np => q _ R _ (sx_newd S np)
/-- a built-in of one argument, its answer a datum -/
theorem ev_cb1 {r : List V → Hp → VK → Prop} {x : α} {z : γ} (ha : Ev c Γ ta (.im x)) (hr : ∀ R H v, Same R H → Rp.rp c.Z R v x → ∃ k, Rp.rp c.Z R k z ∧ ∀ Q : VK, Q k H → r [v] H Q) : Ev c Γ (tCB r (tCons ta tNil)) (.im z) :=
  fun B R0 R H ρ Δ σ S Q q xk => ha B R0 R H ρ Δ σ S _ (fun v R1 H1 S1 => by
    obtain ⟨k, h1, h2⟩ := hr R1 H1 v (sx_same S1) (sx_top' S1)
    exact h2 Q (q k R1 H1 (sx_push (sx_pop S1) h1))) xk
theorem ev_cb2 {r : List V → Hp → VK → Prop} {x : α} {y : β} {z : γ} (ha : Ev c Γ ta (.im x)) (hb : Ev c Γ tb (.im y)) (hr : ∀ R H v w, Same R H → Rp.rp c.Z R v x → Rp.rp c.Z R w y → ∃ k, Rp.rp c.Z R k z ∧ ∀ Q : VK, Q k H → r [v, w] H Q) : Ev c Γ (tCB r (tCons ta (tCons tb tNil))) (.im z) :=
  fun B R0 R H ρ Δ σ S Q q xk => ha B R0 R H ρ Δ σ S _ (fun v R1 H1 S1 => hb B R0 R1 H1 _ _ σ S1 _ (fun w R2 H2 S2 => by
    obtain ⟨k, h1, h2⟩ := hr R2 H2 v w (sx_same S2) (sx_top' (sx_pop S2)) (sx_top' S2)
    exact h2 Q (q k R2 H2 (sx_push (sx_pop (sx_pop S2)) h1))) xk.push1) xk
/-- .. its answer a new list -/
theorem ev_cbL {r : List V → Hp → VK → Prop} {x : α} {zs : List γ} (ha : Ev c Γ ta (.im x)) (hr : ∀ R H v, Same R H → Rp.rp c.Z R v x → ∀ Q : VK, (∀ ks p, Paired (Rp.rp c.Z R) ks zs → H p = none → Q (.ref p) (upd H p (.lst ks))) → r [v] H Q) : Ev c Γ (tCB r (tCons ta tNil)) (.ol zs) :=
  fun B R0 R H ρ Δ σ S Q q xk => ha B R0 R H ρ Δ σ S _ (fun v R1 H1 S1 => hr R1 H1 v (sx_same S1) (sx_top' S1) Q fun ks p hp np => q _ R1 _ (sx_newl (sx_pop S1) np hp)) xk
def gLen (K : PySem.W.Frag) : List V → Hp → VK → Prop := fun xs H Q => ∃ x n, xs = [x] ∧ LenV K x H n ∧ Q (.int n) H
def gList (K : PySem.W.Frag) : List V → Hp → VK → Prop := fun xs H Q => ∃ p ys, xs = [.ref p] ∧ (SqL K H p ys ∨ SqT K H p ys) ∧ ∀ l, H l = none → Q (.ref l) (upd H l (.lst ys))
theorem gc_len {X : Cx} : CallR X (.builtin "len") (gLen X.K) := call_len
theorem gc_list {X : Cx} : CallR X (.type "list") (gList X.K) := call_list_of
theorem ev_len {xs : List α} (ha : Ev c Γ ta (.im xs)) : Ev c Γ (tCB (gLen c.Z.K) (tCons ta tNil)) (.im (xs.length : Int)) := ev_cb1 ha fun R H v sm rv => by
  obtain ⟨a, vs, rfl, ha, hp⟩ := rv
  exact ⟨_, rfl, fun Q q => ⟨_, vs.length, rfl, .inl ⟨vs, SqL.of (sm _ _ ha), rfl⟩, by rw [Paired.length hp]; exact q⟩⟩
theorem ev_lenS {l : Scr} (ha : Ev c Γ ta (.im l)) : Ev c Γ (tCB (gLen c.Z.K) (tCons ta tNil)) (.im (l.l.length : Int)) := ev_cb1 ha fun R H v sm rv => by
  obtain ⟨a, rfl, ha⟩ := rv
  exact ⟨_, rfl, fun Q q => ⟨_, l.l.length, rfl, .inl ⟨_, sm.seq ha, by rw [List.length_map]⟩, q⟩⟩
theorem ev_lenO {xs : List α} {k : Nat} (e : Γ[k]? = some (.ol xs)) : Ev c Γ (tCB (gLen c.Z.K) (tCons (tVar k) tNil)) (.im (xs.length : Int)) := fun B R0 R H ρ Δ σ S Q q xk => by
  obtain ⟨p, vs, h2, h3, h4, _⟩ := sx_mutl S e
  exact ⟨.ref p, h2, _, vs.length, rfl, .inl ⟨vs, SqL.of h3, rfl⟩, q _ R H (sx_push S (by rw [Paired.length h4]; rfl))⟩
theorem ev_list {xs : List α} (ha : Ev c Γ ta (.im xs)) : Ev c Γ (tCB (gList c.Z.K) (tCons ta tNil)) (.ol xs) := ev_cbL ha fun R H v sm rv Q q => by
  obtain ⟨a, vs, rfl, ha, hp⟩ := rv
  exact ⟨a, vs, rfl, .inl (SqL.of (sm _ _ ha)), fun l hl => q vs l hp hl⟩
theorem ev_listO {xs : List α} {k : Nat} (e : Γ[k]? = some (.ol xs)) : Ev c Γ (tCB (gList c.Z.K) (tCons (tVar k) tNil)) (.ol xs) := fun B R0 R H ρ Δ σ S Q q xk => by
  obtain ⟨p, vs, h2, h3, h4, _⟩ := sx_mutl S e
  exact ⟨.ref p, h2, p, vs, rfl, .inl (SqL.of h3), fun l hl => q _ R _ (sx_newl S hl h4)⟩
theorem ev_all {bs : List Bool} {K : PySem.W.Frag} (hK : K = c.Z.K) (ha : Ev c Γ ta (.im bs)) : Ev c Γ (tCB (rAll K) (tCons ta tNil)) (.im (bs.all id)) := hK ▸ ev_cb1 ha fun R H v sm rv => by
  obtain ⟨a, vs, rfl, ha, hp⟩ := rv
  exact ⟨_, rfl, fun Q q => ⟨a, bs, rfl, SqL.of (paired_map_bl hp ▸ sm _ _ ha), q⟩⟩
theorem ev_any {bs : List Bool} {K : PySem.W.Frag} (hK : K = c.Z.K) (ha : Ev c Γ ta (.im bs)) : Ev c Γ (tCB (rAny K) (tCons ta tNil)) (.im (bs.any id)) := hK ▸ ev_cb1 ha fun R H v sm rv => by
  obtain ⟨a, vs, rfl, ha, hp⟩ := rv
  exact ⟨_, rfl, fun Q q => ⟨a, bs, rfl, SqL.of (paired_map_bl hp ▸ sm _ _ ha), q⟩⟩
/-! own defs: T tells, of arguments, what may come of them -/
abbrev Tm := List Sl → (Sl → Prop) → (Rf → Prop) → Prop
def spOf (Z : Zz) (T : Tm) : Sp := fun vs H Q E => ∃ R ss ok er, Same R H ∧ Slims Z R vs ss ∧ T ss ok er ∧
  (∀ v R' H' s, Sx Z H R R' H' [some v] [s] [] [] → ok s → Q v H') ∧ ∀ r cls d H', Same H H' → RepEx Z H H' r cls d → er r → E cls d H'
theorem sx_call {Z : Zz} {B R0 R R' H H' : Hp} {ρ : List (Option V)} {Δ : List Sl} {σ : List (Option V)} {v : V} {s : Sl} (S : Sx Z B R0 R H ρ Δ σ Γ) (S2 : Sx Z H R R' H' [some v] [s] [] []) : Sx Z B R0 R' H' (some v :: ρ) (s :: Δ) σ Γ := by
  obtain ⟨hl, own, hs, es⟩ := S
  obtain ⟨_, own2, hs2, f, g, rfl, h1, h2⟩ := S2
  have hg : g = [] := h2
  subst hg
  rw [List.append_nil] at hs2
  have key : ∀ p ∈ own, R' p = none ∧ H' p = H p ∧ p ∉ f := fun p hp => by
    have h3 := es_some es p hp
    have h4 := hs.ow p hp
    obtain ⟨o, ho⟩ : ∃ o, H p = some o := by
      cases e : H p with
      | none => exact absurd e h3
      | some o => exact ⟨o, rfl⟩
    refine ⟨?_, ?_, fun hf => ?_⟩
    · cases e : R' p with
      | none => rfl
      | some o2 =>
        rcases hs2.nw p o2 e with q | q
        · rw [h4.1] at q; cases q
        · exact absurd q h3
    · rw [ho, hs2.bh p o ho]
    · exact h3 (hs2.ow p hf).2
  refine ⟨by simp [hl], f ++ own, ⟨hs2.rh, hs.bh.trans hs2.bh, hs.r0.trans hs2.r0, fun b o e => ?_, fun p hp => ?_, ?_⟩, f, own, rfl, h1, es_mono hs2.r0 (fun p hp => (key p hp).2.1) es⟩
  · rcases hs2.nw b o e with q | q
    · exact hs.nw b o q
    · exact .inr (hs.bh.free q)
  · rcases List.mem_append.mp hp with q | q
    · exact ⟨(hs2.ow p q).1, hs.bh.free (hs2.ow p q).2⟩
    · exact ⟨(key p q).1, (hs.ow p q).2⟩
  · rw [List.nodup_append]
    exact ⟨hs2.nd, hs.nd, fun a ha b hb e => (key b hb).2.2 (e ▸ ha)⟩
theorem sx_same_call {Z : Zz} {B R0 R H H' : Hp} {ρ : List (Option V)} {Δ : List Sl} {σ : List (Option V)} (S : Sx Z B R0 R H ρ Δ σ Γ) (e : Same H H') : Sx Z B R0 R H' ρ Δ σ Γ := by
  obtain ⟨hl, own, hs, es⟩ := S
  refine ⟨hl, own, ⟨hs.rh.trans e, hs.bh.trans e, hs.r0, hs.nw, hs.ow, hs.nd⟩, es_mono (Same.refl _) (fun p hp => ?_) es⟩
  cases q : H p with
  | none => exact absurd q (es_some es p hp)
  | some o => exact e p o q
/-- a call's refusal, its dict frozen -/
theorem sx_callX {Z : Zz} {B R0 R H H' : Hp} {ρ : List (Option V)} {Δ : List Sl} {σ : List (Option V)} {r : Rf} {cls : Value} {d : Option Addr} (S : Sx Z B R0 R H ρ Δ σ Γ) (e : Same H H') (rx : RepEx Z H H' r cls d) : ∃ R', Same R R' ∧ Sx Z B R0 R' H' ρ Δ σ Γ ∧ RepEx Z B R' r cls d := by
  obtain ⟨h1, h2 | ⟨h2, dx, h3, h4, h5⟩⟩ := rx
  · exact ⟨R, Same.refl _, sx_same_call S e, h1, .inl h2⟩
  · have hr := (sx_same S).free h4
    refine ⟨upd R dx (.xd r.fs), same_upd hr, sx_pop (sx_call S (s := .un) (v := .non) ⟨rfl, [], ⟨fun b o q => ?_, e, same_upd hr, fun b o q => ?_, fun p hp => by simp at hp, List.nodup_nil⟩, [], [], rfl, rfl, rfl⟩), h1, .inr ⟨h2, dx, h3, (sx_base S).free h4, upd_same⟩⟩
    · by_cases c : b = dx
      · subst c
        rw [upd_same] at q
        rw [h5]
        exact q
      · rw [upd_ne c] at q
        exact e _ _ (sx_same S _ _ q)
    · by_cases c : b = dx
      · subst c
        exact .inr h4
      · rw [upd_ne c] at q
        exact .inl q
theorem ev_call {T : Tm} {dvs : List V} {ds : List Sl} {t : TA} {ss : List Sl} (ha : EvA c Γ t ss) (hd : ∀ R, Slims c.Z R dvs ds) (hT : T (ss ++ ds) (fun s' => s' = s) fun r => c.ex r Γ) : Ev c Γ (tCallSD (spOf c.Z T) dvs (WE c.X) t) s := fun B R0 R H ρ Δ σ S Q q xk => ha B R0 R H ρ Δ σ S _ (fun vs R1 H1 S1 sl => by
  refine ⟨R1, ss ++ ds, _, _, sx_same S1, slims_append sl (hd R1), hT, fun v R' H' s' S' e => ?_, fun r cls d H' e rx er => ?_⟩
  · subst e
    exact q v R' H' (sx_call S1 S')
  · obtain ⟨R2, _, S2, rx2⟩ := sx_callX S1 e rx
    exact xk R2 H' σ Γ r cls d S2 rx2 er) xk
/-- a call that raises nothing, within a comprehension -/
theorem ev_call0 {T : Tm} {dvs : List V} {ds : List Sl} {t : TA} {ss : List Sl} (ha : EvA c Γ t ss) (hd : ∀ R, Slims c.Z R dvs ds) (hT : T (ss ++ ds) (fun s' => s' = s) fun _ => False) : Ev c Γ (tCall (spOf c.Z T) dvs E0 t) s := fun B R0 R H ρ Δ σ S Q q xk => ha B R0 R H ρ Δ σ S _ (fun vs R1 H1 S1 sl => by
  refine ⟨R1, ss ++ ds, _, _, sx_same S1, slims_append sl (hd R1), hT, fun v R' H' s' S' e => ?_, fun r cls d H' e rx er => er.elim⟩
  · subst e
    exact q v R' H' (sx_call S1 S')) xk
/-- what a def's body must show -/
theorem spOf_run {Z : Zz} {T : Tm} {N : List Str} {t : XK → TS} (hN : ∀ ss ok er, T ss ok er → ss.length ≤ N.length)
    (h : ∀ E ss ok er, T ss ok er → W ⟨Z, fun cls d _ H => E cls d H, fun r _ => er r⟩ (ss ++ List.replicate (N.length - ss.length) .un) (t E) ⟨fun _ => ok (.im ()), ok, fun _ => False, fun _ => False⟩)
    (vs : List V) (H : Hp) (Q : VK) (E : XK) (hs : spOf Z T vs H Q E) : t E { nx := fun _ H' => Q .non H', rt := Q } (L2.start N vs) H := by
  obtain ⟨R, ss, ok, er, sm, sl, hT, kq, ke⟩ := hs
  have es0 : ∀ (n : Nat), Es Z R H (List.replicate n none) (List.replicate n .un) [] := fun n => by
    induction n with
    | zero => exact rfl
    | succ n ih => exact ⟨[], [], rfl, rfl, ih⟩
  have hlen : vs.length = ss.length := by
    clear hT kq
    induction sl with
    | nil => rfl
    | cons r t ih => simp [ih]
  have es : Es Z R H (L2.start N vs) (ss ++ List.replicate (N.length - ss.length) .un) [] := by
    unfold L2.start
    rw [hlen]
    generalize N.length - ss.length = n
    clear hT kq hlen
    induction sl with
    | nil => exact es0 n
    | cons r t ih => exact ⟨[], [], rfl, ⟨rfl, _, rfl, r⟩, ih⟩
  refine h E ss ok er hT H R R H [] [] (L2.start N vs) _ ⟨rfl, [], ⟨sm, Same.refl _, Same.refl _, fun b o e => .inl e, fun p hp => by simp at hp, List.nodup_nil⟩, es⟩ (fun R' H' σ' Γ' S' ok' => ?_) (fun R' H' v s S' ok' => kq v R' H' s S' ok') (fun _ _ _ _ _ z => z.elim) (fun _ _ _ _ _ z => z.elim) (fun R' H' σ' Γ' r cls d S' rx er' => ?_)
  · exact kq .non R' H' (.im ()) (sx_push (sx_leave S') rfl) ok'
  · exact ke r cls d H' (sx_base S') (rx.mono (sx_same S')) er'
end TB

/-! TbS: the rules of statements, walks and comprehensions. -/
namespace TB
open PySem L2
variable {c : Cn} {Γ : List Sl} {ta tb te tl : TE} {tt tc : TT} {t u : TS} {s : Sl} {α β γ : Type} {_ : Rp α} {_ : Rp β} {_ : Rp γ} {P P' : Po}

theorem W.imp (h : W c Γ t P) (h1 : ∀ G, P.nx G → P'.nx G) (h2 : ∀ s, P.rt s → P'.rt s) (h3 : ∀ G, P.bk G → P'.bk G) (h4 : ∀ G, P.ct G → P'.ct G) : W c Γ t P' := fun B R0 R H ρ Δ σ D S n r b k x =>
  h B R0 R H ρ Δ σ D S (fun R' H' σ' Γ' S' q => n R' H' σ' Γ' S' (h1 _ q)) (fun R' H' v s S' q => r R' H' v s S' (h2 _ q)) (fun R' H' σ' Γ' S' q => b R' H' σ' Γ' S' (h3 _ q)) (fun R' H' σ' Γ' S' q => k R' H' σ' Γ' S' (h4 _ q)) x
theorem w_seq (h : W c Γ t ⟨fun G => W c G u P, P.rt, P.bk, P.ct⟩) : W c Γ (tSeq t u) P := fun B R0 R H ρ Δ σ D S n r b k x =>
  h B R0 R H ρ Δ σ { D with nx := u D } S (fun R' H' σ' Γ' S' q => q B R0 R' H' ρ Δ σ' D S' n r b k x) r b k x
theorem w_asg {i : Nat} (h : Ev c Γ te s) (k : P.nx (Γ.set i s)) : W c Γ (tAsg te (gName i)) P := fun B R0 R H ρ Δ σ D S n r b kk x =>
  h B R0 R H ρ Δ σ S _ (fun v R1 H1 S1 => n R1 H1 _ _ (sx_asg S1 i) k) x
theorem w_if {b : Bool} (h : EvT c Γ tc b) (h1 : b = true → W c Γ t P) (h2 : b = false → W c Γ u P) : W c Γ (tIfS tc t u) P := fun B R0 R H ρ Δ σ D S n r bk kk x =>
  h B R0 R H ρ Δ σ S _ (fun R1 H1 S1 => by
    cases b with
    | true => exact h1 rfl B R0 R1 H1 ρ Δ σ D S1 n r bk kk x
    | false => exact h2 rfl B R0 R1 H1 ρ Δ σ D S1 n r bk kk x) x
theorem w_ret (h : Ev c Γ te s) (k : P.rt s) : W c Γ (tRet te) P := fun B R0 R H ρ Δ σ D S n r b kk x =>
  h B R0 R H ρ Δ σ S _ (fun v R1 H1 S1 => r R1 H1 v s (sx_leave S1) k) x
theorem w_retN (k : P.rt (.im ())) : W c Γ tRetN P := fun B R0 R H ρ Δ σ D S n r b kk x => r R H .non _ (sx_push (sx_leave S) rfl) k
theorem w_drop (h : Ev c Γ te s) (k : P.nx Γ) : W c Γ (tDrop te) P := fun B R0 R H ρ Δ σ D S n r b kk x =>
  h B R0 R H ρ Δ σ S _ (fun v R1 H1 S1 => n R1 H1 _ _ (sx_pop S1) k) x
theorem w_next (k : P.nx Γ) : W c Γ tNext P := fun B R0 R H ρ Δ σ D S n r b kk x => n R H σ Γ S k
theorem w_break (k : P.bk Γ) : W c Γ tBreak P := fun B R0 R H ρ Δ σ D S n r b kk x => b R H σ Γ S k
theorem w_cont (k : P.ct Γ) : W c Γ tCont P := fun B R0 R H ρ Δ σ D S n r b kk x => kk R H σ Γ S k
/-- slot i, an own list, is frozen from here on; a slot is forgotten -/
theorem w_fr {xs : List α} (i : Nat) (e : Γ[i]? = some (.ol xs)) (h : W c (Γ.set i (.im xs)) t P) : W c Γ t P := fun B R0 R H ρ Δ σ D S n r b kk x => by
  obtain ⟨R', _, S'⟩ := sx_frl S e
  exact h B R0 R' H ρ Δ σ D S' n r b kk x
theorem w_un (i : Nat) (h : W c (Γ.set i .un) t P) : W c Γ t P := fun B R0 R H ρ Δ σ D S n r b kk x => h B R0 R H ρ Δ σ D (sx_forget S i) n r b kk x
/-- the slots' data, told otherwise -/
theorem w_eq {Γ' : List Sl} (e : Γ = Γ') (h : W c Γ' t P) : W c Γ t P := e ▸ h
theorem w_aug {i : Nat} {f : Int → Int → Int} {a b : Int} (e : Γ[i]? = some (.im a)) (h : Ev c Γ te (.im b)) (k : P.nx (Γ.set i (.im (f a b)))) : W c Γ (tAug i te (ipI f)) P := fun B R0 R H ρ Δ σ D S n r bb kk x => by
  obtain ⟨v, h1, h2⟩ := sx_im S e
  refine ⟨v, h1, h B R0 R H ρ Δ σ S _ (fun w R1 H1 S1 => ?_) x⟩
  have e2 : w = .int b := sx_top' S1
  exact ⟨a, b, h2, e2, n R1 H1 _ _ (sx_asg (sx_push (sx_pop S1) (show Rp.rp c.Z R1 (.int (f a b)) (f a b) from rfl)) i) k⟩
/-! own lists -/
theorem tyL {K : PySem.W.Frag} {H : Hp} {p : Addr} {vs : List V} (h : H p = some (.lst vs)) : tyV K "list" (.ref p) H := .inl ⟨rfl, vs, SqL.of h⟩
theorem w_app {i : Nat} {xs : List α} {y : α} (e : Γ[i]? = some (.ol xs)) (h : Ev c Γ te (.im y)) (hl : xs.length < 1000000) (k : P.nx (Γ.set i (.ol (xs ++ [y])))) : W c Γ (tDrop (tBM c.Z.K "list" rAppend (tVar i) (tCons te tNil))) P := fun B R0 R H ρ Δ σ D S n r bb kk x => by
  obtain ⟨p, vs, h2, h3, h4, _⟩ := sx_mutl S e
  refine ⟨.ref p, h2, tyL h3, h B R0 R H ρ Δ σ S _ (fun w R1 H1 S1 => ?_) x⟩
  obtain ⟨p', vs', h2', h3', h4', h5⟩ := sx_mutl (sx_pop S1) e
  have ep : p = p' := by
    rw [h2] at h2'
    cases h2'
    rfl
  subst ep
  have hl' := Paired.length h4'
  refine ⟨p, vs', w, rfl, rfl, h3', Nat.lt_of_lt_of_le (by omega : vs'.length < 1000000) (by decide), n R1 _ _ _ (h5 (vs' ++ [w]) (xs ++ [y]) (paired_append h4' (.cons (sx_top' S1) .nil))) k⟩
theorem ixN_of {n : Nat} {i : Int} (h0 : 0 ≤ i) (h1 : i < n) : ixN n i = some i.toNat := by
  unfold ixN
  rw [if_pos h0, if_pos h1]
/-- xs[i] = y -/
theorem w_put {k : Nat} {xs : List α} {y : α} {i : Int} (e : Γ[k]? = some (.ol xs)) (h : Ev c Γ te (.im y)) (hi : Ev c Γ tb (.im i)) (h0 : 0 ≤ i) (h1 : i < xs.length) (kk : P.nx (Γ.set k (.ol (xs.set i.toNat y)))) : W c Γ (tAsg te (gSub (tVar k) tb rSetL)) P := fun B R0 R H ρ Δ σ D S n r bb kk' x =>
  h B R0 R H ρ Δ σ S _ (fun w R1 H1 S1 => by
    obtain ⟨p, vs, h2, h3, h4, _⟩ := sx_mutl (sx_pop S1) e
    refine ⟨.ref p, h2, hi B R0 R1 H1 _ _ σ S1 _ (fun z R2 H2 S2 => ?_) x.push1⟩
    have ez : z = .int i := sx_top' S2
    obtain ⟨p', vs', h2', h3', h4', h5⟩ := sx_mutl (sx_pop (sx_pop S2)) e
    have ep : p = p' := by
      rw [h2] at h2'
      cases h2'
      rfl
    subst ep
    exact ⟨p, vs', i, i.toNat, rfl, ez, h3', ixN_of h0 (by rw [Paired.length h4']; exact h1), n R2 _ _ _ (h5 _ _ (paired_set (sx_top' (sx_pop S2)) _ h4')) kk⟩) x
/-- xs[i] op= y -/
theorem w_augs {k : Nat} {xs : List Int} {y : Int} {i : Int} {f : Int → Int → Int} {K : PySem.W.Frag} {tget : V → V → Hp → VK → Prop} (hg : ∀ x y H Q, rIxL c.Z.K x y H Q → tget x y H Q) (e : Γ[k]? = some (.ol xs)) (hi : Ev c Γ tb (.im i)) (h : Ev c Γ te (.im y)) (h0 : 0 ≤ i) (h1 : i < xs.length)
    (kk : P.nx (Γ.set k (.ol (xs.set i.toNat (f (gt xs i) y))))) : W c Γ (tAugS (tVar k) tb te tget (ipI f) rSetL) P := fun B R0 R H ρ Δ σ D S n r bb kk' x => by
  obtain ⟨p, vs, h2, _⟩ := sx_mutl S e
  refine ⟨.ref p, h2, hi B R0 R H ρ Δ σ S _ (fun z R1 H1 S1 => ?_) x⟩
  have ez : z = .int i := sx_top' S1
  obtain ⟨p', vs', h2', h3', h4', _⟩ := sx_mutl (sx_pop S1) e
  have ep : p = p' := by
    rw [h2] at h2'
    cases h2'
    rfl
  subst ep
  obtain ⟨v, hv, rv⟩ := paired_get h4' (gt_some h0 h1)
  have rv' : v = .int (gt xs i) := rv
  refine hg _ _ _ _ ⟨p, vs', i, v, rfl, ez, SqL.of h3', atI_of h0 (by rw [Paired.length h4']; exact h1) hv, h B R0 R1 H1 _ _ σ S1 _ (fun w R2 H2 S2 => ?_) x.push1⟩
  have ew : w = .int y := sx_top' S2
  refine ⟨gt xs i, y, rv', ew, ?_⟩
  obtain ⟨p2, vs2, g2, g3, g4, g5⟩ := sx_mutl (sx_pop (sx_pop S2)) e
  have ep : p = p2 := by
    rw [h2] at g2
    cases g2
    rfl
  subst ep
  exact ⟨p, vs2, i, i.toNat, rfl, ez, g3, ixN_of h0 (by rw [Paired.length g4]; exact h1), n R2 _ _ _ (g5 _ _ (paired_set (show Rp.rp c.Z R2 (V.int (f (gt xs i) y)) (f (gt xs i) y) from rfl) _ g4)) kk⟩
/-! walks -/
theorem wipe_set {σ : St} {j : Nat} {v : Option V} {vs : List Nat} (h : j ∈ vs) : wipe (σ.set j v) vs = wipe σ vs := by
  have key : ∀ (vs : List Nat) (i : Nat), (wipe (σ.set j v) vs)[i]? = if i ∈ vs then (if i < σ.length then some none else none) else (σ.set j v)[i]? := by
    intro vs
    induction vs with
    | nil => intro i; simp [wipe]
    | cons a r ih =>
      intro i
      unfold wipe
      rw [List.getElem?_set, wipe_length, List.length_set, ih]
      by_cases h1 : a = i
      · subst h1; simp
      · have : i ≠ a := fun e => h1 e.symm
        simp [h1, this]
  have key2 : ∀ (vs : List Nat) (i : Nat), (wipe σ vs)[i]? = if i ∈ vs then (if i < σ.length then some none else none) else σ[i]? := by
    intro vs
    induction vs with
    | nil => intro i; simp [wipe]
    | cons a r ih =>
      intro i
      unfold wipe
      rw [List.getElem?_set, wipe_length, ih]
      by_cases h1 : a = i
      · subst h1; simp
      · have : i ≠ a := fun e => h1 e.symm
        simp [h1, this]
  apply List.ext_getElem?
  intro i
  rw [key, key2]
  by_cases hi : i ∈ vs
  · simp [hi]
  · have : j ≠ i := fun e => hi (e ▸ h)
    simp [hi, List.getElem?_set, this]
theorem wipeG_len (Γ : List Sl) : ∀ vs : List Nat, (wipeG Γ vs).length = Γ.length
  | [] => rfl
  | v :: vs => by unfold wipeG; rw [List.length_set, wipeG_len Γ vs]
theorem wipeG_get (Γ : List Sl) : ∀ (vs : List Nat) (i : Nat), (wipeG Γ vs)[i]? = if i ∈ vs then (if i < Γ.length then some .un else none) else Γ[i]? := by
  intro vs
  induction vs with
  | nil => intro i; simp [wipeG]
  | cons a r ih =>
    intro i
    unfold wipeG
    rw [List.getElem?_set, wipeG_len, ih]
    by_cases h1 : a = i
    · subst h1; simp
    · have : i ≠ a := fun e => h1 e.symm
      simp [h1, this]
theorem wipeG_set {Γ : List Sl} {j : Nat} {v : Sl} {vs : List Nat} (h : j ∈ vs) : wipeG (Γ.set j v) vs = wipeG Γ vs := by
  apply List.ext_getElem?
  intro i
  rw [wipeG_get, wipeG_get, List.length_set]
  by_cases hi : i ∈ vs
  · simp [hi]
  · have : j ≠ i := fun e => hi (e ▸ h)
    simp [hi, List.getElem?_set, this]
theorem unAt_mem {Γ : List Sl} : ∀ {vs : List Nat}, UnAt Γ vs → ∀ v ∈ vs, Γ[v]? = some .un ∨ Γ.length ≤ v
  | [], _, v, hv => by simp at hv
  | a :: r, h, v, hv => by
    rcases List.mem_cons.mp hv with e | e
    · rw [e]; exact h.1
    · exact unAt_mem h.2 v e
theorem wipeG_un {Γ : List Sl} {vs : List Nat} (h : UnAt Γ vs) : wipeG Γ vs = Γ := by
  apply List.ext_getElem?
  intro i
  rw [wipeG_get]
  by_cases hi : i ∈ vs
  · rw [if_pos hi]
    rcases unAt_mem h i hi with e | e
    · rw [e, if_pos (by obtain ⟨h, _⟩ := List.getElem?_eq_some_iff.mp e; exact h)]
    · rw [if_neg (by omega), List.getElem?_eq_none e]
  · rw [if_neg hi]
theorem wipe_wipe (σ : St) (vs : List Nat) : wipe (wipe σ vs) vs = wipe σ vs := by
  have key : ∀ (us : List Nat), (∀ u ∈ us, u ∈ vs) → wipe (wipe σ us) vs = wipe σ vs := by
    intro us
    induction us with
    | nil => intro _; rfl
    | cons a r ih =>
      intro h
      show wipe ((wipe σ r).set a none) vs = wipe σ vs
      rw [wipe_set (h a List.mem_cons_self)]
      exact ih fun u hu => h u (List.mem_cons_of_mem _ hu)
  exact key vs fun _ h => h
theorem sx_unwipe {Z : Zz} {B R0 R H : Hp} {ρ : List (Option V)} {Δ : List Sl} {σ : List (Option V)} : ∀ {vs : List Nat}, UnAt Γ vs → Sx Z B R0 R H ρ Δ (wipe σ vs) Γ → Sx Z B R0 R H ρ Δ σ Γ
  | [], _, S => S
  | v :: vs, h, S => by
    refine sx_unwipe h.2 ?_
    have S' : Sx Z B R0 R H ρ Δ ((wipe σ vs).set v none) Γ := S
    have e3 : Γ.set v .un = Γ := by
      apply List.ext_getElem?
      intro i
      rw [List.getElem?_set]
      by_cases hi : v = i
      · subst hi
        rcases h.1 with e | e
        · rw [if_pos rfl, e, if_pos (by obtain ⟨h, _⟩ := List.getElem?_eq_some_iff.mp e; exact h)]
        · rw [if_pos rfl, if_neg (by omega), List.getElem?_eq_none e]
      · rw [if_neg hi]
    by_cases hv : v < (wipe σ vs).length
    · have q := sx_forgets S' v (wipe σ vs)[v]
      rw [e3, List.set_set, List.set_getElem_self] at q
      exact q
    · rw [List.set_eq_of_length_le (by omega)] at S'
      exact S'
theorem wipe_some' {σ : St} {i : Nat} {x : Option V} {vs : List Nat} (h : i ∉ vs) (e : σ[i]? = some x) : (wipe σ vs)[i]? = some x := by
  induction vs with
  | nil => exact e
  | cons a r ih =>
    unfold wipe
    have h1 : a ≠ i := fun z => h (z ▸ List.mem_cons_self)
    rw [List.getElem?_set, if_neg h1]
    exact ih fun z => h (List.mem_cons_of_mem _ z)
/-- over a list of data -/
theorem ei_list {xs : List α} {j : Nat} (h : Ev c Γ tl (.im xs)) : EvI c Γ (iList c.Z.K tl) (gName j) xs.length (fun i G => G.set j (.im (xs.getD i Rp.df))) [j] := fun B R0 R H ρ Δ σ S K k x =>
  h B R0 R H ρ Δ σ S _ (fun v R1 H1 S1 => by
    have rv := sx_top' S1
    obtain ⟨a, vs, rfl, ha, hp⟩ := id rv
    refine ⟨a, rfl, ⟨vs, SqL.of (sx_same S1 _ _ ha)⟩, k (Itl c.Z.K a) R1 H1 [some (.ref a)] [.im xs] rfl S1 ⟨fun i G vs3 hj => wipeG_set (hj j (by simp)), fun {R2 H2 ρx Δx σ2 Γ2 i} hx S2 hi => ?_, fun {R2 H2 ρx Δx σ2 Γ2} hx S2 => ?_, fun {R2 H2 ρx Δx σ2 Γ2 i y H'} hx S2 hi hy K' kk => ?_⟩⟩
    · obtain ⟨a2, vs2, e2, ha2, hp2⟩ := sx_top' (sx_drop hx S2)
      cases e2
      obtain ⟨w, hw, _⟩ := paired_get hp2 (b := xs[i]) (i := i) (by simp [hi])
      exact ⟨vs2, w, SqL.of (sx_same S2 _ _ ha2), hw⟩
    · obtain ⟨a2, vs2, e2, ha2, hp2⟩ := sx_top' (sx_drop hx S2)
      cases e2
      exact ⟨vs2, SqL.of (sx_same S2 _ _ ha2), by rw [Paired.length hp2]; exact Nat.le_refl _⟩
    · obtain ⟨a2, vs2, e2, ha2, hp2⟩ := sx_top' (sx_drop hx S2)
      cases e2
      obtain ⟨eH, hy⟩ := hy
      subst eH
      have hy' := hy vs2 (SqL.of (sx_same S2 _ _ ha2))
      obtain ⟨b, hb, rb⟩ := paired_getL hp2 hy'
      refine kk R2 _ H' (sx_asg (sx_push S2 (d := xs.getD i Rp.df) ?_) j) fun vs3 hj => wipe_set (hj j (by simp))
      have : xs.getD i Rp.df = b := by rw [List.getD_eq_getElem?_getD, hb]; rfl
      rw [this]
      exact rb) x
/-- over the script -/
theorem ei_scr {l : Scr} {j : Nat} (h : Ev c Γ tl (.im l)) : EvI c Γ (iList c.Z.K tl) (gName j) l.l.length (fun i G => G.set j (.im (l.l.getD i 0))) [j] := fun B R0 R H ρ Δ σ S K k x =>
  h B R0 R H ρ Δ σ S _ (fun v R1 H1 S1 => by
    have rv := sx_top' S1
    obtain ⟨a, rfl, ha⟩ := id rv
    refine ⟨a, rfl, ⟨_, (sx_same S1).seq ha⟩, k (Itl c.Z.K a) R1 H1 [some (.ref a)] [.im l] rfl S1 ⟨fun i G vs3 hj => wipeG_set (hj j (by simp)), fun {R2 H2 ρx Δx σ2 Γ2 i} hx S2 hi => ?_, fun {R2 H2 ρx Δx σ2 Γ2} hx S2 => ?_, fun {R2 H2 ρx Δx σ2 Γ2 i y H'} hx S2 hi hy K' kk => ?_⟩⟩
    · obtain ⟨a2, e2, ha2⟩ := sx_top' (sx_drop hx S2)
      cases e2
      exact ⟨_, .int l.l[i], (sx_same S2).seq ha2, by simp [hi]⟩
    · obtain ⟨a2, e2, ha2⟩ := sx_top' (sx_drop hx S2)
      cases e2
      exact ⟨_, (sx_same S2).seq ha2, by simp⟩
    · obtain ⟨a2, e2, ha2⟩ := sx_top' (sx_drop hx S2)
      cases e2
      obtain ⟨eH, hy⟩ := hy
      subst eH
      have hy' := hy _ ((sx_same S2).seq ha2)
      refine kk R2 _ H' (sx_asg (sx_push S2 (d := l.l.getD i 0) ?_) j) fun vs3 hj => wipe_set (hj j (by simp))
      rw [List.getElem?_map] at hy'
      show y = V.int (l.l.getD i 0)
      have e3 : l.l[i]? = some l.l[i] := by simp [hi]
      rw [e3] at hy'
      rw [List.getD_eq_getElem?_getD, e3]
      exact (Option.some.inj hy').symm) x
theorem ei_rng1 {j : Nat} {n : Int} (h : Ev c Γ te (.im n)) (hn : n < 2 ^ 60) (hn0 : -(2 ^ 60) < n) : EvI c Γ (iRng1 (tCons te tNil)) (gName j) n.toNat (fun i G => G.set j (.im (i : Int))) [j] := fun B R0 R H ρ Δ σ S K k x =>
  h B R0 R H ρ Δ σ S _ (fun v R1 H1 S1 => by
    have rv : v = .int n := sx_top' S1
    subst rv
    refine ⟨n, rfl, by omega, by omega, k (Itr 0 n.toNat) R1 H1 [] [] rfl (sx_pop S1) ⟨fun i G vs3 hj => wipeG_set (hj j (by simp)), fun _ _ hi => hi, fun _ _ => Nat.le_refl _, fun {R2 H2 ρx Δx σ2 Γ2 i y H'} hx S2 hi hy K' kk => ?_⟩⟩
    obtain ⟨rfl, rfl⟩ := hy
    exact kk R2 _ _ (sx_asg (sx_push S2 (show Rp.rp c.Z R2 (V.int (0 + (i : Int))) (i : Int) by rw [Int.zero_add]; rfl)) j) fun vs3 hj => wipe_set (hj j (by simp))) x
theorem ei_rng2 {j : Nat} {m n : Int} (h1 : Ev c Γ ta (.im m)) (h : Ev c Γ te (.im n)) (hm : -(2 ^ 60) < m ∧ m < 2 ^ 60) (hn : n < 2 ^ 60 ∧ -(2 ^ 60) < n) : EvI c Γ (iRng2 (tCons ta (tCons te tNil))) (gName j) (n - m).toNat (fun i G => G.set j (.im (m + (i : Int)))) [j] := fun B R0 R H ρ Δ σ S K k x =>
  h1 B R0 R H ρ Δ σ S _ (fun v0 R1 H1 S1 => h B R0 R1 H1 _ _ σ S1 _ (fun v R2 H2 S2 => by
    have rv0 : v0 = .int m := sx_top' (sx_pop S2)
    have rv : v = .int n := sx_top' S2
    subst rv rv0
    refine ⟨m, n, rfl, ⟨by omega, by omega, by omega, by omega⟩, k (Itr m (n - m).toNat) R2 H2 [] [] rfl (sx_pop (sx_pop S2)) ⟨fun i G vs3 hj => wipeG_set (hj j (by simp)), fun _ _ hi => hi, fun _ _ => Nat.le_refl _, fun {R2 H2 ρx Δx σ2 Γ2 i y H'} hx S2 hi hy K' kk => ?_⟩⟩
    obtain ⟨rfl, rfl⟩ := hy
    exact kk R2 _ _ (sx_asg (sx_push S2 (show Rp.rp c.Z R2 (V.int (m + (i : Int))) (m + (i : Int)) from rfl)) j) fun vs3 hj => wipe_set (hj j (by simp))) x.push1) x
theorem w_for {wi : TI} {g : TG} {n : Nat} {us : Nat → List Sl → List Sl} {js : List Nat} (I : Nat → List Sl → Prop) (hi : EvI c Γ wi g n us js) (h0 : I 0 Γ)
    (hs : ∀ i G, i < n → I i G → W c (us i G) t ⟨I (i + 1), P.rt, P.nx, I (i + 1)⟩) (hd : ∀ G, I n G → P.nx G) : W c Γ (tFor wi g t) P := fun B R0 R H ρ Δ σ D S nx r b kk x =>
  hi B R0 R H ρ Δ σ S _ (fun J R1 H1 ρ' Δ' hl S1 ok => by
    refine ⟨fun i m σ H => m = n - i ∧ i ≤ n ∧ ∃ R G, Sx c.Z B R0 R H (ρ' ++ ρ) (Δ' ++ Δ) σ G ∧ I i G, ⟨n, by simp, Nat.zero_le _, R1, Γ, S1, h0⟩, ?_⟩
    rintro i m σ2 H2 ⟨rfl, hin, R2, G, S2, hI⟩
    by_cases hlt : i < n
    · refine .inr ⟨ok.go (ρx := []) (Δx := []) rfl S2 hlt, fun σ' H' => ∃ R G, Sx c.Z B R0 R H' (ρ' ++ ρ) (Δ' ++ Δ) σ' G ∧ I (i + 1) G, fun σ' H' h => ⟨n - (i + 1), by omega, rfl, hlt, h⟩, fun y H' hy => ?_⟩
      refine ok.yld (ρx := []) (Δx := []) rfl S2 hlt hy _ fun R3 σ3 H3 S3 _ => ?_
      exact hs i G hlt hI B R0 R3 H3 (ρ' ++ ρ) (Δ' ++ Δ) σ3 _ S3 (fun R4 H4 σ4 Γ4 S4 q => ⟨R4, Γ4, S4, q⟩) (fun R4 H4 v s S4 q => r R4 H4 v s (sx_drop1 hl S4) q) (fun R4 H4 σ4 Γ4 S4 q => nx R4 H4 σ4 Γ4 (sx_drop hl S4) q) (fun R4 H4 σ4 Γ4 S4 q => ⟨R4, Γ4, S4, q⟩) (x.push hl)
    · have e : i = n := by omega
      subst e
      exact .inl ⟨ok.stop (ρx := []) (Δx := []) rfl S2, nx R2 H2 σ2 G (sx_drop hl S2) (hd G hI)⟩) x
theorem w_while (I : Nat → List Sl → Prop) (m0 : Nat) (h0 : I m0 Γ)
    (hs : ∀ m G, I m G → ∃ b, EvT c G tc b ∧ (b = true → W c G t ⟨fun G' => ∃ m', m' < m ∧ I m' G', P.rt, P.nx, fun G' => ∃ m', m' < m ∧ I m' G'⟩) ∧ (b = false → P.nx G)) : W c Γ (tWhile tc t) P := fun B R0 R H ρ Δ σ D S nx r b kk x => by
  refine ⟨fun m σ H => ∃ R G, Sx c.Z B R0 R H ρ Δ σ G ∧ I m G, ⟨m0, R, Γ, S, h0⟩, ?_⟩
  rintro m σ1 H1 ⟨R1, G, S1, hI⟩
  obtain ⟨bb, ht, h1, h2⟩ := hs m G hI
  refine ht B R0 R1 H1 ρ Δ σ1 S1 _ (fun R2 H2 S2 => ?_) x
  cases bb with
  | true =>
    refine ⟨fun σ' H' => ∃ R G, Sx c.Z B R0 R H' ρ Δ σ' G ∧ ∃ m', m' < m ∧ I m' G, fun σ' H' ⟨R, G, S', m', hm, hI'⟩ => ⟨m', hm, R, G, S', hI'⟩, ?_⟩
    exact h1 rfl B R0 R2 H2 ρ Δ σ1 _ S2 (fun R4 H4 σ4 Γ4 S4 q => ⟨R4, Γ4, S4, q⟩) r nx (fun R4 H4 σ4 Γ4 S4 q => ⟨R4, Γ4, S4, q⟩) x
  | false => exact nx R2 H2 σ1 G S2 (h2 rfl)
/-! comprehensions -/
theorem take_snoc {α : Type} {l : List α} {i : Nat} (h : i < l.length) : l.take (i + 1) = l.take i ++ [l[i]] := by rw [List.take_succ, List.getElem?_eq_getElem h]; rfl
theorem sx_wipe {Z : Zz} {B R0 R H : Hp} {ρ : List (Option V)} {Δ : List Sl} {σ : List (Option V)} (S : Sx Z B R0 R H ρ Δ σ Γ) : ∀ vs : List Nat, Sx Z B R0 R H ρ Δ (wipe σ vs) (wipeG Γ vs)
  | [] => S
  | v :: vs => sx_forgets (sx_wipe S vs) v none
/-- the first i turns' items that are kept -/
def kept {α : Type} (p : Nat → Bool) (f : Nat → α) (n : Nat) : List α := ((List.range n).filter p).map f
theorem kept_yes {α : Type} {p : Nat → Bool} {f : Nat → α} {n : Nat} (h : p n = true) : kept p f (n + 1) = kept p f n ++ [f n] := by
  unfold kept
  rw [List.range_succ, List.filter_append, List.map_append]
  simp [h]
theorem kept_no {α : Type} {p : Nat → Bool} {f : Nat → α} {n : Nat} (h : p n = false) : kept p f (n + 1) = kept p f n := by
  unfold kept
  rw [List.range_succ, List.filter_append, List.map_append]
  simp [h]
theorem kept_len {α : Type} (p : Nat → Bool) (f : Nat → α) (n : Nat) : (kept p f n).length ≤ n := by
  unfold kept
  rw [List.length_map]
  exact Nat.le_trans (List.length_filter_le _ _) (by simp)
theorem sx_swapTop {Z : Zz} {B R0 R H : Hp} {ρ : List (Option V)} {Δ : List Sl} {σ : List (Option V)} {o o' : Option V} {s s' : Sl} (S : Sx Z B R0 R H (o :: o' :: ρ) (s :: s' :: Δ) σ Γ) : Sx Z B R0 R H (o' :: o :: ρ) (s' :: s :: Δ) σ Γ := by
  obtain ⟨h, own, hs, f, g, rfl, h1, f2, g2, rfl, h2, h3⟩ := S
  refine ⟨by simpa using h, f2 ++ (f ++ g2), hs_sub hs (fun p hp => ?_) ?_, f2, f ++ g2, rfl, h2, f, g2, rfl, h1, h3⟩
  · simp only [List.mem_append] at hp ⊢
    grind
  · have nd := hs.nd
    simp only [List.nodup_append, List.mem_append] at nd ⊢
    grind
theorem sx_len1 {o : Option V} {s : Sl} {ρ : List (Option V)} {Δ : List Sl} (h : ρ.length = Δ.length) : (o :: ρ).length = (s :: Δ).length := by simp [h]
theorem ev_lc {wi : TI} {g : TG} {n : Nat} {us : Nat → List Sl → List Sl} {js vs : List Nat} (p : Nat → Bool) (f : Nat → α) (hi : EvI c Γ wi g n us js) (hn : n < 1000000) (hj : ∀ j ∈ js, j ∈ vs) (hu : UnAt Γ vs)
    (ht : ∀ i, i < n → EvT c.no (us i Γ) tt (p i)) (he : ∀ i, i < n → p i = true → Ev c.no (us i Γ) te (.im (f i))) : Ev c Γ (tLc wi g tt te vs) (.ol (kept p f n)) := fun B R0 R H ρ Δ σ S Q q x =>
  hi B R0 R H ρ Δ σ S _ (fun J R1 H1 ρ' Δ' hl S1 ok Dl hD => by
    refine ⟨fun i m H => m = n - i ∧ i ≤ n ∧ ∃ R, Sx c.Z B R0 R H (some (.ref Dl) :: (ρ' ++ ρ)) (.ol (kept p f i) :: (Δ' ++ Δ)) σ Γ, ⟨n, by simp, Nat.zero_le _, R1, sx_newl S1 hD .nil⟩, ?_⟩
    rintro i m H2 ⟨rfl, hin, R2, S2⟩
    by_cases hlt : i < n
    · refine .inr ⟨ok.go (ρx := [some (.ref Dl)]) (Δx := [.ol (kept p f i)]) rfl S2 hlt, fun H' => ∃ R, Sx c.Z B R0 R H' (some (.ref Dl) :: (ρ' ++ ρ)) (.ol (kept p f (i + 1)) :: (Δ' ++ Δ)) σ Γ, fun H' h => ⟨n - (i + 1), by omega, rfl, hlt, h⟩, fun y H' hy => ?_⟩
      have S2w := sx_wipe S2 vs
      rw [wipeG_un hu] at S2w
      refine ok.yld (ρx := [some (.ref Dl)]) (Δx := [.ol (kept p f i)]) rfl S2w hlt hy _ fun R3 σ3 H3 S3 hw => ⟨(hw vs hj).trans (wipe_wipe _ vs), ?_⟩
      have back : ∀ {R4 H4 : Hp} {o : Option V} {s : Sl}, Sx c.Z B R0 R4 H4 (o :: (ρ' ++ ρ)) (s :: (Δ' ++ Δ)) σ3 (us i Γ) → Sx c.Z B R0 R4 H4 (o :: (ρ' ++ ρ)) (s :: (Δ' ++ Δ)) σ Γ := fun S4 => by
        have q4 := sx_wipe S4 vs
        rw [hw vs hj, wipe_wipe, ok.back i Γ vs hj, wipeG_un hu] at q4
        exact sx_unwipe hu q4
      refine ht i hlt B R0 R3 H3 _ _ σ3 S3 _ (fun R4 H4 S4 => ?_) (Xok.no c _ _ _ _)
      cases hp : p i with
      | false =>
        refine ⟨R4, ?_⟩
        rw [kept_no hp]
        exact back S4
      | true =>
        refine he i hlt hp B R0 R4 H4 _ _ σ3 S4 _ (fun w R5 H5 S5 => ?_) (Xok.no c _ _ _ _)
        obtain ⟨p1, vs1, e1, h1, h2, h3⟩ := sx_mutTop (sx_swapTop S5)
        cases e1
        have hl1 := Paired.length h2
        have hl2 := kept_len p f i
        refine ⟨vs1, h1, Nat.lt_of_lt_of_le (by omega : vs1.length < 1000000) (by decide), R5, ?_⟩
        rw [kept_yes hp]
        exact back (sx_pop2 (h3 (vs1 ++ [w]) (kept p f i ++ [f i]) (paired_append h2 (.cons (sx_top' S5) .nil))))
    · have e : i = n := by omega
      subst e
      exact .inl ⟨ok.stop (ρx := [some (.ref Dl)]) (Δx := [.ol (kept p f i)]) rfl S2, q _ R2 H2 (sx_drop1 hl S2)⟩) x
end TB

/-! TbX: refusals raised; sorted, min, max, insert, stores by index; more walks (enumerate, zip). -/
namespace TB
open PySem PySem.Spec PyProof.Rows L2
/-! ### by values -/
theorem pget_list {X : Cx} : PGet X (rIxL X.K) := by
  intro pins s σ H x y v u Q I rx ry h
  obtain ⟨p, xs, i, z, rfl, rfl, hq, he, q⟩ := h
  cases rx
  obtain ⟨t, rfl⟩ := ry
  obtain ⟨its, r, pl, hz⟩ := I.list hq
  obtain ⟨j, h1, h2, h3, h4, h5⟩ := atI_get he
  obtain ⟨w, ew, rw'⟩ := r.get h2
  have hl := r.length
  have hn := line63
  have fin : EP X pins σ Q w s := ⟨z, H, I, rw', q⟩
  by_cases h0 : 0 ≤ i
  · have hj : i.toNat = j := by
      rw [seqIndex_of h0 h5] at h1
      exact Option.some.inj h1
    exact wpAny_getItem_list (x := w) pl.isList h0 (by omega) (by rw [hj]; simpa using ew) fin
  · have hj : (i + (its.toArray.size : Int)).toNat = j := by
      rw [seqIndex_neg (by omega) h4] at h1
      rw [List.size_toArray, ← hl]
      exact Option.some.inj h1
    exact wpAny_getItem_list_neg pl.isList (by omega) (by rw [List.size_toArray] <;> omega) (by omega) (by rw [hj]; simpa using ew) fin

/-! ### refusals -/
def tRaise0 (C : Addr) (X : WX) : TS := fun _ σ H => (fun _ H Q => Q (.ref C) none H : L2.St → Hp → XK → Prop) σ H fun cls d H' => X cls d σ H'
/-- __init__ of an own exception class: its fields, in order -/
def spXI (C : Addr) (fs : List Str) : Sp := fun vs H Q _ => ∃ (a : Addr) (ws : List V), vs = .ref a :: ws ∧ ws.length = fs.length ∧ H a = some (exo a C none) ∧
  ∀ (d : Addr) (H' : Hp), H d = none → d ≠ a → H' a = some (exo a C (some d)) → H' d = some (exd d (fs.zip ws).reverse) → (∀ b, b ≠ a → b ≠ d → H' b = H b) → Q .non H'
def tRaiseN (C : Addr) (fs : List Str) (X : WX) (ta : TA) : TS := fun _ σ H => tMkO C (spXI C fs) [] ta σ H fun cls d H' => X cls d σ H'
section
variable {c : Cn} {Γ : List Sl} {ta tb te tl : TE} {tt tc : TT} {t u : TS} {s : Sl} {α β γ : Type} {_ : Rp α} {_ : Rp β} {_ : Rp γ} {P : Po}
theorem w_raise0 (n : CN) (h : c.ex ⟨n, []⟩ Γ) : W c Γ (tRaise0 (c.Z.cls n) c.X) P := fun B R0 R H ρ Δ σ D S nx r b k x => x R H σ Γ ⟨n, []⟩ (.ref (c.Z.cls n)) none S ⟨rfl, .inl ⟨rfl, rfl⟩⟩ h
/-- the fields' values, ints -/
theorem w_raiseN {ts : TA} (n : CN) (fs : List Str) (ns : List Int) (ha : EvA c Γ ts (ns.map fun i => .im i)) (hl : ns.length = fs.length) (hl2 : ns.length ≤ 900) (hne : fs ≠ []) (h : c.ex ⟨n, (fs.zip (ns.map V.int)).reverse⟩ Γ) : W c Γ (tRaiseN (c.Z.cls n) fs c.X ts) P := fun B R0 R H ρ Δ σ D S nx r b k x =>
  ha B R0 R H ρ Δ σ S _ (fun vs R1 H1 S1 sl => by
    have hp := paired_map_int (slims_list sl)
    subst hp
    refine ⟨by rw [List.length_map]; omega, fun a na => ?_⟩
    rw [List.append_nil]
    refine ⟨a, ns.map V.int, rfl, by rw [List.length_map]; exact hl, upd_same, fun d H2 nd hda ha2 hd2 ho => ?_⟩
    have nd1 : H1 d = none := by rw [upd_ne hda] at nd; exact nd
    refine ⟨rfl, d, _, ha2, hd2, nd1, ?_⟩
    have eH : upd (del H2 a) d (.xd (fs.zip (ns.map V.int)).reverse) = upd H1 d (.xd (fs.zip (ns.map V.int)).reverse) := by
      funext b
      by_cases h1 : b = d
      · subst h1; rw [upd_same, upd_same]
      · rw [upd_ne h1, upd_ne h1]
        by_cases h2 : b = a
        · subst h2; rw [del_same, na]
        · rw [del_ne h2, ho b h2 h1, upd_ne h2]
    rw [eH]
    refine x _ _ σ Γ ⟨n, _⟩ (.ref (c.Z.cls n)) (some d) (sx_froz S1 nd1 _).1 ⟨rfl, .inr ⟨fun z => hne ?_, d, rfl, (sx_base S1).free nd1, upd_same⟩⟩ h
    have z2 := congrArg List.length (show (fs.zip (ns.map V.int)).reverse = [] from z)
    rw [List.length_reverse, List.length_zip, List.length_map, hl, Nat.min_self] at z2
    exact List.length_eq_zero_iff.mp z2) x
end
/-- the promise of such an __init__, from its body's reading: one, two, three fields -/
theorem xi_ost {K : PySem.W.Frag} {C : Addr} {f : Str} {j : Nat} {D : Ends} {σ : L2.St} {H : Hp} {a : Addr} {w : V} (T : OexC K C) (hn : PySem.W.findIn K (.ref C) f = some none) (h0 : σ[0]? = some (some (.ref a))) (hj : σ[j]? = some (some w))
    (h : (H a = some (exo a C none) ∧ ∀ dx, H dx = none → dx ≠ a → D.nx σ (upd (upd H dx (exd dx [(f, w)])) a (exo a C (some dx)))) ∨ ∃ (dx : Addr) (fs : List (Str × V)), H a = some (exo a C (some dx)) ∧ H dx = some (exd dx fs) ∧ fs.length ≤ 900 ∧ D.nx σ (upd H dx (exd dx ((f, w) :: fs)))) :
    tOst K f (tVar 0) (tVar j) D σ H := ⟨w, hj, .ref a, h0, a, C, rfl, T, hn, h⟩
theorem xi_one {K : PySem.W.Frag} {C : Addr} {f : Str} {N : List Str} (hN : N.length = 2) (T : OexC K C) (hn : PySem.W.findIn K (.ref C) f = some none) (vs : List V) (H : Hp) (Q : VK) (E : XK) (h : spXI C [f] vs H Q E) :
    tOst K f (tVar 0) (tVar 1) { nx := fun _ H' => Q .non H', rt := Q } (L2.start N vs) H := by
  obtain ⟨a, ws, rfl, hl, ha, k⟩ := h
  obtain ⟨w, rfl⟩ : ∃ w, ws = [w] := by
    match ws, hl with
    | [w], _ => exact ⟨w, rfl⟩
  refine xi_ost T hn rfl rfl (.inl ⟨ha, fun dx nd ne => k dx _ nd ne upd_same (by rw [upd_ne ne, upd_same]; rfl) fun b h1 h2 => by rw [upd_ne h1, upd_ne h2]⟩)
theorem xi_two {K : PySem.W.Frag} {C : Addr} {f g : Str} {N : List Str} (hN : N.length = 3) (T : OexC K C) (hn : PySem.W.findIn K (.ref C) f = some none) (hg : PySem.W.findIn K (.ref C) g = some none) (vs : List V) (H : Hp) (Q : VK) (E : XK) (h : spXI C [f, g] vs H Q E) :
    tSeq (tOst K f (tVar 0) (tVar 1)) (tOst K g (tVar 0) (tVar 2)) { nx := fun _ H' => Q .non H', rt := Q } (L2.start N vs) H := by
  obtain ⟨a, ws, rfl, hl, ha, k⟩ := h
  obtain ⟨w, w2, rfl⟩ : ∃ w w2, ws = [w, w2] := by
    match ws, hl with
    | [w, w2], _ => exact ⟨w, w2, rfl⟩
  refine xi_ost T hn rfl rfl (.inl ⟨ha, fun dx nd ne => ?_⟩)
  refine xi_ost T hg rfl rfl (.inr ⟨dx, _, upd_same, by rw [upd_ne ne, upd_same], by simp, ?_⟩)
  refine k dx _ nd ne (by rw [upd_ne (Ne.symm ne), upd_same]) (by rw [upd_same]; rfl) fun b h1 h2 => by rw [upd_ne h2, upd_ne h1, upd_ne h2]
theorem xi_three {K : PySem.W.Frag} {C : Addr} {f g g3 : Str} {N : List Str} (hN : N.length = 4) (T : OexC K C) (hn : PySem.W.findIn K (.ref C) f = some none) (hg : PySem.W.findIn K (.ref C) g = some none) (hg3 : PySem.W.findIn K (.ref C) g3 = some none) (vs : List V) (H : Hp) (Q : VK) (E : XK) (h : spXI C [f, g, g3] vs H Q E) :
    tSeq (tOst K f (tVar 0) (tVar 1)) (tSeq (tOst K g (tVar 0) (tVar 2)) (tOst K g3 (tVar 0) (tVar 3))) { nx := fun _ H' => Q .non H', rt := Q } (L2.start N vs) H := by
  obtain ⟨a, ws, rfl, hl, ha, k⟩ := h
  obtain ⟨w, w2, w3, rfl⟩ : ∃ w w2 w3, ws = [w, w2, w3] := by
    match ws, hl with
    | [w, w2, w3], _ => exact ⟨w, w2, w3, rfl⟩
  refine xi_ost T hn rfl rfl (.inl ⟨ha, fun dx nd ne => ?_⟩)
  refine xi_ost T hg rfl rfl (.inr ⟨dx, _, upd_same, by rw [upd_ne ne, upd_same], by simp, ?_⟩)
  refine xi_ost T hg3 rfl rfl (.inr ⟨dx, _, by rw [upd_ne (Ne.symm ne), upd_same], upd_same, by simp, ?_⟩)
  refine k dx _ nd ne (by rw [upd_ne (Ne.symm ne), upd_ne (Ne.symm ne), upd_same]) (by rw [upd_same]; rfl) fun b h1 h2 => by rw [upd_ne h2, upd_ne h2, upd_ne h1, upd_ne h2]

/-! ### more built-ins -/
def isort (xs : List Int) : List Int := xs.mergeSort fun x y => decide (x ≤ y)
def gSorted (K : PySem.W.Frag) : List V → Hp → VK → Prop := rSortedI K
theorem gc_sorted {X : Cx} : CallR X (.builtin "sorted") (gSorted X.K) := cr_sortedI
def gMin : List V → Hp → VK → Prop := fun xs H Q => ∃ i j, xs = [.int i, .int j] ∧ Q (.int (if j < i then j else i)) H
def gMax : List V → Hp → VK → Prop := fun xs H Q => ∃ i j, xs = [.int i, .int j] ∧ Q (.int (if j > i then j else i)) H
theorem gc_min {X : Cx} (hc : X.calm = true) : CallR X (.builtin "min") gMin := call_min2 hc
theorem gc_max {X : Cx} (hc : X.calm = true) : CallR X (.builtin "max") gMax := call_max2 hc
def gInsert : V → List V → Hp → VK → Prop := fun x vs H Q => ∃ (l : Addr) (xs : List V) (i : Int) (y : V), x = .ref l ∧ vs = [.int i, y] ∧ H l = some (.lst xs) ∧ xs.length < sizeLine ∧ 0 ≤ i ∧ i < 2 ^ 63 ∧
    Q .non (upd H l (.lst (xs.take i.toNat ++ [y] ++ xs.drop i.toNat)))
theorem gm_insert {X : Cx} : MtR X "list.insert" gInsert := mt_insert
/-- o[i] = v: a list, a dict -/
def gSet : V → V → V → Hp → (Hp → Prop) → Prop := fun o i v H Q => rSetL o i v H Q ∨ ∃ a H', o = .ref a ∧ DPut H a i v H' ∧ Q H'
theorem gs_set {X : Cx} (hu : X.A.units + 1 < cLine) : PSet X gSet := by
  intro pins s σ H o i v ov iv u Q I ro ri rv h
  rcases h with h | ⟨a, H', rfl, h, q⟩
  · exact set_list pins s σ H o i v ov iv u Q I ro ri rv h
  · obtain rfl : ov = Value.ref a := ro
    exact d_setItem hu I h ri rv fun s4 I4 => ⟨H', I4, q⟩
section
variable {c : Cn} {Γ : List Sl} {ta tb te tl : TE} {tt tc : TT} {t u : TS} {s : Sl} {α β γ : Type} {_ : Rp α} {_ : Rp β} {_ : Rp γ} {P : Po}
theorem ev_sorted {xs : List Int} (ha : Ev c Γ ta (.im xs)) : Ev c Γ (tCB (gSorted c.Z.K) (tCons ta tNil)) (.ol (isort xs)) := ev_cbL ha fun R H v sm rv Q q => by
  obtain ⟨a, vs, rfl, ha, hp⟩ := rv
  refine ⟨a, xs, rfl, SqL.of (paired_map_int hp ▸ sm _ _ ha), fun ns' p pm pw np => ?_⟩
  have e : ns' = isort xs := PySem.W.os_sorted_mergeSort pm pw
  subst e
  exact q _ p (paired_of_int _) np
theorem ev_min2 {i j : Int} (ha : Ev c Γ ta (.im i)) (hb : Ev c Γ tb (.im j)) : Ev c Γ (tCB gMin (tCons ta (tCons tb tNil))) (.im (if j < i then j else i)) := ev_cb2 ha hb fun R H v w sm rv rw => by
  have rv' : v = .int i := rv
  have rw' : w = .int j := rw
  subst rv' rw'
  exact ⟨_, rfl, fun Q q => ⟨i, j, rfl, q⟩⟩
theorem ev_max2 {i j : Int} (ha : Ev c Γ ta (.im i)) (hb : Ev c Γ tb (.im j)) : Ev c Γ (tCB gMax (tCons ta (tCons tb tNil))) (.im (if j > i then j else i)) := ev_cb2 ha hb fun R H v w sm rv rw => by
  have rv' : v = .int i := rv
  have rw' : w = .int j := rw
  subst rv' rw'
  exact ⟨_, rfl, fun Q q => ⟨i, j, rfl, q⟩⟩
/-- 0, 1, .., n - 1 -/
def irange (n : Int) : List Int := (List.range n.toNat).map fun (i : Nat) => (i : Int)
theorem ev_listRg {n : Int} (ha : Ev c Γ ta (.im n)) (h : n ≤ 1000000) (h0 : -1000000 ≤ n) : Ev c Γ (tLstRg (tRg1 ta)) (.ol (irange n)) := fun B R0 R H ρ Δ σ S Q q xk => ha B R0 R H ρ Δ σ S _ (fun v R1 H1 S1 => by
  have rv : v = .int n := sx_top' S1
  refine ⟨n, rv, ⟨by omega, by omega, by omega, by omega, by omega⟩, fun p np => ?_⟩
  have e : rgV 0 n = (irange n).map V.int := by
    unfold rgV irange
    rw [List.map_map]
    congr 1
    · funext i; show V.int (0 + (i : Int)) = V.int (i : Int); rw [Int.zero_add]
    · rw [Int.sub_zero]
  rw [e]
  exact q _ R1 _ (sx_newl (sx_pop S1) np (paired_of_int _))) xk
theorem ev_slice {xs : List α} {t1 t2 : TO} {lo hi : Option Int} (ha : Ev c Γ ta (.im xs)) (h1 : ∀ B R0 R H ρ Δ σ, Sx c.Z B R0 R H ρ Δ σ Γ → ∀ Q : Option Int → Hp → Prop, (∀ R' H', Sx c.Z B R0 R' H' ρ Δ σ Γ → Q lo H') → Xok c B R0 ρ Δ → t1 σ H Q)
    (h2 : ∀ B R0 R H ρ Δ σ, Sx c.Z B R0 R H ρ Δ σ Γ → ∀ Q : Option Int → Hp → Prop, (∀ R' H', Sx c.Z B R0 R' H' ρ Δ σ Γ → Q hi H') → Xok c B R0 ρ Δ → t2 σ H Q) :
    Ev c Γ (tSl (rSlL c.Z.K) ta t1 t2) (.ol ((xs.drop (HT.sIx xs.length 0 lo)).take (HT.sIx xs.length xs.length hi - HT.sIx xs.length 0 lo))) := fun B R0 R H ρ Δ σ S Q q xk => ha B R0 R H ρ Δ σ S _ (fun v R1 H1 S1 =>
  h1 B R0 R1 H1 _ _ σ S1 _ (fun R2 H2 S2 => h2 B R0 R2 H2 _ _ σ S2 _ (fun R3 H3 S3 => by
    obtain ⟨a, vs, rfl, ha3, hp⟩ := sx_top' S3
    refine ⟨a, vs, rfl, SqL.of (sx_same S3 _ _ ha3), fun p np => ?_⟩
    have hl := Paired.length hp
    unfold cutV
    rw [hl]
    exact q _ R3 _ (sx_newl (sx_pop S3) np (paired_take _ (paired_drop _ hp)))) xk.push1) xk.push1) xk
theorem eo_none : ∀ B R0 R H ρ Δ σ, Sx c.Z B R0 R H ρ Δ σ Γ → ∀ Q : Option Int → Hp → Prop, (∀ R' H', Sx c.Z B R0 R' H' ρ Δ σ Γ → Q none H') → Xok c B R0 ρ Δ → tNoPart σ H Q := fun B R0 R H ρ Δ σ S Q q _ => q R H S
theorem eo_some {i : Int} (h : Ev c Γ te (.im i)) : ∀ B R0 R H ρ Δ σ, Sx c.Z B R0 R H ρ Δ σ Γ → ∀ Q : Option Int → Hp → Prop, (∀ R' H', Sx c.Z B R0 R' H' ρ Δ σ Γ → Q (some i) H') → Xok c B R0 ρ Δ → tPart te σ H Q := fun B R0 R H ρ Δ σ S Q q xk =>
  h B R0 R H ρ Δ σ S _ (fun v R1 H1 S1 => ⟨i, sx_top' S1, q R1 H1 (sx_pop S1)⟩) xk
theorem sIx_of {n d : Nat} {i : Int} (h : 0 ≤ i) : HT.sIx n d (some i) = min i.toNat n := by
  unfold HT.sIx
  simp only []
  split <;> omega
/-- xs[lo:hi] -/
theorem ev_cut {xs : List α} {lo hi : Int} (ha : Ev c Γ ta (.im xs)) (h1 : Ev c Γ tb (.im lo)) (h2 : Ev c Γ te (.im hi)) (h0 : 0 ≤ lo) (h3 : 0 ≤ hi) : Ev c Γ (tSl (rSlL c.Z.K) ta (tPart tb) (tPart te)) (.ol ((xs.take hi.toNat).drop lo.toNat)) := by
  refine ev_is (ev_slice ha (eo_some h1) (eo_some h2)) (congrArg Sl.ol ?_)
  rw [sIx_of h0, sIx_of h3, List.drop_take]
  apply List.ext_getElem?
  intro k
  simp only [List.getElem?_take, List.getElem?_drop]
  grind
theorem ev_cutTo {xs : List α} {hi : Int} (ha : Ev c Γ ta (.im xs)) (h2 : Ev c Γ te (.im hi)) (h3 : 0 ≤ hi) : Ev c Γ (tSl (rSlL c.Z.K) ta tNoPart (tPart te)) (.ol (xs.take hi.toNat)) := by
  refine ev_is (ev_slice ha eo_none (eo_some h2)) (congrArg Sl.ol ?_)
  rw [sIx_of h3]
  apply List.ext_getElem?
  intro k
  simp only [List.getElem?_take, List.getElem?_drop, HT.sIx]
  grind
theorem ev_cutFrom {xs : List α} {lo : Int} (ha : Ev c Γ ta (.im xs)) (h1 : Ev c Γ tb (.im lo)) (h0 : 0 ≤ lo) : Ev c Γ (tSl (rSlL c.Z.K) ta (tPart tb) tNoPart) (.ol (xs.drop lo.toNat)) := by
  refine ev_is (ev_slice ha (eo_some h1) eo_none) (congrArg Sl.ol ?_)
  rw [sIx_of h0]
  apply List.ext_getElem?
  intro k
  simp only [List.getElem?_take, List.getElem?_drop, HT.sIx]
  grind
end
end TB

/-! TbY: enumerate, zip; own classes' fields; groups. -/
namespace TB
open PySem L2
section
variable {c : Cn} {Γ : List Sl} {ta tb te tl : TE} {tt tc : TT} {t u : TS} {s : Sl} {α β γ : Type} {_ : Rp α} {_ : Rp β} {_ : Rp γ} {P : Po}
theorem ei_enum {xs : List α} {a b : Nat} (h : Ev c Γ tl (.im xs)) : EvI c Γ (iEnum c.Z.K (tCons tl tNil)) (gTup c.Z.K 2 (gCons (gName a) (gCons (gName b) gNil))) xs.length (fun i G => (G.set a (.im (i : Int))).set b (.im (xs.getD i Rp.df))) [a, b] := fun B R0 R H ρ Δ σ S K k x =>
  h B R0 R H ρ Δ σ S _ (fun v R1 H1 S1 => by
    have rv := sx_top' S1
    obtain ⟨l, vs, rfl, ha, hp⟩ := id rv
    refine ⟨l, vs, rfl, SqL.of (sx_same S1 _ _ ha), k (Ite c.Z.K l) R1 H1 [some (.ref l)] [.im xs] rfl S1 ⟨fun i G vs3 hj => by rw [wipeG_set (hj b (by simp)), wipeG_set (hj a (by simp))], fun {R2 H2 ρx Δx σ2 Γ2 i} hx S2 hi => ?_, fun {R2 H2 ρx Δx σ2 Γ2} hx S2 => ?_, fun {R2 H2 ρx Δx σ2 Γ2 i y H'} hx S2 hi hy K' kk => ?_⟩⟩
    · obtain ⟨a2, vs2, e2, ha2, hp2⟩ := sx_top' (sx_drop hx S2)
      cases e2
      obtain ⟨w, hw, _⟩ := paired_get hp2 (b := xs[i]) (i := i) (by simp [hi])
      exact ⟨vs2, w, SqL.of (sx_same S2 _ _ ha2), hw⟩
    · obtain ⟨a2, vs2, e2, ha2, hp2⟩ := sx_top' (sx_drop hx S2)
      cases e2
      exact ⟨vs2, SqL.of (sx_same S2 _ _ ha2), by rw [Paired.length hp2]; exact Nat.le_refl _⟩
    · obtain ⟨a2, vs2, e2, ha2, hp2⟩ := sx_top' (sx_drop hx S2)
      cases e2
      obtain ⟨T, w, rfl, hT, rfl, hy⟩ := hy
      have hy' := hy vs2 (SqL.of (sx_same S2 _ _ ha2))
      obtain ⟨z, hz, rz⟩ := paired_getL hp2 hy'
      have e3 : xs.getD i Rp.df = z := by rw [List.getD_eq_getElem?_getD, hz]; rfl
      refine ⟨T, [.int (i : Nat), w], rfl, SqT.of upd_same, rfl, _, _, rfl, _, _, rfl, rfl, ?_⟩
      refine kk R2 _ _ ?_ fun vs3 hj => by rw [wipe_set (hj b (by simp)), wipe_set (hj a (by simp))]
      refine sx_asg (sx_push (sx_asg (sx_push (sx_alloc S2 hT _) (show Rp.rp c.Z R2 (V.int (i : Int)) (i : Int) from rfl)) a) (d := xs.getD i Rp.df) ?_) b
      rw [e3]
      exact rz) x
theorem ei_zip {xs : List α} {ys : List β} {a b : Nat} (h : Ev c Γ tl (.im xs)) (h2 : Ev c Γ te (.im ys)) : EvI c Γ (iZip c.Z.K (tCons tl (tCons te tNil))) (gTup c.Z.K 2 (gCons (gName a) (gCons (gName b) gNil))) (min xs.length ys.length) (fun i G => (G.set a (.im (xs.getD i Rp.df))).set b (.im (ys.getD i Rp.df))) [a, b] := fun B R0 R H ρ Δ σ S K k x =>
  h B R0 R H ρ Δ σ S _ (fun v R1 H1 S1 => h2 B R0 R1 H1 _ _ σ S1 _ (fun v2 R3 H3 S3 => by
    obtain ⟨l, vs, rfl, ha, hp⟩ := id (sx_top' (sx_pop S3))
    obtain ⟨l2, vs2, rfl, ha2, hp2⟩ := id (sx_top' S3)
    refine ⟨l, l2, vs, vs2, rfl, SqL.of (sx_same S3 _ _ ha), SqL.of (sx_same S3 _ _ ha2), k (Itz c.Z.K l l2) R3 H3 [some (.ref l2), some (.ref l)] [.im ys, .im xs] rfl S3 ⟨fun i G vs3 hj => by rw [wipeG_set (hj b (by simp)), wipeG_set (hj a (by simp))], fun {R2 H2 ρx Δx σ2 Γ2 i} hx S2 hi => ?_, fun {R2 H2 ρx Δx σ2 Γ2} hx S2 => ?_, fun {R2 H2 ρx Δx σ2 Γ2 i y H'} hx S2 hi hy K' kk => ?_⟩⟩
    all_goals
      have S2' := sx_drop hx S2
      obtain ⟨q1, ws1, e1, g1, p1⟩ := sx_top' (sx_pop S2')
      cases e1
      obtain ⟨q2, ws2, e2, g2, p2⟩ := sx_top' S2'
      cases e2
      have l1 := Paired.length p1
      have l2 := Paired.length p2
      have s1 := sx_same S2 _ _ g1
      have s2 := sx_same S2 _ _ g2
    · obtain ⟨w, hw, _⟩ := paired_get p1 (b := xs[i]'(by omega)) (i := i) (by simp)
      obtain ⟨w2, hw2, _⟩ := paired_get p2 (b := ys[i]'(by omega)) (i := i) (by simp)
      exact ⟨ws1, ws2, w, w2, SqL.of s1, SqL.of s2, hw, hw2⟩
    · exact ⟨ws1, ws2, SqL.of s1, SqL.of s2, by omega⟩
    · obtain ⟨T, w, w2, rfl, hT, rfl, hy, hy2⟩ := hy
      obtain ⟨z, hz, rz⟩ := paired_getL p1 (hy ws1 (SqL.of s1))
      obtain ⟨z2, hz2, rz2⟩ := paired_getL p2 (hy2 ws2 (SqL.of s2))
      have e3 : xs.getD i Rp.df = z := by rw [List.getD_eq_getElem?_getD, hz]; rfl
      have e4 : ys.getD i Rp.df = z2 := by rw [List.getD_eq_getElem?_getD, hz2]; rfl
      refine ⟨T, [w, w2], rfl, SqT.of upd_same, rfl, _, _, rfl, _, _, rfl, rfl, ?_⟩
      refine kk R2 _ _ ?_ fun vs3 hj => by rw [wipe_set (hj b (by simp)), wipe_set (hj a (by simp))]
      refine sx_asg (sx_push (sx_asg (sx_push (sx_alloc S2 hT _) (d := xs.getD i Rp.df) (by rw [e3]; exact rz)) a) (d := ys.getD i Rp.df) ?_) b
      rw [e4]
      exact rz2) x.push1) x
/-! fields -/
/-- o.f, told by what o's rep says -/
theorem ev_fld {o : α} {d : β} {f : Str} (h : Ev c Γ te (.im o)) (hf : ∀ R v, Rp.rp c.Z R v o → ∃ a C dx fs w, v = .ref a ∧ R a = some (.ins C dx fs) ∧ Cls c.Z.K C ∧ NoAttr c.Z.K C f ∧ fs.lookup f = some w ∧ Rp.rp c.Z R w d) : Ev c Γ (tFld c.Z.K te f) (.im d) := fun B R0 R H ρ Δ σ S Q q x =>
  h B R0 R H ρ Δ σ S _ (fun v R1 H1 S1 => by
    obtain ⟨a, C, dx, fs, w, rfl, h1, h2, h3, h4, h5⟩ := hf R1 v (sx_top' S1)
    exact ⟨a, C, dx, fs, w, rfl, sx_same S1 _ _ h1, h2, h3, h4, q w R1 H1 (sx_push (sx_pop S1) h5)⟩) x
end
/-! ### groups -/
structure Grp where
  many : Int
  rows : List (List Int)
  unit : Int
  backs : List Int
/-- what the written part says of the class -/
structure GrpC (Z : Zz) : Prop where
  cl : Cls Z.K (Z.cls .Group)
  n1 : NoAttr Z.K (Z.cls .Group) "many"
  n2 : NoAttr Z.K (Z.cls .Group) "rows"
  n3 : NoAttr Z.K (Z.cls .Group) "unit"
  n4 : NoAttr Z.K (Z.cls .Group) "backs"
def flG (m r u b : V) : List (Str × V) := [("many", m), ("rows", r), ("unit", u), ("backs", b)]
instance : Rp Grp := ⟨⟨0, [], 0, []⟩, fun Z H v g => GrpC Z ∧ ∃ a dx m r u b, v = .ref a ∧ H a = some (.ins (Z.cls .Group) dx (flG m r u b)) ∧ Rp.rp Z H m g.many ∧ Rp.rp Z H r g.rows ∧ Rp.rp Z H u g.unit ∧ Rp.rp Z H b g.backs,
  fun e h => by
    obtain ⟨h0, a, dx, m, r, u, b, h1, h2, h3, h4, h5, h6⟩ := h
    exact ⟨h0, a, dx, m, r, u, b, h1, e _ _ h2, Rp.mono e h3, Rp.mono e h4, Rp.mono e h5, Rp.mono e h6⟩⟩
theorem lookup_at {f g : Str} {v : V} {fs : List (Str × V)} (h : ¬ f = g) : ((f, v) :: fs).lookup g = fs.lookup g := by
  have : (g == f) = false := by simpa using fun e => h e.symm
  simp [List.lookup, this]
theorem lookup_here {f : Str} {v : V} {fs : List (Str × V)} : ((f, v) :: fs).lookup f = some v := by simp [List.lookup]
theorem flG1 (m r u b : V) : (flG m r u b).lookup ("many" : Str) = some m := lookup_here
theorem flG2 (m r u b : V) : (flG m r u b).lookup ("rows" : Str) = some r := by
  unfold flG
  rw [lookup_at (by decide +kernel), lookup_here]
theorem flG3 (m r u b : V) : (flG m r u b).lookup ("unit" : Str) = some u := by
  unfold flG
  rw [lookup_at (by decide +kernel), lookup_at (by decide +kernel), lookup_here]
theorem flG4 (m r u b : V) : (flG m r u b).lookup ("backs" : Str) = some b := by
  unfold flG
  rw [lookup_at (by decide +kernel), lookup_at (by decide +kernel), lookup_at (by decide +kernel), lookup_here]
section
variable {c : Cn} {Γ : List Sl} {ta tb te tl : TE} {g : Grp}
theorem ev_many (h : Ev c Γ te (.im g)) : Ev c Γ (tFld c.Z.K te "many") (.im g.many) := ev_fld h fun R v ⟨h0, a, dx, m, r, u, b, h1, h2, h3, h4, h5, h6⟩ => ⟨a, _, dx, _, m, h1, h2, h0.cl, h0.n1, flG1 .., h3⟩
theorem ev_rows (h : Ev c Γ te (.im g)) : Ev c Γ (tFld c.Z.K te "rows") (.im g.rows) := ev_fld h fun R v ⟨h0, a, dx, m, r, u, b, h1, h2, h3, h4, h5, h6⟩ => ⟨a, _, dx, _, r, h1, h2, h0.cl, h0.n2, flG2 .., h4⟩
theorem ev_unit (h : Ev c Γ te (.im g)) : Ev c Γ (tFld c.Z.K te "unit") (.im g.unit) := ev_fld h fun R v ⟨h0, a, dx, m, r, u, b, h1, h2, h3, h4, h5, h6⟩ => ⟨a, _, dx, _, u, h1, h2, h0.cl, h0.n3, flG3 .., h5⟩
theorem ev_backs (h : Ev c Γ te (.im g)) : Ev c Γ (tFld c.Z.K te "backs") (.im g.backs) := ev_fld h fun R v ⟨h0, a, dx, m, r, u, b, h1, h2, h3, h4, h5, h6⟩ => ⟨a, _, dx, _, b, h1, h2, h0.cl, h0.n4, flG4 .., h6⟩
/-- Group.__init__ -/
def spI_Group (Z : Zz) : Sp := fun vs H Q _ => ∃ x dx l xs u b, vs = [.ref x, .ref l, u, b] ∧ H x = some (.ins (Z.cls .Group) dx []) ∧ H l = some (.lst xs) ∧ GrpC Z ∧
  ∀ H', H' x = some (.ins (Z.cls .Group) dx (flG (.int xs.length) (.ref l) u b)) → (∀ p, p ≠ x → H' p = H p) → Q .non H'
theorem ev_mkGroup {rows : List (List Int)} {unit : Int} {backs : List Int} {t : TA} (hZ : GrpC c.Z) (ha : EvA c Γ t [.im rows, .im unit, .im backs]) : Ev c Γ (tMake (c.Z.cls .Group) (spI_Group c.Z) [] E0 t) (.im (⟨rows.length, rows, unit, backs⟩ : Grp)) := fun B R0 R H ρ Δ σ S Q q xk =>
  ha B R0 R H ρ Δ σ S _ (fun vs R1 H1 S1 sl => by
    intro x dx nx ndx hne
    cases sl with
    | cons r1 t1 =>
      cases t1 with
      | cons r2 t2 =>
        cases t2 with
        | cons r3 t3 =>
          cases t3
          rename_i v1 v2 v3
          obtain ⟨l, xs, rfl, hl, hp⟩ := id r1
          have hl1 := sx_same S1 _ _ hl
          have nlx : l ≠ x := fun e => by subst e; rw [nx] at hl1; cases hl1
          have nld : l ≠ dx := fun e => by subst e; rw [ndx] at hl1; cases hl1
          refine ⟨x, dx, l, xs, v2, v3, rfl, upd_same, by rw [upd_ne nlx, upd_ne nld]; exact hl1, hZ, fun H2 h1 h2 => ⟨rfl, ?_⟩⟩
          obtain ⟨S2, e2⟩ := sx_froz S1 ndx (.own x)
          have nx2 : (upd H1 dx (.own x)) x = none := by rw [upd_ne (Ne.symm hne)]; exact nx
          obtain ⟨S3, e3⟩ := sx_froz S2 nx2 (.ins (c.Z.cls .Group) dx (flG (.int xs.length) (.ref l) v2 v3))
          have eH : H2 = upd (upd H1 dx (.own x)) x (.ins (c.Z.cls .Group) dx (flG (.int xs.length) (.ref l) v2 v3)) := by
            funext p
            by_cases hp : p = x
            · subst hp; rw [h1, upd_same]
            · rw [h2 p hp, upd_ne hp, upd_ne hp]
          rw [eH]
          have e := e2.trans e3
          refine q _ _ _ (sx_push S3 ⟨hZ, x, dx, _, _, _, _, rfl, upd_same, by rw [Paired.length hp]; rfl, Rp.mono e r1, Rp.mono e r2, Rp.mono e r3⟩)) xk
end
/-- the body: self.many = len(rows); self.rows = rows; self.unit = unit; self.backs = backs -/
theorem pure_Group_init {Z : Zz} {N : List Str} (hN : N.length = 4) (vs : List V) (H : Hp) (Q : VK) (E : XK) (h : spI_Group Z vs H Q E) :
    (tSeq (sFld Z.K (tVar 0) (tCB (gLen Z.K) (tCons (tVar 1) tNil)) "many") (tSeq (sFld Z.K (tVar 0) (tVar 1) "rows") (tSeq (sFld Z.K (tVar 0) (tVar 2) "unit") (sFld Z.K (tVar 0) (tVar 3) "backs")))) { nx := fun _ H' => Q .non H', rt := Q } (L2.start N vs) H := by
  obtain ⟨x, dx, l, xs, u, b, rfl, hx, hl, hZ, k⟩ := h
  have nlx : l ≠ x := fun e => by subst e; rw [hx] at hl; cases hl
  refine ⟨.ref l, rfl, .ref l, xs.length, rfl, .inl ⟨xs, SqL.of hl, rfl⟩, .ref x, rfl, x, _, dx, [], rfl, hx, hZ.cl, hZ.n1, by decide, ?_⟩
  refine ⟨.ref l, rfl, .ref x, rfl, x, _, dx, _, rfl, upd_same, hZ.cl, hZ.n2, by simp [putF], ?_⟩
  refine ⟨u, rfl, .ref x, rfl, x, _, dx, _, rfl, upd_same, hZ.cl, hZ.n3, by simp only [putF]; split <;> simp, ?_⟩
  have n12 : ¬ (("many" : Str) = "rows") := by decide +kernel
  have n13 : ¬ (("many" : Str) = "unit") := by decide +kernel
  have n23 : ¬ (("rows" : Str) = "unit") := by decide +kernel
  have n14 : ¬ (("many" : Str) = "backs") := by decide +kernel
  have n24 : ¬ (("rows" : Str) = "backs") := by decide +kernel
  have n34 : ¬ (("unit" : Str) = "backs") := by decide +kernel
  have e3 : putF "unit" u (putF "rows" (.ref l) (putF "many" (.int xs.length) [])) = ([("many", .int xs.length), ("rows", .ref l), ("unit", u)] : List (Str × V)) := by
    simp only [putF, if_neg n12, if_neg n13, if_neg n23]
  have e4 : putF "backs" b (putF "unit" u (putF "rows" (.ref l) (putF "many" (.int xs.length) []))) = flG (.int xs.length) (.ref l) u b := by
    rw [e3]
    simp only [putF, if_neg n14, if_neg n24, if_neg n34]
    rfl
  refine ⟨b, rfl, .ref x, rfl, x, _, dx, _, rfl, upd_same, hZ.cl, hZ.n4, by rw [e3]; simp, ?_⟩
  refine k _ (by rw [upd_same, e4]) fun p hp => by rw [upd_ne hp, upd_ne hp, upd_ne hp, upd_ne hp]
end TB
namespace TB
open PySem L2
section
variable {α β γ δ ε : Type} [Rp α] [Rp β] [Rp γ] [Rp δ] [Rp ε]
def tm0 (F : (Sl → Prop) → (Rf → Prop) → Prop) : Tm := fun ss ok er => ss = [] ∧ F ok er
def tm1 (F : α → (Sl → Prop) → (Rf → Prop) → Prop) : Tm := fun ss ok er => ∃ a, ss = [.im a] ∧ F a ok er
def tm2 (F : α → β → (Sl → Prop) → (Rf → Prop) → Prop) : Tm := fun ss ok er => ∃ a b, ss = [.im a, .im b] ∧ F a b ok er
def tm3 (F : α → β → γ → (Sl → Prop) → (Rf → Prop) → Prop) : Tm := fun ss ok er => ∃ a b c, ss = [.im a, .im b, .im c] ∧ F a b c ok er
def tm4 (F : α → β → γ → δ → (Sl → Prop) → (Rf → Prop) → Prop) : Tm := fun ss ok er => ∃ a b c d, ss = [.im a, .im b, .im c, .im d] ∧ F a b c d ok er
def tm5 (F : α → β → γ → δ → ε → (Sl → Prop) → (Rf → Prop) → Prop) : Tm := fun ss ok er => ∃ a b c d e, ss = [.im a, .im b, .im c, .im d, .im e] ∧ F a b c d e ok er
end
theorem spOf_len {Z : Zz} {T : Tm} {n : Nat} (h : ∀ ss ok er, T ss ok er → ss.length = n) (vs : List V) (H : Hp) (Q : VK) (E : XK) (hs : spOf Z T vs H Q E) : vs.length = n := by
  obtain ⟨R, ss, ok, er, _, sl, hT, _⟩ := hs
  rw [← h ss ok er hT]
  clear hT
  induction sl with
  | nil => rfl
  | cons r t ih => simp [ih]
/-- a body's judgement at its entry -/
abbrev WF (Z : Zz) (X : WX) (er : Rf → Prop) (Γ : List Sl) (t : TS) (ok : Sl → Prop) : Prop := W ⟨Z, X, fun r _ => er r⟩ Γ t ⟨fun _ => ok (.im ()), ok, fun _ => False, fun _ => False⟩
end TB
namespace TB
open PySem L2
theorem getD_eq {α : Type} {l : List α} {i : Nat} {d : α} (h : i < l.length) : l.getD i d = l[i] := by simp [h]
section
variable {c : Cn} {Γ : List Sl} {ta tb te tl : TE} {tt tc : TT} {t u : TS} {s : Sl} {α β γ : Type} {_ : Rp α} {_ : Rp β} {_ : Rp γ} {P : Po}
theorem w_forL {xs : List α} {j : Nat} (I : Nat → List Sl → Prop) (h : Ev c Γ tl (.im xs)) (h0 : I 0 Γ) (hs : ∀ i G (hi : i < xs.length), I i G → W c (G.set j (.im xs[i])) t ⟨I (i + 1), P.rt, P.nx, I (i + 1)⟩) (hd : ∀ G, I xs.length G → P.nx G) :
    W c Γ (tFor (iList c.Z.K tl) (gName j) t) P := w_for I (ei_list h) h0 (fun i G hi hI => by
  have q := hs i G hi hI
  rw [← getD_eq (d := Rp.df) hi] at q
  exact q) hd
theorem w_forS {l : Scr} {j : Nat} (I : Nat → List Sl → Prop) (h : Ev c Γ tl (.im l)) (h0 : I 0 Γ) (hs : ∀ i G (hi : i < l.l.length), I i G → W c (G.set j (.im l.l[i])) t ⟨I (i + 1), P.rt, P.nx, I (i + 1)⟩) (hd : ∀ G, I l.l.length G → P.nx G) :
    W c Γ (tFor (iList c.Z.K tl) (gName j) t) P := w_for I (ei_scr h) h0 (fun i G hi hI => by
  have q := hs i G hi hI
  rw [← getD_eq (d := 0) hi] at q
  exact q) hd
theorem w_forE {xs : List α} {a b : Nat} (I : Nat → List Sl → Prop) (h : Ev c Γ tl (.im xs)) (h0 : I 0 Γ) (hs : ∀ i G (hi : i < xs.length), I i G → W c ((G.set a (.im (i : Int))).set b (.im xs[i])) t ⟨I (i + 1), P.rt, P.nx, I (i + 1)⟩) (hd : ∀ G, I xs.length G → P.nx G) :
    W c Γ (tFor (iEnum c.Z.K (tCons tl tNil)) (gTup c.Z.K 2 (gCons (gName a) (gCons (gName b) gNil))) t) P := w_for I (ei_enum h) h0 (fun i G hi hI => by
  have q := hs i G hi hI
  rw [← getD_eq (d := Rp.df) hi] at q
  exact q) hd
theorem w_forZ {xs : List α} {ys : List β} {a b : Nat} (I : Nat → List Sl → Prop) (h : Ev c Γ tl (.im xs)) (h2 : Ev c Γ te (.im ys)) (h0 : I 0 Γ) (hs : ∀ i G (hi : i < xs.length) (hj : i < ys.length), I i G → W c ((G.set a (.im xs[i])).set b (.im ys[i])) t ⟨I (i + 1), P.rt, P.nx, I (i + 1)⟩) (hd : ∀ G, I (min xs.length ys.length) G → P.nx G) :
    W c Γ (tFor (iZip c.Z.K (tCons tl (tCons te tNil))) (gTup c.Z.K 2 (gCons (gName a) (gCons (gName b) gNil))) t) P := w_for I (ei_zip h h2) h0 (fun i G hi hI => by
  have q := hs i G (by omega) (by omega) hI
  rw [← getD_eq (l := xs) (d := Rp.df) (by omega), ← getD_eq (l := ys) (d := Rp.df) (by omega)] at q
  exact q) hd
theorem w_forR {n : Int} {j : Nat} (I : Nat → List Sl → Prop) (h : Ev c Γ te (.im n)) (hn : n < 2 ^ 60) (hn0 : -(2 ^ 60) < n) (h0 : I 0 Γ) (hs : ∀ (i : Nat) G, (i : Int) < n → I i G → W c (G.set j (.im (i : Int))) t ⟨I (i + 1), P.rt, P.nx, I (i + 1)⟩) (hd : ∀ G, I n.toNat G → P.nx G) :
    W c Γ (tFor (iRng1 (tCons te tNil)) (gName j) t) P := w_for I (ei_rng1 h hn hn0) h0 (fun i G hi hI => hs i G (by omega) hI) hd
theorem w_forR2 {m n : Int} {j : Nat} (I : Nat → List Sl → Prop) (h1 : Ev c Γ ta (.im m)) (h : Ev c Γ te (.im n)) (hm : -(2 ^ 60) < m ∧ m < 2 ^ 60) (hn : n < 2 ^ 60 ∧ -(2 ^ 60) < n) (h0 : I 0 Γ) (hs : ∀ (i : Nat) G, m + (i : Int) < n → I i G → W c (G.set j (.im (m + (i : Int)))) t ⟨I (i + 1), P.rt, P.nx, I (i + 1)⟩) (hd : ∀ G, I (n - m).toNat G → P.nx G) :
    W c Γ (tFor (iRng2 (tCons ta (tCons te tNil))) (gName j) t) P := w_for I (ei_rng2 h1 h hm hn) h0 (fun i G hi hI => hs i G (by omega) hI) hd
/-- comprehensions with all items, none left out: the mapped list -/
theorem kept_all {α : Type} {f : Nat → α} : ∀ n, kept (fun _ => true) f n = (List.range n).map f := fun n => congrArg (List.map f) (List.filter_eq_self.2 fun _ _ => rfl)
theorem ev_mapL {xs : List α} {j : Nat} {vs : List Nat} (f : α → β) (h : Ev c Γ tl (.im xs)) (hn : xs.length < 1000000) (hj : j ∈ vs) (hu : UnAt Γ vs) (he : ∀ x, x ∈ xs → Ev c.no (Γ.set j (.im x)) te (.im (f x))) : Ev c Γ (tLc (iList c.Z.K tl) (gName j) tYes te vs) (.ol (xs.map f)) := by
  refine ev_is (ev_lc (fun _ => true) (fun i => f (xs.getD i Rp.df)) (ei_list h) hn (fun k hk => by simp at hk; rw [hk]; exact hj) hu (fun i hi => fun B R0 R H ρ Δ σ S Q q _ => q R H S) (fun i hi _ => he _ (by rw [getD_eq hi]; exact List.getElem_mem hi))) ?_
  rw [kept_all]
  refine congrArg Sl.ol (List.ext_getElem (by simp) fun i h1 h2 => ?_)
  simp at h1
  simp [h1]
theorem filter_range_map {α : Type} (xs : List α) (d : α) (p : α → Bool) : ((List.range xs.length).filter fun i => p (xs.getD i d)).map (fun i => xs.getD i d) = xs.filter p := by
  induction xs with
  | nil => rfl
  | cons a r ih =>
    rw [List.length_cons, List.range_succ_eq_map, List.filter_cons]
    have e0 : (a :: r).getD 0 d = a := rfl
    have e1 : ∀ i, (a :: r).getD (i + 1) d = r.getD i d := fun i => rfl
    rw [e0]
    have e2 : List.map (fun i => (a :: r).getD i d) (List.filter (fun i => p ((a :: r).getD i d)) (List.map Nat.succ (List.range r.length))) = r.filter p := by
      rw [List.filter_map, List.map_map]
      exact ih
    rw [List.filter_cons]
    by_cases h : p a = true
    · rw [if_pos h, if_pos h, List.map_cons, e0, e2]
    · rw [if_neg h, if_neg h, e2]
theorem ev_filtL {xs : List α} {j : Nat} {vs : List Nat} (p : α → Bool) (f : α → β) (h : Ev c Γ tl (.im xs)) (hn : xs.length < 1000000) (hj : j ∈ vs) (hu : UnAt Γ vs) (ht : ∀ x, x ∈ xs → EvT c.no (Γ.set j (.im x)) tt (p x)) (he : ∀ x, x ∈ xs → p x = true → Ev c.no (Γ.set j (.im x)) te (.im (f x))) :
    Ev c Γ (tLc (iList c.Z.K tl) (gName j) tt te vs) (.ol ((xs.filter p).map f)) := by
  refine ev_is (ev_lc (fun i => p (xs.getD i Rp.df)) (fun i => f (xs.getD i Rp.df)) (ei_list h) hn (fun k hk => by simp at hk; rw [hk]; exact hj) hu (fun i hi => ht _ (by rw [getD_eq hi]; exact List.getElem_mem hi)) (fun i hi hp => he _ (by rw [getD_eq hi]; exact List.getElem_mem hi) hp)) (congrArg Sl.ol ?_)
  unfold kept
  rw [← filter_range_map xs Rp.df p, List.map_map]
  rfl
/-- over the script -/
theorem ev_mapS {l : Scr} {j : Nat} {vs : List Nat} (f : Int → β) (h : Ev c Γ tl (.im l)) (hn : l.l.length < 1000000) (hj : j ∈ vs) (hu : UnAt Γ vs) (he : ∀ x, x ∈ l.l → Ev c.no (Γ.set j (.im x)) te (.im (f x))) : Ev c Γ (tLc (iList c.Z.K tl) (gName j) tYes te vs) (.ol (l.l.map f)) := by
  refine ev_is (ev_lc (fun _ => true) (fun i => f (l.l.getD i 0)) (ei_scr h) hn (fun k hk => by simp at hk; rw [hk]; exact hj) hu (fun i hi => fun B R0 R H ρ Δ σ S Q q _ => q R H S) (fun i hi _ => he _ (by rw [getD_eq hi]; exact List.getElem_mem hi))) ?_
  rw [kept_all]
  refine congrArg Sl.ol (List.ext_getElem (by simp) fun i h1 h2 => ?_)
  simp at h1
  simp [h1]
theorem ev_mapR {n : Int} {j : Nat} {vs : List Nat} (f : Int → β) (h : Ev c Γ ta (.im n)) (hn : n < 1000000) (hn0 : -1000000 < n) (hj : j ∈ vs) (hu : UnAt Γ vs) (he : ∀ i : Int, 0 ≤ i → i < n → Ev c.no (Γ.set j (.im i)) te (.im (f i))) : Ev c Γ (tLc (iRng1 (tCons ta tNil)) (gName j) tYes te vs) (.ol ((irange n).map f)) := by
  refine ev_is (ev_lc (fun _ => true) (fun i => f (i : Int)) (ei_rng1 h (by omega) (by omega)) (by omega) (fun k hk => by simp at hk; rw [hk]; exact hj) hu (fun i hi => fun B R0 R H ρ Δ σ S Q q _ => q R H S) (fun i hi _ => he _ (by omega) (by omega))) ?_
  rw [kept_all]
  unfold irange
  rw [List.map_map]
  rfl
theorem ev_filtR {n : Int} {j : Nat} {vs : List Nat} (p : Int → Bool) (f : Int → β) (h : Ev c Γ ta (.im n)) (hn : n < 1000000) (hn0 : -1000000 < n) (hj : j ∈ vs) (hu : UnAt Γ vs) (ht : ∀ i : Int, 0 ≤ i → i < n → EvT c.no (Γ.set j (.im i)) tt (p i)) (he : ∀ i : Int, 0 ≤ i → i < n → p i = true → Ev c.no (Γ.set j (.im i)) te (.im (f i))) :
    Ev c Γ (tLc (iRng1 (tCons ta tNil)) (gName j) tt te vs) (.ol (((irange n).filter p).map f)) := by
  refine ev_is (ev_lc (fun i => p (i : Int)) (fun i => f (i : Int)) (ei_rng1 h (by omega) (by omega)) (by omega) (fun k hk => by simp at hk; rw [hk]; exact hj) hu (fun i hi => ht _ (by omega) (by omega)) (fun i hi hp => he _ (by omega) (by omega) hp)) (congrArg Sl.ol ?_)
  unfold irange kept
  rw [List.filter_map, List.map_map]
  rfl
end
theorem irange_len (n : Int) : (irange n).length = n.toNat := by unfold irange; simp
theorem mem_irange {n i : Int} : i ∈ irange n ↔ 0 ≤ i ∧ i < n := by
  unfold irange
  simp only [List.mem_map, List.mem_range]
  constructor
  · rintro ⟨k, h, rfl⟩
    omega
  · rintro ⟨h0, h1⟩
    exact ⟨i.toNat, by omega, by omega⟩
theorem irange_get {n : Int} {i : Nat} (h : i < (irange n).length) : (irange n)[i] = (i : Int) := by simp only [irange, List.getElem_map, List.getElem_range]
end TB

/-! TbZ: == of data; isinstance; cuts of the script; calls. -/
namespace TB
open PySem L2
/-- data that == compares -/
class Pd (α : Type) extends Rp α where
  py : α → PyData
  dep : Nat
  dp : ∀ {Z : Zz} {H : Hp} {v : V} {d : α}, rp Z H v d → Dp Z.K H v (py d)
  can : ∀ d, PyData.canLay0 (py d) = true
  low : ∀ d, PyData.depth (py d) ≤ dep
  eqv : ∀ a b, PyData.eqv (py a) (py b) = true ↔ a = b
instance : Pd Int := { py := .int, dep := 0, dp := fun h => (by cases h; exact .int _), can := fun _ => (by simp [PyData.canLay0]), low := fun _ => (by simp [PyData.depth]), eqv := fun a b => (by simp [PyData.eqv]) }
instance : Pd Bool := { py := .bool, dep := 0, dp := fun h => (by cases h; exact .bl _), can := fun _ => (by simp [PyData.canLay0]), low := fun _ => (by simp [PyData.depth]), eqv := fun a b => (by simp [PyData.eqv]) }
theorem dpAll_of {α : Type} [Pd α] {Z : Zz} {H : Hp} : ∀ {vs : List V} {xs : List α}, Paired (Rp.rp Z H) vs xs → DpAll Z.K H vs (xs.map Pd.py)
  | _, _, .nil => .nil
  | _, _, .cons r t => .cons (Pd.dp r) (dpAll_of t)
instance {α : Type} [Pd α] : Pd (List α) where
  py := fun xs => .list (xs.map Pd.py)
  dep := (Pd.dep α) + 1
  dp := fun h => by
    obtain ⟨a, vs, rfl, h2, h3⟩ := h
    exact .lst (SqL.of h2) (dpAll_of h3)
  can := fun d => by
    show PyData.canLay0 (.list (d.map Pd.py)) = true
    rw [PyData.canLay0]
    induction d with
    | nil => simp [PyData.canLayAll0]
    | cons x r ih => simp [PyData.canLayAll0, Pd.can x, ih]
  low := fun d => by
    show PyData.depth (.list (d.map Pd.py)) ≤ Pd.dep α + 1
    rw [PyData.depth]
    have : PyData.depthAll (d.map Pd.py) ≤ Pd.dep α := by
      induction d with
      | nil => simp [PyData.depthAll]
      | cons x r ih =>
        have := Pd.low x
        simp only [List.map_cons, PyData.depthAll]
        omega
    omega
  eqv := fun a b => by
    show PyData.eqv (.list (a.map Pd.py)) (.list (b.map Pd.py)) = true ↔ a = b
    rw [PyData.eqv]
    induction a generalizing b with
    | nil => cases b <;> simp [PyData.eqvAll]
    | cons x r ih =>
      cases b with
      | nil => simp [PyData.eqvAll]
      | cons y t => simp [PyData.eqvAll, Pd.eqv, ih]
instance {α β : Type} [Pd α] [Pd β] : Pd (α × β) where
  py := fun p => .tuple [Pd.py p.1, Pd.py p.2]
  dep := max (Pd.dep α) (Pd.dep β) + 1
  dp := fun h => by
    obtain ⟨a, x, y, rfl, h2, h3, h4⟩ := h
    exact .tup (SqT.of h2) (.cons (Pd.dp h3) (.cons (Pd.dp h4) .nil))
  can := fun d => by simp [PyData.canLay0, PyData.canLayAll0, Pd.can]
  low := fun d => by
    have h1 := Pd.low d.1
    have h2 := Pd.low d.2
    simp only [PyData.depth, PyData.depthAll]
    omega
  eqv := fun a b => by simp [PyData.eqv, PyData.eqvAll, Pd.eqv, Prod.ext_iff]
section
variable {c : Cn} {Γ : List Sl} {ta tb te tl : TE} {tt tc : TT} {t u : TS} {s : Sl} {α β γ : Type} {P : Po}
theorem rEqD_of [Pd α] {Z : Zz} {H : Hp} {v w : V} {x y : α} {Q : VK} (h : Rp.rp Z H v x) (h' : Rp.rp Z H w y) (hd : Pd.dep α ≤ 64) (q : Q (.bl (PyData.eqv (Pd.py x) (Pd.py y))) H) : rEqD Z.K v w H Q :=
  ⟨Pd.py x, Pd.py y, Pd.dp h, Pd.dp h', by simp [SeqAt.shaped, Pd.can, Nat.le_trans (Pd.low x) hd], by simp [SeqAt.shaped, Pd.can, Nat.le_trans (Pd.low y) hd], q⟩
theorem rNeD_of [Pd α] {Z : Zz} {H : Hp} {v w : V} {x y : α} {Q : VK} (h : Rp.rp Z H v x) (h' : Rp.rp Z H w y) (hd : Pd.dep α ≤ 64) (q : Q (.bl (!PyData.eqv (Pd.py x) (Pd.py y))) H) : rNeD Z.K v w H Q :=
  ⟨Pd.py x, Pd.py y, Pd.dp h, Pd.dp h', by simp [SeqAt.shaped, Pd.can, Nat.le_trans (Pd.low x) hd], by simp [SeqAt.shaped, Pd.can, Nat.le_trans (Pd.low y) hd], q⟩
theorem eqv_dec [Pd α] [DecidableEq α] (x y : α) : PyData.eqv (Pd.py x) (Pd.py y) = decide (x = y) := by
  have := Pd.eqv x y
  by_cases h : x = y
  · rw [decide_eq_true h]; exact this.mpr h
  · rw [decide_eq_false h]
    cases e : PyData.eqv (Pd.py x) (Pd.py y) with
    | false => rfl
    | true => exact absurd (this.mp e) h
theorem ev_eqD [Pd α] [DecidableEq α] {x y : α} (ha : Ev c Γ ta (.im x)) (hb : Ev c Γ tb (.im y)) (hd : Pd.dep α ≤ 64) : Ev c Γ (tOp (gEq c.Z.K) ta tb) (.im (decide (x = y))) := ev_opv ha hb fun R H v w sm rv rw => ⟨.bl _, rfl, fun Q q =>
  .inr (rEqD_of (Rp.mono sm rv) (Rp.mono sm rw) hd (by rw [eqv_dec]; exact q))⟩
theorem ev_neD [Pd α] [DecidableEq α] {x y : α} (ha : Ev c Γ ta (.im x)) (hb : Ev c Γ tb (.im y)) (hd : Pd.dep α ≤ 64) : Ev c Γ (tOp (gNe c.Z.K) ta tb) (.im (!decide (x = y))) := ev_opv ha hb fun R H v w sm rv rw => ⟨.bl _, rfl, fun Q q =>
  .inr (rNeD_of (Rp.mono sm rv) (Rp.mono sm rw) hd (by rw [eqv_dec]; exact q))⟩
theorem ev_eqL {x y : List Int} (ha : Ev c Γ ta (.im x)) (hb : Ev c Γ tb (.im y)) : Ev c Γ (tOp (gEq c.Z.K) ta tb) (.im (decide (x = y))) := ev_eqD ha hb (by decide)
theorem ev_neL {x y : List Int} (ha : Ev c Γ ta (.im x)) (hb : Ev c Γ tb (.im y)) : Ev c Γ (tOp (gNe c.Z.K) ta tb) (.im (!decide (x = y))) := ev_neD ha hb (by decide)
theorem ev_eqLL {x y : List (List Int)} (ha : Ev c Γ ta (.im x)) (hb : Ev c Γ tb (.im y)) : Ev c Γ (tOp (gEq c.Z.K) ta tb) (.im (decide (x = y))) := ev_eqD ha hb (by decide)
theorem ev_neLL {x y : List (List Int)} (ha : Ev c Γ ta (.im x)) (hb : Ev c Γ tb (.im y)) : Ev c Γ (tOp (gNe c.Z.K) ta tb) (.im (!decide (x = y))) := ev_neD ha hb (by decide)
theorem ev_eqP {x y : Int × Int} (ha : Ev c Γ ta (.im x)) (hb : Ev c Γ tb (.im y)) : Ev c Γ (tOp (gEq c.Z.K) ta tb) (.im (decide (x = y))) := ev_eqD ha hb (by decide)
theorem ev_neP {x y : Int × Int} (ha : Ev c Γ ta (.im x)) (hb : Ev c Γ tb (.im y)) : Ev c Γ (tOp (gNe c.Z.K) ta tb) (.im (!decide (x = y))) := ev_neD ha hb (by decide)
theorem w_raise1 {n : CN} {f : Str} {i : Int} (h : Ev c Γ ta (.im i)) (k : c.ex ⟨n, [(f, .int i)]⟩ Γ) : W c Γ (tRaiseN (c.Z.cls n) [f] c.X (tCons ta tNil)) P := w_raiseN n [f] [i] (ea_cons h ea_nil) rfl (by show 1 ≤ 900; decide) (by simp) k
theorem w_raise2 {n : CN} {f g : Str} {i j : Int} (h : Ev c Γ ta (.im i)) (h2 : Ev c Γ tb (.im j)) (k : c.ex ⟨n, [(g, .int j), (f, .int i)]⟩ Γ) : W c Γ (tRaiseN (c.Z.cls n) [f, g] c.X (tCons ta (tCons tb tNil))) P := w_raiseN n [f, g] [i, j] (ea_cons h (ea_cons h2 ea_nil)) rfl (by show 2 ≤ 900; decide) (by simp) k
theorem w_raise3 {n : CN} {f g e : Str} {i j m : Int} (h : Ev c Γ ta (.im i)) (h2 : Ev c Γ tb (.im j)) (h3 : Ev c Γ te (.im m)) (k : c.ex ⟨n, [(e, .int m), (g, .int j), (f, .int i)]⟩ Γ) : W c Γ (tRaiseN (c.Z.cls n) [f, g, e] c.X (tCons ta (tCons tb (tCons te tNil)))) P := w_raiseN n [f, g, e] [i, j, m] (ea_cons h (ea_cons h2 (ea_cons h3 ea_nil))) rfl (by show 3 ≤ 900; decide) (by simp) k
/-! calls whose answers are told by a set -/
def EvS (c : Cn) (Γ : List Sl) (t : TE) (S : Sl → Prop) : Prop := ∀ B R0 R H ρ Δ σ, Sx c.Z B R0 R H ρ Δ σ Γ → ∀ Q : VK, (∀ v s R' H', S s → Sx c.Z B R0 R' H' (some v :: ρ) (s :: Δ) σ Γ → Q v H') → Xok c B R0 ρ Δ → t σ H Q
theorem es_call {T : Tm} {t : TA} {ss : List Sl} {S : Sl → Prop} (ha : EvA c Γ t ss) (hT : T (ss ++ []) S fun r => c.ex r Γ) : EvS c Γ (tCallSD (spOf c.Z T) [] (WE c.X) t) S := fun B R0 R H ρ Δ σ S0 Q q xk => ha B R0 R H ρ Δ σ S0 _ (fun vs R1 H1 S1 sl => by
  refine ⟨R1, ss ++ [], _, _, sx_same S1, slims_append sl .nil, hT, fun v R' H' s' S' e => ?_, fun r cls d H' e rx er => ?_⟩
  · exact q v s' R' H' e (sx_call S1 S')
  · obtain ⟨R2, _, S2, rx2⟩ := sx_callX S1 e rx
    exact xk R2 H' σ Γ r cls d S2 rx2 er) xk
theorem w_asgS {i : Nat} {S : Sl → Prop} (h : EvS c Γ te S) (k : ∀ s, S s → P.nx (Γ.set i s)) : W c Γ (tAsg te (gName i)) P := fun B R0 R H ρ Δ σ D S0 n r b kk x =>
  h B R0 R H ρ Δ σ S0 _ (fun v s R1 H1 e S1 => n R1 H1 _ _ (sx_asg S1 i) (k s e)) x
theorem w_dropS {S : Sl → Prop} (h : EvS c Γ te S) (k : ∀ s, S s → P.nx Γ) : W c Γ (tDrop te) P := fun B R0 R H ρ Δ σ D S0 n r b kk x =>
  h B R0 R H ρ Δ σ S0 _ (fun v s R1 H1 e S1 => n R1 H1 _ _ (sx_pop S1) (k s e)) x
theorem w_retS {S : Sl → Prop} (h : EvS c Γ te S) (k : ∀ s, S s → P.rt s) : W c Γ (tRet te) P := fun B R0 R H ρ Δ σ D S0 n r b kk x =>
  h B R0 R H ρ Δ σ S0 _ (fun v s R1 H1 e S1 => r R1 H1 v s (sx_leave S1) (k s e)) x
/-- a statement, what holds between, the rest -/
theorem w_mid (M : List Sl → Prop) (h : W c Γ t ⟨M, P.rt, P.bk, P.ct⟩) (k : ∀ G, M G → W c G u P) : W c Γ (tSeq t u) P := w_seq (h.imp (fun G q => k G q) (fun _ q => q) (fun _ q => q) (fun _ q => q))
/-! written lists -/
def EvH {α : Type} (c : Cn) (Γ : List Sl) (_ : Rp α) (t : TA) (xs : List α) : Prop := EvA c Γ t (xs.map fun x => .im x)
theorem evh_nil {i : Rp α} : EvH c Γ i tNil ([] : List α) := ea_nil
theorem evh_cons {i : Rp α} {x : α} {xs : List α} {tr : TA} (h : Ev c Γ te (.im x)) (hr : EvH c Γ i tr xs) : EvH c Γ i (tCons te tr) (x :: xs) := ea_cons h hr
theorem ev_lstH {i : Rp α} {xs : List α} {t : TA} (h : EvH c Γ i t xs) (hl : xs.length ≤ 1000) : Ev c Γ (tLst t) (.ol xs) := ev_lst xs h hl
/-! isinstance -/
theorem ev_isi {_ : Rp α} {x : α} (n m : String) (b : Bool) (ha : Ev c Γ ta (.im x)) (ht : ∀ R H v, Same R H → Rp.rp c.Z R v x → TyX c.Z.K H v (.type m)) (hk : kitB m n = some b) : Ev c Γ (tCB (rIsi c.Z.K) (tCons ta (tCons (tC (.ty n)) tNil))) (.im b) := fun B R0 R H ρ Δ σ S Q q xk => ha B R0 R H ρ Δ σ S _ (fun v R1 H1 S1 =>
  ⟨v, .ty n, .type m, .type n, b, rfl, .ty n, ht R1 H1 v (sx_same S1) (sx_top' S1), kit_ty hk, q _ R1 H1 (sx_push (sx_pop S1) rfl)⟩) xk
theorem ev_isiII {x : Int} (ha : Ev c Γ ta (.im x)) : Ev c Γ (tCB (rIsi c.Z.K) (tCons ta (tCons (tC (.ty "int")) tNil))) (.im true) := ev_isi "int" "int" true ha (fun R H v _ h => by cases h; exact .base (.int _)) (by decide +kernel)
theorem ev_isiIB {x : Int} (ha : Ev c Γ ta (.im x)) : Ev c Γ (tCB (rIsi c.Z.K) (tCons ta (tCons (tC (.ty "bool")) tNil))) (.im false) := ev_isi "bool" "int" false ha (fun R H v _ h => by cases h; exact .base (.int _)) (by decide +kernel)
theorem ev_isiLL {_ : Rp α} {x : List α} (ha : Ev c Γ ta (.im x)) : Ev c Γ (tCB (rIsi c.Z.K) (tCons ta (tCons (tC (.ty "list")) tNil))) (.im true) := ev_isi "list" "list" true ha (fun R H v e h => by obtain ⟨a, vs, rfl, h2, _⟩ := h; exact .base (.lst (e _ _ h2))) (by decide +kernel)
theorem ev_isiTT {_ : Rp α} {_ : Rp β} {x : α × β} (ha : Ev c Γ ta (.im x)) : Ev c Γ (tCB (rIsi c.Z.K) (tCons ta (tCons (tC (.ty "tuple")) tNil))) (.im true) := ev_isi "tuple" "tuple" true ha (fun R H v e h => by obtain ⟨a, y, z, rfl, h2, _⟩ := h; exact .base (.tup (e _ _ h2))) (by decide +kernel)
/-! cuts of the script -/
theorem ev_sliceS {l : Scr} {t1 t2 : TO} {lo hi : Option Int} (ha : Ev c Γ ta (.im l)) (h1 : ∀ B R0 R H ρ Δ σ, Sx c.Z B R0 R H ρ Δ σ Γ → ∀ Q : Option Int → Hp → Prop, (∀ R' H', Sx c.Z B R0 R' H' ρ Δ σ Γ → Q lo H') → Xok c B R0 ρ Δ → t1 σ H Q)
    (h2 : ∀ B R0 R H ρ Δ σ, Sx c.Z B R0 R H ρ Δ σ Γ → ∀ Q : Option Int → Hp → Prop, (∀ R' H', Sx c.Z B R0 R' H' ρ Δ σ Γ → Q hi H') → Xok c B R0 ρ Δ → t2 σ H Q) :
    Ev c Γ (tSl (rSlL c.Z.K) ta t1 t2) (.ol ((l.l.drop (HT.sIx l.l.length 0 lo)).take (HT.sIx l.l.length l.l.length hi - HT.sIx l.l.length 0 lo))) := fun B R0 R H ρ Δ σ S Q q xk => ha B R0 R H ρ Δ σ S _ (fun v R1 H1 S1 =>
  h1 B R0 R1 H1 _ _ σ S1 _ (fun R2 H2 S2 => h2 B R0 R2 H2 _ _ σ S2 _ (fun R3 H3 S3 => by
    obtain ⟨a, rfl, ha3⟩ := sx_top' S3
    refine ⟨a, _, rfl, (sx_same S3).seq ha3, fun p np => ?_⟩
    unfold cutV
    rw [List.length_map, ← List.map_drop, ← List.map_take]
    exact q _ R3 _ (sx_newl (sx_pop S3) np (paired_of_int _))) xk.push1) xk.push1) xk
theorem ev_cutS {l : Scr} {lo hi : Int} (ha : Ev c Γ ta (.im l)) (h1 : Ev c Γ tb (.im lo)) (h2 : Ev c Γ te (.im hi)) (h0 : 0 ≤ lo) (h3 : 0 ≤ hi) : Ev c Γ (tSl (rSlL c.Z.K) ta (tPart tb) (tPart te)) (.ol ((l.l.take hi.toNat).drop lo.toNat)) := by
  refine ev_is (ev_sliceS ha (eo_some h1) (eo_some h2)) (congrArg Sl.ol ?_)
  rw [sIx_of h0, sIx_of h3, List.drop_take]
  apply List.ext_getElem?
  intro k
  simp only [List.getElem?_take, List.getElem?_drop]
  grind
/-! own lists in a row of appends: an own list is frozen and appended -/
theorem ev_cat {_ : Rp α} {xs ys : List α} (ha : Ev c Γ ta (.im xs)) (hb : Ev c Γ tb (.im ys)) (hl : xs.length + ys.length < 1000000) : Ev c Γ (tOp gAdd ta tb) (.ol (xs ++ ys)) := ev_op ha hb fun B R0 R H ρ Δ σ v w S rv rw Q q => by
  obtain ⟨a, vs, rfl, h2, h3⟩ := rv
  obtain ⟨b, ws, rfl, h5, h6⟩ := rw
  have l1 := Paired.length h3
  have l2 := Paired.length h6
  exact .inr ⟨a, b, vs, ws, rfl, rfl, sx_same S _ _ h2, sx_same S _ _ h5, Nat.le_trans (by omega : vs.length + ws.length ≤ 1000000) (by decide), fun p np => q _ R _ (sx_newl S np (paired_append h3 h6))⟩
theorem ev_rep {_ : Rp α} {xs : List α} {k : Int} (ha : Ev c Γ ta (.im xs)) (hb : Ev c Γ tb (.im k)) (h0 : 0 ≤ k) (hl : xs.length * k.toNat ≤ 1000000) (hk : k < 1000000) : Ev c Γ (tOp gMul ta tb) (.ol (List.replicate k.toNat xs).flatten) := ev_op ha hb fun B R0 R H ρ Δ σ v w S rv rw Q q => by
  obtain ⟨a, vs, rfl, h2, h3⟩ := rv
  have l1 := Paired.length h3
  refine .inr (.inl ⟨a, k, vs, rfl, rw, sx_same S _ _ h2, by omega, by omega, by rw [l1]; exact Nat.le_trans hl (by decide), fun p np => q _ R _ (sx_newl S np ?_)⟩)
  generalize k.toNat = n
  induction n with
  | zero => exact .nil
  | succ n ih => rw [List.replicate_succ, List.replicate_succ, List.flatten_cons, List.flatten_cons]; exact paired_append h3 ih
/-- a call whose answer is told -/
theorem ev_callN {T : Tm} {t : TA} {ss : List Sl} (ha : EvA c Γ t ss) (hT : T (ss ++ []) (fun s' => s' = s) fun r => c.ex r Γ) : Ev c Γ (tCallSD (spOf c.Z T) [] (WE c.X) t) s := ev_call ha (fun _ => .nil) hT
theorem ev_callN0 {T : Tm} {t : TA} {ss : List Sl} (ha : EvA c Γ t ss) (hT : T (ss ++ []) (fun s' => s' = s) fun _ => False) : Ev c Γ (tCall (spOf c.Z T) [] E0 t) s := ev_call0 ha (fun _ => .nil) hT
end
theorem cmulS {i j : Int} (h1 : -1000000000000000000 ≤ i) (h2 : i ≤ 1000000000000000000) (h3 : -1000000000000000000 ≤ j) (h4 : j ≤ 1000000000000000000) : CMulW i j := wide_mul (a := 64) (b := 64) (by omega) (by omega) (by decide) (by decide) (by decide)
/-! ### a law -/
def T_law : Tm := tm1 fun (l : Scr) ok _ => l.l.length ≤ 63 ∧ ok (.im true)
def spLaw (K : PySem.W.Frag) : Sp := fun vs H Q _ => ∃ (a : Addr) (ns : List Int), vs = [.ref a] ∧ SqL K H a (ns.map V.int) ∧ ns.length ≤ 63 ∧ ∀ H', Q (.bl true) H'
theorem law_imp {K : PySem.W.Frag} {cls : CN → Addr} {vs : List V} {H : Hp} {Q : VK} {E : XK} (h : spLaw K vs H Q E) : spOf ⟨K, cls⟩ T_law vs H Q E := by
  obtain ⟨a, ns, rfl, hS, hl, k⟩ := h
  refine ⟨H, [.im (⟨ns⟩ : Scr)], fun s => s = .im true, fun _ => False, Same.refl _, .cons ⟨a, rfl, hS⟩ .nil, ⟨⟨ns⟩, rfl, hl, rfl⟩, fun v R' H' s S e => ?_, fun _ _ _ _ _ _ z => z.elim⟩
  subst e
  have : v = .bl true := sx_top' S
  subst this
  exact k H'
end TB

/-! TbL: own things lent to calls, frozen, own lists of own lists. -/
namespace TB
open PySem L2
/-! ### the frozen part and own things beside it -/
def frz (R H : Hp) (f : List Addr) : Hp := fun p => match R p with | some o => some o | none => if p ∈ f then H p else none
theorem frz_same {R H : Hp} {f : List Addr} : Same R (frz R H f) := fun b o e => by unfold frz; rw [e]
theorem frz_le {R H : Hp} {f : List Addr} (h : Same R H) : Same (frz R H f) H := fun b o e => by
  unfold frz at e
  cases q : R b with
  | some o2 =>
    rw [q] at e
    have e' : o2 = o := by simpa using e
    rw [← e']
    exact h b o2 q
  | none =>
    rw [q] at e
    simp only [] at e
    by_cases c : b ∈ f
    · rw [if_pos c] at e; exact e
    · rw [if_neg c] at e; cases e
theorem res_frz {R H : Hp} {f : List Addr} (h : Same R H) : Same (res H f) (frz R H f) := fun b o e => by
  obtain ⟨c, e2⟩ := res_some e
  unfold frz
  cases q : R b with
  | some o2 =>
    have := h b o2 q
    rw [e2] at this
    simpa using this.symm
  | none => simp only []; rw [if_pos c]; exact e2
theorem frz_in {R H : Hp} {f : List Addr} {p : Addr} {o : HO} (h : Same R H) (c : p ∈ f) (e : H p = some o) : frz R H f p = some o := res_frz h p o (by rw [res_in c]; exact e)
theorem frz_out {R H : Hp} {f : List Addr} {p : Addr} (c : p ∉ f) : frz R H f p = R p := by
  unfold frz
  cases q : R p with
  | some o => rfl
  | none => simp [c]
/-- own data, told within its own objects -/
def Fo {α : Type} [Rp α] (d : α) : Own := ⟨fun Z _ h v => Rp.rp Z h v d, fun _ h => h⟩
abbrev Sl.fo {α : Type} [Rp α] (d : α) : Sl := .ow (Fo d)
/-- a thing may be lent, or frozen, as data d -/
def Lnd (so : Sl) {α : Type} [Rp α] (d : α) : Prop := ∀ Z R H o f, Same R H → slok Z R H o so f → ∃ v, o = some v ∧ Rp.rp Z (frz R H f) v d
theorem lnd_ol {α : Type} [Rp α] {xs : List α} : Lnd (.ol xs) xs := fun Z R H o f sm h => by
  obtain ⟨p, vs, rfl, rfl, h3, h4⟩ := h
  exact ⟨_, rfl, p, vs, rfl, frz_in sm (by simp) h3, paired_mono (fun _ _ => Rp.mono frz_same) h4⟩
theorem inOk_rp {α : Type} [Rp α] {Z : Zz} {R H R' : Hp} (e : Same R R') : ∀ {qs : List Addr} {xss : List (List α)}, (∀ q ∈ qs, ∀ o, H q = some o → R' q = some o) → Paired (inOk Z R H) qs xss → Paired (Rp.rp Z R') (qs.map V.ref) xss
  | _, _, _, .nil => .nil
  | _, _, k, .cons r t => by
    obtain ⟨vs, h1, h2⟩ := r
    exact .cons ⟨_, vs, rfl, k _ List.mem_cons_self _ h1, paired_mono (fun _ _ => Rp.mono e) h2⟩ (inOk_rp e (fun q hq => k q (List.mem_cons_of_mem _ hq)) t)
theorem lnd_o2 {α : Type} [Rp α] {xss : List (List α)} : Lnd (.o2 xss) xss := fun Z R H o f sm h => by
  obtain ⟨p, qs, rfl, rfl, h3, h4⟩ := h
  exact ⟨_, rfl, p, _, rfl, frz_in sm (by simp) h3, inOk_rp frz_same (fun q hq o e => frz_in sm (List.mem_cons_of_mem _ hq) e) h4⟩
theorem lnd_fo {α : Type} [Rp α] {d : α} : Lnd (.fo d) d := fun Z R H o f sm h => by
  obtain ⟨v, rfl, h3, h4⟩ := h
  exact ⟨v, rfl, Rp.mono (res_frz sm) h3⟩
section
variable {Z : Zz} {B R0 R R' RL H H' : Hp} {τ ρ σ : List (Option V)} {Θ Δ Γ : List Sl} {s so : Sl} {o : Option V} {f own own' : List Addr} {α β γ : Type} {_ : Rp α} {_ : Rp β} {_ : Rp γ} {d : α}
theorem sy_frz (hL : Lnd so d) (S : Sy Z B R0 R H τ Θ) {i : Nat} (e : Θ[i]? = some so) : ∃ R', Same R R' ∧ Sy Z B R0 R' H τ (Θ.set i (.im d)) := by
  obtain ⟨own, hs, es⟩ := S
  obtain ⟨o, g1, f, g2, h2, h3, h4, h6⟩ := es_at es e
  subst h3
  obtain ⟨v, rfl, h5⟩ := hL Z R H o f hs.rh h4
  have nd := hs.nd
  have ne : ∀ q ∈ g1 ++ g2, q ∉ f := fun q hq z => by
    simp only [List.nodup_append, List.mem_append] at nd hq
    grind
  have h7 := h6 (frz R H f) H (some v) (.im d) [] frz_same (fun q hq => rfl) ⟨rfl, v, rfl, h5⟩
  have e2 : τ.set i (some v) = τ := by
    apply List.ext_getElem?
    intro j
    rw [List.getElem?_set]
    split
    · rename_i hj
      subst hj
      split
      · rw [h2]
      · rename_i hl
        rw [List.getElem?_eq_none (by omega)]
    · rfl
  rw [e2] at h7
  refine ⟨_, frz_same, _, ⟨frz_le hs.rh, hs.bh, hs.r0.trans frz_same, fun q u a => ?_, fun q hq => ?_, nd_mid hs.nd⟩, h7⟩
  · by_cases hq : q ∈ f
    · exact .inr (hs.ow q (by simp [hq])).2
    · rw [frz_out hq] at a
      exact hs.nw _ _ a
  · rw [List.append_nil] at hq
    rw [frz_out (ne q hq)]
    exact hs.ow q (by simp only [List.mem_append] at hq ⊢; grind)
theorem sx_frz (hL : Lnd so d) (S : Sx Z B R0 R H ρ Δ σ Γ) {i : Nat} (e : Γ[i]? = some so) : ∃ R', Same R R' ∧ Sx Z B R0 R' H ρ Δ σ (Γ.set i (.im d)) := by
  obtain ⟨h, S⟩ := S
  obtain ⟨R', h1, h2⟩ := sy_frz hL S (i := ρ.length + i) (by rw [at_slot h]; exact e)
  rw [h, List.set_append_right _ _ (by omega), show Δ.length + i - Δ.length = i by omega] at h2
  exact ⟨R', h1, h, h2⟩
theorem sx_frzTop (hL : Lnd so d) (S : Sx Z B R0 R H (o :: ρ) (so :: Δ) σ Γ) : ∃ R', Same R R' ∧ Sx Z B R0 R' H (o :: ρ) (.im d :: Δ) σ Γ := by
  obtain ⟨h, S⟩ := S
  obtain ⟨R', h1, h2⟩ := sy_frz hL S (i := 0) rfl
  exact ⟨R', h1, by simpa using h, h2⟩
/-! ### calls with things lent -/
/-- told without the frozen part -/
def Det (s : Sl) : Prop := ∀ Z R R' H o f, slok Z R H o s f → slok Z R' H o s f
theorem sx_callL (S : Sx Z B R0 R H ρ Δ σ Γ) (a : Same R RL) (hd : Det s) {v : V} (S2 : Sx Z H RL R' H' [some v] [s] [] []) : Sx Z B R0 R H' (some v :: ρ) (s :: Δ) σ Γ := by
  obtain ⟨hl, own, hs, es⟩ := S
  obtain ⟨_, own2, hs2, f, g, rfl, h1, h2⟩ := S2
  have hg : g = [] := h2
  subst hg
  rw [List.append_nil] at hs2
  have key : ∀ p ∈ own, H' p = H p ∧ p ∉ f := fun p hp => by
    have h3 := es_some es p hp
    obtain ⟨o, ho⟩ : ∃ o, H p = some o := by
      cases e : H p with
      | none => exact absurd e h3
      | some o => exact ⟨o, rfl⟩
    refine ⟨?_, fun hf => ?_⟩
    · rw [ho, hs2.bh p o ho]
    · exact h3 (hs2.ow p hf).2
  refine ⟨by simp [hl], f ++ own, ⟨hs.rh.trans hs2.bh, hs.bh.trans hs2.bh, hs.r0, hs.nw, fun p hp => ?_, ?_⟩, f, own, rfl, hd _ _ _ _ _ _ h1, es_mono (Same.refl _) (fun p hp => (key p hp).1) es⟩
  · rcases List.mem_append.mp hp with q | q
    · exact ⟨hs.rh.free (hs2.ow p q).2, hs.bh.free (hs2.ow p q).2⟩
    · exact hs.ow p q
  · rw [List.nodup_append]
    exact ⟨hs2.nd, hs.nd, fun a ha b hb e => (key b hb).2 (e ▸ ha)⟩
end
/-- data that need no heap -/
class Flt (α : Type) [Rp α] : Prop where
  fl : ∀ {Z : Zz} {H H' : Hp} {v : V} {d : α}, Rp.rp Z H v d → Rp.rp Z H' v d
instance : Flt Int := ⟨fun h => h⟩
instance : Flt Bool := ⟨fun h => h⟩
instance : Flt Unit := ⟨fun h => h⟩
instance : Flt Str := ⟨fun h => h⟩
instance {α : Type} [Rp α] [Flt α] : Flt (Option α) := ⟨fun {Z H H' v d} h => by
  cases d with
  | none => exact h
  | some x => exact Flt.fl (α := α) h⟩
theorem det_un : Det .un := fun _ _ _ _ _ _ h => h
theorem det_im {α : Type} [Rp α] [Flt α] {d : α} : Det (.im d) := fun Z R R' H o f h => by
  obtain ⟨h1, v, h2, h3⟩ := h
  exact ⟨h1, v, h2, Flt.fl h3⟩
theorem det_ol {α : Type} [Rp α] [Flt α] {xs : List α} : Det (.ol xs) := fun Z R R' H o f h => by
  obtain ⟨p, vs, h1, h2, h3, h4⟩ := h
  exact ⟨p, vs, h1, h2, h3, paired_mono (fun _ _ => Flt.fl) h4⟩
theorem det_o2 {α : Type} [Rp α] [Flt α] {xss : List (List α)} : Det (.o2 xss) := fun Z R R' H o f h => by
  obtain ⟨p, qs, h1, h2, h3, h4⟩ := h
  exact ⟨p, qs, h1, h2, h3, paired_mono (fun _ _ ⟨vs, a, b⟩ => ⟨vs, a, paired_mono (fun _ _ => Flt.fl) b⟩) h4⟩
theorem det_fo {α : Type} [Rp α] {d : α} : Det (.fo d) := fun Z R R' H o f h => h
section
variable {c : Cn} {Γ : List Sl} {ta tb te tl : TE} {tt tc : TT} {t u : TS} {s so : Sl} {α β γ : Type} {_ : Rp α} {_ : Rp β} {_ : Rp γ} {P : Po} {d : α}
theorem w_frz {d : α} (i : Nat) (hL : Lnd so d) (e : Γ[i]? = some so) (h : W c (Γ.set i (.im d)) t P) : W c Γ t P := fun B R0 R H ρ Δ σ D S n r b kk x => by
  obtain ⟨R', _, S'⟩ := sx_frz hL S e
  exact h B R0 R' H ρ Δ σ D S' n r b kk x
theorem w_fr2 {xss : List (List α)} (i : Nat) (e : Γ[i]? = some (.o2 xss)) (h : W c (Γ.set i (.im xss)) t P) : W c Γ t P := w_frz i lnd_o2 e h
theorem w_frF {d : α} (i : Nat) (e : Γ[i]? = some (.fo d)) (h : W c (Γ.set i (.im d)) t P) : W c Γ t P := w_frz i lnd_fo e h
theorem ev_frz {d : α} (hL : Lnd so d) (h : Ev c Γ te so) : Ev c Γ te (.im d) := fun B R0 R H ρ Δ σ S Q q x => h B R0 R H ρ Δ σ S Q (fun v R' H' S' => by
  obtain ⟨R2, _, S2⟩ := sx_frzTop hL S'
  exact q v R2 H' S2) x
theorem ev_fr2 {xss : List (List α)} (h : Ev c Γ te (.o2 xss)) : Ev c Γ te (.im xss) := ev_frz lnd_o2 h
theorem ev_frF {d : α} (h : Ev c Γ te (.fo d)) : Ev c Γ te (.im d) := ev_frz lnd_fo h
/-- arguments, some of them lent -/
def EvB (c : Cn) (Γ : List Sl) (t : TA) (ss : List Sl) : Prop := ∀ B R0 R H ρ Δ σ, Sx c.Z B R0 R H ρ Δ σ Γ → ∀ Q : List V → Hp → Prop, (∀ vs R' H' RL, Sx c.Z B R0 R' H' ρ Δ σ Γ → Same R' RL → Same RL H' → Slims c.Z RL vs ss → Q vs H') → Xok c B R0 ρ Δ → t σ H Q
theorem eb_nil : EvB c Γ tNil [] := fun B R0 R H ρ Δ σ S Q q _ => q [] R H R S (Same.refl _) (sx_same S) .nil
theorem eb_cons {d : α} {tr : TA} {ss : List Sl} (h : Ev c Γ te (.im d)) (hr : EvB c Γ tr ss) : EvB c Γ (tCons te tr) (.im d :: ss) := fun B R0 R H ρ Δ σ S Q q xk => h B R0 R H ρ Δ σ S _ (fun v R1 H1 S1 =>
  hr B R0 R1 H1 _ _ σ S1 _ (fun vs R2 H2 RL S2 a b sl => q (v :: vs) R2 H2 RL (sx_pop S2) a b (.cons (Rp.mono a (sx_top' S2)) sl)) xk.push1) xk
theorem eb_own {d : α} {i : Nat} {tr : TA} {ss : List Sl} (hL : Lnd so d) (e : Γ[i]? = some so) (hr : EvB c Γ tr ss) : EvB c Γ (tCons (tVar i) tr) (.im d :: ss) := fun B R0 R H ρ Δ σ S Q q xk => by
  obtain ⟨o, f, h1, h2⟩ := sx_slot S e
  obtain ⟨v, rfl, _⟩ := hL _ _ _ _ _ (sx_same S) h2
  refine ⟨v, h1, hr B R0 R H ρ Δ σ S _ (fun vs R2 H2 RL S2 a b sl => ?_) xk⟩
  obtain ⟨o2, f2, g1, g2⟩ := sx_slot S2 e
  rw [h1] at g1
  cases g1
  obtain ⟨v', e', rp⟩ := hL c.Z RL H2 _ f2 b (slok_mono a (fun _ _ => rfl) g2)
  cases e'
  exact q (v :: vs) R2 H2 (frz RL H2 f2) S2 (a.trans frz_same) (frz_le b) (.cons rp (slims_mono frz_same sl))
theorem ev_callL {T : Tm} {t : TA} {ss : List Sl} (ha : EvB c Γ t ss) (hd : Det s) (hT : T (ss ++ []) (fun s' => s' = s) fun r => c.ex r Γ) : Ev c Γ (tCallSD (spOf c.Z T) [] (WE c.X) t) s := fun B R0 R H ρ Δ σ S Q q xk => ha B R0 R H ρ Δ σ S _ (fun vs R1 H1 RL S1 a b sl => by
  refine ⟨RL, ss ++ [], _, _, b, slims_append sl .nil, hT, fun v R' H' s' S' e => ?_, fun r cls d H' e rx er => ?_⟩
  · subst e
    exact q v R1 H' (sx_callL S1 a hd S')
  · obtain ⟨R2, _, S2, rx2⟩ := sx_callX S1 e rx
    exact xk R2 H' σ Γ r cls d S2 rx2 er) xk
theorem es_callL {T : Tm} {t : TA} {ss : List Sl} {S : Sl → Prop} (ha : EvB c Γ t ss) (hd : ∀ s, S s → Det s) (hT : T (ss ++ []) S fun r => c.ex r Γ) : EvS c Γ (tCallSD (spOf c.Z T) [] (WE c.X) t) S := fun B R0 R H ρ Δ σ S0 Q q xk => ha B R0 R H ρ Δ σ S0 _ (fun vs R1 H1 RL S1 a b sl => by
  refine ⟨RL, ss ++ [], _, _, b, slims_append sl .nil, hT, fun v R' H' s' S' e => ?_, fun r cls d H' e rx er => ?_⟩
  · exact q v s' R1 H' e (sx_callL S1 a (hd _ e) S')
  · obtain ⟨R2, _, S2, rx2⟩ := sx_callX S1 e rx
    exact xk R2 H' σ Γ r cls d S2 rx2 er) xk
/-! ### == with a thing lent -/
theorem ev_opL {r : R2} {x : α} {y : β} {z : γ} {i : Nat} (hL : Lnd so x) (e : Γ[i]? = some so) (hb : Ev c Γ tb (.im y)) (hr : ∀ R H v w, Same R H → Rp.rp c.Z R v x → Rp.rp c.Z R w y → ∃ k, (∀ R, Rp.rp c.Z R k z) ∧ ∀ Q : VK, Q k H → r v w H Q) : Ev c Γ (tOp r (tVar i) tb) (.im z) := fun B R0 R H ρ Δ σ S Q q xk => by
  obtain ⟨o, f, h1, h2⟩ := sx_slot S e
  obtain ⟨v, rfl, _⟩ := hL _ _ _ _ _ (sx_same S) h2
  refine ⟨v, h1, hb B R0 R H ρ Δ σ S _ (fun w R2 H2 S2 => ?_) xk⟩
  obtain ⟨o2, f2, g1, g2⟩ := sx_slot (sx_pop S2) e
  rw [h1] at g1
  cases g1
  obtain ⟨v', e', rp⟩ := hL _ _ _ _ _ (sx_same S2) g2
  cases e'
  obtain ⟨k, k1, k2⟩ := hr (frz R2 H2 f2) H2 v w (frz_le (sx_same S2)) rp (Rp.mono frz_same (sx_top' S2))
  exact k2 Q (q k R2 H2 (sx_push (sx_pop S2) (k1 R2)))
theorem ev_opR {r : R2} {x : α} {y : β} {z : γ} {i : Nat} (ha : Ev c Γ ta (.im x)) (hL : Lnd so y) (e : Γ[i]? = some so) (hr : ∀ R H v w, Same R H → Rp.rp c.Z R v x → Rp.rp c.Z R w y → ∃ k, (∀ R, Rp.rp c.Z R k z) ∧ ∀ Q : VK, Q k H → r v w H Q) : Ev c Γ (tOp r ta (tVar i)) (.im z) := fun B R0 R H ρ Δ σ S Q q xk => by
  refine ha B R0 R H ρ Δ σ S _ (fun v R2 H2 S2 => ?_) xk
  obtain ⟨o2, f2, g1, g2⟩ := sx_slot (sx_pop S2) e
  obtain ⟨w, e', rp⟩ := hL _ _ _ _ _ (sx_same S2) g2
  subst e'
  obtain ⟨k, k1, k2⟩ := hr (frz R2 H2 f2) H2 v w (frz_le (sx_same S2)) (Rp.mono frz_same (sx_top' S2)) rp
  exact ⟨w, g1, k2 Q (q k R2 H2 (sx_push (sx_pop S2) (k1 R2)))⟩
theorem ev_eqDL {δ : Type} [Pd δ] [DecidableEq δ] {x y : δ} {i : Nat} (hL : Lnd so x) (e : Γ[i]? = some so) (hb : Ev c Γ tb (.im y)) (hd : Pd.dep δ ≤ 64) : Ev c Γ (tOp (gEq c.Z.K) (tVar i) tb) (.im (decide (x = y))) := ev_opL hL e hb fun R H v w sm rv rw => ⟨.bl _, fun _ => rfl, fun Q q =>
  .inr (rEqD_of (Rp.mono sm rv) (Rp.mono sm rw) hd (by rw [eqv_dec]; exact q))⟩
theorem ev_neDL {δ : Type} [Pd δ] [DecidableEq δ] {x y : δ} {i : Nat} (hL : Lnd so x) (e : Γ[i]? = some so) (hb : Ev c Γ tb (.im y)) (hd : Pd.dep δ ≤ 64) : Ev c Γ (tOp (gNe c.Z.K) (tVar i) tb) (.im (!decide (x = y))) := ev_opL hL e hb fun R H v w sm rv rw => ⟨.bl _, fun _ => rfl, fun Q q =>
  .inr (rNeD_of (Rp.mono sm rv) (Rp.mono sm rw) hd (by rw [eqv_dec]; exact q))⟩
theorem ev_eqDR {δ : Type} [Pd δ] [DecidableEq δ] {x y : δ} {i : Nat} (ha : Ev c Γ ta (.im x)) (hL : Lnd so y) (e : Γ[i]? = some so) (hd : Pd.dep δ ≤ 64) : Ev c Γ (tOp (gEq c.Z.K) ta (tVar i)) (.im (decide (x = y))) := ev_opR ha hL e fun R H v w sm rv rw => ⟨.bl _, fun _ => rfl, fun Q q =>
  .inr (rEqD_of (Rp.mono sm rv) (Rp.mono sm rw) hd (by rw [eqv_dec]; exact q))⟩
end
/-! ### own lists of own lists -/
theorem paired_in_upd {α : Type} [Rp α] {Z : Zz} {R H : Hp} {q : Addr} {vs' : List V} {ys : List α} (hy : Paired (Rp.rp Z R) vs' ys) : ∀ {qs : List Addr} {xss : List (List α)} {j : Nat}, qs.Nodup → qs[j]? = some q → Paired (inOk Z R H) qs xss → Paired (inOk Z R (upd H q (.lst vs'))) qs (xss.set j ys)
  | _, _, j, _, e, .nil => by simp at e
  | a :: qs, _, 0, nd, e, .cons r t => by
    have e' : a = q := by simpa using e
    subst e'
    have nd' := List.nodup_cons.mp nd
    exact .cons ⟨vs', upd_same, hy⟩ (paired_inOk (Same.refl _) (fun p hp => upd_ne fun z => nd'.1 (z ▸ hp)) t)
  | a :: qs, _, j + 1, nd, e, .cons r t => by
    have nd' := List.nodup_cons.mp nd
    have e' : qs[j]? = some q := by simpa using e
    have ne : a ≠ q := fun z => nd'.1 (z ▸ List.mem_of_getElem? e')
    exact .cons (inOk_mono (Same.refl _) (upd_ne ne) r) (paired_in_upd hy nd'.2 e' t)
section
variable {Z : Zz} {B R0 R R' RL H H' : Hp} {τ ρ σ : List (Option V)} {Θ Δ Γ : List Sl} {s so : Sl} {o : Option V} {f own own' : List Addr} {α β γ : Type} {_ : Rp α} {_ : Rp β} {_ : Rp γ}
theorem set_same {τ : List (Option V)} {i : Nat} {o : Option V} (h2 : τ[i]? = some o) : τ.set i o = τ := by
  apply List.ext_getElem?
  intro j
  rw [List.getElem?_set]
  split
  · rename_i hj
    subst hj
    split
    · rw [h2]
    · rename_i hl
      rw [List.getElem?_eq_none (by omega)]
  · rfl
theorem sy_mut2 {xss : List (List α)} (S : Sy Z B R0 R H τ Θ) {i : Nat} (e : Θ[i]? = some (.o2 xss)) : ∃ p qs, τ[i]? = some (some (.ref p)) ∧ H p = some (.lst (qs.map V.ref)) ∧ Paired (inOk Z R H) qs xss ∧
    ∀ (j : Nat) (q : Addr) (vs' : List V) (ys : List α), qs[j]? = some q → Paired (Rp.rp Z R) vs' ys → Sy Z B R0 R (upd H q (.lst vs')) τ (Θ.set i (.o2 (xss.set j ys))) := by
  obtain ⟨own, hs, es⟩ := S
  obtain ⟨o, g1, f, g2, h2, h3, ⟨p, qs, rfl, rfl, h4, h5⟩, h6⟩ := es_at es e
  subst h3
  refine ⟨p, qs, h2, h4, h5, fun j q vs' ys hq hy => ?_⟩
  have hqm : q ∈ qs := List.mem_of_getElem? hq
  have hp := hs.ow q (by simp [hqm])
  have nd := hs.nd
  have ne : ∀ b ∈ g1 ++ g2, b ≠ q := fun b hb z => by
    subst z
    simp only [List.nodup_append, List.mem_append, List.mem_cons] at nd hb
    grind
  have ndq : (p :: qs).Nodup := by
    simp only [List.nodup_append] at nd
    exact nd.1.2.1
  have ndq' := List.nodup_cons.mp ndq
  have np : p ≠ q := fun z => ndq'.1 (z ▸ hqm)
  have h7 := h6 R (upd H q (.lst vs')) (some (.ref p)) (.o2 (xss.set j ys)) (p :: qs) (Same.refl _) (fun b hb => upd_ne (ne b hb)) ⟨p, qs, rfl, rfl, by rw [upd_ne np]; exact h4, paired_in_upd hy ndq'.2 hq h5⟩
  rw [set_same h2] at h7
  exact ⟨_, ⟨fun b u a => by rw [upd_ne (ne_of_none a hp.1)]; exact hs.rh _ _ a, fun b u a => by rw [upd_ne (ne_of_none a hp.2)]; exact hs.bh _ _ a, hs.r0, hs.nw, hs.ow, hs.nd⟩, h7⟩
theorem sx_mut2 {xss : List (List α)} (S : Sx Z B R0 R H ρ Δ σ Γ) {i : Nat} (e : Γ[i]? = some (.o2 xss)) : ∃ p qs, σ[i]? = some (some (.ref p)) ∧ H p = some (.lst (qs.map V.ref)) ∧ Paired (inOk Z R H) qs xss ∧
    ∀ (j : Nat) (q : Addr) (vs' : List V) (ys : List α), qs[j]? = some q → Paired (Rp.rp Z R) vs' ys → Sx Z B R0 R (upd H q (.lst vs')) ρ Δ σ (Γ.set i (.o2 (xss.set j ys))) := by
  obtain ⟨h, S⟩ := S
  obtain ⟨p, qs, h1, h2, h3, h4⟩ := sy_mut2 S (i := ρ.length + i) (by rw [at_slot h]; exact e)
  rw [at_slot'] at h1
  refine ⟨p, qs, h1, h2, h3, fun j q vs' ys hq hy => ⟨h, ?_⟩⟩
  have q2 := h4 j q vs' ys hq hy
  rw [h, List.set_append_right _ _ (by omega), show Δ.length + i - Δ.length = i by omega] at q2
  exact q2
theorem sx_new2 (S : Sx Z B R0 R H ρ Δ σ Γ) {p : Addr} (hp : H p = none) : Sx Z B R0 R (upd H p (.lst [])) (some (.ref p) :: ρ) (.o2 ([] : List (List α)) :: Δ) σ Γ := by
  have S2 := sx_newl (α := α) S hp .nil
  obtain ⟨hl, own, hs, f, g, rfl, ⟨p', vs, rfl, h2, h3, h4⟩, h5⟩ := S2
  cases h2
  rw [upd_same] at h3
  cases h3
  exact ⟨hl, _, hs, [p], g, rfl, ⟨p, [], rfl, rfl, upd_same, .nil⟩, h5⟩
theorem sx_app2 {xs : List α} {xss : List (List α)} {w : V} {Dl : Addr} (S : Sx Z B R0 R H (some w :: some (.ref Dl) :: ρ) (.ol xs :: .o2 xss :: Δ) σ Γ) : ∃ vs, H Dl = some (.lst vs) ∧ vs.length = xss.length ∧ Sx Z B R0 R (upd H Dl (.lst (vs ++ [w]))) (some (.ref Dl) :: ρ) (.o2 (xss ++ [xs]) :: Δ) σ Γ := by
  obtain ⟨hl, own, hs, f, g, rfl, ⟨q, vs, rfl, h2, h3, h4⟩, f2, g2, rfl, ⟨p, qs, rfl, h6, h7, h8⟩, h9⟩ := S
  cases h2
  cases h6
  have nd := hs.nd
  have hp := hs.ow Dl (by simp)
  have ndp : Dl ≠ q ∧ Dl ∉ qs ∧ Dl ∉ g2 := by
    simp only [List.nodup_append, List.nodup_cons, List.mem_append, List.mem_cons, List.mem_singleton] at nd
    grind
  refine ⟨_, h7, by rw [List.length_map, Paired.length h8], by simpa using hl, (Dl :: (qs ++ [q])) ++ g2, ⟨fun b u a => by rw [upd_ne (ne_of_none a hp.1)]; exact hs.rh _ _ a, fun b u a => by rw [upd_ne (ne_of_none a hp.2)]; exact hs.bh _ _ a, hs.r0, hs.nw, fun b hb => hs.ow b ?_, ?_⟩, Dl :: (qs ++ [q]), g2, rfl, ⟨Dl, qs ++ [q], rfl, rfl, ?_, ?_⟩, es_mono (Same.refl _) (fun b hb => upd_ne fun z => ndp.2.2 (z ▸ hb)) h9⟩
  · simp only [List.mem_append, List.mem_cons, List.mem_singleton, List.not_mem_nil, or_false] at hb ⊢
    grind
  · simp only [List.nodup_append, List.nodup_cons, List.mem_append, List.mem_cons, List.mem_singleton, List.cons_append, List.nil_append, List.append_assoc, List.not_mem_nil, or_false] at nd ⊢
    grind
  · rw [upd_same, List.map_append]
    rfl
  · exact paired_append (paired_inOk (Same.refl _) (fun b hb => upd_ne fun z => ndp.2.1 (z ▸ hb)) h8) (.cons ⟨vs, by rw [upd_ne (Ne.symm ndp.1)]; exact h3, h4⟩ .nil)
end
section
variable {c : Cn} {Γ : List Sl} {ta tb te tl : TE} {tt tc : TT} {t u : TS} {s so : Sl} {α β γ : Type} {_ : Rp α} {_ : Rp β} {_ : Rp γ} {P : Po} {d : α}
theorem ev_lc2 {wi : TI} {g : TG} {n : Nat} {us : Nat → List Sl → List Sl} {js vs : List Nat} (p : Nat → Bool) (f : Nat → List α) (hi : EvI c Γ wi g n us js) (hn : n < 1000000) (hj : ∀ j ∈ js, j ∈ vs) (hu : UnAt Γ vs)
    (ht : ∀ i, i < n → EvT c.no (us i Γ) tt (p i)) (he : ∀ i, i < n → p i = true → Ev c.no (us i Γ) te (.ol (f i))) : Ev c Γ (tLc wi g tt te vs) (.o2 (kept p f n)) := fun B R0 R H ρ Δ σ S Q q x =>
  hi B R0 R H ρ Δ σ S _ (fun J R1 H1 ρ' Δ' hl S1 ok Dl hD => by
    refine ⟨fun i m H => m = n - i ∧ i ≤ n ∧ ∃ R, Sx c.Z B R0 R H (some (.ref Dl) :: (ρ' ++ ρ)) (.o2 (kept p f i) :: (Δ' ++ Δ)) σ Γ, ⟨n, by simp, Nat.zero_le _, R1, sx_new2 S1 hD⟩, ?_⟩
    rintro i m H2 ⟨rfl, hin, R2, S2⟩
    by_cases hlt : i < n
    · refine .inr ⟨ok.go (ρx := [some (.ref Dl)]) (Δx := [.o2 (kept p f i)]) rfl S2 hlt, fun H' => ∃ R, Sx c.Z B R0 R H' (some (.ref Dl) :: (ρ' ++ ρ)) (.o2 (kept p f (i + 1)) :: (Δ' ++ Δ)) σ Γ, fun H' h => ⟨n - (i + 1), by omega, rfl, hlt, h⟩, fun y H' hy => ?_⟩
      have S2w := sx_wipe S2 vs
      rw [wipeG_un hu] at S2w
      refine ok.yld (ρx := [some (.ref Dl)]) (Δx := [.o2 (kept p f i)]) rfl S2w hlt hy _ fun R3 σ3 H3 S3 hw => ⟨(hw vs hj).trans (wipe_wipe _ vs), ?_⟩
      have back : ∀ {R4 H4 : Hp} {o : Option V} {s : Sl}, Sx c.Z B R0 R4 H4 (o :: (ρ' ++ ρ)) (s :: (Δ' ++ Δ)) σ3 (us i Γ) → Sx c.Z B R0 R4 H4 (o :: (ρ' ++ ρ)) (s :: (Δ' ++ Δ)) σ Γ := fun S4 => by
        have q4 := sx_wipe S4 vs
        rw [hw vs hj, wipe_wipe, ok.back i Γ vs hj, wipeG_un hu] at q4
        exact sx_unwipe hu q4
      refine ht i hlt B R0 R3 H3 _ _ σ3 S3 _ (fun R4 H4 S4 => ?_) (Xok.no c _ _ _ _)
      cases hp : p i with
      | false =>
        refine ⟨R4, ?_⟩
        rw [kept_no hp]
        exact back S4
      | true =>
        refine he i hlt hp B R0 R4 H4 _ _ σ3 S4 _ (fun w R5 H5 S5 => ?_) (Xok.no c _ _ _ _)
        obtain ⟨vs1, h1, h2, h3⟩ := sx_app2 S5
        have hl2 := kept_len p f i
        refine ⟨vs1, h1, Nat.lt_of_lt_of_le (by omega : vs1.length < 1000000) (by decide), R5, ?_⟩
        rw [kept_yes hp]
        exact back h3
    · have e : i = n := by omega
      subst e
      exact .inl ⟨ok.stop (ρx := [some (.ref Dl)]) (Δx := [.o2 (kept p f i)]) rfl S2, q _ R2 H2 (sx_drop1 hl S2)⟩) x
/-- [own list for x in xs] -/
theorem ev_mapL2 {xs : List α} {j : Nat} {vs : List Nat} (f : α → List β) (h : Ev c Γ tl (.im xs)) (hn : xs.length < 1000000) (hj : j ∈ vs) (hu : UnAt Γ vs) (he : ∀ x, x ∈ xs → Ev c.no (Γ.set j (.im x)) te (.ol (f x))) : Ev c Γ (tLc (iList c.Z.K tl) (gName j) tYes te vs) (.o2 (xs.map f)) := by
  refine ev_is (ev_lc2 (fun _ => true) (fun i => f (xs.getD i Rp.df)) (ei_list h) hn (fun k hk => by simp at hk; rw [hk]; exact hj) hu (fun i hi => fun B R0 R H ρ Δ σ S Q q _ => q R H S) (fun i hi _ => he _ (by rw [getD_eq hi]; exact List.getElem_mem hi))) ?_
  rw [kept_all]
  refine congrArg Sl.o2 (List.ext_getElem (by simp) fun i h1 h2 => ?_)
  simp at h1
  simp [h1]
/-- [list(row) for row in table], the table own -/
theorem ev_copyT2 {xss : List (List β)} {j : Nat} (h : Ev c Γ tl (.im xss)) (hn : xss.length < 1000000) (hu : UnAt Γ [j]) (hv : ∀ r : List β, (Γ.set j (.im r))[j]? = some (.im r)) : Ev c Γ (tLc (iList c.Z.K tl) (gName j) tYes (tCB (gList c.Z.K) (tCons (tVar j) tNil)) [j]) (.o2 xss) :=
  ev_is (ev_mapL2 (xs := xss) (fun r => r) h hn (by simp) hu fun r _ => ev_list (ev_var (hv r))) (congrArg Sl.o2 (List.map_id' _))
/-- worth d, the heap as it was -/
def EvP (c : Cn) (Γ : List Sl) (t : TE) {α : Type} [Rp α] (d : α) : Prop := ∀ B R0 R H ρ Δ σ, Sx c.Z B R0 R H ρ Δ σ Γ → ∀ Q : VK, (∀ v, Rp.rp c.Z R v d → Q v H) → t σ H Q
theorem ep_var {d : α} {i : Nat} (e : Γ[i]? = some (.im d)) : EvP c Γ (tVar i) d := fun B R0 R H ρ Δ σ S Q q => by
  obtain ⟨v, h1, h2⟩ := sx_im S e
  exact ⟨v, h1, q v h2⟩
theorem ep_int {i : Int} : EvP c Γ (tC (.int i)) i := fun B R0 R H ρ Δ σ S Q q => q _ rfl
theorem ep_ix {xs : List α} {i : Int} (ha : EvP c Γ ta xs) (hb : EvP c Γ tb i) (h0 : 0 ≤ i) (h1 : i < xs.length) : EvP c Γ (tOp (gIx c.Z.K) ta tb) (gt xs i) := fun B R0 R H ρ Δ σ S Q q => ha B R0 R H ρ Δ σ S _ fun v rv => hb B R0 R H ρ Δ σ S _ fun w rw => by
  obtain ⟨a, vs, rfl, ha, hp⟩ := rv
  obtain ⟨k, hk, rk⟩ := paired_get hp (gt_some h0 h1)
  exact .inl ⟨a, vs, i, k, rfl, rw, SqL.of (sx_same S _ _ ha), atI_of h0 (by rw [Paired.length hp]; exact h1) hk, q k rk⟩
/-- xss[i][j] = y -/
theorem w_put2 {k : Nat} {xss : List (List α)} {y : α} {i j : Int} (e : Γ[k]? = some (.o2 xss)) (h : Ev c Γ te (.im y)) (hi : EvP c Γ ta i) (hj : EvP c Γ tb j) (h0 : 0 ≤ i) (h1 : i < xss.length) (h2 : 0 ≤ j) (h3 : j < (gt xss i).length)
    (kk : P.nx (Γ.set k (.o2 (xss.set i.toNat ((gt xss i).set j.toNat y))))) : W c Γ (tAsg te (gSub (tOp (gIx c.Z.K) (tVar k) ta) tb gSet)) P := fun B R0 R H ρ Δ σ D S n r bb kk' x =>
  h B R0 R H ρ Δ σ S _ (fun w R1 H1 S1 => by
    obtain ⟨p, qs, g2, g3, g4, g5⟩ := sx_mut2 (sx_pop S1) e
    have ew := sx_top' S1
    refine ⟨.ref p, g2, hi B R0 R1 H1 _ _ σ S1 _ fun z ez => ?_⟩
    obtain ⟨q, hq, vs, hH, hp⟩ := paired_get g4 (gt_some h0 h1)
    refine .inl ⟨p, qs.map V.ref, i, .ref q, rfl, ez, SqL.of g3, atI_of h0 (by rw [List.length_map, Paired.length g4]; exact h1) (by rw [List.getElem?_map, hq]; rfl), ?_⟩
    refine hj B R0 R1 H1 _ _ σ S1 _ fun z2 ez2 => .inl ?_
    exact ⟨q, vs, j, j.toNat, rfl, ez2, hH, ixN_of h2 (by rw [Paired.length hp]; exact h3), n R1 _ _ _ (g5 i.toNat q _ _ hq (paired_set ew _ hp)) kk⟩) x
end
end TB
namespace TB
open PySem L2
section
variable {Z : Zz} {B R0 R R' RL H H' : Hp} {τ ρ σ : List (Option V)} {Θ Δ Γ : List Sl} {s so : Sl} {o : Option V} {f own own' : List Addr}
/-- slot i's thing is taken to the top -/
theorem sy_take (S : Sy Z B R0 R H τ Θ) {i : Nat} (e : Θ[i]? = some s) : ∃ o, τ[i]? = some o ∧ Sy Z B R0 R H (o :: τ) (s :: Θ.set i .un) := by
  obtain ⟨own, hs, es⟩ := S
  obtain ⟨o, g1, f, g2, h2, h3, h4, h6⟩ := es_at es e
  subst h3
  have h7 := h6 R H o .un [] (Same.refl _) (fun _ _ => rfl) rfl
  rw [set_same h2, List.append_nil] at h7
  refine ⟨o, h2, f ++ (g1 ++ g2), hs_sub hs (fun p hp => ?_) ?_, f, g1 ++ g2, rfl, h4, h7⟩
  · simp only [List.mem_append] at hp ⊢
    grind
  · have nd := hs.nd
    simp only [List.nodup_append, List.mem_append] at nd ⊢
    grind
theorem sx_take (S : Sx Z B R0 R H ρ Δ σ Γ) {i : Nat} (e : Γ[i]? = some s) : ∃ o, σ[i]? = some o ∧ Sx Z B R0 R H (o :: ρ) (s :: Δ) σ (Γ.set i .un) := by
  obtain ⟨h, S⟩ := S
  obtain ⟨o, h1, h2⟩ := sy_take S (i := ρ.length + i) (by rw [at_slot h]; exact e)
  rw [at_slot'] at h1
  rw [h, List.set_append_right _ _ (by omega), show Δ.length + i - Δ.length = i by omega] at h2
  exact ⟨o, h1, by simp [h], h2⟩
end
section
variable {c : Cn} {Γ : List Sl} {ta tb te tl : TE} {tt tc : TT} {t u : TS} {s so : Sl} {α β γ : Type} {_ : Rp α} {_ : Rp β} {_ : Rp γ} {P : Po} {d : α}
theorem slok_val (h : ∀ o f Z R H, slok Z R H o s f → ∃ v, o = some v) {Z : Zz} {R H : Hp} {o : Option V} {f : List Addr} (k : slok Z R H o s f) : ∃ v, o = some v := h _ _ _ _ _ k
/-- a thing of some kind: a value stands there -/
def Val (s : Sl) : Prop := ∀ Z R H o f, slok Z R H o s f → ∃ v, o = some v
theorem val_ol {xs : List α} : Val (.ol xs) := fun _ _ _ _ _ ⟨p, _, _, h, _⟩ => ⟨_, h⟩
theorem val_o2 {xss : List (List α)} : Val (.o2 xss) := fun _ _ _ _ _ ⟨p, _, _, h, _⟩ => ⟨_, h⟩
theorem val_ow {O : Own} : Val (.ow O) := fun _ _ _ _ _ ⟨v, h, _⟩ => ⟨v, h⟩
theorem val_od {kvs : List (Int × α)} : Val (.od kvs) := fun _ _ _ _ _ ⟨p, _, _, h, _⟩ => ⟨_, h⟩
/-- an own thing is told -/
theorem w_retO {i : Nat} (hv : Val so) (e : Γ[i]? = some so) (k : P.rt so) : W c Γ (tRet (tVar i)) P := fun B R0 R H ρ Δ σ D S n r b kk x => by
  obtain ⟨o, h1, S2⟩ := sx_take S e
  obtain ⟨o2, f, h2, h3⟩ := sx_slot S e
  obtain ⟨v, rfl⟩ := hv _ _ _ _ _ h3
  rw [h1] at h2
  cases h2
  exact ⟨v, h1, r R H v so (sx_leave S2) k⟩
/-- an own thing goes to another name -/
theorem w_asgO {i j : Nat} (hv : Val so) (e : Γ[i]? = some so) (k : P.nx ((Γ.set i .un).set j so)) : W c Γ (tAsg (tVar i) (gName j)) P := fun B R0 R H ρ Δ σ D S n r b kk x => by
  obtain ⟨o, h1, S2⟩ := sx_take S e
  obtain ⟨o2, f, h2, h3⟩ := sx_slot S e
  obtain ⟨v, rfl⟩ := hv _ _ _ _ _ h3
  rw [h1] at h2
  cases h2
  exact ⟨v, h1, n R H _ _ (sx_asg S2 j) k⟩
/-- a group of own parts is told -/
theorem w_retGroup {rows : List (List Int)} {unit : Int} {backs : List Int} {i j : Nat} (hZ : GrpC c.Z) (h : Ev c Γ ta (.o2 rows)) (hi : Γ[i]? = some (.im unit)) (hj : Γ[j]? = some (.ol backs)) (k : P.rt (.fo (⟨rows.length, rows, unit, backs⟩ : Grp))) : W c Γ (tRet (tMake (c.Z.cls .Group) (spI_Group c.Z) [] E0 (tCons ta (tCons (tVar i) (tCons (tVar j) tNil))))) P := fun B R0 R H ρ Δ σ D S n r b kk xk =>
  h B R0 R H ρ Δ σ S _ (fun v R1 H1 S1 => by
    obtain ⟨v2, g1, g2⟩ := sx_im S1 hi
    have hu : v2 = .int unit := g2
    subst hu
    obtain ⟨o3, g3, S2⟩ := sx_take S1 hj
    obtain ⟨hl, own, hs, f, g, rfl, ⟨p3, vs3, rfl, rfl, h3, h4⟩, f2, g', rfl, ⟨p1, qs, rfl, h6, h7, h8⟩, h9⟩ := sx_leave S2
    cases h6
    refine ⟨_, g1, _, g3, fun x dx nx ndx hne => ?_⟩
    have nlx : p1 ≠ x := fun e => by subst e; rw [nx] at h7; cases h7
    have nld : p1 ≠ dx := fun e => by subst e; rw [ndx] at h7; cases h7
    refine ⟨x, dx, p1, qs.map V.ref, _, _, rfl, upd_same, by rw [upd_ne nlx, upd_ne nld]; exact h7, hZ, fun H2 q1 q2 => ⟨rfl, ?_⟩⟩
    have old : ∀ p, H1 p ≠ none → H2 p = H1 p := fun p hp => by
      have a1 : p ≠ x := fun e => hp (e ▸ nx)
      have a2 : p ≠ dx := fun e => hp (e ▸ ndx)
      rw [q2 p a1, upd_ne a1, upd_ne a2]
    have sm : Same H1 H2 := fun p o e => by rw [old p (by rw [e]; simp)]; exact e
    have hd : H2 dx ≠ none := by rw [q2 dx hne, upd_ne hne, upd_same]; simp
    have hx : H2 x ≠ none := by rw [q1]; simp
    have own_old : ∀ p ∈ p3 :: ((p1 :: qs) ++ g'), H1 p ≠ none := by
      intro p hp
      have es2 : Es c.Z R1 H1 (some (.ref p3) :: some (.ref p1) :: (ρ ++ [])) (.ol backs :: .o2 rows :: (Δ ++ [])) (p3 :: ((p1 :: qs) ++ g')) := ⟨[p3], _, rfl, ⟨p3, vs3, rfl, rfl, h3, h4⟩, p1 :: qs, g', rfl, ⟨p1, qs, rfl, rfl, h7, h8⟩, h9⟩
      exact es_some es2 p hp
    have nin : ∀ p, H1 p = none → p ∉ p3 :: ((p1 :: qs) ++ g') := fun p hp z => own_old p z hp
    have e3 : H2 p3 = some (.lst vs3) := by rw [old p3 (by rw [h3]; simp)]; exact h3
    have e7 : H2 p1 = some (.lst (qs.map V.ref)) := by rw [old p1 (by rw [h7]; simp)]; exact h7
    refine r R1 H2 _ (.fo (⟨rows.length, rows, unit, backs⟩ : Grp)) ⟨by simpa using hl, (x :: dx :: p3 :: p1 :: qs) ++ g', ⟨hs.rh.trans sm, hs.bh.trans sm, hs.r0, hs.nw, fun p hp => ?_, ?_⟩, x :: dx :: p3 :: p1 :: qs, g', rfl, ⟨_, rfl, ?_, fun p hp => ?_⟩, es_mono (Same.refl _) (fun p hp => old p (own_old p (by simp [hp]))) h9⟩ k
    · simp only [List.cons_append, List.mem_cons] at hp
      rcases hp with rfl | rfl | hp
      · exact ⟨hs.rh.free nx, hs.bh.free nx⟩
      · exact ⟨hs.rh.free ndx, hs.bh.free ndx⟩
      · exact hs.ow p (by simpa using hp)
    · have n1 := nin x nx
      have n2 := nin dx ndx
      have nd := hs.nd
      simp only [List.cons_append, List.nil_append] at nd n1 n2 ⊢
      refine List.nodup_cons.mpr ⟨?_, List.nodup_cons.mpr ⟨n2, nd⟩⟩
      simp only [List.mem_cons] at n1 ⊢
      rintro (z | z)
      · exact hne z.symm
      · exact n1 z
    · refine ⟨hZ, x, dx, _, _, _, _, rfl, by rw [res_in (by simp)]; exact q1, by rw [List.length_map, Paired.length h8]; rfl, ⟨p1, _, rfl, by rw [res_in (by simp)]; exact e7, ?_⟩, rfl, p3, vs3, rfl, by rw [res_in (by simp)]; exact e3, paired_mono (fun _ _ => Flt.fl) h4⟩
      have h8' : Paired (inOk c.Z (fun _ => none) H1) qs rows := paired_mono (fun _ _ ⟨vs, a, b⟩ => ⟨vs, a, paired_mono (fun _ _ => Flt.fl) b⟩) h8
      exact inOk_rp (fun _ _ e => by cases e) (fun q hq o e => by rw [res_in (by simp [hq]), old q (by rw [e]; simp)]; exact e) h8'
    · simp only [List.mem_cons] at hp
      rcases hp with rfl | rfl | hp
      · exact hx
      · exact hd
      · have : H1 p ≠ none := own_old p (by simp only [List.mem_cons, List.mem_append]; grind)
        rw [old p this]
        exact this) xk
end
end TB
namespace TB
open PySem L2
section
variable {c : Cn} {Γ : List Sl} {ta tb te tl : TE} {tt tc : TT} {t u : TS} {s so : Sl} {α β γ : Type} {_ : Rp α} {_ : Rp β} {_ : Rp γ} {P : Po} {d : α}
/-- x, y = a, b -/
theorem w_par {x : α} {y : β} {i j : Nat} (ha : Ev c Γ ta (.im x)) (hb : Ev c Γ tb (.im y)) (k : P.nx ((Γ.set i (.im x)).set j (.im y))) : W c Γ (tPar i j (tCons ta (tCons tb tNil))) P := fun B R0 R H ρ Δ σ D S n r b kk xk =>
  (ea_cons ha (ea_cons hb ea_nil)) B R0 R H ρ Δ σ S _ (fun vs R1 H1 S1 sl => by
    cases sl with
    | cons r1 t1 =>
      cases t1 with
      | cons r2 t2 =>
        cases t2
        rename_i v w
        exact ⟨v, w, rfl, n R1 H1 _ _ (sx_asg (sx_push (sx_asg (sx_push S1 r1) i) r2) j) k⟩) xk
/-- xs.insert(i, y) -/
theorem w_ins {k : Nat} {xs : List α} {y : α} {i : Int} (e : Γ[k]? = some (.ol xs)) (hi : Ev c Γ ta (.im i)) (h : Ev c Γ te (.im y)) (h0 : 0 ≤ i) (h1 : i < 2 ^ 63) (hl : xs.length < 1000000) (kk : P.nx (Γ.set k (.ol (xs.take i.toNat ++ [y] ++ xs.drop i.toNat)))) : W c Γ (tDrop (tBM c.Z.K "list" gInsert (tVar k) (tCons ta (tCons te tNil)))) P := fun B R0 R H ρ Δ σ D S n r bb kk' x => by
  obtain ⟨p, vs, h2, h3, h4, _⟩ := sx_mutl S e
  refine ⟨.ref p, h2, tyL h3, (ea_cons hi (ea_cons h ea_nil)) B R0 R H ρ Δ σ S _ (fun ws R1 H1 S1 sl => ?_) x⟩
  cases sl with
  | cons r1 t1 =>
    cases t1 with
    | cons r2 t2 =>
      cases t2
      rename_i v w
      obtain ⟨p', vs', h2', h3', h4', h5⟩ := sx_mutl S1 e
      rw [h2] at h2'
      cases h2'
      have hl' := Paired.length h4'
      have rv : v = .int i := r1
      subst rv
      exact ⟨p, vs', i, w, rfl, rfl, h3', Nat.lt_of_lt_of_le (by omega : vs'.length < 1000000) (by decide), h0, h1, n R1 _ _ _ (h5 _ _ (paired_append (paired_append (paired_take _ h4') (.cons r2 .nil)) (paired_drop _ h4'))) kk⟩
end
theorem irange_suc {n : Int} (h : 0 ≤ n) : irange (n + 1) = irange n ++ [n] := by
  unfold irange
  rw [show (n + 1).toNat = n.toNat + 1 by omega, List.range_succ, List.map_append, List.map_singleton, show ((n.toNat : Nat) : Int) = n by omega]
theorem irange_0 : irange 0 = [] := rfl
end TB
namespace TB
open PySem L2
section
variable {c : Cn} {Γ : List Sl} {ta tb te tl : TE} {tt tc : TT} {t u : TS} {s so : Sl} {α β γ : Type} {_ : Rp α} {_ : Rp β} {_ : Rp γ} {P : Po} {d : α}
theorem w_appS {i : Nat} {xs : List α} {S : Sl → Prop} (e : Γ[i]? = some (.ol xs)) (h : EvS c Γ te S) (hl : xs.length < 1000000) (k : ∀ s, S s → ∃ y : α, s = .im y ∧ P.nx (Γ.set i (.ol (xs ++ [y])))) : W c Γ (tDrop (tBM c.Z.K "list" rAppend (tVar i) (tCons te tNil))) P := fun B R0 R H ρ Δ σ D S0 n r bb kk x => by
  obtain ⟨p, vs, h2, h3, h4, _⟩ := sx_mutl S0 e
  refine ⟨.ref p, h2, tyL h3, h B R0 R H ρ Δ σ S0 _ (fun w s R1 H1 es S1 => ?_) x⟩
  obtain ⟨y, rfl, kn⟩ := k s es
  obtain ⟨p', vs', h2', h3', h4', h5⟩ := sx_mutl (sx_pop S1) e
  rw [h2] at h2'
  cases h2'
  have hl' := Paired.length h4'
  exact ⟨p, vs', w, rfl, rfl, h3', Nat.lt_of_lt_of_le (by omega : vs'.length < 1000000) (by decide), n R1 _ _ _ (h5 (vs' ++ [w]) (xs ++ [y]) (paired_append h4' (.cons (sx_top' S1) .nil))) kn⟩
end
end TB
namespace TB
open PySem L2
section
variable {Z : Zz} {B R0 R R' RL H H' : Hp} {τ ρ σ : List (Option V)} {Θ Δ Γ : List Sl} {s so : Sl} {o : Option V} {f own own' : List Addr}
/-- slot i's own objects are let go, whatever becomes of them -/
theorem sx_wreck (S : Sx Z B R0 R H ρ Δ σ Γ) {i : Nat} (e : Γ[i]? = some s) : ∃ o f, σ[i]? = some o ∧ slok Z R H o s f ∧ ∀ H', (∀ p, p ∉ f → H' p = H p) → Sx Z B R0 R H' ρ Δ σ (Γ.set i .un) := by
  obtain ⟨hl, own, hs, es⟩ := S
  have e' : (Δ ++ Γ)[ρ.length + i]? = some s := by rw [at_slot hl]; exact e
  obtain ⟨o, g1, f, g2, h2, h3, h4, h6⟩ := es_at es e'
  rw [at_slot'] at h2
  subst h3
  refine ⟨o, f, h2, h4, fun H' k => ⟨hl, ?_⟩⟩
  have nd := hs.nd
  have ne : ∀ q ∈ g1 ++ g2, q ∉ f := fun q hq z => by
    simp only [List.nodup_append, List.mem_append] at nd hq
    grind
  have h7 := h6 R H' o .un [] (Same.refl _) (fun q hq => k q (ne q hq)) rfl
  have e2 : (ρ ++ σ).set (ρ.length + i) o = ρ ++ σ := set_same (by rw [at_slot']; exact h2)
  rw [e2, hl, List.set_append_right _ _ (by omega), show Δ.length + i - Δ.length = i by omega] at h7
  have out : ∀ p, (R p ≠ none ∨ B p ≠ none) → p ∉ f := fun p hp z => by
    have := hs.ow p (by simp [z])
    rcases hp with q | q
    · exact q this.1
    · exact q this.2
  refine ⟨_, ⟨fun p o a => by rw [k p (out p (.inl (by rw [a]; simp)))]; exact hs.rh _ _ a, fun p o a => by rw [k p (out p (.inr (by rw [a]; simp)))]; exact hs.bh _ _ a, hs.r0, hs.nw, fun p hp => hs.ow p ?_, nd_mid hs.nd⟩, h7⟩
  rw [List.append_nil] at hp
  simp only [List.mem_append] at hp ⊢
  grind
end
section
variable {c : Cn} {Γ : List Sl} {ta tb te tl : TE} {tt tc : TT} {t u : TS} {s so : Sl} {α β γ : Type} {_ : Rp α} {_ : Rp β} {_ : Rp γ} {P : Po} {d : α}
/-- xss.pop(), the list not asked again -/
theorem w_pop2 {i : Nat} {xss : List (List α)} (e : Γ[i]? = some (.o2 xss)) (h : xss ≠ []) (k : P.nx (Γ.set i .un)) : W c Γ (tDrop (tBM0 c.Z.K "list" rPop (tVar i))) P := fun B R0 R H ρ Δ σ D S n r bb kk x => by
  obtain ⟨o, f, h1, ⟨p, qs, rfl, rfl, h4, h5⟩, h6⟩ := sx_wreck S e
  have hl := Paired.length h5
  have hl2 : 0 < xss.length := List.length_pos_iff.mpr h
  have hg : (qs.map V.ref)[(qs.map V.ref).length - 1]? = some (V.ref (qs[qs.length - 1]'(by omega))) := by
    rw [List.getElem?_map, List.length_map, List.getElem?_eq_getElem (by omega)]
    rfl
  exact ⟨.ref p, h1, tyL h4, p, _, _, rfl, rfl, h4, hg, n R _ _ _ (h6 _ fun q hq => upd_ne fun z => hq (z ▸ List.mem_cons_self)) k⟩
/-- xs.pop(), the list not asked again -/
theorem w_popU {i : Nat} {xs : List α} (e : Γ[i]? = some (.ol xs)) (h : xs ≠ []) (k : P.nx (Γ.set i (.ol xs.dropLast))) : W c Γ (tDrop (tBM0 c.Z.K "list" rPop (tVar i))) P := fun B R0 R H ρ Δ σ D S n r bb kk x => by
  obtain ⟨p, vs, h2, h3, h4, h5⟩ := sx_mutl S e
  have hl := Paired.length h4
  have hl2 : 0 < xs.length := List.length_pos_iff.mpr h
  refine ⟨.ref p, h2, tyL h3, p, vs, vs[vs.length - 1]'(by omega), rfl, rfl, h3, List.getElem?_eq_getElem (by omega), n R _ _ _ (h5 vs.dropLast xs.dropLast ?_) k⟩
  rw [List.dropLast_eq_take, List.dropLast_eq_take, hl]
  exact paired_take _ h4
end
end TB

/-! TbM: more rules. -/
namespace TB
open PySem L2
section
variable {c : Cn} {Γ : List Sl} {ta tb te tl : TE} {tt tc : TT} {t u : TS} {s so : Sl} {α β γ : Type} {_ : Rp α} {_ : Rp β} {_ : Rp γ} {P : Po} {d : α}
/-- xs.index(y) -/
theorem ev_index {xs : List Int} {y : Int} {j : Nat} (h : Ev c Γ te (.im xs)) (ha : Ev c Γ ta (.im y)) (hj : xs[j]? = some y) (hno : ∀ m, m < j → xs[m]? ≠ some y) : Ev c Γ (tBM c.Z.K "list" (rIndex c.Z.K) te (tCons ta tNil)) (.im (j : Int)) := fun B R0 R H ρ Δ σ S Q q xk => h B R0 R H ρ Δ σ S _ (fun v R1 H1 S1 => by
  obtain ⟨a, vs, rfl, h2, h3⟩ := id (sx_top' S1)
  refine ⟨.inl ⟨rfl, vs, SqL.of (sx_same S1 _ _ h2)⟩, ha B R0 R1 H1 _ _ σ S1 _ (fun w R2 H2 S2 => ?_) xk.push1⟩
  have ew : w = .int y := sx_top' S2
  subst ew
  obtain ⟨a', vs', e', h2', h3'⟩ := sx_top' (sx_pop S2)
  cases e'
  have ev := paired_map_int h3'
  subst ev
  refine ⟨a, xs.map V.int, .int y, j, .int y, rfl, rfl, SqL.of (sx_same S2 _ _ h2'), rfl, ?_, by rw [List.getElem?_map, hj]; rfl, by simp [eqV], fun m z' hm hz => ?_, q _ R2 H2 (sx_push (sx_pop (sx_pop S2)) rfl)⟩
  · rw [List.all_eq_true]
    intro x hx
    obtain ⟨i, _, rfl⟩ := List.mem_map.mp hx
    rfl
  · rw [List.getElem?_map] at hz
    cases e : xs[m]? with
    | none => rw [e] at hz; cases hz
    | some i =>
      rw [e] at hz
      cases hz
      have : i ≠ y := fun z => hno m hm (by rw [e, z])
      simp [eqV, this]) xk
/-- a datum that may be None -/
theorem ev_isNone {o : Option Int} (ha : Ev c Γ ta (.im o)) : Ev c Γ (tOp gIs ta (tC .non)) (.im o.isNone) := ev_isN ha _ fun R v h => by
  cases o with
  | none => have : v = .non := h; subst this; rfl
  | some i => have : v = .int i := h; subst this; rfl
theorem ev_isSome {o : Option Int} (ha : Ev c Γ ta (.im o)) : Ev c Γ (tOp gIsNot ta (tC .non)) (.im o.isSome) := ev_isNotN ha _ fun R v h => by
  cases o with
  | none => have : v = .non := h; subst this; rfl
  | some i => have : v = .int i := h; subst this; rfl
end
end TB

/-! TbW: methods of own classes, own classes made, where something may be raised. -/
namespace TB
open PySem PySem.Spec PyProof.Rows L2
section
variable {X : Cx} {CX : CXT} {k : Nat} {f C : Addr} {fd : FuncData} {ps : List Str} {sp : Sp} {dvs : List V} {ds : List Value} {E : L2.St → XK} {x m : Str} {p pos apos : Pos} {e o : Expr} {es : List Expr} {ta : TE} {t : TA}
def tMethSD (C : Addr) (m : Str) (sp : Sp) (dvs : List V) (E : L2.St → XK) (ta : TE) (t : TA) : TE := fun σ H Q => ta σ H fun v H1 => ∃ b d gs, v = .ref b ∧ H1 b = some (.ins C d gs) ∧ gs.lookup m = none ∧ t σ H1 fun ws H2 => sp (v :: (ws ++ dvs)) H2 Q (E σ)
theorem pe_methSD {pl : Sem Bool} (he : PE X o ta) (cl : Cls X.K C) (me : Meth X.K C m f) (F : FnOk X.prog X.w X.K X.mg X.base CX k f fd ps sp) (room : Room k X.A) (hb : Binds X.K fd ps ds) (hd : Vals dvs ds) (hx : ∀ σ, PassesAt CX X σ (E σ)) (args : PA X (e :: es) t)
    (st : starEach (e :: es) X.env = (false, eval e X.env) :: starEach es X.env := by rfl) (pn : (backTo pos (starEach es X.env)).any (·.1) = false := by rfl)
    (ev : eval (.Call (.Attribute o m apos) (e :: es) [] pos) X.env = (do
      let own ← eval o X.env
      standAt apos.atName
      let (fn, rest) ← holding [own] (getMethod own m pl)
      callWith pos fn rest (backTo pos (starEach (e :: es) X.env)) (backToKw pos (keywordEach [] X.env))) := by rfl) :
    PE X (.Call (.Attribute o m apos) (e :: es) [] pos) (tMethSD C m sp dvs E ta t) :=
  ⟨fun pins s σ H Q I h => PySem.W.methodCall_KW (pl := pl) (thn (he.run pins s σ H _ I h) fun u s1 ⟨v, H1, I1, rv, b, d, gs, ev1, eb, lk, q⟩ => by
    subst ev1
    cases (show u = Value.ref b from rv)
    refine getmeth_ok I1 eb cl me lk (PySem.W.callWith_K (first := [.ref b]) (h₀ := X.base) I.ok.mod.kin me.kp (thn (args.run pos pins s1 σ H1 _ I1 q) fun us s2 ⟨ws, H2, I2, rw2, q2⟩ => ⟨I2.kIn, ?_⟩) st pn)
    exact run_fnSD (us := .ref b :: us) (vs := .ref b :: ws) F room hb hd (hx σ) I2 (.cons rfl rw2) q2) ev⟩
def tMakeSD (C : Addr) (sp : Sp) (dvs : List V) (E : L2.St → XK) (t : TA) : TE := fun σ H Q => t σ H fun ws H1 => ∀ y d, H1 y = none → H1 d = none → d ≠ y →
  sp (.ref y :: (ws ++ dvs)) (upd (upd H1 d (.own y)) y (.ins C d [])) (fun v H2 => v = .non ∧ Q (.ref y) H2) fun cl x H2 => E σ cl x H2
theorem run_makeSD {pins : List (Addr × Obj)} {σ : L2.St} {H : Hp} {s : Shared} {Q : VK} {us : List Value} {vs : List V} (M : Mk X.K C f) (F : FnOk X.prog X.w X.K X.mg X.base CX k f fd ps sp) (room : Room (k + 1) X.A) (hb : Binds X.K fd ps ds) (hd : Vals dvs ds)
    (hx : PassesAt CX X σ (E σ)) (I : Inv X pins σ H s) (r : Vals vs us)
    (h : ∀ y d, H y = none → H d = none → d ≠ y → sp (.ref y :: (vs ++ dvs)) (upd (upd H d (.own y)) y (.ins C d [])) (fun v H2 => v = .non ∧ Q (.ref y) H2) (E σ)) :
    wpAny (model X.prog X.w) X.A (call (.ref C) us) (EP X pins σ Q) X.xe s := by
  have q1 := h (s.heap.objs.size + 1) s.heap.objs.size (I.hok.fresh (Nat.le_succ _)) (I.hok.fresh (Nat.le_refl _)) (Nat.ne_of_lt (Nat.lt_succ_self _))
  have J := Inv.made (C := C) I
  have rr : Vals (V.ref (s.heap.objs.size + 1) :: (vs ++ dvs)) (Value.ref (s.heap.objs.size + 1) :: (us ++ ds)) := .cons rfl (r.append hd)
  have ln : (Value.ref (s.heap.objs.size + 1) :: us ++ ds).length = ps.length := (rr.length.symm.trans (F.len _ _ _ _ q1))
  refine wpAny_call (make_map (f := f) I.kIn M.makes M.init (beq_iff_eq.mp M.fn) (codeAny_mono (F.run _ X.stack _ _ ⟨Value.ref (s.heap.objs.size + 1) :: us, []⟩ (Value.ref (s.heap.objs.size + 1) :: (us ++ ds)) _ _ (E σ) (room.make C us []) (J.env0.make C us []) (hb _ (Value.ref (s.heap.objs.size + 1) :: us) J.kIn ln) rr q1) fun o s2 q2 => ?_))
  match o, q2 with
  | .error e, q2 => exact hx pins _ _ e s2 J q2
  | .ok (.ret u), q2 =>
    obtain ⟨v, H', I3, rv, ev, q3⟩ := J.after q2
    subst ev
    exact ⟨rv, V.ref (s.heap.objs.size + 1), H', I3, rfl, q3⟩
theorem pe_makeSD (M : Mk X.K C f) (F : FnOk X.prog X.w X.K X.mg X.base CX k f fd ps sp) (room : Room (k + 1) X.A) (hg : Gl X x) (hm : X.mg x = some (.ref C)) (hb : Binds X.K fd ps ds) (hd : Vals dvs ds) (hx : ∀ σ, PassesAt CX X σ (E σ))
    (args : PA X (e :: es) t) (nd : (x == ("__debug__" : Str)) = false := by decide) (st : starEach (e :: es) X.env = (false, eval e X.env) :: starEach es X.env := by rfl) (pn : (backTo pos (starEach es X.env)).any (·.1) = false := by rfl) :
    PE X (.Call (.Name x p) (e :: es) [] pos) (tMakeSD C sp dvs E t) :=
  ⟨fun pins s σ H Q I h => wpAny_Call_Name_kw (ld_glob I hg hm (PySem.W.callWith_K (h₀ := X.base) I.ok.mod.kin M.kp (thn (args.run pos pins s σ H _ I h) fun us s1 ⟨ws, H1, I1, rw1, q⟩ => ⟨I1.kIn, run_makeSD M F room hb hd (hx σ) I1 rw1 q⟩) st pn) nd)⟩
end
end TB

/-! TbT: own trees: lists and tuples, one in another, all of this frame's own. -/
namespace TB
open PySem L2
inductive OT where
  | i (n : Int)
  | b (x : Bool)
  | z
  | l (xs : List OT)
  | t (xs : List OT)
mutual
def otR (h : Hp) : OT → V → List Addr → Prop
  | .i n, v, f => v = .int n ∧ f = []
  | .b x, v, f => v = .bl x ∧ f = []
  | .z, v, f => v = .non ∧ f = []
  | .l xs, v, f => ∃ a vs g, v = .ref a ∧ f = a :: g ∧ h a = some (.lst vs) ∧ otRs h xs vs g
  | .t xs, v, f => ∃ a vs g, v = .ref a ∧ f = a :: g ∧ h a = some (.tup vs) ∧ otRs h xs vs g
def otRs (h : Hp) : List OT → List V → List Addr → Prop
  | [], vs, f => vs = [] ∧ f = []
  | x :: xs, vs, f => ∃ v ws g1 g2, vs = v :: ws ∧ f = g1 ++ g2 ∧ otR h x v g1 ∧ otRs h xs ws g2
end
mutual
theorem otR_frame {h h' : Hp} : ∀ {T : OT} {v : V} {f : List Addr}, (∀ p ∈ f, h' p = h p) → otR h T v f → otR h' T v f
  | .i n, _, _, _, q => q
  | .b x, _, _, _, q => q
  | .z, _, _, _, q => q
  | .l xs, _, _, k, q => by
    obtain ⟨a, vs, g, e1, rfl, h1, h2⟩ := q
    exact ⟨a, vs, g, e1, rfl, by rw [k a (by simp)]; exact h1, otRs_frame (fun p hp => k p (by simp [hp])) h2⟩
  | .t xs, _, _, k, q => by
    obtain ⟨a, vs, g, e1, rfl, h1, h2⟩ := q
    exact ⟨a, vs, g, e1, rfl, by rw [k a (by simp)]; exact h1, otRs_frame (fun p hp => k p (by simp [hp])) h2⟩
theorem otRs_frame {h h' : Hp} : ∀ {Ts : List OT} {vs : List V} {f : List Addr}, (∀ p ∈ f, h' p = h p) → otRs h Ts vs f → otRs h' Ts vs f
  | [], _, _, _, q => q
  | x :: xs, _, _, k, q => by
    obtain ⟨v, ws, g1, g2, e1, rfl, h1, h2⟩ := q
    exact ⟨v, ws, g1, g2, e1, rfl, otR_frame (fun p hp => k p (by simp [hp])) h1, otRs_frame (fun p hp => k p (by simp [hp])) h2⟩
end
theorem otRs_len {h : Hp} : ∀ {Ts : List OT} {vs : List V} {f : List Addr}, otRs h Ts vs f → vs.length = Ts.length
  | [], _, _, q => by rw [q.1]; rfl
  | x :: xs, _, _, q => by
    obtain ⟨v, ws, g1, g2, rfl, _, _, h2⟩ := q
    rw [List.length_cons, List.length_cons, otRs_len h2]
/-- one item, and the rest -/
theorem otRs_at {h : Hp} : ∀ {Ts : List OT} {vs : List V} {f : List Addr} {i : Nat} {T : OT}, otRs h Ts vs f → Ts[i]? = some T → ∃ v f1 g f2, vs[i]? = some v ∧ f = f1 ++ g ++ f2 ∧ otR h T v g ∧
    ∀ (h' : Hp) (T' : OT) (g' : List Addr), (∀ p ∈ f1 ++ f2, h' p = h p) → otR h' T' v g' → otRs h' (Ts.set i T') vs (f1 ++ g' ++ f2)
  | [], _, _, _, _, _, e => by simp at e
  | x :: xs, _, _, 0, T, q, e => by
    obtain ⟨v, ws, g1, g2, rfl, rfl, h1, h2⟩ := q
    have e' : x = T := by simpa using e
    subst e'
    exact ⟨v, [], g1, g2, rfl, by simp, h1, fun h' T' g' k r => ⟨v, ws, g', g2, rfl, by simp, r, otRs_frame (fun p hp => k p (by simp [hp])) h2⟩⟩
  | x :: xs, _, _, i + 1, T, q, e => by
    obtain ⟨v, ws, g1, g2, rfl, rfl, h1, h2⟩ := q
    obtain ⟨w, f1, g, f2, e1, rfl, h3, h4⟩ := otRs_at (i := i) (T := T) h2 (by simpa using e)
    refine ⟨w, g1 ++ f1, g, f2, by simpa using e1, by simp, h3, fun h' T' g' k r => ⟨v, ws, g1, f1 ++ g' ++ f2, rfl, by simp, otR_frame (fun p hp => k p (by simp [hp])) h1, h4 h' T' g' (fun p hp => k p (by simp at hp ⊢; rcases hp with q | q <;> simp [q])) r⟩⟩
theorem otRs_app {h : Hp} : ∀ {Ts Us : List OT} {vs ws : List V} {f g : List Addr}, otRs h Ts vs f → otRs h Us ws g → otRs h (Ts ++ Us) (vs ++ ws) (f ++ g)
  | [], _, _, _, _, _, q, r => by
    obtain ⟨rfl, rfl⟩ := q
    exact r
  | x :: xs, _, _, _, _, _, q, r => by
    obtain ⟨v, ws, g1, g2, rfl, rfl, h1, h2⟩ := q
    exact ⟨v, _, g1, _, rfl, by simp, h1, otRs_app h2 r⟩
end TB
namespace TB
open PySem L2
theorem otR_nd {h : Hp} : ∀ {T : OT} {v : V} {f : List Addr}, otR h T v f → ∀ p ∈ f, h p ≠ none := by
  intro T
  have key : (∀ (v : V) (f : List Addr), otR h T v f → ∀ p ∈ f, h p ≠ none) := by
    refine OT.rec (motive_1 := fun T => ∀ (v : V) (f : List Addr), otR h T v f → ∀ p ∈ f, h p ≠ none) (motive_2 := fun Ts => ∀ (vs : List V) (f : List Addr), otRs h Ts vs f → ∀ p ∈ f, h p ≠ none) ?_ ?_ ?_ ?_ ?_ ?_ ?_ T
    · rintro n v f ⟨_, rfl⟩ p hp; simp at hp
    · rintro n v f ⟨_, rfl⟩ p hp; simp at hp
    · rintro v f ⟨_, rfl⟩ p hp; simp at hp
    · rintro xs ih v f ⟨a, vs, g, _, rfl, h1, h2⟩ p hp
      rcases List.mem_cons.mp hp with rfl | hp
      · rw [h1]; simp
      · exact ih _ _ h2 p hp
    · rintro xs ih v f ⟨a, vs, g, _, rfl, h1, h2⟩ p hp
      rcases List.mem_cons.mp hp with rfl | hp
      · rw [h1]; simp
      · exact ih _ _ h2 p hp
    · rintro vs f ⟨_, rfl⟩ p hp; simp at hp
    · rintro x xs ih1 ih2 vs f ⟨v, ws, g1, g2, _, rfl, h1, h2⟩ p hp
      rcases List.mem_append.mp hp with hp | hp
      · exact ih1 _ _ h1 p hp
      · exact ih2 _ _ h2 p hp
  exact fun {v f} q => key v f q
/-- the tree as own objects -/
def Ot (T : OT) : Own := ⟨fun _ _ h v => ∃ f : List Addr, f.Nodup ∧ otR h T v f, fun _ h => h⟩
abbrev Sl.ot (T : OT) : Sl := .ow (Ot T)
theorem det_ot {T : OT} : Det (.ot T) := fun _ _ _ _ _ _ h => h
theorem val_ot {T : OT} : Val (.ot T) := fun _ _ _ _ _ ⟨v, h, _⟩ => ⟨v, h⟩
/-- s may be told as s' -/
def SubS (s s' : Sl) : Prop := ∀ Z R H o f, f.Nodup → slok Z R H o s f → ∃ f', f'.Nodup ∧ (∀ p ∈ f', p ∈ f) ∧ slok Z R H o s' f'
section
variable {Z : Zz} {B R0 R R' RL H H' : Hp} {τ ρ σ : List (Option V)} {Θ Δ Γ : List Sl} {s s' so : Sl} {o : Option V} {f own own' : List Addr} {α β γ : Type} {_ : Rp α} {_ : Rp β} {_ : Rp γ} {T U : OT}
/-- the own objects of one slot, and what may be made of them -/
theorem sx_own (S : Sx Z B R0 R H ρ Δ σ Γ) {i : Nat} (e : Γ[i]? = some s) : ∃ o f, σ[i]? = some o ∧ slok Z R H o s f ∧ f.Nodup ∧
    ∀ (H' : Hp) (s' : Sl) (f' : List Addr), (∀ p, p ∉ f → H' p = H p) → f'.Nodup → (∀ p ∈ f', p ∈ f) → slok Z R H' o s' f' → Sx Z B R0 R H' ρ Δ σ (Γ.set i s') := by
  obtain ⟨hl, own, hs, es⟩ := S
  have e' : (Δ ++ Γ)[ρ.length + i]? = some s := by rw [at_slot hl]; exact e
  obtain ⟨o, g1, f, g2, h2, h3, h4, h6⟩ := es_at es e'
  rw [at_slot'] at h2
  subst h3
  have nd := hs.nd
  refine ⟨o, f, h2, h4, by simp only [List.nodup_append] at nd; exact nd.1.2.1, fun H' s' f' k ndf sub h5 => ⟨hl, ?_⟩⟩
  have ne : ∀ q ∈ g1 ++ g2, q ∉ f := fun q hq z => by
    simp only [List.nodup_append, List.mem_append] at nd hq
    grind
  have h7 := h6 R H' o s' f' (Same.refl _) (fun q hq => k q (ne q hq)) h5
  have e2 : (ρ ++ σ).set (ρ.length + i) o = ρ ++ σ := set_same (by rw [at_slot']; exact h2)
  rw [e2, hl, List.set_append_right _ _ (by omega), show Δ.length + i - Δ.length = i by omega] at h7
  have out : ∀ p, (R p ≠ none ∨ B p ≠ none) → p ∉ f := fun p hp z => by
    have := hs.ow p (by simp [z])
    rcases hp with q | q
    · exact q this.1
    · exact q this.2
  refine ⟨_, ⟨fun p o a => by rw [k p (out p (.inl (by rw [a]; simp)))]; exact hs.rh _ _ a, fun p o a => by rw [k p (out p (.inr (by rw [a]; simp)))]; exact hs.bh _ _ a, hs.r0, hs.nw, fun p hp => hs.ow p ?_, ?_⟩, h7⟩
  · simp only [List.mem_append] at hp ⊢
    rcases hp with (hp | hp) | hp
    · exact .inl (.inl hp)
    · exact .inl (.inr (sub p hp))
    · exact .inr hp
  · simp only [List.nodup_append, List.mem_append] at nd ⊢
    grind
theorem sx_sub (h : SubS s s') (S : Sx Z B R0 R H ρ Δ σ Γ) {i : Nat} (e : Γ[i]? = some s) : Sx Z B R0 R H ρ Δ σ (Γ.set i s') := by
  obtain ⟨o, f, h1, h2, h3, h4⟩ := sx_own S e
  obtain ⟨f', h5, h6, h7⟩ := h Z R H o f h3 h2
  exact h4 H s' f' (fun _ _ => rfl) h5 h6 h7
/-- the top's own objects -/
theorem sx_ownTop (S : Sx Z B R0 R H (o :: ρ) (s :: Δ) σ Γ) : ∃ f, slok Z R H o s f ∧ f.Nodup ∧
    ∀ (H' : Hp) (o' : Option V) (s' : Sl) (f' : List Addr), (∀ p, p ∉ f → H' p = H p) → f'.Nodup → (∀ p ∈ f', p ∈ f) → slok Z R H' o' s' f' → Sx Z B R0 R H' (o' :: ρ) (s' :: Δ) σ Γ := by
  obtain ⟨hl, own, hs, f, g, rfl, h1, h2⟩ := S
  have nd := hs.nd
  refine ⟨f, h1, by simp only [List.nodup_append] at nd; exact nd.1, fun H' o' s' f' k ndf sub h5 => ⟨by simpa using hl, f' ++ g, ⟨fun p o a => ?_, fun p o a => ?_, hs.r0, hs.nw, fun p hp => hs.ow p ?_, ?_⟩, f', g, rfl, h5, es_mono (Same.refl _) (fun p hp => k p fun z => ?_) h2⟩⟩
  · rw [k p fun z => by have := (hs.ow p (by simp [z])).1; rw [a] at this; cases this]; exact hs.rh _ _ a
  · rw [k p fun z => by have := (hs.ow p (by simp [z])).2; rw [a] at this; cases this]; exact hs.bh _ _ a
  · simp only [List.mem_append] at hp ⊢
    rcases hp with hp | hp
    · exact .inl (sub p hp)
    · exact .inr hp
  · simp only [List.nodup_append] at nd ⊢
    exact ⟨ndf, nd.2.1, fun a ha b hb => nd.2.2 a (sub a ha) b hb⟩
  · simp only [List.nodup_append] at nd
    exact nd.2.2 p z p hp rfl
theorem sx_subTop (h : SubS s s') (S : Sx Z B R0 R H (o :: ρ) (s :: Δ) σ Γ) : Sx Z B R0 R H (o :: ρ) (s' :: Δ) σ Γ := by
  obtain ⟨f, h2, h3, h4⟩ := sx_ownTop S
  obtain ⟨f', h5, h6, h7⟩ := h Z R H o f h3 h2
  exact h4 H o s' f' (fun _ _ => rfl) h5 h6 h7
end
theorem slok_ot {Z : Zz} {R H : Hp} {v : V} {T : OT} {f : List Addr} (nd : f.Nodup) (h : otR H T v f) : slok Z R H (some v) (.ot T) f :=
  ⟨v, rfl, ⟨f, nd, otR_frame (fun p hp => res_in hp) h⟩, otR_nd h⟩
theorem slok_ot' {Z : Zz} {R H : Hp} {o : Option V} {T : OT} {f : List Addr} (h : slok Z R H o (.ot T) f) : ∃ v g, o = some v ∧ g.Nodup ∧ (∀ p ∈ g, p ∈ f) ∧ otR H T v g := by
  obtain ⟨v, h1, ⟨g, h2, h3⟩, h4⟩ := h
  have sub : ∀ p ∈ g, p ∈ f := fun p hp => by
    have := otR_nd h3 p hp
    unfold res at this
    by_cases c : p ∈ f
    · exact c
    · rw [if_neg c] at this; exact absurd rfl this
  exact ⟨v, g, h1, h2, sub, otR_frame (fun p hp => (res_in (sub p hp)).symm) h3⟩
theorem otRs_ints {h : Hp} : ∀ {xs : List Int} {vs : List V} {f : List Addr}, otRs h (xs.map OT.i) vs f ↔ vs = xs.map V.int ∧ f = []
  | [], vs, f => Iff.rfl
  | x :: xs, vs, f => by
    constructor
    · rintro ⟨v, ws, g1, g2, rfl, rfl, ⟨rfl, rfl⟩, h2⟩
      obtain ⟨rfl, rfl⟩ := otRs_ints.mp h2
      exact ⟨rfl, rfl⟩
    · rintro ⟨rfl, rfl⟩
      exact ⟨_, _, [], [], rfl, rfl, ⟨rfl, rfl⟩, otRs_ints.mpr ⟨rfl, rfl⟩⟩
abbrev oti (xs : List Int) : OT := .l (xs.map OT.i)
abbrev otii (xss : List (List Int)) : OT := .l (xss.map oti)
theorem otR_ints {h : Hp} {xs : List Int} {v : V} {f : List Addr} : otR h (oti xs) v f ↔ ∃ a, v = .ref a ∧ f = [a] ∧ h a = some (.lst (xs.map V.int)) := by
  constructor
  · rintro ⟨a, vs, g, rfl, rfl, h1, h2⟩
    obtain ⟨rfl, rfl⟩ := otRs_ints.mp h2
    exact ⟨a, rfl, rfl, h1⟩
  · rintro ⟨a, rfl, rfl, h1⟩
    exact ⟨a, _, [], rfl, rfl, h1, otRs_ints.mpr ⟨rfl, rfl⟩⟩
theorem sub_olT {xs : List Int} : SubS (.ol xs) (.ot (oti xs)) := fun Z R H o f nd h => by
  obtain ⟨p, vs, rfl, rfl, h3, h4⟩ := h
  have := paired_map_int h4
  subst this
  exact ⟨[p], nd, fun _ h => h, slok_ot nd (otR_ints.mpr ⟨p, rfl, rfl, h3⟩)⟩
theorem sub_Tol {xs : List Int} : SubS (.ot (oti xs)) (.ol xs) := fun Z R H o f nd h => by
  obtain ⟨v, g, rfl, h2, h3, h4⟩ := slok_ot' h
  obtain ⟨a, rfl, rfl, h5⟩ := otR_ints.mp h4
  exact ⟨[a], h2, h3, a, _, rfl, rfl, h5, paired_of_int _⟩
theorem otRs_iint {h : Hp} : ∀ {xss : List (List Int)} {qs : List Addr}, Paired (fun q xs => h q = some (.lst (xs.map V.int))) qs xss → otRs h (xss.map oti) (qs.map V.ref) qs
  | _, _, .nil => ⟨rfl, rfl⟩
  | _, _, .cons r t => ⟨_, _, [_], _, rfl, rfl, otR_ints.mpr ⟨_, rfl, rfl, r⟩, otRs_iint t⟩
theorem otRs_iint' {h : Hp} : ∀ {xss : List (List Int)} {vs : List V} {f : List Addr}, otRs h (xss.map oti) vs f → vs = f.map V.ref ∧ Paired (fun q xs => h q = some (.lst (xs.map V.int))) f xss
  | [], _, _, ⟨e1, e2⟩ => by subst e1 e2; exact ⟨rfl, .nil⟩
  | xs :: xss, _, _, ⟨v, ws, g1, g2, e1, e2, h1, h2⟩ => by
    obtain ⟨a, rfl, rfl, h3⟩ := otR_ints.mp h1
    obtain ⟨e3, h4⟩ := otRs_iint' h2
    subst e1 e2 e3
    exact ⟨rfl, .cons h3 h4⟩
theorem sub_o2T {xss : List (List Int)} : SubS (.o2 xss) (.ot (otii xss)) := fun Z R H o f nd h => by
  obtain ⟨p, qs, rfl, rfl, h3, h4⟩ := h
  refine ⟨p :: qs, nd, fun _ h => h, slok_ot nd ⟨p, _, qs, rfl, rfl, h3, otRs_iint (paired_mono (fun q xs ⟨vs, a, b⟩ => ?_) h4)⟩⟩
  rw [← paired_map_int b]
  exact a
theorem sub_To2 {xss : List (List Int)} : SubS (.ot (otii xss)) (.o2 xss) := fun Z R H o f nd h => by
  obtain ⟨v, g, rfl, h2, h3, a, vs, qs, rfl, rfl, h5, h6⟩ := slok_ot' h
  obtain ⟨rfl, h7⟩ := otRs_iint' h6
  exact ⟨_, h2, h3, a, qs, rfl, rfl, h5, paired_mono (fun q xs e => ⟨_, e, paired_of_int _⟩) h7⟩
theorem sub_un {s : Sl} : SubS s .un := fun Z R H o f nd h => ⟨[], List.nodup_nil, fun _ h => by simp at h, rfl⟩
end TB
namespace TB
open PySem L2
section
variable {c : Cn} {Γ : List Sl} {ta tb te tl ty : TE} {tt tc : TT} {t u : TS} {s s' so : Sl} {α β γ : Type} {_ : Rp α} {_ : Rp β} {_ : Rp γ} {P : Po} {d : α} {T U : OT}
theorem ev_subS (q : SubS s s') (h : Ev c Γ te s) : Ev c Γ te s' := fun B R0 R H ρ Δ σ S Q k x => h B R0 R H ρ Δ σ S Q (fun v R1 H1 S1 => k v R1 H1 (sx_subTop q S1)) x
theorem w_subS (i : Nat) (q : SubS s s') (e : Γ[i]? = some s) (h : W c (Γ.set i s') t P) : W c Γ t P := fun B R0 R H ρ Δ σ D S n r b kk x => h B R0 R H ρ Δ σ D (sx_sub q S e) n r b kk x
/-- an own tuple's (list's) item, the rest let go -/
theorem ev_otIxT {Ts : List OT} {k : Nat} {n : Int} (h : Ev c Γ te (.ot (.t Ts))) (e : Ts[k]? = some U) (hn : n = (k : Int)) : Ev c Γ (tOp (gIx c.Z.K) te (tC (.int n))) (.ot U) := fun B R0 R H ρ Δ σ S Q q x =>
  h B R0 R H ρ Δ σ S _ (fun v R1 H1 S1 => by
    obtain ⟨f, h1, h2, h3⟩ := sx_ownTop S1
    obtain ⟨v', g, e1, h4, h5, a, vs, g', rfl, rfl, h6, h7⟩ := slok_ot' h1
    cases e1
    obtain ⟨w, f1, g2, f2, h8, rfl, h9, _⟩ := otRs_at h7 e
    have hlt : k < vs.length := (List.getElem?_eq_some_iff.mp h8).1
    refine .inr (.inl ⟨a, vs, n, w, rfl, rfl, SqT.of h6, atI_of (by omega) (by omega) (by rw [hn]; simpa using h8), ?_⟩)
    have nd2 : g2.Nodup := by
      have := (List.nodup_cons.mp h4).2
      simp only [List.nodup_append] at this
      exact this.1.2.1
    exact q w R1 H1 (h3 H1 (some w) (.ot U) g2 (fun _ _ => rfl) nd2 (fun p hp => h5 p (by simp [hp])) (slok_ot nd2 h9))) x
/-- where a path within slot i leads, and what becomes of the whole -/
def EvAt (c : Cn) (i : Nat) (te : TE) (T U : OT) (put : OT → OT) : Prop := ∀ (H : Hp) (v : V) (f : List Addr) (σ : List (Option V)), otR H T v f → f.Nodup → σ[i]? = some (some v) → ∀ Q : VK,
  (∀ (u : V) (g : List Addr), g.Nodup → (∀ p ∈ g, p ∈ f) → otR H U u g →
    (∀ (H' : Hp) (U' : OT), (∀ p ∈ f, p ∉ g → H' p = H p) → otR H' U' u g → otR H' (put U') v f) → Q u H) → te σ H Q
theorem ea_here {i : Nat} : EvAt c i (tVar i) T T id := fun H v f σ h nd e Q q => ⟨v, e, q v f nd (fun _ h => h) h fun _ _ _ h' => h'⟩
theorem nodup_mid {g1 g g2 : List Addr} {a : Addr} (h : (a :: (g1 ++ g ++ g2)).Nodup) : g.Nodup ∧ (∀ p ∈ g, p ≠ a ∧ p ∉ g1 ∧ p ∉ g2) := by
  simp only [List.nodup_cons, List.nodup_append, List.mem_append] at h
  grind
theorem ea_ixT {i k : Nat} {n : Int} {Us : List OT} {V0 : OT} {put : OT → OT} (h : EvAt c i te T (.t Us) put) (e : Us[k]? = some V0) (hn : n = (k : Int)) : EvAt c i (tOp (gIx c.Z.K) te (tC (.int n))) T V0 (fun U' => put (.t (Us.set k U'))) := fun H v f σ hT nd eσ Q q =>
  h H v f σ hT nd eσ _ fun u g ndg sub ⟨a, vs, g', eu, eg, h6, h7⟩ back => by
    subst eu eg
    obtain ⟨w, f1, g2, f2, h8, rfl, h9, h10⟩ := otRs_at h7 e
    have hlt : k < vs.length := (List.getElem?_eq_some_iff.mp h8).1
    obtain ⟨n1, n2⟩ := nodup_mid ndg
    refine .inr (.inl ⟨a, vs, n, w, rfl, rfl, SqT.of h6, atI_of (by omega) (by omega) (by rw [hn]; simpa using h8), q w g2 n1 (fun p hp => sub p (by simp [hp])) h9 fun H' U' k1 k2 => back H' _ (fun p hp hq => k1 p hp fun z => hq (by simp [z])) ⟨a, vs, _, rfl, rfl, ?_, h10 H' U' g2 (fun p hp => k1 p (sub p ?_) ?_) k2⟩⟩)
    · rw [k1 a (sub a (by simp)) fun z => (n2 a z).1 rfl]; exact h6
    · simp only [List.mem_append, List.mem_cons] at hp ⊢; grind
    · intro z
      simp only [List.mem_append] at hp
      rcases hp with hp | hp
      · exact (n2 p z).2.1 hp
      · exact (n2 p z).2.2 hp
theorem ea_ixL {i k : Nat} {n : Int} {Us : List OT} {V0 : OT} {put : OT → OT} (h : EvAt c i te T (.l Us) put) (e : Us[k]? = some V0) (hn : n = (k : Int)) : EvAt c i (tOp (gIx c.Z.K) te (tC (.int n))) T V0 (fun U' => put (.l (Us.set k U'))) := fun H v f σ hT nd eσ Q q =>
  h H v f σ hT nd eσ _ fun u g ndg sub ⟨a, vs, g', eu, eg, h6, h7⟩ back => by
    subst eu eg
    obtain ⟨w, f1, g2, f2, h8, rfl, h9, h10⟩ := otRs_at h7 e
    have hlt : k < vs.length := (List.getElem?_eq_some_iff.mp h8).1
    obtain ⟨n1, n2⟩ := nodup_mid ndg
    refine .inl ⟨a, vs, n, w, rfl, rfl, SqL.of h6, atI_of (by omega) (by omega) (by rw [hn]; simpa using h8), q w g2 n1 (fun p hp => sub p (by simp [hp])) h9 fun H' U' k1 k2 => back H' _ (fun p hp hq => k1 p hp fun z => hq (by simp [z])) ⟨a, vs, _, rfl, rfl, ?_, h10 H' U' g2 (fun p hp => k1 p (sub p ?_) ?_) k2⟩⟩
    · rw [k1 a (sub a (by simp)) fun z => (n2 a z).1 rfl]; exact h6
    · simp only [List.mem_append, List.mem_cons] at hp ⊢; grind
    · intro z
      simp only [List.mem_append] at hp
      rcases hp with hp | hp
      · exact (n2 p z).2.1 hp
      · exact (n2 p z).2.2 hp
theorem sx_ot {Z : Zz} {B R0 R H : Hp} {ρ σ : List (Option V)} {Δ : List Sl} (S : Sx Z B R0 R H ρ Δ σ Γ) {i : Nat} (e : Γ[i]? = some (.ot T)) : ∃ v f, σ[i]? = some (some v) ∧ otR H T v f ∧ f.Nodup ∧ ∀ (H' : Hp) (T' : OT), (∀ p, p ∉ f → H' p = H p) → otR H' T' v f → Sx Z B R0 R H' ρ Δ σ (Γ.set i (.ot T')) := by
  obtain ⟨o, f, h1, h2, h3, h4⟩ := sx_own S e
  obtain ⟨v, g, rfl, h5, h6, h7⟩ := slok_ot' h2
  exact ⟨v, g, h1, h7, h5, fun H' T' k q => h4 H' (.ot T') g (fun p hp => k p fun z => hp (h6 p z)) h5 h6 (slok_ot h5 q)⟩
theorem ep_len {xs : List α} (h : EvP c Γ te xs) : EvP c Γ (tCB (gLen c.Z.K) (tCons te tNil)) (xs.length : Int) := fun B R0 R H ρ Δ σ S Q q => h B R0 R H ρ Δ σ S _ fun v rv => by
  obtain ⟨a, vs, rfl, ha, hp⟩ := rv
  exact ⟨_, vs.length, rfl, .inl ⟨vs, SqL.of (sx_same S _ _ ha), rfl⟩, q _ (by rw [Paired.length hp]; rfl)⟩
/-- PATH.append(int) -/
theorem w_appOT {i : Nat} {Us : List OT} {put : OT → OT} {y : Int} (e : Γ[i]? = some (.ot T)) (hp : EvAt c i te T (.l Us) put) (hy : EvP c Γ ty y) (hl : Us.length < 1000000) (k : P.nx (Γ.set i (.ot (put (.l (Us ++ [.i y])))))) :
    W c Γ (tDrop (tBM c.Z.K "list" rAppend te (tCons ty tNil))) P := fun B R0 R H ρ Δ σ D S n r bb kk x => by
  obtain ⟨v, f, h1, h2, h3, h4⟩ := sx_ot S e
  refine hp H v f σ h2 h3 h1 _ fun u g ndg sub ⟨a, vs, g', eu, eg, h6, h7⟩ back => ?_
  subst eu eg
  have hlen := otRs_len h7
  refine ⟨tyL h6, hy B R0 R H ρ Δ σ S _ fun w rw' => ?_⟩
  have ew : w = .int y := rw'
  subst ew
  have na : a ∉ g' := (List.nodup_cons.mp ndg).1
  refine ⟨a, vs, .int y, rfl, rfl, h6, Nat.lt_of_lt_of_le (by omega : vs.length < 1000000) (by decide), n R _ _ _ (h4 _ _ (fun p hp => upd_ne fun z => hp (sub p (by rw [z]; simp))) (back _ (.l (Us ++ [.i y])) (fun p _ hp => upd_ne fun z => hp (by rw [z]; simp)) ⟨a, vs ++ [.int y], g', rfl, rfl, upd_same, ?_⟩)) k⟩
  have := otRs_app (otRs_frame (fun p hp => upd_ne fun z => na (z ▸ hp)) h7 (h' := upd H a (.lst (vs ++ [.int y])))) (show otRs (upd H a (.lst (vs ++ [.int y]))) [.i y] [.int y] [] from ⟨_, _, [], [], rfl, rfl, ⟨rfl, rfl⟩, rfl, rfl⟩)
  rw [List.append_nil] at this
  exact this
end
end TB
namespace TB
open PySem L2
theorem tak_drp {α : Type} (F G : α → OT) {Us : List α} {k : Nat} (h : k < Us.length) : ((Us.take k).map F ++ (Us.drop k).map G)[k]? = some (G Us[k]) ∧ ((Us.take k).map F ++ (Us.drop k).map G).set k (F Us[k]) = (Us.take (k + 1)).map F ++ (Us.drop (k + 1)).map G := by
  have hl : ((Us.take k).map F).length = k := by rw [List.length_map, List.length_take]; omega
  constructor
  · rw [List.getElem?_append_right (by omega), hl, Nat.sub_self, List.getElem?_map, List.getElem?_drop, Nat.add_zero, List.getElem?_eq_getElem h]
    rfl
  · rw [List.set_append_right _ _ (by omega), hl, Nat.sub_self, List.drop_eq_getElem_cons h, List.map_cons, List.set_cons_zero, List.take_succ, List.getElem?_eq_getElem h, List.map_append]
    simp
section
variable {c : Cn} {Γ : List Sl} {ta tb te tl ty : TE} {tt tc : TT} {t u : TS} {s s' so : Sl} {α β γ : Type} {_ : Rp α} {_ : Rp β} {_ : Rp γ} {P : Po} {d : α} {T U : OT}
/-- for x in PATH: x.append(int) -/
theorem w_forOT {i j : Nat} {Us : List (List OT)} {put : OT → OT} {y : Int} (hj : j < Γ.length) (e : Γ[i]? = some (.ot T)) (hp : EvAt c i te T (.l (Us.map OT.l)) put) (hy : ∀ T', EvP c ((Γ.set i (.ot T')).set j .un) ty y) (hl : ∀ xs ∈ Us, xs.length < 1000000)
    (k : P.nx ((Γ.set i (.ot (put (.l (Us.map fun xs => OT.l (xs ++ [.i y])))))).set j .un)) : W c Γ (tFor (iList c.Z.K te) (gName j) (tDrop (tBM c.Z.K "list" rAppend (tVar j) (tCons ty tNil)))) P := fun B R0 R H ρ Δ σ D S n r bb kk x => by
  have ls := sx_len S
  obtain ⟨v, f, h1, h2, h3, h4⟩ := sx_ot S e
  refine hp H v f σ h2 h3 h1 _ fun u g ndg sub ⟨a, vs, g', eu, eg, h6, h7⟩ back => ?_
  subst eu eg
  have hlen := otRs_len h7
  rw [List.length_map] at hlen
  have na : a ∉ g' := (List.nodup_cons.mp ndg).1
  have ndg' := (List.nodup_cons.mp ndg).2
  refine ⟨a, rfl, ⟨vs, SqL.of h6⟩, ?_⟩
  have tree : ∀ (H1 : Hp) (Ws : List OT), (∀ p, p ∉ g' → H1 p = H p) → otRs H1 Ws vs g' → otR H1 (put (.l Ws)) v f := fun H1 Ws q1 q2 => back H1 _ (fun p _ hp => q1 p fun z => hp (by simp [z])) ⟨a, vs, g', rfl, rfl, by rw [q1 a na]; exact h6, q2⟩
  have sxj : ∀ (H1 : Hp) (Ws : List OT) (σ1 : List (Option V)), (∀ p, p ∉ g' → H1 p = H p) → otRs H1 Ws vs g' → (σ1 = σ ∨ ∃ o, σ1 = σ.set j o) → Sx c.Z B R0 R H1 ρ Δ σ1 ((Γ.set i (.ot (put (.l Ws)))).set j .un) := fun H1 Ws σ1 q1 q2 q3 => by
    have S1 := h4 H1 _ (fun p hp => q1 p fun z => hp (sub p (by simp [z]))) (tree H1 Ws q1 q2)
    rcases q3 with rfl | ⟨o, rfl⟩
    · exact sx_forget S1 j
    · exact sx_forgets S1 j o
  refine ⟨fun k m σ1 H1 => m = vs.length - k ∧ k ≤ vs.length ∧ (∀ p, p ∉ g' → H1 p = H p) ∧ otRs H1 ((Us.take k).map (fun xs => OT.l (xs ++ [.i y])) ++ (Us.drop k).map OT.l) vs g' ∧ (σ1 = σ ∨ ∃ o, σ1 = σ.set j o), ⟨vs.length, by simp, Nat.zero_le _, fun _ _ => rfl, by simpa using h7, .inl rfl⟩, ?_⟩
  rintro k1 m σ1 H1 ⟨rfl, hk, hH, hT, hσ⟩
  have hA : H1 a = some (.lst vs) := by rw [hH a na]; exact h6
  by_cases hlt : k1 < vs.length
  · refine .inr ⟨⟨vs, vs[k1], SqL.of hA, List.getElem?_eq_getElem hlt⟩, fun σ' H' => (∀ p, p ∉ g' → H' p = H p) ∧ otRs H' ((Us.take (k1 + 1)).map (fun xs => OT.l (xs ++ [.i y])) ++ (Us.drop (k1 + 1)).map OT.l) vs g' ∧ (σ' = σ ∨ ∃ o, σ' = σ.set j o), fun σ' H' h => ⟨vs.length - (k1 + 1), by omega, rfl, hlt, h⟩, ?_⟩
    rintro w H' ⟨rfl, hw⟩
    have hw' := hw vs (SqL.of hA)
    have hk2 : k1 < Us.length := by omega
    obtain ⟨q1, q2⟩ := tak_drp (fun xs => OT.l (xs ++ [.i y])) OT.l hk2
    obtain ⟨w', f1, g2, f2, e1, rfl, e3, e4⟩ := otRs_at hT q1
    rw [hw'] at e1
    cases e1
    obtain ⟨b, ws, gg, rfl, rfl, hb, hws⟩ := e3
    have hlen2 := otRs_len hws
    have hlx := hl _ (List.getElem_mem hk2)
    have hσ2 : σ1.set j (some (.ref b)) = σ ∨ ∃ o, σ1.set j (some (.ref b)) = σ.set j o := by
      rcases hσ with rfl | ⟨o, rfl⟩
      · exact .inr ⟨_, rfl⟩
      · exact .inr ⟨_, List.set_set ..⟩
    have hlj : j < σ1.length := by
      rcases hσ with rfl | ⟨o, rfl⟩
      · omega
      · rw [List.length_set]; omega
    have hbn := nodup_mid (a := a) (g1 := f1) (g := b :: gg) (g2 := f2) ndg
    have hbg : b ∉ gg := (List.nodup_cons.mp hbn.1).1
    refine ⟨.ref b, by rw [List.getElem?_set_self hlj], tyL hb, hy _ B R0 R H' ρ Δ _ (sxj H' _ _ hH hT hσ2) _ fun w2 rw2 => ?_⟩
    have ew : w2 = .int y := rw2
    subst ew
    refine ⟨b, ws, .int y, rfl, rfl, hb, Nat.lt_of_lt_of_le (by omega : ws.length < 1000000) (by decide), fun p hp => ?_, ?_, hσ2⟩
    · rw [upd_ne fun z => hp (by simp [z])]
      exact hH p hp
    · rw [← q2]
      refine e4 _ _ _ (fun p hp => upd_ne fun z => ?_) ⟨b, ws ++ [.int y], gg, rfl, rfl, upd_same, ?_⟩
      · subst z
        have := (hbn.2 p (by simp)).2
        simp only [List.mem_append] at hp
        rcases hp with q | q
        · exact this.1 q
        · exact this.2 q
      · have := otRs_app (otRs_frame (fun p hp => upd_ne fun z => hbg (z ▸ hp)) hws (h' := upd H' b (.lst (ws ++ [.int y])))) (show otRs (upd H' b (.lst (ws ++ [.int y]))) [.i y] [.int y] [] from ⟨_, _, [], [], rfl, rfl, ⟨rfl, rfl⟩, rfl, rfl⟩)
        rw [List.append_nil] at this
        exact this
  · have ek : k1 = Us.length := by omega
    subst ek
    rw [List.take_length, List.drop_length, List.map_nil, List.append_nil] at hT
    exact .inl ⟨⟨vs, SqL.of hA, by omega⟩, n R H1 σ1 _ (sxj H1 _ σ1 hH hT hσ) k⟩
/-- o.m(..) of a datum, things lent -/
theorem ev_methL {Tm' : Tm} {o : α} {C : Addr} {m : Str} {t : TA} {ss : List Sl} (h : Ev c Γ te (.im o)) (hm : ∀ R v, Rp.rp c.Z R v o → ∃ a dx fs, v = .ref a ∧ R a = some (.ins C dx fs) ∧ fs.lookup m = none) (ha : EvB c Γ t ss) (hd : Det s) (hT : Tm' (.im o :: (ss ++ [])) (fun s' => s' = s) fun r => c.ex r Γ) :
    Ev c Γ (tMethSD C m (spOf c.Z Tm') [] (WE c.X) te t) s := fun B R0 R H ρ Δ σ S Q q xk => h B R0 R H ρ Δ σ S _ (fun v R1 H1 S1 => by
  obtain ⟨a, dx, fs, rfl, h2, h3⟩ := hm R1 v (sx_top' S1)
  refine ⟨a, dx, fs, rfl, sx_same S1 _ _ h2, h3, ha B R0 R1 H1 _ _ σ S1 _ (fun vs R2 H2 RL S2 a2 b sl => ?_) xk.push1⟩
  refine ⟨RL, .im o :: (ss ++ []), _, _, b, .cons (Rp.mono a2 (sx_top' S2)) (slims_append sl .nil), hT, fun v R' H' s' S' e => ?_, fun r cls d H' e rx er => ?_⟩
  · subst e
    exact q v R2 H' (sx_pop2 (sx_callL S2 a2 hd S'))
  · obtain ⟨R3, _, S3, rx2⟩ := sx_callX (sx_pop S2) e rx
    exact xk R3 H' σ Γ r cls d S3 rx2 er) xk
theorem ev_methN {Tm' : Tm} {o : α} {C : Addr} {m : Str} {t : TA} {ss : List Sl} (h : Ev c Γ te (.im o)) (hm : ∀ R v, Rp.rp c.Z R v o → ∃ a dx fs, v = .ref a ∧ R a = some (.ins C dx fs) ∧ fs.lookup m = none) (ha : EvA c Γ t ss) (hT : Tm' (.im o :: (ss ++ [])) (fun s' => s' = s) fun r => c.ex r Γ) :
    Ev c Γ (tMethSD C m (spOf c.Z Tm') [] (WE c.X) te t) s := fun B R0 R H ρ Δ σ S Q q xk => h B R0 R H ρ Δ σ S _ (fun v R1 H1 S1 => by
  obtain ⟨a, dx, fs, rfl, h2, h3⟩ := hm R1 v (sx_top' S1)
  refine ⟨a, dx, fs, rfl, sx_same S1 _ _ h2, h3, ha B R0 R1 H1 _ _ σ S1 _ (fun vs R2 H2 S2 sl => ?_) xk.push1⟩
  refine ⟨R2, .im o :: (ss ++ []), _, _, sx_same S2, .cons (sx_top' S2) (slims_append sl .nil), hT, fun v R' H' s' S' e => ?_, fun r cls d H' e rx er => ?_⟩
  · subst e
    exact q v R' H' (sx_pop2 (sx_call S2 S'))
  · obtain ⟨R3, _, S3, rx2⟩ := sx_callX (sx_pop S2) e rx
    exact xk R3 H' σ Γ r cls d S3 rx2 er) xk
/-- two own things in a new tuple, told -/
theorem w_retTup2 {i j : Nat} {A B' : OT} (hi : Γ[i]? = some (.ot A)) (hj : Γ[j]? = some (.ot B')) (hij : i ≠ j) (k : P.rt (.ot (.t [A, B']))) : W c Γ (tRet (tTup (tCons (tVar i) (tCons (tVar j) tNil)))) P := fun B R0 R H ρ Δ σ D S n r b kk x => by
  obtain ⟨o2, e2, S1⟩ := sx_take S hj
  obtain ⟨o1, e1, S2⟩ := sx_take S1 (i := i) (by rw [List.getElem?_set_ne (Ne.symm hij)]; exact hi)
  obtain ⟨hl, own, hs, f, g, rfl, h1, f2, g2, rfl, h2, h3⟩ := sx_leave S2
  obtain ⟨v1, q1, rfl, nd1, sub1, t1⟩ := slok_ot' h1
  obtain ⟨v2, q2, rfl, nd2, sub2, t2⟩ := slok_ot' h2
  refine ⟨v1, e1, v2, e2, by show 2 ≤ sizeLine; decide, fun p np => ?_⟩
  have nin : ∀ q, H q ≠ none → q ≠ p := fun q hq z => hq (z ▸ np)
  have s1 := otR_nd t1
  have s2 := otR_nd t2
  have nd := hs.nd
  have fp := fresh_own (Z := c.Z) (τ := some v1 :: some v2 :: (ρ ++ [])) (Θ := .ot A :: .ot B' :: (Δ ++ [])) (own := f ++ (f2 ++ g2)) hs ⟨f, _, rfl, h1, f2, g2, rfl, h2, h3⟩ np
  refine r R (upd H p (.tup [v1, v2])) (.ref p) (.ot (.t [A, B'])) ⟨by simpa using hl, (p :: (q1 ++ q2)) ++ g2, ⟨hs.rh.trans (same_upd np), hs.bh.trans (same_upd np), hs.r0, hs.nw, fun b hb => ?_, ?_⟩, p :: (q1 ++ q2), g2, rfl, slok_ot ?_ ⟨p, _, _, rfl, rfl, upd_same, v1, _, q1, q2, rfl, rfl, otR_frame (fun b hb => upd_ne (nin b (s1 b hb))) t1, v2, _, q2, [], rfl, by simp, otR_frame (fun b hb => upd_ne (nin b (s2 b hb))) t2, rfl, rfl⟩, es_mono (Same.refl _) (fun b hb => upd_ne fun z => fp.2.2 (by subst z; simp [hb])) h3⟩ k
  · simp only [List.cons_append, List.mem_cons, List.mem_append] at hb
    rcases hb with rfl | (hb | hb) | hb
    · exact ⟨fp.1, fp.2.1⟩
    · exact hs.ow b (by simp [sub1 b hb])
    · exact hs.ow b (by simp [sub2 b hb])
    · exact hs.ow b (by simp [hb])
  · have := fp.2.2
    simp only [List.cons_append, List.nodup_cons, List.nodup_append, List.mem_append] at nd this ⊢
    grind
  · have := fp.2.2
    simp only [List.nodup_cons, List.nodup_append, List.mem_append] at nd this ⊢
    grind
end
end TB

local macro_rules | `(tactic| walk_at "nz") => `(tactic| try dsimp only [List.set_cons_zero, List.set_cons_succ, List.replicate, List.length_cons, List.length_nil, List.append_nil, List.cons_append, List.nil_append])
local macro_rules | `(tactic| walk_at "sd") => `(tactic| first | assumption | rfl | omega | (simp only [List.length_cons, List.length_nil]; omega) | skip)
local macro_rules | `(tactic| walk_at "ev1") => `(tactic| first
  | with_reducible exact TB.ev_int
  | with_reducible exact TB.ev_bl
  | with_reducible exact TB.ev_str
  | exact TB.ev_var rfl
  | with_reducible exact TB.ev_non
  | exact TB.ev_none
  | ((with_reducible apply TB.ev_add) <;> walk_at "ev")
  | ((with_reducible apply TB.ev_sub) <;> walk_at "ev")
  | ((with_reducible apply TB.ev_mul) <;> walk_at "ev")
  | ((with_reducible apply TB.ev_mod) <;> walk_at "ev")
  | ((with_reducible apply TB.ev_div) <;> walk_at "ev")
  | ((with_reducible apply TB.ev_pow) <;> walk_at "ev")
  | ((with_reducible apply TB.ev_neg) <;> walk_at "ev")
  | ((with_reducible apply TB.ev_lt) <;> walk_at "ev")
  | ((with_reducible apply TB.ev_le) <;> walk_at "ev")
  | ((with_reducible apply TB.ev_gt) <;> walk_at "ev")
  | ((with_reducible apply TB.ev_ge) <;> walk_at "ev")
  | ((with_reducible apply TB.ev_eqI) <;> walk_at "ev")
  | ((with_reducible apply TB.ev_neI) <;> walk_at "ev")
  | ((with_reducible apply TB.ev_eqL) <;> walk_at "ev")
  | ((with_reducible apply TB.ev_neL) <;> walk_at "ev")
  | ((with_reducible apply TB.ev_eqLL) <;> walk_at "ev")
  | ((with_reducible apply TB.ev_neLL) <;> walk_at "ev")
  | ((with_reducible apply TB.ev_eqP) <;> walk_at "ev")
  | ((with_reducible apply TB.ev_neP) <;> walk_at "ev")
  | ((with_reducible apply TB.ev_ix) <;> walk_at "ev")
  | ((with_reducible apply TB.ev_ixS) <;> walk_at "ev")
  | ((apply TB.ev_ixO rfl) <;> walk_at "ev")
  | ((with_reducible apply TB.ev_rows) <;> walk_at "ev")
  | ((with_reducible apply TB.ev_unit) <;> walk_at "ev")
  | ((with_reducible apply TB.ev_backs) <;> walk_at "ev")
  | ((with_reducible apply TB.ev_many) <;> walk_at "ev")
  | ((with_reducible apply TB.ev_len) <;> walk_at "ev")
  | ((with_reducible apply TB.ev_lenS) <;> walk_at "ev")
  | exact TB.ev_lenO rfl
  | ((with_reducible apply TB.ev_list) <;> walk_at "ev")
  | exact TB.ev_listO rfl
  | ((with_reducible apply TB.ev_sorted) <;> walk_at "ev")
  | ((with_reducible apply TB.ev_min2) <;> walk_at "ev")
  | ((with_reducible apply TB.ev_max2) <;> walk_at "ev")
  | ((with_reducible apply TB.ev_listRg) <;> walk_at "ev")
  | ((with_reducible apply TB.ev_isiII) <;> walk_at "ev")
  | ((with_reducible apply TB.ev_isiIB) <;> walk_at "ev")
  | ((with_reducible apply TB.ev_isiLL) <;> walk_at "ev")
  | ((with_reducible apply TB.ev_isiTT) <;> walk_at "ev")
  | ((with_reducible apply TB.ev_cut) <;> walk_at "ev")
  | ((with_reducible apply TB.ev_cutTo) <;> walk_at "ev")
  | ((with_reducible apply TB.ev_cutFrom) <;> walk_at "ev")
  | ((with_reducible apply TB.ev_cutS) <;> walk_at "ev")
  | ((with_reducible apply TB.ev_cat) <;> walk_at "ev")
  | ((with_reducible apply TB.ev_rep) <;> walk_at "ev")
  | ((with_reducible apply TB.ev_all rfl) <;> walk_at "ev")
  | ((with_reducible apply TB.ev_any rfl) <;> walk_at "ev")
  | ((with_reducible apply TB.ev_lstH) <;> walk_at "ev")
  | ((with_reducible apply TB.ev_fr) <;> walk_at "ev")
  | ((with_reducible apply TB.ev_andV) <;> walk_at "ev")
  | ((with_reducible apply TB.ev_orV) <;> walk_at "ev")
  | ((with_reducible apply TB.ev_notV) <;> walk_at "ev"))
local macro_rules | `(tactic| walk_at "et1") => `(tactic| first
  | with_reducible exact TB.et_yes
  | ((with_reducible apply TB.et_test) <;> walk_at "ev")
  | ((with_reducible apply TB.et_B) <;> walk_at "ev")
  | ((with_reducible apply TB.et_not) <;> walk_at "ev")
  | ((with_reducible apply TB.et_and) <;> walk_at "ev")
  | ((with_reducible apply TB.et_or) <;> walk_at "ev"))
local macro_rules | `(tactic| walk_at "ea1") => `(tactic| first
  | with_reducible exact TB.ea_nil
  | ((with_reducible apply TB.ea_cons) <;> walk_at "ev"))
local macro_rules | `(tactic| walk_at "eh1") => `(tactic| first
  | with_reducible exact TB.evh_nil
  | ((with_reducible apply TB.evh_cons) <;> walk_at "ev"))
local macro_rules | `(tactic| walk_at "ev") => `(tactic| first
  | ((with_reducible show TB.EvH _ _ _ _ _); walk_at "eh1")
  | ((with_reducible show TB.Ev _ _ _ _); walk_at "ev1")
  | ((with_reducible show TB.EvT _ _ _ _); walk_at "et1")
  | ((with_reducible show TB.EvA _ _ _ _); walk_at "ea1")
  | ((fail_if_success (with_reducible show TB.Ev _ _ _ _)); (fail_if_success (with_reducible show TB.EvH _ _ _ _ _)); (fail_if_success (with_reducible show TB.EvT _ _ _ _)); (fail_if_success (with_reducible show TB.EvA _ _ _ _)); (first | (intro hc_; walk_at "ev") | walk_at "sd")))
local macro_rules | `(tactic| walk_at "w") => `(tactic| first
  | (with_reducible apply TB.w_seq; walk_at "w")
  | (with_reducible apply TB.w_asg; (case' h => walk_at "ev"); (case' k => walk_at "nz"))
  | (with_reducible apply TB.w_ret; (case' h => walk_at "ev"))
  | (with_reducible apply TB.w_if; (case' h => walk_at "ev"); skip))

/-! TbGrp: groups as data: the product, what is in bounds. -/
namespace TB
open PySem L2
def mul (g : Grp) (a b : Int) : Int := gt (gt g.rows a) b
/-- rows and columns in bounds -/
structure GrpOk (g : Grp) : Prop where
  many : g.many = g.rows.length
  sq : ∀ r ∈ g.rows, r.length = g.rows.length
  bd : ∀ r ∈ g.rows, ∀ x ∈ r, 0 ≤ x ∧ x < g.rows.length
  un : 0 ≤ g.unit ∧ g.unit < g.rows.length
  bl : g.backs.length = g.rows.length
  bb : ∀ x ∈ g.backs, 0 ≤ x ∧ x < g.rows.length
  small : g.rows.length ≤ 23
def Th (g : Grp) (a : Int) : Prop := 0 ≤ a ∧ a < g.rows.length
theorem gt_mem {α : Type} [Rp α] {xs : List α} {i : Int} (h0 : 0 ≤ i) (h1 : i < xs.length) : gt xs i ∈ xs := List.mem_of_getElem? (gt_some h0 h1)
theorem GrpOk.row {g : Grp} (o : GrpOk g) {a : Int} (h : Th g a) : (gt g.rows a).length = g.rows.length := o.sq _ (gt_mem h.1 h.2)
theorem GrpOk.mul {g : Grp} (o : GrpOk g) {a b : Int} (h : Th g a) (k : Th g b) : Th g (mul g a b) := o.bd _ (gt_mem h.1 h.2) _ (gt_mem k.1 (by rw [o.row h]; exact k.2))
def prod (g : Grp) (l : List Int) : Int := l.foldl (mul g) g.unit
end TB
namespace TB
open PySem L2
/-! ### tables -/
abbrev Tbl := List (List Int)
def SizeOk (t : Tbl) : Prop := 1 ≤ t.length ∧ t.length ≤ 23 ∧ ∀ r ∈ t, r.length = t.length
/-- an entry -/
abbrev en (t : Tbl) (a b : Int) : Int := gt (gt t a) b
def Stg (t : Tbl) (x : Int) : Prop := x < 0 ∨ t.length ≤ x
/-- the first stranger's place -/
structure FirstStg (t : Tbl) (a b : Nat) : Prop where
  ha : a < t.length
  hb : b < t[a].length
  bad : Stg t t[a][b]
  rows : ∀ i (h : i < t.length), i < a → ∀ x ∈ t[i], ¬ Stg t x
  row : ∀ j (h : j < t[a].length), j < b → ¬ Stg t t[a][j]
def NoStg (t : Tbl) : Prop := ∀ r ∈ t, ∀ x ∈ r, 0 ≤ x ∧ x < t.length
def IsUnit (t : Tbl) (e : Int) : Prop := ∀ a : Int, 0 ≤ a → a < t.length → en t e a = a ∧ en t a e = a
def IsBack (t : Tbl) (u a b : Int) : Prop := en t a b = u ∧ en t b a = u
structure FirstBack (t : Tbl) (u a b : Int) : Prop where
  b0 : 0 ≤ b
  b1 : b < t.length
  is : IsBack t u a b
  no : ∀ c, 0 ≤ c → c < b → ¬ IsBack t u a c
def Asc (t : Tbl) (a b c : Int) : Prop := en t (en t a b) c = en t a (en t b c)
def InT (t : Tbl) (a : Int) : Prop := 0 ≤ a ∧ a < t.length
def AllAsc (t : Tbl) : Prop := ∀ a b c, InT t a → InT t b → InT t c → Asc t a b c
structure FirstBad (t : Tbl) (a b c : Int) : Prop where
  ha : InT t a
  hb : InT t b
  hc : InT t c
  bad : ¬ Asc t a b c
  r1 : ∀ x y z, InT t x → InT t y → InT t z → x < a → Asc t x y z
  r2 : ∀ y z, InT t y → InT t z → y < b → Asc t a y z
  r3 : ∀ z, InT t z → z < c → Asc t a b z
theorem gt_get {α : Type} [Rp α] {xs : List α} {i : Nat} (h : i < xs.length) : gt xs (i : Int) = xs[i] := gt_nat h
end TB
namespace TB
open PySem L2
/-! ### the group of a table -/
instance (t : Tbl) (u a b : Int) : Decidable (IsBack t u a b) := inferInstanceAs (Decidable (_ ∧ _))
def bkf (t : Tbl) (u a : Int) : Int := ((irange t.length).find? fun b => decide (IsBack t u a b)).getD 0
theorem find_irange {n : Int} {p : Int → Bool} {b : Int} (h : (irange n).find? p = some b) : 0 ≤ b ∧ b < n ∧ p b = true ∧ ∀ c, 0 ≤ c → c < b → p c = false := by
  have hp := List.find?_some h
  have hm := List.mem_of_find?_eq_some h
  rw [mem_irange] at hm
  refine ⟨hm.1, hm.2, hp, fun c h0 h1 => ?_⟩
  rw [List.find?_eq_some_iff_getElem] at h
  obtain ⟨_, i, hi, e, hlt⟩ := h
  rw [irange_get] at e
  have hc : c.toNat < i := by omega
  have := hlt c.toNat hc
  rw [irange_get] at this
  rw [show ((c.toNat : Nat) : Int) = c by omega] at this
  simpa using this
theorem bkf_first {t : Tbl} {u a : Int} (h : ∃ b, InT t b ∧ IsBack t u a b) : FirstBack t u a (bkf t u a) := by
  obtain ⟨b, hb, hk⟩ := h
  unfold bkf
  cases e : (irange t.length).find? fun b => decide (IsBack t u a b) with
  | none =>
    rw [List.find?_eq_none] at e
    exact absurd (decide_eq_true hk) (e b (mem_irange.mpr hb))
  | some x =>
    obtain ⟨h0, h1, h2, h3⟩ := find_irange e
    exact ⟨h0, h1, of_decide_eq_true h2, fun c c0 c1 => of_decide_eq_false (h3 c c0 c1)⟩
def grpOf (t : Tbl) (u : Int) : Grp := ⟨t.length, t, u, (irange t.length).map (bkf t u)⟩
end TB
namespace TB
open PySem L2
theorem irange_succ (i : Nat) : irange ((i : Int) + 1) = irange (i : Int) ++ [(i : Int)] := by
  unfold irange
  rw [show ((i : Int) + 1).toNat = i + 1 by omega, show (i : Int).toNat = i by omega, List.range_succ, List.map_append]
  rfl
theorem irange_zero : irange (0 : Int) = [] := rfl
theorem unit_one {t : Tbl} {u e : Int} (hu : InT t u) (he : InT t e) (h1 : IsUnit t u) (h2 : IsUnit t e) : u = e := by
  have a1 := (h1 e he.1 he.2).1
  have a2 := (h2 u hu.1 hu.2).2
  rw [← a2, a1]
/-- a table that is a group's, with its unit -/
structure GTbl (t : Tbl) (e : Int) : Prop where
  sz : SizeOk t
  ns : NoStg t
  he : InT t e
  un : IsUnit t e
  bk : ∀ a, InT t a → ∃ b, InT t b ∧ IsBack t e a b
  asc : AllAsc t
theorem GTbl.ok {t : Tbl} {e : Int} (h : GTbl t e) : GrpOk (grpOf t e) := by
  have hb : ∀ x ∈ (grpOf t e).backs, 0 ≤ x ∧ x < t.length := by
    intro x hx
    obtain ⟨a, ha, rfl⟩ := List.mem_map.mp hx
    rw [mem_irange] at ha
    have := bkf_first (h.bk a ha)
    exact ⟨this.b0, this.b1⟩
  exact ⟨rfl, h.sz.2.2, h.ns, h.he, by show ((irange t.length).map _).length = t.length; rw [List.length_map, irange_len]; omega, hb, h.sz.2.1⟩
end TB
namespace TB
open PySem L2
theorem gt_map {α : Type} [Rp α] {f : Int → α} {n i : Int} (h0 : 0 ≤ i) (h1 : i < n) : gt ((irange n).map f) i = f i := by
  have h2 : i.toNat < ((irange n).map f).length := by rw [List.length_map, irange_len]; omega
  unfold gt
  rw [getD_eq h2, List.getElem_map, irange_get, show ((i.toNat : Nat) : Int) = i by omega]
end TB
namespace TB
open PySem L2
/-- [list(row) for row in table] -/
theorem ev_copyT {c : Cn} {Γ : List Sl} {tl : TE} {t : Tbl} {j : Nat} (h : Ev c Γ tl (.im t)) (hn : t.length < 1000000) (hu : UnAt Γ [j]) (hv : ∀ r : List Int, (Γ.set j (.im r))[j]? = some (.im r)) : Ev c Γ (tLc (iList c.Z.K tl) (gName j) tYes (tCB (gList c.Z.K) (tCons (tVar j) tNil)) [j]) (.ol t) :=
  ev_is (ev_mapL (xs := t) (fun r => r) h hn (by simp) hu fun r _ => ev_fr (ev_list (ev_var (hv r)))) (congrArg Sl.ol (List.map_id' _))
end TB

/-! ### look_at_size -/
namespace TB
open PySem L2
--use TbGrp
def T_look_at_size : Tm := tm1 fun (t : Tbl) ok er => (SizeOk t → ok (.im ())) ∧ (¬ SizeOk t → er ⟨.BadSize, []⟩)
def t_look_at_size (Z : Zz) (X : WX) : TS :=
  (tSeq (tIfS (tOr (tTest (tOp gLt (tCB (gLen Z.K) (tCons (tVar 0) tNil)) (tC (.int 1)))) (tTest (tOp gGt (tCB (gLen Z.K) (tCons (tVar 0) tNil)) (tC (.int 23)))))
  (tRaise0 (Z.cls .BadSize) X)
  tNext)
  (tFor (iList Z.K (tVar 0)) (gName 1)
  (tIfS (tTest (tOp (gNe Z.K) (tCB (gLen Z.K) (tCons (tVar 1) tNil)) (tCB (gLen Z.K) (tCons (tVar 0) tNil))))
  (tRaise0 (Z.cls .BadSize) X)
  tNext)))
theorem w_look_at_size (Z : Zz) (X : WX) (ss : List Sl) (ok : Sl → Prop) (er : Rf → Prop) (h : T_look_at_size ss ok er) : WF Z X er (ss ++ List.replicate (2 - ss.length) .un) (t_look_at_size Z X) ok := by
  obtain ⟨t, rfl, k1, k2⟩ := h
  show W _ [.im t, .un] _ _
  unfold t_look_at_size
  refine w_seq (w_if (by walk_at "ev") (fun hb => ?_) (fun hb => ?_))
  · refine w_raise0 _ (k2 fun z => ?_)
    simp at hb
    obtain ⟨z1, z2, _⟩ := z
    omega
  · refine w_next ?_
    simp at hb
    show W _ _ _ _
    refine w_forL (xs := t) (fun i G => ∃ s, G = [.im t, s] ∧ ∀ r ∈ t.take i, r.length = t.length) (by walk_at "ev") ⟨.un, rfl, by simp⟩ ?_ ?_
    · rintro i G hi ⟨s, rfl, hr⟩
      walk_at "nz"
      refine w_if (by walk_at "ev") (fun hc => ?_) (fun hc => ?_)
      · refine w_raise0 _ (k2 fun z => ?_)
        simp at hc
        exact hc (by rw [z.2.2 _ (List.getElem_mem hi)])
      · refine w_next ⟨_, rfl, fun r hr' => ?_⟩
        rw [take_snoc hi] at hr'
        rcases List.mem_append.mp hr' with q | q
        · exact hr r q
        · rw [List.mem_singleton.mp q]
          simp at hc
          omega
    · rintro G ⟨s, rfl, hr⟩
      rw [List.take_length] at hr
      refine k1 ⟨by omega, by omega, hr⟩
end TB

/-! ### look_for_strangers -/
namespace TB
open PySem L2
--use TbGrp
def T_look_for_strangers : Tm := tm1 fun (t : Tbl) ok er => (NoStg t → ok (.im ())) ∧ ∀ a b : Nat, FirstStg t a b → er ⟨.Stranger, [("column", .int b), ("row", .int a)]⟩
def t_look_for_strangers (Z : Zz) (X : WX) : TS :=
  (tFor (iEnum Z.K (tCons (tVar 0) tNil)) (gTup Z.K 2 (gCons (gName 1) (gCons (gName 2) gNil)))
  (tFor (iEnum Z.K (tCons (tVar 2) tNil)) (gTup Z.K 2 (gCons (gName 3) (gCons (gName 4) gNil)))
  (tIfS (tOr (tTest (tOp gLt (tVar 4) (tC (.int 0)))) (tTest (tOp gGe (tVar 4) (tCB (gLen Z.K) (tCons (tVar 0) tNil)))))
  (tRaiseN (Z.cls .Stranger) ["row", "column"] X (tCons (tVar 1) (tCons (tVar 3) tNil)))
  tNext)))
theorem w_look_for_strangers (Z : Zz) (X : WX) (ss : List Sl) (ok : Sl → Prop) (er : Rf → Prop) (h : T_look_for_strangers ss ok er) : WF Z X er (ss ++ List.replicate (5 - ss.length) .un) (t_look_for_strangers Z X) ok := by
  obtain ⟨t, rfl, k1, k2⟩ := h
  show W _ [.im t, .un, .un, .un, .un] _ _
  unfold t_look_for_strangers
  refine w_forE (xs := t) (fun i G => ∃ s1 s2 s3 s4, G = [.im t, s1, s2, s3, s4] ∧ ∀ a (h : a < t.length), a < i → ∀ x ∈ t[a], ¬ Stg t x) (by walk_at "ev") ⟨_, _, _, _, rfl, fun _ _ h => absurd h (Nat.not_lt_zero _)⟩ ?_ ?_
  · rintro i G hi ⟨s1, s2, s3, s4, rfl, hr⟩
    walk_at "nz"
    refine w_forE (xs := t[i]) (fun j G => ∃ s3 s4, G = [.im t, .im (i : Int), .im t[i], s3, s4] ∧ ∀ b (h : b < t[i].length), b < j → ¬ Stg t t[i][b]) (by walk_at "ev") ⟨_, _, rfl, fun _ _ h => absurd h (Nat.not_lt_zero _)⟩ ?_ ?_
    · rintro j G hj ⟨s3, s4, rfl, hq⟩
      walk_at "nz"
      refine w_if (by walk_at "ev") (fun hb => ?_) (fun hb => ?_)
      · refine w_raise2 (by walk_at "ev") (by walk_at "ev") (k2 i j ⟨hi, hj, ?_, fun a h ha => hr a h ha, fun b h hb => hq b h hb⟩)
        simp at hb
        exact hb
      · refine w_next ⟨_, _, rfl, fun b h hbj => ?_⟩
        rcases Nat.lt_succ_iff_lt_or_eq.mp hbj with q | q
        · exact hq b h q
        · subst q
          simp at hb
          intro z
          rcases z with z | z <;> omega
    · rintro G ⟨s3, s4, rfl, hq⟩
      refine ⟨_, _, _, _, rfl, fun a h ha x hx => ?_⟩
      rcases Nat.lt_succ_iff_lt_or_eq.mp ha with q | q
      · exact hr a h q x hx
      · subst q
        obtain ⟨b, hb, rfl⟩ := List.getElem_of_mem hx
        exact hq b hb hb
  · rintro G ⟨s1, s2, s3, s4, rfl, hr⟩
    refine k1 fun r hr' x hx => ?_
    obtain ⟨a, ha, rfl⟩ := List.getElem_of_mem hr'
    have := hr a ha ha x hx
    unfold Stg at this
    omega
end TB

/-! ### unit_of -/
namespace TB
open PySem L2
--use TbGrp
def T_unit_of : Tm := tm1 fun (t : Tbl) ok er => SizeOk t ∧ (∀ e : Int, 0 ≤ e → e < t.length → IsUnit t e → (∀ e', 0 ≤ e' → e' < e → ¬ IsUnit t e') → ok (.im e)) ∧ ((∀ e : Int, 0 ≤ e → e < t.length → ¬ IsUnit t e) → er ⟨.NoUnit, []⟩)
theorem isUnit_iff {t : Tbl} {e : Int} : (((irange (t.length : Int)).map fun a => (decide (gt (gt t e) a = a) && decide (gt (gt t a) e = a))).all id = true) ↔ IsUnit t e := by
  simp only [List.all_eq_true, List.mem_map, mem_irange, IsUnit, id]
  constructor
  · intro h a h0 h1
    have := h _ ⟨a, ⟨h0, h1⟩, rfl⟩
    simpa using this
  · rintro h x ⟨a, ⟨h0, h1⟩, rfl⟩
    simpa using h a h0 h1
theorem sz_row {t : Tbl} (h : SizeOk t) {a : Int} (h0 : 0 ≤ a) (h1 : a < t.length) : (gt t a).length = t.length := h.2.2 _ (gt_mem h0 h1)
def t_unit_of (Z : Zz) (X : WX) : TS :=
  (tSeq (tFor (iEnum Z.K (tCons (tVar 0) tNil)) (gTup Z.K 2 (gCons (gName 1) (gCons (gName 2) gNil)))
  (tIfS (tB (tCB (rAll Z.K) (tCons (tLc (iRng1 (tCons (tCB (gLen Z.K) (tCons (tVar 0) tNil)) tNil)) (gName 3) tYes (tAndV (tOp (gEq Z.K) (tOp (gIx Z.K) (tVar 2) (tVar 3)) (tVar 3)) (tOp (gEq Z.K) (tOp (gIx Z.K) (tOp (gIx Z.K) (tVar 0) (tVar 3)) (tVar 1)) (tVar 3))) [3]) tNil)))
  (tRet (tVar 1))
  tNext))
  (tRaise0 (Z.cls .NoUnit) X))
theorem w_unit_of (Z : Zz) (X : WX) (ss : List Sl) (ok : Sl → Prop) (er : Rf → Prop) (h : T_unit_of ss ok er) : WF Z X er (ss ++ List.replicate (4 - ss.length) .un) (t_unit_of Z X) ok := by
  obtain ⟨t, rfl, hs, k1, k2⟩ := h
  show W _ [.im t, .un, .un, .un] _ _
  unfold t_unit_of
  have hlen := hs.2.1
  refine w_seq (w_forE (xs := t) (fun i G => ∃ s1 s2, G = [.im t, s1, s2, .un] ∧ ∀ e : Int, 0 ≤ e → e < i → ¬ IsUnit t e) (by walk_at "ev") ⟨_, _, rfl, fun _ _ _ => by omega⟩ ?_ ?_)
  · rintro i G hi ⟨s1, s2, rfl, hr⟩
    walk_at "nz"
    have hri : t[i].length = t.length := hs.2.2 _ (List.getElem_mem hi)
    refine w_if (b := ((irange (t.length : Int)).map fun a => (decide (gt (gt t (i : Int)) a = a) && decide (gt (gt t a) (i : Int) = a))).all id) (et_B (ev_all rfl (ev_fr (ev_mapR (n := (t.length : Int)) (fun a => (decide (gt (gt t (i : Int)) a = a) && decide (gt (gt t a) (i : Int) = a))) (by walk_at "ev") (by omega) (by omega) (by simp) ⟨.inl rfl, trivial⟩ fun a h0 h1 => ?_)))) (fun hb => ?_) (fun hb => ?_)
    · have h2 := sz_row hs h0 h1
      rw [gt_get hi]
      walk_at "nz"
      walk_at "ev"
    · exact w_ret (by walk_at "ev") (k1 i (by omega) (by omega) (isUnit_iff.mp hb) hr)
    · refine w_next ⟨_, _, rfl, fun e h0 h1 => ?_⟩
      by_cases he : e = i
      · subst he
        intro z
        rw [isUnit_iff.mpr z] at hb
        cases hb
      · exact hr e h0 (by omega)
  · rintro G ⟨s1, s2, rfl, hr⟩
    exact w_raise0 _ (k2 hr)
end TB

/-! ### back_of -/
namespace TB
open PySem L2
--use TbGrp
def T_back_of : Tm := tm3 fun (t : Tbl) (u a : Int) ok er => SizeOk t ∧ InT t a ∧ (∀ b, FirstBack t u a b → ok (.im b)) ∧ ((∀ b, InT t b → ¬ IsBack t u a b) → er ⟨.NoBack, [("thing", .int a)]⟩)
def t_back_of (Z : Zz) (X : WX) : TS :=
  (tSeq (tFor (iRng1 (tCons (tCB (gLen Z.K) (tCons (tVar 0) tNil)) tNil)) (gName 3)
  (tIfS (tAnd (tTest (tOp (gEq Z.K) (tOp (gIx Z.K) (tOp (gIx Z.K) (tVar 0) (tVar 2)) (tVar 3)) (tVar 1))) (tTest (tOp (gEq Z.K) (tOp (gIx Z.K) (tOp (gIx Z.K) (tVar 0) (tVar 3)) (tVar 2)) (tVar 1))))
  (tRet (tVar 3))
  tNext))
  (tRaiseN (Z.cls .NoBack) ["thing"] X (tCons (tVar 2) tNil)))
theorem w_back_of (Z : Zz) (X : WX) (ss : List Sl) (ok : Sl → Prop) (er : Rf → Prop) (h : T_back_of ss ok er) : WF Z X er (ss ++ List.replicate (4 - ss.length) .un) (t_back_of Z X) ok := by
  obtain ⟨t, u, a, rfl, hs, ha, k1, k2⟩ := h
  show W _ [.im t, .im u, .im a, .un] _ _
  unfold t_back_of
  have hlen := hs.2.1
  obtain ⟨ha0, ha1⟩ := id ha
  have hra : (gt t a).length = t.length := hs.2.2 _ (gt_mem ha0 ha1)
  refine w_seq (w_forR (n := (t.length : Int)) (fun i G => ∃ s1, G = [.im t, .im u, .im a, s1] ∧ ∀ b : Int, 0 ≤ b → b < i → ¬ IsBack t u a b) (by walk_at "ev") (by omega) (by omega) ⟨_, rfl, fun _ _ _ => by omega⟩ ?_ ?_)
  · rintro i G hi ⟨s1, rfl, hr⟩
    walk_at "nz"
    have hri : (gt t (i : Int)).length = t.length := hs.2.2 _ (gt_mem (by omega) hi)
    refine w_if (by walk_at "ev") (fun hb => ?_) (fun hb => ?_)
    · simp at hb
      exact w_ret (by walk_at "ev") (k1 i ⟨by omega, hi, hb, hr⟩)
    · refine w_next ⟨_, rfl, fun b h0 h1 => ?_⟩
      by_cases he : b = i
      · subst he
        rintro ⟨z1, z2⟩
        simp [en] at hb z1 z2
        exact hb z1 z2
      · exact hr b h0 (by omega)
  · rintro G ⟨s1, rfl, hr⟩
    refine w_raise1 (by walk_at "ev") (k2 fun b hb => hr b hb.1 (by have := hb.2; omega))
end TB

/-! ### look_at_threes -/
namespace TB
open PySem L2
--use TbGrp
def T_look_at_threes : Tm := tm1 fun (t : Tbl) ok er => SizeOk t ∧ NoStg t ∧ (AllAsc t → ok (.im ())) ∧ ∀ a b c, FirstBad t a b c → er ⟨.NotTogether, [("three", .int c), ("two", .int b), ("one", .int a)]⟩
theorem en_in {t : Tbl} (hs : SizeOk t) (hn : NoStg t) {a b : Int} (ha : InT t a) (hb : InT t b) : InT t (en t a b) := by
  have h1 : (gt t a).length = t.length := hs.2.2 _ (gt_mem ha.1 ha.2)
  exact hn _ (gt_mem ha.1 ha.2) _ (gt_mem hb.1 (by rw [h1]; exact hb.2))
def t_look_at_threes (Z : Zz) (X : WX) : TS :=
  (tFor (iEnum Z.K (tCons (tVar 0) tNil)) (gTup Z.K 2 (gCons (gName 1) (gCons (gName 2) gNil)))
  (tFor (iEnum Z.K (tCons (tVar 2) tNil)) (gTup Z.K 2 (gCons (gName 3) (gCons (gName 4) gNil)))
  (tFor (iEnum Z.K (tCons (tOp (gIx Z.K) (tVar 0) (tVar 3)) tNil)) (gTup Z.K 2 (gCons (gName 5) (gCons (gName 6) gNil)))
  (tIfS (tTest (tOp (gNe Z.K) (tOp (gIx Z.K) (tOp (gIx Z.K) (tVar 0) (tVar 4)) (tVar 5)) (tOp (gIx Z.K) (tVar 2) (tVar 6))))
  (tRaiseN (Z.cls .NotTogether) ["one", "two", "three"] X (tCons (tVar 1) (tCons (tVar 3) (tCons (tVar 5) tNil))))
  tNext))))
theorem w_look_at_threes (Z : Zz) (X : WX) (ss : List Sl) (ok : Sl → Prop) (er : Rf → Prop) (h : T_look_at_threes ss ok er) : WF Z X er (ss ++ List.replicate (7 - ss.length) .un) (t_look_at_threes Z X) ok := by
  obtain ⟨t, rfl, hs, hn, k1, k2⟩ := h
  show W _ [.im t, .un, .un, .un, .un, .un, .un] _ _
  unfold t_look_at_threes
  have hlen := hs.2.1
  refine w_forE (xs := t) (fun i G => ∃ s1 s2 s3 s4 s5 s6, G = [.im t, s1, s2, s3, s4, s5, s6] ∧ ∀ a b c, InT t a → InT t b → InT t c → a < i → Asc t a b c) (by walk_at "ev") ⟨_, _, _, _, _, _, rfl, fun a b c h _ _ h2 => by have := h.1; omega⟩ ?_ ?_
  · rintro i G hi ⟨s1, s2, s3, s4, s5, s6, rfl, hr⟩
    have hI : InT t (i : Int) := ⟨by omega, by omega⟩
    have hri : t[i].length = t.length := hs.2.2 _ (List.getElem_mem hi)
    walk_at "nz"
    refine w_forE (xs := t[i]) (fun j G => ∃ s3 s4 s5 s6, G = [.im t, .im (i : Int), .im t[i], s3, s4, s5, s6] ∧ ∀ b c, InT t b → InT t c → b < j → Asc t i b c) (by walk_at "ev") ⟨_, _, _, _, rfl, fun b c h _ h2 => by have := h.1; omega⟩ ?_ ?_
    · rintro j G hj ⟨s3, s4, s5, s6, rfl, hq⟩
      have hJ : InT t (j : Int) := ⟨by omega, by omega⟩
      have hrj : (gt t (j : Int)).length = t.length := hs.2.2 _ (gt_mem hJ.1 hJ.2)
      have eij : t[i][j] = en t i j := by rw [en, gt_get hi, gt_get hj]
      have hij := en_in hs hn hI hJ
      have hrij : (gt t (en t i j)).length = t.length := hs.2.2 _ (gt_mem hij.1 hij.2)
      have hJ1 := hJ.1
      have hJ2 := hJ.2
      walk_at "nz"
      refine w_forE (xs := gt t (j : Int)) (fun k G => ∃ s5 s6, G = [.im t, .im (i : Int), .im t[i], .im (j : Int), .im t[i][j], s5, s6] ∧ ∀ c, InT t c → c < k → Asc t i j c) (by walk_at "ev") ⟨_, _, rfl, fun c h h2 => by have := h.1; omega⟩ ?_ ?_
      · rintro k G hk ⟨s5, s6, rfl, hw⟩
        have hK : InT t (k : Int) := ⟨by omega, by omega⟩
        have ejk : (gt t (j : Int))[k] = en t j k := by rw [en, gt_get hk]
        have hjk := en_in hs hn hJ hK
        have a1 := hij.1
        have a2 := hij.2
        have a3 := hjk.1
        have a4 := hjk.2
        have eti : t[i] = gt t (i : Int) := (gt_get hi).symm
        rw [eij, ejk]
        rw [eti] at hri ⊢
        walk_at "nz"
        refine w_if (by walk_at "ev") (fun hb => ?_) (fun hb => ?_)
        · simp at hb
          refine w_raise3 (by walk_at "ev") (by walk_at "ev") (by walk_at "ev") (k2 i j k ⟨hI, hJ, hK, hb, hr, hq, hw⟩)
        · simp at hb
          refine w_next ⟨_, _, rfl, fun c hc h1 => ?_⟩
          by_cases he : c = k
          · subst he; exact hb
          · exact hw c hc (by omega)
      · rintro G ⟨s5, s6, rfl, hw⟩
        refine ⟨_, _, _, _, rfl, fun b c hb hc h1 => ?_⟩
        by_cases he : b = j
        · subst he
          exact hw c hc (by have := hc.2; omega)
        · exact hq b c hb hc (by omega)
    · rintro G ⟨s3, s4, s5, s6, rfl, hq⟩
      refine ⟨_, _, _, _, _, _, rfl, fun a b c ha hb hc h1 => ?_⟩
      by_cases he : a = i
      · subst he
        exact hq b c hb hc (by have := hb.2; omega)
      · exact hr a b c ha hb hc (by omega)
  · rintro G ⟨s1, s2, s3, s4, s5, s6, rfl, hr⟩
    exact k1 fun a b c ha hb hc => hr a b c ha hb hc ha.2
end TB

/-! ### group_of -/
namespace TB
open PySem L2
--use TbGrp
--extra T.grpC
def T_group_of : Tm := tm1 fun (t : Tbl) ok er => (¬ SizeOk t → er ⟨.BadSize, []⟩) ∧ (SizeOk t → (∀ a b : Nat, FirstStg t a b → er ⟨.Stranger, [("column", .int b), ("row", .int a)]⟩) ∧
  (NoStg t → ((∀ e, InT t e → ¬ IsUnit t e) → er ⟨.NoUnit, []⟩) ∧ ∀ u, InT t u → IsUnit t u → (∀ a, InT t a → ∃ b, InT t b ∧ IsBack t u a b) ∧ (AllAsc t → ok (.fo (grpOf t u))) ∧
    ∀ a b c, FirstBad t a b c → er ⟨.NotTogether, [("three", .int c), ("two", .int b), ("one", .int a)]⟩))
theorem gof_ok {t : Tbl} {e : Int} (hG : GTbl t e) (er : Rf → Prop) : T_group_of ([.im t] ++ []) (fun s => s = .fo (grpOf t e)) er := by
  refine ⟨t, rfl, fun z => absurd hG.sz z, fun _ => ⟨fun a b fs => ?_, fun _ => ⟨fun z => absurd hG.un (z e hG.he), fun u hu hU => ⟨?_, fun _ => ?_, fun a b c fb => absurd (hG.asc a b c fb.ha fb.hb fb.hc) fb.bad⟩⟩⟩⟩
  · have := fs.bad
    have := hG.ns _ (List.getElem_mem fs.ha) _ (List.getElem_mem fs.hb)
    unfold Stg at *
    omega
  · have e' := unit_one hu hG.he hU hG.un
    subst e'
    exact hG.bk
  · have e' := unit_one hu hG.he hU hG.un
    subst e'
    rfl
def t_group_of (Z : Zz) (X : WX) : TS :=
  (tSeq (tDrop (tCallSD (spOf Z T_look_at_size) [] (WE X) (tCons (tVar 0) tNil)))
  (tSeq (tDrop (tCallSD (spOf Z T_look_for_strangers) [] (WE X) (tCons (tVar 0) tNil)))
  (tSeq (tAsg (tCallSD (spOf Z T_unit_of) [] (WE X) (tCons (tVar 0) tNil)) (gName 1))
  (tSeq (tAsg (tLc (iRng1 (tCons (tCB (gLen Z.K) (tCons (tVar 0) tNil)) tNil)) (gName 3) tYes (tCall (spOf Z T_back_of) [] E0 (tCons (tVar 0) (tCons (tVar 1) (tCons (tVar 3) tNil)))) [3]) (gName 2))
  (tSeq (tDrop (tCallSD (spOf Z T_look_at_threes) [] (WE X) (tCons (tVar 0) tNil)))
  (tRet (tMake (Z.cls .Group) (spI_Group Z) [] E0 (tCons (tLc (iList Z.K (tVar 0)) (gName 4) tYes (tCB (gList Z.K) (tCons (tVar 4) tNil)) [4]) (tCons (tVar 1) (tCons (tVar 2) tNil))))))))))
theorem w_group_of {Z : Zz} (hZ : GrpC Z) (X : WX) (ss : List Sl) (ok : Sl → Prop) (er : Rf → Prop) (h : T_group_of ss ok er) : WF Z X er (ss ++ List.replicate (5 - ss.length) .un) (t_group_of Z X) ok := by
  obtain ⟨t, rfl, k1, k2⟩ := h
  show W _ [.im t, .un, .un, .un, .un] _ _
  unfold t_group_of
  refine w_seq (w_dropS (S := fun _ => SizeOk t) (es_call (by walk_at "ev") ⟨t, rfl, fun h => h, k1⟩) fun _ hs => ?_)
  obtain ⟨k3, k4⟩ := k2 hs
  have hlen := hs.2.1
  refine w_seq (w_dropS (S := fun _ => NoStg t) (es_call (by walk_at "ev") ⟨t, rfl, fun h => h, k3⟩) fun _ hn => ?_)
  obtain ⟨k5, k6⟩ := k4 hn
  refine w_seq (w_asgS (S := fun s => ∃ u : Int, s = .im u ∧ InT t u ∧ IsUnit t u) (es_call (by walk_at "ev") ⟨t, rfl, hs, fun e h0 h1 hu _ => ⟨e, rfl, ⟨h0, h1⟩, hu⟩, fun h => k5 fun e he => h e he.1 he.2⟩) ?_)
  rintro _ ⟨u, rfl, hu, hU⟩
  obtain ⟨hb, k7, k8⟩ := k6 u hu hU
  show W _ [.im t, .im u, .un, .un, .un] _ _
  refine w_seq (w_asg (s := Sl.ol (α := Int) ((irange (t.length : Int)).map (bkf t u))) ?hh ?_)
  case hh =>
    refine ev_mapR (n := (t.length : Int)) (bkf t u) (by walk_at "ev") (by omega) (by omega) (by simp) ⟨.inl rfl, trivial⟩ ?_
    intro a h0 h1
    walk_at "nz"
    refine ev_callN0 (by walk_at "ev") ⟨t, u, a, rfl, hs, ⟨h0, h1⟩, fun b fb => ?_, fun h => ?_⟩
    · have fb2 := bkf_first (hb a ⟨h0, h1⟩)
      congr 1
      have e1 := fb.no
      have e2 := fb2.no
      rcases Int.lt_trichotomy b (bkf t u a) with q | q | q
      · exact absurd fb.is (e2 b fb.b0 q)
      · exact q
      · exact absurd fb2.is (e1 _ fb2.b0 q)
    · obtain ⟨b, h2, h3⟩ := hb a ⟨h0, h1⟩
      exact h b h2 h3
  · show W _ [.im t, .im u, .ol ((irange (t.length : Int)).map (bkf t u)), .un, .un] _ _
    refine w_seq (w_dropS (S := fun _ => AllAsc t) (es_call (by walk_at "ev") ⟨t, rfl, hs, hn, fun h => h, k8⟩) fun _ ha => ?_)
    exact w_retGroup (rows := t) (unit := u) (backs := (irange (t.length : Int)).map (bkf t u)) hZ (ev_copyT2 (ev_var rfl) (by omega) ⟨.inl rfl, trivial⟩ fun _ => rfl) rfl rfl (k7 ha)
end TB

/-! ### product -/
namespace TB
open PySem L2
--use TbGrp
theorem prod_snoc (g : Grp) (l : List Int) (x : Int) : prod g (l ++ [x]) = mul g (prod g l) x := by unfold prod; rw [List.foldl_append]; rfl
def T_product : Tm := tm2 fun (g : Grp) (l : List Int) ok _ => GrpOk g ∧ (∀ x ∈ l, Th g x) ∧ ok (.im (prod g l))
def t_product (Z : Zz) (X : WX) : TS :=
  (tSeq (tAsg (tFld Z.K (tVar 0) "unit") (gName 2))
  (tSeq (tFor (iList Z.K (tVar 1)) (gName 3)
  (tAsg (tOp (gIx Z.K) (tOp (gIx Z.K) (tFld Z.K (tVar 0) "rows") (tVar 2)) (tVar 3)) (gName 2)))
  (tRet (tVar 2))))
theorem w_product (Z : Zz) (X : WX) (ss : List Sl) (ok : Sl → Prop) (er : Rf → Prop) (h : T_product ss ok er) : WF Z X er (ss ++ List.replicate (4 - ss.length) .un) (t_product Z X) ok := by
  obtain ⟨g, l, rfl, o, hl, k⟩ := h
  show W _ [.im g, .im l, .un, .un] _ _
  unfold t_product
  walk_at "w"
  refine w_seq (w_forL (xs := l) (fun i G => ∃ s, G = [.im g, .im l, .im (prod g (l.take i)), s] ∧ Th g (prod g (l.take i))) (by walk_at "ev") ⟨.un, rfl, o.un⟩ ?_ ?_)
  · rintro i G hi ⟨s, rfl, ht⟩
    walk_at "nz"
    have hx := hl l[i] (by simp)
    rw [take_snoc hi, prod_snoc]
    have := o.row ht
    obtain ⟨h0, h1⟩ := ht
    obtain ⟨h2, h3⟩ := hx
    walk_at "w"
    exact ⟨_, rfl, o.mul ⟨h0, h1⟩ ⟨h2, h3⟩⟩
  · rintro G ⟨s, rfl, ht⟩
    rw [List.take_length]
    walk_at "w"
    exact k
end TB

/-! TbMk: the makings of the laws' groups, as data. -/
namespace TB
open PySem L2
/-- four sizes, together at most 23 -/
def SzOk (l : List Int) : Prop := ∃ a b c d : Int, l = [a, b, c, d] ∧ 1 ≤ a ∧ 1 ≤ b ∧ 1 ≤ c ∧ 1 ≤ d ∧ a * b * c * d ≤ 23
def szB : List Int → Bool
  | [a, b, c, d] => decide (1 ≤ a) && decide (1 ≤ b) && decide (1 ≤ c) && decide (1 ≤ d) && decide (a * b * c * d ≤ 23)
  | _ => false
theorem szB_ok {l : List Int} (h : szB l = true) : SzOk l := by
  match l, h with
  | [a, b, c, d], h =>
    simp only [szB, Bool.and_eq_true, decide_eq_true_eq] at h
    exact ⟨a, b, c, d, rfl, h.1.1.1.1, h.1.1.1.2, h.1.1.2, h.1.2, h.2⟩
theorem drawn {m f x : Int} (hf : 1 ≤ f) (hm : f ≤ m) : 1 ≤ m / f ∧ 1 ≤ 1 + x % (m / f) ∧ f * (1 + x % (m / f)) ≤ m := by
  have h1 : 1 ≤ m / f := (Int.le_ediv_iff_mul_le (by omega)).mpr (by omega)
  have h2 := Int.emod_nonneg x (show m / f ≠ 0 by omega)
  have h3 := Int.emod_lt_of_pos x (show 0 < m / f by omega)
  refine ⟨h1, by omega, ?_⟩
  have h4 : f * (1 + x % (m / f)) ≤ f * (m / f) := Int.mul_le_mul_of_nonneg_left (by omega) (by omega)
  have h5 : f * (m / f) ≤ m := Int.mul_ediv_self_le (by omega)
  omega
theorem szOk_of {top steps a x y : Int} {r : Int} (hr : r = top / steps) (hs : 1 ≤ steps) (ht : top ≤ 23) (h1 : 1 ≤ a) (h2 : a ≤ r) :
    1 ≤ r / a ∧ 1 ≤ 1 + x % (r / a) ∧ 1 ≤ r / (a * (1 + x % (r / a))) ∧ SzOk [a, 1 + x % (r / a), 1 + y % (r / (a * (1 + x % (r / a)))), steps] := by
  obtain ⟨p1, p2, p3⟩ := drawn (x := x) h1 h2
  have p4 : 1 ≤ a * (1 + x % (r / a)) := by
    have := Int.mul_le_mul_of_nonneg_right h1 (show 0 ≤ 1 + x % (r / a) by omega)
    omega
  obtain ⟨p5, p6, p7⟩ := drawn (x := y) p4 p3
  refine ⟨p1, p2, p5, _, _, _, _, rfl, h1, p2, p6, hs, ?_⟩
  have q1 := Int.mul_le_mul_of_nonneg_right p7 (show 0 ≤ steps by omega)
  have q2 : r * steps ≤ top := by rw [hr, Int.mul_comm]; exact Int.mul_ediv_self_le (by omega)
  omega
end TB

/-! TbAb: plain law: an abelian part turned by steps is a group. -/
namespace TB
open PySem L2
def In (n a : Int) : Prop := 0 ≤ a ∧ a < n
structure OpG (n : Int) (f : Int → Int → Int) (e : Int) : Prop where
  he : In n e
  cl : ∀ a b, In n a → In n b → In n (f a b)
  un : ∀ a, In n a → f e a = a ∧ f a e = a
  bk : ∀ a, In n a → ∃ b, In n b ∧ f a b = e
  asc : ∀ a b c, In n a → In n b → In n c → f (f a b) c = f a (f b c)
theorem OpG.bk2 {n : Int} {f : Int → Int → Int} {e : Int} (g : OpG n f e) {a : Int} (ha : In n a) : ∃ b, In n b ∧ f a b = e ∧ f b a = e := by
  obtain ⟨b, hb, e1⟩ := g.bk a ha
  obtain ⟨c, hc, e2⟩ := g.bk b hb
  refine ⟨b, hb, e1, ?_⟩
  have h1 := (g.un (f b a) (g.cl _ _ hb ha)).2
  rw [← h1, ← e2, g.asc _ _ _ hb ha (g.cl _ _ hb hc), ← g.asc _ _ _ ha hb hc, e1, (g.un c hc).1]
theorem tbl_of {t : Tbl} {n : Int} {f : Int → Int → Int} {e : Int} (g : OpG n f e) (nm : Int → Int) (h1 : 1 ≤ n) (h2 : n ≤ 23) (hin : ∀ a, In n a → In n (nm a)) (sj : ∀ b, In n b → ∃ a, In n a ∧ nm a = b) (hl : (t.length : Int) = n) (hr : ∀ r ∈ t, r.length = t.length)
    (hv : ∀ a b, In n a → In n b → en t (nm a) (nm b) = nm (f a b)) : GTbl t (nm e) := by
  have inT : ∀ {a}, InT t a ↔ In n a := fun {a} => by unfold InT In; rw [hl]
  have q : ∀ {a}, InT t a → ∃ b, In n b ∧ nm b = a := fun h => sj _ (inT.mp h)
  refine ⟨⟨by omega, by omega, hr⟩, fun r hr' x hx => ?_, inT.mpr (hin _ g.he), fun a a0 a1 => ?_, fun a ha => ?_, fun a b c ha hb hc => ?_⟩
  · obtain ⟨i, hi, rfl⟩ := List.getElem_of_mem hr'
    obtain ⟨j, hj, rfl⟩ := List.getElem_of_mem hx
    have hj' := hj
    rw [hr _ hr'] at hj'
    obtain ⟨a, ha, ea⟩ := q (a := (i : Int)) ⟨by omega, by omega⟩
    obtain ⟨b, hb, eb⟩ := q (a := (j : Int)) ⟨by omega, by omega⟩
    have := hv a b ha hb
    rw [ea, eb, en, gt_get hi, gt_get hj] at this
    rw [this]
    exact inT.mpr (hin _ (g.cl _ _ ha hb))
  · obtain ⟨b, hb, rfl⟩ := q ⟨a0, a1⟩
    rw [hv _ _ g.he hb, hv _ _ hb g.he, (g.un b hb).1, (g.un b hb).2]
    exact ⟨rfl, rfl⟩
  · obtain ⟨b, hb, rfl⟩ := q ha
    obtain ⟨c, hc, e1, e2⟩ := g.bk2 hb
    exact ⟨nm c, inT.mpr (hin _ hc), by rw [IsBack, hv _ _ hb hc, hv _ _ hc hb, e1, e2]; exact ⟨rfl, rfl⟩⟩
  · obtain ⟨a', ha', ea⟩ := q ha
    obtain ⟨b', hb', eb⟩ := q hb
    obtain ⟨c', hc', ec⟩ := q hc
    rw [← ea, ← eb, ← ec, Asc, hv _ _ ha' hb', hv _ _ hb' hc', hv _ _ (g.cl _ _ ha' hb') hc', hv _ _ ha' (g.cl _ _ hb' hc'), g.asc _ _ _ ha' hb' hc']
/-! ### an abelian part, turned by steps -/
structure AbG (n : Int) (f : Int → Int → Int) : Prop where
  pos : 1 ≤ n
  cl : ∀ a b, In n (f a b)
  comm : ∀ a b, f a b = f b a
  asc : ∀ a b c, f (f a b) c = f a (f b c)
  un : ∀ a, In n a → f a 0 = a
  bk : ∀ a, In n a → ∃ b, In n b ∧ f a b = 0
def itr (ph : Int → Int) : Nat → Int → Int
  | 0, a => a
  | k + 1, a => ph (itr ph k a)
theorem itr_add {ph : Int → Int} (i j : Nat) (a : Int) : itr ph (i + j) a = itr ph i (itr ph j a) := by
  induction i with
  | zero => rw [Nat.zero_add]; rfl
  | succ i ih => rw [Nat.succ_add]; show ph _ = ph _; rw [ih]
structure Turn (n s : Int) (f : Int → Int → Int) (ph : Int → Int) (e : Int) : Prop where
  pos : 1 ≤ s
  cl : ∀ a, In n (ph a)
  add : ∀ a b, ph (f a b) = f (ph a) (ph b)
  z : ph 0 = 0
  es : ph e = e
  he : In n e
  back : ∀ a, In n a → itr ph s.toNat a = a
def xop (n s : Int) (f : Int → Int → Int) (ph : Int → Int) (e : Int) (A B : Int) : Int := (if s ≤ A / n + B / n then f (f (A % n) (itr ph (A / n).toNat (B % n))) e else f (A % n) (itr ph (A / n).toNat (B % n))) + n * ((A / n + B / n) % s)
section
variable {n s : Int} {f : Int → Int → Int} {ph : Int → Int} {e : Int}
theorem dm {n v k : Int} (h : In n v) : (v + n * k) % n = v ∧ (v + n * k) / n = k := by
  have hn : n ≠ 0 := by have := h.1; have := h.2; omega
  rw [Int.add_mul_emod_self_left, Int.add_mul_ediv_left _ _ hn, Int.emod_eq_of_lt h.1 h.2, Int.ediv_eq_zero_of_lt h.1 h.2]
  omega
theorem dmi {n s A : Int} (hn : 1 ≤ n) (h : In (n * s) A) : In n (A % n) ∧ In s (A / n) ∧ A = A % n + n * (A / n) := by
  have q1 := Int.emod_nonneg A (show n ≠ 0 by omega)
  have q2 := Int.emod_lt_of_pos A (show 0 < n by omega)
  have q3 := Int.emod_add_mul_ediv A n
  have q4 := Int.ediv_nonneg h.1 (show 0 ≤ n by omega)
  have q5 : A / n < s := Int.ediv_lt_of_lt_mul (by omega) (by rw [Int.mul_comm]; exact h.2)
  exact ⟨⟨q1, q2⟩, ⟨q4, q5⟩, by omega⟩
theorem dmb {n s v k : Int} (h : In n v) (hk : In s k) : In (n * s) (v + n * k) := by
  obtain ⟨a, b⟩ := h
  obtain ⟨c, d⟩ := hk
  have h1 : n * k ≤ n * (s - 1) := Int.mul_le_mul_of_nonneg_left (by omega) (by omega)
  have h2 : 0 ≤ n * k := Int.mul_nonneg (by omega) c
  rw [Int.mul_sub] at h1
  exact ⟨by omega, by omega⟩
def cy (s e i j : Int) : Int := if s ≤ i + j then e else 0
theorem xop_at (A : AbG n f) (T : Turn n s f ph e) {p q i j : Int} (hp : In n p) (hq : In n q) : xop n s f ph e (p + n * i) (q + n * j) = f (f p (itr ph i.toNat q)) (cy s e i j) + n * ((i + j) % s) := by
  unfold xop cy
  rw [(dm hp).1, (dm hp).2, (dm hq).1, (dm hq).2]
  split
  · rfl
  · rw [A.un _ (A.cl _ _)]
theorem itr_in (T : Turn n s f ph e) {a : Int} (h : In n a) : ∀ k, In n (itr ph k a)
  | 0 => h
  | k + 1 => T.cl _
theorem itr_f (T : Turn n s f ph e) (a b : Int) : ∀ k, itr ph k (f a b) = f (itr ph k a) (itr ph k b)
  | 0 => rfl
  | k + 1 => by show ph _ = f (ph _) (ph _); rw [itr_f T a b k, T.add]
theorem itr_cy (T : Turn n s f ph e) (i j : Int) : ∀ k, itr ph k (cy s e i j) = cy s e i j
  | 0 => rfl
  | k + 1 => by
    show ph _ = _
    rw [itr_cy T i j k]
    unfold cy
    split
    · exact T.es
    · exact T.z
theorem itr_mod (T : Turn n s f ph e) {i j r : Int} (hi : In s i) (hj : In s j) (hr : In n r) : itr ph ((i + j) % s).toNat r = itr ph i.toNat (itr ph j.toNat r) := by
  rw [← itr_add]
  by_cases h : i + j < s
  · rw [Int.emod_eq_of_lt (by have := hi.1; have := hj.1; omega) h, show (i + j).toNat = i.toNat + j.toNat by have := hi.1; have := hj.1; omega]
  · have e1 : (i + j) % s = i + j - s := by
      rw [← Int.sub_emod_right, Int.emod_eq_of_lt (by omega) (by have := hi.2; have := hj.2; omega)]
    rw [e1, show i.toNat + j.toNat = (i + j - s).toNat + s.toNat by have := hi.1; have := hj.1; have := T.pos; omega, itr_add, T.back _ hr]
theorem cy_cy (A : AbG n f) {i j k : Int} (hi : In s i) (hj : In s j) (hk : In s k) : f (cy s e i j) (cy s e ((i + j) % s) k) = f (cy s e j k) (cy s e i ((j + k) % s)) := by
  obtain ⟨i0, i1⟩ := hi
  obtain ⟨j0, j1⟩ := hj
  obtain ⟨k0, k1⟩ := hk
  have m : ∀ {x}, 0 ≤ x → x < s + s → x % s = if x < s then x else x - s := fun {x} h0 h1 => by
    by_cases h : x < s
    · rw [if_pos h, Int.emod_eq_of_lt h0 h]
    · rw [if_neg h, ← Int.sub_emod_right, Int.emod_eq_of_lt (by omega) (by omega)]
  rw [m (by omega) (by omega), m (by omega) (by omega)]
  unfold cy
  have c0 := A.comm e 0
  by_cases h1 : i + j < s <;> by_cases h2 : j + k < s <;> simp only [h1, h2, ite_true, ite_false, show ¬ (s ≤ i + j) ↔ i + j < s by omega]
  all_goals (repeat' split)
  all_goals first | rfl | omega | exact c0 | exact c0.symm
theorem ext_G (A : AbG n f) (T : Turn n s f ph e) : OpG (n * s) (xop n s f ph e) 0 := by
  have hn := A.pos
  have hs := T.pos
  have z : In n 0 := ⟨by omega, by omega⟩
  have mods : ∀ x : Int, In s (x % s) := fun x => ⟨Int.emod_nonneg x (by omega), Int.emod_lt_of_pos x (by omega)⟩
  have zs : In s 0 := ⟨by omega, by omega⟩
  have com0 : ∀ a, In n a → f 0 a = a := fun a ha => by rw [A.comm, A.un a ha]
  have i0 : ∀ k, itr ph k 0 = 0 := fun k => by
    induction k with
    | zero => rfl
    | succ k ih => show ph _ = 0; rw [ih, T.z]
  have Z0 : ∀ B, In (n * s) B → B = B % n + n * (B / n) ∧ In n (B % n) ∧ In s (B / n) := fun B h => ⟨(dmi hn h).2.2, (dmi hn h).1, (dmi hn h).2.1⟩
  refine ⟨⟨by omega, ?_⟩, fun a b ha hb => ?_, fun a ha => ?_, fun a ha => ?_, fun a b c ha hb hc => ?_⟩
  · have := Int.mul_le_mul_of_nonneg_left hs (show 0 ≤ n by omega)
    omega
  · unfold xop
    refine dmb ?_ (mods _)
    split <;> exact A.cl _ _
  · obtain ⟨ea, hp, hi⟩ := Z0 a ha
    generalize a % n = p at ea hp
    generalize a / n = i at ea hi
    subst ea
    constructor
    · have := xop_at (e := e) A T (i := 0) (j := i) z hp
      rw [Int.mul_zero, Int.add_zero] at this
      rw [this, Int.zero_add, Int.emod_eq_of_lt hi.1 hi.2]
      unfold cy
      rw [if_neg (by have := hi.2; omega), A.un _ (A.cl _ _)]
      show f 0 p + _ = _
      rw [com0 p hp]
    · have := xop_at (e := e) A T (i := i) (j := 0) hp z
      rw [Int.mul_zero, Int.add_zero] at this
      rw [this, Int.add_zero, Int.emod_eq_of_lt hi.1 hi.2]
      unfold cy
      rw [if_neg (by have := hi.2; omega), A.un _ (A.cl _ _), i0, A.un _ hp]
  · obtain ⟨ea, hp, hi⟩ := Z0 a ha
    generalize a % n = p at ea hp
    generalize a / n = i at ea hi
    subst ea
    by_cases h : i = 0
    · subst h
      obtain ⟨b, hb, e1⟩ := A.bk p hp
      refine ⟨b + n * 0, dmb hb zs, ?_⟩
      rw [xop_at A T hp hb]
      show f (f p b) (cy s e 0 0) + n * (0 % s) = 0
      unfold cy
      rw [e1, if_neg (by omega), A.un 0 z, Int.zero_emod, Int.mul_zero]
      rfl
    · have i1 := hi.1
      have i2 := hi.2
      obtain ⟨r, hr, e1⟩ := A.bk (f p e) (A.cl _ _)
      refine ⟨itr ph (s - i).toNat r + n * (s - i), dmb (itr_in T hr _) ⟨by omega, by omega⟩, ?_⟩
      rw [xop_at A T hp (itr_in T hr _), ← itr_add, show i.toNat + (s - i).toNat = s.toNat by omega, T.back r hr, show i + (s - i) = s by omega, Int.emod_self, Int.mul_zero, Int.add_zero]
      unfold cy
      rw [if_pos (by omega), A.asc, A.comm r e, ← A.asc, e1]
  · obtain ⟨ea, hp, hi⟩ := Z0 a ha
    obtain ⟨eb, hq, hj⟩ := Z0 b hb
    obtain ⟨ec, hr, hk⟩ := Z0 c hc
    generalize a % n = p at ea hp
    generalize a / n = i at ea hi
    generalize b % n = q at eb hq
    generalize b / n = j at eb hj
    generalize c % n = r at ec hr
    generalize c / n = k at ec hk
    subst ea eb ec
    rw [xop_at A T hp hq, xop_at A T hq hr, xop_at A T (A.cl _ _) hr, xop_at A T hp (A.cl _ _), itr_mod T hi hj hr, itr_f T, itr_f T, itr_cy T]
    have e1 : ((i + j) % s + k) % s = (i + (j + k) % s) % s := by rw [Int.emod_add_emod, Int.add_emod_emod, Int.add_assoc]
    rw [e1]
    congr 1
    have c1 := cy_cy (e := e) A hi hj hk
    have ia : Std.Associative f := ⟨A.asc⟩
    have ic : Std.Commutative f := ⟨A.comm⟩
    generalize itr ph i.toNat q = q' at *
    generalize itr ph i.toNat (itr ph j.toNat r) = r' at *
    generalize cy s e i j = x1 at *
    generalize cy s e ((i + j) % s) k = x2 at *
    generalize cy s e j k = x3 at *
    generalize cy s e i ((j + k) % s) = x4 at *
    have l1 : f (f (f (f p q') x1) r') x2 = f (f (f p q') r') (f x1 x2) := by ac_rfl
    have l2 : f (f p (f (f q' r') x3)) x4 = f (f (f p q') r') (f x3 x4) := by ac_rfl
    rw [l1, l2, c1]
end
end TB
namespace TB
open PySem L2
/-! ### three rounds -/
def suF (a b c p q : Int) : Int := (p + q) % a + a * ((p / a + q / a) % b) + a * b * ((p / (a * b) + q / (a * b)) % c)
/-- what the turn makes of the two first rounds -/
def tuP (a b u v k : Int) (x y : Int) : Int × Int := if k = 1 then (y, x) else if k = 2 then ((0 - y) % a, (x - y) % a) else if k = 3 then (x, (y + x) % b) else if k = 4 then ((x + a / 2 * y) % a, y) else (x * u % a, y * v % b)
def tuF (a b c u v w k p : Int) : Int := (tuP a b u v k (p % a) (p / a % b)).1 + a * ((tuP a b u v k (p % a) (p / a % b)).2 + b * (p / (a * b) * w % c))
/-- x, y, z of the three rounds as one number -/
def cod (a b x y z : Int) : Int := x + a * (y + b * z)
section
variable {a b c : Int}
theorem cod_d (ha : 1 ≤ a) (hb : 1 ≤ b) {x y z : Int} (hx : In a x) (hy : In b y) : cod a b x y z % a = x ∧ cod a b x y z / a = y + b * z ∧ cod a b x y z / a % b = y ∧ cod a b x y z / (a * b) = z := by
  have h1 := dm (n := a) (k := y + b * z) hx
  have h2 := dm (n := b) (k := z) hy
  have e : cod a b x y z = x + a * (y + b * z) := rfl
  rw [e, h1.1, h1.2, ← Int.ediv_ediv_of_nonneg (by omega), h1.2, h2.1, h2.2]
  exact ⟨rfl, rfl, rfl, rfl⟩
theorem suF_cod (p q : Int) : suF a b c p q = cod a b ((p + q) % a) ((p / a + q / a) % b) ((p / (a * b) + q / (a * b)) % c) := by
  unfold suF cod
  rw [Int.mul_add, Int.mul_assoc, Int.add_assoc]
theorem md' {n : Int} (hn : 1 ≤ n) (x : Int) : In n (x % n) := ⟨Int.emod_nonneg x (by omega), Int.emod_lt_of_pos x (by omega)⟩
theorem cod_in (ha : 1 ≤ a) (hb : 1 ≤ b) {x y z : Int} (hx : In a x) (hy : In b y) (hz : In c z) : In (a * b * c) (cod a b x y z) := by
  have h2 := dmb hy hz
  have h1 := dmb hx h2
  rw [← Int.mul_assoc] at h1
  exact h1
theorem cod_of (ha : 1 ≤ a) (hb : 1 ≤ b) {p : Int} (h : In (a * b * c) p) : ∃ x y z, In a x ∧ In b y ∧ In c z ∧ p = cod a b x y z := by
  rw [Int.mul_assoc] at h
  obtain ⟨h1, h2, h3⟩ := dmi ha h
  obtain ⟨h4, h5, h6⟩ := dmi hb h2
  refine ⟨p % a, p / a % b, p / a / b, h1, h4, h5, ?_⟩
  unfold cod
  rw [← h6, ← h3]
theorem suF_at (ha : 1 ≤ a) (hb : 1 ≤ b) {x y z x' y' z' : Int} (hx : In a x) (hy : In b y) (hx' : In a x') (hy' : In b y') : suF a b c (cod a b x y z) (cod a b x' y' z') = cod a b ((x + x') % a) ((y + y') % b) ((z + z') % c) := by
  obtain ⟨d1, d2, d3, d4⟩ := cod_d ha hb hx hy (z := z)
  obtain ⟨e1, e2, e3, e4⟩ := cod_d ha hb hx' hy' (z := z')
  rw [suF_cod, d2, d4, e2, e4, ← Int.emod_add_emod, ← Int.add_emod_emod, d1, e1]
  congr 1
  rw [show y + b * z + (y' + b * z') = y + y' + b * (z + z') by rw [Int.mul_add]; omega, Int.add_mul_emod_self_left]
/-- told of every number by the numbers that it is like -/
theorem suF_like (ha : 1 ≤ a) (hb : 1 ≤ b) (p : Int) : ∃ x y z, In a x ∧ In b y ∧ p = cod a b x y z := by
  refine ⟨p % a, p / a % b, p / a / b, md' ha _, md' hb _, ?_⟩
  unfold cod
  rw [Int.emod_add_mul_ediv, Int.emod_add_mul_ediv]
theorem suF_G (ha : 1 ≤ a) (hb : 1 ≤ b) (hc : 1 ≤ c) : AbG (a * b * c) (suF a b c) := by
  have hab : 1 ≤ a * b := by
    have := Int.mul_le_mul_of_nonneg_left hb (show 0 ≤ a by omega)
    omega
  refine ⟨?_, fun p q => ?_, fun p q => ?_, fun p q r => ?_, fun p hp => ?_, fun p hp => ?_⟩
  · have := Int.mul_le_mul_of_nonneg_left hc (show 0 ≤ a * b by omega)
    omega
  · rw [suF_cod]
    exact cod_in ha hb (md' ha _) (md' hb _) (md' hc _)
  · unfold suF
    rw [Int.add_comm p q, Int.add_comm (p / a), Int.add_comm (p / (a * b))]
  · obtain ⟨x, y, z, hx, hy, rfl⟩ := suF_like ha hb p
    obtain ⟨x1, y1, z1, hx1, hy1, rfl⟩ := suF_like ha hb q
    obtain ⟨x2, y2, z2, hx2, hy2, rfl⟩ := suF_like ha hb r
    rw [suF_at ha hb hx hy hx1 hy1, suF_at ha hb hx1 hy1 hx2 hy2, suF_at ha hb (md' ha _) (md' hb _) hx2 hy2, suF_at ha hb hx hy (md' ha _) (md' hb _)]
    simp only [Int.emod_add_emod, Int.add_emod_emod, Int.add_assoc]
  · obtain ⟨x, y, z, hx, hy, hz, rfl⟩ := cod_of ha hb hp
    have z0 : (0 : Int) = cod a b 0 0 0 := by unfold cod; simp
    have := suF_at (c := c) ha hb hx hy (x' := 0) (y' := 0) (z := z) (z' := 0) ⟨by omega, by omega⟩ ⟨by omega, by omega⟩
    rw [← z0, Int.add_zero, Int.add_zero, Int.add_zero, Int.emod_eq_of_lt hx.1 hx.2, Int.emod_eq_of_lt hy.1 hy.2, Int.emod_eq_of_lt hz.1 hz.2] at this
    exact this
  · obtain ⟨x, y, z, hx, hy, hz, rfl⟩ := cod_of ha hb hp
    refine ⟨cod a b ((0 - x) % a) ((0 - y) % b) ((0 - z) % c), cod_in ha hb (md' ha _) (md' hb _) (md' hc _), ?_⟩
    rw [suF_at ha hb hx hy (md' ha _) (md' hb _)]
    simp only [Int.add_emod_emod]
    rw [show x + (0 - x) = 0 by omega, show y + (0 - y) = 0 by omega, show z + (0 - z) = 0 by omega]
    unfold cod
    simp
end
end TB
namespace TB
open PySem L2
/-! ### the turn -/
structure TurnOk (a b c s u v w k : Int) : Prop where
  ha : 1 ≤ a
  hb : 1 ≤ b
  hc : 1 ≤ c
  hs : 1 ≤ s
  kk : k = 0 ∨ (k = 1 ∧ a = b ∧ s % 2 = 0) ∨ (k = 2 ∧ a = b ∧ s % 3 = 0) ∨ (k = 3 ∧ a % b = 0 ∧ s % b = 0) ∨ (k = 4 ∧ a % 2 = 0 ∧ b % 2 = 0 ∧ s % 2 = 0)
  hu : u ^ s.toNat % a = 1 % a
  hv : v ^ s.toNat % b = 1 % b
  hw : w ^ s.toNat % c = 1 % c
theorem mdk {n x y : Int} (k : Int) (h : x = y + n * k) : x % n = y % n := by rw [h, Int.add_mul_emod_self_left]
section
variable {a b c s u v w k : Int}
theorem tuP_in (h : TurnOk a b c s u v w k) {x y : Int} (hx : In a x) (hy : In b y) : In a (tuP a b u v k x y).1 ∧ In b (tuP a b u v k x y).2 := by
  have ha := h.ha
  have hb := h.hb
  unfold tuP
  rcases h.kk with rfl | ⟨rfl, rfl, _⟩ | ⟨rfl, rfl, _⟩ | ⟨rfl, _⟩ | ⟨rfl, _⟩ <;> simp
  · exact ⟨md' ha _, md' hb _⟩
  · exact ⟨hy, hx⟩
  · exact ⟨md' ha _, md' hb _⟩
  · exact ⟨hx, md' hb _⟩
  · exact ⟨md' ha _, hy⟩
theorem tuP_add (h : TurnOk a b c s u v w k) {x y x' y' : Int} (hx : In a x) (hy : In b y) (hx' : In a x') (hy' : In b y') :
    tuP a b u v k ((x + x') % a) ((y + y') % b) = (((tuP a b u v k x y).1 + (tuP a b u v k x' y').1) % a, ((tuP a b u v k x y).2 + (tuP a b u v k x' y').2) % b) := by
  have ha := h.ha
  have hb := h.hb
  have dx := Int.emod_def (x + x') a
  have dy := Int.emod_def (y + y') b
  unfold tuP
  rcases h.kk with rfl | ⟨rfl, rfl, _⟩ | ⟨rfl, rfl, _⟩ | ⟨rfl, q1, _⟩ | ⟨rfl, q1, q2, _⟩ <;> simp
  · rw [← Int.add_mul, ← Int.add_mul]
    exact ⟨by rw [Int.mul_emod, Int.emod_emod, ← Int.mul_emod], by rw [Int.mul_emod, Int.emod_emod, ← Int.mul_emod]⟩
  · refine ⟨mdk ((y + y') / a) ?_, mdk 0 ?_⟩
    · rw [dy]; omega
    · omega
  · obtain ⟨m, em⟩ := Int.dvd_of_emod_eq_zero q1
    refine mdk (-(m * ((x + x') / a))) ?_
    rw [dx, Int.mul_neg, ← Int.mul_assoc, ← em]; omega
  · obtain ⟨m, em⟩ := Int.dvd_of_emod_eq_zero q1
    obtain ⟨m2, em2⟩ := Int.dvd_of_emod_eq_zero q2
    refine mdk (-(m2 * ((y + y') / b))) ?_
    have e2 : a / 2 * b = a * m2 := by
      rw [show a / 2 = m by omega, em, em2, Int.mul_comm 2 m, Int.mul_assoc]
    rw [dy, Int.mul_sub, Int.mul_neg, ← Int.mul_assoc, ← Int.mul_assoc, ← e2, Int.mul_add]
    omega

theorem tuF_cod (p : Int) : tuF a b c u v w k p = cod a b (tuP a b u v k (p % a) (p / a % b)).1 (tuP a b u v k (p % a) (p / a % b)).2 (p / (a * b) * w % c) := rfl
theorem tuF_at (h : TurnOk a b c s u v w k) {x y z : Int} (hx : In a x) (hy : In b y) : tuF a b c u v w k (cod a b x y z) = cod a b (tuP a b u v k x y).1 (tuP a b u v k x y).2 (z * w % c) := by
  obtain ⟨d1, d2, d3, d4⟩ := cod_d h.ha h.hb hx hy (z := z)
  rw [tuF_cod, d1, d3, d4]
theorem tuF_add (h : TurnOk a b c s u v w k) (p q : Int) : tuF a b c u v w k (suF a b c p q) = suF a b c (tuF a b c u v w k p) (tuF a b c u v w k q) := by
  have ha := h.ha
  have hb := h.hb
  obtain ⟨x, y, z, hx, hy, rfl⟩ := suF_like ha hb p
  obtain ⟨x1, y1, z1, hx1, hy1, rfl⟩ := suF_like ha hb q
  rw [suF_at ha hb hx hy hx1 hy1, tuF_at h (md' ha _) (md' hb _), tuF_at h hx hy, tuF_at h hx1 hy1, suF_at ha hb (tuP_in h hx hy).1 (tuP_in h hx hy).2 (tuP_in h hx1 hy1).1 (tuP_in h hx1 hy1).2, tuP_add h hx hy hx1 hy1]
  congr 1
  rw [Int.mul_emod, Int.emod_emod, ← Int.mul_emod, Int.add_mul, Int.emod_add_emod, Int.add_emod_emod]
theorem tuF_in (h : TurnOk a b c s u v w k) (p : Int) : In (a * b * c) (tuF a b c u v w k p) := by
  obtain ⟨x, y, z, hx, hy, rfl⟩ := suF_like h.ha h.hb p
  rw [tuF_at h hx hy]
  exact cod_in h.ha h.hb (tuP_in h hx hy).1 (tuP_in h hx hy).2 (md' h.hc _)
theorem tuF_z (h : TurnOk a b c s u v w k) : tuF a b c u v w k 0 = 0 := by
  have ha := h.ha
  have hb := h.hb
  have z0 : (0 : Int) = cod a b 0 0 0 := by unfold cod; simp
  have := tuF_at h (x := 0) (y := 0) (z := 0) ⟨by omega, by omega⟩ ⟨by omega, by omega⟩
  rw [← z0] at this
  rw [this]
  unfold tuP cod
  rcases h.kk with rfl | ⟨rfl, rfl, _⟩ | ⟨rfl, rfl, _⟩ | ⟨rfl, _⟩ | ⟨rfl, _⟩ <;> simp
/-- the two first rounds, turned k times -/
def itP (F : Int → Int → Int × Int) : Nat → Int × Int → Int × Int
  | 0, q => q
  | n + 1, q => F (itP F n q).1 (itP F n q).2
theorem itP_in (h : TurnOk a b c s u v w k) {x y : Int} (hx : In a x) (hy : In b y) : ∀ n, In a (itP (tuP a b u v k) n (x, y)).1 ∧ In b (itP (tuP a b u v k) n (x, y)).2
  | 0 => ⟨hx, hy⟩
  | n + 1 => tuP_in h (itP_in h hx hy n).1 (itP_in h hx hy n).2
theorem itP_add {F : Int → Int → Int × Int} (m n : Nat) (q : Int × Int) : itP F (m + n) q = itP F m (itP F n q) := by
  induction m with
  | zero => rw [Nat.zero_add]; rfl
  | succ m ih => rw [Nat.succ_add]; show F _ _ = F _ _; rw [ih]
theorem itP_per {F : Int → Int → Int × Int} {d : Nat} {q : Int × Int} (h : itP F d q = q) : ∀ m, itP F (d * m) q = q
  | 0 => rfl
  | m + 1 => by rw [Nat.mul_succ, itP_add, h, itP_per h m]
theorem itr_cod (h : TurnOk a b c s u v w k) {x y z : Int} (hx : In a x) (hy : In b y) (hz : In c z) : ∀ n : Nat, itr (tuF a b c u v w k) n (cod a b x y z) = cod a b (itP (tuP a b u v k) n (x, y)).1 (itP (tuP a b u v k) n (x, y)).2 (z * w ^ n % c)
  | 0 => by
    show cod a b x y z = cod a b x y _
    rw [Int.pow_zero, Int.mul_one, Int.emod_eq_of_lt hz.1 hz.2]
  | n + 1 => by
    show tuF a b c u v w k _ = _
    rw [itr_cod h hx hy hz n, tuF_at h (itP_in h hx hy n).1 (itP_in h hx hy n).2]
    show cod a b _ _ _ = cod a b _ _ _
    congr 1
    rw [Int.pow_succ, ← Int.mul_assoc, Int.mul_emod, Int.emod_emod, ← Int.mul_emod]
theorem pow_back {n u x : Int} {m : Nat} (hx : In n x) (h : u ^ m % n = 1 % n) : x * u ^ m % n = x := by
  rw [Int.mul_emod, h, ← Int.mul_emod, Int.mul_one, Int.emod_eq_of_lt hx.1 hx.2]
theorem itP_0 {x y : Int} (hx : In a x) (hy : In b y) : ∀ n : Nat, itP (tuP a b u v 0) n (x, y) = (x * u ^ n % a, y * v ^ n % b)
  | 0 => by
    show (x, y) = _
    rw [Int.pow_zero, Int.pow_zero, Int.mul_one, Int.mul_one, Int.emod_eq_of_lt hx.1 hx.2, Int.emod_eq_of_lt hy.1 hy.2]
  | n + 1 => by
    show tuP a b u v 0 _ _ = _
    rw [itP_0 hx hy n]
    unfold tuP
    simp only [show ¬ ((0 : Int) = 1) by decide, show ¬ ((0 : Int) = 2) by decide, show ¬ ((0 : Int) = 3) by decide, show ¬ ((0 : Int) = 4) by decide, ite_false]
    rw [Int.pow_succ, Int.pow_succ, ← Int.mul_assoc, ← Int.mul_assoc]
    congr 1 <;> rw [Int.mul_emod, Int.emod_emod, ← Int.mul_emod]
theorem itP_3 {x y : Int} (hx : In a x) (hy : In b y) : ∀ n : Nat, itP (tuP a b u v 3) n (x, y) = (x, (y + n * x) % b)
  | 0 => by
    show (x, y) = _
    rw [show ((0 : Nat) : Int) * x = 0 by simp, Int.add_zero, Int.emod_eq_of_lt hy.1 hy.2]
  | n + 1 => by
    show tuP a b u v 3 _ _ = _
    rw [itP_3 hx hy n]
    unfold tuP
    simp only [show ¬ ((3 : Int) = 1) by decide, show ¬ ((3 : Int) = 2) by decide, ite_false, ite_true]
    rw [Int.emod_add_emod, show ((n + 1 : Nat) : Int) = n + 1 by omega, Int.add_mul, Int.one_mul, Int.add_assoc]
theorem itP_4 {x y : Int} (hx : In a x) (hy : In b y) : ∀ n : Nat, itP (tuP a b u v 4) n (x, y) = ((x + n * (a / 2 * y)) % a, y)
  | 0 => by
    show (x, y) = _
    rw [show ((0 : Nat) : Int) * (a / 2 * y) = 0 by simp, Int.add_zero, Int.emod_eq_of_lt hx.1 hx.2]
  | n + 1 => by
    show tuP a b u v 4 _ _ = _
    rw [itP_4 hx hy n]
    unfold tuP
    simp only [show ¬ ((4 : Int) = 1) by decide, show ¬ ((4 : Int) = 2) by decide, show ¬ ((4 : Int) = 3) by decide, ite_false, ite_true]
    rw [Int.emod_add_emod, show ((n + 1 : Nat) : Int) = n + 1 by omega, Int.add_mul, Int.one_mul, Int.add_assoc]
theorem itP_back (h : TurnOk a b c s u v w k) {x y : Int} (hx : In a x) (hy : In b y) : itP (tuP a b u v k) s.toNat (x, y) = (x, y) := by
  have hs := h.hs
  have es : ((s.toNat : Nat) : Int) = s := by omega
  rcases h.kk with rfl | ⟨rfl, rfl, q⟩ | ⟨rfl, rfl, q⟩ | ⟨rfl, q1, q2⟩ | ⟨rfl, q1, q2, q3⟩
  · rw [itP_0 hx hy, pow_back hx h.hu, pow_back hy h.hv]
  · rw [show s.toNat = 2 * (s.toNat / 2) by omega]
    refine itP_per ?_ _
    simp [itP, tuP]
  · rw [show s.toNat = 3 * (s.toNat / 3) by omega]
    refine itP_per ?_ _
    have e1 : ((0 - x) % a - (x - y) % a) % a = (0 - (x + (x - y))) % a := by rw [Int.emod_sub_emod, Int.sub_emod_emod]; congr 1; omega
    simp [itP, tuP]
    have hxx := Int.emod_eq_of_lt hx.1 hx.2
    have hyy := Int.emod_eq_of_lt hy.1 hy.2
    constructor
    · refine Eq.trans (mdk ((-y - (x - y)) / a) ?_) hxx
      rw [Int.emod_def]
      omega
    · refine Eq.trans (mdk ((x - y) / a) ?_) hyy
      rw [Int.emod_def]
      omega
  · rw [itP_3 hx hy, es]
    obtain ⟨m, em⟩ := Int.dvd_of_emod_eq_zero q2
    rw [em, Int.mul_assoc, Int.add_mul_emod_self_left, Int.emod_eq_of_lt hy.1 hy.2]
  · rw [itP_4 hx hy, es]
    obtain ⟨m, em⟩ := Int.dvd_of_emod_eq_zero q3
    have e2 : s * (a / 2 * y) = a * (m * y) := by
      rw [em, Int.mul_comm 2 m, Int.mul_assoc, ← Int.mul_assoc 2, Int.mul_ediv_cancel' (Int.dvd_of_emod_eq_zero q1), ← Int.mul_assoc, Int.mul_comm m a, Int.mul_assoc]
    rw [e2, Int.add_mul_emod_self_left, Int.emod_eq_of_lt hx.1 hx.2]
theorem tu_T (h : TurnOk a b c s u v w k) {e : Int} (he : In (a * b * c) e) (hes : tuF a b c u v w k e = e) : Turn (a * b * c) s (suF a b c) (tuF a b c u v w k) e := by
  refine ⟨h.hs, tuF_in h, tuF_add h, tuF_z h, hes, he, fun p hp => ?_⟩
  obtain ⟨x, y, z, hx, hy, hz, rfl⟩ := cod_of h.ha h.hb hp
  rw [itr_cod h hx hy hz, itP_back h hx hy, pow_back hz h.hw]
end
end TB
namespace TB
open PySem L2
def tab (N : Int) (f : Int → Int → Int) : Tbl := (irange N).map fun A => (irange N).map (f A)
theorem bnd {a b c : Int} (ha : 1 ≤ a) (hb : 1 ≤ b) (hc : 1 ≤ c) (h : a * b * c ≤ 23) : a ≤ 23 ∧ b ≤ 23 ∧ c ≤ 23 ∧ 1 ≤ a * b ∧ a * b ≤ 23 ∧ 1 ≤ a * b * c := by
  have h1 : a * 1 ≤ a * b := Int.mul_le_mul_of_nonneg_left hb (by omega)
  have h2 : 1 * b ≤ a * b := Int.mul_le_mul_of_nonneg_right ha (by omega)
  have h3 : a * b * 1 ≤ a * b * c := Int.mul_le_mul_of_nonneg_left hc (by omega)
  have h4 : 1 * c ≤ a * b * c := Int.mul_le_mul_of_nonneg_right (by omega) (by omega)
  omega
section
variable {cc : Cn} {Γ : List Sl} {k : Nat} {a b c d : Int}
theorem ev_s0 (e : Γ[k]? = some (.im [a, b, c, d])) : Ev cc Γ (tOp (gIx cc.Z.K) (tVar k) (tC (.int 0))) (.im a) := ev_ix (ev_var e) ev_int (by decide) (by simp)
theorem ev_s1 (e : Γ[k]? = some (.im [a, b, c, d])) : Ev cc Γ (tOp (gIx cc.Z.K) (tVar k) (tC (.int 1))) (.im b) := ev_ix (ev_var e) ev_int (by decide) (by simp)
theorem ev_s2 (e : Γ[k]? = some (.im [a, b, c, d])) : Ev cc Γ (tOp (gIx cc.Z.K) (tVar k) (tC (.int 2))) (.im c) := ev_ix (ev_var e) ev_int (by decide) (by simp)
theorem ev_s3 (e : Γ[k]? = some (.im [a, b, c, d])) : Ev cc Γ (tOp (gIx cc.Z.K) (tVar k) (tC (.int 3))) (.im d) := ev_ix (ev_var e) ev_int (by decide) (by simp)
theorem ev_u0 (e : Γ[k]? = some (.im [a, b, c])) : Ev cc Γ (tOp (gIx cc.Z.K) (tVar k) (tC (.int 0))) (.im a) := ev_ix (ev_var e) ev_int (by decide) (by simp)
theorem ev_u1 (e : Γ[k]? = some (.im [a, b, c])) : Ev cc Γ (tOp (gIx cc.Z.K) (tVar k) (tC (.int 1))) (.im b) := ev_ix (ev_var e) ev_int (by decide) (by simp)
theorem ev_u2 (e : Γ[k]? = some (.im [a, b, c])) : Ev cc Γ (tOp (gIx cc.Z.K) (tVar k) (tC (.int 2))) (.im c) := ev_ix (ev_var e) ev_int (by decide) (by simp)
theorem cmul23 {x y : Int} (h0 : 0 ≤ x) (h1 : x ≤ 1000) (h2 : 0 ≤ y) (h3 : y ≤ 1000) : CMulW x y := cmulS (by omega) (by omega) (by omega) (by omega)
end
def KindOk (a b s k : Int) : Prop := k = 0 ∨ (k = 1 ∧ a = b ∧ s % 2 = 0) ∨ (k = 2 ∧ a = b ∧ s % 3 = 0) ∨ (k = 3 ∧ a % b = 0 ∧ s % b = 0) ∨ (k = 4 ∧ a % 2 = 0 ∧ b % 2 = 0 ∧ s % 2 = 0)
def UnitOk (n s u : Int) : Prop := 0 ≤ u ∧ u < n ∧ u ^ s.toNat % n = 1 % n
end TB

/-! TbGt: plain law: powers, orders, parts of a group told by its table. -/
namespace TB
open PySem L2
theorem nodup_le {α : Type} [DecidableEq α] : ∀ {A B : List α}, A.Nodup → (∀ x ∈ A, x ∈ B) → A.length ≤ B.length
  | [], _, _, _ => Nat.zero_le _
  | a :: A, B, nd, h => by
    have nd' := List.nodup_cons.mp nd
    have hb := h a List.mem_cons_self
    have ih := nodup_le (A := A) (B := B.erase a) nd'.2 fun x hx => by
      have : x ≠ a := fun z => nd'.1 (z ▸ hx)
      exact (List.mem_erase_of_ne this).mpr (h x (List.mem_cons_of_mem _ hx))
    rw [List.length_erase_of_mem hb] at ih
    have : 0 < B.length := List.length_pos_of_mem hb
    simp only [List.length_cons]
    omega
theorem filter_two {α : Type} (p : α → Bool) : ∀ L : List α, L.length = (L.filter p).length + (L.filter fun x => !p x).length
  | [] => rfl
  | a :: L => by
    have ih := filter_two p L
    rw [List.filter_cons, List.filter_cons]
    cases p a <;> simp <;> omega
theorem nodup_irange' (n : Int) : (irange n).Nodup := by
  unfold irange List.Nodup
  rw [List.pairwise_map]
  exact (List.nodup_range).imp (fun h e => h (by omega))
theorem least {p : Nat → Prop} (h : ∃ k, p k) : ∃ k, p k ∧ ∀ j, j < k → ¬ p j := by
  obtain ⟨k, hk⟩ := h
  induction k using Nat.strongRecOn with
  | _ k ih =>
    by_cases q : ∃ j, j < k ∧ p j
    · obtain ⟨j, hj, hp⟩ := q
      exact ih j hj hp
    · exact ⟨k, hk, fun j hj hp => q ⟨j, hj, hp⟩⟩
section
variable {t : Tbl} {e : Int}
theorem GTbl.cl (h : GTbl t e) {a b : Int} (ha : InT t a) (hb : InT t b) : InT t (en t a b) := by
  have h1 : (gt t a).length = t.length := h.sz.2.2 _ (gt_mem ha.1 ha.2)
  exact h.ns _ (gt_mem ha.1 ha.2) _ (gt_mem hb.1 (by rw [h1]; exact hb.2))
theorem GTbl.row (h : GTbl t e) {a : Int} (ha : InT t a) : (gt t a).length = t.length := h.sz.2.2 _ (gt_mem ha.1 ha.2)
theorem GTbl.u1 (h : GTbl t e) {a : Int} (ha : InT t a) : en t e a = a := (h.un a ha.1 ha.2).1
theorem GTbl.u2 (h : GTbl t e) {a : Int} (ha : InT t a) : en t a e = a := (h.un a ha.1 ha.2).2
theorem GTbl.as (h : GTbl t e) {a b c : Int} (ha : InT t a) (hb : InT t b) (hc : InT t c) : en t (en t a b) c = en t a (en t b c) := h.asc a b c ha hb hc
theorem GTbl.canL (h : GTbl t e) {a b c : Int} (ha : InT t a) (hb : InT t b) (hc : InT t c) (q : en t a b = en t a c) : b = c := by
  obtain ⟨i, hi, e1, e2⟩ := h.bk a ha
  have := congrArg (en t i) q
  rw [← h.as hi ha hb, ← h.as hi ha hc, e2, h.u1 hb, h.u1 hc] at this
  exact this
theorem GTbl.canR (h : GTbl t e) {a b c : Int} (ha : InT t a) (hb : InT t b) (hc : InT t c) (q : en t b a = en t c a) : b = c := by
  obtain ⟨i, hi, e1, e2⟩ := h.bk a ha
  have := congrArg (fun x => en t x i) q
  rw [h.as hb ha hi, h.as hc ha hi, e1, h.u2 hb, h.u2 hc] at this
  exact this
/-! ### powers -/
def pw (t : Tbl) (e a : Int) : Nat → Int
  | 0 => e
  | k + 1 => en t (pw t e a k) a
theorem pw_in (h : GTbl t e) {a : Int} (ha : InT t a) : ∀ k, InT t (pw t e a k)
  | 0 => h.he
  | k + 1 => h.cl (pw_in h ha k) ha
theorem pw_add (h : GTbl t e) {a : Int} (ha : InT t a) (i : Nat) : ∀ j, pw t e a (i + j) = en t (pw t e a i) (pw t e a j)
  | 0 => (h.u2 (pw_in h ha i)).symm
  | j + 1 => by
    show en t (pw t e a (i + j)) a = en t _ (en t (pw t e a j) a)
    rw [pw_add h ha i j, h.as (pw_in h ha i) (pw_in h ha j) ha]
structure IsOrd (t : Tbl) (e a : Int) (d : Nat) : Prop where
  pos : 1 ≤ d
  one : pw t e a d = e
  low : ∀ k, 0 < k → k < d → pw t e a k ≠ e
theorem ex_back (h : GTbl t e) {a : Int} (ha : InT t a) : ∃ k, 0 < k ∧ k ≤ t.length ∧ pw t e a k = e := by
  have hlen := h.sz.1
  have : ¬ ((List.range (t.length + 1)).map (pw t e a)).Nodup := fun nd => by
    have := nodup_le (B := irange t.length) nd fun x hx => by
      obtain ⟨i, _, rfl⟩ := List.mem_map.mp hx
      exact mem_irange.mpr (pw_in h ha i)
    rw [List.length_map, List.length_range, irange_len] at this
    omega
  obtain ⟨i, j, hij, hj, eq⟩ : ∃ i j, i < j ∧ j < t.length + 1 ∧ pw t e a i = pw t e a j := by
    refine Classical.byContradiction fun hc => this ?_
    rw [List.Nodup, List.pairwise_map, List.pairwise_iff_getElem]
    intro i j hi hj hlt z
    simp only [List.getElem_range] at z
    simp only [List.length_range] at hi hj
    exact hc ⟨i, j, hlt, hj, z⟩
  refine ⟨j - i, by omega, by omega, ?_⟩
  have q := pw_add h ha i (j - i)
  rw [show i + (j - i) = j by omega, ← eq] at q
  have q2 : en t (pw t e a i) e = en t (pw t e a i) (pw t e a (j - i)) := by rw [h.u2 (pw_in h ha i)]; exact q
  exact (h.canL (pw_in h ha i) h.he (pw_in h ha _) q2).symm
theorem ex_ord (h : GTbl t e) {a : Int} (ha : InT t a) : ∃ d, IsOrd t e a d ∧ d ≤ t.length := by
  obtain ⟨k, k0, k1, k2⟩ := ex_back h ha
  obtain ⟨d, ⟨d0, d1⟩, d2⟩ := least (p := fun k => 0 < k ∧ pw t e a k = e) ⟨k, k0, k2⟩
  refine ⟨d, ⟨d0, d1, fun j j0 j1 z => d2 j j1 ⟨j0, z⟩⟩, ?_⟩
  by_cases q : d ≤ k
  · omega
  · exact absurd ⟨k0, k2⟩ (d2 k (by omega))
theorem ord_one {a : Int} {d d' : Nat} (h : IsOrd t e a d) (h' : IsOrd t e a d') : d = d' := by
  rcases Nat.lt_trichotomy d d' with q | q | q
  · exact absurd h.one (h'.low d h.pos q)
  · exact q
  · exact absurd h'.one (h.low d' h'.pos q)
theorem pw_mul (h : GTbl t e) {a : Int} (ha : InT t a) {d : Nat} (hd : pw t e a d = e) : ∀ m, pw t e a (d * m) = e
  | 0 => rfl
  | m + 1 => by rw [Nat.mul_succ, pw_add h ha, pw_mul h ha hd m, hd, h.u1 h.he]
theorem pw_mod (h : GTbl t e) {a : Int} (ha : InT t a) {d : Nat} (hd : pw t e a d = e) (k : Nat) : pw t e a (k % d) = pw t e a k := by
  have q := pw_add h ha (d * (k / d)) (k % d)
  rw [Nat.div_add_mod, pw_mul h ha hd, h.u1 (pw_in h ha _)] at q
  exact q.symm
/-! ### parts -/
structure Part (t : Tbl) (e : Int) (H : List Int) : Prop where
  nd : H.Nodup
  inn : ∀ x ∈ H, InT t x
  one : e ∈ H
  mul : ∀ x ∈ H, ∀ y ∈ H, en t x y ∈ H
  bk : ∀ x ∈ H, ∃ y ∈ H, en t x y = e ∧ en t y x = e
theorem lag_aux (h : GTbl t e) {H : List Int} (P : Part t e H) : ∀ (m : Nat) (L : List Int), L.length ≤ m → L.Nodup → (∀ x ∈ L, InT t x) → (∀ x ∈ L, ∀ y ∈ H, en t x y ∈ L) → H.length ∣ L.length
  | 0, L, hm, _, _, _ => by
    rw [show L.length = 0 by omega]
    exact Nat.dvd_zero _
  | m + 1, [], _, _, _, _ => Nat.dvd_zero _
  | m + 1, x :: L0, hm, nd, hin, cl => by
    obtain ⟨L, eL⟩ : ∃ L, L = x :: L0 := ⟨_, rfl⟩
    have hx : x ∈ L := by rw [eL]; exact List.mem_cons_self
    rw [← eL] at hm nd hin cl ⊢
    have xi := hin x hx
    have ndC : (H.map (en t x)).Nodup := by
      rw [List.Nodup, List.pairwise_map]
      exact (P.nd).imp_of_mem fun {y z} hy hz ne q => ne (h.canL xi (P.inn y hy) (P.inn z hz) q)
    have l1 : (L.filter fun y => decide (y ∈ H.map (en t x))).length = H.length := by
      apply Nat.le_antisymm
      · rw [← List.length_map (f := en t x) (as := H)]
        exact nodup_le (nd.filter _) fun y hy => by simpa using (List.mem_filter.mp hy).2
      · rw [← List.length_map (f := en t x) (as := H)]
        exact nodup_le ndC fun y hy => by
          rw [List.mem_filter]
          refine ⟨?_, by simpa using hy⟩
          obtain ⟨z, hz, rfl⟩ := List.mem_map.mp hy
          exact cl x hx z hz
    have l2 := filter_two (fun y => decide (y ∈ H.map (en t x))) L
    have hp : 0 < H.length := List.length_pos_of_mem P.one
    have ih := lag_aux h P m (L.filter fun y => !decide (y ∈ H.map (en t x))) (by omega) (nd.filter _) (fun y hy => hin y (List.mem_filter.mp hy).1) fun y hy z hz => by
      obtain ⟨y1, y2⟩ := List.mem_filter.mp hy
      rw [List.mem_filter]
      refine ⟨cl y y1 z hz, ?_⟩
      have y3 : y ∉ H.map (en t x) := by simpa using y2
      have : en t y z ∉ H.map (en t x) := fun q => by
        obtain ⟨w, hw, ew⟩ := List.mem_map.mp q
        obtain ⟨z', hz', e1, e2⟩ := P.bk z hz
        refine y3 (List.mem_map.mpr ⟨en t w z', P.mul w hw z' hz', ?_⟩)
        rw [← h.as xi (P.inn w hw) (P.inn z' hz'), ew, h.as (hin y y1) (P.inn z hz) (P.inn z' hz'), e1, h.u2 (hin y y1)]
      simpa using this
    rw [l2, l1]
    exact Nat.dvd_add (Nat.dvd_refl _) ih
theorem lag (h : GTbl t e) {H : List Int} (P : Part t e H) : H.length ∣ t.length := by
  have := lag_aux h P (irange t.length).length (irange t.length) (Nat.le_refl _) (nodup_irange' _) (fun x hx => mem_irange.mp hx) fun x hx y hy => mem_irange.mpr (h.cl (mem_irange.mp hx) (P.inn y hy))
  rw [irange_len] at this
  simpa using this
theorem ord_part (h : GTbl t e) {a : Int} (ha : InT t a) {d : Nat} (hd : IsOrd t e a d) : Part t e ((List.range d).map (pw t e a)) := by
  have mem : ∀ k, pw t e a k ∈ (List.range d).map (pw t e a) := fun k => by
    rw [← pw_mod h ha hd.one k]
    exact List.mem_map.mpr ⟨k % d, List.mem_range.mpr (Nat.mod_lt _ hd.pos), rfl⟩
  refine ⟨?_, fun x hx => ?_, mem 0, fun x hx y hy => ?_, fun x hx => ?_⟩
  · rw [List.Nodup, List.pairwise_map, List.pairwise_iff_getElem]
    intro i j hi hj hlt z
    simp only [List.getElem_range, List.length_range] at z hi hj
    have q := pw_add h ha i (j - i)
    rw [show i + (j - i) = j by omega, ← z] at q
    have q2 : en t (pw t e a i) e = en t (pw t e a i) (pw t e a (j - i)) := by rw [h.u2 (pw_in h ha i)]; exact q
    exact hd.low (j - i) (by omega) (by omega) (h.canL (pw_in h ha i) h.he (pw_in h ha _) q2).symm
  · obtain ⟨k, _, rfl⟩ := List.mem_map.mp hx
    exact pw_in h ha k
  · obtain ⟨i, _, rfl⟩ := List.mem_map.mp hx
    obtain ⟨j, _, rfl⟩ := List.mem_map.mp hy
    rw [← pw_add h ha]
    exact mem _
  · obtain ⟨i, hi, rfl⟩ := List.mem_map.mp hx
    have hi' := List.mem_range.mp hi
    refine ⟨_, mem (d - i), ?_, ?_⟩
    · rw [← pw_add h ha, show i + (d - i) = d by omega, hd.one]
    · rw [← pw_add h ha, show d - i + i = d by omega, hd.one]
theorem ord_dvd (h : GTbl t e) {a : Int} (ha : InT t a) {d : Nat} (hd : IsOrd t e a d) : d ∣ t.length := by
  have := lag h (ord_part h ha hd)
  rw [List.length_map, List.length_range] at this
  exact this
theorem pw_len (h : GTbl t e) {a : Int} (ha : InT t a) : pw t e a t.length = e := by
  obtain ⟨d, hd, _⟩ := ex_ord h ha
  obtain ⟨m, em⟩ := ord_dvd h ha hd
  rw [em, pw_mul h ha hd.one]
end
end TB
namespace TB
open PySem L2
/-- one thing turned by another -/
def cj (t : Tbl) (e x a : Int) : Int := en t (en t x a) (bkf t e x)
theorem bk_first {t : Tbl} {e a : Int} (hG : GTbl t e) (ha : InT t a) : FirstBack t e a (bkf t e a) := bkf_first (hG.bk a ha)
theorem bk_in {t : Tbl} {e a : Int} (hG : GTbl t e) (ha : InT t a) : InT t (bkf t e a) := ⟨(bk_first hG ha).b0, (bk_first hG ha).b1⟩
theorem cj_in {t : Tbl} {e x a : Int} (hG : GTbl t e) (hx : InT t x) (ha : InT t a) : InT t (cj t e x a) := hG.cl (hG.cl hx ha) (bk_in hG hx)
theorem backs_len {t : Tbl} {e : Int} (hG : GTbl t e) : (((grpOf t e).backs).length : Int) = t.length := by rw [hG.ok.bl]; rfl
theorem backs_at {t : Tbl} {e a : Int} (ha : InT t a) : gt (grpOf t e).backs a = bkf t e a := gt_map ha.1 ha.2
/-- the least thing by which a is turned into b -/
def tnr (t : Tbl) (e a b : Int) : Option Int := (irange t.length).find? fun x => decide (cj t e x a = b)
theorem tnr_some {t : Tbl} {e a b i : Int} (hi : InT t i) (h : cj t e i a = b) (hlt : ∀ x, 0 ≤ x → x < i → cj t e x a ≠ b) : tnr t e a b = some i := by
  unfold tnr
  cases q : (irange t.length).find? fun x => decide (cj t e x a = b) with
  | none =>
    rw [List.find?_eq_none] at q
    exact absurd (by simpa using h) (q i (mem_irange.mpr hi))
  | some x =>
    obtain ⟨x0, x1, x2, x3⟩ := find_irange q
    have x2' : cj t e x a = b := by simpa using x2
    rcases Int.lt_trichotomy x i with r | r | r
    · exact absurd x2' (hlt x x0 r)
    · rw [r]
    · have := x3 i hi.1 r
      simp [h] at this
theorem tnr_none {t : Tbl} {e a b : Int} (h : ∀ x, InT t x → cj t e x a ≠ b) : tnr t e a b = none := by
  unfold tnr
  rw [List.find?_eq_none]
  intro x hx
  simpa using h x (mem_irange.mp hx)
end TB

/-! TbPoly: plain law: polynomials, what is left of a division, sums round a wheel. -/
namespace TB
open PySem L2
/-! ### what the program reckons -/
def subN (s : Int) (b : List Int) (at0 : Nat) (r : List Int) : Nat → List Int
  | 0 => r
  | k + 1 => let q := subN s b at0 r k; q.set (at0 + k) (gt q ((at0 + k : Nat) : Int) - s * gt b (k : Int))
def splitN (b : List Int) (many : Nat) : Nat → List Int → List Int → List Int × List Int
  | 0, f, r => (f, r)
  | n + 1, f, r => if many < r.length then splitN b many n (r.getLastD 0 :: f) (subN (r.getLastD 0) b (r.length - 1 - many) r.dropLast many) else (f, r)
def splitF (top b : List Int) : List Int × List Int := splitN b (b.length - 1) top.length [] top
def strN (k : Nat) (xs : List Int) : Nat → List Int
  | 0 => List.replicate (k * (xs.length - 1) + 1) 0
  | i + 1 => (strN k xs i).set (k * i) (gt xs (i : Int))
def stretchF (xs : List Int) (k : Int) : List Int := strN k.toNat xs xs.length
def stripC : Nat → Int → List Int → Int → List Int × Int
  | 0, _, f, r => (f, r)
  | n + 1, p, f, r => if r % p = 0 then stripC n p (stretchF f p) (r / p) else (f, r)
def cstep (p : Int) (s : List Int × Int) : List Int × Int := if s.2 % p = 0 then stripC 6 p (splitF (stretchF s.1 p) s.1).1 (s.2 / p) else s
def circN (m : Int) : Nat → List Int × Int
  | 0 => ([-1, 1], m)
  | i + 1 => cstep (2 + (i : Int)) (circN m i)
def circ (m : Int) : List Int := (circN m (m - 1).toNat).1
def stripF : Nat → Int → Int → Int
  | 0, _, r => r
  | n + 1, p, r => if r % p = 0 then stripF n p (r / p) else r
def primesN (m : Int) : Nat → List Int × Int
  | 0 => ([], m)
  | i + 1 => let s := primesN m i; (if s.2 % (2 + (i : Int)) = 0 then s.1 ++ [2 + (i : Int)] else s.1, stripF 6 (2 + (i : Int)) s.2)
def primesF (m : Int) : List Int := (primesN m (m - 1).toNat).1
def degF (m : Int) : Nat := ((irange m).filter fun k => (primesF m).all fun p => decide ((k + 1) % p ≠ 0)).length
/-! ### entries and lengths -/
theorem subN_len {s : Int} {b : List Int} {at0 : Nat} {r : List Int} : ∀ k, (subN s b at0 r k).length = r.length
  | 0 => rfl
  | k + 1 => by show ((subN s b at0 r k).set _ _).length = _; rw [List.length_set, subN_len k]
theorem subN_get {s : Int} {b : List Int} {at0 : Nat} {r : List Int} : ∀ (k i : Nat), at0 + k ≤ r.length → (subN s b at0 r k)[i]? = if at0 ≤ i ∧ i < at0 + k then (r[i]?).map fun x => x - s * gt b ((i - at0 : Nat) : Int) else r[i]?
  | 0, i, _ => by rw [if_neg (by omega)]; rfl
  | k + 1, i, h => by
    show ((subN s b at0 r k).set (at0 + k) _)[i]? = _
    have ih := subN_get (s := s) (b := b) (at0 := at0) (r := r) k i (by omega)
    have ih2 := subN_get (s := s) (b := b) (at0 := at0) (r := r) k (at0 + k) (by omega)
    rw [if_neg (by omega)] at ih2
    rw [List.getElem?_set, subN_len]
    by_cases e : at0 + k = i
    · subst e
      rw [if_pos rfl, if_pos (by omega), if_pos (by omega)]
      have hl : at0 + k < r.length := by omega
      rw [List.getElem?_eq_getElem hl]
      unfold gt
      rw [show ((at0 + k : Nat) : Int).toNat = at0 + k by omega, List.getD_eq_getElem?_getD, ih2, List.getElem?_eq_getElem hl, show at0 + k - at0 = k by omega]
      rfl
    · rw [if_neg e, ih]
      by_cases c : at0 ≤ i ∧ i < at0 + k
      · rw [if_pos c, if_pos (by omega)]
      · rw [if_neg c, if_neg (by omega)]
def Bd (n : Nat) (xs : List Int) : Prop := ∀ x ∈ xs, x.natAbs < 2 ^ n
theorem Bd.mono {n m : Nat} {xs : List Int} (h : Bd n xs) (l : n ≤ m) : Bd m xs := fun x hx => Nat.lt_of_lt_of_le (h x hx) (Nat.pow_le_pow_right (by omega) l)
theorem bd_sub {a b : Nat} {x s y : Int} (hx : x.natAbs < 2 ^ a) (hs : s.natAbs < 2 ^ a) (hy : y.natAbs < 2 ^ b) : (x - s * y).natAbs < 2 ^ (a + b + 1) := by
  have h1 : (s * y).natAbs < 2 ^ (a + b) := wide_lt hs hy
  have h2 : (2 : Nat) ^ a ≤ 2 ^ (a + b) := Nat.pow_le_pow_right (by omega) (by omega)
  have h3 : (2 : Nat) ^ (a + b + 1) = 2 ^ (a + b) + 2 ^ (a + b) := by rw [Nat.pow_succ]; omega
  omega
theorem gt_bd {n : Nat} {xs : List Int} (h : Bd n xs) (i : Int) : (gt xs i).natAbs < 2 ^ n := by
  unfold gt
  rw [List.getD_eq_getElem?_getD]
  cases e : xs[i.toNat]? with
  | none => exact Nat.pow_pos (by omega)
  | some x => exact h x (List.mem_of_getElem? e)
theorem subN_bd {a bb : Nat} {s : Int} {b : List Int} {at0 : Nat} {r : List Int} {k : Nat} (hk : at0 + k ≤ r.length) (hr : Bd a r) (hs : s.natAbs < 2 ^ a) (hb : Bd bb b) : Bd (a + bb + 1) (subN s b at0 r k) := fun x hx => by
  obtain ⟨i, hi⟩ := List.mem_iff_getElem?.mp hx
  rw [subN_get k i hk] at hi
  by_cases c : at0 ≤ i ∧ i < at0 + k
  · rw [if_pos c] at hi
    cases e : r[i]? with
    | none => rw [e] at hi; cases hi
    | some y =>
      rw [e] at hi
      have : y - s * gt b ((i - at0 : Nat) : Int) = x := by simpa using hi
      rw [← this]
      exact bd_sub (hr y (List.mem_of_getElem? e)) hs (gt_bd hb _)
  · rw [if_neg c] at hi
    exact (hr.mono (by omega)) x (List.mem_of_getElem? hi)
theorem splitN_len {b : List Int} {many : Nat} : ∀ (n : Nat) (f r : List Int), r.length ≤ n → (splitN b many n f r).2.length = min many r.length
  | 0, f, r, h => by show r.length = _; omega
  | n + 1, f, r, h => by
    unfold splitN
    by_cases c : many < r.length
    · rw [if_pos c, splitN_len n _ _ (by rw [subN_len, List.length_dropLast]; omega), subN_len, List.length_dropLast]
      omega
    · rw [if_neg c]
      show r.length = _
      omega
/-! ### sums round a wheel -/
def cyc (m : Int) : Int → List Int → Int → Int
  | _, [], _ => 0
  | o, x :: xs, j => (if (o - j) % m = 0 then x else 0) + cyc m (o + 1) xs j
section
variable {m : Int}
theorem cyc_append : ∀ (o : Int) (xs ys : List Int) (j : Int), cyc m o (xs ++ ys) j = cyc m o xs j + cyc m (o + xs.length) ys j
  | o, [], ys, j => by simp [cyc]
  | o, x :: xs, ys, j => by
    show _ + cyc m (o + 1) (xs ++ ys) j = _ + cyc m (o + 1) xs j + _
    rw [cyc_append (o + 1) xs ys j, List.length_cons, show o + 1 + (xs.length : Int) = o + ((xs.length + 1 : Nat) : Int) by omega]
    omega
theorem cyc_one (o x j : Int) : cyc m o [x] j = if (o - j) % m = 0 then x else 0 := by simp [cyc]
theorem cyc_shift : ∀ (o d : Int) (xs : List Int) (j : Int), cyc m (o + d) xs j = cyc m o xs (j - d)
  | o, d, [], j => rfl
  | o, d, x :: xs, j => by
    show _ + cyc m (o + d + 1) xs j = _ + cyc m (o + 1) xs (j - d)
    rw [show o + d + 1 = o + 1 + d by omega, cyc_shift (o + 1) d xs j, show o + d - j = o - (j - d) by omega]
theorem cyc_per : ∀ (o : Int) (xs : List Int) (j k : Int), cyc m o xs (j + m * k) = cyc m o xs j
  | o, [], j, k => rfl
  | o, x :: xs, j, k => by
    show (if (o - (j + m * k)) % m = 0 then x else 0) + _ = (if (o - j) % m = 0 then x else 0) + _
    rw [cyc_per (o + 1) xs j k, show o - (j + m * k) = o - j + m * (-k) by rw [Int.mul_neg]; omega, Int.add_mul_emod_self_left]
theorem cyc_set : ∀ (o : Int) (xs : List Int) (i : Nat) (v j : Int), i < xs.length → cyc m o (xs.set i v) j = cyc m o xs j + if (o + i - j) % m = 0 then v - gt xs (i : Int) else 0
  | o, [], i, v, j, h => by simp at h
  | o, x :: xs, 0, v, j, h => by
    show (if (o - j) % m = 0 then v else 0) + _ = (if (o - j) % m = 0 then x else 0) + _ + _
    have : gt (x :: xs) ((0 : Nat) : Int) = x := rfl
    rw [this, show o + ((0 : Nat) : Int) - j = o - j by omega]
    by_cases c : (o - j) % m = 0
    · simp only [c, if_true]; omega
    · simp only [c, if_false]; omega
  | o, x :: xs, i + 1, v, j, h => by
    show _ + cyc m (o + 1) (xs.set i v) j = _ + cyc m (o + 1) xs j + _
    rw [cyc_set (o + 1) xs i v j (by simpa using h), show o + 1 + (i : Int) - j = o + ((i + 1 : Nat) : Int) - j by omega]
    have : gt (x :: xs) ((i + 1 : Nat) : Int) = gt xs (i : Int) := rfl
    rw [this]
    omega
theorem cyc_zeros : ∀ (o : Int) (n : Nat) (j : Int), cyc m o (List.replicate n 0) j = 0
  | o, 0, j => rfl
  | o, n + 1, j => by
    rw [List.replicate_succ]
    show (if _ then (0 : Int) else 0) + cyc m (o + 1) (List.replicate n 0) j = 0
    rw [cyc_zeros (o + 1) n j]
    split <;> rfl
theorem take_snoc' {α : Type} [Rp α] {l : List α} {i : Nat} (h : i < l.length) : l.take (i + 1) = l.take i ++ [gt l (i : Int)] := by
  rw [take_snoc h, gt_nat h]
theorem cyc_subN {s : Int} {b : List Int} {at0 : Nat} {r : List Int} (j : Int) : ∀ k, k ≤ b.length → at0 + k ≤ r.length → cyc m 0 (subN s b at0 r k) j = cyc m 0 r j - s * cyc m at0 (b.take k) j
  | 0, _, _ => by simp [subN, cyc]
  | k + 1, h1, h2 => by
    show cyc m 0 ((subN s b at0 r k).set (at0 + k) _) j = _
    rw [cyc_set _ _ _ _ _ (by rw [subN_len]; omega), cyc_subN j k (by omega) (by omega), take_snoc' (by omega : k < b.length), cyc_append, cyc_one, List.length_take, Int.mul_add]
    rw [show ((min k b.length : Nat) : Int) = (k : Int) by omega, show (0 : Int) + ((at0 + k : Nat) : Int) - j = (at0 : Int) + k - j by omega]
    by_cases c : ((at0 : Int) + k - j) % m = 0
    · simp only [c, if_true]; omega
    · simp only [c, if_false]; omega
end
/-! ### less a turn for each prime -/
def dif (m : Int) : List Int → (Int → Int) → Int → Int
  | [], f, j => f j
  | p :: ps, f, j => dif m ps (fun i => f i - f (i - m / p)) j
theorem dif_lin {m : Int} : ∀ (ps : List Int) (f g : Int → Int) (s : Int) (j : Int), dif m ps (fun i => f i - s * g i) j = dif m ps f j - s * dif m ps g j
  | [], f, g, s, j => rfl
  | p :: ps, f, g, s, j => by
    show dif m ps (fun i => (f i - s * g i) - (f (i - m / p) - s * g (i - m / p))) j = _
    have : (fun i => (f i - s * g i) - (f (i - m / p) - s * g (i - m / p))) = fun i => (f i - f (i - m / p)) - s * (g i - g (i - m / p)) := by
      funext i
      rw [Int.mul_sub]
      omega
    rw [this, dif_lin ps]
    rfl
theorem dif_turn {m : Int} : ∀ (ps : List Int) (f : Int → Int) (d j : Int), dif m ps (fun i => f (i - d)) j = dif m ps f (j - d)
  | [], f, d, j => rfl
  | p :: ps, f, d, j => by
    show dif m ps (fun i => f (i - d) - f (i - m / p - d)) j = dif m ps (fun i => f i - f (i - m / p)) (j - d)
    rw [← dif_turn ps (fun i => f i - f (i - m / p)) d j]
    congr 1
    funext i
    rw [show i - m / p - d = i - d - m / p by omega]
theorem dif_congr {m : Int} {ps : List Int} {f g : Int → Int} (h : ∀ i, f i = g i) (j : Int) : dif m ps f j = dif m ps g j := by
  rw [show f = g from funext h]
theorem dif_zero {m : Int} : ∀ (ps : List Int) (j : Int), dif m ps (fun _ => 0) j = 0
  | [], j => rfl
  | p :: ps, j => by
    show dif m ps (fun i => 0 - 0) j = 0
    exact dif_zero ps j
/-- the same number of the wheel: one sum less the other is nought all round -/
def SameN (m : Int) (f g : Int → Int) : Prop := ∀ j, dif m (primesF m) f j = dif m (primesF m) g j
theorem SameN.refl {m : Int} (f : Int → Int) : SameN m f f := fun _ => rfl
theorem SameN.trans {m : Int} {f g h : Int → Int} (a : SameN m f g) (b : SameN m g h) : SameN m f h := fun j => (a j).trans (b j)
theorem SameN.symm {m : Int} {f g : Int → Int} (a : SameN m f g) : SameN m g f := fun j => (a j).symm
theorem same_split {m : Int} {b : List Int} (hl : 1 ≤ b.length) (h1 : gt b ((b.length - 1 : Nat) : Int) = 1) (hb : ∀ j, dif m (primesF m) (cyc m 0 b) j = 0) : ∀ (n : Nat) (f r : List Int), SameN m (cyc m 0 (splitN b (b.length - 1) n f r).2) (cyc m 0 r)
  | 0, f, r => SameN.refl _
  | n + 1, f, r => by
    unfold splitN
    by_cases c : b.length - 1 < r.length
    · rw [if_pos c]
      refine (same_split hl h1 hb n _ _).trans fun j => ?_
      have hne : r ≠ [] := fun z => by rw [z] at c; simp at c
      have e1 : ∀ i, cyc m 0 (subN (r.getLastD 0) b (r.length - 1 - (b.length - 1)) r.dropLast (b.length - 1)) i = cyc m 0 r i - r.getLastD 0 * cyc m 0 b (i - ((r.length - 1 - (b.length - 1) : Nat) : Int)) := fun i => by
        rw [cyc_subN i _ (by omega) (by rw [List.length_dropLast]; omega), ← cyc_shift]
        have e2 : b = b.take (b.length - 1) ++ [1] := by
          have := take_snoc' (l := b) (i := b.length - 1) (by omega)
          rw [h1, show b.length - 1 + 1 = b.length by omega, List.take_length] at this
          exact this
        have e3 : r = r.dropLast ++ [r.getLastD 0] := by
          rw [List.getLastD_eq_getLast?, List.getLast?_eq_some_getLast hne]
          exact (List.dropLast_concat_getLast hne).symm
        have e4 : cyc m (0 + ((r.length - 1 - (b.length - 1) : Nat) : Int)) b i = cyc m ((r.length - 1 - (b.length - 1) : Nat) : Int) (b.take (b.length - 1)) i + if (((r.length : Int) - 1) - i) % m = 0 then 1 else 0 := by
          rw [Int.zero_add]
          have e6 : cyc m ((r.length - 1 - (b.length - 1) : Nat) : Int) b i = cyc m ((r.length - 1 - (b.length - 1) : Nat) : Int) (b.take (b.length - 1) ++ [1]) i := congrArg (fun z => cyc m ((r.length - 1 - (b.length - 1) : Nat) : Int) z i) e2
          rw [e6, cyc_append, cyc_one, List.length_take, show ((r.length - 1 - (b.length - 1) : Nat) : Int) + ((min (b.length - 1) b.length : Nat) : Int) = (r.length : Int) - 1 by omega]
        have e5 : cyc m 0 r i = cyc m 0 r.dropLast i + if (((r.length : Int) - 1) - i) % m = 0 then r.getLastD 0 else 0 := by
          have e6 : cyc m 0 r i = cyc m 0 (r.dropLast ++ [r.getLastD 0]) i := congrArg (fun z => cyc m 0 z i) e3
          rw [e6, cyc_append, cyc_one, List.length_dropLast, show (0 : Int) + ((r.length - 1 : Nat) : Int) = (r.length : Int) - 1 by omega]
        rw [e4, e5, Int.mul_add]
        by_cases q : ((r.length : Int) - 1 - i) % m = 0
        · simp only [q, if_true]; omega
        · simp only [q, if_false]; omega
      rw [dif_congr e1, dif_lin (primesF m) (cyc m 0 r) (fun i => cyc m 0 b (i - ((r.length - 1 - (b.length - 1) : Nat) : Int))) (r.getLastD 0) j, dif_turn, hb]
      omega
    · rw [if_neg c]
      exact SameN.refl _
end TB

/-! TbRing: what holds of the circles of 1 to 60, reckoned. -/
namespace TB
open PySem L2
/-! ### what holds of the circles of 1 to 60 -/
def okC (f : List Int) (r : Int) : Bool := decide (1 ≤ r) && decide (r ≤ 60) && decide (2 ≤ f.length) && decide (f.length ≤ 100) && f.all fun x => decide (x.natAbs < 1024)
def stripOk : Nat → Int → List Int → Int → Bool
  | 0, _, f, r => okC f r
  | n + 1, p, f, r => okC f r && (if r % p = 0 then stripOk n p (stretchF f p) (r / p) else true)
def cuS (p : Int) (s : List Int × Int) : List Int × Int := if s.2 % p = 0 then ((splitF (stretchF s.1 p) s.1).1, s.2 / p) else s
def circRun (m : Int) : Nat → (List Int × Int) × Bool
  | 0 => (([-1, 1], m), true)
  | i + 1 => let q := circRun m i
    let u := cuS (2 + (i : Int)) q.1
    (stripC 6 (2 + (i : Int)) u.1 u.2, q.2 && okC q.1.1 q.1.2 && stripOk 6 (2 + (i : Int)) u.1 u.2)
theorem stripC_no {n : Nat} {p : Int} {f : List Int} {r : Int} (h : ¬ r % p = 0) : stripC n p f r = (f, r) := by
  cases n with
  | zero => rfl
  | succ n => unfold stripC; rw [if_neg h]
theorem cstep_cu (p : Int) (s : List Int × Int) : stripC 6 p (cuS p s).1 (cuS p s).2 = cstep p s := by
  unfold cstep cuS
  by_cases c : s.2 % p = 0
  · simp only [if_pos c]
  · simp only [if_neg c]
    rw [stripC_no c]
theorem circRun_1 (m : Int) : ∀ i, (circRun m i).1 = circN m i
  | 0 => rfl
  | i + 1 => by
    show stripC 6 (2 + (i : Int)) (cuS (2 + (i : Int)) (circRun m i).1).1 (cuS (2 + (i : Int)) (circRun m i).1).2 = cstep (2 + (i : Int)) (circN m i)
    rw [circRun_1 m i, cstep_cu]
theorem circRun_ok (m : Int) : ∀ n i, (circRun m n).2 = true → i < n → okC (circN m i).1 (circN m i).2 = true ∧ stripOk 6 (2 + (i : Int)) (cuS (2 + (i : Int)) (circN m i)).1 (cuS (2 + (i : Int)) (circN m i)).2 = true
  | 0, _, _, h => by omega
  | n + 1, i, h, hi => by
    have h' : ((circRun m n).2 && okC (circRun m n).1.1 (circRun m n).1.2 && stripOk 6 (2 + (n : Int)) (cuS (2 + (n : Int)) (circRun m n).1).1 (cuS (2 + (n : Int)) (circRun m n).1).2) = true := h
    rw [circRun_1, Bool.and_eq_true, Bool.and_eq_true] at h'
    by_cases e : i = n
    · subst e
      exact ⟨h'.1.2, h'.2⟩
    · exact circRun_ok m n i h'.1.1 (by omega)
/-- the sums round the wheel, less a turn for each prime, as lists -/
def turnL (m : Int) (p : Int) (S : List Int) : List Int := (irange m).map fun k => gt S k - gt S (if 0 ≤ k - m / p then k - m / p else k - m / p + m)
def turnsL (m : Int) : List Int → List Int → List Int
  | [], S => S
  | p :: ps, S => turnsL m ps (turnL m p S)
def noughtL (m : Int) (xs : List Int) : Bool := (turnsL m (primesF m) ((irange m).map (cyc m 0 xs))).all fun x => decide (x = 0)
def ringOk (m : Int) : Bool := (circRun m (m - 1).toNat).2 && (let r := circ m
  decide (2 ≤ r.length) && decide ((r.length : Int) ≤ m + 1) && decide (gt r ((r.length - 1 : Nat) : Int) = 1) && r.all (fun x => decide (x.natAbs < 1024)) && noughtL m r && decide (degF m + 1 = r.length) && (primesF m).all fun p => decide (2 ≤ p) && decide (p ≤ m))
theorem rings_ok : (List.range 60).all (fun i => ringOk ((i : Int) + 1)) = true := by decide +kernel
theorem ring_ok {m : Int} (h1 : 1 ≤ m) (h2 : m ≤ 60) : ringOk m = true := by
  have := List.all_eq_true.mp rings_ok (m.toNat - 1) (by rw [List.mem_range]; omega)
  rw [show ((m.toNat - 1 : Nat) : Int) + 1 = m by omega] at this
  exact this
end TB

/-! TbWh: wheels as data; more rules for lists. -/
namespace TB
open PySem L2
def Per (m : Int) (f : Int → Int) : Prop := ∀ j k, f (j + m * k) = f j
theorem per_cyc {m o : Int} {xs : List Int} : Per m (cyc m o xs) := fun j k => cyc_per o xs j k
theorem per_turn {m p : Int} {f : Int → Int} (h : Per m f) : Per m (fun i => f i - f (i - m / p)) := fun j k => by
  show f (j + m * k) - f (j + m * k - m / p) = _
  rw [h j k, show j + m * k - m / p = j - m / p + m * k by omega, h]
theorem turnL_map {m p : Int} {f : Int → Int} (hf : Per m f) (h1 : 1 ≤ m) (hp : 1 ≤ p) : turnL m p ((irange m).map f) = (irange m).map fun i => f i - f (i - m / p) := by
  unfold turnL
  refine List.map_congr_left fun k hk => ?_
  rw [mem_irange] at hk
  have h2 : 0 ≤ m / p := Int.ediv_nonneg (by omega) (by omega)
  have h3 : m / p ≤ m := Int.ediv_le_self _ (by omega)
  rw [gt_map hk.1 hk.2]
  by_cases c : 0 ≤ k - m / p
  · rw [if_pos c, gt_map c (by omega)]
  · rw [if_neg c, gt_map (by omega) (by omega), ← hf (k - m / p) 1, Int.mul_one]
theorem turnsL_map {m : Int} (h1 : 1 ≤ m) : ∀ (ps : List Int) (f : Int → Int), (∀ p ∈ ps, 1 ≤ p) → Per m f → turnsL m ps ((irange m).map f) = (irange m).map (dif m ps f)
  | [], f, _, _ => rfl
  | p :: ps, f, hp, hf => by
    show turnsL m ps (turnL m p _) = _
    rw [turnL_map hf h1 (hp p (by simp)), turnsL_map h1 ps _ (fun q hq => hp q (by simp [hq])) (per_turn hf)]
    rfl
theorem per_dif {m : Int} : ∀ (ps : List Int) {f : Int → Int}, Per m f → Per m (dif m ps f)
  | [], f, h => h
  | p :: ps, f, h => per_dif ps (per_turn h)
theorem per_all {m : Int} {f : Int → Int} (h : Per m f) (h1 : 1 ≤ m) (h0 : ∀ j, 0 ≤ j → j < m → f j = 0) : ∀ j, f j = 0 := fun j => by
  have q := h (j % m) (j / m)
  rw [Int.emod_add_mul_ediv] at q
  rw [q]
  exact h0 _ (Int.emod_nonneg _ (by omega)) (Int.emod_lt_of_pos _ (by omega))
structure RingF (m : Int) : Prop where
  run : (circRun m (m - 1).toNat).2 = true
  len : 2 ≤ (circ m).length
  le : ((circ m).length : Int) ≤ m + 1
  one : gt (circ m) (((circ m).length - 1 : Nat) : Int) = 1
  bd : Bd 10 (circ m)
  nou : ∀ j, dif m (primesF m) (cyc m 0 (circ m)) j = 0
  deg : degF m + 1 = (circ m).length
  pr : ∀ p ∈ primesF m, 2 ≤ p ∧ p ≤ m
theorem ringF {m : Int} (h1 : 1 ≤ m) (h2 : m ≤ 60) : RingF m := by
  have h := ring_ok h1 h2
  unfold ringOk at h
  simp only [Bool.and_eq_true, decide_eq_true_eq, List.all_eq_true] at h
  obtain ⟨a, ⟨⟨⟨⟨⟨b, c⟩, d⟩, e⟩, f⟩, g⟩, i⟩ := h
  refine ⟨a, b, c, d, fun x hx => by have := e x hx; exact Nat.lt_of_lt_of_le this (by decide), ?_, g, fun p hp => ⟨(i p hp).1, (i p hp).2⟩⟩
  unfold noughtL at f
  rw [turnsL_map h1 _ _ (fun p hp => by have := (i p hp).1; omega) per_cyc, List.all_eq_true] at f
  refine per_all (per_dif _ per_cyc) h1 fun j j0 j1 => ?_
  have := f (dif m (primesF m) (cyc m 0 (circ m)) j) (List.mem_map.mpr ⟨j, mem_irange.mpr ⟨j0, j1⟩, rfl⟩)
  simpa using this
theorem noughtL_of {m : Int} {xs : List Int} (h1 : 1 ≤ m) (h2 : m ≤ 60) (h : ∀ j, dif m (primesF m) (cyc m 0 xs) j = 0) : noughtL m xs = true := by
  unfold noughtL
  rw [turnsL_map h1 _ _ (fun p hp => by have := ((ringF h1 h2).pr p hp).1; omega) per_cyc, List.all_eq_true]
  intro x hx
  obtain ⟨j, _, rfl⟩ := List.mem_map.mp hx
  exact decide_eq_true (h j)
theorem turnsL_snoc {m p : Int} : ∀ (ps : List Int) (S : List Int), turnsL m (ps ++ [p]) S = turnL m p (turnsL m ps S)
  | [], S => rfl
  | q :: ps, S => turnsL_snoc ps (turnL m q S)
theorem turnsL_len {m : Int} : ∀ (ps : List Int) (S : List Int), S.length = m.toNat → (turnsL m ps S).length = m.toNat
  | [], S, h => h
  | q :: ps, S, h => turnsL_len ps (turnL m q S) (by unfold turnL; rw [List.length_map, irange_len])
/-- the lowest form -/
def lowF (m : Int) (cs : List Int) : List Int := (splitF ((irange m).map (cyc m 0 cs)) (circ m)).2
theorem cyc_map {m : Int} {f : Int → Int} (hf : Per m f) (h1 : 1 ≤ m) (j : Int) : cyc m 0 ((irange m).map f) j = f j := by
  have key : ∀ n : Nat, (n : Int) ≤ m → cyc m 0 ((irange n).map f) j = if j % m < n then f (j % m) else 0 := by
    intro n
    induction n with
    | zero =>
      intro _
      have := Int.emod_nonneg j (show m ≠ 0 by omega)
      rw [if_neg (by omega)]
      rfl
    | succ n ih =>
      intro hn
      have g := ih (by omega)
      rw [show ((n + 1 : Nat) : Int) = (n : Int) + 1 by omega, irange_suc (by omega), List.map_append, cyc_append, g, List.map_singleton, cyc_one, List.length_map, irange_len, show (0 : Int) + (((n : Int).toNat : Nat) : Int) = n by omega]
      have e1 := Int.emod_nonneg j (show m ≠ 0 by omega)
      by_cases c : j % m = n
      · rw [if_neg (by omega), if_pos (by rw [← c, Int.sub_emod, Int.emod_emod, Int.sub_self]; rfl), if_pos (by omega), c]
        omega
      · have c2 : ¬ ((n : Int) - j) % m = 0 := fun z => c (by
          have := Int.emod_emod_of_dvd ((n : Int) - j) (Int.dvd_refl m)
          obtain ⟨k, hk⟩ := Int.dvd_of_emod_eq_zero z
          rw [show j = (n : Int) + m * (-k) by rw [Int.mul_neg]; omega, Int.add_mul_emod_self_left]
          exact Int.emod_eq_of_lt (by omega) (by omega))
        rw [if_neg c2]
        by_cases c3 : j % m < n
        · rw [if_pos c3, if_pos (by omega)]; omega
        · rw [if_neg c3, if_neg (by omega)]; omega
  have := key m.toNat (by omega)
  rw [show ((m.toNat : Nat) : Int) = m by omega, if_pos (Int.emod_lt_of_pos _ (by omega))] at this
  rw [this]
  have q := hf (j % m) (j / m)
  rw [Int.emod_add_mul_ediv] at q
  exact q.symm
theorem lowF_len {m : Int} (h1 : 1 ≤ m) (h2 : m ≤ 60) (cs : List Int) : (lowF m cs).length = (circ m).length - 1 := by
  have r := ringF h1 h2
  have h3 := r.len
  have h4 := r.le
  unfold lowF splitF
  rw [splitN_len _ _ _ (Nat.le_refl _), List.length_map, irange_len]
  omega
theorem lowF_same {m : Int} (h1 : 1 ≤ m) (h2 : m ≤ 60) (cs : List Int) : SameN m (cyc m 0 (lowF m cs)) (cyc m 0 cs) := by
  have r := ringF h1 h2
  unfold lowF splitF
  refine (same_split (by have := r.len; omega) r.one r.nou _ _ _).trans fun j => dif_congr (fun i => cyc_map per_cyc h1 i) j
theorem set_map {m k v : Int} {f : Int → Int} (h0 : 0 ≤ k) (h1 : k < m) : ((irange m).map f).set k.toNat v = (irange m).map fun j => if j = k then v else f j := by
  refine List.ext_getElem (by simp) fun i hi1 hi2 => ?_
  rw [List.getElem_set, List.getElem_map, List.getElem_map]
  have hl : i < (irange m).length := by simpa using hi2
  rw [irange_get hl]
  by_cases c : k.toNat = i
  · rw [if_pos c, if_pos (by omega)]
  · rw [if_neg c, if_neg (by omega)]
theorem mod_iff {m a j : Int} (hm : 1 ≤ m) (j0 : 0 ≤ j) (j1 : j < m) : (a - j) % m = 0 ↔ j = a % m := by
  constructor
  · intro h
    obtain ⟨k, hk⟩ := Int.dvd_of_emod_eq_zero h
    rw [show a = j + m * k by omega, Int.add_mul_emod_self_left]
    exact (Int.emod_eq_of_lt j0 j1).symm
  · intro h
    rw [h, Int.sub_emod, Int.emod_emod, Int.sub_self]
    rfl
/-- one more put to a sum -/
theorem sum_put {m a x : Int} {f : Int → Int} (hm : 1 ≤ m) : ((irange m).map f).set (a % m).toNat (gt ((irange m).map f) (a % m) + x) = (irange m).map fun j => f j + if (a - j) % m = 0 then x else 0 := by
  have h0 := Int.emod_nonneg a (show m ≠ 0 by omega)
  have h1 := Int.emod_lt_of_pos a (show 0 < m by omega)
  rw [set_map h0 h1, gt_map h0 h1]
  refine List.map_congr_left fun j hj => ?_
  rw [mem_irange] at hj
  have := mod_iff (a := a) hm hj.1 hj.2
  by_cases c : j = a % m
  · rw [if_pos c, if_pos (this.mpr c), c]
  · rw [if_neg c, if_neg fun z => c (this.mp z)]
    omega
theorem cyc_bd {m : Int} {a : Nat} : ∀ {xs : List Int} {o : Int} (j : Int), Bd a xs → (cyc m o xs j).natAbs ≤ xs.length * 2 ^ a
  | [], _, j, _ => by simp [cyc]
  | x :: xs, o, j, h => by
    have ih := cyc_bd (m := m) (xs := xs) (o := o + 1) j fun y hy => h y (by simp [hy])
    have h2 := h x (by simp)
    show ((if (o - j) % m = 0 then x else 0) + cyc m (o + 1) xs j).natAbs ≤ _
    rw [List.length_cons, Nat.succ_mul]
    split <;> omega
theorem sums_bd {m : Int} {a k : Nat} {xs : List Int} (h : Bd a xs) (hl : xs.length < 2 ^ k) : Bd (a + k) ((irange m).map (cyc m 0 xs)) := fun x hx => by
  obtain ⟨j, _, rfl⟩ := List.mem_map.mp hx
  have h1 := cyc_bd (m := m) (o := 0) j h
  have h2 : xs.length * 2 ^ a < 2 ^ k * 2 ^ a := Nat.mul_lt_mul_of_pos_right hl (Nat.pow_pos (by omega))
  rw [Nat.add_comm, Nat.pow_add]
  omega
theorem zeros_map {n : Int} : (List.replicate n.toNat (0 : Int)) = (irange n).map fun _ => 0 := by
  rw [List.map_const', irange_len]
theorem flat_zero (n : Nat) : (List.replicate n [(0 : Int)]).flatten = List.replicate n 0 := by
  induction n with
  | zero => rfl
  | succ n ih => rw [List.replicate_succ, List.replicate_succ, List.flatten_cons, ih]; rfl
section
variable {c : Cn} {Γ : List Sl} {ta tb te tl ty : TE} {tt tc : TT} {t u : TS} {s s' so : Sl} {α β γ : Type} {_ : Rp α} {_ : Rp β} {_ : Rp γ} {P : Po} {d : α}
theorem ev_lenI {xs : List Int} (ha : Ev c Γ ta (.im xs)) : Ev c Γ (tCB (gLen c.Z.K) (tCons ta tNil)) (.im (xs.length : Int)) := ev_len ha
theorem ev_frI {xs : List Int} (h : Ev c Γ te (.ol xs)) : Ev c Γ te (.im xs) := ev_fr h
theorem ev_zeros {n : Int} (h : Ev c Γ te (.im n)) (h0 : 0 ≤ n) (hn : n < 1000000) : Ev c Γ (tOp gMul (tLst (tCons (tC (.int 0)) tNil)) te) (.ol (List.replicate n.toNat (0 : Int))) :=
  ev_is (ev_rep (xs := [(0 : Int)]) (ev_fr (ev_lstH (evh_cons ev_int evh_nil) (by decide))) h h0 (by show 1 * n.toNat ≤ 1000000; omega) hn) (by rw [flat_zero])
/-- xs[i] = y -/
theorem w_putG {k : Nat} {xs : List α} {y : α} {i : Int} (e : Γ[k]? = some (.ol xs)) (h : Ev c Γ te (.im y)) (hi : Ev c Γ tb (.im i)) (h0 : 0 ≤ i) (h1 : i < xs.length) (kk : P.nx (Γ.set k (.ol (xs.set i.toNat y)))) : W c Γ (tAsg te (gSub (tVar k) tb gSet)) P := fun B R0 R H ρ Δ σ D S n r bb kk' x =>
  h B R0 R H ρ Δ σ S _ (fun w R1 H1 S1 => by
    obtain ⟨p, vs, h2, h3, h4, _⟩ := sx_mutl (sx_pop S1) e
    refine ⟨.ref p, h2, hi B R0 R1 H1 _ _ σ S1 _ (fun z R2 H2 S2 => ?_) x.push1⟩
    have ez : z = .int i := sx_top' S2
    obtain ⟨p', vs', h2', h3', h4', h5⟩ := sx_mutl (sx_pop (sx_pop S2)) e
    have ep : p = p' := by
      rw [h2] at h2'
      cases h2'
      rfl
    subst ep
    exact .inl ⟨p, vs', i, i.toNat, rfl, ez, h3', ixN_of h0 (by rw [Paired.length h4']; exact h1), n R2 _ _ _ (h5 _ _ (paired_set (sx_top' (sx_pop S2)) _ h4')) kk⟩) x
/-- x = xs.pop() -/
theorem w_popA {i j : Nat} {xs : List α} (e : Γ[i]? = some (.ol xs)) (h : xs ≠ []) (k : P.nx ((Γ.set i (.ol xs.dropLast)).set j (.im (xs.getLastD Rp.df)))) : W c Γ (tAsg (tBM0 c.Z.K "list" rPop (tVar i)) (gName j)) P := fun B R0 R H ρ Δ σ D S n r bb kk x => by
  obtain ⟨p, vs, h2, h3, h4, h5⟩ := sx_mutl S e
  have hl := Paired.length h4
  have hl2 : 0 < xs.length := List.length_pos_iff.mpr h
  obtain ⟨v, hv, rv⟩ := paired_get h4 (i := xs.length - 1) (b := xs.getLastD Rp.df) (by rw [List.getLastD_eq_getLast?, List.getLast?_eq_getElem?, List.getElem?_eq_getElem (by omega)]; rfl)
  refine ⟨.ref p, h2, tyL h3, p, vs, v, rfl, rfl, h3, by rw [hl]; exact hv, n R _ _ _ (sx_asg (sx_push (h5 vs.dropLast xs.dropLast ?_) rv) j) k⟩
  rw [List.dropLast_eq_take, List.dropLast_eq_take, hl]
  exact paired_take _ h4
/-- xs[i], i below nought, too -/
theorem ev_ixM {xs : List α} {i : Int} (ha : Ev c Γ ta (.im xs)) (hb : Ev c Γ tb (.im i)) (h0 : -(xs.length : Int) ≤ i) (h1 : i < xs.length) : Ev c Γ (tOp (gIx c.Z.K) ta tb) (.im (gt xs (if 0 ≤ i then i else i + xs.length))) := ev_opv ha hb fun R H v w sm rv rw => by
  obtain ⟨a, vs, rfl, ha, hp⟩ := rv
  have hl := Paired.length hp
  obtain ⟨k, hk, rk⟩ := paired_get hp (gt_some (xs := xs) (i := if 0 ≤ i then i else i + xs.length) (by split <;> omega) (by split <;> omega))
  refine ⟨k, rk, fun Q q => .inl ⟨a, vs, i, k, rfl, rw, SqL.of (sm _ _ ha), ?_, q⟩⟩
  unfold atI ixN
  by_cases c : 0 ≤ i
  · rw [if_pos c, if_pos (by omega)]
    rw [if_pos c] at hk
    exact hk
  · rw [if_neg c, if_pos (by omega)]
    rw [if_neg c] at hk
    rw [hl]
    exact hk
/-! ### wheels -/
end
structure Whl where
  ring : List Int
  spokes : Int
  size : Int
structure WhlC (Z : Zz) : Prop where
  cl : Cls Z.K (Z.cls .Wheel)
  n1 : NoAttr Z.K (Z.cls .Wheel) "ring"
  n2 : NoAttr Z.K (Z.cls .Wheel) "spokes"
  n3 : NoAttr Z.K (Z.cls .Wheel) "size"
def flW (r m z : V) : List (Str × V) := [("ring", r), ("spokes", m), ("size", z)]
instance : Rp Whl := ⟨⟨[], 0, 0⟩, fun Z H v g => WhlC Z ∧ ∃ a dx r m z, v = .ref a ∧ H a = some (.ins (Z.cls .Wheel) dx (flW r m z)) ∧ Rp.rp Z H r g.ring ∧ Rp.rp Z H m g.spokes ∧ Rp.rp Z H z g.size,
  fun e h => by
    obtain ⟨h0, a, dx, r, m, z, h1, h2, h3, h4, h5⟩ := h
    exact ⟨h0, a, dx, r, m, z, h1, e _ _ h2, Rp.mono e h3, Rp.mono e h4, Rp.mono e h5⟩⟩
theorem flW1 (r m z : V) : (flW r m z).lookup ("ring" : Str) = some r := lookup_here
theorem flW2 (r m z : V) : (flW r m z).lookup ("spokes" : Str) = some m := by
  unfold flW
  rw [lookup_at (by decide +kernel), lookup_here]
theorem flW3 (r m z : V) : (flW r m z).lookup ("size" : Str) = some z := by
  unfold flW
  rw [lookup_at (by decide +kernel), lookup_at (by decide +kernel), lookup_here]
theorem gt_setN {α : Type} [Rp α] {xs : List α} {i j : Nat} {v : α} (h : i < xs.length) : gt (xs.set i v) (j : Int) = if i = j then v else gt xs (j : Int) := by
  unfold gt
  rw [List.getD_eq_getElem?_getD, List.getD_eq_getElem?_getD, List.getElem?_set]
  by_cases c : i = j
  · subst c
    simp [h]
  · simp [c]
def whl (m : Int) : Whl := ⟨circ m, m, ((circ m).length : Int) - 1⟩
section
variable {c : Cn} {Γ : List Sl} {ta tb te tl : TE} {g : Whl}
theorem ev_ring (h : Ev c Γ te (.im g)) : Ev c Γ (tFld c.Z.K te "ring") (.im g.ring) := ev_fld h fun R v ⟨h0, a, dx, r, m, z, h1, h2, h3, h4, h5⟩ => ⟨a, _, dx, _, r, h1, h2, h0.cl, h0.n1, flW1 .., h3⟩
theorem ev_spokes (h : Ev c Γ te (.im g)) : Ev c Γ (tFld c.Z.K te "spokes") (.im g.spokes) := ev_fld h fun R v ⟨h0, a, dx, r, m, z, h1, h2, h3, h4, h5⟩ => ⟨a, _, dx, _, m, h1, h2, h0.cl, h0.n2, flW2 .., h4⟩
theorem ev_sizeW (h : Ev c Γ te (.im g)) : Ev c Γ (tFld c.Z.K te "size") (.im g.size) := ev_fld h fun R v ⟨h0, a, dx, r, m, z, h1, h2, h3, h4, h5⟩ => ⟨a, _, dx, _, z, h1, h2, h0.cl, h0.n3, flW3 .., h5⟩
theorem whl_m {o : Whl} {m : Str} (hm : m ≠ "ring" ∧ m ≠ "spokes" ∧ m ≠ "size") {Z : Zz} : ∀ R v, Rp.rp Z R v o → ∃ a dx fs, v = .ref a ∧ R a = some (.ins (Z.cls .Wheel) dx fs) ∧ fs.lookup m = none := fun R v ⟨h0, a, dx, r, m', z, h1, h2, h3, h4, h5⟩ => ⟨a, dx, _, h1, h2, by
  unfold flW
  rw [lookup_at (Ne.symm hm.1), lookup_at (Ne.symm hm.2.1), lookup_at (Ne.symm hm.2.2)]
  rfl⟩
/-- Wheel.__init__ -/
def spI_Wheel (Z : Zz) : Sp := fun vs H Q E => ∃ x dx m, vs = [.ref x, .int m] ∧ H x = some (.ins (Z.cls .Wheel) dx []) ∧ WhlC Z ∧
  (1 ≤ m ∧ m ≤ 60 → ∀ H' p, H p = none → p ≠ x → H' p = some (.lst ((circ m).map V.int)) → H' x = some (.ins (Z.cls .Wheel) dx (flW (.ref p) (.int m) (.int (((circ m).length : Int) - 1)))) → (∀ b o, H b = some o → b ≠ x → H' b = some o) → Q .non H') ∧
  (¬ (1 ≤ m ∧ m ≤ 60) → ∀ H' cls d, Same H H' → RepEx Z H H' ⟨.BadWheel, []⟩ cls d → E cls d H')
theorem sx_newW {Z : Zz} {B R0 R H H' : Hp} {ρ σ : List (Option V)} {Δ : List Sl} {x dx p : Addr} {m : Int} (hZ : WhlC Z) (S : Sx Z B R0 R H ρ Δ σ Γ) (nx : H x = none) (ndx : H dx = none) (hne : dx ≠ x) (np : H p = none) (npx : p ≠ x)
    (e1 : H' p = some (.lst ((circ m).map V.int))) (e2 : H' x = some (.ins (Z.cls .Wheel) dx (flW (.ref p) (.int m) (.int (((circ m).length : Int) - 1))))) (e3 : ∀ b o, H b = some o → H' b = some o) : ∃ R', Sx Z B R0 R' H' (some (.ref x) :: ρ) (.im (whl m) :: Δ) σ Γ := by
  have sm := sx_same S
  have rx : R x = none := sm.free nx
  have rp : R p = none := sm.free np
  refine ⟨upd (upd R p (.lst ((circ m).map V.int))) x (.ins (Z.cls .Wheel) dx (flW (.ref p) (.int m) (.int (((circ m).length : Int) - 1)))), sx_call S ⟨rfl, [], ⟨fun b o e => ?_, e3, fun b o e => ?_, fun b o e => ?_, fun p hp => by simp at hp, List.nodup_nil⟩, [], [], rfl, ⟨rfl, _, rfl, hZ, x, dx, _, _, _, rfl, upd_same, ⟨p, (circ m).map V.int, rfl, by rw [upd_ne npx, upd_same], paired_of_int _⟩, rfl, rfl⟩, rfl⟩⟩
  · by_cases h1 : b = x
    · subst h1; rw [upd_same] at e; rw [← e]; exact e2
    · rw [upd_ne h1] at e
      by_cases h2 : b = p
      · subst h2; rw [upd_same] at e; rw [← e]; exact e1
      · rw [upd_ne h2] at e; exact e3 _ _ (sm _ _ e)
  · have b1 : b ≠ x := fun z => by subst z; rw [rx] at e; cases e
    have b2 : b ≠ p := fun z => by subst z; rw [rp] at e; cases e
    rw [upd_ne b1, upd_ne b2]
    exact e
  · by_cases h1 : b = x
    · subst h1; exact .inr nx
    · rw [upd_ne h1] at e
      by_cases h2 : b = p
      · subst h2; exact .inr np
      · rw [upd_ne h2] at e; exact .inl e
theorem ev_mkWheel {m : Int} {t : TA} (hZ : WhlC c.Z) (h1 : 1 ≤ m) (h2 : m ≤ 60) (ha : EvA c Γ t [.im m]) : Ev c Γ (tMakeSD (c.Z.cls .Wheel) (spI_Wheel c.Z) [] (WE c.X) t) (.im (whl m)) := fun B R0 R H ρ Δ σ S Q q xk =>
  ha B R0 R H ρ Δ σ S _ (fun vs R1 H1 S1 sl => by
    intro x dx nx ndx hne
    cases sl with
    | cons r1 t1 =>
      cases t1
      rename_i v1
      have e : v1 = .int m := r1
      subst e
      refine ⟨x, dx, m, rfl, upd_same, hZ, fun _ H' p np npx e1 e2 e3 => ⟨rfl, ?_⟩, fun z => absurd ⟨h1, h2⟩ z⟩
      have np' : H1 p = none := by
        rw [upd_ne npx] at np
        by_cases c' : p = dx
        · rw [c']; exact ndx
        · rw [upd_ne c'] at np; exact np
      obtain ⟨R', S'⟩ := sx_newW hZ S1 nx ndx hne np' npx e1 e2 fun b o e => by
        have b1 : b ≠ x := fun z => by subst z; rw [nx] at e; cases e
        have b2 : b ≠ dx := fun z => by subst z; rw [ndx] at e; cases e
        exact e3 b o (by rw [upd_ne b1, upd_ne b2]; exact e) b1
      exact q _ R' H' S') xk
end
end TB

/-! TbU: sorted(set(xs)) of a list of ints. -/
namespace TB
open PySem PySem.Spec PyProof.Rows L2
section
variable {P : Program} {w : World} {A : Around} {E : Value → Shared → Prop} {s : Shared}
/-- the empty set, as set.__new__ lays it -/
def sob (w : World) : Obj := { cls := .type "set", dict := none, data := .set #[] 0 (.fresh 0 0 (!w.params.followText "set-order")) }
def spu (w : World) (s : Shared) : Shared := { s with heap := s.heap.push (sob w) }
set_option maxHeartbeats 4000000 in
theorem set_of_list {l : Addr} {its : Array Value} (ns : List Int) {Q : Value → Shared → Prop} (hh : A.handled = none) (hl : s.heap.IsList l its) (hi : IntsAre its.toList ns) (hb : ns.length + 1 < scanBound)
    (k : ∀ (h2 : Heap) (tk c : Nat), SetR w h2 s.heap.objs.size (fun j => decide (j ∈ ns)) c → c ≤ ns.length → (∀ b o, s.heap.get? b = some o → h2.get? b = some o) → Q (.ref s.heap.objs.size) { s with heap := h2, toks := tk }) :
    wpAny (model P w) A (call (.type "set") [.ref l]) Q E s := by
  have zs : its.size = ns.length := by
    have q := IntsAre.length hi
    rw [Array.length_toList] at q
    exact q
  have F1 := F.called_set.mro
  obtain ⟨c, tl, hmro⟩ := F1
  have hmade := F.called_set.made; have hsub := F.called_set.sub
  refine wpAny_call (codeAny_of_tree (by
    show wpAny _ _ (callAny (.type "set") _) _ _ _
    refine wpAny_pure ⟨Code.quiet_builtin _ (by decide +kernel), codeAny_builtin F.entry_type_call (by
      rw [Around.under_plain (weight_type_call_type "set" [.ref l] []) rfl]
      have h1 := F.called_set.notType; have h2 := F.called_set.canCreate; have hct := F.typeCall_set_1 (.ref l)
      repeat (any_goals (first | assumption | wp_step))
      refine codeAny_mono (code_set_led1 (.ref l) (E := E) (Q₁ := fun ob s₁ => ob = .ref s.heap.objs.size ∧ s₁ = spu w s) ⟨rfl, rfl⟩) fun r s₁ hr => ?_
      cases r with
      | error e => exact hr
      | ok fl =>
        cases fl with
        | ret ob =>
          obtain ⟨rfl, rfl⟩ := hr
          have g0 : (spu w s).heap.get? s.heap.objs.size = some (sob w) := Heap.get?_push_size _ rfl
          have ty0 : Shared.TypeIs (spu w s) (.ref s.heap.objs.size) "set" := ⟨_, g0, rfl⟩
          have hli := F.called_set.init.lookup; have hbi := F.called_set.init.bind (.ref s.heap.objs.size)
          repeat (any_goals (first | assumption | wp_step))
          refine codeAny_mono (codeAny_call_builtin (R := wants (fun r s₂ => r = .none ∧ ∃ h2 tk c, s₂ = { s with heap := h2, toks := tk } ∧ SetR w h2 s.heap.objs.size (fun j => decide (j ∈ ns)) c ∧ c ≤ ns.length ∧ (∀ b o, s.heap.get? b = some o → h2.get? b = some o)) E) F.called_set.init.plain F.entry_set_init (check_set_init_1 ty0 ?body)) fun r₂ s₂ hr₂ => ?fin
          case body =>
            obtain ⟨⟨ocl, odi, oda, osl⟩, hol, e1, nl, e2⟩ := hl
            simp only at e1 e2
            subst e1; subst e2
            have hlS : l < s.heap.objs.size := Heap.lt_size hol
            have hol' : (spu w s).heap.get? l = some { cls := .type "list", dict := odi, data := .seq its nl, slots := osl } := Heap.get?_push_of_some _ hol
            have hsls := F.sub_list_set; have hslf := F.sub_list_frozenset
            have hne : (Value.type "list" == Value.type "dict") = false := by decide
            have hl1 : (spu w s).heap.IsList l its := ⟨_, hol', rfl, nl, rfl⟩
            unfold Builtin.«set.__init__» noKeywords Builtin.Frozenset.updateFrom
            generalize hPI : pyIter = PI
            wp_walk
            subst hPI
            refine wpAny_pyIter_list hl1 (wpAny_bind (wpAny_runValue ?_))
            have hh3 : A.in1.in1.in1.handled = none := by simp [hh]
            have zp : (spu w s).heap.objs.size = s.heap.objs.size + 1 := Heap.size_push ..
            have n1 : l ≠ (spu w s).heap.objs.size := by rw [zp]; exact Nat.ne_of_lt (Nat.lt_succ_of_lt hlS)
            have n2 : s.heap.objs.size ∉ [(spu w s).heap.objs.size, l] := by
              rw [zp]; simp only [List.mem_cons, List.not_mem_nil, or_false, not_or]; exact ⟨Nat.ne_of_lt (Nat.lt_succ_self _), Nat.ne_of_gt hlS⟩
            have vals : ∀ (i : Nat) (v : Value), its[i]? = some v → ∃ k t, ns[i]? = some k ∧ v = .int k t := fun i v hv => by
              have hlt : i < ns.length := by rw [← zs]; exact (Array.getElem?_eq_some_iff.mp hv).1
              obtain ⟨t, e⟩ := PyProof.Rows.IntsAre.int_at hi i v (by rw [Array.getElem?_toList]; exact hv)
              exact ⟨ns[i], t, List.getElem?_eq_getElem hlt, by rw [e, List.getD_eq_getElem?_getD, List.getElem?_eq_getElem hlt] <;> rfl⟩
            refine set_update_ints ((Walks.list hh3 _ l n1 its).toS) s.heap.objs.size n2 ns zs hb vals (its.size - 0) 0 _ (by omega) (Nat.zero_le _) ⟨⟨_, Heap.get?_push_size _ rfl, rfl, rfl⟩, (hl1.push _)⟩ ⟨0, Nat.le_refl 0, setR_new_at (Heap.get?_push_of_some _ g0)⟩ ?_
            intro s3 c3 hm hc3 hS3
            obtain ⟨h3, g3, d3, tk3, os3⟩ := s3
            obtain rfl : g3 = s.gens := hm.gens
            obtain rfl : d3 = s.drawn := hm.drawn
            obtain rfl : os3 = s.os := hm.os
            show wpAny _ _ _ _ _ _
            refine wpAny_pure ?_
            show wpAny _ _ (ret Value.none) _ _ _
            refine wpAny_pure ⟨rfl, h3, tk3, c3, rfl, hS3, zs ▸ hc3, fun b o e => ?_⟩
            have b0 := Heap.lt_size e
            refine hm.heap b o ?_ (Heap.get?_push_of_some _ (Heap.get?_push_of_some _ e))
            rw [zp]; simp only [List.mem_cons, List.not_mem_nil, or_false, not_or]; exact ⟨Nat.ne_of_lt b0, Nat.ne_of_lt (Nat.lt_succ_of_lt b0)⟩
          case fin =>
            cases r₂ with
            | error e => exact hr₂
            | ok f2 =>
              cases f2 with
              | ret r =>
                obtain ⟨rfl, h3, tk, c3, rfl, hS3, hc3, hk3⟩ := hr₂
                repeat (any_goals (first | assumption | wp_step))
                exact k _ _ _ hS3 hc3 hk3
              | _ => exact hr₂.elim
        | _ => exact hr.elim)⟩))
end
section
variable {X : Cx} {a : Expr} {ta : TE} {p p2 q pos : Pos}
/-- sorted(set(xs)) -/
def tSortedSet (K : PySem.W.Frag) (ta : TE) : TE := fun σ H Q => ta σ H fun x H1 => ∃ (l : Addr) (ns : List Int), x = V.ref l ∧ SqL K H1 l (ns.map V.int) ∧ ns.length < 64 ∧
  ∀ (out : List Int) (r : Addr), out.Pairwise (· < ·) → (∀ k : Int, k ∈ out ↔ k ∈ ns) → H1 r = none → Q (.ref r) (upd H1 r (.lst (out.map V.int)))
theorem pe_sortedSet (hc : X.calm = true) (hg : Gl X "sorted") (hm : X.mg "sorted" = none) (hg2 : Gl X "set") (hm2 : X.mg "set" = none) (ha : PE X a ta)
    (na : starEach [a] X.env = (false, eval a X.env) :: starEach [] X.env := by rfl) (nb : starEach [.Call (.Name "set" p2) [a] [] q] X.env = (false, eval (.Call (.Name "set" p2) [a] [] q) X.env) :: starEach [] X.env := by rfl) :
    PE X (.Call (.Name "sorted" p) [.Call (.Name "set" p2) [a] [] q] [] pos) (tSortedSet X.K ta) :=
  ⟨fun pins s σ H Q I h => Call_ (ld_blt I hg hm boot_sorted (PyProof.Rows.callWith_builtin1 (PyProof.Rows.args_cons (Call_ (ld_blt I hg2 hm2 boot_set (PyProof.Rows.callWith_type1 (PyProof.Rows.args_cons (thn (ha.run pins s σ H _ I h) fun v s1 ⟨x, H1, I1, r1, q1⟩ => PyProof.Rows.args_nil (by
    obtain ⟨l, ns, rfl, hq, h64, q1⟩ := q1
    cases r1
    obtain ⟨its, r, pl, hz⟩ := I1.list hq
    refine set_of_list ns (I1.ok.hd hc) pl.isList (by simpa using r.ints) (by unfold scanBound; omega) fun h2 tk c hR hcl hk => ?_
    have I2 : Inv X pins σ H1 { s1 with heap := h2, toks := tk } := I1.kept fun b o e => hk b o e
    refine PyProof.Rows.args_nil ?_
    have hR : SetR X.w ({ s1 with heap := h2, toks := tk } : Shared).heap s1.heap.objs.size (fun j => decide (j ∈ ns)) c := hR
    generalize ({ s1 with heap := h2, toks := tk } : Shared) = s0 at hR I2 ⊢
    refine sorted_set hR (I2.ok.hd hc) (by omega) fun s3 r3 out c3 ms k3 g3 o3 hp3 hg3 hi3 hs3 hm3 hl3 => ?_
    have hn : H1 r3 = none := I2.hok.fresh hp3
    have hlen : (ms.map V.int).length ≤ sizeLine := by rw [List.length_map, hl3, sizeLine_eq]; omega
    have J : Inv X pins σ (upd H1 r3 (.lst (ms.map V.int))) { s0 with heap := s3.heap, gens := s3.gens, drawn := s3.drawn, toks := s3.toks } :=
      I2.call (ch := []) (Un.laid k3 hp3 hn) (I2.hok.laid k3 hp3 ⟨hlen, out.toList, c3, vals_of_ints hi3, hg3⟩) (by rw [g3]; exact I2.bare) (fun _ z => nomatch z)
    have e : s3 = { s0 with heap := s3.heap, gens := s3.gens, drawn := s3.drawn, toks := s3.toks } := by
      cases s3
      cases s0
      cases o3
      rfl
    rw [e]
    exact ⟨.ref r3, _, J, rfl, q1 ms r3 hs3 (fun k => (hm3 k).trans (by simp)) hn⟩)) na) na rfl))) nb) nb rfl))⟩
end
end TB

/-! TbD: dicts, membership, own lists walked, own lists put into own lists. -/
namespace TB
open PySem L2
/-! ### dicts by int keys -/
def dget {α : Type} (kvs : List (Int × α)) (k : Int) : Option α := (kvs.find? fun p => decide (p.1 = k)).map (·.2)
def dput {α : Type} (kvs : List (Int × α)) (k : Int) (v : α) : List (Int × α) := if (kvs.any fun p => decide (p.1 = k)) = true then kvs.map (fun p => if p.1 = k then (p.1, v) else p) else kvs ++ [(k, v)]
theorem dget_nil {α : Type} {k : Int} : dget ([] : List (Int × α)) k = none := rfl
theorem dget_any {α : Type} : ∀ (kvs : List (Int × α)) (k : Int), (kvs.any fun p => decide (p.1 = k)) = (dget kvs k).isSome
  | [], k => rfl
  | p :: r, k => by
    have ih := dget_any r k
    unfold dget at ih ⊢
    rw [List.any_cons, List.find?_cons]
    by_cases c : p.1 = k
    · simp [c]
    · simp only [decide_eq_false c, Bool.false_or]
      exact ih
theorem dget_map {α : Type} (k : Int) (v : α) (x : Int) : ∀ kvs : List (Int × α), dget (kvs.map fun p => if p.1 = k then (p.1, v) else p) x = if x = k then (dget kvs k).map (fun _ => v) else dget kvs x
  | [] => by unfold dget; simp
  | p :: r => by
    have ih := dget_map k v x r
    unfold dget at ih ⊢
    rw [List.map_cons, List.find?_cons, List.find?_cons, List.find?_cons]
    by_cases c : p.1 = k
    · rw [if_pos c]
      by_cases c2 : x = k
      · subst c2
        simp [c]
      · have : ¬ p.1 = x := fun z => c2 (z ▸ c)
        simp only [decide_eq_false this, if_neg c2] at ih ⊢
        exact ih
    · rw [if_neg c]
      by_cases c3 : p.1 = x
      · have : ¬ x = k := fun z => c (c3.trans z)
        simp [c3, this]
      · simp only [decide_eq_false c3, decide_eq_false c] at ih ⊢
        exact ih
theorem dget_put {α : Type} (kvs : List (Int × α)) (k : Int) (v : α) (x : Int) : dget (dput kvs k v) x = if x = k then some v else dget kvs x := by
  unfold dput
  have h := dget_any kvs k
  by_cases c : (kvs.any fun p => decide (p.1 = k)) = true
  · rw [if_pos c, dget_map]
    rw [c] at h
    by_cases c2 : x = k
    · rw [if_pos c2, if_pos c2]
      cases e : dget kvs k with
      | none => rw [e] at h; cases h
      | some y => rfl
    · rw [if_neg c2, if_neg c2]
  · rw [if_neg c]
    have h2 : dget kvs k = none := by
      cases e : dget kvs k with
      | none => rfl
      | some y => rw [e] at h; exact absurd h c
    unfold dget at h2 ⊢
    rw [List.find?_append]
    by_cases c2 : x = k
    · subst c2
      have h3 : kvs.find? (fun p => decide (p.1 = x)) = none := by simpa using h2
      rw [h3]
      simp
    · rw [if_neg c2]
      have : ([(k, v)] : List (Int × α)).find? (fun p => decide (p.1 = x)) = none := by
        have c3 : ¬ k = x := fun z => c2 z.symm
        simp [c3]
      rw [this, Option.or_none]
theorem dput_len {α : Type} (kvs : List (Int × α)) (k : Int) (v : α) : (dput kvs k v).length ≤ kvs.length + 1 := by
  unfold dput
  split
  · rw [List.length_map]; omega
  · simp
section
variable {Z : Zz} {R : Hp} {α : Type} {_ : Rp α}
theorem kv_any {k : Int} : ∀ {kv : List (Key × V)} {kvs : List (Int × α)}, Paired (kvOk Z R) kv kvs → (kv.any fun p => decide (p.1 = (Sum.inl k : Key))) = kvs.any fun p => decide (p.1 = k)
  | _, _, .nil => rfl
  | _, _, .cons (a := a) (b := b) r t => by
    rw [List.any_cons, List.any_cons, kv_any t, r.1]
    congr 1
    by_cases c : b.1 = k
    · simp [c]
    · have : ¬ (Sum.inl b.1 : Key) = Sum.inl k := fun z => c (Sum.inl.inj z)
      simp [c]
theorem kv_put {k : Int} {w : V} {v : α} (hw : Rp.rp Z R w v) {kv : List (Key × V)} {kvs : List (Int × α)} (h : Paired (kvOk Z R) kv kvs) : Paired (kvOk Z R) (putK kv (Sum.inl k) w) (dput kvs k v) := by
  unfold putK dput
  rw [kv_any h]
  by_cases c : (kvs.any fun p => decide (p.1 = k)) = true
  · rw [if_pos c, if_pos c]
    clear c
    induction h with
    | nil => exact .nil
    | @cons a b kv kvs r t ih =>
      refine .cons ?_ ih
      show kvOk Z R (if a.1 = Sum.inl k then (a.1, w) else a) (if b.1 = k then (b.1, v) else b)
      rw [r.1]
      by_cases c : b.1 = k
      · rw [if_pos (by rw [c]), if_pos c]
        exact ⟨rfl, hw⟩
      · rw [if_neg (fun z => c (Sum.inl.inj z)), if_neg c]
        exact r
  · rw [if_neg c, if_neg c]
    exact paired_append h (.cons ⟨rfl, hw⟩ .nil)
theorem dget_neg {β : Type} {b : Int × β} {r : List (Int × β)} {k : Int} (c : ¬ b.1 = k) : dget (b :: r) k = dget r k := by
  unfold dget
  rw [List.find?_cons]
  simp only [decide_eq_false c]
theorem kv_get {k : Int} : ∀ {kv : List (Key × V)} {kvs : List (Int × α)}, Paired (kvOk Z R) kv kvs → (valV kv (Sum.inl k) = none ∧ dget kvs k = none) ∨ ∃ w v, valV kv (Sum.inl k) = some w ∧ dget kvs k = some v ∧ Rp.rp Z R w v
  | _, _, .nil => .inl ⟨rfl, rfl⟩
  | _, _, .cons (a := a) (b := b) r t => by
    by_cases c : b.1 = k
    · refine .inr ⟨a.2, b.2, valV_pos (by rw [r.1, c]), ?_, r.2⟩
      unfold dget
      simp [c]
    · rw [valV_neg (fun z => c (Sum.inl.inj (r.1.symm.trans z)))]
      rw [dget_neg c]
      exact kv_get t
end
section
variable {c : Cn} {Γ : List Sl} {ta tb te tl ty : TE} {tt tc : TT} {t u : TS} {s s' so : Sl} {α β γ : Type} {_ : Rp α} {_ : Rp β} {_ : Rp γ} {P : Po} {d : α}
/-- d[k] = v -/
theorem w_dset {i : Nat} {kvs : List (Int × α)} {k : Int} {v : α} (e : Γ[i]? = some (.od kvs)) (h : Ev c Γ te (.im v)) (hk : Ev c Γ tb (.im k)) (hl : kvs.length < 1000000) (kk : P.nx (Γ.set i (.od (dput kvs k v)))) : W c Γ (tAsg te (gSub (tVar i) tb gSet)) P := fun B R0 R H ρ Δ σ D S n r bb kk' x =>
  h B R0 R H ρ Δ σ S _ (fun w R1 H1 S1 => by
    obtain ⟨p, kv, h2, _⟩ := sx_mutd (sx_pop S1) e
    refine ⟨.ref p, h2, hk B R0 R1 H1 _ _ σ S1 _ (fun z R2 H2 S2 => ?_) x.push1⟩
    have ez : z = .int k := sx_top' S2
    subst ez
    obtain ⟨p', kv', h2', h3, h4, h5⟩ := sx_mutd (sx_pop (sx_pop S2)) e
    rw [h2] at h2'
    cases h2'
    have hl' := Paired.length h4
    exact .inr ⟨p, _, rfl, DPut.k (k := Sum.inl k) h3 (Nat.lt_of_lt_of_le (by omega : kv'.length < 1000000) (by decide)), n R2 _ _ _ (h5 _ _ (kv_put (sx_top' (sx_pop S2)) h4)) kk⟩) x
/-- k in d -/
theorem ev_inD {i : Nat} {kvs : List (Int × α)} {k : Int} (e : Γ[i]? = some (.od kvs)) (hk : Ev c Γ ta (.im k)) : Ev c Γ (tOp (gIn c.Z.K) ta (tVar i)) (.im (dget kvs k).isSome) := fun B R0 R H ρ Δ σ S Q q x =>
  hk B R0 R H ρ Δ σ S _ (fun z R1 H1 S1 => by
    have ez : z = .int k := sx_top' S1
    subst ez
    obtain ⟨p, kv, h2, h3, h4, _⟩ := sx_mutd (sx_pop S1) e
    refine ⟨.ref p, h2, .inr ⟨p, _, rfl, DGet.k (k := Sum.inl k) h3, ?_⟩⟩
    rcases kv_get (k := k) h4 with ⟨g1, g2⟩ | ⟨w, v, g1, g2, _⟩
    · rw [g1]; exact q _ R1 H1 (sx_push (sx_pop S1) (by rw [g2]; rfl))
    · rw [g1]; exact q _ R1 H1 (sx_push (sx_pop S1) (by rw [g2]; rfl))) x
theorem ev_notInD {i : Nat} {kvs : List (Int × α)} {k : Int} (e : Γ[i]? = some (.od kvs)) (hk : Ev c Γ ta (.im k)) : Ev c Γ (tOp (gNotIn c.Z.K) ta (tVar i)) (.im (!(dget kvs k).isSome)) := fun B R0 R H ρ Δ σ S Q q x =>
  hk B R0 R H ρ Δ σ S _ (fun z R1 H1 S1 => by
    have ez : z = .int k := sx_top' S1
    subst ez
    obtain ⟨p, kv, h2, h3, h4, _⟩ := sx_mutd (sx_pop S1) e
    refine ⟨.ref p, h2, .inr ⟨p, _, rfl, DGet.k (k := Sum.inl k) h3, ?_⟩⟩
    rcases kv_get (k := k) h4 with ⟨g1, g2⟩ | ⟨w, v, g1, g2, _⟩
    · rw [g1]; exact q _ R1 H1 (sx_push (sx_pop S1) (by rw [g2]; rfl))
    · rw [g1]; exact q _ R1 H1 (sx_push (sx_pop S1) (by rw [g2]; rfl))) x
/-- d[k], a datum -/
theorem ev_ixD {i : Nat} {kvs : List (Int × α)} {k : Int} {v : α} (e : Γ[i]? = some (.od kvs)) (hk : Ev c Γ tb (.im k)) (hv : dget kvs k = some v) : Ev c Γ (tOp (gIx c.Z.K) (tVar i) tb) (.im v) := fun B R0 R H ρ Δ σ S Q q x => by
  obtain ⟨p, kv, h2, _⟩ := sx_mutd S e
  refine ⟨.ref p, h2, hk B R0 R H ρ Δ σ S _ (fun z R1 H1 S1 => ?_) x⟩
  have ez : z = .int k := sx_top' S1
  subst ez
  obtain ⟨p', kv', h2', h3, h4, _⟩ := sx_mutd (sx_pop S1) e
  rw [h2] at h2'
  cases h2'
  rcases kv_get (k := k) h4 with ⟨g1, g2⟩ | ⟨w, v', g1, g2, g3⟩
  · rw [g2] at hv; cases hv
  · rw [g2] at hv
    cases hv
    exact .inr (.inr ⟨p, w, rfl, by rw [← g1]; exact DGet.k (k := Sum.inl k) h3, q w R1 H1 (sx_push (sx_pop S1) g3)⟩)
end
/-! ### membership in lists of ints -/
theorem inV_int {x : Int} {xs : List Int} : inV (.int x) (xs.map V.int) = decide (x ∈ xs) := by
  induction xs with
  | nil => rfl
  | cons y r ih =>
    unfold inV at ih ⊢
    rw [List.map_cons, List.any_cons, ih]
    by_cases c : x = y
    · subst c; simp [eqV]
    · have : ¬ y = x := fun z => c z.symm
      simp [eqV, c, this]
theorem flat_ints (xs : List Int) : (xs.map V.int).all flatV = true := by
  rw [List.all_eq_true]
  intro v hv
  obtain ⟨i, _, rfl⟩ := List.mem_map.mp hv
  rfl
section
variable {c : Cn} {Γ : List Sl} {ta tb te tl ty : TE} {tt tc : TT} {t u : TS} {s s' so : Sl} {α β γ : Type} {_ : Rp α} {_ : Rp β} {_ : Rp γ} {P : Po} {d : α}
theorem ev_inL {x : Int} {xs : List Int} (ha : Ev c Γ ta (.im x)) (hb : Ev c Γ tb (.im xs)) : Ev c Γ (tOp (gIn c.Z.K) ta tb) (.im (decide (x ∈ xs))) := ev_opv ha hb fun R H v w sm rv rw => by
  have rv' : v = .int x := rv
  subst rv'
  obtain ⟨a, vs, rfl, h2, h3⟩ := rw
  have := paired_map_int h3
  subst this
  exact ⟨.bl _, rfl, fun Q q => .inl ⟨a, _, rfl, .inl (SqL.of (sm _ _ h2)), rfl, flat_ints xs, by rw [inV_int]; exact q⟩⟩
theorem ev_notInL {x : Int} {xs : List Int} (ha : Ev c Γ ta (.im x)) (hb : Ev c Γ tb (.im xs)) : Ev c Γ (tOp (gNotIn c.Z.K) ta tb) (.im (!decide (x ∈ xs))) := ev_opv ha hb fun R H v w sm rv rw => by
  have rv' : v = .int x := rv
  subst rv'
  obtain ⟨a, vs, rfl, h2, h3⟩ := rw
  have := paired_map_int h3
  subst this
  exact ⟨.bl _, rfl, fun Q q => .inl ⟨a, _, rfl, .inl (SqL.of (sm _ _ h2)), rfl, flat_ints xs, by rw [if_pos rfl, inV_int]; exact q⟩⟩
theorem ev_inO {x : Int} {xs : List Int} {i : Nat} (ha : Ev c Γ ta (.im x)) (e : Γ[i]? = some (.ol xs)) : Ev c Γ (tOp (gIn c.Z.K) ta (tVar i)) (.im (decide (x ∈ xs))) := ev_opR ha lnd_ol e fun R H v w sm rv rw => by
  have rv' : v = .int x := rv
  subst rv'
  obtain ⟨a, vs, rfl, h2, h3⟩ := rw
  have := paired_map_int h3
  subst this
  exact ⟨.bl _, fun _ => rfl, fun Q q => .inl ⟨a, _, rfl, .inl (SqL.of (sm _ _ h2)), rfl, flat_ints xs, by rw [inV_int]; exact q⟩⟩
theorem ev_notInO {x : Int} {xs : List Int} {i : Nat} (ha : Ev c Γ ta (.im x)) (e : Γ[i]? = some (.ol xs)) : Ev c Γ (tOp (gNotIn c.Z.K) ta (tVar i)) (.im (!decide (x ∈ xs))) := ev_opR ha lnd_ol e fun R H v w sm rv rw => by
  have rv' : v = .int x := rv
  subst rv'
  obtain ⟨a, vs, rfl, h2, h3⟩ := rw
  have := paired_map_int h3
  subst this
  exact ⟨.bl _, fun _ => rfl, fun Q q => .inl ⟨a, _, rfl, .inl (SqL.of (sm _ _ h2)), rfl, flat_ints xs, by rw [if_pos rfl, inV_int]; exact q⟩⟩
/-! ### sorted(set(xs)) -/
end
def sins (x : Int) : List Int → List Int
  | [] => [x]
  | y :: r => if x < y then x :: y :: r else if x = y then y :: r else y :: sins x r
/-- the things of a list, each once, rising -/
def uset (xs : List Int) : List Int := xs.foldr sins []
def Inc (xs : List Int) : Prop := xs.Pairwise (· < ·)
theorem mem_sins {x z : Int} : ∀ {l : List Int}, z ∈ sins x l ↔ z = x ∨ z ∈ l
  | [] => by simp [sins]
  | y :: r => by
    unfold sins
    split
    · simp
    · split
      · rename_i h; subst h; simp
      · rw [List.mem_cons, mem_sins, List.mem_cons]
        constructor
        · rintro (h | h | h)
          · exact .inr (.inl h)
          · exact .inl h
          · exact .inr (.inr h)
        · rintro (h | h | h)
          · exact .inr (.inl h)
          · exact .inl h
          · exact .inr (.inr h)
theorem inc_sins {x : Int} : ∀ {l : List Int}, Inc l → Inc (sins x l)
  | [], _ => List.pairwise_singleton _ _
  | y :: r, h => by
    obtain ⟨h1, h2⟩ := List.pairwise_cons.mp h
    unfold sins
    split
    · rename_i c
      refine List.pairwise_cons.mpr ⟨fun z hz => ?_, h⟩
      rcases List.mem_cons.mp hz with rfl | hz
      · exact c
      · exact Int.lt_trans c (h1 z hz)
    · split
      · exact h
      · rename_i c1 c2
        refine List.pairwise_cons.mpr ⟨fun z hz => ?_, inc_sins h2⟩
        rcases mem_sins.mp hz with rfl | hz
        · omega
        · exact h1 z hz
theorem mem_uset {z : Int} {xs : List Int} : z ∈ uset xs ↔ z ∈ xs := by
  unfold uset
  induction xs with
  | nil => simp
  | cons x r ih => rw [List.foldr_cons, mem_sins, ih, List.mem_cons]
theorem inc_uset (xs : List Int) : Inc (uset xs) := by
  unfold uset
  induction xs with
  | nil => exact .nil
  | cons x r ih => exact inc_sins ih
theorem inc_one : ∀ {a b : List Int}, Inc a → Inc b → (∀ z, z ∈ a ↔ z ∈ b) → a = b
  | [], [], _, _, _ => rfl
  | [], y :: b, _, _, h => by have := (h y).mpr (by simp); simp at this
  | x :: a, [], _, _, h => by have := (h x).mp (by simp); simp at this
  | x :: a, y :: b, ha, hb, h => by
    obtain ⟨a1, a2⟩ := List.pairwise_cons.mp ha
    obtain ⟨b1, b2⟩ := List.pairwise_cons.mp hb
    have e : x = y := by
      rcases List.mem_cons.mp ((h x).mp (by simp)) with q | q
      · exact q
      · rcases List.mem_cons.mp ((h y).mpr (by simp)) with q2 | q2
        · exact q2.symm
        · have := a1 y q2; have := b1 x q; omega
    subst e
    congr 1
    refine inc_one a2 b2 fun z => ?_
    have hz := h z
    rw [List.mem_cons, List.mem_cons] at hz
    constructor
    · intro q
      rcases hz.mp (.inr q) with r | r
      · have := a1 z q; omega
      · exact r
    · intro q
      rcases hz.mpr (.inr q) with r | r
      · have := b1 z q; omega
      · exact r
theorem inc_nodup {xs : List Int} (h : Inc xs) : xs.Nodup := List.Pairwise.imp (fun h => by omega) h
theorem inc_irange (n : Int) : Inc (irange n) := by
  unfold Inc irange
  rw [List.pairwise_map]
  exact (List.pairwise_lt_range).imp fun h => by omega
theorem isort_perm (xs : List Int) : (isort xs).Perm xs := List.mergeSort_perm _ _
theorem isort_sorted (xs : List Int) : (isort xs).Pairwise (· ≤ ·) := by
  have := List.pairwise_mergeSort (le := fun x y : Int => decide (x ≤ y)) (fun a b c h1 h2 => by simp at *; omega) (fun a b => by simp; omega) xs
  exact this.imp fun h => by simpa using h
theorem isort_inc {xs : List Int} (h : xs.Nodup) : Inc (isort xs) := by
  have h1 := isort_sorted xs
  have h2 : (isort xs).Nodup := (isort_perm xs).nodup_iff.mpr h
  exact (h1.and h2).imp fun ⟨a, b⟩ => by omega
theorem isort_eq {xs ys : List Int} (h : xs.Nodup) (hy : Inc ys) (e : ∀ z, z ∈ xs ↔ z ∈ ys) : isort xs = ys := inc_one (isort_inc h) hy fun z => ((isort_perm xs).mem_iff).trans (e z)
section
variable {c : Cn} {Γ : List Sl} {ta tb te tl ty : TE} {tt tc : TT} {t u : TS} {s s' so : Sl} {α β γ : Type} {_ : Rp α} {_ : Rp β} {_ : Rp γ} {P : Po} {d : α}
theorem ev_uset {xs : List Int} (ha : Ev c Γ ta (.im xs)) (hl : xs.length < 64) : Ev c Γ (tSortedSet c.Z.K ta) (.ol (uset xs)) := fun B R0 R H ρ Δ σ S Q q xk => ha B R0 R H ρ Δ σ S _ (fun v R1 H1 S1 => by
  obtain ⟨a, vs, rfl, h2, h3⟩ := id (sx_top' S1)
  have := paired_map_int h3
  subst this
  refine ⟨a, xs, rfl, SqL.of (sx_same S1 _ _ h2), hl, fun out r pw hm nr => ?_⟩
  have e : out = uset xs := inc_one pw (inc_uset xs) fun z => (hm z).trans mem_uset.symm
  subst e
  exact q _ R1 _ (sx_newl (sx_pop S1) nr (paired_of_int _))) xk
/-! ### own lists put into own lists -/
theorem sx_swapTop' {Z : Zz} {B R0 R H : Hp} {ρ : List (Option V)} {Δ : List Sl} {σ : List (Option V)} {o o' : Option V} {s s' : Sl} (S : Sx Z B R0 R H (o :: o' :: ρ) (s :: s' :: Δ) σ Γ) : Sx Z B R0 R H (o' :: o :: ρ) (s' :: s :: Δ) σ Γ := sx_swapTop S
theorem ev_nil2 {δ : Type} [Rp δ] : Ev c Γ (tLst tNil) (.o2 ([] : List (List δ))) := ev_subS (fun Z R H o f nd h => by
  obtain ⟨p, vs, rfl, rfl, h3, h4⟩ := h
  cases h4
  exact ⟨[p], nd, fun _ h => h, p, [], rfl, rfl, h3, .nil⟩) (ev_nil (δ := List δ))
/-- xss.append(own list of slot j) -/
theorem w_app2V {i j : Nat} {xs : List α} {xss : List (List α)} (hij : i ≠ j) (e : Γ[i]? = some (.o2 xss)) (e2 : Γ[j]? = some (.ol xs)) (hl : xss.length < 1000000) (k : P.nx ((Γ.set j .un).set i (.o2 (xss ++ [xs])))) : W c Γ (tDrop (tBM c.Z.K "list" rAppend (tVar i) (tCons (tVar j) tNil))) P := fun B R0 R H ρ Δ σ D S n r bb kk x => by
  obtain ⟨o1, h1, S1⟩ := sx_take S (i := i) e
  obtain ⟨o2, h2, S2⟩ := sx_take S1 (i := j) (by rw [List.getElem?_set_ne hij]; exact e2)
  obtain ⟨o1', f, g1, g2⟩ := sx_slot S e
  obtain ⟨o2', f2, g3, g4⟩ := sx_slot S e2
  obtain ⟨p, qs, _, eo, hp, _⟩ := g2
  obtain ⟨p2, vs2, _, eo2, hp2, _⟩ := g4
  rw [h1] at g1
  rw [h2] at g3
  cases g1
  cases g3
  subst eo eo2
  obtain ⟨vs, a1, a2, S3⟩ := sx_app2 S2
  rw [hp] at a1
  cases a1
  refine ⟨.ref p, h1, tyL hp, .ref p2, h2, p, _, .ref p2, rfl, rfl, hp, Nat.lt_of_lt_of_le (by omega : (qs.map V.ref).length < 1000000) (by decide), ?_⟩
  have S4 := sx_asg S3 i
  rw [set_same h1] at S4
  refine n R _ σ _ S4 ?_
  have : ((Γ.set i .un).set j .un).set i (.o2 (xss ++ [xs])) = (Γ.set j .un).set i (.o2 (xss ++ [xs])) := by
    rw [List.set_comm _ _ hij, List.set_set]
  rw [this]
  exact k
/-- xss.append(a new list) -/
theorem w_app2T {i : Nat} {xs : List α} {xss : List (List α)} (e : Γ[i]? = some (.o2 xss)) (h : Ev c Γ te (.ol xs)) (hl : xss.length < 1000000) (k : P.nx (Γ.set i (.o2 (xss ++ [xs])))) : W c Γ (tDrop (tBM c.Z.K "list" rAppend (tVar i) (tCons te tNil))) P := fun B R0 R H ρ Δ σ D S n r bb kk x => by
  obtain ⟨o1, f, g1, p, qs, _, eo, hp, _⟩ := sx_slot S e
  subst eo
  refine ⟨.ref p, g1, tyL hp, h B R0 R H ρ Δ σ S _ (fun w R1 H1 S1 => ?_) x⟩
  obtain ⟨o1', h1, S2⟩ := sx_take S1 (i := i) e
  rw [g1] at h1
  cases h1
  obtain ⟨vs, a1, a2, S3⟩ := sx_app2 (sx_swapTop' S2)
  have S4 := sx_asg S3 i
  rw [set_same g1, List.set_set] at S4
  exact ⟨p, vs, w, rfl, rfl, a1, Nat.lt_of_lt_of_le (by omega : vs.length < 1000000) (by decide), n R1 _ _ _ S4 k⟩
/-- over an own list, which stays -/
theorem w_forO {i j : Nat} {xs : List α} (I : Sl → Nat → List Sl → Prop) (e : Γ[i]? = some (.ol xs)) (h0 : ∀ s, I s 0 (Γ.set i s)) (hs : ∀ s k G (hk : k < xs.length), I s k G → W c (G.set j (.im xs[k])) t ⟨I s (k + 1), P.rt, fun _ => False, I s (k + 1)⟩)
    (hd : ∀ s G, I s xs.length G → G[i]? = some s ∧ P.nx (G.set i (.ol xs))) : W c Γ (tFor (iList c.Z.K (tVar i)) (gName j) t) P := fun B R0 R H ρ Δ σ D S n r bb kk x => by
  obtain ⟨o, h1, S1⟩ := sx_take S e
  obtain ⟨o', f, g1, p, vs0, _, eo, hp, _⟩ := sx_slot S e
  rw [h1] at g1
  cases g1
  subst eo
  -- the slot keeps the very value
  have At : ∃ s : Sl, (∀ Z R H o f, slok Z R H o s f → o = some (.ref p)) ∧ ∀ Z R H, slok Z R H (some (.ref p)) s [] :=
    ⟨.ow ⟨fun _ _ _ w => w = .ref p, fun _ h => h⟩, fun Z R H o f ⟨w, a, b, _⟩ => by rw [a, b], fun Z R H => ⟨_, rfl, rfl, fun q hq => by simp at hq⟩⟩
  obtain ⟨s, s1, s2⟩ := At
  have S2 : Sx c.Z B R0 R H (some (.ref p) :: ρ) (.ol xs :: Δ) σ (Γ.set i s) := by
    obtain ⟨hl, own, hs', es⟩ := S1
    have e' : (.ol xs :: Δ ++ Γ.set i .un)[(some (V.ref p) :: ρ).length + i]? = some .un := by
      rw [at_slot hl]
      rw [List.getElem?_set_self]
      exact (List.getElem?_eq_some_iff.mp e).1
    obtain ⟨o2, a1, f2, a2, b1, b2, b3, b4⟩ := es_at es e'
    rw [at_slot', h1] at b1
    cases b1
    have b3' : f2 = [] := b3
    subst b3'
    have q := b4 R H (some (.ref p)) s [] (Same.refl _) (fun _ _ => rfl) (s2 _ _ _)
    rw [set_same (by rw [at_slot']; exact h1), hl, List.set_append_right _ _ (by omega), show (Sl.ol xs :: Δ).length + i - (Sl.ol xs :: Δ).length = i by omega, List.set_set] at q
    exact ⟨hl, own, hs', by rw [b2]; exact q⟩
  refine ⟨.ref p, h1, p, rfl, ⟨vs0, SqL.of hp⟩, ?_⟩
  refine ⟨fun k m σ1 H1 => m = xs.length - k ∧ k ≤ xs.length ∧ ∃ R1 G, Sx c.Z B R0 R1 H1 (some (.ref p) :: ρ) (.ol xs :: Δ) σ1 G ∧ I s k G, ⟨xs.length, by simp, Nat.zero_le _, R, _, S2, h0 s⟩, ?_⟩
  rintro k m σ1 H1 ⟨rfl, hk, R1, G, S3, hI⟩
  obtain ⟨p', vs, e1, g2, g3, _⟩ := sx_mutTop S3
  cases e1
  have hl := Paired.length g3
  by_cases hlt : k < xs.length
  · obtain ⟨w, hw, rw'⟩ := paired_get g3 (i := k) (b := xs[k]) (List.getElem?_eq_getElem hlt)
    refine .inr ⟨⟨vs, w, SqL.of g2, hw⟩, fun σ' H' => ∃ R1 G, Sx c.Z B R0 R1 H' (some (.ref p) :: ρ) (.ol xs :: Δ) σ' G ∧ I s (k + 1) G, fun σ' H' h => ⟨xs.length - (k + 1), by omega, rfl, hlt, h⟩, ?_⟩
    rintro y H' ⟨rfl, hy⟩
    have := hy vs (SqL.of g2)
    rw [hw] at this
    cases this
    exact hs s k G hlt hI B R0 R1 H' _ _ _ _ (sx_asg (sx_push S3 rw') j) (fun R4 H4 σ4 Γ4 S4 q => ⟨R4, Γ4, S4, q⟩) (fun R4 H4 v s' S4 q => r R4 H4 v s' (sx_pop2 S4) q) (fun _ _ _ _ _ z => z.elim) (fun R4 H4 σ4 Γ4 S4 q => ⟨R4, Γ4, S4, q⟩) x.push1
  · have ek : k = xs.length := by omega
    subst ek
    obtain ⟨q1, q2⟩ := hd s G hI
    have S4 := sx_asg S3 i
    obtain ⟨o2, f2, q3, q4⟩ := sx_slot S3 q1
    rw [s1 _ _ _ _ _ q4] at q3
    rw [set_same q3] at S4
    exact .inl ⟨⟨vs, SqL.of g2, by omega⟩, n R1 H1 σ1 _ S4 q2⟩
end
end TB
namespace TB
open PySem L2
section
variable {c : Cn} {Γ : List Sl} {ta tb te tl ty : TE} {tt tc : TT} {t u : TS} {s s' so : Sl} {α β γ : Type} {_ : Rp α} {_ : Rp β} {_ : Rp γ} {P : Po} {d : α}
theorem ev_sortedO {xs : List Int} {k : Nat} (e : Γ[k]? = some (.ol xs)) : Ev c Γ (tCB (gSorted c.Z.K) (tCons (tVar k) tNil)) (.ol (isort xs)) := fun B R0 R H ρ Δ σ S Q q xk => by
  obtain ⟨p, vs, h2, h3, h4, _⟩ := sx_mutl S e
  have := paired_map_int h4
  subst this
  refine ⟨.ref p, h2, p, xs, rfl, SqL.of h3, fun ns' r pm pw np => ?_⟩
  have e : ns' = isort xs := PySem.W.os_sorted_mergeSort pm pw
  subst e
  exact q _ R _ (sx_newl S np (paired_of_int _))
theorem ev_lenT {x : α × β} (ha : Ev c Γ ta (.im x)) : Ev c Γ (tCB (gLen c.Z.K) (tCons ta tNil)) (.im (2 : Int)) := ev_cb1 ha fun R H v sm rv => by
  obtain ⟨a, y, z, rfl, h1, _⟩ := rv
  exact ⟨_, rfl, fun Q q => ⟨_, 2, rfl, .inr ⟨[y, z], SqT.of (sm _ _ h1), rfl⟩, q⟩⟩
theorem ev_tupF {x y : Int} (hx : Ev c Γ ta (.im x)) (hy : Ev c Γ tb (.im y)) : Ev c Γ (tTup (tCons ta (tCons tb tNil))) (.fo (some (x, y) : Option (Int × Int))) := fun B R0 R H ρ Δ σ S Q q xk => (ea_cons hx (ea_cons hy ea_nil)) B R0 R H ρ Δ σ S _ (fun vs R1 H1 S1 sl => by
  cases sl with
  | cons r1 t1 =>
    cases t1 with
    | cons r2 t2 =>
      cases t2
      rename_i v1 v2
      have e1 : v1 = .int x := r1
      have e2 : v2 = .int y := r2
      subst e1 e2
      refine ⟨by show 2 ≤ sizeLine; decide, fun p np => q _ R1 _ ?_⟩
      obtain ⟨hl, own, hs, es⟩ := S1
      obtain ⟨f1, f2, f3⟩ := fresh_own hs es np
      refine ⟨by simpa using hl, p :: own, ⟨hs.rh.trans (same_upd np), hs.bh.trans (same_upd np), hs.r0, hs.nw, fun b hb => ?_, List.nodup_cons.mpr ⟨f3, hs.nd⟩⟩, [p], own, rfl, ⟨_, rfl, ⟨p, _, _, rfl, by rw [res_in (by simp), upd_same], rfl, rfl⟩, fun b hb => ?_⟩, es_mono (Same.refl _) (fun b hb => upd_ne fun z => f3 (z ▸ hb)) es⟩
      · rcases List.mem_cons.mp hb with rfl | hb
        · exact ⟨f1, f2⟩
        · exact hs.ow b hb
      · have : b = p := by simpa using hb
        rw [this, upd_same]; simp) xk
theorem ev_noneF : Ev c Γ (tC .non) (.fo (none : Option α)) := ev_subS (s := .im (none : Option α)) (fun Z R H o f nd h => by
  obtain ⟨h1, v, h2, h3⟩ := h
  exact ⟨f, nd, fun _ h => h, v, h2, h3, fun p hp => by rw [h1] at hp; simp at hp⟩) ev_none
end
theorem sub_grown (F : List (List Int)) (y : Int) : SubS (.ot (id (OT.l ((F.map fun xs => xs.map OT.i).map fun xs => OT.l (xs ++ [.i y]))))) (.o2 (F.map fun xs => xs ++ [y])) := by
  have : OT.l ((F.map fun xs => xs.map OT.i).map fun xs => OT.l (xs ++ [.i y])) = otii (F.map fun xs => xs ++ [y]) := by
    rw [List.map_map, otii, List.map_map]
    congr 1
    refine List.map_congr_left fun xs _ => ?_
    simp
  show SubS (.ot (OT.l ((F.map fun xs => xs.map OT.i).map fun xs => OT.l (xs ++ [.i y])))) _
  rw [this]
  exact sub_To2
end TB

/-! TbCls: plain law: classes. -/
namespace TB
open PySem L2
section
variable {t : Tbl} {e : Int}
theorem bk_l (h : GTbl t e) {a : Int} (ha : InT t a) : en t a (bkf t e a) = e := (bk_first h ha).is.1
theorem bk_r (h : GTbl t e) {a : Int} (ha : InT t a) : en t (bkf t e a) a = e := (bk_first h ha).is.2
theorem bk_one (h : GTbl t e) {a b : Int} (ha : InT t a) (hb : InT t b) (q : en t a b = e) : bkf t e a = b := h.canL ha (bk_in h ha) hb ((bk_l h ha).trans q.symm)
theorem bk_mul (h : GTbl t e) {a b : Int} (ha : InT t a) (hb : InT t b) : bkf t e (en t a b) = en t (bkf t e b) (bkf t e a) := by
  have ia := bk_in h ha
  have ib := bk_in h hb
  refine bk_one h (h.cl ha hb) (h.cl ib ia) ?_
  rw [h.as ha hb (h.cl ib ia), ← h.as hb ib ia, bk_l h hb, h.u1 ia, bk_l h ha]
theorem cj_mul (h : GTbl t e) {x y a : Int} (hx : InT t x) (hy : InT t y) (ha : InT t a) : cj t e x (cj t e y a) = cj t e (en t x y) a := by
  unfold cj
  have iy := bk_in h hy
  have ix := bk_in h hx
  rw [bk_mul h hx hy, ← h.as hx (h.cl hy ha) iy, ← h.as hx hy ha, h.as (h.cl (h.cl hx hy) ha) iy ix]
theorem bk_unit (h : GTbl t e) : bkf t e e = e := bk_one h h.he h.he (h.u1 h.he)
theorem cj_unit (h : GTbl t e) {a : Int} (ha : InT t a) : cj t e e a = a := by
  unfold cj
  rw [bk_unit h, h.u1 ha, h.u2 ha]
def orb (t : Tbl) (e a : Int) : List Int := uset ((irange t.length).map fun o => cj t e o a)
theorem mem_orb {a z : Int} : z ∈ orb t e a ↔ ∃ o, InT t o ∧ cj t e o a = z := by
  unfold orb
  rw [mem_uset, List.mem_map]
  constructor
  · rintro ⟨o, h1, h2⟩
    exact ⟨o, mem_irange.mp h1, h2⟩
  · rintro ⟨o, h1, h2⟩
    exact ⟨o, mem_irange.mpr h1, h2⟩
theorem orb_in (h : GTbl t e) {a z : Int} (ha : InT t a) (hz : z ∈ orb t e a) : InT t z := by
  obtain ⟨o, h1, rfl⟩ := mem_orb.mp hz
  exact cj_in h h1 ha
theorem orb_self (h : GTbl t e) {a : Int} (ha : InT t a) : a ∈ orb t e a := mem_orb.mpr ⟨e, h.he, cj_unit h ha⟩
theorem orb_sym (h : GTbl t e) {a z : Int} (ha : InT t a) (hz : z ∈ orb t e a) : a ∈ orb t e z := by
  obtain ⟨o, h1, rfl⟩ := mem_orb.mp hz
  refine mem_orb.mpr ⟨bkf t e o, bk_in h h1, ?_⟩
  rw [cj_mul h (bk_in h h1) h1 ha, bk_r h h1, cj_unit h ha]
theorem orb_trans (h : GTbl t e) {a b z : Int} (ha : InT t a) (hb : b ∈ orb t e a) (hz : z ∈ orb t e b) : z ∈ orb t e a := by
  obtain ⟨o, h1, rfl⟩ := mem_orb.mp hb
  obtain ⟨p, h2, rfl⟩ := mem_orb.mp hz
  exact mem_orb.mpr ⟨en t p o, h.cl h2 h1, (cj_mul h h2 h1 ha).symm⟩
theorem orb_eq (h : GTbl t e) {a z : Int} (ha : InT t a) (hz : z ∈ orb t e a) : orb t e z = orb t e a :=
  inc_one (inc_uset _) (inc_uset _) fun x => ⟨fun q => orb_trans h ha hz q, fun q => orb_trans h (orb_in h ha hz) (orb_sym h ha hz) q⟩
theorem sins_len (x : Int) : ∀ l : List Int, (sins x l).length ≤ l.length + 1
  | [] => Nat.le_refl _
  | y :: r => by
    have := sins_len x r
    unfold sins
    split
    · simp
    · split <;> simp <;> omega
theorem uset_len (xs : List Int) : (uset xs).length ≤ xs.length := by
  unfold uset
  induction xs with
  | nil => exact Nat.le_refl _
  | cons x r ih =>
    have := sins_len x (r.foldr sins [])
    rw [List.foldr_cons, List.length_cons]
    omega
theorem orb_len {a : Int} : (orb t e a).length ≤ t.length := by
  unfold orb
  refine Nat.le_trans (uset_len _) ?_
  rw [List.length_map, irange_len]
  omega
/-- the classes found among the first things -/
def clsN (t : Tbl) (e : Int) : Nat → List (List Int)
  | 0 => []
  | i + 1 => if (i : Int) ∈ (clsN t e i).flatten then clsN t e i else clsN t e i ++ [orb t e (i : Int)]
def clsF (t : Tbl) (e : Int) : List (List Int) := clsN t e t.length
theorem inc_head {xs : List Int} {a : Int} (h : Inc xs) (ha : a ∈ xs) (lo : ∀ z ∈ xs, a ≤ z) : gt xs 0 = a := by
  cases xs with
  | nil => simp at ha
  | cons x r =>
    show x = a
    have h1 := lo x (by simp)
    rcases List.mem_cons.mp ha with q | q
    · exact q.symm
    · have := (List.pairwise_cons.mp h).1 a q
      omega
structure ClsI (t : Tbl) (e : Int) (i : Nat) (L : List (List Int)) : Prop where
  cov : ∀ x : Int, 0 ≤ x → x < i → x ∈ L.flatten
  orbs : ∀ l ∈ L, ∃ x : Int, InT t x ∧ l = orb t e x ∧ gt l 0 = x ∧ x < i
  heads : L.Pairwise fun a b => gt a 0 < gt b 0
  nd : L.flatten.Nodup
theorem clsI (h : GTbl t e) : ∀ i : Nat, i ≤ t.length → ClsI t e i (clsN t e i)
  | 0, _ => ⟨fun x a b => by omega, fun l hl => by simp [clsN] at hl, .nil, .nil⟩
  | i + 1, hi => by
    have ih := clsI h i (by omega)
    have hI : InT t (i : Int) := ⟨by omega, by omega⟩
    unfold clsN
    split
    · rename_i c
      refine ⟨fun x a b => ?_, fun l hl => ?_, ih.heads, ih.nd⟩
      · by_cases q : x = i
        · rw [q]; exact c
        · exact ih.cov x a (by omega)
      · obtain ⟨x, a, b, d, f⟩ := ih.orbs l hl
        exact ⟨x, a, b, d, by omega⟩
    · rename_i c
      have far : ∀ z ∈ orb t e (i : Int), z ∉ (clsN t e i).flatten := fun z hz hz2 => by
        obtain ⟨l, hl, hzl⟩ := List.mem_flatten.mp hz2
        obtain ⟨x, a, b, _, _⟩ := ih.orbs l hl
        rw [b] at hzl
        have e1 := orb_eq h a hzl
        have e2 := orb_sym h hI hz
        rw [e1, ← b] at e2
        exact c (List.mem_flatten.mpr ⟨l, hl, e2⟩)
      have lo : ∀ z ∈ orb t e (i : Int), (i : Int) ≤ z := fun z hz => by
        by_cases q : (i : Int) ≤ z
        · exact q
        · exact absurd (ih.cov z (orb_in h hI hz).1 (by omega)) (far z hz)
      have hd : gt (orb t e (i : Int)) 0 = i := inc_head (inc_uset _) (orb_self h hI) lo
      refine ⟨fun x a b => ?_, fun l hl => ?_, ?_, ?_⟩
      · rw [List.flatten_append, List.mem_append]
        by_cases q : x = i
        · rw [q]; exact .inr (by simpa using orb_self h hI)
        · exact .inl (ih.cov x a (by omega))
      · rcases List.mem_append.mp hl with q | q
        · obtain ⟨x, a, b, d, f⟩ := ih.orbs l q
          exact ⟨x, a, b, d, by omega⟩
        · have : l = orb t e (i : Int) := by simpa using q
          exact ⟨i, hI, this, by rw [this]; exact hd, by omega⟩
      · rw [List.pairwise_append]
        refine ⟨ih.heads, List.pairwise_singleton _ _, fun a ha b hb => ?_⟩
        have : b = orb t e (i : Int) := by simpa using hb
        obtain ⟨x, _, _, d, f⟩ := ih.orbs a ha
        rw [this, hd, d]
        exact f
      · rw [List.flatten_append, List.nodup_append]
        refine ⟨ih.nd, by simpa using (show (orb t e (i : Int)).Nodup from inc_nodup (inc_uset _)), fun a ha b hb q => ?_⟩
        have hb' : b ∈ orb t e (i : Int) := by simpa using hb
        exact far b hb' (q ▸ ha)
theorem clsF_I (h : GTbl t e) : ClsI t e t.length (clsF t e) := clsI h _ (Nat.le_refl _)
theorem clsN_len (t : Tbl) (e : Int) : ∀ i, (clsN t e i).length ≤ i
  | 0 => Nat.le_refl _
  | i + 1 => by
    have := clsN_len t e i
    unfold clsN
    split
    · omega
    · simp; omega
theorem clsF_mem (h : GTbl t e) (x : Int) : x ∈ (clsF t e).flatten ↔ x ∈ irange t.length := by
  have I := clsF_I h
  constructor
  · intro q
    obtain ⟨l, hl, hx⟩ := List.mem_flatten.mp q
    obtain ⟨y, a, b, _, _⟩ := I.orbs l hl
    rw [b] at hx
    exact mem_irange.mpr (orb_in h a hx)
  · intro q
    have := mem_irange.mp q
    exact I.cov x this.1 this.2
end
end TB

/-! TbPart: plain law: parts, least parts, sides, ways out. -/
namespace TB
open PySem L2
/-- a rising part -/
structure PartL (t : Tbl) (e : Int) (P : List Int) : Prop where
  inc : Inc P
  pt : Part t e P
/-- what look_at_part asks -/
structure IsPart (t : Tbl) (P : List Int) : Prop where
  ne : P ≠ []
  inc : Inc P
  inn : ∀ x ∈ P, InT t x
  mul : ∀ x ∈ P, ∀ y ∈ P, en t x y ∈ P
section
variable {t : Tbl} {e : Int}
theorem pw_mem {P : List Int} {a : Int} (h1 : e ∈ P) (hm : ∀ x ∈ P, ∀ y ∈ P, en t x y ∈ P) (ha : a ∈ P) : ∀ k, pw t e a k ∈ P
  | 0 => h1
  | k + 1 => hm _ (pw_mem h1 hm ha k) _ ha
theorem bk_pw (h : GTbl t e) {a : Int} (ha : InT t a) : bkf t e a = pw t e a (t.length - 1) := by
  refine bk_one h ha (pw_in h ha _) ?_
  have q := pw_add h ha 1 (t.length - 1)
  rw [show 1 + (t.length - 1) = t.length by have := h.sz.1; omega, pw_len h ha] at q
  have : pw t e a 1 = a := by show en t e a = a; exact h.u1 ha
  rw [this] at q
  exact q.symm
theorem IsPart.one (h : GTbl t e) {P : List Int} (p : IsPart t P) : e ∈ P := by
  obtain ⟨a, ha⟩ := List.exists_mem_of_ne_nil P p.ne
  have key : ∀ k, 0 < k → pw t e a k ∈ P := fun k => by
    induction k with
    | zero => intro z; omega
    | succ k ih =>
      intro _
      by_cases c : k = 0
      · subst c
        show en t e a ∈ P
        rw [h.u1 (p.inn a ha)]
        exact ha
      · exact p.mul _ (ih (by omega)) _ ha
  have := key t.length h.sz.1
  rw [pw_len h (p.inn a ha)] at this
  exact this
theorem IsPart.partL (h : GTbl t e) {P : List Int} (p : IsPart t P) : PartL t e P := by
  refine ⟨p.inc, inc_nodup p.inc, p.inn, p.one h, p.mul, fun x hx => ?_⟩
  have hi := p.inn x hx
  refine ⟨bkf t e x, ?_, bk_l h hi, bk_r h hi⟩
  rw [bk_pw h hi]
  exact pw_mem (p.one h) p.mul hx _
theorem PartL.isPart {P : List Int} (p : PartL t e P) : IsPart t P := ⟨fun z => by have := p.pt.one; rw [z] at this; simp at this, p.inc, p.pt.inn, p.pt.mul⟩
theorem PartL.bk (h : GTbl t e) {P : List Int} (p : PartL t e P) {x : Int} (hx : x ∈ P) : bkf t e x ∈ P := by
  obtain ⟨y, hy, q, _⟩ := p.pt.bk x hx
  rw [bk_one h (p.pt.inn x hx) (p.pt.inn y hy) q]
  exact hy
theorem PartL.len {P : List Int} (p : PartL t e P) : P.length ≤ t.length := by
  have := nodup_le (B := irange t.length) p.pt.nd fun x hx => mem_irange.mpr (p.pt.inn x hx)
  rw [irange_len] at this
  omega
/-! ### least parts -/
inductive Reach (t : Tbl) (e : Int) (some : List Int) : Int → Prop
  | one : Reach t e some e
  | step {x y : Int} : Reach t e some x → y ∈ some → Reach t e some (en t x y)
noncomputable def clo (t : Tbl) (e : Int) (some : List Int) : List Int := (irange t.length).filter fun x => @decide (Reach t e some x) (Classical.propDecidable _)
theorem reach_in (h : GTbl t e) {some : List Int} (hs : ∀ y ∈ some, InT t y) {x : Int} (r : Reach t e some x) : InT t x := by
  induction r with
  | one => exact h.he
  | step _ hy ih => exact h.cl ih (hs _ hy)
theorem mem_clo (h : GTbl t e) {some : List Int} (hs : ∀ y ∈ some, InT t y) {x : Int} : x ∈ clo t e some ↔ Reach t e some x := by
  unfold clo
  rw [List.mem_filter]
  constructor
  · rintro ⟨_, q⟩
    exact @of_decide_eq_true _ (Classical.propDecidable _) q
  · intro q
    exact ⟨mem_irange.mpr (reach_in h hs q), @decide_eq_true _ (Classical.propDecidable _) q⟩
theorem inc_clo (some : List Int) : Inc (clo t e some) := (inc_irange _).filter _
theorem reach_mul (h : GTbl t e) {some : List Int} (hs : ∀ y ∈ some, InT t y) {x y : Int} (rx : Reach t e some x) (ry : Reach t e some y) : Reach t e some (en t x y) := by
  have hx := reach_in h hs rx
  induction ry with
  | one => rw [h.u2 hx]; exact rx
  | step r hy ih =>
    rw [← h.as hx (reach_in h hs r) (hs _ hy)]
    exact .step ih hy
theorem reach_some (h : GTbl t e) {some : List Int} (hs : ∀ y ∈ some, InT t y) {y : Int} (hy : y ∈ some) : Reach t e some y := by
  have := Reach.step (.one (t := t) (e := e) (some := some)) hy
  rw [h.u1 (hs y hy)] at this
  exact this
theorem clo_part (h : GTbl t e) {some : List Int} (hs : ∀ y ∈ some, InT t y) : PartL t e (clo t e some) :=
  IsPart.partL h ⟨fun z => by have := (mem_clo h hs).mpr .one; rw [z] at this; simp at this, inc_clo some, fun x hx => reach_in h hs ((mem_clo h hs).mp hx), fun x hx y hy => (mem_clo h hs).mpr (reach_mul h hs ((mem_clo h hs).mp hx) ((mem_clo h hs).mp hy))⟩
/-- a list with all products by some things holds all that they reach -/
theorem reach_sub {some R : List Int} (h1 : e ∈ R) (hc : ∀ x ∈ R, ∀ y ∈ some, en t x y ∈ R) {x : Int} (r : Reach t e some x) : x ∈ R := by
  induction r with
  | one => exact h1
  | step _ hy ih => exact hc _ ih _ hy
theorem clo_is (h : GTbl t e) {some R : List Int} (hs : ∀ y ∈ some, InT t y) (nd : R.Nodup) (h1 : e ∈ R) (hr : ∀ x ∈ R, Reach t e some x) (hc : ∀ x ∈ R, ∀ y ∈ some, en t x y ∈ R) : isort R = clo t e some :=
  isort_eq nd (inc_clo some) fun z => ⟨fun q => (mem_clo h hs).mpr (hr z q), fun q => reach_sub h1 hc ((mem_clo h hs).mp q)⟩
theorem clo_congr (h : GTbl t e) {some some' : List Int} (hs : ∀ y ∈ some, InT t y) (hs' : ∀ y ∈ some', InT t y) (h1 : ∀ y, y ∈ some ↔ y ∈ some') : clo t e some = clo t e some' := by
  refine inc_one (inc_clo _) (inc_clo _) fun z => ?_
  rw [mem_clo h hs, mem_clo h hs']
  constructor
  · intro r
    induction r with
    | one => exact .one
    | step _ hy ih => exact .step ih ((h1 _).mp hy)
  · intro r
    induction r with
    | one => exact .one
    | step _ hy ih => exact .step ih ((h1 _).mpr hy)
/-! ### things told apart by lists -/
/-- each thing's list: rising, with it, the same for all its things -/
structure Eqv (t : Tbl) (F : Int → List Int) : Prop where
  inc : ∀ a, InT t a → Inc (F a)
  self : ∀ a, InT t a → a ∈ F a
  inn : ∀ a, InT t a → ∀ z ∈ F a, InT t z
  eq : ∀ a, InT t a → ∀ z ∈ F a, F z = F a
def kinN (F : Int → List Int) : Nat → List (List Int)
  | 0 => []
  | i + 1 => if (i : Int) ∈ (kinN F i).flatten then kinN F i else kinN F i ++ [F (i : Int)]
structure KinI (t : Tbl) (F : Int → List Int) (i : Nat) (L : List (List Int)) : Prop where
  cov : ∀ x : Int, 0 ≤ x → x < i → x ∈ L.flatten
  orbs : ∀ l ∈ L, ∃ x : Int, InT t x ∧ l = F x ∧ gt l 0 = x ∧ x < i
  heads : L.Pairwise fun a b => gt a 0 < gt b 0
  nd : L.flatten.Nodup
theorem kinI {F : Int → List Int} (h : Eqv t F) : ∀ i : Nat, i ≤ t.length → KinI t F i (kinN F i)
  | 0, _ => ⟨fun x a b => by omega, fun l hl => by simp [kinN] at hl, .nil, .nil⟩
  | i + 1, hi => by
    have ih := kinI h i (by omega)
    have hI : InT t (i : Int) := ⟨by omega, by omega⟩
    unfold kinN
    split
    · rename_i c
      refine ⟨fun x a b => ?_, fun l hl => ?_, ih.heads, ih.nd⟩
      · by_cases q : x = i
        · rw [q]; exact c
        · exact ih.cov x a (by omega)
      · obtain ⟨x, a, b, d, f⟩ := ih.orbs l hl
        exact ⟨x, a, b, d, by omega⟩
    · rename_i c
      have far : ∀ z ∈ F (i : Int), z ∉ (kinN F i).flatten := fun z hz hz2 => by
        obtain ⟨l, hl, hzl⟩ := List.mem_flatten.mp hz2
        obtain ⟨x, a, b, _, _⟩ := ih.orbs l hl
        rw [b] at hzl
        have e1 := h.eq x a z hzl
        have e2 := h.eq i hI z hz
        have e3 := h.self i hI
        rw [← e2, e1, ← b] at e3
        exact c (List.mem_flatten.mpr ⟨l, hl, e3⟩)
      have lo : ∀ z ∈ F (i : Int), (i : Int) ≤ z := fun z hz => by
        by_cases q : (i : Int) ≤ z
        · exact q
        · exact absurd (ih.cov z (h.inn i hI z hz).1 (by omega)) (far z hz)
      have hd : gt (F (i : Int)) 0 = i := inc_head (h.inc i hI) (h.self i hI) lo
      refine ⟨fun x a b => ?_, fun l hl => ?_, ?_, ?_⟩
      · rw [List.flatten_append, List.mem_append]
        by_cases q : x = i
        · rw [q]; exact .inr (by simpa using h.self i hI)
        · exact .inl (ih.cov x a (by omega))
      · rcases List.mem_append.mp hl with q | q
        · obtain ⟨x, a, b, d, f⟩ := ih.orbs l q
          exact ⟨x, a, b, d, by omega⟩
        · have : l = F (i : Int) := by simpa using q
          exact ⟨i, hI, this, by rw [this]; exact hd, by omega⟩
      · rw [List.pairwise_append]
        refine ⟨ih.heads, List.pairwise_singleton _ _, fun a ha b hb => ?_⟩
        have : b = F (i : Int) := by simpa using hb
        obtain ⟨x, _, _, d, f⟩ := ih.orbs a ha
        rw [this, hd, d]
        exact f
      · rw [List.flatten_append, List.nodup_append]
        refine ⟨ih.nd, by simpa using inc_nodup (h.inc i hI), fun a ha b hb q => ?_⟩
        have hb' : b ∈ F (i : Int) := by simpa using hb
        exact far b hb' (q ▸ ha)
theorem kinN_len (F : Int → List Int) : ∀ i, (kinN F i).length ≤ i
  | 0 => Nat.le_refl _
  | i + 1 => by
    have := kinN_len F i
    unfold kinN
    split
    · omega
    · simp; omega
theorem kin_mem {F : Int → List Int} (h : Eqv t F) (x : Int) : x ∈ (kinN F t.length).flatten ↔ x ∈ irange t.length := by
  have I := kinI h t.length (Nat.le_refl _)
  constructor
  · intro q
    obtain ⟨l, hl, hx⟩ := List.mem_flatten.mp q
    obtain ⟨y, a, b, _, _⟩ := I.orbs l hl
    rw [b] at hx
    exact mem_irange.mpr (h.inn y a x hx)
  · intro q
    have := mem_irange.mp q
    exact I.cov x this.1 this.2
/-! ### sides -/
def sid (t : Tbl) (P : List Int) (x : Int) : List Int := isort (P.map fun h => gt (gt t x) h)
theorem mem_sid {P : List Int} {x z : Int} : z ∈ sid t P x ↔ ∃ h ∈ P, en t x h = z := by
  unfold sid
  rw [(isort_perm _).mem_iff, List.mem_map]
theorem sid_len {P : List Int} {x : Int} : (sid t P x).length = P.length := by
  unfold sid
  rw [(isort_perm _).length_eq, List.length_map]
theorem sid_eqv (h : GTbl t e) {P : List Int} (p : PartL t e P) : Eqv t (sid t P) := by
  have inc : ∀ a, InT t a → Inc (sid t P a) := fun a ha => by
    refine isort_inc ?_
    rw [List.Nodup, List.pairwise_map]
    exact p.pt.nd.imp_of_mem fun {x y} hx hy ne q => ne (h.canL ha (p.pt.inn x hx) (p.pt.inn y hy) q)
  have inn : ∀ a, InT t a → ∀ z ∈ sid t P a, InT t z := fun a ha z hz => by
    obtain ⟨y, hy, rfl⟩ := mem_sid.mp hz
    exact h.cl ha (p.pt.inn y hy)
  refine ⟨inc, fun a ha => mem_sid.mpr ⟨e, p.pt.one, h.u2 ha⟩, inn, fun a ha z hz => ?_⟩
  obtain ⟨y, hy, rfl⟩ := mem_sid.mp hz
  have iy := p.pt.inn y hy
  refine inc_one (inc _ (inn a ha _ hz)) (inc a ha) fun w => ?_
  rw [mem_sid, mem_sid]
  constructor
  · rintro ⟨v, hv, rfl⟩
    exact ⟨en t y v, p.pt.mul y hy v hv, (h.as ha iy (p.pt.inn v hv)).symm⟩
  · rintro ⟨v, hv, rfl⟩
    have by' := p.bk h hy
    refine ⟨en t (bkf t e y) v, p.pt.mul _ by' v hv, ?_⟩
    rw [h.as ha iy (h.cl (p.pt.inn _ by') (p.pt.inn v hv)), ← h.as iy (p.pt.inn _ by') (p.pt.inn v hv), bk_l h iy, h.u1 (p.pt.inn v hv)]
/-- what leads back the carrier of a thing's side -/
theorem sid_back (h : GTbl t e) {P : List Int} (p : PartL t e P) {x z : Int} (hx : InT t x) (hz : z ∈ sid t P x) : en t (bkf t e x) z ∈ P := by
  obtain ⟨y, hy, rfl⟩ := mem_sid.mp hz
  rw [← h.as (bk_in h hx) hx (p.pt.inn y hy), bk_r h hx, h.u1 (p.pt.inn y hy)]
  exact hy
/-! ### ways out -/
def woF (t : Tbl) (e : Int) (P : List Int) : Option (Int × Int) := (irange t.length).findSome? fun o => (P.find? fun h => !decide (cj t e o h ∈ P)).map fun h => (o, h)
theorem irange_cut {n : Int} {i : Int} (h0 : 0 ≤ i) (h1 : i < n) : ∃ r, irange n = irange i ++ i :: r := by
  refine ⟨(irange n).drop (i.toNat + 1), ?_⟩
  have hl : i.toNat < (irange n).length := by rw [irange_len]; omega
  have e1 : (irange n).take i.toNat = irange i := by
    refine List.ext_getElem (by simp [irange_len]; omega) fun k a b => ?_
    rw [List.getElem_take, irange_get, irange_get]
  have e2 : (irange n)[i.toNat] = i := by rw [irange_get]; omega
  conv => lhs; rw [← List.take_append_drop i.toNat (irange n), e1, List.drop_eq_getElem_cons hl, e2]
theorem find_none {α : Type} {p : α → Bool} {l : List α} (h : ∀ x ∈ l, p x = false) : l.find? p = none := by
  rw [List.find?_eq_none]
  intro x hx
  rw [h x hx]
  decide
theorem woF_none {P : List Int} (h : ∀ o, InT t o → ∀ x ∈ P, cj t e o x ∈ P) : woF t e P = none := by
  unfold woF
  rw [List.findSome?_eq_none_iff]
  intro o ho
  rw [find_none fun x hx => by simpa using h o (mem_irange.mp ho) x hx]
  rfl
theorem woF_some {P : List Int} {o : Int} {k : Nat} (hk : k < P.length) (ho : InT t o) (h1 : ∀ a, 0 ≤ a → a < o → ∀ x ∈ P, cj t e a x ∈ P) (h2 : ∀ x ∈ P.take k, cj t e o x ∈ P) (h3 : cj t e o P[k] ∉ P) : woF t e P = some (o, P[k]) := by
  obtain ⟨r, er⟩ := irange_cut ho.1 ho.2
  unfold woF
  rw [er, List.findSome?_append, List.findSome?_eq_none_iff.mpr, Option.none_or, List.findSome?_cons]
  · have : P.find? (fun h => !decide (cj t e o h ∈ P)) = some P[k] := by
      have eP : P = P.take k ++ P[k] :: P.drop (k + 1) := by
        conv => lhs; rw [← List.take_append_drop k P, List.drop_eq_getElem_cons hk]
      have q : ∀ Q : Int → Bool, (∀ x ∈ P.take k, Q x = false) → Q P[k] = true → P.find? Q = some P[k] := fun Q a b => by
        have : (P.take k ++ P[k] :: P.drop (k + 1)).find? Q = some P[k] := by
          rw [List.find?_append, find_none a, Option.none_or, List.find?_cons, b]
        rw [← eP] at this
        exact this
      exact q _ (fun x hx => by simpa using h2 x hx) (by simpa using h3)
    rw [this]
    rfl
  · intro a ha
    have := mem_irange.mp ha
    rw [find_none fun x hx => by simpa using h1 a this.1 this.2 x hx]
    rfl
end
end TB

/-! ### look_at_part -/
namespace TB
open PySem L2
--use TbPart
def T_look_at_part : Tm := tm2 fun (g : Grp) (P : List Int) ok er => ∃ (t : Tbl) (e : Int), GTbl t e ∧ g = grpOf t e ∧ P.length ≤ 100000 ∧ (IsPart t P → ok (.im ())) ∧ (¬ IsPart t P → er ⟨.NoPart, []⟩)
def t_look_at_part (Z : Zz) (X : WX) : TS :=
  (tSeq (tIfS (tTest (tOp (gEq Z.K) (tCB (gLen Z.K) (tCons (tVar 1) tNil)) (tC (.int 0))))
  (tRaise0 (Z.cls .NoPart) X)
  tNext)
  (tSeq (tAsg tDNewK (gName 2))
  (tSeq (tAsg (tUn uNeg (tC (.int 1))) (gName 3))
  (tSeq (tFor (iList Z.K (tVar 1)) (gName 4)
  (tSeq (tIfS (tOr (tTest (tOp gLe (tVar 4) (tVar 3))) (tTest (tOp gGe (tVar 4) (tFld Z.K (tVar 0) "many"))))
  (tRaise0 (Z.cls .NoPart) X)
  tNext)
  (tSeq (tAsg (tC (.bl true)) (gSub (tVar 2) (tVar 4) gSet))
  (tAsg (tVar 4) (gName 3)))))
  (tFor (iList Z.K (tVar 1)) (gName 5)
  (tFor (iList Z.K (tVar 1)) (gName 6)
  (tIfS (tTest (tOp (gNotIn Z.K) (tOp (gIx Z.K) (tOp (gIx Z.K) (tFld Z.K (tVar 0) "rows") (tVar 5)) (tVar 6)) (tVar 2)))
  (tRaise0 (Z.cls .NoPart) X)
  tNext)))))))
theorem w_look_at_part (Z : Zz) (X : WX) (ss : List Sl) (ok : Sl → Prop) (er : Rf → Prop) (h : T_look_at_part ss ok er) : WF Z X er (ss ++ List.replicate (7 - ss.length) .un) (t_look_at_part Z X) ok := by
  obtain ⟨g, P, rfl, t, e, hG, rfl, hPl, k, ke⟩ := h
  show W _ [.im (grpOf t e), .im P, .un, .un, .un, .un, .un] _ _
  unfold t_look_at_part
  have hl := hG.sz.2.1
  refine w_seq (w_if (b := decide (P = [])) (et_to (et_test (ev_eqI (ev_len (ev_var rfl)) ev_int)) (by cases P <;> simp; omega)) (fun hb => ?_) (fun hb => w_next ?_))
  · have hb' : P = [] := by simpa using hb
    exact w_raise0 .NoPart (ke fun z => z.ne hb')
  have hne : P ≠ [] := by simpa using hb
  refine w_seq (w_asg (ev_dict (δ := Bool)) ?_)
  refine w_seq (w_asg (ev_neg ev_int) ?_)
  walk_at "nz"
  refine w_seq (w_forL (xs := P) (fun i G => ∃ (kvs : List (Int × Bool)) (last : Int) (s4 : Sl), G = [.im (grpOf t e), .im P, .od kvs, .im last, s4, .un, .un] ∧ (∀ x : Int, (dget kvs x).isSome = decide (x ∈ P.take i)) ∧ kvs.length ≤ i ∧ Inc (P.take i) ∧ (∀ x ∈ P.take i, InT t x ∧ x ≤ last) ∧ (-1 ≤ last) ∧ (i = 0 → last = -1) ∧ (0 < i → last ∈ P.take i)) (ev_var rfl) ⟨[], _, _, rfl, fun x => by simp [dget_nil], by simp, .nil, fun x hx => by simp at hx, by omega, fun _ => rfl, fun z => by omega⟩ ?_ ?_)
  · rintro i G hi ⟨kvs, last, s4, rfl, hk, hkl, hinc, hin, hlast, hl0, hmem⟩
    walk_at "nz"
    have htk : P.take (i + 1) = P.take i ++ [P[i]] := take_snoc hi
    have hxP : P[i] ∈ P := List.getElem_mem hi
    have hpre : ∀ x ∈ P.take i, x ∈ P := fun x hx => List.mem_of_mem_take hx
    have pw : IsPart t P → ∀ x ∈ P.take i, x < P[i] := fun z x hx => by
      obtain ⟨j, hj, rfl⟩ := List.getElem_of_mem hx
      rw [List.getElem_take]
      exact List.pairwise_iff_getElem.mp z.inc j i (by simp at hj; omega) hi (by simp at hj; omega)
    rw [htk]
    generalize P[i] = x at hxP pw ⊢
    refine w_seq (w_if (b := decide (x ≤ last) || decide ((t.length : Int) ≤ x)) (et_or (et_test (ev_le (ev_var rfl) (ev_var rfl))) fun _ => et_test (ev_ge (ev_var rfl) (ev_many (g := grpOf t e) (ev_var rfl)))) (fun hb => ?_) (fun hb => w_next ?_))
    · have hb' : x ≤ last ∨ (t.length : Int) ≤ x := by simpa using hb
      refine w_raise0 .NoPart (ke fun z => ?_)
      have hx := z.inn x hxP
      rcases hb' with q | q
      · by_cases c : 0 < i
        · have := pw z _ (hmem c)
          omega
        · have h0 : i = 0 := by omega
          subst h0
          have := hx.1
          have := hl0 rfl
          omega
      · have := hx.2; omega
    · have hb' : last < x ∧ x < (t.length : Int) := by simpa using hb
      have hx : InT t x := ⟨by omega, hb'.2⟩
      refine w_seq (w_dset rfl ev_bl (ev_var rfl) (by omega) ?_)
      walk_at "nz"
      refine w_asg (ev_var rfl) ⟨dput kvs x true, x, _, rfl, fun y => ?_, ?_, ?_, fun y hy => ?_, by omega, fun z => by omega, fun _ => by simp⟩
      · rw [dget_put]
        by_cases c : y = x
        · rw [if_pos c, c]
          exact (decide_eq_true (by rw [List.mem_append]; exact .inr (by simp))).symm
        · rw [if_neg c, hk]
          exact decide_eq_decide.mpr (by simp only [List.mem_append, List.mem_singleton, c, or_false])
      · have := dput_len kvs x true
        omega
      · refine List.pairwise_append.mpr ⟨hinc, List.pairwise_singleton _ _, fun a ha b hb2 => ?_⟩
        have : b = x := by simpa using hb2
        have := (hin a ha).2
        omega
      · rcases List.mem_append.mp hy with q | q
        · have := hin y q
          exact ⟨this.1, by omega⟩
        · have : y = x := by simpa using q
          rw [this]
          exact ⟨hx, by omega⟩
  rintro G ⟨kvs, last, s4, rfl, hk, hkl, hinc, hin, _, _, _⟩
  rw [List.take_length] at hinc hin
  have hk : ∀ x : Int, (dget kvs x).isSome = decide (x ∈ P) := fun x => by rw [hk, List.take_length]
  have hin : ∀ x ∈ P, InT t x := fun x hx => (hin x hx).1
  refine w_forL (xs := P) (fun i G => ∃ s5 s6 : Sl, G = [.im (grpOf t e), .im P, .od kvs, .im last, s4, s5, s6] ∧ ∀ x ∈ P.take i, ∀ y ∈ P, en t x y ∈ P) (ev_var rfl) ⟨_, _, rfl, fun x hx => by simp at hx⟩ ?_ ?_
  · rintro i G hi ⟨s5, s6, rfl, hc⟩
    walk_at "nz"
    have hx := hin _ (List.getElem_mem hi)
    refine w_forL (xs := P) (fun j G => ∃ s6 : Sl, G = [.im (grpOf t e), .im P, .od kvs, .im last, s4, .im P[i], s6] ∧ ∀ y ∈ P.take j, en t P[i] y ∈ P) (ev_var rfl) ⟨_, rfl, fun x hx => by simp at hx⟩ ?_ ?_
    · rintro j G hj ⟨s6, rfl, hd⟩
      walk_at "nz"
      have hy := hin _ (List.getElem_mem hj)
      refine w_if (b := !decide (en t P[i] P[j] ∈ P)) (et_test (ev_to (ev_notInD rfl (ev_ix (ev_ix (xs := t) (ev_rows (g := grpOf t e) (ev_var rfl)) (ev_var rfl) hx.1 hx.2) (ev_var rfl) hy.1 (by rw [hG.row hx]; exact hy.2))) (by rw [hk]))) (fun hb => ?_) (fun hb => w_next ⟨_, rfl, fun y hy2 => ?_⟩)
      · have hb' : ¬ en t P[i] P[j] ∈ P := by simpa using hb
        exact w_raise0 .NoPart (ke fun z => hb' (z.mul _ (List.getElem_mem hi) _ (List.getElem_mem hj)))
      · have hb' : en t P[i] P[j] ∈ P := by simpa using hb
        rw [take_snoc hj] at hy2
        rcases List.mem_append.mp hy2 with q | q
        · exact hd y q
        · have : y = P[j] := by simpa using q
          rw [this]; exact hb'
    · rintro G ⟨s6, rfl, hd⟩
      rw [List.take_length] at hd
      refine ⟨_, _, rfl, fun x hx2 y hy => ?_⟩
      rw [take_snoc hi] at hx2
      rcases List.mem_append.mp hx2 with q | q
      · exact hc x q y hy
      · have : x = P[i] := by simpa using q
        rw [this]; exact hd y hy
  · rintro G ⟨s5, s6, rfl, hc⟩
    rw [List.take_length] at hc
    exact k ⟨hne, hinc, hin, hc⟩
end TB

/-! TbBfs: least parts with words: what is reckoned, and own dicts of own lists. -/
namespace TB
open PySem L2
abbrev Kvs := List (Int × List Int)
def stepW (t : Tbl) (x : Int) (w : List Int) (kvs : Kvs) (y : Int) : Kvs := if en t x y ∈ kvs.map (·.1) then kvs else kvs ++ [(en t x y, w ++ [y])]
def bfsN (t : Tbl) (some : List Int) : Nat → Nat → Kvs → Kvs
  | 0, _, kvs => kvs
  | n + 1, a, kvs => if h : a < kvs.length then bfsN t some n (a + 1) (some.foldl (stepW t kvs[a].1 kvs[a].2) kvs) else kvs
def wordsF (t : Tbl) (e : Int) (some : List Int) : Kvs := bfsN t some (t.length + 1) 0 [(e, [])]
/-- a word of x -/
structure WordOk (t : Tbl) (e : Int) (some : List Int) (x : Int) (w : List Int) : Prop where
  sub : ∀ y ∈ w, y ∈ some
  is : w.foldl (en t) e = x
structure BfsI (t : Tbl) (e : Int) (some : List Int) (kvs : Kvs) : Prop where
  nd : (kvs.map (·.1)).Nodup
  one : kvs[0]? = Option.some (e, [])
  rc : ∀ x ∈ kvs.map (·.1), Reach t e some x
  wd : ∀ (i : Nat) (h : i < kvs.length), WordOk t e some kvs[i].1 kvs[i].2 ∧ (kvs[i].2).length ≤ i
section
variable {t : Tbl} {e : Int} {some : List Int}
theorem bfs_0 : BfsI t e some [(e, [])] := ⟨by simp, rfl, fun x hx => (show x = e by simpa using hx) ▸ .one, fun i h => by
  have : i = 0 := by simpa using h
  subst this
  exact ⟨⟨fun y hy => by simp at hy, rfl⟩, by simp⟩⟩
theorem bfs_step {kvs : Kvs} {a : Nat} {x : Int} {w : List Int} {y : Int} (I : BfsI t e some kvs) (ha : a < kvs.length) (hw : WordOk t e some x w) (hl : w.length ≤ a) (hr : Reach t e some x) (hy : y ∈ some) : BfsI t e some (stepW t x w kvs y) ∧ kvs <+: stepW t x w kvs y ∧ en t x y ∈ (stepW t x w kvs y).map (·.1) := by
  unfold stepW
  split
  · rename_i h
    exact ⟨I, List.prefix_rfl, h⟩
  · rename_i h
    refine ⟨⟨?_, ?_, fun z hz => ?_, fun i hi => ?_⟩, List.prefix_append _ _, by simp⟩
    · rw [List.map_append, List.nodup_append]
      exact ⟨I.nd, by simp, fun p hp q hq z => by
        have : q = en t x y := by simpa using hq
        exact h (this ▸ z ▸ hp)⟩
    · rw [List.getElem?_append_left (by omega)]
      exact I.one
    · rw [List.map_append] at hz
      rcases List.mem_append.mp hz with q | q
      · exact I.rc z q
      · have : z = en t x y := by simpa using q
        rw [this]
        exact .step hr hy
    · by_cases c : i < kvs.length
      · rw [List.getElem_append_left c]
        exact I.wd i c
      · have e1 : i = kvs.length := by simp at hi; omega
        subst e1
        rw [List.getElem_append_right (Nat.le_refl _)]
        simp only [Nat.sub_self, List.getElem_cons_zero]
        refine ⟨⟨fun z hz => ?_, ?_⟩, ?_⟩
        · rcases List.mem_append.mp hz with q | q
          · exact hw.sub z q
          · have : z = y := by simpa using q
            rw [this]; exact hy
        · rw [List.foldl_append, hw.is]
          rfl
        · rw [List.length_append]
          simp
          omega
theorem bfs_fold {a : Nat} {x : Int} {w : List Int} : ∀ (ys : List Int) {kvs : Kvs}, BfsI t e some kvs → a < kvs.length → WordOk t e some x w → w.length ≤ a → Reach t e some x → (∀ y ∈ ys, y ∈ some) → BfsI t e some (ys.foldl (stepW t x w) kvs) ∧ kvs <+: ys.foldl (stepW t x w) kvs ∧ ∀ y ∈ ys, en t x y ∈ (ys.foldl (stepW t x w) kvs).map (·.1)
  | [], kvs, I, _, _, _, _, _ => ⟨I, List.prefix_rfl, fun y hy => by simp at hy⟩
  | y :: ys, kvs, I, ha, hw, hl, hr, hs => by
    obtain ⟨I2, p2, m2⟩ := bfs_step I ha hw hl hr (hs y (by simp))
    obtain ⟨I3, p3, m3⟩ := bfs_fold ys I2 (Nat.lt_of_lt_of_le ha p2.length_le) hw hl hr fun z hz => hs z (by simp [hz])
    refine ⟨I3, p2.trans p3, fun z hz => ?_⟩
    rcases List.mem_cons.mp hz with q | q
    · rw [q]
      exact (p3.map _).mem m2
    · exact m3 z q
theorem bfs_len (h : GTbl t e) (hs : ∀ y ∈ some, InT t y) {kvs : Kvs} (I : BfsI t e some kvs) : kvs.length ≤ t.length := by
  have := nodup_le (B := irange t.length) I.nd fun x hx => mem_irange.mpr (reach_in h hs (I.rc x hx))
  rw [irange_len, List.length_map] at this
  omega
theorem bfs_run (h : GTbl t e) (hs : ∀ y ∈ some, InT t y) : ∀ (n a : Nat) (kvs : Kvs), BfsI t e some kvs → t.length < n + a → a ≤ kvs.length → (∀ x ∈ (kvs.take a).map (·.1), ∀ y ∈ some, en t x y ∈ kvs.map (·.1)) →
    BfsI t e some (bfsN t some n a kvs) ∧ ∀ x ∈ (bfsN t some n a kvs).map (·.1), ∀ y ∈ some, en t x y ∈ (bfsN t some n a kvs).map (·.1)
  | 0, a, kvs, I, hn, ha, hc => by have := bfs_len h hs I; omega
  | n + 1, a, kvs, I, hn, ha, hc => by
    unfold bfsN
    split
    · rename_i hlt
      obtain ⟨w1, w2⟩ := I.wd a hlt
      obtain ⟨I2, p2, m2⟩ := bfs_fold some I hlt w1 w2 (I.rc _ (List.mem_map.mpr ⟨_, List.getElem_mem hlt, rfl⟩)) fun y hy => hy
      refine bfs_run h hs n (a + 1) _ I2 (by omega) (Nat.le_trans hlt p2.length_le) fun x hx y hy => ?_
      have haR := Nat.lt_of_lt_of_le hlt p2.length_le
      rw [take_snoc haR, List.map_append] at hx
      rcases List.mem_append.mp hx with q | q
      · have e1 : (some.foldl (stepW t kvs[a].1 kvs[a].2) kvs).take a = kvs.take a := by
          obtain ⟨r, er⟩ := p2
          rw [← er, List.take_append_of_le_length (by omega)]
        rw [e1] at q
        exact (p2.map _).mem (hc x q y hy)
      · have : x = kvs[a].1 := by rw [(p2.getElem hlt)]; simpa using q
        rw [this]
        exact m2 y hy
    · rename_i hlt
      rw [List.take_of_length_le (by omega)] at hc
      exact ⟨I, hc⟩
theorem words_I (h : GTbl t e) (hs : ∀ y ∈ some, InT t y) : BfsI t e some (wordsF t e some) ∧ isort ((wordsF t e some).map (·.1)) = clo t e some := by
  obtain ⟨I, c⟩ := bfs_run h hs (t.length + 1) 0 [(e, [])] bfs_0 (by omega) (by simp) fun x hx => by simp at hx
  exact ⟨I, clo_is h hs I.nd (List.mem_map.mpr ⟨(e, []), List.mem_of_getElem? I.one, rfl⟩) I.rc c⟩
theorem dget_at {kvs : Kvs} : ∀ {i : Nat} (h : i < kvs.length), (kvs.map (·.1)).Nodup → dget kvs kvs[i].1 = Option.some kvs[i].2 := by
  induction kvs with
  | nil => intro i h; simp at h
  | cons p r ih =>
    intro i h nd
    rw [List.map_cons, List.nodup_cons] at nd
    cases i with
    | zero => unfold dget; simp
    | succ i =>
      have hi : i < r.length := by simpa using h
      have ne : ¬ p.1 = (r[i]).1 := fun z => nd.1 (List.mem_map.mpr ⟨_, List.getElem_mem hi, z.symm⟩)
      show dget (p :: r) (r[i]).1 = Option.some (r[i]).2
      rw [dget_neg ne]
      exact ih hi nd.2
theorem dget_key {kvs : Kvs} {x : Int} : (dget kvs x).isSome = decide (x ∈ kvs.map (·.1)) := by
  rw [← dget_any]
  induction kvs with
  | nil => rfl
  | cons p r ih =>
    rw [List.any_cons, ih, List.map_cons]
    by_cases c : x = p.1
    · subst c; simp
    · have : ¬ p.1 = x := fun z => c z.symm
      simp [this, c]
def wordF (t : Tbl) (e : Int) (some : List Int) (x : Int) : List Int := (dget (wordsF t e some) x).getD []
theorem wordF_ok (h : GTbl t e) (hs : ∀ y ∈ some, InT t y) {x : Int} (hx : x ∈ clo t e some) : dget (wordsF t e some) x = Option.some (wordF t e some x) ∧ WordOk t e some x (wordF t e some x) ∧ (wordF t e some x).length ≤ t.length ∧ (x = e → wordF t e some x = []) := by
  obtain ⟨I, c⟩ := words_I h hs
  have hm : x ∈ (wordsF t e some).map (·.1) := by rw [← (isort_perm _).mem_iff, c]; exact hx
  obtain ⟨p, hp, rfl⟩ := List.mem_map.mp hm
  obtain ⟨i, hi, rfl⟩ := List.getElem_of_mem hp
  have d := dget_at hi I.nd
  have hl := bfs_len h hs I
  obtain ⟨w1, w2⟩ := I.wd i hi
  unfold wordF
  rw [d]
  refine ⟨rfl, w1, by show ((wordsF t e some)[i].2).length ≤ _; omega, fun z => ?_⟩
  have h0 : 0 < (wordsF t e some).length := by omega
  have e0 : (wordsF t e some)[0] = (e, []) := by
    have := I.one
    rw [List.getElem?_eq_getElem h0] at this
    exact Option.some.inj this
  have d0 := dget_at h0 I.nd
  rw [e0] at d0
  rw [z] at d
  rw [d0] at d
  exact (Option.some.inj d).symm
end
/-! ### own dicts of own lists -/
def kvq (kvs : Kvs) (qs : List Addr) : List (Key × V) := List.zipWith (fun x q => ((Sum.inl x.1 : Key), V.ref q)) kvs qs
def Od2 (kvs : Kvs) : Own := ⟨fun _ _ h v => ∃ (p : Addr) (qs : List Addr), v = .ref p ∧ (p :: qs).Nodup ∧ h p = some (.dK (kvq kvs qs)) ∧ Paired (fun (q : Addr) (x : Int × List Int) => h q = some (.lst (x.2.map V.int))) qs kvs, fun _ h => h⟩
abbrev Sl.d2 (kvs : Kvs) : Sl := .ow (Od2 kvs)
theorem kvq_get {k : Int} : ∀ {kvs : Kvs} {qs : List Addr}, qs.length = kvs.length → (dget kvs k = none ∧ valV (kvq kvs qs) (Sum.inl k) = none) ∨ ∃ (i : Nat) (q : Addr) (x : Int × List Int), qs[i]? = some q ∧ kvs[i]? = some x ∧ x.1 = k ∧ dget kvs k = some x.2 ∧ valV (kvq kvs qs) (Sum.inl k) = some (.ref q)
  | [], [], _ => .inl ⟨rfl, rfl⟩
  | x :: kvs, q :: qs, h => by
    by_cases c : x.1 = k
    · refine .inr ⟨0, q, x, rfl, rfl, c, ?_, ?_⟩
      · unfold dget; simp [c]
      · show valV ((Sum.inl x.1, V.ref q) :: kvq kvs qs) (Sum.inl k) = _
        exact valV_pos (by rw [c])
    · have e1 : dget (x :: kvs) k = dget kvs k := dget_neg c
      have e2 : valV (kvq (x :: kvs) (q :: qs)) (Sum.inl k) = valV (kvq kvs qs) (Sum.inl k) := valV_neg fun z => c (Sum.inl.inj z)
      rw [e1, e2]
      rcases kvq_get (k := k) (kvs := kvs) (qs := qs) (by simpa using h) with q1 | ⟨i, q', x', a, b, d, f, g⟩
      · exact .inl q1
      · exact .inr ⟨i + 1, q', x', by simpa using a, by simpa using b, d, f, g⟩
theorem slok_d2 {Z : Zz} {R H : Hp} {p : Addr} {qs : List Addr} {kvs : Kvs} (nd : (p :: qs).Nodup) (h1 : H p = some (.dK (kvq kvs qs))) (h2 : Paired (fun q x => H q = some (.lst (x.2.map V.int))) qs kvs) : slok Z R H (some (.ref p)) (.d2 kvs) (p :: qs) := by
  have key : ∀ {qs' : List Addr} {kvs' : Kvs}, (∀ q ∈ qs', q ∈ p :: qs) → Paired (fun q x => H q = some (.lst (x.2.map V.int))) qs' kvs' → Paired (fun q (x : Int × List Int) => res H (p :: qs) q = some (.lst (x.2.map V.int))) qs' kvs' ∧ ∀ q ∈ qs', H q ≠ none := by
    intro qs' kvs' hs h
    induction h with
    | nil => exact ⟨.nil, fun q hq => by simp at hq⟩
    | cons r t ih =>
      obtain ⟨a, b⟩ := ih fun q hq => hs q (List.mem_cons_of_mem _ hq)
      refine ⟨.cons (by rw [res_in (hs _ List.mem_cons_self)]; exact r) a, fun q hq => ?_⟩
      rcases List.mem_cons.mp hq with rfl | hq
      · rw [r]; simp
      · exact b q hq
  obtain ⟨a, b⟩ := key (fun q hq => List.mem_cons_of_mem _ hq) h2
  refine ⟨_, rfl, ⟨p, qs, rfl, nd, by rw [res_in (by simp)]; exact h1, a⟩, fun q hq => ?_⟩
  rcases List.mem_cons.mp hq with rfl | hq
  · rw [h1]; simp
  · exact b q hq
theorem slok_d2' {Z : Zz} {R H : Hp} {o : Option V} {kvs : Kvs} {f : List Addr} (h : slok Z R H o (.d2 kvs) f) : ∃ (p : Addr) (qs : List Addr), o = some (.ref p) ∧ (p :: qs).Nodup ∧ (∀ q ∈ p :: qs, q ∈ f) ∧ H p = some (.dK (kvq kvs qs)) ∧ Paired (fun q x => H q = some (.lst (x.2.map V.int))) qs kvs := by
  obtain ⟨v, rfl, ⟨p, qs, rfl, nd, h1, h2⟩, _⟩ := h
  obtain ⟨m1, e1⟩ := res_some h1
  refine ⟨p, qs, rfl, nd, fun q hq => ?_, e1, paired_mono (fun q x r => (res_some r).2) h2⟩
  rcases List.mem_cons.mp hq with rfl | hq
  · exact m1
  · have key : ∀ {qs' : List Addr} {kvs' : Kvs}, Paired (fun q (x : Int × List Int) => res H f q = some (.lst (x.2.map V.int))) qs' kvs' → ∀ q ∈ qs', q ∈ f := by
      intro qs' kvs' h
      induction h with
      | nil => intro q hq; simp at hq
      | cons r t ih =>
        intro q hq
        rcases List.mem_cons.mp hq with rfl | hq
        · exact (res_some r).1
        · exact ih q hq
    exact key h2 q hq
theorem putK_end {kv : List (Key × V)} {k : Key} {v : V} (h : valV kv k = none) : putK kv k v = kv ++ [(k, v)] := putK_new v h
/-- new own objects on top -/
theorem sx_newO {Z : Zz} {B R0 R H H' : Hp} {ρ σ : List (Option V)} {Δ Γ : List Sl} {o : Option V} {s : Sl} {f : List Addr} (S : Sx Z B R0 R H ρ Δ σ Γ) (e : Same H H') (hf : ∀ b ∈ f, H b = none) (nd : f.Nodup) (h : slok Z R H' o s f) : Sx Z B R0 R H' (o :: ρ) (s :: Δ) σ Γ := by
  obtain ⟨hl, own, hs, es⟩ := S
  have ks : ∀ p ∈ own, H' p = H p := fun p hp => by
    cases q : H p with
    | none => exact absurd q (es_some es p hp)
    | some o => exact e p o q
  refine ⟨by simp [hl], f ++ own, ⟨hs.rh.trans e, hs.bh.trans e, hs.r0, hs.nw, fun p hp => ?_, ?_⟩, f, own, rfl, h, es_mono (Same.refl _) ks es⟩
  · rcases List.mem_append.mp hp with q | q
    · exact ⟨hs.rh.free (hf p q), hs.bh.free (hf p q)⟩
    · exact hs.ow p q
  · rw [List.nodup_append]
    exact ⟨nd, hs.nd, fun a ha b hb z => es_some es b hb (z ▸ hf a ha)⟩
/-- a slot's own objects change, and there may be new ones among them -/
theorem sx_grow {Z : Zz} {B R0 R H : Hp} {ρ σ : List (Option V)} {Δ Γ : List Sl} {s : Sl} (S : Sx Z B R0 R H ρ Δ σ Γ) {i : Nat} (e : Γ[i]? = some s) : ∃ o f, σ[i]? = some o ∧ slok Z R H o s f ∧ f.Nodup ∧
    ∀ (H' : Hp) (s' : Sl) (f' : List Addr), (∀ p, p ∉ f → H p ≠ none → H' p = H p) → f'.Nodup → (∀ p ∈ f', p ∈ f ∨ H p = none) → slok Z R H' o s' f' → Sx Z B R0 R H' ρ Δ σ (Γ.set i s') := by
  obtain ⟨hl, own, hs, es⟩ := S
  have e' : (Δ ++ Γ)[ρ.length + i]? = some s := by rw [at_slot hl]; exact e
  obtain ⟨o, g1, f, g2, h2, h3, h4, h6⟩ := es_at es e'
  rw [at_slot'] at h2
  subst h3
  have nd := hs.nd
  have al := es_some es
  refine ⟨o, f, h2, h4, by simp only [List.nodup_append] at nd; exact nd.1.2.1, fun H' s' f' k ndf sub h5 => ⟨hl, ?_⟩⟩
  have ne : ∀ q ∈ g1 ++ g2, q ∉ f := fun q hq z => by
    simp only [List.nodup_append, List.mem_append] at nd hq
    grind
  have al2 : ∀ q ∈ g1 ++ g2, H q ≠ none := fun q hq => al q (by simp only [List.mem_append] at hq ⊢; grind)
  have h7 := h6 R H' o s' f' (Same.refl _) (fun q hq => k q (ne q hq) (al2 q hq)) h5
  have e2 : (ρ ++ σ).set (ρ.length + i) o = ρ ++ σ := set_same (by rw [at_slot']; exact h2)
  rw [e2, hl, List.set_append_right _ _ (by omega), show Δ.length + i - Δ.length = i by omega] at h7
  have out : ∀ p, (R p ≠ none ∨ B p ≠ none) → p ∉ f := fun p hp z => by
    have := hs.ow p (by simp [z])
    rcases hp with q | q
    · exact q this.1
    · exact q this.2
  have some_of : ∀ {p : Addr} {o : HO}, H p = some o → H p ≠ none := fun e => by rw [e]; simp
  refine ⟨_, ⟨fun p o a => by rw [k p (out p (.inl (by rw [a]; simp))) (some_of (hs.rh _ _ a))]; exact hs.rh _ _ a, fun p o a => by rw [k p (out p (.inr (by rw [a]; simp))) (some_of (hs.bh _ _ a))]; exact hs.bh _ _ a, hs.r0, hs.nw, fun p hp => ?_, ?_⟩, h7⟩
  · simp only [List.mem_append] at hp
    rcases hp with (hp | hp) | hp
    · exact hs.ow p (by simp [hp])
    · rcases sub p hp with q | q
      · exact hs.ow p (by simp [q])
      · exact ⟨hs.rh.free q, hs.bh.free q⟩
    · exact hs.ow p (by simp [hp])
  · have dis : ∀ p ∈ f', p ∉ g1 ++ g2 := fun p hp z => by
      rcases sub p hp with q | q
      · exact ne p z q
      · exact al2 p z q
    simp only [List.nodup_append, List.mem_append] at nd dis ⊢
    grind
section
variable {c : Cn} {Γ : List Sl} {ta tb te tl ty tk : TE} {tt tc : TT} {t u : TS} {s s' so : Sl} {α β γ : Type} {_ : Rp α} {_ : Rp β} {_ : Rp γ} {P : Po} {d : α} {kvs : Kvs}
theorem ev_inD2 {i : Nat} {k : Int} (e : Γ[i]? = some (.d2 kvs)) (hk : Ev c Γ ta (.im k)) : Ev c Γ (tOp (gNotIn c.Z.K) ta (tVar i)) (.im (!(dget kvs k).isSome)) := fun B R0 R H ρ Δ σ S Q q x =>
  hk B R0 R H ρ Δ σ S _ (fun z R1 H1 S1 => by
    have ez : z = .int k := sx_top' S1
    subst ez
    obtain ⟨o, f, h2, h3⟩ := sx_slot (sx_pop S1) e
    obtain ⟨p, qs, rfl, nd, _, h4, h5⟩ := slok_d2' h3
    refine ⟨.ref p, h2, .inr ⟨p, _, rfl, DGet.k (k := Sum.inl k) h4, ?_⟩⟩
    rcases kvq_get (k := k) (Paired.length h5) with ⟨g1, g2⟩ | ⟨_, w, v, _, _, _, g1, g2⟩
    · rw [g2]; exact q _ R1 H1 (sx_push (sx_pop S1) (by rw [g1]; rfl))
    · rw [g2]; exact q _ R1 H1 (sx_push (sx_pop S1) (by rw [g1]; rfl))) x
/-- {k: []} -/
theorem ev_disp2 {k : Int} (hk : EvP c Γ tk k) : Ev c Γ (tDisp [(tk, tLst tNil)]) (.d2 [(k, [])]) := fun B R0 R H ρ Δ σ S Q q x => by
  intro p np
  refine hk B R0 R _ ρ Δ σ (sx_alloc S np (.dK [])) _ fun v rv => ⟨by decide, fun r nr => ?_⟩
  have ev : v = .int k := rv
  subst ev
  have nrp : r ≠ p := fun z => by rw [z, upd_same] at nr; cases nr
  have nr' : H r = none := by rw [upd_ne nrp] at nr; exact nr
  refine ⟨by rw [upd_ne (Ne.symm nrp), upd_same], [(Sum.inl k, .ref r)], rfl, by simp, q _ R _ ?_⟩
  refine sx_newO S (f := [p, r]) (fun b o e => ?_) (fun b hb => ?_) (by simp [Ne.symm nrp]) (slok_d2 (qs := [r]) (by simp [Ne.symm nrp]) (by rw [upd_same]; rfl) (.cons (by rw [upd_ne nrp, upd_same]; rfl) .nil))
  · have b1 : b ≠ p := fun z => by subst z; rw [np] at e; cases e
    have b2 : b ≠ r := fun z => by subst z; rw [nr'] at e; cases e
    rw [upd_ne b1, upd_ne b2, upd_ne b1]
    exact e
  · simp only [List.mem_cons, List.not_mem_nil, or_false] at hb
    rcases hb with rfl | rfl
    · exact np
    · exact nr'
/-- reads of own lists, the heap as it was -/
theorem ep_ixO {xs : List α} {i : Nat} {k : Int} (e : Γ[i]? = some (.ol xs)) (hb : EvP c Γ tb k) (h0 : 0 ≤ k) (h1 : k < xs.length) : EvP c Γ (tOp (gIx c.Z.K) (tVar i) tb) (gt xs k) := fun B R0 R H ρ Δ σ S Q q => by
  obtain ⟨p, vs, h2, h3, h4, _⟩ := sx_mutl S e
  refine ⟨.ref p, h2, hb B R0 R H ρ Δ σ S _ fun w rw' => ?_⟩
  have ew : w = .int k := rw'
  subst ew
  obtain ⟨v, hv, rv⟩ := paired_get h4 (gt_some h0 h1)
  exact .inl ⟨p, vs, k, v, rfl, rfl, SqL.of h3, atI_of h0 (by rw [Paired.length h4]; exact h1) hv, q v rv⟩
theorem paired_mono_mem {F G : α → β → Prop} : ∀ {l : List α} {m : List β}, Paired F l m → (∀ a b, a ∈ l → F a b → G a b) → Paired G l m
  | _, _, .nil, _ => .nil
  | _, _, .cons r t, h => .cons (h _ _ List.mem_cons_self r) (paired_mono_mem t fun a b ha => h a b (List.mem_cons_of_mem _ ha))
theorem paired_snoc {F : α → β → Prop} {l : List α} {m : List β} {a : α} {b : β} (h : Paired F l m) (r : F a b) : Paired F (l ++ [a]) (m ++ [b]) := paired_append h (.cons r .nil)
theorem kvq_snoc {qs : List Addr} {x : Int × List Int} {q : Addr} (h : qs.length = kvs.length) : kvq (kvs ++ [x]) (qs ++ [q]) = kvq kvs qs ++ [(Sum.inl x.1, .ref q)] := by
  unfold kvq
  rw [List.zipWith_append h.symm]
  rfl
/-- d[b] = d[a] + [y], b not in d -/
theorem w_word {i : Nat} {a b y : Int} {w : List Int} (e : Γ[i]? = some (.d2 kvs)) (ha : EvP c Γ tk a) (hy : EvP c Γ ty y) (hb : EvP c Γ tb b) (hw : dget kvs a = some w) (hn : dget kvs b = none) (hl : kvs.length < 1000000) (hl2 : w.length < 1000000)
    (k : P.nx (Γ.set i (.d2 (kvs ++ [(b, w ++ [y])])))) : W c Γ (tAsg (tOp gAdd (tOp (gIx c.Z.K) (tVar i) tk) (tLst (tCons ty tNil))) (gSub (tVar i) tb gSet)) P := fun B R0 R H ρ Δ σ D S n r bb kk x => by
  obtain ⟨o, f, h1, h2, hnd, h3⟩ := sx_grow S e
  obtain ⟨p, qs, rfl, nd, sub, h4, h5⟩ := slok_d2' h2
  have hql := Paired.length h5
  rcases kvq_get (k := a) hql with ⟨g1, _⟩ | ⟨j, q, z, gq, gz, gk, g1, g2⟩
  · rw [g1] at hw; cases hw
  rw [g1] at hw
  cases hw
  have hq : H q = some (.lst (z.2.map V.int)) := by
    obtain ⟨q', e1, e2⟩ := paired_get h5 gz
    rw [gq] at e1
    cases e1
    exact e2
  have g3 : valV (kvq kvs qs) (Sum.inl b) = none := by
    rcases kvq_get (k := b) hql with ⟨_, g⟩ | ⟨_, _, _, _, _, _, g, _⟩
    · exact g
    · rw [hn] at g; cases g
  refine ⟨.ref p, h1, ha B R0 R H ρ Δ σ S _ fun v rv => ?_⟩
  have ev : v = .int a := rv
  subst ev
  refine .inr (.inr ⟨p, .ref q, rfl, by rw [← g2]; exact DGet.k (k := Sum.inl a) h4, ?_⟩)
  refine hy B R0 R H ρ Δ σ S _ fun v rv => ⟨by show 1 ≤ sizeLine; decide, fun r1 nr1 => ?_⟩
  have ev : v = .int y := rv
  subst ev
  have nq : q ≠ r1 := fun z => by rw [z, nr1] at hq; cases hq
  refine .inr ⟨q, r1, z.2.map V.int, [.int y], rfl, rfl, by rw [upd_ne nq]; exact hq, upd_same, Nat.le_trans (by simp; omega : (z.2.map V.int).length + [V.int y].length ≤ 1000000) (by decide), fun r2 nr2 => ?_⟩
  have n21 : r2 ≠ r1 := fun z => by rw [z, upd_same] at nr2; cases nr2
  have nr2' : H r2 = none := by rw [upd_ne n21] at nr2; exact nr2
  have S2 := sx_alloc (sx_alloc S nr1 (.lst [.int y])) nr2 (.lst (z.2.map V.int ++ [.int y]))
  refine ⟨.ref p, h1, hb B R0 R _ ρ Δ σ S2 _ fun v rv => ?_⟩
  have ev : v = .int b := rv
  subst ev
  have np1 : p ≠ r1 := fun z => by rw [z, nr1] at h4; cases h4
  have np2 : p ≠ r2 := fun z => by rw [z, nr2'] at h4; cases h4
  have hp2 : (upd (upd H r1 (.lst [.int y])) r2 (.lst (z.2.map V.int ++ [.int y]))) p = some (.dK (kvq kvs qs)) := by rw [upd_ne np2, upd_ne np1]; exact h4
  have hkl : (kvq kvs qs).length < 1000000 := by unfold kvq; rw [List.length_zipWith]; omega
  refine .inr ⟨p, _, rfl, DPut.k (k := Sum.inl b) hp2 (Nat.lt_of_lt_of_le hkl (by decide)), ?_⟩
  rw [putK_end g3]
  have fr : ∀ q' ∈ p :: qs, H q' ≠ none := fun q' hq' => slok_some h2 q' (sub q' hq')
  have nq2 : ∀ q' ∈ p :: qs, q' ≠ r2 := fun q' hq' z => fr q' hq' (z ▸ nr2')
  have nq1 : ∀ q' ∈ p :: qs, q' ≠ r1 := fun q' hq' z => fr q' hq' (z ▸ nr1)
  refine n R _ σ _ ?_ k
  refine h3 _ (.d2 (kvs ++ [(b, z.2 ++ [y])])) (p :: (qs ++ [r2])) (fun p' hp' hn' => ?_) ?_ (fun p' hp' => ?_) (slok_d2 ?_ (by rw [upd_same, kvq_snoc hql]) (paired_snoc (paired_mono_mem h5 fun q' x' hq' r' => ?_) ?_))
  · have a1 : p' ≠ p := fun z => hp' (z ▸ sub p (by simp))
    have a2 : p' ≠ r2 := fun z => hn' (z ▸ nr2')
    have a3 : p' ≠ r1 := fun z => hn' (z ▸ nr1)
    rw [upd_ne a1, upd_ne a2, upd_ne a3]
  · have := nq2
    simp only [List.nodup_cons, List.nodup_append, List.mem_cons, List.mem_append] at nd this ⊢
    grind
  · simp only [List.mem_cons, List.mem_append, List.not_mem_nil, or_false] at hp'
    rcases hp' with q' | q' | q'
    · exact .inl (sub _ (by simp [q']))
    · exact .inl (sub _ (by simp [q']))
    · exact .inr (q' ▸ nr2')
  · have := nq2
    simp only [List.nodup_cons, List.nodup_append, List.mem_cons, List.mem_append] at nd this ⊢
    grind
  · have a1 : q' ≠ p := fun z => (List.nodup_cons.mp nd).1 (z ▸ hq')
    rw [upd_ne a1, upd_ne (nq2 q' (by simp [hq'])), upd_ne (nq1 q' (by simp [hq']))]
    exact r'
  · rw [upd_ne (Ne.symm np2), upd_same, List.map_append]
    rfl
/-- return (xs, [d[x] for x in xs]) -/
theorem w_retClo {i j l : Nat} {xs : List Int} (hij : j ≠ i) (hl1 : l ≠ i) (hl2 : l ≠ j) (hlt : l < Γ.length) (e : Γ[i]? = some (.ol xs)) (e2 : Γ[j]? = some (.d2 kvs)) (nd : xs.Nodup) (hx : ∀ x ∈ xs, (dget kvs x).isSome = true) (hkn : (kvs.map (·.1)).Nodup) (hlen : xs.length < 1000000)
    (k : P.rt (.ot (.t [oti xs, otii (xs.map fun x => (dget kvs x).getD [])]))) : W c Γ (tRet (tTup (tCons (tVar i) (tCons (tLc (iList c.Z.K (tVar i)) (gName l) tYes (tOp (gIx c.Z.K) (tVar j) (tVar l)) [l]) tNil)))) P := fun B R0 R H ρ Δ σ D S n r bb kk x => by
  have ls := sx_len S
  obtain ⟨o2, q2, S1⟩ := sx_take S e2
  obtain ⟨o1, q1, S2⟩ := sx_take S1 (i := i) (by rw [List.getElem?_set_ne hij]; exact e)
  obtain ⟨hl, own, hs, f, g, rfl, ⟨p1, vs, rfl, rfl, h1, h2⟩, f2, g2, rfl, h3, h4⟩ := sx_leave S2
  have ev := paired_map_int h2
  subst ev
  obtain ⟨p, qs, rfl, ndq, sub, h5, h6⟩ := slok_d2' h3
  have hql := Paired.length h6
  refine ⟨.ref p1, q1, .ref p1, q1, p1, rfl, ⟨_, SqL.of h1⟩, ?_⟩
  -- each key's list
  have adr : ∀ x ∈ xs, ∃ (m : Nat) (q : Addr) (z : Int × List Int), qs[m]? = some q ∧ kvs[m]? = some z ∧ z.1 = x ∧ dget kvs x = some z.2 ∧ valV (kvq kvs qs) (Sum.inl x) = some (.ref q) := fun x hxx => by
    rcases kvq_get (k := x) hql with ⟨g1, _⟩ | h
    · have := hx x hxx; rw [g1] at this; cases this
    · exact h
  have ex : ∃ as : List Addr, as.length = xs.length ∧ (∀ (m : Nat) (x : Int), xs[m]? = some x → ∃ q, as[m]? = some q ∧ q ∈ qs ∧ valV (kvq kvs qs) (Sum.inl x) = some (.ref q) ∧ H q = some (.lst (((dget kvs x).getD []).map V.int))) ∧ as.Nodup ∧ ∀ q ∈ as, q ∈ qs := by
    have key : ∀ ys : List Int, (∀ y ∈ ys, y ∈ xs) → ys.Nodup → ∃ as : List Addr, as.length = ys.length ∧ (∀ (m : Nat) (x : Int), ys[m]? = some x → ∃ q, as[m]? = some q ∧ q ∈ qs ∧ valV (kvq kvs qs) (Sum.inl x) = some (.ref q) ∧ H q = some (.lst (((dget kvs x).getD []).map V.int))) ∧ as.Nodup ∧ (∀ q ∈ as, q ∈ qs ∧ ∃ y ∈ ys, valV (kvq kvs qs) (Sum.inl y) = some (.ref q)) := by
      intro ys
      induction ys with
      | nil => exact fun _ _ => ⟨[], rfl, fun m x h => by simp at h, List.nodup_nil, fun q hq => by simp at hq⟩
      | cons y ys ih =>
        intro hys hnd
        obtain ⟨n1, n2⟩ := List.nodup_cons.mp hnd
        obtain ⟨as, a1, a2, a3, a4⟩ := ih (fun z hz => hys z (by simp [hz])) n2
        obtain ⟨m, q, z, b1, b2, b3, b4, b5⟩ := adr y (hys y (by simp))
        have hqq : q ∈ qs := List.mem_of_getElem? b1
        have hH : H q = some (.lst (((dget kvs y).getD []).map V.int)) := by
          obtain ⟨q', c1, c2⟩ := paired_get h6 b2
          rw [b1] at c1
          cases c1
          rw [b4]
          exact c2
        refine ⟨q :: as, by simp [a1], fun m' x' hm' => ?_, List.nodup_cons.mpr ⟨fun hin => ?_, a3⟩, fun q' hq' => ?_⟩
        · cases m' with
          | zero =>
            have : y = x' := by simpa using hm'
            subst this
            exact ⟨q, rfl, hqq, b5, hH⟩
          | succ m' =>
            obtain ⟨q', c1, c2⟩ := a2 m' x' (by simpa using hm')
            exact ⟨q', by simpa using c1, c2⟩
        · obtain ⟨_, y', hy', hv'⟩ := a4 q hin
          obtain ⟨m', q', z', c1, c2, c3, c4, c5⟩ := adr y' (hys y' (by simp [hy']))
          rw [c5] at hv'
          cases hv'
          have em : m = m' := by
            have nq := (List.nodup_cons.mp ndq).2
            obtain ⟨i1, i2⟩ := List.getElem?_eq_some_iff.mp b1
            obtain ⟨i3, i4⟩ := List.getElem?_eq_some_iff.mp c1
            exact (List.getElem_inj nq).mp (i2.trans i4.symm)
          subst em
          rw [b2] at c2
          cases c2
          exact n1 (b3 ▸ c3 ▸ hy')
        · rcases List.mem_cons.mp hq' with rfl | hq'
          · exact ⟨hqq, y, by simp, b5⟩
          · obtain ⟨c1, y', c2, c3⟩ := a4 q' hq'
            exact ⟨c1, y', by simp [c2], c3⟩
    obtain ⟨as, a1, a2, a3, a4⟩ := key xs (fun _ h => h) nd
    exact ⟨as, a1, a2, a3, fun q hq => (a4 q hq).1⟩
  obtain ⟨as, a1, a2, a3, a4⟩ := ex
  intro Dl hD
  have nD1 : p1 ≠ Dl := fun z => by rw [z, hD] at h1; cases h1
  have nDp : p ≠ Dl := fun z => by rw [z, hD] at h5; cases h5
  have al := es_some (Z := c.Z) (R := R) (H := H) (τ := some (.ref p1) :: some (.ref p) :: (ρ ++ [])) (Θ := .ol xs :: .d2 kvs :: (Δ ++ [])) (own := [p1] ++ (f2 ++ g2)) ⟨[p1], _, rfl, ⟨p1, _, rfl, rfl, h1, h2⟩, f2, g2, rfl, h3, h4⟩
  have qal : ∀ q ∈ qs, H q ≠ none := fun q hq => al q (by simp [sub q (by simp [hq])])
  refine ⟨fun m w H2 => w = xs.length - m ∧ m ≤ xs.length ∧ H2 = upd H Dl (.lst ((as.take m).map V.ref)), ⟨xs.length, by simp, Nat.zero_le _, by simp⟩, ?_⟩
  rintro m w H2 ⟨rfl, hm, rfl⟩
  have hL : (upd H Dl (.lst ((as.take m).map V.ref))) p1 = some (.lst (xs.map V.int)) := by rw [upd_ne nD1]; exact h1
  by_cases hlt2 : m < xs.length
  · refine .inr ⟨⟨_, .int xs[m], SqL.of hL, by rw [List.getElem?_map, List.getElem?_eq_getElem hlt2]; rfl⟩, fun H' => H' = upd H Dl (.lst ((as.take (m + 1)).map V.ref)), fun H' h => ⟨xs.length - (m + 1), by omega, rfl, hlt2, h⟩, ?_⟩
    rintro y H' ⟨rfl, hy⟩
    have := hy _ (SqL.of hL)
    rw [List.getElem?_map, List.getElem?_eq_getElem hlt2] at this
    cases this
    obtain ⟨q, b1, b2, b3, b4⟩ := a2 m xs[m] (List.getElem?_eq_getElem hlt2)
    refine ⟨(wipe_set (j := l) (vs := [l]) (List.mem_singleton.mpr rfl)).trans (wipe_wipe σ [l]), ?_⟩
    have g1 : ((wipe σ [l]).set l (some (V.int xs[m])))[j]? = some (some (.ref p)) := by
      rw [List.getElem?_set_ne hl2]
      show (σ.set l none)[j]? = _
      rw [List.getElem?_set_ne hl2]
      exact q2
    have g3 : ((wipe σ [l]).set l (some (V.int xs[m])))[l]? = some (some (.int xs[m])) := by
      rw [List.getElem?_set_self]
      show l < (σ.set l none).length
      rw [List.length_set]
      omega
    have hp : (upd H Dl (.lst ((as.take m).map V.ref))) p = some (.dK (kvq kvs qs)) := by rw [upd_ne nDp]; exact h5
    refine ⟨.ref p, g1, .int xs[m], g3, .inr (.inr ⟨p, .ref q, rfl, by rw [← b3]; exact DGet.k (k := Sum.inl xs[m]) hp, ?_⟩)⟩
    have ham : m < as.length := by omega
    refine ⟨_, upd_same, Nat.lt_of_lt_of_le (by rw [List.length_map, List.length_take]; omega : ((as.take m).map V.ref).length < 1000000) (by decide), ?_⟩
    have eq : as[m] = q := by
      rw [List.getElem?_eq_getElem ham] at b1
      exact Option.some.inj b1
    rw [take_snoc ham, List.map_append, eq]
    funext b
    by_cases hb : b = Dl
    · subst hb; rw [upd_same, upd_same]; rfl
    · rw [upd_ne hb, upd_ne hb, upd_ne hb]
  · have em : m = xs.length := by omega
    subst em
    have eA : as.take xs.length = as := by rw [← a1, List.take_length]
    rw [eA] at hL ⊢
    refine .inl ⟨⟨_, SqL.of hL, by rw [List.length_map]; exact Nat.le_refl _⟩, by show 2 ≤ sizeLine; decide, fun T nT => ?_⟩
    have nTD : T ≠ Dl := fun z => by rw [z, upd_same] at nT; cases nT
    have nT' : H T = none := by rw [upd_ne nTD] at nT; exact nT
    have nT1 : p1 ≠ T := fun z => by rw [z, nT'] at h1; cases h1
    have ow := hs.ow
    have ndo := hs.nd
    have hpair : Paired (fun q xs => (upd (upd H Dl (.lst (as.map V.ref))) T (.tup [.ref p1, .ref Dl])) q = some (.lst (xs.map V.int))) as (xs.map fun x => (dget kvs x).getD []) := by
      have key : ∀ (as' : List Addr) (ys : List Int), as'.length = ys.length → (∀ (m : Nat) (x : Int), ys[m]? = some x → ∃ q, as'[m]? = some q ∧ q ∈ qs ∧ H q = some (.lst (((dget kvs x).getD []).map V.int))) → Paired (fun q xs => (upd (upd H Dl (.lst (as.map V.ref))) T (.tup [.ref p1, .ref Dl])) q = some (.lst (xs.map V.int))) as' (ys.map fun x => (dget kvs x).getD []) := by
        intro as'
        induction as' with
        | nil => intro ys hy _; rw [List.length_eq_zero_iff.mp hy.symm]; exact .nil
        | cons a as' ih =>
          intro ys hy h
          match ys, hy with
          | y :: ys, hy =>
            refine .cons ?_ (ih ys (by simpa using hy) fun m x hm => ?_)
            · obtain ⟨q, b1, b2, b3⟩ := h 0 y rfl
              have : a = q := by simpa using b1
              subst this
              have z1 : a ≠ T := fun z => qal a b2 (z ▸ nT')
              have z2 : a ≠ Dl := fun z => qal a b2 (z ▸ hD)
              rw [upd_ne z1, upd_ne z2]
              exact b3
            · obtain ⟨q, b1, b2⟩ := h (m + 1) x (by simpa using hm)
              exact ⟨q, by simpa using b1, b2⟩
      exact key as xs a1 fun m x hm => by
        obtain ⟨q, b1, b2, _, b4⟩ := a2 m x hm
        exact ⟨q, b1, b2, b4⟩
    have ndT : (T :: p1 :: Dl :: as).Nodup := by
      refine List.nodup_cons.mpr ⟨?_, List.nodup_cons.mpr ⟨?_, List.nodup_cons.mpr ⟨?_, a3⟩⟩⟩
      · simp only [List.mem_cons, not_or]
        exact ⟨Ne.symm nT1, nTD, fun z => qal T (a4 T z) nT'⟩
      · simp only [List.mem_cons, not_or]
        refine ⟨nD1, fun z => ?_⟩
        have := sub p1 (by simp [a4 p1 z])
        simp only [List.cons_append, List.nil_append, List.nodup_cons, List.mem_append] at ndo
        exact ndo.1 (.inl this)
      · exact fun z => qal Dl (a4 Dl z) hD
    have dis : ∀ b ∈ T :: p1 :: Dl :: as, b ∉ g2 := fun b hb hg => by
      simp only [List.mem_cons] at hb
      have alg := al b (by simp [hg])
      rcases hb with rfl | rfl | rfl | hb
      · exact alg nT'
      · simp only [List.cons_append, List.nil_append, List.nodup_cons, List.mem_append] at ndo
        exact ndo.1 (.inr hg)
      · exact alg hD
      · have := sub b (by simp [a4 b hb])
        simp only [List.cons_append, List.nil_append, List.nodup_cons, List.nodup_append] at ndo
        exact ndo.2.2.2 b this b hg rfl
    have same : Same H (upd (upd H Dl (.lst (as.map V.ref))) T (.tup [.ref p1, .ref Dl])) := fun b o eb => by
      have b1 : b ≠ T := fun z => by rw [z, nT'] at eb; cases eb
      have b2 : b ≠ Dl := fun z => by rw [z, hD] at eb; cases eb
      rw [upd_ne b1, upd_ne b2]
      exact eb
    refine r R _ (.ref T) (.ot (.t [oti xs, otii (xs.map fun x => (dget kvs x).getD [])])) ⟨by simpa using hl, (T :: p1 :: Dl :: as) ++ g2, ⟨hs.rh.trans same, hs.bh.trans same, hs.r0, hs.nw, fun b hb => ?_, ?_⟩, T :: p1 :: Dl :: as, g2, rfl, slok_ot ndT ⟨T, _, _, rfl, rfl, upd_same, .ref p1, _, [p1], Dl :: as, rfl, rfl, otR_ints.mpr ⟨p1, rfl, rfl, by rw [upd_ne nT1, upd_ne nD1]; exact h1⟩, .ref Dl, _, Dl :: as, [], rfl, by simp, ⟨Dl, _, as, rfl, rfl, by rw [upd_ne (Ne.symm nTD), upd_same], otRs_iint hpair⟩, rfl, rfl⟩, es_mono (Same.refl _) (fun b hb => ?_) h4⟩ k
    · simp only [List.cons_append, List.mem_cons, List.mem_append] at hb
      rcases hb with rfl | rfl | rfl | hb | hb
      · exact ⟨hs.rh.free nT', hs.bh.free nT'⟩
      · exact ow b (by simp)
      · exact ⟨hs.rh.free hD, hs.bh.free hD⟩
      · exact ow b (by simp [sub b (by simp [a4 b hb])])
      · exact ow b (by simp [hb])
    · rw [List.nodup_append]
      refine ⟨ndT, ?_, fun a ha b hb z => dis a ha (z ▸ hb)⟩
      simp only [List.cons_append, List.nil_append, List.nodup_cons, List.nodup_append] at ndo
      exact ndo.2.2.1
    · have alg := al b (by simp [hb])
      have b1 : b ≠ T := fun z => alg (z ▸ nT')
      have b2 : b ≠ Dl := fun z => alg (z ▸ hD)
      rw [upd_ne b1, upd_ne b2]
end
end TB

/-! TbOq: more of own trees. -/
namespace TB
open PySem L2
section
variable {c : Cn} {Γ : List Sl} {ta tb te tl ty tk : TE} {tt tc : TT} {t u : TS} {s s' so : Sl} {α β γ : Type} {_ : Rp α} {_ : Rp β} {_ : Rp γ} {P : Po} {d : α} {T U : OT}
/-- list(PATH) -/
theorem ev_listOT {i : Nat} {xs : List Int} {put : OT → OT} (e : Γ[i]? = some (.ot T)) (hp : EvAt c i te T (oti xs) put) : Ev c Γ (tCB (gList c.Z.K) (tCons te tNil)) (.ol xs) := fun B R0 R H ρ Δ σ S Q q x => by
  obtain ⟨v, f, h1, h2, h3, _⟩ := sx_ot S e
  refine hp H v f σ h2 h3 h1 _ fun u g _ _ hu _ => ?_
  obtain ⟨a, rfl, rfl, ha⟩ := otR_ints.mp hu
  exact ⟨a, _, rfl, .inl (SqL.of ha), fun l hl => q _ R _ (sx_newl S hl (paired_of_int _))⟩
/-- PATH.append([]), the tree not asked again -/
theorem w_appOTn {i : Nat} {Us : List OT} {put : OT → OT} (e : Γ[i]? = some (.ot T)) (hp : EvAt c i te T (.l Us) put) (hl : Us.length < 1000000) (k : P.nx (Γ.set i .un)) :
    W c Γ (tDrop (tBM c.Z.K "list" rAppend te (tCons (tLst tNil) tNil))) P := fun B R0 R H ρ Δ σ D S n r bb kk x => by
  obtain ⟨o, f0, h1, hs, hnd, hg⟩ := sx_grow S e
  obtain ⟨v, f, rfl, h3, sub, h2⟩ := slok_ot' hs
  refine hp H v f σ h2 h3 h1 _ fun u g ndg sub2 ⟨a, vs, g', eu, eg, h6, h7⟩ back => ?_
  subst eu eg
  have hlen := otRs_len h7
  refine ⟨tyL h6, by decide, fun r1 nr => ?_⟩
  have na : a ≠ r1 := fun z => by rw [z, nr] at h6; cases h6
  refine ⟨a, vs, .ref r1, rfl, rfl, by rw [upd_ne na]; exact h6, Nat.lt_of_lt_of_le (by omega : vs.length < 1000000) (by decide), n R _ _ _ (hg _ .un [] (fun p hp' hn => ?_) List.nodup_nil (fun p hp' => by simp at hp') rfl) k⟩
  have a1 : p ≠ a := fun z => hp' (sub _ (sub2 _ (by simp [z])))
  have a2 : p ≠ r1 := fun z => hn (z ▸ nr)
  rw [upd_ne a1, upd_ne a2]
/-- xs.append((ys, list(ys))), ys moved -/
theorem w_appPair {i j : Nat} {Us : List OT} {xs : List Int} (hij : i ≠ j) (e : Γ[i]? = some (.ot (.l Us))) (e2 : Γ[j]? = some (.ol xs)) (hl : Us.length < 1000000) (k : P.nx ((Γ.set j .un).set i (.ot (.l (Us ++ [.t [oti xs, oti xs]]))))) :
    W c Γ (tDrop (tBM c.Z.K "list" rAppend (tVar i) (tCons (tTup (tCons (tVar j) (tCons (tCB (gList c.Z.K) (tCons (tVar j) tNil)) tNil))) tNil))) P := fun B R0 R H ρ Δ σ D S n r bb kk x => by
  obtain ⟨o1, h1, S1⟩ := sx_take S e
  obtain ⟨o2, h2, S2⟩ := sx_take S1 (i := j) (by rw [List.getElem?_set_ne hij]; exact e2)
  obtain ⟨hl0, own, hs, f, g, rfl, ⟨q, vs, rfl, rfl, h3, h4⟩, f2, g2, rfl, h5, h6⟩ := S2
  have ev := paired_map_int h4
  subst ev
  obtain ⟨v, f', rfl, nd', sub', a, us, g', rfl, rfl, h7, h8⟩ := slok_ot' h5
  have hlen := otRs_len h8
  have al := es_some (Z := c.Z) (R := R) (H := H) (τ := some (.ref q) :: some (.ref a) :: (ρ ++ σ)) (Θ := .ol xs :: .ot (.l Us) :: (Δ ++ ((Γ.set i .un).set j .un))) (own := [q] ++ (f2 ++ g2)) ⟨[q], _, rfl, ⟨q, _, rfl, rfl, h3, h4⟩, f2, g2, rfl, h5, h6⟩
  refine ⟨.ref a, h1, tyL h7, .ref q, h2, .ref q, h2, q, _, rfl, .inl (SqL.of h3), fun l1 hl1 => ⟨by show 2 ≤ sizeLine; decide, fun T1 hT1 => ?_⟩⟩
  have nT : T1 ≠ l1 := fun z => by rw [z, upd_same] at hT1; cases hT1
  have hT1' : H T1 = none := by rw [upd_ne nT] at hT1; exact hT1
  have na1 : a ≠ l1 := fun z => by rw [z, hl1] at h7; cases h7
  have naT : a ≠ T1 := fun z => by rw [z, hT1'] at h7; cases h7
  have nq1 : q ≠ l1 := fun z => by rw [z, hl1] at h3; cases h3
  have nqT : q ≠ T1 := fun z => by rw [z, hT1'] at h3; cases h3
  have ndo := hs.nd
  have nqa : q ≠ a := fun z => by
    have := sub' a (by simp)
    simp only [List.cons_append, List.nil_append, List.nodup_cons, List.mem_append] at ndo
    exact ndo.1 (.inl (z ▸ this))
  have hqf : ∀ p ∈ a :: g', p ≠ q := fun p hp z => by
    have := sub' p hp
    simp only [List.cons_append, List.nil_append, List.nodup_cons, List.mem_append] at ndo
    exact ndo.1 (.inl (z ▸ this))
  refine ⟨a, us, .ref T1, rfl, rfl, by rw [upd_ne naT, upd_ne na1]; exact h7, Nat.lt_of_lt_of_le (by omega : us.length < 1000000) (by decide), ?_⟩
  have gal : ∀ p ∈ g', H p ≠ none := fun p hp => al p (by simp [sub' p (by simp [hp])])
  have nag : a ∉ g' := (List.nodup_cons.mp nd').1
  have keep : ∀ p ∈ g', (upd (upd (upd H l1 (.lst (xs.map V.int))) T1 (.tup [.ref q, .ref l1])) a (.lst (us ++ [.ref T1]))) p = H p := fun p hp => by
    have b1 : p ≠ a := fun z => nag (z ▸ hp)
    have b2 : p ≠ T1 := fun z => gal p hp (z ▸ hT1')
    have b3 : p ≠ l1 := fun z => gal p hp (z ▸ hl1)
    rw [upd_ne b1, upd_ne b2, upd_ne b3]
  have S3 : Sx c.Z B R0 R (upd (upd (upd H l1 (.lst (xs.map V.int))) T1 (.tup [.ref q, .ref l1])) a (.lst (us ++ [.ref T1]))) (some (.ref a) :: ρ) (.ot (.l (Us ++ [.t [oti xs, oti xs]])) :: Δ) σ ((Γ.set i .un).set j .un) := by
    have dis : ∀ b ∈ g2, b ∉ (a :: (g' ++ [T1, q, l1])) := fun b hb z => by
      have alg := al b (by simp [hb])
      simp only [List.mem_cons, List.mem_append, List.not_mem_nil, or_false] at z
      simp only [List.cons_append, List.nil_append, List.nodup_cons, List.mem_append, List.nodup_append] at ndo
      rcases z with rfl | z | rfl | rfl | rfl
      · exact ndo.2.2.2 b (sub' b (by simp)) b hb rfl
      · exact ndo.2.2.2 b (sub' b (by simp [z])) b hb rfl
      · exact alg hT1'
      · exact ndo.1 (.inr hb)
      · exact alg hl1
    have ndn : (a :: (g' ++ [T1, q, l1])).Nodup := by
      have b1 : T1 ∉ g' := fun z => gal T1 z hT1'
      have b2 : l1 ∉ g' := fun z => gal l1 z hl1
      have b3 : q ∉ g' := fun z => hqf q (by simp [z]) rfl
      have b4 := (List.nodup_cons.mp nd').2
      simp only [List.nodup_cons, List.nodup_append, List.mem_append, List.mem_cons, List.not_mem_nil, or_false, not_or]
      refine ⟨⟨nag, naT, Ne.symm nqa, na1⟩, b4, ⟨⟨Ne.symm nqT, nT⟩, nq1, by simp⟩, fun p hp p' hp' z => ?_⟩
      rcases hp' with r | r | r
      · exact b1 (r ▸ z ▸ hp)
      · exact b3 (r ▸ z ▸ hp)
      · exact b2 (r ▸ z ▸ hp)
    have ha := hs.ow a (by simp [sub' a (by simp)])
    refine ⟨by simpa using hl0, (a :: (g' ++ [T1, q, l1])) ++ g2, ⟨fun p o z => ?_, fun p o z => ?_, hs.r0, hs.nw, fun p hp => ?_, ?_⟩, a :: (g' ++ [T1, q, l1]), g2, rfl, slok_ot ndn ⟨a, us ++ [.ref T1], g' ++ [T1, q, l1], rfl, rfl, upd_same, otRs_app (otRs_frame keep h8) ⟨.ref T1, [], [T1, q, l1], [], rfl, by simp, ⟨T1, _, [q, l1], rfl, rfl, by rw [upd_ne (Ne.symm naT), upd_same], .ref q, _, [q], [l1], rfl, rfl, otR_ints.mpr ⟨q, rfl, rfl, by rw [upd_ne nqa, upd_ne nqT, upd_ne nq1]; exact h3⟩, .ref l1, _, [l1], [], rfl, rfl, otR_ints.mpr ⟨l1, rfl, rfl, by rw [upd_ne (Ne.symm na1), upd_ne (Ne.symm nT), upd_same]⟩, rfl, rfl⟩, rfl, rfl⟩⟩, es_mono (Same.refl _) (fun p hp => ?_) h6⟩
    · have b1 : p ≠ a := fun y => by rw [y, ha.1] at z; cases z
      have zz := hs.rh _ _ z
      have b2 : p ≠ T1 := fun y => by rw [y, hT1'] at zz; cases zz
      have b3 : p ≠ l1 := fun y => by rw [y, hl1] at zz; cases zz
      rw [upd_ne b1, upd_ne b2, upd_ne b3]
      exact zz
    · have b1 : p ≠ a := fun y => by rw [y, ha.2] at z; cases z
      have zz := hs.bh _ _ z
      have b2 : p ≠ T1 := fun y => by rw [y, hT1'] at zz; cases zz
      have b3 : p ≠ l1 := fun y => by rw [y, hl1] at zz; cases zz
      rw [upd_ne b1, upd_ne b2, upd_ne b3]
      exact zz
    · simp only [List.cons_append, List.mem_cons, List.mem_append, List.not_mem_nil, or_false] at hp
      rcases hp with rfl | (hp | rfl | rfl | rfl) | hp
      · exact ha
      · exact hs.ow p (by simp [sub' p (by simp [hp])])
      · exact ⟨hs.rh.free hT1', hs.bh.free hT1'⟩
      · exact hs.ow p (by simp)
      · exact ⟨hs.rh.free hl1, hs.bh.free hl1⟩
      · exact hs.ow p (by simp [hp])
    · rw [List.nodup_append]
      refine ⟨ndn, ?_, fun p hp p' hp' z => dis p' hp' (z ▸ hp)⟩
      simp only [List.cons_append, List.nil_append, List.nodup_cons, List.nodup_append] at ndo
      exact ndo.2.2.1
    · have alg := al p (by simp [hp])
      have := dis p hp
      simp only [List.mem_cons, List.mem_append, List.not_mem_nil, or_false, not_or] at this
      rw [upd_ne this.1, upd_ne this.2.2.1, upd_ne this.2.2.2.2]
  have S4 := sx_asg S3 i
  rw [set_same h1] at S4
  refine n R _ σ _ S4 ?_
  have : ((Γ.set i .un).set j .un).set i (.ot (.l (Us ++ [.t [oti xs, oti xs]]))) = (Γ.set j .un).set i (.ot (.l (Us ++ [.t [oti xs, oti xs]]))) := by
    rw [List.set_comm _ _ hij, List.set_set]
  rw [this]
  exact k
end
/-- own pairs of own lists, lent as data -/
abbrev otps (ps : List (List Int × List Int)) : OT := .l (ps.map fun p => .t [oti p.1, oti p.2])
theorem otp_rp {h : Hp} {Z : Zz} {R' : Hp} {p : List Int × List Int} {v : V} {f : List Addr} (q : otR h (.t [oti p.1, oti p.2]) v f) (k : ∀ a ∈ f, ∀ o, h a = some o → R' a = some o) : Rp.rp Z R' v p := by
  obtain ⟨a, vs, g, rfl, rfl, h1, v1, w1, g1, g2, rfl, rfl, h2, v2, w2, g3, g4, rfl, rfl, h3, rfl, rfl⟩ := q
  obtain ⟨a1, rfl, rfl, h4⟩ := otR_ints.mp h2
  obtain ⟨a2, rfl, rfl, h5⟩ := otR_ints.mp h3
  exact ⟨a, _, _, rfl, k _ (by simp) _ h1, ⟨a1, _, rfl, k _ (by simp) _ h4, paired_of_int _⟩, ⟨a2, _, rfl, k _ (by simp) _ h5, paired_of_int _⟩⟩
theorem otps_rp {h : Hp} {Z : Zz} {R' : Hp} : ∀ {ps : List (List Int × List Int)} {vs : List V} {f : List Addr}, otRs h (ps.map fun p => .t [oti p.1, oti p.2]) vs f → (∀ a ∈ f, ∀ o, h a = some o → R' a = some o) → Paired (Rp.rp Z R') vs ps
  | [], _, _, ⟨e1, e2⟩, _ => by subst e1; exact .nil
  | p :: ps, _, _, ⟨v, ws, g1, g2, e1, e2, h1, h2⟩, k => by
    subst e1 e2
    exact .cons (otp_rp h1 fun a ha => k a (by simp [ha])) (otps_rp h2 fun a ha => k a (by simp [ha]))
theorem lnd_ps {ps : List (List Int × List Int)} : Lnd (.ot (otps ps)) ps := fun Z R H o f sm h => by
  obtain ⟨v, g, rfl, _, sub, a, vs, g', rfl, rfl, h1, h2⟩ := slok_ot' h
  exact ⟨_, rfl, a, vs, rfl, frz_in sm (sub a (by simp)) h1, otps_rp h2 fun b hb o e => frz_in sm (sub b (by simp [hb])) e⟩
/-- a pair of an own list and an own list of own lists, lent as data -/
theorem lnd_clo {xs : List Int} {ws : List (List Int)} : Lnd (.ot (.t [oti xs, otii ws])) (xs, ws) := fun Z R H o f sm h => by
  obtain ⟨v, g, rfl, _, sub, a, vs, g', rfl, rfl, h1, v1, w1, g1, g2, rfl, rfl, h2, v2, w2, g3, g4, rfl, rfl, h3, rfl, rfl⟩ := slok_ot' h
  obtain ⟨a1, rfl, rfl, h4⟩ := otR_ints.mp h2
  obtain ⟨a2, vs2, g5, rfl, rfl, h5, h6⟩ := h3
  obtain ⟨rfl, h7⟩ := otRs_iint' h6
  refine ⟨_, rfl, a, _, _, rfl, frz_in sm (sub a (by simp)) h1, ⟨a1, _, rfl, frz_in sm (sub a1 (by simp)) h4, paired_of_int _⟩, ⟨a2, _, rfl, frz_in sm (sub a2 (by simp)) h5, ?_⟩⟩
  have key : ∀ {qs : List Addr} {ws : List (List Int)}, (∀ q ∈ qs, q ∈ f) → Paired (fun q xs => H q = some (.lst (xs.map V.int))) qs ws → Paired (Rp.rp Z (frz R H f)) (qs.map V.ref) ws := by
    intro qs ws hq hp
    induction hp with
    | nil => exact .nil
    | cons r t ih => exact .cons ⟨_, _, rfl, frz_in sm (hq _ (by simp)) r, paired_of_int _⟩ (ih fun q hq' => hq q (by simp [hq']))
  exact key (fun q hq => sub q (by simp [hq])) h7
section
variable {c : Cn} {Γ : List Sl} {ta tb te tl ty tk : TE} {tt tc : TT} {t u : TS} {s s' so : Sl} {α β γ : Type} {_ : Rp α} {_ : Rp β} {_ : Rp γ} {P : Po} {d : α} {T U : OT}
/-- over a list of pairs -/
theorem ei_listP {xs : List (α × β)} {a b : Nat} (h : Ev c Γ tl (.im xs)) : EvI c Γ (iList c.Z.K tl) (gTup c.Z.K 2 (gCons (gName a) (gCons (gName b) gNil))) xs.length (fun i G => (G.set a (.im (xs.getD i Rp.df).1)).set b (.im (xs.getD i Rp.df).2)) [a, b] := fun B R0 R H ρ Δ σ S K k x =>
  h B R0 R H ρ Δ σ S _ (fun v R1 H1 S1 => by
    have rv := sx_top' S1
    obtain ⟨l, vs, rfl, ha, hp⟩ := id rv
    refine ⟨l, rfl, ⟨vs, SqL.of (sx_same S1 _ _ ha)⟩, k (Itl c.Z.K l) R1 H1 [some (.ref l)] [.im xs] rfl S1 ⟨fun i G vs3 hj => by rw [wipeG_set (hj b (by simp)), wipeG_set (hj a (by simp))], fun {R2 H2 ρx Δx σ2 Γ2 i} hx S2 hi => ?_, fun {R2 H2 ρx Δx σ2 Γ2} hx S2 => ?_, fun {R2 H2 ρx Δx σ2 Γ2 i y H'} hx S2 hi hy K' kk => ?_⟩⟩
    · obtain ⟨a2, vs2, e2, ha2, hp2⟩ := sx_top' (sx_drop hx S2)
      cases e2
      obtain ⟨w, hw, _⟩ := paired_get hp2 (b := xs[i]) (i := i) (by simp [hi])
      exact ⟨vs2, w, SqL.of (sx_same S2 _ _ ha2), hw⟩
    · obtain ⟨a2, vs2, e2, ha2, hp2⟩ := sx_top' (sx_drop hx S2)
      cases e2
      exact ⟨vs2, SqL.of (sx_same S2 _ _ ha2), by rw [Paired.length hp2]; exact Nat.le_refl _⟩
    · obtain ⟨a2, vs2, e2, ha2, hp2⟩ := sx_top' (sx_drop hx S2)
      cases e2
      obtain ⟨eH, hy⟩ := hy
      subst eH
      have hy' := hy vs2 (SqL.of (sx_same S2 _ _ ha2))
      obtain ⟨z, hz, rz⟩ := paired_getL hp2 hy'
      have e3 : xs.getD i Rp.df = z := by rw [List.getD_eq_getElem?_getD, hz]; rfl
      rw [← e3] at rz
      obtain ⟨T, w1, w2, rfl, hT, r1, r2⟩ := rz
      refine ⟨T, [w1, w2], rfl, SqT.of (sx_same S2 _ _ hT), rfl, _, _, rfl, _, _, rfl, rfl, ?_⟩
      exact kk R2 _ _ (sx_asg (sx_push (sx_asg (sx_push S2 r1) a) r2) b) fun vs3 hj => by rw [wipe_set (hj b (by simp)), wipe_set (hj a (by simp))]) x
/-- [f(x, y) for x, y in pairs] -/
theorem ev_mapP {xs : List (α × β)} {i j : Nat} {vs : List Nat} (f : α × β → γ) (h : Ev c Γ tl (.im xs)) (hn : xs.length < 1000000) (hj : i ∈ vs ∧ j ∈ vs) (hu : UnAt Γ vs) (he : ∀ x, x ∈ xs → Ev c.no ((Γ.set i (.im x.1)).set j (.im x.2)) te (.im (f x))) :
    Ev c Γ (tLc (iList c.Z.K tl) (gTup c.Z.K 2 (gCons (gName i) (gCons (gName j) gNil))) tYes te vs) (.ol (xs.map f)) := by
  refine ev_is (ev_lc (fun _ => true) (fun i => f (xs.getD i Rp.df)) (ei_listP h) hn (fun k hk => by simp at hk; rcases hk with rfl | rfl; exact hj.1; exact hj.2) hu (fun i hi => fun B R0 R H ρ Δ σ S Q q _ => q R H S) (fun i hi _ => he _ (by rw [getD_eq hi]; exact List.getElem_mem hi))) ?_
  rw [kept_all]
  refine congrArg Sl.ol (List.ext_getElem (by simp) fun i h1 h2 => ?_)
  simp at h1
  simp [h1]
end
section
variable {c : Cn} {Γ : List Sl} {te : TE} {α β : Type} {_ : Rp α} {_ : Rp β} {d : α}
theorem ep_to {d d' : α} (h : EvP c Γ te d) (e : d = d') : EvP c Γ te d' := e ▸ h
/-- o.f, the heap as it was -/
theorem ep_fld {o : α} {d : β} {f : Str} (h : EvP c Γ te o) (hf : ∀ R v, Rp.rp c.Z R v o → ∃ a C dx fs w, v = .ref a ∧ R a = some (.ins C dx fs) ∧ Cls c.Z.K C ∧ NoAttr c.Z.K C f ∧ fs.lookup f = some w ∧ Rp.rp c.Z R w d) : EvP c Γ (tFld c.Z.K te f) d := fun B R0 R H ρ Δ σ S Q q =>
  h B R0 R H ρ Δ σ S _ fun v rv => by
    obtain ⟨a, C, dx, fs, w, rfl, h1, h2, h3, h4, h5⟩ := hf R v rv
    exact ⟨a, C, dx, fs, w, rfl, sx_same S _ _ h1, h2, h3, h4, q w h5⟩
variable {g : Grp}
theorem ep_rows (h : EvP c Γ te g) : EvP c Γ (tFld c.Z.K te "rows") g.rows := ep_fld h fun R v ⟨h0, a, dx, m, r, u, b, h1, h2, h3, h4, h5, h6⟩ => ⟨a, _, dx, _, r, h1, h2, h0.cl, h0.n2, flG2 .., h4⟩
theorem ep_unit (h : EvP c Γ te g) : EvP c Γ (tFld c.Z.K te "unit") g.unit := ep_fld h fun R v ⟨h0, a, dx, m, r, u, b, h1, h2, h3, h4, h5, h6⟩ => ⟨a, _, dx, _, u, h1, h2, h0.cl, h0.n3, flG3 .., h5⟩
end
/-! ### mixed parts -/
def cmm (t : Tbl) (e a b : Int) : Int := en t (en t (en t a b) (bkf t e a)) (bkf t e b)
def cmL (t : Tbl) (e : Int) (P : List Int) : List Int := (P.map fun a => P.map fun b => cmm t e a b).flatten
noncomputable def mixF (t : Tbl) (e : Int) (P : List Int) : List Int := clo t e (cmL t e P)
theorem cmm_in {t : Tbl} {e a b : Int} (h : GTbl t e) (ha : InT t a) (hb : InT t b) : InT t (cmm t e a b) := h.cl (h.cl (h.cl ha hb) (bk_in h ha)) (bk_in h hb)
theorem cmL_in {t : Tbl} {e : Int} (h : GTbl t e) {P : List Int} (hp : ∀ x ∈ P, InT t x) : ∀ y ∈ cmL t e P, InT t y := fun y hy => by
  obtain ⟨l, hl, hyl⟩ := List.mem_flatten.mp hy
  obtain ⟨a, ha, rfl⟩ := List.mem_map.mp hl
  obtain ⟨b, hb, rfl⟩ := List.mem_map.mp hyl
  exact cmm_in h (hp a ha) (hp b hb)
end TB

/-! ### closure -/
namespace TB
open PySem L2
--use TbOq
def T_closure : Tm := tm2 fun (g : Grp) (sm : List Int) ok _ => ∃ (t : Tbl) (e : Int), GTbl t e ∧ g = grpOf t e ∧ (∀ y ∈ sm, InT t y) ∧ sm.length ≤ 100000 ∧ ok (.ot (.t [oti (clo t e sm), otii ((clo t e sm).map (wordF t e sm))]))
def t_closure (Z : Zz) (X : WX) : TS :=
  (tSeq (tAsg (tDisp [((tFld Z.K (tVar 0) "unit"), (tLst tNil))]) (gName 2))
  (tSeq (tAsg (tLst (tCons (tFld Z.K (tVar 0) "unit") tNil)) (gName 3))
  (tSeq (tAsg (tC (.int 0)) (gName 4))
  (tSeq (tWhile (tTest (tOp gLt (tVar 4) (tCB (gLen Z.K) (tCons (tVar 3) tNil))))
  (tSeq (tFor (iList Z.K (tVar 1)) (gName 5)
  (tSeq (tAsg (tOp (gIx Z.K) (tOp (gIx Z.K) (tFld Z.K (tVar 0) "rows") (tOp (gIx Z.K) (tVar 3) (tVar 4))) (tVar 5)) (gName 6))
  (tIfS (tTest (tOp (gNotIn Z.K) (tVar 6) (tVar 2)))
  (tSeq (tAsg (tOp gAdd (tOp (gIx Z.K) (tVar 2) (tOp (gIx Z.K) (tVar 3) (tVar 4))) (tLst (tCons (tVar 5) tNil))) (gSub (tVar 2) (tVar 6) gSet))
  (tDrop (tBM Z.K "list" rAppend (tVar 3) (tCons (tVar 6) tNil))))
  tNext)))
  (tAug 4 (tC (.int 1)) (ipI fun i j => i + j))))
  (tSeq (tAsg (tCB (gSorted Z.K) (tCons (tVar 3) tNil)) (gName 7))
  (tRet (tTup (tCons (tVar 7) (tCons (tLc (iList Z.K (tVar 7)) (gName 5) tYes (tOp (gIx Z.K) (tVar 2) (tVar 5)) [5]) tNil)))))))))
theorem w_closure (Z : Zz) (X : WX) (ss : List Sl) (ok : Sl → Prop) (er : Rf → Prop) (h : T_closure ss ok er) : WF Z X er (ss ++ List.replicate (8 - ss.length) .un) (t_closure Z X) ok := by
  obtain ⟨g, sm, rfl, t, e, hG, rfl, hs, hsl, k⟩ := h
  show W _ [.im (grpOf t e), .im sm, .un, .un, .un, .un, .un, .un] _ _
  unfold t_closure
  have hl := hG.sz.2.1
  refine w_seq (w_asg (s := .d2 [(e, [])]) (ev_disp2 (ep_unit (g := grpOf t e) (ep_var rfl))) ?_)
  refine w_seq (w_asg (s := .ol [e]) (ev_lstH (evh_cons (ev_unit (g := grpOf t e) (ev_var rfl)) evh_nil) (by simp)) ?_)
  refine w_seq (w_asg ev_int ?_)
  walk_at "nz"
  obtain ⟨hW, hclo⟩ := words_I hG hs
  refine w_mid (fun G => ∃ (s4 s5 s6 : Sl), G = [.im (grpOf t e), .im sm, .d2 (wordsF t e sm), .ol ((wordsF t e sm).map (·.1)), s4, s5, s6, .un]) ?_ ?_
  · refine w_while (fun m G => ∃ (kvs : Kvs) (a : Nat) (s5 s6 : Sl), G = [.im (grpOf t e), .im sm, .d2 kvs, .ol (kvs.map (·.1)), .im (a : Int), s5, s6, .un] ∧ BfsI t e sm kvs ∧ a ≤ kvs.length ∧ t.length < m + a ∧ bfsN t sm m a kvs = wordsF t e sm) (t.length + 1) ⟨[(e, [])], 0, _, _, rfl, bfs_0, by simp, by omega, rfl⟩ ?_
    rintro m G ⟨kvs, a, s5, s6, rfl, I, ha, hm, hb⟩
    have hkl := bfs_len hG hs I
    refine ⟨decide ((a : Int) < (kvs.map (·.1)).length), et_test (ev_lt (ev_var rfl) (ev_lenO rfl)), fun hb' => ?_, fun hb' => ?_⟩
    · have ha' : a < kvs.length := by simpa using hb'
      obtain ⟨m, rfl⟩ : ∃ m', m = m' + 1 := ⟨m - 1, by omega⟩
      rw [bfsN, dif_pos ha'] at hb
      obtain ⟨wd, wl⟩ := I.wd a ha'
      have rc := I.rc kvs[a].1 (List.mem_map.mpr ⟨_, List.getElem_mem ha', rfl⟩)
      have hx : InT t kvs[a].1 := reach_in hG hs rc
      refine w_seq (w_forL (xs := sm) (fun i G => ∃ (s5 s6 : Sl), G = [.im (grpOf t e), .im sm, .d2 ((sm.take i).foldl (stepW t kvs[a].1 kvs[a].2) kvs), .ol (((sm.take i).foldl (stepW t kvs[a].1 kvs[a].2) kvs).map (·.1)), .im (a : Int), s5, s6, .un]) (ev_var rfl) ⟨_, _, rfl⟩ ?_ ?_)
      · rintro i G hi ⟨s5, s6, rfl⟩
        walk_at "nz"
        obtain ⟨I2, pre, _⟩ := bfs_fold (sm.take i) I ha' wd wl rc fun y hy => List.mem_of_mem_take hy
        have hy : InT t sm[i] := hs _ (List.getElem_mem hi)
        have hst : (sm.take (i + 1)).foldl (stepW t kvs[a].1 kvs[a].2) kvs = stepW t kvs[a].1 kvs[a].2 ((sm.take i).foldl (stepW t kvs[a].1 kvs[a].2) kvs) sm[i] := by rw [take_snoc hi, List.foldl_append]; rfl
        rw [hst]
        generalize (sm.take i).foldl (stepW t kvs[a].1 kvs[a].2) kvs = kv at I2 pre ⊢
        have hkv := bfs_len hG hs I2
        have hak : a < kv.length := Nat.lt_of_lt_of_le ha' pre.length_le
        have eK : kv[a] = kvs[a] := (pre.getElem ha').symm
        have hgt : gt (kv.map (·.1)) (a : Int) = kvs[a].1 := by rw [gt_nat (by simpa using hak), List.getElem_map, eK]
        have hdg : dget kv kvs[a].1 = some kvs[a].2 := by rw [← eK]; exact dget_at hak I2.nd
        generalize kvs[a].1 = x at hgt hdg hx ⊢
        generalize kvs[a].2 = w at hdg wl ⊢
        generalize sm[i] = y at hy ⊢
        refine w_seq (w_asg (s := .im (en t x y)) (ev_ix (ev_ix (xs := t) (ev_rows (g := grpOf t e) (ev_var rfl)) (ev_to (ev_ixO rfl (ev_var rfl) (by omega) (by simp; omega)) hgt) hx.1 hx.2) (ev_var rfl) hy.1 (by rw [hG.row hx]; exact hy.2)) ?_)
        walk_at "nz"
        refine w_if (b := !decide (en t x y ∈ kv.map (·.1))) (et_to (et_test (ev_inD2 rfl (ev_var rfl))) (by rw [dget_key])) (fun hb => ?_) (fun hb => w_next ?_)
        · have hn : ¬ en t x y ∈ kv.map (·.1) := by simpa using hb
          have e1 : stepW t x w kv y = kv ++ [(en t x y, w ++ [y])] := by rw [stepW, if_neg hn]
          rw [e1]
          refine w_seq (w_word (a := x) (b := en t x y) (y := y) (w := w) rfl (ep_to (ep_ixO rfl (ep_var rfl) (by omega) (by simp; omega)) hgt) (ep_var rfl) (ep_var rfl) hdg (by
            have := dget_key (kvs := kv) (x := en t x y)
            rw [decide_eq_false hn] at this
            simpa using this) (by omega) (by omega) ?_)
          walk_at "nz"
          refine w_app rfl (ev_var rfl) (by simp; omega) ⟨.im y, .im (en t x y), ?_⟩
          walk_at "nz"
          rw [List.map_append]
          rfl
        · have hn : en t x y ∈ kv.map (·.1) := by simpa using hb
          have e1 : stepW t x w kv y = kv := by rw [stepW, if_pos hn]
          rw [e1]
          exact ⟨_, _, rfl⟩
      · rintro G ⟨s5, s6, rfl⟩
        rw [List.take_length]
        obtain ⟨I2, pre, _⟩ := bfs_fold sm I ha' wd wl rc fun y hy => hy
        refine w_aug rfl ev_int ⟨m, by omega, _, a + 1, s5, s6, rfl, I2, Nat.le_trans ha' pre.length_le, by omega, hb⟩
    · have ha' : ¬ a < kvs.length := by simpa using hb'
      have : wordsF t e sm = kvs := by
        rw [← hb]
        cases m with
        | zero => rfl
        | succ m => rw [bfsN, dif_neg ha']
      rw [this]
      exact ⟨_, s5, s6, rfl⟩
  · rintro G ⟨s4, s5, s6, rfl⟩
    refine w_seq (w_asg (s := .ol (clo t e sm)) (ev_is (ev_sortedO rfl) (congrArg Sl.ol hclo)) ?_)
    walk_at "nz"
    have pc := (clo_part hG hs).len
    exact w_retClo (i := 7) (j := 2) (l := 5) (by decide) (by decide) (by decide) (by simp) rfl rfl (inc_nodup (inc_clo sm)) (fun x hx => by
      rw [(wordF_ok hG hs hx).1]; rfl) hW.nd (by omega) k
end TB

/-! ### mixed -/
namespace TB
open PySem L2
--use TbOq
def T_mixed : Tm := tm2 fun (g : Grp) (P : List Int) ok er => ∃ (t : Tbl) (e : Int), GTbl t e ∧ g = grpOf t e ∧ P.length ≤ 100000 ∧ (IsPart t P → ok (.ol (mixF t e P))) ∧ (¬ IsPart t P → er ⟨.NoPart, []⟩)
def t_mixed (Z : Zz) (X : WX) : TS :=
  (tSeq (tDrop (tCallSD (spOf Z T_look_at_part) [] (WE X) (tCons (tVar 0) (tCons (tVar 1) tNil))))
  (tSeq (tAsg (tLst tNil) (gName 2))
  (tSeq (tFor (iList Z.K (tVar 1)) (gName 3)
  (tFor (iList Z.K (tVar 1)) (gName 4)
  (tSeq (tAsg (tCallSD (spOf Z T_product) [] (WE X) (tCons (tVar 0) (tCons (tLst (tCons (tVar 3) (tCons (tVar 4) (tCons (tOp (gIx Z.K) (tFld Z.K (tVar 0) "backs") (tVar 3)) (tCons (tOp (gIx Z.K) (tFld Z.K (tVar 0) "backs") (tVar 4)) tNil))))) tNil))) (gName 5))
  (tIfS (tTest (tOp (gNotIn Z.K) (tVar 5) (tVar 2)))
  (tDrop (tBM Z.K "list" rAppend (tVar 2) (tCons (tVar 5) tNil)))
  tNext))))
  (tRet (tOp (gIx Z.K) (tCallSD (spOf Z T_closure) [] (WE X) (tCons (tVar 0) (tCons (tVar 2) tNil))) (tC (.int 0)))))))
theorem w_mixed (Z : Zz) (X : WX) (ss : List Sl) (ok : Sl → Prop) (er : Rf → Prop) (h : T_mixed ss ok er) : WF Z X er (ss ++ List.replicate (6 - ss.length) .un) (t_mixed Z X) ok := by
  obtain ⟨g, P, rfl, t, e, hG, rfl, hPl, k, ke⟩ := h
  show W _ [.im (grpOf t e), .im P, .un, .un, .un, .un] _ _
  unfold t_mixed
  have hl := hG.sz.2.1
  refine w_seq (w_dropS (S := fun _ => IsPart t P) (es_call (ea_cons (ev_var rfl) (ea_cons (ev_var rfl) ea_nil)) ⟨_, _, rfl, t, e, hG, rfl, hPl, fun z => z, ke⟩) fun _ hp => ?_)
  have k := k hp
  have p := hp.partL hG
  have hpl := p.len
  have blen := backs_len hG
  refine w_seq (w_asg (s := .ol ([] : List Int)) ev_nil ?_)
  walk_at "nz"
  have small : ∀ L : List Int, L.Nodup → (∀ x ∈ L, InT t x) → L.length ≤ t.length := fun L nd hi => by
    have := nodup_le (B := irange t.length) nd fun x hx => mem_irange.mpr (hi x hx)
    rw [irange_len] at this
    omega
  refine w_seq (w_forL (xs := P) (fun i G => ∃ (L : List Int) (s3 s4 s5 : Sl), G = [.im (grpOf t e), .im P, .ol L, s3, s4, s5] ∧ L.Nodup ∧ (∀ x ∈ L, InT t x) ∧ ∀ z, z ∈ L ↔ z ∈ ((P.take i).map fun a => P.map fun b => cmm t e a b).flatten) (ev_var rfl) ⟨_, _, _, _, rfl, .nil, fun x hx => by simp at hx, fun z => by simp⟩ ?_ ?_)
  · rintro i G hi ⟨L, s3, s4, s5, rfl, nd, hin, hL⟩
    walk_at "nz"
    have hx := p.pt.inn _ (List.getElem_mem hi)
    have e0 : ((P.take (i + 1)).map fun a => P.map fun b => cmm t e a b).flatten = ((P.take i).map fun a => P.map fun b => cmm t e a b).flatten ++ P.map fun b => cmm t e P[i] b := by
      rw [take_snoc hi, List.map_append, List.flatten_append]; simp only [List.map_cons, List.map_nil, List.flatten_cons, List.flatten_nil, List.append_nil]
    rw [e0]
    generalize P[i] = x at hx ⊢
    refine w_forL (xs := P) (fun j G => ∃ (L' : List Int) (s4 s5 : Sl), G = [.im (grpOf t e), .im P, .ol L', .im x, s4, s5] ∧ L'.Nodup ∧ (∀ x ∈ L', InT t x) ∧ ∀ z, z ∈ L' ↔ z ∈ L ∨ z ∈ (P.take j).map fun b => cmm t e x b) (ev_var rfl) ⟨L, _, _, rfl, nd, hin, fun z => by simp⟩ ?_ ?_
    · rintro j G hj ⟨L', s4, s5, rfl, nd', hin', hL'⟩
      walk_at "nz"
      have hy := p.pt.inn _ (List.getElem_mem hj)
      rw [take_snoc hj]
      generalize P[j] = y at hy ⊢
      have hl' := small L' nd' hin'
      have hc := cmm_in hG hx hy
      refine w_seq (w_asg (s := .im (cmm t e x y)) (ev_callN (ea_cons (ev_var rfl) (ea_cons (ev_frI (ev_lstH (evh_cons (ev_var rfl) (evh_cons (ev_var rfl) (evh_cons (ev_ix (ev_backs (g := grpOf t e) (ev_var rfl)) (ev_var rfl) hx.1 (by rw [blen]; exact hx.2)) (evh_cons (ev_ix (ev_backs (g := grpOf t e) (ev_var rfl)) (ev_var rfl) hy.1 (by rw [blen]; exact hy.2)) evh_nil)))) (by simp))) ea_nil)) ?pr) ?_)
      case pr =>
        have bx := bk_in hG hx
        have bY := bk_in hG hy
        have ep : prod (grpOf t e) [x, y, gt (grpOf t e).backs x, gt (grpOf t e).backs y] = cmm t e x y := by
          rw [backs_at hx, backs_at hy]
          show en t (en t (en t (en t e x) y) _) _ = _
          rw [hG.u1 hx]
          rfl
        refine ⟨_, _, rfl, hG.ok, fun z hz => ?_, congrArg Sl.im ep⟩
        rw [backs_at hx, backs_at hy] at hz
        simp only [List.mem_cons, List.not_mem_nil, or_false] at hz
        rcases hz with rfl | rfl | rfl | rfl
        · exact hx
        · exact hy
        · exact bx
        · exact bY
      walk_at "nz"
      refine w_if (b := !decide (cmm t e x y ∈ L')) (et_test (ev_notInO (ev_var rfl) rfl)) (fun hb => ?_) (fun hb => w_next ?_)
      · have hb' : ¬ cmm t e x y ∈ L' := by simpa using hb
        refine w_app rfl (ev_var rfl) (by omega) ⟨L' ++ [cmm t e x y], _, _, rfl, ?_, fun z hz => ?_, fun z => ?_⟩
        · rw [List.nodup_append]
          exact ⟨nd', by simp, fun a ha b hb z => by
            have : b = cmm t e x y := by simpa using hb
            exact hb' (this ▸ z ▸ ha)⟩
        · rcases List.mem_append.mp hz with q | q
          · exact hin' z q
          · have : z = cmm t e x y := by simpa using q
            rw [this]; exact hc
        · simp only [List.mem_append, hL', List.map_append, List.map_cons, List.map_nil, List.mem_singleton, or_assoc]
      · have hb' : cmm t e x y ∈ L' := by simpa using hb
        refine ⟨L', _, _, rfl, nd', hin', fun z => ?_⟩
        simp only [hL', List.mem_append, List.map_append, List.map_cons, List.map_nil, List.mem_singleton]
        constructor
        · rintro (q | q)
          · exact .inl q
          · exact .inr (.inl q)
        · rintro (q | q | q)
          · exact .inl q
          · exact .inr q
          · rw [q]; exact (hL' _).mp hb'
    · rintro G ⟨L', s4, s5, rfl, nd', hin', hL'⟩
      rw [List.take_length] at hL'
      exact ⟨L', _, _, _, rfl, nd', hin', fun z => by rw [hL', List.mem_append, hL]⟩
  · rintro G ⟨L, s3, s4, s5, rfl, nd, hin, hL⟩
    rw [List.take_length] at hL
    have e1 : clo t e L = mixF t e P := clo_congr hG hin (cmL_in hG p.pt.inn) hL
    have := small L nd hin
    rw [← e1] at k
    refine w_fr 2 rfl ?_
    exact w_ret (ev_subS sub_Tol (ev_otIxT (k := 0) (ev_callN (s := .ot (.t [oti (clo t e L), otii ((clo t e L).map (wordF t e L))])) (ea_cons (ev_var rfl) (ea_cons (ev_var rfl) ea_nil)) ⟨_, _, rfl, t, e, hG, rfl, hin, by omega, rfl⟩) rfl rfl)) k
end TB

/-! TbTry: try with clauses, some of them with a name; what is caught may be kept. -/
namespace TB
open PySem PySem.Spec PyProof.Rows L2
/-- a caught exception that is kept at a -/
def XT (cls : Value) (d : Option Addr) (a : Addr) : HO := .ext fun h => ∃ (oe : Obj) (vs : Array Value), h.get? a = some oe ∧ Zc cls d oe ∧ oe.data = .fields vs
section
variable {X : Cx} {pins : List (Addr × Obj)} {σ : L2.St} {H : Hp} {s : Shared}
theorem inv_track {a : Addr} {oe : Obj} {vs : Array Value} {cls : Value} {d : Option Addr} (I : Inv X pins σ H s) (hx : X.ex = []) (n0 : X.s_0.heap.get? a = none) (ha : s.heap.get? a = some oe) (na : H a = none) (nl : a ≠ X.env.locals)
    (nc : ∀ v, oe.data ≠ .cell v) (np : ∀ p ∈ X.pn ++ pins, p.1 ≠ a) (hz : Zc cls d oe) (hd : oe.data = .fields vs) : Inv X pins σ (upd H a (XT cls d a)) s := by
  have ex : ∀ b : Addr, b ∉ X.ex := fun b hb => by rw [hx] at hb; cases hb
  have ne0 : ∀ b o, X.s_0.heap.get? b = some o → b ≠ a := fun b o e z => by rw [z, n0] at e; cases e
  have neH : ∀ b o, H b = some o → b ≠ a := fun b o e z => by rw [z, na] at e; cases e
  have neC : ∀ x c, X.env.cells.lookup x = some c → c ≠ a := fun x c e z => by
    obtain ⟨v, o, ho, hv⟩ := I.cell x c e
    rw [z, ha] at ho
    cases ho
    exact nc _ hv
  refine { ok := I.ok, os := I.os, bare := I.bare, base := ?_, loc := I.loc, cell := I.cell, free := ?_, freeC := ?_, pin := ?_, hok := ?_, len := I.len }
  · refine { keep := I.base.keep, slot := I.base.slot, free := fun b o e n q => ?_, there := I.base.there, tups := fun b xs q => ?_, frzs := fun b o u q => ?_, tbls := fun b ps q => ?_ }
    · rw [upd_ne (ne0 b o e)]; exact I.base.free b o e n q
    · have z := I.base.tups b xs q
      rw [upd_ne (neH b _ z)]; exact z
    · have z := I.base.frzs b o u q
      rw [upd_ne (neH b _ z)]; exact z
    · obtain ⟨m, z⟩ := I.base.tbls b ps q
      exact ⟨m, by rw [upd_ne (neH b _ z)]; exact z⟩
  · rw [upd_ne (Ne.symm nl)]; exact I.free
  · intro x c e
    rw [upd_ne (neC x c e)]
    exact I.freeC x c e
  · intro p hp
    obtain ⟨p1, p2, p3, p4, p5⟩ := I.pin p hp
    exact ⟨p1, by rw [upd_ne (np p hp)]; exact p2, p3, p4, p5⟩
  · intro b u e
    by_cases c : b = a
    · subst c
      rw [upd_same] at e
      cases e
      exact ⟨⟨oe, vs, ha, hz, hd⟩, ⟨oe, ha⟩, fun h1 h2 ⟨o, v, q, r⟩ k => ⟨o, v, k o q, r⟩⟩
    · rw [upd_ne c] at e
      refine (I.hok b u e).stay (fun c v _ q => q) (fun c q => ?_) fun c xs q => ?_
      · rw [upd_ne (neH c _ q)]; exact q
      · rw [upd_ne (neH c _ q)]; exact q
end
/-- how a suite ends: what was caught is kept, its name gone -/
def sEnd (D : Ends) (a : Addr) (cls : Value) (d : Option Addr) (cl : L2.St → L2.St) : Ends where
  nx := fun σ H => H a = none → D.nx (cl σ) (upd H a (XT cls d a))
  rt := fun v H => H a = none → D.rt v (upd H a (XT cls d a))
  bk := fun σ H => H a = none → D.bk (cl σ) (upd H a (XT cls d a))
  ct := fun σ H => H a = none → D.ct (cl σ) (upd H a (XT cls d a))
abbrev Hdl := Value × Option Nat × (Addr → Value → Option Addr → TS)
def clrO : Option Nat → L2.St → L2.St
  | none, σ => σ
  | some i, σ => σ.set i none
def putO : Option Nat → Addr → L2.St → L2.St
  | none, _, σ => σ
  | some i, a, σ => σ.set i (some (.ref a))
/-- what the clauses wish of an exception of the body -/
def wTry (K : PySem.W.Frag) (Wout : WX) (D : Ends) : List Hdl → WX
  | [] => Wout
  | (c, o, ts) :: r => fun cls d σ H => ∃ b, PySem.W.exmOne K cls c = some b ∧ (b = true → ∀ a, H a = none → ts a cls d (sEnd D a cls d (clrO o)) (putO o a σ) H) ∧ (b = false → wTry K Wout D r cls d σ H)
inductive HdlOk (X : Cx) : List ExceptHandler → List Hdl → Prop
  | nil : HdlOk X [] []
  | plain {x : Str} {c : Value} {ts : Addr → Value → Option Addr → TS} {b₀ : Stmt} {suite : List Stmt} {np pos' : Pos} {hds : List ExceptHandler} {l : List Hdl} (hc : Names X x c)
      (hsu : ∀ (a : Addr) (oe : Obj) (cls : Value) (d : Option Addr) (pn : List (Addr × Obj)), Zc cls d oe → (∃ vs, oe.data = .fields vs) → PSs (X.suite a ((a, oe) :: pn)) (b₀ :: suite) (ts a cls d)) (r : HdlOk X hds l) :
      HdlOk X (.ExceptHandler (some (.Name x np)) none (b₀ :: suite) pos' :: hds) ((c, none, ts) :: l)
  | named {x n : Str} {i : Nat} {c : Value} {ts : Addr → Value → Option Addr → TS} {b₀ : Stmt} {suite : List Stmt} {np pos' : Pos} {hds : List ExceptHandler} {l : List Hdl} (hi : X.N[i]? = some n) (hln : X.env.kindOf n = some .local) (hc : Names X x c)
      (hsu : ∀ (a : Addr) (oe : Obj) (cls : Value) (d : Option Addr) (pn : List (Addr × Obj)), Zc cls d oe → (∃ vs, oe.data = .fields vs) → PSs (X.suite a ((a, oe) :: pn)) (b₀ :: suite) (ts a cls d)) (r : HdlOk X hds l) :
      HdlOk X (.ExceptHandler (some (.Name x np)) (some n) (b₀ :: suite) pos' :: hds) ((c, some i, ts) :: l)
def tTry (K : PySem.W.Frag) (l : List Hdl) (Wout : WX) (tb : WX → TS) : TS := fun D σ H => tb (wTry K Wout D l) D σ H
theorem sky_new {B h : Heap} {l : List Env} {a L : Addr} {Z : Obj → Prop} (x : Sky B l a Z L h) : B.get? a = none := by
  rcases x with x | x | x
  · exact x.2.1
  · exact x.2.1
  · exact x.2.1
section
variable {X : Cx} {body : List Stmt} {h₀ : ExceptHandler} {hds : List ExceptHandler} {l : List Hdl} {pos : Pos} {tb : WX → TS} {Wout : WX}
theorem ps_try (hs : X.stack = X.env :: X.outer) (hf : X.env.frame = some X.env.locals) (hx : X.ex = []) (hN : X.N.Nodup) (tk : Takes X Wout)
    (hb : ∀ (W : WX) (pn : List (Addr × Obj)) (xe : Value → Shared → Prop), Takes (X.tr pn xe) W → PassesOwn (model X.prog X.w) X.A X.env xe → PSs (X.tr pn xe) body (tb W))
    (hh : HdlOk X (h₀ :: hds) l) : PS X (.Try body (h₀ :: hds) [] [] pos) (tTry X.K l Wout tb) := by
  refine ⟨fun pins s σ H D I h => ?_⟩
  have ok := I.ok
  have hfr : X.A.frames = some (X.env :: X.outer) := by rw [ok.frames, hs]
  refine wpAny_Try_except (wpAny_mono ((hb (wTry X.K Wout D l) (X.pn ++ pins) (fun e s₁ => wpAny (model X.prog X.w) X.A (noteFrame e X.env) (fun _ s₂ => wpAny (model X.prog X.w) X.A (setFlight e none) (fun _ s₃ => wpAny (model X.prog X.w) X.A (handleBy e X.env (h₀ :: hds)) (SP X pins D) X.xe s₃) X.xe s₂) X.xe s₁) (fun u s' xx => ?_) PassesOwn.looking).run [] s σ H D (I.toTry _) h) (fun f s1 hsp => ?_) (fun e s1 he => he))
  · obtain ⟨a, B, sI, pins', σ', H', cls, d, rfl, J', nb, up, sky, na, os, ag, w⟩ := xx
    have J : Inv X pins σ' H' sI := J'.ofTry ok
    have Ba := sky_new sky
    have sk2 : Sky B (X.env :: X.outer) a (Zc cls d) X.env.locals s'.heap := hs ▸ sky
    show wpAny (model X.prog X.w) X.A (noteFrame (.ref a) X.env) _ _ _
    refine Sky.land Zc.steady hfr hf sk2 fun h3 fl3 up3 => ?_
    have J3 : Inv X pins σ' H' { s' with heap := h3 } := J.landed nb fl3.1 (up.trans up3) os ag
    obtain ⟨oe3, vs3, he3, hz3, hd3⟩ := fl3.there
    have nfr : a ∉ frs (X.env :: X.outer) := fun hm => by
      obtain ⟨_, o', e', hnf⟩ := fl3.2.2.1.mem hm
      rw [he3] at e'
      cases e'
      exact hnf _ hd3
    have nL : a ≠ X.env.locals := fun z => nfr (List.mem_filterMap.mpr ⟨X.env, .head _, by rw [hf, z]⟩)
    have nF : a ∉ X.fs := fun hm => by
      obtain ⟨e, he, q⟩ := List.mem_filterMap.mp hm
      exact nfr (List.mem_filterMap.mpr ⟨e, .tail _ he, q⟩)
    have n0 : X.s_0.heap.get? a = none := by
      cases q : X.s_0.heap.get? a with
      | none => rfl
      | some o =>
        obtain ⟨o', e'⟩ := J.base.there a o q (by rw [hx]; exact fun z => nomatch z)
        have z := nb a o' e' (by rw [hs]; exact nfr)
        rw [Ba] at z
        cases z
    have np : ∀ p ∈ X.pn ++ pins, p.1 ≠ a := fun p hp z => by
      obtain ⟨p1, _, p3, p4, _⟩ := J.pin p hp
      have q := nb p.1 p.2 p1 (by
        rw [hs]
        intro hm
        obtain ⟨e, he, q⟩ := List.mem_filterMap.mp hm
        rcases List.mem_cons.mp he with r | r
        · rw [r, hf] at q
          exact p3 (Option.some.inj q).symm
        · exact p4 (List.mem_filterMap.mpr ⟨e, r, q⟩))
      rw [z, Ba] at q
      cases q
    have S3 := J3.suite he3 hd3 na nL nF
    have LT : PySem.W.Looks (model X.prog X.w) h3 (typeOf (.ref a)) cls := fun A Q E s k q => wpAny_typeOf_ref (k _ _ he3) (by rw [hz3.1]; exact q)
    have test : ∀ {x : Str} {c : Value} {p : Pos} {Q E : Value → Shared → Prop}, Names X x c → Q c { s' with heap := h3 } → wpAny (model X.prog X.w) (X.A.mark (some (.ref a))) (eval (.Name x p) X.env) Q E { s' with heap := h3 } := fun {x c p Q E} hc q => by
      obtain ⟨hg, hdbg, hm | ⟨hm, hv, hnn⟩⟩ := hc
      · exact ld_glob (X := X.suite a ((a, oe3) :: (X.pn ++ pins))) S3 hg hm q hdbg
      · exact ld_blt (X := X.suite a ((a, oe3) :: (X.pn ++ pins))) S3 hg hm hv q hnn hdbg
    have kept : ∀ {oe4 : Obj} {vs4 : Array Value} {σ6 : L2.St} {H6 : Hp} {s6 : Shared}, Zc cls d oe4 → oe4.data = .fields vs4 → Inv (X.suite a ((a, oe4) :: (X.pn ++ pins))) [] σ6 H6 s6 → H6 a = none ∧ Inv X pins σ6 (upd H6 a (XT cls d a)) s6 := fun {oe4 vs4 σ6 H6 s6} hz hd S6 => by
      obtain ⟨q1, q2, q3, _, q5⟩ := S6.pin (a, oe4) (List.mem_append_left _ (.head _))
      exact ⟨q2, inv_track (S6.unsuite ok) hx n0 q1 q2 nL q5 np hz hd⟩
    have go : ∀ {hds' : List ExceptHandler} {l' : List Hdl}, HdlOk X hds' l' → wTry X.K Wout D l' cls d σ' H' → wpAny (model X.prog X.w) X.A (handleBy (.ref a) X.env hds') (SP X pins D) X.xe { s' with heap := h3 } := by
      intro hds' l' hk
      induction hk with
      | nil =>
        intro w
        obtain ⟨k1, k2, k3, oe, vs, T, oT, ts', he, hz, hd, h1, hr⟩ := id fl3
        refine wpAny_handleBy_nil ?_
        unfold PySem.passOn
        refine wpAny_bind (wpAny_field he hd h1 ?_)
        rw [if_neg (show ¬ ((Value.ref T == Value.none) = true) by simp)]
        have fin : wpAny (model X.prog X.w) X.A (setFlight (.ref a) X.env.frame) (fun _ s4 => wpAny (model X.prog X.w) X.A (throw (.ref a) : Sem Flow) (SP X pins D) X.xe s4) X.xe { s' with heap := h3 } :=
          hf ▸ HandSPX.setFlight_upZ fl3 fun h4 hh4 up4 => wpAny_throw (tk _ _ ⟨a, B, sI, pins, σ', H', cls, d, rfl, J, nb, (up.trans up3).trans up4, .inr (.inr (by rw [hs]; exact hh4)), na, os, ag, w⟩)
        first
          | exact wpAny_bind (wpAny_pure (wpAny_bind fin))
          | exact wpAny_bind fin
      | @plain x c ts b₀ suite np' pos' hds2 l2 hc hsu r ih =>
        intro w
        obtain ⟨b, hb1, hyes, hno⟩ := w
        refine wpAny_handleBy_cons (codeAny_handlers_test (test hc ((PySem.W.exm_one (M := model X.prog X.w) (J3.kIn) LT hb1).here ?_))) (by intro q; cases q)
        cases b with
        | true =>
          refine codeAny_handlers_suite (HandSPX.lands_againZ fl3 fun h4 fl4 up4 => ?_)
          have J4 : Inv X pins σ' H' { s' with heap := h4 } := J.landed nb fl4.1 ((up.trans up3).trans up4) os ag
          obtain ⟨oe4, vs4, he4, hz4, hd4⟩ := fl4.there
          refine wpAny_mono ((hsu a oe4 cls d (X.pn ++ pins) hz4 ⟨_, hd4⟩).run [] _ _ H' _ (J4.suite he4 hd4 na nL nF) (hyes rfl a na)) (fun f s6 hsp => ?_) (fun _ _ z => z.elim)
          cases f with
          | next => obtain ⟨σ6, H6, S6, q6⟩ := hsp; exact ⟨_, _, (kept hz4 hd4 S6).2, q6 (kept hz4 hd4 S6).1⟩
          | brk => obtain ⟨σ6, H6, S6, q6⟩ := hsp; exact ⟨_, _, (kept hz4 hd4 S6).2, q6 (kept hz4 hd4 S6).1⟩
          | cont => obtain ⟨σ6, H6, S6, q6⟩ := hsp; exact ⟨_, _, (kept hz4 hd4 S6).2, q6 (kept hz4 hd4 S6).1⟩
          | ret u => obtain ⟨v6, σ6, H6, S6, r6, q6⟩ := hsp; exact ⟨_, _, _, (kept hz4 hd4 S6).2, r6, q6 (kept hz4 hd4 S6).1⟩
        | false => exact ih (hno rfl)
      | @named x n i c ts b₀ suite np' pos' hds2 l2 hi hln hc hsu r ih =>
        intro w
        obtain ⟨b, hb1, hyes, hno⟩ := w
        have hloc : Loc X.env.scope n := .inl hln
        refine wpAny_handleBy_cons (codeAny_handlers_test (test hc ((PySem.W.exm_one (M := model X.prog X.w) (J3.kIn) LT hb1).here ?_))) (by intro q; cases q)
        cases b with
        | true =>
          refine codeAny_handlers_suite_as (HandSPX.lands_againZ fl3 fun h4 fl4 up4 => ?_)
          have J4 : Inv X pins σ' H' { s' with heap := h4 } := J.landed nb fl4.1 ((up.trans up3).trans up4) os ag
          obtain ⟨oe4, vs4, he4, hz4, hd4⟩ := fl4.there
          refine store_ok (X := X.suite a ((a, oe4) :: (X.pn ++ pins))) (v := .ref a) (J4.suite he4 hd4 na nL nF) hN hi hloc rfl (fun s5 S5 => ?_) (.inr hln)
          refine wpAny_mono ((hsu a oe4 cls d (X.pn ++ pins) hz4 ⟨_, hd4⟩).run [] s5 _ H' _ S5 (hyes rfl a na)) (fun f s6 hsp => ?_) (fun _ _ z => z.elim)
          cases f with
          | next => obtain ⟨σ6, H6, S6, q6⟩ := hsp; exact gone_ok (kept hz4 hd4 S6).2 hN hi hln fun s7 J7 => ⟨_, _, J7, q6 (kept hz4 hd4 S6).1⟩
          | brk => obtain ⟨σ6, H6, S6, q6⟩ := hsp; exact gone_ok (kept hz4 hd4 S6).2 hN hi hln fun s7 J7 => ⟨_, _, J7, q6 (kept hz4 hd4 S6).1⟩
          | cont => obtain ⟨σ6, H6, S6, q6⟩ := hsp; exact gone_ok (kept hz4 hd4 S6).2 hN hi hln fun s7 J7 => ⟨_, _, J7, q6 (kept hz4 hd4 S6).1⟩
          | ret u => obtain ⟨v6, σ6, H6, S6, r6, q6⟩ := hsp; exact gone_ok (kept hz4 hd4 S6).2 hN hi hln fun s7 J7 => ⟨_, _, _, J7, r6, q6 (kept hz4 hd4 S6).1⟩
        | false => exact ih (hno rfl)
    exact go hh w
  · cases f with
    | next => obtain ⟨σ', H', J', q⟩ := hsp; exact wpAny_execs_nil ⟨σ', H', J'.ofTry ok, q⟩
    | brk => obtain ⟨σ', H', J', q⟩ := hsp; exact ⟨σ', H', J'.ofTry ok, q⟩
    | cont => obtain ⟨σ', H', J', q⟩ := hsp; exact ⟨σ', H', J'.ofTry ok, q⟩
    | ret u => obtain ⟨v, σ', H', J', r, q⟩ := hsp; exact ⟨v, σ', H', J'.ofTry ok, r, q⟩
end
end TB

/-! TbEx: exceptions as data: what is caught and kept, isinstance, fields. -/
namespace TB
open PySem PySem.Spec PyProof.Rows L2
def XtOk (Z : Zz) (R : Hp) (r : Rf) (cls : Value) (d : Option Addr) : Prop := cls = .ref (Z.cls r.name) ∧ ((r.fs = [] ∧ d = none) ∨ ∃ dx, d = some dx ∧ R dx = some (.xd r.fs))
theorem XtOk.mono {Z : Zz} {R R' : Hp} {r : Rf} {cls : Value} {d : Option Addr} (e : Same R R') (h : XtOk Z R r cls d) : XtOk Z R' r cls d := by
  obtain ⟨h1, h2 | ⟨dx, h3, h4⟩⟩ := h
  · exact ⟨h1, .inl h2⟩
  · exact ⟨h1, .inr ⟨dx, h3, e _ _ h4⟩⟩
theorem RepEx.xt {Z : Zz} {B R : Hp} {r : Rf} {cls : Value} {d : Option Addr} (h : RepEx Z B R r cls d) : XtOk Z R r cls d := by
  obtain ⟨h1, h2 | ⟨_, dx, h3, _, h4⟩⟩ := h
  · exact ⟨h1, .inl h2⟩
  · exact ⟨h1, .inr ⟨dx, h3, h4⟩⟩
instance : Rp Rf := ⟨⟨.BookError, []⟩, fun Z H v r => ∃ a cls d, v = .ref a ∧ H a = some (XT cls d a) ∧ XtOk Z H r cls d, fun e h => by
  obtain ⟨a, cls, d, h1, h2, h3⟩ := h
  exact ⟨a, cls, d, h1, e _ _ h2, h3.mono e⟩⟩
/-- the exception that a suite holds -/
def ExO1 (a : Addr) (d : Option Addr) (r : Rf) : Own := ⟨fun Z R _ v => v = .ref a ∧ XtOk Z R r (.ref (Z.cls r.name)) d, fun e h => ⟨h.1, h.2.mono e⟩⟩
abbrev Sl.ex (a : Addr) (d : Option Addr) (r : Rf) : Sl := .ow (ExO1 a d r)
section
variable {Z : Zz} {B R0 R R' H H' : Hp} {ρ σ : List (Option V)} {Δ Γ : List Sl}
/-- a slot that needs no objects of its own -/
theorem sx_pushO {s : Sl} {v : V} (S : Sx Z B R0 R H ρ Δ σ Γ) (h : slok Z R H (some v) s []) : Sx Z B R0 R H (some v :: ρ) (s :: Δ) σ Γ := by
  obtain ⟨hl, own, hs, es⟩ := S
  exact ⟨by simp [hl], own, hs, [], own, rfl, h, es⟩
theorem slok_ex {a : Addr} {d : Option Addr} {r : Rf} (h : XtOk Z R r (.ref (Z.cls r.name)) d) : slok Z R H (some (.ref a)) (.ex a d r) [] := ⟨.ref a, rfl, ⟨rfl, h⟩, fun p hp => by simp at hp⟩
end
/-! ### the classes -/
def mroV (Z : Zz) (C : CN) : List Value := (if C = .BookError then [] else [.ref (Z.cls C)]) ++ [.ref (Z.cls .BookError), .type "ValueError", .type "Exception", .type "BaseException", .type "object"]
structure ExsC (Z : Zz) (C : CN) : Prop where
  mro : (PySem.W.clsIn Z.K (Z.cls C)).map (·.mro) = some (mroV Z C)
  ty : PySem.W.typeIn Z.K (.ref (Z.cls C)) = some (.type "type")
  hd : PySem.W.hasDictIn Z.K (Z.cls C) = true
  ga : PySem.W.findIn Z.K (.ref (Z.cls C)) "__getattribute__" = some (some (.builtin "BaseException.__getattribute__"))
  gg : PySem.W.findIn Z.K (.ref (Z.cls C)) "__getattr__" = some none
  ca : PySem.W.findIn Z.K (.ref (Z.cls C)) "__class__" = some (some (.builtin "object.__class__"))
def ExsL (Z : Zz) : List CN → Prop
  | [] => True
  | C :: r => ExsC Z C ∧ ExsL Z r
structure Exs (Z : Zz) (L : List CN) : Prop where
  all : ExsL Z L
  inj : (L.map Z.cls).Nodup
  base : .BookError ∈ L
  sg : PySem.W.specialIn Z.K (.builtin "object.__class__") "__get__" = some (some (.builtin "getset_descriptor.__get__"))
  tk : PySem.W.takesIn Z.K (.builtin "object.__class__") = some true
theorem ExsL.at {Z : Zz} : ∀ {L : List CN}, ExsL Z L → ∀ {C : CN}, C ∈ L → ExsC Z C
  | _ :: _, ⟨h, t⟩, C, m => by
    rcases List.mem_cons.mp m with e | e
    · rw [e]; exact h
    · exact ExsL.at t e
/-- D stands beneath C -/
def subB (D C : CN) : Bool := decide (D = C) || decide (C = .BookError)
section
variable {Z : Zz} {L : List CN} {C D : CN}
theorem nd_inj : ∀ {L : List CN} {f : CN → Addr}, (L.map f).Nodup → ∀ {C D : CN}, C ∈ L → D ∈ L → f C = f D → C = D
  | x :: r, f, h, C, D, hC, hD, e => by
    simp only [List.map_cons, List.nodup_cons] at h
    rcases List.mem_cons.mp hC with q | q <;> rcases List.mem_cons.mp hD with q' | q'
    · rw [q, q']
    · subst q
      exact absurd (e ▸ List.mem_map.mpr ⟨D, q', rfl⟩) h.1
    · subst q'
      exact absurd (e ▸ List.mem_map.mpr ⟨C, q, rfl⟩) h.1
    · exact nd_inj h.2 q q' e
theorem Exs.at (E : Exs Z L) (h : C ∈ L) : ExsC Z C := E.all.at h
theorem Exs.inj' (E : Exs Z L) (hC : C ∈ L) (hD : D ∈ L) (e : Z.cls C = Z.cls D) : C = D := nd_inj E.inj hC hD e
theorem mroV_ne : (mroV Z C).isEmpty = false := by
  unfold mroV
  cases (if C = .BookError then ([] : List Value) else [.ref (Z.cls C)]) <;> rfl
theorem Exs.subV (E : Exs Z L) (hD : D ∈ L) (b : Value) : PySem.W.subIn Z.K (.ref (Z.cls D)) b = some ((mroV Z D).contains b) := by
  have h := (E.at hD).mro
  obtain ⟨cd, h1, h2⟩ := Option.map_eq_some_iff.mp h
  show (PySem.W.clsIn Z.K (Z.cls D)).bind _ = _
  rw [h1]
  show (if cd.mro.isEmpty = true then none else some (cd.mro.contains b)) = _
  rw [h2, mroV_ne]
  rfl
theorem ref_beq {a b : Addr} : ((Value.ref a : Value) == .ref b) = decide (a = b) := by
  by_cases h : a = b
  · rw [h, decide_eq_true rfl]; exact beq_self_eq_true _
  · rw [decide_eq_false h]
    exact Bool.eq_false_iff.mpr fun q => h (Value.ref.inj (beq_iff_eq.mp q))
theorem ref_tbeq {a : Addr} {t : String} : ((Value.ref a : Value) == .type t) = false := Bool.eq_false_iff.mpr fun q => by cases beq_iff_eq.mp q
theorem type_rbeq {a : Addr} {t : String} : ((Value.type t : Value) == .ref a) = false := Bool.eq_false_iff.mpr fun q => by cases beq_iff_eq.mp q
theorem Exs.sub (E : Exs Z L) (hD : D ∈ L) (hC : C ∈ L) : PySem.W.subIn Z.K (.ref (Z.cls D)) (.ref (Z.cls C)) = some (subB D C) := by
  rw [E.subV hD]
  congr 1
  have e1 : decide (Z.cls C = Z.cls D) = decide (D = C) := decide_eq_decide.mpr ⟨fun h => (E.inj' hC hD h).symm, fun h => by rw [h]⟩
  have e2 : decide (Z.cls C = Z.cls .BookError) = decide (C = .BookError) := decide_eq_decide.mpr ⟨fun h => E.inj' hC E.base h, fun h => by rw [h]⟩
  have tail : ([.type "ValueError", .type "Exception", .type "BaseException", .type "object"] : List Value).contains (.ref (Z.cls C)) = false := by
    simp only [List.contains_cons, List.contains_nil, ref_tbeq, Bool.or_false]
  unfold mroV subB
  by_cases h : D = .BookError
  · rw [if_pos h, List.nil_append, List.contains_cons, ref_beq, e2, tail, Bool.or_false, h]
    by_cases c : C = .BookError
    · simp [c]
    · have : ¬ CN.BookError = C := fun z => c z.symm
      simp [c, this]
  · rw [if_neg h, List.cons_append, List.nil_append, List.contains_cons, List.contains_cons, ref_beq, ref_beq, e1, e2, tail, Bool.or_false]
theorem Exs.subT (E : Exs Z L) (hD : D ∈ L) {t : String} (h : t = "ValueError" ∨ t = "BaseException" ∨ t = "object") : PySem.W.subIn Z.K (.ref (Z.cls D)) (.type t) = some true := by
  rw [E.subV hD]
  congr 1
  unfold mroV
  rw [List.contains_iff_mem, List.mem_append]
  refine .inr ?_
  rcases h with rfl | rfl | rfl <;> simp
theorem Exs.clsT (E : Exs Z L) (hC : C ∈ L) : ((PySem.W.clsIn Z.K (Z.cls C)).isSome && PySem.W.typeIn Z.K (.ref (Z.cls C)) == some (.type "type")) = true := by
  obtain ⟨cd, h1, h2⟩ := Option.map_eq_some_iff.mp (E.at hC).mro
  rw [h1, (E.at hC).ty]
  rfl
theorem Exs.kit (E : Exs Z L) (hD : D ∈ L) (hC : C ∈ L) : PySem.W.kitCls Z.K (.ref (Z.cls D)) (.ref (Z.cls C)) = some (subB D C) := by
  unfold PySem.W.kitCls
  show (if _ then PySem.W.subIn _ _ _ else none) = _
  rw [if_pos (E.clsT hC)]
  exact E.sub hD hC
theorem Exs.one (E : Exs Z L) (hD : D ∈ L) (hC : C ∈ L) : PySem.W.kitOne Z.K (.ref (Z.cls D)) (.ref (Z.cls C)) = some (subB D C) := by
  unfold PySem.W.kitOne
  rw [ref_beq]
  by_cases c : D = C
  · subst c
    rw [if_pos (decide_eq_true rfl)]
    simp [subB]
  · rw [if_neg (by simp only [decide_eq_true_eq]; exact fun z => c (E.inj' hD hC z))]
    exact E.kit hD hC
theorem Exs.oneV (E : Exs Z L) (hD : D ∈ L) : PySem.W.kitOne Z.K (.ref (Z.cls D)) (.type "ValueError") = some true := by
  unfold PySem.W.kitOne
  rw [ref_tbeq, if_neg Bool.false_ne_true]
  unfold PySem.W.kitCls
  show (if PySem.W.kitMeta "ValueError" = true then PySem.W.subIn _ _ _ else none) = _
  rw [if_pos (by decide +kernel)]
  exact E.subT hD (.inl rfl)
theorem Exs.exm (E : Exs Z L) (hD : D ∈ L) (hC : C ∈ L) : PySem.W.exmOne Z.K (.ref (Z.cls D)) (.ref (Z.cls C)) = some (subB D C) := by
  unfold PySem.W.exmOne
  rw [E.subT hC (.inr (.inl rfl)), if_pos (by rfl)]
  exact E.kit hD hC
theorem Exs.noneC (E : Exs Z L) (hC : C ∈ L) : PySem.W.kitOne Z.K (.type "NoneType") (.ref (Z.cls C)) = some false := by
  unfold PySem.W.kitOne
  rw [type_rbeq, if_neg Bool.false_ne_true]
  unfold PySem.W.kitCls
  show (if _ then PySem.W.subIn _ _ _ else none) = _
  rw [if_pos (E.clsT hC)]
  show ((fastBuiltinMro "NoneType").map (·.contains (.ref (Z.cls C)))) = some false
  have e : fastBuiltinMro "NoneType" = some [.type "NoneType", .type "object"] := by decide +kernel
  rw [e]
  rfl
end
end TB

namespace TB
open PySem PySem.Spec PyProof.Rows L2
/-! ### isinstance of what was kept -/
def rIsX (K : PySem.W.Frag) : List V → Hp → VK → Prop := fun xs H Q => rIsi K xs H Q ∨ ∃ (c : V) (u : Value) (b : Bool) (a D : Addr) (d : Option Addr), xs = [.ref a, c] ∧ ClsV c u ∧ H a = some (XT (.ref D) d a) ∧ (d = none ∨ ∃ dx fs, d = some dx ∧ H dx = some (.xd fs)) ∧
  PySem.W.KitX K (.ref a) (.ref D) (fun h => ∃ ox od, PySem.W.InstAt h a ox D od) ∧ PySem.W.kitOne K (.ref D) u = some b ∧ Q (.bl b) H
theorem call_isX {X : Cx} : CallR X (.builtin "isinstance") (rIsX X.K) := by
  intro pins s σ H xs us Q I r h
  rcases h with h | ⟨c, u, b, a, D, d, rfl, k, ha, hd, kx, e, q⟩
  · exact call_isi pins s σ H xs us Q I r h
  · obtain ⟨u1, u2, rfl, r1, r2⟩ := vals2 r
    have e1 : u1 = .ref a := r1
    have e2 := k.eq r2
    subst e1 e2
    obtain ⟨⟨oe, vs, ho, hz, hv⟩, _, _⟩ := I.hok a _ ha
    have J : ∃ ox od, PySem.W.InstAt s.heap a ox D od := by
      have hn : PySem.W.notCls oe = true := by unfold PySem.W.notCls; rw [hv] <;> rfl
      rcases hd with hd | ⟨dx, fs, hd, hdx⟩
      · exact ⟨oe, none, ho, hz.1, hn, by rw [hz.2, hd]; trivial⟩
      · have hx : ObjOk X.prog X.w H s.heap dx (.xd fs) := I.hok dx _ hdx
        obtain ⟨mA, hns, _⟩ := hx
        obtain ⟨od, hod, _⟩ := lookIn_ns hns
        exact ⟨oe, some od, ho, hz.1, hn, by rw [hz.2, hd]; exact hod⟩
    exact PySem.W.kia_one kx I.kIn J e (fun z => nomatch z) fun tk => ⟨.bl b, H, I.tok tk, rfl, q⟩
section
variable {Z : Zz} {L : List CN} {C D : CN}
theorem Exs.kitx (E : Exs Z L) (hD : D ∈ L) {a : Addr} : PySem.W.KitX Z.K (.ref a) (.ref (Z.cls D)) (fun h => ∃ ox od, PySem.W.InstAt h a ox (Z.cls D) od) := by
  have e := E.at hD
  have cl : (PySem.W.clsIn Z.K (Z.cls D)).isSome = true := by
    obtain ⟨cd, h1, _⟩ := Option.map_eq_some_iff.mp e.mro
    rw [h1]; rfl
  have k : ∀ ox od, PySem.W.KitX Z.K (.ref a) (.ref (Z.cls D)) (fun h => PySem.W.InstAt h a ox (Z.cls D) od) := fun ox od =>
    PySem.W.kitx_exc cl e.ga e.gg (E.subT hD (.inr (.inl rfl))) e.ca E.sg E.tk (E.subT hD (.inr (.inr rfl)))
  exact { ty := fun M h X ⟨ox, od, I⟩ => (k ox od).ty M h X I, it := fun M h X ⟨ox, od, I⟩ => (k ox od).it M h X I, ne := (k { cls := .none, data := .fields #[] } none).ne, ca := fun X ⟨ox, od, I⟩ kk => (k ox od).ca X I kk }
theorem Exs.xf (E : Exs Z L) (hD : D ∈ L) : XfC Z.K (Z.cls D) := ⟨(E.at hD).ga, (E.at hD).gg, E.subT hD (.inr (.inl rfl)), (E.at hD).hd⟩
end
end TB

namespace TB
open PySem PySem.Spec PyProof.Rows L2
section
variable {c : Cn} {Γ : List Sl} {ta tb te tl : TE} {tt tc : TT} {t u : TS} {s so : Sl} {α β γ : Type} {_ : Rp α} {_ : Rp β} {_ : Rp γ} {P : Po} {d : α} {L : List CN}
/-- the answer of isinstance for what was caught, or None -/
def isB (o : Option Rf) (C : CN) : Bool := match o with | none => false | some r => subB r.name C
theorem tyNone {K : PySem.W.Frag} {H : Hp} : TyX K H .non (.type "NoneType") := .base .non
theorem ev_isX {o : Option Rf} {C : CN} (E : Exs c.Z L) (hC : C ∈ L) (hr : ∀ r, o = some r → r.name ∈ L) (ha : Ev c Γ ta (.im o)) : Ev c Γ (tCB (rIsX c.Z.K) (tCons ta (tCons (tC (.ref (c.Z.cls C))) tNil))) (.im (isB o C)) := fun B R0 R H ρ Δ σ S Q q x =>
  ha B R0 R H ρ Δ σ S _ (fun v R1 H1 S1 => by
    have rv := sx_top' S1
    have S2 := sx_pop S1
    cases o with
    | none =>
      cases (show v = V.non from rv)
      exact .inl ⟨.non, _, _, _, false, rfl, .own _, tyNone, E.noneC hC, q _ R1 H1 (sx_push S2 rfl)⟩
    | some r =>
      obtain ⟨a, cls, d, rfl, h2, h3, h4⟩ := (show ∃ a cls d, v = V.ref a ∧ R1 a = some (XT cls d a) ∧ XtOk c.Z R1 r cls d from rv)
      subst h3
      refine .inr ⟨_, _, subB r.name C, a, _, d, rfl, .own _, sx_same S1 _ _ h2, ?_, E.kitx (hr r rfl), E.one (hr r rfl) hC, q _ R1 H1 (sx_push S2 rfl)⟩
      rcases h4 with h4 | ⟨dx, h5, h6⟩
      · exact .inl h4.2
      · exact .inr ⟨dx, _, h5, sx_same S1 _ _ h6⟩) x
theorem ev_isXV {o : Option Rf} (E : Exs c.Z L) (hr : ∀ r, o = some r → r.name ∈ L) (ha : Ev c Γ ta (.im o)) : Ev c Γ (tCB (rIsX c.Z.K) (tCons ta (tCons (tC (.ty "ValueError")) tNil))) (.im o.isSome) := fun B R0 R H ρ Δ σ S Q q x =>
  ha B R0 R H ρ Δ σ S _ (fun v R1 H1 S1 => by
    have rv := sx_top' S1
    have S2 := sx_pop S1
    cases o with
    | none =>
      cases (show v = V.non from rv)
      exact .inl ⟨.non, _, _, _, false, rfl, .ty _, tyNone, kit_ty (by decide +kernel), q _ R1 H1 (sx_push S2 rfl)⟩
    | some r =>
      obtain ⟨a, cls, d, rfl, h2, h3, h4⟩ := (show ∃ a cls d, v = V.ref a ∧ R1 a = some (XT cls d a) ∧ XtOk c.Z R1 r cls d from rv)
      subst h3
      refine .inr ⟨_, _, true, a, _, d, rfl, .ty _, sx_same S1 _ _ h2, ?_, E.kitx (hr r rfl), E.oneV (hr r rfl), q _ R1 H1 (sx_push S2 rfl)⟩
      rcases h4 with h4 | ⟨dx, h5, h6⟩
      · exact .inl h4.2
      · exact .inr ⟨dx, _, h5, sx_same S1 _ _ h6⟩) x
/-! ### try -/
def putG : Option Nat → Sl → List Sl → List Sl
  | none, _, G => G
  | some i, s, G => G.set i s
/-- how the slots are told behind a suite: the exception may have gone to slot j -/
def KeepX (o : Option Nat) (a : Addr) (d : Option Addr) (r : Rf) (G G' : List Sl) : Prop := G' = putG o .un G ∨ ∃ j, o ≠ some j ∧ G[j]? = some (.ex a d r) ∧ G' = putG o .un (G.set j (.im (some r)))
def HsW (c : Cn) (P : Po) : List Hdl → Rf → List Sl → Prop
  | [], r, G => c.ex r G
  | (C, o, ts) :: l, r, G => ∃ b, PySem.W.exmOne c.Z.K (.ref (c.Z.cls r.name)) C = some b ∧ (b = true → ∀ a d, W c.no (putG o (.ex a d r) G) (ts a (.ref (c.Z.cls r.name)) d) ⟨fun G' => ∃ G2, KeepX o a d r G' G2 ∧ P.nx G2, P.rt, fun G' => ∃ G2, KeepX o a d r G' G2 ∧ P.bk G2, fun G' => ∃ G2, KeepX o a d r G' G2 ∧ P.ct G2⟩) ∧ (b = false → HsW c P l r G)
theorem sx_keepX {Z : Zz} {B R0 R H : Hp} {ρ σ : List (Option V)} {Δ G G2 : List Sl} {o : Option Nat} {a : Addr} {d : Option Addr} {r : Rf} (S : Sx Z B R0 R H ρ Δ σ G) (na : H a = none) (k : KeepX o a d r G G2) :
    ∃ R', Sx Z B R0 R' (upd H a (XT (.ref (Z.cls r.name)) d a)) ρ Δ (clrO o σ) G2 := by
  rcases k with rfl | ⟨j, hj, e, rfl⟩
  · cases o with
    | none => exact ⟨R, sx_alloc S na _⟩
    | some i => exact ⟨R, sx_forgets (sx_alloc S na _) i none⟩
  · obtain ⟨S1, sm⟩ := sx_froz S na (XT (.ref (Z.cls r.name)) d a)
    obtain ⟨w, f, h1, v, rfl, ⟨rfl, h3⟩, _⟩ := sx_slot S1 e
    have S2 := sx_asg (sx_push (α := Option Rf) (d := some r) S1 (v := .ref a) ⟨a, _, d, rfl, upd_same, h3⟩) j
    rw [set_same h1] at S2
    cases o with
    | none => exact ⟨_, S2⟩
    | some i => exact ⟨_, sx_forgets S2 i none⟩
theorem w_try {l : List Hdl} {tb : WX → TS} (exB : Rf → List Sl → Prop) (hb : ∀ X', W ⟨c.Z, X', exB⟩ Γ (tb X') P) (hh : ∀ r G, exB r G → HsW c P l r G) : W c Γ (tTry c.Z.K l c.X tb) P := fun B R0 R H ρ Δ σ D S n rr bb kk x => by
  refine hb (wTry c.Z.K c.X D l) B R0 R H ρ Δ σ D S n rr bb kk fun R' H' σ' G' r cls d S' rx e => ?_
  have xt := rx.xt
  obtain ⟨ec, _⟩ := id xt
  subst ec
  have go : ∀ l : List Hdl, HsW c P l r G' → wTry c.Z.K c.X D l (.ref (c.Z.cls r.name)) d σ' H' := by
    intro l
    induction l with
    | nil => exact fun h => x R' H' σ' G' r _ d S' rx h
    | cons hd l ih =>
      obtain ⟨C, o, ts⟩ := hd
      rintro ⟨b, h1, h2, h3⟩
      refine ⟨b, h1, fun hb a na => ?_, fun hb => ih (h3 hb)⟩
      have S2 : Sx c.Z B R0 R' H' ρ Δ (putO o a σ') (putG o (.ex a d r) G') := by
        cases o with
        | none => exact S'
        | some i => exact sx_asg (sx_pushO S' (slok_ex xt)) i
      refine h2 hb a d B R0 R' H' ρ Δ _ _ S2 (fun R2 H2 σ2 G2 S3 ⟨G3, hk, hp⟩ na2 => ?_) (fun R2 H2 v s S3 hp na2 => ?_) (fun R2 H2 σ2 G2 S3 ⟨G3, hk, hp⟩ na2 => ?_) (fun R2 H2 σ2 G2 S3 ⟨G3, hk, hp⟩ na2 => ?_) (Xok.no c _ _ _ _)
      · obtain ⟨R3, S4⟩ := sx_keepX S3 na2 hk
        exact n R3 _ _ G3 S4 hp
      · exact rr R2 _ v s (sx_alloc S3 na2 _) hp
      · obtain ⟨R3, S4⟩ := sx_keepX S3 na2 hk
        exact bb R3 _ _ G3 S4 hp
      · obtain ⟨R3, S4⟩ := sx_keepX S3 na2 hk
        exact kk R3 _ _ G3 S4 hp
  exact go l (hh r G' e)
/-- the suite «x = e», e the exception that it holds -/
theorem w_keep {i j : Nat} {a : Addr} {d : Option Addr} {r : Rf} (hij : i ≠ j) (e : Γ[i]? = some (.ex a d r)) (hj : j < Γ.length) (k : P.nx ((Γ.set j (.im (some r))).set i .un)) :
    W c.no Γ (tAsg (tVar i) (gName j)) ⟨fun G' => ∃ G2, KeepX (some i) a d r G' G2 ∧ P.nx G2, P.rt, fun G' => ∃ G2, KeepX (some i) a d r G' G2 ∧ P.bk G2, fun G' => ∃ G2, KeepX (some i) a d r G' G2 ∧ P.ct G2⟩ := fun B R0 R H ρ Δ σ D S n rr bb kk x => by
  obtain ⟨w, f, h1, v, rfl, ⟨rfl, h3⟩, _⟩ := sx_slot S e
  refine ⟨.ref a, h1, n R H _ _ (sx_asg (sx_pushO S (s := .ex a d r) (v := .ref a) ⟨_, rfl, ⟨rfl, h3⟩, fun p hp => by simp at hp⟩) j) ⟨_, .inr ⟨j, fun z => hij (by simpa using z), by rw [List.getElem?_set_self hj], rfl⟩, ?_⟩⟩
  show P.nx (((Γ.set j _).set j _).set i .un)
  rw [List.set_set]
  exact k
/-- e.f within a suite -/
theorem ev_xf {i : Nat} {a : Addr} {d : Option Addr} {r : Rf} {f : Str} {n : Int} {C : Addr} (e : Γ[i]? = some (.ex a d r)) (hC : C = c.Z.cls r.name) (hf : r.fs.lookup f = some (.int n)) : Ev c Γ (tXf a (.ref (c.Z.cls r.name)) d C f (tVar i)) (.im n) := fun B R0 R H ρ Δ σ S Q q x => by
  obtain ⟨w, g, h1, v, rfl, ⟨rfl, h3, h4⟩, _⟩ := sx_slot S e
  rcases h4 with ⟨h4, _⟩ | ⟨dx, h5, h6⟩
  · rw [h4] at hf; cases hf
  · exact ⟨.ref a, h1, rfl, by rw [hC], dx, r.fs, .int n, h5, sx_same S _ _ h6, hf, q _ R H (sx_push S rfl)⟩
end
end TB

/-! TbPr: own pairs of any two slots; texts compared. -/
namespace TB
open PySem L2
def Pr (s1 s2 : Sl) : Own := ⟨fun Z R h v => ∃ (a : Addr) (x y : V) (f1 f2 : List Addr), v = .ref a ∧ (a :: (f1 ++ f2)).Nodup ∧ h a = some (.tup [x, y]) ∧ slok Z R h (some x) s1 f1 ∧ slok Z R h (some y) s2 f2,
  fun e h => by
    obtain ⟨a, x, y, f1, f2, h1, h2, h3, h4, h5⟩ := h
    exact ⟨a, x, y, f1, f2, h1, h2, h3, slok_mono e (fun _ _ => rfl) h4, slok_mono e (fun _ _ => rfl) h5⟩⟩
abbrev Sl.pr (s1 s2 : Sl) : Sl := .ow (Pr s1 s2)
theorem val_pr {s1 s2 : Sl} : Val (.pr s1 s2) := val_ow
section
variable {Z : Zz} {B R0 R R' H H' : Hp} {τ ρ σ : List (Option V)} {Θ Δ Γ : List Sl} {s s' s1 s2 : Sl} {o : Option V} {f g own : List Addr}
theorem slok_pr {a : Addr} {x y : V} {f1 f2 : List Addr} (nd : (a :: (f1 ++ f2)).Nodup) (h : H a = some (.tup [x, y])) (h1 : slok Z R H (some x) s1 f1) (h2 : slok Z R H (some y) s2 f2) : slok Z R H (some (.ref a)) (.pr s1 s2) (a :: (f1 ++ f2)) := by
  refine ⟨.ref a, rfl, ⟨a, x, y, f1, f2, rfl, nd, by rw [res_in (by simp)]; exact h, slok_mono (Same.refl _) (fun p hp => res_in (by simp [hp])) h1, slok_mono (Same.refl _) (fun p hp => res_in (by simp [hp])) h2⟩, fun p hp => ?_⟩
  rcases List.mem_cons.mp hp with q | q
  · rw [q, h]; simp
  · rcases List.mem_append.mp q with q | q
    · exact slok_some h1 p q
    · exact slok_some h2 p q
theorem slok_pr' (h : slok Z R H o (.pr s1 s2) f) : ∃ (a : Addr) (x y : V) (f1 f2 : List Addr), o = some (.ref a) ∧ (a :: (f1 ++ f2)).Nodup ∧ (∀ p ∈ a :: (f1 ++ f2), p ∈ f) ∧ H a = some (.tup [x, y]) ∧ slok Z R H (some x) s1 f1 ∧ slok Z R H (some y) s2 f2 := by
  obtain ⟨v, rfl, ⟨a, x, y, f1, f2, rfl, nd, h1, h2, h3⟩, h4⟩ := h
  have k : ∀ p, res H f p ≠ none → p ∈ f ∧ H p = res H f p := fun p hp => by
    by_cases c : p ∈ f
    · exact ⟨c, (res_in c).symm⟩
    · exact absurd (by unfold res; rw [if_neg c]) hp
  have ka := k a (by rw [h1]; simp)
  refine ⟨a, x, y, f1, f2, rfl, nd, fun p hp => ?_, by rw [ka.2]; exact h1, slok_mono (Same.refl _) (fun p hp => (k p (slok_some h2 p hp)).2) h2, slok_mono (Same.refl _) (fun p hp => (k p (slok_some h3 p hp)).2) h3⟩
  rcases List.mem_cons.mp hp with q | q
  · rw [q]; exact ka.1
  · rcases List.mem_append.mp q with q | q
    · exact (k p (slok_some h2 p q)).1
    · exact (k p (slok_some h3 p q)).1
theorem det_pr (h1 : Det s1) (h2 : Det s2) : Det (.pr s1 s2) := fun Z R R' H o f h => by
  obtain ⟨v, e, ⟨a, x, y, f1, f2, e1, nd, ha, k1, k2⟩, h4⟩ := h
  exact ⟨v, e, ⟨a, x, y, f1, f2, e1, nd, ha, h1 _ _ _ _ _ _ k1, h2 _ _ _ _ _ _ k2⟩, h4⟩
/-- a pair is taken apart -/
theorem sx_unpair {v : V} (S : Sx Z B R0 R H (some v :: ρ) (.pr s1 s2 :: Δ) σ Γ) : ∃ (a : Addr) (x y : V), v = .ref a ∧ H a = some (.tup [x, y]) ∧ Sx Z B R0 R H (some x :: some y :: ρ) (s1 :: s2 :: Δ) σ Γ := by
  obtain ⟨hl, own, hs, f, g, rfl, h1, es⟩ := S
  obtain ⟨a, x, y, f1, f2, e, nd, sub, ha, k1, k2⟩ := slok_pr' h1
  cases e
  have ndo := hs.nd
  refine ⟨a, x, y, rfl, ha, by simpa using hl, f1 ++ (f2 ++ g), hs_sub hs (fun p hp => ?_) ?_, f1, f2 ++ g, rfl, k1, f2, g, rfl, k2, es⟩
  · simp only [List.mem_append] at hp ⊢
    rcases hp with q | q | q
    · exact .inl (sub p (by simp [q]))
    · exact .inl (sub p (by simp [q]))
    · exact .inr q
  · simp only [List.nodup_append, List.nodup_cons, List.mem_append] at nd ndo ⊢
    refine ⟨nd.2.1, ⟨nd.2.2.1, ndo.2.1, fun p hp q hq z => ndo.2.2 p (sub p (by simp [hp])) q hq z⟩, fun p hp q hq z => ?_⟩
    rcases hq with r | r
    · exact nd.2.2.2 p hp q r z
    · exact ndo.2.2 p (sub p (by simp [hp])) q r z
/-- the two things on top make a pair -/
theorem sx_pair {p : Addr} {x y : V} (S : Sx Z B R0 R H (some x :: some y :: ρ) (s1 :: s2 :: Δ) σ Γ) (np : H p = none) : Sx Z B R0 R (upd H p (.tup [x, y])) (some (.ref p) :: ρ) (.pr s1 s2 :: Δ) σ Γ := by
  obtain ⟨hl, own, hs, f1, g1, rfl, h1, f2, g2, rfl, h2, es⟩ := S
  have fp := fresh_own hs (Z := Z) (τ := some x :: some y :: (ρ ++ σ)) (Θ := s1 :: s2 :: (Δ ++ Γ)) ⟨f1, _, rfl, h1, f2, g2, rfl, h2, es⟩ np
  have nd := hs.nd
  have ne : ∀ q, q ∈ f1 ++ (f2 ++ g2) → q ≠ p := fun q hq z => fp.2.2 (z ▸ hq)
  have ndp : (p :: (f1 ++ f2)).Nodup := by
    have q := fp.2.2
    simp only [List.nodup_cons, List.nodup_append, List.mem_append] at nd q ⊢
    grind
  refine ⟨by simpa using hl, (p :: (f1 ++ f2)) ++ g2, ⟨hs.rh.trans (same_upd np), hs.bh.trans (same_upd np), hs.r0, hs.nw, fun b hb => ?_, ?_⟩, p :: (f1 ++ f2), g2, rfl, slok_pr ndp upd_same (slok_mono (Same.refl _) (fun b hb => upd_ne (ne b (by simp [hb]))) h1) (slok_mono (Same.refl _) (fun b hb => upd_ne (ne b (by simp [hb]))) h2), es_mono (Same.refl _) (fun b hb => upd_ne (ne b (by simp [hb]))) es⟩
  · simp only [List.cons_append, List.mem_cons, List.mem_append] at hb
    rcases hb with rfl | hb
    · exact ⟨fp.1, fp.2.1⟩
    · exact hs.ow b (by simp only [List.mem_append]; grind)
  · have q := fp.2.2
    simp only [List.cons_append, List.nodup_cons, List.nodup_append, List.mem_append] at nd q ⊢
    grind
end
section
variable {c : Cn} {Γ : List Sl} {ta tb te tl : TE} {tt tc : TT} {t u : TS} {s s' s1 s2 : Sl} {α β γ : Type} {_ : Rp α} {_ : Rp β} {_ : Rp γ} {P : Po} {d : α}
/-- x, y = a pair -/
theorem w_asgPr {i j : Nat} (h : Ev c Γ te (.pr s1 s2)) (k : P.nx ((Γ.set i s1).set j s2)) : W c Γ (tAsg te (gTup c.Z.K 2 (gCons (gName i) (gCons (gName j) gNil)))) P := fun B R0 R H ρ Δ σ D S n r bb kk x =>
  h B R0 R H ρ Δ σ S _ (fun v R1 H1 S1 => by
    obtain ⟨a, y, z, rfl, ha, S2⟩ := sx_unpair S1
    exact ⟨a, _, rfl, SqT.of ha, rfl, _, _, rfl, _, _, rfl, rfl, n R1 H1 _ _ (sx_asg (sx_asg S2 i) j) k⟩) x
theorem w_asgPrS {i j : Nat} {S : Sl → Prop} (h : EvS c Γ te S) (k : ∀ s, S s → ∃ s1 s2, s = .pr s1 s2 ∧ P.nx ((Γ.set i s1).set j s2)) : W c Γ (tAsg te (gTup c.Z.K 2 (gCons (gName i) (gCons (gName j) gNil)))) P := fun B R0 R H ρ Δ σ D S0 n r bb kk x =>
  h B R0 R H ρ Δ σ S0 _ (fun v s R1 H1 hs S1 => by
    obtain ⟨s1, s2, rfl, k2⟩ := k s hs
    obtain ⟨a, y, z, rfl, ha, S2⟩ := sx_unpair S1
    exact ⟨a, _, rfl, SqT.of ha, rfl, _, _, rfl, _, _, rfl, rfl, n R1 H1 _ _ (sx_asg (sx_asg S2 i) j) k2⟩) x
/-- return x, y -/
theorem w_retPr {i j : Nat} (hij : i ≠ j) (v1 : Val s1) (v2 : Val s2) (h1 : Γ[i]? = some s1) (h2 : Γ[j]? = some s2) (k : P.rt (.pr s1 s2)) : W c Γ (tRet (tTup (tCons (tVar i) (tCons (tVar j) tNil)))) P := fun B R0 R H ρ Δ σ D S n r bb kk x => by
  obtain ⟨o2, e2, S1⟩ := sx_take S h2
  obtain ⟨o1, e1, S2⟩ := sx_take S1 (i := i) (by rw [List.getElem?_set_ne (Ne.symm hij)]; exact h1)
  have S3 := sx_leave S2
  obtain ⟨hl, own, hs, f1, g1, q1, k1, f2, g2, q2, k2, es⟩ := id S3
  obtain ⟨x1, rfl⟩ := v1 _ _ _ _ _ k1
  obtain ⟨x2, rfl⟩ := v2 _ _ _ _ _ k2
  exact ⟨x1, e1, x2, e2, by show 2 ≤ sizeLine; decide, fun p np => r R _ _ _ (sx_pair S3 np) k⟩
theorem val_im : Val (.im d) := fun Z R H o f h => ⟨_, h.2.choose_spec.1⟩
/-- texts -/
theorem ev_eqStr {x y : Str} (ha : Ev c Γ ta (.im x)) (hb : Ev c Γ tb (.im y)) : Ev c Γ (tOp (gEq c.Z.K) ta tb) (.im (decide (x = y))) := ev_opv ha hb fun R H v w _ rv rw => by
  have e1 : v = .str x := rv
  have e2 : w = .str y := rw
  subst e1 e2
  refine ⟨.bl (decide (x = y)), rfl, fun Q q => .inl ⟨rfl, ?_⟩⟩
  have e : decide (V.str x = V.str y) = decide (x = y) := decide_eq_decide.mpr ⟨fun h => V.str.inj h, fun h => by rw [h]⟩
  rw [e]
  exact q
theorem ev_isNoneD {o : Option α} (ha : Ev c Γ ta (.im o)) (hn : ∀ Z R v (d : α), Rp.rp Z R v d → v ≠ .non) : Ev c Γ (tOp gIs ta (tC .non)) (.im o.isNone) := ev_isN ha _ fun R v rv => by
  cases o with
  | none => exact decide_eq_true rv
  | some d => exact decide_eq_false (hn _ _ _ _ rv)
theorem ev_isSomeD {o : Option α} (ha : Ev c Γ ta (.im o)) (hn : ∀ Z R v (d : α), Rp.rp Z R v d → v ≠ .non) : Ev c Γ (tOp gIsNot ta (tC .non)) (.im o.isSome) := ev_isNotN ha _ fun R v rv => by
  cases o with
  | none =>
    have e : v = V.non := rv
    rw [e]; rfl
  | some d => simp [hn _ _ _ _ rv]
end
end TB
namespace TB
open PySem L2
section
variable {c : Cn} {Γ : List Sl} {te : TE} {s : Sl} {α : Type} {_ : Rp α}
/-- o.m(..), its answer told by a set -/
theorem es_meth {Tm' : Tm} {o : α} {C : Addr} {m : Str} {t : TA} {ss : List Sl} {S : Sl → Prop} (h : Ev c Γ te (.im o)) (hm : ∀ R v, Rp.rp c.Z R v o → ∃ a dx fs, v = .ref a ∧ R a = some (.ins C dx fs) ∧ fs.lookup m = none) (ha : EvA c Γ t ss) (hT : Tm' (.im o :: (ss ++ [])) S fun r => c.ex r Γ) :
    EvS c Γ (tMethSD C m (spOf c.Z Tm') [] (WE c.X) te t) S := fun B R0 R H ρ Δ σ S0 Q q xk => h B R0 R H ρ Δ σ S0 _ (fun v R1 H1 S1 => by
  obtain ⟨a, dx, fs, rfl, h2, h3⟩ := hm R1 v (sx_top' S1)
  refine ⟨a, dx, fs, rfl, sx_same S1 _ _ h2, h3, ha B R0 R1 H1 _ _ σ S1 _ (fun vs R2 H2 S2 sl => ?_) xk.push1⟩
  refine ⟨R2, .im o :: (ss ++ []), _, _, sx_same S2, .cons (sx_top' S2) (slims_append sl .nil), hT, fun v R' H' s' S' e => ?_, fun r cls d H' e rx er => ?_⟩
  · exact q v s' R' H' e (sx_pop2 (sx_call S2 S'))
  · obtain ⟨R3, _, S3, rx2⟩ := sx_callX (sx_pop S2) e rx
    exact xk R3 H' σ Γ r cls d S3 rx2 er) xk
end
end TB

/-! TbMv: things moved out of their slots; own pairs' parts; groups of own parts; fields of kept exceptions. -/
namespace TB
open PySem PySem.Spec PyProof.Rows L2
/-- worth s, the slots as Γ' tells behind it -/
def EvM (c : Cn) (Γ : List Sl) (t : TE) (s : Sl) (Γ' : List Sl) : Prop := ∀ B R0 R H ρ Δ σ, Sx c.Z B R0 R H ρ Δ σ Γ → ∀ Q : VK, (∀ v R' H', Sx c.Z B R0 R' H' (some v :: ρ) (s :: Δ) σ Γ' → Q v H') → Xok c B R0 ρ Δ → t σ H Q
section
variable {c : Cn} {Γ Γ1 Γ2 Γ3 : List Sl} {ta tb td te tl : TE} {tt tc : TT} {t u : TS} {s s1 s2 so : Sl} {α β γ : Type} {_ : Rp α} {_ : Rp β} {_ : Rp γ} {P : Po} {d : α}
theorem em_of (h : Ev c Γ te s) : EvM c Γ te s Γ := h
theorem em_take {i : Nat} (hv : Val so) (e : Γ[i]? = some so) : EvM c Γ (tVar i) so (Γ.set i .un) := fun B R0 R H ρ Δ σ S Q q _ => by
  obtain ⟨o, h1, S2⟩ := sx_take S e
  obtain ⟨o2, f, h2, h3⟩ := sx_slot S e
  obtain ⟨v, rfl⟩ := hv _ _ _ _ _ h3
  rw [h1] at h2
  cases h2
  exact ⟨v, h1, q v R H S2⟩
theorem em_pr (h1 : EvM c Γ ta s1 Γ1) (h2 : EvM c Γ1 tb s2 Γ2) : EvM c Γ (tTup (tCons ta (tCons tb tNil))) (.pr s1 s2) Γ2 := fun B R0 R H ρ Δ σ S Q q xk =>
  h1 B R0 R H ρ Δ σ S _ (fun x R1 H1 S1 => h2 B R0 R1 H1 _ _ σ S1 _ (fun y R2 H2 S2 => ⟨by show 2 ≤ sizeLine; decide, fun p np => q _ R2 _ (sx_pair (sx_swapTop S2) np)⟩) xk.push1) xk
theorem w_retM (h : EvM c Γ te s Γ1) (k : P.rt s) : W c Γ (tRet te) P := fun B R0 R H ρ Δ σ D S n r b kk x =>
  h B R0 R H ρ Δ σ S _ (fun v R1 H1 S1 => r R1 H1 v s (sx_leave S1) k) x
theorem w_asgM {i : Nat} (h : EvM c Γ te s Γ1) (k : P.nx (Γ1.set i s)) : W c Γ (tAsg te (gName i)) P := fun B R0 R H ρ Δ σ D S n r b kk x =>
  h B R0 R H ρ Δ σ S _ (fun v R1 H1 S1 => n R1 H1 _ _ (sx_asg S1 i) k) x
/-- a group of own parts -/
theorem em_mkGroup {rows : List (List Int)} {unit : Int} {backs : List Int} (hZ : GrpC c.Z) (h1 : EvM c Γ ta (.o2 rows) Γ1) (h2 : EvM c Γ1 tb (.im unit) Γ2) (h3 : EvM c Γ2 td (.ol backs) Γ3) :
    EvM c Γ (tMake (c.Z.cls .Group) (spI_Group c.Z) [] E0 (tCons ta (tCons tb (tCons td tNil)))) (.fo (⟨rows.length, rows, unit, backs⟩ : Grp)) Γ3 := fun B R0 R H ρ Δ σ S Q q xk =>
  h1 B R0 R H ρ Δ σ S _ (fun v R1 H1 S1 => h2 B R0 R1 H1 _ _ σ S1 _ (fun v2 R2 H2 S2 => h3 B R0 R2 H2 _ _ σ S2 _ (fun v3 R3 H3 S3 x dx nx ndx hne => by
    have hu : v2 = .int unit := sx_top' (sx_pop S3)
    subst hu
    obtain ⟨hl, own, hs, f, g, rfl, ⟨p3, vs3, rfl, e3, h3, h4⟩, f2, g', rfl, ⟨p1, qs, rfl, h6, h7, h8⟩, h9⟩ := sx_pop2 S3
    cases e3
    cases h6
    have nlx : p1 ≠ x := fun e => by subst e; rw [nx] at h7; cases h7
    have nld : p1 ≠ dx := fun e => by subst e; rw [ndx] at h7; cases h7
    refine ⟨x, dx, p1, qs.map V.ref, _, _, rfl, upd_same, by rw [upd_ne nlx, upd_ne nld]; exact h7, hZ, fun H4 q1 q2 => ⟨rfl, ?_⟩⟩
    have old : ∀ p, H3 p ≠ none → H4 p = H3 p := fun p hp => by
      have a1 : p ≠ x := fun e => hp (e ▸ nx)
      have a2 : p ≠ dx := fun e => hp (e ▸ ndx)
      rw [q2 p a1, upd_ne a1, upd_ne a2]
    have sm : Same H3 H4 := fun p o e => by rw [old p (by rw [e]; simp)]; exact e
    have hd : H4 dx ≠ none := by rw [q2 dx hne, upd_ne hne, upd_same]; simp
    have hx : H4 x ≠ none := by rw [q1]; simp
    have own_old : ∀ p ∈ p3 :: ((p1 :: qs) ++ g'), H3 p ≠ none := by
      intro p hp
      have es2 : Es c.Z R3 H3 (some (.ref p3) :: some (.ref p1) :: (ρ ++ σ)) (.ol backs :: .o2 rows :: (Δ ++ Γ3)) (p3 :: ((p1 :: qs) ++ g')) := ⟨[p3], _, rfl, ⟨p3, vs3, rfl, rfl, h3, h4⟩, p1 :: qs, g', rfl, ⟨p1, qs, rfl, rfl, h7, h8⟩, h9⟩
      exact es_some es2 p hp
    have nin : ∀ p, H3 p = none → p ∉ p3 :: ((p1 :: qs) ++ g') := fun p hp z => own_old p z hp
    have e3 : H4 p3 = some (.lst vs3) := by rw [old p3 (by rw [h3]; simp)]; exact h3
    have e7 : H4 p1 = some (.lst (qs.map V.ref)) := by rw [old p1 (by rw [h7]; simp)]; exact h7
    refine q _ R3 H4 ⟨by simpa using hl, (x :: dx :: p3 :: p1 :: qs) ++ g', ⟨hs.rh.trans sm, hs.bh.trans sm, hs.r0, hs.nw, fun p hp => ?_, ?_⟩, x :: dx :: p3 :: p1 :: qs, g', rfl, ⟨_, rfl, ?_, fun p hp => ?_⟩, es_mono (Same.refl _) (fun p hp => old p (own_old p (by simp [hp]))) h9⟩
    · simp only [List.cons_append, List.mem_cons] at hp
      rcases hp with rfl | rfl | hp
      · exact ⟨hs.rh.free nx, hs.bh.free nx⟩
      · exact ⟨hs.rh.free ndx, hs.bh.free ndx⟩
      · exact hs.ow p (by simpa using hp)
    · have n1 := nin x nx
      have n2 := nin dx ndx
      have nd := hs.nd
      simp only [List.cons_append, List.nil_append] at nd n1 n2 ⊢
      refine List.nodup_cons.mpr ⟨?_, List.nodup_cons.mpr ⟨n2, nd⟩⟩
      simp only [List.mem_cons] at n1 ⊢
      rintro (z | z)
      · exact hne z.symm
      · exact n1 z
    · refine ⟨hZ, x, dx, _, _, _, _, rfl, by rw [res_in (by simp)]; exact q1, by rw [List.length_map, Paired.length h8]; rfl, ⟨p1, _, rfl, by rw [res_in (by simp)]; exact e7, ?_⟩, rfl, p3, vs3, rfl, by rw [res_in (by simp)]; exact e3, paired_mono (fun _ _ => Flt.fl) h4⟩
      have h8' : Paired (inOk c.Z (fun _ => none) H3) qs rows := paired_mono (fun _ _ ⟨vs, a, b⟩ => ⟨vs, a, paired_mono (fun _ _ => Flt.fl) b⟩) h8
      exact inOk_rp (fun _ _ e => by cases e) (fun q hq o e => by rw [res_in (by simp [hq]), old q (by rw [e]; simp)]; exact e) h8'
    · simp only [List.mem_cons] at hp
      rcases hp with rfl | rfl | hp
      · exact hx
      · exact hd
      · have : H3 p ≠ none := own_old p (by simp only [List.mem_cons, List.mem_append]; grind)
        rw [old p this]
        exact this) xk.push1.push1) xk.push1) xk
/-- what is told is frozen -/
theorem em_frz (hL : Lnd so d) (h : EvM c Γ te so Γ1) : EvM c Γ te (.im d) Γ1 := fun B R0 R H ρ Δ σ S Q q x => h B R0 R H ρ Δ σ S Q (fun v R' H' S' => by
  obtain ⟨R2, _, S2⟩ := sx_frzTop hL S'
  exact q v R2 H' S2) x
theorem em_grpIm {g : Grp} (h : EvM c Γ te (.fo g) Γ1) : EvM c Γ te (.im g) Γ1 := em_frz lnd_fo h
/-! ### parts of own pairs -/
theorem ev_prIx1 {i : Nat} (e : Γ[i]? = some (.pr (.im d) s2)) : Ev c Γ (tOp (gIx c.Z.K) (tVar i) (tC (.int 0))) (.im d) := fun B R0 R H ρ Δ σ S Q q _ => by
  obtain ⟨o, f, h1, h2⟩ := sx_slot S e
  obtain ⟨a, x, y, f1, f2, rfl, _, _, h3, h4, _⟩ := slok_pr' h2
  obtain ⟨_, v, ev, rv⟩ := h4
  cases ev
  exact ⟨.ref a, h1, .inr (.inl ⟨a, [x, y], 0, x, rfl, rfl, SqT.of h3, rfl, q x R H (sx_push S rv)⟩)⟩
theorem ev_prIx2 {i : Nat} (e : Γ[i]? = some (.pr s1 (.im d))) : Ev c Γ (tOp (gIx c.Z.K) (tVar i) (tC (.int 1))) (.im d) := fun B R0 R H ρ Δ σ S Q q _ => by
  obtain ⟨o, f, h1, h2⟩ := sx_slot S e
  obtain ⟨a, x, y, f1, f2, rfl, _, _, h3, _, h4⟩ := slok_pr' h2
  obtain ⟨_, v, ev, rv⟩ := h4
  cases ev
  exact ⟨.ref a, h1, .inr (.inl ⟨a, [x, y], 1, y, rfl, rfl, SqT.of h3, rfl, q y R H (sx_push S rv)⟩)⟩
/-- a new pair's second part, frozen; its first part -/
theorem ev_prT2 {xs : List α} (h : Ev c Γ te (.pr s1 (.ol xs))) : Ev c Γ (tOp (gIx c.Z.K) te (tC (.int 1))) (.im xs) := fun B R0 R H ρ Δ σ S Q q x => h B R0 R H ρ Δ σ S _ (fun v R1 H1 S1 => by
  obtain ⟨a, y, z, rfl, ha, S2⟩ := sx_unpair S1
  obtain ⟨R2, _, S3⟩ := sx_frTop (sx_pop S2)
  exact .inr (.inl ⟨a, [y, z], 1, z, rfl, rfl, SqT.of ha, rfl, q z R2 H1 S3⟩)) x
theorem ev_prT1 (h : Ev c Γ te (.pr s1 s2)) : Ev c Γ (tOp (gIx c.Z.K) te (tC (.int 0))) s1 := fun B R0 R H ρ Δ σ S Q q x => h B R0 R H ρ Δ σ S _ (fun v R1 H1 S1 => by
  obtain ⟨a, y, z, rfl, ha, S2⟩ := sx_unpair S1
  exact .inr (.inl ⟨a, [y, z], 0, y, rfl, rfl, SqT.of ha, rfl, q y R1 H1 (sx_pop2 S2)⟩)) x
theorem ev_isiPr {i : Nat} (e : Γ[i]? = some (.pr s1 s2)) : Ev c Γ (tCB (rIsi c.Z.K) (tCons (tVar i) (tCons (tC (.ty "tuple")) tNil))) (.im true) := fun B R0 R H ρ Δ σ S Q q _ => by
  obtain ⟨o, f, h1, h2⟩ := sx_slot S e
  obtain ⟨a, x, y, f1, f2, rfl, _, _, h3, _, _⟩ := slok_pr' h2
  exact ⟨.ref a, h1, .ref a, .ty "tuple", .type "tuple", .type "tuple", true, rfl, .ty "tuple", .base (.tup h3), kit_ty (by decide +kernel), q _ R H (sx_push S rfl)⟩
theorem ev_lenPr {i : Nat} (e : Γ[i]? = some (.pr s1 s2)) : Ev c Γ (tCB (gLen c.Z.K) (tCons (tVar i) tNil)) (.im (2 : Int)) := fun B R0 R H ρ Δ σ S Q q _ => by
  obtain ⟨o, f, h1, h2⟩ := sx_slot S e
  obtain ⟨a, x, y, f1, f2, rfl, _, _, h3, _, _⟩ := slok_pr' h2
  exact ⟨.ref a, h1, _, 2, rfl, .inr ⟨[x, y], SqT.of h3, rfl⟩, q _ R H (sx_push S rfl)⟩
/-- arguments that leave the heap as it is -/
def EvAP (c : Cn) (Γ : List Sl) (t : TA) (ss : List Sl) : Prop := ∀ B R0 R H ρ Δ σ, Sx c.Z B R0 R H ρ Δ σ Γ → ∀ Q : List V → Hp → Prop, (∀ vs, Slims c.Z R vs ss → Q vs H) → t σ H Q
theorem eap_nil : EvAP c Γ tNil [] := fun B R0 R H ρ Δ σ S Q q => q [] .nil
theorem eap_cons {d : α} {tr : TA} {ss : List Sl} (h : EvP c Γ te d) (hr : EvAP c Γ tr ss) : EvAP c Γ (tCons te tr) (.im d :: ss) := fun B R0 R H ρ Δ σ S Q q => h B R0 R H ρ Δ σ S _ fun v rv => hr B R0 R H ρ Δ σ S _ fun vs sl => q (v :: vs) (.cons rv sl)
/-- a pair's second part, lent -/
theorem eb_prIx2 {d : α} {i : Nat} {tr : TA} {ss : List Sl} (hL : Lnd s2 d) (e : Γ[i]? = some (.pr s1 s2)) (hr : EvAP c Γ tr ss) : EvB c Γ (tCons (tOp (gIx c.Z.K) (tVar i) (tC (.int 1))) tr) (.im d :: ss) := fun B R0 R H ρ Δ σ S Q q xk => by
  obtain ⟨o, f, h1, h2⟩ := sx_slot S e
  obtain ⟨a, x, y, f1, f2, rfl, _, _, h3, _, h4⟩ := slok_pr' h2
  obtain ⟨v, ev, rp⟩ := hL _ _ _ _ _ (sx_same S) h4
  cases ev
  exact ⟨.ref a, h1, .inr (.inl ⟨a, [x, y], 1, y, rfl, rfl, SqT.of h3, rfl, hr B R0 R H ρ Δ σ S _ fun vs sl => q (y :: vs) R H (frz R H f2) S frz_same (frz_le (sx_same S)) (.cons rp (slims_mono frz_same sl))⟩)⟩
theorem eb_prIx1 {d : α} {i : Nat} {tr : TA} {ss : List Sl} (hL : Lnd s1 d) (e : Γ[i]? = some (.pr s1 s2)) (hr : EvAP c Γ tr ss) : EvB c Γ (tCons (tOp (gIx c.Z.K) (tVar i) (tC (.int 0))) tr) (.im d :: ss) := fun B R0 R H ρ Δ σ S Q q xk => by
  obtain ⟨o, f, h1, h2⟩ := sx_slot S e
  obtain ⟨a, x, y, f1, f2, rfl, _, _, h3, h4, _⟩ := slok_pr' h2
  obtain ⟨v, ev, rp⟩ := hL _ _ _ _ _ (sx_same S) h4
  cases ev
  exact ⟨.ref a, h1, .inr (.inl ⟨a, [x, y], 0, x, rfl, rfl, SqT.of h3, rfl, hr B R0 R H ρ Δ σ S _ fun vs sl => q (x :: vs) R H (frz R H f1) S frz_same (frz_le (sx_same S)) (.cons rp (slims_mono frz_same sl))⟩)⟩
/-- p[1].append(y) -/
theorem w_appPr2 {i : Nat} {xs : List α} {y : α} (e : Γ[i]? = some (.pr s1 (.ol xs))) (h : EvP c Γ te y) (hl : xs.length < 1000000) (k : P.nx (Γ.set i (.pr s1 (.ol (xs ++ [y]))))) : W c Γ (tDrop (tBM c.Z.K "list" rAppend (tOp (gIx c.Z.K) (tVar i) (tC (.int 1))) (tCons te tNil))) P := fun B R0 R H ρ Δ σ D S n r bb kk x => by
  obtain ⟨o, f, h1, h2, h3, h4⟩ := sx_own S e
  obtain ⟨a, x1, y1, f1, f2, rfl, nd, sub, ha, k1, p, vs, rfl, ey, hp, hv⟩ := slok_pr' h2
  cases ey
  refine ⟨.ref a, h1, .inr (.inl ⟨a, [x1, .ref p], 1, .ref p, rfl, rfl, SqT.of ha, rfl, tyL hp, h B R0 R H ρ Δ σ S _ fun w rw' => ?_⟩)⟩
  have hl' := Paired.length hv
  simp only [List.nodup_cons, List.mem_append, List.mem_singleton, not_or, List.nodup_append] at nd
  have nap : a ≠ p := nd.1.2
  have n1 : ∀ q ∈ f1, q ≠ p := fun q hq => nd.2.2.2 q hq p rfl
  have nd2 : (a :: (f1 ++ [p])).Nodup := by
    simp only [List.nodup_cons, List.mem_append, List.mem_singleton, not_or, List.nodup_append]
    exact nd
  have hq : slok c.Z R (upd H p (.lst (vs ++ [w]))) (some (.ref p)) (.ol (xs ++ [y])) [p] := ⟨p, vs ++ [w], rfl, rfl, upd_same, paired_append hv (.cons rw' .nil)⟩
  have hp2 : slok c.Z R (upd H p (.lst (vs ++ [w]))) (some (.ref a)) (.pr s1 (.ol (xs ++ [y]))) (a :: (f1 ++ [p])) := slok_pr nd2 (by rw [upd_ne nap]; exact ha) (slok_mono (Same.refl _) (fun q hq => upd_ne (n1 q hq)) k1) hq
  exact ⟨p, vs, w, rfl, rfl, hp, Nat.lt_of_lt_of_le (by omega : vs.length < 1000000) (by decide), n R _ _ _ (h4 _ _ _ (fun q hq => upd_ne fun z => hq (sub q (by simp [z]))) nd2 sub hp2) k⟩
end
/-! ### fields of exceptions that were kept -/
def tXfK (C : Addr) (f : Str) (te : TE) : TE := fun σ H Q => te σ H fun x H1 => ∃ (a dd : Addr) (fs : List (Str × V)) (v : V), x = .ref a ∧ H1 a = some (XT (.ref C) (some dd) a) ∧ H1 dd = some (.xd fs) ∧ fs.lookup f = some v ∧ Q v H1
theorem pe_xfK {X : Cx} {C : Addr} {e : Expr} {te : TE} {pos : Pos} {n : Str} (T : XfC X.K C) (hno : PySem.W.findIn X.K (.ref C) n = some none) (he : PE X e te) (hb : attributeBase e n X.env (eval e X.env) = eval e X.env := by rfl) :
    PE X (.Attribute e n pos) (tXfK C n te) := by
  refine ⟨fun pins s σ H Q I h => ?_⟩
  refine attr_of hb (thn (he.run pins s σ H _ I h) fun u s1 hh => ?_)
  obtain ⟨x, H1, I1, rx, a, dd, fs, v, ex, ha, ea, l, q⟩ := hh
  subst ex
  obtain rfl : u = Value.ref a := rx
  obtain ⟨⟨oe, vs, ho, hz, hv⟩, _, _⟩ := I1.hok a _ ha
  have hx : ObjOk X.prog X.w H1 s1.heap dd (.xd fs) := I1.hok dd _ ea
  obtain ⟨mA, hns, hr⟩ := hx
  obtain ⟨od, hod, hl⟩ := lookIn_ns hns
  obtain ⟨u, hu, ru⟩ := RelO.some_of (v := v) (o := mA n) (by rw [← l]; exact hr n)
  have J : PySem.W.InstAt s1.heap a oe C (some od) := ⟨ho, hz.1, by unfold PySem.W.notCls; rw [hv] <;> rfl, by rw [hz.2]; exact hod⟩
  exact HandSPX.exc_get I1.kIn J T.ga T.gg T.exC (PySem.W.findObj_own T.hdC hno rfl (by rw [hl, hu])) (handed_of ru) ⟨v, H1, I1.tok _, ru, q⟩
section
variable {c : Cn} {Γ : List Sl} {te : TE}
theorem ev_xfK {r : Rf} {f : Str} {i : Int} (h : Ev c Γ te (.im (some r))) (hf : r.fs.lookup f = some (.int i)) {C : Addr} (hC : C = c.Z.cls r.name) : Ev c Γ (tXfK C f te) (.im i) := fun B R0 R H ρ Δ σ S Q q x => h B R0 R H ρ Δ σ S _ (fun v R1 H1 S1 => by
  obtain ⟨a, cls, d, rfl, h2, h3, h4⟩ := (show ∃ a cls d, v = V.ref a ∧ R1 a = some (XT cls d a) ∧ XtOk c.Z R1 r cls d from sx_top' S1)
  subst h3
  rcases h4 with ⟨h4, _⟩ | ⟨dx, rfl, h6⟩
  · rw [h4] at hf; cases hf
  · exact ⟨a, dx, r.fs, .int i, rfl, by rw [hC]; exact sx_same S1 _ _ h2, sx_same S1 _ _ h6, hf, q _ R1 H1 (sx_push (sx_pop S1) rfl)⟩) x
end
end TB

/-! TbDz: dict(zip(xs, ys)); sorted(d.keys()). -/
namespace TB
open PySem PySem.Spec PyProof.Rows L2
section
variable {X : Cx} {a b : Expr} {ta : TA} {p p2 q pos : Pos}
/-- dict(zip(xs, ys)), xs ints -/
def tDictZip (K : PySem.W.Frag) (ta : TA) : TE := fun σ H Q => ta σ H fun vs H1 => ∃ (l l2 : Addr) (ns : List Int) (ys : List V), vs = [V.ref l, V.ref l2] ∧ SqL K H1 l (ns.map V.int) ∧ SqL K H1 l2 ys ∧ ns.length = ys.length ∧
  ∀ r : Addr, H1 r = none → Q (.ref r) (upd H1 r (.dK (mergeK [] ((ns.map Sum.inl).zip ys))))
theorem pe_dictZip (hc : X.calm = true) (hg : Gl X "dict") (hm : X.mg "dict" = none) (hg2 : Gl X "zip") (hm2 : X.mg "zip" = none) (ha : PA X [a, b] ta)
    (na : starEach [a, b] X.env = (false, eval a X.env) :: starEach [b] X.env := by rfl) (nb : starEach [.Call (.Name "zip" p2) [a, b] [] q] X.env = (false, eval (.Call (.Name "zip" p2) [a, b] [] q) X.env) :: starEach [] X.env := by rfl) (nc : (backTo q (starEach [b] X.env)).any (·.1) = false := by rfl) :
    PE X (.Call (.Name "dict" p) [.Call (.Name "zip" p2) [a, b] [] q] [] pos) (tDictZip X.K ta) :=
  ⟨fun pins s σ H Q I h => by
    refine Call_ (ld_blt I hg hm boot_dict (PyProof.Rows.callWith_type1 (PyProof.Rows.args_cons (Call_ (ld_blt I hg2 hm2 boot_zip (PyProof.Rows.callWith_type1 (thn (ha.run q pins s σ H _ I h) fun us s1 ⟨vs, H1, I1, r1, q1⟩ => ?_) na nc))) nb) nb rfl))
    obtain ⟨l, l2, ns, ys, rfl, hq, hq2, hln, q1⟩ := q1
    obtain ⟨u1, u2, rfl, r1, r2⟩ := vals2 r1
    cases r1
    cases r2
    obtain ⟨its, rv, p1, hz1⟩ := I1.list hq
    obtain ⟨its2, rv2, p2, hz2⟩ := I1.list hq2
    have la : l < s1.heap.objs.size := p1.lt
    have lb : l2 < s1.heap.objs.size := p2.lt
    refine call_zip_2 p1.isList p2.isList fun h' hz hTI hTO h1 h2 hsz hk => PyProof.Rows.args_nil ?_
    have D := PySem.W.ktu_apart s1.heap.objs.size l l2 la lb
    have e1 := rv.length
    have e2 := rv2.length
    rw [List.length_map] at e1 hz1
    have hks : ((ns.map Sum.inl : List Key).zip its2).length = min its.toArray.size its2.toArray.size := by
      rw [List.length_zip, List.length_map, List.size_toArray, List.size_toArray]; omega
    refine PySem.call_dict_pairs (knd := mixKind X.prog X.w) (kvs := (ns.map Sum.inl : List Key).zip its2) (PairArg.zip _ _ _ _ _ l l2 D its.toArray its2.toArray) (I1.ok.hd hc) ⟨hz, hTI, ⟨_, _, hTO⟩, h1, h2, p1.isList.at fun o e => hk _ o e, p2.isList.at fun o e => hk _ o e⟩ ⟨hks, fun i key v hr => ?_⟩ (by rw [List.size_toArray, List.size_toArray]; omega) fun h3 tk hd3 hk3 => ?_
    · obtain ⟨hr1, hr2⟩ := hr
      have hr1' : its[i]? = some key := by simpa using hr1
      have hr2' : its2[i]? = some v := by simpa using hr2
      have hi : i < ns.length := by have := (List.getElem?_eq_some_iff.mp hr1').1; omega
      obtain ⟨w, ew, rw'⟩ := rv.get (show (ns.map V.int)[i]? = some (V.int ns[i]) by rw [List.getElem?_map, List.getElem?_eq_getElem hi]; rfl)
      rw [hr1'] at ew
      cases ew
      refine ⟨Sum.inl ns[i], ?_, ?_⟩
      · rw [List.getElem?_zip_eq_some]
        exact ⟨by rw [List.getElem?_map, List.getElem?_eq_getElem hi]; rfl, hr2'⟩
      · exact kV_is (P := X.prog) (w := X.w) (k := Sum.inl ns[i]) rw'
    · have hle : s1.heap.objs.size ≤ h'.objs.size := by rw [hsz]; exact Nat.le_add_right _ _
      have hkv : KV ((ns.map Sum.inl : List Key).zip ys) ((ns.map Sum.inl : List Key).zip its2) := by
        clear hks q1 hd3 hz hTI hTO h1 h2 hk3 hq hq2 rv
        revert rv2 hln
        clear e2 hz2 e1 hz1 p1 p2
        intro hln rv2
        induction ns generalizing ys its2 with
        | nil => exact .nil
        | cons n ns ih =>
          cases rv2 with
          | nil => simp at hln
          | cons r t => exact .cons ⟨rfl, r⟩ (ih _ _ (by simpa using hln) t)
      have hlen : (mergeK [] ((ns.map Sum.inl : List Key).zip ys)).length ≤ sizeLine := by
        refine Nat.le_trans (length_mergeK _ []) ?_
        rw [List.length_nil, Nat.zero_add, List.length_zip, List.length_map]
        omega
      have hms : (h'.objs.size == sysModules) = false := beq_eq_false_iff_ne.mpr (Nat.ne_of_gt (Nat.lt_of_lt_of_le I1.big hle))
      refine ⟨.ref h'.objs.size, upd H1 h'.objs.size (.dK (mergeK [] ((ns.map Sum.inl : List Key).zip ys))), I1.laid (t' := tk) (fun b' o e => hk3 b' o (fun hm' => ?_) (hk _ _ e)) hle (show ObjOk X.prog X.w _ _ _ (.dK (mergeK [] ((ns.map Sum.inl : List Key).zip ys))) from ⟨hlen, hms, merged [] ((ns.map Sum.inl : List Key).zip its2), KV.merge hkv .nil, hd3⟩), rfl, q1 _ (I1.hok.fresh hle)⟩
      have hb := Heap.lt_size e
      have e' : b' = s1.heap.objs.size + 4 ∨ b' = s1.heap.objs.size + 3 ∨ b' = s1.heap.objs.size ∨ b' = s1.heap.objs.size + 1 := by simpa using hm'
      have hb2 : (b' : Nat) < s1.heap.objs.size := hb
      rcases e' with z | z | z | z
      · exact absurd hb2 (Nat.not_lt.mpr (by rw [z]; exact Nat.le_add_right _ _))
      · exact absurd hb2 (Nat.not_lt.mpr (by rw [z]; exact Nat.le_add_right _ _))
      · exact absurd hb2 (Nat.not_lt.mpr (by rw [z]; exact Nat.le_refl _))
      · exact absurd hb2 (Nat.not_lt.mpr (by rw [z]; exact Nat.le_add_right _ _))⟩
end
section
variable {X : Cx} {e : Expr} {td : TE} {p apos cpos pos : Pos}
theorem ints_at : ∀ {vs : List Value} {ns : List Int}, vs.length = ns.length → (∀ (j : Nat) (v : Value), vs[j]? = some v → ∃ n t, ns[j]? = some n ∧ v = Value.int n t) → PyProof.Rows.IntsAre vs ns
  | [], [], _, _ => .nil
  | [], _ :: _, h, _ => by simp at h
  | _ :: _, [], h, _ => by simp at h
  | v :: vs, n :: ns, h, k => by
    obtain ⟨m, t, e1, e2⟩ := k 0 v rfl
    cases e1
    subst e2
    exact .cons _ t (ints_at (by simpa using h) fun j v hv => k (j + 1) v (by simpa using hv))
/-- sorted(d.keys()), the keys ints -/
def tSortedKeys (td : TE) : TE := fun σ H Q => td σ H fun x H1 => ∃ (d : Addr) (kvs : List (Key × V)) (ns : List Int), x = V.ref d ∧ H1 d = some (.dK kvs) ∧ kvs.map (·.1) = ns.map Sum.inl ∧
  ∀ (ns' : List Int) (r : Addr), ns'.Perm ns → ns'.Pairwise (· ≤ ·) → H1 r = none → Q (.ref r) (upd H1 r (.lst (ns'.map V.int)))
theorem pe_sortedKeys (hc : X.calm = true) (hg : Gl X "sorted") (hm : X.mg "sorted" = none) (he : PE X e td) (hbase : attributeBase e "keys" X.env (eval e X.env) = eval e X.env := by rfl) (hline : (apos.endLine == cpos.line) = true := by rfl)
    (nb : starEach [.Call (.Attribute e "keys" apos) [] [] cpos] X.env = (false, eval (.Call (.Attribute e "keys" apos) [] [] cpos) X.env) :: starEach [] X.env := by rfl) :
    PE X (.Call (.Name "sorted" p) [.Call (.Attribute e "keys" apos) [] [] cpos] [] pos) (tSortedKeys td) :=
  ⟨fun pins s σ H Q I h => by
    refine Call_ (ld_blt I hg hm boot_sorted (PyProof.Rows.callWith_builtin1 (PyProof.Rows.args_cons ?_ nb) nb rfl))
    refine wpAny_Call_method (T := "dict") (id := "dict.keys") hbase rfl hline F.plainAttrs_dict F.slot_dict_keys F.type_dict_keys (thn (he.run pins s σ H _ I h) fun u s1 ⟨x, H1, I1, rx, d, kvs, ns, ex, hd, hk, q⟩ => ?_)
    subst ex
    obtain rfl : u = Value.ref d := rx
    obtain ⟨hz, hs, vs, kv, hdo⟩ := I1.hok d _ hd
    obtain ⟨o, es, ep, hda⟩ := id hdo
    have hat : s1.heap.DictAt (mixKind X.prog X.w) d vs ep := ⟨o, es, hda⟩
    have hl : kvs.length = vs.length := Paired.length kv
    have hln : ns.length = kvs.length := by have := congrArg List.length hk; rw [List.length_map, List.length_map] at this; omega
    refine ⟨hdo.typeIs, hdo.mapOf.noDict, ?_⟩
    have I2 : Inv X pins σ H1 { s1 with heap := s1.heap.push { cls := .type "dict_keys", data := .fields #[.ref d] } } := I1.kept (t' := s1.toks) fun b ob q => Heap.get?_push_of_some _ q
    show wpAny _ _ (callWith cpos (.builtin "dict.keys") [.ref d] [] []) _ X.xe s1
    refine method_meetsIn F.slot_dict_keys F.entry_dict_keys rfl (PySem.evalArgs_none ⟨rfl, hdo.typeIs, F.args_dict_keys_1 _, _, PySem.W.kdl_meets_keys (mixKind X.prog X.w) d hs, ⟨vs, hdo⟩, PyProof.Rows.args_nil ?_⟩)
    have KS := PySem.W.kdl_keys (prog := X.prog) (w := X.w) (knd := mixKind X.prog X.w) (r := s1.heap.objs.size) (d := d) (kvs := vs) (ep := ep)
    refine PySem.Calls.call_function_entry PyProof.Rows.kind_sorted PyProof.Rows.plain_sorted PyProof.Rows.entry_sorted (PyProof.Rows.args_sorted1 _) ?_
    unfold Builtin.«sorted»
    refine wpAny_bind (m := checkCount "sorted" 1 1 _) (wpAny_pure ?_)
    refine wpAny_bind (PySem.W.kdu_collect (A := X.A.in1) KS (I1.ok.hd hc) ⟨⟨_, Heap.get?_push_size _ rfl, rfl, rfl⟩, hat.push _⟩ (by rw [← hl]; exact hz) fun h' tk acc hkp hacc => ?_)
    have hal : acc.toList.length = ns.length := by rw [Array.length_toList, hacc.1, ← hl, hln]
    have hi : PyProof.Rows.IntsAre acc.toList ns := ints_at hal fun j v hv => by
      obtain ⟨k, x, e1, e2⟩ := hacc.2 j v (by rw [← Array.getElem?_toList]; exact hv)
      obtain ⟨y, e3, e4⟩ := paired_get kv e1
      have e5 : (kvs.map (·.1))[j]? = some y.1 := by rw [List.getElem?_map, e3]; rfl
      rw [hk, List.getElem?_map] at e5
      obtain ⟨n, e6, e7⟩ := Option.map_eq_some_iff.mp e5
      have e8 : k = Sum.inl n := by rw [e7]; exact e4.1.symm
      have e9 : keyIs k v = true := e2
      rw [e8] at e9
      rcases keyIs_shape e9 with ⟨i, t, e10, rfl⟩ | ⟨i, t, e10, rfl⟩
      · cases e10; exact ⟨_, t, e6, rfl⟩
      · cases e10
    refine wpAny_bind (PySem.wpAny_newList ?_ (by rw [hal, hln]; exact hz))
    have kk : ∀ b ob, s1.heap.get? b = some ob → (h'.push { cls := .type "list", data := .seq acc.toList.toArray }).get? b = some ob := fun b ob e => Heap.get?_push_of_some _ (hkp _ _ (Heap.get?_push_of_some _ e))
    have hob : (h'.push { cls := .type "list", data := .seq acc.toList.toArray }).get? h'.objs.size = some (seqObj "list" acc.toList.toArray 0) := Heap.get?_push_size _ rfl
    have hle : s1.heap.objs.size ≤ h'.objs.size := by
      have : (s1.heap.push { cls := .type "dict_keys", data := .fields #[.ref d] }).get? s1.heap.objs.size = some { cls := .type "dict_keys", data := .fields #[.ref d] } := Heap.get?_push_size _ rfl
      exact Nat.le_of_lt (Heap.lt_size (hkp _ _ this))
    refine wpAny_bind (wpAny_holding (wpAny_mono (Q := fun _ s' => EP X pins σ Q (.ref h'.objs.size) s') (E := X.xe) ?_ (fun _ s' x => wpAny_pure ⟨_, rfl, x⟩) fun _ _ e => e))
    refine wpAny_call_entry PyProof.Rows.slot_list_sort ⟨_, hob, rfl⟩ PyProof.Rows.entry_list_sort
      (SrtO.list_sort_ord SrtO.swo_int hob (by rw [hal, hln]; exact hz) (fun h2 => SrtO.ints_sortable hi h2) fun out h1 h2 => ⟨.none, rfl, ?_⟩) (PyProof.Rows.args_list_sort _)
    obtain ⟨k1, k2, k3⟩ := SrtO.ints_out hi h1 h2
    obtain ⟨ep', he'⟩ := PyProof.Rows.sortedHeap_at (vs := acc.toList) (out := out.toArray) hob
    have hlen : ((out.map SrtO.iv).map V.int).length ≤ sizeLine := by
      rw [List.length_map, k2.length_eq, hln]
      exact hz
    refine ⟨.ref h'.objs.size, upd H1 h'.objs.size (.lst ((out.map SrtO.iv).map V.int)), I1.laid (t' := tk) (fun b ob e => ?_) hle ⟨hlen, out, ep', vals_of_ints k1, he'⟩, rfl, q _ _ k2 k3 (I1.hok.fresh hle)⟩
    have hb : (b : Nat) < s1.heap.objs.size := Heap.lt_size e
    have hne : b ≠ h'.objs.size := Nat.ne_of_lt (Nat.lt_of_lt_of_le hb hle)
    rw [PyProof.Rows.sortedHeap_old hne (Heap.lt_size (kk _ _ e))]
    exact kk _ _ e⟩
end
end TB

/-! TbIn: plain law: a part's own group, the group of a steady part's sides. -/
namespace TB
open PySem L2
/-- a thing's place in a list -/
def ix : List Int → Int → Nat
  | [], _ => 0
  | x :: r, y => if x = y then 0 else ix r y + 1
theorem ix_at : ∀ {r : List Int} {y : Int}, y ∈ r → r[ix r y]? = some y ∧ ∀ m, m < ix r y → r[m]? ≠ some y
  | [], y, h => by simp at h
  | x :: r, y, h => by
    unfold ix
    by_cases q : x = y
    · rw [if_pos q]
      exact ⟨by simp [q], fun m hm => by omega⟩
    · rw [if_neg q]
      have h' : y ∈ r := by
        rcases List.mem_cons.mp h with z | z
        · exact absurd z.symm q
        · exact z
      obtain ⟨h1, h2⟩ := ix_at h'
      refine ⟨by simpa using h1, fun m hm => ?_⟩
      cases m with
      | zero => simpa using q
      | succ m => simpa using h2 m (by omega)
theorem ix_lt {r : List Int} {y : Int} (h : y ∈ r) : ix r y < r.length := (List.getElem?_eq_some_iff.mp (ix_at h).1).1
theorem gt_ix {r : List Int} {y : Int} (h : y ∈ r) : gt r (ix r y : Int) = y := by
  rw [gt_nat (ix_lt h)]
  exact (List.getElem?_eq_some_iff.mp (ix_at h).1).2
theorem gt_inj {r : List Int} (nd : r.Nodup) {i j : Int} (i0 : 0 ≤ i) (i1 : i < r.length) (j0 : 0 ≤ j) (j1 : j < r.length) (q : gt r i = gt r j) : i = j := by
  have e1 := gt_some i0 i1
  have e2 := gt_some j0 j1
  rw [q, ← e2] at e1
  have := (List.getElem?_inj (by omega) nd).mp e1
  omega
theorem ix_gt {r : List Int} (nd : r.Nodup) {i : Int} (i0 : 0 ≤ i) (i1 : i < r.length) : (ix r (gt r i) : Int) = i :=
  gt_inj nd (by omega) (by have := ix_lt (gt_mem i0 i1); omega) i0 i1 (gt_ix (gt_mem i0 i1))
theorem gt_mapL {α β : Type} [Rp α] [Rp β] {l : List α} {f : α → β} {i : Int} (h0 : 0 ≤ i) (h1 : i < l.length) : gt (l.map f) i = f (gt l i) := by
  have h2 : i.toNat < l.length := by omega
  have e : ((i.toNat : Nat) : Int) = i := by omega
  rw [← e, gt_nat (by rw [List.length_map]; exact h2), gt_nat h2, List.getElem_map]
/-! ### the image of a group -/
theorem img_G {t t' : Tbl} {e : Int} (h : GTbl t e) (f : Int → Int) (hs : SizeOk t') (inn : ∀ x, InT t x → InT t' (f x)) (sur : ∀ i, InT t' i → ∃ x, InT t x ∧ f x = i) (hm : ∀ x y, InT t x → InT t y → en t' (f x) (f y) = f (en t x y)) : GTbl t' (f e) := by
  refine ⟨hs, fun r hr z hz => ?_, inn e h.he, fun a a0 a1 => ?_, fun a ha => ?_, fun a b c ha hb hc => ?_⟩
  · obtain ⟨i, hi, rfl⟩ := List.getElem_of_mem hr
    obtain ⟨j, hj, rfl⟩ := List.getElem_of_mem hz
    have hl := hs.2.2 _ (List.getElem_mem hi)
    obtain ⟨x, hx, ex⟩ := sur (i : Int) ⟨by omega, by omega⟩
    obtain ⟨y, hy, ey⟩ := sur (j : Int) ⟨by omega, by omega⟩
    have := hm x y hx hy
    rw [ex, ey] at this
    have e1 : en t' (i : Int) (j : Int) = t'[i][j] := by
      show gt (gt t' (i : Int)) (j : Int) = _
      rw [gt_nat hi, gt_nat hj]
    rw [← e1, this]
    exact inn _ (h.cl hx hy)
  · obtain ⟨x, hx, rfl⟩ := sur a ⟨a0, a1⟩
    rw [hm _ _ h.he hx, hm _ _ hx h.he, h.u1 hx, h.u2 hx]
    exact ⟨rfl, rfl⟩
  · obtain ⟨x, hx, rfl⟩ := sur a ha
    obtain ⟨y, hy, q1, q2⟩ := h.bk x hx
    exact ⟨f y, inn y hy, by rw [hm _ _ hx hy, q1], by rw [hm _ _ hy hx, q2]⟩
  · obtain ⟨x, hx, rfl⟩ := sur a ha
    obtain ⟨y, hy, rfl⟩ := sur b hb
    obtain ⟨z, hz, rfl⟩ := sur c hc
    show en t' (en t' _ _) _ = en t' _ (en t' _ _)
    rw [hm _ _ hx hy, hm _ _ hy hz, hm _ _ (h.cl hx hy) hz, hm _ _ hx (h.cl hy hz), h.as hx hy hz]
/-! ### a part's own group -/
def innT (t : Tbl) (P : List Int) : Tbl := P.map fun a => P.map fun b => (ix P (en t a b) : Int)
section
variable {t : Tbl} {e : Int} {P : List Int}
theorem innT_len : (innT t P).length = P.length := by unfold innT; rw [List.length_map]
theorem innT_en {i j : Int} (i0 : 0 ≤ i) (i1 : i < P.length) (j0 : 0 ≤ j) (j1 : j < P.length) : en (innT t P) i j = (ix P (en t (gt P i) (gt P j)) : Int) := by
  show gt (gt (innT t P) i) j = _
  unfold innT
  rw [gt_mapL i0 i1, gt_mapL j0 j1]
theorem innT_G (h : GTbl t e) (p : PartL t e P) : GTbl (innT t P) (ix P e : Int) := by
  have hn : (innT t P).length = P.length := innT_len
  have ip : ∀ {i : Int}, InT (innT t P) i → 0 ≤ i ∧ i < P.length ∧ gt P i ∈ P := fun {i} hi => ⟨hi.1, by have := hi.2; omega, gt_mem hi.1 (by have := hi.2; omega)⟩
  have xi : ∀ {x : Int}, x ∈ P → InT (innT t P) (ix P x : Int) := fun {x} hx => ⟨by omega, by have := ix_lt hx; omega⟩
  have enx : ∀ {x y : Int}, x ∈ P → y ∈ P → en (innT t P) (ix P x : Int) (ix P y : Int) = (ix P (en t x y) : Int) := fun {x y} hx hy => by
    rw [innT_en (xi hx).1 (ip (xi hx)).2.1 (xi hy).1 (ip (xi hy)).2.1, gt_ix hx, gt_ix hy]
  have bc : ∀ {i : Int}, InT (innT t P) i → i = (ix P (gt P i) : Int) := fun {i} hi => (ix_gt p.pt.nd (ip hi).1 (ip hi).2.1).symm
  have hl := p.len
  have h1 := h.sz.2.1
  refine ⟨⟨?_, by omega, fun r hr => ?_⟩, fun r hr z hz => ?_, xi p.pt.one, fun a a0 a1 => ?_, fun a ha => ?_, fun a b c ha hb hc => ?_⟩
  · rw [hn]; exact List.length_pos_of_mem p.pt.one
  · obtain ⟨a, _, rfl⟩ := List.mem_map.mp hr
    rw [hn, List.length_map]
  · obtain ⟨a, ha, rfl⟩ := List.mem_map.mp hr
    obtain ⟨b, hb, rfl⟩ := List.mem_map.mp hz
    exact xi (p.pt.mul a ha b hb)
  · have ha : InT (innT t P) a := ⟨a0, a1⟩
    have hm := (ip ha).2.2
    rw [bc ha, enx p.pt.one hm, enx hm p.pt.one, h.u1 (p.pt.inn _ hm), h.u2 (p.pt.inn _ hm)]
    exact ⟨rfl, rfl⟩
  · have hm := (ip ha).2.2
    have hb := p.bk h hm
    refine ⟨_, xi hb, ?_⟩
    rw [bc ha]
    refine ⟨?_, ?_⟩
    · rw [gt_ix hm, enx hm hb, bk_l h (p.pt.inn _ hm)]
    · rw [gt_ix hm, enx hb hm, bk_r h (p.pt.inn _ hm)]
  · have ma := (ip ha).2.2
    have mb := (ip hb).2.2
    have mc := (ip hc).2.2
    show en _ (en _ _ _) _ = en _ _ (en _ _ _)
    rw [bc ha, bc hb, bc hc, enx ma mb, enx mb mc, enx (p.pt.mul _ ma _ mb) mc, enx ma (p.pt.mul _ mb _ mc), h.as (p.pt.inn _ ma) (p.pt.inn _ mb) (p.pt.inn _ mc)]
theorem innT_bk (h : GTbl t e) (p : PartL t e P) {x : Int} (hx : x ∈ P) : bkf (innT t P) (ix P e : Int) (ix P x : Int) = (ix P (bkf t e x) : Int) := by
  have hn : (innT t P).length = P.length := innT_len
  have xi : ∀ {x : Int}, x ∈ P → InT (innT t P) (ix P x : Int) := fun {x} hx => ⟨by omega, by have := ix_lt hx; omega⟩
  have hb := p.bk h hx
  refine bk_one (innT_G h p) (xi hx) (xi hb) ?_
  rw [innT_en (xi hx).1 (by have := ix_lt hx; omega) (xi hb).1 (by have := ix_lt hb; omega), gt_ix hx, gt_ix hb, bk_l h (p.pt.inn x hx)]
theorem innT_grp (h : GTbl t e) (p : PartL t e P) : (⟨(innT t P).length, innT t P, (ix P e : Int), P.map fun x => (ix P (bkf t e x) : Int)⟩ : Grp) = grpOf (innT t P) (ix P e : Int) := by
  unfold grpOf
  congr 1
  have hn : (innT t P).length = P.length := innT_len
  refine List.ext_getElem (by rw [List.length_map, List.length_map, irange_len]; omega) fun i h1 h2 => ?_
  have hi : i < P.length := by simpa using h1
  rw [List.getElem_map, List.getElem_map, irange_get]
  have e1 : (i : Int) = (ix P P[i] : Int) := by
    have := ix_gt p.pt.nd (i := (i : Int)) (by omega) (by omega)
    rw [gt_nat hi] at this
    exact this.symm
  rw [e1, innT_bk h p (List.getElem_mem hi)]
/-! ### sides' numbers -/
abbrev sds (t : Tbl) (P : List Int) : List (List Int) := kinN (sid t P) t.length
def hm (t : Tbl) (P : List Int) (x : Int) : Nat := (sds t P).findIdx fun l => decide (x ∈ l)
theorem mem_sid_iff (h : GTbl t e) (p : PartL t e P) {x y : Int} (hx : InT t x) (hy : InT t y) : x ∈ sid t P y ↔ sid t P x = sid t P y := by
  have E := sid_eqv h p
  exact ⟨fun q => E.eq y hy x q, fun q => q ▸ E.self x hx⟩
theorem sds_at (h : GTbl t e) (p : PartL t e P) {k : Nat} (hk : k < (sds t P).length) : ∃ y, InT t y ∧ (sds t P)[k] = sid t P y ∧ gt (sds t P)[k] 0 = y := by
  obtain ⟨x, a, b, d, _⟩ := (kinI (sid_eqv h p) t.length (Nat.le_refl _)).orbs _ (List.getElem_mem hk)
  exact ⟨x, a, b, d⟩
theorem hm_spec (h : GTbl t e) (p : PartL t e P) {x : Int} (hx : InT t x) : ∃ hl : hm t P x < (sds t P).length, (sds t P)[hm t P x] = sid t P x := by
  have hc : x ∈ (sds t P).flatten := (kin_mem (sid_eqv h p) x).mpr (mem_irange.mpr hx)
  obtain ⟨l, hl, hxl⟩ := List.mem_flatten.mp hc
  have hlt : hm t P x < (sds t P).length := List.findIdx_lt_length_of_exists ⟨l, hl, decide_eq_true hxl⟩
  refine ⟨hlt, ?_⟩
  have q : x ∈ (sds t P)[hm t P x] := of_decide_eq_true (List.findIdx_getElem (p := fun l => decide (x ∈ l)) (w := hlt))
  obtain ⟨y, hy, e1, _⟩ := sds_at h p hlt
  rw [e1] at q ⊢
  exact ((mem_sid_iff h p hx hy).mp q).symm
theorem sds_inj (h : GTbl t e) (p : PartL t e P) {i j : Nat} (hi : i < (sds t P).length) (hj : j < (sds t P).length) (q : (sds t P)[i] = (sds t P)[j]) : i = j := by
  have hp := List.pairwise_iff_getElem.mp (show (sds t P).Pairwise fun a b => gt a 0 < gt b 0 from (kinI (sid_eqv h p) t.length (Nat.le_refl _)).heads)
  rcases Nat.lt_trichotomy i j with r | r | r
  · have := hp i j hi hj r
    rw [q] at this
    omega
  · exact r
  · have := hp j i hj hi r
    rw [q] at this
    omega
theorem hm_eq (h : GTbl t e) (p : PartL t e P) {x y : Int} (hx : InT t x) (hy : InT t y) : hm t P x = hm t P y ↔ sid t P x = sid t P y := by
  obtain ⟨l1, e1⟩ := hm_spec h p hx
  obtain ⟨l2, e2⟩ := hm_spec h p hy
  constructor
  · intro q
    rw [← e1, ← e2]
    simp only [q]
  · intro q
    exact sds_inj h p l1 l2 (by rw [e1, e2, q])
/-- a side's least thing -/
abbrev lf (t : Tbl) (P : List Int) (k : Nat) : Int := gt (gt (sds t P) (k : Int)) 0
theorem lf_spec (h : GTbl t e) (p : PartL t e P) {k : Nat} (hk : k < (sds t P).length) : InT t (lf t P k) ∧ (sds t P)[k] = sid t P (lf t P k) ∧ hm t P (lf t P k) = k := by
  obtain ⟨y, hy, e1, e2⟩ := sds_at h p hk
  have e3 : lf t P k = y := by show gt (gt (sds t P) (k : Int)) 0 = y; rw [gt_nat hk]; exact e2
  rw [e3]
  refine ⟨hy, e1, ?_⟩
  obtain ⟨l1, q⟩ := hm_spec h p hy
  exact sds_inj h p l1 hk (by rw [q, e1])
theorem sid_lf (h : GTbl t e) (p : PartL t e P) {x : Int} (hx : InT t x) : sid t P (lf t P (hm t P x)) = sid t P x := by
  obtain ⟨l1, q⟩ := hm_spec h p hx
  rw [← (lf_spec h p l1).2.1, q]
/-! ### steady parts -/
def St (t : Tbl) (e : Int) (P : List Int) : Prop := ∀ o, InT t o → ∀ x ∈ P, cj t e o x ∈ P
theorem bk_bk (h : GTbl t e) {x : Int} (hx : InT t x) : bkf t e (bkf t e x) = x := bk_one h (bk_in h hx) hx (bk_r h hx)
theorem woF_st (h : GTbl t e) (p : PartL t e P) (q : woF t e P = none) : St t e P := fun o ho x hx => by
  unfold woF at q
  rw [List.findSome?_eq_none_iff] at q
  have := q o (mem_irange.mpr ho)
  rw [Option.map_eq_none_iff, List.find?_eq_none] at this
  have := this x hx
  simpa using this
theorem st_woF (st : St t e P) : woF t e P = none := woF_none st
theorem sid_mul (h : GTbl t e) (p : PartL t e P) (st : St t e P) {x x' y y' : Int} (hx : InT t x) (hx' : InT t x') (hy : InT t y) (hy' : InT t y') (q1 : sid t P x' = sid t P x) (q2 : sid t P y' = sid t P y) : sid t P (en t x' y') = sid t P (en t x y) := by
  have E := sid_eqv h p
  obtain ⟨a, ha, rfl⟩ := mem_sid.mp ((mem_sid_iff h p hx' hx).mpr q1)
  obtain ⟨b, hb, rfl⟩ := mem_sid.mp ((mem_sid_iff h p hy' hy).mpr q2)
  refine E.eq _ (h.cl hx hy) _ (mem_sid.mpr ⟨en t (cj t e (bkf t e y) a) b, p.pt.mul _ (st _ (bk_in h hy) a ha) b hb, ?_⟩)
  have ia := p.pt.inn a ha
  have ib := p.pt.inn b hb
  have iy := bk_in h hy
  unfold cj
  rw [bk_bk h hy]
  rw [h.as (h.cl iy ia) hy ib, h.as iy ia (h.cl hy ib), h.as hx hy (h.cl iy (h.cl ia (h.cl hy ib))), ← h.as hy iy (h.cl ia (h.cl hy ib)), bk_l h hy, h.u1 (h.cl ia (h.cl hy ib)), h.as hx ia (h.cl hy ib)]
/-- the group of the sides -/
def fdT (t : Tbl) (P : List Int) : Tbl := (sds t P).map fun a => (sds t P).map fun b => (hm t P (en t (gt a 0) (gt b 0)) : Int)
theorem fdT_len : (fdT t P).length = (sds t P).length := by unfold fdT; rw [List.length_map]
theorem fdT_en (h : GTbl t e) (p : PartL t e P) (st : St t e P) {x y : Int} (hx : InT t x) (hy : InT t y) : en (fdT t P) (hm t P x : Int) (hm t P y : Int) = (hm t P (en t x y) : Int) := by
  obtain ⟨l1, q1⟩ := hm_spec h p hx
  obtain ⟨l2, q2⟩ := hm_spec h p hy
  show gt (gt (fdT t P) _) _ = _
  unfold fdT
  rw [gt_mapL (by omega) (by omega), gt_mapL (by omega) (by omega)]
  congr 1
  have i1 := (lf_spec h p l1).1
  have i2 := (lf_spec h p l2).1
  exact (hm_eq h p (h.cl i1 i2) (h.cl hx hy)).mpr (sid_mul h p st hx i1 hy i2 (sid_lf h p hx) (sid_lf h p hy))
theorem sds_len (h : GTbl t e) (p : PartL t e P) : 1 ≤ (sds t P).length ∧ (sds t P).length ≤ t.length := by
  obtain ⟨l1, _⟩ := hm_spec h p h.he
  exact ⟨by omega, kinN_len _ _⟩
theorem fdT_G (h : GTbl t e) (p : PartL t e P) (st : St t e P) : GTbl (fdT t P) (hm t P e : Int) := by
  obtain ⟨n1, n2⟩ := sds_len h p
  have h1 := h.sz.2.1
  refine img_G h (fun x => (hm t P x : Int)) ⟨by rw [fdT_len]; exact n1, by rw [fdT_len]; omega, fun r hr => ?_⟩ (fun x hx => ⟨by omega, by rw [fdT_len]; have := (hm_spec h p hx).1; omega⟩) (fun i hi => ?_) fun x y hx hy => fdT_en h p st hx hy
  · obtain ⟨a, _, rfl⟩ := List.mem_map.mp hr
    rw [List.length_map, fdT_len]
  · have := hi.2
    rw [fdT_len] at this
    have i0 := hi.1
    obtain ⟨a, _, c⟩ := lf_spec h p (k := i.toNat) (by omega)
    exact ⟨_, a, by rw [c]; omega⟩
theorem fdT_grp (h : GTbl t e) (p : PartL t e P) (st : St t e P) : (⟨(fdT t P).length, fdT t P, (hm t P e : Int), (sds t P).map fun s => (hm t P (bkf t e (gt s 0)) : Int)⟩ : Grp) = grpOf (fdT t P) (hm t P e : Int) := by
  unfold grpOf
  congr 1
  refine List.ext_getElem (by rw [List.length_map, List.length_map, irange_len, fdT_len]; omega) fun i h1 h2 => ?_
  have hi : i < (sds t P).length := by simpa using h1
  rw [List.getElem_map, List.getElem_map, irange_get]
  obtain ⟨a, _, c⟩ := lf_spec h p hi
  have e1 : gt (sds t P)[i] 0 = lf t P i := by show _ = gt (gt _ _) 0; rw [gt_nat hi]
  rw [e1]
  have ib := bk_in h a
  have G := fdT_G h p st
  have inn : ∀ x, InT t x → InT (fdT t P) (hm t P x : Int) := fun x hx => ⟨by omega, by rw [fdT_len]; have := (hm_spec h p hx).1; omega⟩
  have := bk_one G (inn _ a) (inn _ ib) (by rw [fdT_en h p st a ib, bk_l h a])
  rw [c] at this
  exact this.symm
/-- the numbers of all things' sides -/
def hmL (t : Tbl) (P : List Int) : List Int := (irange t.length).map fun x => (hm t P x : Int)
theorem filt_one {n m : Int} (h0 : 0 ≤ m) (h1 : m < n) : (irange n).filter (fun k => decide (m = k)) = [m] := by
  obtain ⟨r, er⟩ := irange_cut h0 h1
  have nd := nodup_irange' n
  rw [er] at nd ⊢
  rw [List.nodup_append] at nd
  have e1 : (irange m).filter (fun k => decide (m = k)) = [] := by
    rw [List.filter_eq_nil_iff]
    intro x hx
    have := mem_irange.mp hx
    simp; omega
  have e2 : r.filter (fun k => decide (m = k)) = [] := by
    rw [List.filter_eq_nil_iff]
    intro x hx
    have := (List.nodup_cons.mp nd.2.1).1
    simp
    intro z
    exact this (z ▸ hx)
  rw [List.filter_append, List.filter_cons, e1, e2]
  simp
/-! ### the walk along the sides -/
theorem kinN_pre (F : Int → List Int) {i : Nat} : ∀ {n : Nat}, i ≤ n → kinN F i <+: kinN F n
  | 0, h => by rw [show i = 0 by omega]; exact List.prefix_rfl
  | n + 1, h => by
    by_cases q : i = n + 1
    · rw [q]; exact List.prefix_rfl
    · have ih := kinN_pre F (i := i) (n := n) (by omega)
      rw [kinN]
      split
      · exact ih
      · exact List.IsPrefix.trans ih (List.prefix_append _ _)
theorem kinN_at (h : GTbl t e) (p : PartL t e P) {i k : Nat} (hi : i ≤ t.length) (hk : k < (kinN (sid t P) i).length) : ∃ hk' : k < (sds t P).length, (kinN (sid t P) i)[k] = (sds t P)[k] := by
  have pre := kinN_pre (sid t P) hi
  exact ⟨Nat.lt_of_lt_of_le hk pre.length_le, pre.getElem hk⟩
/-- a thing lies in a side that is told just where its number is one of these -/
theorem kinN_own (h : GTbl t e) (p : PartL t e P) {i k : Nat} (hi : i ≤ t.length) (hk : k < (kinN (sid t P) i).length) {x : Int} (hx : InT t x) : x ∈ (kinN (sid t P) i)[k] ↔ hm t P x = k := by
  obtain ⟨hk', e1⟩ := kinN_at h p hi hk
  rw [e1]
  obtain ⟨a, b, c⟩ := lf_spec h p hk'
  rw [b, mem_sid_iff h p hx a, ← hm_eq h p hx a, c]
theorem kinN_cov (h : GTbl t e) (p : PartL t e P) {i : Nat} (hi : i ≤ t.length) {x : Int} (hx : InT t x) : x ∈ (kinN (sid t P) i).flatten ↔ hm t P x < (kinN (sid t P) i).length := by
  constructor
  · intro q
    obtain ⟨l, hl, hxl⟩ := List.mem_flatten.mp q
    obtain ⟨k, hk, rfl⟩ := List.getElem_of_mem hl
    rw [(kinN_own h p hi hk hx).mp hxl]
    exact hk
  · intro q
    exact List.mem_flatten.mpr ⟨_, List.getElem_mem q, (kinN_own h p hi q hx).mpr rfl⟩
/-- the next thing's number -/
theorem hm_next (h : GTbl t e) (p : PartL t e P) {i : Nat} (hi : i < t.length) (q : ¬ (i : Int) ∈ (kinN (sid t P) i).flatten) : hm t P (i : Int) = (kinN (sid t P) i).length := by
  have hI : InT t (i : Int) := ⟨by omega, by omega⟩
  have e1 : kinN (sid t P) (i + 1) = kinN (sid t P) i ++ [sid t P (i : Int)] := by rw [kinN, if_neg q]
  have hk : (kinN (sid t P) i).length < (kinN (sid t P) (i + 1)).length := by rw [e1]; simp
  refine (kinN_own h p (i := i + 1) (by omega) hk hI).mp ?_
  simp only [e1, List.getElem_concat_length]
  exact (sid_eqv h p).self _ hI
end
end TB

/-! TbDf: defs whose last parameter has a default; more of dicts. -/
namespace TB
open PySem PySem.Spec PyProof.Rows L2
/-- a def as it stands behind the top, whatever its defaults are -/
structure FunX (K : PySem.W.Frag) (x qual : Str) (st : Stmt) (f : Addr) (fd : FuncData) : Prop where
  ex : ∃ (oc : Value) (od : Option Addr) (dV kV doc pm : Value) (an : Option Addr) (cdv ct : Value) (osl : Array (Option Value)),
    fd = PySem.W.fnOf x qual (defArgs st) (defBody st) (defScope st) dV kV doc pm an cdv ct ∧ K.lookup f = some ⟨oc, od, .func fd, osl⟩ ∧ PySem.W.codeIn K cdv qual = true
  kp : PySem.W.keepIn K (.ref f) = true
section
variable {P : Program} {w : World} {K : PySem.W.Frag} {mg : Str → Option Value} {base : Heap} {x qual : Str} {st : Stmt} {f : Addr} {fd : FuncData} {N ps : List Str} {k : Nat} {sp : Sp}
theorem FunX.okX (F : FunX K x qual st f fd) (S : FnScope N ps (defScope st)) (len : ∀ vs H Q E, sp vs H Q E → vs.length = ps.length)
    (hbody : ∀ (cdv : Value) (A : Around) (outer : List Env) (s : Shared) (H : Hp) (vs : List V) (Q : VK) (E : XK), Room k (A.deeper (envOfC qual (defScope st) s.heap.objs.size f cdv)) → sp vs H Q E →
      ∃ t, PSs (cxOf (L2.CX P w) P w K mg base N qual (defScope st) f cdv A outer s H E) (defBody st) t ∧ t { nx := fun _ H' => Q .non H', rt := Q } (L2.start N vs) H) : FnOk P w K mg base (L2.CX P w) (k + 1) f fd ps sp := by
  obtain ⟨oc, od, dV, kV, doc, pm, an, cdv, ct, osl, rfl, lk, hcd⟩ := F.ex
  exact fn_of lk hcd S len fun A outer s H vs Q E hr hsp => hbody cdv A outer s H vs Q E hr hsp
theorem funx_mk {oc : Value} {od an : Option Addr} {osl : Array (Option Value)} {dV kV doc pm cdv ct : Value} (l : K.lookup f = some ⟨oc, od, .func (PySem.W.fnOf x qual (defArgs st) (defBody st) (defScope st) dV kV doc pm an cdv ct), osl⟩)
    (c : PySem.W.codeIn K cdv qual = true) (k : PySem.W.keepIn K (.ref f) = true) : FunX K x qual st f (PySem.W.fnOf x qual (defArgs st) (defBody st) (defScope st) dV kV doc pm an cdv ct) := ⟨⟨oc, od, dV, kV, doc, pm, an, cdv, ct, osl, rfl, l, c⟩, k⟩
/-- how a call with n values binds, the defaults looked up -/
theorem dbinds {T : Addr} {o : Obj} {its : Array Value} {m n : Nat} {ds : List Value} (lT : K.lookup T = some o) (oT : o.data = .seq its m) (hn : n + ds.length = ps.length)
    (h : ∀ us : List Value, us.length = n → ∃ k, bindArgs fd ⟨us, []⟩ = seqItems? (.ref T) >>= k ∧ k (some its) = pure (ps.zip (us ++ ds))) : Binds K fd ps ds := fun s us X hlen => by
  obtain ⟨k, e1, e2⟩ := h us (by rw [List.length_append] at hlen; omega)
  refine L2.BindsTo.of_looks fun M => ?_
  rw [e1]
  exact looks_items X lT oT (.of_pure e2)
/-- the last one by its name -/
theorem dbindsK {T : Addr} {o : Obj} {its : Array Value} {m n : Nat} {nm : Str} (lT : K.lookup T = some o) (oT : o.data = .seq its m)
    (h : ∀ (us : List Value) (u : Value), us.length = n → ∃ k, bindArgs fd ⟨us, [(nm, u)]⟩ = seqItems? (.ref T) >>= k ∧ k (some its) = pure (ps.zip (us ++ [u]))) : KBn K fd ps n [nm] (fun us ws => us ++ ws) (fun vs zs => vs ++ zs) :=
  ⟨fun s us ws X l1 l2 => by
    obtain ⟨u, rfl⟩ : ∃ u, ws = [u] := by
      match ws, l2 with
      | [u], _ => exact ⟨u, rfl⟩
    obtain ⟨k, e1, e2⟩ := h us u l1
    refine L2.BindsTo.of_looks fun M => ?_
    rw [show ([nm].zip [u] : List (Str × Value)) = [(nm, u)] from rfl, e1]
    exact looks_items X lT oT (.of_pure e2), fun r1 r2 => r1.append r2⟩
end
section
variable {c : Cn} {Γ : List Sl} {ta tb te tl ty : TE} {tt tc : TT} {t u : TS} {s s' so : Sl} {α β γ : Type} {_ : Rp α} {_ : Rp β} {_ : Rp γ} {P : Po} {d : α}
/-- a call without its last argument, which is None -/
theorem slims_non {Z : Zz} (R : Hp) : Slims Z R [V.non] [.im (none : Option α)] := .cons rfl .nil
theorem es_callD {T : Tm} {t : TA} {ss : List Sl} {S : Sl → Prop} (ha : EvA c Γ t ss) (hT : T (ss ++ [.im (none : Option α)]) S fun r => c.ex r Γ) : EvS c Γ (tCallSD (spOf c.Z T) [.non] (WE c.X) t) S := fun B R0 R H ρ Δ σ S0 Q q xk => ha B R0 R H ρ Δ σ S0 _ (fun vs R1 H1 S1 sl => by
  refine ⟨R1, ss ++ [.im (none : Option α)], _, _, sx_same S1, slims_append sl (slims_non R1), hT, fun v R' H' s' S' e => ?_, fun r cls d H' e rx er => ?_⟩
  · exact q v s' R' H' e (sx_call S1 S')
  · obtain ⟨R2, _, S2, rx2⟩ := sx_callX S1 e rx
    exact xk R2 H' σ Γ r cls d S2 rx2 er) xk
theorem ev_callD {T : Tm} {t : TA} {ss : List Sl} (ha : EvA c Γ t ss) (hT : T (ss ++ [.im (none : Option α)]) (fun s' => s' = s) fun r => c.ex r Γ) : Ev c Γ (tCallSD (spOf c.Z T) [.non] (WE c.X) t) s := ev_call ha (fun R => slims_non R) hT
theorem ev_callDL {T : Tm} {t : TA} {ss : List Sl} (ha : EvB c Γ t ss) (hd : Det s) (hT : T (ss ++ [.im (none : Option α)]) (fun s' => s' = s) fun r => c.ex r Γ) : Ev c Γ (tCallSD (spOf c.Z T) [.non] (WE c.X) t) s := fun B R0 R H ρ Δ σ S Q q xk => ha B R0 R H ρ Δ σ S _ (fun vs R1 H1 RL S1 a b sl => by
  refine ⟨RL, ss ++ [.im (none : Option α)], _, _, b, slims_append sl (slims_non RL), hT, fun v R' H' s' S' e => ?_, fun r cls d H' e rx er => ?_⟩
  · subst e
    exact q v R1 H' (sx_callL S1 a hd S')
  · obtain ⟨R2, _, S2, rx2⟩ := sx_callX S1 e rx
    exact xk R2 H' σ Γ r cls d S2 rx2 er) xk
theorem slims_len {Z : Zz} {R : Hp} {vs : List V} {ss : List Sl} (h : Slims Z R vs ss) : vs.length = ss.length := by
  induction h with
  | nil => rfl
  | cons r t ih => simp [ih]
/-- a call whose last argument is written by its name; it raises nothing -/
theorem ev_callKw {T : Tm} {t : TA} {ss : List Sl} {n : Nat} {y : β} (ha : EvA c Γ t ss) (hn : ss.length = n) (hk : EvP c Γ te y) (hT : T (ss ++ [.im y]) (fun s' => s' = s) fun _ => False) : Ev c Γ (tCallN n 1 (spOf c.Z T) (fun vs zs => vs ++ zs) E0 t (tCons te tNil)) s := fun B R0 R H ρ Δ σ S Q q xk =>
  ha B R0 R H ρ Δ σ S _ (fun vs R1 H1 S1 sl => hk B R0 R1 H1 ρ Δ σ S1 _ fun w rw' => by
    refine ⟨by rw [← hn]; exact slims_len sl, rfl, R1, ss ++ [.im y], _, _, sx_same S1, slims_append sl (.cons rw' .nil), hT, fun v R' H' s' S' e => ?_, fun r cls d H' e rx er => er.elim⟩
    subst e
    exact q v R' H' (sx_call S1 S')) xk
theorem ev_callKwL {T : Tm} {t : TA} {ss : List Sl} {n : Nat} {y : β} (ha : EvB c Γ t ss) (hd : Det s) (hn : ss.length = n) (hk : EvP c Γ te y) (hT : T (ss ++ [.im y]) (fun s' => s' = s) fun _ => False) : Ev c Γ (tCallN n 1 (spOf c.Z T) (fun vs zs => vs ++ zs) E0 t (tCons te tNil)) s := fun B R0 R H ρ Δ σ S Q q xk =>
  ha B R0 R H ρ Δ σ S _ (fun vs R1 H1 RL S1 a b sl => hk B R0 R1 H1 ρ Δ σ S1 _ fun w rw' => by
    refine ⟨by rw [← hn]; exact slims_len sl, rfl, RL, ss ++ [.im y], _, _, b, slims_append sl (.cons (Rp.mono a rw') .nil), hT, fun v R' H' s' S' e => ?_, fun r cls d H' e rx er => er.elim⟩
    subst e
    exact q v R1 H' (sx_callL S1 a hd S')) xk
/-! ### dict(zip(xs, ys)), sorted(d.keys()) -/
end
def dzip {α : Type} (ks : List Int) (ys : List α) : List (Int × α) := (ks.zip ys).foldl (fun d p => dput d p.1 p.2) []
theorem dget_fold {α : Type} : ∀ (ps : List (Int × α)) (d : List (Int × α)) (x : Int), x ∉ ps.map (·.1) → dget (ps.foldl (fun d p => dput d p.1 p.2) d) x = dget d x
  | [], _, _, _ => rfl
  | p :: ps, d, x, h => by
    simp only [List.map_cons, List.mem_cons, not_or] at h
    rw [List.foldl_cons, dget_fold ps _ x h.2, dget_put, if_neg h.1]
theorem dget_dzip {α : Type} [Rp α] {ks : List Int} {ys : List α} (nd : ks.Nodup) (hl : ks.length = ys.length) (x : Int) : dget (dzip ks ys) x = if x ∈ ks then some (gt ys (ix ks x : Int)) else none := by
  have key : ∀ (ks : List Int) (ys : List α) (d : List (Int × α)), ks.Nodup → ks.length = ys.length → x ∈ ks → dget ((ks.zip ys).foldl (fun d p => dput d p.1 p.2) d) x = some (gt ys (ix ks x : Int)) := by
    intro ks
    induction ks with
    | nil => intro _ _ _ _ h; simp at h
    | cons k ks ih =>
      intro ys d nd hl hx
      cases ys with
      | nil => simp at hl
      | cons y ys =>
        obtain ⟨n1, n2⟩ := List.nodup_cons.mp nd
        have hl' : ks.length = ys.length := by simpa using hl
        rw [List.zip_cons_cons, List.foldl_cons]
        by_cases c : k = x
        · rw [dget_fold, dget_put, if_pos c.symm]
          · rw [ix, if_pos c]; rfl
          · intro z
            have : x ∈ ks := by
              obtain ⟨p, hp, e⟩ := List.mem_map.mp z
              rw [← e]
              exact (List.of_mem_zip hp).1
            exact n1 (c ▸ this)
        · have hx' : x ∈ ks := by
            rcases List.mem_cons.mp hx with z | z
            · exact absurd z.symm c
            · exact z
          rw [ih ys _ n2 hl' hx', ix, if_neg c]
          rfl
  unfold dzip
  by_cases c : x ∈ ks
  · rw [if_pos c]; exact key ks ys [] nd hl c
  · rw [if_neg c, dget_fold]
    · rfl
    · intro z
      obtain ⟨p, hp, e⟩ := List.mem_map.mp z
      exact c (e ▸ (List.of_mem_zip hp).1)
theorem dzip_len {α : Type} (ks : List Int) (ys : List α) : (dzip ks ys).length ≤ ks.length := by
  have key : ∀ (ps d : List (Int × α)), (ps.foldl (fun d p => dput d p.1 p.2) d).length ≤ d.length + ps.length := by
    intro ps
    induction ps with
    | nil => intro d; simp
    | cons p ps ih =>
      intro d
      rw [List.foldl_cons]
      have h1 := ih (dput d p.1 p.2)
      have h2 := dput_len d p.1 p.2
      rw [List.length_cons]
      omega
  have := key (ks.zip ys) []
  rw [List.length_zip] at this
  unfold dzip
  simp at this ⊢
  omega
theorem kv_merge {Z : Zz} {R : Hp} {α : Type} {_ : Rp α} : ∀ {ks : List Int} {vs : List V} {ys : List α} {kv : List (Key × V)} {d : List (Int × α)}, Paired (Rp.rp Z R) vs ys → Paired (kvOk Z R) kv d → Paired (kvOk Z R) (mergeK kv ((ks.map Sum.inl).zip vs)) ((ks.zip ys).foldl (fun d p => dput d p.1 p.2) d)
  | [], _, _, _, _, _, h => by simpa [mergeK] using h
  | k :: ks, _, _, _, _, .nil, h => by simpa [mergeK] using h
  | k :: ks, _, _, _, _, .cons r t, h => kv_merge (ks := ks) t (kv_put r h)
section
variable {c : Cn} {Γ : List Sl} {ta tb te tl ty : TE} {s : Sl} {α : Type} {_ : Rp α}
theorem sx_newd2 {Z : Zz} {B R0 R H : Hp} {ρ σ : List (Option V)} {Δ : List Sl} {kv : List (Key × V)} {kvs : List (Int × α)} (S : Sx Z B R0 R H ρ Δ σ Γ) {p : Addr} (hp : H p = none) (h : Paired (kvOk Z R) kv kvs) : Sx Z B R0 R (upd H p (.dK kv)) (some (.ref p) :: ρ) (.od kvs :: Δ) σ Γ := by
  obtain ⟨hl, own, hs, es⟩ := S
  obtain ⟨a, b, c⟩ := fresh_own hs es hp
  refine ⟨by simp [hl], p :: own, ⟨hs.rh.trans (same_upd hp), hs.bh.trans (same_upd hp), hs.r0, hs.nw, fun q hq => ?_, List.nodup_cons.mpr ⟨c, hs.nd⟩⟩, [p], own, rfl, ⟨p, kv, rfl, rfl, upd_same, h⟩, es_mono (Same.refl _) (fun q hq => upd_ne (fun z => c (z ▸ hq))) es⟩
  rcases List.mem_cons.mp hq with z | z
  · rw [z]; exact ⟨a, b⟩
  · exact hs.ow q z
theorem ev_dictZip {ks : List Int} {ys : List α} (ha : Ev c Γ ta (.im ks)) (hb : Ev c Γ tb (.im ys)) (hl : ks.length = ys.length) : Ev c Γ (tDictZip c.Z.K (tCons ta (tCons tb tNil))) (.od (dzip ks ys)) := fun B R0 R H ρ Δ σ S Q q x =>
  (ea_cons ha (ea_cons hb ea_nil)) B R0 R H ρ Δ σ S _ (fun vs R1 H1 S1 sl => by
    cases sl with
    | cons r1 t1 =>
      cases t1 with
      | cons r2 t2 =>
        cases t2
        obtain ⟨a1, vs1, rfl, h1, p1⟩ := r1
        obtain ⟨a2, vs2, rfl, h2, p2⟩ := r2
        have := paired_map_int p1
        subst this
        refine ⟨a1, a2, ks, vs2, rfl, SqL.of (sx_same S1 _ _ h1), SqL.of (sx_same S1 _ _ h2), by rw [hl, Paired.length p2], fun r nr => q _ R1 _ (sx_newd2 S1 nr (kv_merge p2 .nil))⟩) x
theorem ev_sortedKeys {kvs : List (Int × α)} {i : Nat} (e : Γ[i]? = some (.od kvs)) : Ev c Γ (tSortedKeys (tVar i)) (.ol (isort (kvs.map (·.1)))) := fun B R0 R H ρ Δ σ S Q q x => by
  obtain ⟨p, kv, h2, h3, h4, _⟩ := sx_mutd S e
  refine ⟨.ref p, h2, p, kv, kvs.map (·.1), rfl, h3, ?_, fun ns' r pm pw nr => ?_⟩
  · clear h3 e q
    induction h4 with
    | nil => rfl
    | cons r t ih => rw [List.map_cons, List.map_cons, List.map_cons, ih, r.1]
  · have e : ns' = isort (kvs.map (·.1)) := PySem.W.os_sorted_mergeSort pm pw
    subst e
    exact q _ R _ (sx_newl S nr (paired_of_int _))
end
end TB

/-! TbCm: calls whose arguments are own things, handed over; rows of own tables; values of mixed lists compared. -/
namespace TB
open PySem PySem.Spec PyProof.Rows L2
def mns (H : Hp) (f : List Addr) : Hp := fun p => if p ∈ f then none else H p
theorem mns_in {H : Hp} {f : List Addr} {p : Addr} (h : p ∈ f) : mns H f p = none := by simp [mns, h]
theorem mns_out {H : Hp} {f : List Addr} {p : Addr} (h : p ∉ f) : mns H f p = H p := by simp [mns, h]
theorem mns_same {H : Hp} {f : List Addr} : Same (mns H f) H := fun p o e => by
  by_cases c : p ∈ f
  · rw [mns_in c] at e; cases e
  · rw [mns_out c] at e; exact e
/-- a def that takes its arguments over; it raises nothing -/
def spMv (Z : Zz) (T : Tm) : Sp := fun vs H Q _ => ∃ (R : Hp) (own : List Addr) (ss : List Sl) (ok : Sl → Prop), Same R H ∧ (∀ p ∈ own, R p = none) ∧ own.Nodup ∧ Es Z R H (vs.map some) ss own ∧ T ss ok (fun _ => False) ∧
  ∀ v R' H' s, Sx Z (mns H own) R R' H' [some v] [s] [] [] → ok s → Q v H'
theorem spMv_len {Z : Zz} {T : Tm} {n : Nat} (h : ∀ ss ok er, T ss ok er → ss.length = n) (vs : List V) (H : Hp) (Q : VK) (E : XK) (hs : spMv Z T vs H Q E) : vs.length = n := by
  obtain ⟨R, own, ss, ok, _, _, _, es, hT, _⟩ := hs
  have := es_len es
  rw [List.length_map] at this
  rw [this]
  exact h ss ok _ hT
theorem es_nones {Z : Zz} {R H : Hp} : ∀ n : Nat, Es Z R H (List.replicate n none) (List.replicate n .un) []
  | 0 => rfl
  | n + 1 => ⟨[], [], rfl, rfl, es_nones n⟩
theorem spMv_run {Z : Zz} {T : Tm} {N : List Str} {t : XK → TS} (hN : ∀ ss ok er, T ss ok er → ss.length ≤ N.length)
    (h : ∀ E ss ok er, T ss ok er → W ⟨Z, fun cls d _ H => E cls d H, fun r _ => er r⟩ (ss ++ List.replicate (N.length - ss.length) .un) (t E) ⟨fun _ => ok (.im ()), ok, fun _ => False, fun _ => False⟩)
    (vs : List V) (H : Hp) (Q : VK) (E : XK) (hs : spMv Z T vs H Q E) : t E { nx := fun _ H' => Q .non H', rt := Q } (L2.start N vs) H := by
  obtain ⟨R, own, ss, ok, sm, hR, nd, es, hT, kq⟩ := hs
  have hlen : vs.length = ss.length := by have := es_len es; rw [List.length_map] at this; exact this
  have es2 : Es Z R H (L2.start N vs) (ss ++ List.replicate (N.length - ss.length) .un) own := by
    unfold L2.start
    rw [hlen]
    exact (es_append (by rw [List.length_map]; exact hlen)).mpr ⟨own, [], by simp, es, es_nones _⟩
  refine h E ss ok _ hT (mns H own) R R H [] [] (L2.start N vs) _ ⟨rfl, own, ⟨sm, mns_same, Same.refl _, fun b o e => .inl e, fun p hp => ⟨hR p hp, mns_in hp⟩, nd⟩, es2⟩ (fun R' H' σ' Γ' S' ok' => ?_) (fun R' H' v s S' ok' => kq v R' H' s S' ok') (fun _ _ _ _ _ z => z.elim) (fun _ _ _ _ _ z => z.elim) (fun R' H' σ' Γ' r cls d S' rx er' => er'.elim)
  exact kq .non R' H' (.im ()) (sx_push (sx_leave S') rfl) ok'
section
variable {c : Cn} {Γ Γ1 Γ2 : List Sl} {ta tb te tl ty : TE} {tt tc : TT} {t u : TS} {s s1 s2 so : Sl} {α β γ : Type} {_ : Rp α} {_ : Rp β} {_ : Rp γ} {P : Po} {d : α}
theorem sx_rot {Z : Zz} {B R0 R H : Hp} {ρ ρ1 σ : List (Option V)} {Δ Δ1 : List Sl} {o : Option V} (hl : ρ1.length = Δ1.length) (S : Sx Z B R0 R H (ρ1 ++ (o :: ρ)) (Δ1 ++ (s :: Δ)) σ Γ) : Sx Z B R0 R H (o :: (ρ1 ++ ρ)) (s :: (Δ1 ++ Δ)) σ Γ := by
  obtain ⟨h, own, hs, es⟩ := S
  rw [List.append_assoc, List.append_assoc] at es
  obtain ⟨f, g, rfl, e1, f2, g2, rfl, e2, e3⟩ := (es_append hl).mp es
  refine ⟨by simp at h ⊢; omega, f2 ++ (f ++ g2), hs_sub hs (fun p hp => ?_) ?_, f2, f ++ g2, rfl, e2, ?_⟩
  · simp only [List.mem_append] at hp ⊢
    grind
  · have nd := hs.nd
    simp only [List.nodup_append, List.mem_append] at nd ⊢
    grind
  · show Es Z R H (ρ1 ++ ρ ++ σ) (Δ1 ++ Δ ++ Γ) _
    rw [List.append_assoc, List.append_assoc]
    exact (es_append hl).mpr ⟨f, g2, rfl, e1, e3⟩
/-- arguments handed over -/
def EvAM (c : Cn) (Γ : List Sl) (t : TA) (ss : List Sl) (Γ' : List Sl) : Prop := ∀ B R0 R H ρ Δ σ, Sx c.Z B R0 R H ρ Δ σ Γ → ∀ Q : List V → Hp → Prop, (∀ vs R' H', vs.length = ss.length → Sx c.Z B R0 R' H' (vs.map some ++ ρ) (ss ++ Δ) σ Γ' → Q vs H') → Xok c B R0 ρ Δ → t σ H Q
theorem eam_nil : EvAM c Γ tNil [] Γ := fun B R0 R H ρ Δ σ S Q q _ => q [] R H rfl S
theorem eam_cons {tr : TA} {ss : List Sl} (h : EvM c Γ te s Γ1) (hr : EvAM c Γ1 tr ss Γ2) : EvAM c Γ (tCons te tr) (s :: ss) Γ2 := fun B R0 R H ρ Δ σ S Q q xk =>
  h B R0 R H ρ Δ σ S _ (fun v R1 H1 S1 => hr B R0 R1 H1 _ _ σ S1 _ (fun vs R2 H2 hl S2 => q (v :: vs) R2 H2 (by simp [hl]) (sx_rot (by rw [List.length_map]; exact hl) S2)) xk.push1) xk
theorem sx_callMv {Z : Zz} {B R0 R R' H H' : Hp} {ρ ρ1 σ : List (Option V)} {Δ Δ1 : List Sl} {f own' : List Addr} {v : V} (hl : ρ.length = Δ.length) (hs : Hs B R0 R H (f ++ own')) (es : Es Z R H (ρ ++ σ) (Δ ++ Γ) own') (S2 : Sx Z (mns H f) R R' H' [some v] [s] [] []) : Sx Z B R0 R' H' (some v :: ρ) (s :: Δ) σ Γ := by
  obtain ⟨_, own2, hs2, f2, g, rfl, h1, h2⟩ := S2
  have hg : g = [] := h2
  subst hg
  rw [List.append_nil] at hs2
  have nd := hs.nd
  simp only [List.nodup_append] at nd
  have key : ∀ p ∈ own', R' p = none ∧ H' p = H p ∧ p ∉ f2 := fun p hp => by
    have h3 := es_some es p hp
    have h4 := hs.ow p (by simp [hp])
    have h5 : p ∉ f := fun z => nd.2.2 p z p hp rfl
    have h6 : mns H f p = H p := mns_out h5
    obtain ⟨o, ho⟩ : ∃ o, H p = some o := by
      cases e : H p with
      | none => exact absurd e h3
      | some o => exact ⟨o, rfl⟩
    refine ⟨?_, ?_, fun hf => ?_⟩
    · cases e : R' p with
      | none => rfl
      | some o2 =>
        rcases hs2.nw p o2 e with q | q
        · rw [h4.1] at q; cases q
        · rw [h6] at q; exact absurd q h3
    · rw [ho, hs2.bh p o (by rw [h6]; exact ho)]
    · have := (hs2.ow p hf).2
      rw [h6] at this
      exact h3 this
  have bm : Same B (mns H f) := fun p o e => by
    have : p ∉ f := fun z => by have := (hs.ow p (by simp [z])).2; rw [e] at this; cases this
    rw [mns_out this]
    exact hs.bh p o e
  refine ⟨by simp [hl], f2 ++ own', ⟨hs2.rh, bm.trans hs2.bh, hs.r0.trans hs2.r0, fun b o e => ?_, fun p hp => ?_, ?_⟩, f2, own', rfl, h1, es_mono hs2.r0 (fun p hp => (key p hp).2.1) es⟩
  · rcases hs2.nw b o e with q | q
    · exact hs.nw b o q
    · exact .inr (bm.free q)
  · rcases List.mem_append.mp hp with q | q
    · exact ⟨(hs2.ow p q).1, bm.free (hs2.ow p q).2⟩
    · exact ⟨(key p q).1, (hs.ow p (by simp [q])).2⟩
  · rw [List.nodup_append]
    exact ⟨hs2.nd, nd.2.1, fun a ha b hb e => (key b hb).2.2 (e ▸ ha)⟩
/-- worth one of S, the slots as Γ' tells behind it -/
def EvSM (c : Cn) (Γ : List Sl) (t : TE) (S : Sl → Prop) (Γ' : List Sl) : Prop := ∀ B R0 R H ρ Δ σ, Sx c.Z B R0 R H ρ Δ σ Γ → ∀ Q : VK, (∀ v s R' H', S s → Sx c.Z B R0 R' H' (some v :: ρ) (s :: Δ) σ Γ' → Q v H') → Xok c B R0 ρ Δ → t σ H Q
theorem esm_callMv {T : Tm} {t : TA} {ss : List Sl} {S : Sl → Prop} (ha : EvAM c Γ t ss Γ1) (hT : T ss S fun _ => False) : EvSM c Γ (tCallSD (spMv c.Z T) [] (WE c.X) t) S Γ1 := fun B R0 R H ρ Δ σ S0 Q q xk => ha B R0 R H ρ Δ σ S0 _ (fun vs R1 H1 hl S1 => by
  obtain ⟨h, own, hs, es⟩ := S1
  rw [List.append_assoc, List.append_assoc] at es
  obtain ⟨f, g, rfl, e1, e2⟩ := (es_append (by rw [List.length_map]; exact hl)).mp es
  have nd := hs.nd
  simp only [List.nodup_append] at nd
  refine ⟨R1, f, ss, S, hs.rh, fun p hp => (hs.ow p (by simp [hp])).1, nd.1, by rw [List.append_nil]; exact e1, hT, fun v R' H' s S' hs' => q v s R' H' hs' (sx_callMv (ρ1 := []) (Δ1 := []) (by simp at h; omega) hs e2 S')⟩) xk
theorem em_callMv {T : Tm} {t : TA} {ss : List Sl} (ha : EvAM c Γ t ss Γ1) (hT : T ss (fun s' => s' = s) fun _ => False) : EvM c Γ (tCallSD (spMv c.Z T) [] (WE c.X) t) s Γ1 := fun B R0 R H ρ Δ σ S Q q xk =>
  esm_callMv ha hT B R0 R H ρ Δ σ S Q (fun v s' R' H' e S' => q v R' H' (e ▸ S')) xk
theorem w_asgSM {i : Nat} {S : Sl → Prop} (h : EvSM c Γ te S Γ1) (k : ∀ s, S s → P.nx (Γ1.set i s)) : W c Γ (tAsg te (gName i)) P := fun B R0 R H ρ Δ σ D S0 n r b kk x =>
  h B R0 R H ρ Δ σ S0 _ (fun v s R1 H1 e S1 => n R1 H1 _ _ (sx_asg S1 i) (k s e)) x
theorem w_retSM {S : Sl → Prop} (h : EvSM c Γ te S Γ1) (k : ∀ s, S s → P.rt s) : W c Γ (tRet te) P := fun B R0 R H ρ Δ σ D S0 n r b kk x =>
  h B R0 R H ρ Δ σ S0 _ (fun v s R1 H1 e S1 => r R1 H1 v s (sx_leave S1) (k s e)) x
/-! ### expressions that leave the heap as it is -/
theorem ep_opv {r : R2} {x : α} {y : β} {z : γ} (ha : EvP c Γ ta x) (hb : EvP c Γ tb y) (hr : ∀ R H v w, Same R H → Rp.rp c.Z R v x → Rp.rp c.Z R w y → ∃ k, Rp.rp c.Z R k z ∧ ∀ Q : VK, Q k H → r v w H Q) : EvP c Γ (tOp r ta tb) z := fun B R0 R H ρ Δ σ S Q q =>
  ha B R0 R H ρ Δ σ S _ fun v rv => hb B R0 R H ρ Δ σ S _ fun w rw => by
    obtain ⟨k, h1, h2⟩ := hr R H v w (sx_same S) rv rw
    exact h2 Q (q k h1)
theorem ep_mod {i j : Int} (ha : EvP c Γ ta i) (hb : EvP c Γ tb j) (h : 0 < j) : EvP c Γ (tOp gMod ta tb) (i % j) := ep_opv ha hb fun R H v w _ rv rw => ⟨.int (i % j), rfl, fun Q q => ⟨i, j, rv, rw, by omega, by show Q (.int (i.fmod j)) H; rw [Int.fmod_eq_emod_of_nonneg _ (by omega)]; exact q⟩⟩
theorem ep_div {i j : Int} (ha : EvP c Γ ta i) (hb : EvP c Γ tb j) (h : 0 < j) (h2 : j < 1073741824) : EvP c Γ (tOp gDiv ta tb) (i / j) := ep_opv ha hb fun R H v w _ rv rw => ⟨.int (i / j), rfl, fun Q q => .inl ⟨i, j, rv, rw, ⟨by omega, by omega⟩, by show Q (.int (i.fdiv j)) H; rw [Int.fdiv_eq_ediv_of_nonneg _ (by omega)]; exact q⟩⟩
theorem ep_add {i j : Int} (ha : EvP c Γ ta i) (hb : EvP c Γ tb j) : EvP c Γ (tOp gAdd ta tb) (i + j) := ep_opv ha hb fun R H v w _ rv rw => ⟨.int (i + j), rfl, fun Q q => .inl ⟨i, j, rv, rw, q⟩⟩
theorem ep_sub {i j : Int} (ha : EvP c Γ ta i) (hb : EvP c Γ tb j) : EvP c Γ (tOp gMns ta tb) (i - j) := ep_opv ha hb fun R H v w _ rv rw => ⟨.int (i - j), rfl, fun Q q => ⟨i, j, rv, rw, q⟩⟩
/-! ### rows of own tables -/
theorem row2 {xss : List (List α)} {k : Nat} {i : Int} {B R0 R H : Hp} {ρ σ : List (Option V)} {Δ : List Sl} (S : Sx c.Z B R0 R H ρ Δ σ Γ) (e : Γ[k]? = some (.o2 xss)) (h0 : 0 ≤ i) (h1 : i < xss.length) :
    ∃ (p : Addr) (qs : List Addr) (q : Addr) (vs : List V), σ[k]? = some (some (.ref p)) ∧ H p = some (.lst (qs.map V.ref)) ∧ (qs.map V.ref).length = xss.length ∧ qs[i.toNat]? = some q ∧ H q = some (.lst vs) ∧ Paired (Rp.rp c.Z R) vs (gt xss i) ∧
      ∀ (vs' : List V) (ys : List α), Paired (Rp.rp c.Z R) vs' ys → Sx c.Z B R0 R (upd H q (.lst vs')) ρ Δ σ (Γ.set k (.o2 (xss.set i.toNat ys))) := by
  obtain ⟨p, qs, g2, g3, g4, g5⟩ := sx_mut2 S e
  obtain ⟨q, hq, vs, hH, hp⟩ := paired_get g4 (gt_some h0 h1)
  exact ⟨p, qs, q, vs, g2, g3, by rw [List.length_map, Paired.length g4], hq, hH, hp, fun vs' ys h => g5 i.toNat q vs' ys hq h⟩
theorem w_popR {xss : List (List α)} {k : Nat} {i : Int} (e : Γ[k]? = some (.o2 xss)) (hi : EvP c Γ ta i) (h0 : 0 ≤ i) (h1 : i < xss.length) (hne : gt xss i ≠ []) (kk : P.nx (Γ.set k (.o2 (xss.set i.toNat (gt xss i).dropLast)))) :
    W c Γ (tDrop (tBM0 c.Z.K "list" rPop (tOp (gIx c.Z.K) (tVar k) ta))) P := fun B R0 R H ρ Δ σ D S n r bb kk' x => by
  obtain ⟨p, qs, q, vs, g1, g2, gl, g3, g4, g5, g6⟩ := row2 S e h0 h1
  refine ⟨.ref p, g1, hi B R0 R H ρ Δ σ S _ fun z ez => .inl ⟨p, qs.map V.ref, i, .ref q, rfl, ez, SqL.of g2, atI_of h0 (by omega) (by rw [List.getElem?_map, g3]; rfl), ?_⟩⟩
  have hl := Paired.length g5
  have hl2 : 0 < (gt xss i).length := List.length_pos_iff.mpr hne
  refine ⟨tyL g4, q, vs, vs[vs.length - 1]'(by omega), rfl, rfl, g4, List.getElem?_eq_getElem (by omega), n R _ _ _ (g6 vs.dropLast (gt xss i).dropLast ?_) kk⟩
  rw [List.dropLast_eq_take, List.dropLast_eq_take, hl]
  exact paired_take _ g5
theorem w_appR {xss : List (List α)} {k : Nat} {i : Int} {y : α} (e : Γ[k]? = some (.o2 xss)) (hi : EvP c Γ ta i) (hy : EvP c Γ ty y) (h0 : 0 ≤ i) (h1 : i < xss.length) (hl : (gt xss i).length < 1000000) (kk : P.nx (Γ.set k (.o2 (xss.set i.toNat (gt xss i ++ [y]))))) :
    W c Γ (tDrop (tBM c.Z.K "list" rAppend (tOp (gIx c.Z.K) (tVar k) ta) (tCons ty tNil))) P := fun B R0 R H ρ Δ σ D S n r bb kk' x => by
  obtain ⟨p, qs, q, vs, g1, g2, gl, g3, g4, g5, g6⟩ := row2 S e h0 h1
  refine ⟨.ref p, g1, hi B R0 R H ρ Δ σ S _ fun z ez => .inl ⟨p, qs.map V.ref, i, .ref q, rfl, ez, SqL.of g2, atI_of h0 (by omega) (by rw [List.getElem?_map, g3]; rfl), ?_⟩⟩
  have hl' := Paired.length g5
  exact ⟨tyL g4, hy B R0 R H ρ Δ σ S _ fun w rw' => ⟨q, vs, w, rfl, rfl, g4, Nat.lt_of_lt_of_le (by omega : vs.length < 1000000) (by decide), n R _ _ _ (g6 (vs ++ [w]) (gt xss i ++ [y]) (paired_append g5 (.cons rw' .nil))) kk⟩⟩
theorem ev_listR {xss : List (List α)} {k : Nat} {i : Int} (e : Γ[k]? = some (.o2 xss)) (hi : EvP c Γ ta i) (h0 : 0 ≤ i) (h1 : i < xss.length) : Ev c Γ (tCB (gList c.Z.K) (tCons (tOp (gIx c.Z.K) (tVar k) ta) tNil)) (.ol (gt xss i)) := fun B R0 R H ρ Δ σ S Q q' x => by
  obtain ⟨p, qs, q, vs, g1, g2, gl, g3, g4, g5, g6⟩ := row2 S e h0 h1
  exact ⟨.ref p, g1, hi B R0 R H ρ Δ σ S _ fun z ez => .inl ⟨p, qs.map V.ref, i, .ref q, rfl, ez, SqL.of g2, atI_of h0 (by omega) (by rw [List.getElem?_map, g3]; rfl), q, vs, rfl, .inl (SqL.of g4), fun l hl => q' _ R _ (sx_newl S hl g5)⟩⟩
theorem ev_lenO2 {xss : List (List α)} {k : Nat} (e : Γ[k]? = some (.o2 xss)) : Ev c Γ (tCB (gLen c.Z.K) (tCons (tVar k) tNil)) (.im (xss.length : Int)) := fun B R0 R H ρ Δ σ S Q q xk => by
  obtain ⟨p, qs, h2, h3, h4, _⟩ := sx_mut2 S e
  exact ⟨.ref p, h2, _, (qs.map V.ref).length, rfl, .inl ⟨_, SqL.of h3, rfl⟩, q _ R H (sx_push S (by rw [List.length_map, Paired.length h4]; rfl))⟩
end
/-! ### values of mixed lists -/
/-- an int, or a text that Python can show -/
inductive IX where
  | i (n : Int) | s (x : Str) (h : PyData.strOk x = true)
  deriving DecidableEq
instance : Rp IX := ⟨.i 0, fun _ _ v d => match d with | .i n => v = .int n | .s x _ => v = .str x, fun {Z H H' v d} _ h => by cases d <;> exact h⟩
instance : Flt IX := ⟨fun {Z H H' v d} h => by cases d <;> exact h⟩
instance : Pd IX := { py := fun d => match d with | .i n => .int n | .s x _ => .str x, dep := 0, dp := fun {Z H v d} h => (by
    cases d with
    | i n => cases (show v = .int n from h); exact .int _
    | s x _ => cases (show v = .str x from h); exact .str _), can := fun d => (by
    cases d with
    | i n => simp [PyData.canLay0]
    | s x h => simpa [PyData.canLay0] using h), low := fun d => (by cases d <;> simp [PyData.depth]), eqv := fun a b => (by cases a <;> cases b <;> simp [PyData.eqv]) }
section
variable {c : Cn} {Γ : List Sl} {te : TE} {α : Type} {_ : Rp α}
/-- an int, a text, as a value of a mixed list -/
theorem ev_isI {i : Int} (h : Ev c Γ te (.im i)) : Ev c Γ te (.im (IX.i i)) := fun B R0 R H ρ Δ σ S Q q x => h B R0 R H ρ Δ σ S Q (fun v R' H' S' => q v R' H' (sx_push (sx_pop S') (show Rp.rp c.Z R' v (IX.i i) from sx_top' S'))) x
theorem ev_isS {y : Str} (hy : PyData.strOk y = true) (h : Ev c Γ te (.im y)) : Ev c Γ te (.im (IX.s y hy)) := fun B R0 R H ρ Δ σ S Q q x => h B R0 R H ρ Δ σ S Q (fun v R' H' S' => q v R' H' (sx_push (sx_pop S') (show Rp.rp c.Z R' v (IX.s y hy) from sx_top' S'))) x
theorem ev_unI {i : Int} (h : Ev c Γ te (.im (IX.i i))) : Ev c Γ te (.im i) := fun B R0 R H ρ Δ σ S Q q x => h B R0 R H ρ Δ σ S Q (fun v R' H' S' => q v R' H' (sx_push (sx_pop S') (show Rp.rp c.Z R' v i from sx_top' S'))) x
end
end TB

/-! TbUl: a list unpacked to two names; a pair walked; calls with what is in fresh lists. -/
namespace TB
open PySem PySem.Spec PyProof.Rows L2
section
variable {prog : Program} {w : World} {A : Around} {E : Value → Shared → Prop} {s : Shared}
theorem draw_list {it t : Addr} {items : Array Value} (hne : t ≠ it) : ∀ (n i : Nat) (s : Shared) (Q : List Value → Shared → Prop), s.heap.IsListIter it t i → s.heap.IsList t items → i + n ≤ items.size →
    (∀ h', h'.IsListIter it t (i + n) → Heap.SameBut it s.heap h' → Q ((items.toList.drop i).take n) { s with heap := h' }) → wpAny (model prog w) A (draw (.ref it) n) Q E s
  | 0, i, s, Q, hit, _, _, hQ => by
    show wpAny _ _ (pure []) Q E s
    exact wpAny_pure (by simpa using hQ s.heap hit (Heap.SameBut.refl ..))
  | n + 1, i, s, Q, hit, ht, hle, hQ => by
    have hlt : i < items.size := by omega
    show wpAny _ _ (pyNext (.ref it) >>= _) Q E s
    refine wpAny_bind (wpAny_pyNext_list_item hit ht (x := items[i]) (by simp [hlt]) fun h₁ hit₁ hs₁ => ?_)
    refine wpAny_bind (wpAny_holding (draw_list hne n (i + 1) _ _ hit₁ (ht.extBut hs₁.extBut hne) (by omega) fun h₂ hit₂ hs₂ => wpAny_pure ?_))
    have hd : items.toList.drop i = items[i] :: items.toList.drop (i + 1) := by simp [List.drop_eq_getElem_cons, hlt]
    have := hQ h₂ (by rw [show i + (n + 1) = i + 1 + n by omega]; exact hit₂) (hs₁.trans hs₂)
    rw [hd, List.take_succ_cons] at this
    exact this
theorem unpackItems_list {t : Addr} {items : Array Value} {Q : List Value → Shared → Prop} (hh : A.handled = none) (ht : s.heap.IsList t items)
    (hQ : ∀ h', Heap.ExtBut s.heap.objs.size s.heap h' → Q items.toList { s with heap := h' }) : wpAny (model prog w) A (unpackItems (.ref t) items.size none) Q E s := by
  have hlt : t ≠ s.heap.objs.size := by obtain ⟨o, ho, _⟩ := ht; exact Nat.ne_of_lt (Heap.lt_size ho)
  unfold unpackItems
  refine wpAny_bind ?_
  · unfold notIterableAtAll
    refine wpAny_bind (wpAny_specialOf ht.typeIs F.slot_list_iter.lookup ?_)
    refine wpAny_pure ?_
    simp only [Bool.false_eq_true, if_false]
    refine wpAny_bind (wpAny_holding (wpAny_pyIter_list ht ?_))
    refine wpAny_bind (wpAny_holding (draw_list hlt items.size 0 _ _ ⟨_, Heap.get?_push_size _ rfl, rfl, rfl⟩ (ht.push _) (by omega) fun h₁ hit₁ hs₁ => ?_))
    have hall : List.take items.size (List.drop 0 items.toList) = items.toList := by
      rw [List.drop_zero]; exact List.take_of_length_le (by simp)
    rw [hall]
    rw [if_neg (by simp)]
    have ht₁ : h₁.IsList t items := (ht.push _).extBut hs₁.extBut hlt
    refine wpAny_bind (wpAny_holding (wpAny_pyNext_list_end hh hit₁ ht₁ (by simp) fun h₂ he₂ => ?_))
    simp only [Option.isSome_none, Bool.false_eq_true, if_false]
    refine wpAny_pure (hQ h₂ fun b o hb e => he₂ b o hb (hs₁.extBut b o hb (Heap.get?_push_of_some _ e)))
theorem assign_Tuple_list {env : Env} {elts : List Expr} {x1} {pos : Pos} {t : Addr} {items : Array Value} {Q : Unit → Shared → Prop} (hh : A.handled = none) (ht : s.heap.IsList t items)
    (hn : (assignEach elts env).length = items.size) (hstar : (assignEach elts env).findIdx? (·.1) = none)
    (h : ∀ h', Heap.ExtBut s.heap.objs.size s.heap h' → wpAny (model prog w) A (assignInOrder ((assignEach elts env).map (·.2)) items.toList) Q E { s with heap := h' }) :
    wpAny (model prog w) A (assign (.Tuple elts x1 pos) env (.ref t)) Q E s := by
  rw [PyProof.Rows.assign_Tuple]
  refine wpAny_bind (wpAny_standAt ?_)
  unfold unpack
  rw [hn, hstar]
  exact wpAny_bind (wpAny_holding (unpackItems_list hh ht h))
end
/-- (a, b, ..) = a list of that length -/
def gTupL (K : PySem.W.Frag) (n : Nat) (t : TGs) : TG := fun v σ H Q => ∃ a xs, v = .ref a ∧ SqL K H a xs ∧ xs.length = n ∧ t xs σ H Q
theorem pg_tupL {X : Cx} {pos : Pos} {es : List Expr} {k : Nat} {t : TGs} {n : Nat} (hc : X.calm = true) (h : PGs X es t)
    (hn : (assignEach es X.env).length = n := by rfl) (hst : (assignEach es X.env).findIdx? (·.1) = none := by rfl) : PG X (.Tuple es k pos) (gTupL X.K n t) := by
  refine ⟨fun pins s σ H v u Q I r hw => ?_⟩
  obtain ⟨a, xs, e1, hq, hl, hw⟩ := hw
  subst e1
  cases r
  obtain ⟨its, rv, ht, hz⟩ := I.list hq
  refine assign_Tuple_list (I.ok.hd hc) ht.isList (by simp [hn, ← hl, rv.length]) hst fun h' hx => ?_
  have I1 : Inv X pins σ H { s with heap := h' } := I.kept (t' := s.toks) fun b o e => hx b o (Nat.ne_of_lt (Heap.lt_size e)) e
  exact h.run pins _ σ H xs _ Q I1 (by simpa using rv) hw
section
variable {c : Cn} {Γ : List Sl} {ta tb te tl ty : TE} {t u : TS} {s so : Sl} {α β : Type} {_ : Rp α} {_ : Rp β} {P : Po} {d : α}
/-- a, b = a list of two -/
theorem w_asgL2 {i j : Nat} {x y : α} (h : Ev c Γ te (.im [x, y])) (k : P.nx ((Γ.set i (.im x)).set j (.im y))) : W c Γ (tAsg te (gTupL c.Z.K 2 (gCons (gName i) (gCons (gName j) gNil)))) P := fun B R0 R H ρ Δ σ D S n r b kk xk =>
  h B R0 R H ρ Δ σ S _ (fun v R1 H1 S1 => by
    obtain ⟨a, vs, rfl, ha, hp⟩ := sx_top' S1
    cases hp with
    | cons r1 t1 =>
      cases t1 with
      | cons r2 t2 =>
        cases t2
        exact ⟨a, _, rfl, SqL.of (sx_same S1 _ _ ha), rfl, _, _, rfl, _, _, rfl, rfl, n R1 H1 _ _ (sx_asg (sx_push (d := y) (sx_asg (sx_push (d := x) (sx_pop S1) r1) i) r2) j) k⟩) xk
/-- a pair walked -/
theorem ei_tup2 {p : α × α} {j : Nat} (h : Ev c Γ tl (.im p)) : EvI c Γ (iTup c.Z.K tl) (gName j) 2 (fun i G => G.set j (.im ([p.1, p.2].getD i Rp.df))) [j] := fun B R0 R H ρ Δ σ S K k x =>
  h B R0 R H ρ Δ σ S _ (fun v R1 H1 S1 => by
    have rv := sx_top' S1
    obtain ⟨a, y, z, rfl, ha, hy, hz⟩ := id rv
    refine ⟨a, rfl, ⟨[y, z], SqT.of (sx_same S1 _ _ ha)⟩, k (Itt c.Z.K a) R1 H1 [some (.ref a)] [.im p] rfl S1 ⟨fun i G vs3 hj => wipeG_set (hj j (by simp)), fun {R2 H2 ρx Δx σ2 Γ2 i} hx S2 hi => ?_, fun {R2 H2 ρx Δx σ2 Γ2} hx S2 => ?_, fun {R2 H2 ρx Δx σ2 Γ2 i y H'} hx S2 hi hy K' kk => ?_⟩⟩
    · obtain ⟨a2, y2, z2, e2, ha2, _⟩ := sx_top' (sx_drop hx S2)
      cases e2
      match i, hi with
      | 0, _ => exact ⟨_, y2, SqT.of (sx_same S2 _ _ ha2), rfl⟩
      | 1, _ => exact ⟨_, z2, SqT.of (sx_same S2 _ _ ha2), rfl⟩
    · obtain ⟨a2, y2, z2, e2, ha2, _⟩ := sx_top' (sx_drop hx S2)
      cases e2
      exact ⟨_, SqT.of (sx_same S2 _ _ ha2), Nat.le_refl _⟩
    · obtain ⟨a2, y2, z2, e2, ha2, ry, rz⟩ := sx_top' (sx_drop hx S2)
      cases e2
      obtain ⟨eH, hy⟩ := hy
      subst eH
      have hy' := hy _ (SqT.of (sx_same S2 _ _ ha2))
      refine kk R2 _ H' (sx_asg (sx_push S2 (d := [p.1, p.2].getD i Rp.df) ?_) j) fun vs3 hj => wipe_set (hj j (by simp))
      match i, hi with
      | 0, _ => cases hy'; exact ry
      | 1, _ => cases hy'; exact rz) x
/-- the length of a row of an own table -/
theorem ev_lenR {xss : List (List α)} {k : Nat} {i : Int} (e : Γ[k]? = some (.o2 xss)) (hi : EvP c Γ ta i) (h0 : 0 ≤ i) (h1 : i < xss.length) : Ev c Γ (tCB (gLen c.Z.K) (tCons (tOp (gIx c.Z.K) (tVar k) ta) tNil)) (.im ((gt xss i).length : Int)) := fun B R0 R H ρ Δ σ S Q q' x => by
  obtain ⟨p, qs, q, vs, g1, g2, gl, g3, g4, g5, g6⟩ := row2 S e h0 h1
  exact ⟨.ref p, g1, hi B R0 R H ρ Δ σ S _ fun z ez => .inl ⟨p, qs.map V.ref, i, .ref q, rfl, ez, SqL.of g2, atI_of h0 (by omega) (by rw [List.getElem?_map, g3]; rfl), _, vs.length, rfl, .inl ⟨_, SqL.of g4, rfl⟩, q' _ R H (sx_push S (by rw [Paired.length g5]; rfl))⟩⟩
theorem sx_lst2 {Z : Zz} {B R0 R H : Hp} {ρ σ : List (Option V)} {Δ : List Sl} {p : Addr} {x y : V} {xs ys : List α} (S : Sx Z B R0 R H (some y :: some x :: ρ) (.ol ys :: .ol xs :: Δ) σ Γ) (np : H p = none) : Sx Z B R0 R (upd H p (.lst [x, y])) (some (.ref p) :: ρ) (.o2 [xs, ys] :: Δ) σ Γ := by
  obtain ⟨hl, own, hs, f1, g1, rfl, ⟨py, vy, rfl, ey, hy, ry⟩, f2, g2, rfl, ⟨px, vx, rfl, ex, hx, rx⟩, es⟩ := S
  cases ex
  cases ey
  have fp := fresh_own hs (Z := Z) (τ := some (.ref py) :: some (.ref px) :: (ρ ++ σ)) (Θ := .ol ys :: .ol xs :: (Δ ++ Γ)) ⟨[py], _, rfl, ⟨py, vy, rfl, rfl, hy, ry⟩, [px], g2, rfl, ⟨px, vx, rfl, rfl, hx, rx⟩, es⟩ np
  have nd := hs.nd
  have q := fp.2.2
  simp only [List.cons_append, List.nil_append, List.mem_cons, not_or, List.nodup_cons] at nd q
  refine ⟨by simpa using hl, (p :: [px, py]) ++ g2, ⟨hs.rh.trans (same_upd np), hs.bh.trans (same_upd np), hs.r0, hs.nw, fun b hb => ?_, ?_⟩, p :: [px, py], g2, rfl, ⟨p, [px, py], rfl, rfl, upd_same, ?_⟩, es_mono (Same.refl _) (fun b hb => upd_ne fun z => q.2.2 (z ▸ hb)) es⟩
  · simp only [List.cons_append, List.nil_append, List.mem_cons] at hb
    rcases hb with rfl | rfl | rfl | hb
    · exact ⟨fp.1, fp.2.1⟩
    · exact hs.ow _ (by simp)
    · exact hs.ow _ (by simp)
    · exact hs.ow _ (by simp [hb])
  · simp only [List.cons_append, List.nil_append, List.nodup_cons, List.mem_cons, not_or]
    exact ⟨⟨q.2.1, q.1, q.2.2⟩, ⟨fun z => nd.1.1 z.symm, nd.2.1⟩, nd.1.2, nd.2.2⟩
  · exact .cons ⟨vx, by rw [upd_ne (fun z => q.2.1 z.symm)]; exact hx, rx⟩ (.cons ⟨vy, by rw [upd_ne (fun z => q.1 z.symm)]; exact hy, ry⟩ .nil)
/-- [a, b], both own lists that are handed over -/
theorem em_lst2 {Γ1 Γ2 : List Sl} {xs ys : List α} (h1 : EvM c Γ ta (.ol xs) Γ1) (h2 : EvM c Γ1 tb (.ol ys) Γ2) : EvM c Γ (tLst (tCons ta (tCons tb tNil))) (.o2 [xs, ys]) Γ2 := fun B R0 R H ρ Δ σ S Q q xk =>
  h1 B R0 R H ρ Δ σ S _ (fun x R1 H1 S1 => h2 B R0 R1 H1 _ _ σ S1 _ (fun y R2 H2 S2 => ⟨by show 2 ≤ sizeLine; decide, fun p np => q _ R2 _ (sx_lst2 S2 np)⟩) xk.push1) xk
end
end TB
namespace TB
open PySem PySem.Spec PyProof.Rows L2
section
variable {c : Cn} {Γ : List Sl} {te : TE} {α : Type} {_ : Rp α} {P : Po}
theorem w_asgL2S {α : Type} [Rp α] {i j : Nat} {S : Sl → Prop} (h : EvS c Γ te S) (k : ∀ s, S s → ∃ x y : α, s = .im [x, y] ∧ P.nx ((Γ.set i (.im x)).set j (.im y))) : W c Γ (tAsg te (gTupL c.Z.K 2 (gCons (gName i) (gCons (gName j) gNil)))) P := fun B R0 R H ρ Δ σ D S0 n r b kk xk =>
  h B R0 R H ρ Δ σ S0 _ (fun v s R1 H1 hs S1 => by
    obtain ⟨x, y, rfl, k2⟩ := k s hs
    obtain ⟨a, vs, rfl, ha, hp⟩ := sx_top' S1
    cases hp with
    | cons r1 t1 =>
      cases t1 with
      | cons r2 t2 =>
        cases t2
        exact ⟨a, _, rfl, SqL.of (sx_same S1 _ _ ha), rfl, _, _, rfl, _, _, rfl, rfl, n R1 H1 _ _ (sx_asg (sx_push (d := y) (sx_asg (sx_push (d := x) (sx_pop S1) r1) i) r2) j) k2⟩) xk
end
end TB
namespace TB
open PySem PySem.Spec PyProof.Rows L2
section
variable {X : Cx} {CX : CXT} {k n : Nat} {f : Addr} {fd : FuncData} {ps : List Str} {nm : Str} {sp : Sp} {E : XK} {x : Str} {p pos : Pos} {e : Expr} {es : List Expr} {kws : List Keyword} {t tk : TA} {g : List Value → List Value → List Value} {gV : List V → List V → List V}
/-- f(e, .., k = v), one keyword -/
theorem pe_callN1 (F : FnOk X.prog X.w X.K X.mg X.base CX k f fd ps sp) (hr : Room k X.A) (hg : Gl X x) (hm : X.mg x = some (.ref f)) (hk : PySem.W.keepIn X.K (.ref f) = true) (hb : KBn X.K fd ps n [nm] g gV) (hx : Passes CX X E)
    (ha : PA X (e :: es) t) (hkw : PK X kws tk) (hall : (backToKw pos (keywordEach kws X.env)).all (·.1.isSome) = true := by rfl) (hks : (backToKw pos (keywordEach kws X.env)).filterMap (·.1) = [nm] := by rfl)
    (hdb : (x == ("__debug__" : Str)) = false := by decide) (he : starEach (e :: es) X.env = (false, eval e X.env) :: starEach es X.env := by rfl)
    (hpl : ((backTo pos (starEach (e :: es) X.env)).any (·.1) || (backToKw pos (keywordEach kws X.env)).any (·.1.isNone)) = false := by rfl) :
    PE X (.Call (.Name x p) (e :: es) kws pos) (tCallN n 1 sp gV E t tk) := pe_callN F hr hg hm hk hb hx ha hkw hall hks hdb he hpl
end
end TB

/-! TbLcm: the turns of a group. -/
namespace TB
open PySem
structure IsLcm (t : Tbl) (e : Int) (n : Int) (L : Nat) : Prop where
  pos : 1 ≤ L
  all : ∀ a d, InT t a → a < n → IsOrd t e a d → d ∣ L
  low : ∀ M, (∀ a d, InT t a → a < n → IsOrd t e a d → d ∣ M) → L ∣ M
theorem isLcm_one {t : Tbl} {e n : Int} {L M : Nat} (h : IsLcm t e n L) (h' : IsLcm t e n M) : L = M := Nat.dvd_antisymm (h.low _ h'.all) (h'.low _ h.all)
theorem isLcm_le {t : Tbl} {e n : Int} {L : Nat} (hG : GTbl t e) (h : IsLcm t e n L) : L ≤ t.length := Nat.le_of_dvd (by have := hG.sz.1; omega) (h.low _ fun a d ha _ hd => ord_dvd hG ha hd)
theorem isLcm_step {t : Tbl} {e n : Int} {L d : Nat} (hn : InT t n) (h : IsLcm t e n L) (hd : IsOrd t e n d) : IsLcm t e (n + 1) (L / Nat.gcd L d * d) := by
  have e1 : L / Nat.gcd L d * d = Nat.lcm L d := by
    unfold Nat.lcm
    exact Nat.div_mul_right_comm (Nat.gcd_dvd_left L d) d
  rw [e1]
  refine ⟨Nat.lcm_pos h.pos hd.pos, fun a d' ha hlt hd' => ?_, fun M hM => Nat.lcm_dvd (h.low M fun a d' ha hlt hd' => hM a d' ha (by omega) hd') (hM n d hn (by omega) hd)⟩
  by_cases q : a < n
  · exact Nat.dvd_trans (h.all a d' ha q hd') (Nat.dvd_lcm_left L d)
  · have : a = n := by omega
    subst this
    rw [ord_one hd' hd]
    exact Nat.dvd_lcm_right L d
theorem isLcm_zero {t : Tbl} {e : Int} : IsLcm t e 0 1 := ⟨Nat.le_refl _, fun a d ha h => by have := ha.1; omega, fun M _ => Nat.one_dvd M⟩
theorem lcm_pw {t : Tbl} {e : Int} {L : Nat} (hG : GTbl t e) (hL : IsLcm t e t.length L) {a : Int} (ha : InT t a) : pw t e a L = e := by
  obtain ⟨d, hd, _⟩ := ex_ord hG ha
  obtain ⟨k, rfl⟩ := hL.all a d ha ha.2 hd
  exact pw_mul hG ha hd.one k
theorem ord_of_pw {t : Tbl} {e : Int} (hG : GTbl t e) {a : Int} (ha : InT t a) {d k : Nat} (hd : IsOrd t e a d) (h : pw t e a k = e) : d ∣ k := by
  have h1 := pw_mod hG ha hd.one k
  rw [h] at h1
  refine Nat.dvd_of_mod_eq_zero ?_
  by_cases c : k % d = 0
  · exact c
  · exact absurd h1 (hd.low _ (by omega) (Nat.mod_lt _ hd.pos))
theorem lcm_dvd {t : Tbl} {e : Int} {L k : Nat} (hG : GTbl t e) (hL : IsLcm t e t.length L) (h : ∀ a, InT t a → pw t e a k = e) : L ∣ k :=
  hL.low k fun a d ha _ hd => ord_of_pw hG ha hd (h a ha)
theorem ex_lcm {t : Tbl} {e : Int} (hG : GTbl t e) : ∃ L, IsLcm t e t.length L := by
  obtain ⟨L, ⟨l1, l2⟩, l3⟩ := least (p := fun M => 1 ≤ M ∧ ∀ a d, InT t a → IsOrd t e a d → d ∣ M) ⟨t.length, hG.sz.1, fun a d ha hd => ord_dvd hG ha hd⟩
  refine ⟨L, l1, fun a d ha _ hd => l2 a d ha hd, fun M hM => ?_⟩
  have hlt := Nat.mod_lt M l1
  by_cases q : M % L = 0
  · exact Nat.dvd_of_mod_eq_zero q
  · exact absurd ⟨by omega, fun a d ha hd => (Nat.dvd_mod_iff (l2 a d ha hd)).mpr (hM a d ha ha.2 hd)⟩ (l3 (M % L) hlt)
end TB

/-! TbOne: one-row ways of parts. -/
namespace TB
open PySem
/-- the first two things of which f holds -/
def fbk (P : List Int) (f : Int → Int → Bool) : Option (Int × Int) := P.findSome? fun a => (P.find? fun b => f a b).map fun b => (a, b)
theorem fbk_none {P : List Int} {f : Int → Int → Bool} (h : ∀ a ∈ P, ∀ b ∈ P, f a b = false) : fbk P f = none := by
  unfold fbk
  rw [List.findSome?_eq_none_iff]
  intro a ha
  rw [find_none fun b hb => h a ha b hb]
  rfl
theorem fbk_some {P : List Int} {f : Int → Int → Bool} {i j : Nat} (hi : i < P.length) (hj : j < P.length) (h1 : ∀ a ∈ P.take i, ∀ b ∈ P, f a b = false) (h2 : ∀ b ∈ P.take j, f P[i] b = false) (h3 : f P[i] P[j] = true) : fbk P f = some (P[i], P[j]) := by
  have key : ∀ (F : Int → Option (Int × Int)) (y : Int × Int), (∀ a ∈ P.take i, F a = none) → F P[i] = some y → P.findSome? F = some y := fun F y a b => by
    have eP : P = P.take i ++ P[i] :: P.drop (i + 1) := by
      conv => lhs; rw [← List.take_append_drop i P, List.drop_eq_getElem_cons hi]
    have : (P.take i ++ P[i] :: P.drop (i + 1)).findSome? F = some y := by
      rw [List.findSome?_append, List.findSome?_eq_none_iff.mpr a, Option.none_or, List.findSome?_cons, b]
    rw [← eP] at this
    exact this
  have key2 : ∀ Q : Int → Bool, (∀ x ∈ P.take j, Q x = false) → Q P[j] = true → P.find? Q = some P[j] := fun Q a b => by
    have eP : P = P.take j ++ P[j] :: P.drop (j + 1) := by
      conv => lhs; rw [← List.take_append_drop j P, List.drop_eq_getElem_cons hj]
    have : (P.take j ++ P[j] :: P.drop (j + 1)).find? Q = some P[j] := by
      rw [List.find?_append, find_none a, Option.none_or, List.find?_cons, b]
    rw [← eP] at this
    exact this
  refine key _ _ (fun a ha => ?_) ?_
  · rw [find_none fun b hb => h1 a ha b hb]; rfl
  · rw [key2 _ h2 h3]; rfl
theorem fbk_isNone {P : List Int} {f : Int → Int → Bool} : fbk P f = none ↔ ∀ a ∈ P, ∀ b ∈ P, f a b = false := by
  refine ⟨fun h a ha b hb => ?_, fbk_none⟩
  unfold fbk at h
  rw [List.findSome?_eq_none_iff] at h
  have h := h a ha
  rw [Option.map_eq_none_iff, List.find?_eq_none] at h
  simpa using h b hb
/-- the mark of a thing -/
def mk (P M : List Int) (x : Int) : Int := gt M (ix P x : Int)
def brkF (t : Tbl) (P M : List Int) (m : Int) : Option (Int × Int) := fbk P fun a b => !decide (mk P M (en t a b) = (mk P M a + mk P M b) % m)
def MarksOk (P M : List Int) (m : Int) : Prop := M.length = P.length ∧ ∀ x ∈ M, 0 ≤ x ∧ x < m
theorem mk_in {P M : List Int} {m : Int} (h : MarksOk P M m) {x : Int} (hx : x ∈ P) : 0 ≤ mk P M x ∧ mk P M x < m := by
  have := ix_lt hx
  exact h.2 _ (gt_mem (by omega) (by rw [h.1]; omega))
theorem mk_at {P M : List Int} (nd : P.Nodup) {i : Int} (h0 : 0 ≤ i) (h1 : i < P.length) : mk P M (gt P i) = gt M i := by
  unfold mk
  rw [ix_gt nd h0 h1]
end TB

/-! TbPl: own lists of two things of different make. -/
namespace TB
open PySem PySem.Spec PyProof.Rows L2
def Pl (s1 s2 : Sl) : Own := ⟨fun Z R h v => ∃ (a : Addr) (x y : V) (f1 f2 : List Addr), v = .ref a ∧ (a :: (f1 ++ f2)).Nodup ∧ h a = some (.lst [x, y]) ∧ slok Z R h (some x) s1 f1 ∧ slok Z R h (some y) s2 f2,
  fun e h => by
    obtain ⟨a, x, y, f1, f2, h1, h2, h3, h4, h5⟩ := h
    exact ⟨a, x, y, f1, f2, h1, h2, h3, slok_mono e (fun _ _ => rfl) h4, slok_mono e (fun _ _ => rfl) h5⟩⟩
abbrev Sl.pl (s1 s2 : Sl) : Sl := .ow (Pl s1 s2)
theorem val_pl {s1 s2 : Sl} : Val (.pl s1 s2) := val_ow
section
variable {Z : Zz} {B R0 R R' H H' : Hp} {τ ρ σ : List (Option V)} {Θ Δ Γ : List Sl} {s s' s1 s2 : Sl} {o : Option V} {f g own : List Addr}
theorem slok_pl {a : Addr} {x y : V} {f1 f2 : List Addr} (nd : (a :: (f1 ++ f2)).Nodup) (h : H a = some (.lst [x, y])) (h1 : slok Z R H (some x) s1 f1) (h2 : slok Z R H (some y) s2 f2) : slok Z R H (some (.ref a)) (.pl s1 s2) (a :: (f1 ++ f2)) := by
  refine ⟨.ref a, rfl, ⟨a, x, y, f1, f2, rfl, nd, by rw [res_in (by simp)]; exact h, slok_mono (Same.refl _) (fun p hp => res_in (by simp [hp])) h1, slok_mono (Same.refl _) (fun p hp => res_in (by simp [hp])) h2⟩, fun p hp => ?_⟩
  rcases List.mem_cons.mp hp with q | q
  · rw [q, h]; simp
  · rcases List.mem_append.mp q with q | q
    · exact slok_some h1 p q
    · exact slok_some h2 p q
theorem slok_pl' (h : slok Z R H o (.pl s1 s2) f) : ∃ (a : Addr) (x y : V) (f1 f2 : List Addr), o = some (.ref a) ∧ (a :: (f1 ++ f2)).Nodup ∧ (∀ p ∈ a :: (f1 ++ f2), p ∈ f) ∧ H a = some (.lst [x, y]) ∧ slok Z R H (some x) s1 f1 ∧ slok Z R H (some y) s2 f2 := by
  obtain ⟨v, rfl, ⟨a, x, y, f1, f2, rfl, nd, h1, h2, h3⟩, h4⟩ := h
  have k : ∀ p, res H f p ≠ none → p ∈ f ∧ H p = res H f p := fun p hp => by
    by_cases c : p ∈ f
    · exact ⟨c, (res_in c).symm⟩
    · exact absurd (by unfold res; rw [if_neg c]) hp
  have ka := k a (by rw [h1]; simp)
  refine ⟨a, x, y, f1, f2, rfl, nd, fun p hp => ?_, by rw [ka.2]; exact h1, slok_mono (Same.refl _) (fun p hp => (k p (slok_some h2 p hp)).2) h2, slok_mono (Same.refl _) (fun p hp => (k p (slok_some h3 p hp)).2) h3⟩
  rcases List.mem_cons.mp hp with q | q
  · rw [q]; exact ka.1
  · rcases List.mem_append.mp q with q | q
    · exact (k p (slok_some h2 p q)).1
    · exact (k p (slok_some h3 p q)).1
theorem det_pl (h1 : Det s1) (h2 : Det s2) : Det (.pl s1 s2) := fun Z R R' H o f h => by
  obtain ⟨v, e, ⟨a, x, y, f1, f2, e1, nd, ha, k1, k2⟩, h4⟩ := h
  exact ⟨v, e, ⟨a, x, y, f1, f2, e1, nd, ha, h1 _ _ _ _ _ _ k1, h2 _ _ _ _ _ _ k2⟩, h4⟩
/-- a list of two is taken apart -/
theorem sx_unpl {v : V} (S : Sx Z B R0 R H (some v :: ρ) (.pl s1 s2 :: Δ) σ Γ) : ∃ (a : Addr) (x y : V), v = .ref a ∧ H a = some (.lst [x, y]) ∧ Sx Z B R0 R H (some x :: some y :: ρ) (s1 :: s2 :: Δ) σ Γ := by
  obtain ⟨hl, own, hs, f, g, rfl, h1, es⟩ := S
  obtain ⟨a, x, y, f1, f2, e, nd, sub, ha, k1, k2⟩ := slok_pl' h1
  cases e
  have ndo := hs.nd
  refine ⟨a, x, y, rfl, ha, by simpa using hl, f1 ++ (f2 ++ g), hs_sub hs (fun p hp => ?_) ?_, f1, f2 ++ g, rfl, k1, f2, g, rfl, k2, es⟩
  · simp only [List.mem_append] at hp ⊢
    rcases hp with q | q | q
    · exact .inl (sub p (by simp [q]))
    · exact .inl (sub p (by simp [q]))
    · exact .inr q
  · simp only [List.nodup_append, List.nodup_cons, List.mem_append] at nd ndo ⊢
    refine ⟨nd.2.1, ⟨nd.2.2.1, ndo.2.1, fun p hp q hq z => ndo.2.2 p (sub p (by simp [hp])) q hq z⟩, fun p hp q hq z => ?_⟩
    rcases hq with r | r
    · exact nd.2.2.2 p hp q r z
    · exact ndo.2.2 p (sub p (by simp [hp])) q r z
/-- the two things on top make a list of two -/
theorem sx_mkpl {p : Addr} {x y : V} (S : Sx Z B R0 R H (some x :: some y :: ρ) (s1 :: s2 :: Δ) σ Γ) (np : H p = none) : Sx Z B R0 R (upd H p (.lst [x, y])) (some (.ref p) :: ρ) (.pl s1 s2 :: Δ) σ Γ := by
  obtain ⟨hl, own, hs, f1, g1, rfl, h1, f2, g2, rfl, h2, es⟩ := S
  have fp := fresh_own hs (Z := Z) (τ := some x :: some y :: (ρ ++ σ)) (Θ := s1 :: s2 :: (Δ ++ Γ)) ⟨f1, _, rfl, h1, f2, g2, rfl, h2, es⟩ np
  have nd := hs.nd
  have ne : ∀ q, q ∈ f1 ++ (f2 ++ g2) → q ≠ p := fun q hq z => fp.2.2 (z ▸ hq)
  have ndp : (p :: (f1 ++ f2)).Nodup := by
    have q := fp.2.2
    simp only [List.nodup_cons, List.nodup_append, List.mem_append] at nd q ⊢
    grind
  refine ⟨by simpa using hl, (p :: (f1 ++ f2)) ++ g2, ⟨hs.rh.trans (same_upd np), hs.bh.trans (same_upd np), hs.r0, hs.nw, fun b hb => ?_, ?_⟩, p :: (f1 ++ f2), g2, rfl, slok_pl ndp upd_same (slok_mono (Same.refl _) (fun b hb => upd_ne (ne b (by simp [hb]))) h1) (slok_mono (Same.refl _) (fun b hb => upd_ne (ne b (by simp [hb]))) h2), es_mono (Same.refl _) (fun b hb => upd_ne (ne b (by simp [hb]))) es⟩
  · simp only [List.cons_append, List.mem_cons, List.mem_append] at hb
    rcases hb with rfl | hb
    · exact ⟨fp.1, fp.2.1⟩
    · exact hs.ow b (by simp only [List.mem_append]; grind)
  · have q := fp.2.2
    simp only [List.cons_append, List.nodup_cons, List.nodup_append, List.mem_append] at nd q ⊢
    grind
end
section
variable {c : Cn} {Γ Γ1 Γ2 : List Sl} {ta tb te tl : TE} {t u : TS} {s s1 s2 : Sl} {α β : Type} {_ : Rp α} {_ : Rp β} {P : Po} {d : α}
theorem em_pl (h1 : EvM c Γ ta s1 Γ1) (h2 : EvM c Γ1 tb s2 Γ2) : EvM c Γ (tLst (tCons ta (tCons tb tNil))) (.pl s1 s2) Γ2 := fun B R0 R H ρ Δ σ S Q q xk =>
  h1 B R0 R H ρ Δ σ S _ (fun x R1 H1 S1 => h2 B R0 R1 H1 _ _ σ S1 _ (fun y R2 H2 S2 => ⟨by show 2 ≤ sizeLine; decide, fun p np => q _ R2 _ (sx_mkpl (sx_swapTop S2) np)⟩) xk.push1) xk
/-- its first thing, where that is told -/
theorem ev_plIx1 {i : Nat} (e : Γ[i]? = some (.pl (.im d) s2)) : Ev c Γ (tOp (gIx c.Z.K) (tVar i) (tC (.int 0))) (.im d) := fun B R0 R H ρ Δ σ S Q q _ => by
  obtain ⟨o, f, h1, h2⟩ := sx_slot S e
  obtain ⟨a, x, y, f1, f2, rfl, _, _, h3, h4, _⟩ := slok_pl' h2
  obtain ⟨_, v, ev, rv⟩ := h4
  cases ev
  exact ⟨.ref a, h1, .inl ⟨a, [x, y], 0, x, rfl, rfl, SqL.of h3, rfl, q x R H (sx_push S rv)⟩⟩
/-- p[1][i] = y -/
theorem w_putPl2 {k : Nat} {xs : List α} {y : α} {j : Int} (e : Γ[k]? = some (.pl s1 (.ol xs))) (h : Ev c Γ te (.im y)) (hj : EvP c Γ tb j) (h2 : 0 ≤ j) (h3 : j < xs.length)
    (kk : P.nx (Γ.set k (.pl s1 (.ol (xs.set j.toNat y))))) : W c Γ (tAsg te (gSub (tOp (gIx c.Z.K) (tVar k) (tC (.int 1))) tb gSet)) P := fun B R0 R H ρ Δ σ D S n r bb kk' x =>
  h B R0 R H ρ Δ σ S _ (fun w R1 H1 S1 => by
    have ew := sx_top' S1
    have S3 := sx_pop S1
    obtain ⟨o, f, g1, g2, g3, g4⟩ := sx_own S3 e
    obtain ⟨a, x1, y1, f1, f2, rfl, nd, sub, ha, k1, p, vs, rfl, ey, hp, hv⟩ := slok_pl' g2
    cases ey
    refine ⟨.ref a, g1, .inl ⟨a, [x1, .ref p], 1, .ref p, rfl, rfl, SqL.of ha, rfl, ?_⟩⟩
    refine hj B R0 R1 H1 _ _ σ S1 _ fun z2 ez2 => .inl ?_
    simp only [List.nodup_cons, List.mem_append, List.mem_singleton, not_or, List.nodup_append] at nd
    have nap : a ≠ p := nd.1.2
    have n1 : ∀ q ∈ f1, q ≠ p := fun q hq => nd.2.2.2 q hq p rfl
    have nd2 : (a :: (f1 ++ [p])).Nodup := by
      simp only [List.nodup_cons, List.mem_append, List.mem_singleton, not_or, List.nodup_append]
      exact nd
    have hq : slok c.Z R1 (upd H1 p (.lst (vs.set j.toNat w))) (some (.ref p)) (.ol (xs.set j.toNat y)) [p] := ⟨p, _, rfl, rfl, upd_same, paired_set ew _ hv⟩
    have hp2 : slok c.Z R1 (upd H1 p (.lst (vs.set j.toNat w))) (some (.ref a)) (.pl s1 (.ol (xs.set j.toNat y))) (a :: (f1 ++ [p])) := slok_pl nd2 (by rw [upd_ne nap]; exact ha) (slok_mono (Same.refl _) (fun q hq => upd_ne (n1 q hq)) k1) hq
    exact ⟨p, vs, j, j.toNat, rfl, ez2, hp, ixN_of h2 (by rw [Paired.length hv]; exact h3), n R1 _ _ _ (g4 _ _ _ (fun q hq => upd_ne fun z => hq (sub q (by simp [z]))) nd2 sub hp2) kk⟩) x
/-- told as data when frozen -/
theorem lnd_pl {xs ys : List α} : Lnd (.pl (.im xs) (.ol ys)) [xs, ys] := fun Z R H o f sm h => by
  obtain ⟨a, x, y, f1, f2, rfl, nd, sub, ha, ⟨_, v, ev, rv⟩, p, vs, rfl, ey, hp, hv⟩ := slok_pl' h
  cases ev
  cases ey
  exact ⟨_, rfl, a, _, rfl, frz_in sm (sub a (by simp)) ha, .cons (Rp.mono frz_same rv) (.cons ⟨p, vs, rfl, frz_in sm (sub p (by simp)) hp, paired_mono (fun _ _ => Rp.mono frz_same) hv⟩ .nil)⟩
end
end TB

/-! TbSr: rows sorted as Python sorts lists; own tables put together. -/
namespace TB
open PySem PySem.Spec PyProof.Rows L2 PySem.W
/-- sorted, a list of rows of ints -/
def rSortedR (K : PySem.W.Frag) : List V → Hp → VK → Prop := fun vs H Q => ∃ (a : Addr) (ys : List (V × List Int)), vs = [V.ref a] ∧ SqL K H a (ys.map (·.1)) ∧ (∀ y ∈ ys, Dp K H y.1 (.list (y.2.map .int))) ∧
  ∀ p : Addr, H p = none → Q (.ref p) (upd H p (.lst ((ys.mergeSort fun x y => decide (x.2 ≤ y.2)).map (·.1))))
theorem each_of_vals {X : Cx} {pins : List (Addr × Obj)} {σ : L2.St} {H : Hp} {s : Shared} (I : Inv X pins σ H s) : ∀ {ys : List (V × List Int)} {us : List Value}, Vals (ys.map (·.1)) us → (∀ y ∈ ys, Dp X.K H y.1 (.list (y.2.map .int))) →
    EachIs (fun (v : Value) (b : V × List Int) => RelV b.1 v) us ys ∧ EachIs (fun (v : Value) (b : V × List Int) => ∃ as, Reads s.heap v (.list (b.2.map .int)) as) us ys
  | [], _, .nil, _ => ⟨.nil, .nil⟩
  | y :: ys, _, .cons r t, h => by
    obtain ⟨h1, h2⟩ := each_of_vals I t fun z hz => h z (List.mem_cons_of_mem _ hz)
    exact ⟨.cons r h1, .cons (Dp.reads I _ _ _ (h y List.mem_cons_self) r) h2⟩
theorem vals_of_each : ∀ {us : List Value} {ys : List (V × List Int)}, EachIs (fun (v : Value) (b : V × List Int) => RelV b.1 v) us ys → Vals (ys.map (·.1)) us
  | _, _, .nil => .nil
  | _, _, .cons r t => .cons r (vals_of_each t)
theorem cr_sortedR {X : Cx} (hu : X.A.units + 64 < cLine) : CallR X (.builtin "sorted") (rSortedR X.K) := by
  intro pins s σ H vs us Q I r h
  obtain ⟨a, ys, rfl, hs, hd, q⟩ := h
  obtain ⟨its, rv, hl, hz⟩ := I.list hs
  rw [Vals.ref1 r]
  obtain ⟨e, er⟩ := each_of_vals I rv hd
  have dep : ∀ l : List Int, PyData.depth (.list (l.map .int)) ≤ 1 := fun l => by
    rw [PyData.depth, depth_ints]
    decide
  refine sorted_data (enc := fun b : V × List Int => PyData.list (b.2.map .int)) hl.isList e er (AllAlike.of fun b b' => by rw [alike]; exact alike_ints _ _) (Sortable.others fun b => ⟨(fun z => nomatch z), (fun xs z => nomatch z)⟩) (by rw [List.length_map] at hz; exact hz) (fun b _ => Nat.lt_of_le_of_lt (Nat.add_le_add_left (dep b.2) _) (by omega)) fun out hlen ho => ?_
  rw [dataLe_rows (fun b : V × List Int => b.2)] at ho
  obtain ⟨ep, he'⟩ := PyProof.Rows.sortedAll_at s.heap its out.toArray
  exact ⟨.ref _, upd H (s.heap.objs.size + 1) (.lst ((ys.mergeSort fun x y => decide (x.2 ≤ y.2)).map (·.1))), I.laid (t' := s.toks) (fun _ _ => PyProof.Rows.sortedAll_old) (Nat.le_succ _) ⟨by rw [List.length_map, List.length_mergeSort]; rw [List.length_map] at hz; exact hz, out, ep, vals_of_each ho, he'⟩, rfl, q _ (I.hok.fresh (Nat.le_succ _))⟩
def lsort (xss : List (List Int)) : List (List Int) := xss.mergeSort fun x y => decide (x ≤ y)
theorem lsort_perm (xss : List (List Int)) : (lsort xss).Perm xss := List.mergeSort_perm _ _
theorem lsort_sorted (xss : List (List Int)) : (lsort xss).Pairwise (· ≤ ·) := by
  have h := List.pairwise_mergeSort (le := fun x y : List Int => decide (x ≤ y)) (fun a b c h1 h2 => decide_eq_true (List.le_trans (of_decide_eq_true h1) (of_decide_eq_true h2))) (fun a b => by
    rcases List.le_total a b with h | h
    · simp [h]
    · simp [h]) xss
  exact h.imp fun h => of_decide_eq_true h
section
variable {c : Cn} {Γ : List Sl} {ta tb te : TE} {t u : TS} {s so : Sl} {α : Type} {_ : Rp α} {P : Po}
theorem map_sort {γ δ : Type} (f : γ → δ) (r : γ → List Int) (r' : δ → List Int) (h : ∀ x, r' (f x) = r x) (l : List γ) : (l.mergeSort fun x y => decide (r x ≤ r y)).map f = (l.map f).mergeSort fun x y => decide (r' x ≤ r' y) :=
  List.map_mergeSort fun a _ b _ => by rw [h, h]
theorem zip_fst {γ δ ε : Type} {F : γ → δ → Prop} {g : γ → ε} : ∀ {qs : List γ} {xs : List δ}, Paired F qs xs → ((qs.zip xs).map fun p => g p.1) = qs.map g
  | _, _, .nil => rfl
  | _, _, .cons r t => by rw [List.zip_cons_cons, List.map_cons, List.map_cons, zip_fst t]
theorem zip_snd {γ δ : Type} {F : γ → δ → Prop} : ∀ {qs : List γ} {xs : List δ}, Paired F qs xs → ((qs.zip xs).map fun p => p.2) = xs
  | _, _, .nil => rfl
  | _, _, .cons r t => by rw [List.zip_cons_cons, List.map_cons, zip_snd t]
theorem zip_mem {γ δ : Type} {F : γ → δ → Prop} : ∀ {qs : List γ} {xs : List δ}, Paired F qs xs → ∀ p ∈ qs.zip xs, F p.1 p.2
  | _, _, .nil, p, hp => by simp at hp
  | _, _, .cons r t, p, hp => by
    rw [List.zip_cons_cons] at hp
    rcases List.mem_cons.mp hp with e | e
    · rw [e]; exact r
    · exact zip_mem t p e
theorem paired_of_mem {γ δ : Type} {F : γ → δ → Prop} : ∀ {ps : List (γ × δ)}, (∀ p ∈ ps, F p.1 p.2) → Paired F (ps.map (·.1)) (ps.map (·.2))
  | [], _ => .nil
  | p :: ps, h => .cons (h p List.mem_cons_self) (paired_of_mem fun q hq => h q (List.mem_cons_of_mem _ hq))
theorem sx_sortTop {Z : Zz} {B R0 R H : Hp} {ρ σ : List (Option V)} {Δ : List Sl} {p b : Addr} {xss : List (List Int)} {qs : List Addr} (S : Sx Z B R0 R H ρ Δ σ Γ) {i : Nat} (e : Γ[i]? = some (.o2 xss)) (np : H b = none) :
    ∃ (p : Addr) (qs : List Addr), σ[i]? = some (some (.ref p)) ∧ H p = some (.lst (qs.map V.ref)) ∧ Paired (inOk Z R H) qs xss ∧
      ∀ (qs' : List Addr) (xss' : List (List Int)), qs'.Perm qs → Paired (inOk Z R H) qs' xss' → Sx Z B R0 R (upd H b (.lst (qs'.map V.ref))) (some (.ref b) :: ρ) (.o2 xss' :: Δ) σ (Γ.set i .un) := by
  obtain ⟨hl, own, hs, es⟩ := id S
  have e' : (Δ ++ Γ)[ρ.length + i]? = some (.o2 xss) := by rw [at_slot hl]; exact e
  obtain ⟨o, g1, f, g2, h2, h3, h4, h6⟩ := es_at es e'
  obtain ⟨p, qs, rfl, rfl, h7, h8⟩ := h4
  rw [at_slot'] at h2
  refine ⟨p, qs, h2, h7, h8, fun qs' xss' pm hp => ?_⟩
  subst h3
  have fb := fresh_own hs es np
  have nd := hs.nd
  have h9 := h6 R H (some (.ref p)) .un [] (Same.refl _) (fun _ _ => rfl) rfl
  have hset : (ρ ++ σ).set (ρ.length + i) (some (.ref p)) = ρ ++ σ := by
    refine set_same ?_
    rw [at_slot']
    exact h2
  have hset2 : (Δ ++ Γ).set (ρ.length + i) .un = Δ ++ Γ.set i .un := by
    rw [hl, List.set_append_right _ _ (by omega), show Δ.length + i - Δ.length = i by omega]
  rw [hset, hset2, List.append_nil] at h9
  have sub : ∀ q, q ∈ (b :: qs') ++ (g1 ++ g2) → q = b ∨ q ∈ g1 ++ (p :: qs) ++ g2 := fun q hq => by
    simp only [List.cons_append, List.mem_cons, List.mem_append] at hq ⊢
    rcases hq with z | z | z | z
    · exact .inl z
    · exact .inr (.inl (.inr (.inr (pm.mem_iff.mp z))))
    · exact .inr (.inl (.inl z))
    · exact .inr (.inr z)
  refine ⟨by simpa using hl, (b :: qs') ++ (g1 ++ g2), ⟨hs.rh.trans (same_upd np), hs.bh.trans (same_upd np), hs.r0, hs.nw, fun q hq => ?_, ?_⟩, b :: qs', g1 ++ g2, rfl, ⟨b, qs', rfl, rfl, upd_same, ?_⟩, es_mono (Same.refl _) (fun q hq => upd_ne fun z => ?_) h9⟩
  · rcases sub q hq with z | z
    · rw [z]; exact ⟨fb.1, fb.2.1⟩
    · exact hs.ow q z
  · have q := fb.2.2
    have pn := pm.nodup_iff
    simp only [List.cons_append, List.nodup_cons, List.nodup_append, List.mem_append, List.mem_cons, not_or] at nd q ⊢
    have m : ∀ z, z ∈ qs' ↔ z ∈ qs := fun z => pm.mem_iff
    grind
  · refine paired_mono (fun q xs ⟨vs, a1, a2⟩ => ⟨vs, ?_, a2⟩) hp
    rw [upd_ne fun z => by rw [z, np] at a1; cases a1]
    exact a1
  · apply fb.2.2
    rw [← z]
    simp only [List.mem_append, List.mem_cons] at hq ⊢
    rcases hq with z | z
    · exact .inl (.inl z)
    · exact .inr z
/-- sorted(table), the rows handed over -/
theorem em_sortedR {xss : List (List Int)} {i : Nat} (e : Γ[i]? = some (.o2 xss)) : EvM c Γ (tCB (rSortedR c.Z.K) (tCons (tVar i) tNil)) (.o2 (lsort xss)) (Γ.set i .un) := fun B R0 R H ρ Δ σ S Q q xk => by
  obtain ⟨p, qs, h2, h3, h4, _⟩ := sx_mut2 S e
  refine ⟨.ref p, h2, p, (qs.zip xss).map fun x => (V.ref x.1, x.2), rfl, ?_, fun y hy => ?_, fun b np => ?_⟩
  · rw [List.map_map]
    show SqL _ _ _ ((qs.zip xss).map fun x => V.ref x.1)
    rw [zip_fst h4]
    exact SqL.of h3
  · obtain ⟨x, hx, rfl⟩ := List.mem_map.mp hy
    obtain ⟨vs, h5, h6⟩ := zip_mem h4 x hx
    rw [paired_map_int h6] at h5
    refine Dp.lst (SqL.of h5) ?_
    generalize x.2 = l
    induction l with
    | nil => exact .nil
    | cons a l ih => exact .cons (.int a) ih
  · obtain ⟨p', qs', k1, k2, k3, k4⟩ := sx_sortTop (p := p) (qs := qs) S e np
    rw [h2] at k1
    cases k1
    have eq : qs' = qs := by
      rw [h3] at k2
      have : qs.map V.ref = qs'.map V.ref := by injection k2 with k2; injection k2
      exact ((List.map_inj_right (f := V.ref) fun a b h => by cases h; rfl).mp this).symm
    subst eq
    have e1 : (((qs'.zip xss).map fun x => (V.ref x.1, x.2)).mergeSort fun x y => decide (x.2 ≤ y.2)) = ((qs'.zip xss).mergeSort fun x y => decide (x.2 ≤ y.2)).map fun x => (V.ref x.1, x.2) := (map_sort (fun x : Addr × List Int => (V.ref x.1, x.2)) (fun x => x.2) (fun x => x.2) (fun _ => rfl) _).symm
    rw [e1, List.map_map]
    have e2 : ((qs'.zip xss).mergeSort fun x y => decide (x.2 ≤ y.2)).map (·.2) = lsort xss := by
      rw [map_sort (fun x : Addr × List Int => x.2) (fun x => x.2) id (fun _ => rfl), zip_snd h4]
      rfl
    have e3 : (((qs'.zip xss).mergeSort fun x y => decide (x.2 ≤ y.2)).map (·.1)).Perm qs' := by
      have := (List.mergeSort_perm (qs'.zip xss) fun x y => decide (x.2 ≤ y.2)).map (·.1)
      rw [zip_fst (g := fun q : Addr => q) h4, List.map_id'] at this
      exact this
    have := k4 _ _ e3 (paired_of_mem fun x hx => zip_mem h4 x ((List.mergeSort_perm _ _).mem_iff.mp hx))
    rw [e2, List.map_map] at this
    exact q _ R _ this
theorem sx_cat2 {Z : Zz} {B R0 R H : Hp} {ρ σ : List (Option V)} {Δ : List Sl} {o1 o2 : Option V} {xs ys : List (List α)} (S : Sx Z B R0 R H (o2 :: o1 :: ρ) (.o2 ys :: .o2 xs :: Δ) σ Γ) :
    ∃ (p1 p2 : Addr) (q1 q2 : List Addr), o1 = some (.ref p1) ∧ o2 = some (.ref p2) ∧ H p1 = some (.lst (q1.map V.ref)) ∧ H p2 = some (.lst (q2.map V.ref)) ∧ q1.length = xs.length ∧ q2.length = ys.length ∧
      ∀ b, H b = none → Sx Z B R0 R (upd H b (.lst (q1.map V.ref ++ q2.map V.ref))) (some (.ref b) :: ρ) (.o2 (xs ++ ys) :: Δ) σ Γ := by
  obtain ⟨hl, own, hs, f1, g1, rfl, ⟨p2, q2, rfl, e2, h2, r2⟩, f2, g2, rfl, ⟨p1, q1, rfl, e1, h1, r1⟩, es⟩ := id S
  subst e1 e2
  refine ⟨p1, p2, q1, q2, rfl, rfl, h1, h2, Paired.length r1, Paired.length r2, fun b np => ?_⟩
  have fb := fresh_own hs (Z := Z) (τ := some (.ref p2) :: some (.ref p1) :: (ρ ++ σ)) (Θ := .o2 ys :: .o2 xs :: (Δ ++ Γ)) ⟨p2 :: q2, _, rfl, ⟨p2, q2, rfl, rfl, h2, r2⟩, p1 :: q1, g2, rfl, ⟨p1, q1, rfl, rfl, h1, r1⟩, es⟩ np
  have nd := hs.nd
  have q := fb.2.2
  refine ⟨by simpa using hl, (b :: (q1 ++ q2)) ++ g2, ⟨hs.rh.trans (same_upd np), hs.bh.trans (same_upd np), hs.r0, hs.nw, fun z hz => ?_, ?_⟩, b :: (q1 ++ q2), g2, rfl, ⟨b, q1 ++ q2, rfl, rfl, by rw [upd_same, List.map_append], ?_⟩, es_mono (Same.refl _) (fun z hz => upd_ne fun w => ?_) es⟩
  · simp only [List.cons_append, List.mem_cons, List.mem_append] at hz
    rcases hz with rfl | (hz | hz) | hz
    · exact ⟨fb.1, fb.2.1⟩
    · exact hs.ow _ (by simp [hz])
    · exact hs.ow _ (by simp [hz])
    · exact hs.ow _ (by simp [hz])
  · simp only [List.cons_append, List.nodup_cons, List.nodup_append, List.mem_append, List.mem_cons, not_or] at nd q ⊢
    grind
  · refine paired_append (paired_mono (fun z zs ⟨vs, a1, a2⟩ => ⟨vs, ?_, a2⟩) r1) (paired_mono (fun z zs ⟨vs, a1, a2⟩ => ⟨vs, ?_, a2⟩) r2)
    · rw [upd_ne fun z => by rw [z, np] at a1; cases a1]
      exact a1
    · rw [upd_ne fun z => by rw [z, np] at a1; cases a1]
      exact a1
  · apply q
    rw [← w]
    simp [hz]
/-- two own tables put together, both handed over -/
theorem em_cat2 {xs ys : List (List α)} {i j : Nat} (hij : i ≠ j) (e1 : Γ[i]? = some (.o2 xs)) (e2 : Γ[j]? = some (.o2 ys)) (hl : xs.length + ys.length < 1000000) : EvM c Γ (tOp gAdd (tVar i) (tVar j)) (.o2 (xs ++ ys)) ((Γ.set i .un).set j .un) := fun B R0 R H ρ Δ σ S Q q xk => by
  obtain ⟨o1, k1, S1⟩ := sx_take S e1
  obtain ⟨o2, k2, S2⟩ := sx_take S1 (i := j) (s := .o2 ys) (by rw [List.getElem?_set_ne hij]; exact e2)
  obtain ⟨a1, a2, w1, w2, rfl, rfl, hh1, hh2, l1, l2, k⟩ := sx_cat2 S2
  exact ⟨.ref a1, k1, .ref a2, k2, .inr ⟨a1, a2, w1.map V.ref, w2.map V.ref, rfl, rfl, hh1, hh2, Nat.le_trans (by rw [List.length_map, List.length_map]; omega : (w1.map V.ref).length + (w2.map V.ref).length ≤ 1000000) (by decide), fun b np => q _ R _ (k b np)⟩⟩
end
end TB

/-! TbTk: one-row ways taken on to one thing more. -/
namespace TB
open PySem
section
variable {t : Tbl} {e : Int}
/-- a thing is put together k times, to lie in P -/
structure Stp (t : Tbl) (e : Int) (P : List Int) (x : Int) (k : Nat) : Prop where
  pos : 1 ≤ k
  fin : pw t e x k ∈ P
  low : ∀ j, 0 < j → j < k → pw t e x j ∉ P
theorem stp_ex (h : GTbl t e) {P : List Int} (he : e ∈ P) {x : Int} (hx : InT t x) : ∃ k, Stp t e P x k ∧ k ≤ t.length := by
  obtain ⟨d, hd, hl⟩ := ex_ord h hx
  obtain ⟨k, ⟨k1, k2⟩, k3⟩ := least (p := fun k => 1 ≤ k ∧ pw t e x k ∈ P) ⟨d, hd.pos, by rw [hd.one]; exact he⟩
  refine ⟨k, ⟨k1, k2, fun j j0 j1 z => k3 j j1 ⟨j0, z⟩⟩, ?_⟩
  have : k ≤ d := by
    by_cases c : d < k
    · exact absurd ⟨hd.pos, by rw [hd.one]; exact he⟩ (k3 d c)
    · omega
  omega
theorem stp_one {P : List Int} {x : Int} {k k' : Nat} (h : Stp t e P x k) (h' : Stp t e P x k') : k = k' := by
  by_cases c : k < k'
  · exact absurd h.fin (h'.low k h.pos c)
  · by_cases c' : k' < k
    · exact absurd h'.fin (h.low k' h'.pos c')
    · omega
/-- the things of the greater part, each told by its carrier and its thing of P -/
def tkK (t : Tbl) (e : Int) (P : List Int) (x : Int) (k : Nat) : List Int := (List.range k).flatMap fun i => P.map fun h => en t h (pw t e x i)
def pls (t : Tbl) (e : Int) (P M : List Int) (x : Int) (k : Nat) : List (Int × (Int × Int)) := (List.range k).flatMap fun i => P.map fun h => (en t h (pw t e x i), ((i : Int), mk P M h))
theorem pls_keys (P M : List Int) (x : Int) (k : Nat) : (pls t e P M x k).map (·.1) = tkK t e P x k := by
  unfold pls tkK
  rw [List.map_flatMap]
  congr 1
  funext i
  rw [List.map_map]
  rfl
theorem pw_sub (h : GTbl t e) {x : Int} (hx : InT t x) {i j : Nat} (hij : i ≤ j) : pw t e x j = en t (pw t e x (j - i)) (pw t e x i) := by
  have := pw_add h hx (j - i) i
  rw [show j - i + i = j by omega] at this
  exact this
/-- two ways to tell a thing -/
theorem tk_uniq (h : GTbl t e) {P : List Int} (p : PartL t e P) {x : Int} (hx : InT t x) {k : Nat} (s : Stp t e P x k) {i j : Nat} (hi : i < k) (hj : j < k) {a b : Int} (ha : a ∈ P) (hb : b ∈ P) (q : en t a (pw t e x i) = en t b (pw t e x j)) : i = j ∧ a = b := by
  have main : ∀ {i j : Nat} {a b : Int}, j < k → a ∈ P → b ∈ P → i ≤ j → en t a (pw t e x i) = en t b (pw t e x j) → i = j ∧ a = b := by
    intro i j a b hj ha hb hij q
    have ia := p.pt.inn a ha
    have ib := p.pt.inn b hb
    have ii := pw_in h hx i
    have id := pw_in h hx (j - i)
    rw [pw_sub h hx hij, ← h.as ib id ii] at q
    have q2 := h.canR ii ia (h.cl ib id) q
    by_cases c : i = j
    · refine ⟨c, ?_⟩
      rw [q2, show j - i = 0 by omega]
      exact h.u2 ib
    · exfalso
      refine s.low (j - i) (by omega) (by omega) ?_
      have : en t (bkf t e b) a = pw t e x (j - i) := by
        rw [q2, ← h.as (bk_in h ib) ib id, bk_r h ib, h.u1 id]
      rw [← this]
      exact p.pt.mul _ (p.bk h hb) _ ha
  by_cases c : i ≤ j
  · exact main hj ha hb c q
  · obtain ⟨e1, e2⟩ := main hi hb ha (by omega) q.symm
    exact ⟨e1.symm, e2.symm⟩
theorem nodup_flat {α β : Type} {f : α → List β} : ∀ {l : List α}, l.Nodup → (∀ a ∈ l, (f a).Nodup) → (∀ a ∈ l, ∀ b ∈ l, ∀ z, z ∈ f a → z ∈ f b → a = b) → (l.flatMap f).Nodup
  | [], _, _, _ => by simp
  | a :: l, nd, h1, h2 => by
    obtain ⟨n1, n2⟩ := List.nodup_cons.mp nd
    rw [List.flatMap_cons, List.nodup_append]
    refine ⟨h1 a List.mem_cons_self, nodup_flat n2 (fun b hb => h1 b (List.mem_cons_of_mem _ hb)) (fun b hb c hc => h2 b (List.mem_cons_of_mem _ hb) c (List.mem_cons_of_mem _ hc)), fun z hz w hw zw => ?_⟩
    subst zw
    obtain ⟨b, hb, hzb⟩ := List.mem_flatMap.mp hw
    have := h2 a List.mem_cons_self b (List.mem_cons_of_mem _ hb) z hz hzb
    exact n1 (this ▸ hb)
theorem tkK_nd (h : GTbl t e) {P : List Int} (p : PartL t e P) {x : Int} (hx : InT t x) {k n : Nat} (s : Stp t e P x k) (hn : n ≤ k) : (tkK t e P x n).Nodup := by
  refine nodup_flat List.nodup_range (fun i hi => ?_) (fun i hi j hj z hz hz' => ?_)
  · exact nodup_map_on (fun a ha b hb q => h.canR (pw_in h hx i) (p.pt.inn a ha) (p.pt.inn b hb) q) p.pt.nd
  · obtain ⟨a, ha, rfl⟩ := List.mem_map.mp hz
    obtain ⟨b, hb, q⟩ := List.mem_map.mp hz'
    have hi := List.mem_range.mp hi
    have hj := List.mem_range.mp hj
    exact (tk_uniq h p hx s (by omega) (by omega) ha hb q.symm).1
theorem mem_tkK {P : List Int} {x : Int} {k : Nat} {a : Int} : a ∈ tkK t e P x k ↔ ∃ i, i < k ∧ ∃ b ∈ P, en t b (pw t e x i) = a := by
  unfold tkK
  rw [List.mem_flatMap]
  constructor
  · rintro ⟨i, hi, h⟩
    obtain ⟨b, hb, q⟩ := List.mem_map.mp h
    exact ⟨i, List.mem_range.mp hi, b, hb, q⟩
  · rintro ⟨i, hi, b, hb, q⟩
    exact ⟨i, List.mem_range.mpr hi, List.mem_map.mpr ⟨b, hb, q⟩⟩
theorem tkK_len {P : List Int} {x : Int} {k : Nat} : (tkK t e P x k).length = k * P.length := by
  unfold tkK
  rw [List.length_flatMap]
  induction k with
  | zero => simp
  | succ k ih =>
    rw [List.range_succ, List.map_append, List.sum_append, ih]
    simp [Nat.add_mul]
theorem dget_nd {α : Type} : ∀ {kvs : List (Int × α)} {k : Int} {v : α}, (kvs.map (·.1)).Nodup → (k, v) ∈ kvs → dget kvs k = some v
  | [], _, _, _, h => by simp at h
  | b :: r, k, v, nd, h => by
    rw [List.map_cons, List.nodup_cons] at nd
    rcases List.mem_cons.mp h with q | q
    · subst q
      unfold dget
      simp
    · have : ¬ b.1 = k := fun z => nd.1 (z ▸ List.mem_map.mpr ⟨_, q, rfl⟩)
      rw [dget_neg this]
      exact dget_nd nd.2 q
theorem dget_none' {α : Type} {kvs : List (Int × α)} {k : Int} (h : k ∉ kvs.map (·.1)) : dget kvs k = none := by
  unfold dget
  rw [Option.map_eq_none_iff, List.find?_eq_none]
  intro p hp
  simp only [decide_eq_true_eq]
  exact fun z => h (z ▸ List.mem_map.mpr ⟨p, hp, rfl⟩)
theorem dput_new {α : Type} {kvs : List (Int × α)} {k : Int} {v : α} (h : k ∉ kvs.map (·.1)) : dput kvs k v = kvs ++ [(k, v)] := by
  unfold dput
  rw [if_neg]
  rw [dget_any, dget_none' h]
  simp
theorem pls_at (h : GTbl t e) {P M : List Int} (p : PartL t e P) {x : Int} (hx : InT t x) {k : Nat} (s : Stp t e P x k) {i : Nat} (hi : i < k) {a : Int} (ha : a ∈ P) : dget (pls t e P M x k) (en t a (pw t e x i)) = some ((i : Int), mk P M a) := by
  refine dget_nd (by rw [pls_keys]; exact tkK_nd h p hx s (Nat.le_refl _)) ?_
  unfold pls
  rw [List.mem_flatMap]
  exact ⟨i, List.mem_range.mpr hi, List.mem_map.mpr ⟨a, ha, rfl⟩⟩
/-- the greater part -/
def tkW (t : Tbl) (e : Int) (P : List Int) (x : Int) (k : Nat) : List Int := isort (tkK t e P x k)
def tkV (t : Tbl) (e : Int) (P M : List Int) (x : Int) (k : Nat) (m c a : Int) : Int := (((dget (pls t e P M x k) a).getD (0, 0)).2 + ((dget (pls t e P M x k) a).getD (0, 0)).1 * c) % m
def tkR (t : Tbl) (e : Int) (P M : List Int) (x : Int) (k : Nat) (m : Int) : List (List Int) := ((irange m).filter fun c => decide (c * (k : Int) % m = mk P M (pw t e x k))).map fun c => (tkW t e P x k).map (tkV t e P M x k m c)
theorem mem_tkW {P : List Int} {x : Int} {k : Nat} {a : Int} : a ∈ tkW t e P x k ↔ ∃ i, i < k ∧ ∃ b ∈ P, en t b (pw t e x i) = a := ((isort_perm _).mem_iff).trans mem_tkK
theorem tkW_len {P : List Int} {x : Int} {k : Nat} : (tkW t e P x k).length = k * P.length := by
  unfold tkW
  rw [(isort_perm _).length_eq, tkK_len]
theorem tkV_at (h : GTbl t e) {P M : List Int} (p : PartL t e P) {x : Int} (hx : InT t x) {k : Nat} (s : Stp t e P x k) {m c : Int} {i : Nat} (hi : i < k) {a : Int} (ha : a ∈ P) : tkV t e P M x k m c (en t a (pw t e x i)) = (mk P M a + (i : Int) * c) % m := by
  unfold tkV
  rw [pls_at h p hx s hi ha]
  rfl
theorem tkW_in (h : GTbl t e) {P : List Int} (p : PartL t e P) {x : Int} (hx : InT t x) {k : Nat} : ∀ a ∈ tkW t e P x k, InT t a := fun a ha => by
  obtain ⟨i, hi, b, hb, rfl⟩ := mem_tkW.mp ha
  exact h.cl (p.pt.inn b hb) (pw_in h hx i)
/-- the first thing that is led out; the first one whose mark changes -/
def stdF (t : Tbl) (e : Int) (P : List Int) (x : Int) : Option Int := P.find? fun h => !decide (cj t e x h ∈ P)
def kpF (t : Tbl) (e : Int) (P M : List Int) (x : Int) : Option Int := P.find? fun h => !decide (mk P M (cj t e x h) = mk P M h)
theorem find_at {Q : Int → Bool} {P : List Int} {j : Nat} (hj : j < P.length) (h1 : ∀ x ∈ P.take j, Q x = false) (h2 : Q P[j] = true) : P.find? Q = some P[j] := by
  have eP : P = P.take j ++ P[j] :: P.drop (j + 1) := by
    conv => lhs; rw [← List.take_append_drop j P, List.drop_eq_getElem_cons hj]
  have : (P.take j ++ P[j] :: P.drop (j + 1)).find? Q = some P[j] := by
    rw [List.find?_append, find_none h1, Option.none_or, List.find?_cons, h2]
  rw [← eP] at this
  exact this
theorem stdF_none {P : List Int} {x : Int} : stdF t e P x = none ↔ ∀ h ∈ P, cj t e x h ∈ P := by
  unfold stdF
  rw [List.find?_eq_none]
  simp
theorem kpF_none {P M : List Int} {x : Int} : kpF t e P M x = none ↔ ∀ h ∈ P, mk P M (cj t e x h) = mk P M h := by
  unfold kpF
  rw [List.find?_eq_none]
  simp
end
end TB

/-! TbTl: what taking on tells: the greater part, and its one-row ways. -/
namespace TB
open PySem
section
variable {t : Tbl} {e : Int}
structure OneW (t : Tbl) (P M : List Int) (m : Int) : Prop where
  ok : MarksOk P M m
  hom : ∀ a ∈ P, ∀ b ∈ P, mk P M (en t a b) = (mk P M a + mk P M b) % m
theorem brkF_none {P M : List Int} {m : Int} : brkF t P M m = none ↔ ∀ a ∈ P, ∀ b ∈ P, mk P M (en t a b) = (mk P M a + mk P M b) % m := by
  unfold brkF
  rw [fbk_isNone]
  simp
theorem cnt_sol {k : Nat} {q z : Int} (hk : 1 ≤ k) (hq : 0 < q) (z0 : 0 ≤ z) (z1 : z < q) : ((irange ((k : Int) * q)).filter fun c => decide (c * (k : Int) % ((k : Int) * q) = (k : Int) * z)).length = k := by
  have kq : 0 < (k : Int) * q := Int.mul_pos (by omega) hq
  have mem : ∀ c : Int, (c ∈ (irange ((k : Int) * q)).filter fun c => decide (c * (k : Int) % ((k : Int) * q) = (k : Int) * z)) ↔ c ∈ (List.range k).map fun j : Nat => z + (j : Int) * q := by
    intro c
    rw [List.mem_filter, mem_irange, List.mem_map, decide_eq_true_eq, Int.mul_comm c, Int.mul_emod_mul_of_pos _ _ (by omega)]
    constructor
    · rintro ⟨⟨c0, c1⟩, h⟩
      have h : c % q = z := Int.eq_of_mul_eq_mul_left (by omega) h
      refine ⟨(c / q).toNat, List.mem_range.mpr ?_, ?_⟩
      · have := Int.ediv_lt_of_lt_mul hq c1
        have := Int.ediv_nonneg c0 (by omega : 0 ≤ q)
        omega
      · have d0 := Int.ediv_nonneg c0 (by omega : 0 ≤ q)
        rw [show ((c / q).toNat : Int) = c / q by omega, ← h, Int.mul_comm]
        exact Int.emod_add_mul_ediv c q
    · rintro ⟨j, hj, rfl⟩
      have hj := List.mem_range.mp hj
      have j0 : 0 ≤ (j : Int) * q := Int.mul_nonneg (by omega) (by omega)
      have j1 : ((j : Int) + 1) * q ≤ (k : Int) * q := Int.mul_le_mul_of_nonneg_right (by omega) (by omega)
      rw [Int.add_mul, Int.one_mul] at j1
      refine ⟨⟨by omega, by omega⟩, ?_⟩
      rw [Int.add_mul_emod_self_right, Int.emod_eq_of_lt z0 z1]
  have n1 : ((irange ((k : Int) * q)).filter fun c => decide (c * (k : Int) % ((k : Int) * q) = (k : Int) * z)).Nodup := (nodup_irange' _).filter _
  have n2 : ((List.range k).map fun j : Nat => z + (j : Int) * q).Nodup := nodup_map_on (fun a _ b _ h => by
    have : (a : Int) * q = (b : Int) * q := by omega
    have := Int.eq_of_mul_eq_mul_right (by omega) this
    omega) List.nodup_range
  have l1 := nodup_le n1 fun x hx => (mem x).mp hx
  have l2 := nodup_le n2 fun x hx => (mem x).mpr hx
  rw [List.length_map, List.length_range] at l1 l2
  omega
theorem pw_pw (h : GTbl t e) {x : Int} (hx : InT t x) (k : Nat) : ∀ n, pw t e (pw t e x k) n = pw t e x (k * n)
  | 0 => rfl
  | n + 1 => by
    show en t (pw t e (pw t e x k) n) (pw t e x k) = _
    rw [pw_pw h hx k n, ← pw_add h hx]
    rfl
theorem stp_dvd (h : GTbl t e) {P : List Int} (p : PartL t e P) {x : Int} (hx : InT t x) {k : Nat} (s : Stp t e P x k) {n : Nat} (hn : pw t e x n ∈ P) : k ∣ n := by
  have hk := s.pos
  have dm : k * (n / k) + n % k = n := Nat.div_add_mod n k
  have h1 : pw t e x (k * (n / k)) ∈ P := by
    rw [← pw_pw h hx]
    exact pw_mem p.pt.one p.pt.mul s.fin _
  have i1 := p.pt.inn _ h1
  have h2 : pw t e x (n % k) ∈ P := by
    have q := pw_add h hx (k * (n / k)) (n % k)
    rw [dm] at q
    have ir := pw_in h hx (n % k)
    have : en t (bkf t e (pw t e x (k * (n / k)))) (pw t e x n) = pw t e x (n % k) := by
      rw [q, ← h.as (bk_in h i1) i1 ir, bk_r h i1, h.u1 ir]
    rw [← this]
    exact p.pt.mul _ (p.bk h h1) _ hn
  refine Nat.dvd_of_mod_eq_zero ?_
  by_cases c : n % k = 0
  · exact c
  · exact absurd h2 (s.low _ (by omega) (Nat.mod_lt _ hk))
/-- steady under x, the marks kept -/
structure Kpt (t : Tbl) (e : Int) (P M : List Int) (x : Int) : Prop where
  st : ∀ h ∈ P, cj t e x h ∈ P
  kp : ∀ h ∈ P, mk P M (cj t e x h) = mk P M h
theorem kpt_pw (h : GTbl t e) {P M : List Int} (p : PartL t e P) {x : Int} (hx : InT t x) (kp : Kpt t e P M x) : ∀ (i : Nat) {a : Int}, a ∈ P → cj t e (pw t e x i) a ∈ P ∧ mk P M (cj t e (pw t e x i) a) = mk P M a
  | 0, a, ha => by
    rw [show pw t e x 0 = e from rfl, cj_unit h (p.pt.inn a ha)]
    exact ⟨ha, rfl⟩
  | i + 1, a, ha => by
    have ia := p.pt.inn a ha
    have h1 := kp.st a ha
    obtain ⟨h2, h3⟩ := kpt_pw h p hx kp i h1
    have : cj t e (pw t e x (i + 1)) a = cj t e (pw t e x i) (cj t e x a) := (cj_mul h (pw_in h hx i) hx ia).symm
    rw [this]
    exact ⟨h2, h3.trans (kp.kp a ha)⟩
theorem cj_move (h : GTbl t e) {x a : Int} (hx : InT t x) (ha : InT t a) : en t (cj t e x a) x = en t x a := by
  unfold cj
  rw [h.as (h.cl hx ha) (bk_in h hx) hx, bk_r h hx, h.u2 (h.cl hx ha)]
/-- products of what is told -/
theorem tk_mul (h : GTbl t e) {P M : List Int} (p : PartL t e P) {x : Int} (hx : InT t x) {i j : Nat} {a b : Int} (ha : a ∈ P) (hb : b ∈ P) (hc : cj t e (pw t e x i) b ∈ P) : en t (en t a (pw t e x i)) (en t b (pw t e x j)) = en t (en t a (cj t e (pw t e x i) b)) (pw t e x (i + j)) := by
  have ia := p.pt.inn a ha
  have ib := p.pt.inn b hb
  have ic := p.pt.inn _ hc
  have ii := pw_in h hx i
  have ij := pw_in h hx j
  rw [h.as ia ii (h.cl ib ij), ← h.as ii ib ij, ← cj_move h ii ib, h.as ic ii ij, ← pw_add h hx, h.as ia ic (pw_in h hx _)]
theorem mk_map {W : List Int} {f : Int → Int} {a : Int} (ha : a ∈ W) : mk W (W.map f) a = f a := by
  unfold mk
  have := ix_lt ha
  rw [gt_mapL (by omega) (by omega), gt_ix ha]
theorem mk_e {P M : List Int} {m : Int} (p : PartL t e P) (h : GTbl t e) (o : OneW t P M m) : mk P M e = 0 := by
  have h1 := o.hom e p.pt.one e p.pt.one
  have h2 := mk_in o.ok p.pt.one
  rw [h.u1 h.he] at h1
  by_cases c : mk P M e + mk P M e < m
  · rw [Int.emod_eq_of_lt (by omega) c] at h1
    omega
  · have : (mk P M e + mk P M e) % m = mk P M e + mk P M e - m := by
      rw [← Int.sub_emod_right, Int.emod_eq_of_lt (by omega) (by omega)]
    omega
theorem mk_pw {P M : List Int} {m : Int} (p : PartL t e P) (h : GTbl t e) (o : OneW t P M m) {a : Int} (ha : a ∈ P) : ∀ n : Nat, mk P M (pw t e a n) = ((n : Int) * mk P M a) % m
  | 0 => by
    rw [show pw t e a 0 = e from rfl, mk_e p h o]
    simp
  | n + 1 => by
    show mk P M (en t (pw t e a n) a) = _
    rw [o.hom _ (pw_mem p.pt.one p.pt.mul ha n) _ ha, mk_pw p h o ha n, Int.emod_add_emod, show ((n + 1 : Nat) : Int) = (n : Int) + 1 by omega, Int.add_mul, Int.one_mul]
/-- the greater part is the least one with both -/
theorem tkW_clo (h : GTbl t e) {P M : List Int} (p : PartL t e P) {x : Int} (hx : InT t x) {k : Nat} (s : Stp t e P x k) (kp : Kpt t e P M x) : tkW t e P x k = clo t e (P ++ [x]) := by
  have hs : ∀ y ∈ P ++ [x], InT t y := fun y hy => by
    rcases List.mem_append.mp hy with q | q
    · exact p.pt.inn y q
    · rw [List.mem_singleton.mp q]; exact hx
  have rx : Reach t e (P ++ [x]) x := reach_some h hs (by simp)
  have hk := s.pos
  refine clo_is h hs (tkK_nd h p hx s (Nat.le_refl _)) (mem_tkK.mpr ⟨0, hk, e, p.pt.one, h.u1 h.he⟩) (fun y hy => ?_) (fun y hy z hz => ?_)
  · obtain ⟨i, _, b, hb, rfl⟩ := mem_tkK.mp hy
    refine reach_mul h hs (reach_some h hs (by simp [hb])) ?_
    rename_i hik
    clear hy hb hik
    induction i with
    | zero => exact .one
    | succ i ih => exact reach_mul h hs ih rx
  · obtain ⟨i, hi, b, hb, rfl⟩ := mem_tkK.mp hy
    have ib := p.pt.inn b hb
    rcases List.mem_append.mp hz with q | q
    · have iz := p.pt.inn z q
      obtain ⟨c1, _⟩ := kpt_pw h p hx kp i q
      have e1 := tk_mul (M := M) h p hx (i := i) (j := 0) hb q c1
      rw [show pw t e x 0 = e from rfl, h.u2 iz] at e1
      rw [e1]
      exact mem_tkK.mpr ⟨i, hi, _, p.pt.mul _ hb _ c1, rfl⟩
    · rw [List.mem_singleton.mp q, h.as ib (pw_in h hx i) hx]
      by_cases c : i + 1 < k
      · exact mem_tkK.mpr ⟨i + 1, c, b, hb, rfl⟩
      · have : i + 1 = k := by omega
        rw [show en t (pw t e x i) x = pw t e x (i + 1) from rfl, this]
        exact mem_tkK.mpr ⟨0, hk, _, p.pt.mul _ hb _ s.fin, h.u2 (h.cl ib (pw_in h hx k))⟩
/-- all that taking on tells -/
structure Tkn (t : Tbl) (e : Int) (P M : List Int) (x m : Int) (W : List Int) (R : List (List Int)) (k : Nat) : Prop where
  pt : PartL t e W
  sub : ∀ a ∈ P, a ∈ W
  inx : x ∈ W
  one : ∀ r ∈ R, OneW t W r m ∧ ∀ a ∈ P, mk W r a = mk P M a
  nd : R.Nodup
  len : R.length = k
  wl : W.length = k * P.length
  pos : 1 ≤ k
theorem tkn (h : GTbl t e) {P M : List Int} {m : Int} (p : PartL t e P) (o : OneW t P M m) {x : Int} (hx : InT t x) {k : Nat} (s : Stp t e P x k) (kp : Kpt t e P M x) {L : Nat} (hL : IsLcm t e t.length L) (m0 : 0 < m) (hm : m % (L : Int) = 0) :
    Tkn t e P M x m (tkW t e P x k) (tkR t e P M x k m) k := by
  have hk := s.pos
  have hW := tkW_clo h p hx s kp
  have pW : PartL t e (tkW t e P x k) := by
    rw [hW]
    exact clo_part h fun y hy => by
      rcases List.mem_append.mp hy with q | q
      · exact p.pt.inn y q
      · rw [List.mem_singleton.mp q]; exact hx
  have sub : ∀ a ∈ P, a ∈ tkW t e P x k := fun a ha => mem_tkW.mpr ⟨0, hk, a, ha, h.u2 (p.pt.inn a ha)⟩
  have inx : x ∈ tkW t e P x k := by
    by_cases c : 1 < k
    · exact mem_tkW.mpr ⟨1, c, e, p.pt.one, by rw [show pw t e x 1 = x from h.u1 hx]; exact h.u1 hx⟩
    · have : k = 1 := by omega
      have := s.fin
      rw [‹k = 1›, show pw t e x 1 = x from h.u1 hx] at this
      exact sub x this
  -- the number of solutions
  obtain ⟨q0, eq0⟩ := stp_dvd h p hx s (n := L) (by rw [lcm_pw h hL hx]; exact p.pt.one)
  have hLp := hL.pos
  have q0p : 0 < q0 := by
    rcases Nat.eq_zero_or_pos q0 with z | z
    · rw [z, Nat.mul_zero] at eq0; omega
    · exact z
  obtain ⟨s0, es0⟩ := Int.dvd_of_emod_eq_zero hm
  have s0p : 0 < s0 := by
    rcases (by omega : 0 < s0 ∨ s0 ≤ 0) with z | z
    · exact z
    · have := Int.mul_nonpos_of_nonneg_of_nonpos (a := (L : Int)) (by omega) z
      omega
  have em : m = (k : Int) * ((q0 : Int) * s0) := by rw [es0, eq0, Int.natCast_mul, Int.mul_assoc]
  have zin := mk_in o.ok s.fin
  obtain ⟨z', ez⟩ : ∃ z', mk P M (pw t e x k) = (k : Int) * z' := by
    have h1 := mk_pw p h o s.fin q0
    rw [pw_pw h hx, ← eq0, lcm_pw h hL hx, mk_e p h o] at h1
    obtain ⟨r, hr⟩ := Int.dvd_of_emod_eq_zero h1.symm
    refine ⟨s0 * r, ?_⟩
    rw [em] at hr
    have : (q0 : Int) * mk P M (pw t e x k) = (q0 : Int) * ((k : Int) * (s0 * r)) := by
      rw [hr]
      simp only [Int.mul_assoc, Int.mul_left_comm]
    exact Int.eq_of_mul_eq_mul_left (by omega) this
  have qs : 0 < (q0 : Int) * s0 := Int.mul_pos (by omega) s0p
  have z0 : 0 ≤ z' := by
    have h1 := zin.1
    rw [ez] at h1
    exact Int.nonneg_of_mul_nonneg_right h1 (by omega)
  have z1 : z' < (q0 : Int) * s0 := by
    have h1 := zin.2
    rw [ez, em] at h1
    exact Int.lt_of_mul_lt_mul_left h1 (by omega)
  have len : (tkR t e P M x k m).length = k := by
    unfold tkR
    rw [List.length_map, ez, em]
    exact cnt_sol hk qs z0 z1
  refine ⟨pW, sub, inx, fun r hr => ?_, ?_, len, tkW_len, hk⟩
  · obtain ⟨c, hc, rfl⟩ := List.mem_map.mp hr
    obtain ⟨hc1, hc2⟩ := List.mem_filter.mp hc
    have hc2 : c * (k : Int) % m = mk P M (pw t e x k) := of_decide_eq_true hc2
    refine ⟨⟨⟨by rw [List.length_map], fun y hy => ?_⟩, fun a ha b hb => ?_⟩, fun a ha => ?_⟩
    · obtain ⟨a, _, rfl⟩ := List.mem_map.mp hy
      unfold tkV
      exact ⟨Int.emod_nonneg _ (by omega), Int.emod_lt_of_pos _ m0⟩
    · rw [mk_map (pW.pt.mul a ha b hb), mk_map ha, mk_map hb]
      obtain ⟨i, hi, a, ha', rfl⟩ := mem_tkW.mp ha
      obtain ⟨j, hj, b, hb', rfl⟩ := mem_tkW.mp hb
      clear ha hb
      have ha := ha'
      have hb := hb'
      obtain ⟨c1, c2⟩ := kpt_pw h p hx kp i hb
      rw [tkV_at h p hx s hi ha, tkV_at h p hx s hj hb, tk_mul (M := M) h p hx ha hb c1]
      have hab := p.pt.mul _ ha _ c1
      have iab := p.pt.inn _ hab
      have e1 : mk P M (en t a (cj t e (pw t e x i) b)) = (mk P M a + mk P M b) % m := by rw [o.hom _ ha _ c1, c2]
      by_cases q : i + j < k
      · rw [tkV_at h p hx s q hab, e1, Int.emod_add_emod, Int.emod_add_emod, Int.add_emod_emod]
        congr 1
        rw [show ((i + j : Nat) : Int) = (i : Int) + j by omega, Int.add_mul]
        omega
      · rw [pw_sub h hx (show i + j - k ≤ i + j by omega), show i + j - (i + j - k) = k by omega, ← h.as iab (pw_in h hx k) (pw_in h hx _), tkV_at h p hx s (by omega : i + j - k < k) (p.pt.mul _ hab _ s.fin), o.hom _ hab _ s.fin, e1, ← hc2]
        rw [Int.emod_add_emod, Int.emod_add_emod, Int.add_emod_emod]
        rw [Int.add_assoc ((mk P M a + mk P M b) % m), Int.emod_add_emod, Int.add_left_comm, Int.emod_add_emod]
        congr 1
        rw [show ((i + j - k : Nat) : Int) = (i : Int) + j - k by omega, Int.sub_mul, Int.add_mul, Int.mul_comm c]
        omega
    · rw [mk_map (sub a ha)]
      have e0 := tkV_at h p hx s (M := M) (m := m) (c := c) (i := 0) hk ha
      rw [show pw t e x 0 = e from rfl, h.u2 (p.pt.inn a ha)] at e0
      rw [e0]
      have := mk_in o.ok ha
      rw [Int.natCast_zero, Int.zero_mul, Int.add_zero, Int.emod_eq_of_lt this.1 this.2]
  · by_cases c : k = 1
    · rw [c] at len ⊢
      match hR : tkR t e P M x 1 m, len with
      | [r], _ => exact List.nodup_cons.mpr ⟨by simp, List.nodup_nil⟩
    · unfold tkR
      refine nodup_map_on (fun a ha b hb q => ?_) ((nodup_irange' _).filter _)
      have ia := mem_irange.mp (List.mem_filter.mp ha).1
      have ib := mem_irange.mp (List.mem_filter.mp hb).1
      have q1 : tkV t e P M x k m a x = tkV t e P M x k m b x := by
        have h1 := mk_map (f := tkV t e P M x k m a) inx
        have h2 := mk_map (f := tkV t e P M x k m b) inx
        rw [q] at h1
        exact h1.symm.trans h2
      have vx : ∀ c, 0 ≤ c → c < m → tkV t e P M x k m c x = c := fun c c0 c1 => by
        have := tkV_at h p hx s (M := M) (m := m) (c := c) (i := 1) (by omega) p.pt.one
        rw [show pw t e x 1 = x from h.u1 hx, h.u1 hx, mk_e p h o] at this
        rw [this, Int.natCast_one, Int.one_mul, Int.zero_add, Int.emod_eq_of_lt c0 c1]
      rw [vx a ia.1 ia.2, vx b ib.1 ib.2] at q1
      exact q1
end
end TB

/-! TbOns: all one-row ways of a part. -/
namespace TB
open PySem
section
variable {t : Tbl} {e : Int}
open Classical in
noncomputable def stpN (t : Tbl) (e : Int) (P : List Int) (x : Int) : Nat := if h : ∃ k, Stp t e P x k then h.choose else 1
theorem stpN_spec (h : GTbl t e) {P : List Int} (he : e ∈ P) {x : Int} (hx : InT t x) : Stp t e P x (stpN t e P x) := by
  obtain ⟨k, hk, _⟩ := stp_ex h he hx
  unfold stpN
  rw [dif_pos ⟨k, hk⟩]
  exact Exists.choose_spec _
noncomputable def onesStep (t : Tbl) (e m : Int) (s : List Int × List (List Int)) (x : Int) : List Int × List (List Int) :=
  if x ∈ s.1 then s else (tkW t e s.1 x (stpN t e s.1 x), s.2.flatMap fun M => lsort (tkR t e s.1 M x (stpN t e s.1 x) m))
noncomputable def onesN (t : Tbl) (e : Int) (P : List Int) (m : Int) (i : Nat) : List Int × List (List Int) := (P.take i).foldl (onesStep t e m) (mixF t e P, [(mixF t e P).map fun _ => 0])
noncomputable def onesF (t : Tbl) (e : Int) (P : List Int) (m : Int) : List (List Int) := lsort (onesN t e P m P.length).2
theorem cmL_mem {P : List Int} {a b : Int} (ha : a ∈ P) (hb : b ∈ P) : cmm t e a b ∈ cmL t e P := by
  unfold cmL
  rw [List.mem_flatten]
  exact ⟨_, List.mem_map.mpr ⟨a, ha, rfl⟩, List.mem_map.mpr ⟨b, hb, rfl⟩⟩
theorem mixF_part (h : GTbl t e) {P : List Int} (p : PartL t e P) : PartL t e (mixF t e P) := clo_part h (cmL_in h p.pt.inn)
theorem mixF_cm (h : GTbl t e) {P : List Int} (p : PartL t e P) {a b : Int} (ha : a ∈ P) (hb : b ∈ P) : cmm t e a b ∈ mixF t e P :=
  (mem_clo h (cmL_in h p.pt.inn)).mpr (reach_some h (cmL_in h p.pt.inn) (cmL_mem ha hb))
theorem cmm_part (h : GTbl t e) {P : List Int} (p : PartL t e P) {a b : Int} (ha : a ∈ P) (hb : b ∈ P) : cmm t e a b ∈ P := p.pt.mul _ (p.pt.mul _ (p.pt.mul _ ha _ hb) _ (p.bk h ha)) _ (p.bk h hb)
theorem mixF_sub (h : GTbl t e) {P : List Int} (p : PartL t e P) {a : Int} (ha : a ∈ mixF t e P) : a ∈ P :=
  reach_sub (R := P) p.pt.one (fun x hx y hy => by
    obtain ⟨l, hl, hyl⟩ := List.mem_flatten.mp hy
    obtain ⟨u, hu, rfl⟩ := List.mem_map.mp hl
    obtain ⟨v, hv, rfl⟩ := List.mem_map.mp hyl
    exact p.pt.mul _ hx _ (cmm_part h p hu hv)) ((mem_clo h (cmL_in h p.pt.inn)).mp ha)
theorem cj_cmm (h : GTbl t e) {a b : Int} (ha : InT t a) (hb : InT t b) : cj t e a b = en t (cmm t e a b) b := by
  unfold cmm cj
  rw [h.as (h.cl (h.cl ha hb) (bk_in h ha)) (bk_in h hb) hb, bk_r h hb, h.u2 (h.cl (h.cl ha hb) (bk_in h ha))]
structure OnesI (t : Tbl) (e : Int) (P : List Int) (m : Int) (W : List Int) (F : List (List Int)) : Prop where
  pt : PartL t e W
  mix : ∀ x ∈ mixF t e P, x ∈ W
  sub : ∀ x ∈ W, x ∈ P
  one : ∀ M ∈ F, OneW t W M m ∧ ∀ x ∈ mixF t e P, mk W M x = 0
  nd : F.Nodup
  cnt : F.length * (mixF t e P).length = W.length
theorem marks_ext {P M M' : List Int} (nd : P.Nodup) (l : M.length = P.length) (l' : M'.length = P.length) (h : ∀ a ∈ P, mk P M a = mk P M' a) : M = M' := by
  refine List.ext_getElem (by omega) fun i h1 h2 => ?_
  have hi : i < P.length := by omega
  have g : ∀ N : List Int, N.length = P.length → (hN : i < N.length) → mk P N P[i] = N[i] := fun N hl hN => by
    have e1 : gt P (i : Int) = P[i] := by unfold gt; simp [hi]
    rw [← e1, mk_at nd (by omega) (by omega)]
    unfold gt
    simp [hN]
  rw [← g M l h1, ← g M' l' h2]
  exact h _ (List.getElem_mem hi)
theorem OnesI.kpt (h : GTbl t e) {P : List Int} (p : PartL t e P) {m : Int} {W : List Int} {F : List (List Int)} (o : OnesI t e P m W F) {x : Int} (hx : x ∈ P) {M : List Int} (hM : M ∈ F) : Kpt t e W M x := by
  have key : ∀ a ∈ W, cmm t e x a ∈ W := fun a ha => o.mix _ (mixF_cm h p hx (o.sub a ha))
  refine ⟨fun a ha => ?_, fun a ha => ?_⟩
  · rw [cj_cmm h (p.pt.inn x hx) (o.pt.pt.inn a ha)]
    exact o.pt.pt.mul _ (key a ha) _ ha
  · rw [cj_cmm h (p.pt.inn x hx) (o.pt.pt.inn a ha), (o.one M hM).1.hom _ (key a ha) _ ha, (o.one M hM).2 _ (mixF_cm h p hx (o.sub a ha)), Int.zero_add]
    have := mk_in (o.one M hM).1.ok ha
    exact Int.emod_eq_of_lt this.1 this.2
theorem sum_const {α : Type} (k : Nat) : ∀ F : List α, (F.map fun _ => k).sum = F.length * k
  | [] => by simp
  | a :: F => by rw [List.map_cons, List.sum_cons, sum_const k F, List.length_cons, Nat.add_mul, Nat.one_mul, Nat.add_comm]
theorem onesI_step (h : GTbl t e) {P : List Int} (p : PartL t e P) {m : Int} {W : List Int} {F : List (List Int)} (o : OnesI t e P m W F) {x : Int} (hx : x ∈ P) {k : Nat} (s : Stp t e W x k) {L : Nat} (hL : IsLcm t e t.length L) (m0 : 0 < m) (hm : m % (L : Int) = 0) :
    OnesI t e P m (tkW t e W x k) (F.flatMap fun M => lsort (tkR t e W M x k m)) ∧ x ∈ tkW t e W x k := by
  have hix := p.pt.inn x hx
  have tk : ∀ M ∈ F, Tkn t e W M x m (tkW t e W x k) (tkR t e W M x k m) k := fun M hM => tkn h o.pt (o.one M hM).1 hix s (o.kpt h p hx hM) hL m0 hm
  have ne : F ≠ [] := fun z => by
    have := o.cnt
    rw [z, List.length_nil, Nat.zero_mul] at this
    have := List.length_pos_of_mem o.pt.pt.one
    omega
  obtain ⟨M0, hM0⟩ := List.exists_mem_of_ne_nil F ne
  have T0 := tk M0 hM0
  refine ⟨⟨T0.pt, fun y hy => T0.sub y (o.mix y hy), fun y hy => ?_, fun r hr => ?_, ?_, ?_⟩, T0.inx⟩
  · obtain ⟨i, hi, b, hb, rfl⟩ := mem_tkW.mp hy
    refine p.pt.mul _ (o.sub b hb) _ (pw_mem p.pt.one p.pt.mul hx i)
  · obtain ⟨M, hM, hr⟩ := List.mem_flatMap.mp hr
    have hr := (lsort_perm _).mem_iff.mp hr
    obtain ⟨h1, h2⟩ := (tk M hM).one r hr
    exact ⟨h1, fun y hy => by rw [h2 y (o.mix y hy)]; exact (o.one M hM).2 y hy⟩
  · refine nodup_flat o.nd (fun M hM => (lsort_perm _).nodup_iff.mpr (tk M hM).nd) (fun M hM M' hM' r hr hr' => ?_)
    have hr := (lsort_perm _).mem_iff.mp hr
    have hr' := (lsort_perm _).mem_iff.mp hr'
    refine marks_ext o.pt.pt.nd (o.one M hM).1.ok.1 (o.one M' hM').1.ok.1 fun a ha => ?_
    rw [← ((tk M hM).one r hr).2 a ha, ← ((tk M' hM').one r hr').2 a ha]
  · have : (F.flatMap fun M => lsort (tkR t e W M x k m)).length = F.length * k := by
      rw [List.length_flatMap, List.map_congr_left (g := fun _ => k) fun M hM => by rw [(lsort_perm _).length_eq, (tk M hM).len]]
      exact sum_const k F
    rw [this, T0.wl, ← o.cnt, Nat.mul_assoc, Nat.mul_left_comm]
theorem onesI_zero (h : GTbl t e) {P : List Int} (p : PartL t e P) {m : Int} (m0 : 0 < m) : OnesI t e P m (mixF t e P) [(mixF t e P).map fun _ => 0] := by
  have q := mixF_part h p
  refine ⟨q, fun x hx => hx, fun x hx => mixF_sub h p hx, fun M hM => ?_, by simp, by simp⟩
  rw [List.mem_singleton.mp hM]
  have z : ∀ a ∈ mixF t e P, mk (mixF t e P) ((mixF t e P).map fun _ => 0) a = 0 := fun a ha => mk_map (f := fun _ => (0 : Int)) ha
  refine ⟨⟨⟨by simp, fun x hx => ?_⟩, fun a ha b hb => ?_⟩, z⟩
  · obtain ⟨_, _, rfl⟩ := List.mem_map.mp hx
    omega
  · rw [z _ (q.pt.mul _ ha _ hb), z a ha, z b hb]
    simp
theorem onesN_succ {P : List Int} {m : Int} {i : Nat} (hi : i < P.length) : onesN t e P m (i + 1) = onesStep t e m (onesN t e P m i) P[i] := by
  unfold onesN
  rw [take_snoc hi, List.foldl_append]
  rfl
theorem onesI_N (h : GTbl t e) {P : List Int} (p : PartL t e P) {m : Int} {L : Nat} (hL : IsLcm t e t.length L) (m0 : 0 < m) (hm : m % (L : Int) = 0) : ∀ i : Nat, i ≤ P.length → OnesI t e P m (onesN t e P m i).1 (onesN t e P m i).2 ∧ ∀ a ∈ P.take i, a ∈ (onesN t e P m i).1
  | 0, _ => ⟨onesI_zero h p m0, fun a ha => by simp at ha⟩
  | i + 1, hi => by
    obtain ⟨o, cov⟩ := onesI_N h p hL m0 hm i (by omega)
    have hi' : i < P.length := by omega
    rw [onesN_succ hi']
    unfold onesStep
    by_cases c : P[i] ∈ (onesN t e P m i).1
    · rw [if_pos c]
      refine ⟨o, fun a ha => ?_⟩
      rw [take_snoc hi'] at ha
      rcases List.mem_append.mp ha with q | q
      · exact cov a q
      · rw [List.mem_singleton.mp q]; exact c
    · rw [if_neg c]
      have hx := List.getElem_mem hi'
      have s := stpN_spec h o.pt.pt.one (p.pt.inn _ hx)
      obtain ⟨o2, hin⟩ := onesI_step h p o hx s hL m0 hm
      refine ⟨o2, fun a ha => ?_⟩
      rw [take_snoc hi'] at ha
      rcases List.mem_append.mp ha with q | q
      · exact mem_tkW.mpr ⟨0, s.pos, a, cov a q, h.u2 (o.pt.pt.inn a (cov a q))⟩
      · rw [List.mem_singleton.mp q]; exact hin
/-- the place of the unit in a row -/
theorem row_unit (h : GTbl t e) {a : Int} (ha : InT t a) : (gt t a)[(bkf t e a).toNat]? = some e ∧ ∀ m, m < (bkf t e a).toNat → (gt t a)[m]? ≠ some e := by
  have hb := bk_in h ha
  have hr := h.row ha
  have at_ : ∀ m : Nat, m < t.length → (gt t a)[m]? = some (en t a (m : Int)) := fun m hm => by
    have : m < (gt t a).length := by omega
    unfold en
    rw [List.getElem?_eq_getElem this]
    generalize gt t a = r at this
    unfold gt
    simp [this]
  refine ⟨?_, fun m hm z => ?_⟩
  · rw [at_ _ (by have := hb.1; have := hb.2; omega), show (((bkf t e a).toNat : Nat) : Int) = bkf t e a by have := hb.1; omega, bk_l h ha]
  · have hm2 : m < t.length := by have := hb.2; omega
    rw [at_ m hm2] at z
    have z : en t a (m : Int) = e := by injection z
    have := bk_one h ha ⟨by omega, by omega⟩ z
    omega
/-- what is told of all one-row ways -/
structure AllOnes (t : Tbl) (e : Int) (P : List Int) (m : Int) (F : List (List Int)) : Prop where
  one : ∀ M ∈ F, OneW t P M m
  lt : F.Pairwise (· < ·)
  cnt : F.length * (mixF t e P).length = P.length
theorem lt_of_sorted {F : List (List Int)} (h : F.Pairwise (· ≤ ·)) (nd : F.Nodup) : F.Pairwise (· < ·) := by
  have := h.and nd
  exact this.imp fun ⟨h1, h2⟩ => by
    rcases List.le_iff_lt_or_eq.mp h1 with q | q
    · exact q
    · exact absurd q h2
theorem onesF_all (h : GTbl t e) {P : List Int} (p : PartL t e P) {m : Int} {L : Nat} (hL : IsLcm t e t.length L) (m0 : 0 < m) (hm : m % (L : Int) = 0) : AllOnes t e P m (onesF t e P m) := by
  obtain ⟨o, cov⟩ := onesI_N h p hL m0 hm P.length (Nat.le_refl _)
  rw [List.take_length] at cov
  have eW : (onesN t e P m P.length).1 = P := inc_one o.pt.inc p.inc fun z => ⟨o.sub z, cov z⟩
  have pm := lsort_perm (onesN t e P m P.length).2
  refine ⟨fun M hM => ?_, lt_of_sorted (lsort_sorted _) (pm.nodup_iff.mpr o.nd), ?_⟩
  · have := (o.one M (pm.mem_iff.mp hM)).1
    rw [eW] at this
    exact this
  · have := o.cnt
    rw [eW] at this
    unfold onesF
    rw [pm.length_eq]
    exact this
theorem onesF_unit (h : GTbl t e) {m : Int} {L : Nat} (hL : IsLcm t e t.length L) (m0 : 0 < m) (hm : m % (L : Int) = 0) : onesF t e [e] m = [[0]] := by
  have p : PartL t e [e] := ⟨List.pairwise_singleton _ _, ⟨by simp, fun x hx => by rw [List.mem_singleton.mp hx]; exact h.he, by simp, fun x hx y hy => by rw [List.mem_singleton.mp hx, List.mem_singleton.mp hy, h.u1 h.he]; simp, fun x hx => ⟨e, by simp, by rw [List.mem_singleton.mp hx]; exact ⟨h.u1 h.he, h.u1 h.he⟩⟩⟩⟩
  have A := onesF_all h p hL m0 hm
  have l1 := A.cnt
  have l2 := List.length_pos_of_mem (mixF_part h p).pt.one
  rw [List.length_singleton] at l1
  have l3 : (onesF t e [e] m).length = 1 := Nat.eq_one_of_mul_eq_one_right l1
  match q : onesF t e [e] m, l3 with
  | [M], _ =>
    have o := A.one M (by rw [q]; simp)
    have z := mk_e p h o
    have lm := o.ok.1
    match M, lm with
    | [x], _ =>
      have : mk [e] [x] e = x := by
        unfold mk ix
        rw [if_pos rfl]
        rfl
      rw [this] at z
      rw [z]
end
end TB

/-! TbHrt: the heart, and what leads its sides round. -/
namespace TB
open PySem
section
variable {t : Tbl} {e : Int}
def goesB (t : Tbl) (x : Int) (P : List Int) : Bool := P.all fun h => decide (en t x h = en t h x)
open Classical in
noncomputable def hrtN (t : Tbl) (e : Int) : Nat → List Int
  | 0 => mixF t e (irange t.length)
  | i + 1 => if ¬ (i : Int) ∈ hrtN t e i ∧ goesB t (i : Int) (hrtN t e i) = true then clo t e (hrtN t e i ++ [(i : Int)]) else hrtN t e i
noncomputable def heartF (t : Tbl) (e : Int) : List Int := hrtN t e t.length
/-- what commutators make goes with itself -/
def Mta (t : Tbl) (e : Int) : Prop := ∀ a ∈ mixF t e (irange t.length), ∀ b ∈ mixF t e (irange t.length), en t a b = en t b a
theorem all_part (h : GTbl t e) : PartL t e (irange t.length) := ⟨inc_irange _, ⟨nodup_irange' _, fun x hx => mem_irange.mp hx, mem_irange.mpr h.he, fun x hx y hy => mem_irange.mpr (h.cl (mem_irange.mp hx) (mem_irange.mp hy)), fun x hx => ⟨bkf t e x, mem_irange.mpr (bk_in h (mem_irange.mp hx)), bk_l h (mem_irange.mp hx), bk_r h (mem_irange.mp hx)⟩⟩⟩
structure HrtI (t : Tbl) (e : Int) (i : Nat) (H : List Int) : Prop where
  pt : PartL t e H
  ab : ∀ a ∈ H, ∀ b ∈ H, en t a b = en t b a
  mix : ∀ a ∈ mixF t e (irange t.length), a ∈ H
  out : ∀ x : Int, 0 ≤ x → x < i → x ∉ H → ∃ a ∈ H, en t x a ≠ en t a x
theorem clo_ab (h : GTbl t e) {S : List Int} (hs : ∀ y ∈ S, InT t y) (hc : ∀ a ∈ S, ∀ b ∈ S, en t a b = en t b a) : ∀ a ∈ clo t e S, ∀ b ∈ clo t e S, en t a b = en t b a := by
  have one : ∀ {a : Int}, Reach t e S a → ∀ s ∈ S, en t a s = en t s a := fun {a} r => by
    induction r with
    | one => exact fun s hs' => by rw [h.u1 (hs s hs'), h.u2 (hs s hs')]
    | @step u v ru hv ih =>
      intro s hs'
      have iu := reach_in h hs ru
      have iv := hs v hv
      have is := hs s hs'
      rw [h.as iu iv is, hc v hv s hs', ← h.as iu is iv, ih s hs', h.as is iu iv]
  intro a ha b hb
  have ra := (mem_clo h hs).mp ha
  have rb := (mem_clo h hs).mp hb
  have ia := reach_in h hs ra
  clear hb
  induction rb with
  | one => rw [h.u1 ia, h.u2 ia]
  | @step u v ru hv ih =>
    have iu := reach_in h hs ru
    have iv := hs v hv
    rw [← h.as ia iu iv, ih, h.as iu ia iv, one ra v hv, ← h.as iu iv ia]
theorem goesB_true {x : Int} {P : List Int} : goesB t x P = true ↔ ∀ a ∈ P, en t x a = en t a x := by
  unfold goesB
  rw [List.all_eq_true]
  simp
theorem hrtI (h : GTbl t e) (hm : Mta t e) : ∀ i : Nat, i ≤ t.length → HrtI t e i (hrtN t e i)
  | 0, _ => ⟨mixF_part h (all_part h), hm, fun a ha => ha, fun x h0 h1 => by omega⟩
  | i + 1, hi => by
    have I := hrtI h hm i (by omega)
    have hI : InT t (i : Int) := ⟨by omega, by omega⟩
    unfold hrtN
    by_cases c : ¬ (i : Int) ∈ hrtN t e i ∧ goesB t (i : Int) (hrtN t e i) = true
    · rw [if_pos c]
      obtain ⟨c1, c2⟩ := c
      have c2 := goesB_true.mp c2
      generalize hrtN t e i = H at *
      have hs : ∀ y ∈ H ++ [(i : Int)], InT t y := fun y hy => by
        rcases List.mem_append.mp hy with q | q
        · exact I.pt.pt.inn y q
        · rw [List.mem_singleton.mp q]; exact hI
      have sub : ∀ y ∈ H ++ [(i : Int)], y ∈ clo t e (H ++ [(i : Int)]) := fun y hy => (mem_clo h hs).mpr (reach_some h hs hy)
      refine ⟨clo_part h hs, clo_ab h hs fun a ha b hb => ?_, fun a ha => sub a (List.mem_append_left _ (I.mix a ha)), fun x x0 x1 hx => ?_⟩
      · rcases List.mem_append.mp ha with q | q <;> rcases List.mem_append.mp hb with q' | q'
        · exact I.ab a q b q'
        · rw [List.mem_singleton.mp q']; exact (c2 a q).symm
        · rw [List.mem_singleton.mp q]; exact c2 b q'
        · rw [List.mem_singleton.mp q, List.mem_singleton.mp q']
      · by_cases d : x = (i : Int)
        · exact absurd (sub _ (by rw [d]; simp)) hx
        · obtain ⟨a, ha, hne⟩ := I.out x x0 (by omega) fun z => hx (sub x (List.mem_append_left _ z))
          exact ⟨a, sub a (List.mem_append_left _ ha), hne⟩
    · rw [if_neg c]
      refine ⟨I.pt, I.ab, I.mix, fun x x0 x1 hx => ?_⟩
      by_cases d : x = (i : Int)
      · subst d
        have : ¬ goesB t (i : Int) (hrtN t e i) = true := fun z => c ⟨hx, z⟩
        rw [goesB_true] at this
        simp only [Classical.not_forall] at this
        obtain ⟨a, ha, hne⟩ := this
        exact ⟨a, ha, hne⟩
      · exact I.out x x0 (by omega) hx
/-- the heart -/
structure Hrt (t : Tbl) (e : Int) (H : List Int) : Prop where
  pt : PartL t e H
  ab : ∀ a ∈ H, ∀ b ∈ H, en t a b = en t b a
  cm : ∀ a b, InT t a → InT t b → cmm t e a b ∈ H
  out : ∀ x, InT t x → x ∉ H → ∃ a ∈ H, en t x a ≠ en t a x
theorem heartF_ok (h : GTbl t e) (hm : Mta t e) : Hrt t e (heartF t e) := by
  have I := hrtI h hm t.length (Nat.le_refl _)
  exact ⟨I.pt, I.ab, fun a b ha hb => I.mix _ (mixF_cm h (all_part h) (mem_irange.mpr ha) (mem_irange.mpr hb)), fun x hx hn => I.out x hx.1 hx.2 hn⟩
section
variable {H : List Int}
theorem Hrt.st (o : Hrt t e H) (h : GTbl t e) {x a : Int} (hx : InT t x) (ha : a ∈ H) : cj t e x a ∈ H := by
  rw [cj_cmm h hx (o.pt.pt.inn a ha)]
  exact o.pt.pt.mul _ (o.cm x a hx (o.pt.pt.inn a ha)) _ ha
theorem Hrt.kpt (o : Hrt t e H) (h : GTbl t e) {x : Int} (hx : InT t x) : Kpt t e H (H.map fun _ => (0 : Int)) x := by
  have z : ∀ a ∈ H, TB.mk H (H.map fun _ => (0 : Int)) a = 0 := fun a ha => mk_map (f := fun _ => (0 : Int)) ha
  exact ⟨fun a ha => o.st h hx ha, fun a ha => by rw [z _ (o.st h hx ha), z a ha]⟩
/-- it goes round a divisor of the sides -/
theorem Hrt.dvd (o : Hrt t e H) (h : GTbl t e) {q : Nat} (hq : t.length = q * H.length) {x : Int} (hx : InT t x) {k : Nat} (s : Stp t e H x k) : k ∣ q := by
  have p : PartL t e (tkW t e H x k) := by
    rw [tkW_clo (M := H.map fun _ => (0 : Int)) h o.pt hx s (o.kpt h hx)]
    exact clo_part h fun y hy => by
      rcases List.mem_append.mp hy with z | z
      · exact o.pt.pt.inn y z
      · rw [List.mem_singleton.mp z]; exact hx
  have := lag h p.pt
  rw [tkW_len, hq] at this
  have hp := List.length_pos_of_mem o.pt.pt.one
  exact Nat.dvd_of_mul_dvd_mul_right hp this
theorem cj_comm (h : GTbl t e) {x a : Int} (hx : InT t x) (ha : InT t a) : cj t e x a = a ↔ en t x a = en t a x := by
  have mv := cj_move h hx ha
  constructor
  · intro q
    rw [q] at mv
    exact mv.symm
  · intro q
    exact h.canR hx (cj_in h hx ha) ha (mv.trans q)
theorem Hrt.moves (o : Hrt t e H) (h : GTbl t e) {x : Int} (hx : InT t x) (hn : x ∉ H) : ∃ a ∈ H, cj t e x a ≠ a := by
  obtain ⟨a, ha, hne⟩ := o.out x hx hn
  exact ⟨a, ha, fun z => hne ((cj_comm h hx (o.pt.pt.inn a ha)).mp z)⟩
theorem Hrt.fixes (o : Hrt t e H) (h : GTbl t e) {x : Int} (hx : x ∈ H) {a : Int} (ha : a ∈ H) : cj t e x a = a := (cj_comm h (o.pt.pt.inn x hx) (o.pt.pt.inn a ha)).mpr (o.ab x hx a ha)
theorem cj_inj (h : GTbl t e) {x a b : Int} (hx : InT t x) (ha : InT t a) (hb : InT t b) (q : cj t e x a = cj t e x b) : a = b := by
  have e1 := cj_move h hx ha
  have e2 := cj_move h hx hb
  rw [q, e2] at e1
  exact (h.canL hx hb ha e1).symm
theorem cj_e (h : GTbl t e) {x : Int} (hx : InT t x) : cj t e x e = e := by
  unfold cj
  rw [h.u2 hx, bk_l h hx]
theorem cj_hom (h : GTbl t e) {x a b : Int} (hx : InT t x) (ha : InT t a) (hb : InT t b) : cj t e x (en t a b) = en t (cj t e x a) (cj t e x b) := by
  refine h.canR hx (cj_in h hx (h.cl ha hb)) (h.cl (cj_in h hx ha) (cj_in h hx hb)) ?_
  rw [cj_move h hx (h.cl ha hb), h.as (cj_in h hx ha) (cj_in h hx hb) hx, cj_move h hx hb, ← h.as (cj_in h hx ha) hx hb, cj_move h hx ha, h.as hx ha hb]
/-- turning by the one and by the other, in any order -/
theorem Hrt.swap (o : Hrt t e H) (h : GTbl t e) {x y a : Int} (hx : InT t x) (hy : InT t y) (ha : a ∈ H) : cj t e x (cj t e y a) = cj t e y (cj t e x a) := by
  have ia := o.pt.pt.inn a ha
  rw [cj_mul h hx hy ia, cj_mul h hy hx ia]
  have hc := o.cm x y hx hy
  have ic := o.pt.pt.inn _ hc
  -- x y = [x, y] y x
  have e1 : en t x y = en t (cmm t e x y) (en t y x) := by
    have := cj_cmm h hx hy
    have mv := cj_move h hx hy
    rw [this, h.as ic hy hx] at mv
    exact mv.symm
  rw [e1, ← cj_mul h ic (h.cl hy hx) ia]
  exact o.fixes h hc (o.st h (h.cl hy hx) ha)
/-- there is room for two out of it, and their product -/
theorem Hrt.two (o : Hrt t e H) (h : GTbl t e) (hr : 2 * H.length < t.length) {x : Int} (hx : InT t x) : ∃ y, InT t y ∧ y ∉ H ∧ en t x y ∉ H := by
  by_cases c : ∃ y, InT t y ∧ y ∉ H ∧ en t x y ∉ H
  · exact c
  · exfalso
    have cov : ∀ y ∈ irange t.length, y ∈ H ++ H.map fun a => en t (bkf t e x) a := fun y hy => by
      have iy := mem_irange.mp hy
      rw [List.mem_append]
      by_cases d : y ∈ H
      · exact .inl d
      · by_cases d2 : en t x y ∈ H
        · refine .inr (List.mem_map.mpr ⟨_, d2, ?_⟩)
          rw [← h.as (bk_in h hx) hx iy, bk_r h hx, h.u1 iy]
        · exact absurd ⟨y, iy, d, d2⟩ c
    have := nodup_le (nodup_irange' t.length) cov
    rw [irange_len, List.length_append, List.length_map] at this
    omega
/-- no room for one more -/
theorem full {P Q : List Int} (nd : Q.Nodup) (hq : ∀ z ∈ Q, z ∈ P) (hl : P.length ≤ Q.length) {z : Int} (hz : z ∈ P) : z ∈ Q := by
  by_cases c : z ∈ Q
  · exact c
  · have := nodup_le (A := z :: Q) (B := P) (List.nodup_cons.mpr ⟨c, nd⟩) fun w hw => by
      rcases List.mem_cons.mp hw with q | q
      · rw [q]; exact hz
      · exact hq w q
    rw [List.length_cons] at this
    omega
theorem Hrt.m2 (o : Hrt t e H) (h : GTbl t e) (hl : H.length ≤ 2) {x : Int} (hx : InT t x) : x ∈ H := by
  by_cases c : x ∈ H
  · exact c
  · exfalso
    obtain ⟨a, ha, hne⟩ := o.moves h hx c
    have ia := o.pt.pt.inn a ha
    have ae : a ≠ e := fun z => hne (by rw [z]; exact cj_e h hx)
    have hc := o.st h hx ha
    have ce : cj t e x a ≠ e := fun z => ae (cj_inj h hx ia h.he (z.trans (cj_e h hx).symm))
    have := full (Q := [e, a]) (by simp [Ne.symm ae]) (fun z hz => by
      simp only [List.mem_cons, List.not_mem_nil, or_false] at hz
      rcases hz with rfl | rfl
      · exact o.pt.pt.one
      · exact ha) hl hc
    simp only [List.mem_cons, List.not_mem_nil, or_false] at this
    rcases this with z | z
    · exact ce z
    · exact hne z
theorem Hrt.m3 (o : Hrt t e H) (h : GTbl t e) (hl : H.length ≤ 3) {x y : Int} (hx : InT t x) (hy : InT t y) (cx : x ∉ H) (cy : y ∉ H) : en t x y ∈ H := by
  by_cases c : en t x y ∈ H
  · exact c
  · exfalso
    have hxy := h.cl hx hy
    obtain ⟨a, ha, hne⟩ := o.moves h hxy c
    have ia := o.pt.pt.inn a ha
    rw [← cj_mul h hx hy ia] at hne
    -- the one and the other each move all but the unit
    have mv : ∀ {z : Int}, InT t z → z ∉ H → ∀ b ∈ H, b ≠ e → cj t e z b ≠ b := fun {z} hz cz b hb be q => by
      have ib := o.pt.pt.inn b hb
      obtain ⟨d, hd, hne2⟩ := o.moves h hz cz
      have id := o.pt.pt.inn d hd
      have de : d ≠ e := fun w => hne2 (by rw [w]; exact cj_e h hz)
      have db : d ≠ b := fun w => hne2 (by rw [w]; exact q)
      have hc := o.st h hz hd
      have := full (Q := [e, b, d]) (by simp [Ne.symm be, Ne.symm de, Ne.symm db]) (fun w hw => by
        simp only [List.mem_cons, List.not_mem_nil, or_false] at hw
        rcases hw with rfl | rfl | rfl
        · exact o.pt.pt.one
        · exact hb
        · exact hd) hl hc
      simp only [List.mem_cons, List.not_mem_nil, or_false] at this
      rcases this with w | w | w
      · exact de (cj_inj h hz id h.he (w.trans (cj_e h hz).symm))
      · exact db (cj_inj h hz id ib (w.trans q.symm))
      · exact hne2 w
    have ae : a ≠ e := fun z => hne (by rw [z, cj_e h hy, cj_e h hx])
    have hb := o.st h hy ha
    have ib := o.pt.pt.inn _ hb
    have ba := mv hy cy a ha ae
    have be : cj t e y a ≠ e := fun z => ae (cj_inj h hy ia h.he (z.trans (cj_e h hy).symm))
    have hcb := o.st h hx hb
    have m2 := mv hx cx _ hb be
    have := full (Q := [e, a, cj t e y a]) (by simp [Ne.symm ae, Ne.symm be, Ne.symm ba]) (fun w hw => by
      simp only [List.mem_cons, List.not_mem_nil, or_false] at hw
      rcases hw with rfl | rfl | rfl
      · exact o.pt.pt.one
      · exact ha
      · exact hb) hl hcb
    simp only [List.mem_cons, List.not_mem_nil, or_false] at this
    rcases this with w | w | w
    · exact be (cj_inj h hx ib h.he (w.trans (cj_e h hx).symm))
    · exact hne w
    · exact m2 w
theorem Hrt.sq (o : Hrt t e H) (h : GTbl t e) {x : Int} (hx : InT t x) (hs : en t x x ∈ H) {a : Int} (ha : a ∈ H) : cj t e x (cj t e x a) = a := by
  rw [cj_mul h hx hx (o.pt.pt.inn a ha)]
  exact o.fixes h hs ha
theorem Hrt.m4 (o : Hrt t e H) (h : GTbl t e) (hl : H.length ≤ 4) {x y : Int} (hx : InT t x) (hy : InT t y) (cx : x ∉ H) (cy : y ∉ H) (sx : en t x x ∈ H) (sy : en t y y ∈ H) : en t x y ∈ H := by
  by_cases c : en t x y ∈ H
  · exact c
  · exfalso
    obtain ⟨p, hp, np⟩ := o.moves h hx cx
    have ip := o.pt.pt.inn p hp
    have pe : p ≠ e := fun z => np (by rw [z]; exact cj_e h hx)
    have hp' := o.st h hx hp
    have ip' := o.pt.pt.inn _ hp'
    have pe' : cj t e x p ≠ e := fun z => pe (cj_inj h hx ip h.he (z.trans (cj_e h hx).symm))
    have back := o.sq h hx sx hp
    generalize hg : cj t e x p = p' at *
    -- all but these two are kept by x
    have keep : ∀ r ∈ H, r ≠ p → r ≠ p' → cj t e x r = r := fun r hr h1 h2 => by
      have ir := o.pt.pt.inn r hr
      by_cases re : r = e
      · rw [re]; exact cj_e h hx
      · have hc := o.st h hx hr
        have := full (Q := [e, p, p', r]) (by simp [Ne.symm pe, Ne.symm pe', Ne.symm re, Ne.symm np, Ne.symm h1, Ne.symm h2]) (fun w hw => by
          simp only [List.mem_cons, List.not_mem_nil, or_false] at hw
          rcases hw with rfl | rfl | rfl | rfl
          · exact o.pt.pt.one
          · exact hp
          · exact hp'
          · exact hr) hl hc
        simp only [List.mem_cons, List.not_mem_nil, or_false] at this
        rcases this with w | w | w | w
        · exact absurd (cj_inj h hx ir h.he (w.trans (cj_e h hx).symm)) re
        · exact absurd (cj_inj h hx ir ip' (w.trans back.symm)) h2
        · exact absurd (cj_inj h hx ir ip (w.trans hg.symm)) h1
        · exact w
    -- so does y
    have keepY : ∀ r ∈ H, r ≠ p → r ≠ p' → cj t e y r = r := fun r hr h1 h2 => by
      have ir := o.pt.pt.inn r hr
      by_cases re : r = e
      · rw [re]; exact cj_e h hy
      · have hc := o.st h hy hr
        have kx : cj t e x (cj t e y r) = cj t e y r := by rw [o.swap h hx hy hr, keep r hr h1 h2]
        have n1 : cj t e y r ≠ p := fun z => by rw [z, hg] at kx; exact np kx
        have n2 : cj t e y r ≠ p' := fun z => by rw [z, back] at kx; exact np kx.symm
        have ne : cj t e y r ≠ e := fun z => re (cj_inj h hy ir h.he (z.trans (cj_e h hy).symm))
        have := full (Q := [e, p, p', r]) (by simp [Ne.symm pe, Ne.symm pe', Ne.symm re, Ne.symm np, Ne.symm h1, Ne.symm h2]) (fun w hw => by
          simp only [List.mem_cons, List.not_mem_nil, or_false] at hw
          rcases hw with rfl | rfl | rfl | rfl
          · exact o.pt.pt.one
          · exact hp
          · exact hp'
          · exact hr) hl hc
        simp only [List.mem_cons, List.not_mem_nil, or_false] at this
        rcases this with w | w | w | w
        · exact absurd w ne
        · exact absurd w n1
        · exact absurd w n2
        · exact w
    have yp : cj t e y p = p' := by
      have hc := o.st h hy hp
      by_cases q2 : cj t e y p = p'
      · exact q2
      · exfalso
        have q1 : cj t e y p = p := by
          by_cases q1 : cj t e y p = p
          · exact q1
          · exact absurd (cj_inj h hy (o.pt.pt.inn _ hc) ip (keepY _ hc q1 q2)) q1
        have q3 : cj t e y p' = p' := by
          have hc' := o.st h hy hp'
          by_cases q3 : cj t e y p' = p'
          · exact q3
          · by_cases q4 : cj t e y p' = p
            · exact absurd (cj_inj h hy ip' ip (q4.trans q1.symm)) np
            · exact absurd (cj_inj h hy (o.pt.pt.inn _ hc') ip' (keepY _ hc' q4 q3)) q3
        obtain ⟨a, ha, hne⟩ := o.moves h hy cy
        by_cases a1 : a = p
        · exact hne (by rw [a1]; exact q1)
        · by_cases a2 : a = p'
          · exact hne (by rw [a2]; exact q3)
          · exact hne (keepY a ha a1 a2)
    have yp' : cj t e y p' = p := by
      have := o.sq h hy sy hp
      rw [yp] at this
      exact this
    obtain ⟨a, ha, hne⟩ := o.moves h (h.cl hx hy) c
    rw [← cj_mul h hx hy (o.pt.pt.inn a ha)] at hne
    by_cases a1 : a = p
    · exact hne (by rw [a1, yp, back])
    · by_cases a2 : a = p'
      · exact hne (by rw [a2, yp', hg])
      · exact hne (by rw [keepY a ha a1 a2, keep a ha a1 a2])
theorem cj_pw (h : GTbl t e) {x a : Int} (hx : InT t x) (ha : InT t a) (q : cj t e x a = a) : ∀ i, cj t e x (pw t e a i) = pw t e a i
  | 0 => cj_e h hx
  | i + 1 => by
    show cj t e x (en t (pw t e a i) a) = en t (pw t e a i) a
    rw [cj_hom h hx (pw_in h ha i) ha, cj_pw h hx ha q i, q]
theorem Hrt.gen5 (o : Hrt t e H) (h : GTbl t e) (hl : H.length = 5) {x z : Int} (hx : InT t x) (hz : z ∈ H) (ze : z ≠ e) (q : cj t e x z = z) : ∀ a ∈ H, cj t e x a = a := by
  have iz := o.pt.pt.inn z hz
  obtain ⟨d, hd, _⟩ := ex_ord h iz
  have P := ord_part h iz hd
  have sub : ∀ w ∈ (List.range d).map (pw t e z), w ∈ H := fun w hw => by
    obtain ⟨i, _, rfl⟩ := List.mem_map.mp hw
    exact pw_mem o.pt.pt.one o.pt.pt.mul hz i
  have dv := lag_aux h P H.length H (Nat.le_refl _) o.pt.pt.nd o.pt.pt.inn fun a ha b hb => o.pt.pt.mul _ ha _ (sub b hb)
  rw [List.length_map, List.length_range, hl] at dv
  have d1 : d ≠ 1 := fun w => by
    have := hd.one
    rw [w, show pw t e z 1 = z from h.u1 iz] at this
    exact ze this
  have d5 : d = 5 := by
    have := Nat.le_of_dvd (by decide) dv
    have hp := hd.pos
    obtain ⟨r, hr⟩ := dv
    match d, this, hp, d1 with
    | 2, _, _, _ => omega
    | 3, _, _, _ => omega
    | 4, _, _, _ => omega
    | 5, _, _, _ => rfl
    | 1, _, _, w => exact absurd rfl w
  intro a ha
  have := full P.nd sub (by rw [List.length_map, List.length_range, d5, hl]; exact Nat.le_refl _) ha
  obtain ⟨i, _, rfl⟩ := List.mem_map.mp this
  exact cj_pw h hx iz q i
theorem Hrt.inv5 (o : Hrt t e H) (h : GTbl t e) (hl : H.length = 5) {x : Int} (hx : InT t x) (cx : x ∉ H) (sx : en t x x ∈ H) {a : Int} (ha : a ∈ H) : en t a (cj t e x a) = e := by
  by_cases c : en t a (cj t e x a) = e
  · exact c
  · exfalso
    have ia := o.pt.pt.inn a ha
    have hc := o.st h hx ha
    have ic := o.pt.pt.inn _ hc
    have hz := o.pt.pt.mul _ ha _ hc
    have fz : cj t e x (en t a (cj t e x a)) = en t a (cj t e x a) := by
      rw [cj_hom h hx ia ic, o.sq h hx sx ha]
      exact o.ab _ hc _ ha
    obtain ⟨b, hb, hne⟩ := o.moves h hx cx
    exact hne (o.gen5 h hl hx hz c fz b hb)
theorem Hrt.m5 (o : Hrt t e H) (h : GTbl t e) (hl : H.length = 5) {x y : Int} (hx : InT t x) (hy : InT t y) (cx : x ∉ H) (cy : y ∉ H) (sx : en t x x ∈ H) (sy : en t y y ∈ H) : en t x y ∈ H := by
  by_cases c : en t x y ∈ H
  · exact c
  · exfalso
    obtain ⟨a, ha, hne⟩ := o.moves h (h.cl hx hy) c
    have ia := o.pt.pt.inn a ha
    rw [← cj_mul h hx hy ia] at hne
    have hb := o.st h hy ha
    have ib := o.pt.pt.inn _ hb
    have e1 := o.inv5 h hl hy cy sy ha
    have e2 := o.inv5 h hl hx cx sx hb
    rw [o.ab a ha _ hb] at e1
    exact hne (h.canL ib (o.pt.pt.inn _ (o.st h hx hb)) ia (e2.trans e1.symm))
/-- some thing leads the sides round -/
theorem Hrt.leader (o : Hrt t e H) (h : GTbl t e) : ∃ (x : Int) (k : Nat), InT t x ∧ Stp t e H x k ∧ k * H.length = t.length := by
  obtain ⟨q, hq0⟩ := lag h o.pt.pt
  have hq : t.length = q * H.length := by rw [hq0, Nat.mul_comm]
  have hm := List.length_pos_of_mem o.pt.pt.one
  have hl := h.sz.2.1
  have hl1 := h.sz.1
  have q0 : 0 < q := by
    rcases Nat.eq_zero_or_pos q with z | z
    · rw [z, Nat.zero_mul] at hq; omega
    · exact z
  have fin : ∀ {x : Int} {k : Nat}, InT t x → Stp t e H x k → k = q → ∃ (x : Int) (k : Nat), InT t x ∧ Stp t e H x k ∧ k * H.length = t.length := fun {x k} hx s e => ⟨x, k, hx, s, by rw [e, hq]⟩
  -- one is out of it
  have outer : 1 < q → ∃ x, InT t x ∧ x ∉ H := fun z => by
    by_cases c : ∃ x, InT t x ∧ x ∉ H
    · exact c
    · exfalso
      have := nodup_le (nodup_irange' t.length) fun y (hy : y ∈ irange t.length) => by
        by_cases d : y ∈ H
        · exact d
        · exact absurd ⟨y, mem_irange.mp hy, d⟩ c
      rw [irange_len] at this
      have : 2 * H.length ≤ q * H.length := Nat.mul_le_mul_right _ z
      omega
  have kout : ∀ {x : Int} {k : Nat}, InT t x → x ∉ H → Stp t e H x k → k ≠ 1 := fun {x k} hx cx s w => by
    have := s.fin
    rw [w, show pw t e x 1 = x from h.u1 hx] at this
    exact cx this
  by_cases c1 : q = 1
  · obtain ⟨k, hk, _⟩ := stp_ex h o.pt.pt.one h.he
    have := o.dvd h hq h.he hk
    rw [c1] at this
    exact fin h.he hk (by rw [Nat.dvd_one.mp this, c1])
  obtain ⟨x, hx, cx⟩ := outer (by omega)
  by_cases pr : ∀ k, k ∣ q → k = 1 ∨ k = q
  · obtain ⟨k, hk, _⟩ := stp_ex h o.pt.pt.one hx
    rcases pr k (o.dvd h hq hx hk) with w | w
    · exact absurd w (kout hx cx hk)
    · exact fin hx hk w
  -- q is no prime
  have small : q * H.length ≤ 23 := by omega
  have m3 : 3 ≤ H.length := by
    by_cases w : H.length ≤ 2
    · exact absurd (o.m2 h w hx) cx
    · omega
  have q7 : q ≤ 7 := by
    have : q * 3 ≤ q * H.length := Nat.mul_le_mul_left _ m3
    omega
  have q46 : q = 4 ∨ q = 6 := by
    have no : ∀ r : Nat, (∀ k, k ∣ r → k = 1 ∨ k = r) → q ≠ r := fun r hr z => pr (z ▸ hr)
    have two : ∀ r : Nat, r ≤ 7 → (∀ k : Nat, k ≤ 7 → k ∣ r → k = 1 ∨ k = r) → 0 < r → ∀ k, k ∣ r → k = 1 ∨ k = r := fun r hr hk h0 k hd => hk k (Nat.le_trans (Nat.le_of_dvd h0 hd) hr) hd
    have n2 := no 2 (two 2 (by decide) (by decide) (by decide))
    have n3 := no 3 (two 3 (by decide) (by decide) (by decide))
    have n5 := no 5 (two 5 (by decide) (by decide) (by decide))
    have n7 := no 7 (two 7 (by decide) (by decide) (by decide))
    omega
  have room : 2 * H.length < t.length := by
    have : 4 * H.length ≤ q * H.length := Nat.mul_le_mul_right _ (by omega)
    omega
  obtain ⟨y, hy, cy, cxy⟩ := o.two h room hx
  have m4 : 4 ≤ H.length := by
    by_cases w : H.length ≤ 3
    · exact absurd (o.m3 h w hx hy cx cy) cxy
    · omega
  have q4 : q = 4 := by
    rcases q46 with w | w
    · exact w
    · exfalso
      have : 6 * 4 ≤ q * H.length := by rw [w]; exact Nat.mul_le_mul_left _ m4
      omega
  have m5 : H.length ≤ 5 := by
    rw [q4] at small
    omega
  by_cases led : ∃ (z : Int) (k : Nat), InT t z ∧ Stp t e H z k ∧ k = 4
  · obtain ⟨z, k, hz, s, w⟩ := led
    exact fin hz s (by omega)
  · exfalso
    have sq : ∀ z, InT t z → en t z z ∈ H := fun z hz => by
      obtain ⟨k, s, _⟩ := stp_ex h o.pt.pt.one hz
      have dv := o.dvd h hq hz s
      rw [q4] at dv
      have k4 : k ≠ 4 := fun w => led ⟨z, k, hz, s, w⟩
      have := Nat.le_of_dvd (by decide) dv
      have hp := s.pos
      have e2 : pw t e z 2 = en t z z := by show en t (en t e z) z = _; rw [h.u1 hz]
      have e1 : pw t e z 1 = z := h.u1 hz
      rcases (by
        obtain ⟨r, hr⟩ := dv
        have : k = 1 ∨ k = 2 ∨ k = 3 := by omega
        rcases this with w | w | w
        · exact .inl w
        · exact .inr w
        · rw [w] at hr; omega : k = 1 ∨ k = 2) with w | w
      · have := s.fin
        rw [w, e1] at this
        exact o.pt.pt.mul _ this _ this
      · have := s.fin
        rw [w, e2] at this
        exact this
    by_cases w : H.length ≤ 4
    · exact cxy (o.m4 h w hx hy cx cy (sq x hx) (sq y hy))
    · exact cxy (o.m5 h (by omega) hx hy cx cy (sq x hx) (sq y hy))
end
end
end TB

/-! TbRd: the table of a round; what is due of a table. -/
namespace TB
open PySem L2
def rndT (n : Int) : Tbl := (irange n).map fun a => (irange n).map fun b => (a + b) % n
theorem rndT_len {n : Int} : (rndT n).length = n.toNat := by unfold rndT; rw [List.length_map, irange_len]
theorem rndT_row {n : Int} {r : List Int} (h : r ∈ rndT n) : r.length = n.toNat := by
  obtain ⟨a, _, rfl⟩ := List.mem_map.mp h
  rw [List.length_map, irange_len]
theorem rndT_G {n : Int} (h1 : 1 ≤ n) (h2 : n ≤ 23) : GTbl (rndT n) 0 := by
  refine tbl_of (n := n) (f := fun a b => (a + b) % n) (e := 0) ⟨⟨by omega, by omega⟩, fun a b _ _ => ⟨Int.emod_nonneg _ (by omega), Int.emod_lt_of_pos _ (by omega)⟩, fun a ha => ?_, fun a ha => ⟨(0 - a) % n, ⟨Int.emod_nonneg _ (by omega), Int.emod_lt_of_pos _ (by omega)⟩, ?_⟩, fun a b c _ _ _ => ?_⟩ id h1 h2 (fun a h => h) (fun b h => ⟨b, h, rfl⟩) (by rw [rndT_len]; omega) (fun r hr => by rw [rndT_row hr, rndT_len]) fun a b ha hb => ?_
  · simp only [Int.zero_add, Int.add_zero]
    exact ⟨Int.emod_eq_of_lt ha.1 ha.2, Int.emod_eq_of_lt ha.1 ha.2⟩
  · simp only [Int.add_emod_emod]
    rw [show a + (0 - a) = 0 by omega, Int.zero_emod]
  · simp only [Int.emod_add_emod, Int.add_emod_emod, Int.add_assoc]
  · show gt (gt (rndT n) a) b = _
    unfold rndT
    rw [gt_map ha.1 ha.2, gt_map hb.1 hb.2]
    rfl
section
variable {c : Cn} {Γ : List Sl} {ta te : TE} {β : Type} {_ : Rp β}
/-- [own list for i in range(n)] -/
theorem ev_mapR2 {n : Int} {j : Nat} {vs : List Nat} (f : Int → List β) (h : Ev c Γ ta (.im n)) (hn : n < 1000000) (hn0 : -1000000 < n) (hj : j ∈ vs) (hu : UnAt Γ vs) (he : ∀ i : Int, 0 ≤ i → i < n → Ev c.no (Γ.set j (.im i)) te (.ol (f i))) : Ev c Γ (tLc (iRng1 (tCons ta tNil)) (gName j) tYes te vs) (.o2 ((irange n).map f)) := by
  refine ev_is (ev_lc2 (fun _ => true) (fun i => f (i : Int)) (ei_rng1 h (by omega) (by omega)) (by omega) (fun k hk => by simp at hk; rw [hk]; exact hj) hu (fun i hi => fun B R0 R H ρ Δ σ S Q q _ => q R H S) (fun i hi _ => he _ (by omega) (by omega))) ?_
  rw [kept_all]
  unfold irange
  rw [List.map_map]
  rfl
end
/-! ### what is due of a table that may be spoilt -/
def nmS : String → Str := fun s => (s : Str)
abbrev xS (x : Str) (h : PyData.strOk x = true := by decide +kernel) : IX := .s x h
def DueR (t : Tbl) (D : List IX) : Prop := (¬ SizeOk t ∧ D = [xS "size"]) ∨ (SizeOk t ∧ NoStg t ∧ D = []) ∨ (SizeOk t ∧ ∃ a b : Nat, FirstStg t a b ∧ D = [xS "stranger", .i a, .i b])
theorem stg_one {t : Tbl} {a b a' b' : Nat} (h : FirstStg t a b) (h' : FirstStg t a' b') : a = a' ∧ b = b' := by
  have e : a = a' := by
    rcases Nat.lt_trichotomy a a' with q | q | q
    · exact absurd h.bad (h'.rows a h.ha q _ (List.getElem_mem h.hb))
    · exact q
    · exact absurd h'.bad (h.rows a' h'.ha q _ (List.getElem_mem h'.hb))
  subst e
  refine ⟨rfl, ?_⟩
  rcases Nat.lt_trichotomy b b' with q | q | q
  · exact absurd h.bad (h'.row b h.hb q)
  · exact q
  · exact absurd h'.bad (h.row b' h'.hb q)
theorem stg_no {t : Tbl} {a b : Nat} (h : FirstStg t a b) : ¬ NoStg t := fun z => by
  have := z _ (List.getElem_mem h.ha) _ (List.getElem_mem h.hb)
  have := h.bad
  unfold Stg at this
  omega
theorem stg_ex {t : Tbl} (h : ¬ NoStg t) : ∃ a b, FirstStg t a b := by
  have ex : ∃ a, ∃ ha : a < t.length, ∃ x ∈ t[a], Stg t x := by
    refine Classical.byContradiction fun hc => h fun r hr x hx => ?_
    obtain ⟨a, ha, rfl⟩ := List.getElem_of_mem hr
    have : ¬ Stg t x := fun z => hc ⟨a, ha, x, hx, z⟩
    unfold Stg at this
    omega
  obtain ⟨a, ⟨ha, x, hx, hs⟩, low⟩ := least ex
  obtain ⟨b, ⟨hb, hs2⟩, low2⟩ := least (p := fun b => ∃ hb : b < t[a].length, Stg t t[a][b]) (by
    obtain ⟨b, hb, rfl⟩ := List.getElem_of_mem hx
    exact ⟨b, hb, hs⟩)
  exact ⟨a, b, ha, hb, hs2, fun i hi hlt y hy hys => low i hlt ⟨hi, y, hy, hys⟩, fun j hj hlt hjs => low2 j hlt ⟨hj, hjs⟩⟩
theorem due_one {t : Tbl} {D D' : List IX} (h : DueR t D) (h' : DueR t D') : D = D' := by
  rcases h with ⟨a, rfl⟩ | ⟨a, b, rfl⟩ | ⟨a, x, y, b, rfl⟩ <;> rcases h' with ⟨a', rfl⟩ | ⟨a', b', rfl⟩ | ⟨a', x', y', b', rfl⟩ <;> try rfl
  all_goals try (first | exact absurd a a' | exact absurd a' a | exact absurd b (stg_no b') | exact absurd b' (stg_no b))
  obtain ⟨rfl, rfl⟩ := stg_one b b'
  rfl
end TB
namespace TB
open PySem L2
/-- what a spoilt table is refused with -/
def ExR (t : Tbl) (r : Rf) : Prop := (¬ SizeOk t ∧ r = ⟨.BadSize, []⟩) ∨ (SizeOk t ∧ ∃ a b : Nat, FirstStg t a b ∧ r = ⟨.Stranger, [("column", .int b), ("row", .int a)]⟩)
/-! ### the names of what was caught -/
def clN : List (CN × IX) := [(.BadSize, xS "size"), (.Stranger, xS "stranger"), (.NoUnit, xS "unit"), (.NoBack, xS "back"), (.NotTogether, xS "together"), (.NoPart, xS "part"), (.NotSteady, xS "steady"), (.BadWheel, xS "wheel"), (.NoMove, xS "move"), (.BadMarks, xS "marks"), (.NoWay, xS "way"), (.NotKept, xS "kept"), (.OtherGroup, xS "group"), (.OtherWheel, xS "otherwheel"), (.TooGreat, xS "great")]
def calF : Option Rf → List IX
  | none => []
  | some r => (clN.filter fun p => subB r.name p.1).map (·.2)
section
variable {c : Cn} {Γ : List Sl} {ta tb te : TE} {tt : TT} {α β γ : Type} {_ : Rp α} {_ : Rp β} {_ : Rp γ}
/-- [x for x, y in zip(xs, ys) if y] -/
theorem ev_zipF {xs : List α} {ys : List Bool} {i j : Nat} {vs : List Nat} (h : Ev c Γ ta (.im xs)) (h2 : Ev c Γ tb (.im ys)) (hn : xs.length < 1000000) (hl : xs.length = ys.length) (hj : i ∈ vs ∧ j ∈ vs) (hu : UnAt Γ vs) (ht : ∀ (x : α) (y : Bool), EvT c.no ((Γ.set i (.im x)).set j (.im y)) tt y) (he : ∀ (x : α) (y : Bool), Ev c.no ((Γ.set i (.im x)).set j (.im y)) te (.im x)) :
    Ev c Γ (tLc (iZip c.Z.K (tCons ta (tCons tb tNil))) (gTup c.Z.K 2 (gCons (gName i) (gCons (gName j) gNil))) tt te vs) (.ol (((xs.zip ys).filter (·.2)).map (·.1))) := by
  refine ev_is (ev_lc (fun i => ys.getD i (Rp.df : Bool)) (fun i => xs.getD i (Rp.df : α)) (ei_zip h h2) (by omega) (fun k hk => by simp at hk; rcases hk with rfl | rfl; exact hj.1; exact hj.2) hu (fun i hi => ht _ _) (fun i hi _ => he _ _)) (congrArg Sl.ol ?_)
  unfold kept
  rw [← hl, Nat.min_self]
  clear h h2 ht he hn
  induction xs generalizing ys with
  | nil => rfl
  | cons x xs ih =>
    cases ys with
    | nil => simp at hl
    | cons y ys =>
      rw [List.length_cons, List.range_succ_eq_map, List.filter_cons, List.zip_cons_cons, List.filter_cons]
      have e1 : ∀ i, (y :: ys).getD (i + 1) (Rp.df : Bool) = ys.getD i Rp.df := fun i => rfl
      have e2 : List.map (fun i => (x :: xs).getD i Rp.df) (List.filter (fun i => (y :: ys).getD i Rp.df) (List.map Nat.succ (List.range xs.length))) = ((xs.zip ys).filter (·.2)).map (·.1) := by
        rw [← ih (by simpa using hl), List.filter_map, List.map_map]
        rfl
      show List.map _ (if y = true then _ else _) = List.map _ (if y = true then _ else _)
      cases y with
      | true => rw [if_pos rfl, if_pos rfl, List.map_cons, e2]; rfl
      | false => rw [if_neg (by simp), if_neg (by simp), e2]
end
end TB

/-! TbAsk: what is refused where one-row ways are asked; lists turned and shortened. -/
namespace TB
open PySem PySem.Spec PyProof.Rows L2
def SrvOk (L : Nat) (sp : Option Int) (m : Int) : Prop := (sp = none ∧ m = (L : Int)) ∨ (sp = some m ∧ (L : Int) ≤ m ∧ m % (L : Int) = 0 ∧ m ≤ 60)
theorem SrvOk.pos {L : Nat} {sp : Option Int} {m : Int} (h : SrvOk L sp m) (hL : 1 ≤ L) : 0 < m := by
  rcases h with ⟨_, rfl⟩ | ⟨_, h, _⟩ <;> omega
theorem SrvOk.le {L : Nat} {sp : Option Int} {m : Int} (h : SrvOk L sp m) (hL : L ≤ 60) : m ≤ 60 := by
  rcases h with ⟨_, rfl⟩ | ⟨_, _, _, h⟩ <;> omega
theorem SrvOk.one {L : Nat} {sp : Option Int} {m m' : Int} (h : SrvOk L sp m) (h' : SrvOk L sp m') : m = m' := by
  rcases h with ⟨rfl, rfl⟩ | ⟨rfl, _⟩
  · rcases h' with ⟨_, rfl⟩ | ⟨z, _⟩
    · rfl
    · cases z
  · rcases h' with ⟨z, _⟩ | ⟨z, _⟩
    · cases z
    · cases z; rfl
theorem SrvOk.mod {L : Nat} {sp : Option Int} {m : Int} (h : SrvOk L sp m) : m % (L : Int) = 0 := by
  rcases h with ⟨_, rfl⟩ | ⟨_, _, h, _⟩
  · exact Int.emod_self
  · exact h
theorem SrvOk.some' {L : Nat} {s m : Int} (h : SrvOk L (some s) m) : m = s := by
  rcases h with ⟨z, _⟩ | ⟨z, _⟩
  · cases z
  · cases z; rfl
abbrev Srv (L : Nat) (s : Int) : Prop := SrvOk L (some s) s
theorem srv_iff {L : Nat} {s : Int} : Srv L s ↔ (L : Int) ≤ s ∧ s % (L : Int) = 0 ∧ s ≤ 60 := by
  constructor
  · rintro (⟨z, _⟩ | ⟨_, h⟩)
    · cases z
    · exact h
  · exact fun h => .inr ⟨rfl, h⟩
def AskO (t : Tbl) (L : Nat) (P M : List Int) (s w : Int) (o : Option Rf) : Prop :=
  (¬ IsPart t P ∧ o = some ⟨.NoPart, []⟩) ∨ (IsPart t P ∧ ¬ Srv L s ∧ o = some ⟨.BadWheel, []⟩) ∨ (IsPart t P ∧ Srv L s ∧ w ≠ 1 ∧ ¬ MarksOk P M s ∧ o = some ⟨.BadMarks, []⟩) ∨
  (IsPart t P ∧ Srv L s ∧ w = 2 ∧ MarksOk P M s ∧ ∃ p, brkF t P M s = some p ∧ o = some ⟨.NoWay, [("two", .int p.2), ("one", .int p.1)]⟩) ∨
  (IsPart t P ∧ Srv L s ∧ (w = 1 ∨ MarksOk P M s ∧ (w = 0 ∨ brkF t P M s = none)) ∧ (o = none ∨ ∃ r, o = some r ∧ (r.name = .NotSteady ∨ r.name = .NotKept)))
def wayL (o : Option (Int × Int)) : List IX := match o with | none => [] | some p => [xS "way", .i p.1, .i p.2]
def WantS (t : Tbl) (L : Nat) (P M : List Int) (s w : Int) (D : List IX) : Prop :=
  (¬ IsPart t P ∧ D = [xS "part"]) ∨ (IsPart t P ∧ ¬ Srv L s ∧ D = [xS "wheel"]) ∨ (IsPart t P ∧ Srv L s ∧ w ≠ 1 ∧ ¬ MarksOk P M s ∧ D = [xS "marks"]) ∨
  (IsPart t P ∧ Srv L s ∧ w = 2 ∧ MarksOk P M s ∧ ∃ p, brkF t P M s = some p ∧ D = [xS "way", .i p.1, .i p.2]) ∨
  (IsPart t P ∧ Srv L s ∧ (w = 1 ∨ MarksOk P M s ∧ (w = 0 ∨ brkF t P M s = none)) ∧ D = [])
def DueS (t : Tbl) (L : Nat) (P M : List Int) (s : Int) (D : List IX) : Prop :=
  (¬ IsPart t P ∧ D = [xS "part"]) ∨ (IsPart t P ∧ ¬ Srv L s ∧ D = [xS "wheel"]) ∨ (IsPart t P ∧ Srv L s ∧ ¬ MarksOk P M s ∧ D = [xS "marks"]) ∨
  (IsPart t P ∧ Srv L s ∧ MarksOk P M s ∧ D = wayL (brkF t P M s))
section
variable {c : Cn} {Γ : List Sl} {ta tb te : TE} {s : Sl} {α : Type} {_ : Rp α} {P : Po}
/-- xs.reverse() -/
theorem w_rev {i : Nat} {xs : List α} (e : Γ[i]? = some (.ol xs)) (k : P.nx (Γ.set i (.ol xs.reverse))) : W c Γ (tDrop (tBM0 c.Z.K "list" rReverse (tVar i))) P := fun B R0 R H ρ Δ σ D S n r bb kk x => by
  obtain ⟨p, vs, h2, h3, h4, h5⟩ := sx_mutl S e
  refine ⟨.ref p, h2, tyL h3, p, vs, rfl, rfl, h3, n R _ _ _ (h5 vs.reverse xs.reverse ?_) k⟩
  clear h3 h5 e k
  induction h4 with
  | nil => exact .nil
  | cons r t ih => rw [List.reverse_cons, List.reverse_cons]; exact paired_append ih (.cons r .nil)
theorem paired_erase {α β : Type} {F : α → β → Prop} : ∀ {l : List α} {m : List β} (i : Nat), Paired F l m → Paired F (l.eraseIdx i) (m.eraseIdx i)
  | _, _, _, .nil => .nil
  | _, _, 0, .cons _ t => t
  | _, _, i + 1, .cons r t => .cons r (paired_erase i t)
/-- xs.pop(i) -/
theorem w_popAt {i : Nat} {xs : List α} {j : Int} (e : Γ[i]? = some (.ol xs)) (hj : EvP c Γ ta j) (h0 : 0 ≤ j) (h1 : j < xs.length) (hl : xs.length < 1000000) (k : P.nx (Γ.set i (.ol (xs.eraseIdx j.toNat)))) : W c Γ (tDrop (tBM c.Z.K "list" rPopAt (tVar i) (tCons ta tNil))) P := fun B R0 R H ρ Δ σ D S n r bb kk x => by
  obtain ⟨p, vs, h2, h3, h4, h5⟩ := sx_mutl S e
  have hl2 := Paired.length h4
  refine ⟨.ref p, h2, tyL h3, hj B R0 R H ρ Δ σ S _ fun v rv => ?_⟩
  have ev : v = .int j := rv
  subst ev
  exact ⟨p, vs, j, j.toNat, vs[j.toNat]'(by omega), rfl, rfl, h3, by omega, by omega, (by unfold seqIndex?; simp; omega), List.getElem?_eq_getElem (by omega), n R _ _ _ (h5 (vs.eraseIdx j.toNat) (xs.eraseIdx j.toNat) (paired_erase _ h4)) k⟩
end
end TB

/-! TbMo: a comprehension over an own list, which stays. -/
namespace TB
open PySem PySem.Spec PyProof.Rows L2
section
variable {c : Cn} {Γ : List Sl} {ta tb te tl ty : TE} {t u : TS} {s s' so : Sl} {α β : Type} {_ : Rp α} {_ : Rp β} {P : Po}
theorem sx_outO {Z : Zz} {B R0 R H : Hp} {ρ σ : List (Option V)} {Δ : List Sl} {i : Nat} {xs : List α} (S : Sx Z B R0 R H ρ Δ σ Γ) (e : Γ[i]? = some (.ol xs)) :
    ∃ (p : Addr) (s : Sl), σ[i]? = some (some (.ref p)) ∧ Sx Z B R0 R H (some (.ref p) :: ρ) (.ol xs :: Δ) σ (Γ.set i s) := by
  obtain ⟨o, h1, S1⟩ := sx_take S e
  obtain ⟨o', f, g1, p, vs0, _, eo, hp, _⟩ := sx_slot S e
  rw [h1] at g1
  cases g1
  subst eo
  have At : ∃ s : Sl, ∀ Z R H, slok Z R H (some (.ref p)) s [] := ⟨.ow ⟨fun _ _ _ w => w = .ref p, fun _ h => h⟩, fun Z R H => ⟨_, rfl, rfl, fun q hq => by simp at hq⟩⟩
  obtain ⟨s, s2⟩ := At
  refine ⟨p, s, h1, ?_⟩
  obtain ⟨hl, own, hs', es⟩ := S1
  have e' : (.ol xs :: Δ ++ Γ.set i .un)[(some (V.ref p) :: ρ).length + i]? = some .un := by
    rw [at_slot hl]
    rw [List.getElem?_set_self]
    exact (List.getElem?_eq_some_iff.mp e).1
  obtain ⟨o2, a1, f2, a2, b1, b2, b3, b4⟩ := es_at es e'
  rw [at_slot', h1] at b1
  cases b1
  have b3' : f2 = [] := b3
  subst b3'
  have q := b4 R H (some (.ref p)) s [] (Same.refl _) (fun _ _ => rfl) (s2 _ _ _)
  rw [set_same (by rw [at_slot']; exact h1), hl, List.set_append_right _ _ (by omega), show (Sl.ol xs :: Δ).length + i - (Sl.ol xs :: Δ).length = i by omega, List.set_set] at q
  exact ⟨hl, own, hs', by rw [b2]; exact q⟩
theorem sx_backO {Z : Zz} {B R0 R H : Hp} {ρ σ : List (Option V)} {Δ : List Sl} {i : Nat} {p : Addr} {xs : List α} (S : Sx Z B R0 R H (some (.ref p) :: ρ) (.ol xs :: Δ) σ (Γ.set i s)) (h1 : σ[i]? = some (some (.ref p))) (e : Γ[i]? = some (.ol xs)) : Sx Z B R0 R H ρ Δ σ Γ := by
  have S4 := sx_asg S i
  have e2 : Γ.set i (.ol xs) = Γ := by
    apply List.ext_getElem?
    intro k
    by_cases h : i = k
    · subst h
      rw [List.getElem?_set_self (List.getElem?_eq_some_iff.mp e).1]
      exact e.symm
    · rw [List.getElem?_set_ne h]
  rw [set_same h1, List.set_set, e2] at S4
  exact S4
/-- [f(x) for x in own] -/
theorem ev_mapO {xs : List α} {i j : Nat} {vs : List Nat} (f : α → β) (e : Γ[i]? = some (.ol xs)) (hn : xs.length < 1000000) (hj : j ∈ vs) (hu : ∀ s, UnAt (Γ.set i s) vs) (he : ∀ s x, x ∈ xs → Ev c.no ((Γ.set i s).set j (.im x)) te (.im (f x))) :
    Ev c Γ (tLc (iList c.Z.K (tVar i)) (gName j) tYes te vs) (.ol (xs.map f)) := fun B R0 R H ρ Δ σ S Q q x => by
  obtain ⟨p, s, h1, S2⟩ := sx_outO S e
  obtain ⟨p0, vs0, e0, hp, rp0, _⟩ := sx_mutTop S2
  cases e0
  refine ⟨.ref p, h1, p, rfl, ⟨vs0, SqL.of hp⟩, fun Dl hD => ?_⟩
  refine ⟨fun k m H => m = xs.length - k ∧ k ≤ xs.length ∧ ∃ R, Sx c.Z B R0 R H (some (.ref Dl) :: some (.ref p) :: ρ) (.ol ((xs.take k).map f) :: .ol xs :: Δ) σ (Γ.set i s), ⟨xs.length, by simp, Nat.zero_le _, R, sx_newl S2 hD .nil⟩, ?_⟩
  rintro k m H2 ⟨rfl, hin, R2, S3⟩
  obtain ⟨p', us, e1, g2, g3, _⟩ := sx_mutTop (sx_swapTop S3)
  cases e1
  have hl := Paired.length g3
  by_cases hlt : k < xs.length
  · obtain ⟨w, hw, rw'⟩ := paired_get g3 (i := k) (b := xs[k]) (List.getElem?_eq_getElem hlt)
    refine .inr ⟨⟨us, w, SqL.of g2, hw⟩, fun H' => ∃ R, Sx c.Z B R0 R H' (some (.ref Dl) :: some (.ref p) :: ρ) (.ol ((xs.take (k + 1)).map f) :: .ol xs :: Δ) σ (Γ.set i s), fun H' h => ⟨xs.length - (k + 1), by omega, rfl, hlt, h⟩, fun y H' hy => ?_⟩
    obtain ⟨rfl, hy⟩ := hy
    have hy2 := hy us (SqL.of g2)
    rw [hw] at hy2
    cases hy2
    have S2w := sx_wipe S3 vs
    rw [wipeG_un (hu s)] at S2w
    have hw2 : wipe ((wipe σ vs).set j (some w)) vs = wipe (wipe σ vs) vs := wipe_set hj
    refine ⟨hw2.trans (wipe_wipe _ vs), ?_⟩
    have back : ∀ {R4 H4 : Hp} {o : Option V} {s' : Sl}, Sx c.Z B R0 R4 H4 (o :: some (.ref p) :: ρ) (s' :: .ol xs :: Δ) ((wipe σ vs).set j (some w)) ((Γ.set i s).set j (.im xs[k])) → Sx c.Z B R0 R4 H4 (o :: some (.ref p) :: ρ) (s' :: .ol xs :: Δ) σ (Γ.set i s) := fun S4 => by
      have q4 := sx_wipe S4 vs
      rw [hw2, wipe_wipe, wipeG_set hj, wipeG_un (hu s)] at q4
      exact sx_unwipe (hu s) q4
    refine he s _ (List.getElem_mem hlt) B R0 R2 _ _ _ _ (sx_asg (sx_push S2w rw') j) _ (fun w2 R5 H5 S5 => ?_) (Xok.no c _ _ _ _)
    obtain ⟨p1, vs1, e1, k1, k2, k3⟩ := sx_mutTop (sx_swapTop S5)
    cases e1
    have hl1 := Paired.length k2
    refine ⟨vs1, k1, Nat.lt_of_lt_of_le (by rw [List.length_map, List.length_take] at hl1; omega : vs1.length < 1000000) (by decide), R5, ?_⟩
    rw [take_snoc hlt, List.map_append]
    exact back (sx_pop2 (k3 (vs1 ++ [w2]) ((xs.take k).map f ++ [f xs[k]]) (paired_append k2 (.cons (sx_top' S5) .nil))))
  · have ek : k = xs.length := by omega
    subst ek
    rw [List.take_length] at S3
    exact .inl ⟨⟨us, SqL.of g2, by omega⟩, q _ R2 H2 (sx_backO (sx_swapTop S3) h1 e)⟩
theorem sx_lst1 {Z : Zz} {B R0 R H : Hp} {ρ σ : List (Option V)} {Δ : List Sl} {p : Addr} {x : V} {xs : List α} (S : Sx Z B R0 R H (some x :: ρ) (.ol xs :: Δ) σ Γ) (np : H p = none) : Sx Z B R0 R (upd H p (.lst [x])) (some (.ref p) :: ρ) (.o2 [xs] :: Δ) σ Γ := by
  obtain ⟨hl, own, hs, f1, g1, rfl, ⟨px, vx, rfl, ex, hx, rx⟩, es⟩ := S
  cases ex
  have fp := fresh_own hs (Z := Z) (τ := some (.ref px) :: (ρ ++ σ)) (Θ := .ol xs :: (Δ ++ Γ)) ⟨[px], _, rfl, ⟨px, vx, rfl, rfl, hx, rx⟩, es⟩ np
  have nd := hs.nd
  have q := fp.2.2
  simp only [List.cons_append, List.nil_append, List.mem_cons, not_or, List.nodup_cons] at nd q
  refine ⟨by simpa using hl, (p :: [px]) ++ g1, ⟨hs.rh.trans (same_upd np), hs.bh.trans (same_upd np), hs.r0, hs.nw, fun b hb => ?_, ?_⟩, p :: [px], g1, rfl, ⟨p, [px], rfl, rfl, upd_same, ?_⟩, es_mono (Same.refl _) (fun b hb => upd_ne fun z => q.2 (z ▸ hb)) es⟩
  · simp only [List.cons_append, List.nil_append, List.mem_cons] at hb
    rcases hb with rfl | rfl | hb
    · exact ⟨fp.1, fp.2.1⟩
    · exact hs.ow _ (by simp)
    · exact hs.ow _ (by simp [hb])
  · simp only [List.cons_append, List.nil_append, List.nodup_cons, List.mem_cons, not_or]
    exact ⟨⟨q.1, q.2⟩, nd.1, nd.2⟩
  · exact .cons ⟨vx, by rw [upd_ne (fun z => q.1 z.symm)]; exact hx, rx⟩ .nil
theorem ev_lst1o {xs : List α} (h : Ev c Γ te (.ol xs)) : Ev c Γ (tLst (tCons te tNil)) (.o2 [xs]) := fun B R0 R H ρ Δ σ S Q q xk =>
  h B R0 R H ρ Δ σ S _ (fun x R1 H1 S1 => ⟨by show 1 ≤ sizeLine; decide, fun p np => q _ R1 _ (sx_lst1 S1 np)⟩) xk
end
end TB

/-! TbLt: rows compared by <; own tables copied, and wrecked. -/
namespace TB
open PySem PySem.Spec PyProof.Rows L2 PySem.W
/-- < of rows of ints -/
def rLtR (K : PySem.W.Frag) : R2 := fun x y H Q => ∃ ds es : List Int, Dp K H x (.list (ds.map .int)) ∧ Dp K H y (.list (es.map .int)) ∧ Q (.bl (decide (ds < es))) H
theorem dataLt_rows (x y : List Int) : dataLt (.list (x.map .int)) (.list (y.map .int)) = decide (x < y) := by
  rw [dataLt_list]
  show rowLt (x.map .int) (y.map .int) = _
  rw [dataLt_ints]
theorem go_ltR {X : Cx} (hu : X.A.units + 64 < cLine) : OpR X (compareOp .Lt) (rLtR X.K) := by
  intro pins s σ H x y v u Q I rx ry h
  obtain ⟨ds, es, h1, h2, q⟩ := h
  obtain ⟨as, ra⟩ := Dp.reads I _ _ _ h1 rx
  obtain ⟨bs, rb⟩ := Dp.reads I _ _ _ h2 ry
  have dep : ∀ l : List Int, PyData.depth (.list (l.map .int)) ≤ 1 := fun l => by
    rw [PyData.depth, depth_ints]
    decide
  refine lt_data ra rb (by rw [alike]; exact alike_ints _ _) (fun z => nomatch z) (Nat.lt_of_le_of_lt (Nat.add_le_add_left (Nat.le_trans (Nat.min_le_left _ _) (dep ds)) _) (by omega)) ?_
  rw [dataLt_rows]
  exact ⟨.bl _, H, I, rfl, q⟩
section
variable {c : Cn} {Γ : List Sl} {ta tb te tl ty : TE} {t u : TS} {s s' so s1 s2 : Sl} {α β : Type} {_ : Rp α} {_ : Rp β} {P : Po}
theorem dp_ints {K : PySem.W.Frag} {H : Hp} {a : Addr} {l : List Int} (h : H a = some (.lst (l.map V.int))) : Dp K H (.ref a) (.list (l.map .int)) := by
  refine Dp.lst (SqL.of h) ?_
  clear h
  induction l with
  | nil => exact .nil
  | cons a l ih => exact .cons (.int a) ih
theorem ev_ltR {x y : List Int} (ha : Ev c Γ ta (.im x)) (hb : Ev c Γ tb (.im y)) : Ev c Γ (tOp (rLtR c.Z.K) ta tb) (.im (decide (x < y))) := ev_opv ha hb fun R H v w sm rv rw => by
  obtain ⟨a, vs, rfl, h1, h2⟩ := rv
  obtain ⟨b, ws, rfl, h3, h4⟩ := rw
  rw [paired_map_int h2] at h1
  rw [paired_map_int h4] at h3
  exact ⟨.bl _, rfl, fun Q q => ⟨x, y, dp_ints (sm _ _ h1), dp_ints (sm _ _ h3), q⟩⟩
/-- the own table out of its slot, onto the stack -/
theorem sx_outV {Z : Zz} {B R0 R H : Hp} {ρ σ : List (Option V)} {Δ : List Sl} {i : Nat} {p : Addr} (S : Sx Z B R0 R H ρ Δ σ Γ) (e : Γ[i]? = some so) (hv : σ[i]? = some (some (.ref p))) :
    ∃ s : Sl, Sx Z B R0 R H (some (.ref p) :: ρ) (so :: Δ) σ (Γ.set i s) := by
  obtain ⟨o, h1, S1⟩ := sx_take S e
  rw [hv] at h1
  cases h1
  have At : ∃ s : Sl, ∀ Z R H, slok Z R H (some (.ref p)) s [] := ⟨.ow ⟨fun _ _ _ w => w = .ref p, fun _ h => h⟩, fun Z R H => ⟨_, rfl, rfl, fun q hq => by simp at hq⟩⟩
  obtain ⟨s, s2⟩ := At
  refine ⟨s, ?_⟩
  obtain ⟨hl, own, hs', es⟩ := S1
  have e' : (so :: Δ ++ Γ.set i .un)[(some (V.ref p) :: ρ).length + i]? = some .un := by
    rw [at_slot hl]
    rw [List.getElem?_set_self]
    exact (List.getElem?_eq_some_iff.mp e).1
  obtain ⟨o2, a1, f2, a2, b1, b2, b3, b4⟩ := es_at es e'
  rw [at_slot', hv] at b1
  cases b1
  have b3' : f2 = [] := b3
  subst b3'
  have q := b4 R H (some (.ref p)) s [] (Same.refl _) (fun _ _ => rfl) (s2 _ _ _)
  rw [set_same (by rw [at_slot']; exact hv), hl, List.set_append_right _ _ (by omega), show (so :: Δ).length + i - (so :: Δ).length = i by omega, List.set_set] at q
  exact ⟨hl, own, hs', by rw [b2]; exact q⟩
theorem sx_backV {Z : Zz} {B R0 R H : Hp} {ρ σ : List (Option V)} {Δ : List Sl} {i : Nat} {p : Addr} (S : Sx Z B R0 R H (some (.ref p) :: ρ) (so :: Δ) σ (Γ.set i s)) (h1 : σ[i]? = some (some (.ref p))) (e : Γ[i]? = some so) : Sx Z B R0 R H ρ Δ σ Γ := by
  have S4 := sx_asg S i
  have e2 : Γ.set i so = Γ := by
    apply List.ext_getElem?
    intro k
    by_cases h : i = k
    · subst h
      rw [List.getElem?_set_self (List.getElem?_eq_some_iff.mp e).1]
      exact e.symm
    · rw [List.getElem?_set_ne h]
  rw [set_same h1, List.set_set, e2] at S4
  exact S4
theorem sx_top2 {Z : Zz} {B R0 R H : Hp} {ρ σ : List (Option V)} {Δ : List Sl} {o : Option V} {xss : List (List α)} (S : Sx Z B R0 R H (o :: ρ) (.o2 xss :: Δ) σ Γ) : ∃ p qs, o = some (.ref p) ∧ H p = some (.lst (qs.map V.ref)) ∧ Paired (inOk Z R H) qs xss := by
  obtain ⟨hl, own, hs, f, g, rfl, ⟨p, qs, rfl, h2, h3, h4⟩, h5⟩ := S
  exact ⟨p, qs, h2, h3, h4⟩
/-- [list(x) for x in own] -/
theorem ev_copyO2 {xss : List (List α)} {i j : Nat} (e : Γ[i]? = some (.o2 xss)) (hn : xss.length < 1000000) (hjl : j < Γ.length) (hu : ∀ s, UnAt (Γ.set i s) [j]) :
    Ev c Γ (tLc (iList c.Z.K (tVar i)) (gName j) tYes (tCB (gList c.Z.K) (tCons (tVar j) tNil)) [j]) (.o2 xss) := fun B R0 R H ρ Δ σ S Q q x => by
  obtain ⟨p, qs0, h1, hp, _, _⟩ := sx_mut2 S e
  obtain ⟨s, S2⟩ := sx_outV S e h1
  have hsl : σ.length = Γ.length := by
    obtain ⟨hl, own, hs, es⟩ := S
    have := es_len es
    rw [List.length_append, List.length_append] at this
    omega
  refine ⟨.ref p, h1, p, rfl, ⟨_, SqL.of hp⟩, fun Dl hD => ?_⟩
  refine ⟨fun k m H => m = xss.length - k ∧ k ≤ xss.length ∧ ∃ R, Sx c.Z B R0 R H (some (.ref Dl) :: some (.ref p) :: ρ) (.o2 (xss.take k) :: .o2 xss :: Δ) σ (Γ.set i s), ⟨xss.length, by simp, Nat.zero_le _, R, sx_new2 S2 hD⟩, ?_⟩
  rintro k m H2 ⟨rfl, hin, R2, S3⟩
  obtain ⟨p', qs, e1, g2, g3⟩ := sx_top2 (sx_swapTop S3)
  cases e1
  have hl := Paired.length g3
  by_cases hlt : k < xss.length
  · obtain ⟨w, hw, us, hus, hpu⟩ := paired_get g3 (i := k) (b := xss[k]) (List.getElem?_eq_getElem hlt)
    refine .inr ⟨⟨_, .ref w, SqL.of g2, by rw [List.getElem?_map, hw]; rfl⟩, fun H' => ∃ R, Sx c.Z B R0 R H' (some (.ref Dl) :: some (.ref p) :: ρ) (.o2 (xss.take (k + 1)) :: .o2 xss :: Δ) σ (Γ.set i s), fun H' h => ⟨xss.length - (k + 1), by omega, rfl, hlt, h⟩, fun y H' hy => ?_⟩
    obtain ⟨rfl, hy⟩ := hy
    have hy2 := hy _ (SqL.of g2)
    rw [List.getElem?_map, hw] at hy2
    cases hy2
    have S2w := sx_wipe S3 [j]
    rw [wipeG_un (hu s)] at S2w
    have hw2 : wipe ((wipe σ [j]).set j (some (.ref w))) [j] = wipe (wipe σ [j]) [j] := wipe_set (by simp)
    refine ⟨hw2.trans (wipe_wipe _ [j]), ?_⟩
    have hj2 : ((wipe σ [j]).set j (some (V.ref w)))[j]? = some (some (.ref w)) := by
      rw [List.getElem?_set_self]
      have : (wipe σ [j]).length = σ.length := by
        have q1 := es_len S2w.2.choose_spec.2
        have q2 := S2w.1
        rw [List.length_append, List.length_append, List.length_set] at q1
        simp only [List.length_cons] at q1 q2
        omega
      omega
    have S5 := sx_forgets S2w j (some (.ref w))
    refine ⟨.ref w, hj2, w, us, rfl, .inl (SqL.of hus), fun l hl2 => ?_⟩
    have S6 := sx_newl S5 hl2 hpu
    obtain ⟨vs1, k1, k2, k3⟩ := sx_app2 S6
    refine ⟨vs1, k1, Nat.lt_of_lt_of_le (by rw [List.length_take] at k2; omega : vs1.length < 1000000) (by decide), R2, ?_⟩
    rw [take_snoc hlt]
    have q4 := sx_wipe k3 [j]
    rw [hw2, wipe_wipe, wipeG_set (by simp), wipeG_un (hu s)] at q4
    exact sx_unwipe (hu s) q4
  · have ek : k = xss.length := by omega
    subst ek
    rw [List.take_length] at S3
    exact .inl ⟨⟨_, SqL.of g2, by rw [List.length_map]; omega⟩, q _ R2 H2 (sx_backV (sx_swapTop S3) h1 e)⟩
/-- xss[i].clear() -/
theorem w_clearR {xss : List (List α)} {k : Nat} {i : Int} (e : Γ[k]? = some (.o2 xss)) (hi : EvP c Γ ta i) (h0 : 0 ≤ i) (h1 : i < xss.length) (kk : P.nx (Γ.set k (.o2 (xss.set i.toNat [])))) :
    W c Γ (tDrop (tBM0 c.Z.K "list" rClear (tOp (gIx c.Z.K) (tVar k) ta))) P := fun B R0 R H ρ Δ σ D S n r bb kk' x => by
  obtain ⟨p, qs, q, vs, g1, g2, gl, g3, g4, g5, g6⟩ := row2 S e h0 h1
  refine ⟨.ref p, g1, hi B R0 R H ρ Δ σ S _ fun z ez => .inl ⟨p, qs.map V.ref, i, .ref q, rfl, ez, SqL.of g2, atI_of h0 (by omega) (by rw [List.getElem?_map, g3]; rfl), ?_⟩⟩
  exact ⟨tyL g4, q, vs, rfl, rfl, g4, n R _ _ _ (g6 [] [] .nil) kk⟩
/-- xss.clear(), the table not asked again -/
theorem w_clear2 {i : Nat} {xss : List (List α)} (e : Γ[i]? = some (.o2 xss)) (k : P.nx (Γ.set i .un)) : W c Γ (tDrop (tBM0 c.Z.K "list" rClear (tVar i))) P := fun B R0 R H ρ Δ σ D S n r bb kk x => by
  obtain ⟨o, f, h1, ⟨p, qs, rfl, rfl, h4, h5⟩, h6⟩ := sx_wreck S e
  exact ⟨.ref p, h1, tyL h4, p, _, rfl, rfl, h4, n R _ _ _ (h6 _ fun q hq => upd_ne fun z => hq (z ▸ List.mem_cons_self)) k⟩
/-- p[0].clear() -/
theorem w_clearPr1 {i : Nat} {xs : List α} (e : Γ[i]? = some (.pr (.ol xs) s2)) (k : P.nx (Γ.set i (.pr (.ol ([] : List α)) s2))) : W c Γ (tDrop (tBM0 c.Z.K "list" rClear (tOp (gIx c.Z.K) (tVar i) (tC (.int 0))))) P := fun B R0 R H ρ Δ σ D S n r bb kk x => by
  obtain ⟨o, f, h1, h2, h3, h4⟩ := sx_own S e
  obtain ⟨a, x1, y1, f1, f2, rfl, nd, sub, ha, ⟨p, vs, rfl, ex, hp, hv⟩, k2⟩ := slok_pr' h2
  cases ex
  refine ⟨.ref a, h1, .inr (.inl ⟨a, [.ref p, y1], 0, .ref p, rfl, rfl, SqT.of ha, rfl, tyL hp, p, vs, rfl, rfl, hp, ?_⟩)⟩
  have nd0 := nd
  simp only [List.nodup_cons, List.mem_append, List.mem_singleton, not_or, List.nodup_append] at nd
  have nap : a ≠ p := nd.1.1
  have n2 : ∀ q ∈ f2, q ≠ p := fun q hq z => nd.2.2.2 p rfl q hq z.symm
  have hq : slok c.Z R (upd H p (.lst [])) (some (.ref p)) (.ol ([] : List α)) [p] := ⟨p, [], rfl, rfl, upd_same, .nil⟩
  have hp2 : slok c.Z R (upd H p (.lst [])) (some (.ref a)) (.pr (.ol ([] : List α)) s2) (a :: ([p] ++ f2)) := slok_pr nd0 (by rw [upd_ne nap]; exact ha) hq (slok_mono (Same.refl _) (fun q hq => upd_ne (n2 q hq)) k2)
  exact n R _ _ _ (h4 _ _ _ (fun q hq => upd_ne fun z => hq (sub q (by simp [z]))) nd0 sub hp2) k
/-- p[1][0].append(y) -/
theorem w_appPr2R {i : Nat} {xs : List α} {xss : List (List α)} {y : α} (e : Γ[i]? = some (.pr s1 (.o2 (xs :: xss)))) (h : EvP c Γ te y) (hl : xs.length < 1000000) (k : P.nx (Γ.set i (.pr s1 (.o2 ((xs ++ [y]) :: xss))))) :
    W c Γ (tDrop (tBM c.Z.K "list" rAppend (tOp (gIx c.Z.K) (tOp (gIx c.Z.K) (tVar i) (tC (.int 1))) (tC (.int 0))) (tCons te tNil))) P := fun B R0 R H ρ Δ σ D S n r bb kk x => by
  obtain ⟨o, f, h1, h2, h3, h4⟩ := sx_own S e
  obtain ⟨a, x1, y1, f1, f2, rfl, nd, sub, ha, k1, p, qs, rfl, ey, hp, hv⟩ := slok_pr' h2
  cases ey
  cases hv with
  | @cons q _ qs _ hq hqs =>
  obtain ⟨vs, hq, hv⟩ := hq
  have nd0 := nd
  refine ⟨.ref a, h1, .inr (.inl ⟨a, [x1, .ref p], 1, .ref p, rfl, rfl, SqT.of ha, rfl, .inl ⟨p, _, 0, .ref q, rfl, rfl, SqL.of hp, atI_of (by decide) (by simp) rfl, tyL hq, h B R0 R H ρ Δ σ S _ fun w rw' => ?_⟩⟩)⟩
  have hl' := Paired.length hv
  simp only [List.nodup_cons, List.mem_append, List.mem_cons, not_or, List.nodup_append] at nd
  have nq : a ≠ q ∧ p ≠ q ∧ q ∉ qs ∧ ∀ z ∈ f1, z ≠ q := by grind
  have hpq : slok c.Z R (upd H q (.lst (vs ++ [w]))) (some (.ref p)) (.o2 ((xs ++ [y]) :: xss)) (p :: q :: qs) := ⟨p, q :: qs, rfl, rfl, by rw [upd_ne nq.2.1]; exact hp, .cons ⟨_, upd_same, paired_append hv (.cons rw' .nil)⟩ (paired_inOk (Same.refl _) (fun z hz => upd_ne fun e => nq.2.2.1 (e ▸ hz)) hqs)⟩
  have hp2 : slok c.Z R (upd H q (.lst (vs ++ [w]))) (some (.ref a)) (.pr s1 (.o2 ((xs ++ [y]) :: xss))) (a :: (f1 ++ (p :: q :: qs))) := slok_pr nd0 (by rw [upd_ne nq.1]; exact ha) (slok_mono (Same.refl _) (fun z hz => upd_ne (nq.2.2.2 z hz)) k1) hpq
  exact ⟨q, vs, w, rfl, rfl, hq, Nat.lt_of_lt_of_le (by omega : vs.length < 1000000) (by decide), n R _ _ _ (h4 _ _ _ (fun z hz => upd_ne fun e => hz (sub z (by simp [e]))) nd0 sub hp2) k⟩
/-- p[1].pop(), the pair not asked again -/
theorem w_popPr2 {i : Nat} {xss : List (List α)} (e : Γ[i]? = some (.pr s1 (.o2 xss))) (h : xss ≠ []) (k : P.nx (Γ.set i .un)) : W c Γ (tDrop (tBM0 c.Z.K "list" rPop (tOp (gIx c.Z.K) (tVar i) (tC (.int 1))))) P := fun B R0 R H ρ Δ σ D S n r bb kk x => by
  obtain ⟨o, f, h1, h2, h6⟩ := sx_wreck S e
  obtain ⟨a, x1, y1, f1, f2, rfl, nd, sub, ha, k1, p, qs, rfl, ey, hp, hv⟩ := slok_pr' h2
  cases ey
  have hl := Paired.length hv
  have hl2 : 0 < xss.length := List.length_pos_iff.mpr h
  have hg : (qs.map V.ref)[(qs.map V.ref).length - 1]? = some (V.ref (qs[qs.length - 1]'(by omega))) := by
    rw [List.getElem?_map, List.length_map, List.getElem?_eq_getElem (by omega)]
    rfl
  exact ⟨.ref a, h1, .inr (.inl ⟨a, [x1, .ref p], 1, .ref p, rfl, rfl, SqT.of ha, rfl, tyL hp, p, _, _, rfl, rfl, hp, hg, n R _ _ _ (h6 _ fun q hq => upd_ne fun z => hq (sub q (by simp [z]))) k⟩)⟩
end
end TB

/-! TbRef: what grown refuses, told as rows; own pairs lent. -/
namespace TB
open PySem L2
def refL (t : Tbl) (e : Int) (P M : List Int) (x : Int) : List IX := match stdF t e P x with | some h => [xS "steady", .i x, .i h] | none => match kpF t e P M x with | some h => [xS "kept", .i h] | none => []
structure Grw (t : Tbl) (e : Int) (L : Nat) (P M : List Int) (x w : Int) : Prop where
  G : GTbl t e
  lcm : IsLcm t e t.length L
  pt : PartL t e P
  one : OneW t P M w
  xi : InT t x
  w0 : (L : Int) ≤ w
  w1 : w % (L : Int) = 0
  w2 : w ≤ 60
theorem Grw.srv {t : Tbl} {e : Int} {L : Nat} {P M : List Int} {x w : Int} (g : Grw t e L P M x w) : Srv L w := .inr ⟨rfl, g.w0, g.w1, g.w2⟩
theorem Grw.pos {t : Tbl} {e : Int} {L : Nat} {P M : List Int} {x w : Int} (g : Grw t e L P M x w) : 0 < w := by have := g.w0; have := g.lcm.pos; omega
theorem lnd_pr {s1 s2 : Sl} {α β : Type} {_ : Rp α} {_ : Rp β} {x : α} {y : β} (h1 : Lnd s1 x) (h2 : Lnd s2 y) : Lnd (.pr s1 s2) (x, y) := fun Z R H o f sm h => by
  obtain ⟨a, u, v, f1, f2, rfl, nd, sub, ha, k1, k2⟩ := slok_pr' h
  obtain ⟨u', e1, r1⟩ := h1 Z R H _ _ sm k1
  obtain ⟨v', e2, r2⟩ := h2 Z R H _ _ sm k2
  cases e1
  cases e2
  have le : ∀ g, (∀ q ∈ g, q ∈ f) → Same (frz R H g) (frz R H f) := fun g hg b o e => by
    by_cases c : b ∈ g
    · have hR : ∀ o, R b = some o → frz R H f b = some o := fun o e => frz_same b o e
      cases q : R b with
      | some o' =>
        have := frz_same (f := g) (H := H) b o' q
        rw [this] at e
        cases e
        exact frz_same b _ q
      | none =>
        have e' : H b = some o := by
          unfold frz at e
          rw [q] at e
          simpa [c] using e
        exact frz_in sm (hg b c) e'
    · rw [frz_out c] at e
      exact frz_same b o e
  exact ⟨_, rfl, a, u, v, rfl, frz_in sm (sub a (by simp)) ha, Rp.mono (le f1 fun q hq => sub q (by simp [hq])) r1, Rp.mono (le f2 fun q hq => sub q (by simp [hq])) r2⟩
theorem det_pr2 {W : List Int} {F : List (List Int)} : Det (.pr (.ol W) (.o2 F)) := det_pr det_ol det_o2
theorem kpt_in {t : Tbl} {e : Int} (h : GTbl t e) {P M : List Int} {m : Int} (p : PartL t e P) (o : OneW t P M m) {x : Int} (hx : x ∈ P) : Kpt t e P M x := by
  have bx := p.bk h hx
  have ix := p.pt.inn x hx
  refine ⟨fun a ha => p.pt.mul _ (p.pt.mul _ hx _ ha) _ bx, fun a ha => ?_⟩
  have ia := p.pt.inn a ha
  have hc : cj t e x a ∈ P := p.pt.mul _ (p.pt.mul _ hx _ ha) _ bx
  have e1 := congrArg (mk P M) (cj_move h ix ia)
  rw [o.hom _ hc _ hx, o.hom _ hx _ ha] at e1
  have k1 := mk_in o.ok hc
  have k2 := mk_in o.ok ha
  have k3 := mk_in o.ok hx
  rw [Int.add_comm (mk P M x)] at e1
  -- both sums less the same number
  have e2 : ((mk P M (cj t e x a) + mk P M x) - mk P M x) % m = ((mk P M a + mk P M x) - mk P M x) % m := by
    rw [Int.sub_emod, e1, ← Int.sub_emod]
  rw [Int.add_sub_cancel, Int.add_sub_cancel, Int.emod_eq_of_lt k1.1 k1.2, Int.emod_eq_of_lt k2.1 k2.2] at e2
  exact e2
theorem marks_map {P M : List Int} (nd : P.Nodup) (hl : M.length = P.length) : P.map (mk P M) = M := by
  refine List.ext_getElem (by rw [List.length_map, hl]) fun i h1 h2 => ?_
  have hi : i < P.length := by omega
  rw [List.getElem_map]
  have e1 : gt P (i : Int) = P[i] := by unfold gt; simp [hi]
  rw [← e1, mk_at nd (by omega) (by omega)]
  unfold gt
  simp [h2]
/-- all that the law asks of what grown tells -/
structure GoodF (t : Tbl) (e : Int) (P M : List Int) (x w : Int) (W : List Int) (F : List (List Int)) : Prop where
  G : GTbl t e
  pt : PartL t e P
  xi : InT t x
  ml : M.length = P.length
  eW : W = clo t e (P ++ [x])
  sub : ∀ a ∈ P, a ∈ W
  pw : PartL t e W
  one : ∀ r ∈ F, OneW t W r w ∧ ∀ a ∈ P, mk W r a = mk P M a
  lt : F.Pairwise (· < ·)
  cnt : F.length * P.length = W.length
  w0 : 0 < w
theorem goodF {t : Tbl} {e : Int} {L : Nat} {P M : List Int} {x w : Int} (g : Grw t e L P M x w) (kp : Kpt t e P M x) {k : Nat} (s : Stp t e P x k) : GoodF t e P M x w (tkW t e P x k) (lsort (tkR t e P M x k w)) := by
  have T := tkn g.G g.pt g.one g.xi s kp g.lcm g.pos g.w1
  have pm := lsort_perm (tkR t e P M x k w)
  exact ⟨g.G, g.pt, g.xi, g.one.ok.1, tkW_clo g.G g.pt g.xi s kp, T.sub, T.pt, fun r hr => T.one r (pm.mem_iff.mp hr), lt_of_sorted (lsort_sorted _) (pm.nodup_iff.mpr T.nd), by rw [pm.length_eq, T.len, T.wl], g.pos⟩
end TB

/-! TbHr2: more of hearts; an own list and another put together. -/
namespace TB
open PySem PySem.Spec PyProof.Rows L2
def rLenDk : List V → Hp → VK → Prop := fun xs H Q => ∃ (a : Addr) (kvs : List (Key × V)), xs = [V.ref a] ∧ H a = some (.dK kvs) ∧ Q (.int kvs.length) H
theorem gc_lenDk {X : Cx} : CallR X (.builtin "len") rLenDk := call_lenD
section
variable {c : Cn} {Γ : List Sl} {ta tb te : TE} {α : Type} {_ : Rp α}
theorem ev_catO {xs ys : List α} {i : Nat} (e : Γ[i]? = some (.ol xs)) (hb : Ev c Γ tb (.im ys)) (hl : xs.length + ys.length < 1000000) : Ev c Γ (tOp gAdd (tVar i) tb) (.ol (xs ++ ys)) := fun B R0 R H ρ Δ σ S Q q xk => by
  obtain ⟨p, vs, h2, h3, h4, _⟩ := sx_mutl S e
  refine ⟨.ref p, h2, hb B R0 R H ρ Δ σ S _ (fun w R1 H1 S1 => ?_) xk⟩
  obtain ⟨b, ws, rfl, h5, h6⟩ := sx_top' S1
  have S2 := sx_pop S1
  obtain ⟨p', vs', h2', h3', h4', _⟩ := sx_mutl S2 e
  rw [h2] at h2'
  cases h2'
  have l1 := Paired.length h4'
  have l2 := Paired.length h6
  exact .inr ⟨p, b, vs', ws, rfl, rfl, h3', sx_same S1 _ _ h5, Nat.le_trans (by omega : vs'.length + ws.length ≤ 1000000) (by decide), fun r np => q _ R1 _ (sx_newl S2 np (paired_append h4' h6))⟩
theorem ev_lenD {kvs : List (Int × α)} {i : Nat} (e : Γ[i]? = some (.od kvs)) : Ev c Γ (tCB rLenDk (tCons (tVar i) tNil)) (.im (kvs.length : Int)) := fun B R0 R H ρ Δ σ S Q q xk => by
  obtain ⟨p, kv, h2, h3, h4, _⟩ := sx_mutd S e
  exact ⟨.ref p, h2, p, kv, rfl, h3, q _ R H (sx_push S (by rw [Paired.length h4]; rfl))⟩
theorem lnd_im' {d : α} : Lnd (.im d) d := fun Z R H o f sm h => by
  obtain ⟨rfl, v, e, r⟩ := h
  exact ⟨v, e, Rp.mono frz_same r⟩
end
section
variable {t : Tbl} {e : Int}
open Classical in
theorem hrtN_succ (t : Tbl) (e : Int) (i : Nat) : hrtN t e (i + 1) = if ¬ (i : Int) ∈ hrtN t e i ∧ goesB t (i : Int) (hrtN t e i) = true then clo t e (hrtN t e i ++ [(i : Int)]) else hrtN t e i := rfl
/-- whether a thing leads the sides round -/
noncomputable def ldB (t : Tbl) (e : Int) (H : List Int) (x : Int) : Bool := decide (((stpN t e H x : Nat) : Int) * (H.length : Int) = (t.length : Int))
noncomputable def ldrF (t : Tbl) (e : Int) (H : List Int) : Int := gt ((irange t.length).filter (ldB t e H)) 0
theorem ldB_iff (h : GTbl t e) {H : List Int} (he : e ∈ H) {x : Int} (hx : InT t x) {k : Nat} (s : Stp t e H x k) : ldB t e H x = decide (k * H.length = t.length) := by
  unfold ldB
  rw [stp_one (stpN_spec h he hx) s]
  refine decide_eq_decide.mpr ?_
  rw [← Int.natCast_mul]
  omega
theorem ldr_ex (h : GTbl t e) {H : List Int} (o : Hrt t e H) : ∃ x, InT t x ∧ ldB t e H x = true := by
  obtain ⟨x, k, hx, s, hk⟩ := o.leader h
  exact ⟨x, hx, by rw [ldB_iff h o.pt.pt.one hx s, hk]; exact decide_eq_true rfl⟩
theorem ldrF_at {H : List Int} {i : Int} (h0 : 0 ≤ i) (h1 : i < t.length) (lt : ∀ x, 0 ≤ x → x < i → ldB t e H x = false) (hi : ldB t e H i = true) : ldrF t e H = i := by
  obtain ⟨r, er⟩ := irange_cut h0 h1
  unfold ldrF
  rw [er, List.filter_append, List.filter_eq_nil_iff.mpr fun x hx => by
    have := mem_irange.mp hx
    rw [lt x this.1 this.2]
    decide, List.nil_append, List.filter_cons_of_pos hi]
  rfl
theorem ldrF_in (h : GTbl t e) {H : List Int} (o : Hrt t e H) : ldrF t e H ∈ (irange t.length).filter (ldB t e H) := by
  obtain ⟨x, hx, hb⟩ := ldr_ex h o
  have : 0 < ((irange t.length).filter (ldB t e H)).length := List.length_pos_of_mem (List.mem_filter.mpr ⟨mem_irange.mpr hx, hb⟩)
  unfold ldrF
  exact gt_mem (by decide) (by omega)
/-- all that is led within n steps -/
theorem led_mem (h : GTbl t e) {H : List Int} (o : Hrt t e H) {x : Int} (hx : InT t x) {k : Nat} (s : Stp t e H x k) {a : Int} {n : Nat} (hn : k ≤ n) : (∃ i, i < n ∧ ∃ b ∈ H, en t b (pw t e x i) = a) ↔ a ∈ tkW t e H x k := by
  constructor
  · rintro ⟨i, _, b, hb, rfl⟩
    have eW := tkW_clo (M := H.map fun _ => (0 : Int)) h o.pt hx s (o.kpt h hx)
    have hs : ∀ y ∈ H ++ [x], InT t y := fun y hy => by
      rcases List.mem_append.mp hy with z | z
      · exact o.pt.pt.inn y z
      · rw [List.mem_singleton.mp z]; exact hx
    have p := clo_part h hs
    have sub : ∀ y ∈ H ++ [x], y ∈ clo t e (H ++ [x]) := fun y hy => (mem_clo h hs).mpr (reach_some h hs hy)
    rw [eW]
    exact p.pt.mul _ (sub b (by simp [hb])) _ (pw_mem p.pt.one p.pt.mul (sub x (by simp)) i)
  · intro ha
    obtain ⟨i, hi, b, hb, q⟩ := mem_tkW.mp ha
    exact ⟨i, by omega, b, hb, q⟩
theorem led_len (h : GTbl t e) {H : List Int} (o : Hrt t e H) {x : Int} (hx : InT t x) {q : Nat} (hq : t.length = q * H.length) {K : List Int} (nd : K.Nodup) (hK : ∀ a, a ∈ K ↔ ∃ i, i < q ∧ ∃ b ∈ H, en t b (pw t e x i) = a) : decide ((K.length : Int) = (t.length : Int)) = ldB t e H x := by
  have s := stpN_spec h o.pt.pt.one hx
  have q0 : 0 < q := by
    rcases Nat.eq_zero_or_pos q with z | z
    · have := h.sz.1; rw [z, Nat.zero_mul] at hq; omega
    · exact z
  have kq := Nat.le_of_dvd q0 (o.dvd h hq hx s)
  have e1 : K.length = (tkW t e H x (stpN t e H x)).length := by
    have ndW : (tkW t e H x (stpN t e H x)).Nodup := (isort_perm _).nodup_iff.mpr (tkK_nd h o.pt hx s (Nat.le_refl _))
    have m : ∀ a, a ∈ K ↔ a ∈ tkW t e H x (stpN t e H x) := fun a => (hK a).trans (led_mem h o hx s kq)
    exact Nat.le_antisymm (nodup_le nd fun a ha => (m a).mp ha) (nodup_le ndW fun a ha => (m a).mpr ha)
  rw [ldB_iff h o.pt.pt.one hx s, e1, tkW_len]
  refine decide_eq_decide.mpr ?_
  omega
theorem dput_keys {α : Type} {kvs : List (Int × α)} {k : Int} {v : α} (nd : (kvs.map (·.1)).Nodup) : ((dput kvs k v).map (·.1)).Nodup ∧ ∀ a, a ∈ (dput kvs k v).map (·.1) ↔ a ∈ kvs.map (·.1) ∨ a = k := by
  by_cases c : k ∈ kvs.map (·.1)
  · have e1 : (dput kvs k v).map (·.1) = kvs.map (·.1) := by
      unfold dput
      have : (kvs.any fun p => decide (p.1 = k)) = true := by
        obtain ⟨p, hp, e⟩ := List.mem_map.mp c
        rw [List.any_eq_true]
        exact ⟨p, hp, decide_eq_true e⟩
      rw [if_pos this, List.map_map]
      refine List.map_congr_left fun p _ => ?_
      show (if p.1 = k then (p.1, v) else p).1 = p.1
      split <;> rfl
    rw [e1]
    exact ⟨nd, fun a => ⟨.inl, fun z => by
      rcases z with z | z
      · exact z
      · rw [z]; exact c⟩⟩
  · rw [dput_new c, List.map_append]
    refine ⟨List.nodup_append.mpr ⟨nd, by simp, fun a ha b hb z => ?_⟩, fun a => by simp⟩
    have : b = k := by simpa using hb
    exact c (this ▸ z ▸ ha)
end
end TB

/-! ### goes_with -/
namespace TB
open PySem L2
--use TbHr2
def T_goes_with : Tm := tm3 fun (g : Grp) (x : Int) (P : List Int) ok _ => ∃ (t : Tbl) (e : Int), GTbl t e ∧ g = grpOf t e ∧ InT t x ∧ (∀ a ∈ P, InT t a) ∧ P.length ≤ 100000 ∧ ok (.im (goesB t x P))
def t_goes_with (Z : Zz) (X : WX) : TS :=
  (tRet (tCB (rAll Z.K) (tCons (tLc (iList Z.K (tVar 2)) (gName 3) tYes (tOp (gEq Z.K) (tOp (gIx Z.K) (tOp (gIx Z.K) (tFld Z.K (tVar 0) "rows") (tVar 1)) (tVar 3)) (tOp (gIx Z.K) (tOp (gIx Z.K) (tFld Z.K (tVar 0) "rows") (tVar 3)) (tVar 1))) [3]) tNil)))
theorem w_goes_with (Z : Zz) (X : WX) (ss : List Sl) (ok : Sl → Prop) (er : Rf → Prop) (h : T_goes_with ss ok er) : WF Z X er (ss ++ List.replicate (4 - ss.length) .un) (t_goes_with Z X) ok := by
  obtain ⟨g, x, P, rfl, t, e, hG, rfl, hx, hP, hl, k⟩ := h
  show W _ [.im (grpOf t e), .im x, .im P, .un] _ _
  unfold t_goes_with
  refine w_ret (s := .im (goesB t x P)) (ev_to (ev_all rfl (ev_fr (xs := P.map fun h => decide (en t x h = en t h x)) ?hh)) ?_) k
  case hh =>
    refine ev_mapL (xs := P) (fun h => decide (en t x h = en t h x)) (ev_var rfl) (by omega) (by simp) ⟨.inl rfl, trivial⟩ ?_
    intro h hh
    have ih := hP h hh
    exact ev_eqI (ev_ix (ev_ix (xs := t) (ev_rows (g := grpOf t e) (ev_var rfl)) (ev_var rfl) hx.1 hx.2) (ev_var rfl) ih.1 (by rw [hG.row hx]; exact ih.2)) (ev_ix (ev_ix (xs := t) (ev_rows (g := grpOf t e) (ev_var rfl)) (ev_var rfl) ih.1 ih.2) (ev_var rfl) hx.1 (by rw [hG.row ih]; exact hx.2))
  · rw [List.all_map]
    rfl
end TB

/-! ### steps_into -/
namespace TB
open PySem L2
--use TbHr2
def T_steps_into : Tm := tm3 fun (g : Grp) (P : List Int) (x : Int) ok _ => ∃ (t : Tbl) (e : Int) (k : Nat), GTbl t e ∧ g = grpOf t e ∧ InT t x ∧ Stp t e P x k ∧ ok (.im (k : Int))
def t_steps_into (Z : Zz) (X : WX) : TS :=
  (tSeq (tAsg (tC (.int 1)) (gName 3))
  (tSeq (tAsg (tVar 2) (gName 4))
  (tSeq (tWhile (tTest (tOp (gNotIn Z.K) (tVar 4) (tVar 1)))
  (tSeq (tAsg (tOp (gIx Z.K) (tOp (gIx Z.K) (tFld Z.K (tVar 0) "rows") (tVar 4)) (tVar 2)) (gName 4))
  (tAug 3 (tC (.int 1)) (ipI fun i j => i + j))))
  (tRet (tVar 3)))))
theorem w_steps_into (Z : Zz) (X : WX) (ss : List Sl) (ok : Sl → Prop) (er : Rf → Prop) (h : T_steps_into ss ok er) : WF Z X er (ss ++ List.replicate (5 - ss.length) .un) (t_steps_into Z X) ok := by
  obtain ⟨g, P, x, rfl, t, e, k, hG, rfl, hx, s, kk⟩ := h
  show W _ [.im (grpOf t e), .im P, .im x, .un, .un] _ _
  unfold t_steps_into
  refine w_seq (w_asg ev_int (w_seq (w_asg (ev_var rfl) ?_)))
  walk_at "nz"
  have a1 : x = pw t e x 1 := (hG.u1 hx).symm
  refine w_seq (w_while (fun m G => ∃ j : Nat, 1 ≤ j ∧ j + m = k ∧ G = [.im (grpOf t e), .im P, .im x, .im (j : Int), .im (pw t e x j)]) (k - 1) ⟨1, by omega, by have := s.pos; omega, by rw [← a1]; rfl⟩ ?_)
  rintro m G ⟨j, j1, j2, rfl⟩
  have hp := pw_in hG hx j
  refine ⟨!decide (pw t e x j ∈ P), et_test (ev_notInL (ev_var rfl) (ev_var rfl)), fun hb => ?_, fun hb => ?_⟩
  · have hb' : ¬ pw t e x j ∈ P := by simpa using hb
    have : j ≠ k := fun z => hb' (by rw [z]; exact s.fin)
    refine w_seq (w_asg (s := .im (pw t e x (j + 1))) (ev_ix (ev_ix (xs := t) (ev_rows (g := grpOf t e) (ev_var rfl)) (ev_var rfl) hp.1 hp.2) (ev_var rfl) hx.1 (by rw [hG.row hp]; exact hx.2)) ?_)
    walk_at "nz"
    refine w_aug rfl ev_int ⟨m - 1, by omega, j + 1, by omega, by omega, ?_⟩
    walk_at "nz"
    rw [show ((j + 1 : Nat) : Int) = (j : Int) + 1 by omega]
  · have hb' : pw t e x j ∈ P := by simpa using hb
    have : j = k := by
      by_cases q : j < k
      · exact absurd hb' (s.low j (by omega) q)
      · omega
    subst this
    exact w_ret (ev_var rfl) kk
end TB

/-! ### heart -/
namespace TB
open PySem L2
--use TbHr2
--use TbOq
def T_heart : Tm := tm1 fun (g : Grp) ok _ => ∃ (t : Tbl) (e : Int), GTbl t e ∧ Mta t e ∧ g = grpOf t e ∧ ok (.pr (.ol (heartF t e)) (.im (ldrF t e (heartF t e))))
def t_heart (Z : Zz) (X : WX) : TS :=
  (tSeq (tAsg (tCallSD (spOf Z T_mixed) [] (WE X) (tCons (tVar 0) (tCons (tLstRg (tRg1 (tFld Z.K (tVar 0) "many"))) tNil))) (gName 1))
  (tSeq (tFor (iRng1 (tCons (tFld Z.K (tVar 0) "many") tNil)) (gName 2)
  (tIfS (tAnd (tTest (tOp (gNotIn Z.K) (tVar 2) (tVar 1))) (tB (tCallSD (spOf Z T_goes_with) [] (WE X) (tCons (tVar 0) (tCons (tVar 2) (tCons (tVar 1) tNil))))))
  (tAsg (tOp (gIx Z.K) (tCallSD (spOf Z T_closure) [] (WE X) (tCons (tVar 0) (tCons (tOp gAdd (tVar 1) (tLst (tCons (tVar 2) tNil))) tNil))) (tC (.int 0))) (gName 1))
  tNext))
  (tSeq (tAsg (tLst tNil) (gName 3))
  (tSeq (tFor (iRng1 (tCons (tFld Z.K (tVar 0) "many") tNil)) (gName 2)
  (tIfS (tTest (tOp (gEq Z.K) (tOp gMul (tCallSD (spOf Z T_steps_into) [] (WE X) (tCons (tVar 0) (tCons (tVar 1) (tCons (tVar 2) tNil)))) (tCB (gLen Z.K) (tCons (tVar 1) tNil))) (tFld Z.K (tVar 0) "many")))
  (tDrop (tBM Z.K "list" rAppend (tVar 3) (tCons (tVar 2) tNil)))
  tNext))
  (tRet (tTup (tCons (tVar 1) (tCons (tOp (gIx Z.K) (tVar 3) (tC (.int 0))) tNil))))))))
theorem w_heart (Z : Zz) (X : WX) (ss : List Sl) (ok : Sl → Prop) (er : Rf → Prop) (h : T_heart ss ok er) : WF Z X er (ss ++ List.replicate (4 - ss.length) .un) (t_heart Z X) ok := by
  obtain ⟨g, rfl, t, e, hG, hm, rfl, k⟩ := h
  show W _ [.im (grpOf t e), .un, .un, .un] _ _
  unfold t_heart
  have hl := hG.sz.2.1
  have hI := hrtI hG hm
  have many : ∀ {c : Cn} {G : List Sl}, G[0]? = some (.im (grpOf t e)) → Ev c G (tFld c.Z.K (tVar 0) "many") (.im (t.length : Int)) := fun h => ev_many (g := grpOf t e) (ev_var h)
  refine w_seq (w_asg (s := .ol (mixF t e (irange t.length))) (ev_callN (ea_cons (ev_var rfl) (ea_cons (ev_fr (ev_listRg (many rfl) (by omega) (by omega))) ea_nil)) ⟨_, _, rfl, t, e, hG, rfl, by rw [irange_len]; omega, fun _ => rfl, fun z => absurd (all_part hG).isPart z⟩) ?_)
  walk_at "nz"
  refine w_seq (w_forR (n := (t.length : Int)) (fun i G => ∃ s2, G = [.im (grpOf t e), .ol (hrtN t e i), s2, .un]) (many rfl) (by omega) (by omega) ⟨_, rfl⟩ ?_ ?_)
  · rintro i G hi ⟨s2, rfl⟩
    walk_at "nz"
    have I := hI i (by omega)
    have hx : InT t (i : Int) := ⟨by omega, hi⟩
    have pl := I.pt.len
    have hs : ∀ y ∈ hrtN t e i ++ [(i : Int)], InT t y := fun y hy => by
      rcases List.mem_append.mp hy with q | q
      · exact I.pt.pt.inn y q
      · rw [List.mem_singleton.mp q]; exact hx
    rw [hrtN_succ]
    generalize hrtN t e i = H at I pl hs ⊢
    refine w_if (b := !decide ((i : Int) ∈ H) && goesB t (i : Int) H) (et_and (et_test (ev_notInO (ev_var rfl) rfl)) fun _ => et_B (ev_callL (s := .im (goesB t (i : Int) H)) (eb_cons (ev_var rfl) (eb_cons (ev_var rfl) (eb_own lnd_ol rfl eb_nil))) det_im ⟨_, _, _, rfl, t, e, hG, rfl, hx, I.pt.pt.inn, by omega, rfl⟩)) (fun hb => ?_) (fun hb => ?_)
    · simp only [Bool.and_eq_true, Bool.not_eq_true', decide_eq_false_iff_not] at hb
      rw [if_pos hb]
      exact w_asg (s := .ol (clo t e (H ++ [(i : Int)]))) (ev_subS sub_Tol (ev_otIxT (U := oti (clo t e (H ++ [(i : Int)]))) (k := 0) (ev_callN (ea_cons (ev_var rfl) (ea_cons (ev_fr (ev_catO rfl (ev_frI (ev_lstH (evh_cons (ev_var rfl) evh_nil) (by simp))) (by simp; omega))) ea_nil)) ⟨_, _, rfl, t, e, hG, rfl, hs, by simp; omega, rfl⟩) rfl rfl)) ⟨_, rfl⟩
    · rw [if_neg (fun z => by
        have : (!decide ((i : Int) ∈ H) && goesB t (i : Int) H) = true := by
          simp only [Bool.and_eq_true, Bool.not_eq_true', decide_eq_false_iff_not]
          exact z
        rw [this] at hb
        cases hb)]
      exact w_next ⟨_, rfl⟩
  rintro G ⟨s2, rfl⟩
  rw [show ((t.length : Int)).toNat = t.length by omega]
  have o := heartF_ok hG hm
  show W _ [.im (grpOf t e), .ol (heartF t e), s2, .un] _ _
  generalize heartF t e = H at o k
  have pl := o.pt.len
  refine w_seq (w_asg (s := .ol ([] : List Int)) ev_nil ?_)
  walk_at "nz"
  refine w_seq (w_forR (n := (t.length : Int)) (fun i G => ∃ s2, G = [.im (grpOf t e), .ol H, s2, .ol ((irange (i : Int)).filter (ldB t e H))]) (many rfl) (by omega) (by omega) ⟨_, rfl⟩ ?_ ?_)
  · rintro i G hi ⟨s2, rfl⟩
    walk_at "nz"
    have hx : InT t (i : Int) := ⟨by omega, hi⟩
    have st := stpN_spec hG o.pt.pt.one hx
    have kl : stpN t e H (i : Int) ≤ t.length := by
      obtain ⟨k', h1, h2⟩ := stp_ex hG o.pt.pt.one hx
      rw [stp_one st h1]; exact h2
    rw [show ((i + 1 : Nat) : Int) = (i : Int) + 1 by omega, irange_suc (by omega), List.filter_append]
    refine w_if (b := ldB t e H (i : Int)) (et_test (ev_eqI (ev_mul (ev_callL (s := .im ((stpN t e H (i : Int) : Nat) : Int)) (eb_cons (ev_var rfl) (eb_own lnd_ol rfl (eb_cons (ev_var rfl) eb_nil))) det_im ⟨_, _, _, rfl, t, e, _, hG, rfl, hx, st, rfl⟩) (ev_lenO rfl) (cmul23 (by omega) (by omega) (by omega) (by omega))) (many rfl))) (fun hb => ?_) (fun hb => ?_)
    · rw [show [(i : Int)].filter (ldB t e H) = [(i : Int)] by rw [List.filter_cons_of_pos hb]; rfl]
      have := List.length_filter_le (ldB t e H) (irange (i : Int))
      rw [irange_len] at this
      exact w_app rfl (ev_var rfl) (by omega) ⟨_, rfl⟩
    · rw [show [(i : Int)].filter (ldB t e H) = [] by rw [List.filter_cons_of_neg (by rw [hb]; decide)]; rfl, List.append_nil]
      exact w_next ⟨_, rfl⟩
  · rintro G ⟨s2, rfl⟩
    rw [show (((t.length : Int)).toNat : Int) = t.length by omega]
    have hin := ldrF_in hG o
    exact w_retM (em_pr (em_take val_ol rfl) (em_of (ev_ixO rfl ev_int (by decide) (by have := List.length_pos_of_mem hin; omega)))) k
end TB

/-! ### l_cell -/
namespace TB
open PySem L2
def cellOf (l : Scr) (k : Int) : Int := if k < l.l.length then gt l.l k % 2147483647 else 0
theorem cellOf_bd (l : Scr) (k : Int) : 0 ≤ cellOf l k ∧ cellOf l k < 2147483647 := by
  unfold cellOf
  split <;> omega
def T_l_cell : Tm := tm2 fun (l : Scr) (k : Int) ok _ => 0 ≤ k ∧ ok (.im (cellOf l k))
def t_l_cell (Z : Zz) (X : WX) : TS :=
  (tSeq (tIfS (tTest (tOp gLt (tVar 1) (tCB (gLen Z.K) (tCons (tVar 0) tNil))))
  (tRet (tOp gMod (tOp (gIx Z.K) (tVar 0) (tVar 1)) (tC (.int 2147483647))))
  tNext)
  (tRet (tC (.int 0))))
theorem w_l_cell (Z : Zz) (X : WX) (ss : List Sl) (ok : Sl → Prop) (er : Rf → Prop) (h : T_l_cell ss ok er) : WF Z X er (ss ++ List.replicate (2 - ss.length) .un) (t_l_cell Z X) ok := by
  obtain ⟨l, k, rfl, h0, hk⟩ := h
  show W _ [.im l, .im k] _ _
  unfold t_l_cell
  refine w_seq (w_if (by walk_at "ev") (fun hb => ?_) (fun hb => w_next ?_))
  · simp at hb
    refine w_ret (ev_mod (ev_ixS (ev_var rfl) (ev_var rfl) h0 hb) ev_int (by decide)) ?_
    unfold cellOf at hk
    rw [if_pos hb] at hk
    exact hk
  · simp at hb
    refine w_ret ev_int ?_
    unfold cellOf at hk
    rw [if_neg (by omega)] at hk
    exact hk
end TB

/-! ### l_sizes -/
namespace TB
open PySem L2
--use TbMk
def T_l_sizes : Tm := tm2 fun (one two : Int) ok _ => 0 ≤ one ∧ 0 ≤ two ∧ ∀ l, SzOk l → ok (.im l)
def t_l_sizes (Z : Zz) (X : WX) : TS :=
  (tSeq (tAsg (tOp gDiv (tVar 0) (tC (.int 3))) (gName 2))
  (tSeq (tIfS (tTest (tOp (gEq Z.K) (tOp gMod (tVar 0) (tC (.int 3))) (tC (.int 1))))
  (tSeq (tAsg (tLst (tCons (tLst (tCons (tC (.int 2)) (tCons (tC (.int 2)) (tCons (tC (.int 1)) (tCons (tC (.int 3)) tNil))))) (tCons (tLst (tCons (tC (.int 7)) (tCons (tC (.int 1)) (tCons (tC (.int 1)) (tCons (tC (.int 3)) tNil))))) (tCons (tLst (tCons (tC (.int 5)) (tCons (tC (.int 1)) (tCons (tC (.int 1)) (tCons (tC (.int 4)) tNil))))) (tCons (tLst (tCons (tC (.int 4)) (tCons (tC (.int 2)) (tCons (tC (.int 1)) (tCons (tC (.int 2)) tNil))))) (tCons (tLst (tCons (tC (.int 3)) (tCons (tC (.int 3)) (tCons (tC (.int 1)) (tCons (tC (.int 2)) tNil))))) (tCons (tLst (tCons (tC (.int 8)) (tCons (tC (.int 1)) (tCons (tC (.int 1)) (tCons (tC (.int 2)) tNil))))) tNil))))))) (gName 3))
  (tSeq (tAsg (tOp gAdd (tVar 3) (tLst (tCons (tLst (tCons (tC (.int 4)) (tCons (tC (.int 1)) (tCons (tC (.int 1)) (tCons (tC (.int 2)) tNil))))) (tCons (tLst (tCons (tC (.int 2)) (tCons (tC (.int 2)) (tCons (tC (.int 2)) (tCons (tC (.int 2)) tNil))))) (tCons (tLst (tCons (tC (.int 3)) (tCons (tC (.int 1)) (tCons (tC (.int 1)) (tCons (tC (.int 4)) tNil))))) (tCons (tLst (tCons (tC (.int 2)) (tCons (tC (.int 2)) (tCons (tC (.int 1)) (tCons (tC (.int 2)) tNil))))) (tCons (tLst (tCons (tC (.int 5)) (tCons (tC (.int 1)) (tCons (tC (.int 1)) (tCons (tC (.int 2)) tNil))))) (tCons (tLst (tCons (tC (.int 9)) (tCons (tC (.int 1)) (tCons (tC (.int 1)) (tCons (tC (.int 2)) tNil))))) tNil)))))))) (gName 3))
  (tRet (tOp (gIx Z.K) (tVar 3) (tOp gMod (tVar 2) (tC (.int 12)))))))
  tNext)
  (tSeq (tAsg (tOp (gIx Z.K) (tLst (tCons (tC (.int 8)) (tCons (tC (.int 12)) (tCons (tC (.int 6)) (tCons (tC (.int 23)) tNil))))) (tOp gMod (tVar 2) (tC (.int 4)))) (gName 4))
  (tSeq (tAsg (tOp (gIx Z.K) (tLst (tCons (tC (.int 2)) (tCons (tC (.int 1)) (tCons (tC (.int 2)) (tCons (tC (.int 3)) (tCons (tC (.int 2)) (tCons (tC (.int 4)) tNil))))))) (tOp gMod (tOp gDiv (tVar 2) (tC (.int 4))) (tC (.int 6)))) (gName 5))
  (tSeq (tAsg (tOp gDiv (tVar 4) (tVar 5)) (gName 6))
  (tSeq (tAsg (tOp gAdd (tC (.int 1)) (tOp gMod (tOp gDiv (tVar 2) (tC (.int 24))) (tVar 6))) (gName 7))
  (tSeq (tAsg (tOp gAdd (tC (.int 1)) (tOp gMod (tVar 1) (tOp gDiv (tVar 6) (tVar 7)))) (gName 8))
  (tSeq (tAsg (tOp gAdd (tC (.int 1)) (tOp gMod (tOp gDiv (tVar 1) (tC (.int 23))) (tOp gDiv (tVar 6) (tOp gMul (tVar 7) (tVar 8))))) (gName 9))
  (tRet (tLst (tCons (tVar 7) (tCons (tVar 8) (tCons (tVar 9) (tCons (tVar 5) tNil))))))))))))))
theorem w_l_sizes (Z : Zz) (X : WX) (ss : List Sl) (ok : Sl → Prop) (er : Rf → Prop) (h : T_l_sizes ss ok er) : WF Z X er (ss ++ List.replicate (10 - ss.length) .un) (t_l_sizes Z X) ok := by
  obtain ⟨one, two, rfl, h0, h1, k⟩ := h
  show W _ [.im one, .im two, .un, .un, .un, .un, .un, .un, .un, .un] _ _
  unfold t_l_sizes
  refine w_seq (w_asg (ev_div (ev_var rfl) ev_int (by decide) (by decide)) ?_)
  walk_at "nz"
  have hn : 0 ≤ one / 3 := by omega
  generalize one / 3 = number at hn ⊢
  refine w_seq (w_if (by walk_at "ev") (fun hb => ?_) (fun hb => w_next ?_))
  · walk_at "w"
    refine w_fr 3 rfl ?_
    walk_at "nz"
    walk_at "w"
    refine w_fr 3 rfl ?_
    walk_at "nz"
    refine w_ret (ev_ix (ev_var rfl) (by walk_at "ev") (by omega) (by show number % 12 < 12; omega)) ?_
    refine k _ (szB_ok ?_)
    have : ∀ i : Int, 0 ≤ i → i < 12 → szB (gt ([[2, 2, 1, 3], [7, 1, 1, 3], [5, 1, 1, 4], [4, 2, 1, 2], [3, 3, 1, 2], [8, 1, 1, 2]] ++ [[4, 1, 1, 2], [2, 2, 2, 2], [3, 1, 1, 4], [2, 2, 1, 2], [5, 1, 1, 2], [9, 1, 1, 2]]) i) = true := by
      intro i h0 h1
      have e : i = ((i.toNat : Nat) : Int) := by omega
      have h2 : i.toNat < 12 := by omega
      rw [e]
      generalize i.toNat = n at h2
      revert n
      decide
    exact this _ (by omega) (by omega)
  · refine w_seq (w_asg (ev_ix (ev_fr (xs := ([8, 12, 6, 23] : List Int)) (by walk_at "ev")) (by walk_at "ev") (by omega) (by show number % 4 < 4; omega)) ?_)
    walk_at "nz"
    have ht : ∃ top : Int, gt ([8, 12, 6, 23] : List Int) (number % 4) = top ∧ 6 ≤ top ∧ top ≤ 23 := by
      refine ⟨_, rfl, ?_⟩
      have e : number % 4 = (((number % 4).toNat : Nat) : Int) := by omega
      have h2 : (number % 4).toNat < 4 := by omega
      rw [e]
      generalize (number % 4).toNat = n at h2
      revert n
      decide
    obtain ⟨top, et, t1, t2⟩ := ht
    rw [et]
    refine w_seq (w_asg (ev_ix (ev_fr (xs := ([2, 1, 2, 3, 2, 4] : List Int)) (by walk_at "ev")) (ev_mod (ev_div (ev_var rfl) ev_int (by decide) (by decide)) ev_int (by decide)) (by omega) (by show number / 4 % 6 < 6; omega)) ?_)
    walk_at "nz"
    have hs : ∃ st : Int, gt ([2, 1, 2, 3, 2, 4] : List Int) (number / 4 % 6) = st ∧ 1 ≤ st ∧ st ≤ 4 := by
      refine ⟨_, rfl, ?_⟩
      have e : number / 4 % 6 = (((number / 4 % 6).toNat : Nat) : Int) := by omega
      have h2 : (number / 4 % 6).toNat < 6 := by omega
      rw [e]
      generalize (number / 4 % 6).toNat = n at h2
      revert n
      decide
    obtain ⟨st, es, s1, s2⟩ := hs
    rw [es]
    have hr : 1 ≤ top / st := (Int.le_ediv_iff_mul_le (by omega)).mpr (by omega)
    have hr2 : top / st ≤ 23 := Int.le_trans (Int.ediv_le_self _ (by omega)) t2
    refine w_seq (w_asg (ev_div (ev_var rfl) (ev_var rfl) (by omega) (by omega)) ?_)
    walk_at "nz"
    obtain ⟨r, er⟩ : ∃ r, r = top / st := ⟨_, rfl⟩
    rw [← er] at hr hr2 ⊢
    refine w_seq (w_asg (ev_add ev_int (ev_mod (ev_div (ev_var rfl) ev_int (by decide) (by decide)) (ev_var rfl) (by omega))) ?_)
    walk_at "nz"
    have a1 := Int.emod_nonneg (number / 24) (show r ≠ 0 by omega)
    have a2 := Int.emod_lt_of_pos (number / 24) (show 0 < r by omega)
    obtain ⟨a, ea⟩ : ∃ a, a = 1 + number / 24 % r := ⟨_, rfl⟩
    rw [← ea]
    obtain ⟨p1, p2, p3, p4⟩ := szOk_of (x := two) (y := two / 23) er s1 t2 (show 1 ≤ a by omega) (show a ≤ r by omega)
    have p5 : r / a ≤ 23 := Int.le_trans (Int.ediv_le_self _ (by omega)) hr2
    refine w_seq (w_asg (ev_add ev_int (ev_mod (ev_var rfl) (ev_div (ev_var rfl) (ev_var rfl) (by omega) (by omega)) (by omega))) ?_)
    walk_at "nz"
    have b1 := Int.emod_nonneg two (show r / a ≠ 0 by omega)
    have b2 := Int.emod_lt_of_pos two (show 0 < r / a by omega)
    obtain ⟨b, eb⟩ : ∃ b, b = 1 + two % (r / a) := ⟨_, rfl⟩
    rw [← eb] at p2 p3 p4 ⊢
    have p6 : a * b ≤ r := by
      have := (drawn (x := two) (show 1 ≤ a by omega) (show a ≤ r by omega)).2.2
      rw [← eb] at this
      exact this
    have p7 : 1 ≤ a * b := by
      have := Int.mul_le_mul_of_nonneg_right (show 1 ≤ a by omega) (show 0 ≤ b by omega)
      omega
    have p8 : r / (a * b) ≤ 23 := Int.le_trans (Int.ediv_le_self _ (by omega)) hr2
    refine w_seq (w_asg (ev_add ev_int (ev_mod (ev_div (ev_var rfl) ev_int (by decide) (by decide)) (ev_div (ev_var rfl) (ev_mul (ev_var rfl) (ev_var rfl) (cmulS (by omega) (by omega) (by omega) (by omega))) (by omega) (by omega)) (by omega))) ?_)
    walk_at "nz"
    refine w_ret (ev_fr (xs := ([a, b, 1 + two / 23 % (r / (a * b)), st] : List Int)) (by walk_at "ev")) (k _ p4)
end TB

/-! ### l_kind -/
namespace TB
open PySem L2
--use TbAb
def T_l_kind : Tm := tm2 fun (l : List Int) (x : Int) ok _ => ∃ a b c d : Int, l = [a, b, c, d] ∧ 1 ≤ a ∧ 1 ≤ b ∧ 1 ≤ d ∧ ∀ k, KindOk a b d k → ok (.im k)
def t_l_kind (Z : Zz) (X : WX) : TS :=
  (tSeq (tAsg (tLst (tCons (tC (.int 0)) tNil)) (gName 2))
  (tSeq (tIfS (tAnd (tTest (tOp (gEq Z.K) (tOp (gIx Z.K) (tVar 0) (tC (.int 0))) (tOp (gIx Z.K) (tVar 0) (tC (.int 1))))) (tTest (tOp (gEq Z.K) (tOp gMod (tOp (gIx Z.K) (tVar 0) (tC (.int 3))) (tC (.int 2))) (tC (.int 0)))))
  (tDrop (tBM Z.K "list" rAppend (tVar 2) (tCons (tC (.int 1)) tNil)))
  tNext)
  (tSeq (tIfS (tAnd (tTest (tOp (gEq Z.K) (tOp (gIx Z.K) (tVar 0) (tC (.int 0))) (tOp (gIx Z.K) (tVar 0) (tC (.int 1))))) (tTest (tOp (gEq Z.K) (tOp gMod (tOp (gIx Z.K) (tVar 0) (tC (.int 3))) (tC (.int 3))) (tC (.int 0)))))
  (tDrop (tBM Z.K "list" rAppend (tVar 2) (tCons (tC (.int 2)) tNil)))
  tNext)
  (tSeq (tIfS (tAnd (tTest (tOp (gEq Z.K) (tOp gMod (tOp (gIx Z.K) (tVar 0) (tC (.int 0))) (tOp (gIx Z.K) (tVar 0) (tC (.int 1)))) (tC (.int 0)))) (tAnd (tTest (tOp gGt (tOp (gIx Z.K) (tVar 0) (tC (.int 1))) (tC (.int 1)))) (tTest (tOp (gEq Z.K) (tOp gMod (tOp (gIx Z.K) (tVar 0) (tC (.int 3))) (tOp (gIx Z.K) (tVar 0) (tC (.int 1)))) (tC (.int 0))))))
  (tDrop (tBM Z.K "list" rAppend (tVar 2) (tCons (tC (.int 3)) tNil)))
  tNext)
  (tSeq (tIfS (tAnd (tTest (tOp (gEq Z.K) (tOp gMod (tOp (gIx Z.K) (tVar 0) (tC (.int 0))) (tC (.int 2))) (tC (.int 0)))) (tAnd (tTest (tOp (gEq Z.K) (tOp gMod (tOp (gIx Z.K) (tVar 0) (tC (.int 1))) (tC (.int 2))) (tC (.int 0)))) (tTest (tOp (gEq Z.K) (tOp gMod (tOp (gIx Z.K) (tVar 0) (tC (.int 3))) (tC (.int 2))) (tC (.int 0))))))
  (tDrop (tBM Z.K "list" rAppend (tVar 2) (tCons (tC (.int 4)) tNil)))
  tNext)
  (tRet (tOp (gIx Z.K) (tVar 2) (tOp gMod (tVar 1) (tCB (gLen Z.K) (tCons (tVar 2) tNil))))))))))
theorem w_l_kind (Z : Zz) (X : WX) (ss : List Sl) (ok : Sl → Prop) (er : Rf → Prop) (h : T_l_kind ss ok er) : WF Z X er (ss ++ List.replicate (3 - ss.length) .un) (t_l_kind Z X) ok := by
  obtain ⟨l, x, rfl, a, b, c, d, rfl, ha, hb, hd, k⟩ := h
  show W _ [.im [a, b, c, d], .im x, .un] _ _
  unfold t_l_kind
  refine w_seq (w_asg (s := .ol ([0] : List Int)) (by walk_at "ev") ?_)
  walk_at "nz"
  have step : ∀ (i : Int) (ks : List Int) (n : Nat), ks.length ≤ n → (∀ k ∈ ks, KindOk a b d k) → KindOk a b d i → ks ≠ [] → (∀ k ∈ ks ++ [i], KindOk a b d k) ∧ ks ++ [i] ≠ [] ∧ (ks ++ [i]).length ≤ n + 1 := fun i ks n hl h1 h2 h3 => by
    refine ⟨fun k hk => ?_, by simp, by simp; omega⟩
    rcases List.mem_append.mp hk with q | q
    · exact h1 k q
    · rw [show k = i by simpa using q]; exact h2
  refine w_mid (fun G => ∃ ks : List Int, G = [.im [a, b, c, d], .im x, .ol ks] ∧ (∀ k ∈ ks, KindOk a b d k) ∧ ks ≠ [] ∧ ks.length ≤ 2) (w_if (et_and (et_test (ev_eqI (ev_s0 rfl) (ev_s1 rfl))) fun _ => et_test (ev_eqI (ev_mod (ev_s3 rfl) ev_int (by decide)) ev_int)) (fun hk => ?_) (fun hk => ?_)) ?_
  · simp at hk
    exact w_app rfl ev_int (by simp) ⟨_, rfl, step 1 [0] 1 (by simp) (by simp [KindOk]) (.inr (.inl ⟨rfl, hk.1, hk.2⟩)) (by simp)⟩
  · exact w_next ⟨_, rfl, by simp [KindOk], by simp, by simp⟩
  rintro _ ⟨ks, rfl, h1, h2, h3⟩
  refine w_mid (fun G => ∃ ks : List Int, G = [.im [a, b, c, d], .im x, .ol ks] ∧ (∀ k ∈ ks, KindOk a b d k) ∧ ks ≠ [] ∧ ks.length ≤ 3) (w_if (et_and (et_test (ev_eqI (ev_s0 rfl) (ev_s1 rfl))) fun _ => et_test (ev_eqI (ev_mod (ev_s3 rfl) ev_int (by decide)) ev_int)) (fun hk => ?_) (fun hk => ?_)) ?_
  · simp at hk
    exact w_app rfl ev_int (by omega) ⟨_, rfl, step 2 ks 2 h3 h1 (.inr (.inr (.inl ⟨rfl, hk.1, hk.2⟩))) h2⟩
  · exact w_next ⟨_, rfl, h1, h2, by omega⟩
  clear h1 h2 h3 ks
  rintro _ ⟨ks, rfl, h1, h2, h3⟩
  refine w_mid (fun G => ∃ ks : List Int, G = [.im [a, b, c, d], .im x, .ol ks] ∧ (∀ k ∈ ks, KindOk a b d k) ∧ ks ≠ [] ∧ ks.length ≤ 4) (w_if (et_and (et_test (ev_eqI (ev_mod (ev_s0 rfl) (ev_s1 rfl) (by omega)) ev_int)) fun _ => et_and (et_test (ev_gt (ev_s1 rfl) ev_int)) fun _ => et_test (ev_eqI (ev_mod (ev_s3 rfl) (ev_s1 rfl) (by omega)) ev_int)) (fun hk => ?_) (fun hk => ?_)) ?_
  · simp at hk
    exact w_app rfl ev_int (by omega) ⟨_, rfl, step 3 ks 3 h3 h1 (.inr (.inr (.inr (.inl ⟨rfl, hk.1, hk.2.2⟩)))) h2⟩
  · exact w_next ⟨_, rfl, h1, h2, by omega⟩
  clear h1 h2 h3 ks
  rintro _ ⟨ks, rfl, h1, h2, h3⟩
  refine w_mid (fun G => ∃ ks : List Int, G = [.im [a, b, c, d], .im x, .ol ks] ∧ (∀ k ∈ ks, KindOk a b d k) ∧ ks ≠ [] ∧ ks.length ≤ 5) (w_if (et_and (et_test (ev_eqI (ev_mod (ev_s0 rfl) ev_int (by decide)) ev_int)) fun _ => et_and (et_test (ev_eqI (ev_mod (ev_s1 rfl) ev_int (by decide)) ev_int)) fun _ => et_test (ev_eqI (ev_mod (ev_s3 rfl) ev_int (by decide)) ev_int)) (fun hk => ?_) (fun hk => ?_)) ?_
  · simp at hk
    exact w_app rfl ev_int (by omega) ⟨_, rfl, step 4 ks 4 h3 h1 (.inr (.inr (.inr (.inr ⟨rfl, hk.1, hk.2.1, hk.2.2⟩)))) h2⟩
  · exact w_next ⟨_, rfl, h1, h2, by omega⟩
  clear h1 h2 h3 ks
  rintro _ ⟨ks, rfl, h1, h2, h3⟩
  have hl : 0 < ks.length := List.length_pos_iff.mpr h2
  have m0 := Int.emod_nonneg x (show (ks.length : Int) ≠ 0 by omega)
  have m1 := Int.emod_lt_of_pos x (show (0 : Int) < ks.length by omega)
  exact w_ret (ev_ixO rfl (ev_mod (ev_var rfl) (ev_lenO rfl) (by omega)) m0 m1) (k _ (h1 _ (gt_mem m0 m1)))
end TB

/-! ### l_unit -/
namespace TB
open PySem L2
--use TbAb
def T_l_unit : Tm := tm3 fun (n s x : Int) ok _ => 1 ≤ n ∧ n ≤ 23 ∧ 1 ≤ s ∧ s ≤ 23 ∧ ∀ u, UnitOk n s u → ok (.im u)
theorem one_pow {n : Int} (s : Nat) : (1 % n) ^ s % n = 1 % n := by
  induction s with
  | zero => rw [Int.pow_zero]
  | succ s ih => rw [Int.pow_succ, Int.mul_emod, ih, Int.emod_emod, ← Int.mul_emod, Int.one_mul]
def t_l_unit (Z : Zz) (X : WX) : TS :=
  (tSeq (tAsg (tLst tNil) (gName 3))
  (tSeq (tFor (iRng1 (tCons (tVar 0) tNil)) (gName 4)
  (tSeq (tAsg (tC (.int 1)) (gName 5))
  (tSeq (tFor (iRng1 (tCons (tVar 1) tNil)) (gName 6)
  (tAsg (tOp gMod (tOp gMul (tVar 5) (tVar 4)) (tVar 0)) (gName 5)))
  (tIfS (tTest (tOp (gEq Z.K) (tVar 5) (tOp gMod (tC (.int 1)) (tVar 0))))
  (tDrop (tBM Z.K "list" rAppend (tVar 3) (tCons (tVar 4) tNil)))
  tNext))))
  (tSeq (tIfS (tAnd (tTest (tOp gGt (tOp gMul (tVar 0) (tVar 1)) (tC (.int 16)))) (tTest (tOp gGt (tCB (gLen Z.K) (tCons (tVar 3) tNil)) (tC (.int 1)))))
  (tAsg (tSl (rSlL Z.K) (tVar 3) (tPart (tC (.int 1))) tNoPart) (gName 3))
  tNext)
  (tRet (tOp (gIx Z.K) (tVar 3) (tOp gMod (tVar 2) (tCB (gLen Z.K) (tCons (tVar 3) tNil))))))))
theorem w_l_unit (Z : Zz) (X : WX) (ss : List Sl) (ok : Sl → Prop) (er : Rf → Prop) (h : T_l_unit ss ok er) : WF Z X er (ss ++ List.replicate (7 - ss.length) .un) (t_l_unit Z X) ok := by
  obtain ⟨n, s, x, rfl, hn, hn2, hs, hs2, k⟩ := h
  show W _ [.im n, .im s, .im x, .un, .un, .un, .un] _ _
  unfold t_l_unit
  refine w_seq (w_asg (ev_nil (δ := Int)) ?_)
  walk_at "nz"
  refine w_seq (w_forR (n := n) (fun i G => ∃ (us : List Int) (s4 s5 s6 : Sl), G = [.im n, .im s, .im x, .ol us, s4, s5, s6] ∧ (∀ u ∈ us, UnitOk n s u) ∧ us.length ≤ i ∧ (1 % n < i → us ≠ [])) (ev_var rfl) (by omega) (by omega) ⟨[], _, _, _, rfl, by simp, by simp, fun h => ?_⟩ ?_ ?_)
  · have := Int.emod_nonneg 1 (show n ≠ 0 by omega)
    omega
  · rintro i G hi ⟨us, s4, s5, s6, rfl, h1, h2, h3⟩
    walk_at "nz"
    refine w_seq (w_asg ev_int ?_)
    walk_at "nz"
    refine w_seq (w_forR (n := s) (fun j G => ∃ (y : Int) (s6 : Sl), G = [.im n, .im s, .im x, .ol us, .im (i : Int), .im y, s6] ∧ 0 ≤ y ∧ y ≤ 23 ∧ y % n = (i : Int) ^ j % n ∧ (0 < j → y < n)) (ev_var rfl) (by omega) (by omega) ⟨1, _, rfl, by omega, by omega, by rw [Int.pow_zero], by omega⟩ ?_ ?_)
    · rintro j G hj ⟨y, s6, rfl, y0, y1, e, y2⟩
      walk_at "nz"
      have z0 := Int.emod_nonneg (y * i) (show n ≠ 0 by omega)
      have z1 := Int.emod_lt_of_pos (y * i) (show 0 < n by omega)
      refine w_asg (ev_mod (ev_mul (ev_var rfl) (ev_var rfl) (cmul23 y0 (by omega) (by omega) (by omega))) (ev_var rfl) (by omega)) ⟨_, _, rfl, z0, by omega, ?_, fun _ => z1⟩
      rw [Int.emod_emod, Int.pow_succ, Int.mul_emod, e, ← Int.mul_emod]
    · rintro G ⟨y, s6, rfl, y0, y1, e, y2⟩
      have y3 := y2 (by omega)
      rw [Int.emod_eq_of_lt y0 y3] at e
      refine w_if (et_test (ev_eqI (ev_var rfl) (ev_mod ev_int (ev_var rfl) (by omega)))) (fun hb => ?_) (fun hb => ?_)
      · simp at hb
        refine w_app rfl (ev_var rfl) (by omega) ⟨_, _, _, _, rfl, fun u hu => ?_, by simp; omega, fun _ => by simp⟩
        rcases List.mem_append.mp hu with q | q
        · exact h1 u q
        · rw [show u = i by simpa using q]
          exact ⟨by omega, hi, by rw [← e, hb]⟩
      · simp at hb
        refine w_next ⟨_, _, _, _, rfl, h1, by omega, fun h => ?_⟩
        by_cases q : 1 % n < (i : Int)
        · exact h3 q
        · have q2 : (i : Int) = 1 % n := by omega
          rw [q2, one_pow] at e
          exact absurd e hb
  · rintro G ⟨us, s4, s5, s6, rfl, h1, h2, h3⟩
    have hne := h3 (by have := Int.emod_lt_of_pos 1 (show 0 < n by omega); omega)
    have hl : 0 < us.length := List.length_pos_iff.mpr hne
    refine w_fr 3 rfl ?_
    walk_at "nz"
    refine w_mid (fun G => ∃ us : List Int, G = [.im n, .im s, .im x, .im us, s4, s5, s6] ∧ (∀ u ∈ us, UnitOk n s u) ∧ 0 < us.length) (w_if (et_and (et_test (ev_gt (ev_mul (ev_var rfl) (ev_var rfl) (cmul23 (by omega) (by omega) (by omega) (by omega))) ev_int)) fun _ => et_test (ev_gt (ev_len (ev_var rfl)) ev_int)) (fun hb => ?_) (fun hb => ?_)) ?_
    · simp at hb
      refine w_asg (s := .im (us.drop 1)) (ev_fr (ev_cutFrom (ev_var rfl) ev_int (by decide))) ⟨_, rfl, fun u hu => h1 u (List.mem_of_mem_drop hu), by rw [List.length_drop]; omega⟩
    · exact w_next ⟨_, rfl, h1, hl⟩
    · clear h1 h2 h3 hne hl
      rintro _ ⟨us, rfl, h1, hl⟩
      have m0 := Int.emod_nonneg x (show (us.length : Int) ≠ 0 by omega)
      have m1 := Int.emod_lt_of_pos x (show (0 : Int) < us.length by omega)
      exact w_ret (ev_ix (ev_var rfl) (ev_mod (ev_var rfl) (ev_len (ev_var rfl)) (by omega)) m0 m1) (k _ (h1 _ (gt_mem m0 m1)))
end TB

/-! ### l_turned -/
namespace TB
open PySem L2
--use TbAb
def T_l_turned : Tm := tm4 fun (p : Int) (l : List Int) (k : Int) (us : List Int) ok _ => ∃ a b c d u v w : Int, l = [a, b, c, d] ∧ us = [u, v, w] ∧ 1 ≤ a ∧ 1 ≤ b ∧ 1 ≤ c ∧ a * b * c ≤ 23 ∧ In a u ∧ In b v ∧ In c w ∧ In (a * b * c) p ∧ ok (.im (tuF a b c u v w k p))
def t_l_turned (Z : Zz) (X : WX) : TS :=
  (tSeq (tAsg (tOp gMod (tVar 0) (tOp (gIx Z.K) (tVar 1) (tC (.int 0)))) (gName 4))
  (tSeq (tAsg (tOp gMod (tOp gDiv (tVar 0) (tOp (gIx Z.K) (tVar 1) (tC (.int 0)))) (tOp (gIx Z.K) (tVar 1) (tC (.int 1)))) (gName 5))
  (tSeq (tAsg (tOp gMod (tOp gMul (tOp gDiv (tVar 0) (tOp gMul (tOp (gIx Z.K) (tVar 1) (tC (.int 0))) (tOp (gIx Z.K) (tVar 1) (tC (.int 1))))) (tOp (gIx Z.K) (tVar 3) (tC (.int 2)))) (tOp (gIx Z.K) (tVar 1) (tC (.int 2)))) (gName 6))
  (tSeq (tIfS (tTest (tOp (gEq Z.K) (tVar 2) (tC (.int 1))))
  (tPar 4 5 (tCons (tVar 5) (tCons (tVar 4) tNil)))
  (tIfS (tTest (tOp (gEq Z.K) (tVar 2) (tC (.int 2))))
  (tPar 4 5 (tCons (tOp gMod (tOp gMns (tC (.int 0)) (tVar 5)) (tOp (gIx Z.K) (tVar 1) (tC (.int 0)))) (tCons (tOp gMod (tOp gMns (tVar 4) (tVar 5)) (tOp (gIx Z.K) (tVar 1) (tC (.int 0)))) tNil)))
  (tIfS (tTest (tOp (gEq Z.K) (tVar 2) (tC (.int 3))))
  (tAsg (tOp gMod (tOp gAdd (tVar 5) (tVar 4)) (tOp (gIx Z.K) (tVar 1) (tC (.int 1)))) (gName 5))
  (tIfS (tTest (tOp (gEq Z.K) (tVar 2) (tC (.int 4))))
  (tAsg (tOp gMod (tOp gAdd (tVar 4) (tOp gMul (tOp gDiv (tOp (gIx Z.K) (tVar 1) (tC (.int 0))) (tC (.int 2))) (tVar 5))) (tOp (gIx Z.K) (tVar 1) (tC (.int 0)))) (gName 4))
  (tSeq (tAsg (tOp gMod (tOp gMul (tVar 4) (tOp (gIx Z.K) (tVar 3) (tC (.int 0)))) (tOp (gIx Z.K) (tVar 1) (tC (.int 0)))) (gName 4))
  (tAsg (tOp gMod (tOp gMul (tVar 5) (tOp (gIx Z.K) (tVar 3) (tC (.int 1)))) (tOp (gIx Z.K) (tVar 1) (tC (.int 1)))) (gName 5)))))))
  (tRet (tOp gAdd (tVar 4) (tOp gMul (tOp (gIx Z.K) (tVar 1) (tC (.int 0))) (tOp gAdd (tVar 5) (tOp gMul (tOp (gIx Z.K) (tVar 1) (tC (.int 1))) (tVar 6))))))))))
theorem w_l_turned (Z : Zz) (X : WX) (ss : List Sl) (ok : Sl → Prop) (er : Rf → Prop) (h : T_l_turned ss ok er) : WF Z X er (ss ++ List.replicate (7 - ss.length) .un) (t_l_turned Z X) ok := by
  obtain ⟨p, l, k, us, rfl, a, b, c, d, u, v, w, rfl, rfl, ha, hb, hc, hn, hu, hv, hw, hp, kk⟩ := h
  show W _ [.im p, .im [a, b, c, d], .im k, .im [u, v, w], .un, .un, .un] _ _
  unfold t_l_turned
  obtain ⟨a1, b1, c1, d1, e1, f1⟩ := bnd ha hb hc hn
  have m1 := md' ha p
  have m2 := md' hb (p / a)
  have m3 := md' hc (p / (a * b) * w)
  have hpd : 0 ≤ p / (a * b) ∧ p / (a * b) ≤ 23 := ⟨Int.ediv_nonneg hp.1 (by omega), Int.le_trans (Int.ediv_le_self _ hp.1) (by have := hp.2; omega)⟩
  have w0 := hw.1
  have w1 := hw.2
  have u0 := hu.1
  have u1 := hu.2
  have v0 := hv.1
  have v1 := hv.2
  refine w_seq (w_asg (ev_mod (ev_var rfl) (ev_s0 rfl) (by omega)) ?_)
  refine w_seq (w_asg (ev_mod (ev_div (ev_var rfl) (ev_s0 rfl) (by omega) (by omega)) (ev_s1 rfl) (by omega)) ?_)
  refine w_seq (w_asg (ev_mod (ev_mul (ev_div (ev_var rfl) (ev_mul (ev_s0 rfl) (ev_s1 rfl) (cmul23 (by omega) (by omega) (by omega) (by omega))) (by omega) (by omega)) (ev_u2 rfl) (cmul23 hpd.1 (by omega) w0 (by omega))) (ev_s2 rfl) (by omega)) ?_)
  walk_at "nz"
  unfold tuF at kk
  generalize p % a = x at *
  generalize p / a % b = y at *
  generalize p / (a * b) * w % c = z at *
  obtain ⟨x0, x1⟩ := m1
  obtain ⟨y0, y1⟩ := m2
  obtain ⟨z0, z1⟩ := m3
  have hyz : y + b * z ≤ 600 := by
    have : b * z ≤ 23 * 23 := Int.mul_le_mul b1 (by omega) (by omega) (by omega)
    omega
  have hyz0 : 0 ≤ b * z := Int.mul_nonneg (by omega) z0
  have hin : 0 ≤ (tuP a b u v k x y).2 ∧ (tuP a b u v k x y).2 ≤ 23 := by
    unfold tuP
    have q1 := md' hb (y * v)
    have q2 := md' ha (x - y)
    have q3 := md' hb (y + x)
    split
    · exact ⟨x0, by show x ≤ 23; omega⟩
    split
    · exact ⟨q2.1, by have := q2.2; show (x - y) % a ≤ 23; omega⟩
    split
    · exact ⟨q3.1, by have := q3.2; show (y + x) % b ≤ 23; omega⟩
    split
    · exact ⟨y0, by show y ≤ 23; omega⟩
    · exact ⟨q1.1, by have := q1.2; show (y * v) % b ≤ 23; omega⟩
  refine w_mid (fun G => G = [.im p, .im [a, b, c, d], .im k, .im [u, v, w], .im (tuP a b u v k x y).1, .im (tuP a b u v k x y).2, .im z]) ?_ ?_
  · unfold tuP
    refine w_if (et_test (ev_eqI (ev_var rfl) ev_int)) (fun hk => ?_) (fun hk => ?_)
    · simp at hk
      rw [if_pos hk]
      exact w_par (ev_var rfl) (ev_var rfl) rfl
    simp at hk
    rw [if_neg hk]
    refine w_if (et_test (ev_eqI (ev_var rfl) ev_int)) (fun hk => ?_) (fun hk => ?_)
    · simp at hk
      rw [if_pos hk]
      exact w_par (ev_mod (ev_sub ev_int (ev_var rfl)) (ev_s0 rfl) (by omega)) (ev_mod (ev_sub (ev_var rfl) (ev_var rfl)) (ev_s0 rfl) (by omega)) rfl
    simp at hk
    rw [if_neg hk]
    refine w_if (et_test (ev_eqI (ev_var rfl) ev_int)) (fun hk => ?_) (fun hk => ?_)
    · simp at hk
      rw [if_pos hk]
      exact w_asg (ev_mod (ev_add (ev_var rfl) (ev_var rfl)) (ev_s1 rfl) (by omega)) rfl
    simp at hk
    rw [if_neg hk]
    refine w_if (et_test (ev_eqI (ev_var rfl) ev_int)) (fun hk => ?_) (fun hk => ?_)
    · simp at hk
      rw [if_pos hk]
      exact w_asg (ev_mod (ev_add (ev_var rfl) (ev_mul (ev_div (ev_s0 rfl) ev_int (by decide) (by decide)) (ev_var rfl) (cmul23 (by omega) (by omega) y0 (by omega)))) (ev_s0 rfl) (by omega)) rfl
    simp at hk
    rw [if_neg hk]
    refine w_seq (w_asg (ev_mod (ev_mul (ev_var rfl) (ev_u0 rfl) (cmul23 x0 (by omega) u0 (by omega))) (ev_s0 rfl) (by omega)) ?_)
    exact w_asg (ev_mod (ev_mul (ev_var rfl) (ev_u1 rfl) (cmul23 y0 (by omega) v0 (by omega))) (ev_s1 rfl) (by omega)) rfl
  · rintro _ rfl
    generalize tuP a b u v k x y = q at *
    have q0 := hin.1
    have q1 := hin.2
    exact w_ret (ev_add (ev_var rfl) (ev_mul (ev_s0 rfl) (ev_add (ev_var rfl) (ev_mul (ev_s1 rfl) (ev_var rfl) (cmul23 (by omega) (by omega) z0 (by omega)))) (cmul23 (by omega) (by omega) (by omega) (by omega)))) kk
end TB

/-! ### l_sum -/
namespace TB
open PySem L2
--use TbAb
def T_l_sum : Tm := tm3 fun (p q : Int) (l : List Int) ok _ => ∃ a b c d : Int, l = [a, b, c, d] ∧ 1 ≤ a ∧ 1 ≤ b ∧ 1 ≤ c ∧ a * b * c ≤ 23 ∧ In (a * b * c) p ∧ In (a * b * c) q ∧ ok (.im (suF a b c p q))
def t_l_sum (Z : Zz) (X : WX) : TS :=
  (tSeq (tAsg (tOp gMul (tOp (gIx Z.K) (tVar 2) (tC (.int 0))) (tOp (gIx Z.K) (tVar 2) (tC (.int 1)))) (gName 3))
  (tSeq (tAsg (tOp gMod (tOp gAdd (tVar 0) (tVar 1)) (tOp (gIx Z.K) (tVar 2) (tC (.int 0)))) (gName 4))
  (tSeq (tAsg (tOp gMod (tOp gAdd (tOp gDiv (tVar 0) (tOp (gIx Z.K) (tVar 2) (tC (.int 0)))) (tOp gDiv (tVar 1) (tOp (gIx Z.K) (tVar 2) (tC (.int 0))))) (tOp (gIx Z.K) (tVar 2) (tC (.int 1)))) (gName 5))
  (tSeq (tAsg (tOp gMod (tOp gAdd (tOp gDiv (tVar 0) (tVar 3)) (tOp gDiv (tVar 1) (tVar 3))) (tOp (gIx Z.K) (tVar 2) (tC (.int 2)))) (gName 6))
  (tRet (tOp gAdd (tOp gAdd (tVar 4) (tOp gMul (tOp (gIx Z.K) (tVar 2) (tC (.int 0))) (tVar 5))) (tOp gMul (tVar 3) (tVar 6))))))))
theorem w_l_sum (Z : Zz) (X : WX) (ss : List Sl) (ok : Sl → Prop) (er : Rf → Prop) (h : T_l_sum ss ok er) : WF Z X er (ss ++ List.replicate (7 - ss.length) .un) (t_l_sum Z X) ok := by
  obtain ⟨p, q, l, rfl, a, b, c, d, rfl, ha, hb, hc, hn, hp, hq, k⟩ := h
  show W _ [.im p, .im q, .im [a, b, c, d], .un, .un, .un, .un] _ _
  unfold t_l_sum
  obtain ⟨a1, b1, c1, d1, e1, f1⟩ := bnd ha hb hc hn
  have m1 := md' ha (p + q)
  have m2 := md' hb (p / a + q / a)
  have m3 := md' hc (p / (a * b) + q / (a * b))
  refine w_seq (w_asg (ev_mul (ev_s0 rfl) (ev_s1 rfl) (cmul23 (by omega) (by omega) (by omega) (by omega))) ?_)
  refine w_seq (w_asg (ev_mod (ev_add (ev_var rfl) (ev_var rfl)) (ev_s0 rfl) (by omega)) ?_)
  refine w_seq (w_asg (ev_mod (ev_add (ev_div (ev_var rfl) (ev_s0 rfl) (by omega) (by omega)) (ev_div (ev_var rfl) (ev_s0 rfl) (by omega) (by omega))) (ev_s1 rfl) (by omega)) ?_)
  refine w_seq (w_asg (ev_mod (ev_add (ev_div (ev_var rfl) (ev_var rfl) (by omega) (by omega)) (ev_div (ev_var rfl) (ev_var rfl) (by omega) (by omega))) (ev_s2 rfl) (by omega)) ?_)
  exact w_ret (ev_add (ev_add (ev_var rfl) (ev_mul (ev_s0 rfl) (ev_var rfl) (cmul23 (by omega) (by omega) m2.1 (by have := m2.2; omega)))) (ev_mul (ev_var rfl) (ev_var rfl) (cmul23 (by omega) (by omega) m3.1 (by have := m3.2; omega)))) k
end TB

/-! ### l_rows -/
namespace TB
open PySem L2
--use TbAb
def T_l_rows : Tm := tm3 fun (l tu : List Int) (e : Int) ok _ => ∃ (a b c d : Int) (ph : Int → Int), l = [a, b, c, d] ∧ 1 ≤ a ∧ 1 ≤ b ∧ 1 ≤ c ∧ 1 ≤ d ∧ a * b * c * d ≤ 23 ∧ tu = (irange (a * b * c)).map ph ∧ (∀ x, In (a * b * c) x → In (a * b * c) (ph x)) ∧ In (a * b * c) e ∧ ok (.im (tab (a * b * c * d) (xop (a * b * c) d (suF a b c) ph e)))
theorem irange_at {n : Int} {f : Int → Int} {g : Int} (h : 0 ≤ n) (e : g = f n) : (irange n).map f ++ [g] = (irange (n + 1)).map f := by rw [irange_suc h, List.map_append, e]; rfl
theorem irange_atT {n : Int} {f : Int → List Int} {g : List Int} (h : 0 ≤ n) (e : g = f n) : (irange n).map f ++ [g] = (irange (n + 1)).map f := by rw [irange_suc h, List.map_append, e]; rfl
def t_l_rows (Z : Zz) (X : WX) : TS :=
  (tSeq (tAsg (tCB (gLen Z.K) (tCons (tVar 1) tNil)) (gName 3))
  (tSeq (tAsg (tLst tNil) (gName 4))
  (tSeq (tAsg (tLstRg (tRg1 (tVar 3))) (gName 5))
  (tSeq (tFor (iRng1 (tCons (tOp (gIx Z.K) (tVar 0) (tC (.int 3))) tNil)) (gName 6)
  (tSeq (tFor (iRng1 (tCons (tVar 3) tNil)) (gName 7)
  (tSeq (tAsg (tLst tNil) (gName 8))
  (tSeq (tFor (iRng1 (tCons (tOp (gIx Z.K) (tVar 0) (tC (.int 3))) tNil)) (gName 9)
  (tFor (iRng1 (tCons (tVar 3) tNil)) (gName 10)
  (tSeq (tAsg (tCallSD (spOf Z T_l_sum) [] (WE X) (tCons (tVar 7) (tCons (tOp (gIx Z.K) (tVar 5) (tVar 10)) (tCons (tVar 0) tNil)))) (gName 11))
  (tSeq (tIfS (tTest (tOp gGe (tOp gAdd (tVar 6) (tVar 9)) (tOp (gIx Z.K) (tVar 0) (tC (.int 3)))))
  (tAsg (tCallSD (spOf Z T_l_sum) [] (WE X) (tCons (tVar 11) (tCons (tVar 2) (tCons (tVar 0) tNil)))) (gName 11))
  tNext)
  (tDrop (tBM Z.K "list" rAppend (tVar 8) (tCons (tOp gAdd (tVar 11) (tOp gMul (tVar 3) (tOp gMod (tOp gAdd (tVar 6) (tVar 9)) (tOp (gIx Z.K) (tVar 0) (tC (.int 3)))))) tNil)))))))
  (tDrop (tBM Z.K "list" rAppend (tVar 4) (tCons (tVar 8) tNil))))))
  (tAsg (tLc (iList Z.K (tVar 5)) (gName 11) tYes (tOp (gIx Z.K) (tVar 1) (tVar 11)) [11]) (gName 5))))
  (tRet (tVar 4))))))
theorem w_l_rows (Z : Zz) (X : WX) (ss : List Sl) (ok : Sl → Prop) (er : Rf → Prop) (h : T_l_rows ss ok er) : WF Z X er (ss ++ List.replicate (12 - ss.length) .un) (t_l_rows Z X) ok := by
  obtain ⟨l, tu, e, rfl, a, b, c, d, ph, rfl, ha, hb, hc, hd, hN, rfl, hph, he, k⟩ := h
  show W _ [.im [a, b, c, d], .im ((irange (a * b * c)).map ph), .im e, .un, .un, .un, .un, .un, .un, .un, .un, .un] _ _
  unfold t_l_rows
  have hab : 1 ≤ a * b := by
    have h1 : a * 1 ≤ a * b := Int.mul_le_mul_of_nonneg_left hb (by omega)
    omega
  obtain ⟨n1, _, d1, nd1, nd2, _⟩ := bnd (a := a * b * c) (b := d) (c := 1) (by
    have h1 : a * b * 1 ≤ a * b * c := Int.mul_le_mul_of_nonneg_left hc (by omega)
    omega) hd (by decide) (by omega)
  have hn1 : 1 ≤ a * b * c := by
    have h1 : a * b * 1 ≤ a * b * c := Int.mul_le_mul_of_nonneg_left hc (by omega)
    omega
  have hd23 : d ≤ 23 := by
    have h1 : 1 * d ≤ a * b * c * d := Int.mul_le_mul_of_nonneg_right hn1 (by omega)
    omega
  have hG := suF_G ha hb hc
  obtain ⟨n, en⟩ : ∃ n, n = a * b * c := ⟨_, rfl⟩
  rw [← en] at n1 nd1 nd2 hn1 hN hph he k hG ⊢
  have hcall : ∀ p q : Int, In n p → In n q → T_l_sum [.im p, .im q, .im [a, b, c, d]] (fun s => s = .im (suF a b c p q)) (fun _ => False) := fun p q hp hq => ⟨p, q, _, rfl, a, b, c, d, rfl, ha, hb, hc, by rw [← en]; exact n1, by rw [← en]; exact hp, by rw [← en]; exact hq, rfl⟩
  have itn : ∀ i q, In n q → In n (itr ph i q) := fun i q hq => by
    induction i with
    | zero => exact hq
    | succ i ih => exact hph _ ih
  have cl : ∀ p q, In n (suF a b c p q) := hG.cl
  generalize suF a b c = f at *
  have hlen : (((irange n).map ph).length : Int) = n := by rw [List.length_map, irange_len]; omega
  have hlenT : ∀ g : Int → Int, (((irange n).map g).length : Int) = n := fun g => by rw [List.length_map, irange_len]; omega
  refine w_seq (w_asg (s := .im n) (ev_to (ev_len (ev_var rfl)) hlen) ?_)
  refine w_seq (w_asg (ev_nil (δ := List Int)) ?_)
  refine w_seq (w_asg (s := .im (irange n)) (ev_fr (ev_listRg (ev_var rfl) (by omega) (by omega))) ?_)
  walk_at "nz"
  generalize hop : xop n d f ph e = op at k
  refine w_seq (w_forR (n := d) (fun i G => ∃ s6 s7 s8 s9 s10 s11 : Sl, G = [.im [a, b, c, d], .im ((irange n).map ph), .im e, .im n, .ol ((irange (n * i)).map fun A => (irange (n * d)).map (op A)), .im ((irange n).map (itr ph i)), s6, s7, s8, s9, s10, s11]) (ev_s3 rfl) (by omega) (by omega) ⟨.un, .un, .un, .un, .un, .un, ?_⟩ ?_ ?_)
  · rw [show n * ((0 : Nat) : Int) = 0 by simp, irange_0]
    have : (irange n).map (itr ph 0) = irange n := List.map_id _
    rw [this]
    rfl
  · rintro i G hi ⟨s6, s7, s8, s9, s10, s11, rfl⟩
    walk_at "nz"
    have hni : 0 ≤ n * (i : Int) := Int.mul_nonneg (by omega) (by omega)
    have hni2 : n * (i : Int) ≤ 600 := by
      have : n * (i : Int) ≤ 23 * 23 := Int.mul_le_mul n1 (by omega) (by omega) (by omega)
      omega
    refine w_seq (w_forR (n := n) (fun p G => ∃ s7 s8 s9 s10 s11 : Sl, G = [.im [a, b, c, d], .im ((irange n).map ph), .im e, .im n, .ol ((irange (n * i + p)).map fun A => (irange (n * d)).map (op A)), .im ((irange n).map (itr ph i)), .im (i : Int), s7, s8, s9, s10, s11]) (ev_var rfl) (by omega) (by omega) ⟨s7, s8, s9, s10, s11, by rw [show n * (i : Int) + ((0 : Nat) : Int) = n * i by simp]⟩ ?_ ?_)
    · rintro p G hp ⟨s7, s8, s9, s10, s11, rfl⟩
      walk_at "nz"
      have hP : In n (p : Int) := ⟨by omega, hp⟩
      refine w_seq (w_asg (ev_nil (δ := Int)) ?_)
      walk_at "nz"
      refine w_seq (w_forR (n := d) (fun j G => ∃ s9 s10 s11 : Sl, G = [.im [a, b, c, d], .im ((irange n).map ph), .im e, .im n, .ol ((irange (n * i + p)).map fun A => (irange (n * d)).map (op A)), .im ((irange n).map (itr ph i)), .im (i : Int), .im (p : Int), .ol ((irange (n * j)).map (op (n * i + p))), s9, s10, s11]) (ev_s3 rfl) (by omega) (by omega) ⟨s9, s10, s11, by rw [show n * ((0 : Nat) : Int) = 0 by simp, irange_0]; rfl⟩ ?_ ?_)
      · rintro j G hj ⟨s9, s10, s11, rfl⟩
        walk_at "nz"
        have hnj : 0 ≤ n * (j : Int) := Int.mul_nonneg (by omega) (by omega)
        have hnj2 : n * (j : Int) ≤ 600 := by
          have : n * (j : Int) ≤ 23 * 23 := Int.mul_le_mul n1 (by omega) (by omega) (by omega)
          omega
        refine w_forR (n := n) (fun q G => ∃ s10 s11 : Sl, G = [.im [a, b, c, d], .im ((irange n).map ph), .im e, .im n, .ol ((irange (n * i + p)).map fun A => (irange (n * d)).map (op A)), .im ((irange n).map (itr ph i)), .im (i : Int), .im (p : Int), .ol ((irange (n * j + q)).map (op (n * i + p))), .im (j : Int), s10, s11]) (ev_var rfl) (by omega) (by omega) ⟨s10, s11, by rw [show n * (j : Int) + ((0 : Nat) : Int) = n * j by simp]⟩ ?_ ?_
        · rintro q G hq ⟨s10, s11, rfl⟩
          walk_at "nz"
          have hQ : In n (q : Int) := ⟨by omega, hq⟩
          have hI := itn i q hQ
          have eg : gt ((irange n).map (itr ph i)) (q : Int) = itr ph i q := gt_map hQ.1 hQ.2
          refine w_seq (w_asg (s := .im (f p (itr ph i q))) (ev_callN (ea_cons (ev_var rfl) (ea_cons (ev_to (ev_ix (ev_var rfl) (ev_var rfl) hQ.1 (by rw [hlenT]; exact hQ.2)) eg) (ea_cons (ev_var rfl) ea_nil))) ?_) ?_)
          · obtain ⟨p', q', l', e1, r⟩ := hcall p _ hP hI
            exact ⟨p', q', l', e1, r⟩
          walk_at "nz"
          have m0 := Int.emod_nonneg ((i : Int) + j) (show d ≠ 0 by omega)
          have m1 := Int.emod_lt_of_pos ((i : Int) + j) (show 0 < d by omega)
          have eo : op (n * i + p) (n * j + q) = (if d ≤ (i : Int) + j then f (f p (itr ph i q)) e else f p (itr ph i q)) + n * (((i : Int) + j) % d) := by
            rw [← hop]
            unfold xop
            have a1 := dm (n := n) (k := (i : Int)) hP
            have a2 := dm (n := n) (k := (j : Int)) hQ
            rw [Int.add_comm (n * (i : Int)), Int.add_comm (n * (j : Int)), a1.1, a1.2, a2.1, a2.2]
            rfl
          refine w_mid (fun G => ∃ v : Int, v = (if d ≤ (i : Int) + j then f (f p (itr ph i q)) e else f p (itr ph i q)) ∧ G = [.im [a, b, c, d], .im ((irange n).map ph), .im e, .im n, .ol ((irange (n * i + p)).map fun A => (irange (n * d)).map (op A)), .im ((irange n).map (itr ph i)), .im (i : Int), .im (p : Int), .ol ((irange (n * j + q)).map (op (n * i + p))), .im (j : Int), .im (q : Int), .im v]) (w_if (et_test (ev_ge (ev_add (ev_var rfl) (ev_var rfl)) (ev_s3 rfl))) (fun hb => ?_) (fun hb => ?_)) ?_
          · simp at hb
            refine w_asg (s := .im (f (f p (itr ph i q)) e)) (ev_callN (ea_cons (ev_var rfl) (ea_cons (ev_var rfl) (ea_cons (ev_var rfl) ea_nil))) ?_) ⟨_, by rw [if_pos hb], rfl⟩
            obtain ⟨p', q', l', e1, r⟩ := hcall _ _ (cl p (itr ph i q)) he
            exact ⟨p', q', l', e1, r⟩
          · simp at hb
            exact w_next ⟨_, by rw [if_neg (by omega)], rfl⟩
          · rintro _ ⟨v, ev, rfl⟩
            refine w_app rfl (ev_add (ev_var rfl) (ev_mul (ev_var rfl) (ev_mod (ev_add (ev_var rfl) (ev_var rfl)) (ev_s3 rfl) (by omega)) (cmul23 (by omega) (by omega) m0 (by omega)))) (by rw [List.length_map, irange_len]; omega) ⟨.im (q : Int), .im v, ?_⟩
            walk_at "nz"
            rw [irange_at (by omega) (by rw [eo, ev]), show n * (j : Int) + ((q + 1 : Nat) : Int) = n * j + q + 1 by omega]
        · rintro G ⟨s10, s11, rfl⟩
          refine ⟨.im (j : Int), s10, s11, ?_⟩
          rw [show n * (j : Int) + ((n.toNat : Nat) : Int) = n * ((j + 1 : Nat) : Int) by rw [show ((j + 1 : Nat) : Int) = j + 1 by omega, Int.mul_add]; omega]
      · rintro G ⟨s9, s10, s11, rfl⟩
        rw [show ((d.toNat : Nat) : Int) = d by omega]
        refine w_fr 8 rfl (w_app rfl (ev_var rfl) (by rw [List.length_map, irange_len]; omega) ⟨.im (p : Int), .im ((irange (n * d)).map (op (n * i + p))), s9, s10, s11, ?_⟩)
        walk_at "nz"
        rw [irange_atT (by omega) rfl, show n * (i : Int) + ((p + 1 : Nat) : Int) = n * i + p + 1 by omega]
    · rintro G ⟨s7, s8, s9, s10, s11, rfl⟩
      refine w_un 11 ?_
      walk_at "nz"
      refine w_asg (s := .im ((irange n).map (itr ph (i + 1)))) ?hh ⟨.im (i : Int), s7, s8, s9, s10, .un, ?_⟩
      case hh =>
        refine ev_fr (ev_is (s := Sl.ol (α := Int) (((irange n).map (itr ph i)).map fun x => ph x)) (ev_mapL (xs := (irange n).map (itr ph i)) (fun x => ph x) (ev_var rfl) ?_ ?_ ?_ ?_) ?_)
        · have := hlenT (itr ph i); omega
        · simp
        · exact ⟨.inl rfl, trivial⟩
        · intro x hx
          obtain ⟨y, hy, rfl⟩ := List.mem_map.mp hx
          have hI := itn i y (mem_irange.mp hy)
          exact ev_to (ev_ix (ev_var rfl) (ev_var rfl) hI.1 (by rw [hlen]; exact hI.2)) (gt_map hI.1 hI.2)
        · rw [List.map_map]
          rfl
      · rw [show n * (i : Int) + ((n.toNat : Nat) : Int) = n * ((i + 1 : Nat) : Int) by rw [show ((i + 1 : Nat) : Int) = i + 1 by omega, Int.mul_add]; omega]
        rfl
  · rintro G ⟨s6, s7, s8, s9, s10, s11, rfl⟩
    refine w_fr 4 rfl (w_ret (ev_var rfl) ?_)
    rw [show ((d.toNat : Nat) : Int) = d by omega]
    exact k
end TB

/-! ### l_names -/
namespace TB
open PySem L2
--use TbAb
def T_l_names : Tm := tm2 fun (n x : Int) ok _ => 0 ≤ n ∧ n ≤ 1000 ∧ 0 ≤ x ∧ x ≤ 2147483647 ∧ ∀ nm : List Int, nm.Perm (irange n) → ok (.im nm)
def t_l_names (Z : Zz) (X : WX) : TS :=
  (tSeq (tAsg (tLst tNil) (gName 2))
  (tSeq (tFor (iRng1 (tCons (tVar 0) tNil)) (gName 3)
  (tSeq (tAsg (tOp gMod (tOp gAdd (tOp gAdd (tOp gAdd (tOp gMul (tVar 1) (tVar 1)) (tOp gMul (tC (.int 48271)) (tVar 1))) (tVar 3)) (tC (.int 11))) (tC (.int 2147483647))) (gName 1))
  (tDrop (tBM Z.K "list" gInsert (tVar 2) (tCons (tOp gMod (tVar 1) (tOp gAdd (tVar 3) (tC (.int 1)))) (tCons (tVar 3) tNil))))))
  (tRet (tVar 2))))
theorem w_l_names (Z : Zz) (X : WX) (ss : List Sl) (ok : Sl → Prop) (er : Rf → Prop) (h : T_l_names ss ok er) : WF Z X er (ss ++ List.replicate (4 - ss.length) .un) (t_l_names Z X) ok := by
  obtain ⟨n, x, rfl, h0, h1, hx0, hx1, k⟩ := h
  show W _ [.im n, .im x, .un, .un] _ _
  unfold t_l_names
  refine w_seq (w_asg (ev_nil (δ := Int)) ?_)
  walk_at "nz"
  refine w_seq (w_forR (n := n) (fun i G => ∃ (x : Int) (nm : List Int) (s3 : Sl), G = [.im n, .im x, .ol nm, s3] ∧ 0 ≤ x ∧ x ≤ 2147483647 ∧ nm.Perm (irange (i : Int))) (ev_var rfl) (by omega) (by omega) ⟨x, [], .un, rfl, hx0, hx1, .nil⟩ ?_ ?_)
  · rintro i G hi ⟨x, nm, s3, rfl, hx0, hx1, hp⟩
    walk_at "nz"
    have hl : nm.length = i := by rw [hp.length_eq, irange_len]; omega
    refine w_seq (w_asg (ev_mod (ev_add (ev_add (ev_add (ev_mul (ev_var rfl) (ev_var rfl) (cmulS (by omega) (by omega) (by omega) (by omega))) (ev_mul ev_int (ev_var rfl) (cmulS (by omega) (by omega) (by omega) (by omega)))) (ev_var rfl)) ev_int) ev_int (by decide)) ?_)
    walk_at "nz"
    generalize hy : (x * x + 48271 * x + (i : Int) + 11) % 2147483647 = y
    have hy0 : 0 ≤ y := by rw [← hy]; exact Int.emod_nonneg _ (by decide)
    have hy1 : y < 2147483647 := by rw [← hy]; exact Int.emod_lt_of_pos _ (by decide)
    have z0 := Int.emod_nonneg y (show (i : Int) + 1 ≠ 0 by omega)
    have z1 := Int.emod_lt_of_pos y (show 0 < (i : Int) + 1 by omega)
    refine w_ins rfl (ev_mod (ev_var rfl) (ev_add (ev_var rfl) ev_int) (by omega)) (ev_var rfl) z0 (by omega) (by omega) ⟨y, _, _, rfl, hy0, by omega, ?_⟩
    rw [show ((i + 1 : Nat) : Int) = (i : Int) + 1 by omega, irange_suc (by omega)]
    generalize (y % ((i : Int) + 1)).toNat = m
    rw [List.append_assoc]
    refine .trans (List.perm_middle (a := (i : Int))) (.trans (.cons _ (by show (List.take m nm ++ List.drop m nm).Perm nm; rw [List.take_append_drop])) (.trans (.cons _ hp) (List.perm_append_comm (l₁ := [(i : Int)]))))
  · rintro G ⟨x, nm, s3, rfl, _, _, hp⟩
    refine w_fr 2 rfl (w_ret (ev_var rfl) (k _ ?_))
    rw [show ((n.toNat : Nat) : Int) = n by omega] at hp
    exact hp
end TB

/-! TbCalm: the calm part of a group that the laws make. -/
namespace TB
open PySem
/-- the sizes that two numbers tell -/
def szF (one two : Int) : List Int :=
  if one % 3 = 1 then gt ([[2, 2, 1, 3], [7, 1, 1, 3], [5, 1, 1, 4], [4, 2, 1, 2], [3, 3, 1, 2], [8, 1, 1, 2]] ++ [[4, 1, 1, 2], [2, 2, 2, 2], [3, 1, 1, 4], [2, 2, 1, 2], [5, 1, 1, 2], [9, 1, 1, 2]]) (one / 3 % 12)
  else
    let st := gt ([2, 1, 2, 3, 2, 4] : List Int) (one / 3 / 4 % 6)
    let r := gt ([8, 12, 6, 23] : List Int) (one / 3 % 4) / st
    let a := 1 + one / 3 / 24 % r
    let b := 1 + two % (r / a)
    [a, b, 1 + two / 23 % (r / (a * b)), st]
/-- the names that a number tells -/
def calS (s : Int × List Int) (i : Nat) : Int × List Int := ((s.1 * s.1 + 48271 * s.1 + (i : Int) + 11) % 2147483647, s.2.take (((s.1 * s.1 + 48271 * s.1 + (i : Int) + 11) % 2147483647) % ((i : Int) + 1)).toNat ++ [(i : Int)] ++ s.2.drop (((s.1 * s.1 + 48271 * s.1 + (i : Int) + 11) % 2147483647) % ((i : Int) + 1)).toNat)
def calN (x : Int) (i : Nat) : Int × List Int := (List.range i).foldl calS (x, [])
def nmF (n x : Int) : List Int := (calN x n.toNat).2
theorem calN_succ (x : Int) (i : Nat) : calN x (i + 1) = calS (calN x i) i := by
  unfold calN
  rw [List.range_succ, List.foldl_append]
  rfl
theorem nodup_irange (n : Int) : (irange n).Nodup := by
  unfold irange List.Nodup
  rw [List.pairwise_map]
  exact (List.nodup_range).imp (fun h e => h (by omega))
structure Nms (N : Int) (nm : List Int) : Prop where
  len : (nm.length : Int) = N
  inn : ∀ a, In N a → In N (gt nm a)
  inj : ∀ a b, In N a → In N b → gt nm a = gt nm b → a = b
  sj : ∀ b, In N b → ∃ a, In N a ∧ gt nm a = b
theorem nms_of {N : Int} {nm : List Int} (h0 : 0 ≤ N) (h : nm.Perm (irange N)) : Nms N nm := by
  have hl : (nm.length : Int) = N := by rw [h.length_eq, irange_len]; omega
  have nd : nm.Nodup := h.nodup_iff.mpr (nodup_irange N)
  refine ⟨hl, fun a ha => mem_irange.mp (h.mem_iff.mp (gt_mem ha.1 (by rw [hl]; exact ha.2))), fun a b ha hb e => ?_, fun b hb => ?_⟩
  · obtain ⟨a0, a1⟩ := ha
    obtain ⟨b0, b1⟩ := hb
    have i1 : a.toNat < nm.length := by omega
    have i2 : b.toNat < nm.length := by omega
    have e1 := gt_nat (xs := nm) i1
    have e2 := gt_nat (xs := nm) i2
    rw [show ((a.toNat : Nat) : Int) = a by omega] at e1
    rw [show ((b.toNat : Nat) : Int) = b by omega] at e2
    rw [e1, e2] at e
    have := (List.getElem_inj nd).mp e
    omega
  · have hm := h.mem_iff.mpr (mem_irange.mpr hb)
    obtain ⟨i, hi, rfl⟩ := List.getElem_of_mem hm
    exact ⟨(i : Int), ⟨by omega, by omega⟩, gt_nat hi⟩
/-- how the calm part stands in the group -/
structure CalmP (x0 x1 x2 : Int) (t : Tbl) (a b c d : Int) : Prop where
  sz : szF x0 x1 = [a, b, c, d]
  ha : 1 ≤ a
  hb : 1 ≤ b
  hc : 1 ≤ c
  hd : 1 ≤ d
  hN : a * b * c * d ≤ 23
  nm : Nms (a * b * c * d) (nmF (a * b * c * d) x2)
  len : (t.length : Int) = a * b * c * d
  op : ∀ p q, In (a * b * c) p → In (a * b * c) q → en t (gt (nmF (a * b * c * d) x2) p) (gt (nmF (a * b * c * d) x2) q) = gt (nmF (a * b * c * d) x2) (suF a b c p q)
def CalmS (x0 x1 x2 : Int) (t : Tbl) : Prop := ∃ a b c d : Int, CalmP x0 x1 x2 t a b c d
theorem xop_calm {n s : Int} {f : Int → Int → Int} {ph : Int → Int} {e p q : Int} (hs : 1 ≤ s) (hp : In n p) (hq : In n q) : xop n s f ph e p q = f p q := by
  unfold xop
  rw [Int.ediv_eq_zero_of_lt hp.1 hp.2, Int.ediv_eq_zero_of_lt hq.1 hq.2, Int.emod_eq_of_lt hp.1 hp.2, Int.emod_eq_of_lt hq.1 hq.2, if_neg (by omega)]
  simp [itr]
end TB

/-! TbMta: in the groups that the laws make, what commutators make is calm. -/
namespace TB
open PySem
theorem xop_row {n s : Int} {f : Int → Int → Int} {ph : Int → Int} {e : Int} (A : AbG n f) (T : Turn n s f ph e) {p q : Int} : xop n s f ph e p q / n = (p / n + q / n) % s := by
  have hn := A.pos
  have key : ∀ X : Int, In n X → (X + n * ((p / n + q / n) % s)) / n = (p / n + q / n) % s := fun X hX => (dm hX).2
  unfold xop
  split
  · exact key _ (A.cl _ _)
  · exact key _ (A.cl _ _)
structure Cov (t : Tbl) (N n s : Int) (nm : List Int) (op : Int → Int → Int) : Prop where
  nms : Nms N nm
  len : (t.length : Int) = N
  hn : 1 ≤ n
  hs : 1 ≤ s
  hN : N = n * s
  en : ∀ p q, In N p → In N q → en t (gt nm p) (gt nm q) = gt nm (op p q)
  cl : ∀ p q, In N p → In N q → In N (op p q)
  row : ∀ p q, op p q / n = (p / n + q / n) % s
  calm : ∀ p q, In n p → In n q → In n (op p q) ∧ op p q = op q p
theorem mta_of {t : Tbl} {e N n s : Int} {nm : List Int} {op : Int → Int → Int} (h : GTbl t e) (C : Cov t N n s nm op) : Mta t e := by
  have hn := C.hn
  have hs := C.hs
  have nN : n ≤ N := by
    rw [C.hN]
    have := Int.mul_le_mul_of_nonneg_left hs (by omega : 0 ≤ n)
    omega
  have inn : ∀ {p}, In n p → In N p := fun hp => ⟨hp.1, by have := hp.2; omega⟩
  have inT : ∀ {a}, InT t a ↔ In N a := fun {a} => by unfold InT In; rw [C.len]
  have mem : ∀ {y : Int}, y ∈ isort ((irange n).map (gt nm)) ↔ ∃ p, In n p ∧ gt nm p = y := fun {y} => by
    rw [(isort_perm _).mem_iff, List.mem_map]
    constructor
    · rintro ⟨p, hp, e⟩; exact ⟨p, mem_irange.mp hp, e⟩
    · rintro ⟨p, hp, e⟩; exact ⟨p, mem_irange.mpr hp, e⟩
  have ab : ∀ a ∈ isort ((irange n).map (gt nm)), ∀ b ∈ isort ((irange n).map (gt nm)), en t a b = en t b a := fun a ha b hb => by
    obtain ⟨p, hp, rfl⟩ := mem.mp ha
    obtain ⟨q, hq, rfl⟩ := mem.mp hb
    rw [C.en p q (inn hp) (inn hq), C.en q p (inn hq) (inn hp), (C.calm p q hp hq).2]
  have cm : ∀ a b, InT t a → InT t b → cmm t e a b ∈ isort ((irange n).map (gt nm)) := fun a b ha hb => by
    have hc := cmm_in h ha hb
    obtain ⟨p, hp, ep⟩ := C.nms.sj a (inT.mp ha)
    obtain ⟨q, hq, eq⟩ := C.nms.sj b (inT.mp hb)
    obtain ⟨u, hu, eu⟩ := C.nms.sj _ (inT.mp hc)
    have e1 : en t a b = en t (cmm t e a b) (en t b a) := by
      have := cj_cmm h ha hb
      have mv := cj_move h ha hb
      rw [this, h.as hc hb ha] at mv
      exact mv.symm
    rw [← eu, ← ep, ← eq, C.en p q hp hq, C.en q p hq hp, C.en u _ hu (C.cl q p hq hp)] at e1
    have e2 := C.nms.inj _ _ (C.cl p q hp hq) (C.cl u _ hu (C.cl q p hq hp)) e1
    have e3 := congrArg (· / n) e2
    rw [C.row, C.row, C.row, Int.add_emod_emod, Int.add_comm (q / n)] at e3
    have u0 : 0 ≤ u / n := Int.ediv_nonneg hu.1 (by omega)
    have u1 : u / n < s := Int.ediv_lt_of_lt_mul (by omega) (by rw [Int.mul_comm, ← C.hN]; exact hu.2)
    have e4 : (u / n) % s = 0 := by
      have e5 : (u / n + (p / n + q / n) - (p / n + q / n)) % s = ((p / n + q / n) - (p / n + q / n)) % s := by
        rw [Int.sub_emod, ← e3, ← Int.sub_emod]
      rw [Int.add_sub_cancel, Int.sub_self, Int.zero_emod] at e5
      exact e5
    rw [Int.emod_eq_of_lt u0 u1] at e4
    have hu2 : In n u := ⟨hu.1, by
      have := Int.emod_add_mul_ediv u n
      rw [e4, Int.mul_zero, Int.add_zero] at this
      have := Int.emod_lt_of_pos u (by omega : 0 < n)
      omega⟩
    exact mem.mpr ⟨u, hu2, eu⟩
  have one : e ∈ isort ((irange n).map (gt nm)) := by
    have := cm e e h.he h.he
    have e1 : cmm t e e e = e := by
      unfold cmm
      rw [h.u1 h.he, bk_l h h.he, h.u1 (bk_in h h.he)]
      have := bk_one h h.he h.he (h.u1 h.he)
      exact this
    rw [e1] at this
    exact this
  have sub : ∀ a ∈ mixF t e (irange t.length), a ∈ isort ((irange n).map (gt nm)) := fun a ha => by
    have hin := cmL_in h (P := irange t.length) fun x hx => mem_irange.mp hx
    refine reach_sub (some := cmL t e (irange t.length)) one (fun x hx y hy => ?_) ((mem_clo h hin).mp ha)
    obtain ⟨l, hl, hyl⟩ := List.mem_flatten.mp hy
    obtain ⟨v, hv, rfl⟩ := List.mem_map.mp hl
    obtain ⟨w, hw, rfl⟩ := List.mem_map.mp hyl
    obtain ⟨p, hp, rfl⟩ := mem.mp hx
    obtain ⟨q, hq, eq⟩ := mem.mp (cm v w (mem_irange.mp hv) (mem_irange.mp hw))
    rw [← eq, C.en p q (inn hp) (inn hq)]
    exact mem.mpr ⟨_, (C.calm p q hp hq).1, rfl⟩
  exact fun a ha b hb => ab a (sub a ha) b (sub b hb)
end TB

/-! ### l_group -/
namespace TB
open PySem L2
--use TbAb
--use TbMta
def T_l_group : Tm := tm2 fun (l : Scr) (x : Int) ok _ => 0 ≤ x ∧ ∀ t e, GTbl t e → Mta t e → ok (.o2 t)
theorem gt_set {α : Type} [Rp α] {xs : List α} {i j : Int} {y : α} (hi : 0 ≤ i) (hj : 0 ≤ j) (hj2 : j < xs.length) : gt (xs.set i.toNat y) j = if i = j then y else gt xs j := by
  have h1 : j.toNat < xs.length := by omega
  unfold gt
  rw [getD_eq (by rw [List.length_set]; exact h1), getD_eq h1, List.getElem_set]
  by_cases e : i = j
  · subst e; simp
  · rw [if_neg (by omega), if_neg e]
structure TbSt (N : Int) (nm : List Int) (op : Int → Int → Int) (A B : Int) (tb : Tbl) : Prop where
  len : (tb.length : Int) = N
  row : ∀ r ∈ tb, (r.length : Int) = N
  en : ∀ x y, In N x → In N y → (x < A ∨ (x = A ∧ y < B)) → en tb (gt nm x) (gt nm y) = gt nm (op x y)
theorem tbSt_step {N : Int} {nm : List Int} {op : Int → Int → Int} {A B : Int} {tb : Tbl} (hn : Nms N nm) (h : TbSt N nm op A B tb) (hA : In N A) (hB : In N B) :
    TbSt N nm op A (B + 1) (tb.set (gt nm A).toNat ((gt tb (gt nm A)).set (gt nm B).toNat (gt nm (op A B)))) := by
  have nA := hn.inn A hA
  have nB := hn.inn B hB
  have rA : ((gt tb (gt nm A)).length : Int) = N := h.row _ (gt_mem nA.1 (by rw [h.len]; exact nA.2))
  refine ⟨by rw [List.length_set]; exact h.len, fun r hr => ?_, fun x y hx hy hq => ?_⟩
  · rcases List.mem_or_eq_of_mem_set hr with q | q
    · exact h.row r q
    · rw [q, List.length_set]; exact rA
  · have nx := hn.inn x hx
    have ny := hn.inn y hy
    unfold TB.en
    rw [gt_set nA.1 nx.1 (by rw [h.len]; exact nx.2)]
    by_cases e : gt nm A = gt nm x
    · have ex := hn.inj _ _ hA hx e
      subst ex
      rw [if_pos rfl, gt_set nB.1 ny.1 (by rw [rA]; exact ny.2)]
      by_cases e2 : gt nm B = gt nm y
      · have ey := hn.inj _ _ hB hy e2
        subst ey
        rw [if_pos rfl]
      · rw [if_neg e2]
        refine h.en _ _ hx hy ?_
        have : y ≠ B := fun z => e2 (by rw [z])
        omega
    · rw [if_neg e]
      refine h.en _ _ hx hy ?_
      have : x ≠ A := fun z => e (by rw [z])
      omega
theorem tab_len {N : Int} {op : Int → Int → Int} (h : 0 ≤ N) : ((tab N op).length : Int) = N := by unfold tab; rw [List.length_map, irange_len]; omega
theorem tab_row {N : Int} {op : Int → Int → Int} (h : 0 ≤ N) : ∀ r ∈ tab N op, (r.length : Int) = N := fun r hr => by
  obtain ⟨a, _, rfl⟩ := List.mem_map.mp hr
  rw [List.length_map, irange_len]; omega
theorem tab_get {N : Int} {op : Int → Int → Int} {i : Nat} (hi : i < (tab N op).length) : (tab N op)[i] = (irange N).map (op i) := by
  have h2 : i < ((irange N).map fun A => (irange N).map (op A)).length := hi
  show ((irange N).map fun A => (irange N).map (op A))[i]'h2 = _
  rw [List.getElem_map, irange_get]
theorem row_get {N : Int} {f : Int → Int} {i : Nat} (hi : i < ((irange N).map f).length) : ((irange N).map f)[i] = f i := by
  rw [List.getElem_map, irange_get]
def t_l_group (Z : Zz) (X : WX) : TS :=
  (tSeq (tAsg (tCallSD (spOf Z T_l_cell) [] (WE X) (tCons (tVar 0) (tCons (tVar 1) tNil))) (gName 2))
  (tSeq (tAsg (tCallSD (spOf Z T_l_cell) [] (WE X) (tCons (tVar 0) (tCons (tOp gAdd (tVar 1) (tC (.int 1))) tNil))) (gName 3))
  (tSeq (tAsg (tCallSD (spOf Z T_l_sizes) [] (WE X) (tCons (tVar 2) (tCons (tVar 3) tNil))) (gName 4))
  (tSeq (tAsg (tOp gMod (tOp gMul (tOp gMul (tOp gAdd (tVar 3) (tC (.int 11))) (tOp gAdd (tVar 3) (tC (.int 29)))) (tC (.int 48271))) (tC (.int 2147483629))) (gName 5))
  (tSeq (tAsg (tCallSD (spOf Z T_l_kind) [] (WE X) (tCons (tVar 4) (tCons (tVar 5) tNil))) (gName 6))
  (tSeq (tAsg (tLst tNil) (gName 7))
  (tSeq (tFor (iRng1 (tCons (tC (.int 3)) tNil)) (gName 8)
  (tDrop (tBM Z.K "list" rAppend (tVar 7) (tCons (tCallSD (spOf Z T_l_unit) [] (WE X) (tCons (tOp (gIx Z.K) (tVar 4) (tVar 8)) (tCons (tOp (gIx Z.K) (tVar 4) (tC (.int 3))) (tCons (tOp gDiv (tVar 5) (tOp (gIx Z.K) (tLst (tCons (tC (.int 12)) (tCons (tC (.int 276)) (tCons (tC (.int 6348)) tNil)))) (tVar 8))) tNil)))) tNil))))
  (tSeq (tAsg (tOp gMul (tOp gMul (tOp (gIx Z.K) (tVar 4) (tC (.int 0))) (tOp (gIx Z.K) (tVar 4) (tC (.int 1)))) (tOp (gIx Z.K) (tVar 4) (tC (.int 2)))) (gName 9))
  (tSeq (tAsg (tLc (iRng1 (tCons (tVar 9) tNil)) (gName 19) tYes (tCall (spOf Z T_l_turned) [] E0 (tCons (tVar 19) (tCons (tVar 4) (tCons (tVar 6) (tCons (tVar 7) tNil))))) [19]) (gName 10))
  (tSeq (tAsg (tOp gMod (tOp gMod (tOp gMul (tOp gMul (tOp gAdd (tVar 2) (tC (.int 5))) (tOp gAdd (tVar 2) (tC (.int 17)))) (tC (.int 69621))) (tC (.int 2147483587))) (tVar 9)) (gName 11))
  (tSeq (tIfS (tTest (tOp (gNe Z.K) (tOp (gIx Z.K) (tVar 10) (tVar 11)) (tVar 11)))
  (tAsg (tC (.int 0)) (gName 11))
  tNext)
  (tSeq (tAsg (tCallSD (spOf Z T_l_rows) [] (WE X) (tCons (tVar 4) (tCons (tVar 10) (tCons (tVar 11) tNil)))) (gName 12))
  (tSeq (tAsg (tCallSD (spOf Z T_l_names) [] (WE X) (tCons (tCB (gLen Z.K) (tCons (tVar 12) tNil)) (tCons (tCallSD (spOf Z T_l_cell) [] (WE X) (tCons (tVar 0) (tCons (tOp gAdd (tVar 1) (tC (.int 2))) tNil))) tNil))) (gName 13))
  (tSeq (tAsg (tLc (iList Z.K (tVar 12)) (gName 16) tYes (tCB (gList Z.K) (tCons (tVar 16) tNil)) [16]) (gName 14))
  (tSeq (tFor (iEnum Z.K (tCons (tVar 12) tNil)) (gTup Z.K 2 (gCons (gName 15) (gCons (gName 16) gNil)))
  (tFor (iEnum Z.K (tCons (tVar 16) tNil)) (gTup Z.K 2 (gCons (gName 17) (gCons (gName 18) gNil)))
  (tAsg (tOp (gIx Z.K) (tVar 13) (tVar 18)) (gSub (tOp (gIx Z.K) (tVar 14) (tOp (gIx Z.K) (tVar 13) (tVar 15))) (tOp (gIx Z.K) (tVar 13) (tVar 17)) gSet))))
  (tRet (tVar 14)))))))))))))))))
theorem w_l_group (Z : Zz) (X : WX) (ss : List Sl) (ok : Sl → Prop) (er : Rf → Prop) (h : T_l_group ss ok er) : WF Z X er (ss ++ List.replicate (20 - ss.length) .un) (t_l_group Z X) ok := by
  obtain ⟨l, x, rfl, hx, k⟩ := h
  show W _ [.im l, .im x, .un, .un, .un, .un, .un, .un, .un, .un, .un, .un, .un, .un, .un, .un, .un, .un, .un, .un] _ _
  unfold t_l_group
  have cell : ∀ {Γ : List Sl} {ta tb : TE} {i : Int}, Ev ⟨Z, X, fun r _ => er r⟩ Γ ta (.im l) → Ev ⟨Z, X, fun r _ => er r⟩ Γ tb (.im i) → 0 ≤ i → Ev ⟨Z, X, fun r _ => er r⟩ Γ (tCallSD (spOf Z T_l_cell) [] (WE X) (tCons ta (tCons tb tNil))) (.im (cellOf l i)) := fun h1 h2 h3 => ev_callN (c := ⟨Z, X, fun r _ => er r⟩) (ea_cons h1 (ea_cons h2 ea_nil)) ⟨_, _, rfl, h3, rfl⟩
  refine w_seq (w_asg (cell (ev_var rfl) (ev_var rfl) hx) ?_)
  refine w_seq (w_asg (cell (ev_var rfl) (ev_add (ev_var rfl) ev_int) (by omega)) ?_)
  walk_at "nz"
  have b2 := cellOf_bd l x
  have b3 := cellOf_bd l (x + 1)
  have b4 := cellOf_bd l (x + 2)
  generalize hx2 : cellOf l x = x2 at *
  generalize hx3 : cellOf l (x + 1) = x3 at *
  refine w_seq (w_asgS (S := fun s => ∃ sz : List Int, s = .im sz ∧ SzOk sz) (es_call (ea_cons (ev_var rfl) (ea_cons (ev_var rfl) ea_nil)) ⟨_, _, rfl, b2.1, b3.1, fun sz hs => ⟨sz, rfl, hs⟩⟩) ?_)
  rintro _ ⟨_, rfl, a, b, c, d, rfl, ha, hb, hc, hd, hN⟩
  walk_at "nz"
  have bigm : ∀ p q : Int, 0 ≤ p → p ≤ 2147483700 → 0 ≤ q → q ≤ 2147483700 → 0 ≤ p * q ∧ p * q ≤ 2147483700 * 2147483700 := fun p q h0 h1 h2 h3 => ⟨Int.mul_nonneg h0 h2, Int.mul_le_mul h1 h3 h2 (by omega)⟩
  have big : ∀ p q z : Int, 0 ≤ p → p ≤ 2147483700 → 0 ≤ q → q ≤ 2147483700 → 0 ≤ z → z ≤ 100000 → CMulW (p * q) z := fun p q z h0 h1 h2 h3 h4 h5 => by
    have := bigm p q h0 h1 h2 h3
    generalize p * q = m at *
    exact wide_mul (a := 64) (b := 64) (by omega) (by omega) (by decide) (by decide) (by decide)
  refine w_seq (w_asg (ev_mod (ev_mul (ev_mul (ev_add (ev_var rfl) ev_int) (ev_add (ev_var rfl) ev_int) (cmulS (by omega) (by omega) (by omega) (by omega))) ev_int (big _ _ _ (by omega) (by omega) (by omega) (by omega) (by omega) (by omega))) ev_int (by decide)) ?_)
  walk_at "nz"
  generalize (x3 + 11) * (x3 + 29) * 48271 % 2147483629 = y5
  refine w_seq (w_asgS (S := fun s => ∃ kd : Int, s = .im kd ∧ KindOk a b d kd) (es_call (ea_cons (ev_var rfl) (ea_cons (ev_var rfl) ea_nil)) ⟨_, _, rfl, a, b, c, d, rfl, ha, hb, hd, fun kd hk => ⟨kd, rfl, hk⟩⟩) ?_)
  rintro _ ⟨kd, rfl, hkd⟩
  walk_at "nz"
  have hn1 : 1 ≤ a * b * c := by
    have h1 : a * 1 ≤ a * b := Int.mul_le_mul_of_nonneg_left hb (by omega)
    have h2 : a * b * 1 ≤ a * b * c := Int.mul_le_mul_of_nonneg_left hc (by omega)
    omega
  have hn : a * b * c ≤ 23 := by
    have h2 : a * b * c * 1 ≤ a * b * c * d := Int.mul_le_mul_of_nonneg_left hd (by omega)
    omega
  have hd23 : d ≤ 23 := by
    have h2 : 1 * d ≤ a * b * c * d := Int.mul_le_mul_of_nonneg_right hn1 (by omega)
    omega
  obtain ⟨a1, b1, c1, ab0, ab1, _⟩ := bnd ha hb hc hn
  refine w_seq (w_asg (ev_nil (δ := Int)) ?_)
  walk_at "nz"
  refine w_seq (w_forR (n := 3) (fun i G => ∃ (us : List Int) (s8 : Sl), G = [.im l, .im x, .im x2, .im x3, .im [a, b, c, d], .im y5, .im kd, .ol us, s8, .un, .un, .un, .un, .un, .un, .un, .un, .un, .un, .un] ∧ us.length = i ∧ ∀ j : Int, 0 ≤ j → j < i → UnitOk (gt [a, b, c, d] j) d (gt us j)) ev_int (by decide) (by decide) ⟨[], .un, rfl, rfl, fun j h0 h1 => by omega⟩ ?_ ?_)
  · rintro i G hi ⟨us, s8, rfl, hl, hu⟩
    walk_at "nz"
    have hg : ∀ i : Int, 0 ≤ i → i < 3 → (1 ≤ gt [a, b, c, d] i ∧ gt [a, b, c, d] i ≤ 23) ∧ (0 < gt ([12, 276, 6348] : List Int) i ∧ gt ([12, 276, 6348] : List Int) i < 1073741824) := fun i h0 h1 => by
      rcases (show i = 0 ∨ i = 1 ∨ i = 2 by omega) with rfl | rfl | rfl
      · exact ⟨⟨ha, a1⟩, by decide⟩
      · exact ⟨⟨hb, b1⟩, by decide⟩
      · exact ⟨⟨hc, c1⟩, by decide⟩
    obtain ⟨⟨g1, g2⟩, g3, g4⟩ := hg i (by omega) hi
    refine w_appS rfl (S := fun s => ∃ u : Int, s = .im u ∧ UnitOk (gt [a, b, c, d] (i : Int)) d u) (es_call (ss := [.im (gt [a, b, c, d] (i : Int)), .im d, .im (y5 / gt ([12, 276, 6348] : List Int) (i : Int))]) (ea_cons (ev_ix (ev_var rfl) (ev_var rfl) (by omega) (by simp; omega)) (ea_cons (ev_s3 rfl) (ea_cons (ev_div (ev_var rfl) (ev_ix (ev_fr (xs := ([12, 276, 6348] : List Int)) (by walk_at "ev")) (ev_var rfl) (by omega) (by simp; omega)) g3 g4) ea_nil))) ⟨_, _, _, rfl, g1, g2, hd, hd23, fun u hu => ⟨u, rfl, hu⟩⟩) (by omega) ?_
    rintro _ ⟨u, rfl, hU⟩
    refine ⟨u, rfl, _, _, rfl, by simp; omega, fun j h0 h1 => ?_⟩
    by_cases hj : j < (i : Int)
    · have e1 : gt (us ++ [u]) j = gt us j := by
        unfold gt
        rw [getD_eq (by simp; omega), getD_eq (by omega), List.getElem_append_left (by omega)]
      rw [e1]
      exact hu j h0 hj
    · have e2 : j = (i : Int) := by omega
      subst e2
      have e1 : gt (us ++ [u]) (i : Int) = u := by
        rw [gt_nat (by simp; omega), List.getElem_append_right (by omega)]
        simp
      rw [e1]
      exact hU
  rintro G ⟨us, s8, rfl, hl, hu⟩
  obtain ⟨u, v, w, rfl⟩ : ∃ u v w, us = [u, v, w] := by
    match us, hl with
    | [u, v, w], _ => exact ⟨u, v, w, rfl⟩
  have hu0 : UnitOk a d u := hu 0 (by decide) (by decide)
  have hv0 : UnitOk b d v := hu 1 (by decide) (by decide)
  have hw0 : UnitOk c d w := hu 2 (by decide) (by decide)
  have TO : TurnOk a b c d u v w kd := ⟨ha, hb, hc, hd, hkd, hu0.2.2, hv0.2.2, hw0.2.2⟩
  refine w_fr 7 rfl ?_
  walk_at "nz"
  refine w_seq (w_asg (ev_mul (ev_mul (ev_s0 rfl) (ev_s1 rfl) (cmul23 (by omega) (by omega) (by omega) (by omega))) (ev_s2 rfl) (cmul23 (by omega) (by omega) (by omega) (by omega))) ?_)
  walk_at "nz"
  refine w_seq (w_asg (s := .im ((irange (a * b * c)).map (tuF a b c u v w kd))) ?hh ?_)
  case hh =>
    refine ev_fr (ev_mapR (n := a * b * c) (tuF a b c u v w kd) (ev_var rfl) (by omega) (by omega) (by simp) ⟨.inl rfl, trivial⟩ ?_)
    intro p h0 h1
    exact ev_callN0 (ea_cons (ev_var rfl) (ea_cons (ev_var rfl) (ea_cons (ev_var rfl) (ea_cons (ev_var rfl) ea_nil)))) ⟨_, _, _, _, rfl, a, b, c, d, u, v, w, rfl, rfl, ha, hb, hc, hn, ⟨hu0.1, hu0.2.1⟩, ⟨hv0.1, hv0.2.1⟩, ⟨hw0.1, hw0.2.1⟩, ⟨h0, h1⟩, rfl⟩
  walk_at "nz"
  refine w_seq (w_asg (ev_mod (ev_mod (ev_mul (ev_mul (ev_add (ev_var rfl) ev_int) (ev_add (ev_var rfl) ev_int) (cmulS (by omega) (by omega) (by omega) (by omega))) ev_int (big _ _ _ (by omega) (by omega) (by omega) (by omega) (by omega) (by omega))) ev_int (by decide)) (ev_var rfl) (by omega)) ?_)
  walk_at "nz"
  have hE := md' hn1 ((x2 + 5) * (x2 + 17) * 69621 % 2147483587)
  generalize (x2 + 5) * (x2 + 17) * 69621 % 2147483587 % (a * b * c) = e0 at hE ⊢
  have hlenT : (((irange (a * b * c)).map (tuF a b c u v w kd)).length : Int) = a * b * c := by rw [List.length_map, irange_len]; omega
  have eg : gt ((irange (a * b * c)).map (tuF a b c u v w kd)) e0 = tuF a b c u v w kd e0 := gt_map hE.1 hE.2
  refine w_mid (fun G => ∃ e : Int, In (a * b * c) e ∧ tuF a b c u v w kd e = e ∧ G = [.im l, .im x, .im x2, .im x3, .im [a, b, c, d], .im y5, .im kd, .im [u, v, w], s8, .im (a * b * c), .im ((irange (a * b * c)).map (tuF a b c u v w kd)), .im e, .un, .un, .un, .un, .un, .un, .un, .un]) (w_if (et_test (ev_neI (ev_to (ev_ix (ev_var rfl) (ev_var rfl) hE.1 (by rw [hlenT]; exact hE.2)) eg) (ev_var rfl))) (fun hb => ?_) (fun hb => ?_)) ?_
  · exact w_asg ev_int ⟨0, ⟨by omega, by omega⟩, tuF_z TO, rfl⟩
  · simp at hb
    exact w_next ⟨e0, hE, hb, rfl⟩
  rintro _ ⟨e, he, hes, rfl⟩
  have hT := tu_T TO he hes
  have hG := ext_G (suF_G ha hb hc) hT
  refine w_seq (w_asg (s := .im (tab (a * b * c * d) (xop (a * b * c) d (suF a b c) (tuF a b c u v w kd) e))) (ev_callN (ea_cons (ev_var rfl) (ea_cons (ev_var rfl) (ea_cons (ev_var rfl) ea_nil))) ⟨_, _, _, rfl, a, b, c, d, tuF a b c u v w kd, rfl, ha, hb, hc, hd, hN, rfl, fun y _ => tuF_in TO y, he, rfl⟩) ?_)
  walk_at "nz"
  have hN1 : 1 ≤ a * b * c * d := by
    have h2 : a * b * c * 1 ≤ a * b * c * d := Int.mul_le_mul_of_nonneg_left hd (by omega)
    omega
  have hrow : ∀ p q, xop (a * b * c) d (suF a b c) (tuF a b c u v w kd) e p q / (a * b * c) = (p / (a * b * c) + q / (a * b * c)) % d := fun p q => xop_row (suF_G ha hb hc) hT
  have hop2 : ∀ p q, In (a * b * c) p → In (a * b * c) q → xop (a * b * c) d (suF a b c) (tuF a b c u v w kd) e p q = suF a b c p q := fun p q hp hq => xop_calm hd hp hq
  have hNn : a * b * c ≤ a * b * c * d := by
    have h2 : a * b * c * 1 ≤ a * b * c * d := Int.mul_le_mul_of_nonneg_left hd (by omega)
    omega
  generalize xop (a * b * c) d (suF a b c) (tuF a b c u v w kd) e = op at hG hop2 hrow ⊢
  have eN : ∃ N, N = a * b * c * d := ⟨_, rfl⟩
  obtain ⟨N, eN⟩ := eN
  rw [← eN] at hG hN1 hN hNn ⊢
  have tl := tab_len (op := op) (show 0 ≤ N by omega)
  have tr := tab_row (op := op) (show 0 ≤ N by omega)
  refine w_seq (w_asgS (S := fun s => ∃ nm : List Int, s = .im nm ∧ nm.Perm (irange N)) (es_call (ss := [.im N, .im (cellOf l (x + 2))]) (ea_cons (ev_to (ev_len (ev_var rfl)) tl) (ea_cons (cell (ev_var rfl) (ev_add (ev_var rfl) ev_int) (by omega)) ea_nil)) ⟨_, _, rfl, by omega, by omega, b4.1, by omega, fun nm hp => ⟨nm, rfl, hp⟩⟩) ?_)
  rintro _ ⟨nm, rfl, hp⟩
  have hnm := nms_of (by omega) hp
  walk_at "nz"
  refine w_seq (w_asg (s := .o2 (tab N op)) (ev_copyT2 (ev_var rfl) (by omega) ⟨.inl rfl, trivial⟩ fun _ => rfl) ?_)
  walk_at "nz"
  refine w_seq (w_forE (xs := tab N op) (fun A G => ∃ (tb : Tbl) (s15 s16 s17 s18 : Sl), G = [.im l, .im x, .im x2, .im x3, .im [a, b, c, d], .im y5, .im kd, .im [u, v, w], s8, .im (a * b * c), .im ((irange (a * b * c)).map (tuF a b c u v w kd)), .im e, .im (tab N op), .im nm, .o2 tb, s15, s16, s17, s18, .un] ∧ TbSt N nm op A 0 tb) (ev_var rfl) ⟨_, .un, .un, .un, .un, rfl, tl, tr, fun x y hx hy h => by have := hx.1; have := hy.1; omega⟩ ?_ ?_)
  · rintro A G hA ⟨tb, s15, s16, s17, s18, rfl, hst⟩
    have hA' : In N (A : Int) := ⟨by omega, by omega⟩
    have erow := tab_get hA
    rw [erow]
    walk_at "nz"
    refine w_forE (xs := (irange N).map (op A)) (fun B G => ∃ (tb : Tbl) (s17 s18 : Sl), G = [.im l, .im x, .im x2, .im x3, .im [a, b, c, d], .im y5, .im kd, .im [u, v, w], s8, .im (a * b * c), .im ((irange (a * b * c)).map (tuF a b c u v w kd)), .im e, .im (tab N op), .im nm, .o2 tb, .im (A : Int), .im ((irange N).map (op A)), s17, s18, .un] ∧ TbSt N nm op A B tb) (ev_var rfl) ⟨tb, s17, s18, rfl, hst⟩ ?_ ?_
    · rintro B G hB ⟨tb, s17, s18, rfl, hst⟩
      have hlr : (((irange N).map (op A)).length : Int) = N := by rw [List.length_map, irange_len]; omega
      have hB' : In N (B : Int) := ⟨by omega, by omega⟩
      rw [row_get hB]
      walk_at "nz"
      have hop := hG.cl _ _ hA' hB'
      have nA := hnm.inn _ hA'
      have nB := hnm.inn _ hB'
      have rA : ((gt tb (gt nm A)).length : Int) = N := hst.row _ (gt_mem nA.1 (by rw [hst.len]; exact nA.2))
      refine w_put2 rfl (ev_ix (ev_var rfl) (ev_var rfl) hop.1 (by rw [hnm.len]; exact hop.2)) (ep_ix (ep_var rfl) (ep_var rfl) hA'.1 (by rw [hnm.len]; exact hA'.2)) (ep_ix (ep_var rfl) (ep_var rfl) hB'.1 (by rw [hnm.len]; exact hB'.2)) nA.1 (by rw [hst.len]; exact nA.2) nB.1 (by rw [rA]; exact nB.2) ⟨_, _, _, rfl, ?_⟩
      rw [show ((B + 1 : Nat) : Int) = (B : Int) + 1 by omega]
      exact tbSt_step hnm hst hA' hB'
    · rintro G ⟨tb, s17, s18, rfl, hst⟩
      refine ⟨tb, _, _, _, _, rfl, hst.len, hst.row, fun x y hx hy h => hst.en x y hx hy ?_⟩
      have hlr : (((irange N).map (op A)).length : Int) = N := by rw [List.length_map, irange_len]; omega
      have := hy.2
      have := hy.1
      omega
  · rintro G ⟨tb, s15, s16, s17, s18, rfl, hst⟩
    have en_ : ∀ p q, In N p → In N q → TB.en tb (gt nm p) (gt nm q) = gt nm (op p q) := fun p q hp hq => hst.en p q hp hq (.inl (by rw [tl]; exact hp.2))
    have hGT : GTbl tb (gt nm 0) := tbl_of hG (gt nm) (by omega) hN hnm.inn hnm.sj hst.len (fun r hr => by
      have := hst.row r hr
      have := hst.len
      omega) en_
    have AG := suF_G ha hb hc
    exact w_retO val_o2 rfl (k _ _ hGT (mta_of (n := a * b * c) (s := d) (op := op) hGT ⟨hnm, hst.len, hn1, hd, eN, en_, fun p q hp hq => hG.cl p q hp hq, hrow, fun p q hp hq => ⟨by rw [hop2 p q hp hq]; exact AG.cl p q, by rw [hop2 p q hp hq, hop2 q p hq hp]; exact AG.comm p q⟩⟩))
end TB

/-! ### l_backs -/
namespace TB
open PySem L2
--use TbHr2
--use TbIn
def T_l_backs : Tm := tm1 fun (t : Tbl) ok _ => ∃ e, GTbl t e ∧ ok (.im ((irange t.length).map (bkf t e)))
def t_l_backs (Z : Zz) (X : WX) : TS :=
  (tSeq (tAsg (tOp (gIx Z.K) (tLc (iRng1 (tCons (tCB (gLen Z.K) (tCons (tVar 0) tNil)) tNil)) (gName 2) (tTest (tOp (gEq Z.K) (tOp (gIx Z.K) (tOp (gIx Z.K) (tVar 0) (tVar 2)) (tVar 2)) (tVar 2))) (tVar 2) [2]) (tC (.int 0))) (gName 1))
  (tRet (tLc (iList Z.K (tVar 0)) (gName 3) tYes (tBM Z.K "list" (rIndex Z.K) (tVar 3) (tCons (tVar 1) tNil)) [3])))
theorem w_l_backs (Z : Zz) (X : WX) (ss : List Sl) (ok : Sl → Prop) (er : Rf → Prop) (h : T_l_backs ss ok er) : WF Z X er (ss ++ List.replicate (4 - ss.length) .un) (t_l_backs Z X) ok := by
  obtain ⟨t, rfl, e, hG, k⟩ := h
  show W _ [.im t, .un, .un, .un] _ _
  unfold t_l_backs
  have hl := hG.sz.2.1
  have he := hG.he
  have ef : ((irange (t.length : Int)).filter fun a => decide (en t a a = a)).map (fun a => a) = [e] := by
    rw [List.map_id', ← filt_one he.1 he.2]
    refine List.filter_congr fun a ha => ?_
    have ia := mem_irange.mp ha
    refine decide_eq_decide.mpr ⟨fun q => ?_, fun q => ?_⟩
    · exact (hG.canL ia ia he (q.trans (hG.u2 ia).symm)).symm
    · rw [← q]; exact hG.u1 he
  refine w_seq (w_asg (s := .im e) (ev_to (ev_ix (xs := ((irange (t.length : Int)).filter fun a => decide (en t a a = a)).map (fun a => a)) (ev_fr ?hh) ev_int (by decide) (by rw [ef]; simp)) (by rw [ef]; rfl)) ?_)
  case hh =>
    refine ev_filtR (n := (t.length : Int)) (fun a => decide (en t a a = a)) (fun a => a) (ev_len (ev_var rfl)) (by omega) (by omega) (by simp) ⟨.inl rfl, trivial⟩ ?_ ?_
    · intro a a0 a1
      have ia : InT t a := ⟨a0, a1⟩
      exact et_test (ev_eqI (ev_ix (ev_ix (xs := t) (ev_var rfl) (ev_var rfl) a0 a1) (ev_var rfl) a0 (by rw [hG.row ia]; exact a1)) (ev_var rfl))
    · intro a a0 a1 _
      exact ev_var rfl
  walk_at "nz"
  have rowi : ∀ r ∈ t, ∃ a, InT t a ∧ r = gt t a := fun r hr => by
    obtain ⟨i, hi, rfl⟩ := List.getElem_of_mem hr
    exact ⟨(i : Int), ⟨by omega, by omega⟩, (gt_get hi).symm⟩
  have ixb : ∀ a, InT t a → (ix (gt t a) e : Int) = bkf t e a := fun a ha => by
    obtain ⟨q1, q2⟩ := row_unit hG ha
    have hm : e ∈ gt t a := List.mem_of_getElem? q1
    obtain ⟨r1, r2⟩ := ix_at hm
    have hb := bk_in hG ha
    have : ix (gt t a) e = (bkf t e a).toNat := by
      by_cases c : ix (gt t a) e < (bkf t e a).toNat
      · exact absurd r1 (q2 _ c)
      · by_cases c2 : (bkf t e a).toNat < ix (gt t a) e
        · exact absurd q1 (r2 _ c2)
        · omega
    have := hb.1
    omega
  refine w_ret (ev_fr (ev_is (s := Sl.ol (α := Int) (t.map fun r => (ix r e : Int))) ?h2 (congrArg Sl.ol ?_))) k
  case h2 =>
    refine ev_mapL (xs := t) (fun r => (ix r e : Int)) (ev_var rfl) (by omega) (by simp) ⟨.inl rfl, trivial⟩ ?_
    intro r hr
    obtain ⟨a, ha, rfl⟩ := rowi r hr
    obtain ⟨q1, q2⟩ := row_unit hG ha
    obtain ⟨r1, r2⟩ := ix_at (List.mem_of_getElem? q1)
    exact ev_index (ev_var rfl) (ev_var rfl) r1 r2
  · refine List.ext_getElem (by simp [irange_len]) fun i h1 h2 => ?_
    have hi : i < t.length := by simpa using h1
    rw [List.getElem_map, List.getElem_map, irange_get, ← gt_get hi, ixb _ ⟨by omega, by omega⟩]
end TB

/-! ### l_calm -/
namespace TB
open PySem L2
--use TbHr2
def T_l_calm : Tm := tm2 fun (t : Tbl) (H : List Int) ok _ => ∃ e, GTbl t e ∧ Hrt t e H ∧ ok (.im true)
def t_l_calm (Z : Zz) (X : WX) : TS :=
  (tSeq (tFor (iList Z.K (tVar 1)) (gName 2)
  (tFor (iList Z.K (tVar 1)) (gName 3)
  (tIfS (tOr (tTest (tOp (gNotIn Z.K) (tOp (gIx Z.K) (tOp (gIx Z.K) (tVar 0) (tVar 2)) (tVar 3)) (tVar 1))) (tTest (tOp (gNe Z.K) (tOp (gIx Z.K) (tOp (gIx Z.K) (tVar 0) (tVar 2)) (tVar 3)) (tOp (gIx Z.K) (tOp (gIx Z.K) (tVar 0) (tVar 3)) (tVar 2)))))
  (tRet (tC (.bl false)))
  tNext)))
  (tRet (tC (.bl true))))
theorem w_l_calm (Z : Zz) (X : WX) (ss : List Sl) (ok : Sl → Prop) (er : Rf → Prop) (h : T_l_calm ss ok er) : WF Z X er (ss ++ List.replicate (4 - ss.length) .un) (t_l_calm Z X) ok := by
  obtain ⟨t, H, rfl, e, hG, o, k⟩ := h
  show W _ [.im t, .im H, .un, .un] _ _
  unfold t_l_calm
  have p := o.pt
  refine w_seq (w_forL (xs := H) (fun i G => ∃ s2 s3, G = [.im t, .im H, s2, s3]) (ev_var rfl) ⟨_, _, rfl⟩ ?_ ?_)
  · rintro i G hi ⟨s2, s3, rfl⟩
    walk_at "nz"
    have ha := List.getElem_mem hi
    have hx := p.pt.inn _ ha
    refine w_forL (xs := H) (fun j G => ∃ s3, G = [.im t, .im H, .im H[i], s3]) (ev_var rfl) ⟨_, rfl⟩ ?_ ?_
    · rintro j G hj ⟨s3, rfl⟩
      walk_at "nz"
      have hb := List.getElem_mem hj
      have hy := p.pt.inn _ hb
      have hm := p.pt.mul _ ha _ hb
      have hc := o.ab _ ha _ hb
      exact w_if (b := false) (et_to (et_or (et_test (ev_notInL (ev_to (ev_ix (ev_ix (xs := t) (ev_var rfl) (ev_var rfl) hx.1 hx.2) (ev_var rfl) hy.1 (by rw [hG.row hx]; exact hy.2)) rfl) (ev_var rfl))) fun _ => et_test (ev_neI (ev_to (ev_ix (ev_ix (xs := t) (ev_var rfl) (ev_var rfl) hx.1 hx.2) (ev_var rfl) hy.1 (by rw [hG.row hx]; exact hy.2)) rfl) (ev_to (ev_ix (ev_ix (xs := t) (ev_var rfl) (ev_var rfl) hy.1 hy.2) (ev_var rfl) hx.1 (by rw [hG.row hy]; exact hx.2)) hc.symm))) (by
          rw [decide_eq_true (show gt (gt t H[i]) H[j] ∈ H from hm), decide_eq_true rfl]; rfl)) (fun z => nomatch z) (fun _ => w_next ⟨_, rfl⟩)
    · rintro G ⟨s3, rfl⟩
      exact ⟨_, _, rfl⟩
  · rintro G ⟨s2, s3, rfl⟩
    exact w_ret ev_bl k
end TB

/-! ### l_steady -/
namespace TB
open PySem L2
--use TbHr2
def T_l_steady : Tm := tm2 fun (t : Tbl) (H : List Int) ok _ => ∃ e, GTbl t e ∧ Hrt t e H ∧ ok (.im true)
def t_l_steady (Z : Zz) (X : WX) : TS :=
  (tSeq (tAsg (tCallSD (spOf Z T_l_backs) [] (WE X) (tCons (tVar 0) tNil)) (gName 2))
  (tSeq (tFor (iRng1 (tCons (tCB (gLen Z.K) (tCons (tVar 0) tNil)) tNil)) (gName 3)
  (tFor (iRng1 (tCons (tCB (gLen Z.K) (tCons (tVar 0) tNil)) tNil)) (gName 4)
  (tSeq (tAsg (tOp (gIx Z.K) (tOp (gIx Z.K) (tVar 0) (tOp (gIx Z.K) (tOp (gIx Z.K) (tVar 0) (tVar 3)) (tVar 4))) (tOp (gIx Z.K) (tVar 2) (tVar 3))) (gName 5))
  (tSeq (tIfS (tAnd (tTest (tOp (gIn Z.K) (tVar 4) (tVar 1))) (tTest (tOp (gNotIn Z.K) (tVar 5) (tVar 1))))
  (tRet (tC (.bl false)))
  tNext)
  (tIfS (tTest (tOp (gNotIn Z.K) (tOp (gIx Z.K) (tOp (gIx Z.K) (tVar 0) (tVar 5)) (tOp (gIx Z.K) (tVar 2) (tVar 4))) (tVar 1)))
  (tRet (tC (.bl false)))
  tNext)))))
  (tRet (tC (.bl true)))))
theorem w_l_steady (Z : Zz) (X : WX) (ss : List Sl) (ok : Sl → Prop) (er : Rf → Prop) (h : T_l_steady ss ok er) : WF Z X er (ss ++ List.replicate (6 - ss.length) .un) (t_l_steady Z X) ok := by
  obtain ⟨t, H, rfl, e, hG, o, k⟩ := h
  show W _ [.im t, .im H, .un, .un, .un, .un] _ _
  unfold t_l_steady
  have hl := hG.sz.2.1
  have lb : (((irange t.length).map (bkf t e)).length : Int) = t.length := by rw [List.length_map, irange_len]; omega
  refine w_seq (w_asg (s := .im ((irange t.length).map (bkf t e))) (ev_callN (ea_cons (ev_var rfl) ea_nil) ⟨_, rfl, e, hG, rfl⟩) ?_)
  walk_at "nz"
  have bk : ∀ {c : Cn} {G : List Sl} {k : Nat} {a : Int}, InT t a → G[2]? = some (.im ((irange t.length).map (bkf t e))) → G[k]? = some (.im a) → Ev c G (tOp (gIx c.Z.K) (tVar 2) (tVar k)) (.im (bkf t e a)) := fun ha h2 hk => ev_to (ev_ix (ev_var h2) (ev_var hk) ha.1 (by rw [lb]; exact ha.2)) (gt_map ha.1 ha.2)
  refine w_seq (w_forR (n := (t.length : Int)) (fun i G => ∃ s3 s4 s5, G = [.im t, .im H, .im ((irange t.length).map (bkf t e)), s3, s4, s5]) (ev_len (ev_var rfl)) (by omega) (by omega) ⟨_, _, _, rfl⟩ ?_ ?_)
  · rintro i G hi ⟨s3, s4, s5, rfl⟩
    walk_at "nz"
    have hx : InT t (i : Int) := ⟨by omega, hi⟩
    refine w_forR (n := (t.length : Int)) (fun j G => ∃ s4 s5, G = [.im t, .im H, .im ((irange t.length).map (bkf t e)), .im (i : Int), s4, s5]) (ev_len (ev_var rfl)) (by omega) (by omega) ⟨_, _, rfl⟩ ?_ ?_
    · rintro j G hj ⟨s4, s5, rfl⟩
      walk_at "nz"
      have hy : InT t (j : Int) := ⟨by omega, hj⟩
      have hxy := hG.cl hx hy
      have bx := bk_in hG hx
      have bY := bk_in hG hy
      have hc := cj_in hG hx hy
      refine w_seq (w_asg (s := .im (cj t e (i : Int) (j : Int))) (ev_ix (ev_ix (xs := t) (ev_var rfl) (ev_ix (ev_ix (xs := t) (ev_var rfl) (ev_var rfl) hx.1 hx.2) (ev_var rfl) hy.1 (by rw [hG.row hx]; exact hy.2)) hxy.1 hxy.2) (bk hx rfl rfl) bx.1 (by rw [hG.row hxy]; exact bx.2)) ?_)
      walk_at "nz"
      refine w_seq (w_if (b := decide ((j : Int) ∈ H) && !decide (cj t e (i : Int) (j : Int) ∈ H)) (et_and (et_test (ev_inL (ev_var rfl) (ev_var rfl))) fun _ => et_test (ev_notInL (ev_var rfl) (ev_var rfl))) (fun hb => ?_) (fun _ => w_next ?_))
      · exfalso
        simp only [Bool.and_eq_true, Bool.not_eq_true', decide_eq_true_eq, decide_eq_false_iff_not] at hb
        exact hb.2 (o.st hG hx hb.1)
      exact w_if (b := false) (et_to (et_test (ev_notInL (ev_to (ev_ix (ev_ix (xs := t) (ev_var rfl) (ev_var rfl) hc.1 hc.2) (bk hy rfl rfl) bY.1 (by rw [hG.row hc]; exact bY.2)) rfl) (ev_var rfl))) (by
        rw [decide_eq_true (show gt (gt t (cj t e (i : Int) (j : Int))) (bkf t e (j : Int)) ∈ H from o.cm _ _ hx hy)]; rfl)) (fun z => nomatch z) (fun _ => w_next ⟨_, _, rfl⟩)
    · rintro G ⟨s4, s5, rfl⟩
      exact ⟨_, _, _, rfl⟩
  · rintro G ⟨s3, s4, s5, rfl⟩
    exact w_ret ev_bl k
end TB

/-! ### l_greatest -/
namespace TB
open PySem L2
--use TbHr2
def T_l_greatest : Tm := tm2 fun (t : Tbl) (H : List Int) ok _ => ∃ e, GTbl t e ∧ Hrt t e H ∧ ok (.im true)
def t_l_greatest (Z : Zz) (X : WX) : TS :=
  (tSeq (tFor (iRng1 (tCons (tCB (gLen Z.K) (tCons (tVar 0) tNil)) tNil)) (gName 2)
  (tSeq (tAsg (tLc (iList Z.K (tVar 1)) (gName 4) (tTest (tOp (gNe Z.K) (tOp (gIx Z.K) (tOp (gIx Z.K) (tVar 0) (tVar 2)) (tVar 4)) (tOp (gIx Z.K) (tOp (gIx Z.K) (tVar 0) (tVar 4)) (tVar 2)))) (tVar 4) [4]) (gName 3))
  (tIfS (tAnd (tTest (tOp (gNotIn Z.K) (tVar 2) (tVar 1))) (tTest (tOp (gEq Z.K) (tVar 3) (tLst tNil))))
  (tRet (tC (.bl false)))
  tNext)))
  (tRet (tC (.bl true))))
theorem w_l_greatest (Z : Zz) (X : WX) (ss : List Sl) (ok : Sl → Prop) (er : Rf → Prop) (h : T_l_greatest ss ok er) : WF Z X er (ss ++ List.replicate (5 - ss.length) .un) (t_l_greatest Z X) ok := by
  obtain ⟨t, H, rfl, e, hG, o, k⟩ := h
  show W _ [.im t, .im H, .un, .un, .un] _ _
  unfold t_l_greatest
  have hl := hG.sz.2.1
  have pl := o.pt.len
  refine w_seq (w_forR (n := (t.length : Int)) (fun i G => ∃ s2 s3, G = [.im t, .im H, s2, s3, .un]) (ev_len (ev_var rfl)) (by omega) (by omega) ⟨_, _, rfl⟩ ?_ ?_)
  · rintro i G hi ⟨s2, s3, rfl⟩
    walk_at "nz"
    have hx : InT t (i : Int) := ⟨by omega, hi⟩
    refine w_seq (w_asg (s := .im ((H.filter fun h => !decide (en t (i : Int) h = en t h (i : Int))).map fun h => h)) (ev_fr ?hh) ?_)
    case hh =>
      refine ev_filtL (xs := H) (fun h => !decide (en t (i : Int) h = en t h (i : Int))) (fun h => h) (ev_var rfl) (by omega) (by simp) ⟨.inl rfl, trivial⟩ ?_ ?_
      · intro h hh
        have ih := o.pt.pt.inn h hh
        exact et_test (ev_neI (ev_ix (ev_ix (xs := t) (ev_var rfl) (ev_var rfl) hx.1 hx.2) (ev_var rfl) ih.1 (by rw [hG.row hx]; exact ih.2)) (ev_ix (ev_ix (xs := t) (ev_var rfl) (ev_var rfl) ih.1 ih.2) (ev_var rfl) hx.1 (by rw [hG.row ih]; exact hx.2)))
      · intro h hh _
        exact ev_var rfl
    walk_at "nz"
    refine w_if (b := !decide ((i : Int) ∈ H) && decide (((H.filter fun h => !decide (en t (i : Int) h = en t h (i : Int))).map fun h => h) = [])) (et_and (et_test (ev_notInL (ev_var rfl) (ev_var rfl))) fun _ => et_test (ev_eqL (ev_var rfl) (ev_fr (ev_nil (δ := Int))))) (fun hb => ?_) (fun _ => w_next ⟨_, _, rfl⟩)
    exfalso
    simp only [Bool.and_eq_true, Bool.not_eq_true', decide_eq_true_eq, decide_eq_false_iff_not, List.map_id'] at hb
    obtain ⟨a, ha, hne⟩ := o.out _ hx hb.1
    have := List.filter_eq_nil_iff.mp hb.2 a ha
    simp [hne] at this
  · rintro G ⟨s2, s3, rfl⟩
    exact w_ret ev_bl k
end TB

/-! ### l_leads -/
namespace TB
open PySem L2
--use TbHr2
def T_l_leads : Tm := tm3 fun (t : Tbl) (H : List Int) (x : Int) ok _ => ∃ e, GTbl t e ∧ Hrt t e H ∧ InT t x ∧ ok (.im (ldB t e H x))
theorem tkW_all {t : Tbl} {e : Int} {H : List Int} {x : Int} {k : Nat} (h : GTbl t e) (p : PartL t e H) (hx : InT t x) (s : Stp t e H x k) : decide (tkW t e H x k = irange t.length) = ldB t e H x := by
  rw [ldB_iff h p.pt.one hx s]
  refine decide_eq_decide.mpr ⟨fun q => ?_, fun q => ?_⟩
  · have := congrArg List.length q
    rw [tkW_len, irange_len] at this
    omega
  · have nd := tkK_nd h p hx s (Nat.le_refl _)
    refine inc_one (isort_inc nd) (inc_irange _) fun z => ⟨fun hz => mem_irange.mpr (tkW_in h p hx z hz), fun hz => ?_⟩
    refine full (P := irange t.length) (Q := tkW t e H x k) ((isort_perm _).nodup_iff.mpr nd) (fun w hw => mem_irange.mpr (tkW_in h p hx w hw)) ?_ hz
    rw [tkW_len, irange_len]
    omega
def t_l_leads (Z : Zz) (X : WX) : TS :=
  (tSeq (tAsg (tCB (gList Z.K) (tCons (tVar 1) tNil)) (gName 3))
  (tSeq (tAsg (tVar 2) (gName 4))
  (tSeq (tWhile (tTest (tOp (gNotIn Z.K) (tVar 4) (tVar 1)))
  (tSeq (tAsg (tOp gAdd (tVar 3) (tLc (iList Z.K (tVar 1)) (gName 5) tYes (tOp (gIx Z.K) (tOp (gIx Z.K) (tVar 0) (tVar 5)) (tVar 4)) [5])) (gName 3))
  (tAsg (tOp (gIx Z.K) (tOp (gIx Z.K) (tVar 0) (tVar 4)) (tVar 2)) (gName 4))))
  (tRet (tOp (gEq Z.K) (tCB (gSorted Z.K) (tCons (tVar 3) tNil)) (tLstRg (tRg1 (tCB (gLen Z.K) (tCons (tVar 0) tNil)))))))))
theorem w_l_leads (Z : Zz) (X : WX) (ss : List Sl) (ok : Sl → Prop) (er : Rf → Prop) (h : T_l_leads ss ok er) : WF Z X er (ss ++ List.replicate (6 - ss.length) .un) (t_l_leads Z X) ok := by
  obtain ⟨t, H, x, rfl, e, hG, o, hx, kk⟩ := h
  show W _ [.im t, .im H, .im x, .un, .un, .un] _ _
  unfold t_l_leads
  have hl := hG.sz.2.1
  have p := o.pt
  have pl := p.len
  obtain ⟨k, s, kl⟩ := stp_ex hG p.pt.one hx
  have one : tkK t e H x 1 = H := by
    unfold tkK
    show H.map (fun h => en t h e) ++ [] = H
    rw [List.append_nil]
    have : H.map (fun h => en t h e) = H.map id := List.map_congr_left fun a ha => hG.u2 (p.pt.inn a ha)
    rw [this, List.map_id]
  have suc : ∀ j, tkK t e H x (j + 1) = tkK t e H x j ++ H.map fun h => en t h (pw t e x j) := fun j => by
    unfold tkK
    rw [List.range_succ, List.flatMap_append]
    simp
  have a1 : pw t e x 1 = x := hG.u1 hx
  refine w_seq (w_asg (s := .im H) (ev_frI (ev_list (ev_var rfl))) ?_)
  walk_at "nz"
  refine w_seq (w_asg (ev_var rfl) ?_)
  walk_at "nz"
  refine w_seq (w_while (fun m G => ∃ j : Nat, 1 ≤ j ∧ j + m = k ∧ G = [.im t, .im H, .im x, .im (tkK t e H x j), .im (pw t e x j), .un]) (k - 1) ⟨1, by omega, by have := s.pos; omega, by rw [one, a1]⟩ ?_)
  rintro m G ⟨j, j1, j2, rfl⟩
  have ip := pw_in hG hx j
  refine ⟨!decide (pw t e x j ∈ H), et_test (ev_notInL (ev_var rfl) (ev_var rfl)), fun hb => ?_, fun hb => ?_⟩
  · have hb' : ¬ pw t e x j ∈ H := by simpa using hb
    have : j ≠ k := fun z => hb' (by rw [z]; exact s.fin)
    have jl : j * H.length ≤ 23 * 23 := Nat.mul_le_mul (by omega) (by omega)
    refine w_seq (w_asg (s := .im (tkK t e H x (j + 1))) (ev_to (ev_frI (ev_cat (ev_var rfl) (ev_fr ?hh) (by rw [tkK_len, List.length_map]; omega))) (suc j).symm) ?_)
    case hh =>
      refine ev_mapL (xs := H) (fun h => en t h (pw t e x j)) (ev_var rfl) (by omega) (by simp) ⟨.inl rfl, trivial⟩ ?_
      intro h hh
      have ih := p.pt.inn h hh
      exact ev_ix (xs := gt t h) (ev_ix (xs := t) (ev_var rfl) (ev_var rfl) ih.1 ih.2) (ev_var rfl) ip.1 (by rw [hG.row ih]; exact ip.2)
    walk_at "nz"
    exact w_asg (s := .im (pw t e x (j + 1))) (ev_ix (xs := gt t (pw t e x j)) (ev_ix (xs := t) (ev_var rfl) (ev_var rfl) ip.1 ip.2) (ev_var rfl) hx.1 (by rw [hG.row ip]; exact hx.2)) ⟨m - 1, by omega, j + 1, by omega, by omega, rfl⟩
  · have hb' : pw t e x j ∈ H := by simpa using hb
    have : j = k := by
      by_cases q : j < k
      · exact absurd hb' (s.low j (by omega) q)
      · omega
    subst this
    refine w_ret (ev_to (ev_eqL (ev_frI (ev_sorted (ev_var rfl))) (ev_frI (ev_listRg (ev_len (ev_var rfl)) (by omega) (by omega)))) ?_) kk
    exact tkW_all hG p hx s
end TB

/-! ### law -/
namespace TB
open PySem L2
--use TbHr2
--use TbMta
theorem ldrF_low {t : Tbl} {e : Int} {H : List Int} (h : GTbl t e) (o : Hrt t e H) : InT t (ldrF t e H) ∧ ldB t e H (ldrF t e H) = true ∧ ∀ x, 0 ≤ x → x < ldrF t e H → ldB t e H x = false := by
  have hin := ldrF_in h o
  obtain ⟨h1, h2⟩ := List.mem_filter.mp hin
  refine ⟨mem_irange.mp h1, h2, fun x x0 x1 => ?_⟩
  by_cases c : ldB t e H x = true
  · exfalso
    obtain ⟨i, ⟨i0, i1, i2⟩, i3⟩ := least (p := fun n : Nat => (n : Int) < t.length ∧ 0 ≤ (n : Int) ∧ ldB t e H (n : Int) = true) ⟨x.toNat, by have := (mem_irange.mp h1).2; omega, by omega, by rw [show ((x.toNat : Nat) : Int) = x by omega]; exact c⟩
    have := ldrF_at (H := H) (e := e) i1 i0 (fun y y0 y1 => by
      by_cases d : ldB t e H y = true
      · exact absurd ⟨by omega, by omega, by rw [show ((y.toNat : Nat) : Int) = y by omega]; exact d⟩ (i3 y.toNat (by omega))
      · exact Bool.not_eq_true _ ▸ d) i2
    rw [this] at x1
    exact i3 x.toNat (by omega) ⟨by have := (mem_irange.mp h1).2; omega, by omega, by rw [show ((x.toNat : Nat) : Int) = x by omega]; exact c⟩
  · exact Bool.not_eq_true _ ▸ c
def t_law (Z : Zz) (X : WX) : TS :=
  (tSeq (tAsg (tCallSD (spOf Z T_l_group) [] (WE X) (tCons (tVar 0) (tCons (tC (.int 0)) tNil))) (gName 1))
  (tSeq (tAsg (tCallSD (spOf Z T_heart) [] (WE X) (tCons (tCallSD (spOf Z T_group_of) [] (WE X) (tCons (tLc (iList Z.K (tVar 1)) (gName 6) tYes (tCB (gList Z.K) (tCons (tVar 6) tNil)) [6]) tNil)) tNil)) (gName 2))
  (tSeq (tAsg (tOp (gIx Z.K) (tVar 2) (tC (.int 0))) (gName 3))
  (tSeq (tFor (iRng1 (tCons (tCB (gLen Z.K) (tCons (tVar 3) tNil)) tNil)) (gName 4)
  (tSeq (tIfS (tOr (tTest (tOp gLt (tOp (gIx Z.K) (tVar 3) (tVar 4)) (tC (.int 0)))) (tTest (tOp gGe (tOp (gIx Z.K) (tVar 3) (tVar 4)) (tCB (gLen Z.K) (tCons (tVar 1) tNil)))))
  (tRet (tC (.bl false)))
  tNext)
  (tIfS (tAnd (tTest (tOp gGt (tVar 4) (tC (.int 0)))) (tTest (tOp gGe (tOp (gIx Z.K) (tVar 3) (tOp gMns (tVar 4) (tC (.int 1)))) (tOp (gIx Z.K) (tVar 3) (tVar 4)))))
  (tRet (tC (.bl false)))
  tNext)))
  (tSeq (tIfS (tOr (tTest (tOp (gEq Z.K) (tCB (gLen Z.K) (tCons (tVar 3) tNil)) (tC (.int 0)))) (tOr (tNot (tB (tCallSD (spOf Z T_l_calm) [] (WE X) (tCons (tVar 1) (tCons (tVar 3) tNil))))) (tNot (tB (tCallSD (spOf Z T_l_steady) [] (WE X) (tCons (tVar 1) (tCons (tVar 3) tNil)))))))
  (tRet (tC (.bl false)))
  tNext)
  (tSeq (tIfS (tOr (tTest (tOp gLt (tOp (gIx Z.K) (tVar 2) (tC (.int 1))) (tC (.int 0)))) (tOr (tTest (tOp gGe (tOp (gIx Z.K) (tVar 2) (tC (.int 1))) (tCB (gLen Z.K) (tCons (tVar 1) tNil)))) (tNot (tB (tCallSD (spOf Z T_l_greatest) [] (WE X) (tCons (tVar 1) (tCons (tVar 3) tNil)))))))
  (tRet (tC (.bl false)))
  tNext)
  (tSeq (tFor (iRng1 (tCons (tOp (gIx Z.K) (tVar 2) (tC (.int 1))) tNil)) (gName 5)
  (tIfS (tB (tCallSD (spOf Z T_l_leads) [] (WE X) (tCons (tVar 1) (tCons (tVar 3) (tCons (tVar 5) tNil)))))
  (tRet (tC (.bl false)))
  tNext))
  (tRet (tCallSD (spOf Z T_l_leads) [] (WE X) (tCons (tVar 1) (tCons (tVar 3) (tCons (tOp (gIx Z.K) (tVar 2) (tC (.int 1))) tNil))))))))))))
theorem w_law (Z : Zz) (X : WX) (ss : List Sl) (ok : Sl → Prop) (er : Rf → Prop) (hh : T_law ss ok er) : WF Z X er (ss ++ List.replicate (7 - ss.length) .un) (t_law Z X) ok := by
  obtain ⟨l, rfl, hl, k⟩ := hh
  show W _ [.im l, .un, .un, .un, .un, .un, .un] _ _
  unfold t_law
  refine w_seq (w_asgS (S := fun s => ∃ t e, s = .o2 t ∧ GTbl t e ∧ Mta t e) (es_call (ea_cons (ev_var rfl) (ea_cons ev_int ea_nil)) ⟨_, _, rfl, by decide, fun t e h c => ⟨t, e, rfl, h, c⟩⟩) ?_)
  rintro _ ⟨t, e, rfl, hG, hm⟩
  refine w_fr2 1 rfl ?_
  walk_at "nz"
  have hl1 := hG.sz.2.1
  have o := heartF_ok hG hm
  obtain ⟨d1, d2, d3⟩ := ldrF_low hG o
  refine w_seq (w_asg (s := .im (heartF t e, ldrF t e (heartF t e))) (ev_frz (lnd_pr lnd_ol lnd_im') (ev_callN (s := .pr (.ol (heartF t e)) (.im (ldrF t e (heartF t e)))) (ea_cons (ev_frF (ev_callN (s := .fo (grpOf t e)) (ea_cons (ev_fr (ev_copyT (ev_var rfl) (by omega) ⟨.inl rfl, trivial⟩ fun _ => rfl)) ea_nil) (gof_ok hG _))) ea_nil) ⟨_, rfl, t, e, hG, hm, rfl, rfl⟩)) ?_)
  walk_at "nz"
  generalize ldrF t e (heartF t e) = y at d1 d2 d3 ⊢
  generalize heartF t e = H at o d2 d3 ⊢
  have p := o.pt
  have pl := p.len
  have hp := List.length_pos_of_mem p.pt.one
  refine w_seq (w_asg (s := .im H) (ev_ix1 (p := (H, y)) (ev_var rfl) ev_int) ?_)
  walk_at "nz"
  have f2 : ∀ {c : Cn} {G : List Sl}, G[2]? = some (.im (H, y)) → Ev c G (tOp (gIx c.Z.K) (tVar 2) (tC (.int 1))) (.im y) := fun h => ev_ix2 (p := (H, y)) (ev_var h) ev_int
  have gl : ∀ (i : Nat) (hi : i < H.length), gt H (i : Int) = H[i] := fun i hi => by unfold gt; simp [hi]
  refine w_seq (w_forR (n := (H.length : Int)) (fun i G => ∃ s4, G = [.im l, .im t, .im (H, y), .im H, s4, .un, .un]) (ev_len (ev_var rfl)) (by omega) (by omega) ⟨_, rfl⟩ ?_ ?_)
  · rintro i G hi ⟨s4, rfl⟩
    walk_at "nz"
    have hi : i < H.length := by omega
    have hx := p.pt.inn _ (List.getElem_mem hi)
    have at_ : ∀ {c : Cn} {G : List Sl}, G[3]? = some (.im H) → G[4]? = some (.im (i : Int)) → Ev c G (tOp (gIx c.Z.K) (tVar 3) (tVar 4)) (.im H[i]) := fun h3 h4 => ev_to (ev_ix (ev_var h3) (ev_var h4) (by omega) (by omega)) (gl i hi)
    refine w_seq (w_if (b := false) (et_to (et_or (et_test (ev_lt (at_ rfl rfl) ev_int)) fun _ => et_test (ev_ge (at_ rfl rfl) (ev_len (ev_var rfl)))) (by have := hx.1; have := hx.2; simp; omega)) (fun z => nomatch z) (fun _ => w_next ?_))
    by_cases c : 0 < i
    · have lt : H[i - 1] < H[i] := List.pairwise_iff_getElem.mp p.inc (i - 1) i (by omega) hi (by omega)
      have prev : ∀ {c : Cn} {G : List Sl}, G[3]? = some (.im H) → G[4]? = some (.im (i : Int)) → Ev c G (tOp (gIx c.Z.K) (tVar 3) (tOp gMns (tVar 4) (tC (.int 1)))) (.im (H[i - 1]'(by omega))) := fun h3 h4 => ev_to (ev_ix (ev_var h3) (ev_to (ev_sub (ev_var h4) ev_int) (show (i : Int) - 1 = ((i - 1 : Nat) : Int) by omega)) (by omega) (by omega)) (gl (i - 1) (by omega))
      exact w_if (b := false) (et_to (et_and (et_test (ev_gt (ev_var rfl) ev_int)) fun _ => et_test (ev_ge (prev rfl rfl) (at_ rfl rfl))) (by simp; omega)) (fun z => nomatch z) (fun _ => w_next ⟨_, rfl⟩)
    · exact w_if (b := false) (et_to (et_and (b := true) (et_test (ev_gt (ev_var rfl) ev_int)) fun z => by
        have := of_decide_eq_true z
        omega) (by rw [decide_eq_false (by omega)]; rfl)) (fun z => nomatch z) (fun _ => w_next ⟨_, rfl⟩)
  rintro G ⟨s4, rfl⟩
  refine w_seq (w_if (b := false) (et_to (et_or (et_test (ev_eqI (ev_len (ev_var rfl)) ev_int)) fun _ => et_or (et_not (et_B (ev_callN (s := .im true) (ea_cons (ev_var rfl) (ea_cons (ev_var rfl) ea_nil)) ⟨_, _, rfl, e, hG, o, rfl⟩))) fun _ => et_not (et_B (ev_callN (s := .im true) (ea_cons (ev_var rfl) (ea_cons (ev_var rfl) ea_nil)) ⟨_, _, rfl, e, hG, o, rfl⟩))) (by simp [List.length_pos_iff.mp hp])) (fun z => nomatch z) (fun _ => w_next ?_))
  refine w_seq (w_if (b := false) (et_to (et_or (et_test (ev_lt (f2 rfl) ev_int)) fun _ => et_or (et_test (ev_ge (f2 rfl) (ev_len (ev_var rfl)))) fun _ => et_not (et_B (ev_callN (s := .im true) (ea_cons (ev_var rfl) (ea_cons (ev_var rfl) ea_nil)) ⟨_, _, rfl, e, hG, o, rfl⟩))) (by have := d1.1; have := d1.2; simp; omega)) (fun z => nomatch z) (fun _ => w_next ?_))
  have y0 := d1.1
  have y1 := d1.2
  refine w_seq (w_forR (n := y) (fun i G => ∃ s5, G = [.im l, .im t, .im (H, y), .im H, s4, s5, .un]) (f2 rfl) (by omega) (by omega) ⟨_, rfl⟩ ?_ ?_)
  · rintro i G hi ⟨s5, rfl⟩
    walk_at "nz"
    have hx : InT t (i : Int) := ⟨by omega, by omega⟩
    exact w_if (b := false) (et_B (ev_to (ev_callN (s := .im (ldB t e H (i : Int))) (ea_cons (ev_var rfl) (ea_cons (ev_var rfl) (ea_cons (ev_var rfl) ea_nil))) ⟨_, _, _, rfl, e, hG, o, hx, rfl⟩) (d3 _ (by omega) hi))) (fun z => nomatch z) (fun _ => w_next ⟨_, rfl⟩)
  · rintro G ⟨s5, rfl⟩
    exact w_ret (ev_to (ev_callN (s := .im (ldB t e H y)) (ea_cons (ev_var rfl) (ea_cons (ev_var rfl) (ea_cons (f2 rfl) ea_nil))) ⟨_, _, _, rfl, e, hG, o, d1, rfl⟩) d2) k
end TB
namespace TB
open PySem L2
def topS (i : Nat) : Stmt := PySem.Challenge.pw_tracebook_k36_whole_hearts_are_calm.main.body.getD i (.Pass ⟨0, 0, 0, 0⟩)
abbrev s_Stranger_init : Stmt := (inClass (topS 3) 0)
abbrev s_NoBack_init : Stmt := (inClass (topS 5) 0)
abbrev s_NotTogether_init : Stmt := (inClass (topS 6) 0)
abbrev s_Group_init : Stmt := (inClass (topS 10) 0)
abbrev s_look_at_size : Stmt := (topS 11)
abbrev s_look_for_strangers : Stmt := (topS 12)
abbrev s_unit_of : Stmt := (topS 13)
abbrev s_back_of : Stmt := (topS 14)
abbrev s_look_at_threes : Stmt := (topS 15)
abbrev s_group_of : Stmt := (topS 16)
abbrev s_product : Stmt := (topS 17)
abbrev s_look_at_part : Stmt := (topS 19)
abbrev s_closure : Stmt := (topS 20)
abbrev s_mixed : Stmt := (topS 21)
abbrev s_goes_with : Stmt := (topS 23)
abbrev s_steps_into : Stmt := (topS 24)
abbrev s_heart : Stmt := (topS 25)
abbrev s_l_cell : Stmt := (topS 27)
abbrev s_l_sizes : Stmt := (topS 28)
abbrev s_l_kind : Stmt := (topS 29)
abbrev s_l_unit : Stmt := (topS 30)
abbrev s_l_turned : Stmt := (topS 31)
abbrev s_l_sum : Stmt := (topS 32)
abbrev s_l_rows : Stmt := (topS 33)
abbrev s_l_names : Stmt := (topS 34)
abbrev s_l_group : Stmt := (topS 35)
abbrev s_l_backs : Stmt := (topS 36)
abbrev s_l_calm : Stmt := (topS 37)
abbrev s_l_steady : Stmt := (topS 38)
abbrev s_l_greatest : Stmt := (topS 39)
abbrev s_l_leads : Stmt := (topS 40)
abbrev s_law : Stmt := (topS 41)
theorem ar_look_at_size : ∀ ss ok er, T_look_at_size ss ok er → ss.length = 1 := by intro ss ok er h; obtain ⟨_, rfl, _⟩ := h; rfl
theorem ar_look_for_strangers : ∀ ss ok er, T_look_for_strangers ss ok er → ss.length = 1 := by intro ss ok er h; obtain ⟨_, rfl, _⟩ := h; rfl
theorem ar_unit_of : ∀ ss ok er, T_unit_of ss ok er → ss.length = 1 := by intro ss ok er h; obtain ⟨_, rfl, _⟩ := h; rfl
theorem ar_back_of : ∀ ss ok er, T_back_of ss ok er → ss.length = 3 := by intro ss ok er h; obtain ⟨_, _, _, rfl, _⟩ := h; rfl
theorem ar_look_at_threes : ∀ ss ok er, T_look_at_threes ss ok er → ss.length = 1 := by intro ss ok er h; obtain ⟨_, rfl, _⟩ := h; rfl
theorem ar_group_of : ∀ ss ok er, T_group_of ss ok er → ss.length = 1 := by intro ss ok er h; obtain ⟨_, rfl, _⟩ := h; rfl
theorem ar_product : ∀ ss ok er, T_product ss ok er → ss.length = 2 := by intro ss ok er h; obtain ⟨_, _, rfl, _⟩ := h; rfl
theorem ar_look_at_part : ∀ ss ok er, T_look_at_part ss ok er → ss.length = 2 := by intro ss ok er h; obtain ⟨_, _, rfl, _⟩ := h; rfl
theorem ar_closure : ∀ ss ok er, T_closure ss ok er → ss.length = 2 := by intro ss ok er h; obtain ⟨_, _, rfl, _⟩ := h; rfl
theorem ar_mixed : ∀ ss ok er, T_mixed ss ok er → ss.length = 2 := by intro ss ok er h; obtain ⟨_, _, rfl, _⟩ := h; rfl
theorem ar_goes_with : ∀ ss ok er, T_goes_with ss ok er → ss.length = 3 := by intro ss ok er h; obtain ⟨_, _, _, rfl, _⟩ := h; rfl
theorem ar_steps_into : ∀ ss ok er, T_steps_into ss ok er → ss.length = 3 := by intro ss ok er h; obtain ⟨_, _, _, rfl, _⟩ := h; rfl
theorem ar_heart : ∀ ss ok er, T_heart ss ok er → ss.length = 1 := by intro ss ok er h; obtain ⟨_, rfl, _⟩ := h; rfl
theorem ar_l_cell : ∀ ss ok er, T_l_cell ss ok er → ss.length = 2 := by intro ss ok er h; obtain ⟨_, _, rfl, _⟩ := h; rfl
theorem ar_l_sizes : ∀ ss ok er, T_l_sizes ss ok er → ss.length = 2 := by intro ss ok er h; obtain ⟨_, _, rfl, _⟩ := h; rfl
theorem ar_l_kind : ∀ ss ok er, T_l_kind ss ok er → ss.length = 2 := by intro ss ok er h; obtain ⟨_, _, rfl, _⟩ := h; rfl
theorem ar_l_unit : ∀ ss ok er, T_l_unit ss ok er → ss.length = 3 := by intro ss ok er h; obtain ⟨_, _, _, rfl, _⟩ := h; rfl
theorem ar_l_turned : ∀ ss ok er, T_l_turned ss ok er → ss.length = 4 := by intro ss ok er h; obtain ⟨_, _, _, _, rfl, _⟩ := h; rfl
theorem ar_l_sum : ∀ ss ok er, T_l_sum ss ok er → ss.length = 3 := by intro ss ok er h; obtain ⟨_, _, _, rfl, _⟩ := h; rfl
theorem ar_l_rows : ∀ ss ok er, T_l_rows ss ok er → ss.length = 3 := by intro ss ok er h; obtain ⟨_, _, _, rfl, _⟩ := h; rfl
theorem ar_l_names : ∀ ss ok er, T_l_names ss ok er → ss.length = 2 := by intro ss ok er h; obtain ⟨_, _, rfl, _⟩ := h; rfl
theorem ar_l_group : ∀ ss ok er, T_l_group ss ok er → ss.length = 2 := by intro ss ok er h; obtain ⟨_, _, rfl, _⟩ := h; rfl
theorem ar_l_backs : ∀ ss ok er, T_l_backs ss ok er → ss.length = 1 := by intro ss ok er h; obtain ⟨_, rfl, _⟩ := h; rfl
theorem ar_l_calm : ∀ ss ok er, T_l_calm ss ok er → ss.length = 2 := by intro ss ok er h; obtain ⟨_, _, rfl, _⟩ := h; rfl
theorem ar_l_steady : ∀ ss ok er, T_l_steady ss ok er → ss.length = 2 := by intro ss ok er h; obtain ⟨_, _, rfl, _⟩ := h; rfl
theorem ar_l_greatest : ∀ ss ok er, T_l_greatest ss ok er → ss.length = 2 := by intro ss ok er h; obtain ⟨_, _, rfl, _⟩ := h; rfl
theorem ar_l_leads : ∀ ss ok er, T_l_leads ss ok er → ss.length = 3 := by intro ss ok er h; obtain ⟨_, _, _, rfl, _⟩ := h; rfl
theorem ar_law : ∀ ss ok er, T_law ss ok er → ss.length = 1 := by intro ss ok er h; obtain ⟨_, rfl, _⟩ := h; rfl
structure Tx (K : PySem.W.Frag) (mg : Str → Option Value) (cls : CN → Addr) (a_Stranger_init a_NoBack_init a_NotTogether_init a_Group_init a_look_at_size a_look_for_strangers a_unit_of a_back_of a_look_at_threes a_group_of a_product a_look_at_part a_closure a_mixed a_goes_with a_steps_into a_heart a_l_cell a_l_sizes a_l_kind a_l_unit a_l_turned a_l_sum a_l_rows a_l_names a_l_group a_l_backs a_l_calm a_l_steady a_l_greatest a_l_leads a_law : Addr) (fd_Stranger_init fd_NoBack_init fd_NotTogether_init fd_Group_init fd_look_at_size fd_look_for_strangers fd_unit_of fd_back_of fd_look_at_threes fd_group_of fd_product fd_look_at_part fd_closure fd_mixed fd_goes_with fd_steps_into fd_heart fd_l_cell fd_l_sizes fd_l_kind fd_l_unit fd_l_turned fd_l_sum fd_l_rows fd_l_names fd_l_group fd_l_backs fd_l_calm fd_l_steady fd_l_greatest fd_l_leads fd_law : FuncData) : Prop where
  F_Stranger_init : Fun K "__init__" "Stranger.__init__" s_Stranger_init a_Stranger_init fd_Stranger_init
  b_Stranger_init : Binds K fd_Stranger_init ["self", "row", "column"] []
  F_NoBack_init : Fun K "__init__" "NoBack.__init__" s_NoBack_init a_NoBack_init fd_NoBack_init
  b_NoBack_init : Binds K fd_NoBack_init ["self", "thing"] []
  F_NotTogether_init : Fun K "__init__" "NotTogether.__init__" s_NotTogether_init a_NotTogether_init fd_NotTogether_init
  b_NotTogether_init : Binds K fd_NotTogether_init ["self", "one", "two", "three"] []
  F_Group_init : Fun K "__init__" "Group.__init__" s_Group_init a_Group_init fd_Group_init
  b_Group_init : Binds K fd_Group_init ["self", "rows", "unit", "backs"] []
  F_look_at_size : Fun K "look_at_size" "look_at_size" s_look_at_size a_look_at_size fd_look_at_size
  b_look_at_size : Binds K fd_look_at_size ["table"] []
  g_look_at_size : mg "look_at_size" = some (.ref a_look_at_size)
  k_look_at_size : PySem.W.keepIn K (.ref a_look_at_size) = true
  F_look_for_strangers : Fun K "look_for_strangers" "look_for_strangers" s_look_for_strangers a_look_for_strangers fd_look_for_strangers
  b_look_for_strangers : Binds K fd_look_for_strangers ["table"] []
  g_look_for_strangers : mg "look_for_strangers" = some (.ref a_look_for_strangers)
  k_look_for_strangers : PySem.W.keepIn K (.ref a_look_for_strangers) = true
  F_unit_of : Fun K "unit_of" "unit_of" s_unit_of a_unit_of fd_unit_of
  b_unit_of : Binds K fd_unit_of ["table"] []
  g_unit_of : mg "unit_of" = some (.ref a_unit_of)
  k_unit_of : PySem.W.keepIn K (.ref a_unit_of) = true
  F_back_of : Fun K "back_of" "back_of" s_back_of a_back_of fd_back_of
  b_back_of : Binds K fd_back_of ["table", "unit", "thing"] []
  g_back_of : mg "back_of" = some (.ref a_back_of)
  k_back_of : PySem.W.keepIn K (.ref a_back_of) = true
  F_look_at_threes : Fun K "look_at_threes" "look_at_threes" s_look_at_threes a_look_at_threes fd_look_at_threes
  b_look_at_threes : Binds K fd_look_at_threes ["table"] []
  g_look_at_threes : mg "look_at_threes" = some (.ref a_look_at_threes)
  k_look_at_threes : PySem.W.keepIn K (.ref a_look_at_threes) = true
  F_group_of : Fun K "group_of" "group_of" s_group_of a_group_of fd_group_of
  b_group_of : Binds K fd_group_of ["table"] []
  g_group_of : mg "group_of" = some (.ref a_group_of)
  k_group_of : PySem.W.keepIn K (.ref a_group_of) = true
  F_product : Fun K "product" "product" s_product a_product fd_product
  b_product : Binds K fd_product ["group", "things"] []
  g_product : mg "product" = some (.ref a_product)
  k_product : PySem.W.keepIn K (.ref a_product) = true
  F_look_at_part : Fun K "look_at_part" "look_at_part" s_look_at_part a_look_at_part fd_look_at_part
  b_look_at_part : Binds K fd_look_at_part ["group", "part"] []
  g_look_at_part : mg "look_at_part" = some (.ref a_look_at_part)
  k_look_at_part : PySem.W.keepIn K (.ref a_look_at_part) = true
  F_closure : Fun K "closure" "closure" s_closure a_closure fd_closure
  b_closure : Binds K fd_closure ["group", "some"] []
  g_closure : mg "closure" = some (.ref a_closure)
  k_closure : PySem.W.keepIn K (.ref a_closure) = true
  F_mixed : Fun K "mixed" "mixed" s_mixed a_mixed fd_mixed
  b_mixed : Binds K fd_mixed ["group", "part"] []
  g_mixed : mg "mixed" = some (.ref a_mixed)
  k_mixed : PySem.W.keepIn K (.ref a_mixed) = true
  F_goes_with : Fun K "goes_with" "goes_with" s_goes_with a_goes_with fd_goes_with
  b_goes_with : Binds K fd_goes_with ["group", "thing", "part"] []
  g_goes_with : mg "goes_with" = some (.ref a_goes_with)
  k_goes_with : PySem.W.keepIn K (.ref a_goes_with) = true
  F_steps_into : Fun K "steps_into" "steps_into" s_steps_into a_steps_into fd_steps_into
  b_steps_into : Binds K fd_steps_into ["group", "part", "thing"] []
  g_steps_into : mg "steps_into" = some (.ref a_steps_into)
  k_steps_into : PySem.W.keepIn K (.ref a_steps_into) = true
  F_heart : Fun K "heart" "heart" s_heart a_heart fd_heart
  b_heart : Binds K fd_heart ["group"] []
  g_heart : mg "heart" = some (.ref a_heart)
  k_heart : PySem.W.keepIn K (.ref a_heart) = true
  F_l_cell : Fun K "_law_cell" "_law_cell" s_l_cell a_l_cell fd_l_cell
  b_l_cell : Binds K fd_l_cell ["_law_script", "_law_k"] []
  g_l_cell : mg "_law_cell" = some (.ref a_l_cell)
  k_l_cell : PySem.W.keepIn K (.ref a_l_cell) = true
  F_l_sizes : Fun K "_law_sizes" "_law_sizes" s_l_sizes a_l_sizes fd_l_sizes
  b_l_sizes : Binds K fd_l_sizes ["_law_one", "_law_two"] []
  g_l_sizes : mg "_law_sizes" = some (.ref a_l_sizes)
  k_l_sizes : PySem.W.keepIn K (.ref a_l_sizes) = true
  F_l_kind : Fun K "_law_kind" "_law_kind" s_l_kind a_l_kind fd_l_kind
  b_l_kind : Binds K fd_l_kind ["_law_sizes_here", "_law_number"] []
  g_l_kind : mg "_law_kind" = some (.ref a_l_kind)
  k_l_kind : PySem.W.keepIn K (.ref a_l_kind) = true
  F_l_unit : Fun K "_law_unit" "_law_unit" s_l_unit a_l_unit fd_l_unit
  b_l_unit : Binds K fd_l_unit ["_law_many", "_law_steps", "_law_number"] []
  g_l_unit : mg "_law_unit" = some (.ref a_l_unit)
  k_l_unit : PySem.W.keepIn K (.ref a_l_unit) = true
  F_l_turned : Fun K "_law_turned" "_law_turned" s_l_turned a_l_turned fd_l_turned
  b_l_turned : Binds K fd_l_turned ["_law_place", "_law_sizes_here", "_law_kind_here", "_law_units"] []
  g_l_turned : mg "_law_turned" = some (.ref a_l_turned)
  k_l_turned : PySem.W.keepIn K (.ref a_l_turned) = true
  F_l_sum : Fun K "_law_sum" "_law_sum" s_l_sum a_l_sum fd_l_sum
  b_l_sum : Binds K fd_l_sum ["_law_one", "_law_other", "_law_sizes_here"] []
  g_l_sum : mg "_law_sum" = some (.ref a_l_sum)
  k_l_sum : PySem.W.keepIn K (.ref a_l_sum) = true
  F_l_rows : Fun K "_law_rows" "_law_rows" s_l_rows a_l_rows fd_l_rows
  b_l_rows : Binds K fd_l_rows ["_law_sizes_here", "_law_turn", "_law_end"] []
  g_l_rows : mg "_law_rows" = some (.ref a_l_rows)
  k_l_rows : PySem.W.keepIn K (.ref a_l_rows) = true
  F_l_names : Fun K "_law_names" "_law_names" s_l_names a_l_names fd_l_names
  b_l_names : Binds K fd_l_names ["_law_many", "_law_number"] []
  g_l_names : mg "_law_names" = some (.ref a_l_names)
  k_l_names : PySem.W.keepIn K (.ref a_l_names) = true
  F_l_group : Fun K "_law_group" "_law_group" s_l_group a_l_group fd_l_group
  b_l_group : Binds K fd_l_group ["_law_script", "_law_start"] []
  g_l_group : mg "_law_group" = some (.ref a_l_group)
  k_l_group : PySem.W.keepIn K (.ref a_l_group) = true
  F_l_backs : Fun K "_law_backs" "_law_backs" s_l_backs a_l_backs fd_l_backs
  b_l_backs : Binds K fd_l_backs ["_law_table"] []
  g_l_backs : mg "_law_backs" = some (.ref a_l_backs)
  k_l_backs : PySem.W.keepIn K (.ref a_l_backs) = true
  F_l_calm : Fun K "_law_calm" "_law_calm" s_l_calm a_l_calm fd_l_calm
  b_l_calm : Binds K fd_l_calm ["_law_table", "_law_part"] []
  g_l_calm : mg "_law_calm" = some (.ref a_l_calm)
  k_l_calm : PySem.W.keepIn K (.ref a_l_calm) = true
  F_l_steady : Fun K "_law_steady" "_law_steady" s_l_steady a_l_steady fd_l_steady
  b_l_steady : Binds K fd_l_steady ["_law_table", "_law_part"] []
  g_l_steady : mg "_law_steady" = some (.ref a_l_steady)
  k_l_steady : PySem.W.keepIn K (.ref a_l_steady) = true
  F_l_greatest : Fun K "_law_greatest" "_law_greatest" s_l_greatest a_l_greatest fd_l_greatest
  b_l_greatest : Binds K fd_l_greatest ["_law_table", "_law_part"] []
  g_l_greatest : mg "_law_greatest" = some (.ref a_l_greatest)
  k_l_greatest : PySem.W.keepIn K (.ref a_l_greatest) = true
  F_l_leads : Fun K "_law_leads" "_law_leads" s_l_leads a_l_leads fd_l_leads
  b_l_leads : Binds K fd_l_leads ["_law_table", "_law_part", "_law_thing"] []
  g_l_leads : mg "_law_leads" = some (.ref a_l_leads)
  k_l_leads : PySem.W.keepIn K (.ref a_l_leads) = true
  F_law : Fun K "law" "law" s_law a_law fd_law
  b_law : Binds K fd_law ["_law_script"] []
  g_law : mg "law" = some (.ref a_law)
  k_law : PySem.W.keepIn K (.ref a_law) = true
  b_all : mg "all" = none
  b_enumerate : mg "enumerate" = none
  b_len : mg "len" = none
  b_list : mg "list" = none
  b_range : mg "range" = none
  b_sorted : mg "sorted" = none
  g_MOST : ∃ t, mg "MOST" = some (.int 23 t)
  g_BadSize : mg "BadSize" = some (.ref (cls .BadSize))
  g_Stranger : mg "Stranger" = some (.ref (cls .Stranger))
  g_NoUnit : mg "NoUnit" = some (.ref (cls .NoUnit))
  g_NoBack : mg "NoBack" = some (.ref (cls .NoBack))
  g_NotTogether : mg "NotTogether" = some (.ref (cls .NotTogether))
  g_NoPart : mg "NoPart" = some (.ref (cls .NoPart))
  g_Group : mg "Group" = some (.ref (cls .Group))
  M_Group : Mk K (cls .Group) a_Group_init
  grpC : GrpC ⟨K, cls⟩
  x_BadSize : PySem.W.excIn K (cls .BadSize) [.type "ValueError", .type "Exception", .type "BaseException", .type "object"] "ValueError.__new__" = true
  k_BadSize : PySem.W.keepIn K (.ref (cls .BadSize)) = true
  r_BadSize : PySem.W.subIn K (.ref (cls .BadSize)) (.type "BaseException") = some true
  rt_BadSize : PySem.W.typeIn K (.ref (cls .BadSize)) = some (.type "type")
  x_NoPart : PySem.W.excIn K (cls .NoPart) [.type "ValueError", .type "Exception", .type "BaseException", .type "object"] "ValueError.__new__" = true
  k_NoPart : PySem.W.keepIn K (.ref (cls .NoPart)) = true
  r_NoPart : PySem.W.subIn K (.ref (cls .NoPart)) (.type "BaseException") = some true
  rt_NoPart : PySem.W.typeIn K (.ref (cls .NoPart)) = some (.type "type")
  x_NoUnit : PySem.W.excIn K (cls .NoUnit) [.type "ValueError", .type "Exception", .type "BaseException", .type "object"] "ValueError.__new__" = true
  k_NoUnit : PySem.W.keepIn K (.ref (cls .NoUnit)) = true
  r_NoUnit : PySem.W.subIn K (.ref (cls .NoUnit)) (.type "BaseException") = some true
  rt_NoUnit : PySem.W.typeIn K (.ref (cls .NoUnit)) = some (.type "type")
  O_NoBack : OexC K (cls .NoBack)
  i_NoBack : PySem.W.findIn K (.ref (cls .NoBack)) "__init__" = some (some (.ref a_NoBack_init))
  ti_NoBack : PySem.W.typeIn K (.ref a_NoBack_init) = some (.type "function")
  n_NoBack_thing : PySem.W.findIn K (.ref (cls .NoBack)) "thing" = some none
  O_NotTogether : OexC K (cls .NotTogether)
  i_NotTogether : PySem.W.findIn K (.ref (cls .NotTogether)) "__init__" = some (some (.ref a_NotTogether_init))
  ti_NotTogether : PySem.W.typeIn K (.ref a_NotTogether_init) = some (.type "function")
  n_NotTogether_one : PySem.W.findIn K (.ref (cls .NotTogether)) "one" = some none
  n_NotTogether_two : PySem.W.findIn K (.ref (cls .NotTogether)) "two" = some none
  n_NotTogether_three : PySem.W.findIn K (.ref (cls .NotTogether)) "three" = some none
  O_Stranger : OexC K (cls .Stranger)
  i_Stranger : PySem.W.findIn K (.ref (cls .Stranger)) "__init__" = some (some (.ref a_Stranger_init))
  ti_Stranger : PySem.W.typeIn K (.ref a_Stranger_init) = some (.type "function")
  n_Stranger_row : PySem.W.findIn K (.ref (cls .Stranger)) "row" = some none
  n_Stranger_column : PySem.W.findIn K (.ref (cls .Stranger)) "column" = some none
section
variable {P : Program} {w : World} {K : PySem.W.Frag} {mg : Str → Option Value} {base : Heap} {cls : CN → Addr}
  {a_Stranger_init a_NoBack_init a_NotTogether_init a_Group_init a_look_at_size a_look_for_strangers a_unit_of a_back_of a_look_at_threes a_group_of a_product a_look_at_part a_closure a_mixed a_goes_with a_steps_into a_heart a_l_cell a_l_sizes a_l_kind a_l_unit a_l_turned a_l_sum a_l_rows a_l_names a_l_group a_l_backs a_l_calm a_l_steady a_l_greatest a_l_leads a_law : Addr} {fd_Stranger_init fd_NoBack_init fd_NotTogether_init fd_Group_init fd_look_at_size fd_look_for_strangers fd_unit_of fd_back_of fd_look_at_threes fd_group_of fd_product fd_look_at_part fd_closure fd_mixed fd_goes_with fd_steps_into fd_heart fd_l_cell fd_l_sizes fd_l_kind fd_l_unit fd_l_turned fd_l_sum fd_l_rows fd_l_names fd_l_group fd_l_backs fd_l_calm fd_l_steady fd_l_greatest fd_l_leads fd_law : FuncData}
theorem sc_Stranger_init : FnScope ["self", "row", "column"] ["self", "row", "column"] (defScope s_Stranger_init) := ⟨rfl, rfl, rfl, by decide +kernel, rfl, by decide +kernel, by decide +kernel⟩
theorem sc_NoBack_init : FnScope ["self", "thing"] ["self", "thing"] (defScope s_NoBack_init) := ⟨rfl, rfl, rfl, by decide +kernel, rfl, by decide +kernel, by decide +kernel⟩
theorem sc_NotTogether_init : FnScope ["self", "one", "two", "three"] ["self", "one", "two", "three"] (defScope s_NotTogether_init) := ⟨rfl, rfl, rfl, by decide +kernel, rfl, by decide +kernel, by decide +kernel⟩
theorem sc_Group_init : FnScope ["self", "rows", "unit", "backs"] ["self", "rows", "unit", "backs"] (defScope s_Group_init) := ⟨rfl, rfl, rfl, by decide +kernel, rfl, by decide +kernel, by decide +kernel⟩
theorem sc_look_at_size : FnScope ["table", "row"] ["table"] (defScope s_look_at_size) := ⟨rfl, rfl, rfl, by decide +kernel, rfl, by decide +kernel, by decide +kernel⟩
theorem sc_look_for_strangers : FnScope ["table", "a", "row", "b", "thing"] ["table"] (defScope s_look_for_strangers) := ⟨rfl, rfl, rfl, by decide +kernel, rfl, by decide +kernel, by decide +kernel⟩
theorem sc_unit_of : FnScope ["table", "e", "row", "a"] ["table"] (defScope s_unit_of) := ⟨rfl, rfl, rfl, by decide +kernel, rfl, by decide +kernel, by decide +kernel⟩
theorem sc_back_of : FnScope ["table", "unit", "thing", "other"] ["table", "unit", "thing"] (defScope s_back_of) := ⟨rfl, rfl, rfl, by decide +kernel, rfl, by decide +kernel, by decide +kernel⟩
theorem sc_look_at_threes : FnScope ["table", "one", "row", "two", "pair", "three", "thing"] ["table"] (defScope s_look_at_threes) := ⟨rfl, rfl, rfl, by decide +kernel, rfl, by decide +kernel, by decide +kernel⟩
theorem sc_group_of : FnScope ["table", "unit", "backs", "thing", "row"] ["table"] (defScope s_group_of) := ⟨rfl, rfl, rfl, by decide +kernel, rfl, by decide +kernel, by decide +kernel⟩
theorem sc_product : FnScope ["group", "things", "found", "thing"] ["group", "things"] (defScope s_product) := ⟨rfl, rfl, rfl, by decide +kernel, rfl, by decide +kernel, by decide +kernel⟩
theorem sc_look_at_part : FnScope ["group", "part", "inside", "last", "thing", "one", "other"] ["group", "part"] (defScope s_look_at_part) := ⟨rfl, rfl, rfl, by decide +kernel, rfl, by decide +kernel, by decide +kernel⟩
theorem sc_closure : FnScope ["group", "some", "words", "row", "at", "thing", "found", "part"] ["group", "some"] (defScope s_closure) := ⟨rfl, rfl, rfl, by decide +kernel, rfl, by decide +kernel, by decide +kernel⟩
theorem sc_mixed : FnScope ["group", "part", "some", "one", "other", "found"] ["group", "part"] (defScope s_mixed) := ⟨rfl, rfl, rfl, by decide +kernel, rfl, by decide +kernel, by decide +kernel⟩
theorem sc_goes_with : FnScope ["group", "thing", "part", "h"] ["group", "thing", "part"] (defScope s_goes_with) := ⟨rfl, rfl, rfl, by decide +kernel, rfl, by decide +kernel, by decide +kernel⟩
theorem sc_steps_into : FnScope ["group", "part", "thing", "many", "found"] ["group", "part", "thing"] (defScope s_steps_into) := ⟨rfl, rfl, rfl, by decide +kernel, rfl, by decide +kernel, by decide +kernel⟩
theorem sc_heart : FnScope ["group", "part", "thing", "leaders"] ["group"] (defScope s_heart) := ⟨rfl, rfl, rfl, by decide +kernel, rfl, by decide +kernel, by decide +kernel⟩
theorem sc_l_cell : FnScope ["_law_script", "_law_k"] ["_law_script", "_law_k"] (defScope s_l_cell) := ⟨rfl, rfl, rfl, by decide +kernel, rfl, by decide +kernel, by decide +kernel⟩
theorem sc_l_sizes : FnScope ["_law_one", "_law_two", "_law_number", "_law_some", "_law_top", "_law_steps", "_law_room", "_law_first", "_law_second", "_law_third"] ["_law_one", "_law_two"] (defScope s_l_sizes) := ⟨rfl, rfl, rfl, by decide +kernel, rfl, by decide +kernel, by decide +kernel⟩
theorem sc_l_kind : FnScope ["_law_sizes_here", "_law_number", "_law_kinds"] ["_law_sizes_here", "_law_number"] (defScope s_l_kind) := ⟨rfl, rfl, rfl, by decide +kernel, rfl, by decide +kernel, by decide +kernel⟩
theorem sc_l_unit : FnScope ["_law_many", "_law_steps", "_law_number", "_law_units", "_law_u", "_law_found", "_law_k"] ["_law_many", "_law_steps", "_law_number"] (defScope s_l_unit) := ⟨rfl, rfl, rfl, by decide +kernel, rfl, by decide +kernel, by decide +kernel⟩
theorem sc_l_turned : FnScope ["_law_place", "_law_sizes_here", "_law_kind_here", "_law_units", "_law_x", "_law_y", "_law_w"] ["_law_place", "_law_sizes_here", "_law_kind_here", "_law_units"] (defScope s_l_turned) := ⟨rfl, rfl, rfl, by decide +kernel, rfl, by decide +kernel, by decide +kernel⟩
theorem sc_l_sum : FnScope ["_law_one", "_law_other", "_law_sizes_here", "_law_both", "_law_x", "_law_y", "_law_w"] ["_law_one", "_law_other", "_law_sizes_here"] (defScope s_l_sum) := ⟨rfl, rfl, rfl, by decide +kernel, rfl, by decide +kernel, by decide +kernel⟩
theorem sc_l_rows : FnScope ["_law_sizes_here", "_law_turn", "_law_end", "_law_calm_here", "_law_rows_here", "_law_led", "_law_i", "_law_one", "_law_row", "_law_j", "_law_other", "_law_place"] ["_law_sizes_here", "_law_turn", "_law_end"] (defScope s_l_rows) := ⟨rfl, rfl, rfl, by decide +kernel, rfl, by decide +kernel, by decide +kernel⟩
theorem sc_l_names : FnScope ["_law_many", "_law_number", "_law_names_here", "_law_k"] ["_law_many", "_law_number"] (defScope s_l_names) := ⟨rfl, rfl, rfl, by decide +kernel, rfl, by decide +kernel, by decide +kernel⟩
theorem sc_l_group : FnScope ["_law_script", "_law_start", "_law_one", "_law_two", "_law_sizes_here", "_law_stirred", "_law_kind_here", "_law_units", "_law_k", "_law_calm_here", "_law_turn", "_law_end", "_law_rows_here", "_law_names_here", "_law_table", "_law_a", "_law_row", "_law_b", "_law_thing", "_law_place"] ["_law_script", "_law_start"] (defScope s_l_group) := ⟨rfl, rfl, rfl, by decide +kernel, rfl, by decide +kernel, by decide +kernel⟩
theorem sc_l_backs : FnScope ["_law_table", "_law_unit_here", "_law_a", "_law_row"] ["_law_table"] (defScope s_l_backs) := ⟨rfl, rfl, rfl, by decide +kernel, rfl, by decide +kernel, by decide +kernel⟩
theorem sc_l_calm : FnScope ["_law_table", "_law_part", "_law_a", "_law_b"] ["_law_table", "_law_part"] (defScope s_l_calm) := ⟨rfl, rfl, rfl, by decide +kernel, rfl, by decide +kernel, by decide +kernel⟩
theorem sc_l_steady : FnScope ["_law_table", "_law_part", "_law_backs_here", "_law_a", "_law_b", "_law_found"] ["_law_table", "_law_part"] (defScope s_l_steady) := ⟨rfl, rfl, rfl, by decide +kernel, rfl, by decide +kernel, by decide +kernel⟩
theorem sc_l_greatest : FnScope ["_law_table", "_law_part", "_law_a", "_law_others", "_law_h"] ["_law_table", "_law_part"] (defScope s_l_greatest) := ⟨rfl, rfl, rfl, by decide +kernel, rfl, by decide +kernel, by decide +kernel⟩
theorem sc_l_leads : FnScope ["_law_table", "_law_part", "_law_thing", "_law_led", "_law_carrier", "_law_h"] ["_law_table", "_law_part", "_law_thing"] (defScope s_l_leads) := ⟨rfl, rfl, rfl, by decide +kernel, rfl, by decide +kernel, by decide +kernel⟩
theorem sc_law : FnScope ["_law_script", "_law_table", "_law_found", "_law_part", "_law_k", "_law_thing", "_law_row"] ["_law_script"] (defScope s_law) := ⟨rfl, rfl, rfl, by decide +kernel, rfl, by decide +kernel, by decide +kernel⟩
theorem ok_Stranger_init (T : Tx K mg cls a_Stranger_init a_NoBack_init a_NotTogether_init a_Group_init a_look_at_size a_look_for_strangers a_unit_of a_back_of a_look_at_threes a_group_of a_product a_look_at_part a_closure a_mixed a_goes_with a_steps_into a_heart a_l_cell a_l_sizes a_l_kind a_l_unit a_l_turned a_l_sum a_l_rows a_l_names a_l_group a_l_backs a_l_calm a_l_steady a_l_greatest a_l_leads a_law fd_Stranger_init fd_NoBack_init fd_NotTogether_init fd_Group_init fd_look_at_size fd_look_for_strangers fd_unit_of fd_back_of fd_look_at_threes fd_group_of fd_product fd_look_at_part fd_closure fd_mixed fd_goes_with fd_steps_into fd_heart fd_l_cell fd_l_sizes fd_l_kind fd_l_unit fd_l_turned fd_l_sum fd_l_rows fd_l_names fd_l_group fd_l_backs fd_l_calm fd_l_steady fd_l_greatest fd_l_leads fd_law) : FnOk P w K mg base (L2.CX P w) 1 a_Stranger_init fd_Stranger_init ["self", "row", "column"] (spXI (cls .Stranger) ["row", "column"]) := by
  refine T.F_Stranger_init.okX sc_Stranger_init (fun vs H Q E h => ?_) (fun cdv A outer s H vs Q E hr h => ⟨_, ?_, xi_two (K := K) (N := ["self", "row", "column"]) rfl T.O_Stranger T.n_Stranger_row T.n_Stranger_column vs H Q E h⟩)
  · obtain ⟨a, ws, rfl, hl, _⟩ := h
    exact congrArg Nat.succ hl
  · exact (pss_cons (ps_ost (pv 0) (pv 1) (by rfl)) (pss_one (ps_ost (pv 0) (pv 2) (by rfl))))
theorem ok_NoBack_init (T : Tx K mg cls a_Stranger_init a_NoBack_init a_NotTogether_init a_Group_init a_look_at_size a_look_for_strangers a_unit_of a_back_of a_look_at_threes a_group_of a_product a_look_at_part a_closure a_mixed a_goes_with a_steps_into a_heart a_l_cell a_l_sizes a_l_kind a_l_unit a_l_turned a_l_sum a_l_rows a_l_names a_l_group a_l_backs a_l_calm a_l_steady a_l_greatest a_l_leads a_law fd_Stranger_init fd_NoBack_init fd_NotTogether_init fd_Group_init fd_look_at_size fd_look_for_strangers fd_unit_of fd_back_of fd_look_at_threes fd_group_of fd_product fd_look_at_part fd_closure fd_mixed fd_goes_with fd_steps_into fd_heart fd_l_cell fd_l_sizes fd_l_kind fd_l_unit fd_l_turned fd_l_sum fd_l_rows fd_l_names fd_l_group fd_l_backs fd_l_calm fd_l_steady fd_l_greatest fd_l_leads fd_law) : FnOk P w K mg base (L2.CX P w) 1 a_NoBack_init fd_NoBack_init ["self", "thing"] (spXI (cls .NoBack) ["thing"]) := by
  refine T.F_NoBack_init.okX sc_NoBack_init (fun vs H Q E h => ?_) (fun cdv A outer s H vs Q E hr h => ⟨_, ?_, xi_one (K := K) (N := ["self", "thing"]) rfl T.O_NoBack T.n_NoBack_thing vs H Q E h⟩)
  · obtain ⟨a, ws, rfl, hl, _⟩ := h
    exact congrArg Nat.succ hl
  · exact (pss_one (ps_ost (pv 0) (pv 1) (by rfl)))
theorem ok_NotTogether_init (T : Tx K mg cls a_Stranger_init a_NoBack_init a_NotTogether_init a_Group_init a_look_at_size a_look_for_strangers a_unit_of a_back_of a_look_at_threes a_group_of a_product a_look_at_part a_closure a_mixed a_goes_with a_steps_into a_heart a_l_cell a_l_sizes a_l_kind a_l_unit a_l_turned a_l_sum a_l_rows a_l_names a_l_group a_l_backs a_l_calm a_l_steady a_l_greatest a_l_leads a_law fd_Stranger_init fd_NoBack_init fd_NotTogether_init fd_Group_init fd_look_at_size fd_look_for_strangers fd_unit_of fd_back_of fd_look_at_threes fd_group_of fd_product fd_look_at_part fd_closure fd_mixed fd_goes_with fd_steps_into fd_heart fd_l_cell fd_l_sizes fd_l_kind fd_l_unit fd_l_turned fd_l_sum fd_l_rows fd_l_names fd_l_group fd_l_backs fd_l_calm fd_l_steady fd_l_greatest fd_l_leads fd_law) : FnOk P w K mg base (L2.CX P w) 1 a_NotTogether_init fd_NotTogether_init ["self", "one", "two", "three"] (spXI (cls .NotTogether) ["one", "two", "three"]) := by
  refine T.F_NotTogether_init.okX sc_NotTogether_init (fun vs H Q E h => ?_) (fun cdv A outer s H vs Q E hr h => ⟨_, ?_, xi_three (K := K) (N := ["self", "one", "two", "three"]) rfl T.O_NotTogether T.n_NotTogether_one T.n_NotTogether_two T.n_NotTogether_three vs H Q E h⟩)
  · obtain ⟨a, ws, rfl, hl, _⟩ := h
    exact congrArg Nat.succ hl
  · exact (pss_cons (ps_ost (pv 0) (pv 1) (by rfl)) (pss_cons (ps_ost (pv 0) (pv 2) (by rfl)) (pss_one (ps_ost (pv 0) (pv 3) (by rfl)))))
theorem ok_Group_init (T : Tx K mg cls a_Stranger_init a_NoBack_init a_NotTogether_init a_Group_init a_look_at_size a_look_for_strangers a_unit_of a_back_of a_look_at_threes a_group_of a_product a_look_at_part a_closure a_mixed a_goes_with a_steps_into a_heart a_l_cell a_l_sizes a_l_kind a_l_unit a_l_turned a_l_sum a_l_rows a_l_names a_l_group a_l_backs a_l_calm a_l_steady a_l_greatest a_l_leads a_law fd_Stranger_init fd_NoBack_init fd_NotTogether_init fd_Group_init fd_look_at_size fd_look_for_strangers fd_unit_of fd_back_of fd_look_at_threes fd_group_of fd_product fd_look_at_part fd_closure fd_mixed fd_goes_with fd_steps_into fd_heart fd_l_cell fd_l_sizes fd_l_kind fd_l_unit fd_l_turned fd_l_sum fd_l_rows fd_l_names fd_l_group fd_l_backs fd_l_calm fd_l_steady fd_l_greatest fd_l_leads fd_law) : FnOk P w K mg base (L2.CX P w) 1 a_Group_init fd_Group_init ["self", "rows", "unit", "backs"] (spI_Group ⟨K, cls⟩) := by
  refine T.F_Group_init.okX sc_Group_init (fun vs H Q E h => ?_) (fun cdv A outer s H vs Q E hr h => ⟨_, ?_, pure_Group_init (Z := ⟨K, cls⟩) (N := ["self", "rows", "unit", "backs"]) rfl vs H Q E h⟩)
  · obtain ⟨x, dx, l, xs, u, b, rfl, _⟩ := h
    rfl
  · exact (pss_cons (ps_fld (pv 0) (pe_callB gc_len (by rfl) T.b_len (by decide +kernel) (pa_cons (pv 1) pa_nil)) (by rfl))
  (pss_cons (ps_fld (pv 0) (pv 1) (by rfl))
  (pss_cons (ps_fld (pv 0) (pv 2) (by rfl))
  (pss_one (ps_fld (pv 0) (pv 3) (by rfl))))))
theorem ok_look_at_size (T : Tx K mg cls a_Stranger_init a_NoBack_init a_NotTogether_init a_Group_init a_look_at_size a_look_for_strangers a_unit_of a_back_of a_look_at_threes a_group_of a_product a_look_at_part a_closure a_mixed a_goes_with a_steps_into a_heart a_l_cell a_l_sizes a_l_kind a_l_unit a_l_turned a_l_sum a_l_rows a_l_names a_l_group a_l_backs a_l_calm a_l_steady a_l_greatest a_l_leads a_law fd_Stranger_init fd_NoBack_init fd_NotTogether_init fd_Group_init fd_look_at_size fd_look_for_strangers fd_unit_of fd_back_of fd_look_at_threes fd_group_of fd_product fd_look_at_part fd_closure fd_mixed fd_goes_with fd_steps_into fd_heart fd_l_cell fd_l_sizes fd_l_kind fd_l_unit fd_l_turned fd_l_sum fd_l_rows fd_l_names fd_l_group fd_l_backs fd_l_calm fd_l_steady fd_l_greatest fd_l_leads fd_law) : FnOk P w K mg base (L2.CX P w) 1 a_look_at_size fd_look_at_size ["table"] (spOf ⟨K, cls⟩ T_look_at_size) := by
  refine T.F_look_at_size.okX sc_look_at_size (spOf_len (n := 1) (ar_look_at_size)) (fun cdv A outer s H vs Q E hr h => ⟨t_look_at_size ⟨K, cls⟩ (fun c d _ H => E c d H), ?_, spOf_run (N := ["table", "row"]) (t := fun E => t_look_at_size ⟨K, cls⟩ (fun c d _ H => E c d H)) (fun ss ok er hT => by rw [ar_look_at_size ss ok er hT]; decide) (fun E ss ok er hT => w_look_at_size ⟨K, cls⟩ _ ss ok er hT) vs H Q E h⟩)
  unfold t_look_at_size
  exact (pss_cons (ps_if (PW.pt (pw_or (pt_cmpR go_lt (pe_callB gc_len (by rfl) T.b_len (by decide +kernel) (pa_cons (pv 0) pa_nil)) pe_int (nomark _)) (pw_or1 (pt_cmpR go_gt (pe_callB gc_len (by rfl) T.b_len (by decide +kernel) (pa_cons (pv 0) pa_nil)) (pe_glob (by rfl) T.g_MOST.choose_spec ⟨_, rfl⟩) (nomark _)))))
  (pss_one (ps_raise (by rfl) (takes_of rfl rfl rfl rfl) (pmk_own PySem.F.excBase_ValueError T.x_BadSize T.g_BadSize T.k_BadSize (raises_own T.r_BadSize T.rt_BadSize) (by rfl))))
  pss_nil)
  (pss_one (ps_for (passes_of rfl) (by rfl) (pi_list (pv 0)) (pg_name (i := 1) sc_look_at_size.nd (by rfl) (Or.inl rfl))
  (pss_one (ps_if (pt_cmpR (go_ne (hu64 hr)) (pe_callB gc_len (by rfl) T.b_len (by decide +kernel) (pa_cons (pv 1) pa_nil)) (pe_callB gc_len (by rfl) T.b_len (by decide +kernel) (pa_cons (pv 0) pa_nil)) (nomark _))
  (pss_one (ps_raise (by rfl) (takes_of rfl rfl rfl rfl) (pmk_own PySem.F.excBase_ValueError T.x_BadSize T.g_BadSize T.k_BadSize (raises_own T.r_BadSize T.rt_BadSize) (by rfl))))
  pss_nil)))))
theorem ok_look_for_strangers (T : Tx K mg cls a_Stranger_init a_NoBack_init a_NotTogether_init a_Group_init a_look_at_size a_look_for_strangers a_unit_of a_back_of a_look_at_threes a_group_of a_product a_look_at_part a_closure a_mixed a_goes_with a_steps_into a_heart a_l_cell a_l_sizes a_l_kind a_l_unit a_l_turned a_l_sum a_l_rows a_l_names a_l_group a_l_backs a_l_calm a_l_steady a_l_greatest a_l_leads a_law fd_Stranger_init fd_NoBack_init fd_NotTogether_init fd_Group_init fd_look_at_size fd_look_for_strangers fd_unit_of fd_back_of fd_look_at_threes fd_group_of fd_product fd_look_at_part fd_closure fd_mixed fd_goes_with fd_steps_into fd_heart fd_l_cell fd_l_sizes fd_l_kind fd_l_unit fd_l_turned fd_l_sum fd_l_rows fd_l_names fd_l_group fd_l_backs fd_l_calm fd_l_steady fd_l_greatest fd_l_leads fd_law) (G_Stranger_init : FnOk P w K mg base (L2.CX P w) 1 a_Stranger_init fd_Stranger_init ["self", "row", "column"] (spXI (cls .Stranger) ["row", "column"])) : FnOk P w K mg base (L2.CX P w) 3 a_look_for_strangers fd_look_for_strangers ["table"] (spOf ⟨K, cls⟩ T_look_for_strangers) := by
  refine T.F_look_for_strangers.okX sc_look_for_strangers (spOf_len (n := 1) (ar_look_for_strangers)) (fun cdv A outer s H vs Q E hr h => ⟨t_look_for_strangers ⟨K, cls⟩ (fun c d _ H => E c d H), ?_, spOf_run (N := ["table", "a", "row", "b", "thing"]) (t := fun E => t_look_for_strangers ⟨K, cls⟩ (fun c d _ H => E c d H)) (fun ss ok er hT => by rw [ar_look_for_strangers ss ok er hT]; decide) (fun E ss ok er hT => w_look_for_strangers ⟨K, cls⟩ _ ss ok er hT) vs H Q E h⟩)
  unfold t_look_for_strangers
  exact (pss_one (ps_for (passes_of rfl) (by rfl) (pi_enum (by rfl) T.b_enumerate (pa_cons (pv 0) pa_nil)) (pg_tup (by rfl) (pgs_cons (pg_name (i := 1) sc_look_for_strangers.nd (by rfl) (Or.inl rfl)) (pgs_cons (pg_name (i := 2) sc_look_for_strangers.nd (by rfl) (Or.inl rfl)) pgs_nil)))
  (pss_one (ps_for (passes_of rfl) (by rfl) (pi_enum (by rfl) T.b_enumerate (pa_cons (pv 2) pa_nil)) (pg_tup (by rfl) (pgs_cons (pg_name (i := 3) sc_look_for_strangers.nd (by rfl) (Or.inl rfl)) (pgs_cons (pg_name (i := 4) sc_look_for_strangers.nd (by rfl) (Or.inl rfl)) pgs_nil)))
  (pss_one (ps_if (PW.pt (pw_or (pt_cmpR go_lt (pv 4) pe_int (nomark _)) (pw_or1 (pt_cmpR go_ge (pv 4) (pe_callB gc_len (by rfl) T.b_len (by decide +kernel) (pa_cons (pv 0) pa_nil)) (nomark _)))))
  (pss_one (ps_raise (by rfl) (takes_of rfl rfl rfl rfl) (pmk_oex T.O_Stranger T.i_Stranger T.ti_Stranger G_Stranger_init (hr.mono (by decide)) T.b_Stranger_init .nil passL (by rfl) T.g_Stranger (pa_cons (pv 1) (pa_cons (pv 3) pa_nil)))))
  pss_nil))))))
theorem ok_unit_of (T : Tx K mg cls a_Stranger_init a_NoBack_init a_NotTogether_init a_Group_init a_look_at_size a_look_for_strangers a_unit_of a_back_of a_look_at_threes a_group_of a_product a_look_at_part a_closure a_mixed a_goes_with a_steps_into a_heart a_l_cell a_l_sizes a_l_kind a_l_unit a_l_turned a_l_sum a_l_rows a_l_names a_l_group a_l_backs a_l_calm a_l_steady a_l_greatest a_l_leads a_law fd_Stranger_init fd_NoBack_init fd_NotTogether_init fd_Group_init fd_look_at_size fd_look_for_strangers fd_unit_of fd_back_of fd_look_at_threes fd_group_of fd_product fd_look_at_part fd_closure fd_mixed fd_goes_with fd_steps_into fd_heart fd_l_cell fd_l_sizes fd_l_kind fd_l_unit fd_l_turned fd_l_sum fd_l_rows fd_l_names fd_l_group fd_l_backs fd_l_calm fd_l_steady fd_l_greatest fd_l_leads fd_law) : FnOk P w K mg base (L2.CX P w) 1 a_unit_of fd_unit_of ["table"] (spOf ⟨K, cls⟩ T_unit_of) := by
  refine T.F_unit_of.okX sc_unit_of (spOf_len (n := 1) (ar_unit_of)) (fun cdv A outer s H vs Q E hr h => ⟨t_unit_of ⟨K, cls⟩ (fun c d _ H => E c d H), ?_, spOf_run (N := ["table", "e", "row", "a"]) (t := fun E => t_unit_of ⟨K, cls⟩ (fun c d _ H => E c d H)) (fun ss ok er hT => by rw [ar_unit_of ss ok er hT]; decide) (fun E ss ok er hT => w_unit_of ⟨K, cls⟩ _ ss ok er hT) vs H Q E h⟩)
  unfold t_unit_of
  exact (pss_cons (ps_for (passes_of rfl) (by rfl) (pi_enum (by rfl) T.b_enumerate (pa_cons (pv 0) pa_nil)) (pg_tup (by rfl) (pgs_cons (pg_name (i := 1) sc_unit_of.nd (by rfl) (Or.inr rfl)) (pgs_cons (pg_name (i := 2) sc_unit_of.nd (by rfl) (Or.inr rfl)) pgs_nil)))
  (pss_one (ps_if (pt_val (pe_callB (cr_all (by rfl)) (by rfl) T.b_all (by decide +kernel) (pa_cons (pe_lc (by rfl) sc_unit_of.nd (pi_range1 (by rfl) T.b_range (pa_cons (pe_callB gc_len (by rfl) T.b_len (by decide +kernel) (pa_cons (pv 0) pa_nil)) pa_nil)) (blkOk_by (own := [("a", 3)]) (by (show blkC ["table", "e", "row", "a"] (defScope s_unit_of) _ _ = true); decide +kernel)) (fun _ _ _ _ _ => (pg_name (i := 3) sc_unit_of.nd (by rfl) (Or.inl rfl))) (fun _ _ _ _ _ => pts_nil) (fun _ _ _ _ _ => (pe_and (pe_cmpR (go_eq (hu64 hr)) (pe_ix (go_ix (hu1 hr)) (pv 2) (pv 3) (fun _ _ => rfl)) (pv 3) (nomark _)) (pe_one (pe_cmpR (go_eq (hu64 hr)) (pe_ix (go_ix (hu1 hr)) (pe_ix (go_ix (hu1 hr)) (pv 0) (pv 3) (fun _ _ => rfl)) (pv 1) (fun _ _ => rfl)) (pv 3) (nomark _)))))) pa_nil)))
  (pss_one (ps_ret (pv 1)))
  pss_nil)))
  (pss_one (ps_raise (by rfl) (takes_of rfl rfl rfl rfl) (pmk_own PySem.F.excBase_ValueError T.x_NoUnit T.g_NoUnit T.k_NoUnit (raises_own T.r_NoUnit T.rt_NoUnit) (by rfl)))))
theorem ok_back_of (T : Tx K mg cls a_Stranger_init a_NoBack_init a_NotTogether_init a_Group_init a_look_at_size a_look_for_strangers a_unit_of a_back_of a_look_at_threes a_group_of a_product a_look_at_part a_closure a_mixed a_goes_with a_steps_into a_heart a_l_cell a_l_sizes a_l_kind a_l_unit a_l_turned a_l_sum a_l_rows a_l_names a_l_group a_l_backs a_l_calm a_l_steady a_l_greatest a_l_leads a_law fd_Stranger_init fd_NoBack_init fd_NotTogether_init fd_Group_init fd_look_at_size fd_look_for_strangers fd_unit_of fd_back_of fd_look_at_threes fd_group_of fd_product fd_look_at_part fd_closure fd_mixed fd_goes_with fd_steps_into fd_heart fd_l_cell fd_l_sizes fd_l_kind fd_l_unit fd_l_turned fd_l_sum fd_l_rows fd_l_names fd_l_group fd_l_backs fd_l_calm fd_l_steady fd_l_greatest fd_l_leads fd_law) (G_NoBack_init : FnOk P w K mg base (L2.CX P w) 1 a_NoBack_init fd_NoBack_init ["self", "thing"] (spXI (cls .NoBack) ["thing"])) : FnOk P w K mg base (L2.CX P w) 3 a_back_of fd_back_of ["table", "unit", "thing"] (spOf ⟨K, cls⟩ T_back_of) := by
  refine T.F_back_of.okX sc_back_of (spOf_len (n := 3) (ar_back_of)) (fun cdv A outer s H vs Q E hr h => ⟨t_back_of ⟨K, cls⟩ (fun c d _ H => E c d H), ?_, spOf_run (N := ["table", "unit", "thing", "other"]) (t := fun E => t_back_of ⟨K, cls⟩ (fun c d _ H => E c d H)) (fun ss ok er hT => by rw [ar_back_of ss ok er hT]; decide) (fun E ss ok er hT => w_back_of ⟨K, cls⟩ _ ss ok er hT) vs H Q E h⟩)
  unfold t_back_of
  exact (pss_cons (ps_for (passes_of rfl) (by rfl) (pi_range1 (by rfl) T.b_range (pa_cons (pe_callB gc_len (by rfl) T.b_len (by decide +kernel) (pa_cons (pv 0) pa_nil)) pa_nil)) (pg_name (i := 3) sc_back_of.nd (by rfl) (Or.inl rfl))
  (pss_one (ps_if (PW.pt (pw_and (pt_cmpR (go_eq (hu64 hr)) (pe_ix (go_ix (hu1 hr)) (pe_ix (go_ix (hu1 hr)) (pv 0) (pv 2) (fun _ _ => rfl)) (pv 3) (fun _ _ => rfl)) (pv 1) (nomark _)) (pw_and1 (pt_cmpR (go_eq (hu64 hr)) (pe_ix (go_ix (hu1 hr)) (pe_ix (go_ix (hu1 hr)) (pv 0) (pv 3) (fun _ _ => rfl)) (pv 2) (fun _ _ => rfl)) (pv 1) (nomark _)))))
  (pss_one (ps_ret (pv 3)))
  pss_nil)))
  (pss_one (ps_raise (by rfl) (takes_of rfl rfl rfl rfl) (pmk_oex T.O_NoBack T.i_NoBack T.ti_NoBack G_NoBack_init (hr.mono (by decide)) T.b_NoBack_init .nil passL (by rfl) T.g_NoBack (pa_cons (pv 2) pa_nil)))))
theorem ok_look_at_threes (T : Tx K mg cls a_Stranger_init a_NoBack_init a_NotTogether_init a_Group_init a_look_at_size a_look_for_strangers a_unit_of a_back_of a_look_at_threes a_group_of a_product a_look_at_part a_closure a_mixed a_goes_with a_steps_into a_heart a_l_cell a_l_sizes a_l_kind a_l_unit a_l_turned a_l_sum a_l_rows a_l_names a_l_group a_l_backs a_l_calm a_l_steady a_l_greatest a_l_leads a_law fd_Stranger_init fd_NoBack_init fd_NotTogether_init fd_Group_init fd_look_at_size fd_look_for_strangers fd_unit_of fd_back_of fd_look_at_threes fd_group_of fd_product fd_look_at_part fd_closure fd_mixed fd_goes_with fd_steps_into fd_heart fd_l_cell fd_l_sizes fd_l_kind fd_l_unit fd_l_turned fd_l_sum fd_l_rows fd_l_names fd_l_group fd_l_backs fd_l_calm fd_l_steady fd_l_greatest fd_l_leads fd_law) (G_NotTogether_init : FnOk P w K mg base (L2.CX P w) 1 a_NotTogether_init fd_NotTogether_init ["self", "one", "two", "three"] (spXI (cls .NotTogether) ["one", "two", "three"])) : FnOk P w K mg base (L2.CX P w) 3 a_look_at_threes fd_look_at_threes ["table"] (spOf ⟨K, cls⟩ T_look_at_threes) := by
  refine T.F_look_at_threes.okX sc_look_at_threes (spOf_len (n := 1) (ar_look_at_threes)) (fun cdv A outer s H vs Q E hr h => ⟨t_look_at_threes ⟨K, cls⟩ (fun c d _ H => E c d H), ?_, spOf_run (N := ["table", "one", "row", "two", "pair", "three", "thing"]) (t := fun E => t_look_at_threes ⟨K, cls⟩ (fun c d _ H => E c d H)) (fun ss ok er hT => by rw [ar_look_at_threes ss ok er hT]; decide) (fun E ss ok er hT => w_look_at_threes ⟨K, cls⟩ _ ss ok er hT) vs H Q E h⟩)
  unfold t_look_at_threes
  exact (pss_one (ps_for (passes_of rfl) (by rfl) (pi_enum (by rfl) T.b_enumerate (pa_cons (pv 0) pa_nil)) (pg_tup (by rfl) (pgs_cons (pg_name (i := 1) sc_look_at_threes.nd (by rfl) (Or.inl rfl)) (pgs_cons (pg_name (i := 2) sc_look_at_threes.nd (by rfl) (Or.inl rfl)) pgs_nil)))
  (pss_one (ps_for (passes_of rfl) (by rfl) (pi_enum (by rfl) T.b_enumerate (pa_cons (pv 2) pa_nil)) (pg_tup (by rfl) (pgs_cons (pg_name (i := 3) sc_look_at_threes.nd (by rfl) (Or.inl rfl)) (pgs_cons (pg_name (i := 4) sc_look_at_threes.nd (by rfl) (Or.inl rfl)) pgs_nil)))
  (pss_one (ps_for (passes_of rfl) (by rfl) (pi_enum (by rfl) T.b_enumerate (pa_cons (pe_ix (go_ix (hu1 hr)) (pv 0) (pv 3) (fun _ _ => rfl)) pa_nil)) (pg_tup (by rfl) (pgs_cons (pg_name (i := 5) sc_look_at_threes.nd (by rfl) (Or.inl rfl)) (pgs_cons (pg_name (i := 6) sc_look_at_threes.nd (by rfl) (Or.inl rfl)) pgs_nil)))
  (pss_one (ps_if (pt_cmpR (go_ne (hu64 hr)) (pe_ix (go_ix (hu1 hr)) (pe_ix (go_ix (hu1 hr)) (pv 0) (pv 4) (fun _ _ => rfl)) (pv 5) (fun _ _ => rfl)) (pe_ix (go_ix (hu1 hr)) (pv 2) (pv 6) (fun _ _ => rfl)) (nomark _))
  (pss_one (ps_raise (by rfl) (takes_of rfl rfl rfl rfl) (pmk_oex T.O_NotTogether T.i_NotTogether T.ti_NotTogether G_NotTogether_init (hr.mono (by decide)) T.b_NotTogether_init .nil passL (by rfl) T.g_NotTogether (pa_cons (pv 1) (pa_cons (pv 3) (pa_cons (pv 5) pa_nil))))))
  pss_nil))))))))
theorem ok_group_of (T : Tx K mg cls a_Stranger_init a_NoBack_init a_NotTogether_init a_Group_init a_look_at_size a_look_for_strangers a_unit_of a_back_of a_look_at_threes a_group_of a_product a_look_at_part a_closure a_mixed a_goes_with a_steps_into a_heart a_l_cell a_l_sizes a_l_kind a_l_unit a_l_turned a_l_sum a_l_rows a_l_names a_l_group a_l_backs a_l_calm a_l_steady a_l_greatest a_l_leads a_law fd_Stranger_init fd_NoBack_init fd_NotTogether_init fd_Group_init fd_look_at_size fd_look_for_strangers fd_unit_of fd_back_of fd_look_at_threes fd_group_of fd_product fd_look_at_part fd_closure fd_mixed fd_goes_with fd_steps_into fd_heart fd_l_cell fd_l_sizes fd_l_kind fd_l_unit fd_l_turned fd_l_sum fd_l_rows fd_l_names fd_l_group fd_l_backs fd_l_calm fd_l_steady fd_l_greatest fd_l_leads fd_law) (G_Group_init : FnOk P w K mg base (L2.CX P w) 1 a_Group_init fd_Group_init ["self", "rows", "unit", "backs"] (spI_Group ⟨K, cls⟩)) (G_look_at_size : FnOk P w K mg base (L2.CX P w) 1 a_look_at_size fd_look_at_size ["table"] (spOf ⟨K, cls⟩ T_look_at_size)) (G_look_for_strangers : FnOk P w K mg base (L2.CX P w) 3 a_look_for_strangers fd_look_for_strangers ["table"] (spOf ⟨K, cls⟩ T_look_for_strangers)) (G_unit_of : FnOk P w K mg base (L2.CX P w) 1 a_unit_of fd_unit_of ["table"] (spOf ⟨K, cls⟩ T_unit_of)) (G_back_of : FnOk P w K mg base (L2.CX P w) 3 a_back_of fd_back_of ["table", "unit", "thing"] (spOf ⟨K, cls⟩ T_back_of)) (G_look_at_threes : FnOk P w K mg base (L2.CX P w) 3 a_look_at_threes fd_look_at_threes ["table"] (spOf ⟨K, cls⟩ T_look_at_threes)) : FnOk P w K mg base (L2.CX P w) 4 a_group_of fd_group_of ["table"] (spOf ⟨K, cls⟩ T_group_of) := by
  refine T.F_group_of.okX sc_group_of (spOf_len (n := 1) (ar_group_of)) (fun cdv A outer s H vs Q E hr h => ⟨t_group_of ⟨K, cls⟩ (fun c d _ H => E c d H), ?_, spOf_run (N := ["table", "unit", "backs", "thing", "row"]) (t := fun E => t_group_of ⟨K, cls⟩ (fun c d _ H => E c d H)) (fun ss ok er hT => by rw [ar_group_of ss ok er hT]; decide) (fun E ss ok er hT => w_group_of T.grpC _ ss ok er hT) vs H Q E h⟩)
  unfold t_group_of
  exact (pss_cons (ps_expr (pe_callSD G_look_at_size (hr.mono (by decide)) (by rfl) T.g_look_at_size T.k_look_at_size T.b_look_at_size .nil (fun σ => passAt (takes_of rfl rfl rfl rfl) σ) (pa_cons (pv 0) pa_nil)))
  (pss_cons (ps_expr (pe_callSD G_look_for_strangers (hr.mono (by decide)) (by rfl) T.g_look_for_strangers T.k_look_for_strangers T.b_look_for_strangers .nil (fun σ => passAt (takes_of rfl rfl rfl rfl) σ) (pa_cons (pv 0) pa_nil)))
  (pss_cons (ps_set (i := 1) sc_group_of.nd (by rfl) (Or.inr rfl) (pe_callSD G_unit_of (hr.mono (by decide)) (by rfl) T.g_unit_of T.k_unit_of T.b_unit_of .nil (fun σ => passAt (takes_of rfl rfl rfl rfl) σ) (pa_cons (pv 0) pa_nil)))
  (pss_cons (ps_setLc (i := 2) (by rfl) sc_group_of.nd (by rfl) (by rfl) (sw_true rfl rfl rfl (by decide +kernel)) (pi_range1 (by rfl) T.b_range (pa_cons (pe_callB gc_len (by rfl) T.b_len (by decide +kernel) (pa_cons (pv 0) pa_nil)) pa_nil)) (blkOk_by (own := [("thing", 3)]) (by (show blkC ["table", "unit", "backs", "thing", "row"] (defScope s_group_of) _ _ = true); decide +kernel)) (fun _ _ _ _ _ => (pg_name (i := 3) sc_group_of.nd (by rfl) (Or.inl rfl))) (fun _ _ _ _ _ => pts_nil) (fun _ _ _ _ _ => (pe_call G_back_of (hr.mono (by decide)) (by rfl) T.g_back_of T.k_back_of T.b_back_of .nil passL (pa_cons (pv 0) (pa_cons (pv 1) (pa_cons (pv 3) pa_nil))))))
  (pss_cons (ps_expr (pe_callSD G_look_at_threes (hr.mono (by decide)) (by rfl) T.g_look_at_threes T.k_look_at_threes T.b_look_at_threes .nil (fun σ => passAt (takes_of rfl rfl rfl rfl) σ) (pa_cons (pv 0) pa_nil)))
  (pss_one (ps_ret (pe_make T.M_Group G_Group_init (hr.mono (by decide)) (by rfl) T.g_Group T.b_Group_init .nil passL (pa_cons (pe_lc (by rfl) sc_group_of.nd (pi_list (pv 0)) (blkOk_by (own := [("row", 4)]) (by (show blkC ["table", "unit", "backs", "thing", "row"] (defScope s_group_of) _ _ = true); decide +kernel)) (fun _ _ _ _ _ => (pg_name (i := 4) sc_group_of.nd (by rfl) (Or.inl rfl))) (fun _ _ _ _ _ => pts_nil) (fun _ _ _ _ _ => (pe_callTy gc_list (by rfl) T.b_list (by decide +kernel) (pa_cons (pv 4) pa_nil)))) (pa_cons (pv 1) (pa_cons (pv 2) pa_nil)))))))))))
theorem ok_product (T : Tx K mg cls a_Stranger_init a_NoBack_init a_NotTogether_init a_Group_init a_look_at_size a_look_for_strangers a_unit_of a_back_of a_look_at_threes a_group_of a_product a_look_at_part a_closure a_mixed a_goes_with a_steps_into a_heart a_l_cell a_l_sizes a_l_kind a_l_unit a_l_turned a_l_sum a_l_rows a_l_names a_l_group a_l_backs a_l_calm a_l_steady a_l_greatest a_l_leads a_law fd_Stranger_init fd_NoBack_init fd_NotTogether_init fd_Group_init fd_look_at_size fd_look_for_strangers fd_unit_of fd_back_of fd_look_at_threes fd_group_of fd_product fd_look_at_part fd_closure fd_mixed fd_goes_with fd_steps_into fd_heart fd_l_cell fd_l_sizes fd_l_kind fd_l_unit fd_l_turned fd_l_sum fd_l_rows fd_l_names fd_l_group fd_l_backs fd_l_calm fd_l_steady fd_l_greatest fd_l_leads fd_law) : FnOk P w K mg base (L2.CX P w) 1 a_product fd_product ["group", "things"] (spOf ⟨K, cls⟩ T_product) := by
  refine T.F_product.okX sc_product (spOf_len (n := 2) (ar_product)) (fun cdv A outer s H vs Q E hr h => ⟨t_product ⟨K, cls⟩ (fun c d _ H => E c d H), ?_, spOf_run (N := ["group", "things", "found", "thing"]) (t := fun E => t_product ⟨K, cls⟩ (fun c d _ H => E c d H)) (fun ss ok er hT => by rw [ar_product ss ok er hT]; decide) (fun E ss ok er hT => w_product ⟨K, cls⟩ _ ss ok er hT) vs H Q E h⟩)
  unfold t_product
  exact (pss_cons (ps_set (i := 2) sc_product.nd (by rfl) (Or.inl rfl) (pe_fld (pv 0) (by rfl)))
  (pss_cons (ps_for (passes_of rfl) (by rfl) (pi_list (pv 1)) (pg_name (i := 3) sc_product.nd (by rfl) (Or.inl rfl))
  (pss_one (ps_set (i := 2) sc_product.nd (by rfl) (Or.inl rfl) (pe_ix (go_ix (hu1 hr)) (pe_ix (go_ix (hu1 hr)) (pe_fld (pv 0) (by rfl)) (pv 2) (fun _ _ => rfl)) (pv 3) (fun _ _ => rfl)))))
  (pss_one (ps_ret (pv 2)))))
theorem ok_look_at_part (T : Tx K mg cls a_Stranger_init a_NoBack_init a_NotTogether_init a_Group_init a_look_at_size a_look_for_strangers a_unit_of a_back_of a_look_at_threes a_group_of a_product a_look_at_part a_closure a_mixed a_goes_with a_steps_into a_heart a_l_cell a_l_sizes a_l_kind a_l_unit a_l_turned a_l_sum a_l_rows a_l_names a_l_group a_l_backs a_l_calm a_l_steady a_l_greatest a_l_leads a_law fd_Stranger_init fd_NoBack_init fd_NotTogether_init fd_Group_init fd_look_at_size fd_look_for_strangers fd_unit_of fd_back_of fd_look_at_threes fd_group_of fd_product fd_look_at_part fd_closure fd_mixed fd_goes_with fd_steps_into fd_heart fd_l_cell fd_l_sizes fd_l_kind fd_l_unit fd_l_turned fd_l_sum fd_l_rows fd_l_names fd_l_group fd_l_backs fd_l_calm fd_l_steady fd_l_greatest fd_l_leads fd_law) : FnOk P w K mg base (L2.CX P w) 1 a_look_at_part fd_look_at_part ["group", "part"] (spOf ⟨K, cls⟩ T_look_at_part) := by
  refine T.F_look_at_part.okX sc_look_at_part (spOf_len (n := 2) (ar_look_at_part)) (fun cdv A outer s H vs Q E hr h => ⟨t_look_at_part ⟨K, cls⟩ (fun c d _ H => E c d H), ?_, spOf_run (N := ["group", "part", "inside", "last", "thing", "one", "other"]) (t := fun E => t_look_at_part ⟨K, cls⟩ (fun c d _ H => E c d H)) (fun ss ok er hT => by rw [ar_look_at_part ss ok er hT]; decide) (fun E ss ok er hT => w_look_at_part ⟨K, cls⟩ _ ss ok er hT) vs H Q E h⟩)
  unfold t_look_at_part
  exact (pss_cons (ps_if (pt_cmpR (go_eq (hu64 hr)) (pe_callB gc_len (by rfl) T.b_len (by decide +kernel) (pa_cons (pv 1) pa_nil)) pe_int (nomark _))
  (pss_one (ps_raise (by rfl) (takes_of rfl rfl rfl rfl) (pmk_own PySem.F.excBase_ValueError T.x_NoPart T.g_NoPart T.k_NoPart (raises_own T.r_NoPart T.rt_NoPart) (by rfl))))
  pss_nil)
  (pss_cons (ps_set (i := 2) sc_look_at_part.nd (by rfl) (Or.inl rfl) pe_dnewK)
  (pss_cons (ps_set (i := 3) sc_look_at_part.nd (by rfl) (Or.inl rfl) (pe_un go_neg pe_int))
  (pss_cons (ps_for (passes_of rfl) (by rfl) (pi_list (pv 1)) (pg_name (i := 4) sc_look_at_part.nd (by rfl) (Or.inl rfl))
  (pss_cons (ps_if (PW.pt (pw_or (pt_cmpR go_le (pv 4) (pv 3) (nomark _)) (pw_or1 (pt_cmpR go_ge (pv 4) (pe_fld (pv 0) (by rfl)) (nomark _)))))
  (pss_one (ps_raise (by rfl) (takes_of rfl rfl rfl rfl) (pmk_own PySem.F.excBase_ValueError T.x_NoPart T.g_NoPart T.k_NoPart (raises_own T.r_NoPart T.rt_NoPart) (by rfl))))
  pss_nil)
  (pss_cons (ps_asg pe_bl (pg_sub (pv 2) (pv 4) (gs_set (hu1 hr))))
  (pss_one (ps_set (i := 3) sc_look_at_part.nd (by rfl) (Or.inl rfl) (pv 4))))))
  (pss_one (ps_for (passes_of rfl) (by rfl) (pi_list (pv 1)) (pg_name (i := 5) sc_look_at_part.nd (by rfl) (Or.inl rfl))
  (pss_one (ps_for (passes_of rfl) (by rfl) (pi_list (pv 1)) (pg_name (i := 6) sc_look_at_part.nd (by rfl) (Or.inl rfl))
  (pss_one (ps_if (pt_cmpR (go_notIn (hu1 hr)) (pe_ix (go_ix (hu1 hr)) (pe_ix (go_ix (hu1 hr)) (pe_fld (pv 0) (by rfl)) (pv 5) (fun _ _ => rfl)) (pv 6) (fun _ _ => rfl)) (pv 2) (by rfl))
  (pss_one (ps_raise (by rfl) (takes_of rfl rfl rfl rfl) (pmk_own PySem.F.excBase_ValueError T.x_NoPart T.g_NoPart T.k_NoPart (raises_own T.r_NoPart T.rt_NoPart) (by rfl))))
  pss_nil))))))))))
theorem ok_closure (T : Tx K mg cls a_Stranger_init a_NoBack_init a_NotTogether_init a_Group_init a_look_at_size a_look_for_strangers a_unit_of a_back_of a_look_at_threes a_group_of a_product a_look_at_part a_closure a_mixed a_goes_with a_steps_into a_heart a_l_cell a_l_sizes a_l_kind a_l_unit a_l_turned a_l_sum a_l_rows a_l_names a_l_group a_l_backs a_l_calm a_l_steady a_l_greatest a_l_leads a_law fd_Stranger_init fd_NoBack_init fd_NotTogether_init fd_Group_init fd_look_at_size fd_look_for_strangers fd_unit_of fd_back_of fd_look_at_threes fd_group_of fd_product fd_look_at_part fd_closure fd_mixed fd_goes_with fd_steps_into fd_heart fd_l_cell fd_l_sizes fd_l_kind fd_l_unit fd_l_turned fd_l_sum fd_l_rows fd_l_names fd_l_group fd_l_backs fd_l_calm fd_l_steady fd_l_greatest fd_l_leads fd_law) : FnOk P w K mg base (L2.CX P w) 1 a_closure fd_closure ["group", "some"] (spOf ⟨K, cls⟩ T_closure) := by
  refine T.F_closure.okX sc_closure (spOf_len (n := 2) (ar_closure)) (fun cdv A outer s H vs Q E hr h => ⟨t_closure ⟨K, cls⟩ (fun c d _ H => E c d H), ?_, spOf_run (N := ["group", "some", "words", "row", "at", "thing", "found", "part"]) (t := fun E => t_closure ⟨K, cls⟩ (fun c d _ H => E c d H)) (fun ss ok er hT => by rw [ar_closure ss ok er hT]; decide) (fun E ss ok er hT => w_closure ⟨K, cls⟩ _ ss ok er hT) vs H Q E h⟩)
  unfold t_closure
  exact (pss_cons (ps_set (i := 2) sc_closure.nd (by rfl) (Or.inr rfl) (pe_disp (pps_cons (pe_fld (pv 0) (by rfl)) (pe_lst pa_nil) pps_nil) (by rfl) (by rfl) (fun z => by cases z) (by decide)))
  (pss_cons (ps_set (i := 3) sc_closure.nd (by rfl) (Or.inl rfl) (pe_lst (pa_cons (pe_fld (pv 0) (by rfl)) pa_nil)))
  (pss_cons (ps_set (i := 4) sc_closure.nd (by rfl) (Or.inl rfl) pe_int)
  (pss_cons (ps_while (passes_of rfl) (pt_cmpR go_lt (pv 4) (pe_callB gc_len (by rfl) T.b_len (by decide +kernel) (pa_cons (pv 3) pa_nil)) (nomark _))
  (pss_cons (ps_for (passes_of rfl) (by rfl) (pi_list (pv 1)) (pg_name (i := 5) sc_closure.nd (by rfl) (Or.inl rfl))
  (pss_cons (ps_set (i := 6) sc_closure.nd (by rfl) (Or.inl rfl) (pe_ix (go_ix (hu1 hr)) (pe_ix (go_ix (hu1 hr)) (pe_fld (pv 0) (by rfl)) (pe_ix (go_ix (hu1 hr)) (pv 3) (pv 4) (fun _ _ => rfl)) (fun _ _ => rfl)) (pv 5) (fun _ _ => rfl)))
  (pss_one (ps_if (pt_cmpR (go_notIn (hu1 hr)) (pv 6) (pv 2) (by rfl))
  (pss_cons (ps_asg (pe_op go_add (pe_ix (go_ix (hu1 hr)) (pv 2) (pe_ix (go_ix (hu1 hr)) (pv 3) (pv 4) (fun _ _ => rfl)) (fun _ _ => rfl)) (pe_lst (pa_cons (pv 5) pa_nil))) (pg_sub (pv 2) (pv 6) (gs_set (hu1 hr))))
  (pss_one (ps_expr (pe_bm PySem.F.plainAttrs_list PySem.F.slot_list_append PySem.F.type_list_append mt_append (pv 3) (pa_cons (pv 6) pa_nil)))))
  pss_nil))))
  (pss_one (ps_aug (i := 4) sc_closure.nd (by rfl) (Or.inl rfl) pe_int ip_add))))
  (pss_cons (ps_set (i := 7) sc_closure.nd (by rfl) (Or.inl rfl) (pe_callB gc_sorted (by rfl) T.b_sorted (by decide +kernel) (pa_cons (pv 3) pa_nil)))
  (pss_one (ps_ret (pe_tup (pa_cons (pv 7) (pa_cons (pe_lc (by rfl) sc_closure.nd (pi_list (pv 7)) (blkOk_by (own := [("thing", 5)]) (by (show blkC ["group", "some", "words", "row", "at", "thing", "found", "part"] (defScope s_closure) _ _ = true); decide +kernel)) (fun _ _ _ _ _ => (pg_name (i := 5) sc_closure.nd (by rfl) (Or.inl rfl))) (fun _ _ _ _ _ => pts_nil) (fun _ _ _ _ _ => (pe_ix (go_ix (hu1 hr)) (pv 2) (pv 5) (fun _ _ => rfl)))) pa_nil))))))))))
theorem ok_mixed (T : Tx K mg cls a_Stranger_init a_NoBack_init a_NotTogether_init a_Group_init a_look_at_size a_look_for_strangers a_unit_of a_back_of a_look_at_threes a_group_of a_product a_look_at_part a_closure a_mixed a_goes_with a_steps_into a_heart a_l_cell a_l_sizes a_l_kind a_l_unit a_l_turned a_l_sum a_l_rows a_l_names a_l_group a_l_backs a_l_calm a_l_steady a_l_greatest a_l_leads a_law fd_Stranger_init fd_NoBack_init fd_NotTogether_init fd_Group_init fd_look_at_size fd_look_for_strangers fd_unit_of fd_back_of fd_look_at_threes fd_group_of fd_product fd_look_at_part fd_closure fd_mixed fd_goes_with fd_steps_into fd_heart fd_l_cell fd_l_sizes fd_l_kind fd_l_unit fd_l_turned fd_l_sum fd_l_rows fd_l_names fd_l_group fd_l_backs fd_l_calm fd_l_steady fd_l_greatest fd_l_leads fd_law) (G_product : FnOk P w K mg base (L2.CX P w) 1 a_product fd_product ["group", "things"] (spOf ⟨K, cls⟩ T_product)) (G_look_at_part : FnOk P w K mg base (L2.CX P w) 1 a_look_at_part fd_look_at_part ["group", "part"] (spOf ⟨K, cls⟩ T_look_at_part)) (G_closure : FnOk P w K mg base (L2.CX P w) 1 a_closure fd_closure ["group", "some"] (spOf ⟨K, cls⟩ T_closure)) : FnOk P w K mg base (L2.CX P w) 2 a_mixed fd_mixed ["group", "part"] (spOf ⟨K, cls⟩ T_mixed) := by
  refine T.F_mixed.okX sc_mixed (spOf_len (n := 2) (ar_mixed)) (fun cdv A outer s H vs Q E hr h => ⟨t_mixed ⟨K, cls⟩ (fun c d _ H => E c d H), ?_, spOf_run (N := ["group", "part", "some", "one", "other", "found"]) (t := fun E => t_mixed ⟨K, cls⟩ (fun c d _ H => E c d H)) (fun ss ok er hT => by rw [ar_mixed ss ok er hT]; decide) (fun E ss ok er hT => w_mixed ⟨K, cls⟩ _ ss ok er hT) vs H Q E h⟩)
  unfold t_mixed
  exact (pss_cons (ps_expr (pe_callSD G_look_at_part (hr.mono (by decide)) (by rfl) T.g_look_at_part T.k_look_at_part T.b_look_at_part .nil (fun σ => passAt (takes_of rfl rfl rfl rfl) σ) (pa_cons (pv 0) (pa_cons (pv 1) pa_nil))))
  (pss_cons (ps_set (i := 2) sc_mixed.nd (by rfl) (Or.inl rfl) (pe_lst pa_nil))
  (pss_cons (ps_for (passes_of rfl) (by rfl) (pi_list (pv 1)) (pg_name (i := 3) sc_mixed.nd (by rfl) (Or.inl rfl))
  (pss_one (ps_for (passes_of rfl) (by rfl) (pi_list (pv 1)) (pg_name (i := 4) sc_mixed.nd (by rfl) (Or.inl rfl))
  (pss_cons (ps_set (i := 5) sc_mixed.nd (by rfl) (Or.inl rfl) (pe_callSD G_product (hr.mono (by decide)) (by rfl) T.g_product T.k_product T.b_product .nil (fun σ => passAt (takes_of rfl rfl rfl rfl) σ) (pa_cons (pv 0) (pa_cons (pe_lst (pa_cons (pv 3) (pa_cons (pv 4) (pa_cons (pe_ix (go_ix (hu1 hr)) (pe_fld (pv 0) (by rfl)) (pv 3) (fun _ _ => rfl)) (pa_cons (pe_ix (go_ix (hu1 hr)) (pe_fld (pv 0) (by rfl)) (pv 4) (fun _ _ => rfl)) pa_nil))))) pa_nil))))
  (pss_one (ps_if (pt_cmpR (go_notIn (hu1 hr)) (pv 5) (pv 2) (by rfl))
  (pss_one (ps_expr (pe_bm PySem.F.plainAttrs_list PySem.F.slot_list_append PySem.F.type_list_append mt_append (pv 2) (pa_cons (pv 5) pa_nil))))
  pss_nil))))))
  (pss_one (ps_ret (pe_ix (go_ix (hu1 hr)) (pe_callSD G_closure (hr.mono (by decide)) (by rfl) T.g_closure T.k_closure T.b_closure .nil (fun σ => passAt (takes_of rfl rfl rfl rfl) σ) (pa_cons (pv 0) (pa_cons (pv 2) pa_nil))) pe_int (fun _ _ => rfl)))))))
theorem ok_goes_with (T : Tx K mg cls a_Stranger_init a_NoBack_init a_NotTogether_init a_Group_init a_look_at_size a_look_for_strangers a_unit_of a_back_of a_look_at_threes a_group_of a_product a_look_at_part a_closure a_mixed a_goes_with a_steps_into a_heart a_l_cell a_l_sizes a_l_kind a_l_unit a_l_turned a_l_sum a_l_rows a_l_names a_l_group a_l_backs a_l_calm a_l_steady a_l_greatest a_l_leads a_law fd_Stranger_init fd_NoBack_init fd_NotTogether_init fd_Group_init fd_look_at_size fd_look_for_strangers fd_unit_of fd_back_of fd_look_at_threes fd_group_of fd_product fd_look_at_part fd_closure fd_mixed fd_goes_with fd_steps_into fd_heart fd_l_cell fd_l_sizes fd_l_kind fd_l_unit fd_l_turned fd_l_sum fd_l_rows fd_l_names fd_l_group fd_l_backs fd_l_calm fd_l_steady fd_l_greatest fd_l_leads fd_law) : FnOk P w K mg base (L2.CX P w) 1 a_goes_with fd_goes_with ["group", "thing", "part"] (spOf ⟨K, cls⟩ T_goes_with) := by
  refine T.F_goes_with.okX sc_goes_with (spOf_len (n := 3) (ar_goes_with)) (fun cdv A outer s H vs Q E hr h => ⟨t_goes_with ⟨K, cls⟩ (fun c d _ H => E c d H), ?_, spOf_run (N := ["group", "thing", "part", "h"]) (t := fun E => t_goes_with ⟨K, cls⟩ (fun c d _ H => E c d H)) (fun ss ok er hT => by rw [ar_goes_with ss ok er hT]; decide) (fun E ss ok er hT => w_goes_with ⟨K, cls⟩ _ ss ok er hT) vs H Q E h⟩)
  unfold t_goes_with
  exact (pss_one (ps_ret (pe_callB (cr_all (by rfl)) (by rfl) T.b_all (by decide +kernel) (pa_cons (pe_lc (by rfl) sc_goes_with.nd (pi_list (pv 2)) (blkOk_by (own := [("h", 3)]) (by (show blkC ["group", "thing", "part", "h"] (defScope s_goes_with) _ _ = true); decide +kernel)) (fun _ _ _ _ _ => (pg_name (i := 3) sc_goes_with.nd (by rfl) (Or.inl rfl))) (fun _ _ _ _ _ => pts_nil) (fun _ _ _ _ _ => (pe_cmpR (go_eq (hu64 hr)) (pe_ix (go_ix (hu1 hr)) (pe_ix (go_ix (hu1 hr)) (pe_fld (pv 0) (by rfl)) (pv 1) (fun _ _ => rfl)) (pv 3) (fun _ _ => rfl)) (pe_ix (go_ix (hu1 hr)) (pe_ix (go_ix (hu1 hr)) (pe_fld (pv 0) (by rfl)) (pv 3) (fun _ _ => rfl)) (pv 1) (fun _ _ => rfl)) (nomark _)))) pa_nil))))
theorem ok_steps_into (T : Tx K mg cls a_Stranger_init a_NoBack_init a_NotTogether_init a_Group_init a_look_at_size a_look_for_strangers a_unit_of a_back_of a_look_at_threes a_group_of a_product a_look_at_part a_closure a_mixed a_goes_with a_steps_into a_heart a_l_cell a_l_sizes a_l_kind a_l_unit a_l_turned a_l_sum a_l_rows a_l_names a_l_group a_l_backs a_l_calm a_l_steady a_l_greatest a_l_leads a_law fd_Stranger_init fd_NoBack_init fd_NotTogether_init fd_Group_init fd_look_at_size fd_look_for_strangers fd_unit_of fd_back_of fd_look_at_threes fd_group_of fd_product fd_look_at_part fd_closure fd_mixed fd_goes_with fd_steps_into fd_heart fd_l_cell fd_l_sizes fd_l_kind fd_l_unit fd_l_turned fd_l_sum fd_l_rows fd_l_names fd_l_group fd_l_backs fd_l_calm fd_l_steady fd_l_greatest fd_l_leads fd_law) : FnOk P w K mg base (L2.CX P w) 1 a_steps_into fd_steps_into ["group", "part", "thing"] (spOf ⟨K, cls⟩ T_steps_into) := by
  refine T.F_steps_into.okX sc_steps_into (spOf_len (n := 3) (ar_steps_into)) (fun cdv A outer s H vs Q E hr h => ⟨t_steps_into ⟨K, cls⟩ (fun c d _ H => E c d H), ?_, spOf_run (N := ["group", "part", "thing", "many", "found"]) (t := fun E => t_steps_into ⟨K, cls⟩ (fun c d _ H => E c d H)) (fun ss ok er hT => by rw [ar_steps_into ss ok er hT]; decide) (fun E ss ok er hT => w_steps_into ⟨K, cls⟩ _ ss ok er hT) vs H Q E h⟩)
  unfold t_steps_into
  exact (pss_cons (ps_set (i := 3) sc_steps_into.nd (by rfl) (Or.inl rfl) pe_int)
  (pss_cons (ps_set (i := 4) sc_steps_into.nd (by rfl) (Or.inl rfl) (pv 2))
  (pss_cons (ps_while (passes_of rfl) (pt_cmpR (go_notIn (hu1 hr)) (pv 4) (pv 1) (by rfl))
  (pss_cons (ps_set (i := 4) sc_steps_into.nd (by rfl) (Or.inl rfl) (pe_ix (go_ix (hu1 hr)) (pe_ix (go_ix (hu1 hr)) (pe_fld (pv 0) (by rfl)) (pv 4) (fun _ _ => rfl)) (pv 2) (fun _ _ => rfl)))
  (pss_one (ps_aug (i := 3) sc_steps_into.nd (by rfl) (Or.inl rfl) pe_int ip_add))))
  (pss_one (ps_ret (pv 3))))))
theorem ok_heart (T : Tx K mg cls a_Stranger_init a_NoBack_init a_NotTogether_init a_Group_init a_look_at_size a_look_for_strangers a_unit_of a_back_of a_look_at_threes a_group_of a_product a_look_at_part a_closure a_mixed a_goes_with a_steps_into a_heart a_l_cell a_l_sizes a_l_kind a_l_unit a_l_turned a_l_sum a_l_rows a_l_names a_l_group a_l_backs a_l_calm a_l_steady a_l_greatest a_l_leads a_law fd_Stranger_init fd_NoBack_init fd_NotTogether_init fd_Group_init fd_look_at_size fd_look_for_strangers fd_unit_of fd_back_of fd_look_at_threes fd_group_of fd_product fd_look_at_part fd_closure fd_mixed fd_goes_with fd_steps_into fd_heart fd_l_cell fd_l_sizes fd_l_kind fd_l_unit fd_l_turned fd_l_sum fd_l_rows fd_l_names fd_l_group fd_l_backs fd_l_calm fd_l_steady fd_l_greatest fd_l_leads fd_law) (G_closure : FnOk P w K mg base (L2.CX P w) 1 a_closure fd_closure ["group", "some"] (spOf ⟨K, cls⟩ T_closure)) (G_mixed : FnOk P w K mg base (L2.CX P w) 2 a_mixed fd_mixed ["group", "part"] (spOf ⟨K, cls⟩ T_mixed)) (G_goes_with : FnOk P w K mg base (L2.CX P w) 1 a_goes_with fd_goes_with ["group", "thing", "part"] (spOf ⟨K, cls⟩ T_goes_with)) (G_steps_into : FnOk P w K mg base (L2.CX P w) 1 a_steps_into fd_steps_into ["group", "part", "thing"] (spOf ⟨K, cls⟩ T_steps_into)) : FnOk P w K mg base (L2.CX P w) 3 a_heart fd_heart ["group"] (spOf ⟨K, cls⟩ T_heart) := by
  refine T.F_heart.okX sc_heart (spOf_len (n := 1) (ar_heart)) (fun cdv A outer s H vs Q E hr h => ⟨t_heart ⟨K, cls⟩ (fun c d _ H => E c d H), ?_, spOf_run (N := ["group", "part", "thing", "leaders"]) (t := fun E => t_heart ⟨K, cls⟩ (fun c d _ H => E c d H)) (fun ss ok er hT => by rw [ar_heart ss ok er hT]; decide) (fun E ss ok er hT => w_heart ⟨K, cls⟩ _ ss ok er hT) vs H Q E h⟩)
  unfold t_heart
  exact (pss_cons (ps_set (i := 1) sc_heart.nd (by rfl) (Or.inl rfl) (pe_callSD G_mixed (hr.mono (by decide)) (by rfl) T.g_mixed T.k_mixed T.b_mixed .nil (fun σ => passAt (takes_of rfl rfl rfl rfl) σ) (pa_cons (pv 0) (pa_cons (pe_listRg (by rfl) (by rfl) T.b_list (prg_1 (by rfl) T.b_range (pe_fld (pv 0) (by rfl)))) pa_nil))))
  (pss_cons (ps_for (passes_of rfl) (by rfl) (pi_range1 (by rfl) T.b_range (pa_cons (pe_fld (pv 0) (by rfl)) pa_nil)) (pg_name (i := 2) sc_heart.nd (by rfl) (Or.inl rfl))
  (pss_one (ps_if (PW.pt (pw_and (pt_cmpR (go_notIn (hu1 hr)) (pv 2) (pv 1) (by rfl)) (pw_and1 (pt_val (pe_callSD G_goes_with (hr.mono (by decide)) (by rfl) T.g_goes_with T.k_goes_with T.b_goes_with .nil (fun σ => passAt (takes_of rfl rfl rfl rfl) σ) (pa_cons (pv 0) (pa_cons (pv 2) (pa_cons (pv 1) pa_nil))))))))
  (pss_one (ps_set (i := 1) sc_heart.nd (by rfl) (Or.inl rfl) (pe_ix (go_ix (hu1 hr)) (pe_callSD G_closure (hr.mono (by decide)) (by rfl) T.g_closure T.k_closure T.b_closure .nil (fun σ => passAt (takes_of rfl rfl rfl rfl) σ) (pa_cons (pv 0) (pa_cons (pe_op go_add (pv 1) (pe_lst (pa_cons (pv 2) pa_nil))) pa_nil))) pe_int (fun _ _ => rfl))))
  pss_nil)))
  (pss_cons (ps_set (i := 3) sc_heart.nd (by rfl) (Or.inl rfl) (pe_lst pa_nil))
  (pss_cons (ps_for (passes_of rfl) (by rfl) (pi_range1 (by rfl) T.b_range (pa_cons (pe_fld (pv 0) (by rfl)) pa_nil)) (pg_name (i := 2) sc_heart.nd (by rfl) (Or.inl rfl))
  (pss_one (ps_if (pt_cmpR (go_eq (hu64 hr)) (pe_op go_mul (pe_callSD G_steps_into (hr.mono (by decide)) (by rfl) T.g_steps_into T.k_steps_into T.b_steps_into .nil (fun σ => passAt (takes_of rfl rfl rfl rfl) σ) (pa_cons (pv 0) (pa_cons (pv 1) (pa_cons (pv 2) pa_nil)))) (pe_callB gc_len (by rfl) T.b_len (by decide +kernel) (pa_cons (pv 1) pa_nil))) (pe_fld (pv 0) (by rfl)) (nomark _))
  (pss_one (ps_expr (pe_bm PySem.F.plainAttrs_list PySem.F.slot_list_append PySem.F.type_list_append mt_append (pv 3) (pa_cons (pv 2) pa_nil))))
  pss_nil)))
  (pss_one (ps_ret (pe_tup (pa_cons (pv 1) (pa_cons (pe_ix (go_ix (hu1 hr)) (pv 3) pe_int (fun _ _ => rfl)) pa_nil)))))))))
theorem ok_l_cell (T : Tx K mg cls a_Stranger_init a_NoBack_init a_NotTogether_init a_Group_init a_look_at_size a_look_for_strangers a_unit_of a_back_of a_look_at_threes a_group_of a_product a_look_at_part a_closure a_mixed a_goes_with a_steps_into a_heart a_l_cell a_l_sizes a_l_kind a_l_unit a_l_turned a_l_sum a_l_rows a_l_names a_l_group a_l_backs a_l_calm a_l_steady a_l_greatest a_l_leads a_law fd_Stranger_init fd_NoBack_init fd_NotTogether_init fd_Group_init fd_look_at_size fd_look_for_strangers fd_unit_of fd_back_of fd_look_at_threes fd_group_of fd_product fd_look_at_part fd_closure fd_mixed fd_goes_with fd_steps_into fd_heart fd_l_cell fd_l_sizes fd_l_kind fd_l_unit fd_l_turned fd_l_sum fd_l_rows fd_l_names fd_l_group fd_l_backs fd_l_calm fd_l_steady fd_l_greatest fd_l_leads fd_law) : FnOk P w K mg base (L2.CX P w) 1 a_l_cell fd_l_cell ["_law_script", "_law_k"] (spOf ⟨K, cls⟩ T_l_cell) := by
  refine T.F_l_cell.okX sc_l_cell (spOf_len (n := 2) (ar_l_cell)) (fun cdv A outer s H vs Q E hr h => ⟨t_l_cell ⟨K, cls⟩ (fun c d _ H => E c d H), ?_, spOf_run (N := ["_law_script", "_law_k"]) (t := fun E => t_l_cell ⟨K, cls⟩ (fun c d _ H => E c d H)) (fun ss ok er hT => by rw [ar_l_cell ss ok er hT]; decide) (fun E ss ok er hT => w_l_cell ⟨K, cls⟩ _ ss ok er hT) vs H Q E h⟩)
  unfold t_l_cell
  exact (pss_cons (ps_if (pt_cmpR go_lt (pv 1) (pe_callB gc_len (by rfl) T.b_len (by decide +kernel) (pa_cons (pv 0) pa_nil)) (nomark _))
  (pss_one (ps_ret (pe_op go_mod (pe_ix (go_ix (hu1 hr)) (pv 0) (pv 1) (fun _ _ => rfl)) pe_int)))
  pss_nil)
  (pss_one (ps_ret pe_int)))
theorem ok_l_sizes (T : Tx K mg cls a_Stranger_init a_NoBack_init a_NotTogether_init a_Group_init a_look_at_size a_look_for_strangers a_unit_of a_back_of a_look_at_threes a_group_of a_product a_look_at_part a_closure a_mixed a_goes_with a_steps_into a_heart a_l_cell a_l_sizes a_l_kind a_l_unit a_l_turned a_l_sum a_l_rows a_l_names a_l_group a_l_backs a_l_calm a_l_steady a_l_greatest a_l_leads a_law fd_Stranger_init fd_NoBack_init fd_NotTogether_init fd_Group_init fd_look_at_size fd_look_for_strangers fd_unit_of fd_back_of fd_look_at_threes fd_group_of fd_product fd_look_at_part fd_closure fd_mixed fd_goes_with fd_steps_into fd_heart fd_l_cell fd_l_sizes fd_l_kind fd_l_unit fd_l_turned fd_l_sum fd_l_rows fd_l_names fd_l_group fd_l_backs fd_l_calm fd_l_steady fd_l_greatest fd_l_leads fd_law) : FnOk P w K mg base (L2.CX P w) 1 a_l_sizes fd_l_sizes ["_law_one", "_law_two"] (spOf ⟨K, cls⟩ T_l_sizes) := by
  refine T.F_l_sizes.okX sc_l_sizes (spOf_len (n := 2) (ar_l_sizes)) (fun cdv A outer s H vs Q E hr h => ⟨t_l_sizes ⟨K, cls⟩ (fun c d _ H => E c d H), ?_, spOf_run (N := ["_law_one", "_law_two", "_law_number", "_law_some", "_law_top", "_law_steps", "_law_room", "_law_first", "_law_second", "_law_third"]) (t := fun E => t_l_sizes ⟨K, cls⟩ (fun c d _ H => E c d H)) (fun ss ok er hT => by rw [ar_l_sizes ss ok er hT]; decide) (fun E ss ok er hT => w_l_sizes ⟨K, cls⟩ _ ss ok er hT) vs H Q E h⟩)
  unfold t_l_sizes
  exact (pss_cons (ps_set (i := 2) sc_l_sizes.nd (by rfl) (Or.inl rfl) (pe_op go_div (pv 0) pe_int))
  (pss_cons (ps_if (pt_cmpR (go_eq (hu64 hr)) (pe_op go_mod (pv 0) pe_int) pe_int (nomark _))
  (pss_cons (ps_set (i := 3) sc_l_sizes.nd (by rfl) (Or.inl rfl) (pe_lst (pa_cons (pe_lst (pa_cons pe_int (pa_cons pe_int (pa_cons pe_int (pa_cons pe_int pa_nil))))) (pa_cons (pe_lst (pa_cons pe_int (pa_cons pe_int (pa_cons pe_int (pa_cons pe_int pa_nil))))) (pa_cons (pe_lst (pa_cons pe_int (pa_cons pe_int (pa_cons pe_int (pa_cons pe_int pa_nil))))) (pa_cons (pe_lst (pa_cons pe_int (pa_cons pe_int (pa_cons pe_int (pa_cons pe_int pa_nil))))) (pa_cons (pe_lst (pa_cons pe_int (pa_cons pe_int (pa_cons pe_int (pa_cons pe_int pa_nil))))) (pa_cons (pe_lst (pa_cons pe_int (pa_cons pe_int (pa_cons pe_int (pa_cons pe_int pa_nil))))) pa_nil))))))))
  (pss_cons (ps_set (i := 3) sc_l_sizes.nd (by rfl) (Or.inl rfl) (pe_op go_add (pv 3) (pe_lst (pa_cons (pe_lst (pa_cons pe_int (pa_cons pe_int (pa_cons pe_int (pa_cons pe_int pa_nil))))) (pa_cons (pe_lst (pa_cons pe_int (pa_cons pe_int (pa_cons pe_int (pa_cons pe_int pa_nil))))) (pa_cons (pe_lst (pa_cons pe_int (pa_cons pe_int (pa_cons pe_int (pa_cons pe_int pa_nil))))) (pa_cons (pe_lst (pa_cons pe_int (pa_cons pe_int (pa_cons pe_int (pa_cons pe_int pa_nil))))) (pa_cons (pe_lst (pa_cons pe_int (pa_cons pe_int (pa_cons pe_int (pa_cons pe_int pa_nil))))) (pa_cons (pe_lst (pa_cons pe_int (pa_cons pe_int (pa_cons pe_int (pa_cons pe_int pa_nil))))) pa_nil)))))))))
  (pss_one (ps_ret (pe_ix (go_ix (hu1 hr)) (pv 3) (pe_op go_mod (pv 2) pe_int) (fun _ _ => rfl))))))
  pss_nil)
  (pss_cons (ps_set (i := 4) sc_l_sizes.nd (by rfl) (Or.inl rfl) (pe_ix (go_ix (hu1 hr)) (pe_lst (pa_cons pe_int (pa_cons pe_int (pa_cons pe_int (pa_cons pe_int pa_nil))))) (pe_op go_mod (pv 2) pe_int) (fun _ _ => rfl)))
  (pss_cons (ps_set (i := 5) sc_l_sizes.nd (by rfl) (Or.inl rfl) (pe_ix (go_ix (hu1 hr)) (pe_lst (pa_cons pe_int (pa_cons pe_int (pa_cons pe_int (pa_cons pe_int (pa_cons pe_int (pa_cons pe_int pa_nil))))))) (pe_op go_mod (pe_op go_div (pv 2) pe_int) pe_int) (fun _ _ => rfl)))
  (pss_cons (ps_set (i := 6) sc_l_sizes.nd (by rfl) (Or.inl rfl) (pe_op go_div (pv 4) (pv 5)))
  (pss_cons (ps_set (i := 7) sc_l_sizes.nd (by rfl) (Or.inl rfl) (pe_op go_add pe_int (pe_op go_mod (pe_op go_div (pv 2) pe_int) (pv 6))))
  (pss_cons (ps_set (i := 8) sc_l_sizes.nd (by rfl) (Or.inl rfl) (pe_op go_add pe_int (pe_op go_mod (pv 1) (pe_op go_div (pv 6) (pv 7)))))
  (pss_cons (ps_set (i := 9) sc_l_sizes.nd (by rfl) (Or.inl rfl) (pe_op go_add pe_int (pe_op go_mod (pe_op go_div (pv 1) pe_int) (pe_op go_div (pv 6) (pe_op go_mul (pv 7) (pv 8))))))
  (pss_one (ps_ret (pe_lst (pa_cons (pv 7) (pa_cons (pv 8) (pa_cons (pv 9) (pa_cons (pv 5) pa_nil)))))))))))))))
theorem ok_l_kind (T : Tx K mg cls a_Stranger_init a_NoBack_init a_NotTogether_init a_Group_init a_look_at_size a_look_for_strangers a_unit_of a_back_of a_look_at_threes a_group_of a_product a_look_at_part a_closure a_mixed a_goes_with a_steps_into a_heart a_l_cell a_l_sizes a_l_kind a_l_unit a_l_turned a_l_sum a_l_rows a_l_names a_l_group a_l_backs a_l_calm a_l_steady a_l_greatest a_l_leads a_law fd_Stranger_init fd_NoBack_init fd_NotTogether_init fd_Group_init fd_look_at_size fd_look_for_strangers fd_unit_of fd_back_of fd_look_at_threes fd_group_of fd_product fd_look_at_part fd_closure fd_mixed fd_goes_with fd_steps_into fd_heart fd_l_cell fd_l_sizes fd_l_kind fd_l_unit fd_l_turned fd_l_sum fd_l_rows fd_l_names fd_l_group fd_l_backs fd_l_calm fd_l_steady fd_l_greatest fd_l_leads fd_law) : FnOk P w K mg base (L2.CX P w) 1 a_l_kind fd_l_kind ["_law_sizes_here", "_law_number"] (spOf ⟨K, cls⟩ T_l_kind) := by
  refine T.F_l_kind.okX sc_l_kind (spOf_len (n := 2) (ar_l_kind)) (fun cdv A outer s H vs Q E hr h => ⟨t_l_kind ⟨K, cls⟩ (fun c d _ H => E c d H), ?_, spOf_run (N := ["_law_sizes_here", "_law_number", "_law_kinds"]) (t := fun E => t_l_kind ⟨K, cls⟩ (fun c d _ H => E c d H)) (fun ss ok er hT => by rw [ar_l_kind ss ok er hT]; decide) (fun E ss ok er hT => w_l_kind ⟨K, cls⟩ _ ss ok er hT) vs H Q E h⟩)
  unfold t_l_kind
  exact (pss_cons (ps_set (i := 2) sc_l_kind.nd (by rfl) (Or.inl rfl) (pe_lst (pa_cons pe_int pa_nil)))
  (pss_cons (ps_if (PW.pt (pw_and (pt_cmpR (go_eq (hu64 hr)) (pe_ix (go_ix (hu1 hr)) (pv 0) pe_int (fun _ _ => rfl)) (pe_ix (go_ix (hu1 hr)) (pv 0) pe_int (fun _ _ => rfl)) (nomark _)) (pw_and1 (pt_cmpR (go_eq (hu64 hr)) (pe_op go_mod (pe_ix (go_ix (hu1 hr)) (pv 0) pe_int (fun _ _ => rfl)) pe_int) pe_int (nomark _)))))
  (pss_one (ps_expr (pe_bm PySem.F.plainAttrs_list PySem.F.slot_list_append PySem.F.type_list_append mt_append (pv 2) (pa_cons pe_int pa_nil))))
  pss_nil)
  (pss_cons (ps_if (PW.pt (pw_and (pt_cmpR (go_eq (hu64 hr)) (pe_ix (go_ix (hu1 hr)) (pv 0) pe_int (fun _ _ => rfl)) (pe_ix (go_ix (hu1 hr)) (pv 0) pe_int (fun _ _ => rfl)) (nomark _)) (pw_and1 (pt_cmpR (go_eq (hu64 hr)) (pe_op go_mod (pe_ix (go_ix (hu1 hr)) (pv 0) pe_int (fun _ _ => rfl)) pe_int) pe_int (nomark _)))))
  (pss_one (ps_expr (pe_bm PySem.F.plainAttrs_list PySem.F.slot_list_append PySem.F.type_list_append mt_append (pv 2) (pa_cons pe_int pa_nil))))
  pss_nil)
  (pss_cons (ps_if (PW.pt (pw_and (pt_cmpR (go_eq (hu64 hr)) (pe_op go_mod (pe_ix (go_ix (hu1 hr)) (pv 0) pe_int (fun _ _ => rfl)) (pe_ix (go_ix (hu1 hr)) (pv 0) pe_int (fun _ _ => rfl))) pe_int (nomark _)) (pw_and (pt_cmpR go_gt (pe_ix (go_ix (hu1 hr)) (pv 0) pe_int (fun _ _ => rfl)) pe_int (nomark _)) (pw_and1 (pt_cmpR (go_eq (hu64 hr)) (pe_op go_mod (pe_ix (go_ix (hu1 hr)) (pv 0) pe_int (fun _ _ => rfl)) (pe_ix (go_ix (hu1 hr)) (pv 0) pe_int (fun _ _ => rfl))) pe_int (nomark _))))))
  (pss_one (ps_expr (pe_bm PySem.F.plainAttrs_list PySem.F.slot_list_append PySem.F.type_list_append mt_append (pv 2) (pa_cons pe_int pa_nil))))
  pss_nil)
  (pss_cons (ps_if (PW.pt (pw_and (pt_cmpR (go_eq (hu64 hr)) (pe_op go_mod (pe_ix (go_ix (hu1 hr)) (pv 0) pe_int (fun _ _ => rfl)) pe_int) pe_int (nomark _)) (pw_and (pt_cmpR (go_eq (hu64 hr)) (pe_op go_mod (pe_ix (go_ix (hu1 hr)) (pv 0) pe_int (fun _ _ => rfl)) pe_int) pe_int (nomark _)) (pw_and1 (pt_cmpR (go_eq (hu64 hr)) (pe_op go_mod (pe_ix (go_ix (hu1 hr)) (pv 0) pe_int (fun _ _ => rfl)) pe_int) pe_int (nomark _))))))
  (pss_one (ps_expr (pe_bm PySem.F.plainAttrs_list PySem.F.slot_list_append PySem.F.type_list_append mt_append (pv 2) (pa_cons pe_int pa_nil))))
  pss_nil)
  (pss_one (ps_ret (pe_ix (go_ix (hu1 hr)) (pv 2) (pe_op go_mod (pv 1) (pe_callB gc_len (by rfl) T.b_len (by decide +kernel) (pa_cons (pv 2) pa_nil))) (fun _ _ => rfl)))))))))
theorem ok_l_unit (T : Tx K mg cls a_Stranger_init a_NoBack_init a_NotTogether_init a_Group_init a_look_at_size a_look_for_strangers a_unit_of a_back_of a_look_at_threes a_group_of a_product a_look_at_part a_closure a_mixed a_goes_with a_steps_into a_heart a_l_cell a_l_sizes a_l_kind a_l_unit a_l_turned a_l_sum a_l_rows a_l_names a_l_group a_l_backs a_l_calm a_l_steady a_l_greatest a_l_leads a_law fd_Stranger_init fd_NoBack_init fd_NotTogether_init fd_Group_init fd_look_at_size fd_look_for_strangers fd_unit_of fd_back_of fd_look_at_threes fd_group_of fd_product fd_look_at_part fd_closure fd_mixed fd_goes_with fd_steps_into fd_heart fd_l_cell fd_l_sizes fd_l_kind fd_l_unit fd_l_turned fd_l_sum fd_l_rows fd_l_names fd_l_group fd_l_backs fd_l_calm fd_l_steady fd_l_greatest fd_l_leads fd_law) : FnOk P w K mg base (L2.CX P w) 1 a_l_unit fd_l_unit ["_law_many", "_law_steps", "_law_number"] (spOf ⟨K, cls⟩ T_l_unit) := by
  refine T.F_l_unit.okX sc_l_unit (spOf_len (n := 3) (ar_l_unit)) (fun cdv A outer s H vs Q E hr h => ⟨t_l_unit ⟨K, cls⟩ (fun c d _ H => E c d H), ?_, spOf_run (N := ["_law_many", "_law_steps", "_law_number", "_law_units", "_law_u", "_law_found", "_law_k"]) (t := fun E => t_l_unit ⟨K, cls⟩ (fun c d _ H => E c d H)) (fun ss ok er hT => by rw [ar_l_unit ss ok er hT]; decide) (fun E ss ok er hT => w_l_unit ⟨K, cls⟩ _ ss ok er hT) vs H Q E h⟩)
  unfold t_l_unit
  exact (pss_cons (ps_set (i := 3) sc_l_unit.nd (by rfl) (Or.inl rfl) (pe_lst pa_nil))
  (pss_cons (ps_for (passes_of rfl) (by rfl) (pi_range1 (by rfl) T.b_range (pa_cons (pv 0) pa_nil)) (pg_name (i := 4) sc_l_unit.nd (by rfl) (Or.inl rfl))
  (pss_cons (ps_set (i := 5) sc_l_unit.nd (by rfl) (Or.inl rfl) pe_int)
  (pss_cons (ps_for (passes_of rfl) (by rfl) (pi_range1 (by rfl) T.b_range (pa_cons (pv 1) pa_nil)) (pg_name (i := 6) sc_l_unit.nd (by rfl) (Or.inl rfl))
  (pss_one (ps_set (i := 5) sc_l_unit.nd (by rfl) (Or.inl rfl) (pe_op go_mod (pe_op go_mul (pv 5) (pv 4)) (pv 0)))))
  (pss_one (ps_if (pt_cmpR (go_eq (hu64 hr)) (pv 5) (pe_op go_mod pe_int (pv 0)) (nomark _))
  (pss_one (ps_expr (pe_bm PySem.F.plainAttrs_list PySem.F.slot_list_append PySem.F.type_list_append mt_append (pv 3) (pa_cons (pv 4) pa_nil))))
  pss_nil)))))
  (pss_cons (ps_if (PW.pt (pw_and (pt_cmpR go_gt (pe_op go_mul (pv 0) (pv 1)) pe_int (nomark _)) (pw_and1 (pt_cmpR go_gt (pe_callB gc_len (by rfl) T.b_len (by decide +kernel) (pa_cons (pv 3) pa_nil)) pe_int (nomark _)))))
  (pss_one (ps_set (i := 3) sc_l_unit.nd (by rfl) (Or.inl rfl) (pe_slice sl_list (pv 3) (po_some pe_int) po_none)))
  pss_nil)
  (pss_one (ps_ret (pe_ix (go_ix (hu1 hr)) (pv 3) (pe_op go_mod (pv 2) (pe_callB gc_len (by rfl) T.b_len (by decide +kernel) (pa_cons (pv 3) pa_nil))) (fun _ _ => rfl)))))))
theorem ok_l_turned (T : Tx K mg cls a_Stranger_init a_NoBack_init a_NotTogether_init a_Group_init a_look_at_size a_look_for_strangers a_unit_of a_back_of a_look_at_threes a_group_of a_product a_look_at_part a_closure a_mixed a_goes_with a_steps_into a_heart a_l_cell a_l_sizes a_l_kind a_l_unit a_l_turned a_l_sum a_l_rows a_l_names a_l_group a_l_backs a_l_calm a_l_steady a_l_greatest a_l_leads a_law fd_Stranger_init fd_NoBack_init fd_NotTogether_init fd_Group_init fd_look_at_size fd_look_for_strangers fd_unit_of fd_back_of fd_look_at_threes fd_group_of fd_product fd_look_at_part fd_closure fd_mixed fd_goes_with fd_steps_into fd_heart fd_l_cell fd_l_sizes fd_l_kind fd_l_unit fd_l_turned fd_l_sum fd_l_rows fd_l_names fd_l_group fd_l_backs fd_l_calm fd_l_steady fd_l_greatest fd_l_leads fd_law) : FnOk P w K mg base (L2.CX P w) 1 a_l_turned fd_l_turned ["_law_place", "_law_sizes_here", "_law_kind_here", "_law_units"] (spOf ⟨K, cls⟩ T_l_turned) := by
  refine T.F_l_turned.okX sc_l_turned (spOf_len (n := 4) (ar_l_turned)) (fun cdv A outer s H vs Q E hr h => ⟨t_l_turned ⟨K, cls⟩ (fun c d _ H => E c d H), ?_, spOf_run (N := ["_law_place", "_law_sizes_here", "_law_kind_here", "_law_units", "_law_x", "_law_y", "_law_w"]) (t := fun E => t_l_turned ⟨K, cls⟩ (fun c d _ H => E c d H)) (fun ss ok er hT => by rw [ar_l_turned ss ok er hT]; decide) (fun E ss ok er hT => w_l_turned ⟨K, cls⟩ _ ss ok er hT) vs H Q E h⟩)
  unfold t_l_turned
  exact (pss_cons (ps_set (i := 4) sc_l_turned.nd (by rfl) (Or.inl rfl) (pe_op go_mod (pv 0) (pe_ix (go_ix (hu1 hr)) (pv 1) pe_int (fun _ _ => rfl))))
  (pss_cons (ps_set (i := 5) sc_l_turned.nd (by rfl) (Or.inl rfl) (pe_op go_mod (pe_op go_div (pv 0) (pe_ix (go_ix (hu1 hr)) (pv 1) pe_int (fun _ _ => rfl))) (pe_ix (go_ix (hu1 hr)) (pv 1) pe_int (fun _ _ => rfl))))
  (pss_cons (ps_set (i := 6) sc_l_turned.nd (by rfl) (Or.inl rfl) (pe_op go_mod (pe_op go_mul (pe_op go_div (pv 0) (pe_op go_mul (pe_ix (go_ix (hu1 hr)) (pv 1) pe_int (fun _ _ => rfl)) (pe_ix (go_ix (hu1 hr)) (pv 1) pe_int (fun _ _ => rfl)))) (pe_ix (go_ix (hu1 hr)) (pv 3) pe_int (fun _ _ => rfl))) (pe_ix (go_ix (hu1 hr)) (pv 1) pe_int (fun _ _ => rfl))))
  (pss_cons (ps_if (pt_cmpR (go_eq (hu64 hr)) (pv 2) pe_int (nomark _))
  (pss_one (ps_par (i := 4) (j := 5) (by rfl) sc_l_turned.nd (by rfl) (by rfl) (by decide) (by rfl) (by rfl) (pa_cons (pv 5) (pa_cons (pv 4) pa_nil)) (by rfl)))
  (pss_one (ps_if (pt_cmpR (go_eq (hu64 hr)) (pv 2) pe_int (nomark _))
  (pss_one (ps_par (i := 4) (j := 5) (by rfl) sc_l_turned.nd (by rfl) (by rfl) (by decide) (by rfl) (by rfl) (pa_cons (pe_op go_mod (pe_op go_sub pe_int (pv 5)) (pe_ix (go_ix (hu1 hr)) (pv 1) pe_int (fun _ _ => rfl))) (pa_cons (pe_op go_mod (pe_op go_sub (pv 4) (pv 5)) (pe_ix (go_ix (hu1 hr)) (pv 1) pe_int (fun _ _ => rfl))) pa_nil)) (by rfl)))
  (pss_one (ps_if (pt_cmpR (go_eq (hu64 hr)) (pv 2) pe_int (nomark _))
  (pss_one (ps_set (i := 5) sc_l_turned.nd (by rfl) (Or.inl rfl) (pe_op go_mod (pe_op go_add (pv 5) (pv 4)) (pe_ix (go_ix (hu1 hr)) (pv 1) pe_int (fun _ _ => rfl)))))
  (pss_one (ps_if (pt_cmpR (go_eq (hu64 hr)) (pv 2) pe_int (nomark _))
  (pss_one (ps_set (i := 4) sc_l_turned.nd (by rfl) (Or.inl rfl) (pe_op go_mod (pe_op go_add (pv 4) (pe_op go_mul (pe_op go_div (pe_ix (go_ix (hu1 hr)) (pv 1) pe_int (fun _ _ => rfl)) pe_int) (pv 5))) (pe_ix (go_ix (hu1 hr)) (pv 1) pe_int (fun _ _ => rfl)))))
  (pss_cons (ps_set (i := 4) sc_l_turned.nd (by rfl) (Or.inl rfl) (pe_op go_mod (pe_op go_mul (pv 4) (pe_ix (go_ix (hu1 hr)) (pv 3) pe_int (fun _ _ => rfl))) (pe_ix (go_ix (hu1 hr)) (pv 1) pe_int (fun _ _ => rfl))))
  (pss_one (ps_set (i := 5) sc_l_turned.nd (by rfl) (Or.inl rfl) (pe_op go_mod (pe_op go_mul (pv 5) (pe_ix (go_ix (hu1 hr)) (pv 3) pe_int (fun _ _ => rfl))) (pe_ix (go_ix (hu1 hr)) (pv 1) pe_int (fun _ _ => rfl)))))))))))))
  (pss_one (ps_ret (pe_op go_add (pv 4) (pe_op go_mul (pe_ix (go_ix (hu1 hr)) (pv 1) pe_int (fun _ _ => rfl)) (pe_op go_add (pv 5) (pe_op go_mul (pe_ix (go_ix (hu1 hr)) (pv 1) pe_int (fun _ _ => rfl)) (pv 6)))))))))))
theorem ok_l_sum (T : Tx K mg cls a_Stranger_init a_NoBack_init a_NotTogether_init a_Group_init a_look_at_size a_look_for_strangers a_unit_of a_back_of a_look_at_threes a_group_of a_product a_look_at_part a_closure a_mixed a_goes_with a_steps_into a_heart a_l_cell a_l_sizes a_l_kind a_l_unit a_l_turned a_l_sum a_l_rows a_l_names a_l_group a_l_backs a_l_calm a_l_steady a_l_greatest a_l_leads a_law fd_Stranger_init fd_NoBack_init fd_NotTogether_init fd_Group_init fd_look_at_size fd_look_for_strangers fd_unit_of fd_back_of fd_look_at_threes fd_group_of fd_product fd_look_at_part fd_closure fd_mixed fd_goes_with fd_steps_into fd_heart fd_l_cell fd_l_sizes fd_l_kind fd_l_unit fd_l_turned fd_l_sum fd_l_rows fd_l_names fd_l_group fd_l_backs fd_l_calm fd_l_steady fd_l_greatest fd_l_leads fd_law) : FnOk P w K mg base (L2.CX P w) 1 a_l_sum fd_l_sum ["_law_one", "_law_other", "_law_sizes_here"] (spOf ⟨K, cls⟩ T_l_sum) := by
  refine T.F_l_sum.okX sc_l_sum (spOf_len (n := 3) (ar_l_sum)) (fun cdv A outer s H vs Q E hr h => ⟨t_l_sum ⟨K, cls⟩ (fun c d _ H => E c d H), ?_, spOf_run (N := ["_law_one", "_law_other", "_law_sizes_here", "_law_both", "_law_x", "_law_y", "_law_w"]) (t := fun E => t_l_sum ⟨K, cls⟩ (fun c d _ H => E c d H)) (fun ss ok er hT => by rw [ar_l_sum ss ok er hT]; decide) (fun E ss ok er hT => w_l_sum ⟨K, cls⟩ _ ss ok er hT) vs H Q E h⟩)
  unfold t_l_sum
  exact (pss_cons (ps_set (i := 3) sc_l_sum.nd (by rfl) (Or.inl rfl) (pe_op go_mul (pe_ix (go_ix (hu1 hr)) (pv 2) pe_int (fun _ _ => rfl)) (pe_ix (go_ix (hu1 hr)) (pv 2) pe_int (fun _ _ => rfl))))
  (pss_cons (ps_set (i := 4) sc_l_sum.nd (by rfl) (Or.inl rfl) (pe_op go_mod (pe_op go_add (pv 0) (pv 1)) (pe_ix (go_ix (hu1 hr)) (pv 2) pe_int (fun _ _ => rfl))))
  (pss_cons (ps_set (i := 5) sc_l_sum.nd (by rfl) (Or.inl rfl) (pe_op go_mod (pe_op go_add (pe_op go_div (pv 0) (pe_ix (go_ix (hu1 hr)) (pv 2) pe_int (fun _ _ => rfl))) (pe_op go_div (pv 1) (pe_ix (go_ix (hu1 hr)) (pv 2) pe_int (fun _ _ => rfl)))) (pe_ix (go_ix (hu1 hr)) (pv 2) pe_int (fun _ _ => rfl))))
  (pss_cons (ps_set (i := 6) sc_l_sum.nd (by rfl) (Or.inl rfl) (pe_op go_mod (pe_op go_add (pe_op go_div (pv 0) (pv 3)) (pe_op go_div (pv 1) (pv 3))) (pe_ix (go_ix (hu1 hr)) (pv 2) pe_int (fun _ _ => rfl))))
  (pss_one (ps_ret (pe_op go_add (pe_op go_add (pv 4) (pe_op go_mul (pe_ix (go_ix (hu1 hr)) (pv 2) pe_int (fun _ _ => rfl)) (pv 5))) (pe_op go_mul (pv 3) (pv 6)))))))))
theorem ok_l_rows (T : Tx K mg cls a_Stranger_init a_NoBack_init a_NotTogether_init a_Group_init a_look_at_size a_look_for_strangers a_unit_of a_back_of a_look_at_threes a_group_of a_product a_look_at_part a_closure a_mixed a_goes_with a_steps_into a_heart a_l_cell a_l_sizes a_l_kind a_l_unit a_l_turned a_l_sum a_l_rows a_l_names a_l_group a_l_backs a_l_calm a_l_steady a_l_greatest a_l_leads a_law fd_Stranger_init fd_NoBack_init fd_NotTogether_init fd_Group_init fd_look_at_size fd_look_for_strangers fd_unit_of fd_back_of fd_look_at_threes fd_group_of fd_product fd_look_at_part fd_closure fd_mixed fd_goes_with fd_steps_into fd_heart fd_l_cell fd_l_sizes fd_l_kind fd_l_unit fd_l_turned fd_l_sum fd_l_rows fd_l_names fd_l_group fd_l_backs fd_l_calm fd_l_steady fd_l_greatest fd_l_leads fd_law) (G_l_sum : FnOk P w K mg base (L2.CX P w) 1 a_l_sum fd_l_sum ["_law_one", "_law_other", "_law_sizes_here"] (spOf ⟨K, cls⟩ T_l_sum)) : FnOk P w K mg base (L2.CX P w) 2 a_l_rows fd_l_rows ["_law_sizes_here", "_law_turn", "_law_end"] (spOf ⟨K, cls⟩ T_l_rows) := by
  refine T.F_l_rows.okX sc_l_rows (spOf_len (n := 3) (ar_l_rows)) (fun cdv A outer s H vs Q E hr h => ⟨t_l_rows ⟨K, cls⟩ (fun c d _ H => E c d H), ?_, spOf_run (N := ["_law_sizes_here", "_law_turn", "_law_end", "_law_calm_here", "_law_rows_here", "_law_led", "_law_i", "_law_one", "_law_row", "_law_j", "_law_other", "_law_place"]) (t := fun E => t_l_rows ⟨K, cls⟩ (fun c d _ H => E c d H)) (fun ss ok er hT => by rw [ar_l_rows ss ok er hT]; decide) (fun E ss ok er hT => w_l_rows ⟨K, cls⟩ _ ss ok er hT) vs H Q E h⟩)
  unfold t_l_rows
  exact (pss_cons (ps_set (i := 3) sc_l_rows.nd (by rfl) (Or.inl rfl) (pe_callB gc_len (by rfl) T.b_len (by decide +kernel) (pa_cons (pv 1) pa_nil)))
  (pss_cons (ps_set (i := 4) sc_l_rows.nd (by rfl) (Or.inl rfl) (pe_lst pa_nil))
  (pss_cons (ps_set (i := 5) sc_l_rows.nd (by rfl) (Or.inl rfl) (pe_listRg (by rfl) (by rfl) T.b_list (prg_1 (by rfl) T.b_range (pv 3))))
  (pss_cons (ps_for (passes_of rfl) (by rfl) (pi_range1 (by rfl) T.b_range (pa_cons (pe_ix (go_ix (hu1 hr)) (pv 0) pe_int (fun _ _ => rfl)) pa_nil)) (pg_name (i := 6) sc_l_rows.nd (by rfl) (Or.inl rfl))
  (pss_cons (ps_for (passes_of rfl) (by rfl) (pi_range1 (by rfl) T.b_range (pa_cons (pv 3) pa_nil)) (pg_name (i := 7) sc_l_rows.nd (by rfl) (Or.inl rfl))
  (pss_cons (ps_set (i := 8) sc_l_rows.nd (by rfl) (Or.inl rfl) (pe_lst pa_nil))
  (pss_cons (ps_for (passes_of rfl) (by rfl) (pi_range1 (by rfl) T.b_range (pa_cons (pe_ix (go_ix (hu1 hr)) (pv 0) pe_int (fun _ _ => rfl)) pa_nil)) (pg_name (i := 9) sc_l_rows.nd (by rfl) (Or.inl rfl))
  (pss_one (ps_for (passes_of rfl) (by rfl) (pi_range1 (by rfl) T.b_range (pa_cons (pv 3) pa_nil)) (pg_name (i := 10) sc_l_rows.nd (by rfl) (Or.inl rfl))
  (pss_cons (ps_set (i := 11) sc_l_rows.nd (by rfl) (Or.inl rfl) (pe_callSD G_l_sum (hr.mono (by decide)) (by rfl) T.g_l_sum T.k_l_sum T.b_l_sum .nil (fun σ => passAt (takes_of rfl rfl rfl rfl) σ) (pa_cons (pv 7) (pa_cons (pe_ix (go_ix (hu1 hr)) (pv 5) (pv 10) (fun _ _ => rfl)) (pa_cons (pv 0) pa_nil)))))
  (pss_cons (ps_if (pt_cmpR go_ge (pe_op go_add (pv 6) (pv 9)) (pe_ix (go_ix (hu1 hr)) (pv 0) pe_int (fun _ _ => rfl)) (nomark _))
  (pss_one (ps_set (i := 11) sc_l_rows.nd (by rfl) (Or.inl rfl) (pe_callSD G_l_sum (hr.mono (by decide)) (by rfl) T.g_l_sum T.k_l_sum T.b_l_sum .nil (fun σ => passAt (takes_of rfl rfl rfl rfl) σ) (pa_cons (pv 11) (pa_cons (pv 2) (pa_cons (pv 0) pa_nil))))))
  pss_nil)
  (pss_one (ps_expr (pe_bm PySem.F.plainAttrs_list PySem.F.slot_list_append PySem.F.type_list_append mt_append (pv 8) (pa_cons (pe_op go_add (pv 11) (pe_op go_mul (pv 3) (pe_op go_mod (pe_op go_add (pv 6) (pv 9)) (pe_ix (go_ix (hu1 hr)) (pv 0) pe_int (fun _ _ => rfl))))) pa_nil)))))))))
  (pss_one (ps_expr (pe_bm PySem.F.plainAttrs_list PySem.F.slot_list_append PySem.F.type_list_append mt_append (pv 4) (pa_cons (pv 8) pa_nil)))))))
  (pss_one (ps_setLc (i := 5) (by rfl) sc_l_rows.nd (by rfl) (by rfl) (sw_true rfl rfl rfl (by decide +kernel)) (pi_list (pv 5)) (blkOk_by (own := [("_law_place", 11)]) (by (show blkC ["_law_sizes_here", "_law_turn", "_law_end", "_law_calm_here", "_law_rows_here", "_law_led", "_law_i", "_law_one", "_law_row", "_law_j", "_law_other", "_law_place"] (defScope s_l_rows) _ _ = true); decide +kernel)) (fun _ _ _ _ _ => (pg_name (i := 11) sc_l_rows.nd (by rfl) (Or.inl rfl))) (fun _ _ _ _ _ => pts_nil) (fun _ _ _ _ _ => (pe_ix (go_ix (hu1 hr)) (pv 1) (pv 11) (fun _ _ => rfl)))))))
  (pss_one (ps_ret (pv 4)))))))
theorem ok_l_names (T : Tx K mg cls a_Stranger_init a_NoBack_init a_NotTogether_init a_Group_init a_look_at_size a_look_for_strangers a_unit_of a_back_of a_look_at_threes a_group_of a_product a_look_at_part a_closure a_mixed a_goes_with a_steps_into a_heart a_l_cell a_l_sizes a_l_kind a_l_unit a_l_turned a_l_sum a_l_rows a_l_names a_l_group a_l_backs a_l_calm a_l_steady a_l_greatest a_l_leads a_law fd_Stranger_init fd_NoBack_init fd_NotTogether_init fd_Group_init fd_look_at_size fd_look_for_strangers fd_unit_of fd_back_of fd_look_at_threes fd_group_of fd_product fd_look_at_part fd_closure fd_mixed fd_goes_with fd_steps_into fd_heart fd_l_cell fd_l_sizes fd_l_kind fd_l_unit fd_l_turned fd_l_sum fd_l_rows fd_l_names fd_l_group fd_l_backs fd_l_calm fd_l_steady fd_l_greatest fd_l_leads fd_law) : FnOk P w K mg base (L2.CX P w) 1 a_l_names fd_l_names ["_law_many", "_law_number"] (spOf ⟨K, cls⟩ T_l_names) := by
  refine T.F_l_names.okX sc_l_names (spOf_len (n := 2) (ar_l_names)) (fun cdv A outer s H vs Q E hr h => ⟨t_l_names ⟨K, cls⟩ (fun c d _ H => E c d H), ?_, spOf_run (N := ["_law_many", "_law_number", "_law_names_here", "_law_k"]) (t := fun E => t_l_names ⟨K, cls⟩ (fun c d _ H => E c d H)) (fun ss ok er hT => by rw [ar_l_names ss ok er hT]; decide) (fun E ss ok er hT => w_l_names ⟨K, cls⟩ _ ss ok er hT) vs H Q E h⟩)
  unfold t_l_names
  exact (pss_cons (ps_set (i := 2) sc_l_names.nd (by rfl) (Or.inl rfl) (pe_lst pa_nil))
  (pss_cons (ps_for (passes_of rfl) (by rfl) (pi_range1 (by rfl) T.b_range (pa_cons (pv 0) pa_nil)) (pg_name (i := 3) sc_l_names.nd (by rfl) (Or.inl rfl))
  (pss_cons (ps_set (i := 1) sc_l_names.nd (by rfl) (Or.inl rfl) (pe_op go_mod (pe_op go_add (pe_op go_add (pe_op go_add (pe_op go_mul (pv 1) (pv 1)) (pe_op go_mul pe_int (pv 1))) (pv 3)) pe_int) pe_int))
  (pss_one (ps_expr (pe_bm PySem.F.plainAttrs_list PySem.F.slot_list_insert PySem.F.type_list_insert gm_insert (pv 2) (pa_cons (pe_op go_mod (pv 1) (pe_op go_add (pv 3) pe_int)) (pa_cons (pv 3) pa_nil)))))))
  (pss_one (ps_ret (pv 2)))))
theorem ok_l_group (T : Tx K mg cls a_Stranger_init a_NoBack_init a_NotTogether_init a_Group_init a_look_at_size a_look_for_strangers a_unit_of a_back_of a_look_at_threes a_group_of a_product a_look_at_part a_closure a_mixed a_goes_with a_steps_into a_heart a_l_cell a_l_sizes a_l_kind a_l_unit a_l_turned a_l_sum a_l_rows a_l_names a_l_group a_l_backs a_l_calm a_l_steady a_l_greatest a_l_leads a_law fd_Stranger_init fd_NoBack_init fd_NotTogether_init fd_Group_init fd_look_at_size fd_look_for_strangers fd_unit_of fd_back_of fd_look_at_threes fd_group_of fd_product fd_look_at_part fd_closure fd_mixed fd_goes_with fd_steps_into fd_heart fd_l_cell fd_l_sizes fd_l_kind fd_l_unit fd_l_turned fd_l_sum fd_l_rows fd_l_names fd_l_group fd_l_backs fd_l_calm fd_l_steady fd_l_greatest fd_l_leads fd_law) (G_l_cell : FnOk P w K mg base (L2.CX P w) 1 a_l_cell fd_l_cell ["_law_script", "_law_k"] (spOf ⟨K, cls⟩ T_l_cell)) (G_l_sizes : FnOk P w K mg base (L2.CX P w) 1 a_l_sizes fd_l_sizes ["_law_one", "_law_two"] (spOf ⟨K, cls⟩ T_l_sizes)) (G_l_kind : FnOk P w K mg base (L2.CX P w) 1 a_l_kind fd_l_kind ["_law_sizes_here", "_law_number"] (spOf ⟨K, cls⟩ T_l_kind)) (G_l_unit : FnOk P w K mg base (L2.CX P w) 1 a_l_unit fd_l_unit ["_law_many", "_law_steps", "_law_number"] (spOf ⟨K, cls⟩ T_l_unit)) (G_l_turned : FnOk P w K mg base (L2.CX P w) 1 a_l_turned fd_l_turned ["_law_place", "_law_sizes_here", "_law_kind_here", "_law_units"] (spOf ⟨K, cls⟩ T_l_turned)) (G_l_rows : FnOk P w K mg base (L2.CX P w) 2 a_l_rows fd_l_rows ["_law_sizes_here", "_law_turn", "_law_end"] (spOf ⟨K, cls⟩ T_l_rows)) (G_l_names : FnOk P w K mg base (L2.CX P w) 1 a_l_names fd_l_names ["_law_many", "_law_number"] (spOf ⟨K, cls⟩ T_l_names)) : FnOk P w K mg base (L2.CX P w) 3 a_l_group fd_l_group ["_law_script", "_law_start"] (spOf ⟨K, cls⟩ T_l_group) := by
  refine T.F_l_group.okX sc_l_group (spOf_len (n := 2) (ar_l_group)) (fun cdv A outer s H vs Q E hr h => ⟨t_l_group ⟨K, cls⟩ (fun c d _ H => E c d H), ?_, spOf_run (N := ["_law_script", "_law_start", "_law_one", "_law_two", "_law_sizes_here", "_law_stirred", "_law_kind_here", "_law_units", "_law_k", "_law_calm_here", "_law_turn", "_law_end", "_law_rows_here", "_law_names_here", "_law_table", "_law_a", "_law_row", "_law_b", "_law_thing", "_law_place"]) (t := fun E => t_l_group ⟨K, cls⟩ (fun c d _ H => E c d H)) (fun ss ok er hT => by rw [ar_l_group ss ok er hT]; decide) (fun E ss ok er hT => w_l_group ⟨K, cls⟩ _ ss ok er hT) vs H Q E h⟩)
  unfold t_l_group
  exact (pss_cons (ps_set (i := 2) sc_l_group.nd (by rfl) (Or.inl rfl) (pe_callSD G_l_cell (hr.mono (by decide)) (by rfl) T.g_l_cell T.k_l_cell T.b_l_cell .nil (fun σ => passAt (takes_of rfl rfl rfl rfl) σ) (pa_cons (pv 0) (pa_cons (pv 1) pa_nil))))
  (pss_cons (ps_set (i := 3) sc_l_group.nd (by rfl) (Or.inl rfl) (pe_callSD G_l_cell (hr.mono (by decide)) (by rfl) T.g_l_cell T.k_l_cell T.b_l_cell .nil (fun σ => passAt (takes_of rfl rfl rfl rfl) σ) (pa_cons (pv 0) (pa_cons (pe_op go_add (pv 1) pe_int) pa_nil))))
  (pss_cons (ps_set (i := 4) sc_l_group.nd (by rfl) (Or.inr rfl) (pe_callSD G_l_sizes (hr.mono (by decide)) (by rfl) T.g_l_sizes T.k_l_sizes T.b_l_sizes .nil (fun σ => passAt (takes_of rfl rfl rfl rfl) σ) (pa_cons (pv 2) (pa_cons (pv 3) pa_nil))))
  (pss_cons (ps_set (i := 5) sc_l_group.nd (by rfl) (Or.inl rfl) (pe_op go_mod (pe_op go_mul (pe_op go_mul (pe_op go_add (pv 3) pe_int) (pe_op go_add (pv 3) pe_int)) pe_int) pe_int))
  (pss_cons (ps_set (i := 6) sc_l_group.nd (by rfl) (Or.inr rfl) (pe_callSD G_l_kind (hr.mono (by decide)) (by rfl) T.g_l_kind T.k_l_kind T.b_l_kind .nil (fun σ => passAt (takes_of rfl rfl rfl rfl) σ) (pa_cons (pv 4) (pa_cons (pv 5) pa_nil))))
  (pss_cons (ps_set (i := 7) sc_l_group.nd (by rfl) (Or.inr rfl) (pe_lst pa_nil))
  (pss_cons (ps_for (passes_of rfl) (by rfl) (pi_range1 (by rfl) T.b_range (pa_cons pe_int pa_nil)) (pg_name (i := 8) sc_l_group.nd (by rfl) (Or.inl rfl))
  (pss_one (ps_expr (pe_bm PySem.F.plainAttrs_list PySem.F.slot_list_append PySem.F.type_list_append mt_append (pv 7) (pa_cons (pe_callSD G_l_unit (hr.mono (by decide)) (by rfl) T.g_l_unit T.k_l_unit T.b_l_unit .nil (fun σ => passAt (takes_of rfl rfl rfl rfl) σ) (pa_cons (pe_ix (go_ix (hu1 hr)) (pv 4) (pv 8) (fun _ _ => rfl)) (pa_cons (pe_ix (go_ix (hu1 hr)) (pv 4) pe_int (fun _ _ => rfl)) (pa_cons (pe_op go_div (pv 5) (pe_ix (go_ix (hu1 hr)) (pe_lst (pa_cons pe_int (pa_cons pe_int (pa_cons pe_int pa_nil)))) (pv 8) (fun _ _ => rfl))) pa_nil)))) pa_nil)))))
  (pss_cons (ps_set (i := 9) sc_l_group.nd (by rfl) (Or.inl rfl) (pe_op go_mul (pe_op go_mul (pe_ix (go_ix (hu1 hr)) (pv 4) pe_int (fun _ _ => rfl)) (pe_ix (go_ix (hu1 hr)) (pv 4) pe_int (fun _ _ => rfl))) (pe_ix (go_ix (hu1 hr)) (pv 4) pe_int (fun _ _ => rfl))))
  (pss_cons (ps_setLc (i := 10) (by rfl) sc_l_group.nd (by rfl) (by rfl) (sw_true rfl rfl rfl (by decide +kernel)) (pi_range1 (by rfl) T.b_range (pa_cons (pv 9) pa_nil)) (blkOk_by (own := [("_law_place", 19)]) (by (show blkC ["_law_script", "_law_start", "_law_one", "_law_two", "_law_sizes_here", "_law_stirred", "_law_kind_here", "_law_units", "_law_k", "_law_calm_here", "_law_turn", "_law_end", "_law_rows_here", "_law_names_here", "_law_table", "_law_a", "_law_row", "_law_b", "_law_thing", "_law_place"] (defScope s_l_group) _ _ = true); decide +kernel)) (fun _ _ _ _ _ => (pg_name (i := 19) sc_l_group.nd (by rfl) (Or.inl rfl))) (fun _ _ _ _ _ => pts_nil) (fun _ _ _ _ _ => (pe_call G_l_turned (hr.mono (by decide)) (by rfl) T.g_l_turned T.k_l_turned T.b_l_turned .nil passL (pa_cons (pv 19) (pa_cons (pv 4) (pa_cons (pv 6) (pa_cons (pv 7) pa_nil)))))))
  (pss_cons (ps_set (i := 11) sc_l_group.nd (by rfl) (Or.inl rfl) (pe_op go_mod (pe_op go_mod (pe_op go_mul (pe_op go_mul (pe_op go_add (pv 2) pe_int) (pe_op go_add (pv 2) pe_int)) pe_int) pe_int) (pv 9)))
  (pss_cons (ps_if (pt_cmpR (go_ne (hu64 hr)) (pe_ix (go_ix (hu1 hr)) (pv 10) (pv 11) (fun _ _ => rfl)) (pv 11) (nomark _))
  (pss_one (ps_set (i := 11) sc_l_group.nd (by rfl) (Or.inl rfl) pe_int))
  pss_nil)
  (pss_cons (ps_set (i := 12) sc_l_group.nd (by rfl) (Or.inl rfl) (pe_callSD G_l_rows (hr.mono (by decide)) (by rfl) T.g_l_rows T.k_l_rows T.b_l_rows .nil (fun σ => passAt (takes_of rfl rfl rfl rfl) σ) (pa_cons (pv 4) (pa_cons (pv 10) (pa_cons (pv 11) pa_nil)))))
  (pss_cons (ps_set (i := 13) sc_l_group.nd (by rfl) (Or.inl rfl) (pe_callSD G_l_names (hr.mono (by decide)) (by rfl) T.g_l_names T.k_l_names T.b_l_names .nil (fun σ => passAt (takes_of rfl rfl rfl rfl) σ) (pa_cons (pe_callB gc_len (by rfl) T.b_len (by decide +kernel) (pa_cons (pv 12) pa_nil)) (pa_cons (pe_callSD G_l_cell (hr.mono (by decide)) (by rfl) T.g_l_cell T.k_l_cell T.b_l_cell .nil (fun σ => passAt (takes_of rfl rfl rfl rfl) σ) (pa_cons (pv 0) (pa_cons (pe_op go_add (pv 1) pe_int) pa_nil))) pa_nil))))
  (pss_cons (ps_setLc (i := 14) (by rfl) sc_l_group.nd (by rfl) (by rfl) (sw_true rfl rfl rfl (by decide +kernel)) (pi_list (pv 12)) (blkOk_by (own := [("_law_row", 16)]) (by (show blkC ["_law_script", "_law_start", "_law_one", "_law_two", "_law_sizes_here", "_law_stirred", "_law_kind_here", "_law_units", "_law_k", "_law_calm_here", "_law_turn", "_law_end", "_law_rows_here", "_law_names_here", "_law_table", "_law_a", "_law_row", "_law_b", "_law_thing", "_law_place"] (defScope s_l_group) _ _ = true); decide +kernel)) (fun _ _ _ _ _ => (pg_name (i := 16) sc_l_group.nd (by rfl) (Or.inl rfl))) (fun _ _ _ _ _ => pts_nil) (fun _ _ _ _ _ => (pe_callTy gc_list (by rfl) T.b_list (by decide +kernel) (pa_cons (pv 16) pa_nil))))
  (pss_cons (ps_for (passes_of rfl) (by rfl) (pi_enum (by rfl) T.b_enumerate (pa_cons (pv 12) pa_nil)) (pg_tup (by rfl) (pgs_cons (pg_name (i := 15) sc_l_group.nd (by rfl) (Or.inl rfl)) (pgs_cons (pg_name (i := 16) sc_l_group.nd (by rfl) (Or.inl rfl)) pgs_nil)))
  (pss_one (ps_for (passes_of rfl) (by rfl) (pi_enum (by rfl) T.b_enumerate (pa_cons (pv 16) pa_nil)) (pg_tup (by rfl) (pgs_cons (pg_name (i := 17) sc_l_group.nd (by rfl) (Or.inl rfl)) (pgs_cons (pg_name (i := 18) sc_l_group.nd (by rfl) (Or.inl rfl)) pgs_nil)))
  (pss_one (ps_asg (pe_ix (go_ix (hu1 hr)) (pv 13) (pv 18) (fun _ _ => rfl)) (pg_sub (pe_ix (go_ix (hu1 hr)) (pv 14) (pe_ix (go_ix (hu1 hr)) (pv 13) (pv 15) (fun _ _ => rfl)) (fun _ _ => rfl)) (pe_ix (go_ix (hu1 hr)) (pv 13) (pv 17) (fun _ _ => rfl)) (gs_set (hu1 hr))))))))
  (pss_one (ps_ret (pv 14))))))))))))))))))
theorem ok_l_backs (T : Tx K mg cls a_Stranger_init a_NoBack_init a_NotTogether_init a_Group_init a_look_at_size a_look_for_strangers a_unit_of a_back_of a_look_at_threes a_group_of a_product a_look_at_part a_closure a_mixed a_goes_with a_steps_into a_heart a_l_cell a_l_sizes a_l_kind a_l_unit a_l_turned a_l_sum a_l_rows a_l_names a_l_group a_l_backs a_l_calm a_l_steady a_l_greatest a_l_leads a_law fd_Stranger_init fd_NoBack_init fd_NotTogether_init fd_Group_init fd_look_at_size fd_look_for_strangers fd_unit_of fd_back_of fd_look_at_threes fd_group_of fd_product fd_look_at_part fd_closure fd_mixed fd_goes_with fd_steps_into fd_heart fd_l_cell fd_l_sizes fd_l_kind fd_l_unit fd_l_turned fd_l_sum fd_l_rows fd_l_names fd_l_group fd_l_backs fd_l_calm fd_l_steady fd_l_greatest fd_l_leads fd_law) : FnOk P w K mg base (L2.CX P w) 1 a_l_backs fd_l_backs ["_law_table"] (spOf ⟨K, cls⟩ T_l_backs) := by
  refine T.F_l_backs.okX sc_l_backs (spOf_len (n := 1) (ar_l_backs)) (fun cdv A outer s H vs Q E hr h => ⟨t_l_backs ⟨K, cls⟩ (fun c d _ H => E c d H), ?_, spOf_run (N := ["_law_table", "_law_unit_here", "_law_a", "_law_row"]) (t := fun E => t_l_backs ⟨K, cls⟩ (fun c d _ H => E c d H)) (fun ss ok er hT => by rw [ar_l_backs ss ok er hT]; decide) (fun E ss ok er hT => w_l_backs ⟨K, cls⟩ _ ss ok er hT) vs H Q E h⟩)
  unfold t_l_backs
  exact (pss_cons (ps_set (i := 1) sc_l_backs.nd (by rfl) (Or.inr rfl) (pe_ix (go_ix (hu1 hr)) (pe_lc (by rfl) sc_l_backs.nd (pi_range1 (by rfl) T.b_range (pa_cons (pe_callB gc_len (by rfl) T.b_len (by decide +kernel) (pa_cons (pv 0) pa_nil)) pa_nil)) (blkOk_by (own := [("_law_a", 2)]) (by (show blkC ["_law_table", "_law_unit_here", "_law_a", "_law_row"] (defScope s_l_backs) _ _ = true); decide +kernel)) (fun _ _ _ _ _ => (pg_name (i := 2) sc_l_backs.nd (by rfl) (Or.inl rfl))) (fun _ _ _ _ _ => (pts_one (pt_cmpR (go_eq (hu64 hr)) (pe_ix (go_ix (hu1 hr)) (pe_ix (go_ix (hu1 hr)) (pv 0) (pv 2) (fun _ _ => rfl)) (pv 2) (fun _ _ => rfl)) (pv 2) (nomark _)))) (fun _ _ _ _ _ => (pv 2))) pe_int (fun _ _ => rfl)))
  (pss_one (ps_ret (pe_lc (by rfl) sc_l_backs.nd (pi_list (pv 0)) (blkOk_by (own := [("_law_row", 3)]) (by (show blkC ["_law_table", "_law_unit_here", "_law_a", "_law_row"] (defScope s_l_backs) _ _ = true); decide +kernel)) (fun _ _ _ _ _ => (pg_name (i := 3) sc_l_backs.nd (by rfl) (Or.inl rfl))) (fun _ _ _ _ _ => pts_nil) (fun _ _ _ _ _ => (pe_bm PySem.F.plainAttrs_list PySem.F.slot_list_index PySem.F.type_list_index mt_index (pv 3) (pa_cons (pv 1) pa_nil)))))))
theorem ok_l_calm (T : Tx K mg cls a_Stranger_init a_NoBack_init a_NotTogether_init a_Group_init a_look_at_size a_look_for_strangers a_unit_of a_back_of a_look_at_threes a_group_of a_product a_look_at_part a_closure a_mixed a_goes_with a_steps_into a_heart a_l_cell a_l_sizes a_l_kind a_l_unit a_l_turned a_l_sum a_l_rows a_l_names a_l_group a_l_backs a_l_calm a_l_steady a_l_greatest a_l_leads a_law fd_Stranger_init fd_NoBack_init fd_NotTogether_init fd_Group_init fd_look_at_size fd_look_for_strangers fd_unit_of fd_back_of fd_look_at_threes fd_group_of fd_product fd_look_at_part fd_closure fd_mixed fd_goes_with fd_steps_into fd_heart fd_l_cell fd_l_sizes fd_l_kind fd_l_unit fd_l_turned fd_l_sum fd_l_rows fd_l_names fd_l_group fd_l_backs fd_l_calm fd_l_steady fd_l_greatest fd_l_leads fd_law) : FnOk P w K mg base (L2.CX P w) 1 a_l_calm fd_l_calm ["_law_table", "_law_part"] (spOf ⟨K, cls⟩ T_l_calm) := by
  refine T.F_l_calm.okX sc_l_calm (spOf_len (n := 2) (ar_l_calm)) (fun cdv A outer s H vs Q E hr h => ⟨t_l_calm ⟨K, cls⟩ (fun c d _ H => E c d H), ?_, spOf_run (N := ["_law_table", "_law_part", "_law_a", "_law_b"]) (t := fun E => t_l_calm ⟨K, cls⟩ (fun c d _ H => E c d H)) (fun ss ok er hT => by rw [ar_l_calm ss ok er hT]; decide) (fun E ss ok er hT => w_l_calm ⟨K, cls⟩ _ ss ok er hT) vs H Q E h⟩)
  unfold t_l_calm
  exact (pss_cons (ps_for (passes_of rfl) (by rfl) (pi_list (pv 1)) (pg_name (i := 2) sc_l_calm.nd (by rfl) (Or.inl rfl))
  (pss_one (ps_for (passes_of rfl) (by rfl) (pi_list (pv 1)) (pg_name (i := 3) sc_l_calm.nd (by rfl) (Or.inl rfl))
  (pss_one (ps_if (PW.pt (pw_or (pt_cmpR (go_notIn (hu1 hr)) (pe_ix (go_ix (hu1 hr)) (pe_ix (go_ix (hu1 hr)) (pv 0) (pv 2) (fun _ _ => rfl)) (pv 3) (fun _ _ => rfl)) (pv 1) (by rfl)) (pw_or1 (pt_cmpR (go_ne (hu64 hr)) (pe_ix (go_ix (hu1 hr)) (pe_ix (go_ix (hu1 hr)) (pv 0) (pv 2) (fun _ _ => rfl)) (pv 3) (fun _ _ => rfl)) (pe_ix (go_ix (hu1 hr)) (pe_ix (go_ix (hu1 hr)) (pv 0) (pv 3) (fun _ _ => rfl)) (pv 2) (fun _ _ => rfl)) (nomark _)))))
  (pss_one (ps_ret pe_bl))
  pss_nil)))))
  (pss_one (ps_ret pe_bl)))
theorem ok_l_steady (T : Tx K mg cls a_Stranger_init a_NoBack_init a_NotTogether_init a_Group_init a_look_at_size a_look_for_strangers a_unit_of a_back_of a_look_at_threes a_group_of a_product a_look_at_part a_closure a_mixed a_goes_with a_steps_into a_heart a_l_cell a_l_sizes a_l_kind a_l_unit a_l_turned a_l_sum a_l_rows a_l_names a_l_group a_l_backs a_l_calm a_l_steady a_l_greatest a_l_leads a_law fd_Stranger_init fd_NoBack_init fd_NotTogether_init fd_Group_init fd_look_at_size fd_look_for_strangers fd_unit_of fd_back_of fd_look_at_threes fd_group_of fd_product fd_look_at_part fd_closure fd_mixed fd_goes_with fd_steps_into fd_heart fd_l_cell fd_l_sizes fd_l_kind fd_l_unit fd_l_turned fd_l_sum fd_l_rows fd_l_names fd_l_group fd_l_backs fd_l_calm fd_l_steady fd_l_greatest fd_l_leads fd_law) (G_l_backs : FnOk P w K mg base (L2.CX P w) 1 a_l_backs fd_l_backs ["_law_table"] (spOf ⟨K, cls⟩ T_l_backs)) : FnOk P w K mg base (L2.CX P w) 2 a_l_steady fd_l_steady ["_law_table", "_law_part"] (spOf ⟨K, cls⟩ T_l_steady) := by
  refine T.F_l_steady.okX sc_l_steady (spOf_len (n := 2) (ar_l_steady)) (fun cdv A outer s H vs Q E hr h => ⟨t_l_steady ⟨K, cls⟩ (fun c d _ H => E c d H), ?_, spOf_run (N := ["_law_table", "_law_part", "_law_backs_here", "_law_a", "_law_b", "_law_found"]) (t := fun E => t_l_steady ⟨K, cls⟩ (fun c d _ H => E c d H)) (fun ss ok er hT => by rw [ar_l_steady ss ok er hT]; decide) (fun E ss ok er hT => w_l_steady ⟨K, cls⟩ _ ss ok er hT) vs H Q E h⟩)
  unfold t_l_steady
  exact (pss_cons (ps_set (i := 2) sc_l_steady.nd (by rfl) (Or.inl rfl) (pe_callSD G_l_backs (hr.mono (by decide)) (by rfl) T.g_l_backs T.k_l_backs T.b_l_backs .nil (fun σ => passAt (takes_of rfl rfl rfl rfl) σ) (pa_cons (pv 0) pa_nil)))
  (pss_cons (ps_for (passes_of rfl) (by rfl) (pi_range1 (by rfl) T.b_range (pa_cons (pe_callB gc_len (by rfl) T.b_len (by decide +kernel) (pa_cons (pv 0) pa_nil)) pa_nil)) (pg_name (i := 3) sc_l_steady.nd (by rfl) (Or.inl rfl))
  (pss_one (ps_for (passes_of rfl) (by rfl) (pi_range1 (by rfl) T.b_range (pa_cons (pe_callB gc_len (by rfl) T.b_len (by decide +kernel) (pa_cons (pv 0) pa_nil)) pa_nil)) (pg_name (i := 4) sc_l_steady.nd (by rfl) (Or.inl rfl))
  (pss_cons (ps_set (i := 5) sc_l_steady.nd (by rfl) (Or.inl rfl) (pe_ix (go_ix (hu1 hr)) (pe_ix (go_ix (hu1 hr)) (pv 0) (pe_ix (go_ix (hu1 hr)) (pe_ix (go_ix (hu1 hr)) (pv 0) (pv 3) (fun _ _ => rfl)) (pv 4) (fun _ _ => rfl)) (fun _ _ => rfl)) (pe_ix (go_ix (hu1 hr)) (pv 2) (pv 3) (fun _ _ => rfl)) (fun _ _ => rfl)))
  (pss_cons (ps_if (PW.pt (pw_and (pt_cmpR (go_in (hu1 hr)) (pv 4) (pv 1) (by rfl)) (pw_and1 (pt_cmpR (go_notIn (hu1 hr)) (pv 5) (pv 1) (by rfl)))))
  (pss_one (ps_ret pe_bl))
  pss_nil)
  (pss_one (ps_if (pt_cmpR (go_notIn (hu1 hr)) (pe_ix (go_ix (hu1 hr)) (pe_ix (go_ix (hu1 hr)) (pv 0) (pv 5) (fun _ _ => rfl)) (pe_ix (go_ix (hu1 hr)) (pv 2) (pv 4) (fun _ _ => rfl)) (fun _ _ => rfl)) (pv 1) (by rfl))
  (pss_one (ps_ret pe_bl))
  pss_nil)))))))
  (pss_one (ps_ret pe_bl))))
theorem ok_l_greatest (T : Tx K mg cls a_Stranger_init a_NoBack_init a_NotTogether_init a_Group_init a_look_at_size a_look_for_strangers a_unit_of a_back_of a_look_at_threes a_group_of a_product a_look_at_part a_closure a_mixed a_goes_with a_steps_into a_heart a_l_cell a_l_sizes a_l_kind a_l_unit a_l_turned a_l_sum a_l_rows a_l_names a_l_group a_l_backs a_l_calm a_l_steady a_l_greatest a_l_leads a_law fd_Stranger_init fd_NoBack_init fd_NotTogether_init fd_Group_init fd_look_at_size fd_look_for_strangers fd_unit_of fd_back_of fd_look_at_threes fd_group_of fd_product fd_look_at_part fd_closure fd_mixed fd_goes_with fd_steps_into fd_heart fd_l_cell fd_l_sizes fd_l_kind fd_l_unit fd_l_turned fd_l_sum fd_l_rows fd_l_names fd_l_group fd_l_backs fd_l_calm fd_l_steady fd_l_greatest fd_l_leads fd_law) : FnOk P w K mg base (L2.CX P w) 1 a_l_greatest fd_l_greatest ["_law_table", "_law_part"] (spOf ⟨K, cls⟩ T_l_greatest) := by
  refine T.F_l_greatest.okX sc_l_greatest (spOf_len (n := 2) (ar_l_greatest)) (fun cdv A outer s H vs Q E hr h => ⟨t_l_greatest ⟨K, cls⟩ (fun c d _ H => E c d H), ?_, spOf_run (N := ["_law_table", "_law_part", "_law_a", "_law_others", "_law_h"]) (t := fun E => t_l_greatest ⟨K, cls⟩ (fun c d _ H => E c d H)) (fun ss ok er hT => by rw [ar_l_greatest ss ok er hT]; decide) (fun E ss ok er hT => w_l_greatest ⟨K, cls⟩ _ ss ok er hT) vs H Q E h⟩)
  unfold t_l_greatest
  exact (pss_cons (ps_for (passes_of rfl) (by rfl) (pi_range1 (by rfl) T.b_range (pa_cons (pe_callB gc_len (by rfl) T.b_len (by decide +kernel) (pa_cons (pv 0) pa_nil)) pa_nil)) (pg_name (i := 2) sc_l_greatest.nd (by rfl) (Or.inr rfl))
  (pss_cons (ps_setLc (i := 3) (by rfl) sc_l_greatest.nd (by rfl) (by rfl) (sw_true rfl rfl rfl (by decide +kernel)) (pi_list (pv 1)) (blkOk_by (own := [("_law_h", 4)]) (by (show blkC ["_law_table", "_law_part", "_law_a", "_law_others", "_law_h"] (defScope s_l_greatest) _ _ = true); decide +kernel)) (fun _ _ _ _ _ => (pg_name (i := 4) sc_l_greatest.nd (by rfl) (Or.inl rfl))) (fun _ _ _ _ _ => (pts_one (pt_cmpR (go_ne (hu64 hr)) (pe_ix (go_ix (hu1 hr)) (pe_ix (go_ix (hu1 hr)) (pv 0) (pv 2) (fun _ _ => rfl)) (pv 4) (fun _ _ => rfl)) (pe_ix (go_ix (hu1 hr)) (pe_ix (go_ix (hu1 hr)) (pv 0) (pv 4) (fun _ _ => rfl)) (pv 2) (fun _ _ => rfl)) (nomark _)))) (fun _ _ _ _ _ => (pv 4)))
  (pss_one (ps_if (PW.pt (pw_and (pt_cmpR (go_notIn (hu1 hr)) (pv 2) (pv 1) (by rfl)) (pw_and1 (pt_cmpR (go_eq (hu64 hr)) (pv 3) (pe_lst pa_nil) (nomark _)))))
  (pss_one (ps_ret pe_bl))
  pss_nil))))
  (pss_one (ps_ret pe_bl)))
theorem ok_l_leads (T : Tx K mg cls a_Stranger_init a_NoBack_init a_NotTogether_init a_Group_init a_look_at_size a_look_for_strangers a_unit_of a_back_of a_look_at_threes a_group_of a_product a_look_at_part a_closure a_mixed a_goes_with a_steps_into a_heart a_l_cell a_l_sizes a_l_kind a_l_unit a_l_turned a_l_sum a_l_rows a_l_names a_l_group a_l_backs a_l_calm a_l_steady a_l_greatest a_l_leads a_law fd_Stranger_init fd_NoBack_init fd_NotTogether_init fd_Group_init fd_look_at_size fd_look_for_strangers fd_unit_of fd_back_of fd_look_at_threes fd_group_of fd_product fd_look_at_part fd_closure fd_mixed fd_goes_with fd_steps_into fd_heart fd_l_cell fd_l_sizes fd_l_kind fd_l_unit fd_l_turned fd_l_sum fd_l_rows fd_l_names fd_l_group fd_l_backs fd_l_calm fd_l_steady fd_l_greatest fd_l_leads fd_law) : FnOk P w K mg base (L2.CX P w) 1 a_l_leads fd_l_leads ["_law_table", "_law_part", "_law_thing"] (spOf ⟨K, cls⟩ T_l_leads) := by
  refine T.F_l_leads.okX sc_l_leads (spOf_len (n := 3) (ar_l_leads)) (fun cdv A outer s H vs Q E hr h => ⟨t_l_leads ⟨K, cls⟩ (fun c d _ H => E c d H), ?_, spOf_run (N := ["_law_table", "_law_part", "_law_thing", "_law_led", "_law_carrier", "_law_h"]) (t := fun E => t_l_leads ⟨K, cls⟩ (fun c d _ H => E c d H)) (fun ss ok er hT => by rw [ar_l_leads ss ok er hT]; decide) (fun E ss ok er hT => w_l_leads ⟨K, cls⟩ _ ss ok er hT) vs H Q E h⟩)
  unfold t_l_leads
  exact (pss_cons (ps_set (i := 3) sc_l_leads.nd (by rfl) (Or.inl rfl) (pe_callTy gc_list (by rfl) T.b_list (by decide +kernel) (pa_cons (pv 1) pa_nil)))
  (pss_cons (ps_set (i := 4) sc_l_leads.nd (by rfl) (Or.inr rfl) (pv 2))
  (pss_cons (ps_while (passes_of rfl) (pt_cmpR (go_notIn (hu1 hr)) (pv 4) (pv 1) (by rfl))
  (pss_cons (ps_set (i := 3) sc_l_leads.nd (by rfl) (Or.inl rfl) (pe_op go_add (pv 3) (pe_lc (by rfl) sc_l_leads.nd (pi_list (pv 1)) (blkOk_by (own := [("_law_h", 5)]) (by (show blkC ["_law_table", "_law_part", "_law_thing", "_law_led", "_law_carrier", "_law_h"] (defScope s_l_leads) _ _ = true); decide +kernel)) (fun _ _ _ _ _ => (pg_name (i := 5) sc_l_leads.nd (by rfl) (Or.inl rfl))) (fun _ _ _ _ _ => pts_nil) (fun _ _ _ _ _ => (pe_ix (go_ix (hu1 hr)) (pe_ix (go_ix (hu1 hr)) (pv 0) (pv 5) (fun _ _ => rfl)) (pv 4) (fun _ _ => rfl))))))
  (pss_one (ps_set (i := 4) sc_l_leads.nd (by rfl) (Or.inr rfl) (pe_ix (go_ix (hu1 hr)) (pe_ix (go_ix (hu1 hr)) (pv 0) (pv 4) (fun _ _ => rfl)) (pv 2) (fun _ _ => rfl))))))
  (pss_one (ps_ret (pe_cmpR (go_eq (hu64 hr)) (pe_callB gc_sorted (by rfl) T.b_sorted (by decide +kernel) (pa_cons (pv 3) pa_nil)) (pe_listRg (by rfl) (by rfl) T.b_list (prg_1 (by rfl) T.b_range (pe_callB gc_len (by rfl) T.b_len (by decide +kernel) (pa_cons (pv 0) pa_nil)))) (nomark _)))))))
theorem ok_law (T : Tx K mg cls a_Stranger_init a_NoBack_init a_NotTogether_init a_Group_init a_look_at_size a_look_for_strangers a_unit_of a_back_of a_look_at_threes a_group_of a_product a_look_at_part a_closure a_mixed a_goes_with a_steps_into a_heart a_l_cell a_l_sizes a_l_kind a_l_unit a_l_turned a_l_sum a_l_rows a_l_names a_l_group a_l_backs a_l_calm a_l_steady a_l_greatest a_l_leads a_law fd_Stranger_init fd_NoBack_init fd_NotTogether_init fd_Group_init fd_look_at_size fd_look_for_strangers fd_unit_of fd_back_of fd_look_at_threes fd_group_of fd_product fd_look_at_part fd_closure fd_mixed fd_goes_with fd_steps_into fd_heart fd_l_cell fd_l_sizes fd_l_kind fd_l_unit fd_l_turned fd_l_sum fd_l_rows fd_l_names fd_l_group fd_l_backs fd_l_calm fd_l_steady fd_l_greatest fd_l_leads fd_law) (G_group_of : FnOk P w K mg base (L2.CX P w) 4 a_group_of fd_group_of ["table"] (spOf ⟨K, cls⟩ T_group_of)) (G_heart : FnOk P w K mg base (L2.CX P w) 3 a_heart fd_heart ["group"] (spOf ⟨K, cls⟩ T_heart)) (G_l_group : FnOk P w K mg base (L2.CX P w) 3 a_l_group fd_l_group ["_law_script", "_law_start"] (spOf ⟨K, cls⟩ T_l_group)) (G_l_calm : FnOk P w K mg base (L2.CX P w) 1 a_l_calm fd_l_calm ["_law_table", "_law_part"] (spOf ⟨K, cls⟩ T_l_calm)) (G_l_steady : FnOk P w K mg base (L2.CX P w) 2 a_l_steady fd_l_steady ["_law_table", "_law_part"] (spOf ⟨K, cls⟩ T_l_steady)) (G_l_greatest : FnOk P w K mg base (L2.CX P w) 1 a_l_greatest fd_l_greatest ["_law_table", "_law_part"] (spOf ⟨K, cls⟩ T_l_greatest)) (G_l_leads : FnOk P w K mg base (L2.CX P w) 1 a_l_leads fd_l_leads ["_law_table", "_law_part", "_law_thing"] (spOf ⟨K, cls⟩ T_l_leads)) : FnOk P w K mg base (L2.CX P w) 5 a_law fd_law ["_law_script"] (spOf ⟨K, cls⟩ T_law) := by
  refine T.F_law.okX sc_law (spOf_len (n := 1) (ar_law)) (fun cdv A outer s H vs Q E hr h => ⟨t_law ⟨K, cls⟩ (fun c d _ H => E c d H), ?_, spOf_run (N := ["_law_script", "_law_table", "_law_found", "_law_part", "_law_k", "_law_thing", "_law_row"]) (t := fun E => t_law ⟨K, cls⟩ (fun c d _ H => E c d H)) (fun ss ok er hT => by rw [ar_law ss ok er hT]; decide) (fun E ss ok er hT => w_law ⟨K, cls⟩ _ ss ok er hT) vs H Q E h⟩)
  unfold t_law
  exact (pss_cons (ps_set (i := 1) sc_law.nd (by rfl) (Or.inl rfl) (pe_callSD G_l_group (hr.mono (by decide)) (by rfl) T.g_l_group T.k_l_group T.b_l_group .nil (fun σ => passAt (takes_of rfl rfl rfl rfl) σ) (pa_cons (pv 0) (pa_cons pe_int pa_nil))))
  (pss_cons (ps_set (i := 2) sc_law.nd (by rfl) (Or.inl rfl) (pe_callSD G_heart (hr.mono (by decide)) (by rfl) T.g_heart T.k_heart T.b_heart .nil (fun σ => passAt (takes_of rfl rfl rfl rfl) σ) (pa_cons (pe_callSD G_group_of (hr.mono (by decide)) (by rfl) T.g_group_of T.k_group_of T.b_group_of .nil (fun σ => passAt (takes_of rfl rfl rfl rfl) σ) (pa_cons (pe_lc (by rfl) sc_law.nd (pi_list (pv 1)) (blkOk_by (own := [("_law_row", 6)]) (by (show blkC ["_law_script", "_law_table", "_law_found", "_law_part", "_law_k", "_law_thing", "_law_row"] (defScope s_law) _ _ = true); decide +kernel)) (fun _ _ _ _ _ => (pg_name (i := 6) sc_law.nd (by rfl) (Or.inl rfl))) (fun _ _ _ _ _ => pts_nil) (fun _ _ _ _ _ => (pe_callTy gc_list (by rfl) T.b_list (by decide +kernel) (pa_cons (pv 6) pa_nil)))) pa_nil)) pa_nil)))
  (pss_cons (ps_set (i := 3) sc_law.nd (by rfl) (Or.inl rfl) (pe_ix (go_ix (hu1 hr)) (pv 2) pe_int (fun _ _ => rfl)))
  (pss_cons (ps_for (passes_of rfl) (by rfl) (pi_range1 (by rfl) T.b_range (pa_cons (pe_callB gc_len (by rfl) T.b_len (by decide +kernel) (pa_cons (pv 3) pa_nil)) pa_nil)) (pg_name (i := 4) sc_law.nd (by rfl) (Or.inl rfl))
  (pss_cons (ps_if (PW.pt (pw_or (pt_cmpR go_lt (pe_ix (go_ix (hu1 hr)) (pv 3) (pv 4) (fun _ _ => rfl)) pe_int (nomark _)) (pw_or1 (pt_cmpR go_ge (pe_ix (go_ix (hu1 hr)) (pv 3) (pv 4) (fun _ _ => rfl)) (pe_callB gc_len (by rfl) T.b_len (by decide +kernel) (pa_cons (pv 1) pa_nil)) (nomark _)))))
  (pss_one (ps_ret pe_bl))
  pss_nil)
  (pss_one (ps_if (PW.pt (pw_and (pt_cmpR go_gt (pv 4) pe_int (nomark _)) (pw_and1 (pt_cmpR go_ge (pe_ix (go_ix (hu1 hr)) (pv 3) (pe_op go_sub (pv 4) pe_int) (fun _ _ => rfl)) (pe_ix (go_ix (hu1 hr)) (pv 3) (pv 4) (fun _ _ => rfl)) (nomark _)))))
  (pss_one (ps_ret pe_bl))
  pss_nil))))
  (pss_cons (ps_if (PW.pt (pw_or (pt_cmpR (go_eq (hu64 hr)) (pe_callB gc_len (by rfl) T.b_len (by decide +kernel) (pa_cons (pv 3) pa_nil)) pe_int (nomark _)) (pw_or (pt_not (pt_val (pe_callSD G_l_calm (hr.mono (by decide)) (by rfl) T.g_l_calm T.k_l_calm T.b_l_calm .nil (fun σ => passAt (takes_of rfl rfl rfl rfl) σ) (pa_cons (pv 1) (pa_cons (pv 3) pa_nil))))) (pw_or1 (pt_not (pt_val (pe_callSD G_l_steady (hr.mono (by decide)) (by rfl) T.g_l_steady T.k_l_steady T.b_l_steady .nil (fun σ => passAt (takes_of rfl rfl rfl rfl) σ) (pa_cons (pv 1) (pa_cons (pv 3) pa_nil)))))))))
  (pss_one (ps_ret pe_bl))
  pss_nil)
  (pss_cons (ps_if (PW.pt (pw_or (pt_cmpR go_lt (pe_ix (go_ix (hu1 hr)) (pv 2) pe_int (fun _ _ => rfl)) pe_int (nomark _)) (pw_or (pt_cmpR go_ge (pe_ix (go_ix (hu1 hr)) (pv 2) pe_int (fun _ _ => rfl)) (pe_callB gc_len (by rfl) T.b_len (by decide +kernel) (pa_cons (pv 1) pa_nil)) (nomark _)) (pw_or1 (pt_not (pt_val (pe_callSD G_l_greatest (hr.mono (by decide)) (by rfl) T.g_l_greatest T.k_l_greatest T.b_l_greatest .nil (fun σ => passAt (takes_of rfl rfl rfl rfl) σ) (pa_cons (pv 1) (pa_cons (pv 3) pa_nil)))))))))
  (pss_one (ps_ret pe_bl))
  pss_nil)
  (pss_cons (ps_for (passes_of rfl) (by rfl) (pi_range1 (by rfl) T.b_range (pa_cons (pe_ix (go_ix (hu1 hr)) (pv 2) pe_int (fun _ _ => rfl)) pa_nil)) (pg_name (i := 5) sc_law.nd (by rfl) (Or.inl rfl))
  (pss_one (ps_if (pt_val (pe_callSD G_l_leads (hr.mono (by decide)) (by rfl) T.g_l_leads T.k_l_leads T.b_l_leads .nil (fun σ => passAt (takes_of rfl rfl rfl rfl) σ) (pa_cons (pv 1) (pa_cons (pv 3) (pa_cons (pv 5) pa_nil)))))
  (pss_one (ps_ret pe_bl))
  pss_nil)))
  (pss_one (ps_ret (pe_callSD G_l_leads (hr.mono (by decide)) (by rfl) T.g_l_leads T.k_l_leads T.b_l_leads .nil (fun σ => passAt (takes_of rfl rfl rfl rfl) σ) (pa_cons (pv 1) (pa_cons (pv 3) (pa_cons (pe_ix (go_ix (hu1 hr)) (pv 2) pe_int (fun _ _ => rfl)) pa_nil)))))))))))))
end
set_option maxHeartbeats 0 in
theorem all_mk {l : PySem.W.OpenLaw} {w : World} {K : PySem.W.Frag} {h : Heap} {mg : Str → Option Value} {fa a_Stranger_init a_NoBack_init a_NotTogether_init a_Group_init a_look_at_size a_look_for_strangers a_unit_of a_back_of a_look_at_threes a_group_of a_product a_look_at_part a_closure a_mixed a_goes_with a_steps_into a_heart a_l_cell a_l_sizes a_l_kind a_l_unit a_l_turned a_l_sum a_l_rows a_l_names a_l_group a_l_backs a_l_calm a_l_steady a_l_greatest a_l_leads a_law c_BadSize c_Stranger c_NoUnit c_NoBack c_NotTogether c_NoPart c_Group : Addr} (X : K.In h) (G : h.Ns mainGlobals mg) (hfa : mg "law" = some (.ref fa))
  {od_Stranger_init an_Stranger_init : Option Addr} {sl_Stranger_init : Array (Option Value)} {oc_Stranger_init kV_Stranger_init dc_Stranger_init pm_Stranger_init cd_Stranger_init ct_Stranger_init : Value}
  {od_NoBack_init an_NoBack_init : Option Addr} {sl_NoBack_init : Array (Option Value)} {oc_NoBack_init kV_NoBack_init dc_NoBack_init pm_NoBack_init cd_NoBack_init ct_NoBack_init : Value}
  {od_NotTogether_init an_NotTogether_init : Option Addr} {sl_NotTogether_init : Array (Option Value)} {oc_NotTogether_init kV_NotTogether_init dc_NotTogether_init pm_NotTogether_init cd_NotTogether_init ct_NotTogether_init : Value}
  {od_Group_init an_Group_init : Option Addr} {sl_Group_init : Array (Option Value)} {oc_Group_init kV_Group_init dc_Group_init pm_Group_init cd_Group_init ct_Group_init : Value}
  {od_look_at_size an_look_at_size : Option Addr} {sl_look_at_size : Array (Option Value)} {oc_look_at_size kV_look_at_size dc_look_at_size pm_look_at_size cd_look_at_size ct_look_at_size : Value}
  {od_look_for_strangers an_look_for_strangers : Option Addr} {sl_look_for_strangers : Array (Option Value)} {oc_look_for_strangers kV_look_for_strangers dc_look_for_strangers pm_look_for_strangers cd_look_for_strangers ct_look_for_strangers : Value}
  {od_unit_of an_unit_of : Option Addr} {sl_unit_of : Array (Option Value)} {oc_unit_of kV_unit_of dc_unit_of pm_unit_of cd_unit_of ct_unit_of : Value}
  {od_back_of an_back_of : Option Addr} {sl_back_of : Array (Option Value)} {oc_back_of kV_back_of dc_back_of pm_back_of cd_back_of ct_back_of : Value}
  {od_look_at_threes an_look_at_threes : Option Addr} {sl_look_at_threes : Array (Option Value)} {oc_look_at_threes kV_look_at_threes dc_look_at_threes pm_look_at_threes cd_look_at_threes ct_look_at_threes : Value}
  {od_group_of an_group_of : Option Addr} {sl_group_of : Array (Option Value)} {oc_group_of kV_group_of dc_group_of pm_group_of cd_group_of ct_group_of : Value}
  {od_product an_product : Option Addr} {sl_product : Array (Option Value)} {oc_product kV_product dc_product pm_product cd_product ct_product : Value}
  {od_look_at_part an_look_at_part : Option Addr} {sl_look_at_part : Array (Option Value)} {oc_look_at_part kV_look_at_part dc_look_at_part pm_look_at_part cd_look_at_part ct_look_at_part : Value}
  {od_closure an_closure : Option Addr} {sl_closure : Array (Option Value)} {oc_closure kV_closure dc_closure pm_closure cd_closure ct_closure : Value}
  {od_mixed an_mixed : Option Addr} {sl_mixed : Array (Option Value)} {oc_mixed kV_mixed dc_mixed pm_mixed cd_mixed ct_mixed : Value}
  {od_goes_with an_goes_with : Option Addr} {sl_goes_with : Array (Option Value)} {oc_goes_with kV_goes_with dc_goes_with pm_goes_with cd_goes_with ct_goes_with : Value}
  {od_steps_into an_steps_into : Option Addr} {sl_steps_into : Array (Option Value)} {oc_steps_into kV_steps_into dc_steps_into pm_steps_into cd_steps_into ct_steps_into : Value}
  {od_heart an_heart : Option Addr} {sl_heart : Array (Option Value)} {oc_heart kV_heart dc_heart pm_heart cd_heart ct_heart : Value}
  {od_l_cell an_l_cell : Option Addr} {sl_l_cell : Array (Option Value)} {oc_l_cell kV_l_cell dc_l_cell pm_l_cell cd_l_cell ct_l_cell : Value}
  {od_l_sizes an_l_sizes : Option Addr} {sl_l_sizes : Array (Option Value)} {oc_l_sizes kV_l_sizes dc_l_sizes pm_l_sizes cd_l_sizes ct_l_sizes : Value}
  {od_l_kind an_l_kind : Option Addr} {sl_l_kind : Array (Option Value)} {oc_l_kind kV_l_kind dc_l_kind pm_l_kind cd_l_kind ct_l_kind : Value}
  {od_l_unit an_l_unit : Option Addr} {sl_l_unit : Array (Option Value)} {oc_l_unit kV_l_unit dc_l_unit pm_l_unit cd_l_unit ct_l_unit : Value}
  {od_l_turned an_l_turned : Option Addr} {sl_l_turned : Array (Option Value)} {oc_l_turned kV_l_turned dc_l_turned pm_l_turned cd_l_turned ct_l_turned : Value}
  {od_l_sum an_l_sum : Option Addr} {sl_l_sum : Array (Option Value)} {oc_l_sum kV_l_sum dc_l_sum pm_l_sum cd_l_sum ct_l_sum : Value}
  {od_l_rows an_l_rows : Option Addr} {sl_l_rows : Array (Option Value)} {oc_l_rows kV_l_rows dc_l_rows pm_l_rows cd_l_rows ct_l_rows : Value}
  {od_l_names an_l_names : Option Addr} {sl_l_names : Array (Option Value)} {oc_l_names kV_l_names dc_l_names pm_l_names cd_l_names ct_l_names : Value}
  {od_l_group an_l_group : Option Addr} {sl_l_group : Array (Option Value)} {oc_l_group kV_l_group dc_l_group pm_l_group cd_l_group ct_l_group : Value}
  {od_l_backs an_l_backs : Option Addr} {sl_l_backs : Array (Option Value)} {oc_l_backs kV_l_backs dc_l_backs pm_l_backs cd_l_backs ct_l_backs : Value}
  {od_l_calm an_l_calm : Option Addr} {sl_l_calm : Array (Option Value)} {oc_l_calm kV_l_calm dc_l_calm pm_l_calm cd_l_calm ct_l_calm : Value}
  {od_l_steady an_l_steady : Option Addr} {sl_l_steady : Array (Option Value)} {oc_l_steady kV_l_steady dc_l_steady pm_l_steady cd_l_steady ct_l_steady : Value}
  {od_l_greatest an_l_greatest : Option Addr} {sl_l_greatest : Array (Option Value)} {oc_l_greatest kV_l_greatest dc_l_greatest pm_l_greatest cd_l_greatest ct_l_greatest : Value}
  {od_l_leads an_l_leads : Option Addr} {sl_l_leads : Array (Option Value)} {oc_l_leads kV_l_leads dc_l_leads pm_l_leads cd_l_leads ct_l_leads : Value}
  {od_law an_law : Option Addr} {sl_law : Array (Option Value)} {oc_law kV_law dc_law pm_law cd_law ct_law : Value}
  {tok_MOST : Tok}
  {nm_NoBack q_NoBack : Str} {N_NoBack : Addr} {bs_NoBack bm_NoBack sub_NoBack : List Value} {sn_NoBack : List Str} {ab_NoBack : Bool} {col_NoBack : Option Bool} {dd_NoBack : Option Addr} {m0_NoBack m1_NoBack m2_NoBack m3_NoBack m5_NoBack : Option Value}
  {nm_NotTogether q_NotTogether : Str} {N_NotTogether : Addr} {bs_NotTogether bm_NotTogether sub_NotTogether : List Value} {sn_NotTogether : List Str} {ab_NotTogether : Bool} {col_NotTogether : Option Bool} {dd_NotTogether : Option Addr} {m0_NotTogether m1_NotTogether m2_NotTogether m3_NotTogether m5_NotTogether : Option Value}
  {nm_Stranger q_Stranger : Str} {N_Stranger : Addr} {bs_Stranger bm_Stranger sub_Stranger : List Value} {sn_Stranger : List Str} {ab_Stranger : Bool} {col_Stranger : Option Bool} {dd_Stranger : Option Addr} {m0_Stranger m1_Stranger m2_Stranger m3_Stranger m5_Stranger : Option Value}
  (ac_BadSize : PySem.W.nsIn K mainGlobals "BadSize" = some (some (.ref c_BadSize)))
  (ac_Stranger : PySem.W.nsIn K mainGlobals "Stranger" = some (some (.ref c_Stranger)))
  (ac_NoUnit : PySem.W.nsIn K mainGlobals "NoUnit" = some (some (.ref c_NoUnit)))
  (ac_NoBack : PySem.W.nsIn K mainGlobals "NoBack" = some (some (.ref c_NoBack)))
  (ac_NotTogether : PySem.W.nsIn K mainGlobals "NotTogether" = some (some (.ref c_NotTogether)))
  (ac_NoPart : PySem.W.nsIn K mainGlobals "NoPart" = some (some (.ref c_NoPart)))
  (ac_Group : PySem.W.nsIn K mainGlobals "Group" = some (some (.ref c_Group)))
  (a1_Stranger_init : PySem.W.findIn K (.ref c_Stranger) "__init__" = some (some (.ref a_Stranger_init)))
  (i1_Stranger_init : PySem.W.isFn K (.ref a_Stranger_init) = true)
  (l1_Stranger_init : K.lookup a_Stranger_init = some ⟨oc_Stranger_init, od_Stranger_init, .func (PySem.W.fnOf "__init__" "Stranger.__init__" (defArgs s_Stranger_init) (defBody s_Stranger_init) (defScope s_Stranger_init) .none kV_Stranger_init dc_Stranger_init pm_Stranger_init an_Stranger_init cd_Stranger_init ct_Stranger_init), sl_Stranger_init⟩)
  (c1_Stranger_init : PySem.W.codeIn K cd_Stranger_init "Stranger.__init__" = true)
  (k1_Stranger_init : PySem.W.keepIn K (.ref a_Stranger_init) = true)
  (a1_NoBack_init : PySem.W.findIn K (.ref c_NoBack) "__init__" = some (some (.ref a_NoBack_init)))
  (i1_NoBack_init : PySem.W.isFn K (.ref a_NoBack_init) = true)
  (l1_NoBack_init : K.lookup a_NoBack_init = some ⟨oc_NoBack_init, od_NoBack_init, .func (PySem.W.fnOf "__init__" "NoBack.__init__" (defArgs s_NoBack_init) (defBody s_NoBack_init) (defScope s_NoBack_init) .none kV_NoBack_init dc_NoBack_init pm_NoBack_init an_NoBack_init cd_NoBack_init ct_NoBack_init), sl_NoBack_init⟩)
  (c1_NoBack_init : PySem.W.codeIn K cd_NoBack_init "NoBack.__init__" = true)
  (k1_NoBack_init : PySem.W.keepIn K (.ref a_NoBack_init) = true)
  (a1_NotTogether_init : PySem.W.findIn K (.ref c_NotTogether) "__init__" = some (some (.ref a_NotTogether_init)))
  (i1_NotTogether_init : PySem.W.isFn K (.ref a_NotTogether_init) = true)
  (l1_NotTogether_init : K.lookup a_NotTogether_init = some ⟨oc_NotTogether_init, od_NotTogether_init, .func (PySem.W.fnOf "__init__" "NotTogether.__init__" (defArgs s_NotTogether_init) (defBody s_NotTogether_init) (defScope s_NotTogether_init) .none kV_NotTogether_init dc_NotTogether_init pm_NotTogether_init an_NotTogether_init cd_NotTogether_init ct_NotTogether_init), sl_NotTogether_init⟩)
  (c1_NotTogether_init : PySem.W.codeIn K cd_NotTogether_init "NotTogether.__init__" = true)
  (k1_NotTogether_init : PySem.W.keepIn K (.ref a_NotTogether_init) = true)
  (a1_Group_init : PySem.W.findIn K (.ref c_Group) "__init__" = some (some (.ref a_Group_init)))
  (i1_Group_init : PySem.W.isFn K (.ref a_Group_init) = true)
  (l1_Group_init : K.lookup a_Group_init = some ⟨oc_Group_init, od_Group_init, .func (PySem.W.fnOf "__init__" "Group.__init__" (defArgs s_Group_init) (defBody s_Group_init) (defScope s_Group_init) .none kV_Group_init dc_Group_init pm_Group_init an_Group_init cd_Group_init ct_Group_init), sl_Group_init⟩)
  (c1_Group_init : PySem.W.codeIn K cd_Group_init "Group.__init__" = true)
  (k1_Group_init : PySem.W.keepIn K (.ref a_Group_init) = true)
  (a1_look_at_size : PySem.W.nsIn K mainGlobals "look_at_size" = some (some (.ref a_look_at_size)))
  (l1_look_at_size : K.lookup a_look_at_size = some ⟨oc_look_at_size, od_look_at_size, .func (PySem.W.fnOf "look_at_size" "look_at_size" (defArgs s_look_at_size) (defBody s_look_at_size) (defScope s_look_at_size) .none kV_look_at_size dc_look_at_size pm_look_at_size an_look_at_size cd_look_at_size ct_look_at_size), sl_look_at_size⟩)
  (c1_look_at_size : PySem.W.codeIn K cd_look_at_size "look_at_size" = true)
  (k1_look_at_size : PySem.W.keepIn K (.ref a_look_at_size) = true)
  (a1_look_for_strangers : PySem.W.nsIn K mainGlobals "look_for_strangers" = some (some (.ref a_look_for_strangers)))
  (l1_look_for_strangers : K.lookup a_look_for_strangers = some ⟨oc_look_for_strangers, od_look_for_strangers, .func (PySem.W.fnOf "look_for_strangers" "look_for_strangers" (defArgs s_look_for_strangers) (defBody s_look_for_strangers) (defScope s_look_for_strangers) .none kV_look_for_strangers dc_look_for_strangers pm_look_for_strangers an_look_for_strangers cd_look_for_strangers ct_look_for_strangers), sl_look_for_strangers⟩)
  (c1_look_for_strangers : PySem.W.codeIn K cd_look_for_strangers "look_for_strangers" = true)
  (k1_look_for_strangers : PySem.W.keepIn K (.ref a_look_for_strangers) = true)
  (a1_unit_of : PySem.W.nsIn K mainGlobals "unit_of" = some (some (.ref a_unit_of)))
  (l1_unit_of : K.lookup a_unit_of = some ⟨oc_unit_of, od_unit_of, .func (PySem.W.fnOf "unit_of" "unit_of" (defArgs s_unit_of) (defBody s_unit_of) (defScope s_unit_of) .none kV_unit_of dc_unit_of pm_unit_of an_unit_of cd_unit_of ct_unit_of), sl_unit_of⟩)
  (c1_unit_of : PySem.W.codeIn K cd_unit_of "unit_of" = true)
  (k1_unit_of : PySem.W.keepIn K (.ref a_unit_of) = true)
  (a1_back_of : PySem.W.nsIn K mainGlobals "back_of" = some (some (.ref a_back_of)))
  (l1_back_of : K.lookup a_back_of = some ⟨oc_back_of, od_back_of, .func (PySem.W.fnOf "back_of" "back_of" (defArgs s_back_of) (defBody s_back_of) (defScope s_back_of) .none kV_back_of dc_back_of pm_back_of an_back_of cd_back_of ct_back_of), sl_back_of⟩)
  (c1_back_of : PySem.W.codeIn K cd_back_of "back_of" = true)
  (k1_back_of : PySem.W.keepIn K (.ref a_back_of) = true)
  (a1_look_at_threes : PySem.W.nsIn K mainGlobals "look_at_threes" = some (some (.ref a_look_at_threes)))
  (l1_look_at_threes : K.lookup a_look_at_threes = some ⟨oc_look_at_threes, od_look_at_threes, .func (PySem.W.fnOf "look_at_threes" "look_at_threes" (defArgs s_look_at_threes) (defBody s_look_at_threes) (defScope s_look_at_threes) .none kV_look_at_threes dc_look_at_threes pm_look_at_threes an_look_at_threes cd_look_at_threes ct_look_at_threes), sl_look_at_threes⟩)
  (c1_look_at_threes : PySem.W.codeIn K cd_look_at_threes "look_at_threes" = true)
  (k1_look_at_threes : PySem.W.keepIn K (.ref a_look_at_threes) = true)
  (a1_group_of : PySem.W.nsIn K mainGlobals "group_of" = some (some (.ref a_group_of)))
  (l1_group_of : K.lookup a_group_of = some ⟨oc_group_of, od_group_of, .func (PySem.W.fnOf "group_of" "group_of" (defArgs s_group_of) (defBody s_group_of) (defScope s_group_of) .none kV_group_of dc_group_of pm_group_of an_group_of cd_group_of ct_group_of), sl_group_of⟩)
  (c1_group_of : PySem.W.codeIn K cd_group_of "group_of" = true)
  (k1_group_of : PySem.W.keepIn K (.ref a_group_of) = true)
  (a1_product : PySem.W.nsIn K mainGlobals "product" = some (some (.ref a_product)))
  (l1_product : K.lookup a_product = some ⟨oc_product, od_product, .func (PySem.W.fnOf "product" "product" (defArgs s_product) (defBody s_product) (defScope s_product) .none kV_product dc_product pm_product an_product cd_product ct_product), sl_product⟩)
  (c1_product : PySem.W.codeIn K cd_product "product" = true)
  (k1_product : PySem.W.keepIn K (.ref a_product) = true)
  (a1_look_at_part : PySem.W.nsIn K mainGlobals "look_at_part" = some (some (.ref a_look_at_part)))
  (l1_look_at_part : K.lookup a_look_at_part = some ⟨oc_look_at_part, od_look_at_part, .func (PySem.W.fnOf "look_at_part" "look_at_part" (defArgs s_look_at_part) (defBody s_look_at_part) (defScope s_look_at_part) .none kV_look_at_part dc_look_at_part pm_look_at_part an_look_at_part cd_look_at_part ct_look_at_part), sl_look_at_part⟩)
  (c1_look_at_part : PySem.W.codeIn K cd_look_at_part "look_at_part" = true)
  (k1_look_at_part : PySem.W.keepIn K (.ref a_look_at_part) = true)
  (a1_closure : PySem.W.nsIn K mainGlobals "closure" = some (some (.ref a_closure)))
  (l1_closure : K.lookup a_closure = some ⟨oc_closure, od_closure, .func (PySem.W.fnOf "closure" "closure" (defArgs s_closure) (defBody s_closure) (defScope s_closure) .none kV_closure dc_closure pm_closure an_closure cd_closure ct_closure), sl_closure⟩)
  (c1_closure : PySem.W.codeIn K cd_closure "closure" = true)
  (k1_closure : PySem.W.keepIn K (.ref a_closure) = true)
  (a1_mixed : PySem.W.nsIn K mainGlobals "mixed" = some (some (.ref a_mixed)))
  (l1_mixed : K.lookup a_mixed = some ⟨oc_mixed, od_mixed, .func (PySem.W.fnOf "mixed" "mixed" (defArgs s_mixed) (defBody s_mixed) (defScope s_mixed) .none kV_mixed dc_mixed pm_mixed an_mixed cd_mixed ct_mixed), sl_mixed⟩)
  (c1_mixed : PySem.W.codeIn K cd_mixed "mixed" = true)
  (k1_mixed : PySem.W.keepIn K (.ref a_mixed) = true)
  (a1_goes_with : PySem.W.nsIn K mainGlobals "goes_with" = some (some (.ref a_goes_with)))
  (l1_goes_with : K.lookup a_goes_with = some ⟨oc_goes_with, od_goes_with, .func (PySem.W.fnOf "goes_with" "goes_with" (defArgs s_goes_with) (defBody s_goes_with) (defScope s_goes_with) .none kV_goes_with dc_goes_with pm_goes_with an_goes_with cd_goes_with ct_goes_with), sl_goes_with⟩)
  (c1_goes_with : PySem.W.codeIn K cd_goes_with "goes_with" = true)
  (k1_goes_with : PySem.W.keepIn K (.ref a_goes_with) = true)
  (a1_steps_into : PySem.W.nsIn K mainGlobals "steps_into" = some (some (.ref a_steps_into)))
  (l1_steps_into : K.lookup a_steps_into = some ⟨oc_steps_into, od_steps_into, .func (PySem.W.fnOf "steps_into" "steps_into" (defArgs s_steps_into) (defBody s_steps_into) (defScope s_steps_into) .none kV_steps_into dc_steps_into pm_steps_into an_steps_into cd_steps_into ct_steps_into), sl_steps_into⟩)
  (c1_steps_into : PySem.W.codeIn K cd_steps_into "steps_into" = true)
  (k1_steps_into : PySem.W.keepIn K (.ref a_steps_into) = true)
  (a1_heart : PySem.W.nsIn K mainGlobals "heart" = some (some (.ref a_heart)))
  (l1_heart : K.lookup a_heart = some ⟨oc_heart, od_heart, .func (PySem.W.fnOf "heart" "heart" (defArgs s_heart) (defBody s_heart) (defScope s_heart) .none kV_heart dc_heart pm_heart an_heart cd_heart ct_heart), sl_heart⟩)
  (c1_heart : PySem.W.codeIn K cd_heart "heart" = true)
  (k1_heart : PySem.W.keepIn K (.ref a_heart) = true)
  (a1_l_cell : PySem.W.nsIn K mainGlobals "_law_cell" = some (some (.ref a_l_cell)))
  (l1_l_cell : K.lookup a_l_cell = some ⟨oc_l_cell, od_l_cell, .func (PySem.W.fnOf "_law_cell" "_law_cell" (defArgs s_l_cell) (defBody s_l_cell) (defScope s_l_cell) .none kV_l_cell dc_l_cell pm_l_cell an_l_cell cd_l_cell ct_l_cell), sl_l_cell⟩)
  (c1_l_cell : PySem.W.codeIn K cd_l_cell "_law_cell" = true)
  (k1_l_cell : PySem.W.keepIn K (.ref a_l_cell) = true)
  (a1_l_sizes : PySem.W.nsIn K mainGlobals "_law_sizes" = some (some (.ref a_l_sizes)))
  (l1_l_sizes : K.lookup a_l_sizes = some ⟨oc_l_sizes, od_l_sizes, .func (PySem.W.fnOf "_law_sizes" "_law_sizes" (defArgs s_l_sizes) (defBody s_l_sizes) (defScope s_l_sizes) .none kV_l_sizes dc_l_sizes pm_l_sizes an_l_sizes cd_l_sizes ct_l_sizes), sl_l_sizes⟩)
  (c1_l_sizes : PySem.W.codeIn K cd_l_sizes "_law_sizes" = true)
  (k1_l_sizes : PySem.W.keepIn K (.ref a_l_sizes) = true)
  (a1_l_kind : PySem.W.nsIn K mainGlobals "_law_kind" = some (some (.ref a_l_kind)))
  (l1_l_kind : K.lookup a_l_kind = some ⟨oc_l_kind, od_l_kind, .func (PySem.W.fnOf "_law_kind" "_law_kind" (defArgs s_l_kind) (defBody s_l_kind) (defScope s_l_kind) .none kV_l_kind dc_l_kind pm_l_kind an_l_kind cd_l_kind ct_l_kind), sl_l_kind⟩)
  (c1_l_kind : PySem.W.codeIn K cd_l_kind "_law_kind" = true)
  (k1_l_kind : PySem.W.keepIn K (.ref a_l_kind) = true)
  (a1_l_unit : PySem.W.nsIn K mainGlobals "_law_unit" = some (some (.ref a_l_unit)))
  (l1_l_unit : K.lookup a_l_unit = some ⟨oc_l_unit, od_l_unit, .func (PySem.W.fnOf "_law_unit" "_law_unit" (defArgs s_l_unit) (defBody s_l_unit) (defScope s_l_unit) .none kV_l_unit dc_l_unit pm_l_unit an_l_unit cd_l_unit ct_l_unit), sl_l_unit⟩)
  (c1_l_unit : PySem.W.codeIn K cd_l_unit "_law_unit" = true)
  (k1_l_unit : PySem.W.keepIn K (.ref a_l_unit) = true)
  (a1_l_turned : PySem.W.nsIn K mainGlobals "_law_turned" = some (some (.ref a_l_turned)))
  (l1_l_turned : K.lookup a_l_turned = some ⟨oc_l_turned, od_l_turned, .func (PySem.W.fnOf "_law_turned" "_law_turned" (defArgs s_l_turned) (defBody s_l_turned) (defScope s_l_turned) .none kV_l_turned dc_l_turned pm_l_turned an_l_turned cd_l_turned ct_l_turned), sl_l_turned⟩)
  (c1_l_turned : PySem.W.codeIn K cd_l_turned "_law_turned" = true)
  (k1_l_turned : PySem.W.keepIn K (.ref a_l_turned) = true)
  (a1_l_sum : PySem.W.nsIn K mainGlobals "_law_sum" = some (some (.ref a_l_sum)))
  (l1_l_sum : K.lookup a_l_sum = some ⟨oc_l_sum, od_l_sum, .func (PySem.W.fnOf "_law_sum" "_law_sum" (defArgs s_l_sum) (defBody s_l_sum) (defScope s_l_sum) .none kV_l_sum dc_l_sum pm_l_sum an_l_sum cd_l_sum ct_l_sum), sl_l_sum⟩)
  (c1_l_sum : PySem.W.codeIn K cd_l_sum "_law_sum" = true)
  (k1_l_sum : PySem.W.keepIn K (.ref a_l_sum) = true)
  (a1_l_rows : PySem.W.nsIn K mainGlobals "_law_rows" = some (some (.ref a_l_rows)))
  (l1_l_rows : K.lookup a_l_rows = some ⟨oc_l_rows, od_l_rows, .func (PySem.W.fnOf "_law_rows" "_law_rows" (defArgs s_l_rows) (defBody s_l_rows) (defScope s_l_rows) .none kV_l_rows dc_l_rows pm_l_rows an_l_rows cd_l_rows ct_l_rows), sl_l_rows⟩)
  (c1_l_rows : PySem.W.codeIn K cd_l_rows "_law_rows" = true)
  (k1_l_rows : PySem.W.keepIn K (.ref a_l_rows) = true)
  (a1_l_names : PySem.W.nsIn K mainGlobals "_law_names" = some (some (.ref a_l_names)))
  (l1_l_names : K.lookup a_l_names = some ⟨oc_l_names, od_l_names, .func (PySem.W.fnOf "_law_names" "_law_names" (defArgs s_l_names) (defBody s_l_names) (defScope s_l_names) .none kV_l_names dc_l_names pm_l_names an_l_names cd_l_names ct_l_names), sl_l_names⟩)
  (c1_l_names : PySem.W.codeIn K cd_l_names "_law_names" = true)
  (k1_l_names : PySem.W.keepIn K (.ref a_l_names) = true)
  (a1_l_group : PySem.W.nsIn K mainGlobals "_law_group" = some (some (.ref a_l_group)))
  (l1_l_group : K.lookup a_l_group = some ⟨oc_l_group, od_l_group, .func (PySem.W.fnOf "_law_group" "_law_group" (defArgs s_l_group) (defBody s_l_group) (defScope s_l_group) .none kV_l_group dc_l_group pm_l_group an_l_group cd_l_group ct_l_group), sl_l_group⟩)
  (c1_l_group : PySem.W.codeIn K cd_l_group "_law_group" = true)
  (k1_l_group : PySem.W.keepIn K (.ref a_l_group) = true)
  (a1_l_backs : PySem.W.nsIn K mainGlobals "_law_backs" = some (some (.ref a_l_backs)))
  (l1_l_backs : K.lookup a_l_backs = some ⟨oc_l_backs, od_l_backs, .func (PySem.W.fnOf "_law_backs" "_law_backs" (defArgs s_l_backs) (defBody s_l_backs) (defScope s_l_backs) .none kV_l_backs dc_l_backs pm_l_backs an_l_backs cd_l_backs ct_l_backs), sl_l_backs⟩)
  (c1_l_backs : PySem.W.codeIn K cd_l_backs "_law_backs" = true)
  (k1_l_backs : PySem.W.keepIn K (.ref a_l_backs) = true)
  (a1_l_calm : PySem.W.nsIn K mainGlobals "_law_calm" = some (some (.ref a_l_calm)))
  (l1_l_calm : K.lookup a_l_calm = some ⟨oc_l_calm, od_l_calm, .func (PySem.W.fnOf "_law_calm" "_law_calm" (defArgs s_l_calm) (defBody s_l_calm) (defScope s_l_calm) .none kV_l_calm dc_l_calm pm_l_calm an_l_calm cd_l_calm ct_l_calm), sl_l_calm⟩)
  (c1_l_calm : PySem.W.codeIn K cd_l_calm "_law_calm" = true)
  (k1_l_calm : PySem.W.keepIn K (.ref a_l_calm) = true)
  (a1_l_steady : PySem.W.nsIn K mainGlobals "_law_steady" = some (some (.ref a_l_steady)))
  (l1_l_steady : K.lookup a_l_steady = some ⟨oc_l_steady, od_l_steady, .func (PySem.W.fnOf "_law_steady" "_law_steady" (defArgs s_l_steady) (defBody s_l_steady) (defScope s_l_steady) .none kV_l_steady dc_l_steady pm_l_steady an_l_steady cd_l_steady ct_l_steady), sl_l_steady⟩)
  (c1_l_steady : PySem.W.codeIn K cd_l_steady "_law_steady" = true)
  (k1_l_steady : PySem.W.keepIn K (.ref a_l_steady) = true)
  (a1_l_greatest : PySem.W.nsIn K mainGlobals "_law_greatest" = some (some (.ref a_l_greatest)))
  (l1_l_greatest : K.lookup a_l_greatest = some ⟨oc_l_greatest, od_l_greatest, .func (PySem.W.fnOf "_law_greatest" "_law_greatest" (defArgs s_l_greatest) (defBody s_l_greatest) (defScope s_l_greatest) .none kV_l_greatest dc_l_greatest pm_l_greatest an_l_greatest cd_l_greatest ct_l_greatest), sl_l_greatest⟩)
  (c1_l_greatest : PySem.W.codeIn K cd_l_greatest "_law_greatest" = true)
  (k1_l_greatest : PySem.W.keepIn K (.ref a_l_greatest) = true)
  (a1_l_leads : PySem.W.nsIn K mainGlobals "_law_leads" = some (some (.ref a_l_leads)))
  (l1_l_leads : K.lookup a_l_leads = some ⟨oc_l_leads, od_l_leads, .func (PySem.W.fnOf "_law_leads" "_law_leads" (defArgs s_l_leads) (defBody s_l_leads) (defScope s_l_leads) .none kV_l_leads dc_l_leads pm_l_leads an_l_leads cd_l_leads ct_l_leads), sl_l_leads⟩)
  (c1_l_leads : PySem.W.codeIn K cd_l_leads "_law_leads" = true)
  (k1_l_leads : PySem.W.keepIn K (.ref a_l_leads) = true)
  (a1_law : PySem.W.nsIn K mainGlobals "law" = some (some (.ref a_law)))
  (l1_law : K.lookup a_law = some ⟨oc_law, od_law, .func (PySem.W.fnOf "law" "law" (defArgs s_law) (defBody s_law) (defScope s_law) .none kV_law dc_law pm_law an_law cd_law ct_law), sl_law⟩)
  (c1_law : PySem.W.codeIn K cd_law "law" = true)
  (k1_law : PySem.W.keepIn K (.ref a_law) = true)
  (z_all : PySem.W.nsIn K mainGlobals "all" = some none)
  (z_enumerate : PySem.W.nsIn K mainGlobals "enumerate" = some none)
  (z_len : PySem.W.nsIn K mainGlobals "len" = some none)
  (z_list : PySem.W.nsIn K mainGlobals "list" = some none)
  (z_range : PySem.W.nsIn K mainGlobals "range" = some none)
  (z_sorted : PySem.W.nsIn K mainGlobals "sorted" = some none)
  (v_MOST : PySem.W.nsIn K mainGlobals "MOST" = some (some (.int 23 tok_MOST)))
  (mk_Group : PySem.W.makesIn K c_Group = true)
  (kc_Group : PySem.W.keepIn K (.ref c_Group) = true)
  (pg_Group : PySem.W.plainGet K c_Group Str.empty = true)
  (hd_Group : PySem.W.hasDictIn K c_Group = true)
  (po_Group : PySem.W.plainOver K c_Group = true)
  (sa_Group : PySem.W.findIn K (.ref c_Group) "__setattr__" = some (some (.builtin "object.__setattr__")))
  (nG_many : PySem.W.findIn K (.ref c_Group) "many" = some none)
  (nG_rows : PySem.W.findIn K (.ref c_Group) "rows" = some none)
  (nG_unit : PySem.W.findIn K (.ref c_Group) "unit" = some none)
  (nG_backs : PySem.W.findIn K (.ref c_Group) "backs" = some none)
  (x_BadSize : PySem.W.excIn K c_BadSize [.type "ValueError", .type "Exception", .type "BaseException", .type "object"] "ValueError.__new__" = true)
  (kx_BadSize : PySem.W.keepIn K (.ref c_BadSize) = true)
  (rx_BadSize : PySem.W.subIn K (.ref c_BadSize) (.type "BaseException") = some true)
  (rt_BadSize : PySem.W.typeIn K (.ref c_BadSize) = some (.type "type"))
  (x_NoPart : PySem.W.excIn K c_NoPart [.type "ValueError", .type "Exception", .type "BaseException", .type "object"] "ValueError.__new__" = true)
  (kx_NoPart : PySem.W.keepIn K (.ref c_NoPart) = true)
  (rx_NoPart : PySem.W.subIn K (.ref c_NoPart) (.type "BaseException") = some true)
  (rt_NoPart : PySem.W.typeIn K (.ref c_NoPart) = some (.type "type"))
  (x_NoUnit : PySem.W.excIn K c_NoUnit [.type "ValueError", .type "Exception", .type "BaseException", .type "object"] "ValueError.__new__" = true)
  (kx_NoUnit : PySem.W.keepIn K (.ref c_NoUnit) = true)
  (rx_NoUnit : PySem.W.subIn K (.ref c_NoUnit) (.type "BaseException") = some true)
  (rt_NoUnit : PySem.W.typeIn K (.ref c_NoUnit) = some (.type "type"))
  (xL_NoBack : K.lookup c_NoBack = some (excClassObj nm_NoBack q_NoBack c_NoBack N_NoBack bs_NoBack bm_NoBack true sn_NoBack sub_NoBack ab_NoBack col_NoBack dd_NoBack m0_NoBack m1_NoBack m2_NoBack m3_NoBack m5_NoBack "ValueError.__new__"))
  (bm_NoBack_ok : PySem.HandSPX.refsVE bm_NoBack = true)
  (sa_NoBack : PySem.W.findIn K (.ref c_NoBack) "__setattr__" = some (some (.builtin "object.__setattr__")))
  (rx_NoBack : PySem.W.subIn K (.ref c_NoBack) (.type "BaseException") = some true)
  (rt_NoBack : PySem.W.typeIn K (.ref c_NoBack) = some (.type "type"))
  (kx_NoBack : PySem.W.keepIn K (.ref c_NoBack) = true)
  (ti_NoBack : PySem.W.typeIn K (.ref a_NoBack_init) = some (.type "function"))
  (n_NoBack_thing : PySem.W.findIn K (.ref c_NoBack) "thing" = some none)
  (xL_NotTogether : K.lookup c_NotTogether = some (excClassObj nm_NotTogether q_NotTogether c_NotTogether N_NotTogether bs_NotTogether bm_NotTogether true sn_NotTogether sub_NotTogether ab_NotTogether col_NotTogether dd_NotTogether m0_NotTogether m1_NotTogether m2_NotTogether m3_NotTogether m5_NotTogether "ValueError.__new__"))
  (bm_NotTogether_ok : PySem.HandSPX.refsVE bm_NotTogether = true)
  (sa_NotTogether : PySem.W.findIn K (.ref c_NotTogether) "__setattr__" = some (some (.builtin "object.__setattr__")))
  (rx_NotTogether : PySem.W.subIn K (.ref c_NotTogether) (.type "BaseException") = some true)
  (rt_NotTogether : PySem.W.typeIn K (.ref c_NotTogether) = some (.type "type"))
  (kx_NotTogether : PySem.W.keepIn K (.ref c_NotTogether) = true)
  (ti_NotTogether : PySem.W.typeIn K (.ref a_NotTogether_init) = some (.type "function"))
  (n_NotTogether_one : PySem.W.findIn K (.ref c_NotTogether) "one" = some none)
  (n_NotTogether_two : PySem.W.findIn K (.ref c_NotTogether) "two" = some none)
  (n_NotTogether_three : PySem.W.findIn K (.ref c_NotTogether) "three" = some none)
  (xL_Stranger : K.lookup c_Stranger = some (excClassObj nm_Stranger q_Stranger c_Stranger N_Stranger bs_Stranger bm_Stranger true sn_Stranger sub_Stranger ab_Stranger col_Stranger dd_Stranger m0_Stranger m1_Stranger m2_Stranger m3_Stranger m5_Stranger "ValueError.__new__"))
  (bm_Stranger_ok : PySem.HandSPX.refsVE bm_Stranger = true)
  (sa_Stranger : PySem.W.findIn K (.ref c_Stranger) "__setattr__" = some (some (.builtin "object.__setattr__")))
  (rx_Stranger : PySem.W.subIn K (.ref c_Stranger) (.type "BaseException") = some true)
  (rt_Stranger : PySem.W.typeIn K (.ref c_Stranger) = some (.type "type"))
  (kx_Stranger : PySem.W.keepIn K (.ref c_Stranger) = true)
  (ti_Stranger : PySem.W.typeIn K (.ref a_Stranger_init) = some (.type "function"))
  (n_Stranger_row : PySem.W.findIn K (.ref c_Stranger) "row" = some none)
  (n_Stranger_column : PySem.W.findIn K (.ref c_Stranger) "column" = some none)
  : ∃ fd : FuncData, (∀ (s : Shared) (v : Value), BindsTo s fd ⟨[v], []⟩ [("_law_script", v)]) ∧ ∀ base : Heap, K.In base → base.Ns mainGlobals mg → FnOk l.prog w K mg base (L2.CX l.prog w) 5 fa fd ["_law_script"] (spLaw K) := by
  have e := (PySem.W.mg_of X G a1_law).symm.trans hfa
  cases e
  obtain ⟨cls, e_BadSize, e_Stranger, e_NoUnit, e_NoBack, e_NotTogether, e_NoPart, e_Group⟩ : ∃ cls : CN → Addr, cls .BadSize = c_BadSize ∧ cls .Stranger = c_Stranger ∧ cls .NoUnit = c_NoUnit ∧ cls .NoBack = c_NoBack ∧ cls .NotTogether = c_NotTogether ∧ cls .NoPart = c_NoPart ∧ cls .Group = c_Group := ⟨fun n => match n with | .BadSize => c_BadSize | .Stranger => c_Stranger | .NoUnit => c_NoUnit | .NoBack => c_NoBack | .NotTogether => c_NotTogether | .NoPart => c_NoPart | .Group => c_Group | _ => 0, rfl, rfl, rfl, rfl, rfl, rfl, rfl⟩
  subst e_BadSize
  subst e_Stranger
  subst e_NoUnit
  subst e_NoBack
  subst e_NotTogether
  subst e_NoPart
  subst e_Group
  have F_Stranger_init := fun_mk (st := s_Stranger_init) l1_Stranger_init c1_Stranger_init k1_Stranger_init
  have b_Stranger_init := F_Stranger_init.binds (ps := ["self", "row", "column"]) fun _ _ _ _ _ _ us hl => match us, hl with | [_, _, _], _ => rfl
  have F_NoBack_init := fun_mk (st := s_NoBack_init) l1_NoBack_init c1_NoBack_init k1_NoBack_init
  have b_NoBack_init := F_NoBack_init.binds (ps := ["self", "thing"]) fun _ _ _ _ _ _ us hl => match us, hl with | [_, _], _ => rfl
  have F_NotTogether_init := fun_mk (st := s_NotTogether_init) l1_NotTogether_init c1_NotTogether_init k1_NotTogether_init
  have b_NotTogether_init := F_NotTogether_init.binds (ps := ["self", "one", "two", "three"]) fun _ _ _ _ _ _ us hl => match us, hl with | [_, _, _, _], _ => rfl
  have F_Group_init := fun_mk (st := s_Group_init) l1_Group_init c1_Group_init k1_Group_init
  have b_Group_init := F_Group_init.binds (ps := ["self", "rows", "unit", "backs"]) fun _ _ _ _ _ _ us hl => match us, hl with | [_, _, _, _], _ => rfl
  have F_look_at_size := fun_mk (st := s_look_at_size) l1_look_at_size c1_look_at_size k1_look_at_size
  have b_look_at_size := F_look_at_size.binds (ps := ["table"]) fun _ _ _ _ _ _ us hl => match us, hl with | [_], _ => rfl
  have F_look_for_strangers := fun_mk (st := s_look_for_strangers) l1_look_for_strangers c1_look_for_strangers k1_look_for_strangers
  have b_look_for_strangers := F_look_for_strangers.binds (ps := ["table"]) fun _ _ _ _ _ _ us hl => match us, hl with | [_], _ => rfl
  have F_unit_of := fun_mk (st := s_unit_of) l1_unit_of c1_unit_of k1_unit_of
  have b_unit_of := F_unit_of.binds (ps := ["table"]) fun _ _ _ _ _ _ us hl => match us, hl with | [_], _ => rfl
  have F_back_of := fun_mk (st := s_back_of) l1_back_of c1_back_of k1_back_of
  have b_back_of := F_back_of.binds (ps := ["table", "unit", "thing"]) fun _ _ _ _ _ _ us hl => match us, hl with | [_, _, _], _ => rfl
  have F_look_at_threes := fun_mk (st := s_look_at_threes) l1_look_at_threes c1_look_at_threes k1_look_at_threes
  have b_look_at_threes := F_look_at_threes.binds (ps := ["table"]) fun _ _ _ _ _ _ us hl => match us, hl with | [_], _ => rfl
  have F_group_of := fun_mk (st := s_group_of) l1_group_of c1_group_of k1_group_of
  have b_group_of := F_group_of.binds (ps := ["table"]) fun _ _ _ _ _ _ us hl => match us, hl with | [_], _ => rfl
  have F_product := fun_mk (st := s_product) l1_product c1_product k1_product
  have b_product := F_product.binds (ps := ["group", "things"]) fun _ _ _ _ _ _ us hl => match us, hl with | [_, _], _ => rfl
  have F_look_at_part := fun_mk (st := s_look_at_part) l1_look_at_part c1_look_at_part k1_look_at_part
  have b_look_at_part := F_look_at_part.binds (ps := ["group", "part"]) fun _ _ _ _ _ _ us hl => match us, hl with | [_, _], _ => rfl
  have F_closure := fun_mk (st := s_closure) l1_closure c1_closure k1_closure
  have b_closure := F_closure.binds (ps := ["group", "some"]) fun _ _ _ _ _ _ us hl => match us, hl with | [_, _], _ => rfl
  have F_mixed := fun_mk (st := s_mixed) l1_mixed c1_mixed k1_mixed
  have b_mixed := F_mixed.binds (ps := ["group", "part"]) fun _ _ _ _ _ _ us hl => match us, hl with | [_, _], _ => rfl
  have F_goes_with := fun_mk (st := s_goes_with) l1_goes_with c1_goes_with k1_goes_with
  have b_goes_with := F_goes_with.binds (ps := ["group", "thing", "part"]) fun _ _ _ _ _ _ us hl => match us, hl with | [_, _, _], _ => rfl
  have F_steps_into := fun_mk (st := s_steps_into) l1_steps_into c1_steps_into k1_steps_into
  have b_steps_into := F_steps_into.binds (ps := ["group", "part", "thing"]) fun _ _ _ _ _ _ us hl => match us, hl with | [_, _, _], _ => rfl
  have F_heart := fun_mk (st := s_heart) l1_heart c1_heart k1_heart
  have b_heart := F_heart.binds (ps := ["group"]) fun _ _ _ _ _ _ us hl => match us, hl with | [_], _ => rfl
  have F_l_cell := fun_mk (st := s_l_cell) l1_l_cell c1_l_cell k1_l_cell
  have b_l_cell := F_l_cell.binds (ps := ["_law_script", "_law_k"]) fun _ _ _ _ _ _ us hl => match us, hl with | [_, _], _ => rfl
  have F_l_sizes := fun_mk (st := s_l_sizes) l1_l_sizes c1_l_sizes k1_l_sizes
  have b_l_sizes := F_l_sizes.binds (ps := ["_law_one", "_law_two"]) fun _ _ _ _ _ _ us hl => match us, hl with | [_, _], _ => rfl
  have F_l_kind := fun_mk (st := s_l_kind) l1_l_kind c1_l_kind k1_l_kind
  have b_l_kind := F_l_kind.binds (ps := ["_law_sizes_here", "_law_number"]) fun _ _ _ _ _ _ us hl => match us, hl with | [_, _], _ => rfl
  have F_l_unit := fun_mk (st := s_l_unit) l1_l_unit c1_l_unit k1_l_unit
  have b_l_unit := F_l_unit.binds (ps := ["_law_many", "_law_steps", "_law_number"]) fun _ _ _ _ _ _ us hl => match us, hl with | [_, _, _], _ => rfl
  have F_l_turned := fun_mk (st := s_l_turned) l1_l_turned c1_l_turned k1_l_turned
  have b_l_turned := F_l_turned.binds (ps := ["_law_place", "_law_sizes_here", "_law_kind_here", "_law_units"]) fun _ _ _ _ _ _ us hl => match us, hl with | [_, _, _, _], _ => rfl
  have F_l_sum := fun_mk (st := s_l_sum) l1_l_sum c1_l_sum k1_l_sum
  have b_l_sum := F_l_sum.binds (ps := ["_law_one", "_law_other", "_law_sizes_here"]) fun _ _ _ _ _ _ us hl => match us, hl with | [_, _, _], _ => rfl
  have F_l_rows := fun_mk (st := s_l_rows) l1_l_rows c1_l_rows k1_l_rows
  have b_l_rows := F_l_rows.binds (ps := ["_law_sizes_here", "_law_turn", "_law_end"]) fun _ _ _ _ _ _ us hl => match us, hl with | [_, _, _], _ => rfl
  have F_l_names := fun_mk (st := s_l_names) l1_l_names c1_l_names k1_l_names
  have b_l_names := F_l_names.binds (ps := ["_law_many", "_law_number"]) fun _ _ _ _ _ _ us hl => match us, hl with | [_, _], _ => rfl
  have F_l_group := fun_mk (st := s_l_group) l1_l_group c1_l_group k1_l_group
  have b_l_group := F_l_group.binds (ps := ["_law_script", "_law_start"]) fun _ _ _ _ _ _ us hl => match us, hl with | [_, _], _ => rfl
  have F_l_backs := fun_mk (st := s_l_backs) l1_l_backs c1_l_backs k1_l_backs
  have b_l_backs := F_l_backs.binds (ps := ["_law_table"]) fun _ _ _ _ _ _ us hl => match us, hl with | [_], _ => rfl
  have F_l_calm := fun_mk (st := s_l_calm) l1_l_calm c1_l_calm k1_l_calm
  have b_l_calm := F_l_calm.binds (ps := ["_law_table", "_law_part"]) fun _ _ _ _ _ _ us hl => match us, hl with | [_, _], _ => rfl
  have F_l_steady := fun_mk (st := s_l_steady) l1_l_steady c1_l_steady k1_l_steady
  have b_l_steady := F_l_steady.binds (ps := ["_law_table", "_law_part"]) fun _ _ _ _ _ _ us hl => match us, hl with | [_, _], _ => rfl
  have F_l_greatest := fun_mk (st := s_l_greatest) l1_l_greatest c1_l_greatest k1_l_greatest
  have b_l_greatest := F_l_greatest.binds (ps := ["_law_table", "_law_part"]) fun _ _ _ _ _ _ us hl => match us, hl with | [_, _], _ => rfl
  have F_l_leads := fun_mk (st := s_l_leads) l1_l_leads c1_l_leads k1_l_leads
  have b_l_leads := F_l_leads.binds (ps := ["_law_table", "_law_part", "_law_thing"]) fun _ _ _ _ _ _ us hl => match us, hl with | [_, _, _], _ => rfl
  have F_law := fun_mk (st := s_law) l1_law c1_law k1_law
  have b_law := F_law.binds (ps := ["_law_script"]) fun _ _ _ _ _ _ us hl => match us, hl with | [_], _ => rfl
  have T : Tx K mg cls a_Stranger_init a_NoBack_init a_NotTogether_init a_Group_init a_look_at_size a_look_for_strangers a_unit_of a_back_of a_look_at_threes a_group_of a_product a_look_at_part a_closure a_mixed a_goes_with a_steps_into a_heart a_l_cell a_l_sizes a_l_kind a_l_unit a_l_turned a_l_sum a_l_rows a_l_names a_l_group a_l_backs a_l_calm a_l_steady a_l_greatest a_l_leads fa _ _ _ _ _ _ _ _ _ _ _ _ _ _ _ _ _ _ _ _ _ _ _ _ _ _ _ _ _ _ _ _ := {F_Stranger_init := F_Stranger_init, b_Stranger_init := b_Stranger_init, F_NoBack_init := F_NoBack_init, b_NoBack_init := b_NoBack_init, F_NotTogether_init := F_NotTogether_init, b_NotTogether_init := b_NotTogether_init, F_Group_init := F_Group_init, b_Group_init := b_Group_init, F_look_at_size := F_look_at_size, b_look_at_size := b_look_at_size, g_look_at_size := PySem.W.mg_of X G a1_look_at_size, k_look_at_size := k1_look_at_size, F_look_for_strangers := F_look_for_strangers, b_look_for_strangers := b_look_for_strangers, g_look_for_strangers := PySem.W.mg_of X G a1_look_for_strangers, k_look_for_strangers := k1_look_for_strangers, F_unit_of := F_unit_of, b_unit_of := b_unit_of, g_unit_of := PySem.W.mg_of X G a1_unit_of, k_unit_of := k1_unit_of, F_back_of := F_back_of, b_back_of := b_back_of, g_back_of := PySem.W.mg_of X G a1_back_of, k_back_of := k1_back_of, F_look_at_threes := F_look_at_threes, b_look_at_threes := b_look_at_threes, g_look_at_threes := PySem.W.mg_of X G a1_look_at_threes, k_look_at_threes := k1_look_at_threes, F_group_of := F_group_of, b_group_of := b_group_of, g_group_of := PySem.W.mg_of X G a1_group_of, k_group_of := k1_group_of, F_product := F_product, b_product := b_product, g_product := PySem.W.mg_of X G a1_product, k_product := k1_product, F_look_at_part := F_look_at_part, b_look_at_part := b_look_at_part, g_look_at_part := PySem.W.mg_of X G a1_look_at_part, k_look_at_part := k1_look_at_part, F_closure := F_closure, b_closure := b_closure, g_closure := PySem.W.mg_of X G a1_closure, k_closure := k1_closure, F_mixed := F_mixed, b_mixed := b_mixed, g_mixed := PySem.W.mg_of X G a1_mixed, k_mixed := k1_mixed, F_goes_with := F_goes_with, b_goes_with := b_goes_with, g_goes_with := PySem.W.mg_of X G a1_goes_with, k_goes_with := k1_goes_with, F_steps_into := F_steps_into, b_steps_into := b_steps_into, g_steps_into := PySem.W.mg_of X G a1_steps_into, k_steps_into := k1_steps_into, F_heart := F_heart, b_heart := b_heart, g_heart := PySem.W.mg_of X G a1_heart, k_heart := k1_heart, F_l_cell := F_l_cell, b_l_cell := b_l_cell, g_l_cell := PySem.W.mg_of X G a1_l_cell, k_l_cell := k1_l_cell, F_l_sizes := F_l_sizes, b_l_sizes := b_l_sizes, g_l_sizes := PySem.W.mg_of X G a1_l_sizes, k_l_sizes := k1_l_sizes, F_l_kind := F_l_kind, b_l_kind := b_l_kind, g_l_kind := PySem.W.mg_of X G a1_l_kind, k_l_kind := k1_l_kind, F_l_unit := F_l_unit, b_l_unit := b_l_unit, g_l_unit := PySem.W.mg_of X G a1_l_unit, k_l_unit := k1_l_unit, F_l_turned := F_l_turned, b_l_turned := b_l_turned, g_l_turned := PySem.W.mg_of X G a1_l_turned, k_l_turned := k1_l_turned, F_l_sum := F_l_sum, b_l_sum := b_l_sum, g_l_sum := PySem.W.mg_of X G a1_l_sum, k_l_sum := k1_l_sum, F_l_rows := F_l_rows, b_l_rows := b_l_rows, g_l_rows := PySem.W.mg_of X G a1_l_rows, k_l_rows := k1_l_rows, F_l_names := F_l_names, b_l_names := b_l_names, g_l_names := PySem.W.mg_of X G a1_l_names, k_l_names := k1_l_names, F_l_group := F_l_group, b_l_group := b_l_group, g_l_group := PySem.W.mg_of X G a1_l_group, k_l_group := k1_l_group, F_l_backs := F_l_backs, b_l_backs := b_l_backs, g_l_backs := PySem.W.mg_of X G a1_l_backs, k_l_backs := k1_l_backs, F_l_calm := F_l_calm, b_l_calm := b_l_calm, g_l_calm := PySem.W.mg_of X G a1_l_calm, k_l_calm := k1_l_calm, F_l_steady := F_l_steady, b_l_steady := b_l_steady, g_l_steady := PySem.W.mg_of X G a1_l_steady, k_l_steady := k1_l_steady, F_l_greatest := F_l_greatest, b_l_greatest := b_l_greatest, g_l_greatest := PySem.W.mg_of X G a1_l_greatest, k_l_greatest := k1_l_greatest, F_l_leads := F_l_leads, b_l_leads := b_l_leads, g_l_leads := PySem.W.mg_of X G a1_l_leads, k_l_leads := k1_l_leads, F_law := F_law, b_law := b_law, g_law := PySem.W.mg_of X G a1_law, k_law := k1_law, b_all := PySem.W.mg_none_of X G z_all, b_enumerate := PySem.W.mg_none_of X G z_enumerate, b_len := PySem.W.mg_none_of X G z_len, b_list := PySem.W.mg_none_of X G z_list, b_range := PySem.W.mg_none_of X G z_range, b_sorted := PySem.W.mg_none_of X G z_sorted, g_MOST := ⟨_, PySem.W.mg_of X G v_MOST⟩, g_BadSize := PySem.W.mg_of X G ac_BadSize, g_Stranger := PySem.W.mg_of X G ac_Stranger, g_NoUnit := PySem.W.mg_of X G ac_NoUnit, g_NoBack := PySem.W.mg_of X G ac_NoBack, g_NotTogether := PySem.W.mg_of X G ac_NotTogether, g_NoPart := PySem.W.mg_of X G ac_NoPart, g_Group := PySem.W.mg_of X G ac_Group, M_Group := ⟨mk_Group, a1_Group_init, i1_Group_init, kc_Group⟩, grpC := ⟨⟨pg_Group, hd_Group, po_Group, sa_Group⟩, nG_many, nG_rows, nG_unit, nG_backs⟩, x_BadSize := x_BadSize, k_BadSize := kx_BadSize, r_BadSize := rx_BadSize, rt_BadSize := rt_BadSize, x_NoPart := x_NoPart, k_NoPart := kx_NoPart, r_NoPart := rx_NoPart, rt_NoPart := rt_NoPart, x_NoUnit := x_NoUnit, k_NoUnit := kx_NoUnit, r_NoUnit := rx_NoUnit, rt_NoUnit := rt_NoUnit, O_NoBack := ⟨⟨_, _, _, _, _, _, _, _, _, _, _, _, _, _, _, xL_NoBack, bm_NoBack_ok⟩, sa_NoBack, rx_NoBack, rt_NoBack, kx_NoBack⟩, i_NoBack := a1_NoBack_init, ti_NoBack := ti_NoBack, n_NoBack_thing := n_NoBack_thing, O_NotTogether := ⟨⟨_, _, _, _, _, _, _, _, _, _, _, _, _, _, _, xL_NotTogether, bm_NotTogether_ok⟩, sa_NotTogether, rx_NotTogether, rt_NotTogether, kx_NotTogether⟩, i_NotTogether := a1_NotTogether_init, ti_NotTogether := ti_NotTogether, n_NotTogether_one := n_NotTogether_one, n_NotTogether_two := n_NotTogether_two, n_NotTogether_three := n_NotTogether_three, O_Stranger := ⟨⟨_, _, _, _, _, _, _, _, _, _, _, _, _, _, _, xL_Stranger, bm_Stranger_ok⟩, sa_Stranger, rx_Stranger, rt_Stranger, kx_Stranger⟩, i_Stranger := a1_Stranger_init, ti_Stranger := ti_Stranger, n_Stranger_row := n_Stranger_row, n_Stranger_column := n_Stranger_column}
  refine ⟨PySem.W.fnOf "law" "law" (defArgs s_law) (defBody s_law) (defScope s_law) .none kV_law dc_law pm_law an_law cd_law ct_law, fun s v => .of_eq rfl, fun base hb hn => ?_⟩
  have G_Stranger_init := ok_Stranger_init (P := l.prog) (w := w) (base := base) T 
  have G_NoBack_init := ok_NoBack_init (P := l.prog) (w := w) (base := base) T 
  have G_NotTogether_init := ok_NotTogether_init (P := l.prog) (w := w) (base := base) T 
  have G_Group_init := ok_Group_init (P := l.prog) (w := w) (base := base) T 
  have G_look_at_size := ok_look_at_size (P := l.prog) (w := w) (base := base) T 
  have G_look_for_strangers := ok_look_for_strangers (P := l.prog) (w := w) (base := base) T G_Stranger_init
  have G_unit_of := ok_unit_of (P := l.prog) (w := w) (base := base) T 
  have G_back_of := ok_back_of (P := l.prog) (w := w) (base := base) T G_NoBack_init
  have G_look_at_threes := ok_look_at_threes (P := l.prog) (w := w) (base := base) T G_NotTogether_init
  have G_group_of := ok_group_of (P := l.prog) (w := w) (base := base) T G_Group_init G_look_at_size G_look_for_strangers G_unit_of G_back_of G_look_at_threes
  have G_product := ok_product (P := l.prog) (w := w) (base := base) T 
  have G_look_at_part := ok_look_at_part (P := l.prog) (w := w) (base := base) T 
  have G_closure := ok_closure (P := l.prog) (w := w) (base := base) T 
  have G_mixed := ok_mixed (P := l.prog) (w := w) (base := base) T G_product G_look_at_part G_closure
  have G_goes_with := ok_goes_with (P := l.prog) (w := w) (base := base) T 
  have G_steps_into := ok_steps_into (P := l.prog) (w := w) (base := base) T 
  have G_heart := ok_heart (P := l.prog) (w := w) (base := base) T G_closure G_mixed G_goes_with G_steps_into
  have G_l_cell := ok_l_cell (P := l.prog) (w := w) (base := base) T 
  have G_l_sizes := ok_l_sizes (P := l.prog) (w := w) (base := base) T 
  have G_l_kind := ok_l_kind (P := l.prog) (w := w) (base := base) T 
  have G_l_unit := ok_l_unit (P := l.prog) (w := w) (base := base) T 
  have G_l_turned := ok_l_turned (P := l.prog) (w := w) (base := base) T 
  have G_l_sum := ok_l_sum (P := l.prog) (w := w) (base := base) T 
  have G_l_rows := ok_l_rows (P := l.prog) (w := w) (base := base) T G_l_sum
  have G_l_names := ok_l_names (P := l.prog) (w := w) (base := base) T 
  have G_l_group := ok_l_group (P := l.prog) (w := w) (base := base) T G_l_cell G_l_sizes G_l_kind G_l_unit G_l_turned G_l_rows G_l_names
  have G_l_backs := ok_l_backs (P := l.prog) (w := w) (base := base) T 
  have G_l_calm := ok_l_calm (P := l.prog) (w := w) (base := base) T 
  have G_l_steady := ok_l_steady (P := l.prog) (w := w) (base := base) T G_l_backs
  have G_l_greatest := ok_l_greatest (P := l.prog) (w := w) (base := base) T 
  have G_l_leads := ok_l_leads (P := l.prog) (w := w) (base := base) T 
  have G_law := ok_law (P := l.prog) (w := w) (base := base) T G_group_of G_heart G_l_group G_l_calm G_l_steady G_l_greatest G_l_leads
  exact G_law.imp fun vs H Q E h => law_imp h
theorem walk {l : PySem.W.OpenLaw} {q : Program} {loose : List Str} {XP : (Str → Option Value) → Heap → Prop} {YP : World → Heap → Prop} {d : DefRec} {K : Params → PySem.W.Frag} (hn : l.most = some 63) (hdf : d.params.defaults = [])
    (hY : ∀ (w : World) (h : Heap), YP w h → (K w.params).In h)
    (F : ∀ (w : World) (mg : Str → Option Value) (fa : Addr) (h : Heap), (K w.params).In h → h.Ns mainGlobals mg → mg d.name = some (.ref fa) →
      ∃ fd : FuncData, (∀ (s : Shared) (u : Value), BindsTo s fd ⟨[u], []⟩ [("_law_script", u)]) ∧ ∀ base : Heap, (K w.params).In base → base.Ns mainGlobals mg → FnOk l.prog w (K w.params) mg base (L2.CX l.prog w) 5 fa fd ["_law_script"] (spLaw (K w.params))) :
    PySem.W.WalkO q loose XP YP l.row.toRowW d [] (fun f vs => PySem.call f vs) :=
  L2.walk_of (n := 63) (k := 5) (x := "_law_script") (CX := fun w => L2.CX l.prog w) (sp := fun w => spLaw (K w.params)) hn (by decide) hdf ⟨rfl, by decide, by decide⟩ hY F (fun _ _ a ns hl _ hS => ⟨a, ns, rfl, hS, hl, fun _ => rfl⟩) fun _ _ _ _ _ z => by
    obtain ⟨_, _, _, _, _, _, _, _, _, _, _, _, z⟩ := z
    exact z.elim
end TB
open PySem PySem.W PyProof.Rows
set_option maxRecDepth 100000 in
set_option maxHeartbeats 0 in
theorem PySem.Challenge.cw_tracebook_k36_whole_hearts_are_calm_holds : PySem.Challenge.rw_tracebook_k36_whole_hearts_are_calm.Holds := by
  w_on; o_law; k_head; (case hw => w_witness2)
  k_fill
  refine TB.walk (l := PySem.Challenge.rw_tracebook_k36_whole_hearts_are_calm) rfl rfl (fun w h Y => PySem.W.kIn_of Y) ?F
  case F =>
    intro w mg fa h KX G hmg
    refine' TB.all_mk KX G hmg ?ac_BadSize ?ac_Stranger ?ac_NoUnit ?ac_NoBack ?ac_NotTogether ?ac_NoPart ?ac_Group ?a1_Stranger_init ?i1_Stranger_init ?l1_Stranger_init ?c1_Stranger_init ?k1_Stranger_init ?a1_NoBack_init ?i1_NoBack_init ?l1_NoBack_init ?c1_NoBack_init ?k1_NoBack_init ?a1_NotTogether_init ?i1_NotTogether_init ?l1_NotTogether_init ?c1_NotTogether_init ?k1_NotTogether_init ?a1_Group_init ?i1_Group_init ?l1_Group_init ?c1_Group_init ?k1_Group_init ?a1_look_at_size ?l1_look_at_size ?c1_look_at_size ?k1_look_at_size ?a1_look_for_strangers ?l1_look_for_strangers ?c1_look_for_strangers ?k1_look_for_strangers ?a1_unit_of ?l1_unit_of ?c1_unit_of ?k1_unit_of ?a1_back_of ?l1_back_of ?c1_back_of ?k1_back_of ?a1_look_at_threes ?l1_look_at_threes ?c1_look_at_threes ?k1_look_at_threes ?a1_group_of ?l1_group_of ?c1_group_of ?k1_group_of ?a1_product ?l1_product ?c1_product ?k1_product ?a1_look_at_part ?l1_look_at_part ?c1_look_at_part ?k1_look_at_part ?a1_closure ?l1_closure ?c1_closure ?k1_closure ?a1_mixed ?l1_mixed ?c1_mixed ?k1_mixed ?a1_goes_with ?l1_goes_with ?c1_goes_with ?k1_goes_with ?a1_steps_into ?l1_steps_into ?c1_steps_into ?k1_steps_into ?a1_heart ?l1_heart ?c1_heart ?k1_heart ?a1_l_cell ?l1_l_cell ?c1_l_cell ?k1_l_cell ?a1_l_sizes ?l1_l_sizes ?c1_l_sizes ?k1_l_sizes ?a1_l_kind ?l1_l_kind ?c1_l_kind ?k1_l_kind ?a1_l_unit ?l1_l_unit ?c1_l_unit ?k1_l_unit ?a1_l_turned ?l1_l_turned ?c1_l_turned ?k1_l_turned ?a1_l_sum ?l1_l_sum ?c1_l_sum ?k1_l_sum ?a1_l_rows ?l1_l_rows ?c1_l_rows ?k1_l_rows ?a1_l_names ?l1_l_names ?c1_l_names ?k1_l_names ?a1_l_group ?l1_l_group ?c1_l_group ?k1_l_group ?a1_l_backs ?l1_l_backs ?c1_l_backs ?k1_l_backs ?a1_l_calm ?l1_l_calm ?c1_l_calm ?k1_l_calm ?a1_l_steady ?l1_l_steady ?c1_l_steady ?k1_l_steady ?a1_l_greatest ?l1_l_greatest ?c1_l_greatest ?k1_l_greatest ?a1_l_leads ?l1_l_leads ?c1_l_leads ?k1_l_leads ?a1_law ?l1_law ?c1_law ?k1_law ?z_all ?z_enumerate ?z_len ?z_list ?z_range ?z_sorted ?v_MOST ?mk_Group ?kc_Group ?pg_Group ?hd_Group ?po_Group ?sa_Group ?nG_many ?nG_rows ?nG_unit ?nG_backs ?x_BadSize ?kx_BadSize ?rx_BadSize ?rt_BadSize ?x_NoPart ?kx_NoPart ?rx_NoPart ?rt_NoPart ?x_NoUnit ?kx_NoUnit ?rx_NoUnit ?rt_NoUnit ?xL_NoBack ?bm_NoBack_ok ?sa_NoBack ?rx_NoBack ?rt_NoBack ?kx_NoBack ?ti_NoBack ?n_NoBack_thing ?xL_NotTogether ?bm_NotTogether_ok ?sa_NotTogether ?rx_NotTogether ?rt_NotTogether ?kx_NotTogether ?ti_NotTogether ?n_NotTogether_one ?n_NotTogether_two ?n_NotTogether_three ?xL_Stranger ?bm_Stranger_ok ?sa_Stranger ?rx_Stranger ?rt_Stranger ?kx_Stranger ?ti_Stranger ?n_Stranger_row ?n_Stranger_column
    (case ac_BadSize => k_is)
    (case ac_Stranger => k_is)
    (case ac_NoUnit => k_is)
    (case ac_NoBack => k_is)
    (case ac_NotTogether => k_is)
    (case ac_NoPart => k_is)
    (case ac_Group => k_is)
    (case a1_Stranger_init => k_is)
    (case i1_Stranger_init => k_is)
    (case l1_Stranger_init => k_is)
    (case c1_Stranger_init => k_is)
    (case k1_Stranger_init => k_is)
    (case a1_NoBack_init => k_is)
    (case i1_NoBack_init => k_is)
    (case l1_NoBack_init => k_is)
    (case c1_NoBack_init => k_is)
    (case k1_NoBack_init => k_is)
    (case a1_NotTogether_init => k_is)
    (case i1_NotTogether_init => k_is)
    (case l1_NotTogether_init => k_is)
    (case c1_NotTogether_init => k_is)
    (case k1_NotTogether_init => k_is)
    (case a1_Group_init => k_is)
    (case i1_Group_init => k_is)
    (case l1_Group_init => k_is)
    (case c1_Group_init => k_is)
    (case k1_Group_init => k_is)
    (case a1_look_at_size => k_is)
    (case l1_look_at_size => k_is)
    (case c1_look_at_size => k_is)
    (case k1_look_at_size => k_is)
    (case a1_look_for_strangers => k_is)
    (case l1_look_for_strangers => k_is)
    (case c1_look_for_strangers => k_is)
    (case k1_look_for_strangers => k_is)
    (case a1_unit_of => k_is)
    (case l1_unit_of => k_is)
    (case c1_unit_of => k_is)
    (case k1_unit_of => k_is)
    (case a1_back_of => k_is)
    (case l1_back_of => k_is)
    (case c1_back_of => k_is)
    (case k1_back_of => k_is)
    (case a1_look_at_threes => k_is)
    (case l1_look_at_threes => k_is)
    (case c1_look_at_threes => k_is)
    (case k1_look_at_threes => k_is)
    (case a1_group_of => k_is)
    (case l1_group_of => k_is)
    (case c1_group_of => k_is)
    (case k1_group_of => k_is)
    (case a1_product => k_is)
    (case l1_product => k_is)
    (case c1_product => k_is)
    (case k1_product => k_is)
    (case a1_look_at_part => k_is)
    (case l1_look_at_part => k_is)
    (case c1_look_at_part => k_is)
    (case k1_look_at_part => k_is)
    (case a1_closure => k_is)
    (case l1_closure => k_is)
    (case c1_closure => k_is)
    (case k1_closure => k_is)
    (case a1_mixed => k_is)
    (case l1_mixed => k_is)
    (case c1_mixed => k_is)
    (case k1_mixed => k_is)
    (case a1_goes_with => k_is)
    (case l1_goes_with => k_is)
    (case c1_goes_with => k_is)
    (case k1_goes_with => k_is)
    (case a1_steps_into => k_is)
    (case l1_steps_into => k_is)
    (case c1_steps_into => k_is)
    (case k1_steps_into => k_is)
    (case a1_heart => k_is)
    (case l1_heart => k_is)
    (case c1_heart => k_is)
    (case k1_heart => k_is)
    (case a1_l_cell => k_is)
    (case l1_l_cell => k_is)
    (case c1_l_cell => k_is)
    (case k1_l_cell => k_is)
    (case a1_l_sizes => k_is)
    (case l1_l_sizes => k_is)
    (case c1_l_sizes => k_is)
    (case k1_l_sizes => k_is)
    (case a1_l_kind => k_is)
    (case l1_l_kind => k_is)
    (case c1_l_kind => k_is)
    (case k1_l_kind => k_is)
    (case a1_l_unit => k_is)
    (case l1_l_unit => k_is)
    (case c1_l_unit => k_is)
    (case k1_l_unit => k_is)
    (case a1_l_turned => k_is)
    (case l1_l_turned => k_is)
    (case c1_l_turned => k_is)
    (case k1_l_turned => k_is)
    (case a1_l_sum => k_is)
    (case l1_l_sum => k_is)
    (case c1_l_sum => k_is)
    (case k1_l_sum => k_is)
    (case a1_l_rows => k_is)
    (case l1_l_rows => k_is)
    (case c1_l_rows => k_is)
    (case k1_l_rows => k_is)
    (case a1_l_names => k_is)
    (case l1_l_names => k_is)
    (case c1_l_names => k_is)
    (case k1_l_names => k_is)
    (case a1_l_group => k_is)
    (case l1_l_group => k_is)
    (case c1_l_group => k_is)
    (case k1_l_group => k_is)
    (case a1_l_backs => k_is)
    (case l1_l_backs => k_is)
    (case c1_l_backs => k_is)
    (case k1_l_backs => k_is)
    (case a1_l_calm => k_is)
    (case l1_l_calm => k_is)
    (case c1_l_calm => k_is)
    (case k1_l_calm => k_is)
    (case a1_l_steady => k_is)
    (case l1_l_steady => k_is)
    (case c1_l_steady => k_is)
    (case k1_l_steady => k_is)
    (case a1_l_greatest => k_is)
    (case l1_l_greatest => k_is)
    (case c1_l_greatest => k_is)
    (case k1_l_greatest => k_is)
    (case a1_l_leads => k_is)
    (case l1_l_leads => k_is)
    (case c1_l_leads => k_is)
    (case k1_l_leads => k_is)
    (case a1_law => k_is)
    (case l1_law => k_is)
    (case c1_law => k_is)
    (case k1_law => k_is)
    (case z_all => k_is)
    (case z_enumerate => k_is)
    (case z_len => k_is)
    (case z_list => k_is)
    (case z_range => k_is)
    (case z_sorted => k_is)
    (case v_MOST => k_is)
    (case mk_Group => k_is)
    (case kc_Group => k_is)
    (case pg_Group => k_is)
    (case hd_Group => k_is)
    (case po_Group => k_is)
    (case sa_Group => k_is)
    (case nG_many => k_is)
    (case nG_rows => k_is)
    (case nG_unit => k_is)
    (case nG_backs => k_is)
    (case x_BadSize => k_exc)
    (case kx_BadSize => k_is)
    (case rx_BadSize => k_is)
    (case rt_BadSize => k_is)
    (case x_NoPart => k_exc)
    (case kx_NoPart => k_is)
    (case rx_NoPart => k_is)
    (case rt_NoPart => k_is)
    (case x_NoUnit => k_exc)
    (case kx_NoUnit => k_is)
    (case rx_NoUnit => k_is)
    (case rt_NoUnit => k_is)
    (case xL_NoBack => k_is)
    (case bm_NoBack_ok => decide +kernel)
    (case sa_NoBack => k_is)
    (case rx_NoBack => k_is)
    (case rt_NoBack => k_is)
    (case kx_NoBack => k_is)
    (case ti_NoBack => k_is)
    (case n_NoBack_thing => k_is)
    (case xL_NotTogether => k_is)
    (case bm_NotTogether_ok => decide +kernel)
    (case sa_NotTogether => k_is)
    (case rx_NotTogether => k_is)
    (case rt_NotTogether => k_is)
    (case kx_NotTogether => k_is)
    (case ti_NotTogether => k_is)
    (case n_NotTogether_one => k_is)
    (case n_NotTogether_two => k_is)
    (case n_NotTogether_three => k_is)
    (case xL_Stranger => k_is)
    (case bm_Stranger_ok => decide +kernel)
    (case sa_Stranger => k_is)
    (case rx_Stranger => k_is)
    (case rt_Stranger => k_is)
    (case kx_Stranger => k_is)
    (case ti_Stranger => k_is)
    (case n_Stranger_row => k_is)
    (case n_Stranger_column => k_is)
#print axioms PySem.Challenge.cw_tracebook_k36_whole_hearts_are_calm_holds
