import PyProof.Rows.All
import Wide.All
import OpenK.AllK
import Wide.FinOn
import HandS.ForMost
import HandS.Exc
import HandS.ExcOwn
import HandS.TryOnly
import HandS.TryMany
import HandS.ExcInit
import HandS.CallSlots
import HandS.WordsExc
import HandS.SortInts
import HandS.SortKw
import HandS.IsInst
import HandS.Wide
import HandS.More
import HandS.Conv
import KE.OsSort
import KE.KExcIs
import HandS.ExcField
import HandS.SetFor
import HandS.Strs
import PySem.Challenge.RW_tracebook_k26_whole_a_walk_of_numbers
set_option Elab.async false
set_option linter.all false
set_option maxRecDepth 100000
set_option maxHeartbeats 4000000
/-! TbBase: a typed layer over the hand layer's readings: what slots hold, told as Lean data. -/
namespace TB
open PySem L2

/-- the program's own classes -/
inductive CN where
  | BookError | BadSize | Stranger | NoUnit | NoBack | NotTogether | NoPart | NotSteady | BadWheel | NoMove | BadMarks | NoWay | NotKept | OtherGroup | OtherWheel | TooGreat | Group | Wheel | Carriers | Way | Regular | Lifted | Beside | Crossed | Backed | Within | Raised | Book
  deriving DecidableEq
/-- the written part, and where the program's own classes stand -/
structure Zz where
  K : PySem.W.Frag
  cls : CN → Addr

/-- a type whose data stand in the heap, never to be changed -/
class Rp (α : Type) where
  /-- what is taken where nothing stands -/
  df : α
  rp : Zz → Hp → V → α → Prop
  mono : ∀ {Z : Zz} {H H' : Hp} {v : V} {d : α}, Same H H' → rp Z H v d → rp Z H' v d

theorem paired_mono {α β : Type} {F G : α → β → Prop} (h : ∀ a b, F a b → G a b) : ∀ {l : List α} {m : List β}, Paired F l m → Paired G l m
  | _, _, .nil => .nil
  | _, _, .cons r t => .cons (h _ _ r) (paired_mono h t)
theorem paired_get {α β : Type} {F : α → β → Prop} : ∀ {l : List α} {m : List β} {i : Nat} {b : β}, Paired F l m → m[i]? = some b → ∃ a, l[i]? = some a ∧ F a b
  | _, _, _, _, .nil, e => by simp at e
  | _, _, 0, _, .cons r _, e => by simp at e; subst e; exact ⟨_, rfl, r⟩
  | _, _, i + 1, b, .cons _ t, e => by
    obtain ⟨u, h1, h2⟩ := paired_get (i := i) (b := b) t (by simpa using e)
    exact ⟨u, by simpa using h1, h2⟩
theorem paired_getL {α β : Type} {F : α → β → Prop} : ∀ {l : List α} {m : List β} {i : Nat} {a : α}, Paired F l m → l[i]? = some a → ∃ b, m[i]? = some b ∧ F a b
  | _, _, _, _, .nil, e => by simp at e
  | _, _, 0, _, .cons r _, e => by simp at e; subst e; exact ⟨_, rfl, r⟩
  | _, _, i + 1, b, .cons _ t, e => by
    obtain ⟨u, h1, h2⟩ := paired_getL (i := i) (a := b) t (by simpa using e)
    exact ⟨u, by simpa using h1, h2⟩
theorem paired_append {α β : Type} {F : α → β → Prop} : ∀ {l l' : List α} {m m' : List β}, Paired F l m → Paired F l' m' → Paired F (l ++ l') (m ++ m')
  | _, _, _, _, .nil, s => s
  | _, _, _, _, .cons r t, s => .cons r (paired_append t s)
theorem paired_set {α β : Type} {F : α → β → Prop} {a : α} {b : β} (h : F a b) : ∀ {l : List α} {m : List β} (i : Nat), Paired F l m → Paired F (l.set i a) (m.set i b)
  | _, _, _, .nil => .nil
  | _, _, 0, .cons _ t => .cons h t
  | _, _, i + 1, .cons r t => .cons r (paired_set h i t)
theorem paired_take {α β : Type} {F : α → β → Prop} : ∀ {l : List α} {m : List β} (n : Nat), Paired F l m → Paired F (l.take n) (m.take n)
  | _, _, 0, _ => .nil
  | _, _, _ + 1, .nil => .nil
  | _, _, n + 1, .cons r t => .cons r (paired_take n t)
theorem paired_drop {α β : Type} {F : α → β → Prop} : ∀ {l : List α} {m : List β} (n : Nat), Paired F l m → Paired F (l.drop n) (m.drop n)
  | _, _, 0, r => r
  | _, _, _ + 1, .nil => .nil
  | _, _, n + 1, .cons _ t => paired_drop n t
theorem paired_map_int : ∀ {vs : List V} {xs : List Int}, Paired (fun v d => v = V.int d) vs xs → vs = xs.map V.int
  | _, _, .nil => rfl
  | _, _, .cons r t => by rw [List.map_cons, ← r, ← paired_map_int t]
theorem paired_of_int : ∀ (xs : List Int), Paired (fun v d => v = V.int d) (xs.map V.int) xs
  | [] => .nil
  | _ :: t => .cons rfl (paired_of_int t)
theorem paired_map_bl : ∀ {vs : List V} {xs : List Bool}, Paired (fun v d => v = V.bl d) vs xs → vs = xs.map V.bl
  | _, _, .nil => rfl
  | _, _, .cons r t => by rw [List.map_cons, ← r, ← paired_map_bl t]

instance : Rp Int := ⟨0, fun _ _ v d => v = .int d, fun _ h => h⟩
instance : Rp Bool := ⟨false, fun _ _ v d => v = .bl d, fun _ h => h⟩
instance : Rp Unit := ⟨(), fun _ _ v _ => v = .non, fun _ h => h⟩
instance : Rp Str := ⟨Str.empty, fun _ _ v d => v = .str d, fun _ h => h⟩
instance {α : Type} [Rp α] : Rp (Option α) := ⟨none, fun Z H v d => match d with | none => v = .non | some x => Rp.rp Z H v x, fun {Z H H' v d} e h => by
  cases d with
  | none => exact h
  | some x => exact Rp.mono e h⟩
instance {α : Type} [Rp α] : Rp (List α) := ⟨[], fun Z H v d => ∃ a vs, v = .ref a ∧ H a = some (.lst vs) ∧ Paired (Rp.rp Z H) vs d,
  fun e h => by
    obtain ⟨a, vs, h1, h2, h3⟩ := h
    exact ⟨a, vs, h1, e _ _ h2, paired_mono (fun _ _ => Rp.mono e) h3⟩⟩
instance {α β : Type} [Rp α] [Rp β] : Rp (α × β) := ⟨(Rp.df, Rp.df), fun Z H v d => ∃ a x y, v = .ref a ∧ H a = some (.tup [x, y]) ∧ Rp.rp Z H x d.1 ∧ Rp.rp Z H y d.2,
  fun e h => by
    obtain ⟨a, x, y, h1, h2, h3, h4⟩ := h
    exact ⟨a, x, y, h1, e _ _ h2, Rp.mono e h3, Rp.mono e h4⟩⟩
/-- the script: a list that is known to the law's object -/
structure Scr where
  l : List Int
instance : Rp Scr := ⟨⟨[]⟩, fun Z H v d => ∃ a, v = .ref a ∧ SqL Z.K H a (d.l.map V.int), fun e h => by
    obtain ⟨a, h1, h2⟩ := h
    exact ⟨a, h1, e.seq h2⟩⟩
/-- a value of a mixed list: an int or a text -/
inductive IS where
  | i (n : Int) | s (x : Str)
  deriving DecidableEq
instance : Rp IS := ⟨.i 0, fun _ _ v d => match d with | .i n => v = .int n | .s x => v = .str x, fun {Z H H' v d} _ h => by cases d <;> exact h⟩

/-- h within these addresses -/
def res (H : Hp) (f : List Addr) : Hp := fun p => if p ∈ f then H p else none
theorem res_in {H : Hp} {f : List Addr} {p : Addr} (h : p ∈ f) : res H f p = H p := by simp [res, h]
theorem res_some {H : Hp} {f : List Addr} {p : Addr} {o : HO} (h : res H f p = some o) : p ∈ f ∧ H p = some o := by
  unfold res at h
  by_cases c : p ∈ f
  · rw [if_pos c] at h; exact ⟨c, h⟩
  · rw [if_neg c] at h; cases h
/-- own objects of any make: told of the frozen part and of the own objects alone -/
structure Own where
  G : Zz → Hp → Hp → V → Prop
  mono : ∀ {Z : Zz} {R R' h : Hp} {v : V}, Same R R' → G Z R h v → G Z R' h v
/-- what a slot holds -/
inductive Sl : Type 1
  /-- nothing that matters -/
  | un : Sl
  /-- data that never change -/
  | im {α : Type} [Rp α] (d : α) : Sl
  /-- a list of this frame's own -/
  | ol {α : Type} [Rp α] (xs : List α) : Sl
  /-- an own list of own lists -/
  | o2 {α : Type} [Rp α] (xss : List (List α)) : Sl
  /-- an own dict, keys ints -/
  | od {α : Type} [Rp α] (kvs : List (Int × α)) : Sl
  /-- own objects of any make -/
  | ow (O : Own) : Sl

section
variable (Z : Zz) (R H : Hp)
def kvOk {α : Type} [Rp α] (a : Key × V) (b : Int × α) : Prop := a.1 = Sum.inl b.1 ∧ Rp.rp Z R a.2 b.2
def inOk {α : Type} [Rp α] (q : Addr) (xs : List α) : Prop := ∃ vs, H q = some (.lst vs) ∧ Paired (Rp.rp Z R) vs xs
def slok (o : Option V) : Sl → List Addr → Prop
  | .un, f => f = []
  | @Sl.im _ _ d, f => f = [] ∧ ∃ v, o = some v ∧ Rp.rp Z R v d
  | @Sl.ol _ _ xs, f => ∃ p vs, f = [p] ∧ o = some (.ref p) ∧ H p = some (.lst vs) ∧ Paired (Rp.rp Z R) vs xs
  | @Sl.o2 _ _ xss, f => ∃ p qs, f = p :: qs ∧ o = some (.ref p) ∧ H p = some (.lst (qs.map V.ref)) ∧ Paired (inOk Z R H) qs xss
  | @Sl.od _ _ kvs, f => ∃ p kv, f = [p] ∧ o = some (.ref p) ∧ H p = some (.dK kv) ∧ Paired (kvOk Z R) kv kvs
  | .ow O, f => ∃ v, o = some v ∧ O.G Z R (res H f) v ∧ ∀ p ∈ f, H p ≠ none
def Es : List (Option V) → List Sl → List Addr → Prop
  | [], [], own => own = []
  | o :: σ, s :: Γ, own => ∃ f g, own = f ++ g ∧ slok Z R H o s f ∧ Es σ Γ g
  | _, _, _ => False
end
/-- the heap H over the frozen part R; B: the heap at the frame's entry, R0 the frozen part there; own: this frame's own objects -/
structure Hs (B R0 R H : Hp) (own : List Addr) : Prop where
  rh : Same R H
  bh : Same B H
  r0 : Same R0 R
  nw : ∀ b o, R b = some o → R0 b = some o ∨ B b = none
  ow : ∀ p ∈ own, R p = none ∧ B p = none
  nd : own.Nodup
def Sy (Z : Zz) (B R0 R H : Hp) (τ : List (Option V)) (Θ : List Sl) : Prop := ∃ own, Hs B R0 R H own ∧ Es Z R H τ Θ own

section
variable {Z : Zz} {B R0 R R' H H' : Hp} {τ : List (Option V)} {Θ : List Sl} {s : Sl} {o : Option V} {f own : List Addr}
theorem inOk_mono {α : Type} [Rp α] {q : Addr} {xs : List α} (e : Same R R') (k : H' q = H q) (h : inOk Z R H q xs) : inOk Z R' H' q xs := by
  obtain ⟨vs, h1, h2⟩ := h
  exact ⟨vs, by rw [k]; exact h1, paired_mono (fun _ _ => Rp.mono e) h2⟩
theorem paired_inOk {α : Type} [Rp α] : ∀ {qs : List Addr} {xss : List (List α)}, Same R R' → (∀ p ∈ qs, H' p = H p) → Paired (inOk Z R H) qs xss → Paired (inOk Z R' H') qs xss
  | _, _, _, _, .nil => .nil
  | _, _, e, k, .cons r t => .cons (inOk_mono e (k _ List.mem_cons_self) r) (paired_inOk e (fun p hp => k p (List.mem_cons_of_mem _ hp)) t)
theorem slok_mono (e : Same R R') (k : ∀ p ∈ f, H' p = H p) (h : slok Z R H o s f) : slok Z R' H' o s f := by
  cases s with
  | un => exact h
  | im d =>
    obtain ⟨h1, v, h2, h3⟩ := h
    exact ⟨h1, v, h2, Rp.mono e h3⟩
  | ol xs =>
    obtain ⟨p, vs, rfl, h2, h3, h4⟩ := h
    exact ⟨p, vs, rfl, h2, by rw [k p (by simp)]; exact h3, paired_mono (fun _ _ => Rp.mono e) h4⟩
  | o2 xss =>
    obtain ⟨p, qs, rfl, h2, h3, h4⟩ := h
    exact ⟨p, qs, rfl, h2, by rw [k p (by simp)]; exact h3, paired_inOk e (fun q hq => k q (List.mem_cons_of_mem _ hq)) h4⟩
  | od kvs =>
    obtain ⟨p, kv, rfl, h2, h3, h4⟩ := h
    exact ⟨p, kv, rfl, h2, by rw [k p (by simp)]; exact h3, paired_mono (fun _ _ q => ⟨q.1, Rp.mono e q.2⟩) h4⟩
  | ow O =>
    obtain ⟨v, h2, h3, h4⟩ := h
    have e2 : res H' f = res H f := by
      funext p
      by_cases c : p ∈ f
      · rw [res_in c, res_in c, k p c]
      · simp [res, c]
    exact ⟨v, h2, by rw [e2]; exact O.mono e h3, fun p hp => by rw [k p hp]; exact h4 p hp⟩
theorem inOk_some {α : Type} [Rp α] : ∀ {qs : List Addr} {xss : List (List α)}, Paired (inOk Z R H) qs xss → ∀ p ∈ qs, H p ≠ none
  | _, _, .nil, p, hp => by simp at hp
  | _, _, .cons r t, p, hp => by
    rcases List.mem_cons.mp hp with e | e
    · subst e
      obtain ⟨vs, h1, _⟩ := r
      rw [h1]; simp
    · exact inOk_some t p e
theorem slok_some (h : slok Z R H o s f) : ∀ p ∈ f, H p ≠ none := by
  intro q hq
  cases s with
  | un => rw [show f = [] from h] at hq; simp at hq
  | im d => rw [h.1] at hq; simp at hq
  | ol xs =>
    obtain ⟨p, vs, rfl, h2, h3, h4⟩ := h
    have e : q = p := by simpa using hq
    rw [e, h3]; simp
  | o2 xss =>
    obtain ⟨p, qs, rfl, h2, h3, h4⟩ := h
    rcases List.mem_cons.mp hq with e | e
    · rw [e, h3]; simp
    · exact inOk_some h4 q e
  | od kvs =>
    obtain ⟨p, kv, rfl, h2, h3, h4⟩ := h
    have e : q = p := by simpa using hq
    rw [e, h3]; simp
  | ow O =>
    obtain ⟨v, h2, h3, h4⟩ := h
    exact h4 q hq
theorem es_len : ∀ {τ : List (Option V)} {Θ : List Sl} {own : List Addr}, Es Z R H τ Θ own → τ.length = Θ.length
  | [], [], _, _ => rfl
  | _ :: _, _ :: _, _, ⟨_, _, _, _, t⟩ => by rw [List.length_cons, List.length_cons, es_len t]
  | [], _ :: _, _, h => h.elim
  | _ :: _, [], _, h => h.elim
theorem es_mono (e : Same R R') : ∀ {τ : List (Option V)} {Θ : List Sl} {own : List Addr}, (∀ p ∈ own, H' p = H p) → Es Z R H τ Θ own → Es Z R' H' τ Θ own
  | [], [], _, _, h => h
  | _ :: _, _ :: _, _, k, ⟨f, g, e1, h1, t⟩ => by
    subst e1
    exact ⟨f, g, rfl, slok_mono e (fun p hp => k p (List.mem_append_left _ hp)) h1, es_mono e (fun p hp => k p (List.mem_append_right _ hp)) t⟩
  | [], _ :: _, _, _, h => h.elim
  | _ :: _, [], _, _, h => h.elim
theorem es_some : ∀ {τ : List (Option V)} {Θ : List Sl} {own : List Addr}, Es Z R H τ Θ own → ∀ p ∈ own, H p ≠ none
  | [], [], _, h, p, hp => by rw [show _ = [] from h] at hp; simp at hp
  | _ :: _, _ :: _, _, ⟨f, g, e1, h1, t⟩, p, hp => by
    subst e1
    rcases List.mem_append.mp hp with q | q
    · exact slok_some h1 p q
    · exact es_some t p q
  | [], _ :: _, _, h, _, _ => h.elim
  | _ :: _, [], _, h, _, _ => h.elim
/-- one slot, and all else -/
theorem es_at : ∀ {τ : List (Option V)} {Θ : List Sl} {own : List Addr} {i : Nat} {s : Sl}, Es Z R H τ Θ own → Θ[i]? = some s →
    ∃ o g1 f g2, τ[i]? = some o ∧ own = g1 ++ f ++ g2 ∧ slok Z R H o s f ∧ ∀ (R' H' : Hp) (o' : Option V) (s' : Sl) (f' : List Addr), Same R R' → (∀ p ∈ g1 ++ g2, H' p = H p) → slok Z R' H' o' s' f' → Es Z R' H' (τ.set i o') (Θ.set i s') (g1 ++ f' ++ g2)
  | [], [], _, _, _, _, e => by simp at e
  | o :: τ, s0 :: Θ, _, 0, s, ⟨f, g, e1, h1, t⟩, e => by
    have e' : s0 = s := by simpa using e
    subst e'
    refine ⟨o, [], f, g, rfl, by simpa using e1, h1, fun R' H' o' s' f' a k h => ⟨f', g, by simp, h, es_mono a (fun p hp => k p (by simpa using hp)) t⟩⟩
  | o :: τ, s0 :: Θ, _, i + 1, s, ⟨f, g, e1, h1, t⟩, e => by
    obtain ⟨o1, g1, f1, g2, h2, h3, h4, h5⟩ := es_at (i := i) t (by simpa using e)
    refine ⟨o1, f ++ g1, f1, g2, by simpa using h2, by rw [e1, h3]; simp, h4, fun R' H' o' s' f' a k h => ⟨f, g1 ++ f' ++ g2, by simp, slok_mono a (fun p hp => k p (by simp [hp])) h1, h5 R' H' o' s' f' a (fun p hp => k p (by simp at hp ⊢; rcases hp with q | q <;> simp [q])) h⟩⟩
  | [], _ :: _, _, _, _, h, _ => h.elim
  | _ :: _, [], _, _, _, h, _ => h.elim
end
end TB

namespace TB
open PySem L2
section
variable {Z : Zz} {B R0 R R' H H' : Hp} {τ : List (Option V)} {Θ : List Sl} {s : Sl} {o : Option V} {f own own' : List Addr}
theorem hs_sub (h : Hs B R0 R H own) (k : ∀ p ∈ own', p ∈ own) (nd : own'.Nodup) : Hs B R0 R H own' := ⟨h.rh, h.bh, h.r0, h.nw, fun p hp => h.ow p (k p hp), nd⟩
theorem nd_mid {g1 f g2 : List Addr} (h : (g1 ++ f ++ g2).Nodup) : (g1 ++ [] ++ g2).Nodup := by
  simp only [List.nodup_append, List.mem_append] at h ⊢
  grind
theorem nd_move {f g1 f1 g2 : List Addr} (h : (f ++ (g1 ++ f1 ++ g2)).Nodup) : (g1 ++ f ++ g2).Nodup := by
  simp only [List.nodup_append, List.mem_append] at h ⊢
  grind
theorem nd_tail {f g : List Addr} (h : (f ++ g).Nodup) : g.Nodup := by
  simp only [List.nodup_append] at h
  exact h.2.1
theorem sy_get (S : Sy Z B R0 R H τ Θ) {i : Nat} (e : Θ[i]? = some s) : ∃ o f, τ[i]? = some o ∧ slok Z R H o s f := by
  obtain ⟨own, h, es⟩ := S
  obtain ⟨o, g1, f, g2, h1, _, h3, _⟩ := es_at es e
  exact ⟨o, f, h1, h3⟩
theorem sy_im {α : Type} [Rp α] {d : α} (S : Sy Z B R0 R H τ Θ) {i : Nat} (e : Θ[i]? = some (.im d)) : ∃ v, τ[i]? = some (some v) ∧ Rp.rp Z R v d := by
  obtain ⟨o, f, h1, _, v, h2, h3⟩ := sy_get S e
  exact ⟨v, by rw [h1, h2], h3⟩
theorem sy_push {α : Type} [Rp α] {d : α} {v : V} (S : Sy Z B R0 R H τ Θ) (h : Rp.rp Z R v d) : Sy Z B R0 R H (some v :: τ) (.im d :: Θ) := by
  obtain ⟨own, hs, es⟩ := S
  exact ⟨own, hs, [], own, rfl, ⟨rfl, v, rfl, h⟩, es⟩
theorem sy_pushu (S : Sy Z B R0 R H τ Θ) : Sy Z B R0 R H (o :: τ) (.un :: Θ) := by
  obtain ⟨own, hs, es⟩ := S
  exact ⟨own, hs, [], own, rfl, rfl, es⟩
theorem sy_tail (S : Sy Z B R0 R H (o :: τ) (s :: Θ)) : Sy Z B R0 R H τ Θ := by
  obtain ⟨own, hs, f, g, e1, _, es⟩ := S
  subst e1
  exact ⟨g, hs_sub hs (fun p hp => List.mem_append_right _ hp) (nd_tail hs.nd), es⟩
theorem sy_top {α : Type} [Rp α] {d : α} (S : Sy Z B R0 R H (o :: τ) (.im d :: Θ)) : ∃ v, o = some v ∧ Rp.rp Z R v d := by
  obtain ⟨own, hs, f, g, e1, ⟨_, v, h1, h2⟩, es⟩ := S
  exact ⟨v, h1, h2⟩
/-- the top goes into slot i -/
theorem sy_move (S : Sy Z B R0 R H (o :: τ) (s :: Θ)) (i : Nat) : Sy Z B R0 R H (τ.set i o) (Θ.set i s) := by
  obtain ⟨own, hs, f, g, e1, h1, es⟩ := S
  subst e1
  cases e : Θ[i]? with
  | none =>
    have l1 : Θ.length ≤ i := List.getElem?_eq_none_iff.mp e
    have l2 : τ.length ≤ i := by rw [es_len es]; exact l1
    rw [List.set_eq_of_length_le l1, List.set_eq_of_length_le l2]
    exact ⟨g, hs_sub hs (fun p hp => List.mem_append_right _ hp) (nd_tail hs.nd), es⟩
  | some s0 =>
    obtain ⟨o0, g1, f1, g2, h2, h3, h4, h5⟩ := es_at es e
    subst h3
    refine ⟨g1 ++ f ++ g2, hs_sub hs (fun p hp => ?_) (nd_move hs.nd), h5 R H o s f (Same.refl _) (fun _ _ => rfl) h1⟩
    simp only [List.mem_append] at hp ⊢
    grind
/-- slot i forgotten -/
theorem sy_forget (S : Sy Z B R0 R H τ Θ) (i : Nat) (o' : Option V) : Sy Z B R0 R H (τ.set i o') (Θ.set i .un) := sy_move (sy_pushu S) i
theorem sy_forget' (S : Sy Z B R0 R H τ Θ) (i : Nat) : Sy Z B R0 R H τ (Θ.set i .un) := by
  obtain ⟨own, hs, es⟩ := S
  cases e : Θ[i]? with
  | none =>
    rw [List.set_eq_of_length_le (List.getElem?_eq_none_iff.mp e)]
    exact ⟨own, hs, es⟩
  | some s0 =>
    obtain ⟨o0, g1, f1, g2, h2, h3, h4, h5⟩ := es_at es e
    subst h3
    have h6 := h5 R H o0 .un [] (Same.refl _) (fun _ _ => rfl) rfl
    have e2 : τ.set i o0 = τ := by
      apply List.ext_getElem?
      intro j
      rw [List.getElem?_set]
      split
      · rename_i hj
        subst hj
        split
        · rw [h2]
        · rename_i hl
          rw [List.getElem?_eq_none (by omega)]
      · rfl
    rw [e2] at h6
    exact ⟨_, hs_sub hs (fun p hp => by simp only [List.mem_append] at hp ⊢; grind) (nd_mid hs.nd), h6⟩
theorem fresh_own (hs : Hs B R0 R H own) (es : Es Z R H τ Θ own) {p : Addr} (hp : H p = none) : R p = none ∧ B p = none ∧ p ∉ own := by
  refine ⟨hs.rh.free hp, hs.bh.free hp, fun hm => es_some es p hm hp⟩
theorem same_upd {p : Addr} {u : HO} (hp : H p = none) : Same H (upd H p u) := fun b o e => by
  rw [upd_ne (ne_of_none e hp)]
  exact e
/-- a new object that nobody needs -/
theorem sy_alloc (S : Sy Z B R0 R H τ Θ) {p : Addr} (hp : H p = none) (u : HO) : Sy Z B R0 R (upd H p u) τ Θ := by
  obtain ⟨own, hs, es⟩ := S
  obtain ⟨a, b, c⟩ := fresh_own hs es hp
  exact ⟨own, ⟨hs.rh.trans (same_upd hp), hs.bh.trans (same_upd hp), hs.r0, hs.nw, hs.ow, hs.nd⟩, es_mono (Same.refl _) (fun q hq => upd_ne (fun z => c (z ▸ hq))) es⟩
/-- a new object, frozen at once -/
theorem sy_froz (S : Sy Z B R0 R H τ Θ) {p : Addr} (hp : H p = none) (u : HO) : Sy Z B R0 (upd R p u) (upd H p u) τ Θ ∧ Same R (upd R p u) := by
  obtain ⟨own, hs, es⟩ := S
  obtain ⟨a, b, c⟩ := fresh_own hs es hp
  have sr : Same R (upd R p u) := same_upd a
  refine ⟨⟨own, ⟨fun q o e => ?_, hs.bh.trans (same_upd hp), hs.r0.trans sr, fun q o e => ?_, fun q hq => ?_, hs.nd⟩, es_mono sr (fun q hq => upd_ne (fun z => c (z ▸ hq))) es⟩, sr⟩
  · by_cases hq : q = p
    · subst hq
      rw [upd_same] at e ⊢
      exact e
    · rw [upd_ne hq] at e ⊢
      exact hs.rh _ _ e
  · by_cases hq : q = p
    · subst hq
      exact .inr b
    · rw [upd_ne hq] at e
      exact hs.nw _ _ e
  · have n : q ≠ p := fun z => c (z ▸ hq)
    rw [upd_ne n]
    exact hs.ow q hq
/-- a new own list | dict -/
theorem sy_newl {α : Type} [Rp α] {vs : List V} {xs : List α} (S : Sy Z B R0 R H τ Θ) {p : Addr} (hp : H p = none) (hv : Paired (Rp.rp Z R) vs xs) : Sy Z B R0 R (upd H p (.lst vs)) (some (.ref p) :: τ) (.ol xs :: Θ) := by
  obtain ⟨own, hs, es⟩ := S
  obtain ⟨a, b, c⟩ := fresh_own hs es hp
  refine ⟨p :: own, ⟨hs.rh.trans (same_upd hp), hs.bh.trans (same_upd hp), hs.r0, hs.nw, fun q hq => ?_, List.nodup_cons.mpr ⟨c, hs.nd⟩⟩, [p], own, rfl, ⟨p, vs, rfl, rfl, upd_same, hv⟩, es_mono (Same.refl _) (fun q hq => upd_ne (fun z => c (z ▸ hq))) es⟩
  rcases List.mem_cons.mp hq with z | z
  · rw [z]; exact ⟨a, b⟩
  · exact hs.ow q z
theorem sy_newd {α : Type} [Rp α] (S : Sy Z B R0 R H τ Θ) {p : Addr} (hp : H p = none) : Sy Z B R0 R (upd H p (.dK [])) (some (.ref p) :: τ) (.od ([] : List (Int × α)) :: Θ) := by
  obtain ⟨own, hs, es⟩ := S
  obtain ⟨a, b, c⟩ := fresh_own hs es hp
  refine ⟨p :: own, ⟨hs.rh.trans (same_upd hp), hs.bh.trans (same_upd hp), hs.r0, hs.nw, fun q hq => ?_, List.nodup_cons.mpr ⟨c, hs.nd⟩⟩, [p], own, rfl, ⟨p, [], rfl, rfl, upd_same, .nil⟩, es_mono (Same.refl _) (fun q hq => upd_ne (fun z => c (z ▸ hq))) es⟩
  rcases List.mem_cons.mp hq with z | z
  · rw [z]; exact ⟨a, b⟩
  · exact hs.ow q z
/-- an own list changes -/
theorem sy_mutl {α : Type} [Rp α] {xs : List α} (S : Sy Z B R0 R H τ Θ) {i : Nat} (e : Θ[i]? = some (.ol xs)) : ∃ p vs, τ[i]? = some (some (.ref p)) ∧ H p = some (.lst vs) ∧ Paired (Rp.rp Z R) vs xs ∧
    ∀ {β : Type} [Rp β] (vs' : List V) (ys : List β), Paired (Rp.rp Z R) vs' ys → Sy Z B R0 R (upd H p (.lst vs')) τ (Θ.set i (.ol ys)) := by
  obtain ⟨own, hs, es⟩ := S
  obtain ⟨o, g1, f, g2, h2, h3, ⟨p, vs, rfl, rfl, h4, h5⟩, h6⟩ := es_at es e
  subst h3
  refine ⟨p, vs, h2, h4, h5, fun {β} _ vs' ys hy => ?_⟩
  have hp := hs.ow p (by simp)
  have nd := hs.nd
  have ne : ∀ q ∈ g1 ++ g2, q ≠ p := fun q hq z => by
    subst z
    simp only [List.nodup_append, List.mem_append, List.mem_singleton] at nd hq
    grind
  have h7 := h6 R (upd H p (.lst vs')) (some (.ref p)) (.ol ys) [p] (Same.refl _) (fun q hq => upd_ne (ne q hq)) ⟨p, vs', rfl, rfl, upd_same, hy⟩
  have e2 : τ.set i (some (.ref p)) = τ := by
    apply List.ext_getElem?
    intro j
    rw [List.getElem?_set]
    split
    · rename_i hj
      subst hj
      split
      · rw [h2]
      · rename_i hl
        rw [List.getElem?_eq_none (by omega)]
    · rfl
  rw [e2] at h7
  exact ⟨_, ⟨fun q u a => by rw [upd_ne (ne_of_none a hp.1)]; exact hs.rh _ _ a, fun q u a => by rw [upd_ne (ne_of_none a hp.2)]; exact hs.bh _ _ a, hs.r0, hs.nw, hs.ow, hs.nd⟩, h7⟩
theorem sy_mutd {α : Type} [Rp α] {xs : List (Int × α)} (S : Sy Z B R0 R H τ Θ) {i : Nat} (e : Θ[i]? = some (.od xs)) : ∃ p kv, τ[i]? = some (some (.ref p)) ∧ H p = some (.dK kv) ∧ Paired (kvOk Z R) kv xs ∧
    ∀ {β : Type} [Rp β] (kv' : List (Key × V)) (ys : List (Int × β)), Paired (kvOk Z R) kv' ys → Sy Z B R0 R (upd H p (.dK kv')) τ (Θ.set i (.od ys)) := by
  obtain ⟨own, hs, es⟩ := S
  obtain ⟨o, g1, f, g2, h2, h3, ⟨p, vs, rfl, rfl, h4, h5⟩, h6⟩ := es_at es e
  subst h3
  refine ⟨p, vs, h2, h4, h5, fun {β} _ vs' ys hy => ?_⟩
  have hp := hs.ow p (by simp)
  have nd := hs.nd
  have ne : ∀ q ∈ g1 ++ g2, q ≠ p := fun q hq z => by
    subst z
    simp only [List.nodup_append, List.mem_append, List.mem_singleton] at nd hq
    grind
  have h7 := h6 R (upd H p (.dK vs')) (some (.ref p)) (.od ys) [p] (Same.refl _) (fun q hq => upd_ne (ne q hq)) ⟨p, vs', rfl, rfl, upd_same, hy⟩
  have e2 : τ.set i (some (.ref p)) = τ := by
    apply List.ext_getElem?
    intro j
    rw [List.getElem?_set]
    split
    · rename_i hj
      subst hj
      split
      · rw [h2]
      · rename_i hl
        rw [List.getElem?_eq_none (by omega)]
    · rfl
  rw [e2] at h7
  exact ⟨_, ⟨fun q u a => by rw [upd_ne (ne_of_none a hp.1)]; exact hs.rh _ _ a, fun q u a => by rw [upd_ne (ne_of_none a hp.2)]; exact hs.bh _ _ a, hs.r0, hs.nw, hs.ow, hs.nd⟩, h7⟩
/-- an own list is frozen -/
theorem sy_frl {α : Type} [Rp α] {xs : List α} (S : Sy Z B R0 R H τ Θ) {i : Nat} (e : Θ[i]? = some (.ol xs)) : ∃ R', Same R R' ∧ Sy Z B R0 R' H τ (Θ.set i (.im xs)) := by
  obtain ⟨own, hs, es⟩ := S
  obtain ⟨o, g1, f, g2, h2, h3, ⟨p, vs, rfl, rfl, h4, h5⟩, h6⟩ := es_at es e
  subst h3
  have hp := hs.ow p (by simp)
  have nd := hs.nd
  have ne : ∀ q ∈ g1 ++ g2, q ≠ p := fun q hq z => by
    subst z
    simp only [List.nodup_append, List.mem_append, List.mem_singleton] at nd hq
    grind
  have sr : Same R (upd R p (.lst vs)) := same_upd hp.1
  have h7 := h6 (upd R p (.lst vs)) H (some (.ref p)) (.im xs) [] sr (fun q hq => rfl) ⟨rfl, .ref p, rfl, p, vs, rfl, upd_same, paired_mono (fun _ _ => Rp.mono sr) h5⟩
  have e2 : τ.set i (some (.ref p)) = τ := by
    apply List.ext_getElem?
    intro j
    rw [List.getElem?_set]
    split
    · rename_i hj
      subst hj
      split
      · rw [h2]
      · rename_i hl
        rw [List.getElem?_eq_none (by omega)]
    · rfl
  rw [e2] at h7
  refine ⟨_, sr, _, ⟨fun q u a => ?_, hs.bh, hs.r0.trans sr, fun q u a => ?_, fun q hq => ?_, nd_mid hs.nd⟩, h7⟩
  · by_cases hq : q = p
    · subst hq
      rw [upd_same] at a
      rw [h4]; exact a
    · rw [upd_ne hq] at a
      exact hs.rh _ _ a
  · by_cases hq : q = p
    · subst hq
      exact .inr hp.2
    · rw [upd_ne hq] at a
      exact hs.nw _ _ a
  · rw [List.append_nil] at hq
    rw [upd_ne (ne q hq)]
    exact hs.ow q (by simp only [List.mem_append] at hq ⊢; grind)
end
end TB

/-! TbG: operators by values, whatever the kinds (ints or lists; lists, tuples or dicts). -/
namespace TB
open PySem PySem.Spec PyProof.Rows L2
theorem opR_or {X : Cx} {f : Value → Value → Sem Value} {r r' : R2} (h : OpR X f r) (h' : OpR X f r') : OpR X f (fun x y H Q => r x y H Q ∨ r' x y H Q) := by
  intro pins s σ H x y v u Q I rx ry q
  rcases q with q | q
  · exact h pins s σ H x y v u Q I rx ry q
  · exact h' pins s σ H x y v u Q I rx ry q
theorem callR_or {X : Cx} {f : Value} {r r' : List V → Hp → VK → Prop} (h : CallR X f r) (h' : CallR X f r') : CallR X f (fun xs H Q => r xs H Q ∨ r' xs H Q) := by
  intro pins s σ H xs us Q I rx q
  rcases q with q | q
  · exact h pins s σ H xs us Q I rx q
  · exact h' pins s σ H xs us Q I rx q
def rAddI : R2 := rI0 fun i j => .int (i + j)
def gAdd : R2 := fun x y H Q => rAddI x y H Q ∨ rCat x y H Q
def gMns : R2 := rI0 fun i j => .int (i - j)
def rMulI : R2 := rI CMulW fun i j => .int (i * j)
def rMulS : R2 := rI CMul fun i j => .int (i * j)
def gMul : R2 := fun x y H Q => rMulI x y H Q ∨ rRep x y H Q ∨ rMulS x y H Q
def gMod : R2 := rI (fun _ j => j ≠ 0) fun i j => .int (i.fmod j)
def rDivN : R2 := rI CDivN fun i j => .int (i.fdiv j)
def rDivW : R2 := rI CDivW fun i j => .int (i / j)
def gDiv : R2 := fun x y H Q => rDivN x y H Q ∨ rDivW x y H Q
def gPow : R2 := rI CPow fun i j => .int (i ^ j.toNat)
def gEq (K : PySem.W.Frag) : R2 := fun x y H Q => rEq x y H Q ∨ rEqD K x y H Q
def gNe (K : PySem.W.Frag) : R2 := fun x y H Q => rNe x y H Q ∨ rNeD K x y H Q
def gLt : R2 := rI0 fun i j => .bl (decide (i < j))
def gLe : R2 := rI0 fun i j => .bl (decide (i ≤ j))
def gGt : R2 := rI0 fun i j => .bl (decide (j < i))
def gGe : R2 := rI0 fun i j => .bl (decide (j ≤ i))
def gIs : R2 := fun x y H Q => y = .non ∧ Q (.bl (decide (x = .non))) H
def gIsNot : R2 := fun x y H Q => y = .non ∧ Q (.bl (!decide (x = .non))) H
def rDIn : R2 := fun x y H Q => ∃ a o, y = .ref a ∧ DGet H a x o ∧ Q (.bl o.isSome) H
def rDNotIn : R2 := fun x y H Q => ∃ a o, y = .ref a ∧ DGet H a x o ∧ Q (.bl (!o.isSome)) H
def gIn (K : PySem.W.Frag) : R2 := fun x y H Q => rIn K false x y H Q ∨ rDIn x y H Q
def gNotIn (K : PySem.W.Frag) : R2 := fun x y H Q => rIn K true x y H Q ∨ rDNotIn x y H Q
def rDIx : R2 := fun x y H Q => ∃ a v, x = .ref a ∧ DGet H a y (some v) ∧ Q v H
def gIx (K : PySem.W.Frag) : R2 := fun x y H Q => rIxL K x y H Q ∨ rIxT K x y H Q ∨ rDIx x y H Q
def uNeg : V → Hp → VK → Prop := rU fun i => .int (-i)
section
variable {X : Cx}
theorem go_add : OpR X (binaryOp .Add) gAdd := opR_or op_add op_cat
theorem go_sub : OpR X (binaryOp .Sub) gMns := op_sub
theorem go_mul : OpR X (binaryOp .Mult) gMul := opR_or op_mulW (opR_or op_rep op_mul)
theorem go_mod : OpR X (binaryOp .Mod) gMod := op_modN
theorem go_div : OpR X (binaryOp .FloorDiv) gDiv := opR_or op_fdivN op_fdivW
theorem go_pow : OpR X (binaryOp .Pow) gPow := op_pow
theorem go_eq (hu : X.A.units + 64 < cLine) : OpR X (compareOp .Eq) (gEq X.K) := opR_or op_eq (op_eqD hu)
theorem go_ne (hu : X.A.units + 64 < cLine) : OpR X (compareOp .NotEq) (gNe X.K) := opR_or op_ne (op_neD hu)
theorem go_lt : OpR X (compareOp .Lt) gLt := op_lt
theorem go_le : OpR X (compareOp .LtE) gLe := op_le
theorem go_gt : OpR X (compareOp .Gt) gGt := op_gt
theorem go_ge : OpR X (compareOp .GtE) gGe := op_ge
theorem go_is : OpR X (compareOp .Is) gIs := op_isN
theorem go_isNot : OpR X (compareOp .IsNot) gIsNot := op_notN
theorem go_dIn (hu : X.A.units + 1 < cLine) : OpR X (compareOp .In) rDIn := by
  intro pins s σ H x y v u Q I rx ry q
  obtain ⟨a, o, rfl, g, q⟩ := q
  cases ry
  exact d_in hu I g rx fun s3 I3 => ⟨.bl o.isSome, H, I3, rfl, q⟩
theorem go_dNotIn (hu : X.A.units + 1 < cLine) : OpR X (compareOp .NotIn) rDNotIn := by
  intro pins s σ H x y v u Q I rx ry q
  obtain ⟨a, o, rfl, g, q⟩ := q
  cases ry
  exact d_notIn hu I g rx fun s3 I3 => ⟨.bl (!o.isSome), H, I3, rfl, q⟩
theorem go_in (hu : X.A.units + 1 < cLine) : OpR X (compareOp .In) (gIn X.K) := opR_or op_in_seq (go_dIn hu)
theorem go_notIn (hu : X.A.units + 1 < cLine) : OpR X (compareOp .NotIn) (gNotIn X.K) := opR_or op_notIn_seq (go_dNotIn hu)
theorem go_dIx (hu : X.A.units + 1 < cLine) : IxR X rDIx := by
  intro value slice pins s σ H x y v u Q I rx ry h hs
  obtain ⟨a, w, rfl, g, q⟩ := h
  cases rx
  exact tail_any (dict_typeIs I g) PySem.F.slot_dict_getitem.lookup (d_getItem hu I g ry fun w' s3 I3 rw' => ⟨w, H, I3, rw', q⟩) hs
theorem go_ix (hu : X.A.units + 1 < cLine) : IxR X (gIx X.K) := ix_list.or (ix_tup.or (go_dIx hu))
theorem go_neg : UnR X (unaryOp .USub) uNeg := un_neg
theorem hu64 {k : Nat} {A : Around} (hr : Room k A) : A.units + 64 < cLine := by have := hr.un; omega
theorem hu1 {k : Nat} {A : Around} (hr : Room k A) : A.units + 1 < cLine := by have := hr.un; omega
end
end TB

/-! TbJ: the judgements: what an expression is worth (Ev), a test (EvT), arguments (EvA), what a walk draws (EvI), what a statement leads to (W). -/
namespace TB
open PySem L2
/-- a frame's state: ρ, Δ what lies ahead of the slots (values under way) -/
def Sx (Z : Zz) (B R0 R H : Hp) (ρ : List (Option V)) (Δ : List Sl) (σ : List (Option V)) (Γ : List Sl) : Prop := ρ.length = Δ.length ∧ Sy Z B R0 R H (ρ ++ σ) (Δ ++ Γ)
section
variable {Z : Zz} {B R0 R R' H H' : Hp} {ρ σ τ τ' : List (Option V)} {Δ Γ Θ Θ' : List Sl} {s : Sl} {o : Option V} {f own own' : List Addr}
theorem es_append : ∀ {τ τ' : List (Option V)} {Θ Θ' : List Sl} {own : List Addr}, τ.length = Θ.length → (Es Z R H (τ ++ τ') (Θ ++ Θ') own ↔ ∃ f g, own = f ++ g ∧ Es Z R H τ Θ f ∧ Es Z R H τ' Θ' g)
  | [], _, [], _, own, _ => ⟨fun h => ⟨[], own, rfl, rfl, h⟩, fun ⟨f, g, e, h1, h2⟩ => by
      have h1' : f = [] := h1
      subst h1'
      rw [e]
      exact h2⟩
  | o :: τ, τ', s :: Θ, Θ', own, hl => by
    have hl' : τ.length = Θ.length := by simpa using hl
    constructor
    · rintro ⟨f, g, e, h1, h2⟩
      obtain ⟨f2, g2, e2, h3, h4⟩ := (es_append hl').mp h2
      exact ⟨f ++ f2, g2, by rw [e, e2, List.append_assoc], ⟨f, f2, rfl, h1, h3⟩, h4⟩
    · rintro ⟨f, g, e, ⟨f1, f2, e1, h1, h2⟩, h3⟩
      exact ⟨f1, f2 ++ g, by rw [e, e1, List.append_assoc], h1, (es_append hl').mpr ⟨f2, g, rfl, h2, h3⟩⟩
  | [], _, _ :: _, _, _, hl => by simp at hl
  | _ :: _, _, [], _, _, hl => by simp at hl
theorem sy_sub {τ1 τ2 τ3 : List (Option V)} {Θ1 Θ2 Θ3 : List Sl} (h1 : τ1.length = Θ1.length) (h2 : τ2.length = Θ2.length) (S : Sy Z B R0 R H (τ1 ++ (τ2 ++ τ3)) (Θ1 ++ (Θ2 ++ Θ3))) : Sy Z B R0 R H (τ1 ++ τ3) (Θ1 ++ Θ3) := by
  obtain ⟨own, hs, es⟩ := S
  obtain ⟨f, g, rfl, e1, e2⟩ := (es_append h1).mp es
  obtain ⟨f2, g2, rfl, e3, e4⟩ := (es_append h2).mp e2
  refine ⟨f ++ g2, hs_sub hs (fun p hp => ?_) ?_, (es_append h1).mpr ⟨f, g2, rfl, e1, e4⟩⟩
  · simp only [List.mem_append] at hp ⊢
    grind
  · have nd := hs.nd
    simp only [List.nodup_append, List.mem_append] at nd ⊢
    grind
theorem sx_len (S : Sx Z B R0 R H ρ Δ σ Γ) : σ.length = Γ.length := by
  obtain ⟨h, own, _, es⟩ := S
  have := es_len es
  simp only [List.length_append] at this
  omega
theorem sx_same (S : Sx Z B R0 R H ρ Δ σ Γ) : Same R H := by
  obtain ⟨_, own, hs, _⟩ := S
  exact hs.rh
theorem sx_base (S : Sx Z B R0 R H ρ Δ σ Γ) : Same B H := by
  obtain ⟨_, own, hs, _⟩ := S
  exact hs.bh
theorem sx_r0 (S : Sx Z B R0 R H ρ Δ σ Γ) : Same R0 R := by
  obtain ⟨_, own, hs, _⟩ := S
  exact hs.r0
theorem at_slot {α β : Type _} {l : List α} {m : List β} {i : Nat} {r : List β} (h : l.length = m.length) : (m ++ r)[l.length + i]? = r[i]? := by
  rw [h, List.getElem?_append_right (by omega)]
  congr 1
  omega
theorem at_slot' {α : Type _} {l r : List α} {i : Nat} : (l ++ r)[l.length + i]? = r[i]? := at_slot rfl
theorem sx_slot (S : Sx Z B R0 R H ρ Δ σ Γ) {i : Nat} (e : Γ[i]? = some s) : ∃ o f, σ[i]? = some o ∧ slok Z R H o s f := by
  obtain ⟨hl, S⟩ := S
  obtain ⟨o, f, h1, h2⟩ := sy_get S (i := ρ.length + i) (by rw [at_slot hl]; exact e)
  rw [at_slot'] at h1
  exact ⟨o, f, h1, h2⟩
theorem sx_im {α : Type} [Rp α] {d : α} (S : Sx Z B R0 R H ρ Δ σ Γ) {i : Nat} (e : Γ[i]? = some (.im d)) : ∃ v, σ[i]? = some (some v) ∧ Rp.rp Z R v d := by
  obtain ⟨o, f, h1, _, v, h2, h3⟩ := sx_slot S e
  exact ⟨v, by rw [h1, h2], h3⟩
theorem sx_push {α : Type} [Rp α] {d : α} {v : V} (S : Sx Z B R0 R H ρ Δ σ Γ) (h : Rp.rp Z R v d) : Sx Z B R0 R H (some v :: ρ) (.im d :: Δ) σ Γ := ⟨by simp [S.1], sy_push S.2 h⟩
theorem sx_pushu (S : Sx Z B R0 R H ρ Δ σ Γ) : Sx Z B R0 R H (o :: ρ) (.un :: Δ) σ Γ := ⟨by simp [S.1], sy_pushu S.2⟩
theorem sx_pop {s : Sl} (S : Sx Z B R0 R H (o :: ρ) (s :: Δ) σ Γ) : Sx Z B R0 R H ρ Δ σ Γ := ⟨by have := S.1; simpa using this, sy_tail S.2⟩
theorem sx_pop2 {o2 : Option V} {s s2 : Sl} (S : Sx Z B R0 R H (o :: o2 :: ρ) (s :: s2 :: Δ) σ Γ) : Sx Z B R0 R H (o :: ρ) (s :: Δ) σ Γ :=
  ⟨by have := S.1; simpa using this, sy_sub (τ1 := [o]) (τ2 := [o2]) (Θ1 := [s]) (Θ2 := [s2]) rfl rfl S.2⟩
theorem sx_top {α : Type} [Rp α] {d : α} (S : Sx Z B R0 R H (o :: ρ) (.im d :: Δ) σ Γ) : ∃ v, o = some v ∧ Rp.rp Z R v d := sy_top S.2
theorem sx_top' {α : Type} [Rp α] {d : α} {v : V} (S : Sx Z B R0 R H (some v :: ρ) (.im d :: Δ) σ Γ) : Rp.rp Z R v d := by
  obtain ⟨w, h1, h2⟩ := sx_top S
  cases h1
  exact h2
theorem sx_drop {ρ' : List (Option V)} {Δ' : List Sl} (h : ρ'.length = Δ'.length) (S : Sx Z B R0 R H (ρ' ++ ρ) (Δ' ++ Δ) σ Γ) : Sx Z B R0 R H ρ Δ σ Γ := by
  obtain ⟨h1, S⟩ := S
  rw [List.length_append, List.length_append] at h1
  exact ⟨by omega, sy_sub (τ1 := []) (Θ1 := []) rfl h (by simpa using S)⟩
theorem sx_drop1 {ρ' : List (Option V)} {Δ' : List Sl} (h : ρ'.length = Δ'.length) (S : Sx Z B R0 R H (o :: (ρ' ++ ρ)) (s :: (Δ' ++ Δ)) σ Γ) : Sx Z B R0 R H (o :: ρ) (s :: Δ) σ Γ := by
  obtain ⟨h1, S⟩ := S
  simp only [List.length_cons, List.length_append] at h1
  refine ⟨by simp; omega, sy_sub (τ1 := [o]) (Θ1 := [s]) (τ2 := ρ') (Θ2 := Δ') rfl h (by simpa using S)⟩
/-- the slots are let go -/
theorem sx_leave (S : Sx Z B R0 R H ρ Δ σ Γ) : Sx Z B R0 R H ρ Δ [] [] := by
  refine ⟨S.1, ?_⟩
  have h := sx_len S
  exact sy_sub (τ1 := ρ) (Θ1 := Δ) (τ2 := σ) (Θ2 := Γ) (τ3 := []) (Θ3 := []) S.1 h (by simpa using S.2)
theorem sx_asg (S : Sx Z B R0 R H (o :: ρ) (s :: Δ) σ Γ) (i : Nat) : Sx Z B R0 R H ρ Δ (σ.set i o) (Γ.set i s) := by
  obtain ⟨h, S⟩ := S
  have h' : ρ.length = Δ.length := by simpa using h
  refine ⟨h', ?_⟩
  have q := sy_move (τ := ρ ++ σ) (Θ := Δ ++ Γ) S (ρ.length + i)
  rw [List.set_append_right _ _ (by omega), h', List.set_append_right _ _ (by omega), show Δ.length + i - Δ.length = i by omega] at q
  exact q
theorem sx_forget (S : Sx Z B R0 R H ρ Δ σ Γ) (i : Nat) : Sx Z B R0 R H ρ Δ σ (Γ.set i .un) := by
  obtain ⟨h, S⟩ := S
  refine ⟨h, ?_⟩
  have q := sy_forget' S (Δ.length + i)
  rw [List.set_append_right _ _ (by omega), show Δ.length + i - Δ.length = i by omega] at q
  exact q
theorem sx_forgets (S : Sx Z B R0 R H ρ Δ σ Γ) (i : Nat) (o' : Option V) : Sx Z B R0 R H ρ Δ (σ.set i o') (Γ.set i .un) := sx_asg (sx_pushu S) i
theorem sx_alloc (S : Sx Z B R0 R H ρ Δ σ Γ) {p : Addr} (hp : H p = none) (u : HO) : Sx Z B R0 R (upd H p u) ρ Δ σ Γ := ⟨S.1, sy_alloc S.2 hp u⟩
theorem sx_froz (S : Sx Z B R0 R H ρ Δ σ Γ) {p : Addr} (hp : H p = none) (u : HO) : Sx Z B R0 (upd R p u) (upd H p u) ρ Δ σ Γ ∧ Same R (upd R p u) := ⟨⟨S.1, (sy_froz S.2 hp u).1⟩, (sy_froz S.2 hp u).2⟩
theorem sx_newl {α : Type} [Rp α] {vs : List V} {xs : List α} (S : Sx Z B R0 R H ρ Δ σ Γ) {p : Addr} (hp : H p = none) (hv : Paired (Rp.rp Z R) vs xs) : Sx Z B R0 R (upd H p (.lst vs)) (some (.ref p) :: ρ) (.ol xs :: Δ) σ Γ :=
  ⟨by simp [S.1], sy_newl S.2 hp hv⟩
theorem sx_newd {α : Type} [Rp α] (S : Sx Z B R0 R H ρ Δ σ Γ) {p : Addr} (hp : H p = none) : Sx Z B R0 R (upd H p (.dK [])) (some (.ref p) :: ρ) (.od ([] : List (Int × α)) :: Δ) σ Γ := ⟨by simp [S.1], sy_newd S.2 hp⟩
theorem sx_mutl {α : Type} [Rp α] {xs : List α} (S : Sx Z B R0 R H ρ Δ σ Γ) {i : Nat} (e : Γ[i]? = some (.ol xs)) : ∃ p vs, σ[i]? = some (some (.ref p)) ∧ H p = some (.lst vs) ∧ Paired (Rp.rp Z R) vs xs ∧
    ∀ {β : Type} [Rp β] (vs' : List V) (ys : List β), Paired (Rp.rp Z R) vs' ys → Sx Z B R0 R (upd H p (.lst vs')) ρ Δ σ (Γ.set i (.ol ys)) := by
  obtain ⟨h, S⟩ := S
  obtain ⟨p, vs, h1, h2, h3, h4⟩ := sy_mutl S (i := ρ.length + i) (by rw [at_slot h]; exact e)
  rw [at_slot'] at h1
  refine ⟨p, vs, h1, h2, h3, fun vs' ys hy => ⟨h, ?_⟩⟩
  have q := h4 vs' ys hy
  rw [h, List.set_append_right _ _ (by omega), show Δ.length + i - Δ.length = i by omega] at q
  exact q
theorem sx_mutd {α : Type} [Rp α] {xs : List (Int × α)} (S : Sx Z B R0 R H ρ Δ σ Γ) {i : Nat} (e : Γ[i]? = some (.od xs)) : ∃ p kv, σ[i]? = some (some (.ref p)) ∧ H p = some (.dK kv) ∧ Paired (kvOk Z R) kv xs ∧
    ∀ {β : Type} [Rp β] (kv' : List (Key × V)) (ys : List (Int × β)), Paired (kvOk Z R) kv' ys → Sx Z B R0 R (upd H p (.dK kv')) ρ Δ σ (Γ.set i (.od ys)) := by
  obtain ⟨h, S⟩ := S
  obtain ⟨p, vs, h1, h2, h3, h4⟩ := sy_mutd S (i := ρ.length + i) (by rw [at_slot h]; exact e)
  rw [at_slot'] at h1
  refine ⟨p, vs, h1, h2, h3, fun vs' ys hy => ⟨h, ?_⟩⟩
  have q := h4 vs' ys hy
  rw [h, List.set_append_right _ _ (by omega), show Δ.length + i - Δ.length = i by omega] at q
  exact q
/-- the top, an own list, changes -/
theorem sx_mutTop {α : Type} [Rp α] {xs : List α} (S : Sx Z B R0 R H (o :: ρ) (.ol xs :: Δ) σ Γ) : ∃ p vs, o = some (.ref p) ∧ H p = some (.lst vs) ∧ Paired (Rp.rp Z R) vs xs ∧
    ∀ {β : Type} [Rp β] (vs' : List V) (ys : List β), Paired (Rp.rp Z R) vs' ys → Sx Z B R0 R (upd H p (.lst vs')) (o :: ρ) (.ol ys :: Δ) σ Γ := by
  obtain ⟨h, S⟩ := S
  obtain ⟨p, vs, h1, h2, h3, h4⟩ := sy_mutl S (i := 0) rfl
  refine ⟨p, vs, by simpa using h1, h2, h3, fun vs' ys hy => ⟨by simpa using h, ?_⟩⟩
  exact h4 vs' ys hy
theorem sx_frl {α : Type} [Rp α] {xs : List α} (S : Sx Z B R0 R H ρ Δ σ Γ) {i : Nat} (e : Γ[i]? = some (.ol xs)) : ∃ R', Same R R' ∧ Sx Z B R0 R' H ρ Δ σ (Γ.set i (.im xs)) := by
  obtain ⟨h, S⟩ := S
  obtain ⟨R', h1, h2⟩ := sy_frl S (i := ρ.length + i) (by rw [at_slot h]; exact e)
  rw [h, List.set_append_right _ _ (by omega), show Δ.length + i - Δ.length = i by omega] at h2
  exact ⟨R', h1, h, h2⟩
theorem sx_frTop {α : Type} [Rp α] {xs : List α} (S : Sx Z B R0 R H (o :: ρ) (.ol xs :: Δ) σ Γ) : ∃ R', Same R R' ∧ Sx Z B R0 R' H (o :: ρ) (.im xs :: Δ) σ Γ := by
  obtain ⟨h, S⟩ := S
  obtain ⟨R', h1, h2⟩ := sy_frl S (i := 0) rfl
  exact ⟨R', h1, by simpa using h, h2⟩
end

/-! ### refusals -/
structure Rf where
  name : CN
  fs : List (Str × V)
/-- a refusal: its class, its dict in H, which is new since B -/
def RepEx (Z : Zz) (B H : Hp) (r : Rf) (cls : Value) (d : Option Addr) : Prop := cls = .ref (Z.cls r.name) ∧ ((r.fs = [] ∧ d = none) ∨ (r.fs ≠ [] ∧ ∃ dx, d = some dx ∧ B dx = none ∧ H dx = some (.xd r.fs)))
theorem RepEx.mono {Z : Zz} {B H H' : Hp} {r : Rf} {cls : Value} {d : Option Addr} (e : Same H H') (h : RepEx Z B H r cls d) : RepEx Z B H' r cls d := by
  obtain ⟨h1, h2 | ⟨h2, dx, h3, h4, h5⟩⟩ := h
  · exact ⟨h1, .inl h2⟩
  · exact ⟨h1, .inr ⟨h2, dx, h3, h4, e _ _ h5⟩⟩
/-- the written part, what is wished of an exception, which refusals may come -/
structure Cn where
  Z : Zz
  X : WX
  ex : Rf → List Sl → Prop
abbrev Cn.no (c : Cn) : Cn := { c with ex := fun _ _ => False }
def Xok (c : Cn) (B R0 : Hp) (ρ : List (Option V)) (Δ : List Sl) : Prop := ∀ R' H' σ' Γ' r cls d, Sx c.Z B R0 R' H' ρ Δ σ' Γ' → RepEx c.Z B R' r cls d → c.ex r Γ' → c.X cls d σ' H'
theorem Xok.push {c : Cn} {B R0 : Hp} {ρ ρ' : List (Option V)} {Δ Δ' : List Sl} (h : ρ'.length = Δ'.length) (x : Xok c B R0 ρ Δ) : Xok c B R0 (ρ' ++ ρ) (Δ' ++ Δ) := fun R' H' σ' Γ' r cls d S => x R' H' σ' Γ' r cls d (sx_drop h S)
theorem Xok.push1 {c : Cn} {B R0 : Hp} {ρ : List (Option V)} {Δ : List Sl} {o : Option V} {s : Sl} (x : Xok c B R0 ρ Δ) : Xok c B R0 (o :: ρ) (s :: Δ) := fun R' H' σ' Γ' r cls d S => x R' H' σ' Γ' r cls d (sx_pop S)
theorem Xok.no (c : Cn) (B R0 : Hp) (ρ : List (Option V)) (Δ : List Sl) : Xok c.no B R0 ρ Δ := fun _ _ _ _ _ _ _ _ _ z => z.elim

/-! ### the judgements -/
def Ev (c : Cn) (Γ : List Sl) (t : TE) (s : Sl) : Prop := ∀ B R0 R H ρ Δ σ, Sx c.Z B R0 R H ρ Δ σ Γ → ∀ Q : VK, (∀ v R' H', Sx c.Z B R0 R' H' (some v :: ρ) (s :: Δ) σ Γ → Q v H') → Xok c B R0 ρ Δ → t σ H Q
def EvT (c : Cn) (Γ : List Sl) (t : TT) (b : Bool) : Prop := ∀ B R0 R H ρ Δ σ, Sx c.Z B R0 R H ρ Δ σ Γ → ∀ Q : Bool → Hp → Prop, (∀ R' H', Sx c.Z B R0 R' H' ρ Δ σ Γ → Q b H') → Xok c B R0 ρ Δ → t σ H Q
inductive Slims (Z : Zz) (R : Hp) : List V → List Sl → Prop
  | nil : Slims Z R [] []
  | cons {α : Type} [Rp α] {v : V} {d : α} {vs : List V} {ss : List Sl} : Rp.rp Z R v d → Slims Z R vs ss → Slims Z R (v :: vs) (.im d :: ss)
def EvA (c : Cn) (Γ : List Sl) (t : TA) (ss : List Sl) : Prop := ∀ B R0 R H ρ Δ σ, Sx c.Z B R0 R H ρ Δ σ Γ → ∀ Q : List V → Hp → Prop, (∀ vs R' H', Sx c.Z B R0 R' H' ρ Δ σ Γ → Slims c.Z R' vs ss → Q vs H') → Xok c B R0 ρ Δ → t σ H Q
structure Po where
  nx : List Sl → Prop
  rt : Sl → Prop
  bk : List Sl → Prop := fun _ => False
  ct : List Sl → Prop := fun _ => False
def W (c : Cn) (Γ : List Sl) (t : TS) (P : Po) : Prop := ∀ B R0 R H ρ Δ σ D, Sx c.Z B R0 R H ρ Δ σ Γ →
  (∀ R' H' σ' Γ', Sx c.Z B R0 R' H' ρ Δ σ' Γ' → P.nx Γ' → D.nx σ' H') → (∀ R' H' v s, Sx c.Z B R0 R' H' (some v :: ρ) (s :: Δ) [] [] → P.rt s → D.rt v H') →
  (∀ R' H' σ' Γ', Sx c.Z B R0 R' H' ρ Δ σ' Γ' → P.bk Γ' → D.bk σ' H') → (∀ R' H' σ' Γ', Sx c.Z B R0 R' H' ρ Δ σ' Γ' → P.ct Γ' → D.ct σ' H') → Xok c B R0 ρ Δ → t D σ H
/-- forget the block's own slots -/
def wipeG (Γ : List Sl) : List Nat → List Sl
  | [] => Γ
  | v :: vs => (wipeG Γ vs).set v .un
/-- nothing stands in these slots -/
def UnAt (Γ : List Sl) : List Nat → Prop
  | [] => True
  | v :: vs => (Γ[v]? = some .un ∨ Γ.length ≤ v) ∧ UnAt Γ vs
/-- a walk: n turns, turn i stores as us i tells, into slots of js -/
structure ItOk (Z : Zz) (B R0 : Hp) (ρ : List (Option V)) (Δ : List Sl) (J : It) (g : TG) (n : Nat) (us : Nat → List Sl → List Sl) (js : List Nat) : Prop where
  back : ∀ (i : Nat) (Γ : List Sl) (vs : List Nat), (∀ j ∈ js, j ∈ vs) → wipeG (us i Γ) vs = wipeG Γ vs
  go : ∀ {R H : Hp} {ρx : List (Option V)} {Δx : List Sl} {σ : List (Option V)} {Γ : List Sl} {i : Nat}, ρx.length = Δx.length → Sx Z B R0 R H (ρx ++ ρ) (Δx ++ Δ) σ Γ → i < n → J.go i H
  stop : ∀ {R H : Hp} {ρx : List (Option V)} {Δx : List Sl} {σ : List (Option V)} {Γ : List Sl}, ρx.length = Δx.length → Sx Z B R0 R H (ρx ++ ρ) (Δx ++ Δ) σ Γ → J.stop n H
  yld : ∀ {R H : Hp} {ρx : List (Option V)} {Δx : List Sl} {σ : List (Option V)} {Γ : List Sl} {i : Nat} {x : V} {H' : Hp}, ρx.length = Δx.length → Sx Z B R0 R H (ρx ++ ρ) (Δx ++ Δ) σ Γ → i < n → J.yld i H x H' → ∀ K : St → Hp → Prop,
    (∀ R2 σ2 H2, Sx Z B R0 R2 H2 (ρx ++ ρ) (Δx ++ Δ) σ2 (us i Γ) → (∀ vs : List Nat, (∀ j ∈ js, j ∈ vs) → wipe σ2 vs = wipe σ vs) → K σ2 H2) → g x σ H' K
def EvI (c : Cn) (Γ : List Sl) (wi : TI) (g : TG) (n : Nat) (us : Nat → List Sl → List Sl) (js : List Nat) : Prop := ∀ B R0 R H ρ Δ σ, Sx c.Z B R0 R H ρ Δ σ Γ → ∀ K : It → Hp → Prop,
  (∀ J R' H' ρ' Δ', ρ'.length = Δ'.length → Sx c.Z B R0 R' H' (ρ' ++ ρ) (Δ' ++ Δ) σ Γ → ItOk c.Z B R0 (ρ' ++ ρ) (Δ' ++ Δ) J g n us js → K J H') → Xok c B R0 ρ Δ → wi σ H K
end TB

/-! TbR: the rules of the judgements. -/
namespace TB
open PySem L2
variable {c : Cn} {Γ : List Sl} {ta tb te tl : TE} {t u : TT} {s : Sl} {α β γ : Type} {_ : Rp α} {_ : Rp β} {_ : Rp γ}

/-- the item of a list at an int -/
def gt {α : Type} [Rp α] (xs : List α) (i : Int) : α := xs.getD i.toNat Rp.df
theorem gt_nat {α : Type} [Rp α] {xs : List α} {i : Nat} (h : i < xs.length) : gt xs (i : Int) = xs[i] := by simp [gt, h]
theorem gt_some {α : Type} [Rp α] {xs : List α} {i : Int} (h0 : 0 ≤ i) (h1 : i < xs.length) : xs[i.toNat]? = some (gt xs i) := by
  have : i.toNat < xs.length := by omega
  simp [gt, this]
theorem atI_of {α : Type} {xs : List α} {i : Int} {x : α} (h0 : 0 ≤ i) (h1 : i < xs.length) (e : xs[i.toNat]? = some x) : atI xs i = some x := by
  unfold atI ixN
  rw [if_pos h0, if_pos h1]
  exact e

/-! ### expressions -/
theorem Ev.weak (h : Ev c.no Γ te s) : Ev c Γ te s := fun B R0 R H ρ Δ σ S Q q _ => h B R0 R H ρ Δ σ S Q q (Xok.no c B R0 ρ Δ)
theorem EvT.weak {b : Bool} (h : EvT c.no Γ t b) : EvT c Γ t b := fun B R0 R H ρ Δ σ S Q q _ => h B R0 R H ρ Δ σ S Q q (Xok.no c B R0 ρ Δ)
theorem ev_is {s' : Sl} (h : Ev c Γ te s) (e : s = s') : Ev c Γ te s' := e ▸ h
theorem ev_to {d d' : α} (h : Ev c Γ te (.im d)) (e : d = d') : Ev c Γ te (.im d') := e ▸ h
theorem et_to {b b' : Bool} (h : EvT c Γ t b) (e : b = b') : EvT c Γ t b' := e ▸ h
theorem ev_var {i : Nat} {d : α} (e : Γ[i]? = some (.im d)) : Ev c Γ (tVar i) (.im d) := fun B R0 R H ρ Δ σ S Q q _ => by
  obtain ⟨v, h1, h2⟩ := sx_im S e
  exact ⟨v, h1, q v R H (sx_push S h2)⟩
theorem ev_int {i : Int} : Ev c Γ (tC (.int i)) (.im i) := fun B R0 R H ρ Δ σ S Q q _ => q _ R H (sx_push S rfl)
theorem ev_bl {b : Bool} : Ev c Γ (tC (.bl b)) (.im b) := fun B R0 R H ρ Δ σ S Q q _ => q _ R H (sx_push S rfl)
theorem ev_str {x : Str} : Ev c Γ (tC (.str x)) (.im x) := fun B R0 R H ρ Δ σ S Q q _ => q _ R H (sx_push S rfl)
theorem ev_non : Ev c Γ (tC .non) (.im ()) := fun B R0 R H ρ Δ σ S Q q _ => q _ R H (sx_push S rfl)
theorem ev_none : Ev c Γ (tC .non) (.im (none : Option α)) := fun B R0 R H ρ Δ σ S Q q _ => q _ R H (sx_push S rfl)
/-- data told as an optional datum -/
theorem ev_opt {d : α} (h : Ev c Γ te (.im d)) : Ev c Γ te (.im (some d)) := fun B R0 R H ρ Δ σ S Q q x => h B R0 R H ρ Δ σ S Q (fun v R' H' S' => q v R' H' (sx_push (sx_pop S') (sx_top' S'))) x
theorem ev_unopt {d : α} (h : Ev c Γ te (.im (some d))) : Ev c Γ te (.im d) := fun B R0 R H ρ Δ σ S Q q x => h B R0 R H ρ Δ σ S Q (fun v R' H' S' => q v R' H' (sx_push (sx_pop S') (show Rp.rp c.Z R' v d from sx_top' S'))) x
theorem ev_fr {xs : List α} (h : Ev c Γ te (.ol xs)) : Ev c Γ te (.im xs) := fun B R0 R H ρ Δ σ S Q q x => h B R0 R H ρ Δ σ S Q (fun v R' H' S' => by
  obtain ⟨R2, _, S2⟩ := sx_frTop S'
  exact q v R2 H' S2) x
theorem ev_op {r : R2} {x : α} {y : β} (ha : Ev c Γ ta (.im x)) (hb : Ev c Γ tb (.im y))
    (hr : ∀ B R0 R H ρ Δ σ v w, Sx c.Z B R0 R H ρ Δ σ Γ → Rp.rp c.Z R v x → Rp.rp c.Z R w y → ∀ Q : VK, (∀ z R' H', Sx c.Z B R0 R' H' (some z :: ρ) (s :: Δ) σ Γ → Q z H') → r v w H Q) : Ev c Γ (tOp r ta tb) s :=
  fun B R0 R H ρ Δ σ S Q q xk => ha B R0 R H ρ Δ σ S _ (fun v R1 H1 S1 => hb B R0 R1 H1 _ _ σ S1 _ (fun w R2 H2 S2 => hr B R0 R2 H2 ρ Δ σ v w (sx_pop (sx_pop S2)) (sx_top' (sx_pop S2)) (sx_top' S2) Q q) xk.push1) xk
/-- an operation on flat values -/
theorem ev_opv {r : R2} {x : α} {y : β} {z : γ} (ha : Ev c Γ ta (.im x)) (hb : Ev c Γ tb (.im y)) (hr : ∀ R H v w, Same R H → Rp.rp c.Z R v x → Rp.rp c.Z R w y → ∃ k, Rp.rp c.Z R k z ∧ ∀ Q : VK, Q k H → r v w H Q) : Ev c Γ (tOp r ta tb) (.im z) :=
  ev_op ha hb fun B R0 R H ρ Δ σ v w S rv rw Q q => by
    obtain ⟨k, h1, h2⟩ := hr R H v w (sx_same S) rv rw
    exact h2 Q (q k R H (sx_push S h1))
section
variable {i j : Int}
theorem ev_add (ha : Ev c Γ ta (.im i)) (hb : Ev c Γ tb (.im j)) : Ev c Γ (tOp gAdd ta tb) (.im (i + j)) := ev_opv ha hb fun R H v w _ rv rw => ⟨.int (i + j), rfl, fun Q q => .inl ⟨i, j, rv, rw, q⟩⟩
theorem ev_sub (ha : Ev c Γ ta (.im i)) (hb : Ev c Γ tb (.im j)) : Ev c Γ (tOp gMns ta tb) (.im (i - j)) := ev_opv ha hb fun R H v w _ rv rw => ⟨.int (i - j), rfl, fun Q q => ⟨i, j, rv, rw, q⟩⟩
theorem ev_mul (ha : Ev c Γ ta (.im i)) (hb : Ev c Γ tb (.im j)) (h : CMulW i j) : Ev c Γ (tOp gMul ta tb) (.im (i * j)) := ev_opv ha hb fun R H v w _ rv rw => ⟨.int (i * j), rfl, fun Q q => .inl ⟨i, j, rv, rw, h, q⟩⟩
theorem ev_mulS (ha : Ev c Γ ta (.im i)) (hb : Ev c Γ tb (.im j)) (h : CMul i j) : Ev c Γ (tOp gMul ta tb) (.im (i * j)) := ev_opv ha hb fun R H v w _ rv rw => ⟨.int (i * j), rfl, fun Q q => .inr (.inr ⟨i, j, rv, rw, h, q⟩)⟩
theorem ev_mod (ha : Ev c Γ ta (.im i)) (hb : Ev c Γ tb (.im j)) (h : 0 < j) : Ev c Γ (tOp gMod ta tb) (.im (i % j)) := ev_opv ha hb fun R H v w _ rv rw => ⟨.int (i % j), rfl, fun Q q => ⟨i, j, rv, rw, by omega, by show Q (.int (i.fmod j)) H; rw [Int.fmod_eq_emod_of_nonneg _ (by omega)]; exact q⟩⟩
theorem ev_div (ha : Ev c Γ ta (.im i)) (hb : Ev c Γ tb (.im j)) (h : 0 < j) (h2 : j < 1073741824) : Ev c Γ (tOp gDiv ta tb) (.im (i / j)) := ev_opv ha hb fun R H v w _ rv rw => ⟨.int (i / j), rfl, fun Q q => .inl ⟨i, j, rv, rw, ⟨by omega, by omega⟩, by show Q (.int (i.fdiv j)) H; rw [Int.fdiv_eq_ediv_of_nonneg _ (by omega)]; exact q⟩⟩
theorem ev_divW (ha : Ev c Γ ta (.im i)) (hb : Ev c Γ tb (.im j)) (h : CDivW i j) : Ev c Γ (tOp gDiv ta tb) (.im (i / j)) := ev_opv ha hb fun R H v w _ rv rw => ⟨.int (i / j), rfl, fun Q q => .inr ⟨i, j, rv, rw, h, q⟩⟩
theorem ev_pow (ha : Ev c Γ ta (.im i)) (hb : Ev c Γ tb (.im j)) (h : CPow i j) : Ev c Γ (tOp gPow ta tb) (.im (i ^ j.toNat)) := ev_opv ha hb fun R H v w _ rv rw => ⟨.int (i ^ j.toNat), rfl, fun Q q => ⟨i, j, rv, rw, h, q⟩⟩
theorem ev_lt (ha : Ev c Γ ta (.im i)) (hb : Ev c Γ tb (.im j)) : Ev c Γ (tOp gLt ta tb) (.im (decide (i < j))) := ev_opv ha hb fun R H v w _ rv rw => ⟨.bl _, rfl, fun Q q => ⟨i, j, rv, rw, q⟩⟩
theorem ev_le (ha : Ev c Γ ta (.im i)) (hb : Ev c Γ tb (.im j)) : Ev c Γ (tOp gLe ta tb) (.im (decide (i ≤ j))) := ev_opv ha hb fun R H v w _ rv rw => ⟨.bl _, rfl, fun Q q => ⟨i, j, rv, rw, q⟩⟩
theorem ev_gt (ha : Ev c Γ ta (.im i)) (hb : Ev c Γ tb (.im j)) : Ev c Γ (tOp gGt ta tb) (.im (decide (j < i))) := ev_opv ha hb fun R H v w _ rv rw => ⟨.bl _, rfl, fun Q q => ⟨i, j, rv, rw, q⟩⟩
theorem ev_ge (ha : Ev c Γ ta (.im i)) (hb : Ev c Γ tb (.im j)) : Ev c Γ (tOp gGe ta tb) (.im (decide (j ≤ i))) := ev_opv ha hb fun R H v w _ rv rw => ⟨.bl _, rfl, fun Q q => ⟨i, j, rv, rw, q⟩⟩
theorem int_eq_iff {i j : Int} : decide (V.int i = V.int j) = decide (i = j) := by
  by_cases h : i = j
  · subst h; simp
  · have : ¬ V.int i = V.int j := fun z => h (V.int.inj z)
    simp [h, this]
theorem ev_eqI (ha : Ev c Γ ta (.im i)) (hb : Ev c Γ tb (.im j)) : Ev c Γ (tOp (gEq c.Z.K) ta tb) (.im (decide (i = j))) := ev_opv ha hb fun R H v w _ rv rw => ⟨.bl _, rfl, fun Q q => by
  have rv' : v = .int i := rv
  have rw' : w = .int j := rw
  subst rv' rw'
  exact .inl ⟨rfl, by rw [int_eq_iff]; exact q⟩⟩
theorem ev_neI (ha : Ev c Γ ta (.im i)) (hb : Ev c Γ tb (.im j)) : Ev c Γ (tOp (gNe c.Z.K) ta tb) (.im (!decide (i = j))) := ev_opv ha hb fun R H v w _ rv rw => ⟨.bl _, rfl, fun Q q => by
  have rv' : v = .int i := rv
  have rw' : w = .int j := rw
  subst rv' rw'
  exact .inl ⟨rfl, by rw [int_eq_iff]; exact q⟩⟩
theorem ev_neg (ha : Ev c Γ ta (.im i)) : Ev c Γ (tUn uNeg ta) (.im (-i)) := fun B R0 R H ρ Δ σ S Q q xk => ha B R0 R H ρ Δ σ S _ (fun v R1 H1 S1 => by
  have rv : v = .int i := sx_top' S1
  exact ⟨i, rv, q _ R1 H1 (sx_push (sx_pop S1) rfl)⟩) xk
end
theorem ev_isN {d : α} (ha : Ev c Γ ta (.im d)) (b : Bool) (hb : ∀ R v, Rp.rp c.Z R v d → decide (v = .non) = b) : Ev c Γ (tOp gIs ta (tC .non)) (.im b) := fun B R0 R H ρ Δ σ S Q q xk => ha B R0 R H ρ Δ σ S _ (fun v R1 H1 S1 =>
  ⟨rfl, q _ R1 H1 (sx_push (sx_pop S1) (congrArg V.bl (hb R1 v (sx_top' S1))))⟩) xk
theorem ev_isNotN {d : α} (ha : Ev c Γ ta (.im d)) (b : Bool) (hb : ∀ R v, Rp.rp c.Z R v d → (!decide (v = .non)) = b) : Ev c Γ (tOp gIsNot ta (tC .non)) (.im b) := fun B R0 R H ρ Δ σ S Q q xk => ha B R0 R H ρ Δ σ S _ (fun v R1 H1 S1 =>
  ⟨rfl, q _ R1 H1 (sx_push (sx_pop S1) (congrArg V.bl (hb R1 v (sx_top' S1))))⟩) xk
/-! lists -/
theorem ev_ix {xs : List α} {i : Int} (ha : Ev c Γ ta (.im xs)) (hb : Ev c Γ tb (.im i)) (h0 : 0 ≤ i) (h1 : i < xs.length) : Ev c Γ (tOp (gIx c.Z.K) ta tb) (.im (gt xs i)) := ev_opv ha hb fun R H v w sm rv rw => by
  obtain ⟨a, vs, rfl, ha, hp⟩ := rv
  obtain ⟨k, hk, rk⟩ := paired_get hp (gt_some h0 h1)
  exact ⟨k, rk, fun Q q => .inl ⟨a, vs, i, k, rfl, rw, SqL.of (sm _ _ ha), atI_of h0 (by rw [Paired.length hp]; exact h1) hk, q⟩⟩
theorem ev_ixL {xs : List α} {i : Int} (ha : Ev c Γ ta (.im xs)) (hb : Ev c Γ tb (.im i)) (h0 : i = -1) (h1 : 0 < xs.length) : Ev c Γ (tOp (gIx c.Z.K) ta tb) (.im (gt xs ((xs.length : Int) - 1))) := ev_opv ha hb fun R H v w sm rv rw => by
  subst h0
  obtain ⟨a, vs, rfl, ha, hp⟩ := rv
  obtain ⟨k, hk, rk⟩ := paired_get hp (gt_some (xs := xs) (i := (xs.length : Int) - 1) (by omega) (by omega))
  have hl := Paired.length hp
  refine ⟨k, rk, fun Q q => .inl ⟨a, vs, -1, k, rfl, rw, SqL.of (sm _ _ ha), ?_, q⟩⟩
  unfold atI ixN
  rw [if_neg (by omega), if_pos (by omega)]
  rw [show (-1 + (vs.length : Int)).toNat = ((xs.length : Int) - 1).toNat by omega]
  exact hk
theorem ev_ix1 {p : α × β} (ha : Ev c Γ ta (.im p)) (hb : Ev c Γ tb (.im (0 : Int))) : Ev c Γ (tOp (gIx c.Z.K) ta tb) (.im p.1) := ev_opv ha hb fun R H v w sm rv rw => by
  obtain ⟨a, x, y, rfl, ha, hx, hy⟩ := rv
  exact ⟨x, hx, fun Q q => .inr (.inl ⟨a, [x, y], 0, x, rfl, rw, SqT.of (sm _ _ ha), rfl, q⟩)⟩
theorem ev_ix2 {p : α × β} (ha : Ev c Γ ta (.im p)) (hb : Ev c Γ tb (.im (1 : Int))) : Ev c Γ (tOp (gIx c.Z.K) ta tb) (.im p.2) := ev_opv ha hb fun R H v w sm rv rw => by
  obtain ⟨a, x, y, rfl, ha, hx, hy⟩ := rv
  exact ⟨y, hy, fun Q q => .inr (.inl ⟨a, [x, y], 1, y, rfl, rw, SqT.of (sm _ _ ha), rfl, q⟩)⟩
/-- an own list's item -/
theorem ev_ixO {xs : List α} {k : Nat} {i : Int} (e : Γ[k]? = some (.ol xs)) (hb : Ev c Γ tb (.im i)) (h0 : 0 ≤ i) (h1 : i < xs.length) : Ev c Γ (tOp (gIx c.Z.K) (tVar k) tb) (.im (gt xs i)) := fun B R0 R H ρ Δ σ S Q q xk => by
  obtain ⟨p, vs, h2, _⟩ := sx_mutl S e
  refine ⟨.ref p, h2, hb B R0 R H ρ Δ σ S _ (fun w R1 H1 S1 => ?_) xk⟩
  have rw' : w = .int i := sx_top' S1
  obtain ⟨p', vs', h2', h3, h4, _⟩ := sx_mutl (sx_pop S1) e
  have ep : p = p' := by
    rw [h2] at h2'
    cases h2'
    rfl
  subst ep
  obtain ⟨v, hv, rv⟩ := paired_get h4 (gt_some h0 h1)
  exact .inl ⟨p, vs', i, v, rfl, rw', SqL.of h3, atI_of h0 (by rw [Paired.length h4]; exact h1) hv, q v R1 H1 (sx_push (sx_pop S1) rv)⟩
theorem ev_ixOL {xs : List α} {k : Nat} {i : Int} (e : Γ[k]? = some (.ol xs)) (hb : Ev c Γ tb (.im i)) (h0 : i = -1) (h1 : 0 < xs.length) : Ev c Γ (tOp (gIx c.Z.K) (tVar k) tb) (.im (gt xs ((xs.length : Int) - 1))) := fun B R0 R H ρ Δ σ S Q q xk => by
  subst h0
  obtain ⟨p, vs, h2, _⟩ := sx_mutl S e
  refine ⟨.ref p, h2, hb B R0 R H ρ Δ σ S _ (fun w R1 H1 S1 => ?_) xk⟩
  have rw' : w = .int (-1) := sx_top' S1
  obtain ⟨p', vs', h2', h3, h4, _⟩ := sx_mutl (sx_pop S1) e
  have ep : p = p' := by
    rw [h2] at h2'
    cases h2'
    rfl
  subst ep
  obtain ⟨v, hv, rv⟩ := paired_get h4 (gt_some (xs := xs) (i := (xs.length : Int) - 1) (by omega) (by omega))
  have hl := Paired.length h4
  refine .inl ⟨p, vs', -1, v, rfl, rw', SqL.of h3, ?_, q v R1 H1 (sx_push (sx_pop S1) rv)⟩
  unfold atI ixN
  rw [if_neg (by omega), if_pos (by omega)]
  rw [show (-1 + (vs'.length : Int)).toNat = ((xs.length : Int) - 1).toNat by omega]
  exact hv
theorem ev_ixS {l : Scr} {i : Int} (ha : Ev c Γ ta (.im l)) (hb : Ev c Γ tb (.im i)) (h0 : 0 ≤ i) (h1 : i < l.l.length) : Ev c Γ (tOp (gIx c.Z.K) ta tb) (.im (gt l.l i)) := ev_opv ha hb fun R H v w sm rv rw => by
  obtain ⟨a, rfl, ha⟩ := rv
  refine ⟨.int (gt l.l i), rfl, fun Q q => .inl ⟨a, _, i, _, rfl, rw, sm.seq ha, atI_of h0 (by simpa using h1) ?_, q⟩⟩
  rw [List.getElem?_map, gt_some h0 h1]
  rfl
/-! tests -/
theorem et_test {b : Bool} (h : Ev c Γ te (.im b)) : EvT c Γ (tTest te) b := fun B R0 R H ρ Δ σ S Q q xk => h B R0 R H ρ Δ σ S _ (fun v R1 H1 S1 => ⟨b, sx_top' S1, q R1 H1 (sx_pop S1)⟩) xk
theorem et_B {b : Bool} (h : Ev c Γ te (.im b)) : EvT c Γ (tB te) b := fun B R0 R H ρ Δ σ S Q q xk => h B R0 R H ρ Δ σ S _ (fun v R1 H1 S1 => ⟨b, sx_top' S1, q R1 H1 (sx_pop S1)⟩) xk
theorem et_and {a b : Bool} (h1 : EvT c Γ t a) (h2 : a = true → EvT c Γ u b) : EvT c Γ (tAnd t u) (a && b) := fun B R0 R H ρ Δ σ S Q q xk => h1 B R0 R H ρ Δ σ S _ (fun R1 H1 S1 => by
  cases a with
  | true => exact h2 rfl B R0 R1 H1 ρ Δ σ S1 Q q xk
  | false => exact q R1 H1 S1) xk
theorem et_or {a b : Bool} (h1 : EvT c Γ t a) (h2 : a = false → EvT c Γ u b) : EvT c Γ (tOr t u) (a || b) := fun B R0 R H ρ Δ σ S Q q xk => h1 B R0 R H ρ Δ σ S _ (fun R1 H1 S1 => by
  cases a with
  | true => exact q R1 H1 S1
  | false => exact h2 rfl B R0 R1 H1 ρ Δ σ S1 Q q xk) xk
theorem et_not {a : Bool} (h1 : EvT c Γ t a) : EvT c Γ (tNot t) (!a) := fun B R0 R H ρ Δ σ S Q q xk => h1 B R0 R H ρ Δ σ S _ (fun R1 H1 S1 => q R1 H1 S1) xk
theorem et_yes : EvT c Γ tYes true := fun B R0 R H ρ Δ σ S Q q _ => q R H S
theorem ev_andV {a b : Bool} (h1 : Ev c Γ ta (.im a)) (h2 : a = true → Ev c Γ tb (.im b)) : Ev c Γ (tAndV ta tb) (.im (a && b)) := fun B R0 R H ρ Δ σ S Q q xk => h1 B R0 R H ρ Δ σ S _ (fun v R1 H1 S1 => ⟨a, sx_top' S1, by
  cases a with
  | true => exact h2 rfl B R0 R1 H1 ρ Δ σ (sx_pop S1) Q q xk
  | false => exact q _ R1 H1 (sx_push (sx_pop S1) rfl)⟩) xk
theorem ev_orV {a b : Bool} (h1 : Ev c Γ ta (.im a)) (h2 : a = false → Ev c Γ tb (.im b)) : Ev c Γ (tOrV ta tb) (.im (a || b)) := fun B R0 R H ρ Δ σ S Q q xk => h1 B R0 R H ρ Δ σ S _ (fun v R1 H1 S1 => ⟨a, sx_top' S1, by
  cases a with
  | true => exact q _ R1 H1 (sx_push (sx_pop S1) rfl)
  | false => exact h2 rfl B R0 R1 H1 ρ Δ σ (sx_pop S1) Q q xk⟩) xk
theorem ev_notV {a : Bool} (h1 : Ev c Γ ta (.im a)) : Ev c Γ (tNotV ta) (.im (!a)) := fun B R0 R H ρ Δ σ S Q q xk => h1 B R0 R H ρ Δ σ S _ (fun v R1 H1 S1 => ⟨a, sx_top' S1, q _ R1 H1 (sx_push (sx_pop S1) rfl)⟩) xk
/-! arguments, displays, calls -/
theorem slims_mono {Z : Zz} {R R' : Hp} (e : Same R R') {vs : List V} {ss : List Sl} (h : Slims Z R vs ss) : Slims Z R' vs ss := by
  induction h with
  | nil => exact .nil
  | cons r t ih => exact .cons (Rp.mono e r) ih
theorem ea_nil : EvA c Γ tNil [] := fun B R0 R H ρ Δ σ S Q q _ => q [] R H S .nil
theorem ea_cons {d : α} {tr : TA} {ss : List Sl} (h : Ev c Γ te (.im d)) (hr : EvA c Γ tr ss) : EvA c Γ (tCons te tr) (.im d :: ss) := fun B R0 R H ρ Δ σ S Q q xk => h B R0 R H ρ Δ σ S _ (fun v R1 H1 S1 =>
  hr B R0 R1 H1 _ _ σ S1 _ (fun vs R2 H2 S2 sl => q (v :: vs) R2 H2 (sx_pop S2) (.cons (sx_top' S2) sl)) xk.push1) xk
theorem slims_append {Z : Zz} {R : Hp} {vs ws : List V} {ss rs : List Sl} (h : Slims Z R vs ss) (h' : Slims Z R ws rs) : Slims Z R (vs ++ ws) (ss ++ rs) := by
  induction h with
  | nil => exact h'
  | cons r t ih => exact .cons r ih
theorem slims_list {Z : Zz} {R : Hp} : ∀ {xs : List α} {vs : List V}, Slims Z R vs (xs.map fun x => .im x) → Paired (Rp.rp Z R) vs xs
  | [], _, h => by cases h; exact .nil
  | x :: xs, _, h => by
    cases h with
    | cons r t => exact Paired.cons r (slims_list t)
/-- a written list, of like items -/
theorem ev_lst {t : TA} (xs : List α) (h : EvA c Γ t (xs.map fun x => .im x)) (hl : xs.length ≤ 1000) : Ev c Γ (tLst t) (.ol xs) := fun B R0 R H ρ Δ σ S Q q xk => h B R0 R H ρ Δ σ S _ (fun vs R1 H1 S1 sl => by
  have hp := slims_list sl
  refine ⟨Nat.le_of_lt (small1000 (by rw [Paired.length hp]; exact hl)), fun p np => q _ R1 _ (sx_newl S1 np hp)⟩) xk
theorem ev_nil {δ : Type} [Rp δ] : Ev c Γ (tLst tNil) (.ol ([] : List δ)) := ev_lst [] ea_nil (by simp)
theorem ev_tup {x : α} {y : β} (hx : Ev c Γ ta (.im x)) (hy : Ev c Γ tb (.im y)) : Ev c Γ (tTup (tCons ta (tCons tb tNil))) (.im (x, y)) := fun B R0 R H ρ Δ σ S Q q xk => (ea_cons hx (ea_cons hy ea_nil)) B R0 R H ρ Δ σ S _ (fun vs R1 H1 S1 sl => by
  cases sl with
  | cons r1 t1 =>
    cases t1 with
    | cons r2 t2 =>
      cases t2
      rename_i v1 v2
      refine ⟨by show 2 ≤ sizeLine; decide, fun p np => ?_⟩
      obtain ⟨S2, sr⟩ := sx_froz S1 np (.tup [v1, v2])
      exact q _ _ _ (sx_push S2 ⟨p, v1, v2, rfl, upd_same, Rp.mono sr r1, Rp.mono sr r2⟩)) xk
theorem ev_dict {δ : Type} [Rp δ] : Ev c Γ tDNewK (.od ([] : List (Int × δ))) := fun B R0 R H ρ Δ σ S Q q _ p np => q _ R _ (sx_newd S np)
/-- a built-in of one argument, its answer a datum -/
theorem ev_cb1 {r : List V → Hp → VK → Prop} {x : α} {z : γ} (ha : Ev c Γ ta (.im x)) (hr : ∀ R H v, Same R H → Rp.rp c.Z R v x → ∃ k, Rp.rp c.Z R k z ∧ ∀ Q : VK, Q k H → r [v] H Q) : Ev c Γ (tCB r (tCons ta tNil)) (.im z) :=
  fun B R0 R H ρ Δ σ S Q q xk => ha B R0 R H ρ Δ σ S _ (fun v R1 H1 S1 => by
    obtain ⟨k, h1, h2⟩ := hr R1 H1 v (sx_same S1) (sx_top' S1)
    exact h2 Q (q k R1 H1 (sx_push (sx_pop S1) h1))) xk
theorem ev_cb2 {r : List V → Hp → VK → Prop} {x : α} {y : β} {z : γ} (ha : Ev c Γ ta (.im x)) (hb : Ev c Γ tb (.im y)) (hr : ∀ R H v w, Same R H → Rp.rp c.Z R v x → Rp.rp c.Z R w y → ∃ k, Rp.rp c.Z R k z ∧ ∀ Q : VK, Q k H → r [v, w] H Q) : Ev c Γ (tCB r (tCons ta (tCons tb tNil))) (.im z) :=
  fun B R0 R H ρ Δ σ S Q q xk => ha B R0 R H ρ Δ σ S _ (fun v R1 H1 S1 => hb B R0 R1 H1 _ _ σ S1 _ (fun w R2 H2 S2 => by
    obtain ⟨k, h1, h2⟩ := hr R2 H2 v w (sx_same S2) (sx_top' (sx_pop S2)) (sx_top' S2)
    exact h2 Q (q k R2 H2 (sx_push (sx_pop (sx_pop S2)) h1))) xk.push1) xk
/-- .. its answer a new list -/
theorem ev_cbL {r : List V → Hp → VK → Prop} {x : α} {zs : List γ} (ha : Ev c Γ ta (.im x)) (hr : ∀ R H v, Same R H → Rp.rp c.Z R v x → ∀ Q : VK, (∀ ks p, Paired (Rp.rp c.Z R) ks zs → H p = none → Q (.ref p) (upd H p (.lst ks))) → r [v] H Q) : Ev c Γ (tCB r (tCons ta tNil)) (.ol zs) :=
  fun B R0 R H ρ Δ σ S Q q xk => ha B R0 R H ρ Δ σ S _ (fun v R1 H1 S1 => hr R1 H1 v (sx_same S1) (sx_top' S1) Q fun ks p hp np => q _ R1 _ (sx_newl (sx_pop S1) np hp)) xk
def gLen (K : PySem.W.Frag) : List V → Hp → VK → Prop := fun xs H Q => ∃ x n, xs = [x] ∧ LenV K x H n ∧ Q (.int n) H
def gList (K : PySem.W.Frag) : List V → Hp → VK → Prop := fun xs H Q => ∃ p ys, xs = [.ref p] ∧ (SqL K H p ys ∨ SqT K H p ys) ∧ ∀ l, H l = none → Q (.ref l) (upd H l (.lst ys))
theorem gc_len {X : Cx} : CallR X (.builtin "len") (gLen X.K) := call_len
theorem gc_list {X : Cx} : CallR X (.type "list") (gList X.K) := call_list_of
theorem ev_len {xs : List α} (ha : Ev c Γ ta (.im xs)) : Ev c Γ (tCB (gLen c.Z.K) (tCons ta tNil)) (.im (xs.length : Int)) := ev_cb1 ha fun R H v sm rv => by
  obtain ⟨a, vs, rfl, ha, hp⟩ := rv
  exact ⟨_, rfl, fun Q q => ⟨_, vs.length, rfl, .inl ⟨vs, SqL.of (sm _ _ ha), rfl⟩, by rw [Paired.length hp]; exact q⟩⟩
theorem ev_lenS {l : Scr} (ha : Ev c Γ ta (.im l)) : Ev c Γ (tCB (gLen c.Z.K) (tCons ta tNil)) (.im (l.l.length : Int)) := ev_cb1 ha fun R H v sm rv => by
  obtain ⟨a, rfl, ha⟩ := rv
  exact ⟨_, rfl, fun Q q => ⟨_, l.l.length, rfl, .inl ⟨_, sm.seq ha, by rw [List.length_map]⟩, q⟩⟩
theorem ev_lenO {xs : List α} {k : Nat} (e : Γ[k]? = some (.ol xs)) : Ev c Γ (tCB (gLen c.Z.K) (tCons (tVar k) tNil)) (.im (xs.length : Int)) := fun B R0 R H ρ Δ σ S Q q xk => by
  obtain ⟨p, vs, h2, h3, h4, _⟩ := sx_mutl S e
  exact ⟨.ref p, h2, _, vs.length, rfl, .inl ⟨vs, SqL.of h3, rfl⟩, q _ R H (sx_push S (by rw [Paired.length h4]; rfl))⟩
theorem ev_list {xs : List α} (ha : Ev c Γ ta (.im xs)) : Ev c Γ (tCB (gList c.Z.K) (tCons ta tNil)) (.ol xs) := ev_cbL ha fun R H v sm rv Q q => by
  obtain ⟨a, vs, rfl, ha, hp⟩ := rv
  exact ⟨a, vs, rfl, .inl (SqL.of (sm _ _ ha)), fun l hl => q vs l hp hl⟩
theorem ev_listO {xs : List α} {k : Nat} (e : Γ[k]? = some (.ol xs)) : Ev c Γ (tCB (gList c.Z.K) (tCons (tVar k) tNil)) (.ol xs) := fun B R0 R H ρ Δ σ S Q q xk => by
  obtain ⟨p, vs, h2, h3, h4, _⟩ := sx_mutl S e
  exact ⟨.ref p, h2, p, vs, rfl, .inl (SqL.of h3), fun l hl => q _ R _ (sx_newl S hl h4)⟩
theorem ev_all {bs : List Bool} {K : PySem.W.Frag} (hK : K = c.Z.K) (ha : Ev c Γ ta (.im bs)) : Ev c Γ (tCB (rAll K) (tCons ta tNil)) (.im (bs.all id)) := hK ▸ ev_cb1 ha fun R H v sm rv => by
  obtain ⟨a, vs, rfl, ha, hp⟩ := rv
  exact ⟨_, rfl, fun Q q => ⟨a, bs, rfl, SqL.of (paired_map_bl hp ▸ sm _ _ ha), q⟩⟩
theorem ev_any {bs : List Bool} {K : PySem.W.Frag} (hK : K = c.Z.K) (ha : Ev c Γ ta (.im bs)) : Ev c Γ (tCB (rAny K) (tCons ta tNil)) (.im (bs.any id)) := hK ▸ ev_cb1 ha fun R H v sm rv => by
  obtain ⟨a, vs, rfl, ha, hp⟩ := rv
  exact ⟨_, rfl, fun Q q => ⟨a, bs, rfl, SqL.of (paired_map_bl hp ▸ sm _ _ ha), q⟩⟩
/-! own defs: T tells, of arguments, what may come of them -/
abbrev Tm := List Sl → (Sl → Prop) → (Rf → Prop) → Prop
def spOf (Z : Zz) (T : Tm) : Sp := fun vs H Q E => ∃ R ss ok er, Same R H ∧ Slims Z R vs ss ∧ T ss ok er ∧
  (∀ v R' H' s, Sx Z H R R' H' [some v] [s] [] [] → ok s → Q v H') ∧ ∀ r cls d H', Same H H' → RepEx Z H H' r cls d → er r → E cls d H'
theorem sx_call {Z : Zz} {B R0 R R' H H' : Hp} {ρ : List (Option V)} {Δ : List Sl} {σ : List (Option V)} {v : V} {s : Sl} (S : Sx Z B R0 R H ρ Δ σ Γ) (S2 : Sx Z H R R' H' [some v] [s] [] []) : Sx Z B R0 R' H' (some v :: ρ) (s :: Δ) σ Γ := by
  obtain ⟨hl, own, hs, es⟩ := S
  obtain ⟨_, own2, hs2, f, g, rfl, h1, h2⟩ := S2
  have hg : g = [] := h2
  subst hg
  rw [List.append_nil] at hs2
  have key : ∀ p ∈ own, R' p = none ∧ H' p = H p ∧ p ∉ f := fun p hp => by
    have h3 := es_some es p hp
    have h4 := hs.ow p hp
    obtain ⟨o, ho⟩ : ∃ o, H p = some o := by
      cases e : H p with
      | none => exact absurd e h3
      | some o => exact ⟨o, rfl⟩
    refine ⟨?_, ?_, fun hf => ?_⟩
    · cases e : R' p with
      | none => rfl
      | some o2 =>
        rcases hs2.nw p o2 e with q | q
        · rw [h4.1] at q; cases q
        · exact absurd q h3
    · rw [ho, hs2.bh p o ho]
    · exact h3 (hs2.ow p hf).2
  refine ⟨by simp [hl], f ++ own, ⟨hs2.rh, hs.bh.trans hs2.bh, hs.r0.trans hs2.r0, fun b o e => ?_, fun p hp => ?_, ?_⟩, f, own, rfl, h1, es_mono hs2.r0 (fun p hp => (key p hp).2.1) es⟩
  · rcases hs2.nw b o e with q | q
    · exact hs.nw b o q
    · exact .inr (hs.bh.free q)
  · rcases List.mem_append.mp hp with q | q
    · exact ⟨(hs2.ow p q).1, hs.bh.free (hs2.ow p q).2⟩
    · exact ⟨(key p q).1, (hs.ow p q).2⟩
  · rw [List.nodup_append]
    exact ⟨hs2.nd, hs.nd, fun a ha b hb e => (key b hb).2.2 (e ▸ ha)⟩
theorem sx_same_call {Z : Zz} {B R0 R H H' : Hp} {ρ : List (Option V)} {Δ : List Sl} {σ : List (Option V)} (S : Sx Z B R0 R H ρ Δ σ Γ) (e : Same H H') : Sx Z B R0 R H' ρ Δ σ Γ := by
  obtain ⟨hl, own, hs, es⟩ := S
  refine ⟨hl, own, ⟨hs.rh.trans e, hs.bh.trans e, hs.r0, hs.nw, hs.ow, hs.nd⟩, es_mono (Same.refl _) (fun p hp => ?_) es⟩
  cases q : H p with
  | none => exact absurd q (es_some es p hp)
  | some o => exact e p o q
/-- a call's refusal, its dict frozen -/
theorem sx_callX {Z : Zz} {B R0 R H H' : Hp} {ρ : List (Option V)} {Δ : List Sl} {σ : List (Option V)} {r : Rf} {cls : Value} {d : Option Addr} (S : Sx Z B R0 R H ρ Δ σ Γ) (e : Same H H') (rx : RepEx Z H H' r cls d) : ∃ R', Same R R' ∧ Sx Z B R0 R' H' ρ Δ σ Γ ∧ RepEx Z B R' r cls d := by
  obtain ⟨h1, h2 | ⟨h2, dx, h3, h4, h5⟩⟩ := rx
  · exact ⟨R, Same.refl _, sx_same_call S e, h1, .inl h2⟩
  · have hr := (sx_same S).free h4
    refine ⟨upd R dx (.xd r.fs), same_upd hr, sx_pop (sx_call S (s := .un) (v := .non) ⟨rfl, [], ⟨fun b o q => ?_, e, same_upd hr, fun b o q => ?_, fun p hp => by simp at hp, List.nodup_nil⟩, [], [], rfl, rfl, rfl⟩), h1, .inr ⟨h2, dx, h3, (sx_base S).free h4, upd_same⟩⟩
    · by_cases c : b = dx
      · subst c
        rw [upd_same] at q
        rw [h5]
        exact q
      · rw [upd_ne c] at q
        exact e _ _ (sx_same S _ _ q)
    · by_cases c : b = dx
      · subst c
        exact .inr h4
      · rw [upd_ne c] at q
        exact .inl q
theorem ev_call {T : Tm} {dvs : List V} {ds : List Sl} {t : TA} {ss : List Sl} (ha : EvA c Γ t ss) (hd : ∀ R, Slims c.Z R dvs ds) (hT : T (ss ++ ds) (fun s' => s' = s) fun r => c.ex r Γ) : Ev c Γ (tCallSD (spOf c.Z T) dvs (WE c.X) t) s := fun B R0 R H ρ Δ σ S Q q xk => ha B R0 R H ρ Δ σ S _ (fun vs R1 H1 S1 sl => by
  refine ⟨R1, ss ++ ds, _, _, sx_same S1, slims_append sl (hd R1), hT, fun v R' H' s' S' e => ?_, fun r cls d H' e rx er => ?_⟩
  · subst e
    exact q v R' H' (sx_call S1 S')
  · obtain ⟨R2, _, S2, rx2⟩ := sx_callX S1 e rx
    exact xk R2 H' σ Γ r cls d S2 rx2 er) xk
/-- a call that raises nothing, within a comprehension -/
theorem ev_call0 {T : Tm} {dvs : List V} {ds : List Sl} {t : TA} {ss : List Sl} (ha : EvA c Γ t ss) (hd : ∀ R, Slims c.Z R dvs ds) (hT : T (ss ++ ds) (fun s' => s' = s) fun _ => False) : Ev c Γ (tCall (spOf c.Z T) dvs E0 t) s := fun B R0 R H ρ Δ σ S Q q xk => ha B R0 R H ρ Δ σ S _ (fun vs R1 H1 S1 sl => by
  refine ⟨R1, ss ++ ds, _, _, sx_same S1, slims_append sl (hd R1), hT, fun v R' H' s' S' e => ?_, fun r cls d H' e rx er => er.elim⟩
  · subst e
    exact q v R' H' (sx_call S1 S')) xk
/-- what a def's body must show -/
theorem spOf_run {Z : Zz} {T : Tm} {N : List Str} {t : XK → TS} (hN : ∀ ss ok er, T ss ok er → ss.length ≤ N.length)
    (h : ∀ E ss ok er, T ss ok er → W ⟨Z, fun cls d _ H => E cls d H, fun r _ => er r⟩ (ss ++ List.replicate (N.length - ss.length) .un) (t E) ⟨fun _ => ok (.im ()), ok, fun _ => False, fun _ => False⟩)
    (vs : List V) (H : Hp) (Q : VK) (E : XK) (hs : spOf Z T vs H Q E) : t E { nx := fun _ H' => Q .non H', rt := Q } (L2.start N vs) H := by
  obtain ⟨R, ss, ok, er, sm, sl, hT, kq, ke⟩ := hs
  have es0 : ∀ (n : Nat), Es Z R H (List.replicate n none) (List.replicate n .un) [] := fun n => by
    induction n with
    | zero => exact rfl
    | succ n ih => exact ⟨[], [], rfl, rfl, ih⟩
  have hlen : vs.length = ss.length := by
    clear hT kq
    induction sl with
    | nil => rfl
    | cons r t ih => simp [ih]
  have es : Es Z R H (L2.start N vs) (ss ++ List.replicate (N.length - ss.length) .un) [] := by
    unfold L2.start
    rw [hlen]
    generalize N.length - ss.length = n
    clear hT kq hlen
    induction sl with
    | nil => exact es0 n
    | cons r t ih => exact ⟨[], [], rfl, ⟨rfl, _, rfl, r⟩, ih⟩
  refine h E ss ok er hT H R R H [] [] (L2.start N vs) _ ⟨rfl, [], ⟨sm, Same.refl _, Same.refl _, fun b o e => .inl e, fun p hp => by simp at hp, List.nodup_nil⟩, es⟩ (fun R' H' σ' Γ' S' ok' => ?_) (fun R' H' v s S' ok' => kq v R' H' s S' ok') (fun _ _ _ _ _ z => z.elim) (fun _ _ _ _ _ z => z.elim) (fun R' H' σ' Γ' r cls d S' rx er' => ?_)
  · exact kq .non R' H' (.im ()) (sx_push (sx_leave S') rfl) ok'
  · exact ke r cls d H' (sx_base S') (rx.mono (sx_same S')) er'
end TB

/-! TbS: the rules of statements, walks and comprehensions. -/
namespace TB
open PySem L2
variable {c : Cn} {Γ : List Sl} {ta tb te tl : TE} {tt tc : TT} {t u : TS} {s : Sl} {α β γ : Type} {_ : Rp α} {_ : Rp β} {_ : Rp γ} {P P' : Po}

theorem W.imp (h : W c Γ t P) (h1 : ∀ G, P.nx G → P'.nx G) (h2 : ∀ s, P.rt s → P'.rt s) (h3 : ∀ G, P.bk G → P'.bk G) (h4 : ∀ G, P.ct G → P'.ct G) : W c Γ t P' := fun B R0 R H ρ Δ σ D S n r b k x =>
  h B R0 R H ρ Δ σ D S (fun R' H' σ' Γ' S' q => n R' H' σ' Γ' S' (h1 _ q)) (fun R' H' v s S' q => r R' H' v s S' (h2 _ q)) (fun R' H' σ' Γ' S' q => b R' H' σ' Γ' S' (h3 _ q)) (fun R' H' σ' Γ' S' q => k R' H' σ' Γ' S' (h4 _ q)) x
theorem w_seq (h : W c Γ t ⟨fun G => W c G u P, P.rt, P.bk, P.ct⟩) : W c Γ (tSeq t u) P := fun B R0 R H ρ Δ σ D S n r b k x =>
  h B R0 R H ρ Δ σ { D with nx := u D } S (fun R' H' σ' Γ' S' q => q B R0 R' H' ρ Δ σ' D S' n r b k x) r b k x
theorem w_asg {i : Nat} (h : Ev c Γ te s) (k : P.nx (Γ.set i s)) : W c Γ (tAsg te (gName i)) P := fun B R0 R H ρ Δ σ D S n r b kk x =>
  h B R0 R H ρ Δ σ S _ (fun v R1 H1 S1 => n R1 H1 _ _ (sx_asg S1 i) k) x
theorem w_if {b : Bool} (h : EvT c Γ tc b) (h1 : b = true → W c Γ t P) (h2 : b = false → W c Γ u P) : W c Γ (tIfS tc t u) P := fun B R0 R H ρ Δ σ D S n r bk kk x =>
  h B R0 R H ρ Δ σ S _ (fun R1 H1 S1 => by
    cases b with
    | true => exact h1 rfl B R0 R1 H1 ρ Δ σ D S1 n r bk kk x
    | false => exact h2 rfl B R0 R1 H1 ρ Δ σ D S1 n r bk kk x) x
theorem w_ret (h : Ev c Γ te s) (k : P.rt s) : W c Γ (tRet te) P := fun B R0 R H ρ Δ σ D S n r b kk x =>
  h B R0 R H ρ Δ σ S _ (fun v R1 H1 S1 => r R1 H1 v s (sx_leave S1) k) x
theorem w_retN (k : P.rt (.im ())) : W c Γ tRetN P := fun B R0 R H ρ Δ σ D S n r b kk x => r R H .non _ (sx_push (sx_leave S) rfl) k
theorem w_drop (h : Ev c Γ te s) (k : P.nx Γ) : W c Γ (tDrop te) P := fun B R0 R H ρ Δ σ D S n r b kk x =>
  h B R0 R H ρ Δ σ S _ (fun v R1 H1 S1 => n R1 H1 _ _ (sx_pop S1) k) x
theorem w_next (k : P.nx Γ) : W c Γ tNext P := fun B R0 R H ρ Δ σ D S n r b kk x => n R H σ Γ S k
theorem w_break (k : P.bk Γ) : W c Γ tBreak P := fun B R0 R H ρ Δ σ D S n r b kk x => b R H σ Γ S k
theorem w_cont (k : P.ct Γ) : W c Γ tCont P := fun B R0 R H ρ Δ σ D S n r b kk x => kk R H σ Γ S k
/-- slot i, an own list, is frozen from here on; a slot is forgotten -/
theorem w_fr {xs : List α} (i : Nat) (e : Γ[i]? = some (.ol xs)) (h : W c (Γ.set i (.im xs)) t P) : W c Γ t P := fun B R0 R H ρ Δ σ D S n r b kk x => by
  obtain ⟨R', _, S'⟩ := sx_frl S e
  exact h B R0 R' H ρ Δ σ D S' n r b kk x
theorem w_un (i : Nat) (h : W c (Γ.set i .un) t P) : W c Γ t P := fun B R0 R H ρ Δ σ D S n r b kk x => h B R0 R H ρ Δ σ D (sx_forget S i) n r b kk x
/-- the slots' data, told otherwise -/
theorem w_eq {Γ' : List Sl} (e : Γ = Γ') (h : W c Γ' t P) : W c Γ t P := e ▸ h
theorem w_aug {i : Nat} {f : Int → Int → Int} {a b : Int} (e : Γ[i]? = some (.im a)) (h : Ev c Γ te (.im b)) (k : P.nx (Γ.set i (.im (f a b)))) : W c Γ (tAug i te (ipI f)) P := fun B R0 R H ρ Δ σ D S n r bb kk x => by
  obtain ⟨v, h1, h2⟩ := sx_im S e
  refine ⟨v, h1, h B R0 R H ρ Δ σ S _ (fun w R1 H1 S1 => ?_) x⟩
  have e2 : w = .int b := sx_top' S1
  exact ⟨a, b, h2, e2, n R1 H1 _ _ (sx_asg (sx_push (sx_pop S1) (show Rp.rp c.Z R1 (.int (f a b)) (f a b) from rfl)) i) k⟩
/-! own lists -/
theorem tyL {K : PySem.W.Frag} {H : Hp} {p : Addr} {vs : List V} (h : H p = some (.lst vs)) : tyV K "list" (.ref p) H := .inl ⟨rfl, vs, SqL.of h⟩
theorem w_app {i : Nat} {xs : List α} {y : α} (e : Γ[i]? = some (.ol xs)) (h : Ev c Γ te (.im y)) (hl : xs.length < 1000000) (k : P.nx (Γ.set i (.ol (xs ++ [y])))) : W c Γ (tDrop (tBM c.Z.K "list" rAppend (tVar i) (tCons te tNil))) P := fun B R0 R H ρ Δ σ D S n r bb kk x => by
  obtain ⟨p, vs, h2, h3, h4, _⟩ := sx_mutl S e
  refine ⟨.ref p, h2, tyL h3, h B R0 R H ρ Δ σ S _ (fun w R1 H1 S1 => ?_) x⟩
  obtain ⟨p', vs', h2', h3', h4', h5⟩ := sx_mutl (sx_pop S1) e
  have ep : p = p' := by
    rw [h2] at h2'
    cases h2'
    rfl
  subst ep
  have hl' := Paired.length h4'
  refine ⟨p, vs', w, rfl, rfl, h3', Nat.lt_of_lt_of_le (by omega : vs'.length < 1000000) (by decide), n R1 _ _ _ (h5 (vs' ++ [w]) (xs ++ [y]) (paired_append h4' (.cons (sx_top' S1) .nil))) k⟩
theorem ixN_of {n : Nat} {i : Int} (h0 : 0 ≤ i) (h1 : i < n) : ixN n i = some i.toNat := by
  unfold ixN
  rw [if_pos h0, if_pos h1]
/-- xs[i] = y -/
theorem w_put {k : Nat} {xs : List α} {y : α} {i : Int} (e : Γ[k]? = some (.ol xs)) (h : Ev c Γ te (.im y)) (hi : Ev c Γ tb (.im i)) (h0 : 0 ≤ i) (h1 : i < xs.length) (kk : P.nx (Γ.set k (.ol (xs.set i.toNat y)))) : W c Γ (tAsg te (gSub (tVar k) tb rSetL)) P := fun B R0 R H ρ Δ σ D S n r bb kk' x =>
  h B R0 R H ρ Δ σ S _ (fun w R1 H1 S1 => by
    obtain ⟨p, vs, h2, h3, h4, _⟩ := sx_mutl (sx_pop S1) e
    refine ⟨.ref p, h2, hi B R0 R1 H1 _ _ σ S1 _ (fun z R2 H2 S2 => ?_) x.push1⟩
    have ez : z = .int i := sx_top' S2
    obtain ⟨p', vs', h2', h3', h4', h5⟩ := sx_mutl (sx_pop (sx_pop S2)) e
    have ep : p = p' := by
      rw [h2] at h2'
      cases h2'
      rfl
    subst ep
    exact ⟨p, vs', i, i.toNat, rfl, ez, h3', ixN_of h0 (by rw [Paired.length h4']; exact h1), n R2 _ _ _ (h5 _ _ (paired_set (sx_top' (sx_pop S2)) _ h4')) kk⟩) x
/-- xs[i] op= y -/
theorem w_augs {k : Nat} {xs : List Int} {y : Int} {i : Int} {f : Int → Int → Int} {K : PySem.W.Frag} {tget : V → V → Hp → VK → Prop} (hg : ∀ x y H Q, rIxL c.Z.K x y H Q → tget x y H Q) (e : Γ[k]? = some (.ol xs)) (hi : Ev c Γ tb (.im i)) (h : Ev c Γ te (.im y)) (h0 : 0 ≤ i) (h1 : i < xs.length)
    (kk : P.nx (Γ.set k (.ol (xs.set i.toNat (f (gt xs i) y))))) : W c Γ (tAugS (tVar k) tb te tget (ipI f) rSetL) P := fun B R0 R H ρ Δ σ D S n r bb kk' x => by
  obtain ⟨p, vs, h2, _⟩ := sx_mutl S e
  refine ⟨.ref p, h2, hi B R0 R H ρ Δ σ S _ (fun z R1 H1 S1 => ?_) x⟩
  have ez : z = .int i := sx_top' S1
  obtain ⟨p', vs', h2', h3', h4', _⟩ := sx_mutl (sx_pop S1) e
  have ep : p = p' := by
    rw [h2] at h2'
    cases h2'
    rfl
  subst ep
  obtain ⟨v, hv, rv⟩ := paired_get h4' (gt_some h0 h1)
  have rv' : v = .int (gt xs i) := rv
  refine hg _ _ _ _ ⟨p, vs', i, v, rfl, ez, SqL.of h3', atI_of h0 (by rw [Paired.length h4']; exact h1) hv, h B R0 R1 H1 _ _ σ S1 _ (fun w R2 H2 S2 => ?_) x.push1⟩
  have ew : w = .int y := sx_top' S2
  refine ⟨gt xs i, y, rv', ew, ?_⟩
  obtain ⟨p2, vs2, g2, g3, g4, g5⟩ := sx_mutl (sx_pop (sx_pop S2)) e
  have ep : p = p2 := by
    rw [h2] at g2
    cases g2
    rfl
  subst ep
  exact ⟨p, vs2, i, i.toNat, rfl, ez, g3, ixN_of h0 (by rw [Paired.length g4]; exact h1), n R2 _ _ _ (g5 _ _ (paired_set (show Rp.rp c.Z R2 (V.int (f (gt xs i) y)) (f (gt xs i) y) from rfl) _ g4)) kk⟩
/-! walks -/
theorem wipe_set {σ : St} {j : Nat} {v : Option V} {vs : List Nat} (h : j ∈ vs) : wipe (σ.set j v) vs = wipe σ vs := by
  have key : ∀ (vs : List Nat) (i : Nat), (wipe (σ.set j v) vs)[i]? = if i ∈ vs then (if i < σ.length then some none else none) else (σ.set j v)[i]? := by
    intro vs
    induction vs with
    | nil => intro i; simp [wipe]
    | cons a r ih =>
      intro i
      unfold wipe
      rw [List.getElem?_set, wipe_length, List.length_set, ih]
      by_cases h1 : a = i
      · subst h1; simp
      · have : i ≠ a := fun e => h1 e.symm
        simp [h1, this]
  have key2 : ∀ (vs : List Nat) (i : Nat), (wipe σ vs)[i]? = if i ∈ vs then (if i < σ.length then some none else none) else σ[i]? := by
    intro vs
    induction vs with
    | nil => intro i; simp [wipe]
    | cons a r ih =>
      intro i
      unfold wipe
      rw [List.getElem?_set, wipe_length, ih]
      by_cases h1 : a = i
      · subst h1; simp
      · have : i ≠ a := fun e => h1 e.symm
        simp [h1, this]
  apply List.ext_getElem?
  intro i
  rw [key, key2]
  by_cases hi : i ∈ vs
  · simp [hi]
  · have : j ≠ i := fun e => hi (e ▸ h)
    simp [hi, List.getElem?_set, this]
theorem wipeG_len (Γ : List Sl) : ∀ vs : List Nat, (wipeG Γ vs).length = Γ.length
  | [] => rfl
  | v :: vs => by unfold wipeG; rw [List.length_set, wipeG_len Γ vs]
theorem wipeG_get (Γ : List Sl) : ∀ (vs : List Nat) (i : Nat), (wipeG Γ vs)[i]? = if i ∈ vs then (if i < Γ.length then some .un else none) else Γ[i]? := by
  intro vs
  induction vs with
  | nil => intro i; simp [wipeG]
  | cons a r ih =>
    intro i
    unfold wipeG
    rw [List.getElem?_set, wipeG_len, ih]
    by_cases h1 : a = i
    · subst h1; simp
    · have : i ≠ a := fun e => h1 e.symm
      simp [h1, this]
theorem wipeG_set {Γ : List Sl} {j : Nat} {v : Sl} {vs : List Nat} (h : j ∈ vs) : wipeG (Γ.set j v) vs = wipeG Γ vs := by
  apply List.ext_getElem?
  intro i
  rw [wipeG_get, wipeG_get, List.length_set]
  by_cases hi : i ∈ vs
  · simp [hi]
  · have : j ≠ i := fun e => hi (e ▸ h)
    simp [hi, List.getElem?_set, this]
theorem unAt_mem {Γ : List Sl} : ∀ {vs : List Nat}, UnAt Γ vs → ∀ v ∈ vs, Γ[v]? = some .un ∨ Γ.length ≤ v
  | [], _, v, hv => by simp at hv
  | a :: r, h, v, hv => by
    rcases List.mem_cons.mp hv with e | e
    · rw [e]; exact h.1
    · exact unAt_mem h.2 v e
theorem wipeG_un {Γ : List Sl} {vs : List Nat} (h : UnAt Γ vs) : wipeG Γ vs = Γ := by
  apply List.ext_getElem?
  intro i
  rw [wipeG_get]
  by_cases hi : i ∈ vs
  · rw [if_pos hi]
    rcases unAt_mem h i hi with e | e
    · rw [e, if_pos (by obtain ⟨h, _⟩ := List.getElem?_eq_some_iff.mp e; exact h)]
    · rw [if_neg (by omega), List.getElem?_eq_none e]
  · rw [if_neg hi]
theorem wipe_wipe (σ : St) (vs : List Nat) : wipe (wipe σ vs) vs = wipe σ vs := by
  have key : ∀ (us : List Nat), (∀ u ∈ us, u ∈ vs) → wipe (wipe σ us) vs = wipe σ vs := by
    intro us
    induction us with
    | nil => intro _; rfl
    | cons a r ih =>
      intro h
      show wipe ((wipe σ r).set a none) vs = wipe σ vs
      rw [wipe_set (h a List.mem_cons_self)]
      exact ih fun u hu => h u (List.mem_cons_of_mem _ hu)
  exact key vs fun _ h => h
theorem sx_unwipe {Z : Zz} {B R0 R H : Hp} {ρ : List (Option V)} {Δ : List Sl} {σ : List (Option V)} : ∀ {vs : List Nat}, UnAt Γ vs → Sx Z B R0 R H ρ Δ (wipe σ vs) Γ → Sx Z B R0 R H ρ Δ σ Γ
  | [], _, S => S
  | v :: vs, h, S => by
    refine sx_unwipe h.2 ?_
    have S' : Sx Z B R0 R H ρ Δ ((wipe σ vs).set v none) Γ := S
    have e3 : Γ.set v .un = Γ := by
      apply List.ext_getElem?
      intro i
      rw [List.getElem?_set]
      by_cases hi : v = i
      · subst hi
        rcases h.1 with e | e
        · rw [if_pos rfl, e, if_pos (by obtain ⟨h, _⟩ := List.getElem?_eq_some_iff.mp e; exact h)]
        · rw [if_pos rfl, if_neg (by omega), List.getElem?_eq_none e]
      · rw [if_neg hi]
    by_cases hv : v < (wipe σ vs).length
    · have q := sx_forgets S' v (wipe σ vs)[v]
      rw [e3, List.set_set, List.set_getElem_self] at q
      exact q
    · rw [List.set_eq_of_length_le (by omega)] at S'
      exact S'
theorem wipe_some' {σ : St} {i : Nat} {x : Option V} {vs : List Nat} (h : i ∉ vs) (e : σ[i]? = some x) : (wipe σ vs)[i]? = some x := by
  induction vs with
  | nil => exact e
  | cons a r ih =>
    unfold wipe
    have h1 : a ≠ i := fun z => h (z ▸ List.mem_cons_self)
    rw [List.getElem?_set, if_neg h1]
    exact ih fun z => h (List.mem_cons_of_mem _ z)
/-- over a list of data -/
theorem ei_list {xs : List α} {j : Nat} (h : Ev c Γ tl (.im xs)) : EvI c Γ (iList c.Z.K tl) (gName j) xs.length (fun i G => G.set j (.im (xs.getD i Rp.df))) [j] := fun B R0 R H ρ Δ σ S K k x =>
  h B R0 R H ρ Δ σ S _ (fun v R1 H1 S1 => by
    have rv := sx_top' S1
    obtain ⟨a, vs, rfl, ha, hp⟩ := id rv
    refine ⟨a, rfl, ⟨vs, SqL.of (sx_same S1 _ _ ha)⟩, k (Itl c.Z.K a) R1 H1 [some (.ref a)] [.im xs] rfl S1 ⟨fun i G vs3 hj => wipeG_set (hj j (by simp)), fun {R2 H2 ρx Δx σ2 Γ2 i} hx S2 hi => ?_, fun {R2 H2 ρx Δx σ2 Γ2} hx S2 => ?_, fun {R2 H2 ρx Δx σ2 Γ2 i y H'} hx S2 hi hy K' kk => ?_⟩⟩
    · obtain ⟨a2, vs2, e2, ha2, hp2⟩ := sx_top' (sx_drop hx S2)
      cases e2
      obtain ⟨w, hw, _⟩ := paired_get hp2 (b := xs[i]) (i := i) (by simp [hi])
      exact ⟨vs2, w, SqL.of (sx_same S2 _ _ ha2), hw⟩
    · obtain ⟨a2, vs2, e2, ha2, hp2⟩ := sx_top' (sx_drop hx S2)
      cases e2
      exact ⟨vs2, SqL.of (sx_same S2 _ _ ha2), by rw [Paired.length hp2]; exact Nat.le_refl _⟩
    · obtain ⟨a2, vs2, e2, ha2, hp2⟩ := sx_top' (sx_drop hx S2)
      cases e2
      obtain ⟨eH, hy⟩ := hy
      subst eH
      have hy' := hy vs2 (SqL.of (sx_same S2 _ _ ha2))
      obtain ⟨b, hb, rb⟩ := paired_getL hp2 hy'
      refine kk R2 _ H' (sx_asg (sx_push S2 (d := xs.getD i Rp.df) ?_) j) fun vs3 hj => wipe_set (hj j (by simp))
      have : xs.getD i Rp.df = b := by rw [List.getD_eq_getElem?_getD, hb]; rfl
      rw [this]
      exact rb) x
/-- over the script -/
theorem ei_scr {l : Scr} {j : Nat} (h : Ev c Γ tl (.im l)) : EvI c Γ (iList c.Z.K tl) (gName j) l.l.length (fun i G => G.set j (.im (l.l.getD i 0))) [j] := fun B R0 R H ρ Δ σ S K k x =>
  h B R0 R H ρ Δ σ S _ (fun v R1 H1 S1 => by
    have rv := sx_top' S1
    obtain ⟨a, rfl, ha⟩ := id rv
    refine ⟨a, rfl, ⟨_, (sx_same S1).seq ha⟩, k (Itl c.Z.K a) R1 H1 [some (.ref a)] [.im l] rfl S1 ⟨fun i G vs3 hj => wipeG_set (hj j (by simp)), fun {R2 H2 ρx Δx σ2 Γ2 i} hx S2 hi => ?_, fun {R2 H2 ρx Δx σ2 Γ2} hx S2 => ?_, fun {R2 H2 ρx Δx σ2 Γ2 i y H'} hx S2 hi hy K' kk => ?_⟩⟩
    · obtain ⟨a2, e2, ha2⟩ := sx_top' (sx_drop hx S2)
      cases e2
      exact ⟨_, .int l.l[i], (sx_same S2).seq ha2, by simp [hi]⟩
    · obtain ⟨a2, e2, ha2⟩ := sx_top' (sx_drop hx S2)
      cases e2
      exact ⟨_, (sx_same S2).seq ha2, by simp⟩
    · obtain ⟨a2, e2, ha2⟩ := sx_top' (sx_drop hx S2)
      cases e2
      obtain ⟨eH, hy⟩ := hy
      subst eH
      have hy' := hy _ ((sx_same S2).seq ha2)
      refine kk R2 _ H' (sx_asg (sx_push S2 (d := l.l.getD i 0) ?_) j) fun vs3 hj => wipe_set (hj j (by simp))
      rw [List.getElem?_map] at hy'
      show y = V.int (l.l.getD i 0)
      have e3 : l.l[i]? = some l.l[i] := by simp [hi]
      rw [e3] at hy'
      rw [List.getD_eq_getElem?_getD, e3]
      exact (Option.some.inj hy').symm) x
theorem ei_rng1 {j : Nat} {n : Int} (h : Ev c Γ te (.im n)) (hn : n < 2 ^ 60) (hn0 : -(2 ^ 60) < n) : EvI c Γ (iRng1 (tCons te tNil)) (gName j) n.toNat (fun i G => G.set j (.im (i : Int))) [j] := fun B R0 R H ρ Δ σ S K k x =>
  h B R0 R H ρ Δ σ S _ (fun v R1 H1 S1 => by
    have rv : v = .int n := sx_top' S1
    subst rv
    refine ⟨n, rfl, by omega, by omega, k (Itr 0 n.toNat) R1 H1 [] [] rfl (sx_pop S1) ⟨fun i G vs3 hj => wipeG_set (hj j (by simp)), fun _ _ hi => hi, fun _ _ => Nat.le_refl _, fun {R2 H2 ρx Δx σ2 Γ2 i y H'} hx S2 hi hy K' kk => ?_⟩⟩
    obtain ⟨rfl, rfl⟩ := hy
    exact kk R2 _ _ (sx_asg (sx_push S2 (show Rp.rp c.Z R2 (V.int (0 + (i : Int))) (i : Int) by rw [Int.zero_add]; rfl)) j) fun vs3 hj => wipe_set (hj j (by simp))) x
theorem ei_rng2 {j : Nat} {m n : Int} (h1 : Ev c Γ ta (.im m)) (h : Ev c Γ te (.im n)) (hm : -(2 ^ 60) < m ∧ m < 2 ^ 60) (hn : n < 2 ^ 60 ∧ -(2 ^ 60) < n) : EvI c Γ (iRng2 (tCons ta (tCons te tNil))) (gName j) (n - m).toNat (fun i G => G.set j (.im (m + (i : Int)))) [j] := fun B R0 R H ρ Δ σ S K k x =>
  h1 B R0 R H ρ Δ σ S _ (fun v0 R1 H1 S1 => h B R0 R1 H1 _ _ σ S1 _ (fun v R2 H2 S2 => by
    have rv0 : v0 = .int m := sx_top' (sx_pop S2)
    have rv : v = .int n := sx_top' S2
    subst rv rv0
    refine ⟨m, n, rfl, ⟨by omega, by omega, by omega, by omega⟩, k (Itr m (n - m).toNat) R2 H2 [] [] rfl (sx_pop (sx_pop S2)) ⟨fun i G vs3 hj => wipeG_set (hj j (by simp)), fun _ _ hi => hi, fun _ _ => Nat.le_refl _, fun {R2 H2 ρx Δx σ2 Γ2 i y H'} hx S2 hi hy K' kk => ?_⟩⟩
    obtain ⟨rfl, rfl⟩ := hy
    exact kk R2 _ _ (sx_asg (sx_push S2 (show Rp.rp c.Z R2 (V.int (m + (i : Int))) (m + (i : Int)) from rfl)) j) fun vs3 hj => wipe_set (hj j (by simp))) x.push1) x
theorem w_for {wi : TI} {g : TG} {n : Nat} {us : Nat → List Sl → List Sl} {js : List Nat} (I : Nat → List Sl → Prop) (hi : EvI c Γ wi g n us js) (h0 : I 0 Γ)
    (hs : ∀ i G, i < n → I i G → W c (us i G) t ⟨I (i + 1), P.rt, P.nx, I (i + 1)⟩) (hd : ∀ G, I n G → P.nx G) : W c Γ (tFor wi g t) P := fun B R0 R H ρ Δ σ D S nx r b kk x =>
  hi B R0 R H ρ Δ σ S _ (fun J R1 H1 ρ' Δ' hl S1 ok => by
    refine ⟨fun i m σ H => m = n - i ∧ i ≤ n ∧ ∃ R G, Sx c.Z B R0 R H (ρ' ++ ρ) (Δ' ++ Δ) σ G ∧ I i G, ⟨n, by simp, Nat.zero_le _, R1, Γ, S1, h0⟩, ?_⟩
    rintro i m σ2 H2 ⟨rfl, hin, R2, G, S2, hI⟩
    by_cases hlt : i < n
    · refine .inr ⟨ok.go (ρx := []) (Δx := []) rfl S2 hlt, fun σ' H' => ∃ R G, Sx c.Z B R0 R H' (ρ' ++ ρ) (Δ' ++ Δ) σ' G ∧ I (i + 1) G, fun σ' H' h => ⟨n - (i + 1), by omega, rfl, hlt, h⟩, fun y H' hy => ?_⟩
      refine ok.yld (ρx := []) (Δx := []) rfl S2 hlt hy _ fun R3 σ3 H3 S3 _ => ?_
      exact hs i G hlt hI B R0 R3 H3 (ρ' ++ ρ) (Δ' ++ Δ) σ3 _ S3 (fun R4 H4 σ4 Γ4 S4 q => ⟨R4, Γ4, S4, q⟩) (fun R4 H4 v s S4 q => r R4 H4 v s (sx_drop1 hl S4) q) (fun R4 H4 σ4 Γ4 S4 q => nx R4 H4 σ4 Γ4 (sx_drop hl S4) q) (fun R4 H4 σ4 Γ4 S4 q => ⟨R4, Γ4, S4, q⟩) (x.push hl)
    · have e : i = n := by omega
      subst e
      exact .inl ⟨ok.stop (ρx := []) (Δx := []) rfl S2, nx R2 H2 σ2 G (sx_drop hl S2) (hd G hI)⟩) x
theorem w_while (I : Nat → List Sl → Prop) (m0 : Nat) (h0 : I m0 Γ)
    (hs : ∀ m G, I m G → ∃ b, EvT c G tc b ∧ (b = true → W c G t ⟨fun G' => ∃ m', m' < m ∧ I m' G', P.rt, P.nx, fun G' => ∃ m', m' < m ∧ I m' G'⟩) ∧ (b = false → P.nx G)) : W c Γ (tWhile tc t) P := fun B R0 R H ρ Δ σ D S nx r b kk x => by
  refine ⟨fun m σ H => ∃ R G, Sx c.Z B R0 R H ρ Δ σ G ∧ I m G, ⟨m0, R, Γ, S, h0⟩, ?_⟩
  rintro m σ1 H1 ⟨R1, G, S1, hI⟩
  obtain ⟨bb, ht, h1, h2⟩ := hs m G hI
  refine ht B R0 R1 H1 ρ Δ σ1 S1 _ (fun R2 H2 S2 => ?_) x
  cases bb with
  | true =>
    refine ⟨fun σ' H' => ∃ R G, Sx c.Z B R0 R H' ρ Δ σ' G ∧ ∃ m', m' < m ∧ I m' G, fun σ' H' ⟨R, G, S', m', hm, hI'⟩ => ⟨m', hm, R, G, S', hI'⟩, ?_⟩
    exact h1 rfl B R0 R2 H2 ρ Δ σ1 _ S2 (fun R4 H4 σ4 Γ4 S4 q => ⟨R4, Γ4, S4, q⟩) r nx (fun R4 H4 σ4 Γ4 S4 q => ⟨R4, Γ4, S4, q⟩) x
  | false => exact nx R2 H2 σ1 G S2 (h2 rfl)
/-! comprehensions -/
theorem take_snoc {α : Type} {l : List α} {i : Nat} (h : i < l.length) : l.take (i + 1) = l.take i ++ [l[i]] := by rw [List.take_succ, List.getElem?_eq_getElem h]; rfl
theorem sx_wipe {Z : Zz} {B R0 R H : Hp} {ρ : List (Option V)} {Δ : List Sl} {σ : List (Option V)} (S : Sx Z B R0 R H ρ Δ σ Γ) : ∀ vs : List Nat, Sx Z B R0 R H ρ Δ (wipe σ vs) (wipeG Γ vs)
  | [] => S
  | v :: vs => sx_forgets (sx_wipe S vs) v none
/-- the first i turns' items that are kept -/
def kept {α : Type} (p : Nat → Bool) (f : Nat → α) (n : Nat) : List α := ((List.range n).filter p).map f
theorem kept_yes {α : Type} {p : Nat → Bool} {f : Nat → α} {n : Nat} (h : p n = true) : kept p f (n + 1) = kept p f n ++ [f n] := by
  unfold kept
  rw [List.range_succ, List.filter_append, List.map_append]
  simp [h]
theorem kept_no {α : Type} {p : Nat → Bool} {f : Nat → α} {n : Nat} (h : p n = false) : kept p f (n + 1) = kept p f n := by
  unfold kept
  rw [List.range_succ, List.filter_append, List.map_append]
  simp [h]
theorem kept_len {α : Type} (p : Nat → Bool) (f : Nat → α) (n : Nat) : (kept p f n).length ≤ n := by
  unfold kept
  rw [List.length_map]
  exact Nat.le_trans (List.length_filter_le _ _) (by simp)
theorem sx_swapTop {Z : Zz} {B R0 R H : Hp} {ρ : List (Option V)} {Δ : List Sl} {σ : List (Option V)} {o o' : Option V} {s s' : Sl} (S : Sx Z B R0 R H (o :: o' :: ρ) (s :: s' :: Δ) σ Γ) : Sx Z B R0 R H (o' :: o :: ρ) (s' :: s :: Δ) σ Γ := by
  obtain ⟨h, own, hs, f, g, rfl, h1, f2, g2, rfl, h2, h3⟩ := S
  refine ⟨by simpa using h, f2 ++ (f ++ g2), hs_sub hs (fun p hp => ?_) ?_, f2, f ++ g2, rfl, h2, f, g2, rfl, h1, h3⟩
  · simp only [List.mem_append] at hp ⊢
    grind
  · have nd := hs.nd
    simp only [List.nodup_append, List.mem_append] at nd ⊢
    grind
theorem sx_len1 {o : Option V} {s : Sl} {ρ : List (Option V)} {Δ : List Sl} (h : ρ.length = Δ.length) : (o :: ρ).length = (s :: Δ).length := by simp [h]
theorem ev_lc {wi : TI} {g : TG} {n : Nat} {us : Nat → List Sl → List Sl} {js vs : List Nat} (p : Nat → Bool) (f : Nat → α) (hi : EvI c Γ wi g n us js) (hn : n < 1000000) (hj : ∀ j ∈ js, j ∈ vs) (hu : UnAt Γ vs)
    (ht : ∀ i, i < n → EvT c.no (us i Γ) tt (p i)) (he : ∀ i, i < n → p i = true → Ev c.no (us i Γ) te (.im (f i))) : Ev c Γ (tLc wi g tt te vs) (.ol (kept p f n)) := fun B R0 R H ρ Δ σ S Q q x =>
  hi B R0 R H ρ Δ σ S _ (fun J R1 H1 ρ' Δ' hl S1 ok Dl hD => by
    refine ⟨fun i m H => m = n - i ∧ i ≤ n ∧ ∃ R, Sx c.Z B R0 R H (some (.ref Dl) :: (ρ' ++ ρ)) (.ol (kept p f i) :: (Δ' ++ Δ)) σ Γ, ⟨n, by simp, Nat.zero_le _, R1, sx_newl S1 hD .nil⟩, ?_⟩
    rintro i m H2 ⟨rfl, hin, R2, S2⟩
    by_cases hlt : i < n
    · refine .inr ⟨ok.go (ρx := [some (.ref Dl)]) (Δx := [.ol (kept p f i)]) rfl S2 hlt, fun H' => ∃ R, Sx c.Z B R0 R H' (some (.ref Dl) :: (ρ' ++ ρ)) (.ol (kept p f (i + 1)) :: (Δ' ++ Δ)) σ Γ, fun H' h => ⟨n - (i + 1), by omega, rfl, hlt, h⟩, fun y H' hy => ?_⟩
      have S2w := sx_wipe S2 vs
      rw [wipeG_un hu] at S2w
      refine ok.yld (ρx := [some (.ref Dl)]) (Δx := [.ol (kept p f i)]) rfl S2w hlt hy _ fun R3 σ3 H3 S3 hw => ⟨(hw vs hj).trans (wipe_wipe _ vs), ?_⟩
      have back : ∀ {R4 H4 : Hp} {o : Option V} {s : Sl}, Sx c.Z B R0 R4 H4 (o :: (ρ' ++ ρ)) (s :: (Δ' ++ Δ)) σ3 (us i Γ) → Sx c.Z B R0 R4 H4 (o :: (ρ' ++ ρ)) (s :: (Δ' ++ Δ)) σ Γ := fun S4 => by
        have q4 := sx_wipe S4 vs
        rw [hw vs hj, wipe_wipe, ok.back i Γ vs hj, wipeG_un hu] at q4
        exact sx_unwipe hu q4
      refine ht i hlt B R0 R3 H3 _ _ σ3 S3 _ (fun R4 H4 S4 => ?_) (Xok.no c _ _ _ _)
      cases hp : p i with
      | false =>
        refine ⟨R4, ?_⟩
        rw [kept_no hp]
        exact back S4
      | true =>
        refine he i hlt hp B R0 R4 H4 _ _ σ3 S4 _ (fun w R5 H5 S5 => ?_) (Xok.no c _ _ _ _)
        obtain ⟨p1, vs1, e1, h1, h2, h3⟩ := sx_mutTop (sx_swapTop S5)
        cases e1
        have hl1 := Paired.length h2
        have hl2 := kept_len p f i
        refine ⟨vs1, h1, Nat.lt_of_lt_of_le (by omega : vs1.length < 1000000) (by decide), R5, ?_⟩
        rw [kept_yes hp]
        exact back (sx_pop2 (h3 (vs1 ++ [w]) (kept p f i ++ [f i]) (paired_append h2 (.cons (sx_top' S5) .nil))))
    · have e : i = n := by omega
      subst e
      exact .inl ⟨ok.stop (ρx := [some (.ref Dl)]) (Δx := [.ol (kept p f i)]) rfl S2, q _ R2 H2 (sx_drop1 hl S2)⟩) x
end TB

/-! TbX: refusals raised; sorted, min, max, insert, stores by index; more walks (enumerate, zip). -/
namespace TB
open PySem PySem.Spec PyProof.Rows L2
/-! ### by values -/
theorem pget_list {X : Cx} : PGet X (rIxL X.K) := by
  intro pins s σ H x y v u Q I rx ry h
  obtain ⟨p, xs, i, z, rfl, rfl, hq, he, q⟩ := h
  cases rx
  obtain ⟨t, rfl⟩ := ry
  obtain ⟨its, r, pl, hz⟩ := I.list hq
  obtain ⟨j, h1, h2, h3, h4, h5⟩ := atI_get he
  obtain ⟨w, ew, rw'⟩ := r.get h2
  have hl := r.length
  have hn := line63
  have fin : EP X pins σ Q w s := ⟨z, H, I, rw', q⟩
  by_cases h0 : 0 ≤ i
  · have hj : i.toNat = j := by
      rw [seqIndex_of h0 h5] at h1
      exact Option.some.inj h1
    exact wpAny_getItem_list (x := w) pl.isList h0 (by omega) (by rw [hj]; simpa using ew) fin
  · have hj : (i + (its.toArray.size : Int)).toNat = j := by
      rw [seqIndex_neg (by omega) h4] at h1
      rw [List.size_toArray, ← hl]
      exact Option.some.inj h1
    exact wpAny_getItem_list_neg pl.isList (by omega) (by rw [List.size_toArray] <;> omega) (by omega) (by rw [hj]; simpa using ew) fin

/-! ### refusals -/
def tRaise0 (C : Addr) (X : WX) : TS := fun _ σ H => (fun _ H Q => Q (.ref C) none H : L2.St → Hp → XK → Prop) σ H fun cls d H' => X cls d σ H'
/-- __init__ of an own exception class: its fields, in order -/
def spXI (C : Addr) (fs : List Str) : Sp := fun vs H Q _ => ∃ (a : Addr) (ws : List V), vs = .ref a :: ws ∧ ws.length = fs.length ∧ H a = some (exo a C none) ∧
  ∀ (d : Addr) (H' : Hp), H d = none → d ≠ a → H' a = some (exo a C (some d)) → H' d = some (exd d (fs.zip ws).reverse) → (∀ b, b ≠ a → b ≠ d → H' b = H b) → Q .non H'
def tRaiseN (C : Addr) (fs : List Str) (X : WX) (ta : TA) : TS := fun _ σ H => tMkO C (spXI C fs) [] ta σ H fun cls d H' => X cls d σ H'
section
variable {c : Cn} {Γ : List Sl} {ta tb te tl : TE} {tt tc : TT} {t u : TS} {s : Sl} {α β γ : Type} {_ : Rp α} {_ : Rp β} {_ : Rp γ} {P : Po}
theorem w_raise0 (n : CN) (h : c.ex ⟨n, []⟩ Γ) : W c Γ (tRaise0 (c.Z.cls n) c.X) P := fun B R0 R H ρ Δ σ D S nx r b k x => x R H σ Γ ⟨n, []⟩ (.ref (c.Z.cls n)) none S ⟨rfl, .inl ⟨rfl, rfl⟩⟩ h
/-- the fields' values, ints -/
theorem w_raiseN {ts : TA} (n : CN) (fs : List Str) (ns : List Int) (ha : EvA c Γ ts (ns.map fun i => .im i)) (hl : ns.length = fs.length) (hl2 : ns.length ≤ 900) (hne : fs ≠ []) (h : c.ex ⟨n, (fs.zip (ns.map V.int)).reverse⟩ Γ) : W c Γ (tRaiseN (c.Z.cls n) fs c.X ts) P := fun B R0 R H ρ Δ σ D S nx r b k x =>
  ha B R0 R H ρ Δ σ S _ (fun vs R1 H1 S1 sl => by
    have hp := paired_map_int (slims_list sl)
    subst hp
    refine ⟨by rw [List.length_map]; omega, fun a na => ?_⟩
    rw [List.append_nil]
    refine ⟨a, ns.map V.int, rfl, by rw [List.length_map]; exact hl, upd_same, fun d H2 nd hda ha2 hd2 ho => ?_⟩
    have nd1 : H1 d = none := by rw [upd_ne hda] at nd; exact nd
    refine ⟨rfl, d, _, ha2, hd2, nd1, ?_⟩
    have eH : upd (del H2 a) d (.xd (fs.zip (ns.map V.int)).reverse) = upd H1 d (.xd (fs.zip (ns.map V.int)).reverse) := by
      funext b
      by_cases h1 : b = d
      · subst h1; rw [upd_same, upd_same]
      · rw [upd_ne h1, upd_ne h1]
        by_cases h2 : b = a
        · subst h2; rw [del_same, na]
        · rw [del_ne h2, ho b h2 h1, upd_ne h2]
    rw [eH]
    refine x _ _ σ Γ ⟨n, _⟩ (.ref (c.Z.cls n)) (some d) (sx_froz S1 nd1 _).1 ⟨rfl, .inr ⟨fun z => hne ?_, d, rfl, (sx_base S1).free nd1, upd_same⟩⟩ h
    have z2 := congrArg List.length (show (fs.zip (ns.map V.int)).reverse = [] from z)
    rw [List.length_reverse, List.length_zip, List.length_map, hl, Nat.min_self] at z2
    exact List.length_eq_zero_iff.mp z2) x
end
/-- the promise of such an __init__, from its body's reading: one, two, three fields -/
theorem xi_ost {K : PySem.W.Frag} {C : Addr} {f : Str} {j : Nat} {D : Ends} {σ : L2.St} {H : Hp} {a : Addr} {w : V} (T : OexC K C) (hn : PySem.W.findIn K (.ref C) f = some none) (h0 : σ[0]? = some (some (.ref a))) (hj : σ[j]? = some (some w))
    (h : (H a = some (exo a C none) ∧ ∀ dx, H dx = none → dx ≠ a → D.nx σ (upd (upd H dx (exd dx [(f, w)])) a (exo a C (some dx)))) ∨ ∃ (dx : Addr) (fs : List (Str × V)), H a = some (exo a C (some dx)) ∧ H dx = some (exd dx fs) ∧ fs.length ≤ 900 ∧ D.nx σ (upd H dx (exd dx ((f, w) :: fs)))) :
    tOst K f (tVar 0) (tVar j) D σ H := ⟨w, hj, .ref a, h0, a, C, rfl, T, hn, h⟩
theorem xi_one {K : PySem.W.Frag} {C : Addr} {f : Str} {N : List Str} (hN : N.length = 2) (T : OexC K C) (hn : PySem.W.findIn K (.ref C) f = some none) (vs : List V) (H : Hp) (Q : VK) (E : XK) (h : spXI C [f] vs H Q E) :
    tOst K f (tVar 0) (tVar 1) { nx := fun _ H' => Q .non H', rt := Q } (L2.start N vs) H := by
  obtain ⟨a, ws, rfl, hl, ha, k⟩ := h
  obtain ⟨w, rfl⟩ : ∃ w, ws = [w] := by
    match ws, hl with
    | [w], _ => exact ⟨w, rfl⟩
  refine xi_ost T hn rfl rfl (.inl ⟨ha, fun dx nd ne => k dx _ nd ne upd_same (by rw [upd_ne ne, upd_same]; rfl) fun b h1 h2 => by rw [upd_ne h1, upd_ne h2]⟩)
theorem xi_two {K : PySem.W.Frag} {C : Addr} {f g : Str} {N : List Str} (hN : N.length = 3) (T : OexC K C) (hn : PySem.W.findIn K (.ref C) f = some none) (hg : PySem.W.findIn K (.ref C) g = some none) (vs : List V) (H : Hp) (Q : VK) (E : XK) (h : spXI C [f, g] vs H Q E) :
    tSeq (tOst K f (tVar 0) (tVar 1)) (tOst K g (tVar 0) (tVar 2)) { nx := fun _ H' => Q .non H', rt := Q } (L2.start N vs) H := by
  obtain ⟨a, ws, rfl, hl, ha, k⟩ := h
  obtain ⟨w, w2, rfl⟩ : ∃ w w2, ws = [w, w2] := by
    match ws, hl with
    | [w, w2], _ => exact ⟨w, w2, rfl⟩
  refine xi_ost T hn rfl rfl (.inl ⟨ha, fun dx nd ne => ?_⟩)
  refine xi_ost T hg rfl rfl (.inr ⟨dx, _, upd_same, by rw [upd_ne ne, upd_same], by simp, ?_⟩)
  refine k dx _ nd ne (by rw [upd_ne (Ne.symm ne), upd_same]) (by rw [upd_same]; rfl) fun b h1 h2 => by rw [upd_ne h2, upd_ne h1, upd_ne h2]
theorem xi_three {K : PySem.W.Frag} {C : Addr} {f g g3 : Str} {N : List Str} (hN : N.length = 4) (T : OexC K C) (hn : PySem.W.findIn K (.ref C) f = some none) (hg : PySem.W.findIn K (.ref C) g = some none) (hg3 : PySem.W.findIn K (.ref C) g3 = some none) (vs : List V) (H : Hp) (Q : VK) (E : XK) (h : spXI C [f, g, g3] vs H Q E) :
    tSeq (tOst K f (tVar 0) (tVar 1)) (tSeq (tOst K g (tVar 0) (tVar 2)) (tOst K g3 (tVar 0) (tVar 3))) { nx := fun _ H' => Q .non H', rt := Q } (L2.start N vs) H := by
  obtain ⟨a, ws, rfl, hl, ha, k⟩ := h
  obtain ⟨w, w2, w3, rfl⟩ : ∃ w w2 w3, ws = [w, w2, w3] := by
    match ws, hl with
    | [w, w2, w3], _ => exact ⟨w, w2, w3, rfl⟩
  refine xi_ost T hn rfl rfl (.inl ⟨ha, fun dx nd ne => ?_⟩)
  refine xi_ost T hg rfl rfl (.inr ⟨dx, _, upd_same, by rw [upd_ne ne, upd_same], by simp, ?_⟩)
  refine xi_ost T hg3 rfl rfl (.inr ⟨dx, _, by rw [upd_ne (Ne.symm ne), upd_same], upd_same, by simp, ?_⟩)
  refine k dx _ nd ne (by rw [upd_ne (Ne.symm ne), upd_ne (Ne.symm ne), upd_same]) (by rw [upd_same]; rfl) fun b h1 h2 => by rw [upd_ne h2, upd_ne h2, upd_ne h1, upd_ne h2]

/-! ### more built-ins -/
def isort (xs : List Int) : List Int := xs.mergeSort fun x y => decide (x ≤ y)
def gSorted (K : PySem.W.Frag) : List V → Hp → VK → Prop := rSortedI K
theorem gc_sorted {X : Cx} : CallR X (.builtin "sorted") (gSorted X.K) := cr_sortedI
def gMin : List V → Hp → VK → Prop := fun xs H Q => ∃ i j, xs = [.int i, .int j] ∧ Q (.int (if j < i then j else i)) H
def gMax : List V → Hp → VK → Prop := fun xs H Q => ∃ i j, xs = [.int i, .int j] ∧ Q (.int (if j > i then j else i)) H
theorem gc_min {X : Cx} (hc : X.calm = true) : CallR X (.builtin "min") gMin := call_min2 hc
theorem gc_max {X : Cx} (hc : X.calm = true) : CallR X (.builtin "max") gMax := call_max2 hc
def gInsert : V → List V → Hp → VK → Prop := fun x vs H Q => ∃ (l : Addr) (xs : List V) (i : Int) (y : V), x = .ref l ∧ vs = [.int i, y] ∧ H l = some (.lst xs) ∧ xs.length < sizeLine ∧ 0 ≤ i ∧ i < 2 ^ 63 ∧
    Q .non (upd H l (.lst (xs.take i.toNat ++ [y] ++ xs.drop i.toNat)))
theorem gm_insert {X : Cx} : MtR X "list.insert" gInsert := mt_insert
/-- o[i] = v: a list, a dict -/
def gSet : V → V → V → Hp → (Hp → Prop) → Prop := fun o i v H Q => rSetL o i v H Q ∨ ∃ a H', o = .ref a ∧ DPut H a i v H' ∧ Q H'
theorem gs_set {X : Cx} (hu : X.A.units + 1 < cLine) : PSet X gSet := by
  intro pins s σ H o i v ov iv u Q I ro ri rv h
  rcases h with h | ⟨a, H', rfl, h, q⟩
  · exact set_list pins s σ H o i v ov iv u Q I ro ri rv h
  · obtain rfl : ov = Value.ref a := ro
    exact d_setItem hu I h ri rv fun s4 I4 => ⟨H', I4, q⟩
section
variable {c : Cn} {Γ : List Sl} {ta tb te tl : TE} {tt tc : TT} {t u : TS} {s : Sl} {α β γ : Type} {_ : Rp α} {_ : Rp β} {_ : Rp γ} {P : Po}
theorem ev_sorted {xs : List Int} (ha : Ev c Γ ta (.im xs)) : Ev c Γ (tCB (gSorted c.Z.K) (tCons ta tNil)) (.ol (isort xs)) := ev_cbL ha fun R H v sm rv Q q => by
  obtain ⟨a, vs, rfl, ha, hp⟩ := rv
  refine ⟨a, xs, rfl, SqL.of (paired_map_int hp ▸ sm _ _ ha), fun ns' p pm pw np => ?_⟩
  have e : ns' = isort xs := PySem.W.os_sorted_mergeSort pm pw
  subst e
  exact q _ p (paired_of_int _) np
theorem ev_min2 {i j : Int} (ha : Ev c Γ ta (.im i)) (hb : Ev c Γ tb (.im j)) : Ev c Γ (tCB gMin (tCons ta (tCons tb tNil))) (.im (if j < i then j else i)) := ev_cb2 ha hb fun R H v w sm rv rw => by
  have rv' : v = .int i := rv
  have rw' : w = .int j := rw
  subst rv' rw'
  exact ⟨_, rfl, fun Q q => ⟨i, j, rfl, q⟩⟩
theorem ev_max2 {i j : Int} (ha : Ev c Γ ta (.im i)) (hb : Ev c Γ tb (.im j)) : Ev c Γ (tCB gMax (tCons ta (tCons tb tNil))) (.im (if j > i then j else i)) := ev_cb2 ha hb fun R H v w sm rv rw => by
  have rv' : v = .int i := rv
  have rw' : w = .int j := rw
  subst rv' rw'
  exact ⟨_, rfl, fun Q q => ⟨i, j, rfl, q⟩⟩
/-- 0, 1, .., n - 1 -/
def irange (n : Int) : List Int := (List.range n.toNat).map fun (i : Nat) => (i : Int)
theorem ev_listRg {n : Int} (ha : Ev c Γ ta (.im n)) (h : n ≤ 1000000) (h0 : -1000000 ≤ n) : Ev c Γ (tLstRg (tRg1 ta)) (.ol (irange n)) := fun B R0 R H ρ Δ σ S Q q xk => ha B R0 R H ρ Δ σ S _ (fun v R1 H1 S1 => by
  have rv : v = .int n := sx_top' S1
  refine ⟨n, rv, ⟨by omega, by omega, by omega, by omega, by omega⟩, fun p np => ?_⟩
  have e : rgV 0 n = (irange n).map V.int := by
    unfold rgV irange
    rw [List.map_map]
    congr 1
    · funext i; show V.int (0 + (i : Int)) = V.int (i : Int); rw [Int.zero_add]
    · rw [Int.sub_zero]
  rw [e]
  exact q _ R1 _ (sx_newl (sx_pop S1) np (paired_of_int _))) xk
theorem ev_slice {xs : List α} {t1 t2 : TO} {lo hi : Option Int} (ha : Ev c Γ ta (.im xs)) (h1 : ∀ B R0 R H ρ Δ σ, Sx c.Z B R0 R H ρ Δ σ Γ → ∀ Q : Option Int → Hp → Prop, (∀ R' H', Sx c.Z B R0 R' H' ρ Δ σ Γ → Q lo H') → Xok c B R0 ρ Δ → t1 σ H Q)
    (h2 : ∀ B R0 R H ρ Δ σ, Sx c.Z B R0 R H ρ Δ σ Γ → ∀ Q : Option Int → Hp → Prop, (∀ R' H', Sx c.Z B R0 R' H' ρ Δ σ Γ → Q hi H') → Xok c B R0 ρ Δ → t2 σ H Q) :
    Ev c Γ (tSl (rSlL c.Z.K) ta t1 t2) (.ol ((xs.drop (HT.sIx xs.length 0 lo)).take (HT.sIx xs.length xs.length hi - HT.sIx xs.length 0 lo))) := fun B R0 R H ρ Δ σ S Q q xk => ha B R0 R H ρ Δ σ S _ (fun v R1 H1 S1 =>
  h1 B R0 R1 H1 _ _ σ S1 _ (fun R2 H2 S2 => h2 B R0 R2 H2 _ _ σ S2 _ (fun R3 H3 S3 => by
    obtain ⟨a, vs, rfl, ha3, hp⟩ := sx_top' S3
    refine ⟨a, vs, rfl, SqL.of (sx_same S3 _ _ ha3), fun p np => ?_⟩
    have hl := Paired.length hp
    unfold cutV
    rw [hl]
    exact q _ R3 _ (sx_newl (sx_pop S3) np (paired_take _ (paired_drop _ hp)))) xk.push1) xk.push1) xk
theorem eo_none : ∀ B R0 R H ρ Δ σ, Sx c.Z B R0 R H ρ Δ σ Γ → ∀ Q : Option Int → Hp → Prop, (∀ R' H', Sx c.Z B R0 R' H' ρ Δ σ Γ → Q none H') → Xok c B R0 ρ Δ → tNoPart σ H Q := fun B R0 R H ρ Δ σ S Q q _ => q R H S
theorem eo_some {i : Int} (h : Ev c Γ te (.im i)) : ∀ B R0 R H ρ Δ σ, Sx c.Z B R0 R H ρ Δ σ Γ → ∀ Q : Option Int → Hp → Prop, (∀ R' H', Sx c.Z B R0 R' H' ρ Δ σ Γ → Q (some i) H') → Xok c B R0 ρ Δ → tPart te σ H Q := fun B R0 R H ρ Δ σ S Q q xk =>
  h B R0 R H ρ Δ σ S _ (fun v R1 H1 S1 => ⟨i, sx_top' S1, q R1 H1 (sx_pop S1)⟩) xk
theorem sIx_of {n d : Nat} {i : Int} (h : 0 ≤ i) : HT.sIx n d (some i) = min i.toNat n := by
  unfold HT.sIx
  simp only []
  split <;> omega
/-- xs[lo:hi] -/
theorem ev_cut {xs : List α} {lo hi : Int} (ha : Ev c Γ ta (.im xs)) (h1 : Ev c Γ tb (.im lo)) (h2 : Ev c Γ te (.im hi)) (h0 : 0 ≤ lo) (h3 : 0 ≤ hi) : Ev c Γ (tSl (rSlL c.Z.K) ta (tPart tb) (tPart te)) (.ol ((xs.take hi.toNat).drop lo.toNat)) := by
  refine ev_is (ev_slice ha (eo_some h1) (eo_some h2)) (congrArg Sl.ol ?_)
  rw [sIx_of h0, sIx_of h3, List.drop_take]
  apply List.ext_getElem?
  intro k
  simp only [List.getElem?_take, List.getElem?_drop]
  grind
theorem ev_cutTo {xs : List α} {hi : Int} (ha : Ev c Γ ta (.im xs)) (h2 : Ev c Γ te (.im hi)) (h3 : 0 ≤ hi) : Ev c Γ (tSl (rSlL c.Z.K) ta tNoPart (tPart te)) (.ol (xs.take hi.toNat)) := by
  refine ev_is (ev_slice ha eo_none (eo_some h2)) (congrArg Sl.ol ?_)
  rw [sIx_of h3]
  apply List.ext_getElem?
  intro k
  simp only [List.getElem?_take, List.getElem?_drop, HT.sIx]
  grind
theorem ev_cutFrom {xs : List α} {lo : Int} (ha : Ev c Γ ta (.im xs)) (h1 : Ev c Γ tb (.im lo)) (h0 : 0 ≤ lo) : Ev c Γ (tSl (rSlL c.Z.K) ta (tPart tb) tNoPart) (.ol (xs.drop lo.toNat)) := by
  refine ev_is (ev_slice ha (eo_some h1) eo_none) (congrArg Sl.ol ?_)
  rw [sIx_of h0]
  apply List.ext_getElem?
  intro k
  simp only [List.getElem?_take, List.getElem?_drop, HT.sIx]
  grind
end
end TB

/-! TbY: enumerate, zip; own classes' fields; groups. -/
namespace TB
open PySem L2
section
variable {c : Cn} {Γ : List Sl} {ta tb te tl : TE} {tt tc : TT} {t u : TS} {s : Sl} {α β γ : Type} {_ : Rp α} {_ : Rp β} {_ : Rp γ} {P : Po}
theorem ei_enum {xs : List α} {a b : Nat} (h : Ev c Γ tl (.im xs)) : EvI c Γ (iEnum c.Z.K (tCons tl tNil)) (gTup c.Z.K 2 (gCons (gName a) (gCons (gName b) gNil))) xs.length (fun i G => (G.set a (.im (i : Int))).set b (.im (xs.getD i Rp.df))) [a, b] := fun B R0 R H ρ Δ σ S K k x =>
  h B R0 R H ρ Δ σ S _ (fun v R1 H1 S1 => by
    have rv := sx_top' S1
    obtain ⟨l, vs, rfl, ha, hp⟩ := id rv
    refine ⟨l, vs, rfl, SqL.of (sx_same S1 _ _ ha), k (Ite c.Z.K l) R1 H1 [some (.ref l)] [.im xs] rfl S1 ⟨fun i G vs3 hj => by rw [wipeG_set (hj b (by simp)), wipeG_set (hj a (by simp))], fun {R2 H2 ρx Δx σ2 Γ2 i} hx S2 hi => ?_, fun {R2 H2 ρx Δx σ2 Γ2} hx S2 => ?_, fun {R2 H2 ρx Δx σ2 Γ2 i y H'} hx S2 hi hy K' kk => ?_⟩⟩
    · obtain ⟨a2, vs2, e2, ha2, hp2⟩ := sx_top' (sx_drop hx S2)
      cases e2
      obtain ⟨w, hw, _⟩ := paired_get hp2 (b := xs[i]) (i := i) (by simp [hi])
      exact ⟨vs2, w, SqL.of (sx_same S2 _ _ ha2), hw⟩
    · obtain ⟨a2, vs2, e2, ha2, hp2⟩ := sx_top' (sx_drop hx S2)
      cases e2
      exact ⟨vs2, SqL.of (sx_same S2 _ _ ha2), by rw [Paired.length hp2]; exact Nat.le_refl _⟩
    · obtain ⟨a2, vs2, e2, ha2, hp2⟩ := sx_top' (sx_drop hx S2)
      cases e2
      obtain ⟨T, w, rfl, hT, rfl, hy⟩ := hy
      have hy' := hy vs2 (SqL.of (sx_same S2 _ _ ha2))
      obtain ⟨z, hz, rz⟩ := paired_getL hp2 hy'
      have e3 : xs.getD i Rp.df = z := by rw [List.getD_eq_getElem?_getD, hz]; rfl
      refine ⟨T, [.int (i : Nat), w], rfl, SqT.of upd_same, rfl, _, _, rfl, _, _, rfl, rfl, ?_⟩
      refine kk R2 _ _ ?_ fun vs3 hj => by rw [wipe_set (hj b (by simp)), wipe_set (hj a (by simp))]
      refine sx_asg (sx_push (sx_asg (sx_push (sx_alloc S2 hT _) (show Rp.rp c.Z R2 (V.int (i : Int)) (i : Int) from rfl)) a) (d := xs.getD i Rp.df) ?_) b
      rw [e3]
      exact rz) x
theorem ei_zip {xs : List α} {ys : List β} {a b : Nat} (h : Ev c Γ tl (.im xs)) (h2 : Ev c Γ te (.im ys)) : EvI c Γ (iZip c.Z.K (tCons tl (tCons te tNil))) (gTup c.Z.K 2 (gCons (gName a) (gCons (gName b) gNil))) (min xs.length ys.length) (fun i G => (G.set a (.im (xs.getD i Rp.df))).set b (.im (ys.getD i Rp.df))) [a, b] := fun B R0 R H ρ Δ σ S K k x =>
  h B R0 R H ρ Δ σ S _ (fun v R1 H1 S1 => h2 B R0 R1 H1 _ _ σ S1 _ (fun v2 R3 H3 S3 => by
    obtain ⟨l, vs, rfl, ha, hp⟩ := id (sx_top' (sx_pop S3))
    obtain ⟨l2, vs2, rfl, ha2, hp2⟩ := id (sx_top' S3)
    refine ⟨l, l2, vs, vs2, rfl, SqL.of (sx_same S3 _ _ ha), SqL.of (sx_same S3 _ _ ha2), k (Itz c.Z.K l l2) R3 H3 [some (.ref l2), some (.ref l)] [.im ys, .im xs] rfl S3 ⟨fun i G vs3 hj => by rw [wipeG_set (hj b (by simp)), wipeG_set (hj a (by simp))], fun {R2 H2 ρx Δx σ2 Γ2 i} hx S2 hi => ?_, fun {R2 H2 ρx Δx σ2 Γ2} hx S2 => ?_, fun {R2 H2 ρx Δx σ2 Γ2 i y H'} hx S2 hi hy K' kk => ?_⟩⟩
    all_goals
      have S2' := sx_drop hx S2
      obtain ⟨q1, ws1, e1, g1, p1⟩ := sx_top' (sx_pop S2')
      cases e1
      obtain ⟨q2, ws2, e2, g2, p2⟩ := sx_top' S2'
      cases e2
      have l1 := Paired.length p1
      have l2 := Paired.length p2
      have s1 := sx_same S2 _ _ g1
      have s2 := sx_same S2 _ _ g2
    · obtain ⟨w, hw, _⟩ := paired_get p1 (b := xs[i]'(by omega)) (i := i) (by simp)
      obtain ⟨w2, hw2, _⟩ := paired_get p2 (b := ys[i]'(by omega)) (i := i) (by simp)
      exact ⟨ws1, ws2, w, w2, SqL.of s1, SqL.of s2, hw, hw2⟩
    · exact ⟨ws1, ws2, SqL.of s1, SqL.of s2, by omega⟩
    · obtain ⟨T, w, w2, rfl, hT, rfl, hy, hy2⟩ := hy
      obtain ⟨z, hz, rz⟩ := paired_getL p1 (hy ws1 (SqL.of s1))
      obtain ⟨z2, hz2, rz2⟩ := paired_getL p2 (hy2 ws2 (SqL.of s2))
      have e3 : xs.getD i Rp.df = z := by rw [List.getD_eq_getElem?_getD, hz]; rfl
      have e4 : ys.getD i Rp.df = z2 := by rw [List.getD_eq_getElem?_getD, hz2]; rfl
      refine ⟨T, [w, w2], rfl, SqT.of upd_same, rfl, _, _, rfl, _, _, rfl, rfl, ?_⟩
      refine kk R2 _ _ ?_ fun vs3 hj => by rw [wipe_set (hj b (by simp)), wipe_set (hj a (by simp))]
      refine sx_asg (sx_push (sx_asg (sx_push (sx_alloc S2 hT _) (d := xs.getD i Rp.df) (by rw [e3]; exact rz)) a) (d := ys.getD i Rp.df) ?_) b
      rw [e4]
      exact rz2) x.push1) x
/-! fields -/
/-- o.f, told by what o's rep says -/
theorem ev_fld {o : α} {d : β} {f : Str} (h : Ev c Γ te (.im o)) (hf : ∀ R v, Rp.rp c.Z R v o → ∃ a C dx fs w, v = .ref a ∧ R a = some (.ins C dx fs) ∧ Cls c.Z.K C ∧ NoAttr c.Z.K C f ∧ fs.lookup f = some w ∧ Rp.rp c.Z R w d) : Ev c Γ (tFld c.Z.K te f) (.im d) := fun B R0 R H ρ Δ σ S Q q x =>
  h B R0 R H ρ Δ σ S _ (fun v R1 H1 S1 => by
    obtain ⟨a, C, dx, fs, w, rfl, h1, h2, h3, h4, h5⟩ := hf R1 v (sx_top' S1)
    exact ⟨a, C, dx, fs, w, rfl, sx_same S1 _ _ h1, h2, h3, h4, q w R1 H1 (sx_push (sx_pop S1) h5)⟩) x
end
/-! ### groups -/
structure Grp where
  many : Int
  rows : List (List Int)
  unit : Int
  backs : List Int
/-- what the written part says of the class -/
structure GrpC (Z : Zz) : Prop where
  cl : Cls Z.K (Z.cls .Group)
  n1 : NoAttr Z.K (Z.cls .Group) "many"
  n2 : NoAttr Z.K (Z.cls .Group) "rows"
  n3 : NoAttr Z.K (Z.cls .Group) "unit"
  n4 : NoAttr Z.K (Z.cls .Group) "backs"
def flG (m r u b : V) : List (Str × V) := [("many", m), ("rows", r), ("unit", u), ("backs", b)]
instance : Rp Grp := ⟨⟨0, [], 0, []⟩, fun Z H v g => GrpC Z ∧ ∃ a dx m r u b, v = .ref a ∧ H a = some (.ins (Z.cls .Group) dx (flG m r u b)) ∧ Rp.rp Z H m g.many ∧ Rp.rp Z H r g.rows ∧ Rp.rp Z H u g.unit ∧ Rp.rp Z H b g.backs,
  fun e h => by
    obtain ⟨h0, a, dx, m, r, u, b, h1, h2, h3, h4, h5, h6⟩ := h
    exact ⟨h0, a, dx, m, r, u, b, h1, e _ _ h2, Rp.mono e h3, Rp.mono e h4, Rp.mono e h5, Rp.mono e h6⟩⟩
theorem lookup_at {f g : Str} {v : V} {fs : List (Str × V)} (h : ¬ f = g) : ((f, v) :: fs).lookup g = fs.lookup g := by
  have : (g == f) = false := by simpa using fun e => h e.symm
  simp [List.lookup, this]
theorem lookup_here {f : Str} {v : V} {fs : List (Str × V)} : ((f, v) :: fs).lookup f = some v := by simp [List.lookup]
theorem flG1 (m r u b : V) : (flG m r u b).lookup ("many" : Str) = some m := lookup_here
theorem flG2 (m r u b : V) : (flG m r u b).lookup ("rows" : Str) = some r := by
  unfold flG
  rw [lookup_at (by decide +kernel), lookup_here]
theorem flG3 (m r u b : V) : (flG m r u b).lookup ("unit" : Str) = some u := by
  unfold flG
  rw [lookup_at (by decide +kernel), lookup_at (by decide +kernel), lookup_here]
theorem flG4 (m r u b : V) : (flG m r u b).lookup ("backs" : Str) = some b := by
  unfold flG
  rw [lookup_at (by decide +kernel), lookup_at (by decide +kernel), lookup_at (by decide +kernel), lookup_here]
section
variable {c : Cn} {Γ : List Sl} {ta tb te tl : TE} {g : Grp}
theorem ev_many (h : Ev c Γ te (.im g)) : Ev c Γ (tFld c.Z.K te "many") (.im g.many) := ev_fld h fun R v ⟨h0, a, dx, m, r, u, b, h1, h2, h3, h4, h5, h6⟩ => ⟨a, _, dx, _, m, h1, h2, h0.cl, h0.n1, flG1 .., h3⟩
theorem ev_rows (h : Ev c Γ te (.im g)) : Ev c Γ (tFld c.Z.K te "rows") (.im g.rows) := ev_fld h fun R v ⟨h0, a, dx, m, r, u, b, h1, h2, h3, h4, h5, h6⟩ => ⟨a, _, dx, _, r, h1, h2, h0.cl, h0.n2, flG2 .., h4⟩
theorem ev_unit (h : Ev c Γ te (.im g)) : Ev c Γ (tFld c.Z.K te "unit") (.im g.unit) := ev_fld h fun R v ⟨h0, a, dx, m, r, u, b, h1, h2, h3, h4, h5, h6⟩ => ⟨a, _, dx, _, u, h1, h2, h0.cl, h0.n3, flG3 .., h5⟩
theorem ev_backs (h : Ev c Γ te (.im g)) : Ev c Γ (tFld c.Z.K te "backs") (.im g.backs) := ev_fld h fun R v ⟨h0, a, dx, m, r, u, b, h1, h2, h3, h4, h5, h6⟩ => ⟨a, _, dx, _, b, h1, h2, h0.cl, h0.n4, flG4 .., h6⟩
/-- Group.__init__ -/
def spI_Group (Z : Zz) : Sp := fun vs H Q _ => ∃ x dx l xs u b, vs = [.ref x, .ref l, u, b] ∧ H x = some (.ins (Z.cls .Group) dx []) ∧ H l = some (.lst xs) ∧ GrpC Z ∧
  ∀ H', H' x = some (.ins (Z.cls .Group) dx (flG (.int xs.length) (.ref l) u b)) → (∀ p, p ≠ x → H' p = H p) → Q .non H'
theorem ev_mkGroup {rows : List (List Int)} {unit : Int} {backs : List Int} {t : TA} (hZ : GrpC c.Z) (ha : EvA c Γ t [.im rows, .im unit, .im backs]) : Ev c Γ (tMake (c.Z.cls .Group) (spI_Group c.Z) [] E0 t) (.im (⟨rows.length, rows, unit, backs⟩ : Grp)) := fun B R0 R H ρ Δ σ S Q q xk =>
  ha B R0 R H ρ Δ σ S _ (fun vs R1 H1 S1 sl => by
    intro x dx nx ndx hne
    cases sl with
    | cons r1 t1 =>
      cases t1 with
      | cons r2 t2 =>
        cases t2 with
        | cons r3 t3 =>
          cases t3
          rename_i v1 v2 v3
          obtain ⟨l, xs, rfl, hl, hp⟩ := id r1
          have hl1 := sx_same S1 _ _ hl
          have nlx : l ≠ x := fun e => by subst e; rw [nx] at hl1; cases hl1
          have nld : l ≠ dx := fun e => by subst e; rw [ndx] at hl1; cases hl1
          refine ⟨x, dx, l, xs, v2, v3, rfl, upd_same, by rw [upd_ne nlx, upd_ne nld]; exact hl1, hZ, fun H2 h1 h2 => ⟨rfl, ?_⟩⟩
          obtain ⟨S2, e2⟩ := sx_froz S1 ndx (.own x)
          have nx2 : (upd H1 dx (.own x)) x = none := by rw [upd_ne (Ne.symm hne)]; exact nx
          obtain ⟨S3, e3⟩ := sx_froz S2 nx2 (.ins (c.Z.cls .Group) dx (flG (.int xs.length) (.ref l) v2 v3))
          have eH : H2 = upd (upd H1 dx (.own x)) x (.ins (c.Z.cls .Group) dx (flG (.int xs.length) (.ref l) v2 v3)) := by
            funext p
            by_cases hp : p = x
            · subst hp; rw [h1, upd_same]
            · rw [h2 p hp, upd_ne hp, upd_ne hp]
          rw [eH]
          have e := e2.trans e3
          refine q _ _ _ (sx_push S3 ⟨hZ, x, dx, _, _, _, _, rfl, upd_same, by rw [Paired.length hp]; rfl, Rp.mono e r1, Rp.mono e r2, Rp.mono e r3⟩)) xk
end
/-- the body: self.many = len(rows); self.rows = rows; self.unit = unit; self.backs = backs -/
theorem pure_Group_init {Z : Zz} {N : List Str} (hN : N.length = 4) (vs : List V) (H : Hp) (Q : VK) (E : XK) (h : spI_Group Z vs H Q E) :
    (tSeq (sFld Z.K (tVar 0) (tCB (gLen Z.K) (tCons (tVar 1) tNil)) "many") (tSeq (sFld Z.K (tVar 0) (tVar 1) "rows") (tSeq (sFld Z.K (tVar 0) (tVar 2) "unit") (sFld Z.K (tVar 0) (tVar 3) "backs")))) { nx := fun _ H' => Q .non H', rt := Q } (L2.start N vs) H := by
  obtain ⟨x, dx, l, xs, u, b, rfl, hx, hl, hZ, k⟩ := h
  have nlx : l ≠ x := fun e => by subst e; rw [hx] at hl; cases hl
  refine ⟨.ref l, rfl, .ref l, xs.length, rfl, .inl ⟨xs, SqL.of hl, rfl⟩, .ref x, rfl, x, _, dx, [], rfl, hx, hZ.cl, hZ.n1, by decide, ?_⟩
  refine ⟨.ref l, rfl, .ref x, rfl, x, _, dx, _, rfl, upd_same, hZ.cl, hZ.n2, by simp [putF], ?_⟩
  refine ⟨u, rfl, .ref x, rfl, x, _, dx, _, rfl, upd_same, hZ.cl, hZ.n3, by simp only [putF]; split <;> simp, ?_⟩
  have n12 : ¬ (("many" : Str) = "rows") := by decide +kernel
  have n13 : ¬ (("many" : Str) = "unit") := by decide +kernel
  have n23 : ¬ (("rows" : Str) = "unit") := by decide +kernel
  have n14 : ¬ (("many" : Str) = "backs") := by decide +kernel
  have n24 : ¬ (("rows" : Str) = "backs") := by decide +kernel
  have n34 : ¬ (("unit" : Str) = "backs") := by decide +kernel
  have e3 : putF "unit" u (putF "rows" (.ref l) (putF "many" (.int xs.length) [])) = ([("many", .int xs.length), ("rows", .ref l), ("unit", u)] : List (Str × V)) := by
    simp only [putF, if_neg n12, if_neg n13, if_neg n23]
  have e4 : putF "backs" b (putF "unit" u (putF "rows" (.ref l) (putF "many" (.int xs.length) []))) = flG (.int xs.length) (.ref l) u b := by
    rw [e3]
    simp only [putF, if_neg n14, if_neg n24, if_neg n34]
    rfl
  refine ⟨b, rfl, .ref x, rfl, x, _, dx, _, rfl, upd_same, hZ.cl, hZ.n4, by rw [e3]; simp, ?_⟩
  refine k _ (by rw [upd_same, e4]) fun p hp => by rw [upd_ne hp, upd_ne hp, upd_ne hp, upd_ne hp]
end TB
namespace TB
open PySem L2
section
variable {α β γ δ ε : Type} [Rp α] [Rp β] [Rp γ] [Rp δ] [Rp ε]
def tm0 (F : (Sl → Prop) → (Rf → Prop) → Prop) : Tm := fun ss ok er => ss = [] ∧ F ok er
def tm1 (F : α → (Sl → Prop) → (Rf → Prop) → Prop) : Tm := fun ss ok er => ∃ a, ss = [.im a] ∧ F a ok er
def tm2 (F : α → β → (Sl → Prop) → (Rf → Prop) → Prop) : Tm := fun ss ok er => ∃ a b, ss = [.im a, .im b] ∧ F a b ok er
def tm3 (F : α → β → γ → (Sl → Prop) → (Rf → Prop) → Prop) : Tm := fun ss ok er => ∃ a b c, ss = [.im a, .im b, .im c] ∧ F a b c ok er
def tm4 (F : α → β → γ → δ → (Sl → Prop) → (Rf → Prop) → Prop) : Tm := fun ss ok er => ∃ a b c d, ss = [.im a, .im b, .im c, .im d] ∧ F a b c d ok er
def tm5 (F : α → β → γ → δ → ε → (Sl → Prop) → (Rf → Prop) → Prop) : Tm := fun ss ok er => ∃ a b c d e, ss = [.im a, .im b, .im c, .im d, .im e] ∧ F a b c d e ok er
end
theorem spOf_len {Z : Zz} {T : Tm} {n : Nat} (h : ∀ ss ok er, T ss ok er → ss.length = n) (vs : List V) (H : Hp) (Q : VK) (E : XK) (hs : spOf Z T vs H Q E) : vs.length = n := by
  obtain ⟨R, ss, ok, er, _, sl, hT, _⟩ := hs
  rw [← h ss ok er hT]
  clear hT
  induction sl with
  | nil => rfl
  | cons r t ih => simp [ih]
/-- a body's judgement at its entry -/
abbrev WF (Z : Zz) (X : WX) (er : Rf → Prop) (Γ : List Sl) (t : TS) (ok : Sl → Prop) : Prop := W ⟨Z, X, fun r _ => er r⟩ Γ t ⟨fun _ => ok (.im ()), ok, fun _ => False, fun _ => False⟩
end TB
namespace TB
open PySem L2
theorem getD_eq {α : Type} {l : List α} {i : Nat} {d : α} (h : i < l.length) : l.getD i d = l[i] := by simp [h]
section
variable {c : Cn} {Γ : List Sl} {ta tb te tl : TE} {tt tc : TT} {t u : TS} {s : Sl} {α β γ : Type} {_ : Rp α} {_ : Rp β} {_ : Rp γ} {P : Po}
theorem w_forL {xs : List α} {j : Nat} (I : Nat → List Sl → Prop) (h : Ev c Γ tl (.im xs)) (h0 : I 0 Γ) (hs : ∀ i G (hi : i < xs.length), I i G → W c (G.set j (.im xs[i])) t ⟨I (i + 1), P.rt, P.nx, I (i + 1)⟩) (hd : ∀ G, I xs.length G → P.nx G) :
    W c Γ (tFor (iList c.Z.K tl) (gName j) t) P := w_for I (ei_list h) h0 (fun i G hi hI => by
  have q := hs i G hi hI
  rw [← getD_eq (d := Rp.df) hi] at q
  exact q) hd
theorem w_forS {l : Scr} {j : Nat} (I : Nat → List Sl → Prop) (h : Ev c Γ tl (.im l)) (h0 : I 0 Γ) (hs : ∀ i G (hi : i < l.l.length), I i G → W c (G.set j (.im l.l[i])) t ⟨I (i + 1), P.rt, P.nx, I (i + 1)⟩) (hd : ∀ G, I l.l.length G → P.nx G) :
    W c Γ (tFor (iList c.Z.K tl) (gName j) t) P := w_for I (ei_scr h) h0 (fun i G hi hI => by
  have q := hs i G hi hI
  rw [← getD_eq (d := 0) hi] at q
  exact q) hd
theorem w_forE {xs : List α} {a b : Nat} (I : Nat → List Sl → Prop) (h : Ev c Γ tl (.im xs)) (h0 : I 0 Γ) (hs : ∀ i G (hi : i < xs.length), I i G → W c ((G.set a (.im (i : Int))).set b (.im xs[i])) t ⟨I (i + 1), P.rt, P.nx, I (i + 1)⟩) (hd : ∀ G, I xs.length G → P.nx G) :
    W c Γ (tFor (iEnum c.Z.K (tCons tl tNil)) (gTup c.Z.K 2 (gCons (gName a) (gCons (gName b) gNil))) t) P := w_for I (ei_enum h) h0 (fun i G hi hI => by
  have q := hs i G hi hI
  rw [← getD_eq (d := Rp.df) hi] at q
  exact q) hd
theorem w_forZ {xs : List α} {ys : List β} {a b : Nat} (I : Nat → List Sl → Prop) (h : Ev c Γ tl (.im xs)) (h2 : Ev c Γ te (.im ys)) (h0 : I 0 Γ) (hs : ∀ i G (hi : i < xs.length) (hj : i < ys.length), I i G → W c ((G.set a (.im xs[i])).set b (.im ys[i])) t ⟨I (i + 1), P.rt, P.nx, I (i + 1)⟩) (hd : ∀ G, I (min xs.length ys.length) G → P.nx G) :
    W c Γ (tFor (iZip c.Z.K (tCons tl (tCons te tNil))) (gTup c.Z.K 2 (gCons (gName a) (gCons (gName b) gNil))) t) P := w_for I (ei_zip h h2) h0 (fun i G hi hI => by
  have q := hs i G (by omega) (by omega) hI
  rw [← getD_eq (l := xs) (d := Rp.df) (by omega), ← getD_eq (l := ys) (d := Rp.df) (by omega)] at q
  exact q) hd
theorem w_forR {n : Int} {j : Nat} (I : Nat → List Sl → Prop) (h : Ev c Γ te (.im n)) (hn : n < 2 ^ 60) (hn0 : -(2 ^ 60) < n) (h0 : I 0 Γ) (hs : ∀ (i : Nat) G, (i : Int) < n → I i G → W c (G.set j (.im (i : Int))) t ⟨I (i + 1), P.rt, P.nx, I (i + 1)⟩) (hd : ∀ G, I n.toNat G → P.nx G) :
    W c Γ (tFor (iRng1 (tCons te tNil)) (gName j) t) P := w_for I (ei_rng1 h hn hn0) h0 (fun i G hi hI => hs i G (by omega) hI) hd
theorem w_forR2 {m n : Int} {j : Nat} (I : Nat → List Sl → Prop) (h1 : Ev c Γ ta (.im m)) (h : Ev c Γ te (.im n)) (hm : -(2 ^ 60) < m ∧ m < 2 ^ 60) (hn : n < 2 ^ 60 ∧ -(2 ^ 60) < n) (h0 : I 0 Γ) (hs : ∀ (i : Nat) G, m + (i : Int) < n → I i G → W c (G.set j (.im (m + (i : Int)))) t ⟨I (i + 1), P.rt, P.nx, I (i + 1)⟩) (hd : ∀ G, I (n - m).toNat G → P.nx G) :
    W c Γ (tFor (iRng2 (tCons ta (tCons te tNil))) (gName j) t) P := w_for I (ei_rng2 h1 h hm hn) h0 (fun i G hi hI => hs i G (by omega) hI) hd
/-- comprehensions with all items, none left out: the mapped list -/
theorem kept_all {α : Type} {f : Nat → α} : ∀ n, kept (fun _ => true) f n = (List.range n).map f := fun n => congrArg (List.map f) (List.filter_eq_self.2 fun _ _ => rfl)
theorem ev_mapL {xs : List α} {j : Nat} {vs : List Nat} (f : α → β) (h : Ev c Γ tl (.im xs)) (hn : xs.length < 1000000) (hj : j ∈ vs) (hu : UnAt Γ vs) (he : ∀ x, x ∈ xs → Ev c.no (Γ.set j (.im x)) te (.im (f x))) : Ev c Γ (tLc (iList c.Z.K tl) (gName j) tYes te vs) (.ol (xs.map f)) := by
  refine ev_is (ev_lc (fun _ => true) (fun i => f (xs.getD i Rp.df)) (ei_list h) hn (fun k hk => by simp at hk; rw [hk]; exact hj) hu (fun i hi => fun B R0 R H ρ Δ σ S Q q _ => q R H S) (fun i hi _ => he _ (by rw [getD_eq hi]; exact List.getElem_mem hi))) ?_
  rw [kept_all]
  refine congrArg Sl.ol (List.ext_getElem (by simp) fun i h1 h2 => ?_)
  simp at h1
  simp [h1]
theorem filter_range_map {α : Type} (xs : List α) (d : α) (p : α → Bool) : ((List.range xs.length).filter fun i => p (xs.getD i d)).map (fun i => xs.getD i d) = xs.filter p := by
  induction xs with
  | nil => rfl
  | cons a r ih =>
    rw [List.length_cons, List.range_succ_eq_map, List.filter_cons]
    have e0 : (a :: r).getD 0 d = a := rfl
    have e1 : ∀ i, (a :: r).getD (i + 1) d = r.getD i d := fun i => rfl
    rw [e0]
    have e2 : List.map (fun i => (a :: r).getD i d) (List.filter (fun i => p ((a :: r).getD i d)) (List.map Nat.succ (List.range r.length))) = r.filter p := by
      rw [List.filter_map, List.map_map]
      exact ih
    rw [List.filter_cons]
    by_cases h : p a = true
    · rw [if_pos h, if_pos h, List.map_cons, e0, e2]
    · rw [if_neg h, if_neg h, e2]
theorem ev_filtL {xs : List α} {j : Nat} {vs : List Nat} (p : α → Bool) (f : α → β) (h : Ev c Γ tl (.im xs)) (hn : xs.length < 1000000) (hj : j ∈ vs) (hu : UnAt Γ vs) (ht : ∀ x, x ∈ xs → EvT c.no (Γ.set j (.im x)) tt (p x)) (he : ∀ x, x ∈ xs → p x = true → Ev c.no (Γ.set j (.im x)) te (.im (f x))) :
    Ev c Γ (tLc (iList c.Z.K tl) (gName j) tt te vs) (.ol ((xs.filter p).map f)) := by
  refine ev_is (ev_lc (fun i => p (xs.getD i Rp.df)) (fun i => f (xs.getD i Rp.df)) (ei_list h) hn (fun k hk => by simp at hk; rw [hk]; exact hj) hu (fun i hi => ht _ (by rw [getD_eq hi]; exact List.getElem_mem hi)) (fun i hi hp => he _ (by rw [getD_eq hi]; exact List.getElem_mem hi) hp)) (congrArg Sl.ol ?_)
  unfold kept
  rw [← filter_range_map xs Rp.df p, List.map_map]
  rfl
/-- over the script -/
theorem ev_mapS {l : Scr} {j : Nat} {vs : List Nat} (f : Int → β) (h : Ev c Γ tl (.im l)) (hn : l.l.length < 1000000) (hj : j ∈ vs) (hu : UnAt Γ vs) (he : ∀ x, x ∈ l.l → Ev c.no (Γ.set j (.im x)) te (.im (f x))) : Ev c Γ (tLc (iList c.Z.K tl) (gName j) tYes te vs) (.ol (l.l.map f)) := by
  refine ev_is (ev_lc (fun _ => true) (fun i => f (l.l.getD i 0)) (ei_scr h) hn (fun k hk => by simp at hk; rw [hk]; exact hj) hu (fun i hi => fun B R0 R H ρ Δ σ S Q q _ => q R H S) (fun i hi _ => he _ (by rw [getD_eq hi]; exact List.getElem_mem hi))) ?_
  rw [kept_all]
  refine congrArg Sl.ol (List.ext_getElem (by simp) fun i h1 h2 => ?_)
  simp at h1
  simp [h1]
theorem ev_mapR {n : Int} {j : Nat} {vs : List Nat} (f : Int → β) (h : Ev c Γ ta (.im n)) (hn : n < 1000000) (hn0 : -1000000 < n) (hj : j ∈ vs) (hu : UnAt Γ vs) (he : ∀ i : Int, 0 ≤ i → i < n → Ev c.no (Γ.set j (.im i)) te (.im (f i))) : Ev c Γ (tLc (iRng1 (tCons ta tNil)) (gName j) tYes te vs) (.ol ((irange n).map f)) := by
  refine ev_is (ev_lc (fun _ => true) (fun i => f (i : Int)) (ei_rng1 h (by omega) (by omega)) (by omega) (fun k hk => by simp at hk; rw [hk]; exact hj) hu (fun i hi => fun B R0 R H ρ Δ σ S Q q _ => q R H S) (fun i hi _ => he _ (by omega) (by omega))) ?_
  rw [kept_all]
  unfold irange
  rw [List.map_map]
  rfl
theorem ev_filtR {n : Int} {j : Nat} {vs : List Nat} (p : Int → Bool) (f : Int → β) (h : Ev c Γ ta (.im n)) (hn : n < 1000000) (hn0 : -1000000 < n) (hj : j ∈ vs) (hu : UnAt Γ vs) (ht : ∀ i : Int, 0 ≤ i → i < n → EvT c.no (Γ.set j (.im i)) tt (p i)) (he : ∀ i : Int, 0 ≤ i → i < n → p i = true → Ev c.no (Γ.set j (.im i)) te (.im (f i))) :
    Ev c Γ (tLc (iRng1 (tCons ta tNil)) (gName j) tt te vs) (.ol (((irange n).filter p).map f)) := by
  refine ev_is (ev_lc (fun i => p (i : Int)) (fun i => f (i : Int)) (ei_rng1 h (by omega) (by omega)) (by omega) (fun k hk => by simp at hk; rw [hk]; exact hj) hu (fun i hi => ht _ (by omega) (by omega)) (fun i hi hp => he _ (by omega) (by omega) hp)) (congrArg Sl.ol ?_)
  unfold irange kept
  rw [List.filter_map, List.map_map]
  rfl
end
theorem irange_len (n : Int) : (irange n).length = n.toNat := by unfold irange; simp
theorem mem_irange {n i : Int} : i ∈ irange n ↔ 0 ≤ i ∧ i < n := by
  unfold irange
  simp only [List.mem_map, List.mem_range]
  constructor
  · rintro ⟨k, h, rfl⟩
    omega
  · rintro ⟨h0, h1⟩
    exact ⟨i.toNat, by omega, by omega⟩
theorem irange_get {n : Int} {i : Nat} (h : i < (irange n).length) : (irange n)[i] = (i : Int) := by simp only [irange, List.getElem_map, List.getElem_range]
end TB

/-! TbZ: == of data; isinstance; cuts of the script; calls. -/
namespace TB
open PySem L2
/-- data that == compares -/
class Pd (α : Type) extends Rp α where
  py : α → PyData
  dep : Nat
  dp : ∀ {Z : Zz} {H : Hp} {v : V} {d : α}, rp Z H v d → Dp Z.K H v (py d)
  can : ∀ d, PyData.canLay0 (py d) = true
  low : ∀ d, PyData.depth (py d) ≤ dep
  eqv : ∀ a b, PyData.eqv (py a) (py b) = true ↔ a = b
instance : Pd Int := { py := .int, dep := 0, dp := fun h => (by cases h; exact .int _), can := fun _ => (by simp [PyData.canLay0]), low := fun _ => (by simp [PyData.depth]), eqv := fun a b => (by simp [PyData.eqv]) }
instance : Pd Bool := { py := .bool, dep := 0, dp := fun h => (by cases h; exact .bl _), can := fun _ => (by simp [PyData.canLay0]), low := fun _ => (by simp [PyData.depth]), eqv := fun a b => (by simp [PyData.eqv]) }
theorem dpAll_of {α : Type} [Pd α] {Z : Zz} {H : Hp} : ∀ {vs : List V} {xs : List α}, Paired (Rp.rp Z H) vs xs → DpAll Z.K H vs (xs.map Pd.py)
  | _, _, .nil => .nil
  | _, _, .cons r t => .cons (Pd.dp r) (dpAll_of t)
instance {α : Type} [Pd α] : Pd (List α) where
  py := fun xs => .list (xs.map Pd.py)
  dep := (Pd.dep α) + 1
  dp := fun h => by
    obtain ⟨a, vs, rfl, h2, h3⟩ := h
    exact .lst (SqL.of h2) (dpAll_of h3)
  can := fun d => by
    show PyData.canLay0 (.list (d.map Pd.py)) = true
    rw [PyData.canLay0]
    induction d with
    | nil => simp [PyData.canLayAll0]
    | cons x r ih => simp [PyData.canLayAll0, Pd.can x, ih]
  low := fun d => by
    show PyData.depth (.list (d.map Pd.py)) ≤ Pd.dep α + 1
    rw [PyData.depth]
    have : PyData.depthAll (d.map Pd.py) ≤ Pd.dep α := by
      induction d with
      | nil => simp [PyData.depthAll]
      | cons x r ih =>
        have := Pd.low x
        simp only [List.map_cons, PyData.depthAll]
        omega
    omega
  eqv := fun a b => by
    show PyData.eqv (.list (a.map Pd.py)) (.list (b.map Pd.py)) = true ↔ a = b
    rw [PyData.eqv]
    induction a generalizing b with
    | nil => cases b <;> simp [PyData.eqvAll]
    | cons x r ih =>
      cases b with
      | nil => simp [PyData.eqvAll]
      | cons y t => simp [PyData.eqvAll, Pd.eqv, ih]
instance {α β : Type} [Pd α] [Pd β] : Pd (α × β) where
  py := fun p => .tuple [Pd.py p.1, Pd.py p.2]
  dep := max (Pd.dep α) (Pd.dep β) + 1
  dp := fun h => by
    obtain ⟨a, x, y, rfl, h2, h3, h4⟩ := h
    exact .tup (SqT.of h2) (.cons (Pd.dp h3) (.cons (Pd.dp h4) .nil))
  can := fun d => by simp [PyData.canLay0, PyData.canLayAll0, Pd.can]
  low := fun d => by
    have h1 := Pd.low d.1
    have h2 := Pd.low d.2
    simp only [PyData.depth, PyData.depthAll]
    omega
  eqv := fun a b => by simp [PyData.eqv, PyData.eqvAll, Pd.eqv, Prod.ext_iff]
section
variable {c : Cn} {Γ : List Sl} {ta tb te tl : TE} {tt tc : TT} {t u : TS} {s : Sl} {α β γ : Type} {P : Po}
theorem rEqD_of [Pd α] {Z : Zz} {H : Hp} {v w : V} {x y : α} {Q : VK} (h : Rp.rp Z H v x) (h' : Rp.rp Z H w y) (hd : Pd.dep α ≤ 64) (q : Q (.bl (PyData.eqv (Pd.py x) (Pd.py y))) H) : rEqD Z.K v w H Q :=
  ⟨Pd.py x, Pd.py y, Pd.dp h, Pd.dp h', by simp [SeqAt.shaped, Pd.can, Nat.le_trans (Pd.low x) hd], by simp [SeqAt.shaped, Pd.can, Nat.le_trans (Pd.low y) hd], q⟩
theorem rNeD_of [Pd α] {Z : Zz} {H : Hp} {v w : V} {x y : α} {Q : VK} (h : Rp.rp Z H v x) (h' : Rp.rp Z H w y) (hd : Pd.dep α ≤ 64) (q : Q (.bl (!PyData.eqv (Pd.py x) (Pd.py y))) H) : rNeD Z.K v w H Q :=
  ⟨Pd.py x, Pd.py y, Pd.dp h, Pd.dp h', by simp [SeqAt.shaped, Pd.can, Nat.le_trans (Pd.low x) hd], by simp [SeqAt.shaped, Pd.can, Nat.le_trans (Pd.low y) hd], q⟩
theorem eqv_dec [Pd α] [DecidableEq α] (x y : α) : PyData.eqv (Pd.py x) (Pd.py y) = decide (x = y) := by
  have := Pd.eqv x y
  by_cases h : x = y
  · rw [decide_eq_true h]; exact this.mpr h
  · rw [decide_eq_false h]
    cases e : PyData.eqv (Pd.py x) (Pd.py y) with
    | false => rfl
    | true => exact absurd (this.mp e) h
theorem ev_eqD [Pd α] [DecidableEq α] {x y : α} (ha : Ev c Γ ta (.im x)) (hb : Ev c Γ tb (.im y)) (hd : Pd.dep α ≤ 64) : Ev c Γ (tOp (gEq c.Z.K) ta tb) (.im (decide (x = y))) := ev_opv ha hb fun R H v w sm rv rw => ⟨.bl _, rfl, fun Q q =>
  .inr (rEqD_of (Rp.mono sm rv) (Rp.mono sm rw) hd (by rw [eqv_dec]; exact q))⟩
theorem ev_neD [Pd α] [DecidableEq α] {x y : α} (ha : Ev c Γ ta (.im x)) (hb : Ev c Γ tb (.im y)) (hd : Pd.dep α ≤ 64) : Ev c Γ (tOp (gNe c.Z.K) ta tb) (.im (!decide (x = y))) := ev_opv ha hb fun R H v w sm rv rw => ⟨.bl _, rfl, fun Q q =>
  .inr (rNeD_of (Rp.mono sm rv) (Rp.mono sm rw) hd (by rw [eqv_dec]; exact q))⟩
theorem ev_eqL {x y : List Int} (ha : Ev c Γ ta (.im x)) (hb : Ev c Γ tb (.im y)) : Ev c Γ (tOp (gEq c.Z.K) ta tb) (.im (decide (x = y))) := ev_eqD ha hb (by decide)
theorem ev_neL {x y : List Int} (ha : Ev c Γ ta (.im x)) (hb : Ev c Γ tb (.im y)) : Ev c Γ (tOp (gNe c.Z.K) ta tb) (.im (!decide (x = y))) := ev_neD ha hb (by decide)
theorem ev_eqLL {x y : List (List Int)} (ha : Ev c Γ ta (.im x)) (hb : Ev c Γ tb (.im y)) : Ev c Γ (tOp (gEq c.Z.K) ta tb) (.im (decide (x = y))) := ev_eqD ha hb (by decide)
theorem ev_neLL {x y : List (List Int)} (ha : Ev c Γ ta (.im x)) (hb : Ev c Γ tb (.im y)) : Ev c Γ (tOp (gNe c.Z.K) ta tb) (.im (!decide (x = y))) := ev_neD ha hb (by decide)
theorem ev_eqP {x y : Int × Int} (ha : Ev c Γ ta (.im x)) (hb : Ev c Γ tb (.im y)) : Ev c Γ (tOp (gEq c.Z.K) ta tb) (.im (decide (x = y))) := ev_eqD ha hb (by decide)
theorem ev_neP {x y : Int × Int} (ha : Ev c Γ ta (.im x)) (hb : Ev c Γ tb (.im y)) : Ev c Γ (tOp (gNe c.Z.K) ta tb) (.im (!decide (x = y))) := ev_neD ha hb (by decide)
theorem w_raise1 {n : CN} {f : Str} {i : Int} (h : Ev c Γ ta (.im i)) (k : c.ex ⟨n, [(f, .int i)]⟩ Γ) : W c Γ (tRaiseN (c.Z.cls n) [f] c.X (tCons ta tNil)) P := w_raiseN n [f] [i] (ea_cons h ea_nil) rfl (by show 1 ≤ 900; decide) (by simp) k
theorem w_raise2 {n : CN} {f g : Str} {i j : Int} (h : Ev c Γ ta (.im i)) (h2 : Ev c Γ tb (.im j)) (k : c.ex ⟨n, [(g, .int j), (f, .int i)]⟩ Γ) : W c Γ (tRaiseN (c.Z.cls n) [f, g] c.X (tCons ta (tCons tb tNil))) P := w_raiseN n [f, g] [i, j] (ea_cons h (ea_cons h2 ea_nil)) rfl (by show 2 ≤ 900; decide) (by simp) k
theorem w_raise3 {n : CN} {f g e : Str} {i j m : Int} (h : Ev c Γ ta (.im i)) (h2 : Ev c Γ tb (.im j)) (h3 : Ev c Γ te (.im m)) (k : c.ex ⟨n, [(e, .int m), (g, .int j), (f, .int i)]⟩ Γ) : W c Γ (tRaiseN (c.Z.cls n) [f, g, e] c.X (tCons ta (tCons tb (tCons te tNil)))) P := w_raiseN n [f, g, e] [i, j, m] (ea_cons h (ea_cons h2 (ea_cons h3 ea_nil))) rfl (by show 3 ≤ 900; decide) (by simp) k
/-! calls whose answers are told by a set -/
def EvS (c : Cn) (Γ : List Sl) (t : TE) (S : Sl → Prop) : Prop := ∀ B R0 R H ρ Δ σ, Sx c.Z B R0 R H ρ Δ σ Γ → ∀ Q : VK, (∀ v s R' H', S s → Sx c.Z B R0 R' H' (some v :: ρ) (s :: Δ) σ Γ → Q v H') → Xok c B R0 ρ Δ → t σ H Q
theorem es_call {T : Tm} {t : TA} {ss : List Sl} {S : Sl → Prop} (ha : EvA c Γ t ss) (hT : T (ss ++ []) S fun r => c.ex r Γ) : EvS c Γ (tCallSD (spOf c.Z T) [] (WE c.X) t) S := fun B R0 R H ρ Δ σ S0 Q q xk => ha B R0 R H ρ Δ σ S0 _ (fun vs R1 H1 S1 sl => by
  refine ⟨R1, ss ++ [], _, _, sx_same S1, slims_append sl .nil, hT, fun v R' H' s' S' e => ?_, fun r cls d H' e rx er => ?_⟩
  · exact q v s' R' H' e (sx_call S1 S')
  · obtain ⟨R2, _, S2, rx2⟩ := sx_callX S1 e rx
    exact xk R2 H' σ Γ r cls d S2 rx2 er) xk
theorem w_asgS {i : Nat} {S : Sl → Prop} (h : EvS c Γ te S) (k : ∀ s, S s → P.nx (Γ.set i s)) : W c Γ (tAsg te (gName i)) P := fun B R0 R H ρ Δ σ D S0 n r b kk x =>
  h B R0 R H ρ Δ σ S0 _ (fun v s R1 H1 e S1 => n R1 H1 _ _ (sx_asg S1 i) (k s e)) x
theorem w_dropS {S : Sl → Prop} (h : EvS c Γ te S) (k : ∀ s, S s → P.nx Γ) : W c Γ (tDrop te) P := fun B R0 R H ρ Δ σ D S0 n r b kk x =>
  h B R0 R H ρ Δ σ S0 _ (fun v s R1 H1 e S1 => n R1 H1 _ _ (sx_pop S1) (k s e)) x
theorem w_retS {S : Sl → Prop} (h : EvS c Γ te S) (k : ∀ s, S s → P.rt s) : W c Γ (tRet te) P := fun B R0 R H ρ Δ σ D S0 n r b kk x =>
  h B R0 R H ρ Δ σ S0 _ (fun v s R1 H1 e S1 => r R1 H1 v s (sx_leave S1) (k s e)) x
/-- a statement, what holds between, the rest -/
theorem w_mid (M : List Sl → Prop) (h : W c Γ t ⟨M, P.rt, P.bk, P.ct⟩) (k : ∀ G, M G → W c G u P) : W c Γ (tSeq t u) P := w_seq (h.imp (fun G q => k G q) (fun _ q => q) (fun _ q => q) (fun _ q => q))
/-! written lists -/
def EvH {α : Type} (c : Cn) (Γ : List Sl) (_ : Rp α) (t : TA) (xs : List α) : Prop := EvA c Γ t (xs.map fun x => .im x)
theorem evh_nil {i : Rp α} : EvH c Γ i tNil ([] : List α) := ea_nil
theorem evh_cons {i : Rp α} {x : α} {xs : List α} {tr : TA} (h : Ev c Γ te (.im x)) (hr : EvH c Γ i tr xs) : EvH c Γ i (tCons te tr) (x :: xs) := ea_cons h hr
theorem ev_lstH {i : Rp α} {xs : List α} {t : TA} (h : EvH c Γ i t xs) (hl : xs.length ≤ 1000) : Ev c Γ (tLst t) (.ol xs) := ev_lst xs h hl
/-! isinstance -/
theorem ev_isi {_ : Rp α} {x : α} (n m : String) (b : Bool) (ha : Ev c Γ ta (.im x)) (ht : ∀ R H v, Same R H → Rp.rp c.Z R v x → TyX c.Z.K H v (.type m)) (hk : kitB m n = some b) : Ev c Γ (tCB (rIsi c.Z.K) (tCons ta (tCons (tC (.ty n)) tNil))) (.im b) := fun B R0 R H ρ Δ σ S Q q xk => ha B R0 R H ρ Δ σ S _ (fun v R1 H1 S1 =>
  ⟨v, .ty n, .type m, .type n, b, rfl, .ty n, ht R1 H1 v (sx_same S1) (sx_top' S1), kit_ty hk, q _ R1 H1 (sx_push (sx_pop S1) rfl)⟩) xk
theorem ev_isiII {x : Int} (ha : Ev c Γ ta (.im x)) : Ev c Γ (tCB (rIsi c.Z.K) (tCons ta (tCons (tC (.ty "int")) tNil))) (.im true) := ev_isi "int" "int" true ha (fun R H v _ h => by cases h; exact .base (.int _)) (by decide +kernel)
theorem ev_isiIB {x : Int} (ha : Ev c Γ ta (.im x)) : Ev c Γ (tCB (rIsi c.Z.K) (tCons ta (tCons (tC (.ty "bool")) tNil))) (.im false) := ev_isi "bool" "int" false ha (fun R H v _ h => by cases h; exact .base (.int _)) (by decide +kernel)
theorem ev_isiLL {_ : Rp α} {x : List α} (ha : Ev c Γ ta (.im x)) : Ev c Γ (tCB (rIsi c.Z.K) (tCons ta (tCons (tC (.ty "list")) tNil))) (.im true) := ev_isi "list" "list" true ha (fun R H v e h => by obtain ⟨a, vs, rfl, h2, _⟩ := h; exact .base (.lst (e _ _ h2))) (by decide +kernel)
theorem ev_isiTT {_ : Rp α} {_ : Rp β} {x : α × β} (ha : Ev c Γ ta (.im x)) : Ev c Γ (tCB (rIsi c.Z.K) (tCons ta (tCons (tC (.ty "tuple")) tNil))) (.im true) := ev_isi "tuple" "tuple" true ha (fun R H v e h => by obtain ⟨a, y, z, rfl, h2, _⟩ := h; exact .base (.tup (e _ _ h2))) (by decide +kernel)
/-! cuts of the script -/
theorem ev_sliceS {l : Scr} {t1 t2 : TO} {lo hi : Option Int} (ha : Ev c Γ ta (.im l)) (h1 : ∀ B R0 R H ρ Δ σ, Sx c.Z B R0 R H ρ Δ σ Γ → ∀ Q : Option Int → Hp → Prop, (∀ R' H', Sx c.Z B R0 R' H' ρ Δ σ Γ → Q lo H') → Xok c B R0 ρ Δ → t1 σ H Q)
    (h2 : ∀ B R0 R H ρ Δ σ, Sx c.Z B R0 R H ρ Δ σ Γ → ∀ Q : Option Int → Hp → Prop, (∀ R' H', Sx c.Z B R0 R' H' ρ Δ σ Γ → Q hi H') → Xok c B R0 ρ Δ → t2 σ H Q) :
    Ev c Γ (tSl (rSlL c.Z.K) ta t1 t2) (.ol ((l.l.drop (HT.sIx l.l.length 0 lo)).take (HT.sIx l.l.length l.l.length hi - HT.sIx l.l.length 0 lo))) := fun B R0 R H ρ Δ σ S Q q xk => ha B R0 R H ρ Δ σ S _ (fun v R1 H1 S1 =>
  h1 B R0 R1 H1 _ _ σ S1 _ (fun R2 H2 S2 => h2 B R0 R2 H2 _ _ σ S2 _ (fun R3 H3 S3 => by
    obtain ⟨a, rfl, ha3⟩ := sx_top' S3
    refine ⟨a, _, rfl, (sx_same S3).seq ha3, fun p np => ?_⟩
    unfold cutV
    rw [List.length_map, ← List.map_drop, ← List.map_take]
    exact q _ R3 _ (sx_newl (sx_pop S3) np (paired_of_int _))) xk.push1) xk.push1) xk
theorem ev_cutS {l : Scr} {lo hi : Int} (ha : Ev c Γ ta (.im l)) (h1 : Ev c Γ tb (.im lo)) (h2 : Ev c Γ te (.im hi)) (h0 : 0 ≤ lo) (h3 : 0 ≤ hi) : Ev c Γ (tSl (rSlL c.Z.K) ta (tPart tb) (tPart te)) (.ol ((l.l.take hi.toNat).drop lo.toNat)) := by
  refine ev_is (ev_sliceS ha (eo_some h1) (eo_some h2)) (congrArg Sl.ol ?_)
  rw [sIx_of h0, sIx_of h3, List.drop_take]
  apply List.ext_getElem?
  intro k
  simp only [List.getElem?_take, List.getElem?_drop]
  grind
/-! own lists in a row of appends: an own list is frozen and appended -/
theorem ev_cat {_ : Rp α} {xs ys : List α} (ha : Ev c Γ ta (.im xs)) (hb : Ev c Γ tb (.im ys)) (hl : xs.length + ys.length < 1000000) : Ev c Γ (tOp gAdd ta tb) (.ol (xs ++ ys)) := ev_op ha hb fun B R0 R H ρ Δ σ v w S rv rw Q q => by
  obtain ⟨a, vs, rfl, h2, h3⟩ := rv
  obtain ⟨b, ws, rfl, h5, h6⟩ := rw
  have l1 := Paired.length h3
  have l2 := Paired.length h6
  exact .inr ⟨a, b, vs, ws, rfl, rfl, sx_same S _ _ h2, sx_same S _ _ h5, Nat.le_trans (by omega : vs.length + ws.length ≤ 1000000) (by decide), fun p np => q _ R _ (sx_newl S np (paired_append h3 h6))⟩
theorem ev_rep {_ : Rp α} {xs : List α} {k : Int} (ha : Ev c Γ ta (.im xs)) (hb : Ev c Γ tb (.im k)) (h0 : 0 ≤ k) (hl : xs.length * k.toNat ≤ 1000000) (hk : k < 1000000) : Ev c Γ (tOp gMul ta tb) (.ol (List.replicate k.toNat xs).flatten) := ev_op ha hb fun B R0 R H ρ Δ σ v w S rv rw Q q => by
  obtain ⟨a, vs, rfl, h2, h3⟩ := rv
  have l1 := Paired.length h3
  refine .inr (.inl ⟨a, k, vs, rfl, rw, sx_same S _ _ h2, by omega, by omega, by rw [l1]; exact Nat.le_trans hl (by decide), fun p np => q _ R _ (sx_newl S np ?_)⟩)
  generalize k.toNat = n
  induction n with
  | zero => exact .nil
  | succ n ih => rw [List.replicate_succ, List.replicate_succ, List.flatten_cons, List.flatten_cons]; exact paired_append h3 ih
/-- a call whose answer is told -/
theorem ev_callN {T : Tm} {t : TA} {ss : List Sl} (ha : EvA c Γ t ss) (hT : T (ss ++ []) (fun s' => s' = s) fun r => c.ex r Γ) : Ev c Γ (tCallSD (spOf c.Z T) [] (WE c.X) t) s := ev_call ha (fun _ => .nil) hT
theorem ev_callN0 {T : Tm} {t : TA} {ss : List Sl} (ha : EvA c Γ t ss) (hT : T (ss ++ []) (fun s' => s' = s) fun _ => False) : Ev c Γ (tCall (spOf c.Z T) [] E0 t) s := ev_call0 ha (fun _ => .nil) hT
end
theorem cmulS {i j : Int} (h1 : -1000000000000000000 ≤ i) (h2 : i ≤ 1000000000000000000) (h3 : -1000000000000000000 ≤ j) (h4 : j ≤ 1000000000000000000) : CMulW i j := wide_mul (a := 64) (b := 64) (by omega) (by omega) (by decide) (by decide) (by decide)
/-! ### a law -/
def T_law : Tm := tm1 fun (l : Scr) ok _ => l.l.length ≤ 63 ∧ ok (.im true)
def spLaw (K : PySem.W.Frag) : Sp := fun vs H Q _ => ∃ (a : Addr) (ns : List Int), vs = [.ref a] ∧ SqL K H a (ns.map V.int) ∧ ns.length ≤ 63 ∧ ∀ H', Q (.bl true) H'
theorem law_imp {K : PySem.W.Frag} {cls : CN → Addr} {vs : List V} {H : Hp} {Q : VK} {E : XK} (h : spLaw K vs H Q E) : spOf ⟨K, cls⟩ T_law vs H Q E := by
  obtain ⟨a, ns, rfl, hS, hl, k⟩ := h
  refine ⟨H, [.im (⟨ns⟩ : Scr)], fun s => s = .im true, fun _ => False, Same.refl _, .cons ⟨a, rfl, hS⟩ .nil, ⟨⟨ns⟩, rfl, hl, rfl⟩, fun v R' H' s S e => ?_, fun _ _ _ _ _ _ z => z.elim⟩
  subst e
  have : v = .bl true := sx_top' S
  subst this
  exact k H'
end TB

/-! TbL: own things lent to calls, frozen, own lists of own lists. -/
namespace TB
open PySem L2
/-! ### the frozen part and own things beside it -/
def frz (R H : Hp) (f : List Addr) : Hp := fun p => match R p with | some o => some o | none => if p ∈ f then H p else none
theorem frz_same {R H : Hp} {f : List Addr} : Same R (frz R H f) := fun b o e => by unfold frz; rw [e]
theorem frz_le {R H : Hp} {f : List Addr} (h : Same R H) : Same (frz R H f) H := fun b o e => by
  unfold frz at e
  cases q : R b with
  | some o2 =>
    rw [q] at e
    have e' : o2 = o := by simpa using e
    rw [← e']
    exact h b o2 q
  | none =>
    rw [q] at e
    simp only [] at e
    by_cases c : b ∈ f
    · rw [if_pos c] at e; exact e
    · rw [if_neg c] at e; cases e
theorem res_frz {R H : Hp} {f : List Addr} (h : Same R H) : Same (res H f) (frz R H f) := fun b o e => by
  obtain ⟨c, e2⟩ := res_some e
  unfold frz
  cases q : R b with
  | some o2 =>
    have := h b o2 q
    rw [e2] at this
    simpa using this.symm
  | none => simp only []; rw [if_pos c]; exact e2
theorem frz_in {R H : Hp} {f : List Addr} {p : Addr} {o : HO} (h : Same R H) (c : p ∈ f) (e : H p = some o) : frz R H f p = some o := res_frz h p o (by rw [res_in c]; exact e)
theorem frz_out {R H : Hp} {f : List Addr} {p : Addr} (c : p ∉ f) : frz R H f p = R p := by
  unfold frz
  cases q : R p with
  | some o => rfl
  | none => simp [c]
/-- own data, told within its own objects -/
def Fo {α : Type} [Rp α] (d : α) : Own := ⟨fun Z _ h v => Rp.rp Z h v d, fun _ h => h⟩
abbrev Sl.fo {α : Type} [Rp α] (d : α) : Sl := .ow (Fo d)
/-- a thing may be lent, or frozen, as data d -/
def Lnd (so : Sl) {α : Type} [Rp α] (d : α) : Prop := ∀ Z R H o f, Same R H → slok Z R H o so f → ∃ v, o = some v ∧ Rp.rp Z (frz R H f) v d
theorem lnd_ol {α : Type} [Rp α] {xs : List α} : Lnd (.ol xs) xs := fun Z R H o f sm h => by
  obtain ⟨p, vs, rfl, rfl, h3, h4⟩ := h
  exact ⟨_, rfl, p, vs, rfl, frz_in sm (by simp) h3, paired_mono (fun _ _ => Rp.mono frz_same) h4⟩
theorem inOk_rp {α : Type} [Rp α] {Z : Zz} {R H R' : Hp} (e : Same R R') : ∀ {qs : List Addr} {xss : List (List α)}, (∀ q ∈ qs, ∀ o, H q = some o → R' q = some o) → Paired (inOk Z R H) qs xss → Paired (Rp.rp Z R') (qs.map V.ref) xss
  | _, _, _, .nil => .nil
  | _, _, k, .cons r t => by
    obtain ⟨vs, h1, h2⟩ := r
    exact .cons ⟨_, vs, rfl, k _ List.mem_cons_self _ h1, paired_mono (fun _ _ => Rp.mono e) h2⟩ (inOk_rp e (fun q hq => k q (List.mem_cons_of_mem _ hq)) t)
theorem lnd_o2 {α : Type} [Rp α] {xss : List (List α)} : Lnd (.o2 xss) xss := fun Z R H o f sm h => by
  obtain ⟨p, qs, rfl, rfl, h3, h4⟩ := h
  exact ⟨_, rfl, p, _, rfl, frz_in sm (by simp) h3, inOk_rp frz_same (fun q hq o e => frz_in sm (List.mem_cons_of_mem _ hq) e) h4⟩
theorem lnd_fo {α : Type} [Rp α] {d : α} : Lnd (.fo d) d := fun Z R H o f sm h => by
  obtain ⟨v, rfl, h3, h4⟩ := h
  exact ⟨v, rfl, Rp.mono (res_frz sm) h3⟩
section
variable {Z : Zz} {B R0 R R' RL H H' : Hp} {τ ρ σ : List (Option V)} {Θ Δ Γ : List Sl} {s so : Sl} {o : Option V} {f own own' : List Addr} {α β γ : Type} {_ : Rp α} {_ : Rp β} {_ : Rp γ} {d : α}
theorem sy_frz (hL : Lnd so d) (S : Sy Z B R0 R H τ Θ) {i : Nat} (e : Θ[i]? = some so) : ∃ R', Same R R' ∧ Sy Z B R0 R' H τ (Θ.set i (.im d)) := by
  obtain ⟨own, hs, es⟩ := S
  obtain ⟨o, g1, f, g2, h2, h3, h4, h6⟩ := es_at es e
  subst h3
  obtain ⟨v, rfl, h5⟩ := hL Z R H o f hs.rh h4
  have nd := hs.nd
  have ne : ∀ q ∈ g1 ++ g2, q ∉ f := fun q hq z => by
    simp only [List.nodup_append, List.mem_append] at nd hq
    grind
  have h7 := h6 (frz R H f) H (some v) (.im d) [] frz_same (fun q hq => rfl) ⟨rfl, v, rfl, h5⟩
  have e2 : τ.set i (some v) = τ := by
    apply List.ext_getElem?
    intro j
    rw [List.getElem?_set]
    split
    · rename_i hj
      subst hj
      split
      · rw [h2]
      · rename_i hl
        rw [List.getElem?_eq_none (by omega)]
    · rfl
  rw [e2] at h7
  refine ⟨_, frz_same, _, ⟨frz_le hs.rh, hs.bh, hs.r0.trans frz_same, fun q u a => ?_, fun q hq => ?_, nd_mid hs.nd⟩, h7⟩
  · by_cases hq : q ∈ f
    · exact .inr (hs.ow q (by simp [hq])).2
    · rw [frz_out hq] at a
      exact hs.nw _ _ a
  · rw [List.append_nil] at hq
    rw [frz_out (ne q hq)]
    exact hs.ow q (by simp only [List.mem_append] at hq ⊢; grind)
theorem sx_frz (hL : Lnd so d) (S : Sx Z B R0 R H ρ Δ σ Γ) {i : Nat} (e : Γ[i]? = some so) : ∃ R', Same R R' ∧ Sx Z B R0 R' H ρ Δ σ (Γ.set i (.im d)) := by
  obtain ⟨h, S⟩ := S
  obtain ⟨R', h1, h2⟩ := sy_frz hL S (i := ρ.length + i) (by rw [at_slot h]; exact e)
  rw [h, List.set_append_right _ _ (by omega), show Δ.length + i - Δ.length = i by omega] at h2
  exact ⟨R', h1, h, h2⟩
theorem sx_frzTop (hL : Lnd so d) (S : Sx Z B R0 R H (o :: ρ) (so :: Δ) σ Γ) : ∃ R', Same R R' ∧ Sx Z B R0 R' H (o :: ρ) (.im d :: Δ) σ Γ := by
  obtain ⟨h, S⟩ := S
  obtain ⟨R', h1, h2⟩ := sy_frz hL S (i := 0) rfl
  exact ⟨R', h1, by simpa using h, h2⟩
/-! ### calls with things lent -/
/-- told without the frozen part -/
def Det (s : Sl) : Prop := ∀ Z R R' H o f, slok Z R H o s f → slok Z R' H o s f
theorem sx_callL (S : Sx Z B R0 R H ρ Δ σ Γ) (a : Same R RL) (hd : Det s) {v : V} (S2 : Sx Z H RL R' H' [some v] [s] [] []) : Sx Z B R0 R H' (some v :: ρ) (s :: Δ) σ Γ := by
  obtain ⟨hl, own, hs, es⟩ := S
  obtain ⟨_, own2, hs2, f, g, rfl, h1, h2⟩ := S2
  have hg : g = [] := h2
  subst hg
  rw [List.append_nil] at hs2
  have key : ∀ p ∈ own, H' p = H p ∧ p ∉ f := fun p hp => by
    have h3 := es_some es p hp
    obtain ⟨o, ho⟩ : ∃ o, H p = some o := by
      cases e : H p with
      | none => exact absurd e h3
      | some o => exact ⟨o, rfl⟩
    refine ⟨?_, fun hf => ?_⟩
    · rw [ho, hs2.bh p o ho]
    · exact h3 (hs2.ow p hf).2
  refine ⟨by simp [hl], f ++ own, ⟨hs.rh.trans hs2.bh, hs.bh.trans hs2.bh, hs.r0, hs.nw, fun p hp => ?_, ?_⟩, f, own, rfl, hd _ _ _ _ _ _ h1, es_mono (Same.refl _) (fun p hp => (key p hp).1) es⟩
  · rcases List.mem_append.mp hp with q | q
    · exact ⟨hs.rh.free (hs2.ow p q).2, hs.bh.free (hs2.ow p q).2⟩
    · exact hs.ow p q
  · rw [List.nodup_append]
    exact ⟨hs2.nd, hs.nd, fun a ha b hb e => (key b hb).2 (e ▸ ha)⟩
end
/-- data that need no heap -/
class Flt (α : Type) [Rp α] : Prop where
  fl : ∀ {Z : Zz} {H H' : Hp} {v : V} {d : α}, Rp.rp Z H v d → Rp.rp Z H' v d
instance : Flt Int := ⟨fun h => h⟩
instance : Flt Bool := ⟨fun h => h⟩
instance : Flt Unit := ⟨fun h => h⟩
instance : Flt Str := ⟨fun h => h⟩
instance {α : Type} [Rp α] [Flt α] : Flt (Option α) := ⟨fun {Z H H' v d} h => by
  cases d with
  | none => exact h
  | some x => exact Flt.fl (α := α) h⟩
theorem det_un : Det .un := fun _ _ _ _ _ _ h => h
theorem det_im {α : Type} [Rp α] [Flt α] {d : α} : Det (.im d) := fun Z R R' H o f h => by
  obtain ⟨h1, v, h2, h3⟩ := h
  exact ⟨h1, v, h2, Flt.fl h3⟩
theorem det_ol {α : Type} [Rp α] [Flt α] {xs : List α} : Det (.ol xs) := fun Z R R' H o f h => by
  obtain ⟨p, vs, h1, h2, h3, h4⟩ := h
  exact ⟨p, vs, h1, h2, h3, paired_mono (fun _ _ => Flt.fl) h4⟩
theorem det_o2 {α : Type} [Rp α] [Flt α] {xss : List (List α)} : Det (.o2 xss) := fun Z R R' H o f h => by
  obtain ⟨p, qs, h1, h2, h3, h4⟩ := h
  exact ⟨p, qs, h1, h2, h3, paired_mono (fun _ _ ⟨vs, a, b⟩ => ⟨vs, a, paired_mono (fun _ _ => Flt.fl) b⟩) h4⟩
theorem det_fo {α : Type} [Rp α] {d : α} : Det (.fo d) := fun Z R R' H o f h => h
section
variable {c : Cn} {Γ : List Sl} {ta tb te tl : TE} {tt tc : TT} {t u : TS} {s so : Sl} {α β γ : Type} {_ : Rp α} {_ : Rp β} {_ : Rp γ} {P : Po} {d : α}
theorem w_frz {d : α} (i : Nat) (hL : Lnd so d) (e : Γ[i]? = some so) (h : W c (Γ.set i (.im d)) t P) : W c Γ t P := fun B R0 R H ρ Δ σ D S n r b kk x => by
  obtain ⟨R', _, S'⟩ := sx_frz hL S e
  exact h B R0 R' H ρ Δ σ D S' n r b kk x
theorem w_fr2 {xss : List (List α)} (i : Nat) (e : Γ[i]? = some (.o2 xss)) (h : W c (Γ.set i (.im xss)) t P) : W c Γ t P := w_frz i lnd_o2 e h
theorem w_frF {d : α} (i : Nat) (e : Γ[i]? = some (.fo d)) (h : W c (Γ.set i (.im d)) t P) : W c Γ t P := w_frz i lnd_fo e h
theorem ev_frz {d : α} (hL : Lnd so d) (h : Ev c Γ te so) : Ev c Γ te (.im d) := fun B R0 R H ρ Δ σ S Q q x => h B R0 R H ρ Δ σ S Q (fun v R' H' S' => by
  obtain ⟨R2, _, S2⟩ := sx_frzTop hL S'
  exact q v R2 H' S2) x
theorem ev_fr2 {xss : List (List α)} (h : Ev c Γ te (.o2 xss)) : Ev c Γ te (.im xss) := ev_frz lnd_o2 h
theorem ev_frF {d : α} (h : Ev c Γ te (.fo d)) : Ev c Γ te (.im d) := ev_frz lnd_fo h
/-- arguments, some of them lent -/
def EvB (c : Cn) (Γ : List Sl) (t : TA) (ss : List Sl) : Prop := ∀ B R0 R H ρ Δ σ, Sx c.Z B R0 R H ρ Δ σ Γ → ∀ Q : List V → Hp → Prop, (∀ vs R' H' RL, Sx c.Z B R0 R' H' ρ Δ σ Γ → Same R' RL → Same RL H' → Slims c.Z RL vs ss → Q vs H') → Xok c B R0 ρ Δ → t σ H Q
theorem eb_nil : EvB c Γ tNil [] := fun B R0 R H ρ Δ σ S Q q _ => q [] R H R S (Same.refl _) (sx_same S) .nil
theorem eb_cons {d : α} {tr : TA} {ss : List Sl} (h : Ev c Γ te (.im d)) (hr : EvB c Γ tr ss) : EvB c Γ (tCons te tr) (.im d :: ss) := fun B R0 R H ρ Δ σ S Q q xk => h B R0 R H ρ Δ σ S _ (fun v R1 H1 S1 =>
  hr B R0 R1 H1 _ _ σ S1 _ (fun vs R2 H2 RL S2 a b sl => q (v :: vs) R2 H2 RL (sx_pop S2) a b (.cons (Rp.mono a (sx_top' S2)) sl)) xk.push1) xk
theorem eb_own {d : α} {i : Nat} {tr : TA} {ss : List Sl} (hL : Lnd so d) (e : Γ[i]? = some so) (hr : EvB c Γ tr ss) : EvB c Γ (tCons (tVar i) tr) (.im d :: ss) := fun B R0 R H ρ Δ σ S Q q xk => by
  obtain ⟨o, f, h1, h2⟩ := sx_slot S e
  obtain ⟨v, rfl, _⟩ := hL _ _ _ _ _ (sx_same S) h2
  refine ⟨v, h1, hr B R0 R H ρ Δ σ S _ (fun vs R2 H2 RL S2 a b sl => ?_) xk⟩
  obtain ⟨o2, f2, g1, g2⟩ := sx_slot S2 e
  rw [h1] at g1
  cases g1
  obtain ⟨v', e', rp⟩ := hL c.Z RL H2 _ f2 b (slok_mono a (fun _ _ => rfl) g2)
  cases e'
  exact q (v :: vs) R2 H2 (frz RL H2 f2) S2 (a.trans frz_same) (frz_le b) (.cons rp (slims_mono frz_same sl))
theorem ev_callL {T : Tm} {t : TA} {ss : List Sl} (ha : EvB c Γ t ss) (hd : Det s) (hT : T (ss ++ []) (fun s' => s' = s) fun r => c.ex r Γ) : Ev c Γ (tCallSD (spOf c.Z T) [] (WE c.X) t) s := fun B R0 R H ρ Δ σ S Q q xk => ha B R0 R H ρ Δ σ S _ (fun vs R1 H1 RL S1 a b sl => by
  refine ⟨RL, ss ++ [], _, _, b, slims_append sl .nil, hT, fun v R' H' s' S' e => ?_, fun r cls d H' e rx er => ?_⟩
  · subst e
    exact q v R1 H' (sx_callL S1 a hd S')
  · obtain ⟨R2, _, S2, rx2⟩ := sx_callX S1 e rx
    exact xk R2 H' σ Γ r cls d S2 rx2 er) xk
theorem es_callL {T : Tm} {t : TA} {ss : List Sl} {S : Sl → Prop} (ha : EvB c Γ t ss) (hd : ∀ s, S s → Det s) (hT : T (ss ++ []) S fun r => c.ex r Γ) : EvS c Γ (tCallSD (spOf c.Z T) [] (WE c.X) t) S := fun B R0 R H ρ Δ σ S0 Q q xk => ha B R0 R H ρ Δ σ S0 _ (fun vs R1 H1 RL S1 a b sl => by
  refine ⟨RL, ss ++ [], _, _, b, slims_append sl .nil, hT, fun v R' H' s' S' e => ?_, fun r cls d H' e rx er => ?_⟩
  · exact q v s' R1 H' e (sx_callL S1 a (hd _ e) S')
  · obtain ⟨R2, _, S2, rx2⟩ := sx_callX S1 e rx
    exact xk R2 H' σ Γ r cls d S2 rx2 er) xk
/-! ### == with a thing lent -/
theorem ev_opL {r : R2} {x : α} {y : β} {z : γ} {i : Nat} (hL : Lnd so x) (e : Γ[i]? = some so) (hb : Ev c Γ tb (.im y)) (hr : ∀ R H v w, Same R H → Rp.rp c.Z R v x → Rp.rp c.Z R w y → ∃ k, (∀ R, Rp.rp c.Z R k z) ∧ ∀ Q : VK, Q k H → r v w H Q) : Ev c Γ (tOp r (tVar i) tb) (.im z) := fun B R0 R H ρ Δ σ S Q q xk => by
  obtain ⟨o, f, h1, h2⟩ := sx_slot S e
  obtain ⟨v, rfl, _⟩ := hL _ _ _ _ _ (sx_same S) h2
  refine ⟨v, h1, hb B R0 R H ρ Δ σ S _ (fun w R2 H2 S2 => ?_) xk⟩
  obtain ⟨o2, f2, g1, g2⟩ := sx_slot (sx_pop S2) e
  rw [h1] at g1
  cases g1
  obtain ⟨v', e', rp⟩ := hL _ _ _ _ _ (sx_same S2) g2
  cases e'
  obtain ⟨k, k1, k2⟩ := hr (frz R2 H2 f2) H2 v w (frz_le (sx_same S2)) rp (Rp.mono frz_same (sx_top' S2))
  exact k2 Q (q k R2 H2 (sx_push (sx_pop S2) (k1 R2)))
theorem ev_opR {r : R2} {x : α} {y : β} {z : γ} {i : Nat} (ha : Ev c Γ ta (.im x)) (hL : Lnd so y) (e : Γ[i]? = some so) (hr : ∀ R H v w, Same R H → Rp.rp c.Z R v x → Rp.rp c.Z R w y → ∃ k, (∀ R, Rp.rp c.Z R k z) ∧ ∀ Q : VK, Q k H → r v w H Q) : Ev c Γ (tOp r ta (tVar i)) (.im z) := fun B R0 R H ρ Δ σ S Q q xk => by
  refine ha B R0 R H ρ Δ σ S _ (fun v R2 H2 S2 => ?_) xk
  obtain ⟨o2, f2, g1, g2⟩ := sx_slot (sx_pop S2) e
  obtain ⟨w, e', rp⟩ := hL _ _ _ _ _ (sx_same S2) g2
  subst e'
  obtain ⟨k, k1, k2⟩ := hr (frz R2 H2 f2) H2 v w (frz_le (sx_same S2)) (Rp.mono frz_same (sx_top' S2)) rp
  exact ⟨w, g1, k2 Q (q k R2 H2 (sx_push (sx_pop S2) (k1 R2)))⟩
theorem ev_eqDL {δ : Type} [Pd δ] [DecidableEq δ] {x y : δ} {i : Nat} (hL : Lnd so x) (e : Γ[i]? = some so) (hb : Ev c Γ tb (.im y)) (hd : Pd.dep δ ≤ 64) : Ev c Γ (tOp (gEq c.Z.K) (tVar i) tb) (.im (decide (x = y))) := ev_opL hL e hb fun R H v w sm rv rw => ⟨.bl _, fun _ => rfl, fun Q q =>
  .inr (rEqD_of (Rp.mono sm rv) (Rp.mono sm rw) hd (by rw [eqv_dec]; exact q))⟩
theorem ev_neDL {δ : Type} [Pd δ] [DecidableEq δ] {x y : δ} {i : Nat} (hL : Lnd so x) (e : Γ[i]? = some so) (hb : Ev c Γ tb (.im y)) (hd : Pd.dep δ ≤ 64) : Ev c Γ (tOp (gNe c.Z.K) (tVar i) tb) (.im (!decide (x = y))) := ev_opL hL e hb fun R H v w sm rv rw => ⟨.bl _, fun _ => rfl, fun Q q =>
  .inr (rNeD_of (Rp.mono sm rv) (Rp.mono sm rw) hd (by rw [eqv_dec]; exact q))⟩
theorem ev_eqDR {δ : Type} [Pd δ] [DecidableEq δ] {x y : δ} {i : Nat} (ha : Ev c Γ ta (.im x)) (hL : Lnd so y) (e : Γ[i]? = some so) (hd : Pd.dep δ ≤ 64) : Ev c Γ (tOp (gEq c.Z.K) ta (tVar i)) (.im (decide (x = y))) := ev_opR ha hL e fun R H v w sm rv rw => ⟨.bl _, fun _ => rfl, fun Q q =>
  .inr (rEqD_of (Rp.mono sm rv) (Rp.mono sm rw) hd (by rw [eqv_dec]; exact q))⟩
end
/-! ### own lists of own lists -/
theorem paired_in_upd {α : Type} [Rp α] {Z : Zz} {R H : Hp} {q : Addr} {vs' : List V} {ys : List α} (hy : Paired (Rp.rp Z R) vs' ys) : ∀ {qs : List Addr} {xss : List (List α)} {j : Nat}, qs.Nodup → qs[j]? = some q → Paired (inOk Z R H) qs xss → Paired (inOk Z R (upd H q (.lst vs'))) qs (xss.set j ys)
  | _, _, j, _, e, .nil => by simp at e
  | a :: qs, _, 0, nd, e, .cons r t => by
    have e' : a = q := by simpa using e
    subst e'
    have nd' := List.nodup_cons.mp nd
    exact .cons ⟨vs', upd_same, hy⟩ (paired_inOk (Same.refl _) (fun p hp => upd_ne fun z => nd'.1 (z ▸ hp)) t)
  | a :: qs, _, j + 1, nd, e, .cons r t => by
    have nd' := List.nodup_cons.mp nd
    have e' : qs[j]? = some q := by simpa using e
    have ne : a ≠ q := fun z => nd'.1 (z ▸ List.mem_of_getElem? e')
    exact .cons (inOk_mono (Same.refl _) (upd_ne ne) r) (paired_in_upd hy nd'.2 e' t)
section
variable {Z : Zz} {B R0 R R' RL H H' : Hp} {τ ρ σ : List (Option V)} {Θ Δ Γ : List Sl} {s so : Sl} {o : Option V} {f own own' : List Addr} {α β γ : Type} {_ : Rp α} {_ : Rp β} {_ : Rp γ}
theorem set_same {τ : List (Option V)} {i : Nat} {o : Option V} (h2 : τ[i]? = some o) : τ.set i o = τ := by
  apply List.ext_getElem?
  intro j
  rw [List.getElem?_set]
  split
  · rename_i hj
    subst hj
    split
    · rw [h2]
    · rename_i hl
      rw [List.getElem?_eq_none (by omega)]
  · rfl
theorem sy_mut2 {xss : List (List α)} (S : Sy Z B R0 R H τ Θ) {i : Nat} (e : Θ[i]? = some (.o2 xss)) : ∃ p qs, τ[i]? = some (some (.ref p)) ∧ H p = some (.lst (qs.map V.ref)) ∧ Paired (inOk Z R H) qs xss ∧
    ∀ (j : Nat) (q : Addr) (vs' : List V) (ys : List α), qs[j]? = some q → Paired (Rp.rp Z R) vs' ys → Sy Z B R0 R (upd H q (.lst vs')) τ (Θ.set i (.o2 (xss.set j ys))) := by
  obtain ⟨own, hs, es⟩ := S
  obtain ⟨o, g1, f, g2, h2, h3, ⟨p, qs, rfl, rfl, h4, h5⟩, h6⟩ := es_at es e
  subst h3
  refine ⟨p, qs, h2, h4, h5, fun j q vs' ys hq hy => ?_⟩
  have hqm : q ∈ qs := List.mem_of_getElem? hq
  have hp := hs.ow q (by simp [hqm])
  have nd := hs.nd
  have ne : ∀ b ∈ g1 ++ g2, b ≠ q := fun b hb z => by
    subst z
    simp only [List.nodup_append, List.mem_append, List.mem_cons] at nd hb
    grind
  have ndq : (p :: qs).Nodup := by
    simp only [List.nodup_append] at nd
    exact nd.1.2.1
  have ndq' := List.nodup_cons.mp ndq
  have np : p ≠ q := fun z => ndq'.1 (z ▸ hqm)
  have h7 := h6 R (upd H q (.lst vs')) (some (.ref p)) (.o2 (xss.set j ys)) (p :: qs) (Same.refl _) (fun b hb => upd_ne (ne b hb)) ⟨p, qs, rfl, rfl, by rw [upd_ne np]; exact h4, paired_in_upd hy ndq'.2 hq h5⟩
  rw [set_same h2] at h7
  exact ⟨_, ⟨fun b u a => by rw [upd_ne (ne_of_none a hp.1)]; exact hs.rh _ _ a, fun b u a => by rw [upd_ne (ne_of_none a hp.2)]; exact hs.bh _ _ a, hs.r0, hs.nw, hs.ow, hs.nd⟩, h7⟩
theorem sx_mut2 {xss : List (List α)} (S : Sx Z B R0 R H ρ Δ σ Γ) {i : Nat} (e : Γ[i]? = some (.o2 xss)) : ∃ p qs, σ[i]? = some (some (.ref p)) ∧ H p = some (.lst (qs.map V.ref)) ∧ Paired (inOk Z R H) qs xss ∧
    ∀ (j : Nat) (q : Addr) (vs' : List V) (ys : List α), qs[j]? = some q → Paired (Rp.rp Z R) vs' ys → Sx Z B R0 R (upd H q (.lst vs')) ρ Δ σ (Γ.set i (.o2 (xss.set j ys))) := by
  obtain ⟨h, S⟩ := S
  obtain ⟨p, qs, h1, h2, h3, h4⟩ := sy_mut2 S (i := ρ.length + i) (by rw [at_slot h]; exact e)
  rw [at_slot'] at h1
  refine ⟨p, qs, h1, h2, h3, fun j q vs' ys hq hy => ⟨h, ?_⟩⟩
  have q2 := h4 j q vs' ys hq hy
  rw [h, List.set_append_right _ _ (by omega), show Δ.length + i - Δ.length = i by omega] at q2
  exact q2
theorem sx_new2 (S : Sx Z B R0 R H ρ Δ σ Γ) {p : Addr} (hp : H p = none) : Sx Z B R0 R (upd H p (.lst [])) (some (.ref p) :: ρ) (.o2 ([] : List (List α)) :: Δ) σ Γ := by
  have S2 := sx_newl (α := α) S hp .nil
  obtain ⟨hl, own, hs, f, g, rfl, ⟨p', vs, rfl, h2, h3, h4⟩, h5⟩ := S2
  cases h2
  rw [upd_same] at h3
  cases h3
  exact ⟨hl, _, hs, [p], g, rfl, ⟨p, [], rfl, rfl, upd_same, .nil⟩, h5⟩
theorem sx_app2 {xs : List α} {xss : List (List α)} {w : V} {Dl : Addr} (S : Sx Z B R0 R H (some w :: some (.ref Dl) :: ρ) (.ol xs :: .o2 xss :: Δ) σ Γ) : ∃ vs, H Dl = some (.lst vs) ∧ vs.length = xss.length ∧ Sx Z B R0 R (upd H Dl (.lst (vs ++ [w]))) (some (.ref Dl) :: ρ) (.o2 (xss ++ [xs]) :: Δ) σ Γ := by
  obtain ⟨hl, own, hs, f, g, rfl, ⟨q, vs, rfl, h2, h3, h4⟩, f2, g2, rfl, ⟨p, qs, rfl, h6, h7, h8⟩, h9⟩ := S
  cases h2
  cases h6
  have nd := hs.nd
  have hp := hs.ow Dl (by simp)
  have ndp : Dl ≠ q ∧ Dl ∉ qs ∧ Dl ∉ g2 := by
    simp only [List.nodup_append, List.nodup_cons, List.mem_append, List.mem_cons, List.mem_singleton] at nd
    grind
  refine ⟨_, h7, by rw [List.length_map, Paired.length h8], by simpa using hl, (Dl :: (qs ++ [q])) ++ g2, ⟨fun b u a => by rw [upd_ne (ne_of_none a hp.1)]; exact hs.rh _ _ a, fun b u a => by rw [upd_ne (ne_of_none a hp.2)]; exact hs.bh _ _ a, hs.r0, hs.nw, fun b hb => hs.ow b ?_, ?_⟩, Dl :: (qs ++ [q]), g2, rfl, ⟨Dl, qs ++ [q], rfl, rfl, ?_, ?_⟩, es_mono (Same.refl _) (fun b hb => upd_ne fun z => ndp.2.2 (z ▸ hb)) h9⟩
  · simp only [List.mem_append, List.mem_cons, List.mem_singleton, List.not_mem_nil, or_false] at hb ⊢
    grind
  · simp only [List.nodup_append, List.nodup_cons, List.mem_append, List.mem_cons, List.mem_singleton, List.cons_append, List.nil_append, List.append_assoc, List.not_mem_nil, or_false] at nd ⊢
    grind
  · rw [upd_same, List.map_append]
    rfl
  · exact paired_append (paired_inOk (Same.refl _) (fun b hb => upd_ne fun z => ndp.2.1 (z ▸ hb)) h8) (.cons ⟨vs, by rw [upd_ne (Ne.symm ndp.1)]; exact h3, h4⟩ .nil)
end
section
variable {c : Cn} {Γ : List Sl} {ta tb te tl : TE} {tt tc : TT} {t u : TS} {s so : Sl} {α β γ : Type} {_ : Rp α} {_ : Rp β} {_ : Rp γ} {P : Po} {d : α}
theorem ev_lc2 {wi : TI} {g : TG} {n : Nat} {us : Nat → List Sl → List Sl} {js vs : List Nat} (p : Nat → Bool) (f : Nat → List α) (hi : EvI c Γ wi g n us js) (hn : n < 1000000) (hj : ∀ j ∈ js, j ∈ vs) (hu : UnAt Γ vs)
    (ht : ∀ i, i < n → EvT c.no (us i Γ) tt (p i)) (he : ∀ i, i < n → p i = true → Ev c.no (us i Γ) te (.ol (f i))) : Ev c Γ (tLc wi g tt te vs) (.o2 (kept p f n)) := fun B R0 R H ρ Δ σ S Q q x =>
  hi B R0 R H ρ Δ σ S _ (fun J R1 H1 ρ' Δ' hl S1 ok Dl hD => by
    refine ⟨fun i m H => m = n - i ∧ i ≤ n ∧ ∃ R, Sx c.Z B R0 R H (some (.ref Dl) :: (ρ' ++ ρ)) (.o2 (kept p f i) :: (Δ' ++ Δ)) σ Γ, ⟨n, by simp, Nat.zero_le _, R1, sx_new2 S1 hD⟩, ?_⟩
    rintro i m H2 ⟨rfl, hin, R2, S2⟩
    by_cases hlt : i < n
    · refine .inr ⟨ok.go (ρx := [some (.ref Dl)]) (Δx := [.o2 (kept p f i)]) rfl S2 hlt, fun H' => ∃ R, Sx c.Z B R0 R H' (some (.ref Dl) :: (ρ' ++ ρ)) (.o2 (kept p f (i + 1)) :: (Δ' ++ Δ)) σ Γ, fun H' h => ⟨n - (i + 1), by omega, rfl, hlt, h⟩, fun y H' hy => ?_⟩
      have S2w := sx_wipe S2 vs
      rw [wipeG_un hu] at S2w
      refine ok.yld (ρx := [some (.ref Dl)]) (Δx := [.o2 (kept p f i)]) rfl S2w hlt hy _ fun R3 σ3 H3 S3 hw => ⟨(hw vs hj).trans (wipe_wipe _ vs), ?_⟩
      have back : ∀ {R4 H4 : Hp} {o : Option V} {s : Sl}, Sx c.Z B R0 R4 H4 (o :: (ρ' ++ ρ)) (s :: (Δ' ++ Δ)) σ3 (us i Γ) → Sx c.Z B R0 R4 H4 (o :: (ρ' ++ ρ)) (s :: (Δ' ++ Δ)) σ Γ := fun S4 => by
        have q4 := sx_wipe S4 vs
        rw [hw vs hj, wipe_wipe, ok.back i Γ vs hj, wipeG_un hu] at q4
        exact sx_unwipe hu q4
      refine ht i hlt B R0 R3 H3 _ _ σ3 S3 _ (fun R4 H4 S4 => ?_) (Xok.no c _ _ _ _)
      cases hp : p i with
      | false =>
        refine ⟨R4, ?_⟩
        rw [kept_no hp]
        exact back S4
      | true =>
        refine he i hlt hp B R0 R4 H4 _ _ σ3 S4 _ (fun w R5 H5 S5 => ?_) (Xok.no c _ _ _ _)
        obtain ⟨vs1, h1, h2, h3⟩ := sx_app2 S5
        have hl2 := kept_len p f i
        refine ⟨vs1, h1, Nat.lt_of_lt_of_le (by omega : vs1.length < 1000000) (by decide), R5, ?_⟩
        rw [kept_yes hp]
        exact back h3
    · have e : i = n := by omega
      subst e
      exact .inl ⟨ok.stop (ρx := [some (.ref Dl)]) (Δx := [.o2 (kept p f i)]) rfl S2, q _ R2 H2 (sx_drop1 hl S2)⟩) x
/-- [own list for x in xs] -/
theorem ev_mapL2 {xs : List α} {j : Nat} {vs : List Nat} (f : α → List β) (h : Ev c Γ tl (.im xs)) (hn : xs.length < 1000000) (hj : j ∈ vs) (hu : UnAt Γ vs) (he : ∀ x, x ∈ xs → Ev c.no (Γ.set j (.im x)) te (.ol (f x))) : Ev c Γ (tLc (iList c.Z.K tl) (gName j) tYes te vs) (.o2 (xs.map f)) := by
  refine ev_is (ev_lc2 (fun _ => true) (fun i => f (xs.getD i Rp.df)) (ei_list h) hn (fun k hk => by simp at hk; rw [hk]; exact hj) hu (fun i hi => fun B R0 R H ρ Δ σ S Q q _ => q R H S) (fun i hi _ => he _ (by rw [getD_eq hi]; exact List.getElem_mem hi))) ?_
  rw [kept_all]
  refine congrArg Sl.o2 (List.ext_getElem (by simp) fun i h1 h2 => ?_)
  simp at h1
  simp [h1]
/-- [list(row) for row in table], the table own -/
theorem ev_copyT2 {xss : List (List β)} {j : Nat} (h : Ev c Γ tl (.im xss)) (hn : xss.length < 1000000) (hu : UnAt Γ [j]) (hv : ∀ r : List β, (Γ.set j (.im r))[j]? = some (.im r)) : Ev c Γ (tLc (iList c.Z.K tl) (gName j) tYes (tCB (gList c.Z.K) (tCons (tVar j) tNil)) [j]) (.o2 xss) :=
  ev_is (ev_mapL2 (xs := xss) (fun r => r) h hn (by simp) hu fun r _ => ev_list (ev_var (hv r))) (congrArg Sl.o2 (List.map_id' _))
/-- worth d, the heap as it was -/
def EvP (c : Cn) (Γ : List Sl) (t : TE) {α : Type} [Rp α] (d : α) : Prop := ∀ B R0 R H ρ Δ σ, Sx c.Z B R0 R H ρ Δ σ Γ → ∀ Q : VK, (∀ v, Rp.rp c.Z R v d → Q v H) → t σ H Q
theorem ep_var {d : α} {i : Nat} (e : Γ[i]? = some (.im d)) : EvP c Γ (tVar i) d := fun B R0 R H ρ Δ σ S Q q => by
  obtain ⟨v, h1, h2⟩ := sx_im S e
  exact ⟨v, h1, q v h2⟩
theorem ep_int {i : Int} : EvP c Γ (tC (.int i)) i := fun B R0 R H ρ Δ σ S Q q => q _ rfl
theorem ep_ix {xs : List α} {i : Int} (ha : EvP c Γ ta xs) (hb : EvP c Γ tb i) (h0 : 0 ≤ i) (h1 : i < xs.length) : EvP c Γ (tOp (gIx c.Z.K) ta tb) (gt xs i) := fun B R0 R H ρ Δ σ S Q q => ha B R0 R H ρ Δ σ S _ fun v rv => hb B R0 R H ρ Δ σ S _ fun w rw => by
  obtain ⟨a, vs, rfl, ha, hp⟩ := rv
  obtain ⟨k, hk, rk⟩ := paired_get hp (gt_some h0 h1)
  exact .inl ⟨a, vs, i, k, rfl, rw, SqL.of (sx_same S _ _ ha), atI_of h0 (by rw [Paired.length hp]; exact h1) hk, q k rk⟩
/-- xss[i][j] = y -/
theorem w_put2 {k : Nat} {xss : List (List α)} {y : α} {i j : Int} (e : Γ[k]? = some (.o2 xss)) (h : Ev c Γ te (.im y)) (hi : EvP c Γ ta i) (hj : EvP c Γ tb j) (h0 : 0 ≤ i) (h1 : i < xss.length) (h2 : 0 ≤ j) (h3 : j < (gt xss i).length)
    (kk : P.nx (Γ.set k (.o2 (xss.set i.toNat ((gt xss i).set j.toNat y))))) : W c Γ (tAsg te (gSub (tOp (gIx c.Z.K) (tVar k) ta) tb gSet)) P := fun B R0 R H ρ Δ σ D S n r bb kk' x =>
  h B R0 R H ρ Δ σ S _ (fun w R1 H1 S1 => by
    obtain ⟨p, qs, g2, g3, g4, g5⟩ := sx_mut2 (sx_pop S1) e
    have ew := sx_top' S1
    refine ⟨.ref p, g2, hi B R0 R1 H1 _ _ σ S1 _ fun z ez => ?_⟩
    obtain ⟨q, hq, vs, hH, hp⟩ := paired_get g4 (gt_some h0 h1)
    refine .inl ⟨p, qs.map V.ref, i, .ref q, rfl, ez, SqL.of g3, atI_of h0 (by rw [List.length_map, Paired.length g4]; exact h1) (by rw [List.getElem?_map, hq]; rfl), ?_⟩
    refine hj B R0 R1 H1 _ _ σ S1 _ fun z2 ez2 => .inl ?_
    exact ⟨q, vs, j, j.toNat, rfl, ez2, hH, ixN_of h2 (by rw [Paired.length hp]; exact h3), n R1 _ _ _ (g5 i.toNat q _ _ hq (paired_set ew _ hp)) kk⟩) x
end
end TB
namespace TB
open PySem L2
section
variable {Z : Zz} {B R0 R R' RL H H' : Hp} {τ ρ σ : List (Option V)} {Θ Δ Γ : List Sl} {s so : Sl} {o : Option V} {f own own' : List Addr}
/-- slot i's thing is taken to the top -/
theorem sy_take (S : Sy Z B R0 R H τ Θ) {i : Nat} (e : Θ[i]? = some s) : ∃ o, τ[i]? = some o ∧ Sy Z B R0 R H (o :: τ) (s :: Θ.set i .un) := by
  obtain ⟨own, hs, es⟩ := S
  obtain ⟨o, g1, f, g2, h2, h3, h4, h6⟩ := es_at es e
  subst h3
  have h7 := h6 R H o .un [] (Same.refl _) (fun _ _ => rfl) rfl
  rw [set_same h2, List.append_nil] at h7
  refine ⟨o, h2, f ++ (g1 ++ g2), hs_sub hs (fun p hp => ?_) ?_, f, g1 ++ g2, rfl, h4, h7⟩
  · simp only [List.mem_append] at hp ⊢
    grind
  · have nd := hs.nd
    simp only [List.nodup_append, List.mem_append] at nd ⊢
    grind
theorem sx_take (S : Sx Z B R0 R H ρ Δ σ Γ) {i : Nat} (e : Γ[i]? = some s) : ∃ o, σ[i]? = some o ∧ Sx Z B R0 R H (o :: ρ) (s :: Δ) σ (Γ.set i .un) := by
  obtain ⟨h, S⟩ := S
  obtain ⟨o, h1, h2⟩ := sy_take S (i := ρ.length + i) (by rw [at_slot h]; exact e)
  rw [at_slot'] at h1
  rw [h, List.set_append_right _ _ (by omega), show Δ.length + i - Δ.length = i by omega] at h2
  exact ⟨o, h1, by simp [h], h2⟩
end
section
variable {c : Cn} {Γ : List Sl} {ta tb te tl : TE} {tt tc : TT} {t u : TS} {s so : Sl} {α β γ : Type} {_ : Rp α} {_ : Rp β} {_ : Rp γ} {P : Po} {d : α}
theorem slok_val (h : ∀ o f Z R H, slok Z R H o s f → ∃ v, o = some v) {Z : Zz} {R H : Hp} {o : Option V} {f : List Addr} (k : slok Z R H o s f) : ∃ v, o = some v := h _ _ _ _ _ k
/-- a thing of some kind: a value stands there -/
def Val (s : Sl) : Prop := ∀ Z R H o f, slok Z R H o s f → ∃ v, o = some v
theorem val_ol {xs : List α} : Val (.ol xs) := fun _ _ _ _ _ ⟨p, _, _, h, _⟩ => ⟨_, h⟩
theorem val_o2 {xss : List (List α)} : Val (.o2 xss) := fun _ _ _ _ _ ⟨p, _, _, h, _⟩ => ⟨_, h⟩
theorem val_ow {O : Own} : Val (.ow O) := fun _ _ _ _ _ ⟨v, h, _⟩ => ⟨v, h⟩
theorem val_od {kvs : List (Int × α)} : Val (.od kvs) := fun _ _ _ _ _ ⟨p, _, _, h, _⟩ => ⟨_, h⟩
/-- an own thing is told -/
theorem w_retO {i : Nat} (hv : Val so) (e : Γ[i]? = some so) (k : P.rt so) : W c Γ (tRet (tVar i)) P := fun B R0 R H ρ Δ σ D S n r b kk x => by
  obtain ⟨o, h1, S2⟩ := sx_take S e
  obtain ⟨o2, f, h2, h3⟩ := sx_slot S e
  obtain ⟨v, rfl⟩ := hv _ _ _ _ _ h3
  rw [h1] at h2
  cases h2
  exact ⟨v, h1, r R H v so (sx_leave S2) k⟩
/-- an own thing goes to another name -/
theorem w_asgO {i j : Nat} (hv : Val so) (e : Γ[i]? = some so) (k : P.nx ((Γ.set i .un).set j so)) : W c Γ (tAsg (tVar i) (gName j)) P := fun B R0 R H ρ Δ σ D S n r b kk x => by
  obtain ⟨o, h1, S2⟩ := sx_take S e
  obtain ⟨o2, f, h2, h3⟩ := sx_slot S e
  obtain ⟨v, rfl⟩ := hv _ _ _ _ _ h3
  rw [h1] at h2
  cases h2
  exact ⟨v, h1, n R H _ _ (sx_asg S2 j) k⟩
/-- a group of own parts is told -/
theorem w_retGroup {rows : List (List Int)} {unit : Int} {backs : List Int} {i j : Nat} (hZ : GrpC c.Z) (h : Ev c Γ ta (.o2 rows)) (hi : Γ[i]? = some (.im unit)) (hj : Γ[j]? = some (.ol backs)) (k : P.rt (.fo (⟨rows.length, rows, unit, backs⟩ : Grp))) : W c Γ (tRet (tMake (c.Z.cls .Group) (spI_Group c.Z) [] E0 (tCons ta (tCons (tVar i) (tCons (tVar j) tNil))))) P := fun B R0 R H ρ Δ σ D S n r b kk xk =>
  h B R0 R H ρ Δ σ S _ (fun v R1 H1 S1 => by
    obtain ⟨v2, g1, g2⟩ := sx_im S1 hi
    have hu : v2 = .int unit := g2
    subst hu
    obtain ⟨o3, g3, S2⟩ := sx_take S1 hj
    obtain ⟨hl, own, hs, f, g, rfl, ⟨p3, vs3, rfl, rfl, h3, h4⟩, f2, g', rfl, ⟨p1, qs, rfl, h6, h7, h8⟩, h9⟩ := sx_leave S2
    cases h6
    refine ⟨_, g1, _, g3, fun x dx nx ndx hne => ?_⟩
    have nlx : p1 ≠ x := fun e => by subst e; rw [nx] at h7; cases h7
    have nld : p1 ≠ dx := fun e => by subst e; rw [ndx] at h7; cases h7
    refine ⟨x, dx, p1, qs.map V.ref, _, _, rfl, upd_same, by rw [upd_ne nlx, upd_ne nld]; exact h7, hZ, fun H2 q1 q2 => ⟨rfl, ?_⟩⟩
    have old : ∀ p, H1 p ≠ none → H2 p = H1 p := fun p hp => by
      have a1 : p ≠ x := fun e => hp (e ▸ nx)
      have a2 : p ≠ dx := fun e => hp (e ▸ ndx)
      rw [q2 p a1, upd_ne a1, upd_ne a2]
    have sm : Same H1 H2 := fun p o e => by rw [old p (by rw [e]; simp)]; exact e
    have hd : H2 dx ≠ none := by rw [q2 dx hne, upd_ne hne, upd_same]; simp
    have hx : H2 x ≠ none := by rw [q1]; simp
    have own_old : ∀ p ∈ p3 :: ((p1 :: qs) ++ g'), H1 p ≠ none := by
      intro p hp
      have es2 : Es c.Z R1 H1 (some (.ref p3) :: some (.ref p1) :: (ρ ++ [])) (.ol backs :: .o2 rows :: (Δ ++ [])) (p3 :: ((p1 :: qs) ++ g')) := ⟨[p3], _, rfl, ⟨p3, vs3, rfl, rfl, h3, h4⟩, p1 :: qs, g', rfl, ⟨p1, qs, rfl, rfl, h7, h8⟩, h9⟩
      exact es_some es2 p hp
    have nin : ∀ p, H1 p = none → p ∉ p3 :: ((p1 :: qs) ++ g') := fun p hp z => own_old p z hp
    have e3 : H2 p3 = some (.lst vs3) := by rw [old p3 (by rw [h3]; simp)]; exact h3
    have e7 : H2 p1 = some (.lst (qs.map V.ref)) := by rw [old p1 (by rw [h7]; simp)]; exact h7
    refine r R1 H2 _ (.fo (⟨rows.length, rows, unit, backs⟩ : Grp)) ⟨by simpa using hl, (x :: dx :: p3 :: p1 :: qs) ++ g', ⟨hs.rh.trans sm, hs.bh.trans sm, hs.r0, hs.nw, fun p hp => ?_, ?_⟩, x :: dx :: p3 :: p1 :: qs, g', rfl, ⟨_, rfl, ?_, fun p hp => ?_⟩, es_mono (Same.refl _) (fun p hp => old p (own_old p (by simp [hp]))) h9⟩ k
    · simp only [List.cons_append, List.mem_cons] at hp
      rcases hp with rfl | rfl | hp
      · exact ⟨hs.rh.free nx, hs.bh.free nx⟩
      · exact ⟨hs.rh.free ndx, hs.bh.free ndx⟩
      · exact hs.ow p (by simpa using hp)
    · have n1 := nin x nx
      have n2 := nin dx ndx
      have nd := hs.nd
      simp only [List.cons_append, List.nil_append] at nd n1 n2 ⊢
      refine List.nodup_cons.mpr ⟨?_, List.nodup_cons.mpr ⟨n2, nd⟩⟩
      simp only [List.mem_cons] at n1 ⊢
      rintro (z | z)
      · exact hne z.symm
      · exact n1 z
    · refine ⟨hZ, x, dx, _, _, _, _, rfl, by rw [res_in (by simp)]; exact q1, by rw [List.length_map, Paired.length h8]; rfl, ⟨p1, _, rfl, by rw [res_in (by simp)]; exact e7, ?_⟩, rfl, p3, vs3, rfl, by rw [res_in (by simp)]; exact e3, paired_mono (fun _ _ => Flt.fl) h4⟩
      have h8' : Paired (inOk c.Z (fun _ => none) H1) qs rows := paired_mono (fun _ _ ⟨vs, a, b⟩ => ⟨vs, a, paired_mono (fun _ _ => Flt.fl) b⟩) h8
      exact inOk_rp (fun _ _ e => by cases e) (fun q hq o e => by rw [res_in (by simp [hq]), old q (by rw [e]; simp)]; exact e) h8'
    · simp only [List.mem_cons] at hp
      rcases hp with rfl | rfl | hp
      · exact hx
      · exact hd
      · have : H1 p ≠ none := own_old p (by simp only [List.mem_cons, List.mem_append]; grind)
        rw [old p this]
        exact this) xk
end
end TB
namespace TB
open PySem L2
section
variable {c : Cn} {Γ : List Sl} {ta tb te tl : TE} {tt tc : TT} {t u : TS} {s so : Sl} {α β γ : Type} {_ : Rp α} {_ : Rp β} {_ : Rp γ} {P : Po} {d : α}
/-- x, y = a, b -/
theorem w_par {x : α} {y : β} {i j : Nat} (ha : Ev c Γ ta (.im x)) (hb : Ev c Γ tb (.im y)) (k : P.nx ((Γ.set i (.im x)).set j (.im y))) : W c Γ (tPar i j (tCons ta (tCons tb tNil))) P := fun B R0 R H ρ Δ σ D S n r b kk xk =>
  (ea_cons ha (ea_cons hb ea_nil)) B R0 R H ρ Δ σ S _ (fun vs R1 H1 S1 sl => by
    cases sl with
    | cons r1 t1 =>
      cases t1 with
      | cons r2 t2 =>
        cases t2
        rename_i v w
        exact ⟨v, w, rfl, n R1 H1 _ _ (sx_asg (sx_push (sx_asg (sx_push S1 r1) i) r2) j) k⟩) xk
/-- xs.insert(i, y) -/
theorem w_ins {k : Nat} {xs : List α} {y : α} {i : Int} (e : Γ[k]? = some (.ol xs)) (hi : Ev c Γ ta (.im i)) (h : Ev c Γ te (.im y)) (h0 : 0 ≤ i) (h1 : i < 2 ^ 63) (hl : xs.length < 1000000) (kk : P.nx (Γ.set k (.ol (xs.take i.toNat ++ [y] ++ xs.drop i.toNat)))) : W c Γ (tDrop (tBM c.Z.K "list" gInsert (tVar k) (tCons ta (tCons te tNil)))) P := fun B R0 R H ρ Δ σ D S n r bb kk' x => by
  obtain ⟨p, vs, h2, h3, h4, _⟩ := sx_mutl S e
  refine ⟨.ref p, h2, tyL h3, (ea_cons hi (ea_cons h ea_nil)) B R0 R H ρ Δ σ S _ (fun ws R1 H1 S1 sl => ?_) x⟩
  cases sl with
  | cons r1 t1 =>
    cases t1 with
    | cons r2 t2 =>
      cases t2
      rename_i v w
      obtain ⟨p', vs', h2', h3', h4', h5⟩ := sx_mutl S1 e
      rw [h2] at h2'
      cases h2'
      have hl' := Paired.length h4'
      have rv : v = .int i := r1
      subst rv
      exact ⟨p, vs', i, w, rfl, rfl, h3', Nat.lt_of_lt_of_le (by omega : vs'.length < 1000000) (by decide), h0, h1, n R1 _ _ _ (h5 _ _ (paired_append (paired_append (paired_take _ h4') (.cons r2 .nil)) (paired_drop _ h4'))) kk⟩
end
theorem irange_suc {n : Int} (h : 0 ≤ n) : irange (n + 1) = irange n ++ [n] := by
  unfold irange
  rw [show (n + 1).toNat = n.toNat + 1 by omega, List.range_succ, List.map_append, List.map_singleton, show ((n.toNat : Nat) : Int) = n by omega]
theorem irange_0 : irange 0 = [] := rfl
end TB
namespace TB
open PySem L2
section
variable {c : Cn} {Γ : List Sl} {ta tb te tl : TE} {tt tc : TT} {t u : TS} {s so : Sl} {α β γ : Type} {_ : Rp α} {_ : Rp β} {_ : Rp γ} {P : Po} {d : α}
theorem w_appS {i : Nat} {xs : List α} {S : Sl → Prop} (e : Γ[i]? = some (.ol xs)) (h : EvS c Γ te S) (hl : xs.length < 1000000) (k : ∀ s, S s → ∃ y : α, s = .im y ∧ P.nx (Γ.set i (.ol (xs ++ [y])))) : W c Γ (tDrop (tBM c.Z.K "list" rAppend (tVar i) (tCons te tNil))) P := fun B R0 R H ρ Δ σ D S0 n r bb kk x => by
  obtain ⟨p, vs, h2, h3, h4, _⟩ := sx_mutl S0 e
  refine ⟨.ref p, h2, tyL h3, h B R0 R H ρ Δ σ S0 _ (fun w s R1 H1 es S1 => ?_) x⟩
  obtain ⟨y, rfl, kn⟩ := k s es
  obtain ⟨p', vs', h2', h3', h4', h5⟩ := sx_mutl (sx_pop S1) e
  rw [h2] at h2'
  cases h2'
  have hl' := Paired.length h4'
  exact ⟨p, vs', w, rfl, rfl, h3', Nat.lt_of_lt_of_le (by omega : vs'.length < 1000000) (by decide), n R1 _ _ _ (h5 (vs' ++ [w]) (xs ++ [y]) (paired_append h4' (.cons (sx_top' S1) .nil))) kn⟩
end
end TB
namespace TB
open PySem L2
section
variable {Z : Zz} {B R0 R R' RL H H' : Hp} {τ ρ σ : List (Option V)} {Θ Δ Γ : List Sl} {s so : Sl} {o : Option V} {f own own' : List Addr}
/-- slot i's own objects are let go, whatever becomes of them -/
theorem sx_wreck (S : Sx Z B R0 R H ρ Δ σ Γ) {i : Nat} (e : Γ[i]? = some s) : ∃ o f, σ[i]? = some o ∧ slok Z R H o s f ∧ ∀ H', (∀ p, p ∉ f → H' p = H p) → Sx Z B R0 R H' ρ Δ σ (Γ.set i .un) := by
  obtain ⟨hl, own, hs, es⟩ := S
  have e' : (Δ ++ Γ)[ρ.length + i]? = some s := by rw [at_slot hl]; exact e
  obtain ⟨o, g1, f, g2, h2, h3, h4, h6⟩ := es_at es e'
  rw [at_slot'] at h2
  subst h3
  refine ⟨o, f, h2, h4, fun H' k => ⟨hl, ?_⟩⟩
  have nd := hs.nd
  have ne : ∀ q ∈ g1 ++ g2, q ∉ f := fun q hq z => by
    simp only [List.nodup_append, List.mem_append] at nd hq
    grind
  have h7 := h6 R H' o .un [] (Same.refl _) (fun q hq => k q (ne q hq)) rfl
  have e2 : (ρ ++ σ).set (ρ.length + i) o = ρ ++ σ := set_same (by rw [at_slot']; exact h2)
  rw [e2, hl, List.set_append_right _ _ (by omega), show Δ.length + i - Δ.length = i by omega] at h7
  have out : ∀ p, (R p ≠ none ∨ B p ≠ none) → p ∉ f := fun p hp z => by
    have := hs.ow p (by simp [z])
    rcases hp with q | q
    · exact q this.1
    · exact q this.2
  refine ⟨_, ⟨fun p o a => by rw [k p (out p (.inl (by rw [a]; simp)))]; exact hs.rh _ _ a, fun p o a => by rw [k p (out p (.inr (by rw [a]; simp)))]; exact hs.bh _ _ a, hs.r0, hs.nw, fun p hp => hs.ow p ?_, nd_mid hs.nd⟩, h7⟩
  rw [List.append_nil] at hp
  simp only [List.mem_append] at hp ⊢
  grind
end
section
variable {c : Cn} {Γ : List Sl} {ta tb te tl : TE} {tt tc : TT} {t u : TS} {s so : Sl} {α β γ : Type} {_ : Rp α} {_ : Rp β} {_ : Rp γ} {P : Po} {d : α}
/-- xss.pop(), the list not asked again -/
theorem w_pop2 {i : Nat} {xss : List (List α)} (e : Γ[i]? = some (.o2 xss)) (h : xss ≠ []) (k : P.nx (Γ.set i .un)) : W c Γ (tDrop (tBM0 c.Z.K "list" rPop (tVar i))) P := fun B R0 R H ρ Δ σ D S n r bb kk x => by
  obtain ⟨o, f, h1, ⟨p, qs, rfl, rfl, h4, h5⟩, h6⟩ := sx_wreck S e
  have hl := Paired.length h5
  have hl2 : 0 < xss.length := List.length_pos_iff.mpr h
  have hg : (qs.map V.ref)[(qs.map V.ref).length - 1]? = some (V.ref (qs[qs.length - 1]'(by omega))) := by
    rw [List.getElem?_map, List.length_map, List.getElem?_eq_getElem (by omega)]
    rfl
  exact ⟨.ref p, h1, tyL h4, p, _, _, rfl, rfl, h4, hg, n R _ _ _ (h6 _ fun q hq => upd_ne fun z => hq (z ▸ List.mem_cons_self)) k⟩
/-- xs.pop(), the list not asked again -/
theorem w_popU {i : Nat} {xs : List α} (e : Γ[i]? = some (.ol xs)) (h : xs ≠ []) (k : P.nx (Γ.set i (.ol xs.dropLast))) : W c Γ (tDrop (tBM0 c.Z.K "list" rPop (tVar i))) P := fun B R0 R H ρ Δ σ D S n r bb kk x => by
  obtain ⟨p, vs, h2, h3, h4, h5⟩ := sx_mutl S e
  have hl := Paired.length h4
  have hl2 : 0 < xs.length := List.length_pos_iff.mpr h
  refine ⟨.ref p, h2, tyL h3, p, vs, vs[vs.length - 1]'(by omega), rfl, rfl, h3, List.getElem?_eq_getElem (by omega), n R _ _ _ (h5 vs.dropLast xs.dropLast ?_) k⟩
  rw [List.dropLast_eq_take, List.dropLast_eq_take, hl]
  exact paired_take _ h4
end
end TB

/-! TbM: more rules. -/
namespace TB
open PySem L2
section
variable {c : Cn} {Γ : List Sl} {ta tb te tl : TE} {tt tc : TT} {t u : TS} {s so : Sl} {α β γ : Type} {_ : Rp α} {_ : Rp β} {_ : Rp γ} {P : Po} {d : α}
/-- xs.index(y) -/
theorem ev_index {xs : List Int} {y : Int} {j : Nat} (h : Ev c Γ te (.im xs)) (ha : Ev c Γ ta (.im y)) (hj : xs[j]? = some y) (hno : ∀ m, m < j → xs[m]? ≠ some y) : Ev c Γ (tBM c.Z.K "list" (rIndex c.Z.K) te (tCons ta tNil)) (.im (j : Int)) := fun B R0 R H ρ Δ σ S Q q xk => h B R0 R H ρ Δ σ S _ (fun v R1 H1 S1 => by
  obtain ⟨a, vs, rfl, h2, h3⟩ := id (sx_top' S1)
  refine ⟨.inl ⟨rfl, vs, SqL.of (sx_same S1 _ _ h2)⟩, ha B R0 R1 H1 _ _ σ S1 _ (fun w R2 H2 S2 => ?_) xk.push1⟩
  have ew : w = .int y := sx_top' S2
  subst ew
  obtain ⟨a', vs', e', h2', h3'⟩ := sx_top' (sx_pop S2)
  cases e'
  have ev := paired_map_int h3'
  subst ev
  refine ⟨a, xs.map V.int, .int y, j, .int y, rfl, rfl, SqL.of (sx_same S2 _ _ h2'), rfl, ?_, by rw [List.getElem?_map, hj]; rfl, by simp [eqV], fun m z' hm hz => ?_, q _ R2 H2 (sx_push (sx_pop (sx_pop S2)) rfl)⟩
  · rw [List.all_eq_true]
    intro x hx
    obtain ⟨i, _, rfl⟩ := List.mem_map.mp hx
    rfl
  · rw [List.getElem?_map] at hz
    cases e : xs[m]? with
    | none => rw [e] at hz; cases hz
    | some i =>
      rw [e] at hz
      cases hz
      have : i ≠ y := fun z => hno m hm (by rw [e, z])
      simp [eqV, this]) xk
/-- a datum that may be None -/
theorem ev_isNone {o : Option Int} (ha : Ev c Γ ta (.im o)) : Ev c Γ (tOp gIs ta (tC .non)) (.im o.isNone) := ev_isN ha _ fun R v h => by
  cases o with
  | none => have : v = .non := h; subst this; rfl
  | some i => have : v = .int i := h; subst this; rfl
theorem ev_isSome {o : Option Int} (ha : Ev c Γ ta (.im o)) : Ev c Γ (tOp gIsNot ta (tC .non)) (.im o.isSome) := ev_isNotN ha _ fun R v h => by
  cases o with
  | none => have : v = .non := h; subst this; rfl
  | some i => have : v = .int i := h; subst this; rfl
end
end TB

/-! TbW: methods of own classes, own classes made, where something may be raised. -/
namespace TB
open PySem PySem.Spec PyProof.Rows L2
section
variable {X : Cx} {CX : CXT} {k : Nat} {f C : Addr} {fd : FuncData} {ps : List Str} {sp : Sp} {dvs : List V} {ds : List Value} {E : L2.St → XK} {x m : Str} {p pos apos : Pos} {e o : Expr} {es : List Expr} {ta : TE} {t : TA}
def tMethSD (C : Addr) (m : Str) (sp : Sp) (dvs : List V) (E : L2.St → XK) (ta : TE) (t : TA) : TE := fun σ H Q => ta σ H fun v H1 => ∃ b d gs, v = .ref b ∧ H1 b = some (.ins C d gs) ∧ gs.lookup m = none ∧ t σ H1 fun ws H2 => sp (v :: (ws ++ dvs)) H2 Q (E σ)
theorem pe_methSD {pl : Sem Bool} (he : PE X o ta) (cl : Cls X.K C) (me : Meth X.K C m f) (F : FnOk X.prog X.w X.K X.mg X.base CX k f fd ps sp) (room : Room k X.A) (hb : Binds X.K fd ps ds) (hd : Vals dvs ds) (hx : ∀ σ, PassesAt CX X σ (E σ)) (args : PA X (e :: es) t)
    (st : starEach (e :: es) X.env = (false, eval e X.env) :: starEach es X.env := by rfl) (pn : (backTo pos (starEach es X.env)).any (·.1) = false := by rfl)
    (ev : eval (.Call (.Attribute o m apos) (e :: es) [] pos) X.env = (do
      let own ← eval o X.env
      standAt apos.atName
      let (fn, rest) ← holding [own] (getMethod own m pl)
      callWith pos fn rest (backTo pos (starEach (e :: es) X.env)) (backToKw pos (keywordEach [] X.env))) := by rfl) :
    PE X (.Call (.Attribute o m apos) (e :: es) [] pos) (tMethSD C m sp dvs E ta t) :=
  ⟨fun pins s σ H Q I h => PySem.W.methodCall_KW (pl := pl) (thn (he.run pins s σ H _ I h) fun u s1 ⟨v, H1, I1, rv, b, d, gs, ev1, eb, lk, q⟩ => by
    subst ev1
    cases (show u = Value.ref b from rv)
    refine getmeth_ok I1 eb cl me lk (PySem.W.callWith_K (first := [.ref b]) (h₀ := X.base) I.ok.mod.kin me.kp (thn (args.run pos pins s1 σ H1 _ I1 q) fun us s2 ⟨ws, H2, I2, rw2, q2⟩ => ⟨I2.kIn, ?_⟩) st pn)
    exact run_fnSD (us := .ref b :: us) (vs := .ref b :: ws) F room hb hd (hx σ) I2 (.cons rfl rw2) q2) ev⟩
def tMakeSD (C : Addr) (sp : Sp) (dvs : List V) (E : L2.St → XK) (t : TA) : TE := fun σ H Q => t σ H fun ws H1 => ∀ y d, H1 y = none → H1 d = none → d ≠ y →
  sp (.ref y :: (ws ++ dvs)) (upd (upd H1 d (.own y)) y (.ins C d [])) (fun v H2 => v = .non ∧ Q (.ref y) H2) fun cl x H2 => E σ cl x H2
theorem run_makeSD {pins : List (Addr × Obj)} {σ : L2.St} {H : Hp} {s : Shared} {Q : VK} {us : List Value} {vs : List V} (M : Mk X.K C f) (F : FnOk X.prog X.w X.K X.mg X.base CX k f fd ps sp) (room : Room (k + 1) X.A) (hb : Binds X.K fd ps ds) (hd : Vals dvs ds)
    (hx : PassesAt CX X σ (E σ)) (I : Inv X pins σ H s) (r : Vals vs us)
    (h : ∀ y d, H y = none → H d = none → d ≠ y → sp (.ref y :: (vs ++ dvs)) (upd (upd H d (.own y)) y (.ins C d [])) (fun v H2 => v = .non ∧ Q (.ref y) H2) (E σ)) :
    wpAny (model X.prog X.w) X.A (call (.ref C) us) (EP X pins σ Q) X.xe s := by
  have q1 := h (s.heap.objs.size + 1) s.heap.objs.size (I.hok.fresh (Nat.le_succ _)) (I.hok.fresh (Nat.le_refl _)) (Nat.ne_of_lt (Nat.lt_succ_self _))
  have J := Inv.made (C := C) I
  have rr : Vals (V.ref (s.heap.objs.size + 1) :: (vs ++ dvs)) (Value.ref (s.heap.objs.size + 1) :: (us ++ ds)) := .cons rfl (r.append hd)
  have ln : (Value.ref (s.heap.objs.size + 1) :: us ++ ds).length = ps.length := (rr.length.symm.trans (F.len _ _ _ _ q1))
  refine wpAny_call (make_map (f := f) I.kIn M.makes M.init (beq_iff_eq.mp M.fn) (codeAny_mono (F.run _ X.stack _ _ ⟨Value.ref (s.heap.objs.size + 1) :: us, []⟩ (Value.ref (s.heap.objs.size + 1) :: (us ++ ds)) _ _ (E σ) (room.make C us []) (J.env0.make C us []) (hb _ (Value.ref (s.heap.objs.size + 1) :: us) J.kIn ln) rr q1) fun o s2 q2 => ?_))
  match o, q2 with
  | .error e, q2 => exact hx pins _ _ e s2 J q2
  | .ok (.ret u), q2 =>
    obtain ⟨v, H', I3, rv, ev, q3⟩ := J.after q2
    subst ev
    exact ⟨rv, V.ref (s.heap.objs.size + 1), H', I3, rfl, q3⟩
theorem pe_makeSD (M : Mk X.K C f) (F : FnOk X.prog X.w X.K X.mg X.base CX k f fd ps sp) (room : Room (k + 1) X.A) (hg : Gl X x) (hm : X.mg x = some (.ref C)) (hb : Binds X.K fd ps ds) (hd : Vals dvs ds) (hx : ∀ σ, PassesAt CX X σ (E σ))
    (args : PA X (e :: es) t) (nd : (x == ("__debug__" : Str)) = false := by decide) (st : starEach (e :: es) X.env = (false, eval e X.env) :: starEach es X.env := by rfl) (pn : (backTo pos (starEach es X.env)).any (·.1) = false := by rfl) :
    PE X (.Call (.Name x p) (e :: es) [] pos) (tMakeSD C sp dvs E t) :=
  ⟨fun pins s σ H Q I h => wpAny_Call_Name_kw (ld_glob I hg hm (PySem.W.callWith_K (h₀ := X.base) I.ok.mod.kin M.kp (thn (args.run pos pins s σ H _ I h) fun us s1 ⟨ws, H1, I1, rw1, q⟩ => ⟨I1.kIn, run_makeSD M F room hb hd (hx σ) I1 rw1 q⟩) st pn) nd)⟩
end
end TB

/-! TbT: own trees: lists and tuples, one in another, all of this frame's own. -/
namespace TB
open PySem L2
inductive OT where
  | i (n : Int)
  | b (x : Bool)
  | z
  | l (xs : List OT)
  | t (xs : List OT)
mutual
def otR (h : Hp) : OT → V → List Addr → Prop
  | .i n, v, f => v = .int n ∧ f = []
  | .b x, v, f => v = .bl x ∧ f = []
  | .z, v, f => v = .non ∧ f = []
  | .l xs, v, f => ∃ a vs g, v = .ref a ∧ f = a :: g ∧ h a = some (.lst vs) ∧ otRs h xs vs g
  | .t xs, v, f => ∃ a vs g, v = .ref a ∧ f = a :: g ∧ h a = some (.tup vs) ∧ otRs h xs vs g
def otRs (h : Hp) : List OT → List V → List Addr → Prop
  | [], vs, f => vs = [] ∧ f = []
  | x :: xs, vs, f => ∃ v ws g1 g2, vs = v :: ws ∧ f = g1 ++ g2 ∧ otR h x v g1 ∧ otRs h xs ws g2
end
mutual
theorem otR_frame {h h' : Hp} : ∀ {T : OT} {v : V} {f : List Addr}, (∀ p ∈ f, h' p = h p) → otR h T v f → otR h' T v f
  | .i n, _, _, _, q => q
  | .b x, _, _, _, q => q
  | .z, _, _, _, q => q
  | .l xs, _, _, k, q => by
    obtain ⟨a, vs, g, e1, rfl, h1, h2⟩ := q
    exact ⟨a, vs, g, e1, rfl, by rw [k a (by simp)]; exact h1, otRs_frame (fun p hp => k p (by simp [hp])) h2⟩
  | .t xs, _, _, k, q => by
    obtain ⟨a, vs, g, e1, rfl, h1, h2⟩ := q
    exact ⟨a, vs, g, e1, rfl, by rw [k a (by simp)]; exact h1, otRs_frame (fun p hp => k p (by simp [hp])) h2⟩
theorem otRs_frame {h h' : Hp} : ∀ {Ts : List OT} {vs : List V} {f : List Addr}, (∀ p ∈ f, h' p = h p) → otRs h Ts vs f → otRs h' Ts vs f
  | [], _, _, _, q => q
  | x :: xs, _, _, k, q => by
    obtain ⟨v, ws, g1, g2, e1, rfl, h1, h2⟩ := q
    exact ⟨v, ws, g1, g2, e1, rfl, otR_frame (fun p hp => k p (by simp [hp])) h1, otRs_frame (fun p hp => k p (by simp [hp])) h2⟩
end
theorem otRs_len {h : Hp} : ∀ {Ts : List OT} {vs : List V} {f : List Addr}, otRs h Ts vs f → vs.length = Ts.length
  | [], _, _, q => by rw [q.1]; rfl
  | x :: xs, _, _, q => by
    obtain ⟨v, ws, g1, g2, rfl, _, _, h2⟩ := q
    rw [List.length_cons, List.length_cons, otRs_len h2]
/-- one item, and the rest -/
theorem otRs_at {h : Hp} : ∀ {Ts : List OT} {vs : List V} {f : List Addr} {i : Nat} {T : OT}, otRs h Ts vs f → Ts[i]? = some T → ∃ v f1 g f2, vs[i]? = some v ∧ f = f1 ++ g ++ f2 ∧ otR h T v g ∧
    ∀ (h' : Hp) (T' : OT) (g' : List Addr), (∀ p ∈ f1 ++ f2, h' p = h p) → otR h' T' v g' → otRs h' (Ts.set i T') vs (f1 ++ g' ++ f2)
  | [], _, _, _, _, _, e => by simp at e
  | x :: xs, _, _, 0, T, q, e => by
    obtain ⟨v, ws, g1, g2, rfl, rfl, h1, h2⟩ := q
    have e' : x = T := by simpa using e
    subst e'
    exact ⟨v, [], g1, g2, rfl, by simp, h1, fun h' T' g' k r => ⟨v, ws, g', g2, rfl, by simp, r, otRs_frame (fun p hp => k p (by simp [hp])) h2⟩⟩
  | x :: xs, _, _, i + 1, T, q, e => by
    obtain ⟨v, ws, g1, g2, rfl, rfl, h1, h2⟩ := q
    obtain ⟨w, f1, g, f2, e1, rfl, h3, h4⟩ := otRs_at (i := i) (T := T) h2 (by simpa using e)
    refine ⟨w, g1 ++ f1, g, f2, by simpa using e1, by simp, h3, fun h' T' g' k r => ⟨v, ws, g1, f1 ++ g' ++ f2, rfl, by simp, otR_frame (fun p hp => k p (by simp [hp])) h1, h4 h' T' g' (fun p hp => k p (by simp at hp ⊢; rcases hp with q | q <;> simp [q])) r⟩⟩
theorem otRs_app {h : Hp} : ∀ {Ts Us : List OT} {vs ws : List V} {f g : List Addr}, otRs h Ts vs f → otRs h Us ws g → otRs h (Ts ++ Us) (vs ++ ws) (f ++ g)
  | [], _, _, _, _, _, q, r => by
    obtain ⟨rfl, rfl⟩ := q
    exact r
  | x :: xs, _, _, _, _, _, q, r => by
    obtain ⟨v, ws, g1, g2, rfl, rfl, h1, h2⟩ := q
    exact ⟨v, _, g1, _, rfl, by simp, h1, otRs_app h2 r⟩
end TB
namespace TB
open PySem L2
theorem otR_nd {h : Hp} : ∀ {T : OT} {v : V} {f : List Addr}, otR h T v f → ∀ p ∈ f, h p ≠ none := by
  intro T
  have key : (∀ (v : V) (f : List Addr), otR h T v f → ∀ p ∈ f, h p ≠ none) := by
    refine OT.rec (motive_1 := fun T => ∀ (v : V) (f : List Addr), otR h T v f → ∀ p ∈ f, h p ≠ none) (motive_2 := fun Ts => ∀ (vs : List V) (f : List Addr), otRs h Ts vs f → ∀ p ∈ f, h p ≠ none) ?_ ?_ ?_ ?_ ?_ ?_ ?_ T
    · rintro n v f ⟨_, rfl⟩ p hp; simp at hp
    · rintro n v f ⟨_, rfl⟩ p hp; simp at hp
    · rintro v f ⟨_, rfl⟩ p hp; simp at hp
    · rintro xs ih v f ⟨a, vs, g, _, rfl, h1, h2⟩ p hp
      rcases List.mem_cons.mp hp with rfl | hp
      · rw [h1]; simp
      · exact ih _ _ h2 p hp
    · rintro xs ih v f ⟨a, vs, g, _, rfl, h1, h2⟩ p hp
      rcases List.mem_cons.mp hp with rfl | hp
      · rw [h1]; simp
      · exact ih _ _ h2 p hp
    · rintro vs f ⟨_, rfl⟩ p hp; simp at hp
    · rintro x xs ih1 ih2 vs f ⟨v, ws, g1, g2, _, rfl, h1, h2⟩ p hp
      rcases List.mem_append.mp hp with hp | hp
      · exact ih1 _ _ h1 p hp
      · exact ih2 _ _ h2 p hp
  exact fun {v f} q => key v f q
/-- the tree as own objects -/
def Ot (T : OT) : Own := ⟨fun _ _ h v => ∃ f : List Addr, f.Nodup ∧ otR h T v f, fun _ h => h⟩
abbrev Sl.ot (T : OT) : Sl := .ow (Ot T)
theorem det_ot {T : OT} : Det (.ot T) := fun _ _ _ _ _ _ h => h
theorem val_ot {T : OT} : Val (.ot T) := fun _ _ _ _ _ ⟨v, h, _⟩ => ⟨v, h⟩
/-- s may be told as s' -/
def SubS (s s' : Sl) : Prop := ∀ Z R H o f, f.Nodup → slok Z R H o s f → ∃ f', f'.Nodup ∧ (∀ p ∈ f', p ∈ f) ∧ slok Z R H o s' f'
section
variable {Z : Zz} {B R0 R R' RL H H' : Hp} {τ ρ σ : List (Option V)} {Θ Δ Γ : List Sl} {s s' so : Sl} {o : Option V} {f own own' : List Addr} {α β γ : Type} {_ : Rp α} {_ : Rp β} {_ : Rp γ} {T U : OT}
/-- the own objects of one slot, and what may be made of them -/
theorem sx_own (S : Sx Z B R0 R H ρ Δ σ Γ) {i : Nat} (e : Γ[i]? = some s) : ∃ o f, σ[i]? = some o ∧ slok Z R H o s f ∧ f.Nodup ∧
    ∀ (H' : Hp) (s' : Sl) (f' : List Addr), (∀ p, p ∉ f → H' p = H p) → f'.Nodup → (∀ p ∈ f', p ∈ f) → slok Z R H' o s' f' → Sx Z B R0 R H' ρ Δ σ (Γ.set i s') := by
  obtain ⟨hl, own, hs, es⟩ := S
  have e' : (Δ ++ Γ)[ρ.length + i]? = some s := by rw [at_slot hl]; exact e
  obtain ⟨o, g1, f, g2, h2, h3, h4, h6⟩ := es_at es e'
  rw [at_slot'] at h2
  subst h3
  have nd := hs.nd
  refine ⟨o, f, h2, h4, by simp only [List.nodup_append] at nd; exact nd.1.2.1, fun H' s' f' k ndf sub h5 => ⟨hl, ?_⟩⟩
  have ne : ∀ q ∈ g1 ++ g2, q ∉ f := fun q hq z => by
    simp only [List.nodup_append, List.mem_append] at nd hq
    grind
  have h7 := h6 R H' o s' f' (Same.refl _) (fun q hq => k q (ne q hq)) h5
  have e2 : (ρ ++ σ).set (ρ.length + i) o = ρ ++ σ := set_same (by rw [at_slot']; exact h2)
  rw [e2, hl, List.set_append_right _ _ (by omega), show Δ.length + i - Δ.length = i by omega] at h7
  have out : ∀ p, (R p ≠ none ∨ B p ≠ none) → p ∉ f := fun p hp z => by
    have := hs.ow p (by simp [z])
    rcases hp with q | q
    · exact q this.1
    · exact q this.2
  refine ⟨_, ⟨fun p o a => by rw [k p (out p (.inl (by rw [a]; simp)))]; exact hs.rh _ _ a, fun p o a => by rw [k p (out p (.inr (by rw [a]; simp)))]; exact hs.bh _ _ a, hs.r0, hs.nw, fun p hp => hs.ow p ?_, ?_⟩, h7⟩
  · simp only [List.mem_append] at hp ⊢
    rcases hp with (hp | hp) | hp
    · exact .inl (.inl hp)
    · exact .inl (.inr (sub p hp))
    · exact .inr hp
  · simp only [List.nodup_append, List.mem_append] at nd ⊢
    grind
theorem sx_sub (h : SubS s s') (S : Sx Z B R0 R H ρ Δ σ Γ) {i : Nat} (e : Γ[i]? = some s) : Sx Z B R0 R H ρ Δ σ (Γ.set i s') := by
  obtain ⟨o, f, h1, h2, h3, h4⟩ := sx_own S e
  obtain ⟨f', h5, h6, h7⟩ := h Z R H o f h3 h2
  exact h4 H s' f' (fun _ _ => rfl) h5 h6 h7
/-- the top's own objects -/
theorem sx_ownTop (S : Sx Z B R0 R H (o :: ρ) (s :: Δ) σ Γ) : ∃ f, slok Z R H o s f ∧ f.Nodup ∧
    ∀ (H' : Hp) (o' : Option V) (s' : Sl) (f' : List Addr), (∀ p, p ∉ f → H' p = H p) → f'.Nodup → (∀ p ∈ f', p ∈ f) → slok Z R H' o' s' f' → Sx Z B R0 R H' (o' :: ρ) (s' :: Δ) σ Γ := by
  obtain ⟨hl, own, hs, f, g, rfl, h1, h2⟩ := S
  have nd := hs.nd
  refine ⟨f, h1, by simp only [List.nodup_append] at nd; exact nd.1, fun H' o' s' f' k ndf sub h5 => ⟨by simpa using hl, f' ++ g, ⟨fun p o a => ?_, fun p o a => ?_, hs.r0, hs.nw, fun p hp => hs.ow p ?_, ?_⟩, f', g, rfl, h5, es_mono (Same.refl _) (fun p hp => k p fun z => ?_) h2⟩⟩
  · rw [k p fun z => by have := (hs.ow p (by simp [z])).1; rw [a] at this; cases this]; exact hs.rh _ _ a
  · rw [k p fun z => by have := (hs.ow p (by simp [z])).2; rw [a] at this; cases this]; exact hs.bh _ _ a
  · simp only [List.mem_append] at hp ⊢
    rcases hp with hp | hp
    · exact .inl (sub p hp)
    · exact .inr hp
  · simp only [List.nodup_append] at nd ⊢
    exact ⟨ndf, nd.2.1, fun a ha b hb => nd.2.2 a (sub a ha) b hb⟩
  · simp only [List.nodup_append] at nd
    exact nd.2.2 p z p hp rfl
theorem sx_subTop (h : SubS s s') (S : Sx Z B R0 R H (o :: ρ) (s :: Δ) σ Γ) : Sx Z B R0 R H (o :: ρ) (s' :: Δ) σ Γ := by
  obtain ⟨f, h2, h3, h4⟩ := sx_ownTop S
  obtain ⟨f', h5, h6, h7⟩ := h Z R H o f h3 h2
  exact h4 H o s' f' (fun _ _ => rfl) h5 h6 h7
end
theorem slok_ot {Z : Zz} {R H : Hp} {v : V} {T : OT} {f : List Addr} (nd : f.Nodup) (h : otR H T v f) : slok Z R H (some v) (.ot T) f :=
  ⟨v, rfl, ⟨f, nd, otR_frame (fun p hp => res_in hp) h⟩, otR_nd h⟩
theorem slok_ot' {Z : Zz} {R H : Hp} {o : Option V} {T : OT} {f : List Addr} (h : slok Z R H o (.ot T) f) : ∃ v g, o = some v ∧ g.Nodup ∧ (∀ p ∈ g, p ∈ f) ∧ otR H T v g := by
  obtain ⟨v, h1, ⟨g, h2, h3⟩, h4⟩ := h
  have sub : ∀ p ∈ g, p ∈ f := fun p hp => by
    have := otR_nd h3 p hp
    unfold res at this
    by_cases c : p ∈ f
    · exact c
    · rw [if_neg c] at this; exact absurd rfl this
  exact ⟨v, g, h1, h2, sub, otR_frame (fun p hp => (res_in (sub p hp)).symm) h3⟩
theorem otRs_ints {h : Hp} : ∀ {xs : List Int} {vs : List V} {f : List Addr}, otRs h (xs.map OT.i) vs f ↔ vs = xs.map V.int ∧ f = []
  | [], vs, f => Iff.rfl
  | x :: xs, vs, f => by
    constructor
    · rintro ⟨v, ws, g1, g2, rfl, rfl, ⟨rfl, rfl⟩, h2⟩
      obtain ⟨rfl, rfl⟩ := otRs_ints.mp h2
      exact ⟨rfl, rfl⟩
    · rintro ⟨rfl, rfl⟩
      exact ⟨_, _, [], [], rfl, rfl, ⟨rfl, rfl⟩, otRs_ints.mpr ⟨rfl, rfl⟩⟩
abbrev oti (xs : List Int) : OT := .l (xs.map OT.i)
abbrev otii (xss : List (List Int)) : OT := .l (xss.map oti)
theorem otR_ints {h : Hp} {xs : List Int} {v : V} {f : List Addr} : otR h (oti xs) v f ↔ ∃ a, v = .ref a ∧ f = [a] ∧ h a = some (.lst (xs.map V.int)) := by
  constructor
  · rintro ⟨a, vs, g, rfl, rfl, h1, h2⟩
    obtain ⟨rfl, rfl⟩ := otRs_ints.mp h2
    exact ⟨a, rfl, rfl, h1⟩
  · rintro ⟨a, rfl, rfl, h1⟩
    exact ⟨a, _, [], rfl, rfl, h1, otRs_ints.mpr ⟨rfl, rfl⟩⟩
theorem sub_olT {xs : List Int} : SubS (.ol xs) (.ot (oti xs)) := fun Z R H o f nd h => by
  obtain ⟨p, vs, rfl, rfl, h3, h4⟩ := h
  have := paired_map_int h4
  subst this
  exact ⟨[p], nd, fun _ h => h, slok_ot nd (otR_ints.mpr ⟨p, rfl, rfl, h3⟩)⟩
theorem sub_Tol {xs : List Int} : SubS (.ot (oti xs)) (.ol xs) := fun Z R H o f nd h => by
  obtain ⟨v, g, rfl, h2, h3, h4⟩ := slok_ot' h
  obtain ⟨a, rfl, rfl, h5⟩ := otR_ints.mp h4
  exact ⟨[a], h2, h3, a, _, rfl, rfl, h5, paired_of_int _⟩
theorem otRs_iint {h : Hp} : ∀ {xss : List (List Int)} {qs : List Addr}, Paired (fun q xs => h q = some (.lst (xs.map V.int))) qs xss → otRs h (xss.map oti) (qs.map V.ref) qs
  | _, _, .nil => ⟨rfl, rfl⟩
  | _, _, .cons r t => ⟨_, _, [_], _, rfl, rfl, otR_ints.mpr ⟨_, rfl, rfl, r⟩, otRs_iint t⟩
theorem otRs_iint' {h : Hp} : ∀ {xss : List (List Int)} {vs : List V} {f : List Addr}, otRs h (xss.map oti) vs f → vs = f.map V.ref ∧ Paired (fun q xs => h q = some (.lst (xs.map V.int))) f xss
  | [], _, _, ⟨e1, e2⟩ => by subst e1 e2; exact ⟨rfl, .nil⟩
  | xs :: xss, _, _, ⟨v, ws, g1, g2, e1, e2, h1, h2⟩ => by
    obtain ⟨a, rfl, rfl, h3⟩ := otR_ints.mp h1
    obtain ⟨e3, h4⟩ := otRs_iint' h2
    subst e1 e2 e3
    exact ⟨rfl, .cons h3 h4⟩
theorem sub_o2T {xss : List (List Int)} : SubS (.o2 xss) (.ot (otii xss)) := fun Z R H o f nd h => by
  obtain ⟨p, qs, rfl, rfl, h3, h4⟩ := h
  refine ⟨p :: qs, nd, fun _ h => h, slok_ot nd ⟨p, _, qs, rfl, rfl, h3, otRs_iint (paired_mono (fun q xs ⟨vs, a, b⟩ => ?_) h4)⟩⟩
  rw [← paired_map_int b]
  exact a
theorem sub_To2 {xss : List (List Int)} : SubS (.ot (otii xss)) (.o2 xss) := fun Z R H o f nd h => by
  obtain ⟨v, g, rfl, h2, h3, a, vs, qs, rfl, rfl, h5, h6⟩ := slok_ot' h
  obtain ⟨rfl, h7⟩ := otRs_iint' h6
  exact ⟨_, h2, h3, a, qs, rfl, rfl, h5, paired_mono (fun q xs e => ⟨_, e, paired_of_int _⟩) h7⟩
theorem sub_un {s : Sl} : SubS s .un := fun Z R H o f nd h => ⟨[], List.nodup_nil, fun _ h => by simp at h, rfl⟩
end TB
namespace TB
open PySem L2
section
variable {c : Cn} {Γ : List Sl} {ta tb te tl ty : TE} {tt tc : TT} {t u : TS} {s s' so : Sl} {α β γ : Type} {_ : Rp α} {_ : Rp β} {_ : Rp γ} {P : Po} {d : α} {T U : OT}
theorem ev_subS (q : SubS s s') (h : Ev c Γ te s) : Ev c Γ te s' := fun B R0 R H ρ Δ σ S Q k x => h B R0 R H ρ Δ σ S Q (fun v R1 H1 S1 => k v R1 H1 (sx_subTop q S1)) x
theorem w_subS (i : Nat) (q : SubS s s') (e : Γ[i]? = some s) (h : W c (Γ.set i s') t P) : W c Γ t P := fun B R0 R H ρ Δ σ D S n r b kk x => h B R0 R H ρ Δ σ D (sx_sub q S e) n r b kk x
/-- an own tuple's (list's) item, the rest let go -/
theorem ev_otIxT {Ts : List OT} {k : Nat} {n : Int} (h : Ev c Γ te (.ot (.t Ts))) (e : Ts[k]? = some U) (hn : n = (k : Int)) : Ev c Γ (tOp (gIx c.Z.K) te (tC (.int n))) (.ot U) := fun B R0 R H ρ Δ σ S Q q x =>
  h B R0 R H ρ Δ σ S _ (fun v R1 H1 S1 => by
    obtain ⟨f, h1, h2, h3⟩ := sx_ownTop S1
    obtain ⟨v', g, e1, h4, h5, a, vs, g', rfl, rfl, h6, h7⟩ := slok_ot' h1
    cases e1
    obtain ⟨w, f1, g2, f2, h8, rfl, h9, _⟩ := otRs_at h7 e
    have hlt : k < vs.length := (List.getElem?_eq_some_iff.mp h8).1
    refine .inr (.inl ⟨a, vs, n, w, rfl, rfl, SqT.of h6, atI_of (by omega) (by omega) (by rw [hn]; simpa using h8), ?_⟩)
    have nd2 : g2.Nodup := by
      have := (List.nodup_cons.mp h4).2
      simp only [List.nodup_append] at this
      exact this.1.2.1
    exact q w R1 H1 (h3 H1 (some w) (.ot U) g2 (fun _ _ => rfl) nd2 (fun p hp => h5 p (by simp [hp])) (slok_ot nd2 h9))) x
/-- where a path within slot i leads, and what becomes of the whole -/
def EvAt (c : Cn) (i : Nat) (te : TE) (T U : OT) (put : OT → OT) : Prop := ∀ (H : Hp) (v : V) (f : List Addr) (σ : List (Option V)), otR H T v f → f.Nodup → σ[i]? = some (some v) → ∀ Q : VK,
  (∀ (u : V) (g : List Addr), g.Nodup → (∀ p ∈ g, p ∈ f) → otR H U u g →
    (∀ (H' : Hp) (U' : OT), (∀ p ∈ f, p ∉ g → H' p = H p) → otR H' U' u g → otR H' (put U') v f) → Q u H) → te σ H Q
theorem ea_here {i : Nat} : EvAt c i (tVar i) T T id := fun H v f σ h nd e Q q => ⟨v, e, q v f nd (fun _ h => h) h fun _ _ _ h' => h'⟩
theorem nodup_mid {g1 g g2 : List Addr} {a : Addr} (h : (a :: (g1 ++ g ++ g2)).Nodup) : g.Nodup ∧ (∀ p ∈ g, p ≠ a ∧ p ∉ g1 ∧ p ∉ g2) := by
  simp only [List.nodup_cons, List.nodup_append, List.mem_append] at h
  grind
theorem ea_ixT {i k : Nat} {n : Int} {Us : List OT} {V0 : OT} {put : OT → OT} (h : EvAt c i te T (.t Us) put) (e : Us[k]? = some V0) (hn : n = (k : Int)) : EvAt c i (tOp (gIx c.Z.K) te (tC (.int n))) T V0 (fun U' => put (.t (Us.set k U'))) := fun H v f σ hT nd eσ Q q =>
  h H v f σ hT nd eσ _ fun u g ndg sub ⟨a, vs, g', eu, eg, h6, h7⟩ back => by
    subst eu eg
    obtain ⟨w, f1, g2, f2, h8, rfl, h9, h10⟩ := otRs_at h7 e
    have hlt : k < vs.length := (List.getElem?_eq_some_iff.mp h8).1
    obtain ⟨n1, n2⟩ := nodup_mid ndg
    refine .inr (.inl ⟨a, vs, n, w, rfl, rfl, SqT.of h6, atI_of (by omega) (by omega) (by rw [hn]; simpa using h8), q w g2 n1 (fun p hp => sub p (by simp [hp])) h9 fun H' U' k1 k2 => back H' _ (fun p hp hq => k1 p hp fun z => hq (by simp [z])) ⟨a, vs, _, rfl, rfl, ?_, h10 H' U' g2 (fun p hp => k1 p (sub p ?_) ?_) k2⟩⟩)
    · rw [k1 a (sub a (by simp)) fun z => (n2 a z).1 rfl]; exact h6
    · simp only [List.mem_append, List.mem_cons] at hp ⊢; grind
    · intro z
      simp only [List.mem_append] at hp
      rcases hp with hp | hp
      · exact (n2 p z).2.1 hp
      · exact (n2 p z).2.2 hp
theorem ea_ixL {i k : Nat} {n : Int} {Us : List OT} {V0 : OT} {put : OT → OT} (h : EvAt c i te T (.l Us) put) (e : Us[k]? = some V0) (hn : n = (k : Int)) : EvAt c i (tOp (gIx c.Z.K) te (tC (.int n))) T V0 (fun U' => put (.l (Us.set k U'))) := fun H v f σ hT nd eσ Q q =>
  h H v f σ hT nd eσ _ fun u g ndg sub ⟨a, vs, g', eu, eg, h6, h7⟩ back => by
    subst eu eg
    obtain ⟨w, f1, g2, f2, h8, rfl, h9, h10⟩ := otRs_at h7 e
    have hlt : k < vs.length := (List.getElem?_eq_some_iff.mp h8).1
    obtain ⟨n1, n2⟩ := nodup_mid ndg
    refine .inl ⟨a, vs, n, w, rfl, rfl, SqL.of h6, atI_of (by omega) (by omega) (by rw [hn]; simpa using h8), q w g2 n1 (fun p hp => sub p (by simp [hp])) h9 fun H' U' k1 k2 => back H' _ (fun p hp hq => k1 p hp fun z => hq (by simp [z])) ⟨a, vs, _, rfl, rfl, ?_, h10 H' U' g2 (fun p hp => k1 p (sub p ?_) ?_) k2⟩⟩
    · rw [k1 a (sub a (by simp)) fun z => (n2 a z).1 rfl]; exact h6
    · simp only [List.mem_append, List.mem_cons] at hp ⊢; grind
    · intro z
      simp only [List.mem_append] at hp
      rcases hp with hp | hp
      · exact (n2 p z).2.1 hp
      · exact (n2 p z).2.2 hp
theorem sx_ot {Z : Zz} {B R0 R H : Hp} {ρ σ : List (Option V)} {Δ : List Sl} (S : Sx Z B R0 R H ρ Δ σ Γ) {i : Nat} (e : Γ[i]? = some (.ot T)) : ∃ v f, σ[i]? = some (some v) ∧ otR H T v f ∧ f.Nodup ∧ ∀ (H' : Hp) (T' : OT), (∀ p, p ∉ f → H' p = H p) → otR H' T' v f → Sx Z B R0 R H' ρ Δ σ (Γ.set i (.ot T')) := by
  obtain ⟨o, f, h1, h2, h3, h4⟩ := sx_own S e
  obtain ⟨v, g, rfl, h5, h6, h7⟩ := slok_ot' h2
  exact ⟨v, g, h1, h7, h5, fun H' T' k q => h4 H' (.ot T') g (fun p hp => k p fun z => hp (h6 p z)) h5 h6 (slok_ot h5 q)⟩
theorem ep_len {xs : List α} (h : EvP c Γ te xs) : EvP c Γ (tCB (gLen c.Z.K) (tCons te tNil)) (xs.length : Int) := fun B R0 R H ρ Δ σ S Q q => h B R0 R H ρ Δ σ S _ fun v rv => by
  obtain ⟨a, vs, rfl, ha, hp⟩ := rv
  exact ⟨_, vs.length, rfl, .inl ⟨vs, SqL.of (sx_same S _ _ ha), rfl⟩, q _ (by rw [Paired.length hp]; rfl)⟩
/-- PATH.append(int) -/
theorem w_appOT {i : Nat} {Us : List OT} {put : OT → OT} {y : Int} (e : Γ[i]? = some (.ot T)) (hp : EvAt c i te T (.l Us) put) (hy : EvP c Γ ty y) (hl : Us.length < 1000000) (k : P.nx (Γ.set i (.ot (put (.l (Us ++ [.i y])))))) :
    W c Γ (tDrop (tBM c.Z.K "list" rAppend te (tCons ty tNil))) P := fun B R0 R H ρ Δ σ D S n r bb kk x => by
  obtain ⟨v, f, h1, h2, h3, h4⟩ := sx_ot S e
  refine hp H v f σ h2 h3 h1 _ fun u g ndg sub ⟨a, vs, g', eu, eg, h6, h7⟩ back => ?_
  subst eu eg
  have hlen := otRs_len h7
  refine ⟨tyL h6, hy B R0 R H ρ Δ σ S _ fun w rw' => ?_⟩
  have ew : w = .int y := rw'
  subst ew
  have na : a ∉ g' := (List.nodup_cons.mp ndg).1
  refine ⟨a, vs, .int y, rfl, rfl, h6, Nat.lt_of_lt_of_le (by omega : vs.length < 1000000) (by decide), n R _ _ _ (h4 _ _ (fun p hp => upd_ne fun z => hp (sub p (by rw [z]; simp))) (back _ (.l (Us ++ [.i y])) (fun p _ hp => upd_ne fun z => hp (by rw [z]; simp)) ⟨a, vs ++ [.int y], g', rfl, rfl, upd_same, ?_⟩)) k⟩
  have := otRs_app (otRs_frame (fun p hp => upd_ne fun z => na (z ▸ hp)) h7 (h' := upd H a (.lst (vs ++ [.int y])))) (show otRs (upd H a (.lst (vs ++ [.int y]))) [.i y] [.int y] [] from ⟨_, _, [], [], rfl, rfl, ⟨rfl, rfl⟩, rfl, rfl⟩)
  rw [List.append_nil] at this
  exact this
end
end TB
namespace TB
open PySem L2
theorem tak_drp {α : Type} (F G : α → OT) {Us : List α} {k : Nat} (h : k < Us.length) : ((Us.take k).map F ++ (Us.drop k).map G)[k]? = some (G Us[k]) ∧ ((Us.take k).map F ++ (Us.drop k).map G).set k (F Us[k]) = (Us.take (k + 1)).map F ++ (Us.drop (k + 1)).map G := by
  have hl : ((Us.take k).map F).length = k := by rw [List.length_map, List.length_take]; omega
  constructor
  · rw [List.getElem?_append_right (by omega), hl, Nat.sub_self, List.getElem?_map, List.getElem?_drop, Nat.add_zero, List.getElem?_eq_getElem h]
    rfl
  · rw [List.set_append_right _ _ (by omega), hl, Nat.sub_self, List.drop_eq_getElem_cons h, List.map_cons, List.set_cons_zero, List.take_succ, List.getElem?_eq_getElem h, List.map_append]
    simp
section
variable {c : Cn} {Γ : List Sl} {ta tb te tl ty : TE} {tt tc : TT} {t u : TS} {s s' so : Sl} {α β γ : Type} {_ : Rp α} {_ : Rp β} {_ : Rp γ} {P : Po} {d : α} {T U : OT}
/-- for x in PATH: x.append(int) -/
theorem w_forOT {i j : Nat} {Us : List (List OT)} {put : OT → OT} {y : Int} (hj : j < Γ.length) (e : Γ[i]? = some (.ot T)) (hp : EvAt c i te T (.l (Us.map OT.l)) put) (hy : ∀ T', EvP c ((Γ.set i (.ot T')).set j .un) ty y) (hl : ∀ xs ∈ Us, xs.length < 1000000)
    (k : P.nx ((Γ.set i (.ot (put (.l (Us.map fun xs => OT.l (xs ++ [.i y])))))).set j .un)) : W c Γ (tFor (iList c.Z.K te) (gName j) (tDrop (tBM c.Z.K "list" rAppend (tVar j) (tCons ty tNil)))) P := fun B R0 R H ρ Δ σ D S n r bb kk x => by
  have ls := sx_len S
  obtain ⟨v, f, h1, h2, h3, h4⟩ := sx_ot S e
  refine hp H v f σ h2 h3 h1 _ fun u g ndg sub ⟨a, vs, g', eu, eg, h6, h7⟩ back => ?_
  subst eu eg
  have hlen := otRs_len h7
  rw [List.length_map] at hlen
  have na : a ∉ g' := (List.nodup_cons.mp ndg).1
  have ndg' := (List.nodup_cons.mp ndg).2
  refine ⟨a, rfl, ⟨vs, SqL.of h6⟩, ?_⟩
  have tree : ∀ (H1 : Hp) (Ws : List OT), (∀ p, p ∉ g' → H1 p = H p) → otRs H1 Ws vs g' → otR H1 (put (.l Ws)) v f := fun H1 Ws q1 q2 => back H1 _ (fun p _ hp => q1 p fun z => hp (by simp [z])) ⟨a, vs, g', rfl, rfl, by rw [q1 a na]; exact h6, q2⟩
  have sxj : ∀ (H1 : Hp) (Ws : List OT) (σ1 : List (Option V)), (∀ p, p ∉ g' → H1 p = H p) → otRs H1 Ws vs g' → (σ1 = σ ∨ ∃ o, σ1 = σ.set j o) → Sx c.Z B R0 R H1 ρ Δ σ1 ((Γ.set i (.ot (put (.l Ws)))).set j .un) := fun H1 Ws σ1 q1 q2 q3 => by
    have S1 := h4 H1 _ (fun p hp => q1 p fun z => hp (sub p (by simp [z]))) (tree H1 Ws q1 q2)
    rcases q3 with rfl | ⟨o, rfl⟩
    · exact sx_forget S1 j
    · exact sx_forgets S1 j o
  refine ⟨fun k m σ1 H1 => m = vs.length - k ∧ k ≤ vs.length ∧ (∀ p, p ∉ g' → H1 p = H p) ∧ otRs H1 ((Us.take k).map (fun xs => OT.l (xs ++ [.i y])) ++ (Us.drop k).map OT.l) vs g' ∧ (σ1 = σ ∨ ∃ o, σ1 = σ.set j o), ⟨vs.length, by simp, Nat.zero_le _, fun _ _ => rfl, by simpa using h7, .inl rfl⟩, ?_⟩
  rintro k1 m σ1 H1 ⟨rfl, hk, hH, hT, hσ⟩
  have hA : H1 a = some (.lst vs) := by rw [hH a na]; exact h6
  by_cases hlt : k1 < vs.length
  · refine .inr ⟨⟨vs, vs[k1], SqL.of hA, List.getElem?_eq_getElem hlt⟩, fun σ' H' => (∀ p, p ∉ g' → H' p = H p) ∧ otRs H' ((Us.take (k1 + 1)).map (fun xs => OT.l (xs ++ [.i y])) ++ (Us.drop (k1 + 1)).map OT.l) vs g' ∧ (σ' = σ ∨ ∃ o, σ' = σ.set j o), fun σ' H' h => ⟨vs.length - (k1 + 1), by omega, rfl, hlt, h⟩, ?_⟩
    rintro w H' ⟨rfl, hw⟩
    have hw' := hw vs (SqL.of hA)
    have hk2 : k1 < Us.length := by omega
    obtain ⟨q1, q2⟩ := tak_drp (fun xs => OT.l (xs ++ [.i y])) OT.l hk2
    obtain ⟨w', f1, g2, f2, e1, rfl, e3, e4⟩ := otRs_at hT q1
    rw [hw'] at e1
    cases e1
    obtain ⟨b, ws, gg, rfl, rfl, hb, hws⟩ := e3
    have hlen2 := otRs_len hws
    have hlx := hl _ (List.getElem_mem hk2)
    have hσ2 : σ1.set j (some (.ref b)) = σ ∨ ∃ o, σ1.set j (some (.ref b)) = σ.set j o := by
      rcases hσ with rfl | ⟨o, rfl⟩
      · exact .inr ⟨_, rfl⟩
      · exact .inr ⟨_, List.set_set ..⟩
    have hlj : j < σ1.length := by
      rcases hσ with rfl | ⟨o, rfl⟩
      · omega
      · rw [List.length_set]; omega
    have hbn := nodup_mid (a := a) (g1 := f1) (g := b :: gg) (g2 := f2) ndg
    have hbg : b ∉ gg := (List.nodup_cons.mp hbn.1).1
    refine ⟨.ref b, by rw [List.getElem?_set_self hlj], tyL hb, hy _ B R0 R H' ρ Δ _ (sxj H' _ _ hH hT hσ2) _ fun w2 rw2 => ?_⟩
    have ew : w2 = .int y := rw2
    subst ew
    refine ⟨b, ws, .int y, rfl, rfl, hb, Nat.lt_of_lt_of_le (by omega : ws.length < 1000000) (by decide), fun p hp => ?_, ?_, hσ2⟩
    · rw [upd_ne fun z => hp (by simp [z])]
      exact hH p hp
    · rw [← q2]
      refine e4 _ _ _ (fun p hp => upd_ne fun z => ?_) ⟨b, ws ++ [.int y], gg, rfl, rfl, upd_same, ?_⟩
      · subst z
        have := (hbn.2 p (by simp)).2
        simp only [List.mem_append] at hp
        rcases hp with q | q
        · exact this.1 q
        · exact this.2 q
      · have := otRs_app (otRs_frame (fun p hp => upd_ne fun z => hbg (z ▸ hp)) hws (h' := upd H' b (.lst (ws ++ [.int y])))) (show otRs (upd H' b (.lst (ws ++ [.int y]))) [.i y] [.int y] [] from ⟨_, _, [], [], rfl, rfl, ⟨rfl, rfl⟩, rfl, rfl⟩)
        rw [List.append_nil] at this
        exact this
  · have ek : k1 = Us.length := by omega
    subst ek
    rw [List.take_length, List.drop_length, List.map_nil, List.append_nil] at hT
    exact .inl ⟨⟨vs, SqL.of hA, by omega⟩, n R H1 σ1 _ (sxj H1 _ σ1 hH hT hσ) k⟩
/-- o.m(..) of a datum, things lent -/
theorem ev_methL {Tm' : Tm} {o : α} {C : Addr} {m : Str} {t : TA} {ss : List Sl} (h : Ev c Γ te (.im o)) (hm : ∀ R v, Rp.rp c.Z R v o → ∃ a dx fs, v = .ref a ∧ R a = some (.ins C dx fs) ∧ fs.lookup m = none) (ha : EvB c Γ t ss) (hd : Det s) (hT : Tm' (.im o :: (ss ++ [])) (fun s' => s' = s) fun r => c.ex r Γ) :
    Ev c Γ (tMethSD C m (spOf c.Z Tm') [] (WE c.X) te t) s := fun B R0 R H ρ Δ σ S Q q xk => h B R0 R H ρ Δ σ S _ (fun v R1 H1 S1 => by
  obtain ⟨a, dx, fs, rfl, h2, h3⟩ := hm R1 v (sx_top' S1)
  refine ⟨a, dx, fs, rfl, sx_same S1 _ _ h2, h3, ha B R0 R1 H1 _ _ σ S1 _ (fun vs R2 H2 RL S2 a2 b sl => ?_) xk.push1⟩
  refine ⟨RL, .im o :: (ss ++ []), _, _, b, .cons (Rp.mono a2 (sx_top' S2)) (slims_append sl .nil), hT, fun v R' H' s' S' e => ?_, fun r cls d H' e rx er => ?_⟩
  · subst e
    exact q v R2 H' (sx_pop2 (sx_callL S2 a2 hd S'))
  · obtain ⟨R3, _, S3, rx2⟩ := sx_callX (sx_pop S2) e rx
    exact xk R3 H' σ Γ r cls d S3 rx2 er) xk
theorem ev_methN {Tm' : Tm} {o : α} {C : Addr} {m : Str} {t : TA} {ss : List Sl} (h : Ev c Γ te (.im o)) (hm : ∀ R v, Rp.rp c.Z R v o → ∃ a dx fs, v = .ref a ∧ R a = some (.ins C dx fs) ∧ fs.lookup m = none) (ha : EvA c Γ t ss) (hT : Tm' (.im o :: (ss ++ [])) (fun s' => s' = s) fun r => c.ex r Γ) :
    Ev c Γ (tMethSD C m (spOf c.Z Tm') [] (WE c.X) te t) s := fun B R0 R H ρ Δ σ S Q q xk => h B R0 R H ρ Δ σ S _ (fun v R1 H1 S1 => by
  obtain ⟨a, dx, fs, rfl, h2, h3⟩ := hm R1 v (sx_top' S1)
  refine ⟨a, dx, fs, rfl, sx_same S1 _ _ h2, h3, ha B R0 R1 H1 _ _ σ S1 _ (fun vs R2 H2 S2 sl => ?_) xk.push1⟩
  refine ⟨R2, .im o :: (ss ++ []), _, _, sx_same S2, .cons (sx_top' S2) (slims_append sl .nil), hT, fun v R' H' s' S' e => ?_, fun r cls d H' e rx er => ?_⟩
  · subst e
    exact q v R' H' (sx_pop2 (sx_call S2 S'))
  · obtain ⟨R3, _, S3, rx2⟩ := sx_callX (sx_pop S2) e rx
    exact xk R3 H' σ Γ r cls d S3 rx2 er) xk
/-- two own things in a new tuple, told -/
theorem w_retTup2 {i j : Nat} {A B' : OT} (hi : Γ[i]? = some (.ot A)) (hj : Γ[j]? = some (.ot B')) (hij : i ≠ j) (k : P.rt (.ot (.t [A, B']))) : W c Γ (tRet (tTup (tCons (tVar i) (tCons (tVar j) tNil)))) P := fun B R0 R H ρ Δ σ D S n r b kk x => by
  obtain ⟨o2, e2, S1⟩ := sx_take S hj
  obtain ⟨o1, e1, S2⟩ := sx_take S1 (i := i) (by rw [List.getElem?_set_ne (Ne.symm hij)]; exact hi)
  obtain ⟨hl, own, hs, f, g, rfl, h1, f2, g2, rfl, h2, h3⟩ := sx_leave S2
  obtain ⟨v1, q1, rfl, nd1, sub1, t1⟩ := slok_ot' h1
  obtain ⟨v2, q2, rfl, nd2, sub2, t2⟩ := slok_ot' h2
  refine ⟨v1, e1, v2, e2, by show 2 ≤ sizeLine; decide, fun p np => ?_⟩
  have nin : ∀ q, H q ≠ none → q ≠ p := fun q hq z => hq (z ▸ np)
  have s1 := otR_nd t1
  have s2 := otR_nd t2
  have nd := hs.nd
  have fp := fresh_own (Z := c.Z) (τ := some v1 :: some v2 :: (ρ ++ [])) (Θ := .ot A :: .ot B' :: (Δ ++ [])) (own := f ++ (f2 ++ g2)) hs ⟨f, _, rfl, h1, f2, g2, rfl, h2, h3⟩ np
  refine r R (upd H p (.tup [v1, v2])) (.ref p) (.ot (.t [A, B'])) ⟨by simpa using hl, (p :: (q1 ++ q2)) ++ g2, ⟨hs.rh.trans (same_upd np), hs.bh.trans (same_upd np), hs.r0, hs.nw, fun b hb => ?_, ?_⟩, p :: (q1 ++ q2), g2, rfl, slok_ot ?_ ⟨p, _, _, rfl, rfl, upd_same, v1, _, q1, q2, rfl, rfl, otR_frame (fun b hb => upd_ne (nin b (s1 b hb))) t1, v2, _, q2, [], rfl, by simp, otR_frame (fun b hb => upd_ne (nin b (s2 b hb))) t2, rfl, rfl⟩, es_mono (Same.refl _) (fun b hb => upd_ne fun z => fp.2.2 (by subst z; simp [hb])) h3⟩ k
  · simp only [List.cons_append, List.mem_cons, List.mem_append] at hb
    rcases hb with rfl | (hb | hb) | hb
    · exact ⟨fp.1, fp.2.1⟩
    · exact hs.ow b (by simp [sub1 b hb])
    · exact hs.ow b (by simp [sub2 b hb])
    · exact hs.ow b (by simp [hb])
  · have := fp.2.2
    simp only [List.cons_append, List.nodup_cons, List.nodup_append, List.mem_append] at nd this ⊢
    grind
  · have := fp.2.2
    simp only [List.nodup_cons, List.nodup_append, List.mem_append] at nd this ⊢
    grind
end
end TB

local macro_rules | `(tactic| walk_at "nz") => `(tactic| try dsimp only [List.set_cons_zero, List.set_cons_succ, List.replicate, List.length_cons, List.length_nil, List.append_nil, List.cons_append, List.nil_append])
local macro_rules | `(tactic| walk_at "sd") => `(tactic| first | assumption | rfl | omega | (simp only [List.length_cons, List.length_nil]; omega) | skip)
local macro_rules | `(tactic| walk_at "ev1") => `(tactic| first
  | with_reducible exact TB.ev_int
  | with_reducible exact TB.ev_bl
  | with_reducible exact TB.ev_str
  | exact TB.ev_var rfl
  | with_reducible exact TB.ev_non
  | exact TB.ev_none
  | ((with_reducible apply TB.ev_add) <;> walk_at "ev")
  | ((with_reducible apply TB.ev_sub) <;> walk_at "ev")
  | ((with_reducible apply TB.ev_mul) <;> walk_at "ev")
  | ((with_reducible apply TB.ev_mod) <;> walk_at "ev")
  | ((with_reducible apply TB.ev_div) <;> walk_at "ev")
  | ((with_reducible apply TB.ev_pow) <;> walk_at "ev")
  | ((with_reducible apply TB.ev_neg) <;> walk_at "ev")
  | ((with_reducible apply TB.ev_lt) <;> walk_at "ev")
  | ((with_reducible apply TB.ev_le) <;> walk_at "ev")
  | ((with_reducible apply TB.ev_gt) <;> walk_at "ev")
  | ((with_reducible apply TB.ev_ge) <;> walk_at "ev")
  | ((with_reducible apply TB.ev_eqI) <;> walk_at "ev")
  | ((with_reducible apply TB.ev_neI) <;> walk_at "ev")
  | ((with_reducible apply TB.ev_eqL) <;> walk_at "ev")
  | ((with_reducible apply TB.ev_neL) <;> walk_at "ev")
  | ((with_reducible apply TB.ev_eqLL) <;> walk_at "ev")
  | ((with_reducible apply TB.ev_neLL) <;> walk_at "ev")
  | ((with_reducible apply TB.ev_eqP) <;> walk_at "ev")
  | ((with_reducible apply TB.ev_neP) <;> walk_at "ev")
  | ((with_reducible apply TB.ev_ix) <;> walk_at "ev")
  | ((with_reducible apply TB.ev_ixS) <;> walk_at "ev")
  | ((apply TB.ev_ixO rfl) <;> walk_at "ev")
  | ((with_reducible apply TB.ev_rows) <;> walk_at "ev")
  | ((with_reducible apply TB.ev_unit) <;> walk_at "ev")
  | ((with_reducible apply TB.ev_backs) <;> walk_at "ev")
  | ((with_reducible apply TB.ev_many) <;> walk_at "ev")
  | ((with_reducible apply TB.ev_len) <;> walk_at "ev")
  | ((with_reducible apply TB.ev_lenS) <;> walk_at "ev")
  | exact TB.ev_lenO rfl
  | ((with_reducible apply TB.ev_list) <;> walk_at "ev")
  | exact TB.ev_listO rfl
  | ((with_reducible apply TB.ev_sorted) <;> walk_at "ev")
  | ((with_reducible apply TB.ev_min2) <;> walk_at "ev")
  | ((with_reducible apply TB.ev_max2) <;> walk_at "ev")
  | ((with_reducible apply TB.ev_listRg) <;> walk_at "ev")
  | ((with_reducible apply TB.ev_isiII) <;> walk_at "ev")
  | ((with_reducible apply TB.ev_isiIB) <;> walk_at "ev")
  | ((with_reducible apply TB.ev_isiLL) <;> walk_at "ev")
  | ((with_reducible apply TB.ev_isiTT) <;> walk_at "ev")
  | ((with_reducible apply TB.ev_cut) <;> walk_at "ev")
  | ((with_reducible apply TB.ev_cutTo) <;> walk_at "ev")
  | ((with_reducible apply TB.ev_cutFrom) <;> walk_at "ev")
  | ((with_reducible apply TB.ev_cutS) <;> walk_at "ev")
  | ((with_reducible apply TB.ev_cat) <;> walk_at "ev")
  | ((with_reducible apply TB.ev_rep) <;> walk_at "ev")
  | ((with_reducible apply TB.ev_all rfl) <;> walk_at "ev")
  | ((with_reducible apply TB.ev_any rfl) <;> walk_at "ev")
  | ((with_reducible apply TB.ev_lstH) <;> walk_at "ev")
  | ((with_reducible apply TB.ev_fr) <;> walk_at "ev")
  | ((with_reducible apply TB.ev_andV) <;> walk_at "ev")
  | ((with_reducible apply TB.ev_orV) <;> walk_at "ev")
  | ((with_reducible apply TB.ev_notV) <;> walk_at "ev"))
local macro_rules | `(tactic| walk_at "et1") => `(tactic| first
  | with_reducible exact TB.et_yes
  | ((with_reducible apply TB.et_test) <;> walk_at "ev")
  | ((with_reducible apply TB.et_B) <;> walk_at "ev")
  | ((with_reducible apply TB.et_not) <;> walk_at "ev")
  | ((with_reducible apply TB.et_and) <;> walk_at "ev")
  | ((with_reducible apply TB.et_or) <;> walk_at "ev"))
local macro_rules | `(tactic| walk_at "ea1") => `(tactic| first
  | with_reducible exact TB.ea_nil
  | ((with_reducible apply TB.ea_cons) <;> walk_at "ev"))
local macro_rules | `(tactic| walk_at "eh1") => `(tactic| first
  | with_reducible exact TB.evh_nil
  | ((with_reducible apply TB.evh_cons) <;> walk_at "ev"))
local macro_rules | `(tactic| walk_at "ev") => `(tactic| first
  | ((with_reducible show TB.EvH _ _ _ _ _); walk_at "eh1")
  | ((with_reducible show TB.Ev _ _ _ _); walk_at "ev1")
  | ((with_reducible show TB.EvT _ _ _ _); walk_at "et1")
  | ((with_reducible show TB.EvA _ _ _ _); walk_at "ea1")
  | ((fail_if_success (with_reducible show TB.Ev _ _ _ _)); (fail_if_success (with_reducible show TB.EvH _ _ _ _ _)); (fail_if_success (with_reducible show TB.EvT _ _ _ _)); (fail_if_success (with_reducible show TB.EvA _ _ _ _)); (first | (intro hc_; walk_at "ev") | walk_at "sd")))
local macro_rules | `(tactic| walk_at "w") => `(tactic| first
  | (with_reducible apply TB.w_seq; walk_at "w")
  | (with_reducible apply TB.w_asg; (case' h => walk_at "ev"); (case' k => walk_at "nz"))
  | (with_reducible apply TB.w_ret; (case' h => walk_at "ev"))
  | (with_reducible apply TB.w_if; (case' h => walk_at "ev"); skip))

/-! ### shared -/
namespace TB
open PySem L2
def T_shared : Tm := tm2 fun (a b : Int) ok _ => ∃ x y : Nat, a = (x : Int) ∧ b = (y : Int) ∧ ok (.im ((Nat.gcd x y : Nat) : Int))
def t_shared (Z : Zz) (X : WX) : TS :=
  (tSeq (tWhile (tTest (tOp gGt (tVar 1) (tC (.int 0))))
  (tPar 0 1 (tCons (tVar 1) (tCons (tOp gMod (tVar 0) (tVar 1)) tNil))))
  (tRet (tVar 0)))
theorem w_shared (Z : Zz) (X : WX) (ss : List Sl) (ok : Sl → Prop) (er : Rf → Prop) (h : T_shared ss ok er) : WF Z X er (ss ++ List.replicate (2 - ss.length) .un) (t_shared Z X) ok := by
  obtain ⟨a, b, rfl, x, y, rfl, rfl, k⟩ := h
  show W _ [.im (x : Int), .im (y : Int)] _ _
  unfold t_shared
  refine w_seq (w_while (fun m G => ∃ x' : Nat, G = [.im (x' : Int), .im (m : Int)] ∧ Nat.gcd x' m = Nat.gcd x y) y ⟨x, rfl, rfl⟩ ?_)
  rintro m G ⟨x', rfl, e⟩
  refine ⟨_, et_test (ev_gt (ev_var rfl) ev_int), fun hb => ?_, fun hb => ?_⟩
  · simp at hb
    refine w_par (ev_var rfl) (ev_mod (ev_var rfl) (ev_var rfl) (by omega)) ⟨x' % m, Nat.mod_lt _ (by omega), m, ?_, ?_⟩
    · walk_at "nz"
      rw [Int.natCast_emod]
    · rw [← e, Nat.gcd_comm x' m, Nat.gcd_rec m x', Nat.gcd_comm]
  · simp at hb
    subst hb
    rw [Nat.gcd_zero_right] at e
    rw [← e] at k
    exact w_ret (ev_var rfl) k
end TB

/-! TbPoly: plain law: polynomials, what is left of a division, sums round a wheel. -/
namespace TB
open PySem L2
/-! ### what the program reckons -/
def subN (s : Int) (b : List Int) (at0 : Nat) (r : List Int) : Nat → List Int
  | 0 => r
  | k + 1 => let q := subN s b at0 r k; q.set (at0 + k) (gt q ((at0 + k : Nat) : Int) - s * gt b (k : Int))
def splitN (b : List Int) (many : Nat) : Nat → List Int → List Int → List Int × List Int
  | 0, f, r => (f, r)
  | n + 1, f, r => if many < r.length then splitN b many n (r.getLastD 0 :: f) (subN (r.getLastD 0) b (r.length - 1 - many) r.dropLast many) else (f, r)
def splitF (top b : List Int) : List Int × List Int := splitN b (b.length - 1) top.length [] top
def strN (k : Nat) (xs : List Int) : Nat → List Int
  | 0 => List.replicate (k * (xs.length - 1) + 1) 0
  | i + 1 => (strN k xs i).set (k * i) (gt xs (i : Int))
def stretchF (xs : List Int) (k : Int) : List Int := strN k.toNat xs xs.length
def stripC : Nat → Int → List Int → Int → List Int × Int
  | 0, _, f, r => (f, r)
  | n + 1, p, f, r => if r % p = 0 then stripC n p (stretchF f p) (r / p) else (f, r)
def cstep (p : Int) (s : List Int × Int) : List Int × Int := if s.2 % p = 0 then stripC 6 p (splitF (stretchF s.1 p) s.1).1 (s.2 / p) else s
def circN (m : Int) : Nat → List Int × Int
  | 0 => ([-1, 1], m)
  | i + 1 => cstep (2 + (i : Int)) (circN m i)
def circ (m : Int) : List Int := (circN m (m - 1).toNat).1
def stripF : Nat → Int → Int → Int
  | 0, _, r => r
  | n + 1, p, r => if r % p = 0 then stripF n p (r / p) else r
def primesN (m : Int) : Nat → List Int × Int
  | 0 => ([], m)
  | i + 1 => let s := primesN m i; (if s.2 % (2 + (i : Int)) = 0 then s.1 ++ [2 + (i : Int)] else s.1, stripF 6 (2 + (i : Int)) s.2)
def primesF (m : Int) : List Int := (primesN m (m - 1).toNat).1
def degF (m : Int) : Nat := ((irange m).filter fun k => (primesF m).all fun p => decide ((k + 1) % p ≠ 0)).length
/-! ### entries and lengths -/
theorem subN_len {s : Int} {b : List Int} {at0 : Nat} {r : List Int} : ∀ k, (subN s b at0 r k).length = r.length
  | 0 => rfl
  | k + 1 => by show ((subN s b at0 r k).set _ _).length = _; rw [List.length_set, subN_len k]
theorem subN_get {s : Int} {b : List Int} {at0 : Nat} {r : List Int} : ∀ (k i : Nat), at0 + k ≤ r.length → (subN s b at0 r k)[i]? = if at0 ≤ i ∧ i < at0 + k then (r[i]?).map fun x => x - s * gt b ((i - at0 : Nat) : Int) else r[i]?
  | 0, i, _ => by rw [if_neg (by omega)]; rfl
  | k + 1, i, h => by
    show ((subN s b at0 r k).set (at0 + k) _)[i]? = _
    have ih := subN_get (s := s) (b := b) (at0 := at0) (r := r) k i (by omega)
    have ih2 := subN_get (s := s) (b := b) (at0 := at0) (r := r) k (at0 + k) (by omega)
    rw [if_neg (by omega)] at ih2
    rw [List.getElem?_set, subN_len]
    by_cases e : at0 + k = i
    · subst e
      rw [if_pos rfl, if_pos (by omega), if_pos (by omega)]
      have hl : at0 + k < r.length := by omega
      rw [List.getElem?_eq_getElem hl]
      unfold gt
      rw [show ((at0 + k : Nat) : Int).toNat = at0 + k by omega, List.getD_eq_getElem?_getD, ih2, List.getElem?_eq_getElem hl, show at0 + k - at0 = k by omega]
      rfl
    · rw [if_neg e, ih]
      by_cases c : at0 ≤ i ∧ i < at0 + k
      · rw [if_pos c, if_pos (by omega)]
      · rw [if_neg c, if_neg (by omega)]
def Bd (n : Nat) (xs : List Int) : Prop := ∀ x ∈ xs, x.natAbs < 2 ^ n
theorem Bd.mono {n m : Nat} {xs : List Int} (h : Bd n xs) (l : n ≤ m) : Bd m xs := fun x hx => Nat.lt_of_lt_of_le (h x hx) (Nat.pow_le_pow_right (by omega) l)
theorem bd_sub {a b : Nat} {x s y : Int} (hx : x.natAbs < 2 ^ a) (hs : s.natAbs < 2 ^ a) (hy : y.natAbs < 2 ^ b) : (x - s * y).natAbs < 2 ^ (a + b + 1) := by
  have h1 : (s * y).natAbs < 2 ^ (a + b) := wide_lt hs hy
  have h2 : (2 : Nat) ^ a ≤ 2 ^ (a + b) := Nat.pow_le_pow_right (by omega) (by omega)
  have h3 : (2 : Nat) ^ (a + b + 1) = 2 ^ (a + b) + 2 ^ (a + b) := by rw [Nat.pow_succ]; omega
  omega
theorem gt_bd {n : Nat} {xs : List Int} (h : Bd n xs) (i : Int) : (gt xs i).natAbs < 2 ^ n := by
  unfold gt
  rw [List.getD_eq_getElem?_getD]
  cases e : xs[i.toNat]? with
  | none => exact Nat.pow_pos (by omega)
  | some x => exact h x (List.mem_of_getElem? e)
theorem subN_bd {a bb : Nat} {s : Int} {b : List Int} {at0 : Nat} {r : List Int} {k : Nat} (hk : at0 + k ≤ r.length) (hr : Bd a r) (hs : s.natAbs < 2 ^ a) (hb : Bd bb b) : Bd (a + bb + 1) (subN s b at0 r k) := fun x hx => by
  obtain ⟨i, hi⟩ := List.mem_iff_getElem?.mp hx
  rw [subN_get k i hk] at hi
  by_cases c : at0 ≤ i ∧ i < at0 + k
  · rw [if_pos c] at hi
    cases e : r[i]? with
    | none => rw [e] at hi; cases hi
    | some y =>
      rw [e] at hi
      have : y - s * gt b ((i - at0 : Nat) : Int) = x := by simpa using hi
      rw [← this]
      exact bd_sub (hr y (List.mem_of_getElem? e)) hs (gt_bd hb _)
  · rw [if_neg c] at hi
    exact (hr.mono (by omega)) x (List.mem_of_getElem? hi)
theorem splitN_len {b : List Int} {many : Nat} : ∀ (n : Nat) (f r : List Int), r.length ≤ n → (splitN b many n f r).2.length = min many r.length
  | 0, f, r, h => by show r.length = _; omega
  | n + 1, f, r, h => by
    unfold splitN
    by_cases c : many < r.length
    · rw [if_pos c, splitN_len n _ _ (by rw [subN_len, List.length_dropLast]; omega), subN_len, List.length_dropLast]
      omega
    · rw [if_neg c]
      show r.length = _
      omega
/-! ### sums round a wheel -/
def cyc (m : Int) : Int → List Int → Int → Int
  | _, [], _ => 0
  | o, x :: xs, j => (if (o - j) % m = 0 then x else 0) + cyc m (o + 1) xs j
section
variable {m : Int}
theorem cyc_append : ∀ (o : Int) (xs ys : List Int) (j : Int), cyc m o (xs ++ ys) j = cyc m o xs j + cyc m (o + xs.length) ys j
  | o, [], ys, j => by simp [cyc]
  | o, x :: xs, ys, j => by
    show _ + cyc m (o + 1) (xs ++ ys) j = _ + cyc m (o + 1) xs j + _
    rw [cyc_append (o + 1) xs ys j, List.length_cons, show o + 1 + (xs.length : Int) = o + ((xs.length + 1 : Nat) : Int) by omega]
    omega
theorem cyc_one (o x j : Int) : cyc m o [x] j = if (o - j) % m = 0 then x else 0 := by simp [cyc]
theorem cyc_shift : ∀ (o d : Int) (xs : List Int) (j : Int), cyc m (o + d) xs j = cyc m o xs (j - d)
  | o, d, [], j => rfl
  | o, d, x :: xs, j => by
    show _ + cyc m (o + d + 1) xs j = _ + cyc m (o + 1) xs (j - d)
    rw [show o + d + 1 = o + 1 + d by omega, cyc_shift (o + 1) d xs j, show o + d - j = o - (j - d) by omega]
theorem cyc_per : ∀ (o : Int) (xs : List Int) (j k : Int), cyc m o xs (j + m * k) = cyc m o xs j
  | o, [], j, k => rfl
  | o, x :: xs, j, k => by
    show (if (o - (j + m * k)) % m = 0 then x else 0) + _ = (if (o - j) % m = 0 then x else 0) + _
    rw [cyc_per (o + 1) xs j k, show o - (j + m * k) = o - j + m * (-k) by rw [Int.mul_neg]; omega, Int.add_mul_emod_self_left]
theorem cyc_set : ∀ (o : Int) (xs : List Int) (i : Nat) (v j : Int), i < xs.length → cyc m o (xs.set i v) j = cyc m o xs j + if (o + i - j) % m = 0 then v - gt xs (i : Int) else 0
  | o, [], i, v, j, h => by simp at h
  | o, x :: xs, 0, v, j, h => by
    show (if (o - j) % m = 0 then v else 0) + _ = (if (o - j) % m = 0 then x else 0) + _ + _
    have : gt (x :: xs) ((0 : Nat) : Int) = x := rfl
    rw [this, show o + ((0 : Nat) : Int) - j = o - j by omega]
    by_cases c : (o - j) % m = 0
    · simp only [c, if_true]; omega
    · simp only [c, if_false]; omega
  | o, x :: xs, i + 1, v, j, h => by
    show _ + cyc m (o + 1) (xs.set i v) j = _ + cyc m (o + 1) xs j + _
    rw [cyc_set (o + 1) xs i v j (by simpa using h), show o + 1 + (i : Int) - j = o + ((i + 1 : Nat) : Int) - j by omega]
    have : gt (x :: xs) ((i + 1 : Nat) : Int) = gt xs (i : Int) := rfl
    rw [this]
    omega
theorem cyc_zeros : ∀ (o : Int) (n : Nat) (j : Int), cyc m o (List.replicate n 0) j = 0
  | o, 0, j => rfl
  | o, n + 1, j => by
    rw [List.replicate_succ]
    show (if _ then (0 : Int) else 0) + cyc m (o + 1) (List.replicate n 0) j = 0
    rw [cyc_zeros (o + 1) n j]
    split <;> rfl
theorem take_snoc' {α : Type} [Rp α] {l : List α} {i : Nat} (h : i < l.length) : l.take (i + 1) = l.take i ++ [gt l (i : Int)] := by
  rw [take_snoc h, gt_nat h]
theorem cyc_subN {s : Int} {b : List Int} {at0 : Nat} {r : List Int} (j : Int) : ∀ k, k ≤ b.length → at0 + k ≤ r.length → cyc m 0 (subN s b at0 r k) j = cyc m 0 r j - s * cyc m at0 (b.take k) j
  | 0, _, _ => by simp [subN, cyc]
  | k + 1, h1, h2 => by
    show cyc m 0 ((subN s b at0 r k).set (at0 + k) _) j = _
    rw [cyc_set _ _ _ _ _ (by rw [subN_len]; omega), cyc_subN j k (by omega) (by omega), take_snoc' (by omega : k < b.length), cyc_append, cyc_one, List.length_take, Int.mul_add]
    rw [show ((min k b.length : Nat) : Int) = (k : Int) by omega, show (0 : Int) + ((at0 + k : Nat) : Int) - j = (at0 : Int) + k - j by omega]
    by_cases c : ((at0 : Int) + k - j) % m = 0
    · simp only [c, if_true]; omega
    · simp only [c, if_false]; omega
end
/-! ### less a turn for each prime -/
def dif (m : Int) : List Int → (Int → Int) → Int → Int
  | [], f, j => f j
  | p :: ps, f, j => dif m ps (fun i => f i - f (i - m / p)) j
theorem dif_lin {m : Int} : ∀ (ps : List Int) (f g : Int → Int) (s : Int) (j : Int), dif m ps (fun i => f i - s * g i) j = dif m ps f j - s * dif m ps g j
  | [], f, g, s, j => rfl
  | p :: ps, f, g, s, j => by
    show dif m ps (fun i => (f i - s * g i) - (f (i - m / p) - s * g (i - m / p))) j = _
    have : (fun i => (f i - s * g i) - (f (i - m / p) - s * g (i - m / p))) = fun i => (f i - f (i - m / p)) - s * (g i - g (i - m / p)) := by
      funext i
      rw [Int.mul_sub]
      omega
    rw [this, dif_lin ps]
    rfl
theorem dif_turn {m : Int} : ∀ (ps : List Int) (f : Int → Int) (d j : Int), dif m ps (fun i => f (i - d)) j = dif m ps f (j - d)
  | [], f, d, j => rfl
  | p :: ps, f, d, j => by
    show dif m ps (fun i => f (i - d) - f (i - m / p - d)) j = dif m ps (fun i => f i - f (i - m / p)) (j - d)
    rw [← dif_turn ps (fun i => f i - f (i - m / p)) d j]
    congr 1
    funext i
    rw [show i - m / p - d = i - d - m / p by omega]
theorem dif_congr {m : Int} {ps : List Int} {f g : Int → Int} (h : ∀ i, f i = g i) (j : Int) : dif m ps f j = dif m ps g j := by
  rw [show f = g from funext h]
theorem dif_zero {m : Int} : ∀ (ps : List Int) (j : Int), dif m ps (fun _ => 0) j = 0
  | [], j => rfl
  | p :: ps, j => by
    show dif m ps (fun i => 0 - 0) j = 0
    exact dif_zero ps j
/-- the same number of the wheel: one sum less the other is nought all round -/
def SameN (m : Int) (f g : Int → Int) : Prop := ∀ j, dif m (primesF m) f j = dif m (primesF m) g j
theorem SameN.refl {m : Int} (f : Int → Int) : SameN m f f := fun _ => rfl
theorem SameN.trans {m : Int} {f g h : Int → Int} (a : SameN m f g) (b : SameN m g h) : SameN m f h := fun j => (a j).trans (b j)
theorem SameN.symm {m : Int} {f g : Int → Int} (a : SameN m f g) : SameN m g f := fun j => (a j).symm
theorem same_split {m : Int} {b : List Int} (hl : 1 ≤ b.length) (h1 : gt b ((b.length - 1 : Nat) : Int) = 1) (hb : ∀ j, dif m (primesF m) (cyc m 0 b) j = 0) : ∀ (n : Nat) (f r : List Int), SameN m (cyc m 0 (splitN b (b.length - 1) n f r).2) (cyc m 0 r)
  | 0, f, r => SameN.refl _
  | n + 1, f, r => by
    unfold splitN
    by_cases c : b.length - 1 < r.length
    · rw [if_pos c]
      refine (same_split hl h1 hb n _ _).trans fun j => ?_
      have hne : r ≠ [] := fun z => by rw [z] at c; simp at c
      have e1 : ∀ i, cyc m 0 (subN (r.getLastD 0) b (r.length - 1 - (b.length - 1)) r.dropLast (b.length - 1)) i = cyc m 0 r i - r.getLastD 0 * cyc m 0 b (i - ((r.length - 1 - (b.length - 1) : Nat) : Int)) := fun i => by
        rw [cyc_subN i _ (by omega) (by rw [List.length_dropLast]; omega), ← cyc_shift]
        have e2 : b = b.take (b.length - 1) ++ [1] := by
          have := take_snoc' (l := b) (i := b.length - 1) (by omega)
          rw [h1, show b.length - 1 + 1 = b.length by omega, List.take_length] at this
          exact this
        have e3 : r = r.dropLast ++ [r.getLastD 0] := by
          rw [List.getLastD_eq_getLast?, List.getLast?_eq_some_getLast hne]
          exact (List.dropLast_concat_getLast hne).symm
        have e4 : cyc m (0 + ((r.length - 1 - (b.length - 1) : Nat) : Int)) b i = cyc m ((r.length - 1 - (b.length - 1) : Nat) : Int) (b.take (b.length - 1)) i + if (((r.length : Int) - 1) - i) % m = 0 then 1 else 0 := by
          rw [Int.zero_add]
          have e6 : cyc m ((r.length - 1 - (b.length - 1) : Nat) : Int) b i = cyc m ((r.length - 1 - (b.length - 1) : Nat) : Int) (b.take (b.length - 1) ++ [1]) i := congrArg (fun z => cyc m ((r.length - 1 - (b.length - 1) : Nat) : Int) z i) e2
          rw [e6, cyc_append, cyc_one, List.length_take, show ((r.length - 1 - (b.length - 1) : Nat) : Int) + ((min (b.length - 1) b.length : Nat) : Int) = (r.length : Int) - 1 by omega]
        have e5 : cyc m 0 r i = cyc m 0 r.dropLast i + if (((r.length : Int) - 1) - i) % m = 0 then r.getLastD 0 else 0 := by
          have e6 : cyc m 0 r i = cyc m 0 (r.dropLast ++ [r.getLastD 0]) i := congrArg (fun z => cyc m 0 z i) e3
          rw [e6, cyc_append, cyc_one, List.length_dropLast, show (0 : Int) + ((r.length - 1 : Nat) : Int) = (r.length : Int) - 1 by omega]
        rw [e4, e5, Int.mul_add]
        by_cases q : ((r.length : Int) - 1 - i) % m = 0
        · simp only [q, if_true]; omega
        · simp only [q, if_false]; omega
      rw [dif_congr e1, dif_lin (primesF m) (cyc m 0 r) (fun i => cyc m 0 b (i - ((r.length - 1 - (b.length - 1) : Nat) : Int))) (r.getLastD 0) j, dif_turn, hb]
      omega
    · rw [if_neg c]
      exact SameN.refl _
end TB

/-! TbRing: what holds of the circles of 1 to 60, reckoned. -/
namespace TB
open PySem L2
/-! ### what holds of the circles of 1 to 60 -/
def okC (f : List Int) (r : Int) : Bool := decide (1 ≤ r) && decide (r ≤ 60) && decide (2 ≤ f.length) && decide (f.length ≤ 100) && f.all fun x => decide (x.natAbs < 1024)
def stripOk : Nat → Int → List Int → Int → Bool
  | 0, _, f, r => okC f r
  | n + 1, p, f, r => okC f r && (if r % p = 0 then stripOk n p (stretchF f p) (r / p) else true)
def cuS (p : Int) (s : List Int × Int) : List Int × Int := if s.2 % p = 0 then ((splitF (stretchF s.1 p) s.1).1, s.2 / p) else s
def circRun (m : Int) : Nat → (List Int × Int) × Bool
  | 0 => (([-1, 1], m), true)
  | i + 1 => let q := circRun m i
    let u := cuS (2 + (i : Int)) q.1
    (stripC 6 (2 + (i : Int)) u.1 u.2, q.2 && okC q.1.1 q.1.2 && stripOk 6 (2 + (i : Int)) u.1 u.2)
theorem stripC_no {n : Nat} {p : Int} {f : List Int} {r : Int} (h : ¬ r % p = 0) : stripC n p f r = (f, r) := by
  cases n with
  | zero => rfl
  | succ n => unfold stripC; rw [if_neg h]
theorem cstep_cu (p : Int) (s : List Int × Int) : stripC 6 p (cuS p s).1 (cuS p s).2 = cstep p s := by
  unfold cstep cuS
  by_cases c : s.2 % p = 0
  · simp only [if_pos c]
  · simp only [if_neg c]
    rw [stripC_no c]
theorem circRun_1 (m : Int) : ∀ i, (circRun m i).1 = circN m i
  | 0 => rfl
  | i + 1 => by
    show stripC 6 (2 + (i : Int)) (cuS (2 + (i : Int)) (circRun m i).1).1 (cuS (2 + (i : Int)) (circRun m i).1).2 = cstep (2 + (i : Int)) (circN m i)
    rw [circRun_1 m i, cstep_cu]
theorem circRun_ok (m : Int) : ∀ n i, (circRun m n).2 = true → i < n → okC (circN m i).1 (circN m i).2 = true ∧ stripOk 6 (2 + (i : Int)) (cuS (2 + (i : Int)) (circN m i)).1 (cuS (2 + (i : Int)) (circN m i)).2 = true
  | 0, _, _, h => by omega
  | n + 1, i, h, hi => by
    have h' : ((circRun m n).2 && okC (circRun m n).1.1 (circRun m n).1.2 && stripOk 6 (2 + (n : Int)) (cuS (2 + (n : Int)) (circRun m n).1).1 (cuS (2 + (n : Int)) (circRun m n).1).2) = true := h
    rw [circRun_1, Bool.and_eq_true, Bool.and_eq_true] at h'
    by_cases e : i = n
    · subst e
      exact ⟨h'.1.2, h'.2⟩
    · exact circRun_ok m n i h'.1.1 (by omega)
/-- the sums round the wheel, less a turn for each prime, as lists -/
def turnL (m : Int) (p : Int) (S : List Int) : List Int := (irange m).map fun k => gt S k - gt S (if 0 ≤ k - m / p then k - m / p else k - m / p + m)
def turnsL (m : Int) : List Int → List Int → List Int
  | [], S => S
  | p :: ps, S => turnsL m ps (turnL m p S)
def noughtL (m : Int) (xs : List Int) : Bool := (turnsL m (primesF m) ((irange m).map (cyc m 0 xs))).all fun x => decide (x = 0)
def ringOk (m : Int) : Bool := (circRun m (m - 1).toNat).2 && (let r := circ m
  decide (2 ≤ r.length) && decide ((r.length : Int) ≤ m + 1) && decide (gt r ((r.length - 1 : Nat) : Int) = 1) && r.all (fun x => decide (x.natAbs < 1024)) && noughtL m r && decide (degF m + 1 = r.length) && (primesF m).all fun p => decide (2 ≤ p) && decide (p ≤ m))
theorem rings_ok : (List.range 60).all (fun i => ringOk ((i : Int) + 1)) = true := by decide +kernel
theorem ring_ok {m : Int} (h1 : 1 ≤ m) (h2 : m ≤ 60) : ringOk m = true := by
  have := List.all_eq_true.mp rings_ok (m.toNat - 1) (by rw [List.mem_range]; omega)
  rw [show ((m.toNat - 1 : Nat) : Int) + 1 = m by omega] at this
  exact this
end TB

/-! TbGrp: groups as data: the product, what is in bounds. -/
namespace TB
open PySem L2
def mul (g : Grp) (a b : Int) : Int := gt (gt g.rows a) b
/-- rows and columns in bounds -/
structure GrpOk (g : Grp) : Prop where
  many : g.many = g.rows.length
  sq : ∀ r ∈ g.rows, r.length = g.rows.length
  bd : ∀ r ∈ g.rows, ∀ x ∈ r, 0 ≤ x ∧ x < g.rows.length
  un : 0 ≤ g.unit ∧ g.unit < g.rows.length
  bl : g.backs.length = g.rows.length
  bb : ∀ x ∈ g.backs, 0 ≤ x ∧ x < g.rows.length
  small : g.rows.length ≤ 23
def Th (g : Grp) (a : Int) : Prop := 0 ≤ a ∧ a < g.rows.length
theorem gt_mem {α : Type} [Rp α] {xs : List α} {i : Int} (h0 : 0 ≤ i) (h1 : i < xs.length) : gt xs i ∈ xs := List.mem_of_getElem? (gt_some h0 h1)
theorem GrpOk.row {g : Grp} (o : GrpOk g) {a : Int} (h : Th g a) : (gt g.rows a).length = g.rows.length := o.sq _ (gt_mem h.1 h.2)
theorem GrpOk.mul {g : Grp} (o : GrpOk g) {a b : Int} (h : Th g a) (k : Th g b) : Th g (mul g a b) := o.bd _ (gt_mem h.1 h.2) _ (gt_mem k.1 (by rw [o.row h]; exact k.2))
def prod (g : Grp) (l : List Int) : Int := l.foldl (mul g) g.unit
end TB
namespace TB
open PySem L2
/-! ### tables -/
abbrev Tbl := List (List Int)
def SizeOk (t : Tbl) : Prop := 1 ≤ t.length ∧ t.length ≤ 23 ∧ ∀ r ∈ t, r.length = t.length
/-- an entry -/
abbrev en (t : Tbl) (a b : Int) : Int := gt (gt t a) b
def Stg (t : Tbl) (x : Int) : Prop := x < 0 ∨ t.length ≤ x
/-- the first stranger's place -/
structure FirstStg (t : Tbl) (a b : Nat) : Prop where
  ha : a < t.length
  hb : b < t[a].length
  bad : Stg t t[a][b]
  rows : ∀ i (h : i < t.length), i < a → ∀ x ∈ t[i], ¬ Stg t x
  row : ∀ j (h : j < t[a].length), j < b → ¬ Stg t t[a][j]
def NoStg (t : Tbl) : Prop := ∀ r ∈ t, ∀ x ∈ r, 0 ≤ x ∧ x < t.length
def IsUnit (t : Tbl) (e : Int) : Prop := ∀ a : Int, 0 ≤ a → a < t.length → en t e a = a ∧ en t a e = a
def IsBack (t : Tbl) (u a b : Int) : Prop := en t a b = u ∧ en t b a = u
structure FirstBack (t : Tbl) (u a b : Int) : Prop where
  b0 : 0 ≤ b
  b1 : b < t.length
  is : IsBack t u a b
  no : ∀ c, 0 ≤ c → c < b → ¬ IsBack t u a c
def Asc (t : Tbl) (a b c : Int) : Prop := en t (en t a b) c = en t a (en t b c)
def InT (t : Tbl) (a : Int) : Prop := 0 ≤ a ∧ a < t.length
def AllAsc (t : Tbl) : Prop := ∀ a b c, InT t a → InT t b → InT t c → Asc t a b c
structure FirstBad (t : Tbl) (a b c : Int) : Prop where
  ha : InT t a
  hb : InT t b
  hc : InT t c
  bad : ¬ Asc t a b c
  r1 : ∀ x y z, InT t x → InT t y → InT t z → x < a → Asc t x y z
  r2 : ∀ y z, InT t y → InT t z → y < b → Asc t a y z
  r3 : ∀ z, InT t z → z < c → Asc t a b z
theorem gt_get {α : Type} [Rp α] {xs : List α} {i : Nat} (h : i < xs.length) : gt xs (i : Int) = xs[i] := gt_nat h
end TB
namespace TB
open PySem L2
/-! ### the group of a table -/
instance (t : Tbl) (u a b : Int) : Decidable (IsBack t u a b) := inferInstanceAs (Decidable (_ ∧ _))
def bkf (t : Tbl) (u a : Int) : Int := ((irange t.length).find? fun b => decide (IsBack t u a b)).getD 0
theorem find_irange {n : Int} {p : Int → Bool} {b : Int} (h : (irange n).find? p = some b) : 0 ≤ b ∧ b < n ∧ p b = true ∧ ∀ c, 0 ≤ c → c < b → p c = false := by
  have hp := List.find?_some h
  have hm := List.mem_of_find?_eq_some h
  rw [mem_irange] at hm
  refine ⟨hm.1, hm.2, hp, fun c h0 h1 => ?_⟩
  rw [List.find?_eq_some_iff_getElem] at h
  obtain ⟨_, i, hi, e, hlt⟩ := h
  rw [irange_get] at e
  have hc : c.toNat < i := by omega
  have := hlt c.toNat hc
  rw [irange_get] at this
  rw [show ((c.toNat : Nat) : Int) = c by omega] at this
  simpa using this
theorem bkf_first {t : Tbl} {u a : Int} (h : ∃ b, InT t b ∧ IsBack t u a b) : FirstBack t u a (bkf t u a) := by
  obtain ⟨b, hb, hk⟩ := h
  unfold bkf
  cases e : (irange t.length).find? fun b => decide (IsBack t u a b) with
  | none =>
    rw [List.find?_eq_none] at e
    exact absurd (decide_eq_true hk) (e b (mem_irange.mpr hb))
  | some x =>
    obtain ⟨h0, h1, h2, h3⟩ := find_irange e
    exact ⟨h0, h1, of_decide_eq_true h2, fun c c0 c1 => of_decide_eq_false (h3 c c0 c1)⟩
def grpOf (t : Tbl) (u : Int) : Grp := ⟨t.length, t, u, (irange t.length).map (bkf t u)⟩
end TB
namespace TB
open PySem L2
theorem irange_succ (i : Nat) : irange ((i : Int) + 1) = irange (i : Int) ++ [(i : Int)] := by
  unfold irange
  rw [show ((i : Int) + 1).toNat = i + 1 by omega, show (i : Int).toNat = i by omega, List.range_succ, List.map_append]
  rfl
theorem irange_zero : irange (0 : Int) = [] := rfl
theorem unit_one {t : Tbl} {u e : Int} (hu : InT t u) (he : InT t e) (h1 : IsUnit t u) (h2 : IsUnit t e) : u = e := by
  have a1 := (h1 e he.1 he.2).1
  have a2 := (h2 u hu.1 hu.2).2
  rw [← a2, a1]
/-- a table that is a group's, with its unit -/
structure GTbl (t : Tbl) (e : Int) : Prop where
  sz : SizeOk t
  ns : NoStg t
  he : InT t e
  un : IsUnit t e
  bk : ∀ a, InT t a → ∃ b, InT t b ∧ IsBack t e a b
  asc : AllAsc t
theorem GTbl.ok {t : Tbl} {e : Int} (h : GTbl t e) : GrpOk (grpOf t e) := by
  have hb : ∀ x ∈ (grpOf t e).backs, 0 ≤ x ∧ x < t.length := by
    intro x hx
    obtain ⟨a, ha, rfl⟩ := List.mem_map.mp hx
    rw [mem_irange] at ha
    have := bkf_first (h.bk a ha)
    exact ⟨this.b0, this.b1⟩
  exact ⟨rfl, h.sz.2.2, h.ns, h.he, by show ((irange t.length).map _).length = t.length; rw [List.length_map, irange_len]; omega, hb, h.sz.2.1⟩
end TB
namespace TB
open PySem L2
theorem gt_map {α : Type} [Rp α] {f : Int → α} {n i : Int} (h0 : 0 ≤ i) (h1 : i < n) : gt ((irange n).map f) i = f i := by
  have h2 : i.toNat < ((irange n).map f).length := by rw [List.length_map, irange_len]; omega
  unfold gt
  rw [getD_eq h2, List.getElem_map, irange_get, show ((i.toNat : Nat) : Int) = i by omega]
end TB
namespace TB
open PySem L2
/-- [list(row) for row in table] -/
theorem ev_copyT {c : Cn} {Γ : List Sl} {tl : TE} {t : Tbl} {j : Nat} (h : Ev c Γ tl (.im t)) (hn : t.length < 1000000) (hu : UnAt Γ [j]) (hv : ∀ r : List Int, (Γ.set j (.im r))[j]? = some (.im r)) : Ev c Γ (tLc (iList c.Z.K tl) (gName j) tYes (tCB (gList c.Z.K) (tCons (tVar j) tNil)) [j]) (.ol t) :=
  ev_is (ev_mapL (xs := t) (fun r => r) h hn (by simp) hu fun r _ => ev_fr (ev_list (ev_var (hv r)))) (congrArg Sl.ol (List.map_id' _))
end TB

/-! TbWh: wheels as data; more rules for lists. -/
namespace TB
open PySem L2
def Per (m : Int) (f : Int → Int) : Prop := ∀ j k, f (j + m * k) = f j
theorem per_cyc {m o : Int} {xs : List Int} : Per m (cyc m o xs) := fun j k => cyc_per o xs j k
theorem per_turn {m p : Int} {f : Int → Int} (h : Per m f) : Per m (fun i => f i - f (i - m / p)) := fun j k => by
  show f (j + m * k) - f (j + m * k - m / p) = _
  rw [h j k, show j + m * k - m / p = j - m / p + m * k by omega, h]
theorem turnL_map {m p : Int} {f : Int → Int} (hf : Per m f) (h1 : 1 ≤ m) (hp : 1 ≤ p) : turnL m p ((irange m).map f) = (irange m).map fun i => f i - f (i - m / p) := by
  unfold turnL
  refine List.map_congr_left fun k hk => ?_
  rw [mem_irange] at hk
  have h2 : 0 ≤ m / p := Int.ediv_nonneg (by omega) (by omega)
  have h3 : m / p ≤ m := Int.ediv_le_self _ (by omega)
  rw [gt_map hk.1 hk.2]
  by_cases c : 0 ≤ k - m / p
  · rw [if_pos c, gt_map c (by omega)]
  · rw [if_neg c, gt_map (by omega) (by omega), ← hf (k - m / p) 1, Int.mul_one]
theorem turnsL_map {m : Int} (h1 : 1 ≤ m) : ∀ (ps : List Int) (f : Int → Int), (∀ p ∈ ps, 1 ≤ p) → Per m f → turnsL m ps ((irange m).map f) = (irange m).map (dif m ps f)
  | [], f, _, _ => rfl
  | p :: ps, f, hp, hf => by
    show turnsL m ps (turnL m p _) = _
    rw [turnL_map hf h1 (hp p (by simp)), turnsL_map h1 ps _ (fun q hq => hp q (by simp [hq])) (per_turn hf)]
    rfl
theorem per_dif {m : Int} : ∀ (ps : List Int) {f : Int → Int}, Per m f → Per m (dif m ps f)
  | [], f, h => h
  | p :: ps, f, h => per_dif ps (per_turn h)
theorem per_all {m : Int} {f : Int → Int} (h : Per m f) (h1 : 1 ≤ m) (h0 : ∀ j, 0 ≤ j → j < m → f j = 0) : ∀ j, f j = 0 := fun j => by
  have q := h (j % m) (j / m)
  rw [Int.emod_add_mul_ediv] at q
  rw [q]
  exact h0 _ (Int.emod_nonneg _ (by omega)) (Int.emod_lt_of_pos _ (by omega))
structure RingF (m : Int) : Prop where
  run : (circRun m (m - 1).toNat).2 = true
  len : 2 ≤ (circ m).length
  le : ((circ m).length : Int) ≤ m + 1
  one : gt (circ m) (((circ m).length - 1 : Nat) : Int) = 1
  bd : Bd 10 (circ m)
  nou : ∀ j, dif m (primesF m) (cyc m 0 (circ m)) j = 0
  deg : degF m + 1 = (circ m).length
  pr : ∀ p ∈ primesF m, 2 ≤ p ∧ p ≤ m
theorem ringF {m : Int} (h1 : 1 ≤ m) (h2 : m ≤ 60) : RingF m := by
  have h := ring_ok h1 h2
  unfold ringOk at h
  simp only [Bool.and_eq_true, decide_eq_true_eq, List.all_eq_true] at h
  obtain ⟨a, ⟨⟨⟨⟨⟨b, c⟩, d⟩, e⟩, f⟩, g⟩, i⟩ := h
  refine ⟨a, b, c, d, fun x hx => by have := e x hx; exact Nat.lt_of_lt_of_le this (by decide), ?_, g, fun p hp => ⟨(i p hp).1, (i p hp).2⟩⟩
  unfold noughtL at f
  rw [turnsL_map h1 _ _ (fun p hp => by have := (i p hp).1; omega) per_cyc, List.all_eq_true] at f
  refine per_all (per_dif _ per_cyc) h1 fun j j0 j1 => ?_
  have := f (dif m (primesF m) (cyc m 0 (circ m)) j) (List.mem_map.mpr ⟨j, mem_irange.mpr ⟨j0, j1⟩, rfl⟩)
  simpa using this
theorem noughtL_of {m : Int} {xs : List Int} (h1 : 1 ≤ m) (h2 : m ≤ 60) (h : ∀ j, dif m (primesF m) (cyc m 0 xs) j = 0) : noughtL m xs = true := by
  unfold noughtL
  rw [turnsL_map h1 _ _ (fun p hp => by have := ((ringF h1 h2).pr p hp).1; omega) per_cyc, List.all_eq_true]
  intro x hx
  obtain ⟨j, _, rfl⟩ := List.mem_map.mp hx
  exact decide_eq_true (h j)
theorem turnsL_snoc {m p : Int} : ∀ (ps : List Int) (S : List Int), turnsL m (ps ++ [p]) S = turnL m p (turnsL m ps S)
  | [], S => rfl
  | q :: ps, S => turnsL_snoc ps (turnL m q S)
theorem turnsL_len {m : Int} : ∀ (ps : List Int) (S : List Int), S.length = m.toNat → (turnsL m ps S).length = m.toNat
  | [], S, h => h
  | q :: ps, S, h => turnsL_len ps (turnL m q S) (by unfold turnL; rw [List.length_map, irange_len])
/-- the lowest form -/
def lowF (m : Int) (cs : List Int) : List Int := (splitF ((irange m).map (cyc m 0 cs)) (circ m)).2
theorem cyc_map {m : Int} {f : Int → Int} (hf : Per m f) (h1 : 1 ≤ m) (j : Int) : cyc m 0 ((irange m).map f) j = f j := by
  have key : ∀ n : Nat, (n : Int) ≤ m → cyc m 0 ((irange n).map f) j = if j % m < n then f (j % m) else 0 := by
    intro n
    induction n with
    | zero =>
      intro _
      have := Int.emod_nonneg j (show m ≠ 0 by omega)
      rw [if_neg (by omega)]
      rfl
    | succ n ih =>
      intro hn
      have g := ih (by omega)
      rw [show ((n + 1 : Nat) : Int) = (n : Int) + 1 by omega, irange_suc (by omega), List.map_append, cyc_append, g, List.map_singleton, cyc_one, List.length_map, irange_len, show (0 : Int) + (((n : Int).toNat : Nat) : Int) = n by omega]
      have e1 := Int.emod_nonneg j (show m ≠ 0 by omega)
      by_cases c : j % m = n
      · rw [if_neg (by omega), if_pos (by rw [← c, Int.sub_emod, Int.emod_emod, Int.sub_self]; rfl), if_pos (by omega), c]
        omega
      · have c2 : ¬ ((n : Int) - j) % m = 0 := fun z => c (by
          have := Int.emod_emod_of_dvd ((n : Int) - j) (Int.dvd_refl m)
          obtain ⟨k, hk⟩ := Int.dvd_of_emod_eq_zero z
          rw [show j = (n : Int) + m * (-k) by rw [Int.mul_neg]; omega, Int.add_mul_emod_self_left]
          exact Int.emod_eq_of_lt (by omega) (by omega))
        rw [if_neg c2]
        by_cases c3 : j % m < n
        · rw [if_pos c3, if_pos (by omega)]; omega
        · rw [if_neg c3, if_neg (by omega)]; omega
  have := key m.toNat (by omega)
  rw [show ((m.toNat : Nat) : Int) = m by omega, if_pos (Int.emod_lt_of_pos _ (by omega))] at this
  rw [this]
  have q := hf (j % m) (j / m)
  rw [Int.emod_add_mul_ediv] at q
  exact q.symm
theorem lowF_len {m : Int} (h1 : 1 ≤ m) (h2 : m ≤ 60) (cs : List Int) : (lowF m cs).length = (circ m).length - 1 := by
  have r := ringF h1 h2
  have h3 := r.len
  have h4 := r.le
  unfold lowF splitF
  rw [splitN_len _ _ _ (Nat.le_refl _), List.length_map, irange_len]
  omega
theorem lowF_same {m : Int} (h1 : 1 ≤ m) (h2 : m ≤ 60) (cs : List Int) : SameN m (cyc m 0 (lowF m cs)) (cyc m 0 cs) := by
  have r := ringF h1 h2
  unfold lowF splitF
  refine (same_split (by have := r.len; omega) r.one r.nou _ _ _).trans fun j => dif_congr (fun i => cyc_map per_cyc h1 i) j
theorem set_map {m k v : Int} {f : Int → Int} (h0 : 0 ≤ k) (h1 : k < m) : ((irange m).map f).set k.toNat v = (irange m).map fun j => if j = k then v else f j := by
  refine List.ext_getElem (by simp) fun i hi1 hi2 => ?_
  rw [List.getElem_set, List.getElem_map, List.getElem_map]
  have hl : i < (irange m).length := by simpa using hi2
  rw [irange_get hl]
  by_cases c : k.toNat = i
  · rw [if_pos c, if_pos (by omega)]
  · rw [if_neg c, if_neg (by omega)]
theorem mod_iff {m a j : Int} (hm : 1 ≤ m) (j0 : 0 ≤ j) (j1 : j < m) : (a - j) % m = 0 ↔ j = a % m := by
  constructor
  · intro h
    obtain ⟨k, hk⟩ := Int.dvd_of_emod_eq_zero h
    rw [show a = j + m * k by omega, Int.add_mul_emod_self_left]
    exact (Int.emod_eq_of_lt j0 j1).symm
  · intro h
    rw [h, Int.sub_emod, Int.emod_emod, Int.sub_self]
    rfl
/-- one more put to a sum -/
theorem sum_put {m a x : Int} {f : Int → Int} (hm : 1 ≤ m) : ((irange m).map f).set (a % m).toNat (gt ((irange m).map f) (a % m) + x) = (irange m).map fun j => f j + if (a - j) % m = 0 then x else 0 := by
  have h0 := Int.emod_nonneg a (show m ≠ 0 by omega)
  have h1 := Int.emod_lt_of_pos a (show 0 < m by omega)
  rw [set_map h0 h1, gt_map h0 h1]
  refine List.map_congr_left fun j hj => ?_
  rw [mem_irange] at hj
  have := mod_iff (a := a) hm hj.1 hj.2
  by_cases c : j = a % m
  · rw [if_pos c, if_pos (this.mpr c), c]
  · rw [if_neg c, if_neg fun z => c (this.mp z)]
    omega
theorem cyc_bd {m : Int} {a : Nat} : ∀ {xs : List Int} {o : Int} (j : Int), Bd a xs → (cyc m o xs j).natAbs ≤ xs.length * 2 ^ a
  | [], _, j, _ => by simp [cyc]
  | x :: xs, o, j, h => by
    have ih := cyc_bd (m := m) (xs := xs) (o := o + 1) j fun y hy => h y (by simp [hy])
    have h2 := h x (by simp)
    show ((if (o - j) % m = 0 then x else 0) + cyc m (o + 1) xs j).natAbs ≤ _
    rw [List.length_cons, Nat.succ_mul]
    split <;> omega
theorem sums_bd {m : Int} {a k : Nat} {xs : List Int} (h : Bd a xs) (hl : xs.length < 2 ^ k) : Bd (a + k) ((irange m).map (cyc m 0 xs)) := fun x hx => by
  obtain ⟨j, _, rfl⟩ := List.mem_map.mp hx
  have h1 := cyc_bd (m := m) (o := 0) j h
  have h2 : xs.length * 2 ^ a < 2 ^ k * 2 ^ a := Nat.mul_lt_mul_of_pos_right hl (Nat.pow_pos (by omega))
  rw [Nat.add_comm, Nat.pow_add]
  omega
theorem zeros_map {n : Int} : (List.replicate n.toNat (0 : Int)) = (irange n).map fun _ => 0 := by
  rw [List.map_const', irange_len]
theorem flat_zero (n : Nat) : (List.replicate n [(0 : Int)]).flatten = List.replicate n 0 := by
  induction n with
  | zero => rfl
  | succ n ih => rw [List.replicate_succ, List.replicate_succ, List.flatten_cons, ih]; rfl
section
variable {c : Cn} {Γ : List Sl} {ta tb te tl ty : TE} {tt tc : TT} {t u : TS} {s s' so : Sl} {α β γ : Type} {_ : Rp α} {_ : Rp β} {_ : Rp γ} {P : Po} {d : α}
theorem ev_lenI {xs : List Int} (ha : Ev c Γ ta (.im xs)) : Ev c Γ (tCB (gLen c.Z.K) (tCons ta tNil)) (.im (xs.length : Int)) := ev_len ha
theorem ev_frI {xs : List Int} (h : Ev c Γ te (.ol xs)) : Ev c Γ te (.im xs) := ev_fr h
theorem ev_zeros {n : Int} (h : Ev c Γ te (.im n)) (h0 : 0 ≤ n) (hn : n < 1000000) : Ev c Γ (tOp gMul (tLst (tCons (tC (.int 0)) tNil)) te) (.ol (List.replicate n.toNat (0 : Int))) :=
  ev_is (ev_rep (xs := [(0 : Int)]) (ev_fr (ev_lstH (evh_cons ev_int evh_nil) (by decide))) h h0 (by show 1 * n.toNat ≤ 1000000; omega) hn) (by rw [flat_zero])
/-- xs[i] = y -/
theorem w_putG {k : Nat} {xs : List α} {y : α} {i : Int} (e : Γ[k]? = some (.ol xs)) (h : Ev c Γ te (.im y)) (hi : Ev c Γ tb (.im i)) (h0 : 0 ≤ i) (h1 : i < xs.length) (kk : P.nx (Γ.set k (.ol (xs.set i.toNat y)))) : W c Γ (tAsg te (gSub (tVar k) tb gSet)) P := fun B R0 R H ρ Δ σ D S n r bb kk' x =>
  h B R0 R H ρ Δ σ S _ (fun w R1 H1 S1 => by
    obtain ⟨p, vs, h2, h3, h4, _⟩ := sx_mutl (sx_pop S1) e
    refine ⟨.ref p, h2, hi B R0 R1 H1 _ _ σ S1 _ (fun z R2 H2 S2 => ?_) x.push1⟩
    have ez : z = .int i := sx_top' S2
    obtain ⟨p', vs', h2', h3', h4', h5⟩ := sx_mutl (sx_pop (sx_pop S2)) e
    have ep : p = p' := by
      rw [h2] at h2'
      cases h2'
      rfl
    subst ep
    exact .inl ⟨p, vs', i, i.toNat, rfl, ez, h3', ixN_of h0 (by rw [Paired.length h4']; exact h1), n R2 _ _ _ (h5 _ _ (paired_set (sx_top' (sx_pop S2)) _ h4')) kk⟩) x
/-- x = xs.pop() -/
theorem w_popA {i j : Nat} {xs : List α} (e : Γ[i]? = some (.ol xs)) (h : xs ≠ []) (k : P.nx ((Γ.set i (.ol xs.dropLast)).set j (.im (xs.getLastD Rp.df)))) : W c Γ (tAsg (tBM0 c.Z.K "list" rPop (tVar i)) (gName j)) P := fun B R0 R H ρ Δ σ D S n r bb kk x => by
  obtain ⟨p, vs, h2, h3, h4, h5⟩ := sx_mutl S e
  have hl := Paired.length h4
  have hl2 : 0 < xs.length := List.length_pos_iff.mpr h
  obtain ⟨v, hv, rv⟩ := paired_get h4 (i := xs.length - 1) (b := xs.getLastD Rp.df) (by rw [List.getLastD_eq_getLast?, List.getLast?_eq_getElem?, List.getElem?_eq_getElem (by omega)]; rfl)
  refine ⟨.ref p, h2, tyL h3, p, vs, v, rfl, rfl, h3, by rw [hl]; exact hv, n R _ _ _ (sx_asg (sx_push (h5 vs.dropLast xs.dropLast ?_) rv) j) k⟩
  rw [List.dropLast_eq_take, List.dropLast_eq_take, hl]
  exact paired_take _ h4
/-- xs[i], i below nought, too -/
theorem ev_ixM {xs : List α} {i : Int} (ha : Ev c Γ ta (.im xs)) (hb : Ev c Γ tb (.im i)) (h0 : -(xs.length : Int) ≤ i) (h1 : i < xs.length) : Ev c Γ (tOp (gIx c.Z.K) ta tb) (.im (gt xs (if 0 ≤ i then i else i + xs.length))) := ev_opv ha hb fun R H v w sm rv rw => by
  obtain ⟨a, vs, rfl, ha, hp⟩ := rv
  have hl := Paired.length hp
  obtain ⟨k, hk, rk⟩ := paired_get hp (gt_some (xs := xs) (i := if 0 ≤ i then i else i + xs.length) (by split <;> omega) (by split <;> omega))
  refine ⟨k, rk, fun Q q => .inl ⟨a, vs, i, k, rfl, rw, SqL.of (sm _ _ ha), ?_, q⟩⟩
  unfold atI ixN
  by_cases c : 0 ≤ i
  · rw [if_pos c, if_pos (by omega)]
    rw [if_pos c] at hk
    exact hk
  · rw [if_neg c, if_pos (by omega)]
    rw [if_neg c] at hk
    rw [hl]
    exact hk
/-! ### wheels -/
end
structure Whl where
  ring : List Int
  spokes : Int
  size : Int
structure WhlC (Z : Zz) : Prop where
  cl : Cls Z.K (Z.cls .Wheel)
  n1 : NoAttr Z.K (Z.cls .Wheel) "ring"
  n2 : NoAttr Z.K (Z.cls .Wheel) "spokes"
  n3 : NoAttr Z.K (Z.cls .Wheel) "size"
def flW (r m z : V) : List (Str × V) := [("ring", r), ("spokes", m), ("size", z)]
instance : Rp Whl := ⟨⟨[], 0, 0⟩, fun Z H v g => WhlC Z ∧ ∃ a dx r m z, v = .ref a ∧ H a = some (.ins (Z.cls .Wheel) dx (flW r m z)) ∧ Rp.rp Z H r g.ring ∧ Rp.rp Z H m g.spokes ∧ Rp.rp Z H z g.size,
  fun e h => by
    obtain ⟨h0, a, dx, r, m, z, h1, h2, h3, h4, h5⟩ := h
    exact ⟨h0, a, dx, r, m, z, h1, e _ _ h2, Rp.mono e h3, Rp.mono e h4, Rp.mono e h5⟩⟩
theorem flW1 (r m z : V) : (flW r m z).lookup ("ring" : Str) = some r := lookup_here
theorem flW2 (r m z : V) : (flW r m z).lookup ("spokes" : Str) = some m := by
  unfold flW
  rw [lookup_at (by decide +kernel), lookup_here]
theorem flW3 (r m z : V) : (flW r m z).lookup ("size" : Str) = some z := by
  unfold flW
  rw [lookup_at (by decide +kernel), lookup_at (by decide +kernel), lookup_here]
theorem gt_setN {α : Type} [Rp α] {xs : List α} {i j : Nat} {v : α} (h : i < xs.length) : gt (xs.set i v) (j : Int) = if i = j then v else gt xs (j : Int) := by
  unfold gt
  rw [List.getD_eq_getElem?_getD, List.getD_eq_getElem?_getD, List.getElem?_set]
  by_cases c : i = j
  · subst c
    simp [h]
  · simp [c]
def whl (m : Int) : Whl := ⟨circ m, m, ((circ m).length : Int) - 1⟩
section
variable {c : Cn} {Γ : List Sl} {ta tb te tl : TE} {g : Whl}
theorem ev_ring (h : Ev c Γ te (.im g)) : Ev c Γ (tFld c.Z.K te "ring") (.im g.ring) := ev_fld h fun R v ⟨h0, a, dx, r, m, z, h1, h2, h3, h4, h5⟩ => ⟨a, _, dx, _, r, h1, h2, h0.cl, h0.n1, flW1 .., h3⟩
theorem ev_spokes (h : Ev c Γ te (.im g)) : Ev c Γ (tFld c.Z.K te "spokes") (.im g.spokes) := ev_fld h fun R v ⟨h0, a, dx, r, m, z, h1, h2, h3, h4, h5⟩ => ⟨a, _, dx, _, m, h1, h2, h0.cl, h0.n2, flW2 .., h4⟩
theorem ev_sizeW (h : Ev c Γ te (.im g)) : Ev c Γ (tFld c.Z.K te "size") (.im g.size) := ev_fld h fun R v ⟨h0, a, dx, r, m, z, h1, h2, h3, h4, h5⟩ => ⟨a, _, dx, _, z, h1, h2, h0.cl, h0.n3, flW3 .., h5⟩
theorem whl_m {o : Whl} {m : Str} (hm : m ≠ "ring" ∧ m ≠ "spokes" ∧ m ≠ "size") {Z : Zz} : ∀ R v, Rp.rp Z R v o → ∃ a dx fs, v = .ref a ∧ R a = some (.ins (Z.cls .Wheel) dx fs) ∧ fs.lookup m = none := fun R v ⟨h0, a, dx, r, m', z, h1, h2, h3, h4, h5⟩ => ⟨a, dx, _, h1, h2, by
  unfold flW
  rw [lookup_at (Ne.symm hm.1), lookup_at (Ne.symm hm.2.1), lookup_at (Ne.symm hm.2.2)]
  rfl⟩
/-- Wheel.__init__ -/
def spI_Wheel (Z : Zz) : Sp := fun vs H Q E => ∃ x dx m, vs = [.ref x, .int m] ∧ H x = some (.ins (Z.cls .Wheel) dx []) ∧ WhlC Z ∧
  (1 ≤ m ∧ m ≤ 60 → ∀ H' p, H p = none → p ≠ x → H' p = some (.lst ((circ m).map V.int)) → H' x = some (.ins (Z.cls .Wheel) dx (flW (.ref p) (.int m) (.int (((circ m).length : Int) - 1)))) → (∀ b o, H b = some o → b ≠ x → H' b = some o) → Q .non H') ∧
  (¬ (1 ≤ m ∧ m ≤ 60) → ∀ H' cls d, Same H H' → RepEx Z H H' ⟨.BadWheel, []⟩ cls d → E cls d H')
theorem sx_newW {Z : Zz} {B R0 R H H' : Hp} {ρ σ : List (Option V)} {Δ : List Sl} {x dx p : Addr} {m : Int} (hZ : WhlC Z) (S : Sx Z B R0 R H ρ Δ σ Γ) (nx : H x = none) (ndx : H dx = none) (hne : dx ≠ x) (np : H p = none) (npx : p ≠ x)
    (e1 : H' p = some (.lst ((circ m).map V.int))) (e2 : H' x = some (.ins (Z.cls .Wheel) dx (flW (.ref p) (.int m) (.int (((circ m).length : Int) - 1))))) (e3 : ∀ b o, H b = some o → H' b = some o) : ∃ R', Sx Z B R0 R' H' (some (.ref x) :: ρ) (.im (whl m) :: Δ) σ Γ := by
  have sm := sx_same S
  have rx : R x = none := sm.free nx
  have rp : R p = none := sm.free np
  refine ⟨upd (upd R p (.lst ((circ m).map V.int))) x (.ins (Z.cls .Wheel) dx (flW (.ref p) (.int m) (.int (((circ m).length : Int) - 1)))), sx_call S ⟨rfl, [], ⟨fun b o e => ?_, e3, fun b o e => ?_, fun b o e => ?_, fun p hp => by simp at hp, List.nodup_nil⟩, [], [], rfl, ⟨rfl, _, rfl, hZ, x, dx, _, _, _, rfl, upd_same, ⟨p, (circ m).map V.int, rfl, by rw [upd_ne npx, upd_same], paired_of_int _⟩, rfl, rfl⟩, rfl⟩⟩
  · by_cases h1 : b = x
    · subst h1; rw [upd_same] at e; rw [← e]; exact e2
    · rw [upd_ne h1] at e
      by_cases h2 : b = p
      · subst h2; rw [upd_same] at e; rw [← e]; exact e1
      · rw [upd_ne h2] at e; exact e3 _ _ (sm _ _ e)
  · have b1 : b ≠ x := fun z => by subst z; rw [rx] at e; cases e
    have b2 : b ≠ p := fun z => by subst z; rw [rp] at e; cases e
    rw [upd_ne b1, upd_ne b2]
    exact e
  · by_cases h1 : b = x
    · subst h1; exact .inr nx
    · rw [upd_ne h1] at e
      by_cases h2 : b = p
      · subst h2; exact .inr np
      · rw [upd_ne h2] at e; exact .inl e
theorem ev_mkWheel {m : Int} {t : TA} (hZ : WhlC c.Z) (h1 : 1 ≤ m) (h2 : m ≤ 60) (ha : EvA c Γ t [.im m]) : Ev c Γ (tMakeSD (c.Z.cls .Wheel) (spI_Wheel c.Z) [] (WE c.X) t) (.im (whl m)) := fun B R0 R H ρ Δ σ S Q q xk =>
  ha B R0 R H ρ Δ σ S _ (fun vs R1 H1 S1 sl => by
    intro x dx nx ndx hne
    cases sl with
    | cons r1 t1 =>
      cases t1
      rename_i v1
      have e : v1 = .int m := r1
      subst e
      refine ⟨x, dx, m, rfl, upd_same, hZ, fun _ H' p np npx e1 e2 e3 => ⟨rfl, ?_⟩, fun z => absurd ⟨h1, h2⟩ z⟩
      have np' : H1 p = none := by
        rw [upd_ne npx] at np
        by_cases c' : p = dx
        · rw [c']; exact ndx
        · rw [upd_ne c'] at np; exact np
      obtain ⟨R', S'⟩ := sx_newW hZ S1 nx ndx hne np' npx e1 e2 fun b o e => by
        have b1 : b ≠ x := fun z => by subst z; rw [nx] at e; cases e
        have b2 : b ≠ dx := fun z => by subst z; rw [ndx] at e; cases e
        exact e3 b o (by rw [upd_ne b1, upd_ne b2]; exact e) b1
      exact q _ R' H' S') xk
end
end TB

/-! ### split -/
namespace TB
open PySem L2
--use TbPoly
--use TbWh
def T_split : Tm := tm2 fun (top b : List Int) ok _ => ∃ x y : Nat, Bd x top ∧ Bd y b ∧ 1 ≤ b.length ∧ top.length ≤ 10000 ∧ b.length ≤ 1000 ∧ x ≤ 100000 ∧ y ≤ 50 ∧ ok (.ot (.t [oti (splitF top b).1, oti (splitF top b).2]))
def t_split (Z : Zz) (X : WX) : TS :=
  (tSeq (tAsg (tCB (gList Z.K) (tCons (tVar 0) tNil)) (gName 2))
  (tSeq (tAsg (tOp gMns (tCB (gLen Z.K) (tCons (tVar 1) tNil)) (tC (.int 1))) (gName 3))
  (tSeq (tAsg (tLst tNil) (gName 4))
  (tSeq (tWhile (tTest (tOp gGt (tCB (gLen Z.K) (tCons (tVar 2) tNil)) (tVar 3)))
  (tSeq (tAsg (tBM0 Z.K "list" rPop (tVar 2)) (gName 5))
  (tSeq (tDrop (tBM Z.K "list" gInsert (tVar 4) (tCons (tC (.int 0)) (tCons (tVar 5) tNil))))
  (tFor (iRng1 (tCons (tVar 3) tNil)) (gName 6)
  (tAugS (tVar 2) (tOp gAdd (tOp gMns (tCB (gLen Z.K) (tCons (tVar 2) tNil)) (tVar 3)) (tVar 6)) (tOp gMul (tVar 5) (tOp (gIx Z.K) (tVar 1) (tVar 6))) (rIxL Z.K) (ipI fun i j => i - j) rSetL)))))
  (tRet (tTup (tCons (tVar 4) (tCons (tVar 2) tNil))))))))
theorem w_split (Z : Zz) (X : WX) (ss : List Sl) (ok : Sl → Prop) (er : Rf → Prop) (h : T_split ss ok er) : WF Z X er (ss ++ List.replicate (7 - ss.length) .un) (t_split Z X) ok := by
  obtain ⟨top, b, rfl, x, y, hx, hy, hb, hl, hl2, hx1, hy1, k⟩ := h
  show W _ [.im top, .im b, .un, .un, .un, .un, .un] _ _
  unfold t_split
  refine w_seq (w_asg (s := .ol top) (ev_list (ev_var rfl)) ?_)
  refine w_seq (w_asg (s := .im ((b.length : Int) - 1)) (ev_sub (ev_len (ev_var rfl)) ev_int) ?_)
  refine w_seq (w_asg (ev_nil (δ := Int)) ?_)
  walk_at "nz"
  refine w_mid (fun G => ∃ s5 s6, G = [.im top, .im b, .ol (splitF top b).2, .im ((b.length : Int) - 1), .ol (splitF top b).1, s5, s6]) ?_ ?_
  · refine w_while (fun m G => ∃ f r s5 s6, G = [.im top, .im b, .ol r, .im ((b.length : Int) - 1), .ol f, s5, s6] ∧ r.length = m ∧ m + f.length ≤ top.length ∧ splitN b (b.length - 1) m f r = splitF top b ∧ Bd (x + (top.length - m) * (y + 1)) r) top.length ⟨[], top, _, _, rfl, rfl, by simp, rfl, by simpa using hx⟩ ?_
    rintro m G ⟨f, r, s5, s6, rfl, hm, hfl, hs, hbd⟩
    refine ⟨decide ((b.length : Int) - 1 < r.length), et_test (ev_gt (ev_lenO rfl) (ev_var rfl)), fun hc => ?_, fun hc => ?_⟩
    · simp at hc
      have hne : r ≠ [] := fun z => by rw [z] at hc; simp at hc; omega
      obtain ⟨n, rfl⟩ : ∃ n, m = n + 1 := ⟨m - 1, by omega⟩
      rw [splitN, if_pos (by omega)] at hs
      refine w_seq (w_popA (xs := r) rfl hne ?_)
      walk_at "nz"
      have hd : (r.dropLast).length = n := by rw [List.length_dropLast]; omega
      have hsb : (r.getLastD 0).natAbs < 2 ^ (x + (top.length - (n + 1)) * (y + 1)) := hbd _ (by
        rw [List.getLastD_eq_getLast?, List.getLast?_eq_some_getLast hne]
        exact List.getLast_mem hne)
      have hdb : Bd (x + (top.length - (n + 1)) * (y + 1)) r.dropLast := fun z hz => hbd z (by rw [List.dropLast_eq_take] at hz; exact List.mem_of_mem_take hz)
      have hexp : x + (top.length - (n + 1)) * (y + 1) ≤ 100000 + 10000 * 51 := by
        have : (top.length - (n + 1)) * (y + 1) ≤ 10000 * 51 := Nat.mul_le_mul (by omega) (by omega)
        omega
      have hexp2 : x + (top.length - (n + 1)) * (y + 1) + y + 1 = x + (top.length - n) * (y + 1) := by
        have : top.length - n = top.length - (n + 1) + 1 := by omega
        rw [this, Nat.succ_mul]
        omega
      rw [show (Rp.df : Int) = 0 from rfl]
      generalize r.getLastD 0 = sh at hs hsb ⊢
      generalize r.dropLast = r' at hs hd hdb ⊢
      generalize x + (top.length - (n + 1)) * (y + 1) = ex at hsb hdb hexp hexp2
      refine w_seq (w_ins (xs := f) rfl ev_int (ev_var rfl) (by decide) (by decide) (by omega) ?_)
      walk_at "nz"
      rw [show (List.take (Int.toNat 0) f ++ [sh] ++ List.drop (Int.toNat 0) f) = sh :: f from rfl]
      refine w_forR (n := (b.length : Int) - 1) (fun i G => ∃ s6, G = [.im top, .im b, .ol (subN sh b (r.length - 1 - (b.length - 1)) r' i), .im ((b.length : Int) - 1), .ol (sh :: f), .im sh, s6]) (ev_var rfl) (by omega) (by omega) ⟨_, rfl⟩ ?_ ?_
      · rintro i G hi ⟨s6, rfl⟩
        walk_at "nz"
        have hq : Bd (ex + y + 1) (subN sh b (r.length - 1 - (b.length - 1)) r' i) := subN_bd (by omega) hdb hsb hy
        refine w_augs (K := Z.K) (xs := subN sh b (r.length - 1 - (b.length - 1)) r' i) (i := ((r.length - 1 - (b.length - 1) + i : Nat) : Int)) (y := sh * gt b (i : Int)) (fun _ _ _ _ h => h) rfl (ev_to (ev_add (ev_sub (ev_lenO rfl) (ev_var rfl)) (ev_var rfl)) ?_) (ev_mul (ev_var rfl) (ev_ix (ev_var rfl) (ev_var rfl) (by omega) (by omega)) (wide_mul (a := ex + 1) (b := y + 1) (Nat.lt_of_lt_of_le hsb (Nat.pow_le_pow_right (by omega) (by omega))) (Nat.lt_of_lt_of_le (gt_bd hy _) (Nat.pow_le_pow_right (by omega) (by omega))) (by omega) (by omega) (by omega))) (by omega) (by rw [subN_len]; omega) ?_
        · rw [subN_len]
          omega
        · walk_at "nz"
          exact ⟨_, rfl⟩
      · rintro G ⟨s6, rfl⟩
        refine ⟨n, by omega, _, _, _, _, rfl, by rw [subN_len]; exact hd, by simp only [List.length_cons]; omega, ?_, ?_⟩
        · rw [show ((b.length : Int) - 1).toNat = b.length - 1 by omega]
          exact hs
        · rw [← hexp2]
          exact subN_bd (by omega) hdb hsb hy
    · simp at hc
      refine ⟨s5, s6, ?_⟩
      have : splitN b (b.length - 1) m f r = (f, r) := by
        cases m with
        | zero => rfl
        | succ m => rw [splitN, if_neg (by omega)]
      rw [← hs, this]
  · rintro G ⟨s5, s6, rfl⟩
    refine w_subS 2 sub_olT rfl (w_subS 4 sub_olT rfl ?_)
    exact w_retTup2 rfl rfl (by decide) k
end TB

/-! ### stretched -/
namespace TB
open PySem L2
--use TbPoly
--use TbWh
def T_stretched : Tm := tm2 fun (xs : List Int) (m : Int) ok _ => 1 ≤ xs.length ∧ xs.length ≤ 1000 ∧ 1 ≤ m ∧ m ≤ 60 ∧ ok (.ol (stretchF xs m))
theorem strN_len (k : Nat) (xs : List Int) : ∀ i, (strN k xs i).length = k * (xs.length - 1) + 1
  | 0 => by simp [strN]
  | i + 1 => by show ((strN k xs i).set _ _).length = _; rw [List.length_set, strN_len k xs i]
def t_stretched (Z : Zz) (X : WX) : TS :=
  (tSeq (tAsg (tOp gMul (tLst (tCons (tC (.int 0)) tNil)) (tOp gAdd (tOp gMul (tVar 1) (tOp gMns (tCB (gLen Z.K) (tCons (tVar 0) tNil)) (tC (.int 1)))) (tC (.int 1)))) (gName 2))
  (tSeq (tFor (iEnum Z.K (tCons (tVar 0) tNil)) (gTup Z.K 2 (gCons (gName 3) (gCons (gName 4) gNil)))
  (tAsg (tVar 4) (gSub (tVar 2) (tOp gMul (tVar 1) (tVar 3)) gSet)))
  (tRet (tVar 2))))
theorem w_stretched (Z : Zz) (X : WX) (ss : List Sl) (ok : Sl → Prop) (er : Rf → Prop) (h : T_stretched ss ok er) : WF Z X er (ss ++ List.replicate (5 - ss.length) .un) (t_stretched Z X) ok := by
  obtain ⟨xs, m, rfl, h1, h2, h3, h4, k⟩ := h
  show W _ [.im xs, .im m, .un, .un, .un] _ _
  unfold t_stretched
  have hmul : m * ((xs.length : Int) - 1) ≤ 60 * 999 := by
    have a := Int.mul_le_mul_of_nonneg_right h4 (show 0 ≤ (xs.length : Int) - 1 by omega)
    omega
  have hmul0 : 0 ≤ m * ((xs.length : Int) - 1) := Int.mul_nonneg (by omega) (by omega)
  refine w_seq (w_asg (ev_zeros (n := m * ((xs.length : Int) - 1) + 1) (ev_add (ev_mul (ev_var rfl) (ev_sub (ev_len (ev_var rfl)) ev_int) (cmulS (by omega) (by omega) (by omega) (by omega))) ev_int) (by omega) (by omega)) ?_)
  walk_at "nz"
  have e0 : (m * ((xs.length : Int) - 1) + 1).toNat = m.toNat * (xs.length - 1) + 1 := by
    have : (m * ((xs.length : Int) - 1)) = ((m.toNat * (xs.length - 1) : Nat) : Int) := by
      rw [Int.natCast_mul, show ((m.toNat : Nat) : Int) = m by omega, show ((xs.length - 1 : Nat) : Int) = (xs.length : Int) - 1 by omega]
    omega
  rw [e0]
  refine w_seq (w_forE (xs := xs) (fun i G => ∃ s3 s4, G = [.im xs, .im m, .ol (strN m.toNat xs i), s3, s4]) (ev_var rfl) ⟨_, _, rfl⟩ ?_ ?_)
  · rintro i G hi ⟨s3, s4, rfl⟩
    walk_at "nz"
    have hb : m * (i : Int) ≤ m * ((xs.length : Int) - 1) := Int.mul_le_mul_of_nonneg_left (by omega) (by omega)
    have hb0 : 0 ≤ m * (i : Int) := Int.mul_nonneg (by omega) (by omega)
    have e1 : (m * (i : Int)).toNat = m.toNat * i := by
      have : m * (i : Int) = ((m.toNat * i : Nat) : Int) := by rw [Int.natCast_mul, show ((m.toNat : Nat) : Int) = m by omega]
      omega
    refine w_putG (xs := strN m.toNat xs i) rfl (ev_var rfl) (ev_mul (ev_var rfl) (ev_var rfl) (cmulS (by omega) (by omega) (by omega) (by omega))) hb0 ?_ ⟨.im (i : Int), .im xs[i], ?_⟩
    · rw [strN_len]
      omega
    · walk_at "nz"
      rw [e1, ← gt_nat hi]
      rfl
  · rintro G ⟨s3, s4, rfl⟩
    exact w_retO val_ol rfl k
end TB

/-! ### circle -/
namespace TB
open PySem L2
--use TbRing
--use TbWh
def T_circle : Tm := tm1 fun (m : Int) ok er => (1 ≤ m ∧ m ≤ 60 → ok (.ol (circ m))) ∧ (¬ (1 ≤ m ∧ m ≤ 60) → er ⟨.BadWheel, []⟩)
theorem okC_is {f : List Int} {r : Int} (h : okC f r = true) : 1 ≤ r ∧ r ≤ 60 ∧ 2 ≤ f.length ∧ f.length ≤ 100 ∧ Bd 10 f := by
  unfold okC at h
  simp only [Bool.and_eq_true, decide_eq_true_eq, List.all_eq_true] at h
  exact ⟨h.1.1.1.1, h.1.1.1.2, h.1.1.2, h.1.2, fun x hx => Nat.lt_of_lt_of_le (h.2 x hx) (by decide)⟩
theorem stripOk_is {n : Nat} {p : Int} {f : List Int} {r : Int} (h : stripOk n p f r = true) : okC f r = true := by
  cases n with
  | zero => exact h
  | succ n => unfold stripOk at h; rw [Bool.and_eq_true] at h; exact h.1
theorem strN_bd {k n : Nat} {xs : List Int} (h : Bd n xs) : ∀ i, Bd n (strN k xs i)
  | 0 => fun x hx => by
    have := List.eq_of_mem_replicate hx
    subst this
    exact Nat.pow_pos (by omega)
  | i + 1 => fun x hx => by
    rcases List.mem_or_eq_of_mem_set hx with q | q
    · exact strN_bd h i x q
    · rw [q]; exact gt_bd h _
def t_circle (Z : Zz) (X : WX) : TS :=
  (tSeq (tIfS (tOr (tTest (tOp gLt (tVar 0) (tC (.int 1)))) (tTest (tOp gGt (tVar 0) (tC (.int 60)))))
  (tRaise0 (Z.cls .BadWheel) X)
  tNext)
  (tSeq (tAsg (tLst (tCons (tUn uNeg (tC (.int 1))) (tCons (tC (.int 1)) tNil))) (gName 1))
  (tSeq (tAsg (tVar 0) (gName 2))
  (tSeq (tFor (iRng2 (tCons (tC (.int 2)) (tCons (tOp gAdd (tVar 0) (tC (.int 1))) tNil))) (gName 3)
  (tSeq (tIfS (tTest (tOp (gEq Z.K) (tOp gMod (tVar 2) (tVar 3)) (tC (.int 0))))
  (tSeq (tAsg (tOp (gIx Z.K) (tCallSD (spOf Z T_split) [] (WE X) (tCons (tCallSD (spOf Z T_stretched) [] (WE X) (tCons (tVar 1) (tCons (tVar 3) tNil))) (tCons (tVar 1) tNil))) (tC (.int 0))) (gName 1))
  (tAsg (tOp gDiv (tVar 2) (tVar 3)) (gName 2)))
  tNext)
  (tWhile (tTest (tOp (gEq Z.K) (tOp gMod (tVar 2) (tVar 3)) (tC (.int 0))))
  (tSeq (tAsg (tCallSD (spOf Z T_stretched) [] (WE X) (tCons (tVar 1) (tCons (tVar 3) tNil))) (gName 1))
  (tAsg (tOp gDiv (tVar 2) (tVar 3)) (gName 2))))))
  (tRet (tVar 1))))))
theorem w_circle (Z : Zz) (X : WX) (ss : List Sl) (ok : Sl → Prop) (er : Rf → Prop) (h : T_circle ss ok er) : WF Z X er (ss ++ List.replicate (4 - ss.length) .un) (t_circle Z X) ok := by
  obtain ⟨m, rfl, k, ke⟩ := h
  show W _ [.im m, .un, .un, .un] _ _
  unfold t_circle
  refine w_seq (w_if (b := decide (m < 1) || decide (60 < m)) (et_or (et_test (ev_lt (ev_var rfl) ev_int)) fun _ => et_test (ev_gt (ev_var rfl) ev_int)) (fun hb => ?_) (fun hb => w_next ?_))
  · simp at hb
    exact w_raise0 .BadWheel (ke (by omega))
  simp at hb
  have hm : 1 ≤ m ∧ m ≤ 60 := by omega
  have k := k hm
  have run := (ringF hm.1 hm.2).run
  refine w_seq (w_asg (s := .ol [(-1 : Int), 1]) (ev_lstH (evh_cons (ev_to (ev_neg ev_int) rfl) (evh_cons ev_int evh_nil)) (by decide)) ?_)
  refine w_seq (w_asg (ev_var rfl) ?_)
  walk_at "nz"
  refine w_seq (w_forR2 (m := 2) (n := m + 1) (fun i G => ∃ s3, G = [.im m, .ol (circN m i).1, .im (circN m i).2, s3]) ev_int (ev_add (ev_var rfl) ev_int) (by decide) (by omega) ⟨_, rfl⟩ ?_ ?_)
  · rintro i G hi ⟨s3, rfl⟩
    walk_at "nz"
    obtain ⟨q1, q2⟩ := circRun_ok m _ i run (by omega)
    have hp1 : 2 ≤ 2 + (i : Int) := by omega
    have hp2 : 2 + (i : Int) ≤ 60 := by omega
    have e1 : circN m (i + 1) = stripC 6 (2 + (i : Int)) (cuS (2 + (i : Int)) (circN m i)).1 (cuS (2 + (i : Int)) (circN m i)).2 := (cstep_cu _ _).symm
    rw [e1]
    generalize 2 + (i : Int) = p at hp1 hp2 q2 ⊢
    generalize circN m i = fr at q1 q2 ⊢
    obtain ⟨f, r⟩ := fr
    obtain ⟨r1, r2, f1, f2, f3⟩ := okC_is q1
    have r1 : 1 ≤ r := r1
    have r2 : r ≤ 60 := r2
    have f1 : 2 ≤ f.length := f1
    have f2 : f.length ≤ 100 := f2
    have stre : ∀ {G : List Sl} {g : List Int}, 2 ≤ g.length → g.length ≤ 100 → G[1]? = some (.ol g) → G[3]? = some (.im p) → Ev ⟨Z, X, fun r _ => er r⟩ G (tCallSD (spOf Z T_stretched) [] (WE X) (tCons (tVar 1) (tCons (tVar 3) tNil))) (.ol (stretchF g p)) := fun a1 a2 e1 e3 => ev_callL (c := ⟨Z, X, fun r _ => er r⟩) (eb_own lnd_ol e1 (eb_cons (ev_var e3) eb_nil)) det_ol ⟨_, _, rfl, by omega, by omega, by omega, by omega, rfl⟩
    refine w_mid (fun G => G = [.im m, .ol (cuS p (f, r)).1, .im (cuS p (f, r)).2, .im p]) ?_ ?_
    · refine w_if (b := decide (r % p = 0)) (et_test (ev_eqI (ev_mod (ev_var rfl) (ev_var rfl) (by omega)) ev_int)) (fun hb => ?_) (fun hb => w_next ?_)
      · simp at hb
        have hlen : (stretchF f p).length ≤ 10000 := by
          unfold stretchF
          rw [strN_len]
          have : p.toNat * (f.length - 1) ≤ 60 * 99 := Nat.mul_le_mul (by omega) (by omega)
          omega
        refine w_seq (w_asg (s := .ol (splitF (stretchF f p) f).1) (ev_subS sub_Tol (ev_otIxT (U := oti (splitF (stretchF f p) f).1) (k := 0) (ev_callL (eb_cons (ev_fr (stre f1 f2 rfl rfl)) (eb_own lnd_ol rfl eb_nil)) det_ot ⟨stretchF f p, f, rfl, 10, 10, strN_bd f3 _, f3, by omega, hlen, by omega, by omega, by omega, rfl⟩) rfl rfl)) ?_)
        refine w_asg (ev_div (ev_var rfl) (ev_var rfl) (by omega) (by omega)) ?_
        walk_at "nz"
        unfold cuS
        rw [if_pos hb]
      · simp at hb
        unfold cuS
        rw [if_neg (by simpa using hb)]
    · rintro G rfl
      have hc := stripOk_is q2
      obtain ⟨c1, c2, _⟩ := okC_is hc
      generalize cuS p (f, r) = u at q2 c1 c2 ⊢
      obtain ⟨g, v⟩ := u
      simp only [] at q2 c1 c2 ⊢
      refine w_while (fun mm G => ∃ (n : Nat) (f' : List Int) (r' : Int), G = [.im m, .ol f', .im r', .im p] ∧ stripC n p f' r' = stripC 6 p g v ∧ stripOk n p f' r' = true ∧ r' < 2 ^ n ∧ r'.toNat = mm) v.toNat ⟨6, g, v, rfl, rfl, q2, by show v < 64; omega, rfl⟩ ?_
      rintro mm G ⟨n, f', r', rfl, h1, h2, h3, h4⟩
      obtain ⟨d1, d2, d3, d4, d5⟩ := okC_is (stripOk_is h2)
      refine ⟨decide (r' % p = 0), et_test (ev_eqI (ev_mod (ev_var rfl) (ev_var rfl) (by omega)) ev_int), fun hb => ?_, fun hb => ?_⟩
      · simp at hb
        have hge : p ≤ r' := by
          obtain ⟨kk, hk⟩ := Int.dvd_of_emod_eq_zero hb
          have : 1 ≤ kk := by
            by_cases z : 1 ≤ kk
            · exact z
            · have := Int.mul_le_mul_of_nonneg_left (show kk ≤ 0 by omega) (show 0 ≤ p by omega)
              omega
          have := Int.mul_le_mul_of_nonneg_left this (show 0 ≤ p by omega)
          omega
        cases n with
        | zero => simp at h3; omega
        | succ n =>
          unfold stripC at h1
          rw [if_pos hb] at h1
          unfold stripOk at h2
          rw [if_pos hb, Bool.and_eq_true] at h2
          have hlt : r' / p < r' := Int.ediv_lt_self_of_pos_of_ne_one (by omega) (by omega)
          have hdp : 1 ≤ r' / p := (Int.le_ediv_iff_mul_le (by omega)).mpr (by omega)
          refine w_seq (w_asg (stre d3 d4 rfl rfl) ?_)
          refine w_asg (ev_div (ev_var rfl) (ev_var rfl) (by omega) (by omega)) ?_
          walk_at "nz"
          refine ⟨(r' / p).toNat, by omega, n, _, _, rfl, h1, h2.2, ?_, rfl⟩
          have h5 : r' / p * 2 ≤ r' / p * p := Int.mul_le_mul_of_nonneg_left (by omega) (by omega)
          have h6 : r' / p * p ≤ r' := Int.ediv_mul_le _ (by omega)
          have h7 : (2 : Int) ^ (n + 1) = 2 ^ n * 2 := Int.pow_succ ..
          omega
      · simp at hb
        rw [stripC_no (by simpa using hb)] at h1
        refine ⟨.im p, ?_⟩
        rw [← h1]
  · rintro G ⟨s3, rfl⟩
    exact w_retO val_ol rfl (by rw [show (m + 1 - 2).toNat = (m - 1).toNat by omega]; exact k)
end TB

/-! ### Wheel_init -/
namespace TB
open PySem L2
--use TbWh
theorem same_none {H : Hp} : Same (fun _ => none) H := fun _ _ e => by cases e
def t_Wheel_init (Z : Zz) (X : WX) : TS :=
  (tSeq (sFld Z.K (tVar 0) (tCallSD (spOf Z T_circle) [] (WE X) (tCons (tVar 1) tNil)) "ring")
  (tSeq (sFld Z.K (tVar 0) (tVar 1) "spokes")
  (sFld Z.K (tVar 0) (tOp gMns (tCB (gLen Z.K) (tCons (tFld Z.K (tVar 0) "ring") tNil)) (tC (.int 1))) "size")))
theorem w_Wheel_init (Z : Zz) {N : List Str} (hN : N.length = 2) (vs : List V) (H : Hp) (Q : VK) (E : XK) (h : spI_Wheel Z vs H Q E) :
    t_Wheel_init Z (fun c d _ H => E c d H) { nx := fun _ H' => Q .non H', rt := Q } (L2.start N vs) H := by
  obtain ⟨x, dx, m, rfl, hx, hZ, k1, k2⟩ := h
  unfold t_Wheel_init
  by_cases hm : 1 ≤ m ∧ m ≤ 60
  · refine ⟨.int m, rfl, fun _ => none, [.im m], fun s => s = .ol (circ m), fun _ => False, same_none, .cons rfl .nil, ⟨m, rfl, fun _ => rfl, fun z => absurd hm z⟩, fun v R' H' s S e => ?_, fun _ _ _ _ _ _ z => z.elim⟩
    subst e
    obtain ⟨hl, own, hs, f, g, rfl, ⟨p, ws, rfl, ev, hp, hw⟩, h2⟩ := S
    cases ev
    have ew := paired_map_int hw
    subst ew
    have np : H p = none := (hs.ow p (by simp)).2
    have hx' := hs.bh _ _ hx
    have npx : p ≠ x := fun z => by subst z; rw [np] at hx; cases hx
    refine ⟨.ref x, rfl, x, _, dx, [], rfl, hx', hZ.cl, hZ.n1, by decide, ?_⟩
    refine ⟨.int m, rfl, .ref x, rfl, x, _, dx, _, rfl, upd_same, hZ.cl, hZ.n2, by simp [putF], ?_⟩
    have n12 : ¬ (("ring" : Str) = "spokes") := by decide +kernel
    have n13 : ¬ (("ring" : Str) = "size") := by decide +kernel
    have n23 : ¬ (("spokes" : Str) = "size") := by decide +kernel
    have e2 : putF "spokes" (.int m) (putF "ring" (.ref p) []) = ([("ring", .ref p), ("spokes", .int m)] : List (Str × V)) := by
      simp only [putF, if_neg n12]
    have e3 : putF "size" (.int (((circ m).length : Int) - 1)) ([("ring", .ref p), ("spokes", .int m)] : List (Str × V)) = flW (.ref p) (.int m) (.int (((circ m).length : Int) - 1)) := by
      simp only [putF, if_neg n13, if_neg n23]
      rfl
    rw [e2]
    have pz : (upd (upd H' x (.ins (Z.cls .Wheel) dx (putF "ring" (.ref p) []))) x (.ins (Z.cls .Wheel) dx [("ring", .ref p), ("spokes", .int m)])) p = some (.lst ((circ m).map V.int)) := by
      rw [upd_ne npx, upd_ne npx]; exact hp
    refine ⟨.ref x, rfl, x, _, dx, _, .ref p, rfl, upd_same, hZ.cl, hZ.n1, lookup_here, _, (circ m).length, rfl, .inl ⟨_, SqL.of pz, by rw [List.length_map]⟩, _, 1, rfl, rfl, .ref x, rfl, x, _, dx, _, rfl, upd_same, hZ.cl, hZ.n3, by simp, ?_⟩
    rw [e3]
    exact k1 hm _ p np npx (by rw [upd_ne npx]; exact pz) upd_same fun b o e ne => by
      rw [upd_ne ne, upd_ne ne, upd_ne ne]; exact hs.bh _ _ e
  · refine ⟨.int m, rfl, fun _ => none, [.im m], fun _ => False, fun r => r = ⟨.BadWheel, []⟩, same_none, .cons rfl .nil, ⟨m, rfl, fun z => absurd z hm, fun _ => rfl⟩, fun _ _ _ _ _ z => z.elim, fun r cls d H' sm rx e => ?_⟩
    subst e
    exact k2 hm H' cls d sm rx
end TB

/-! ### Wheel_lowest -/
namespace TB
open PySem L2
--use TbWh
def T_Wheel_lowest : Tm := tm2 fun (o : Whl) (cs : List Int) ok _ => ∃ (m : Int) (x : Nat), 1 ≤ m ∧ m ≤ 60 ∧ o = whl m ∧ cs.length < 2 ^ 14 ∧ x ≤ 90000 ∧ Bd x cs ∧ ok (.ol (lowF m cs))
def t_Wheel_lowest (Z : Zz) (X : WX) : TS :=
  (tSeq (tAsg (tOp gMul (tLst (tCons (tC (.int 0)) tNil)) (tFld Z.K (tVar 0) "spokes")) (gName 2))
  (tSeq (tFor (iEnum Z.K (tCons (tVar 1) tNil)) (gTup Z.K 2 (gCons (gName 3) (gCons (gName 4) gNil)))
  (tAugS (tVar 2) (tOp gMod (tVar 3) (tFld Z.K (tVar 0) "spokes")) (tVar 4) (rIxL Z.K) (ipI fun i j => i + j) rSetL))
  (tRet (tOp (gIx Z.K) (tCallSD (spOf Z T_split) [] (WE X) (tCons (tVar 2) (tCons (tFld Z.K (tVar 0) "ring") tNil))) (tC (.int 1))))))
theorem w_Wheel_lowest (Z : Zz) (X : WX) (ss : List Sl) (ok : Sl → Prop) (er : Rf → Prop) (h : T_Wheel_lowest ss ok er) : WF Z X er (ss ++ List.replicate (5 - ss.length) .un) (t_Wheel_lowest Z X) ok := by
  obtain ⟨o, cs, rfl, m, x, h1, h2, rfl, hl, hx, hb, k⟩ := h
  show W _ [.im (whl m), .im cs, .un, .un, .un] _ _
  unfold t_Wheel_lowest
  have rf := ringF h1 h2
  refine w_seq (w_asg (s := .ol ((irange m).map (cyc m 0 (cs.take 0)))) (ev_is (ev_zeros (ev_spokes (g := whl m) (ev_var rfl)) (show (0 : Int) ≤ m by omega) (show m < 1000000 by omega)) (congrArg Sl.ol zeros_map)) ?_)
  walk_at "nz"
  refine w_seq (w_forE (xs := cs) (fun i G => ∃ s3 s4, G = [.im (whl m), .im cs, .ol ((irange m).map (cyc m 0 (cs.take i))), s3, s4]) (ev_var rfl) ⟨_, _, rfl⟩ ?_ ?_)
  · rintro i G hi ⟨s3, s4, rfl⟩
    walk_at "nz"
    have e0 := Int.emod_nonneg (i : Int) (show m ≠ 0 by omega)
    have e1 := Int.emod_lt_of_pos (i : Int) (show 0 < m by omega)
    refine w_augs (K := Z.K) (xs := (irange m).map (cyc m 0 (cs.take i))) (i := (i : Int) % m) (y := cs[i]) (fun _ _ _ _ h => h) rfl (ev_mod (ev_var rfl) (ev_spokes (g := whl m) (ev_var rfl)) (show 0 < m by omega)) (ev_var rfl) e0 (by rw [List.length_map, irange_len]; omega) ⟨.im (i : Int), .im cs[i], ?_⟩
    walk_at "nz"
    rw [sum_put h1, take_snoc hi]
    have : (irange m).map (cyc m 0 (cs.take i ++ [cs[i]])) = (irange m).map fun j => cyc m 0 (cs.take i) j + if ((i : Int) - j) % m = 0 then cs[i] else 0 := by
      refine List.map_congr_left fun j _ => ?_
      rw [cyc_append, cyc_one, List.length_take, show (0 : Int) + ((min i cs.length : Nat) : Int) = (i : Int) by omega]
    rw [this]
  · rintro G ⟨s3, s4, rfl⟩
    rw [List.take_length]
    refine w_ret (s := .ol (lowF m cs)) (ev_subS sub_Tol (ev_otIxT (k := 1) (ev_callL (eb_own lnd_ol rfl (eb_cons (ev_ring (g := whl m) (ev_var rfl)) eb_nil)) det_ot ⟨(irange m).map (cyc m 0 cs), circ m, rfl, x + 14, 10, sums_bd hb hl, rf.bd, by have := rf.len; omega, by rw [List.length_map, irange_len]; omega, by have := rf.le; omega, by omega, by omega, rfl⟩) rfl rfl)) k
end TB

/-! TbWq: sums put together by steps and turns; more rules. -/
namespace TB
open PySem L2
/-- entry k put at place k * a + b -/
def cyp (m a b : Int) : Int → List Int → Int → Int
  | _, [], _ => 0
  | o, x :: xs, j => (if (o * a + b - j) % m = 0 then x else 0) + cyp m a b (o + 1) xs j
def putL (m a b : Int) (xs : List Int) : List Int := (irange m).map (cyp m a b 0 xs)
section
variable {m a b : Int}
theorem cyp_append : ∀ (o : Int) (xs ys : List Int) (j : Int), cyp m a b o (xs ++ ys) j = cyp m a b o xs j + cyp m a b (o + xs.length) ys j
  | o, [], ys, j => by simp [cyp]
  | o, x :: xs, ys, j => by
    show _ + cyp m a b (o + 1) (xs ++ ys) j = _ + cyp m a b (o + 1) xs j + _
    rw [cyp_append (o + 1) xs ys j, List.length_cons, show o + 1 + (xs.length : Int) = o + ((xs.length + 1 : Nat) : Int) by omega]
    omega
theorem cyp_one (o x j : Int) : cyp m a b o [x] j = if (o * a + b - j) % m = 0 then x else 0 := by simp [cyp]
theorem cyp_cyc : ∀ (o : Int) (xs : List Int) (j : Int), cyp m 1 0 o xs j = cyc m o xs j
  | o, [], j => rfl
  | o, x :: xs, j => by
    show (if (o * 1 + 0 - j) % m = 0 then x else 0) + _ = (if (o - j) % m = 0 then x else 0) + _
    rw [cyp_cyc (o + 1) xs j, Int.mul_one, Int.add_zero]
theorem cyp_per (o : Int) (xs : List Int) : Per m (cyp m a b o xs) := fun j k => by
  induction xs generalizing o with
  | nil => rfl
  | cons x xs ih =>
    show (if (o * a + b - (j + m * k)) % m = 0 then x else 0) + _ = (if (o * a + b - j) % m = 0 then x else 0) + _
    rw [ih, show o * a + b - (j + m * k) = o * a + b - j + m * (-k) by rw [Int.mul_neg]; omega, Int.add_mul_emod_self_left]
theorem cyp_bd {c : Nat} : ∀ {xs : List Int} {o : Int} (j : Int), Bd c xs → (cyp m a b o xs j).natAbs ≤ xs.length * 2 ^ c
  | [], _, j, _ => by simp [cyp]
  | x :: xs, o, j, h => by
    have ih := cyp_bd (xs := xs) (o := o + 1) j fun y hy => h y (by simp [hy])
    have h2 := h x (by simp)
    show ((if (o * a + b - j) % m = 0 then x else 0) + cyp m a b (o + 1) xs j).natAbs ≤ _
    rw [List.length_cons, Nat.succ_mul]
    split <;> omega
theorem putL_bd {c k : Nat} {xs : List Int} (h : Bd c xs) (hl : xs.length < 2 ^ k) : Bd (c + k) (putL m a b xs) := fun x hx => by
  obtain ⟨j, _, rfl⟩ := List.mem_map.mp hx
  have h1 := cyp_bd (m := m) (a := a) (b := b) (o := 0) j h
  have h2 : xs.length * 2 ^ c < 2 ^ k * 2 ^ c := Nat.mul_lt_mul_of_pos_right hl (Nat.pow_pos (by omega))
  rw [Nat.add_comm, Nat.pow_add]
  omega
theorem putL_len {xs : List Int} : (putL m a b xs).length = m.toNat := by unfold putL; rw [List.length_map, irange_len]
theorem cyc_put (h1 : 1 ≤ m) (xs : List Int) (j : Int) : cyc m 0 (putL m a b xs) j = cyp m a b 0 xs j := cyc_map (cyp_per 0 xs) h1 j
/-- one more entry -/
theorem put_snoc {xs : List Int} {i : Nat} (h1 : 1 ≤ m) (hi : i < xs.length) : (putL m a b (xs.take i)).set (((i : Int) * a + b) % m).toNat (gt (putL m a b (xs.take i)) (((i : Int) * a + b) % m) + gt xs (i : Int)) = putL m a b (xs.take (i + 1)) := by
  unfold putL
  rw [sum_put h1, take_snoc' hi]
  refine List.map_congr_left fun j _ => ?_
  rw [cyp_append, cyp_one, List.length_take, show (0 : Int) + ((min i xs.length : Nat) : Int) = (i : Int) by omega]
end
theorem put_nil {m a b : Int} {xs : List Int} : putL m a b (xs.take 0) = List.replicate m.toNat 0 := by
  unfold putL
  rw [zeros_map]
  rfl
section
variable {c : Cn} {Γ : List Sl} {ta tb te tl ty : TE} {tt tc : TT} {t u : TS} {s s' so : Sl} {α β γ : Type} {_ : Rp α} {_ : Rp β} {_ : Rp γ} {P : Po} {d : α}
/-- [f(x, y) for x, y in zip(xs, ys)] -/
theorem ev_zipL {xs : List α} {ys : List β} {i j : Nat} {vs : List Nat} (f : α → β → γ) (h : Ev c Γ ta (.im xs)) (h2 : Ev c Γ tb (.im ys)) (hn : xs.length < 1000000) (hj : i ∈ vs ∧ j ∈ vs) (hu : UnAt Γ vs) (he : ∀ x y, Ev c.no ((Γ.set i (.im x)).set j (.im y)) te (.im (f x y))) :
    Ev c Γ (tLc (iZip c.Z.K (tCons ta (tCons tb tNil))) (gTup c.Z.K 2 (gCons (gName i) (gCons (gName j) gNil))) tYes te vs) (.ol (List.zipWith f xs ys)) := by
  refine ev_is (ev_lc (fun _ => true) (fun i => f (xs.getD i Rp.df) (ys.getD i Rp.df)) (ei_zip h h2) (by omega) (fun k hk => by simp at hk; rcases hk with rfl | rfl; exact hj.1; exact hj.2) hu (fun i hi => fun B R0 R H ρ Δ σ S Q q _ => q R H S) (fun i hi _ => he _ _)) ?_
  rw [kept_all]
  refine congrArg Sl.ol (List.ext_getElem (by simp) fun i h1 h2 => ?_)
  simp at h1
  have a1 : i < xs.length := by omega
  have a2 : i < ys.length := by omega
  simp [a1, a2]
/-- a temporary own list grows -/
theorem w_appTmp {xs : List α} {y : α} (h : Ev c Γ te (.ol xs)) (hl : xs.length < 1000000) (hy : Ev c Γ ty (.im y)) (k : P.nx Γ) : W c Γ (tDrop (tBM c.Z.K "list" rAppend te (tCons ty tNil))) P := fun B R0 R H ρ Δ σ D S n r bb kk x =>
  h B R0 R H ρ Δ σ S _ (fun v R1 H1 S1 => by
    obtain ⟨p, vs, e1, h3, h4, _⟩ := sx_mutTop S1
    cases e1
    refine ⟨tyL h3, hy B R0 R1 H1 _ _ σ S1 _ (fun w R2 H2 S2 => ?_) x.push1⟩
    obtain ⟨p', vs', e1, h3', h4', h5⟩ := sx_mutTop (sx_pop S2)
    cases e1
    have hl' := Paired.length h4'
    exact ⟨p, vs', w, rfl, rfl, h3', Nat.lt_of_lt_of_le (by omega : vs'.length < 1000000) (by decide), n R2 _ _ _ (sx_pop (h5 (vs' ++ [w]) (xs ++ [y]) (paired_append h4' (.cons (sx_top' S2) .nil)))) k⟩) x
end
def wholeF (xs : List Int) : Option Int := if (xs.drop 1).any (fun n => !decide (n = 0)) then none else some (gt xs 0)
end TB

/-! ### Wheel_plus -/
namespace TB
open PySem L2
--use TbWq
def T_Wheel_plus : Tm := tm3 fun (o : Whl) (xs ys : List Int) ok _ => xs.length < 1000000 ∧ ok (.ol (List.zipWith (fun x y => x + y) xs ys))
def t_Wheel_plus (Z : Zz) (X : WX) : TS :=
  (tRet (tLc (iZip Z.K (tCons (tVar 1) (tCons (tVar 2) tNil))) (gTup Z.K 2 (gCons (gName 3) (gCons (gName 4) gNil))) tYes (tOp gAdd (tVar 3) (tVar 4)) [3, 4]))
theorem w_Wheel_plus (Z : Zz) (X : WX) (ss : List Sl) (ok : Sl → Prop) (er : Rf → Prop) (h : T_Wheel_plus ss ok er) : WF Z X er (ss ++ List.replicate (5 - ss.length) .un) (t_Wheel_plus Z X) ok := by
  obtain ⟨o, xs, ys, rfl, hl, k⟩ := h
  show W _ [.im o, .im xs, .im ys, .un, .un] _ _
  unfold t_Wheel_plus
  refine w_ret ?hh k
  case hh =>
    exact ev_zipL (fun x y => x + y) (ev_var rfl) (ev_var rfl) hl (by simp) ⟨.inl rfl, .inl rfl, trivial⟩ fun x y => ev_add (ev_var rfl) (ev_var rfl)
end TB

/-! TbWr: products of sums of spokes. -/
namespace TB
open PySem L2
def conv (m : Int) : Int → Int → List Int → List Int → Int → Int
  | _, _, [], _, _ => 0
  | o, p, x :: xs, ys, j => x * cyc m (o + p) ys j + conv m (o + 1) p xs ys j
def prodL (m : Int) (xs ys : List Int) : List Int := (irange m).map (conv m 0 0 xs ys)
section
variable {m : Int}
theorem conv_nil : ∀ (o p : Int) (xs : List Int) (j : Int), conv m o p xs [] j = 0
  | o, p, [], j => rfl
  | o, p, x :: xs, j => by
    show x * 0 + conv m (o + 1) p xs [] j = 0
    rw [conv_nil (o + 1) p xs j, Int.mul_zero]
    rfl
theorem conv_right : ∀ (o p : Int) (ys : List Int) (x : Int) (xs : List Int) (j : Int), conv m o p ys (x :: xs) j = x * cyc m (p + o) ys j + conv m o (p + 1) ys xs j
  | o, p, [], x, xs, j => by simp [conv, cyc]
  | o, p, y :: ys, x, xs, j => by
    show y * ((if (o + p - j) % m = 0 then x else 0) + cyc m (o + p + 1) xs j) + conv m (o + 1) p ys (x :: xs) j = x * ((if (p + o - j) % m = 0 then y else 0) + cyc m (p + o + 1) ys j) + (y * cyc m (o + (p + 1)) xs j + conv m (o + 1) (p + 1) ys xs j)
    rw [conv_right (o + 1) p ys x xs j, show p + (o + 1) = p + o + 1 by omega, show o + (p + 1) = o + p + 1 by omega, Int.add_comm p o, Int.mul_add, Int.mul_add]
    by_cases c : (o + p - j) % m = 0
    · simp only [c, if_true]
      rw [Int.mul_comm y x]
      omega
    · simp only [c, if_false]
      omega
theorem conv_comm : ∀ (o p : Int) (xs ys : List Int) (j : Int), conv m o p xs ys j = conv m p o ys xs j
  | o, p, [], ys, j => by rw [conv_nil]; rfl
  | o, p, x :: xs, ys, j => by
    rw [conv_right p o ys x xs j]
    show x * cyc m (o + p) ys j + conv m (o + 1) p xs ys j = _
    rw [conv_comm (o + 1) p xs ys j]
theorem prodL_comm (xs ys : List Int) : prodL m xs ys = prodL m ys xs := by
  unfold prodL
  exact List.map_congr_left fun j _ => conv_comm 0 0 xs ys j
theorem conv_append : ∀ (o p : Int) (xs zs ys : List Int) (j : Int), conv m o p (xs ++ zs) ys j = conv m o p xs ys j + conv m (o + xs.length) p zs ys j
  | o, p, [], zs, ys, j => by simp [conv]
  | o, p, x :: xs, zs, ys, j => by
    show _ + conv m (o + 1) p (xs ++ zs) ys j = _ + conv m (o + 1) p xs ys j + _
    rw [conv_append (o + 1) p xs zs ys j, List.length_cons, show o + 1 + (xs.length : Int) = o + ((xs.length + 1 : Nat) : Int) by omega]
    omega
theorem conv_zeros : ∀ (o p : Int) (n : Nat) (ys : List Int) (j : Int), conv m o p (List.replicate n 0) ys j = 0
  | o, p, 0, ys, j => rfl
  | o, p, n + 1, ys, j => by
    rw [List.replicate_succ]
    show 0 * _ + conv m (o + 1) p (List.replicate n 0) ys j = 0
    rw [conv_zeros, Int.zero_mul]
    rfl
theorem conv_bd {a b : Nat} : ∀ {o p : Int} {xs ys : List Int} (j : Int), Bd a xs → Bd b ys → (conv m o p xs ys j).natAbs ≤ xs.length * (2 ^ a * (ys.length * 2 ^ b))
  | o, p, [], ys, j, _, _ => by simp [conv]
  | o, p, x :: xs, ys, j, hx, hy => by
    have ih := conv_bd (o := o + 1) (p := p) (xs := xs) (ys := ys) j (fun z hz => hx z (by simp [hz])) hy
    have h1 := hx x (by simp)
    have h2 := cyc_bd (m := m) (o := o + p) j hy
    show (x * cyc m (o + p) ys j + conv m (o + 1) p xs ys j).natAbs ≤ _
    have h3 : (x * cyc m (o + p) ys j).natAbs ≤ 2 ^ a * (ys.length * 2 ^ b) := by
      rw [Int.natAbs_mul]
      exact Nat.mul_le_mul (by omega) h2
    rw [List.length_cons, Nat.succ_mul]
    omega
theorem prodL_len {xs ys : List Int} : (prodL m xs ys).length = m.toNat := by unfold prodL; rw [List.length_map, irange_len]
theorem prodL_bd {a b k l : Nat} {xs ys : List Int} (hx : Bd a xs) (hy : Bd b ys) (h1 : xs.length < 2 ^ k) (h2 : ys.length < 2 ^ l) : Bd (k + (a + (l + b))) (prodL m xs ys) := fun x hz => by
  obtain ⟨j, _, rfl⟩ := List.mem_map.mp hz
  have q := conv_bd (m := m) (o := 0) (p := 0) j hx hy
  have p1 : ys.length * 2 ^ b < 2 ^ l * 2 ^ b := Nat.mul_lt_mul_of_pos_right h2 (Nat.pow_pos (by omega))
  have p2 : 2 ^ a * (ys.length * 2 ^ b) ≤ 2 ^ a * (2 ^ l * 2 ^ b) := Nat.mul_le_mul_left _ (by omega)
  have p3 : xs.length * (2 ^ a * (ys.length * 2 ^ b)) ≤ xs.length * (2 ^ a * (2 ^ l * 2 ^ b)) := Nat.mul_le_mul_left _ p2
  have p4 : xs.length * (2 ^ a * (2 ^ l * 2 ^ b)) < 2 ^ k * (2 ^ a * (2 ^ l * 2 ^ b)) := Nat.mul_lt_mul_of_pos_right h1 (Nat.mul_pos (Nat.pow_pos (by omega)) (Nat.mul_pos (Nat.pow_pos (by omega)) (Nat.pow_pos (by omega))))
  rw [Nat.pow_add, Nat.pow_add, Nat.pow_add]
  omega
/-- the state within the two loops -/
def prodS (m : Int) (xs ys : List Int) (i k : Nat) : List Int := (irange m).map fun j => conv m 0 0 (xs.take i) ys j + gt xs (i : Int) * cyc m (i : Int) (ys.take k) j
theorem prodS_0 {xs ys : List Int} {i : Nat} : prodS m xs ys i 0 = (irange m).map (conv m 0 0 (xs.take i) ys) := by
  unfold prodS
  refine List.map_congr_left fun j _ => ?_
  simp [cyc]
theorem prodS_end {xs ys : List Int} {i : Nat} (hi : i < xs.length) : prodS m xs ys i ys.length = (irange m).map (conv m 0 0 (xs.take (i + 1)) ys) := by
  unfold prodS
  refine List.map_congr_left fun j _ => ?_
  rw [List.take_length, take_snoc' hi, conv_append, List.length_take, show (0 : Int) + ((min i xs.length : Nat) : Int) = (i : Int) by omega]
  show _ = _ + (gt xs (i : Int) * cyc m ((i : Int) + 0) ys j + 0)
  rw [Int.add_zero, Int.add_zero]
theorem prodS_step {xs ys : List Int} {i k : Nat} (h1 : 1 ≤ m) (hk : k < ys.length) : (prodS m xs ys i k).set (((i : Int) + (k : Int)) % m).toNat (gt (prodS m xs ys i k) (((i : Int) + (k : Int)) % m) + gt xs (i : Int) * gt ys (k : Int)) = prodS m xs ys i (k + 1) := by
  unfold prodS
  rw [sum_put h1, take_snoc' hk]
  refine List.map_congr_left fun j _ => ?_
  rw [cyc_append, cyc_one, List.length_take, show (i : Int) + ((min k ys.length : Nat) : Int) = (i : Int) + k by omega, Int.mul_add]
  by_cases c : ((i : Int) + k - j) % m = 0
  · simp only [c, if_true]; omega
  · simp only [c, if_false]; omega
theorem prodS_len {xs ys : List Int} {i k : Nat} : (prodS m xs ys i k).length = m.toNat := by unfold prodS; rw [List.length_map, irange_len]
/-- the first number of the wheel -/
def oneL (n : Nat) : List Int := 1 :: List.replicate (n - 1) 0
theorem fold_short {xs : List Int} (h1 : 1 ≤ m) (hl : (xs.length : Int) ≤ m) : (irange m).map (cyc m 0 xs) = xs ++ List.replicate (m.toNat - xs.length) 0 := by
  have e : xs ++ List.replicate (m.toNat - xs.length) 0 = (irange m).map fun j => gt (xs ++ List.replicate (m.toNat - xs.length) 0) j := by
    refine List.ext_getElem (by simp [irange_len]; omega) fun i a b => ?_
    rw [List.getElem_map, irange_get (by simpa using b), gt_nat a]
  rw [e]
  refine List.map_congr_left fun j hj => ?_
  rw [mem_irange] at hj
  have key : ∀ (o : Int) (ys : List Int), 0 ≤ o → o + ys.length ≤ m → cyc m o ys j = if o ≤ j ∧ j < o + ys.length then gt ys (j - o) else 0 := by
    intro o ys
    induction ys generalizing o with
    | nil => intro _ _; rw [if_neg (by simp only [List.length_nil]; omega)]; rfl
    | cons y ys ih =>
      intro h0 h2
      rw [List.length_cons] at h2 ⊢
      show (if (o - j) % m = 0 then y else 0) + cyc m (o + 1) ys j = _
      rw [ih (o + 1) (by omega) (by omega)]
      have : (o - j) % m = 0 ↔ j = o := by
        rw [mod_iff h1 hj.1 hj.2, Int.emod_eq_of_lt h0 (by omega)]
      by_cases c : j = o
      · rw [if_pos (this.mpr c), if_neg (by omega), if_pos (by omega), c, Int.sub_self]
        show y + 0 = y
        omega
      · rw [if_neg fun z => c (this.mp z)]
        by_cases c2 : o + 1 ≤ j ∧ j < o + 1 + ys.length
        · rw [if_pos c2, if_pos (by omega)]
          unfold gt
          rw [show (j - o).toNat = (j - (o + 1)).toNat + 1 by omega]
          simp
        · rw [if_neg c2, if_neg (by omega)]
          rfl
  rw [key 0 xs (by omega) (by omega)]
  unfold gt
  rw [List.getD_eq_getElem?_getD, List.getD_eq_getElem?_getD, List.getElem?_append]
  by_cases c : (0 : Int) ≤ j ∧ j < 0 + xs.length
  · rw [if_pos c, if_pos (by omega), Int.sub_zero]
  · rw [if_neg c, if_neg (by omega), List.getElem?_replicate, if_pos (by omega)]
    rfl
theorem subN_zero {b : List Int} {at0 : Nat} {r : List Int} {k : Nat} (h : at0 + k ≤ r.length) : subN 0 b at0 r k = r := by
  refine List.ext_getElem? fun i => ?_
  rw [subN_get k i h]
  split
  · rw [show (fun x : Int => x - 0 * gt b ((i - at0 : Nat) : Int)) = id by funext x; simp]
    simp
  · rfl
theorem split_short {b : List Int} {many : Nat} : ∀ (k n : Nat) (f xs : List Int), xs.length = many → k ≤ n → (splitN b many n f (xs ++ List.replicate k 0)).2 = xs
  | 0, n, f, xs, h, _ => by
    rw [List.replicate_zero, List.append_nil]
    cases n with
    | zero => rfl
    | succ n => unfold splitN; rw [if_neg (by omega)]
  | k + 1, 0, f, xs, h, hk => by omega
  | k + 1, n + 1, f, xs, h, hk => by
    unfold splitN
    have e : (xs ++ List.replicate (k + 1) (0 : Int)).dropLast = xs ++ List.replicate k 0 := by
      rw [List.replicate_succ', ← List.append_assoc, List.dropLast_concat]
    have e2 : (xs ++ List.replicate (k + 1) (0 : Int)).getLastD 0 = 0 := by
      rw [List.replicate_succ', ← List.append_assoc, List.getLastD_concat]
    rw [if_pos (by simp; omega), e, e2, subN_zero (by simp; omega)]
    exact split_short k n _ xs h (by omega)
theorem lowF_unit {xs : List Int} {n : Nat} (h1 : 1 ≤ m) (h2 : m ≤ 60) (hn : n + 1 = (circ m).length) (hx : xs.length = n) : lowF m (prodL m (oneL n) xs) = xs := by
  have rf := ringF h1 h2
  have hle := rf.le
  have hln := rf.len
  have e1 : (irange m).map (cyc m 0 (prodL m (oneL n) xs)) = (irange m).map (cyc m 0 xs) := by
    refine List.map_congr_left fun j _ => ?_
    unfold prodL
    have hp : Per m (conv m 0 0 (oneL n) xs) := fun j k => by
      show 1 * cyc m (0 + 0) xs (j + m * k) + conv m 1 0 (List.replicate (n - 1) 0) xs (j + m * k) = 1 * cyc m (0 + 0) xs j + conv m 1 0 (List.replicate (n - 1) 0) xs j
      rw [conv_zeros, conv_zeros, cyc_per]
    rw [cyc_map hp h1]
    show 1 * cyc m (0 + 0) xs j + conv m 1 0 (List.replicate (n - 1) 0) xs j = _
    rw [conv_zeros, Int.one_mul, Int.add_zero]
    rfl
  unfold lowF splitF
  rw [e1, fold_short h1 (by omega)]
  exact split_short _ _ _ _ (by omega) (by simp)
end
end TB

/-! ### Wheel_times -/
namespace TB
open PySem L2
--use TbWr
def T_Wheel_times : Tm := tm3 fun (o : Whl) (xs ys : List Int) ok _ => ∃ (m : Int) (x : Nat), 1 ≤ m ∧ m ≤ 60 ∧ o = whl m ∧ xs.length < 2 ^ 10 ∧ ys.length < 2 ^ 10 ∧ x ≤ 30000 ∧ Bd x xs ∧ Bd x ys ∧ ok (.ol (lowF m (prodL m xs ys)))
def t_Wheel_times (Z : Zz) (X : WX) : TS :=
  (tSeq (tAsg (tOp gMul (tLst (tCons (tC (.int 0)) tNil)) (tFld Z.K (tVar 0) "spokes")) (gName 3))
  (tSeq (tFor (iEnum Z.K (tCons (tVar 1) tNil)) (gTup Z.K 2 (gCons (gName 4) (gCons (gName 5) gNil)))
  (tFor (iEnum Z.K (tCons (tVar 2) tNil)) (gTup Z.K 2 (gCons (gName 6) (gCons (gName 7) gNil)))
  (tAugS (tVar 3) (tOp gMod (tOp gAdd (tVar 4) (tVar 6)) (tFld Z.K (tVar 0) "spokes")) (tOp gMul (tVar 5) (tVar 7)) (rIxL Z.K) (ipI fun i j => i + j) rSetL)))
  (tRet (tMethSD (Z.cls .Wheel) "lowest" (spOf Z T_Wheel_lowest) [] (WE X) (tVar 0) (tCons (tVar 3) tNil)))))
theorem w_Wheel_times (Z : Zz) (X : WX) (ss : List Sl) (ok : Sl → Prop) (er : Rf → Prop) (h : T_Wheel_times ss ok er) : WF Z X er (ss ++ List.replicate (8 - ss.length) .un) (t_Wheel_times Z X) ok := by
  obtain ⟨o, xs, ys, rfl, m, x, h1, h2, rfl, hl, hl2, hx, hb, hb2, k⟩ := h
  show W _ [.im (whl m), .im xs, .im ys, .un, .un, .un, .un, .un] _ _
  unfold t_Wheel_times
  refine w_seq (w_asg (s := .ol ((irange m).map (conv m 0 0 (xs.take 0) ys))) (ev_is (ev_zeros (ev_spokes (g := whl m) (ev_var rfl)) (show (0 : Int) ≤ m by omega) (show m < 1000000 by omega)) (congrArg Sl.ol zeros_map)) ?_)
  walk_at "nz"
  refine w_seq (w_forE (xs := xs) (fun i G => ∃ s4 s5 s6 s7, G = [.im (whl m), .im xs, .im ys, .ol ((irange m).map (conv m 0 0 (xs.take i) ys)), s4, s5, s6, s7]) (ev_var rfl) ⟨_, _, _, _, rfl⟩ ?_ ?_)
  · rintro i G hi ⟨s4, s5, s6, s7, rfl⟩
    walk_at "nz"
    rw [← prodS_0]
    refine w_forE (xs := ys) (fun k G => ∃ s6 s7, G = [.im (whl m), .im xs, .im ys, .ol (prodS m xs ys i k), .im (i : Int), .im xs[i], s6, s7]) (ev_var rfl) ⟨_, _, rfl⟩ ?_ ?_
    · rintro k G hk ⟨s6, s7, rfl⟩
      walk_at "nz"
      have e0 := Int.emod_nonneg ((i : Int) + (k : Int)) (show m ≠ 0 by omega)
      have e1 := Int.emod_lt_of_pos ((i : Int) + (k : Int)) (show 0 < m by omega)
      refine w_augs (K := Z.K) (xs := prodS m xs ys i k) (i := ((i : Int) + (k : Int)) % m) (y := xs[i] * ys[k]) (fun _ _ _ _ h => h) rfl (ev_mod (ev_add (ev_var rfl) (ev_var rfl)) (ev_spokes (g := whl m) (ev_var rfl)) (show 0 < m by omega)) (ev_mul (ev_var rfl) (ev_var rfl) (wide_mul (a := x + 1) (b := x + 1) ((hb.mono (Nat.le_succ x)) _ (List.getElem_mem hi)) ((hb2.mono (Nat.le_succ x)) _ (List.getElem_mem hk)) (by omega) (by omega) (by omega))) e0 (by rw [prodS_len]; omega) ⟨.im (k : Int), .im ys[k], ?_⟩
      walk_at "nz"
      have := prodS_step (m := m) (xs := xs) (i := i) h1 hk
      rw [gt_nat hi, gt_nat hk] at this
      rw [this]
    · rintro G ⟨s6, s7, rfl⟩
      rw [prodS_end hi]
      exact ⟨_, _, _, _, rfl⟩
  · rintro G ⟨s4, s5, s6, s7, rfl⟩
    rw [List.take_length]
    exact w_ret (ev_methL (ev_var rfl) (whl_m (by decide +kernel)) (eb_own lnd_ol rfl eb_nil) det_ol ⟨_, _, rfl, m, 10 + (x + (10 + x)), h1, h2, rfl, by rw [List.length_map, irange_len]; omega, by omega, prodL_bd hb hb2 hl hl2, rfl⟩) k
end TB

/-! ### Wheel_turned -/
namespace TB
open PySem L2
--use TbWq
def T_Wheel_turned : Tm := tm3 fun (o : Whl) (xs : List Int) (k : Int) ok _ => ∃ (m : Int) (x : Nat), 1 ≤ m ∧ m ≤ 60 ∧ o = whl m ∧ xs.length < 2 ^ 14 ∧ x ≤ 50000 ∧ Bd x xs ∧ ok (.ol (lowF m (putL m 1 k xs)))
def t_Wheel_turned (Z : Zz) (X : WX) : TS :=
  (tSeq (tAsg (tOp gMul (tLst (tCons (tC (.int 0)) tNil)) (tFld Z.K (tVar 0) "spokes")) (gName 3))
  (tSeq (tFor (iEnum Z.K (tCons (tVar 1) tNil)) (gTup Z.K 2 (gCons (gName 4) (gCons (gName 5) gNil)))
  (tAugS (tVar 3) (tOp gMod (tOp gAdd (tVar 4) (tVar 2)) (tFld Z.K (tVar 0) "spokes")) (tVar 5) (rIxL Z.K) (ipI fun i j => i + j) rSetL))
  (tRet (tMethSD (Z.cls .Wheel) "lowest" (spOf Z T_Wheel_lowest) [] (WE X) (tVar 0) (tCons (tVar 3) tNil)))))
theorem w_Wheel_turned (Z : Zz) (X : WX) (ss : List Sl) (ok : Sl → Prop) (er : Rf → Prop) (h : T_Wheel_turned ss ok er) : WF Z X er (ss ++ List.replicate (6 - ss.length) .un) (t_Wheel_turned Z X) ok := by
  obtain ⟨o, cs, a, rfl, m, x, h1, h2, rfl, hl, hx, hb, k⟩ := h
  show W _ [.im (whl m), .im cs, .im a, .un, .un, .un] _ _
  unfold t_Wheel_turned
  refine w_seq (w_asg (s := .ol (putL m 1 a (cs.take 0))) (ev_is (ev_zeros (ev_spokes (g := whl m) (ev_var rfl)) (show (0 : Int) ≤ m by omega) (show m < 1000000 by omega)) (by rw [put_nil]; rfl)) ?_)
  walk_at "nz"
  refine w_seq (w_forE (xs := cs) (fun i G => ∃ s3 s4, G = [.im (whl m), .im cs, .im a, .ol (putL m 1 a (cs.take i)), s3, s4]) (ev_var rfl) ⟨_, _, rfl⟩ ?_ ?_)
  · rintro i G hi ⟨s3, s4, rfl⟩
    walk_at "nz"
    have e0 := Int.emod_nonneg ((i : Int) + a) (show m ≠ 0 by omega)
    have e1 := Int.emod_lt_of_pos ((i : Int) + a) (show 0 < m by omega)
    refine w_augs (K := Z.K) (xs := putL m 1 a (cs.take i)) (i := ((i : Int) + a) % m) (y := cs[i]) (fun _ _ _ _ h => h) rfl (ev_mod (ev_add (ev_var rfl) (ev_var rfl)) (ev_spokes (g := whl m) (ev_var rfl)) (show 0 < m by omega)) (ev_var rfl) e0 (by rw [putL_len]; omega) ⟨.im (i : Int), .im cs[i], ?_⟩
    walk_at "nz"
    have := put_snoc (a := 1) (b := a) h1 hi
    rw [Int.mul_one, gt_nat hi] at this
    rw [this]
  · rintro G ⟨s3, s4, rfl⟩
    rw [List.take_length]
    exact w_ret (ev_methL (ev_var rfl) (whl_m (by decide +kernel)) (eb_own lnd_ol rfl eb_nil) det_ol ⟨_, _, rfl, m, x + 14, h1, h2, rfl, by rw [putL_len]; omega, by omega, putL_bd hb hl, rfl⟩) k
end TB

/-! ### Wheel_exchanged -/
namespace TB
open PySem L2
--use TbWq
def T_Wheel_exchanged : Tm := tm3 fun (o : Whl) (xs : List Int) (j : Int) ok _ => ∃ (m : Int) (x : Nat), 1 ≤ m ∧ m ≤ 60 ∧ o = whl m ∧ xs.length < 2 ^ 14 ∧ x ≤ 50000 ∧ Bd x xs ∧ ok (.ol (lowF m (putL m j 0 xs)))
def t_Wheel_exchanged (Z : Zz) (X : WX) : TS :=
  (tSeq (tAsg (tOp gMul (tLst (tCons (tC (.int 0)) tNil)) (tFld Z.K (tVar 0) "spokes")) (gName 3))
  (tSeq (tFor (iEnum Z.K (tCons (tVar 1) tNil)) (gTup Z.K 2 (gCons (gName 4) (gCons (gName 5) gNil)))
  (tAugS (tVar 3) (tOp gMod (tOp gMul (tVar 2) (tVar 4)) (tFld Z.K (tVar 0) "spokes")) (tVar 5) (rIxL Z.K) (ipI fun i j => i + j) rSetL))
  (tRet (tMethSD (Z.cls .Wheel) "lowest" (spOf Z T_Wheel_lowest) [] (WE X) (tVar 0) (tCons (tVar 3) tNil)))))
theorem w_Wheel_exchanged (Z : Zz) (X : WX) (ss : List Sl) (ok : Sl → Prop) (er : Rf → Prop) (h : T_Wheel_exchanged ss ok er) : WF Z X er (ss ++ List.replicate (6 - ss.length) .un) (t_Wheel_exchanged Z X) ok := by
  obtain ⟨o, cs, a, rfl, m, x, h1, h2, rfl, hl, hx, hb, k⟩ := h
  show W _ [.im (whl m), .im cs, .im a, .un, .un, .un] _ _
  unfold t_Wheel_exchanged
  refine w_seq (w_asg (s := .ol (putL m a 0 (cs.take 0))) (ev_is (ev_zeros (ev_spokes (g := whl m) (ev_var rfl)) (show (0 : Int) ≤ m by omega) (show m < 1000000 by omega)) (by rw [put_nil]; rfl)) ?_)
  walk_at "nz"
  refine w_seq (w_forE (xs := cs) (fun i G => ∃ s3 s4, G = [.im (whl m), .im cs, .im a, .ol (putL m a 0 (cs.take i)), s3, s4]) (ev_var rfl) ⟨_, _, rfl⟩ ?_ ?_)
  · rintro i G hi ⟨s3, s4, rfl⟩
    walk_at "nz"
    have e0 := Int.emod_nonneg (a * (i : Int)) (show m ≠ 0 by omega)
    have e1 := Int.emod_lt_of_pos (a * (i : Int)) (show 0 < m by omega)
    refine w_augs (K := Z.K) (xs := putL m a 0 (cs.take i)) (i := (a * (i : Int)) % m) (y := cs[i]) (fun _ _ _ _ h => h) rfl (ev_mod (ev_mulS (ev_var rfl) (ev_var rfl) (.inr ⟨by omega, by omega⟩)) (ev_spokes (g := whl m) (ev_var rfl)) (show 0 < m by omega)) (ev_var rfl) e0 (by rw [putL_len]; omega) ⟨.im (i : Int), .im cs[i], ?_⟩
    walk_at "nz"
    have := put_snoc (a := a) (b := 0) h1 hi
    rw [Int.add_zero, Int.mul_comm, gt_nat hi] at this
    rw [this]
  · rintro G ⟨s3, s4, rfl⟩
    rw [List.take_length]
    exact w_ret (ev_methL (ev_var rfl) (whl_m (by decide +kernel)) (eb_own lnd_ol rfl eb_nil) det_ol ⟨_, _, rfl, m, x + 14, h1, h2, rfl, by rw [putL_len]; omega, by omega, putL_bd hb hl, rfl⟩) k
end TB

/-! ### Wheel_backed -/
namespace TB
open PySem L2
--use TbWq
def T_Wheel_backed : Tm := tm2 fun (o : Whl) (xs : List Int) ok _ => ∃ (m : Int) (x : Nat), 1 ≤ m ∧ m ≤ 60 ∧ o = whl m ∧ xs.length < 2 ^ 14 ∧ x ≤ 50000 ∧ Bd x xs ∧ ok (.ol (lowF m (putL m (-1) 0 xs)))
def t_Wheel_backed (Z : Zz) (X : WX) : TS :=
  (tRet (tMethSD (Z.cls .Wheel) "exchanged" (spOf Z T_Wheel_exchanged) [] (WE X) (tVar 0) (tCons (tVar 1) (tCons (tUn uNeg (tC (.int 1))) tNil))))
theorem w_Wheel_backed (Z : Zz) (X : WX) (ss : List Sl) (ok : Sl → Prop) (er : Rf → Prop) (h : T_Wheel_backed ss ok er) : WF Z X er (ss ++ List.replicate (2 - ss.length) .un) (t_Wheel_backed Z X) ok := by
  obtain ⟨o, xs, rfl, m, x, h1, h2, rfl, hl, hx, hb, q⟩ := h
  show W _ [.im (whl m), .im xs] _ _
  unfold t_Wheel_backed
  exact w_ret (ev_methN (ev_var rfl) (whl_m (by decide +kernel)) (ea_cons (ev_var rfl) (ea_cons (ev_neg ev_int) ea_nil)) ⟨_, _, _, rfl, m, x, h1, h2, rfl, hl, hx, hb, rfl⟩) q
end TB

/-! TbWs: wider wheels, moves: plain law. -/
namespace TB
open PySem L2
theorem cyc_setP {m : Int} : ∀ (xs : List Int) (o : Int) (p : Nat) (v j : Int), p < xs.length → cyc m o (xs.set p v) j = cyc m o xs j + if (o + (p : Int) - j) % m = 0 then v - gt xs (p : Int) else 0
  | [], _, p, _, _, h => by simp at h
  | x :: xs, o, 0, v, j, _ => by
    rw [List.set_cons_zero, cyc, cyc]
    show _ = _ + if (o + 0 - j) % m = 0 then v - x else 0
    rw [Int.add_zero]
    split <;> omega
  | x :: xs, o, p + 1, v, j, h => by
    rw [List.set_cons_succ, cyc, cyc, cyc_setP xs (o + 1) p v j (by simpa using h), show o + 1 + (p : Int) - j = o + ((p + 1 : Nat) : Int) - j by omega]
    have e : gt (x :: xs) ((p + 1 : Nat) : Int) = gt xs (p : Int) := by simp [gt]
    rw [e]
    omega
theorem strN_lenW (k : Nat) (xs : List Int) : ∀ i, (strN k xs i).length = k * (xs.length - 1) + 1
  | 0 => by simp [strN]
  | i + 1 => by rw [strN, List.length_set, strN_lenW k xs i]
theorem strN_zero (k : Nat) (xs : List Int) (p : Nat) : ∀ i, (∀ i', i' < i → p ≠ k * i') → gt (strN k xs i) (p : Int) = 0
  | 0, _ => by
    unfold gt strN
    rw [List.getD_eq_getElem?_getD, List.getElem?_replicate]
    split <;> rfl
  | i + 1, h => by
    have ih := strN_zero k xs p i fun i' hi => h i' (by omega)
    unfold gt at ih ⊢
    rw [strN, List.getD_eq_getElem?_getD, List.getElem?_set_ne (by have := h i (by omega); simp only [Int.toNat_natCast]; omega), ← List.getD_eq_getElem?_getD]
    exact ih
theorem cyc_strN {m : Int} {k : Nat} (hk : 1 ≤ k) {xs : List Int} (j : Int) : ∀ i, i ≤ xs.length → cyc m 0 (strN k xs i) j = cyp m k 0 0 (xs.take i) j
  | 0, _ => by
    rw [strN, cyc_zeros, List.take_zero]
    rfl
  | i + 1, h => by
    have hp : k * i < (strN k xs i).length := by
      rw [strN_lenW]
      have := Nat.mul_le_mul_left k (show i ≤ xs.length - 1 by omega)
      omega
    have e0 := strN_zero k xs (k * i) i fun i' hi z => by
      have := Nat.eq_of_mul_eq_mul_left (by omega : 0 < k) z
      omega
    rw [strN, cyc_setP _ _ _ _ _ hp, cyc_strN hk j i (by omega), e0, take_snoc (by omega), cyp_append, cyp_one, List.length_take, gt_nat (by omega), Int.sub_zero]
    have e2 : (0 : Int) + ((k * i : Nat) : Int) - j = (0 + ((min i xs.length : Nat) : Int)) * k + 0 - j := by
      rw [Nat.min_eq_left (by omega), Int.natCast_mul, Int.mul_comm, Int.zero_add, Int.zero_add]
      omega
    rw [e2]
theorem cyc_stretch {m w : Int} (hw : 1 ≤ w) {xs : List Int} (j : Int) : cyc m 0 (stretchF xs w) j = cyp m w 0 0 xs j := by
  unfold stretchF
  rw [cyc_strN (by omega) j _ (Nat.le_refl _), List.take_length, show ((w.toNat : Nat) : Int) = w by omega]
theorem strN_bdd {k n : Nat} {xs : List Int} (h : Bd n xs) : ∀ i, Bd n (strN k xs i)
  | 0 => fun x hx => by
    rw [List.eq_of_mem_replicate hx]
    exact Nat.pow_pos (by omega)
  | i + 1 => fun x hx => by
    rcases List.mem_or_eq_of_mem_set hx with q | q
    · exact strN_bdd h i x q
    · rw [q]; exact gt_bd h _
theorem stretch_len {xs : List Int} {w : Int} : (stretchF xs w).length = w.toNat * (xs.length - 1) + 1 := strN_lenW _ _ _
/-! ### what has no divisor with the wheel -/
def apartB (m j : Int) : Bool := (primesF m).all fun p => !decide (j % p = 0)
def gcOk (m : Int) : Bool := ((primesF m).all fun p => decide (2 ≤ p) && decide (m % p = 0)) && (List.range m.toNat).all fun r => apartB m (r : Int) == decide (Nat.gcd m.toNat r = 1)
theorem gcs_ok : (List.range 60).all (fun i => gcOk ((i : Int) + 1)) = true := by decide +kernel
theorem gc_ok {m : Int} (h1 : 1 ≤ m) (h2 : m ≤ 60) : gcOk m = true := by
  have := List.all_eq_true.mp gcs_ok (m - 1).toNat (List.mem_range.mpr (by omega))
  rw [show (((m - 1).toNat : Nat) : Int) + 1 = m by omega] at this
  exact this
theorem apart_gcd {m j : Int} (h1 : 1 ≤ m) (h2 : m ≤ 60) : apartB m j = decide (Nat.gcd m.toNat (j % m).toNat = 1) := by
  have h := gc_ok h1 h2
  unfold gcOk at h
  rw [Bool.and_eq_true, List.all_eq_true, List.all_eq_true] at h
  have r0 := Int.emod_nonneg j (show m ≠ 0 by omega)
  have r1 := Int.emod_lt_of_pos j (show 0 < m by omega)
  have := h.2 (j % m).toNat (List.mem_range.mpr (by omega))
  rw [← eq_of_beq this, show (((j % m).toNat : Nat) : Int) = j % m by omega]
  unfold apartB
  have key : ∀ p ∈ primesF m, (!decide (j % p = 0)) = (!decide (j % m % p = 0)) := fun p hp => by
    have q := h.1 p hp
    simp only [Bool.and_eq_true, decide_eq_true_eq] at q
    rw [Int.emod_emod_of_dvd j (Int.dvd_of_emod_eq_zero q.2)]
  rw [Bool.eq_iff_iff, List.all_eq_true, List.all_eq_true]
  exact ⟨fun a p hp => (key p hp) ▸ a p hp, fun a p hp => (key p hp).symm ▸ a p hp⟩
end TB

/-! ### Wheel_moved -/
namespace TB
open PySem L2
--use TbWs
def T_Wheel_moved : Tm := tm3 fun (o : Whl) (xs : List Int) (j : Int) ok er => ∃ (m : Int) (x : Nat), 1 ≤ m ∧ m ≤ 60 ∧ o = whl m ∧ xs.length < 2 ^ 14 ∧ x ≤ 50000 ∧ Bd x xs ∧ (apartB m j = true → ok (.ol (lowF m (putL m j 0 xs)))) ∧ (apartB m j = false → er ⟨.NoMove, []⟩)
def t_Wheel_moved (Z : Zz) (X : WX) : TS :=
  (tSeq (tIfS (tTest (tOp (gNe Z.K) (tCallSD (spOf Z T_shared) [] (WE X) (tCons (tFld Z.K (tVar 0) "spokes") (tCons (tOp gMod (tVar 2) (tFld Z.K (tVar 0) "spokes")) tNil))) (tC (.int 1))))
  (tRaise0 (Z.cls .NoMove) X)
  tNext)
  (tRet (tMethSD (Z.cls .Wheel) "exchanged" (spOf Z T_Wheel_exchanged) [] (WE X) (tVar 0) (tCons (tVar 1) (tCons (tVar 2) tNil)))))
theorem w_Wheel_moved (Z : Zz) (X : WX) (ss : List Sl) (ok : Sl → Prop) (er : Rf → Prop) (h : T_Wheel_moved ss ok er) : WF Z X er (ss ++ List.replicate (3 - ss.length) .un) (t_Wheel_moved Z X) ok := by
  obtain ⟨o, xs, j, rfl, m, x, h1, h2, rfl, hl, hx, hb, q, qe⟩ := h
  show W _ [.im (whl m), .im xs, .im j] _ _
  unfold t_Wheel_moved
  have e := apart_gcd (j := j) h1 h2
  have r0 := Int.emod_nonneg j (show m ≠ 0 by omega)
  refine w_seq (w_if (b := !decide ((Nat.gcd m.toNat (j % m).toNat : Int) = 1)) (et_test (ev_neI (ev_callN (s := .im ((Nat.gcd m.toNat (j % m).toNat : Nat) : Int)) (ea_cons (ev_spokes (g := whl m) (ev_var rfl)) (ea_cons (ev_mod (ev_var rfl) (ev_spokes (g := whl m) (ev_var rfl)) (show 0 < m by omega)) ea_nil)) ⟨_, _, rfl, m.toNat, (j % m).toNat, by show m = _; omega, by show j % m = _; omega, rfl⟩) ev_int)) (fun hb => ?_) (fun hb => w_next ?_))
  · refine w_raise0 .NoMove (qe ?_)
    rw [e]
    have : ¬ (Nat.gcd m.toNat (j % m).toNat : Int) = 1 := by simpa using hb
    simp only [decide_eq_false_iff_not]
    omega
  · have hb' : (Nat.gcd m.toNat (j % m).toNat : Int) = 1 := by simpa using hb
    refine w_ret (ev_methN (ev_var rfl) (whl_m (by decide +kernel)) (ea_cons (ev_var rfl) (ea_cons (ev_var rfl) ea_nil)) ⟨_, _, _, rfl, m, x, h1, h2, rfl, hl, hx, ‹Bd x xs›, rfl⟩) (q ?_)
    rw [e]
    simp only [decide_eq_true_eq]
    omega
end TB

/-! ### Wheel_wider -/
namespace TB
open PySem L2
--use TbWs
--extra T.whlC
def T_Wheel_wider : Tm := tm3 fun (o : Whl) (xs : List Int) (w : Int) ok er => ∃ (m : Int) (x : Nat), 1 ≤ m ∧ m ≤ 60 ∧ o = whl m ∧ 1 ≤ xs.length ∧ xs.length ≤ 100 ∧ x ≤ 50000 ∧ Bd x xs ∧ (1 ≤ w ∧ m * w ≤ 60 → ok (.ol (lowF (m * w) (stretchF xs w)))) ∧ (¬ (1 ≤ w ∧ m * w ≤ 60) → er ⟨.BadWheel, []⟩)
def t_Wheel_wider (Z : Zz) (X : WX) : TS :=
  (tSeq (tIfS (tOr (tTest (tOp gLt (tVar 2) (tC (.int 1)))) (tTest (tOp gGt (tOp gMul (tFld Z.K (tVar 0) "spokes") (tVar 2)) (tC (.int 60)))))
  (tRaise0 (Z.cls .BadWheel) X)
  tNext)
  (tRet (tMethSD (Z.cls .Wheel) "lowest" (spOf Z T_Wheel_lowest) [] (WE X) (tMakeSD (Z.cls .Wheel) (spI_Wheel Z) [] (WE X) (tCons (tOp gMul (tFld Z.K (tVar 0) "spokes") (tVar 2)) tNil)) (tCons (tCallSD (spOf Z T_stretched) [] (WE X) (tCons (tVar 1) (tCons (tVar 2) tNil))) tNil))))
theorem w_Wheel_wider {Z : Zz} (hW : WhlC Z) (X : WX) (ss : List Sl) (ok : Sl → Prop) (er : Rf → Prop) (h : T_Wheel_wider ss ok er) : WF Z X er (ss ++ List.replicate (3 - ss.length) .un) (t_Wheel_wider Z X) ok := by
  obtain ⟨o, xs, w, rfl, m, x, h1, h2, rfl, hl, hl2, hx, hb, q, qe⟩ := h
  show W _ [.im (whl m), .im xs, .im w] _ _
  unfold t_Wheel_wider
  refine w_seq (w_if (b := decide (w < 1) || decide (60 < m * w)) (et_or (et_test (ev_lt (ev_var rfl) ev_int)) fun _ => et_test (ev_gt (ev_mulS (ev_spokes (g := whl m) (ev_var rfl)) (ev_var rfl) (.inl ⟨show -(2 ^ 64) < m by omega, show m < 2 ^ 64 by omega⟩)) ev_int)) (fun hb => ?_) (fun hb => w_next ?_))
  · refine w_raise0 .BadWheel (qe ?_)
    simp at hb
    omega
  · simp only [Bool.or_eq_false_iff, decide_eq_false_iff_not] at hb
    have hw : 1 ≤ w ∧ m * w ≤ 60 := by omega
    have hw1 : w ≤ 60 := by
      have := Int.mul_le_mul_of_nonneg_right h1 (show 0 ≤ w by omega)
      omega
    have hmw : 1 ≤ m * w := by
      have := Int.mul_le_mul_of_nonneg_right h1 (show 0 ≤ w by omega)
      omega
    have hsl := stretch_len (xs := xs) (w := w)
    have : w.toNat * (xs.length - 1) ≤ 60 * 100 := Nat.mul_le_mul (by omega) (by omega)
    refine w_ret (ev_methN (ev_mkWheel (c := ⟨Z, X, fun r _ => er r⟩) hW hmw hw.2 (ea_cons (ev_mulS (ev_spokes (g := whl m) (ev_var rfl)) (ev_var rfl) (.inl ⟨show -(2 ^ 64) < m by omega, show m < 2 ^ 64 by omega⟩)) ea_nil)) (whl_m (by decide +kernel)) (ea_cons (ev_frI (ev_callN (s := .ol (stretchF xs w)) (ea_cons (ev_var rfl) (ea_cons (ev_var rfl) ea_nil)) ⟨_, _, rfl, hl, by omega, hw.1, hw1, rfl⟩)) ea_nil) ⟨_, _, rfl, m * w, x, hmw, hw.2, rfl, by omega, by omega, strN_bdd ‹Bd x xs› _, rfl⟩) (q hw)
end TB

/-! ### Wheel_whole -/
namespace TB
open PySem L2
--use TbWq
def T_Wheel_whole : Tm := tm2 fun (o : Whl) (xs : List Int) ok _ => 1 ≤ xs.length ∧ xs.length < 1000000 ∧ ok (.im (wholeF xs))
def t_Wheel_whole (Z : Zz) (X : WX) : TS :=
  (tSeq (tIfS (tB (tCB (rAny Z.K) (tCons (tLc (iList Z.K (tSl (rSlL Z.K) (tVar 1) (tPart (tC (.int 1))) tNoPart)) (gName 2) tYes (tOp (gNe Z.K) (tVar 2) (tC (.int 0))) [2]) tNil)))
  (tRet (tC .non))
  tNext)
  (tRet (tOp (gIx Z.K) (tVar 1) (tC (.int 0)))))
theorem w_Wheel_whole (Z : Zz) (X : WX) (ss : List Sl) (ok : Sl → Prop) (er : Rf → Prop) (h : T_Wheel_whole ss ok er) : WF Z X er (ss ++ List.replicate (3 - ss.length) .un) (t_Wheel_whole Z X) ok := by
  obtain ⟨o, xs, rfl, h1, h2, k⟩ := h
  show W _ [.im o, .im xs, .un] _ _
  unfold t_Wheel_whole
  unfold wholeF at k
  refine w_seq (w_if (b := (xs.drop 1).any (fun n => !decide (n = 0))) (et_B (ev_to (ev_any (bs := (xs.drop 1).map fun n => !decide (n = 0)) rfl (ev_fr ?hh)) ?_)) (fun hb => w_ret (s := .im (none : Option Int)) ev_none ?_) (fun hb => w_next (w_ret (s := .im (some (gt xs 0))) (ev_opt (ev_ix (ev_var rfl) ev_int (by decide) (by omega))) ?_)))
  case hh =>
    exact ev_mapL (xs := xs.drop 1) (fun n => !decide (n = 0)) (ev_frI (ev_cutFrom (xs := xs) (ev_var rfl) ev_int (by decide))) (by rw [List.length_drop]; omega) (by simp) ⟨.inl rfl, trivial⟩ fun x _ => ev_neI (ev_var rfl) ev_int
  · rw [List.any_map]; rfl
  · rw [if_pos hb] at k; exact k
  · rw [if_neg (by rw [hb]; decide)] at k; exact k
end TB

/-! ### l_whole -/
namespace TB
open PySem L2
def T_l_whole : Tm := tm1 fun (_ : Int) ok _ => ok (.im true)
def t_l_whole (Z : Zz) (X : WX) : TS :=
  (tRet (tAndV (tCB (rIsi Z.K) (tCons (tVar 0) (tCons (tC (.ty "int")) tNil))) (tNotV (tCB (rIsi Z.K) (tCons (tVar 0) (tCons (tC (.ty "bool")) tNil))))))
theorem w_l_whole (Z : Zz) (X : WX) (ss : List Sl) (ok : Sl → Prop) (er : Rf → Prop) (h : T_l_whole ss ok er) : WF Z X er (ss ++ List.replicate (1 - ss.length) .un) (t_l_whole Z X) ok := by
  obtain ⟨x, rfl, k⟩ := h
  show W _ [.im x] _ _
  unfold t_l_whole
  walk_at "w"
  exact k
end TB

/-! ### l_at -/
namespace TB
open PySem L2
def atF (l : List Int) (k : Int) : Int := if k < l.length then gt l k else 0
def T_l_at : Tm := tm2 fun (l : Scr) (k : Int) ok _ => 0 ≤ k ∧ ok (.im (atF l.l k))
def t_l_at (Z : Zz) (X : WX) : TS :=
  (tSeq (tIfS (tTest (tOp gLt (tVar 1) (tCB (gLen Z.K) (tCons (tVar 0) tNil))))
  (tRet (tOp (gIx Z.K) (tVar 0) (tVar 1)))
  tNext)
  (tRet (tC (.int 0))))
theorem w_l_at (Z : Zz) (X : WX) (ss : List Sl) (ok : Sl → Prop) (er : Rf → Prop) (h : T_l_at ss ok er) : WF Z X er (ss ++ List.replicate (2 - ss.length) .un) (t_l_at Z X) ok := by
  obtain ⟨l, k, rfl, h0, hk⟩ := h
  show W _ [.im l, .im k] _ _
  unfold t_l_at
  refine w_seq (w_if (b := decide (k < l.l.length)) (et_test (ev_lt (ev_var rfl) (ev_lenS (ev_var rfl)))) (fun hb => ?_) (fun hb => w_next ?_))
  · simp at hb
    refine w_ret (ev_ixS (ev_var rfl) (ev_var rfl) h0 hb) ?_
    unfold atF at hk
    rw [if_pos hb] at hk
    exact hk
  · simp at hb
    refine w_ret ev_int ?_
    unfold atF at hk
    rw [if_neg (by omega)] at hk
    exact hk
end TB

/-! ### l_primes -/
namespace TB
open PySem L2
--use TbWh
def T_l_primes : Tm := tm1 fun (m : Int) ok _ => 1 ≤ m ∧ m ≤ 60 ∧ ok (.ol (primesF m))
theorem stripF_no {n : Nat} {p r : Int} (h : ¬ r % p = 0) : stripF n p r = r := by
  cases n with
  | zero => rfl
  | succ n => unfold stripF; rw [if_neg h]
theorem stripF_bd {p : Int} (hp : 2 ≤ p) : ∀ (n : Nat) (r : Int), 1 ≤ r → r ≤ 60 → 1 ≤ stripF n p r ∧ stripF n p r ≤ 60
  | 0, r, h1, h2 => ⟨h1, h2⟩
  | n + 1, r, h1, h2 => by
    unfold stripF
    split
    · rename_i h
      have hge : p ≤ r := Int.le_of_dvd (by omega) (Int.dvd_of_emod_eq_zero h)
      have := Int.ediv_le_self p (show 0 ≤ r by omega)
      exact stripF_bd hp n _ ((Int.le_ediv_iff_mul_le (by omega)).mpr (by omega)) (by omega)
    · exact ⟨h1, h2⟩
theorem primesN_bd {m : Int} (h1 : 1 ≤ m) (h2 : m ≤ 60) : ∀ i, 1 ≤ (primesN m i).2 ∧ (primesN m i).2 ≤ 60 ∧ (primesN m i).1.length ≤ i
  | 0 => ⟨h1, h2, Nat.le_refl _⟩
  | i + 1 => by
    have ih := primesN_bd h1 h2 i
    have := stripF_bd (p := 2 + (i : Int)) (by omega) 6 _ ih.1 ih.2.1
    refine ⟨this.1, this.2, ?_⟩
    show (if (primesN m i).2 % (2 + (i : Int)) = 0 then (primesN m i).1 ++ [2 + (i : Int)] else (primesN m i).1).length ≤ i + 1
    split
    · rw [List.length_append]
      have := ih.2.2
      simp only [List.length_cons, List.length_nil]
      omega
    · have := ih.2.2
      omega
def t_l_primes (Z : Zz) (X : WX) : TS :=
  (tSeq (tAsg (tLst tNil) (gName 1))
  (tSeq (tAsg (tVar 0) (gName 2))
  (tSeq (tFor (iRng2 (tCons (tC (.int 2)) (tCons (tOp gAdd (tVar 0) (tC (.int 1))) tNil))) (gName 3)
  (tSeq (tIfS (tTest (tOp (gEq Z.K) (tOp gMod (tVar 2) (tVar 3)) (tC (.int 0))))
  (tDrop (tBM Z.K "list" rAppend (tVar 1) (tCons (tVar 3) tNil)))
  tNext)
  (tWhile (tTest (tOp (gEq Z.K) (tOp gMod (tVar 2) (tVar 3)) (tC (.int 0))))
  (tAsg (tOp gDiv (tVar 2) (tVar 3)) (gName 2)))))
  (tRet (tVar 1)))))
theorem w_l_primes (Z : Zz) (X : WX) (ss : List Sl) (ok : Sl → Prop) (er : Rf → Prop) (h : T_l_primes ss ok er) : WF Z X er (ss ++ List.replicate (4 - ss.length) .un) (t_l_primes Z X) ok := by
  obtain ⟨m, rfl, h1, h2, k⟩ := h
  show W _ [.im m, .un, .un, .un] _ _
  unfold t_l_primes
  refine w_seq (w_asg (ev_nil (δ := Int)) ?_)
  refine w_seq (w_asg (ev_var rfl) ?_)
  walk_at "nz"
  refine w_seq (w_forR2 (m := 2) (n := m + 1) (fun i G => ∃ s3, G = [.im m, .ol (primesN m i).1, .im (primesN m i).2, s3]) ev_int (ev_add (ev_var rfl) ev_int) (by decide) (by omega) ⟨_, rfl⟩ ?_ ?_)
  · rintro i G hi ⟨s3, rfl⟩
    walk_at "nz"
    obtain ⟨b1, b2, b3⟩ := primesN_bd h1 h2 i
    rw [primesN]
    simp only []
    generalize primesN m i = fr at b1 b2 b3 ⊢
    obtain ⟨f, r⟩ := fr
    have hp1 : 2 ≤ 2 + (i : Int) := by omega
    have hp2 : 2 + (i : Int) ≤ 60 := by omega
    have hl : f.length < 1000000 := by have : f.length ≤ i := b3; omega
    generalize 2 + (i : Int) = p at hp1 hp2 ⊢
    refine w_mid (fun G => G = [.im m, .ol (if r % p = 0 then f ++ [p] else f), .im r, .im p]) ?_ ?_
    · refine w_if (b := decide (r % p = 0)) (et_test (ev_eqI (ev_mod (ev_var rfl) (ev_var rfl) (by omega)) ev_int)) (fun hb => ?_) (fun hb => w_next ?_)
      · simp at hb
        refine w_app rfl (ev_var rfl) hl ?_
        walk_at "nz"
        rw [if_pos hb]
      · simp at hb
        rw [if_neg (by simpa using hb)]
    · rintro G rfl
      have b1' : 1 ≤ r := b1
      have b2' : r ≤ 60 := b2
      refine w_while (fun mm G => ∃ (n : Nat) (r' : Int), G = [.im m, .ol (if r % p = 0 then f ++ [p] else f), .im r', .im p] ∧ stripF n p r' = stripF 6 p r ∧ r' < 2 ^ n ∧ 1 ≤ r' ∧ r'.toNat = mm) r.toNat ⟨6, r, rfl, rfl, by show r < 64; omega, b1', rfl⟩ ?_
      rintro mm G ⟨n, r', rfl, q1, q3, d1, q4⟩
      refine ⟨decide (r' % p = 0), et_test (ev_eqI (ev_mod (ev_var rfl) (ev_var rfl) (by omega)) ev_int), fun hb => ?_, fun hb => ?_⟩
      · simp at hb
        have hge : p ≤ r' := Int.le_of_dvd (by omega) (Int.dvd_of_emod_eq_zero hb)
        cases n with
        | zero => simp at q3; omega
        | succ n =>
          unfold stripF at q1
          rw [if_pos hb] at q1
          have hlt : r' / p < r' := Int.ediv_lt_self_of_pos_of_ne_one (by omega) (by omega)
          have hdp : 1 ≤ r' / p := (Int.le_ediv_iff_mul_le (by omega)).mpr (by omega)
          refine w_asg (ev_div (ev_var rfl) (ev_var rfl) (by omega) (by omega)) ?_
          walk_at "nz"
          refine ⟨(r' / p).toNat, by omega, n, _, rfl, q1, ?_, hdp, rfl⟩
          have h5 : r' / p * 2 ≤ r' / p * p := Int.mul_le_mul_of_nonneg_left (by omega) (by omega)
          have h6 : r' / p * p ≤ r' := Int.ediv_mul_le _ (by omega)
          have h7 : (2 : Int) ^ (n + 1) = 2 ^ n * 2 := Int.pow_succ ..
          omega
      · simp at hb
        rw [stripF_no (by simpa using hb)] at q1
        refine ⟨.im p, ?_⟩
        rw [← q1]
  · rintro G ⟨s3, rfl⟩
    exact w_retO val_ol rfl (by rw [show (m + 1 - 2).toNat = (m - 1).toNat by omega]; exact k)
end TB

/-! ### l_nought -/
namespace TB
open PySem L2
--use TbWh
def T_l_nought : Tm := tm2 fun (cs : List Int) (m : Int) ok _ => 1 ≤ m ∧ m ≤ 60 ∧ cs.length < 100000 ∧ ok (.im (noughtL m cs))
def t_l_nought (Z : Zz) (X : WX) : TS :=
  (tSeq (tAsg (tOp gMul (tLst (tCons (tC (.int 0)) tNil)) (tVar 1)) (gName 2))
  (tSeq (tFor (iRng1 (tCons (tCB (gLen Z.K) (tCons (tVar 0) tNil)) tNil)) (gName 3)
  (tAsg (tOp gAdd (tOp (gIx Z.K) (tVar 2) (tOp gMod (tVar 3) (tVar 1))) (tOp (gIx Z.K) (tVar 0) (tVar 3))) (gSub (tVar 2) (tOp gMod (tVar 3) (tVar 1)) gSet)))
  (tSeq (tFor (iList Z.K (tCallSD (spOf Z T_l_primes) [] (WE X) (tCons (tVar 1) tNil))) (gName 4)
  (tAsg (tLc (iRng1 (tCons (tVar 1) tNil)) (gName 3) tYes (tOp gMns (tOp (gIx Z.K) (tVar 2) (tVar 3)) (tOp (gIx Z.K) (tVar 2) (tOp gMns (tVar 3) (tOp gDiv (tVar 1) (tVar 4))))) [3]) (gName 2)))
  (tRet (tCB (rAll Z.K) (tCons (tLc (iList Z.K (tVar 2)) (gName 5) tYes (tOp (gEq Z.K) (tVar 5) (tC (.int 0))) [5]) tNil))))))
theorem w_l_nought (Z : Zz) (X : WX) (ss : List Sl) (ok : Sl → Prop) (er : Rf → Prop) (h : T_l_nought ss ok er) : WF Z X er (ss ++ List.replicate (6 - ss.length) .un) (t_l_nought Z X) ok := by
  obtain ⟨cs, m, rfl, h1, h2, hl, k⟩ := h
  show W _ [.im cs, .im m, .un, .un, .un, .un] _ _
  unfold t_l_nought
  refine w_seq (w_asg (s := .ol ((irange m).map (cyc m 0 (cs.take 0)))) (ev_is (ev_zeros (ev_var rfl) (by omega) (by omega)) (congrArg Sl.ol zeros_map)) ?_)
  walk_at "nz"
  refine w_seq (w_forR (n := (cs.length : Int)) (fun i G => ∃ s3, G = [.im cs, .im m, .ol ((irange m).map (cyc m 0 (cs.take i))), s3, .un, .un]) (ev_len (ev_var rfl)) (by omega) (by omega) ⟨_, rfl⟩ ?_ ?_)
  · rintro i G hi ⟨s3, rfl⟩
    walk_at "nz"
    have e0 := Int.emod_nonneg (i : Int) (show m ≠ 0 by omega)
    have e1 := Int.emod_lt_of_pos (i : Int) (show 0 < m by omega)
    have ml : ∀ f : Int → Int, (((irange m).map f).length : Int) = m := fun f => by rw [List.length_map, irange_len]; omega
    refine w_putG (xs := (irange m).map (cyc m 0 (cs.take i))) (y := gt ((irange m).map (cyc m 0 (cs.take i))) ((i : Int) % m) + gt cs (i : Int)) rfl (ev_add (ev_ixO rfl (ev_mod (ev_var rfl) (ev_var rfl) (by omega)) e0 (by rw [ml]; omega)) (ev_ix (ev_var rfl) (ev_var rfl) (by omega) hi)) (ev_mod (ev_var rfl) (ev_var rfl) (by omega)) e0 (by rw [ml]; omega) ⟨.im (i : Int), ?_⟩
    walk_at "nz"
    have hi' : i < cs.length := by omega
    rw [sum_put h1, take_snoc' hi']
    have : (irange m).map (cyc m 0 (cs.take i ++ [gt cs (i : Int)])) = (irange m).map fun j => cyc m 0 (cs.take i) j + if ((i : Int) - j) % m = 0 then gt cs (i : Int) else 0 := by
      refine List.map_congr_left fun j _ => ?_
      rw [cyc_append, cyc_one, List.length_take, show (0 : Int) + ((min i cs.length : Nat) : Int) = (i : Int) by omega]
    rw [this]
  rintro G ⟨s3, rfl⟩
  rw [show ((cs.length : Int)).toNat = cs.length by omega, List.take_length]
  refine w_fr (xs := (irange m).map (cyc m 0 cs)) 2 rfl ?_
  walk_at "nz"
  have rf := ringF h1 h2
  have hS : ((irange m).map (cyc m 0 cs)).length = m.toNat := by rw [List.length_map, irange_len]
  unfold noughtL at k
  generalize (irange m).map (cyc m 0 cs) = S at hS k ⊢
  refine w_seq (w_forL (xs := primesF m) (fun i G => ∃ s3 s4, G = [.im cs, .im m, .im (turnsL m ((primesF m).take i) S), s3, s4, .un]) (ev_fr (ev_callN (s := .ol (primesF m)) (ea_cons (ev_var rfl) ea_nil) ⟨_, rfl, h1, h2, rfl⟩)) ⟨_, _, rfl⟩ ?_ ?_)
  · rintro i G hi ⟨s3, s4, rfl⟩
    walk_at "nz"
    have hp := rf.pr _ (List.getElem_mem hi)
    have hT := turnsL_len (m := m) ((primesF m).take i) S hS
    have e5 : turnsL m ((primesF m).take (i + 1)) S = turnL m (primesF m)[i] (turnsL m ((primesF m).take i) S) := by rw [take_snoc hi, turnsL_snoc]
    rw [e5]
    generalize turnsL m ((primesF m).take i) S = S2 at hT ⊢
    generalize (primesF m)[i] = p at hp ⊢
    refine w_un 3 ?_
    walk_at "nz"
    have d0 : 0 ≤ m / p := Int.ediv_nonneg (by omega) (by omega)
    have d1 : m / p ≤ m := Int.ediv_le_self _ (by omega)
    have hl2 : (S2.length : Int) = m := by omega
    refine w_asg (s := .im (turnL m p S2)) (ev_fr ?hh) ⟨.un, .im p, rfl⟩
    case hh =>
      unfold turnL
      refine ev_mapR (n := m) (fun k => gt S2 k - gt S2 (if 0 ≤ k - m / p then k - m / p else k - m / p + m)) (ev_var rfl) (by omega) (by omega) (by simp) ⟨.inl rfl, trivial⟩ ?_
      intro k k0 k1
      refine ev_sub (ev_ix (ev_var rfl) (ev_var rfl) k0 (by omega)) (ev_to (ev_ixM (xs := S2) (ev_var rfl) (ev_sub (ev_var rfl) (ev_div (ev_var rfl) (ev_var rfl) (by omega) (by omega))) (by omega) (by omega)) (by rw [hl2]))
  · rintro G ⟨s3, s4, rfl⟩
    rw [List.take_length]
    have hT := turnsL_len (m := m) (primesF m) S hS
    generalize turnsL m (primesF m) S = S2 at hT k ⊢
    refine w_ret (ev_to (ev_all rfl (ev_fr (ev_mapL (xs := S2) (fun x => decide (x = 0)) (ev_var rfl) (by omega) (by simp) ⟨.inl rfl, trivial⟩ fun x _ => ev_eqI (ev_var rfl) ev_int))) ?_) k
    rw [List.all_map]
    rfl
end TB

/-! ### l_degree -/
namespace TB
open PySem L2
--use TbWh
def T_l_degree : Tm := tm1 fun (m : Int) ok _ => 1 ≤ m ∧ m ≤ 60 ∧ ok (.im (degF m : Int))
def t_l_degree (Z : Zz) (X : WX) : TS :=
  (tSeq (tAsg (tCallSD (spOf Z T_l_primes) [] (WE X) (tCons (tVar 0) tNil)) (gName 1))
  (tRet (tCB (gLen Z.K) (tCons (tLc (iRng2 (tCons (tC (.int 1)) (tCons (tOp gAdd (tVar 0) (tC (.int 1))) tNil))) (gName 2) (tB (tCB (rAll Z.K) (tCons (tLc (iList Z.K (tVar 1)) (gName 3) tYes (tOp (gNe Z.K) (tOp gMod (tVar 2) (tVar 3)) (tC (.int 0))) [3]) tNil))) (tVar 2) [2]) tNil))))
theorem w_l_degree (Z : Zz) (X : WX) (ss : List Sl) (ok : Sl → Prop) (er : Rf → Prop) (h : T_l_degree ss ok er) : WF Z X er (ss ++ List.replicate (4 - ss.length) .un) (t_l_degree Z X) ok := by
  obtain ⟨m, rfl, h1, h2, k⟩ := h
  show W _ [.im m, .un, .un, .un] _ _
  unfold t_l_degree
  have rf := ringF h1 h2
  refine w_seq (w_asg (s := .im (primesF m)) (ev_fr (ev_callN (ea_cons (ev_var rfl) ea_nil) ⟨_, rfl, h1, h2, rfl⟩)) ?_)
  walk_at "nz"
  have hpl : (primesF m).length < 1000000 := by have := (primesN_bd h1 h2 (m - 1).toNat).2.2; unfold primesF; omega
  refine w_ret (ev_to (ev_lenI (xs := kept (fun i => (primesF m).all fun p => decide ((1 + (i : Int)) % p ≠ 0)) (fun i => 1 + (i : Int)) (m + 1 - 1).toNat) (ev_frI ?hh)) ?_) k
  case hh =>
    refine ev_lc (fun i => (primesF m).all fun p => decide ((1 + (i : Int)) % p ≠ 0)) (fun i => 1 + (i : Int)) (ei_rng2 ev_int (ev_add (ev_var rfl) ev_int) (by decide) (by omega)) (by omega) (by simp) ⟨.inl rfl, trivial⟩ (fun i hi => ?_) (fun i hi _ => ev_var rfl)
    refine et_B (ev_to (ev_all rfl (ev_fr (ev_mapL (xs := primesF m) (fun p => !decide ((1 + (i : Int)) % p = 0)) (ev_var rfl) hpl (by simp) ⟨.inl rfl, trivial⟩ fun p hp => ev_neI (ev_mod (ev_var rfl) (ev_var rfl) (by have := (rf.pr p hp).1; omega)) ev_int))) ?_)
    rw [List.all_map]
    congr 1
    funext p
    simp
  · unfold kept degF irange
    rw [List.filter_map, List.length_map, List.length_map, show (m + 1 - 1).toNat = m.toNat by omega]
    congr 2
    congr 1
    funext i
    show ((primesF m).all fun p => decide ((1 + (i : Int)) % p ≠ 0)) = (primesF m).all fun p => decide (((i : Int) + 1) % p ≠ 0)
    rw [Int.add_comm]
end TB

/-! ### l_is -/
namespace TB
open PySem L2
--use TbWh
def T_l_is : Tm := tm3 fun (f cs : List Int) (m : Int) ok _ => 1 ≤ m ∧ m ≤ 60 ∧ cs.length < 50000 ∧ f.length = degF m ∧ SameN m (cyc m 0 f) (cyc m 0 cs) ∧ ok (.im true)
def t_l_is (Z : Zz) (X : WX) : TS :=
  (tSeq (tIfS (tOr (tNot (tB (tCB (rIsi Z.K) (tCons (tVar 0) (tCons (tC (.ty "list")) tNil))))) (tTest (tOp (gNe Z.K) (tCB (gLen Z.K) (tCons (tVar 0) tNil)) (tCallSD (spOf Z T_l_degree) [] (WE X) (tCons (tVar 2) tNil)))))
  (tRet (tC (.bl false)))
  tNext)
  (tSeq (tAsg (tOp gAdd (tCB (gList Z.K) (tCons (tVar 1) tNil)) (tOp gMul (tLst (tCons (tC (.int 0)) tNil)) (tVar 2))) (gName 3))
  (tSeq (tFor (iRng1 (tCons (tCB (gLen Z.K) (tCons (tVar 0) tNil)) tNil)) (gName 4)
  (tSeq (tIfS (tNot (tB (tCallSD (spOf Z T_l_whole) [] (WE X) (tCons (tOp (gIx Z.K) (tVar 0) (tVar 4)) tNil))))
  (tRet (tC (.bl false)))
  tNext)
  (tAsg (tOp gMns (tOp (gIx Z.K) (tVar 3) (tVar 4)) (tOp (gIx Z.K) (tVar 0) (tVar 4))) (gSub (tVar 3) (tVar 4) gSet))))
  (tRet (tCallSD (spOf Z T_l_nought) [] (WE X) (tCons (tVar 3) (tCons (tVar 2) tNil)))))))
theorem w_l_is (Z : Zz) (X : WX) (ss : List Sl) (ok : Sl → Prop) (er : Rf → Prop) (h : T_l_is ss ok er) : WF Z X er (ss ++ List.replicate (5 - ss.length) .un) (t_l_is Z X) ok := by
  obtain ⟨f, cs, m, rfl, h1, h2, hl, hd, hs, k⟩ := h
  show W _ [.im f, .im cs, .im m, .un, .un] _ _
  unfold t_l_is
  have rf := ringF h1 h2
  have hle := rf.le
  have hdg := rf.deg
  refine w_seq (w_if (b := false) (et_to (et_or (et_not (et_B (ev_isiLL (ev_var rfl)))) fun _ => et_test (ev_neI (ev_len (ev_var rfl)) (ev_callN (s := .im (degF m : Int)) (ea_cons (ev_var rfl) ea_nil) ⟨_, rfl, h1, h2, rfl⟩))) (by simp [hd])) (fun z => nomatch z) (fun _ => w_next ?_))
  have hrl : (cs ++ List.replicate m.toNat (0 : Int)).length = cs.length + m.toNat := by simp
  refine w_seq (w_asg (s := .ol (cs ++ List.replicate m.toNat (0 : Int))) (ev_cat (ev_fr (ev_list (ev_var rfl))) (ev_fr (ev_zeros (ev_var rfl) (by omega) (by omega))) (by simp; omega)) ?_)
  walk_at "nz"
  refine w_seq (w_forR (n := (f.length : Int)) (fun i G => ∃ s4, G = [.im f, .im cs, .im m, .ol (subN 1 f 0 (cs ++ List.replicate m.toNat (0 : Int)) i), s4]) (ev_len (ev_var rfl)) (by omega) (by omega) ⟨_, rfl⟩ ?_ ?_)
  · rintro i G hi ⟨s4, rfl⟩
    walk_at "nz"
    refine w_seq (w_if (b := false) (et_to (et_not (et_B (ev_callN (s := .im true) (ea_cons (ev_ix (ev_var rfl) (ev_var rfl) (by omega) hi) ea_nil) ⟨_, rfl, rfl⟩))) rfl) (fun z => nomatch z) (fun _ => w_next ?_))
    refine w_putG (xs := subN 1 f 0 (cs ++ List.replicate m.toNat (0 : Int)) i) rfl (ev_sub (ev_ixO rfl (ev_var rfl) (by omega) (by rw [subN_len]; omega)) (ev_ix (ev_var rfl) (ev_var rfl) (by omega) hi)) (ev_var rfl) (by omega) (by rw [subN_len]; omega) ⟨.im (i : Int), ?_⟩
    walk_at "nz"
    rw [subN]
    simp only [Nat.zero_add, Int.one_mul, Int.toNat_natCast]
  · rintro G ⟨s4, rfl⟩
    rw [show ((f.length : Int)).toNat = f.length by omega]
    have hz : noughtL m (subN 1 f 0 (cs ++ List.replicate m.toNat (0 : Int)) f.length) = true := noughtL_of h1 h2 fun j => by
      rw [dif_congr (g := fun i => cyc m 0 cs i - 1 * cyc m 0 f i) (fun i => by
        rw [cyc_subN i _ (Nat.le_refl _) (by omega), List.take_length, cyc_append, cyc_zeros, Int.add_zero]
        rfl) j, dif_lin, hs j]
      omega
    refine w_ret (ev_to (ev_callL (s := .im (noughtL m (subN 1 f 0 (cs ++ List.replicate m.toNat (0 : Int)) f.length))) (eb_own lnd_ol rfl (eb_cons (ev_var rfl) eb_nil)) det_im ⟨_, _, rfl, h1, h2, by rw [subN_len]; omega, rfl⟩) hz) k
end TB

/-! TbWk: plain law of a walk: deeds keep what is the same number; bounds of lowest forms. -/
namespace TB
open PySem L2
/-! ### bounds -/
theorem rings_bd1 : (List.range 60).all (fun i => (circ ((i : Int) + 1)).all fun x => decide (x.natAbs < 2)) = true := by decide +kernel
theorem ring_bd1 {m : Int} (h1 : 1 ≤ m) (h2 : m ≤ 60) : Bd 1 (circ m) := fun x hx => by
  have := List.all_eq_true.mp rings_bd1 (m - 1).toNat (List.mem_range.mpr (by omega))
  rw [show (((m - 1).toNat : Nat) : Int) + 1 = m by omega] at this
  simpa using List.all_eq_true.mp this x hx
theorem splitN_bd {b : List Int} {many y : Nat} (hb : Bd y b) : ∀ (n a : Nat) (f r : List Int), Bd a r → Bd (a + n * (y + 1)) (splitN b many n f r).2
  | 0, a, f, r, h => h.mono (by omega)
  | n + 1, a, f, r, h => by
    unfold splitN
    by_cases c : many < r.length
    · rw [if_pos c]
      have hne : r ≠ [] := fun z => by rw [z] at c; simp at c
      have hs : (r.getLastD 0).natAbs < 2 ^ a := h _ (by
        rw [List.getLastD_eq_getLast?, List.getLast?_eq_some_getLast hne]
        exact List.getLast_mem hne)
      have hd : Bd a r.dropLast := fun z hz => h z (by rw [List.dropLast_eq_take] at hz; exact List.mem_of_mem_take hz)
      have := splitN_bd hb (many := many) n (a + y + 1) (r.getLastD 0 :: f) _ (subN_bd (k := many) (at0 := r.length - 1 - many) (by rw [List.length_dropLast]; omega) hd hs hb)
      exact this.mono (by rw [Nat.succ_mul]; omega)
    · rw [if_neg c]
      exact h.mono (by omega)
theorem lowF_bd {m : Int} {x k : Nat} {cs : List Int} (h1 : 1 ≤ m) (h2 : m ≤ 60) (h : Bd x cs) (hl : cs.length < 2 ^ k) : Bd (x + k + 120) (lowF m cs) := by
  have h3 := sums_bd (m := m) h hl
  have := splitN_bd (many := (circ m).length - 1) (ring_bd1 h1 h2) ((irange m).map (cyc m 0 cs)).length (x + k) [] _ h3
  refine Bd.mono this ?_
  rw [List.length_map, irange_len]
  omega
/-! ### turns by any shifts -/
def difS : List Int → (Int → Int) → Int → Int
  | [], f, j => f j
  | s :: ss, f, j => difS ss (fun i => f i - f (i - s)) j
theorem dif_difS {m : Int} : ∀ (ps : List Int) (f : Int → Int), dif m ps f = difS (ps.map fun p => m / p) f
  | [], f => rfl
  | p :: ps, f => dif_difS ps _
theorem difS_turn : ∀ (ss : List Int) (f : Int → Int) (d j : Int), difS ss (fun i => f (i - d)) j = difS ss f (j - d)
  | [], f, d, j => rfl
  | s :: ss, f, d, j => by
    show difS ss (fun i => f (i - d) - f (i - s - d)) j = difS ss (fun i => f i - f (i - s)) (j - d)
    rw [← difS_turn ss (fun i => f i - f (i - s)) d j]
    congr 1
    funext i
    rw [show i - s - d = i - d - s by omega]
theorem difS_sub : ∀ (ss : List Int) (f g : Int → Int) (j : Int), difS ss (fun i => f i - g i) j = difS ss f j - difS ss g j
  | [], f, g, j => rfl
  | s :: ss, f, g, j => by
    show difS ss (fun i => (f i - g i) - (f (i - s) - g (i - s))) j = _
    have : (fun i => (f i - g i) - (f (i - s) - g (i - s))) = fun i => (f i - f (i - s)) - (g i - g (i - s)) := by
      funext i; omega
    rw [this, difS_sub ss]
    rfl
theorem difS_out (ss : List Int) (s : Int) (f : Int → Int) (j : Int) : difS (s :: ss) f j = difS ss f j - difS ss f (j - s) := by
  show difS ss (fun i => f i - f (i - s)) j = _
  rw [difS_sub ss f (fun i => f (i - s)), difS_turn]
theorem difS_zero : ∀ (ss : List Int) {f : Int → Int} (_ : ∀ j, f j = 0) (j : Int), difS ss f j = 0
  | [], f, h, j => h j
  | s :: ss, f, h, j => difS_zero ss (fun i => by rw [h, h]; rfl) j
theorem difS_per {m : Int} : ∀ (ss : List Int) {f : Int → Int}, Per m f → Per m (difS ss f)
  | [], f, h => h
  | s :: ss, f, h => difS_per ss fun j k => by
    show f (j + m * k) - f (j + m * k - s) = _
    rw [h, show j + m * k - s = j - s + m * k by omega, h]
/-- more turns of what is nought -/
theorem difS_more : ∀ {ss tt : List Int}, ss.Sublist tt → ∀ {f : Int → Int}, (∀ j, difS ss f j = 0) → ∀ j, difS tt f j = 0
  | _, _, .slnil, f, h, j => h j
  | _, _, .cons s q, f, h, j => by
    rw [difS_out, difS_more q h, difS_more q h]; rfl
  | _, _, .cons₂ s q, f, h, j => difS_more q (f := fun i => f i - f (i - s)) h j
theorem back_many {h : Int → Int} {s : Int} (e : ∀ j, h j = h (j - s)) : ∀ (c : Nat) (j : Int), h j = h (j - c * s)
  | 0, j => by rw [show j - ((0 : Nat) : Int) * s = j by simp]
  | c + 1, j => by
    rw [back_many e c j, e (j - c * s), show j - (c : Int) * s - s = j - ((c + 1 : Nat) : Int) * s by
      rw [show ((c + 1 : Nat) : Int) = (c : Int) + 1 by omega, Int.add_mul]; omega]
/-- turns that are so many times others -/
theorem difS_times {m : Int} {γ : Type} (u v : γ → Int) : ∀ (ps : List γ), (∀ p ∈ ps, ∃ (c : Nat) (t : Int), v p = c * u p + m * t) → ∀ {f : Int → Int}, Per m f → (∀ j, difS (ps.map u) f j = 0) → ∀ j, difS (ps.map v) f j = 0
  | [], _, f, _, h, j => h j
  | p :: ps, hp, f, hf, h, j => by
    have h2 : ∀ j, difS (ps.map v) (fun i => f i - f (i - u p)) j = 0 := difS_times u v ps (fun q hq => hp q (by simp [hq])) (f := fun i => f i - f (i - u p)) (fun j k => by
      show f (j + m * k) - f (j + m * k - u p) = _
      rw [hf, show j + m * k - u p = j - u p + m * k by omega, hf]) h
    have h3 : ∀ j, difS (ps.map v) f j = difS (ps.map v) f (j - u p) := fun j => by
      have := h2 j
      rw [difS_sub _ f (fun i => f (i - u p)), difS_turn] at this
      omega
    obtain ⟨c, t, e⟩ := hp p (by simp)
    show difS (v p :: ps.map v) f j = 0
    rw [difS_out, back_many h3 c j, e]
    have := difS_per (m := m) (ps.map v) hf (j - (c * u p + m * t)) t
    rw [show j - (↑c * u p + m * t) + m * t = j - ↑c * u p by omega] at this
    omega
/-! ### what is put by steps -/
/-- step a on wheel m goes round just as one spoke on wheel n -/
def Stc (n a m : Int) : Prop := ∀ i : Int, (i * a) % m = 0 ↔ i % n = 0
theorem put_on {n a b m : Int} (hc : Stc n a m) : ∀ (xs : List Int) (o i : Int), cyp m a b o xs (i * a + b) = cyc n o xs i
  | [], o, i => rfl
  | x :: xs, o, i => by
    show (if (o * a + b - (i * a + b)) % m = 0 then x else 0) + _ = (if (o - i) % n = 0 then x else 0) + _
    rw [put_on hc xs (o + 1) i]
    have := hc (o - i)
    rw [show o * a + b - (i * a + b) = (o - i) * a by rw [Int.sub_mul]; omega]
    simp only [this]
theorem put_off {a b m j : Int} (h : ∀ i : Int, (i * a + b - j) % m ≠ 0) : ∀ (xs : List Int) (o : Int), cyp m a b o xs j = 0
  | [], o => rfl
  | x :: xs, o => by
    show (if (o * a + b - j) % m = 0 then x else 0) + _ = 0
    rw [if_neg (h o), put_off h xs]
    rfl
/-- g is f put by steps -/
structure Lft (a b m : Int) (f g : Int → Int) : Prop where
  on : ∀ i, g (i * a + b) = f i
  off : ∀ j, (∀ i : Int, (i * a + b - j) % m ≠ 0) → g j = 0
theorem Lft.turn {a b m s : Int} {f g : Int → Int} (h : Lft a b m f g) : Lft a b m (fun i => f i - f (i - s)) (fun j => g j - g (j - s * a)) where
  on i := by
    show g (i * a + b) - g (i * a + b - s * a) = _
    rw [show i * a + b - s * a = (i - s) * a + b by rw [Int.sub_mul]; omega, h.on, h.on]
  off j hj := by
    show g j - g (j - s * a) = 0
    rw [h.off j hj, h.off (j - s * a) fun i => by
      have := hj (i + s)
      rwa [Int.add_mul, show i * a + s * a + b - j = i * a + b - (j - s * a) by omega] at this]
    rfl
theorem Lft.difS {a b m : Int} : ∀ (ss : List Int) {f g : Int → Int}, Lft a b m f g → Lft a b m (difS ss f) (difS (ss.map fun s => s * a) g)
  | [], f, g, h => h
  | s :: ss, f, g, h => Lft.difS ss h.turn
theorem Lft.nought {a b m : Int} {f g : Int → Int} (h : Lft a b m f g) (hg : Per m g) (hf : ∀ i, f i = 0) (j : Int) : g j = 0 := by
  by_cases c : ∃ i : Int, (i * a + b - j) % m = 0
  · obtain ⟨i, hi⟩ := c
    obtain ⟨t, ht⟩ := Int.dvd_of_emod_eq_zero hi
    have := hg j t
    rw [show j + m * t = i * a + b by omega, h.on, hf] at this
    exact this.symm
  · exact h.off j fun i z => c ⟨i, z⟩
/-- what is the same number is so when it is put by steps -/
theorem same_put {n m a b : Int} (hc : Stc n a m) (hs : ∀ g : Int → Int, Per m g → (∀ j, difS ((primesF n).map fun p => n / p * a) g j = 0) → ∀ j, dif m (primesF m) g j = 0) {xs ys : List Int}
    (h : SameN n (cyc n 0 xs) (cyc n 0 ys)) : SameN m (cyp m a b 0 xs) (cyp m a b 0 ys) := fun j => by
  have hL : Lft a b m (fun i => cyc n 0 xs i - cyc n 0 ys i) (fun j => cyp m a b 0 xs j - cyp m a b 0 ys j) := ⟨fun i => by
    rw [put_on hc, put_on hc], fun j hj => by rw [put_off hj, put_off hj]; rfl⟩
  have hp : Per m (fun j => cyp m a b 0 xs j - cyp m a b 0 ys j) := fun j k => by
    show cyp m a b 0 xs (j + m * k) - cyp m a b 0 ys (j + m * k) = _
    rw [cyp_per, cyp_per]
  have h2 := (hL.difS ((primesF n).map fun p => n / p))
  rw [List.map_map] at h2
  have h3 := h2.nought (difS_per _ hp) fun i => by
    rw [difS_sub, ← dif_difS, ← dif_difS]
    have := h i
    omega
  have h4 := hs _ hp h3 j
  rw [dif_difS, difS_sub] at h4
  rw [dif_difS, dif_difS]
  omega
/-! ### which steps are so -/
theorem mul_emod2 (a b m : Int) : (a * (b % m)) % m = (a * b) % m := by
  rw [Int.mul_emod, Int.emod_emod_of_dvd _ (Int.dvd_refl _), ← Int.mul_emod]
theorem stc_one {m : Int} : Stc m 1 m := fun i => by rw [Int.mul_one]
theorem pr_dvd {m : Int} (h1 : 1 ≤ m) (h2 : m ≤ 60) {p : Int} (hp : p ∈ primesF m) : 2 ≤ p ∧ m % p = 0 := by
  have h := gc_ok h1 h2
  unfold gcOk at h
  rw [Bool.and_eq_true, List.all_eq_true] at h
  simpa using h.1 p hp
theorem shift_one {m : Int} (g : Int → Int) (_ : Per m g) (h : ∀ j, difS ((primesF m).map fun p => m / p * 1) g j = 0) : ∀ j, dif m (primesF m) g j = 0 := fun j => by
  rw [dif_difS]
  simpa using h j
def invOk (m : Int) : Bool := (primesF m).all fun p => (List.range p.toNat).all fun r => r == 0 || (List.range p.toNat).any fun c => decide (((c : Int) * r) % p = 1)
theorem invs_ok : (List.range 60).all (fun i => invOk ((i : Int) + 1)) = true := by decide +kernel
theorem inv_ok {m : Int} (h1 : 1 ≤ m) (h2 : m ≤ 60) {p : Int} (hp : p ∈ primesF m) {a : Int} (ha : a % p ≠ 0) : ∃ (c : Nat) (u : Int), (c : Int) * a = 1 + p * u := by
  have h := List.all_eq_true.mp invs_ok (m - 1).toNat (List.mem_range.mpr (by omega))
  rw [show (((m - 1).toNat : Nat) : Int) + 1 = m by omega] at h
  have h3 := List.all_eq_true.mp h p hp
  have p2 := (pr_dvd h1 h2 hp).1
  have r0 := Int.emod_nonneg a (show p ≠ 0 by omega)
  have r1 := Int.emod_lt_of_pos a (show 0 < p by omega)
  have h4 := List.all_eq_true.mp h3 (a % p).toNat (List.mem_range.mpr (by omega))
  rw [Bool.or_eq_true] at h4
  rcases h4 with h4 | h4
  · have : (a % p).toNat = 0 := by simpa using h4
    omega
  · obtain ⟨c, _, hc⟩ := List.any_eq_true.mp h4
    have hc : ((c : Int) * ((a % p).toNat : Int)) % p = 1 := by simpa using hc
    rw [show (((a % p).toNat : Nat) : Int) = a % p by omega, mul_emod2] at hc
    refine ⟨c, (c : Int) * a / p, ?_⟩
    have := Int.emod_add_mul_ediv ((c : Int) * a) p
    omega
theorem apart_ne {m j : Int} (h : apartB m j = true) {p : Int} (hp : p ∈ primesF m) : j % p ≠ 0 := by
  have := List.all_eq_true.mp h p hp
  simpa using this
theorem shift_move {m a : Int} (h1 : 1 ≤ m) (h2 : m ≤ 60) (ha : apartB m a = true) (g : Int → Int) (hg : Per m g) (h : ∀ j, difS ((primesF m).map fun p => m / p * a) g j = 0) : ∀ j, dif m (primesF m) g j = 0 := fun j => by
  rw [dif_difS]
  refine difS_times (m := m) (fun p => m / p * a) (fun p => m / p) (primesF m) (fun p hp => ?_) hg h j
  obtain ⟨c, u, e⟩ := inv_ok h1 h2 hp (apart_ne ha hp)
  have hd := pr_dvd h1 h2 hp
  obtain ⟨q, hq⟩ := Int.dvd_of_emod_eq_zero hd.2
  have e2 : m / p = q := by rw [hq]; exact Int.mul_ediv_cancel_left _ (by omega)
  refine ⟨c, -u, ?_⟩
  show m / p = c * (m / p * a) + m * -u
  rw [e2]
  have e3 : (c : Int) * (q * a) = q * (c * a) := by rw [← Int.mul_assoc, Int.mul_comm (c : Int) q, Int.mul_assoc]
  rw [e3, e, Int.mul_add, Int.mul_one, hq, Int.mul_neg, ← Int.mul_assoc, Int.mul_comm q p]
  omega
theorem stc_move {m a : Int} (h1 : 1 ≤ m) (h2 : m ≤ 60) (ha : apartB m a = true) : Stc m a m := fun i => by
  have hg : Nat.gcd m.toNat (a % m).toNat = 1 := by
    have := apart_gcd (j := a) h1 h2
    rw [ha] at this
    simpa using this.symm
  constructor
  · intro h
    have r0 := Int.emod_nonneg a (show m ≠ 0 by omega)
    have h3 : (i * (a % m)) % m = 0 := by rw [mul_emod2]; exact h
    have h4 := Int.dvd_of_emod_eq_zero h3
    have h5 : m.toNat ∣ i.natAbs * (a % m).toNat := by
      have := Int.natAbs_dvd_natAbs.mpr h4
      rw [Int.natAbs_mul, show m.natAbs = m.toNat by omega, show (a % m).natAbs = (a % m).toNat by omega] at this
      exact this
    have h6 := Nat.Coprime.dvd_of_dvd_mul_right hg h5
    have h7 : m ∣ i := Int.natAbs_dvd_natAbs.mp (by rwa [show m.natAbs = m.toNat by omega])
    exact Int.emod_eq_zero_of_dvd h7
  · intro h
    rw [Int.mul_emod, h]
    simp
theorem stc_wide {n w : Int} (hw : 1 ≤ w) : Stc n w (n * w) := fun i => by
  constructor
  · intro h
    obtain ⟨t, ht⟩ := Int.dvd_of_emod_eq_zero h
    have : i * w = n * t * w := by rw [ht, Int.mul_assoc, Int.mul_assoc, Int.mul_comm w t]
    have := Int.eq_of_mul_eq_mul_right (show w ≠ 0 by omega) this
    exact Int.emod_eq_zero_of_dvd ⟨t, this⟩
  · intro h
    obtain ⟨t, ht⟩ := Int.dvd_of_emod_eq_zero h
    exact Int.emod_eq_zero_of_dvd ⟨t, by rw [ht, Int.mul_assoc, Int.mul_assoc, Int.mul_comm w t]⟩
def subOk (m : Int) : Bool := (List.range m.toNat).all fun n => !decide (m % ((n : Int) + 1) = 0) || (primesF ((n : Int) + 1)).isSublist (primesF m)
theorem subs_ok : (List.range 60).all (fun i => subOk ((i : Int) + 1)) = true := by decide +kernel
theorem pr_sub {n m : Int} (h1 : 1 ≤ n) (h2 : n ≤ m) (h3 : m ≤ 60) (h : m % n = 0) : (primesF n).Sublist (primesF m) := by
  have q := List.all_eq_true.mp subs_ok (m - 1).toNat (List.mem_range.mpr (by omega))
  rw [show (((m - 1).toNat : Nat) : Int) + 1 = m by omega] at q
  have q2 := List.all_eq_true.mp q (n - 1).toNat (List.mem_range.mpr (by omega))
  rw [show (((n - 1).toNat : Nat) : Int) + 1 = n by omega, h] at q2
  simpa using q2
theorem shift_wide {n w : Int} (h1 : 1 ≤ n) (hw : 1 ≤ w) (h2 : n * w ≤ 60) (g : Int → Int) (_ : Per (n * w) g) (h : ∀ j, difS ((primesF n).map fun p => n / p * w) g j = 0) : ∀ j, dif (n * w) (primesF (n * w)) g j = 0 := by
  have hn : n ≤ n * w := by
    have := Int.mul_le_mul_of_nonneg_left hw (show 0 ≤ n by omega)
    omega
  have e : ((primesF n).map fun p => n / p * w) = (primesF n).map fun p => n * w / p := List.map_congr_left fun p hp => by
    have hd := pr_dvd h1 (by omega) hp
    obtain ⟨q, hq⟩ := Int.dvd_of_emod_eq_zero hd.2
    rw [hq, Int.mul_ediv_cancel_left _ (by omega), Int.mul_assoc, Int.mul_ediv_cancel_left _ (by omega)]
  rw [e] at h
  intro j
  rw [dif_difS]
  exact difS_more ((pr_sub h1 hn h2 (Int.emod_eq_zero_of_dvd ⟨w, rfl⟩)).map _) h j
/-! ### the deeds -/
/-- the number and the sum that the law keeps -/
structure Wst (m : Int) (x : Nat) (f cs : List Int) : Prop where
  m1 : 1 ≤ m
  m2 : m ≤ 60
  fl : f.length = degF m
  cl : (cs.length : Int) = m
  sm : SameN m (cyc m 0 f) (cyc m 0 cs)
  x0 : 200 ≤ x
  bd : Bd x f
theorem Wst.up {m : Int} {x y : Nat} {f cs : List Int} (h : Wst m x f cs) (l : x ≤ y) : Wst m y f cs := ⟨h.m1, h.m2, h.fl, h.cl, h.sm, Nat.le_trans h.x0 l, h.bd.mono l⟩
theorem deg_le {m : Int} (h1 : 1 ≤ m) (h2 : m ≤ 60) : 1 ≤ degF m ∧ (degF m : Int) ≤ m ∧ degF m ≤ 60 := by
  have r := ringF h1 h2
  have := r.deg; have := r.len; have := r.le
  omega
theorem lowF_deg {m : Int} (h1 : 1 ≤ m) (h2 : m ≤ 60) (cs : List Int) : (lowF m cs).length = degF m := by
  have := lowF_len h1 h2 cs
  have := (ringF h1 h2).deg
  omega
theorem same_of {m : Int} {f g h k : Int → Int} (s : SameN m f g) (e1 : ∀ j, h j = f j) (e2 : ∀ j, k j = g j) : SameN m h k := by
  rw [show h = f from funext e1, show k = g from funext e2]; exact s
theorem low_put {m' a b : Int} {f : List Int} (h1 : 1 ≤ m') (h2 : m' ≤ 60) (X : List Int) (e : ∀ j, cyc m' 0 X j = cyp m' a b 0 f j) : SameN m' (cyc m' 0 (lowF m' X)) (cyp m' a b 0 f) :=
  (lowF_same h1 h2 X).trans (by rw [show cyc m' 0 X = cyp m' a b 0 f from funext e]; exact SameN.refl _)
theorem wst_put {m m' a b : Int} {x : Nat} {f cs X : List Int} (h : Wst m x f cs) (h1 : 1 ≤ m') (h2 : m' ≤ 60) (hc : Stc m a m') (hs : ∀ g : Int → Int, Per m' g → (∀ j, difS ((primesF m).map fun p => m / p * a) g j = 0) → ∀ j, dif m' (primesF m') g j = 0)
    (e : ∀ j, cyc m' 0 X j = cyp m' a b 0 f j) (hX : Bd (x + 10) X) (hl : X.length < 2 ^ 8) : Wst m' (x + 150) (lowF m' X) (putL m' a b cs) where
  m1 := h1
  m2 := h2
  fl := lowF_deg h1 h2 X
  cl := by rw [putL_len]; omega
  sm := ((low_put h1 h2 X e).trans (same_put hc hs h.sm)).trans (by rw [show cyc m' 0 (putL m' a b cs) = cyp m' a b 0 cs from funext (cyc_put h1 cs)]; exact SameN.refl _)
  x0 := by have := h.x0; omega
  bd := (lowF_bd h1 h2 hX hl).mono (by omega)
theorem wst_turned {m k : Int} {x : Nat} {f cs : List Int} (h : Wst m x f cs) : Wst m (x + 150) (lowF m (putL m 1 k f)) (putL m 1 k cs) :=
  wst_put h h.m1 h.m2 stc_one shift_one (cyc_put h.m1 f) ((putL_bd (k := 6) h.bd (by have := h.fl; have := deg_le h.m1 h.m2; omega)).mono (by omega)) (by rw [putL_len]; have := h.m2; omega)
theorem wst_moved {m a : Int} {x : Nat} {f cs : List Int} (h : Wst m x f cs) (ha : apartB m a = true) : Wst m (x + 150) (lowF m (putL m a 0 f)) (putL m a 0 cs) :=
  wst_put h h.m1 h.m2 (stc_move h.m1 h.m2 ha) (shift_move h.m1 h.m2 ha) (cyc_put h.m1 f) ((putL_bd (k := 6) h.bd (by have := h.fl; have := deg_le h.m1 h.m2; omega)).mono (by omega)) (by rw [putL_len]; have := h.m2; omega)
theorem apart_back {m : Int} (h1 : 1 ≤ m) (h2 : m ≤ 60) : apartB m (-1) = true := by
  unfold apartB
  rw [List.all_eq_true]
  intro p hp
  have := (pr_dvd h1 h2 hp).1
  have h3 : (-1 : Int) % p = p - 1 := by
    rw [Int.emod_def, show (-1 : Int) / p = -1 by
      rw [Int.ediv_eq_iff_of_pos (by omega)] <;> omega]
    omega
  rw [h3]
  simp
  omega
theorem strF_bd {n : Nat} {xs : List Int} {w : Int} (h : Bd n xs) : Bd n (stretchF xs w) := strN_bdd h _
theorem wst_wider {m w : Int} {x : Nat} {f cs : List Int} (h : Wst m x f cs) (hw : 1 ≤ w) (hm : m * w ≤ 60) (hw4 : w ≤ 4) : Wst (m * w) (x + 150) (lowF (m * w) (stretchF f w)) (putL (m * w) w 0 cs) := by
  have hn : m ≤ m * w := by
    have := Int.mul_le_mul_of_nonneg_left hw (show 0 ≤ m by have := h.m1; omega)
    omega
  refine wst_put h (by have := h.m1; omega) hm (stc_wide hw) (shift_wide h.m1 hw hm) (cyc_stretch hw) ((strF_bd h.bd).mono (by omega)) ?_
  rw [stretch_len]
  have := h.fl; have := deg_le h.m1 h.m2
  have : w.toNat * (f.length - 1) ≤ 4 * 59 := Nat.mul_le_mul (by omega) (by omega)
  omega
/-! sums and products -/
theorem cyc_zip {m : Int} : ∀ (xs ys : List Int) (o j : Int), xs.length = ys.length → cyc m o (List.zipWith (fun x y => x + y) xs ys) j = cyc m o xs j + cyc m o ys j
  | [], [], _, _, _ => rfl
  | x :: xs, y :: ys, o, j, h => by
    show (if (o - j) % m = 0 then x + y else 0) + cyc m (o + 1) (List.zipWith _ xs ys) j = (if (o - j) % m = 0 then x else 0) + cyc m (o + 1) xs j + ((if (o - j) % m = 0 then y else 0) + cyc m (o + 1) ys j)
    rw [cyc_zip xs ys (o + 1) j (by simpa using h)]
    split <;> omega
/-- entry by entry put to it -/
def adF (cs ts : List Int) : Nat → List Int
  | 0 => cs
  | i + 1 => (adF cs ts i).set i (gt (adF cs ts i) (i : Int) + gt ts (i : Int))
theorem adF_len {cs ts : List Int} : ∀ i, (adF cs ts i).length = cs.length
  | 0 => rfl
  | i + 1 => by show ((adF cs ts i).set _ _).length = _; rw [List.length_set, adF_len i]
theorem cyc_adF {m : Int} {cs ts : List Int} (j : Int) : ∀ i, i ≤ cs.length → i ≤ ts.length → cyc m 0 (adF cs ts i) j = cyc m 0 cs j + cyc m 0 (ts.take i) j
  | 0, _, _ => by simp [adF, cyc]
  | i + 1, h1, h2 => by
    show cyc m 0 ((adF cs ts i).set i _) j = _
    rw [cyc_set _ _ _ _ _ (by rw [adF_len]; omega), cyc_adF j i (by omega) (by omega), take_snoc' (by omega : i < ts.length), cyc_append, cyc_one, List.length_take, show (0 : Int) + ((min i ts.length : Nat) : Int) = (i : Int) by omega]
    rw [show (0 : Int) + (i : Int) - j = (i : Int) - j by omega]
    split <;> omega
theorem cyc_scale {m c : Int} : ∀ (xs : List Int) (o j : Int), cyc m o (xs.map fun y => c * y) j = c * cyc m o xs j
  | [], _, _ => by simp [cyc]
  | x :: xs, o, j => by
    show (if (o - j) % m = 0 then c * x else 0) + cyc m (o + 1) (xs.map _) j = c * ((if (o - j) % m = 0 then x else 0) + cyc m (o + 1) xs j)
    rw [cyc_scale xs (o + 1) j, Int.mul_add]
    split
    · rfl
    · rw [Int.mul_zero]
theorem wst_plus {m : Int} {x : Nat} {f cs some : List Int} (h : Wst m x f cs) (hl : some.length = f.length) (hb : Bd 200 some) : Wst m (x + 150) (List.zipWith (fun x y => x + y) f some) (adF cs some some.length) where
  m1 := h.m1
  m2 := h.m2
  fl := by rw [List.length_zipWith, hl, Nat.min_self]; exact h.fl
  cl := by rw [adF_len]; exact h.cl
  sm := fun j => by
    have d := deg_le h.m1 h.m2
    have h1 := h.fl
    have h2 := h.cl
    rw [dif_congr (g := fun i => cyc m 0 f i - (-1) * cyc m 0 some i) fun i => by rw [cyc_zip _ _ _ _ hl.symm]; omega, dif_lin]
    rw [dif_congr (f := cyc m 0 (adF cs some some.length)) (g := fun i => cyc m 0 cs i - (-1) * cyc m 0 some i) fun i => by rw [cyc_adF i _ (by omega) (Nat.le_refl _), List.take_length]; omega, dif_lin, h.sm j]
  x0 := by have := h.x0; omega
  bd := fun z hz => by
    obtain ⟨i, hi⟩ := List.mem_iff_getElem?.mp hz
    rw [List.getElem?_zipWith] at hi
    cases e1 : f[i]? with
    | none => rw [e1] at hi; cases hi
    | some a =>
      cases e2 : some[i]? with
      | none => rw [e1, e2] at hi; cases hi
      | some b =>
        rw [e1, e2] at hi
        have e : a + b = z := by simpa using hi
        have q1 := (h.bd.mono (show x ≤ x + 149 by omega)) a (List.mem_of_getElem? e1)
        have q2 := (hb.mono (show 200 ≤ x + 149 by have := h.x0; omega)) b (List.mem_of_getElem? e2)
        rw [← e, Nat.pow_succ]
        omega
theorem conv_set {m : Int} : ∀ (xs : List Int) (o p : Int) (i : Nat) (v : Int) (ys : List Int) (j : Int), i < xs.length → conv m o p (xs.set i v) ys j = conv m o p xs ys j + (v - gt xs (i : Int)) * cyc m (o + i + p) ys j
  | [], _, _, _, _, _, _, h => by simp at h
  | x :: xs, o, p, 0, v, ys, j, _ => by
    show v * cyc m (o + p) ys j + _ = x * cyc m (o + p) ys j + _ + (v - x) * cyc m (o + 0 + p) ys j
    rw [Int.add_zero, Int.sub_mul]
    omega
  | x :: xs, o, p, i + 1, v, ys, j, h => by
    show x * cyc m (o + p) ys j + conv m (o + 1) p (xs.set i v) ys j = x * cyc m (o + p) ys j + conv m (o + 1) p xs ys j + (v - gt xs (i : Int)) * cyc m (o + ((i + 1 : Nat) : Int) + p) ys j
    rw [conv_set xs (o + 1) p i v ys j (by simpa using h), show o + 1 + (i : Int) + p = o + ((i + 1 : Nat) : Int) + p by omega]
    omega
theorem same_conv {m : Int} {f cs : List Int} (h : SameN m (cyc m 0 f) (cyc m 0 cs)) : ∀ (ys : List Int) (o : Int), SameN m (conv m o 0 ys f) (conv m o 0 ys cs)
  | [], o => SameN.refl _
  | y :: ys, o => fun j => by
    have e : ∀ zs : List Int, dif m (primesF m) (conv m o 0 (y :: ys) zs) j = dif m (primesF m) (conv m (o + 1) 0 ys zs) j - (-y) * dif m (primesF m) (cyc m 0 zs) (j - o) := fun zs => by
      rw [← dif_turn, ← dif_lin]
      exact dif_congr (fun i => by
        show y * cyc m (o + 0) zs i + _ = _
        rw [show o + 0 = 0 + o by omega, cyc_shift, Int.neg_mul]
        omega) j
    rw [e, e, same_conv h ys (o + 1) j, h]
/-- one spoke and so many times another -/
def twoF (d : Nat) (i c : Int) : List Int := let z := (List.replicate d (0 : Int)).set 0 1; z.set i.toNat (gt z i + c)
theorem twoF_len {d : Nat} {i c : Int} : (twoF d i c).length = d := by simp [twoF]
theorem conv_two {m : Int} {d : Nat} {i c : Int} (h1 : 1 ≤ d) (h0 : 0 ≤ i) (hi : i < d) (ys : List Int) (j : Int) : conv m 0 0 (twoF d i c) ys j = cyc m 0 ys j + c * cyc m i ys j := by
  unfold twoF
  simp only []
  rw [conv_set _ _ _ _ _ _ _ (by rw [List.length_set, List.length_replicate]; omega), conv_set _ _ _ _ _ _ _ (by rw [List.length_replicate]; omega), conv_zeros]
  rw [show ((i.toNat : Nat) : Int) = i by omega]
  have : gt (List.replicate d (0 : Int)) ((0 : Nat) : Int) = 0 := by
    unfold gt
    cases d with
    | zero => omega
    | succ d => rfl
  rw [this]
  simp only [Int.zero_add, Int.add_zero, Int.sub_zero, Int.one_mul, Int.natCast_zero]
  rw [show gt ((List.replicate d (0 : Int)).set 0 1) i + c - gt ((List.replicate d (0 : Int)).set 0 1) i = c by omega]
theorem twoF_bd {d : Nat} {i c : Int} (hc : c.natAbs < 15) : Bd 4 (twoF d i c) := fun x hx => by
  unfold twoF at hx
  simp only [] at hx
  have hz : ∀ y ∈ (List.replicate d (0 : Int)).set 0 1, y.natAbs ≤ 1 := fun y hy => by
    rcases List.mem_or_eq_of_mem_set hy with q | q
    · rw [List.eq_of_mem_replicate q]; decide
    · rw [q]; decide
  rcases List.mem_or_eq_of_mem_set hx with q | q
  · have := hz x q
    omega
  · have : (gt ((List.replicate d (0 : Int)).set 0 1) i).natAbs ≤ 1 := by
      unfold gt
      rw [List.getD_eq_getElem?_getD]
      cases e : ((List.replicate d (0 : Int)).set 0 1)[i.toNat]? with
      | none => decide
      | some y => exact hz y (List.mem_of_getElem? e)
    rw [q]
    omega
theorem cyp_turn {m b : Int} : ∀ (xs : List Int) (o j : Int), cyp m 1 b o xs j = cyc m (o + b) xs j
  | [], _, _ => rfl
  | x :: xs, o, j => by
    show (if (o * 1 + b - j) % m = 0 then x else 0) + _ = (if (o + b - j) % m = 0 then x else 0) + _
    rw [cyp_turn xs (o + 1) j, Int.mul_one, show o + 1 + b = o + b + 1 by omega]
theorem conv_per {m : Int} : ∀ (xs : List Int) (o p : Int) (ys : List Int) (j k : Int), conv m o p xs ys (j + m * k) = conv m o p xs ys j
  | [], _, _, _, _, _ => rfl
  | x :: xs, o, p, ys, j, k => by
    show x * cyc m (o + p) ys (j + m * k) + conv m (o + 1) p xs ys (j + m * k) = _
    rw [conv_per xs (o + 1) p ys j k, cyc_per]
    rfl
theorem wst_times {m i c : Int} {x : Nat} {f cs : List Int} (h : Wst m x f cs) (h0 : 0 ≤ i) (hi : i < f.length) (hc : c.natAbs < 15) :
    Wst m (x + 150) (lowF m (prodL m f (twoF f.length i c))) (adF cs ((putL m 1 i cs).map fun y => c * y) m.toNat) where
  m1 := h.m1
  m2 := h.m2
  fl := lowF_deg h.m1 h.m2 _
  cl := by rw [adF_len]; exact h.cl
  sm := by
    have d := deg_le h.m1 h.m2
    have h1 := h.fl
    have h2 := h.cl
    refine (lowF_same h.m1 h.m2 _).trans ?_
    rw [prodL_comm]
    refine same_of (same_conv h.sm (twoF f.length i c) 0) (fun j => ?_) fun j => ?_
    · unfold prodL
      exact cyc_map (fun a k => conv_per _ 0 0 _ a k) h.m1 j
    · rw [cyc_adF j _ (by omega) (by rw [List.length_map, putL_len]; omega), List.take_of_length_le (by rw [List.length_map, putL_len]; omega), cyc_scale, cyc_put h.m1, cyp_turn, conv_two (by omega) h0 hi, Int.zero_add]
  x0 := by have := h.x0; omega
  bd := by
    have d := deg_le h.m1 h.m2
    have h1 := h.fl
    refine (lowF_bd (k := 6) h.m1 h.m2 (prodL_bd (k := 6) (l := 6) h.bd (twoF_bd hc) (by omega) (by rw [twoF_len]; omega)) (by rw [prodL_len]; have := h.m2; omega)).mono (by omega)
end TB

/-! ### l_entries -/
namespace TB
open PySem L2
--use TbWk
def T_l_entries : Tm := tm2 fun (n size : Int) ok _ => 0 ≤ size ∧ size ≤ 60 ∧ ∀ es : List Int, (es.length : Int) = size → Bd 200 es → ok (.ol es)
theorem ent_bd {e : Int} (h0 : 0 ≤ e) (h1 : e < 10 ^ 50) : e.natAbs < 2 ^ 200 := by
  have h2 : (10 : Int) ^ 50 < 2 ^ 200 := by decide
  generalize (10 : Int) ^ 50 = a at h1 h2
  have h3 : ((2 ^ 200 : Nat) : Int) = 2 ^ 200 := by decide
  generalize (2 : Nat) ^ 200 = b at h3 ⊢
  generalize (2 : Int) ^ 200 = d at h2 h3
  omega
def t_l_entries (Z : Zz) (X : WX) : TS :=
  (tSeq (tAsg (tLst tNil) (gName 2))
  (tSeq (tFor (iRng1 (tCons (tVar 1) tNil)) (gName 3)
  (tSeq (tAsg (tOp gMod (tOp gMul (tVar 0) (tOp gAdd (tC (.int 1)) (tOp gMul (tVar 3) (tVar 3)))) (tOp gPow (tC (.int 10)) (tC (.int 50)))) (gName 4))
  (tDrop (tBM Z.K "list" rAppend (tVar 2) (tCons (tOp (gIx Z.K) (tLst (tCons (tVar 4) (tCons (tOp gMns (tC (.int 0)) (tVar 4)) (tCons (tC (.int 0)) tNil)))) (tOp gMod (tOp gAdd (tVar 0) (tVar 3)) (tC (.int 3)))) tNil)))))
  (tRet (tVar 2))))
theorem w_l_entries (Z : Zz) (X : WX) (ss : List Sl) (ok : Sl → Prop) (er : Rf → Prop) (h : T_l_entries ss ok er) : WF Z X er (ss ++ List.replicate (5 - ss.length) .un) (t_l_entries Z X) ok := by
  obtain ⟨n, size, rfl, h0, h1, k⟩ := h
  show W _ [.im n, .im size, .un, .un, .un] _ _
  unfold t_l_entries
  refine w_seq (w_asg (s := .ol ([] : List Int)) (ev_nil (δ := Int)) ?_)
  walk_at "nz"
  refine w_seq (w_forR (n := size) (fun i G => ∃ s3 s4 es, G = [.im n, .im size, .ol es, s3, s4] ∧ es.length = i ∧ Bd 200 es) (ev_var rfl) (by omega) (by omega) ⟨_, _, [], rfl, rfl, fun x hx => by simp at hx⟩ ?_ ?_)
  · rintro i G hi ⟨s3, s4, es, rfl, hl, hb⟩
    walk_at "nz"
    have hk2 : (i : Int) * i ≤ 60 * 60 := Int.mul_le_mul (by omega) (by omega) (by omega) (by decide)
    have hk3 : 0 ≤ (i : Int) * i := Int.mul_nonneg (by omega) (by omega)
    refine w_seq (w_asg (s := .im (n * (1 + (i : Int) * i) % 10 ^ 50)) (ev_to (ev_mod (ev_mulS (ev_var rfl) (ev_add ev_int (ev_mul (ev_var rfl) (ev_var rfl) (cmulS (by omega) (by omega) (by omega) (by omega)))) (.inr ⟨by omega, by omega⟩)) (ev_pow ev_int ev_int ⟨by decide, by decide, by decide⟩) (by decide)) rfl) ?_)
    walk_at "nz"
    have e0 : 0 ≤ n * (1 + (i : Int) * i) % 10 ^ 50 := Int.emod_nonneg _ (by decide)
    have e1 : n * (1 + (i : Int) * i) % 10 ^ 50 < 10 ^ 50 := Int.emod_lt_of_pos _ (by decide)
    have eb := ent_bd e0 e1
    generalize n * (1 + (i : Int) * i) % 10 ^ 50 = e at eb
    have r0 : 0 ≤ (n + (i : Int)) % 3 := Int.emod_nonneg _ (by decide)
    have r1 : (n + (i : Int)) % 3 < 3 := Int.emod_lt_of_pos _ (by decide)
    refine w_app (xs := es) (y := gt [e, 0 - e, 0] ((n + (i : Int)) % 3)) rfl (ev_ix (ev_frI (ev_lst [e, 0 - e, 0] (ea_cons (ev_var rfl) (ea_cons (ev_sub ev_int (ev_var rfl)) (ea_cons ev_int ea_nil))) (by simp))) (ev_mod (ev_add (ev_var rfl) (ev_var rfl)) ev_int (by decide)) r0 (by simp; omega)) (by omega) ⟨.im (i : Int), .im e, es ++ [gt [e, 0 - e, 0] ((n + (i : Int)) % 3)], ?_, by simp [hl], ?_⟩
    · walk_at "nz"
    · intro y hy
      rcases List.mem_append.mp hy with q | q
      · exact hb y q
      · have : y = gt [e, 0 - e, 0] ((n + (i : Int)) % 3) := by simpa using q
        rw [this]
        refine gt_bd (n := 200) (fun z hz => ?_) _
        have : z = e ∨ z = 0 - e ∨ z = 0 := by simpa using hz
        generalize (2 : Nat) ^ 200 = b at eb ⊢
        omega
  · rintro G ⟨s3, s4, es, rfl, hl, hb⟩
    exact w_retO val_ol rfl (k es (by omega) hb)
end TB

/-! ### l_put -/
namespace TB
open PySem L2
--use TbWq
def T_l_put : Tm := tm4 fun (xs : List Int) (a b m : Int) ok _ => 1 ≤ m ∧ m ≤ 60 ∧ xs.length < 100000 ∧ ok (.ol (putL m a b xs))
def t_l_put (Z : Zz) (X : WX) : TS :=
  (tSeq (tAsg (tOp gMul (tLst (tCons (tC (.int 0)) tNil)) (tVar 3)) (gName 4))
  (tSeq (tFor (iRng1 (tCons (tCB (gLen Z.K) (tCons (tVar 0) tNil)) tNil)) (gName 5)
  (tSeq (tAsg (tOp gMod (tOp gAdd (tOp gMul (tVar 5) (tVar 1)) (tVar 2)) (tVar 3)) (gName 6))
  (tAsg (tOp gAdd (tOp (gIx Z.K) (tVar 4) (tVar 6)) (tOp (gIx Z.K) (tVar 0) (tVar 5))) (gSub (tVar 4) (tVar 6) gSet))))
  (tRet (tVar 4))))
theorem w_l_put (Z : Zz) (X : WX) (ss : List Sl) (ok : Sl → Prop) (er : Rf → Prop) (h : T_l_put ss ok er) : WF Z X er (ss ++ List.replicate (7 - ss.length) .un) (t_l_put Z X) ok := by
  obtain ⟨cs, a, b, m, rfl, h1, h2, hl, k⟩ := h
  show W _ [.im cs, .im a, .im b, .im m, .un, .un, .un] _ _
  unfold t_l_put
  refine w_seq (w_asg (s := .ol (putL m a b (cs.take 0))) (ev_is (ev_zeros (ev_var rfl) (by omega) (by omega)) (by rw [put_nil])) ?_)
  walk_at "nz"
  refine w_seq (w_forR (n := (cs.length : Int)) (fun i G => ∃ s3 s4, G = [.im cs, .im a, .im b, .im m, .ol (putL m a b (cs.take i)), s3, s4]) (ev_len (ev_var rfl)) (by omega) (by omega) ⟨_, _, rfl⟩ ?_ ?_)
  · rintro i G hi ⟨s3, s4, rfl⟩
    walk_at "nz"
    have e0 := Int.emod_nonneg ((i : Int) * a + b) (show m ≠ 0 by omega)
    have e1 := Int.emod_lt_of_pos ((i : Int) * a + b) (show 0 < m by omega)
    refine w_seq (w_asg (ev_mod (ev_add (ev_mulS (ev_var rfl) (ev_var rfl) (.inl ⟨by omega, by omega⟩)) (ev_var rfl)) (ev_var rfl) (by omega)) ?_)
    walk_at "nz"
    refine w_putG (xs := putL m a b (cs.take i)) rfl (ev_add (ev_ixO rfl (ev_var rfl) e0 (by rw [putL_len]; omega)) (ev_ix (ev_var rfl) (ev_var rfl) (by omega) hi)) (ev_var rfl) e0 (by rw [putL_len]; omega) ⟨.im (i : Int), .im (((i : Int) * a + b) % m), ?_⟩
    walk_at "nz"
    rw [put_snoc h1 (by omega)]
  · rintro G ⟨s3, s4, rfl⟩
    rw [show ((cs.length : Int)).toNat = cs.length by omega, List.take_length]
    exact w_retO val_ol rfl k
end TB

/-! TbTry: try with clauses, some of them with a name; what is caught may be kept. -/
namespace TB
open PySem PySem.Spec PyProof.Rows L2
/-- a caught exception that is kept at a -/
def XT (cls : Value) (d : Option Addr) (a : Addr) : HO := .ext fun h => ∃ (oe : Obj) (vs : Array Value), h.get? a = some oe ∧ Zc cls d oe ∧ oe.data = .fields vs
section
variable {X : Cx} {pins : List (Addr × Obj)} {σ : L2.St} {H : Hp} {s : Shared}
theorem inv_track {a : Addr} {oe : Obj} {vs : Array Value} {cls : Value} {d : Option Addr} (I : Inv X pins σ H s) (hx : X.ex = []) (n0 : X.s_0.heap.get? a = none) (ha : s.heap.get? a = some oe) (na : H a = none) (nl : a ≠ X.env.locals)
    (nc : ∀ v, oe.data ≠ .cell v) (np : ∀ p ∈ X.pn ++ pins, p.1 ≠ a) (hz : Zc cls d oe) (hd : oe.data = .fields vs) : Inv X pins σ (upd H a (XT cls d a)) s := by
  have ex : ∀ b : Addr, b ∉ X.ex := fun b hb => by rw [hx] at hb; cases hb
  have ne0 : ∀ b o, X.s_0.heap.get? b = some o → b ≠ a := fun b o e z => by rw [z, n0] at e; cases e
  have neH : ∀ b o, H b = some o → b ≠ a := fun b o e z => by rw [z, na] at e; cases e
  have neC : ∀ x c, X.env.cells.lookup x = some c → c ≠ a := fun x c e z => by
    obtain ⟨v, o, ho, hv⟩ := I.cell x c e
    rw [z, ha] at ho
    cases ho
    exact nc _ hv
  refine { ok := I.ok, os := I.os, bare := I.bare, base := ?_, loc := I.loc, cell := I.cell, free := ?_, freeC := ?_, pin := ?_, hok := ?_, len := I.len }
  · refine { keep := I.base.keep, slot := I.base.slot, free := fun b o e n q => ?_, there := I.base.there, tups := fun b xs q => ?_, frzs := fun b o u q => ?_, tbls := fun b ps q => ?_ }
    · rw [upd_ne (ne0 b o e)]; exact I.base.free b o e n q
    · have z := I.base.tups b xs q
      rw [upd_ne (neH b _ z)]; exact z
    · have z := I.base.frzs b o u q
      rw [upd_ne (neH b _ z)]; exact z
    · obtain ⟨m, z⟩ := I.base.tbls b ps q
      exact ⟨m, by rw [upd_ne (neH b _ z)]; exact z⟩
  · rw [upd_ne (Ne.symm nl)]; exact I.free
  · intro x c e
    rw [upd_ne (neC x c e)]
    exact I.freeC x c e
  · intro p hp
    obtain ⟨p1, p2, p3, p4, p5⟩ := I.pin p hp
    exact ⟨p1, by rw [upd_ne (np p hp)]; exact p2, p3, p4, p5⟩
  · intro b u e
    by_cases c : b = a
    · subst c
      rw [upd_same] at e
      cases e
      exact ⟨⟨oe, vs, ha, hz, hd⟩, ⟨oe, ha⟩, fun h1 h2 ⟨o, v, q, r⟩ k => ⟨o, v, k o q, r⟩⟩
    · rw [upd_ne c] at e
      refine (I.hok b u e).stay (fun c v _ q => q) (fun c q => ?_) fun c xs q => ?_
      · rw [upd_ne (neH c _ q)]; exact q
      · rw [upd_ne (neH c _ q)]; exact q
end
/-- how a suite ends: what was caught is kept, its name gone -/
def sEnd (D : Ends) (a : Addr) (cls : Value) (d : Option Addr) (cl : L2.St → L2.St) : Ends where
  nx := fun σ H => H a = none → D.nx (cl σ) (upd H a (XT cls d a))
  rt := fun v H => H a = none → D.rt v (upd H a (XT cls d a))
  bk := fun σ H => H a = none → D.bk (cl σ) (upd H a (XT cls d a))
  ct := fun σ H => H a = none → D.ct (cl σ) (upd H a (XT cls d a))
abbrev Hdl := Value × Option Nat × (Addr → Value → Option Addr → TS)
def clrO : Option Nat → L2.St → L2.St
  | none, σ => σ
  | some i, σ => σ.set i none
def putO : Option Nat → Addr → L2.St → L2.St
  | none, _, σ => σ
  | some i, a, σ => σ.set i (some (.ref a))
/-- what the clauses wish of an exception of the body -/
def wTry (K : PySem.W.Frag) (Wout : WX) (D : Ends) : List Hdl → WX
  | [] => Wout
  | (c, o, ts) :: r => fun cls d σ H => ∃ b, PySem.W.exmOne K cls c = some b ∧ (b = true → ∀ a, H a = none → ts a cls d (sEnd D a cls d (clrO o)) (putO o a σ) H) ∧ (b = false → wTry K Wout D r cls d σ H)
inductive HdlOk (X : Cx) : List ExceptHandler → List Hdl → Prop
  | nil : HdlOk X [] []
  | plain {x : Str} {c : Value} {ts : Addr → Value → Option Addr → TS} {b₀ : Stmt} {suite : List Stmt} {np pos' : Pos} {hds : List ExceptHandler} {l : List Hdl} (hc : Names X x c)
      (hsu : ∀ (a : Addr) (oe : Obj) (cls : Value) (d : Option Addr) (pn : List (Addr × Obj)), Zc cls d oe → (∃ vs, oe.data = .fields vs) → PSs (X.suite a ((a, oe) :: pn)) (b₀ :: suite) (ts a cls d)) (r : HdlOk X hds l) :
      HdlOk X (.ExceptHandler (some (.Name x np)) none (b₀ :: suite) pos' :: hds) ((c, none, ts) :: l)
  | named {x n : Str} {i : Nat} {c : Value} {ts : Addr → Value → Option Addr → TS} {b₀ : Stmt} {suite : List Stmt} {np pos' : Pos} {hds : List ExceptHandler} {l : List Hdl} (hi : X.N[i]? = some n) (hln : X.env.kindOf n = some .local) (hc : Names X x c)
      (hsu : ∀ (a : Addr) (oe : Obj) (cls : Value) (d : Option Addr) (pn : List (Addr × Obj)), Zc cls d oe → (∃ vs, oe.data = .fields vs) → PSs (X.suite a ((a, oe) :: pn)) (b₀ :: suite) (ts a cls d)) (r : HdlOk X hds l) :
      HdlOk X (.ExceptHandler (some (.Name x np)) (some n) (b₀ :: suite) pos' :: hds) ((c, some i, ts) :: l)
def tTry (K : PySem.W.Frag) (l : List Hdl) (Wout : WX) (tb : WX → TS) : TS := fun D σ H => tb (wTry K Wout D l) D σ H
theorem sky_new {B h : Heap} {l : List Env} {a L : Addr} {Z : Obj → Prop} (x : Sky B l a Z L h) : B.get? a = none := by
  rcases x with x | x | x
  · exact x.2.1
  · exact x.2.1
  · exact x.2.1
section
variable {X : Cx} {body : List Stmt} {h₀ : ExceptHandler} {hds : List ExceptHandler} {l : List Hdl} {pos : Pos} {tb : WX → TS} {Wout : WX}
theorem ps_try (hs : X.stack = X.env :: X.outer) (hf : X.env.frame = some X.env.locals) (hx : X.ex = []) (hN : X.N.Nodup) (tk : Takes X Wout)
    (hb : ∀ (W : WX) (pn : List (Addr × Obj)) (xe : Value → Shared → Prop), Takes (X.tr pn xe) W → PassesOwn (model X.prog X.w) X.A X.env xe → PSs (X.tr pn xe) body (tb W))
    (hh : HdlOk X (h₀ :: hds) l) : PS X (.Try body (h₀ :: hds) [] [] pos) (tTry X.K l Wout tb) := by
  refine ⟨fun pins s σ H D I h => ?_⟩
  have ok := I.ok
  have hfr : X.A.frames = some (X.env :: X.outer) := by rw [ok.frames, hs]
  refine wpAny_Try_except (wpAny_mono ((hb (wTry X.K Wout D l) (X.pn ++ pins) (fun e s₁ => wpAny (model X.prog X.w) X.A (noteFrame e X.env) (fun _ s₂ => wpAny (model X.prog X.w) X.A (setFlight e none) (fun _ s₃ => wpAny (model X.prog X.w) X.A (handleBy e X.env (h₀ :: hds)) (SP X pins D) X.xe s₃) X.xe s₂) X.xe s₁) (fun u s' xx => ?_) PassesOwn.looking).run [] s σ H D (I.toTry _) h) (fun f s1 hsp => ?_) (fun e s1 he => he))
  · obtain ⟨a, B, sI, pins', σ', H', cls, d, rfl, J', nb, up, sky, na, os, ag, w⟩ := xx
    have J : Inv X pins σ' H' sI := J'.ofTry ok
    have Ba := sky_new sky
    have sk2 : Sky B (X.env :: X.outer) a (Zc cls d) X.env.locals s'.heap := hs ▸ sky
    show wpAny (model X.prog X.w) X.A (noteFrame (.ref a) X.env) _ _ _
    refine Sky.land Zc.steady hfr hf sk2 fun h3 fl3 up3 => ?_
    have J3 : Inv X pins σ' H' { s' with heap := h3 } := J.landed nb fl3.1 (up.trans up3) os ag
    obtain ⟨oe3, vs3, he3, hz3, hd3⟩ := fl3.there
    have nfr : a ∉ frs (X.env :: X.outer) := fun hm => by
      obtain ⟨_, o', e', hnf⟩ := fl3.2.2.1.mem hm
      rw [he3] at e'
      cases e'
      exact hnf _ hd3
    have nL : a ≠ X.env.locals := fun z => nfr (List.mem_filterMap.mpr ⟨X.env, .head _, by rw [hf, z]⟩)
    have nF : a ∉ X.fs := fun hm => by
      obtain ⟨e, he, q⟩ := List.mem_filterMap.mp hm
      exact nfr (List.mem_filterMap.mpr ⟨e, .tail _ he, q⟩)
    have n0 : X.s_0.heap.get? a = none := by
      cases q : X.s_0.heap.get? a with
      | none => rfl
      | some o =>
        obtain ⟨o', e'⟩ := J.base.there a o q (by rw [hx]; exact fun z => nomatch z)
        have z := nb a o' e' (by rw [hs]; exact nfr)
        rw [Ba] at z
        cases z
    have np : ∀ p ∈ X.pn ++ pins, p.1 ≠ a := fun p hp z => by
      obtain ⟨p1, _, p3, p4, _⟩ := J.pin p hp
      have q := nb p.1 p.2 p1 (by
        rw [hs]
        intro hm
        obtain ⟨e, he, q⟩ := List.mem_filterMap.mp hm
        rcases List.mem_cons.mp he with r | r
        · rw [r, hf] at q
          exact p3 (Option.some.inj q).symm
        · exact p4 (List.mem_filterMap.mpr ⟨e, r, q⟩))
      rw [z, Ba] at q
      cases q
    have S3 := J3.suite he3 hd3 na nL nF
    have LT : PySem.W.Looks (model X.prog X.w) h3 (typeOf (.ref a)) cls := fun A Q E s k q => wpAny_typeOf_ref (k _ _ he3) (by rw [hz3.1]; exact q)
    have test : ∀ {x : Str} {c : Value} {p : Pos} {Q E : Value → Shared → Prop}, Names X x c → Q c { s' with heap := h3 } → wpAny (model X.prog X.w) (X.A.mark (some (.ref a))) (eval (.Name x p) X.env) Q E { s' with heap := h3 } := fun {x c p Q E} hc q => by
      obtain ⟨hg, hdbg, hm | ⟨hm, hv, hnn⟩⟩ := hc
      · exact ld_glob (X := X.suite a ((a, oe3) :: (X.pn ++ pins))) S3 hg hm q hdbg
      · exact ld_blt (X := X.suite a ((a, oe3) :: (X.pn ++ pins))) S3 hg hm hv q hnn hdbg
    have kept : ∀ {oe4 : Obj} {vs4 : Array Value} {σ6 : L2.St} {H6 : Hp} {s6 : Shared}, Zc cls d oe4 → oe4.data = .fields vs4 → Inv (X.suite a ((a, oe4) :: (X.pn ++ pins))) [] σ6 H6 s6 → H6 a = none ∧ Inv X pins σ6 (upd H6 a (XT cls d a)) s6 := fun {oe4 vs4 σ6 H6 s6} hz hd S6 => by
      obtain ⟨q1, q2, q3, _, q5⟩ := S6.pin (a, oe4) (List.mem_append_left _ (.head _))
      exact ⟨q2, inv_track (S6.unsuite ok) hx n0 q1 q2 nL q5 np hz hd⟩
    have go : ∀ {hds' : List ExceptHandler} {l' : List Hdl}, HdlOk X hds' l' → wTry X.K Wout D l' cls d σ' H' → wpAny (model X.prog X.w) X.A (handleBy (.ref a) X.env hds') (SP X pins D) X.xe { s' with heap := h3 } := by
      intro hds' l' hk
      induction hk with
      | nil =>
        intro w
        obtain ⟨k1, k2, k3, oe, vs, T, oT, ts', he, hz, hd, h1, hr⟩ := id fl3
        refine wpAny_handleBy_nil ?_
        unfold PySem.passOn
        refine wpAny_bind (wpAny_field he hd h1 ?_)
        rw [if_neg (show ¬ ((Value.ref T == Value.none) = true) by simp)]
        have fin : wpAny (model X.prog X.w) X.A (setFlight (.ref a) X.env.frame) (fun _ s4 => wpAny (model X.prog X.w) X.A (throw (.ref a) : Sem Flow) (SP X pins D) X.xe s4) X.xe { s' with heap := h3 } :=
          hf ▸ HandSPX.setFlight_upZ fl3 fun h4 hh4 up4 => wpAny_throw (tk _ _ ⟨a, B, sI, pins, σ', H', cls, d, rfl, J, nb, (up.trans up3).trans up4, .inr (.inr (by rw [hs]; exact hh4)), na, os, ag, w⟩)
        first
          | exact wpAny_bind (wpAny_pure (wpAny_bind fin))
          | exact wpAny_bind fin
      | @plain x c ts b₀ suite np' pos' hds2 l2 hc hsu r ih =>
        intro w
        obtain ⟨b, hb1, hyes, hno⟩ := w
        refine wpAny_handleBy_cons (codeAny_handlers_test (test hc ((PySem.W.exm_one (M := model X.prog X.w) (J3.kIn) LT hb1).here ?_))) (by intro q; cases q)
        cases b with
        | true =>
          refine codeAny_handlers_suite (HandSPX.lands_againZ fl3 fun h4 fl4 up4 => ?_)
          have J4 : Inv X pins σ' H' { s' with heap := h4 } := J.landed nb fl4.1 ((up.trans up3).trans up4) os ag
          obtain ⟨oe4, vs4, he4, hz4, hd4⟩ := fl4.there
          refine wpAny_mono ((hsu a oe4 cls d (X.pn ++ pins) hz4 ⟨_, hd4⟩).run [] _ _ H' _ (J4.suite he4 hd4 na nL nF) (hyes rfl a na)) (fun f s6 hsp => ?_) (fun _ _ z => z.elim)
          cases f with
          | next => obtain ⟨σ6, H6, S6, q6⟩ := hsp; exact ⟨_, _, (kept hz4 hd4 S6).2, q6 (kept hz4 hd4 S6).1⟩
          | brk => obtain ⟨σ6, H6, S6, q6⟩ := hsp; exact ⟨_, _, (kept hz4 hd4 S6).2, q6 (kept hz4 hd4 S6).1⟩
          | cont => obtain ⟨σ6, H6, S6, q6⟩ := hsp; exact ⟨_, _, (kept hz4 hd4 S6).2, q6 (kept hz4 hd4 S6).1⟩
          | ret u => obtain ⟨v6, σ6, H6, S6, r6, q6⟩ := hsp; exact ⟨_, _, _, (kept hz4 hd4 S6).2, r6, q6 (kept hz4 hd4 S6).1⟩
        | false => exact ih (hno rfl)
      | @named x n i c ts b₀ suite np' pos' hds2 l2 hi hln hc hsu r ih =>
        intro w
        obtain ⟨b, hb1, hyes, hno⟩ := w
        have hloc : Loc X.env.scope n := .inl hln
        refine wpAny_handleBy_cons (codeAny_handlers_test (test hc ((PySem.W.exm_one (M := model X.prog X.w) (J3.kIn) LT hb1).here ?_))) (by intro q; cases q)
        cases b with
        | true =>
          refine codeAny_handlers_suite_as (HandSPX.lands_againZ fl3 fun h4 fl4 up4 => ?_)
          have J4 : Inv X pins σ' H' { s' with heap := h4 } := J.landed nb fl4.1 ((up.trans up3).trans up4) os ag
          obtain ⟨oe4, vs4, he4, hz4, hd4⟩ := fl4.there
          refine store_ok (X := X.suite a ((a, oe4) :: (X.pn ++ pins))) (v := .ref a) (J4.suite he4 hd4 na nL nF) hN hi hloc rfl (fun s5 S5 => ?_) (.inr hln)
          refine wpAny_mono ((hsu a oe4 cls d (X.pn ++ pins) hz4 ⟨_, hd4⟩).run [] s5 _ H' _ S5 (hyes rfl a na)) (fun f s6 hsp => ?_) (fun _ _ z => z.elim)
          cases f with
          | next => obtain ⟨σ6, H6, S6, q6⟩ := hsp; exact gone_ok (kept hz4 hd4 S6).2 hN hi hln fun s7 J7 => ⟨_, _, J7, q6 (kept hz4 hd4 S6).1⟩
          | brk => obtain ⟨σ6, H6, S6, q6⟩ := hsp; exact gone_ok (kept hz4 hd4 S6).2 hN hi hln fun s7 J7 => ⟨_, _, J7, q6 (kept hz4 hd4 S6).1⟩
          | cont => obtain ⟨σ6, H6, S6, q6⟩ := hsp; exact gone_ok (kept hz4 hd4 S6).2 hN hi hln fun s7 J7 => ⟨_, _, J7, q6 (kept hz4 hd4 S6).1⟩
          | ret u => obtain ⟨v6, σ6, H6, S6, r6, q6⟩ := hsp; exact gone_ok (kept hz4 hd4 S6).2 hN hi hln fun s7 J7 => ⟨_, _, _, J7, r6, q6 (kept hz4 hd4 S6).1⟩
        | false => exact ih (hno rfl)
    exact go hh w
  · cases f with
    | next => obtain ⟨σ', H', J', q⟩ := hsp; exact wpAny_execs_nil ⟨σ', H', J'.ofTry ok, q⟩
    | brk => obtain ⟨σ', H', J', q⟩ := hsp; exact ⟨σ', H', J'.ofTry ok, q⟩
    | cont => obtain ⟨σ', H', J', q⟩ := hsp; exact ⟨σ', H', J'.ofTry ok, q⟩
    | ret u => obtain ⟨v, σ', H', J', r, q⟩ := hsp; exact ⟨v, σ', H', J'.ofTry ok, r, q⟩
end
end TB

/-! TbEx: exceptions as data: what is caught and kept, isinstance, fields. -/
namespace TB
open PySem PySem.Spec PyProof.Rows L2
def XtOk (Z : Zz) (R : Hp) (r : Rf) (cls : Value) (d : Option Addr) : Prop := cls = .ref (Z.cls r.name) ∧ ((r.fs = [] ∧ d = none) ∨ ∃ dx, d = some dx ∧ R dx = some (.xd r.fs))
theorem XtOk.mono {Z : Zz} {R R' : Hp} {r : Rf} {cls : Value} {d : Option Addr} (e : Same R R') (h : XtOk Z R r cls d) : XtOk Z R' r cls d := by
  obtain ⟨h1, h2 | ⟨dx, h3, h4⟩⟩ := h
  · exact ⟨h1, .inl h2⟩
  · exact ⟨h1, .inr ⟨dx, h3, e _ _ h4⟩⟩
theorem RepEx.xt {Z : Zz} {B R : Hp} {r : Rf} {cls : Value} {d : Option Addr} (h : RepEx Z B R r cls d) : XtOk Z R r cls d := by
  obtain ⟨h1, h2 | ⟨_, dx, h3, _, h4⟩⟩ := h
  · exact ⟨h1, .inl h2⟩
  · exact ⟨h1, .inr ⟨dx, h3, h4⟩⟩
instance : Rp Rf := ⟨⟨.BookError, []⟩, fun Z H v r => ∃ a cls d, v = .ref a ∧ H a = some (XT cls d a) ∧ XtOk Z H r cls d, fun e h => by
  obtain ⟨a, cls, d, h1, h2, h3⟩ := h
  exact ⟨a, cls, d, h1, e _ _ h2, h3.mono e⟩⟩
/-- the exception that a suite holds -/
def ExO1 (a : Addr) (d : Option Addr) (r : Rf) : Own := ⟨fun Z R _ v => v = .ref a ∧ XtOk Z R r (.ref (Z.cls r.name)) d, fun e h => ⟨h.1, h.2.mono e⟩⟩
abbrev Sl.ex (a : Addr) (d : Option Addr) (r : Rf) : Sl := .ow (ExO1 a d r)
section
variable {Z : Zz} {B R0 R R' H H' : Hp} {ρ σ : List (Option V)} {Δ Γ : List Sl}
/-- a slot that needs no objects of its own -/
theorem sx_pushO {s : Sl} {v : V} (S : Sx Z B R0 R H ρ Δ σ Γ) (h : slok Z R H (some v) s []) : Sx Z B R0 R H (some v :: ρ) (s :: Δ) σ Γ := by
  obtain ⟨hl, own, hs, es⟩ := S
  exact ⟨by simp [hl], own, hs, [], own, rfl, h, es⟩
theorem slok_ex {a : Addr} {d : Option Addr} {r : Rf} (h : XtOk Z R r (.ref (Z.cls r.name)) d) : slok Z R H (some (.ref a)) (.ex a d r) [] := ⟨.ref a, rfl, ⟨rfl, h⟩, fun p hp => by simp at hp⟩
end
/-! ### the classes -/
def mroV (Z : Zz) (C : CN) : List Value := (if C = .BookError then [] else [.ref (Z.cls C)]) ++ [.ref (Z.cls .BookError), .type "ValueError", .type "Exception", .type "BaseException", .type "object"]
structure ExsC (Z : Zz) (C : CN) : Prop where
  mro : (PySem.W.clsIn Z.K (Z.cls C)).map (·.mro) = some (mroV Z C)
  ty : PySem.W.typeIn Z.K (.ref (Z.cls C)) = some (.type "type")
  hd : PySem.W.hasDictIn Z.K (Z.cls C) = true
  ga : PySem.W.findIn Z.K (.ref (Z.cls C)) "__getattribute__" = some (some (.builtin "BaseException.__getattribute__"))
  gg : PySem.W.findIn Z.K (.ref (Z.cls C)) "__getattr__" = some none
  ca : PySem.W.findIn Z.K (.ref (Z.cls C)) "__class__" = some (some (.builtin "object.__class__"))
def ExsL (Z : Zz) : List CN → Prop
  | [] => True
  | C :: r => ExsC Z C ∧ ExsL Z r
structure Exs (Z : Zz) (L : List CN) : Prop where
  all : ExsL Z L
  inj : (L.map Z.cls).Nodup
  base : .BookError ∈ L
  sg : PySem.W.specialIn Z.K (.builtin "object.__class__") "__get__" = some (some (.builtin "getset_descriptor.__get__"))
  tk : PySem.W.takesIn Z.K (.builtin "object.__class__") = some true
theorem ExsL.at {Z : Zz} : ∀ {L : List CN}, ExsL Z L → ∀ {C : CN}, C ∈ L → ExsC Z C
  | _ :: _, ⟨h, t⟩, C, m => by
    rcases List.mem_cons.mp m with e | e
    · rw [e]; exact h
    · exact ExsL.at t e
/-- D stands beneath C -/
def subB (D C : CN) : Bool := decide (D = C) || decide (C = .BookError)
section
variable {Z : Zz} {L : List CN} {C D : CN}
theorem nd_inj : ∀ {L : List CN} {f : CN → Addr}, (L.map f).Nodup → ∀ {C D : CN}, C ∈ L → D ∈ L → f C = f D → C = D
  | x :: r, f, h, C, D, hC, hD, e => by
    simp only [List.map_cons, List.nodup_cons] at h
    rcases List.mem_cons.mp hC with q | q <;> rcases List.mem_cons.mp hD with q' | q'
    · rw [q, q']
    · subst q
      exact absurd (e ▸ List.mem_map.mpr ⟨D, q', rfl⟩) h.1
    · subst q'
      exact absurd (e ▸ List.mem_map.mpr ⟨C, q, rfl⟩) h.1
    · exact nd_inj h.2 q q' e
theorem Exs.at (E : Exs Z L) (h : C ∈ L) : ExsC Z C := E.all.at h
theorem Exs.inj' (E : Exs Z L) (hC : C ∈ L) (hD : D ∈ L) (e : Z.cls C = Z.cls D) : C = D := nd_inj E.inj hC hD e
theorem mroV_ne : (mroV Z C).isEmpty = false := by
  unfold mroV
  cases (if C = .BookError then ([] : List Value) else [.ref (Z.cls C)]) <;> rfl
theorem Exs.subV (E : Exs Z L) (hD : D ∈ L) (b : Value) : PySem.W.subIn Z.K (.ref (Z.cls D)) b = some ((mroV Z D).contains b) := by
  have h := (E.at hD).mro
  obtain ⟨cd, h1, h2⟩ := Option.map_eq_some_iff.mp h
  show (PySem.W.clsIn Z.K (Z.cls D)).bind _ = _
  rw [h1]
  show (if cd.mro.isEmpty = true then none else some (cd.mro.contains b)) = _
  rw [h2, mroV_ne]
  rfl
theorem ref_beq {a b : Addr} : ((Value.ref a : Value) == .ref b) = decide (a = b) := by
  by_cases h : a = b
  · rw [h, decide_eq_true rfl]; exact beq_self_eq_true _
  · rw [decide_eq_false h]
    exact Bool.eq_false_iff.mpr fun q => h (Value.ref.inj (beq_iff_eq.mp q))
theorem ref_tbeq {a : Addr} {t : String} : ((Value.ref a : Value) == .type t) = false := Bool.eq_false_iff.mpr fun q => by cases beq_iff_eq.mp q
theorem type_rbeq {a : Addr} {t : String} : ((Value.type t : Value) == .ref a) = false := Bool.eq_false_iff.mpr fun q => by cases beq_iff_eq.mp q
theorem Exs.sub (E : Exs Z L) (hD : D ∈ L) (hC : C ∈ L) : PySem.W.subIn Z.K (.ref (Z.cls D)) (.ref (Z.cls C)) = some (subB D C) := by
  rw [E.subV hD]
  congr 1
  have e1 : decide (Z.cls C = Z.cls D) = decide (D = C) := decide_eq_decide.mpr ⟨fun h => (E.inj' hC hD h).symm, fun h => by rw [h]⟩
  have e2 : decide (Z.cls C = Z.cls .BookError) = decide (C = .BookError) := decide_eq_decide.mpr ⟨fun h => E.inj' hC E.base h, fun h => by rw [h]⟩
  have tail : ([.type "ValueError", .type "Exception", .type "BaseException", .type "object"] : List Value).contains (.ref (Z.cls C)) = false := by
    simp only [List.contains_cons, List.contains_nil, ref_tbeq, Bool.or_false]
  unfold mroV subB
  by_cases h : D = .BookError
  · rw [if_pos h, List.nil_append, List.contains_cons, ref_beq, e2, tail, Bool.or_false, h]
    by_cases c : C = .BookError
    · simp [c]
    · have : ¬ CN.BookError = C := fun z => c z.symm
      simp [c, this]
  · rw [if_neg h, List.cons_append, List.nil_append, List.contains_cons, List.contains_cons, ref_beq, ref_beq, e1, e2, tail, Bool.or_false]
theorem Exs.subT (E : Exs Z L) (hD : D ∈ L) {t : String} (h : t = "ValueError" ∨ t = "BaseException" ∨ t = "object") : PySem.W.subIn Z.K (.ref (Z.cls D)) (.type t) = some true := by
  rw [E.subV hD]
  congr 1
  unfold mroV
  rw [List.contains_iff_mem, List.mem_append]
  refine .inr ?_
  rcases h with rfl | rfl | rfl <;> simp
theorem Exs.clsT (E : Exs Z L) (hC : C ∈ L) : ((PySem.W.clsIn Z.K (Z.cls C)).isSome && PySem.W.typeIn Z.K (.ref (Z.cls C)) == some (.type "type")) = true := by
  obtain ⟨cd, h1, h2⟩ := Option.map_eq_some_iff.mp (E.at hC).mro
  rw [h1, (E.at hC).ty]
  rfl
theorem Exs.kit (E : Exs Z L) (hD : D ∈ L) (hC : C ∈ L) : PySem.W.kitCls Z.K (.ref (Z.cls D)) (.ref (Z.cls C)) = some (subB D C) := by
  unfold PySem.W.kitCls
  show (if _ then PySem.W.subIn _ _ _ else none) = _
  rw [if_pos (E.clsT hC)]
  exact E.sub hD hC
theorem Exs.one (E : Exs Z L) (hD : D ∈ L) (hC : C ∈ L) : PySem.W.kitOne Z.K (.ref (Z.cls D)) (.ref (Z.cls C)) = some (subB D C) := by
  unfold PySem.W.kitOne
  rw [ref_beq]
  by_cases c : D = C
  · subst c
    rw [if_pos (decide_eq_true rfl)]
    simp [subB]
  · rw [if_neg (by simp only [decide_eq_true_eq]; exact fun z => c (E.inj' hD hC z))]
    exact E.kit hD hC
theorem Exs.oneV (E : Exs Z L) (hD : D ∈ L) : PySem.W.kitOne Z.K (.ref (Z.cls D)) (.type "ValueError") = some true := by
  unfold PySem.W.kitOne
  rw [ref_tbeq, if_neg Bool.false_ne_true]
  unfold PySem.W.kitCls
  show (if PySem.W.kitMeta "ValueError" = true then PySem.W.subIn _ _ _ else none) = _
  rw [if_pos (by decide +kernel)]
  exact E.subT hD (.inl rfl)
theorem Exs.exm (E : Exs Z L) (hD : D ∈ L) (hC : C ∈ L) : PySem.W.exmOne Z.K (.ref (Z.cls D)) (.ref (Z.cls C)) = some (subB D C) := by
  unfold PySem.W.exmOne
  rw [E.subT hC (.inr (.inl rfl)), if_pos (by rfl)]
  exact E.kit hD hC
theorem Exs.noneC (E : Exs Z L) (hC : C ∈ L) : PySem.W.kitOne Z.K (.type "NoneType") (.ref (Z.cls C)) = some false := by
  unfold PySem.W.kitOne
  rw [type_rbeq, if_neg Bool.false_ne_true]
  unfold PySem.W.kitCls
  show (if _ then PySem.W.subIn _ _ _ else none) = _
  rw [if_pos (E.clsT hC)]
  show ((fastBuiltinMro "NoneType").map (·.contains (.ref (Z.cls C)))) = some false
  have e : fastBuiltinMro "NoneType" = some [.type "NoneType", .type "object"] := by decide +kernel
  rw [e]
  rfl
end
end TB

namespace TB
open PySem PySem.Spec PyProof.Rows L2
/-! ### isinstance of what was kept -/
def rIsX (K : PySem.W.Frag) : List V → Hp → VK → Prop := fun xs H Q => rIsi K xs H Q ∨ ∃ (c : V) (u : Value) (b : Bool) (a D : Addr) (d : Option Addr), xs = [.ref a, c] ∧ ClsV c u ∧ H a = some (XT (.ref D) d a) ∧ (d = none ∨ ∃ dx fs, d = some dx ∧ H dx = some (.xd fs)) ∧
  PySem.W.KitX K (.ref a) (.ref D) (fun h => ∃ ox od, PySem.W.InstAt h a ox D od) ∧ PySem.W.kitOne K (.ref D) u = some b ∧ Q (.bl b) H
theorem call_isX {X : Cx} : CallR X (.builtin "isinstance") (rIsX X.K) := by
  intro pins s σ H xs us Q I r h
  rcases h with h | ⟨c, u, b, a, D, d, rfl, k, ha, hd, kx, e, q⟩
  · exact call_isi pins s σ H xs us Q I r h
  · obtain ⟨u1, u2, rfl, r1, r2⟩ := vals2 r
    have e1 : u1 = .ref a := r1
    have e2 := k.eq r2
    subst e1 e2
    obtain ⟨⟨oe, vs, ho, hz, hv⟩, _, _⟩ := I.hok a _ ha
    have J : ∃ ox od, PySem.W.InstAt s.heap a ox D od := by
      have hn : PySem.W.notCls oe = true := by unfold PySem.W.notCls; rw [hv] <;> rfl
      rcases hd with hd | ⟨dx, fs, hd, hdx⟩
      · exact ⟨oe, none, ho, hz.1, hn, by rw [hz.2, hd]; trivial⟩
      · have hx : ObjOk X.prog X.w H s.heap dx (.xd fs) := I.hok dx _ hdx
        obtain ⟨mA, hns, _⟩ := hx
        obtain ⟨od, hod, _⟩ := lookIn_ns hns
        exact ⟨oe, some od, ho, hz.1, hn, by rw [hz.2, hd]; exact hod⟩
    exact PySem.W.kia_one kx I.kIn J e (fun z => nomatch z) fun tk => ⟨.bl b, H, I.tok tk, rfl, q⟩
section
variable {Z : Zz} {L : List CN} {C D : CN}
theorem Exs.kitx (E : Exs Z L) (hD : D ∈ L) {a : Addr} : PySem.W.KitX Z.K (.ref a) (.ref (Z.cls D)) (fun h => ∃ ox od, PySem.W.InstAt h a ox (Z.cls D) od) := by
  have e := E.at hD
  have cl : (PySem.W.clsIn Z.K (Z.cls D)).isSome = true := by
    obtain ⟨cd, h1, _⟩ := Option.map_eq_some_iff.mp e.mro
    rw [h1]; rfl
  have k : ∀ ox od, PySem.W.KitX Z.K (.ref a) (.ref (Z.cls D)) (fun h => PySem.W.InstAt h a ox (Z.cls D) od) := fun ox od =>
    PySem.W.kitx_exc cl e.ga e.gg (E.subT hD (.inr (.inl rfl))) e.ca E.sg E.tk (E.subT hD (.inr (.inr rfl)))
  exact { ty := fun M h X ⟨ox, od, I⟩ => (k ox od).ty M h X I, it := fun M h X ⟨ox, od, I⟩ => (k ox od).it M h X I, ne := (k { cls := .none, data := .fields #[] } none).ne, ca := fun X ⟨ox, od, I⟩ kk => (k ox od).ca X I kk }
theorem Exs.xf (E : Exs Z L) (hD : D ∈ L) : XfC Z.K (Z.cls D) := ⟨(E.at hD).ga, (E.at hD).gg, E.subT hD (.inr (.inl rfl)), (E.at hD).hd⟩
end
end TB

namespace TB
open PySem PySem.Spec PyProof.Rows L2
section
variable {c : Cn} {Γ : List Sl} {ta tb te tl : TE} {tt tc : TT} {t u : TS} {s so : Sl} {α β γ : Type} {_ : Rp α} {_ : Rp β} {_ : Rp γ} {P : Po} {d : α} {L : List CN}
/-- the answer of isinstance for what was caught, or None -/
def isB (o : Option Rf) (C : CN) : Bool := match o with | none => false | some r => subB r.name C
theorem tyNone {K : PySem.W.Frag} {H : Hp} : TyX K H .non (.type "NoneType") := .base .non
theorem ev_isX {o : Option Rf} {C : CN} (E : Exs c.Z L) (hC : C ∈ L) (hr : ∀ r, o = some r → r.name ∈ L) (ha : Ev c Γ ta (.im o)) : Ev c Γ (tCB (rIsX c.Z.K) (tCons ta (tCons (tC (.ref (c.Z.cls C))) tNil))) (.im (isB o C)) := fun B R0 R H ρ Δ σ S Q q x =>
  ha B R0 R H ρ Δ σ S _ (fun v R1 H1 S1 => by
    have rv := sx_top' S1
    have S2 := sx_pop S1
    cases o with
    | none =>
      cases (show v = V.non from rv)
      exact .inl ⟨.non, _, _, _, false, rfl, .own _, tyNone, E.noneC hC, q _ R1 H1 (sx_push S2 rfl)⟩
    | some r =>
      obtain ⟨a, cls, d, rfl, h2, h3, h4⟩ := (show ∃ a cls d, v = V.ref a ∧ R1 a = some (XT cls d a) ∧ XtOk c.Z R1 r cls d from rv)
      subst h3
      refine .inr ⟨_, _, subB r.name C, a, _, d, rfl, .own _, sx_same S1 _ _ h2, ?_, E.kitx (hr r rfl), E.one (hr r rfl) hC, q _ R1 H1 (sx_push S2 rfl)⟩
      rcases h4 with h4 | ⟨dx, h5, h6⟩
      · exact .inl h4.2
      · exact .inr ⟨dx, _, h5, sx_same S1 _ _ h6⟩) x
theorem ev_isXV {o : Option Rf} (E : Exs c.Z L) (hr : ∀ r, o = some r → r.name ∈ L) (ha : Ev c Γ ta (.im o)) : Ev c Γ (tCB (rIsX c.Z.K) (tCons ta (tCons (tC (.ty "ValueError")) tNil))) (.im o.isSome) := fun B R0 R H ρ Δ σ S Q q x =>
  ha B R0 R H ρ Δ σ S _ (fun v R1 H1 S1 => by
    have rv := sx_top' S1
    have S2 := sx_pop S1
    cases o with
    | none =>
      cases (show v = V.non from rv)
      exact .inl ⟨.non, _, _, _, false, rfl, .ty _, tyNone, kit_ty (by decide +kernel), q _ R1 H1 (sx_push S2 rfl)⟩
    | some r =>
      obtain ⟨a, cls, d, rfl, h2, h3, h4⟩ := (show ∃ a cls d, v = V.ref a ∧ R1 a = some (XT cls d a) ∧ XtOk c.Z R1 r cls d from rv)
      subst h3
      refine .inr ⟨_, _, true, a, _, d, rfl, .ty _, sx_same S1 _ _ h2, ?_, E.kitx (hr r rfl), E.oneV (hr r rfl), q _ R1 H1 (sx_push S2 rfl)⟩
      rcases h4 with h4 | ⟨dx, h5, h6⟩
      · exact .inl h4.2
      · exact .inr ⟨dx, _, h5, sx_same S1 _ _ h6⟩) x
/-! ### try -/
def putG : Option Nat → Sl → List Sl → List Sl
  | none, _, G => G
  | some i, s, G => G.set i s
/-- how the slots are told behind a suite: the exception may have gone to slot j -/
def KeepX (o : Option Nat) (a : Addr) (d : Option Addr) (r : Rf) (G G' : List Sl) : Prop := G' = putG o .un G ∨ ∃ j, o ≠ some j ∧ G[j]? = some (.ex a d r) ∧ G' = putG o .un (G.set j (.im (some r)))
def HsW (c : Cn) (P : Po) : List Hdl → Rf → List Sl → Prop
  | [], r, G => c.ex r G
  | (C, o, ts) :: l, r, G => ∃ b, PySem.W.exmOne c.Z.K (.ref (c.Z.cls r.name)) C = some b ∧ (b = true → ∀ a d, W c.no (putG o (.ex a d r) G) (ts a (.ref (c.Z.cls r.name)) d) ⟨fun G' => ∃ G2, KeepX o a d r G' G2 ∧ P.nx G2, P.rt, fun G' => ∃ G2, KeepX o a d r G' G2 ∧ P.bk G2, fun G' => ∃ G2, KeepX o a d r G' G2 ∧ P.ct G2⟩) ∧ (b = false → HsW c P l r G)
theorem sx_keepX {Z : Zz} {B R0 R H : Hp} {ρ σ : List (Option V)} {Δ G G2 : List Sl} {o : Option Nat} {a : Addr} {d : Option Addr} {r : Rf} (S : Sx Z B R0 R H ρ Δ σ G) (na : H a = none) (k : KeepX o a d r G G2) :
    ∃ R', Sx Z B R0 R' (upd H a (XT (.ref (Z.cls r.name)) d a)) ρ Δ (clrO o σ) G2 := by
  rcases k with rfl | ⟨j, hj, e, rfl⟩
  · cases o with
    | none => exact ⟨R, sx_alloc S na _⟩
    | some i => exact ⟨R, sx_forgets (sx_alloc S na _) i none⟩
  · obtain ⟨S1, sm⟩ := sx_froz S na (XT (.ref (Z.cls r.name)) d a)
    obtain ⟨w, f, h1, v, rfl, ⟨rfl, h3⟩, _⟩ := sx_slot S1 e
    have S2 := sx_asg (sx_push (α := Option Rf) (d := some r) S1 (v := .ref a) ⟨a, _, d, rfl, upd_same, h3⟩) j
    rw [set_same h1] at S2
    cases o with
    | none => exact ⟨_, S2⟩
    | some i => exact ⟨_, sx_forgets S2 i none⟩
theorem w_try {l : List Hdl} {tb : WX → TS} (exB : Rf → List Sl → Prop) (hb : ∀ X', W ⟨c.Z, X', exB⟩ Γ (tb X') P) (hh : ∀ r G, exB r G → HsW c P l r G) : W c Γ (tTry c.Z.K l c.X tb) P := fun B R0 R H ρ Δ σ D S n rr bb kk x => by
  refine hb (wTry c.Z.K c.X D l) B R0 R H ρ Δ σ D S n rr bb kk fun R' H' σ' G' r cls d S' rx e => ?_
  have xt := rx.xt
  obtain ⟨ec, _⟩ := id xt
  subst ec
  have go : ∀ l : List Hdl, HsW c P l r G' → wTry c.Z.K c.X D l (.ref (c.Z.cls r.name)) d σ' H' := by
    intro l
    induction l with
    | nil => exact fun h => x R' H' σ' G' r _ d S' rx h
    | cons hd l ih =>
      obtain ⟨C, o, ts⟩ := hd
      rintro ⟨b, h1, h2, h3⟩
      refine ⟨b, h1, fun hb a na => ?_, fun hb => ih (h3 hb)⟩
      have S2 : Sx c.Z B R0 R' H' ρ Δ (putO o a σ') (putG o (.ex a d r) G') := by
        cases o with
        | none => exact S'
        | some i => exact sx_asg (sx_pushO S' (slok_ex xt)) i
      refine h2 hb a d B R0 R' H' ρ Δ _ _ S2 (fun R2 H2 σ2 G2 S3 ⟨G3, hk, hp⟩ na2 => ?_) (fun R2 H2 v s S3 hp na2 => ?_) (fun R2 H2 σ2 G2 S3 ⟨G3, hk, hp⟩ na2 => ?_) (fun R2 H2 σ2 G2 S3 ⟨G3, hk, hp⟩ na2 => ?_) (Xok.no c _ _ _ _)
      · obtain ⟨R3, S4⟩ := sx_keepX S3 na2 hk
        exact n R3 _ _ G3 S4 hp
      · exact rr R2 _ v s (sx_alloc S3 na2 _) hp
      · obtain ⟨R3, S4⟩ := sx_keepX S3 na2 hk
        exact bb R3 _ _ G3 S4 hp
      · obtain ⟨R3, S4⟩ := sx_keepX S3 na2 hk
        exact kk R3 _ _ G3 S4 hp
  exact go l (hh r G' e)
/-- the suite «x = e», e the exception that it holds -/
theorem w_keep {i j : Nat} {a : Addr} {d : Option Addr} {r : Rf} (hij : i ≠ j) (e : Γ[i]? = some (.ex a d r)) (hj : j < Γ.length) (k : P.nx ((Γ.set j (.im (some r))).set i .un)) :
    W c.no Γ (tAsg (tVar i) (gName j)) ⟨fun G' => ∃ G2, KeepX (some i) a d r G' G2 ∧ P.nx G2, P.rt, fun G' => ∃ G2, KeepX (some i) a d r G' G2 ∧ P.bk G2, fun G' => ∃ G2, KeepX (some i) a d r G' G2 ∧ P.ct G2⟩ := fun B R0 R H ρ Δ σ D S n rr bb kk x => by
  obtain ⟨w, f, h1, v, rfl, ⟨rfl, h3⟩, _⟩ := sx_slot S e
  refine ⟨.ref a, h1, n R H _ _ (sx_asg (sx_pushO S (s := .ex a d r) (v := .ref a) ⟨_, rfl, ⟨rfl, h3⟩, fun p hp => by simp at hp⟩) j) ⟨_, .inr ⟨j, fun z => hij (by simpa using z), by rw [List.getElem?_set_self hj], rfl⟩, ?_⟩⟩
  show P.nx (((Γ.set j _).set j _).set i .un)
  rw [List.set_set]
  exact k
/-- e.f within a suite -/
theorem ev_xf {i : Nat} {a : Addr} {d : Option Addr} {r : Rf} {f : Str} {n : Int} {C : Addr} (e : Γ[i]? = some (.ex a d r)) (hC : C = c.Z.cls r.name) (hf : r.fs.lookup f = some (.int n)) : Ev c Γ (tXf a (.ref (c.Z.cls r.name)) d C f (tVar i)) (.im n) := fun B R0 R H ρ Δ σ S Q q x => by
  obtain ⟨w, g, h1, v, rfl, ⟨rfl, h3, h4⟩, _⟩ := sx_slot S e
  rcases h4 with ⟨h4, _⟩ | ⟨dx, h5, h6⟩
  · rw [h4] at hf; cases hf
  · exact ⟨.ref a, h1, rfl, by rw [hC], dx, r.fs, .int n, h5, sx_same S _ _ h6, hf, q _ R H (sx_push S rfl)⟩
end
end TB

/-! TbPr: own pairs of any two slots; texts compared. -/
namespace TB
open PySem L2
def Pr (s1 s2 : Sl) : Own := ⟨fun Z R h v => ∃ (a : Addr) (x y : V) (f1 f2 : List Addr), v = .ref a ∧ (a :: (f1 ++ f2)).Nodup ∧ h a = some (.tup [x, y]) ∧ slok Z R h (some x) s1 f1 ∧ slok Z R h (some y) s2 f2,
  fun e h => by
    obtain ⟨a, x, y, f1, f2, h1, h2, h3, h4, h5⟩ := h
    exact ⟨a, x, y, f1, f2, h1, h2, h3, slok_mono e (fun _ _ => rfl) h4, slok_mono e (fun _ _ => rfl) h5⟩⟩
abbrev Sl.pr (s1 s2 : Sl) : Sl := .ow (Pr s1 s2)
theorem val_pr {s1 s2 : Sl} : Val (.pr s1 s2) := val_ow
section
variable {Z : Zz} {B R0 R R' H H' : Hp} {τ ρ σ : List (Option V)} {Θ Δ Γ : List Sl} {s s' s1 s2 : Sl} {o : Option V} {f g own : List Addr}
theorem slok_pr {a : Addr} {x y : V} {f1 f2 : List Addr} (nd : (a :: (f1 ++ f2)).Nodup) (h : H a = some (.tup [x, y])) (h1 : slok Z R H (some x) s1 f1) (h2 : slok Z R H (some y) s2 f2) : slok Z R H (some (.ref a)) (.pr s1 s2) (a :: (f1 ++ f2)) := by
  refine ⟨.ref a, rfl, ⟨a, x, y, f1, f2, rfl, nd, by rw [res_in (by simp)]; exact h, slok_mono (Same.refl _) (fun p hp => res_in (by simp [hp])) h1, slok_mono (Same.refl _) (fun p hp => res_in (by simp [hp])) h2⟩, fun p hp => ?_⟩
  rcases List.mem_cons.mp hp with q | q
  · rw [q, h]; simp
  · rcases List.mem_append.mp q with q | q
    · exact slok_some h1 p q
    · exact slok_some h2 p q
theorem slok_pr' (h : slok Z R H o (.pr s1 s2) f) : ∃ (a : Addr) (x y : V) (f1 f2 : List Addr), o = some (.ref a) ∧ (a :: (f1 ++ f2)).Nodup ∧ (∀ p ∈ a :: (f1 ++ f2), p ∈ f) ∧ H a = some (.tup [x, y]) ∧ slok Z R H (some x) s1 f1 ∧ slok Z R H (some y) s2 f2 := by
  obtain ⟨v, rfl, ⟨a, x, y, f1, f2, rfl, nd, h1, h2, h3⟩, h4⟩ := h
  have k : ∀ p, res H f p ≠ none → p ∈ f ∧ H p = res H f p := fun p hp => by
    by_cases c : p ∈ f
    · exact ⟨c, (res_in c).symm⟩
    · exact absurd (by unfold res; rw [if_neg c]) hp
  have ka := k a (by rw [h1]; simp)
  refine ⟨a, x, y, f1, f2, rfl, nd, fun p hp => ?_, by rw [ka.2]; exact h1, slok_mono (Same.refl _) (fun p hp => (k p (slok_some h2 p hp)).2) h2, slok_mono (Same.refl _) (fun p hp => (k p (slok_some h3 p hp)).2) h3⟩
  rcases List.mem_cons.mp hp with q | q
  · rw [q]; exact ka.1
  · rcases List.mem_append.mp q with q | q
    · exact (k p (slok_some h2 p q)).1
    · exact (k p (slok_some h3 p q)).1
theorem det_pr (h1 : Det s1) (h2 : Det s2) : Det (.pr s1 s2) := fun Z R R' H o f h => by
  obtain ⟨v, e, ⟨a, x, y, f1, f2, e1, nd, ha, k1, k2⟩, h4⟩ := h
  exact ⟨v, e, ⟨a, x, y, f1, f2, e1, nd, ha, h1 _ _ _ _ _ _ k1, h2 _ _ _ _ _ _ k2⟩, h4⟩
/-- a pair is taken apart -/
theorem sx_unpair {v : V} (S : Sx Z B R0 R H (some v :: ρ) (.pr s1 s2 :: Δ) σ Γ) : ∃ (a : Addr) (x y : V), v = .ref a ∧ H a = some (.tup [x, y]) ∧ Sx Z B R0 R H (some x :: some y :: ρ) (s1 :: s2 :: Δ) σ Γ := by
  obtain ⟨hl, own, hs, f, g, rfl, h1, es⟩ := S
  obtain ⟨a, x, y, f1, f2, e, nd, sub, ha, k1, k2⟩ := slok_pr' h1
  cases e
  have ndo := hs.nd
  refine ⟨a, x, y, rfl, ha, by simpa using hl, f1 ++ (f2 ++ g), hs_sub hs (fun p hp => ?_) ?_, f1, f2 ++ g, rfl, k1, f2, g, rfl, k2, es⟩
  · simp only [List.mem_append] at hp ⊢
    rcases hp with q | q | q
    · exact .inl (sub p (by simp [q]))
    · exact .inl (sub p (by simp [q]))
    · exact .inr q
  · simp only [List.nodup_append, List.nodup_cons, List.mem_append] at nd ndo ⊢
    refine ⟨nd.2.1, ⟨nd.2.2.1, ndo.2.1, fun p hp q hq z => ndo.2.2 p (sub p (by simp [hp])) q hq z⟩, fun p hp q hq z => ?_⟩
    rcases hq with r | r
    · exact nd.2.2.2 p hp q r z
    · exact ndo.2.2 p (sub p (by simp [hp])) q r z
/-- the two things on top make a pair -/
theorem sx_pair {p : Addr} {x y : V} (S : Sx Z B R0 R H (some x :: some y :: ρ) (s1 :: s2 :: Δ) σ Γ) (np : H p = none) : Sx Z B R0 R (upd H p (.tup [x, y])) (some (.ref p) :: ρ) (.pr s1 s2 :: Δ) σ Γ := by
  obtain ⟨hl, own, hs, f1, g1, rfl, h1, f2, g2, rfl, h2, es⟩ := S
  have fp := fresh_own hs (Z := Z) (τ := some x :: some y :: (ρ ++ σ)) (Θ := s1 :: s2 :: (Δ ++ Γ)) ⟨f1, _, rfl, h1, f2, g2, rfl, h2, es⟩ np
  have nd := hs.nd
  have ne : ∀ q, q ∈ f1 ++ (f2 ++ g2) → q ≠ p := fun q hq z => fp.2.2 (z ▸ hq)
  have ndp : (p :: (f1 ++ f2)).Nodup := by
    have q := fp.2.2
    simp only [List.nodup_cons, List.nodup_append, List.mem_append] at nd q ⊢
    grind
  refine ⟨by simpa using hl, (p :: (f1 ++ f2)) ++ g2, ⟨hs.rh.trans (same_upd np), hs.bh.trans (same_upd np), hs.r0, hs.nw, fun b hb => ?_, ?_⟩, p :: (f1 ++ f2), g2, rfl, slok_pr ndp upd_same (slok_mono (Same.refl _) (fun b hb => upd_ne (ne b (by simp [hb]))) h1) (slok_mono (Same.refl _) (fun b hb => upd_ne (ne b (by simp [hb]))) h2), es_mono (Same.refl _) (fun b hb => upd_ne (ne b (by simp [hb]))) es⟩
  · simp only [List.cons_append, List.mem_cons, List.mem_append] at hb
    rcases hb with rfl | hb
    · exact ⟨fp.1, fp.2.1⟩
    · exact hs.ow b (by simp only [List.mem_append]; grind)
  · have q := fp.2.2
    simp only [List.cons_append, List.nodup_cons, List.nodup_append, List.mem_append] at nd q ⊢
    grind
end
section
variable {c : Cn} {Γ : List Sl} {ta tb te tl : TE} {tt tc : TT} {t u : TS} {s s' s1 s2 : Sl} {α β γ : Type} {_ : Rp α} {_ : Rp β} {_ : Rp γ} {P : Po} {d : α}
/-- x, y = a pair -/
theorem w_asgPr {i j : Nat} (h : Ev c Γ te (.pr s1 s2)) (k : P.nx ((Γ.set i s1).set j s2)) : W c Γ (tAsg te (gTup c.Z.K 2 (gCons (gName i) (gCons (gName j) gNil)))) P := fun B R0 R H ρ Δ σ D S n r bb kk x =>
  h B R0 R H ρ Δ σ S _ (fun v R1 H1 S1 => by
    obtain ⟨a, y, z, rfl, ha, S2⟩ := sx_unpair S1
    exact ⟨a, _, rfl, SqT.of ha, rfl, _, _, rfl, _, _, rfl, rfl, n R1 H1 _ _ (sx_asg (sx_asg S2 i) j) k⟩) x
theorem w_asgPrS {i j : Nat} {S : Sl → Prop} (h : EvS c Γ te S) (k : ∀ s, S s → ∃ s1 s2, s = .pr s1 s2 ∧ P.nx ((Γ.set i s1).set j s2)) : W c Γ (tAsg te (gTup c.Z.K 2 (gCons (gName i) (gCons (gName j) gNil)))) P := fun B R0 R H ρ Δ σ D S0 n r bb kk x =>
  h B R0 R H ρ Δ σ S0 _ (fun v s R1 H1 hs S1 => by
    obtain ⟨s1, s2, rfl, k2⟩ := k s hs
    obtain ⟨a, y, z, rfl, ha, S2⟩ := sx_unpair S1
    exact ⟨a, _, rfl, SqT.of ha, rfl, _, _, rfl, _, _, rfl, rfl, n R1 H1 _ _ (sx_asg (sx_asg S2 i) j) k2⟩) x
/-- return x, y -/
theorem w_retPr {i j : Nat} (hij : i ≠ j) (v1 : Val s1) (v2 : Val s2) (h1 : Γ[i]? = some s1) (h2 : Γ[j]? = some s2) (k : P.rt (.pr s1 s2)) : W c Γ (tRet (tTup (tCons (tVar i) (tCons (tVar j) tNil)))) P := fun B R0 R H ρ Δ σ D S n r bb kk x => by
  obtain ⟨o2, e2, S1⟩ := sx_take S h2
  obtain ⟨o1, e1, S2⟩ := sx_take S1 (i := i) (by rw [List.getElem?_set_ne (Ne.symm hij)]; exact h1)
  have S3 := sx_leave S2
  obtain ⟨hl, own, hs, f1, g1, q1, k1, f2, g2, q2, k2, es⟩ := id S3
  obtain ⟨x1, rfl⟩ := v1 _ _ _ _ _ k1
  obtain ⟨x2, rfl⟩ := v2 _ _ _ _ _ k2
  exact ⟨x1, e1, x2, e2, by show 2 ≤ sizeLine; decide, fun p np => r R _ _ _ (sx_pair S3 np) k⟩
theorem val_im : Val (.im d) := fun Z R H o f h => ⟨_, h.2.choose_spec.1⟩
/-- texts -/
theorem ev_eqStr {x y : Str} (ha : Ev c Γ ta (.im x)) (hb : Ev c Γ tb (.im y)) : Ev c Γ (tOp (gEq c.Z.K) ta tb) (.im (decide (x = y))) := ev_opv ha hb fun R H v w _ rv rw => by
  have e1 : v = .str x := rv
  have e2 : w = .str y := rw
  subst e1 e2
  refine ⟨.bl (decide (x = y)), rfl, fun Q q => .inl ⟨rfl, ?_⟩⟩
  have e : decide (V.str x = V.str y) = decide (x = y) := decide_eq_decide.mpr ⟨fun h => V.str.inj h, fun h => by rw [h]⟩
  rw [e]
  exact q
theorem ev_isNoneD {o : Option α} (ha : Ev c Γ ta (.im o)) (hn : ∀ Z R v (d : α), Rp.rp Z R v d → v ≠ .non) : Ev c Γ (tOp gIs ta (tC .non)) (.im o.isNone) := ev_isN ha _ fun R v rv => by
  cases o with
  | none => exact decide_eq_true rv
  | some d => exact decide_eq_false (hn _ _ _ _ rv)
theorem ev_isSomeD {o : Option α} (ha : Ev c Γ ta (.im o)) (hn : ∀ Z R v (d : α), Rp.rp Z R v d → v ≠ .non) : Ev c Γ (tOp gIsNot ta (tC .non)) (.im o.isSome) := ev_isNotN ha _ fun R v rv => by
  cases o with
  | none =>
    have e : v = V.non := rv
    rw [e]; rfl
  | some d => simp [hn _ _ _ _ rv]
end
end TB
namespace TB
open PySem L2
section
variable {c : Cn} {Γ : List Sl} {te : TE} {s : Sl} {α : Type} {_ : Rp α}
/-- o.m(..), its answer told by a set -/
theorem es_meth {Tm' : Tm} {o : α} {C : Addr} {m : Str} {t : TA} {ss : List Sl} {S : Sl → Prop} (h : Ev c Γ te (.im o)) (hm : ∀ R v, Rp.rp c.Z R v o → ∃ a dx fs, v = .ref a ∧ R a = some (.ins C dx fs) ∧ fs.lookup m = none) (ha : EvA c Γ t ss) (hT : Tm' (.im o :: (ss ++ [])) S fun r => c.ex r Γ) :
    EvS c Γ (tMethSD C m (spOf c.Z Tm') [] (WE c.X) te t) S := fun B R0 R H ρ Δ σ S0 Q q xk => h B R0 R H ρ Δ σ S0 _ (fun v R1 H1 S1 => by
  obtain ⟨a, dx, fs, rfl, h2, h3⟩ := hm R1 v (sx_top' S1)
  refine ⟨a, dx, fs, rfl, sx_same S1 _ _ h2, h3, ha B R0 R1 H1 _ _ σ S1 _ (fun vs R2 H2 S2 sl => ?_) xk.push1⟩
  refine ⟨R2, .im o :: (ss ++ []), _, _, sx_same S2, .cons (sx_top' S2) (slims_append sl .nil), hT, fun v R' H' s' S' e => ?_, fun r cls d H' e rx er => ?_⟩
  · exact q v s' R' H' e (sx_pop2 (sx_call S2 S'))
  · obtain ⟨R3, _, S3, rx2⟩ := sx_callX (sx_pop S2) e rx
    exact xk R3 H' σ Γ r cls d S3 rx2 er) xk
end
end TB

/-! ### l_tried -/
namespace TB
open PySem L2
--use TbWs
--use TbEx
--use TbPr
--extra T.whlC T.exs (by decide) (by decide)
def T_l_tried : Tm := tm4 fun (o : Whl) (xs : List Int) (j way : Int) ok _ => ∃ (m : Int) (x : Nat), 1 ≤ m ∧ m ≤ 60 ∧ o = whl m ∧ 1 ≤ xs.length ∧ xs.length ≤ 60 ∧ x ≤ 30000 ∧ Bd x xs ∧
  (way = 4 → (apartB m j = true → ok (.pr (.ol (lowF m (putL m j 0 xs))) (.im (none : Option Rf)))) ∧ (apartB m j = false → ok (.pr (.im (none : Option Int)) (.im (some ⟨.NoMove, []⟩ : Option Rf))))) ∧
  (way ≠ 4 → (1 ≤ j ∧ m * j ≤ 60 → ok (.pr (.ol (lowF (m * j) (stretchF xs j))) (.im (none : Option Rf)))) ∧ (¬ (1 ≤ j ∧ m * j ≤ 60) → ok (.pr (.im (none : Option Int)) (.im (some ⟨.BadWheel, []⟩ : Option Rf)))))
def t_l_tried (Z : Zz) (X : WX) : TS :=
  (tSeq (tAsg (tC .non) (gName 4))
  (tSeq (tAsg (tC .non) (gName 5))
  (tSeq (tTry Z.K [(.ref (Z.cls .BookError), some 6, fun a_ cls_ d_ => (tAsg (tVar 6) (gName 5)))] X (fun X => (tIfS (tTest (tOp (gEq Z.K) (tVar 3) (tC (.int 4))))
  (tAsg (tMethSD (Z.cls .Wheel) "moved" (spOf Z T_Wheel_moved) [] (WE X) (tVar 0) (tCons (tVar 1) (tCons (tVar 2) tNil))) (gName 4))
  (tAsg (tMethSD (Z.cls .Wheel) "wider" (spOf Z T_Wheel_wider) [] (WE X) (tVar 0) (tCons (tVar 1) (tCons (tVar 2) tNil))) (gName 4)))))
  (tRet (tTup (tCons (tVar 4) (tCons (tVar 5) tNil)))))))
theorem w_l_tried {Z : Zz} {L : List CN} (hW : WhlC Z) (hE : Exs Z L) (hL1 : .BadWheel ∈ L) (hL2 : .NoMove ∈ L) (X : WX) (ss : List Sl) (ok : Sl → Prop) (er : Rf → Prop) (h : T_l_tried ss ok er) : WF Z X er (ss ++ List.replicate (7 - ss.length) .un) (t_l_tried Z X) ok := by
  obtain ⟨o, xs, j, way, rfl, m, bx, h1, h2, rfl, x1, x2, hx, xb, k0, k1⟩ := h
  show W _ [.im (whl m), .im xs, .im j, .im way, .un, .un, .un] _ _
  unfold t_l_tried
  refine w_seq (w_asg (s := .im (none : Option Int)) ev_none ?_)
  walk_at "nz"
  refine w_seq (w_asg (s := .im (none : Option Rf)) ev_none ?_)
  walk_at "nz"
  have mov : ∀ {X' : WX} {ex : Rf → List Sl → Prop} {G : List Sl} {S : Sl → Prop}, G[0]? = some (.im (whl m)) → G[1]? = some (.im xs) → G[2]? = some (.im j) → (apartB m j = true → S (.ol (lowF m (putL m j 0 xs)))) → (apartB m j = false → ex ⟨.NoMove, []⟩ G) → EvS ⟨Z, X', ex⟩ G (tMethSD (Z.cls .Wheel) "moved" (spOf Z T_Wheel_moved) [] (WE X') (tVar 0) (tCons (tVar 1) (tCons (tVar 2) tNil))) S := fun {X' ex G S} g0 g1 g2 a b =>
    es_meth (c := ⟨Z, X', ex⟩) (ev_var g0) (whl_m (by decide +kernel)) (ea_cons (ev_var g1) (ea_cons (ev_var g2) ea_nil)) ⟨_, _, _, rfl, m, bx, h1, h2, rfl, by omega, by omega, xb, a, b⟩
  have wid : ∀ {X' : WX} {ex : Rf → List Sl → Prop} {G : List Sl} {S : Sl → Prop}, G[0]? = some (.im (whl m)) → G[1]? = some (.im xs) → G[2]? = some (.im j) → (1 ≤ j ∧ m * j ≤ 60 → S (.ol (lowF (m * j) (stretchF xs j)))) → (¬ (1 ≤ j ∧ m * j ≤ 60) → ex ⟨.BadWheel, []⟩ G) → EvS ⟨Z, X', ex⟩ G (tMethSD (Z.cls .Wheel) "wider" (spOf Z T_Wheel_wider) [] (WE X') (tVar 0) (tCons (tVar 1) (tCons (tVar 2) tNil))) S := fun {X' ex G S} g0 g1 g2 a b =>
    es_meth (c := ⟨Z, X', ex⟩) (ev_var g0) (whl_m (by decide +kernel)) (ea_cons (ev_var g1) (ea_cons (ev_var g2) ea_nil)) ⟨_, _, _, rfl, m, bx, h1, h2, rfl, x1, by omega, by omega, xb, a, b⟩
  have ret : ∀ (s4 : Sl) (e : Option Rf), Val s4 → ok (.pr s4 (.im e)) → W ⟨Z, X, fun r _ => er r⟩ [.im (whl m), .im xs, .im j, .im way, s4, .im e, .un] (tRet (tTup (tCons (tVar 4) (tCons (tVar 5) tNil)))) ⟨fun _ => ok (.im ()), ok, fun _ => False, fun _ => False⟩ := fun s4 e v q => w_retPr (by decide) v val_im rfl rfl q
  refine w_mid (fun G => ∃ (s4 : Sl) (e : Option Rf), G = [.im (whl m), .im xs, .im j, .im way, s4, .im e, .un] ∧ Val s4 ∧ ok (.pr s4 (.im e))) ?_ ?_
  · refine w_try (fun r G => G = [.im (whl m), .im xs, .im j, .im way, .im (none : Option Int), .im (none : Option Rf), .un] ∧ ok (.pr (.im (none : Option Int)) (.im (some r))) ∧ r.name ∈ L) (fun X' => ?_) ?_
    · refine w_if (b := decide (way = 4)) (et_test (ev_eqI (ev_var rfl) ev_int)) (fun hb => ?_) (fun hb => ?_)
      · have hk := k0 (by simpa using hb)
        refine w_asgS (S := fun s => Val s ∧ ok (.pr s (.im (none : Option Rf)))) (mov rfl rfl rfl (fun a => ⟨val_ol, hk.1 a⟩) fun a => ⟨rfl, hk.2 a, hL2⟩) fun s hs => ⟨s, none, rfl, hs.1, hs.2⟩
      · have hk := k1 (by simpa using hb)
        refine w_asgS (S := fun s => Val s ∧ ok (.pr s (.im (none : Option Rf)))) (wid rfl rfl rfl (fun a => ⟨val_ol, hk.1 a⟩) fun a => ⟨rfl, hk.2 a, hL1⟩) fun s hs => ⟨s, none, rfl, hs.1, hs.2⟩
    · rintro r G ⟨rfl, hr, hn⟩
      refine ⟨true, ?_, fun _ a d => ?_, fun z => nomatch z⟩
      · have := hE.exm hn hE.base
        rw [this]
        simp [subB]
      · show W _ [.im (whl m), .im xs, .im j, .im way, .im (none : Option Int), .im (none : Option Rf), .ex a d r] _ _
        exact w_keep (i := 6) (j := 5) (by decide) rfl (by simp) ⟨_, _, rfl, val_im, hr⟩
  · rintro G ⟨s4, e, rfl, v, q⟩
    exact ret s4 e v q
end TB

/-! TbTri: tuples of three data. -/
namespace TB
open PySem L2
structure Tri (α β γ : Type) where
  a : α
  b : β
  c : γ
instance {α β γ : Type} [Rp α] [Rp β] [Rp γ] : Rp (Tri α β γ) := ⟨⟨Rp.df, Rp.df, Rp.df⟩, fun Z H v d => ∃ a x y z, v = .ref a ∧ H a = some (.tup [x, y, z]) ∧ Rp.rp Z H x d.a ∧ Rp.rp Z H y d.b ∧ Rp.rp Z H z d.c,
  fun e h => by
    obtain ⟨a, x, y, z, h1, h2, h3, h4, h5⟩ := h
    exact ⟨a, x, y, z, h1, e _ _ h2, Rp.mono e h3, Rp.mono e h4, Rp.mono e h5⟩⟩
section
variable {c : Cn} {Γ : List Sl} {ta tb te tl ty : TE} {tt tc : TT} {t u : TS} {s s' so : Sl} {α β γ : Type} {_ : Rp α} {_ : Rp β} {_ : Rp γ} {P : Po}
theorem ev_tri {x : α} {y : β} {z : γ} (hx : Ev c Γ ta (.im x)) (hy : Ev c Γ tb (.im y)) (hz : Ev c Γ te (.im z)) : Ev c Γ (tTup (tCons ta (tCons tb (tCons te tNil)))) (.im (⟨x, y, z⟩ : Tri α β γ)) := fun B R0 R H ρ Δ σ S Q q xk => (ea_cons hx (ea_cons hy (ea_cons hz ea_nil))) B R0 R H ρ Δ σ S _ (fun vs R1 H1 S1 sl => by
  cases sl with
  | cons r1 t1 =>
    cases t1 with
    | cons r2 t2 =>
      cases t2 with
      | cons r3 t3 =>
        cases t3
        rename_i v1 v2 v3
        refine ⟨by show 3 ≤ sizeLine; decide, fun p np => ?_⟩
        obtain ⟨S2, sr⟩ := sx_froz S1 np (.tup [v1, v2, v3])
        exact q _ _ _ (sx_push S2 ⟨p, v1, v2, v3, rfl, upd_same, Rp.mono sr r1, Rp.mono sr r2, Rp.mono sr r3⟩)) xk
theorem w_asgT3S {α β γ : Type} [Rp α] [Rp β] [Rp γ] {i j k : Nat} {S : Sl → Prop} (h : EvS c Γ te S) (kk : ∀ s, S s → ∃ d : Tri α β γ, s = .im d ∧ P.nx (((Γ.set i (.im d.a)).set j (.im d.b)).set k (.im d.c))) : W c Γ (tAsg te (gTup c.Z.K 3 (gCons (gName i) (gCons (gName j) (gCons (gName k) gNil))))) P := fun B R0 R H ρ Δ σ D S0 n r bb k0 x =>
  h B R0 R H ρ Δ σ S0 _ (fun v s R1 H1 hs S1 => by
    obtain ⟨d, rfl, k2⟩ := kk s hs
    obtain ⟨a, x, y, z, rfl, ha, r1, r2, r3⟩ := sx_top' S1
    have S2 := sx_push (sx_push (sx_push (sx_pop S1) r3) r2) r1
    exact ⟨a, _, rfl, SqT.of (sx_same S1 _ _ ha), rfl, _, _, rfl, _, _, rfl, _, _, rfl, rfl, n R1 H1 _ _ (sx_asg (sx_asg (sx_asg S2 i) j) k) k2⟩) x
end
end TB

/-! ### l_moved -/
namespace TB
open PySem L2
--use TbWk
--use TbTri
--use TbEx
--use TbPr
--extra T.exs (by decide)
def T_l_moved : Tm := tm4 fun (o : Whl) (f cs : List Int) (j : Int) ok _ => ∃ (m : Int) (x : Nat), Wst m x f cs ∧ x ≤ 29000 ∧ o = whl m ∧ ∀ (m' : Int) (f' cs' : List Int), Wst m' (x + 150) f' cs' → ok (.im (⟨whl m', f', cs'⟩ : Tri Whl (List Int) (List Int)))
def t_l_moved (Z : Zz) (X : WX) : TS :=
  (tSeq (tAsg (tCB (gLen Z.K) (tCons (tVar 2) tNil)) (gName 4))
  (tSeq (tAsg (tCallSD (spOf Z T_l_tried) [] (WE X) (tCons (tVar 0) (tCons (tVar 1) (tCons (tVar 3) (tCons (tC (.int 4)) tNil))))) (gTup Z.K 2 (gCons (gName 5) (gCons (gName 6) gNil))))
  (tSeq (tIfS (tB (tCB (rAll Z.K) (tCons (tLc (iList Z.K (tCallSD (spOf Z T_l_primes) [] (WE X) (tCons (tVar 4) tNil))) (gName 7) tYes (tOp (gNe Z.K) (tOp gMod (tVar 3) (tVar 7)) (tC (.int 0))) [7]) tNil)))
  (tRet (tTup (tCons (tVar 0) (tCons (tVar 5) (tCons (tCallSD (spOf Z T_l_put) [] (WE X) (tCons (tVar 2) (tCons (tVar 3) (tCons (tC (.int 0)) (tCons (tVar 4) tNil))))) tNil)))))
  tNext)
  (tSeq (tIfS (tB (tCB (rIsX Z.K) (tCons (tVar 6) (tCons (tC (.ref (Z.cls .NoMove))) tNil))))
  (tRet (tTup (tCons (tVar 0) (tCons (tVar 1) (tCons (tVar 2) tNil)))))
  tNext)
  (tRet (tTup (tCons (tVar 0) (tCons (tC .non) (tCons (tVar 2) tNil)))))))))
theorem w_l_moved {Z : Zz} {L : List CN} (hE : Exs Z L) (hL : .NoMove ∈ L) (X : WX) (ss : List Sl) (ok : Sl → Prop) (er : Rf → Prop) (h : T_l_moved ss ok er) : WF Z X er (ss ++ List.replicate (8 - ss.length) .un) (t_l_moved Z X) ok := by
  obtain ⟨o, f, cs, j, rfl, m, x, hw, hx, rfl, k⟩ := h
  show W _ [.im (whl m), .im f, .im cs, .im j, .un, .un, .un, .un] _ _
  unfold t_l_moved
  have h1 := hw.m1
  have h2 := hw.m2
  have dg := deg_le h1 h2
  have fl := hw.fl
  have cl := hw.cl
  refine w_seq (w_asg (s := .im m) (ev_to (ev_len (ev_var rfl)) cl) ?_)
  walk_at "nz"
  have hp := (ringF h1 h2).pr
  have hpl : (primesF m).length ≤ 100 := by
    have hL : ∀ i : Nat, i < 60 → (primesF ((i : Int) + 1)).length ≤ 100 := by decide +kernel
    have := hL (m - 1).toNat (by omega)
    rwa [show (((m - 1).toNat : Nat) : Int) + 1 = m by omega] at this
  by_cases ha : apartB m j = true
  · refine w_seq (w_asgPr (s1 := .ol (lowF m (putL m j 0 f))) (s2 := .im (none : Option Rf)) (ev_callN (ea_cons (ev_var rfl) (ea_cons (ev_var rfl) (ea_cons (ev_var rfl) (ea_cons ev_int ea_nil)))) ⟨_, _, _, _, rfl, m, x, h1, h2, rfl, by omega, by omega, by omega, hw.bd, fun _ => ⟨fun _ => rfl, fun z => by rw [ha] at z; cases z⟩, fun z => absurd rfl z⟩) ?_)
    walk_at "nz"
    refine w_fr 5 rfl ?_
    walk_at "nz"
    refine w_seq (w_if (b := true) (et_B (ev_to (ev_all (bs := (primesF m).map fun p => !decide (j % p = 0)) rfl (ev_fr ?hh)) ?_)) (fun _ => ?_) (fun z => nomatch z))
    case hh => exact ev_mapL (xs := primesF m) (fun p => !decide (j % p = 0)) (ev_frI (ev_callN (s := .ol (primesF m)) (ea_cons (ev_var rfl) ea_nil) ⟨_, rfl, h1, h2, rfl⟩)) (by omega) (by simp) ⟨.inl rfl, trivial⟩ fun p hx => ev_neI (ev_mod (ev_var rfl) (ev_var rfl) (by have := (hp p hx).1; omega)) ev_int
    · rw [← ha]
      unfold apartB
      rw [List.all_map]
      rfl
    exact w_ret (ev_tri (ev_var rfl) (ev_var rfl) (ev_frI (ev_callN (s := .ol (putL m j 0 cs)) (ea_cons (ev_var rfl) (ea_cons (ev_var rfl) (ea_cons ev_int (ea_cons (ev_var rfl) ea_nil)))) ⟨_, _, _, _, rfl, h1, h2, by omega, rfl⟩))) (k m _ _ (wst_moved hw ha))
  · have ha' : apartB m j = false := by simpa using ha
    refine w_seq (w_asgPr (s1 := .im (none : Option Int)) (s2 := .im (some ⟨.NoMove, []⟩ : Option Rf)) (ev_callN (ea_cons (ev_var rfl) (ea_cons (ev_var rfl) (ea_cons (ev_var rfl) (ea_cons ev_int ea_nil)))) ⟨_, _, _, _, rfl, m, x, h1, h2, rfl, by omega, by omega, by omega, hw.bd, fun _ => ⟨fun z => absurd z ha, fun _ => rfl⟩, fun z => absurd rfl z⟩) ?_)
    walk_at "nz"
    refine w_seq (w_if (b := false) (et_B (ev_to (ev_all (bs := (primesF m).map fun p => !decide (j % p = 0)) rfl (ev_fr ?hh)) ?_)) (fun z => nomatch z) (fun _ => w_next ?_))
    case hh => exact ev_mapL (xs := primesF m) (fun p => !decide (j % p = 0)) (ev_frI (ev_callN (s := .ol (primesF m)) (ea_cons (ev_var rfl) ea_nil) ⟨_, rfl, h1, h2, rfl⟩)) (by omega) (by simp) ⟨.inl rfl, trivial⟩ fun p hx => ev_neI (ev_mod (ev_var rfl) (ev_var rfl) (by have := (hp p hx).1; omega)) ev_int
    · rw [← ha']
      unfold apartB
      rw [List.all_map]
      rfl
    refine w_seq (w_if (b := true) (et_B (ev_to (ev_isX hE hL (fun r e => by cases e; exact hL) (ev_var rfl)) rfl)) (fun _ => ?_) (fun z => nomatch z))
    exact w_ret (ev_tri (ev_var rfl) (ev_var rfl) (ev_var rfl)) (k m f cs (hw.up (by omega)))
end TB

/-! ### l_wider -/
namespace TB
open PySem L2
--use TbWk
--use TbTri
--use TbEx
--use TbPr
--extra T.whlC T.exs (by decide)
def T_l_wider : Tm := tm4 fun (o : Whl) (f cs : List Int) (w : Int) ok _ => ∃ (m : Int) (x : Nat), Wst m x f cs ∧ x ≤ 29000 ∧ o = whl m ∧ 1 ≤ w ∧ w ≤ 4 ∧ ∀ (m' : Int) (f' cs' : List Int), Wst m' (x + 150) f' cs' → ok (.im (⟨whl m', f', cs'⟩ : Tri Whl (List Int) (List Int)))
def t_l_wider (Z : Zz) (X : WX) : TS :=
  (tSeq (tAsg (tCB (gLen Z.K) (tCons (tVar 2) tNil)) (gName 4))
  (tSeq (tAsg (tCallSD (spOf Z T_l_tried) [] (WE X) (tCons (tVar 0) (tCons (tVar 1) (tCons (tVar 3) (tCons (tC (.int 6)) tNil))))) (gTup Z.K 2 (gCons (gName 5) (gCons (gName 6) gNil))))
  (tSeq (tIfS (tTest (tOp gLe (tOp gMul (tVar 4) (tVar 3)) (tC (.int 60))))
  (tRet (tTup (tCons (tMakeSD (Z.cls .Wheel) (spI_Wheel Z) [] (WE X) (tCons (tOp gMul (tVar 4) (tVar 3)) tNil)) (tCons (tVar 5) (tCons (tCallSD (spOf Z T_l_put) [] (WE X) (tCons (tVar 2) (tCons (tVar 3) (tCons (tC (.int 0)) (tCons (tOp gMul (tVar 4) (tVar 3)) tNil))))) tNil)))))
  tNext)
  (tSeq (tIfS (tB (tCB (rIsX Z.K) (tCons (tVar 6) (tCons (tC (.ref (Z.cls .BadWheel))) tNil))))
  (tRet (tTup (tCons (tVar 0) (tCons (tVar 1) (tCons (tVar 2) tNil)))))
  tNext)
  (tRet (tTup (tCons (tVar 0) (tCons (tC .non) (tCons (tVar 2) tNil)))))))))
theorem w_l_wider {Z : Zz} {L : List CN} (hZ : WhlC Z) (hE : Exs Z L) (hL : .BadWheel ∈ L) (X : WX) (ss : List Sl) (ok : Sl → Prop) (er : Rf → Prop) (h : T_l_wider ss ok er) : WF Z X er (ss ++ List.replicate (7 - ss.length) .un) (t_l_wider Z X) ok := by
  obtain ⟨o, f, cs, w, rfl, m, x, hw, hx, rfl, w1, w4, k⟩ := h
  show W _ [.im (whl m), .im f, .im cs, .im w, .un, .un, .un] _ _
  unfold t_l_wider
  have h1 := hw.m1
  have h2 := hw.m2
  have dg := deg_le h1 h2
  have fl := hw.fl
  have cl := hw.cl
  have hn : m ≤ m * w := by
    have := Int.mul_le_mul_of_nonneg_left w1 (show 0 ≤ m by omega)
    omega
  refine w_seq (w_asg (s := .im m) (ev_to (ev_len (ev_var rfl)) cl) ?_)
  walk_at "nz"
  have mj : ∀ {c : Cn} {G : List Sl}, G[4]? = some (.im m) → G[3]? = some (.im w) → Ev c G (tOp gMul (tVar 4) (tVar 3)) (.im (m * w)) := fun a b => ev_mulS (ev_var a) (ev_var b) (.inl ⟨by omega, by omega⟩)
  by_cases ha : m * w ≤ 60
  · refine w_seq (w_asgPr (s1 := .ol (lowF (m * w) (stretchF f w))) (s2 := .im (none : Option Rf)) (ev_callN (ea_cons (ev_var rfl) (ea_cons (ev_var rfl) (ea_cons (ev_var rfl) (ea_cons ev_int ea_nil)))) ⟨_, _, _, _, rfl, m, x, h1, h2, rfl, by omega, by omega, by omega, hw.bd, fun z => absurd z (by decide), fun _ => ⟨fun _ => rfl, fun z => absurd ⟨w1, ha⟩ z⟩⟩) ?_)
    walk_at "nz"
    refine w_fr 5 rfl ?_
    walk_at "nz"
    refine w_seq (w_if (b := true) (et_to (et_test (ev_le (mj rfl rfl) ev_int)) (by simpa using ha)) (fun _ => ?_) (fun z => nomatch z))
    exact w_ret (ev_tri (ev_mkWheel (c := ⟨Z, X, fun r _ => er r⟩) hZ (by omega) ha (ea_cons (mj rfl rfl) ea_nil)) (ev_var rfl) (ev_frI (ev_callN (s := .ol (putL (m * w) w 0 cs)) (ea_cons (ev_var rfl) (ea_cons (ev_var rfl) (ea_cons ev_int (ea_cons (mj rfl rfl) ea_nil)))) ⟨_, _, _, _, rfl, by omega, ha, by omega, rfl⟩))) (k (m * w) _ _ (wst_wider hw w1 ha w4))
  · refine w_seq (w_asgPr (s1 := .im (none : Option Int)) (s2 := .im (some ⟨.BadWheel, []⟩ : Option Rf)) (ev_callN (ea_cons (ev_var rfl) (ea_cons (ev_var rfl) (ea_cons (ev_var rfl) (ea_cons ev_int ea_nil)))) ⟨_, _, _, _, rfl, m, x, h1, h2, rfl, by omega, by omega, by omega, hw.bd, fun z => absurd z (by decide), fun _ => ⟨fun z => absurd z.2 ha, fun _ => rfl⟩⟩) ?_)
    walk_at "nz"
    refine w_seq (w_if (b := false) (et_to (et_test (ev_le (mj rfl rfl) ev_int)) (by simpa using ha)) (fun z => nomatch z) (fun _ => w_next ?_))
    refine w_seq (w_if (b := true) (et_B (ev_to (ev_isX hE hL (fun r e => by cases e; exact hL) (ev_var rfl)) rfl)) (fun _ => ?_) (fun z => nomatch z))
    exact w_ret (ev_tri (ev_var rfl) (ev_var rfl) (ev_var rfl)) (k m f cs (hw.up (by omega)))
end TB

/-! TbMk: the makings of the laws' groups, as data. -/
namespace TB
open PySem L2
/-- four sizes, together at most 23 -/
def SzOk (l : List Int) : Prop := ∃ a b c d : Int, l = [a, b, c, d] ∧ 1 ≤ a ∧ 1 ≤ b ∧ 1 ≤ c ∧ 1 ≤ d ∧ a * b * c * d ≤ 23
def szB : List Int → Bool
  | [a, b, c, d] => decide (1 ≤ a) && decide (1 ≤ b) && decide (1 ≤ c) && decide (1 ≤ d) && decide (a * b * c * d ≤ 23)
  | _ => false
theorem szB_ok {l : List Int} (h : szB l = true) : SzOk l := by
  match l, h with
  | [a, b, c, d], h =>
    simp only [szB, Bool.and_eq_true, decide_eq_true_eq] at h
    exact ⟨a, b, c, d, rfl, h.1.1.1.1, h.1.1.1.2, h.1.1.2, h.1.2, h.2⟩
theorem drawn {m f x : Int} (hf : 1 ≤ f) (hm : f ≤ m) : 1 ≤ m / f ∧ 1 ≤ 1 + x % (m / f) ∧ f * (1 + x % (m / f)) ≤ m := by
  have h1 : 1 ≤ m / f := (Int.le_ediv_iff_mul_le (by omega)).mpr (by omega)
  have h2 := Int.emod_nonneg x (show m / f ≠ 0 by omega)
  have h3 := Int.emod_lt_of_pos x (show 0 < m / f by omega)
  refine ⟨h1, by omega, ?_⟩
  have h4 : f * (1 + x % (m / f)) ≤ f * (m / f) := Int.mul_le_mul_of_nonneg_left (by omega) (by omega)
  have h5 : f * (m / f) ≤ m := Int.mul_ediv_self_le (by omega)
  omega
theorem szOk_of {top steps a x y : Int} {r : Int} (hr : r = top / steps) (hs : 1 ≤ steps) (ht : top ≤ 23) (h1 : 1 ≤ a) (h2 : a ≤ r) :
    1 ≤ r / a ∧ 1 ≤ 1 + x % (r / a) ∧ 1 ≤ r / (a * (1 + x % (r / a))) ∧ SzOk [a, 1 + x % (r / a), 1 + y % (r / (a * (1 + x % (r / a)))), steps] := by
  obtain ⟨p1, p2, p3⟩ := drawn (x := x) h1 h2
  have p4 : 1 ≤ a * (1 + x % (r / a)) := by
    have := Int.mul_le_mul_of_nonneg_right h1 (show 0 ≤ 1 + x % (r / a) by omega)
    omega
  obtain ⟨p5, p6, p7⟩ := drawn (x := y) p4 p3
  refine ⟨p1, p2, p5, _, _, _, _, rfl, h1, p2, p6, hs, ?_⟩
  have q1 := Int.mul_le_mul_of_nonneg_right p7 (show 0 ≤ steps by omega)
  have q2 : r * steps ≤ top := by rw [hr, Int.mul_comm]; exact Int.mul_ediv_self_le (by omega)
  omega
end TB

/-! TbAb: plain law: an abelian part turned by steps is a group. -/
namespace TB
open PySem L2
def In (n a : Int) : Prop := 0 ≤ a ∧ a < n
structure OpG (n : Int) (f : Int → Int → Int) (e : Int) : Prop where
  he : In n e
  cl : ∀ a b, In n a → In n b → In n (f a b)
  un : ∀ a, In n a → f e a = a ∧ f a e = a
  bk : ∀ a, In n a → ∃ b, In n b ∧ f a b = e
  asc : ∀ a b c, In n a → In n b → In n c → f (f a b) c = f a (f b c)
theorem OpG.bk2 {n : Int} {f : Int → Int → Int} {e : Int} (g : OpG n f e) {a : Int} (ha : In n a) : ∃ b, In n b ∧ f a b = e ∧ f b a = e := by
  obtain ⟨b, hb, e1⟩ := g.bk a ha
  obtain ⟨c, hc, e2⟩ := g.bk b hb
  refine ⟨b, hb, e1, ?_⟩
  have h1 := (g.un (f b a) (g.cl _ _ hb ha)).2
  rw [← h1, ← e2, g.asc _ _ _ hb ha (g.cl _ _ hb hc), ← g.asc _ _ _ ha hb hc, e1, (g.un c hc).1]
theorem tbl_of {t : Tbl} {n : Int} {f : Int → Int → Int} {e : Int} (g : OpG n f e) (nm : Int → Int) (h1 : 1 ≤ n) (h2 : n ≤ 23) (hin : ∀ a, In n a → In n (nm a)) (sj : ∀ b, In n b → ∃ a, In n a ∧ nm a = b) (hl : (t.length : Int) = n) (hr : ∀ r ∈ t, r.length = t.length)
    (hv : ∀ a b, In n a → In n b → en t (nm a) (nm b) = nm (f a b)) : GTbl t (nm e) := by
  have inT : ∀ {a}, InT t a ↔ In n a := fun {a} => by unfold InT In; rw [hl]
  have q : ∀ {a}, InT t a → ∃ b, In n b ∧ nm b = a := fun h => sj _ (inT.mp h)
  refine ⟨⟨by omega, by omega, hr⟩, fun r hr' x hx => ?_, inT.mpr (hin _ g.he), fun a a0 a1 => ?_, fun a ha => ?_, fun a b c ha hb hc => ?_⟩
  · obtain ⟨i, hi, rfl⟩ := List.getElem_of_mem hr'
    obtain ⟨j, hj, rfl⟩ := List.getElem_of_mem hx
    have hj' := hj
    rw [hr _ hr'] at hj'
    obtain ⟨a, ha, ea⟩ := q (a := (i : Int)) ⟨by omega, by omega⟩
    obtain ⟨b, hb, eb⟩ := q (a := (j : Int)) ⟨by omega, by omega⟩
    have := hv a b ha hb
    rw [ea, eb, en, gt_get hi, gt_get hj] at this
    rw [this]
    exact inT.mpr (hin _ (g.cl _ _ ha hb))
  · obtain ⟨b, hb, rfl⟩ := q ⟨a0, a1⟩
    rw [hv _ _ g.he hb, hv _ _ hb g.he, (g.un b hb).1, (g.un b hb).2]
    exact ⟨rfl, rfl⟩
  · obtain ⟨b, hb, rfl⟩ := q ha
    obtain ⟨c, hc, e1, e2⟩ := g.bk2 hb
    exact ⟨nm c, inT.mpr (hin _ hc), by rw [IsBack, hv _ _ hb hc, hv _ _ hc hb, e1, e2]; exact ⟨rfl, rfl⟩⟩
  · obtain ⟨a', ha', ea⟩ := q ha
    obtain ⟨b', hb', eb⟩ := q hb
    obtain ⟨c', hc', ec⟩ := q hc
    rw [← ea, ← eb, ← ec, Asc, hv _ _ ha' hb', hv _ _ hb' hc', hv _ _ (g.cl _ _ ha' hb') hc', hv _ _ ha' (g.cl _ _ hb' hc'), g.asc _ _ _ ha' hb' hc']
/-! ### an abelian part, turned by steps -/
structure AbG (n : Int) (f : Int → Int → Int) : Prop where
  pos : 1 ≤ n
  cl : ∀ a b, In n (f a b)
  comm : ∀ a b, f a b = f b a
  asc : ∀ a b c, f (f a b) c = f a (f b c)
  un : ∀ a, In n a → f a 0 = a
  bk : ∀ a, In n a → ∃ b, In n b ∧ f a b = 0
def itr (ph : Int → Int) : Nat → Int → Int
  | 0, a => a
  | k + 1, a => ph (itr ph k a)
theorem itr_add {ph : Int → Int} (i j : Nat) (a : Int) : itr ph (i + j) a = itr ph i (itr ph j a) := by
  induction i with
  | zero => rw [Nat.zero_add]; rfl
  | succ i ih => rw [Nat.succ_add]; show ph _ = ph _; rw [ih]
structure Turn (n s : Int) (f : Int → Int → Int) (ph : Int → Int) (e : Int) : Prop where
  pos : 1 ≤ s
  cl : ∀ a, In n (ph a)
  add : ∀ a b, ph (f a b) = f (ph a) (ph b)
  z : ph 0 = 0
  es : ph e = e
  he : In n e
  back : ∀ a, In n a → itr ph s.toNat a = a
def xop (n s : Int) (f : Int → Int → Int) (ph : Int → Int) (e : Int) (A B : Int) : Int := (if s ≤ A / n + B / n then f (f (A % n) (itr ph (A / n).toNat (B % n))) e else f (A % n) (itr ph (A / n).toNat (B % n))) + n * ((A / n + B / n) % s)
section
variable {n s : Int} {f : Int → Int → Int} {ph : Int → Int} {e : Int}
theorem dm {n v k : Int} (h : In n v) : (v + n * k) % n = v ∧ (v + n * k) / n = k := by
  have hn : n ≠ 0 := by have := h.1; have := h.2; omega
  rw [Int.add_mul_emod_self_left, Int.add_mul_ediv_left _ _ hn, Int.emod_eq_of_lt h.1 h.2, Int.ediv_eq_zero_of_lt h.1 h.2]
  omega
theorem dmi {n s A : Int} (hn : 1 ≤ n) (h : In (n * s) A) : In n (A % n) ∧ In s (A / n) ∧ A = A % n + n * (A / n) := by
  have q1 := Int.emod_nonneg A (show n ≠ 0 by omega)
  have q2 := Int.emod_lt_of_pos A (show 0 < n by omega)
  have q3 := Int.emod_add_mul_ediv A n
  have q4 := Int.ediv_nonneg h.1 (show 0 ≤ n by omega)
  have q5 : A / n < s := Int.ediv_lt_of_lt_mul (by omega) (by rw [Int.mul_comm]; exact h.2)
  exact ⟨⟨q1, q2⟩, ⟨q4, q5⟩, by omega⟩
theorem dmb {n s v k : Int} (h : In n v) (hk : In s k) : In (n * s) (v + n * k) := by
  obtain ⟨a, b⟩ := h
  obtain ⟨c, d⟩ := hk
  have h1 : n * k ≤ n * (s - 1) := Int.mul_le_mul_of_nonneg_left (by omega) (by omega)
  have h2 : 0 ≤ n * k := Int.mul_nonneg (by omega) c
  rw [Int.mul_sub] at h1
  exact ⟨by omega, by omega⟩
def cy (s e i j : Int) : Int := if s ≤ i + j then e else 0
theorem xop_at (A : AbG n f) (T : Turn n s f ph e) {p q i j : Int} (hp : In n p) (hq : In n q) : xop n s f ph e (p + n * i) (q + n * j) = f (f p (itr ph i.toNat q)) (cy s e i j) + n * ((i + j) % s) := by
  unfold xop cy
  rw [(dm hp).1, (dm hp).2, (dm hq).1, (dm hq).2]
  split
  · rfl
  · rw [A.un _ (A.cl _ _)]
theorem itr_in (T : Turn n s f ph e) {a : Int} (h : In n a) : ∀ k, In n (itr ph k a)
  | 0 => h
  | k + 1 => T.cl _
theorem itr_f (T : Turn n s f ph e) (a b : Int) : ∀ k, itr ph k (f a b) = f (itr ph k a) (itr ph k b)
  | 0 => rfl
  | k + 1 => by show ph _ = f (ph _) (ph _); rw [itr_f T a b k, T.add]
theorem itr_cy (T : Turn n s f ph e) (i j : Int) : ∀ k, itr ph k (cy s e i j) = cy s e i j
  | 0 => rfl
  | k + 1 => by
    show ph _ = _
    rw [itr_cy T i j k]
    unfold cy
    split
    · exact T.es
    · exact T.z
theorem itr_mod (T : Turn n s f ph e) {i j r : Int} (hi : In s i) (hj : In s j) (hr : In n r) : itr ph ((i + j) % s).toNat r = itr ph i.toNat (itr ph j.toNat r) := by
  rw [← itr_add]
  by_cases h : i + j < s
  · rw [Int.emod_eq_of_lt (by have := hi.1; have := hj.1; omega) h, show (i + j).toNat = i.toNat + j.toNat by have := hi.1; have := hj.1; omega]
  · have e1 : (i + j) % s = i + j - s := by
      rw [← Int.sub_emod_right, Int.emod_eq_of_lt (by omega) (by have := hi.2; have := hj.2; omega)]
    rw [e1, show i.toNat + j.toNat = (i + j - s).toNat + s.toNat by have := hi.1; have := hj.1; have := T.pos; omega, itr_add, T.back _ hr]
theorem cy_cy (A : AbG n f) {i j k : Int} (hi : In s i) (hj : In s j) (hk : In s k) : f (cy s e i j) (cy s e ((i + j) % s) k) = f (cy s e j k) (cy s e i ((j + k) % s)) := by
  obtain ⟨i0, i1⟩ := hi
  obtain ⟨j0, j1⟩ := hj
  obtain ⟨k0, k1⟩ := hk
  have m : ∀ {x}, 0 ≤ x → x < s + s → x % s = if x < s then x else x - s := fun {x} h0 h1 => by
    by_cases h : x < s
    · rw [if_pos h, Int.emod_eq_of_lt h0 h]
    · rw [if_neg h, ← Int.sub_emod_right, Int.emod_eq_of_lt (by omega) (by omega)]
  rw [m (by omega) (by omega), m (by omega) (by omega)]
  unfold cy
  have c0 := A.comm e 0
  by_cases h1 : i + j < s <;> by_cases h2 : j + k < s <;> simp only [h1, h2, ite_true, ite_false, show ¬ (s ≤ i + j) ↔ i + j < s by omega]
  all_goals (repeat' split)
  all_goals first | rfl | omega | exact c0 | exact c0.symm
theorem ext_G (A : AbG n f) (T : Turn n s f ph e) : OpG (n * s) (xop n s f ph e) 0 := by
  have hn := A.pos
  have hs := T.pos
  have z : In n 0 := ⟨by omega, by omega⟩
  have mods : ∀ x : Int, In s (x % s) := fun x => ⟨Int.emod_nonneg x (by omega), Int.emod_lt_of_pos x (by omega)⟩
  have zs : In s 0 := ⟨by omega, by omega⟩
  have com0 : ∀ a, In n a → f 0 a = a := fun a ha => by rw [A.comm, A.un a ha]
  have i0 : ∀ k, itr ph k 0 = 0 := fun k => by
    induction k with
    | zero => rfl
    | succ k ih => show ph _ = 0; rw [ih, T.z]
  have Z0 : ∀ B, In (n * s) B → B = B % n + n * (B / n) ∧ In n (B % n) ∧ In s (B / n) := fun B h => ⟨(dmi hn h).2.2, (dmi hn h).1, (dmi hn h).2.1⟩
  refine ⟨⟨by omega, ?_⟩, fun a b ha hb => ?_, fun a ha => ?_, fun a ha => ?_, fun a b c ha hb hc => ?_⟩
  · have := Int.mul_le_mul_of_nonneg_left hs (show 0 ≤ n by omega)
    omega
  · unfold xop
    refine dmb ?_ (mods _)
    split <;> exact A.cl _ _
  · obtain ⟨ea, hp, hi⟩ := Z0 a ha
    generalize a % n = p at ea hp
    generalize a / n = i at ea hi
    subst ea
    constructor
    · have := xop_at (e := e) A T (i := 0) (j := i) z hp
      rw [Int.mul_zero, Int.add_zero] at this
      rw [this, Int.zero_add, Int.emod_eq_of_lt hi.1 hi.2]
      unfold cy
      rw [if_neg (by have := hi.2; omega), A.un _ (A.cl _ _)]
      show f 0 p + _ = _
      rw [com0 p hp]
    · have := xop_at (e := e) A T (i := i) (j := 0) hp z
      rw [Int.mul_zero, Int.add_zero] at this
      rw [this, Int.add_zero, Int.emod_eq_of_lt hi.1 hi.2]
      unfold cy
      rw [if_neg (by have := hi.2; omega), A.un _ (A.cl _ _), i0, A.un _ hp]
  · obtain ⟨ea, hp, hi⟩ := Z0 a ha
    generalize a % n = p at ea hp
    generalize a / n = i at ea hi
    subst ea
    by_cases h : i = 0
    · subst h
      obtain ⟨b, hb, e1⟩ := A.bk p hp
      refine ⟨b + n * 0, dmb hb zs, ?_⟩
      rw [xop_at A T hp hb]
      show f (f p b) (cy s e 0 0) + n * (0 % s) = 0
      unfold cy
      rw [e1, if_neg (by omega), A.un 0 z, Int.zero_emod, Int.mul_zero]
      rfl
    · have i1 := hi.1
      have i2 := hi.2
      obtain ⟨r, hr, e1⟩ := A.bk (f p e) (A.cl _ _)
      refine ⟨itr ph (s - i).toNat r + n * (s - i), dmb (itr_in T hr _) ⟨by omega, by omega⟩, ?_⟩
      rw [xop_at A T hp (itr_in T hr _), ← itr_add, show i.toNat + (s - i).toNat = s.toNat by omega, T.back r hr, show i + (s - i) = s by omega, Int.emod_self, Int.mul_zero, Int.add_zero]
      unfold cy
      rw [if_pos (by omega), A.asc, A.comm r e, ← A.asc, e1]
  · obtain ⟨ea, hp, hi⟩ := Z0 a ha
    obtain ⟨eb, hq, hj⟩ := Z0 b hb
    obtain ⟨ec, hr, hk⟩ := Z0 c hc
    generalize a % n = p at ea hp
    generalize a / n = i at ea hi
    generalize b % n = q at eb hq
    generalize b / n = j at eb hj
    generalize c % n = r at ec hr
    generalize c / n = k at ec hk
    subst ea eb ec
    rw [xop_at A T hp hq, xop_at A T hq hr, xop_at A T (A.cl _ _) hr, xop_at A T hp (A.cl _ _), itr_mod T hi hj hr, itr_f T, itr_f T, itr_cy T]
    have e1 : ((i + j) % s + k) % s = (i + (j + k) % s) % s := by rw [Int.emod_add_emod, Int.add_emod_emod, Int.add_assoc]
    rw [e1]
    congr 1
    have c1 := cy_cy (e := e) A hi hj hk
    have ia : Std.Associative f := ⟨A.asc⟩
    have ic : Std.Commutative f := ⟨A.comm⟩
    generalize itr ph i.toNat q = q' at *
    generalize itr ph i.toNat (itr ph j.toNat r) = r' at *
    generalize cy s e i j = x1 at *
    generalize cy s e ((i + j) % s) k = x2 at *
    generalize cy s e j k = x3 at *
    generalize cy s e i ((j + k) % s) = x4 at *
    have l1 : f (f (f (f p q') x1) r') x2 = f (f (f p q') r') (f x1 x2) := by ac_rfl
    have l2 : f (f p (f (f q' r') x3)) x4 = f (f (f p q') r') (f x3 x4) := by ac_rfl
    rw [l1, l2, c1]
end
end TB
namespace TB
open PySem L2
/-! ### three rounds -/
def suF (a b c p q : Int) : Int := (p + q) % a + a * ((p / a + q / a) % b) + a * b * ((p / (a * b) + q / (a * b)) % c)
/-- what the turn makes of the two first rounds -/
def tuP (a b u v k : Int) (x y : Int) : Int × Int := if k = 1 then (y, x) else if k = 2 then ((0 - y) % a, (x - y) % a) else if k = 3 then (x, (y + x) % b) else if k = 4 then ((x + a / 2 * y) % a, y) else (x * u % a, y * v % b)
def tuF (a b c u v w k p : Int) : Int := (tuP a b u v k (p % a) (p / a % b)).1 + a * ((tuP a b u v k (p % a) (p / a % b)).2 + b * (p / (a * b) * w % c))
/-- x, y, z of the three rounds as one number -/
def cod (a b x y z : Int) : Int := x + a * (y + b * z)
section
variable {a b c : Int}
theorem cod_d (ha : 1 ≤ a) (hb : 1 ≤ b) {x y z : Int} (hx : In a x) (hy : In b y) : cod a b x y z % a = x ∧ cod a b x y z / a = y + b * z ∧ cod a b x y z / a % b = y ∧ cod a b x y z / (a * b) = z := by
  have h1 := dm (n := a) (k := y + b * z) hx
  have h2 := dm (n := b) (k := z) hy
  have e : cod a b x y z = x + a * (y + b * z) := rfl
  rw [e, h1.1, h1.2, ← Int.ediv_ediv_of_nonneg (by omega), h1.2, h2.1, h2.2]
  exact ⟨rfl, rfl, rfl, rfl⟩
theorem suF_cod (p q : Int) : suF a b c p q = cod a b ((p + q) % a) ((p / a + q / a) % b) ((p / (a * b) + q / (a * b)) % c) := by
  unfold suF cod
  rw [Int.mul_add, Int.mul_assoc, Int.add_assoc]
theorem md' {n : Int} (hn : 1 ≤ n) (x : Int) : In n (x % n) := ⟨Int.emod_nonneg x (by omega), Int.emod_lt_of_pos x (by omega)⟩
theorem cod_in (ha : 1 ≤ a) (hb : 1 ≤ b) {x y z : Int} (hx : In a x) (hy : In b y) (hz : In c z) : In (a * b * c) (cod a b x y z) := by
  have h2 := dmb hy hz
  have h1 := dmb hx h2
  rw [← Int.mul_assoc] at h1
  exact h1
theorem cod_of (ha : 1 ≤ a) (hb : 1 ≤ b) {p : Int} (h : In (a * b * c) p) : ∃ x y z, In a x ∧ In b y ∧ In c z ∧ p = cod a b x y z := by
  rw [Int.mul_assoc] at h
  obtain ⟨h1, h2, h3⟩ := dmi ha h
  obtain ⟨h4, h5, h6⟩ := dmi hb h2
  refine ⟨p % a, p / a % b, p / a / b, h1, h4, h5, ?_⟩
  unfold cod
  rw [← h6, ← h3]
theorem suF_at (ha : 1 ≤ a) (hb : 1 ≤ b) {x y z x' y' z' : Int} (hx : In a x) (hy : In b y) (hx' : In a x') (hy' : In b y') : suF a b c (cod a b x y z) (cod a b x' y' z') = cod a b ((x + x') % a) ((y + y') % b) ((z + z') % c) := by
  obtain ⟨d1, d2, d3, d4⟩ := cod_d ha hb hx hy (z := z)
  obtain ⟨e1, e2, e3, e4⟩ := cod_d ha hb hx' hy' (z := z')
  rw [suF_cod, d2, d4, e2, e4, ← Int.emod_add_emod, ← Int.add_emod_emod, d1, e1]
  congr 1
  rw [show y + b * z + (y' + b * z') = y + y' + b * (z + z') by rw [Int.mul_add]; omega, Int.add_mul_emod_self_left]
/-- told of every number by the numbers that it is like -/
theorem suF_like (ha : 1 ≤ a) (hb : 1 ≤ b) (p : Int) : ∃ x y z, In a x ∧ In b y ∧ p = cod a b x y z := by
  refine ⟨p % a, p / a % b, p / a / b, md' ha _, md' hb _, ?_⟩
  unfold cod
  rw [Int.emod_add_mul_ediv, Int.emod_add_mul_ediv]
theorem suF_G (ha : 1 ≤ a) (hb : 1 ≤ b) (hc : 1 ≤ c) : AbG (a * b * c) (suF a b c) := by
  have hab : 1 ≤ a * b := by
    have := Int.mul_le_mul_of_nonneg_left hb (show 0 ≤ a by omega)
    omega
  refine ⟨?_, fun p q => ?_, fun p q => ?_, fun p q r => ?_, fun p hp => ?_, fun p hp => ?_⟩
  · have := Int.mul_le_mul_of_nonneg_left hc (show 0 ≤ a * b by omega)
    omega
  · rw [suF_cod]
    exact cod_in ha hb (md' ha _) (md' hb _) (md' hc _)
  · unfold suF
    rw [Int.add_comm p q, Int.add_comm (p / a), Int.add_comm (p / (a * b))]
  · obtain ⟨x, y, z, hx, hy, rfl⟩ := suF_like ha hb p
    obtain ⟨x1, y1, z1, hx1, hy1, rfl⟩ := suF_like ha hb q
    obtain ⟨x2, y2, z2, hx2, hy2, rfl⟩ := suF_like ha hb r
    rw [suF_at ha hb hx hy hx1 hy1, suF_at ha hb hx1 hy1 hx2 hy2, suF_at ha hb (md' ha _) (md' hb _) hx2 hy2, suF_at ha hb hx hy (md' ha _) (md' hb _)]
    simp only [Int.emod_add_emod, Int.add_emod_emod, Int.add_assoc]
  · obtain ⟨x, y, z, hx, hy, hz, rfl⟩ := cod_of ha hb hp
    have z0 : (0 : Int) = cod a b 0 0 0 := by unfold cod; simp
    have := suF_at (c := c) ha hb hx hy (x' := 0) (y' := 0) (z := z) (z' := 0) ⟨by omega, by omega⟩ ⟨by omega, by omega⟩
    rw [← z0, Int.add_zero, Int.add_zero, Int.add_zero, Int.emod_eq_of_lt hx.1 hx.2, Int.emod_eq_of_lt hy.1 hy.2, Int.emod_eq_of_lt hz.1 hz.2] at this
    exact this
  · obtain ⟨x, y, z, hx, hy, hz, rfl⟩ := cod_of ha hb hp
    refine ⟨cod a b ((0 - x) % a) ((0 - y) % b) ((0 - z) % c), cod_in ha hb (md' ha _) (md' hb _) (md' hc _), ?_⟩
    rw [suF_at ha hb hx hy (md' ha _) (md' hb _)]
    simp only [Int.add_emod_emod]
    rw [show x + (0 - x) = 0 by omega, show y + (0 - y) = 0 by omega, show z + (0 - z) = 0 by omega]
    unfold cod
    simp
end
end TB
namespace TB
open PySem L2
/-! ### the turn -/
structure TurnOk (a b c s u v w k : Int) : Prop where
  ha : 1 ≤ a
  hb : 1 ≤ b
  hc : 1 ≤ c
  hs : 1 ≤ s
  kk : k = 0 ∨ (k = 1 ∧ a = b ∧ s % 2 = 0) ∨ (k = 2 ∧ a = b ∧ s % 3 = 0) ∨ (k = 3 ∧ a % b = 0 ∧ s % b = 0) ∨ (k = 4 ∧ a % 2 = 0 ∧ b % 2 = 0 ∧ s % 2 = 0)
  hu : u ^ s.toNat % a = 1 % a
  hv : v ^ s.toNat % b = 1 % b
  hw : w ^ s.toNat % c = 1 % c
theorem mdk {n x y : Int} (k : Int) (h : x = y + n * k) : x % n = y % n := by rw [h, Int.add_mul_emod_self_left]
section
variable {a b c s u v w k : Int}
theorem tuP_in (h : TurnOk a b c s u v w k) {x y : Int} (hx : In a x) (hy : In b y) : In a (tuP a b u v k x y).1 ∧ In b (tuP a b u v k x y).2 := by
  have ha := h.ha
  have hb := h.hb
  unfold tuP
  rcases h.kk with rfl | ⟨rfl, rfl, _⟩ | ⟨rfl, rfl, _⟩ | ⟨rfl, _⟩ | ⟨rfl, _⟩ <;> simp
  · exact ⟨md' ha _, md' hb _⟩
  · exact ⟨hy, hx⟩
  · exact ⟨md' ha _, md' hb _⟩
  · exact ⟨hx, md' hb _⟩
  · exact ⟨md' ha _, hy⟩
theorem tuP_add (h : TurnOk a b c s u v w k) {x y x' y' : Int} (hx : In a x) (hy : In b y) (hx' : In a x') (hy' : In b y') :
    tuP a b u v k ((x + x') % a) ((y + y') % b) = (((tuP a b u v k x y).1 + (tuP a b u v k x' y').1) % a, ((tuP a b u v k x y).2 + (tuP a b u v k x' y').2) % b) := by
  have ha := h.ha
  have hb := h.hb
  have dx := Int.emod_def (x + x') a
  have dy := Int.emod_def (y + y') b
  unfold tuP
  rcases h.kk with rfl | ⟨rfl, rfl, _⟩ | ⟨rfl, rfl, _⟩ | ⟨rfl, q1, _⟩ | ⟨rfl, q1, q2, _⟩ <;> simp
  · rw [← Int.add_mul, ← Int.add_mul]
    exact ⟨by rw [Int.mul_emod, Int.emod_emod, ← Int.mul_emod], by rw [Int.mul_emod, Int.emod_emod, ← Int.mul_emod]⟩
  · refine ⟨mdk ((y + y') / a) ?_, mdk 0 ?_⟩
    · rw [dy]; omega
    · omega
  · obtain ⟨m, em⟩ := Int.dvd_of_emod_eq_zero q1
    refine mdk (-(m * ((x + x') / a))) ?_
    rw [dx, Int.mul_neg, ← Int.mul_assoc, ← em]; omega
  · obtain ⟨m, em⟩ := Int.dvd_of_emod_eq_zero q1
    obtain ⟨m2, em2⟩ := Int.dvd_of_emod_eq_zero q2
    refine mdk (-(m2 * ((y + y') / b))) ?_
    have e2 : a / 2 * b = a * m2 := by
      rw [show a / 2 = m by omega, em, em2, Int.mul_comm 2 m, Int.mul_assoc]
    rw [dy, Int.mul_sub, Int.mul_neg, ← Int.mul_assoc, ← Int.mul_assoc, ← e2, Int.mul_add]
    omega

theorem tuF_cod (p : Int) : tuF a b c u v w k p = cod a b (tuP a b u v k (p % a) (p / a % b)).1 (tuP a b u v k (p % a) (p / a % b)).2 (p / (a * b) * w % c) := rfl
theorem tuF_at (h : TurnOk a b c s u v w k) {x y z : Int} (hx : In a x) (hy : In b y) : tuF a b c u v w k (cod a b x y z) = cod a b (tuP a b u v k x y).1 (tuP a b u v k x y).2 (z * w % c) := by
  obtain ⟨d1, d2, d3, d4⟩ := cod_d h.ha h.hb hx hy (z := z)
  rw [tuF_cod, d1, d3, d4]
theorem tuF_add (h : TurnOk a b c s u v w k) (p q : Int) : tuF a b c u v w k (suF a b c p q) = suF a b c (tuF a b c u v w k p) (tuF a b c u v w k q) := by
  have ha := h.ha
  have hb := h.hb
  obtain ⟨x, y, z, hx, hy, rfl⟩ := suF_like ha hb p
  obtain ⟨x1, y1, z1, hx1, hy1, rfl⟩ := suF_like ha hb q
  rw [suF_at ha hb hx hy hx1 hy1, tuF_at h (md' ha _) (md' hb _), tuF_at h hx hy, tuF_at h hx1 hy1, suF_at ha hb (tuP_in h hx hy).1 (tuP_in h hx hy).2 (tuP_in h hx1 hy1).1 (tuP_in h hx1 hy1).2, tuP_add h hx hy hx1 hy1]
  congr 1
  rw [Int.mul_emod, Int.emod_emod, ← Int.mul_emod, Int.add_mul, Int.emod_add_emod, Int.add_emod_emod]
theorem tuF_in (h : TurnOk a b c s u v w k) (p : Int) : In (a * b * c) (tuF a b c u v w k p) := by
  obtain ⟨x, y, z, hx, hy, rfl⟩ := suF_like h.ha h.hb p
  rw [tuF_at h hx hy]
  exact cod_in h.ha h.hb (tuP_in h hx hy).1 (tuP_in h hx hy).2 (md' h.hc _)
theorem tuF_z (h : TurnOk a b c s u v w k) : tuF a b c u v w k 0 = 0 := by
  have ha := h.ha
  have hb := h.hb
  have z0 : (0 : Int) = cod a b 0 0 0 := by unfold cod; simp
  have := tuF_at h (x := 0) (y := 0) (z := 0) ⟨by omega, by omega⟩ ⟨by omega, by omega⟩
  rw [← z0] at this
  rw [this]
  unfold tuP cod
  rcases h.kk with rfl | ⟨rfl, rfl, _⟩ | ⟨rfl, rfl, _⟩ | ⟨rfl, _⟩ | ⟨rfl, _⟩ <;> simp
/-- the two first rounds, turned k times -/
def itP (F : Int → Int → Int × Int) : Nat → Int × Int → Int × Int
  | 0, q => q
  | n + 1, q => F (itP F n q).1 (itP F n q).2
theorem itP_in (h : TurnOk a b c s u v w k) {x y : Int} (hx : In a x) (hy : In b y) : ∀ n, In a (itP (tuP a b u v k) n (x, y)).1 ∧ In b (itP (tuP a b u v k) n (x, y)).2
  | 0 => ⟨hx, hy⟩
  | n + 1 => tuP_in h (itP_in h hx hy n).1 (itP_in h hx hy n).2
theorem itP_add {F : Int → Int → Int × Int} (m n : Nat) (q : Int × Int) : itP F (m + n) q = itP F m (itP F n q) := by
  induction m with
  | zero => rw [Nat.zero_add]; rfl
  | succ m ih => rw [Nat.succ_add]; show F _ _ = F _ _; rw [ih]
theorem itP_per {F : Int → Int → Int × Int} {d : Nat} {q : Int × Int} (h : itP F d q = q) : ∀ m, itP F (d * m) q = q
  | 0 => rfl
  | m + 1 => by rw [Nat.mul_succ, itP_add, h, itP_per h m]
theorem itr_cod (h : TurnOk a b c s u v w k) {x y z : Int} (hx : In a x) (hy : In b y) (hz : In c z) : ∀ n : Nat, itr (tuF a b c u v w k) n (cod a b x y z) = cod a b (itP (tuP a b u v k) n (x, y)).1 (itP (tuP a b u v k) n (x, y)).2 (z * w ^ n % c)
  | 0 => by
    show cod a b x y z = cod a b x y _
    rw [Int.pow_zero, Int.mul_one, Int.emod_eq_of_lt hz.1 hz.2]
  | n + 1 => by
    show tuF a b c u v w k _ = _
    rw [itr_cod h hx hy hz n, tuF_at h (itP_in h hx hy n).1 (itP_in h hx hy n).2]
    show cod a b _ _ _ = cod a b _ _ _
    congr 1
    rw [Int.pow_succ, ← Int.mul_assoc, Int.mul_emod, Int.emod_emod, ← Int.mul_emod]
theorem pow_back {n u x : Int} {m : Nat} (hx : In n x) (h : u ^ m % n = 1 % n) : x * u ^ m % n = x := by
  rw [Int.mul_emod, h, ← Int.mul_emod, Int.mul_one, Int.emod_eq_of_lt hx.1 hx.2]
theorem itP_0 {x y : Int} (hx : In a x) (hy : In b y) : ∀ n : Nat, itP (tuP a b u v 0) n (x, y) = (x * u ^ n % a, y * v ^ n % b)
  | 0 => by
    show (x, y) = _
    rw [Int.pow_zero, Int.pow_zero, Int.mul_one, Int.mul_one, Int.emod_eq_of_lt hx.1 hx.2, Int.emod_eq_of_lt hy.1 hy.2]
  | n + 1 => by
    show tuP a b u v 0 _ _ = _
    rw [itP_0 hx hy n]
    unfold tuP
    simp only [show ¬ ((0 : Int) = 1) by decide, show ¬ ((0 : Int) = 2) by decide, show ¬ ((0 : Int) = 3) by decide, show ¬ ((0 : Int) = 4) by decide, ite_false]
    rw [Int.pow_succ, Int.pow_succ, ← Int.mul_assoc, ← Int.mul_assoc]
    congr 1 <;> rw [Int.mul_emod, Int.emod_emod, ← Int.mul_emod]
theorem itP_3 {x y : Int} (hx : In a x) (hy : In b y) : ∀ n : Nat, itP (tuP a b u v 3) n (x, y) = (x, (y + n * x) % b)
  | 0 => by
    show (x, y) = _
    rw [show ((0 : Nat) : Int) * x = 0 by simp, Int.add_zero, Int.emod_eq_of_lt hy.1 hy.2]
  | n + 1 => by
    show tuP a b u v 3 _ _ = _
    rw [itP_3 hx hy n]
    unfold tuP
    simp only [show ¬ ((3 : Int) = 1) by decide, show ¬ ((3 : Int) = 2) by decide, ite_false, ite_true]
    rw [Int.emod_add_emod, show ((n + 1 : Nat) : Int) = n + 1 by omega, Int.add_mul, Int.one_mul, Int.add_assoc]
theorem itP_4 {x y : Int} (hx : In a x) (hy : In b y) : ∀ n : Nat, itP (tuP a b u v 4) n (x, y) = ((x + n * (a / 2 * y)) % a, y)
  | 0 => by
    show (x, y) = _
    rw [show ((0 : Nat) : Int) * (a / 2 * y) = 0 by simp, Int.add_zero, Int.emod_eq_of_lt hx.1 hx.2]
  | n + 1 => by
    show tuP a b u v 4 _ _ = _
    rw [itP_4 hx hy n]
    unfold tuP
    simp only [show ¬ ((4 : Int) = 1) by decide, show ¬ ((4 : Int) = 2) by decide, show ¬ ((4 : Int) = 3) by decide, ite_false, ite_true]
    rw [Int.emod_add_emod, show ((n + 1 : Nat) : Int) = n + 1 by omega, Int.add_mul, Int.one_mul, Int.add_assoc]
theorem itP_back (h : TurnOk a b c s u v w k) {x y : Int} (hx : In a x) (hy : In b y) : itP (tuP a b u v k) s.toNat (x, y) = (x, y) := by
  have hs := h.hs
  have es : ((s.toNat : Nat) : Int) = s := by omega
  rcases h.kk with rfl | ⟨rfl, rfl, q⟩ | ⟨rfl, rfl, q⟩ | ⟨rfl, q1, q2⟩ | ⟨rfl, q1, q2, q3⟩
  · rw [itP_0 hx hy, pow_back hx h.hu, pow_back hy h.hv]
  · rw [show s.toNat = 2 * (s.toNat / 2) by omega]
    refine itP_per ?_ _
    simp [itP, tuP]
  · rw [show s.toNat = 3 * (s.toNat / 3) by omega]
    refine itP_per ?_ _
    have e1 : ((0 - x) % a - (x - y) % a) % a = (0 - (x + (x - y))) % a := by rw [Int.emod_sub_emod, Int.sub_emod_emod]; congr 1; omega
    simp [itP, tuP]
    have hxx := Int.emod_eq_of_lt hx.1 hx.2
    have hyy := Int.emod_eq_of_lt hy.1 hy.2
    constructor
    · refine Eq.trans (mdk ((-y - (x - y)) / a) ?_) hxx
      rw [Int.emod_def]
      omega
    · refine Eq.trans (mdk ((x - y) / a) ?_) hyy
      rw [Int.emod_def]
      omega
  · rw [itP_3 hx hy, es]
    obtain ⟨m, em⟩ := Int.dvd_of_emod_eq_zero q2
    rw [em, Int.mul_assoc, Int.add_mul_emod_self_left, Int.emod_eq_of_lt hy.1 hy.2]
  · rw [itP_4 hx hy, es]
    obtain ⟨m, em⟩ := Int.dvd_of_emod_eq_zero q3
    have e2 : s * (a / 2 * y) = a * (m * y) := by
      rw [em, Int.mul_comm 2 m, Int.mul_assoc, ← Int.mul_assoc 2, Int.mul_ediv_cancel' (Int.dvd_of_emod_eq_zero q1), ← Int.mul_assoc, Int.mul_comm m a, Int.mul_assoc]
    rw [e2, Int.add_mul_emod_self_left, Int.emod_eq_of_lt hx.1 hx.2]
theorem tu_T (h : TurnOk a b c s u v w k) {e : Int} (he : In (a * b * c) e) (hes : tuF a b c u v w k e = e) : Turn (a * b * c) s (suF a b c) (tuF a b c u v w k) e := by
  refine ⟨h.hs, tuF_in h, tuF_add h, tuF_z h, hes, he, fun p hp => ?_⟩
  obtain ⟨x, y, z, hx, hy, hz, rfl⟩ := cod_of h.ha h.hb hp
  rw [itr_cod h hx hy hz, itP_back h hx hy, pow_back hz h.hw]
end
end TB
namespace TB
open PySem L2
def tab (N : Int) (f : Int → Int → Int) : Tbl := (irange N).map fun A => (irange N).map (f A)
theorem bnd {a b c : Int} (ha : 1 ≤ a) (hb : 1 ≤ b) (hc : 1 ≤ c) (h : a * b * c ≤ 23) : a ≤ 23 ∧ b ≤ 23 ∧ c ≤ 23 ∧ 1 ≤ a * b ∧ a * b ≤ 23 ∧ 1 ≤ a * b * c := by
  have h1 : a * 1 ≤ a * b := Int.mul_le_mul_of_nonneg_left hb (by omega)
  have h2 : 1 * b ≤ a * b := Int.mul_le_mul_of_nonneg_right ha (by omega)
  have h3 : a * b * 1 ≤ a * b * c := Int.mul_le_mul_of_nonneg_left hc (by omega)
  have h4 : 1 * c ≤ a * b * c := Int.mul_le_mul_of_nonneg_right (by omega) (by omega)
  omega
section
variable {cc : Cn} {Γ : List Sl} {k : Nat} {a b c d : Int}
theorem ev_s0 (e : Γ[k]? = some (.im [a, b, c, d])) : Ev cc Γ (tOp (gIx cc.Z.K) (tVar k) (tC (.int 0))) (.im a) := ev_ix (ev_var e) ev_int (by decide) (by simp)
theorem ev_s1 (e : Γ[k]? = some (.im [a, b, c, d])) : Ev cc Γ (tOp (gIx cc.Z.K) (tVar k) (tC (.int 1))) (.im b) := ev_ix (ev_var e) ev_int (by decide) (by simp)
theorem ev_s2 (e : Γ[k]? = some (.im [a, b, c, d])) : Ev cc Γ (tOp (gIx cc.Z.K) (tVar k) (tC (.int 2))) (.im c) := ev_ix (ev_var e) ev_int (by decide) (by simp)
theorem ev_s3 (e : Γ[k]? = some (.im [a, b, c, d])) : Ev cc Γ (tOp (gIx cc.Z.K) (tVar k) (tC (.int 3))) (.im d) := ev_ix (ev_var e) ev_int (by decide) (by simp)
theorem ev_u0 (e : Γ[k]? = some (.im [a, b, c])) : Ev cc Γ (tOp (gIx cc.Z.K) (tVar k) (tC (.int 0))) (.im a) := ev_ix (ev_var e) ev_int (by decide) (by simp)
theorem ev_u1 (e : Γ[k]? = some (.im [a, b, c])) : Ev cc Γ (tOp (gIx cc.Z.K) (tVar k) (tC (.int 1))) (.im b) := ev_ix (ev_var e) ev_int (by decide) (by simp)
theorem ev_u2 (e : Γ[k]? = some (.im [a, b, c])) : Ev cc Γ (tOp (gIx cc.Z.K) (tVar k) (tC (.int 2))) (.im c) := ev_ix (ev_var e) ev_int (by decide) (by simp)
theorem cmul23 {x y : Int} (h0 : 0 ≤ x) (h1 : x ≤ 1000) (h2 : 0 ≤ y) (h3 : y ≤ 1000) : CMulW x y := cmulS (by omega) (by omega) (by omega) (by omega)
end
def KindOk (a b s k : Int) : Prop := k = 0 ∨ (k = 1 ∧ a = b ∧ s % 2 = 0) ∨ (k = 2 ∧ a = b ∧ s % 3 = 0) ∨ (k = 3 ∧ a % b = 0 ∧ s % b = 0) ∨ (k = 4 ∧ a % 2 = 0 ∧ b % 2 = 0 ∧ s % 2 = 0)
def UnitOk (n s u : Int) : Prop := 0 ≤ u ∧ u < n ∧ u ^ s.toNat % n = 1 % n
end TB

/-! TbGt: plain law: powers, orders, parts of a group told by its table. -/
namespace TB
open PySem L2
theorem nodup_le {α : Type} [DecidableEq α] : ∀ {A B : List α}, A.Nodup → (∀ x ∈ A, x ∈ B) → A.length ≤ B.length
  | [], _, _, _ => Nat.zero_le _
  | a :: A, B, nd, h => by
    have nd' := List.nodup_cons.mp nd
    have hb := h a List.mem_cons_self
    have ih := nodup_le (A := A) (B := B.erase a) nd'.2 fun x hx => by
      have : x ≠ a := fun z => nd'.1 (z ▸ hx)
      exact (List.mem_erase_of_ne this).mpr (h x (List.mem_cons_of_mem _ hx))
    rw [List.length_erase_of_mem hb] at ih
    have : 0 < B.length := List.length_pos_of_mem hb
    simp only [List.length_cons]
    omega
theorem filter_two {α : Type} (p : α → Bool) : ∀ L : List α, L.length = (L.filter p).length + (L.filter fun x => !p x).length
  | [] => rfl
  | a :: L => by
    have ih := filter_two p L
    rw [List.filter_cons, List.filter_cons]
    cases p a <;> simp <;> omega
theorem nodup_irange' (n : Int) : (irange n).Nodup := by
  unfold irange List.Nodup
  rw [List.pairwise_map]
  exact (List.nodup_range).imp (fun h e => h (by omega))
theorem least {p : Nat → Prop} (h : ∃ k, p k) : ∃ k, p k ∧ ∀ j, j < k → ¬ p j := by
  obtain ⟨k, hk⟩ := h
  induction k using Nat.strongRecOn with
  | _ k ih =>
    by_cases q : ∃ j, j < k ∧ p j
    · obtain ⟨j, hj, hp⟩ := q
      exact ih j hj hp
    · exact ⟨k, hk, fun j hj hp => q ⟨j, hj, hp⟩⟩
section
variable {t : Tbl} {e : Int}
theorem GTbl.cl (h : GTbl t e) {a b : Int} (ha : InT t a) (hb : InT t b) : InT t (en t a b) := by
  have h1 : (gt t a).length = t.length := h.sz.2.2 _ (gt_mem ha.1 ha.2)
  exact h.ns _ (gt_mem ha.1 ha.2) _ (gt_mem hb.1 (by rw [h1]; exact hb.2))
theorem GTbl.row (h : GTbl t e) {a : Int} (ha : InT t a) : (gt t a).length = t.length := h.sz.2.2 _ (gt_mem ha.1 ha.2)
theorem GTbl.u1 (h : GTbl t e) {a : Int} (ha : InT t a) : en t e a = a := (h.un a ha.1 ha.2).1
theorem GTbl.u2 (h : GTbl t e) {a : Int} (ha : InT t a) : en t a e = a := (h.un a ha.1 ha.2).2
theorem GTbl.as (h : GTbl t e) {a b c : Int} (ha : InT t a) (hb : InT t b) (hc : InT t c) : en t (en t a b) c = en t a (en t b c) := h.asc a b c ha hb hc
theorem GTbl.canL (h : GTbl t e) {a b c : Int} (ha : InT t a) (hb : InT t b) (hc : InT t c) (q : en t a b = en t a c) : b = c := by
  obtain ⟨i, hi, e1, e2⟩ := h.bk a ha
  have := congrArg (en t i) q
  rw [← h.as hi ha hb, ← h.as hi ha hc, e2, h.u1 hb, h.u1 hc] at this
  exact this
theorem GTbl.canR (h : GTbl t e) {a b c : Int} (ha : InT t a) (hb : InT t b) (hc : InT t c) (q : en t b a = en t c a) : b = c := by
  obtain ⟨i, hi, e1, e2⟩ := h.bk a ha
  have := congrArg (fun x => en t x i) q
  rw [h.as hb ha hi, h.as hc ha hi, e1, h.u2 hb, h.u2 hc] at this
  exact this
/-! ### powers -/
def pw (t : Tbl) (e a : Int) : Nat → Int
  | 0 => e
  | k + 1 => en t (pw t e a k) a
theorem pw_in (h : GTbl t e) {a : Int} (ha : InT t a) : ∀ k, InT t (pw t e a k)
  | 0 => h.he
  | k + 1 => h.cl (pw_in h ha k) ha
theorem pw_add (h : GTbl t e) {a : Int} (ha : InT t a) (i : Nat) : ∀ j, pw t e a (i + j) = en t (pw t e a i) (pw t e a j)
  | 0 => (h.u2 (pw_in h ha i)).symm
  | j + 1 => by
    show en t (pw t e a (i + j)) a = en t _ (en t (pw t e a j) a)
    rw [pw_add h ha i j, h.as (pw_in h ha i) (pw_in h ha j) ha]
structure IsOrd (t : Tbl) (e a : Int) (d : Nat) : Prop where
  pos : 1 ≤ d
  one : pw t e a d = e
  low : ∀ k, 0 < k → k < d → pw t e a k ≠ e
theorem ex_back (h : GTbl t e) {a : Int} (ha : InT t a) : ∃ k, 0 < k ∧ k ≤ t.length ∧ pw t e a k = e := by
  have hlen := h.sz.1
  have : ¬ ((List.range (t.length + 1)).map (pw t e a)).Nodup := fun nd => by
    have := nodup_le (B := irange t.length) nd fun x hx => by
      obtain ⟨i, _, rfl⟩ := List.mem_map.mp hx
      exact mem_irange.mpr (pw_in h ha i)
    rw [List.length_map, List.length_range, irange_len] at this
    omega
  obtain ⟨i, j, hij, hj, eq⟩ : ∃ i j, i < j ∧ j < t.length + 1 ∧ pw t e a i = pw t e a j := by
    refine Classical.byContradiction fun hc => this ?_
    rw [List.Nodup, List.pairwise_map, List.pairwise_iff_getElem]
    intro i j hi hj hlt z
    simp only [List.getElem_range] at z
    simp only [List.length_range] at hi hj
    exact hc ⟨i, j, hlt, hj, z⟩
  refine ⟨j - i, by omega, by omega, ?_⟩
  have q := pw_add h ha i (j - i)
  rw [show i + (j - i) = j by omega, ← eq] at q
  have q2 : en t (pw t e a i) e = en t (pw t e a i) (pw t e a (j - i)) := by rw [h.u2 (pw_in h ha i)]; exact q
  exact (h.canL (pw_in h ha i) h.he (pw_in h ha _) q2).symm
theorem ex_ord (h : GTbl t e) {a : Int} (ha : InT t a) : ∃ d, IsOrd t e a d ∧ d ≤ t.length := by
  obtain ⟨k, k0, k1, k2⟩ := ex_back h ha
  obtain ⟨d, ⟨d0, d1⟩, d2⟩ := least (p := fun k => 0 < k ∧ pw t e a k = e) ⟨k, k0, k2⟩
  refine ⟨d, ⟨d0, d1, fun j j0 j1 z => d2 j j1 ⟨j0, z⟩⟩, ?_⟩
  by_cases q : d ≤ k
  · omega
  · exact absurd ⟨k0, k2⟩ (d2 k (by omega))
theorem ord_one {a : Int} {d d' : Nat} (h : IsOrd t e a d) (h' : IsOrd t e a d') : d = d' := by
  rcases Nat.lt_trichotomy d d' with q | q | q
  · exact absurd h.one (h'.low d h.pos q)
  · exact q
  · exact absurd h'.one (h.low d' h'.pos q)
theorem pw_mul (h : GTbl t e) {a : Int} (ha : InT t a) {d : Nat} (hd : pw t e a d = e) : ∀ m, pw t e a (d * m) = e
  | 0 => rfl
  | m + 1 => by rw [Nat.mul_succ, pw_add h ha, pw_mul h ha hd m, hd, h.u1 h.he]
theorem pw_mod (h : GTbl t e) {a : Int} (ha : InT t a) {d : Nat} (hd : pw t e a d = e) (k : Nat) : pw t e a (k % d) = pw t e a k := by
  have q := pw_add h ha (d * (k / d)) (k % d)
  rw [Nat.div_add_mod, pw_mul h ha hd, h.u1 (pw_in h ha _)] at q
  exact q.symm
/-! ### parts -/
structure Part (t : Tbl) (e : Int) (H : List Int) : Prop where
  nd : H.Nodup
  inn : ∀ x ∈ H, InT t x
  one : e ∈ H
  mul : ∀ x ∈ H, ∀ y ∈ H, en t x y ∈ H
  bk : ∀ x ∈ H, ∃ y ∈ H, en t x y = e ∧ en t y x = e
theorem lag_aux (h : GTbl t e) {H : List Int} (P : Part t e H) : ∀ (m : Nat) (L : List Int), L.length ≤ m → L.Nodup → (∀ x ∈ L, InT t x) → (∀ x ∈ L, ∀ y ∈ H, en t x y ∈ L) → H.length ∣ L.length
  | 0, L, hm, _, _, _ => by
    rw [show L.length = 0 by omega]
    exact Nat.dvd_zero _
  | m + 1, [], _, _, _, _ => Nat.dvd_zero _
  | m + 1, x :: L0, hm, nd, hin, cl => by
    obtain ⟨L, eL⟩ : ∃ L, L = x :: L0 := ⟨_, rfl⟩
    have hx : x ∈ L := by rw [eL]; exact List.mem_cons_self
    rw [← eL] at hm nd hin cl ⊢
    have xi := hin x hx
    have ndC : (H.map (en t x)).Nodup := by
      rw [List.Nodup, List.pairwise_map]
      exact (P.nd).imp_of_mem fun {y z} hy hz ne q => ne (h.canL xi (P.inn y hy) (P.inn z hz) q)
    have l1 : (L.filter fun y => decide (y ∈ H.map (en t x))).length = H.length := by
      apply Nat.le_antisymm
      · rw [← List.length_map (f := en t x) (as := H)]
        exact nodup_le (nd.filter _) fun y hy => by simpa using (List.mem_filter.mp hy).2
      · rw [← List.length_map (f := en t x) (as := H)]
        exact nodup_le ndC fun y hy => by
          rw [List.mem_filter]
          refine ⟨?_, by simpa using hy⟩
          obtain ⟨z, hz, rfl⟩ := List.mem_map.mp hy
          exact cl x hx z hz
    have l2 := filter_two (fun y => decide (y ∈ H.map (en t x))) L
    have hp : 0 < H.length := List.length_pos_of_mem P.one
    have ih := lag_aux h P m (L.filter fun y => !decide (y ∈ H.map (en t x))) (by omega) (nd.filter _) (fun y hy => hin y (List.mem_filter.mp hy).1) fun y hy z hz => by
      obtain ⟨y1, y2⟩ := List.mem_filter.mp hy
      rw [List.mem_filter]
      refine ⟨cl y y1 z hz, ?_⟩
      have y3 : y ∉ H.map (en t x) := by simpa using y2
      have : en t y z ∉ H.map (en t x) := fun q => by
        obtain ⟨w, hw, ew⟩ := List.mem_map.mp q
        obtain ⟨z', hz', e1, e2⟩ := P.bk z hz
        refine y3 (List.mem_map.mpr ⟨en t w z', P.mul w hw z' hz', ?_⟩)
        rw [← h.as xi (P.inn w hw) (P.inn z' hz'), ew, h.as (hin y y1) (P.inn z hz) (P.inn z' hz'), e1, h.u2 (hin y y1)]
      simpa using this
    rw [l2, l1]
    exact Nat.dvd_add (Nat.dvd_refl _) ih
theorem lag (h : GTbl t e) {H : List Int} (P : Part t e H) : H.length ∣ t.length := by
  have := lag_aux h P (irange t.length).length (irange t.length) (Nat.le_refl _) (nodup_irange' _) (fun x hx => mem_irange.mp hx) fun x hx y hy => mem_irange.mpr (h.cl (mem_irange.mp hx) (P.inn y hy))
  rw [irange_len] at this
  simpa using this
theorem ord_part (h : GTbl t e) {a : Int} (ha : InT t a) {d : Nat} (hd : IsOrd t e a d) : Part t e ((List.range d).map (pw t e a)) := by
  have mem : ∀ k, pw t e a k ∈ (List.range d).map (pw t e a) := fun k => by
    rw [← pw_mod h ha hd.one k]
    exact List.mem_map.mpr ⟨k % d, List.mem_range.mpr (Nat.mod_lt _ hd.pos), rfl⟩
  refine ⟨?_, fun x hx => ?_, mem 0, fun x hx y hy => ?_, fun x hx => ?_⟩
  · rw [List.Nodup, List.pairwise_map, List.pairwise_iff_getElem]
    intro i j hi hj hlt z
    simp only [List.getElem_range, List.length_range] at z hi hj
    have q := pw_add h ha i (j - i)
    rw [show i + (j - i) = j by omega, ← z] at q
    have q2 : en t (pw t e a i) e = en t (pw t e a i) (pw t e a (j - i)) := by rw [h.u2 (pw_in h ha i)]; exact q
    exact hd.low (j - i) (by omega) (by omega) (h.canL (pw_in h ha i) h.he (pw_in h ha _) q2).symm
  · obtain ⟨k, _, rfl⟩ := List.mem_map.mp hx
    exact pw_in h ha k
  · obtain ⟨i, _, rfl⟩ := List.mem_map.mp hx
    obtain ⟨j, _, rfl⟩ := List.mem_map.mp hy
    rw [← pw_add h ha]
    exact mem _
  · obtain ⟨i, hi, rfl⟩ := List.mem_map.mp hx
    have hi' := List.mem_range.mp hi
    refine ⟨_, mem (d - i), ?_, ?_⟩
    · rw [← pw_add h ha, show i + (d - i) = d by omega, hd.one]
    · rw [← pw_add h ha, show d - i + i = d by omega, hd.one]
theorem ord_dvd (h : GTbl t e) {a : Int} (ha : InT t a) {d : Nat} (hd : IsOrd t e a d) : d ∣ t.length := by
  have := lag h (ord_part h ha hd)
  rw [List.length_map, List.length_range] at this
  exact this
theorem pw_len (h : GTbl t e) {a : Int} (ha : InT t a) : pw t e a t.length = e := by
  obtain ⟨d, hd, _⟩ := ex_ord h ha
  obtain ⟨m, em⟩ := ord_dvd h ha hd
  rw [em, pw_mul h ha hd.one]
end
end TB
namespace TB
open PySem L2
/-- one thing turned by another -/
def cj (t : Tbl) (e x a : Int) : Int := en t (en t x a) (bkf t e x)
theorem bk_first {t : Tbl} {e a : Int} (hG : GTbl t e) (ha : InT t a) : FirstBack t e a (bkf t e a) := bkf_first (hG.bk a ha)
theorem bk_in {t : Tbl} {e a : Int} (hG : GTbl t e) (ha : InT t a) : InT t (bkf t e a) := ⟨(bk_first hG ha).b0, (bk_first hG ha).b1⟩
theorem cj_in {t : Tbl} {e x a : Int} (hG : GTbl t e) (hx : InT t x) (ha : InT t a) : InT t (cj t e x a) := hG.cl (hG.cl hx ha) (bk_in hG hx)
theorem backs_len {t : Tbl} {e : Int} (hG : GTbl t e) : (((grpOf t e).backs).length : Int) = t.length := by rw [hG.ok.bl]; rfl
theorem backs_at {t : Tbl} {e a : Int} (ha : InT t a) : gt (grpOf t e).backs a = bkf t e a := gt_map ha.1 ha.2
/-- the least thing by which a is turned into b -/
def tnr (t : Tbl) (e a b : Int) : Option Int := (irange t.length).find? fun x => decide (cj t e x a = b)
theorem tnr_some {t : Tbl} {e a b i : Int} (hi : InT t i) (h : cj t e i a = b) (hlt : ∀ x, 0 ≤ x → x < i → cj t e x a ≠ b) : tnr t e a b = some i := by
  unfold tnr
  cases q : (irange t.length).find? fun x => decide (cj t e x a = b) with
  | none =>
    rw [List.find?_eq_none] at q
    exact absurd (by simpa using h) (q i (mem_irange.mpr hi))
  | some x =>
    obtain ⟨x0, x1, x2, x3⟩ := find_irange q
    have x2' : cj t e x a = b := by simpa using x2
    rcases Int.lt_trichotomy x i with r | r | r
    · exact absurd x2' (hlt x x0 r)
    · rw [r]
    · have := x3 i hi.1 r
      simp [h] at this
theorem tnr_none {t : Tbl} {e a b : Int} (h : ∀ x, InT t x → cj t e x a ≠ b) : tnr t e a b = none := by
  unfold tnr
  rw [List.find?_eq_none]
  intro x hx
  simpa using h x (mem_irange.mp hx)
end TB

/-! TbU: sorted(set(xs)) of a list of ints. -/
namespace TB
open PySem PySem.Spec PyProof.Rows L2
section
variable {P : Program} {w : World} {A : Around} {E : Value → Shared → Prop} {s : Shared}
/-- the empty set, as set.__new__ lays it -/
def sob (w : World) : Obj := { cls := .type "set", dict := none, data := .set #[] 0 (.fresh 0 0 (!w.params.followText "set-order")) }
def spu (w : World) (s : Shared) : Shared := { s with heap := s.heap.push (sob w) }
set_option maxHeartbeats 4000000 in
theorem set_of_list {l : Addr} {its : Array Value} (ns : List Int) {Q : Value → Shared → Prop} (hh : A.handled = none) (hl : s.heap.IsList l its) (hi : IntsAre its.toList ns) (hb : ns.length + 1 < scanBound)
    (k : ∀ (h2 : Heap) (tk c : Nat), SetR w h2 s.heap.objs.size (fun j => decide (j ∈ ns)) c → c ≤ ns.length → (∀ b o, s.heap.get? b = some o → h2.get? b = some o) → Q (.ref s.heap.objs.size) { s with heap := h2, toks := tk }) :
    wpAny (model P w) A (call (.type "set") [.ref l]) Q E s := by
  have zs : its.size = ns.length := by
    have q := IntsAre.length hi
    rw [Array.length_toList] at q
    exact q
  have F1 := F.called_set.mro
  obtain ⟨c, tl, hmro⟩ := F1
  have hmade := F.called_set.made; have hsub := F.called_set.sub
  refine wpAny_call (codeAny_of_tree (by
    show wpAny _ _ (callAny (.type "set") _) _ _ _
    refine wpAny_pure ⟨Code.quiet_builtin _ (by decide +kernel), codeAny_builtin F.entry_type_call (by
      rw [Around.under_plain (weight_type_call_type "set" [.ref l] []) rfl]
      have h1 := F.called_set.notType; have h2 := F.called_set.canCreate; have hct := F.typeCall_set_1 (.ref l)
      repeat (any_goals (first | assumption | wp_step))
      refine codeAny_mono (code_set_led1 (.ref l) (E := E) (Q₁ := fun ob s₁ => ob = .ref s.heap.objs.size ∧ s₁ = spu w s) ⟨rfl, rfl⟩) fun r s₁ hr => ?_
      cases r with
      | error e => exact hr
      | ok fl =>
        cases fl with
        | ret ob =>
          obtain ⟨rfl, rfl⟩ := hr
          have g0 : (spu w s).heap.get? s.heap.objs.size = some (sob w) := Heap.get?_push_size _ rfl
          have ty0 : Shared.TypeIs (spu w s) (.ref s.heap.objs.size) "set" := ⟨_, g0, rfl⟩
          have hli := F.called_set.init.lookup; have hbi := F.called_set.init.bind (.ref s.heap.objs.size)
          repeat (any_goals (first | assumption | wp_step))
          refine codeAny_mono (codeAny_call_builtin (R := wants (fun r s₂ => r = .none ∧ ∃ h2 tk c, s₂ = { s with heap := h2, toks := tk } ∧ SetR w h2 s.heap.objs.size (fun j => decide (j ∈ ns)) c ∧ c ≤ ns.length ∧ (∀ b o, s.heap.get? b = some o → h2.get? b = some o)) E) F.called_set.init.plain F.entry_set_init (check_set_init_1 ty0 ?body)) fun r₂ s₂ hr₂ => ?fin
          case body =>
            obtain ⟨⟨ocl, odi, oda, osl⟩, hol, e1, nl, e2⟩ := hl
            simp only at e1 e2
            subst e1; subst e2
            have hlS : l < s.heap.objs.size := Heap.lt_size hol
            have hol' : (spu w s).heap.get? l = some { cls := .type "list", dict := odi, data := .seq its nl, slots := osl } := Heap.get?_push_of_some _ hol
            have hsls := F.sub_list_set; have hslf := F.sub_list_frozenset
            have hne : (Value.type "list" == Value.type "dict") = false := by decide
            have hl1 : (spu w s).heap.IsList l its := ⟨_, hol', rfl, nl, rfl⟩
            unfold Builtin.«set.__init__» noKeywords Builtin.Frozenset.updateFrom
            generalize hPI : pyIter = PI
            wp_walk
            subst hPI
            refine wpAny_pyIter_list hl1 (wpAny_bind (wpAny_runValue ?_))
            have hh3 : A.in1.in1.in1.handled = none := by simp [hh]
            have zp : (spu w s).heap.objs.size = s.heap.objs.size + 1 := Heap.size_push ..
            have n1 : l ≠ (spu w s).heap.objs.size := by rw [zp]; exact Nat.ne_of_lt (Nat.lt_succ_of_lt hlS)
            have n2 : s.heap.objs.size ∉ [(spu w s).heap.objs.size, l] := by
              rw [zp]; simp only [List.mem_cons, List.not_mem_nil, or_false, not_or]; exact ⟨Nat.ne_of_lt (Nat.lt_succ_self _), Nat.ne_of_gt hlS⟩
            have vals : ∀ (i : Nat) (v : Value), its[i]? = some v → ∃ k t, ns[i]? = some k ∧ v = .int k t := fun i v hv => by
              have hlt : i < ns.length := by rw [← zs]; exact (Array.getElem?_eq_some_iff.mp hv).1
              obtain ⟨t, e⟩ := PyProof.Rows.IntsAre.int_at hi i v (by rw [Array.getElem?_toList]; exact hv)
              exact ⟨ns[i], t, List.getElem?_eq_getElem hlt, by rw [e, List.getD_eq_getElem?_getD, List.getElem?_eq_getElem hlt] <;> rfl⟩
            refine set_update_ints ((Walks.list hh3 _ l n1 its).toS) s.heap.objs.size n2 ns zs hb vals (its.size - 0) 0 _ (by omega) (Nat.zero_le _) ⟨⟨_, Heap.get?_push_size _ rfl, rfl, rfl⟩, (hl1.push _)⟩ ⟨0, Nat.le_refl 0, setR_new_at (Heap.get?_push_of_some _ g0)⟩ ?_
            intro s3 c3 hm hc3 hS3
            obtain ⟨h3, g3, d3, tk3, os3⟩ := s3
            obtain rfl : g3 = s.gens := hm.gens
            obtain rfl : d3 = s.drawn := hm.drawn
            obtain rfl : os3 = s.os := hm.os
            show wpAny _ _ _ _ _ _
            refine wpAny_pure ?_
            show wpAny _ _ (ret Value.none) _ _ _
            refine wpAny_pure ⟨rfl, h3, tk3, c3, rfl, hS3, zs ▸ hc3, fun b o e => ?_⟩
            have b0 := Heap.lt_size e
            refine hm.heap b o ?_ (Heap.get?_push_of_some _ (Heap.get?_push_of_some _ e))
            rw [zp]; simp only [List.mem_cons, List.not_mem_nil, or_false, not_or]; exact ⟨Nat.ne_of_lt b0, Nat.ne_of_lt (Nat.lt_succ_of_lt b0)⟩
          case fin =>
            cases r₂ with
            | error e => exact hr₂
            | ok f2 =>
              cases f2 with
              | ret r =>
                obtain ⟨rfl, h3, tk, c3, rfl, hS3, hc3, hk3⟩ := hr₂
                repeat (any_goals (first | assumption | wp_step))
                exact k _ _ _ hS3 hc3 hk3
              | _ => exact hr₂.elim
        | _ => exact hr.elim)⟩))
end
section
variable {X : Cx} {a : Expr} {ta : TE} {p p2 q pos : Pos}
/-- sorted(set(xs)) -/
def tSortedSet (K : PySem.W.Frag) (ta : TE) : TE := fun σ H Q => ta σ H fun x H1 => ∃ (l : Addr) (ns : List Int), x = V.ref l ∧ SqL K H1 l (ns.map V.int) ∧ ns.length < 64 ∧
  ∀ (out : List Int) (r : Addr), out.Pairwise (· < ·) → (∀ k : Int, k ∈ out ↔ k ∈ ns) → H1 r = none → Q (.ref r) (upd H1 r (.lst (out.map V.int)))
theorem pe_sortedSet (hc : X.calm = true) (hg : Gl X "sorted") (hm : X.mg "sorted" = none) (hg2 : Gl X "set") (hm2 : X.mg "set" = none) (ha : PE X a ta)
    (na : starEach [a] X.env = (false, eval a X.env) :: starEach [] X.env := by rfl) (nb : starEach [.Call (.Name "set" p2) [a] [] q] X.env = (false, eval (.Call (.Name "set" p2) [a] [] q) X.env) :: starEach [] X.env := by rfl) :
    PE X (.Call (.Name "sorted" p) [.Call (.Name "set" p2) [a] [] q] [] pos) (tSortedSet X.K ta) :=
  ⟨fun pins s σ H Q I h => Call_ (ld_blt I hg hm boot_sorted (PyProof.Rows.callWith_builtin1 (PyProof.Rows.args_cons (Call_ (ld_blt I hg2 hm2 boot_set (PyProof.Rows.callWith_type1 (PyProof.Rows.args_cons (thn (ha.run pins s σ H _ I h) fun v s1 ⟨x, H1, I1, r1, q1⟩ => PyProof.Rows.args_nil (by
    obtain ⟨l, ns, rfl, hq, h64, q1⟩ := q1
    cases r1
    obtain ⟨its, r, pl, hz⟩ := I1.list hq
    refine set_of_list ns (I1.ok.hd hc) pl.isList (by simpa using r.ints) (by unfold scanBound; omega) fun h2 tk c hR hcl hk => ?_
    have I2 : Inv X pins σ H1 { s1 with heap := h2, toks := tk } := I1.kept fun b o e => hk b o e
    refine PyProof.Rows.args_nil ?_
    have hR : SetR X.w ({ s1 with heap := h2, toks := tk } : Shared).heap s1.heap.objs.size (fun j => decide (j ∈ ns)) c := hR
    generalize ({ s1 with heap := h2, toks := tk } : Shared) = s0 at hR I2 ⊢
    refine sorted_set hR (I2.ok.hd hc) (by omega) fun s3 r3 out c3 ms k3 g3 o3 hp3 hg3 hi3 hs3 hm3 hl3 => ?_
    have hn : H1 r3 = none := I2.hok.fresh hp3
    have hlen : (ms.map V.int).length ≤ sizeLine := by rw [List.length_map, hl3, sizeLine_eq]; omega
    have J : Inv X pins σ (upd H1 r3 (.lst (ms.map V.int))) { s0 with heap := s3.heap, gens := s3.gens, drawn := s3.drawn, toks := s3.toks } :=
      I2.call (ch := []) (Un.laid k3 hp3 hn) (I2.hok.laid k3 hp3 ⟨hlen, out.toList, c3, vals_of_ints hi3, hg3⟩) (by rw [g3]; exact I2.bare) (fun _ z => nomatch z)
    have e : s3 = { s0 with heap := s3.heap, gens := s3.gens, drawn := s3.drawn, toks := s3.toks } := by
      cases s3
      cases s0
      cases o3
      rfl
    rw [e]
    exact ⟨.ref r3, _, J, rfl, q1 ms r3 hs3 (fun k => (hm3 k).trans (by simp)) hn⟩)) na) na rfl))) nb) nb rfl))⟩
end
end TB

/-! TbD: dicts, membership, own lists walked, own lists put into own lists. -/
namespace TB
open PySem L2
/-! ### dicts by int keys -/
def dget {α : Type} (kvs : List (Int × α)) (k : Int) : Option α := (kvs.find? fun p => decide (p.1 = k)).map (·.2)
def dput {α : Type} (kvs : List (Int × α)) (k : Int) (v : α) : List (Int × α) := if (kvs.any fun p => decide (p.1 = k)) = true then kvs.map (fun p => if p.1 = k then (p.1, v) else p) else kvs ++ [(k, v)]
theorem dget_nil {α : Type} {k : Int} : dget ([] : List (Int × α)) k = none := rfl
theorem dget_any {α : Type} : ∀ (kvs : List (Int × α)) (k : Int), (kvs.any fun p => decide (p.1 = k)) = (dget kvs k).isSome
  | [], k => rfl
  | p :: r, k => by
    have ih := dget_any r k
    unfold dget at ih ⊢
    rw [List.any_cons, List.find?_cons]
    by_cases c : p.1 = k
    · simp [c]
    · simp only [decide_eq_false c, Bool.false_or]
      exact ih
theorem dget_map {α : Type} (k : Int) (v : α) (x : Int) : ∀ kvs : List (Int × α), dget (kvs.map fun p => if p.1 = k then (p.1, v) else p) x = if x = k then (dget kvs k).map (fun _ => v) else dget kvs x
  | [] => by unfold dget; simp
  | p :: r => by
    have ih := dget_map k v x r
    unfold dget at ih ⊢
    rw [List.map_cons, List.find?_cons, List.find?_cons, List.find?_cons]
    by_cases c : p.1 = k
    · rw [if_pos c]
      by_cases c2 : x = k
      · subst c2
        simp [c]
      · have : ¬ p.1 = x := fun z => c2 (z ▸ c)
        simp only [decide_eq_false this, if_neg c2] at ih ⊢
        exact ih
    · rw [if_neg c]
      by_cases c3 : p.1 = x
      · have : ¬ x = k := fun z => c (c3.trans z)
        simp [c3, this]
      · simp only [decide_eq_false c3, decide_eq_false c] at ih ⊢
        exact ih
theorem dget_put {α : Type} (kvs : List (Int × α)) (k : Int) (v : α) (x : Int) : dget (dput kvs k v) x = if x = k then some v else dget kvs x := by
  unfold dput
  have h := dget_any kvs k
  by_cases c : (kvs.any fun p => decide (p.1 = k)) = true
  · rw [if_pos c, dget_map]
    rw [c] at h
    by_cases c2 : x = k
    · rw [if_pos c2, if_pos c2]
      cases e : dget kvs k with
      | none => rw [e] at h; cases h
      | some y => rfl
    · rw [if_neg c2, if_neg c2]
  · rw [if_neg c]
    have h2 : dget kvs k = none := by
      cases e : dget kvs k with
      | none => rfl
      | some y => rw [e] at h; exact absurd h c
    unfold dget at h2 ⊢
    rw [List.find?_append]
    by_cases c2 : x = k
    · subst c2
      have h3 : kvs.find? (fun p => decide (p.1 = x)) = none := by simpa using h2
      rw [h3]
      simp
    · rw [if_neg c2]
      have : ([(k, v)] : List (Int × α)).find? (fun p => decide (p.1 = x)) = none := by
        have c3 : ¬ k = x := fun z => c2 z.symm
        simp [c3]
      rw [this, Option.or_none]
theorem dput_len {α : Type} (kvs : List (Int × α)) (k : Int) (v : α) : (dput kvs k v).length ≤ kvs.length + 1 := by
  unfold dput
  split
  · rw [List.length_map]; omega
  · simp
section
variable {Z : Zz} {R : Hp} {α : Type} {_ : Rp α}
theorem kv_any {k : Int} : ∀ {kv : List (Key × V)} {kvs : List (Int × α)}, Paired (kvOk Z R) kv kvs → (kv.any fun p => decide (p.1 = (Sum.inl k : Key))) = kvs.any fun p => decide (p.1 = k)
  | _, _, .nil => rfl
  | _, _, .cons (a := a) (b := b) r t => by
    rw [List.any_cons, List.any_cons, kv_any t, r.1]
    congr 1
    by_cases c : b.1 = k
    · simp [c]
    · have : ¬ (Sum.inl b.1 : Key) = Sum.inl k := fun z => c (Sum.inl.inj z)
      simp [c]
theorem kv_put {k : Int} {w : V} {v : α} (hw : Rp.rp Z R w v) {kv : List (Key × V)} {kvs : List (Int × α)} (h : Paired (kvOk Z R) kv kvs) : Paired (kvOk Z R) (putK kv (Sum.inl k) w) (dput kvs k v) := by
  unfold putK dput
  rw [kv_any h]
  by_cases c : (kvs.any fun p => decide (p.1 = k)) = true
  · rw [if_pos c, if_pos c]
    clear c
    induction h with
    | nil => exact .nil
    | @cons a b kv kvs r t ih =>
      refine .cons ?_ ih
      show kvOk Z R (if a.1 = Sum.inl k then (a.1, w) else a) (if b.1 = k then (b.1, v) else b)
      rw [r.1]
      by_cases c : b.1 = k
      · rw [if_pos (by rw [c]), if_pos c]
        exact ⟨rfl, hw⟩
      · rw [if_neg (fun z => c (Sum.inl.inj z)), if_neg c]
        exact r
  · rw [if_neg c, if_neg c]
    exact paired_append h (.cons ⟨rfl, hw⟩ .nil)
theorem dget_neg {β : Type} {b : Int × β} {r : List (Int × β)} {k : Int} (c : ¬ b.1 = k) : dget (b :: r) k = dget r k := by
  unfold dget
  rw [List.find?_cons]
  simp only [decide_eq_false c]
theorem kv_get {k : Int} : ∀ {kv : List (Key × V)} {kvs : List (Int × α)}, Paired (kvOk Z R) kv kvs → (valV kv (Sum.inl k) = none ∧ dget kvs k = none) ∨ ∃ w v, valV kv (Sum.inl k) = some w ∧ dget kvs k = some v ∧ Rp.rp Z R w v
  | _, _, .nil => .inl ⟨rfl, rfl⟩
  | _, _, .cons (a := a) (b := b) r t => by
    by_cases c : b.1 = k
    · refine .inr ⟨a.2, b.2, valV_pos (by rw [r.1, c]), ?_, r.2⟩
      unfold dget
      simp [c]
    · rw [valV_neg (fun z => c (Sum.inl.inj (r.1.symm.trans z)))]
      rw [dget_neg c]
      exact kv_get t
end
section
variable {c : Cn} {Γ : List Sl} {ta tb te tl ty : TE} {tt tc : TT} {t u : TS} {s s' so : Sl} {α β γ : Type} {_ : Rp α} {_ : Rp β} {_ : Rp γ} {P : Po} {d : α}
/-- d[k] = v -/
theorem w_dset {i : Nat} {kvs : List (Int × α)} {k : Int} {v : α} (e : Γ[i]? = some (.od kvs)) (h : Ev c Γ te (.im v)) (hk : Ev c Γ tb (.im k)) (hl : kvs.length < 1000000) (kk : P.nx (Γ.set i (.od (dput kvs k v)))) : W c Γ (tAsg te (gSub (tVar i) tb gSet)) P := fun B R0 R H ρ Δ σ D S n r bb kk' x =>
  h B R0 R H ρ Δ σ S _ (fun w R1 H1 S1 => by
    obtain ⟨p, kv, h2, _⟩ := sx_mutd (sx_pop S1) e
    refine ⟨.ref p, h2, hk B R0 R1 H1 _ _ σ S1 _ (fun z R2 H2 S2 => ?_) x.push1⟩
    have ez : z = .int k := sx_top' S2
    subst ez
    obtain ⟨p', kv', h2', h3, h4, h5⟩ := sx_mutd (sx_pop (sx_pop S2)) e
    rw [h2] at h2'
    cases h2'
    have hl' := Paired.length h4
    exact .inr ⟨p, _, rfl, DPut.k (k := Sum.inl k) h3 (Nat.lt_of_lt_of_le (by omega : kv'.length < 1000000) (by decide)), n R2 _ _ _ (h5 _ _ (kv_put (sx_top' (sx_pop S2)) h4)) kk⟩) x
/-- k in d -/
theorem ev_inD {i : Nat} {kvs : List (Int × α)} {k : Int} (e : Γ[i]? = some (.od kvs)) (hk : Ev c Γ ta (.im k)) : Ev c Γ (tOp (gIn c.Z.K) ta (tVar i)) (.im (dget kvs k).isSome) := fun B R0 R H ρ Δ σ S Q q x =>
  hk B R0 R H ρ Δ σ S _ (fun z R1 H1 S1 => by
    have ez : z = .int k := sx_top' S1
    subst ez
    obtain ⟨p, kv, h2, h3, h4, _⟩ := sx_mutd (sx_pop S1) e
    refine ⟨.ref p, h2, .inr ⟨p, _, rfl, DGet.k (k := Sum.inl k) h3, ?_⟩⟩
    rcases kv_get (k := k) h4 with ⟨g1, g2⟩ | ⟨w, v, g1, g2, _⟩
    · rw [g1]; exact q _ R1 H1 (sx_push (sx_pop S1) (by rw [g2]; rfl))
    · rw [g1]; exact q _ R1 H1 (sx_push (sx_pop S1) (by rw [g2]; rfl))) x
theorem ev_notInD {i : Nat} {kvs : List (Int × α)} {k : Int} (e : Γ[i]? = some (.od kvs)) (hk : Ev c Γ ta (.im k)) : Ev c Γ (tOp (gNotIn c.Z.K) ta (tVar i)) (.im (!(dget kvs k).isSome)) := fun B R0 R H ρ Δ σ S Q q x =>
  hk B R0 R H ρ Δ σ S _ (fun z R1 H1 S1 => by
    have ez : z = .int k := sx_top' S1
    subst ez
    obtain ⟨p, kv, h2, h3, h4, _⟩ := sx_mutd (sx_pop S1) e
    refine ⟨.ref p, h2, .inr ⟨p, _, rfl, DGet.k (k := Sum.inl k) h3, ?_⟩⟩
    rcases kv_get (k := k) h4 with ⟨g1, g2⟩ | ⟨w, v, g1, g2, _⟩
    · rw [g1]; exact q _ R1 H1 (sx_push (sx_pop S1) (by rw [g2]; rfl))
    · rw [g1]; exact q _ R1 H1 (sx_push (sx_pop S1) (by rw [g2]; rfl))) x
/-- d[k], a datum -/
theorem ev_ixD {i : Nat} {kvs : List (Int × α)} {k : Int} {v : α} (e : Γ[i]? = some (.od kvs)) (hk : Ev c Γ tb (.im k)) (hv : dget kvs k = some v) : Ev c Γ (tOp (gIx c.Z.K) (tVar i) tb) (.im v) := fun B R0 R H ρ Δ σ S Q q x => by
  obtain ⟨p, kv, h2, _⟩ := sx_mutd S e
  refine ⟨.ref p, h2, hk B R0 R H ρ Δ σ S _ (fun z R1 H1 S1 => ?_) x⟩
  have ez : z = .int k := sx_top' S1
  subst ez
  obtain ⟨p', kv', h2', h3, h4, _⟩ := sx_mutd (sx_pop S1) e
  rw [h2] at h2'
  cases h2'
  rcases kv_get (k := k) h4 with ⟨g1, g2⟩ | ⟨w, v', g1, g2, g3⟩
  · rw [g2] at hv; cases hv
  · rw [g2] at hv
    cases hv
    exact .inr (.inr ⟨p, w, rfl, by rw [← g1]; exact DGet.k (k := Sum.inl k) h3, q w R1 H1 (sx_push (sx_pop S1) g3)⟩)
end
/-! ### membership in lists of ints -/
theorem inV_int {x : Int} {xs : List Int} : inV (.int x) (xs.map V.int) = decide (x ∈ xs) := by
  induction xs with
  | nil => rfl
  | cons y r ih =>
    unfold inV at ih ⊢
    rw [List.map_cons, List.any_cons, ih]
    by_cases c : x = y
    · subst c; simp [eqV]
    · have : ¬ y = x := fun z => c z.symm
      simp [eqV, c, this]
theorem flat_ints (xs : List Int) : (xs.map V.int).all flatV = true := by
  rw [List.all_eq_true]
  intro v hv
  obtain ⟨i, _, rfl⟩ := List.mem_map.mp hv
  rfl
section
variable {c : Cn} {Γ : List Sl} {ta tb te tl ty : TE} {tt tc : TT} {t u : TS} {s s' so : Sl} {α β γ : Type} {_ : Rp α} {_ : Rp β} {_ : Rp γ} {P : Po} {d : α}
theorem ev_inL {x : Int} {xs : List Int} (ha : Ev c Γ ta (.im x)) (hb : Ev c Γ tb (.im xs)) : Ev c Γ (tOp (gIn c.Z.K) ta tb) (.im (decide (x ∈ xs))) := ev_opv ha hb fun R H v w sm rv rw => by
  have rv' : v = .int x := rv
  subst rv'
  obtain ⟨a, vs, rfl, h2, h3⟩ := rw
  have := paired_map_int h3
  subst this
  exact ⟨.bl _, rfl, fun Q q => .inl ⟨a, _, rfl, .inl (SqL.of (sm _ _ h2)), rfl, flat_ints xs, by rw [inV_int]; exact q⟩⟩
theorem ev_notInL {x : Int} {xs : List Int} (ha : Ev c Γ ta (.im x)) (hb : Ev c Γ tb (.im xs)) : Ev c Γ (tOp (gNotIn c.Z.K) ta tb) (.im (!decide (x ∈ xs))) := ev_opv ha hb fun R H v w sm rv rw => by
  have rv' : v = .int x := rv
  subst rv'
  obtain ⟨a, vs, rfl, h2, h3⟩ := rw
  have := paired_map_int h3
  subst this
  exact ⟨.bl _, rfl, fun Q q => .inl ⟨a, _, rfl, .inl (SqL.of (sm _ _ h2)), rfl, flat_ints xs, by rw [if_pos rfl, inV_int]; exact q⟩⟩
theorem ev_inO {x : Int} {xs : List Int} {i : Nat} (ha : Ev c Γ ta (.im x)) (e : Γ[i]? = some (.ol xs)) : Ev c Γ (tOp (gIn c.Z.K) ta (tVar i)) (.im (decide (x ∈ xs))) := ev_opR ha lnd_ol e fun R H v w sm rv rw => by
  have rv' : v = .int x := rv
  subst rv'
  obtain ⟨a, vs, rfl, h2, h3⟩ := rw
  have := paired_map_int h3
  subst this
  exact ⟨.bl _, fun _ => rfl, fun Q q => .inl ⟨a, _, rfl, .inl (SqL.of (sm _ _ h2)), rfl, flat_ints xs, by rw [inV_int]; exact q⟩⟩
theorem ev_notInO {x : Int} {xs : List Int} {i : Nat} (ha : Ev c Γ ta (.im x)) (e : Γ[i]? = some (.ol xs)) : Ev c Γ (tOp (gNotIn c.Z.K) ta (tVar i)) (.im (!decide (x ∈ xs))) := ev_opR ha lnd_ol e fun R H v w sm rv rw => by
  have rv' : v = .int x := rv
  subst rv'
  obtain ⟨a, vs, rfl, h2, h3⟩ := rw
  have := paired_map_int h3
  subst this
  exact ⟨.bl _, fun _ => rfl, fun Q q => .inl ⟨a, _, rfl, .inl (SqL.of (sm _ _ h2)), rfl, flat_ints xs, by rw [if_pos rfl, inV_int]; exact q⟩⟩
/-! ### sorted(set(xs)) -/
end
def sins (x : Int) : List Int → List Int
  | [] => [x]
  | y :: r => if x < y then x :: y :: r else if x = y then y :: r else y :: sins x r
/-- the things of a list, each once, rising -/
def uset (xs : List Int) : List Int := xs.foldr sins []
def Inc (xs : List Int) : Prop := xs.Pairwise (· < ·)
theorem mem_sins {x z : Int} : ∀ {l : List Int}, z ∈ sins x l ↔ z = x ∨ z ∈ l
  | [] => by simp [sins]
  | y :: r => by
    unfold sins
    split
    · simp
    · split
      · rename_i h; subst h; simp
      · rw [List.mem_cons, mem_sins, List.mem_cons]
        constructor
        · rintro (h | h | h)
          · exact .inr (.inl h)
          · exact .inl h
          · exact .inr (.inr h)
        · rintro (h | h | h)
          · exact .inr (.inl h)
          · exact .inl h
          · exact .inr (.inr h)
theorem inc_sins {x : Int} : ∀ {l : List Int}, Inc l → Inc (sins x l)
  | [], _ => List.pairwise_singleton _ _
  | y :: r, h => by
    obtain ⟨h1, h2⟩ := List.pairwise_cons.mp h
    unfold sins
    split
    · rename_i c
      refine List.pairwise_cons.mpr ⟨fun z hz => ?_, h⟩
      rcases List.mem_cons.mp hz with rfl | hz
      · exact c
      · exact Int.lt_trans c (h1 z hz)
    · split
      · exact h
      · rename_i c1 c2
        refine List.pairwise_cons.mpr ⟨fun z hz => ?_, inc_sins h2⟩
        rcases mem_sins.mp hz with rfl | hz
        · omega
        · exact h1 z hz
theorem mem_uset {z : Int} {xs : List Int} : z ∈ uset xs ↔ z ∈ xs := by
  unfold uset
  induction xs with
  | nil => simp
  | cons x r ih => rw [List.foldr_cons, mem_sins, ih, List.mem_cons]
theorem inc_uset (xs : List Int) : Inc (uset xs) := by
  unfold uset
  induction xs with
  | nil => exact .nil
  | cons x r ih => exact inc_sins ih
theorem inc_one : ∀ {a b : List Int}, Inc a → Inc b → (∀ z, z ∈ a ↔ z ∈ b) → a = b
  | [], [], _, _, _ => rfl
  | [], y :: b, _, _, h => by have := (h y).mpr (by simp); simp at this
  | x :: a, [], _, _, h => by have := (h x).mp (by simp); simp at this
  | x :: a, y :: b, ha, hb, h => by
    obtain ⟨a1, a2⟩ := List.pairwise_cons.mp ha
    obtain ⟨b1, b2⟩ := List.pairwise_cons.mp hb
    have e : x = y := by
      rcases List.mem_cons.mp ((h x).mp (by simp)) with q | q
      · exact q
      · rcases List.mem_cons.mp ((h y).mpr (by simp)) with q2 | q2
        · exact q2.symm
        · have := a1 y q2; have := b1 x q; omega
    subst e
    congr 1
    refine inc_one a2 b2 fun z => ?_
    have hz := h z
    rw [List.mem_cons, List.mem_cons] at hz
    constructor
    · intro q
      rcases hz.mp (.inr q) with r | r
      · have := a1 z q; omega
      · exact r
    · intro q
      rcases hz.mpr (.inr q) with r | r
      · have := b1 z q; omega
      · exact r
theorem inc_nodup {xs : List Int} (h : Inc xs) : xs.Nodup := List.Pairwise.imp (fun h => by omega) h
theorem inc_irange (n : Int) : Inc (irange n) := by
  unfold Inc irange
  rw [List.pairwise_map]
  exact (List.pairwise_lt_range).imp fun h => by omega
theorem isort_perm (xs : List Int) : (isort xs).Perm xs := List.mergeSort_perm _ _
theorem isort_sorted (xs : List Int) : (isort xs).Pairwise (· ≤ ·) := by
  have := List.pairwise_mergeSort (le := fun x y : Int => decide (x ≤ y)) (fun a b c h1 h2 => by simp at *; omega) (fun a b => by simp; omega) xs
  exact this.imp fun h => by simpa using h
theorem isort_inc {xs : List Int} (h : xs.Nodup) : Inc (isort xs) := by
  have h1 := isort_sorted xs
  have h2 : (isort xs).Nodup := (isort_perm xs).nodup_iff.mpr h
  exact (h1.and h2).imp fun ⟨a, b⟩ => by omega
theorem isort_eq {xs ys : List Int} (h : xs.Nodup) (hy : Inc ys) (e : ∀ z, z ∈ xs ↔ z ∈ ys) : isort xs = ys := inc_one (isort_inc h) hy fun z => ((isort_perm xs).mem_iff).trans (e z)
section
variable {c : Cn} {Γ : List Sl} {ta tb te tl ty : TE} {tt tc : TT} {t u : TS} {s s' so : Sl} {α β γ : Type} {_ : Rp α} {_ : Rp β} {_ : Rp γ} {P : Po} {d : α}
theorem ev_uset {xs : List Int} (ha : Ev c Γ ta (.im xs)) (hl : xs.length < 64) : Ev c Γ (tSortedSet c.Z.K ta) (.ol (uset xs)) := fun B R0 R H ρ Δ σ S Q q xk => ha B R0 R H ρ Δ σ S _ (fun v R1 H1 S1 => by
  obtain ⟨a, vs, rfl, h2, h3⟩ := id (sx_top' S1)
  have := paired_map_int h3
  subst this
  refine ⟨a, xs, rfl, SqL.of (sx_same S1 _ _ h2), hl, fun out r pw hm nr => ?_⟩
  have e : out = uset xs := inc_one pw (inc_uset xs) fun z => (hm z).trans mem_uset.symm
  subst e
  exact q _ R1 _ (sx_newl (sx_pop S1) nr (paired_of_int _))) xk
/-! ### own lists put into own lists -/
theorem sx_swapTop' {Z : Zz} {B R0 R H : Hp} {ρ : List (Option V)} {Δ : List Sl} {σ : List (Option V)} {o o' : Option V} {s s' : Sl} (S : Sx Z B R0 R H (o :: o' :: ρ) (s :: s' :: Δ) σ Γ) : Sx Z B R0 R H (o' :: o :: ρ) (s' :: s :: Δ) σ Γ := sx_swapTop S
theorem ev_nil2 {δ : Type} [Rp δ] : Ev c Γ (tLst tNil) (.o2 ([] : List (List δ))) := ev_subS (fun Z R H o f nd h => by
  obtain ⟨p, vs, rfl, rfl, h3, h4⟩ := h
  cases h4
  exact ⟨[p], nd, fun _ h => h, p, [], rfl, rfl, h3, .nil⟩) (ev_nil (δ := List δ))
/-- xss.append(own list of slot j) -/
theorem w_app2V {i j : Nat} {xs : List α} {xss : List (List α)} (hij : i ≠ j) (e : Γ[i]? = some (.o2 xss)) (e2 : Γ[j]? = some (.ol xs)) (hl : xss.length < 1000000) (k : P.nx ((Γ.set j .un).set i (.o2 (xss ++ [xs])))) : W c Γ (tDrop (tBM c.Z.K "list" rAppend (tVar i) (tCons (tVar j) tNil))) P := fun B R0 R H ρ Δ σ D S n r bb kk x => by
  obtain ⟨o1, h1, S1⟩ := sx_take S (i := i) e
  obtain ⟨o2, h2, S2⟩ := sx_take S1 (i := j) (by rw [List.getElem?_set_ne hij]; exact e2)
  obtain ⟨o1', f, g1, g2⟩ := sx_slot S e
  obtain ⟨o2', f2, g3, g4⟩ := sx_slot S e2
  obtain ⟨p, qs, _, eo, hp, _⟩ := g2
  obtain ⟨p2, vs2, _, eo2, hp2, _⟩ := g4
  rw [h1] at g1
  rw [h2] at g3
  cases g1
  cases g3
  subst eo eo2
  obtain ⟨vs, a1, a2, S3⟩ := sx_app2 S2
  rw [hp] at a1
  cases a1
  refine ⟨.ref p, h1, tyL hp, .ref p2, h2, p, _, .ref p2, rfl, rfl, hp, Nat.lt_of_lt_of_le (by omega : (qs.map V.ref).length < 1000000) (by decide), ?_⟩
  have S4 := sx_asg S3 i
  rw [set_same h1] at S4
  refine n R _ σ _ S4 ?_
  have : ((Γ.set i .un).set j .un).set i (.o2 (xss ++ [xs])) = (Γ.set j .un).set i (.o2 (xss ++ [xs])) := by
    rw [List.set_comm _ _ hij, List.set_set]
  rw [this]
  exact k
/-- xss.append(a new list) -/
theorem w_app2T {i : Nat} {xs : List α} {xss : List (List α)} (e : Γ[i]? = some (.o2 xss)) (h : Ev c Γ te (.ol xs)) (hl : xss.length < 1000000) (k : P.nx (Γ.set i (.o2 (xss ++ [xs])))) : W c Γ (tDrop (tBM c.Z.K "list" rAppend (tVar i) (tCons te tNil))) P := fun B R0 R H ρ Δ σ D S n r bb kk x => by
  obtain ⟨o1, f, g1, p, qs, _, eo, hp, _⟩ := sx_slot S e
  subst eo
  refine ⟨.ref p, g1, tyL hp, h B R0 R H ρ Δ σ S _ (fun w R1 H1 S1 => ?_) x⟩
  obtain ⟨o1', h1, S2⟩ := sx_take S1 (i := i) e
  rw [g1] at h1
  cases h1
  obtain ⟨vs, a1, a2, S3⟩ := sx_app2 (sx_swapTop' S2)
  have S4 := sx_asg S3 i
  rw [set_same g1, List.set_set] at S4
  exact ⟨p, vs, w, rfl, rfl, a1, Nat.lt_of_lt_of_le (by omega : vs.length < 1000000) (by decide), n R1 _ _ _ S4 k⟩
/-- over an own list, which stays -/
theorem w_forO {i j : Nat} {xs : List α} (I : Sl → Nat → List Sl → Prop) (e : Γ[i]? = some (.ol xs)) (h0 : ∀ s, I s 0 (Γ.set i s)) (hs : ∀ s k G (hk : k < xs.length), I s k G → W c (G.set j (.im xs[k])) t ⟨I s (k + 1), P.rt, fun _ => False, I s (k + 1)⟩)
    (hd : ∀ s G, I s xs.length G → G[i]? = some s ∧ P.nx (G.set i (.ol xs))) : W c Γ (tFor (iList c.Z.K (tVar i)) (gName j) t) P := fun B R0 R H ρ Δ σ D S n r bb kk x => by
  obtain ⟨o, h1, S1⟩ := sx_take S e
  obtain ⟨o', f, g1, p, vs0, _, eo, hp, _⟩ := sx_slot S e
  rw [h1] at g1
  cases g1
  subst eo
  -- the slot keeps the very value
  have At : ∃ s : Sl, (∀ Z R H o f, slok Z R H o s f → o = some (.ref p)) ∧ ∀ Z R H, slok Z R H (some (.ref p)) s [] :=
    ⟨.ow ⟨fun _ _ _ w => w = .ref p, fun _ h => h⟩, fun Z R H o f ⟨w, a, b, _⟩ => by rw [a, b], fun Z R H => ⟨_, rfl, rfl, fun q hq => by simp at hq⟩⟩
  obtain ⟨s, s1, s2⟩ := At
  have S2 : Sx c.Z B R0 R H (some (.ref p) :: ρ) (.ol xs :: Δ) σ (Γ.set i s) := by
    obtain ⟨hl, own, hs', es⟩ := S1
    have e' : (.ol xs :: Δ ++ Γ.set i .un)[(some (V.ref p) :: ρ).length + i]? = some .un := by
      rw [at_slot hl]
      rw [List.getElem?_set_self]
      exact (List.getElem?_eq_some_iff.mp e).1
    obtain ⟨o2, a1, f2, a2, b1, b2, b3, b4⟩ := es_at es e'
    rw [at_slot', h1] at b1
    cases b1
    have b3' : f2 = [] := b3
    subst b3'
    have q := b4 R H (some (.ref p)) s [] (Same.refl _) (fun _ _ => rfl) (s2 _ _ _)
    rw [set_same (by rw [at_slot']; exact h1), hl, List.set_append_right _ _ (by omega), show (Sl.ol xs :: Δ).length + i - (Sl.ol xs :: Δ).length = i by omega, List.set_set] at q
    exact ⟨hl, own, hs', by rw [b2]; exact q⟩
  refine ⟨.ref p, h1, p, rfl, ⟨vs0, SqL.of hp⟩, ?_⟩
  refine ⟨fun k m σ1 H1 => m = xs.length - k ∧ k ≤ xs.length ∧ ∃ R1 G, Sx c.Z B R0 R1 H1 (some (.ref p) :: ρ) (.ol xs :: Δ) σ1 G ∧ I s k G, ⟨xs.length, by simp, Nat.zero_le _, R, _, S2, h0 s⟩, ?_⟩
  rintro k m σ1 H1 ⟨rfl, hk, R1, G, S3, hI⟩
  obtain ⟨p', vs, e1, g2, g3, _⟩ := sx_mutTop S3
  cases e1
  have hl := Paired.length g3
  by_cases hlt : k < xs.length
  · obtain ⟨w, hw, rw'⟩ := paired_get g3 (i := k) (b := xs[k]) (List.getElem?_eq_getElem hlt)
    refine .inr ⟨⟨vs, w, SqL.of g2, hw⟩, fun σ' H' => ∃ R1 G, Sx c.Z B R0 R1 H' (some (.ref p) :: ρ) (.ol xs :: Δ) σ' G ∧ I s (k + 1) G, fun σ' H' h => ⟨xs.length - (k + 1), by omega, rfl, hlt, h⟩, ?_⟩
    rintro y H' ⟨rfl, hy⟩
    have := hy vs (SqL.of g2)
    rw [hw] at this
    cases this
    exact hs s k G hlt hI B R0 R1 H' _ _ _ _ (sx_asg (sx_push S3 rw') j) (fun R4 H4 σ4 Γ4 S4 q => ⟨R4, Γ4, S4, q⟩) (fun R4 H4 v s' S4 q => r R4 H4 v s' (sx_pop2 S4) q) (fun _ _ _ _ _ z => z.elim) (fun R4 H4 σ4 Γ4 S4 q => ⟨R4, Γ4, S4, q⟩) x.push1
  · have ek : k = xs.length := by omega
    subst ek
    obtain ⟨q1, q2⟩ := hd s G hI
    have S4 := sx_asg S3 i
    obtain ⟨o2, f2, q3, q4⟩ := sx_slot S3 q1
    rw [s1 _ _ _ _ _ q4] at q3
    rw [set_same q3] at S4
    exact .inl ⟨⟨vs, SqL.of g2, by omega⟩, n R1 H1 σ1 _ S4 q2⟩
end
end TB
namespace TB
open PySem L2
section
variable {c : Cn} {Γ : List Sl} {ta tb te tl ty : TE} {tt tc : TT} {t u : TS} {s s' so : Sl} {α β γ : Type} {_ : Rp α} {_ : Rp β} {_ : Rp γ} {P : Po} {d : α}
theorem ev_sortedO {xs : List Int} {k : Nat} (e : Γ[k]? = some (.ol xs)) : Ev c Γ (tCB (gSorted c.Z.K) (tCons (tVar k) tNil)) (.ol (isort xs)) := fun B R0 R H ρ Δ σ S Q q xk => by
  obtain ⟨p, vs, h2, h3, h4, _⟩ := sx_mutl S e
  have := paired_map_int h4
  subst this
  refine ⟨.ref p, h2, p, xs, rfl, SqL.of h3, fun ns' r pm pw np => ?_⟩
  have e : ns' = isort xs := PySem.W.os_sorted_mergeSort pm pw
  subst e
  exact q _ R _ (sx_newl S np (paired_of_int _))
theorem ev_lenT {x : α × β} (ha : Ev c Γ ta (.im x)) : Ev c Γ (tCB (gLen c.Z.K) (tCons ta tNil)) (.im (2 : Int)) := ev_cb1 ha fun R H v sm rv => by
  obtain ⟨a, y, z, rfl, h1, _⟩ := rv
  exact ⟨_, rfl, fun Q q => ⟨_, 2, rfl, .inr ⟨[y, z], SqT.of (sm _ _ h1), rfl⟩, q⟩⟩
theorem ev_tupF {x y : Int} (hx : Ev c Γ ta (.im x)) (hy : Ev c Γ tb (.im y)) : Ev c Γ (tTup (tCons ta (tCons tb tNil))) (.fo (some (x, y) : Option (Int × Int))) := fun B R0 R H ρ Δ σ S Q q xk => (ea_cons hx (ea_cons hy ea_nil)) B R0 R H ρ Δ σ S _ (fun vs R1 H1 S1 sl => by
  cases sl with
  | cons r1 t1 =>
    cases t1 with
    | cons r2 t2 =>
      cases t2
      rename_i v1 v2
      have e1 : v1 = .int x := r1
      have e2 : v2 = .int y := r2
      subst e1 e2
      refine ⟨by show 2 ≤ sizeLine; decide, fun p np => q _ R1 _ ?_⟩
      obtain ⟨hl, own, hs, es⟩ := S1
      obtain ⟨f1, f2, f3⟩ := fresh_own hs es np
      refine ⟨by simpa using hl, p :: own, ⟨hs.rh.trans (same_upd np), hs.bh.trans (same_upd np), hs.r0, hs.nw, fun b hb => ?_, List.nodup_cons.mpr ⟨f3, hs.nd⟩⟩, [p], own, rfl, ⟨_, rfl, ⟨p, _, _, rfl, by rw [res_in (by simp), upd_same], rfl, rfl⟩, fun b hb => ?_⟩, es_mono (Same.refl _) (fun b hb => upd_ne fun z => f3 (z ▸ hb)) es⟩
      · rcases List.mem_cons.mp hb with rfl | hb
        · exact ⟨f1, f2⟩
        · exact hs.ow b hb
      · have : b = p := by simpa using hb
        rw [this, upd_same]; simp) xk
theorem ev_noneF : Ev c Γ (tC .non) (.fo (none : Option α)) := ev_subS (s := .im (none : Option α)) (fun Z R H o f nd h => by
  obtain ⟨h1, v, h2, h3⟩ := h
  exact ⟨f, nd, fun _ h => h, v, h2, h3, fun p hp => by rw [h1] at hp; simp at hp⟩) ev_none
end
theorem sub_grown (F : List (List Int)) (y : Int) : SubS (.ot (id (OT.l ((F.map fun xs => xs.map OT.i).map fun xs => OT.l (xs ++ [.i y]))))) (.o2 (F.map fun xs => xs ++ [y])) := by
  have : OT.l ((F.map fun xs => xs.map OT.i).map fun xs => OT.l (xs ++ [.i y])) = otii (F.map fun xs => xs ++ [y]) := by
    rw [List.map_map, otii, List.map_map]
    congr 1
    refine List.map_congr_left fun xs _ => ?_
    simp
  show SubS (.ot (OT.l ((F.map fun xs => xs.map OT.i).map fun xs => OT.l (xs ++ [.i y])))) _
  rw [this]
  exact sub_To2
end TB

/-! TbCls: plain law: classes. -/
namespace TB
open PySem L2
section
variable {t : Tbl} {e : Int}
theorem bk_l (h : GTbl t e) {a : Int} (ha : InT t a) : en t a (bkf t e a) = e := (bk_first h ha).is.1
theorem bk_r (h : GTbl t e) {a : Int} (ha : InT t a) : en t (bkf t e a) a = e := (bk_first h ha).is.2
theorem bk_one (h : GTbl t e) {a b : Int} (ha : InT t a) (hb : InT t b) (q : en t a b = e) : bkf t e a = b := h.canL ha (bk_in h ha) hb ((bk_l h ha).trans q.symm)
theorem bk_mul (h : GTbl t e) {a b : Int} (ha : InT t a) (hb : InT t b) : bkf t e (en t a b) = en t (bkf t e b) (bkf t e a) := by
  have ia := bk_in h ha
  have ib := bk_in h hb
  refine bk_one h (h.cl ha hb) (h.cl ib ia) ?_
  rw [h.as ha hb (h.cl ib ia), ← h.as hb ib ia, bk_l h hb, h.u1 ia, bk_l h ha]
theorem cj_mul (h : GTbl t e) {x y a : Int} (hx : InT t x) (hy : InT t y) (ha : InT t a) : cj t e x (cj t e y a) = cj t e (en t x y) a := by
  unfold cj
  have iy := bk_in h hy
  have ix := bk_in h hx
  rw [bk_mul h hx hy, ← h.as hx (h.cl hy ha) iy, ← h.as hx hy ha, h.as (h.cl (h.cl hx hy) ha) iy ix]
theorem bk_unit (h : GTbl t e) : bkf t e e = e := bk_one h h.he h.he (h.u1 h.he)
theorem cj_unit (h : GTbl t e) {a : Int} (ha : InT t a) : cj t e e a = a := by
  unfold cj
  rw [bk_unit h, h.u1 ha, h.u2 ha]
def orb (t : Tbl) (e a : Int) : List Int := uset ((irange t.length).map fun o => cj t e o a)
theorem mem_orb {a z : Int} : z ∈ orb t e a ↔ ∃ o, InT t o ∧ cj t e o a = z := by
  unfold orb
  rw [mem_uset, List.mem_map]
  constructor
  · rintro ⟨o, h1, h2⟩
    exact ⟨o, mem_irange.mp h1, h2⟩
  · rintro ⟨o, h1, h2⟩
    exact ⟨o, mem_irange.mpr h1, h2⟩
theorem orb_in (h : GTbl t e) {a z : Int} (ha : InT t a) (hz : z ∈ orb t e a) : InT t z := by
  obtain ⟨o, h1, rfl⟩ := mem_orb.mp hz
  exact cj_in h h1 ha
theorem orb_self (h : GTbl t e) {a : Int} (ha : InT t a) : a ∈ orb t e a := mem_orb.mpr ⟨e, h.he, cj_unit h ha⟩
theorem orb_sym (h : GTbl t e) {a z : Int} (ha : InT t a) (hz : z ∈ orb t e a) : a ∈ orb t e z := by
  obtain ⟨o, h1, rfl⟩ := mem_orb.mp hz
  refine mem_orb.mpr ⟨bkf t e o, bk_in h h1, ?_⟩
  rw [cj_mul h (bk_in h h1) h1 ha, bk_r h h1, cj_unit h ha]
theorem orb_trans (h : GTbl t e) {a b z : Int} (ha : InT t a) (hb : b ∈ orb t e a) (hz : z ∈ orb t e b) : z ∈ orb t e a := by
  obtain ⟨o, h1, rfl⟩ := mem_orb.mp hb
  obtain ⟨p, h2, rfl⟩ := mem_orb.mp hz
  exact mem_orb.mpr ⟨en t p o, h.cl h2 h1, (cj_mul h h2 h1 ha).symm⟩
theorem orb_eq (h : GTbl t e) {a z : Int} (ha : InT t a) (hz : z ∈ orb t e a) : orb t e z = orb t e a :=
  inc_one (inc_uset _) (inc_uset _) fun x => ⟨fun q => orb_trans h ha hz q, fun q => orb_trans h (orb_in h ha hz) (orb_sym h ha hz) q⟩
theorem sins_len (x : Int) : ∀ l : List Int, (sins x l).length ≤ l.length + 1
  | [] => Nat.le_refl _
  | y :: r => by
    have := sins_len x r
    unfold sins
    split
    · simp
    · split <;> simp <;> omega
theorem uset_len (xs : List Int) : (uset xs).length ≤ xs.length := by
  unfold uset
  induction xs with
  | nil => exact Nat.le_refl _
  | cons x r ih =>
    have := sins_len x (r.foldr sins [])
    rw [List.foldr_cons, List.length_cons]
    omega
theorem orb_len {a : Int} : (orb t e a).length ≤ t.length := by
  unfold orb
  refine Nat.le_trans (uset_len _) ?_
  rw [List.length_map, irange_len]
  omega
/-- the classes found among the first things -/
def clsN (t : Tbl) (e : Int) : Nat → List (List Int)
  | 0 => []
  | i + 1 => if (i : Int) ∈ (clsN t e i).flatten then clsN t e i else clsN t e i ++ [orb t e (i : Int)]
def clsF (t : Tbl) (e : Int) : List (List Int) := clsN t e t.length
theorem inc_head {xs : List Int} {a : Int} (h : Inc xs) (ha : a ∈ xs) (lo : ∀ z ∈ xs, a ≤ z) : gt xs 0 = a := by
  cases xs with
  | nil => simp at ha
  | cons x r =>
    show x = a
    have h1 := lo x (by simp)
    rcases List.mem_cons.mp ha with q | q
    · exact q.symm
    · have := (List.pairwise_cons.mp h).1 a q
      omega
structure ClsI (t : Tbl) (e : Int) (i : Nat) (L : List (List Int)) : Prop where
  cov : ∀ x : Int, 0 ≤ x → x < i → x ∈ L.flatten
  orbs : ∀ l ∈ L, ∃ x : Int, InT t x ∧ l = orb t e x ∧ gt l 0 = x ∧ x < i
  heads : L.Pairwise fun a b => gt a 0 < gt b 0
  nd : L.flatten.Nodup
theorem clsI (h : GTbl t e) : ∀ i : Nat, i ≤ t.length → ClsI t e i (clsN t e i)
  | 0, _ => ⟨fun x a b => by omega, fun l hl => by simp [clsN] at hl, .nil, .nil⟩
  | i + 1, hi => by
    have ih := clsI h i (by omega)
    have hI : InT t (i : Int) := ⟨by omega, by omega⟩
    unfold clsN
    split
    · rename_i c
      refine ⟨fun x a b => ?_, fun l hl => ?_, ih.heads, ih.nd⟩
      · by_cases q : x = i
        · rw [q]; exact c
        · exact ih.cov x a (by omega)
      · obtain ⟨x, a, b, d, f⟩ := ih.orbs l hl
        exact ⟨x, a, b, d, by omega⟩
    · rename_i c
      have far : ∀ z ∈ orb t e (i : Int), z ∉ (clsN t e i).flatten := fun z hz hz2 => by
        obtain ⟨l, hl, hzl⟩ := List.mem_flatten.mp hz2
        obtain ⟨x, a, b, _, _⟩ := ih.orbs l hl
        rw [b] at hzl
        have e1 := orb_eq h a hzl
        have e2 := orb_sym h hI hz
        rw [e1, ← b] at e2
        exact c (List.mem_flatten.mpr ⟨l, hl, e2⟩)
      have lo : ∀ z ∈ orb t e (i : Int), (i : Int) ≤ z := fun z hz => by
        by_cases q : (i : Int) ≤ z
        · exact q
        · exact absurd (ih.cov z (orb_in h hI hz).1 (by omega)) (far z hz)
      have hd : gt (orb t e (i : Int)) 0 = i := inc_head (inc_uset _) (orb_self h hI) lo
      refine ⟨fun x a b => ?_, fun l hl => ?_, ?_, ?_⟩
      · rw [List.flatten_append, List.mem_append]
        by_cases q : x = i
        · rw [q]; exact .inr (by simpa using orb_self h hI)
        · exact .inl (ih.cov x a (by omega))
      · rcases List.mem_append.mp hl with q | q
        · obtain ⟨x, a, b, d, f⟩ := ih.orbs l q
          exact ⟨x, a, b, d, by omega⟩
        · have : l = orb t e (i : Int) := by simpa using q
          exact ⟨i, hI, this, by rw [this]; exact hd, by omega⟩
      · rw [List.pairwise_append]
        refine ⟨ih.heads, List.pairwise_singleton _ _, fun a ha b hb => ?_⟩
        have : b = orb t e (i : Int) := by simpa using hb
        obtain ⟨x, _, _, d, f⟩ := ih.orbs a ha
        rw [this, hd, d]
        exact f
      · rw [List.flatten_append, List.nodup_append]
        refine ⟨ih.nd, by simpa using (show (orb t e (i : Int)).Nodup from inc_nodup (inc_uset _)), fun a ha b hb q => ?_⟩
        have hb' : b ∈ orb t e (i : Int) := by simpa using hb
        exact far b hb' (q ▸ ha)
theorem clsF_I (h : GTbl t e) : ClsI t e t.length (clsF t e) := clsI h _ (Nat.le_refl _)
theorem clsN_len (t : Tbl) (e : Int) : ∀ i, (clsN t e i).length ≤ i
  | 0 => Nat.le_refl _
  | i + 1 => by
    have := clsN_len t e i
    unfold clsN
    split
    · omega
    · simp; omega
theorem clsF_mem (h : GTbl t e) (x : Int) : x ∈ (clsF t e).flatten ↔ x ∈ irange t.length := by
  have I := clsF_I h
  constructor
  · intro q
    obtain ⟨l, hl, hx⟩ := List.mem_flatten.mp q
    obtain ⟨y, a, b, _, _⟩ := I.orbs l hl
    rw [b] at hx
    exact mem_irange.mpr (orb_in h a hx)
  · intro q
    have := mem_irange.mp q
    exact I.cov x this.1 this.2
end
end TB

/-! TbPart: plain law: parts, least parts, sides, ways out. -/
namespace TB
open PySem L2
/-- a rising part -/
structure PartL (t : Tbl) (e : Int) (P : List Int) : Prop where
  inc : Inc P
  pt : Part t e P
/-- what look_at_part asks -/
structure IsPart (t : Tbl) (P : List Int) : Prop where
  ne : P ≠ []
  inc : Inc P
  inn : ∀ x ∈ P, InT t x
  mul : ∀ x ∈ P, ∀ y ∈ P, en t x y ∈ P
section
variable {t : Tbl} {e : Int}
theorem pw_mem {P : List Int} {a : Int} (h1 : e ∈ P) (hm : ∀ x ∈ P, ∀ y ∈ P, en t x y ∈ P) (ha : a ∈ P) : ∀ k, pw t e a k ∈ P
  | 0 => h1
  | k + 1 => hm _ (pw_mem h1 hm ha k) _ ha
theorem bk_pw (h : GTbl t e) {a : Int} (ha : InT t a) : bkf t e a = pw t e a (t.length - 1) := by
  refine bk_one h ha (pw_in h ha _) ?_
  have q := pw_add h ha 1 (t.length - 1)
  rw [show 1 + (t.length - 1) = t.length by have := h.sz.1; omega, pw_len h ha] at q
  have : pw t e a 1 = a := by show en t e a = a; exact h.u1 ha
  rw [this] at q
  exact q.symm
theorem IsPart.one (h : GTbl t e) {P : List Int} (p : IsPart t P) : e ∈ P := by
  obtain ⟨a, ha⟩ := List.exists_mem_of_ne_nil P p.ne
  have key : ∀ k, 0 < k → pw t e a k ∈ P := fun k => by
    induction k with
    | zero => intro z; omega
    | succ k ih =>
      intro _
      by_cases c : k = 0
      · subst c
        show en t e a ∈ P
        rw [h.u1 (p.inn a ha)]
        exact ha
      · exact p.mul _ (ih (by omega)) _ ha
  have := key t.length h.sz.1
  rw [pw_len h (p.inn a ha)] at this
  exact this
theorem IsPart.partL (h : GTbl t e) {P : List Int} (p : IsPart t P) : PartL t e P := by
  refine ⟨p.inc, inc_nodup p.inc, p.inn, p.one h, p.mul, fun x hx => ?_⟩
  have hi := p.inn x hx
  refine ⟨bkf t e x, ?_, bk_l h hi, bk_r h hi⟩
  rw [bk_pw h hi]
  exact pw_mem (p.one h) p.mul hx _
theorem PartL.isPart {P : List Int} (p : PartL t e P) : IsPart t P := ⟨fun z => by have := p.pt.one; rw [z] at this; simp at this, p.inc, p.pt.inn, p.pt.mul⟩
theorem PartL.bk (h : GTbl t e) {P : List Int} (p : PartL t e P) {x : Int} (hx : x ∈ P) : bkf t e x ∈ P := by
  obtain ⟨y, hy, q, _⟩ := p.pt.bk x hx
  rw [bk_one h (p.pt.inn x hx) (p.pt.inn y hy) q]
  exact hy
theorem PartL.len {P : List Int} (p : PartL t e P) : P.length ≤ t.length := by
  have := nodup_le (B := irange t.length) p.pt.nd fun x hx => mem_irange.mpr (p.pt.inn x hx)
  rw [irange_len] at this
  omega
/-! ### least parts -/
inductive Reach (t : Tbl) (e : Int) (some : List Int) : Int → Prop
  | one : Reach t e some e
  | step {x y : Int} : Reach t e some x → y ∈ some → Reach t e some (en t x y)
noncomputable def clo (t : Tbl) (e : Int) (some : List Int) : List Int := (irange t.length).filter fun x => @decide (Reach t e some x) (Classical.propDecidable _)
theorem reach_in (h : GTbl t e) {some : List Int} (hs : ∀ y ∈ some, InT t y) {x : Int} (r : Reach t e some x) : InT t x := by
  induction r with
  | one => exact h.he
  | step _ hy ih => exact h.cl ih (hs _ hy)
theorem mem_clo (h : GTbl t e) {some : List Int} (hs : ∀ y ∈ some, InT t y) {x : Int} : x ∈ clo t e some ↔ Reach t e some x := by
  unfold clo
  rw [List.mem_filter]
  constructor
  · rintro ⟨_, q⟩
    exact @of_decide_eq_true _ (Classical.propDecidable _) q
  · intro q
    exact ⟨mem_irange.mpr (reach_in h hs q), @decide_eq_true _ (Classical.propDecidable _) q⟩
theorem inc_clo (some : List Int) : Inc (clo t e some) := (inc_irange _).filter _
theorem reach_mul (h : GTbl t e) {some : List Int} (hs : ∀ y ∈ some, InT t y) {x y : Int} (rx : Reach t e some x) (ry : Reach t e some y) : Reach t e some (en t x y) := by
  have hx := reach_in h hs rx
  induction ry with
  | one => rw [h.u2 hx]; exact rx
  | step r hy ih =>
    rw [← h.as hx (reach_in h hs r) (hs _ hy)]
    exact .step ih hy
theorem reach_some (h : GTbl t e) {some : List Int} (hs : ∀ y ∈ some, InT t y) {y : Int} (hy : y ∈ some) : Reach t e some y := by
  have := Reach.step (.one (t := t) (e := e) (some := some)) hy
  rw [h.u1 (hs y hy)] at this
  exact this
theorem clo_part (h : GTbl t e) {some : List Int} (hs : ∀ y ∈ some, InT t y) : PartL t e (clo t e some) :=
  IsPart.partL h ⟨fun z => by have := (mem_clo h hs).mpr .one; rw [z] at this; simp at this, inc_clo some, fun x hx => reach_in h hs ((mem_clo h hs).mp hx), fun x hx y hy => (mem_clo h hs).mpr (reach_mul h hs ((mem_clo h hs).mp hx) ((mem_clo h hs).mp hy))⟩
/-- a list with all products by some things holds all that they reach -/
theorem reach_sub {some R : List Int} (h1 : e ∈ R) (hc : ∀ x ∈ R, ∀ y ∈ some, en t x y ∈ R) {x : Int} (r : Reach t e some x) : x ∈ R := by
  induction r with
  | one => exact h1
  | step _ hy ih => exact hc _ ih _ hy
theorem clo_is (h : GTbl t e) {some R : List Int} (hs : ∀ y ∈ some, InT t y) (nd : R.Nodup) (h1 : e ∈ R) (hr : ∀ x ∈ R, Reach t e some x) (hc : ∀ x ∈ R, ∀ y ∈ some, en t x y ∈ R) : isort R = clo t e some :=
  isort_eq nd (inc_clo some) fun z => ⟨fun q => (mem_clo h hs).mpr (hr z q), fun q => reach_sub h1 hc ((mem_clo h hs).mp q)⟩
theorem clo_congr (h : GTbl t e) {some some' : List Int} (hs : ∀ y ∈ some, InT t y) (hs' : ∀ y ∈ some', InT t y) (h1 : ∀ y, y ∈ some ↔ y ∈ some') : clo t e some = clo t e some' := by
  refine inc_one (inc_clo _) (inc_clo _) fun z => ?_
  rw [mem_clo h hs, mem_clo h hs']
  constructor
  · intro r
    induction r with
    | one => exact .one
    | step _ hy ih => exact .step ih ((h1 _).mp hy)
  · intro r
    induction r with
    | one => exact .one
    | step _ hy ih => exact .step ih ((h1 _).mpr hy)
/-! ### things told apart by lists -/
/-- each thing's list: rising, with it, the same for all its things -/
structure Eqv (t : Tbl) (F : Int → List Int) : Prop where
  inc : ∀ a, InT t a → Inc (F a)
  self : ∀ a, InT t a → a ∈ F a
  inn : ∀ a, InT t a → ∀ z ∈ F a, InT t z
  eq : ∀ a, InT t a → ∀ z ∈ F a, F z = F a
def kinN (F : Int → List Int) : Nat → List (List Int)
  | 0 => []
  | i + 1 => if (i : Int) ∈ (kinN F i).flatten then kinN F i else kinN F i ++ [F (i : Int)]
structure KinI (t : Tbl) (F : Int → List Int) (i : Nat) (L : List (List Int)) : Prop where
  cov : ∀ x : Int, 0 ≤ x → x < i → x ∈ L.flatten
  orbs : ∀ l ∈ L, ∃ x : Int, InT t x ∧ l = F x ∧ gt l 0 = x ∧ x < i
  heads : L.Pairwise fun a b => gt a 0 < gt b 0
  nd : L.flatten.Nodup
theorem kinI {F : Int → List Int} (h : Eqv t F) : ∀ i : Nat, i ≤ t.length → KinI t F i (kinN F i)
  | 0, _ => ⟨fun x a b => by omega, fun l hl => by simp [kinN] at hl, .nil, .nil⟩
  | i + 1, hi => by
    have ih := kinI h i (by omega)
    have hI : InT t (i : Int) := ⟨by omega, by omega⟩
    unfold kinN
    split
    · rename_i c
      refine ⟨fun x a b => ?_, fun l hl => ?_, ih.heads, ih.nd⟩
      · by_cases q : x = i
        · rw [q]; exact c
        · exact ih.cov x a (by omega)
      · obtain ⟨x, a, b, d, f⟩ := ih.orbs l hl
        exact ⟨x, a, b, d, by omega⟩
    · rename_i c
      have far : ∀ z ∈ F (i : Int), z ∉ (kinN F i).flatten := fun z hz hz2 => by
        obtain ⟨l, hl, hzl⟩ := List.mem_flatten.mp hz2
        obtain ⟨x, a, b, _, _⟩ := ih.orbs l hl
        rw [b] at hzl
        have e1 := h.eq x a z hzl
        have e2 := h.eq i hI z hz
        have e3 := h.self i hI
        rw [← e2, e1, ← b] at e3
        exact c (List.mem_flatten.mpr ⟨l, hl, e3⟩)
      have lo : ∀ z ∈ F (i : Int), (i : Int) ≤ z := fun z hz => by
        by_cases q : (i : Int) ≤ z
        · exact q
        · exact absurd (ih.cov z (h.inn i hI z hz).1 (by omega)) (far z hz)
      have hd : gt (F (i : Int)) 0 = i := inc_head (h.inc i hI) (h.self i hI) lo
      refine ⟨fun x a b => ?_, fun l hl => ?_, ?_, ?_⟩
      · rw [List.flatten_append, List.mem_append]
        by_cases q : x = i
        · rw [q]; exact .inr (by simpa using h.self i hI)
        · exact .inl (ih.cov x a (by omega))
      · rcases List.mem_append.mp hl with q | q
        · obtain ⟨x, a, b, d, f⟩ := ih.orbs l q
          exact ⟨x, a, b, d, by omega⟩
        · have : l = F (i : Int) := by simpa using q
          exact ⟨i, hI, this, by rw [this]; exact hd, by omega⟩
      · rw [List.pairwise_append]
        refine ⟨ih.heads, List.pairwise_singleton _ _, fun a ha b hb => ?_⟩
        have : b = F (i : Int) := by simpa using hb
        obtain ⟨x, _, _, d, f⟩ := ih.orbs a ha
        rw [this, hd, d]
        exact f
      · rw [List.flatten_append, List.nodup_append]
        refine ⟨ih.nd, by simpa using inc_nodup (h.inc i hI), fun a ha b hb q => ?_⟩
        have hb' : b ∈ F (i : Int) := by simpa using hb
        exact far b hb' (q ▸ ha)
theorem kinN_len (F : Int → List Int) : ∀ i, (kinN F i).length ≤ i
  | 0 => Nat.le_refl _
  | i + 1 => by
    have := kinN_len F i
    unfold kinN
    split
    · omega
    · simp; omega
theorem kin_mem {F : Int → List Int} (h : Eqv t F) (x : Int) : x ∈ (kinN F t.length).flatten ↔ x ∈ irange t.length := by
  have I := kinI h t.length (Nat.le_refl _)
  constructor
  · intro q
    obtain ⟨l, hl, hx⟩ := List.mem_flatten.mp q
    obtain ⟨y, a, b, _, _⟩ := I.orbs l hl
    rw [b] at hx
    exact mem_irange.mpr (h.inn y a x hx)
  · intro q
    have := mem_irange.mp q
    exact I.cov x this.1 this.2
/-! ### sides -/
def sid (t : Tbl) (P : List Int) (x : Int) : List Int := isort (P.map fun h => gt (gt t x) h)
theorem mem_sid {P : List Int} {x z : Int} : z ∈ sid t P x ↔ ∃ h ∈ P, en t x h = z := by
  unfold sid
  rw [(isort_perm _).mem_iff, List.mem_map]
theorem sid_len {P : List Int} {x : Int} : (sid t P x).length = P.length := by
  unfold sid
  rw [(isort_perm _).length_eq, List.length_map]
theorem sid_eqv (h : GTbl t e) {P : List Int} (p : PartL t e P) : Eqv t (sid t P) := by
  have inc : ∀ a, InT t a → Inc (sid t P a) := fun a ha => by
    refine isort_inc ?_
    rw [List.Nodup, List.pairwise_map]
    exact p.pt.nd.imp_of_mem fun {x y} hx hy ne q => ne (h.canL ha (p.pt.inn x hx) (p.pt.inn y hy) q)
  have inn : ∀ a, InT t a → ∀ z ∈ sid t P a, InT t z := fun a ha z hz => by
    obtain ⟨y, hy, rfl⟩ := mem_sid.mp hz
    exact h.cl ha (p.pt.inn y hy)
  refine ⟨inc, fun a ha => mem_sid.mpr ⟨e, p.pt.one, h.u2 ha⟩, inn, fun a ha z hz => ?_⟩
  obtain ⟨y, hy, rfl⟩ := mem_sid.mp hz
  have iy := p.pt.inn y hy
  refine inc_one (inc _ (inn a ha _ hz)) (inc a ha) fun w => ?_
  rw [mem_sid, mem_sid]
  constructor
  · rintro ⟨v, hv, rfl⟩
    exact ⟨en t y v, p.pt.mul y hy v hv, (h.as ha iy (p.pt.inn v hv)).symm⟩
  · rintro ⟨v, hv, rfl⟩
    have by' := p.bk h hy
    refine ⟨en t (bkf t e y) v, p.pt.mul _ by' v hv, ?_⟩
    rw [h.as ha iy (h.cl (p.pt.inn _ by') (p.pt.inn v hv)), ← h.as iy (p.pt.inn _ by') (p.pt.inn v hv), bk_l h iy, h.u1 (p.pt.inn v hv)]
/-- what leads back the carrier of a thing's side -/
theorem sid_back (h : GTbl t e) {P : List Int} (p : PartL t e P) {x z : Int} (hx : InT t x) (hz : z ∈ sid t P x) : en t (bkf t e x) z ∈ P := by
  obtain ⟨y, hy, rfl⟩ := mem_sid.mp hz
  rw [← h.as (bk_in h hx) hx (p.pt.inn y hy), bk_r h hx, h.u1 (p.pt.inn y hy)]
  exact hy
/-! ### ways out -/
def woF (t : Tbl) (e : Int) (P : List Int) : Option (Int × Int) := (irange t.length).findSome? fun o => (P.find? fun h => !decide (cj t e o h ∈ P)).map fun h => (o, h)
theorem irange_cut {n : Int} {i : Int} (h0 : 0 ≤ i) (h1 : i < n) : ∃ r, irange n = irange i ++ i :: r := by
  refine ⟨(irange n).drop (i.toNat + 1), ?_⟩
  have hl : i.toNat < (irange n).length := by rw [irange_len]; omega
  have e1 : (irange n).take i.toNat = irange i := by
    refine List.ext_getElem (by simp [irange_len]; omega) fun k a b => ?_
    rw [List.getElem_take, irange_get, irange_get]
  have e2 : (irange n)[i.toNat] = i := by rw [irange_get]; omega
  conv => lhs; rw [← List.take_append_drop i.toNat (irange n), e1, List.drop_eq_getElem_cons hl, e2]
theorem find_none {α : Type} {p : α → Bool} {l : List α} (h : ∀ x ∈ l, p x = false) : l.find? p = none := by
  rw [List.find?_eq_none]
  intro x hx
  rw [h x hx]
  decide
theorem woF_none {P : List Int} (h : ∀ o, InT t o → ∀ x ∈ P, cj t e o x ∈ P) : woF t e P = none := by
  unfold woF
  rw [List.findSome?_eq_none_iff]
  intro o ho
  rw [find_none fun x hx => by simpa using h o (mem_irange.mp ho) x hx]
  rfl
theorem woF_some {P : List Int} {o : Int} {k : Nat} (hk : k < P.length) (ho : InT t o) (h1 : ∀ a, 0 ≤ a → a < o → ∀ x ∈ P, cj t e a x ∈ P) (h2 : ∀ x ∈ P.take k, cj t e o x ∈ P) (h3 : cj t e o P[k] ∉ P) : woF t e P = some (o, P[k]) := by
  obtain ⟨r, er⟩ := irange_cut ho.1 ho.2
  unfold woF
  rw [er, List.findSome?_append, List.findSome?_eq_none_iff.mpr, Option.none_or, List.findSome?_cons]
  · have : P.find? (fun h => !decide (cj t e o h ∈ P)) = some P[k] := by
      have eP : P = P.take k ++ P[k] :: P.drop (k + 1) := by
        conv => lhs; rw [← List.take_append_drop k P, List.drop_eq_getElem_cons hk]
      have q : ∀ Q : Int → Bool, (∀ x ∈ P.take k, Q x = false) → Q P[k] = true → P.find? Q = some P[k] := fun Q a b => by
        have : (P.take k ++ P[k] :: P.drop (k + 1)).find? Q = some P[k] := by
          rw [List.find?_append, find_none a, Option.none_or, List.find?_cons, b]
        rw [← eP] at this
        exact this
      exact q _ (fun x hx => by simpa using h2 x hx) (by simpa using h3)
    rw [this]
    rfl
  · intro a ha
    have := mem_irange.mp ha
    rw [find_none fun x hx => by simpa using h1 a this.1 this.2 x hx]
    rfl
end
end TB

/-! TbIn: plain law: a part's own group, the group of a steady part's sides. -/
namespace TB
open PySem L2
/-- a thing's place in a list -/
def ix : List Int → Int → Nat
  | [], _ => 0
  | x :: r, y => if x = y then 0 else ix r y + 1
theorem ix_at : ∀ {r : List Int} {y : Int}, y ∈ r → r[ix r y]? = some y ∧ ∀ m, m < ix r y → r[m]? ≠ some y
  | [], y, h => by simp at h
  | x :: r, y, h => by
    unfold ix
    by_cases q : x = y
    · rw [if_pos q]
      exact ⟨by simp [q], fun m hm => by omega⟩
    · rw [if_neg q]
      have h' : y ∈ r := by
        rcases List.mem_cons.mp h with z | z
        · exact absurd z.symm q
        · exact z
      obtain ⟨h1, h2⟩ := ix_at h'
      refine ⟨by simpa using h1, fun m hm => ?_⟩
      cases m with
      | zero => simpa using q
      | succ m => simpa using h2 m (by omega)
theorem ix_lt {r : List Int} {y : Int} (h : y ∈ r) : ix r y < r.length := (List.getElem?_eq_some_iff.mp (ix_at h).1).1
theorem gt_ix {r : List Int} {y : Int} (h : y ∈ r) : gt r (ix r y : Int) = y := by
  rw [gt_nat (ix_lt h)]
  exact (List.getElem?_eq_some_iff.mp (ix_at h).1).2
theorem gt_inj {r : List Int} (nd : r.Nodup) {i j : Int} (i0 : 0 ≤ i) (i1 : i < r.length) (j0 : 0 ≤ j) (j1 : j < r.length) (q : gt r i = gt r j) : i = j := by
  have e1 := gt_some i0 i1
  have e2 := gt_some j0 j1
  rw [q, ← e2] at e1
  have := (List.getElem?_inj (by omega) nd).mp e1
  omega
theorem ix_gt {r : List Int} (nd : r.Nodup) {i : Int} (i0 : 0 ≤ i) (i1 : i < r.length) : (ix r (gt r i) : Int) = i :=
  gt_inj nd (by omega) (by have := ix_lt (gt_mem i0 i1); omega) i0 i1 (gt_ix (gt_mem i0 i1))
theorem gt_mapL {α β : Type} [Rp α] [Rp β] {l : List α} {f : α → β} {i : Int} (h0 : 0 ≤ i) (h1 : i < l.length) : gt (l.map f) i = f (gt l i) := by
  have h2 : i.toNat < l.length := by omega
  have e : ((i.toNat : Nat) : Int) = i := by omega
  rw [← e, gt_nat (by rw [List.length_map]; exact h2), gt_nat h2, List.getElem_map]
/-! ### the image of a group -/
theorem img_G {t t' : Tbl} {e : Int} (h : GTbl t e) (f : Int → Int) (hs : SizeOk t') (inn : ∀ x, InT t x → InT t' (f x)) (sur : ∀ i, InT t' i → ∃ x, InT t x ∧ f x = i) (hm : ∀ x y, InT t x → InT t y → en t' (f x) (f y) = f (en t x y)) : GTbl t' (f e) := by
  refine ⟨hs, fun r hr z hz => ?_, inn e h.he, fun a a0 a1 => ?_, fun a ha => ?_, fun a b c ha hb hc => ?_⟩
  · obtain ⟨i, hi, rfl⟩ := List.getElem_of_mem hr
    obtain ⟨j, hj, rfl⟩ := List.getElem_of_mem hz
    have hl := hs.2.2 _ (List.getElem_mem hi)
    obtain ⟨x, hx, ex⟩ := sur (i : Int) ⟨by omega, by omega⟩
    obtain ⟨y, hy, ey⟩ := sur (j : Int) ⟨by omega, by omega⟩
    have := hm x y hx hy
    rw [ex, ey] at this
    have e1 : en t' (i : Int) (j : Int) = t'[i][j] := by
      show gt (gt t' (i : Int)) (j : Int) = _
      rw [gt_nat hi, gt_nat hj]
    rw [← e1, this]
    exact inn _ (h.cl hx hy)
  · obtain ⟨x, hx, rfl⟩ := sur a ⟨a0, a1⟩
    rw [hm _ _ h.he hx, hm _ _ hx h.he, h.u1 hx, h.u2 hx]
    exact ⟨rfl, rfl⟩
  · obtain ⟨x, hx, rfl⟩ := sur a ha
    obtain ⟨y, hy, q1, q2⟩ := h.bk x hx
    exact ⟨f y, inn y hy, by rw [hm _ _ hx hy, q1], by rw [hm _ _ hy hx, q2]⟩
  · obtain ⟨x, hx, rfl⟩ := sur a ha
    obtain ⟨y, hy, rfl⟩ := sur b hb
    obtain ⟨z, hz, rfl⟩ := sur c hc
    show en t' (en t' _ _) _ = en t' _ (en t' _ _)
    rw [hm _ _ hx hy, hm _ _ hy hz, hm _ _ (h.cl hx hy) hz, hm _ _ hx (h.cl hy hz), h.as hx hy hz]
/-! ### a part's own group -/
def innT (t : Tbl) (P : List Int) : Tbl := P.map fun a => P.map fun b => (ix P (en t a b) : Int)
section
variable {t : Tbl} {e : Int} {P : List Int}
theorem innT_len : (innT t P).length = P.length := by unfold innT; rw [List.length_map]
theorem innT_en {i j : Int} (i0 : 0 ≤ i) (i1 : i < P.length) (j0 : 0 ≤ j) (j1 : j < P.length) : en (innT t P) i j = (ix P (en t (gt P i) (gt P j)) : Int) := by
  show gt (gt (innT t P) i) j = _
  unfold innT
  rw [gt_mapL i0 i1, gt_mapL j0 j1]
theorem innT_G (h : GTbl t e) (p : PartL t e P) : GTbl (innT t P) (ix P e : Int) := by
  have hn : (innT t P).length = P.length := innT_len
  have ip : ∀ {i : Int}, InT (innT t P) i → 0 ≤ i ∧ i < P.length ∧ gt P i ∈ P := fun {i} hi => ⟨hi.1, by have := hi.2; omega, gt_mem hi.1 (by have := hi.2; omega)⟩
  have xi : ∀ {x : Int}, x ∈ P → InT (innT t P) (ix P x : Int) := fun {x} hx => ⟨by omega, by have := ix_lt hx; omega⟩
  have enx : ∀ {x y : Int}, x ∈ P → y ∈ P → en (innT t P) (ix P x : Int) (ix P y : Int) = (ix P (en t x y) : Int) := fun {x y} hx hy => by
    rw [innT_en (xi hx).1 (ip (xi hx)).2.1 (xi hy).1 (ip (xi hy)).2.1, gt_ix hx, gt_ix hy]
  have bc : ∀ {i : Int}, InT (innT t P) i → i = (ix P (gt P i) : Int) := fun {i} hi => (ix_gt p.pt.nd (ip hi).1 (ip hi).2.1).symm
  have hl := p.len
  have h1 := h.sz.2.1
  refine ⟨⟨?_, by omega, fun r hr => ?_⟩, fun r hr z hz => ?_, xi p.pt.one, fun a a0 a1 => ?_, fun a ha => ?_, fun a b c ha hb hc => ?_⟩
  · rw [hn]; exact List.length_pos_of_mem p.pt.one
  · obtain ⟨a, _, rfl⟩ := List.mem_map.mp hr
    rw [hn, List.length_map]
  · obtain ⟨a, ha, rfl⟩ := List.mem_map.mp hr
    obtain ⟨b, hb, rfl⟩ := List.mem_map.mp hz
    exact xi (p.pt.mul a ha b hb)
  · have ha : InT (innT t P) a := ⟨a0, a1⟩
    have hm := (ip ha).2.2
    rw [bc ha, enx p.pt.one hm, enx hm p.pt.one, h.u1 (p.pt.inn _ hm), h.u2 (p.pt.inn _ hm)]
    exact ⟨rfl, rfl⟩
  · have hm := (ip ha).2.2
    have hb := p.bk h hm
    refine ⟨_, xi hb, ?_⟩
    rw [bc ha]
    refine ⟨?_, ?_⟩
    · rw [gt_ix hm, enx hm hb, bk_l h (p.pt.inn _ hm)]
    · rw [gt_ix hm, enx hb hm, bk_r h (p.pt.inn _ hm)]
  · have ma := (ip ha).2.2
    have mb := (ip hb).2.2
    have mc := (ip hc).2.2
    show en _ (en _ _ _) _ = en _ _ (en _ _ _)
    rw [bc ha, bc hb, bc hc, enx ma mb, enx mb mc, enx (p.pt.mul _ ma _ mb) mc, enx ma (p.pt.mul _ mb _ mc), h.as (p.pt.inn _ ma) (p.pt.inn _ mb) (p.pt.inn _ mc)]
theorem innT_bk (h : GTbl t e) (p : PartL t e P) {x : Int} (hx : x ∈ P) : bkf (innT t P) (ix P e : Int) (ix P x : Int) = (ix P (bkf t e x) : Int) := by
  have hn : (innT t P).length = P.length := innT_len
  have xi : ∀ {x : Int}, x ∈ P → InT (innT t P) (ix P x : Int) := fun {x} hx => ⟨by omega, by have := ix_lt hx; omega⟩
  have hb := p.bk h hx
  refine bk_one (innT_G h p) (xi hx) (xi hb) ?_
  rw [innT_en (xi hx).1 (by have := ix_lt hx; omega) (xi hb).1 (by have := ix_lt hb; omega), gt_ix hx, gt_ix hb, bk_l h (p.pt.inn x hx)]
theorem innT_grp (h : GTbl t e) (p : PartL t e P) : (⟨(innT t P).length, innT t P, (ix P e : Int), P.map fun x => (ix P (bkf t e x) : Int)⟩ : Grp) = grpOf (innT t P) (ix P e : Int) := by
  unfold grpOf
  congr 1
  have hn : (innT t P).length = P.length := innT_len
  refine List.ext_getElem (by rw [List.length_map, List.length_map, irange_len]; omega) fun i h1 h2 => ?_
  have hi : i < P.length := by simpa using h1
  rw [List.getElem_map, List.getElem_map, irange_get]
  have e1 : (i : Int) = (ix P P[i] : Int) := by
    have := ix_gt p.pt.nd (i := (i : Int)) (by omega) (by omega)
    rw [gt_nat hi] at this
    exact this.symm
  rw [e1, innT_bk h p (List.getElem_mem hi)]
/-! ### sides' numbers -/
abbrev sds (t : Tbl) (P : List Int) : List (List Int) := kinN (sid t P) t.length
def hm (t : Tbl) (P : List Int) (x : Int) : Nat := (sds t P).findIdx fun l => decide (x ∈ l)
theorem mem_sid_iff (h : GTbl t e) (p : PartL t e P) {x y : Int} (hx : InT t x) (hy : InT t y) : x ∈ sid t P y ↔ sid t P x = sid t P y := by
  have E := sid_eqv h p
  exact ⟨fun q => E.eq y hy x q, fun q => q ▸ E.self x hx⟩
theorem sds_at (h : GTbl t e) (p : PartL t e P) {k : Nat} (hk : k < (sds t P).length) : ∃ y, InT t y ∧ (sds t P)[k] = sid t P y ∧ gt (sds t P)[k] 0 = y := by
  obtain ⟨x, a, b, d, _⟩ := (kinI (sid_eqv h p) t.length (Nat.le_refl _)).orbs _ (List.getElem_mem hk)
  exact ⟨x, a, b, d⟩
theorem hm_spec (h : GTbl t e) (p : PartL t e P) {x : Int} (hx : InT t x) : ∃ hl : hm t P x < (sds t P).length, (sds t P)[hm t P x] = sid t P x := by
  have hc : x ∈ (sds t P).flatten := (kin_mem (sid_eqv h p) x).mpr (mem_irange.mpr hx)
  obtain ⟨l, hl, hxl⟩ := List.mem_flatten.mp hc
  have hlt : hm t P x < (sds t P).length := List.findIdx_lt_length_of_exists ⟨l, hl, decide_eq_true hxl⟩
  refine ⟨hlt, ?_⟩
  have q : x ∈ (sds t P)[hm t P x] := of_decide_eq_true (List.findIdx_getElem (p := fun l => decide (x ∈ l)) (w := hlt))
  obtain ⟨y, hy, e1, _⟩ := sds_at h p hlt
  rw [e1] at q ⊢
  exact ((mem_sid_iff h p hx hy).mp q).symm
theorem sds_inj (h : GTbl t e) (p : PartL t e P) {i j : Nat} (hi : i < (sds t P).length) (hj : j < (sds t P).length) (q : (sds t P)[i] = (sds t P)[j]) : i = j := by
  have hp := List.pairwise_iff_getElem.mp (show (sds t P).Pairwise fun a b => gt a 0 < gt b 0 from (kinI (sid_eqv h p) t.length (Nat.le_refl _)).heads)
  rcases Nat.lt_trichotomy i j with r | r | r
  · have := hp i j hi hj r
    rw [q] at this
    omega
  · exact r
  · have := hp j i hj hi r
    rw [q] at this
    omega
theorem hm_eq (h : GTbl t e) (p : PartL t e P) {x y : Int} (hx : InT t x) (hy : InT t y) : hm t P x = hm t P y ↔ sid t P x = sid t P y := by
  obtain ⟨l1, e1⟩ := hm_spec h p hx
  obtain ⟨l2, e2⟩ := hm_spec h p hy
  constructor
  · intro q
    rw [← e1, ← e2]
    simp only [q]
  · intro q
    exact sds_inj h p l1 l2 (by rw [e1, e2, q])
/-- a side's least thing -/
abbrev lf (t : Tbl) (P : List Int) (k : Nat) : Int := gt (gt (sds t P) (k : Int)) 0
theorem lf_spec (h : GTbl t e) (p : PartL t e P) {k : Nat} (hk : k < (sds t P).length) : InT t (lf t P k) ∧ (sds t P)[k] = sid t P (lf t P k) ∧ hm t P (lf t P k) = k := by
  obtain ⟨y, hy, e1, e2⟩ := sds_at h p hk
  have e3 : lf t P k = y := by show gt (gt (sds t P) (k : Int)) 0 = y; rw [gt_nat hk]; exact e2
  rw [e3]
  refine ⟨hy, e1, ?_⟩
  obtain ⟨l1, q⟩ := hm_spec h p hy
  exact sds_inj h p l1 hk (by rw [q, e1])
theorem sid_lf (h : GTbl t e) (p : PartL t e P) {x : Int} (hx : InT t x) : sid t P (lf t P (hm t P x)) = sid t P x := by
  obtain ⟨l1, q⟩ := hm_spec h p hx
  rw [← (lf_spec h p l1).2.1, q]
/-! ### steady parts -/
def St (t : Tbl) (e : Int) (P : List Int) : Prop := ∀ o, InT t o → ∀ x ∈ P, cj t e o x ∈ P
theorem bk_bk (h : GTbl t e) {x : Int} (hx : InT t x) : bkf t e (bkf t e x) = x := bk_one h (bk_in h hx) hx (bk_r h hx)
theorem woF_st (h : GTbl t e) (p : PartL t e P) (q : woF t e P = none) : St t e P := fun o ho x hx => by
  unfold woF at q
  rw [List.findSome?_eq_none_iff] at q
  have := q o (mem_irange.mpr ho)
  rw [Option.map_eq_none_iff, List.find?_eq_none] at this
  have := this x hx
  simpa using this
theorem st_woF (st : St t e P) : woF t e P = none := woF_none st
theorem sid_mul (h : GTbl t e) (p : PartL t e P) (st : St t e P) {x x' y y' : Int} (hx : InT t x) (hx' : InT t x') (hy : InT t y) (hy' : InT t y') (q1 : sid t P x' = sid t P x) (q2 : sid t P y' = sid t P y) : sid t P (en t x' y') = sid t P (en t x y) := by
  have E := sid_eqv h p
  obtain ⟨a, ha, rfl⟩ := mem_sid.mp ((mem_sid_iff h p hx' hx).mpr q1)
  obtain ⟨b, hb, rfl⟩ := mem_sid.mp ((mem_sid_iff h p hy' hy).mpr q2)
  refine E.eq _ (h.cl hx hy) _ (mem_sid.mpr ⟨en t (cj t e (bkf t e y) a) b, p.pt.mul _ (st _ (bk_in h hy) a ha) b hb, ?_⟩)
  have ia := p.pt.inn a ha
  have ib := p.pt.inn b hb
  have iy := bk_in h hy
  unfold cj
  rw [bk_bk h hy]
  rw [h.as (h.cl iy ia) hy ib, h.as iy ia (h.cl hy ib), h.as hx hy (h.cl iy (h.cl ia (h.cl hy ib))), ← h.as hy iy (h.cl ia (h.cl hy ib)), bk_l h hy, h.u1 (h.cl ia (h.cl hy ib)), h.as hx ia (h.cl hy ib)]
/-- the group of the sides -/
def fdT (t : Tbl) (P : List Int) : Tbl := (sds t P).map fun a => (sds t P).map fun b => (hm t P (en t (gt a 0) (gt b 0)) : Int)
theorem fdT_len : (fdT t P).length = (sds t P).length := by unfold fdT; rw [List.length_map]
theorem fdT_en (h : GTbl t e) (p : PartL t e P) (st : St t e P) {x y : Int} (hx : InT t x) (hy : InT t y) : en (fdT t P) (hm t P x : Int) (hm t P y : Int) = (hm t P (en t x y) : Int) := by
  obtain ⟨l1, q1⟩ := hm_spec h p hx
  obtain ⟨l2, q2⟩ := hm_spec h p hy
  show gt (gt (fdT t P) _) _ = _
  unfold fdT
  rw [gt_mapL (by omega) (by omega), gt_mapL (by omega) (by omega)]
  congr 1
  have i1 := (lf_spec h p l1).1
  have i2 := (lf_spec h p l2).1
  exact (hm_eq h p (h.cl i1 i2) (h.cl hx hy)).mpr (sid_mul h p st hx i1 hy i2 (sid_lf h p hx) (sid_lf h p hy))
theorem sds_len (h : GTbl t e) (p : PartL t e P) : 1 ≤ (sds t P).length ∧ (sds t P).length ≤ t.length := by
  obtain ⟨l1, _⟩ := hm_spec h p h.he
  exact ⟨by omega, kinN_len _ _⟩
theorem fdT_G (h : GTbl t e) (p : PartL t e P) (st : St t e P) : GTbl (fdT t P) (hm t P e : Int) := by
  obtain ⟨n1, n2⟩ := sds_len h p
  have h1 := h.sz.2.1
  refine img_G h (fun x => (hm t P x : Int)) ⟨by rw [fdT_len]; exact n1, by rw [fdT_len]; omega, fun r hr => ?_⟩ (fun x hx => ⟨by omega, by rw [fdT_len]; have := (hm_spec h p hx).1; omega⟩) (fun i hi => ?_) fun x y hx hy => fdT_en h p st hx hy
  · obtain ⟨a, _, rfl⟩ := List.mem_map.mp hr
    rw [List.length_map, fdT_len]
  · have := hi.2
    rw [fdT_len] at this
    have i0 := hi.1
    obtain ⟨a, _, c⟩ := lf_spec h p (k := i.toNat) (by omega)
    exact ⟨_, a, by rw [c]; omega⟩
theorem fdT_grp (h : GTbl t e) (p : PartL t e P) (st : St t e P) : (⟨(fdT t P).length, fdT t P, (hm t P e : Int), (sds t P).map fun s => (hm t P (bkf t e (gt s 0)) : Int)⟩ : Grp) = grpOf (fdT t P) (hm t P e : Int) := by
  unfold grpOf
  congr 1
  refine List.ext_getElem (by rw [List.length_map, List.length_map, irange_len, fdT_len]; omega) fun i h1 h2 => ?_
  have hi : i < (sds t P).length := by simpa using h1
  rw [List.getElem_map, List.getElem_map, irange_get]
  obtain ⟨a, _, c⟩ := lf_spec h p hi
  have e1 : gt (sds t P)[i] 0 = lf t P i := by show _ = gt (gt _ _) 0; rw [gt_nat hi]
  rw [e1]
  have ib := bk_in h a
  have G := fdT_G h p st
  have inn : ∀ x, InT t x → InT (fdT t P) (hm t P x : Int) := fun x hx => ⟨by omega, by rw [fdT_len]; have := (hm_spec h p hx).1; omega⟩
  have := bk_one G (inn _ a) (inn _ ib) (by rw [fdT_en h p st a ib, bk_l h a])
  rw [c] at this
  exact this.symm
/-- the numbers of all things' sides -/
def hmL (t : Tbl) (P : List Int) : List Int := (irange t.length).map fun x => (hm t P x : Int)
theorem filt_one {n m : Int} (h0 : 0 ≤ m) (h1 : m < n) : (irange n).filter (fun k => decide (m = k)) = [m] := by
  obtain ⟨r, er⟩ := irange_cut h0 h1
  have nd := nodup_irange' n
  rw [er] at nd ⊢
  rw [List.nodup_append] at nd
  have e1 : (irange m).filter (fun k => decide (m = k)) = [] := by
    rw [List.filter_eq_nil_iff]
    intro x hx
    have := mem_irange.mp hx
    simp; omega
  have e2 : r.filter (fun k => decide (m = k)) = [] := by
    rw [List.filter_eq_nil_iff]
    intro x hx
    have := (List.nodup_cons.mp nd.2.1).1
    simp
    intro z
    exact this (z ▸ hx)
  rw [List.filter_append, List.filter_cons, e1, e2]
  simp
/-! ### the walk along the sides -/
theorem kinN_pre (F : Int → List Int) {i : Nat} : ∀ {n : Nat}, i ≤ n → kinN F i <+: kinN F n
  | 0, h => by rw [show i = 0 by omega]; exact List.prefix_rfl
  | n + 1, h => by
    by_cases q : i = n + 1
    · rw [q]; exact List.prefix_rfl
    · have ih := kinN_pre F (i := i) (n := n) (by omega)
      rw [kinN]
      split
      · exact ih
      · exact List.IsPrefix.trans ih (List.prefix_append _ _)
theorem kinN_at (h : GTbl t e) (p : PartL t e P) {i k : Nat} (hi : i ≤ t.length) (hk : k < (kinN (sid t P) i).length) : ∃ hk' : k < (sds t P).length, (kinN (sid t P) i)[k] = (sds t P)[k] := by
  have pre := kinN_pre (sid t P) hi
  exact ⟨Nat.lt_of_lt_of_le hk pre.length_le, pre.getElem hk⟩
/-- a thing lies in a side that is told just where its number is one of these -/
theorem kinN_own (h : GTbl t e) (p : PartL t e P) {i k : Nat} (hi : i ≤ t.length) (hk : k < (kinN (sid t P) i).length) {x : Int} (hx : InT t x) : x ∈ (kinN (sid t P) i)[k] ↔ hm t P x = k := by
  obtain ⟨hk', e1⟩ := kinN_at h p hi hk
  rw [e1]
  obtain ⟨a, b, c⟩ := lf_spec h p hk'
  rw [b, mem_sid_iff h p hx a, ← hm_eq h p hx a, c]
theorem kinN_cov (h : GTbl t e) (p : PartL t e P) {i : Nat} (hi : i ≤ t.length) {x : Int} (hx : InT t x) : x ∈ (kinN (sid t P) i).flatten ↔ hm t P x < (kinN (sid t P) i).length := by
  constructor
  · intro q
    obtain ⟨l, hl, hxl⟩ := List.mem_flatten.mp q
    obtain ⟨k, hk, rfl⟩ := List.getElem_of_mem hl
    rw [(kinN_own h p hi hk hx).mp hxl]
    exact hk
  · intro q
    exact List.mem_flatten.mpr ⟨_, List.getElem_mem q, (kinN_own h p hi q hx).mpr rfl⟩
/-- the next thing's number -/
theorem hm_next (h : GTbl t e) (p : PartL t e P) {i : Nat} (hi : i < t.length) (q : ¬ (i : Int) ∈ (kinN (sid t P) i).flatten) : hm t P (i : Int) = (kinN (sid t P) i).length := by
  have hI : InT t (i : Int) := ⟨by omega, by omega⟩
  have e1 : kinN (sid t P) (i + 1) = kinN (sid t P) i ++ [sid t P (i : Int)] := by rw [kinN, if_neg q]
  have hk : (kinN (sid t P) i).length < (kinN (sid t P) (i + 1)).length := by rw [e1]; simp
  refine (kinN_own h p (i := i + 1) (by omega) hk hI).mp ?_
  simp only [e1, List.getElem_concat_length]
  exact (sid_eqv h p).self _ hI
end
end TB

/-! ### l_deed -/
namespace TB
open PySem L2
--use TbWk
--use TbTri
--use TbIn
def T_l_deed : Tm := tm4 fun (o : Whl) (f cs : List Int) (cell : Int) ok _ => ∃ (m : Int) (x : Nat), Wst m x f cs ∧ x ≤ 29000 ∧ o = whl m ∧ ∀ (m' : Int) (f' cs' : List Int), Wst m' (x + 150) f' cs' → ok (.im (⟨whl m', f', cs'⟩ : Tri Whl (List Int) (List Int)))
def t_l_deed (Z : Zz) (X : WX) : TS :=
  (tSeq (tAsg (tCB (gLen Z.K) (tCons (tVar 2) tNil)) (gName 4))
  (tSeq (tAsg (tOp gDiv (tVar 3) (tC (.int 7))) (gName 5))
  (tSeq (tIfS (tTest (tOp (gEq Z.K) (tOp gMod (tVar 3) (tC (.int 7))) (tC (.int 2))))
  (tSeq (tAsg (tOp gMns (tOp gMod (tVar 5) (tOp gMul (tC (.int 2)) (tOp gPow (tC (.int 10)) (tC (.int 59))))) (tOp gPow (tC (.int 10)) (tC (.int 59)))) (gName 6))
  (tRet (tTup (tCons (tVar 0) (tCons (tMethSD (Z.cls .Wheel) "turned" (spOf Z T_Wheel_turned) [] (WE X) (tVar 0) (tCons (tVar 1) (tCons (tVar 6) tNil))) (tCons (tCallSD (spOf Z T_l_put) [] (WE X) (tCons (tVar 2) (tCons (tC (.int 1)) (tCons (tVar 6) (tCons (tVar 4) tNil))))) tNil))))))
  tNext)
  (tSeq (tIfS (tTest (tOp (gEq Z.K) (tOp gMod (tVar 3) (tC (.int 7))) (tC (.int 3))))
  (tRet (tTup (tCons (tVar 0) (tCons (tMethSD (Z.cls .Wheel) "backed" (spOf Z T_Wheel_backed) [] (WE X) (tVar 0) (tCons (tVar 1) tNil)) (tCons (tCallSD (spOf Z T_l_put) [] (WE X) (tCons (tVar 2) (tCons (tOp gMns (tC (.int 0)) (tC (.int 1))) (tCons (tC (.int 0)) (tCons (tVar 4) tNil))))) tNil)))))
  tNext)
  (tSeq (tIfS (tTest (tOp (gEq Z.K) (tOp gMod (tVar 3) (tC (.int 7))) (tC (.int 4))))
  (tRet (tCallSD (spOf Z T_l_moved) [] (WE X) (tCons (tVar 0) (tCons (tVar 1) (tCons (tVar 2) (tCons (tOp gMns (tOp gMod (tVar 5) (tC (.int 121))) (tC (.int 60))) tNil))))))
  tNext)
  (tSeq (tIfS (tTest (tOp (gEq Z.K) (tOp gMod (tVar 3) (tC (.int 7))) (tC (.int 6))))
  (tRet (tCallSD (spOf Z T_l_wider) [] (WE X) (tCons (tVar 0) (tCons (tVar 1) (tCons (tVar 2) (tCons (tOp gAdd (tC (.int 1)) (tOp gMod (tVar 5) (tC (.int 4)))) tNil))))))
  tNext)
  (tSeq (tAsg (tOp gMul (tLst (tCons (tC (.int 0)) tNil)) (tCB (gLen Z.K) (tCons (tVar 1) tNil))) (gName 7))
  (tSeq (tAsg (tC (.int 1)) (gSub (tVar 7) (tC (.int 0)) gSet))
  (tSeq (tAsg (tOp gMod (tOp gDiv (tVar 5) (tC (.int 19))) (tCB (gLen Z.K) (tCons (tVar 1) tNil))) (gName 8))
  (tSeq (tAsg (tOp gMns (tOp gAdd (tOp (gIx Z.K) (tVar 7) (tVar 8)) (tOp gMod (tVar 5) (tC (.int 19)))) (tC (.int 9))) (gSub (tVar 7) (tVar 8) gSet))
  (tSeq (tIfS (tTest (tOp gLt (tOp gMod (tVar 3) (tC (.int 7))) (tC (.int 2))))
  (tSeq (tAsg (tCallSD (spOf Z T_l_entries) [] (WE X) (tCons (tVar 5) (tCons (tCB (gLen Z.K) (tCons (tVar 1) tNil)) tNil))) (gName 7))
  (tSeq (tAsg (tCB (gList Z.K) (tCons (tVar 2) tNil)) (gName 9))
  (tSeq (tFor (iRng1 (tCons (tCB (gLen Z.K) (tCons (tVar 7) tNil)) tNil)) (gName 10)
  (tAsg (tOp gAdd (tOp (gIx Z.K) (tVar 9) (tVar 10)) (tOp (gIx Z.K) (tVar 7) (tVar 10))) (gSub (tVar 9) (tVar 10) gSet)))
  (tRet (tTup (tCons (tVar 0) (tCons (tMethSD (Z.cls .Wheel) "plus" (spOf Z T_Wheel_plus) [] (WE X) (tVar 0) (tCons (tVar 1) (tCons (tVar 7) tNil))) (tCons (tVar 9) tNil))))))))
  tNext)
  (tSeq (tAsg (tCB (gList Z.K) (tCons (tVar 2) tNil)) (gName 9))
  (tSeq (tAsg (tCallSD (spOf Z T_l_put) [] (WE X) (tCons (tVar 2) (tCons (tC (.int 1)) (tCons (tVar 8) (tCons (tVar 4) tNil))))) (gName 11))
  (tSeq (tFor (iRng1 (tCons (tVar 4) tNil)) (gName 10)
  (tAsg (tOp gAdd (tOp (gIx Z.K) (tVar 9) (tVar 10)) (tOp gMul (tOp gMns (tOp gMod (tVar 5) (tC (.int 19))) (tC (.int 9))) (tOp (gIx Z.K) (tVar 11) (tVar 10)))) (gSub (tVar 9) (tVar 10) gSet)))
  (tRet (tTup (tCons (tVar 0) (tCons (tMethSD (Z.cls .Wheel) "times" (spOf Z T_Wheel_times) [] (WE X) (tVar 0) (tCons (tVar 1) (tCons (tVar 7) tNil))) (tCons (tVar 9) tNil)))))))))))))))))))
theorem w_l_deed (Z : Zz) (X : WX) (ss : List Sl) (ok : Sl → Prop) (er : Rf → Prop) (h : T_l_deed ss ok er) : WF Z X er (ss ++ List.replicate (12 - ss.length) .un) (t_l_deed Z X) ok := by
  obtain ⟨o, f, cs, cell, rfl, m, x, hw, hx, rfl, k⟩ := h
  show W _ [.im (whl m), .im f, .im cs, .im cell, .un, .un, .un, .un, .un, .un, .un, .un] _ _
  unfold t_l_deed
  have h1 := hw.m1
  have h2 := hw.m2
  have dg := deg_le h1 h2
  have fl := hw.fl
  have cl := hw.cl
  refine w_seq (w_asg (s := .im m) (ev_to (ev_len (ev_var rfl)) cl) ?_)
  walk_at "nz"
  refine w_seq (w_asg (ev_div (ev_var rfl) ev_int (by decide) (by decide)) ?_)
  walk_at "nz"
  generalize cell / 7 = n
  have md : ∀ {c : Cn} {G : List Sl}, G[3]? = some (.im cell) → Ev c G (tOp gMod (tVar 3) (tC (.int 7))) (.im (cell % 7)) := fun e => ev_mod (ev_var e) ev_int (by decide)
  refine w_seq (w_if (b := decide (cell % 7 = 2)) (et_test (ev_eqI (md rfl) ev_int)) (fun _ => ?_) (fun _ => w_next ?_))
  · refine w_seq (w_asg (ev_sub (ev_mod (ev_var rfl) (ev_mulS ev_int (ev_pow ev_int ev_int ⟨by decide, by decide, by decide⟩) (.inl ⟨by decide, by decide⟩)) (by decide)) (ev_pow ev_int ev_int ⟨by decide, by decide, by decide⟩)) ?_)
    walk_at "nz"
    generalize n % (2 * 10 ^ (Int.toNat 59)) - 10 ^ (Int.toNat 59) = t
    exact w_ret (ev_tri (ev_var rfl) (ev_frI (ev_methN (s := .ol (lowF m (putL m 1 t f))) (ev_var rfl) (whl_m (by decide +kernel)) (ea_cons (ev_var rfl) (ea_cons (ev_var rfl) ea_nil)) ⟨_, _, _, rfl, m, x, h1, h2, rfl, by omega, by omega, hw.bd, rfl⟩)) (ev_frI (ev_callN (s := .ol (putL m 1 t cs)) (ea_cons (ev_var rfl) (ea_cons ev_int (ea_cons (ev_var rfl) (ea_cons (ev_var rfl) ea_nil)))) ⟨_, _, _, _, rfl, h1, h2, by omega, rfl⟩))) (k m _ _ (wst_turned hw))
  refine w_seq (w_if (b := decide (cell % 7 = 3)) (et_test (ev_eqI (md rfl) ev_int)) (fun _ => ?_) (fun _ => w_next ?_))
  · exact w_ret (ev_tri (ev_var rfl) (ev_frI (ev_methN (s := .ol (lowF m (putL m (-1) 0 f))) (ev_var rfl) (whl_m (by decide +kernel)) (ea_cons (ev_var rfl) ea_nil) ⟨_, _, rfl, m, x, h1, h2, rfl, by omega, by omega, hw.bd, rfl⟩)) (ev_frI (ev_callN (s := .ol (putL m (-1) 0 cs)) (ea_cons (ev_var rfl) (ea_cons (ev_to (ev_sub ev_int ev_int) rfl) (ea_cons ev_int (ea_cons (ev_var rfl) ea_nil)))) ⟨_, _, _, _, rfl, h1, h2, by omega, rfl⟩))) (k m _ _ (wst_moved hw (apart_back h1 h2)))
  refine w_seq (w_if (b := decide (cell % 7 = 4)) (et_test (ev_eqI (md rfl) ev_int)) (fun _ => ?_) (fun _ => w_next ?_))
  · refine w_retS (S := fun s => ∃ (m' : Int) (f' cs' : List Int), s = .im (⟨whl m', f', cs'⟩ : Tri Whl (List Int) (List Int)) ∧ Wst m' (x + 150) f' cs') (es_call (ea_cons (ev_var rfl) (ea_cons (ev_var rfl) (ea_cons (ev_var rfl) (ea_cons (ev_sub (ev_mod (ev_var rfl) ev_int (by decide)) ev_int) ea_nil)))) ⟨_, _, _, _, rfl, m, x, hw, hx, rfl, fun m' f' cs' q => ⟨m', f', cs', rfl, q⟩⟩) ?_
    rintro _ ⟨m', f', cs', rfl, q⟩
    exact k m' f' cs' q
  refine w_seq (w_if (b := decide (cell % 7 = 6)) (et_test (ev_eqI (md rfl) ev_int)) (fun _ => ?_) (fun _ => w_next ?_))
  · have r0 : 0 ≤ n % 4 := Int.emod_nonneg _ (by decide)
    have r1 : n % 4 < 4 := Int.emod_lt_of_pos _ (by decide)
    refine w_retS (S := fun s => ∃ (m' : Int) (f' cs' : List Int), s = .im (⟨whl m', f', cs'⟩ : Tri Whl (List Int) (List Int)) ∧ Wst m' (x + 150) f' cs') (es_call (ea_cons (ev_var rfl) (ea_cons (ev_var rfl) (ea_cons (ev_var rfl) (ea_cons (ev_add ev_int (ev_mod (ev_var rfl) ev_int (by decide))) ea_nil)))) ⟨_, _, _, _, rfl, m, x, hw, hx, rfl, by omega, by omega, fun m' f' cs' q => ⟨m', f', cs', rfl, q⟩⟩) ?_
    rintro _ ⟨m', f', cs', rfl, q⟩
    exact k m' f' cs' q
  refine w_seq (w_asg (s := .ol (List.replicate f.length (0 : Int))) (ev_is (ev_zeros (n := (f.length : Int)) (ev_len (ev_var rfl)) (by omega) (by omega)) (by rw [show ((f.length : Int)).toNat = f.length by omega])) ?_)
  walk_at "nz"
  refine w_seq (w_putG (xs := List.replicate f.length (0 : Int)) (i := 0) (y := (1 : Int)) rfl ev_int ev_int (by decide) (by rw [List.length_replicate]; omega) ?_)
  walk_at "nz"
  rw [show (Int.toNat 0) = 0 from rfl]
  have a0 : 0 ≤ n / 19 % (f.length : Int) := Int.emod_nonneg _ (by omega)
  have a1 : n / 19 % (f.length : Int) < f.length := Int.emod_lt_of_pos _ (by omega)
  refine w_seq (w_asg (s := .im (n / 19 % (f.length : Int))) (ev_mod (ev_div (ev_var rfl) ev_int (by decide) (by decide)) (ev_len (ev_var rfl)) (by omega)) ?_)
  walk_at "nz"
  generalize n / 19 % (f.length : Int) = i at a0 a1
  have c0 : 0 ≤ n % 19 := Int.emod_nonneg _ (by decide)
  have c1 : n % 19 < 19 := Int.emod_lt_of_pos _ (by decide)
  refine w_seq (w_putG (xs := (List.replicate f.length (0 : Int)).set 0 1) (i := i) (y := gt ((List.replicate f.length (0 : Int)).set 0 1) i + (n % 19 - 9)) rfl (ev_to (ev_sub (ev_add (ev_ixO rfl (ev_var rfl) a0 (by rw [List.length_set, List.length_replicate]; omega)) (ev_mod (ev_var rfl) ev_int (by decide))) ev_int) (by omega)) (ev_var rfl) a0 (by rw [List.length_set, List.length_replicate]; omega) ?_)
  walk_at "nz"
  rw [show ((List.replicate f.length (0 : Int)).set 0 1).set i.toNat (gt ((List.replicate f.length (0 : Int)).set 0 1) i + (n % 19 - 9)) = twoF f.length i (n % 19 - 9) from rfl]
  refine w_seq (w_if (b := decide (cell % 7 < 2)) (et_test (ev_lt (md rfl) ev_int)) (fun _ => ?_) (fun _ => w_next ?_))
  · refine w_seq (w_asgS (S := fun s => ∃ es : List Int, s = .ol es ∧ (es.length : Int) = f.length ∧ Bd 200 es) (es_call (ea_cons (ev_var rfl) (ea_cons (ev_len (ev_var rfl)) ea_nil)) ⟨_, _, rfl, by omega, by omega, fun es h1 h2 => ⟨es, rfl, h1, h2⟩⟩) ?_)
    rintro _ ⟨es, rfl, el, eb⟩
    walk_at "nz"
    refine w_fr 7 rfl ?_
    walk_at "nz"
    refine w_seq (w_asg (s := .ol cs) (ev_list (ev_var rfl)) ?_)
    walk_at "nz"
    refine w_seq (w_forR (n := (es.length : Int)) (fun j G => ∃ s10, G = [.im (whl m), .im f, .im cs, .im cell, .im m, .im n, .un, .im es, .im i, .ol (adF cs es j), s10, .un]) (ev_len (ev_var rfl)) (by omega) (by omega) ⟨_, rfl⟩ ?_ ?_)
    · rintro j G hj ⟨s10, rfl⟩
      walk_at "nz"
      refine w_putG (xs := adF cs es j) (i := (j : Int)) (y := gt (adF cs es j) (j : Int) + gt es (j : Int)) rfl (ev_add (ev_ixO rfl (ev_var rfl) (by omega) (by rw [adF_len]; omega)) (ev_ix (ev_var rfl) (ev_var rfl) (by omega) (by omega))) (ev_var rfl) (by omega) (by rw [adF_len]; omega) ⟨.im (j : Int), ?_⟩
      walk_at "nz"
      rfl
    · rintro G ⟨s10, rfl⟩
      rw [show ((es.length : Int)).toNat = es.length by omega]
      refine w_fr 9 rfl ?_
      walk_at "nz"
      exact w_ret (ev_tri (ev_var rfl) (ev_frI (ev_methN (s := .ol (List.zipWith (fun x y => x + y) f es)) (ev_var rfl) (whl_m (by decide +kernel)) (ea_cons (ev_var rfl) (ea_cons (ev_var rfl) ea_nil)) ⟨_, _, _, rfl, by omega, rfl⟩)) (ev_var rfl)) (k m _ _ (wst_plus hw (by omega) eb))
  · refine w_fr 7 rfl ?_
    walk_at "nz"
    refine w_seq (w_asg (s := .ol cs) (ev_list (ev_var rfl)) ?_)
    walk_at "nz"
    refine w_seq (w_asg (s := .ol (putL m 1 i cs)) (ev_callN (ea_cons (ev_var rfl) (ea_cons ev_int (ea_cons (ev_var rfl) (ea_cons (ev_var rfl) ea_nil)))) ⟨_, _, _, _, rfl, h1, h2, by omega, rfl⟩) ?_)
    refine w_fr 11 rfl ?_
    walk_at "nz"
    have pl : (putL m 1 i cs).length = m.toNat := putL_len
    refine w_seq (w_forR (n := m) (fun j G => ∃ s10, G = [.im (whl m), .im f, .im cs, .im cell, .im m, .im n, .un, .im (twoF f.length i (n % 19 - 9)), .im i, .ol (adF cs ((putL m 1 i cs).map fun y => (n % 19 - 9) * y) j), s10, .im (putL m 1 i cs)]) (ev_var rfl) (by omega) (by omega) ⟨_, rfl⟩ ?_ ?_)
    · rintro j G hj ⟨s10, rfl⟩
      walk_at "nz"
      refine w_putG (xs := adF cs ((putL m 1 i cs).map fun y => (n % 19 - 9) * y) j) (i := (j : Int)) (y := gt (adF cs ((putL m 1 i cs).map fun y => (n % 19 - 9) * y) j) (j : Int) + gt ((putL m 1 i cs).map fun y => (n % 19 - 9) * y) (j : Int)) rfl (ev_to (ev_add (ev_ixO rfl (ev_var rfl) (by omega) (by rw [adF_len]; omega)) (ev_mulS (ev_sub (ev_mod (ev_var rfl) ev_int (by decide)) ev_int) (ev_ix (ev_var rfl) (ev_var rfl) (by omega) (by omega)) (.inl ⟨by omega, by omega⟩))) ?_) (ev_var rfl) (by omega) (by rw [adF_len]; omega) ⟨.im (j : Int), ?_⟩
      · rw [gt_mapL (l := putL m 1 i cs) (by omega) (by omega)]
      · walk_at "nz"
        rfl
    · rintro G ⟨s10, rfl⟩
      refine w_fr 9 rfl ?_
      walk_at "nz"
      exact w_ret (ev_tri (ev_var rfl) (ev_frI (ev_methN (s := .ol (lowF m (prodL m f (twoF f.length i (n % 19 - 9))))) (ev_var rfl) (whl_m (by decide +kernel)) (ea_cons (ev_var rfl) (ea_cons (ev_var rfl) ea_nil)) ⟨_, _, _, rfl, m, x, h1, h2, rfl, by omega, by rw [twoF_len]; omega, by omega, hw.bd, (twoF_bd (by omega)).mono (by have := hw.x0; omega), rfl⟩)) (ev_var rfl)) (k m _ _ (wst_times hw a0 (by omega) (by omega)))
end TB

/-! TbBfs: least parts with words: what is reckoned, and own dicts of own lists. -/
namespace TB
open PySem L2
abbrev Kvs := List (Int × List Int)
def stepW (t : Tbl) (x : Int) (w : List Int) (kvs : Kvs) (y : Int) : Kvs := if en t x y ∈ kvs.map (·.1) then kvs else kvs ++ [(en t x y, w ++ [y])]
def bfsN (t : Tbl) (some : List Int) : Nat → Nat → Kvs → Kvs
  | 0, _, kvs => kvs
  | n + 1, a, kvs => if h : a < kvs.length then bfsN t some n (a + 1) (some.foldl (stepW t kvs[a].1 kvs[a].2) kvs) else kvs
def wordsF (t : Tbl) (e : Int) (some : List Int) : Kvs := bfsN t some (t.length + 1) 0 [(e, [])]
/-- a word of x -/
structure WordOk (t : Tbl) (e : Int) (some : List Int) (x : Int) (w : List Int) : Prop where
  sub : ∀ y ∈ w, y ∈ some
  is : w.foldl (en t) e = x
structure BfsI (t : Tbl) (e : Int) (some : List Int) (kvs : Kvs) : Prop where
  nd : (kvs.map (·.1)).Nodup
  one : kvs[0]? = Option.some (e, [])
  rc : ∀ x ∈ kvs.map (·.1), Reach t e some x
  wd : ∀ (i : Nat) (h : i < kvs.length), WordOk t e some kvs[i].1 kvs[i].2 ∧ (kvs[i].2).length ≤ i
section
variable {t : Tbl} {e : Int} {some : List Int}
theorem bfs_0 : BfsI t e some [(e, [])] := ⟨by simp, rfl, fun x hx => (show x = e by simpa using hx) ▸ .one, fun i h => by
  have : i = 0 := by simpa using h
  subst this
  exact ⟨⟨fun y hy => by simp at hy, rfl⟩, by simp⟩⟩
theorem bfs_step {kvs : Kvs} {a : Nat} {x : Int} {w : List Int} {y : Int} (I : BfsI t e some kvs) (ha : a < kvs.length) (hw : WordOk t e some x w) (hl : w.length ≤ a) (hr : Reach t e some x) (hy : y ∈ some) : BfsI t e some (stepW t x w kvs y) ∧ kvs <+: stepW t x w kvs y ∧ en t x y ∈ (stepW t x w kvs y).map (·.1) := by
  unfold stepW
  split
  · rename_i h
    exact ⟨I, List.prefix_rfl, h⟩
  · rename_i h
    refine ⟨⟨?_, ?_, fun z hz => ?_, fun i hi => ?_⟩, List.prefix_append _ _, by simp⟩
    · rw [List.map_append, List.nodup_append]
      exact ⟨I.nd, by simp, fun p hp q hq z => by
        have : q = en t x y := by simpa using hq
        exact h (this ▸ z ▸ hp)⟩
    · rw [List.getElem?_append_left (by omega)]
      exact I.one
    · rw [List.map_append] at hz
      rcases List.mem_append.mp hz with q | q
      · exact I.rc z q
      · have : z = en t x y := by simpa using q
        rw [this]
        exact .step hr hy
    · by_cases c : i < kvs.length
      · rw [List.getElem_append_left c]
        exact I.wd i c
      · have e1 : i = kvs.length := by simp at hi; omega
        subst e1
        rw [List.getElem_append_right (Nat.le_refl _)]
        simp only [Nat.sub_self, List.getElem_cons_zero]
        refine ⟨⟨fun z hz => ?_, ?_⟩, ?_⟩
        · rcases List.mem_append.mp hz with q | q
          · exact hw.sub z q
          · have : z = y := by simpa using q
            rw [this]; exact hy
        · rw [List.foldl_append, hw.is]
          rfl
        · rw [List.length_append]
          simp
          omega
theorem bfs_fold {a : Nat} {x : Int} {w : List Int} : ∀ (ys : List Int) {kvs : Kvs}, BfsI t e some kvs → a < kvs.length → WordOk t e some x w → w.length ≤ a → Reach t e some x → (∀ y ∈ ys, y ∈ some) → BfsI t e some (ys.foldl (stepW t x w) kvs) ∧ kvs <+: ys.foldl (stepW t x w) kvs ∧ ∀ y ∈ ys, en t x y ∈ (ys.foldl (stepW t x w) kvs).map (·.1)
  | [], kvs, I, _, _, _, _, _ => ⟨I, List.prefix_rfl, fun y hy => by simp at hy⟩
  | y :: ys, kvs, I, ha, hw, hl, hr, hs => by
    obtain ⟨I2, p2, m2⟩ := bfs_step I ha hw hl hr (hs y (by simp))
    obtain ⟨I3, p3, m3⟩ := bfs_fold ys I2 (Nat.lt_of_lt_of_le ha p2.length_le) hw hl hr fun z hz => hs z (by simp [hz])
    refine ⟨I3, p2.trans p3, fun z hz => ?_⟩
    rcases List.mem_cons.mp hz with q | q
    · rw [q]
      exact (p3.map _).mem m2
    · exact m3 z q
theorem bfs_len (h : GTbl t e) (hs : ∀ y ∈ some, InT t y) {kvs : Kvs} (I : BfsI t e some kvs) : kvs.length ≤ t.length := by
  have := nodup_le (B := irange t.length) I.nd fun x hx => mem_irange.mpr (reach_in h hs (I.rc x hx))
  rw [irange_len, List.length_map] at this
  omega
theorem bfs_run (h : GTbl t e) (hs : ∀ y ∈ some, InT t y) : ∀ (n a : Nat) (kvs : Kvs), BfsI t e some kvs → t.length < n + a → a ≤ kvs.length → (∀ x ∈ (kvs.take a).map (·.1), ∀ y ∈ some, en t x y ∈ kvs.map (·.1)) →
    BfsI t e some (bfsN t some n a kvs) ∧ ∀ x ∈ (bfsN t some n a kvs).map (·.1), ∀ y ∈ some, en t x y ∈ (bfsN t some n a kvs).map (·.1)
  | 0, a, kvs, I, hn, ha, hc => by have := bfs_len h hs I; omega
  | n + 1, a, kvs, I, hn, ha, hc => by
    unfold bfsN
    split
    · rename_i hlt
      obtain ⟨w1, w2⟩ := I.wd a hlt
      obtain ⟨I2, p2, m2⟩ := bfs_fold some I hlt w1 w2 (I.rc _ (List.mem_map.mpr ⟨_, List.getElem_mem hlt, rfl⟩)) fun y hy => hy
      refine bfs_run h hs n (a + 1) _ I2 (by omega) (Nat.le_trans hlt p2.length_le) fun x hx y hy => ?_
      have haR := Nat.lt_of_lt_of_le hlt p2.length_le
      rw [take_snoc haR, List.map_append] at hx
      rcases List.mem_append.mp hx with q | q
      · have e1 : (some.foldl (stepW t kvs[a].1 kvs[a].2) kvs).take a = kvs.take a := by
          obtain ⟨r, er⟩ := p2
          rw [← er, List.take_append_of_le_length (by omega)]
        rw [e1] at q
        exact (p2.map _).mem (hc x q y hy)
      · have : x = kvs[a].1 := by rw [(p2.getElem hlt)]; simpa using q
        rw [this]
        exact m2 y hy
    · rename_i hlt
      rw [List.take_of_length_le (by omega)] at hc
      exact ⟨I, hc⟩
theorem words_I (h : GTbl t e) (hs : ∀ y ∈ some, InT t y) : BfsI t e some (wordsF t e some) ∧ isort ((wordsF t e some).map (·.1)) = clo t e some := by
  obtain ⟨I, c⟩ := bfs_run h hs (t.length + 1) 0 [(e, [])] bfs_0 (by omega) (by simp) fun x hx => by simp at hx
  exact ⟨I, clo_is h hs I.nd (List.mem_map.mpr ⟨(e, []), List.mem_of_getElem? I.one, rfl⟩) I.rc c⟩
theorem dget_at {kvs : Kvs} : ∀ {i : Nat} (h : i < kvs.length), (kvs.map (·.1)).Nodup → dget kvs kvs[i].1 = Option.some kvs[i].2 := by
  induction kvs with
  | nil => intro i h; simp at h
  | cons p r ih =>
    intro i h nd
    rw [List.map_cons, List.nodup_cons] at nd
    cases i with
    | zero => unfold dget; simp
    | succ i =>
      have hi : i < r.length := by simpa using h
      have ne : ¬ p.1 = (r[i]).1 := fun z => nd.1 (List.mem_map.mpr ⟨_, List.getElem_mem hi, z.symm⟩)
      show dget (p :: r) (r[i]).1 = Option.some (r[i]).2
      rw [dget_neg ne]
      exact ih hi nd.2
theorem dget_key {kvs : Kvs} {x : Int} : (dget kvs x).isSome = decide (x ∈ kvs.map (·.1)) := by
  rw [← dget_any]
  induction kvs with
  | nil => rfl
  | cons p r ih =>
    rw [List.any_cons, ih, List.map_cons]
    by_cases c : x = p.1
    · subst c; simp
    · have : ¬ p.1 = x := fun z => c z.symm
      simp [this, c]
def wordF (t : Tbl) (e : Int) (some : List Int) (x : Int) : List Int := (dget (wordsF t e some) x).getD []
theorem wordF_ok (h : GTbl t e) (hs : ∀ y ∈ some, InT t y) {x : Int} (hx : x ∈ clo t e some) : dget (wordsF t e some) x = Option.some (wordF t e some x) ∧ WordOk t e some x (wordF t e some x) ∧ (wordF t e some x).length ≤ t.length ∧ (x = e → wordF t e some x = []) := by
  obtain ⟨I, c⟩ := words_I h hs
  have hm : x ∈ (wordsF t e some).map (·.1) := by rw [← (isort_perm _).mem_iff, c]; exact hx
  obtain ⟨p, hp, rfl⟩ := List.mem_map.mp hm
  obtain ⟨i, hi, rfl⟩ := List.getElem_of_mem hp
  have d := dget_at hi I.nd
  have hl := bfs_len h hs I
  obtain ⟨w1, w2⟩ := I.wd i hi
  unfold wordF
  rw [d]
  refine ⟨rfl, w1, by show ((wordsF t e some)[i].2).length ≤ _; omega, fun z => ?_⟩
  have h0 : 0 < (wordsF t e some).length := by omega
  have e0 : (wordsF t e some)[0] = (e, []) := by
    have := I.one
    rw [List.getElem?_eq_getElem h0] at this
    exact Option.some.inj this
  have d0 := dget_at h0 I.nd
  rw [e0] at d0
  rw [z] at d
  rw [d0] at d
  exact (Option.some.inj d).symm
end
/-! ### own dicts of own lists -/
def kvq (kvs : Kvs) (qs : List Addr) : List (Key × V) := List.zipWith (fun x q => ((Sum.inl x.1 : Key), V.ref q)) kvs qs
def Od2 (kvs : Kvs) : Own := ⟨fun _ _ h v => ∃ (p : Addr) (qs : List Addr), v = .ref p ∧ (p :: qs).Nodup ∧ h p = some (.dK (kvq kvs qs)) ∧ Paired (fun (q : Addr) (x : Int × List Int) => h q = some (.lst (x.2.map V.int))) qs kvs, fun _ h => h⟩
abbrev Sl.d2 (kvs : Kvs) : Sl := .ow (Od2 kvs)
theorem kvq_get {k : Int} : ∀ {kvs : Kvs} {qs : List Addr}, qs.length = kvs.length → (dget kvs k = none ∧ valV (kvq kvs qs) (Sum.inl k) = none) ∨ ∃ (i : Nat) (q : Addr) (x : Int × List Int), qs[i]? = some q ∧ kvs[i]? = some x ∧ x.1 = k ∧ dget kvs k = some x.2 ∧ valV (kvq kvs qs) (Sum.inl k) = some (.ref q)
  | [], [], _ => .inl ⟨rfl, rfl⟩
  | x :: kvs, q :: qs, h => by
    by_cases c : x.1 = k
    · refine .inr ⟨0, q, x, rfl, rfl, c, ?_, ?_⟩
      · unfold dget; simp [c]
      · show valV ((Sum.inl x.1, V.ref q) :: kvq kvs qs) (Sum.inl k) = _
        exact valV_pos (by rw [c])
    · have e1 : dget (x :: kvs) k = dget kvs k := dget_neg c
      have e2 : valV (kvq (x :: kvs) (q :: qs)) (Sum.inl k) = valV (kvq kvs qs) (Sum.inl k) := valV_neg fun z => c (Sum.inl.inj z)
      rw [e1, e2]
      rcases kvq_get (k := k) (kvs := kvs) (qs := qs) (by simpa using h) with q1 | ⟨i, q', x', a, b, d, f, g⟩
      · exact .inl q1
      · exact .inr ⟨i + 1, q', x', by simpa using a, by simpa using b, d, f, g⟩
theorem slok_d2 {Z : Zz} {R H : Hp} {p : Addr} {qs : List Addr} {kvs : Kvs} (nd : (p :: qs).Nodup) (h1 : H p = some (.dK (kvq kvs qs))) (h2 : Paired (fun q x => H q = some (.lst (x.2.map V.int))) qs kvs) : slok Z R H (some (.ref p)) (.d2 kvs) (p :: qs) := by
  have key : ∀ {qs' : List Addr} {kvs' : Kvs}, (∀ q ∈ qs', q ∈ p :: qs) → Paired (fun q x => H q = some (.lst (x.2.map V.int))) qs' kvs' → Paired (fun q (x : Int × List Int) => res H (p :: qs) q = some (.lst (x.2.map V.int))) qs' kvs' ∧ ∀ q ∈ qs', H q ≠ none := by
    intro qs' kvs' hs h
    induction h with
    | nil => exact ⟨.nil, fun q hq => by simp at hq⟩
    | cons r t ih =>
      obtain ⟨a, b⟩ := ih fun q hq => hs q (List.mem_cons_of_mem _ hq)
      refine ⟨.cons (by rw [res_in (hs _ List.mem_cons_self)]; exact r) a, fun q hq => ?_⟩
      rcases List.mem_cons.mp hq with rfl | hq
      · rw [r]; simp
      · exact b q hq
  obtain ⟨a, b⟩ := key (fun q hq => List.mem_cons_of_mem _ hq) h2
  refine ⟨_, rfl, ⟨p, qs, rfl, nd, by rw [res_in (by simp)]; exact h1, a⟩, fun q hq => ?_⟩
  rcases List.mem_cons.mp hq with rfl | hq
  · rw [h1]; simp
  · exact b q hq
theorem slok_d2' {Z : Zz} {R H : Hp} {o : Option V} {kvs : Kvs} {f : List Addr} (h : slok Z R H o (.d2 kvs) f) : ∃ (p : Addr) (qs : List Addr), o = some (.ref p) ∧ (p :: qs).Nodup ∧ (∀ q ∈ p :: qs, q ∈ f) ∧ H p = some (.dK (kvq kvs qs)) ∧ Paired (fun q x => H q = some (.lst (x.2.map V.int))) qs kvs := by
  obtain ⟨v, rfl, ⟨p, qs, rfl, nd, h1, h2⟩, _⟩ := h
  obtain ⟨m1, e1⟩ := res_some h1
  refine ⟨p, qs, rfl, nd, fun q hq => ?_, e1, paired_mono (fun q x r => (res_some r).2) h2⟩
  rcases List.mem_cons.mp hq with rfl | hq
  · exact m1
  · have key : ∀ {qs' : List Addr} {kvs' : Kvs}, Paired (fun q (x : Int × List Int) => res H f q = some (.lst (x.2.map V.int))) qs' kvs' → ∀ q ∈ qs', q ∈ f := by
      intro qs' kvs' h
      induction h with
      | nil => intro q hq; simp at hq
      | cons r t ih =>
        intro q hq
        rcases List.mem_cons.mp hq with rfl | hq
        · exact (res_some r).1
        · exact ih q hq
    exact key h2 q hq
theorem putK_end {kv : List (Key × V)} {k : Key} {v : V} (h : valV kv k = none) : putK kv k v = kv ++ [(k, v)] := putK_new v h
/-- new own objects on top -/
theorem sx_newO {Z : Zz} {B R0 R H H' : Hp} {ρ σ : List (Option V)} {Δ Γ : List Sl} {o : Option V} {s : Sl} {f : List Addr} (S : Sx Z B R0 R H ρ Δ σ Γ) (e : Same H H') (hf : ∀ b ∈ f, H b = none) (nd : f.Nodup) (h : slok Z R H' o s f) : Sx Z B R0 R H' (o :: ρ) (s :: Δ) σ Γ := by
  obtain ⟨hl, own, hs, es⟩ := S
  have ks : ∀ p ∈ own, H' p = H p := fun p hp => by
    cases q : H p with
    | none => exact absurd q (es_some es p hp)
    | some o => exact e p o q
  refine ⟨by simp [hl], f ++ own, ⟨hs.rh.trans e, hs.bh.trans e, hs.r0, hs.nw, fun p hp => ?_, ?_⟩, f, own, rfl, h, es_mono (Same.refl _) ks es⟩
  · rcases List.mem_append.mp hp with q | q
    · exact ⟨hs.rh.free (hf p q), hs.bh.free (hf p q)⟩
    · exact hs.ow p q
  · rw [List.nodup_append]
    exact ⟨nd, hs.nd, fun a ha b hb z => es_some es b hb (z ▸ hf a ha)⟩
/-- a slot's own objects change, and there may be new ones among them -/
theorem sx_grow {Z : Zz} {B R0 R H : Hp} {ρ σ : List (Option V)} {Δ Γ : List Sl} {s : Sl} (S : Sx Z B R0 R H ρ Δ σ Γ) {i : Nat} (e : Γ[i]? = some s) : ∃ o f, σ[i]? = some o ∧ slok Z R H o s f ∧ f.Nodup ∧
    ∀ (H' : Hp) (s' : Sl) (f' : List Addr), (∀ p, p ∉ f → H p ≠ none → H' p = H p) → f'.Nodup → (∀ p ∈ f', p ∈ f ∨ H p = none) → slok Z R H' o s' f' → Sx Z B R0 R H' ρ Δ σ (Γ.set i s') := by
  obtain ⟨hl, own, hs, es⟩ := S
  have e' : (Δ ++ Γ)[ρ.length + i]? = some s := by rw [at_slot hl]; exact e
  obtain ⟨o, g1, f, g2, h2, h3, h4, h6⟩ := es_at es e'
  rw [at_slot'] at h2
  subst h3
  have nd := hs.nd
  have al := es_some es
  refine ⟨o, f, h2, h4, by simp only [List.nodup_append] at nd; exact nd.1.2.1, fun H' s' f' k ndf sub h5 => ⟨hl, ?_⟩⟩
  have ne : ∀ q ∈ g1 ++ g2, q ∉ f := fun q hq z => by
    simp only [List.nodup_append, List.mem_append] at nd hq
    grind
  have al2 : ∀ q ∈ g1 ++ g2, H q ≠ none := fun q hq => al q (by simp only [List.mem_append] at hq ⊢; grind)
  have h7 := h6 R H' o s' f' (Same.refl _) (fun q hq => k q (ne q hq) (al2 q hq)) h5
  have e2 : (ρ ++ σ).set (ρ.length + i) o = ρ ++ σ := set_same (by rw [at_slot']; exact h2)
  rw [e2, hl, List.set_append_right _ _ (by omega), show Δ.length + i - Δ.length = i by omega] at h7
  have out : ∀ p, (R p ≠ none ∨ B p ≠ none) → p ∉ f := fun p hp z => by
    have := hs.ow p (by simp [z])
    rcases hp with q | q
    · exact q this.1
    · exact q this.2
  have some_of : ∀ {p : Addr} {o : HO}, H p = some o → H p ≠ none := fun e => by rw [e]; simp
  refine ⟨_, ⟨fun p o a => by rw [k p (out p (.inl (by rw [a]; simp))) (some_of (hs.rh _ _ a))]; exact hs.rh _ _ a, fun p o a => by rw [k p (out p (.inr (by rw [a]; simp))) (some_of (hs.bh _ _ a))]; exact hs.bh _ _ a, hs.r0, hs.nw, fun p hp => ?_, ?_⟩, h7⟩
  · simp only [List.mem_append] at hp
    rcases hp with (hp | hp) | hp
    · exact hs.ow p (by simp [hp])
    · rcases sub p hp with q | q
      · exact hs.ow p (by simp [q])
      · exact ⟨hs.rh.free q, hs.bh.free q⟩
    · exact hs.ow p (by simp [hp])
  · have dis : ∀ p ∈ f', p ∉ g1 ++ g2 := fun p hp z => by
      rcases sub p hp with q | q
      · exact ne p z q
      · exact al2 p z q
    simp only [List.nodup_append, List.mem_append] at nd dis ⊢
    grind
section
variable {c : Cn} {Γ : List Sl} {ta tb te tl ty tk : TE} {tt tc : TT} {t u : TS} {s s' so : Sl} {α β γ : Type} {_ : Rp α} {_ : Rp β} {_ : Rp γ} {P : Po} {d : α} {kvs : Kvs}
theorem ev_inD2 {i : Nat} {k : Int} (e : Γ[i]? = some (.d2 kvs)) (hk : Ev c Γ ta (.im k)) : Ev c Γ (tOp (gNotIn c.Z.K) ta (tVar i)) (.im (!(dget kvs k).isSome)) := fun B R0 R H ρ Δ σ S Q q x =>
  hk B R0 R H ρ Δ σ S _ (fun z R1 H1 S1 => by
    have ez : z = .int k := sx_top' S1
    subst ez
    obtain ⟨o, f, h2, h3⟩ := sx_slot (sx_pop S1) e
    obtain ⟨p, qs, rfl, nd, _, h4, h5⟩ := slok_d2' h3
    refine ⟨.ref p, h2, .inr ⟨p, _, rfl, DGet.k (k := Sum.inl k) h4, ?_⟩⟩
    rcases kvq_get (k := k) (Paired.length h5) with ⟨g1, g2⟩ | ⟨_, w, v, _, _, _, g1, g2⟩
    · rw [g2]; exact q _ R1 H1 (sx_push (sx_pop S1) (by rw [g1]; rfl))
    · rw [g2]; exact q _ R1 H1 (sx_push (sx_pop S1) (by rw [g1]; rfl))) x
/-- {k: []} -/
theorem ev_disp2 {k : Int} (hk : EvP c Γ tk k) : Ev c Γ (tDisp [(tk, tLst tNil)]) (.d2 [(k, [])]) := fun B R0 R H ρ Δ σ S Q q x => by
  intro p np
  refine hk B R0 R _ ρ Δ σ (sx_alloc S np (.dK [])) _ fun v rv => ⟨by decide, fun r nr => ?_⟩
  have ev : v = .int k := rv
  subst ev
  have nrp : r ≠ p := fun z => by rw [z, upd_same] at nr; cases nr
  have nr' : H r = none := by rw [upd_ne nrp] at nr; exact nr
  refine ⟨by rw [upd_ne (Ne.symm nrp), upd_same], [(Sum.inl k, .ref r)], rfl, by simp, q _ R _ ?_⟩
  refine sx_newO S (f := [p, r]) (fun b o e => ?_) (fun b hb => ?_) (by simp [Ne.symm nrp]) (slok_d2 (qs := [r]) (by simp [Ne.symm nrp]) (by rw [upd_same]; rfl) (.cons (by rw [upd_ne nrp, upd_same]; rfl) .nil))
  · have b1 : b ≠ p := fun z => by subst z; rw [np] at e; cases e
    have b2 : b ≠ r := fun z => by subst z; rw [nr'] at e; cases e
    rw [upd_ne b1, upd_ne b2, upd_ne b1]
    exact e
  · simp only [List.mem_cons, List.not_mem_nil, or_false] at hb
    rcases hb with rfl | rfl
    · exact np
    · exact nr'
/-- reads of own lists, the heap as it was -/
theorem ep_ixO {xs : List α} {i : Nat} {k : Int} (e : Γ[i]? = some (.ol xs)) (hb : EvP c Γ tb k) (h0 : 0 ≤ k) (h1 : k < xs.length) : EvP c Γ (tOp (gIx c.Z.K) (tVar i) tb) (gt xs k) := fun B R0 R H ρ Δ σ S Q q => by
  obtain ⟨p, vs, h2, h3, h4, _⟩ := sx_mutl S e
  refine ⟨.ref p, h2, hb B R0 R H ρ Δ σ S _ fun w rw' => ?_⟩
  have ew : w = .int k := rw'
  subst ew
  obtain ⟨v, hv, rv⟩ := paired_get h4 (gt_some h0 h1)
  exact .inl ⟨p, vs, k, v, rfl, rfl, SqL.of h3, atI_of h0 (by rw [Paired.length h4]; exact h1) hv, q v rv⟩
theorem paired_mono_mem {F G : α → β → Prop} : ∀ {l : List α} {m : List β}, Paired F l m → (∀ a b, a ∈ l → F a b → G a b) → Paired G l m
  | _, _, .nil, _ => .nil
  | _, _, .cons r t, h => .cons (h _ _ List.mem_cons_self r) (paired_mono_mem t fun a b ha => h a b (List.mem_cons_of_mem _ ha))
theorem paired_snoc {F : α → β → Prop} {l : List α} {m : List β} {a : α} {b : β} (h : Paired F l m) (r : F a b) : Paired F (l ++ [a]) (m ++ [b]) := paired_append h (.cons r .nil)
theorem kvq_snoc {qs : List Addr} {x : Int × List Int} {q : Addr} (h : qs.length = kvs.length) : kvq (kvs ++ [x]) (qs ++ [q]) = kvq kvs qs ++ [(Sum.inl x.1, .ref q)] := by
  unfold kvq
  rw [List.zipWith_append h.symm]
  rfl
/-- d[b] = d[a] + [y], b not in d -/
theorem w_word {i : Nat} {a b y : Int} {w : List Int} (e : Γ[i]? = some (.d2 kvs)) (ha : EvP c Γ tk a) (hy : EvP c Γ ty y) (hb : EvP c Γ tb b) (hw : dget kvs a = some w) (hn : dget kvs b = none) (hl : kvs.length < 1000000) (hl2 : w.length < 1000000)
    (k : P.nx (Γ.set i (.d2 (kvs ++ [(b, w ++ [y])])))) : W c Γ (tAsg (tOp gAdd (tOp (gIx c.Z.K) (tVar i) tk) (tLst (tCons ty tNil))) (gSub (tVar i) tb gSet)) P := fun B R0 R H ρ Δ σ D S n r bb kk x => by
  obtain ⟨o, f, h1, h2, hnd, h3⟩ := sx_grow S e
  obtain ⟨p, qs, rfl, nd, sub, h4, h5⟩ := slok_d2' h2
  have hql := Paired.length h5
  rcases kvq_get (k := a) hql with ⟨g1, _⟩ | ⟨j, q, z, gq, gz, gk, g1, g2⟩
  · rw [g1] at hw; cases hw
  rw [g1] at hw
  cases hw
  have hq : H q = some (.lst (z.2.map V.int)) := by
    obtain ⟨q', e1, e2⟩ := paired_get h5 gz
    rw [gq] at e1
    cases e1
    exact e2
  have g3 : valV (kvq kvs qs) (Sum.inl b) = none := by
    rcases kvq_get (k := b) hql with ⟨_, g⟩ | ⟨_, _, _, _, _, _, g, _⟩
    · exact g
    · rw [hn] at g; cases g
  refine ⟨.ref p, h1, ha B R0 R H ρ Δ σ S _ fun v rv => ?_⟩
  have ev : v = .int a := rv
  subst ev
  refine .inr (.inr ⟨p, .ref q, rfl, by rw [← g2]; exact DGet.k (k := Sum.inl a) h4, ?_⟩)
  refine hy B R0 R H ρ Δ σ S _ fun v rv => ⟨by show 1 ≤ sizeLine; decide, fun r1 nr1 => ?_⟩
  have ev : v = .int y := rv
  subst ev
  have nq : q ≠ r1 := fun z => by rw [z, nr1] at hq; cases hq
  refine .inr ⟨q, r1, z.2.map V.int, [.int y], rfl, rfl, by rw [upd_ne nq]; exact hq, upd_same, Nat.le_trans (by simp; omega : (z.2.map V.int).length + [V.int y].length ≤ 1000000) (by decide), fun r2 nr2 => ?_⟩
  have n21 : r2 ≠ r1 := fun z => by rw [z, upd_same] at nr2; cases nr2
  have nr2' : H r2 = none := by rw [upd_ne n21] at nr2; exact nr2
  have S2 := sx_alloc (sx_alloc S nr1 (.lst [.int y])) nr2 (.lst (z.2.map V.int ++ [.int y]))
  refine ⟨.ref p, h1, hb B R0 R _ ρ Δ σ S2 _ fun v rv => ?_⟩
  have ev : v = .int b := rv
  subst ev
  have np1 : p ≠ r1 := fun z => by rw [z, nr1] at h4; cases h4
  have np2 : p ≠ r2 := fun z => by rw [z, nr2'] at h4; cases h4
  have hp2 : (upd (upd H r1 (.lst [.int y])) r2 (.lst (z.2.map V.int ++ [.int y]))) p = some (.dK (kvq kvs qs)) := by rw [upd_ne np2, upd_ne np1]; exact h4
  have hkl : (kvq kvs qs).length < 1000000 := by unfold kvq; rw [List.length_zipWith]; omega
  refine .inr ⟨p, _, rfl, DPut.k (k := Sum.inl b) hp2 (Nat.lt_of_lt_of_le hkl (by decide)), ?_⟩
  rw [putK_end g3]
  have fr : ∀ q' ∈ p :: qs, H q' ≠ none := fun q' hq' => slok_some h2 q' (sub q' hq')
  have nq2 : ∀ q' ∈ p :: qs, q' ≠ r2 := fun q' hq' z => fr q' hq' (z ▸ nr2')
  have nq1 : ∀ q' ∈ p :: qs, q' ≠ r1 := fun q' hq' z => fr q' hq' (z ▸ nr1)
  refine n R _ σ _ ?_ k
  refine h3 _ (.d2 (kvs ++ [(b, z.2 ++ [y])])) (p :: (qs ++ [r2])) (fun p' hp' hn' => ?_) ?_ (fun p' hp' => ?_) (slok_d2 ?_ (by rw [upd_same, kvq_snoc hql]) (paired_snoc (paired_mono_mem h5 fun q' x' hq' r' => ?_) ?_))
  · have a1 : p' ≠ p := fun z => hp' (z ▸ sub p (by simp))
    have a2 : p' ≠ r2 := fun z => hn' (z ▸ nr2')
    have a3 : p' ≠ r1 := fun z => hn' (z ▸ nr1)
    rw [upd_ne a1, upd_ne a2, upd_ne a3]
  · have := nq2
    simp only [List.nodup_cons, List.nodup_append, List.mem_cons, List.mem_append] at nd this ⊢
    grind
  · simp only [List.mem_cons, List.mem_append, List.not_mem_nil, or_false] at hp'
    rcases hp' with q' | q' | q'
    · exact .inl (sub _ (by simp [q']))
    · exact .inl (sub _ (by simp [q']))
    · exact .inr (q' ▸ nr2')
  · have := nq2
    simp only [List.nodup_cons, List.nodup_append, List.mem_cons, List.mem_append] at nd this ⊢
    grind
  · have a1 : q' ≠ p := fun z => (List.nodup_cons.mp nd).1 (z ▸ hq')
    rw [upd_ne a1, upd_ne (nq2 q' (by simp [hq'])), upd_ne (nq1 q' (by simp [hq']))]
    exact r'
  · rw [upd_ne (Ne.symm np2), upd_same, List.map_append]
    rfl
/-- return (xs, [d[x] for x in xs]) -/
theorem w_retClo {i j l : Nat} {xs : List Int} (hij : j ≠ i) (hl1 : l ≠ i) (hl2 : l ≠ j) (hlt : l < Γ.length) (e : Γ[i]? = some (.ol xs)) (e2 : Γ[j]? = some (.d2 kvs)) (nd : xs.Nodup) (hx : ∀ x ∈ xs, (dget kvs x).isSome = true) (hkn : (kvs.map (·.1)).Nodup) (hlen : xs.length < 1000000)
    (k : P.rt (.ot (.t [oti xs, otii (xs.map fun x => (dget kvs x).getD [])]))) : W c Γ (tRet (tTup (tCons (tVar i) (tCons (tLc (iList c.Z.K (tVar i)) (gName l) tYes (tOp (gIx c.Z.K) (tVar j) (tVar l)) [l]) tNil)))) P := fun B R0 R H ρ Δ σ D S n r bb kk x => by
  have ls := sx_len S
  obtain ⟨o2, q2, S1⟩ := sx_take S e2
  obtain ⟨o1, q1, S2⟩ := sx_take S1 (i := i) (by rw [List.getElem?_set_ne hij]; exact e)
  obtain ⟨hl, own, hs, f, g, rfl, ⟨p1, vs, rfl, rfl, h1, h2⟩, f2, g2, rfl, h3, h4⟩ := sx_leave S2
  have ev := paired_map_int h2
  subst ev
  obtain ⟨p, qs, rfl, ndq, sub, h5, h6⟩ := slok_d2' h3
  have hql := Paired.length h6
  refine ⟨.ref p1, q1, .ref p1, q1, p1, rfl, ⟨_, SqL.of h1⟩, ?_⟩
  -- each key's list
  have adr : ∀ x ∈ xs, ∃ (m : Nat) (q : Addr) (z : Int × List Int), qs[m]? = some q ∧ kvs[m]? = some z ∧ z.1 = x ∧ dget kvs x = some z.2 ∧ valV (kvq kvs qs) (Sum.inl x) = some (.ref q) := fun x hxx => by
    rcases kvq_get (k := x) hql with ⟨g1, _⟩ | h
    · have := hx x hxx; rw [g1] at this; cases this
    · exact h
  have ex : ∃ as : List Addr, as.length = xs.length ∧ (∀ (m : Nat) (x : Int), xs[m]? = some x → ∃ q, as[m]? = some q ∧ q ∈ qs ∧ valV (kvq kvs qs) (Sum.inl x) = some (.ref q) ∧ H q = some (.lst (((dget kvs x).getD []).map V.int))) ∧ as.Nodup ∧ ∀ q ∈ as, q ∈ qs := by
    have key : ∀ ys : List Int, (∀ y ∈ ys, y ∈ xs) → ys.Nodup → ∃ as : List Addr, as.length = ys.length ∧ (∀ (m : Nat) (x : Int), ys[m]? = some x → ∃ q, as[m]? = some q ∧ q ∈ qs ∧ valV (kvq kvs qs) (Sum.inl x) = some (.ref q) ∧ H q = some (.lst (((dget kvs x).getD []).map V.int))) ∧ as.Nodup ∧ (∀ q ∈ as, q ∈ qs ∧ ∃ y ∈ ys, valV (kvq kvs qs) (Sum.inl y) = some (.ref q)) := by
      intro ys
      induction ys with
      | nil => exact fun _ _ => ⟨[], rfl, fun m x h => by simp at h, List.nodup_nil, fun q hq => by simp at hq⟩
      | cons y ys ih =>
        intro hys hnd
        obtain ⟨n1, n2⟩ := List.nodup_cons.mp hnd
        obtain ⟨as, a1, a2, a3, a4⟩ := ih (fun z hz => hys z (by simp [hz])) n2
        obtain ⟨m, q, z, b1, b2, b3, b4, b5⟩ := adr y (hys y (by simp))
        have hqq : q ∈ qs := List.mem_of_getElem? b1
        have hH : H q = some (.lst (((dget kvs y).getD []).map V.int)) := by
          obtain ⟨q', c1, c2⟩ := paired_get h6 b2
          rw [b1] at c1
          cases c1
          rw [b4]
          exact c2
        refine ⟨q :: as, by simp [a1], fun m' x' hm' => ?_, List.nodup_cons.mpr ⟨fun hin => ?_, a3⟩, fun q' hq' => ?_⟩
        · cases m' with
          | zero =>
            have : y = x' := by simpa using hm'
            subst this
            exact ⟨q, rfl, hqq, b5, hH⟩
          | succ m' =>
            obtain ⟨q', c1, c2⟩ := a2 m' x' (by simpa using hm')
            exact ⟨q', by simpa using c1, c2⟩
        · obtain ⟨_, y', hy', hv'⟩ := a4 q hin
          obtain ⟨m', q', z', c1, c2, c3, c4, c5⟩ := adr y' (hys y' (by simp [hy']))
          rw [c5] at hv'
          cases hv'
          have em : m = m' := by
            have nq := (List.nodup_cons.mp ndq).2
            obtain ⟨i1, i2⟩ := List.getElem?_eq_some_iff.mp b1
            obtain ⟨i3, i4⟩ := List.getElem?_eq_some_iff.mp c1
            exact (List.getElem_inj nq).mp (i2.trans i4.symm)
          subst em
          rw [b2] at c2
          cases c2
          exact n1 (b3 ▸ c3 ▸ hy')
        · rcases List.mem_cons.mp hq' with rfl | hq'
          · exact ⟨hqq, y, by simp, b5⟩
          · obtain ⟨c1, y', c2, c3⟩ := a4 q' hq'
            exact ⟨c1, y', by simp [c2], c3⟩
    obtain ⟨as, a1, a2, a3, a4⟩ := key xs (fun _ h => h) nd
    exact ⟨as, a1, a2, a3, fun q hq => (a4 q hq).1⟩
  obtain ⟨as, a1, a2, a3, a4⟩ := ex
  intro Dl hD
  have nD1 : p1 ≠ Dl := fun z => by rw [z, hD] at h1; cases h1
  have nDp : p ≠ Dl := fun z => by rw [z, hD] at h5; cases h5
  have al := es_some (Z := c.Z) (R := R) (H := H) (τ := some (.ref p1) :: some (.ref p) :: (ρ ++ [])) (Θ := .ol xs :: .d2 kvs :: (Δ ++ [])) (own := [p1] ++ (f2 ++ g2)) ⟨[p1], _, rfl, ⟨p1, _, rfl, rfl, h1, h2⟩, f2, g2, rfl, h3, h4⟩
  have qal : ∀ q ∈ qs, H q ≠ none := fun q hq => al q (by simp [sub q (by simp [hq])])
  refine ⟨fun m w H2 => w = xs.length - m ∧ m ≤ xs.length ∧ H2 = upd H Dl (.lst ((as.take m).map V.ref)), ⟨xs.length, by simp, Nat.zero_le _, by simp⟩, ?_⟩
  rintro m w H2 ⟨rfl, hm, rfl⟩
  have hL : (upd H Dl (.lst ((as.take m).map V.ref))) p1 = some (.lst (xs.map V.int)) := by rw [upd_ne nD1]; exact h1
  by_cases hlt2 : m < xs.length
  · refine .inr ⟨⟨_, .int xs[m], SqL.of hL, by rw [List.getElem?_map, List.getElem?_eq_getElem hlt2]; rfl⟩, fun H' => H' = upd H Dl (.lst ((as.take (m + 1)).map V.ref)), fun H' h => ⟨xs.length - (m + 1), by omega, rfl, hlt2, h⟩, ?_⟩
    rintro y H' ⟨rfl, hy⟩
    have := hy _ (SqL.of hL)
    rw [List.getElem?_map, List.getElem?_eq_getElem hlt2] at this
    cases this
    obtain ⟨q, b1, b2, b3, b4⟩ := a2 m xs[m] (List.getElem?_eq_getElem hlt2)
    refine ⟨(wipe_set (j := l) (vs := [l]) (List.mem_singleton.mpr rfl)).trans (wipe_wipe σ [l]), ?_⟩
    have g1 : ((wipe σ [l]).set l (some (V.int xs[m])))[j]? = some (some (.ref p)) := by
      rw [List.getElem?_set_ne hl2]
      show (σ.set l none)[j]? = _
      rw [List.getElem?_set_ne hl2]
      exact q2
    have g3 : ((wipe σ [l]).set l (some (V.int xs[m])))[l]? = some (some (.int xs[m])) := by
      rw [List.getElem?_set_self]
      show l < (σ.set l none).length
      rw [List.length_set]
      omega
    have hp : (upd H Dl (.lst ((as.take m).map V.ref))) p = some (.dK (kvq kvs qs)) := by rw [upd_ne nDp]; exact h5
    refine ⟨.ref p, g1, .int xs[m], g3, .inr (.inr ⟨p, .ref q, rfl, by rw [← b3]; exact DGet.k (k := Sum.inl xs[m]) hp, ?_⟩)⟩
    have ham : m < as.length := by omega
    refine ⟨_, upd_same, Nat.lt_of_lt_of_le (by rw [List.length_map, List.length_take]; omega : ((as.take m).map V.ref).length < 1000000) (by decide), ?_⟩
    have eq : as[m] = q := by
      rw [List.getElem?_eq_getElem ham] at b1
      exact Option.some.inj b1
    rw [take_snoc ham, List.map_append, eq]
    funext b
    by_cases hb : b = Dl
    · subst hb; rw [upd_same, upd_same]; rfl
    · rw [upd_ne hb, upd_ne hb, upd_ne hb]
  · have em : m = xs.length := by omega
    subst em
    have eA : as.take xs.length = as := by rw [← a1, List.take_length]
    rw [eA] at hL ⊢
    refine .inl ⟨⟨_, SqL.of hL, by rw [List.length_map]; exact Nat.le_refl _⟩, by show 2 ≤ sizeLine; decide, fun T nT => ?_⟩
    have nTD : T ≠ Dl := fun z => by rw [z, upd_same] at nT; cases nT
    have nT' : H T = none := by rw [upd_ne nTD] at nT; exact nT
    have nT1 : p1 ≠ T := fun z => by rw [z, nT'] at h1; cases h1
    have ow := hs.ow
    have ndo := hs.nd
    have hpair : Paired (fun q xs => (upd (upd H Dl (.lst (as.map V.ref))) T (.tup [.ref p1, .ref Dl])) q = some (.lst (xs.map V.int))) as (xs.map fun x => (dget kvs x).getD []) := by
      have key : ∀ (as' : List Addr) (ys : List Int), as'.length = ys.length → (∀ (m : Nat) (x : Int), ys[m]? = some x → ∃ q, as'[m]? = some q ∧ q ∈ qs ∧ H q = some (.lst (((dget kvs x).getD []).map V.int))) → Paired (fun q xs => (upd (upd H Dl (.lst (as.map V.ref))) T (.tup [.ref p1, .ref Dl])) q = some (.lst (xs.map V.int))) as' (ys.map fun x => (dget kvs x).getD []) := by
        intro as'
        induction as' with
        | nil => intro ys hy _; rw [List.length_eq_zero_iff.mp hy.symm]; exact .nil
        | cons a as' ih =>
          intro ys hy h
          match ys, hy with
          | y :: ys, hy =>
            refine .cons ?_ (ih ys (by simpa using hy) fun m x hm => ?_)
            · obtain ⟨q, b1, b2, b3⟩ := h 0 y rfl
              have : a = q := by simpa using b1
              subst this
              have z1 : a ≠ T := fun z => qal a b2 (z ▸ nT')
              have z2 : a ≠ Dl := fun z => qal a b2 (z ▸ hD)
              rw [upd_ne z1, upd_ne z2]
              exact b3
            · obtain ⟨q, b1, b2⟩ := h (m + 1) x (by simpa using hm)
              exact ⟨q, by simpa using b1, b2⟩
      exact key as xs a1 fun m x hm => by
        obtain ⟨q, b1, b2, _, b4⟩ := a2 m x hm
        exact ⟨q, b1, b2, b4⟩
    have ndT : (T :: p1 :: Dl :: as).Nodup := by
      refine List.nodup_cons.mpr ⟨?_, List.nodup_cons.mpr ⟨?_, List.nodup_cons.mpr ⟨?_, a3⟩⟩⟩
      · simp only [List.mem_cons, not_or]
        exact ⟨Ne.symm nT1, nTD, fun z => qal T (a4 T z) nT'⟩
      · simp only [List.mem_cons, not_or]
        refine ⟨nD1, fun z => ?_⟩
        have := sub p1 (by simp [a4 p1 z])
        simp only [List.cons_append, List.nil_append, List.nodup_cons, List.mem_append] at ndo
        exact ndo.1 (.inl this)
      · exact fun z => qal Dl (a4 Dl z) hD
    have dis : ∀ b ∈ T :: p1 :: Dl :: as, b ∉ g2 := fun b hb hg => by
      simp only [List.mem_cons] at hb
      have alg := al b (by simp [hg])
      rcases hb with rfl | rfl | rfl | hb
      · exact alg nT'
      · simp only [List.cons_append, List.nil_append, List.nodup_cons, List.mem_append] at ndo
        exact ndo.1 (.inr hg)
      · exact alg hD
      · have := sub b (by simp [a4 b hb])
        simp only [List.cons_append, List.nil_append, List.nodup_cons, List.nodup_append] at ndo
        exact ndo.2.2.2 b this b hg rfl
    have same : Same H (upd (upd H Dl (.lst (as.map V.ref))) T (.tup [.ref p1, .ref Dl])) := fun b o eb => by
      have b1 : b ≠ T := fun z => by rw [z, nT'] at eb; cases eb
      have b2 : b ≠ Dl := fun z => by rw [z, hD] at eb; cases eb
      rw [upd_ne b1, upd_ne b2]
      exact eb
    refine r R _ (.ref T) (.ot (.t [oti xs, otii (xs.map fun x => (dget kvs x).getD [])])) ⟨by simpa using hl, (T :: p1 :: Dl :: as) ++ g2, ⟨hs.rh.trans same, hs.bh.trans same, hs.r0, hs.nw, fun b hb => ?_, ?_⟩, T :: p1 :: Dl :: as, g2, rfl, slok_ot ndT ⟨T, _, _, rfl, rfl, upd_same, .ref p1, _, [p1], Dl :: as, rfl, rfl, otR_ints.mpr ⟨p1, rfl, rfl, by rw [upd_ne nT1, upd_ne nD1]; exact h1⟩, .ref Dl, _, Dl :: as, [], rfl, by simp, ⟨Dl, _, as, rfl, rfl, by rw [upd_ne (Ne.symm nTD), upd_same], otRs_iint hpair⟩, rfl, rfl⟩, es_mono (Same.refl _) (fun b hb => ?_) h4⟩ k
    · simp only [List.cons_append, List.mem_cons, List.mem_append] at hb
      rcases hb with rfl | rfl | rfl | hb | hb
      · exact ⟨hs.rh.free nT', hs.bh.free nT'⟩
      · exact ow b (by simp)
      · exact ⟨hs.rh.free hD, hs.bh.free hD⟩
      · exact ow b (by simp [sub b (by simp [a4 b hb])])
      · exact ow b (by simp [hb])
    · rw [List.nodup_append]
      refine ⟨ndT, ?_, fun a ha b hb z => dis a ha (z ▸ hb)⟩
      simp only [List.cons_append, List.nil_append, List.nodup_cons, List.nodup_append] at ndo
      exact ndo.2.2.1
    · have alg := al b (by simp [hb])
      have b1 : b ≠ T := fun z => alg (z ▸ nT')
      have b2 : b ≠ Dl := fun z => alg (z ▸ hD)
      rw [upd_ne b1, upd_ne b2]
end
end TB

/-! TbOq: more of own trees. -/
namespace TB
open PySem L2
section
variable {c : Cn} {Γ : List Sl} {ta tb te tl ty tk : TE} {tt tc : TT} {t u : TS} {s s' so : Sl} {α β γ : Type} {_ : Rp α} {_ : Rp β} {_ : Rp γ} {P : Po} {d : α} {T U : OT}
/-- list(PATH) -/
theorem ev_listOT {i : Nat} {xs : List Int} {put : OT → OT} (e : Γ[i]? = some (.ot T)) (hp : EvAt c i te T (oti xs) put) : Ev c Γ (tCB (gList c.Z.K) (tCons te tNil)) (.ol xs) := fun B R0 R H ρ Δ σ S Q q x => by
  obtain ⟨v, f, h1, h2, h3, _⟩ := sx_ot S e
  refine hp H v f σ h2 h3 h1 _ fun u g _ _ hu _ => ?_
  obtain ⟨a, rfl, rfl, ha⟩ := otR_ints.mp hu
  exact ⟨a, _, rfl, .inl (SqL.of ha), fun l hl => q _ R _ (sx_newl S hl (paired_of_int _))⟩
/-- PATH.append([]), the tree not asked again -/
theorem w_appOTn {i : Nat} {Us : List OT} {put : OT → OT} (e : Γ[i]? = some (.ot T)) (hp : EvAt c i te T (.l Us) put) (hl : Us.length < 1000000) (k : P.nx (Γ.set i .un)) :
    W c Γ (tDrop (tBM c.Z.K "list" rAppend te (tCons (tLst tNil) tNil))) P := fun B R0 R H ρ Δ σ D S n r bb kk x => by
  obtain ⟨o, f0, h1, hs, hnd, hg⟩ := sx_grow S e
  obtain ⟨v, f, rfl, h3, sub, h2⟩ := slok_ot' hs
  refine hp H v f σ h2 h3 h1 _ fun u g ndg sub2 ⟨a, vs, g', eu, eg, h6, h7⟩ back => ?_
  subst eu eg
  have hlen := otRs_len h7
  refine ⟨tyL h6, by decide, fun r1 nr => ?_⟩
  have na : a ≠ r1 := fun z => by rw [z, nr] at h6; cases h6
  refine ⟨a, vs, .ref r1, rfl, rfl, by rw [upd_ne na]; exact h6, Nat.lt_of_lt_of_le (by omega : vs.length < 1000000) (by decide), n R _ _ _ (hg _ .un [] (fun p hp' hn => ?_) List.nodup_nil (fun p hp' => by simp at hp') rfl) k⟩
  have a1 : p ≠ a := fun z => hp' (sub _ (sub2 _ (by simp [z])))
  have a2 : p ≠ r1 := fun z => hn (z ▸ nr)
  rw [upd_ne a1, upd_ne a2]
/-- xs.append((ys, list(ys))), ys moved -/
theorem w_appPair {i j : Nat} {Us : List OT} {xs : List Int} (hij : i ≠ j) (e : Γ[i]? = some (.ot (.l Us))) (e2 : Γ[j]? = some (.ol xs)) (hl : Us.length < 1000000) (k : P.nx ((Γ.set j .un).set i (.ot (.l (Us ++ [.t [oti xs, oti xs]]))))) :
    W c Γ (tDrop (tBM c.Z.K "list" rAppend (tVar i) (tCons (tTup (tCons (tVar j) (tCons (tCB (gList c.Z.K) (tCons (tVar j) tNil)) tNil))) tNil))) P := fun B R0 R H ρ Δ σ D S n r bb kk x => by
  obtain ⟨o1, h1, S1⟩ := sx_take S e
  obtain ⟨o2, h2, S2⟩ := sx_take S1 (i := j) (by rw [List.getElem?_set_ne hij]; exact e2)
  obtain ⟨hl0, own, hs, f, g, rfl, ⟨q, vs, rfl, rfl, h3, h4⟩, f2, g2, rfl, h5, h6⟩ := S2
  have ev := paired_map_int h4
  subst ev
  obtain ⟨v, f', rfl, nd', sub', a, us, g', rfl, rfl, h7, h8⟩ := slok_ot' h5
  have hlen := otRs_len h8
  have al := es_some (Z := c.Z) (R := R) (H := H) (τ := some (.ref q) :: some (.ref a) :: (ρ ++ σ)) (Θ := .ol xs :: .ot (.l Us) :: (Δ ++ ((Γ.set i .un).set j .un))) (own := [q] ++ (f2 ++ g2)) ⟨[q], _, rfl, ⟨q, _, rfl, rfl, h3, h4⟩, f2, g2, rfl, h5, h6⟩
  refine ⟨.ref a, h1, tyL h7, .ref q, h2, .ref q, h2, q, _, rfl, .inl (SqL.of h3), fun l1 hl1 => ⟨by show 2 ≤ sizeLine; decide, fun T1 hT1 => ?_⟩⟩
  have nT : T1 ≠ l1 := fun z => by rw [z, upd_same] at hT1; cases hT1
  have hT1' : H T1 = none := by rw [upd_ne nT] at hT1; exact hT1
  have na1 : a ≠ l1 := fun z => by rw [z, hl1] at h7; cases h7
  have naT : a ≠ T1 := fun z => by rw [z, hT1'] at h7; cases h7
  have nq1 : q ≠ l1 := fun z => by rw [z, hl1] at h3; cases h3
  have nqT : q ≠ T1 := fun z => by rw [z, hT1'] at h3; cases h3
  have ndo := hs.nd
  have nqa : q ≠ a := fun z => by
    have := sub' a (by simp)
    simp only [List.cons_append, List.nil_append, List.nodup_cons, List.mem_append] at ndo
    exact ndo.1 (.inl (z ▸ this))
  have hqf : ∀ p ∈ a :: g', p ≠ q := fun p hp z => by
    have := sub' p hp
    simp only [List.cons_append, List.nil_append, List.nodup_cons, List.mem_append] at ndo
    exact ndo.1 (.inl (z ▸ this))
  refine ⟨a, us, .ref T1, rfl, rfl, by rw [upd_ne naT, upd_ne na1]; exact h7, Nat.lt_of_lt_of_le (by omega : us.length < 1000000) (by decide), ?_⟩
  have gal : ∀ p ∈ g', H p ≠ none := fun p hp => al p (by simp [sub' p (by simp [hp])])
  have nag : a ∉ g' := (List.nodup_cons.mp nd').1
  have keep : ∀ p ∈ g', (upd (upd (upd H l1 (.lst (xs.map V.int))) T1 (.tup [.ref q, .ref l1])) a (.lst (us ++ [.ref T1]))) p = H p := fun p hp => by
    have b1 : p ≠ a := fun z => nag (z ▸ hp)
    have b2 : p ≠ T1 := fun z => gal p hp (z ▸ hT1')
    have b3 : p ≠ l1 := fun z => gal p hp (z ▸ hl1)
    rw [upd_ne b1, upd_ne b2, upd_ne b3]
  have S3 : Sx c.Z B R0 R (upd (upd (upd H l1 (.lst (xs.map V.int))) T1 (.tup [.ref q, .ref l1])) a (.lst (us ++ [.ref T1]))) (some (.ref a) :: ρ) (.ot (.l (Us ++ [.t [oti xs, oti xs]])) :: Δ) σ ((Γ.set i .un).set j .un) := by
    have dis : ∀ b ∈ g2, b ∉ (a :: (g' ++ [T1, q, l1])) := fun b hb z => by
      have alg := al b (by simp [hb])
      simp only [List.mem_cons, List.mem_append, List.not_mem_nil, or_false] at z
      simp only [List.cons_append, List.nil_append, List.nodup_cons, List.mem_append, List.nodup_append] at ndo
      rcases z with rfl | z | rfl | rfl | rfl
      · exact ndo.2.2.2 b (sub' b (by simp)) b hb rfl
      · exact ndo.2.2.2 b (sub' b (by simp [z])) b hb rfl
      · exact alg hT1'
      · exact ndo.1 (.inr hb)
      · exact alg hl1
    have ndn : (a :: (g' ++ [T1, q, l1])).Nodup := by
      have b1 : T1 ∉ g' := fun z => gal T1 z hT1'
      have b2 : l1 ∉ g' := fun z => gal l1 z hl1
      have b3 : q ∉ g' := fun z => hqf q (by simp [z]) rfl
      have b4 := (List.nodup_cons.mp nd').2
      simp only [List.nodup_cons, List.nodup_append, List.mem_append, List.mem_cons, List.not_mem_nil, or_false, not_or]
      refine ⟨⟨nag, naT, Ne.symm nqa, na1⟩, b4, ⟨⟨Ne.symm nqT, nT⟩, nq1, by simp⟩, fun p hp p' hp' z => ?_⟩
      rcases hp' with r | r | r
      · exact b1 (r ▸ z ▸ hp)
      · exact b3 (r ▸ z ▸ hp)
      · exact b2 (r ▸ z ▸ hp)
    have ha := hs.ow a (by simp [sub' a (by simp)])
    refine ⟨by simpa using hl0, (a :: (g' ++ [T1, q, l1])) ++ g2, ⟨fun p o z => ?_, fun p o z => ?_, hs.r0, hs.nw, fun p hp => ?_, ?_⟩, a :: (g' ++ [T1, q, l1]), g2, rfl, slok_ot ndn ⟨a, us ++ [.ref T1], g' ++ [T1, q, l1], rfl, rfl, upd_same, otRs_app (otRs_frame keep h8) ⟨.ref T1, [], [T1, q, l1], [], rfl, by simp, ⟨T1, _, [q, l1], rfl, rfl, by rw [upd_ne (Ne.symm naT), upd_same], .ref q, _, [q], [l1], rfl, rfl, otR_ints.mpr ⟨q, rfl, rfl, by rw [upd_ne nqa, upd_ne nqT, upd_ne nq1]; exact h3⟩, .ref l1, _, [l1], [], rfl, rfl, otR_ints.mpr ⟨l1, rfl, rfl, by rw [upd_ne (Ne.symm na1), upd_ne (Ne.symm nT), upd_same]⟩, rfl, rfl⟩, rfl, rfl⟩⟩, es_mono (Same.refl _) (fun p hp => ?_) h6⟩
    · have b1 : p ≠ a := fun y => by rw [y, ha.1] at z; cases z
      have zz := hs.rh _ _ z
      have b2 : p ≠ T1 := fun y => by rw [y, hT1'] at zz; cases zz
      have b3 : p ≠ l1 := fun y => by rw [y, hl1] at zz; cases zz
      rw [upd_ne b1, upd_ne b2, upd_ne b3]
      exact zz
    · have b1 : p ≠ a := fun y => by rw [y, ha.2] at z; cases z
      have zz := hs.bh _ _ z
      have b2 : p ≠ T1 := fun y => by rw [y, hT1'] at zz; cases zz
      have b3 : p ≠ l1 := fun y => by rw [y, hl1] at zz; cases zz
      rw [upd_ne b1, upd_ne b2, upd_ne b3]
      exact zz
    · simp only [List.cons_append, List.mem_cons, List.mem_append, List.not_mem_nil, or_false] at hp
      rcases hp with rfl | (hp | rfl | rfl | rfl) | hp
      · exact ha
      · exact hs.ow p (by simp [sub' p (by simp [hp])])
      · exact ⟨hs.rh.free hT1', hs.bh.free hT1'⟩
      · exact hs.ow p (by simp)
      · exact ⟨hs.rh.free hl1, hs.bh.free hl1⟩
      · exact hs.ow p (by simp [hp])
    · rw [List.nodup_append]
      refine ⟨ndn, ?_, fun p hp p' hp' z => dis p' hp' (z ▸ hp)⟩
      simp only [List.cons_append, List.nil_append, List.nodup_cons, List.nodup_append] at ndo
      exact ndo.2.2.1
    · have alg := al p (by simp [hp])
      have := dis p hp
      simp only [List.mem_cons, List.mem_append, List.not_mem_nil, or_false, not_or] at this
      rw [upd_ne this.1, upd_ne this.2.2.1, upd_ne this.2.2.2.2]
  have S4 := sx_asg S3 i
  rw [set_same h1] at S4
  refine n R _ σ _ S4 ?_
  have : ((Γ.set i .un).set j .un).set i (.ot (.l (Us ++ [.t [oti xs, oti xs]]))) = (Γ.set j .un).set i (.ot (.l (Us ++ [.t [oti xs, oti xs]]))) := by
    rw [List.set_comm _ _ hij, List.set_set]
  rw [this]
  exact k
end
/-- own pairs of own lists, lent as data -/
abbrev otps (ps : List (List Int × List Int)) : OT := .l (ps.map fun p => .t [oti p.1, oti p.2])
theorem otp_rp {h : Hp} {Z : Zz} {R' : Hp} {p : List Int × List Int} {v : V} {f : List Addr} (q : otR h (.t [oti p.1, oti p.2]) v f) (k : ∀ a ∈ f, ∀ o, h a = some o → R' a = some o) : Rp.rp Z R' v p := by
  obtain ⟨a, vs, g, rfl, rfl, h1, v1, w1, g1, g2, rfl, rfl, h2, v2, w2, g3, g4, rfl, rfl, h3, rfl, rfl⟩ := q
  obtain ⟨a1, rfl, rfl, h4⟩ := otR_ints.mp h2
  obtain ⟨a2, rfl, rfl, h5⟩ := otR_ints.mp h3
  exact ⟨a, _, _, rfl, k _ (by simp) _ h1, ⟨a1, _, rfl, k _ (by simp) _ h4, paired_of_int _⟩, ⟨a2, _, rfl, k _ (by simp) _ h5, paired_of_int _⟩⟩
theorem otps_rp {h : Hp} {Z : Zz} {R' : Hp} : ∀ {ps : List (List Int × List Int)} {vs : List V} {f : List Addr}, otRs h (ps.map fun p => .t [oti p.1, oti p.2]) vs f → (∀ a ∈ f, ∀ o, h a = some o → R' a = some o) → Paired (Rp.rp Z R') vs ps
  | [], _, _, ⟨e1, e2⟩, _ => by subst e1; exact .nil
  | p :: ps, _, _, ⟨v, ws, g1, g2, e1, e2, h1, h2⟩, k => by
    subst e1 e2
    exact .cons (otp_rp h1 fun a ha => k a (by simp [ha])) (otps_rp h2 fun a ha => k a (by simp [ha]))
theorem lnd_ps {ps : List (List Int × List Int)} : Lnd (.ot (otps ps)) ps := fun Z R H o f sm h => by
  obtain ⟨v, g, rfl, _, sub, a, vs, g', rfl, rfl, h1, h2⟩ := slok_ot' h
  exact ⟨_, rfl, a, vs, rfl, frz_in sm (sub a (by simp)) h1, otps_rp h2 fun b hb o e => frz_in sm (sub b (by simp [hb])) e⟩
/-- a pair of an own list and an own list of own lists, lent as data -/
theorem lnd_clo {xs : List Int} {ws : List (List Int)} : Lnd (.ot (.t [oti xs, otii ws])) (xs, ws) := fun Z R H o f sm h => by
  obtain ⟨v, g, rfl, _, sub, a, vs, g', rfl, rfl, h1, v1, w1, g1, g2, rfl, rfl, h2, v2, w2, g3, g4, rfl, rfl, h3, rfl, rfl⟩ := slok_ot' h
  obtain ⟨a1, rfl, rfl, h4⟩ := otR_ints.mp h2
  obtain ⟨a2, vs2, g5, rfl, rfl, h5, h6⟩ := h3
  obtain ⟨rfl, h7⟩ := otRs_iint' h6
  refine ⟨_, rfl, a, _, _, rfl, frz_in sm (sub a (by simp)) h1, ⟨a1, _, rfl, frz_in sm (sub a1 (by simp)) h4, paired_of_int _⟩, ⟨a2, _, rfl, frz_in sm (sub a2 (by simp)) h5, ?_⟩⟩
  have key : ∀ {qs : List Addr} {ws : List (List Int)}, (∀ q ∈ qs, q ∈ f) → Paired (fun q xs => H q = some (.lst (xs.map V.int))) qs ws → Paired (Rp.rp Z (frz R H f)) (qs.map V.ref) ws := by
    intro qs ws hq hp
    induction hp with
    | nil => exact .nil
    | cons r t ih => exact .cons ⟨_, _, rfl, frz_in sm (hq _ (by simp)) r, paired_of_int _⟩ (ih fun q hq' => hq q (by simp [hq']))
  exact key (fun q hq => sub q (by simp [hq])) h7
section
variable {c : Cn} {Γ : List Sl} {ta tb te tl ty tk : TE} {tt tc : TT} {t u : TS} {s s' so : Sl} {α β γ : Type} {_ : Rp α} {_ : Rp β} {_ : Rp γ} {P : Po} {d : α} {T U : OT}
/-- over a list of pairs -/
theorem ei_listP {xs : List (α × β)} {a b : Nat} (h : Ev c Γ tl (.im xs)) : EvI c Γ (iList c.Z.K tl) (gTup c.Z.K 2 (gCons (gName a) (gCons (gName b) gNil))) xs.length (fun i G => (G.set a (.im (xs.getD i Rp.df).1)).set b (.im (xs.getD i Rp.df).2)) [a, b] := fun B R0 R H ρ Δ σ S K k x =>
  h B R0 R H ρ Δ σ S _ (fun v R1 H1 S1 => by
    have rv := sx_top' S1
    obtain ⟨l, vs, rfl, ha, hp⟩ := id rv
    refine ⟨l, rfl, ⟨vs, SqL.of (sx_same S1 _ _ ha)⟩, k (Itl c.Z.K l) R1 H1 [some (.ref l)] [.im xs] rfl S1 ⟨fun i G vs3 hj => by rw [wipeG_set (hj b (by simp)), wipeG_set (hj a (by simp))], fun {R2 H2 ρx Δx σ2 Γ2 i} hx S2 hi => ?_, fun {R2 H2 ρx Δx σ2 Γ2} hx S2 => ?_, fun {R2 H2 ρx Δx σ2 Γ2 i y H'} hx S2 hi hy K' kk => ?_⟩⟩
    · obtain ⟨a2, vs2, e2, ha2, hp2⟩ := sx_top' (sx_drop hx S2)
      cases e2
      obtain ⟨w, hw, _⟩ := paired_get hp2 (b := xs[i]) (i := i) (by simp [hi])
      exact ⟨vs2, w, SqL.of (sx_same S2 _ _ ha2), hw⟩
    · obtain ⟨a2, vs2, e2, ha2, hp2⟩ := sx_top' (sx_drop hx S2)
      cases e2
      exact ⟨vs2, SqL.of (sx_same S2 _ _ ha2), by rw [Paired.length hp2]; exact Nat.le_refl _⟩
    · obtain ⟨a2, vs2, e2, ha2, hp2⟩ := sx_top' (sx_drop hx S2)
      cases e2
      obtain ⟨eH, hy⟩ := hy
      subst eH
      have hy' := hy vs2 (SqL.of (sx_same S2 _ _ ha2))
      obtain ⟨z, hz, rz⟩ := paired_getL hp2 hy'
      have e3 : xs.getD i Rp.df = z := by rw [List.getD_eq_getElem?_getD, hz]; rfl
      rw [← e3] at rz
      obtain ⟨T, w1, w2, rfl, hT, r1, r2⟩ := rz
      refine ⟨T, [w1, w2], rfl, SqT.of (sx_same S2 _ _ hT), rfl, _, _, rfl, _, _, rfl, rfl, ?_⟩
      exact kk R2 _ _ (sx_asg (sx_push (sx_asg (sx_push S2 r1) a) r2) b) fun vs3 hj => by rw [wipe_set (hj b (by simp)), wipe_set (hj a (by simp))]) x
/-- [f(x, y) for x, y in pairs] -/
theorem ev_mapP {xs : List (α × β)} {i j : Nat} {vs : List Nat} (f : α × β → γ) (h : Ev c Γ tl (.im xs)) (hn : xs.length < 1000000) (hj : i ∈ vs ∧ j ∈ vs) (hu : UnAt Γ vs) (he : ∀ x, x ∈ xs → Ev c.no ((Γ.set i (.im x.1)).set j (.im x.2)) te (.im (f x))) :
    Ev c Γ (tLc (iList c.Z.K tl) (gTup c.Z.K 2 (gCons (gName i) (gCons (gName j) gNil))) tYes te vs) (.ol (xs.map f)) := by
  refine ev_is (ev_lc (fun _ => true) (fun i => f (xs.getD i Rp.df)) (ei_listP h) hn (fun k hk => by simp at hk; rcases hk with rfl | rfl; exact hj.1; exact hj.2) hu (fun i hi => fun B R0 R H ρ Δ σ S Q q _ => q R H S) (fun i hi _ => he _ (by rw [getD_eq hi]; exact List.getElem_mem hi))) ?_
  rw [kept_all]
  refine congrArg Sl.ol (List.ext_getElem (by simp) fun i h1 h2 => ?_)
  simp at h1
  simp [h1]
end
section
variable {c : Cn} {Γ : List Sl} {te : TE} {α β : Type} {_ : Rp α} {_ : Rp β} {d : α}
theorem ep_to {d d' : α} (h : EvP c Γ te d) (e : d = d') : EvP c Γ te d' := e ▸ h
/-- o.f, the heap as it was -/
theorem ep_fld {o : α} {d : β} {f : Str} (h : EvP c Γ te o) (hf : ∀ R v, Rp.rp c.Z R v o → ∃ a C dx fs w, v = .ref a ∧ R a = some (.ins C dx fs) ∧ Cls c.Z.K C ∧ NoAttr c.Z.K C f ∧ fs.lookup f = some w ∧ Rp.rp c.Z R w d) : EvP c Γ (tFld c.Z.K te f) d := fun B R0 R H ρ Δ σ S Q q =>
  h B R0 R H ρ Δ σ S _ fun v rv => by
    obtain ⟨a, C, dx, fs, w, rfl, h1, h2, h3, h4, h5⟩ := hf R v rv
    exact ⟨a, C, dx, fs, w, rfl, sx_same S _ _ h1, h2, h3, h4, q w h5⟩
variable {g : Grp}
theorem ep_rows (h : EvP c Γ te g) : EvP c Γ (tFld c.Z.K te "rows") g.rows := ep_fld h fun R v ⟨h0, a, dx, m, r, u, b, h1, h2, h3, h4, h5, h6⟩ => ⟨a, _, dx, _, r, h1, h2, h0.cl, h0.n2, flG2 .., h4⟩
theorem ep_unit (h : EvP c Γ te g) : EvP c Γ (tFld c.Z.K te "unit") g.unit := ep_fld h fun R v ⟨h0, a, dx, m, r, u, b, h1, h2, h3, h4, h5, h6⟩ => ⟨a, _, dx, _, u, h1, h2, h0.cl, h0.n3, flG3 .., h5⟩
end
/-! ### mixed parts -/
def cmm (t : Tbl) (e a b : Int) : Int := en t (en t (en t a b) (bkf t e a)) (bkf t e b)
def cmL (t : Tbl) (e : Int) (P : List Int) : List Int := (P.map fun a => P.map fun b => cmm t e a b).flatten
noncomputable def mixF (t : Tbl) (e : Int) (P : List Int) : List Int := clo t e (cmL t e P)
theorem cmm_in {t : Tbl} {e a b : Int} (h : GTbl t e) (ha : InT t a) (hb : InT t b) : InT t (cmm t e a b) := h.cl (h.cl (h.cl ha hb) (bk_in h ha)) (bk_in h hb)
theorem cmL_in {t : Tbl} {e : Int} (h : GTbl t e) {P : List Int} (hp : ∀ x ∈ P, InT t x) : ∀ y ∈ cmL t e P, InT t y := fun y hy => by
  obtain ⟨l, hl, hyl⟩ := List.mem_flatten.mp hy
  obtain ⟨a, ha, rfl⟩ := List.mem_map.mp hl
  obtain ⟨b, hb, rfl⟩ := List.mem_map.mp hyl
  exact cmm_in h (hp a ha) (hp b hb)
end TB

/-! ### law -/
namespace TB
open PySem L2
--use TbWk
--use TbTri
--use TbOq
--use TbIn
--extra T.whlC
def t_law (Z : Zz) (X : WX) : TS :=
  (tSeq (tAsg (tOp gAdd (tC (.int 1)) (tOp gMod (tOp gDiv (tCallSD (spOf Z T_l_at) [] (WE X) (tCons (tVar 0) (tCons (tC (.int 0)) tNil))) (tC (.int 4))) (tC (.int 12)))) (gName 1))
  (tSeq (tIfS (tTest (tOp (gEq Z.K) (tOp gMod (tCallSD (spOf Z T_l_at) [] (WE X) (tCons (tVar 0) (tCons (tC (.int 0)) tNil))) (tC (.int 4))) (tC (.int 3))))
  (tAsg (tOp gAdd (tC (.int 1)) (tOp gMod (tOp gDiv (tCallSD (spOf Z T_l_at) [] (WE X) (tCons (tVar 0) (tCons (tC (.int 0)) tNil))) (tC (.int 4))) (tC (.int 60)))) (gName 1))
  tNext)
  (tSeq (tAsg (tMakeSD (Z.cls .Wheel) (spI_Wheel Z) [] (WE X) (tCons (tVar 1) tNil)) (gName 2))
  (tSeq (tAsg (tOp gMul (tLst (tCons (tC (.int 0)) tNil)) (tVar 1)) (gName 3))
  (tSeq (tAsg (tMethSD (Z.cls .Wheel) "lowest" (spOf Z T_Wheel_lowest) [] (WE X) (tVar 2) (tCons (tLst tNil) tNil)) (gName 4))
  (tSeq (tAsg (tLst tNil) (gName 5))
  (tSeq (tFor (iList Z.K (tOp gAdd (tLst (tCons (tC (.int 0)) tNil)) (tSl (rSlL Z.K) (tVar 0) (tPart (tC (.int 1))) (tPart (tC (.int 63)))))) (gName 6)
  (tSeq (tAsg (tCallSD (spOf Z T_l_deed) [] (WE X) (tCons (tVar 2) (tCons (tVar 4) (tCons (tVar 3) (tCons (tVar 6) tNil))))) (gTup Z.K 3 (gCons (gName 2) (gCons (gName 4) (gCons (gName 3) gNil)))))
  (tSeq (tIfS (tNot (tB (tCallSD (spOf Z T_l_is) [] (WE X) (tCons (tVar 4) (tCons (tVar 3) (tCons (tCB (gLen Z.K) (tCons (tVar 3) tNil)) tNil))))))
  (tRet (tC (.bl false)))
  tNext)
  (tDrop (tBM Z.K "list" rAppend (tVar 5) (tCons (tTup (tCons (tVar 4) (tCons (tCB (gList Z.K) (tCons (tVar 4) tNil)) tNil))) tNil))))))
  (tSeq (tAsg (tMethSD (Z.cls .Wheel) "whole" (spOf Z T_Wheel_whole) [] (WE X) (tVar 2) (tCons (tVar 4) tNil)) (gName 7))
  (tSeq (tIfS (tNot (tB (tCB (rAll Z.K) (tCons (tLc (iList Z.K (tVar 5)) (gTup Z.K 2 (gCons (gName 8) (gCons (gName 9) gNil))) tYes (tOp (gEq Z.K) (tVar 8) (tVar 9)) [8, 9]) tNil))))
  (tRet (tC (.bl false)))
  tNext)
  (tSeq (tIfS (tB (tCB (rAll Z.K) (tCons (tLc (iList Z.K (tSl (rSlL Z.K) (tVar 4) (tPart (tC (.int 1))) tNoPart)) (gName 10) tYes (tOp (gEq Z.K) (tVar 10) (tC (.int 0))) [10]) tNil)))
  (tRet (tAndV (tCallSD (spOf Z T_l_whole) [] (WE X) (tCons (tVar 7) tNil)) (tOp (gEq Z.K) (tVar 7) (tOp (gIx Z.K) (tVar 4) (tC (.int 0))))))
  tNext)
  (tRet (tOp gIs (tVar 7) (tC .non)))))))))))))
theorem w_law {Z : Zz} (hZ : WhlC Z) (X : WX) (ss : List Sl) (ok : Sl → Prop) (er : Rf → Prop) (hh : T_law ss ok er) : WF Z X er (ss ++ List.replicate (11 - ss.length) .un) (t_law Z X) ok := by
  obtain ⟨l, rfl, hl, k⟩ := hh
  show W _ [.im l, .un, .un, .un, .un, .un, .un, .un, .un, .un, .un] _ _
  unfold t_law
  refine w_seq (w_asg (s := .im (1 + atF l.l 0 / 4 % 12)) (ev_add ev_int (ev_mod (ev_div (ev_callN (s := .im (atF l.l 0)) (ea_cons (ev_var rfl) (ea_cons ev_int ea_nil)) ⟨_, _, rfl, by decide, rfl⟩) ev_int (by decide) (by decide)) ev_int (by decide))) ?_)
  walk_at "nz"
  refine w_mid (fun G => ∃ m : Int, 1 ≤ m ∧ m ≤ 60 ∧ G = [.im l, .im m, .un, .un, .un, .un, .un, .un, .un, .un, .un]) (w_if (b := decide (atF l.l 0 % 4 = 3)) (et_test (ev_eqI (ev_mod (ev_callN (s := .im (atF l.l 0)) (ea_cons (ev_var rfl) (ea_cons ev_int ea_nil)) ⟨_, _, rfl, by decide, rfl⟩) ev_int (by decide)) ev_int)) (fun _ => w_asg (s := .im (1 + atF l.l 0 / 4 % 60)) (ev_add ev_int (ev_mod (ev_div (ev_callN (s := .im (atF l.l 0)) (ea_cons (ev_var rfl) (ea_cons ev_int ea_nil)) ⟨_, _, rfl, by decide, rfl⟩) ev_int (by decide) (by decide)) ev_int (by decide))) ⟨1 + atF l.l 0 / 4 % 60, by omega, by omega, rfl⟩) (fun _ => w_next ⟨1 + atF l.l 0 / 4 % 12, by omega, by omega, rfl⟩)) ?_
  rintro G ⟨m0, m1, m2, rfl⟩
  refine w_seq (w_asg (ev_mkWheel (c := ⟨Z, X, fun r _ => er r⟩) hZ m1 m2 (ea_cons (ev_var rfl) ea_nil)) ?_)
  walk_at "nz"
  refine w_seq (w_asg (s := .ol (List.replicate m0.toNat (0 : Int))) (ev_zeros (ev_var rfl) (by omega) (by omega)) ?_)
  refine w_fr 3 rfl ?_
  walk_at "nz"
  refine w_seq (w_asg (s := .ol (lowF m0 [])) (ev_methN (ev_var rfl) (whl_m (by decide +kernel)) (ea_cons (ev_frI (ev_nil (δ := Int))) ea_nil) ⟨_, _, rfl, m0, 0, m1, m2, rfl, by decide, by decide, fun x hx => by simp at hx, rfl⟩) ?_)
  refine w_fr 4 rfl ?_
  walk_at "nz"
  refine w_seq (w_asg (s := .ol ([] : List (List Int × List Int))) (ev_nil (δ := List Int × List Int)) ?_)
  walk_at "nz"
  have w0 : Wst m0 200 (lowF m0 []) (List.replicate m0.toNat 0) := ⟨m1, m2, lowF_deg m1 m2 _, by rw [List.length_replicate]; omega, same_of (lowF_same m1 m2 []) (fun _ => rfl) (fun j => by rw [cyc_zeros]; rfl), by omega, (lowF_bd (x := 0) (k := 0) m1 m2 (fun x hx => by simp at hx) (by decide)).mono (by omega)⟩
  refine w_seq (w_forL (xs := [0] ++ (l.l.take (63 : Int).toNat).drop (1 : Int).toNat) (fun i G => ∃ m f cs hs s6, G = [.im l, .im m0, .im (whl m), .im cs, .im f, .ol hs, s6, .un, .un, .un, .un] ∧ Wst m (200 + 150 * i) f cs ∧ hs.length = i ∧ ∀ p ∈ hs, p.1 = p.2) (ev_frI (ev_cat (ev_frI (ev_lstH (evh_cons ev_int evh_nil) (by decide))) (ev_frI (ev_cutS (l := l) (ev_var rfl) ev_int ev_int (by decide) (by decide))) (by simp; omega))) ⟨m0, _, _, [], _, rfl, w0, rfl, fun p hp => by simp at hp⟩ ?_ ?_)
  · rintro i G hi ⟨m, f, cs, hs, s6, rfl, hw, hn, hp⟩
    have hi2 : i < 64 := by
      simp at hi
      omega
    generalize ([0] ++ (l.l.take (63 : Int).toNat).drop (1 : Int).toNat)[i] = x
    walk_at "nz"
    refine w_seq (w_asgT3S (α := Whl) (β := List Int) (γ := List Int) (S := fun s => ∃ (m' : Int) (f' cs' : List Int), s = .im (⟨whl m', f', cs'⟩ : Tri Whl (List Int) (List Int)) ∧ Wst m' (200 + 150 * i + 150) f' cs') (es_call (ea_cons (ev_var rfl) (ea_cons (ev_var rfl) (ea_cons (ev_var rfl) (ea_cons (ev_var rfl) ea_nil)))) ⟨_, _, _, _, rfl, m, 200 + 150 * i, hw, by omega, rfl, fun m' f' cs' q => ⟨m', f', cs', rfl, q⟩⟩) ?_)
    rintro _ ⟨m', f', cs', rfl, q⟩
    refine ⟨_, rfl, ?_⟩
    walk_at "nz"
    have q1 := q.m1
    have q2 := q.m2
    have q3 := q.cl
    refine w_seq (w_if (b := false) (et_to (et_not (et_B (ev_callN (s := .im true) (ea_cons (ev_var rfl) (ea_cons (ev_var rfl) (ea_cons (ev_to (ev_len (ev_var rfl)) q.cl) ea_nil))) ⟨_, _, _, rfl, q1, q2, by omega, q.fl, q.sm, rfl⟩))) rfl) (fun z => nomatch z) (fun _ => w_next ?_))
    refine w_app (xs := hs) (y := (f', f')) rfl (ev_tup (ev_var rfl) (ev_frI (ev_list (ev_var rfl)))) (by omega) ⟨m', f', cs', hs ++ [(f', f')], .im x, ?_, q.up (by omega), by simp [hn], fun p hx => ?_⟩
    · walk_at "nz"
    · rcases List.mem_append.mp hx with z | z
      · exact hp p z
      · have : p = (f', f') := by simpa using z
        rw [this]
  · rintro G ⟨m, f, cs, hs, s6, rfl, hw, hn, hp⟩
    have dg := deg_le hw.m1 hw.m2
    have fl := hw.fl
    have hn2 : hs.length < 1000 := by
      rw [hn]
      simp
      omega
    refine w_seq (w_asg (s := .im (wholeF f)) (ev_methN (ev_var rfl) (whl_m (by decide +kernel)) (ea_cons (ev_var rfl) ea_nil) ⟨_, _, rfl, by omega, by omega, rfl⟩) ?_)
    refine w_fr 5 rfl ?_
    walk_at "nz"
    refine w_seq (w_if (b := false) (et_to (et_not (et_B (ev_to (ev_all (bs := hs.map fun p => decide (p.1 = p.2)) rfl (ev_fr ?hh)) (d' := true) ?_))) rfl) (fun z => nomatch z) (fun _ => w_next ?_))
    case hh => exact ev_mapP (xs := hs) (fun p => decide (p.1 = p.2)) (ev_var rfl) (by omega) (by simp) ⟨.inl rfl, .inl rfl, trivial⟩ fun x _ => ev_eqL (ev_var rfl) (ev_var rfl)
    · rw [List.all_map, List.all_eq_true]
      intro p hx
      simpa using hp p hx
    have e : (f.drop 1).all (fun n => decide (n = 0)) = !(f.drop 1).any (fun n => !decide (n = 0)) := by
      rw [List.not_any_eq_all_not]
      congr 1
      funext n
      simp
    refine w_seq (w_if (b := (f.drop 1).all (fun n => decide (n = 0))) (et_B (ev_to (ev_all (bs := (f.drop 1).map fun n => decide (n = 0)) rfl (ev_fr ?hh)) ?_)) (fun hb => ?_) (fun hb => w_next ?_))
    case hh =>
      exact ev_mapL (xs := f.drop 1) (fun n => decide (n = 0)) (ev_frI (ev_cutFrom (xs := f) (ev_var rfl) ev_int (by decide))) (by rw [List.length_drop]; omega) (by simp) ⟨.inl rfl, trivial⟩ fun x _ => ev_eqI (ev_var rfl) ev_int
    · rw [List.all_map]; rfl
    · have ho : wholeF f = some (gt f 0) := by
        unfold wholeF
        rw [e] at hb
        rw [if_neg (by simpa using hb)]
      rw [ho]
      exact w_ret (ev_to (ev_andV (ev_callN (s := .im true) (ea_cons (ev_unopt (d := gt f 0) (ev_var rfl)) ea_nil) ⟨_, rfl, rfl⟩) fun _ => ev_eqI (i := gt f 0) (ev_unopt (ev_var rfl)) (ev_ix (ev_var rfl) ev_int (by decide) (by omega))) (by simp)) k
    · have ho : wholeF f = none := by
        unfold wholeF
        rw [e] at hb
        rw [if_pos (by simpa using hb)]
      rw [ho]
      exact w_ret (ev_isNone (o := none) (ev_var rfl)) k
end TB
namespace TB
open PySem L2
def topS (i : Nat) : Stmt := PySem.Challenge.pw_tracebook_k26_whole_a_walk_of_numbers.main.body.getD i (.Pass ⟨0, 0, 0, 0⟩)
abbrev s_shared : Stmt := (topS 5)
abbrev s_split : Stmt := (topS 8)
abbrev s_stretched : Stmt := (topS 9)
abbrev s_circle : Stmt := (topS 10)
abbrev s_Wheel_init : Stmt := (inClass (topS 11) 0)
abbrev s_Wheel_lowest : Stmt := (inClass (topS 11) 1)
abbrev s_Wheel_plus : Stmt := (inClass (topS 11) 3)
abbrev s_Wheel_times : Stmt := (inClass (topS 11) 4)
abbrev s_Wheel_turned : Stmt := (inClass (topS 11) 5)
abbrev s_Wheel_exchanged : Stmt := (inClass (topS 11) 6)
abbrev s_Wheel_backed : Stmt := (inClass (topS 11) 7)
abbrev s_Wheel_moved : Stmt := (inClass (topS 11) 8)
abbrev s_Wheel_wider : Stmt := (inClass (topS 11) 9)
abbrev s_Wheel_whole : Stmt := (inClass (topS 11) 10)
abbrev s_l_whole : Stmt := (topS 13)
abbrev s_l_at : Stmt := (topS 14)
abbrev s_l_primes : Stmt := (topS 15)
abbrev s_l_nought : Stmt := (topS 16)
abbrev s_l_degree : Stmt := (topS 17)
abbrev s_l_is : Stmt := (topS 18)
abbrev s_l_entries : Stmt := (topS 19)
abbrev s_l_put : Stmt := (topS 20)
abbrev s_l_tried : Stmt := (topS 21)
abbrev s_l_moved : Stmt := (topS 22)
abbrev s_l_wider : Stmt := (topS 23)
abbrev s_l_deed : Stmt := (topS 24)
abbrev s_law : Stmt := (topS 25)
theorem ar_shared : ∀ ss ok er, T_shared ss ok er → ss.length = 2 := by intro ss ok er h; obtain ⟨_, _, rfl, _⟩ := h; rfl
theorem ar_split : ∀ ss ok er, T_split ss ok er → ss.length = 2 := by intro ss ok er h; obtain ⟨_, _, rfl, _⟩ := h; rfl
theorem ar_stretched : ∀ ss ok er, T_stretched ss ok er → ss.length = 2 := by intro ss ok er h; obtain ⟨_, _, rfl, _⟩ := h; rfl
theorem ar_circle : ∀ ss ok er, T_circle ss ok er → ss.length = 1 := by intro ss ok er h; obtain ⟨_, rfl, _⟩ := h; rfl
theorem ar_Wheel_lowest : ∀ ss ok er, T_Wheel_lowest ss ok er → ss.length = 2 := by intro ss ok er h; obtain ⟨_, _, rfl, _⟩ := h; rfl
theorem ar_Wheel_plus : ∀ ss ok er, T_Wheel_plus ss ok er → ss.length = 3 := by intro ss ok er h; obtain ⟨_, _, _, rfl, _⟩ := h; rfl
theorem ar_Wheel_times : ∀ ss ok er, T_Wheel_times ss ok er → ss.length = 3 := by intro ss ok er h; obtain ⟨_, _, _, rfl, _⟩ := h; rfl
theorem ar_Wheel_turned : ∀ ss ok er, T_Wheel_turned ss ok er → ss.length = 3 := by intro ss ok er h; obtain ⟨_, _, _, rfl, _⟩ := h; rfl
theorem ar_Wheel_exchanged : ∀ ss ok er, T_Wheel_exchanged ss ok er → ss.length = 3 := by intro ss ok er h; obtain ⟨_, _, _, rfl, _⟩ := h; rfl
theorem ar_Wheel_backed : ∀ ss ok er, T_Wheel_backed ss ok er → ss.length = 2 := by intro ss ok er h; obtain ⟨_, _, rfl, _⟩ := h; rfl
theorem ar_Wheel_moved : ∀ ss ok er, T_Wheel_moved ss ok er → ss.length = 3 := by intro ss ok er h; obtain ⟨_, _, _, rfl, _⟩ := h; rfl
theorem ar_Wheel_wider : ∀ ss ok er, T_Wheel_wider ss ok er → ss.length = 3 := by intro ss ok er h; obtain ⟨_, _, _, rfl, _⟩ := h; rfl
theorem ar_Wheel_whole : ∀ ss ok er, T_Wheel_whole ss ok er → ss.length = 2 := by intro ss ok er h; obtain ⟨_, _, rfl, _⟩ := h; rfl
theorem ar_l_whole : ∀ ss ok er, T_l_whole ss ok er → ss.length = 1 := by intro ss ok er h; obtain ⟨_, rfl, _⟩ := h; rfl
theorem ar_l_at : ∀ ss ok er, T_l_at ss ok er → ss.length = 2 := by intro ss ok er h; obtain ⟨_, _, rfl, _⟩ := h; rfl
theorem ar_l_primes : ∀ ss ok er, T_l_primes ss ok er → ss.length = 1 := by intro ss ok er h; obtain ⟨_, rfl, _⟩ := h; rfl
theorem ar_l_nought : ∀ ss ok er, T_l_nought ss ok er → ss.length = 2 := by intro ss ok er h; obtain ⟨_, _, rfl, _⟩ := h; rfl
theorem ar_l_degree : ∀ ss ok er, T_l_degree ss ok er → ss.length = 1 := by intro ss ok er h; obtain ⟨_, rfl, _⟩ := h; rfl
theorem ar_l_is : ∀ ss ok er, T_l_is ss ok er → ss.length = 3 := by intro ss ok er h; obtain ⟨_, _, _, rfl, _⟩ := h; rfl
theorem ar_l_entries : ∀ ss ok er, T_l_entries ss ok er → ss.length = 2 := by intro ss ok er h; obtain ⟨_, _, rfl, _⟩ := h; rfl
theorem ar_l_put : ∀ ss ok er, T_l_put ss ok er → ss.length = 4 := by intro ss ok er h; obtain ⟨_, _, _, _, rfl, _⟩ := h; rfl
theorem ar_l_tried : ∀ ss ok er, T_l_tried ss ok er → ss.length = 4 := by intro ss ok er h; obtain ⟨_, _, _, _, rfl, _⟩ := h; rfl
theorem ar_l_moved : ∀ ss ok er, T_l_moved ss ok er → ss.length = 4 := by intro ss ok er h; obtain ⟨_, _, _, _, rfl, _⟩ := h; rfl
theorem ar_l_wider : ∀ ss ok er, T_l_wider ss ok er → ss.length = 4 := by intro ss ok er h; obtain ⟨_, _, _, _, rfl, _⟩ := h; rfl
theorem ar_l_deed : ∀ ss ok er, T_l_deed ss ok er → ss.length = 4 := by intro ss ok er h; obtain ⟨_, _, _, _, rfl, _⟩ := h; rfl
theorem ar_law : ∀ ss ok er, T_law ss ok er → ss.length = 1 := by intro ss ok er h; obtain ⟨_, rfl, _⟩ := h; rfl
structure Tx (K : PySem.W.Frag) (mg : Str → Option Value) (cls : CN → Addr) (a_shared a_split a_stretched a_circle a_Wheel_init a_Wheel_lowest a_Wheel_plus a_Wheel_times a_Wheel_turned a_Wheel_exchanged a_Wheel_backed a_Wheel_moved a_Wheel_wider a_Wheel_whole a_l_whole a_l_at a_l_primes a_l_nought a_l_degree a_l_is a_l_entries a_l_put a_l_tried a_l_moved a_l_wider a_l_deed a_law : Addr) (fd_shared fd_split fd_stretched fd_circle fd_Wheel_init fd_Wheel_lowest fd_Wheel_plus fd_Wheel_times fd_Wheel_turned fd_Wheel_exchanged fd_Wheel_backed fd_Wheel_moved fd_Wheel_wider fd_Wheel_whole fd_l_whole fd_l_at fd_l_primes fd_l_nought fd_l_degree fd_l_is fd_l_entries fd_l_put fd_l_tried fd_l_moved fd_l_wider fd_l_deed fd_law : FuncData) : Prop where
  F_shared : Fun K "shared" "shared" s_shared a_shared fd_shared
  b_shared : Binds K fd_shared ["one", "other"] []
  g_shared : mg "shared" = some (.ref a_shared)
  k_shared : PySem.W.keepIn K (.ref a_shared) = true
  F_split : Fun K "split" "split" s_split a_split fd_split
  b_split : Binds K fd_split ["top", "bottom"] []
  g_split : mg "split" = some (.ref a_split)
  k_split : PySem.W.keepIn K (.ref a_split) = true
  F_stretched : Fun K "stretched" "stretched" s_stretched a_stretched fd_stretched
  b_stretched : Binds K fd_stretched ["some", "many"] []
  g_stretched : mg "stretched" = some (.ref a_stretched)
  k_stretched : PySem.W.keepIn K (.ref a_stretched) = true
  F_circle : Fun K "circle" "circle" s_circle a_circle fd_circle
  b_circle : Binds K fd_circle ["many"] []
  g_circle : mg "circle" = some (.ref a_circle)
  k_circle : PySem.W.keepIn K (.ref a_circle) = true
  F_Wheel_init : Fun K "__init__" "Wheel.__init__" s_Wheel_init a_Wheel_init fd_Wheel_init
  b_Wheel_init : Binds K fd_Wheel_init ["self", "many"] []
  F_Wheel_lowest : Fun K "lowest" "Wheel.lowest" s_Wheel_lowest a_Wheel_lowest fd_Wheel_lowest
  b_Wheel_lowest : Binds K fd_Wheel_lowest ["self", "counts"] []
  F_Wheel_plus : Fun K "plus" "Wheel.plus" s_Wheel_plus a_Wheel_plus fd_Wheel_plus
  b_Wheel_plus : Binds K fd_Wheel_plus ["self", "one", "other"] []
  F_Wheel_times : Fun K "times" "Wheel.times" s_Wheel_times a_Wheel_times fd_Wheel_times
  b_Wheel_times : Binds K fd_Wheel_times ["self", "one", "other"] []
  F_Wheel_turned : Fun K "turned" "Wheel.turned" s_Wheel_turned a_Wheel_turned fd_Wheel_turned
  b_Wheel_turned : Binds K fd_Wheel_turned ["self", "one", "k"] []
  F_Wheel_exchanged : Fun K "exchanged" "Wheel.exchanged" s_Wheel_exchanged a_Wheel_exchanged fd_Wheel_exchanged
  b_Wheel_exchanged : Binds K fd_Wheel_exchanged ["self", "one", "j"] []
  F_Wheel_backed : Fun K "backed" "Wheel.backed" s_Wheel_backed a_Wheel_backed fd_Wheel_backed
  b_Wheel_backed : Binds K fd_Wheel_backed ["self", "one"] []
  F_Wheel_moved : Fun K "moved" "Wheel.moved" s_Wheel_moved a_Wheel_moved fd_Wheel_moved
  b_Wheel_moved : Binds K fd_Wheel_moved ["self", "one", "j"] []
  F_Wheel_wider : Fun K "wider" "Wheel.wider" s_Wheel_wider a_Wheel_wider fd_Wheel_wider
  b_Wheel_wider : Binds K fd_Wheel_wider ["self", "one", "many"] []
  F_Wheel_whole : Fun K "whole" "Wheel.whole" s_Wheel_whole a_Wheel_whole fd_Wheel_whole
  b_Wheel_whole : Binds K fd_Wheel_whole ["self", "one"] []
  F_l_whole : Fun K "_law_whole" "_law_whole" s_l_whole a_l_whole fd_l_whole
  b_l_whole : Binds K fd_l_whole ["_law_found"] []
  g_l_whole : mg "_law_whole" = some (.ref a_l_whole)
  k_l_whole : PySem.W.keepIn K (.ref a_l_whole) = true
  F_l_at : Fun K "_law_at" "_law_at" s_l_at a_l_at fd_l_at
  b_l_at : Binds K fd_l_at ["_law_script", "_law_k"] []
  g_l_at : mg "_law_at" = some (.ref a_l_at)
  k_l_at : PySem.W.keepIn K (.ref a_l_at) = true
  F_l_primes : Fun K "_law_primes" "_law_primes" s_l_primes a_l_primes fd_l_primes
  b_l_primes : Binds K fd_l_primes ["_law_many"] []
  g_l_primes : mg "_law_primes" = some (.ref a_l_primes)
  k_l_primes : PySem.W.keepIn K (.ref a_l_primes) = true
  F_l_nought : Fun K "_law_nought" "_law_nought" s_l_nought a_l_nought fd_l_nought
  b_l_nought : Binds K fd_l_nought ["_law_counts", "_law_many"] []
  g_l_nought : mg "_law_nought" = some (.ref a_l_nought)
  k_l_nought : PySem.W.keepIn K (.ref a_l_nought) = true
  F_l_degree : Fun K "_law_degree" "_law_degree" s_l_degree a_l_degree fd_l_degree
  b_l_degree : Binds K fd_l_degree ["_law_many"] []
  g_l_degree : mg "_law_degree" = some (.ref a_l_degree)
  k_l_degree : PySem.W.keepIn K (.ref a_l_degree) = true
  F_l_is : Fun K "_law_is" "_law_is" s_l_is a_l_is fd_l_is
  b_l_is : Binds K fd_l_is ["_law_found", "_law_counts", "_law_many"] []
  g_l_is : mg "_law_is" = some (.ref a_l_is)
  k_l_is : PySem.W.keepIn K (.ref a_l_is) = true
  F_l_entries : Fun K "_law_entries" "_law_entries" s_l_entries a_l_entries fd_l_entries
  b_l_entries : Binds K fd_l_entries ["_law_number", "_law_size"] []
  g_l_entries : mg "_law_entries" = some (.ref a_l_entries)
  k_l_entries : PySem.W.keepIn K (.ref a_l_entries) = true
  F_l_put : Fun K "_law_put" "_law_put" s_l_put a_l_put fd_l_put
  b_l_put : Binds K fd_l_put ["_law_counts", "_law_step", "_law_turn", "_law_many"] []
  g_l_put : mg "_law_put" = some (.ref a_l_put)
  k_l_put : PySem.W.keepIn K (.ref a_l_put) = true
  F_l_tried : Fun K "_law_tried" "_law_tried" s_l_tried a_l_tried fd_l_tried
  b_l_tried : Binds K fd_l_tried ["_law_wheel", "_law_one", "_law_by", "_law_way"] []
  g_l_tried : mg "_law_tried" = some (.ref a_l_tried)
  k_l_tried : PySem.W.keepIn K (.ref a_l_tried) = true
  F_l_moved : Fun K "_law_moved" "_law_moved" s_l_moved a_l_moved fd_l_moved
  b_l_moved : Binds K fd_l_moved ["_law_wheel", "_law_found", "_law_counts", "_law_j"] []
  g_l_moved : mg "_law_moved" = some (.ref a_l_moved)
  k_l_moved : PySem.W.keepIn K (.ref a_l_moved) = true
  F_l_wider : Fun K "_law_wider" "_law_wider" s_l_wider a_l_wider fd_l_wider
  b_l_wider : Binds K fd_l_wider ["_law_wheel", "_law_found", "_law_counts", "_law_by"] []
  g_l_wider : mg "_law_wider" = some (.ref a_l_wider)
  k_l_wider : PySem.W.keepIn K (.ref a_l_wider) = true
  F_l_deed : Fun K "_law_deed" "_law_deed" s_l_deed a_l_deed fd_l_deed
  b_l_deed : Binds K fd_l_deed ["_law_wheel", "_law_found", "_law_counts", "_law_cell"] []
  g_l_deed : mg "_law_deed" = some (.ref a_l_deed)
  k_l_deed : PySem.W.keepIn K (.ref a_l_deed) = true
  F_law : Fun K "law" "law" s_law a_law fd_law
  b_law : Binds K fd_law ["_law_script"] []
  g_law : mg "law" = some (.ref a_law)
  k_law : PySem.W.keepIn K (.ref a_law) = true
  b_all : mg "all" = none
  b_any : mg "any" = none
  b_bool : mg "bool" = none
  b_enumerate : mg "enumerate" = none
  b_int : mg "int" = none
  b_isinstance : mg "isinstance" = none
  b_len : mg "len" = none
  b_list : mg "list" = none
  b_range : mg "range" = none
  b_zip : mg "zip" = none
  g_WIDEST : ∃ t, mg "WIDEST" = some (.int 60 t)
  g_BookError : mg "BookError" = some (.ref (cls .BookError))
  g_BadWheel : mg "BadWheel" = some (.ref (cls .BadWheel))
  g_NoMove : mg "NoMove" = some (.ref (cls .NoMove))
  g_Wheel : mg "Wheel" = some (.ref (cls .Wheel))
  M_Wheel : Mk K (cls .Wheel) a_Wheel_init
  whlC : WhlC ⟨K, cls⟩
  C_Wheel : Cls K (cls .Wheel)
  m_Wheel_lowest : Meth K (cls .Wheel) "lowest" a_Wheel_lowest
  m_Wheel_plus : Meth K (cls .Wheel) "plus" a_Wheel_plus
  m_Wheel_times : Meth K (cls .Wheel) "times" a_Wheel_times
  m_Wheel_turned : Meth K (cls .Wheel) "turned" a_Wheel_turned
  m_Wheel_exchanged : Meth K (cls .Wheel) "exchanged" a_Wheel_exchanged
  m_Wheel_backed : Meth K (cls .Wheel) "backed" a_Wheel_backed
  m_Wheel_moved : Meth K (cls .Wheel) "moved" a_Wheel_moved
  m_Wheel_wider : Meth K (cls .Wheel) "wider" a_Wheel_wider
  m_Wheel_whole : Meth K (cls .Wheel) "whole" a_Wheel_whole
  exs : Exs ⟨K, cls⟩ [.BookError, .BadWheel, .NoMove]
  x_BadWheel : PySem.W.excIn K (cls .BadWheel) [.type "ValueError", .type "Exception", .type "BaseException", .type "object"] "ValueError.__new__" = true
  k_BadWheel : PySem.W.keepIn K (.ref (cls .BadWheel)) = true
  r_BadWheel : PySem.W.subIn K (.ref (cls .BadWheel)) (.type "BaseException") = some true
  rt_BadWheel : PySem.W.typeIn K (.ref (cls .BadWheel)) = some (.type "type")
  x_NoMove : PySem.W.excIn K (cls .NoMove) [.type "ValueError", .type "Exception", .type "BaseException", .type "object"] "ValueError.__new__" = true
  k_NoMove : PySem.W.keepIn K (.ref (cls .NoMove)) = true
  r_NoMove : PySem.W.subIn K (.ref (cls .NoMove)) (.type "BaseException") = some true
  rt_NoMove : PySem.W.typeIn K (.ref (cls .NoMove)) = some (.type "type")
section
variable {P : Program} {w : World} {K : PySem.W.Frag} {mg : Str → Option Value} {base : Heap} {cls : CN → Addr}
  {a_shared a_split a_stretched a_circle a_Wheel_init a_Wheel_lowest a_Wheel_plus a_Wheel_times a_Wheel_turned a_Wheel_exchanged a_Wheel_backed a_Wheel_moved a_Wheel_wider a_Wheel_whole a_l_whole a_l_at a_l_primes a_l_nought a_l_degree a_l_is a_l_entries a_l_put a_l_tried a_l_moved a_l_wider a_l_deed a_law : Addr} {fd_shared fd_split fd_stretched fd_circle fd_Wheel_init fd_Wheel_lowest fd_Wheel_plus fd_Wheel_times fd_Wheel_turned fd_Wheel_exchanged fd_Wheel_backed fd_Wheel_moved fd_Wheel_wider fd_Wheel_whole fd_l_whole fd_l_at fd_l_primes fd_l_nought fd_l_degree fd_l_is fd_l_entries fd_l_put fd_l_tried fd_l_moved fd_l_wider fd_l_deed fd_law : FuncData}
theorem sc_shared : FnScope ["one", "other"] ["one", "other"] (defScope s_shared) := ⟨rfl, rfl, rfl, by decide +kernel, rfl, by decide +kernel, by decide +kernel⟩
theorem sc_split : FnScope ["top", "bottom", "rest", "many", "found", "share", "k"] ["top", "bottom"] (defScope s_split) := ⟨rfl, rfl, rfl, by decide +kernel, rfl, by decide +kernel, by decide +kernel⟩
theorem sc_stretched : FnScope ["some", "many", "found", "k", "number"] ["some", "many"] (defScope s_stretched) := ⟨rfl, rfl, rfl, by decide +kernel, rfl, by decide +kernel, by decide +kernel⟩
theorem sc_circle : FnScope ["many", "found", "rest", "prime"] ["many"] (defScope s_circle) := ⟨rfl, rfl, rfl, by decide +kernel, rfl, by decide +kernel, by decide +kernel⟩
theorem sc_Wheel_init : FnScope ["self", "many"] ["self", "many"] (defScope s_Wheel_init) := ⟨rfl, rfl, rfl, by decide +kernel, rfl, by decide +kernel, by decide +kernel⟩
theorem sc_Wheel_lowest : FnScope ["self", "counts", "sums", "k", "number"] ["self", "counts"] (defScope s_Wheel_lowest) := ⟨rfl, rfl, rfl, by decide +kernel, rfl, by decide +kernel, by decide +kernel⟩
theorem sc_Wheel_plus : FnScope ["self", "one", "other", "left", "right"] ["self", "one", "other"] (defScope s_Wheel_plus) := ⟨rfl, rfl, rfl, by decide +kernel, rfl, by decide +kernel, by decide +kernel⟩
theorem sc_Wheel_times : FnScope ["self", "one", "other", "sums", "j", "left", "k", "right"] ["self", "one", "other"] (defScope s_Wheel_times) := ⟨rfl, rfl, rfl, by decide +kernel, rfl, by decide +kernel, by decide +kernel⟩
theorem sc_Wheel_turned : FnScope ["self", "one", "k", "sums", "j", "number"] ["self", "one", "k"] (defScope s_Wheel_turned) := ⟨rfl, rfl, rfl, by decide +kernel, rfl, by decide +kernel, by decide +kernel⟩
theorem sc_Wheel_exchanged : FnScope ["self", "one", "j", "sums", "k", "number"] ["self", "one", "j"] (defScope s_Wheel_exchanged) := ⟨rfl, rfl, rfl, by decide +kernel, rfl, by decide +kernel, by decide +kernel⟩
theorem sc_Wheel_backed : FnScope ["self", "one"] ["self", "one"] (defScope s_Wheel_backed) := ⟨rfl, rfl, rfl, by decide +kernel, rfl, by decide +kernel, by decide +kernel⟩
theorem sc_Wheel_moved : FnScope ["self", "one", "j"] ["self", "one", "j"] (defScope s_Wheel_moved) := ⟨rfl, rfl, rfl, by decide +kernel, rfl, by decide +kernel, by decide +kernel⟩
theorem sc_Wheel_wider : FnScope ["self", "one", "many"] ["self", "one", "many"] (defScope s_Wheel_wider) := ⟨rfl, rfl, rfl, by decide +kernel, rfl, by decide +kernel, by decide +kernel⟩
theorem sc_Wheel_whole : FnScope ["self", "one", "number"] ["self", "one"] (defScope s_Wheel_whole) := ⟨rfl, rfl, rfl, by decide +kernel, rfl, by decide +kernel, by decide +kernel⟩
theorem sc_l_whole : FnScope ["_law_found"] ["_law_found"] (defScope s_l_whole) := ⟨rfl, rfl, rfl, by decide +kernel, rfl, by decide +kernel, by decide +kernel⟩
theorem sc_l_at : FnScope ["_law_script", "_law_k"] ["_law_script", "_law_k"] (defScope s_l_at) := ⟨rfl, rfl, rfl, by decide +kernel, rfl, by decide +kernel, by decide +kernel⟩
theorem sc_l_primes : FnScope ["_law_many", "_law_found", "_law_rest", "_law_p"] ["_law_many"] (defScope s_l_primes) := ⟨rfl, rfl, rfl, by decide +kernel, rfl, by decide +kernel, by decide +kernel⟩
theorem sc_l_nought : FnScope ["_law_counts", "_law_many", "_law_sums", "_law_k", "_law_p", "_law_number"] ["_law_counts", "_law_many"] (defScope s_l_nought) := ⟨rfl, rfl, rfl, by decide +kernel, rfl, by decide +kernel, by decide +kernel⟩
theorem sc_l_degree : FnScope ["_law_many", "_law_some", "_law_k", "_law_p"] ["_law_many"] (defScope s_l_degree) := ⟨rfl, rfl, rfl, by decide +kernel, rfl, by decide +kernel, by decide +kernel⟩
theorem sc_l_is : FnScope ["_law_found", "_law_counts", "_law_many", "_law_rest", "_law_k"] ["_law_found", "_law_counts", "_law_many"] (defScope s_l_is) := ⟨rfl, rfl, rfl, by decide +kernel, rfl, by decide +kernel, by decide +kernel⟩
theorem sc_l_entries : FnScope ["_law_number", "_law_size", "_law_found", "_law_k", "_law_entry"] ["_law_number", "_law_size"] (defScope s_l_entries) := ⟨rfl, rfl, rfl, by decide +kernel, rfl, by decide +kernel, by decide +kernel⟩
theorem sc_l_put : FnScope ["_law_counts", "_law_step", "_law_turn", "_law_many", "_law_sums", "_law_k", "_law_at_here"] ["_law_counts", "_law_step", "_law_turn", "_law_many"] (defScope s_l_put) := ⟨rfl, rfl, rfl, by decide +kernel, rfl, by decide +kernel, by decide +kernel⟩
theorem sc_l_tried : FnScope ["_law_wheel", "_law_one", "_law_by", "_law_way", "_law_found", "_law_caught", "e"] ["_law_wheel", "_law_one", "_law_by", "_law_way"] (defScope s_l_tried) := ⟨rfl, rfl, rfl, by decide +kernel, rfl, by decide +kernel, by decide +kernel⟩
theorem sc_l_moved : FnScope ["_law_wheel", "_law_found", "_law_counts", "_law_j", "_law_many", "_law_told", "_law_caught", "_law_p"] ["_law_wheel", "_law_found", "_law_counts", "_law_j"] (defScope s_l_moved) := ⟨rfl, rfl, rfl, by decide +kernel, rfl, by decide +kernel, by decide +kernel⟩
theorem sc_l_wider : FnScope ["_law_wheel", "_law_found", "_law_counts", "_law_by", "_law_many", "_law_told", "_law_caught"] ["_law_wheel", "_law_found", "_law_counts", "_law_by"] (defScope s_l_wider) := ⟨rfl, rfl, rfl, by decide +kernel, rfl, by decide +kernel, by decide +kernel⟩
theorem sc_l_deed : FnScope ["_law_wheel", "_law_found", "_law_counts", "_law_cell", "_law_many", "_law_number", "_law_turn", "_law_some", "_law_at_here", "_law_sums", "_law_k", "_law_far"] ["_law_wheel", "_law_found", "_law_counts", "_law_cell"] (defScope s_l_deed) := ⟨rfl, rfl, rfl, by decide +kernel, rfl, by decide +kernel, by decide +kernel⟩
theorem sc_law : FnScope ["_law_script", "_law_many", "_law_wheel", "_law_counts", "_law_found", "_law_held", "_law_cell", "_law_told", "_law_one", "_law_other", "_law_number"] ["_law_script"] (defScope s_law) := ⟨rfl, rfl, rfl, by decide +kernel, rfl, by decide +kernel, by decide +kernel⟩
theorem ok_shared (T : Tx K mg cls a_shared a_split a_stretched a_circle a_Wheel_init a_Wheel_lowest a_Wheel_plus a_Wheel_times a_Wheel_turned a_Wheel_exchanged a_Wheel_backed a_Wheel_moved a_Wheel_wider a_Wheel_whole a_l_whole a_l_at a_l_primes a_l_nought a_l_degree a_l_is a_l_entries a_l_put a_l_tried a_l_moved a_l_wider a_l_deed a_law fd_shared fd_split fd_stretched fd_circle fd_Wheel_init fd_Wheel_lowest fd_Wheel_plus fd_Wheel_times fd_Wheel_turned fd_Wheel_exchanged fd_Wheel_backed fd_Wheel_moved fd_Wheel_wider fd_Wheel_whole fd_l_whole fd_l_at fd_l_primes fd_l_nought fd_l_degree fd_l_is fd_l_entries fd_l_put fd_l_tried fd_l_moved fd_l_wider fd_l_deed fd_law) : FnOk P w K mg base (L2.CX P w) 1 a_shared fd_shared ["one", "other"] (spOf ⟨K, cls⟩ T_shared) := by
  refine T.F_shared.okX sc_shared (spOf_len (n := 2) (ar_shared)) (fun cdv A outer s H vs Q E hr h => ⟨t_shared ⟨K, cls⟩ (fun c d _ H => E c d H), ?_, spOf_run (N := ["one", "other"]) (t := fun E => t_shared ⟨K, cls⟩ (fun c d _ H => E c d H)) (fun ss ok er hT => by rw [ar_shared ss ok er hT]; decide) (fun E ss ok er hT => w_shared ⟨K, cls⟩ _ ss ok er hT) vs H Q E h⟩)
  unfold t_shared
  exact (pss_cons (ps_while (passes_of rfl) (pt_cmpR go_gt (pv 1) pe_int (nomark _))
  (pss_one (ps_par (i := 0) (j := 1) (by rfl) sc_shared.nd (by rfl) (by rfl) (by decide) (by rfl) (by rfl) (pa_cons (pv 1) (pa_cons (pe_op go_mod (pv 0) (pv 1)) pa_nil)) (by rfl))))
  (pss_one (ps_ret (pv 0))))
theorem ok_split (T : Tx K mg cls a_shared a_split a_stretched a_circle a_Wheel_init a_Wheel_lowest a_Wheel_plus a_Wheel_times a_Wheel_turned a_Wheel_exchanged a_Wheel_backed a_Wheel_moved a_Wheel_wider a_Wheel_whole a_l_whole a_l_at a_l_primes a_l_nought a_l_degree a_l_is a_l_entries a_l_put a_l_tried a_l_moved a_l_wider a_l_deed a_law fd_shared fd_split fd_stretched fd_circle fd_Wheel_init fd_Wheel_lowest fd_Wheel_plus fd_Wheel_times fd_Wheel_turned fd_Wheel_exchanged fd_Wheel_backed fd_Wheel_moved fd_Wheel_wider fd_Wheel_whole fd_l_whole fd_l_at fd_l_primes fd_l_nought fd_l_degree fd_l_is fd_l_entries fd_l_put fd_l_tried fd_l_moved fd_l_wider fd_l_deed fd_law) : FnOk P w K mg base (L2.CX P w) 1 a_split fd_split ["top", "bottom"] (spOf ⟨K, cls⟩ T_split) := by
  refine T.F_split.okX sc_split (spOf_len (n := 2) (ar_split)) (fun cdv A outer s H vs Q E hr h => ⟨t_split ⟨K, cls⟩ (fun c d _ H => E c d H), ?_, spOf_run (N := ["top", "bottom", "rest", "many", "found", "share", "k"]) (t := fun E => t_split ⟨K, cls⟩ (fun c d _ H => E c d H)) (fun ss ok er hT => by rw [ar_split ss ok er hT]; decide) (fun E ss ok er hT => w_split ⟨K, cls⟩ _ ss ok er hT) vs H Q E h⟩)
  unfold t_split
  exact (pss_cons (ps_set (i := 2) sc_split.nd (by rfl) (Or.inl rfl) (pe_callTy gc_list (by rfl) T.b_list (by decide +kernel) (pa_cons (pv 0) pa_nil)))
  (pss_cons (ps_set (i := 3) sc_split.nd (by rfl) (Or.inl rfl) (pe_op go_sub (pe_callB gc_len (by rfl) T.b_len (by decide +kernel) (pa_cons (pv 1) pa_nil)) pe_int))
  (pss_cons (ps_set (i := 4) sc_split.nd (by rfl) (Or.inl rfl) (pe_lst pa_nil))
  (pss_cons (ps_while (passes_of rfl) (pt_cmpR go_gt (pe_callB gc_len (by rfl) T.b_len (by decide +kernel) (pa_cons (pv 2) pa_nil)) (pv 3) (nomark _))
  (pss_cons (ps_set (i := 5) sc_split.nd (by rfl) (Or.inl rfl) (pe_bm0 PySem.F.plainAttrs_list PySem.F.slot_list_pop PySem.F.type_list_pop mt_pop (pv 2)))
  (pss_cons (ps_expr (pe_bm PySem.F.plainAttrs_list PySem.F.slot_list_insert PySem.F.type_list_insert gm_insert (pv 4) (pa_cons pe_int (pa_cons (pv 5) pa_nil))))
  (pss_one (ps_for (passes_of rfl) (by rfl) (pi_range1 (by rfl) T.b_range (pa_cons (pv 3) pa_nil)) (pg_name (i := 6) sc_split.nd (by rfl) (Or.inl rfl))
  (pss_one (ps_augS (pv 2) (pe_op go_add (pe_op go_sub (pe_callB gc_len (by rfl) T.b_len (by decide +kernel) (pa_cons (pv 2) pa_nil)) (pv 3)) (pv 6)) pget_list (pe_op go_mul (pv 5) (pe_ix (go_ix (hu1 hr)) (pv 1) (pv 6) (fun _ _ => rfl))) ip_sub set_list)))))))
  (pss_one (ps_ret (pe_tup (pa_cons (pv 4) (pa_cons (pv 2) pa_nil)))))))))
theorem ok_stretched (T : Tx K mg cls a_shared a_split a_stretched a_circle a_Wheel_init a_Wheel_lowest a_Wheel_plus a_Wheel_times a_Wheel_turned a_Wheel_exchanged a_Wheel_backed a_Wheel_moved a_Wheel_wider a_Wheel_whole a_l_whole a_l_at a_l_primes a_l_nought a_l_degree a_l_is a_l_entries a_l_put a_l_tried a_l_moved a_l_wider a_l_deed a_law fd_shared fd_split fd_stretched fd_circle fd_Wheel_init fd_Wheel_lowest fd_Wheel_plus fd_Wheel_times fd_Wheel_turned fd_Wheel_exchanged fd_Wheel_backed fd_Wheel_moved fd_Wheel_wider fd_Wheel_whole fd_l_whole fd_l_at fd_l_primes fd_l_nought fd_l_degree fd_l_is fd_l_entries fd_l_put fd_l_tried fd_l_moved fd_l_wider fd_l_deed fd_law) : FnOk P w K mg base (L2.CX P w) 1 a_stretched fd_stretched ["some", "many"] (spOf ⟨K, cls⟩ T_stretched) := by
  refine T.F_stretched.okX sc_stretched (spOf_len (n := 2) (ar_stretched)) (fun cdv A outer s H vs Q E hr h => ⟨t_stretched ⟨K, cls⟩ (fun c d _ H => E c d H), ?_, spOf_run (N := ["some", "many", "found", "k", "number"]) (t := fun E => t_stretched ⟨K, cls⟩ (fun c d _ H => E c d H)) (fun ss ok er hT => by rw [ar_stretched ss ok er hT]; decide) (fun E ss ok er hT => w_stretched ⟨K, cls⟩ _ ss ok er hT) vs H Q E h⟩)
  unfold t_stretched
  exact (pss_cons (ps_set (i := 2) sc_stretched.nd (by rfl) (Or.inl rfl) (pe_op go_mul (pe_lst (pa_cons pe_int pa_nil)) (pe_op go_add (pe_op go_mul (pv 1) (pe_op go_sub (pe_callB gc_len (by rfl) T.b_len (by decide +kernel) (pa_cons (pv 0) pa_nil)) pe_int)) pe_int)))
  (pss_cons (ps_for (passes_of rfl) (by rfl) (pi_enum (by rfl) T.b_enumerate (pa_cons (pv 0) pa_nil)) (pg_tup (by rfl) (pgs_cons (pg_name (i := 3) sc_stretched.nd (by rfl) (Or.inl rfl)) (pgs_cons (pg_name (i := 4) sc_stretched.nd (by rfl) (Or.inl rfl)) pgs_nil)))
  (pss_one (ps_asg (pv 4) (pg_sub (pv 2) (pe_op go_mul (pv 1) (pv 3)) (gs_set (hu1 hr))))))
  (pss_one (ps_ret (pv 2)))))
theorem ok_circle (T : Tx K mg cls a_shared a_split a_stretched a_circle a_Wheel_init a_Wheel_lowest a_Wheel_plus a_Wheel_times a_Wheel_turned a_Wheel_exchanged a_Wheel_backed a_Wheel_moved a_Wheel_wider a_Wheel_whole a_l_whole a_l_at a_l_primes a_l_nought a_l_degree a_l_is a_l_entries a_l_put a_l_tried a_l_moved a_l_wider a_l_deed a_law fd_shared fd_split fd_stretched fd_circle fd_Wheel_init fd_Wheel_lowest fd_Wheel_plus fd_Wheel_times fd_Wheel_turned fd_Wheel_exchanged fd_Wheel_backed fd_Wheel_moved fd_Wheel_wider fd_Wheel_whole fd_l_whole fd_l_at fd_l_primes fd_l_nought fd_l_degree fd_l_is fd_l_entries fd_l_put fd_l_tried fd_l_moved fd_l_wider fd_l_deed fd_law) (G_split : FnOk P w K mg base (L2.CX P w) 1 a_split fd_split ["top", "bottom"] (spOf ⟨K, cls⟩ T_split)) (G_stretched : FnOk P w K mg base (L2.CX P w) 1 a_stretched fd_stretched ["some", "many"] (spOf ⟨K, cls⟩ T_stretched)) : FnOk P w K mg base (L2.CX P w) 2 a_circle fd_circle ["many"] (spOf ⟨K, cls⟩ T_circle) := by
  refine T.F_circle.okX sc_circle (spOf_len (n := 1) (ar_circle)) (fun cdv A outer s H vs Q E hr h => ⟨t_circle ⟨K, cls⟩ (fun c d _ H => E c d H), ?_, spOf_run (N := ["many", "found", "rest", "prime"]) (t := fun E => t_circle ⟨K, cls⟩ (fun c d _ H => E c d H)) (fun ss ok er hT => by rw [ar_circle ss ok er hT]; decide) (fun E ss ok er hT => w_circle ⟨K, cls⟩ _ ss ok er hT) vs H Q E h⟩)
  unfold t_circle
  exact (pss_cons (ps_if (PW.pt (pw_or (pt_cmpR go_lt (pv 0) pe_int (nomark _)) (pw_or1 (pt_cmpR go_gt (pv 0) (pe_glob (by rfl) T.g_WIDEST.choose_spec ⟨_, rfl⟩) (nomark _)))))
  (pss_one (ps_raise (by rfl) (takes_of rfl rfl rfl rfl) (pmk_own PySem.F.excBase_ValueError T.x_BadWheel T.g_BadWheel T.k_BadWheel (raises_own T.r_BadWheel T.rt_BadWheel) (by rfl))))
  pss_nil)
  (pss_cons (ps_set (i := 1) sc_circle.nd (by rfl) (Or.inl rfl) (pe_lst (pa_cons (pe_un go_neg pe_int) (pa_cons pe_int pa_nil))))
  (pss_cons (ps_set (i := 2) sc_circle.nd (by rfl) (Or.inl rfl) (pv 0))
  (pss_cons (ps_for (passes_of rfl) (by rfl) (pi_range2 (by rfl) T.b_range (pa_cons pe_int (pa_cons (pe_op go_add (pv 0) pe_int) pa_nil))) (pg_name (i := 3) sc_circle.nd (by rfl) (Or.inl rfl))
  (pss_cons (ps_if (pt_cmpR (go_eq (hu64 hr)) (pe_op go_mod (pv 2) (pv 3)) pe_int (nomark _))
  (pss_cons (ps_set (i := 1) sc_circle.nd (by rfl) (Or.inl rfl) (pe_ix (go_ix (hu1 hr)) (pe_callSD G_split (hr.mono (by decide)) (by rfl) T.g_split T.k_split T.b_split .nil (fun σ => passAt (takes_of rfl rfl rfl rfl) σ) (pa_cons (pe_callSD G_stretched (hr.mono (by decide)) (by rfl) T.g_stretched T.k_stretched T.b_stretched .nil (fun σ => passAt (takes_of rfl rfl rfl rfl) σ) (pa_cons (pv 1) (pa_cons (pv 3) pa_nil))) (pa_cons (pv 1) pa_nil))) pe_int (fun _ _ => rfl)))
  (pss_one (ps_set (i := 2) sc_circle.nd (by rfl) (Or.inl rfl) (pe_op go_div (pv 2) (pv 3)))))
  pss_nil)
  (pss_one (ps_while (passes_of rfl) (pt_cmpR (go_eq (hu64 hr)) (pe_op go_mod (pv 2) (pv 3)) pe_int (nomark _))
  (pss_cons (ps_set (i := 1) sc_circle.nd (by rfl) (Or.inl rfl) (pe_callSD G_stretched (hr.mono (by decide)) (by rfl) T.g_stretched T.k_stretched T.b_stretched .nil (fun σ => passAt (takes_of rfl rfl rfl rfl) σ) (pa_cons (pv 1) (pa_cons (pv 3) pa_nil))))
  (pss_one (ps_set (i := 2) sc_circle.nd (by rfl) (Or.inl rfl) (pe_op go_div (pv 2) (pv 3)))))))))
  (pss_one (ps_ret (pv 1)))))))
theorem ok_Wheel_init (T : Tx K mg cls a_shared a_split a_stretched a_circle a_Wheel_init a_Wheel_lowest a_Wheel_plus a_Wheel_times a_Wheel_turned a_Wheel_exchanged a_Wheel_backed a_Wheel_moved a_Wheel_wider a_Wheel_whole a_l_whole a_l_at a_l_primes a_l_nought a_l_degree a_l_is a_l_entries a_l_put a_l_tried a_l_moved a_l_wider a_l_deed a_law fd_shared fd_split fd_stretched fd_circle fd_Wheel_init fd_Wheel_lowest fd_Wheel_plus fd_Wheel_times fd_Wheel_turned fd_Wheel_exchanged fd_Wheel_backed fd_Wheel_moved fd_Wheel_wider fd_Wheel_whole fd_l_whole fd_l_at fd_l_primes fd_l_nought fd_l_degree fd_l_is fd_l_entries fd_l_put fd_l_tried fd_l_moved fd_l_wider fd_l_deed fd_law) (G_circle : FnOk P w K mg base (L2.CX P w) 2 a_circle fd_circle ["many"] (spOf ⟨K, cls⟩ T_circle)) : FnOk P w K mg base (L2.CX P w) 3 a_Wheel_init fd_Wheel_init ["self", "many"] (spI_Wheel ⟨K, cls⟩) := by
  refine T.F_Wheel_init.okX sc_Wheel_init (fun vs H Q E h => ?_) (fun cdv A outer s H vs Q E hr h => ⟨t_Wheel_init ⟨K, cls⟩ (fun c d _ H => E c d H), ?_, w_Wheel_init ⟨K, cls⟩ (N := ["self", "many"]) rfl vs H Q E h⟩)
  · obtain ⟨x, dx, m, rfl, _⟩ := h
    rfl
  · unfold t_Wheel_init
    exact (pss_cons (ps_fld (pv 0) (pe_callSD G_circle (hr.mono (by decide)) (by rfl) T.g_circle T.k_circle T.b_circle .nil (fun σ => passAt (takes_of rfl rfl rfl rfl) σ) (pa_cons (pv 1) pa_nil)) (by rfl))
  (pss_cons (ps_fld (pv 0) (pv 1) (by rfl))
  (pss_one (ps_fld (pv 0) (pe_op go_sub (pe_callB gc_len (by rfl) T.b_len (by decide +kernel) (pa_cons (pe_fld (pv 0) (by rfl)) pa_nil)) pe_int) (by rfl)))))
theorem ok_Wheel_lowest (T : Tx K mg cls a_shared a_split a_stretched a_circle a_Wheel_init a_Wheel_lowest a_Wheel_plus a_Wheel_times a_Wheel_turned a_Wheel_exchanged a_Wheel_backed a_Wheel_moved a_Wheel_wider a_Wheel_whole a_l_whole a_l_at a_l_primes a_l_nought a_l_degree a_l_is a_l_entries a_l_put a_l_tried a_l_moved a_l_wider a_l_deed a_law fd_shared fd_split fd_stretched fd_circle fd_Wheel_init fd_Wheel_lowest fd_Wheel_plus fd_Wheel_times fd_Wheel_turned fd_Wheel_exchanged fd_Wheel_backed fd_Wheel_moved fd_Wheel_wider fd_Wheel_whole fd_l_whole fd_l_at fd_l_primes fd_l_nought fd_l_degree fd_l_is fd_l_entries fd_l_put fd_l_tried fd_l_moved fd_l_wider fd_l_deed fd_law) (G_split : FnOk P w K mg base (L2.CX P w) 1 a_split fd_split ["top", "bottom"] (spOf ⟨K, cls⟩ T_split)) : FnOk P w K mg base (L2.CX P w) 2 a_Wheel_lowest fd_Wheel_lowest ["self", "counts"] (spOf ⟨K, cls⟩ T_Wheel_lowest) := by
  refine T.F_Wheel_lowest.okX sc_Wheel_lowest (spOf_len (n := 2) (ar_Wheel_lowest)) (fun cdv A outer s H vs Q E hr h => ⟨t_Wheel_lowest ⟨K, cls⟩ (fun c d _ H => E c d H), ?_, spOf_run (N := ["self", "counts", "sums", "k", "number"]) (t := fun E => t_Wheel_lowest ⟨K, cls⟩ (fun c d _ H => E c d H)) (fun ss ok er hT => by rw [ar_Wheel_lowest ss ok er hT]; decide) (fun E ss ok er hT => w_Wheel_lowest ⟨K, cls⟩ _ ss ok er hT) vs H Q E h⟩)
  unfold t_Wheel_lowest
  exact (pss_cons (ps_set (i := 2) sc_Wheel_lowest.nd (by rfl) (Or.inl rfl) (pe_op go_mul (pe_lst (pa_cons pe_int pa_nil)) (pe_fld (pv 0) (by rfl))))
  (pss_cons (ps_for (passes_of rfl) (by rfl) (pi_enum (by rfl) T.b_enumerate (pa_cons (pv 1) pa_nil)) (pg_tup (by rfl) (pgs_cons (pg_name (i := 3) sc_Wheel_lowest.nd (by rfl) (Or.inl rfl)) (pgs_cons (pg_name (i := 4) sc_Wheel_lowest.nd (by rfl) (Or.inl rfl)) pgs_nil)))
  (pss_one (ps_augS (pv 2) (pe_op go_mod (pv 3) (pe_fld (pv 0) (by rfl))) pget_list (pv 4) ip_add set_list)))
  (pss_one (ps_ret (pe_ix (go_ix (hu1 hr)) (pe_callSD G_split (hr.mono (by decide)) (by rfl) T.g_split T.k_split T.b_split .nil (fun σ => passAt (takes_of rfl rfl rfl rfl) σ) (pa_cons (pv 2) (pa_cons (pe_fld (pv 0) (by rfl)) pa_nil))) pe_int (fun _ _ => rfl))))))
theorem ok_Wheel_plus (T : Tx K mg cls a_shared a_split a_stretched a_circle a_Wheel_init a_Wheel_lowest a_Wheel_plus a_Wheel_times a_Wheel_turned a_Wheel_exchanged a_Wheel_backed a_Wheel_moved a_Wheel_wider a_Wheel_whole a_l_whole a_l_at a_l_primes a_l_nought a_l_degree a_l_is a_l_entries a_l_put a_l_tried a_l_moved a_l_wider a_l_deed a_law fd_shared fd_split fd_stretched fd_circle fd_Wheel_init fd_Wheel_lowest fd_Wheel_plus fd_Wheel_times fd_Wheel_turned fd_Wheel_exchanged fd_Wheel_backed fd_Wheel_moved fd_Wheel_wider fd_Wheel_whole fd_l_whole fd_l_at fd_l_primes fd_l_nought fd_l_degree fd_l_is fd_l_entries fd_l_put fd_l_tried fd_l_moved fd_l_wider fd_l_deed fd_law) : FnOk P w K mg base (L2.CX P w) 1 a_Wheel_plus fd_Wheel_plus ["self", "one", "other"] (spOf ⟨K, cls⟩ T_Wheel_plus) := by
  refine T.F_Wheel_plus.okX sc_Wheel_plus (spOf_len (n := 3) (ar_Wheel_plus)) (fun cdv A outer s H vs Q E hr h => ⟨t_Wheel_plus ⟨K, cls⟩ (fun c d _ H => E c d H), ?_, spOf_run (N := ["self", "one", "other", "left", "right"]) (t := fun E => t_Wheel_plus ⟨K, cls⟩ (fun c d _ H => E c d H)) (fun ss ok er hT => by rw [ar_Wheel_plus ss ok er hT]; decide) (fun E ss ok er hT => w_Wheel_plus ⟨K, cls⟩ _ ss ok er hT) vs H Q E h⟩)
  unfold t_Wheel_plus
  exact (pss_one (ps_ret (pe_lc (by rfl) sc_Wheel_plus.nd (pi_zip (by rfl) T.b_zip (pa_cons (pv 1) (pa_cons (pv 2) pa_nil))) (blkOk_by (own := [("left", 3), ("right", 4)]) (by (show blkC ["self", "one", "other", "left", "right"] (defScope s_Wheel_plus) _ _ = true); decide +kernel)) (fun _ _ _ _ _ => (pg_tup (by rfl) (pgs_cons (pg_name (i := 3) sc_Wheel_plus.nd (by rfl) (Or.inl rfl)) (pgs_cons (pg_name (i := 4) sc_Wheel_plus.nd (by rfl) (Or.inl rfl)) pgs_nil)))) (fun _ _ _ _ _ => pts_nil) (fun _ _ _ _ _ => (pe_op go_add (pv 3) (pv 4))))))
theorem ok_Wheel_times (T : Tx K mg cls a_shared a_split a_stretched a_circle a_Wheel_init a_Wheel_lowest a_Wheel_plus a_Wheel_times a_Wheel_turned a_Wheel_exchanged a_Wheel_backed a_Wheel_moved a_Wheel_wider a_Wheel_whole a_l_whole a_l_at a_l_primes a_l_nought a_l_degree a_l_is a_l_entries a_l_put a_l_tried a_l_moved a_l_wider a_l_deed a_law fd_shared fd_split fd_stretched fd_circle fd_Wheel_init fd_Wheel_lowest fd_Wheel_plus fd_Wheel_times fd_Wheel_turned fd_Wheel_exchanged fd_Wheel_backed fd_Wheel_moved fd_Wheel_wider fd_Wheel_whole fd_l_whole fd_l_at fd_l_primes fd_l_nought fd_l_degree fd_l_is fd_l_entries fd_l_put fd_l_tried fd_l_moved fd_l_wider fd_l_deed fd_law) (G_Wheel_lowest : FnOk P w K mg base (L2.CX P w) 2 a_Wheel_lowest fd_Wheel_lowest ["self", "counts"] (spOf ⟨K, cls⟩ T_Wheel_lowest)) : FnOk P w K mg base (L2.CX P w) 3 a_Wheel_times fd_Wheel_times ["self", "one", "other"] (spOf ⟨K, cls⟩ T_Wheel_times) := by
  refine T.F_Wheel_times.okX sc_Wheel_times (spOf_len (n := 3) (ar_Wheel_times)) (fun cdv A outer s H vs Q E hr h => ⟨t_Wheel_times ⟨K, cls⟩ (fun c d _ H => E c d H), ?_, spOf_run (N := ["self", "one", "other", "sums", "j", "left", "k", "right"]) (t := fun E => t_Wheel_times ⟨K, cls⟩ (fun c d _ H => E c d H)) (fun ss ok er hT => by rw [ar_Wheel_times ss ok er hT]; decide) (fun E ss ok er hT => w_Wheel_times ⟨K, cls⟩ _ ss ok er hT) vs H Q E h⟩)
  unfold t_Wheel_times
  exact (pss_cons (ps_set (i := 3) sc_Wheel_times.nd (by rfl) (Or.inl rfl) (pe_op go_mul (pe_lst (pa_cons pe_int pa_nil)) (pe_fld (pv 0) (by rfl))))
  (pss_cons (ps_for (passes_of rfl) (by rfl) (pi_enum (by rfl) T.b_enumerate (pa_cons (pv 1) pa_nil)) (pg_tup (by rfl) (pgs_cons (pg_name (i := 4) sc_Wheel_times.nd (by rfl) (Or.inl rfl)) (pgs_cons (pg_name (i := 5) sc_Wheel_times.nd (by rfl) (Or.inl rfl)) pgs_nil)))
  (pss_one (ps_for (passes_of rfl) (by rfl) (pi_enum (by rfl) T.b_enumerate (pa_cons (pv 2) pa_nil)) (pg_tup (by rfl) (pgs_cons (pg_name (i := 6) sc_Wheel_times.nd (by rfl) (Or.inl rfl)) (pgs_cons (pg_name (i := 7) sc_Wheel_times.nd (by rfl) (Or.inl rfl)) pgs_nil)))
  (pss_one (ps_augS (pv 3) (pe_op go_mod (pe_op go_add (pv 4) (pv 6)) (pe_fld (pv 0) (by rfl))) pget_list (pe_op go_mul (pv 5) (pv 7)) ip_add set_list)))))
  (pss_one (ps_ret (pe_methSD (pv 0) T.C_Wheel T.m_Wheel_lowest G_Wheel_lowest (hr.mono (by decide)) T.b_Wheel_lowest .nil (fun σ => passAt (takes_of rfl rfl rfl rfl) σ) (pa_cons (pv 3) pa_nil))))))
theorem ok_Wheel_turned (T : Tx K mg cls a_shared a_split a_stretched a_circle a_Wheel_init a_Wheel_lowest a_Wheel_plus a_Wheel_times a_Wheel_turned a_Wheel_exchanged a_Wheel_backed a_Wheel_moved a_Wheel_wider a_Wheel_whole a_l_whole a_l_at a_l_primes a_l_nought a_l_degree a_l_is a_l_entries a_l_put a_l_tried a_l_moved a_l_wider a_l_deed a_law fd_shared fd_split fd_stretched fd_circle fd_Wheel_init fd_Wheel_lowest fd_Wheel_plus fd_Wheel_times fd_Wheel_turned fd_Wheel_exchanged fd_Wheel_backed fd_Wheel_moved fd_Wheel_wider fd_Wheel_whole fd_l_whole fd_l_at fd_l_primes fd_l_nought fd_l_degree fd_l_is fd_l_entries fd_l_put fd_l_tried fd_l_moved fd_l_wider fd_l_deed fd_law) (G_Wheel_lowest : FnOk P w K mg base (L2.CX P w) 2 a_Wheel_lowest fd_Wheel_lowest ["self", "counts"] (spOf ⟨K, cls⟩ T_Wheel_lowest)) : FnOk P w K mg base (L2.CX P w) 3 a_Wheel_turned fd_Wheel_turned ["self", "one", "k"] (spOf ⟨K, cls⟩ T_Wheel_turned) := by
  refine T.F_Wheel_turned.okX sc_Wheel_turned (spOf_len (n := 3) (ar_Wheel_turned)) (fun cdv A outer s H vs Q E hr h => ⟨t_Wheel_turned ⟨K, cls⟩ (fun c d _ H => E c d H), ?_, spOf_run (N := ["self", "one", "k", "sums", "j", "number"]) (t := fun E => t_Wheel_turned ⟨K, cls⟩ (fun c d _ H => E c d H)) (fun ss ok er hT => by rw [ar_Wheel_turned ss ok er hT]; decide) (fun E ss ok er hT => w_Wheel_turned ⟨K, cls⟩ _ ss ok er hT) vs H Q E h⟩)
  unfold t_Wheel_turned
  exact (pss_cons (ps_set (i := 3) sc_Wheel_turned.nd (by rfl) (Or.inl rfl) (pe_op go_mul (pe_lst (pa_cons pe_int pa_nil)) (pe_fld (pv 0) (by rfl))))
  (pss_cons (ps_for (passes_of rfl) (by rfl) (pi_enum (by rfl) T.b_enumerate (pa_cons (pv 1) pa_nil)) (pg_tup (by rfl) (pgs_cons (pg_name (i := 4) sc_Wheel_turned.nd (by rfl) (Or.inl rfl)) (pgs_cons (pg_name (i := 5) sc_Wheel_turned.nd (by rfl) (Or.inl rfl)) pgs_nil)))
  (pss_one (ps_augS (pv 3) (pe_op go_mod (pe_op go_add (pv 4) (pv 2)) (pe_fld (pv 0) (by rfl))) pget_list (pv 5) ip_add set_list)))
  (pss_one (ps_ret (pe_methSD (pv 0) T.C_Wheel T.m_Wheel_lowest G_Wheel_lowest (hr.mono (by decide)) T.b_Wheel_lowest .nil (fun σ => passAt (takes_of rfl rfl rfl rfl) σ) (pa_cons (pv 3) pa_nil))))))
theorem ok_Wheel_exchanged (T : Tx K mg cls a_shared a_split a_stretched a_circle a_Wheel_init a_Wheel_lowest a_Wheel_plus a_Wheel_times a_Wheel_turned a_Wheel_exchanged a_Wheel_backed a_Wheel_moved a_Wheel_wider a_Wheel_whole a_l_whole a_l_at a_l_primes a_l_nought a_l_degree a_l_is a_l_entries a_l_put a_l_tried a_l_moved a_l_wider a_l_deed a_law fd_shared fd_split fd_stretched fd_circle fd_Wheel_init fd_Wheel_lowest fd_Wheel_plus fd_Wheel_times fd_Wheel_turned fd_Wheel_exchanged fd_Wheel_backed fd_Wheel_moved fd_Wheel_wider fd_Wheel_whole fd_l_whole fd_l_at fd_l_primes fd_l_nought fd_l_degree fd_l_is fd_l_entries fd_l_put fd_l_tried fd_l_moved fd_l_wider fd_l_deed fd_law) (G_Wheel_lowest : FnOk P w K mg base (L2.CX P w) 2 a_Wheel_lowest fd_Wheel_lowest ["self", "counts"] (spOf ⟨K, cls⟩ T_Wheel_lowest)) : FnOk P w K mg base (L2.CX P w) 3 a_Wheel_exchanged fd_Wheel_exchanged ["self", "one", "j"] (spOf ⟨K, cls⟩ T_Wheel_exchanged) := by
  refine T.F_Wheel_exchanged.okX sc_Wheel_exchanged (spOf_len (n := 3) (ar_Wheel_exchanged)) (fun cdv A outer s H vs Q E hr h => ⟨t_Wheel_exchanged ⟨K, cls⟩ (fun c d _ H => E c d H), ?_, spOf_run (N := ["self", "one", "j", "sums", "k", "number"]) (t := fun E => t_Wheel_exchanged ⟨K, cls⟩ (fun c d _ H => E c d H)) (fun ss ok er hT => by rw [ar_Wheel_exchanged ss ok er hT]; decide) (fun E ss ok er hT => w_Wheel_exchanged ⟨K, cls⟩ _ ss ok er hT) vs H Q E h⟩)
  unfold t_Wheel_exchanged
  exact (pss_cons (ps_set (i := 3) sc_Wheel_exchanged.nd (by rfl) (Or.inl rfl) (pe_op go_mul (pe_lst (pa_cons pe_int pa_nil)) (pe_fld (pv 0) (by rfl))))
  (pss_cons (ps_for (passes_of rfl) (by rfl) (pi_enum (by rfl) T.b_enumerate (pa_cons (pv 1) pa_nil)) (pg_tup (by rfl) (pgs_cons (pg_name (i := 4) sc_Wheel_exchanged.nd (by rfl) (Or.inl rfl)) (pgs_cons (pg_name (i := 5) sc_Wheel_exchanged.nd (by rfl) (Or.inl rfl)) pgs_nil)))
  (pss_one (ps_augS (pv 3) (pe_op go_mod (pe_op go_mul (pv 2) (pv 4)) (pe_fld (pv 0) (by rfl))) pget_list (pv 5) ip_add set_list)))
  (pss_one (ps_ret (pe_methSD (pv 0) T.C_Wheel T.m_Wheel_lowest G_Wheel_lowest (hr.mono (by decide)) T.b_Wheel_lowest .nil (fun σ => passAt (takes_of rfl rfl rfl rfl) σ) (pa_cons (pv 3) pa_nil))))))
theorem ok_Wheel_backed (T : Tx K mg cls a_shared a_split a_stretched a_circle a_Wheel_init a_Wheel_lowest a_Wheel_plus a_Wheel_times a_Wheel_turned a_Wheel_exchanged a_Wheel_backed a_Wheel_moved a_Wheel_wider a_Wheel_whole a_l_whole a_l_at a_l_primes a_l_nought a_l_degree a_l_is a_l_entries a_l_put a_l_tried a_l_moved a_l_wider a_l_deed a_law fd_shared fd_split fd_stretched fd_circle fd_Wheel_init fd_Wheel_lowest fd_Wheel_plus fd_Wheel_times fd_Wheel_turned fd_Wheel_exchanged fd_Wheel_backed fd_Wheel_moved fd_Wheel_wider fd_Wheel_whole fd_l_whole fd_l_at fd_l_primes fd_l_nought fd_l_degree fd_l_is fd_l_entries fd_l_put fd_l_tried fd_l_moved fd_l_wider fd_l_deed fd_law) (G_Wheel_exchanged : FnOk P w K mg base (L2.CX P w) 3 a_Wheel_exchanged fd_Wheel_exchanged ["self", "one", "j"] (spOf ⟨K, cls⟩ T_Wheel_exchanged)) : FnOk P w K mg base (L2.CX P w) 4 a_Wheel_backed fd_Wheel_backed ["self", "one"] (spOf ⟨K, cls⟩ T_Wheel_backed) := by
  refine T.F_Wheel_backed.okX sc_Wheel_backed (spOf_len (n := 2) (ar_Wheel_backed)) (fun cdv A outer s H vs Q E hr h => ⟨t_Wheel_backed ⟨K, cls⟩ (fun c d _ H => E c d H), ?_, spOf_run (N := ["self", "one"]) (t := fun E => t_Wheel_backed ⟨K, cls⟩ (fun c d _ H => E c d H)) (fun ss ok er hT => by rw [ar_Wheel_backed ss ok er hT]; decide) (fun E ss ok er hT => w_Wheel_backed ⟨K, cls⟩ _ ss ok er hT) vs H Q E h⟩)
  unfold t_Wheel_backed
  exact (pss_one (ps_ret (pe_methSD (pv 0) T.C_Wheel T.m_Wheel_exchanged G_Wheel_exchanged (hr.mono (by decide)) T.b_Wheel_exchanged .nil (fun σ => passAt (takes_of rfl rfl rfl rfl) σ) (pa_cons (pv 1) (pa_cons (pe_un go_neg pe_int) pa_nil)))))
theorem ok_Wheel_moved (T : Tx K mg cls a_shared a_split a_stretched a_circle a_Wheel_init a_Wheel_lowest a_Wheel_plus a_Wheel_times a_Wheel_turned a_Wheel_exchanged a_Wheel_backed a_Wheel_moved a_Wheel_wider a_Wheel_whole a_l_whole a_l_at a_l_primes a_l_nought a_l_degree a_l_is a_l_entries a_l_put a_l_tried a_l_moved a_l_wider a_l_deed a_law fd_shared fd_split fd_stretched fd_circle fd_Wheel_init fd_Wheel_lowest fd_Wheel_plus fd_Wheel_times fd_Wheel_turned fd_Wheel_exchanged fd_Wheel_backed fd_Wheel_moved fd_Wheel_wider fd_Wheel_whole fd_l_whole fd_l_at fd_l_primes fd_l_nought fd_l_degree fd_l_is fd_l_entries fd_l_put fd_l_tried fd_l_moved fd_l_wider fd_l_deed fd_law) (G_shared : FnOk P w K mg base (L2.CX P w) 1 a_shared fd_shared ["one", "other"] (spOf ⟨K, cls⟩ T_shared)) (G_Wheel_exchanged : FnOk P w K mg base (L2.CX P w) 3 a_Wheel_exchanged fd_Wheel_exchanged ["self", "one", "j"] (spOf ⟨K, cls⟩ T_Wheel_exchanged)) : FnOk P w K mg base (L2.CX P w) 4 a_Wheel_moved fd_Wheel_moved ["self", "one", "j"] (spOf ⟨K, cls⟩ T_Wheel_moved) := by
  refine T.F_Wheel_moved.okX sc_Wheel_moved (spOf_len (n := 3) (ar_Wheel_moved)) (fun cdv A outer s H vs Q E hr h => ⟨t_Wheel_moved ⟨K, cls⟩ (fun c d _ H => E c d H), ?_, spOf_run (N := ["self", "one", "j"]) (t := fun E => t_Wheel_moved ⟨K, cls⟩ (fun c d _ H => E c d H)) (fun ss ok er hT => by rw [ar_Wheel_moved ss ok er hT]; decide) (fun E ss ok er hT => w_Wheel_moved ⟨K, cls⟩ _ ss ok er hT) vs H Q E h⟩)
  unfold t_Wheel_moved
  exact (pss_cons (ps_if (pt_cmpR (go_ne (hu64 hr)) (pe_callSD G_shared (hr.mono (by decide)) (by rfl) T.g_shared T.k_shared T.b_shared .nil (fun σ => passAt (takes_of rfl rfl rfl rfl) σ) (pa_cons (pe_fld (pv 0) (by rfl)) (pa_cons (pe_op go_mod (pv 2) (pe_fld (pv 0) (by rfl))) pa_nil))) pe_int (nomark _))
  (pss_one (ps_raise (by rfl) (takes_of rfl rfl rfl rfl) (pmk_own PySem.F.excBase_ValueError T.x_NoMove T.g_NoMove T.k_NoMove (raises_own T.r_NoMove T.rt_NoMove) (by rfl))))
  pss_nil)
  (pss_one (ps_ret (pe_methSD (pv 0) T.C_Wheel T.m_Wheel_exchanged G_Wheel_exchanged (hr.mono (by decide)) T.b_Wheel_exchanged .nil (fun σ => passAt (takes_of rfl rfl rfl rfl) σ) (pa_cons (pv 1) (pa_cons (pv 2) pa_nil))))))
theorem ok_Wheel_wider (T : Tx K mg cls a_shared a_split a_stretched a_circle a_Wheel_init a_Wheel_lowest a_Wheel_plus a_Wheel_times a_Wheel_turned a_Wheel_exchanged a_Wheel_backed a_Wheel_moved a_Wheel_wider a_Wheel_whole a_l_whole a_l_at a_l_primes a_l_nought a_l_degree a_l_is a_l_entries a_l_put a_l_tried a_l_moved a_l_wider a_l_deed a_law fd_shared fd_split fd_stretched fd_circle fd_Wheel_init fd_Wheel_lowest fd_Wheel_plus fd_Wheel_times fd_Wheel_turned fd_Wheel_exchanged fd_Wheel_backed fd_Wheel_moved fd_Wheel_wider fd_Wheel_whole fd_l_whole fd_l_at fd_l_primes fd_l_nought fd_l_degree fd_l_is fd_l_entries fd_l_put fd_l_tried fd_l_moved fd_l_wider fd_l_deed fd_law) (G_stretched : FnOk P w K mg base (L2.CX P w) 1 a_stretched fd_stretched ["some", "many"] (spOf ⟨K, cls⟩ T_stretched)) (G_Wheel_init : FnOk P w K mg base (L2.CX P w) 3 a_Wheel_init fd_Wheel_init ["self", "many"] (spI_Wheel ⟨K, cls⟩)) (G_Wheel_lowest : FnOk P w K mg base (L2.CX P w) 2 a_Wheel_lowest fd_Wheel_lowest ["self", "counts"] (spOf ⟨K, cls⟩ T_Wheel_lowest)) : FnOk P w K mg base (L2.CX P w) 5 a_Wheel_wider fd_Wheel_wider ["self", "one", "many"] (spOf ⟨K, cls⟩ T_Wheel_wider) := by
  refine T.F_Wheel_wider.okX sc_Wheel_wider (spOf_len (n := 3) (ar_Wheel_wider)) (fun cdv A outer s H vs Q E hr h => ⟨t_Wheel_wider ⟨K, cls⟩ (fun c d _ H => E c d H), ?_, spOf_run (N := ["self", "one", "many"]) (t := fun E => t_Wheel_wider ⟨K, cls⟩ (fun c d _ H => E c d H)) (fun ss ok er hT => by rw [ar_Wheel_wider ss ok er hT]; decide) (fun E ss ok er hT => w_Wheel_wider T.whlC _ ss ok er hT) vs H Q E h⟩)
  unfold t_Wheel_wider
  exact (pss_cons (ps_if (PW.pt (pw_or (pt_cmpR go_lt (pv 2) pe_int (nomark _)) (pw_or1 (pt_cmpR go_gt (pe_op go_mul (pe_fld (pv 0) (by rfl)) (pv 2)) (pe_glob (by rfl) T.g_WIDEST.choose_spec ⟨_, rfl⟩) (nomark _)))))
  (pss_one (ps_raise (by rfl) (takes_of rfl rfl rfl rfl) (pmk_own PySem.F.excBase_ValueError T.x_BadWheel T.g_BadWheel T.k_BadWheel (raises_own T.r_BadWheel T.rt_BadWheel) (by rfl))))
  pss_nil)
  (pss_one (ps_ret (pe_methSD (pe_makeSD T.M_Wheel G_Wheel_init (hr.mono (by decide)) (by rfl) T.g_Wheel T.b_Wheel_init .nil (fun σ => passAt (takes_of rfl rfl rfl rfl) σ) (pa_cons (pe_op go_mul (pe_fld (pv 0) (by rfl)) (pv 2)) pa_nil)) T.C_Wheel T.m_Wheel_lowest G_Wheel_lowest (hr.mono (by decide)) T.b_Wheel_lowest .nil (fun σ => passAt (takes_of rfl rfl rfl rfl) σ) (pa_cons (pe_callSD G_stretched (hr.mono (by decide)) (by rfl) T.g_stretched T.k_stretched T.b_stretched .nil (fun σ => passAt (takes_of rfl rfl rfl rfl) σ) (pa_cons (pv 1) (pa_cons (pv 2) pa_nil))) pa_nil)))))
theorem ok_Wheel_whole (T : Tx K mg cls a_shared a_split a_stretched a_circle a_Wheel_init a_Wheel_lowest a_Wheel_plus a_Wheel_times a_Wheel_turned a_Wheel_exchanged a_Wheel_backed a_Wheel_moved a_Wheel_wider a_Wheel_whole a_l_whole a_l_at a_l_primes a_l_nought a_l_degree a_l_is a_l_entries a_l_put a_l_tried a_l_moved a_l_wider a_l_deed a_law fd_shared fd_split fd_stretched fd_circle fd_Wheel_init fd_Wheel_lowest fd_Wheel_plus fd_Wheel_times fd_Wheel_turned fd_Wheel_exchanged fd_Wheel_backed fd_Wheel_moved fd_Wheel_wider fd_Wheel_whole fd_l_whole fd_l_at fd_l_primes fd_l_nought fd_l_degree fd_l_is fd_l_entries fd_l_put fd_l_tried fd_l_moved fd_l_wider fd_l_deed fd_law) : FnOk P w K mg base (L2.CX P w) 1 a_Wheel_whole fd_Wheel_whole ["self", "one"] (spOf ⟨K, cls⟩ T_Wheel_whole) := by
  refine T.F_Wheel_whole.okX sc_Wheel_whole (spOf_len (n := 2) (ar_Wheel_whole)) (fun cdv A outer s H vs Q E hr h => ⟨t_Wheel_whole ⟨K, cls⟩ (fun c d _ H => E c d H), ?_, spOf_run (N := ["self", "one", "number"]) (t := fun E => t_Wheel_whole ⟨K, cls⟩ (fun c d _ H => E c d H)) (fun ss ok er hT => by rw [ar_Wheel_whole ss ok er hT]; decide) (fun E ss ok er hT => w_Wheel_whole ⟨K, cls⟩ _ ss ok er hT) vs H Q E h⟩)
  unfold t_Wheel_whole
  exact (pss_cons (ps_if (pt_val (pe_callB (cr_any (by rfl)) (by rfl) T.b_any (by decide +kernel) (pa_cons (pe_lc (by rfl) sc_Wheel_whole.nd (pi_list (pe_slice sl_list (pv 1) (po_some pe_int) po_none)) (blkOk_by (own := [("number", 2)]) (by (show blkC ["self", "one", "number"] (defScope s_Wheel_whole) _ _ = true); decide +kernel)) (fun _ _ _ _ _ => (pg_name (i := 2) sc_Wheel_whole.nd (by rfl) (Or.inl rfl))) (fun _ _ _ _ _ => pts_nil) (fun _ _ _ _ _ => (pe_cmpR (go_ne (hu64 hr)) (pv 2) pe_int (nomark _)))) pa_nil)))
  (pss_one (ps_ret pe_non))
  pss_nil)
  (pss_one (ps_ret (pe_ix (go_ix (hu1 hr)) (pv 1) pe_int (fun _ _ => rfl)))))
theorem ok_l_whole (T : Tx K mg cls a_shared a_split a_stretched a_circle a_Wheel_init a_Wheel_lowest a_Wheel_plus a_Wheel_times a_Wheel_turned a_Wheel_exchanged a_Wheel_backed a_Wheel_moved a_Wheel_wider a_Wheel_whole a_l_whole a_l_at a_l_primes a_l_nought a_l_degree a_l_is a_l_entries a_l_put a_l_tried a_l_moved a_l_wider a_l_deed a_law fd_shared fd_split fd_stretched fd_circle fd_Wheel_init fd_Wheel_lowest fd_Wheel_plus fd_Wheel_times fd_Wheel_turned fd_Wheel_exchanged fd_Wheel_backed fd_Wheel_moved fd_Wheel_wider fd_Wheel_whole fd_l_whole fd_l_at fd_l_primes fd_l_nought fd_l_degree fd_l_is fd_l_entries fd_l_put fd_l_tried fd_l_moved fd_l_wider fd_l_deed fd_law) : FnOk P w K mg base (L2.CX P w) 1 a_l_whole fd_l_whole ["_law_found"] (spOf ⟨K, cls⟩ T_l_whole) := by
  refine T.F_l_whole.okX sc_l_whole (spOf_len (n := 1) (ar_l_whole)) (fun cdv A outer s H vs Q E hr h => ⟨t_l_whole ⟨K, cls⟩ (fun c d _ H => E c d H), ?_, spOf_run (N := ["_law_found"]) (t := fun E => t_l_whole ⟨K, cls⟩ (fun c d _ H => E c d H)) (fun ss ok er hT => by rw [ar_l_whole ss ok er hT]; decide) (fun E ss ok er hT => w_l_whole ⟨K, cls⟩ _ ss ok er hT) vs H Q E h⟩)
  unfold t_l_whole
  exact (pss_one (ps_ret (pe_and (pe_callB call_isi (by rfl) T.b_isinstance (by decide +kernel) (pa_cons (pv 0) (pa_cons (pe_bltn (v := .ty "int") (by rfl) T.b_int (by decide +kernel) rfl) pa_nil))) (pe_one (pe_not (pe_callB call_isi (by rfl) T.b_isinstance (by decide +kernel) (pa_cons (pv 0) (pa_cons (pe_bltn (v := .ty "bool") (by rfl) T.b_bool (by decide +kernel) rfl) pa_nil))))))))
theorem ok_l_at (T : Tx K mg cls a_shared a_split a_stretched a_circle a_Wheel_init a_Wheel_lowest a_Wheel_plus a_Wheel_times a_Wheel_turned a_Wheel_exchanged a_Wheel_backed a_Wheel_moved a_Wheel_wider a_Wheel_whole a_l_whole a_l_at a_l_primes a_l_nought a_l_degree a_l_is a_l_entries a_l_put a_l_tried a_l_moved a_l_wider a_l_deed a_law fd_shared fd_split fd_stretched fd_circle fd_Wheel_init fd_Wheel_lowest fd_Wheel_plus fd_Wheel_times fd_Wheel_turned fd_Wheel_exchanged fd_Wheel_backed fd_Wheel_moved fd_Wheel_wider fd_Wheel_whole fd_l_whole fd_l_at fd_l_primes fd_l_nought fd_l_degree fd_l_is fd_l_entries fd_l_put fd_l_tried fd_l_moved fd_l_wider fd_l_deed fd_law) : FnOk P w K mg base (L2.CX P w) 1 a_l_at fd_l_at ["_law_script", "_law_k"] (spOf ⟨K, cls⟩ T_l_at) := by
  refine T.F_l_at.okX sc_l_at (spOf_len (n := 2) (ar_l_at)) (fun cdv A outer s H vs Q E hr h => ⟨t_l_at ⟨K, cls⟩ (fun c d _ H => E c d H), ?_, spOf_run (N := ["_law_script", "_law_k"]) (t := fun E => t_l_at ⟨K, cls⟩ (fun c d _ H => E c d H)) (fun ss ok er hT => by rw [ar_l_at ss ok er hT]; decide) (fun E ss ok er hT => w_l_at ⟨K, cls⟩ _ ss ok er hT) vs H Q E h⟩)
  unfold t_l_at
  exact (pss_cons (ps_if (pt_cmpR go_lt (pv 1) (pe_callB gc_len (by rfl) T.b_len (by decide +kernel) (pa_cons (pv 0) pa_nil)) (nomark _))
  (pss_one (ps_ret (pe_ix (go_ix (hu1 hr)) (pv 0) (pv 1) (fun _ _ => rfl))))
  pss_nil)
  (pss_one (ps_ret pe_int)))
theorem ok_l_primes (T : Tx K mg cls a_shared a_split a_stretched a_circle a_Wheel_init a_Wheel_lowest a_Wheel_plus a_Wheel_times a_Wheel_turned a_Wheel_exchanged a_Wheel_backed a_Wheel_moved a_Wheel_wider a_Wheel_whole a_l_whole a_l_at a_l_primes a_l_nought a_l_degree a_l_is a_l_entries a_l_put a_l_tried a_l_moved a_l_wider a_l_deed a_law fd_shared fd_split fd_stretched fd_circle fd_Wheel_init fd_Wheel_lowest fd_Wheel_plus fd_Wheel_times fd_Wheel_turned fd_Wheel_exchanged fd_Wheel_backed fd_Wheel_moved fd_Wheel_wider fd_Wheel_whole fd_l_whole fd_l_at fd_l_primes fd_l_nought fd_l_degree fd_l_is fd_l_entries fd_l_put fd_l_tried fd_l_moved fd_l_wider fd_l_deed fd_law) : FnOk P w K mg base (L2.CX P w) 1 a_l_primes fd_l_primes ["_law_many"] (spOf ⟨K, cls⟩ T_l_primes) := by
  refine T.F_l_primes.okX sc_l_primes (spOf_len (n := 1) (ar_l_primes)) (fun cdv A outer s H vs Q E hr h => ⟨t_l_primes ⟨K, cls⟩ (fun c d _ H => E c d H), ?_, spOf_run (N := ["_law_many", "_law_found", "_law_rest", "_law_p"]) (t := fun E => t_l_primes ⟨K, cls⟩ (fun c d _ H => E c d H)) (fun ss ok er hT => by rw [ar_l_primes ss ok er hT]; decide) (fun E ss ok er hT => w_l_primes ⟨K, cls⟩ _ ss ok er hT) vs H Q E h⟩)
  unfold t_l_primes
  exact (pss_cons (ps_set (i := 1) sc_l_primes.nd (by rfl) (Or.inl rfl) (pe_lst pa_nil))
  (pss_cons (ps_set (i := 2) sc_l_primes.nd (by rfl) (Or.inl rfl) (pv 0))
  (pss_cons (ps_for (passes_of rfl) (by rfl) (pi_range2 (by rfl) T.b_range (pa_cons pe_int (pa_cons (pe_op go_add (pv 0) pe_int) pa_nil))) (pg_name (i := 3) sc_l_primes.nd (by rfl) (Or.inl rfl))
  (pss_cons (ps_if (pt_cmpR (go_eq (hu64 hr)) (pe_op go_mod (pv 2) (pv 3)) pe_int (nomark _))
  (pss_one (ps_expr (pe_bm PySem.F.plainAttrs_list PySem.F.slot_list_append PySem.F.type_list_append mt_append (pv 1) (pa_cons (pv 3) pa_nil))))
  pss_nil)
  (pss_one (ps_while (passes_of rfl) (pt_cmpR (go_eq (hu64 hr)) (pe_op go_mod (pv 2) (pv 3)) pe_int (nomark _))
  (pss_one (ps_set (i := 2) sc_l_primes.nd (by rfl) (Or.inl rfl) (pe_op go_div (pv 2) (pv 3))))))))
  (pss_one (ps_ret (pv 1))))))
theorem ok_l_nought (T : Tx K mg cls a_shared a_split a_stretched a_circle a_Wheel_init a_Wheel_lowest a_Wheel_plus a_Wheel_times a_Wheel_turned a_Wheel_exchanged a_Wheel_backed a_Wheel_moved a_Wheel_wider a_Wheel_whole a_l_whole a_l_at a_l_primes a_l_nought a_l_degree a_l_is a_l_entries a_l_put a_l_tried a_l_moved a_l_wider a_l_deed a_law fd_shared fd_split fd_stretched fd_circle fd_Wheel_init fd_Wheel_lowest fd_Wheel_plus fd_Wheel_times fd_Wheel_turned fd_Wheel_exchanged fd_Wheel_backed fd_Wheel_moved fd_Wheel_wider fd_Wheel_whole fd_l_whole fd_l_at fd_l_primes fd_l_nought fd_l_degree fd_l_is fd_l_entries fd_l_put fd_l_tried fd_l_moved fd_l_wider fd_l_deed fd_law) (G_l_primes : FnOk P w K mg base (L2.CX P w) 1 a_l_primes fd_l_primes ["_law_many"] (spOf ⟨K, cls⟩ T_l_primes)) : FnOk P w K mg base (L2.CX P w) 2 a_l_nought fd_l_nought ["_law_counts", "_law_many"] (spOf ⟨K, cls⟩ T_l_nought) := by
  refine T.F_l_nought.okX sc_l_nought (spOf_len (n := 2) (ar_l_nought)) (fun cdv A outer s H vs Q E hr h => ⟨t_l_nought ⟨K, cls⟩ (fun c d _ H => E c d H), ?_, spOf_run (N := ["_law_counts", "_law_many", "_law_sums", "_law_k", "_law_p", "_law_number"]) (t := fun E => t_l_nought ⟨K, cls⟩ (fun c d _ H => E c d H)) (fun ss ok er hT => by rw [ar_l_nought ss ok er hT]; decide) (fun E ss ok er hT => w_l_nought ⟨K, cls⟩ _ ss ok er hT) vs H Q E h⟩)
  unfold t_l_nought
  exact (pss_cons (ps_set (i := 2) sc_l_nought.nd (by rfl) (Or.inr rfl) (pe_op go_mul (pe_lst (pa_cons pe_int pa_nil)) (pv 1)))
  (pss_cons (ps_for (passes_of rfl) (by rfl) (pi_range1 (by rfl) T.b_range (pa_cons (pe_callB gc_len (by rfl) T.b_len (by decide +kernel) (pa_cons (pv 0) pa_nil)) pa_nil)) (pg_name (i := 3) sc_l_nought.nd (by rfl) (Or.inl rfl))
  (pss_one (ps_asg (pe_op go_add (pe_ix (go_ix (hu1 hr)) (pv 2) (pe_op go_mod (pv 3) (pv 1)) (fun _ _ => rfl)) (pe_ix (go_ix (hu1 hr)) (pv 0) (pv 3) (fun _ _ => rfl))) (pg_sub (pv 2) (pe_op go_mod (pv 3) (pv 1)) (gs_set (hu1 hr))))))
  (pss_cons (ps_for (passes_of rfl) (by rfl) (pi_list (pe_callSD G_l_primes (hr.mono (by decide)) (by rfl) T.g_l_primes T.k_l_primes T.b_l_primes .nil (fun σ => passAt (takes_of rfl rfl rfl rfl) σ) (pa_cons (pv 1) pa_nil))) (pg_name (i := 4) sc_l_nought.nd (by rfl) (Or.inr rfl))
  (pss_one (ps_set (i := 2) sc_l_nought.nd (by rfl) (Or.inr rfl) (pe_lc (by rfl) sc_l_nought.nd (pi_range1 (by rfl) T.b_range (pa_cons (pv 1) pa_nil)) (blkOk_by (own := [("_law_k", 3)]) (by (show blkC ["_law_counts", "_law_many", "_law_sums", "_law_k", "_law_p", "_law_number"] (defScope s_l_nought) _ _ = true); decide +kernel)) (fun _ _ _ _ _ => (pg_name (i := 3) sc_l_nought.nd (by rfl) (Or.inl rfl))) (fun _ _ _ _ _ => pts_nil) (fun _ _ _ _ _ => (pe_op go_sub (pe_ix (go_ix (hu1 hr)) (pv 2) (pv 3) (fun _ _ => rfl)) (pe_ix (go_ix (hu1 hr)) (pv 2) (pe_op go_sub (pv 3) (pe_op go_div (pv 1) (pv 4))) (fun _ _ => rfl))))))))
  (pss_one (ps_ret (pe_callB (cr_all (by rfl)) (by rfl) T.b_all (by decide +kernel) (pa_cons (pe_lc (by rfl) sc_l_nought.nd (pi_list (pv 2)) (blkOk_by (own := [("_law_number", 5)]) (by (show blkC ["_law_counts", "_law_many", "_law_sums", "_law_k", "_law_p", "_law_number"] (defScope s_l_nought) _ _ = true); decide +kernel)) (fun _ _ _ _ _ => (pg_name (i := 5) sc_l_nought.nd (by rfl) (Or.inl rfl))) (fun _ _ _ _ _ => pts_nil) (fun _ _ _ _ _ => (pe_cmpR (go_eq (hu64 hr)) (pv 5) pe_int (nomark _)))) pa_nil)))))))
theorem ok_l_degree (T : Tx K mg cls a_shared a_split a_stretched a_circle a_Wheel_init a_Wheel_lowest a_Wheel_plus a_Wheel_times a_Wheel_turned a_Wheel_exchanged a_Wheel_backed a_Wheel_moved a_Wheel_wider a_Wheel_whole a_l_whole a_l_at a_l_primes a_l_nought a_l_degree a_l_is a_l_entries a_l_put a_l_tried a_l_moved a_l_wider a_l_deed a_law fd_shared fd_split fd_stretched fd_circle fd_Wheel_init fd_Wheel_lowest fd_Wheel_plus fd_Wheel_times fd_Wheel_turned fd_Wheel_exchanged fd_Wheel_backed fd_Wheel_moved fd_Wheel_wider fd_Wheel_whole fd_l_whole fd_l_at fd_l_primes fd_l_nought fd_l_degree fd_l_is fd_l_entries fd_l_put fd_l_tried fd_l_moved fd_l_wider fd_l_deed fd_law) (G_l_primes : FnOk P w K mg base (L2.CX P w) 1 a_l_primes fd_l_primes ["_law_many"] (spOf ⟨K, cls⟩ T_l_primes)) : FnOk P w K mg base (L2.CX P w) 2 a_l_degree fd_l_degree ["_law_many"] (spOf ⟨K, cls⟩ T_l_degree) := by
  refine T.F_l_degree.okX sc_l_degree (spOf_len (n := 1) (ar_l_degree)) (fun cdv A outer s H vs Q E hr h => ⟨t_l_degree ⟨K, cls⟩ (fun c d _ H => E c d H), ?_, spOf_run (N := ["_law_many", "_law_some", "_law_k", "_law_p"]) (t := fun E => t_l_degree ⟨K, cls⟩ (fun c d _ H => E c d H)) (fun ss ok er hT => by rw [ar_l_degree ss ok er hT]; decide) (fun E ss ok er hT => w_l_degree ⟨K, cls⟩ _ ss ok er hT) vs H Q E h⟩)
  unfold t_l_degree
  exact (pss_cons (ps_set (i := 1) sc_l_degree.nd (by rfl) (Or.inr rfl) (pe_callSD G_l_primes (hr.mono (by decide)) (by rfl) T.g_l_primes T.k_l_primes T.b_l_primes .nil (fun σ => passAt (takes_of rfl rfl rfl rfl) σ) (pa_cons (pv 0) pa_nil)))
  (pss_one (ps_ret (pe_callB gc_len (by rfl) T.b_len (by decide +kernel) (pa_cons (pe_lc (by rfl) sc_l_degree.nd (pi_range2 (by rfl) T.b_range (pa_cons pe_int (pa_cons (pe_op go_add (pv 0) pe_int) pa_nil))) (blkOk_by (own := [("_law_k", 2)]) (by (show blkC ["_law_many", "_law_some", "_law_k", "_law_p"] (defScope s_l_degree) _ _ = true); decide +kernel)) (fun _ _ _ _ _ => (pg_name (i := 2) sc_l_degree.nd (by rfl) (Or.inr rfl))) (fun _ _ _ _ _ => (pts_one (pt_val (pe_callB (cr_all (by rfl)) (by rfl) T.b_all (by decide +kernel) (pa_cons (pe_lc (by rfl) sc_l_degree.nd (pi_list (pv 1)) (blkOk_by (own := [("_law_p", 3)]) (by first | kernel_rfl | rfl)) (fun _ _ _ _ _ => (pg_name (i := 3) sc_l_degree.nd (by rfl) (Or.inl rfl))) (fun _ _ _ _ _ => pts_nil) (fun _ _ _ _ _ => (pe_cmpR (go_ne (hu64 hr)) (pe_op go_mod (pv 2) (pv 3)) pe_int (nomark _)))) pa_nil))))) (fun _ _ _ _ _ => (pv 2))) pa_nil)))))
theorem ok_l_is (T : Tx K mg cls a_shared a_split a_stretched a_circle a_Wheel_init a_Wheel_lowest a_Wheel_plus a_Wheel_times a_Wheel_turned a_Wheel_exchanged a_Wheel_backed a_Wheel_moved a_Wheel_wider a_Wheel_whole a_l_whole a_l_at a_l_primes a_l_nought a_l_degree a_l_is a_l_entries a_l_put a_l_tried a_l_moved a_l_wider a_l_deed a_law fd_shared fd_split fd_stretched fd_circle fd_Wheel_init fd_Wheel_lowest fd_Wheel_plus fd_Wheel_times fd_Wheel_turned fd_Wheel_exchanged fd_Wheel_backed fd_Wheel_moved fd_Wheel_wider fd_Wheel_whole fd_l_whole fd_l_at fd_l_primes fd_l_nought fd_l_degree fd_l_is fd_l_entries fd_l_put fd_l_tried fd_l_moved fd_l_wider fd_l_deed fd_law) (G_l_whole : FnOk P w K mg base (L2.CX P w) 1 a_l_whole fd_l_whole ["_law_found"] (spOf ⟨K, cls⟩ T_l_whole)) (G_l_nought : FnOk P w K mg base (L2.CX P w) 2 a_l_nought fd_l_nought ["_law_counts", "_law_many"] (spOf ⟨K, cls⟩ T_l_nought)) (G_l_degree : FnOk P w K mg base (L2.CX P w) 2 a_l_degree fd_l_degree ["_law_many"] (spOf ⟨K, cls⟩ T_l_degree)) : FnOk P w K mg base (L2.CX P w) 3 a_l_is fd_l_is ["_law_found", "_law_counts", "_law_many"] (spOf ⟨K, cls⟩ T_l_is) := by
  refine T.F_l_is.okX sc_l_is (spOf_len (n := 3) (ar_l_is)) (fun cdv A outer s H vs Q E hr h => ⟨t_l_is ⟨K, cls⟩ (fun c d _ H => E c d H), ?_, spOf_run (N := ["_law_found", "_law_counts", "_law_many", "_law_rest", "_law_k"]) (t := fun E => t_l_is ⟨K, cls⟩ (fun c d _ H => E c d H)) (fun ss ok er hT => by rw [ar_l_is ss ok er hT]; decide) (fun E ss ok er hT => w_l_is ⟨K, cls⟩ _ ss ok er hT) vs H Q E h⟩)
  unfold t_l_is
  exact (pss_cons (ps_if (PW.pt (pw_or (pt_not (pt_val (pe_callB call_isi (by rfl) T.b_isinstance (by decide +kernel) (pa_cons (pv 0) (pa_cons (pe_bltn (v := .ty "list") (by rfl) T.b_list (by decide +kernel) rfl) pa_nil))))) (pw_or1 (pt_cmpR (go_ne (hu64 hr)) (pe_callB gc_len (by rfl) T.b_len (by decide +kernel) (pa_cons (pv 0) pa_nil)) (pe_callSD G_l_degree (hr.mono (by decide)) (by rfl) T.g_l_degree T.k_l_degree T.b_l_degree .nil (fun σ => passAt (takes_of rfl rfl rfl rfl) σ) (pa_cons (pv 2) pa_nil)) (nomark _)))))
  (pss_one (ps_ret pe_bl))
  pss_nil)
  (pss_cons (ps_set (i := 3) sc_l_is.nd (by rfl) (Or.inl rfl) (pe_op go_add (pe_callTy gc_list (by rfl) T.b_list (by decide +kernel) (pa_cons (pv 1) pa_nil)) (pe_op go_mul (pe_lst (pa_cons pe_int pa_nil)) (pv 2))))
  (pss_cons (ps_for (passes_of rfl) (by rfl) (pi_range1 (by rfl) T.b_range (pa_cons (pe_callB gc_len (by rfl) T.b_len (by decide +kernel) (pa_cons (pv 0) pa_nil)) pa_nil)) (pg_name (i := 4) sc_l_is.nd (by rfl) (Or.inl rfl))
  (pss_cons (ps_if (pt_not (pt_val (pe_callSD G_l_whole (hr.mono (by decide)) (by rfl) T.g_l_whole T.k_l_whole T.b_l_whole .nil (fun σ => passAt (takes_of rfl rfl rfl rfl) σ) (pa_cons (pe_ix (go_ix (hu1 hr)) (pv 0) (pv 4) (fun _ _ => rfl)) pa_nil))))
  (pss_one (ps_ret pe_bl))
  pss_nil)
  (pss_one (ps_asg (pe_op go_sub (pe_ix (go_ix (hu1 hr)) (pv 3) (pv 4) (fun _ _ => rfl)) (pe_ix (go_ix (hu1 hr)) (pv 0) (pv 4) (fun _ _ => rfl))) (pg_sub (pv 3) (pv 4) (gs_set (hu1 hr)))))))
  (pss_one (ps_ret (pe_callSD G_l_nought (hr.mono (by decide)) (by rfl) T.g_l_nought T.k_l_nought T.b_l_nought .nil (fun σ => passAt (takes_of rfl rfl rfl rfl) σ) (pa_cons (pv 3) (pa_cons (pv 2) pa_nil))))))))
theorem ok_l_entries (T : Tx K mg cls a_shared a_split a_stretched a_circle a_Wheel_init a_Wheel_lowest a_Wheel_plus a_Wheel_times a_Wheel_turned a_Wheel_exchanged a_Wheel_backed a_Wheel_moved a_Wheel_wider a_Wheel_whole a_l_whole a_l_at a_l_primes a_l_nought a_l_degree a_l_is a_l_entries a_l_put a_l_tried a_l_moved a_l_wider a_l_deed a_law fd_shared fd_split fd_stretched fd_circle fd_Wheel_init fd_Wheel_lowest fd_Wheel_plus fd_Wheel_times fd_Wheel_turned fd_Wheel_exchanged fd_Wheel_backed fd_Wheel_moved fd_Wheel_wider fd_Wheel_whole fd_l_whole fd_l_at fd_l_primes fd_l_nought fd_l_degree fd_l_is fd_l_entries fd_l_put fd_l_tried fd_l_moved fd_l_wider fd_l_deed fd_law) : FnOk P w K mg base (L2.CX P w) 1 a_l_entries fd_l_entries ["_law_number", "_law_size"] (spOf ⟨K, cls⟩ T_l_entries) := by
  refine T.F_l_entries.okX sc_l_entries (spOf_len (n := 2) (ar_l_entries)) (fun cdv A outer s H vs Q E hr h => ⟨t_l_entries ⟨K, cls⟩ (fun c d _ H => E c d H), ?_, spOf_run (N := ["_law_number", "_law_size", "_law_found", "_law_k", "_law_entry"]) (t := fun E => t_l_entries ⟨K, cls⟩ (fun c d _ H => E c d H)) (fun ss ok er hT => by rw [ar_l_entries ss ok er hT]; decide) (fun E ss ok er hT => w_l_entries ⟨K, cls⟩ _ ss ok er hT) vs H Q E h⟩)
  unfold t_l_entries
  exact (pss_cons (ps_set (i := 2) sc_l_entries.nd (by rfl) (Or.inl rfl) (pe_lst pa_nil))
  (pss_cons (ps_for (passes_of rfl) (by rfl) (pi_range1 (by rfl) T.b_range (pa_cons (pv 1) pa_nil)) (pg_name (i := 3) sc_l_entries.nd (by rfl) (Or.inl rfl))
  (pss_cons (ps_set (i := 4) sc_l_entries.nd (by rfl) (Or.inl rfl) (pe_op go_mod (pe_op go_mul (pv 0) (pe_op go_add pe_int (pe_op go_mul (pv 3) (pv 3)))) (pe_op go_pow pe_int pe_int)))
  (pss_one (ps_expr (pe_bm PySem.F.plainAttrs_list PySem.F.slot_list_append PySem.F.type_list_append mt_append (pv 2) (pa_cons (pe_ix (go_ix (hu1 hr)) (pe_lst (pa_cons (pv 4) (pa_cons (pe_op go_sub pe_int (pv 4)) (pa_cons pe_int pa_nil)))) (pe_op go_mod (pe_op go_add (pv 0) (pv 3)) pe_int) (fun _ _ => rfl)) pa_nil))))))
  (pss_one (ps_ret (pv 2)))))
theorem ok_l_put (T : Tx K mg cls a_shared a_split a_stretched a_circle a_Wheel_init a_Wheel_lowest a_Wheel_plus a_Wheel_times a_Wheel_turned a_Wheel_exchanged a_Wheel_backed a_Wheel_moved a_Wheel_wider a_Wheel_whole a_l_whole a_l_at a_l_primes a_l_nought a_l_degree a_l_is a_l_entries a_l_put a_l_tried a_l_moved a_l_wider a_l_deed a_law fd_shared fd_split fd_stretched fd_circle fd_Wheel_init fd_Wheel_lowest fd_Wheel_plus fd_Wheel_times fd_Wheel_turned fd_Wheel_exchanged fd_Wheel_backed fd_Wheel_moved fd_Wheel_wider fd_Wheel_whole fd_l_whole fd_l_at fd_l_primes fd_l_nought fd_l_degree fd_l_is fd_l_entries fd_l_put fd_l_tried fd_l_moved fd_l_wider fd_l_deed fd_law) : FnOk P w K mg base (L2.CX P w) 1 a_l_put fd_l_put ["_law_counts", "_law_step", "_law_turn", "_law_many"] (spOf ⟨K, cls⟩ T_l_put) := by
  refine T.F_l_put.okX sc_l_put (spOf_len (n := 4) (ar_l_put)) (fun cdv A outer s H vs Q E hr h => ⟨t_l_put ⟨K, cls⟩ (fun c d _ H => E c d H), ?_, spOf_run (N := ["_law_counts", "_law_step", "_law_turn", "_law_many", "_law_sums", "_law_k", "_law_at_here"]) (t := fun E => t_l_put ⟨K, cls⟩ (fun c d _ H => E c d H)) (fun ss ok er hT => by rw [ar_l_put ss ok er hT]; decide) (fun E ss ok er hT => w_l_put ⟨K, cls⟩ _ ss ok er hT) vs H Q E h⟩)
  unfold t_l_put
  exact (pss_cons (ps_set (i := 4) sc_l_put.nd (by rfl) (Or.inl rfl) (pe_op go_mul (pe_lst (pa_cons pe_int pa_nil)) (pv 3)))
  (pss_cons (ps_for (passes_of rfl) (by rfl) (pi_range1 (by rfl) T.b_range (pa_cons (pe_callB gc_len (by rfl) T.b_len (by decide +kernel) (pa_cons (pv 0) pa_nil)) pa_nil)) (pg_name (i := 5) sc_l_put.nd (by rfl) (Or.inl rfl))
  (pss_cons (ps_set (i := 6) sc_l_put.nd (by rfl) (Or.inl rfl) (pe_op go_mod (pe_op go_add (pe_op go_mul (pv 5) (pv 1)) (pv 2)) (pv 3)))
  (pss_one (ps_asg (pe_op go_add (pe_ix (go_ix (hu1 hr)) (pv 4) (pv 6) (fun _ _ => rfl)) (pe_ix (go_ix (hu1 hr)) (pv 0) (pv 5) (fun _ _ => rfl))) (pg_sub (pv 4) (pv 6) (gs_set (hu1 hr)))))))
  (pss_one (ps_ret (pv 4)))))
theorem ok_l_tried (T : Tx K mg cls a_shared a_split a_stretched a_circle a_Wheel_init a_Wheel_lowest a_Wheel_plus a_Wheel_times a_Wheel_turned a_Wheel_exchanged a_Wheel_backed a_Wheel_moved a_Wheel_wider a_Wheel_whole a_l_whole a_l_at a_l_primes a_l_nought a_l_degree a_l_is a_l_entries a_l_put a_l_tried a_l_moved a_l_wider a_l_deed a_law fd_shared fd_split fd_stretched fd_circle fd_Wheel_init fd_Wheel_lowest fd_Wheel_plus fd_Wheel_times fd_Wheel_turned fd_Wheel_exchanged fd_Wheel_backed fd_Wheel_moved fd_Wheel_wider fd_Wheel_whole fd_l_whole fd_l_at fd_l_primes fd_l_nought fd_l_degree fd_l_is fd_l_entries fd_l_put fd_l_tried fd_l_moved fd_l_wider fd_l_deed fd_law) (G_Wheel_moved : FnOk P w K mg base (L2.CX P w) 4 a_Wheel_moved fd_Wheel_moved ["self", "one", "j"] (spOf ⟨K, cls⟩ T_Wheel_moved)) (G_Wheel_wider : FnOk P w K mg base (L2.CX P w) 5 a_Wheel_wider fd_Wheel_wider ["self", "one", "many"] (spOf ⟨K, cls⟩ T_Wheel_wider)) : FnOk P w K mg base (L2.CX P w) 6 a_l_tried fd_l_tried ["_law_wheel", "_law_one", "_law_by", "_law_way"] (spOf ⟨K, cls⟩ T_l_tried) := by
  refine T.F_l_tried.okX sc_l_tried (spOf_len (n := 4) (ar_l_tried)) (fun cdv A outer s H vs Q E hr h => ⟨t_l_tried ⟨K, cls⟩ (fun c d _ H => E c d H), ?_, spOf_run (N := ["_law_wheel", "_law_one", "_law_by", "_law_way", "_law_found", "_law_caught", "e"]) (t := fun E => t_l_tried ⟨K, cls⟩ (fun c d _ H => E c d H)) (fun ss ok er hT => by rw [ar_l_tried ss ok er hT]; decide) (fun E ss ok er hT => w_l_tried T.whlC T.exs (by decide) (by decide) _ ss ok er hT) vs H Q E h⟩)
  unfold t_l_tried
  exact (pss_cons (ps_set (i := 4) sc_l_tried.nd (by rfl) (Or.inl rfl) pe_non)
  (pss_cons (ps_set (i := 5) sc_l_tried.nd (by rfl) (Or.inl rfl) pe_non)
  (pss_cons (ps_try rfl rfl rfl sc_l_tried.nd (takes_of rfl rfl rfl rfl) (fun _ pn xe tkB ppB =>
  (pss_one (ps_if (pt_cmpR (go_eq (hu64 hr)) (pv 3) pe_int (nomark _))
  (pss_one (ps_set (i := 4) sc_l_tried.nd (by rfl) (Or.inl rfl) (pe_methSD (pv 0) T.C_Wheel T.m_Wheel_moved G_Wheel_moved (hr.mono (by decide)) T.b_Wheel_moved .nil (fun σ => passAt tkB σ) (pa_cons (pv 1) (pa_cons (pv 2) pa_nil)))))
  (pss_one (ps_set (i := 4) sc_l_tried.nd (by rfl) (Or.inl rfl) (pe_methSD (pv 0) T.C_Wheel T.m_Wheel_wider G_Wheel_wider (hr.mono (by decide)) T.b_Wheel_wider .nil (fun σ => passAt tkB σ) (pa_cons (pv 1) (pa_cons (pv 2) pa_nil))))))))
  (HdlOk.named (i := 6) (by rfl) (by rfl) ⟨rfl, by decide, .inl T.g_BookError⟩ (fun a_ oe cls_ d_ pn hz hf => (pss_one (ps_set (i := 5) sc_l_tried.nd (by rfl) (Or.inl rfl) (pv 6))))
  HdlOk.nil))
  (pss_one (ps_ret (pe_tup (pa_cons (pv 4) (pa_cons (pv 5) pa_nil))))))))
theorem ok_l_moved (T : Tx K mg cls a_shared a_split a_stretched a_circle a_Wheel_init a_Wheel_lowest a_Wheel_plus a_Wheel_times a_Wheel_turned a_Wheel_exchanged a_Wheel_backed a_Wheel_moved a_Wheel_wider a_Wheel_whole a_l_whole a_l_at a_l_primes a_l_nought a_l_degree a_l_is a_l_entries a_l_put a_l_tried a_l_moved a_l_wider a_l_deed a_law fd_shared fd_split fd_stretched fd_circle fd_Wheel_init fd_Wheel_lowest fd_Wheel_plus fd_Wheel_times fd_Wheel_turned fd_Wheel_exchanged fd_Wheel_backed fd_Wheel_moved fd_Wheel_wider fd_Wheel_whole fd_l_whole fd_l_at fd_l_primes fd_l_nought fd_l_degree fd_l_is fd_l_entries fd_l_put fd_l_tried fd_l_moved fd_l_wider fd_l_deed fd_law) (G_l_primes : FnOk P w K mg base (L2.CX P w) 1 a_l_primes fd_l_primes ["_law_many"] (spOf ⟨K, cls⟩ T_l_primes)) (G_l_put : FnOk P w K mg base (L2.CX P w) 1 a_l_put fd_l_put ["_law_counts", "_law_step", "_law_turn", "_law_many"] (spOf ⟨K, cls⟩ T_l_put)) (G_l_tried : FnOk P w K mg base (L2.CX P w) 6 a_l_tried fd_l_tried ["_law_wheel", "_law_one", "_law_by", "_law_way"] (spOf ⟨K, cls⟩ T_l_tried)) : FnOk P w K mg base (L2.CX P w) 7 a_l_moved fd_l_moved ["_law_wheel", "_law_found", "_law_counts", "_law_j"] (spOf ⟨K, cls⟩ T_l_moved) := by
  refine T.F_l_moved.okX sc_l_moved (spOf_len (n := 4) (ar_l_moved)) (fun cdv A outer s H vs Q E hr h => ⟨t_l_moved ⟨K, cls⟩ (fun c d _ H => E c d H), ?_, spOf_run (N := ["_law_wheel", "_law_found", "_law_counts", "_law_j", "_law_many", "_law_told", "_law_caught", "_law_p"]) (t := fun E => t_l_moved ⟨K, cls⟩ (fun c d _ H => E c d H)) (fun ss ok er hT => by rw [ar_l_moved ss ok er hT]; decide) (fun E ss ok er hT => w_l_moved T.exs (by decide) _ ss ok er hT) vs H Q E h⟩)
  unfold t_l_moved
  exact (pss_cons (ps_set (i := 4) sc_l_moved.nd (by rfl) (Or.inl rfl) (pe_callB gc_len (by rfl) T.b_len (by decide +kernel) (pa_cons (pv 2) pa_nil)))
  (pss_cons (ps_asg (pe_callSD G_l_tried (hr.mono (by decide)) (by rfl) T.g_l_tried T.k_l_tried T.b_l_tried .nil (fun σ => passAt (takes_of rfl rfl rfl rfl) σ) (pa_cons (pv 0) (pa_cons (pv 1) (pa_cons (pv 3) (pa_cons pe_int pa_nil))))) (pg_tup (by rfl) (pgs_cons (pg_name (i := 5) sc_l_moved.nd (by rfl) (Or.inl rfl)) (pgs_cons (pg_name (i := 6) sc_l_moved.nd (by rfl) (Or.inl rfl)) pgs_nil))))
  (pss_cons (ps_if (pt_val (pe_callB (cr_all (by rfl)) (by rfl) T.b_all (by decide +kernel) (pa_cons (pe_lc (by rfl) sc_l_moved.nd (pi_list (pe_callSD G_l_primes (hr.mono (by decide)) (by rfl) T.g_l_primes T.k_l_primes T.b_l_primes .nil (fun σ => passAt (takes_of rfl rfl rfl rfl) σ) (pa_cons (pv 4) pa_nil))) (blkOk_by (own := [("_law_p", 7)]) (by (show blkC ["_law_wheel", "_law_found", "_law_counts", "_law_j", "_law_many", "_law_told", "_law_caught", "_law_p"] (defScope s_l_moved) _ _ = true); decide +kernel)) (fun _ _ _ _ _ => (pg_name (i := 7) sc_l_moved.nd (by rfl) (Or.inl rfl))) (fun _ _ _ _ _ => pts_nil) (fun _ _ _ _ _ => (pe_cmpR (go_ne (hu64 hr)) (pe_op go_mod (pv 3) (pv 7)) pe_int (nomark _)))) pa_nil)))
  (pss_one (ps_ret (pe_tup (pa_cons (pv 0) (pa_cons (pv 5) (pa_cons (pe_callSD G_l_put (hr.mono (by decide)) (by rfl) T.g_l_put T.k_l_put T.b_l_put .nil (fun σ => passAt (takes_of rfl rfl rfl rfl) σ) (pa_cons (pv 2) (pa_cons (pv 3) (pa_cons pe_int (pa_cons (pv 4) pa_nil))))) pa_nil))))))
  pss_nil)
  (pss_cons (ps_if (pt_val (pe_callB call_isX (by rfl) T.b_isinstance (by decide +kernel) (pa_cons (pv 6) (pa_cons (pe_glob (by rfl) T.g_NoMove rfl) pa_nil))))
  (pss_one (ps_ret (pe_tup (pa_cons (pv 0) (pa_cons (pv 1) (pa_cons (pv 2) pa_nil))))))
  pss_nil)
  (pss_one (ps_ret (pe_tup (pa_cons (pv 0) (pa_cons pe_non (pa_cons (pv 2) pa_nil))))))))))
theorem ok_l_wider (T : Tx K mg cls a_shared a_split a_stretched a_circle a_Wheel_init a_Wheel_lowest a_Wheel_plus a_Wheel_times a_Wheel_turned a_Wheel_exchanged a_Wheel_backed a_Wheel_moved a_Wheel_wider a_Wheel_whole a_l_whole a_l_at a_l_primes a_l_nought a_l_degree a_l_is a_l_entries a_l_put a_l_tried a_l_moved a_l_wider a_l_deed a_law fd_shared fd_split fd_stretched fd_circle fd_Wheel_init fd_Wheel_lowest fd_Wheel_plus fd_Wheel_times fd_Wheel_turned fd_Wheel_exchanged fd_Wheel_backed fd_Wheel_moved fd_Wheel_wider fd_Wheel_whole fd_l_whole fd_l_at fd_l_primes fd_l_nought fd_l_degree fd_l_is fd_l_entries fd_l_put fd_l_tried fd_l_moved fd_l_wider fd_l_deed fd_law) (G_Wheel_init : FnOk P w K mg base (L2.CX P w) 3 a_Wheel_init fd_Wheel_init ["self", "many"] (spI_Wheel ⟨K, cls⟩)) (G_l_put : FnOk P w K mg base (L2.CX P w) 1 a_l_put fd_l_put ["_law_counts", "_law_step", "_law_turn", "_law_many"] (spOf ⟨K, cls⟩ T_l_put)) (G_l_tried : FnOk P w K mg base (L2.CX P w) 6 a_l_tried fd_l_tried ["_law_wheel", "_law_one", "_law_by", "_law_way"] (spOf ⟨K, cls⟩ T_l_tried)) : FnOk P w K mg base (L2.CX P w) 7 a_l_wider fd_l_wider ["_law_wheel", "_law_found", "_law_counts", "_law_by"] (spOf ⟨K, cls⟩ T_l_wider) := by
  refine T.F_l_wider.okX sc_l_wider (spOf_len (n := 4) (ar_l_wider)) (fun cdv A outer s H vs Q E hr h => ⟨t_l_wider ⟨K, cls⟩ (fun c d _ H => E c d H), ?_, spOf_run (N := ["_law_wheel", "_law_found", "_law_counts", "_law_by", "_law_many", "_law_told", "_law_caught"]) (t := fun E => t_l_wider ⟨K, cls⟩ (fun c d _ H => E c d H)) (fun ss ok er hT => by rw [ar_l_wider ss ok er hT]; decide) (fun E ss ok er hT => w_l_wider T.whlC T.exs (by decide) _ ss ok er hT) vs H Q E h⟩)
  unfold t_l_wider
  exact (pss_cons (ps_set (i := 4) sc_l_wider.nd (by rfl) (Or.inl rfl) (pe_callB gc_len (by rfl) T.b_len (by decide +kernel) (pa_cons (pv 2) pa_nil)))
  (pss_cons (ps_asg (pe_callSD G_l_tried (hr.mono (by decide)) (by rfl) T.g_l_tried T.k_l_tried T.b_l_tried .nil (fun σ => passAt (takes_of rfl rfl rfl rfl) σ) (pa_cons (pv 0) (pa_cons (pv 1) (pa_cons (pv 3) (pa_cons pe_int pa_nil))))) (pg_tup (by rfl) (pgs_cons (pg_name (i := 5) sc_l_wider.nd (by rfl) (Or.inl rfl)) (pgs_cons (pg_name (i := 6) sc_l_wider.nd (by rfl) (Or.inl rfl)) pgs_nil))))
  (pss_cons (ps_if (pt_cmpR go_le (pe_op go_mul (pv 4) (pv 3)) pe_int (nomark _))
  (pss_one (ps_ret (pe_tup (pa_cons (pe_makeSD T.M_Wheel G_Wheel_init (hr.mono (by decide)) (by rfl) T.g_Wheel T.b_Wheel_init .nil (fun σ => passAt (takes_of rfl rfl rfl rfl) σ) (pa_cons (pe_op go_mul (pv 4) (pv 3)) pa_nil)) (pa_cons (pv 5) (pa_cons (pe_callSD G_l_put (hr.mono (by decide)) (by rfl) T.g_l_put T.k_l_put T.b_l_put .nil (fun σ => passAt (takes_of rfl rfl rfl rfl) σ) (pa_cons (pv 2) (pa_cons (pv 3) (pa_cons pe_int (pa_cons (pe_op go_mul (pv 4) (pv 3)) pa_nil))))) pa_nil))))))
  pss_nil)
  (pss_cons (ps_if (pt_val (pe_callB call_isX (by rfl) T.b_isinstance (by decide +kernel) (pa_cons (pv 6) (pa_cons (pe_glob (by rfl) T.g_BadWheel rfl) pa_nil))))
  (pss_one (ps_ret (pe_tup (pa_cons (pv 0) (pa_cons (pv 1) (pa_cons (pv 2) pa_nil))))))
  pss_nil)
  (pss_one (ps_ret (pe_tup (pa_cons (pv 0) (pa_cons pe_non (pa_cons (pv 2) pa_nil))))))))))
theorem ok_l_deed (T : Tx K mg cls a_shared a_split a_stretched a_circle a_Wheel_init a_Wheel_lowest a_Wheel_plus a_Wheel_times a_Wheel_turned a_Wheel_exchanged a_Wheel_backed a_Wheel_moved a_Wheel_wider a_Wheel_whole a_l_whole a_l_at a_l_primes a_l_nought a_l_degree a_l_is a_l_entries a_l_put a_l_tried a_l_moved a_l_wider a_l_deed a_law fd_shared fd_split fd_stretched fd_circle fd_Wheel_init fd_Wheel_lowest fd_Wheel_plus fd_Wheel_times fd_Wheel_turned fd_Wheel_exchanged fd_Wheel_backed fd_Wheel_moved fd_Wheel_wider fd_Wheel_whole fd_l_whole fd_l_at fd_l_primes fd_l_nought fd_l_degree fd_l_is fd_l_entries fd_l_put fd_l_tried fd_l_moved fd_l_wider fd_l_deed fd_law) (G_Wheel_plus : FnOk P w K mg base (L2.CX P w) 1 a_Wheel_plus fd_Wheel_plus ["self", "one", "other"] (spOf ⟨K, cls⟩ T_Wheel_plus)) (G_Wheel_times : FnOk P w K mg base (L2.CX P w) 3 a_Wheel_times fd_Wheel_times ["self", "one", "other"] (spOf ⟨K, cls⟩ T_Wheel_times)) (G_Wheel_turned : FnOk P w K mg base (L2.CX P w) 3 a_Wheel_turned fd_Wheel_turned ["self", "one", "k"] (spOf ⟨K, cls⟩ T_Wheel_turned)) (G_Wheel_backed : FnOk P w K mg base (L2.CX P w) 4 a_Wheel_backed fd_Wheel_backed ["self", "one"] (spOf ⟨K, cls⟩ T_Wheel_backed)) (G_l_entries : FnOk P w K mg base (L2.CX P w) 1 a_l_entries fd_l_entries ["_law_number", "_law_size"] (spOf ⟨K, cls⟩ T_l_entries)) (G_l_put : FnOk P w K mg base (L2.CX P w) 1 a_l_put fd_l_put ["_law_counts", "_law_step", "_law_turn", "_law_many"] (spOf ⟨K, cls⟩ T_l_put)) (G_l_moved : FnOk P w K mg base (L2.CX P w) 7 a_l_moved fd_l_moved ["_law_wheel", "_law_found", "_law_counts", "_law_j"] (spOf ⟨K, cls⟩ T_l_moved)) (G_l_wider : FnOk P w K mg base (L2.CX P w) 7 a_l_wider fd_l_wider ["_law_wheel", "_law_found", "_law_counts", "_law_by"] (spOf ⟨K, cls⟩ T_l_wider)) : FnOk P w K mg base (L2.CX P w) 8 a_l_deed fd_l_deed ["_law_wheel", "_law_found", "_law_counts", "_law_cell"] (spOf ⟨K, cls⟩ T_l_deed) := by
  refine T.F_l_deed.okX sc_l_deed (spOf_len (n := 4) (ar_l_deed)) (fun cdv A outer s H vs Q E hr h => ⟨t_l_deed ⟨K, cls⟩ (fun c d _ H => E c d H), ?_, spOf_run (N := ["_law_wheel", "_law_found", "_law_counts", "_law_cell", "_law_many", "_law_number", "_law_turn", "_law_some", "_law_at_here", "_law_sums", "_law_k", "_law_far"]) (t := fun E => t_l_deed ⟨K, cls⟩ (fun c d _ H => E c d H)) (fun ss ok er hT => by rw [ar_l_deed ss ok er hT]; decide) (fun E ss ok er hT => w_l_deed ⟨K, cls⟩ _ ss ok er hT) vs H Q E h⟩)
  unfold t_l_deed
  exact (pss_cons (ps_set (i := 4) sc_l_deed.nd (by rfl) (Or.inl rfl) (pe_callB gc_len (by rfl) T.b_len (by decide +kernel) (pa_cons (pv 2) pa_nil)))
  (pss_cons (ps_set (i := 5) sc_l_deed.nd (by rfl) (Or.inl rfl) (pe_op go_div (pv 3) pe_int))
  (pss_cons (ps_if (pt_cmpR (go_eq (hu64 hr)) (pe_op go_mod (pv 3) pe_int) pe_int (nomark _))
  (pss_cons (ps_set (i := 6) sc_l_deed.nd (by rfl) (Or.inl rfl) (pe_op go_sub (pe_op go_mod (pv 5) (pe_op go_mul pe_int (pe_op go_pow pe_int pe_int))) (pe_op go_pow pe_int pe_int)))
  (pss_one (ps_ret (pe_tup (pa_cons (pv 0) (pa_cons (pe_methSD (pv 0) T.C_Wheel T.m_Wheel_turned G_Wheel_turned (hr.mono (by decide)) T.b_Wheel_turned .nil (fun σ => passAt (takes_of rfl rfl rfl rfl) σ) (pa_cons (pv 1) (pa_cons (pv 6) pa_nil))) (pa_cons (pe_callSD G_l_put (hr.mono (by decide)) (by rfl) T.g_l_put T.k_l_put T.b_l_put .nil (fun σ => passAt (takes_of rfl rfl rfl rfl) σ) (pa_cons (pv 2) (pa_cons pe_int (pa_cons (pv 6) (pa_cons (pv 4) pa_nil))))) pa_nil)))))))
  pss_nil)
  (pss_cons (ps_if (pt_cmpR (go_eq (hu64 hr)) (pe_op go_mod (pv 3) pe_int) pe_int (nomark _))
  (pss_one (ps_ret (pe_tup (pa_cons (pv 0) (pa_cons (pe_methSD (pv 0) T.C_Wheel T.m_Wheel_backed G_Wheel_backed (hr.mono (by decide)) T.b_Wheel_backed .nil (fun σ => passAt (takes_of rfl rfl rfl rfl) σ) (pa_cons (pv 1) pa_nil)) (pa_cons (pe_callSD G_l_put (hr.mono (by decide)) (by rfl) T.g_l_put T.k_l_put T.b_l_put .nil (fun σ => passAt (takes_of rfl rfl rfl rfl) σ) (pa_cons (pv 2) (pa_cons (pe_op go_sub pe_int pe_int) (pa_cons pe_int (pa_cons (pv 4) pa_nil))))) pa_nil))))))
  pss_nil)
  (pss_cons (ps_if (pt_cmpR (go_eq (hu64 hr)) (pe_op go_mod (pv 3) pe_int) pe_int (nomark _))
  (pss_one (ps_ret (pe_callSD G_l_moved (hr.mono (by decide)) (by rfl) T.g_l_moved T.k_l_moved T.b_l_moved .nil (fun σ => passAt (takes_of rfl rfl rfl rfl) σ) (pa_cons (pv 0) (pa_cons (pv 1) (pa_cons (pv 2) (pa_cons (pe_op go_sub (pe_op go_mod (pv 5) pe_int) pe_int) pa_nil)))))))
  pss_nil)
  (pss_cons (ps_if (pt_cmpR (go_eq (hu64 hr)) (pe_op go_mod (pv 3) pe_int) pe_int (nomark _))
  (pss_one (ps_ret (pe_callSD G_l_wider (hr.mono (by decide)) (by rfl) T.g_l_wider T.k_l_wider T.b_l_wider .nil (fun σ => passAt (takes_of rfl rfl rfl rfl) σ) (pa_cons (pv 0) (pa_cons (pv 1) (pa_cons (pv 2) (pa_cons (pe_op go_add pe_int (pe_op go_mod (pv 5) pe_int)) pa_nil)))))))
  pss_nil)
  (pss_cons (ps_set (i := 7) sc_l_deed.nd (by rfl) (Or.inl rfl) (pe_op go_mul (pe_lst (pa_cons pe_int pa_nil)) (pe_callB gc_len (by rfl) T.b_len (by decide +kernel) (pa_cons (pv 1) pa_nil))))
  (pss_cons (ps_asg pe_int (pg_sub (pv 7) pe_int (gs_set (hu1 hr))))
  (pss_cons (ps_set (i := 8) sc_l_deed.nd (by rfl) (Or.inl rfl) (pe_op go_mod (pe_op go_div (pv 5) pe_int) (pe_callB gc_len (by rfl) T.b_len (by decide +kernel) (pa_cons (pv 1) pa_nil))))
  (pss_cons (ps_asg (pe_op go_sub (pe_op go_add (pe_ix (go_ix (hu1 hr)) (pv 7) (pv 8) (fun _ _ => rfl)) (pe_op go_mod (pv 5) pe_int)) pe_int) (pg_sub (pv 7) (pv 8) (gs_set (hu1 hr))))
  (pss_cons (ps_if (pt_cmpR go_lt (pe_op go_mod (pv 3) pe_int) pe_int (nomark _))
  (pss_cons (ps_set (i := 7) sc_l_deed.nd (by rfl) (Or.inl rfl) (pe_callSD G_l_entries (hr.mono (by decide)) (by rfl) T.g_l_entries T.k_l_entries T.b_l_entries .nil (fun σ => passAt (takes_of rfl rfl rfl rfl) σ) (pa_cons (pv 5) (pa_cons (pe_callB gc_len (by rfl) T.b_len (by decide +kernel) (pa_cons (pv 1) pa_nil)) pa_nil))))
  (pss_cons (ps_set (i := 9) sc_l_deed.nd (by rfl) (Or.inl rfl) (pe_callTy gc_list (by rfl) T.b_list (by decide +kernel) (pa_cons (pv 2) pa_nil)))
  (pss_cons (ps_for (passes_of rfl) (by rfl) (pi_range1 (by rfl) T.b_range (pa_cons (pe_callB gc_len (by rfl) T.b_len (by decide +kernel) (pa_cons (pv 7) pa_nil)) pa_nil)) (pg_name (i := 10) sc_l_deed.nd (by rfl) (Or.inl rfl))
  (pss_one (ps_asg (pe_op go_add (pe_ix (go_ix (hu1 hr)) (pv 9) (pv 10) (fun _ _ => rfl)) (pe_ix (go_ix (hu1 hr)) (pv 7) (pv 10) (fun _ _ => rfl))) (pg_sub (pv 9) (pv 10) (gs_set (hu1 hr))))))
  (pss_one (ps_ret (pe_tup (pa_cons (pv 0) (pa_cons (pe_methSD (pv 0) T.C_Wheel T.m_Wheel_plus G_Wheel_plus (hr.mono (by decide)) T.b_Wheel_plus .nil (fun σ => passAt (takes_of rfl rfl rfl rfl) σ) (pa_cons (pv 1) (pa_cons (pv 7) pa_nil))) (pa_cons (pv 9) pa_nil)))))))))
  pss_nil)
  (pss_cons (ps_set (i := 9) sc_l_deed.nd (by rfl) (Or.inl rfl) (pe_callTy gc_list (by rfl) T.b_list (by decide +kernel) (pa_cons (pv 2) pa_nil)))
  (pss_cons (ps_set (i := 11) sc_l_deed.nd (by rfl) (Or.inl rfl) (pe_callSD G_l_put (hr.mono (by decide)) (by rfl) T.g_l_put T.k_l_put T.b_l_put .nil (fun σ => passAt (takes_of rfl rfl rfl rfl) σ) (pa_cons (pv 2) (pa_cons pe_int (pa_cons (pv 8) (pa_cons (pv 4) pa_nil))))))
  (pss_cons (ps_for (passes_of rfl) (by rfl) (pi_range1 (by rfl) T.b_range (pa_cons (pv 4) pa_nil)) (pg_name (i := 10) sc_l_deed.nd (by rfl) (Or.inl rfl))
  (pss_one (ps_asg (pe_op go_add (pe_ix (go_ix (hu1 hr)) (pv 9) (pv 10) (fun _ _ => rfl)) (pe_op go_mul (pe_op go_sub (pe_op go_mod (pv 5) pe_int) pe_int) (pe_ix (go_ix (hu1 hr)) (pv 11) (pv 10) (fun _ _ => rfl)))) (pg_sub (pv 9) (pv 10) (gs_set (hu1 hr))))))
  (pss_one (ps_ret (pe_tup (pa_cons (pv 0) (pa_cons (pe_methSD (pv 0) T.C_Wheel T.m_Wheel_times G_Wheel_times (hr.mono (by decide)) T.b_Wheel_times .nil (fun σ => passAt (takes_of rfl rfl rfl rfl) σ) (pa_cons (pv 1) (pa_cons (pv 7) pa_nil))) (pa_cons (pv 9) pa_nil))))))))))))))))))))
theorem ok_law (T : Tx K mg cls a_shared a_split a_stretched a_circle a_Wheel_init a_Wheel_lowest a_Wheel_plus a_Wheel_times a_Wheel_turned a_Wheel_exchanged a_Wheel_backed a_Wheel_moved a_Wheel_wider a_Wheel_whole a_l_whole a_l_at a_l_primes a_l_nought a_l_degree a_l_is a_l_entries a_l_put a_l_tried a_l_moved a_l_wider a_l_deed a_law fd_shared fd_split fd_stretched fd_circle fd_Wheel_init fd_Wheel_lowest fd_Wheel_plus fd_Wheel_times fd_Wheel_turned fd_Wheel_exchanged fd_Wheel_backed fd_Wheel_moved fd_Wheel_wider fd_Wheel_whole fd_l_whole fd_l_at fd_l_primes fd_l_nought fd_l_degree fd_l_is fd_l_entries fd_l_put fd_l_tried fd_l_moved fd_l_wider fd_l_deed fd_law) (G_Wheel_init : FnOk P w K mg base (L2.CX P w) 3 a_Wheel_init fd_Wheel_init ["self", "many"] (spI_Wheel ⟨K, cls⟩)) (G_Wheel_lowest : FnOk P w K mg base (L2.CX P w) 2 a_Wheel_lowest fd_Wheel_lowest ["self", "counts"] (spOf ⟨K, cls⟩ T_Wheel_lowest)) (G_Wheel_whole : FnOk P w K mg base (L2.CX P w) 1 a_Wheel_whole fd_Wheel_whole ["self", "one"] (spOf ⟨K, cls⟩ T_Wheel_whole)) (G_l_whole : FnOk P w K mg base (L2.CX P w) 1 a_l_whole fd_l_whole ["_law_found"] (spOf ⟨K, cls⟩ T_l_whole)) (G_l_at : FnOk P w K mg base (L2.CX P w) 1 a_l_at fd_l_at ["_law_script", "_law_k"] (spOf ⟨K, cls⟩ T_l_at)) (G_l_is : FnOk P w K mg base (L2.CX P w) 3 a_l_is fd_l_is ["_law_found", "_law_counts", "_law_many"] (spOf ⟨K, cls⟩ T_l_is)) (G_l_deed : FnOk P w K mg base (L2.CX P w) 8 a_l_deed fd_l_deed ["_law_wheel", "_law_found", "_law_counts", "_law_cell"] (spOf ⟨K, cls⟩ T_l_deed)) : FnOk P w K mg base (L2.CX P w) 9 a_law fd_law ["_law_script"] (spOf ⟨K, cls⟩ T_law) := by
  refine T.F_law.okX sc_law (spOf_len (n := 1) (ar_law)) (fun cdv A outer s H vs Q E hr h => ⟨t_law ⟨K, cls⟩ (fun c d _ H => E c d H), ?_, spOf_run (N := ["_law_script", "_law_many", "_law_wheel", "_law_counts", "_law_found", "_law_held", "_law_cell", "_law_told", "_law_one", "_law_other", "_law_number"]) (t := fun E => t_law ⟨K, cls⟩ (fun c d _ H => E c d H)) (fun ss ok er hT => by rw [ar_law ss ok er hT]; decide) (fun E ss ok er hT => w_law T.whlC _ ss ok er hT) vs H Q E h⟩)
  unfold t_law
  exact (pss_cons (ps_set (i := 1) sc_law.nd (by rfl) (Or.inl rfl) (pe_op go_add pe_int (pe_op go_mod (pe_op go_div (pe_callSD G_l_at (hr.mono (by decide)) (by rfl) T.g_l_at T.k_l_at T.b_l_at .nil (fun σ => passAt (takes_of rfl rfl rfl rfl) σ) (pa_cons (pv 0) (pa_cons pe_int pa_nil))) pe_int) pe_int)))
  (pss_cons (ps_if (pt_cmpR (go_eq (hu64 hr)) (pe_op go_mod (pe_callSD G_l_at (hr.mono (by decide)) (by rfl) T.g_l_at T.k_l_at T.b_l_at .nil (fun σ => passAt (takes_of rfl rfl rfl rfl) σ) (pa_cons (pv 0) (pa_cons pe_int pa_nil))) pe_int) pe_int (nomark _))
  (pss_one (ps_set (i := 1) sc_law.nd (by rfl) (Or.inl rfl) (pe_op go_add pe_int (pe_op go_mod (pe_op go_div (pe_callSD G_l_at (hr.mono (by decide)) (by rfl) T.g_l_at T.k_l_at T.b_l_at .nil (fun σ => passAt (takes_of rfl rfl rfl rfl) σ) (pa_cons (pv 0) (pa_cons pe_int pa_nil))) pe_int) pe_int))))
  pss_nil)
  (pss_cons (ps_set (i := 2) sc_law.nd (by rfl) (Or.inl rfl) (pe_makeSD T.M_Wheel G_Wheel_init (hr.mono (by decide)) (by rfl) T.g_Wheel T.b_Wheel_init .nil (fun σ => passAt (takes_of rfl rfl rfl rfl) σ) (pa_cons (pv 1) pa_nil)))
  (pss_cons (ps_set (i := 3) sc_law.nd (by rfl) (Or.inl rfl) (pe_op go_mul (pe_lst (pa_cons pe_int pa_nil)) (pv 1)))
  (pss_cons (ps_set (i := 4) sc_law.nd (by rfl) (Or.inl rfl) (pe_methSD (pv 2) T.C_Wheel T.m_Wheel_lowest G_Wheel_lowest (hr.mono (by decide)) T.b_Wheel_lowest .nil (fun σ => passAt (takes_of rfl rfl rfl rfl) σ) (pa_cons (pe_lst pa_nil) pa_nil)))
  (pss_cons (ps_set (i := 5) sc_law.nd (by rfl) (Or.inl rfl) (pe_lst pa_nil))
  (pss_cons (ps_for (passes_of rfl) (by rfl) (pi_list (pe_op go_add (pe_lst (pa_cons pe_int pa_nil)) (pe_slice sl_list (pv 0) (po_some pe_int) (po_some pe_int)))) (pg_name (i := 6) sc_law.nd (by rfl) (Or.inl rfl))
  (pss_cons (ps_asg (pe_callSD G_l_deed (hr.mono (by decide)) (by rfl) T.g_l_deed T.k_l_deed T.b_l_deed .nil (fun σ => passAt (takes_of rfl rfl rfl rfl) σ) (pa_cons (pv 2) (pa_cons (pv 4) (pa_cons (pv 3) (pa_cons (pv 6) pa_nil))))) (pg_tup (by rfl) (pgs_cons (pg_name (i := 2) sc_law.nd (by rfl) (Or.inl rfl)) (pgs_cons (pg_name (i := 4) sc_law.nd (by rfl) (Or.inl rfl)) (pgs_cons (pg_name (i := 3) sc_law.nd (by rfl) (Or.inl rfl)) pgs_nil)))))
  (pss_cons (ps_if (pt_not (pt_val (pe_callSD G_l_is (hr.mono (by decide)) (by rfl) T.g_l_is T.k_l_is T.b_l_is .nil (fun σ => passAt (takes_of rfl rfl rfl rfl) σ) (pa_cons (pv 4) (pa_cons (pv 3) (pa_cons (pe_callB gc_len (by rfl) T.b_len (by decide +kernel) (pa_cons (pv 3) pa_nil)) pa_nil))))))
  (pss_one (ps_ret pe_bl))
  pss_nil)
  (pss_one (ps_expr (pe_bm PySem.F.plainAttrs_list PySem.F.slot_list_append PySem.F.type_list_append mt_append (pv 5) (pa_cons (pe_tup (pa_cons (pv 4) (pa_cons (pe_callTy gc_list (by rfl) T.b_list (by decide +kernel) (pa_cons (pv 4) pa_nil)) pa_nil))) pa_nil)))))))
  (pss_cons (ps_set (i := 7) sc_law.nd (by rfl) (Or.inl rfl) (pe_methSD (pv 2) T.C_Wheel T.m_Wheel_whole G_Wheel_whole (hr.mono (by decide)) T.b_Wheel_whole .nil (fun σ => passAt (takes_of rfl rfl rfl rfl) σ) (pa_cons (pv 4) pa_nil)))
  (pss_cons (ps_if (pt_not (pt_val (pe_callB (cr_all (by rfl)) (by rfl) T.b_all (by decide +kernel) (pa_cons (pe_lc (by rfl) sc_law.nd (pi_list (pv 5)) (blkOk_by (own := [("_law_one", 8), ("_law_other", 9)]) (by (show blkC ["_law_script", "_law_many", "_law_wheel", "_law_counts", "_law_found", "_law_held", "_law_cell", "_law_told", "_law_one", "_law_other", "_law_number"] (defScope s_law) _ _ = true); decide +kernel)) (fun _ _ _ _ _ => (pg_tup (by rfl) (pgs_cons (pg_name (i := 8) sc_law.nd (by rfl) (Or.inl rfl)) (pgs_cons (pg_name (i := 9) sc_law.nd (by rfl) (Or.inl rfl)) pgs_nil)))) (fun _ _ _ _ _ => pts_nil) (fun _ _ _ _ _ => (pe_cmpR (go_eq (hu64 hr)) (pv 8) (pv 9) (nomark _)))) pa_nil))))
  (pss_one (ps_ret pe_bl))
  pss_nil)
  (pss_cons (ps_if (pt_val (pe_callB (cr_all (by rfl)) (by rfl) T.b_all (by decide +kernel) (pa_cons (pe_lc (by rfl) sc_law.nd (pi_list (pe_slice sl_list (pv 4) (po_some pe_int) po_none)) (blkOk_by (own := [("_law_number", 10)]) (by (show blkC ["_law_script", "_law_many", "_law_wheel", "_law_counts", "_law_found", "_law_held", "_law_cell", "_law_told", "_law_one", "_law_other", "_law_number"] (defScope s_law) _ _ = true); decide +kernel)) (fun _ _ _ _ _ => (pg_name (i := 10) sc_law.nd (by rfl) (Or.inl rfl))) (fun _ _ _ _ _ => pts_nil) (fun _ _ _ _ _ => (pe_cmpR (go_eq (hu64 hr)) (pv 10) pe_int (nomark _)))) pa_nil)))
  (pss_one (ps_ret (pe_and (pe_callSD G_l_whole (hr.mono (by decide)) (by rfl) T.g_l_whole T.k_l_whole T.b_l_whole .nil (fun σ => passAt (takes_of rfl rfl rfl rfl) σ) (pa_cons (pv 7) pa_nil)) (pe_one (pe_cmpR (go_eq (hu64 hr)) (pv 7) (pe_ix (go_ix (hu1 hr)) (pv 4) pe_int (fun _ _ => rfl)) (nomark _))))))
  pss_nil)
  (pss_one (ps_ret (pe_cmpR go_is (pv 7) pe_non (nomark _))))))))))))))
end
set_option maxHeartbeats 0 in
theorem all_mk {l : PySem.W.OpenLaw} {w : World} {K : PySem.W.Frag} {h : Heap} {mg : Str → Option Value} {fa a_shared a_split a_stretched a_circle a_Wheel_init a_Wheel_lowest a_Wheel_plus a_Wheel_times a_Wheel_turned a_Wheel_exchanged a_Wheel_backed a_Wheel_moved a_Wheel_wider a_Wheel_whole a_l_whole a_l_at a_l_primes a_l_nought a_l_degree a_l_is a_l_entries a_l_put a_l_tried a_l_moved a_l_wider a_l_deed a_law c_BookError c_BadWheel c_NoMove c_Wheel : Addr} (X : K.In h) (G : h.Ns mainGlobals mg) (hfa : mg "law" = some (.ref fa))
  {od_shared an_shared : Option Addr} {sl_shared : Array (Option Value)} {oc_shared kV_shared dc_shared pm_shared cd_shared ct_shared : Value}
  {od_split an_split : Option Addr} {sl_split : Array (Option Value)} {oc_split kV_split dc_split pm_split cd_split ct_split : Value}
  {od_stretched an_stretched : Option Addr} {sl_stretched : Array (Option Value)} {oc_stretched kV_stretched dc_stretched pm_stretched cd_stretched ct_stretched : Value}
  {od_circle an_circle : Option Addr} {sl_circle : Array (Option Value)} {oc_circle kV_circle dc_circle pm_circle cd_circle ct_circle : Value}
  {od_Wheel_init an_Wheel_init : Option Addr} {sl_Wheel_init : Array (Option Value)} {oc_Wheel_init kV_Wheel_init dc_Wheel_init pm_Wheel_init cd_Wheel_init ct_Wheel_init : Value}
  {od_Wheel_lowest an_Wheel_lowest : Option Addr} {sl_Wheel_lowest : Array (Option Value)} {oc_Wheel_lowest kV_Wheel_lowest dc_Wheel_lowest pm_Wheel_lowest cd_Wheel_lowest ct_Wheel_lowest : Value}
  {od_Wheel_plus an_Wheel_plus : Option Addr} {sl_Wheel_plus : Array (Option Value)} {oc_Wheel_plus kV_Wheel_plus dc_Wheel_plus pm_Wheel_plus cd_Wheel_plus ct_Wheel_plus : Value}
  {od_Wheel_times an_Wheel_times : Option Addr} {sl_Wheel_times : Array (Option Value)} {oc_Wheel_times kV_Wheel_times dc_Wheel_times pm_Wheel_times cd_Wheel_times ct_Wheel_times : Value}
  {od_Wheel_turned an_Wheel_turned : Option Addr} {sl_Wheel_turned : Array (Option Value)} {oc_Wheel_turned kV_Wheel_turned dc_Wheel_turned pm_Wheel_turned cd_Wheel_turned ct_Wheel_turned : Value}
  {od_Wheel_exchanged an_Wheel_exchanged : Option Addr} {sl_Wheel_exchanged : Array (Option Value)} {oc_Wheel_exchanged kV_Wheel_exchanged dc_Wheel_exchanged pm_Wheel_exchanged cd_Wheel_exchanged ct_Wheel_exchanged : Value}
  {od_Wheel_backed an_Wheel_backed : Option Addr} {sl_Wheel_backed : Array (Option Value)} {oc_Wheel_backed kV_Wheel_backed dc_Wheel_backed pm_Wheel_backed cd_Wheel_backed ct_Wheel_backed : Value}
  {od_Wheel_moved an_Wheel_moved : Option Addr} {sl_Wheel_moved : Array (Option Value)} {oc_Wheel_moved kV_Wheel_moved dc_Wheel_moved pm_Wheel_moved cd_Wheel_moved ct_Wheel_moved : Value}
  {od_Wheel_wider an_Wheel_wider : Option Addr} {sl_Wheel_wider : Array (Option Value)} {oc_Wheel_wider kV_Wheel_wider dc_Wheel_wider pm_Wheel_wider cd_Wheel_wider ct_Wheel_wider : Value}
  {od_Wheel_whole an_Wheel_whole : Option Addr} {sl_Wheel_whole : Array (Option Value)} {oc_Wheel_whole kV_Wheel_whole dc_Wheel_whole pm_Wheel_whole cd_Wheel_whole ct_Wheel_whole : Value}
  {od_l_whole an_l_whole : Option Addr} {sl_l_whole : Array (Option Value)} {oc_l_whole kV_l_whole dc_l_whole pm_l_whole cd_l_whole ct_l_whole : Value}
  {od_l_at an_l_at : Option Addr} {sl_l_at : Array (Option Value)} {oc_l_at kV_l_at dc_l_at pm_l_at cd_l_at ct_l_at : Value}
  {od_l_primes an_l_primes : Option Addr} {sl_l_primes : Array (Option Value)} {oc_l_primes kV_l_primes dc_l_primes pm_l_primes cd_l_primes ct_l_primes : Value}
  {od_l_nought an_l_nought : Option Addr} {sl_l_nought : Array (Option Value)} {oc_l_nought kV_l_nought dc_l_nought pm_l_nought cd_l_nought ct_l_nought : Value}
  {od_l_degree an_l_degree : Option Addr} {sl_l_degree : Array (Option Value)} {oc_l_degree kV_l_degree dc_l_degree pm_l_degree cd_l_degree ct_l_degree : Value}
  {od_l_is an_l_is : Option Addr} {sl_l_is : Array (Option Value)} {oc_l_is kV_l_is dc_l_is pm_l_is cd_l_is ct_l_is : Value}
  {od_l_entries an_l_entries : Option Addr} {sl_l_entries : Array (Option Value)} {oc_l_entries kV_l_entries dc_l_entries pm_l_entries cd_l_entries ct_l_entries : Value}
  {od_l_put an_l_put : Option Addr} {sl_l_put : Array (Option Value)} {oc_l_put kV_l_put dc_l_put pm_l_put cd_l_put ct_l_put : Value}
  {od_l_tried an_l_tried : Option Addr} {sl_l_tried : Array (Option Value)} {oc_l_tried kV_l_tried dc_l_tried pm_l_tried cd_l_tried ct_l_tried : Value}
  {od_l_moved an_l_moved : Option Addr} {sl_l_moved : Array (Option Value)} {oc_l_moved kV_l_moved dc_l_moved pm_l_moved cd_l_moved ct_l_moved : Value}
  {od_l_wider an_l_wider : Option Addr} {sl_l_wider : Array (Option Value)} {oc_l_wider kV_l_wider dc_l_wider pm_l_wider cd_l_wider ct_l_wider : Value}
  {od_l_deed an_l_deed : Option Addr} {sl_l_deed : Array (Option Value)} {oc_l_deed kV_l_deed dc_l_deed pm_l_deed cd_l_deed ct_l_deed : Value}
  {od_law an_law : Option Addr} {sl_law : Array (Option Value)} {oc_law kV_law dc_law pm_law cd_law ct_law : Value}
  {tok_WIDEST : Tok}
  {cdX_BookError : ClassData}
  {cdX_BadWheel : ClassData}
  {cdX_NoMove : ClassData}
  (ac_BookError : PySem.W.nsIn K mainGlobals "BookError" = some (some (.ref c_BookError)))
  (ac_BadWheel : PySem.W.nsIn K mainGlobals "BadWheel" = some (some (.ref c_BadWheel)))
  (ac_NoMove : PySem.W.nsIn K mainGlobals "NoMove" = some (some (.ref c_NoMove)))
  (ac_Wheel : PySem.W.nsIn K mainGlobals "Wheel" = some (some (.ref c_Wheel)))
  (a1_shared : PySem.W.nsIn K mainGlobals "shared" = some (some (.ref a_shared)))
  (l1_shared : K.lookup a_shared = some ⟨oc_shared, od_shared, .func (PySem.W.fnOf "shared" "shared" (defArgs s_shared) (defBody s_shared) (defScope s_shared) .none kV_shared dc_shared pm_shared an_shared cd_shared ct_shared), sl_shared⟩)
  (c1_shared : PySem.W.codeIn K cd_shared "shared" = true)
  (k1_shared : PySem.W.keepIn K (.ref a_shared) = true)
  (a1_split : PySem.W.nsIn K mainGlobals "split" = some (some (.ref a_split)))
  (l1_split : K.lookup a_split = some ⟨oc_split, od_split, .func (PySem.W.fnOf "split" "split" (defArgs s_split) (defBody s_split) (defScope s_split) .none kV_split dc_split pm_split an_split cd_split ct_split), sl_split⟩)
  (c1_split : PySem.W.codeIn K cd_split "split" = true)
  (k1_split : PySem.W.keepIn K (.ref a_split) = true)
  (a1_stretched : PySem.W.nsIn K mainGlobals "stretched" = some (some (.ref a_stretched)))
  (l1_stretched : K.lookup a_stretched = some ⟨oc_stretched, od_stretched, .func (PySem.W.fnOf "stretched" "stretched" (defArgs s_stretched) (defBody s_stretched) (defScope s_stretched) .none kV_stretched dc_stretched pm_stretched an_stretched cd_stretched ct_stretched), sl_stretched⟩)
  (c1_stretched : PySem.W.codeIn K cd_stretched "stretched" = true)
  (k1_stretched : PySem.W.keepIn K (.ref a_stretched) = true)
  (a1_circle : PySem.W.nsIn K mainGlobals "circle" = some (some (.ref a_circle)))
  (l1_circle : K.lookup a_circle = some ⟨oc_circle, od_circle, .func (PySem.W.fnOf "circle" "circle" (defArgs s_circle) (defBody s_circle) (defScope s_circle) .none kV_circle dc_circle pm_circle an_circle cd_circle ct_circle), sl_circle⟩)
  (c1_circle : PySem.W.codeIn K cd_circle "circle" = true)
  (k1_circle : PySem.W.keepIn K (.ref a_circle) = true)
  (a1_Wheel_init : PySem.W.findIn K (.ref c_Wheel) "__init__" = some (some (.ref a_Wheel_init)))
  (i1_Wheel_init : PySem.W.isFn K (.ref a_Wheel_init) = true)
  (l1_Wheel_init : K.lookup a_Wheel_init = some ⟨oc_Wheel_init, od_Wheel_init, .func (PySem.W.fnOf "__init__" "Wheel.__init__" (defArgs s_Wheel_init) (defBody s_Wheel_init) (defScope s_Wheel_init) .none kV_Wheel_init dc_Wheel_init pm_Wheel_init an_Wheel_init cd_Wheel_init ct_Wheel_init), sl_Wheel_init⟩)
  (c1_Wheel_init : PySem.W.codeIn K cd_Wheel_init "Wheel.__init__" = true)
  (k1_Wheel_init : PySem.W.keepIn K (.ref a_Wheel_init) = true)
  (a1_Wheel_lowest : PySem.W.findIn K (.ref c_Wheel) "lowest" = some (some (.ref a_Wheel_lowest)))
  (i1_Wheel_lowest : PySem.W.isFn K (.ref a_Wheel_lowest) = true)
  (l1_Wheel_lowest : K.lookup a_Wheel_lowest = some ⟨oc_Wheel_lowest, od_Wheel_lowest, .func (PySem.W.fnOf "lowest" "Wheel.lowest" (defArgs s_Wheel_lowest) (defBody s_Wheel_lowest) (defScope s_Wheel_lowest) .none kV_Wheel_lowest dc_Wheel_lowest pm_Wheel_lowest an_Wheel_lowest cd_Wheel_lowest ct_Wheel_lowest), sl_Wheel_lowest⟩)
  (c1_Wheel_lowest : PySem.W.codeIn K cd_Wheel_lowest "Wheel.lowest" = true)
  (k1_Wheel_lowest : PySem.W.keepIn K (.ref a_Wheel_lowest) = true)
  (a1_Wheel_plus : PySem.W.findIn K (.ref c_Wheel) "plus" = some (some (.ref a_Wheel_plus)))
  (i1_Wheel_plus : PySem.W.isFn K (.ref a_Wheel_plus) = true)
  (l1_Wheel_plus : K.lookup a_Wheel_plus = some ⟨oc_Wheel_plus, od_Wheel_plus, .func (PySem.W.fnOf "plus" "Wheel.plus" (defArgs s_Wheel_plus) (defBody s_Wheel_plus) (defScope s_Wheel_plus) .none kV_Wheel_plus dc_Wheel_plus pm_Wheel_plus an_Wheel_plus cd_Wheel_plus ct_Wheel_plus), sl_Wheel_plus⟩)
  (c1_Wheel_plus : PySem.W.codeIn K cd_Wheel_plus "Wheel.plus" = true)
  (k1_Wheel_plus : PySem.W.keepIn K (.ref a_Wheel_plus) = true)
  (a1_Wheel_times : PySem.W.findIn K (.ref c_Wheel) "times" = some (some (.ref a_Wheel_times)))
  (i1_Wheel_times : PySem.W.isFn K (.ref a_Wheel_times) = true)
  (l1_Wheel_times : K.lookup a_Wheel_times = some ⟨oc_Wheel_times, od_Wheel_times, .func (PySem.W.fnOf "times" "Wheel.times" (defArgs s_Wheel_times) (defBody s_Wheel_times) (defScope s_Wheel_times) .none kV_Wheel_times dc_Wheel_times pm_Wheel_times an_Wheel_times cd_Wheel_times ct_Wheel_times), sl_Wheel_times⟩)
  (c1_Wheel_times : PySem.W.codeIn K cd_Wheel_times "Wheel.times" = true)
  (k1_Wheel_times : PySem.W.keepIn K (.ref a_Wheel_times) = true)
  (a1_Wheel_turned : PySem.W.findIn K (.ref c_Wheel) "turned" = some (some (.ref a_Wheel_turned)))
  (i1_Wheel_turned : PySem.W.isFn K (.ref a_Wheel_turned) = true)
  (l1_Wheel_turned : K.lookup a_Wheel_turned = some ⟨oc_Wheel_turned, od_Wheel_turned, .func (PySem.W.fnOf "turned" "Wheel.turned" (defArgs s_Wheel_turned) (defBody s_Wheel_turned) (defScope s_Wheel_turned) .none kV_Wheel_turned dc_Wheel_turned pm_Wheel_turned an_Wheel_turned cd_Wheel_turned ct_Wheel_turned), sl_Wheel_turned⟩)
  (c1_Wheel_turned : PySem.W.codeIn K cd_Wheel_turned "Wheel.turned" = true)
  (k1_Wheel_turned : PySem.W.keepIn K (.ref a_Wheel_turned) = true)
  (a1_Wheel_exchanged : PySem.W.findIn K (.ref c_Wheel) "exchanged" = some (some (.ref a_Wheel_exchanged)))
  (i1_Wheel_exchanged : PySem.W.isFn K (.ref a_Wheel_exchanged) = true)
  (l1_Wheel_exchanged : K.lookup a_Wheel_exchanged = some ⟨oc_Wheel_exchanged, od_Wheel_exchanged, .func (PySem.W.fnOf "exchanged" "Wheel.exchanged" (defArgs s_Wheel_exchanged) (defBody s_Wheel_exchanged) (defScope s_Wheel_exchanged) .none kV_Wheel_exchanged dc_Wheel_exchanged pm_Wheel_exchanged an_Wheel_exchanged cd_Wheel_exchanged ct_Wheel_exchanged), sl_Wheel_exchanged⟩)
  (c1_Wheel_exchanged : PySem.W.codeIn K cd_Wheel_exchanged "Wheel.exchanged" = true)
  (k1_Wheel_exchanged : PySem.W.keepIn K (.ref a_Wheel_exchanged) = true)
  (a1_Wheel_backed : PySem.W.findIn K (.ref c_Wheel) "backed" = some (some (.ref a_Wheel_backed)))
  (i1_Wheel_backed : PySem.W.isFn K (.ref a_Wheel_backed) = true)
  (l1_Wheel_backed : K.lookup a_Wheel_backed = some ⟨oc_Wheel_backed, od_Wheel_backed, .func (PySem.W.fnOf "backed" "Wheel.backed" (defArgs s_Wheel_backed) (defBody s_Wheel_backed) (defScope s_Wheel_backed) .none kV_Wheel_backed dc_Wheel_backed pm_Wheel_backed an_Wheel_backed cd_Wheel_backed ct_Wheel_backed), sl_Wheel_backed⟩)
  (c1_Wheel_backed : PySem.W.codeIn K cd_Wheel_backed "Wheel.backed" = true)
  (k1_Wheel_backed : PySem.W.keepIn K (.ref a_Wheel_backed) = true)
  (a1_Wheel_moved : PySem.W.findIn K (.ref c_Wheel) "moved" = some (some (.ref a_Wheel_moved)))
  (i1_Wheel_moved : PySem.W.isFn K (.ref a_Wheel_moved) = true)
  (l1_Wheel_moved : K.lookup a_Wheel_moved = some ⟨oc_Wheel_moved, od_Wheel_moved, .func (PySem.W.fnOf "moved" "Wheel.moved" (defArgs s_Wheel_moved) (defBody s_Wheel_moved) (defScope s_Wheel_moved) .none kV_Wheel_moved dc_Wheel_moved pm_Wheel_moved an_Wheel_moved cd_Wheel_moved ct_Wheel_moved), sl_Wheel_moved⟩)
  (c1_Wheel_moved : PySem.W.codeIn K cd_Wheel_moved "Wheel.moved" = true)
  (k1_Wheel_moved : PySem.W.keepIn K (.ref a_Wheel_moved) = true)
  (a1_Wheel_wider : PySem.W.findIn K (.ref c_Wheel) "wider" = some (some (.ref a_Wheel_wider)))
  (i1_Wheel_wider : PySem.W.isFn K (.ref a_Wheel_wider) = true)
  (l1_Wheel_wider : K.lookup a_Wheel_wider = some ⟨oc_Wheel_wider, od_Wheel_wider, .func (PySem.W.fnOf "wider" "Wheel.wider" (defArgs s_Wheel_wider) (defBody s_Wheel_wider) (defScope s_Wheel_wider) .none kV_Wheel_wider dc_Wheel_wider pm_Wheel_wider an_Wheel_wider cd_Wheel_wider ct_Wheel_wider), sl_Wheel_wider⟩)
  (c1_Wheel_wider : PySem.W.codeIn K cd_Wheel_wider "Wheel.wider" = true)
  (k1_Wheel_wider : PySem.W.keepIn K (.ref a_Wheel_wider) = true)
  (a1_Wheel_whole : PySem.W.findIn K (.ref c_Wheel) "whole" = some (some (.ref a_Wheel_whole)))
  (i1_Wheel_whole : PySem.W.isFn K (.ref a_Wheel_whole) = true)
  (l1_Wheel_whole : K.lookup a_Wheel_whole = some ⟨oc_Wheel_whole, od_Wheel_whole, .func (PySem.W.fnOf "whole" "Wheel.whole" (defArgs s_Wheel_whole) (defBody s_Wheel_whole) (defScope s_Wheel_whole) .none kV_Wheel_whole dc_Wheel_whole pm_Wheel_whole an_Wheel_whole cd_Wheel_whole ct_Wheel_whole), sl_Wheel_whole⟩)
  (c1_Wheel_whole : PySem.W.codeIn K cd_Wheel_whole "Wheel.whole" = true)
  (k1_Wheel_whole : PySem.W.keepIn K (.ref a_Wheel_whole) = true)
  (a1_l_whole : PySem.W.nsIn K mainGlobals "_law_whole" = some (some (.ref a_l_whole)))
  (l1_l_whole : K.lookup a_l_whole = some ⟨oc_l_whole, od_l_whole, .func (PySem.W.fnOf "_law_whole" "_law_whole" (defArgs s_l_whole) (defBody s_l_whole) (defScope s_l_whole) .none kV_l_whole dc_l_whole pm_l_whole an_l_whole cd_l_whole ct_l_whole), sl_l_whole⟩)
  (c1_l_whole : PySem.W.codeIn K cd_l_whole "_law_whole" = true)
  (k1_l_whole : PySem.W.keepIn K (.ref a_l_whole) = true)
  (a1_l_at : PySem.W.nsIn K mainGlobals "_law_at" = some (some (.ref a_l_at)))
  (l1_l_at : K.lookup a_l_at = some ⟨oc_l_at, od_l_at, .func (PySem.W.fnOf "_law_at" "_law_at" (defArgs s_l_at) (defBody s_l_at) (defScope s_l_at) .none kV_l_at dc_l_at pm_l_at an_l_at cd_l_at ct_l_at), sl_l_at⟩)
  (c1_l_at : PySem.W.codeIn K cd_l_at "_law_at" = true)
  (k1_l_at : PySem.W.keepIn K (.ref a_l_at) = true)
  (a1_l_primes : PySem.W.nsIn K mainGlobals "_law_primes" = some (some (.ref a_l_primes)))
  (l1_l_primes : K.lookup a_l_primes = some ⟨oc_l_primes, od_l_primes, .func (PySem.W.fnOf "_law_primes" "_law_primes" (defArgs s_l_primes) (defBody s_l_primes) (defScope s_l_primes) .none kV_l_primes dc_l_primes pm_l_primes an_l_primes cd_l_primes ct_l_primes), sl_l_primes⟩)
  (c1_l_primes : PySem.W.codeIn K cd_l_primes "_law_primes" = true)
  (k1_l_primes : PySem.W.keepIn K (.ref a_l_primes) = true)
  (a1_l_nought : PySem.W.nsIn K mainGlobals "_law_nought" = some (some (.ref a_l_nought)))
  (l1_l_nought : K.lookup a_l_nought = some ⟨oc_l_nought, od_l_nought, .func (PySem.W.fnOf "_law_nought" "_law_nought" (defArgs s_l_nought) (defBody s_l_nought) (defScope s_l_nought) .none kV_l_nought dc_l_nought pm_l_nought an_l_nought cd_l_nought ct_l_nought), sl_l_nought⟩)
  (c1_l_nought : PySem.W.codeIn K cd_l_nought "_law_nought" = true)
  (k1_l_nought : PySem.W.keepIn K (.ref a_l_nought) = true)
  (a1_l_degree : PySem.W.nsIn K mainGlobals "_law_degree" = some (some (.ref a_l_degree)))
  (l1_l_degree : K.lookup a_l_degree = some ⟨oc_l_degree, od_l_degree, .func (PySem.W.fnOf "_law_degree" "_law_degree" (defArgs s_l_degree) (defBody s_l_degree) (defScope s_l_degree) .none kV_l_degree dc_l_degree pm_l_degree an_l_degree cd_l_degree ct_l_degree), sl_l_degree⟩)
  (c1_l_degree : PySem.W.codeIn K cd_l_degree "_law_degree" = true)
  (k1_l_degree : PySem.W.keepIn K (.ref a_l_degree) = true)
  (a1_l_is : PySem.W.nsIn K mainGlobals "_law_is" = some (some (.ref a_l_is)))
  (l1_l_is : K.lookup a_l_is = some ⟨oc_l_is, od_l_is, .func (PySem.W.fnOf "_law_is" "_law_is" (defArgs s_l_is) (defBody s_l_is) (defScope s_l_is) .none kV_l_is dc_l_is pm_l_is an_l_is cd_l_is ct_l_is), sl_l_is⟩)
  (c1_l_is : PySem.W.codeIn K cd_l_is "_law_is" = true)
  (k1_l_is : PySem.W.keepIn K (.ref a_l_is) = true)
  (a1_l_entries : PySem.W.nsIn K mainGlobals "_law_entries" = some (some (.ref a_l_entries)))
  (l1_l_entries : K.lookup a_l_entries = some ⟨oc_l_entries, od_l_entries, .func (PySem.W.fnOf "_law_entries" "_law_entries" (defArgs s_l_entries) (defBody s_l_entries) (defScope s_l_entries) .none kV_l_entries dc_l_entries pm_l_entries an_l_entries cd_l_entries ct_l_entries), sl_l_entries⟩)
  (c1_l_entries : PySem.W.codeIn K cd_l_entries "_law_entries" = true)
  (k1_l_entries : PySem.W.keepIn K (.ref a_l_entries) = true)
  (a1_l_put : PySem.W.nsIn K mainGlobals "_law_put" = some (some (.ref a_l_put)))
  (l1_l_put : K.lookup a_l_put = some ⟨oc_l_put, od_l_put, .func (PySem.W.fnOf "_law_put" "_law_put" (defArgs s_l_put) (defBody s_l_put) (defScope s_l_put) .none kV_l_put dc_l_put pm_l_put an_l_put cd_l_put ct_l_put), sl_l_put⟩)
  (c1_l_put : PySem.W.codeIn K cd_l_put "_law_put" = true)
  (k1_l_put : PySem.W.keepIn K (.ref a_l_put) = true)
  (a1_l_tried : PySem.W.nsIn K mainGlobals "_law_tried" = some (some (.ref a_l_tried)))
  (l1_l_tried : K.lookup a_l_tried = some ⟨oc_l_tried, od_l_tried, .func (PySem.W.fnOf "_law_tried" "_law_tried" (defArgs s_l_tried) (defBody s_l_tried) (defScope s_l_tried) .none kV_l_tried dc_l_tried pm_l_tried an_l_tried cd_l_tried ct_l_tried), sl_l_tried⟩)
  (c1_l_tried : PySem.W.codeIn K cd_l_tried "_law_tried" = true)
  (k1_l_tried : PySem.W.keepIn K (.ref a_l_tried) = true)
  (a1_l_moved : PySem.W.nsIn K mainGlobals "_law_moved" = some (some (.ref a_l_moved)))
  (l1_l_moved : K.lookup a_l_moved = some ⟨oc_l_moved, od_l_moved, .func (PySem.W.fnOf "_law_moved" "_law_moved" (defArgs s_l_moved) (defBody s_l_moved) (defScope s_l_moved) .none kV_l_moved dc_l_moved pm_l_moved an_l_moved cd_l_moved ct_l_moved), sl_l_moved⟩)
  (c1_l_moved : PySem.W.codeIn K cd_l_moved "_law_moved" = true)
  (k1_l_moved : PySem.W.keepIn K (.ref a_l_moved) = true)
  (a1_l_wider : PySem.W.nsIn K mainGlobals "_law_wider" = some (some (.ref a_l_wider)))
  (l1_l_wider : K.lookup a_l_wider = some ⟨oc_l_wider, od_l_wider, .func (PySem.W.fnOf "_law_wider" "_law_wider" (defArgs s_l_wider) (defBody s_l_wider) (defScope s_l_wider) .none kV_l_wider dc_l_wider pm_l_wider an_l_wider cd_l_wider ct_l_wider), sl_l_wider⟩)
  (c1_l_wider : PySem.W.codeIn K cd_l_wider "_law_wider" = true)
  (k1_l_wider : PySem.W.keepIn K (.ref a_l_wider) = true)
  (a1_l_deed : PySem.W.nsIn K mainGlobals "_law_deed" = some (some (.ref a_l_deed)))
  (l1_l_deed : K.lookup a_l_deed = some ⟨oc_l_deed, od_l_deed, .func (PySem.W.fnOf "_law_deed" "_law_deed" (defArgs s_l_deed) (defBody s_l_deed) (defScope s_l_deed) .none kV_l_deed dc_l_deed pm_l_deed an_l_deed cd_l_deed ct_l_deed), sl_l_deed⟩)
  (c1_l_deed : PySem.W.codeIn K cd_l_deed "_law_deed" = true)
  (k1_l_deed : PySem.W.keepIn K (.ref a_l_deed) = true)
  (a1_law : PySem.W.nsIn K mainGlobals "law" = some (some (.ref a_law)))
  (l1_law : K.lookup a_law = some ⟨oc_law, od_law, .func (PySem.W.fnOf "law" "law" (defArgs s_law) (defBody s_law) (defScope s_law) .none kV_law dc_law pm_law an_law cd_law ct_law), sl_law⟩)
  (c1_law : PySem.W.codeIn K cd_law "law" = true)
  (k1_law : PySem.W.keepIn K (.ref a_law) = true)
  (z_all : PySem.W.nsIn K mainGlobals "all" = some none)
  (z_any : PySem.W.nsIn K mainGlobals "any" = some none)
  (z_bool : PySem.W.nsIn K mainGlobals "bool" = some none)
  (z_enumerate : PySem.W.nsIn K mainGlobals "enumerate" = some none)
  (z_int : PySem.W.nsIn K mainGlobals "int" = some none)
  (z_isinstance : PySem.W.nsIn K mainGlobals "isinstance" = some none)
  (z_len : PySem.W.nsIn K mainGlobals "len" = some none)
  (z_list : PySem.W.nsIn K mainGlobals "list" = some none)
  (z_range : PySem.W.nsIn K mainGlobals "range" = some none)
  (z_zip : PySem.W.nsIn K mainGlobals "zip" = some none)
  (v_WIDEST : PySem.W.nsIn K mainGlobals "WIDEST" = some (some (.int 60 tok_WIDEST)))
  (mk_Wheel : PySem.W.makesIn K c_Wheel = true)
  (kc_Wheel : PySem.W.keepIn K (.ref c_Wheel) = true)
  (pg_Wheel : PySem.W.plainGet K c_Wheel Str.empty = true)
  (hd_Wheel : PySem.W.hasDictIn K c_Wheel = true)
  (po_Wheel : PySem.W.plainOver K c_Wheel = true)
  (sa_Wheel : PySem.W.findIn K (.ref c_Wheel) "__setattr__" = some (some (.builtin "object.__setattr__")))
  (nW_ring : PySem.W.findIn K (.ref c_Wheel) "ring" = some none)
  (nW_spokes : PySem.W.findIn K (.ref c_Wheel) "spokes" = some none)
  (nW_size : PySem.W.findIn K (.ref c_Wheel) "size" = some none)
  (x_BadWheel : PySem.W.excIn K c_BadWheel [.type "ValueError", .type "Exception", .type "BaseException", .type "object"] "ValueError.__new__" = true)
  (kx_BadWheel : PySem.W.keepIn K (.ref c_BadWheel) = true)
  (rx_BadWheel : PySem.W.subIn K (.ref c_BadWheel) (.type "BaseException") = some true)
  (rt_BadWheel : PySem.W.typeIn K (.ref c_BadWheel) = some (.type "type"))
  (x_NoMove : PySem.W.excIn K c_NoMove [.type "ValueError", .type "Exception", .type "BaseException", .type "object"] "ValueError.__new__" = true)
  (kx_NoMove : PySem.W.keepIn K (.ref c_NoMove) = true)
  (rx_NoMove : PySem.W.subIn K (.ref c_NoMove) (.type "BaseException") = some true)
  (rt_NoMove : PySem.W.typeIn K (.ref c_NoMove) = some (.type "type"))
  (clX_BookError : PySem.W.clsIn K c_BookError = some cdX_BookError)
  (mroX_BookError : cdX_BookError.mro = [.ref c_BookError, .type "ValueError", .type "Exception", .type "BaseException", .type "object"])
  (tyX_BookError : PySem.W.typeIn K (.ref c_BookError) = some (.type "type"))
  (hdX_BookError : PySem.W.hasDictIn K c_BookError = true)
  (gaX_BookError : PySem.W.findIn K (.ref c_BookError) "__getattribute__" = some (some (.builtin "BaseException.__getattribute__")))
  (ggX_BookError : PySem.W.findIn K (.ref c_BookError) "__getattr__" = some none)
  (caX_BookError : PySem.W.findIn K (.ref c_BookError) "__class__" = some (some (.builtin "object.__class__")))
  (clX_BadWheel : PySem.W.clsIn K c_BadWheel = some cdX_BadWheel)
  (mroX_BadWheel : cdX_BadWheel.mro = [.ref c_BadWheel, .ref c_BookError, .type "ValueError", .type "Exception", .type "BaseException", .type "object"])
  (tyX_BadWheel : PySem.W.typeIn K (.ref c_BadWheel) = some (.type "type"))
  (hdX_BadWheel : PySem.W.hasDictIn K c_BadWheel = true)
  (gaX_BadWheel : PySem.W.findIn K (.ref c_BadWheel) "__getattribute__" = some (some (.builtin "BaseException.__getattribute__")))
  (ggX_BadWheel : PySem.W.findIn K (.ref c_BadWheel) "__getattr__" = some none)
  (caX_BadWheel : PySem.W.findIn K (.ref c_BadWheel) "__class__" = some (some (.builtin "object.__class__")))
  (clX_NoMove : PySem.W.clsIn K c_NoMove = some cdX_NoMove)
  (mroX_NoMove : cdX_NoMove.mro = [.ref c_NoMove, .ref c_BookError, .type "ValueError", .type "Exception", .type "BaseException", .type "object"])
  (tyX_NoMove : PySem.W.typeIn K (.ref c_NoMove) = some (.type "type"))
  (hdX_NoMove : PySem.W.hasDictIn K c_NoMove = true)
  (gaX_NoMove : PySem.W.findIn K (.ref c_NoMove) "__getattribute__" = some (some (.builtin "BaseException.__getattribute__")))
  (ggX_NoMove : PySem.W.findIn K (.ref c_NoMove) "__getattr__" = some none)
  (caX_NoMove : PySem.W.findIn K (.ref c_NoMove) "__class__" = some (some (.builtin "object.__class__")))
  (xnd : [c_BookError, c_BadWheel, c_NoMove].Nodup)
  (xsg : PySem.W.specialIn K (.builtin "object.__class__") "__get__" = some (some (.builtin "getset_descriptor.__get__")))
  (xtk : PySem.W.takesIn K (.builtin "object.__class__") = some true)
  : ∃ fd : FuncData, (∀ (s : Shared) (v : Value), BindsTo s fd ⟨[v], []⟩ [("_law_script", v)]) ∧ ∀ base : Heap, K.In base → base.Ns mainGlobals mg → FnOk l.prog w K mg base (L2.CX l.prog w) 9 fa fd ["_law_script"] (spLaw K) := by
  have e := (PySem.W.mg_of X G a1_law).symm.trans hfa
  cases e
  obtain ⟨cls, e_BookError, e_BadWheel, e_NoMove, e_Wheel⟩ : ∃ cls : CN → Addr, cls .BookError = c_BookError ∧ cls .BadWheel = c_BadWheel ∧ cls .NoMove = c_NoMove ∧ cls .Wheel = c_Wheel := ⟨fun n => match n with | .BookError => c_BookError | .BadWheel => c_BadWheel | .NoMove => c_NoMove | .Wheel => c_Wheel | _ => 0, rfl, rfl, rfl, rfl⟩
  subst e_BookError
  subst e_BadWheel
  subst e_NoMove
  subst e_Wheel
  have F_shared := fun_mk (st := s_shared) l1_shared c1_shared k1_shared
  have b_shared := F_shared.binds (ps := ["one", "other"]) fun _ _ _ _ _ _ us hl => match us, hl with | [_, _], _ => rfl
  have F_split := fun_mk (st := s_split) l1_split c1_split k1_split
  have b_split := F_split.binds (ps := ["top", "bottom"]) fun _ _ _ _ _ _ us hl => match us, hl with | [_, _], _ => rfl
  have F_stretched := fun_mk (st := s_stretched) l1_stretched c1_stretched k1_stretched
  have b_stretched := F_stretched.binds (ps := ["some", "many"]) fun _ _ _ _ _ _ us hl => match us, hl with | [_, _], _ => rfl
  have F_circle := fun_mk (st := s_circle) l1_circle c1_circle k1_circle
  have b_circle := F_circle.binds (ps := ["many"]) fun _ _ _ _ _ _ us hl => match us, hl with | [_], _ => rfl
  have F_Wheel_init := fun_mk (st := s_Wheel_init) l1_Wheel_init c1_Wheel_init k1_Wheel_init
  have b_Wheel_init := F_Wheel_init.binds (ps := ["self", "many"]) fun _ _ _ _ _ _ us hl => match us, hl with | [_, _], _ => rfl
  have F_Wheel_lowest := fun_mk (st := s_Wheel_lowest) l1_Wheel_lowest c1_Wheel_lowest k1_Wheel_lowest
  have b_Wheel_lowest := F_Wheel_lowest.binds (ps := ["self", "counts"]) fun _ _ _ _ _ _ us hl => match us, hl with | [_, _], _ => rfl
  have F_Wheel_plus := fun_mk (st := s_Wheel_plus) l1_Wheel_plus c1_Wheel_plus k1_Wheel_plus
  have b_Wheel_plus := F_Wheel_plus.binds (ps := ["self", "one", "other"]) fun _ _ _ _ _ _ us hl => match us, hl with | [_, _, _], _ => rfl
  have F_Wheel_times := fun_mk (st := s_Wheel_times) l1_Wheel_times c1_Wheel_times k1_Wheel_times
  have b_Wheel_times := F_Wheel_times.binds (ps := ["self", "one", "other"]) fun _ _ _ _ _ _ us hl => match us, hl with | [_, _, _], _ => rfl
  have F_Wheel_turned := fun_mk (st := s_Wheel_turned) l1_Wheel_turned c1_Wheel_turned k1_Wheel_turned
  have b_Wheel_turned := F_Wheel_turned.binds (ps := ["self", "one", "k"]) fun _ _ _ _ _ _ us hl => match us, hl with | [_, _, _], _ => rfl
  have F_Wheel_exchanged := fun_mk (st := s_Wheel_exchanged) l1_Wheel_exchanged c1_Wheel_exchanged k1_Wheel_exchanged
  have b_Wheel_exchanged := F_Wheel_exchanged.binds (ps := ["self", "one", "j"]) fun _ _ _ _ _ _ us hl => match us, hl with | [_, _, _], _ => rfl
  have F_Wheel_backed := fun_mk (st := s_Wheel_backed) l1_Wheel_backed c1_Wheel_backed k1_Wheel_backed
  have b_Wheel_backed := F_Wheel_backed.binds (ps := ["self", "one"]) fun _ _ _ _ _ _ us hl => match us, hl with | [_, _], _ => rfl
  have F_Wheel_moved := fun_mk (st := s_Wheel_moved) l1_Wheel_moved c1_Wheel_moved k1_Wheel_moved
  have b_Wheel_moved := F_Wheel_moved.binds (ps := ["self", "one", "j"]) fun _ _ _ _ _ _ us hl => match us, hl with | [_, _, _], _ => rfl
  have F_Wheel_wider := fun_mk (st := s_Wheel_wider) l1_Wheel_wider c1_Wheel_wider k1_Wheel_wider
  have b_Wheel_wider := F_Wheel_wider.binds (ps := ["self", "one", "many"]) fun _ _ _ _ _ _ us hl => match us, hl with | [_, _, _], _ => rfl
  have F_Wheel_whole := fun_mk (st := s_Wheel_whole) l1_Wheel_whole c1_Wheel_whole k1_Wheel_whole
  have b_Wheel_whole := F_Wheel_whole.binds (ps := ["self", "one"]) fun _ _ _ _ _ _ us hl => match us, hl with | [_, _], _ => rfl
  have F_l_whole := fun_mk (st := s_l_whole) l1_l_whole c1_l_whole k1_l_whole
  have b_l_whole := F_l_whole.binds (ps := ["_law_found"]) fun _ _ _ _ _ _ us hl => match us, hl with | [_], _ => rfl
  have F_l_at := fun_mk (st := s_l_at) l1_l_at c1_l_at k1_l_at
  have b_l_at := F_l_at.binds (ps := ["_law_script", "_law_k"]) fun _ _ _ _ _ _ us hl => match us, hl with | [_, _], _ => rfl
  have F_l_primes := fun_mk (st := s_l_primes) l1_l_primes c1_l_primes k1_l_primes
  have b_l_primes := F_l_primes.binds (ps := ["_law_many"]) fun _ _ _ _ _ _ us hl => match us, hl with | [_], _ => rfl
  have F_l_nought := fun_mk (st := s_l_nought) l1_l_nought c1_l_nought k1_l_nought
  have b_l_nought := F_l_nought.binds (ps := ["_law_counts", "_law_many"]) fun _ _ _ _ _ _ us hl => match us, hl with | [_, _], _ => rfl
  have F_l_degree := fun_mk (st := s_l_degree) l1_l_degree c1_l_degree k1_l_degree
  have b_l_degree := F_l_degree.binds (ps := ["_law_many"]) fun _ _ _ _ _ _ us hl => match us, hl with | [_], _ => rfl
  have F_l_is := fun_mk (st := s_l_is) l1_l_is c1_l_is k1_l_is
  have b_l_is := F_l_is.binds (ps := ["_law_found", "_law_counts", "_law_many"]) fun _ _ _ _ _ _ us hl => match us, hl with | [_, _, _], _ => rfl
  have F_l_entries := fun_mk (st := s_l_entries) l1_l_entries c1_l_entries k1_l_entries
  have b_l_entries := F_l_entries.binds (ps := ["_law_number", "_law_size"]) fun _ _ _ _ _ _ us hl => match us, hl with | [_, _], _ => rfl
  have F_l_put := fun_mk (st := s_l_put) l1_l_put c1_l_put k1_l_put
  have b_l_put := F_l_put.binds (ps := ["_law_counts", "_law_step", "_law_turn", "_law_many"]) fun _ _ _ _ _ _ us hl => match us, hl with | [_, _, _, _], _ => rfl
  have F_l_tried := fun_mk (st := s_l_tried) l1_l_tried c1_l_tried k1_l_tried
  have b_l_tried := F_l_tried.binds (ps := ["_law_wheel", "_law_one", "_law_by", "_law_way"]) fun _ _ _ _ _ _ us hl => match us, hl with | [_, _, _, _], _ => rfl
  have F_l_moved := fun_mk (st := s_l_moved) l1_l_moved c1_l_moved k1_l_moved
  have b_l_moved := F_l_moved.binds (ps := ["_law_wheel", "_law_found", "_law_counts", "_law_j"]) fun _ _ _ _ _ _ us hl => match us, hl with | [_, _, _, _], _ => rfl
  have F_l_wider := fun_mk (st := s_l_wider) l1_l_wider c1_l_wider k1_l_wider
  have b_l_wider := F_l_wider.binds (ps := ["_law_wheel", "_law_found", "_law_counts", "_law_by"]) fun _ _ _ _ _ _ us hl => match us, hl with | [_, _, _, _], _ => rfl
  have F_l_deed := fun_mk (st := s_l_deed) l1_l_deed c1_l_deed k1_l_deed
  have b_l_deed := F_l_deed.binds (ps := ["_law_wheel", "_law_found", "_law_counts", "_law_cell"]) fun _ _ _ _ _ _ us hl => match us, hl with | [_, _, _, _], _ => rfl
  have F_law := fun_mk (st := s_law) l1_law c1_law k1_law
  have b_law := F_law.binds (ps := ["_law_script"]) fun _ _ _ _ _ _ us hl => match us, hl with | [_], _ => rfl
  have T : Tx K mg cls a_shared a_split a_stretched a_circle a_Wheel_init a_Wheel_lowest a_Wheel_plus a_Wheel_times a_Wheel_turned a_Wheel_exchanged a_Wheel_backed a_Wheel_moved a_Wheel_wider a_Wheel_whole a_l_whole a_l_at a_l_primes a_l_nought a_l_degree a_l_is a_l_entries a_l_put a_l_tried a_l_moved a_l_wider a_l_deed fa _ _ _ _ _ _ _ _ _ _ _ _ _ _ _ _ _ _ _ _ _ _ _ _ _ _ _ := {F_shared := F_shared, b_shared := b_shared, g_shared := PySem.W.mg_of X G a1_shared, k_shared := k1_shared, F_split := F_split, b_split := b_split, g_split := PySem.W.mg_of X G a1_split, k_split := k1_split, F_stretched := F_stretched, b_stretched := b_stretched, g_stretched := PySem.W.mg_of X G a1_stretched, k_stretched := k1_stretched, F_circle := F_circle, b_circle := b_circle, g_circle := PySem.W.mg_of X G a1_circle, k_circle := k1_circle, F_Wheel_init := F_Wheel_init, b_Wheel_init := b_Wheel_init, F_Wheel_lowest := F_Wheel_lowest, b_Wheel_lowest := b_Wheel_lowest, F_Wheel_plus := F_Wheel_plus, b_Wheel_plus := b_Wheel_plus, F_Wheel_times := F_Wheel_times, b_Wheel_times := b_Wheel_times, F_Wheel_turned := F_Wheel_turned, b_Wheel_turned := b_Wheel_turned, F_Wheel_exchanged := F_Wheel_exchanged, b_Wheel_exchanged := b_Wheel_exchanged, F_Wheel_backed := F_Wheel_backed, b_Wheel_backed := b_Wheel_backed, F_Wheel_moved := F_Wheel_moved, b_Wheel_moved := b_Wheel_moved, F_Wheel_wider := F_Wheel_wider, b_Wheel_wider := b_Wheel_wider, F_Wheel_whole := F_Wheel_whole, b_Wheel_whole := b_Wheel_whole, F_l_whole := F_l_whole, b_l_whole := b_l_whole, g_l_whole := PySem.W.mg_of X G a1_l_whole, k_l_whole := k1_l_whole, F_l_at := F_l_at, b_l_at := b_l_at, g_l_at := PySem.W.mg_of X G a1_l_at, k_l_at := k1_l_at, F_l_primes := F_l_primes, b_l_primes := b_l_primes, g_l_primes := PySem.W.mg_of X G a1_l_primes, k_l_primes := k1_l_primes, F_l_nought := F_l_nought, b_l_nought := b_l_nought, g_l_nought := PySem.W.mg_of X G a1_l_nought, k_l_nought := k1_l_nought, F_l_degree := F_l_degree, b_l_degree := b_l_degree, g_l_degree := PySem.W.mg_of X G a1_l_degree, k_l_degree := k1_l_degree, F_l_is := F_l_is, b_l_is := b_l_is, g_l_is := PySem.W.mg_of X G a1_l_is, k_l_is := k1_l_is, F_l_entries := F_l_entries, b_l_entries := b_l_entries, g_l_entries := PySem.W.mg_of X G a1_l_entries, k_l_entries := k1_l_entries, F_l_put := F_l_put, b_l_put := b_l_put, g_l_put := PySem.W.mg_of X G a1_l_put, k_l_put := k1_l_put, F_l_tried := F_l_tried, b_l_tried := b_l_tried, g_l_tried := PySem.W.mg_of X G a1_l_tried, k_l_tried := k1_l_tried, F_l_moved := F_l_moved, b_l_moved := b_l_moved, g_l_moved := PySem.W.mg_of X G a1_l_moved, k_l_moved := k1_l_moved, F_l_wider := F_l_wider, b_l_wider := b_l_wider, g_l_wider := PySem.W.mg_of X G a1_l_wider, k_l_wider := k1_l_wider, F_l_deed := F_l_deed, b_l_deed := b_l_deed, g_l_deed := PySem.W.mg_of X G a1_l_deed, k_l_deed := k1_l_deed, F_law := F_law, b_law := b_law, g_law := PySem.W.mg_of X G a1_law, k_law := k1_law, b_all := PySem.W.mg_none_of X G z_all, b_any := PySem.W.mg_none_of X G z_any, b_bool := PySem.W.mg_none_of X G z_bool, b_enumerate := PySem.W.mg_none_of X G z_enumerate, b_int := PySem.W.mg_none_of X G z_int, b_isinstance := PySem.W.mg_none_of X G z_isinstance, b_len := PySem.W.mg_none_of X G z_len, b_list := PySem.W.mg_none_of X G z_list, b_range := PySem.W.mg_none_of X G z_range, b_zip := PySem.W.mg_none_of X G z_zip, g_WIDEST := ⟨_, PySem.W.mg_of X G v_WIDEST⟩, g_BookError := PySem.W.mg_of X G ac_BookError, g_BadWheel := PySem.W.mg_of X G ac_BadWheel, g_NoMove := PySem.W.mg_of X G ac_NoMove, g_Wheel := PySem.W.mg_of X G ac_Wheel, M_Wheel := ⟨mk_Wheel, a1_Wheel_init, i1_Wheel_init, kc_Wheel⟩, whlC := ⟨⟨pg_Wheel, hd_Wheel, po_Wheel, sa_Wheel⟩, nW_ring, nW_spokes, nW_size⟩, C_Wheel := ⟨pg_Wheel, hd_Wheel, po_Wheel, sa_Wheel⟩, m_Wheel_lowest := ⟨a1_Wheel_lowest, i1_Wheel_lowest, k1_Wheel_lowest⟩, m_Wheel_plus := ⟨a1_Wheel_plus, i1_Wheel_plus, k1_Wheel_plus⟩, m_Wheel_times := ⟨a1_Wheel_times, i1_Wheel_times, k1_Wheel_times⟩, m_Wheel_turned := ⟨a1_Wheel_turned, i1_Wheel_turned, k1_Wheel_turned⟩, m_Wheel_exchanged := ⟨a1_Wheel_exchanged, i1_Wheel_exchanged, k1_Wheel_exchanged⟩, m_Wheel_backed := ⟨a1_Wheel_backed, i1_Wheel_backed, k1_Wheel_backed⟩, m_Wheel_moved := ⟨a1_Wheel_moved, i1_Wheel_moved, k1_Wheel_moved⟩, m_Wheel_wider := ⟨a1_Wheel_wider, i1_Wheel_wider, k1_Wheel_wider⟩, m_Wheel_whole := ⟨a1_Wheel_whole, i1_Wheel_whole, k1_Wheel_whole⟩, exs := ⟨⟨⟨by rw [clX_BookError]; exact congrArg some mroX_BookError, tyX_BookError, hdX_BookError, gaX_BookError, ggX_BookError, caX_BookError⟩, ⟨by rw [clX_BadWheel]; exact congrArg some mroX_BadWheel, tyX_BadWheel, hdX_BadWheel, gaX_BadWheel, ggX_BadWheel, caX_BadWheel⟩, ⟨by rw [clX_NoMove]; exact congrArg some mroX_NoMove, tyX_NoMove, hdX_NoMove, gaX_NoMove, ggX_NoMove, caX_NoMove⟩, trivial⟩, xnd, by decide, xsg, xtk⟩, x_BadWheel := x_BadWheel, k_BadWheel := kx_BadWheel, r_BadWheel := rx_BadWheel, rt_BadWheel := rt_BadWheel, x_NoMove := x_NoMove, k_NoMove := kx_NoMove, r_NoMove := rx_NoMove, rt_NoMove := rt_NoMove}
  refine ⟨PySem.W.fnOf "law" "law" (defArgs s_law) (defBody s_law) (defScope s_law) .none kV_law dc_law pm_law an_law cd_law ct_law, fun s v => .of_eq rfl, fun base hb hn => ?_⟩
  have G_shared := ok_shared (P := l.prog) (w := w) (base := base) T 
  have G_split := ok_split (P := l.prog) (w := w) (base := base) T 
  have G_stretched := ok_stretched (P := l.prog) (w := w) (base := base) T 
  have G_circle := ok_circle (P := l.prog) (w := w) (base := base) T G_split G_stretched
  have G_Wheel_init := ok_Wheel_init (P := l.prog) (w := w) (base := base) T G_circle
  have G_Wheel_lowest := ok_Wheel_lowest (P := l.prog) (w := w) (base := base) T G_split
  have G_Wheel_plus := ok_Wheel_plus (P := l.prog) (w := w) (base := base) T 
  have G_Wheel_times := ok_Wheel_times (P := l.prog) (w := w) (base := base) T G_Wheel_lowest
  have G_Wheel_turned := ok_Wheel_turned (P := l.prog) (w := w) (base := base) T G_Wheel_lowest
  have G_Wheel_exchanged := ok_Wheel_exchanged (P := l.prog) (w := w) (base := base) T G_Wheel_lowest
  have G_Wheel_backed := ok_Wheel_backed (P := l.prog) (w := w) (base := base) T G_Wheel_exchanged
  have G_Wheel_moved := ok_Wheel_moved (P := l.prog) (w := w) (base := base) T G_shared G_Wheel_exchanged
  have G_Wheel_wider := ok_Wheel_wider (P := l.prog) (w := w) (base := base) T G_stretched G_Wheel_init G_Wheel_lowest
  have G_Wheel_whole := ok_Wheel_whole (P := l.prog) (w := w) (base := base) T 
  have G_l_whole := ok_l_whole (P := l.prog) (w := w) (base := base) T 
  have G_l_at := ok_l_at (P := l.prog) (w := w) (base := base) T 
  have G_l_primes := ok_l_primes (P := l.prog) (w := w) (base := base) T 
  have G_l_nought := ok_l_nought (P := l.prog) (w := w) (base := base) T G_l_primes
  have G_l_degree := ok_l_degree (P := l.prog) (w := w) (base := base) T G_l_primes
  have G_l_is := ok_l_is (P := l.prog) (w := w) (base := base) T G_l_whole G_l_nought G_l_degree
  have G_l_entries := ok_l_entries (P := l.prog) (w := w) (base := base) T 
  have G_l_put := ok_l_put (P := l.prog) (w := w) (base := base) T 
  have G_l_tried := ok_l_tried (P := l.prog) (w := w) (base := base) T G_Wheel_moved G_Wheel_wider
  have G_l_moved := ok_l_moved (P := l.prog) (w := w) (base := base) T G_l_primes G_l_put G_l_tried
  have G_l_wider := ok_l_wider (P := l.prog) (w := w) (base := base) T G_Wheel_init G_l_put G_l_tried
  have G_l_deed := ok_l_deed (P := l.prog) (w := w) (base := base) T G_Wheel_plus G_Wheel_times G_Wheel_turned G_Wheel_backed G_l_entries G_l_put G_l_moved G_l_wider
  have G_law := ok_law (P := l.prog) (w := w) (base := base) T G_Wheel_init G_Wheel_lowest G_Wheel_whole G_l_whole G_l_at G_l_is G_l_deed
  exact G_law.imp fun vs H Q E h => law_imp h
theorem walk {l : PySem.W.OpenLaw} {q : Program} {loose : List Str} {XP : (Str → Option Value) → Heap → Prop} {YP : World → Heap → Prop} {d : DefRec} {K : Params → PySem.W.Frag} (hn : l.most = some 63) (hdf : d.params.defaults = [])
    (hY : ∀ (w : World) (h : Heap), YP w h → (K w.params).In h)
    (F : ∀ (w : World) (mg : Str → Option Value) (fa : Addr) (h : Heap), (K w.params).In h → h.Ns mainGlobals mg → mg d.name = some (.ref fa) →
      ∃ fd : FuncData, (∀ (s : Shared) (u : Value), BindsTo s fd ⟨[u], []⟩ [("_law_script", u)]) ∧ ∀ base : Heap, (K w.params).In base → base.Ns mainGlobals mg → FnOk l.prog w (K w.params) mg base (L2.CX l.prog w) 9 fa fd ["_law_script"] (spLaw (K w.params))) :
    PySem.W.WalkO q loose XP YP l.row.toRowW d [] (fun f vs => PySem.call f vs) :=
  L2.walk_of (n := 63) (k := 9) (x := "_law_script") (CX := fun w => L2.CX l.prog w) (sp := fun w => spLaw (K w.params)) hn (by decide) hdf ⟨rfl, by decide, by decide⟩ hY F (fun _ _ a ns hl _ hS => ⟨a, ns, rfl, hS, hl, fun _ => rfl⟩) fun _ _ _ _ _ z => by
    obtain ⟨_, _, _, _, _, _, _, _, _, _, _, _, z⟩ := z
    exact z.elim
end TB
open PySem PySem.W PyProof.Rows
set_option maxRecDepth 100000 in
set_option maxHeartbeats 0 in
theorem PySem.Challenge.cw_tracebook_k26_whole_a_walk_of_numbers_holds : PySem.Challenge.rw_tracebook_k26_whole_a_walk_of_numbers.Holds := by
  w_on; o_law; k_head; (case hw => w_witness2)
  k_fill
  refine TB.walk (l := PySem.Challenge.rw_tracebook_k26_whole_a_walk_of_numbers) rfl rfl (fun w h Y => PySem.W.kIn_of Y) ?F
  case F =>
    intro w mg fa h KX G hmg
    refine' TB.all_mk KX G hmg ?ac_BookError ?ac_BadWheel ?ac_NoMove ?ac_Wheel ?a1_shared ?l1_shared ?c1_shared ?k1_shared ?a1_split ?l1_split ?c1_split ?k1_split ?a1_stretched ?l1_stretched ?c1_stretched ?k1_stretched ?a1_circle ?l1_circle ?c1_circle ?k1_circle ?a1_Wheel_init ?i1_Wheel_init ?l1_Wheel_init ?c1_Wheel_init ?k1_Wheel_init ?a1_Wheel_lowest ?i1_Wheel_lowest ?l1_Wheel_lowest ?c1_Wheel_lowest ?k1_Wheel_lowest ?a1_Wheel_plus ?i1_Wheel_plus ?l1_Wheel_plus ?c1_Wheel_plus ?k1_Wheel_plus ?a1_Wheel_times ?i1_Wheel_times ?l1_Wheel_times ?c1_Wheel_times ?k1_Wheel_times ?a1_Wheel_turned ?i1_Wheel_turned ?l1_Wheel_turned ?c1_Wheel_turned ?k1_Wheel_turned ?a1_Wheel_exchanged ?i1_Wheel_exchanged ?l1_Wheel_exchanged ?c1_Wheel_exchanged ?k1_Wheel_exchanged ?a1_Wheel_backed ?i1_Wheel_backed ?l1_Wheel_backed ?c1_Wheel_backed ?k1_Wheel_backed ?a1_Wheel_moved ?i1_Wheel_moved ?l1_Wheel_moved ?c1_Wheel_moved ?k1_Wheel_moved ?a1_Wheel_wider ?i1_Wheel_wider ?l1_Wheel_wider ?c1_Wheel_wider ?k1_Wheel_wider ?a1_Wheel_whole ?i1_Wheel_whole ?l1_Wheel_whole ?c1_Wheel_whole ?k1_Wheel_whole ?a1_l_whole ?l1_l_whole ?c1_l_whole ?k1_l_whole ?a1_l_at ?l1_l_at ?c1_l_at ?k1_l_at ?a1_l_primes ?l1_l_primes ?c1_l_primes ?k1_l_primes ?a1_l_nought ?l1_l_nought ?c1_l_nought ?k1_l_nought ?a1_l_degree ?l1_l_degree ?c1_l_degree ?k1_l_degree ?a1_l_is ?l1_l_is ?c1_l_is ?k1_l_is ?a1_l_entries ?l1_l_entries ?c1_l_entries ?k1_l_entries ?a1_l_put ?l1_l_put ?c1_l_put ?k1_l_put ?a1_l_tried ?l1_l_tried ?c1_l_tried ?k1_l_tried ?a1_l_moved ?l1_l_moved ?c1_l_moved ?k1_l_moved ?a1_l_wider ?l1_l_wider ?c1_l_wider ?k1_l_wider ?a1_l_deed ?l1_l_deed ?c1_l_deed ?k1_l_deed ?a1_law ?l1_law ?c1_law ?k1_law ?z_all ?z_any ?z_bool ?z_enumerate ?z_int ?z_isinstance ?z_len ?z_list ?z_range ?z_zip ?v_WIDEST ?mk_Wheel ?kc_Wheel ?pg_Wheel ?hd_Wheel ?po_Wheel ?sa_Wheel ?nW_ring ?nW_spokes ?nW_size ?x_BadWheel ?kx_BadWheel ?rx_BadWheel ?rt_BadWheel ?x_NoMove ?kx_NoMove ?rx_NoMove ?rt_NoMove ?clX_BookError ?mroX_BookError ?tyX_BookError ?hdX_BookError ?gaX_BookError ?ggX_BookError ?caX_BookError ?clX_BadWheel ?mroX_BadWheel ?tyX_BadWheel ?hdX_BadWheel ?gaX_BadWheel ?ggX_BadWheel ?caX_BadWheel ?clX_NoMove ?mroX_NoMove ?tyX_NoMove ?hdX_NoMove ?gaX_NoMove ?ggX_NoMove ?caX_NoMove ?xnd ?xsg ?xtk
    (case ac_BookError => k_is)
    (case ac_BadWheel => k_is)
    (case ac_NoMove => k_is)
    (case ac_Wheel => k_is)
    (case a1_shared => k_is)
    (case l1_shared => k_is)
    (case c1_shared => k_is)
    (case k1_shared => k_is)
    (case a1_split => k_is)
    (case l1_split => k_is)
    (case c1_split => k_is)
    (case k1_split => k_is)
    (case a1_stretched => k_is)
    (case l1_stretched => k_is)
    (case c1_stretched => k_is)
    (case k1_stretched => k_is)
    (case a1_circle => k_is)
    (case l1_circle => k_is)
    (case c1_circle => k_is)
    (case k1_circle => k_is)
    (case a1_Wheel_init => k_is)
    (case i1_Wheel_init => k_is)
    (case l1_Wheel_init => k_is)
    (case c1_Wheel_init => k_is)
    (case k1_Wheel_init => k_is)
    (case a1_Wheel_lowest => k_is)
    (case i1_Wheel_lowest => k_is)
    (case l1_Wheel_lowest => k_is)
    (case c1_Wheel_lowest => k_is)
    (case k1_Wheel_lowest => k_is)
    (case a1_Wheel_plus => k_is)
    (case i1_Wheel_plus => k_is)
    (case l1_Wheel_plus => k_is)
    (case c1_Wheel_plus => k_is)
    (case k1_Wheel_plus => k_is)
    (case a1_Wheel_times => k_is)
    (case i1_Wheel_times => k_is)
    (case l1_Wheel_times => k_is)
    (case c1_Wheel_times => k_is)
    (case k1_Wheel_times => k_is)
    (case a1_Wheel_turned => k_is)
    (case i1_Wheel_turned => k_is)
    (case l1_Wheel_turned => k_is)
    (case c1_Wheel_turned => k_is)
    (case k1_Wheel_turned => k_is)
    (case a1_Wheel_exchanged => k_is)
    (case i1_Wheel_exchanged => k_is)
    (case l1_Wheel_exchanged => k_is)
    (case c1_Wheel_exchanged => k_is)
    (case k1_Wheel_exchanged => k_is)
    (case a1_Wheel_backed => k_is)
    (case i1_Wheel_backed => k_is)
    (case l1_Wheel_backed => k_is)
    (case c1_Wheel_backed => k_is)
    (case k1_Wheel_backed => k_is)
    (case a1_Wheel_moved => k_is)
    (case i1_Wheel_moved => k_is)
    (case l1_Wheel_moved => k_is)
    (case c1_Wheel_moved => k_is)
    (case k1_Wheel_moved => k_is)
    (case a1_Wheel_wider => k_is)
    (case i1_Wheel_wider => k_is)
    (case l1_Wheel_wider => k_is)
    (case c1_Wheel_wider => k_is)
    (case k1_Wheel_wider => k_is)
    (case a1_Wheel_whole => k_is)
    (case i1_Wheel_whole => k_is)
    (case l1_Wheel_whole => k_is)
    (case c1_Wheel_whole => k_is)
    (case k1_Wheel_whole => k_is)
    (case a1_l_whole => k_is)
    (case l1_l_whole => k_is)
    (case c1_l_whole => k_is)
    (case k1_l_whole => k_is)
    (case a1_l_at => k_is)
    (case l1_l_at => k_is)
    (case c1_l_at => k_is)
    (case k1_l_at => k_is)
    (case a1_l_primes => k_is)
    (case l1_l_primes => k_is)
    (case c1_l_primes => k_is)
    (case k1_l_primes => k_is)
    (case a1_l_nought => k_is)
    (case l1_l_nought => k_is)
    (case c1_l_nought => k_is)
    (case k1_l_nought => k_is)
    (case a1_l_degree => k_is)
    (case l1_l_degree => k_is)
    (case c1_l_degree => k_is)
    (case k1_l_degree => k_is)
    (case a1_l_is => k_is)
    (case l1_l_is => k_is)
    (case c1_l_is => k_is)
    (case k1_l_is => k_is)
    (case a1_l_entries => k_is)
    (case l1_l_entries => k_is)
    (case c1_l_entries => k_is)
    (case k1_l_entries => k_is)
    (case a1_l_put => k_is)
    (case l1_l_put => k_is)
    (case c1_l_put => k_is)
    (case k1_l_put => k_is)
    (case a1_l_tried => k_is)
    (case l1_l_tried => k_is)
    (case c1_l_tried => k_is)
    (case k1_l_tried => k_is)
    (case a1_l_moved => k_is)
    (case l1_l_moved => k_is)
    (case c1_l_moved => k_is)
    (case k1_l_moved => k_is)
    (case a1_l_wider => k_is)
    (case l1_l_wider => k_is)
    (case c1_l_wider => k_is)
    (case k1_l_wider => k_is)
    (case a1_l_deed => k_is)
    (case l1_l_deed => k_is)
    (case c1_l_deed => k_is)
    (case k1_l_deed => k_is)
    (case a1_law => k_is)
    (case l1_law => k_is)
    (case c1_law => k_is)
    (case k1_law => k_is)
    (case z_all => k_is)
    (case z_any => k_is)
    (case z_bool => k_is)
    (case z_enumerate => k_is)
    (case z_int => k_is)
    (case z_isinstance => k_is)
    (case z_len => k_is)
    (case z_list => k_is)
    (case z_range => k_is)
    (case z_zip => k_is)
    (case v_WIDEST => k_is)
    (case mk_Wheel => k_is)
    (case kc_Wheel => k_is)
    (case pg_Wheel => k_is)
    (case hd_Wheel => k_is)
    (case po_Wheel => k_is)
    (case sa_Wheel => k_is)
    (case nW_ring => k_is)
    (case nW_spokes => k_is)
    (case nW_size => k_is)
    (case x_BadWheel => k_exc)
    (case kx_BadWheel => k_is)
    (case rx_BadWheel => k_is)
    (case rt_BadWheel => k_is)
    (case x_NoMove => k_exc)
    (case kx_NoMove => k_is)
    (case rx_NoMove => k_is)
    (case rt_NoMove => k_is)
    (case clX_BookError => k_is)
    (case mroX_BookError => rfl)
    (case tyX_BookError => k_is)
    (case hdX_BookError => k_is)
    (case gaX_BookError => k_is)
    (case ggX_BookError => k_is)
    (case caX_BookError => k_is)
    (case clX_BadWheel => k_is)
    (case mroX_BadWheel => rfl)
    (case tyX_BadWheel => k_is)
    (case hdX_BadWheel => k_is)
    (case gaX_BadWheel => k_is)
    (case ggX_BadWheel => k_is)
    (case caX_BadWheel => k_is)
    (case clX_NoMove => k_is)
    (case mroX_NoMove => rfl)
    (case tyX_NoMove => k_is)
    (case hdX_NoMove => k_is)
    (case gaX_NoMove => k_is)
    (case ggX_NoMove => k_is)
    (case caX_NoMove => k_is)
    (case xnd => decide)
    (case xsg => k_is)
    (case xtk => k_is)
#print axioms PySem.Challenge.cw_tracebook_k26_whole_a_walk_of_numbers_holds
