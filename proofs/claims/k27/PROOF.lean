import PyProof.Rows.All
import Wide.All
import OpenK.AllK
import Wide.FinOn
import HandS.ForMost
import HandS.Exc
import HandS.ExcOwn
import HandS.TryOnly
import HandS.TryMany
import HandS.ExcInit
import HandS.CallSlots
import HandS.WordsExc
import HandS.SortInts
import HandS.SortKw
import HandS.IsInst
import HandS.Wide
import HandS.More
import HandS.Conv
import KE.OsSort
import KE.KExcIs
import HandS.ExcField
import HandS.SetFor
import HandS.Strs
import KE.KDictZip
import KE.KDictSum
import KE.KTurns
import HandS.Iter
import HandS.Defaults
import PySem.Challenge.RW_tracebook_k27_whole_moves_and_norms
set_option Elab.async false
set_option linter.all false
set_option maxRecDepth 100000
set_option maxHeartbeats 4000000
/-! TbBase: a typed layer over the hand layer's readings: what slots hold, told as Lean data. -/
namespace TB
open PySem L2

/-- the program's own classes -/
inductive CN where
  | BookError | BadSize | Stranger | NoUnit | NoBack | NotTogether | NoPart | NotSteady | BadWheel | NoMove | BadMarks | NoWay | NotKept | OtherGroup | OtherWheel | TooGreat | Group | Wheel | Carriers | Way | Regular | Lifted | Beside | Crossed | Backed | Within | Raised | Book
  deriving DecidableEq
/-- the written part, and where the program's own classes stand -/
structure Zz where
  K : PySem.W.Frag
  cls : CN → Addr

/-- a type whose data stand in the heap, never to be changed -/
class Rp (α : Type) where
  /-- what is taken where nothing stands -/
  df : α
  rp : Zz → Hp → V → α → Prop
  mono : ∀ {Z : Zz} {H H' : Hp} {v : V} {d : α}, Same H H' → rp Z H v d → rp Z H' v d

theorem paired_mono {α β : Type} {F G : α → β → Prop} (h : ∀ a b, F a b → G a b) : ∀ {l : List α} {m : List β}, Paired F l m → Paired G l m
  | _, _, .nil => .nil
  | _, _, .cons r t => .cons (h _ _ r) (paired_mono h t)
theorem paired_get {α β : Type} {F : α → β → Prop} : ∀ {l : List α} {m : List β} {i : Nat} {b : β}, Paired F l m → m[i]? = some b → ∃ a, l[i]? = some a ∧ F a b
  | _, _, _, _, .nil, e => by simp at e
  | _, _, 0, _, .cons r _, e => by simp at e; subst e; exact ⟨_, rfl, r⟩
  | _, _, i + 1, b, .cons _ t, e => by
    obtain ⟨u, h1, h2⟩ := paired_get (i := i) (b := b) t (by simpa using e)
    exact ⟨u, by simpa using h1, h2⟩
theorem paired_getL {α β : Type} {F : α → β → Prop} : ∀ {l : List α} {m : List β} {i : Nat} {a : α}, Paired F l m → l[i]? = some a → ∃ b, m[i]? = some b ∧ F a b
  | _, _, _, _, .nil, e => by simp at e
  | _, _, 0, _, .cons r _, e => by simp at e; subst e; exact ⟨_, rfl, r⟩
  | _, _, i + 1, b, .cons _ t, e => by
    obtain ⟨u, h1, h2⟩ := paired_getL (i := i) (a := b) t (by simpa using e)
    exact ⟨u, by simpa using h1, h2⟩
theorem paired_append {α β : Type} {F : α → β → Prop} : ∀ {l l' : List α} {m m' : List β}, Paired F l m → Paired F l' m' → Paired F (l ++ l') (m ++ m')
  | _, _, _, _, .nil, s => s
  | _, _, _, _, .cons r t, s => .cons r (paired_append t s)
theorem paired_set {α β : Type} {F : α → β → Prop} {a : α} {b : β} (h : F a b) : ∀ {l : List α} {m : List β} (i : Nat), Paired F l m → Paired F (l.set i a) (m.set i b)
  | _, _, _, .nil => .nil
  | _, _, 0, .cons _ t => .cons h t
  | _, _, i + 1, .cons r t => .cons r (paired_set h i t)
theorem paired_take {α β : Type} {F : α → β → Prop} : ∀ {l : List α} {m : List β} (n : Nat), Paired F l m → Paired F (l.take n) (m.take n)
  | _, _, 0, _ => .nil
  | _, _, _ + 1, .nil => .nil
  | _, _, n + 1, .cons r t => .cons r (paired_take n t)
theorem paired_drop {α β : Type} {F : α → β → Prop} : ∀ {l : List α} {m : List β} (n : Nat), Paired F l m → Paired F (l.drop n) (m.drop n)
  | _, _, 0, r => r
  | _, _, _ + 1, .nil => .nil
  | _, _, n + 1, .cons _ t => paired_drop n t
theorem paired_map_int : ∀ {vs : List V} {xs : List Int}, Paired (fun v d => v = V.int d) vs xs → vs = xs.map V.int
  | _, _, .nil => rfl
  | _, _, .cons r t => by rw [List.map_cons, ← r, ← paired_map_int t]
theorem paired_of_int : ∀ (xs : List Int), Paired (fun v d => v = V.int d) (xs.map V.int) xs
  | [] => .nil
  | _ :: t => .cons rfl (paired_of_int t)
theorem paired_map_bl : ∀ {vs : List V} {xs : List Bool}, Paired (fun v d => v = V.bl d) vs xs → vs = xs.map V.bl
  | _, _, .nil => rfl
  | _, _, .cons r t => by rw [List.map_cons, ← r, ← paired_map_bl t]

instance : Rp Int := ⟨0, fun _ _ v d => v = .int d, fun _ h => h⟩
instance : Rp Bool := ⟨false, fun _ _ v d => v = .bl d, fun _ h => h⟩
instance : Rp Unit := ⟨(), fun _ _ v _ => v = .non, fun _ h => h⟩
instance : Rp Str := ⟨Str.empty, fun _ _ v d => v = .str d, fun _ h => h⟩
instance {α : Type} [Rp α] : Rp (Option α) := ⟨none, fun Z H v d => match d with | none => v = .non | some x => Rp.rp Z H v x, fun {Z H H' v d} e h => by
  cases d with
  | none => exact h
  | some x => exact Rp.mono e h⟩
instance {α : Type} [Rp α] : Rp (List α) := ⟨[], fun Z H v d => ∃ a vs, v = .ref a ∧ H a = some (.lst vs) ∧ Paired (Rp.rp Z H) vs d,
  fun e h => by
    obtain ⟨a, vs, h1, h2, h3⟩ := h
    exact ⟨a, vs, h1, e _ _ h2, paired_mono (fun _ _ => Rp.mono e) h3⟩⟩
instance {α β : Type} [Rp α] [Rp β] : Rp (α × β) := ⟨(Rp.df, Rp.df), fun Z H v d => ∃ a x y, v = .ref a ∧ H a = some (.tup [x, y]) ∧ Rp.rp Z H x d.1 ∧ Rp.rp Z H y d.2,
  fun e h => by
    obtain ⟨a, x, y, h1, h2, h3, h4⟩ := h
    exact ⟨a, x, y, h1, e _ _ h2, Rp.mono e h3, Rp.mono e h4⟩⟩
/-- the script: a list that is known to the law's object -/
structure Scr where
  l : List Int
instance : Rp Scr := ⟨⟨[]⟩, fun Z H v d => ∃ a, v = .ref a ∧ SqL Z.K H a (d.l.map V.int), fun e h => by
    obtain ⟨a, h1, h2⟩ := h
    exact ⟨a, h1, e.seq h2⟩⟩
/-- a value of a mixed list: an int or a text -/
inductive IS where
  | i (n : Int) | s (x : Str)
  deriving DecidableEq
instance : Rp IS := ⟨.i 0, fun _ _ v d => match d with | .i n => v = .int n | .s x => v = .str x, fun {Z H H' v d} _ h => by cases d <;> exact h⟩

/-- h within these addresses -/
def res (H : Hp) (f : List Addr) : Hp := fun p => if p ∈ f then H p else none
theorem res_in {H : Hp} {f : List Addr} {p : Addr} (h : p ∈ f) : res H f p = H p := by simp [res, h]
theorem res_some {H : Hp} {f : List Addr} {p : Addr} {o : HO} (h : res H f p = some o) : p ∈ f ∧ H p = some o := by
  unfold res at h
  by_cases c : p ∈ f
  · rw [if_pos c] at h; exact ⟨c, h⟩
  · rw [if_neg c] at h; cases h
/-- own objects of any make: told of the frozen part and of the own objects alone -/
structure Own where
  G : Zz → Hp → Hp → V → Prop
  mono : ∀ {Z : Zz} {R R' h : Hp} {v : V}, Same R R' → G Z R h v → G Z R' h v
/-- what a slot holds -/
inductive Sl : Type 1
  /-- nothing that matters -/
  | un : Sl
  /-- data that never change -/
  | im {α : Type} [Rp α] (d : α) : Sl
  /-- a list of this frame's own -/
  | ol {α : Type} [Rp α] (xs : List α) : Sl
  /-- an own list of own lists -/
  | o2 {α : Type} [Rp α] (xss : List (List α)) : Sl
  /-- an own dict, keys ints -/
  | od {α : Type} [Rp α] (kvs : List (Int × α)) : Sl
  /-- own objects of any make -/
  | ow (O : Own) : Sl

section
variable (Z : Zz) (R H : Hp)
def kvOk {α : Type} [Rp α] (a : Key × V) (b : Int × α) : Prop := a.1 = Sum.inl b.1 ∧ Rp.rp Z R a.2 b.2
def inOk {α : Type} [Rp α] (q : Addr) (xs : List α) : Prop := ∃ vs, H q = some (.lst vs) ∧ Paired (Rp.rp Z R) vs xs
def slok (o : Option V) : Sl → List Addr → Prop
  | .un, f => f = []
  | @Sl.im _ _ d, f => f = [] ∧ ∃ v, o = some v ∧ Rp.rp Z R v d
  | @Sl.ol _ _ xs, f => ∃ p vs, f = [p] ∧ o = some (.ref p) ∧ H p = some (.lst vs) ∧ Paired (Rp.rp Z R) vs xs
  | @Sl.o2 _ _ xss, f => ∃ p qs, f = p :: qs ∧ o = some (.ref p) ∧ H p = some (.lst (qs.map V.ref)) ∧ Paired (inOk Z R H) qs xss
  | @Sl.od _ _ kvs, f => ∃ p kv, f = [p] ∧ o = some (.ref p) ∧ H p = some (.dK kv) ∧ Paired (kvOk Z R) kv kvs
  | .ow O, f => ∃ v, o = some v ∧ O.G Z R (res H f) v ∧ ∀ p ∈ f, H p ≠ none
def Es : List (Option V) → List Sl → List Addr → Prop
  | [], [], own => own = []
  | o :: σ, s :: Γ, own => ∃ f g, own = f ++ g ∧ slok Z R H o s f ∧ Es σ Γ g
  | _, _, _ => False
end
/-- the heap H over the frozen part R; B: the heap at the frame's entry, R0 the frozen part there; own: this frame's own objects -/
structure Hs (B R0 R H : Hp) (own : List Addr) : Prop where
  rh : Same R H
  bh : Same B H
  r0 : Same R0 R
  nw : ∀ b o, R b = some o → R0 b = some o ∨ B b = none
  ow : ∀ p ∈ own, R p = none ∧ B p = none
  nd : own.Nodup
def Sy (Z : Zz) (B R0 R H : Hp) (τ : List (Option V)) (Θ : List Sl) : Prop := ∃ own, Hs B R0 R H own ∧ Es Z R H τ Θ own

section
variable {Z : Zz} {B R0 R R' H H' : Hp} {τ : List (Option V)} {Θ : List Sl} {s : Sl} {o : Option V} {f own : List Addr}
theorem inOk_mono {α : Type} [Rp α] {q : Addr} {xs : List α} (e : Same R R') (k : H' q = H q) (h : inOk Z R H q xs) : inOk Z R' H' q xs := by
  obtain ⟨vs, h1, h2⟩ := h
  exact ⟨vs, by rw [k]; exact h1, paired_mono (fun _ _ => Rp.mono e) h2⟩
theorem paired_inOk {α : Type} [Rp α] : ∀ {qs : List Addr} {xss : List (List α)}, Same R R' → (∀ p ∈ qs, H' p = H p) → Paired (inOk Z R H) qs xss → Paired (inOk Z R' H') qs xss
  | _, _, _, _, .nil => .nil
  | _, _, e, k, .cons r t => .cons (inOk_mono e (k _ List.mem_cons_self) r) (paired_inOk e (fun p hp => k p (List.mem_cons_of_mem _ hp)) t)
theorem slok_mono (e : Same R R') (k : ∀ p ∈ f, H' p = H p) (h : slok Z R H o s f) : slok Z R' H' o s f := by
  cases s with
  | un => exact h
  | im d =>
    obtain ⟨h1, v, h2, h3⟩ := h
    exact ⟨h1, v, h2, Rp.mono e h3⟩
  | ol xs =>
    obtain ⟨p, vs, rfl, h2, h3, h4⟩ := h
    exact ⟨p, vs, rfl, h2, by rw [k p (by simp)]; exact h3, paired_mono (fun _ _ => Rp.mono e) h4⟩
  | o2 xss =>
    obtain ⟨p, qs, rfl, h2, h3, h4⟩ := h
    exact ⟨p, qs, rfl, h2, by rw [k p (by simp)]; exact h3, paired_inOk e (fun q hq => k q (List.mem_cons_of_mem _ hq)) h4⟩
  | od kvs =>
    obtain ⟨p, kv, rfl, h2, h3, h4⟩ := h
    exact ⟨p, kv, rfl, h2, by rw [k p (by simp)]; exact h3, paired_mono (fun _ _ q => ⟨q.1, Rp.mono e q.2⟩) h4⟩
  | ow O =>
    obtain ⟨v, h2, h3, h4⟩ := h
    have e2 : res H' f = res H f := by
      funext p
      by_cases c : p ∈ f
      · rw [res_in c, res_in c, k p c]
      · simp [res, c]
    exact ⟨v, h2, by rw [e2]; exact O.mono e h3, fun p hp => by rw [k p hp]; exact h4 p hp⟩
theorem inOk_some {α : Type} [Rp α] : ∀ {qs : List Addr} {xss : List (List α)}, Paired (inOk Z R H) qs xss → ∀ p ∈ qs, H p ≠ none
  | _, _, .nil, p, hp => by simp at hp
  | _, _, .cons r t, p, hp => by
    rcases List.mem_cons.mp hp with e | e
    · subst e
      obtain ⟨vs, h1, _⟩ := r
      rw [h1]; simp
    · exact inOk_some t p e
theorem slok_some (h : slok Z R H o s f) : ∀ p ∈ f, H p ≠ none := by
  intro q hq
  cases s with
  | un => rw [show f = [] from h] at hq; simp at hq
  | im d => rw [h.1] at hq; simp at hq
  | ol xs =>
    obtain ⟨p, vs, rfl, h2, h3, h4⟩ := h
    have e : q = p := by simpa using hq
    rw [e, h3]; simp
  | o2 xss =>
    obtain ⟨p, qs, rfl, h2, h3, h4⟩ := h
    rcases List.mem_cons.mp hq with e | e
    · rw [e, h3]; simp
    · exact inOk_some h4 q e
  | od kvs =>
    obtain ⟨p, kv, rfl, h2, h3, h4⟩ := h
    have e : q = p := by simpa using hq
    rw [e, h3]; simp
  | ow O =>
    obtain ⟨v, h2, h3, h4⟩ := h
    exact h4 q hq
theorem es_len : ∀ {τ : List (Option V)} {Θ : List Sl} {own : List Addr}, Es Z R H τ Θ own → τ.length = Θ.length
  | [], [], _, _ => rfl
  | _ :: _, _ :: _, _, ⟨_, _, _, _, t⟩ => by rw [List.length_cons, List.length_cons, es_len t]
  | [], _ :: _, _, h => h.elim
  | _ :: _, [], _, h => h.elim
theorem es_mono (e : Same R R') : ∀ {τ : List (Option V)} {Θ : List Sl} {own : List Addr}, (∀ p ∈ own, H' p = H p) → Es Z R H τ Θ own → Es Z R' H' τ Θ own
  | [], [], _, _, h => h
  | _ :: _, _ :: _, _, k, ⟨f, g, e1, h1, t⟩ => by
    subst e1
    exact ⟨f, g, rfl, slok_mono e (fun p hp => k p (List.mem_append_left _ hp)) h1, es_mono e (fun p hp => k p (List.mem_append_right _ hp)) t⟩
  | [], _ :: _, _, _, h => h.elim
  | _ :: _, [], _, _, h => h.elim
theorem es_some : ∀ {τ : List (Option V)} {Θ : List Sl} {own : List Addr}, Es Z R H τ Θ own → ∀ p ∈ own, H p ≠ none
  | [], [], _, h, p, hp => by rw [show _ = [] from h] at hp; simp at hp
  | _ :: _, _ :: _, _, ⟨f, g, e1, h1, t⟩, p, hp => by
    subst e1
    rcases List.mem_append.mp hp with q | q
    · exact slok_some h1 p q
    · exact es_some t p q
  | [], _ :: _, _, h, _, _ => h.elim
  | _ :: _, [], _, h, _, _ => h.elim
/-- one slot, and all else -/
theorem es_at : ∀ {τ : List (Option V)} {Θ : List Sl} {own : List Addr} {i : Nat} {s : Sl}, Es Z R H τ Θ own → Θ[i]? = some s →
    ∃ o g1 f g2, τ[i]? = some o ∧ own = g1 ++ f ++ g2 ∧ slok Z R H o s f ∧ ∀ (R' H' : Hp) (o' : Option V) (s' : Sl) (f' : List Addr), Same R R' → (∀ p ∈ g1 ++ g2, H' p = H p) → slok Z R' H' o' s' f' → Es Z R' H' (τ.set i o') (Θ.set i s') (g1 ++ f' ++ g2)
  | [], [], _, _, _, _, e => by simp at e
  | o :: τ, s0 :: Θ, _, 0, s, ⟨f, g, e1, h1, t⟩, e => by
    have e' : s0 = s := by simpa using e
    subst e'
    refine ⟨o, [], f, g, rfl, by simpa using e1, h1, fun R' H' o' s' f' a k h => ⟨f', g, by simp, h, es_mono a (fun p hp => k p (by simpa using hp)) t⟩⟩
  | o :: τ, s0 :: Θ, _, i + 1, s, ⟨f, g, e1, h1, t⟩, e => by
    obtain ⟨o1, g1, f1, g2, h2, h3, h4, h5⟩ := es_at (i := i) t (by simpa using e)
    refine ⟨o1, f ++ g1, f1, g2, by simpa using h2, by rw [e1, h3]; simp, h4, fun R' H' o' s' f' a k h => ⟨f, g1 ++ f' ++ g2, by simp, slok_mono a (fun p hp => k p (by simp [hp])) h1, h5 R' H' o' s' f' a (fun p hp => k p (by simp at hp ⊢; rcases hp with q | q <;> simp [q])) h⟩⟩
  | [], _ :: _, _, _, _, h, _ => h.elim
  | _ :: _, [], _, _, _, h, _ => h.elim
end
end TB

namespace TB
open PySem L2
section
variable {Z : Zz} {B R0 R R' H H' : Hp} {τ : List (Option V)} {Θ : List Sl} {s : Sl} {o : Option V} {f own own' : List Addr}
theorem hs_sub (h : Hs B R0 R H own) (k : ∀ p ∈ own', p ∈ own) (nd : own'.Nodup) : Hs B R0 R H own' := ⟨h.rh, h.bh, h.r0, h.nw, fun p hp => h.ow p (k p hp), nd⟩
theorem nd_mid {g1 f g2 : List Addr} (h : (g1 ++ f ++ g2).Nodup) : (g1 ++ [] ++ g2).Nodup := by
  simp only [List.nodup_append, List.mem_append] at h ⊢
  grind
theorem nd_move {f g1 f1 g2 : List Addr} (h : (f ++ (g1 ++ f1 ++ g2)).Nodup) : (g1 ++ f ++ g2).Nodup := by
  simp only [List.nodup_append, List.mem_append] at h ⊢
  grind
theorem nd_tail {f g : List Addr} (h : (f ++ g).Nodup) : g.Nodup := by
  simp only [List.nodup_append] at h
  exact h.2.1
theorem sy_get (S : Sy Z B R0 R H τ Θ) {i : Nat} (e : Θ[i]? = some s) : ∃ o f, τ[i]? = some o ∧ slok Z R H o s f := by
  obtain ⟨own, h, es⟩ := S
  obtain ⟨o, g1, f, g2, h1, _, h3, _⟩ := es_at es e
  exact ⟨o, f, h1, h3⟩
theorem sy_push {α : Type} [Rp α] {d : α} {v : V} (S : Sy Z B R0 R H τ Θ) (h : Rp.rp Z R v d) : Sy Z B R0 R H (some v :: τ) (.im d :: Θ) := by
  obtain ⟨own, hs, es⟩ := S
  exact ⟨own, hs, [], own, rfl, ⟨rfl, v, rfl, h⟩, es⟩
theorem sy_pushu (S : Sy Z B R0 R H τ Θ) : Sy Z B R0 R H (o :: τ) (.un :: Θ) := by
  obtain ⟨own, hs, es⟩ := S
  exact ⟨own, hs, [], own, rfl, rfl, es⟩
theorem sy_tail (S : Sy Z B R0 R H (o :: τ) (s :: Θ)) : Sy Z B R0 R H τ Θ := by
  obtain ⟨own, hs, f, g, e1, _, es⟩ := S
  subst e1
  exact ⟨g, hs_sub hs (fun p hp => List.mem_append_right _ hp) (nd_tail hs.nd), es⟩
theorem sy_top {α : Type} [Rp α] {d : α} (S : Sy Z B R0 R H (o :: τ) (.im d :: Θ)) : ∃ v, o = some v ∧ Rp.rp Z R v d := by
  obtain ⟨own, hs, f, g, e1, ⟨_, v, h1, h2⟩, es⟩ := S
  exact ⟨v, h1, h2⟩
/-- the top goes into slot i -/
theorem sy_move (S : Sy Z B R0 R H (o :: τ) (s :: Θ)) (i : Nat) : Sy Z B R0 R H (τ.set i o) (Θ.set i s) := by
  obtain ⟨own, hs, f, g, e1, h1, es⟩ := S
  subst e1
  cases e : Θ[i]? with
  | none =>
    have l1 : Θ.length ≤ i := List.getElem?_eq_none_iff.mp e
    have l2 : τ.length ≤ i := by rw [es_len es]; exact l1
    rw [List.set_eq_of_length_le l1, List.set_eq_of_length_le l2]
    exact ⟨g, hs_sub hs (fun p hp => List.mem_append_right _ hp) (nd_tail hs.nd), es⟩
  | some s0 =>
    obtain ⟨o0, g1, f1, g2, h2, h3, h4, h5⟩ := es_at es e
    subst h3
    refine ⟨g1 ++ f ++ g2, hs_sub hs (fun p hp => ?_) (nd_move hs.nd), h5 R H o s f (Same.refl _) (fun _ _ => rfl) h1⟩
    simp only [List.mem_append] at hp ⊢
    grind
theorem fresh_own (hs : Hs B R0 R H own) (es : Es Z R H τ Θ own) {p : Addr} (hp : H p = none) : R p = none ∧ B p = none ∧ p ∉ own := by
  refine ⟨hs.rh.free hp, hs.bh.free hp, fun hm => es_some es p hm hp⟩
theorem same_upd {p : Addr} {u : HO} (hp : H p = none) : Same H (upd H p u) := fun b o e => by
  rw [upd_ne (ne_of_none e hp)]
  exact e
/-- a new object that nobody needs -/
theorem sy_alloc (S : Sy Z B R0 R H τ Θ) {p : Addr} (hp : H p = none) (u : HO) : Sy Z B R0 R (upd H p u) τ Θ := by
  obtain ⟨own, hs, es⟩ := S
  obtain ⟨a, b, c⟩ := fresh_own hs es hp
  exact ⟨own, ⟨hs.rh.trans (same_upd hp), hs.bh.trans (same_upd hp), hs.r0, hs.nw, hs.ow, hs.nd⟩, es_mono (Same.refl _) (fun q hq => upd_ne (fun z => c (z ▸ hq))) es⟩
/-- a new object, frozen at once -/
theorem sy_froz (S : Sy Z B R0 R H τ Θ) {p : Addr} (hp : H p = none) (u : HO) : Sy Z B R0 (upd R p u) (upd H p u) τ Θ ∧ Same R (upd R p u) := by
  obtain ⟨own, hs, es⟩ := S
  obtain ⟨a, b, c⟩ := fresh_own hs es hp
  have sr : Same R (upd R p u) := same_upd a
  refine ⟨⟨own, ⟨fun q o e => ?_, hs.bh.trans (same_upd hp), hs.r0.trans sr, fun q o e => ?_, fun q hq => ?_, hs.nd⟩, es_mono sr (fun q hq => upd_ne (fun z => c (z ▸ hq))) es⟩, sr⟩
  · by_cases hq : q = p
    · subst hq
      rw [upd_same] at e ⊢
      exact e
    · rw [upd_ne hq] at e ⊢
      exact hs.rh _ _ e
  · by_cases hq : q = p
    · subst hq
      exact .inr b
    · rw [upd_ne hq] at e
      exact hs.nw _ _ e
  · have n : q ≠ p := fun z => c (z ▸ hq)
    rw [upd_ne n]
    exact hs.ow q hq
/-- a new own list | dict -/
theorem sy_newl {α : Type} [Rp α] {vs : List V} {xs : List α} (S : Sy Z B R0 R H τ Θ) {p : Addr} (hp : H p = none) (hv : Paired (Rp.rp Z R) vs xs) : Sy Z B R0 R (upd H p (.lst vs)) (some (.ref p) :: τ) (.ol xs :: Θ) := by
  obtain ⟨own, hs, es⟩ := S
  obtain ⟨a, b, c⟩ := fresh_own hs es hp
  refine ⟨p :: own, ⟨hs.rh.trans (same_upd hp), hs.bh.trans (same_upd hp), hs.r0, hs.nw, fun q hq => ?_, List.nodup_cons.mpr ⟨c, hs.nd⟩⟩, [p], own, rfl, ⟨p, vs, rfl, rfl, upd_same, hv⟩, es_mono (Same.refl _) (fun q hq => upd_ne (fun z => c (z ▸ hq))) es⟩
  rcases List.mem_cons.mp hq with z | z
  · rw [z]; exact ⟨a, b⟩
  · exact hs.ow q z
/-- an own list changes -/
theorem sy_mutl {α : Type} [Rp α] {xs : List α} (S : Sy Z B R0 R H τ Θ) {i : Nat} (e : Θ[i]? = some (.ol xs)) : ∃ p vs, τ[i]? = some (some (.ref p)) ∧ H p = some (.lst vs) ∧ Paired (Rp.rp Z R) vs xs ∧
    ∀ {β : Type} [Rp β] (vs' : List V) (ys : List β), Paired (Rp.rp Z R) vs' ys → Sy Z B R0 R (upd H p (.lst vs')) τ (Θ.set i (.ol ys)) := by
  obtain ⟨own, hs, es⟩ := S
  obtain ⟨o, g1, f, g2, h2, h3, ⟨p, vs, rfl, rfl, h4, h5⟩, h6⟩ := es_at es e
  subst h3
  refine ⟨p, vs, h2, h4, h5, fun {β} _ vs' ys hy => ?_⟩
  have hp := hs.ow p (by simp)
  have nd := hs.nd
  have ne : ∀ q ∈ g1 ++ g2, q ≠ p := fun q hq z => by
    subst z
    simp only [List.nodup_append, List.mem_append, List.mem_singleton] at nd hq
    grind
  have h7 := h6 R (upd H p (.lst vs')) (some (.ref p)) (.ol ys) [p] (Same.refl _) (fun q hq => upd_ne (ne q hq)) ⟨p, vs', rfl, rfl, upd_same, hy⟩
  have e2 : τ.set i (some (.ref p)) = τ := by
    apply List.ext_getElem?
    intro j
    rw [List.getElem?_set]
    split
    · rename_i hj
      subst hj
      split
      · rw [h2]
      · rename_i hl
        rw [List.getElem?_eq_none (by omega)]
    · rfl
  rw [e2] at h7
  exact ⟨_, ⟨fun q u a => by rw [upd_ne (ne_of_none a hp.1)]; exact hs.rh _ _ a, fun q u a => by rw [upd_ne (ne_of_none a hp.2)]; exact hs.bh _ _ a, hs.r0, hs.nw, hs.ow, hs.nd⟩, h7⟩
/-- an own list is frozen -/
theorem sy_frl {α : Type} [Rp α] {xs : List α} (S : Sy Z B R0 R H τ Θ) {i : Nat} (e : Θ[i]? = some (.ol xs)) : ∃ R', Same R R' ∧ Sy Z B R0 R' H τ (Θ.set i (.im xs)) := by
  obtain ⟨own, hs, es⟩ := S
  obtain ⟨o, g1, f, g2, h2, h3, ⟨p, vs, rfl, rfl, h4, h5⟩, h6⟩ := es_at es e
  subst h3
  have hp := hs.ow p (by simp)
  have nd := hs.nd
  have ne : ∀ q ∈ g1 ++ g2, q ≠ p := fun q hq z => by
    subst z
    simp only [List.nodup_append, List.mem_append, List.mem_singleton] at nd hq
    grind
  have sr : Same R (upd R p (.lst vs)) := same_upd hp.1
  have h7 := h6 (upd R p (.lst vs)) H (some (.ref p)) (.im xs) [] sr (fun q hq => rfl) ⟨rfl, .ref p, rfl, p, vs, rfl, upd_same, paired_mono (fun _ _ => Rp.mono sr) h5⟩
  have e2 : τ.set i (some (.ref p)) = τ := by
    apply List.ext_getElem?
    intro j
    rw [List.getElem?_set]
    split
    · rename_i hj
      subst hj
      split
      · rw [h2]
      · rename_i hl
        rw [List.getElem?_eq_none (by omega)]
    · rfl
  rw [e2] at h7
  refine ⟨_, sr, _, ⟨fun q u a => ?_, hs.bh, hs.r0.trans sr, fun q u a => ?_, fun q hq => ?_, nd_mid hs.nd⟩, h7⟩
  · by_cases hq : q = p
    · subst hq
      rw [upd_same] at a
      rw [h4]; exact a
    · rw [upd_ne hq] at a
      exact hs.rh _ _ a
  · by_cases hq : q = p
    · subst hq
      exact .inr hp.2
    · rw [upd_ne hq] at a
      exact hs.nw _ _ a
  · rw [List.append_nil] at hq
    rw [upd_ne (ne q hq)]
    exact hs.ow q (by simp only [List.mem_append] at hq ⊢; grind)
end
end TB

/-! TbG: operators by values, whatever the kinds (ints or lists; lists, tuples or dicts). -/
namespace TB
open PySem PySem.Spec PyProof.Rows L2
theorem opR_or {X : Cx} {f : Value → Value → Sem Value} {r r' : R2} (h : OpR X f r) (h' : OpR X f r') : OpR X f (fun x y H Q => r x y H Q ∨ r' x y H Q) := by
  intro pins s σ H x y v u Q I rx ry q
  rcases q with q | q
  · exact h pins s σ H x y v u Q I rx ry q
  · exact h' pins s σ H x y v u Q I rx ry q
def rAddI : R2 := rI0 fun i j => .int (i + j)
def gAdd : R2 := fun x y H Q => rAddI x y H Q ∨ rCat x y H Q
def gMns : R2 := rI0 fun i j => .int (i - j)
def rMulI : R2 := rI CMulW fun i j => .int (i * j)
def rMulS : R2 := rI CMul fun i j => .int (i * j)
def gMul : R2 := fun x y H Q => rMulI x y H Q ∨ rRep x y H Q ∨ rMulS x y H Q
def gMod : R2 := rI (fun _ j => j ≠ 0) fun i j => .int (i.fmod j)
def rDivN : R2 := rI CDivN fun i j => .int (i.fdiv j)
def rDivW : R2 := rI CDivW fun i j => .int (i / j)
def gDiv : R2 := fun x y H Q => rDivN x y H Q ∨ rDivW x y H Q
def gPow : R2 := rI CPow fun i j => .int (i ^ j.toNat)
def gEq (K : PySem.W.Frag) : R2 := fun x y H Q => rEq x y H Q ∨ rEqD K x y H Q
def gNe (K : PySem.W.Frag) : R2 := fun x y H Q => rNe x y H Q ∨ rNeD K x y H Q
def gLt : R2 := rI0 fun i j => .bl (decide (i < j))
def gLe : R2 := rI0 fun i j => .bl (decide (i ≤ j))
def gGt : R2 := rI0 fun i j => .bl (decide (j < i))
def gGe : R2 := rI0 fun i j => .bl (decide (j ≤ i))
def rDIx : R2 := fun x y H Q => ∃ a v, x = .ref a ∧ DGet H a y (some v) ∧ Q v H
def gIx (K : PySem.W.Frag) : R2 := fun x y H Q => rIxL K x y H Q ∨ rIxT K x y H Q ∨ rDIx x y H Q
def uNeg : V → Hp → VK → Prop := rU fun i => .int (-i)
section
variable {X : Cx}
theorem go_add : OpR X (binaryOp .Add) gAdd := opR_or op_add op_cat
theorem go_sub : OpR X (binaryOp .Sub) gMns := op_sub
theorem go_mul : OpR X (binaryOp .Mult) gMul := opR_or op_mulW (opR_or op_rep op_mul)
theorem go_mod : OpR X (binaryOp .Mod) gMod := op_modN
theorem go_div : OpR X (binaryOp .FloorDiv) gDiv := opR_or op_fdivN op_fdivW
theorem go_pow : OpR X (binaryOp .Pow) gPow := op_pow
theorem go_eq (hu : X.A.units + 64 < cLine) : OpR X (compareOp .Eq) (gEq X.K) := opR_or op_eq (op_eqD hu)
theorem go_ne (hu : X.A.units + 64 < cLine) : OpR X (compareOp .NotEq) (gNe X.K) := opR_or op_ne (op_neD hu)
theorem go_lt : OpR X (compareOp .Lt) gLt := op_lt
theorem go_gt : OpR X (compareOp .Gt) gGt := op_gt
theorem go_dIx (hu : X.A.units + 1 < cLine) : IxR X rDIx := by
  intro value slice pins s σ H x y v u Q I rx ry h hs
  obtain ⟨a, w, rfl, g, q⟩ := h
  cases rx
  exact tail_any (dict_typeIs I g) PySem.F.slot_dict_getitem.lookup (d_getItem hu I g ry fun w' s3 I3 rw' => ⟨w, H, I3, rw', q⟩) hs
theorem go_ix (hu : X.A.units + 1 < cLine) : IxR X (gIx X.K) := ix_list.or (ix_tup.or (go_dIx hu))
theorem go_neg : UnR X (unaryOp .USub) uNeg := un_neg
theorem hu64 {k : Nat} {A : Around} (hr : Room k A) : A.units + 64 < cLine := by have := hr.un; omega
theorem hu1 {k : Nat} {A : Around} (hr : Room k A) : A.units + 1 < cLine := by have := hr.un; omega
end
end TB

/-! TbJ: the judgements: what an expression is worth (Ev), a test (EvT), arguments (EvA), what a walk draws (EvI), what a statement leads to (W). -/
namespace TB
open PySem L2
/-- a frame's state: ρ, Δ what lies ahead of the slots (values under way) -/
def Sx (Z : Zz) (B R0 R H : Hp) (ρ : List (Option V)) (Δ : List Sl) (σ : List (Option V)) (Γ : List Sl) : Prop := ρ.length = Δ.length ∧ Sy Z B R0 R H (ρ ++ σ) (Δ ++ Γ)
section
variable {Z : Zz} {B R0 R R' H H' : Hp} {ρ σ τ τ' : List (Option V)} {Δ Γ Θ Θ' : List Sl} {s : Sl} {o : Option V} {f own own' : List Addr}
theorem es_append : ∀ {τ τ' : List (Option V)} {Θ Θ' : List Sl} {own : List Addr}, τ.length = Θ.length → (Es Z R H (τ ++ τ') (Θ ++ Θ') own ↔ ∃ f g, own = f ++ g ∧ Es Z R H τ Θ f ∧ Es Z R H τ' Θ' g)
  | [], _, [], _, own, _ => ⟨fun h => ⟨[], own, rfl, rfl, h⟩, fun ⟨f, g, e, h1, h2⟩ => by
      have h1' : f = [] := h1
      subst h1'
      rw [e]
      exact h2⟩
  | o :: τ, τ', s :: Θ, Θ', own, hl => by
    have hl' : τ.length = Θ.length := by simpa using hl
    constructor
    · rintro ⟨f, g, e, h1, h2⟩
      obtain ⟨f2, g2, e2, h3, h4⟩ := (es_append hl').mp h2
      exact ⟨f ++ f2, g2, by rw [e, e2, List.append_assoc], ⟨f, f2, rfl, h1, h3⟩, h4⟩
    · rintro ⟨f, g, e, ⟨f1, f2, e1, h1, h2⟩, h3⟩
      exact ⟨f1, f2 ++ g, by rw [e, e1, List.append_assoc], h1, (es_append hl').mpr ⟨f2, g, rfl, h2, h3⟩⟩
  | [], _, _ :: _, _, _, hl => by simp at hl
  | _ :: _, _, [], _, _, hl => by simp at hl
theorem sy_sub {τ1 τ2 τ3 : List (Option V)} {Θ1 Θ2 Θ3 : List Sl} (h1 : τ1.length = Θ1.length) (h2 : τ2.length = Θ2.length) (S : Sy Z B R0 R H (τ1 ++ (τ2 ++ τ3)) (Θ1 ++ (Θ2 ++ Θ3))) : Sy Z B R0 R H (τ1 ++ τ3) (Θ1 ++ Θ3) := by
  obtain ⟨own, hs, es⟩ := S
  obtain ⟨f, g, rfl, e1, e2⟩ := (es_append h1).mp es
  obtain ⟨f2, g2, rfl, e3, e4⟩ := (es_append h2).mp e2
  refine ⟨f ++ g2, hs_sub hs (fun p hp => ?_) ?_, (es_append h1).mpr ⟨f, g2, rfl, e1, e4⟩⟩
  · simp only [List.mem_append] at hp ⊢
    grind
  · have nd := hs.nd
    simp only [List.nodup_append, List.mem_append] at nd ⊢
    grind
theorem sx_len (S : Sx Z B R0 R H ρ Δ σ Γ) : σ.length = Γ.length := by
  obtain ⟨h, own, _, es⟩ := S
  have := es_len es
  simp only [List.length_append] at this
  omega
theorem sx_same (S : Sx Z B R0 R H ρ Δ σ Γ) : Same R H := by
  obtain ⟨_, own, hs, _⟩ := S
  exact hs.rh
theorem sx_base (S : Sx Z B R0 R H ρ Δ σ Γ) : Same B H := by
  obtain ⟨_, own, hs, _⟩ := S
  exact hs.bh
theorem at_slot {α β : Type _} {l : List α} {m : List β} {i : Nat} {r : List β} (h : l.length = m.length) : (m ++ r)[l.length + i]? = r[i]? := by
  rw [h, List.getElem?_append_right (by omega)]
  congr 1
  omega
theorem at_slot' {α : Type _} {l r : List α} {i : Nat} : (l ++ r)[l.length + i]? = r[i]? := at_slot rfl
theorem sx_slot (S : Sx Z B R0 R H ρ Δ σ Γ) {i : Nat} (e : Γ[i]? = some s) : ∃ o f, σ[i]? = some o ∧ slok Z R H o s f := by
  obtain ⟨hl, S⟩ := S
  obtain ⟨o, f, h1, h2⟩ := sy_get S (i := ρ.length + i) (by rw [at_slot hl]; exact e)
  rw [at_slot'] at h1
  exact ⟨o, f, h1, h2⟩
theorem sx_im {α : Type} [Rp α] {d : α} (S : Sx Z B R0 R H ρ Δ σ Γ) {i : Nat} (e : Γ[i]? = some (.im d)) : ∃ v, σ[i]? = some (some v) ∧ Rp.rp Z R v d := by
  obtain ⟨o, f, h1, _, v, h2, h3⟩ := sx_slot S e
  exact ⟨v, by rw [h1, h2], h3⟩
theorem sx_push {α : Type} [Rp α] {d : α} {v : V} (S : Sx Z B R0 R H ρ Δ σ Γ) (h : Rp.rp Z R v d) : Sx Z B R0 R H (some v :: ρ) (.im d :: Δ) σ Γ := ⟨by simp [S.1], sy_push S.2 h⟩
theorem sx_pushu (S : Sx Z B R0 R H ρ Δ σ Γ) : Sx Z B R0 R H (o :: ρ) (.un :: Δ) σ Γ := ⟨by simp [S.1], sy_pushu S.2⟩
theorem sx_pop {s : Sl} (S : Sx Z B R0 R H (o :: ρ) (s :: Δ) σ Γ) : Sx Z B R0 R H ρ Δ σ Γ := ⟨by have := S.1; simpa using this, sy_tail S.2⟩
theorem sx_pop2 {o2 : Option V} {s s2 : Sl} (S : Sx Z B R0 R H (o :: o2 :: ρ) (s :: s2 :: Δ) σ Γ) : Sx Z B R0 R H (o :: ρ) (s :: Δ) σ Γ :=
  ⟨by have := S.1; simpa using this, sy_sub (τ1 := [o]) (τ2 := [o2]) (Θ1 := [s]) (Θ2 := [s2]) rfl rfl S.2⟩
theorem sx_top {α : Type} [Rp α] {d : α} (S : Sx Z B R0 R H (o :: ρ) (.im d :: Δ) σ Γ) : ∃ v, o = some v ∧ Rp.rp Z R v d := sy_top S.2
theorem sx_top' {α : Type} [Rp α] {d : α} {v : V} (S : Sx Z B R0 R H (some v :: ρ) (.im d :: Δ) σ Γ) : Rp.rp Z R v d := by
  obtain ⟨w, h1, h2⟩ := sx_top S
  cases h1
  exact h2
theorem sx_drop {ρ' : List (Option V)} {Δ' : List Sl} (h : ρ'.length = Δ'.length) (S : Sx Z B R0 R H (ρ' ++ ρ) (Δ' ++ Δ) σ Γ) : Sx Z B R0 R H ρ Δ σ Γ := by
  obtain ⟨h1, S⟩ := S
  rw [List.length_append, List.length_append] at h1
  exact ⟨by omega, sy_sub (τ1 := []) (Θ1 := []) rfl h (by simpa using S)⟩
theorem sx_drop1 {ρ' : List (Option V)} {Δ' : List Sl} (h : ρ'.length = Δ'.length) (S : Sx Z B R0 R H (o :: (ρ' ++ ρ)) (s :: (Δ' ++ Δ)) σ Γ) : Sx Z B R0 R H (o :: ρ) (s :: Δ) σ Γ := by
  obtain ⟨h1, S⟩ := S
  simp only [List.length_cons, List.length_append] at h1
  refine ⟨by simp; omega, sy_sub (τ1 := [o]) (Θ1 := [s]) (τ2 := ρ') (Θ2 := Δ') rfl h (by simpa using S)⟩
/-- the slots are let go -/
theorem sx_leave (S : Sx Z B R0 R H ρ Δ σ Γ) : Sx Z B R0 R H ρ Δ [] [] := by
  refine ⟨S.1, ?_⟩
  have h := sx_len S
  exact sy_sub (τ1 := ρ) (Θ1 := Δ) (τ2 := σ) (Θ2 := Γ) (τ3 := []) (Θ3 := []) S.1 h (by simpa using S.2)
theorem sx_asg (S : Sx Z B R0 R H (o :: ρ) (s :: Δ) σ Γ) (i : Nat) : Sx Z B R0 R H ρ Δ (σ.set i o) (Γ.set i s) := by
  obtain ⟨h, S⟩ := S
  have h' : ρ.length = Δ.length := by simpa using h
  refine ⟨h', ?_⟩
  have q := sy_move (τ := ρ ++ σ) (Θ := Δ ++ Γ) S (ρ.length + i)
  rw [List.set_append_right _ _ (by omega), h', List.set_append_right _ _ (by omega), show Δ.length + i - Δ.length = i by omega] at q
  exact q
theorem sx_forgets (S : Sx Z B R0 R H ρ Δ σ Γ) (i : Nat) (o' : Option V) : Sx Z B R0 R H ρ Δ (σ.set i o') (Γ.set i .un) := sx_asg (sx_pushu S) i
theorem sx_alloc (S : Sx Z B R0 R H ρ Δ σ Γ) {p : Addr} (hp : H p = none) (u : HO) : Sx Z B R0 R (upd H p u) ρ Δ σ Γ := ⟨S.1, sy_alloc S.2 hp u⟩
theorem sx_froz (S : Sx Z B R0 R H ρ Δ σ Γ) {p : Addr} (hp : H p = none) (u : HO) : Sx Z B R0 (upd R p u) (upd H p u) ρ Δ σ Γ ∧ Same R (upd R p u) := ⟨⟨S.1, (sy_froz S.2 hp u).1⟩, (sy_froz S.2 hp u).2⟩
theorem sx_newl {α : Type} [Rp α] {vs : List V} {xs : List α} (S : Sx Z B R0 R H ρ Δ σ Γ) {p : Addr} (hp : H p = none) (hv : Paired (Rp.rp Z R) vs xs) : Sx Z B R0 R (upd H p (.lst vs)) (some (.ref p) :: ρ) (.ol xs :: Δ) σ Γ :=
  ⟨by simp [S.1], sy_newl S.2 hp hv⟩
theorem sx_mutl {α : Type} [Rp α] {xs : List α} (S : Sx Z B R0 R H ρ Δ σ Γ) {i : Nat} (e : Γ[i]? = some (.ol xs)) : ∃ p vs, σ[i]? = some (some (.ref p)) ∧ H p = some (.lst vs) ∧ Paired (Rp.rp Z R) vs xs ∧
    ∀ {β : Type} [Rp β] (vs' : List V) (ys : List β), Paired (Rp.rp Z R) vs' ys → Sx Z B R0 R (upd H p (.lst vs')) ρ Δ σ (Γ.set i (.ol ys)) := by
  obtain ⟨h, S⟩ := S
  obtain ⟨p, vs, h1, h2, h3, h4⟩ := sy_mutl S (i := ρ.length + i) (by rw [at_slot h]; exact e)
  rw [at_slot'] at h1
  refine ⟨p, vs, h1, h2, h3, fun vs' ys hy => ⟨h, ?_⟩⟩
  have q := h4 vs' ys hy
  rw [h, List.set_append_right _ _ (by omega), show Δ.length + i - Δ.length = i by omega] at q
  exact q
/-- the top, an own list, changes -/
theorem sx_mutTop {α : Type} [Rp α] {xs : List α} (S : Sx Z B R0 R H (o :: ρ) (.ol xs :: Δ) σ Γ) : ∃ p vs, o = some (.ref p) ∧ H p = some (.lst vs) ∧ Paired (Rp.rp Z R) vs xs ∧
    ∀ {β : Type} [Rp β] (vs' : List V) (ys : List β), Paired (Rp.rp Z R) vs' ys → Sx Z B R0 R (upd H p (.lst vs')) (o :: ρ) (.ol ys :: Δ) σ Γ := by
  obtain ⟨h, S⟩ := S
  obtain ⟨p, vs, h1, h2, h3, h4⟩ := sy_mutl S (i := 0) rfl
  refine ⟨p, vs, by simpa using h1, h2, h3, fun vs' ys hy => ⟨by simpa using h, ?_⟩⟩
  exact h4 vs' ys hy
theorem sx_frl {α : Type} [Rp α] {xs : List α} (S : Sx Z B R0 R H ρ Δ σ Γ) {i : Nat} (e : Γ[i]? = some (.ol xs)) : ∃ R', Same R R' ∧ Sx Z B R0 R' H ρ Δ σ (Γ.set i (.im xs)) := by
  obtain ⟨h, S⟩ := S
  obtain ⟨R', h1, h2⟩ := sy_frl S (i := ρ.length + i) (by rw [at_slot h]; exact e)
  rw [h, List.set_append_right _ _ (by omega), show Δ.length + i - Δ.length = i by omega] at h2
  exact ⟨R', h1, h, h2⟩
theorem sx_frTop {α : Type} [Rp α] {xs : List α} (S : Sx Z B R0 R H (o :: ρ) (.ol xs :: Δ) σ Γ) : ∃ R', Same R R' ∧ Sx Z B R0 R' H (o :: ρ) (.im xs :: Δ) σ Γ := by
  obtain ⟨h, S⟩ := S
  obtain ⟨R', h1, h2⟩ := sy_frl S (i := 0) rfl
  exact ⟨R', h1, by simpa using h, h2⟩
end

/-! ### refusals -/
structure Rf where
  name : CN
  fs : List (Str × V)
/-- a refusal: its class, its dict in H, which is new since B -/
def RepEx (Z : Zz) (B H : Hp) (r : Rf) (cls : Value) (d : Option Addr) : Prop := cls = .ref (Z.cls r.name) ∧ ((r.fs = [] ∧ d = none) ∨ (r.fs ≠ [] ∧ ∃ dx, d = some dx ∧ B dx = none ∧ H dx = some (.xd r.fs)))
theorem RepEx.mono {Z : Zz} {B H H' : Hp} {r : Rf} {cls : Value} {d : Option Addr} (e : Same H H') (h : RepEx Z B H r cls d) : RepEx Z B H' r cls d := by
  obtain ⟨h1, h2 | ⟨h2, dx, h3, h4, h5⟩⟩ := h
  · exact ⟨h1, .inl h2⟩
  · exact ⟨h1, .inr ⟨h2, dx, h3, h4, e _ _ h5⟩⟩
/-- the written part, what is wished of an exception, which refusals may come -/
structure Cn where
  Z : Zz
  X : WX
  ex : Rf → List Sl → Prop
abbrev Cn.no (c : Cn) : Cn := { c with ex := fun _ _ => False }
def Xok (c : Cn) (B R0 : Hp) (ρ : List (Option V)) (Δ : List Sl) : Prop := ∀ R' H' σ' Γ' r cls d, Sx c.Z B R0 R' H' ρ Δ σ' Γ' → RepEx c.Z B R' r cls d → c.ex r Γ' → c.X cls d σ' H'
theorem Xok.push {c : Cn} {B R0 : Hp} {ρ ρ' : List (Option V)} {Δ Δ' : List Sl} (h : ρ'.length = Δ'.length) (x : Xok c B R0 ρ Δ) : Xok c B R0 (ρ' ++ ρ) (Δ' ++ Δ) := fun R' H' σ' Γ' r cls d S => x R' H' σ' Γ' r cls d (sx_drop h S)
theorem Xok.push1 {c : Cn} {B R0 : Hp} {ρ : List (Option V)} {Δ : List Sl} {o : Option V} {s : Sl} (x : Xok c B R0 ρ Δ) : Xok c B R0 (o :: ρ) (s :: Δ) := fun R' H' σ' Γ' r cls d S => x R' H' σ' Γ' r cls d (sx_pop S)
theorem Xok.no (c : Cn) (B R0 : Hp) (ρ : List (Option V)) (Δ : List Sl) : Xok c.no B R0 ρ Δ := fun _ _ _ _ _ _ _ _ _ z => z.elim

/-! ### the judgements -/
def Ev (c : Cn) (Γ : List Sl) (t : TE) (s : Sl) : Prop := ∀ B R0 R H ρ Δ σ, Sx c.Z B R0 R H ρ Δ σ Γ → ∀ Q : VK, (∀ v R' H', Sx c.Z B R0 R' H' (some v :: ρ) (s :: Δ) σ Γ → Q v H') → Xok c B R0 ρ Δ → t σ H Q
def EvT (c : Cn) (Γ : List Sl) (t : TT) (b : Bool) : Prop := ∀ B R0 R H ρ Δ σ, Sx c.Z B R0 R H ρ Δ σ Γ → ∀ Q : Bool → Hp → Prop, (∀ R' H', Sx c.Z B R0 R' H' ρ Δ σ Γ → Q b H') → Xok c B R0 ρ Δ → t σ H Q
inductive Slims (Z : Zz) (R : Hp) : List V → List Sl → Prop
  | nil : Slims Z R [] []
  | cons {α : Type} [Rp α] {v : V} {d : α} {vs : List V} {ss : List Sl} : Rp.rp Z R v d → Slims Z R vs ss → Slims Z R (v :: vs) (.im d :: ss)
def EvA (c : Cn) (Γ : List Sl) (t : TA) (ss : List Sl) : Prop := ∀ B R0 R H ρ Δ σ, Sx c.Z B R0 R H ρ Δ σ Γ → ∀ Q : List V → Hp → Prop, (∀ vs R' H', Sx c.Z B R0 R' H' ρ Δ σ Γ → Slims c.Z R' vs ss → Q vs H') → Xok c B R0 ρ Δ → t σ H Q
structure Po where
  nx : List Sl → Prop
  rt : Sl → Prop
  bk : List Sl → Prop := fun _ => False
  ct : List Sl → Prop := fun _ => False
def W (c : Cn) (Γ : List Sl) (t : TS) (P : Po) : Prop := ∀ B R0 R H ρ Δ σ D, Sx c.Z B R0 R H ρ Δ σ Γ →
  (∀ R' H' σ' Γ', Sx c.Z B R0 R' H' ρ Δ σ' Γ' → P.nx Γ' → D.nx σ' H') → (∀ R' H' v s, Sx c.Z B R0 R' H' (some v :: ρ) (s :: Δ) [] [] → P.rt s → D.rt v H') →
  (∀ R' H' σ' Γ', Sx c.Z B R0 R' H' ρ Δ σ' Γ' → P.bk Γ' → D.bk σ' H') → (∀ R' H' σ' Γ', Sx c.Z B R0 R' H' ρ Δ σ' Γ' → P.ct Γ' → D.ct σ' H') → Xok c B R0 ρ Δ → t D σ H
/-- forget the block's own slots -/
def wipeG (Γ : List Sl) : List Nat → List Sl
  | [] => Γ
  | v :: vs => (wipeG Γ vs).set v .un
/-- nothing stands in these slots -/
def UnAt (Γ : List Sl) : List Nat → Prop
  | [] => True
  | v :: vs => (Γ[v]? = some .un ∨ Γ.length ≤ v) ∧ UnAt Γ vs
/-- a walk: n turns, turn i stores as us i tells, into slots of js -/
structure ItOk (Z : Zz) (B R0 : Hp) (ρ : List (Option V)) (Δ : List Sl) (J : It) (g : TG) (n : Nat) (us : Nat → List Sl → List Sl) (js : List Nat) : Prop where
  back : ∀ (i : Nat) (Γ : List Sl) (vs : List Nat), (∀ j ∈ js, j ∈ vs) → wipeG (us i Γ) vs = wipeG Γ vs
  go : ∀ {R H : Hp} {ρx : List (Option V)} {Δx : List Sl} {σ : List (Option V)} {Γ : List Sl} {i : Nat}, ρx.length = Δx.length → Sx Z B R0 R H (ρx ++ ρ) (Δx ++ Δ) σ Γ → i < n → J.go i H
  stop : ∀ {R H : Hp} {ρx : List (Option V)} {Δx : List Sl} {σ : List (Option V)} {Γ : List Sl}, ρx.length = Δx.length → Sx Z B R0 R H (ρx ++ ρ) (Δx ++ Δ) σ Γ → J.stop n H
  yld : ∀ {R H : Hp} {ρx : List (Option V)} {Δx : List Sl} {σ : List (Option V)} {Γ : List Sl} {i : Nat} {x : V} {H' : Hp}, ρx.length = Δx.length → Sx Z B R0 R H (ρx ++ ρ) (Δx ++ Δ) σ Γ → i < n → J.yld i H x H' → ∀ K : St → Hp → Prop,
    (∀ R2 σ2 H2, Sx Z B R0 R2 H2 (ρx ++ ρ) (Δx ++ Δ) σ2 (us i Γ) → (∀ vs : List Nat, (∀ j ∈ js, j ∈ vs) → wipe σ2 vs = wipe σ vs) → K σ2 H2) → g x σ H' K
def EvI (c : Cn) (Γ : List Sl) (wi : TI) (g : TG) (n : Nat) (us : Nat → List Sl → List Sl) (js : List Nat) : Prop := ∀ B R0 R H ρ Δ σ, Sx c.Z B R0 R H ρ Δ σ Γ → ∀ K : It → Hp → Prop,
  (∀ J R' H' ρ' Δ', ρ'.length = Δ'.length → Sx c.Z B R0 R' H' (ρ' ++ ρ) (Δ' ++ Δ) σ Γ → ItOk c.Z B R0 (ρ' ++ ρ) (Δ' ++ Δ) J g n us js → K J H') → Xok c B R0 ρ Δ → wi σ H K
end TB

/-! TbR: the rules of the judgements. -/
namespace TB
open PySem L2
variable {c : Cn} {Γ : List Sl} {ta tb te tl : TE} {t u : TT} {s : Sl} {α β γ : Type} {_ : Rp α} {_ : Rp β} {_ : Rp γ}

/-- the item of a list at an int -/
def gt {α : Type} [Rp α] (xs : List α) (i : Int) : α := xs.getD i.toNat Rp.df
theorem gt_nat {α : Type} [Rp α] {xs : List α} {i : Nat} (h : i < xs.length) : gt xs (i : Int) = xs[i] := by simp [gt, h]
theorem gt_some {α : Type} [Rp α] {xs : List α} {i : Int} (h0 : 0 ≤ i) (h1 : i < xs.length) : xs[i.toNat]? = some (gt xs i) := by
  have : i.toNat < xs.length := by omega
  simp [gt, this]
theorem atI_of {α : Type} {xs : List α} {i : Int} {x : α} (h0 : 0 ≤ i) (h1 : i < xs.length) (e : xs[i.toNat]? = some x) : atI xs i = some x := by
  unfold atI ixN
  rw [if_pos h0, if_pos h1]
  exact e

/-! ### expressions -/
theorem ev_is {s' : Sl} (h : Ev c Γ te s) (e : s = s') : Ev c Γ te s' := e ▸ h
theorem ev_to {d d' : α} (h : Ev c Γ te (.im d)) (e : d = d') : Ev c Γ te (.im d') := e ▸ h
theorem et_to {b b' : Bool} (h : EvT c Γ t b) (e : b = b') : EvT c Γ t b' := e ▸ h
theorem ev_var {i : Nat} {d : α} (e : Γ[i]? = some (.im d)) : Ev c Γ (tVar i) (.im d) := fun B R0 R H ρ Δ σ S Q q _ => by
  obtain ⟨v, h1, h2⟩ := sx_im S e
  exact ⟨v, h1, q v R H (sx_push S h2)⟩
theorem ev_int {i : Int} : Ev c Γ (tC (.int i)) (.im i) := fun B R0 R H ρ Δ σ S Q q _ => q _ R H (sx_push S rfl)
theorem ev_bl {b : Bool} : Ev c Γ (tC (.bl b)) (.im b) := fun B R0 R H ρ Δ σ S Q q _ => q _ R H (sx_push S rfl)
theorem ev_str {x : Str} : Ev c Γ (tC (.str x)) (.im x) := fun B R0 R H ρ Δ σ S Q q _ => q _ R H (sx_push S rfl)
theorem ev_non : Ev c Γ (tC .non) (.im ()) := fun B R0 R H ρ Δ σ S Q q _ => q _ R H (sx_push S rfl)
theorem ev_none : Ev c Γ (tC .non) (.im (none : Option α)) := fun B R0 R H ρ Δ σ S Q q _ => q _ R H (sx_push S rfl)
/-- data told as an optional datum -/
theorem ev_opt {d : α} (h : Ev c Γ te (.im d)) : Ev c Γ te (.im (some d)) := fun B R0 R H ρ Δ σ S Q q x => h B R0 R H ρ Δ σ S Q (fun v R' H' S' => q v R' H' (sx_push (sx_pop S') (sx_top' S'))) x
theorem ev_unopt {d : α} (h : Ev c Γ te (.im (some d))) : Ev c Γ te (.im d) := fun B R0 R H ρ Δ σ S Q q x => h B R0 R H ρ Δ σ S Q (fun v R' H' S' => q v R' H' (sx_push (sx_pop S') (show Rp.rp c.Z R' v d from sx_top' S'))) x
theorem ev_fr {xs : List α} (h : Ev c Γ te (.ol xs)) : Ev c Γ te (.im xs) := fun B R0 R H ρ Δ σ S Q q x => h B R0 R H ρ Δ σ S Q (fun v R' H' S' => by
  obtain ⟨R2, _, S2⟩ := sx_frTop S'
  exact q v R2 H' S2) x
theorem ev_op {r : R2} {x : α} {y : β} (ha : Ev c Γ ta (.im x)) (hb : Ev c Γ tb (.im y))
    (hr : ∀ B R0 R H ρ Δ σ v w, Sx c.Z B R0 R H ρ Δ σ Γ → Rp.rp c.Z R v x → Rp.rp c.Z R w y → ∀ Q : VK, (∀ z R' H', Sx c.Z B R0 R' H' (some z :: ρ) (s :: Δ) σ Γ → Q z H') → r v w H Q) : Ev c Γ (tOp r ta tb) s :=
  fun B R0 R H ρ Δ σ S Q q xk => ha B R0 R H ρ Δ σ S _ (fun v R1 H1 S1 => hb B R0 R1 H1 _ _ σ S1 _ (fun w R2 H2 S2 => hr B R0 R2 H2 ρ Δ σ v w (sx_pop (sx_pop S2)) (sx_top' (sx_pop S2)) (sx_top' S2) Q q) xk.push1) xk
/-- an operation on flat values -/
theorem ev_opv {r : R2} {x : α} {y : β} {z : γ} (ha : Ev c Γ ta (.im x)) (hb : Ev c Γ tb (.im y)) (hr : ∀ R H v w, Same R H → Rp.rp c.Z R v x → Rp.rp c.Z R w y → ∃ k, Rp.rp c.Z R k z ∧ ∀ Q : VK, Q k H → r v w H Q) : Ev c Γ (tOp r ta tb) (.im z) :=
  ev_op ha hb fun B R0 R H ρ Δ σ v w S rv rw Q q => by
    obtain ⟨k, h1, h2⟩ := hr R H v w (sx_same S) rv rw
    exact h2 Q (q k R H (sx_push S h1))
section
variable {i j : Int}
theorem ev_add (ha : Ev c Γ ta (.im i)) (hb : Ev c Γ tb (.im j)) : Ev c Γ (tOp gAdd ta tb) (.im (i + j)) := ev_opv ha hb fun R H v w _ rv rw => ⟨.int (i + j), rfl, fun Q q => .inl ⟨i, j, rv, rw, q⟩⟩
theorem ev_sub (ha : Ev c Γ ta (.im i)) (hb : Ev c Γ tb (.im j)) : Ev c Γ (tOp gMns ta tb) (.im (i - j)) := ev_opv ha hb fun R H v w _ rv rw => ⟨.int (i - j), rfl, fun Q q => ⟨i, j, rv, rw, q⟩⟩
theorem ev_mul (ha : Ev c Γ ta (.im i)) (hb : Ev c Γ tb (.im j)) (h : CMulW i j) : Ev c Γ (tOp gMul ta tb) (.im (i * j)) := ev_opv ha hb fun R H v w _ rv rw => ⟨.int (i * j), rfl, fun Q q => .inl ⟨i, j, rv, rw, h, q⟩⟩
theorem ev_mulS (ha : Ev c Γ ta (.im i)) (hb : Ev c Γ tb (.im j)) (h : CMul i j) : Ev c Γ (tOp gMul ta tb) (.im (i * j)) := ev_opv ha hb fun R H v w _ rv rw => ⟨.int (i * j), rfl, fun Q q => .inr (.inr ⟨i, j, rv, rw, h, q⟩)⟩
theorem ev_mod (ha : Ev c Γ ta (.im i)) (hb : Ev c Γ tb (.im j)) (h : 0 < j) : Ev c Γ (tOp gMod ta tb) (.im (i % j)) := ev_opv ha hb fun R H v w _ rv rw => ⟨.int (i % j), rfl, fun Q q => ⟨i, j, rv, rw, by omega, by show Q (.int (i.fmod j)) H; rw [Int.fmod_eq_emod_of_nonneg _ (by omega)]; exact q⟩⟩
theorem ev_div (ha : Ev c Γ ta (.im i)) (hb : Ev c Γ tb (.im j)) (h : 0 < j) (h2 : j < 1073741824) : Ev c Γ (tOp gDiv ta tb) (.im (i / j)) := ev_opv ha hb fun R H v w _ rv rw => ⟨.int (i / j), rfl, fun Q q => .inl ⟨i, j, rv, rw, ⟨by omega, by omega⟩, by show Q (.int (i.fdiv j)) H; rw [Int.fdiv_eq_ediv_of_nonneg _ (by omega)]; exact q⟩⟩
theorem ev_pow (ha : Ev c Γ ta (.im i)) (hb : Ev c Γ tb (.im j)) (h : CPow i j) : Ev c Γ (tOp gPow ta tb) (.im (i ^ j.toNat)) := ev_opv ha hb fun R H v w _ rv rw => ⟨.int (i ^ j.toNat), rfl, fun Q q => ⟨i, j, rv, rw, h, q⟩⟩
theorem ev_lt (ha : Ev c Γ ta (.im i)) (hb : Ev c Γ tb (.im j)) : Ev c Γ (tOp gLt ta tb) (.im (decide (i < j))) := ev_opv ha hb fun R H v w _ rv rw => ⟨.bl _, rfl, fun Q q => ⟨i, j, rv, rw, q⟩⟩
theorem ev_le (ha : Ev c Γ ta (.im i)) (hb : Ev c Γ tb (.im j)) : Ev c Γ (tOp gLe ta tb) (.im (decide (i ≤ j))) := ev_opv ha hb fun R H v w _ rv rw => ⟨.bl _, rfl, fun Q q => ⟨i, j, rv, rw, q⟩⟩
theorem ev_gt (ha : Ev c Γ ta (.im i)) (hb : Ev c Γ tb (.im j)) : Ev c Γ (tOp gGt ta tb) (.im (decide (j < i))) := ev_opv ha hb fun R H v w _ rv rw => ⟨.bl _, rfl, fun Q q => ⟨i, j, rv, rw, q⟩⟩
theorem ev_ge (ha : Ev c Γ ta (.im i)) (hb : Ev c Γ tb (.im j)) : Ev c Γ (tOp gGe ta tb) (.im (decide (j ≤ i))) := ev_opv ha hb fun R H v w _ rv rw => ⟨.bl _, rfl, fun Q q => ⟨i, j, rv, rw, q⟩⟩
theorem int_eq_iff {i j : Int} : decide (V.int i = V.int j) = decide (i = j) := by
  by_cases h : i = j
  · subst h; simp
  · have : ¬ V.int i = V.int j := fun z => h (V.int.inj z)
    simp [h, this]
theorem ev_eqI (ha : Ev c Γ ta (.im i)) (hb : Ev c Γ tb (.im j)) : Ev c Γ (tOp (gEq c.Z.K) ta tb) (.im (decide (i = j))) := ev_opv ha hb fun R H v w _ rv rw => ⟨.bl _, rfl, fun Q q => by
  have rv' : v = .int i := rv
  have rw' : w = .int j := rw
  subst rv' rw'
  exact .inl ⟨rfl, by rw [int_eq_iff]; exact q⟩⟩
theorem ev_neI (ha : Ev c Γ ta (.im i)) (hb : Ev c Γ tb (.im j)) : Ev c Γ (tOp (gNe c.Z.K) ta tb) (.im (!decide (i = j))) := ev_opv ha hb fun R H v w _ rv rw => ⟨.bl _, rfl, fun Q q => by
  have rv' : v = .int i := rv
  have rw' : w = .int j := rw
  subst rv' rw'
  exact .inl ⟨rfl, by rw [int_eq_iff]; exact q⟩⟩
theorem ev_neg (ha : Ev c Γ ta (.im i)) : Ev c Γ (tUn uNeg ta) (.im (-i)) := fun B R0 R H ρ Δ σ S Q q xk => ha B R0 R H ρ Δ σ S _ (fun v R1 H1 S1 => by
  have rv : v = .int i := sx_top' S1
  exact ⟨i, rv, q _ R1 H1 (sx_push (sx_pop S1) rfl)⟩) xk
end
/-! lists -/
theorem ev_ix {xs : List α} {i : Int} (ha : Ev c Γ ta (.im xs)) (hb : Ev c Γ tb (.im i)) (h0 : 0 ≤ i) (h1 : i < xs.length) : Ev c Γ (tOp (gIx c.Z.K) ta tb) (.im (gt xs i)) := ev_opv ha hb fun R H v w sm rv rw => by
  obtain ⟨a, vs, rfl, ha, hp⟩ := rv
  obtain ⟨k, hk, rk⟩ := paired_get hp (gt_some h0 h1)
  exact ⟨k, rk, fun Q q => .inl ⟨a, vs, i, k, rfl, rw, SqL.of (sm _ _ ha), atI_of h0 (by rw [Paired.length hp]; exact h1) hk, q⟩⟩
theorem ev_ix2 {p : α × β} (ha : Ev c Γ ta (.im p)) (hb : Ev c Γ tb (.im (1 : Int))) : Ev c Γ (tOp (gIx c.Z.K) ta tb) (.im p.2) := ev_opv ha hb fun R H v w sm rv rw => by
  obtain ⟨a, x, y, rfl, ha, hx, hy⟩ := rv
  exact ⟨y, hy, fun Q q => .inr (.inl ⟨a, [x, y], 1, y, rfl, rw, SqT.of (sm _ _ ha), rfl, q⟩)⟩
/-- an own list's item -/
theorem ev_ixO {xs : List α} {k : Nat} {i : Int} (e : Γ[k]? = some (.ol xs)) (hb : Ev c Γ tb (.im i)) (h0 : 0 ≤ i) (h1 : i < xs.length) : Ev c Γ (tOp (gIx c.Z.K) (tVar k) tb) (.im (gt xs i)) := fun B R0 R H ρ Δ σ S Q q xk => by
  obtain ⟨p, vs, h2, _⟩ := sx_mutl S e
  refine ⟨.ref p, h2, hb B R0 R H ρ Δ σ S _ (fun w R1 H1 S1 => ?_) xk⟩
  have rw' : w = .int i := sx_top' S1
  obtain ⟨p', vs', h2', h3, h4, _⟩ := sx_mutl (sx_pop S1) e
  have ep : p = p' := by
    rw [h2] at h2'
    cases h2'
    rfl
  subst ep
  obtain ⟨v, hv, rv⟩ := paired_get h4 (gt_some h0 h1)
  exact .inl ⟨p, vs', i, v, rfl, rw', SqL.of h3, atI_of h0 (by rw [Paired.length h4]; exact h1) hv, q v R1 H1 (sx_push (sx_pop S1) rv)⟩
theorem ev_ixS {l : Scr} {i : Int} (ha : Ev c Γ ta (.im l)) (hb : Ev c Γ tb (.im i)) (h0 : 0 ≤ i) (h1 : i < l.l.length) : Ev c Γ (tOp (gIx c.Z.K) ta tb) (.im (gt l.l i)) := ev_opv ha hb fun R H v w sm rv rw => by
  obtain ⟨a, rfl, ha⟩ := rv
  refine ⟨.int (gt l.l i), rfl, fun Q q => .inl ⟨a, _, i, _, rfl, rw, sm.seq ha, atI_of h0 (by simpa using h1) ?_, q⟩⟩
  rw [List.getElem?_map, gt_some h0 h1]
  rfl
/-! tests -/
theorem et_test {b : Bool} (h : Ev c Γ te (.im b)) : EvT c Γ (tTest te) b := fun B R0 R H ρ Δ σ S Q q xk => h B R0 R H ρ Δ σ S _ (fun v R1 H1 S1 => ⟨b, sx_top' S1, q R1 H1 (sx_pop S1)⟩) xk
theorem et_B {b : Bool} (h : Ev c Γ te (.im b)) : EvT c Γ (tB te) b := fun B R0 R H ρ Δ σ S Q q xk => h B R0 R H ρ Δ σ S _ (fun v R1 H1 S1 => ⟨b, sx_top' S1, q R1 H1 (sx_pop S1)⟩) xk
theorem et_and {a b : Bool} (h1 : EvT c Γ t a) (h2 : a = true → EvT c Γ u b) : EvT c Γ (tAnd t u) (a && b) := fun B R0 R H ρ Δ σ S Q q xk => h1 B R0 R H ρ Δ σ S _ (fun R1 H1 S1 => by
  cases a with
  | true => exact h2 rfl B R0 R1 H1 ρ Δ σ S1 Q q xk
  | false => exact q R1 H1 S1) xk
theorem et_or {a b : Bool} (h1 : EvT c Γ t a) (h2 : a = false → EvT c Γ u b) : EvT c Γ (tOr t u) (a || b) := fun B R0 R H ρ Δ σ S Q q xk => h1 B R0 R H ρ Δ σ S _ (fun R1 H1 S1 => by
  cases a with
  | true => exact q R1 H1 S1
  | false => exact h2 rfl B R0 R1 H1 ρ Δ σ S1 Q q xk) xk
theorem et_not {a : Bool} (h1 : EvT c Γ t a) : EvT c Γ (tNot t) (!a) := fun B R0 R H ρ Δ σ S Q q xk => h1 B R0 R H ρ Δ σ S _ (fun R1 H1 S1 => q R1 H1 S1) xk
theorem et_yes : EvT c Γ tYes true := fun B R0 R H ρ Δ σ S Q q _ => q R H S
theorem ev_andV {a b : Bool} (h1 : Ev c Γ ta (.im a)) (h2 : a = true → Ev c Γ tb (.im b)) : Ev c Γ (tAndV ta tb) (.im (a && b)) := fun B R0 R H ρ Δ σ S Q q xk => h1 B R0 R H ρ Δ σ S _ (fun v R1 H1 S1 => ⟨a, sx_top' S1, by
  cases a with
  | true => exact h2 rfl B R0 R1 H1 ρ Δ σ (sx_pop S1) Q q xk
  | false => exact q _ R1 H1 (sx_push (sx_pop S1) rfl)⟩) xk
theorem ev_orV {a b : Bool} (h1 : Ev c Γ ta (.im a)) (h2 : a = false → Ev c Γ tb (.im b)) : Ev c Γ (tOrV ta tb) (.im (a || b)) := fun B R0 R H ρ Δ σ S Q q xk => h1 B R0 R H ρ Δ σ S _ (fun v R1 H1 S1 => ⟨a, sx_top' S1, by
  cases a with
  | true => exact q _ R1 H1 (sx_push (sx_pop S1) rfl)
  | false => exact h2 rfl B R0 R1 H1 ρ Δ σ (sx_pop S1) Q q xk⟩) xk
theorem ev_notV {a : Bool} (h1 : Ev c Γ ta (.im a)) : Ev c Γ (tNotV ta) (.im (!a)) := fun B R0 R H ρ Δ σ S Q q xk => h1 B R0 R H ρ Δ σ S _ (fun v R1 H1 S1 => ⟨a, sx_top' S1, q _ R1 H1 (sx_push (sx_pop S1) rfl)⟩) xk
/-! arguments, displays, calls -/
theorem slims_mono {Z : Zz} {R R' : Hp} (e : Same R R') {vs : List V} {ss : List Sl} (h : Slims Z R vs ss) : Slims Z R' vs ss := by
  induction h with
  | nil => exact .nil
  | cons r t ih => exact .cons (Rp.mono e r) ih
theorem ea_nil : EvA c Γ tNil [] := fun B R0 R H ρ Δ σ S Q q _ => q [] R H S .nil
theorem ea_cons {d : α} {tr : TA} {ss : List Sl} (h : Ev c Γ te (.im d)) (hr : EvA c Γ tr ss) : EvA c Γ (tCons te tr) (.im d :: ss) := fun B R0 R H ρ Δ σ S Q q xk => h B R0 R H ρ Δ σ S _ (fun v R1 H1 S1 =>
  hr B R0 R1 H1 _ _ σ S1 _ (fun vs R2 H2 S2 sl => q (v :: vs) R2 H2 (sx_pop S2) (.cons (sx_top' S2) sl)) xk.push1) xk
theorem slims_append {Z : Zz} {R : Hp} {vs ws : List V} {ss rs : List Sl} (h : Slims Z R vs ss) (h' : Slims Z R ws rs) : Slims Z R (vs ++ ws) (ss ++ rs) := by
  induction h with
  | nil => exact h'
  | cons r t ih => exact .cons r ih
theorem slims_list {Z : Zz} {R : Hp} : ∀ {xs : List α} {vs : List V}, Slims Z R vs (xs.map fun x => .im x) → Paired (Rp.rp Z R) vs xs
  | [], _, h => by cases h; exact .nil
  | x :: xs, _, h => by
    cases h with
    | cons r t => exact Paired.cons r (slims_list t)
/-- a written list, of like items -/
theorem ev_lst {t : TA} (xs : List α) (h : EvA c Γ t (xs.map fun x => .im x)) (hl : xs.length ≤ 1000) : Ev c Γ (tLst t) (.ol xs) := fun B R0 R H ρ Δ σ S Q q xk => h B R0 R H ρ Δ σ S _ (fun vs R1 H1 S1 sl => by
  have hp := slims_list sl
  refine ⟨Nat.le_of_lt (small1000 (by rw [Paired.length hp]; exact hl)), fun p np => q _ R1 _ (sx_newl S1 np hp)⟩) xk
theorem ev_nil {δ : Type} [Rp δ] : Ev c Γ (tLst tNil) (.ol ([] : List δ)) := ev_lst [] ea_nil (by simp)
theorem ev_tup {x : α} {y : β} (hx : Ev c Γ ta (.im x)) (hy : Ev c Γ tb (.im y)) : Ev c Γ (tTup (tCons ta (tCons tb tNil))) (.im (x, y)) := fun B R0 R H ρ Δ σ S Q q xk => (ea_cons hx (ea_cons hy ea_nil)) B R0 R H ρ Δ σ S _ (fun vs R1 H1 S1 sl => by
  cases sl with
  | cons r1 t1 =>
    cases t1 with
    | cons r2 t2 =>
      cases t2
      rename_i v1 v2
      refine ⟨by show 2 ≤ sizeLine; decide, fun p np => ?_⟩
      obtain ⟨S2, sr⟩ := sx_froz S1 np (.tup [v1, v2])
      exact q _ _ _ (sx_push S2 ⟨p, v1, v2, rfl, upd_same, Rp.mono sr r1, Rp.mono sr r2⟩)) xk
/-- a built-in of one argument, its answer a datum -/
theorem ev_cb1 {r : List V → Hp → VK → Prop} {x : α} {z : γ} (ha : Ev c Γ ta (.im x)) (hr : ∀ R H v, Same R H → Rp.rp c.Z R v x → ∃ k, Rp.rp c.Z R k z ∧ ∀ Q : VK, Q k H → r [v] H Q) : Ev c Γ (tCB r (tCons ta tNil)) (.im z) :=
  fun B R0 R H ρ Δ σ S Q q xk => ha B R0 R H ρ Δ σ S _ (fun v R1 H1 S1 => by
    obtain ⟨k, h1, h2⟩ := hr R1 H1 v (sx_same S1) (sx_top' S1)
    exact h2 Q (q k R1 H1 (sx_push (sx_pop S1) h1))) xk
theorem ev_cb2 {r : List V → Hp → VK → Prop} {x : α} {y : β} {z : γ} (ha : Ev c Γ ta (.im x)) (hb : Ev c Γ tb (.im y)) (hr : ∀ R H v w, Same R H → Rp.rp c.Z R v x → Rp.rp c.Z R w y → ∃ k, Rp.rp c.Z R k z ∧ ∀ Q : VK, Q k H → r [v, w] H Q) : Ev c Γ (tCB r (tCons ta (tCons tb tNil))) (.im z) :=
  fun B R0 R H ρ Δ σ S Q q xk => ha B R0 R H ρ Δ σ S _ (fun v R1 H1 S1 => hb B R0 R1 H1 _ _ σ S1 _ (fun w R2 H2 S2 => by
    obtain ⟨k, h1, h2⟩ := hr R2 H2 v w (sx_same S2) (sx_top' (sx_pop S2)) (sx_top' S2)
    exact h2 Q (q k R2 H2 (sx_push (sx_pop (sx_pop S2)) h1))) xk.push1) xk
/-- .. its answer a new list -/
theorem ev_cbL {r : List V → Hp → VK → Prop} {x : α} {zs : List γ} (ha : Ev c Γ ta (.im x)) (hr : ∀ R H v, Same R H → Rp.rp c.Z R v x → ∀ Q : VK, (∀ ks p, Paired (Rp.rp c.Z R) ks zs → H p = none → Q (.ref p) (upd H p (.lst ks))) → r [v] H Q) : Ev c Γ (tCB r (tCons ta tNil)) (.ol zs) :=
  fun B R0 R H ρ Δ σ S Q q xk => ha B R0 R H ρ Δ σ S _ (fun v R1 H1 S1 => hr R1 H1 v (sx_same S1) (sx_top' S1) Q fun ks p hp np => q _ R1 _ (sx_newl (sx_pop S1) np hp)) xk
def gLen (K : PySem.W.Frag) : List V → Hp → VK → Prop := fun xs H Q => ∃ x n, xs = [x] ∧ LenV K x H n ∧ Q (.int n) H
def gList (K : PySem.W.Frag) : List V → Hp → VK → Prop := fun xs H Q => ∃ p ys, xs = [.ref p] ∧ (SqL K H p ys ∨ SqT K H p ys) ∧ ∀ l, H l = none → Q (.ref l) (upd H l (.lst ys))
theorem gc_len {X : Cx} : CallR X (.builtin "len") (gLen X.K) := call_len
theorem gc_list {X : Cx} : CallR X (.type "list") (gList X.K) := call_list_of
theorem ev_len {xs : List α} (ha : Ev c Γ ta (.im xs)) : Ev c Γ (tCB (gLen c.Z.K) (tCons ta tNil)) (.im (xs.length : Int)) := ev_cb1 ha fun R H v sm rv => by
  obtain ⟨a, vs, rfl, ha, hp⟩ := rv
  exact ⟨_, rfl, fun Q q => ⟨_, vs.length, rfl, .inl ⟨vs, SqL.of (sm _ _ ha), rfl⟩, by rw [Paired.length hp]; exact q⟩⟩
theorem ev_lenS {l : Scr} (ha : Ev c Γ ta (.im l)) : Ev c Γ (tCB (gLen c.Z.K) (tCons ta tNil)) (.im (l.l.length : Int)) := ev_cb1 ha fun R H v sm rv => by
  obtain ⟨a, rfl, ha⟩ := rv
  exact ⟨_, rfl, fun Q q => ⟨_, l.l.length, rfl, .inl ⟨_, sm.seq ha, by rw [List.length_map]⟩, q⟩⟩
theorem ev_lenO {xs : List α} {k : Nat} (e : Γ[k]? = some (.ol xs)) : Ev c Γ (tCB (gLen c.Z.K) (tCons (tVar k) tNil)) (.im (xs.length : Int)) := fun B R0 R H ρ Δ σ S Q q xk => by
  obtain ⟨p, vs, h2, h3, h4, _⟩ := sx_mutl S e
  exact ⟨.ref p, h2, _, vs.length, rfl, .inl ⟨vs, SqL.of h3, rfl⟩, q _ R H (sx_push S (by rw [Paired.length h4]; rfl))⟩
theorem ev_list {xs : List α} (ha : Ev c Γ ta (.im xs)) : Ev c Γ (tCB (gList c.Z.K) (tCons ta tNil)) (.ol xs) := ev_cbL ha fun R H v sm rv Q q => by
  obtain ⟨a, vs, rfl, ha, hp⟩ := rv
  exact ⟨a, vs, rfl, .inl (SqL.of (sm _ _ ha)), fun l hl => q vs l hp hl⟩
theorem ev_listO {xs : List α} {k : Nat} (e : Γ[k]? = some (.ol xs)) : Ev c Γ (tCB (gList c.Z.K) (tCons (tVar k) tNil)) (.ol xs) := fun B R0 R H ρ Δ σ S Q q xk => by
  obtain ⟨p, vs, h2, h3, h4, _⟩ := sx_mutl S e
  exact ⟨.ref p, h2, p, vs, rfl, .inl (SqL.of h3), fun l hl => q _ R _ (sx_newl S hl h4)⟩
theorem ev_all {bs : List Bool} {K : PySem.W.Frag} (hK : K = c.Z.K) (ha : Ev c Γ ta (.im bs)) : Ev c Γ (tCB (rAll K) (tCons ta tNil)) (.im (bs.all id)) := hK ▸ ev_cb1 ha fun R H v sm rv => by
  obtain ⟨a, vs, rfl, ha, hp⟩ := rv
  exact ⟨_, rfl, fun Q q => ⟨a, bs, rfl, SqL.of (paired_map_bl hp ▸ sm _ _ ha), q⟩⟩
theorem ev_any {bs : List Bool} {K : PySem.W.Frag} (hK : K = c.Z.K) (ha : Ev c Γ ta (.im bs)) : Ev c Γ (tCB (rAny K) (tCons ta tNil)) (.im (bs.any id)) := hK ▸ ev_cb1 ha fun R H v sm rv => by
  obtain ⟨a, vs, rfl, ha, hp⟩ := rv
  exact ⟨_, rfl, fun Q q => ⟨a, bs, rfl, SqL.of (paired_map_bl hp ▸ sm _ _ ha), q⟩⟩
/-! own defs: T tells, of arguments, what may come of them -/
abbrev Tm := List Sl → (Sl → Prop) → (Rf → Prop) → Prop
def spOf (Z : Zz) (T : Tm) : Sp := fun vs H Q E => ∃ R ss ok er, Same R H ∧ Slims Z R vs ss ∧ T ss ok er ∧
  (∀ v R' H' s, Sx Z H R R' H' [some v] [s] [] [] → ok s → Q v H') ∧ ∀ r cls d H', Same H H' → RepEx Z H H' r cls d → er r → E cls d H'
theorem sx_call {Z : Zz} {B R0 R R' H H' : Hp} {ρ : List (Option V)} {Δ : List Sl} {σ : List (Option V)} {v : V} {s : Sl} (S : Sx Z B R0 R H ρ Δ σ Γ) (S2 : Sx Z H R R' H' [some v] [s] [] []) : Sx Z B R0 R' H' (some v :: ρ) (s :: Δ) σ Γ := by
  obtain ⟨hl, own, hs, es⟩ := S
  obtain ⟨_, own2, hs2, f, g, rfl, h1, h2⟩ := S2
  have hg : g = [] := h2
  subst hg
  rw [List.append_nil] at hs2
  have key : ∀ p ∈ own, R' p = none ∧ H' p = H p ∧ p ∉ f := fun p hp => by
    have h3 := es_some es p hp
    have h4 := hs.ow p hp
    obtain ⟨o, ho⟩ : ∃ o, H p = some o := by
      cases e : H p with
      | none => exact absurd e h3
      | some o => exact ⟨o, rfl⟩
    refine ⟨?_, ?_, fun hf => ?_⟩
    · cases e : R' p with
      | none => rfl
      | some o2 =>
        rcases hs2.nw p o2 e with q | q
        · rw [h4.1] at q; cases q
        · exact absurd q h3
    · rw [ho, hs2.bh p o ho]
    · exact h3 (hs2.ow p hf).2
  refine ⟨by simp [hl], f ++ own, ⟨hs2.rh, hs.bh.trans hs2.bh, hs.r0.trans hs2.r0, fun b o e => ?_, fun p hp => ?_, ?_⟩, f, own, rfl, h1, es_mono hs2.r0 (fun p hp => (key p hp).2.1) es⟩
  · rcases hs2.nw b o e with q | q
    · exact hs.nw b o q
    · exact .inr (hs.bh.free q)
  · rcases List.mem_append.mp hp with q | q
    · exact ⟨(hs2.ow p q).1, hs.bh.free (hs2.ow p q).2⟩
    · exact ⟨(key p q).1, (hs.ow p q).2⟩
  · rw [List.nodup_append]
    exact ⟨hs2.nd, hs.nd, fun a ha b hb e => (key b hb).2.2 (e ▸ ha)⟩
theorem sx_same_call {Z : Zz} {B R0 R H H' : Hp} {ρ : List (Option V)} {Δ : List Sl} {σ : List (Option V)} (S : Sx Z B R0 R H ρ Δ σ Γ) (e : Same H H') : Sx Z B R0 R H' ρ Δ σ Γ := by
  obtain ⟨hl, own, hs, es⟩ := S
  refine ⟨hl, own, ⟨hs.rh.trans e, hs.bh.trans e, hs.r0, hs.nw, hs.ow, hs.nd⟩, es_mono (Same.refl _) (fun p hp => ?_) es⟩
  cases q : H p with
  | none => exact absurd q (es_some es p hp)
  | some o => exact e p o q
/-- a call's refusal, its dict frozen -/
theorem sx_callX {Z : Zz} {B R0 R H H' : Hp} {ρ : List (Option V)} {Δ : List Sl} {σ : List (Option V)} {r : Rf} {cls : Value} {d : Option Addr} (S : Sx Z B R0 R H ρ Δ σ Γ) (e : Same H H') (rx : RepEx Z H H' r cls d) : ∃ R', Same R R' ∧ Sx Z B R0 R' H' ρ Δ σ Γ ∧ RepEx Z B R' r cls d := by
  obtain ⟨h1, h2 | ⟨h2, dx, h3, h4, h5⟩⟩ := rx
  · exact ⟨R, Same.refl _, sx_same_call S e, h1, .inl h2⟩
  · have hr := (sx_same S).free h4
    refine ⟨upd R dx (.xd r.fs), same_upd hr, sx_pop (sx_call S (s := .un) (v := .non) ⟨rfl, [], ⟨fun b o q => ?_, e, same_upd hr, fun b o q => ?_, fun p hp => by simp at hp, List.nodup_nil⟩, [], [], rfl, rfl, rfl⟩), h1, .inr ⟨h2, dx, h3, (sx_base S).free h4, upd_same⟩⟩
    · by_cases c : b = dx
      · subst c
        rw [upd_same] at q
        rw [h5]
        exact q
      · rw [upd_ne c] at q
        exact e _ _ (sx_same S _ _ q)
    · by_cases c : b = dx
      · subst c
        exact .inr h4
      · rw [upd_ne c] at q
        exact .inl q
theorem ev_call {T : Tm} {dvs : List V} {ds : List Sl} {t : TA} {ss : List Sl} (ha : EvA c Γ t ss) (hd : ∀ R, Slims c.Z R dvs ds) (hT : T (ss ++ ds) (fun s' => s' = s) fun r => c.ex r Γ) : Ev c Γ (tCallSD (spOf c.Z T) dvs (WE c.X) t) s := fun B R0 R H ρ Δ σ S Q q xk => ha B R0 R H ρ Δ σ S _ (fun vs R1 H1 S1 sl => by
  refine ⟨R1, ss ++ ds, _, _, sx_same S1, slims_append sl (hd R1), hT, fun v R' H' s' S' e => ?_, fun r cls d H' e rx er => ?_⟩
  · subst e
    exact q v R' H' (sx_call S1 S')
  · obtain ⟨R2, _, S2, rx2⟩ := sx_callX S1 e rx
    exact xk R2 H' σ Γ r cls d S2 rx2 er) xk
/-- a call that raises nothing, within a comprehension -/
theorem ev_call0 {T : Tm} {dvs : List V} {ds : List Sl} {t : TA} {ss : List Sl} (ha : EvA c Γ t ss) (hd : ∀ R, Slims c.Z R dvs ds) (hT : T (ss ++ ds) (fun s' => s' = s) fun _ => False) : Ev c Γ (tCall (spOf c.Z T) dvs E0 t) s := fun B R0 R H ρ Δ σ S Q q xk => ha B R0 R H ρ Δ σ S _ (fun vs R1 H1 S1 sl => by
  refine ⟨R1, ss ++ ds, _, _, sx_same S1, slims_append sl (hd R1), hT, fun v R' H' s' S' e => ?_, fun r cls d H' e rx er => er.elim⟩
  · subst e
    exact q v R' H' (sx_call S1 S')) xk
/-- what a def's body must show -/
theorem spOf_run {Z : Zz} {T : Tm} {N : List Str} {t : XK → TS} (hN : ∀ ss ok er, T ss ok er → ss.length ≤ N.length)
    (h : ∀ E ss ok er, T ss ok er → W ⟨Z, fun cls d _ H => E cls d H, fun r _ => er r⟩ (ss ++ List.replicate (N.length - ss.length) .un) (t E) ⟨fun _ => ok (.im ()), ok, fun _ => False, fun _ => False⟩)
    (vs : List V) (H : Hp) (Q : VK) (E : XK) (hs : spOf Z T vs H Q E) : t E { nx := fun _ H' => Q .non H', rt := Q } (L2.start N vs) H := by
  obtain ⟨R, ss, ok, er, sm, sl, hT, kq, ke⟩ := hs
  have es0 : ∀ (n : Nat), Es Z R H (List.replicate n none) (List.replicate n .un) [] := fun n => by
    induction n with
    | zero => exact rfl
    | succ n ih => exact ⟨[], [], rfl, rfl, ih⟩
  have hlen : vs.length = ss.length := by
    clear hT kq
    induction sl with
    | nil => rfl
    | cons r t ih => simp [ih]
  have es : Es Z R H (L2.start N vs) (ss ++ List.replicate (N.length - ss.length) .un) [] := by
    unfold L2.start
    rw [hlen]
    generalize N.length - ss.length = n
    clear hT kq hlen
    induction sl with
    | nil => exact es0 n
    | cons r t ih => exact ⟨[], [], rfl, ⟨rfl, _, rfl, r⟩, ih⟩
  refine h E ss ok er hT H R R H [] [] (L2.start N vs) _ ⟨rfl, [], ⟨sm, Same.refl _, Same.refl _, fun b o e => .inl e, fun p hp => by simp at hp, List.nodup_nil⟩, es⟩ (fun R' H' σ' Γ' S' ok' => ?_) (fun R' H' v s S' ok' => kq v R' H' s S' ok') (fun _ _ _ _ _ z => z.elim) (fun _ _ _ _ _ z => z.elim) (fun R' H' σ' Γ' r cls d S' rx er' => ?_)
  · exact kq .non R' H' (.im ()) (sx_push (sx_leave S') rfl) ok'
  · exact ke r cls d H' (sx_base S') (rx.mono (sx_same S')) er'
end TB

/-! TbS: the rules of statements, walks and comprehensions. -/
namespace TB
open PySem L2
variable {c : Cn} {Γ : List Sl} {ta tb te tl : TE} {tt tc : TT} {t u : TS} {s : Sl} {α β γ : Type} {_ : Rp α} {_ : Rp β} {_ : Rp γ} {P P' : Po}

theorem W.imp (h : W c Γ t P) (h1 : ∀ G, P.nx G → P'.nx G) (h2 : ∀ s, P.rt s → P'.rt s) (h3 : ∀ G, P.bk G → P'.bk G) (h4 : ∀ G, P.ct G → P'.ct G) : W c Γ t P' := fun B R0 R H ρ Δ σ D S n r b k x =>
  h B R0 R H ρ Δ σ D S (fun R' H' σ' Γ' S' q => n R' H' σ' Γ' S' (h1 _ q)) (fun R' H' v s S' q => r R' H' v s S' (h2 _ q)) (fun R' H' σ' Γ' S' q => b R' H' σ' Γ' S' (h3 _ q)) (fun R' H' σ' Γ' S' q => k R' H' σ' Γ' S' (h4 _ q)) x
theorem w_seq (h : W c Γ t ⟨fun G => W c G u P, P.rt, P.bk, P.ct⟩) : W c Γ (tSeq t u) P := fun B R0 R H ρ Δ σ D S n r b k x =>
  h B R0 R H ρ Δ σ { D with nx := u D } S (fun R' H' σ' Γ' S' q => q B R0 R' H' ρ Δ σ' D S' n r b k x) r b k x
theorem w_asg {i : Nat} (h : Ev c Γ te s) (k : P.nx (Γ.set i s)) : W c Γ (tAsg te (gName i)) P := fun B R0 R H ρ Δ σ D S n r b kk x =>
  h B R0 R H ρ Δ σ S _ (fun v R1 H1 S1 => n R1 H1 _ _ (sx_asg S1 i) k) x
theorem w_if {b : Bool} (h : EvT c Γ tc b) (h1 : b = true → W c Γ t P) (h2 : b = false → W c Γ u P) : W c Γ (tIfS tc t u) P := fun B R0 R H ρ Δ σ D S n r bk kk x =>
  h B R0 R H ρ Δ σ S _ (fun R1 H1 S1 => by
    cases b with
    | true => exact h1 rfl B R0 R1 H1 ρ Δ σ D S1 n r bk kk x
    | false => exact h2 rfl B R0 R1 H1 ρ Δ σ D S1 n r bk kk x) x
theorem w_ret (h : Ev c Γ te s) (k : P.rt s) : W c Γ (tRet te) P := fun B R0 R H ρ Δ σ D S n r b kk x =>
  h B R0 R H ρ Δ σ S _ (fun v R1 H1 S1 => r R1 H1 v s (sx_leave S1) k) x
theorem w_next (k : P.nx Γ) : W c Γ tNext P := fun B R0 R H ρ Δ σ D S n r b kk x => n R H σ Γ S k
/-- slot i, an own list, is frozen from here on; a slot is forgotten -/
theorem w_fr {xs : List α} (i : Nat) (e : Γ[i]? = some (.ol xs)) (h : W c (Γ.set i (.im xs)) t P) : W c Γ t P := fun B R0 R H ρ Δ σ D S n r b kk x => by
  obtain ⟨R', _, S'⟩ := sx_frl S e
  exact h B R0 R' H ρ Δ σ D S' n r b kk x
/-! own lists -/
theorem tyL {K : PySem.W.Frag} {H : Hp} {p : Addr} {vs : List V} (h : H p = some (.lst vs)) : tyV K "list" (.ref p) H := .inl ⟨rfl, vs, SqL.of h⟩
theorem ixN_of {n : Nat} {i : Int} (h0 : 0 ≤ i) (h1 : i < n) : ixN n i = some i.toNat := by
  unfold ixN
  rw [if_pos h0, if_pos h1]
/-- xs[i] op= y -/
theorem w_augs {k : Nat} {xs : List Int} {y : Int} {i : Int} {f : Int → Int → Int} {K : PySem.W.Frag} {tget : V → V → Hp → VK → Prop} (hg : ∀ x y H Q, rIxL c.Z.K x y H Q → tget x y H Q) (e : Γ[k]? = some (.ol xs)) (hi : Ev c Γ tb (.im i)) (h : Ev c Γ te (.im y)) (h0 : 0 ≤ i) (h1 : i < xs.length)
    (kk : P.nx (Γ.set k (.ol (xs.set i.toNat (f (gt xs i) y))))) : W c Γ (tAugS (tVar k) tb te tget (ipI f) rSetL) P := fun B R0 R H ρ Δ σ D S n r bb kk' x => by
  obtain ⟨p, vs, h2, _⟩ := sx_mutl S e
  refine ⟨.ref p, h2, hi B R0 R H ρ Δ σ S _ (fun z R1 H1 S1 => ?_) x⟩
  have ez : z = .int i := sx_top' S1
  obtain ⟨p', vs', h2', h3', h4', _⟩ := sx_mutl (sx_pop S1) e
  have ep : p = p' := by
    rw [h2] at h2'
    cases h2'
    rfl
  subst ep
  obtain ⟨v, hv, rv⟩ := paired_get h4' (gt_some h0 h1)
  have rv' : v = .int (gt xs i) := rv
  refine hg _ _ _ _ ⟨p, vs', i, v, rfl, ez, SqL.of h3', atI_of h0 (by rw [Paired.length h4']; exact h1) hv, h B R0 R1 H1 _ _ σ S1 _ (fun w R2 H2 S2 => ?_) x.push1⟩
  have ew : w = .int y := sx_top' S2
  refine ⟨gt xs i, y, rv', ew, ?_⟩
  obtain ⟨p2, vs2, g2, g3, g4, g5⟩ := sx_mutl (sx_pop (sx_pop S2)) e
  have ep : p = p2 := by
    rw [h2] at g2
    cases g2
    rfl
  subst ep
  exact ⟨p, vs2, i, i.toNat, rfl, ez, g3, ixN_of h0 (by rw [Paired.length g4]; exact h1), n R2 _ _ _ (g5 _ _ (paired_set (show Rp.rp c.Z R2 (V.int (f (gt xs i) y)) (f (gt xs i) y) from rfl) _ g4)) kk⟩
/-! walks -/
theorem wipe_set {σ : St} {j : Nat} {v : Option V} {vs : List Nat} (h : j ∈ vs) : wipe (σ.set j v) vs = wipe σ vs := by
  have key : ∀ (vs : List Nat) (i : Nat), (wipe (σ.set j v) vs)[i]? = if i ∈ vs then (if i < σ.length then some none else none) else (σ.set j v)[i]? := by
    intro vs
    induction vs with
    | nil => intro i; simp [wipe]
    | cons a r ih =>
      intro i
      unfold wipe
      rw [List.getElem?_set, wipe_length, List.length_set, ih]
      by_cases h1 : a = i
      · subst h1; simp
      · have : i ≠ a := fun e => h1 e.symm
        simp [h1, this]
  have key2 : ∀ (vs : List Nat) (i : Nat), (wipe σ vs)[i]? = if i ∈ vs then (if i < σ.length then some none else none) else σ[i]? := by
    intro vs
    induction vs with
    | nil => intro i; simp [wipe]
    | cons a r ih =>
      intro i
      unfold wipe
      rw [List.getElem?_set, wipe_length, ih]
      by_cases h1 : a = i
      · subst h1; simp
      · have : i ≠ a := fun e => h1 e.symm
        simp [h1, this]
  apply List.ext_getElem?
  intro i
  rw [key, key2]
  by_cases hi : i ∈ vs
  · simp [hi]
  · have : j ≠ i := fun e => hi (e ▸ h)
    simp [hi, List.getElem?_set, this]
theorem wipeG_len (Γ : List Sl) : ∀ vs : List Nat, (wipeG Γ vs).length = Γ.length
  | [] => rfl
  | v :: vs => by unfold wipeG; rw [List.length_set, wipeG_len Γ vs]
theorem wipeG_get (Γ : List Sl) : ∀ (vs : List Nat) (i : Nat), (wipeG Γ vs)[i]? = if i ∈ vs then (if i < Γ.length then some .un else none) else Γ[i]? := by
  intro vs
  induction vs with
  | nil => intro i; simp [wipeG]
  | cons a r ih =>
    intro i
    unfold wipeG
    rw [List.getElem?_set, wipeG_len, ih]
    by_cases h1 : a = i
    · subst h1; simp
    · have : i ≠ a := fun e => h1 e.symm
      simp [h1, this]
theorem wipeG_set {Γ : List Sl} {j : Nat} {v : Sl} {vs : List Nat} (h : j ∈ vs) : wipeG (Γ.set j v) vs = wipeG Γ vs := by
  apply List.ext_getElem?
  intro i
  rw [wipeG_get, wipeG_get, List.length_set]
  by_cases hi : i ∈ vs
  · simp [hi]
  · have : j ≠ i := fun e => hi (e ▸ h)
    simp [hi, List.getElem?_set, this]
theorem unAt_mem {Γ : List Sl} : ∀ {vs : List Nat}, UnAt Γ vs → ∀ v ∈ vs, Γ[v]? = some .un ∨ Γ.length ≤ v
  | [], _, v, hv => by simp at hv
  | a :: r, h, v, hv => by
    rcases List.mem_cons.mp hv with e | e
    · rw [e]; exact h.1
    · exact unAt_mem h.2 v e
theorem wipeG_un {Γ : List Sl} {vs : List Nat} (h : UnAt Γ vs) : wipeG Γ vs = Γ := by
  apply List.ext_getElem?
  intro i
  rw [wipeG_get]
  by_cases hi : i ∈ vs
  · rw [if_pos hi]
    rcases unAt_mem h i hi with e | e
    · rw [e, if_pos (by obtain ⟨h, _⟩ := List.getElem?_eq_some_iff.mp e; exact h)]
    · rw [if_neg (by omega), List.getElem?_eq_none e]
  · rw [if_neg hi]
theorem wipe_wipe (σ : St) (vs : List Nat) : wipe (wipe σ vs) vs = wipe σ vs := by
  have key : ∀ (us : List Nat), (∀ u ∈ us, u ∈ vs) → wipe (wipe σ us) vs = wipe σ vs := by
    intro us
    induction us with
    | nil => intro _; rfl
    | cons a r ih =>
      intro h
      show wipe ((wipe σ r).set a none) vs = wipe σ vs
      rw [wipe_set (h a List.mem_cons_self)]
      exact ih fun u hu => h u (List.mem_cons_of_mem _ hu)
  exact key vs fun _ h => h
theorem sx_unwipe {Z : Zz} {B R0 R H : Hp} {ρ : List (Option V)} {Δ : List Sl} {σ : List (Option V)} : ∀ {vs : List Nat}, UnAt Γ vs → Sx Z B R0 R H ρ Δ (wipe σ vs) Γ → Sx Z B R0 R H ρ Δ σ Γ
  | [], _, S => S
  | v :: vs, h, S => by
    refine sx_unwipe h.2 ?_
    have S' : Sx Z B R0 R H ρ Δ ((wipe σ vs).set v none) Γ := S
    have e3 : Γ.set v .un = Γ := by
      apply List.ext_getElem?
      intro i
      rw [List.getElem?_set]
      by_cases hi : v = i
      · subst hi
        rcases h.1 with e | e
        · rw [if_pos rfl, e, if_pos (by obtain ⟨h, _⟩ := List.getElem?_eq_some_iff.mp e; exact h)]
        · rw [if_pos rfl, if_neg (by omega), List.getElem?_eq_none e]
      · rw [if_neg hi]
    by_cases hv : v < (wipe σ vs).length
    · have q := sx_forgets S' v (wipe σ vs)[v]
      rw [e3, List.set_set, List.set_getElem_self] at q
      exact q
    · rw [List.set_eq_of_length_le (by omega)] at S'
      exact S'
/-- over a list of data -/
theorem ei_list {xs : List α} {j : Nat} (h : Ev c Γ tl (.im xs)) : EvI c Γ (iList c.Z.K tl) (gName j) xs.length (fun i G => G.set j (.im (xs.getD i Rp.df))) [j] := fun B R0 R H ρ Δ σ S K k x =>
  h B R0 R H ρ Δ σ S _ (fun v R1 H1 S1 => by
    have rv := sx_top' S1
    obtain ⟨a, vs, rfl, ha, hp⟩ := id rv
    refine ⟨a, rfl, ⟨vs, SqL.of (sx_same S1 _ _ ha)⟩, k (Itl c.Z.K a) R1 H1 [some (.ref a)] [.im xs] rfl S1 ⟨fun i G vs3 hj => wipeG_set (hj j (by simp)), fun {R2 H2 ρx Δx σ2 Γ2 i} hx S2 hi => ?_, fun {R2 H2 ρx Δx σ2 Γ2} hx S2 => ?_, fun {R2 H2 ρx Δx σ2 Γ2 i y H'} hx S2 hi hy K' kk => ?_⟩⟩
    · obtain ⟨a2, vs2, e2, ha2, hp2⟩ := sx_top' (sx_drop hx S2)
      cases e2
      obtain ⟨w, hw, _⟩ := paired_get hp2 (b := xs[i]) (i := i) (by simp [hi])
      exact ⟨vs2, w, SqL.of (sx_same S2 _ _ ha2), hw⟩
    · obtain ⟨a2, vs2, e2, ha2, hp2⟩ := sx_top' (sx_drop hx S2)
      cases e2
      exact ⟨vs2, SqL.of (sx_same S2 _ _ ha2), by rw [Paired.length hp2]; exact Nat.le_refl _⟩
    · obtain ⟨a2, vs2, e2, ha2, hp2⟩ := sx_top' (sx_drop hx S2)
      cases e2
      obtain ⟨eH, hy⟩ := hy
      subst eH
      have hy' := hy vs2 (SqL.of (sx_same S2 _ _ ha2))
      obtain ⟨b, hb, rb⟩ := paired_getL hp2 hy'
      refine kk R2 _ H' (sx_asg (sx_push S2 (d := xs.getD i Rp.df) ?_) j) fun vs3 hj => wipe_set (hj j (by simp))
      have : xs.getD i Rp.df = b := by rw [List.getD_eq_getElem?_getD, hb]; rfl
      rw [this]
      exact rb) x
theorem ei_rng1 {j : Nat} {n : Int} (h : Ev c Γ te (.im n)) (hn : n < 2 ^ 60) (hn0 : -(2 ^ 60) < n) : EvI c Γ (iRng1 (tCons te tNil)) (gName j) n.toNat (fun i G => G.set j (.im (i : Int))) [j] := fun B R0 R H ρ Δ σ S K k x =>
  h B R0 R H ρ Δ σ S _ (fun v R1 H1 S1 => by
    have rv : v = .int n := sx_top' S1
    subst rv
    refine ⟨n, rfl, by omega, by omega, k (Itr 0 n.toNat) R1 H1 [] [] rfl (sx_pop S1) ⟨fun i G vs3 hj => wipeG_set (hj j (by simp)), fun _ _ hi => hi, fun _ _ => Nat.le_refl _, fun {R2 H2 ρx Δx σ2 Γ2 i y H'} hx S2 hi hy K' kk => ?_⟩⟩
    obtain ⟨rfl, rfl⟩ := hy
    exact kk R2 _ _ (sx_asg (sx_push S2 (show Rp.rp c.Z R2 (V.int (0 + (i : Int))) (i : Int) by rw [Int.zero_add]; rfl)) j) fun vs3 hj => wipe_set (hj j (by simp))) x
theorem ei_rng2 {j : Nat} {m n : Int} (h1 : Ev c Γ ta (.im m)) (h : Ev c Γ te (.im n)) (hm : -(2 ^ 60) < m ∧ m < 2 ^ 60) (hn : n < 2 ^ 60 ∧ -(2 ^ 60) < n) : EvI c Γ (iRng2 (tCons ta (tCons te tNil))) (gName j) (n - m).toNat (fun i G => G.set j (.im (m + (i : Int)))) [j] := fun B R0 R H ρ Δ σ S K k x =>
  h1 B R0 R H ρ Δ σ S _ (fun v0 R1 H1 S1 => h B R0 R1 H1 _ _ σ S1 _ (fun v R2 H2 S2 => by
    have rv0 : v0 = .int m := sx_top' (sx_pop S2)
    have rv : v = .int n := sx_top' S2
    subst rv rv0
    refine ⟨m, n, rfl, ⟨by omega, by omega, by omega, by omega⟩, k (Itr m (n - m).toNat) R2 H2 [] [] rfl (sx_pop (sx_pop S2)) ⟨fun i G vs3 hj => wipeG_set (hj j (by simp)), fun _ _ hi => hi, fun _ _ => Nat.le_refl _, fun {R2 H2 ρx Δx σ2 Γ2 i y H'} hx S2 hi hy K' kk => ?_⟩⟩
    obtain ⟨rfl, rfl⟩ := hy
    exact kk R2 _ _ (sx_asg (sx_push S2 (show Rp.rp c.Z R2 (V.int (m + (i : Int))) (m + (i : Int)) from rfl)) j) fun vs3 hj => wipe_set (hj j (by simp))) x.push1) x
theorem w_for {wi : TI} {g : TG} {n : Nat} {us : Nat → List Sl → List Sl} {js : List Nat} (I : Nat → List Sl → Prop) (hi : EvI c Γ wi g n us js) (h0 : I 0 Γ)
    (hs : ∀ i G, i < n → I i G → W c (us i G) t ⟨I (i + 1), P.rt, P.nx, I (i + 1)⟩) (hd : ∀ G, I n G → P.nx G) : W c Γ (tFor wi g t) P := fun B R0 R H ρ Δ σ D S nx r b kk x =>
  hi B R0 R H ρ Δ σ S _ (fun J R1 H1 ρ' Δ' hl S1 ok => by
    refine ⟨fun i m σ H => m = n - i ∧ i ≤ n ∧ ∃ R G, Sx c.Z B R0 R H (ρ' ++ ρ) (Δ' ++ Δ) σ G ∧ I i G, ⟨n, by simp, Nat.zero_le _, R1, Γ, S1, h0⟩, ?_⟩
    rintro i m σ2 H2 ⟨rfl, hin, R2, G, S2, hI⟩
    by_cases hlt : i < n
    · refine .inr ⟨ok.go (ρx := []) (Δx := []) rfl S2 hlt, fun σ' H' => ∃ R G, Sx c.Z B R0 R H' (ρ' ++ ρ) (Δ' ++ Δ) σ' G ∧ I (i + 1) G, fun σ' H' h => ⟨n - (i + 1), by omega, rfl, hlt, h⟩, fun y H' hy => ?_⟩
      refine ok.yld (ρx := []) (Δx := []) rfl S2 hlt hy _ fun R3 σ3 H3 S3 _ => ?_
      exact hs i G hlt hI B R0 R3 H3 (ρ' ++ ρ) (Δ' ++ Δ) σ3 _ S3 (fun R4 H4 σ4 Γ4 S4 q => ⟨R4, Γ4, S4, q⟩) (fun R4 H4 v s S4 q => r R4 H4 v s (sx_drop1 hl S4) q) (fun R4 H4 σ4 Γ4 S4 q => nx R4 H4 σ4 Γ4 (sx_drop hl S4) q) (fun R4 H4 σ4 Γ4 S4 q => ⟨R4, Γ4, S4, q⟩) (x.push hl)
    · have e : i = n := by omega
      subst e
      exact .inl ⟨ok.stop (ρx := []) (Δx := []) rfl S2, nx R2 H2 σ2 G (sx_drop hl S2) (hd G hI)⟩) x
theorem w_while (I : Nat → List Sl → Prop) (m0 : Nat) (h0 : I m0 Γ)
    (hs : ∀ m G, I m G → ∃ b, EvT c G tc b ∧ (b = true → W c G t ⟨fun G' => ∃ m', m' < m ∧ I m' G', P.rt, P.nx, fun G' => ∃ m', m' < m ∧ I m' G'⟩) ∧ (b = false → P.nx G)) : W c Γ (tWhile tc t) P := fun B R0 R H ρ Δ σ D S nx r b kk x => by
  refine ⟨fun m σ H => ∃ R G, Sx c.Z B R0 R H ρ Δ σ G ∧ I m G, ⟨m0, R, Γ, S, h0⟩, ?_⟩
  rintro m σ1 H1 ⟨R1, G, S1, hI⟩
  obtain ⟨bb, ht, h1, h2⟩ := hs m G hI
  refine ht B R0 R1 H1 ρ Δ σ1 S1 _ (fun R2 H2 S2 => ?_) x
  cases bb with
  | true =>
    refine ⟨fun σ' H' => ∃ R G, Sx c.Z B R0 R H' ρ Δ σ' G ∧ ∃ m', m' < m ∧ I m' G, fun σ' H' ⟨R, G, S', m', hm, hI'⟩ => ⟨m', hm, R, G, S', hI'⟩, ?_⟩
    exact h1 rfl B R0 R2 H2 ρ Δ σ1 _ S2 (fun R4 H4 σ4 Γ4 S4 q => ⟨R4, Γ4, S4, q⟩) r nx (fun R4 H4 σ4 Γ4 S4 q => ⟨R4, Γ4, S4, q⟩) x
  | false => exact nx R2 H2 σ1 G S2 (h2 rfl)
/-! comprehensions -/
theorem take_snoc {α : Type} {l : List α} {i : Nat} (h : i < l.length) : l.take (i + 1) = l.take i ++ [l[i]] := by rw [List.take_succ, List.getElem?_eq_getElem h]; rfl
theorem sx_wipe {Z : Zz} {B R0 R H : Hp} {ρ : List (Option V)} {Δ : List Sl} {σ : List (Option V)} (S : Sx Z B R0 R H ρ Δ σ Γ) : ∀ vs : List Nat, Sx Z B R0 R H ρ Δ (wipe σ vs) (wipeG Γ vs)
  | [] => S
  | v :: vs => sx_forgets (sx_wipe S vs) v none
/-- the first i turns' items that are kept -/
def kept {α : Type} (p : Nat → Bool) (f : Nat → α) (n : Nat) : List α := ((List.range n).filter p).map f
theorem kept_yes {α : Type} {p : Nat → Bool} {f : Nat → α} {n : Nat} (h : p n = true) : kept p f (n + 1) = kept p f n ++ [f n] := by
  unfold kept
  rw [List.range_succ, List.filter_append, List.map_append]
  simp [h]
theorem kept_no {α : Type} {p : Nat → Bool} {f : Nat → α} {n : Nat} (h : p n = false) : kept p f (n + 1) = kept p f n := by
  unfold kept
  rw [List.range_succ, List.filter_append, List.map_append]
  simp [h]
theorem kept_len {α : Type} (p : Nat → Bool) (f : Nat → α) (n : Nat) : (kept p f n).length ≤ n := by
  unfold kept
  rw [List.length_map]
  exact Nat.le_trans (List.length_filter_le _ _) (by simp)
theorem sx_swapTop {Z : Zz} {B R0 R H : Hp} {ρ : List (Option V)} {Δ : List Sl} {σ : List (Option V)} {o o' : Option V} {s s' : Sl} (S : Sx Z B R0 R H (o :: o' :: ρ) (s :: s' :: Δ) σ Γ) : Sx Z B R0 R H (o' :: o :: ρ) (s' :: s :: Δ) σ Γ := by
  obtain ⟨h, own, hs, f, g, rfl, h1, f2, g2, rfl, h2, h3⟩ := S
  refine ⟨by simpa using h, f2 ++ (f ++ g2), hs_sub hs (fun p hp => ?_) ?_, f2, f ++ g2, rfl, h2, f, g2, rfl, h1, h3⟩
  · simp only [List.mem_append] at hp ⊢
    grind
  · have nd := hs.nd
    simp only [List.nodup_append, List.mem_append] at nd ⊢
    grind
theorem ev_lc {wi : TI} {g : TG} {n : Nat} {us : Nat → List Sl → List Sl} {js vs : List Nat} (p : Nat → Bool) (f : Nat → α) (hi : EvI c Γ wi g n us js) (hn : n < 1000000) (hj : ∀ j ∈ js, j ∈ vs) (hu : UnAt Γ vs)
    (ht : ∀ i, i < n → EvT c.no (us i Γ) tt (p i)) (he : ∀ i, i < n → p i = true → Ev c.no (us i Γ) te (.im (f i))) : Ev c Γ (tLc wi g tt te vs) (.ol (kept p f n)) := fun B R0 R H ρ Δ σ S Q q x =>
  hi B R0 R H ρ Δ σ S _ (fun J R1 H1 ρ' Δ' hl S1 ok Dl hD => by
    refine ⟨fun i m H => m = n - i ∧ i ≤ n ∧ ∃ R, Sx c.Z B R0 R H (some (.ref Dl) :: (ρ' ++ ρ)) (.ol (kept p f i) :: (Δ' ++ Δ)) σ Γ, ⟨n, by simp, Nat.zero_le _, R1, sx_newl S1 hD .nil⟩, ?_⟩
    rintro i m H2 ⟨rfl, hin, R2, S2⟩
    by_cases hlt : i < n
    · refine .inr ⟨ok.go (ρx := [some (.ref Dl)]) (Δx := [.ol (kept p f i)]) rfl S2 hlt, fun H' => ∃ R, Sx c.Z B R0 R H' (some (.ref Dl) :: (ρ' ++ ρ)) (.ol (kept p f (i + 1)) :: (Δ' ++ Δ)) σ Γ, fun H' h => ⟨n - (i + 1), by omega, rfl, hlt, h⟩, fun y H' hy => ?_⟩
      have S2w := sx_wipe S2 vs
      rw [wipeG_un hu] at S2w
      refine ok.yld (ρx := [some (.ref Dl)]) (Δx := [.ol (kept p f i)]) rfl S2w hlt hy _ fun R3 σ3 H3 S3 hw => ⟨(hw vs hj).trans (wipe_wipe _ vs), ?_⟩
      have back : ∀ {R4 H4 : Hp} {o : Option V} {s : Sl}, Sx c.Z B R0 R4 H4 (o :: (ρ' ++ ρ)) (s :: (Δ' ++ Δ)) σ3 (us i Γ) → Sx c.Z B R0 R4 H4 (o :: (ρ' ++ ρ)) (s :: (Δ' ++ Δ)) σ Γ := fun S4 => by
        have q4 := sx_wipe S4 vs
        rw [hw vs hj, wipe_wipe, ok.back i Γ vs hj, wipeG_un hu] at q4
        exact sx_unwipe hu q4
      refine ht i hlt B R0 R3 H3 _ _ σ3 S3 _ (fun R4 H4 S4 => ?_) (Xok.no c _ _ _ _)
      cases hp : p i with
      | false =>
        refine ⟨R4, ?_⟩
        rw [kept_no hp]
        exact back S4
      | true =>
        refine he i hlt hp B R0 R4 H4 _ _ σ3 S4 _ (fun w R5 H5 S5 => ?_) (Xok.no c _ _ _ _)
        obtain ⟨p1, vs1, e1, h1, h2, h3⟩ := sx_mutTop (sx_swapTop S5)
        cases e1
        have hl1 := Paired.length h2
        have hl2 := kept_len p f i
        refine ⟨vs1, h1, Nat.lt_of_lt_of_le (by omega : vs1.length < 1000000) (by decide), R5, ?_⟩
        rw [kept_yes hp]
        exact back (sx_pop2 (h3 (vs1 ++ [w]) (kept p f i ++ [f i]) (paired_append h2 (.cons (sx_top' S5) .nil))))
    · have e : i = n := by omega
      subst e
      exact .inl ⟨ok.stop (ρx := [some (.ref Dl)]) (Δx := [.ol (kept p f i)]) rfl S2, q _ R2 H2 (sx_drop1 hl S2)⟩) x
end TB

/-! TbX: refusals raised; sorted, min, max, insert, stores by index; more walks (enumerate, zip). -/
namespace TB
open PySem PySem.Spec PyProof.Rows L2
/-! ### by values -/
theorem pget_list {X : Cx} : PGet X (rIxL X.K) := by
  intro pins s σ H x y v u Q I rx ry h
  obtain ⟨p, xs, i, z, rfl, rfl, hq, he, q⟩ := h
  cases rx
  obtain ⟨t, rfl⟩ := ry
  obtain ⟨its, r, pl, hz⟩ := I.list hq
  obtain ⟨j, h1, h2, h3, h4, h5⟩ := atI_get he
  obtain ⟨w, ew, rw'⟩ := r.get h2
  have hl := r.length
  have hn := line63
  have fin : EP X pins σ Q w s := ⟨z, H, I, rw', q⟩
  by_cases h0 : 0 ≤ i
  · have hj : i.toNat = j := by
      rw [seqIndex_of h0 h5] at h1
      exact Option.some.inj h1
    exact wpAny_getItem_list (x := w) pl.isList h0 (by omega) (by rw [hj]; simpa using ew) fin
  · have hj : (i + (its.toArray.size : Int)).toNat = j := by
      rw [seqIndex_neg (by omega) h4] at h1
      rw [List.size_toArray, ← hl]
      exact Option.some.inj h1
    exact wpAny_getItem_list_neg pl.isList (by omega) (by rw [List.size_toArray] <;> omega) (by omega) (by rw [hj]; simpa using ew) fin

/-! ### refusals -/
def tRaise0 (C : Addr) (X : WX) : TS := fun _ σ H => (fun _ H Q => Q (.ref C) none H : L2.St → Hp → XK → Prop) σ H fun cls d H' => X cls d σ H'
section
variable {c : Cn} {Γ : List Sl} {ta tb te tl : TE} {tt tc : TT} {t u : TS} {s : Sl} {α β γ : Type} {_ : Rp α} {_ : Rp β} {_ : Rp γ} {P : Po}
theorem w_raise0 (n : CN) (h : c.ex ⟨n, []⟩ Γ) : W c Γ (tRaise0 (c.Z.cls n) c.X) P := fun B R0 R H ρ Δ σ D S nx r b k x => x R H σ Γ ⟨n, []⟩ (.ref (c.Z.cls n)) none S ⟨rfl, .inl ⟨rfl, rfl⟩⟩ h
end
/-! ### more built-ins -/
def isort (xs : List Int) : List Int := xs.mergeSort fun x y => decide (x ≤ y)
def gSorted (K : PySem.W.Frag) : List V → Hp → VK → Prop := rSortedI K
def gMin : List V → Hp → VK → Prop := fun xs H Q => ∃ i j, xs = [.int i, .int j] ∧ Q (.int (if j < i then j else i)) H
def gMax : List V → Hp → VK → Prop := fun xs H Q => ∃ i j, xs = [.int i, .int j] ∧ Q (.int (if j > i then j else i)) H
def gInsert : V → List V → Hp → VK → Prop := fun x vs H Q => ∃ (l : Addr) (xs : List V) (i : Int) (y : V), x = .ref l ∧ vs = [.int i, y] ∧ H l = some (.lst xs) ∧ xs.length < sizeLine ∧ 0 ≤ i ∧ i < 2 ^ 63 ∧
    Q .non (upd H l (.lst (xs.take i.toNat ++ [y] ++ xs.drop i.toNat)))
theorem gm_insert {X : Cx} : MtR X "list.insert" gInsert := mt_insert
/-- o[i] = v: a list, a dict -/
def gSet : V → V → V → Hp → (Hp → Prop) → Prop := fun o i v H Q => rSetL o i v H Q ∨ ∃ a H', o = .ref a ∧ DPut H a i v H' ∧ Q H'
theorem gs_set {X : Cx} (hu : X.A.units + 1 < cLine) : PSet X gSet := by
  intro pins s σ H o i v ov iv u Q I ro ri rv h
  rcases h with h | ⟨a, H', rfl, h, q⟩
  · exact set_list pins s σ H o i v ov iv u Q I ro ri rv h
  · obtain rfl : ov = Value.ref a := ro
    exact d_setItem hu I h ri rv fun s4 I4 => ⟨H', I4, q⟩
section
variable {c : Cn} {Γ : List Sl} {ta tb te tl : TE} {tt tc : TT} {t u : TS} {s : Sl} {α β γ : Type} {_ : Rp α} {_ : Rp β} {_ : Rp γ} {P : Po}
theorem ev_sorted {xs : List Int} (ha : Ev c Γ ta (.im xs)) : Ev c Γ (tCB (gSorted c.Z.K) (tCons ta tNil)) (.ol (isort xs)) := ev_cbL ha fun R H v sm rv Q q => by
  obtain ⟨a, vs, rfl, ha, hp⟩ := rv
  refine ⟨a, xs, rfl, SqL.of (paired_map_int hp ▸ sm _ _ ha), fun ns' p pm pw np => ?_⟩
  have e : ns' = isort xs := PySem.W.os_sorted_mergeSort pm pw
  subst e
  exact q _ p (paired_of_int _) np
theorem ev_min2 {i j : Int} (ha : Ev c Γ ta (.im i)) (hb : Ev c Γ tb (.im j)) : Ev c Γ (tCB gMin (tCons ta (tCons tb tNil))) (.im (if j < i then j else i)) := ev_cb2 ha hb fun R H v w sm rv rw => by
  have rv' : v = .int i := rv
  have rw' : w = .int j := rw
  subst rv' rw'
  exact ⟨_, rfl, fun Q q => ⟨i, j, rfl, q⟩⟩
theorem ev_max2 {i j : Int} (ha : Ev c Γ ta (.im i)) (hb : Ev c Γ tb (.im j)) : Ev c Γ (tCB gMax (tCons ta (tCons tb tNil))) (.im (if j > i then j else i)) := ev_cb2 ha hb fun R H v w sm rv rw => by
  have rv' : v = .int i := rv
  have rw' : w = .int j := rw
  subst rv' rw'
  exact ⟨_, rfl, fun Q q => ⟨i, j, rfl, q⟩⟩
/-- 0, 1, .., n - 1 -/
def irange (n : Int) : List Int := (List.range n.toNat).map fun (i : Nat) => (i : Int)
theorem ev_listRg {n : Int} (ha : Ev c Γ ta (.im n)) (h : n ≤ 1000000) (h0 : -1000000 ≤ n) : Ev c Γ (tLstRg (tRg1 ta)) (.ol (irange n)) := fun B R0 R H ρ Δ σ S Q q xk => ha B R0 R H ρ Δ σ S _ (fun v R1 H1 S1 => by
  have rv : v = .int n := sx_top' S1
  refine ⟨n, rv, ⟨by omega, by omega, by omega, by omega, by omega⟩, fun p np => ?_⟩
  have e : rgV 0 n = (irange n).map V.int := by
    unfold rgV irange
    rw [List.map_map]
    congr 1
    · funext i; show V.int (0 + (i : Int)) = V.int (i : Int); rw [Int.zero_add]
    · rw [Int.sub_zero]
  rw [e]
  exact q _ R1 _ (sx_newl (sx_pop S1) np (paired_of_int _))) xk
theorem ev_slice {xs : List α} {t1 t2 : TO} {lo hi : Option Int} (ha : Ev c Γ ta (.im xs)) (h1 : ∀ B R0 R H ρ Δ σ, Sx c.Z B R0 R H ρ Δ σ Γ → ∀ Q : Option Int → Hp → Prop, (∀ R' H', Sx c.Z B R0 R' H' ρ Δ σ Γ → Q lo H') → Xok c B R0 ρ Δ → t1 σ H Q)
    (h2 : ∀ B R0 R H ρ Δ σ, Sx c.Z B R0 R H ρ Δ σ Γ → ∀ Q : Option Int → Hp → Prop, (∀ R' H', Sx c.Z B R0 R' H' ρ Δ σ Γ → Q hi H') → Xok c B R0 ρ Δ → t2 σ H Q) :
    Ev c Γ (tSl (rSlL c.Z.K) ta t1 t2) (.ol ((xs.drop (HT.sIx xs.length 0 lo)).take (HT.sIx xs.length xs.length hi - HT.sIx xs.length 0 lo))) := fun B R0 R H ρ Δ σ S Q q xk => ha B R0 R H ρ Δ σ S _ (fun v R1 H1 S1 =>
  h1 B R0 R1 H1 _ _ σ S1 _ (fun R2 H2 S2 => h2 B R0 R2 H2 _ _ σ S2 _ (fun R3 H3 S3 => by
    obtain ⟨a, vs, rfl, ha3, hp⟩ := sx_top' S3
    refine ⟨a, vs, rfl, SqL.of (sx_same S3 _ _ ha3), fun p np => ?_⟩
    have hl := Paired.length hp
    unfold cutV
    rw [hl]
    exact q _ R3 _ (sx_newl (sx_pop S3) np (paired_take _ (paired_drop _ hp)))) xk.push1) xk.push1) xk
theorem eo_none : ∀ B R0 R H ρ Δ σ, Sx c.Z B R0 R H ρ Δ σ Γ → ∀ Q : Option Int → Hp → Prop, (∀ R' H', Sx c.Z B R0 R' H' ρ Δ σ Γ → Q none H') → Xok c B R0 ρ Δ → tNoPart σ H Q := fun B R0 R H ρ Δ σ S Q q _ => q R H S
theorem eo_some {i : Int} (h : Ev c Γ te (.im i)) : ∀ B R0 R H ρ Δ σ, Sx c.Z B R0 R H ρ Δ σ Γ → ∀ Q : Option Int → Hp → Prop, (∀ R' H', Sx c.Z B R0 R' H' ρ Δ σ Γ → Q (some i) H') → Xok c B R0 ρ Δ → tPart te σ H Q := fun B R0 R H ρ Δ σ S Q q xk =>
  h B R0 R H ρ Δ σ S _ (fun v R1 H1 S1 => ⟨i, sx_top' S1, q R1 H1 (sx_pop S1)⟩) xk
theorem sIx_of {n d : Nat} {i : Int} (h : 0 ≤ i) : HT.sIx n d (some i) = min i.toNat n := by
  unfold HT.sIx
  simp only []
  split <;> omega
/-- xs[lo:hi] -/
theorem ev_cut {xs : List α} {lo hi : Int} (ha : Ev c Γ ta (.im xs)) (h1 : Ev c Γ tb (.im lo)) (h2 : Ev c Γ te (.im hi)) (h0 : 0 ≤ lo) (h3 : 0 ≤ hi) : Ev c Γ (tSl (rSlL c.Z.K) ta (tPart tb) (tPart te)) (.ol ((xs.take hi.toNat).drop lo.toNat)) := by
  refine ev_is (ev_slice ha (eo_some h1) (eo_some h2)) (congrArg Sl.ol ?_)
  rw [sIx_of h0, sIx_of h3, List.drop_take]
  apply List.ext_getElem?
  intro k
  simp only [List.getElem?_take, List.getElem?_drop]
  grind
theorem ev_cutTo {xs : List α} {hi : Int} (ha : Ev c Γ ta (.im xs)) (h2 : Ev c Γ te (.im hi)) (h3 : 0 ≤ hi) : Ev c Γ (tSl (rSlL c.Z.K) ta tNoPart (tPart te)) (.ol (xs.take hi.toNat)) := by
  refine ev_is (ev_slice ha eo_none (eo_some h2)) (congrArg Sl.ol ?_)
  rw [sIx_of h3]
  apply List.ext_getElem?
  intro k
  simp only [List.getElem?_take, List.getElem?_drop, HT.sIx]
  grind
theorem ev_cutFrom {xs : List α} {lo : Int} (ha : Ev c Γ ta (.im xs)) (h1 : Ev c Γ tb (.im lo)) (h0 : 0 ≤ lo) : Ev c Γ (tSl (rSlL c.Z.K) ta (tPart tb) tNoPart) (.ol (xs.drop lo.toNat)) := by
  refine ev_is (ev_slice ha (eo_some h1) eo_none) (congrArg Sl.ol ?_)
  rw [sIx_of h0]
  apply List.ext_getElem?
  intro k
  simp only [List.getElem?_take, List.getElem?_drop, HT.sIx]
  grind
end
end TB

/-! TbY: enumerate, zip; own classes' fields; groups. -/
namespace TB
open PySem L2
section
variable {c : Cn} {Γ : List Sl} {ta tb te tl : TE} {tt tc : TT} {t u : TS} {s : Sl} {α β γ : Type} {_ : Rp α} {_ : Rp β} {_ : Rp γ} {P : Po}
theorem ei_enum {xs : List α} {a b : Nat} (h : Ev c Γ tl (.im xs)) : EvI c Γ (iEnum c.Z.K (tCons tl tNil)) (gTup c.Z.K 2 (gCons (gName a) (gCons (gName b) gNil))) xs.length (fun i G => (G.set a (.im (i : Int))).set b (.im (xs.getD i Rp.df))) [a, b] := fun B R0 R H ρ Δ σ S K k x =>
  h B R0 R H ρ Δ σ S _ (fun v R1 H1 S1 => by
    have rv := sx_top' S1
    obtain ⟨l, vs, rfl, ha, hp⟩ := id rv
    refine ⟨l, vs, rfl, SqL.of (sx_same S1 _ _ ha), k (Ite c.Z.K l) R1 H1 [some (.ref l)] [.im xs] rfl S1 ⟨fun i G vs3 hj => by rw [wipeG_set (hj b (by simp)), wipeG_set (hj a (by simp))], fun {R2 H2 ρx Δx σ2 Γ2 i} hx S2 hi => ?_, fun {R2 H2 ρx Δx σ2 Γ2} hx S2 => ?_, fun {R2 H2 ρx Δx σ2 Γ2 i y H'} hx S2 hi hy K' kk => ?_⟩⟩
    · obtain ⟨a2, vs2, e2, ha2, hp2⟩ := sx_top' (sx_drop hx S2)
      cases e2
      obtain ⟨w, hw, _⟩ := paired_get hp2 (b := xs[i]) (i := i) (by simp [hi])
      exact ⟨vs2, w, SqL.of (sx_same S2 _ _ ha2), hw⟩
    · obtain ⟨a2, vs2, e2, ha2, hp2⟩ := sx_top' (sx_drop hx S2)
      cases e2
      exact ⟨vs2, SqL.of (sx_same S2 _ _ ha2), by rw [Paired.length hp2]; exact Nat.le_refl _⟩
    · obtain ⟨a2, vs2, e2, ha2, hp2⟩ := sx_top' (sx_drop hx S2)
      cases e2
      obtain ⟨T, w, rfl, hT, rfl, hy⟩ := hy
      have hy' := hy vs2 (SqL.of (sx_same S2 _ _ ha2))
      obtain ⟨z, hz, rz⟩ := paired_getL hp2 hy'
      have e3 : xs.getD i Rp.df = z := by rw [List.getD_eq_getElem?_getD, hz]; rfl
      refine ⟨T, [.int (i : Nat), w], rfl, SqT.of upd_same, rfl, _, _, rfl, _, _, rfl, rfl, ?_⟩
      refine kk R2 _ _ ?_ fun vs3 hj => by rw [wipe_set (hj b (by simp)), wipe_set (hj a (by simp))]
      refine sx_asg (sx_push (sx_asg (sx_push (sx_alloc S2 hT _) (show Rp.rp c.Z R2 (V.int (i : Int)) (i : Int) from rfl)) a) (d := xs.getD i Rp.df) ?_) b
      rw [e3]
      exact rz) x
theorem ei_zip {xs : List α} {ys : List β} {a b : Nat} (h : Ev c Γ tl (.im xs)) (h2 : Ev c Γ te (.im ys)) : EvI c Γ (iZip c.Z.K (tCons tl (tCons te tNil))) (gTup c.Z.K 2 (gCons (gName a) (gCons (gName b) gNil))) (min xs.length ys.length) (fun i G => (G.set a (.im (xs.getD i Rp.df))).set b (.im (ys.getD i Rp.df))) [a, b] := fun B R0 R H ρ Δ σ S K k x =>
  h B R0 R H ρ Δ σ S _ (fun v R1 H1 S1 => h2 B R0 R1 H1 _ _ σ S1 _ (fun v2 R3 H3 S3 => by
    obtain ⟨l, vs, rfl, ha, hp⟩ := id (sx_top' (sx_pop S3))
    obtain ⟨l2, vs2, rfl, ha2, hp2⟩ := id (sx_top' S3)
    refine ⟨l, l2, vs, vs2, rfl, SqL.of (sx_same S3 _ _ ha), SqL.of (sx_same S3 _ _ ha2), k (Itz c.Z.K l l2) R3 H3 [some (.ref l2), some (.ref l)] [.im ys, .im xs] rfl S3 ⟨fun i G vs3 hj => by rw [wipeG_set (hj b (by simp)), wipeG_set (hj a (by simp))], fun {R2 H2 ρx Δx σ2 Γ2 i} hx S2 hi => ?_, fun {R2 H2 ρx Δx σ2 Γ2} hx S2 => ?_, fun {R2 H2 ρx Δx σ2 Γ2 i y H'} hx S2 hi hy K' kk => ?_⟩⟩
    all_goals
      have S2' := sx_drop hx S2
      obtain ⟨q1, ws1, e1, g1, p1⟩ := sx_top' (sx_pop S2')
      cases e1
      obtain ⟨q2, ws2, e2, g2, p2⟩ := sx_top' S2'
      cases e2
      have l1 := Paired.length p1
      have l2 := Paired.length p2
      have s1 := sx_same S2 _ _ g1
      have s2 := sx_same S2 _ _ g2
    · obtain ⟨w, hw, _⟩ := paired_get p1 (b := xs[i]'(by omega)) (i := i) (by simp)
      obtain ⟨w2, hw2, _⟩ := paired_get p2 (b := ys[i]'(by omega)) (i := i) (by simp)
      exact ⟨ws1, ws2, w, w2, SqL.of s1, SqL.of s2, hw, hw2⟩
    · exact ⟨ws1, ws2, SqL.of s1, SqL.of s2, by omega⟩
    · obtain ⟨T, w, w2, rfl, hT, rfl, hy, hy2⟩ := hy
      obtain ⟨z, hz, rz⟩ := paired_getL p1 (hy ws1 (SqL.of s1))
      obtain ⟨z2, hz2, rz2⟩ := paired_getL p2 (hy2 ws2 (SqL.of s2))
      have e3 : xs.getD i Rp.df = z := by rw [List.getD_eq_getElem?_getD, hz]; rfl
      have e4 : ys.getD i Rp.df = z2 := by rw [List.getD_eq_getElem?_getD, hz2]; rfl
      refine ⟨T, [w, w2], rfl, SqT.of upd_same, rfl, _, _, rfl, _, _, rfl, rfl, ?_⟩
      refine kk R2 _ _ ?_ fun vs3 hj => by rw [wipe_set (hj b (by simp)), wipe_set (hj a (by simp))]
      refine sx_asg (sx_push (sx_asg (sx_push (sx_alloc S2 hT _) (d := xs.getD i Rp.df) (by rw [e3]; exact rz)) a) (d := ys.getD i Rp.df) ?_) b
      rw [e4]
      exact rz2) x.push1) x
/-! fields -/
/-- o.f, told by what o's rep says -/
theorem ev_fld {o : α} {d : β} {f : Str} (h : Ev c Γ te (.im o)) (hf : ∀ R v, Rp.rp c.Z R v o → ∃ a C dx fs w, v = .ref a ∧ R a = some (.ins C dx fs) ∧ Cls c.Z.K C ∧ NoAttr c.Z.K C f ∧ fs.lookup f = some w ∧ Rp.rp c.Z R w d) : Ev c Γ (tFld c.Z.K te f) (.im d) := fun B R0 R H ρ Δ σ S Q q x =>
  h B R0 R H ρ Δ σ S _ (fun v R1 H1 S1 => by
    obtain ⟨a, C, dx, fs, w, rfl, h1, h2, h3, h4, h5⟩ := hf R1 v (sx_top' S1)
    exact ⟨a, C, dx, fs, w, rfl, sx_same S1 _ _ h1, h2, h3, h4, q w R1 H1 (sx_push (sx_pop S1) h5)⟩) x
end
/-! ### groups -/
structure Grp where
  many : Int
  rows : List (List Int)
  unit : Int
  backs : List Int
/-- what the written part says of the class -/
structure GrpC (Z : Zz) : Prop where
  cl : Cls Z.K (Z.cls .Group)
  n1 : NoAttr Z.K (Z.cls .Group) "many"
  n2 : NoAttr Z.K (Z.cls .Group) "rows"
  n3 : NoAttr Z.K (Z.cls .Group) "unit"
  n4 : NoAttr Z.K (Z.cls .Group) "backs"
def flG (m r u b : V) : List (Str × V) := [("many", m), ("rows", r), ("unit", u), ("backs", b)]
instance : Rp Grp := ⟨⟨0, [], 0, []⟩, fun Z H v g => GrpC Z ∧ ∃ a dx m r u b, v = .ref a ∧ H a = some (.ins (Z.cls .Group) dx (flG m r u b)) ∧ Rp.rp Z H m g.many ∧ Rp.rp Z H r g.rows ∧ Rp.rp Z H u g.unit ∧ Rp.rp Z H b g.backs,
  fun e h => by
    obtain ⟨h0, a, dx, m, r, u, b, h1, h2, h3, h4, h5, h6⟩ := h
    exact ⟨h0, a, dx, m, r, u, b, h1, e _ _ h2, Rp.mono e h3, Rp.mono e h4, Rp.mono e h5, Rp.mono e h6⟩⟩
theorem lookup_at {f g : Str} {v : V} {fs : List (Str × V)} (h : ¬ f = g) : ((f, v) :: fs).lookup g = fs.lookup g := by
  have : (g == f) = false := by simpa using fun e => h e.symm
  simp [List.lookup, this]
theorem lookup_here {f : Str} {v : V} {fs : List (Str × V)} : ((f, v) :: fs).lookup f = some v := by simp [List.lookup]
theorem flG1 (m r u b : V) : (flG m r u b).lookup ("many" : Str) = some m := lookup_here
theorem flG2 (m r u b : V) : (flG m r u b).lookup ("rows" : Str) = some r := by
  unfold flG
  rw [lookup_at (by decide +kernel), lookup_here]
theorem flG3 (m r u b : V) : (flG m r u b).lookup ("unit" : Str) = some u := by
  unfold flG
  rw [lookup_at (by decide +kernel), lookup_at (by decide +kernel), lookup_here]
theorem flG4 (m r u b : V) : (flG m r u b).lookup ("backs" : Str) = some b := by
  unfold flG
  rw [lookup_at (by decide +kernel), lookup_at (by decide +kernel), lookup_at (by decide +kernel), lookup_here]
section
variable {c : Cn} {Γ : List Sl} {ta tb te tl : TE} {g : Grp}
theorem ev_many (h : Ev c Γ te (.im g)) : Ev c Γ (tFld c.Z.K te "many") (.im g.many) := ev_fld h fun R v ⟨h0, a, dx, m, r, u, b, h1, h2, h3, h4, h5, h6⟩ => ⟨a, _, dx, _, m, h1, h2, h0.cl, h0.n1, flG1 .., h3⟩
theorem ev_rows (h : Ev c Γ te (.im g)) : Ev c Γ (tFld c.Z.K te "rows") (.im g.rows) := ev_fld h fun R v ⟨h0, a, dx, m, r, u, b, h1, h2, h3, h4, h5, h6⟩ => ⟨a, _, dx, _, r, h1, h2, h0.cl, h0.n2, flG2 .., h4⟩
theorem ev_unit (h : Ev c Γ te (.im g)) : Ev c Γ (tFld c.Z.K te "unit") (.im g.unit) := ev_fld h fun R v ⟨h0, a, dx, m, r, u, b, h1, h2, h3, h4, h5, h6⟩ => ⟨a, _, dx, _, u, h1, h2, h0.cl, h0.n3, flG3 .., h5⟩
theorem ev_backs (h : Ev c Γ te (.im g)) : Ev c Γ (tFld c.Z.K te "backs") (.im g.backs) := ev_fld h fun R v ⟨h0, a, dx, m, r, u, b, h1, h2, h3, h4, h5, h6⟩ => ⟨a, _, dx, _, b, h1, h2, h0.cl, h0.n4, flG4 .., h6⟩
end
end TB
namespace TB
open PySem L2
section
variable {α β γ δ ε : Type} [Rp α] [Rp β] [Rp γ] [Rp δ] [Rp ε]
def tm1 (F : α → (Sl → Prop) → (Rf → Prop) → Prop) : Tm := fun ss ok er => ∃ a, ss = [.im a] ∧ F a ok er
def tm2 (F : α → β → (Sl → Prop) → (Rf → Prop) → Prop) : Tm := fun ss ok er => ∃ a b, ss = [.im a, .im b] ∧ F a b ok er
def tm3 (F : α → β → γ → (Sl → Prop) → (Rf → Prop) → Prop) : Tm := fun ss ok er => ∃ a b c, ss = [.im a, .im b, .im c] ∧ F a b c ok er
def tm4 (F : α → β → γ → δ → (Sl → Prop) → (Rf → Prop) → Prop) : Tm := fun ss ok er => ∃ a b c d, ss = [.im a, .im b, .im c, .im d] ∧ F a b c d ok er
def tm5 (F : α → β → γ → δ → ε → (Sl → Prop) → (Rf → Prop) → Prop) : Tm := fun ss ok er => ∃ a b c d e, ss = [.im a, .im b, .im c, .im d, .im e] ∧ F a b c d e ok er
end
theorem spOf_len {Z : Zz} {T : Tm} {n : Nat} (h : ∀ ss ok er, T ss ok er → ss.length = n) (vs : List V) (H : Hp) (Q : VK) (E : XK) (hs : spOf Z T vs H Q E) : vs.length = n := by
  obtain ⟨R, ss, ok, er, _, sl, hT, _⟩ := hs
  rw [← h ss ok er hT]
  clear hT
  induction sl with
  | nil => rfl
  | cons r t ih => simp [ih]
/-- a body's judgement at its entry -/
abbrev WF (Z : Zz) (X : WX) (er : Rf → Prop) (Γ : List Sl) (t : TS) (ok : Sl → Prop) : Prop := W ⟨Z, X, fun r _ => er r⟩ Γ t ⟨fun _ => ok (.im ()), ok, fun _ => False, fun _ => False⟩
end TB
namespace TB
open PySem L2
theorem getD_eq {α : Type} {l : List α} {i : Nat} {d : α} (h : i < l.length) : l.getD i d = l[i] := by simp [h]
section
variable {c : Cn} {Γ : List Sl} {ta tb te tl : TE} {tt tc : TT} {t u : TS} {s : Sl} {α β γ : Type} {_ : Rp α} {_ : Rp β} {_ : Rp γ} {P : Po}
theorem w_forL {xs : List α} {j : Nat} (I : Nat → List Sl → Prop) (h : Ev c Γ tl (.im xs)) (h0 : I 0 Γ) (hs : ∀ i G (hi : i < xs.length), I i G → W c (G.set j (.im xs[i])) t ⟨I (i + 1), P.rt, P.nx, I (i + 1)⟩) (hd : ∀ G, I xs.length G → P.nx G) :
    W c Γ (tFor (iList c.Z.K tl) (gName j) t) P := w_for I (ei_list h) h0 (fun i G hi hI => by
  have q := hs i G hi hI
  rw [← getD_eq (d := Rp.df) hi] at q
  exact q) hd
theorem w_forE {xs : List α} {a b : Nat} (I : Nat → List Sl → Prop) (h : Ev c Γ tl (.im xs)) (h0 : I 0 Γ) (hs : ∀ i G (hi : i < xs.length), I i G → W c ((G.set a (.im (i : Int))).set b (.im xs[i])) t ⟨I (i + 1), P.rt, P.nx, I (i + 1)⟩) (hd : ∀ G, I xs.length G → P.nx G) :
    W c Γ (tFor (iEnum c.Z.K (tCons tl tNil)) (gTup c.Z.K 2 (gCons (gName a) (gCons (gName b) gNil))) t) P := w_for I (ei_enum h) h0 (fun i G hi hI => by
  have q := hs i G hi hI
  rw [← getD_eq (d := Rp.df) hi] at q
  exact q) hd
theorem w_forR {n : Int} {j : Nat} (I : Nat → List Sl → Prop) (h : Ev c Γ te (.im n)) (hn : n < 2 ^ 60) (hn0 : -(2 ^ 60) < n) (h0 : I 0 Γ) (hs : ∀ (i : Nat) G, (i : Int) < n → I i G → W c (G.set j (.im (i : Int))) t ⟨I (i + 1), P.rt, P.nx, I (i + 1)⟩) (hd : ∀ G, I n.toNat G → P.nx G) :
    W c Γ (tFor (iRng1 (tCons te tNil)) (gName j) t) P := w_for I (ei_rng1 h hn hn0) h0 (fun i G hi hI => hs i G (by omega) hI) hd
theorem w_forR2 {m n : Int} {j : Nat} (I : Nat → List Sl → Prop) (h1 : Ev c Γ ta (.im m)) (h : Ev c Γ te (.im n)) (hm : -(2 ^ 60) < m ∧ m < 2 ^ 60) (hn : n < 2 ^ 60 ∧ -(2 ^ 60) < n) (h0 : I 0 Γ) (hs : ∀ (i : Nat) G, m + (i : Int) < n → I i G → W c (G.set j (.im (m + (i : Int)))) t ⟨I (i + 1), P.rt, P.nx, I (i + 1)⟩) (hd : ∀ G, I (n - m).toNat G → P.nx G) :
    W c Γ (tFor (iRng2 (tCons ta (tCons te tNil))) (gName j) t) P := w_for I (ei_rng2 h1 h hm hn) h0 (fun i G hi hI => hs i G (by omega) hI) hd
/-- comprehensions with all items, none left out: the mapped list -/
theorem kept_all {α : Type} {f : Nat → α} : ∀ n, kept (fun _ => true) f n = (List.range n).map f := fun n => congrArg (List.map f) (List.filter_eq_self.2 fun _ _ => rfl)
theorem ev_mapL {xs : List α} {j : Nat} {vs : List Nat} (f : α → β) (h : Ev c Γ tl (.im xs)) (hn : xs.length < 1000000) (hj : j ∈ vs) (hu : UnAt Γ vs) (he : ∀ x, x ∈ xs → Ev c.no (Γ.set j (.im x)) te (.im (f x))) : Ev c Γ (tLc (iList c.Z.K tl) (gName j) tYes te vs) (.ol (xs.map f)) := by
  refine ev_is (ev_lc (fun _ => true) (fun i => f (xs.getD i Rp.df)) (ei_list h) hn (fun k hk => by simp at hk; rw [hk]; exact hj) hu (fun i hi => fun B R0 R H ρ Δ σ S Q q _ => q R H S) (fun i hi _ => he _ (by rw [getD_eq hi]; exact List.getElem_mem hi))) ?_
  rw [kept_all]
  refine congrArg Sl.ol (List.ext_getElem (by simp) fun i h1 h2 => ?_)
  simp at h1
  simp [h1]
theorem ev_mapR {n : Int} {j : Nat} {vs : List Nat} (f : Int → β) (h : Ev c Γ ta (.im n)) (hn : n < 1000000) (hn0 : -1000000 < n) (hj : j ∈ vs) (hu : UnAt Γ vs) (he : ∀ i : Int, 0 ≤ i → i < n → Ev c.no (Γ.set j (.im i)) te (.im (f i))) : Ev c Γ (tLc (iRng1 (tCons ta tNil)) (gName j) tYes te vs) (.ol ((irange n).map f)) := by
  refine ev_is (ev_lc (fun _ => true) (fun i => f (i : Int)) (ei_rng1 h (by omega) (by omega)) (by omega) (fun k hk => by simp at hk; rw [hk]; exact hj) hu (fun i hi => fun B R0 R H ρ Δ σ S Q q _ => q R H S) (fun i hi _ => he _ (by omega) (by omega))) ?_
  rw [kept_all]
  unfold irange
  rw [List.map_map]
  rfl
end
theorem irange_len (n : Int) : (irange n).length = n.toNat := by unfold irange; simp
theorem mem_irange {n i : Int} : i ∈ irange n ↔ 0 ≤ i ∧ i < n := by
  unfold irange
  simp only [List.mem_map, List.mem_range]
  constructor
  · rintro ⟨k, h, rfl⟩
    omega
  · rintro ⟨h0, h1⟩
    exact ⟨i.toNat, by omega, by omega⟩
theorem irange_get {n : Int} {i : Nat} (h : i < (irange n).length) : (irange n)[i] = (i : Int) := by simp only [irange, List.getElem_map, List.getElem_range]
end TB

/-! TbZ: == of data; isinstance; cuts of the script; calls. -/
namespace TB
open PySem L2
/-- data that == compares -/
class Pd (α : Type) extends Rp α where
  py : α → PyData
  dep : Nat
  dp : ∀ {Z : Zz} {H : Hp} {v : V} {d : α}, rp Z H v d → Dp Z.K H v (py d)
  can : ∀ d, PyData.canLay0 (py d) = true
  low : ∀ d, PyData.depth (py d) ≤ dep
  eqv : ∀ a b, PyData.eqv (py a) (py b) = true ↔ a = b
instance : Pd Int := { py := .int, dep := 0, dp := fun h => (by cases h; exact .int _), can := fun _ => (by simp [PyData.canLay0]), low := fun _ => (by simp [PyData.depth]), eqv := fun a b => (by simp [PyData.eqv]) }
instance : Pd Bool := { py := .bool, dep := 0, dp := fun h => (by cases h; exact .bl _), can := fun _ => (by simp [PyData.canLay0]), low := fun _ => (by simp [PyData.depth]), eqv := fun a b => (by simp [PyData.eqv]) }
theorem dpAll_of {α : Type} [Pd α] {Z : Zz} {H : Hp} : ∀ {vs : List V} {xs : List α}, Paired (Rp.rp Z H) vs xs → DpAll Z.K H vs (xs.map Pd.py)
  | _, _, .nil => .nil
  | _, _, .cons r t => .cons (Pd.dp r) (dpAll_of t)
instance {α : Type} [Pd α] : Pd (List α) where
  py := fun xs => .list (xs.map Pd.py)
  dep := (Pd.dep α) + 1
  dp := fun h => by
    obtain ⟨a, vs, rfl, h2, h3⟩ := h
    exact .lst (SqL.of h2) (dpAll_of h3)
  can := fun d => by
    show PyData.canLay0 (.list (d.map Pd.py)) = true
    rw [PyData.canLay0]
    induction d with
    | nil => simp [PyData.canLayAll0]
    | cons x r ih => simp [PyData.canLayAll0, Pd.can x, ih]
  low := fun d => by
    show PyData.depth (.list (d.map Pd.py)) ≤ Pd.dep α + 1
    rw [PyData.depth]
    have : PyData.depthAll (d.map Pd.py) ≤ Pd.dep α := by
      induction d with
      | nil => simp [PyData.depthAll]
      | cons x r ih =>
        have := Pd.low x
        simp only [List.map_cons, PyData.depthAll]
        omega
    omega
  eqv := fun a b => by
    show PyData.eqv (.list (a.map Pd.py)) (.list (b.map Pd.py)) = true ↔ a = b
    rw [PyData.eqv]
    induction a generalizing b with
    | nil => cases b <;> simp [PyData.eqvAll]
    | cons x r ih =>
      cases b with
      | nil => simp [PyData.eqvAll]
      | cons y t => simp [PyData.eqvAll, Pd.eqv, ih]
instance {α β : Type} [Pd α] [Pd β] : Pd (α × β) where
  py := fun p => .tuple [Pd.py p.1, Pd.py p.2]
  dep := max (Pd.dep α) (Pd.dep β) + 1
  dp := fun h => by
    obtain ⟨a, x, y, rfl, h2, h3, h4⟩ := h
    exact .tup (SqT.of h2) (.cons (Pd.dp h3) (.cons (Pd.dp h4) .nil))
  can := fun d => by simp [PyData.canLay0, PyData.canLayAll0, Pd.can]
  low := fun d => by
    have h1 := Pd.low d.1
    have h2 := Pd.low d.2
    simp only [PyData.depth, PyData.depthAll]
    omega
  eqv := fun a b => by simp [PyData.eqv, PyData.eqvAll, Pd.eqv, Prod.ext_iff]
section
variable {c : Cn} {Γ : List Sl} {ta tb te tl : TE} {tt tc : TT} {t u : TS} {s : Sl} {α β γ : Type} {P : Po}
theorem rEqD_of [Pd α] {Z : Zz} {H : Hp} {v w : V} {x y : α} {Q : VK} (h : Rp.rp Z H v x) (h' : Rp.rp Z H w y) (hd : Pd.dep α ≤ 64) (q : Q (.bl (PyData.eqv (Pd.py x) (Pd.py y))) H) : rEqD Z.K v w H Q :=
  ⟨Pd.py x, Pd.py y, Pd.dp h, Pd.dp h', by simp [SeqAt.shaped, Pd.can, Nat.le_trans (Pd.low x) hd], by simp [SeqAt.shaped, Pd.can, Nat.le_trans (Pd.low y) hd], q⟩
theorem rNeD_of [Pd α] {Z : Zz} {H : Hp} {v w : V} {x y : α} {Q : VK} (h : Rp.rp Z H v x) (h' : Rp.rp Z H w y) (hd : Pd.dep α ≤ 64) (q : Q (.bl (!PyData.eqv (Pd.py x) (Pd.py y))) H) : rNeD Z.K v w H Q :=
  ⟨Pd.py x, Pd.py y, Pd.dp h, Pd.dp h', by simp [SeqAt.shaped, Pd.can, Nat.le_trans (Pd.low x) hd], by simp [SeqAt.shaped, Pd.can, Nat.le_trans (Pd.low y) hd], q⟩
theorem eqv_dec [Pd α] [DecidableEq α] (x y : α) : PyData.eqv (Pd.py x) (Pd.py y) = decide (x = y) := by
  have := Pd.eqv x y
  by_cases h : x = y
  · rw [decide_eq_true h]; exact this.mpr h
  · rw [decide_eq_false h]
    cases e : PyData.eqv (Pd.py x) (Pd.py y) with
    | false => rfl
    | true => exact absurd (this.mp e) h
theorem ev_eqD [Pd α] [DecidableEq α] {x y : α} (ha : Ev c Γ ta (.im x)) (hb : Ev c Γ tb (.im y)) (hd : Pd.dep α ≤ 64) : Ev c Γ (tOp (gEq c.Z.K) ta tb) (.im (decide (x = y))) := ev_opv ha hb fun R H v w sm rv rw => ⟨.bl _, rfl, fun Q q =>
  .inr (rEqD_of (Rp.mono sm rv) (Rp.mono sm rw) hd (by rw [eqv_dec]; exact q))⟩
theorem ev_neD [Pd α] [DecidableEq α] {x y : α} (ha : Ev c Γ ta (.im x)) (hb : Ev c Γ tb (.im y)) (hd : Pd.dep α ≤ 64) : Ev c Γ (tOp (gNe c.Z.K) ta tb) (.im (!decide (x = y))) := ev_opv ha hb fun R H v w sm rv rw => ⟨.bl _, rfl, fun Q q =>
  .inr (rNeD_of (Rp.mono sm rv) (Rp.mono sm rw) hd (by rw [eqv_dec]; exact q))⟩
theorem ev_eqL {x y : List Int} (ha : Ev c Γ ta (.im x)) (hb : Ev c Γ tb (.im y)) : Ev c Γ (tOp (gEq c.Z.K) ta tb) (.im (decide (x = y))) := ev_eqD ha hb (by decide)
theorem ev_neL {x y : List Int} (ha : Ev c Γ ta (.im x)) (hb : Ev c Γ tb (.im y)) : Ev c Γ (tOp (gNe c.Z.K) ta tb) (.im (!decide (x = y))) := ev_neD ha hb (by decide)
theorem ev_eqLL {x y : List (List Int)} (ha : Ev c Γ ta (.im x)) (hb : Ev c Γ tb (.im y)) : Ev c Γ (tOp (gEq c.Z.K) ta tb) (.im (decide (x = y))) := ev_eqD ha hb (by decide)
theorem ev_neLL {x y : List (List Int)} (ha : Ev c Γ ta (.im x)) (hb : Ev c Γ tb (.im y)) : Ev c Γ (tOp (gNe c.Z.K) ta tb) (.im (!decide (x = y))) := ev_neD ha hb (by decide)
theorem ev_eqP {x y : Int × Int} (ha : Ev c Γ ta (.im x)) (hb : Ev c Γ tb (.im y)) : Ev c Γ (tOp (gEq c.Z.K) ta tb) (.im (decide (x = y))) := ev_eqD ha hb (by decide)
theorem ev_neP {x y : Int × Int} (ha : Ev c Γ ta (.im x)) (hb : Ev c Γ tb (.im y)) : Ev c Γ (tOp (gNe c.Z.K) ta tb) (.im (!decide (x = y))) := ev_neD ha hb (by decide)
/-! calls whose answers are told by a set -/
/-- a statement, what holds between, the rest -/
theorem w_mid (M : List Sl → Prop) (h : W c Γ t ⟨M, P.rt, P.bk, P.ct⟩) (k : ∀ G, M G → W c G u P) : W c Γ (tSeq t u) P := w_seq (h.imp (fun G q => k G q) (fun _ q => q) (fun _ q => q) (fun _ q => q))
/-! written lists -/
def EvH {α : Type} (c : Cn) (Γ : List Sl) (_ : Rp α) (t : TA) (xs : List α) : Prop := EvA c Γ t (xs.map fun x => .im x)
theorem evh_nil {i : Rp α} : EvH c Γ i tNil ([] : List α) := ea_nil
theorem evh_cons {i : Rp α} {x : α} {xs : List α} {tr : TA} (h : Ev c Γ te (.im x)) (hr : EvH c Γ i tr xs) : EvH c Γ i (tCons te tr) (x :: xs) := ea_cons h hr
theorem ev_lstH {i : Rp α} {xs : List α} {t : TA} (h : EvH c Γ i t xs) (hl : xs.length ≤ 1000) : Ev c Γ (tLst t) (.ol xs) := ev_lst xs h hl
/-! isinstance -/
theorem ev_isi {_ : Rp α} {x : α} (n m : String) (b : Bool) (ha : Ev c Γ ta (.im x)) (ht : ∀ R H v, Same R H → Rp.rp c.Z R v x → TyX c.Z.K H v (.type m)) (hk : kitB m n = some b) : Ev c Γ (tCB (rIsi c.Z.K) (tCons ta (tCons (tC (.ty n)) tNil))) (.im b) := fun B R0 R H ρ Δ σ S Q q xk => ha B R0 R H ρ Δ σ S _ (fun v R1 H1 S1 =>
  ⟨v, .ty n, .type m, .type n, b, rfl, .ty n, ht R1 H1 v (sx_same S1) (sx_top' S1), kit_ty hk, q _ R1 H1 (sx_push (sx_pop S1) rfl)⟩) xk
theorem ev_isiII {x : Int} (ha : Ev c Γ ta (.im x)) : Ev c Γ (tCB (rIsi c.Z.K) (tCons ta (tCons (tC (.ty "int")) tNil))) (.im true) := ev_isi "int" "int" true ha (fun R H v _ h => by cases h; exact .base (.int _)) (by decide +kernel)
theorem ev_isiIB {x : Int} (ha : Ev c Γ ta (.im x)) : Ev c Γ (tCB (rIsi c.Z.K) (tCons ta (tCons (tC (.ty "bool")) tNil))) (.im false) := ev_isi "bool" "int" false ha (fun R H v _ h => by cases h; exact .base (.int _)) (by decide +kernel)
theorem ev_isiLL {_ : Rp α} {x : List α} (ha : Ev c Γ ta (.im x)) : Ev c Γ (tCB (rIsi c.Z.K) (tCons ta (tCons (tC (.ty "list")) tNil))) (.im true) := ev_isi "list" "list" true ha (fun R H v e h => by obtain ⟨a, vs, rfl, h2, _⟩ := h; exact .base (.lst (e _ _ h2))) (by decide +kernel)
theorem ev_isiTT {_ : Rp α} {_ : Rp β} {x : α × β} (ha : Ev c Γ ta (.im x)) : Ev c Γ (tCB (rIsi c.Z.K) (tCons ta (tCons (tC (.ty "tuple")) tNil))) (.im true) := ev_isi "tuple" "tuple" true ha (fun R H v e h => by obtain ⟨a, y, z, rfl, h2, _⟩ := h; exact .base (.tup (e _ _ h2))) (by decide +kernel)
/-! cuts of the script -/
theorem ev_sliceS {l : Scr} {t1 t2 : TO} {lo hi : Option Int} (ha : Ev c Γ ta (.im l)) (h1 : ∀ B R0 R H ρ Δ σ, Sx c.Z B R0 R H ρ Δ σ Γ → ∀ Q : Option Int → Hp → Prop, (∀ R' H', Sx c.Z B R0 R' H' ρ Δ σ Γ → Q lo H') → Xok c B R0 ρ Δ → t1 σ H Q)
    (h2 : ∀ B R0 R H ρ Δ σ, Sx c.Z B R0 R H ρ Δ σ Γ → ∀ Q : Option Int → Hp → Prop, (∀ R' H', Sx c.Z B R0 R' H' ρ Δ σ Γ → Q hi H') → Xok c B R0 ρ Δ → t2 σ H Q) :
    Ev c Γ (tSl (rSlL c.Z.K) ta t1 t2) (.ol ((l.l.drop (HT.sIx l.l.length 0 lo)).take (HT.sIx l.l.length l.l.length hi - HT.sIx l.l.length 0 lo))) := fun B R0 R H ρ Δ σ S Q q xk => ha B R0 R H ρ Δ σ S _ (fun v R1 H1 S1 =>
  h1 B R0 R1 H1 _ _ σ S1 _ (fun R2 H2 S2 => h2 B R0 R2 H2 _ _ σ S2 _ (fun R3 H3 S3 => by
    obtain ⟨a, rfl, ha3⟩ := sx_top' S3
    refine ⟨a, _, rfl, (sx_same S3).seq ha3, fun p np => ?_⟩
    unfold cutV
    rw [List.length_map, ← List.map_drop, ← List.map_take]
    exact q _ R3 _ (sx_newl (sx_pop S3) np (paired_of_int _))) xk.push1) xk.push1) xk
theorem ev_cutS {l : Scr} {lo hi : Int} (ha : Ev c Γ ta (.im l)) (h1 : Ev c Γ tb (.im lo)) (h2 : Ev c Γ te (.im hi)) (h0 : 0 ≤ lo) (h3 : 0 ≤ hi) : Ev c Γ (tSl (rSlL c.Z.K) ta (tPart tb) (tPart te)) (.ol ((l.l.take hi.toNat).drop lo.toNat)) := by
  refine ev_is (ev_sliceS ha (eo_some h1) (eo_some h2)) (congrArg Sl.ol ?_)
  rw [sIx_of h0, sIx_of h3, List.drop_take]
  apply List.ext_getElem?
  intro k
  simp only [List.getElem?_take, List.getElem?_drop]
  grind
/-! own lists in a row of appends: an own list is frozen and appended -/
theorem ev_cat {_ : Rp α} {xs ys : List α} (ha : Ev c Γ ta (.im xs)) (hb : Ev c Γ tb (.im ys)) (hl : xs.length + ys.length < 1000000) : Ev c Γ (tOp gAdd ta tb) (.ol (xs ++ ys)) := ev_op ha hb fun B R0 R H ρ Δ σ v w S rv rw Q q => by
  obtain ⟨a, vs, rfl, h2, h3⟩ := rv
  obtain ⟨b, ws, rfl, h5, h6⟩ := rw
  have l1 := Paired.length h3
  have l2 := Paired.length h6
  exact .inr ⟨a, b, vs, ws, rfl, rfl, sx_same S _ _ h2, sx_same S _ _ h5, Nat.le_trans (by omega : vs.length + ws.length ≤ 1000000) (by decide), fun p np => q _ R _ (sx_newl S np (paired_append h3 h6))⟩
theorem ev_rep {_ : Rp α} {xs : List α} {k : Int} (ha : Ev c Γ ta (.im xs)) (hb : Ev c Γ tb (.im k)) (h0 : 0 ≤ k) (hl : xs.length * k.toNat ≤ 1000000) (hk : k < 1000000) : Ev c Γ (tOp gMul ta tb) (.ol (List.replicate k.toNat xs).flatten) := ev_op ha hb fun B R0 R H ρ Δ σ v w S rv rw Q q => by
  obtain ⟨a, vs, rfl, h2, h3⟩ := rv
  have l1 := Paired.length h3
  refine .inr (.inl ⟨a, k, vs, rfl, rw, sx_same S _ _ h2, by omega, by omega, by rw [l1]; exact Nat.le_trans hl (by decide), fun p np => q _ R _ (sx_newl S np ?_)⟩)
  generalize k.toNat = n
  induction n with
  | zero => exact .nil
  | succ n ih => rw [List.replicate_succ, List.replicate_succ, List.flatten_cons, List.flatten_cons]; exact paired_append h3 ih
/-- a call whose answer is told -/
theorem ev_callN {T : Tm} {t : TA} {ss : List Sl} (ha : EvA c Γ t ss) (hT : T (ss ++ []) (fun s' => s' = s) fun r => c.ex r Γ) : Ev c Γ (tCallSD (spOf c.Z T) [] (WE c.X) t) s := ev_call ha (fun _ => .nil) hT
theorem ev_callN0 {T : Tm} {t : TA} {ss : List Sl} (ha : EvA c Γ t ss) (hT : T (ss ++ []) (fun s' => s' = s) fun _ => False) : Ev c Γ (tCall (spOf c.Z T) [] E0 t) s := ev_call0 ha (fun _ => .nil) hT
end
theorem cmulS {i j : Int} (h1 : -1000000000000000000 ≤ i) (h2 : i ≤ 1000000000000000000) (h3 : -1000000000000000000 ≤ j) (h4 : j ≤ 1000000000000000000) : CMulW i j := wide_mul (a := 64) (b := 64) (by omega) (by omega) (by decide) (by decide) (by decide)
/-! ### a law -/
def T_law : Tm := tm1 fun (l : Scr) ok _ => l.l.length ≤ 63 ∧ ok (.im true)
def spLaw (K : PySem.W.Frag) : Sp := fun vs H Q _ => ∃ (a : Addr) (ns : List Int), vs = [.ref a] ∧ SqL K H a (ns.map V.int) ∧ ns.length ≤ 63 ∧ ∀ H', Q (.bl true) H'
theorem law_imp {K : PySem.W.Frag} {cls : CN → Addr} {vs : List V} {H : Hp} {Q : VK} {E : XK} (h : spLaw K vs H Q E) : spOf ⟨K, cls⟩ T_law vs H Q E := by
  obtain ⟨a, ns, rfl, hS, hl, k⟩ := h
  refine ⟨H, [.im (⟨ns⟩ : Scr)], fun s => s = .im true, fun _ => False, Same.refl _, .cons ⟨a, rfl, hS⟩ .nil, ⟨⟨ns⟩, rfl, hl, rfl⟩, fun v R' H' s S e => ?_, fun _ _ _ _ _ _ z => z.elim⟩
  subst e
  have : v = .bl true := sx_top' S
  subst this
  exact k H'
end TB

/-! TbL: own things lent to calls, frozen, own lists of own lists. -/
namespace TB
open PySem L2
/-! ### the frozen part and own things beside it -/
def frz (R H : Hp) (f : List Addr) : Hp := fun p => match R p with | some o => some o | none => if p ∈ f then H p else none
theorem frz_same {R H : Hp} {f : List Addr} : Same R (frz R H f) := fun b o e => by unfold frz; rw [e]
theorem frz_le {R H : Hp} {f : List Addr} (h : Same R H) : Same (frz R H f) H := fun b o e => by
  unfold frz at e
  cases q : R b with
  | some o2 =>
    rw [q] at e
    have e' : o2 = o := by simpa using e
    rw [← e']
    exact h b o2 q
  | none =>
    rw [q] at e
    simp only [] at e
    by_cases c : b ∈ f
    · rw [if_pos c] at e; exact e
    · rw [if_neg c] at e; cases e
theorem res_frz {R H : Hp} {f : List Addr} (h : Same R H) : Same (res H f) (frz R H f) := fun b o e => by
  obtain ⟨c, e2⟩ := res_some e
  unfold frz
  cases q : R b with
  | some o2 =>
    have := h b o2 q
    rw [e2] at this
    simpa using this.symm
  | none => simp only []; rw [if_pos c]; exact e2
theorem frz_in {R H : Hp} {f : List Addr} {p : Addr} {o : HO} (h : Same R H) (c : p ∈ f) (e : H p = some o) : frz R H f p = some o := res_frz h p o (by rw [res_in c]; exact e)
/-- a thing may be lent, or frozen, as data d -/
def Lnd (so : Sl) {α : Type} [Rp α] (d : α) : Prop := ∀ Z R H o f, Same R H → slok Z R H o so f → ∃ v, o = some v ∧ Rp.rp Z (frz R H f) v d
theorem lnd_ol {α : Type} [Rp α] {xs : List α} : Lnd (.ol xs) xs := fun Z R H o f sm h => by
  obtain ⟨p, vs, rfl, rfl, h3, h4⟩ := h
  exact ⟨_, rfl, p, vs, rfl, frz_in sm (by simp) h3, paired_mono (fun _ _ => Rp.mono frz_same) h4⟩
section
variable {Z : Zz} {B R0 R R' RL H H' : Hp} {τ ρ σ : List (Option V)} {Θ Δ Γ : List Sl} {s so : Sl} {o : Option V} {f own own' : List Addr} {α β γ : Type} {_ : Rp α} {_ : Rp β} {_ : Rp γ} {d : α}
/-! ### calls with things lent -/
/-- told without the frozen part -/
def Det (s : Sl) : Prop := ∀ Z R R' H o f, slok Z R H o s f → slok Z R' H o s f
theorem sx_callL (S : Sx Z B R0 R H ρ Δ σ Γ) (a : Same R RL) (hd : Det s) {v : V} (S2 : Sx Z H RL R' H' [some v] [s] [] []) : Sx Z B R0 R H' (some v :: ρ) (s :: Δ) σ Γ := by
  obtain ⟨hl, own, hs, es⟩ := S
  obtain ⟨_, own2, hs2, f, g, rfl, h1, h2⟩ := S2
  have hg : g = [] := h2
  subst hg
  rw [List.append_nil] at hs2
  have key : ∀ p ∈ own, H' p = H p ∧ p ∉ f := fun p hp => by
    have h3 := es_some es p hp
    obtain ⟨o, ho⟩ : ∃ o, H p = some o := by
      cases e : H p with
      | none => exact absurd e h3
      | some o => exact ⟨o, rfl⟩
    refine ⟨?_, fun hf => ?_⟩
    · rw [ho, hs2.bh p o ho]
    · exact h3 (hs2.ow p hf).2
  refine ⟨by simp [hl], f ++ own, ⟨hs.rh.trans hs2.bh, hs.bh.trans hs2.bh, hs.r0, hs.nw, fun p hp => ?_, ?_⟩, f, own, rfl, hd _ _ _ _ _ _ h1, es_mono (Same.refl _) (fun p hp => (key p hp).1) es⟩
  · rcases List.mem_append.mp hp with q | q
    · exact ⟨hs.rh.free (hs2.ow p q).2, hs.bh.free (hs2.ow p q).2⟩
    · exact hs.ow p q
  · rw [List.nodup_append]
    exact ⟨hs2.nd, hs.nd, fun a ha b hb e => (key b hb).2 (e ▸ ha)⟩
end
/-- data that need no heap -/
class Flt (α : Type) [Rp α] : Prop where
  fl : ∀ {Z : Zz} {H H' : Hp} {v : V} {d : α}, Rp.rp Z H v d → Rp.rp Z H' v d
instance : Flt Int := ⟨fun h => h⟩
instance : Flt Bool := ⟨fun h => h⟩
instance : Flt Unit := ⟨fun h => h⟩
instance : Flt Str := ⟨fun h => h⟩
instance {α : Type} [Rp α] [Flt α] : Flt (Option α) := ⟨fun {Z H H' v d} h => by
  cases d with
  | none => exact h
  | some x => exact Flt.fl (α := α) h⟩
theorem det_ol {α : Type} [Rp α] [Flt α] {xs : List α} : Det (.ol xs) := fun Z R R' H o f h => by
  obtain ⟨p, vs, h1, h2, h3, h4⟩ := h
  exact ⟨p, vs, h1, h2, h3, paired_mono (fun _ _ => Flt.fl) h4⟩
section
variable {c : Cn} {Γ : List Sl} {ta tb te tl : TE} {tt tc : TT} {t u : TS} {s so : Sl} {α β γ : Type} {_ : Rp α} {_ : Rp β} {_ : Rp γ} {P : Po} {d : α}
/-- arguments, some of them lent -/
def EvB (c : Cn) (Γ : List Sl) (t : TA) (ss : List Sl) : Prop := ∀ B R0 R H ρ Δ σ, Sx c.Z B R0 R H ρ Δ σ Γ → ∀ Q : List V → Hp → Prop, (∀ vs R' H' RL, Sx c.Z B R0 R' H' ρ Δ σ Γ → Same R' RL → Same RL H' → Slims c.Z RL vs ss → Q vs H') → Xok c B R0 ρ Δ → t σ H Q
theorem eb_nil : EvB c Γ tNil [] := fun B R0 R H ρ Δ σ S Q q _ => q [] R H R S (Same.refl _) (sx_same S) .nil
theorem eb_cons {d : α} {tr : TA} {ss : List Sl} (h : Ev c Γ te (.im d)) (hr : EvB c Γ tr ss) : EvB c Γ (tCons te tr) (.im d :: ss) := fun B R0 R H ρ Δ σ S Q q xk => h B R0 R H ρ Δ σ S _ (fun v R1 H1 S1 =>
  hr B R0 R1 H1 _ _ σ S1 _ (fun vs R2 H2 RL S2 a b sl => q (v :: vs) R2 H2 RL (sx_pop S2) a b (.cons (Rp.mono a (sx_top' S2)) sl)) xk.push1) xk
theorem eb_own {d : α} {i : Nat} {tr : TA} {ss : List Sl} (hL : Lnd so d) (e : Γ[i]? = some so) (hr : EvB c Γ tr ss) : EvB c Γ (tCons (tVar i) tr) (.im d :: ss) := fun B R0 R H ρ Δ σ S Q q xk => by
  obtain ⟨o, f, h1, h2⟩ := sx_slot S e
  obtain ⟨v, rfl, _⟩ := hL _ _ _ _ _ (sx_same S) h2
  refine ⟨v, h1, hr B R0 R H ρ Δ σ S _ (fun vs R2 H2 RL S2 a b sl => ?_) xk⟩
  obtain ⟨o2, f2, g1, g2⟩ := sx_slot S2 e
  rw [h1] at g1
  cases g1
  obtain ⟨v', e', rp⟩ := hL c.Z RL H2 _ f2 b (slok_mono a (fun _ _ => rfl) g2)
  cases e'
  exact q (v :: vs) R2 H2 (frz RL H2 f2) S2 (a.trans frz_same) (frz_le b) (.cons rp (slims_mono frz_same sl))
theorem ev_callL {T : Tm} {t : TA} {ss : List Sl} (ha : EvB c Γ t ss) (hd : Det s) (hT : T (ss ++ []) (fun s' => s' = s) fun r => c.ex r Γ) : Ev c Γ (tCallSD (spOf c.Z T) [] (WE c.X) t) s := fun B R0 R H ρ Δ σ S Q q xk => ha B R0 R H ρ Δ σ S _ (fun vs R1 H1 RL S1 a b sl => by
  refine ⟨RL, ss ++ [], _, _, b, slims_append sl .nil, hT, fun v R' H' s' S' e => ?_, fun r cls d H' e rx er => ?_⟩
  · subst e
    exact q v R1 H' (sx_callL S1 a hd S')
  · obtain ⟨R2, _, S2, rx2⟩ := sx_callX S1 e rx
    exact xk R2 H' σ Γ r cls d S2 rx2 er) xk
/-! ### == with a thing lent -/
end
/-! ### own lists of own lists -/
section
variable {Z : Zz} {B R0 R R' RL H H' : Hp} {τ ρ σ : List (Option V)} {Θ Δ Γ : List Sl} {s so : Sl} {o : Option V} {f own own' : List Addr} {α β γ : Type} {_ : Rp α} {_ : Rp β} {_ : Rp γ}
theorem set_same {τ : List (Option V)} {i : Nat} {o : Option V} (h2 : τ[i]? = some o) : τ.set i o = τ := by
  apply List.ext_getElem?
  intro j
  rw [List.getElem?_set]
  split
  · rename_i hj
    subst hj
    split
    · rw [h2]
    · rename_i hl
      rw [List.getElem?_eq_none (by omega)]
  · rfl
end
section
variable {c : Cn} {Γ : List Sl} {ta tb te tl : TE} {tt tc : TT} {t u : TS} {s so : Sl} {α β γ : Type} {_ : Rp α} {_ : Rp β} {_ : Rp γ} {P : Po} {d : α}
end
end TB
namespace TB
open PySem L2
section
variable {Z : Zz} {B R0 R R' RL H H' : Hp} {τ ρ σ : List (Option V)} {Θ Δ Γ : List Sl} {s so : Sl} {o : Option V} {f own own' : List Addr}
/-- slot i's thing is taken to the top -/
theorem sy_take (S : Sy Z B R0 R H τ Θ) {i : Nat} (e : Θ[i]? = some s) : ∃ o, τ[i]? = some o ∧ Sy Z B R0 R H (o :: τ) (s :: Θ.set i .un) := by
  obtain ⟨own, hs, es⟩ := S
  obtain ⟨o, g1, f, g2, h2, h3, h4, h6⟩ := es_at es e
  subst h3
  have h7 := h6 R H o .un [] (Same.refl _) (fun _ _ => rfl) rfl
  rw [set_same h2, List.append_nil] at h7
  refine ⟨o, h2, f ++ (g1 ++ g2), hs_sub hs (fun p hp => ?_) ?_, f, g1 ++ g2, rfl, h4, h7⟩
  · simp only [List.mem_append] at hp ⊢
    grind
  · have nd := hs.nd
    simp only [List.nodup_append, List.mem_append] at nd ⊢
    grind
theorem sx_take (S : Sx Z B R0 R H ρ Δ σ Γ) {i : Nat} (e : Γ[i]? = some s) : ∃ o, σ[i]? = some o ∧ Sx Z B R0 R H (o :: ρ) (s :: Δ) σ (Γ.set i .un) := by
  obtain ⟨h, S⟩ := S
  obtain ⟨o, h1, h2⟩ := sy_take S (i := ρ.length + i) (by rw [at_slot h]; exact e)
  rw [at_slot'] at h1
  rw [h, List.set_append_right _ _ (by omega), show Δ.length + i - Δ.length = i by omega] at h2
  exact ⟨o, h1, by simp [h], h2⟩
end
section
variable {c : Cn} {Γ : List Sl} {ta tb te tl : TE} {tt tc : TT} {t u : TS} {s so : Sl} {α β γ : Type} {_ : Rp α} {_ : Rp β} {_ : Rp γ} {P : Po} {d : α}
/-- a thing of some kind: a value stands there -/
def Val (s : Sl) : Prop := ∀ Z R H o f, slok Z R H o s f → ∃ v, o = some v
theorem val_ol {xs : List α} : Val (.ol xs) := fun _ _ _ _ _ ⟨p, _, _, h, _⟩ => ⟨_, h⟩
/-- an own thing is told -/
theorem w_retO {i : Nat} (hv : Val so) (e : Γ[i]? = some so) (k : P.rt so) : W c Γ (tRet (tVar i)) P := fun B R0 R H ρ Δ σ D S n r b kk x => by
  obtain ⟨o, h1, S2⟩ := sx_take S e
  obtain ⟨o2, f, h2, h3⟩ := sx_slot S e
  obtain ⟨v, rfl⟩ := hv _ _ _ _ _ h3
  rw [h1] at h2
  cases h2
  exact ⟨v, h1, r R H v so (sx_leave S2) k⟩
end
end TB
namespace TB
open PySem L2
section
variable {c : Cn} {Γ : List Sl} {ta tb te tl : TE} {tt tc : TT} {t u : TS} {s so : Sl} {α β γ : Type} {_ : Rp α} {_ : Rp β} {_ : Rp γ} {P : Po} {d : α}
/-- x, y = a, b -/
theorem w_par {x : α} {y : β} {i j : Nat} (ha : Ev c Γ ta (.im x)) (hb : Ev c Γ tb (.im y)) (k : P.nx ((Γ.set i (.im x)).set j (.im y))) : W c Γ (tPar i j (tCons ta (tCons tb tNil))) P := fun B R0 R H ρ Δ σ D S n r b kk xk =>
  (ea_cons ha (ea_cons hb ea_nil)) B R0 R H ρ Δ σ S _ (fun vs R1 H1 S1 sl => by
    cases sl with
    | cons r1 t1 =>
      cases t1 with
      | cons r2 t2 =>
        cases t2
        rename_i v w
        exact ⟨v, w, rfl, n R1 H1 _ _ (sx_asg (sx_push (sx_asg (sx_push S1 r1) i) r2) j) k⟩) xk
/-- xs.insert(i, y) -/
theorem w_ins {k : Nat} {xs : List α} {y : α} {i : Int} (e : Γ[k]? = some (.ol xs)) (hi : Ev c Γ ta (.im i)) (h : Ev c Γ te (.im y)) (h0 : 0 ≤ i) (h1 : i < 2 ^ 63) (hl : xs.length < 1000000) (kk : P.nx (Γ.set k (.ol (xs.take i.toNat ++ [y] ++ xs.drop i.toNat)))) : W c Γ (tDrop (tBM c.Z.K "list" gInsert (tVar k) (tCons ta (tCons te tNil)))) P := fun B R0 R H ρ Δ σ D S n r bb kk' x => by
  obtain ⟨p, vs, h2, h3, h4, _⟩ := sx_mutl S e
  refine ⟨.ref p, h2, tyL h3, (ea_cons hi (ea_cons h ea_nil)) B R0 R H ρ Δ σ S _ (fun ws R1 H1 S1 sl => ?_) x⟩
  cases sl with
  | cons r1 t1 =>
    cases t1 with
    | cons r2 t2 =>
      cases t2
      rename_i v w
      obtain ⟨p', vs', h2', h3', h4', h5⟩ := sx_mutl S1 e
      rw [h2] at h2'
      cases h2'
      have hl' := Paired.length h4'
      have rv : v = .int i := r1
      subst rv
      exact ⟨p, vs', i, w, rfl, rfl, h3', Nat.lt_of_lt_of_le (by omega : vs'.length < 1000000) (by decide), h0, h1, n R1 _ _ _ (h5 _ _ (paired_append (paired_append (paired_take _ h4') (.cons r2 .nil)) (paired_drop _ h4'))) kk⟩
end
theorem irange_suc {n : Int} (h : 0 ≤ n) : irange (n + 1) = irange n ++ [n] := by
  unfold irange
  rw [show (n + 1).toNat = n.toNat + 1 by omega, List.range_succ, List.map_append, List.map_singleton, show ((n.toNat : Nat) : Int) = n by omega]
theorem irange_0 : irange 0 = [] := rfl
end TB
namespace TB
open PySem L2
section
variable {c : Cn} {Γ : List Sl} {ta tb te tl : TE} {tt tc : TT} {t u : TS} {s so : Sl} {α β γ : Type} {_ : Rp α} {_ : Rp β} {_ : Rp γ} {P : Po} {d : α}
end
end TB
namespace TB
open PySem L2
section
variable {Z : Zz} {B R0 R R' RL H H' : Hp} {τ ρ σ : List (Option V)} {Θ Δ Γ : List Sl} {s so : Sl} {o : Option V} {f own own' : List Addr}
end
section
variable {c : Cn} {Γ : List Sl} {ta tb te tl : TE} {tt tc : TT} {t u : TS} {s so : Sl} {α β γ : Type} {_ : Rp α} {_ : Rp β} {_ : Rp γ} {P : Po} {d : α}
end
end TB

/-! TbM: more rules. -/
namespace TB
open PySem L2
section
variable {c : Cn} {Γ : List Sl} {ta tb te tl : TE} {tt tc : TT} {t u : TS} {s so : Sl} {α β γ : Type} {_ : Rp α} {_ : Rp β} {_ : Rp γ} {P : Po} {d : α}
end
end TB

/-! TbW: methods of own classes, own classes made, where something may be raised. -/
namespace TB
open PySem PySem.Spec PyProof.Rows L2
section
variable {X : Cx} {CX : CXT} {k : Nat} {f C : Addr} {fd : FuncData} {ps : List Str} {sp : Sp} {dvs : List V} {ds : List Value} {E : L2.St → XK} {x m : Str} {p pos apos : Pos} {e o : Expr} {es : List Expr} {ta : TE} {t : TA}
def tMethSD (C : Addr) (m : Str) (sp : Sp) (dvs : List V) (E : L2.St → XK) (ta : TE) (t : TA) : TE := fun σ H Q => ta σ H fun v H1 => ∃ b d gs, v = .ref b ∧ H1 b = some (.ins C d gs) ∧ gs.lookup m = none ∧ t σ H1 fun ws H2 => sp (v :: (ws ++ dvs)) H2 Q (E σ)
theorem pe_methSD {pl : Sem Bool} (he : PE X o ta) (cl : Cls X.K C) (me : Meth X.K C m f) (F : FnOk X.prog X.w X.K X.mg X.base CX k f fd ps sp) (room : Room k X.A) (hb : Binds X.K fd ps ds) (hd : Vals dvs ds) (hx : ∀ σ, PassesAt CX X σ (E σ)) (args : PA X (e :: es) t)
    (st : starEach (e :: es) X.env = (false, eval e X.env) :: starEach es X.env := by rfl) (pn : (backTo pos (starEach es X.env)).any (·.1) = false := by rfl)
    (ev : eval (.Call (.Attribute o m apos) (e :: es) [] pos) X.env = (do
      let own ← eval o X.env
      standAt apos.atName
      let (fn, rest) ← holding [own] (getMethod own m pl)
      callWith pos fn rest (backTo pos (starEach (e :: es) X.env)) (backToKw pos (keywordEach [] X.env))) := by rfl) :
    PE X (.Call (.Attribute o m apos) (e :: es) [] pos) (tMethSD C m sp dvs E ta t) :=
  ⟨fun pins s σ H Q I h => PySem.W.methodCall_KW (pl := pl) (thn (he.run pins s σ H _ I h) fun u s1 ⟨v, H1, I1, rv, b, d, gs, ev1, eb, lk, q⟩ => by
    subst ev1
    cases (show u = Value.ref b from rv)
    refine getmeth_ok I1 eb cl me lk (PySem.W.callWith_K (first := [.ref b]) (h₀ := X.base) I.ok.mod.kin me.kp (thn (args.run pos pins s1 σ H1 _ I1 q) fun us s2 ⟨ws, H2, I2, rw2, q2⟩ => ⟨I2.kIn, ?_⟩) st pn)
    exact run_fnSD (us := .ref b :: us) (vs := .ref b :: ws) F room hb hd (hx σ) I2 (.cons rfl rw2) q2) ev⟩
def tMakeSD (C : Addr) (sp : Sp) (dvs : List V) (E : L2.St → XK) (t : TA) : TE := fun σ H Q => t σ H fun ws H1 => ∀ y d, H1 y = none → H1 d = none → d ≠ y →
  sp (.ref y :: (ws ++ dvs)) (upd (upd H1 d (.own y)) y (.ins C d [])) (fun v H2 => v = .non ∧ Q (.ref y) H2) fun cl x H2 => E σ cl x H2
theorem run_makeSD {pins : List (Addr × Obj)} {σ : L2.St} {H : Hp} {s : Shared} {Q : VK} {us : List Value} {vs : List V} (M : Mk X.K C f) (F : FnOk X.prog X.w X.K X.mg X.base CX k f fd ps sp) (room : Room (k + 1) X.A) (hb : Binds X.K fd ps ds) (hd : Vals dvs ds)
    (hx : PassesAt CX X σ (E σ)) (I : Inv X pins σ H s) (r : Vals vs us)
    (h : ∀ y d, H y = none → H d = none → d ≠ y → sp (.ref y :: (vs ++ dvs)) (upd (upd H d (.own y)) y (.ins C d [])) (fun v H2 => v = .non ∧ Q (.ref y) H2) (E σ)) :
    wpAny (model X.prog X.w) X.A (call (.ref C) us) (EP X pins σ Q) X.xe s := by
  have q1 := h (s.heap.objs.size + 1) s.heap.objs.size (I.hok.fresh (Nat.le_succ _)) (I.hok.fresh (Nat.le_refl _)) (Nat.ne_of_lt (Nat.lt_succ_self _))
  have J := Inv.made (C := C) I
  have rr : Vals (V.ref (s.heap.objs.size + 1) :: (vs ++ dvs)) (Value.ref (s.heap.objs.size + 1) :: (us ++ ds)) := .cons rfl (r.append hd)
  have ln : (Value.ref (s.heap.objs.size + 1) :: us ++ ds).length = ps.length := (rr.length.symm.trans (F.len _ _ _ _ q1))
  refine wpAny_call (make_map (f := f) I.kIn M.makes M.init (beq_iff_eq.mp M.fn) (codeAny_mono (F.run _ X.stack _ _ ⟨Value.ref (s.heap.objs.size + 1) :: us, []⟩ (Value.ref (s.heap.objs.size + 1) :: (us ++ ds)) _ _ (E σ) (room.make C us []) (J.env0.make C us []) (hb _ (Value.ref (s.heap.objs.size + 1) :: us) J.kIn ln) rr q1) fun o s2 q2 => ?_))
  match o, q2 with
  | .error e, q2 => exact hx pins _ _ e s2 J q2
  | .ok (.ret u), q2 =>
    obtain ⟨v, H', I3, rv, ev, q3⟩ := J.after q2
    subst ev
    exact ⟨rv, V.ref (s.heap.objs.size + 1), H', I3, rfl, q3⟩
theorem pe_makeSD (M : Mk X.K C f) (F : FnOk X.prog X.w X.K X.mg X.base CX k f fd ps sp) (room : Room (k + 1) X.A) (hg : Gl X x) (hm : X.mg x = some (.ref C)) (hb : Binds X.K fd ps ds) (hd : Vals dvs ds) (hx : ∀ σ, PassesAt CX X σ (E σ))
    (args : PA X (e :: es) t) (nd : (x == ("__debug__" : Str)) = false := by decide) (st : starEach (e :: es) X.env = (false, eval e X.env) :: starEach es X.env := by rfl) (pn : (backTo pos (starEach es X.env)).any (·.1) = false := by rfl) :
    PE X (.Call (.Name x p) (e :: es) [] pos) (tMakeSD C sp dvs E t) :=
  ⟨fun pins s σ H Q I h => wpAny_Call_Name_kw (ld_glob I hg hm (PySem.W.callWith_K (h₀ := X.base) I.ok.mod.kin M.kp (thn (args.run pos pins s σ H _ I h) fun us s1 ⟨ws, H1, I1, rw1, q⟩ => ⟨I1.kIn, run_makeSD M F room hb hd (hx σ) I1 rw1 q⟩) st pn) nd)⟩
end
end TB

/-! TbT: own trees: lists and tuples, one in another, all of this frame's own. -/
namespace TB
open PySem L2
inductive OT where
  | i (n : Int)
  | b (x : Bool)
  | z
  | l (xs : List OT)
  | t (xs : List OT)
mutual
def otR (h : Hp) : OT → V → List Addr → Prop
  | .i n, v, f => v = .int n ∧ f = []
  | .b x, v, f => v = .bl x ∧ f = []
  | .z, v, f => v = .non ∧ f = []
  | .l xs, v, f => ∃ a vs g, v = .ref a ∧ f = a :: g ∧ h a = some (.lst vs) ∧ otRs h xs vs g
  | .t xs, v, f => ∃ a vs g, v = .ref a ∧ f = a :: g ∧ h a = some (.tup vs) ∧ otRs h xs vs g
def otRs (h : Hp) : List OT → List V → List Addr → Prop
  | [], vs, f => vs = [] ∧ f = []
  | x :: xs, vs, f => ∃ v ws g1 g2, vs = v :: ws ∧ f = g1 ++ g2 ∧ otR h x v g1 ∧ otRs h xs ws g2
end
mutual
theorem otR_frame {h h' : Hp} : ∀ {T : OT} {v : V} {f : List Addr}, (∀ p ∈ f, h' p = h p) → otR h T v f → otR h' T v f
  | .i n, _, _, _, q => q
  | .b x, _, _, _, q => q
  | .z, _, _, _, q => q
  | .l xs, _, _, k, q => by
    obtain ⟨a, vs, g, e1, rfl, h1, h2⟩ := q
    exact ⟨a, vs, g, e1, rfl, by rw [k a (by simp)]; exact h1, otRs_frame (fun p hp => k p (by simp [hp])) h2⟩
  | .t xs, _, _, k, q => by
    obtain ⟨a, vs, g, e1, rfl, h1, h2⟩ := q
    exact ⟨a, vs, g, e1, rfl, by rw [k a (by simp)]; exact h1, otRs_frame (fun p hp => k p (by simp [hp])) h2⟩
theorem otRs_frame {h h' : Hp} : ∀ {Ts : List OT} {vs : List V} {f : List Addr}, (∀ p ∈ f, h' p = h p) → otRs h Ts vs f → otRs h' Ts vs f
  | [], _, _, _, q => q
  | x :: xs, _, _, k, q => by
    obtain ⟨v, ws, g1, g2, e1, rfl, h1, h2⟩ := q
    exact ⟨v, ws, g1, g2, e1, rfl, otR_frame (fun p hp => k p (by simp [hp])) h1, otRs_frame (fun p hp => k p (by simp [hp])) h2⟩
end
/-- one item, and the rest -/
theorem otRs_at {h : Hp} : ∀ {Ts : List OT} {vs : List V} {f : List Addr} {i : Nat} {T : OT}, otRs h Ts vs f → Ts[i]? = some T → ∃ v f1 g f2, vs[i]? = some v ∧ f = f1 ++ g ++ f2 ∧ otR h T v g ∧
    ∀ (h' : Hp) (T' : OT) (g' : List Addr), (∀ p ∈ f1 ++ f2, h' p = h p) → otR h' T' v g' → otRs h' (Ts.set i T') vs (f1 ++ g' ++ f2)
  | [], _, _, _, _, _, e => by simp at e
  | x :: xs, _, _, 0, T, q, e => by
    obtain ⟨v, ws, g1, g2, rfl, rfl, h1, h2⟩ := q
    have e' : x = T := by simpa using e
    subst e'
    exact ⟨v, [], g1, g2, rfl, by simp, h1, fun h' T' g' k r => ⟨v, ws, g', g2, rfl, by simp, r, otRs_frame (fun p hp => k p (by simp [hp])) h2⟩⟩
  | x :: xs, _, _, i + 1, T, q, e => by
    obtain ⟨v, ws, g1, g2, rfl, rfl, h1, h2⟩ := q
    obtain ⟨w, f1, g, f2, e1, rfl, h3, h4⟩ := otRs_at (i := i) (T := T) h2 (by simpa using e)
    refine ⟨w, g1 ++ f1, g, f2, by simpa using e1, by simp, h3, fun h' T' g' k r => ⟨v, ws, g1, f1 ++ g' ++ f2, rfl, by simp, otR_frame (fun p hp => k p (by simp [hp])) h1, h4 h' T' g' (fun p hp => k p (by simp at hp ⊢; rcases hp with q | q <;> simp [q])) r⟩⟩
end TB
namespace TB
open PySem L2
theorem otR_nd {h : Hp} : ∀ {T : OT} {v : V} {f : List Addr}, otR h T v f → ∀ p ∈ f, h p ≠ none := by
  intro T
  have key : (∀ (v : V) (f : List Addr), otR h T v f → ∀ p ∈ f, h p ≠ none) := by
    refine OT.rec (motive_1 := fun T => ∀ (v : V) (f : List Addr), otR h T v f → ∀ p ∈ f, h p ≠ none) (motive_2 := fun Ts => ∀ (vs : List V) (f : List Addr), otRs h Ts vs f → ∀ p ∈ f, h p ≠ none) ?_ ?_ ?_ ?_ ?_ ?_ ?_ T
    · rintro n v f ⟨_, rfl⟩ p hp; simp at hp
    · rintro n v f ⟨_, rfl⟩ p hp; simp at hp
    · rintro v f ⟨_, rfl⟩ p hp; simp at hp
    · rintro xs ih v f ⟨a, vs, g, _, rfl, h1, h2⟩ p hp
      rcases List.mem_cons.mp hp with rfl | hp
      · rw [h1]; simp
      · exact ih _ _ h2 p hp
    · rintro xs ih v f ⟨a, vs, g, _, rfl, h1, h2⟩ p hp
      rcases List.mem_cons.mp hp with rfl | hp
      · rw [h1]; simp
      · exact ih _ _ h2 p hp
    · rintro vs f ⟨_, rfl⟩ p hp; simp at hp
    · rintro x xs ih1 ih2 vs f ⟨v, ws, g1, g2, _, rfl, h1, h2⟩ p hp
      rcases List.mem_append.mp hp with hp | hp
      · exact ih1 _ _ h1 p hp
      · exact ih2 _ _ h2 p hp
  exact fun {v f} q => key v f q
/-- the tree as own objects -/
def Ot (T : OT) : Own := ⟨fun _ _ h v => ∃ f : List Addr, f.Nodup ∧ otR h T v f, fun _ h => h⟩
abbrev Sl.ot (T : OT) : Sl := .ow (Ot T)
theorem det_ot {T : OT} : Det (.ot T) := fun _ _ _ _ _ _ h => h
/-- s may be told as s' -/
def SubS (s s' : Sl) : Prop := ∀ Z R H o f, f.Nodup → slok Z R H o s f → ∃ f', f'.Nodup ∧ (∀ p ∈ f', p ∈ f) ∧ slok Z R H o s' f'
section
variable {Z : Zz} {B R0 R R' RL H H' : Hp} {τ ρ σ : List (Option V)} {Θ Δ Γ : List Sl} {s s' so : Sl} {o : Option V} {f own own' : List Addr} {α β γ : Type} {_ : Rp α} {_ : Rp β} {_ : Rp γ} {T U : OT}
/-- the own objects of one slot, and what may be made of them -/
theorem sx_own (S : Sx Z B R0 R H ρ Δ σ Γ) {i : Nat} (e : Γ[i]? = some s) : ∃ o f, σ[i]? = some o ∧ slok Z R H o s f ∧ f.Nodup ∧
    ∀ (H' : Hp) (s' : Sl) (f' : List Addr), (∀ p, p ∉ f → H' p = H p) → f'.Nodup → (∀ p ∈ f', p ∈ f) → slok Z R H' o s' f' → Sx Z B R0 R H' ρ Δ σ (Γ.set i s') := by
  obtain ⟨hl, own, hs, es⟩ := S
  have e' : (Δ ++ Γ)[ρ.length + i]? = some s := by rw [at_slot hl]; exact e
  obtain ⟨o, g1, f, g2, h2, h3, h4, h6⟩ := es_at es e'
  rw [at_slot'] at h2
  subst h3
  have nd := hs.nd
  refine ⟨o, f, h2, h4, by simp only [List.nodup_append] at nd; exact nd.1.2.1, fun H' s' f' k ndf sub h5 => ⟨hl, ?_⟩⟩
  have ne : ∀ q ∈ g1 ++ g2, q ∉ f := fun q hq z => by
    simp only [List.nodup_append, List.mem_append] at nd hq
    grind
  have h7 := h6 R H' o s' f' (Same.refl _) (fun q hq => k q (ne q hq)) h5
  have e2 : (ρ ++ σ).set (ρ.length + i) o = ρ ++ σ := set_same (by rw [at_slot']; exact h2)
  rw [e2, hl, List.set_append_right _ _ (by omega), show Δ.length + i - Δ.length = i by omega] at h7
  have out : ∀ p, (R p ≠ none ∨ B p ≠ none) → p ∉ f := fun p hp z => by
    have := hs.ow p (by simp [z])
    rcases hp with q | q
    · exact q this.1
    · exact q this.2
  refine ⟨_, ⟨fun p o a => by rw [k p (out p (.inl (by rw [a]; simp)))]; exact hs.rh _ _ a, fun p o a => by rw [k p (out p (.inr (by rw [a]; simp)))]; exact hs.bh _ _ a, hs.r0, hs.nw, fun p hp => hs.ow p ?_, ?_⟩, h7⟩
  · simp only [List.mem_append] at hp ⊢
    rcases hp with (hp | hp) | hp
    · exact .inl (.inl hp)
    · exact .inl (.inr (sub p hp))
    · exact .inr hp
  · simp only [List.nodup_append, List.mem_append] at nd ⊢
    grind
theorem sx_sub (h : SubS s s') (S : Sx Z B R0 R H ρ Δ σ Γ) {i : Nat} (e : Γ[i]? = some s) : Sx Z B R0 R H ρ Δ σ (Γ.set i s') := by
  obtain ⟨o, f, h1, h2, h3, h4⟩ := sx_own S e
  obtain ⟨f', h5, h6, h7⟩ := h Z R H o f h3 h2
  exact h4 H s' f' (fun _ _ => rfl) h5 h6 h7
/-- the top's own objects -/
theorem sx_ownTop (S : Sx Z B R0 R H (o :: ρ) (s :: Δ) σ Γ) : ∃ f, slok Z R H o s f ∧ f.Nodup ∧
    ∀ (H' : Hp) (o' : Option V) (s' : Sl) (f' : List Addr), (∀ p, p ∉ f → H' p = H p) → f'.Nodup → (∀ p ∈ f', p ∈ f) → slok Z R H' o' s' f' → Sx Z B R0 R H' (o' :: ρ) (s' :: Δ) σ Γ := by
  obtain ⟨hl, own, hs, f, g, rfl, h1, h2⟩ := S
  have nd := hs.nd
  refine ⟨f, h1, by simp only [List.nodup_append] at nd; exact nd.1, fun H' o' s' f' k ndf sub h5 => ⟨by simpa using hl, f' ++ g, ⟨fun p o a => ?_, fun p o a => ?_, hs.r0, hs.nw, fun p hp => hs.ow p ?_, ?_⟩, f', g, rfl, h5, es_mono (Same.refl _) (fun p hp => k p fun z => ?_) h2⟩⟩
  · rw [k p fun z => by have := (hs.ow p (by simp [z])).1; rw [a] at this; cases this]; exact hs.rh _ _ a
  · rw [k p fun z => by have := (hs.ow p (by simp [z])).2; rw [a] at this; cases this]; exact hs.bh _ _ a
  · simp only [List.mem_append] at hp ⊢
    rcases hp with hp | hp
    · exact .inl (sub p hp)
    · exact .inr hp
  · simp only [List.nodup_append] at nd ⊢
    exact ⟨ndf, nd.2.1, fun a ha b hb => nd.2.2 a (sub a ha) b hb⟩
  · simp only [List.nodup_append] at nd
    exact nd.2.2 p z p hp rfl
theorem sx_subTop (h : SubS s s') (S : Sx Z B R0 R H (o :: ρ) (s :: Δ) σ Γ) : Sx Z B R0 R H (o :: ρ) (s' :: Δ) σ Γ := by
  obtain ⟨f, h2, h3, h4⟩ := sx_ownTop S
  obtain ⟨f', h5, h6, h7⟩ := h Z R H o f h3 h2
  exact h4 H o s' f' (fun _ _ => rfl) h5 h6 h7
end
theorem slok_ot {Z : Zz} {R H : Hp} {v : V} {T : OT} {f : List Addr} (nd : f.Nodup) (h : otR H T v f) : slok Z R H (some v) (.ot T) f :=
  ⟨v, rfl, ⟨f, nd, otR_frame (fun p hp => res_in hp) h⟩, otR_nd h⟩
theorem slok_ot' {Z : Zz} {R H : Hp} {o : Option V} {T : OT} {f : List Addr} (h : slok Z R H o (.ot T) f) : ∃ v g, o = some v ∧ g.Nodup ∧ (∀ p ∈ g, p ∈ f) ∧ otR H T v g := by
  obtain ⟨v, h1, ⟨g, h2, h3⟩, h4⟩ := h
  have sub : ∀ p ∈ g, p ∈ f := fun p hp => by
    have := otR_nd h3 p hp
    unfold res at this
    by_cases c : p ∈ f
    · exact c
    · rw [if_neg c] at this; exact absurd rfl this
  exact ⟨v, g, h1, h2, sub, otR_frame (fun p hp => (res_in (sub p hp)).symm) h3⟩
theorem otRs_ints {h : Hp} : ∀ {xs : List Int} {vs : List V} {f : List Addr}, otRs h (xs.map OT.i) vs f ↔ vs = xs.map V.int ∧ f = []
  | [], vs, f => Iff.rfl
  | x :: xs, vs, f => by
    constructor
    · rintro ⟨v, ws, g1, g2, rfl, rfl, ⟨rfl, rfl⟩, h2⟩
      obtain ⟨rfl, rfl⟩ := otRs_ints.mp h2
      exact ⟨rfl, rfl⟩
    · rintro ⟨rfl, rfl⟩
      exact ⟨_, _, [], [], rfl, rfl, ⟨rfl, rfl⟩, otRs_ints.mpr ⟨rfl, rfl⟩⟩
abbrev oti (xs : List Int) : OT := .l (xs.map OT.i)
theorem otR_ints {h : Hp} {xs : List Int} {v : V} {f : List Addr} : otR h (oti xs) v f ↔ ∃ a, v = .ref a ∧ f = [a] ∧ h a = some (.lst (xs.map V.int)) := by
  constructor
  · rintro ⟨a, vs, g, rfl, rfl, h1, h2⟩
    obtain ⟨rfl, rfl⟩ := otRs_ints.mp h2
    exact ⟨a, rfl, rfl, h1⟩
  · rintro ⟨a, rfl, rfl, h1⟩
    exact ⟨a, _, [], rfl, rfl, h1, otRs_ints.mpr ⟨rfl, rfl⟩⟩
theorem sub_olT {xs : List Int} : SubS (.ol xs) (.ot (oti xs)) := fun Z R H o f nd h => by
  obtain ⟨p, vs, rfl, rfl, h3, h4⟩ := h
  have := paired_map_int h4
  subst this
  exact ⟨[p], nd, fun _ h => h, slok_ot nd (otR_ints.mpr ⟨p, rfl, rfl, h3⟩)⟩
theorem sub_Tol {xs : List Int} : SubS (.ot (oti xs)) (.ol xs) := fun Z R H o f nd h => by
  obtain ⟨v, g, rfl, h2, h3, h4⟩ := slok_ot' h
  obtain ⟨a, rfl, rfl, h5⟩ := otR_ints.mp h4
  exact ⟨[a], h2, h3, a, _, rfl, rfl, h5, paired_of_int _⟩
end TB
namespace TB
open PySem L2
section
variable {c : Cn} {Γ : List Sl} {ta tb te tl ty : TE} {tt tc : TT} {t u : TS} {s s' so : Sl} {α β γ : Type} {_ : Rp α} {_ : Rp β} {_ : Rp γ} {P : Po} {d : α} {T U : OT}
theorem ev_subS (q : SubS s s') (h : Ev c Γ te s) : Ev c Γ te s' := fun B R0 R H ρ Δ σ S Q k x => h B R0 R H ρ Δ σ S Q (fun v R1 H1 S1 => k v R1 H1 (sx_subTop q S1)) x
theorem w_subS (i : Nat) (q : SubS s s') (e : Γ[i]? = some s) (h : W c (Γ.set i s') t P) : W c Γ t P := fun B R0 R H ρ Δ σ D S n r b kk x => h B R0 R H ρ Δ σ D (sx_sub q S e) n r b kk x
/-- an own tuple's (list's) item, the rest let go -/
theorem ev_otIxT {Ts : List OT} {k : Nat} {n : Int} (h : Ev c Γ te (.ot (.t Ts))) (e : Ts[k]? = some U) (hn : n = (k : Int)) : Ev c Γ (tOp (gIx c.Z.K) te (tC (.int n))) (.ot U) := fun B R0 R H ρ Δ σ S Q q x =>
  h B R0 R H ρ Δ σ S _ (fun v R1 H1 S1 => by
    obtain ⟨f, h1, h2, h3⟩ := sx_ownTop S1
    obtain ⟨v', g, e1, h4, h5, a, vs, g', rfl, rfl, h6, h7⟩ := slok_ot' h1
    cases e1
    obtain ⟨w, f1, g2, f2, h8, rfl, h9, _⟩ := otRs_at h7 e
    have hlt : k < vs.length := (List.getElem?_eq_some_iff.mp h8).1
    refine .inr (.inl ⟨a, vs, n, w, rfl, rfl, SqT.of h6, atI_of (by omega) (by omega) (by rw [hn]; simpa using h8), ?_⟩)
    have nd2 : g2.Nodup := by
      have := (List.nodup_cons.mp h4).2
      simp only [List.nodup_append] at this
      exact this.1.2.1
    exact q w R1 H1 (h3 H1 (some w) (.ot U) g2 (fun _ _ => rfl) nd2 (fun p hp => h5 p (by simp [hp])) (slok_ot nd2 h9))) x
end
end TB
namespace TB
open PySem L2
section
variable {c : Cn} {Γ : List Sl} {ta tb te tl ty : TE} {tt tc : TT} {t u : TS} {s s' so : Sl} {α β γ : Type} {_ : Rp α} {_ : Rp β} {_ : Rp γ} {P : Po} {d : α} {T U : OT}
/-- o.m(..) of a datum, things lent -/
theorem ev_methL {Tm' : Tm} {o : α} {C : Addr} {m : Str} {t : TA} {ss : List Sl} (h : Ev c Γ te (.im o)) (hm : ∀ R v, Rp.rp c.Z R v o → ∃ a dx fs, v = .ref a ∧ R a = some (.ins C dx fs) ∧ fs.lookup m = none) (ha : EvB c Γ t ss) (hd : Det s) (hT : Tm' (.im o :: (ss ++ [])) (fun s' => s' = s) fun r => c.ex r Γ) :
    Ev c Γ (tMethSD C m (spOf c.Z Tm') [] (WE c.X) te t) s := fun B R0 R H ρ Δ σ S Q q xk => h B R0 R H ρ Δ σ S _ (fun v R1 H1 S1 => by
  obtain ⟨a, dx, fs, rfl, h2, h3⟩ := hm R1 v (sx_top' S1)
  refine ⟨a, dx, fs, rfl, sx_same S1 _ _ h2, h3, ha B R0 R1 H1 _ _ σ S1 _ (fun vs R2 H2 RL S2 a2 b sl => ?_) xk.push1⟩
  refine ⟨RL, .im o :: (ss ++ []), _, _, b, .cons (Rp.mono a2 (sx_top' S2)) (slims_append sl .nil), hT, fun v R' H' s' S' e => ?_, fun r cls d H' e rx er => ?_⟩
  · subst e
    exact q v R2 H' (sx_pop2 (sx_callL S2 a2 hd S'))
  · obtain ⟨R3, _, S3, rx2⟩ := sx_callX (sx_pop S2) e rx
    exact xk R3 H' σ Γ r cls d S3 rx2 er) xk
theorem ev_methN {Tm' : Tm} {o : α} {C : Addr} {m : Str} {t : TA} {ss : List Sl} (h : Ev c Γ te (.im o)) (hm : ∀ R v, Rp.rp c.Z R v o → ∃ a dx fs, v = .ref a ∧ R a = some (.ins C dx fs) ∧ fs.lookup m = none) (ha : EvA c Γ t ss) (hT : Tm' (.im o :: (ss ++ [])) (fun s' => s' = s) fun r => c.ex r Γ) :
    Ev c Γ (tMethSD C m (spOf c.Z Tm') [] (WE c.X) te t) s := fun B R0 R H ρ Δ σ S Q q xk => h B R0 R H ρ Δ σ S _ (fun v R1 H1 S1 => by
  obtain ⟨a, dx, fs, rfl, h2, h3⟩ := hm R1 v (sx_top' S1)
  refine ⟨a, dx, fs, rfl, sx_same S1 _ _ h2, h3, ha B R0 R1 H1 _ _ σ S1 _ (fun vs R2 H2 S2 sl => ?_) xk.push1⟩
  refine ⟨R2, .im o :: (ss ++ []), _, _, sx_same S2, .cons (sx_top' S2) (slims_append sl .nil), hT, fun v R' H' s' S' e => ?_, fun r cls d H' e rx er => ?_⟩
  · subst e
    exact q v R' H' (sx_pop2 (sx_call S2 S'))
  · obtain ⟨R3, _, S3, rx2⟩ := sx_callX (sx_pop S2) e rx
    exact xk R3 H' σ Γ r cls d S3 rx2 er) xk
/-- two own things in a new tuple, told -/
theorem w_retTup2 {i j : Nat} {A B' : OT} (hi : Γ[i]? = some (.ot A)) (hj : Γ[j]? = some (.ot B')) (hij : i ≠ j) (k : P.rt (.ot (.t [A, B']))) : W c Γ (tRet (tTup (tCons (tVar i) (tCons (tVar j) tNil)))) P := fun B R0 R H ρ Δ σ D S n r b kk x => by
  obtain ⟨o2, e2, S1⟩ := sx_take S hj
  obtain ⟨o1, e1, S2⟩ := sx_take S1 (i := i) (by rw [List.getElem?_set_ne (Ne.symm hij)]; exact hi)
  obtain ⟨hl, own, hs, f, g, rfl, h1, f2, g2, rfl, h2, h3⟩ := sx_leave S2
  obtain ⟨v1, q1, rfl, nd1, sub1, t1⟩ := slok_ot' h1
  obtain ⟨v2, q2, rfl, nd2, sub2, t2⟩ := slok_ot' h2
  refine ⟨v1, e1, v2, e2, by show 2 ≤ sizeLine; decide, fun p np => ?_⟩
  have nin : ∀ q, H q ≠ none → q ≠ p := fun q hq z => hq (z ▸ np)
  have s1 := otR_nd t1
  have s2 := otR_nd t2
  have nd := hs.nd
  have fp := fresh_own (Z := c.Z) (τ := some v1 :: some v2 :: (ρ ++ [])) (Θ := .ot A :: .ot B' :: (Δ ++ [])) (own := f ++ (f2 ++ g2)) hs ⟨f, _, rfl, h1, f2, g2, rfl, h2, h3⟩ np
  refine r R (upd H p (.tup [v1, v2])) (.ref p) (.ot (.t [A, B'])) ⟨by simpa using hl, (p :: (q1 ++ q2)) ++ g2, ⟨hs.rh.trans (same_upd np), hs.bh.trans (same_upd np), hs.r0, hs.nw, fun b hb => ?_, ?_⟩, p :: (q1 ++ q2), g2, rfl, slok_ot ?_ ⟨p, _, _, rfl, rfl, upd_same, v1, _, q1, q2, rfl, rfl, otR_frame (fun b hb => upd_ne (nin b (s1 b hb))) t1, v2, _, q2, [], rfl, by simp, otR_frame (fun b hb => upd_ne (nin b (s2 b hb))) t2, rfl, rfl⟩, es_mono (Same.refl _) (fun b hb => upd_ne fun z => fp.2.2 (by subst z; simp [hb])) h3⟩ k
  · simp only [List.cons_append, List.mem_cons, List.mem_append] at hb
    rcases hb with rfl | (hb | hb) | hb
    · exact ⟨fp.1, fp.2.1⟩
    · exact hs.ow b (by simp [sub1 b hb])
    · exact hs.ow b (by simp [sub2 b hb])
    · exact hs.ow b (by simp [hb])
  · have := fp.2.2
    simp only [List.cons_append, List.nodup_cons, List.nodup_append, List.mem_append] at nd this ⊢
    grind
  · have := fp.2.2
    simp only [List.nodup_cons, List.nodup_append, List.mem_append] at nd this ⊢
    grind
end
end TB

local macro_rules | `(tactic| walk_at "nz") => `(tactic| try dsimp only [List.set_cons_zero, List.set_cons_succ, List.replicate, List.length_cons, List.length_nil, List.append_nil, List.cons_append, List.nil_append])
local macro_rules | `(tactic| walk_at "sd") => `(tactic| first | assumption | rfl | omega | (simp only [List.length_cons, List.length_nil]; omega) | skip)
local macro_rules | `(tactic| walk_at "ev1") => `(tactic| first
  | with_reducible exact TB.ev_int
  | with_reducible exact TB.ev_bl
  | with_reducible exact TB.ev_str
  | exact TB.ev_var rfl
  | with_reducible exact TB.ev_non
  | exact TB.ev_none
  | ((with_reducible apply TB.ev_add) <;> walk_at "ev")
  | ((with_reducible apply TB.ev_sub) <;> walk_at "ev")
  | ((with_reducible apply TB.ev_mul) <;> walk_at "ev")
  | ((with_reducible apply TB.ev_mod) <;> walk_at "ev")
  | ((with_reducible apply TB.ev_div) <;> walk_at "ev")
  | ((with_reducible apply TB.ev_pow) <;> walk_at "ev")
  | ((with_reducible apply TB.ev_neg) <;> walk_at "ev")
  | ((with_reducible apply TB.ev_lt) <;> walk_at "ev")
  | ((with_reducible apply TB.ev_le) <;> walk_at "ev")
  | ((with_reducible apply TB.ev_gt) <;> walk_at "ev")
  | ((with_reducible apply TB.ev_ge) <;> walk_at "ev")
  | ((with_reducible apply TB.ev_eqI) <;> walk_at "ev")
  | ((with_reducible apply TB.ev_neI) <;> walk_at "ev")
  | ((with_reducible apply TB.ev_eqL) <;> walk_at "ev")
  | ((with_reducible apply TB.ev_neL) <;> walk_at "ev")
  | ((with_reducible apply TB.ev_eqLL) <;> walk_at "ev")
  | ((with_reducible apply TB.ev_neLL) <;> walk_at "ev")
  | ((with_reducible apply TB.ev_eqP) <;> walk_at "ev")
  | ((with_reducible apply TB.ev_neP) <;> walk_at "ev")
  | ((with_reducible apply TB.ev_ix) <;> walk_at "ev")
  | ((with_reducible apply TB.ev_ixS) <;> walk_at "ev")
  | ((apply TB.ev_ixO rfl) <;> walk_at "ev")
  | ((with_reducible apply TB.ev_rows) <;> walk_at "ev")
  | ((with_reducible apply TB.ev_unit) <;> walk_at "ev")
  | ((with_reducible apply TB.ev_backs) <;> walk_at "ev")
  | ((with_reducible apply TB.ev_many) <;> walk_at "ev")
  | ((with_reducible apply TB.ev_len) <;> walk_at "ev")
  | ((with_reducible apply TB.ev_lenS) <;> walk_at "ev")
  | exact TB.ev_lenO rfl
  | ((with_reducible apply TB.ev_list) <;> walk_at "ev")
  | exact TB.ev_listO rfl
  | ((with_reducible apply TB.ev_sorted) <;> walk_at "ev")
  | ((with_reducible apply TB.ev_min2) <;> walk_at "ev")
  | ((with_reducible apply TB.ev_max2) <;> walk_at "ev")
  | ((with_reducible apply TB.ev_listRg) <;> walk_at "ev")
  | ((with_reducible apply TB.ev_isiII) <;> walk_at "ev")
  | ((with_reducible apply TB.ev_isiIB) <;> walk_at "ev")
  | ((with_reducible apply TB.ev_isiLL) <;> walk_at "ev")
  | ((with_reducible apply TB.ev_isiTT) <;> walk_at "ev")
  | ((with_reducible apply TB.ev_cut) <;> walk_at "ev")
  | ((with_reducible apply TB.ev_cutTo) <;> walk_at "ev")
  | ((with_reducible apply TB.ev_cutFrom) <;> walk_at "ev")
  | ((with_reducible apply TB.ev_cutS) <;> walk_at "ev")
  | ((with_reducible apply TB.ev_cat) <;> walk_at "ev")
  | ((with_reducible apply TB.ev_rep) <;> walk_at "ev")
  | ((with_reducible apply TB.ev_all rfl) <;> walk_at "ev")
  | ((with_reducible apply TB.ev_any rfl) <;> walk_at "ev")
  | ((with_reducible apply TB.ev_lstH) <;> walk_at "ev")
  | ((with_reducible apply TB.ev_fr) <;> walk_at "ev")
  | ((with_reducible apply TB.ev_andV) <;> walk_at "ev")
  | ((with_reducible apply TB.ev_orV) <;> walk_at "ev")
  | ((with_reducible apply TB.ev_notV) <;> walk_at "ev"))
local macro_rules | `(tactic| walk_at "et1") => `(tactic| first
  | with_reducible exact TB.et_yes
  | ((with_reducible apply TB.et_test) <;> walk_at "ev")
  | ((with_reducible apply TB.et_B) <;> walk_at "ev")
  | ((with_reducible apply TB.et_not) <;> walk_at "ev")
  | ((with_reducible apply TB.et_and) <;> walk_at "ev")
  | ((with_reducible apply TB.et_or) <;> walk_at "ev"))
local macro_rules | `(tactic| walk_at "ea1") => `(tactic| first
  | with_reducible exact TB.ea_nil
  | ((with_reducible apply TB.ea_cons) <;> walk_at "ev"))
local macro_rules | `(tactic| walk_at "eh1") => `(tactic| first
  | with_reducible exact TB.evh_nil
  | ((with_reducible apply TB.evh_cons) <;> walk_at "ev"))
local macro_rules | `(tactic| walk_at "ev") => `(tactic| first
  | ((with_reducible show TB.EvH _ _ _ _ _); walk_at "eh1")
  | ((with_reducible show TB.Ev _ _ _ _); walk_at "ev1")
  | ((with_reducible show TB.EvT _ _ _ _); walk_at "et1")
  | ((with_reducible show TB.EvA _ _ _ _); walk_at "ea1")
  | ((fail_if_success (with_reducible show TB.Ev _ _ _ _)); (fail_if_success (with_reducible show TB.EvH _ _ _ _ _)); (fail_if_success (with_reducible show TB.EvT _ _ _ _)); (fail_if_success (with_reducible show TB.EvA _ _ _ _)); (first | (intro hc_; walk_at "ev") | walk_at "sd")))
local macro_rules | `(tactic| walk_at "w") => `(tactic| first
  | (with_reducible apply TB.w_seq; walk_at "w")
  | (with_reducible apply TB.w_asg; (case' h => walk_at "ev"); (case' k => walk_at "nz"))
  | (with_reducible apply TB.w_ret; (case' h => walk_at "ev"))
  | (with_reducible apply TB.w_if; (case' h => walk_at "ev"); skip))

/-! ### shared -/
namespace TB
open PySem L2
def T_shared : Tm := tm2 fun (a b : Int) ok _ => ∃ x y : Nat, a = (x : Int) ∧ b = (y : Int) ∧ ok (.im ((Nat.gcd x y : Nat) : Int))
def t_shared (Z : Zz) (X : WX) : TS :=
  (tSeq (tWhile (tTest (tOp gGt (tVar 1) (tC (.int 0))))
  (tPar 0 1 (tCons (tVar 1) (tCons (tOp gMod (tVar 0) (tVar 1)) tNil))))
  (tRet (tVar 0)))
theorem w_shared (Z : Zz) (X : WX) (ss : List Sl) (ok : Sl → Prop) (er : Rf → Prop) (h : T_shared ss ok er) : WF Z X er (ss ++ List.replicate (2 - ss.length) .un) (t_shared Z X) ok := by
  obtain ⟨a, b, rfl, x, y, rfl, rfl, k⟩ := h
  show W _ [.im (x : Int), .im (y : Int)] _ _
  unfold t_shared
  refine w_seq (w_while (fun m G => ∃ x' : Nat, G = [.im (x' : Int), .im (m : Int)] ∧ Nat.gcd x' m = Nat.gcd x y) y ⟨x, rfl, rfl⟩ ?_)
  rintro m G ⟨x', rfl, e⟩
  refine ⟨_, et_test (ev_gt (ev_var rfl) ev_int), fun hb => ?_, fun hb => ?_⟩
  · simp at hb
    refine w_par (ev_var rfl) (ev_mod (ev_var rfl) (ev_var rfl) (by omega)) ⟨x' % m, Nat.mod_lt _ (by omega), m, ?_, ?_⟩
    · walk_at "nz"
      rw [Int.natCast_emod]
    · rw [← e, Nat.gcd_comm x' m, Nat.gcd_rec m x', Nat.gcd_comm]
  · simp at hb
    subst hb
    rw [Nat.gcd_zero_right] at e
    rw [← e] at k
    exact w_ret (ev_var rfl) k
end TB

/-! TbPoly: plain law: polynomials, what is left of a division, sums round a wheel. -/
namespace TB
open PySem L2
/-! ### what the program reckons -/
def subN (s : Int) (b : List Int) (at0 : Nat) (r : List Int) : Nat → List Int
  | 0 => r
  | k + 1 => let q := subN s b at0 r k; q.set (at0 + k) (gt q ((at0 + k : Nat) : Int) - s * gt b (k : Int))
def splitN (b : List Int) (many : Nat) : Nat → List Int → List Int → List Int × List Int
  | 0, f, r => (f, r)
  | n + 1, f, r => if many < r.length then splitN b many n (r.getLastD 0 :: f) (subN (r.getLastD 0) b (r.length - 1 - many) r.dropLast many) else (f, r)
def splitF (top b : List Int) : List Int × List Int := splitN b (b.length - 1) top.length [] top
def strN (k : Nat) (xs : List Int) : Nat → List Int
  | 0 => List.replicate (k * (xs.length - 1) + 1) 0
  | i + 1 => (strN k xs i).set (k * i) (gt xs (i : Int))
def stretchF (xs : List Int) (k : Int) : List Int := strN k.toNat xs xs.length
def stripC : Nat → Int → List Int → Int → List Int × Int
  | 0, _, f, r => (f, r)
  | n + 1, p, f, r => if r % p = 0 then stripC n p (stretchF f p) (r / p) else (f, r)
def cstep (p : Int) (s : List Int × Int) : List Int × Int := if s.2 % p = 0 then stripC 6 p (splitF (stretchF s.1 p) s.1).1 (s.2 / p) else s
def circN (m : Int) : Nat → List Int × Int
  | 0 => ([-1, 1], m)
  | i + 1 => cstep (2 + (i : Int)) (circN m i)
def circ (m : Int) : List Int := (circN m (m - 1).toNat).1
def stripF : Nat → Int → Int → Int
  | 0, _, r => r
  | n + 1, p, r => if r % p = 0 then stripF n p (r / p) else r
def primesN (m : Int) : Nat → List Int × Int
  | 0 => ([], m)
  | i + 1 => let s := primesN m i; (if s.2 % (2 + (i : Int)) = 0 then s.1 ++ [2 + (i : Int)] else s.1, stripF 6 (2 + (i : Int)) s.2)
def primesF (m : Int) : List Int := (primesN m (m - 1).toNat).1
def degF (m : Int) : Nat := ((irange m).filter fun k => (primesF m).all fun p => decide ((k + 1) % p ≠ 0)).length
/-! ### entries and lengths -/
theorem subN_len {s : Int} {b : List Int} {at0 : Nat} {r : List Int} : ∀ k, (subN s b at0 r k).length = r.length
  | 0 => rfl
  | k + 1 => by show ((subN s b at0 r k).set _ _).length = _; rw [List.length_set, subN_len k]
theorem subN_get {s : Int} {b : List Int} {at0 : Nat} {r : List Int} : ∀ (k i : Nat), at0 + k ≤ r.length → (subN s b at0 r k)[i]? = if at0 ≤ i ∧ i < at0 + k then (r[i]?).map fun x => x - s * gt b ((i - at0 : Nat) : Int) else r[i]?
  | 0, i, _ => by rw [if_neg (by omega)]; rfl
  | k + 1, i, h => by
    show ((subN s b at0 r k).set (at0 + k) _)[i]? = _
    have ih := subN_get (s := s) (b := b) (at0 := at0) (r := r) k i (by omega)
    have ih2 := subN_get (s := s) (b := b) (at0 := at0) (r := r) k (at0 + k) (by omega)
    rw [if_neg (by omega)] at ih2
    rw [List.getElem?_set, subN_len]
    by_cases e : at0 + k = i
    · subst e
      rw [if_pos rfl, if_pos (by omega), if_pos (by omega)]
      have hl : at0 + k < r.length := by omega
      rw [List.getElem?_eq_getElem hl]
      unfold gt
      rw [show ((at0 + k : Nat) : Int).toNat = at0 + k by omega, List.getD_eq_getElem?_getD, ih2, List.getElem?_eq_getElem hl, show at0 + k - at0 = k by omega]
      rfl
    · rw [if_neg e, ih]
      by_cases c : at0 ≤ i ∧ i < at0 + k
      · rw [if_pos c, if_pos (by omega)]
      · rw [if_neg c, if_neg (by omega)]
def Bd (n : Nat) (xs : List Int) : Prop := ∀ x ∈ xs, x.natAbs < 2 ^ n
theorem Bd.mono {n m : Nat} {xs : List Int} (h : Bd n xs) (l : n ≤ m) : Bd m xs := fun x hx => Nat.lt_of_lt_of_le (h x hx) (Nat.pow_le_pow_right (by omega) l)
theorem bd_sub {a b : Nat} {x s y : Int} (hx : x.natAbs < 2 ^ a) (hs : s.natAbs < 2 ^ a) (hy : y.natAbs < 2 ^ b) : (x - s * y).natAbs < 2 ^ (a + b + 1) := by
  have h1 : (s * y).natAbs < 2 ^ (a + b) := wide_lt hs hy
  have h2 : (2 : Nat) ^ a ≤ 2 ^ (a + b) := Nat.pow_le_pow_right (by omega) (by omega)
  have h3 : (2 : Nat) ^ (a + b + 1) = 2 ^ (a + b) + 2 ^ (a + b) := by rw [Nat.pow_succ]; omega
  omega
theorem gt_bd {n : Nat} {xs : List Int} (h : Bd n xs) (i : Int) : (gt xs i).natAbs < 2 ^ n := by
  unfold gt
  rw [List.getD_eq_getElem?_getD]
  cases e : xs[i.toNat]? with
  | none => exact Nat.pow_pos (by omega)
  | some x => exact h x (List.mem_of_getElem? e)
theorem subN_bd {a bb : Nat} {s : Int} {b : List Int} {at0 : Nat} {r : List Int} {k : Nat} (hk : at0 + k ≤ r.length) (hr : Bd a r) (hs : s.natAbs < 2 ^ a) (hb : Bd bb b) : Bd (a + bb + 1) (subN s b at0 r k) := fun x hx => by
  obtain ⟨i, hi⟩ := List.mem_iff_getElem?.mp hx
  rw [subN_get k i hk] at hi
  by_cases c : at0 ≤ i ∧ i < at0 + k
  · rw [if_pos c] at hi
    cases e : r[i]? with
    | none => rw [e] at hi; cases hi
    | some y =>
      rw [e] at hi
      have : y - s * gt b ((i - at0 : Nat) : Int) = x := by simpa using hi
      rw [← this]
      exact bd_sub (hr y (List.mem_of_getElem? e)) hs (gt_bd hb _)
  · rw [if_neg c] at hi
    exact (hr.mono (by omega)) x (List.mem_of_getElem? hi)
theorem splitN_len {b : List Int} {many : Nat} : ∀ (n : Nat) (f r : List Int), r.length ≤ n → (splitN b many n f r).2.length = min many r.length
  | 0, f, r, h => by show r.length = _; omega
  | n + 1, f, r, h => by
    unfold splitN
    by_cases c : many < r.length
    · rw [if_pos c, splitN_len n _ _ (by rw [subN_len, List.length_dropLast]; omega), subN_len, List.length_dropLast]
      omega
    · rw [if_neg c]
      show r.length = _
      omega
/-! ### sums round a wheel -/
def cyc (m : Int) : Int → List Int → Int → Int
  | _, [], _ => 0
  | o, x :: xs, j => (if (o - j) % m = 0 then x else 0) + cyc m (o + 1) xs j
section
variable {m : Int}
theorem cyc_append : ∀ (o : Int) (xs ys : List Int) (j : Int), cyc m o (xs ++ ys) j = cyc m o xs j + cyc m (o + xs.length) ys j
  | o, [], ys, j => by simp [cyc]
  | o, x :: xs, ys, j => by
    show _ + cyc m (o + 1) (xs ++ ys) j = _ + cyc m (o + 1) xs j + _
    rw [cyc_append (o + 1) xs ys j, List.length_cons, show o + 1 + (xs.length : Int) = o + ((xs.length + 1 : Nat) : Int) by omega]
    omega
theorem cyc_one (o x j : Int) : cyc m o [x] j = if (o - j) % m = 0 then x else 0 := by simp [cyc]
theorem cyc_shift : ∀ (o d : Int) (xs : List Int) (j : Int), cyc m (o + d) xs j = cyc m o xs (j - d)
  | o, d, [], j => rfl
  | o, d, x :: xs, j => by
    show _ + cyc m (o + d + 1) xs j = _ + cyc m (o + 1) xs (j - d)
    rw [show o + d + 1 = o + 1 + d by omega, cyc_shift (o + 1) d xs j, show o + d - j = o - (j - d) by omega]
theorem cyc_per : ∀ (o : Int) (xs : List Int) (j k : Int), cyc m o xs (j + m * k) = cyc m o xs j
  | o, [], j, k => rfl
  | o, x :: xs, j, k => by
    show (if (o - (j + m * k)) % m = 0 then x else 0) + _ = (if (o - j) % m = 0 then x else 0) + _
    rw [cyc_per (o + 1) xs j k, show o - (j + m * k) = o - j + m * (-k) by rw [Int.mul_neg]; omega, Int.add_mul_emod_self_left]
theorem cyc_set : ∀ (o : Int) (xs : List Int) (i : Nat) (v j : Int), i < xs.length → cyc m o (xs.set i v) j = cyc m o xs j + if (o + i - j) % m = 0 then v - gt xs (i : Int) else 0
  | o, [], i, v, j, h => by simp at h
  | o, x :: xs, 0, v, j, h => by
    show (if (o - j) % m = 0 then v else 0) + _ = (if (o - j) % m = 0 then x else 0) + _ + _
    have : gt (x :: xs) ((0 : Nat) : Int) = x := rfl
    rw [this, show o + ((0 : Nat) : Int) - j = o - j by omega]
    by_cases c : (o - j) % m = 0
    · simp only [c, if_true]; omega
    · simp only [c, if_false]; omega
  | o, x :: xs, i + 1, v, j, h => by
    show _ + cyc m (o + 1) (xs.set i v) j = _ + cyc m (o + 1) xs j + _
    rw [cyc_set (o + 1) xs i v j (by simpa using h), show o + 1 + (i : Int) - j = o + ((i + 1 : Nat) : Int) - j by omega]
    have : gt (x :: xs) ((i + 1 : Nat) : Int) = gt xs (i : Int) := rfl
    rw [this]
    omega
theorem cyc_zeros : ∀ (o : Int) (n : Nat) (j : Int), cyc m o (List.replicate n 0) j = 0
  | o, 0, j => rfl
  | o, n + 1, j => by
    rw [List.replicate_succ]
    show (if _ then (0 : Int) else 0) + cyc m (o + 1) (List.replicate n 0) j = 0
    rw [cyc_zeros (o + 1) n j]
    split <;> rfl
theorem take_snoc' {α : Type} [Rp α] {l : List α} {i : Nat} (h : i < l.length) : l.take (i + 1) = l.take i ++ [gt l (i : Int)] := by
  rw [take_snoc h, gt_nat h]
theorem cyc_subN {s : Int} {b : List Int} {at0 : Nat} {r : List Int} (j : Int) : ∀ k, k ≤ b.length → at0 + k ≤ r.length → cyc m 0 (subN s b at0 r k) j = cyc m 0 r j - s * cyc m at0 (b.take k) j
  | 0, _, _ => by simp [subN, cyc]
  | k + 1, h1, h2 => by
    show cyc m 0 ((subN s b at0 r k).set (at0 + k) _) j = _
    rw [cyc_set _ _ _ _ _ (by rw [subN_len]; omega), cyc_subN j k (by omega) (by omega), take_snoc' (by omega : k < b.length), cyc_append, cyc_one, List.length_take, Int.mul_add]
    rw [show ((min k b.length : Nat) : Int) = (k : Int) by omega, show (0 : Int) + ((at0 + k : Nat) : Int) - j = (at0 : Int) + k - j by omega]
    by_cases c : ((at0 : Int) + k - j) % m = 0
    · simp only [c, if_true]; omega
    · simp only [c, if_false]; omega
end
/-! ### less a turn for each prime -/
def dif (m : Int) : List Int → (Int → Int) → Int → Int
  | [], f, j => f j
  | p :: ps, f, j => dif m ps (fun i => f i - f (i - m / p)) j
theorem dif_lin {m : Int} : ∀ (ps : List Int) (f g : Int → Int) (s : Int) (j : Int), dif m ps (fun i => f i - s * g i) j = dif m ps f j - s * dif m ps g j
  | [], f, g, s, j => rfl
  | p :: ps, f, g, s, j => by
    show dif m ps (fun i => (f i - s * g i) - (f (i - m / p) - s * g (i - m / p))) j = _
    have : (fun i => (f i - s * g i) - (f (i - m / p) - s * g (i - m / p))) = fun i => (f i - f (i - m / p)) - s * (g i - g (i - m / p)) := by
      funext i
      rw [Int.mul_sub]
      omega
    rw [this, dif_lin ps]
    rfl
theorem dif_turn {m : Int} : ∀ (ps : List Int) (f : Int → Int) (d j : Int), dif m ps (fun i => f (i - d)) j = dif m ps f (j - d)
  | [], f, d, j => rfl
  | p :: ps, f, d, j => by
    show dif m ps (fun i => f (i - d) - f (i - m / p - d)) j = dif m ps (fun i => f i - f (i - m / p)) (j - d)
    rw [← dif_turn ps (fun i => f i - f (i - m / p)) d j]
    congr 1
    funext i
    rw [show i - m / p - d = i - d - m / p by omega]
theorem dif_congr {m : Int} {ps : List Int} {f g : Int → Int} (h : ∀ i, f i = g i) (j : Int) : dif m ps f j = dif m ps g j := by
  rw [show f = g from funext h]
/-- the same number of the wheel: one sum less the other is nought all round -/
def SameN (m : Int) (f g : Int → Int) : Prop := ∀ j, dif m (primesF m) f j = dif m (primesF m) g j
theorem SameN.refl {m : Int} (f : Int → Int) : SameN m f f := fun _ => rfl
theorem SameN.trans {m : Int} {f g h : Int → Int} (a : SameN m f g) (b : SameN m g h) : SameN m f h := fun j => (a j).trans (b j)
theorem SameN.symm {m : Int} {f g : Int → Int} (a : SameN m f g) : SameN m g f := fun j => (a j).symm
theorem same_split {m : Int} {b : List Int} (hl : 1 ≤ b.length) (h1 : gt b ((b.length - 1 : Nat) : Int) = 1) (hb : ∀ j, dif m (primesF m) (cyc m 0 b) j = 0) : ∀ (n : Nat) (f r : List Int), SameN m (cyc m 0 (splitN b (b.length - 1) n f r).2) (cyc m 0 r)
  | 0, f, r => SameN.refl _
  | n + 1, f, r => by
    unfold splitN
    by_cases c : b.length - 1 < r.length
    · rw [if_pos c]
      refine (same_split hl h1 hb n _ _).trans fun j => ?_
      have hne : r ≠ [] := fun z => by rw [z] at c; simp at c
      have e1 : ∀ i, cyc m 0 (subN (r.getLastD 0) b (r.length - 1 - (b.length - 1)) r.dropLast (b.length - 1)) i = cyc m 0 r i - r.getLastD 0 * cyc m 0 b (i - ((r.length - 1 - (b.length - 1) : Nat) : Int)) := fun i => by
        rw [cyc_subN i _ (by omega) (by rw [List.length_dropLast]; omega), ← cyc_shift]
        have e2 : b = b.take (b.length - 1) ++ [1] := by
          have := take_snoc' (l := b) (i := b.length - 1) (by omega)
          rw [h1, show b.length - 1 + 1 = b.length by omega, List.take_length] at this
          exact this
        have e3 : r = r.dropLast ++ [r.getLastD 0] := by
          rw [List.getLastD_eq_getLast?, List.getLast?_eq_some_getLast hne]
          exact (List.dropLast_concat_getLast hne).symm
        have e4 : cyc m (0 + ((r.length - 1 - (b.length - 1) : Nat) : Int)) b i = cyc m ((r.length - 1 - (b.length - 1) : Nat) : Int) (b.take (b.length - 1)) i + if (((r.length : Int) - 1) - i) % m = 0 then 1 else 0 := by
          rw [Int.zero_add]
          have e6 : cyc m ((r.length - 1 - (b.length - 1) : Nat) : Int) b i = cyc m ((r.length - 1 - (b.length - 1) : Nat) : Int) (b.take (b.length - 1) ++ [1]) i := congrArg (fun z => cyc m ((r.length - 1 - (b.length - 1) : Nat) : Int) z i) e2
          rw [e6, cyc_append, cyc_one, List.length_take, show ((r.length - 1 - (b.length - 1) : Nat) : Int) + ((min (b.length - 1) b.length : Nat) : Int) = (r.length : Int) - 1 by omega]
        have e5 : cyc m 0 r i = cyc m 0 r.dropLast i + if (((r.length : Int) - 1) - i) % m = 0 then r.getLastD 0 else 0 := by
          have e6 : cyc m 0 r i = cyc m 0 (r.dropLast ++ [r.getLastD 0]) i := congrArg (fun z => cyc m 0 z i) e3
          rw [e6, cyc_append, cyc_one, List.length_dropLast, show (0 : Int) + ((r.length - 1 : Nat) : Int) = (r.length : Int) - 1 by omega]
        rw [e4, e5, Int.mul_add]
        by_cases q : ((r.length : Int) - 1 - i) % m = 0
        · simp only [q, if_true]; omega
        · simp only [q, if_false]; omega
      rw [dif_congr e1, dif_lin (primesF m) (cyc m 0 r) (fun i => cyc m 0 b (i - ((r.length - 1 - (b.length - 1) : Nat) : Int))) (r.getLastD 0) j, dif_turn, hb]
      omega
    · rw [if_neg c]
      exact SameN.refl _
end TB

/-! TbRing: what holds of the circles of 1 to 60, reckoned. -/
namespace TB
open PySem L2
/-! ### what holds of the circles of 1 to 60 -/
def okC (f : List Int) (r : Int) : Bool := decide (1 ≤ r) && decide (r ≤ 60) && decide (2 ≤ f.length) && decide (f.length ≤ 100) && f.all fun x => decide (x.natAbs < 1024)
def stripOk : Nat → Int → List Int → Int → Bool
  | 0, _, f, r => okC f r
  | n + 1, p, f, r => okC f r && (if r % p = 0 then stripOk n p (stretchF f p) (r / p) else true)
def cuS (p : Int) (s : List Int × Int) : List Int × Int := if s.2 % p = 0 then ((splitF (stretchF s.1 p) s.1).1, s.2 / p) else s
def circRun (m : Int) : Nat → (List Int × Int) × Bool
  | 0 => (([-1, 1], m), true)
  | i + 1 => let q := circRun m i
    let u := cuS (2 + (i : Int)) q.1
    (stripC 6 (2 + (i : Int)) u.1 u.2, q.2 && okC q.1.1 q.1.2 && stripOk 6 (2 + (i : Int)) u.1 u.2)
theorem stripC_no {n : Nat} {p : Int} {f : List Int} {r : Int} (h : ¬ r % p = 0) : stripC n p f r = (f, r) := by
  cases n with
  | zero => rfl
  | succ n => unfold stripC; rw [if_neg h]
theorem cstep_cu (p : Int) (s : List Int × Int) : stripC 6 p (cuS p s).1 (cuS p s).2 = cstep p s := by
  unfold cstep cuS
  by_cases c : s.2 % p = 0
  · simp only [if_pos c]
  · simp only [if_neg c]
    rw [stripC_no c]
theorem circRun_1 (m : Int) : ∀ i, (circRun m i).1 = circN m i
  | 0 => rfl
  | i + 1 => by
    show stripC 6 (2 + (i : Int)) (cuS (2 + (i : Int)) (circRun m i).1).1 (cuS (2 + (i : Int)) (circRun m i).1).2 = cstep (2 + (i : Int)) (circN m i)
    rw [circRun_1 m i, cstep_cu]
theorem circRun_ok (m : Int) : ∀ n i, (circRun m n).2 = true → i < n → okC (circN m i).1 (circN m i).2 = true ∧ stripOk 6 (2 + (i : Int)) (cuS (2 + (i : Int)) (circN m i)).1 (cuS (2 + (i : Int)) (circN m i)).2 = true
  | 0, _, _, h => by omega
  | n + 1, i, h, hi => by
    have h' : ((circRun m n).2 && okC (circRun m n).1.1 (circRun m n).1.2 && stripOk 6 (2 + (n : Int)) (cuS (2 + (n : Int)) (circRun m n).1).1 (cuS (2 + (n : Int)) (circRun m n).1).2) = true := h
    rw [circRun_1, Bool.and_eq_true, Bool.and_eq_true] at h'
    by_cases e : i = n
    · subst e
      exact ⟨h'.1.2, h'.2⟩
    · exact circRun_ok m n i h'.1.1 (by omega)
/-- the sums round the wheel, less a turn for each prime, as lists -/
def turnL (m : Int) (p : Int) (S : List Int) : List Int := (irange m).map fun k => gt S k - gt S (if 0 ≤ k - m / p then k - m / p else k - m / p + m)
def turnsL (m : Int) : List Int → List Int → List Int
  | [], S => S
  | p :: ps, S => turnsL m ps (turnL m p S)
def noughtL (m : Int) (xs : List Int) : Bool := (turnsL m (primesF m) ((irange m).map (cyc m 0 xs))).all fun x => decide (x = 0)
def ringOk (m : Int) : Bool := (circRun m (m - 1).toNat).2 && (let r := circ m
  decide (2 ≤ r.length) && decide ((r.length : Int) ≤ m + 1) && decide (gt r ((r.length - 1 : Nat) : Int) = 1) && r.all (fun x => decide (x.natAbs < 1024)) && noughtL m r && decide (degF m + 1 = r.length) && (primesF m).all fun p => decide (2 ≤ p) && decide (p ≤ m))
theorem rings_ok : (List.range 60).all (fun i => ringOk ((i : Int) + 1)) = true := by decide +kernel
theorem ring_ok {m : Int} (h1 : 1 ≤ m) (h2 : m ≤ 60) : ringOk m = true := by
  have := List.all_eq_true.mp rings_ok (m.toNat - 1) (by rw [List.mem_range]; omega)
  rw [show ((m.toNat - 1 : Nat) : Int) + 1 = m by omega] at this
  exact this
end TB

/-! TbGrp: groups as data: the product, what is in bounds. -/
namespace TB
open PySem L2
def mul (g : Grp) (a b : Int) : Int := gt (gt g.rows a) b
/-- rows and columns in bounds -/
structure GrpOk (g : Grp) : Prop where
  many : g.many = g.rows.length
  sq : ∀ r ∈ g.rows, r.length = g.rows.length
  bd : ∀ r ∈ g.rows, ∀ x ∈ r, 0 ≤ x ∧ x < g.rows.length
  un : 0 ≤ g.unit ∧ g.unit < g.rows.length
  bl : g.backs.length = g.rows.length
  bb : ∀ x ∈ g.backs, 0 ≤ x ∧ x < g.rows.length
  small : g.rows.length ≤ 23
def Th (g : Grp) (a : Int) : Prop := 0 ≤ a ∧ a < g.rows.length
theorem gt_mem {α : Type} [Rp α] {xs : List α} {i : Int} (h0 : 0 ≤ i) (h1 : i < xs.length) : gt xs i ∈ xs := List.mem_of_getElem? (gt_some h0 h1)
theorem GrpOk.row {g : Grp} (o : GrpOk g) {a : Int} (h : Th g a) : (gt g.rows a).length = g.rows.length := o.sq _ (gt_mem h.1 h.2)
theorem GrpOk.mul {g : Grp} (o : GrpOk g) {a b : Int} (h : Th g a) (k : Th g b) : Th g (mul g a b) := o.bd _ (gt_mem h.1 h.2) _ (gt_mem k.1 (by rw [o.row h]; exact k.2))
end TB
namespace TB
open PySem L2
/-! ### tables -/
abbrev Tbl := List (List Int)
def SizeOk (t : Tbl) : Prop := 1 ≤ t.length ∧ t.length ≤ 23 ∧ ∀ r ∈ t, r.length = t.length
/-- an entry -/
abbrev en (t : Tbl) (a b : Int) : Int := gt (gt t a) b
def NoStg (t : Tbl) : Prop := ∀ r ∈ t, ∀ x ∈ r, 0 ≤ x ∧ x < t.length
def IsUnit (t : Tbl) (e : Int) : Prop := ∀ a : Int, 0 ≤ a → a < t.length → en t e a = a ∧ en t a e = a
def IsBack (t : Tbl) (u a b : Int) : Prop := en t a b = u ∧ en t b a = u
structure FirstBack (t : Tbl) (u a b : Int) : Prop where
  b0 : 0 ≤ b
  b1 : b < t.length
  is : IsBack t u a b
  no : ∀ c, 0 ≤ c → c < b → ¬ IsBack t u a c
def Asc (t : Tbl) (a b c : Int) : Prop := en t (en t a b) c = en t a (en t b c)
def InT (t : Tbl) (a : Int) : Prop := 0 ≤ a ∧ a < t.length
def AllAsc (t : Tbl) : Prop := ∀ a b c, InT t a → InT t b → InT t c → Asc t a b c
end TB
namespace TB
open PySem L2
/-! ### the group of a table -/
instance (t : Tbl) (u a b : Int) : Decidable (IsBack t u a b) := inferInstanceAs (Decidable (_ ∧ _))
def bkf (t : Tbl) (u a : Int) : Int := ((irange t.length).find? fun b => decide (IsBack t u a b)).getD 0
theorem find_irange {n : Int} {p : Int → Bool} {b : Int} (h : (irange n).find? p = some b) : 0 ≤ b ∧ b < n ∧ p b = true ∧ ∀ c, 0 ≤ c → c < b → p c = false := by
  have hp := List.find?_some h
  have hm := List.mem_of_find?_eq_some h
  rw [mem_irange] at hm
  refine ⟨hm.1, hm.2, hp, fun c h0 h1 => ?_⟩
  rw [List.find?_eq_some_iff_getElem] at h
  obtain ⟨_, i, hi, e, hlt⟩ := h
  rw [irange_get] at e
  have hc : c.toNat < i := by omega
  have := hlt c.toNat hc
  rw [irange_get] at this
  rw [show ((c.toNat : Nat) : Int) = c by omega] at this
  simpa using this
theorem bkf_first {t : Tbl} {u a : Int} (h : ∃ b, InT t b ∧ IsBack t u a b) : FirstBack t u a (bkf t u a) := by
  obtain ⟨b, hb, hk⟩ := h
  unfold bkf
  cases e : (irange t.length).find? fun b => decide (IsBack t u a b) with
  | none =>
    rw [List.find?_eq_none] at e
    exact absurd (decide_eq_true hk) (e b (mem_irange.mpr hb))
  | some x =>
    obtain ⟨h0, h1, h2, h3⟩ := find_irange e
    exact ⟨h0, h1, of_decide_eq_true h2, fun c c0 c1 => of_decide_eq_false (h3 c c0 c1)⟩
def grpOf (t : Tbl) (u : Int) : Grp := ⟨t.length, t, u, (irange t.length).map (bkf t u)⟩
end TB
namespace TB
open PySem L2
/-- a table that is a group's, with its unit -/
structure GTbl (t : Tbl) (e : Int) : Prop where
  sz : SizeOk t
  ns : NoStg t
  he : InT t e
  un : IsUnit t e
  bk : ∀ a, InT t a → ∃ b, InT t b ∧ IsBack t e a b
  asc : AllAsc t
theorem GTbl.ok {t : Tbl} {e : Int} (h : GTbl t e) : GrpOk (grpOf t e) := by
  have hb : ∀ x ∈ (grpOf t e).backs, 0 ≤ x ∧ x < t.length := by
    intro x hx
    obtain ⟨a, ha, rfl⟩ := List.mem_map.mp hx
    rw [mem_irange] at ha
    have := bkf_first (h.bk a ha)
    exact ⟨this.b0, this.b1⟩
  exact ⟨rfl, h.sz.2.2, h.ns, h.he, by show ((irange t.length).map _).length = t.length; rw [List.length_map, irange_len]; omega, hb, h.sz.2.1⟩
end TB
namespace TB
open PySem L2
theorem gt_map {α : Type} [Rp α] {f : Int → α} {n i : Int} (h0 : 0 ≤ i) (h1 : i < n) : gt ((irange n).map f) i = f i := by
  have h2 : i.toNat < ((irange n).map f).length := by rw [List.length_map, irange_len]; omega
  unfold gt
  rw [getD_eq h2, List.getElem_map, irange_get, show ((i.toNat : Nat) : Int) = i by omega]
end TB
namespace TB
open PySem L2
end TB

/-! TbWh: wheels as data; more rules for lists. -/
namespace TB
open PySem L2
def Per (m : Int) (f : Int → Int) : Prop := ∀ j k, f (j + m * k) = f j
theorem per_cyc {m o : Int} {xs : List Int} : Per m (cyc m o xs) := fun j k => cyc_per o xs j k
theorem per_turn {m p : Int} {f : Int → Int} (h : Per m f) : Per m (fun i => f i - f (i - m / p)) := fun j k => by
  show f (j + m * k) - f (j + m * k - m / p) = _
  rw [h j k, show j + m * k - m / p = j - m / p + m * k by omega, h]
theorem turnL_map {m p : Int} {f : Int → Int} (hf : Per m f) (h1 : 1 ≤ m) (hp : 1 ≤ p) : turnL m p ((irange m).map f) = (irange m).map fun i => f i - f (i - m / p) := by
  unfold turnL
  refine List.map_congr_left fun k hk => ?_
  rw [mem_irange] at hk
  have h2 : 0 ≤ m / p := Int.ediv_nonneg (by omega) (by omega)
  have h3 : m / p ≤ m := Int.ediv_le_self _ (by omega)
  rw [gt_map hk.1 hk.2]
  by_cases c : 0 ≤ k - m / p
  · rw [if_pos c, gt_map c (by omega)]
  · rw [if_neg c, gt_map (by omega) (by omega), ← hf (k - m / p) 1, Int.mul_one]
theorem turnsL_map {m : Int} (h1 : 1 ≤ m) : ∀ (ps : List Int) (f : Int → Int), (∀ p ∈ ps, 1 ≤ p) → Per m f → turnsL m ps ((irange m).map f) = (irange m).map (dif m ps f)
  | [], f, _, _ => rfl
  | p :: ps, f, hp, hf => by
    show turnsL m ps (turnL m p _) = _
    rw [turnL_map hf h1 (hp p (by simp)), turnsL_map h1 ps _ (fun q hq => hp q (by simp [hq])) (per_turn hf)]
    rfl
theorem per_dif {m : Int} : ∀ (ps : List Int) {f : Int → Int}, Per m f → Per m (dif m ps f)
  | [], f, h => h
  | p :: ps, f, h => per_dif ps (per_turn h)
theorem per_all {m : Int} {f : Int → Int} (h : Per m f) (h1 : 1 ≤ m) (h0 : ∀ j, 0 ≤ j → j < m → f j = 0) : ∀ j, f j = 0 := fun j => by
  have q := h (j % m) (j / m)
  rw [Int.emod_add_mul_ediv] at q
  rw [q]
  exact h0 _ (Int.emod_nonneg _ (by omega)) (Int.emod_lt_of_pos _ (by omega))
structure RingF (m : Int) : Prop where
  run : (circRun m (m - 1).toNat).2 = true
  len : 2 ≤ (circ m).length
  le : ((circ m).length : Int) ≤ m + 1
  one : gt (circ m) (((circ m).length - 1 : Nat) : Int) = 1
  bd : Bd 10 (circ m)
  nou : ∀ j, dif m (primesF m) (cyc m 0 (circ m)) j = 0
  deg : degF m + 1 = (circ m).length
  pr : ∀ p ∈ primesF m, 2 ≤ p ∧ p ≤ m
theorem ringF {m : Int} (h1 : 1 ≤ m) (h2 : m ≤ 60) : RingF m := by
  have h := ring_ok h1 h2
  unfold ringOk at h
  simp only [Bool.and_eq_true, decide_eq_true_eq, List.all_eq_true] at h
  obtain ⟨a, ⟨⟨⟨⟨⟨b, c⟩, d⟩, e⟩, f⟩, g⟩, i⟩ := h
  refine ⟨a, b, c, d, fun x hx => by have := e x hx; exact Nat.lt_of_lt_of_le this (by decide), ?_, g, fun p hp => ⟨(i p hp).1, (i p hp).2⟩⟩
  unfold noughtL at f
  rw [turnsL_map h1 _ _ (fun p hp => by have := (i p hp).1; omega) per_cyc, List.all_eq_true] at f
  refine per_all (per_dif _ per_cyc) h1 fun j j0 j1 => ?_
  have := f (dif m (primesF m) (cyc m 0 (circ m)) j) (List.mem_map.mpr ⟨j, mem_irange.mpr ⟨j0, j1⟩, rfl⟩)
  simpa using this
/-- the lowest form -/
def lowF (m : Int) (cs : List Int) : List Int := (splitF ((irange m).map (cyc m 0 cs)) (circ m)).2
theorem cyc_map {m : Int} {f : Int → Int} (hf : Per m f) (h1 : 1 ≤ m) (j : Int) : cyc m 0 ((irange m).map f) j = f j := by
  have key : ∀ n : Nat, (n : Int) ≤ m → cyc m 0 ((irange n).map f) j = if j % m < n then f (j % m) else 0 := by
    intro n
    induction n with
    | zero =>
      intro _
      have := Int.emod_nonneg j (show m ≠ 0 by omega)
      rw [if_neg (by omega)]
      rfl
    | succ n ih =>
      intro hn
      have g := ih (by omega)
      rw [show ((n + 1 : Nat) : Int) = (n : Int) + 1 by omega, irange_suc (by omega), List.map_append, cyc_append, g, List.map_singleton, cyc_one, List.length_map, irange_len, show (0 : Int) + (((n : Int).toNat : Nat) : Int) = n by omega]
      have e1 := Int.emod_nonneg j (show m ≠ 0 by omega)
      by_cases c : j % m = n
      · rw [if_neg (by omega), if_pos (by rw [← c, Int.sub_emod, Int.emod_emod, Int.sub_self]; rfl), if_pos (by omega), c]
        omega
      · have c2 : ¬ ((n : Int) - j) % m = 0 := fun z => c (by
          have := Int.emod_emod_of_dvd ((n : Int) - j) (Int.dvd_refl m)
          obtain ⟨k, hk⟩ := Int.dvd_of_emod_eq_zero z
          rw [show j = (n : Int) + m * (-k) by rw [Int.mul_neg]; omega, Int.add_mul_emod_self_left]
          exact Int.emod_eq_of_lt (by omega) (by omega))
        rw [if_neg c2]
        by_cases c3 : j % m < n
        · rw [if_pos c3, if_pos (by omega)]; omega
        · rw [if_neg c3, if_neg (by omega)]; omega
  have := key m.toNat (by omega)
  rw [show ((m.toNat : Nat) : Int) = m by omega, if_pos (Int.emod_lt_of_pos _ (by omega))] at this
  rw [this]
  have q := hf (j % m) (j / m)
  rw [Int.emod_add_mul_ediv] at q
  exact q.symm
theorem lowF_len {m : Int} (h1 : 1 ≤ m) (h2 : m ≤ 60) (cs : List Int) : (lowF m cs).length = (circ m).length - 1 := by
  have r := ringF h1 h2
  have h3 := r.len
  have h4 := r.le
  unfold lowF splitF
  rw [splitN_len _ _ _ (Nat.le_refl _), List.length_map, irange_len]
  omega
theorem lowF_same {m : Int} (h1 : 1 ≤ m) (h2 : m ≤ 60) (cs : List Int) : SameN m (cyc m 0 (lowF m cs)) (cyc m 0 cs) := by
  have r := ringF h1 h2
  unfold lowF splitF
  refine (same_split (by have := r.len; omega) r.one r.nou _ _ _).trans fun j => dif_congr (fun i => cyc_map per_cyc h1 i) j
theorem set_map {m k v : Int} {f : Int → Int} (h0 : 0 ≤ k) (h1 : k < m) : ((irange m).map f).set k.toNat v = (irange m).map fun j => if j = k then v else f j := by
  refine List.ext_getElem (by simp) fun i hi1 hi2 => ?_
  rw [List.getElem_set, List.getElem_map, List.getElem_map]
  have hl : i < (irange m).length := by simpa using hi2
  rw [irange_get hl]
  by_cases c : k.toNat = i
  · rw [if_pos c, if_pos (by omega)]
  · rw [if_neg c, if_neg (by omega)]
theorem mod_iff {m a j : Int} (hm : 1 ≤ m) (j0 : 0 ≤ j) (j1 : j < m) : (a - j) % m = 0 ↔ j = a % m := by
  constructor
  · intro h
    obtain ⟨k, hk⟩ := Int.dvd_of_emod_eq_zero h
    rw [show a = j + m * k by omega, Int.add_mul_emod_self_left]
    exact (Int.emod_eq_of_lt j0 j1).symm
  · intro h
    rw [h, Int.sub_emod, Int.emod_emod, Int.sub_self]
    rfl
/-- one more put to a sum -/
theorem sum_put {m a x : Int} {f : Int → Int} (hm : 1 ≤ m) : ((irange m).map f).set (a % m).toNat (gt ((irange m).map f) (a % m) + x) = (irange m).map fun j => f j + if (a - j) % m = 0 then x else 0 := by
  have h0 := Int.emod_nonneg a (show m ≠ 0 by omega)
  have h1 := Int.emod_lt_of_pos a (show 0 < m by omega)
  rw [set_map h0 h1, gt_map h0 h1]
  refine List.map_congr_left fun j hj => ?_
  rw [mem_irange] at hj
  have := mod_iff (a := a) hm hj.1 hj.2
  by_cases c : j = a % m
  · rw [if_pos c, if_pos (this.mpr c), c]
  · rw [if_neg c, if_neg fun z => c (this.mp z)]
    omega
theorem cyc_bd {m : Int} {a : Nat} : ∀ {xs : List Int} {o : Int} (j : Int), Bd a xs → (cyc m o xs j).natAbs ≤ xs.length * 2 ^ a
  | [], _, j, _ => by simp [cyc]
  | x :: xs, o, j, h => by
    have ih := cyc_bd (m := m) (xs := xs) (o := o + 1) j fun y hy => h y (by simp [hy])
    have h2 := h x (by simp)
    show ((if (o - j) % m = 0 then x else 0) + cyc m (o + 1) xs j).natAbs ≤ _
    rw [List.length_cons, Nat.succ_mul]
    split <;> omega
theorem sums_bd {m : Int} {a k : Nat} {xs : List Int} (h : Bd a xs) (hl : xs.length < 2 ^ k) : Bd (a + k) ((irange m).map (cyc m 0 xs)) := fun x hx => by
  obtain ⟨j, _, rfl⟩ := List.mem_map.mp hx
  have h1 := cyc_bd (m := m) (o := 0) j h
  have h2 : xs.length * 2 ^ a < 2 ^ k * 2 ^ a := Nat.mul_lt_mul_of_pos_right hl (Nat.pow_pos (by omega))
  rw [Nat.add_comm, Nat.pow_add]
  omega
theorem zeros_map {n : Int} : (List.replicate n.toNat (0 : Int)) = (irange n).map fun _ => 0 := by
  rw [List.map_const', irange_len]
theorem flat_zero (n : Nat) : (List.replicate n [(0 : Int)]).flatten = List.replicate n 0 := by
  induction n with
  | zero => rfl
  | succ n ih => rw [List.replicate_succ, List.replicate_succ, List.flatten_cons, ih]; rfl
section
variable {c : Cn} {Γ : List Sl} {ta tb te tl ty : TE} {tt tc : TT} {t u : TS} {s s' so : Sl} {α β γ : Type} {_ : Rp α} {_ : Rp β} {_ : Rp γ} {P : Po} {d : α}
theorem ev_frI {xs : List Int} (h : Ev c Γ te (.ol xs)) : Ev c Γ te (.im xs) := ev_fr h
theorem ev_zeros {n : Int} (h : Ev c Γ te (.im n)) (h0 : 0 ≤ n) (hn : n < 1000000) : Ev c Γ (tOp gMul (tLst (tCons (tC (.int 0)) tNil)) te) (.ol (List.replicate n.toNat (0 : Int))) :=
  ev_is (ev_rep (xs := [(0 : Int)]) (ev_fr (ev_lstH (evh_cons ev_int evh_nil) (by decide))) h h0 (by show 1 * n.toNat ≤ 1000000; omega) hn) (by rw [flat_zero])
/-- xs[i] = y -/
theorem w_putG {k : Nat} {xs : List α} {y : α} {i : Int} (e : Γ[k]? = some (.ol xs)) (h : Ev c Γ te (.im y)) (hi : Ev c Γ tb (.im i)) (h0 : 0 ≤ i) (h1 : i < xs.length) (kk : P.nx (Γ.set k (.ol (xs.set i.toNat y)))) : W c Γ (tAsg te (gSub (tVar k) tb gSet)) P := fun B R0 R H ρ Δ σ D S n r bb kk' x =>
  h B R0 R H ρ Δ σ S _ (fun w R1 H1 S1 => by
    obtain ⟨p, vs, h2, h3, h4, _⟩ := sx_mutl (sx_pop S1) e
    refine ⟨.ref p, h2, hi B R0 R1 H1 _ _ σ S1 _ (fun z R2 H2 S2 => ?_) x.push1⟩
    have ez : z = .int i := sx_top' S2
    obtain ⟨p', vs', h2', h3', h4', h5⟩ := sx_mutl (sx_pop (sx_pop S2)) e
    have ep : p = p' := by
      rw [h2] at h2'
      cases h2'
      rfl
    subst ep
    exact .inl ⟨p, vs', i, i.toNat, rfl, ez, h3', ixN_of h0 (by rw [Paired.length h4']; exact h1), n R2 _ _ _ (h5 _ _ (paired_set (sx_top' (sx_pop S2)) _ h4')) kk⟩) x
/-- x = xs.pop() -/
theorem w_popA {i j : Nat} {xs : List α} (e : Γ[i]? = some (.ol xs)) (h : xs ≠ []) (k : P.nx ((Γ.set i (.ol xs.dropLast)).set j (.im (xs.getLastD Rp.df)))) : W c Γ (tAsg (tBM0 c.Z.K "list" rPop (tVar i)) (gName j)) P := fun B R0 R H ρ Δ σ D S n r bb kk x => by
  obtain ⟨p, vs, h2, h3, h4, h5⟩ := sx_mutl S e
  have hl := Paired.length h4
  have hl2 : 0 < xs.length := List.length_pos_iff.mpr h
  obtain ⟨v, hv, rv⟩ := paired_get h4 (i := xs.length - 1) (b := xs.getLastD Rp.df) (by rw [List.getLastD_eq_getLast?, List.getLast?_eq_getElem?, List.getElem?_eq_getElem (by omega)]; rfl)
  refine ⟨.ref p, h2, tyL h3, p, vs, v, rfl, rfl, h3, by rw [hl]; exact hv, n R _ _ _ (sx_asg (sx_push (h5 vs.dropLast xs.dropLast ?_) rv) j) k⟩
  rw [List.dropLast_eq_take, List.dropLast_eq_take, hl]
  exact paired_take _ h4
/-! ### wheels -/
end
structure Whl where
  ring : List Int
  spokes : Int
  size : Int
structure WhlC (Z : Zz) : Prop where
  cl : Cls Z.K (Z.cls .Wheel)
  n1 : NoAttr Z.K (Z.cls .Wheel) "ring"
  n2 : NoAttr Z.K (Z.cls .Wheel) "spokes"
  n3 : NoAttr Z.K (Z.cls .Wheel) "size"
def flW (r m z : V) : List (Str × V) := [("ring", r), ("spokes", m), ("size", z)]
instance : Rp Whl := ⟨⟨[], 0, 0⟩, fun Z H v g => WhlC Z ∧ ∃ a dx r m z, v = .ref a ∧ H a = some (.ins (Z.cls .Wheel) dx (flW r m z)) ∧ Rp.rp Z H r g.ring ∧ Rp.rp Z H m g.spokes ∧ Rp.rp Z H z g.size,
  fun e h => by
    obtain ⟨h0, a, dx, r, m, z, h1, h2, h3, h4, h5⟩ := h
    exact ⟨h0, a, dx, r, m, z, h1, e _ _ h2, Rp.mono e h3, Rp.mono e h4, Rp.mono e h5⟩⟩
theorem flW1 (r m z : V) : (flW r m z).lookup ("ring" : Str) = some r := lookup_here
theorem flW2 (r m z : V) : (flW r m z).lookup ("spokes" : Str) = some m := by
  unfold flW
  rw [lookup_at (by decide +kernel), lookup_here]
theorem flW3 (r m z : V) : (flW r m z).lookup ("size" : Str) = some z := by
  unfold flW
  rw [lookup_at (by decide +kernel), lookup_at (by decide +kernel), lookup_here]
def whl (m : Int) : Whl := ⟨circ m, m, ((circ m).length : Int) - 1⟩
section
variable {c : Cn} {Γ : List Sl} {ta tb te tl : TE} {g : Whl}
theorem ev_ring (h : Ev c Γ te (.im g)) : Ev c Γ (tFld c.Z.K te "ring") (.im g.ring) := ev_fld h fun R v ⟨h0, a, dx, r, m, z, h1, h2, h3, h4, h5⟩ => ⟨a, _, dx, _, r, h1, h2, h0.cl, h0.n1, flW1 .., h3⟩
theorem ev_spokes (h : Ev c Γ te (.im g)) : Ev c Γ (tFld c.Z.K te "spokes") (.im g.spokes) := ev_fld h fun R v ⟨h0, a, dx, r, m, z, h1, h2, h3, h4, h5⟩ => ⟨a, _, dx, _, m, h1, h2, h0.cl, h0.n2, flW2 .., h4⟩
theorem ev_sizeW (h : Ev c Γ te (.im g)) : Ev c Γ (tFld c.Z.K te "size") (.im g.size) := ev_fld h fun R v ⟨h0, a, dx, r, m, z, h1, h2, h3, h4, h5⟩ => ⟨a, _, dx, _, z, h1, h2, h0.cl, h0.n3, flW3 .., h5⟩
theorem whl_m {o : Whl} {m : Str} (hm : m ≠ "ring" ∧ m ≠ "spokes" ∧ m ≠ "size") {Z : Zz} : ∀ R v, Rp.rp Z R v o → ∃ a dx fs, v = .ref a ∧ R a = some (.ins (Z.cls .Wheel) dx fs) ∧ fs.lookup m = none := fun R v ⟨h0, a, dx, r, m', z, h1, h2, h3, h4, h5⟩ => ⟨a, dx, _, h1, h2, by
  unfold flW
  rw [lookup_at (Ne.symm hm.1), lookup_at (Ne.symm hm.2.1), lookup_at (Ne.symm hm.2.2)]
  rfl⟩
/-- Wheel.__init__ -/
def spI_Wheel (Z : Zz) : Sp := fun vs H Q E => ∃ x dx m, vs = [.ref x, .int m] ∧ H x = some (.ins (Z.cls .Wheel) dx []) ∧ WhlC Z ∧
  (1 ≤ m ∧ m ≤ 60 → ∀ H' p, H p = none → p ≠ x → H' p = some (.lst ((circ m).map V.int)) → H' x = some (.ins (Z.cls .Wheel) dx (flW (.ref p) (.int m) (.int (((circ m).length : Int) - 1)))) → (∀ b o, H b = some o → b ≠ x → H' b = some o) → Q .non H') ∧
  (¬ (1 ≤ m ∧ m ≤ 60) → ∀ H' cls d, Same H H' → RepEx Z H H' ⟨.BadWheel, []⟩ cls d → E cls d H')
theorem sx_newW {Z : Zz} {B R0 R H H' : Hp} {ρ σ : List (Option V)} {Δ : List Sl} {x dx p : Addr} {m : Int} (hZ : WhlC Z) (S : Sx Z B R0 R H ρ Δ σ Γ) (nx : H x = none) (ndx : H dx = none) (hne : dx ≠ x) (np : H p = none) (npx : p ≠ x)
    (e1 : H' p = some (.lst ((circ m).map V.int))) (e2 : H' x = some (.ins (Z.cls .Wheel) dx (flW (.ref p) (.int m) (.int (((circ m).length : Int) - 1))))) (e3 : ∀ b o, H b = some o → H' b = some o) : ∃ R', Sx Z B R0 R' H' (some (.ref x) :: ρ) (.im (whl m) :: Δ) σ Γ := by
  have sm := sx_same S
  have rx : R x = none := sm.free nx
  have rp : R p = none := sm.free np
  refine ⟨upd (upd R p (.lst ((circ m).map V.int))) x (.ins (Z.cls .Wheel) dx (flW (.ref p) (.int m) (.int (((circ m).length : Int) - 1)))), sx_call S ⟨rfl, [], ⟨fun b o e => ?_, e3, fun b o e => ?_, fun b o e => ?_, fun p hp => by simp at hp, List.nodup_nil⟩, [], [], rfl, ⟨rfl, _, rfl, hZ, x, dx, _, _, _, rfl, upd_same, ⟨p, (circ m).map V.int, rfl, by rw [upd_ne npx, upd_same], paired_of_int _⟩, rfl, rfl⟩, rfl⟩⟩
  · by_cases h1 : b = x
    · subst h1; rw [upd_same] at e; rw [← e]; exact e2
    · rw [upd_ne h1] at e
      by_cases h2 : b = p
      · subst h2; rw [upd_same] at e; rw [← e]; exact e1
      · rw [upd_ne h2] at e; exact e3 _ _ (sm _ _ e)
  · have b1 : b ≠ x := fun z => by subst z; rw [rx] at e; cases e
    have b2 : b ≠ p := fun z => by subst z; rw [rp] at e; cases e
    rw [upd_ne b1, upd_ne b2]
    exact e
  · by_cases h1 : b = x
    · subst h1; exact .inr nx
    · rw [upd_ne h1] at e
      by_cases h2 : b = p
      · subst h2; exact .inr np
      · rw [upd_ne h2] at e; exact .inl e
theorem ev_mkWheel {m : Int} {t : TA} (hZ : WhlC c.Z) (h1 : 1 ≤ m) (h2 : m ≤ 60) (ha : EvA c Γ t [.im m]) : Ev c Γ (tMakeSD (c.Z.cls .Wheel) (spI_Wheel c.Z) [] (WE c.X) t) (.im (whl m)) := fun B R0 R H ρ Δ σ S Q q xk =>
  ha B R0 R H ρ Δ σ S _ (fun vs R1 H1 S1 sl => by
    intro x dx nx ndx hne
    cases sl with
    | cons r1 t1 =>
      cases t1
      rename_i v1
      have e : v1 = .int m := r1
      subst e
      refine ⟨x, dx, m, rfl, upd_same, hZ, fun _ H' p np npx e1 e2 e3 => ⟨rfl, ?_⟩, fun z => absurd ⟨h1, h2⟩ z⟩
      have np' : H1 p = none := by
        rw [upd_ne npx] at np
        by_cases c' : p = dx
        · rw [c']; exact ndx
        · rw [upd_ne c'] at np; exact np
      obtain ⟨R', S'⟩ := sx_newW hZ S1 nx ndx hne np' npx e1 e2 fun b o e => by
        have b1 : b ≠ x := fun z => by subst z; rw [nx] at e; cases e
        have b2 : b ≠ dx := fun z => by subst z; rw [ndx] at e; cases e
        exact e3 b o (by rw [upd_ne b1, upd_ne b2]; exact e) b1
      exact q _ R' H' S') xk
end
end TB

/-! ### split -/
namespace TB
open PySem L2
--use TbPoly
--use TbWh
def T_split : Tm := tm2 fun (top b : List Int) ok _ => ∃ x y : Nat, Bd x top ∧ Bd y b ∧ 1 ≤ b.length ∧ top.length ≤ 10000 ∧ b.length ≤ 1000 ∧ x ≤ 100000 ∧ y ≤ 50 ∧ ok (.ot (.t [oti (splitF top b).1, oti (splitF top b).2]))
def t_split (Z : Zz) (X : WX) : TS :=
  (tSeq (tAsg (tCB (gList Z.K) (tCons (tVar 0) tNil)) (gName 2))
  (tSeq (tAsg (tOp gMns (tCB (gLen Z.K) (tCons (tVar 1) tNil)) (tC (.int 1))) (gName 3))
  (tSeq (tAsg (tLst tNil) (gName 4))
  (tSeq (tWhile (tTest (tOp gGt (tCB (gLen Z.K) (tCons (tVar 2) tNil)) (tVar 3)))
  (tSeq (tAsg (tBM0 Z.K "list" rPop (tVar 2)) (gName 5))
  (tSeq (tDrop (tBM Z.K "list" gInsert (tVar 4) (tCons (tC (.int 0)) (tCons (tVar 5) tNil))))
  (tFor (iRng1 (tCons (tVar 3) tNil)) (gName 6)
  (tAugS (tVar 2) (tOp gAdd (tOp gMns (tCB (gLen Z.K) (tCons (tVar 2) tNil)) (tVar 3)) (tVar 6)) (tOp gMul (tVar 5) (tOp (gIx Z.K) (tVar 1) (tVar 6))) (rIxL Z.K) (ipI fun i j => i - j) rSetL)))))
  (tRet (tTup (tCons (tVar 4) (tCons (tVar 2) tNil))))))))
theorem w_split (Z : Zz) (X : WX) (ss : List Sl) (ok : Sl → Prop) (er : Rf → Prop) (h : T_split ss ok er) : WF Z X er (ss ++ List.replicate (7 - ss.length) .un) (t_split Z X) ok := by
  obtain ⟨top, b, rfl, x, y, hx, hy, hb, hl, hl2, hx1, hy1, k⟩ := h
  show W _ [.im top, .im b, .un, .un, .un, .un, .un] _ _
  unfold t_split
  refine w_seq (w_asg (s := .ol top) (ev_list (ev_var rfl)) ?_)
  refine w_seq (w_asg (s := .im ((b.length : Int) - 1)) (ev_sub (ev_len (ev_var rfl)) ev_int) ?_)
  refine w_seq (w_asg (ev_nil (δ := Int)) ?_)
  walk_at "nz"
  refine w_mid (fun G => ∃ s5 s6, G = [.im top, .im b, .ol (splitF top b).2, .im ((b.length : Int) - 1), .ol (splitF top b).1, s5, s6]) ?_ ?_
  · refine w_while (fun m G => ∃ f r s5 s6, G = [.im top, .im b, .ol r, .im ((b.length : Int) - 1), .ol f, s5, s6] ∧ r.length = m ∧ m + f.length ≤ top.length ∧ splitN b (b.length - 1) m f r = splitF top b ∧ Bd (x + (top.length - m) * (y + 1)) r) top.length ⟨[], top, _, _, rfl, rfl, by simp, rfl, by simpa using hx⟩ ?_
    rintro m G ⟨f, r, s5, s6, rfl, hm, hfl, hs, hbd⟩
    refine ⟨decide ((b.length : Int) - 1 < r.length), et_test (ev_gt (ev_lenO rfl) (ev_var rfl)), fun hc => ?_, fun hc => ?_⟩
    · simp at hc
      have hne : r ≠ [] := fun z => by rw [z] at hc; simp at hc; omega
      obtain ⟨n, rfl⟩ : ∃ n, m = n + 1 := ⟨m - 1, by omega⟩
      rw [splitN, if_pos (by omega)] at hs
      refine w_seq (w_popA (xs := r) rfl hne ?_)
      walk_at "nz"
      have hd : (r.dropLast).length = n := by rw [List.length_dropLast]; omega
      have hsb : (r.getLastD 0).natAbs < 2 ^ (x + (top.length - (n + 1)) * (y + 1)) := hbd _ (by
        rw [List.getLastD_eq_getLast?, List.getLast?_eq_some_getLast hne]
        exact List.getLast_mem hne)
      have hdb : Bd (x + (top.length - (n + 1)) * (y + 1)) r.dropLast := fun z hz => hbd z (by rw [List.dropLast_eq_take] at hz; exact List.mem_of_mem_take hz)
      have hexp : x + (top.length - (n + 1)) * (y + 1) ≤ 100000 + 10000 * 51 := by
        have : (top.length - (n + 1)) * (y + 1) ≤ 10000 * 51 := Nat.mul_le_mul (by omega) (by omega)
        omega
      have hexp2 : x + (top.length - (n + 1)) * (y + 1) + y + 1 = x + (top.length - n) * (y + 1) := by
        have : top.length - n = top.length - (n + 1) + 1 := by omega
        rw [this, Nat.succ_mul]
        omega
      rw [show (Rp.df : Int) = 0 from rfl]
      generalize r.getLastD 0 = sh at hs hsb ⊢
      generalize r.dropLast = r' at hs hd hdb ⊢
      generalize x + (top.length - (n + 1)) * (y + 1) = ex at hsb hdb hexp hexp2
      refine w_seq (w_ins (xs := f) rfl ev_int (ev_var rfl) (by decide) (by decide) (by omega) ?_)
      walk_at "nz"
      rw [show (List.take (Int.toNat 0) f ++ [sh] ++ List.drop (Int.toNat 0) f) = sh :: f from rfl]
      refine w_forR (n := (b.length : Int) - 1) (fun i G => ∃ s6, G = [.im top, .im b, .ol (subN sh b (r.length - 1 - (b.length - 1)) r' i), .im ((b.length : Int) - 1), .ol (sh :: f), .im sh, s6]) (ev_var rfl) (by omega) (by omega) ⟨_, rfl⟩ ?_ ?_
      · rintro i G hi ⟨s6, rfl⟩
        walk_at "nz"
        have hq : Bd (ex + y + 1) (subN sh b (r.length - 1 - (b.length - 1)) r' i) := subN_bd (by omega) hdb hsb hy
        refine w_augs (K := Z.K) (xs := subN sh b (r.length - 1 - (b.length - 1)) r' i) (i := ((r.length - 1 - (b.length - 1) + i : Nat) : Int)) (y := sh * gt b (i : Int)) (fun _ _ _ _ h => h) rfl (ev_to (ev_add (ev_sub (ev_lenO rfl) (ev_var rfl)) (ev_var rfl)) ?_) (ev_mul (ev_var rfl) (ev_ix (ev_var rfl) (ev_var rfl) (by omega) (by omega)) (wide_mul (a := ex + 1) (b := y + 1) (Nat.lt_of_lt_of_le hsb (Nat.pow_le_pow_right (by omega) (by omega))) (Nat.lt_of_lt_of_le (gt_bd hy _) (Nat.pow_le_pow_right (by omega) (by omega))) (by omega) (by omega) (by omega))) (by omega) (by rw [subN_len]; omega) ?_
        · rw [subN_len]
          omega
        · walk_at "nz"
          exact ⟨_, rfl⟩
      · rintro G ⟨s6, rfl⟩
        refine ⟨n, by omega, _, _, _, _, rfl, by rw [subN_len]; exact hd, by simp only [List.length_cons]; omega, ?_, ?_⟩
        · rw [show ((b.length : Int) - 1).toNat = b.length - 1 by omega]
          exact hs
        · rw [← hexp2]
          exact subN_bd (by omega) hdb hsb hy
    · simp at hc
      refine ⟨s5, s6, ?_⟩
      have : splitN b (b.length - 1) m f r = (f, r) := by
        cases m with
        | zero => rfl
        | succ m => rw [splitN, if_neg (by omega)]
      rw [← hs, this]
  · rintro G ⟨s5, s6, rfl⟩
    refine w_subS 2 sub_olT rfl (w_subS 4 sub_olT rfl ?_)
    exact w_retTup2 rfl rfl (by decide) k
end TB

/-! ### stretched -/
namespace TB
open PySem L2
--use TbPoly
--use TbWh
def T_stretched : Tm := tm2 fun (xs : List Int) (m : Int) ok _ => 1 ≤ xs.length ∧ xs.length ≤ 1000 ∧ 1 ≤ m ∧ m ≤ 60 ∧ ok (.ol (stretchF xs m))
theorem strN_len (k : Nat) (xs : List Int) : ∀ i, (strN k xs i).length = k * (xs.length - 1) + 1
  | 0 => by simp [strN]
  | i + 1 => by show ((strN k xs i).set _ _).length = _; rw [List.length_set, strN_len k xs i]
def t_stretched (Z : Zz) (X : WX) : TS :=
  (tSeq (tAsg (tOp gMul (tLst (tCons (tC (.int 0)) tNil)) (tOp gAdd (tOp gMul (tVar 1) (tOp gMns (tCB (gLen Z.K) (tCons (tVar 0) tNil)) (tC (.int 1)))) (tC (.int 1)))) (gName 2))
  (tSeq (tFor (iEnum Z.K (tCons (tVar 0) tNil)) (gTup Z.K 2 (gCons (gName 3) (gCons (gName 4) gNil)))
  (tAsg (tVar 4) (gSub (tVar 2) (tOp gMul (tVar 1) (tVar 3)) gSet)))
  (tRet (tVar 2))))
theorem w_stretched (Z : Zz) (X : WX) (ss : List Sl) (ok : Sl → Prop) (er : Rf → Prop) (h : T_stretched ss ok er) : WF Z X er (ss ++ List.replicate (5 - ss.length) .un) (t_stretched Z X) ok := by
  obtain ⟨xs, m, rfl, h1, h2, h3, h4, k⟩ := h
  show W _ [.im xs, .im m, .un, .un, .un] _ _
  unfold t_stretched
  have hmul : m * ((xs.length : Int) - 1) ≤ 60 * 999 := by
    have a := Int.mul_le_mul_of_nonneg_right h4 (show 0 ≤ (xs.length : Int) - 1 by omega)
    omega
  have hmul0 : 0 ≤ m * ((xs.length : Int) - 1) := Int.mul_nonneg (by omega) (by omega)
  refine w_seq (w_asg (ev_zeros (n := m * ((xs.length : Int) - 1) + 1) (ev_add (ev_mul (ev_var rfl) (ev_sub (ev_len (ev_var rfl)) ev_int) (cmulS (by omega) (by omega) (by omega) (by omega))) ev_int) (by omega) (by omega)) ?_)
  walk_at "nz"
  have e0 : (m * ((xs.length : Int) - 1) + 1).toNat = m.toNat * (xs.length - 1) + 1 := by
    have : (m * ((xs.length : Int) - 1)) = ((m.toNat * (xs.length - 1) : Nat) : Int) := by
      rw [Int.natCast_mul, show ((m.toNat : Nat) : Int) = m by omega, show ((xs.length - 1 : Nat) : Int) = (xs.length : Int) - 1 by omega]
    omega
  rw [e0]
  refine w_seq (w_forE (xs := xs) (fun i G => ∃ s3 s4, G = [.im xs, .im m, .ol (strN m.toNat xs i), s3, s4]) (ev_var rfl) ⟨_, _, rfl⟩ ?_ ?_)
  · rintro i G hi ⟨s3, s4, rfl⟩
    walk_at "nz"
    have hb : m * (i : Int) ≤ m * ((xs.length : Int) - 1) := Int.mul_le_mul_of_nonneg_left (by omega) (by omega)
    have hb0 : 0 ≤ m * (i : Int) := Int.mul_nonneg (by omega) (by omega)
    have e1 : (m * (i : Int)).toNat = m.toNat * i := by
      have : m * (i : Int) = ((m.toNat * i : Nat) : Int) := by rw [Int.natCast_mul, show ((m.toNat : Nat) : Int) = m by omega]
      omega
    refine w_putG (xs := strN m.toNat xs i) rfl (ev_var rfl) (ev_mul (ev_var rfl) (ev_var rfl) (cmulS (by omega) (by omega) (by omega) (by omega))) hb0 ?_ ⟨.im (i : Int), .im xs[i], ?_⟩
    · rw [strN_len]
      omega
    · walk_at "nz"
      rw [e1, ← gt_nat hi]
      rfl
  · rintro G ⟨s3, s4, rfl⟩
    exact w_retO val_ol rfl k
end TB

/-! ### circle -/
namespace TB
open PySem L2
--use TbRing
--use TbWh
def T_circle : Tm := tm1 fun (m : Int) ok er => (1 ≤ m ∧ m ≤ 60 → ok (.ol (circ m))) ∧ (¬ (1 ≤ m ∧ m ≤ 60) → er ⟨.BadWheel, []⟩)
theorem okC_is {f : List Int} {r : Int} (h : okC f r = true) : 1 ≤ r ∧ r ≤ 60 ∧ 2 ≤ f.length ∧ f.length ≤ 100 ∧ Bd 10 f := by
  unfold okC at h
  simp only [Bool.and_eq_true, decide_eq_true_eq, List.all_eq_true] at h
  exact ⟨h.1.1.1.1, h.1.1.1.2, h.1.1.2, h.1.2, fun x hx => Nat.lt_of_lt_of_le (h.2 x hx) (by decide)⟩
theorem stripOk_is {n : Nat} {p : Int} {f : List Int} {r : Int} (h : stripOk n p f r = true) : okC f r = true := by
  cases n with
  | zero => exact h
  | succ n => unfold stripOk at h; rw [Bool.and_eq_true] at h; exact h.1
theorem strN_bd {k n : Nat} {xs : List Int} (h : Bd n xs) : ∀ i, Bd n (strN k xs i)
  | 0 => fun x hx => by
    have := List.eq_of_mem_replicate hx
    subst this
    exact Nat.pow_pos (by omega)
  | i + 1 => fun x hx => by
    rcases List.mem_or_eq_of_mem_set hx with q | q
    · exact strN_bd h i x q
    · rw [q]; exact gt_bd h _
def t_circle (Z : Zz) (X : WX) : TS :=
  (tSeq (tIfS (tOr (tTest (tOp gLt (tVar 0) (tC (.int 1)))) (tTest (tOp gGt (tVar 0) (tC (.int 60)))))
  (tRaise0 (Z.cls .BadWheel) X)
  tNext)
  (tSeq (tAsg (tLst (tCons (tUn uNeg (tC (.int 1))) (tCons (tC (.int 1)) tNil))) (gName 1))
  (tSeq (tAsg (tVar 0) (gName 2))
  (tSeq (tFor (iRng2 (tCons (tC (.int 2)) (tCons (tOp gAdd (tVar 0) (tC (.int 1))) tNil))) (gName 3)
  (tSeq (tIfS (tTest (tOp (gEq Z.K) (tOp gMod (tVar 2) (tVar 3)) (tC (.int 0))))
  (tSeq (tAsg (tOp (gIx Z.K) (tCallSD (spOf Z T_split) [] (WE X) (tCons (tCallSD (spOf Z T_stretched) [] (WE X) (tCons (tVar 1) (tCons (tVar 3) tNil))) (tCons (tVar 1) tNil))) (tC (.int 0))) (gName 1))
  (tAsg (tOp gDiv (tVar 2) (tVar 3)) (gName 2)))
  tNext)
  (tWhile (tTest (tOp (gEq Z.K) (tOp gMod (tVar 2) (tVar 3)) (tC (.int 0))))
  (tSeq (tAsg (tCallSD (spOf Z T_stretched) [] (WE X) (tCons (tVar 1) (tCons (tVar 3) tNil))) (gName 1))
  (tAsg (tOp gDiv (tVar 2) (tVar 3)) (gName 2))))))
  (tRet (tVar 1))))))
theorem w_circle (Z : Zz) (X : WX) (ss : List Sl) (ok : Sl → Prop) (er : Rf → Prop) (h : T_circle ss ok er) : WF Z X er (ss ++ List.replicate (4 - ss.length) .un) (t_circle Z X) ok := by
  obtain ⟨m, rfl, k, ke⟩ := h
  show W _ [.im m, .un, .un, .un] _ _
  unfold t_circle
  refine w_seq (w_if (b := decide (m < 1) || decide (60 < m)) (et_or (et_test (ev_lt (ev_var rfl) ev_int)) fun _ => et_test (ev_gt (ev_var rfl) ev_int)) (fun hb => ?_) (fun hb => w_next ?_))
  · simp at hb
    exact w_raise0 .BadWheel (ke (by omega))
  simp at hb
  have hm : 1 ≤ m ∧ m ≤ 60 := by omega
  have k := k hm
  have run := (ringF hm.1 hm.2).run
  refine w_seq (w_asg (s := .ol [(-1 : Int), 1]) (ev_lstH (evh_cons (ev_to (ev_neg ev_int) rfl) (evh_cons ev_int evh_nil)) (by decide)) ?_)
  refine w_seq (w_asg (ev_var rfl) ?_)
  walk_at "nz"
  refine w_seq (w_forR2 (m := 2) (n := m + 1) (fun i G => ∃ s3, G = [.im m, .ol (circN m i).1, .im (circN m i).2, s3]) ev_int (ev_add (ev_var rfl) ev_int) (by decide) (by omega) ⟨_, rfl⟩ ?_ ?_)
  · rintro i G hi ⟨s3, rfl⟩
    walk_at "nz"
    obtain ⟨q1, q2⟩ := circRun_ok m _ i run (by omega)
    have hp1 : 2 ≤ 2 + (i : Int) := by omega
    have hp2 : 2 + (i : Int) ≤ 60 := by omega
    have e1 : circN m (i + 1) = stripC 6 (2 + (i : Int)) (cuS (2 + (i : Int)) (circN m i)).1 (cuS (2 + (i : Int)) (circN m i)).2 := (cstep_cu _ _).symm
    rw [e1]
    generalize 2 + (i : Int) = p at hp1 hp2 q2 ⊢
    generalize circN m i = fr at q1 q2 ⊢
    obtain ⟨f, r⟩ := fr
    obtain ⟨r1, r2, f1, f2, f3⟩ := okC_is q1
    have r1 : 1 ≤ r := r1
    have r2 : r ≤ 60 := r2
    have f1 : 2 ≤ f.length := f1
    have f2 : f.length ≤ 100 := f2
    have stre : ∀ {G : List Sl} {g : List Int}, 2 ≤ g.length → g.length ≤ 100 → G[1]? = some (.ol g) → G[3]? = some (.im p) → Ev ⟨Z, X, fun r _ => er r⟩ G (tCallSD (spOf Z T_stretched) [] (WE X) (tCons (tVar 1) (tCons (tVar 3) tNil))) (.ol (stretchF g p)) := fun a1 a2 e1 e3 => ev_callL (c := ⟨Z, X, fun r _ => er r⟩) (eb_own lnd_ol e1 (eb_cons (ev_var e3) eb_nil)) det_ol ⟨_, _, rfl, by omega, by omega, by omega, by omega, rfl⟩
    refine w_mid (fun G => G = [.im m, .ol (cuS p (f, r)).1, .im (cuS p (f, r)).2, .im p]) ?_ ?_
    · refine w_if (b := decide (r % p = 0)) (et_test (ev_eqI (ev_mod (ev_var rfl) (ev_var rfl) (by omega)) ev_int)) (fun hb => ?_) (fun hb => w_next ?_)
      · simp at hb
        have hlen : (stretchF f p).length ≤ 10000 := by
          unfold stretchF
          rw [strN_len]
          have : p.toNat * (f.length - 1) ≤ 60 * 99 := Nat.mul_le_mul (by omega) (by omega)
          omega
        refine w_seq (w_asg (s := .ol (splitF (stretchF f p) f).1) (ev_subS sub_Tol (ev_otIxT (U := oti (splitF (stretchF f p) f).1) (k := 0) (ev_callL (eb_cons (ev_fr (stre f1 f2 rfl rfl)) (eb_own lnd_ol rfl eb_nil)) det_ot ⟨stretchF f p, f, rfl, 10, 10, strN_bd f3 _, f3, by omega, hlen, by omega, by omega, by omega, rfl⟩) rfl rfl)) ?_)
        refine w_asg (ev_div (ev_var rfl) (ev_var rfl) (by omega) (by omega)) ?_
        walk_at "nz"
        unfold cuS
        rw [if_pos hb]
      · simp at hb
        unfold cuS
        rw [if_neg (by simpa using hb)]
    · rintro G rfl
      have hc := stripOk_is q2
      obtain ⟨c1, c2, _⟩ := okC_is hc
      generalize cuS p (f, r) = u at q2 c1 c2 ⊢
      obtain ⟨g, v⟩ := u
      simp only [] at q2 c1 c2 ⊢
      refine w_while (fun mm G => ∃ (n : Nat) (f' : List Int) (r' : Int), G = [.im m, .ol f', .im r', .im p] ∧ stripC n p f' r' = stripC 6 p g v ∧ stripOk n p f' r' = true ∧ r' < 2 ^ n ∧ r'.toNat = mm) v.toNat ⟨6, g, v, rfl, rfl, q2, by show v < 64; omega, rfl⟩ ?_
      rintro mm G ⟨n, f', r', rfl, h1, h2, h3, h4⟩
      obtain ⟨d1, d2, d3, d4, d5⟩ := okC_is (stripOk_is h2)
      refine ⟨decide (r' % p = 0), et_test (ev_eqI (ev_mod (ev_var rfl) (ev_var rfl) (by omega)) ev_int), fun hb => ?_, fun hb => ?_⟩
      · simp at hb
        have hge : p ≤ r' := by
          obtain ⟨kk, hk⟩ := Int.dvd_of_emod_eq_zero hb
          have : 1 ≤ kk := by
            by_cases z : 1 ≤ kk
            · exact z
            · have := Int.mul_le_mul_of_nonneg_left (show kk ≤ 0 by omega) (show 0 ≤ p by omega)
              omega
          have := Int.mul_le_mul_of_nonneg_left this (show 0 ≤ p by omega)
          omega
        cases n with
        | zero => simp at h3; omega
        | succ n =>
          unfold stripC at h1
          rw [if_pos hb] at h1
          unfold stripOk at h2
          rw [if_pos hb, Bool.and_eq_true] at h2
          have hlt : r' / p < r' := Int.ediv_lt_self_of_pos_of_ne_one (by omega) (by omega)
          have hdp : 1 ≤ r' / p := (Int.le_ediv_iff_mul_le (by omega)).mpr (by omega)
          refine w_seq (w_asg (stre d3 d4 rfl rfl) ?_)
          refine w_asg (ev_div (ev_var rfl) (ev_var rfl) (by omega) (by omega)) ?_
          walk_at "nz"
          refine ⟨(r' / p).toNat, by omega, n, _, _, rfl, h1, h2.2, ?_, rfl⟩
          have h5 : r' / p * 2 ≤ r' / p * p := Int.mul_le_mul_of_nonneg_left (by omega) (by omega)
          have h6 : r' / p * p ≤ r' := Int.ediv_mul_le _ (by omega)
          have h7 : (2 : Int) ^ (n + 1) = 2 ^ n * 2 := Int.pow_succ ..
          omega
      · simp at hb
        rw [stripC_no (by simpa using hb)] at h1
        refine ⟨.im p, ?_⟩
        rw [← h1]
  · rintro G ⟨s3, rfl⟩
    exact w_retO val_ol rfl (by rw [show (m + 1 - 2).toNat = (m - 1).toNat by omega]; exact k)
end TB

/-! ### Wheel_init -/
namespace TB
open PySem L2
--use TbWh
theorem same_none {H : Hp} : Same (fun _ => none) H := fun _ _ e => by cases e
def t_Wheel_init (Z : Zz) (X : WX) : TS :=
  (tSeq (sFld Z.K (tVar 0) (tCallSD (spOf Z T_circle) [] (WE X) (tCons (tVar 1) tNil)) "ring")
  (tSeq (sFld Z.K (tVar 0) (tVar 1) "spokes")
  (sFld Z.K (tVar 0) (tOp gMns (tCB (gLen Z.K) (tCons (tFld Z.K (tVar 0) "ring") tNil)) (tC (.int 1))) "size")))
theorem w_Wheel_init (Z : Zz) {N : List Str} (hN : N.length = 2) (vs : List V) (H : Hp) (Q : VK) (E : XK) (h : spI_Wheel Z vs H Q E) :
    t_Wheel_init Z (fun c d _ H => E c d H) { nx := fun _ H' => Q .non H', rt := Q } (L2.start N vs) H := by
  obtain ⟨x, dx, m, rfl, hx, hZ, k1, k2⟩ := h
  unfold t_Wheel_init
  by_cases hm : 1 ≤ m ∧ m ≤ 60
  · refine ⟨.int m, rfl, fun _ => none, [.im m], fun s => s = .ol (circ m), fun _ => False, same_none, .cons rfl .nil, ⟨m, rfl, fun _ => rfl, fun z => absurd hm z⟩, fun v R' H' s S e => ?_, fun _ _ _ _ _ _ z => z.elim⟩
    subst e
    obtain ⟨hl, own, hs, f, g, rfl, ⟨p, ws, rfl, ev, hp, hw⟩, h2⟩ := S
    cases ev
    have ew := paired_map_int hw
    subst ew
    have np : H p = none := (hs.ow p (by simp)).2
    have hx' := hs.bh _ _ hx
    have npx : p ≠ x := fun z => by subst z; rw [np] at hx; cases hx
    refine ⟨.ref x, rfl, x, _, dx, [], rfl, hx', hZ.cl, hZ.n1, by decide, ?_⟩
    refine ⟨.int m, rfl, .ref x, rfl, x, _, dx, _, rfl, upd_same, hZ.cl, hZ.n2, by simp [putF], ?_⟩
    have n12 : ¬ (("ring" : Str) = "spokes") := by decide +kernel
    have n13 : ¬ (("ring" : Str) = "size") := by decide +kernel
    have n23 : ¬ (("spokes" : Str) = "size") := by decide +kernel
    have e2 : putF "spokes" (.int m) (putF "ring" (.ref p) []) = ([("ring", .ref p), ("spokes", .int m)] : List (Str × V)) := by
      simp only [putF, if_neg n12]
    have e3 : putF "size" (.int (((circ m).length : Int) - 1)) ([("ring", .ref p), ("spokes", .int m)] : List (Str × V)) = flW (.ref p) (.int m) (.int (((circ m).length : Int) - 1)) := by
      simp only [putF, if_neg n13, if_neg n23]
      rfl
    rw [e2]
    have pz : (upd (upd H' x (.ins (Z.cls .Wheel) dx (putF "ring" (.ref p) []))) x (.ins (Z.cls .Wheel) dx [("ring", .ref p), ("spokes", .int m)])) p = some (.lst ((circ m).map V.int)) := by
      rw [upd_ne npx, upd_ne npx]; exact hp
    refine ⟨.ref x, rfl, x, _, dx, _, .ref p, rfl, upd_same, hZ.cl, hZ.n1, lookup_here, _, (circ m).length, rfl, .inl ⟨_, SqL.of pz, by rw [List.length_map]⟩, _, 1, rfl, rfl, .ref x, rfl, x, _, dx, _, rfl, upd_same, hZ.cl, hZ.n3, by simp, ?_⟩
    rw [e3]
    exact k1 hm _ p np npx (by rw [upd_ne npx]; exact pz) upd_same fun b o e ne => by
      rw [upd_ne ne, upd_ne ne, upd_ne ne]; exact hs.bh _ _ e
  · refine ⟨.int m, rfl, fun _ => none, [.im m], fun _ => False, fun r => r = ⟨.BadWheel, []⟩, same_none, .cons rfl .nil, ⟨m, rfl, fun z => absurd z hm, fun _ => rfl⟩, fun _ _ _ _ _ z => z.elim, fun r cls d H' sm rx e => ?_⟩
    subst e
    exact k2 hm H' cls d sm rx
end TB

/-! ### Wheel_lowest -/
namespace TB
open PySem L2
--use TbWh
def T_Wheel_lowest : Tm := tm2 fun (o : Whl) (cs : List Int) ok _ => ∃ (m : Int) (x : Nat), 1 ≤ m ∧ m ≤ 60 ∧ o = whl m ∧ cs.length < 2 ^ 14 ∧ x ≤ 90000 ∧ Bd x cs ∧ ok (.ol (lowF m cs))
def t_Wheel_lowest (Z : Zz) (X : WX) : TS :=
  (tSeq (tAsg (tOp gMul (tLst (tCons (tC (.int 0)) tNil)) (tFld Z.K (tVar 0) "spokes")) (gName 2))
  (tSeq (tFor (iEnum Z.K (tCons (tVar 1) tNil)) (gTup Z.K 2 (gCons (gName 3) (gCons (gName 4) gNil)))
  (tAugS (tVar 2) (tOp gMod (tVar 3) (tFld Z.K (tVar 0) "spokes")) (tVar 4) (rIxL Z.K) (ipI fun i j => i + j) rSetL))
  (tRet (tOp (gIx Z.K) (tCallSD (spOf Z T_split) [] (WE X) (tCons (tVar 2) (tCons (tFld Z.K (tVar 0) "ring") tNil))) (tC (.int 1))))))
theorem w_Wheel_lowest (Z : Zz) (X : WX) (ss : List Sl) (ok : Sl → Prop) (er : Rf → Prop) (h : T_Wheel_lowest ss ok er) : WF Z X er (ss ++ List.replicate (5 - ss.length) .un) (t_Wheel_lowest Z X) ok := by
  obtain ⟨o, cs, rfl, m, x, h1, h2, rfl, hl, hx, hb, k⟩ := h
  show W _ [.im (whl m), .im cs, .un, .un, .un] _ _
  unfold t_Wheel_lowest
  have rf := ringF h1 h2
  refine w_seq (w_asg (s := .ol ((irange m).map (cyc m 0 (cs.take 0)))) (ev_is (ev_zeros (ev_spokes (g := whl m) (ev_var rfl)) (show (0 : Int) ≤ m by omega) (show m < 1000000 by omega)) (congrArg Sl.ol zeros_map)) ?_)
  walk_at "nz"
  refine w_seq (w_forE (xs := cs) (fun i G => ∃ s3 s4, G = [.im (whl m), .im cs, .ol ((irange m).map (cyc m 0 (cs.take i))), s3, s4]) (ev_var rfl) ⟨_, _, rfl⟩ ?_ ?_)
  · rintro i G hi ⟨s3, s4, rfl⟩
    walk_at "nz"
    have e0 := Int.emod_nonneg (i : Int) (show m ≠ 0 by omega)
    have e1 := Int.emod_lt_of_pos (i : Int) (show 0 < m by omega)
    refine w_augs (K := Z.K) (xs := (irange m).map (cyc m 0 (cs.take i))) (i := (i : Int) % m) (y := cs[i]) (fun _ _ _ _ h => h) rfl (ev_mod (ev_var rfl) (ev_spokes (g := whl m) (ev_var rfl)) (show 0 < m by omega)) (ev_var rfl) e0 (by rw [List.length_map, irange_len]; omega) ⟨.im (i : Int), .im cs[i], ?_⟩
    walk_at "nz"
    rw [sum_put h1, take_snoc hi]
    have : (irange m).map (cyc m 0 (cs.take i ++ [cs[i]])) = (irange m).map fun j => cyc m 0 (cs.take i) j + if ((i : Int) - j) % m = 0 then cs[i] else 0 := by
      refine List.map_congr_left fun j _ => ?_
      rw [cyc_append, cyc_one, List.length_take, show (0 : Int) + ((min i cs.length : Nat) : Int) = (i : Int) by omega]
    rw [this]
  · rintro G ⟨s3, s4, rfl⟩
    rw [List.take_length]
    refine w_ret (s := .ol (lowF m cs)) (ev_subS sub_Tol (ev_otIxT (k := 1) (ev_callL (eb_own lnd_ol rfl (eb_cons (ev_ring (g := whl m) (ev_var rfl)) eb_nil)) det_ot ⟨(irange m).map (cyc m 0 cs), circ m, rfl, x + 14, 10, sums_bd hb hl, rf.bd, by have := rf.len; omega, by rw [List.length_map, irange_len]; omega, by have := rf.le; omega, by omega, by omega, rfl⟩) rfl rfl)) k
end TB

/-! TbWq: sums put together by steps and turns; more rules. -/
namespace TB
open PySem L2
/-- entry k put at place k * a + b -/
def cyp (m a b : Int) : Int → List Int → Int → Int
  | _, [], _ => 0
  | o, x :: xs, j => (if (o * a + b - j) % m = 0 then x else 0) + cyp m a b (o + 1) xs j
def putL (m a b : Int) (xs : List Int) : List Int := (irange m).map (cyp m a b 0 xs)
section
variable {m a b : Int}
theorem cyp_append : ∀ (o : Int) (xs ys : List Int) (j : Int), cyp m a b o (xs ++ ys) j = cyp m a b o xs j + cyp m a b (o + xs.length) ys j
  | o, [], ys, j => by simp [cyp]
  | o, x :: xs, ys, j => by
    show _ + cyp m a b (o + 1) (xs ++ ys) j = _ + cyp m a b (o + 1) xs j + _
    rw [cyp_append (o + 1) xs ys j, List.length_cons, show o + 1 + (xs.length : Int) = o + ((xs.length + 1 : Nat) : Int) by omega]
    omega
theorem cyp_one (o x j : Int) : cyp m a b o [x] j = if (o * a + b - j) % m = 0 then x else 0 := by simp [cyp]
theorem cyp_cyc : ∀ (o : Int) (xs : List Int) (j : Int), cyp m 1 0 o xs j = cyc m o xs j
  | o, [], j => rfl
  | o, x :: xs, j => by
    show (if (o * 1 + 0 - j) % m = 0 then x else 0) + _ = (if (o - j) % m = 0 then x else 0) + _
    rw [cyp_cyc (o + 1) xs j, Int.mul_one, Int.add_zero]
theorem cyp_per (o : Int) (xs : List Int) : Per m (cyp m a b o xs) := fun j k => by
  induction xs generalizing o with
  | nil => rfl
  | cons x xs ih =>
    show (if (o * a + b - (j + m * k)) % m = 0 then x else 0) + _ = (if (o * a + b - j) % m = 0 then x else 0) + _
    rw [ih, show o * a + b - (j + m * k) = o * a + b - j + m * (-k) by rw [Int.mul_neg]; omega, Int.add_mul_emod_self_left]
theorem cyp_bd {c : Nat} : ∀ {xs : List Int} {o : Int} (j : Int), Bd c xs → (cyp m a b o xs j).natAbs ≤ xs.length * 2 ^ c
  | [], _, j, _ => by simp [cyp]
  | x :: xs, o, j, h => by
    have ih := cyp_bd (xs := xs) (o := o + 1) j fun y hy => h y (by simp [hy])
    have h2 := h x (by simp)
    show ((if (o * a + b - j) % m = 0 then x else 0) + cyp m a b (o + 1) xs j).natAbs ≤ _
    rw [List.length_cons, Nat.succ_mul]
    split <;> omega
theorem putL_bd {c k : Nat} {xs : List Int} (h : Bd c xs) (hl : xs.length < 2 ^ k) : Bd (c + k) (putL m a b xs) := fun x hx => by
  obtain ⟨j, _, rfl⟩ := List.mem_map.mp hx
  have h1 := cyp_bd (m := m) (a := a) (b := b) (o := 0) j h
  have h2 : xs.length * 2 ^ c < 2 ^ k * 2 ^ c := Nat.mul_lt_mul_of_pos_right hl (Nat.pow_pos (by omega))
  rw [Nat.add_comm, Nat.pow_add]
  omega
theorem putL_len {xs : List Int} : (putL m a b xs).length = m.toNat := by unfold putL; rw [List.length_map, irange_len]
theorem cyc_put (h1 : 1 ≤ m) (xs : List Int) (j : Int) : cyc m 0 (putL m a b xs) j = cyp m a b 0 xs j := cyc_map (cyp_per 0 xs) h1 j
/-- one more entry -/
theorem put_snoc {xs : List Int} {i : Nat} (h1 : 1 ≤ m) (hi : i < xs.length) : (putL m a b (xs.take i)).set (((i : Int) * a + b) % m).toNat (gt (putL m a b (xs.take i)) (((i : Int) * a + b) % m) + gt xs (i : Int)) = putL m a b (xs.take (i + 1)) := by
  unfold putL
  rw [sum_put h1, take_snoc' hi]
  refine List.map_congr_left fun j _ => ?_
  rw [cyp_append, cyp_one, List.length_take, show (0 : Int) + ((min i xs.length : Nat) : Int) = (i : Int) by omega]
end
theorem put_nil {m a b : Int} {xs : List Int} : putL m a b (xs.take 0) = List.replicate m.toNat 0 := by
  unfold putL
  rw [zeros_map]
  rfl
section
variable {c : Cn} {Γ : List Sl} {ta tb te tl ty : TE} {tt tc : TT} {t u : TS} {s s' so : Sl} {α β γ : Type} {_ : Rp α} {_ : Rp β} {_ : Rp γ} {P : Po} {d : α}
/-- [f(x, y) for x, y in zip(xs, ys)] -/
theorem ev_zipL {xs : List α} {ys : List β} {i j : Nat} {vs : List Nat} (f : α → β → γ) (h : Ev c Γ ta (.im xs)) (h2 : Ev c Γ tb (.im ys)) (hn : xs.length < 1000000) (hj : i ∈ vs ∧ j ∈ vs) (hu : UnAt Γ vs) (he : ∀ x y, Ev c.no ((Γ.set i (.im x)).set j (.im y)) te (.im (f x y))) :
    Ev c Γ (tLc (iZip c.Z.K (tCons ta (tCons tb tNil))) (gTup c.Z.K 2 (gCons (gName i) (gCons (gName j) gNil))) tYes te vs) (.ol (List.zipWith f xs ys)) := by
  refine ev_is (ev_lc (fun _ => true) (fun i => f (xs.getD i Rp.df) (ys.getD i Rp.df)) (ei_zip h h2) (by omega) (fun k hk => by simp at hk; rcases hk with rfl | rfl; exact hj.1; exact hj.2) hu (fun i hi => fun B R0 R H ρ Δ σ S Q q _ => q R H S) (fun i hi _ => he _ _)) ?_
  rw [kept_all]
  refine congrArg Sl.ol (List.ext_getElem (by simp) fun i h1 h2 => ?_)
  simp at h1
  have a1 : i < xs.length := by omega
  have a2 : i < ys.length := by omega
  simp [a1, a2]
end
def wholeF (xs : List Int) : Option Int := if (xs.drop 1).any (fun n => !decide (n = 0)) then none else some (gt xs 0)
end TB

/-! ### Wheel_plus -/
namespace TB
open PySem L2
--use TbWq
def T_Wheel_plus : Tm := tm3 fun (o : Whl) (xs ys : List Int) ok _ => xs.length < 1000000 ∧ ok (.ol (List.zipWith (fun x y => x + y) xs ys))
def t_Wheel_plus (Z : Zz) (X : WX) : TS :=
  (tRet (tLc (iZip Z.K (tCons (tVar 1) (tCons (tVar 2) tNil))) (gTup Z.K 2 (gCons (gName 3) (gCons (gName 4) gNil))) tYes (tOp gAdd (tVar 3) (tVar 4)) [3, 4]))
theorem w_Wheel_plus (Z : Zz) (X : WX) (ss : List Sl) (ok : Sl → Prop) (er : Rf → Prop) (h : T_Wheel_plus ss ok er) : WF Z X er (ss ++ List.replicate (5 - ss.length) .un) (t_Wheel_plus Z X) ok := by
  obtain ⟨o, xs, ys, rfl, hl, k⟩ := h
  show W _ [.im o, .im xs, .im ys, .un, .un] _ _
  unfold t_Wheel_plus
  refine w_ret ?hh k
  case hh =>
    exact ev_zipL (fun x y => x + y) (ev_var rfl) (ev_var rfl) hl (by simp) ⟨.inl rfl, .inl rfl, trivial⟩ fun x y => ev_add (ev_var rfl) (ev_var rfl)
end TB

/-! TbWr: products of sums of spokes. -/
namespace TB
open PySem L2
def conv (m : Int) : Int → Int → List Int → List Int → Int → Int
  | _, _, [], _, _ => 0
  | o, p, x :: xs, ys, j => x * cyc m (o + p) ys j + conv m (o + 1) p xs ys j
def prodL (m : Int) (xs ys : List Int) : List Int := (irange m).map (conv m 0 0 xs ys)
section
variable {m : Int}
theorem conv_nil : ∀ (o p : Int) (xs : List Int) (j : Int), conv m o p xs [] j = 0
  | o, p, [], j => rfl
  | o, p, x :: xs, j => by
    show x * 0 + conv m (o + 1) p xs [] j = 0
    rw [conv_nil (o + 1) p xs j, Int.mul_zero]
    rfl
theorem conv_right : ∀ (o p : Int) (ys : List Int) (x : Int) (xs : List Int) (j : Int), conv m o p ys (x :: xs) j = x * cyc m (p + o) ys j + conv m o (p + 1) ys xs j
  | o, p, [], x, xs, j => by simp [conv, cyc]
  | o, p, y :: ys, x, xs, j => by
    show y * ((if (o + p - j) % m = 0 then x else 0) + cyc m (o + p + 1) xs j) + conv m (o + 1) p ys (x :: xs) j = x * ((if (p + o - j) % m = 0 then y else 0) + cyc m (p + o + 1) ys j) + (y * cyc m (o + (p + 1)) xs j + conv m (o + 1) (p + 1) ys xs j)
    rw [conv_right (o + 1) p ys x xs j, show p + (o + 1) = p + o + 1 by omega, show o + (p + 1) = o + p + 1 by omega, Int.add_comm p o, Int.mul_add, Int.mul_add]
    by_cases c : (o + p - j) % m = 0
    · simp only [c, if_true]
      rw [Int.mul_comm y x]
      omega
    · simp only [c, if_false]
      omega
theorem conv_comm : ∀ (o p : Int) (xs ys : List Int) (j : Int), conv m o p xs ys j = conv m p o ys xs j
  | o, p, [], ys, j => by rw [conv_nil]; rfl
  | o, p, x :: xs, ys, j => by
    rw [conv_right p o ys x xs j]
    show x * cyc m (o + p) ys j + conv m (o + 1) p xs ys j = _
    rw [conv_comm (o + 1) p xs ys j]
theorem prodL_comm (xs ys : List Int) : prodL m xs ys = prodL m ys xs := by
  unfold prodL
  exact List.map_congr_left fun j _ => conv_comm 0 0 xs ys j
theorem conv_append : ∀ (o p : Int) (xs zs ys : List Int) (j : Int), conv m o p (xs ++ zs) ys j = conv m o p xs ys j + conv m (o + xs.length) p zs ys j
  | o, p, [], zs, ys, j => by simp [conv]
  | o, p, x :: xs, zs, ys, j => by
    show _ + conv m (o + 1) p (xs ++ zs) ys j = _ + conv m (o + 1) p xs ys j + _
    rw [conv_append (o + 1) p xs zs ys j, List.length_cons, show o + 1 + (xs.length : Int) = o + ((xs.length + 1 : Nat) : Int) by omega]
    omega
theorem conv_bd {a b : Nat} : ∀ {o p : Int} {xs ys : List Int} (j : Int), Bd a xs → Bd b ys → (conv m o p xs ys j).natAbs ≤ xs.length * (2 ^ a * (ys.length * 2 ^ b))
  | o, p, [], ys, j, _, _ => by simp [conv]
  | o, p, x :: xs, ys, j, hx, hy => by
    have ih := conv_bd (o := o + 1) (p := p) (xs := xs) (ys := ys) j (fun z hz => hx z (by simp [hz])) hy
    have h1 := hx x (by simp)
    have h2 := cyc_bd (m := m) (o := o + p) j hy
    show (x * cyc m (o + p) ys j + conv m (o + 1) p xs ys j).natAbs ≤ _
    have h3 : (x * cyc m (o + p) ys j).natAbs ≤ 2 ^ a * (ys.length * 2 ^ b) := by
      rw [Int.natAbs_mul]
      exact Nat.mul_le_mul (by omega) h2
    rw [List.length_cons, Nat.succ_mul]
    omega
theorem prodL_len {xs ys : List Int} : (prodL m xs ys).length = m.toNat := by unfold prodL; rw [List.length_map, irange_len]
theorem prodL_bd {a b k l : Nat} {xs ys : List Int} (hx : Bd a xs) (hy : Bd b ys) (h1 : xs.length < 2 ^ k) (h2 : ys.length < 2 ^ l) : Bd (k + (a + (l + b))) (prodL m xs ys) := fun x hz => by
  obtain ⟨j, _, rfl⟩ := List.mem_map.mp hz
  have q := conv_bd (m := m) (o := 0) (p := 0) j hx hy
  have p1 : ys.length * 2 ^ b < 2 ^ l * 2 ^ b := Nat.mul_lt_mul_of_pos_right h2 (Nat.pow_pos (by omega))
  have p2 : 2 ^ a * (ys.length * 2 ^ b) ≤ 2 ^ a * (2 ^ l * 2 ^ b) := Nat.mul_le_mul_left _ (by omega)
  have p3 : xs.length * (2 ^ a * (ys.length * 2 ^ b)) ≤ xs.length * (2 ^ a * (2 ^ l * 2 ^ b)) := Nat.mul_le_mul_left _ p2
  have p4 : xs.length * (2 ^ a * (2 ^ l * 2 ^ b)) < 2 ^ k * (2 ^ a * (2 ^ l * 2 ^ b)) := Nat.mul_lt_mul_of_pos_right h1 (Nat.mul_pos (Nat.pow_pos (by omega)) (Nat.mul_pos (Nat.pow_pos (by omega)) (Nat.pow_pos (by omega))))
  rw [Nat.pow_add, Nat.pow_add, Nat.pow_add]
  omega
/-- the state within the two loops -/
def prodS (m : Int) (xs ys : List Int) (i k : Nat) : List Int := (irange m).map fun j => conv m 0 0 (xs.take i) ys j + gt xs (i : Int) * cyc m (i : Int) (ys.take k) j
theorem prodS_0 {xs ys : List Int} {i : Nat} : prodS m xs ys i 0 = (irange m).map (conv m 0 0 (xs.take i) ys) := by
  unfold prodS
  refine List.map_congr_left fun j _ => ?_
  simp [cyc]
theorem prodS_end {xs ys : List Int} {i : Nat} (hi : i < xs.length) : prodS m xs ys i ys.length = (irange m).map (conv m 0 0 (xs.take (i + 1)) ys) := by
  unfold prodS
  refine List.map_congr_left fun j _ => ?_
  rw [List.take_length, take_snoc' hi, conv_append, List.length_take, show (0 : Int) + ((min i xs.length : Nat) : Int) = (i : Int) by omega]
  show _ = _ + (gt xs (i : Int) * cyc m ((i : Int) + 0) ys j + 0)
  rw [Int.add_zero, Int.add_zero]
theorem prodS_step {xs ys : List Int} {i k : Nat} (h1 : 1 ≤ m) (hk : k < ys.length) : (prodS m xs ys i k).set (((i : Int) + (k : Int)) % m).toNat (gt (prodS m xs ys i k) (((i : Int) + (k : Int)) % m) + gt xs (i : Int) * gt ys (k : Int)) = prodS m xs ys i (k + 1) := by
  unfold prodS
  rw [sum_put h1, take_snoc' hk]
  refine List.map_congr_left fun j _ => ?_
  rw [cyc_append, cyc_one, List.length_take, show (i : Int) + ((min k ys.length : Nat) : Int) = (i : Int) + k by omega, Int.mul_add]
  by_cases c : ((i : Int) + k - j) % m = 0
  · simp only [c, if_true]; omega
  · simp only [c, if_false]; omega
theorem prodS_len {xs ys : List Int} {i k : Nat} : (prodS m xs ys i k).length = m.toNat := by unfold prodS; rw [List.length_map, irange_len]
theorem fold_short {xs : List Int} (h1 : 1 ≤ m) (hl : (xs.length : Int) ≤ m) : (irange m).map (cyc m 0 xs) = xs ++ List.replicate (m.toNat - xs.length) 0 := by
  have e : xs ++ List.replicate (m.toNat - xs.length) 0 = (irange m).map fun j => gt (xs ++ List.replicate (m.toNat - xs.length) 0) j := by
    refine List.ext_getElem (by simp [irange_len]; omega) fun i a b => ?_
    rw [List.getElem_map, irange_get (by simpa using b), gt_nat a]
  rw [e]
  refine List.map_congr_left fun j hj => ?_
  rw [mem_irange] at hj
  have key : ∀ (o : Int) (ys : List Int), 0 ≤ o → o + ys.length ≤ m → cyc m o ys j = if o ≤ j ∧ j < o + ys.length then gt ys (j - o) else 0 := by
    intro o ys
    induction ys generalizing o with
    | nil => intro _ _; rw [if_neg (by simp only [List.length_nil]; omega)]; rfl
    | cons y ys ih =>
      intro h0 h2
      rw [List.length_cons] at h2 ⊢
      show (if (o - j) % m = 0 then y else 0) + cyc m (o + 1) ys j = _
      rw [ih (o + 1) (by omega) (by omega)]
      have : (o - j) % m = 0 ↔ j = o := by
        rw [mod_iff h1 hj.1 hj.2, Int.emod_eq_of_lt h0 (by omega)]
      by_cases c : j = o
      · rw [if_pos (this.mpr c), if_neg (by omega), if_pos (by omega), c, Int.sub_self]
        show y + 0 = y
        omega
      · rw [if_neg fun z => c (this.mp z)]
        by_cases c2 : o + 1 ≤ j ∧ j < o + 1 + ys.length
        · rw [if_pos c2, if_pos (by omega)]
          unfold gt
          rw [show (j - o).toNat = (j - (o + 1)).toNat + 1 by omega]
          simp
        · rw [if_neg c2, if_neg (by omega)]
          rfl
  rw [key 0 xs (by omega) (by omega)]
  unfold gt
  rw [List.getD_eq_getElem?_getD, List.getD_eq_getElem?_getD, List.getElem?_append]
  by_cases c : (0 : Int) ≤ j ∧ j < 0 + xs.length
  · rw [if_pos c, if_pos (by omega), Int.sub_zero]
  · rw [if_neg c, if_neg (by omega), List.getElem?_replicate, if_pos (by omega)]
    rfl
end
end TB

/-! ### Wheel_times -/
namespace TB
open PySem L2
--use TbWr
def T_Wheel_times : Tm := tm3 fun (o : Whl) (xs ys : List Int) ok _ => ∃ (m : Int) (x : Nat), 1 ≤ m ∧ m ≤ 60 ∧ o = whl m ∧ xs.length < 2 ^ 10 ∧ ys.length < 2 ^ 10 ∧ x ≤ 30000 ∧ Bd x xs ∧ Bd x ys ∧ ok (.ol (lowF m (prodL m xs ys)))
def t_Wheel_times (Z : Zz) (X : WX) : TS :=
  (tSeq (tAsg (tOp gMul (tLst (tCons (tC (.int 0)) tNil)) (tFld Z.K (tVar 0) "spokes")) (gName 3))
  (tSeq (tFor (iEnum Z.K (tCons (tVar 1) tNil)) (gTup Z.K 2 (gCons (gName 4) (gCons (gName 5) gNil)))
  (tFor (iEnum Z.K (tCons (tVar 2) tNil)) (gTup Z.K 2 (gCons (gName 6) (gCons (gName 7) gNil)))
  (tAugS (tVar 3) (tOp gMod (tOp gAdd (tVar 4) (tVar 6)) (tFld Z.K (tVar 0) "spokes")) (tOp gMul (tVar 5) (tVar 7)) (rIxL Z.K) (ipI fun i j => i + j) rSetL)))
  (tRet (tMethSD (Z.cls .Wheel) "lowest" (spOf Z T_Wheel_lowest) [] (WE X) (tVar 0) (tCons (tVar 3) tNil)))))
theorem w_Wheel_times (Z : Zz) (X : WX) (ss : List Sl) (ok : Sl → Prop) (er : Rf → Prop) (h : T_Wheel_times ss ok er) : WF Z X er (ss ++ List.replicate (8 - ss.length) .un) (t_Wheel_times Z X) ok := by
  obtain ⟨o, xs, ys, rfl, m, x, h1, h2, rfl, hl, hl2, hx, hb, hb2, k⟩ := h
  show W _ [.im (whl m), .im xs, .im ys, .un, .un, .un, .un, .un] _ _
  unfold t_Wheel_times
  refine w_seq (w_asg (s := .ol ((irange m).map (conv m 0 0 (xs.take 0) ys))) (ev_is (ev_zeros (ev_spokes (g := whl m) (ev_var rfl)) (show (0 : Int) ≤ m by omega) (show m < 1000000 by omega)) (congrArg Sl.ol zeros_map)) ?_)
  walk_at "nz"
  refine w_seq (w_forE (xs := xs) (fun i G => ∃ s4 s5 s6 s7, G = [.im (whl m), .im xs, .im ys, .ol ((irange m).map (conv m 0 0 (xs.take i) ys)), s4, s5, s6, s7]) (ev_var rfl) ⟨_, _, _, _, rfl⟩ ?_ ?_)
  · rintro i G hi ⟨s4, s5, s6, s7, rfl⟩
    walk_at "nz"
    rw [← prodS_0]
    refine w_forE (xs := ys) (fun k G => ∃ s6 s7, G = [.im (whl m), .im xs, .im ys, .ol (prodS m xs ys i k), .im (i : Int), .im xs[i], s6, s7]) (ev_var rfl) ⟨_, _, rfl⟩ ?_ ?_
    · rintro k G hk ⟨s6, s7, rfl⟩
      walk_at "nz"
      have e0 := Int.emod_nonneg ((i : Int) + (k : Int)) (show m ≠ 0 by omega)
      have e1 := Int.emod_lt_of_pos ((i : Int) + (k : Int)) (show 0 < m by omega)
      refine w_augs (K := Z.K) (xs := prodS m xs ys i k) (i := ((i : Int) + (k : Int)) % m) (y := xs[i] * ys[k]) (fun _ _ _ _ h => h) rfl (ev_mod (ev_add (ev_var rfl) (ev_var rfl)) (ev_spokes (g := whl m) (ev_var rfl)) (show 0 < m by omega)) (ev_mul (ev_var rfl) (ev_var rfl) (wide_mul (a := x + 1) (b := x + 1) ((hb.mono (Nat.le_succ x)) _ (List.getElem_mem hi)) ((hb2.mono (Nat.le_succ x)) _ (List.getElem_mem hk)) (by omega) (by omega) (by omega))) e0 (by rw [prodS_len]; omega) ⟨.im (k : Int), .im ys[k], ?_⟩
      walk_at "nz"
      have := prodS_step (m := m) (xs := xs) (i := i) h1 hk
      rw [gt_nat hi, gt_nat hk] at this
      rw [this]
    · rintro G ⟨s6, s7, rfl⟩
      rw [prodS_end hi]
      exact ⟨_, _, _, _, rfl⟩
  · rintro G ⟨s4, s5, s6, s7, rfl⟩
    rw [List.take_length]
    exact w_ret (ev_methL (ev_var rfl) (whl_m (by decide +kernel)) (eb_own lnd_ol rfl eb_nil) det_ol ⟨_, _, rfl, m, 10 + (x + (10 + x)), h1, h2, rfl, by rw [List.length_map, irange_len]; omega, by omega, prodL_bd hb hb2 hl hl2, rfl⟩) k
end TB

/-! ### Wheel_exchanged -/
namespace TB
open PySem L2
--use TbWq
def T_Wheel_exchanged : Tm := tm3 fun (o : Whl) (xs : List Int) (j : Int) ok _ => ∃ (m : Int) (x : Nat), 1 ≤ m ∧ m ≤ 60 ∧ o = whl m ∧ xs.length < 2 ^ 14 ∧ x ≤ 50000 ∧ Bd x xs ∧ ok (.ol (lowF m (putL m j 0 xs)))
def t_Wheel_exchanged (Z : Zz) (X : WX) : TS :=
  (tSeq (tAsg (tOp gMul (tLst (tCons (tC (.int 0)) tNil)) (tFld Z.K (tVar 0) "spokes")) (gName 3))
  (tSeq (tFor (iEnum Z.K (tCons (tVar 1) tNil)) (gTup Z.K 2 (gCons (gName 4) (gCons (gName 5) gNil)))
  (tAugS (tVar 3) (tOp gMod (tOp gMul (tVar 2) (tVar 4)) (tFld Z.K (tVar 0) "spokes")) (tVar 5) (rIxL Z.K) (ipI fun i j => i + j) rSetL))
  (tRet (tMethSD (Z.cls .Wheel) "lowest" (spOf Z T_Wheel_lowest) [] (WE X) (tVar 0) (tCons (tVar 3) tNil)))))
theorem w_Wheel_exchanged (Z : Zz) (X : WX) (ss : List Sl) (ok : Sl → Prop) (er : Rf → Prop) (h : T_Wheel_exchanged ss ok er) : WF Z X er (ss ++ List.replicate (6 - ss.length) .un) (t_Wheel_exchanged Z X) ok := by
  obtain ⟨o, cs, a, rfl, m, x, h1, h2, rfl, hl, hx, hb, k⟩ := h
  show W _ [.im (whl m), .im cs, .im a, .un, .un, .un] _ _
  unfold t_Wheel_exchanged
  refine w_seq (w_asg (s := .ol (putL m a 0 (cs.take 0))) (ev_is (ev_zeros (ev_spokes (g := whl m) (ev_var rfl)) (show (0 : Int) ≤ m by omega) (show m < 1000000 by omega)) (by rw [put_nil]; rfl)) ?_)
  walk_at "nz"
  refine w_seq (w_forE (xs := cs) (fun i G => ∃ s3 s4, G = [.im (whl m), .im cs, .im a, .ol (putL m a 0 (cs.take i)), s3, s4]) (ev_var rfl) ⟨_, _, rfl⟩ ?_ ?_)
  · rintro i G hi ⟨s3, s4, rfl⟩
    walk_at "nz"
    have e0 := Int.emod_nonneg (a * (i : Int)) (show m ≠ 0 by omega)
    have e1 := Int.emod_lt_of_pos (a * (i : Int)) (show 0 < m by omega)
    refine w_augs (K := Z.K) (xs := putL m a 0 (cs.take i)) (i := (a * (i : Int)) % m) (y := cs[i]) (fun _ _ _ _ h => h) rfl (ev_mod (ev_mulS (ev_var rfl) (ev_var rfl) (.inr ⟨by omega, by omega⟩)) (ev_spokes (g := whl m) (ev_var rfl)) (show 0 < m by omega)) (ev_var rfl) e0 (by rw [putL_len]; omega) ⟨.im (i : Int), .im cs[i], ?_⟩
    walk_at "nz"
    have := put_snoc (a := a) (b := 0) h1 hi
    rw [Int.add_zero, Int.mul_comm, gt_nat hi] at this
    rw [this]
  · rintro G ⟨s3, s4, rfl⟩
    rw [List.take_length]
    exact w_ret (ev_methL (ev_var rfl) (whl_m (by decide +kernel)) (eb_own lnd_ol rfl eb_nil) det_ol ⟨_, _, rfl, m, x + 14, h1, h2, rfl, by rw [putL_len]; omega, by omega, putL_bd hb hl, rfl⟩) k
end TB

/-! ### Wheel_backed -/
namespace TB
open PySem L2
--use TbWq
def T_Wheel_backed : Tm := tm2 fun (o : Whl) (xs : List Int) ok _ => ∃ (m : Int) (x : Nat), 1 ≤ m ∧ m ≤ 60 ∧ o = whl m ∧ xs.length < 2 ^ 14 ∧ x ≤ 50000 ∧ Bd x xs ∧ ok (.ol (lowF m (putL m (-1) 0 xs)))
def t_Wheel_backed (Z : Zz) (X : WX) : TS :=
  (tRet (tMethSD (Z.cls .Wheel) "exchanged" (spOf Z T_Wheel_exchanged) [] (WE X) (tVar 0) (tCons (tVar 1) (tCons (tUn uNeg (tC (.int 1))) tNil))))
theorem w_Wheel_backed (Z : Zz) (X : WX) (ss : List Sl) (ok : Sl → Prop) (er : Rf → Prop) (h : T_Wheel_backed ss ok er) : WF Z X er (ss ++ List.replicate (2 - ss.length) .un) (t_Wheel_backed Z X) ok := by
  obtain ⟨o, xs, rfl, m, x, h1, h2, rfl, hl, hx, hb, q⟩ := h
  show W _ [.im (whl m), .im xs] _ _
  unfold t_Wheel_backed
  exact w_ret (ev_methN (ev_var rfl) (whl_m (by decide +kernel)) (ea_cons (ev_var rfl) (ea_cons (ev_neg ev_int) ea_nil)) ⟨_, _, _, rfl, m, x, h1, h2, rfl, hl, hx, hb, rfl⟩) q
end TB

/-! TbWs: wider wheels, moves: plain law. -/
namespace TB
open PySem L2
theorem cyc_setP {m : Int} : ∀ (xs : List Int) (o : Int) (p : Nat) (v j : Int), p < xs.length → cyc m o (xs.set p v) j = cyc m o xs j + if (o + (p : Int) - j) % m = 0 then v - gt xs (p : Int) else 0
  | [], _, p, _, _, h => by simp at h
  | x :: xs, o, 0, v, j, _ => by
    rw [List.set_cons_zero, cyc, cyc]
    show _ = _ + if (o + 0 - j) % m = 0 then v - x else 0
    rw [Int.add_zero]
    split <;> omega
  | x :: xs, o, p + 1, v, j, h => by
    rw [List.set_cons_succ, cyc, cyc, cyc_setP xs (o + 1) p v j (by simpa using h), show o + 1 + (p : Int) - j = o + ((p + 1 : Nat) : Int) - j by omega]
    have e : gt (x :: xs) ((p + 1 : Nat) : Int) = gt xs (p : Int) := by simp [gt]
    rw [e]
    omega
theorem strN_lenW (k : Nat) (xs : List Int) : ∀ i, (strN k xs i).length = k * (xs.length - 1) + 1
  | 0 => by simp [strN]
  | i + 1 => by rw [strN, List.length_set, strN_lenW k xs i]
theorem strN_zero (k : Nat) (xs : List Int) (p : Nat) : ∀ i, (∀ i', i' < i → p ≠ k * i') → gt (strN k xs i) (p : Int) = 0
  | 0, _ => by
    unfold gt strN
    rw [List.getD_eq_getElem?_getD, List.getElem?_replicate]
    split <;> rfl
  | i + 1, h => by
    have ih := strN_zero k xs p i fun i' hi => h i' (by omega)
    unfold gt at ih ⊢
    rw [strN, List.getD_eq_getElem?_getD, List.getElem?_set_ne (by have := h i (by omega); simp only [Int.toNat_natCast]; omega), ← List.getD_eq_getElem?_getD]
    exact ih
theorem cyc_strN {m : Int} {k : Nat} (hk : 1 ≤ k) {xs : List Int} (j : Int) : ∀ i, i ≤ xs.length → cyc m 0 (strN k xs i) j = cyp m k 0 0 (xs.take i) j
  | 0, _ => by
    rw [strN, cyc_zeros, List.take_zero]
    rfl
  | i + 1, h => by
    have hp : k * i < (strN k xs i).length := by
      rw [strN_lenW]
      have := Nat.mul_le_mul_left k (show i ≤ xs.length - 1 by omega)
      omega
    have e0 := strN_zero k xs (k * i) i fun i' hi z => by
      have := Nat.eq_of_mul_eq_mul_left (by omega : 0 < k) z
      omega
    rw [strN, cyc_setP _ _ _ _ _ hp, cyc_strN hk j i (by omega), e0, take_snoc (by omega), cyp_append, cyp_one, List.length_take, gt_nat (by omega), Int.sub_zero]
    have e2 : (0 : Int) + ((k * i : Nat) : Int) - j = (0 + ((min i xs.length : Nat) : Int)) * k + 0 - j := by
      rw [Nat.min_eq_left (by omega), Int.natCast_mul, Int.mul_comm, Int.zero_add, Int.zero_add]
      omega
    rw [e2]
theorem cyc_stretch {m w : Int} (hw : 1 ≤ w) {xs : List Int} (j : Int) : cyc m 0 (stretchF xs w) j = cyp m w 0 0 xs j := by
  unfold stretchF
  rw [cyc_strN (by omega) j _ (Nat.le_refl _), List.take_length, show ((w.toNat : Nat) : Int) = w by omega]
theorem strN_bdd {k n : Nat} {xs : List Int} (h : Bd n xs) : ∀ i, Bd n (strN k xs i)
  | 0 => fun x hx => by
    rw [List.eq_of_mem_replicate hx]
    exact Nat.pow_pos (by omega)
  | i + 1 => fun x hx => by
    rcases List.mem_or_eq_of_mem_set hx with q | q
    · exact strN_bdd h i x q
    · rw [q]; exact gt_bd h _
theorem stretch_len {xs : List Int} {w : Int} : (stretchF xs w).length = w.toNat * (xs.length - 1) + 1 := strN_lenW _ _ _
/-! ### what has no divisor with the wheel -/
def apartB (m j : Int) : Bool := (primesF m).all fun p => !decide (j % p = 0)
def gcOk (m : Int) : Bool := ((primesF m).all fun p => decide (2 ≤ p) && decide (m % p = 0)) && (List.range m.toNat).all fun r => apartB m (r : Int) == decide (Nat.gcd m.toNat r = 1)
theorem gcs_ok : (List.range 60).all (fun i => gcOk ((i : Int) + 1)) = true := by decide +kernel
theorem gc_ok {m : Int} (h1 : 1 ≤ m) (h2 : m ≤ 60) : gcOk m = true := by
  have := List.all_eq_true.mp gcs_ok (m - 1).toNat (List.mem_range.mpr (by omega))
  rw [show (((m - 1).toNat : Nat) : Int) + 1 = m by omega] at this
  exact this
theorem apart_gcd {m j : Int} (h1 : 1 ≤ m) (h2 : m ≤ 60) : apartB m j = decide (Nat.gcd m.toNat (j % m).toNat = 1) := by
  have h := gc_ok h1 h2
  unfold gcOk at h
  rw [Bool.and_eq_true, List.all_eq_true, List.all_eq_true] at h
  have r0 := Int.emod_nonneg j (show m ≠ 0 by omega)
  have r1 := Int.emod_lt_of_pos j (show 0 < m by omega)
  have := h.2 (j % m).toNat (List.mem_range.mpr (by omega))
  rw [← eq_of_beq this, show (((j % m).toNat : Nat) : Int) = j % m by omega]
  unfold apartB
  have key : ∀ p ∈ primesF m, (!decide (j % p = 0)) = (!decide (j % m % p = 0)) := fun p hp => by
    have q := h.1 p hp
    simp only [Bool.and_eq_true, decide_eq_true_eq] at q
    rw [Int.emod_emod_of_dvd j (Int.dvd_of_emod_eq_zero q.2)]
  rw [Bool.eq_iff_iff, List.all_eq_true, List.all_eq_true]
  exact ⟨fun a p hp => (key p hp) ▸ a p hp, fun a p hp => (key p hp).symm ▸ a p hp⟩
end TB

/-! ### Wheel_moved -/
namespace TB
open PySem L2
--use TbWs
def T_Wheel_moved : Tm := tm3 fun (o : Whl) (xs : List Int) (j : Int) ok er => ∃ (m : Int) (x : Nat), 1 ≤ m ∧ m ≤ 60 ∧ o = whl m ∧ xs.length < 2 ^ 14 ∧ x ≤ 50000 ∧ Bd x xs ∧ (apartB m j = true → ok (.ol (lowF m (putL m j 0 xs)))) ∧ (apartB m j = false → er ⟨.NoMove, []⟩)
def t_Wheel_moved (Z : Zz) (X : WX) : TS :=
  (tSeq (tIfS (tTest (tOp (gNe Z.K) (tCallSD (spOf Z T_shared) [] (WE X) (tCons (tFld Z.K (tVar 0) "spokes") (tCons (tOp gMod (tVar 2) (tFld Z.K (tVar 0) "spokes")) tNil))) (tC (.int 1))))
  (tRaise0 (Z.cls .NoMove) X)
  tNext)
  (tRet (tMethSD (Z.cls .Wheel) "exchanged" (spOf Z T_Wheel_exchanged) [] (WE X) (tVar 0) (tCons (tVar 1) (tCons (tVar 2) tNil)))))
theorem w_Wheel_moved (Z : Zz) (X : WX) (ss : List Sl) (ok : Sl → Prop) (er : Rf → Prop) (h : T_Wheel_moved ss ok er) : WF Z X er (ss ++ List.replicate (3 - ss.length) .un) (t_Wheel_moved Z X) ok := by
  obtain ⟨o, xs, j, rfl, m, x, h1, h2, rfl, hl, hx, hb, q, qe⟩ := h
  show W _ [.im (whl m), .im xs, .im j] _ _
  unfold t_Wheel_moved
  have e := apart_gcd (j := j) h1 h2
  have r0 := Int.emod_nonneg j (show m ≠ 0 by omega)
  refine w_seq (w_if (b := !decide ((Nat.gcd m.toNat (j % m).toNat : Int) = 1)) (et_test (ev_neI (ev_callN (s := .im ((Nat.gcd m.toNat (j % m).toNat : Nat) : Int)) (ea_cons (ev_spokes (g := whl m) (ev_var rfl)) (ea_cons (ev_mod (ev_var rfl) (ev_spokes (g := whl m) (ev_var rfl)) (show 0 < m by omega)) ea_nil)) ⟨_, _, rfl, m.toNat, (j % m).toNat, by show m = _; omega, by show j % m = _; omega, rfl⟩) ev_int)) (fun hb => ?_) (fun hb => w_next ?_))
  · refine w_raise0 .NoMove (qe ?_)
    rw [e]
    have : ¬ (Nat.gcd m.toNat (j % m).toNat : Int) = 1 := by simpa using hb
    simp only [decide_eq_false_iff_not]
    omega
  · have hb' : (Nat.gcd m.toNat (j % m).toNat : Int) = 1 := by simpa using hb
    refine w_ret (ev_methN (ev_var rfl) (whl_m (by decide +kernel)) (ea_cons (ev_var rfl) (ea_cons (ev_var rfl) ea_nil)) ⟨_, _, _, rfl, m, x, h1, h2, rfl, hl, hx, ‹Bd x xs›, rfl⟩) (q ?_)
    rw [e]
    simp only [decide_eq_true_eq]
    omega
end TB

/-! ### Wheel_wider -/
namespace TB
open PySem L2
--use TbWs
--extra T.whlC
def T_Wheel_wider : Tm := tm3 fun (o : Whl) (xs : List Int) (w : Int) ok er => ∃ (m : Int) (x : Nat), 1 ≤ m ∧ m ≤ 60 ∧ o = whl m ∧ 1 ≤ xs.length ∧ xs.length ≤ 100 ∧ x ≤ 50000 ∧ Bd x xs ∧ (1 ≤ w ∧ m * w ≤ 60 → ok (.ol (lowF (m * w) (stretchF xs w)))) ∧ (¬ (1 ≤ w ∧ m * w ≤ 60) → er ⟨.BadWheel, []⟩)
def t_Wheel_wider (Z : Zz) (X : WX) : TS :=
  (tSeq (tIfS (tOr (tTest (tOp gLt (tVar 2) (tC (.int 1)))) (tTest (tOp gGt (tOp gMul (tFld Z.K (tVar 0) "spokes") (tVar 2)) (tC (.int 60)))))
  (tRaise0 (Z.cls .BadWheel) X)
  tNext)
  (tRet (tMethSD (Z.cls .Wheel) "lowest" (spOf Z T_Wheel_lowest) [] (WE X) (tMakeSD (Z.cls .Wheel) (spI_Wheel Z) [] (WE X) (tCons (tOp gMul (tFld Z.K (tVar 0) "spokes") (tVar 2)) tNil)) (tCons (tCallSD (spOf Z T_stretched) [] (WE X) (tCons (tVar 1) (tCons (tVar 2) tNil))) tNil))))
theorem w_Wheel_wider {Z : Zz} (hW : WhlC Z) (X : WX) (ss : List Sl) (ok : Sl → Prop) (er : Rf → Prop) (h : T_Wheel_wider ss ok er) : WF Z X er (ss ++ List.replicate (3 - ss.length) .un) (t_Wheel_wider Z X) ok := by
  obtain ⟨o, xs, w, rfl, m, x, h1, h2, rfl, hl, hl2, hx, hb, q, qe⟩ := h
  show W _ [.im (whl m), .im xs, .im w] _ _
  unfold t_Wheel_wider
  refine w_seq (w_if (b := decide (w < 1) || decide (60 < m * w)) (et_or (et_test (ev_lt (ev_var rfl) ev_int)) fun _ => et_test (ev_gt (ev_mulS (ev_spokes (g := whl m) (ev_var rfl)) (ev_var rfl) (.inl ⟨show -(2 ^ 64) < m by omega, show m < 2 ^ 64 by omega⟩)) ev_int)) (fun hb => ?_) (fun hb => w_next ?_))
  · refine w_raise0 .BadWheel (qe ?_)
    simp at hb
    omega
  · simp only [Bool.or_eq_false_iff, decide_eq_false_iff_not] at hb
    have hw : 1 ≤ w ∧ m * w ≤ 60 := by omega
    have hw1 : w ≤ 60 := by
      have := Int.mul_le_mul_of_nonneg_right h1 (show 0 ≤ w by omega)
      omega
    have hmw : 1 ≤ m * w := by
      have := Int.mul_le_mul_of_nonneg_right h1 (show 0 ≤ w by omega)
      omega
    have hsl := stretch_len (xs := xs) (w := w)
    have : w.toNat * (xs.length - 1) ≤ 60 * 100 := Nat.mul_le_mul (by omega) (by omega)
    refine w_ret (ev_methN (ev_mkWheel (c := ⟨Z, X, fun r _ => er r⟩) hW hmw hw.2 (ea_cons (ev_mulS (ev_spokes (g := whl m) (ev_var rfl)) (ev_var rfl) (.inl ⟨show -(2 ^ 64) < m by omega, show m < 2 ^ 64 by omega⟩)) ea_nil)) (whl_m (by decide +kernel)) (ea_cons (ev_frI (ev_callN (s := .ol (stretchF xs w)) (ea_cons (ev_var rfl) (ea_cons (ev_var rfl) ea_nil)) ⟨_, _, rfl, hl, by omega, hw.1, hw1, rfl⟩)) ea_nil) ⟨_, _, rfl, m * w, x, hmw, hw.2, rfl, by omega, by omega, strN_bdd ‹Bd x xs› _, rfl⟩) (q hw)
end TB

/-! ### Wheel_whole -/
namespace TB
open PySem L2
--use TbWq
def T_Wheel_whole : Tm := tm2 fun (o : Whl) (xs : List Int) ok _ => 1 ≤ xs.length ∧ xs.length < 1000000 ∧ ok (.im (wholeF xs))
def t_Wheel_whole (Z : Zz) (X : WX) : TS :=
  (tSeq (tIfS (tB (tCB (rAny Z.K) (tCons (tLc (iList Z.K (tSl (rSlL Z.K) (tVar 1) (tPart (tC (.int 1))) tNoPart)) (gName 2) tYes (tOp (gNe Z.K) (tVar 2) (tC (.int 0))) [2]) tNil)))
  (tRet (tC .non))
  tNext)
  (tRet (tOp (gIx Z.K) (tVar 1) (tC (.int 0)))))
theorem w_Wheel_whole (Z : Zz) (X : WX) (ss : List Sl) (ok : Sl → Prop) (er : Rf → Prop) (h : T_Wheel_whole ss ok er) : WF Z X er (ss ++ List.replicate (3 - ss.length) .un) (t_Wheel_whole Z X) ok := by
  obtain ⟨o, xs, rfl, h1, h2, k⟩ := h
  show W _ [.im o, .im xs, .un] _ _
  unfold t_Wheel_whole
  unfold wholeF at k
  refine w_seq (w_if (b := (xs.drop 1).any (fun n => !decide (n = 0))) (et_B (ev_to (ev_any (bs := (xs.drop 1).map fun n => !decide (n = 0)) rfl (ev_fr ?hh)) ?_)) (fun hb => w_ret (s := .im (none : Option Int)) ev_none ?_) (fun hb => w_next (w_ret (s := .im (some (gt xs 0))) (ev_opt (ev_ix (ev_var rfl) ev_int (by decide) (by omega))) ?_)))
  case hh =>
    exact ev_mapL (xs := xs.drop 1) (fun n => !decide (n = 0)) (ev_frI (ev_cutFrom (xs := xs) (ev_var rfl) ev_int (by decide))) (by rw [List.length_drop]; omega) (by simp) ⟨.inl rfl, trivial⟩ fun x _ => ev_neI (ev_var rfl) ev_int
  · rw [List.any_map]; rfl
  · rw [if_pos hb] at k; exact k
  · rw [if_neg (by rw [hb]; decide)] at k; exact k
end TB

/-! ### l_whole -/
namespace TB
open PySem L2
def T_l_whole : Tm := tm1 fun (_ : Int) ok _ => ok (.im true)
def t_l_whole (Z : Zz) (X : WX) : TS :=
  (tRet (tAndV (tCB (rIsi Z.K) (tCons (tVar 0) (tCons (tC (.ty "int")) tNil))) (tNotV (tCB (rIsi Z.K) (tCons (tVar 0) (tCons (tC (.ty "bool")) tNil))))))
theorem w_l_whole (Z : Zz) (X : WX) (ss : List Sl) (ok : Sl → Prop) (er : Rf → Prop) (h : T_l_whole ss ok er) : WF Z X er (ss ++ List.replicate (1 - ss.length) .un) (t_l_whole Z X) ok := by
  obtain ⟨x, rfl, k⟩ := h
  show W _ [.im x] _ _
  unfold t_l_whole
  walk_at "w"
  exact k
end TB

/-! ### l_at -/
namespace TB
open PySem L2
def atF (l : List Int) (k : Int) : Int := if k < l.length then gt l k else 0
def T_l_at : Tm := tm2 fun (l : Scr) (k : Int) ok _ => 0 ≤ k ∧ ok (.im (atF l.l k))
def t_l_at (Z : Zz) (X : WX) : TS :=
  (tSeq (tIfS (tTest (tOp gLt (tVar 1) (tCB (gLen Z.K) (tCons (tVar 0) tNil))))
  (tRet (tOp (gIx Z.K) (tVar 0) (tVar 1)))
  tNext)
  (tRet (tC (.int 0))))
theorem w_l_at (Z : Zz) (X : WX) (ss : List Sl) (ok : Sl → Prop) (er : Rf → Prop) (h : T_l_at ss ok er) : WF Z X er (ss ++ List.replicate (2 - ss.length) .un) (t_l_at Z X) ok := by
  obtain ⟨l, k, rfl, h0, hk⟩ := h
  show W _ [.im l, .im k] _ _
  unfold t_l_at
  refine w_seq (w_if (b := decide (k < l.l.length)) (et_test (ev_lt (ev_var rfl) (ev_lenS (ev_var rfl)))) (fun hb => ?_) (fun hb => w_next ?_))
  · simp at hb
    refine w_ret (ev_ixS (ev_var rfl) (ev_var rfl) h0 hb) ?_
    unfold atF at hk
    rw [if_pos hb] at hk
    exact hk
  · simp at hb
    refine w_ret ev_int ?_
    unfold atF at hk
    rw [if_neg (by omega)] at hk
    exact hk
end TB

/-! ### l_number -/
namespace TB
open PySem L2
--use TbWh
def numF (xs : List Int) (k : Int) : Int :=
  if xs.length = 0 then 0 else
  let c := gt xs (k % xs.length)
  let n := c / 2 * (1 + k * k) % 10 ^ 30
  let n := if (c + k) % 4 = 1 then n % 5 else n
  let n := if (c + k) % 5 = 2 then 0 else n
  if c % 2 = 1 then 0 - n else n
theorem numF_bd (xs : List Int) (k : Int) : (numF xs k).natAbs < 2 ^ 200 := by
  unfold numF
  split
  · decide
  · simp only []
    have h0 : 0 ≤ gt xs (k % xs.length) / 2 * (1 + k * k) % 10 ^ 30 := Int.emod_nonneg _ (by decide)
    have h1 : gt xs (k % xs.length) / 2 * (1 + k * k) % 10 ^ 30 < 10 ^ 30 := Int.emod_lt_of_pos _ (by decide)
    have h2 : (10 : Int) ^ 30 < 2 ^ 200 := by decide
    generalize gt xs (k % xs.length) / 2 * (1 + k * k) % 10 ^ 30 = n at h0 h1 ⊢
    have h3 : ((2 ^ 200 : Nat) : Int) = 2 ^ 200 := by decide
    generalize (2 : Nat) ^ 200 = b at h3 ⊢
    generalize (2 : Int) ^ 200 = d at h2 h3
    have h4 : 0 ≤ n % 5 ∧ n % 5 ≤ n := by omega
    repeat' split
    all_goals omega
def T_l_number : Tm := tm2 fun (xs : List Int) (k : Int) ok _ => 0 ≤ k ∧ k ≤ 1000000 ∧ ok (.im (numF xs k))
def t_l_number (Z : Zz) (X : WX) : TS :=
  (tSeq (tIfS (tTest (tOp (gEq Z.K) (tCB (gLen Z.K) (tCons (tVar 0) tNil)) (tC (.int 0))))
  (tRet (tC (.int 0)))
  tNext)
  (tSeq (tAsg (tOp (gIx Z.K) (tVar 0) (tOp gMod (tVar 1) (tCB (gLen Z.K) (tCons (tVar 0) tNil)))) (gName 2))
  (tSeq (tAsg (tOp gMod (tOp gMul (tOp gDiv (tVar 2) (tC (.int 2))) (tOp gAdd (tC (.int 1)) (tOp gMul (tVar 1) (tVar 1)))) (tOp gPow (tC (.int 10)) (tC (.int 30)))) (gName 3))
  (tSeq (tIfS (tTest (tOp (gEq Z.K) (tOp gMod (tOp gAdd (tVar 2) (tVar 1)) (tC (.int 4))) (tC (.int 1))))
  (tAsg (tOp gMod (tVar 3) (tC (.int 5))) (gName 3))
  tNext)
  (tSeq (tIfS (tTest (tOp (gEq Z.K) (tOp gMod (tOp gAdd (tVar 2) (tVar 1)) (tC (.int 5))) (tC (.int 2))))
  (tAsg (tC (.int 0)) (gName 3))
  tNext)
  (tSeq (tIfS (tTest (tOp (gEq Z.K) (tOp gMod (tVar 2) (tC (.int 2))) (tC (.int 1))))
  (tRet (tOp gMns (tC (.int 0)) (tVar 3)))
  tNext)
  (tRet (tVar 3))))))))
theorem w_l_number (Z : Zz) (X : WX) (ss : List Sl) (ok : Sl → Prop) (er : Rf → Prop) (h : T_l_number ss ok er) : WF Z X er (ss ++ List.replicate (4 - ss.length) .un) (t_l_number Z X) ok := by
  obtain ⟨xs, k, rfl, h0, h1, kk⟩ := h
  show W _ [.im xs, .im k, .un, .un] _ _
  unfold t_l_number
  unfold numF at kk
  refine w_seq (w_if (b := decide (((xs.length : Nat) : Int) = 0)) (et_test (ev_eqI (ev_len (ev_var rfl)) ev_int)) (fun hb => ?_) (fun hb => w_next ?_))
  · simp at hb
    exact w_ret ev_int (by rw [if_pos (by simp [hb])] at kk; exact kk)
  have hn : ¬ xs.length = 0 := by simp at hb; simpa using hb
  rw [if_neg hn] at kk
  simp only [] at kk
  have hk0 : 0 ≤ k % xs.length := Int.emod_nonneg _ (by omega)
  have hk1 : k % xs.length < xs.length := Int.emod_lt_of_pos _ (by omega)
  refine w_seq (w_asg (ev_ix (ev_var rfl) (ev_mod (ev_var rfl) (ev_len (ev_var rfl)) (by omega)) hk0 hk1) ?_)
  walk_at "nz"
  generalize gt xs (k % xs.length) = c at kk ⊢
  have hk2 : k * k ≤ 1000000 * 1000000 := Int.mul_le_mul h1 h1 h0 (by decide)
  have hk3 : 0 ≤ k * k := Int.mul_nonneg h0 h0
  refine w_seq (w_asg (s := .im (c / 2 * (1 + k * k) % 10 ^ 30)) (ev_to (ev_mod (ev_mulS (ev_div (ev_var rfl) ev_int (by decide) (by decide)) (ev_add ev_int (ev_mul (ev_var rfl) (ev_var rfl) (cmulS (by omega) (by omega) (by omega) (by omega)))) (.inr ⟨by omega, by omega⟩)) (ev_pow ev_int ev_int ⟨by decide, by decide, by decide⟩) (by decide)) rfl) ?_)
  walk_at "nz"
  generalize c / 2 * (1 + k * k) % 10 ^ 30 = n at kk ⊢
  refine w_mid (fun G => G = [.im xs, .im k, .im c, .im (if (c + k) % 4 = 1 then n % 5 else n)]) (w_if (b := decide ((c + k) % 4 = 1)) (et_test (ev_eqI (ev_mod (ev_add (ev_var rfl) (ev_var rfl)) ev_int (by decide)) ev_int)) (fun hb => w_asg (ev_mod (ev_var rfl) ev_int (by decide)) ?_) (fun hb => w_next ?_)) ?_
  · simp at hb
    walk_at "nz"
    rw [if_pos hb]
  · simp at hb
    rw [if_neg hb]
  rintro G rfl
  generalize (if (c + k) % 4 = 1 then n % 5 else n) = n2 at kk ⊢
  refine w_mid (fun G => G = [.im xs, .im k, .im c, .im (if (c + k) % 5 = 2 then 0 else n2)]) (w_if (b := decide ((c + k) % 5 = 2)) (et_test (ev_eqI (ev_mod (ev_add (ev_var rfl) (ev_var rfl)) ev_int (by decide)) ev_int)) (fun hb => w_asg ev_int ?_) (fun hb => w_next ?_)) ?_
  · simp at hb
    walk_at "nz"
    rw [if_pos hb]
  · simp at hb
    rw [if_neg hb]
  rintro G rfl
  generalize (if (c + k) % 5 = 2 then 0 else n2) = n3 at kk ⊢
  refine w_seq (w_if (b := decide (c % 2 = 1)) (et_test (ev_eqI (ev_mod (ev_var rfl) ev_int (by decide)) ev_int)) (fun hb => w_ret (ev_sub ev_int (ev_var rfl)) ?_) (fun hb => w_next (w_ret (ev_var rfl) ?_)))
  · simp at hb
    rw [if_pos hb] at kk
    exact kk
  · rw [if_neg (by simpa using hb)] at kk
    exact kk
end TB

/-! ### l_shared -/
namespace TB
open PySem L2
def T_l_shared : Tm := tm2 fun (a b : Int) ok _ => ∃ x y : Nat, a = (x : Int) ∧ b = (y : Int) ∧ ok (.im ((Nat.gcd x y : Nat) : Int))
def t_l_shared (Z : Zz) (X : WX) : TS :=
  (tSeq (tWhile (tTest (tOp gGt (tVar 1) (tC (.int 0))))
  (tPar 0 1 (tCons (tVar 1) (tCons (tOp gMod (tVar 0) (tVar 1)) tNil))))
  (tRet (tVar 0)))
theorem w_l_shared (Z : Zz) (X : WX) (ss : List Sl) (ok : Sl → Prop) (er : Rf → Prop) (h : T_l_shared ss ok er) : WF Z X er (ss ++ List.replicate (2 - ss.length) .un) (t_l_shared Z X) ok := by
  obtain ⟨a, b, rfl, x, y, rfl, rfl, k⟩ := h
  show W _ [.im (x : Int), .im (y : Int)] _ _
  unfold t_l_shared
  refine w_seq (w_while (fun m G => ∃ x' : Nat, G = [.im (x' : Int), .im (m : Int)] ∧ Nat.gcd x' m = Nat.gcd x y) y ⟨x, rfl, rfl⟩ ?_)
  rintro m G ⟨x', rfl, e⟩
  refine ⟨_, et_test (ev_gt (ev_var rfl) ev_int), fun hb => ?_, fun hb => ?_⟩
  · simp at hb
    refine w_par (ev_var rfl) (ev_mod (ev_var rfl) (ev_var rfl) (by omega)) ⟨x' % m, Nat.mod_lt _ (by omega), m, ?_, ?_⟩
    · walk_at "nz"
      rw [Int.natCast_emod]
    · rw [← e, Nat.gcd_comm x' m, Nat.gcd_rec m x', Nat.gcd_comm]
  · simp at hb
    subst hb
    rw [Nat.gcd_zero_right] at e
    rw [← e] at k
    exact w_ret (ev_var rfl) k
end TB

/-! TbWk: plain law of a walk: deeds keep what is the same number; bounds of lowest forms. -/
namespace TB
open PySem L2
/-! ### bounds -/
theorem rings_bd1 : (List.range 60).all (fun i => (circ ((i : Int) + 1)).all fun x => decide (x.natAbs < 2)) = true := by decide +kernel
theorem ring_bd1 {m : Int} (h1 : 1 ≤ m) (h2 : m ≤ 60) : Bd 1 (circ m) := fun x hx => by
  have := List.all_eq_true.mp rings_bd1 (m - 1).toNat (List.mem_range.mpr (by omega))
  rw [show (((m - 1).toNat : Nat) : Int) + 1 = m by omega] at this
  simpa using List.all_eq_true.mp this x hx
theorem splitN_bd {b : List Int} {many y : Nat} (hb : Bd y b) : ∀ (n a : Nat) (f r : List Int), Bd a r → Bd (a + n * (y + 1)) (splitN b many n f r).2
  | 0, a, f, r, h => h.mono (by omega)
  | n + 1, a, f, r, h => by
    unfold splitN
    by_cases c : many < r.length
    · rw [if_pos c]
      have hne : r ≠ [] := fun z => by rw [z] at c; simp at c
      have hs : (r.getLastD 0).natAbs < 2 ^ a := h _ (by
        rw [List.getLastD_eq_getLast?, List.getLast?_eq_some_getLast hne]
        exact List.getLast_mem hne)
      have hd : Bd a r.dropLast := fun z hz => h z (by rw [List.dropLast_eq_take] at hz; exact List.mem_of_mem_take hz)
      have := splitN_bd hb (many := many) n (a + y + 1) (r.getLastD 0 :: f) _ (subN_bd (k := many) (at0 := r.length - 1 - many) (by rw [List.length_dropLast]; omega) hd hs hb)
      exact this.mono (by rw [Nat.succ_mul]; omega)
    · rw [if_neg c]
      exact h.mono (by omega)
theorem lowF_bd {m : Int} {x k : Nat} {cs : List Int} (h1 : 1 ≤ m) (h2 : m ≤ 60) (h : Bd x cs) (hl : cs.length < 2 ^ k) : Bd (x + k + 120) (lowF m cs) := by
  have h3 := sums_bd (m := m) h hl
  have := splitN_bd (many := (circ m).length - 1) (ring_bd1 h1 h2) ((irange m).map (cyc m 0 cs)).length (x + k) [] _ h3
  refine Bd.mono this ?_
  rw [List.length_map, irange_len]
  omega
/-! ### turns by any shifts -/
def difS : List Int → (Int → Int) → Int → Int
  | [], f, j => f j
  | s :: ss, f, j => difS ss (fun i => f i - f (i - s)) j
theorem dif_difS {m : Int} : ∀ (ps : List Int) (f : Int → Int), dif m ps f = difS (ps.map fun p => m / p) f
  | [], f => rfl
  | p :: ps, f => dif_difS ps _
theorem difS_turn : ∀ (ss : List Int) (f : Int → Int) (d j : Int), difS ss (fun i => f (i - d)) j = difS ss f (j - d)
  | [], f, d, j => rfl
  | s :: ss, f, d, j => by
    show difS ss (fun i => f (i - d) - f (i - s - d)) j = difS ss (fun i => f i - f (i - s)) (j - d)
    rw [← difS_turn ss (fun i => f i - f (i - s)) d j]
    congr 1
    funext i
    rw [show i - s - d = i - d - s by omega]
theorem difS_sub : ∀ (ss : List Int) (f g : Int → Int) (j : Int), difS ss (fun i => f i - g i) j = difS ss f j - difS ss g j
  | [], f, g, j => rfl
  | s :: ss, f, g, j => by
    show difS ss (fun i => (f i - g i) - (f (i - s) - g (i - s))) j = _
    have : (fun i => (f i - g i) - (f (i - s) - g (i - s))) = fun i => (f i - f (i - s)) - (g i - g (i - s)) := by
      funext i; omega
    rw [this, difS_sub ss]
    rfl
theorem difS_out (ss : List Int) (s : Int) (f : Int → Int) (j : Int) : difS (s :: ss) f j = difS ss f j - difS ss f (j - s) := by
  show difS ss (fun i => f i - f (i - s)) j = _
  rw [difS_sub ss f (fun i => f (i - s)), difS_turn]
theorem difS_zero : ∀ (ss : List Int) {f : Int → Int} (_ : ∀ j, f j = 0) (j : Int), difS ss f j = 0
  | [], f, h, j => h j
  | s :: ss, f, h, j => difS_zero ss (fun i => by rw [h, h]; rfl) j
theorem difS_per {m : Int} : ∀ (ss : List Int) {f : Int → Int}, Per m f → Per m (difS ss f)
  | [], f, h => h
  | s :: ss, f, h => difS_per ss fun j k => by
    show f (j + m * k) - f (j + m * k - s) = _
    rw [h, show j + m * k - s = j - s + m * k by omega, h]
/-- more turns of what is nought -/
theorem difS_more : ∀ {ss tt : List Int}, ss.Sublist tt → ∀ {f : Int → Int}, (∀ j, difS ss f j = 0) → ∀ j, difS tt f j = 0
  | _, _, .slnil, f, h, j => h j
  | _, _, .cons s q, f, h, j => by
    rw [difS_out, difS_more q h, difS_more q h]; rfl
  | _, _, .cons₂ s q, f, h, j => difS_more q (f := fun i => f i - f (i - s)) h j
theorem back_many {h : Int → Int} {s : Int} (e : ∀ j, h j = h (j - s)) : ∀ (c : Nat) (j : Int), h j = h (j - c * s)
  | 0, j => by rw [show j - ((0 : Nat) : Int) * s = j by simp]
  | c + 1, j => by
    rw [back_many e c j, e (j - c * s), show j - (c : Int) * s - s = j - ((c + 1 : Nat) : Int) * s by
      rw [show ((c + 1 : Nat) : Int) = (c : Int) + 1 by omega, Int.add_mul]; omega]
/-- turns that are so many times others -/
theorem difS_times {m : Int} {γ : Type} (u v : γ → Int) : ∀ (ps : List γ), (∀ p ∈ ps, ∃ (c : Nat) (t : Int), v p = c * u p + m * t) → ∀ {f : Int → Int}, Per m f → (∀ j, difS (ps.map u) f j = 0) → ∀ j, difS (ps.map v) f j = 0
  | [], _, f, _, h, j => h j
  | p :: ps, hp, f, hf, h, j => by
    have h2 : ∀ j, difS (ps.map v) (fun i => f i - f (i - u p)) j = 0 := difS_times u v ps (fun q hq => hp q (by simp [hq])) (f := fun i => f i - f (i - u p)) (fun j k => by
      show f (j + m * k) - f (j + m * k - u p) = _
      rw [hf, show j + m * k - u p = j - u p + m * k by omega, hf]) h
    have h3 : ∀ j, difS (ps.map v) f j = difS (ps.map v) f (j - u p) := fun j => by
      have := h2 j
      rw [difS_sub _ f (fun i => f (i - u p)), difS_turn] at this
      omega
    obtain ⟨c, t, e⟩ := hp p (by simp)
    show difS (v p :: ps.map v) f j = 0
    rw [difS_out, back_many h3 c j, e]
    have := difS_per (m := m) (ps.map v) hf (j - (c * u p + m * t)) t
    rw [show j - (↑c * u p + m * t) + m * t = j - ↑c * u p by omega] at this
    omega
/-! ### what is put by steps -/
/-- step a on wheel m goes round just as one spoke on wheel n -/
def Stc (n a m : Int) : Prop := ∀ i : Int, (i * a) % m = 0 ↔ i % n = 0
theorem put_on {n a b m : Int} (hc : Stc n a m) : ∀ (xs : List Int) (o i : Int), cyp m a b o xs (i * a + b) = cyc n o xs i
  | [], o, i => rfl
  | x :: xs, o, i => by
    show (if (o * a + b - (i * a + b)) % m = 0 then x else 0) + _ = (if (o - i) % n = 0 then x else 0) + _
    rw [put_on hc xs (o + 1) i]
    have := hc (o - i)
    rw [show o * a + b - (i * a + b) = (o - i) * a by rw [Int.sub_mul]; omega]
    simp only [this]
theorem put_off {a b m j : Int} (h : ∀ i : Int, (i * a + b - j) % m ≠ 0) : ∀ (xs : List Int) (o : Int), cyp m a b o xs j = 0
  | [], o => rfl
  | x :: xs, o => by
    show (if (o * a + b - j) % m = 0 then x else 0) + _ = 0
    rw [if_neg (h o), put_off h xs]
    rfl
/-- g is f put by steps -/
structure Lft (a b m : Int) (f g : Int → Int) : Prop where
  on : ∀ i, g (i * a + b) = f i
  off : ∀ j, (∀ i : Int, (i * a + b - j) % m ≠ 0) → g j = 0
theorem Lft.turn {a b m s : Int} {f g : Int → Int} (h : Lft a b m f g) : Lft a b m (fun i => f i - f (i - s)) (fun j => g j - g (j - s * a)) where
  on i := by
    show g (i * a + b) - g (i * a + b - s * a) = _
    rw [show i * a + b - s * a = (i - s) * a + b by rw [Int.sub_mul]; omega, h.on, h.on]
  off j hj := by
    show g j - g (j - s * a) = 0
    rw [h.off j hj, h.off (j - s * a) fun i => by
      have := hj (i + s)
      rwa [Int.add_mul, show i * a + s * a + b - j = i * a + b - (j - s * a) by omega] at this]
    rfl
theorem Lft.difS {a b m : Int} : ∀ (ss : List Int) {f g : Int → Int}, Lft a b m f g → Lft a b m (difS ss f) (difS (ss.map fun s => s * a) g)
  | [], f, g, h => h
  | s :: ss, f, g, h => Lft.difS ss h.turn
theorem Lft.nought {a b m : Int} {f g : Int → Int} (h : Lft a b m f g) (hg : Per m g) (hf : ∀ i, f i = 0) (j : Int) : g j = 0 := by
  by_cases c : ∃ i : Int, (i * a + b - j) % m = 0
  · obtain ⟨i, hi⟩ := c
    obtain ⟨t, ht⟩ := Int.dvd_of_emod_eq_zero hi
    have := hg j t
    rw [show j + m * t = i * a + b by omega, h.on, hf] at this
    exact this.symm
  · exact h.off j fun i z => c ⟨i, z⟩
/-- what is the same number is so when it is put by steps -/
theorem same_put {n m a b : Int} (hc : Stc n a m) (hs : ∀ g : Int → Int, Per m g → (∀ j, difS ((primesF n).map fun p => n / p * a) g j = 0) → ∀ j, dif m (primesF m) g j = 0) {xs ys : List Int}
    (h : SameN n (cyc n 0 xs) (cyc n 0 ys)) : SameN m (cyp m a b 0 xs) (cyp m a b 0 ys) := fun j => by
  have hL : Lft a b m (fun i => cyc n 0 xs i - cyc n 0 ys i) (fun j => cyp m a b 0 xs j - cyp m a b 0 ys j) := ⟨fun i => by
    rw [put_on hc, put_on hc], fun j hj => by rw [put_off hj, put_off hj]; rfl⟩
  have hp : Per m (fun j => cyp m a b 0 xs j - cyp m a b 0 ys j) := fun j k => by
    show cyp m a b 0 xs (j + m * k) - cyp m a b 0 ys (j + m * k) = _
    rw [cyp_per, cyp_per]
  have h2 := (hL.difS ((primesF n).map fun p => n / p))
  rw [List.map_map] at h2
  have h3 := h2.nought (difS_per _ hp) fun i => by
    rw [difS_sub, ← dif_difS, ← dif_difS]
    have := h i
    omega
  have h4 := hs _ hp h3 j
  rw [dif_difS, difS_sub] at h4
  rw [dif_difS, dif_difS]
  omega
/-! ### which steps are so -/
theorem mul_emod2 (a b m : Int) : (a * (b % m)) % m = (a * b) % m := by
  rw [Int.mul_emod, Int.emod_emod_of_dvd _ (Int.dvd_refl _), ← Int.mul_emod]
theorem pr_dvd {m : Int} (h1 : 1 ≤ m) (h2 : m ≤ 60) {p : Int} (hp : p ∈ primesF m) : 2 ≤ p ∧ m % p = 0 := by
  have h := gc_ok h1 h2
  unfold gcOk at h
  rw [Bool.and_eq_true, List.all_eq_true] at h
  simpa using h.1 p hp
def invOk (m : Int) : Bool := (primesF m).all fun p => (List.range p.toNat).all fun r => r == 0 || (List.range p.toNat).any fun c => decide (((c : Int) * r) % p = 1)
theorem invs_ok : (List.range 60).all (fun i => invOk ((i : Int) + 1)) = true := by decide +kernel
theorem inv_ok {m : Int} (h1 : 1 ≤ m) (h2 : m ≤ 60) {p : Int} (hp : p ∈ primesF m) {a : Int} (ha : a % p ≠ 0) : ∃ (c : Nat) (u : Int), (c : Int) * a = 1 + p * u := by
  have h := List.all_eq_true.mp invs_ok (m - 1).toNat (List.mem_range.mpr (by omega))
  rw [show (((m - 1).toNat : Nat) : Int) + 1 = m by omega] at h
  have h3 := List.all_eq_true.mp h p hp
  have p2 := (pr_dvd h1 h2 hp).1
  have r0 := Int.emod_nonneg a (show p ≠ 0 by omega)
  have r1 := Int.emod_lt_of_pos a (show 0 < p by omega)
  have h4 := List.all_eq_true.mp h3 (a % p).toNat (List.mem_range.mpr (by omega))
  rw [Bool.or_eq_true] at h4
  rcases h4 with h4 | h4
  · have : (a % p).toNat = 0 := by simpa using h4
    omega
  · obtain ⟨c, _, hc⟩ := List.any_eq_true.mp h4
    have hc : ((c : Int) * ((a % p).toNat : Int)) % p = 1 := by simpa using hc
    rw [show (((a % p).toNat : Nat) : Int) = a % p by omega, mul_emod2] at hc
    refine ⟨c, (c : Int) * a / p, ?_⟩
    have := Int.emod_add_mul_ediv ((c : Int) * a) p
    omega
theorem apart_ne {m j : Int} (h : apartB m j = true) {p : Int} (hp : p ∈ primesF m) : j % p ≠ 0 := by
  have := List.all_eq_true.mp h p hp
  simpa using this
theorem shift_move {m a : Int} (h1 : 1 ≤ m) (h2 : m ≤ 60) (ha : apartB m a = true) (g : Int → Int) (hg : Per m g) (h : ∀ j, difS ((primesF m).map fun p => m / p * a) g j = 0) : ∀ j, dif m (primesF m) g j = 0 := fun j => by
  rw [dif_difS]
  refine difS_times (m := m) (fun p => m / p * a) (fun p => m / p) (primesF m) (fun p hp => ?_) hg h j
  obtain ⟨c, u, e⟩ := inv_ok h1 h2 hp (apart_ne ha hp)
  have hd := pr_dvd h1 h2 hp
  obtain ⟨q, hq⟩ := Int.dvd_of_emod_eq_zero hd.2
  have e2 : m / p = q := by rw [hq]; exact Int.mul_ediv_cancel_left _ (by omega)
  refine ⟨c, -u, ?_⟩
  show m / p = c * (m / p * a) + m * -u
  rw [e2]
  have e3 : (c : Int) * (q * a) = q * (c * a) := by rw [← Int.mul_assoc, Int.mul_comm (c : Int) q, Int.mul_assoc]
  rw [e3, e, Int.mul_add, Int.mul_one, hq, Int.mul_neg, ← Int.mul_assoc, Int.mul_comm q p]
  omega
theorem stc_move {m a : Int} (h1 : 1 ≤ m) (h2 : m ≤ 60) (ha : apartB m a = true) : Stc m a m := fun i => by
  have hg : Nat.gcd m.toNat (a % m).toNat = 1 := by
    have := apart_gcd (j := a) h1 h2
    rw [ha] at this
    simpa using this.symm
  constructor
  · intro h
    have r0 := Int.emod_nonneg a (show m ≠ 0 by omega)
    have h3 : (i * (a % m)) % m = 0 := by rw [mul_emod2]; exact h
    have h4 := Int.dvd_of_emod_eq_zero h3
    have h5 : m.toNat ∣ i.natAbs * (a % m).toNat := by
      have := Int.natAbs_dvd_natAbs.mpr h4
      rw [Int.natAbs_mul, show m.natAbs = m.toNat by omega, show (a % m).natAbs = (a % m).toNat by omega] at this
      exact this
    have h6 := Nat.Coprime.dvd_of_dvd_mul_right hg h5
    have h7 : m ∣ i := Int.natAbs_dvd_natAbs.mp (by rwa [show m.natAbs = m.toNat by omega])
    exact Int.emod_eq_zero_of_dvd h7
  · intro h
    rw [Int.mul_emod, h]
    simp
theorem stc_wide {n w : Int} (hw : 1 ≤ w) : Stc n w (n * w) := fun i => by
  constructor
  · intro h
    obtain ⟨t, ht⟩ := Int.dvd_of_emod_eq_zero h
    have : i * w = n * t * w := by rw [ht, Int.mul_assoc, Int.mul_assoc, Int.mul_comm w t]
    have := Int.eq_of_mul_eq_mul_right (show w ≠ 0 by omega) this
    exact Int.emod_eq_zero_of_dvd ⟨t, this⟩
  · intro h
    obtain ⟨t, ht⟩ := Int.dvd_of_emod_eq_zero h
    exact Int.emod_eq_zero_of_dvd ⟨t, by rw [ht, Int.mul_assoc, Int.mul_assoc, Int.mul_comm w t]⟩
def subOk (m : Int) : Bool := (List.range m.toNat).all fun n => !decide (m % ((n : Int) + 1) = 0) || (primesF ((n : Int) + 1)).isSublist (primesF m)
theorem subs_ok : (List.range 60).all (fun i => subOk ((i : Int) + 1)) = true := by decide +kernel
theorem pr_sub {n m : Int} (h1 : 1 ≤ n) (h2 : n ≤ m) (h3 : m ≤ 60) (h : m % n = 0) : (primesF n).Sublist (primesF m) := by
  have q := List.all_eq_true.mp subs_ok (m - 1).toNat (List.mem_range.mpr (by omega))
  rw [show (((m - 1).toNat : Nat) : Int) + 1 = m by omega] at q
  have q2 := List.all_eq_true.mp q (n - 1).toNat (List.mem_range.mpr (by omega))
  rw [show (((n - 1).toNat : Nat) : Int) + 1 = n by omega, h] at q2
  simpa using q2
theorem shift_wide {n w : Int} (h1 : 1 ≤ n) (hw : 1 ≤ w) (h2 : n * w ≤ 60) (g : Int → Int) (_ : Per (n * w) g) (h : ∀ j, difS ((primesF n).map fun p => n / p * w) g j = 0) : ∀ j, dif (n * w) (primesF (n * w)) g j = 0 := by
  have hn : n ≤ n * w := by
    have := Int.mul_le_mul_of_nonneg_left hw (show 0 ≤ n by omega)
    omega
  have e : ((primesF n).map fun p => n / p * w) = (primesF n).map fun p => n * w / p := List.map_congr_left fun p hp => by
    have hd := pr_dvd h1 (by omega) hp
    obtain ⟨q, hq⟩ := Int.dvd_of_emod_eq_zero hd.2
    rw [hq, Int.mul_ediv_cancel_left _ (by omega), Int.mul_assoc, Int.mul_ediv_cancel_left _ (by omega)]
  rw [e] at h
  intro j
  rw [dif_difS]
  exact difS_more ((pr_sub h1 hn h2 (Int.emod_eq_zero_of_dvd ⟨w, rfl⟩)).map _) h j
/-! ### the deeds -/
/-- the number and the sum that the law keeps -/
structure Wst (m : Int) (x : Nat) (f cs : List Int) : Prop where
  m1 : 1 ≤ m
  m2 : m ≤ 60
  fl : f.length = degF m
  cl : (cs.length : Int) = m
  sm : SameN m (cyc m 0 f) (cyc m 0 cs)
  x0 : 200 ≤ x
  bd : Bd x f
theorem Wst.up {m : Int} {x y : Nat} {f cs : List Int} (h : Wst m x f cs) (l : x ≤ y) : Wst m y f cs := ⟨h.m1, h.m2, h.fl, h.cl, h.sm, Nat.le_trans h.x0 l, h.bd.mono l⟩
theorem deg_le {m : Int} (h1 : 1 ≤ m) (h2 : m ≤ 60) : 1 ≤ degF m ∧ (degF m : Int) ≤ m ∧ degF m ≤ 60 := by
  have r := ringF h1 h2
  have := r.deg; have := r.len; have := r.le
  omega
theorem lowF_deg {m : Int} (h1 : 1 ≤ m) (h2 : m ≤ 60) (cs : List Int) : (lowF m cs).length = degF m := by
  have := lowF_len h1 h2 cs
  have := (ringF h1 h2).deg
  omega
theorem apart_back {m : Int} (h1 : 1 ≤ m) (h2 : m ≤ 60) : apartB m (-1) = true := by
  unfold apartB
  rw [List.all_eq_true]
  intro p hp
  have := (pr_dvd h1 h2 hp).1
  have h3 : (-1 : Int) % p = p - 1 := by
    rw [Int.emod_def, show (-1 : Int) / p = -1 by
      rw [Int.ediv_eq_iff_of_pos (by omega)] <;> omega]
    omega
  rw [h3]
  simp
  omega
theorem strF_bd {n : Nat} {xs : List Int} {w : Int} (h : Bd n xs) : Bd n (stretchF xs w) := strN_bdd h _
/-! sums and products -/
theorem cyc_zip {m : Int} : ∀ (xs ys : List Int) (o j : Int), xs.length = ys.length → cyc m o (List.zipWith (fun x y => x + y) xs ys) j = cyc m o xs j + cyc m o ys j
  | [], [], _, _, _ => rfl
  | x :: xs, y :: ys, o, j, h => by
    show (if (o - j) % m = 0 then x + y else 0) + cyc m (o + 1) (List.zipWith _ xs ys) j = (if (o - j) % m = 0 then x else 0) + cyc m (o + 1) xs j + ((if (o - j) % m = 0 then y else 0) + cyc m (o + 1) ys j)
    rw [cyc_zip xs ys (o + 1) j (by simpa using h)]
    split <;> omega
theorem cyc_scale {m c : Int} : ∀ (xs : List Int) (o j : Int), cyc m o (xs.map fun y => c * y) j = c * cyc m o xs j
  | [], _, _ => by simp [cyc]
  | x :: xs, o, j => by
    show (if (o - j) % m = 0 then c * x else 0) + cyc m (o + 1) (xs.map _) j = c * ((if (o - j) % m = 0 then x else 0) + cyc m (o + 1) xs j)
    rw [cyc_scale xs (o + 1) j, Int.mul_add]
    split
    · rfl
    · rw [Int.mul_zero]
theorem same_conv {m : Int} {f cs : List Int} (h : SameN m (cyc m 0 f) (cyc m 0 cs)) : ∀ (ys : List Int) (o : Int), SameN m (conv m o 0 ys f) (conv m o 0 ys cs)
  | [], o => SameN.refl _
  | y :: ys, o => fun j => by
    have e : ∀ zs : List Int, dif m (primesF m) (conv m o 0 (y :: ys) zs) j = dif m (primesF m) (conv m (o + 1) 0 ys zs) j - (-y) * dif m (primesF m) (cyc m 0 zs) (j - o) := fun zs => by
      rw [← dif_turn, ← dif_lin]
      exact dif_congr (fun i => by
        show y * cyc m (o + 0) zs i + _ = _
        rw [show o + 0 = 0 + o by omega, cyc_shift, Int.neg_mul]
        omega) j
    rw [e, e, same_conv h ys (o + 1) j, h]
theorem conv_per {m : Int} : ∀ (xs : List Int) (o p : Int) (ys : List Int) (j k : Int), conv m o p xs ys (j + m * k) = conv m o p xs ys j
  | [], _, _, _, _, _ => rfl
  | x :: xs, o, p, ys, j, k => by
    show x * cyc m (o + p) ys (j + m * k) + conv m (o + 1) p xs ys (j + m * k) = _
    rw [conv_per xs (o + 1) p ys j k, cyc_per]
    rfl
end TB

/-! TbNrm: plain law: a number's lowest form is one; sums and products moved. -/
namespace TB
open PySem L2
/-! ### sums over a list's entries -/
def sv : Int → List Int → (Int → Int) → Int
  | _, [], _ => 0
  | o, x :: xs, h => x * h o + sv (o + 1) xs h
def dl (m d : Int) : Int := if d % m = 0 then 1 else 0
theorem sv_app : ∀ (o : Int) (xs ys : List Int) (h : Int → Int), sv o (xs ++ ys) h = sv o xs h + sv (o + xs.length) ys h
  | o, [], ys, h => by simp [sv]
  | o, x :: xs, ys, h => by
    show _ + sv (o + 1) (xs ++ ys) h = _ + sv (o + 1) xs h + _
    rw [sv_app (o + 1) xs ys h, List.length_cons, show o + 1 + (xs.length : Int) = o + ((xs.length + 1 : Nat) : Int) by omega]
    omega
theorem sv_congr : ∀ (xs : List Int) (o : Int) {h h' : Int → Int}, (∀ i, o ≤ i → i < o + xs.length → h i = h' i) → sv o xs h = sv o xs h'
  | [], o, h, h', e => rfl
  | x :: xs, o, h, h', e => by
    show x * h o + sv (o + 1) xs h = x * h' o + sv (o + 1) xs h'
    rw [e o (by omega) (by simp; omega), sv_congr xs (o + 1) fun i a b => e i (by omega) (by simp; omega)]
theorem sv_add : ∀ (xs : List Int) (o : Int) (h h' : Int → Int), sv o xs (fun i => h i + h' i) = sv o xs h + sv o xs h'
  | [], o, h, h' => rfl
  | x :: xs, o, h, h' => by
    show x * (h o + h' o) + sv (o + 1) xs _ = x * h o + sv (o + 1) xs h + (x * h' o + sv (o + 1) xs h')
    rw [sv_add xs (o + 1) h h', Int.mul_add]
    omega
theorem sv_mul (c : Int) : ∀ (xs : List Int) (o : Int) (h : Int → Int), sv o xs (fun i => c * h i) = c * sv o xs h
  | [], o, h => by simp [sv]
  | x :: xs, o, h => by
    show x * (c * h o) + sv (o + 1) xs _ = c * (x * h o + sv (o + 1) xs h)
    rw [sv_mul c xs (o + 1) h, Int.mul_add, Int.mul_left_comm]
theorem sv_zero : ∀ (xs : List Int) (o : Int), sv o xs (fun _ => 0) = 0
  | [], o => rfl
  | x :: xs, o => by
    show x * 0 + sv (o + 1) xs _ = 0
    rw [sv_zero xs (o + 1), Int.mul_zero]; rfl
theorem sv_swap : ∀ (xs : List Int) (o : Int) (ys : List Int) (p : Int) (F : Int → Int → Int), sv o xs (fun i => sv p ys fun l => F i l) = sv p ys fun l => sv o xs fun i => F i l
  | [], o, ys, p, F => (sv_zero ys p).symm
  | x :: xs, o, ys, p, F => by
    show x * sv p ys (F o) + sv (o + 1) xs _ = sv p ys fun l => x * F o l + sv (o + 1) xs fun i => F i l
    rw [sv_swap xs (o + 1) ys p F, sv_add ys p (fun l => x * F o l), sv_mul]
theorem sv_shift : ∀ (xs : List Int) (o d : Int) (h : Int → Int), sv (o + d) xs h = sv o xs fun i => h (i + d)
  | [], o, d, h => rfl
  | x :: xs, o, d, h => by
    show x * h (o + d) + sv (o + d + 1) xs h = x * h (o + d) + sv (o + 1) xs _
    rw [show o + d + 1 = o + 1 + d by omega, sv_shift xs (o + 1) d h]
theorem sv_zeros : ∀ (n : Nat) (o : Int) (h : Int → Int), sv o (List.replicate n 0) h = 0
  | 0, o, h => rfl
  | n + 1, o, h => by
    rw [List.replicate_succ]
    show 0 * h o + sv (o + 1) (List.replicate n 0) h = 0
    rw [sv_zeros n, Int.zero_mul]; rfl
theorem sv_zip : ∀ (xs ys : List Int) (o : Int) (h : Int → Int), xs.length = ys.length → sv o (List.zipWith (fun x y => x + y) xs ys) h = sv o xs h + sv o ys h
  | [], [], _, _, _ => rfl
  | x :: xs, y :: ys, o, h, e => by
    show (x + y) * h o + sv (o + 1) (List.zipWith _ xs ys) h = x * h o + sv (o + 1) xs h + (y * h o + sv (o + 1) ys h)
    rw [sv_zip xs ys (o + 1) h (by simpa using e), Int.add_mul]
    omega
theorem sv_scale (c : Int) : ∀ (xs : List Int) (o : Int) (h : Int → Int), sv o (xs.map fun x => c * x) h = c * sv o xs h
  | [], o, h => by simp [sv]
  | x :: xs, o, h => by
    show c * x * h o + sv (o + 1) (xs.map _) h = c * (x * h o + sv (o + 1) xs h)
    rw [sv_scale c xs (o + 1) h, Int.mul_add, Int.mul_assoc]
theorem sv_irange {n : Nat} (f h : Int → Int) : sv 0 ((irange ((n : Int) + 1)).map f) h = sv 0 ((irange n).map f) h + f n * h n := by
  rw [irange_suc (by omega), List.map_append, sv_app, List.length_map, irange_len]
  show _ + (f n * h (0 + ((n : Int).toNat : Int)) + 0) = _
  rw [show (0 : Int) + ((n : Int).toNat : Int) = n by omega, Int.add_zero]
theorem sv_irange_add (f g h : Int → Int) : ∀ n : Nat, sv 0 ((irange (n : Int)).map fun j => f j + g j) h = sv 0 ((irange (n : Int)).map f) h + sv 0 ((irange (n : Int)).map g) h
  | 0 => rfl
  | n + 1 => by
    rw [show ((n + 1 : Nat) : Int) = (n : Int) + 1 by omega, sv_irange, sv_irange, sv_irange, sv_irange_add f g h n, Int.add_mul]
    omega
theorem sv_irange_0 (h : Int → Int) (n : Nat) : sv 0 ((irange (n : Int)).map fun _ => 0) h = 0 := by
  rw [← zeros_map]
  exact sv_zeros _ _ _
/-- one entry alone -/
theorem sv_one {m c : Int} {h : Int → Int} (hp : Per m h) (h1 : 1 ≤ m) (x : Int) : sv 0 ((irange m).map fun j => if (c - j) % m = 0 then x else 0) h = x * h c := by
  have key : ∀ n : Nat, (n : Int) ≤ m → sv 0 ((irange n).map fun j => if (c - j) % m = 0 then x else 0) h = if c % m < n then x * h (c % m) else 0 := by
    intro n
    induction n with
    | zero =>
      intro _
      have := Int.emod_nonneg c (show m ≠ 0 by omega)
      rw [if_neg (by omega)]
      rfl
    | succ n ih =>
      intro hn
      have g := ih (by omega)
      rw [show ((n + 1 : Nat) : Int) = (n : Int) + 1 by omega, sv_irange, g]
      have q := mod_iff (m := m) (a := c) (j := (n : Int)) h1 (by omega) (by omega)
      simp only [q]
      by_cases c1 : (n : Int) = c % m
      · rw [if_neg (by omega), if_pos c1, if_pos (by omega), ← c1]; omega
      · rw [if_neg c1]
        by_cases c3 : c % m < n
        · rw [if_pos c3, if_pos (by omega)]; omega
        · rw [if_neg c3, if_neg (by omega)]; omega
  have := key m.toNat (by omega)
  rw [show ((m.toNat : Nat) : Int) = m by omega, if_pos (Int.emod_lt_of_pos _ (by omega))] at this
  rw [this]
  have q := hp (c % m) (c / m)
  rw [Int.emod_add_mul_ediv] at q
  rw [← q]
theorem sv_cyp {m a b : Int} {h : Int → Int} (hp : Per m h) (h1 : 1 ≤ m) : ∀ (xs : List Int) (o : Int), sv 0 ((irange m).map (cyp m a b o xs)) h = sv o xs fun k => h (k * a + b)
  | [], o => by
    have := sv_irange_0 h m.toNat
    rw [show ((m.toNat : Nat) : Int) = m by omega] at this
    exact this
  | x :: xs, o => by
    have := sv_irange_add (fun j => if (o * a + b - j) % m = 0 then x else 0) (cyp m a b (o + 1) xs) h m.toNat
    rw [show ((m.toNat : Nat) : Int) = m by omega, sv_cyp hp h1 xs (o + 1), sv_one hp h1] at this
    exact this
/-- what is put by steps -/
theorem sv_put {m a b : Int} {h : Int → Int} (hp : Per m h) (h1 : 1 ≤ m) (xs : List Int) : sv 0 (putL m a b xs) h = sv 0 xs fun k => h (k * a + b) := sv_cyp hp h1 xs 0
theorem cyp_sv {m a b : Int} : ∀ (xs : List Int) (o j : Int), cyp m a b o xs j = sv o xs fun k => dl m (k * a + b - j)
  | [], o, j => rfl
  | x :: xs, o, j => by
    show (if (o * a + b - j) % m = 0 then x else 0) + cyp m a b (o + 1) xs j = x * (if (o * a + b - j) % m = 0 then 1 else 0) + sv (o + 1) xs _
    rw [cyp_sv xs (o + 1) j]
    split
    · rw [Int.mul_one]
    · rw [Int.mul_zero]
theorem cyc_sv {m : Int} (xs : List Int) (o j : Int) : cyc m o xs j = sv o xs fun k => dl m (k - j) := by
  rw [← cyp_cyc, cyp_sv]
  simp only [Int.mul_one, Int.add_zero]
theorem dl_per (m : Int) (c : Int) : Per m fun k => dl m (k - c) := fun j k => by
  show (if (j + m * k - c) % m = 0 then (1 : Int) else 0) = if (j - c) % m = 0 then 1 else 0
  rw [show j + m * k - c = j - c + m * k by omega, Int.add_mul_emod_self_left]
theorem conv_sv {m : Int} : ∀ (xs : List Int) (o p : Int) (ys : List Int) (j : Int), conv m o p xs ys j = sv o xs fun k => sv p ys fun l => dl m (k + l - j)
  | [], o, p, ys, j => rfl
  | x :: xs, o, p, ys, j => by
    show x * cyc m (o + p) ys j + conv m (o + 1) p xs ys j = x * _ + sv (o + 1) xs _
    rw [conv_sv xs (o + 1) p ys j, cyc_sv, show o + p = p + o by omega, sv_shift]
    congr 2
    exact sv_congr ys p fun i _ _ => by rw [show i + o - j = o + i - j by omega]
theorem sv_irange_mul (c : Int) (f h : Int → Int) : ∀ n : Nat, sv 0 ((irange (n : Int)).map fun j => c * f j) h = c * sv 0 ((irange (n : Int)).map f) h
  | 0 => by simp [irange_0, sv]
  | n + 1 => by
    rw [show ((n + 1 : Nat) : Int) = (n : Int) + 1 by omega, sv_irange, sv_irange, sv_irange_mul c f h n, Int.mul_add, Int.mul_assoc]
theorem sv_conv {m : Int} {h : Int → Int} (hp : Per m h) (h1 : 1 ≤ m) (ys : List Int) : ∀ (xs : List Int) (o : Int), sv 0 ((irange m).map (conv m o 0 xs ys)) h = sv o xs fun k => sv 0 ys fun l => h (k + l)
  | [], o => by
    have := sv_irange_0 h m.toNat
    rw [show ((m.toNat : Nat) : Int) = m by omega] at this
    exact this
  | x :: xs, o => by
    have := sv_irange_add (fun j => x * cyc m (o + 0) ys j) (conv m (o + 1) 0 xs ys) h m.toNat
    rw [sv_irange_mul] at this
    rw [show ((m.toNat : Nat) : Int) = m by omega, sv_conv hp h1 ys xs (o + 1)] at this
    have e : sv 0 ((irange m).map fun j => cyc m (o + 0) ys j) h = sv 0 ys fun l => h (o + l) := by
      have e2 : ∀ j, cyc m (o + 0) ys j = cyp m 1 o 0 ys j := fun j => by
        rw [cyc_sv, cyp_sv, show o + 0 = 0 + o by omega, sv_shift]
        exact sv_congr ys 0 fun i _ _ => by rw [Int.mul_one]
      rw [show (fun j => cyc m (o + 0) ys j) = cyp m 1 o 0 ys from funext e2, sv_cyp hp h1]
      exact sv_congr ys 0 fun i _ _ => by rw [Int.mul_one, Int.add_comm]
    rw [e] at this
    exact this
/-- a product's entries -/
theorem sv_prod {m : Int} {h : Int → Int} (hp : Per m h) (h1 : 1 ≤ m) (xs ys : List Int) : sv 0 (prodL m xs ys) h = sv 0 xs fun k => sv 0 ys fun l => h (k + l) := sv_conv hp h1 ys xs 0
/-! ### what is nought round the wheel has the lowest form nought -/
def acl (q : List Int) (f : Int → Int) (j : Int) : Int := sv 0 q fun k => f (j - k)
def nsm (s : Int) (f : Int → Int) : Nat → Int → Int
  | 0, _ => 0
  | i + 1, j => nsm s f i j + f (j - (i : Int) * s)
/-- by m: x to the m less 1, divided by the circle of m -/
def psiT : List (List Int) := [[1], [-1, 1], [-1, 1], [-1, 0, 1], [-1, 1], [-1, -1, 0, 1, 1], [-1, 1], [-1, 0, 0, 0, 1], [-1, 0, 0, 1], [-1, -1, 0, 0, 0, 1, 1], [-1, 1], [-1, 0, -1, 0, 0, 0, 1, 0, 1], [-1, 1], [-1, -1, 0, 0, 0, 0, 0, 1, 1], [-1, -1, -1, 0, 0, 1, 1, 1], [-1, 0, 0, 0, 0, 0, 0, 0, 1], [-1, 1], [-1, 0, 0, -1, 0, 0, 0, 0, 0, 1, 0, 0, 1], [-1, 1], [-1, 0, -1, 0, 0, 0, 0, 0, 0, 0, 1, 0, 1], [-1, -1, -1, 0, 0, 0, 0, 1, 1, 1], [-1, -1, 0, 0, 0, 0, 0, 0, 0, 0, 0, 1, 1], [-1, 1], [-1, 0, 0, 0, -1, 0, 0, 0, 0, 0, 0, 0, 1, 0, 0, 0, 1], [-1, 0, 0, 0, 0, 1], [-1, -1, 0, 0, 0, 0, 0, 0, 0, 0, 0, 0, 0, 1, 1], [-1, 0, 0, 0, 0, 0, 0, 0, 0, 1], [-1, 0, -1, 0, 0, 0, 0, 0, 0, 0, 0, 0, 0, 0, 1, 0, 1], [-1, 1], [-1, 1, -1, 0, 0, -1, 1, -1, 0, 0, 0, 0, 0, 0, 0, 1, -1, 1, 0, 0, 1, -1, 1], [-1, 1], [-1, 0, 0, 0, 0, 0, 0, 0, 0, 0, 0, 0, 0, 0, 0, 0, 1], [-1, -1, -1, 0, 0, 0, 0, 0, 0, 0, 0, 1, 1, 1], [-1, -1, 0, 0, 0, 0, 0, 0, 0, 0, 0, 0, 0, 0, 0, 0, 0, 1, 1], [-1, -1, -1, -1, -1, 0, 0, 1, 1, 1, 1, 1], [-1, 0, 0, 0, 0, 0, -1, 0, 0, 0, 0, 0, 0, 0, 0, 0, 0, 0, 1, 0, 0, 0, 0, 0, 1], [-1, 1], [-1, -1, 0, 0, 0, 0, 0, 0, 0, 0, 0, 0, 0, 0, 0, 0, 0, 0, 0, 1, 1], [-1, -1, -1, 0, 0, 0, 0, 0, 0, 0, 0, 0, 0, 1, 1, 1], [-1, 0, 0, 0, -1, 0, 0, 0, 0, 0, 0, 0, 0, 0, 0, 0, 0, 0, 0, 0, 1, 0, 0, 0, 1], [-1, 1], [-1, 1, -1, 0, 0, 0, 0, -1, 1, -1, 0, 0, 0, 0, 0, 0, 0, 0, 0, 0, 0, 1, -1, 1, 0, 0, 0, 0, 1, -1, 1], [-1, 1], [-1, 0, -1, 0, 0, 0, 0, 0, 0, 0, 0, 0, 0, 0, 0, 0, 0, 0, 0, 0, 0, 0, 1, 0, 1], [-1, 0, 0, -1, 0, 0, -1, 0, 0, 0, 0, 0, 0, 0, 0, 1, 0, 0, 1, 0, 0, 1], [-1, -1, 0, 0, 0, 0, 0, 0, 0, 0, 0, 0, 0, 0, 0, 0, 0, 0, 0, 0, 0, 0, 0, 1, 1], [-1, 1], [-1, 0, 0, 0, 0, 0, 0, 0, -1, 0, 0, 0, 0, 0, 0, 0, 0, 0, 0, 0, 0, 0, 0, 0, 1, 0, 0, 0, 0, 0, 0, 0, 1], [-1, 0, 0, 0, 0, 0, 0, 1], [-1, 0, 0, 0, 0, -1, 0, 0, 0, 0, 0, 0, 0, 0, 0, 0, 0, 0, 0, 0, 0, 0, 0, 0, 0, 1, 0, 0, 0, 0, 1], [-1, -1, -1, 0, 0, 0, 0, 0, 0, 0, 0, 0, 0, 0, 0, 0, 0, 1, 1, 1], [-1, 0, -1, 0, 0, 0, 0, 0, 0, 0, 0, 0, 0, 0, 0, 0, 0, 0, 0, 0, 0, 0, 0, 0, 0, 0, 1, 0, 1], [-1, 1], [-1, 0, 0, 0, 0, 0, 0, 0, 0, -1, 0, 0, 0, 0, 0, 0, 0, 0, 0, 0, 0, 0, 0, 0, 0, 0, 0, 1, 0, 0, 0, 0, 0, 0, 0, 0, 1], [-1, -1, -1, -1, -1, 0, 0, 0, 0, 0, 0, 1, 1, 1, 1, 1], [-1, 0, 0, 0, -1, 0, 0, 0, 0, 0, 0, 0, 0, 0, 0, 0, 0, 0, 0, 0, 0, 0, 0, 0, 0, 0, 0, 0, 1, 0, 0, 0, 1], [-1, -1, -1, 0, 0, 0, 0, 0, 0, 0, 0, 0, 0, 0, 0, 0, 0, 0, 0, 1, 1, 1], [-1, -1, 0, 0, 0, 0, 0, 0, 0, 0, 0, 0, 0, 0, 0, 0, 0, 0, 0, 0, 0, 0, 0, 0, 0, 0, 0, 0, 0, 1, 1], [-1, 1], [-1, 0, 1, 0, -1, 0, 0, 0, 0, 0, -1, 0, 1, 0, -1, 0, 0, 0, 0, 0, 0, 0, 0, 0, 0, 0, 0, 0, 0, 0, 1, 0, -1, 0, 1, 0, 0, 0, 0, 0, 1, 0, -1, 0, 1]]
def psiF (m : Int) : List Int := psiT.getD (m.toNat - 1) []
def psiOk (m : Int) : Bool := decide ((psiF m).length + degF m = m.toNat + 1) && decide (gt (psiF m) ((m.toNat - degF m : Nat) : Int) = 1) && decide (1 ≤ degF m) && decide (degF m ≤ m.toNat) &&
  (primesF m).all fun p => decide (2 ≤ p) && decide (m / p * p = m) && (irange (m / p)).all fun j => decide (nsm (m / p) (cyc m 0 (psiF m)) p.toNat j = 0)
theorem psis_ok : (List.range 60).all (fun i => psiOk ((i : Int) + 1)) = true := by decide +kernel
theorem psi_ok {m : Int} (h1 : 1 ≤ m) (h2 : m ≤ 60) : psiOk m = true := by
  have := List.all_eq_true.mp psis_ok (m.toNat - 1) (by rw [List.mem_range]; omega)
  rw [show ((m.toNat - 1 : Nat) : Int) + 1 = m by omega] at this
  exact this
theorem nsm_back {s : Int} {h : Int → Int} (e : ∀ j, h j = h (j - s)) : ∀ (n : Nat) (j : Int), nsm s h n j = n * h j
  | 0, j => by simp [nsm]
  | n + 1, j => by
    show nsm s h n j + h (j - (n : Int) * s) = _
    rw [nsm_back e n j, ← back_many e n j, show ((n + 1 : Nat) : Int) = (n : Int) + 1 by omega, Int.add_mul, Int.one_mul]
theorem difS_add : ∀ (ss : List Int) (f g : Int → Int) (j : Int), difS ss (fun i => f i + g i) j = difS ss f j + difS ss g j
  | [], f, g, j => rfl
  | s :: ss, f, g, j => by
    show difS ss (fun i => (f i + g i) - (f (i - s) + g (i - s))) j = _
    have : (fun i => (f i + g i) - (f (i - s) + g (i - s))) = fun i => (f i - f (i - s)) + (g i - g (i - s)) := by
      funext i; omega
    rw [this, difS_add ss]
    rfl
theorem difS_mul (c : Int) : ∀ (ss : List Int) (f : Int → Int) (j : Int), difS ss (fun i => c * f i) j = c * difS ss f j
  | [], f, j => rfl
  | s :: ss, f, j => by
    show difS ss (fun i => c * f i - c * f (i - s)) j = _
    have : (fun i => c * f i - c * f (i - s)) = fun i => c * (f i - f (i - s)) := by
      funext i; rw [Int.mul_sub]
    rw [this, difS_mul c ss]
    rfl
theorem difS_nsm (ss : List Int) (s : Int) (f : Int → Int) : ∀ (n : Nat) (j : Int), difS ss (nsm s f n) j = nsm s (difS ss f) n j
  | 0, j => difS_zero ss (fun _ => rfl) j
  | n + 1, j => by
    have e : difS ss (nsm s f (n + 1)) j = difS ss (nsm s f n) j + difS ss (fun i => f (i - (n : Int) * s)) j := difS_add ss (nsm s f n) (fun i => f (i - (n : Int) * s)) j
    rw [e, difS_nsm ss s f n j, difS_turn]
    rfl
theorem nsm_next (s : Int) (f : Int → Int) : ∀ (n : Nat) (j : Int), nsm s f n (j - s) + f j = nsm s f n j + f (j - (n : Int) * s)
  | 0, j => by simp [nsm]
  | n + 1, j => by
    have ih := nsm_next s f n j
    show nsm s f n (j - s) + f (j - s - (n : Int) * s) + f j = nsm s f n j + f (j - (n : Int) * s) + f (j - ((n + 1 : Nat) : Int) * s)
    rw [show j - s - (n : Int) * s = j - ((n + 1 : Nat) : Int) * s by
      rw [show ((n + 1 : Nat) : Int) = (n : Int) + 1 by omega, Int.add_mul, Int.one_mul]; omega]
    omega
theorem nsm_per {m s : Int} {n : Nat} {f : Int → Int} (h : Per m f) (e : (n : Int) * s = m) : Per s (nsm s f n) := fun j k => by
  have b : ∀ j, nsm s f n j = nsm s f n (j - s) := fun j => by
    have := nsm_next s f n j
    have q := h (j - m) 1
    rw [show j - m + m * 1 = j by omega] at q
    rw [e] at this
    omega
  have up : ∀ (c : Nat) (j : Int), nsm s f n (j + s * c) = nsm s f n j := fun c j => by
    have := back_many b c (j + s * c)
    rw [show j + s * (c : Int) - c * s = j by rw [Int.mul_comm s]; omega] at this
    exact this
  rcases Int.le_total 0 k with q | q
  · have := up k.toNat j
    rwa [show ((k.toNat : Nat) : Int) = k by omega] at this
  · have := up (-k).toNat (j + s * k)
    rw [show (((-k).toNat : Nat) : Int) = -k by omega, show j + s * k + s * -k = j by rw [Int.mul_neg]; omega] at this
    exact this.symm
theorem acl_nsm (q : List Int) (s : Int) (f : Int → Int) : ∀ (n : Nat) (j : Int), acl q (nsm s f n) j = nsm s (acl q f) n j
  | 0, j => sv_zero q 0
  | n + 1, j => by
    have e : acl q (nsm s f (n + 1)) j = acl q (nsm s f n) j + sv 0 q (fun k => f (j - k - (n : Int) * s)) := sv_add q 0 (fun k => nsm s f n (j - k)) (fun k => f (j - k - (n : Int) * s))
    rw [e, acl_nsm q s f n j]
    show _ = nsm s (acl q f) n j + sv 0 q fun k => f (j - (n : Int) * s - k)
    congr 1
    exact sv_congr q 0 fun i _ _ => by rw [show j - i - (n : Int) * s = j - (n : Int) * s - i by omega]
theorem per_nsm {m s : Int} {f : Int → Int} (h : Per m f) : ∀ n : Nat, Per m (nsm s f n)
  | 0 => fun _ _ => rfl
  | n + 1 => fun j k => by
    show nsm s f n (j + m * k) + f (j + m * k - (n : Int) * s) = _
    rw [per_nsm h n j k, show j + m * k - (n : Int) * s = j - (n : Int) * s + m * k by omega, h]
    rfl
theorem acl_cyc {m : Int} (q xs : List Int) (j : Int) : acl q (cyc m 0 xs) j = acl xs (cyc m 0 q) j := by
  unfold acl
  have e1 : (sv 0 q fun k => cyc m 0 xs (j - k)) = sv 0 q fun k => sv 0 xs fun l => dl m (l + k - j) := sv_congr q 0 fun k _ _ => by
    rw [cyc_sv]
    exact sv_congr xs 0 fun l _ _ => by rw [show l - (j - k) = l + k - j by omega]
  have e2 : (sv 0 xs fun k => cyc m 0 q (j - k)) = sv 0 xs fun l => sv 0 q fun k => dl m (l + k - j) := sv_congr xs 0 fun k _ _ => by
    rw [cyc_sv]
    exact sv_congr q 0 fun l _ _ => by rw [show l - (j - k) = k + l - j by omega]
  rw [e1, e2, sv_swap]
structure PsiOk (m : Int) : Prop where
  len : (psiF m).length + degF m = m.toNat + 1
  one : gt (psiF m) ((m.toNat - degF m : Nat) : Int) = 1
  d1 : 1 ≤ degF m
  d2 : degF m ≤ m.toNat
  pr : ∀ p ∈ primesF m, 2 ≤ p ∧ m / p * p = m ∧ ∀ j, nsm (m / p) (cyc m 0 (psiF m)) p.toNat j = 0
theorem psi_is {m : Int} (h1 : 1 ≤ m) (h2 : m ≤ 60) : PsiOk m := by
  have h := psi_ok h1 h2
  unfold psiOk at h
  simp only [Bool.and_eq_true, decide_eq_true_eq, List.all_eq_true] at h
  obtain ⟨⟨⟨⟨a, b⟩, c⟩, d⟩, e⟩ := h
  refine ⟨a, b, c, d, fun p hp => ⟨(e p hp).1.1, (e p hp).1.2, fun j => ?_⟩⟩
  have p2 := (e p hp).1.1
  have pm := (e p hp).1.2
  have s1 : 1 ≤ m / p := by
    rcases Int.lt_trichotomy (m / p) 0 with q | q | q
    · have := Int.mul_neg_of_neg_of_pos q (show 0 < p by omega); omega
    · rw [q] at pm; omega
    · omega
  exact per_all (nsm_per (m := m) per_cyc (by rw [Int.mul_comm, show ((p.toNat : Nat) : Int) = p by omega]; exact pm)) s1 (fun j j0 j1 => (e p hp).2 j (mem_irange.mpr ⟨j0, j1⟩)) j
/-- what is nought all round is nought times the others' circles -/
theorem acl_nought {m : Int} (h1 : 1 ≤ m) (h2 : m ≤ 60) : ∀ (ps : List Int), (∀ p ∈ ps, p ∈ primesF m) → ∀ f : Int → Int, Per m f → (∀ j, difS (ps.map fun p => m / p) f j = 0) → ∀ j, acl (psiF m) f j = 0
  | [], _, f, hf, h, j => by
    unfold acl
    rw [show (fun k => f (j - k)) = fun _ => 0 from funext fun k => h _]
    exact sv_zero _ _
  | p :: ps, hp, f, hf, h, j => by
    obtain ⟨p2, pm, pz⟩ := (psi_is h1 h2).pr p (hp p (by simp))
    have e : ∀ j, difS (ps.map fun p => m / p) f j = difS (ps.map fun p => m / p) f (j - m / p) := fun j => by
      have := h j
      rw [List.map_cons, difS_out] at this
      omega
    have ih := acl_nought h1 h2 ps (fun q hq => hp q (by simp [hq])) (fun i => (p.toNat : Int) * f i - nsm (m / p) f p.toNat i) (fun j k => by
      show (p.toNat : Int) * f (j + m * k) - nsm (m / p) f p.toNat (j + m * k) = _
      rw [hf, per_nsm hf]) (fun j => by
      rw [difS_sub _ (fun i => (p.toNat : Int) * f i), difS_mul, difS_nsm, nsm_back e]
      omega) j
    have e2 : acl (psiF m) (fun i => (p.toNat : Int) * f i - nsm (m / p) f p.toNat i) j = (p.toNat : Int) * acl (psiF m) f j - acl (psiF m) (nsm (m / p) f p.toNat) j := by
      unfold acl
      have := sv_add (psiF m) 0 (fun k => (p.toNat : Int) * f (j - k)) (fun k => -1 * nsm (m / p) f p.toNat (j - k))
      rw [sv_mul, sv_mul] at this
      rw [show (fun k => (p.toNat : Int) * f (j - k) - nsm (m / p) f p.toNat (j - k)) = fun k => (p.toNat : Int) * f (j - k) + -1 * nsm (m / p) f p.toNat (j - k) from funext fun k => by omega, this]
      omega
    have e3 : acl (psiF m) (nsm (m / p) f p.toNat) j = 0 := by
      rw [acl_nsm]
      have ef : acl (psiF m) f = acl ((irange m).map f) (cyc m 0 (psiF m)) := funext fun j => by
        rw [← acl_cyc, show cyc m 0 ((irange m).map f) = f from funext fun i => cyc_map hf h1 i]
      rw [ef, ← acl_nsm]
      unfold acl
      rw [show (fun k => nsm (m / p) (cyc m 0 (psiF m)) p.toNat (j - k)) = fun _ => 0 from funext fun k => pz _]
      exact sv_zero _ _
    rw [e2, e3] at ih
    have : (p.toNat : Int) ≠ 0 := by omega
    rcases Int.mul_eq_zero.mp (show (p.toNat : Int) * acl (psiF m) f j = 0 by omega) with q | q
    · exact absurd q this
    · exact q
theorem acl_low {m : Int} (h1 : 1 ≤ m) (h2 : m ≤ 60) : ∀ (n : Nat) (zs : List Int), zs.length = n → n ≤ degF m → (∀ j, acl zs (cyc m 0 (psiF m)) j = 0) → zs = List.replicate n 0
  | 0, zs, hl, _, _ => by rw [List.eq_nil_of_length_eq_zero hl]; rfl
  | n + 1, zs, hl, hn, h => by
    have P := psi_is h1 h2
    have pl := P.len
    have P0 : ∀ i : Int, 0 ≤ i → i < m → cyc m 0 (psiF m) i = gt (psiF m ++ List.replicate (m.toNat - (psiF m).length) 0) i := fun i i0 i1 => by
      rw [← fold_short h1 (by have := P.d1; omega), gt_map i0 i1]
    have top : cyc m 0 (psiF m) ((m.toNat - degF m : Nat) : Int) = 1 := by
      have := P.d1; have := P.d2
      rw [P0 _ (by omega) (by omega)]
      have e := P.one
      rw [gt_nat (by omega)] at e
      rw [gt_nat (by rw [List.length_append]; omega), List.getElem_append_left (by omega)]
      exact e
    have off : ∀ i : Nat, m.toNat - degF m < i → i < m.toNat → cyc m 0 (psiF m) (i : Int) = 0 := fun i a b => by
      rw [P0 _ (by omega) (by omega), gt_nat (by rw [List.length_append, List.length_replicate]; omega), List.getElem_append_right (by omega), List.getElem_replicate]
    have ne : zs ≠ [] := fun z => by rw [z] at hl; simp at hl
    have ez : zs = zs.dropLast ++ [zs.getLastD 0] := by
      rw [List.getLastD_eq_getLast?, List.getLast?_eq_some_getLast ne]
      exact (List.dropLast_concat_getLast ne).symm
    have ll : zs.dropLast.length = n := by rw [List.length_dropLast]; omega
    generalize zs.dropLast = ys at ez ll
    generalize zs.getLastD 0 = x at ez
    subst ez
    have key : ∀ j, acl (ys ++ [x]) (cyc m 0 (psiF m)) j = acl ys (cyc m 0 (psiF m)) j + x * cyc m 0 (psiF m) (j - n) := fun j => by
      unfold acl
      rw [sv_app, ll]
      show _ + (x * cyc m 0 (psiF m) (j - (0 + (n : Int))) + 0) = _
      rw [Int.zero_add, Int.add_zero]
    have x0 : x = 0 := by
      have := h ((n : Int) + ((m.toNat - degF m : Nat) : Int))
      rw [key, show (n : Int) + ((m.toNat - degF m : Nat) : Int) - n = ((m.toNat - degF m : Nat) : Int) by omega, top] at this
      have e : acl ys (cyc m 0 (psiF m)) ((n : Int) + ((m.toNat - degF m : Nat) : Int)) = 0 := by
        unfold acl
        rw [sv_congr ys 0 (h' := fun _ => 0) fun i a b => by
          have := P.d2
          have := off ((n : Int) + ((m.toNat - degF m : Nat) : Int) - i).toNat (by omega) (by omega)
          rw [show ((((n : Int) + ((m.toNat - degF m : Nat) : Int) - i).toNat : Nat) : Int) = (n : Int) + ((m.toNat - degF m : Nat) : Int) - i by omega] at this
          exact this]
        exact sv_zero _ _
      omega
    subst x0
    have := acl_low h1 h2 n ys ll (by omega) fun j => by
      have := h j
      rw [key] at this
      omega
    rw [this, List.replicate_succ']
/-- lowest forms of the same number are one -/
theorem same_low {m : Int} (h1 : 1 ≤ m) (h2 : m ≤ 60) {xs ys : List Int} (hx : xs.length = degF m) (hy : ys.length = degF m) (h : SameN m (cyc m 0 xs) (cyc m 0 ys)) : xs = ys := by
  have hl : (ys.map fun y => -1 * y).length = xs.length := by rw [List.length_map]; omega
  have e1 : ∀ j, cyc m 0 (List.zipWith (fun x y => x + y) xs (ys.map fun y => -1 * y)) j = cyc m 0 xs j - cyc m 0 ys j := fun j => by
    rw [cyc_zip _ _ _ _ hl.symm, cyc_scale]; omega
  have z := acl_low h1 h2 (degF m) (List.zipWith (fun x y => x + y) xs (ys.map fun y => -1 * y)) (by rw [List.length_zipWith]; omega) (Nat.le_refl _) fun j => by
    rw [← acl_cyc]
    refine acl_nought h1 h2 (primesF m) (fun p hp => hp) _ per_cyc (fun j => ?_) j
    rw [show cyc m 0 (List.zipWith (fun x y => x + y) xs (ys.map fun y => -1 * y)) = fun j => cyc m 0 xs j - cyc m 0 ys j from funext e1, difS_sub, ← dif_difS, ← dif_difS]
    have := h j
    omega
  refine List.ext_getElem (by omega) fun i a b => ?_
  have : (List.zipWith (fun x y => x + y) xs (ys.map fun y => -1 * y))[i]? = (List.replicate (degF m) (0 : Int))[i]? := by rw [z]
  rw [List.getElem?_eq_getElem (by rw [List.length_zipWith]; omega), List.getElem?_eq_getElem (by simp; omega), List.getElem_zipWith, List.getElem_map, List.getElem_replicate] at this
  have := Option.some.inj this
  omega
end TB

/-! TbNr2: plain law: the ring of a wheel's numbers in lowest form; moves and wider wheels keep sums and products. -/
namespace TB
open PySem L2
abbrev mvF (m a : Int) (xs : List Int) : List Int := lowF m (putL m a 0 xs)
abbrev tmF (m : Int) (xs ys : List Int) : List Int := lowF m (prodL m xs ys)
abbrev adz (xs ys : List Int) : List Int := List.zipWith (fun x y => x + y) xs ys
theorem same_add {m : Int} {f f' g g' : Int → Int} (a : SameN m f f') (b : SameN m g g') : SameN m (fun j => f j + g j) (fun j => f' j + g' j) := fun j => by
  rw [dif_difS, dif_difS, difS_add, difS_add]
  have h1 := a j
  have h2 := b j
  rw [dif_difS, dif_difS] at h1 h2
  rw [h1, h2]
theorem same_mul {m : Int} (c : Int) {f f' : Int → Int} (a : SameN m f f') : SameN m (fun j => c * f j) (fun j => c * f' j) := fun j => by
  rw [dif_difS, dif_difS, difS_mul, difS_mul]
  have h1 := a j
  rw [dif_difS, dif_difS] at h1
  rw [h1]
theorem same_is {m : Int} {f g : Int → Int} (h : ∀ j, f j = g j) : SameN m f g := by rw [show f = g from funext h]; exact SameN.refl _
section
variable {m : Int} (h1 : 1 ≤ m) (h2 : m ≤ 60)
include h1 h2
theorem low_same {xs ys : List Int} (h : SameN m (cyc m 0 xs) (cyc m 0 ys)) : lowF m xs = lowF m ys :=
  same_low h1 h2 (lowF_deg h1 h2 _) (lowF_deg h1 h2 _) (((lowF_same h1 h2 xs).trans h).trans (lowF_same h1 h2 ys).symm)
theorem low_is {xs ys : List Int} (h : ∀ j, cyc m 0 xs j = cyc m 0 ys j) : lowF m xs = lowF m ys := low_same h1 h2 (same_is h)
theorem low_short {xs : List Int} (hl : xs.length = degF m) : lowF m xs = xs := same_low h1 h2 (lowF_deg h1 h2 _) hl (lowF_same h1 h2 xs)
omit h2 in
theorem cyc_prod (xs ys : List Int) (j : Int) : cyc m 0 (prodL m xs ys) j = conv m 0 0 xs ys j := cyc_map (fun j k => conv_per xs 0 0 ys j k) h1 j
theorem prod_same {xs xs' : List Int} (ys : List Int) (h : SameN m (cyc m 0 xs) (cyc m 0 xs')) : tmF m xs ys = tmF m xs' ys :=
  low_same h1 h2 (by
    rw [show cyc m 0 (prodL m xs ys) = conv m 0 0 ys xs from funext fun j => by rw [cyc_prod h1, conv_comm], show cyc m 0 (prodL m xs' ys) = conv m 0 0 ys xs' from funext fun j => by rw [cyc_prod h1, conv_comm]]
    exact same_conv h ys 0)
omit h1 h2 in
theorem tm_comm (xs ys : List Int) : tmF m xs ys = tmF m ys xs := by
  show lowF m (prodL m xs ys) = _
  rw [prodL_comm]
theorem tm_lowL (xs ys : List Int) : tmF m (lowF m xs) ys = tmF m xs ys := prod_same h1 h2 ys (lowF_same h1 h2 xs)
theorem tm_lowR (xs ys : List Int) : tmF m xs (lowF m ys) = tmF m xs ys := by rw [tm_comm, tm_lowL h1 h2, tm_comm]
omit h2 in
theorem prod_sv (xs ys : List Int) (j : Int) : cyc m 0 (prodL m xs ys) j = sv 0 xs fun k => sv 0 ys fun l => dl m (k + l - j) := by rw [cyc_prod h1, conv_sv]
omit h2 in
theorem put_sv (a : Int) (xs : List Int) (j : Int) : cyc m 0 (putL m a 0 xs) j = sv 0 xs fun k => dl m (k * a - j) := by
  rw [cyc_put h1, cyp_sv]
  exact sv_congr xs 0 fun k _ _ => by rw [Int.add_zero]
omit h1 h2 in
theorem dl_step {M a : Int} (c : Int) (hM : m * a = M * c) (b : Int) : Per m fun k => dl M (k * a - b) := fun j k => by
  show dl M ((j + m * k) * a - b) = dl M (j * a - b)
  unfold dl
  rw [show (j + m * k) * a - b = j * a - b + M * (c * k) by
    rw [Int.add_mul, Int.mul_right_comm, hM, Int.mul_assoc]; omega, Int.add_mul_emod_self_left]
omit h1 h2 in
theorem sv_per {ys : List Int} {F : Int → Int → Int} (h : ∀ l, Per m fun k => F k l) : Per m fun k => sv 0 ys fun l => F k l := fun j k => sv_congr ys 0 fun l _ _ => h l j k
theorem tm_assoc (xs ys zs : List Int) : tmF m (tmF m xs ys) zs = tmF m xs (tmF m ys zs) := by
  rw [tm_lowL h1 h2, tm_lowR h1 h2]
  refine low_is h1 h2 fun j => ?_
  rw [prod_sv h1, prod_sv h1, sv_prod (sv_per fun l j' k => by
    have := dl_per m (j - l) j' k
    show dl m (j' + m * k + l - j) = dl m (j' + l - j)
    rw [show j' + m * k + l - j = j' + m * k - (j - l) by omega, show j' + l - j = j' - (j - l) by omega]; exact this) h1]
  refine sv_congr xs 0 fun k _ _ => ?_
  rw [sv_prod (fun j' k' => by
    have := dl_per m (j - k) j' k'
    show dl m (k + (j' + m * k') - j) = dl m (k + j' - j)
    rw [show k + (j' + m * k') - j = j' + m * k' - (j - k) by omega, show k + j' - j = j' - (j - k) by omega]; exact this) h1]
  exact sv_congr ys 0 fun l _ _ => sv_congr zs 0 fun r _ _ => by rw [show k + l + r - j = k + (l + r) - j by omega]
/-- a product put by steps -/
theorem put_prod {M a c : Int} (hM1 : 1 ≤ M) (hM : m * a = M * c) (xs ys : List Int) (j : Int) : cyc M 0 (putL M a 0 (prodL m xs ys)) j = cyc M 0 (prodL M (putL M a 0 xs) (putL M a 0 ys)) j := by
  rw [put_sv hM1, prod_sv hM1, sv_prod (dl_step c hM j) h1, sv_put (sv_per fun l j' k => by
    have := dl_per M (j - l) j' k
    show dl M (j' + M * k + l - j) = dl M (j' + l - j)
    rw [show j' + M * k + l - j = j' + M * k - (j - l) by omega, show j' + l - j = j' - (j - l) by omega]; exact this) hM1]
  refine sv_congr xs 0 fun k _ _ => ?_
  rw [sv_put (fun j' k' => by
    have := dl_per M (j - (k * a + 0)) j' k'
    show dl M (k * a + 0 + (j' + M * k') - j) = dl M (k * a + 0 + j' - j)
    rw [show k * a + 0 + (j' + M * k') - j = j' + M * k' - (j - (k * a + 0)) by omega, show k * a + 0 + j' - j = j' - (j - (k * a + 0)) by omega]; exact this) hM1]
  exact sv_congr ys 0 fun l _ _ => by rw [show (k + l) * a - j = k * a + 0 + (l * a + 0) - j by rw [Int.add_mul]; omega]
theorem mv_same {a : Int} (ha : apartB m a = true) {xs ys : List Int} (h : SameN m (cyc m 0 xs) (cyc m 0 ys)) : mvF m a xs = mvF m a ys :=
  low_same h1 h2 (by
    rw [show cyc m 0 (putL m a 0 xs) = cyp m a 0 0 xs from funext (cyc_put h1 xs), show cyc m 0 (putL m a 0 ys) = cyp m a 0 0 ys from funext (cyc_put h1 ys)]
    exact same_put (stc_move h1 h2 ha) (shift_move h1 h2 ha) h)
theorem mv_low {a : Int} (ha : apartB m a = true) (xs : List Int) : mvF m a (lowF m xs) = mvF m a xs := mv_same h1 h2 ha (lowF_same h1 h2 xs)
theorem mv_tm {a : Int} (ha : apartB m a = true) (xs ys : List Int) : mvF m a (tmF m xs ys) = tmF m (mvF m a xs) (mvF m a ys) := by
  rw [mv_low h1 h2 ha, tm_lowL h1 h2, tm_lowR h1 h2]
  exact low_is h1 h2 (put_prod h1 h2 (c := a) h1 rfl xs ys)
theorem mv_mv {i j : Int} (hi : apartB m i = true) (xs : List Int) : mvF m i (mvF m j xs) = mvF m (i * j) xs := by
  rw [mv_low h1 h2 hi]
  refine low_is h1 h2 fun t => ?_
  rw [put_sv h1, put_sv h1, sv_put (dl_step i rfl t) h1]
  exact sv_congr xs 0 fun k _ _ => by rw [show (k * j + 0) * i = k * (i * j) by rw [Int.add_zero, Int.mul_assoc, Int.mul_comm j]]
theorem mv_mod {a b : Int} (h : (a - b) % m = 0) (xs : List Int) : mvF m a xs = mvF m b xs := by
  obtain ⟨c, hc⟩ := Int.dvd_of_emod_eq_zero h
  refine low_is h1 h2 fun t => ?_
  rw [put_sv h1, put_sv h1]
  exact sv_congr xs 0 fun k _ _ => by
    unfold dl
    rw [show k * a - t = k * b - t + m * (k * c) by
      rw [show a = b + m * c by omega, Int.mul_add, Int.mul_left_comm]; omega, Int.add_mul_emod_self_left]
theorem mv_1 {xs : List Int} (hl : xs.length = degF m) : mvF m 1 xs = xs := by
  have : mvF m 1 xs = lowF m xs := low_is h1 h2 fun t => by
    rw [put_sv h1, cyc_sv]
    exact sv_congr xs 0 fun k _ _ => by rw [Int.mul_one]
  rw [this, low_short h1 h2 hl]
omit h1 h2 in
theorem adz_len {xs ys : List Int} {n : Nat} (hx : xs.length = n) (hy : ys.length = n) : (adz xs ys).length = n := by
  rw [List.length_zipWith]; omega
theorem mv_add (a : Int) {xs ys : List Int} (hl : xs.length = ys.length) : mvF m a (adz xs ys) = adz (mvF m a xs) (mvF m a ys) := by
  refine same_low h1 h2 (lowF_deg h1 h2 _) (adz_len (lowF_deg h1 h2 _) (lowF_deg h1 h2 _)) ?_
  refine (lowF_same h1 h2 _).trans ?_
  rw [show cyc m 0 (adz (mvF m a xs) (mvF m a ys)) = fun j => cyc m 0 (mvF m a xs) j + cyc m 0 (mvF m a ys) j from funext fun j => cyc_zip _ _ _ _ (by rw [lowF_deg h1 h2, lowF_deg h1 h2])]
  rw [show cyc m 0 (putL m a 0 (adz xs ys)) = fun j => cyc m 0 (putL m a 0 xs) j + cyc m 0 (putL m a 0 ys) j from funext fun j => by
    rw [put_sv h1, put_sv h1, put_sv h1, sv_zip _ _ _ _ hl]]
  exact same_add (lowF_same h1 h2 _).symm (lowF_same h1 h2 _).symm
/-! ### wider wheels -/
theorem wd_same {w : Int} (hw : 1 ≤ w) (hm : m * w ≤ 60) {xs ys : List Int} (h : SameN m (cyc m 0 xs) (cyc m 0 ys)) : lowF (m * w) (stretchF xs w) = lowF (m * w) (stretchF ys w) := by
  have q : 1 ≤ m * w := Int.le_trans h1 (by have := Int.mul_le_mul_of_nonneg_left hw (show 0 ≤ m by omega); omega)
  refine low_same q hm ?_
  rw [show cyc (m * w) 0 (stretchF xs w) = cyp (m * w) w 0 0 xs from funext (cyc_stretch hw), show cyc (m * w) 0 (stretchF ys w) = cyp (m * w) w 0 0 ys from funext (cyc_stretch hw)]
  exact same_put (stc_wide hw) (shift_wide h1 hw hm) h
theorem wd_put {w : Int} (hw : 1 ≤ w) (hm : m * w ≤ 60) (xs : List Int) : lowF (m * w) (stretchF xs w) = mvF (m * w) w xs := by
  have q : 1 ≤ m * w := Int.le_trans h1 (by have := Int.mul_le_mul_of_nonneg_left hw (show 0 ≤ m by omega); omega)
  exact low_is q hm fun j => by rw [cyc_stretch hw, cyc_put q]
theorem wd_tm {w : Int} (hw : 1 ≤ w) (hm : m * w ≤ 60) (xs ys : List Int) : lowF (m * w) (stretchF (tmF m xs ys) w) = tmF (m * w) (lowF (m * w) (stretchF xs w)) (lowF (m * w) (stretchF ys w)) := by
  have q : 1 ≤ m * w := Int.le_trans h1 (by have := Int.mul_le_mul_of_nonneg_left hw (show 0 ≤ m by omega); omega)
  rw [wd_same h1 h2 hw hm (lowF_same h1 h2 _), wd_put h1 h2 hw hm, wd_put h1 h2 hw hm, wd_put h1 h2 hw hm, tm_lowL q hm, tm_lowR q hm]
  exact low_is q hm (put_prod h1 h2 (c := 1) q (by rw [Int.mul_one]) xs ys)
theorem wd_add {w : Int} (hw : 1 ≤ w) (hm : m * w ≤ 60) {xs ys : List Int} (hl : xs.length = ys.length) : lowF (m * w) (stretchF (adz xs ys) w) = adz (lowF (m * w) (stretchF xs w)) (lowF (m * w) (stretchF ys w)) := by
  have q : 1 ≤ m * w := Int.le_trans h1 (by have := Int.mul_le_mul_of_nonneg_left hw (show 0 ≤ m by omega); omega)
  rw [wd_put h1 h2 hw hm, wd_put h1 h2 hw hm, wd_put h1 h2 hw hm]
  exact mv_add q hm w hl
end
end TB

/-! TbNr3: plain law: the sum and the product of all moves of a number are whole. -/
namespace TB
open PySem L2
/-- a whole number -/
def whlL (n : Nat) (c : Int) : List Int := c :: List.replicate (n - 1) 0
def movL (m : Int) : List Int := (irange (m + 1)).filter fun j => decide (1 ≤ j) && decide (Nat.gcd m.toNat j.toNat = 1)
def rs (m k t : Int) : List Int → Int
  | [] => 0
  | j :: js => dl m (k * j - t) + rs m k t js
def rhoL (m k : Int) : List Int := (irange m).map fun t => rs m k t (movL m)
def smlL : List Int := [1, 2, 3, 4, 5, 6, 7, 8, 9, 10, 12, 14, 15, 16, 18, 20, 24, 30]
def nrOk (m : Int) : Bool := decide (1 ≤ m) && decide (m ≤ 60) && ((movL m).all fun j => decide (1 ≤ j) && decide (j ≤ m) && apartB m j && (movL m).any fun i => decide ((i * j - 1) % m = 0)) && decide ((movL m).length = degF m) && decide (degF m ≤ 8) &&
  ((List.range (degF m)).all fun k => decide (lowF m (rhoL m (k : Int)) = whlL (degF m) (gt (lowF m (rhoL m (k : Int))) 0))) &&
  (movL m).all fun i => ((movL m).map fun j => i * j % m).isPerm ((movL m).map fun j => j % m)
theorem nrs_ok : smlL.all nrOk = true := by decide +kernel
structure NrOk (m : Int) : Prop where
  h1 : 1 ≤ m
  h2 : m ≤ 60
  mv : ∀ j ∈ movL m, 1 ≤ j ∧ j ≤ m ∧ apartB m j = true ∧ ∃ i ∈ movL m, (i * j - 1) % m = 0
  len : (movL m).length = degF m
  le : degF m ≤ 8
  ram : ∀ k : Nat, k < degF m → ∃ c, lowF m (rhoL m (k : Int)) = whlL (degF m) c
  perm : ∀ i ∈ movL m, ((movL m).map fun j => i * j % m).Perm ((movL m).map fun j => j % m)
theorem nr_ok {m : Int} (h : m ∈ smlL) : NrOk m := by
  have h := List.all_eq_true.mp nrs_ok m h
  unfold nrOk at h
  simp only [Bool.and_eq_true, decide_eq_true_eq, List.all_eq_true, List.any_eq_true, List.mem_range, List.isPerm_iff] at h
  obtain ⟨⟨⟨⟨⟨⟨a, b⟩, c⟩, d⟩, e⟩, f⟩, g⟩ := h
  exact ⟨a, b, fun j hj => ⟨(c j hj).1.1.1, (c j hj).1.1.2, (c j hj).1.2, (c j hj).2⟩, d, e, fun k hk => ⟨_, f k hk⟩, g⟩
theorem sv_whl (n : Nat) (c : Int) (h : Int → Int) : sv 0 (whlL n c) h = c * h 0 := by
  show c * h 0 + sv (0 + 1) (List.replicate (n - 1) 0) h = _
  rw [sv_zeros, Int.add_zero]
theorem whl_len {n : Nat} {c : Int} (h : 1 ≤ n) : (whlL n c).length = n := by simp [whlL]; omega
theorem cyc_whl {m : Int} (n : Nat) (c j : Int) : cyc m 0 (whlL n c) j = c * dl m (0 - j) := by rw [cyc_sv, sv_whl]
def totF (m : Int) (x js : List Int) : List Int := js.foldl (fun a j => adz a (mvF m j x)) (List.replicate (degF m) 0)
def nrmF (m : Int) (x js : List Int) : List Int := js.foldl (fun a j => tmF m a (mvF m j x)) (whlL (degF m) 1)
theorem per_rs (m k : Int) : ∀ js : List Int, Per m fun t => rs m k t js
  | [] => fun _ _ => rfl
  | j :: js => fun t u => by
    show dl m (k * j - (t + m * u)) + rs m k (t + m * u) js = dl m (k * j - t) + rs m k t js
    have := per_rs m k js t u
    have e : dl m (k * j - (t + m * u)) = dl m (k * j - t) := by
      unfold dl
      rw [show k * j - (t + m * u) = k * j - t + m * -u by rw [Int.mul_neg]; omega, Int.add_mul_emod_self_left]
    rw [e]
    show _ + rs m k (t + m * u) js = _
    have this : rs m k (t + m * u) js = rs m k t js := this
    rw [this]
section
variable {m : Int} (N : NrOk m)
include N
theorem NrOk.d1 : 1 ≤ degF m := (deg_le N.h1 N.h2).1
theorem tot_same {x : List Int} : ∀ (js acc : List Int), acc.length = degF m → (js.foldl (fun a j => adz a (mvF m j x)) acc).length = degF m ∧ SameN m (cyc m 0 (js.foldl (fun a j => adz a (mvF m j x)) acc)) (fun t => cyc m 0 acc t + sv 0 x fun k => rs m k t js)
  | [], acc, hl => ⟨hl, same_is fun t => by
    show cyc m 0 acc t = cyc m 0 acc t + sv 0 x fun k => 0
    rw [sv_zero]; omega⟩
  | j :: js, acc, hl => by
    have hd := lowF_deg N.h1 N.h2 (putL m j 0 x)
    obtain ⟨a, b⟩ := tot_same js (adz acc (mvF m j x)) (adz_len hl hd)
    refine ⟨a, b.trans ?_⟩
    have e1 : ∀ t, cyc m 0 (adz acc (mvF m j x)) t + (sv 0 x fun k => rs m k t js) = (cyc m 0 acc t + sv 0 x fun k => rs m k t js) + cyc m 0 (mvF m j x) t := fun t => by
      rw [cyc_zip _ _ _ _ (by rw [hl]; exact hd.symm)]; omega
    have e2 : ∀ t, (cyc m 0 acc t + sv 0 x fun k => rs m k t (j :: js)) = (cyc m 0 acc t + sv 0 x fun k => rs m k t js) + cyc m 0 (putL m j 0 x) t := fun t => by
      rw [put_sv N.h1]
      have := sv_add x 0 (fun k => dl m (k * j - t)) (fun k => rs m k t js)
      show cyc m 0 acc t + (sv 0 x fun k => dl m (k * j - t) + rs m k t js) = _
      omega
    rw [show (fun t => cyc m 0 (adz acc (mvF m j x)) t + sv 0 x fun k => rs m k t js) = _ from funext e1, show (fun t => cyc m 0 acc t + sv 0 x fun k => rs m k t (j :: js)) = _ from funext e2]
    exact same_add (SameN.refl _) (lowF_same N.h1 N.h2 _)
omit N in
theorem same_sv (F G : Int → Int → Int) : ∀ (x : List Int) (o : Int), (∀ k, o ≤ k → k < o + x.length → SameN m (fun t => F k t) (fun t => G k t)) → SameN m (fun t => sv o x fun k => F k t) (fun t => sv o x fun k => G k t)
  | [], o, _ => SameN.refl _
  | y :: x, o, h => same_add (same_mul y (h o (by omega) (by simp; omega))) (same_sv F G x (o + 1) fun k a b => h k (by omega) (by simp; omega))
/-- the sum of all moves is whole -/
theorem tot_whole {x : List Int} (hx : x.length = degF m) : ∃ c, totF m x (movL m) = whlL (degF m) c := by
  obtain ⟨a, b⟩ := tot_same N (x := x) (movL m) (List.replicate (degF m) 0) (by simp)
  have hR : ∀ k : Int, ∃ c, 0 ≤ k → k < degF m → SameN m (fun t => rs m k t (movL m)) (fun t => c * dl m (0 - t)) := fun k => by
    by_cases hk : 0 ≤ k ∧ k < degF m
    · obtain ⟨c, hc⟩ := N.ram k.toNat (by omega)
      rw [show ((k.toNat : Nat) : Int) = k by omega] at hc
      refine ⟨c, fun _ _ => ?_⟩
      have := lowF_same N.h1 N.h2 (rhoL m k)
      rw [hc] at this
      have e : cyc m 0 (rhoL m k) = fun t => rs m k t (movL m) := funext fun t => cyc_map (per_rs m k (movL m)) N.h1 t
      rw [e, show cyc m 0 (whlL (degF m) c) = fun t => c * dl m (0 - t) from funext fun t => cyc_whl _ _ _] at this
      exact this.symm
    · exact ⟨0, fun p q => absurd ⟨p, q⟩ hk⟩
  obtain ⟨R, hR⟩ := Classical.axiomOfChoice hR
  refine ⟨sv 0 x R, same_low N.h1 N.h2 a (whl_len N.d1) (b.trans ?_)⟩
  have q : SameN m (fun t => sv 0 x fun k => rs m k t (movL m)) (fun t => sv 0 x fun k => R k * dl m (0 - t)) := same_sv _ _ x 0 fun k p q => hR k p (by omega)
  have z : ∀ t, cyc m 0 (List.replicate (degF m) 0) t = 0 := fun t => cyc_zeros 0 _ t
  rw [show (fun t => cyc m 0 (List.replicate (degF m) 0) t + sv 0 x fun k => rs m k t (movL m)) = fun t => sv 0 x fun k => rs m k t (movL m) from funext fun t => by rw [z]; omega]
  refine q.trans (same_is fun t => ?_)
  rw [cyc_whl]
  have e : (fun k => R k * dl m (0 - t)) = fun k => dl m (0 - t) * R k := funext fun k => Int.mul_comm _ _
  rw [e, sv_mul, Int.mul_comm]
/-! ### products of all moves -/
theorem tm_one {x : List Int} (hx : x.length = degF m) : tmF m (whlL (degF m) 1) x = x := by
  have : tmF m (whlL (degF m) 1) x = lowF m x := low_is N.h1 N.h2 fun j => by
    rw [prod_sv N.h1, sv_whl, cyc_sv, Int.one_mul]
    exact sv_congr x 0 fun k _ _ => by rw [Int.zero_add]
  rw [this, low_short N.h1 N.h2 hx]
theorem mv_whl (a c : Int) : mvF m a (whlL (degF m) c) = whlL (degF m) c := by
  have : mvF m a (whlL (degF m) c) = lowF m (whlL (degF m) c) := low_is N.h1 N.h2 fun j => by
    rw [put_sv N.h1, sv_whl, cyc_whl, Int.zero_mul]
  rw [this, low_short N.h1 N.h2 (whl_len N.d1)]
theorem tm_whl (c d : Int) : tmF m (whlL (degF m) c) (whlL (degF m) d) = whlL (degF m) (c * d) := by
  have : tmF m (whlL (degF m) c) (whlL (degF m) d) = lowF m (whlL (degF m) (c * d)) := low_is N.h1 N.h2 fun j => by
    rw [prod_sv N.h1, sv_whl, sv_whl, cyc_whl, Int.mul_assoc, Int.zero_add]
  rw [this, low_short N.h1 N.h2 (whl_len N.d1)]
theorem nrm_len {x : List Int} : ∀ (js acc : List Int), acc.length = degF m → (js.foldl (fun a j => tmF m a (mvF m j x)) acc).length = degF m
  | [], acc, h => h
  | j :: js, acc, h => nrm_len js _ (lowF_deg N.h1 N.h2 _)
theorem nrm_mv {x : List Int} {i : Int} (hi : apartB m i = true) : ∀ (js acc : List Int), mvF m i (js.foldl (fun a j => tmF m a (mvF m j x)) acc) = (js.map fun j => i * j).foldl (fun a j => tmF m a (mvF m j x)) (mvF m i acc)
  | [], acc => rfl
  | j :: js, acc => by
    show mvF m i (js.foldl _ (tmF m acc (mvF m j x))) = (js.map _).foldl _ (tmF m (mvF m i acc) (mvF m (i * j) x))
    rw [nrm_mv hi js, mv_tm N.h1 N.h2 hi, mv_mv N.h1 N.h2 hi]
theorem nrm_mod {x : List Int} : ∀ (js acc : List Int), js.foldl (fun a j => tmF m a (mvF m j x)) acc = (js.map fun j => j % m).foldl (fun a j => tmF m a (mvF m j x)) acc
  | [], acc => rfl
  | j :: js, acc => by
    show js.foldl _ (tmF m acc (mvF m j x)) = (js.map _).foldl _ (tmF m acc (mvF m (j % m) x))
    rw [nrm_mod js, mv_mod N.h1 N.h2 (a := j) (b := j % m) (by rw [Int.sub_emod, Int.emod_emod, Int.sub_self]; rfl)]
theorem nrm_perm {x js ks : List Int} (p : js.Perm ks) (acc : List Int) : js.foldl (fun a j => tmF m a (mvF m j x)) acc = ks.foldl (fun a j => tmF m a (mvF m j x)) acc :=
  p.foldl_eq' (fun a _ b _ z => by
    show tmF m (tmF m z (mvF m a x)) (mvF m b x) = tmF m (tmF m z (mvF m b x)) (mvF m a x)
    rw [tm_assoc N.h1 N.h2, tm_assoc N.h1 N.h2, tm_comm (mvF m a x)]) acc
/-- the product of all moves stays -/
theorem nrm_stays {x : List Int} {i : Int} (hi : i ∈ movL m) : mvF m i (nrmF m x (movL m)) = nrmF m x (movL m) := by
  unfold nrmF
  rw [nrm_mv N (N.mv i hi).2.2.1, mv_whl N, nrm_mod N ((movL m).map fun j => i * j), List.map_map, nrm_mod N (movL m)]
  exact nrm_perm N (N.perm i hi) _
omit N in
theorem gt_adz {xs ys : List Int} {i : Nat} (hx : i < xs.length) (hy : i < ys.length) : gt (adz xs ys) (i : Int) = gt xs (i : Int) + gt ys (i : Int) := by
  rw [gt_nat (by rw [List.length_zipWith]; omega), gt_nat hx, gt_nat hy, List.getElem_zipWith]
theorem tot_stays {P : List Int} (hP : P.length = degF m) {i : Nat} (hi : i < degF m) : ∀ (js acc : List Int), (∀ j ∈ js, mvF m j P = P) → acc.length = degF m → gt (js.foldl (fun a j => adz a (mvF m j P)) acc) (i : Int) = gt acc (i : Int) + js.length * gt P (i : Int)
  | [], acc, _, _ => by simp
  | j :: js, acc, h, hl => by
    show gt (js.foldl _ (adz acc (mvF m j P))) (i : Int) = _
    rw [h j (by simp), tot_stays hP hi js _ (fun k hk => h k (by simp [hk])) (adz_len hl hP), gt_adz (by omega) (by omega), List.length_cons, show ((js.length + 1 : Nat) : Int) = (js.length : Int) + 1 by omega, Int.add_mul]
    omega
/-- the product of all moves is whole -/
theorem nrm_whole {x : List Int} : ∃ c, nrmF m x (movL m) = whlL (degF m) c := by
  have hP : (nrmF m x (movL m)).length = degF m := nrm_len N _ _ (whl_len N.d1)
  obtain ⟨c, hc⟩ := tot_whole N hP
  refine ⟨gt (nrmF m x (movL m)) 0, ?_⟩
  have st := fun j hj => nrm_stays N (x := x) (i := j) hj
  generalize nrmF m x (movL m) = P at hP hc st ⊢
  have e : ∀ i : Nat, i < degF m → gt (whlL (degF m) c) (i : Int) = (degF m : Int) * gt P (i : Int) := fun i hi => by
    rw [← hc]
    unfold totF
    rw [tot_stays N hP hi _ _ st (by simp), N.len, gt_nat (by simpa using hi), List.getElem_replicate, Int.zero_add]
  have d1 := N.d1
  refine List.ext_getElem (by rw [whl_len d1, hP]) fun i a b => ?_
  rw [← gt_nat a, ← gt_nat b]
  cases i with
  | zero => rfl
  | succ i =>
    have := e (i + 1) (by omega)
    have z : ∀ c', gt (whlL (degF m) c') ((i + 1 : Nat) : Int) = 0 := fun c' => by
      show gt (List.replicate (degF m - 1) (0 : Int)) (i : Int) = 0
      rw [gt_nat (by rw [List.length_replicate]; omega), List.getElem_replicate]
    rw [z] at this ⊢
    rcases Int.mul_eq_zero.mp this.symm with q | q
    · omega
    · exact q
theorem nrm_mul {x y : List Int} : ∀ (js a b : List Int), (∀ j ∈ js, apartB m j = true) → js.foldl (fun a j => tmF m a (mvF m j (tmF m x y))) (tmF m a b) = tmF m (js.foldl (fun a j => tmF m a (mvF m j x)) a) (js.foldl (fun a j => tmF m a (mvF m j y)) b)
  | [], a, b, _ => rfl
  | j :: js, a, b, h => by
    show js.foldl _ (tmF m (tmF m a b) (mvF m j (tmF m x y))) = tmF m (js.foldl _ (tmF m a (mvF m j x))) (js.foldl _ (tmF m b (mvF m j y)))
    rw [← nrm_mul js _ _ fun k hk => h k (by simp [hk])]
    congr 1
    rw [mv_tm N.h1 N.h2 (h j (by simp)), tm_assoc N.h1 N.h2, tm_assoc N.h1 N.h2, ← tm_assoc N.h1 N.h2 b, tm_comm b, tm_assoc N.h1 N.h2]
/-- of a product the product of those of the two -/
theorem nrm_prod {x y : List Int} {c d : Int} (hc : nrmF m x (movL m) = whlL (degF m) c) (hd : nrmF m y (movL m) = whlL (degF m) d) : nrmF m (tmF m x y) (movL m) = whlL (degF m) (c * d) := by
  have := nrm_mul N (x := x) (y := y) (movL m) (whlL (degF m) 1) (whlL (degF m) 1) fun j hj => (N.mv j hj).2.2.1
  rw [tm_one N (whl_len N.d1)] at this
  show (movL m).foldl _ _ = _
  rw [this]
  show tmF m (nrmF m x (movL m)) (nrmF m y (movL m)) = _
  rw [hc, hd, tm_whl N]
end
end TB

/-! TbNr4: plain law: no two numbers but nought make nought. -/
namespace TB
open PySem L2
/-! ### sums and products, entry by entry -/
abbrev scL (c : Int) (xs : List Int) : List Int := xs.map fun y => c * y
abbrev zrL (n : Nat) : List Int := List.replicate n 0
theorem sv_gt : ∀ (L : List Int) (o : Int) (i : Nat), i < L.length → sv o L (fun c => if c = o + i then 1 else 0) = gt L (i : Int)
  | x :: L, o, 0, _ => by
    show x * (if o = o + ((0 : Nat) : Int) then 1 else 0) + sv (o + 1) L _ = x
    rw [if_pos (by omega), sv_congr L (o + 1) (h' := fun _ => 0) fun k a b => if_neg (by omega), sv_zero]
    omega
  | x :: L, o, i + 1, h => by
    show x * (if o = o + ((i + 1 : Nat) : Int) then 1 else 0) + sv (o + 1) L _ = gt L (i : Int)
    rw [if_neg (by omega), ← sv_gt L (o + 1) i (by simpa using h), sv_congr L (o + 1) (h' := fun c => if c = o + 1 + (i : Int) then 1 else 0) fun k a b => by rw [show o + ((i + 1 : Nat) : Int) = o + 1 + (i : Int) by omega]]
    omega
theorem sv_dvd {p : Int} : ∀ (L : List Int) (o : Int) (f : Int → Int), (∀ k, o ≤ k → k < o + L.length → p ∣ f k) → p ∣ sv o L f
  | [], o, f, _ => Int.dvd_zero p
  | x :: L, o, f, h => Int.dvd_add (Int.dvd_mul_of_dvd_right (h o (by omega) (by simp; omega))) (sv_dvd L (o + 1) f fun k a b => h k (by omega) (by simp; omega))
theorem sv_dvdL {p : Int} : ∀ (L : List Int) (o : Int) (f : Int → Int), (∀ x ∈ L, p ∣ x) → p ∣ sv o L f
  | [], o, f, _ => Int.dvd_zero p
  | x :: L, o, f, h => Int.dvd_add (Int.dvd_mul_of_dvd_left (h x (by simp))) (sv_dvdL L (o + 1) f fun y hy => h y (by simp [hy]))
theorem div_L {p : Int} (h0 : p ≠ 0) {L : List Int} (h : ∀ x ∈ L, p ∣ x) : scL p (L.map fun x => x / p) = L := by
  unfold scL
  rw [List.map_map]
  conv => rhs; rw [← List.map_id' L]
  exact List.map_congr_left fun x hx => Int.mul_ediv_cancel' (h x hx)
theorem sc_inj {p : Int} (h0 : p ≠ 0) {x y : List Int} (h : scL p x = scL p y) : x = y := by
  have := congrArg (fun L => L.map fun z => z / p) h
  unfold scL at this
  simp only [List.map_map] at this
  have e : ∀ L : List Int, L.map ((fun z => z / p) ∘ fun y => p * y) = L := fun L => by
    conv => rhs; rw [← List.map_id' L]
    exact List.map_congr_left fun z _ => Int.mul_ediv_cancel_left z h0
  rwa [e, e] at this
theorem sc_zr (c : Int) (n : Nat) : scL c (zrL n) = zrL n := by simp [scL, zrL]
abbrev lw (q : Int) (f : Int → Int) : List Int := lowF q ((irange q).map f)
def dlL (q k : Int) : List Int := (irange q).map fun j => dl q (k - j)
def tw (m : Int) (c2 : List Int) (k : Int) : List Int := lw m (cyc m k c2)
def tpw (m : Int) (a : List Int) : Nat → List Int
  | 0 => whlL (degF m) 1
  | i + 1 => tmF m a (tpw m a i)
section
variable {m : Int} (h1 : 1 ≤ m) (h2 : m ≤ 60)
include h1 h2
theorem lw_cyc (xs : List Int) : lw m (cyc m 0 xs) = lowF m xs := low_is h1 h2 fun j => cyc_map per_cyc h1 j
theorem lw_lin {f g : Int → Int} (hf : Per m f) (hg : Per m g) (x : Int) : lw m (fun j => x * f j + g j) = adz (scL x (lw m f)) (lw m g) := by
  have l1 : (lw m f).length = degF m := lowF_deg h1 h2 ((irange m).map f)
  have l2 : (lw m g).length = degF m := lowF_deg h1 h2 ((irange m).map g)
  refine same_low h1 h2 (lowF_deg h1 h2 _) (adz_len (by rw [List.length_map]; exact l1) l2) ((lowF_same h1 h2 _).trans ?_)
  rw [show cyc m 0 (adz (scL x (lw m f)) (lw m g)) = fun j => x * cyc m 0 (lw m f) j + cyc m 0 (lw m g) j from funext fun j => by
    rw [cyc_zip _ _ _ _ (by rw [List.length_map]; omega), cyc_scale]]
  rw [show cyc m 0 ((irange m).map fun j => x * f j + g j) = fun j => x * cyc m 0 ((irange m).map f) j + cyc m 0 ((irange m).map g) j from funext fun j => by
    rw [cyc_map hf h1, cyc_map hg h1, cyc_map (fun j k => by show x * f (j + m * k) + g (j + m * k) = _; rw [hf, hg]) h1]]
  exact same_add (same_mul x (lowF_same h1 h2 _).symm) (lowF_same h1 h2 _).symm
theorem lw_0 : lw m (fun _ => 0) = zrL (degF m) := by
  have : lw m (fun _ => 0) = lowF m (zrL (degF m)) := low_is h1 h2 fun j => by
    rw [cyc_map (fun _ _ => rfl) h1, cyc_zeros]
  rw [this, low_short h1 h2 (by simp)]
theorem sv_low (h : Int → Int) : ∀ (xs : List Int) (o : Int), sv 0 (lw m (cyc m o xs)) h = sv o xs fun k => sv 0 (lowF m (dlL m k)) h
  | [], o => by
    show sv 0 (lw m fun _ => 0) h = 0
    rw [lw_0 h1 h2, sv_zeros]
  | x :: xs, o => by
    have hp : Per m fun j => dl m (o - j) := fun j k => by
      show dl m (o - (j + m * k)) = dl m (o - j)
      unfold dl
      rw [show o - (j + m * k) = o - j + m * -k by rw [Int.mul_neg]; omega, Int.add_mul_emod_self_left]
    have e : cyc m o (x :: xs) = fun j => x * dl m (o - j) + cyc m (o + 1) xs j := funext fun j => by
      show (if (o - j) % m = 0 then x else 0) + _ = x * (if (o - j) % m = 0 then 1 else 0) + _
      split <;> simp
    rw [e, lw_lin h1 h2 hp per_cyc, sv_zip _ _ _ _ (by rw [List.length_map, lowF_deg h1 h2, lowF_deg h1 h2]), sv_scale, sv_low h xs (o + 1)]
    rfl
theorem sv_tm (h : Int → Int) (ys : List Int) : ∀ (xs : List Int) (o : Int), sv 0 (lw m (conv m o 0 xs ys)) h = sv o xs fun k => sv 0 (tw m ys k) h
  | [], o => by
    show sv 0 (lw m fun _ => 0) h = 0
    rw [lw_0 h1 h2, sv_zeros]
  | x :: xs, o => by
    have e : conv m o 0 (x :: xs) ys = fun j => x * cyc m o ys j + conv m (o + 1) 0 xs ys j := funext fun j => by
      show x * cyc m (o + 0) ys j + _ = _
      rw [Int.add_zero]
    rw [e, lw_lin h1 h2 per_cyc (fun j k => conv_per xs (o + 1) 0 ys j k), sv_zip _ _ _ _ (by rw [List.length_map, lowF_deg h1 h2, lowF_deg h1 h2]), sv_scale, sv_tm h ys xs (o + 1)]
    rfl
theorem tm_sc (c : Int) (x y : List Int) : tmF m (scL c x) y = scL c (tmF m x y) := by
  refine same_low h1 h2 (lowF_deg h1 h2 _) (by rw [List.length_map]; exact lowF_deg h1 h2 _) ((lowF_same h1 h2 _).trans ?_)
  rw [show cyc m 0 (scL c (tmF m x y)) = fun j => c * cyc m 0 (tmF m x y) j from funext fun j => cyc_scale _ _ _]
  rw [show cyc m 0 (prodL m (scL c x) y) = fun j => c * cyc m 0 (prodL m x y) j from funext fun j => by rw [prod_sv h1, prod_sv h1, sv_scale]]
  exact same_mul c (lowF_same h1 h2 _).symm
theorem tm_scR (c : Int) (x y : List Int) : tmF m x (scL c y) = scL c (tmF m x y) := by rw [tm_comm, tm_sc h1 h2, tm_comm]
theorem tm_ad (x : List Int) {y z : List Int} (hl : y.length = z.length) : tmF m x (adz y z) = adz (tmF m x y) (tmF m x z) := by
  refine same_low h1 h2 (lowF_deg h1 h2 _) (adz_len (lowF_deg h1 h2 _) (lowF_deg h1 h2 _)) ((lowF_same h1 h2 _).trans ?_)
  rw [show cyc m 0 (adz (tmF m x y) (tmF m x z)) = fun j => cyc m 0 (tmF m x y) j + cyc m 0 (tmF m x z) j from funext fun j => cyc_zip _ _ _ _ (by rw [lowF_deg h1 h2, lowF_deg h1 h2])]
  rw [show cyc m 0 (prodL m x (adz y z)) = fun j => cyc m 0 (prodL m x y) j + cyc m 0 (prodL m x z) j from funext fun j => by
    rw [prod_sv h1, prod_sv h1, prod_sv h1, ← sv_add]
    exact sv_congr x 0 fun k _ _ => sv_zip _ _ _ _ hl]
  exact same_add (lowF_same h1 h2 _).symm (lowF_same h1 h2 _).symm
theorem tm_zr (x : List Int) (n : Nat) : tmF m x (zrL n) = zrL (degF m) := by
  have : tmF m x (zrL n) = lowF m (zrL (degF m)) := low_is h1 h2 fun j => by
    rw [prod_sv h1, cyc_zeros, sv_congr x 0 (h' := fun _ => 0) fun k _ _ => sv_zeros _ _ _, sv_zero]
  rw [this, low_short h1 h2 (by simp)]
end
theorem tm_whlM {m : Int} (N : NrOk m) (p : Int) {x : List Int} (hx : x.length = degF m) : tmF m (whlL (degF m) p) x = scL p x := by
  have e : whlL (degF m) p = scL p (whlL (degF m) 1) := by simp [whlL, scL]
  rw [e, tm_sc N.h1 N.h2, tm_one N hx]
/-! ### what is left of a division -/
def ps (f : Int → Int) : List (Int × Int) → Int → Int
  | [], _ => 0
  | (s, d) :: Q, j => s * f (j - d) + ps f Q j
theorem split_ps {m : Int} {b : List Int} (hl : 1 ≤ b.length) (h1 : gt b ((b.length - 1 : Nat) : Int) = 1) : ∀ (n : Nat) (f r : List Int), ∃ Q, ∀ j, cyc m 0 r j = cyc m 0 (splitN b (b.length - 1) n f r).2 j + ps (cyc m 0 b) Q j
  | 0, f, r => ⟨[], fun j => by show cyc m 0 r j = cyc m 0 r j + 0; omega⟩
  | n + 1, f, r => by
    unfold splitN
    by_cases c : b.length - 1 < r.length
    · rw [if_pos c]
      obtain ⟨Q, hQ⟩ := split_ps (m := m) hl h1 n (r.getLastD 0 :: f) (subN (r.getLastD 0) b (r.length - 1 - (b.length - 1)) r.dropLast (b.length - 1))
      have hne : r ≠ [] := fun z => by rw [z] at c; simp at c
      have e1 : ∀ i, cyc m 0 (subN (r.getLastD 0) b (r.length - 1 - (b.length - 1)) r.dropLast (b.length - 1)) i = cyc m 0 r i - r.getLastD 0 * cyc m 0 b (i - ((r.length - 1 - (b.length - 1) : Nat) : Int)) := fun i => by
        rw [cyc_subN i _ (by omega) (by rw [List.length_dropLast]; omega), ← cyc_shift]
        have e2 : b = b.take (b.length - 1) ++ [1] := by
          have := take_snoc' (l := b) (i := b.length - 1) (by omega)
          rw [h1, show b.length - 1 + 1 = b.length by omega, List.take_length] at this
          exact this
        have e3 : r = r.dropLast ++ [r.getLastD 0] := by
          rw [List.getLastD_eq_getLast?, List.getLast?_eq_some_getLast hne]
          exact (List.dropLast_concat_getLast hne).symm
        have e4 : cyc m (0 + ((r.length - 1 - (b.length - 1) : Nat) : Int)) b i = cyc m ((r.length - 1 - (b.length - 1) : Nat) : Int) (b.take (b.length - 1)) i + if (((r.length : Int) - 1) - i) % m = 0 then 1 else 0 := by
          rw [Int.zero_add]
          have e6 : cyc m ((r.length - 1 - (b.length - 1) : Nat) : Int) b i = cyc m ((r.length - 1 - (b.length - 1) : Nat) : Int) (b.take (b.length - 1) ++ [1]) i := congrArg (fun z => cyc m ((r.length - 1 - (b.length - 1) : Nat) : Int) z i) e2
          rw [e6, cyc_append, cyc_one, List.length_take, show ((r.length - 1 - (b.length - 1) : Nat) : Int) + ((min (b.length - 1) b.length : Nat) : Int) = (r.length : Int) - 1 by omega]
        have e5 : cyc m 0 r i = cyc m 0 r.dropLast i + if (((r.length : Int) - 1) - i) % m = 0 then r.getLastD 0 else 0 := by
          have e6 : cyc m 0 r i = cyc m 0 (r.dropLast ++ [r.getLastD 0]) i := congrArg (fun z => cyc m 0 z i) e3
          rw [e6, cyc_append, cyc_one, List.length_dropLast, show (0 : Int) + ((r.length - 1 : Nat) : Int) = (r.length : Int) - 1 by omega]
        rw [e4, e5, Int.mul_add]
        by_cases q : ((r.length : Int) - 1 - i) % m = 0
        · simp only [q, if_true]; omega
        · simp only [q, if_false]; omega
      refine ⟨(r.getLastD 0, ((r.length - 1 - (b.length - 1) : Nat) : Int)) :: Q, fun j => ?_⟩
      have := hQ j
      rw [e1] at this
      show _ = _ + (r.getLastD 0 * cyc m 0 b (j - _) + ps _ Q j)
      omega
    · rw [if_neg c]
      exact ⟨[], fun j => by show cyc m 0 r j = cyc m 0 r j + 0; omega⟩
theorem low_ps {m : Int} (h1 : 1 ≤ m) (h2 : m ≤ 60) (X : List Int) : ∃ Q, ∀ j, cyc m 0 X j = cyc m 0 (lowF m X) j + ps (cyc m 0 (circ m)) Q j := by
  have r := ringF h1 h2
  obtain ⟨Q, hQ⟩ := split_ps (m := m) (by have := r.len; omega) r.one ((irange m).map (cyc m 0 X)).length [] ((irange m).map (cyc m 0 X))
  exact ⟨Q, fun j => by
    have := hQ j
    rw [cyc_map per_cyc h1] at this
    exact this⟩
theorem per_ps {m : Int} {f : Int → Int} (h : Per m f) : ∀ Q, Per m (ps f Q)
  | [] => fun _ _ => rfl
  | (s, d) :: Q => fun j k => by
    show s * f (j + m * k - d) + ps f Q (j + m * k) = s * f (j - d) + ps f Q j
    rw [per_ps h Q, show j + m * k - d = j - d + m * k by omega, h]
/-- the same sum round a wheel whose spokes divide -/
theorem cyc_ps {m q : Int} (h1 : 1 ≤ m) (hq : m % q = 0) (b : List Int) (j : Int) : ∀ Q, sv 0 ((irange m).map (ps (cyc m 0 b) Q)) (fun k => dl q (k - j)) = ps (cyc q 0 b) Q j
  | [] => by
    have := sv_irange_0 (fun k => dl q (k - j)) m.toNat
    rw [show ((m.toNat : Nat) : Int) = m by omega] at this
    exact this
  | (s, d) :: Q => by
    have hp : Per m fun k => dl q (k - j) := fun i k => by
      obtain ⟨c, hc⟩ := Int.dvd_of_emod_eq_zero hq
      have := dl_per q j i (c * k)
      rw [← Int.mul_assoc, ← hc] at this
      exact this
    have e := sv_irange_add (fun i => s * cyc m 0 b (i - d)) (ps (cyc m 0 b) Q) (fun k => dl q (k - j)) m.toNat
    rw [sv_irange_mul, show ((m.toNat : Nat) : Int) = m by omega, cyc_ps h1 hq b j Q] at e
    have e2 : (fun i => cyc m 0 b (i - d)) = cyp m 1 d 0 b := funext fun i => by
      rw [cyc_sv, cyp_sv]
      exact sv_congr b 0 fun k _ _ => by rw [show k - (i - d) = k * 1 + d - i by omega]
    rw [e2, sv_cyp hp h1] at e
    have e3 : (sv 0 b fun k => dl q (k * 1 + d - j)) = cyc q 0 b (j - d) := by
      rw [cyc_sv]
      exact sv_congr b 0 fun k _ _ => by rw [show k * 1 + d - j = k - (j - d) by omega]
    rw [e3] at e
    exact e
/-! ### a wheel with a prime that has one part above it -/
structure DomOk (m p q : Int) (e : Nat) (a c2 u : List Int) : Prop where
  N : NrOk m
  Nq : NrOk q
  p2 : 2 ≤ p
  qm : m % q = 0
  le : degF q ≤ degF m
  la : a.length = degF m
  lc : c2.length = degF m
  lu : u.length = degF m
  pc : tmF m a c2 = whlL (degF m) p
  pe : tpw m a e = scL p u
  cz : ∀ y ∈ lowF q (circ m), p ∣ y
  tw : ∀ k i : Nat, k < degF m → i < degF m → p ∣ gt (tw m c2 k) (i : Int) - sv 0 (lowF q (dlL q k)) fun c => gt (TB.tw m c2 c) (i : Int)
  inv : ∀ x : List Int, x.length = degF q → (∀ y ∈ x, 0 ≤ y ∧ y < p) → (∃ y ∈ x, y ≠ 0) → ∃ b s, b.length = degF q ∧ s.length = degF q ∧ tmF q x b = adz (whlL (degF q) 1) (scL p s)
section
variable {m p q : Int} {e : Nat} {a c2 u : List Int} (D : DomOk m p q e a c2 u)
include D
theorem red_prod (x y : List Int) : lowF q (prodL m x y) = tmF q (lowF q x) (lowF q y) := by
  have N := D.N; have Nq := D.Nq
  rw [tm_lowL Nq.h1 Nq.h2, tm_lowR Nq.h1 Nq.h2]
  refine low_is Nq.h1 Nq.h2 fun j => ?_
  obtain ⟨c, hc⟩ := Int.dvd_of_emod_eq_zero D.qm
  rw [cyc_sv, prod_sv Nq.h1, sv_prod (fun i k => by
    have := dl_per q j i (c * k)
    rw [← Int.mul_assoc, ← hc] at this
    exact this) N.h1]
/-- what is nought is nought by the lesser wheel, but for so many times the prime -/
theorem red_nought {X : List Int} (hX : lowF m X = zrL (degF m)) : ∀ y ∈ lowF q X, p ∣ y := by
  have N := D.N; have Nq := D.Nq
  obtain ⟨Q, hQ⟩ := low_ps N.h1 N.h2 X
  obtain ⟨c, hc⟩ := Int.dvd_of_emod_eq_zero D.qm
  have e1 : ∀ j, cyc q 0 X j = ps (cyc q 0 (circ m)) Q j := fun j => by
    have hp : Per m fun k => dl q (k - j) := fun i k => by
      have := dl_per q j i (c * k)
      rw [← Int.mul_assoc, ← hc] at this
      exact this
    rw [← cyc_ps N.h1 D.qm, cyc_sv]
    have := sv_cyp (a := 1) (b := 0) hp N.h1 X 0
    rw [show cyp m 1 0 0 X = ps (cyc m 0 (circ m)) Q from funext fun j => by
      have := hQ j
      rw [hX, cyc_zeros, Int.zero_add] at this
      rw [cyp_cyc]; exact this] at this
    rw [this]
    exact sv_congr X 0 fun k _ _ => by rw [show k * 1 + 0 - j = k - j by omega]
  have e2 : lowF q X = lw q (ps (cyc q 0 (circ m)) Q) := by
    rw [← lw_cyc Nq.h1 Nq.h2 X, show cyc q 0 X = ps (cyc q 0 (circ m)) Q from funext e1]
  rw [e2]
  have hC := div_L (show p ≠ 0 by have := D.p2; omega) D.cz
  have e3 : ∀ d : Int, ∀ y ∈ lw q (fun j => cyc q 0 (circ m) (j - d)), p ∣ y := fun d y hy => by
    have e4 : lw q (fun j => cyc q 0 (circ m) (j - d)) = scL p (lw q fun j => cyc q 0 ((lowF q (circ m)).map fun x => x / p) (j - d)) := by
      have hp : ∀ f : List Int, Per q fun j => cyc q 0 f (j - d) := fun f j k => by
        show cyc q 0 f (j + q * k - d) = cyc q 0 f (j - d)
        rw [show j + q * k - d = j - d + q * k by omega, cyc_per]
      refine same_low Nq.h1 Nq.h2 (lowF_deg Nq.h1 Nq.h2 _) (by rw [List.length_map]; exact lowF_deg Nq.h1 Nq.h2 _) ((lowF_same Nq.h1 Nq.h2 _).trans ?_)
      rw [show cyc q 0 ((irange q).map fun j => cyc q 0 (circ m) (j - d)) = fun j => cyc q 0 (circ m) (j - d) from funext fun j => cyc_map (hp _) Nq.h1 j]
      rw [show cyc q 0 (scL p (lw q fun j => cyc q 0 ((lowF q (circ m)).map fun x => x / p) (j - d))) = fun j => p * cyc q 0 (lw q fun j => cyc q 0 ((lowF q (circ m)).map fun x => x / p) (j - d)) j from funext fun j => cyc_scale _ _ _]
      have s1 : SameN q (fun j => cyc q 0 (circ m) (j - d)) (fun j => p * cyc q 0 ((lowF q (circ m)).map fun x => x / p) (j - d)) := fun j => by
        have s0 := (lowF_same Nq.h1 Nq.h2 (circ m)).symm (j - d)
        rw [← dif_turn, ← dif_turn] at s0
        rw [s0]
        exact dif_congr (fun i => by
          conv => lhs; rw [← hC]
          exact cyc_scale _ _ _) j
      refine s1.trans (same_mul p ?_)
      have := (lowF_same Nq.h1 Nq.h2 ((irange q).map fun j => cyc q 0 ((lowF q (circ m)).map fun x => x / p) (j - d))).symm
      rw [show cyc q 0 ((irange q).map fun j => cyc q 0 ((lowF q (circ m)).map fun x => x / p) (j - d)) = fun j => cyc q 0 ((lowF q (circ m)).map fun x => x / p) (j - d) from funext fun j => cyc_map (hp _) Nq.h1 j] at this
      exact this
    rw [e4] at hy
    obtain ⟨z, _, rfl⟩ := List.mem_map.mp hy
    exact Int.dvd_mul_right p z
  have key : ∀ Q : List (Int × Int), ∀ y ∈ lw q (ps (cyc q 0 (circ m)) Q), p ∣ y := fun Q => by
    induction Q with
    | nil =>
      intro y hy
      have : lw q (ps (cyc q 0 (circ m)) []) = zrL (degF q) := lw_0 Nq.h1 Nq.h2
      rw [this] at hy
      rw [List.eq_of_mem_replicate hy]
      exact Int.dvd_zero p
    | cons sd Q ih =>
      obtain ⟨s, d⟩ := sd
      intro y hy
      have e5 : lw q (ps (cyc q 0 (circ m)) ((s, d) :: Q)) = adz (scL s (lw q fun j => cyc q 0 (circ m) (j - d))) (lw q (ps (cyc q 0 (circ m)) Q)) := lw_lin Nq.h1 Nq.h2 (fun j k => by
        show cyc q 0 (circ m) (j + q * k - d) = cyc q 0 (circ m) (j - d)
        rw [show j + q * k - d = j - d + q * k by omega, cyc_per]) (per_ps per_cyc Q) s
      rw [e5] at hy
      obtain ⟨i, hi, rfl⟩ := List.getElem_of_mem hy
      rw [List.getElem_zipWith, List.getElem_map]
      exact Int.dvd_add (Int.dvd_mul_of_dvd_right (e3 d _ (List.getElem_mem _))) (ih _ (List.getElem_mem _))
  exact key Q
/-- what the lesser wheel tells as nought, but for so many times the prime, is a multiple -/
theorem ker_is {w : List Int} (hw : w.length = degF m) (h : ∀ y ∈ lowF q w, p ∣ y) : ∃ w1, w1.length = degF m ∧ w = tmF m a w1 ∧ ∀ y, tmF m w y = zrL (degF m) → tmF m w1 y = zrL (degF m) := by
  have N := D.N; have Nq := D.Nq
  have p0 : p ≠ 0 := by have := D.p2; omega
  have lt : (tmF m w c2).length = degF m := lowF_deg N.h1 N.h2 _
  have dv : ∀ y ∈ tmF m w c2, p ∣ y := fun y hy => by
    obtain ⟨i, hi, rfl⟩ := List.getElem_of_mem hy
    have hi' : i < degF m := by omega
    rw [← gt_nat hi, ← sv_gt _ 0 i hi]
    have e1 : tmF m w c2 = lw m (conv m 0 0 w c2) := rfl
    rw [e1, sv_tm N.h1 N.h2]
    have e2 : (sv 0 w fun k => sv 0 (tw m c2 k) fun c => if c = 0 + (i : Int) then 1 else 0) = sv 0 w fun k => (gt (tw m c2 k) (i : Int) - sv 0 (lowF q (dlL q k)) fun c => gt (tw m c2 c) (i : Int)) + sv 0 (lowF q (dlL q k)) fun c => gt (tw m c2 c) (i : Int) := sv_congr w 0 fun k _ _ => by
      rw [sv_gt _ 0 i (by
        have : (tw m c2 k).length = degF m := lowF_deg N.h1 N.h2 _
        omega)]
      omega
    rw [e2, sv_add]
    refine Int.dvd_add (sv_dvd w 0 _ fun k k0 k1 => ?_) ?_
    · have := D.tw k.toNat i (by omega) hi'
      rwa [show ((k.toNat : Nat) : Int) = k by omega] at this
    · rw [← sv_low Nq.h1 Nq.h2, lw_cyc Nq.h1 Nq.h2]
      exact sv_dvdL _ _ _ h
  have hd := div_L p0 dv
  have l1 : ((tmF m w c2).map fun x => x / p).length = degF m := by rw [List.length_map, lt]
  refine ⟨_, l1, sc_inj p0 ?_, fun y hy => sc_inj p0 ?_⟩
  · rw [← tm_scR N.h1 N.h2, hd, tm_comm w, ← tm_assoc N.h1 N.h2, D.pc, tm_whlM N p hw]
  · rw [← tm_sc N.h1 N.h2, hd, tm_comm w, tm_assoc N.h1 N.h2, hy, tm_zr N.h1 N.h2, sc_zr]
def szL (x : List Int) : Nat := (x.map Int.natAbs).sum
omit D in
theorem sz_zero : ∀ {x : List Int}, szL x = 0 → x = zrL x.length
  | [], _ => rfl
  | y :: x, h => by
    have h : y.natAbs + szL x = 0 := h
    have := sz_zero (x := x) (by omega)
    show y :: x = 0 :: zrL x.length
    rw [← this, show y = 0 by omega]
omit D in
theorem sz_sc (c : Int) : ∀ x : List Int, szL (scL c x) = c.natAbs * szL x
  | [] => rfl
  | y :: x => by
    show (c * y).natAbs + szL (scL c x) = c.natAbs * (y.natAbs + szL x)
    rw [sz_sc c x, Int.natAbs_mul, Nat.mul_add]
theorem dsc {y : List Int} {C : Prop} (H : ∀ z : List Int, z.length = degF m → tmF m z y = zrL (degF m) → C ∨ ∀ i ∈ lowF q z, p ∣ i) : ∀ (k : Nat) (z : List Int), szL z ≤ k → z.length = degF m → tmF m z y = zrL (degF m) → C ∨ z = zrL (degF m) := by
  have N := D.N
  intro k
  induction k with
  | zero =>
    intro z hk hl _
    right
    rw [← hl]
    exact sz_zero (by omega)
  | succ k ih =>
    intro z hk hl hz
    have chain : ∀ i : Nat, C ∨ ∃ w : List Int, w.length = degF m ∧ tmF m w y = zrL (degF m) ∧ z = tmF m (tpw m a i) w := fun i => by
      induction i with
      | zero => exact .inr ⟨z, hl, hz, (tm_one N hl).symm⟩
      | succ i ihi =>
        rcases ihi with c | ⟨w, lw', hw, ez⟩
        · exact .inl c
        · rcases H w lw' hw with c | hr
          · exact .inl c
          · obtain ⟨w1, l1, e1, hw1⟩ := ker_is D lw' hr
            refine .inr ⟨w1, l1, hw1 y hw, ?_⟩
            rw [ez, e1]
            show _ = tmF m (tmF m a (tpw m a i)) w1
            rw [tm_comm a (tpw m a i), tm_assoc N.h1 N.h2]
    rcases chain e with c | ⟨w, lw', hw, ez⟩
    · exact .inl c
    · rw [D.pe, tm_sc N.h1 N.h2] at ez
      have lz : (tmF m u w).length = degF m := lowF_deg N.h1 N.h2 _
      have s1 := sz_sc p (tmF m u w)
      rw [← ez] at s1
      have p2 : 2 ≤ p.natAbs := by have := D.p2; omega
      by_cases c0 : szL (tmF m u w) = 0
      · right
        have := sz_zero c0
        rw [lz] at this
        rw [ez, this, sc_zr]
      · have : 2 * szL (tmF m u w) ≤ p.natAbs * szL (tmF m u w) := Nat.mul_le_mul_right _ p2
        rcases ih (tmF m u w) (by omega) lz (by rw [tm_assoc N.h1 N.h2, hw, tm_zr N.h1 N.h2]) with c | c
        · exact .inl c
        · right
          rw [ez, c, sc_zr]
/-- no two but nought make nought -/
theorem dom_is {x y : List Int} (hx : x.length = degF m) (hy : y.length = degF m) (h : tmF m x y = zrL (degF m)) : x = zrL (degF m) ∨ y = zrL (degF m) := by
  have N := D.N; have Nq := D.Nq
  have p0 : p ≠ 0 := by have := D.p2; omega
  have pp : 0 < p := by have := D.p2; omega
  -- one that the lesser wheel tells
  have A : ∀ y : List Int, y.length = degF m → (¬ ∀ i ∈ lowF q y, p ∣ i) → ∀ z : List Int, z.length = degF m → tmF m z y = zrL (degF m) → z = zrL (degF m) := fun y hy hn z hz hzy => by
    refine (dsc D (y := y) (C := False) (fun z hz hzy => .inr ?_) (szL z) z (Nat.le_refl _) hz hzy).resolve_left id
    have r1 := red_nought D (X := prodL m z y) hzy
    rw [red_prod D] at r1
    have lr : (lowF q y).length = degF q := lowF_deg Nq.h1 Nq.h2 _
    have lz : (lowF q z).length = degF q := lowF_deg Nq.h1 Nq.h2 _
    generalize lowF q y = Y at hn r1 lr
    generalize lowF q z = V at r1 lz ⊢
    obtain ⟨b, s, lb, ls, hb⟩ := D.inv (Y.map fun t => t % p) (by rw [List.length_map, lr]) (fun t ht => by
      obtain ⟨t', _, rfl⟩ := List.mem_map.mp ht
      exact ⟨Int.emod_nonneg _ p0, Int.emod_lt_of_pos _ pp⟩) (by
      refine Classical.byContradiction fun no => hn fun i hi => Int.dvd_of_emod_eq_zero ?_
      refine Classical.byContradiction fun ni => no ⟨i % p, List.mem_map.mpr ⟨i, hi, rfl⟩, ni⟩)
    have eY : Y = adz (Y.map fun t => t % p) (scL p (Y.map fun t => t / p)) := by
      refine List.ext_getElem (by simp) fun i i1 i2 => ?_
      rw [List.getElem_zipWith, List.getElem_map, List.getElem_map, List.getElem_map]
      have := Int.emod_add_mul_ediv Y[i] p
      omega
    have hg := div_L p0 r1
    -- the product with what leads back
    have q1 : tmF q (tmF q V Y) b = scL p (tmF q ((tmF q V Y).map fun t => t / p) b) := by
      rw [← tm_sc Nq.h1 Nq.h2, hg]
    have q2 : tmF q Y b = adz (adz (whlL (degF q) 1) (scL p s)) (scL p (tmF q (Y.map fun t => t / p) b)) := by
      conv => lhs; rw [eY, tm_comm]
      rw [tm_ad Nq.h1 Nq.h2 b (by simp), tm_scR Nq.h1 Nq.h2, tm_comm b, hb, tm_comm b]
    rw [tm_assoc Nq.h1 Nq.h2, q2, tm_ad Nq.h1 Nq.h2 V (by
      rw [adz_len (whl_len Nq.d1) (by rw [List.length_map, ls]), List.length_map, lowF_deg Nq.h1 Nq.h2]), tm_ad Nq.h1 Nq.h2 V (by rw [whl_len Nq.d1, List.length_map, ls]), tm_scR Nq.h1 Nq.h2, tm_scR Nq.h1 Nq.h2, tm_comm V (whlL _ _), tm_one Nq lz] at q1
    intro t ht
    obtain ⟨i, hi, rfl⟩ := List.getElem_of_mem ht
    have l1 : (tmF q V s).length = degF q := lowF_deg Nq.h1 Nq.h2 _
    have l2 : (tmF q V (tmF q (Y.map fun t => t / p) b)).length = degF q := lowF_deg Nq.h1 Nq.h2 _
    have l3 : (tmF q ((tmF q V Y).map fun t => t / p) b).length = degF q := lowF_deg Nq.h1 Nq.h2 _
    have := congrArg (fun L : List Int => L[i]?) q1
    rw [List.getElem?_eq_getElem (by simp only [List.length_zipWith, List.length_map]; omega), List.getElem?_eq_getElem (by simp only [List.length_map]; omega), List.getElem_zipWith, List.getElem_zipWith, List.getElem_map, List.getElem_map, List.getElem_map] at this
    have := Option.some.inj this
    refine ⟨(tmF q ((tmF q V Y).map fun t => t / p) b)[i]'(by omega) - (tmF q V s)[i]'(by omega) - (tmF q V (tmF q (Y.map fun t => t / p) b))[i]'(by omega), ?_⟩
    rw [Int.mul_sub, Int.mul_sub]
    omega
  rcases dsc D (y := x) (C := x = zrL (degF m)) (fun z hz hzx => by
    by_cases c : ∀ i ∈ lowF q z, p ∣ i
    · exact .inr c
    · exact .inl (A z hz c x hx (by rw [tm_comm]; exact hzx))) (szL y) y (Nat.le_refl _) hy (by rw [tm_comm]; exact h) with c | c
  · exact .inl c
  · exact .inr c
end
end TB

/-! TbNr5: plain law: the product of all moves is nought just where the number is. -/
namespace TB
open PySem L2
/-- by wheel: a prime, the lesser wheel, so many times, what the prime is made of, what is left, what leads back by the lesser wheel -/
def domT : List (Int × Nat × Int × Nat × List Int × List Int × List Int × List Nat) := [(1, 2, 1, 1, [2], [1], [1], [0, 1]),
  (2, 2, 1, 1, [2], [1], [1], [0, 1]),
  (3, 3, 1, 2, [1, -1], [2, 1], [0, -1], [0, 1, 2]),
  (4, 2, 1, 2, [1, -1], [1, 1], [0, -1], [0, 1]),
  (5, 5, 1, 4, [1, -1, 0, 0], [4, 3, 2, 1], [0, -1, 1, -1], [0, 1, 3, 2, 4]),
  (6, 3, 2, 2, [2, -1], [1, 1], [1, -1], [0, 1, 2]),
  (7, 7, 1, 6, [1, -1, 0, 0, 0, 0], [6, 5, 4, 3, 2, 1], [0, -1, 2, -3, 2, -1], [0, 1, 4, 5, 2, 3, 6]),
  (8, 2, 1, 4, [1, -1, 0, 0], [1, 1, 1, 1], [0, -2, 3, -2], [0, 1]),
  (9, 3, 1, 6, [1, -1, 0, 0, 0, 0], [2, 2, 2, 1, 1, 1], [0, -2, 5, -7, 5, -2], [0, 1, 2]),
  (10, 5, 2, 4, [1, 0, -1, 0], [2, 1, 1, 2], [-1, 2, -2, 1], [0, 1, 3, 2, 4]),
  (12, 2, 3, 2, [1, 0, 0, -1], [1, 0, 0, 1], [0, 0, 0, -1], [0, 1, 3, 2]),
  (14, 7, 2, 6, [1, 0, -1, 0, 0, 0], [3, 1, 2, 2, 1, 3], [3, -5, 2, -2, 5, -3], [0, 1, 4, 5, 2, 3, 6]),
  (15, 3, 5, 2, [1, 0, 0, 0, 0, -1, 0, 0], [2, 0, 0, 0, 0, 1, 0, 0], [0, 0, 0, 0, 0, -1, 0, 0], [0, 1, 2, 80, 60, 46, 40, 65, 30, 27, 24, 44, 20, 28, 43, 59, 52, 71, 54, 76, 12, 34, 49, 68, 10, 77, 56, 9, 13, 75, 8, 78, 45, 51, 21, 69, 37, 36, 73, 62, 6, 47, 55, 14, 11, 32, 5, 41, 58, 22, 53, 33, 16, 50, 18, 42, 26, 66, 48, 15, 4, 63, 39, 61, 79, 7, 57, 70, 23, 35, 67, 17, 74, 38, 72, 29, 19, 25, 31, 64, 3]),
  (16, 2, 1, 8, [1, -1, 0, 0, 0, 0, 0, 0], [1, 1, 1, 1, 1, 1, 1, 1], [0, -4, 14, -28, 35, -28, 14, -4], [0, 1]),
  (18, 3, 2, 6, [1, 0, -1, 0, 0, 0], [1, -1, 1, 1, 2, 1], [7, 2, -7, -7, 5, 5], [0, 1, 2]),
  (20, 2, 5, 2, [1, 0, 0, 0, 0, -1, 0, 0], [1, 0, 0, 0, 0, 1, 0, 0], [0, 0, 0, 0, 0, -1, 0, 0], [0, 1, 15, 10, 8, 6, 5, 9, 4, 7, 3, 14, 13, 12, 11, 2]),
  (24, 2, 3, 4, [1, 0, 0, -1, 0, 0, 0, 0], [1, -1, 0, 1, 0, 1, 1, 0], [0, 2, 0, -2, 0, -2, 3, 0], [0, 1, 3, 2]),
  (30, 3, 10, 2, [2, 0, 0, 0, 0, -1, 0, 0], [1, 0, 0, 0, 0, 1, 0, 0], [1, 0, 0, 0, 0, -1, 0, 0], [0, 1, 2, 70, 38, 60, 50, 30, 73, 54, 21, 68, 35, 76, 41, 20, 55, 67, 27, 52, 15, 10, 53, 29, 58, 79, 44, 18, 66, 23, 7, 36, 69, 42, 78, 12, 31, 49, 4, 59, 43, 14, 33, 40, 26, 47, 65, 45, 61, 37, 6, 56, 19, 22, 9, 16, 51, 75, 24, 39, 5, 48, 72, 64, 63, 46, 28, 17, 11, 32, 3, 74, 62, 8, 71, 57, 13, 80, 34, 25, 77])]
def dig (p : Nat) : Nat → Nat → List Int
  | 0, _ => []
  | d + 1, i => ((i % p : Nat) : Int) :: dig p d (i / p)
theorem dig_len (p : Nat) : ∀ d i, (dig p d i).length = d
  | 0, _ => rfl
  | d + 1, i => by show (dig p d (i / p)).length + 1 = d + 1; rw [dig_len p d]
theorem dig_0 (p : Nat) : ∀ d, ∀ y ∈ dig p d 0, y = 0
  | 0, y, h => by simp [dig] at h
  | d + 1, y, h => by
    have h : y ∈ ((0 % p : Nat) : Int) :: dig p d (0 / p) := h
    rw [Nat.zero_mod, Nat.zero_div] at h
    rcases List.mem_cons.mp h with q | q
    · exact q
    · exact dig_0 p d y q
theorem dig_sur {p : Nat} (hp : 0 < p) : ∀ (d : Nat) (x : List Int), x.length = d → (∀ y ∈ x, 0 ≤ y ∧ y < p) → ∃ i, i < p ^ d ∧ dig p d i = x
  | 0, x, hl, _ => ⟨0, by simp, by rw [List.eq_nil_of_length_eq_zero hl]; rfl⟩
  | d + 1, [], hl, _ => by simp at hl
  | d + 1, y :: x, hl, h => by
    obtain ⟨i, hi, e⟩ := dig_sur hp d x (by simpa using hl) fun z hz => h z (by simp [hz])
    obtain ⟨y0, y1⟩ := h y (by simp)
    refine ⟨y.toNat + p * i, ?_, ?_⟩
    · have : p * (i + 1) ≤ p * p ^ d := Nat.mul_le_mul_left p hi
      rw [Nat.pow_succ, Nat.mul_comm (p ^ d)]
      rw [Nat.mul_add] at this
      omega
    · show (((y.toNat + p * i) % p : Nat) : Int) :: dig p d ((y.toNat + p * i) / p) = y :: x
      rw [Nat.add_mul_mod_self_left, Nat.add_mul_div_left _ _ hp, Nat.mod_eq_of_lt (by omega), Nat.div_eq_of_lt (by omega), Nat.zero_add, e, show ((y.toNat : Nat) : Int) = y by omega]
def rowOk (r : Int × Nat × Int × Nat × List Int × List Int × List Int × List Nat) : Bool :=
  match r with
  | (m, p, q, e, a, c2, u, inv) =>
    decide (m ∈ smlL) && decide (q ∈ smlL) && decide (2 ≤ p) && decide (m % q = 0) && decide (degF q ≤ degF m) && decide (a.length = degF m) && decide (c2.length = degF m) && decide (u.length = degF m) &&
    decide (tmF m a c2 = whlL (degF m) p) && decide (tpw m a e = scL p u) && ((lowF q (circ m)).all fun y => decide (y % (p : Int) = 0)) &&
    ((List.range (degF m)).all fun k => (List.range (degF m)).all fun i => decide ((gt (tw m c2 (k : Int)) (i : Int) - sv 0 (lowF q (dlL q (k : Int))) fun c => gt (tw m c2 c) (i : Int)) % (p : Int) = 0)) &&
    ((List.range (p ^ degF q)).all fun i => decide (i = 0) || (adz (tmF q (dig p (degF q) i) (dig p (degF q) (inv.getD i 0))) (whlL (degF q) (-1))).all fun y => decide (y % (p : Int) = 0))
theorem rows_ok : domT.all rowOk = true := by decide +kernel
theorem rows_all : smlL.all (fun m => domT.any fun r => decide (r.1 = m)) = true := by decide +kernel
theorem dom_ok {m : Int} (h : m ∈ smlL) : ∃ p q e a c2 u, DomOk m p q e a c2 u := by
  have h1 := List.all_eq_true.mp rows_all m h
  rw [List.any_eq_true] at h1
  obtain ⟨⟨m', p, q, e, a, c2, u, inv⟩, hr, em⟩ := h1
  have em : m' = m := of_decide_eq_true em
  subst em
  have h2 := List.all_eq_true.mp rows_ok _ hr
  unfold rowOk at h2
  simp only [Bool.and_eq_true, decide_eq_true_eq, List.all_eq_true, List.mem_range, Bool.or_eq_true] at h2
  obtain ⟨⟨⟨⟨⟨⟨⟨⟨⟨⟨⟨⟨a1, a2⟩, a3⟩, a4⟩, a5⟩, a6⟩, a7⟩, a8⟩, a9⟩, b1⟩, b2⟩, b3⟩, b4⟩ := h2
  have Nq := nr_ok a2
  refine ⟨p, q, e, a, c2, u, nr_ok a1, Nq, by omega, a4, a5, a6, a7, a8, a9, b1, fun y hy => Int.dvd_of_emod_eq_zero (b2 y hy), fun k i hk hi => Int.dvd_of_emod_eq_zero (b3 k hk i hi), fun x hx hb hn => ?_⟩
  obtain ⟨i, hi, ex⟩ := dig_sur (p := p) (by omega) (degF q) x hx hb
  rcases b4 i hi with z | z
  · subst z
    obtain ⟨y, hy, ny⟩ := hn
    rw [← ex] at hy
    exact absurd (dig_0 p _ y hy) ny
  · rw [ex] at z
    have lt : (tmF q x (dig p (degF q) (inv.getD i 0))).length = degF q := lowF_deg Nq.h1 Nq.h2 _
    have lw1 : (whlL (degF q) (-1)).length = degF q := whl_len Nq.d1
    have la := adz_len lt lw1
    have hd := div_L (p := (p : Int)) (by omega) fun y hy => Int.dvd_of_emod_eq_zero (z y hy)
    refine ⟨dig p (degF q) (inv.getD i 0), (adz (tmF q x (dig p (degF q) (inv.getD i 0))) (whlL (degF q) (-1))).map fun y => y / (p : Int), dig_len _ _ _, by rw [List.length_map]; exact la, ?_⟩
    rw [hd]
    have lw2 : (whlL (degF q) 1).length = degF q := whl_len Nq.d1
    refine List.ext_getElem (by rw [lt, adz_len lw2 la]) fun k k1 k2 => ?_
    rw [List.getElem_zipWith, List.getElem_zipWith]
    have : ∀ (c : Int) (h : k < (whlL (degF q) c).length), (whlL (degF q) c)[k] = if k = 0 then c else 0 := fun c h => by
      rw [← gt_nat h]
      cases k with
      | zero => rfl
      | succ k =>
        rw [if_neg (by omega)]
        show gt (List.replicate (degF q - 1) (0 : Int)) (k : Int) = 0
        have := Nq.d1
        rw [gt_nat (by rw [List.length_replicate]; rw [whl_len this] at h; omega), List.getElem_replicate]
    rw [this 1 (by omega), this (-1) (by omega)]
    split <;> omega
section
variable {m : Int}
theorem whl_0 {n : Nat} (h : 1 ≤ n) : whlL n 0 = zrL n := by
  show 0 :: List.replicate (n - 1) 0 = List.replicate n 0
  rw [← List.replicate_succ, show n - 1 + 1 = n by omega]
theorem mv_zr (N : NrOk m) (j : Int) : mvF m j (zrL (degF m)) = zrL (degF m) := by
  rw [← whl_0 N.d1, mv_whl N]
theorem fold_zr (h : m ∈ smlL) {x : List Int} (hx : x.length = degF m) : ∀ (js acc : List Int), acc.length = degF m → js.foldl (fun a j => tmF m a (mvF m j x)) acc = zrL (degF m) → acc = zrL (degF m) ∨ ∃ j ∈ js, mvF m j x = zrL (degF m)
  | [], acc, _, e => .inl e
  | j :: js, acc, hl, e => by
    have N := nr_ok h
    obtain ⟨p, q, e', a, c2, u, D⟩ := dom_ok h
    rcases fold_zr h hx js (tmF m acc (mvF m j x)) (lowF_deg N.h1 N.h2 _) e with c | ⟨i, hi, c⟩
    · rcases dom_is D hl (lowF_deg N.h1 N.h2 _) c with c | c
      · exact .inl c
      · exact .inr ⟨j, by simp, c⟩
    · exact .inr ⟨i, by simp [hi], c⟩
theorem zr_fold (N : NrOk m) : ∀ (js acc : List Int), (acc = zrL (degF m) ∨ js ≠ []) → js.foldl (fun a j => tmF m a (mvF m j (zrL (degF m)))) acc = zrL (degF m)
  | [], acc, h => h.elim id fun z => absurd rfl z
  | j :: js, acc, _ => by
    show js.foldl _ (tmF m acc (mvF m j (zrL (degF m)))) = _
    rw [mv_zr N, tm_zr N.h1 N.h2]
    exact zr_fold N js _ (.inl rfl)
/-- the product of all moves is nought just where the number is -/
theorem nrm_zero (h : m ∈ smlL) {x : List Int} (hx : x.length = degF m) {c : Int} (hc : nrmF m x (movL m) = whlL (degF m) c) : c = 0 ↔ x = zrL (degF m) := by
  have N := nr_ok h
  constructor
  · rintro rfl
    rw [whl_0 N.d1] at hc
    rcases fold_zr h hx _ _ (whl_len N.d1) hc with z | ⟨j, hj, z⟩
    · rw [← whl_0 N.d1] at z
      have := (List.cons.inj z).1
      omega
    · obtain ⟨_, _, _, i, hi, hij⟩ := N.mv j hj
      have e1 : mvF m i (mvF m j x) = x := by
        rw [mv_mv N.h1 N.h2 (N.mv i hi).2.2.1, mv_mod N.h1 N.h2 hij, mv_1 N.h1 N.h2 hx]
      rw [← e1, z, mv_zr N]
  · rintro rfl
    have := zr_fold N (movL m) (whlL (degF m) 1) (.inr fun z => by
      have := N.len
      rw [z] at this
      have := N.d1
      simp at *
      omega)
    have hc : _ = whlL (degF m) c := hc
    rw [show nrmF m (zrL (degF m)) (movL m) = zrL (degF m) from this, ← whl_0 N.d1] at hc
    exact (List.cons.inj hc).1.symm
end
end TB

/-! TbTry: try with clauses, some of them with a name; what is caught may be kept. -/
namespace TB
open PySem PySem.Spec PyProof.Rows L2
/-- a caught exception that is kept at a -/
def XT (cls : Value) (d : Option Addr) (a : Addr) : HO := .ext fun h => ∃ (oe : Obj) (vs : Array Value), h.get? a = some oe ∧ Zc cls d oe ∧ oe.data = .fields vs
section
variable {X : Cx} {pins : List (Addr × Obj)} {σ : L2.St} {H : Hp} {s : Shared}
end
abbrev Hdl := Value × Option Nat × (Addr → Value → Option Addr → TS)
section
variable {X : Cx} {body : List Stmt} {h₀ : ExceptHandler} {hds : List ExceptHandler} {l : List Hdl} {pos : Pos} {tb : WX → TS} {Wout : WX}
end
end TB

/-! TbEx: exceptions as data: what is caught and kept, isinstance, fields. -/
namespace TB
open PySem PySem.Spec PyProof.Rows L2
def XtOk (Z : Zz) (R : Hp) (r : Rf) (cls : Value) (d : Option Addr) : Prop := cls = .ref (Z.cls r.name) ∧ ((r.fs = [] ∧ d = none) ∨ ∃ dx, d = some dx ∧ R dx = some (.xd r.fs))
theorem XtOk.mono {Z : Zz} {R R' : Hp} {r : Rf} {cls : Value} {d : Option Addr} (e : Same R R') (h : XtOk Z R r cls d) : XtOk Z R' r cls d := by
  obtain ⟨h1, h2 | ⟨dx, h3, h4⟩⟩ := h
  · exact ⟨h1, .inl h2⟩
  · exact ⟨h1, .inr ⟨dx, h3, e _ _ h4⟩⟩
instance : Rp Rf := ⟨⟨.BookError, []⟩, fun Z H v r => ∃ a cls d, v = .ref a ∧ H a = some (XT cls d a) ∧ XtOk Z H r cls d, fun e h => by
  obtain ⟨a, cls, d, h1, h2, h3⟩ := h
  exact ⟨a, cls, d, h1, e _ _ h2, h3.mono e⟩⟩
/-- the exception that a suite holds -/
def ExO1 (a : Addr) (d : Option Addr) (r : Rf) : Own := ⟨fun Z R _ v => v = .ref a ∧ XtOk Z R r (.ref (Z.cls r.name)) d, fun e h => ⟨h.1, h.2.mono e⟩⟩
abbrev Sl.ex (a : Addr) (d : Option Addr) (r : Rf) : Sl := .ow (ExO1 a d r)
section
variable {Z : Zz} {B R0 R R' H H' : Hp} {ρ σ : List (Option V)} {Δ Γ : List Sl}
end
/-! ### the classes -/
def mroV (Z : Zz) (C : CN) : List Value := (if C = .BookError then [] else [.ref (Z.cls C)]) ++ [.ref (Z.cls .BookError), .type "ValueError", .type "Exception", .type "BaseException", .type "object"]
structure ExsC (Z : Zz) (C : CN) : Prop where
  mro : (PySem.W.clsIn Z.K (Z.cls C)).map (·.mro) = some (mroV Z C)
  ty : PySem.W.typeIn Z.K (.ref (Z.cls C)) = some (.type "type")
  hd : PySem.W.hasDictIn Z.K (Z.cls C) = true
  ga : PySem.W.findIn Z.K (.ref (Z.cls C)) "__getattribute__" = some (some (.builtin "BaseException.__getattribute__"))
  gg : PySem.W.findIn Z.K (.ref (Z.cls C)) "__getattr__" = some none
  ca : PySem.W.findIn Z.K (.ref (Z.cls C)) "__class__" = some (some (.builtin "object.__class__"))
def ExsL (Z : Zz) : List CN → Prop
  | [] => True
  | C :: r => ExsC Z C ∧ ExsL Z r
structure Exs (Z : Zz) (L : List CN) : Prop where
  all : ExsL Z L
  inj : (L.map Z.cls).Nodup
  base : .BookError ∈ L
  sg : PySem.W.specialIn Z.K (.builtin "object.__class__") "__get__" = some (some (.builtin "getset_descriptor.__get__"))
  tk : PySem.W.takesIn Z.K (.builtin "object.__class__") = some true
theorem ExsL.at {Z : Zz} : ∀ {L : List CN}, ExsL Z L → ∀ {C : CN}, C ∈ L → ExsC Z C
  | _ :: _, ⟨h, t⟩, C, m => by
    rcases List.mem_cons.mp m with e | e
    · rw [e]; exact h
    · exact ExsL.at t e
/-- D stands beneath C -/
def subB (D C : CN) : Bool := decide (D = C) || decide (C = .BookError)
section
variable {Z : Zz} {L : List CN} {C D : CN}
theorem nd_inj : ∀ {L : List CN} {f : CN → Addr}, (L.map f).Nodup → ∀ {C D : CN}, C ∈ L → D ∈ L → f C = f D → C = D
  | x :: r, f, h, C, D, hC, hD, e => by
    simp only [List.map_cons, List.nodup_cons] at h
    rcases List.mem_cons.mp hC with q | q <;> rcases List.mem_cons.mp hD with q' | q'
    · rw [q, q']
    · subst q
      exact absurd (e ▸ List.mem_map.mpr ⟨D, q', rfl⟩) h.1
    · subst q'
      exact absurd (e ▸ List.mem_map.mpr ⟨C, q, rfl⟩) h.1
    · exact nd_inj h.2 q q' e
theorem Exs.at (E : Exs Z L) (h : C ∈ L) : ExsC Z C := E.all.at h
theorem Exs.inj' (E : Exs Z L) (hC : C ∈ L) (hD : D ∈ L) (e : Z.cls C = Z.cls D) : C = D := nd_inj E.inj hC hD e
theorem mroV_ne : (mroV Z C).isEmpty = false := by
  unfold mroV
  cases (if C = .BookError then ([] : List Value) else [.ref (Z.cls C)]) <;> rfl
theorem Exs.subV (E : Exs Z L) (hD : D ∈ L) (b : Value) : PySem.W.subIn Z.K (.ref (Z.cls D)) b = some ((mroV Z D).contains b) := by
  have h := (E.at hD).mro
  obtain ⟨cd, h1, h2⟩ := Option.map_eq_some_iff.mp h
  show (PySem.W.clsIn Z.K (Z.cls D)).bind _ = _
  rw [h1]
  show (if cd.mro.isEmpty = true then none else some (cd.mro.contains b)) = _
  rw [h2, mroV_ne]
  rfl
theorem ref_beq {a b : Addr} : ((Value.ref a : Value) == .ref b) = decide (a = b) := by
  by_cases h : a = b
  · rw [h, decide_eq_true rfl]; exact beq_self_eq_true _
  · rw [decide_eq_false h]
    exact Bool.eq_false_iff.mpr fun q => h (Value.ref.inj (beq_iff_eq.mp q))
theorem ref_tbeq {a : Addr} {t : String} : ((Value.ref a : Value) == .type t) = false := Bool.eq_false_iff.mpr fun q => by cases beq_iff_eq.mp q
theorem Exs.sub (E : Exs Z L) (hD : D ∈ L) (hC : C ∈ L) : PySem.W.subIn Z.K (.ref (Z.cls D)) (.ref (Z.cls C)) = some (subB D C) := by
  rw [E.subV hD]
  congr 1
  have e1 : decide (Z.cls C = Z.cls D) = decide (D = C) := decide_eq_decide.mpr ⟨fun h => (E.inj' hC hD h).symm, fun h => by rw [h]⟩
  have e2 : decide (Z.cls C = Z.cls .BookError) = decide (C = .BookError) := decide_eq_decide.mpr ⟨fun h => E.inj' hC E.base h, fun h => by rw [h]⟩
  have tail : ([.type "ValueError", .type "Exception", .type "BaseException", .type "object"] : List Value).contains (.ref (Z.cls C)) = false := by
    simp only [List.contains_cons, List.contains_nil, ref_tbeq, Bool.or_false]
  unfold mroV subB
  by_cases h : D = .BookError
  · rw [if_pos h, List.nil_append, List.contains_cons, ref_beq, e2, tail, Bool.or_false, h]
    by_cases c : C = .BookError
    · simp [c]
    · have : ¬ CN.BookError = C := fun z => c z.symm
      simp [c, this]
  · rw [if_neg h, List.cons_append, List.nil_append, List.contains_cons, List.contains_cons, ref_beq, ref_beq, e1, e2, tail, Bool.or_false]
theorem Exs.clsT (E : Exs Z L) (hC : C ∈ L) : ((PySem.W.clsIn Z.K (Z.cls C)).isSome && PySem.W.typeIn Z.K (.ref (Z.cls C)) == some (.type "type")) = true := by
  obtain ⟨cd, h1, h2⟩ := Option.map_eq_some_iff.mp (E.at hC).mro
  rw [h1, (E.at hC).ty]
  rfl
theorem Exs.kit (E : Exs Z L) (hD : D ∈ L) (hC : C ∈ L) : PySem.W.kitCls Z.K (.ref (Z.cls D)) (.ref (Z.cls C)) = some (subB D C) := by
  unfold PySem.W.kitCls
  show (if _ then PySem.W.subIn _ _ _ else none) = _
  rw [if_pos (E.clsT hC)]
  exact E.sub hD hC
theorem Exs.one (E : Exs Z L) (hD : D ∈ L) (hC : C ∈ L) : PySem.W.kitOne Z.K (.ref (Z.cls D)) (.ref (Z.cls C)) = some (subB D C) := by
  unfold PySem.W.kitOne
  rw [ref_beq]
  by_cases c : D = C
  · subst c
    rw [if_pos (decide_eq_true rfl)]
    simp [subB]
  · rw [if_neg (by simp only [decide_eq_true_eq]; exact fun z => c (E.inj' hD hC z))]
    exact E.kit hD hC
end
end TB

namespace TB
open PySem PySem.Spec PyProof.Rows L2
/-! ### isinstance of what was kept -/
section
variable {Z : Zz} {L : List CN} {C D : CN}
end
end TB

namespace TB
open PySem PySem.Spec PyProof.Rows L2
section
variable {c : Cn} {Γ : List Sl} {ta tb te tl : TE} {tt tc : TT} {t u : TS} {s so : Sl} {α β γ : Type} {_ : Rp α} {_ : Rp β} {_ : Rp γ} {P : Po} {d : α} {L : List CN}
/-! ### try -/
end
end TB

/-! TbPr: own pairs of any two slots; texts compared. -/
namespace TB
open PySem L2
def Pr (s1 s2 : Sl) : Own := ⟨fun Z R h v => ∃ (a : Addr) (x y : V) (f1 f2 : List Addr), v = .ref a ∧ (a :: (f1 ++ f2)).Nodup ∧ h a = some (.tup [x, y]) ∧ slok Z R h (some x) s1 f1 ∧ slok Z R h (some y) s2 f2,
  fun e h => by
    obtain ⟨a, x, y, f1, f2, h1, h2, h3, h4, h5⟩ := h
    exact ⟨a, x, y, f1, f2, h1, h2, h3, slok_mono e (fun _ _ => rfl) h4, slok_mono e (fun _ _ => rfl) h5⟩⟩
abbrev Sl.pr (s1 s2 : Sl) : Sl := .ow (Pr s1 s2)
section
variable {Z : Zz} {B R0 R R' H H' : Hp} {τ ρ σ : List (Option V)} {Θ Δ Γ : List Sl} {s s' s1 s2 : Sl} {o : Option V} {f g own : List Addr}
end
section
variable {c : Cn} {Γ : List Sl} {ta tb te tl : TE} {tt tc : TT} {t u : TS} {s s' s1 s2 : Sl} {α β γ : Type} {_ : Rp α} {_ : Rp β} {_ : Rp γ} {P : Po} {d : α}
end
end TB
namespace TB
open PySem L2
section
variable {c : Cn} {Γ : List Sl} {te : TE} {s : Sl} {α : Type} {_ : Rp α}
end
end TB

/-! TbU: sorted(set(xs)) of a list of ints. -/
namespace TB
open PySem PySem.Spec PyProof.Rows L2
section
variable {P : Program} {w : World} {A : Around} {E : Value → Shared → Prop} {s : Shared}
end
section
variable {X : Cx} {a : Expr} {ta : TE} {p p2 q pos : Pos}
end
end TB

/-! TbD: dicts, membership, own lists walked, own lists put into own lists. -/
namespace TB
open PySem L2
/-! ### dicts by int keys -/
section
variable {Z : Zz} {R : Hp} {α : Type} {_ : Rp α}
end
section
variable {c : Cn} {Γ : List Sl} {ta tb te tl ty : TE} {tt tc : TT} {t u : TS} {s s' so : Sl} {α β γ : Type} {_ : Rp α} {_ : Rp β} {_ : Rp γ} {P : Po} {d : α}
end
/-! ### membership in lists of ints -/
section
variable {c : Cn} {Γ : List Sl} {ta tb te tl ty : TE} {tt tc : TT} {t u : TS} {s s' so : Sl} {α β γ : Type} {_ : Rp α} {_ : Rp β} {_ : Rp γ} {P : Po} {d : α}
/-! ### sorted(set(xs)) -/
end
def Inc (xs : List Int) : Prop := xs.Pairwise (· < ·)
section
variable {c : Cn} {Γ : List Sl} {ta tb te tl ty : TE} {tt tc : TT} {t u : TS} {s s' so : Sl} {α β γ : Type} {_ : Rp α} {_ : Rp β} {_ : Rp γ} {P : Po} {d : α}
/-! ### own lists put into own lists -/
end
end TB
namespace TB
open PySem L2
section
variable {c : Cn} {Γ : List Sl} {ta tb te tl ty : TE} {tt tc : TT} {t u : TS} {s s' so : Sl} {α β γ : Type} {_ : Rp α} {_ : Rp β} {_ : Rp γ} {P : Po} {d : α}
end
end TB

/-! TbMv: things moved out of their slots; own pairs' parts; groups of own parts; fields of kept exceptions. -/
namespace TB
open PySem PySem.Spec PyProof.Rows L2
section
variable {c : Cn} {Γ Γ1 Γ2 Γ3 : List Sl} {ta tb td te tl : TE} {tt tc : TT} {t u : TS} {s s1 s2 so : Sl} {α β γ : Type} {_ : Rp α} {_ : Rp β} {_ : Rp γ} {P : Po} {d : α}
/-! ### parts of own pairs -/
end
/-! ### fields of exceptions that were kept -/
section
variable {c : Cn} {Γ : List Sl} {te : TE}
end
end TB

/-! TbDz: dict(zip(xs, ys)); sorted(d.keys()). -/
namespace TB
open PySem PySem.Spec PyProof.Rows L2
section
variable {X : Cx} {a b : Expr} {ta : TA} {p p2 q pos : Pos}
end
section
variable {X : Cx} {e : Expr} {td : TE} {p apos cpos pos : Pos}
end
end TB

/-! TbMk: the makings of the laws' groups, as data. -/
namespace TB
open PySem L2
end TB

/-! TbAb: plain law: an abelian part turned by steps is a group. -/
namespace TB
open PySem L2
def In (n a : Int) : Prop := 0 ≤ a ∧ a < n
/-! ### an abelian part, turned by steps -/
section
variable {n s : Int} {f : Int → Int → Int} {ph : Int → Int} {e : Int}
end
end TB
namespace TB
open PySem L2
/-! ### three rounds -/
section
variable {a b c : Int}
end
end TB
namespace TB
open PySem L2
/-! ### the turn -/
section
variable {a b c s u v w k : Int}
end
end TB
namespace TB
open PySem L2
section
variable {cc : Cn} {Γ : List Sl} {k : Nat} {a b c d : Int}
end
end TB

/-! TbGt: plain law: powers, orders, parts of a group told by its table. -/
namespace TB
open PySem L2
theorem nodup_le {α : Type} [DecidableEq α] : ∀ {A B : List α}, A.Nodup → (∀ x ∈ A, x ∈ B) → A.length ≤ B.length
  | [], _, _, _ => Nat.zero_le _
  | a :: A, B, nd, h => by
    have nd' := List.nodup_cons.mp nd
    have hb := h a List.mem_cons_self
    have ih := nodup_le (A := A) (B := B.erase a) nd'.2 fun x hx => by
      have : x ≠ a := fun z => nd'.1 (z ▸ hx)
      exact (List.mem_erase_of_ne this).mpr (h x (List.mem_cons_of_mem _ hx))
    rw [List.length_erase_of_mem hb] at ih
    have : 0 < B.length := List.length_pos_of_mem hb
    simp only [List.length_cons]
    omega
theorem filter_two {α : Type} (p : α → Bool) : ∀ L : List α, L.length = (L.filter p).length + (L.filter fun x => !p x).length
  | [] => rfl
  | a :: L => by
    have ih := filter_two p L
    rw [List.filter_cons, List.filter_cons]
    cases p a <;> simp <;> omega
theorem nodup_irange' (n : Int) : (irange n).Nodup := by
  unfold irange List.Nodup
  rw [List.pairwise_map]
  exact (List.nodup_range).imp (fun h e => h (by omega))
theorem least {p : Nat → Prop} (h : ∃ k, p k) : ∃ k, p k ∧ ∀ j, j < k → ¬ p j := by
  obtain ⟨k, hk⟩ := h
  induction k using Nat.strongRecOn with
  | _ k ih =>
    by_cases q : ∃ j, j < k ∧ p j
    · obtain ⟨j, hj, hp⟩ := q
      exact ih j hj hp
    · exact ⟨k, hk, fun j hj hp => q ⟨j, hj, hp⟩⟩
section
variable {t : Tbl} {e : Int}
theorem GTbl.cl (h : GTbl t e) {a b : Int} (ha : InT t a) (hb : InT t b) : InT t (en t a b) := by
  have h1 : (gt t a).length = t.length := h.sz.2.2 _ (gt_mem ha.1 ha.2)
  exact h.ns _ (gt_mem ha.1 ha.2) _ (gt_mem hb.1 (by rw [h1]; exact hb.2))
theorem GTbl.row (h : GTbl t e) {a : Int} (ha : InT t a) : (gt t a).length = t.length := h.sz.2.2 _ (gt_mem ha.1 ha.2)
theorem GTbl.u1 (h : GTbl t e) {a : Int} (ha : InT t a) : en t e a = a := (h.un a ha.1 ha.2).1
theorem GTbl.u2 (h : GTbl t e) {a : Int} (ha : InT t a) : en t a e = a := (h.un a ha.1 ha.2).2
theorem GTbl.as (h : GTbl t e) {a b c : Int} (ha : InT t a) (hb : InT t b) (hc : InT t c) : en t (en t a b) c = en t a (en t b c) := h.asc a b c ha hb hc
theorem GTbl.canL (h : GTbl t e) {a b c : Int} (ha : InT t a) (hb : InT t b) (hc : InT t c) (q : en t a b = en t a c) : b = c := by
  obtain ⟨i, hi, e1, e2⟩ := h.bk a ha
  have := congrArg (en t i) q
  rw [← h.as hi ha hb, ← h.as hi ha hc, e2, h.u1 hb, h.u1 hc] at this
  exact this
/-! ### powers -/
def pw (t : Tbl) (e a : Int) : Nat → Int
  | 0 => e
  | k + 1 => en t (pw t e a k) a
theorem pw_in (h : GTbl t e) {a : Int} (ha : InT t a) : ∀ k, InT t (pw t e a k)
  | 0 => h.he
  | k + 1 => h.cl (pw_in h ha k) ha
theorem pw_add (h : GTbl t e) {a : Int} (ha : InT t a) (i : Nat) : ∀ j, pw t e a (i + j) = en t (pw t e a i) (pw t e a j)
  | 0 => (h.u2 (pw_in h ha i)).symm
  | j + 1 => by
    show en t (pw t e a (i + j)) a = en t _ (en t (pw t e a j) a)
    rw [pw_add h ha i j, h.as (pw_in h ha i) (pw_in h ha j) ha]
structure IsOrd (t : Tbl) (e a : Int) (d : Nat) : Prop where
  pos : 1 ≤ d
  one : pw t e a d = e
  low : ∀ k, 0 < k → k < d → pw t e a k ≠ e
theorem ex_back (h : GTbl t e) {a : Int} (ha : InT t a) : ∃ k, 0 < k ∧ k ≤ t.length ∧ pw t e a k = e := by
  have hlen := h.sz.1
  have : ¬ ((List.range (t.length + 1)).map (pw t e a)).Nodup := fun nd => by
    have := nodup_le (B := irange t.length) nd fun x hx => by
      obtain ⟨i, _, rfl⟩ := List.mem_map.mp hx
      exact mem_irange.mpr (pw_in h ha i)
    rw [List.length_map, List.length_range, irange_len] at this
    omega
  obtain ⟨i, j, hij, hj, eq⟩ : ∃ i j, i < j ∧ j < t.length + 1 ∧ pw t e a i = pw t e a j := by
    refine Classical.byContradiction fun hc => this ?_
    rw [List.Nodup, List.pairwise_map, List.pairwise_iff_getElem]
    intro i j hi hj hlt z
    simp only [List.getElem_range] at z
    simp only [List.length_range] at hi hj
    exact hc ⟨i, j, hlt, hj, z⟩
  refine ⟨j - i, by omega, by omega, ?_⟩
  have q := pw_add h ha i (j - i)
  rw [show i + (j - i) = j by omega, ← eq] at q
  have q2 : en t (pw t e a i) e = en t (pw t e a i) (pw t e a (j - i)) := by rw [h.u2 (pw_in h ha i)]; exact q
  exact (h.canL (pw_in h ha i) h.he (pw_in h ha _) q2).symm
theorem ex_ord (h : GTbl t e) {a : Int} (ha : InT t a) : ∃ d, IsOrd t e a d ∧ d ≤ t.length := by
  obtain ⟨k, k0, k1, k2⟩ := ex_back h ha
  obtain ⟨d, ⟨d0, d1⟩, d2⟩ := least (p := fun k => 0 < k ∧ pw t e a k = e) ⟨k, k0, k2⟩
  refine ⟨d, ⟨d0, d1, fun j j0 j1 z => d2 j j1 ⟨j0, z⟩⟩, ?_⟩
  by_cases q : d ≤ k
  · omega
  · exact absurd ⟨k0, k2⟩ (d2 k (by omega))
theorem pw_mul (h : GTbl t e) {a : Int} (ha : InT t a) {d : Nat} (hd : pw t e a d = e) : ∀ m, pw t e a (d * m) = e
  | 0 => rfl
  | m + 1 => by rw [Nat.mul_succ, pw_add h ha, pw_mul h ha hd m, hd, h.u1 h.he]
theorem pw_mod (h : GTbl t e) {a : Int} (ha : InT t a) {d : Nat} (hd : pw t e a d = e) (k : Nat) : pw t e a (k % d) = pw t e a k := by
  have q := pw_add h ha (d * (k / d)) (k % d)
  rw [Nat.div_add_mod, pw_mul h ha hd, h.u1 (pw_in h ha _)] at q
  exact q.symm
/-! ### parts -/
structure Part (t : Tbl) (e : Int) (H : List Int) : Prop where
  nd : H.Nodup
  inn : ∀ x ∈ H, InT t x
  one : e ∈ H
  mul : ∀ x ∈ H, ∀ y ∈ H, en t x y ∈ H
  bk : ∀ x ∈ H, ∃ y ∈ H, en t x y = e ∧ en t y x = e
theorem lag_aux (h : GTbl t e) {H : List Int} (P : Part t e H) : ∀ (m : Nat) (L : List Int), L.length ≤ m → L.Nodup → (∀ x ∈ L, InT t x) → (∀ x ∈ L, ∀ y ∈ H, en t x y ∈ L) → H.length ∣ L.length
  | 0, L, hm, _, _, _ => by
    rw [show L.length = 0 by omega]
    exact Nat.dvd_zero _
  | m + 1, [], _, _, _, _ => Nat.dvd_zero _
  | m + 1, x :: L0, hm, nd, hin, cl => by
    obtain ⟨L, eL⟩ : ∃ L, L = x :: L0 := ⟨_, rfl⟩
    have hx : x ∈ L := by rw [eL]; exact List.mem_cons_self
    rw [← eL] at hm nd hin cl ⊢
    have xi := hin x hx
    have ndC : (H.map (en t x)).Nodup := by
      rw [List.Nodup, List.pairwise_map]
      exact (P.nd).imp_of_mem fun {y z} hy hz ne q => ne (h.canL xi (P.inn y hy) (P.inn z hz) q)
    have l1 : (L.filter fun y => decide (y ∈ H.map (en t x))).length = H.length := by
      apply Nat.le_antisymm
      · rw [← List.length_map (f := en t x) (as := H)]
        exact nodup_le (nd.filter _) fun y hy => by simpa using (List.mem_filter.mp hy).2
      · rw [← List.length_map (f := en t x) (as := H)]
        exact nodup_le ndC fun y hy => by
          rw [List.mem_filter]
          refine ⟨?_, by simpa using hy⟩
          obtain ⟨z, hz, rfl⟩ := List.mem_map.mp hy
          exact cl x hx z hz
    have l2 := filter_two (fun y => decide (y ∈ H.map (en t x))) L
    have hp : 0 < H.length := List.length_pos_of_mem P.one
    have ih := lag_aux h P m (L.filter fun y => !decide (y ∈ H.map (en t x))) (by omega) (nd.filter _) (fun y hy => hin y (List.mem_filter.mp hy).1) fun y hy z hz => by
      obtain ⟨y1, y2⟩ := List.mem_filter.mp hy
      rw [List.mem_filter]
      refine ⟨cl y y1 z hz, ?_⟩
      have y3 : y ∉ H.map (en t x) := by simpa using y2
      have : en t y z ∉ H.map (en t x) := fun q => by
        obtain ⟨w, hw, ew⟩ := List.mem_map.mp q
        obtain ⟨z', hz', e1, e2⟩ := P.bk z hz
        refine y3 (List.mem_map.mpr ⟨en t w z', P.mul w hw z' hz', ?_⟩)
        rw [← h.as xi (P.inn w hw) (P.inn z' hz'), ew, h.as (hin y y1) (P.inn z hz) (P.inn z' hz'), e1, h.u2 (hin y y1)]
      simpa using this
    rw [l2, l1]
    exact Nat.dvd_add (Nat.dvd_refl _) ih
theorem lag (h : GTbl t e) {H : List Int} (P : Part t e H) : H.length ∣ t.length := by
  have := lag_aux h P (irange t.length).length (irange t.length) (Nat.le_refl _) (nodup_irange' _) (fun x hx => mem_irange.mp hx) fun x hx y hy => mem_irange.mpr (h.cl (mem_irange.mp hx) (P.inn y hy))
  rw [irange_len] at this
  simpa using this
theorem ord_part (h : GTbl t e) {a : Int} (ha : InT t a) {d : Nat} (hd : IsOrd t e a d) : Part t e ((List.range d).map (pw t e a)) := by
  have mem : ∀ k, pw t e a k ∈ (List.range d).map (pw t e a) := fun k => by
    rw [← pw_mod h ha hd.one k]
    exact List.mem_map.mpr ⟨k % d, List.mem_range.mpr (Nat.mod_lt _ hd.pos), rfl⟩
  refine ⟨?_, fun x hx => ?_, mem 0, fun x hx y hy => ?_, fun x hx => ?_⟩
  · rw [List.Nodup, List.pairwise_map, List.pairwise_iff_getElem]
    intro i j hi hj hlt z
    simp only [List.getElem_range, List.length_range] at z hi hj
    have q := pw_add h ha i (j - i)
    rw [show i + (j - i) = j by omega, ← z] at q
    have q2 : en t (pw t e a i) e = en t (pw t e a i) (pw t e a (j - i)) := by rw [h.u2 (pw_in h ha i)]; exact q
    exact hd.low (j - i) (by omega) (by omega) (h.canL (pw_in h ha i) h.he (pw_in h ha _) q2).symm
  · obtain ⟨k, _, rfl⟩ := List.mem_map.mp hx
    exact pw_in h ha k
  · obtain ⟨i, _, rfl⟩ := List.mem_map.mp hx
    obtain ⟨j, _, rfl⟩ := List.mem_map.mp hy
    rw [← pw_add h ha]
    exact mem _
  · obtain ⟨i, hi, rfl⟩ := List.mem_map.mp hx
    have hi' := List.mem_range.mp hi
    refine ⟨_, mem (d - i), ?_, ?_⟩
    · rw [← pw_add h ha, show i + (d - i) = d by omega, hd.one]
    · rw [← pw_add h ha, show d - i + i = d by omega, hd.one]
theorem ord_dvd (h : GTbl t e) {a : Int} (ha : InT t a) {d : Nat} (hd : IsOrd t e a d) : d ∣ t.length := by
  have := lag h (ord_part h ha hd)
  rw [List.length_map, List.length_range] at this
  exact this
theorem pw_len (h : GTbl t e) {a : Int} (ha : InT t a) : pw t e a t.length = e := by
  obtain ⟨d, hd, _⟩ := ex_ord h ha
  obtain ⟨m, em⟩ := ord_dvd h ha hd
  rw [em, pw_mul h ha hd.one]
end
end TB
namespace TB
open PySem L2
/-- one thing turned by another -/
def cj (t : Tbl) (e x a : Int) : Int := en t (en t x a) (bkf t e x)
theorem bk_first {t : Tbl} {e a : Int} (hG : GTbl t e) (ha : InT t a) : FirstBack t e a (bkf t e a) := bkf_first (hG.bk a ha)
theorem bk_in {t : Tbl} {e a : Int} (hG : GTbl t e) (ha : InT t a) : InT t (bkf t e a) := ⟨(bk_first hG ha).b0, (bk_first hG ha).b1⟩
end TB

/-! TbCls: plain law: classes. -/
namespace TB
open PySem L2
section
variable {t : Tbl} {e : Int}
theorem bk_l (h : GTbl t e) {a : Int} (ha : InT t a) : en t a (bkf t e a) = e := (bk_first h ha).is.1
theorem bk_one (h : GTbl t e) {a b : Int} (ha : InT t a) (hb : InT t b) (q : en t a b = e) : bkf t e a = b := h.canL ha (bk_in h ha) hb ((bk_l h ha).trans q.symm)
end
end TB

/-! TbPart: plain law: parts, least parts, sides, ways out. -/
namespace TB
open PySem L2
/-- a rising part -/
structure PartL (t : Tbl) (e : Int) (P : List Int) : Prop where
  inc : Inc P
  pt : Part t e P
/-- what look_at_part asks -/
structure IsPart (t : Tbl) (P : List Int) : Prop where
  ne : P ≠ []
  inc : Inc P
  inn : ∀ x ∈ P, InT t x
  mul : ∀ x ∈ P, ∀ y ∈ P, en t x y ∈ P
section
variable {t : Tbl} {e : Int}
theorem IsPart.one (h : GTbl t e) {P : List Int} (p : IsPart t P) : e ∈ P := by
  obtain ⟨a, ha⟩ := List.exists_mem_of_ne_nil P p.ne
  have key : ∀ k, 0 < k → pw t e a k ∈ P := fun k => by
    induction k with
    | zero => intro z; omega
    | succ k ih =>
      intro _
      by_cases c : k = 0
      · subst c
        show en t e a ∈ P
        rw [h.u1 (p.inn a ha)]
        exact ha
      · exact p.mul _ (ih (by omega)) _ ha
  have := key t.length h.sz.1
  rw [pw_len h (p.inn a ha)] at this
  exact this
theorem PartL.bk (h : GTbl t e) {P : List Int} (p : PartL t e P) {x : Int} (hx : x ∈ P) : bkf t e x ∈ P := by
  obtain ⟨y, hy, q, _⟩ := p.pt.bk x hx
  rw [bk_one h (p.pt.inn x hx) (p.pt.inn y hy) q]
  exact hy
theorem PartL.len {P : List Int} (p : PartL t e P) : P.length ≤ t.length := by
  have := nodup_le (B := irange t.length) p.pt.nd fun x hx => mem_irange.mpr (p.pt.inn x hx)
  rw [irange_len] at this
  omega
/-! ### least parts -/
/-! ### things told apart by lists -/
def kinN (F : Int → List Int) : Nat → List (List Int)
  | 0 => []
  | i + 1 => if (i : Int) ∈ (kinN F i).flatten then kinN F i else kinN F i ++ [F (i : Int)]
/-! ### sides -/
def sid (t : Tbl) (P : List Int) (x : Int) : List Int := isort (P.map fun h => gt (gt t x) h)
/-! ### ways out -/
end
end TB

/-! TbIn: plain law: a part's own group, the group of a steady part's sides. -/
namespace TB
open PySem L2
/-! ### the image of a group -/
/-! ### a part's own group -/
section
variable {t : Tbl} {e : Int} {P : List Int}
/-! ### sides' numbers -/
abbrev sds (t : Tbl) (P : List Int) : List (List Int) := kinN (sid t P) t.length
def hm (t : Tbl) (P : List Int) (x : Int) : Nat := (sds t P).findIdx fun l => decide (x ∈ l)
/-- a side's least thing -/
abbrev lf (t : Tbl) (P : List Int) (k : Nat) : Int := gt (gt (sds t P) (k : Int)) 0
/-! ### steady parts -/
def St (t : Tbl) (e : Int) (P : List Int) : Prop := ∀ o, InT t o → ∀ x ∈ P, cj t e o x ∈ P
/-! ### the walk along the sides -/
end
end TB

/-! TbDf: defs whose last parameter has a default; more of dicts. -/
namespace TB
open PySem PySem.Spec PyProof.Rows L2
/-- a def as it stands behind the top, whatever its defaults are -/
structure FunX (K : PySem.W.Frag) (x qual : Str) (st : Stmt) (f : Addr) (fd : FuncData) : Prop where
  ex : ∃ (oc : Value) (od : Option Addr) (dV kV doc pm : Value) (an : Option Addr) (cdv ct : Value) (osl : Array (Option Value)),
    fd = PySem.W.fnOf x qual (defArgs st) (defBody st) (defScope st) dV kV doc pm an cdv ct ∧ K.lookup f = some ⟨oc, od, .func fd, osl⟩ ∧ PySem.W.codeIn K cdv qual = true
  kp : PySem.W.keepIn K (.ref f) = true
section
variable {P : Program} {w : World} {K : PySem.W.Frag} {mg : Str → Option Value} {base : Heap} {x qual : Str} {st : Stmt} {f : Addr} {fd : FuncData} {N ps : List Str} {k : Nat} {sp : Sp}
theorem FunX.okX (F : FunX K x qual st f fd) (S : FnScope N ps (defScope st)) (len : ∀ vs H Q E, sp vs H Q E → vs.length = ps.length)
    (hbody : ∀ (cdv : Value) (A : Around) (outer : List Env) (s : Shared) (H : Hp) (vs : List V) (Q : VK) (E : XK), Room k (A.deeper (envOfC qual (defScope st) s.heap.objs.size f cdv)) → sp vs H Q E →
      ∃ t, PSs (cxOf (L2.CX P w) P w K mg base N qual (defScope st) f cdv A outer s H E) (defBody st) t ∧ t { nx := fun _ H' => Q .non H', rt := Q } (L2.start N vs) H) : FnOk P w K mg base (L2.CX P w) (k + 1) f fd ps sp := by
  obtain ⟨oc, od, dV, kV, doc, pm, an, cdv, ct, osl, rfl, lk, hcd⟩ := F.ex
  exact fn_of lk hcd S len fun A outer s H vs Q E hr hsp => hbody cdv A outer s H vs Q E hr hsp
end
section
variable {c : Cn} {Γ : List Sl} {ta tb te tl ty : TE} {tt tc : TT} {t u : TS} {s s' so : Sl} {α β γ : Type} {_ : Rp α} {_ : Rp β} {_ : Rp γ} {P : Po} {d : α}
/-! ### dict(zip(xs, ys)), sorted(d.keys()) -/
end
section
variable {c : Cn} {Γ : List Sl} {ta tb te tl ty : TE} {s : Sl} {α : Type} {_ : Rp α}
end
end TB

/-! TbCm: calls whose arguments are own things, handed over; rows of own tables; values of mixed lists compared. -/
namespace TB
open PySem PySem.Spec PyProof.Rows L2
section
variable {c : Cn} {Γ Γ1 Γ2 : List Sl} {ta tb te tl ty : TE} {tt tc : TT} {t u : TS} {s s1 s2 so : Sl} {α β γ : Type} {_ : Rp α} {_ : Rp β} {_ : Rp γ} {P : Po} {d : α}
/-! ### expressions that leave the heap as it is -/
/-! ### rows of own tables -/
end
/-! ### values of mixed lists -/
/-- an int, or a text that Python can show -/
inductive IX where
  | i (n : Int) | s (x : Str) (h : PyData.strOk x = true)
  deriving DecidableEq
instance : Rp IX := ⟨.i 0, fun _ _ v d => match d with | .i n => v = .int n | .s x _ => v = .str x, fun {Z H H' v d} _ h => by cases d <;> exact h⟩
instance : Flt IX := ⟨fun {Z H H' v d} h => by cases d <;> exact h⟩
instance : Pd IX := { py := fun d => match d with | .i n => .int n | .s x _ => .str x, dep := 0, dp := fun {Z H v d} h => (by
    cases d with
    | i n => cases (show v = .int n from h); exact .int _
    | s x _ => cases (show v = .str x from h); exact .str _), can := fun d => (by
    cases d with
    | i n => simp [PyData.canLay0]
    | s x h => simpa [PyData.canLay0] using h), low := fun d => (by cases d <;> simp [PyData.depth]), eqv := fun a b => (by cases a <;> cases b <;> simp [PyData.eqv]) }
section
variable {c : Cn} {Γ : List Sl} {te : TE} {α : Type} {_ : Rp α}
end
end TB

/-! TbUl: a list unpacked to two names; a pair walked; calls with what is in fresh lists. -/
namespace TB
open PySem PySem.Spec PyProof.Rows L2
section
variable {prog : Program} {w : World} {A : Around} {E : Value → Shared → Prop} {s : Shared}
end
section
variable {c : Cn} {Γ : List Sl} {ta tb te tl ty : TE} {t u : TS} {s so : Sl} {α β : Type} {_ : Rp α} {_ : Rp β} {P : Po} {d : α}
end
end TB
namespace TB
open PySem PySem.Spec PyProof.Rows L2
section
variable {c : Cn} {Γ : List Sl} {te : TE} {α : Type} {_ : Rp α} {P : Po}
end
end TB
namespace TB
open PySem PySem.Spec PyProof.Rows L2
section
variable {X : Cx} {CX : CXT} {k n : Nat} {f : Addr} {fd : FuncData} {ps : List Str} {nm : Str} {sp : Sp} {E : XK} {x : Str} {p pos : Pos} {e : Expr} {es : List Expr} {kws : List Keyword} {t tk : TA} {g : List Value → List Value → List Value} {gV : List V → List V → List V}
end
end TB

/-! TbNr6: rules and bounds for norms. -/
namespace TB
open PySem L2
theorem mov_kept : smlL.all (fun m => decide (((List.range m.toNat).filter fun i => decide (Nat.gcd m.toNat (i + 1) = 1)).map (fun (i : Nat) => 1 + (i : Int)) = movL m)) = true := by decide +kernel
theorem mv_bd {m j : Int} {B : Nat} {x : List Int} (N : NrOk m) (hx : x.length = degF m) (hb : Bd B x) : Bd (B + 132) (mvF m j x) := by
  have := N.le; have := N.h2
  exact (lowF_bd N.h1 N.h2 (putL_bd (k := 6) hb (by omega)) (k := 6) (by rw [putL_len]; omega)).mono (by omega)
theorem tm_bd {m : Int} {A B : Nat} {x y : List Int} (N : NrOk m) (hx : x.length = degF m) (hy : y.length = degF m) (ha : Bd A x) (hb : Bd B y) : Bd (A + B + 134) (tmF m x y) := by
  have := N.le; have := N.h2
  exact (lowF_bd N.h1 N.h2 (prodL_bd ha hb (k := 4) (l := 4) (by omega) (by omega)) (k := 6) (by rw [prodL_len]; omega)).mono (by omega)
theorem nrm_bd {m : Int} {B : Nat} {x : List Int} (N : NrOk m) (hx : x.length = degF m) (hb : Bd B x) : ∀ (js acc : List Int) (A : Nat), acc.length = degF m → Bd A acc → Bd (A + js.length * (B + 266)) (js.foldl (fun a j => tmF m a (mvF m j x)) acc)
  | [], acc, A, _, h => by simpa using h
  | j :: js, acc, A, hl, h => by
    have := nrm_bd N hx hb js (tmF m acc (mvF m j x)) (A + (B + 132) + 134) (lowF_deg N.h1 N.h2 _) (tm_bd N hl (lowF_deg N.h1 N.h2 _) h (mv_bd N hx hb))
    refine this.mono ?_
    rw [List.length_cons, Nat.succ_mul]
    omega
theorem whl_bd {n : Nat} : Bd 1 (whlL n 1) := fun y hy => by
  rcases List.mem_cons.mp hy with q | q
  · rw [q]; decide
  · rw [List.eq_of_mem_replicate q]; decide
theorem nrm_bd0 {m : Int} {B : Nat} {x : List Int} (N : NrOk m) (hx : x.length = degF m) (hb : Bd B x) (hB : B ≤ 700) {c : Int} (hc : nrmF m x (movL m) = whlL (degF m) c) : c.natAbs < 2 ^ 8000 := by
  have h := nrm_bd N hx hb (movL m) (whlL (degF m) 1) 1 (whl_len N.d1) whl_bd
  have hc' : (movL m).foldl (fun a j => tmF m a (mvF m j x)) (whlL (degF m) 1) = whlL (degF m) c := hc
  rw [hc', N.len] at h
  have q := h c (by simp [whlL])
  refine Nat.lt_of_lt_of_le q (Nat.pow_le_pow_right (by decide) ?_)
  have := N.le
  have : degF m * (B + 266) ≤ 8 * (B + 266) := Nat.mul_le_mul_right _ this
  omega
theorem apart_mul {m i j : Int} (h1 : 1 ≤ m) (h2 : m ≤ 60) (hi : apartB m i = true) (hj : apartB m j = true) : apartB m (i * j) = true := by
  rw [apart_gcd h1 h2] at hi hj ⊢
  have hi := of_decide_eq_true hi
  have hj := of_decide_eq_true hj
  refine decide_eq_true ?_
  have e : (i * j % m).toNat = ((i % m).toNat * (j % m).toNat) % m.toNat := by
    have q1 := Int.emod_nonneg i (show m ≠ 0 by omega)
    have q2 := Int.emod_nonneg j (show m ≠ 0 by omega)
    have q3 := Int.emod_nonneg (i * j) (show m ≠ 0 by omega)
    have : ((i * j % m).toNat : Int) = (((i % m).toNat * (j % m).toNat) % m.toNat : Nat) := by
      rw [Int.natCast_emod, Int.natCast_mul, show (((i * j % m).toNat : Nat) : Int) = i * j % m by omega, show (((i % m).toNat : Nat) : Int) = i % m by omega, show (((j % m).toNat : Nat) : Int) = j % m by omega, show ((m.toNat : Nat) : Int) = m by omega, ← Int.mul_emod]
    exact Int.ofNat.inj this
  rw [e, Nat.gcd_comm, ← Nat.gcd_rec]
  exact Nat.Coprime.mul_right hi hj
theorem whole_whl {n : Nat} {c : Int} : wholeF (whlL n c) = some c := by
  unfold wholeF whlL
  rw [if_neg]
  · rfl
  · simp
section
variable {c : Cn} {Γ : List Sl} {ta tb te : TE} {tt : TT} {α β : Type} {_ : Rp α} {_ : Rp β} {P : Po}
theorem ev_filtR2 {lo n : Int} {j : Nat} {vs : List Nat} (p : Nat → Bool) (f : Nat → β) (h1 : Ev c Γ ta (.im lo)) (h : Ev c Γ tb (.im n)) (hm : -1000 < lo ∧ lo < 1000) (hn : n < 1000 ∧ -1000 < n) (hj : j ∈ vs) (hu : UnAt Γ vs) (ht : ∀ i : Nat, lo + i < n → EvT c.no (Γ.set j (.im (lo + (i : Int)))) tt (p i)) (he : ∀ i : Nat, lo + i < n → p i = true → Ev c.no (Γ.set j (.im (lo + (i : Int)))) te (.im (f i))) :
    Ev c Γ (tLc (iRng2 (tCons ta (tCons tb tNil))) (gName j) tt te vs) (.ol (((List.range (n - lo).toNat).filter p).map f)) :=
  ev_lc p f (ei_rng2 h1 h (by omega) (by omega)) (by omega) (fun k hk => by simp at hk; rw [hk]; exact hj) hu (fun i hi => ht i (by omega)) (fun i hi hp => he i (by omega) hp)
/-- a, b = a tuple of two -/
theorem w_asgT2 {i j : Nat} {x : α} {y : β} (h : Ev c Γ te (.im (x, y))) (k : P.nx ((Γ.set i (.im x)).set j (.im y))) : W c Γ (tAsg te (gTup c.Z.K 2 (gCons (gName i) (gCons (gName j) gNil)))) P := fun B R0 R H ρ Δ σ D S n r b kk xk =>
  h B R0 R H ρ Δ σ S _ (fun v R1 H1 S1 => by
    obtain ⟨a, v1, v2, rfl, ha, r1, r2⟩ := sx_top' S1
    have S2 := sx_push (d := x) (sx_push (d := y) (sx_pop S1) r2) r1
    exact ⟨a, _, rfl, SqT.of (sx_same S1 _ _ ha), rfl, _, _, rfl, _, _, rfl, rfl, n R1 H1 _ _ (sx_asg (sx_asg S2 i) j) k⟩) xk
end
end TB

/-! ### l_moves -/
namespace TB
open PySem L2
--use TbNr6
def T_l_moves : Tm := tm1 fun (m : Int) ok _ => m ∈ smlL ∧ ok (.ol (movL m))
def t_l_moves (Z : Zz) (X : WX) : TS :=
  (tRet (tLc (iRng2 (tCons (tC (.int 1)) (tCons (tOp gAdd (tVar 0) (tC (.int 1))) tNil))) (gName 1) (tTest (tOp (gEq Z.K) (tCall (spOf Z T_l_shared) [] E0 (tCons (tVar 0) (tCons (tVar 1) tNil))) (tC (.int 1)))) (tVar 1) [1]))
theorem w_l_moves (Z : Zz) (X : WX) (ss : List Sl) (ok : Sl → Prop) (er : Rf → Prop) (h : T_l_moves ss ok er) : WF Z X er (ss ++ List.replicate (2 - ss.length) .un) (t_l_moves Z X) ok := by
  obtain ⟨m, rfl, hm, k⟩ := h
  show W _ [.im m, .un] _ _
  unfold t_l_moves
  have N := nr_ok hm
  have h1 := N.h1; have h2 := N.h2
  have e := of_decide_eq_true (List.all_eq_true.mp mov_kept m hm)
  rw [← e] at k
  refine w_ret (ev_is (ev_filtR2 (lo := 1) (n := m + 1) (fun i => decide (Nat.gcd m.toNat (i + 1) = 1)) (fun i => 1 + (i : Int)) ev_int (ev_add (ev_var rfl) ev_int) (by omega) (by omega) (by simp) ⟨.inl rfl, trivial⟩ (fun i hi => ?ht) (fun i hi _ => ev_var rfl)) (by rw [show (m + 1 - 1).toNat = m.toNat by omega])) k
  case ht =>
    refine et_to (et_test (ev_eqI (ev_callN0 (s := .im ((Nat.gcd m.toNat (i + 1) : Nat) : Int)) (ea_cons (ev_var rfl) (ea_cons (ev_var rfl) ea_nil)) ⟨_, _, rfl, m.toNat, i + 1, by omega, by omega, rfl⟩) ev_int)) ?_
    exact decide_eq_decide.mpr (by omega)
end TB

/-! ### l_all_moves -/
namespace TB
open PySem L2
--use TbNr6
def T_l_all_moves : Tm := tm2 fun (o : Whl) (x : List Int) ok _ => ∃ (m c d : Int) (B : Nat), m ∈ smlL ∧ o = whl m ∧ x.length = degF m ∧ Bd B x ∧ B ≤ 700 ∧ totF m x (movL m) = whlL (degF m) c ∧ nrmF m x (movL m) = whlL (degF m) d ∧ ok (.im (c, d))
def t_l_all_moves (Z : Zz) (X : WX) : TS :=
  (tSeq (tAsg (tOp gMul (tLst (tCons (tC (.int 0)) tNil)) (tCB (gLen Z.K) (tCons (tVar 1) tNil))) (gName 2))
  (tSeq (tAsg (tOp gAdd (tLst (tCons (tC (.int 1)) tNil)) (tOp gMul (tLst (tCons (tC (.int 0)) tNil)) (tOp gMns (tCB (gLen Z.K) (tCons (tVar 1) tNil)) (tC (.int 1))))) (gName 3))
  (tSeq (tFor (iList Z.K (tCallSD (spOf Z T_l_moves) [] (WE X) (tCons (tFld Z.K (tVar 0) "spokes") tNil))) (gName 4)
  (tSeq (tAsg (tMethSD (Z.cls .Wheel) "moved" (spOf Z T_Wheel_moved) [] (WE X) (tVar 0) (tCons (tVar 1) (tCons (tVar 4) tNil))) (gName 5))
  (tSeq (tAsg (tMethSD (Z.cls .Wheel) "plus" (spOf Z T_Wheel_plus) [] (WE X) (tVar 0) (tCons (tVar 2) (tCons (tVar 5) tNil))) (gName 2))
  (tAsg (tMethSD (Z.cls .Wheel) "times" (spOf Z T_Wheel_times) [] (WE X) (tVar 0) (tCons (tVar 3) (tCons (tVar 5) tNil))) (gName 3)))))
  (tRet (tTup (tCons (tMethSD (Z.cls .Wheel) "whole" (spOf Z T_Wheel_whole) [] (WE X) (tVar 0) (tCons (tVar 2) tNil)) (tCons (tMethSD (Z.cls .Wheel) "whole" (spOf Z T_Wheel_whole) [] (WE X) (tVar 0) (tCons (tVar 3) tNil)) tNil)))))))
theorem w_l_all_moves (Z : Zz) (X : WX) (ss : List Sl) (ok : Sl → Prop) (er : Rf → Prop) (h : T_l_all_moves ss ok er) : WF Z X er (ss ++ List.replicate (6 - ss.length) .un) (t_l_all_moves Z X) ok := by
  obtain ⟨o, x, rfl, m, c, d, B, hm, rfl, hx, hb, hB, hc, hd, k⟩ := h
  show W _ [.im (whl m), .im x, .un, .un, .un, .un] _ _
  unfold t_l_all_moves
  have N := nr_ok hm
  have h1 := N.h1; have h2 := N.h2; have n1 := N.d1; have n8 := N.le; have nl := N.len
  refine w_seq (w_asg (s := .ol (List.replicate (degF m) (0 : Int))) (ev_is (ev_zeros (ev_len (ev_var rfl)) (by omega) (by omega)) (by rw [hx]; simp)) ?_)
  refine w_fr 2 rfl ?_
  walk_at "nz"
  refine w_seq (w_asg (s := .im (whlL (degF m) 1)) (ev_is (ev_frI (ev_cat (ev_frI (ev_lstH (evh_cons ev_int evh_nil) (by decide))) (ev_frI (ev_zeros (ev_sub (ev_len (ev_var rfl)) ev_int) (by omega) (by omega))) (by simp; omega))) (by rw [hx, show ((degF m : Int) - 1).toNat = degF m - 1 by omega]; rfl)) ?_)
  walk_at "nz"
  have hz : ∀ i : Nat, ((movL m).take i).foldl (fun a j => adz a (mvF m j x)) (List.replicate (degF m) 0) = totF m x ((movL m).take i) := fun i => rfl
  refine w_seq (w_forL (xs := movL m) (fun i G => ∃ s4 s5 : Sl, G = [.im (whl m), .im x, .im (totF m x ((movL m).take i)), .im (nrmF m x ((movL m).take i)), s4, s5]) (ev_frI (ev_callN (ea_cons (ev_spokes (g := whl m) (ev_var rfl)) ea_nil) ⟨_, rfl, hm, rfl⟩)) ⟨_, _, rfl⟩ ?_ ?_)
  · rintro i G hi ⟨s4, s5, rfl⟩
    walk_at "nz"
    have hj := (N.mv _ (List.getElem_mem hi)).2.2.1
    have e1 : totF m x ((movL m).take (i + 1)) = adz (totF m x ((movL m).take i)) (mvF m (movL m)[i] x) := by unfold totF; rw [take_snoc hi, List.foldl_append]; rfl
    have e2 : nrmF m x ((movL m).take (i + 1)) = tmF m (nrmF m x ((movL m).take i)) (mvF m (movL m)[i] x) := by unfold nrmF; rw [take_snoc hi, List.foldl_append]; rfl
    rw [e1, e2]
    have lt : (totF m x ((movL m).take i)).length = degF m := (tot_same N _ _ (by simp)).1
    have ln : (nrmF m x ((movL m).take i)).length = degF m := nrm_len N _ _ (whl_len n1)
    have bn : Bd 8000 (nrmF m x ((movL m).take i)) := (nrm_bd N hx hb ((movL m).take i) _ 1 (whl_len n1) whl_bd).mono (by
      rw [List.length_take]
      have : min i (movL m).length * (B + 266) ≤ 8 * (B + 266) := Nat.mul_le_mul_right _ (by omega)
      omega)
    generalize totF m x ((movL m).take i) = A at lt ⊢
    generalize nrmF m x ((movL m).take i) = M at ln bn ⊢
    generalize (movL m)[i] = j at hj ⊢
    have lf : (mvF m j x).length = degF m := lowF_deg h1 h2 _
    have bf := mv_bd (j := j) N hx hb
    refine w_seq (w_asg (s := .ol (mvF m j x)) (ev_methN (ev_var rfl) (whl_m (by decide +kernel)) (ea_cons (ev_var rfl) (ea_cons (ev_var rfl) ea_nil)) ⟨_, _, _, rfl, m, B, h1, h2, rfl, by omega, by omega, hb, fun _ => rfl, fun z => by rw [hj] at z; cases z⟩) ?_)
    refine w_fr 5 rfl ?_
    walk_at "nz"
    refine w_seq (w_asg (s := .ol (adz A (mvF m j x))) (ev_methN (ev_var rfl) (whl_m (by decide +kernel)) (ea_cons (ev_var rfl) (ea_cons (ev_var rfl) ea_nil)) ⟨_, _, _, rfl, by omega, rfl⟩) ?_)
    refine w_fr 2 rfl ?_
    walk_at "nz"
    refine w_asg (s := .im (tmF m M (mvF m j x))) (ev_frI (ev_methN (ev_var rfl) (whl_m (by decide +kernel)) (ea_cons (ev_var rfl) (ea_cons (ev_var rfl) ea_nil)) ⟨_, _, _, rfl, m, 8000, h1, h2, rfl, by omega, by omega, by omega, bn, bf.mono (by omega), rfl⟩)) ⟨_, _, rfl⟩
  · rintro G ⟨s4, s5, rfl⟩
    rw [List.take_length, hc, hd]
    have wl : ∀ c, (whlL (degF m) c).length = degF m := fun c => whl_len n1
    exact w_ret (ev_tup (ev_unopt (ev_methN (s := .im (some c)) (ev_var rfl) (whl_m (by decide +kernel)) (ea_cons (ev_var rfl) ea_nil) ⟨_, _, rfl, by rw [wl]; exact n1, by rw [wl]; omega, by rw [whole_whl]⟩)) (ev_unopt (ev_methN (s := .im (some d)) (ev_var rfl) (whl_m (by decide +kernel)) (ea_cons (ev_var rfl) ea_nil) ⟨_, _, rfl, by rw [wl]; exact n1, by rw [wl]; omega, by rw [whole_whl]⟩))) k
end TB

/-! ### l_kept -/
namespace TB
open PySem L2
--use TbNr6
def T_l_kept : Tm := tm5 fun (o : Whl) (x y : List Int) (i j : Int) ok _ => ∃ (m : Int) (B : Nat), m ∈ smlL ∧ o = whl m ∧ x.length = degF m ∧ y.length = degF m ∧ Bd B x ∧ Bd B y ∧ B ≤ 700 ∧ apartB m i = true ∧ apartB m j = true ∧ i.natAbs < 1000 ∧ j.natAbs < 1000 ∧ ok (.im true)
def t_l_kept (Z : Zz) (X : WX) : TS :=
  (tSeq (tAsg (tMethSD (Z.cls .Wheel) "times" (spOf Z T_Wheel_times) [] (WE X) (tVar 0) (tCons (tVar 1) (tCons (tVar 2) tNil))) (gName 5))
  (tSeq (tIfS (tTest (tOp (gNe Z.K) (tMethSD (Z.cls .Wheel) "moved" (spOf Z T_Wheel_moved) [] (WE X) (tVar 0) (tCons (tVar 5) (tCons (tVar 3) tNil))) (tMethSD (Z.cls .Wheel) "times" (spOf Z T_Wheel_times) [] (WE X) (tVar 0) (tCons (tMethSD (Z.cls .Wheel) "moved" (spOf Z T_Wheel_moved) [] (WE X) (tVar 0) (tCons (tVar 1) (tCons (tVar 3) tNil))) (tCons (tMethSD (Z.cls .Wheel) "moved" (spOf Z T_Wheel_moved) [] (WE X) (tVar 0) (tCons (tVar 2) (tCons (tVar 3) tNil))) tNil)))))
  (tRet (tC (.bl false)))
  tNext)
  (tSeq (tAsg (tMethSD (Z.cls .Wheel) "plus" (spOf Z T_Wheel_plus) [] (WE X) (tVar 0) (tCons (tMethSD (Z.cls .Wheel) "moved" (spOf Z T_Wheel_moved) [] (WE X) (tVar 0) (tCons (tVar 1) (tCons (tVar 3) tNil))) (tCons (tMethSD (Z.cls .Wheel) "moved" (spOf Z T_Wheel_moved) [] (WE X) (tVar 0) (tCons (tVar 2) (tCons (tVar 3) tNil))) tNil))) (gName 6))
  (tSeq (tIfS (tTest (tOp (gNe Z.K) (tMethSD (Z.cls .Wheel) "moved" (spOf Z T_Wheel_moved) [] (WE X) (tVar 0) (tCons (tMethSD (Z.cls .Wheel) "plus" (spOf Z T_Wheel_plus) [] (WE X) (tVar 0) (tCons (tVar 1) (tCons (tVar 2) tNil))) (tCons (tVar 3) tNil))) (tVar 6)))
  (tRet (tC (.bl false)))
  tNext)
  (tSeq (tIfS (tOr (tTest (tOp (gNe Z.K) (tMethSD (Z.cls .Wheel) "moved" (spOf Z T_Wheel_moved) [] (WE X) (tVar 0) (tCons (tVar 1) (tCons (tC (.int 1)) tNil))) (tVar 1))) (tTest (tOp (gNe Z.K) (tMethSD (Z.cls .Wheel) "moved" (spOf Z T_Wheel_moved) [] (WE X) (tVar 0) (tCons (tVar 1) (tCons (tOp gMns (tC (.int 0)) (tC (.int 1))) tNil))) (tMethSD (Z.cls .Wheel) "backed" (spOf Z T_Wheel_backed) [] (WE X) (tVar 0) (tCons (tVar 1) tNil)))))
  (tRet (tC (.bl false)))
  tNext)
  (tRet (tOp (gEq Z.K) (tMethSD (Z.cls .Wheel) "moved" (spOf Z T_Wheel_moved) [] (WE X) (tVar 0) (tCons (tMethSD (Z.cls .Wheel) "moved" (spOf Z T_Wheel_moved) [] (WE X) (tVar 0) (tCons (tVar 1) (tCons (tVar 3) tNil))) (tCons (tVar 4) tNil))) (tMethSD (Z.cls .Wheel) "moved" (spOf Z T_Wheel_moved) [] (WE X) (tVar 0) (tCons (tVar 1) (tCons (tOp gMul (tVar 3) (tVar 4)) tNil))))))))))
theorem w_l_kept (Z : Zz) (X : WX) (ss : List Sl) (ok : Sl → Prop) (er : Rf → Prop) (h : T_l_kept ss ok er) : WF Z X er (ss ++ List.replicate (7 - ss.length) .un) (t_l_kept Z X) ok := by
  obtain ⟨o, x, y, i, j, rfl, m, B, hm, rfl, hx, hy, bx, bY, hB, hi, hj, i1, j1, k⟩ := h
  show W _ [.im (whl m), .im x, .im y, .im i, .im j, .un, .un] _ _
  unfold t_l_kept
  have N := nr_ok hm
  have h1 := N.h1; have h2 := N.h2; have n1 := N.d1; have n8 := N.le
  have lm : ∀ a z, (mvF m a z).length = degF m := fun a z => lowF_deg h1 h2 _
  have lt : ∀ a z, (tmF m a z).length = degF m := fun a z => lowF_deg h1 h2 _
  have mv : ∀ {G : List Sl} {t : TA} {z : List Int} {a : Int} {b : Nat}, G[0]? = some (.im (whl m)) → apartB m a = true → z.length = degF m → Bd b z → b ≤ 9000 → EvA ⟨Z, X, fun r _ => er r⟩ G t [.im z, .im a] → Ev ⟨Z, X, fun r _ => er r⟩ G (tMethSD (Z.cls .Wheel) "moved" (spOf Z T_Wheel_moved) [] (WE X) (tVar 0) t) (.im (mvF m a z)) := fun {G t z a b} g ha hl hb hb2 hA =>
    ev_frI (ev_methN (c := ⟨Z, X, fun r _ => er r⟩) (s := .ol (mvF m a z)) (ev_var g) (whl_m (by decide +kernel)) hA ⟨_, _, _, rfl, m, b, h1, h2, rfl, by omega, by omega, hb, fun _ => rfl, fun q => by rw [ha] at q; cases q⟩)
  have tm : ∀ {G : List Sl} {t : TA} {z w : List Int} {b : Nat}, G[0]? = some (.im (whl m)) → z.length = degF m → w.length = degF m → Bd b z → Bd b w → b ≤ 9000 → EvA ⟨Z, X, fun r _ => er r⟩ G t [.im z, .im w] → Ev ⟨Z, X, fun r _ => er r⟩ G (tMethSD (Z.cls .Wheel) "times" (spOf Z T_Wheel_times) [] (WE X) (tVar 0) t) (.im (tmF m z w)) := fun {G t z w b} g hl hl2 hb hb3 hb2 hA =>
    ev_frI (ev_methN (c := ⟨Z, X, fun r _ => er r⟩) (s := .ol (tmF m z w)) (ev_var g) (whl_m (by decide +kernel)) hA ⟨_, _, _, rfl, m, b, h1, h2, rfl, by omega, by omega, by omega, hb, hb3, rfl⟩)
  have pl : ∀ {G : List Sl} {t : TA} {z w : List Int}, G[0]? = some (.im (whl m)) → z.length = degF m → EvA ⟨Z, X, fun r _ => er r⟩ G t [.im z, .im w] → Ev ⟨Z, X, fun r _ => er r⟩ G (tMethSD (Z.cls .Wheel) "plus" (spOf Z T_Wheel_plus) [] (WE X) (tVar 0) t) (.im (adz z w)) := fun {G t z w} g hl hA =>
    ev_frI (ev_methN (c := ⟨Z, X, fun r _ => er r⟩) (s := .ol (adz z w)) (ev_var g) (whl_m (by decide +kernel)) hA ⟨_, _, _, rfl, by omega, rfl⟩)
  have b1 := tm_bd N hx hy bx bY
  have b2 := fun a => mv_bd (j := a) N hx bx
  have b3 := fun a => mv_bd (j := a) N hy bY
  have ba : Bd (B + 1) (adz x y) := fun z hz => by
    obtain ⟨q, hq, rfl⟩ := List.getElem_of_mem hz
    rw [List.getElem_zipWith]
    have e1 := bx _ (List.getElem_mem (show q < x.length by rw [List.length_zipWith] at hq; omega))
    have e2 := bY _ (List.getElem_mem (show q < y.length by rw [List.length_zipWith] at hq; omega))
    rw [Nat.pow_succ]
    omega
  have la : (adz x y).length = degF m := adz_len hx hy
  have f1 := mv_tm h1 h2 hi x y
  have f2 := mv_add h1 h2 i (show x.length = y.length by omega)
  have f3 := mv_1 h1 h2 hx
  have f4 : mvF m j (mvF m i x) = mvF m (i * j) x := by rw [mv_mv h1 h2 hj, Int.mul_comm]
  have a1 : apartB m 1 = true := by
    unfold apartB
    rw [List.all_eq_true]
    intro p hp
    have := (pr_dvd h1 h2 hp).1
    rw [Int.emod_eq_of_lt (by omega) (by omega)]
    decide
  have aij := apart_mul h1 h2 hi hj
  refine w_seq (w_asg (s := .im (tmF m x y)) (tm rfl hx hy bx bY (by omega) (ea_cons (ev_var rfl) (ea_cons (ev_var rfl) ea_nil))) ?_)
  walk_at "nz"
  refine w_seq (w_if (b := false) (et_to (et_test (ev_neL (mv rfl hi (lt _ _) b1 (by omega) (ea_cons (ev_var rfl) (ea_cons (ev_var rfl) ea_nil))) (tm rfl (lm _ _) (lm _ _) (b2 i) (b3 i) (by omega) (ea_cons (mv rfl hi hx bx (by omega) (ea_cons (ev_var rfl) (ea_cons (ev_var rfl) ea_nil))) (ea_cons (mv rfl hi hy bY (by omega) (ea_cons (ev_var rfl) (ea_cons (ev_var rfl) ea_nil))) ea_nil))))) (by rw [f1]; simp)) (fun z => nomatch z) (fun _ => w_next ?_))
  refine w_seq (w_asg (s := .im (adz (mvF m i x) (mvF m i y))) (pl rfl (lm _ _) (ea_cons (mv rfl hi hx bx (by omega) (ea_cons (ev_var rfl) (ea_cons (ev_var rfl) ea_nil))) (ea_cons (mv rfl hi hy bY (by omega) (ea_cons (ev_var rfl) (ea_cons (ev_var rfl) ea_nil))) ea_nil))) ?_)
  walk_at "nz"
  refine w_seq (w_if (b := false) (et_to (et_test (ev_neL (mv rfl hi la ba (by omega) (ea_cons (pl rfl hx (ea_cons (ev_var rfl) (ea_cons (ev_var rfl) ea_nil))) (ea_cons (ev_var rfl) ea_nil))) (ev_var rfl))) (by rw [f2]; simp)) (fun z => nomatch z) (fun _ => w_next ?_))
  refine w_seq (w_if (b := false) (et_to (et_or (et_test (ev_neL (mv rfl a1 hx bx (by omega) (ea_cons (ev_var rfl) (ea_cons ev_int ea_nil))) (ev_var rfl))) fun _ => et_test (ev_neL (mv (a := -1) rfl (apart_back h1 h2) hx bx (by omega) (ea_cons (ev_var rfl) (ea_cons (ev_to (ev_sub ev_int ev_int) rfl) ea_nil))) (ev_frI (ev_methN (s := .ol (mvF m (-1) x)) (ev_var rfl) (whl_m (by decide +kernel)) (ea_cons (ev_var rfl) ea_nil) ⟨_, _, rfl, m, B, h1, h2, rfl, by omega, by omega, bx, rfl⟩)))) (by rw [f3]; simp)) (fun z => nomatch z) (fun _ => w_next ?_))
  exact w_ret (ev_to (ev_eqL (mv rfl hj (lm _ _) (b2 i) (by omega) (ea_cons (mv rfl hi hx bx (by omega) (ea_cons (ev_var rfl) (ea_cons (ev_var rfl) ea_nil))) (ea_cons (ev_var rfl) ea_nil))) (mv rfl aij hx bx (by omega) (ea_cons (ev_var rfl) (ea_cons (ev_mul (ev_var rfl) (ev_var rfl) (cmulS (by omega) (by omega) (by omega) (by omega))) ea_nil)))) (by rw [f4]; simp)) k
end TB

/-! ### l_widened -/
namespace TB
open PySem L2
--use TbNr6
--extra T.whlC
def T_l_widened : Tm := tm4 fun (o : Whl) (x y : List Int) (w : Int) ok _ => ∃ (m : Int) (B : Nat), m ∈ smlL ∧ o = whl m ∧ x.length = degF m ∧ y.length = degF m ∧ Bd B x ∧ Bd B y ∧ B ≤ 700 ∧ 1 ≤ w ∧ m * w ≤ 60 ∧ ok (.im true)
def t_l_widened (Z : Zz) (X : WX) : TS :=
  (tSeq (tAsg (tMakeSD (Z.cls .Wheel) (spI_Wheel Z) [] (WE X) (tCons (tOp gMul (tFld Z.K (tVar 0) "spokes") (tVar 3)) tNil)) (gName 4))
  (tSeq (tAsg (tMethSD (Z.cls .Wheel) "wider" (spOf Z T_Wheel_wider) [] (WE X) (tVar 0) (tCons (tVar 1) (tCons (tVar 3) tNil))) (gName 5))
  (tSeq (tAsg (tMethSD (Z.cls .Wheel) "wider" (spOf Z T_Wheel_wider) [] (WE X) (tVar 0) (tCons (tVar 2) (tCons (tVar 3) tNil))) (gName 6))
  (tSeq (tIfS (tTest (tOp (gNe Z.K) (tMethSD (Z.cls .Wheel) "wider" (spOf Z T_Wheel_wider) [] (WE X) (tVar 0) (tCons (tMethSD (Z.cls .Wheel) "times" (spOf Z T_Wheel_times) [] (WE X) (tVar 0) (tCons (tVar 1) (tCons (tVar 2) tNil))) (tCons (tVar 3) tNil))) (tMethSD (Z.cls .Wheel) "times" (spOf Z T_Wheel_times) [] (WE X) (tVar 4) (tCons (tVar 5) (tCons (tVar 6) tNil)))))
  (tRet (tC (.bl false)))
  tNext)
  (tRet (tOp (gEq Z.K) (tMethSD (Z.cls .Wheel) "wider" (spOf Z T_Wheel_wider) [] (WE X) (tVar 0) (tCons (tMethSD (Z.cls .Wheel) "plus" (spOf Z T_Wheel_plus) [] (WE X) (tVar 0) (tCons (tVar 1) (tCons (tVar 2) tNil))) (tCons (tVar 3) tNil))) (tMethSD (Z.cls .Wheel) "plus" (spOf Z T_Wheel_plus) [] (WE X) (tVar 4) (tCons (tVar 5) (tCons (tVar 6) tNil)))))))))
theorem w_l_widened {Z : Zz} (hZ : WhlC Z) (X : WX) (ss : List Sl) (ok : Sl → Prop) (er : Rf → Prop) (h : T_l_widened ss ok er) : WF Z X er (ss ++ List.replicate (7 - ss.length) .un) (t_l_widened Z X) ok := by
  obtain ⟨o, x, y, w, rfl, m, B, hm, rfl, hx, hy, bx, bY, hB, hw, hmw, k⟩ := h
  show W _ [.im (whl m), .im x, .im y, .im w, .un, .un, .un] _ _
  unfold t_l_widened
  have N := nr_ok hm
  have h1 := N.h1; have h2 := N.h2; have n1 := N.d1; have n8 := N.le
  have q1 : 1 ≤ m * w := Int.le_trans h1 (by have := Int.mul_le_mul_of_nonneg_left hw (show 0 ≤ m by omega); omega)
  have w60 : w ≤ 60 := Int.le_trans (by have := Int.mul_le_mul_of_nonneg_right h1 (show 0 ≤ w by omega); omega) hmw
  have lW : ∀ z, (lowF (m * w) z).length = degF (m * w) := fun z => lowF_deg q1 hmw z
  have dW := (deg_le q1 hmw).2.2
  have b1 := tm_bd N hx hy bx bY
  have la : (adz x y).length = degF m := adz_len hx hy
  have ba : Bd (B + 1) (adz x y) := fun z hz => by
    obtain ⟨q, hq, rfl⟩ := List.getElem_of_mem hz
    rw [List.getElem_zipWith]
    have e1 := bx _ (List.getElem_mem (show q < x.length by rw [List.length_zipWith] at hq; omega))
    have e2 := bY _ (List.getElem_mem (show q < y.length by rw [List.length_zipWith] at hq; omega))
    rw [Nat.pow_succ]
    omega
  have bs : ∀ {z : List Int}, z.length = degF m → Bd B z → Bd (B + 200) (lowF (m * w) (stretchF z w)) := fun {z} hl hb => by
    refine (lowF_bd q1 hmw (strF_bd hb) (k := 10) ?_).mono (by omega)
    rw [stretch_len, hl]
    have : w.toNat * (degF m - 1) ≤ 60 * 7 := Nat.mul_le_mul (by omega) (by omega)
    omega
  have wd : ∀ {G : List Sl} {t : TA} {z : List Int} {b : Nat}, G[0]? = some (.im (whl m)) → z.length = degF m → Bd b z → b ≤ 9000 → EvA ⟨Z, X, fun r _ => er r⟩ G t [.im z, .im w] → Ev ⟨Z, X, fun r _ => er r⟩ G (tMethSD (Z.cls .Wheel) "wider" (spOf Z T_Wheel_wider) [] (WE X) (tVar 0) t) (.im (lowF (m * w) (stretchF z w))) := fun {G t z b} g hl hb hb2 hA =>
    ev_frI (ev_methN (c := ⟨Z, X, fun r _ => er r⟩) (s := .ol (lowF (m * w) (stretchF z w))) (ev_var g) (whl_m (by decide +kernel)) hA ⟨_, _, _, rfl, m, b, h1, h2, rfl, by omega, by omega, by omega, hb, fun _ => rfl, fun q => absurd ⟨hw, hmw⟩ q⟩)
  refine w_seq (w_asg (s := .im (whl (m * w))) (ev_mkWheel (c := ⟨Z, X, fun r _ => er r⟩) hZ q1 hmw (ea_cons (ev_mul (ev_spokes (g := whl m) (ev_var rfl)) (ev_var rfl) (cmulS (by show _ ≤ m; omega) (by show m ≤ _; omega) (by omega) (by omega))) ea_nil)) ?_)
  walk_at "nz"
  refine w_seq (w_asg (wd rfl hx bx (by omega) (ea_cons (ev_var rfl) (ea_cons (ev_var rfl) ea_nil))) ?_)
  walk_at "nz"
  refine w_seq (w_asg (wd rfl hy bY (by omega) (ea_cons (ev_var rfl) (ea_cons (ev_var rfl) ea_nil))) ?_)
  walk_at "nz"
  refine w_seq (w_if (b := false) (et_to (et_test (ev_neL (wd rfl (lowF_deg h1 h2 _) b1 (by omega) (ea_cons (ev_frI (ev_methN (c := ⟨Z, X, fun r _ => er r⟩) (s := .ol (tmF m x y)) (ev_var rfl) (whl_m (by decide +kernel)) (ea_cons (ev_var rfl) (ea_cons (ev_var rfl) ea_nil)) ⟨_, _, _, rfl, m, B, h1, h2, rfl, by omega, by omega, by omega, bx, bY, rfl⟩)) (ea_cons (ev_var rfl) ea_nil))) (ev_frI (ev_methN (c := ⟨Z, X, fun r _ => er r⟩) (s := .ol (tmF (m * w) (lowF (m * w) (stretchF x w)) (lowF (m * w) (stretchF y w)))) (ev_var rfl) (whl_m (by decide +kernel)) (ea_cons (ev_var rfl) (ea_cons (ev_var rfl) ea_nil)) ⟨_, _, _, rfl, m * w, B + 200, q1, hmw, rfl, by rw [lW]; omega, by rw [lW]; omega, by omega, bs hx bx, bs hy bY, rfl⟩)))) (by rw [wd_tm h1 h2 hw hmw]; simp)) (fun z => nomatch z) (fun _ => w_next ?_))
  exact w_ret (ev_to (ev_eqL (wd rfl la ba (by omega) (ea_cons (ev_frI (ev_methN (c := ⟨Z, X, fun r _ => er r⟩) (s := .ol (adz x y)) (ev_var rfl) (whl_m (by decide +kernel)) (ea_cons (ev_var rfl) (ea_cons (ev_var rfl) ea_nil)) ⟨_, _, _, rfl, by omega, rfl⟩)) (ea_cons (ev_var rfl) ea_nil))) (ev_frI (ev_methN (c := ⟨Z, X, fun r _ => er r⟩) (s := .ol (adz (lowF (m * w) (stretchF x w)) (lowF (m * w) (stretchF y w)))) (ev_var rfl) (whl_m (by decide +kernel)) (ea_cons (ev_var rfl) (ea_cons (ev_var rfl) ea_nil)) ⟨_, _, _, rfl, by rw [lW]; omega, rfl⟩))) (by rw [wd_add h1 h2 hw hmw (by omega)]; simp)) k
end TB

/-! ### law -/
namespace TB
open PySem L2
--use TbNr6
--extra T.whlC
def t_law (Z : Zz) (X : WX) : TS :=
  (tSeq (tAsg (tCallSD (spOf Z T_l_at) [] (WE X) (tCons (tVar 0) (tCons (tC (.int 0)) tNil))) (gName 1))
  (tSeq (tAsg (tLst (tCons (tC (.int 1)) (tCons (tC (.int 2)) (tCons (tC (.int 3)) (tCons (tC (.int 4)) (tCons (tC (.int 5)) (tCons (tC (.int 6)) (tCons (tC (.int 7)) (tCons (tC (.int 8)) (tCons (tC (.int 9)) (tCons (tC (.int 10)) (tCons (tC (.int 12)) (tCons (tC (.int 14)) (tCons (tC (.int 15)) (tCons (tC (.int 16)) (tCons (tC (.int 18)) (tCons (tC (.int 20)) (tCons (tC (.int 24)) (tCons (tC (.int 30)) tNil))))))))))))))))))) (gName 2))
  (tSeq (tAsg (tOp (gIx Z.K) (tVar 2) (tOp gMod (tVar 1) (tC (.int 18)))) (gName 3))
  (tSeq (tAsg (tMakeSD (Z.cls .Wheel) (spI_Wheel Z) [] (WE X) (tCons (tVar 3) tNil)) (gName 4))
  (tSeq (tAsg (tFld Z.K (tVar 4) "size") (gName 5))
  (tSeq (tIfS (tTest (tOp (gNe Z.K) (tVar 5) (tCB (gLen Z.K) (tCons (tCallSD (spOf Z T_l_moves) [] (WE X) (tCons (tVar 3) tNil)) tNil))))
  (tRet (tC (.bl false)))
  tNext)
  (tSeq (tAsg (tLc (iRng1 (tCons (tVar 5) tNil)) (gName 13) tYes (tCall (spOf Z T_l_number) [] E0 (tCons (tSl (rSlL Z.K) (tVar 0) (tPart (tC (.int 1))) (tPart (tC (.int 63)))) (tCons (tVar 13) tNil))) [13]) (gName 6))
  (tSeq (tAsg (tLc (iRng1 (tCons (tVar 5) tNil)) (gName 13) tYes (tCall (spOf Z T_l_number) [] E0 (tCons (tSl (rSlL Z.K) (tVar 0) (tPart (tC (.int 1))) (tPart (tC (.int 63)))) (tCons (tOp gAdd (tVar 5) (tOp gMul (tC (.int 3)) (tVar 13))) tNil))) [13]) (gName 7))
  (tSeq (tAsg (tOp (gIx Z.K) (tCallSD (spOf Z T_l_moves) [] (WE X) (tCons (tVar 3) tNil)) (tOp gMod (tOp gDiv (tVar 1) (tC (.int 18))) (tVar 5))) (gName 8))
  (tSeq (tAsg (tOp gMns (tC (.int 0)) (tOp (gIx Z.K) (tCallSD (spOf Z T_l_moves) [] (WE X) (tCons (tVar 3) tNil)) (tOp gMod (tOp gDiv (tVar 1) (tC (.int 144))) (tVar 5)))) (gName 9))
  (tSeq (tIfS (tNot (tB (tCallSD (spOf Z T_l_kept) [] (WE X) (tCons (tVar 4) (tCons (tVar 6) (tCons (tVar 7) (tCons (tVar 8) (tCons (tVar 9) tNil))))))))
  (tRet (tC (.bl false)))
  tNext)
  (tSeq (tIfS (tNot (tB (tCallSD (spOf Z T_l_widened) [] (WE X) (tCons (tVar 4) (tCons (tVar 6) (tCons (tVar 7) (tCons (tOp gAdd (tC (.int 1)) (tOp gMod (tOp gDiv (tVar 1) (tC (.int 1152))) (tOp gDiv (tC (.int 60)) (tVar 3)))) tNil)))))))
  (tRet (tC (.bl false)))
  tNext)
  (tSeq (tAsg (tCallSD (spOf Z T_l_all_moves) [] (WE X) (tCons (tVar 4) (tCons (tVar 6) tNil))) (gTup Z.K 2 (gCons (gName 10) (gCons (gName 11) gNil))))
  (tSeq (tIfS (tOr (tNot (tB (tCallSD (spOf Z T_l_whole) [] (WE X) (tCons (tVar 10) tNil)))) (tOr (tNot (tB (tCallSD (spOf Z T_l_whole) [] (WE X) (tCons (tVar 11) tNil)))) (tTest (tOp (gNe Z.K) (tOp (gEq Z.K) (tVar 11) (tC (.int 0))) (tOp (gEq Z.K) (tVar 6) (tOp gMul (tLst (tCons (tC (.int 0)) tNil)) (tVar 5)))))))
  (tRet (tC (.bl false)))
  tNext)
  (tSeq (tAsg (tOp (gIx Z.K) (tCallSD (spOf Z T_l_all_moves) [] (WE X) (tCons (tVar 4) (tCons (tVar 7) tNil))) (tC (.int 1))) (gName 12))
  (tRet (tAndV (tCallSD (spOf Z T_l_whole) [] (WE X) (tCons (tVar 12) tNil)) (tOp (gEq Z.K) (tOp (gIx Z.K) (tCallSD (spOf Z T_l_all_moves) [] (WE X) (tCons (tVar 4) (tCons (tMethSD (Z.cls .Wheel) "times" (spOf Z T_Wheel_times) [] (WE X) (tVar 4) (tCons (tVar 6) (tCons (tVar 7) tNil))) tNil))) (tC (.int 1))) (tOp gMul (tVar 11) (tVar 12))))))))))))))))))))
theorem w_law {Z : Zz} (hZ : WhlC Z) (X : WX) (ss : List Sl) (ok : Sl → Prop) (er : Rf → Prop) (hh : T_law ss ok er) : WF Z X er (ss ++ List.replicate (14 - ss.length) .un) (t_law Z X) ok := by
  obtain ⟨l, rfl, hl, k⟩ := hh
  show W _ [.im l, .un, .un, .un, .un, .un, .un, .un, .un, .un, .un, .un, .un, .un] _ _
  unfold t_law
  refine w_seq (w_asg (s := .im (atF l.l 0)) (ev_callN (ea_cons (ev_var rfl) (ea_cons ev_int ea_nil)) ⟨_, _, rfl, by decide, rfl⟩) ?_)
  walk_at "nz"
  generalize atF l.l 0 = x0
  refine w_seq (w_asg (s := .im smlL) (ev_frI (ev_lstH (evh_cons ev_int (evh_cons ev_int (evh_cons ev_int (evh_cons ev_int (evh_cons ev_int (evh_cons ev_int (evh_cons ev_int (evh_cons ev_int (evh_cons ev_int (evh_cons ev_int (evh_cons ev_int (evh_cons ev_int (evh_cons ev_int (evh_cons ev_int (evh_cons ev_int (evh_cons ev_int (evh_cons ev_int (evh_cons ev_int evh_nil)))))))))))))))))) (by decide))) ?_)
  walk_at "nz"
  have e0 := Int.emod_nonneg x0 (show (18 : Int) ≠ 0 by decide)
  have e1 := Int.emod_lt_of_pos x0 (show (0 : Int) < 18 by decide)
  have sl : (smlL.length : Int) = 18 := rfl
  refine w_seq (w_asg (ev_ix (xs := smlL) (ev_var rfl) (ev_mod (ev_var rfl) ev_int (by decide)) e0 (by rw [sl]; exact e1)) ?_)
  have hm : gt smlL (x0 % 18) ∈ smlL := gt_mem e0 (by rw [sl]; exact e1)
  generalize gt smlL (x0 % 18) = m at hm ⊢
  have m30 : m ≤ 30 := by
    have : ∀ y ∈ smlL, y ≤ 30 := by decide
    exact this m hm
  walk_at "nz"
  have N := nr_ok hm
  have h1 := N.h1; have h2 := N.h2; have n1 := N.d1; have n8 := N.le; have nl := N.len
  have rf := ringF h1 h2
  have hdg := rf.deg
  refine w_seq (w_asg (ev_mkWheel (c := ⟨Z, X, fun r _ => er r⟩) hZ h1 h2 (ea_cons (ev_var rfl) ea_nil)) ?_)
  walk_at "nz"
  refine w_seq (w_asg (s := .im (degF m : Int)) (ev_to (ev_sizeW (g := whl m) (ev_var rfl)) (by show ((circ m).length : Int) - 1 = _; omega)) ?_)
  walk_at "nz"
  have mvs : ∀ {c : Cn} {G : List Sl}, G[3]? = some (.im m) → Ev c G (tCallSD (spOf c.Z T_l_moves) [] (WE c.X) (tCons (tVar 3) tNil)) (.im (movL m)) := fun g => ev_frI (ev_callN (ea_cons (ev_var g) ea_nil) ⟨_, rfl, hm, rfl⟩)
  refine w_seq (w_if (b := false) (et_to (et_test (ev_neI (ev_var rfl) (ev_len (mvs rfl)))) (by simp [nl])) (fun z => nomatch z) (fun _ => w_next ?_))
  have cutE : ∀ {Γ : List Sl}, Γ[0]? = some (.im l) → Ev (Cn.no ⟨Z, X, fun r _ => er r⟩) Γ (tSl (rSlL Z.K) (tVar 0) (tPart (tC (.int 1))) (tPart (tC (.int 63)))) (.im ((l.l.take 63).drop 1)) := fun e => ev_frI (ev_cutS (c := Cn.no ⟨Z, X, fun r _ => er r⟩) (l := l) (ev_var e) ev_int ev_int (by decide) (by decide))
  refine w_seq (w_asg (s := .im ((irange (degF m : Int)).map (numF ((l.l.take 63).drop 1)))) (ev_frI ?h1) ?_)
  case h1 =>
    refine ev_mapR (n := (degF m : Int)) (numF ((l.l.take 63).drop 1)) (ev_var rfl) (by omega) (by omega) (by simp) ⟨.inl rfl, trivial⟩ ?_
    intro i i0 i1
    exact ev_callN0 (ea_cons (cutE rfl) (ea_cons (ev_var rfl) ea_nil)) ⟨_, _, rfl, i0, by omega, rfl⟩
  have la : ((irange (degF m : Int)).map (numF ((l.l.take 63).drop 1))).length = degF m := by rw [List.length_map, irange_len]; omega
  have ba : Bd 200 ((irange (degF m : Int)).map (numF ((l.l.take 63).drop 1))) := fun x hx => by
    obtain ⟨j, _, rfl⟩ := List.mem_map.mp hx
    exact numF_bd _ _
  generalize (irange (degF m : Int)).map (numF ((l.l.take 63).drop 1)) = A at la ba ⊢
  walk_at "nz"
  refine w_seq (w_asg (s := .im ((irange (degF m : Int)).map fun i => numF ((l.l.take 63).drop 1) ((degF m : Int) + 3 * i))) (ev_frI ?h2) ?_)
  case h2 =>
    refine ev_mapR (n := (degF m : Int)) (fun i => numF ((l.l.take 63).drop 1) ((degF m : Int) + 3 * i)) (ev_var rfl) (by omega) (by omega) (by simp) ⟨.inl rfl, trivial⟩ ?_
    intro i i0 i1
    exact ev_callN0 (ea_cons (cutE rfl) (ea_cons (ev_add (ev_var rfl) (ev_mul ev_int (ev_var rfl) (cmulS (by omega) (by omega) (by omega) (by omega)))) ea_nil)) ⟨_, _, rfl, by omega, by omega, rfl⟩
  have lb : ((irange (degF m : Int)).map fun i => numF ((l.l.take 63).drop 1) ((degF m : Int) + 3 * i)).length = degF m := by rw [List.length_map, irange_len]; omega
  have bb : Bd 200 ((irange (degF m : Int)).map fun i => numF ((l.l.take 63).drop 1) ((degF m : Int) + 3 * i)) := fun x hx => by
    obtain ⟨j, _, rfl⟩ := List.mem_map.mp hx
    exact numF_bd _ _
  generalize ((irange (degF m : Int)).map fun i => numF ((l.l.take 63).drop 1) ((degF m : Int) + 3 * i)) = B at lb bb ⊢
  walk_at "nz"
  have r0 : ∀ y : Int, 0 ≤ y % (degF m : Int) := fun y => Int.emod_nonneg _ (by omega)
  have r1 : ∀ y : Int, y % (degF m : Int) < (movL m).length := fun y => by rw [nl]; exact Int.emod_lt_of_pos _ (by omega)
  refine w_seq (w_asg (ev_ix (mvs rfl) (ev_mod (ev_div (ev_var rfl) ev_int (by decide) (by decide)) (ev_var rfl) (by omega)) (r0 _) (r1 _)) ?_)
  have hi := N.mv _ (gt_mem (xs := movL m) (r0 (x0 / 18)) (r1 _))
  generalize gt (movL m) (x0 / 18 % (degF m : Int)) = i at hi ⊢
  walk_at "nz"
  refine w_seq (w_asg (ev_sub ev_int (ev_ix (mvs rfl) (ev_mod (ev_div (ev_var rfl) ev_int (by decide) (by decide)) (ev_var rfl) (by omega)) (r0 _) (r1 _))) ?_)
  have hj := N.mv _ (gt_mem (xs := movL m) (r0 (x0 / 144)) (r1 _))
  generalize gt (movL m) (x0 / 144 % (degF m : Int)) = j at hj ⊢
  walk_at "nz"
  have aj : apartB m (0 - j) = true := by
    have := apart_mul h1 h2 (apart_back h1 h2) hj.2.2.1
    rwa [show (-1 : Int) * j = 0 - j by omega] at this
  refine w_seq (w_if (b := false) (et_to (et_not (et_B (ev_callN (s := .im true) (ea_cons (ev_var rfl) (ea_cons (ev_var rfl) (ea_cons (ev_var rfl) (ea_cons (ev_var rfl) (ea_cons (ev_var rfl) ea_nil))))) ⟨_, _, _, _, _, rfl, m, 200, hm, rfl, la, lb, ba, bb, by decide, hi.2.2.1, aj, by omega, by omega, rfl⟩))) rfl) (fun z => nomatch z) (fun _ => w_next ?_))
  have d1 : 1 ≤ 60 / m := Int.le_ediv_of_mul_le (by omega) (by omega)
  have w0 := Int.emod_nonneg (x0 / 1152) (show 60 / m ≠ 0 by omega)
  have w1 := Int.emod_lt_of_pos (x0 / 1152) (show 0 < 60 / m by omega)
  have wm : m * (1 + x0 / 1152 % (60 / m)) ≤ 60 := by
    have := Int.mul_ediv_self_le (x := 60) (k := m) (by omega)
    have q : m * (1 + x0 / 1152 % (60 / m)) ≤ m * (60 / m) := Int.mul_le_mul_of_nonneg_left (by omega) (by omega)
    omega
  refine w_seq (w_if (b := false) (et_to (et_not (et_B (ev_callN (s := .im true) (ea_cons (ev_var rfl) (ea_cons (ev_var rfl) (ea_cons (ev_var rfl) (ea_cons (ev_add ev_int (ev_mod (ev_div (ev_var rfl) ev_int (by decide) (by decide)) (ev_div ev_int (ev_var rfl) (by omega) (by omega)) (by omega))) ea_nil)))) ⟨_, _, _, _, rfl, m, 200, hm, rfl, la, lb, ba, bb, by decide, by omega, wm, rfl⟩))) rfl) (fun z => nomatch z) (fun _ => w_next ?_))
  obtain ⟨c, hc⟩ := tot_whole N la
  obtain ⟨d, hd⟩ := nrm_whole N (x := A)
  obtain ⟨c2, hc2⟩ := tot_whole N lb
  obtain ⟨d2, hd2⟩ := nrm_whole N (x := B)
  have lp : (tmF m A B).length = degF m := lowF_deg h1 h2 _
  have bp : Bd 540 (tmF m A B) := (tm_bd N la lb ba bb).mono (by omega)
  obtain ⟨c3, hc3⟩ := tot_whole N lp
  have hd3 := nrm_prod N hd hd2
  have z1 := nrm_zero hm la hd
  have q1 := nrm_bd0 N la ba (by decide) hd
  have q2 := nrm_bd0 N lb bb (by decide) hd2
  refine w_seq (w_asgT2 (x := c) (y := d) (ev_callN (ea_cons (ev_var rfl) (ea_cons (ev_var rfl) ea_nil)) ⟨_, _, rfl, m, c, d, 200, hm, rfl, la, ba, by decide, hc, hd, rfl⟩) ?_)
  walk_at "nz"
  have whole : ∀ {c : Cn} {G : List Sl} {te : TE} {x : Int}, Ev c G te (.im x) → Ev c G (tCallSD (spOf c.Z T_l_whole) [] (WE c.X) (tCons te tNil)) (.im true) := fun h => ev_callN (ea_cons h ea_nil) ⟨_, rfl, rfl⟩
  refine w_seq (w_if (b := false) (et_to (et_or (et_not (et_B (whole (ev_var rfl)))) fun _ => et_or (et_not (et_B (whole (ev_var rfl)))) fun _ => et_test (ev_neD (x := decide (d = 0)) (y := decide (A = zrL (degF m))) (ev_eqI (ev_var rfl) ev_int) (ev_eqL (ev_var rfl) (ev_frI (ev_is (ev_zeros (ev_var rfl) (by omega) (by omega)) (by simp)))) (by decide))) (by simp [z1])) (fun z => nomatch z) (fun _ => w_next ?_))
  refine w_seq (w_asg (ev_ix2 (p := (c2, d2)) (ev_callN (ea_cons (ev_var rfl) (ea_cons (ev_var rfl) ea_nil)) ⟨_, _, rfl, m, c2, d2, 200, hm, rfl, lb, bb, by decide, hc2, hd2, rfl⟩) ev_int) ?_)
  walk_at "nz"
  exact w_ret (ev_to (ev_andV (whole (ev_var rfl)) fun _ => ev_eqI (ev_ix2 (p := (c3, d * d2)) (ev_callN (ea_cons (ev_var rfl) (ea_cons (ev_frI (ev_methN (c := ⟨Z, X, fun r _ => er r⟩) (s := .ol (tmF m A B)) (ev_var rfl) (whl_m (by decide +kernel)) (ea_cons (ev_var rfl) (ea_cons (ev_var rfl) ea_nil)) ⟨_, _, _, rfl, m, 200, h1, h2, rfl, by omega, by omega, by decide, ba, bb, rfl⟩)) ea_nil)) ⟨_, _, rfl, m, c3, d * d2, 540, hm, rfl, lp, bp, by decide, hc3, hd3, rfl⟩) ev_int) (ev_mul (ev_var rfl) (ev_var rfl) (wide_mul (a := 8000) (b := 8000) q1 q2 (by decide) (by decide) (by decide)))) (by simp)) k
end TB
namespace TB
open PySem L2
def topS (i : Nat) : Stmt := PySem.Challenge.pw_tracebook_k27_whole_moves_and_norms.main.body.getD i (.Pass ⟨0, 0, 0, 0⟩)
abbrev s_shared : Stmt := (topS 5)
abbrev s_split : Stmt := (topS 8)
abbrev s_stretched : Stmt := (topS 9)
abbrev s_circle : Stmt := (topS 10)
abbrev s_Wheel_init : Stmt := (inClass (topS 11) 0)
abbrev s_Wheel_lowest : Stmt := (inClass (topS 11) 1)
abbrev s_Wheel_plus : Stmt := (inClass (topS 11) 3)
abbrev s_Wheel_times : Stmt := (inClass (topS 11) 4)
abbrev s_Wheel_exchanged : Stmt := (inClass (topS 11) 6)
abbrev s_Wheel_backed : Stmt := (inClass (topS 11) 7)
abbrev s_Wheel_moved : Stmt := (inClass (topS 11) 8)
abbrev s_Wheel_wider : Stmt := (inClass (topS 11) 9)
abbrev s_Wheel_whole : Stmt := (inClass (topS 11) 10)
abbrev s_l_whole : Stmt := (topS 13)
abbrev s_l_at : Stmt := (topS 14)
abbrev s_l_number : Stmt := (topS 15)
abbrev s_l_shared : Stmt := (topS 16)
abbrev s_l_moves : Stmt := (topS 17)
abbrev s_l_all_moves : Stmt := (topS 18)
abbrev s_l_kept : Stmt := (topS 19)
abbrev s_l_widened : Stmt := (topS 20)
abbrev s_law : Stmt := (topS 21)
set_option genInjectivity false in
set_option genSizeOfSpec false in
structure Ad where
  (a_shared a_split a_stretched a_circle a_Wheel_init a_Wheel_lowest a_Wheel_plus a_Wheel_times a_Wheel_exchanged a_Wheel_backed a_Wheel_moved a_Wheel_wider a_Wheel_whole a_l_whole a_l_at a_l_number a_l_shared a_l_moves a_l_all_moves a_l_kept a_l_widened a_law : Addr)
  (fd_shared fd_split fd_stretched fd_circle fd_Wheel_init fd_Wheel_lowest fd_Wheel_plus fd_Wheel_times fd_Wheel_exchanged fd_Wheel_backed fd_Wheel_moved fd_Wheel_wider fd_Wheel_whole fd_l_whole fd_l_at fd_l_number fd_l_shared fd_l_moves fd_l_all_moves fd_l_kept fd_l_widened fd_law : FuncData)
theorem ar_shared : ∀ ss ok er, T_shared ss ok er → ss.length = 2 := by intro ss ok er h; obtain ⟨_, _, rfl, _⟩ := h; rfl
theorem ar_split : ∀ ss ok er, T_split ss ok er → ss.length = 2 := by intro ss ok er h; obtain ⟨_, _, rfl, _⟩ := h; rfl
theorem ar_stretched : ∀ ss ok er, T_stretched ss ok er → ss.length = 2 := by intro ss ok er h; obtain ⟨_, _, rfl, _⟩ := h; rfl
theorem ar_circle : ∀ ss ok er, T_circle ss ok er → ss.length = 1 := by intro ss ok er h; obtain ⟨_, rfl, _⟩ := h; rfl
theorem ar_Wheel_lowest : ∀ ss ok er, T_Wheel_lowest ss ok er → ss.length = 2 := by intro ss ok er h; obtain ⟨_, _, rfl, _⟩ := h; rfl
theorem ar_Wheel_plus : ∀ ss ok er, T_Wheel_plus ss ok er → ss.length = 3 := by intro ss ok er h; obtain ⟨_, _, _, rfl, _⟩ := h; rfl
theorem ar_Wheel_times : ∀ ss ok er, T_Wheel_times ss ok er → ss.length = 3 := by intro ss ok er h; obtain ⟨_, _, _, rfl, _⟩ := h; rfl
theorem ar_Wheel_exchanged : ∀ ss ok er, T_Wheel_exchanged ss ok er → ss.length = 3 := by intro ss ok er h; obtain ⟨_, _, _, rfl, _⟩ := h; rfl
theorem ar_Wheel_backed : ∀ ss ok er, T_Wheel_backed ss ok er → ss.length = 2 := by intro ss ok er h; obtain ⟨_, _, rfl, _⟩ := h; rfl
theorem ar_Wheel_moved : ∀ ss ok er, T_Wheel_moved ss ok er → ss.length = 3 := by intro ss ok er h; obtain ⟨_, _, _, rfl, _⟩ := h; rfl
theorem ar_Wheel_wider : ∀ ss ok er, T_Wheel_wider ss ok er → ss.length = 3 := by intro ss ok er h; obtain ⟨_, _, _, rfl, _⟩ := h; rfl
theorem ar_Wheel_whole : ∀ ss ok er, T_Wheel_whole ss ok er → ss.length = 2 := by intro ss ok er h; obtain ⟨_, _, rfl, _⟩ := h; rfl
theorem ar_l_whole : ∀ ss ok er, T_l_whole ss ok er → ss.length = 1 := by intro ss ok er h; obtain ⟨_, rfl, _⟩ := h; rfl
theorem ar_l_at : ∀ ss ok er, T_l_at ss ok er → ss.length = 2 := by intro ss ok er h; obtain ⟨_, _, rfl, _⟩ := h; rfl
theorem ar_l_number : ∀ ss ok er, T_l_number ss ok er → ss.length = 2 := by intro ss ok er h; obtain ⟨_, _, rfl, _⟩ := h; rfl
theorem ar_l_shared : ∀ ss ok er, T_l_shared ss ok er → ss.length = 2 := by intro ss ok er h; obtain ⟨_, _, rfl, _⟩ := h; rfl
theorem ar_l_moves : ∀ ss ok er, T_l_moves ss ok er → ss.length = 1 := by intro ss ok er h; obtain ⟨_, rfl, _⟩ := h; rfl
theorem ar_l_all_moves : ∀ ss ok er, T_l_all_moves ss ok er → ss.length = 2 := by intro ss ok er h; obtain ⟨_, _, rfl, _⟩ := h; rfl
theorem ar_l_kept : ∀ ss ok er, T_l_kept ss ok er → ss.length = 5 := by intro ss ok er h; obtain ⟨_, _, _, _, _, rfl, _⟩ := h; rfl
theorem ar_l_widened : ∀ ss ok er, T_l_widened ss ok er → ss.length = 4 := by intro ss ok er h; obtain ⟨_, _, _, _, rfl, _⟩ := h; rfl
theorem ar_law : ∀ ss ok er, T_law ss ok er → ss.length = 1 := by intro ss ok er h; obtain ⟨_, rfl, _⟩ := h; rfl
structure Tx (K : PySem.W.Frag) (mg : Str → Option Value) (cls : CN → Addr) (A : Ad) : Prop where
  F_shared : Fun K "shared" "shared" s_shared A.a_shared A.fd_shared
  b_shared : Binds K A.fd_shared ["one", "other"] []
  g_shared : mg "shared" = some (.ref A.a_shared)
  k_shared : PySem.W.keepIn K (.ref A.a_shared) = true
  F_split : Fun K "split" "split" s_split A.a_split A.fd_split
  b_split : Binds K A.fd_split ["top", "bottom"] []
  g_split : mg "split" = some (.ref A.a_split)
  k_split : PySem.W.keepIn K (.ref A.a_split) = true
  F_stretched : Fun K "stretched" "stretched" s_stretched A.a_stretched A.fd_stretched
  b_stretched : Binds K A.fd_stretched ["some", "many"] []
  g_stretched : mg "stretched" = some (.ref A.a_stretched)
  k_stretched : PySem.W.keepIn K (.ref A.a_stretched) = true
  F_circle : Fun K "circle" "circle" s_circle A.a_circle A.fd_circle
  b_circle : Binds K A.fd_circle ["many"] []
  g_circle : mg "circle" = some (.ref A.a_circle)
  k_circle : PySem.W.keepIn K (.ref A.a_circle) = true
  F_Wheel_init : Fun K "__init__" "Wheel.__init__" s_Wheel_init A.a_Wheel_init A.fd_Wheel_init
  b_Wheel_init : Binds K A.fd_Wheel_init ["self", "many"] []
  F_Wheel_lowest : Fun K "lowest" "Wheel.lowest" s_Wheel_lowest A.a_Wheel_lowest A.fd_Wheel_lowest
  b_Wheel_lowest : Binds K A.fd_Wheel_lowest ["self", "counts"] []
  F_Wheel_plus : Fun K "plus" "Wheel.plus" s_Wheel_plus A.a_Wheel_plus A.fd_Wheel_plus
  b_Wheel_plus : Binds K A.fd_Wheel_plus ["self", "one", "other"] []
  F_Wheel_times : Fun K "times" "Wheel.times" s_Wheel_times A.a_Wheel_times A.fd_Wheel_times
  b_Wheel_times : Binds K A.fd_Wheel_times ["self", "one", "other"] []
  F_Wheel_exchanged : Fun K "exchanged" "Wheel.exchanged" s_Wheel_exchanged A.a_Wheel_exchanged A.fd_Wheel_exchanged
  b_Wheel_exchanged : Binds K A.fd_Wheel_exchanged ["self", "one", "j"] []
  F_Wheel_backed : Fun K "backed" "Wheel.backed" s_Wheel_backed A.a_Wheel_backed A.fd_Wheel_backed
  b_Wheel_backed : Binds K A.fd_Wheel_backed ["self", "one"] []
  F_Wheel_moved : Fun K "moved" "Wheel.moved" s_Wheel_moved A.a_Wheel_moved A.fd_Wheel_moved
  b_Wheel_moved : Binds K A.fd_Wheel_moved ["self", "one", "j"] []
  F_Wheel_wider : Fun K "wider" "Wheel.wider" s_Wheel_wider A.a_Wheel_wider A.fd_Wheel_wider
  b_Wheel_wider : Binds K A.fd_Wheel_wider ["self", "one", "many"] []
  F_Wheel_whole : Fun K "whole" "Wheel.whole" s_Wheel_whole A.a_Wheel_whole A.fd_Wheel_whole
  b_Wheel_whole : Binds K A.fd_Wheel_whole ["self", "one"] []
  F_l_whole : Fun K "_law_whole" "_law_whole" s_l_whole A.a_l_whole A.fd_l_whole
  b_l_whole : Binds K A.fd_l_whole ["_law_found"] []
  g_l_whole : mg "_law_whole" = some (.ref A.a_l_whole)
  k_l_whole : PySem.W.keepIn K (.ref A.a_l_whole) = true
  F_l_at : Fun K "_law_at" "_law_at" s_l_at A.a_l_at A.fd_l_at
  b_l_at : Binds K A.fd_l_at ["_law_script", "_law_k"] []
  g_l_at : mg "_law_at" = some (.ref A.a_l_at)
  k_l_at : PySem.W.keepIn K (.ref A.a_l_at) = true
  F_l_number : Fun K "_law_number" "_law_number" s_l_number A.a_l_number A.fd_l_number
  b_l_number : Binds K A.fd_l_number ["_law_script", "_law_at_here"] []
  g_l_number : mg "_law_number" = some (.ref A.a_l_number)
  k_l_number : PySem.W.keepIn K (.ref A.a_l_number) = true
  F_l_shared : Fun K "_law_shared" "_law_shared" s_l_shared A.a_l_shared A.fd_l_shared
  b_l_shared : Binds K A.fd_l_shared ["_law_one", "_law_other"] []
  g_l_shared : mg "_law_shared" = some (.ref A.a_l_shared)
  k_l_shared : PySem.W.keepIn K (.ref A.a_l_shared) = true
  F_l_moves : Fun K "_law_moves" "_law_moves" s_l_moves A.a_l_moves A.fd_l_moves
  b_l_moves : Binds K A.fd_l_moves ["_law_many"] []
  g_l_moves : mg "_law_moves" = some (.ref A.a_l_moves)
  k_l_moves : PySem.W.keepIn K (.ref A.a_l_moves) = true
  F_l_all_moves : Fun K "_law_all_moves" "_law_all_moves" s_l_all_moves A.a_l_all_moves A.fd_l_all_moves
  b_l_all_moves : Binds K A.fd_l_all_moves ["_law_wheel", "_law_one"] []
  g_l_all_moves : mg "_law_all_moves" = some (.ref A.a_l_all_moves)
  k_l_all_moves : PySem.W.keepIn K (.ref A.a_l_all_moves) = true
  F_l_kept : Fun K "_law_kept" "_law_kept" s_l_kept A.a_l_kept A.fd_l_kept
  b_l_kept : Binds K A.fd_l_kept ["_law_wheel", "_law_one", "_law_other", "_law_i", "_law_j"] []
  g_l_kept : mg "_law_kept" = some (.ref A.a_l_kept)
  k_l_kept : PySem.W.keepIn K (.ref A.a_l_kept) = true
  F_l_widened : Fun K "_law_widened" "_law_widened" s_l_widened A.a_l_widened A.fd_l_widened
  b_l_widened : Binds K A.fd_l_widened ["_law_wheel", "_law_one", "_law_other", "_law_by"] []
  g_l_widened : mg "_law_widened" = some (.ref A.a_l_widened)
  k_l_widened : PySem.W.keepIn K (.ref A.a_l_widened) = true
  F_law : Fun K "law" "law" s_law A.a_law A.fd_law
  b_law : Binds K A.fd_law ["_law_script"] []
  g_law : mg "law" = some (.ref A.a_law)
  k_law : PySem.W.keepIn K (.ref A.a_law) = true
  b_any : mg "any" = none
  b_bool : mg "bool" = none
  b_enumerate : mg "enumerate" = none
  b_int : mg "int" = none
  b_isinstance : mg "isinstance" = none
  b_len : mg "len" = none
  b_list : mg "list" = none
  b_range : mg "range" = none
  b_zip : mg "zip" = none
  g_WIDEST : ∃ t, mg "WIDEST" = some (.int 60 t)
  g_BadWheel : mg "BadWheel" = some (.ref (cls .BadWheel))
  g_NoMove : mg "NoMove" = some (.ref (cls .NoMove))
  g_Wheel : mg "Wheel" = some (.ref (cls .Wheel))
  M_Wheel : Mk K (cls .Wheel) A.a_Wheel_init
  whlC : WhlC ⟨K, cls⟩
  C_Wheel : Cls K (cls .Wheel)
  m_Wheel_lowest : Meth K (cls .Wheel) "lowest" A.a_Wheel_lowest
  m_Wheel_plus : Meth K (cls .Wheel) "plus" A.a_Wheel_plus
  m_Wheel_times : Meth K (cls .Wheel) "times" A.a_Wheel_times
  m_Wheel_exchanged : Meth K (cls .Wheel) "exchanged" A.a_Wheel_exchanged
  m_Wheel_backed : Meth K (cls .Wheel) "backed" A.a_Wheel_backed
  m_Wheel_moved : Meth K (cls .Wheel) "moved" A.a_Wheel_moved
  m_Wheel_wider : Meth K (cls .Wheel) "wider" A.a_Wheel_wider
  m_Wheel_whole : Meth K (cls .Wheel) "whole" A.a_Wheel_whole
  x_BadWheel : PySem.W.excIn K (cls .BadWheel) [.type "ValueError", .type "Exception", .type "BaseException", .type "object"] "ValueError.__new__" = true
  k_BadWheel : PySem.W.keepIn K (.ref (cls .BadWheel)) = true
  r_BadWheel : PySem.W.subIn K (.ref (cls .BadWheel)) (.type "BaseException") = some true
  rt_BadWheel : PySem.W.typeIn K (.ref (cls .BadWheel)) = some (.type "type")
  x_NoMove : PySem.W.excIn K (cls .NoMove) [.type "ValueError", .type "Exception", .type "BaseException", .type "object"] "ValueError.__new__" = true
  k_NoMove : PySem.W.keepIn K (.ref (cls .NoMove)) = true
  r_NoMove : PySem.W.subIn K (.ref (cls .NoMove)) (.type "BaseException") = some true
  rt_NoMove : PySem.W.typeIn K (.ref (cls .NoMove)) = some (.type "type")
section
variable {P : Program} {w : World} {K : PySem.W.Frag} {mg : Str → Option Value} {base : Heap} {cls : CN → Addr}
  {A : Ad}
theorem sc_shared : FnScope ["one", "other"] ["one", "other"] (defScope s_shared) := ⟨rfl, rfl, rfl, by decide +kernel, rfl, by decide +kernel, by decide +kernel⟩
theorem sc_split : FnScope ["top", "bottom", "rest", "many", "found", "share", "k"] ["top", "bottom"] (defScope s_split) := ⟨rfl, rfl, rfl, by decide +kernel, rfl, by decide +kernel, by decide +kernel⟩
theorem sc_stretched : FnScope ["some", "many", "found", "k", "number"] ["some", "many"] (defScope s_stretched) := ⟨rfl, rfl, rfl, by decide +kernel, rfl, by decide +kernel, by decide +kernel⟩
theorem sc_circle : FnScope ["many", "found", "rest", "prime"] ["many"] (defScope s_circle) := ⟨rfl, rfl, rfl, by decide +kernel, rfl, by decide +kernel, by decide +kernel⟩
theorem sc_Wheel_init : FnScope ["self", "many"] ["self", "many"] (defScope s_Wheel_init) := ⟨rfl, rfl, rfl, by decide +kernel, rfl, by decide +kernel, by decide +kernel⟩
theorem sc_Wheel_lowest : FnScope ["self", "counts", "sums", "k", "number"] ["self", "counts"] (defScope s_Wheel_lowest) := ⟨rfl, rfl, rfl, by decide +kernel, rfl, by decide +kernel, by decide +kernel⟩
theorem sc_Wheel_plus : FnScope ["self", "one", "other", "left", "right"] ["self", "one", "other"] (defScope s_Wheel_plus) := ⟨rfl, rfl, rfl, by decide +kernel, rfl, by decide +kernel, by decide +kernel⟩
theorem sc_Wheel_times : FnScope ["self", "one", "other", "sums", "j", "left", "k", "right"] ["self", "one", "other"] (defScope s_Wheel_times) := ⟨rfl, rfl, rfl, by decide +kernel, rfl, by decide +kernel, by decide +kernel⟩
theorem sc_Wheel_exchanged : FnScope ["self", "one", "j", "sums", "k", "number"] ["self", "one", "j"] (defScope s_Wheel_exchanged) := ⟨rfl, rfl, rfl, by decide +kernel, rfl, by decide +kernel, by decide +kernel⟩
theorem sc_Wheel_backed : FnScope ["self", "one"] ["self", "one"] (defScope s_Wheel_backed) := ⟨rfl, rfl, rfl, by decide +kernel, rfl, by decide +kernel, by decide +kernel⟩
theorem sc_Wheel_moved : FnScope ["self", "one", "j"] ["self", "one", "j"] (defScope s_Wheel_moved) := ⟨rfl, rfl, rfl, by decide +kernel, rfl, by decide +kernel, by decide +kernel⟩
theorem sc_Wheel_wider : FnScope ["self", "one", "many"] ["self", "one", "many"] (defScope s_Wheel_wider) := ⟨rfl, rfl, rfl, by decide +kernel, rfl, by decide +kernel, by decide +kernel⟩
theorem sc_Wheel_whole : FnScope ["self", "one", "number"] ["self", "one"] (defScope s_Wheel_whole) := ⟨rfl, rfl, rfl, by decide +kernel, rfl, by decide +kernel, by decide +kernel⟩
theorem sc_l_whole : FnScope ["_law_found"] ["_law_found"] (defScope s_l_whole) := ⟨rfl, rfl, rfl, by decide +kernel, rfl, by decide +kernel, by decide +kernel⟩
theorem sc_l_at : FnScope ["_law_script", "_law_k"] ["_law_script", "_law_k"] (defScope s_l_at) := ⟨rfl, rfl, rfl, by decide +kernel, rfl, by decide +kernel, by decide +kernel⟩
theorem sc_l_number : FnScope ["_law_script", "_law_at_here", "_law_cell", "_law_number_here"] ["_law_script", "_law_at_here"] (defScope s_l_number) := ⟨rfl, rfl, rfl, by decide +kernel, rfl, by decide +kernel, by decide +kernel⟩
theorem sc_l_shared : FnScope ["_law_one", "_law_other"] ["_law_one", "_law_other"] (defScope s_l_shared) := ⟨rfl, rfl, rfl, by decide +kernel, rfl, by decide +kernel, by decide +kernel⟩
theorem sc_l_moves : FnScope ["_law_many", "_law_j"] ["_law_many"] (defScope s_l_moves) := ⟨rfl, rfl, rfl, by decide +kernel, rfl, by decide +kernel, by decide +kernel⟩
theorem sc_l_all_moves : FnScope ["_law_wheel", "_law_one", "_law_total", "_law_made", "_law_j", "_law_found"] ["_law_wheel", "_law_one"] (defScope s_l_all_moves) := ⟨rfl, rfl, rfl, by decide +kernel, rfl, by decide +kernel, by decide +kernel⟩
theorem sc_l_kept : FnScope ["_law_wheel", "_law_one", "_law_other", "_law_i", "_law_j", "_law_both", "_law_far"] ["_law_wheel", "_law_one", "_law_other", "_law_i", "_law_j"] (defScope s_l_kept) := ⟨rfl, rfl, rfl, by decide +kernel, rfl, by decide +kernel, by decide +kernel⟩
theorem sc_l_widened : FnScope ["_law_wheel", "_law_one", "_law_other", "_law_by", "_law_wide", "_law_left", "_law_right"] ["_law_wheel", "_law_one", "_law_other", "_law_by"] (defScope s_l_widened) := ⟨rfl, rfl, rfl, by decide +kernel, rfl, by decide +kernel, by decide +kernel⟩
theorem sc_law : FnScope ["_law_script", "_law_cell", "_law_some", "_law_many", "_law_wheel", "_law_size", "_law_one", "_law_other", "_law_i", "_law_j", "_law_total", "_law_norm", "_law_right", "_law_k"] ["_law_script"] (defScope s_law) := ⟨rfl, rfl, rfl, by decide +kernel, rfl, by decide +kernel, by decide +kernel⟩
theorem ok_shared (T : Tx K mg cls A) : FnOk P w K mg base (L2.CX P w) 1 A.a_shared A.fd_shared ["one", "other"] (spOf ⟨K, cls⟩ T_shared) := by
  refine T.F_shared.okX sc_shared (spOf_len (n := 2) (ar_shared)) (fun cdv A outer s H vs Q E hr h => ⟨t_shared ⟨K, cls⟩ (fun c d _ H => E c d H), ?_, spOf_run (N := ["one", "other"]) (t := fun E => t_shared ⟨K, cls⟩ (fun c d _ H => E c d H)) (fun ss ok er hT => by rw [ar_shared ss ok er hT]; decide) (fun E ss ok er hT => w_shared ⟨K, cls⟩ _ ss ok er hT) vs H Q E h⟩)
  unfold t_shared
  exact (pss_cons (ps_while (passes_of rfl) (pt_cmpR go_gt (pv 1) pe_int (nomark _))
  (pss_one (ps_par (i := 0) (j := 1) (by rfl) sc_shared.nd (by rfl) (by rfl) (by decide) (by rfl) (by rfl) (pa_cons (pv 1) (pa_cons (pe_op go_mod (pv 0) (pv 1)) pa_nil)) (by rfl))))
  (pss_one (ps_ret (pv 0))))
theorem ok_split (T : Tx K mg cls A) : FnOk P w K mg base (L2.CX P w) 1 A.a_split A.fd_split ["top", "bottom"] (spOf ⟨K, cls⟩ T_split) := by
  refine T.F_split.okX sc_split (spOf_len (n := 2) (ar_split)) (fun cdv A outer s H vs Q E hr h => ⟨t_split ⟨K, cls⟩ (fun c d _ H => E c d H), ?_, spOf_run (N := ["top", "bottom", "rest", "many", "found", "share", "k"]) (t := fun E => t_split ⟨K, cls⟩ (fun c d _ H => E c d H)) (fun ss ok er hT => by rw [ar_split ss ok er hT]; decide) (fun E ss ok er hT => w_split ⟨K, cls⟩ _ ss ok er hT) vs H Q E h⟩)
  unfold t_split
  exact (pss_cons (ps_set (i := 2) sc_split.nd (by rfl) (Or.inl rfl) (pe_callTy gc_list (by rfl) T.b_list (by decide +kernel) (pa_cons (pv 0) pa_nil)))
  (pss_cons (ps_set (i := 3) sc_split.nd (by rfl) (Or.inl rfl) (pe_op go_sub (pe_callB gc_len (by rfl) T.b_len (by decide +kernel) (pa_cons (pv 1) pa_nil)) pe_int))
  (pss_cons (ps_set (i := 4) sc_split.nd (by rfl) (Or.inl rfl) (pe_lst pa_nil))
  (pss_cons (ps_while (passes_of rfl) (pt_cmpR go_gt (pe_callB gc_len (by rfl) T.b_len (by decide +kernel) (pa_cons (pv 2) pa_nil)) (pv 3) (nomark _))
  (pss_cons (ps_set (i := 5) sc_split.nd (by rfl) (Or.inl rfl) (pe_bm0 PySem.F.plainAttrs_list PySem.F.slot_list_pop PySem.F.type_list_pop mt_pop (pv 2)))
  (pss_cons (ps_expr (pe_bm PySem.F.plainAttrs_list PySem.F.slot_list_insert PySem.F.type_list_insert gm_insert (pv 4) (pa_cons pe_int (pa_cons (pv 5) pa_nil))))
  (pss_one (ps_for (passes_of rfl) (by rfl) (pi_range1 (by rfl) T.b_range (pa_cons (pv 3) pa_nil)) (pg_name (i := 6) sc_split.nd (by rfl) (Or.inl rfl))
  (pss_one (ps_augS (pv 2) (pe_op go_add (pe_op go_sub (pe_callB gc_len (by rfl) T.b_len (by decide +kernel) (pa_cons (pv 2) pa_nil)) (pv 3)) (pv 6)) pget_list (pe_op go_mul (pv 5) (pe_ix (go_ix (hu1 hr)) (pv 1) (pv 6) (fun _ _ => rfl))) ip_sub set_list)))))))
  (pss_one (ps_ret (pe_tup (pa_cons (pv 4) (pa_cons (pv 2) pa_nil)))))))))
theorem ok_stretched (T : Tx K mg cls A) : FnOk P w K mg base (L2.CX P w) 1 A.a_stretched A.fd_stretched ["some", "many"] (spOf ⟨K, cls⟩ T_stretched) := by
  refine T.F_stretched.okX sc_stretched (spOf_len (n := 2) (ar_stretched)) (fun cdv A outer s H vs Q E hr h => ⟨t_stretched ⟨K, cls⟩ (fun c d _ H => E c d H), ?_, spOf_run (N := ["some", "many", "found", "k", "number"]) (t := fun E => t_stretched ⟨K, cls⟩ (fun c d _ H => E c d H)) (fun ss ok er hT => by rw [ar_stretched ss ok er hT]; decide) (fun E ss ok er hT => w_stretched ⟨K, cls⟩ _ ss ok er hT) vs H Q E h⟩)
  unfold t_stretched
  exact (pss_cons (ps_set (i := 2) sc_stretched.nd (by rfl) (Or.inl rfl) (pe_op go_mul (pe_lst (pa_cons pe_int pa_nil)) (pe_op go_add (pe_op go_mul (pv 1) (pe_op go_sub (pe_callB gc_len (by rfl) T.b_len (by decide +kernel) (pa_cons (pv 0) pa_nil)) pe_int)) pe_int)))
  (pss_cons (ps_for (passes_of rfl) (by rfl) (pi_enum (by rfl) T.b_enumerate (pa_cons (pv 0) pa_nil)) (pg_tup (by rfl) (pgs_cons (pg_name (i := 3) sc_stretched.nd (by rfl) (Or.inl rfl)) (pgs_cons (pg_name (i := 4) sc_stretched.nd (by rfl) (Or.inl rfl)) pgs_nil)))
  (pss_one (ps_asg (pv 4) (pg_sub (pv 2) (pe_op go_mul (pv 1) (pv 3)) (gs_set (hu1 hr))))))
  (pss_one (ps_ret (pv 2)))))
theorem ok_circle (T : Tx K mg cls A) (G_split : FnOk P w K mg base (L2.CX P w) 1 A.a_split A.fd_split ["top", "bottom"] (spOf ⟨K, cls⟩ T_split)) (G_stretched : FnOk P w K mg base (L2.CX P w) 1 A.a_stretched A.fd_stretched ["some", "many"] (spOf ⟨K, cls⟩ T_stretched)) : FnOk P w K mg base (L2.CX P w) 2 A.a_circle A.fd_circle ["many"] (spOf ⟨K, cls⟩ T_circle) := by
  refine T.F_circle.okX sc_circle (spOf_len (n := 1) (ar_circle)) (fun cdv A outer s H vs Q E hr h => ⟨t_circle ⟨K, cls⟩ (fun c d _ H => E c d H), ?_, spOf_run (N := ["many", "found", "rest", "prime"]) (t := fun E => t_circle ⟨K, cls⟩ (fun c d _ H => E c d H)) (fun ss ok er hT => by rw [ar_circle ss ok er hT]; decide) (fun E ss ok er hT => w_circle ⟨K, cls⟩ _ ss ok er hT) vs H Q E h⟩)
  unfold t_circle
  exact (pss_cons (ps_if (PW.pt (pw_or (pt_cmpR go_lt (pv 0) pe_int (nomark _)) (pw_or1 (pt_cmpR go_gt (pv 0) (pe_glob (by rfl) T.g_WIDEST.choose_spec ⟨_, rfl⟩) (nomark _)))))
  (pss_one (ps_raise (by rfl) (takes_of rfl rfl rfl rfl) (pmk_own PySem.F.excBase_ValueError T.x_BadWheel T.g_BadWheel T.k_BadWheel (raises_own T.r_BadWheel T.rt_BadWheel) (by rfl))))
  pss_nil)
  (pss_cons (ps_set (i := 1) sc_circle.nd (by rfl) (Or.inl rfl) (pe_lst (pa_cons (pe_un go_neg pe_int) (pa_cons pe_int pa_nil))))
  (pss_cons (ps_set (i := 2) sc_circle.nd (by rfl) (Or.inl rfl) (pv 0))
  (pss_cons (ps_for (passes_of rfl) (by rfl) (pi_range2 (by rfl) T.b_range (pa_cons pe_int (pa_cons (pe_op go_add (pv 0) pe_int) pa_nil))) (pg_name (i := 3) sc_circle.nd (by rfl) (Or.inl rfl))
  (pss_cons (ps_if (pt_cmpR (go_eq (hu64 hr)) (pe_op go_mod (pv 2) (pv 3)) pe_int (nomark _))
  (pss_cons (ps_set (i := 1) sc_circle.nd (by rfl) (Or.inl rfl) (pe_ix (go_ix (hu1 hr)) (pe_callSD G_split (hr.mono (by decide)) (by rfl) T.g_split T.k_split T.b_split .nil (fun σ => passAt (takes_of rfl rfl rfl rfl) σ) (pa_cons (pe_callSD G_stretched (hr.mono (by decide)) (by rfl) T.g_stretched T.k_stretched T.b_stretched .nil (fun σ => passAt (takes_of rfl rfl rfl rfl) σ) (pa_cons (pv 1) (pa_cons (pv 3) pa_nil))) (pa_cons (pv 1) pa_nil))) pe_int (fun _ _ => rfl)))
  (pss_one (ps_set (i := 2) sc_circle.nd (by rfl) (Or.inl rfl) (pe_op go_div (pv 2) (pv 3)))))
  pss_nil)
  (pss_one (ps_while (passes_of rfl) (pt_cmpR (go_eq (hu64 hr)) (pe_op go_mod (pv 2) (pv 3)) pe_int (nomark _))
  (pss_cons (ps_set (i := 1) sc_circle.nd (by rfl) (Or.inl rfl) (pe_callSD G_stretched (hr.mono (by decide)) (by rfl) T.g_stretched T.k_stretched T.b_stretched .nil (fun σ => passAt (takes_of rfl rfl rfl rfl) σ) (pa_cons (pv 1) (pa_cons (pv 3) pa_nil))))
  (pss_one (ps_set (i := 2) sc_circle.nd (by rfl) (Or.inl rfl) (pe_op go_div (pv 2) (pv 3)))))))))
  (pss_one (ps_ret (pv 1)))))))
theorem ok_Wheel_init (T : Tx K mg cls A) (G_circle : FnOk P w K mg base (L2.CX P w) 2 A.a_circle A.fd_circle ["many"] (spOf ⟨K, cls⟩ T_circle)) : FnOk P w K mg base (L2.CX P w) 3 A.a_Wheel_init A.fd_Wheel_init ["self", "many"] (spI_Wheel ⟨K, cls⟩) := by
  refine T.F_Wheel_init.okX sc_Wheel_init (fun vs H Q E h => ?_) (fun cdv A outer s H vs Q E hr h => ⟨t_Wheel_init ⟨K, cls⟩ (fun c d _ H => E c d H), ?_, w_Wheel_init ⟨K, cls⟩ (N := ["self", "many"]) rfl vs H Q E h⟩)
  · obtain ⟨x, dx, m, rfl, _⟩ := h
    rfl
  · unfold t_Wheel_init
    exact (pss_cons (ps_fld (pv 0) (pe_callSD G_circle (hr.mono (by decide)) (by rfl) T.g_circle T.k_circle T.b_circle .nil (fun σ => passAt (takes_of rfl rfl rfl rfl) σ) (pa_cons (pv 1) pa_nil)) (by rfl))
  (pss_cons (ps_fld (pv 0) (pv 1) (by rfl))
  (pss_one (ps_fld (pv 0) (pe_op go_sub (pe_callB gc_len (by rfl) T.b_len (by decide +kernel) (pa_cons (pe_fld (pv 0) (by rfl)) pa_nil)) pe_int) (by rfl)))))
theorem ok_Wheel_lowest (T : Tx K mg cls A) (G_split : FnOk P w K mg base (L2.CX P w) 1 A.a_split A.fd_split ["top", "bottom"] (spOf ⟨K, cls⟩ T_split)) : FnOk P w K mg base (L2.CX P w) 2 A.a_Wheel_lowest A.fd_Wheel_lowest ["self", "counts"] (spOf ⟨K, cls⟩ T_Wheel_lowest) := by
  refine T.F_Wheel_lowest.okX sc_Wheel_lowest (spOf_len (n := 2) (ar_Wheel_lowest)) (fun cdv A outer s H vs Q E hr h => ⟨t_Wheel_lowest ⟨K, cls⟩ (fun c d _ H => E c d H), ?_, spOf_run (N := ["self", "counts", "sums", "k", "number"]) (t := fun E => t_Wheel_lowest ⟨K, cls⟩ (fun c d _ H => E c d H)) (fun ss ok er hT => by rw [ar_Wheel_lowest ss ok er hT]; decide) (fun E ss ok er hT => w_Wheel_lowest ⟨K, cls⟩ _ ss ok er hT) vs H Q E h⟩)
  unfold t_Wheel_lowest
  exact (pss_cons (ps_set (i := 2) sc_Wheel_lowest.nd (by rfl) (Or.inl rfl) (pe_op go_mul (pe_lst (pa_cons pe_int pa_nil)) (pe_fld (pv 0) (by rfl))))
  (pss_cons (ps_for (passes_of rfl) (by rfl) (pi_enum (by rfl) T.b_enumerate (pa_cons (pv 1) pa_nil)) (pg_tup (by rfl) (pgs_cons (pg_name (i := 3) sc_Wheel_lowest.nd (by rfl) (Or.inl rfl)) (pgs_cons (pg_name (i := 4) sc_Wheel_lowest.nd (by rfl) (Or.inl rfl)) pgs_nil)))
  (pss_one (ps_augS (pv 2) (pe_op go_mod (pv 3) (pe_fld (pv 0) (by rfl))) pget_list (pv 4) ip_add set_list)))
  (pss_one (ps_ret (pe_ix (go_ix (hu1 hr)) (pe_callSD G_split (hr.mono (by decide)) (by rfl) T.g_split T.k_split T.b_split .nil (fun σ => passAt (takes_of rfl rfl rfl rfl) σ) (pa_cons (pv 2) (pa_cons (pe_fld (pv 0) (by rfl)) pa_nil))) pe_int (fun _ _ => rfl))))))
theorem ok_Wheel_plus (T : Tx K mg cls A) : FnOk P w K mg base (L2.CX P w) 1 A.a_Wheel_plus A.fd_Wheel_plus ["self", "one", "other"] (spOf ⟨K, cls⟩ T_Wheel_plus) := by
  refine T.F_Wheel_plus.okX sc_Wheel_plus (spOf_len (n := 3) (ar_Wheel_plus)) (fun cdv A outer s H vs Q E hr h => ⟨t_Wheel_plus ⟨K, cls⟩ (fun c d _ H => E c d H), ?_, spOf_run (N := ["self", "one", "other", "left", "right"]) (t := fun E => t_Wheel_plus ⟨K, cls⟩ (fun c d _ H => E c d H)) (fun ss ok er hT => by rw [ar_Wheel_plus ss ok er hT]; decide) (fun E ss ok er hT => w_Wheel_plus ⟨K, cls⟩ _ ss ok er hT) vs H Q E h⟩)
  unfold t_Wheel_plus
  exact (pss_one (ps_ret (pe_lc (by rfl) sc_Wheel_plus.nd (pi_zip (by rfl) T.b_zip (pa_cons (pv 1) (pa_cons (pv 2) pa_nil))) (blkOk_by (own := [("left", 3), ("right", 4)]) (by (show blkC ["self", "one", "other", "left", "right"] (defScope s_Wheel_plus) _ _ = true); decide +kernel)) (fun _ _ _ _ _ => (pg_tup (by rfl) (pgs_cons (pg_name (i := 3) sc_Wheel_plus.nd (by rfl) (Or.inl rfl)) (pgs_cons (pg_name (i := 4) sc_Wheel_plus.nd (by rfl) (Or.inl rfl)) pgs_nil)))) (fun _ _ _ _ _ => pts_nil) (fun _ _ _ _ _ => (pe_op go_add (pv 3) (pv 4))))))
theorem ok_Wheel_times (T : Tx K mg cls A) (G_Wheel_lowest : FnOk P w K mg base (L2.CX P w) 2 A.a_Wheel_lowest A.fd_Wheel_lowest ["self", "counts"] (spOf ⟨K, cls⟩ T_Wheel_lowest)) : FnOk P w K mg base (L2.CX P w) 3 A.a_Wheel_times A.fd_Wheel_times ["self", "one", "other"] (spOf ⟨K, cls⟩ T_Wheel_times) := by
  refine T.F_Wheel_times.okX sc_Wheel_times (spOf_len (n := 3) (ar_Wheel_times)) (fun cdv A outer s H vs Q E hr h => ⟨t_Wheel_times ⟨K, cls⟩ (fun c d _ H => E c d H), ?_, spOf_run (N := ["self", "one", "other", "sums", "j", "left", "k", "right"]) (t := fun E => t_Wheel_times ⟨K, cls⟩ (fun c d _ H => E c d H)) (fun ss ok er hT => by rw [ar_Wheel_times ss ok er hT]; decide) (fun E ss ok er hT => w_Wheel_times ⟨K, cls⟩ _ ss ok er hT) vs H Q E h⟩)
  unfold t_Wheel_times
  exact (pss_cons (ps_set (i := 3) sc_Wheel_times.nd (by rfl) (Or.inl rfl) (pe_op go_mul (pe_lst (pa_cons pe_int pa_nil)) (pe_fld (pv 0) (by rfl))))
  (pss_cons (ps_for (passes_of rfl) (by rfl) (pi_enum (by rfl) T.b_enumerate (pa_cons (pv 1) pa_nil)) (pg_tup (by rfl) (pgs_cons (pg_name (i := 4) sc_Wheel_times.nd (by rfl) (Or.inl rfl)) (pgs_cons (pg_name (i := 5) sc_Wheel_times.nd (by rfl) (Or.inl rfl)) pgs_nil)))
  (pss_one (ps_for (passes_of rfl) (by rfl) (pi_enum (by rfl) T.b_enumerate (pa_cons (pv 2) pa_nil)) (pg_tup (by rfl) (pgs_cons (pg_name (i := 6) sc_Wheel_times.nd (by rfl) (Or.inl rfl)) (pgs_cons (pg_name (i := 7) sc_Wheel_times.nd (by rfl) (Or.inl rfl)) pgs_nil)))
  (pss_one (ps_augS (pv 3) (pe_op go_mod (pe_op go_add (pv 4) (pv 6)) (pe_fld (pv 0) (by rfl))) pget_list (pe_op go_mul (pv 5) (pv 7)) ip_add set_list)))))
  (pss_one (ps_ret (pe_methSD (pv 0) T.C_Wheel T.m_Wheel_lowest G_Wheel_lowest (hr.mono (by decide)) T.b_Wheel_lowest .nil (fun σ => passAt (takes_of rfl rfl rfl rfl) σ) (pa_cons (pv 3) pa_nil))))))
theorem ok_Wheel_exchanged (T : Tx K mg cls A) (G_Wheel_lowest : FnOk P w K mg base (L2.CX P w) 2 A.a_Wheel_lowest A.fd_Wheel_lowest ["self", "counts"] (spOf ⟨K, cls⟩ T_Wheel_lowest)) : FnOk P w K mg base (L2.CX P w) 3 A.a_Wheel_exchanged A.fd_Wheel_exchanged ["self", "one", "j"] (spOf ⟨K, cls⟩ T_Wheel_exchanged) := by
  refine T.F_Wheel_exchanged.okX sc_Wheel_exchanged (spOf_len (n := 3) (ar_Wheel_exchanged)) (fun cdv A outer s H vs Q E hr h => ⟨t_Wheel_exchanged ⟨K, cls⟩ (fun c d _ H => E c d H), ?_, spOf_run (N := ["self", "one", "j", "sums", "k", "number"]) (t := fun E => t_Wheel_exchanged ⟨K, cls⟩ (fun c d _ H => E c d H)) (fun ss ok er hT => by rw [ar_Wheel_exchanged ss ok er hT]; decide) (fun E ss ok er hT => w_Wheel_exchanged ⟨K, cls⟩ _ ss ok er hT) vs H Q E h⟩)
  unfold t_Wheel_exchanged
  exact (pss_cons (ps_set (i := 3) sc_Wheel_exchanged.nd (by rfl) (Or.inl rfl) (pe_op go_mul (pe_lst (pa_cons pe_int pa_nil)) (pe_fld (pv 0) (by rfl))))
  (pss_cons (ps_for (passes_of rfl) (by rfl) (pi_enum (by rfl) T.b_enumerate (pa_cons (pv 1) pa_nil)) (pg_tup (by rfl) (pgs_cons (pg_name (i := 4) sc_Wheel_exchanged.nd (by rfl) (Or.inl rfl)) (pgs_cons (pg_name (i := 5) sc_Wheel_exchanged.nd (by rfl) (Or.inl rfl)) pgs_nil)))
  (pss_one (ps_augS (pv 3) (pe_op go_mod (pe_op go_mul (pv 2) (pv 4)) (pe_fld (pv 0) (by rfl))) pget_list (pv 5) ip_add set_list)))
  (pss_one (ps_ret (pe_methSD (pv 0) T.C_Wheel T.m_Wheel_lowest G_Wheel_lowest (hr.mono (by decide)) T.b_Wheel_lowest .nil (fun σ => passAt (takes_of rfl rfl rfl rfl) σ) (pa_cons (pv 3) pa_nil))))))
theorem ok_Wheel_backed (T : Tx K mg cls A) (G_Wheel_exchanged : FnOk P w K mg base (L2.CX P w) 3 A.a_Wheel_exchanged A.fd_Wheel_exchanged ["self", "one", "j"] (spOf ⟨K, cls⟩ T_Wheel_exchanged)) : FnOk P w K mg base (L2.CX P w) 4 A.a_Wheel_backed A.fd_Wheel_backed ["self", "one"] (spOf ⟨K, cls⟩ T_Wheel_backed) := by
  refine T.F_Wheel_backed.okX sc_Wheel_backed (spOf_len (n := 2) (ar_Wheel_backed)) (fun cdv A outer s H vs Q E hr h => ⟨t_Wheel_backed ⟨K, cls⟩ (fun c d _ H => E c d H), ?_, spOf_run (N := ["self", "one"]) (t := fun E => t_Wheel_backed ⟨K, cls⟩ (fun c d _ H => E c d H)) (fun ss ok er hT => by rw [ar_Wheel_backed ss ok er hT]; decide) (fun E ss ok er hT => w_Wheel_backed ⟨K, cls⟩ _ ss ok er hT) vs H Q E h⟩)
  unfold t_Wheel_backed
  exact (pss_one (ps_ret (pe_methSD (pv 0) T.C_Wheel T.m_Wheel_exchanged G_Wheel_exchanged (hr.mono (by decide)) T.b_Wheel_exchanged .nil (fun σ => passAt (takes_of rfl rfl rfl rfl) σ) (pa_cons (pv 1) (pa_cons (pe_un go_neg pe_int) pa_nil)))))
theorem ok_Wheel_moved (T : Tx K mg cls A) (G_shared : FnOk P w K mg base (L2.CX P w) 1 A.a_shared A.fd_shared ["one", "other"] (spOf ⟨K, cls⟩ T_shared)) (G_Wheel_exchanged : FnOk P w K mg base (L2.CX P w) 3 A.a_Wheel_exchanged A.fd_Wheel_exchanged ["self", "one", "j"] (spOf ⟨K, cls⟩ T_Wheel_exchanged)) : FnOk P w K mg base (L2.CX P w) 4 A.a_Wheel_moved A.fd_Wheel_moved ["self", "one", "j"] (spOf ⟨K, cls⟩ T_Wheel_moved) := by
  refine T.F_Wheel_moved.okX sc_Wheel_moved (spOf_len (n := 3) (ar_Wheel_moved)) (fun cdv A outer s H vs Q E hr h => ⟨t_Wheel_moved ⟨K, cls⟩ (fun c d _ H => E c d H), ?_, spOf_run (N := ["self", "one", "j"]) (t := fun E => t_Wheel_moved ⟨K, cls⟩ (fun c d _ H => E c d H)) (fun ss ok er hT => by rw [ar_Wheel_moved ss ok er hT]; decide) (fun E ss ok er hT => w_Wheel_moved ⟨K, cls⟩ _ ss ok er hT) vs H Q E h⟩)
  unfold t_Wheel_moved
  exact (pss_cons (ps_if (pt_cmpR (go_ne (hu64 hr)) (pe_callSD G_shared (hr.mono (by decide)) (by rfl) T.g_shared T.k_shared T.b_shared .nil (fun σ => passAt (takes_of rfl rfl rfl rfl) σ) (pa_cons (pe_fld (pv 0) (by rfl)) (pa_cons (pe_op go_mod (pv 2) (pe_fld (pv 0) (by rfl))) pa_nil))) pe_int (nomark _))
  (pss_one (ps_raise (by rfl) (takes_of rfl rfl rfl rfl) (pmk_own PySem.F.excBase_ValueError T.x_NoMove T.g_NoMove T.k_NoMove (raises_own T.r_NoMove T.rt_NoMove) (by rfl))))
  pss_nil)
  (pss_one (ps_ret (pe_methSD (pv 0) T.C_Wheel T.m_Wheel_exchanged G_Wheel_exchanged (hr.mono (by decide)) T.b_Wheel_exchanged .nil (fun σ => passAt (takes_of rfl rfl rfl rfl) σ) (pa_cons (pv 1) (pa_cons (pv 2) pa_nil))))))
theorem ok_Wheel_wider (T : Tx K mg cls A) (G_stretched : FnOk P w K mg base (L2.CX P w) 1 A.a_stretched A.fd_stretched ["some", "many"] (spOf ⟨K, cls⟩ T_stretched)) (G_Wheel_init : FnOk P w K mg base (L2.CX P w) 3 A.a_Wheel_init A.fd_Wheel_init ["self", "many"] (spI_Wheel ⟨K, cls⟩)) (G_Wheel_lowest : FnOk P w K mg base (L2.CX P w) 2 A.a_Wheel_lowest A.fd_Wheel_lowest ["self", "counts"] (spOf ⟨K, cls⟩ T_Wheel_lowest)) : FnOk P w K mg base (L2.CX P w) 5 A.a_Wheel_wider A.fd_Wheel_wider ["self", "one", "many"] (spOf ⟨K, cls⟩ T_Wheel_wider) := by
  refine T.F_Wheel_wider.okX sc_Wheel_wider (spOf_len (n := 3) (ar_Wheel_wider)) (fun cdv A outer s H vs Q E hr h => ⟨t_Wheel_wider ⟨K, cls⟩ (fun c d _ H => E c d H), ?_, spOf_run (N := ["self", "one", "many"]) (t := fun E => t_Wheel_wider ⟨K, cls⟩ (fun c d _ H => E c d H)) (fun ss ok er hT => by rw [ar_Wheel_wider ss ok er hT]; decide) (fun E ss ok er hT => w_Wheel_wider T.whlC _ ss ok er hT) vs H Q E h⟩)
  unfold t_Wheel_wider
  exact (pss_cons (ps_if (PW.pt (pw_or (pt_cmpR go_lt (pv 2) pe_int (nomark _)) (pw_or1 (pt_cmpR go_gt (pe_op go_mul (pe_fld (pv 0) (by rfl)) (pv 2)) (pe_glob (by rfl) T.g_WIDEST.choose_spec ⟨_, rfl⟩) (nomark _)))))
  (pss_one (ps_raise (by rfl) (takes_of rfl rfl rfl rfl) (pmk_own PySem.F.excBase_ValueError T.x_BadWheel T.g_BadWheel T.k_BadWheel (raises_own T.r_BadWheel T.rt_BadWheel) (by rfl))))
  pss_nil)
  (pss_one (ps_ret (pe_methSD (pe_makeSD T.M_Wheel G_Wheel_init (hr.mono (by decide)) (by rfl) T.g_Wheel T.b_Wheel_init .nil (fun σ => passAt (takes_of rfl rfl rfl rfl) σ) (pa_cons (pe_op go_mul (pe_fld (pv 0) (by rfl)) (pv 2)) pa_nil)) T.C_Wheel T.m_Wheel_lowest G_Wheel_lowest (hr.mono (by decide)) T.b_Wheel_lowest .nil (fun σ => passAt (takes_of rfl rfl rfl rfl) σ) (pa_cons (pe_callSD G_stretched (hr.mono (by decide)) (by rfl) T.g_stretched T.k_stretched T.b_stretched .nil (fun σ => passAt (takes_of rfl rfl rfl rfl) σ) (pa_cons (pv 1) (pa_cons (pv 2) pa_nil))) pa_nil)))))
theorem ok_Wheel_whole (T : Tx K mg cls A) : FnOk P w K mg base (L2.CX P w) 1 A.a_Wheel_whole A.fd_Wheel_whole ["self", "one"] (spOf ⟨K, cls⟩ T_Wheel_whole) := by
  refine T.F_Wheel_whole.okX sc_Wheel_whole (spOf_len (n := 2) (ar_Wheel_whole)) (fun cdv A outer s H vs Q E hr h => ⟨t_Wheel_whole ⟨K, cls⟩ (fun c d _ H => E c d H), ?_, spOf_run (N := ["self", "one", "number"]) (t := fun E => t_Wheel_whole ⟨K, cls⟩ (fun c d _ H => E c d H)) (fun ss ok er hT => by rw [ar_Wheel_whole ss ok er hT]; decide) (fun E ss ok er hT => w_Wheel_whole ⟨K, cls⟩ _ ss ok er hT) vs H Q E h⟩)
  unfold t_Wheel_whole
  exact (pss_cons (ps_if (pt_val (pe_callB (cr_any (by rfl)) (by rfl) T.b_any (by decide +kernel) (pa_cons (pe_lc (by rfl) sc_Wheel_whole.nd (pi_list (pe_slice sl_list (pv 1) (po_some pe_int) po_none)) (blkOk_by (own := [("number", 2)]) (by (show blkC ["self", "one", "number"] (defScope s_Wheel_whole) _ _ = true); decide +kernel)) (fun _ _ _ _ _ => (pg_name (i := 2) sc_Wheel_whole.nd (by rfl) (Or.inl rfl))) (fun _ _ _ _ _ => pts_nil) (fun _ _ _ _ _ => (pe_cmpR (go_ne (hu64 hr)) (pv 2) pe_int (nomark _)))) pa_nil)))
  (pss_one (ps_ret pe_non))
  pss_nil)
  (pss_one (ps_ret (pe_ix (go_ix (hu1 hr)) (pv 1) pe_int (fun _ _ => rfl)))))
theorem ok_l_whole (T : Tx K mg cls A) : FnOk P w K mg base (L2.CX P w) 1 A.a_l_whole A.fd_l_whole ["_law_found"] (spOf ⟨K, cls⟩ T_l_whole) := by
  refine T.F_l_whole.okX sc_l_whole (spOf_len (n := 1) (ar_l_whole)) (fun cdv A outer s H vs Q E hr h => ⟨t_l_whole ⟨K, cls⟩ (fun c d _ H => E c d H), ?_, spOf_run (N := ["_law_found"]) (t := fun E => t_l_whole ⟨K, cls⟩ (fun c d _ H => E c d H)) (fun ss ok er hT => by rw [ar_l_whole ss ok er hT]; decide) (fun E ss ok er hT => w_l_whole ⟨K, cls⟩ _ ss ok er hT) vs H Q E h⟩)
  unfold t_l_whole
  exact (pss_one (ps_ret (pe_and (pe_callB call_isi (by rfl) T.b_isinstance (by decide +kernel) (pa_cons (pv 0) (pa_cons (pe_bltn (v := .ty "int") (by rfl) T.b_int (by decide +kernel) rfl) pa_nil))) (pe_one (pe_not (pe_callB call_isi (by rfl) T.b_isinstance (by decide +kernel) (pa_cons (pv 0) (pa_cons (pe_bltn (v := .ty "bool") (by rfl) T.b_bool (by decide +kernel) rfl) pa_nil))))))))
theorem ok_l_at (T : Tx K mg cls A) : FnOk P w K mg base (L2.CX P w) 1 A.a_l_at A.fd_l_at ["_law_script", "_law_k"] (spOf ⟨K, cls⟩ T_l_at) := by
  refine T.F_l_at.okX sc_l_at (spOf_len (n := 2) (ar_l_at)) (fun cdv A outer s H vs Q E hr h => ⟨t_l_at ⟨K, cls⟩ (fun c d _ H => E c d H), ?_, spOf_run (N := ["_law_script", "_law_k"]) (t := fun E => t_l_at ⟨K, cls⟩ (fun c d _ H => E c d H)) (fun ss ok er hT => by rw [ar_l_at ss ok er hT]; decide) (fun E ss ok er hT => w_l_at ⟨K, cls⟩ _ ss ok er hT) vs H Q E h⟩)
  unfold t_l_at
  exact (pss_cons (ps_if (pt_cmpR go_lt (pv 1) (pe_callB gc_len (by rfl) T.b_len (by decide +kernel) (pa_cons (pv 0) pa_nil)) (nomark _))
  (pss_one (ps_ret (pe_ix (go_ix (hu1 hr)) (pv 0) (pv 1) (fun _ _ => rfl))))
  pss_nil)
  (pss_one (ps_ret pe_int)))
theorem ok_l_number (T : Tx K mg cls A) : FnOk P w K mg base (L2.CX P w) 1 A.a_l_number A.fd_l_number ["_law_script", "_law_at_here"] (spOf ⟨K, cls⟩ T_l_number) := by
  refine T.F_l_number.okX sc_l_number (spOf_len (n := 2) (ar_l_number)) (fun cdv A outer s H vs Q E hr h => ⟨t_l_number ⟨K, cls⟩ (fun c d _ H => E c d H), ?_, spOf_run (N := ["_law_script", "_law_at_here", "_law_cell", "_law_number_here"]) (t := fun E => t_l_number ⟨K, cls⟩ (fun c d _ H => E c d H)) (fun ss ok er hT => by rw [ar_l_number ss ok er hT]; decide) (fun E ss ok er hT => w_l_number ⟨K, cls⟩ _ ss ok er hT) vs H Q E h⟩)
  unfold t_l_number
  exact (pss_cons (ps_if (pt_cmpR (go_eq (hu64 hr)) (pe_callB gc_len (by rfl) T.b_len (by decide +kernel) (pa_cons (pv 0) pa_nil)) pe_int (nomark _))
  (pss_one (ps_ret pe_int))
  pss_nil)
  (pss_cons (ps_set (i := 2) sc_l_number.nd (by rfl) (Or.inl rfl) (pe_ix (go_ix (hu1 hr)) (pv 0) (pe_op go_mod (pv 1) (pe_callB gc_len (by rfl) T.b_len (by decide +kernel) (pa_cons (pv 0) pa_nil))) (fun _ _ => rfl)))
  (pss_cons (ps_set (i := 3) sc_l_number.nd (by rfl) (Or.inl rfl) (pe_op go_mod (pe_op go_mul (pe_op go_div (pv 2) pe_int) (pe_op go_add pe_int (pe_op go_mul (pv 1) (pv 1)))) (pe_op go_pow pe_int pe_int)))
  (pss_cons (ps_if (pt_cmpR (go_eq (hu64 hr)) (pe_op go_mod (pe_op go_add (pv 2) (pv 1)) pe_int) pe_int (nomark _))
  (pss_one (ps_set (i := 3) sc_l_number.nd (by rfl) (Or.inl rfl) (pe_op go_mod (pv 3) pe_int)))
  pss_nil)
  (pss_cons (ps_if (pt_cmpR (go_eq (hu64 hr)) (pe_op go_mod (pe_op go_add (pv 2) (pv 1)) pe_int) pe_int (nomark _))
  (pss_one (ps_set (i := 3) sc_l_number.nd (by rfl) (Or.inl rfl) pe_int))
  pss_nil)
  (pss_cons (ps_if (pt_cmpR (go_eq (hu64 hr)) (pe_op go_mod (pv 2) pe_int) pe_int (nomark _))
  (pss_one (ps_ret (pe_op go_sub pe_int (pv 3))))
  pss_nil)
  (pss_one (ps_ret (pv 3)))))))))
theorem ok_l_shared (T : Tx K mg cls A) : FnOk P w K mg base (L2.CX P w) 1 A.a_l_shared A.fd_l_shared ["_law_one", "_law_other"] (spOf ⟨K, cls⟩ T_l_shared) := by
  refine T.F_l_shared.okX sc_l_shared (spOf_len (n := 2) (ar_l_shared)) (fun cdv A outer s H vs Q E hr h => ⟨t_l_shared ⟨K, cls⟩ (fun c d _ H => E c d H), ?_, spOf_run (N := ["_law_one", "_law_other"]) (t := fun E => t_l_shared ⟨K, cls⟩ (fun c d _ H => E c d H)) (fun ss ok er hT => by rw [ar_l_shared ss ok er hT]; decide) (fun E ss ok er hT => w_l_shared ⟨K, cls⟩ _ ss ok er hT) vs H Q E h⟩)
  unfold t_l_shared
  exact (pss_cons (ps_while (passes_of rfl) (pt_cmpR go_gt (pv 1) pe_int (nomark _))
  (pss_one (ps_par (i := 0) (j := 1) (by rfl) sc_l_shared.nd (by rfl) (by rfl) (by decide) (by rfl) (by rfl) (pa_cons (pv 1) (pa_cons (pe_op go_mod (pv 0) (pv 1)) pa_nil)) (by rfl))))
  (pss_one (ps_ret (pv 0))))
theorem ok_l_moves (T : Tx K mg cls A) (G_l_shared : FnOk P w K mg base (L2.CX P w) 1 A.a_l_shared A.fd_l_shared ["_law_one", "_law_other"] (spOf ⟨K, cls⟩ T_l_shared)) : FnOk P w K mg base (L2.CX P w) 2 A.a_l_moves A.fd_l_moves ["_law_many"] (spOf ⟨K, cls⟩ T_l_moves) := by
  refine T.F_l_moves.okX sc_l_moves (spOf_len (n := 1) (ar_l_moves)) (fun cdv A outer s H vs Q E hr h => ⟨t_l_moves ⟨K, cls⟩ (fun c d _ H => E c d H), ?_, spOf_run (N := ["_law_many", "_law_j"]) (t := fun E => t_l_moves ⟨K, cls⟩ (fun c d _ H => E c d H)) (fun ss ok er hT => by rw [ar_l_moves ss ok er hT]; decide) (fun E ss ok er hT => w_l_moves ⟨K, cls⟩ _ ss ok er hT) vs H Q E h⟩)
  unfold t_l_moves
  exact (pss_one (ps_ret (pe_lc (by rfl) sc_l_moves.nd (pi_range2 (by rfl) T.b_range (pa_cons pe_int (pa_cons (pe_op go_add (pv 0) pe_int) pa_nil))) (blkOk_by (own := [("_law_j", 1)]) (by (show blkC ["_law_many", "_law_j"] (defScope s_l_moves) _ _ = true); decide +kernel)) (fun _ _ _ _ _ => (pg_name (i := 1) sc_l_moves.nd (by rfl) (Or.inl rfl))) (fun _ _ _ _ _ => (pts_one (pt_cmpR (go_eq (hu64 hr)) (pe_call G_l_shared (hr.mono (by decide)) (by rfl) T.g_l_shared T.k_l_shared T.b_l_shared .nil passL (pa_cons (pv 0) (pa_cons (pv 1) pa_nil))) pe_int (nomark _)))) (fun _ _ _ _ _ => (pv 1)))))
theorem ok_l_all_moves (T : Tx K mg cls A) (G_Wheel_plus : FnOk P w K mg base (L2.CX P w) 1 A.a_Wheel_plus A.fd_Wheel_plus ["self", "one", "other"] (spOf ⟨K, cls⟩ T_Wheel_plus)) (G_Wheel_times : FnOk P w K mg base (L2.CX P w) 3 A.a_Wheel_times A.fd_Wheel_times ["self", "one", "other"] (spOf ⟨K, cls⟩ T_Wheel_times)) (G_Wheel_moved : FnOk P w K mg base (L2.CX P w) 4 A.a_Wheel_moved A.fd_Wheel_moved ["self", "one", "j"] (spOf ⟨K, cls⟩ T_Wheel_moved)) (G_Wheel_whole : FnOk P w K mg base (L2.CX P w) 1 A.a_Wheel_whole A.fd_Wheel_whole ["self", "one"] (spOf ⟨K, cls⟩ T_Wheel_whole)) (G_l_moves : FnOk P w K mg base (L2.CX P w) 2 A.a_l_moves A.fd_l_moves ["_law_many"] (spOf ⟨K, cls⟩ T_l_moves)) : FnOk P w K mg base (L2.CX P w) 5 A.a_l_all_moves A.fd_l_all_moves ["_law_wheel", "_law_one"] (spOf ⟨K, cls⟩ T_l_all_moves) := by
  refine T.F_l_all_moves.okX sc_l_all_moves (spOf_len (n := 2) (ar_l_all_moves)) (fun cdv A outer s H vs Q E hr h => ⟨t_l_all_moves ⟨K, cls⟩ (fun c d _ H => E c d H), ?_, spOf_run (N := ["_law_wheel", "_law_one", "_law_total", "_law_made", "_law_j", "_law_found"]) (t := fun E => t_l_all_moves ⟨K, cls⟩ (fun c d _ H => E c d H)) (fun ss ok er hT => by rw [ar_l_all_moves ss ok er hT]; decide) (fun E ss ok er hT => w_l_all_moves ⟨K, cls⟩ _ ss ok er hT) vs H Q E h⟩)
  unfold t_l_all_moves
  exact (pss_cons (ps_set (i := 2) sc_l_all_moves.nd (by rfl) (Or.inl rfl) (pe_op go_mul (pe_lst (pa_cons pe_int pa_nil)) (pe_callB gc_len (by rfl) T.b_len (by decide +kernel) (pa_cons (pv 1) pa_nil))))
  (pss_cons (ps_set (i := 3) sc_l_all_moves.nd (by rfl) (Or.inl rfl) (pe_op go_add (pe_lst (pa_cons pe_int pa_nil)) (pe_op go_mul (pe_lst (pa_cons pe_int pa_nil)) (pe_op go_sub (pe_callB gc_len (by rfl) T.b_len (by decide +kernel) (pa_cons (pv 1) pa_nil)) pe_int))))
  (pss_cons (ps_for (passes_of rfl) (by rfl) (pi_list (pe_callSD G_l_moves (hr.mono (by decide)) (by rfl) T.g_l_moves T.k_l_moves T.b_l_moves .nil (fun σ => passAt (takes_of rfl rfl rfl rfl) σ) (pa_cons (pe_fld (pv 0) (by rfl)) pa_nil))) (pg_name (i := 4) sc_l_all_moves.nd (by rfl) (Or.inl rfl))
  (pss_cons (ps_set (i := 5) sc_l_all_moves.nd (by rfl) (Or.inl rfl) (pe_methSD (pv 0) T.C_Wheel T.m_Wheel_moved G_Wheel_moved (hr.mono (by decide)) T.b_Wheel_moved .nil (fun σ => passAt (takes_of rfl rfl rfl rfl) σ) (pa_cons (pv 1) (pa_cons (pv 4) pa_nil))))
  (pss_cons (ps_set (i := 2) sc_l_all_moves.nd (by rfl) (Or.inl rfl) (pe_methSD (pv 0) T.C_Wheel T.m_Wheel_plus G_Wheel_plus (hr.mono (by decide)) T.b_Wheel_plus .nil (fun σ => passAt (takes_of rfl rfl rfl rfl) σ) (pa_cons (pv 2) (pa_cons (pv 5) pa_nil))))
  (pss_one (ps_set (i := 3) sc_l_all_moves.nd (by rfl) (Or.inl rfl) (pe_methSD (pv 0) T.C_Wheel T.m_Wheel_times G_Wheel_times (hr.mono (by decide)) T.b_Wheel_times .nil (fun σ => passAt (takes_of rfl rfl rfl rfl) σ) (pa_cons (pv 3) (pa_cons (pv 5) pa_nil))))))))
  (pss_one (ps_ret (pe_tup (pa_cons (pe_methSD (pv 0) T.C_Wheel T.m_Wheel_whole G_Wheel_whole (hr.mono (by decide)) T.b_Wheel_whole .nil (fun σ => passAt (takes_of rfl rfl rfl rfl) σ) (pa_cons (pv 2) pa_nil)) (pa_cons (pe_methSD (pv 0) T.C_Wheel T.m_Wheel_whole G_Wheel_whole (hr.mono (by decide)) T.b_Wheel_whole .nil (fun σ => passAt (takes_of rfl rfl rfl rfl) σ) (pa_cons (pv 3) pa_nil)) pa_nil))))))))
theorem ok_l_kept (T : Tx K mg cls A) (G_Wheel_plus : FnOk P w K mg base (L2.CX P w) 1 A.a_Wheel_plus A.fd_Wheel_plus ["self", "one", "other"] (spOf ⟨K, cls⟩ T_Wheel_plus)) (G_Wheel_times : FnOk P w K mg base (L2.CX P w) 3 A.a_Wheel_times A.fd_Wheel_times ["self", "one", "other"] (spOf ⟨K, cls⟩ T_Wheel_times)) (G_Wheel_backed : FnOk P w K mg base (L2.CX P w) 4 A.a_Wheel_backed A.fd_Wheel_backed ["self", "one"] (spOf ⟨K, cls⟩ T_Wheel_backed)) (G_Wheel_moved : FnOk P w K mg base (L2.CX P w) 4 A.a_Wheel_moved A.fd_Wheel_moved ["self", "one", "j"] (spOf ⟨K, cls⟩ T_Wheel_moved)) : FnOk P w K mg base (L2.CX P w) 5 A.a_l_kept A.fd_l_kept ["_law_wheel", "_law_one", "_law_other", "_law_i", "_law_j"] (spOf ⟨K, cls⟩ T_l_kept) := by
  refine T.F_l_kept.okX sc_l_kept (spOf_len (n := 5) (ar_l_kept)) (fun cdv A outer s H vs Q E hr h => ⟨t_l_kept ⟨K, cls⟩ (fun c d _ H => E c d H), ?_, spOf_run (N := ["_law_wheel", "_law_one", "_law_other", "_law_i", "_law_j", "_law_both", "_law_far"]) (t := fun E => t_l_kept ⟨K, cls⟩ (fun c d _ H => E c d H)) (fun ss ok er hT => by rw [ar_l_kept ss ok er hT]; decide) (fun E ss ok er hT => w_l_kept ⟨K, cls⟩ _ ss ok er hT) vs H Q E h⟩)
  unfold t_l_kept
  exact (pss_cons (ps_set (i := 5) sc_l_kept.nd (by rfl) (Or.inl rfl) (pe_methSD (pv 0) T.C_Wheel T.m_Wheel_times G_Wheel_times (hr.mono (by decide)) T.b_Wheel_times .nil (fun σ => passAt (takes_of rfl rfl rfl rfl) σ) (pa_cons (pv 1) (pa_cons (pv 2) pa_nil))))
  (pss_cons (ps_if (pt_cmpR (go_ne (hu64 hr)) (pe_methSD (pv 0) T.C_Wheel T.m_Wheel_moved G_Wheel_moved (hr.mono (by decide)) T.b_Wheel_moved .nil (fun σ => passAt (takes_of rfl rfl rfl rfl) σ) (pa_cons (pv 5) (pa_cons (pv 3) pa_nil))) (pe_methSD (pv 0) T.C_Wheel T.m_Wheel_times G_Wheel_times (hr.mono (by decide)) T.b_Wheel_times .nil (fun σ => passAt (takes_of rfl rfl rfl rfl) σ) (pa_cons (pe_methSD (pv 0) T.C_Wheel T.m_Wheel_moved G_Wheel_moved (hr.mono (by decide)) T.b_Wheel_moved .nil (fun σ => passAt (takes_of rfl rfl rfl rfl) σ) (pa_cons (pv 1) (pa_cons (pv 3) pa_nil))) (pa_cons (pe_methSD (pv 0) T.C_Wheel T.m_Wheel_moved G_Wheel_moved (hr.mono (by decide)) T.b_Wheel_moved .nil (fun σ => passAt (takes_of rfl rfl rfl rfl) σ) (pa_cons (pv 2) (pa_cons (pv 3) pa_nil))) pa_nil))) (nomark _))
  (pss_one (ps_ret pe_bl))
  pss_nil)
  (pss_cons (ps_set (i := 6) sc_l_kept.nd (by rfl) (Or.inl rfl) (pe_methSD (pv 0) T.C_Wheel T.m_Wheel_plus G_Wheel_plus (hr.mono (by decide)) T.b_Wheel_plus .nil (fun σ => passAt (takes_of rfl rfl rfl rfl) σ) (pa_cons (pe_methSD (pv 0) T.C_Wheel T.m_Wheel_moved G_Wheel_moved (hr.mono (by decide)) T.b_Wheel_moved .nil (fun σ => passAt (takes_of rfl rfl rfl rfl) σ) (pa_cons (pv 1) (pa_cons (pv 3) pa_nil))) (pa_cons (pe_methSD (pv 0) T.C_Wheel T.m_Wheel_moved G_Wheel_moved (hr.mono (by decide)) T.b_Wheel_moved .nil (fun σ => passAt (takes_of rfl rfl rfl rfl) σ) (pa_cons (pv 2) (pa_cons (pv 3) pa_nil))) pa_nil))))
  (pss_cons (ps_if (pt_cmpR (go_ne (hu64 hr)) (pe_methSD (pv 0) T.C_Wheel T.m_Wheel_moved G_Wheel_moved (hr.mono (by decide)) T.b_Wheel_moved .nil (fun σ => passAt (takes_of rfl rfl rfl rfl) σ) (pa_cons (pe_methSD (pv 0) T.C_Wheel T.m_Wheel_plus G_Wheel_plus (hr.mono (by decide)) T.b_Wheel_plus .nil (fun σ => passAt (takes_of rfl rfl rfl rfl) σ) (pa_cons (pv 1) (pa_cons (pv 2) pa_nil))) (pa_cons (pv 3) pa_nil))) (pv 6) (nomark _))
  (pss_one (ps_ret pe_bl))
  pss_nil)
  (pss_cons (ps_if (PW.pt (pw_or (pt_cmpR (go_ne (hu64 hr)) (pe_methSD (pv 0) T.C_Wheel T.m_Wheel_moved G_Wheel_moved (hr.mono (by decide)) T.b_Wheel_moved .nil (fun σ => passAt (takes_of rfl rfl rfl rfl) σ) (pa_cons (pv 1) (pa_cons pe_int pa_nil))) (pv 1) (nomark _)) (pw_or1 (pt_cmpR (go_ne (hu64 hr)) (pe_methSD (pv 0) T.C_Wheel T.m_Wheel_moved G_Wheel_moved (hr.mono (by decide)) T.b_Wheel_moved .nil (fun σ => passAt (takes_of rfl rfl rfl rfl) σ) (pa_cons (pv 1) (pa_cons (pe_op go_sub pe_int pe_int) pa_nil))) (pe_methSD (pv 0) T.C_Wheel T.m_Wheel_backed G_Wheel_backed (hr.mono (by decide)) T.b_Wheel_backed .nil (fun σ => passAt (takes_of rfl rfl rfl rfl) σ) (pa_cons (pv 1) pa_nil)) (nomark _)))))
  (pss_one (ps_ret pe_bl))
  pss_nil)
  (pss_one (ps_ret (pe_cmpR (go_eq (hu64 hr)) (pe_methSD (pv 0) T.C_Wheel T.m_Wheel_moved G_Wheel_moved (hr.mono (by decide)) T.b_Wheel_moved .nil (fun σ => passAt (takes_of rfl rfl rfl rfl) σ) (pa_cons (pe_methSD (pv 0) T.C_Wheel T.m_Wheel_moved G_Wheel_moved (hr.mono (by decide)) T.b_Wheel_moved .nil (fun σ => passAt (takes_of rfl rfl rfl rfl) σ) (pa_cons (pv 1) (pa_cons (pv 3) pa_nil))) (pa_cons (pv 4) pa_nil))) (pe_methSD (pv 0) T.C_Wheel T.m_Wheel_moved G_Wheel_moved (hr.mono (by decide)) T.b_Wheel_moved .nil (fun σ => passAt (takes_of rfl rfl rfl rfl) σ) (pa_cons (pv 1) (pa_cons (pe_op go_mul (pv 3) (pv 4)) pa_nil))) (nomark _)))))))))
theorem ok_l_widened (T : Tx K mg cls A) (G_Wheel_init : FnOk P w K mg base (L2.CX P w) 3 A.a_Wheel_init A.fd_Wheel_init ["self", "many"] (spI_Wheel ⟨K, cls⟩)) (G_Wheel_plus : FnOk P w K mg base (L2.CX P w) 1 A.a_Wheel_plus A.fd_Wheel_plus ["self", "one", "other"] (spOf ⟨K, cls⟩ T_Wheel_plus)) (G_Wheel_times : FnOk P w K mg base (L2.CX P w) 3 A.a_Wheel_times A.fd_Wheel_times ["self", "one", "other"] (spOf ⟨K, cls⟩ T_Wheel_times)) (G_Wheel_wider : FnOk P w K mg base (L2.CX P w) 5 A.a_Wheel_wider A.fd_Wheel_wider ["self", "one", "many"] (spOf ⟨K, cls⟩ T_Wheel_wider)) : FnOk P w K mg base (L2.CX P w) 6 A.a_l_widened A.fd_l_widened ["_law_wheel", "_law_one", "_law_other", "_law_by"] (spOf ⟨K, cls⟩ T_l_widened) := by
  refine T.F_l_widened.okX sc_l_widened (spOf_len (n := 4) (ar_l_widened)) (fun cdv A outer s H vs Q E hr h => ⟨t_l_widened ⟨K, cls⟩ (fun c d _ H => E c d H), ?_, spOf_run (N := ["_law_wheel", "_law_one", "_law_other", "_law_by", "_law_wide", "_law_left", "_law_right"]) (t := fun E => t_l_widened ⟨K, cls⟩ (fun c d _ H => E c d H)) (fun ss ok er hT => by rw [ar_l_widened ss ok er hT]; decide) (fun E ss ok er hT => w_l_widened T.whlC _ ss ok er hT) vs H Q E h⟩)
  unfold t_l_widened
  exact (pss_cons (ps_set (i := 4) sc_l_widened.nd (by rfl) (Or.inl rfl) (pe_makeSD T.M_Wheel G_Wheel_init (hr.mono (by decide)) (by rfl) T.g_Wheel T.b_Wheel_init .nil (fun σ => passAt (takes_of rfl rfl rfl rfl) σ) (pa_cons (pe_op go_mul (pe_fld (pv 0) (by rfl)) (pv 3)) pa_nil)))
  (pss_cons (ps_set (i := 5) sc_l_widened.nd (by rfl) (Or.inl rfl) (pe_methSD (pv 0) T.C_Wheel T.m_Wheel_wider G_Wheel_wider (hr.mono (by decide)) T.b_Wheel_wider .nil (fun σ => passAt (takes_of rfl rfl rfl rfl) σ) (pa_cons (pv 1) (pa_cons (pv 3) pa_nil))))
  (pss_cons (ps_set (i := 6) sc_l_widened.nd (by rfl) (Or.inl rfl) (pe_methSD (pv 0) T.C_Wheel T.m_Wheel_wider G_Wheel_wider (hr.mono (by decide)) T.b_Wheel_wider .nil (fun σ => passAt (takes_of rfl rfl rfl rfl) σ) (pa_cons (pv 2) (pa_cons (pv 3) pa_nil))))
  (pss_cons (ps_if (pt_cmpR (go_ne (hu64 hr)) (pe_methSD (pv 0) T.C_Wheel T.m_Wheel_wider G_Wheel_wider (hr.mono (by decide)) T.b_Wheel_wider .nil (fun σ => passAt (takes_of rfl rfl rfl rfl) σ) (pa_cons (pe_methSD (pv 0) T.C_Wheel T.m_Wheel_times G_Wheel_times (hr.mono (by decide)) T.b_Wheel_times .nil (fun σ => passAt (takes_of rfl rfl rfl rfl) σ) (pa_cons (pv 1) (pa_cons (pv 2) pa_nil))) (pa_cons (pv 3) pa_nil))) (pe_methSD (pv 4) T.C_Wheel T.m_Wheel_times G_Wheel_times (hr.mono (by decide)) T.b_Wheel_times .nil (fun σ => passAt (takes_of rfl rfl rfl rfl) σ) (pa_cons (pv 5) (pa_cons (pv 6) pa_nil))) (nomark _))
  (pss_one (ps_ret pe_bl))
  pss_nil)
  (pss_one (ps_ret (pe_cmpR (go_eq (hu64 hr)) (pe_methSD (pv 0) T.C_Wheel T.m_Wheel_wider G_Wheel_wider (hr.mono (by decide)) T.b_Wheel_wider .nil (fun σ => passAt (takes_of rfl rfl rfl rfl) σ) (pa_cons (pe_methSD (pv 0) T.C_Wheel T.m_Wheel_plus G_Wheel_plus (hr.mono (by decide)) T.b_Wheel_plus .nil (fun σ => passAt (takes_of rfl rfl rfl rfl) σ) (pa_cons (pv 1) (pa_cons (pv 2) pa_nil))) (pa_cons (pv 3) pa_nil))) (pe_methSD (pv 4) T.C_Wheel T.m_Wheel_plus G_Wheel_plus (hr.mono (by decide)) T.b_Wheel_plus .nil (fun σ => passAt (takes_of rfl rfl rfl rfl) σ) (pa_cons (pv 5) (pa_cons (pv 6) pa_nil))) (nomark _))))))))
theorem ok_law (T : Tx K mg cls A) (G_Wheel_init : FnOk P w K mg base (L2.CX P w) 3 A.a_Wheel_init A.fd_Wheel_init ["self", "many"] (spI_Wheel ⟨K, cls⟩)) (G_Wheel_times : FnOk P w K mg base (L2.CX P w) 3 A.a_Wheel_times A.fd_Wheel_times ["self", "one", "other"] (spOf ⟨K, cls⟩ T_Wheel_times)) (G_l_whole : FnOk P w K mg base (L2.CX P w) 1 A.a_l_whole A.fd_l_whole ["_law_found"] (spOf ⟨K, cls⟩ T_l_whole)) (G_l_at : FnOk P w K mg base (L2.CX P w) 1 A.a_l_at A.fd_l_at ["_law_script", "_law_k"] (spOf ⟨K, cls⟩ T_l_at)) (G_l_number : FnOk P w K mg base (L2.CX P w) 1 A.a_l_number A.fd_l_number ["_law_script", "_law_at_here"] (spOf ⟨K, cls⟩ T_l_number)) (G_l_moves : FnOk P w K mg base (L2.CX P w) 2 A.a_l_moves A.fd_l_moves ["_law_many"] (spOf ⟨K, cls⟩ T_l_moves)) (G_l_all_moves : FnOk P w K mg base (L2.CX P w) 5 A.a_l_all_moves A.fd_l_all_moves ["_law_wheel", "_law_one"] (spOf ⟨K, cls⟩ T_l_all_moves)) (G_l_kept : FnOk P w K mg base (L2.CX P w) 5 A.a_l_kept A.fd_l_kept ["_law_wheel", "_law_one", "_law_other", "_law_i", "_law_j"] (spOf ⟨K, cls⟩ T_l_kept)) (G_l_widened : FnOk P w K mg base (L2.CX P w) 6 A.a_l_widened A.fd_l_widened ["_law_wheel", "_law_one", "_law_other", "_law_by"] (spOf ⟨K, cls⟩ T_l_widened)) : FnOk P w K mg base (L2.CX P w) 7 A.a_law A.fd_law ["_law_script"] (spOf ⟨K, cls⟩ T_law) := by
  refine T.F_law.okX sc_law (spOf_len (n := 1) (ar_law)) (fun cdv A outer s H vs Q E hr h => ⟨t_law ⟨K, cls⟩ (fun c d _ H => E c d H), ?_, spOf_run (N := ["_law_script", "_law_cell", "_law_some", "_law_many", "_law_wheel", "_law_size", "_law_one", "_law_other", "_law_i", "_law_j", "_law_total", "_law_norm", "_law_right", "_law_k"]) (t := fun E => t_law ⟨K, cls⟩ (fun c d _ H => E c d H)) (fun ss ok er hT => by rw [ar_law ss ok er hT]; decide) (fun E ss ok er hT => w_law T.whlC _ ss ok er hT) vs H Q E h⟩)
  unfold t_law
  exact (pss_cons (ps_set (i := 1) sc_law.nd (by rfl) (Or.inl rfl) (pe_callSD G_l_at (hr.mono (by decide)) (by rfl) T.g_l_at T.k_l_at T.b_l_at .nil (fun σ => passAt (takes_of rfl rfl rfl rfl) σ) (pa_cons (pv 0) (pa_cons pe_int pa_nil))))
  (pss_cons (ps_set (i := 2) sc_law.nd (by rfl) (Or.inl rfl) (pe_lst (pa_cons pe_int (pa_cons pe_int (pa_cons pe_int (pa_cons pe_int (pa_cons pe_int (pa_cons pe_int (pa_cons pe_int (pa_cons pe_int (pa_cons pe_int (pa_cons pe_int (pa_cons pe_int (pa_cons pe_int (pa_cons pe_int (pa_cons pe_int (pa_cons pe_int (pa_cons pe_int (pa_cons pe_int (pa_cons pe_int pa_nil))))))))))))))))))))
  (pss_cons (ps_set (i := 3) sc_law.nd (by rfl) (Or.inl rfl) (pe_ix (go_ix (hu1 hr)) (pv 2) (pe_op go_mod (pv 1) pe_int) (fun _ _ => rfl)))
  (pss_cons (ps_set (i := 4) sc_law.nd (by rfl) (Or.inl rfl) (pe_makeSD T.M_Wheel G_Wheel_init (hr.mono (by decide)) (by rfl) T.g_Wheel T.b_Wheel_init .nil (fun σ => passAt (takes_of rfl rfl rfl rfl) σ) (pa_cons (pv 3) pa_nil)))
  (pss_cons (ps_set (i := 5) sc_law.nd (by rfl) (Or.inr rfl) (pe_fld (pv 4) (by rfl)))
  (pss_cons (ps_if (pt_cmpR (go_ne (hu64 hr)) (pv 5) (pe_callB gc_len (by rfl) T.b_len (by decide +kernel) (pa_cons (pe_callSD G_l_moves (hr.mono (by decide)) (by rfl) T.g_l_moves T.k_l_moves T.b_l_moves .nil (fun σ => passAt (takes_of rfl rfl rfl rfl) σ) (pa_cons (pv 3) pa_nil)) pa_nil)) (nomark _))
  (pss_one (ps_ret pe_bl))
  pss_nil)
  (pss_cons (ps_setLc (i := 6) (by rfl) sc_law.nd (by rfl) (by rfl) (sw_true rfl rfl rfl (by decide +kernel)) (pi_range1 (by rfl) T.b_range (pa_cons (pv 5) pa_nil)) (blkOk_by (own := [("_law_k", 13)]) (by (show blkC ["_law_script", "_law_cell", "_law_some", "_law_many", "_law_wheel", "_law_size", "_law_one", "_law_other", "_law_i", "_law_j", "_law_total", "_law_norm", "_law_right", "_law_k"] (defScope s_law) _ _ = true); decide +kernel)) (fun _ _ _ _ _ => (pg_name (i := 13) sc_law.nd (by rfl) (Or.inl rfl))) (fun _ _ _ _ _ => pts_nil) (fun _ _ _ _ _ => (pe_call G_l_number (hr.mono (by decide)) (by rfl) T.g_l_number T.k_l_number T.b_l_number .nil passL (pa_cons (pe_slice sl_list (pv 0) (po_some pe_int) (po_some pe_int)) (pa_cons (pv 13) pa_nil)))))
  (pss_cons (ps_setLc (i := 7) (by rfl) sc_law.nd (by rfl) (by rfl) (sw_true rfl rfl rfl (by decide +kernel)) (pi_range1 (by rfl) T.b_range (pa_cons (pv 5) pa_nil)) (blkOk_by (own := [("_law_k", 13)]) (by (show blkC ["_law_script", "_law_cell", "_law_some", "_law_many", "_law_wheel", "_law_size", "_law_one", "_law_other", "_law_i", "_law_j", "_law_total", "_law_norm", "_law_right", "_law_k"] (defScope s_law) _ _ = true); decide +kernel)) (fun _ _ _ _ _ => (pg_name (i := 13) sc_law.nd (by rfl) (Or.inl rfl))) (fun _ _ _ _ _ => pts_nil) (fun _ _ _ _ _ => (pe_call G_l_number (hr.mono (by decide)) (by rfl) T.g_l_number T.k_l_number T.b_l_number .nil passL (pa_cons (pe_slice sl_list (pv 0) (po_some pe_int) (po_some pe_int)) (pa_cons (pe_op go_add (pv 5) (pe_op go_mul pe_int (pv 13))) pa_nil)))))
  (pss_cons (ps_set (i := 8) sc_law.nd (by rfl) (Or.inl rfl) (pe_ix (go_ix (hu1 hr)) (pe_callSD G_l_moves (hr.mono (by decide)) (by rfl) T.g_l_moves T.k_l_moves T.b_l_moves .nil (fun σ => passAt (takes_of rfl rfl rfl rfl) σ) (pa_cons (pv 3) pa_nil)) (pe_op go_mod (pe_op go_div (pv 1) pe_int) (pv 5)) (fun _ _ => rfl)))
  (pss_cons (ps_set (i := 9) sc_law.nd (by rfl) (Or.inl rfl) (pe_op go_sub pe_int (pe_ix (go_ix (hu1 hr)) (pe_callSD G_l_moves (hr.mono (by decide)) (by rfl) T.g_l_moves T.k_l_moves T.b_l_moves .nil (fun σ => passAt (takes_of rfl rfl rfl rfl) σ) (pa_cons (pv 3) pa_nil)) (pe_op go_mod (pe_op go_div (pv 1) pe_int) (pv 5)) (fun _ _ => rfl))))
  (pss_cons (ps_if (pt_not (pt_val (pe_callSD G_l_kept (hr.mono (by decide)) (by rfl) T.g_l_kept T.k_l_kept T.b_l_kept .nil (fun σ => passAt (takes_of rfl rfl rfl rfl) σ) (pa_cons (pv 4) (pa_cons (pv 6) (pa_cons (pv 7) (pa_cons (pv 8) (pa_cons (pv 9) pa_nil))))))))
  (pss_one (ps_ret pe_bl))
  pss_nil)
  (pss_cons (ps_if (pt_not (pt_val (pe_callSD G_l_widened (hr.mono (by decide)) (by rfl) T.g_l_widened T.k_l_widened T.b_l_widened .nil (fun σ => passAt (takes_of rfl rfl rfl rfl) σ) (pa_cons (pv 4) (pa_cons (pv 6) (pa_cons (pv 7) (pa_cons (pe_op go_add pe_int (pe_op go_mod (pe_op go_div (pv 1) pe_int) (pe_op go_div pe_int (pv 3)))) pa_nil)))))))
  (pss_one (ps_ret pe_bl))
  pss_nil)
  (pss_cons (ps_asg (pe_callSD G_l_all_moves (hr.mono (by decide)) (by rfl) T.g_l_all_moves T.k_l_all_moves T.b_l_all_moves .nil (fun σ => passAt (takes_of rfl rfl rfl rfl) σ) (pa_cons (pv 4) (pa_cons (pv 6) pa_nil))) (pg_tup (by rfl) (pgs_cons (pg_name (i := 10) sc_law.nd (by rfl) (Or.inl rfl)) (pgs_cons (pg_name (i := 11) sc_law.nd (by rfl) (Or.inl rfl)) pgs_nil))))
  (pss_cons (ps_if (PW.pt (pw_or (pt_not (pt_val (pe_callSD G_l_whole (hr.mono (by decide)) (by rfl) T.g_l_whole T.k_l_whole T.b_l_whole .nil (fun σ => passAt (takes_of rfl rfl rfl rfl) σ) (pa_cons (pv 10) pa_nil)))) (pw_or (pt_not (pt_val (pe_callSD G_l_whole (hr.mono (by decide)) (by rfl) T.g_l_whole T.k_l_whole T.b_l_whole .nil (fun σ => passAt (takes_of rfl rfl rfl rfl) σ) (pa_cons (pv 11) pa_nil)))) (pw_or1 (pt_cmpR (go_ne (hu64 hr)) (pe_cmpR (go_eq (hu64 hr)) (pv 11) pe_int (nomark _)) (pe_cmpR (go_eq (hu64 hr)) (pv 6) (pe_op go_mul (pe_lst (pa_cons pe_int pa_nil)) (pv 5)) (nomark _)) (nomark _))))))
  (pss_one (ps_ret pe_bl))
  pss_nil)
  (pss_cons (ps_set (i := 12) sc_law.nd (by rfl) (Or.inl rfl) (pe_ix (go_ix (hu1 hr)) (pe_callSD G_l_all_moves (hr.mono (by decide)) (by rfl) T.g_l_all_moves T.k_l_all_moves T.b_l_all_moves .nil (fun σ => passAt (takes_of rfl rfl rfl rfl) σ) (pa_cons (pv 4) (pa_cons (pv 7) pa_nil))) pe_int (fun _ _ => rfl)))
  (pss_one (ps_ret (pe_and (pe_callSD G_l_whole (hr.mono (by decide)) (by rfl) T.g_l_whole T.k_l_whole T.b_l_whole .nil (fun σ => passAt (takes_of rfl rfl rfl rfl) σ) (pa_cons (pv 12) pa_nil)) (pe_one (pe_cmpR (go_eq (hu64 hr)) (pe_ix (go_ix (hu1 hr)) (pe_callSD G_l_all_moves (hr.mono (by decide)) (by rfl) T.g_l_all_moves T.k_l_all_moves T.b_l_all_moves .nil (fun σ => passAt (takes_of rfl rfl rfl rfl) σ) (pa_cons (pv 4) (pa_cons (pe_methSD (pv 4) T.C_Wheel T.m_Wheel_times G_Wheel_times (hr.mono (by decide)) T.b_Wheel_times .nil (fun σ => passAt (takes_of rfl rfl rfl rfl) σ) (pa_cons (pv 6) (pa_cons (pv 7) pa_nil))) pa_nil))) pe_int (fun _ _ => rfl)) (pe_op go_mul (pv 11) (pv 12)) (nomark _)))))))))))))))))))))
end
set_option maxHeartbeats 0 in
theorem all_mk {l : PySem.W.OpenLaw} {w : World} {K : PySem.W.Frag} {h : Heap} {mg : Str → Option Value} {fa a_shared a_split a_stretched a_circle a_Wheel_init a_Wheel_lowest a_Wheel_plus a_Wheel_times a_Wheel_exchanged a_Wheel_backed a_Wheel_moved a_Wheel_wider a_Wheel_whole a_l_whole a_l_at a_l_number a_l_shared a_l_moves a_l_all_moves a_l_kept a_l_widened a_law c_BadWheel c_NoMove c_Wheel : Addr} (X : K.In h) (G : h.Ns mainGlobals mg) (hfa : mg "law" = some (.ref fa))
  {od_shared an_shared : Option Addr} {sl_shared : Array (Option Value)} {oc_shared kV_shared dc_shared pm_shared cd_shared ct_shared : Value}
  {od_split an_split : Option Addr} {sl_split : Array (Option Value)} {oc_split kV_split dc_split pm_split cd_split ct_split : Value}
  {od_stretched an_stretched : Option Addr} {sl_stretched : Array (Option Value)} {oc_stretched kV_stretched dc_stretched pm_stretched cd_stretched ct_stretched : Value}
  {od_circle an_circle : Option Addr} {sl_circle : Array (Option Value)} {oc_circle kV_circle dc_circle pm_circle cd_circle ct_circle : Value}
  {od_Wheel_init an_Wheel_init : Option Addr} {sl_Wheel_init : Array (Option Value)} {oc_Wheel_init kV_Wheel_init dc_Wheel_init pm_Wheel_init cd_Wheel_init ct_Wheel_init : Value}
  {od_Wheel_lowest an_Wheel_lowest : Option Addr} {sl_Wheel_lowest : Array (Option Value)} {oc_Wheel_lowest kV_Wheel_lowest dc_Wheel_lowest pm_Wheel_lowest cd_Wheel_lowest ct_Wheel_lowest : Value}
  {od_Wheel_plus an_Wheel_plus : Option Addr} {sl_Wheel_plus : Array (Option Value)} {oc_Wheel_plus kV_Wheel_plus dc_Wheel_plus pm_Wheel_plus cd_Wheel_plus ct_Wheel_plus : Value}
  {od_Wheel_times an_Wheel_times : Option Addr} {sl_Wheel_times : Array (Option Value)} {oc_Wheel_times kV_Wheel_times dc_Wheel_times pm_Wheel_times cd_Wheel_times ct_Wheel_times : Value}
  {od_Wheel_exchanged an_Wheel_exchanged : Option Addr} {sl_Wheel_exchanged : Array (Option Value)} {oc_Wheel_exchanged kV_Wheel_exchanged dc_Wheel_exchanged pm_Wheel_exchanged cd_Wheel_exchanged ct_Wheel_exchanged : Value}
  {od_Wheel_backed an_Wheel_backed : Option Addr} {sl_Wheel_backed : Array (Option Value)} {oc_Wheel_backed kV_Wheel_backed dc_Wheel_backed pm_Wheel_backed cd_Wheel_backed ct_Wheel_backed : Value}
  {od_Wheel_moved an_Wheel_moved : Option Addr} {sl_Wheel_moved : Array (Option Value)} {oc_Wheel_moved kV_Wheel_moved dc_Wheel_moved pm_Wheel_moved cd_Wheel_moved ct_Wheel_moved : Value}
  {od_Wheel_wider an_Wheel_wider : Option Addr} {sl_Wheel_wider : Array (Option Value)} {oc_Wheel_wider kV_Wheel_wider dc_Wheel_wider pm_Wheel_wider cd_Wheel_wider ct_Wheel_wider : Value}
  {od_Wheel_whole an_Wheel_whole : Option Addr} {sl_Wheel_whole : Array (Option Value)} {oc_Wheel_whole kV_Wheel_whole dc_Wheel_whole pm_Wheel_whole cd_Wheel_whole ct_Wheel_whole : Value}
  {od_l_whole an_l_whole : Option Addr} {sl_l_whole : Array (Option Value)} {oc_l_whole kV_l_whole dc_l_whole pm_l_whole cd_l_whole ct_l_whole : Value}
  {od_l_at an_l_at : Option Addr} {sl_l_at : Array (Option Value)} {oc_l_at kV_l_at dc_l_at pm_l_at cd_l_at ct_l_at : Value}
  {od_l_number an_l_number : Option Addr} {sl_l_number : Array (Option Value)} {oc_l_number kV_l_number dc_l_number pm_l_number cd_l_number ct_l_number : Value}
  {od_l_shared an_l_shared : Option Addr} {sl_l_shared : Array (Option Value)} {oc_l_shared kV_l_shared dc_l_shared pm_l_shared cd_l_shared ct_l_shared : Value}
  {od_l_moves an_l_moves : Option Addr} {sl_l_moves : Array (Option Value)} {oc_l_moves kV_l_moves dc_l_moves pm_l_moves cd_l_moves ct_l_moves : Value}
  {od_l_all_moves an_l_all_moves : Option Addr} {sl_l_all_moves : Array (Option Value)} {oc_l_all_moves kV_l_all_moves dc_l_all_moves pm_l_all_moves cd_l_all_moves ct_l_all_moves : Value}
  {od_l_kept an_l_kept : Option Addr} {sl_l_kept : Array (Option Value)} {oc_l_kept kV_l_kept dc_l_kept pm_l_kept cd_l_kept ct_l_kept : Value}
  {od_l_widened an_l_widened : Option Addr} {sl_l_widened : Array (Option Value)} {oc_l_widened kV_l_widened dc_l_widened pm_l_widened cd_l_widened ct_l_widened : Value}
  {od_law an_law : Option Addr} {sl_law : Array (Option Value)} {oc_law kV_law dc_law pm_law cd_law ct_law : Value}
  {tok_WIDEST : Tok}
  (ac_BadWheel : PySem.W.nsIn K mainGlobals "BadWheel" = some (some (.ref c_BadWheel)))
  (ac_NoMove : PySem.W.nsIn K mainGlobals "NoMove" = some (some (.ref c_NoMove)))
  (ac_Wheel : PySem.W.nsIn K mainGlobals "Wheel" = some (some (.ref c_Wheel)))
  (a1_shared : PySem.W.nsIn K mainGlobals "shared" = some (some (.ref a_shared)))
  (l1_shared : K.lookup a_shared = some ⟨oc_shared, od_shared, .func (PySem.W.fnOf "shared" "shared" (defArgs s_shared) (defBody s_shared) (defScope s_shared) .none kV_shared dc_shared pm_shared an_shared cd_shared ct_shared), sl_shared⟩)
  (c1_shared : PySem.W.codeIn K cd_shared "shared" = true)
  (k1_shared : PySem.W.keepIn K (.ref a_shared) = true)
  (a1_split : PySem.W.nsIn K mainGlobals "split" = some (some (.ref a_split)))
  (l1_split : K.lookup a_split = some ⟨oc_split, od_split, .func (PySem.W.fnOf "split" "split" (defArgs s_split) (defBody s_split) (defScope s_split) .none kV_split dc_split pm_split an_split cd_split ct_split), sl_split⟩)
  (c1_split : PySem.W.codeIn K cd_split "split" = true)
  (k1_split : PySem.W.keepIn K (.ref a_split) = true)
  (a1_stretched : PySem.W.nsIn K mainGlobals "stretched" = some (some (.ref a_stretched)))
  (l1_stretched : K.lookup a_stretched = some ⟨oc_stretched, od_stretched, .func (PySem.W.fnOf "stretched" "stretched" (defArgs s_stretched) (defBody s_stretched) (defScope s_stretched) .none kV_stretched dc_stretched pm_stretched an_stretched cd_stretched ct_stretched), sl_stretched⟩)
  (c1_stretched : PySem.W.codeIn K cd_stretched "stretched" = true)
  (k1_stretched : PySem.W.keepIn K (.ref a_stretched) = true)
  (a1_circle : PySem.W.nsIn K mainGlobals "circle" = some (some (.ref a_circle)))
  (l1_circle : K.lookup a_circle = some ⟨oc_circle, od_circle, .func (PySem.W.fnOf "circle" "circle" (defArgs s_circle) (defBody s_circle) (defScope s_circle) .none kV_circle dc_circle pm_circle an_circle cd_circle ct_circle), sl_circle⟩)
  (c1_circle : PySem.W.codeIn K cd_circle "circle" = true)
  (k1_circle : PySem.W.keepIn K (.ref a_circle) = true)
  (a1_Wheel_init : PySem.W.findIn K (.ref c_Wheel) "__init__" = some (some (.ref a_Wheel_init)))
  (i1_Wheel_init : PySem.W.isFn K (.ref a_Wheel_init) = true)
  (l1_Wheel_init : K.lookup a_Wheel_init = some ⟨oc_Wheel_init, od_Wheel_init, .func (PySem.W.fnOf "__init__" "Wheel.__init__" (defArgs s_Wheel_init) (defBody s_Wheel_init) (defScope s_Wheel_init) .none kV_Wheel_init dc_Wheel_init pm_Wheel_init an_Wheel_init cd_Wheel_init ct_Wheel_init), sl_Wheel_init⟩)
  (c1_Wheel_init : PySem.W.codeIn K cd_Wheel_init "Wheel.__init__" = true)
  (k1_Wheel_init : PySem.W.keepIn K (.ref a_Wheel_init) = true)
  (a1_Wheel_lowest : PySem.W.findIn K (.ref c_Wheel) "lowest" = some (some (.ref a_Wheel_lowest)))
  (i1_Wheel_lowest : PySem.W.isFn K (.ref a_Wheel_lowest) = true)
  (l1_Wheel_lowest : K.lookup a_Wheel_lowest = some ⟨oc_Wheel_lowest, od_Wheel_lowest, .func (PySem.W.fnOf "lowest" "Wheel.lowest" (defArgs s_Wheel_lowest) (defBody s_Wheel_lowest) (defScope s_Wheel_lowest) .none kV_Wheel_lowest dc_Wheel_lowest pm_Wheel_lowest an_Wheel_lowest cd_Wheel_lowest ct_Wheel_lowest), sl_Wheel_lowest⟩)
  (c1_Wheel_lowest : PySem.W.codeIn K cd_Wheel_lowest "Wheel.lowest" = true)
  (k1_Wheel_lowest : PySem.W.keepIn K (.ref a_Wheel_lowest) = true)
  (a1_Wheel_plus : PySem.W.findIn K (.ref c_Wheel) "plus" = some (some (.ref a_Wheel_plus)))
  (i1_Wheel_plus : PySem.W.isFn K (.ref a_Wheel_plus) = true)
  (l1_Wheel_plus : K.lookup a_Wheel_plus = some ⟨oc_Wheel_plus, od_Wheel_plus, .func (PySem.W.fnOf "plus" "Wheel.plus" (defArgs s_Wheel_plus) (defBody s_Wheel_plus) (defScope s_Wheel_plus) .none kV_Wheel_plus dc_Wheel_plus pm_Wheel_plus an_Wheel_plus cd_Wheel_plus ct_Wheel_plus), sl_Wheel_plus⟩)
  (c1_Wheel_plus : PySem.W.codeIn K cd_Wheel_plus "Wheel.plus" = true)
  (k1_Wheel_plus : PySem.W.keepIn K (.ref a_Wheel_plus) = true)
  (a1_Wheel_times : PySem.W.findIn K (.ref c_Wheel) "times" = some (some (.ref a_Wheel_times)))
  (i1_Wheel_times : PySem.W.isFn K (.ref a_Wheel_times) = true)
  (l1_Wheel_times : K.lookup a_Wheel_times = some ⟨oc_Wheel_times, od_Wheel_times, .func (PySem.W.fnOf "times" "Wheel.times" (defArgs s_Wheel_times) (defBody s_Wheel_times) (defScope s_Wheel_times) .none kV_Wheel_times dc_Wheel_times pm_Wheel_times an_Wheel_times cd_Wheel_times ct_Wheel_times), sl_Wheel_times⟩)
  (c1_Wheel_times : PySem.W.codeIn K cd_Wheel_times "Wheel.times" = true)
  (k1_Wheel_times : PySem.W.keepIn K (.ref a_Wheel_times) = true)
  (a1_Wheel_exchanged : PySem.W.findIn K (.ref c_Wheel) "exchanged" = some (some (.ref a_Wheel_exchanged)))
  (i1_Wheel_exchanged : PySem.W.isFn K (.ref a_Wheel_exchanged) = true)
  (l1_Wheel_exchanged : K.lookup a_Wheel_exchanged = some ⟨oc_Wheel_exchanged, od_Wheel_exchanged, .func (PySem.W.fnOf "exchanged" "Wheel.exchanged" (defArgs s_Wheel_exchanged) (defBody s_Wheel_exchanged) (defScope s_Wheel_exchanged) .none kV_Wheel_exchanged dc_Wheel_exchanged pm_Wheel_exchanged an_Wheel_exchanged cd_Wheel_exchanged ct_Wheel_exchanged), sl_Wheel_exchanged⟩)
  (c1_Wheel_exchanged : PySem.W.codeIn K cd_Wheel_exchanged "Wheel.exchanged" = true)
  (k1_Wheel_exchanged : PySem.W.keepIn K (.ref a_Wheel_exchanged) = true)
  (a1_Wheel_backed : PySem.W.findIn K (.ref c_Wheel) "backed" = some (some (.ref a_Wheel_backed)))
  (i1_Wheel_backed : PySem.W.isFn K (.ref a_Wheel_backed) = true)
  (l1_Wheel_backed : K.lookup a_Wheel_backed = some ⟨oc_Wheel_backed, od_Wheel_backed, .func (PySem.W.fnOf "backed" "Wheel.backed" (defArgs s_Wheel_backed) (defBody s_Wheel_backed) (defScope s_Wheel_backed) .none kV_Wheel_backed dc_Wheel_backed pm_Wheel_backed an_Wheel_backed cd_Wheel_backed ct_Wheel_backed), sl_Wheel_backed⟩)
  (c1_Wheel_backed : PySem.W.codeIn K cd_Wheel_backed "Wheel.backed" = true)
  (k1_Wheel_backed : PySem.W.keepIn K (.ref a_Wheel_backed) = true)
  (a1_Wheel_moved : PySem.W.findIn K (.ref c_Wheel) "moved" = some (some (.ref a_Wheel_moved)))
  (i1_Wheel_moved : PySem.W.isFn K (.ref a_Wheel_moved) = true)
  (l1_Wheel_moved : K.lookup a_Wheel_moved = some ⟨oc_Wheel_moved, od_Wheel_moved, .func (PySem.W.fnOf "moved" "Wheel.moved" (defArgs s_Wheel_moved) (defBody s_Wheel_moved) (defScope s_Wheel_moved) .none kV_Wheel_moved dc_Wheel_moved pm_Wheel_moved an_Wheel_moved cd_Wheel_moved ct_Wheel_moved), sl_Wheel_moved⟩)
  (c1_Wheel_moved : PySem.W.codeIn K cd_Wheel_moved "Wheel.moved" = true)
  (k1_Wheel_moved : PySem.W.keepIn K (.ref a_Wheel_moved) = true)
  (a1_Wheel_wider : PySem.W.findIn K (.ref c_Wheel) "wider" = some (some (.ref a_Wheel_wider)))
  (i1_Wheel_wider : PySem.W.isFn K (.ref a_Wheel_wider) = true)
  (l1_Wheel_wider : K.lookup a_Wheel_wider = some ⟨oc_Wheel_wider, od_Wheel_wider, .func (PySem.W.fnOf "wider" "Wheel.wider" (defArgs s_Wheel_wider) (defBody s_Wheel_wider) (defScope s_Wheel_wider) .none kV_Wheel_wider dc_Wheel_wider pm_Wheel_wider an_Wheel_wider cd_Wheel_wider ct_Wheel_wider), sl_Wheel_wider⟩)
  (c1_Wheel_wider : PySem.W.codeIn K cd_Wheel_wider "Wheel.wider" = true)
  (k1_Wheel_wider : PySem.W.keepIn K (.ref a_Wheel_wider) = true)
  (a1_Wheel_whole : PySem.W.findIn K (.ref c_Wheel) "whole" = some (some (.ref a_Wheel_whole)))
  (i1_Wheel_whole : PySem.W.isFn K (.ref a_Wheel_whole) = true)
  (l1_Wheel_whole : K.lookup a_Wheel_whole = some ⟨oc_Wheel_whole, od_Wheel_whole, .func (PySem.W.fnOf "whole" "Wheel.whole" (defArgs s_Wheel_whole) (defBody s_Wheel_whole) (defScope s_Wheel_whole) .none kV_Wheel_whole dc_Wheel_whole pm_Wheel_whole an_Wheel_whole cd_Wheel_whole ct_Wheel_whole), sl_Wheel_whole⟩)
  (c1_Wheel_whole : PySem.W.codeIn K cd_Wheel_whole "Wheel.whole" = true)
  (k1_Wheel_whole : PySem.W.keepIn K (.ref a_Wheel_whole) = true)
  (a1_l_whole : PySem.W.nsIn K mainGlobals "_law_whole" = some (some (.ref a_l_whole)))
  (l1_l_whole : K.lookup a_l_whole = some ⟨oc_l_whole, od_l_whole, .func (PySem.W.fnOf "_law_whole" "_law_whole" (defArgs s_l_whole) (defBody s_l_whole) (defScope s_l_whole) .none kV_l_whole dc_l_whole pm_l_whole an_l_whole cd_l_whole ct_l_whole), sl_l_whole⟩)
  (c1_l_whole : PySem.W.codeIn K cd_l_whole "_law_whole" = true)
  (k1_l_whole : PySem.W.keepIn K (.ref a_l_whole) = true)
  (a1_l_at : PySem.W.nsIn K mainGlobals "_law_at" = some (some (.ref a_l_at)))
  (l1_l_at : K.lookup a_l_at = some ⟨oc_l_at, od_l_at, .func (PySem.W.fnOf "_law_at" "_law_at" (defArgs s_l_at) (defBody s_l_at) (defScope s_l_at) .none kV_l_at dc_l_at pm_l_at an_l_at cd_l_at ct_l_at), sl_l_at⟩)
  (c1_l_at : PySem.W.codeIn K cd_l_at "_law_at" = true)
  (k1_l_at : PySem.W.keepIn K (.ref a_l_at) = true)
  (a1_l_number : PySem.W.nsIn K mainGlobals "_law_number" = some (some (.ref a_l_number)))
  (l1_l_number : K.lookup a_l_number = some ⟨oc_l_number, od_l_number, .func (PySem.W.fnOf "_law_number" "_law_number" (defArgs s_l_number) (defBody s_l_number) (defScope s_l_number) .none kV_l_number dc_l_number pm_l_number an_l_number cd_l_number ct_l_number), sl_l_number⟩)
  (c1_l_number : PySem.W.codeIn K cd_l_number "_law_number" = true)
  (k1_l_number : PySem.W.keepIn K (.ref a_l_number) = true)
  (a1_l_shared : PySem.W.nsIn K mainGlobals "_law_shared" = some (some (.ref a_l_shared)))
  (l1_l_shared : K.lookup a_l_shared = some ⟨oc_l_shared, od_l_shared, .func (PySem.W.fnOf "_law_shared" "_law_shared" (defArgs s_l_shared) (defBody s_l_shared) (defScope s_l_shared) .none kV_l_shared dc_l_shared pm_l_shared an_l_shared cd_l_shared ct_l_shared), sl_l_shared⟩)
  (c1_l_shared : PySem.W.codeIn K cd_l_shared "_law_shared" = true)
  (k1_l_shared : PySem.W.keepIn K (.ref a_l_shared) = true)
  (a1_l_moves : PySem.W.nsIn K mainGlobals "_law_moves" = some (some (.ref a_l_moves)))
  (l1_l_moves : K.lookup a_l_moves = some ⟨oc_l_moves, od_l_moves, .func (PySem.W.fnOf "_law_moves" "_law_moves" (defArgs s_l_moves) (defBody s_l_moves) (defScope s_l_moves) .none kV_l_moves dc_l_moves pm_l_moves an_l_moves cd_l_moves ct_l_moves), sl_l_moves⟩)
  (c1_l_moves : PySem.W.codeIn K cd_l_moves "_law_moves" = true)
  (k1_l_moves : PySem.W.keepIn K (.ref a_l_moves) = true)
  (a1_l_all_moves : PySem.W.nsIn K mainGlobals "_law_all_moves" = some (some (.ref a_l_all_moves)))
  (l1_l_all_moves : K.lookup a_l_all_moves = some ⟨oc_l_all_moves, od_l_all_moves, .func (PySem.W.fnOf "_law_all_moves" "_law_all_moves" (defArgs s_l_all_moves) (defBody s_l_all_moves) (defScope s_l_all_moves) .none kV_l_all_moves dc_l_all_moves pm_l_all_moves an_l_all_moves cd_l_all_moves ct_l_all_moves), sl_l_all_moves⟩)
  (c1_l_all_moves : PySem.W.codeIn K cd_l_all_moves "_law_all_moves" = true)
  (k1_l_all_moves : PySem.W.keepIn K (.ref a_l_all_moves) = true)
  (a1_l_kept : PySem.W.nsIn K mainGlobals "_law_kept" = some (some (.ref a_l_kept)))
  (l1_l_kept : K.lookup a_l_kept = some ⟨oc_l_kept, od_l_kept, .func (PySem.W.fnOf "_law_kept" "_law_kept" (defArgs s_l_kept) (defBody s_l_kept) (defScope s_l_kept) .none kV_l_kept dc_l_kept pm_l_kept an_l_kept cd_l_kept ct_l_kept), sl_l_kept⟩)
  (c1_l_kept : PySem.W.codeIn K cd_l_kept "_law_kept" = true)
  (k1_l_kept : PySem.W.keepIn K (.ref a_l_kept) = true)
  (a1_l_widened : PySem.W.nsIn K mainGlobals "_law_widened" = some (some (.ref a_l_widened)))
  (l1_l_widened : K.lookup a_l_widened = some ⟨oc_l_widened, od_l_widened, .func (PySem.W.fnOf "_law_widened" "_law_widened" (defArgs s_l_widened) (defBody s_l_widened) (defScope s_l_widened) .none kV_l_widened dc_l_widened pm_l_widened an_l_widened cd_l_widened ct_l_widened), sl_l_widened⟩)
  (c1_l_widened : PySem.W.codeIn K cd_l_widened "_law_widened" = true)
  (k1_l_widened : PySem.W.keepIn K (.ref a_l_widened) = true)
  (a1_law : PySem.W.nsIn K mainGlobals "law" = some (some (.ref a_law)))
  (l1_law : K.lookup a_law = some ⟨oc_law, od_law, .func (PySem.W.fnOf "law" "law" (defArgs s_law) (defBody s_law) (defScope s_law) .none kV_law dc_law pm_law an_law cd_law ct_law), sl_law⟩)
  (c1_law : PySem.W.codeIn K cd_law "law" = true)
  (k1_law : PySem.W.keepIn K (.ref a_law) = true)
  (z_any : PySem.W.nsIn K mainGlobals "any" = some none)
  (z_bool : PySem.W.nsIn K mainGlobals "bool" = some none)
  (z_enumerate : PySem.W.nsIn K mainGlobals "enumerate" = some none)
  (z_int : PySem.W.nsIn K mainGlobals "int" = some none)
  (z_isinstance : PySem.W.nsIn K mainGlobals "isinstance" = some none)
  (z_len : PySem.W.nsIn K mainGlobals "len" = some none)
  (z_list : PySem.W.nsIn K mainGlobals "list" = some none)
  (z_range : PySem.W.nsIn K mainGlobals "range" = some none)
  (z_zip : PySem.W.nsIn K mainGlobals "zip" = some none)
  (v_WIDEST : PySem.W.nsIn K mainGlobals "WIDEST" = some (some (.int 60 tok_WIDEST)))
  (mk_Wheel : PySem.W.makesIn K c_Wheel = true)
  (kc_Wheel : PySem.W.keepIn K (.ref c_Wheel) = true)
  (pg_Wheel : PySem.W.plainGet K c_Wheel Str.empty = true)
  (hd_Wheel : PySem.W.hasDictIn K c_Wheel = true)
  (po_Wheel : PySem.W.plainOver K c_Wheel = true)
  (sa_Wheel : PySem.W.findIn K (.ref c_Wheel) "__setattr__" = some (some (.builtin "object.__setattr__")))
  (nW_ring : PySem.W.findIn K (.ref c_Wheel) "ring" = some none)
  (nW_spokes : PySem.W.findIn K (.ref c_Wheel) "spokes" = some none)
  (nW_size : PySem.W.findIn K (.ref c_Wheel) "size" = some none)
  (x_BadWheel : PySem.W.excIn K c_BadWheel [.type "ValueError", .type "Exception", .type "BaseException", .type "object"] "ValueError.__new__" = true)
  (kx_BadWheel : PySem.W.keepIn K (.ref c_BadWheel) = true)
  (rx_BadWheel : PySem.W.subIn K (.ref c_BadWheel) (.type "BaseException") = some true)
  (rt_BadWheel : PySem.W.typeIn K (.ref c_BadWheel) = some (.type "type"))
  (x_NoMove : PySem.W.excIn K c_NoMove [.type "ValueError", .type "Exception", .type "BaseException", .type "object"] "ValueError.__new__" = true)
  (kx_NoMove : PySem.W.keepIn K (.ref c_NoMove) = true)
  (rx_NoMove : PySem.W.subIn K (.ref c_NoMove) (.type "BaseException") = some true)
  (rt_NoMove : PySem.W.typeIn K (.ref c_NoMove) = some (.type "type"))
  : ∃ fd : FuncData, (∀ (s : Shared) (v : Value), BindsTo s fd ⟨[v], []⟩ [("_law_script", v)]) ∧ ∀ base : Heap, K.In base → base.Ns mainGlobals mg → FnOk l.prog w K mg base (L2.CX l.prog w) 7 fa fd ["_law_script"] (spLaw K) := by
  have e := (PySem.W.mg_of X G a1_law).symm.trans hfa
  cases e
  obtain ⟨cls, e_BadWheel, e_NoMove, e_Wheel⟩ : ∃ cls : CN → Addr, cls .BadWheel = c_BadWheel ∧ cls .NoMove = c_NoMove ∧ cls .Wheel = c_Wheel := ⟨fun n => match n with | .BadWheel => c_BadWheel | .NoMove => c_NoMove | .Wheel => c_Wheel | _ => 0, rfl, rfl, rfl⟩
  subst e_BadWheel
  subst e_NoMove
  subst e_Wheel
  have F_shared := fun_mk (st := s_shared) l1_shared c1_shared k1_shared
  have b_shared := F_shared.binds (ps := ["one", "other"]) fun _ _ _ _ _ _ us hl => match us, hl with | [_, _], _ => rfl
  have F_split := fun_mk (st := s_split) l1_split c1_split k1_split
  have b_split := F_split.binds (ps := ["top", "bottom"]) fun _ _ _ _ _ _ us hl => match us, hl with | [_, _], _ => rfl
  have F_stretched := fun_mk (st := s_stretched) l1_stretched c1_stretched k1_stretched
  have b_stretched := F_stretched.binds (ps := ["some", "many"]) fun _ _ _ _ _ _ us hl => match us, hl with | [_, _], _ => rfl
  have F_circle := fun_mk (st := s_circle) l1_circle c1_circle k1_circle
  have b_circle := F_circle.binds (ps := ["many"]) fun _ _ _ _ _ _ us hl => match us, hl with | [_], _ => rfl
  have F_Wheel_init := fun_mk (st := s_Wheel_init) l1_Wheel_init c1_Wheel_init k1_Wheel_init
  have b_Wheel_init := F_Wheel_init.binds (ps := ["self", "many"]) fun _ _ _ _ _ _ us hl => match us, hl with | [_, _], _ => rfl
  have F_Wheel_lowest := fun_mk (st := s_Wheel_lowest) l1_Wheel_lowest c1_Wheel_lowest k1_Wheel_lowest
  have b_Wheel_lowest := F_Wheel_lowest.binds (ps := ["self", "counts"]) fun _ _ _ _ _ _ us hl => match us, hl with | [_, _], _ => rfl
  have F_Wheel_plus := fun_mk (st := s_Wheel_plus) l1_Wheel_plus c1_Wheel_plus k1_Wheel_plus
  have b_Wheel_plus := F_Wheel_plus.binds (ps := ["self", "one", "other"]) fun _ _ _ _ _ _ us hl => match us, hl with | [_, _, _], _ => rfl
  have F_Wheel_times := fun_mk (st := s_Wheel_times) l1_Wheel_times c1_Wheel_times k1_Wheel_times
  have b_Wheel_times := F_Wheel_times.binds (ps := ["self", "one", "other"]) fun _ _ _ _ _ _ us hl => match us, hl with | [_, _, _], _ => rfl
  have F_Wheel_exchanged := fun_mk (st := s_Wheel_exchanged) l1_Wheel_exchanged c1_Wheel_exchanged k1_Wheel_exchanged
  have b_Wheel_exchanged := F_Wheel_exchanged.binds (ps := ["self", "one", "j"]) fun _ _ _ _ _ _ us hl => match us, hl with | [_, _, _], _ => rfl
  have F_Wheel_backed := fun_mk (st := s_Wheel_backed) l1_Wheel_backed c1_Wheel_backed k1_Wheel_backed
  have b_Wheel_backed := F_Wheel_backed.binds (ps := ["self", "one"]) fun _ _ _ _ _ _ us hl => match us, hl with | [_, _], _ => rfl
  have F_Wheel_moved := fun_mk (st := s_Wheel_moved) l1_Wheel_moved c1_Wheel_moved k1_Wheel_moved
  have b_Wheel_moved := F_Wheel_moved.binds (ps := ["self", "one", "j"]) fun _ _ _ _ _ _ us hl => match us, hl with | [_, _, _], _ => rfl
  have F_Wheel_wider := fun_mk (st := s_Wheel_wider) l1_Wheel_wider c1_Wheel_wider k1_Wheel_wider
  have b_Wheel_wider := F_Wheel_wider.binds (ps := ["self", "one", "many"]) fun _ _ _ _ _ _ us hl => match us, hl with | [_, _, _], _ => rfl
  have F_Wheel_whole := fun_mk (st := s_Wheel_whole) l1_Wheel_whole c1_Wheel_whole k1_Wheel_whole
  have b_Wheel_whole := F_Wheel_whole.binds (ps := ["self", "one"]) fun _ _ _ _ _ _ us hl => match us, hl with | [_, _], _ => rfl
  have F_l_whole := fun_mk (st := s_l_whole) l1_l_whole c1_l_whole k1_l_whole
  have b_l_whole := F_l_whole.binds (ps := ["_law_found"]) fun _ _ _ _ _ _ us hl => match us, hl with | [_], _ => rfl
  have F_l_at := fun_mk (st := s_l_at) l1_l_at c1_l_at k1_l_at
  have b_l_at := F_l_at.binds (ps := ["_law_script", "_law_k"]) fun _ _ _ _ _ _ us hl => match us, hl with | [_, _], _ => rfl
  have F_l_number := fun_mk (st := s_l_number) l1_l_number c1_l_number k1_l_number
  have b_l_number := F_l_number.binds (ps := ["_law_script", "_law_at_here"]) fun _ _ _ _ _ _ us hl => match us, hl with | [_, _], _ => rfl
  have F_l_shared := fun_mk (st := s_l_shared) l1_l_shared c1_l_shared k1_l_shared
  have b_l_shared := F_l_shared.binds (ps := ["_law_one", "_law_other"]) fun _ _ _ _ _ _ us hl => match us, hl with | [_, _], _ => rfl
  have F_l_moves := fun_mk (st := s_l_moves) l1_l_moves c1_l_moves k1_l_moves
  have b_l_moves := F_l_moves.binds (ps := ["_law_many"]) fun _ _ _ _ _ _ us hl => match us, hl with | [_], _ => rfl
  have F_l_all_moves := fun_mk (st := s_l_all_moves) l1_l_all_moves c1_l_all_moves k1_l_all_moves
  have b_l_all_moves := F_l_all_moves.binds (ps := ["_law_wheel", "_law_one"]) fun _ _ _ _ _ _ us hl => match us, hl with | [_, _], _ => rfl
  have F_l_kept := fun_mk (st := s_l_kept) l1_l_kept c1_l_kept k1_l_kept
  have b_l_kept := F_l_kept.binds (ps := ["_law_wheel", "_law_one", "_law_other", "_law_i", "_law_j"]) fun _ _ _ _ _ _ us hl => match us, hl with | [_, _, _, _, _], _ => rfl
  have F_l_widened := fun_mk (st := s_l_widened) l1_l_widened c1_l_widened k1_l_widened
  have b_l_widened := F_l_widened.binds (ps := ["_law_wheel", "_law_one", "_law_other", "_law_by"]) fun _ _ _ _ _ _ us hl => match us, hl with | [_, _, _, _], _ => rfl
  have F_law := fun_mk (st := s_law) l1_law c1_law k1_law
  have b_law := F_law.binds (ps := ["_law_script"]) fun _ _ _ _ _ _ us hl => match us, hl with | [_], _ => rfl
  have T : Tx K mg cls (Ad.mk a_shared a_split a_stretched a_circle a_Wheel_init a_Wheel_lowest a_Wheel_plus a_Wheel_times a_Wheel_exchanged a_Wheel_backed a_Wheel_moved a_Wheel_wider a_Wheel_whole a_l_whole a_l_at a_l_number a_l_shared a_l_moves a_l_all_moves a_l_kept a_l_widened fa _ _ _ _ _ _ _ _ _ _ _ _ _ _ _ _ _ _ _ _ _ _) := {F_shared := F_shared, b_shared := b_shared, g_shared := PySem.W.mg_of X G a1_shared, k_shared := k1_shared, F_split := F_split, b_split := b_split, g_split := PySem.W.mg_of X G a1_split, k_split := k1_split, F_stretched := F_stretched, b_stretched := b_stretched, g_stretched := PySem.W.mg_of X G a1_stretched, k_stretched := k1_stretched, F_circle := F_circle, b_circle := b_circle, g_circle := PySem.W.mg_of X G a1_circle, k_circle := k1_circle, F_Wheel_init := F_Wheel_init, b_Wheel_init := b_Wheel_init, F_Wheel_lowest := F_Wheel_lowest, b_Wheel_lowest := b_Wheel_lowest, F_Wheel_plus := F_Wheel_plus, b_Wheel_plus := b_Wheel_plus, F_Wheel_times := F_Wheel_times, b_Wheel_times := b_Wheel_times, F_Wheel_exchanged := F_Wheel_exchanged, b_Wheel_exchanged := b_Wheel_exchanged, F_Wheel_backed := F_Wheel_backed, b_Wheel_backed := b_Wheel_backed, F_Wheel_moved := F_Wheel_moved, b_Wheel_moved := b_Wheel_moved, F_Wheel_wider := F_Wheel_wider, b_Wheel_wider := b_Wheel_wider, F_Wheel_whole := F_Wheel_whole, b_Wheel_whole := b_Wheel_whole, F_l_whole := F_l_whole, b_l_whole := b_l_whole, g_l_whole := PySem.W.mg_of X G a1_l_whole, k_l_whole := k1_l_whole, F_l_at := F_l_at, b_l_at := b_l_at, g_l_at := PySem.W.mg_of X G a1_l_at, k_l_at := k1_l_at, F_l_number := F_l_number, b_l_number := b_l_number, g_l_number := PySem.W.mg_of X G a1_l_number, k_l_number := k1_l_number, F_l_shared := F_l_shared, b_l_shared := b_l_shared, g_l_shared := PySem.W.mg_of X G a1_l_shared, k_l_shared := k1_l_shared, F_l_moves := F_l_moves, b_l_moves := b_l_moves, g_l_moves := PySem.W.mg_of X G a1_l_moves, k_l_moves := k1_l_moves, F_l_all_moves := F_l_all_moves, b_l_all_moves := b_l_all_moves, g_l_all_moves := PySem.W.mg_of X G a1_l_all_moves, k_l_all_moves := k1_l_all_moves, F_l_kept := F_l_kept, b_l_kept := b_l_kept, g_l_kept := PySem.W.mg_of X G a1_l_kept, k_l_kept := k1_l_kept, F_l_widened := F_l_widened, b_l_widened := b_l_widened, g_l_widened := PySem.W.mg_of X G a1_l_widened, k_l_widened := k1_l_widened, F_law := F_law, b_law := b_law, g_law := PySem.W.mg_of X G a1_law, k_law := k1_law, b_any := PySem.W.mg_none_of X G z_any, b_bool := PySem.W.mg_none_of X G z_bool, b_enumerate := PySem.W.mg_none_of X G z_enumerate, b_int := PySem.W.mg_none_of X G z_int, b_isinstance := PySem.W.mg_none_of X G z_isinstance, b_len := PySem.W.mg_none_of X G z_len, b_list := PySem.W.mg_none_of X G z_list, b_range := PySem.W.mg_none_of X G z_range, b_zip := PySem.W.mg_none_of X G z_zip, g_WIDEST := ⟨_, PySem.W.mg_of X G v_WIDEST⟩, g_BadWheel := PySem.W.mg_of X G ac_BadWheel, g_NoMove := PySem.W.mg_of X G ac_NoMove, g_Wheel := PySem.W.mg_of X G ac_Wheel, M_Wheel := ⟨mk_Wheel, a1_Wheel_init, i1_Wheel_init, kc_Wheel⟩, whlC := ⟨⟨pg_Wheel, hd_Wheel, po_Wheel, sa_Wheel⟩, nW_ring, nW_spokes, nW_size⟩, C_Wheel := ⟨pg_Wheel, hd_Wheel, po_Wheel, sa_Wheel⟩, m_Wheel_lowest := ⟨a1_Wheel_lowest, i1_Wheel_lowest, k1_Wheel_lowest⟩, m_Wheel_plus := ⟨a1_Wheel_plus, i1_Wheel_plus, k1_Wheel_plus⟩, m_Wheel_times := ⟨a1_Wheel_times, i1_Wheel_times, k1_Wheel_times⟩, m_Wheel_exchanged := ⟨a1_Wheel_exchanged, i1_Wheel_exchanged, k1_Wheel_exchanged⟩, m_Wheel_backed := ⟨a1_Wheel_backed, i1_Wheel_backed, k1_Wheel_backed⟩, m_Wheel_moved := ⟨a1_Wheel_moved, i1_Wheel_moved, k1_Wheel_moved⟩, m_Wheel_wider := ⟨a1_Wheel_wider, i1_Wheel_wider, k1_Wheel_wider⟩, m_Wheel_whole := ⟨a1_Wheel_whole, i1_Wheel_whole, k1_Wheel_whole⟩, x_BadWheel := x_BadWheel, k_BadWheel := kx_BadWheel, r_BadWheel := rx_BadWheel, rt_BadWheel := rt_BadWheel, x_NoMove := x_NoMove, k_NoMove := kx_NoMove, r_NoMove := rx_NoMove, rt_NoMove := rt_NoMove}
  refine ⟨PySem.W.fnOf "law" "law" (defArgs s_law) (defBody s_law) (defScope s_law) .none kV_law dc_law pm_law an_law cd_law ct_law, fun s v => .of_eq rfl, fun base hb hn => ?_⟩
  have G_shared := ok_shared (P := l.prog) (w := w) (base := base) T 
  have G_split := ok_split (P := l.prog) (w := w) (base := base) T 
  have G_stretched := ok_stretched (P := l.prog) (w := w) (base := base) T 
  have G_circle := ok_circle (P := l.prog) (w := w) (base := base) T G_split G_stretched
  have G_Wheel_init := ok_Wheel_init (P := l.prog) (w := w) (base := base) T G_circle
  have G_Wheel_lowest := ok_Wheel_lowest (P := l.prog) (w := w) (base := base) T G_split
  have G_Wheel_plus := ok_Wheel_plus (P := l.prog) (w := w) (base := base) T 
  have G_Wheel_times := ok_Wheel_times (P := l.prog) (w := w) (base := base) T G_Wheel_lowest
  have G_Wheel_exchanged := ok_Wheel_exchanged (P := l.prog) (w := w) (base := base) T G_Wheel_lowest
  have G_Wheel_backed := ok_Wheel_backed (P := l.prog) (w := w) (base := base) T G_Wheel_exchanged
  have G_Wheel_moved := ok_Wheel_moved (P := l.prog) (w := w) (base := base) T G_shared G_Wheel_exchanged
  have G_Wheel_wider := ok_Wheel_wider (P := l.prog) (w := w) (base := base) T G_stretched G_Wheel_init G_Wheel_lowest
  have G_Wheel_whole := ok_Wheel_whole (P := l.prog) (w := w) (base := base) T 
  have G_l_whole := ok_l_whole (P := l.prog) (w := w) (base := base) T 
  have G_l_at := ok_l_at (P := l.prog) (w := w) (base := base) T 
  have G_l_number := ok_l_number (P := l.prog) (w := w) (base := base) T 
  have G_l_shared := ok_l_shared (P := l.prog) (w := w) (base := base) T 
  have G_l_moves := ok_l_moves (P := l.prog) (w := w) (base := base) T G_l_shared
  have G_l_all_moves := ok_l_all_moves (P := l.prog) (w := w) (base := base) T G_Wheel_plus G_Wheel_times G_Wheel_moved G_Wheel_whole G_l_moves
  have G_l_kept := ok_l_kept (P := l.prog) (w := w) (base := base) T G_Wheel_plus G_Wheel_times G_Wheel_backed G_Wheel_moved
  have G_l_widened := ok_l_widened (P := l.prog) (w := w) (base := base) T G_Wheel_init G_Wheel_plus G_Wheel_times G_Wheel_wider
  have G_law := ok_law (P := l.prog) (w := w) (base := base) T G_Wheel_init G_Wheel_times G_l_whole G_l_at G_l_number G_l_moves G_l_all_moves G_l_kept G_l_widened
  exact G_law.imp fun vs H Q E h => law_imp h
theorem walk {l : PySem.W.OpenLaw} {q : Program} {loose : List Str} {XP : (Str → Option Value) → Heap → Prop} {YP : World → Heap → Prop} {d : DefRec} {K : Params → PySem.W.Frag} (hn : l.most = some 63) (hdf : d.params.defaults = [])
    (hY : ∀ (w : World) (h : Heap), YP w h → (K w.params).In h)
    (F : ∀ (w : World) (mg : Str → Option Value) (fa : Addr) (h : Heap), (K w.params).In h → h.Ns mainGlobals mg → mg d.name = some (.ref fa) →
      ∃ fd : FuncData, (∀ (s : Shared) (u : Value), BindsTo s fd ⟨[u], []⟩ [("_law_script", u)]) ∧ ∀ base : Heap, (K w.params).In base → base.Ns mainGlobals mg → FnOk l.prog w (K w.params) mg base (L2.CX l.prog w) 7 fa fd ["_law_script"] (spLaw (K w.params))) :
    PySem.W.WalkO q loose XP YP l.row.toRowW d [] (fun f vs => PySem.call f vs) :=
  L2.walk_of (n := 63) (k := 7) (x := "_law_script") (CX := fun w => L2.CX l.prog w) (sp := fun w => spLaw (K w.params)) hn (by decide) hdf ⟨rfl, by decide, by decide⟩ hY F (fun _ _ a ns hl _ hS => ⟨a, ns, rfl, hS, hl, fun _ => rfl⟩) fun _ _ _ _ _ z => by
    obtain ⟨_, _, _, _, _, _, _, _, _, _, _, _, z⟩ := z
    exact z.elim
end TB
open PySem PySem.W PyProof.Rows
set_option maxRecDepth 100000 in
set_option maxHeartbeats 0 in
theorem PySem.Challenge.cw_tracebook_k27_whole_moves_and_norms_holds : PySem.Challenge.rw_tracebook_k27_whole_moves_and_norms.Holds := by
  w_on; o_law; k_head; (case hw => w_witness2)
  k_fill
  refine TB.walk (l := PySem.Challenge.rw_tracebook_k27_whole_moves_and_norms) rfl rfl (fun w h Y => PySem.W.kIn_of Y) ?F
  case F =>
    intro w mg fa h KX G hmg
    refine' TB.all_mk KX G hmg ?ac_BadWheel ?ac_NoMove ?ac_Wheel ?a1_shared ?l1_shared ?c1_shared ?k1_shared ?a1_split ?l1_split ?c1_split ?k1_split ?a1_stretched ?l1_stretched ?c1_stretched ?k1_stretched ?a1_circle ?l1_circle ?c1_circle ?k1_circle ?a1_Wheel_init ?i1_Wheel_init ?l1_Wheel_init ?c1_Wheel_init ?k1_Wheel_init ?a1_Wheel_lowest ?i1_Wheel_lowest ?l1_Wheel_lowest ?c1_Wheel_lowest ?k1_Wheel_lowest ?a1_Wheel_plus ?i1_Wheel_plus ?l1_Wheel_plus ?c1_Wheel_plus ?k1_Wheel_plus ?a1_Wheel_times ?i1_Wheel_times ?l1_Wheel_times ?c1_Wheel_times ?k1_Wheel_times ?a1_Wheel_exchanged ?i1_Wheel_exchanged ?l1_Wheel_exchanged ?c1_Wheel_exchanged ?k1_Wheel_exchanged ?a1_Wheel_backed ?i1_Wheel_backed ?l1_Wheel_backed ?c1_Wheel_backed ?k1_Wheel_backed ?a1_Wheel_moved ?i1_Wheel_moved ?l1_Wheel_moved ?c1_Wheel_moved ?k1_Wheel_moved ?a1_Wheel_wider ?i1_Wheel_wider ?l1_Wheel_wider ?c1_Wheel_wider ?k1_Wheel_wider ?a1_Wheel_whole ?i1_Wheel_whole ?l1_Wheel_whole ?c1_Wheel_whole ?k1_Wheel_whole ?a1_l_whole ?l1_l_whole ?c1_l_whole ?k1_l_whole ?a1_l_at ?l1_l_at ?c1_l_at ?k1_l_at ?a1_l_number ?l1_l_number ?c1_l_number ?k1_l_number ?a1_l_shared ?l1_l_shared ?c1_l_shared ?k1_l_shared ?a1_l_moves ?l1_l_moves ?c1_l_moves ?k1_l_moves ?a1_l_all_moves ?l1_l_all_moves ?c1_l_all_moves ?k1_l_all_moves ?a1_l_kept ?l1_l_kept ?c1_l_kept ?k1_l_kept ?a1_l_widened ?l1_l_widened ?c1_l_widened ?k1_l_widened ?a1_law ?l1_law ?c1_law ?k1_law ?z_any ?z_bool ?z_enumerate ?z_int ?z_isinstance ?z_len ?z_list ?z_range ?z_zip ?v_WIDEST ?mk_Wheel ?kc_Wheel ?pg_Wheel ?hd_Wheel ?po_Wheel ?sa_Wheel ?nW_ring ?nW_spokes ?nW_size ?x_BadWheel ?kx_BadWheel ?rx_BadWheel ?rt_BadWheel ?x_NoMove ?kx_NoMove ?rx_NoMove ?rt_NoMove
    (case ac_BadWheel => k_is)
    (case ac_NoMove => k_is)
    (case ac_Wheel => k_is)
    (case a1_shared => k_is)
    (case l1_shared => k_is)
    (case c1_shared => k_is)
    (case k1_shared => k_is)
    (case a1_split => k_is)
    (case l1_split => k_is)
    (case c1_split => k_is)
    (case k1_split => k_is)
    (case a1_stretched => k_is)
    (case l1_stretched => k_is)
    (case c1_stretched => k_is)
    (case k1_stretched => k_is)
    (case a1_circle => k_is)
    (case l1_circle => k_is)
    (case c1_circle => k_is)
    (case k1_circle => k_is)
    (case a1_Wheel_init => k_is)
    (case i1_Wheel_init => k_is)
    (case l1_Wheel_init => k_is)
    (case c1_Wheel_init => k_is)
    (case k1_Wheel_init => k_is)
    (case a1_Wheel_lowest => k_is)
    (case i1_Wheel_lowest => k_is)
    (case l1_Wheel_lowest => k_is)
    (case c1_Wheel_lowest => k_is)
    (case k1_Wheel_lowest => k_is)
    (case a1_Wheel_plus => k_is)
    (case i1_Wheel_plus => k_is)
    (case l1_Wheel_plus => k_is)
    (case c1_Wheel_plus => k_is)
    (case k1_Wheel_plus => k_is)
    (case a1_Wheel_times => k_is)
    (case i1_Wheel_times => k_is)
    (case l1_Wheel_times => k_is)
    (case c1_Wheel_times => k_is)
    (case k1_Wheel_times => k_is)
    (case a1_Wheel_exchanged => k_is)
    (case i1_Wheel_exchanged => k_is)
    (case l1_Wheel_exchanged => k_is)
    (case c1_Wheel_exchanged => k_is)
    (case k1_Wheel_exchanged => k_is)
    (case a1_Wheel_backed => k_is)
    (case i1_Wheel_backed => k_is)
    (case l1_Wheel_backed => k_is)
    (case c1_Wheel_backed => k_is)
    (case k1_Wheel_backed => k_is)
    (case a1_Wheel_moved => k_is)
    (case i1_Wheel_moved => k_is)
    (case l1_Wheel_moved => k_is)
    (case c1_Wheel_moved => k_is)
    (case k1_Wheel_moved => k_is)
    (case a1_Wheel_wider => k_is)
    (case i1_Wheel_wider => k_is)
    (case l1_Wheel_wider => k_is)
    (case c1_Wheel_wider => k_is)
    (case k1_Wheel_wider => k_is)
    (case a1_Wheel_whole => k_is)
    (case i1_Wheel_whole => k_is)
    (case l1_Wheel_whole => k_is)
    (case c1_Wheel_whole => k_is)
    (case k1_Wheel_whole => k_is)
    (case a1_l_whole => k_is)
    (case l1_l_whole => k_is)
    (case c1_l_whole => k_is)
    (case k1_l_whole => k_is)
    (case a1_l_at => k_is)
    (case l1_l_at => k_is)
    (case c1_l_at => k_is)
    (case k1_l_at => k_is)
    (case a1_l_number => k_is)
    (case l1_l_number => k_is)
    (case c1_l_number => k_is)
    (case k1_l_number => k_is)
    (case a1_l_shared => k_is)
    (case l1_l_shared => k_is)
    (case c1_l_shared => k_is)
    (case k1_l_shared => k_is)
    (case a1_l_moves => k_is)
    (case l1_l_moves => k_is)
    (case c1_l_moves => k_is)
    (case k1_l_moves => k_is)
    (case a1_l_all_moves => k_is)
    (case l1_l_all_moves => k_is)
    (case c1_l_all_moves => k_is)
    (case k1_l_all_moves => k_is)
    (case a1_l_kept => k_is)
    (case l1_l_kept => k_is)
    (case c1_l_kept => k_is)
    (case k1_l_kept => k_is)
    (case a1_l_widened => k_is)
    (case l1_l_widened => k_is)
    (case c1_l_widened => k_is)
    (case k1_l_widened => k_is)
    (case a1_law => k_is)
    (case l1_law => k_is)
    (case c1_law => k_is)
    (case k1_law => k_is)
    (case z_any => k_is)
    (case z_bool => k_is)
    (case z_enumerate => k_is)
    (case z_int => k_is)
    (case z_isinstance => k_is)
    (case z_len => k_is)
    (case z_list => k_is)
    (case z_range => k_is)
    (case z_zip => k_is)
    (case v_WIDEST => k_is)
    (case mk_Wheel => k_is)
    (case kc_Wheel => k_is)
    (case pg_Wheel => k_is)
    (case hd_Wheel => k_is)
    (case po_Wheel => k_is)
    (case sa_Wheel => k_is)
    (case nW_ring => k_is)
    (case nW_spokes => k_is)
    (case nW_size => k_is)
    (case x_BadWheel => k_exc)
    (case kx_BadWheel => k_is)
    (case rx_BadWheel => k_is)
    (case rt_BadWheel => k_is)
    (case x_NoMove => k_exc)
    (case kx_NoMove => k_is)
    (case rx_NoMove => k_is)
    (case rt_NoMove => k_is)
#print axioms PySem.Challenge.cw_tracebook_k27_whole_moves_and_norms_holds
