import PyProof.Rows.All
import Wide.All
import OpenK.AllK
import Wide.FinOn
import HandS.ForMost
import HandS.Exc
import HandS.ExcOwn
import HandS.TryOnly
import HandS.TryMany
import HandS.ExcInit
import HandS.CallSlots
import HandS.WordsExc
import HandS.SortInts
import HandS.SortKw
import HandS.IsInst
import HandS.Wide
import HandS.More
import HandS.Conv
import KE.OsSort
import HandS.SetFor
import HandS.Strs
import KE.KExcIs
import HandS.ExcField
import HandS.ClsMeth
import HandS.Codes
import HandS.MakeKw
import KE.KDictZip
import KE.KDictSum
import KE.KTurns
import HandS.Iter
import HandS.Defaults
import KE.SortData
import KE.DataCmp
import PySem.Challenge.RW_tracebook_k18_whole_folds_of_folds
set_option Elab.async false
set_option linter.all false
set_option maxRecDepth 100000
set_option maxHeartbeats 4000000
/-! TbBase: a typed layer over the hand layer's readings: what slots hold, told as Lean data. -/
namespace TB
open PySem L2

/-- the program's own classes -/
inductive CN where
  | BookError | BadSize | Stranger | NoUnit | NoBack | NotTogether | NoPart | NotSteady | BadWheel | NoMove | BadMarks | NoWay | NotKept | OtherGroup | OtherWheel | TooGreat | Group | Wheel | Carriers | Way | Regular | Lifted | Beside | Crossed | Backed | Within | Raised | Book
  deriving DecidableEq
/-- the written part, and where the program's own classes stand -/
structure Zz where
  K : PySem.W.Frag
  cls : CN → Addr

/-- a type whose data stand in the heap, never to be changed -/
class Rp (α : Type) where
  /-- what is taken where nothing stands -/
  df : α
  rp : Zz → Hp → V → α → Prop
  mono : ∀ {Z : Zz} {H H' : Hp} {v : V} {d : α}, Same H H' → rp Z H v d → rp Z H' v d

theorem paired_mono {α β : Type} {F G : α → β → Prop} (h : ∀ a b, F a b → G a b) : ∀ {l : List α} {m : List β}, Paired F l m → Paired G l m
  | _, _, .nil => .nil
  | _, _, .cons r t => .cons (h _ _ r) (paired_mono h t)
theorem paired_get {α β : Type} {F : α → β → Prop} : ∀ {l : List α} {m : List β} {i : Nat} {b : β}, Paired F l m → m[i]? = some b → ∃ a, l[i]? = some a ∧ F a b
  | _, _, _, _, .nil, e => by simp at e
  | _, _, 0, _, .cons r _, e => by simp at e; subst e; exact ⟨_, rfl, r⟩
  | _, _, i + 1, b, .cons _ t, e => by
    obtain ⟨u, h1, h2⟩ := paired_get (i := i) (b := b) t (by simpa using e)
    exact ⟨u, by simpa using h1, h2⟩
theorem paired_getL {α β : Type} {F : α → β → Prop} : ∀ {l : List α} {m : List β} {i : Nat} {a : α}, Paired F l m → l[i]? = some a → ∃ b, m[i]? = some b ∧ F a b
  | _, _, _, _, .nil, e => by simp at e
  | _, _, 0, _, .cons r _, e => by simp at e; subst e; exact ⟨_, rfl, r⟩
  | _, _, i + 1, b, .cons _ t, e => by
    obtain ⟨u, h1, h2⟩ := paired_getL (i := i) (a := b) t (by simpa using e)
    exact ⟨u, by simpa using h1, h2⟩
theorem paired_append {α β : Type} {F : α → β → Prop} : ∀ {l l' : List α} {m m' : List β}, Paired F l m → Paired F l' m' → Paired F (l ++ l') (m ++ m')
  | _, _, _, _, .nil, s => s
  | _, _, _, _, .cons r t, s => .cons r (paired_append t s)
theorem paired_set {α β : Type} {F : α → β → Prop} {a : α} {b : β} (h : F a b) : ∀ {l : List α} {m : List β} (i : Nat), Paired F l m → Paired F (l.set i a) (m.set i b)
  | _, _, _, .nil => .nil
  | _, _, 0, .cons _ t => .cons h t
  | _, _, i + 1, .cons r t => .cons r (paired_set h i t)
theorem paired_take {α β : Type} {F : α → β → Prop} : ∀ {l : List α} {m : List β} (n : Nat), Paired F l m → Paired F (l.take n) (m.take n)
  | _, _, 0, _ => .nil
  | _, _, _ + 1, .nil => .nil
  | _, _, n + 1, .cons r t => .cons r (paired_take n t)
theorem paired_drop {α β : Type} {F : α → β → Prop} : ∀ {l : List α} {m : List β} (n : Nat), Paired F l m → Paired F (l.drop n) (m.drop n)
  | _, _, 0, r => r
  | _, _, _ + 1, .nil => .nil
  | _, _, n + 1, .cons _ t => paired_drop n t
theorem paired_map_int : ∀ {vs : List V} {xs : List Int}, Paired (fun v d => v = V.int d) vs xs → vs = xs.map V.int
  | _, _, .nil => rfl
  | _, _, .cons r t => by rw [List.map_cons, ← r, ← paired_map_int t]
theorem paired_of_int : ∀ (xs : List Int), Paired (fun v d => v = V.int d) (xs.map V.int) xs
  | [] => .nil
  | _ :: t => .cons rfl (paired_of_int t)
theorem paired_map_bl : ∀ {vs : List V} {xs : List Bool}, Paired (fun v d => v = V.bl d) vs xs → vs = xs.map V.bl
  | _, _, .nil => rfl
  | _, _, .cons r t => by rw [List.map_cons, ← r, ← paired_map_bl t]

instance : Rp Int := ⟨0, fun _ _ v d => v = .int d, fun _ h => h⟩
instance : Rp Bool := ⟨false, fun _ _ v d => v = .bl d, fun _ h => h⟩
instance : Rp Unit := ⟨(), fun _ _ v _ => v = .non, fun _ h => h⟩
instance : Rp Str := ⟨Str.empty, fun _ _ v d => v = .str d, fun _ h => h⟩
instance {α : Type} [Rp α] : Rp (Option α) := ⟨none, fun Z H v d => match d with | none => v = .non | some x => Rp.rp Z H v x, fun {Z H H' v d} e h => by
  cases d with
  | none => exact h
  | some x => exact Rp.mono e h⟩
instance {α : Type} [Rp α] : Rp (List α) := ⟨[], fun Z H v d => ∃ a vs, v = .ref a ∧ H a = some (.lst vs) ∧ Paired (Rp.rp Z H) vs d,
  fun e h => by
    obtain ⟨a, vs, h1, h2, h3⟩ := h
    exact ⟨a, vs, h1, e _ _ h2, paired_mono (fun _ _ => Rp.mono e) h3⟩⟩
instance {α β : Type} [Rp α] [Rp β] : Rp (α × β) := ⟨(Rp.df, Rp.df), fun Z H v d => ∃ a x y, v = .ref a ∧ H a = some (.tup [x, y]) ∧ Rp.rp Z H x d.1 ∧ Rp.rp Z H y d.2,
  fun e h => by
    obtain ⟨a, x, y, h1, h2, h3, h4⟩ := h
    exact ⟨a, x, y, h1, e _ _ h2, Rp.mono e h3, Rp.mono e h4⟩⟩
/-- the script: a list that is known to the law's object -/
structure Scr where
  l : List Int
instance : Rp Scr := ⟨⟨[]⟩, fun Z H v d => ∃ a, v = .ref a ∧ SqL Z.K H a (d.l.map V.int), fun e h => by
    obtain ⟨a, h1, h2⟩ := h
    exact ⟨a, h1, e.seq h2⟩⟩
/-- a value of a mixed list: an int or a text -/
inductive IS where
  | i (n : Int) | s (x : Str)
  deriving DecidableEq
instance : Rp IS := ⟨.i 0, fun _ _ v d => match d with | .i n => v = .int n | .s x => v = .str x, fun {Z H H' v d} _ h => by cases d <;> exact h⟩

/-- h within these addresses -/
def res (H : Hp) (f : List Addr) : Hp := fun p => if p ∈ f then H p else none
theorem res_in {H : Hp} {f : List Addr} {p : Addr} (h : p ∈ f) : res H f p = H p := by simp [res, h]
theorem res_some {H : Hp} {f : List Addr} {p : Addr} {o : HO} (h : res H f p = some o) : p ∈ f ∧ H p = some o := by
  unfold res at h
  by_cases c : p ∈ f
  · rw [if_pos c] at h; exact ⟨c, h⟩
  · rw [if_neg c] at h; cases h
/-- own objects of any make: told of the frozen part and of the own objects alone -/
structure Own where
  G : Zz → Hp → Hp → V → Prop
  mono : ∀ {Z : Zz} {R R' h : Hp} {v : V}, Same R R' → G Z R h v → G Z R' h v
/-- what a slot holds -/
inductive Sl : Type 1
  /-- nothing that matters -/
  | un : Sl
  /-- data that never change -/
  | im {α : Type} [Rp α] (d : α) : Sl
  /-- a list of this frame's own -/
  | ol {α : Type} [Rp α] (xs : List α) : Sl
  /-- an own list of own lists -/
  | o2 {α : Type} [Rp α] (xss : List (List α)) : Sl
  /-- an own dict, keys ints -/
  | od {α : Type} [Rp α] (kvs : List (Int × α)) : Sl
  /-- own objects of any make -/
  | ow (O : Own) : Sl

section
variable (Z : Zz) (R H : Hp)
def kvOk {α : Type} [Rp α] (a : Key × V) (b : Int × α) : Prop := a.1 = Sum.inl b.1 ∧ Rp.rp Z R a.2 b.2
def inOk {α : Type} [Rp α] (q : Addr) (xs : List α) : Prop := ∃ vs, H q = some (.lst vs) ∧ Paired (Rp.rp Z R) vs xs
def slok (o : Option V) : Sl → List Addr → Prop
  | .un, f => f = []
  | @Sl.im _ _ d, f => f = [] ∧ ∃ v, o = some v ∧ Rp.rp Z R v d
  | @Sl.ol _ _ xs, f => ∃ p vs, f = [p] ∧ o = some (.ref p) ∧ H p = some (.lst vs) ∧ Paired (Rp.rp Z R) vs xs
  | @Sl.o2 _ _ xss, f => ∃ p qs, f = p :: qs ∧ o = some (.ref p) ∧ H p = some (.lst (qs.map V.ref)) ∧ Paired (inOk Z R H) qs xss
  | @Sl.od _ _ kvs, f => ∃ p kv, f = [p] ∧ o = some (.ref p) ∧ H p = some (.dK kv) ∧ Paired (kvOk Z R) kv kvs
  | .ow O, f => ∃ v, o = some v ∧ O.G Z R (res H f) v ∧ ∀ p ∈ f, H p ≠ none
def Es : List (Option V) → List Sl → List Addr → Prop
  | [], [], own => own = []
  | o :: σ, s :: Γ, own => ∃ f g, own = f ++ g ∧ slok Z R H o s f ∧ Es σ Γ g
  | _, _, _ => False
end
/-- the heap H over the frozen part R; B: the heap at the frame's entry, R0 the frozen part there; own: this frame's own objects -/
structure Hs (B R0 R H : Hp) (own : List Addr) : Prop where
  rh : Same R H
  bh : Same B H
  r0 : Same R0 R
  nw : ∀ b o, R b = some o → R0 b = some o ∨ B b = none
  ow : ∀ p ∈ own, R p = none ∧ B p = none
  nd : own.Nodup
def Sy (Z : Zz) (B R0 R H : Hp) (τ : List (Option V)) (Θ : List Sl) : Prop := ∃ own, Hs B R0 R H own ∧ Es Z R H τ Θ own

section
variable {Z : Zz} {B R0 R R' H H' : Hp} {τ : List (Option V)} {Θ : List Sl} {s : Sl} {o : Option V} {f own : List Addr}
theorem inOk_mono {α : Type} [Rp α] {q : Addr} {xs : List α} (e : Same R R') (k : H' q = H q) (h : inOk Z R H q xs) : inOk Z R' H' q xs := by
  obtain ⟨vs, h1, h2⟩ := h
  exact ⟨vs, by rw [k]; exact h1, paired_mono (fun _ _ => Rp.mono e) h2⟩
theorem paired_inOk {α : Type} [Rp α] : ∀ {qs : List Addr} {xss : List (List α)}, Same R R' → (∀ p ∈ qs, H' p = H p) → Paired (inOk Z R H) qs xss → Paired (inOk Z R' H') qs xss
  | _, _, _, _, .nil => .nil
  | _, _, e, k, .cons r t => .cons (inOk_mono e (k _ List.mem_cons_self) r) (paired_inOk e (fun p hp => k p (List.mem_cons_of_mem _ hp)) t)
theorem slok_mono (e : Same R R') (k : ∀ p ∈ f, H' p = H p) (h : slok Z R H o s f) : slok Z R' H' o s f := by
  cases s with
  | un => exact h
  | im d =>
    obtain ⟨h1, v, h2, h3⟩ := h
    exact ⟨h1, v, h2, Rp.mono e h3⟩
  | ol xs =>
    obtain ⟨p, vs, rfl, h2, h3, h4⟩ := h
    exact ⟨p, vs, rfl, h2, by rw [k p (by simp)]; exact h3, paired_mono (fun _ _ => Rp.mono e) h4⟩
  | o2 xss =>
    obtain ⟨p, qs, rfl, h2, h3, h4⟩ := h
    exact ⟨p, qs, rfl, h2, by rw [k p (by simp)]; exact h3, paired_inOk e (fun q hq => k q (List.mem_cons_of_mem _ hq)) h4⟩
  | od kvs =>
    obtain ⟨p, kv, rfl, h2, h3, h4⟩ := h
    exact ⟨p, kv, rfl, h2, by rw [k p (by simp)]; exact h3, paired_mono (fun _ _ q => ⟨q.1, Rp.mono e q.2⟩) h4⟩
  | ow O =>
    obtain ⟨v, h2, h3, h4⟩ := h
    have e2 : res H' f = res H f := by
      funext p
      by_cases c : p ∈ f
      · rw [res_in c, res_in c, k p c]
      · simp [res, c]
    exact ⟨v, h2, by rw [e2]; exact O.mono e h3, fun p hp => by rw [k p hp]; exact h4 p hp⟩
theorem inOk_some {α : Type} [Rp α] : ∀ {qs : List Addr} {xss : List (List α)}, Paired (inOk Z R H) qs xss → ∀ p ∈ qs, H p ≠ none
  | _, _, .nil, p, hp => by simp at hp
  | _, _, .cons r t, p, hp => by
    rcases List.mem_cons.mp hp with e | e
    · subst e
      obtain ⟨vs, h1, _⟩ := r
      rw [h1]; simp
    · exact inOk_some t p e
theorem slok_some (h : slok Z R H o s f) : ∀ p ∈ f, H p ≠ none := by
  intro q hq
  cases s with
  | un => rw [show f = [] from h] at hq; simp at hq
  | im d => rw [h.1] at hq; simp at hq
  | ol xs =>
    obtain ⟨p, vs, rfl, h2, h3, h4⟩ := h
    have e : q = p := by simpa using hq
    rw [e, h3]; simp
  | o2 xss =>
    obtain ⟨p, qs, rfl, h2, h3, h4⟩ := h
    rcases List.mem_cons.mp hq with e | e
    · rw [e, h3]; simp
    · exact inOk_some h4 q e
  | od kvs =>
    obtain ⟨p, kv, rfl, h2, h3, h4⟩ := h
    have e : q = p := by simpa using hq
    rw [e, h3]; simp
  | ow O =>
    obtain ⟨v, h2, h3, h4⟩ := h
    exact h4 q hq
theorem es_len : ∀ {τ : List (Option V)} {Θ : List Sl} {own : List Addr}, Es Z R H τ Θ own → τ.length = Θ.length
  | [], [], _, _ => rfl
  | _ :: _, _ :: _, _, ⟨_, _, _, _, t⟩ => by rw [List.length_cons, List.length_cons, es_len t]
  | [], _ :: _, _, h => h.elim
  | _ :: _, [], _, h => h.elim
theorem es_mono (e : Same R R') : ∀ {τ : List (Option V)} {Θ : List Sl} {own : List Addr}, (∀ p ∈ own, H' p = H p) → Es Z R H τ Θ own → Es Z R' H' τ Θ own
  | [], [], _, _, h => h
  | _ :: _, _ :: _, _, k, ⟨f, g, e1, h1, t⟩ => by
    subst e1
    exact ⟨f, g, rfl, slok_mono e (fun p hp => k p (List.mem_append_left _ hp)) h1, es_mono e (fun p hp => k p (List.mem_append_right _ hp)) t⟩
  | [], _ :: _, _, _, h => h.elim
  | _ :: _, [], _, _, h => h.elim
theorem es_some : ∀ {τ : List (Option V)} {Θ : List Sl} {own : List Addr}, Es Z R H τ Θ own → ∀ p ∈ own, H p ≠ none
  | [], [], _, h, p, hp => by rw [show _ = [] from h] at hp; simp at hp
  | _ :: _, _ :: _, _, ⟨f, g, e1, h1, t⟩, p, hp => by
    subst e1
    rcases List.mem_append.mp hp with q | q
    · exact slok_some h1 p q
    · exact es_some t p q
  | [], _ :: _, _, h, _, _ => h.elim
  | _ :: _, [], _, h, _, _ => h.elim
/-- one slot, and all else -/
theorem es_at : ∀ {τ : List (Option V)} {Θ : List Sl} {own : List Addr} {i : Nat} {s : Sl}, Es Z R H τ Θ own → Θ[i]? = some s →
    ∃ o g1 f g2, τ[i]? = some o ∧ own = g1 ++ f ++ g2 ∧ slok Z R H o s f ∧ ∀ (R' H' : Hp) (o' : Option V) (s' : Sl) (f' : List Addr), Same R R' → (∀ p ∈ g1 ++ g2, H' p = H p) → slok Z R' H' o' s' f' → Es Z R' H' (τ.set i o') (Θ.set i s') (g1 ++ f' ++ g2)
  | [], [], _, _, _, _, e => by simp at e
  | o :: τ, s0 :: Θ, _, 0, s, ⟨f, g, e1, h1, t⟩, e => by
    have e' : s0 = s := by simpa using e
    subst e'
    refine ⟨o, [], f, g, rfl, by simpa using e1, h1, fun R' H' o' s' f' a k h => ⟨f', g, by simp, h, es_mono a (fun p hp => k p (by simpa using hp)) t⟩⟩
  | o :: τ, s0 :: Θ, _, i + 1, s, ⟨f, g, e1, h1, t⟩, e => by
    obtain ⟨o1, g1, f1, g2, h2, h3, h4, h5⟩ := es_at (i := i) t (by simpa using e)
    refine ⟨o1, f ++ g1, f1, g2, by simpa using h2, by rw [e1, h3]; simp, h4, fun R' H' o' s' f' a k h => ⟨f, g1 ++ f' ++ g2, by simp, slok_mono a (fun p hp => k p (by simp [hp])) h1, h5 R' H' o' s' f' a (fun p hp => k p (by simp at hp ⊢; rcases hp with q | q <;> simp [q])) h⟩⟩
  | [], _ :: _, _, _, _, h, _ => h.elim
  | _ :: _, [], _, _, _, h, _ => h.elim
end
end TB

namespace TB
open PySem L2
section
variable {Z : Zz} {B R0 R R' H H' : Hp} {τ : List (Option V)} {Θ : List Sl} {s : Sl} {o : Option V} {f own own' : List Addr}
theorem hs_sub (h : Hs B R0 R H own) (k : ∀ p ∈ own', p ∈ own) (nd : own'.Nodup) : Hs B R0 R H own' := ⟨h.rh, h.bh, h.r0, h.nw, fun p hp => h.ow p (k p hp), nd⟩
theorem nd_mid {g1 f g2 : List Addr} (h : (g1 ++ f ++ g2).Nodup) : (g1 ++ [] ++ g2).Nodup := by
  simp only [List.nodup_append, List.mem_append] at h ⊢
  grind
theorem nd_move {f g1 f1 g2 : List Addr} (h : (f ++ (g1 ++ f1 ++ g2)).Nodup) : (g1 ++ f ++ g2).Nodup := by
  simp only [List.nodup_append, List.mem_append] at h ⊢
  grind
theorem nd_tail {f g : List Addr} (h : (f ++ g).Nodup) : g.Nodup := by
  simp only [List.nodup_append] at h
  exact h.2.1
theorem sy_get (S : Sy Z B R0 R H τ Θ) {i : Nat} (e : Θ[i]? = some s) : ∃ o f, τ[i]? = some o ∧ slok Z R H o s f := by
  obtain ⟨own, h, es⟩ := S
  obtain ⟨o, g1, f, g2, h1, _, h3, _⟩ := es_at es e
  exact ⟨o, f, h1, h3⟩
theorem sy_push {α : Type} [Rp α] {d : α} {v : V} (S : Sy Z B R0 R H τ Θ) (h : Rp.rp Z R v d) : Sy Z B R0 R H (some v :: τ) (.im d :: Θ) := by
  obtain ⟨own, hs, es⟩ := S
  exact ⟨own, hs, [], own, rfl, ⟨rfl, v, rfl, h⟩, es⟩
theorem sy_pushu (S : Sy Z B R0 R H τ Θ) : Sy Z B R0 R H (o :: τ) (.un :: Θ) := by
  obtain ⟨own, hs, es⟩ := S
  exact ⟨own, hs, [], own, rfl, rfl, es⟩
theorem sy_tail (S : Sy Z B R0 R H (o :: τ) (s :: Θ)) : Sy Z B R0 R H τ Θ := by
  obtain ⟨own, hs, f, g, e1, _, es⟩ := S
  subst e1
  exact ⟨g, hs_sub hs (fun p hp => List.mem_append_right _ hp) (nd_tail hs.nd), es⟩
theorem sy_top {α : Type} [Rp α] {d : α} (S : Sy Z B R0 R H (o :: τ) (.im d :: Θ)) : ∃ v, o = some v ∧ Rp.rp Z R v d := by
  obtain ⟨own, hs, f, g, e1, ⟨_, v, h1, h2⟩, es⟩ := S
  exact ⟨v, h1, h2⟩
/-- the top goes into slot i -/
theorem sy_move (S : Sy Z B R0 R H (o :: τ) (s :: Θ)) (i : Nat) : Sy Z B R0 R H (τ.set i o) (Θ.set i s) := by
  obtain ⟨own, hs, f, g, e1, h1, es⟩ := S
  subst e1
  cases e : Θ[i]? with
  | none =>
    have l1 : Θ.length ≤ i := List.getElem?_eq_none_iff.mp e
    have l2 : τ.length ≤ i := by rw [es_len es]; exact l1
    rw [List.set_eq_of_length_le l1, List.set_eq_of_length_le l2]
    exact ⟨g, hs_sub hs (fun p hp => List.mem_append_right _ hp) (nd_tail hs.nd), es⟩
  | some s0 =>
    obtain ⟨o0, g1, f1, g2, h2, h3, h4, h5⟩ := es_at es e
    subst h3
    refine ⟨g1 ++ f ++ g2, hs_sub hs (fun p hp => ?_) (nd_move hs.nd), h5 R H o s f (Same.refl _) (fun _ _ => rfl) h1⟩
    simp only [List.mem_append] at hp ⊢
    grind
theorem sy_forget' (S : Sy Z B R0 R H τ Θ) (i : Nat) : Sy Z B R0 R H τ (Θ.set i .un) := by
  obtain ⟨own, hs, es⟩ := S
  cases e : Θ[i]? with
  | none =>
    rw [List.set_eq_of_length_le (List.getElem?_eq_none_iff.mp e)]
    exact ⟨own, hs, es⟩
  | some s0 =>
    obtain ⟨o0, g1, f1, g2, h2, h3, h4, h5⟩ := es_at es e
    subst h3
    have h6 := h5 R H o0 .un [] (Same.refl _) (fun _ _ => rfl) rfl
    have e2 : τ.set i o0 = τ := by
      apply List.ext_getElem?
      intro j
      rw [List.getElem?_set]
      split
      · rename_i hj
        subst hj
        split
        · rw [h2]
        · rename_i hl
          rw [List.getElem?_eq_none (by omega)]
      · rfl
    rw [e2] at h6
    exact ⟨_, hs_sub hs (fun p hp => by simp only [List.mem_append] at hp ⊢; grind) (nd_mid hs.nd), h6⟩
theorem fresh_own (hs : Hs B R0 R H own) (es : Es Z R H τ Θ own) {p : Addr} (hp : H p = none) : R p = none ∧ B p = none ∧ p ∉ own := by
  refine ⟨hs.rh.free hp, hs.bh.free hp, fun hm => es_some es p hm hp⟩
theorem same_upd {p : Addr} {u : HO} (hp : H p = none) : Same H (upd H p u) := fun b o e => by
  rw [upd_ne (ne_of_none e hp)]
  exact e
/-- a new object that nobody needs -/
theorem sy_alloc (S : Sy Z B R0 R H τ Θ) {p : Addr} (hp : H p = none) (u : HO) : Sy Z B R0 R (upd H p u) τ Θ := by
  obtain ⟨own, hs, es⟩ := S
  obtain ⟨a, b, c⟩ := fresh_own hs es hp
  exact ⟨own, ⟨hs.rh.trans (same_upd hp), hs.bh.trans (same_upd hp), hs.r0, hs.nw, hs.ow, hs.nd⟩, es_mono (Same.refl _) (fun q hq => upd_ne (fun z => c (z ▸ hq))) es⟩
/-- a new object, frozen at once -/
theorem sy_froz (S : Sy Z B R0 R H τ Θ) {p : Addr} (hp : H p = none) (u : HO) : Sy Z B R0 (upd R p u) (upd H p u) τ Θ ∧ Same R (upd R p u) := by
  obtain ⟨own, hs, es⟩ := S
  obtain ⟨a, b, c⟩ := fresh_own hs es hp
  have sr : Same R (upd R p u) := same_upd a
  refine ⟨⟨own, ⟨fun q o e => ?_, hs.bh.trans (same_upd hp), hs.r0.trans sr, fun q o e => ?_, fun q hq => ?_, hs.nd⟩, es_mono sr (fun q hq => upd_ne (fun z => c (z ▸ hq))) es⟩, sr⟩
  · by_cases hq : q = p
    · subst hq
      rw [upd_same] at e ⊢
      exact e
    · rw [upd_ne hq] at e ⊢
      exact hs.rh _ _ e
  · by_cases hq : q = p
    · subst hq
      exact .inr b
    · rw [upd_ne hq] at e
      exact hs.nw _ _ e
  · have n : q ≠ p := fun z => c (z ▸ hq)
    rw [upd_ne n]
    exact hs.ow q hq
/-- a new own list | dict -/
theorem sy_newl {α : Type} [Rp α] {vs : List V} {xs : List α} (S : Sy Z B R0 R H τ Θ) {p : Addr} (hp : H p = none) (hv : Paired (Rp.rp Z R) vs xs) : Sy Z B R0 R (upd H p (.lst vs)) (some (.ref p) :: τ) (.ol xs :: Θ) := by
  obtain ⟨own, hs, es⟩ := S
  obtain ⟨a, b, c⟩ := fresh_own hs es hp
  refine ⟨p :: own, ⟨hs.rh.trans (same_upd hp), hs.bh.trans (same_upd hp), hs.r0, hs.nw, fun q hq => ?_, List.nodup_cons.mpr ⟨c, hs.nd⟩⟩, [p], own, rfl, ⟨p, vs, rfl, rfl, upd_same, hv⟩, es_mono (Same.refl _) (fun q hq => upd_ne (fun z => c (z ▸ hq))) es⟩
  rcases List.mem_cons.mp hq with z | z
  · rw [z]; exact ⟨a, b⟩
  · exact hs.ow q z
theorem sy_newd {α : Type} [Rp α] (S : Sy Z B R0 R H τ Θ) {p : Addr} (hp : H p = none) : Sy Z B R0 R (upd H p (.dK [])) (some (.ref p) :: τ) (.od ([] : List (Int × α)) :: Θ) := by
  obtain ⟨own, hs, es⟩ := S
  obtain ⟨a, b, c⟩ := fresh_own hs es hp
  refine ⟨p :: own, ⟨hs.rh.trans (same_upd hp), hs.bh.trans (same_upd hp), hs.r0, hs.nw, fun q hq => ?_, List.nodup_cons.mpr ⟨c, hs.nd⟩⟩, [p], own, rfl, ⟨p, [], rfl, rfl, upd_same, .nil⟩, es_mono (Same.refl _) (fun q hq => upd_ne (fun z => c (z ▸ hq))) es⟩
  rcases List.mem_cons.mp hq with z | z
  · rw [z]; exact ⟨a, b⟩
  · exact hs.ow q z
/-- an own list changes -/
theorem sy_mutl {α : Type} [Rp α] {xs : List α} (S : Sy Z B R0 R H τ Θ) {i : Nat} (e : Θ[i]? = some (.ol xs)) : ∃ p vs, τ[i]? = some (some (.ref p)) ∧ H p = some (.lst vs) ∧ Paired (Rp.rp Z R) vs xs ∧
    ∀ {β : Type} [Rp β] (vs' : List V) (ys : List β), Paired (Rp.rp Z R) vs' ys → Sy Z B R0 R (upd H p (.lst vs')) τ (Θ.set i (.ol ys)) := by
  obtain ⟨own, hs, es⟩ := S
  obtain ⟨o, g1, f, g2, h2, h3, ⟨p, vs, rfl, rfl, h4, h5⟩, h6⟩ := es_at es e
  subst h3
  refine ⟨p, vs, h2, h4, h5, fun {β} _ vs' ys hy => ?_⟩
  have hp := hs.ow p (by simp)
  have nd := hs.nd
  have ne : ∀ q ∈ g1 ++ g2, q ≠ p := fun q hq z => by
    subst z
    simp only [List.nodup_append, List.mem_append, List.mem_singleton] at nd hq
    grind
  have h7 := h6 R (upd H p (.lst vs')) (some (.ref p)) (.ol ys) [p] (Same.refl _) (fun q hq => upd_ne (ne q hq)) ⟨p, vs', rfl, rfl, upd_same, hy⟩
  have e2 : τ.set i (some (.ref p)) = τ := by
    apply List.ext_getElem?
    intro j
    rw [List.getElem?_set]
    split
    · rename_i hj
      subst hj
      split
      · rw [h2]
      · rename_i hl
        rw [List.getElem?_eq_none (by omega)]
    · rfl
  rw [e2] at h7
  exact ⟨_, ⟨fun q u a => by rw [upd_ne (ne_of_none a hp.1)]; exact hs.rh _ _ a, fun q u a => by rw [upd_ne (ne_of_none a hp.2)]; exact hs.bh _ _ a, hs.r0, hs.nw, hs.ow, hs.nd⟩, h7⟩
theorem sy_mutd {α : Type} [Rp α] {xs : List (Int × α)} (S : Sy Z B R0 R H τ Θ) {i : Nat} (e : Θ[i]? = some (.od xs)) : ∃ p kv, τ[i]? = some (some (.ref p)) ∧ H p = some (.dK kv) ∧ Paired (kvOk Z R) kv xs ∧
    ∀ {β : Type} [Rp β] (kv' : List (Key × V)) (ys : List (Int × β)), Paired (kvOk Z R) kv' ys → Sy Z B R0 R (upd H p (.dK kv')) τ (Θ.set i (.od ys)) := by
  obtain ⟨own, hs, es⟩ := S
  obtain ⟨o, g1, f, g2, h2, h3, ⟨p, vs, rfl, rfl, h4, h5⟩, h6⟩ := es_at es e
  subst h3
  refine ⟨p, vs, h2, h4, h5, fun {β} _ vs' ys hy => ?_⟩
  have hp := hs.ow p (by simp)
  have nd := hs.nd
  have ne : ∀ q ∈ g1 ++ g2, q ≠ p := fun q hq z => by
    subst z
    simp only [List.nodup_append, List.mem_append, List.mem_singleton] at nd hq
    grind
  have h7 := h6 R (upd H p (.dK vs')) (some (.ref p)) (.od ys) [p] (Same.refl _) (fun q hq => upd_ne (ne q hq)) ⟨p, vs', rfl, rfl, upd_same, hy⟩
  have e2 : τ.set i (some (.ref p)) = τ := by
    apply List.ext_getElem?
    intro j
    rw [List.getElem?_set]
    split
    · rename_i hj
      subst hj
      split
      · rw [h2]
      · rename_i hl
        rw [List.getElem?_eq_none (by omega)]
    · rfl
  rw [e2] at h7
  exact ⟨_, ⟨fun q u a => by rw [upd_ne (ne_of_none a hp.1)]; exact hs.rh _ _ a, fun q u a => by rw [upd_ne (ne_of_none a hp.2)]; exact hs.bh _ _ a, hs.r0, hs.nw, hs.ow, hs.nd⟩, h7⟩
/-- an own list is frozen -/
theorem sy_frl {α : Type} [Rp α] {xs : List α} (S : Sy Z B R0 R H τ Θ) {i : Nat} (e : Θ[i]? = some (.ol xs)) : ∃ R', Same R R' ∧ Sy Z B R0 R' H τ (Θ.set i (.im xs)) := by
  obtain ⟨own, hs, es⟩ := S
  obtain ⟨o, g1, f, g2, h2, h3, ⟨p, vs, rfl, rfl, h4, h5⟩, h6⟩ := es_at es e
  subst h3
  have hp := hs.ow p (by simp)
  have nd := hs.nd
  have ne : ∀ q ∈ g1 ++ g2, q ≠ p := fun q hq z => by
    subst z
    simp only [List.nodup_append, List.mem_append, List.mem_singleton] at nd hq
    grind
  have sr : Same R (upd R p (.lst vs)) := same_upd hp.1
  have h7 := h6 (upd R p (.lst vs)) H (some (.ref p)) (.im xs) [] sr (fun q hq => rfl) ⟨rfl, .ref p, rfl, p, vs, rfl, upd_same, paired_mono (fun _ _ => Rp.mono sr) h5⟩
  have e2 : τ.set i (some (.ref p)) = τ := by
    apply List.ext_getElem?
    intro j
    rw [List.getElem?_set]
    split
    · rename_i hj
      subst hj
      split
      · rw [h2]
      · rename_i hl
        rw [List.getElem?_eq_none (by omega)]
    · rfl
  rw [e2] at h7
  refine ⟨_, sr, _, ⟨fun q u a => ?_, hs.bh, hs.r0.trans sr, fun q u a => ?_, fun q hq => ?_, nd_mid hs.nd⟩, h7⟩
  · by_cases hq : q = p
    · subst hq
      rw [upd_same] at a
      rw [h4]; exact a
    · rw [upd_ne hq] at a
      exact hs.rh _ _ a
  · by_cases hq : q = p
    · subst hq
      exact .inr hp.2
    · rw [upd_ne hq] at a
      exact hs.nw _ _ a
  · rw [List.append_nil] at hq
    rw [upd_ne (ne q hq)]
    exact hs.ow q (by simp only [List.mem_append] at hq ⊢; grind)
end
end TB

/-! TbG: operators by values, whatever the kinds (ints or lists; lists, tuples or dicts). -/
namespace TB
open PySem PySem.Spec PyProof.Rows L2
theorem opR_or {X : Cx} {f : Value → Value → Sem Value} {r r' : R2} (h : OpR X f r) (h' : OpR X f r') : OpR X f (fun x y H Q => r x y H Q ∨ r' x y H Q) := by
  intro pins s σ H x y v u Q I rx ry q
  rcases q with q | q
  · exact h pins s σ H x y v u Q I rx ry q
  · exact h' pins s σ H x y v u Q I rx ry q
def rAddI : R2 := rI0 fun i j => .int (i + j)
def gAdd : R2 := fun x y H Q => rAddI x y H Q ∨ rCat x y H Q
def gMns : R2 := rI0 fun i j => .int (i - j)
def rMulI : R2 := rI CMulW fun i j => .int (i * j)
def rMulS : R2 := rI CMul fun i j => .int (i * j)
def gMul : R2 := fun x y H Q => rMulI x y H Q ∨ rRep x y H Q ∨ rMulS x y H Q
def gMod : R2 := rI (fun _ j => j ≠ 0) fun i j => .int (i.fmod j)
def rDivN : R2 := rI CDivN fun i j => .int (i.fdiv j)
def rDivW : R2 := rI CDivW fun i j => .int (i / j)
def gDiv : R2 := fun x y H Q => rDivN x y H Q ∨ rDivW x y H Q
def gPow : R2 := rI CPow fun i j => .int (i ^ j.toNat)
def gEq (K : PySem.W.Frag) : R2 := fun x y H Q => rEq x y H Q ∨ rEqD K x y H Q
def gNe (K : PySem.W.Frag) : R2 := fun x y H Q => rNe x y H Q ∨ rNeD K x y H Q
def gLt : R2 := rI0 fun i j => .bl (decide (i < j))
def gLe : R2 := rI0 fun i j => .bl (decide (i ≤ j))
def gGt : R2 := rI0 fun i j => .bl (decide (j < i))
def gGe : R2 := rI0 fun i j => .bl (decide (j ≤ i))
def gIsNot : R2 := fun x y H Q => y = .non ∧ Q (.bl (!decide (x = .non))) H
def rDIn : R2 := fun x y H Q => ∃ a o, y = .ref a ∧ DGet H a x o ∧ Q (.bl o.isSome) H
def rDNotIn : R2 := fun x y H Q => ∃ a o, y = .ref a ∧ DGet H a x o ∧ Q (.bl (!o.isSome)) H
def gIn (K : PySem.W.Frag) : R2 := fun x y H Q => rIn K false x y H Q ∨ rDIn x y H Q
def gNotIn (K : PySem.W.Frag) : R2 := fun x y H Q => rIn K true x y H Q ∨ rDNotIn x y H Q
def rDIx : R2 := fun x y H Q => ∃ a v, x = .ref a ∧ DGet H a y (some v) ∧ Q v H
def gIx (K : PySem.W.Frag) : R2 := fun x y H Q => rIxL K x y H Q ∨ rIxT K x y H Q ∨ rDIx x y H Q
def uNeg : V → Hp → VK → Prop := rU fun i => .int (-i)
section
variable {X : Cx}
theorem go_add : OpR X (binaryOp .Add) gAdd := opR_or op_add op_cat
theorem go_sub : OpR X (binaryOp .Sub) gMns := op_sub
theorem go_mul : OpR X (binaryOp .Mult) gMul := opR_or op_mulW (opR_or op_rep op_mul)
theorem go_mod : OpR X (binaryOp .Mod) gMod := op_modN
theorem go_div : OpR X (binaryOp .FloorDiv) gDiv := opR_or op_fdivN op_fdivW
theorem go_eq (hu : X.A.units + 64 < cLine) : OpR X (compareOp .Eq) (gEq X.K) := opR_or op_eq (op_eqD hu)
theorem go_ne (hu : X.A.units + 64 < cLine) : OpR X (compareOp .NotEq) (gNe X.K) := opR_or op_ne (op_neD hu)
theorem go_lt : OpR X (compareOp .Lt) gLt := op_lt
theorem go_le : OpR X (compareOp .LtE) gLe := op_le
theorem go_gt : OpR X (compareOp .Gt) gGt := op_gt
theorem go_ge : OpR X (compareOp .GtE) gGe := op_ge
theorem go_isNot : OpR X (compareOp .IsNot) gIsNot := op_notN
theorem go_dIn (hu : X.A.units + 1 < cLine) : OpR X (compareOp .In) rDIn := by
  intro pins s σ H x y v u Q I rx ry q
  obtain ⟨a, o, rfl, g, q⟩ := q
  cases ry
  exact d_in hu I g rx fun s3 I3 => ⟨.bl o.isSome, H, I3, rfl, q⟩
theorem go_dNotIn (hu : X.A.units + 1 < cLine) : OpR X (compareOp .NotIn) rDNotIn := by
  intro pins s σ H x y v u Q I rx ry q
  obtain ⟨a, o, rfl, g, q⟩ := q
  cases ry
  exact d_notIn hu I g rx fun s3 I3 => ⟨.bl (!o.isSome), H, I3, rfl, q⟩
theorem go_in (hu : X.A.units + 1 < cLine) : OpR X (compareOp .In) (gIn X.K) := opR_or op_in_seq (go_dIn hu)
theorem go_notIn (hu : X.A.units + 1 < cLine) : OpR X (compareOp .NotIn) (gNotIn X.K) := opR_or op_notIn_seq (go_dNotIn hu)
theorem go_dIx (hu : X.A.units + 1 < cLine) : IxR X rDIx := by
  intro value slice pins s σ H x y v u Q I rx ry h hs
  obtain ⟨a, w, rfl, g, q⟩ := h
  cases rx
  exact tail_any (dict_typeIs I g) PySem.F.slot_dict_getitem.lookup (d_getItem hu I g ry fun w' s3 I3 rw' => ⟨w, H, I3, rw', q⟩) hs
theorem go_ix (hu : X.A.units + 1 < cLine) : IxR X (gIx X.K) := ix_list.or (ix_tup.or (go_dIx hu))
theorem go_neg : UnR X (unaryOp .USub) uNeg := un_neg
theorem hu64 {k : Nat} {A : Around} (hr : Room k A) : A.units + 64 < cLine := by have := hr.un; omega
theorem hu1 {k : Nat} {A : Around} (hr : Room k A) : A.units + 1 < cLine := by have := hr.un; omega
end
end TB

/-! TbJ: the judgements: what an expression is worth (Ev), a test (EvT), arguments (EvA), what a walk draws (EvI), what a statement leads to (W). -/
namespace TB
open PySem L2
/-- a frame's state: ρ, Δ what lies ahead of the slots (values under way) -/
def Sx (Z : Zz) (B R0 R H : Hp) (ρ : List (Option V)) (Δ : List Sl) (σ : List (Option V)) (Γ : List Sl) : Prop := ρ.length = Δ.length ∧ Sy Z B R0 R H (ρ ++ σ) (Δ ++ Γ)
section
variable {Z : Zz} {B R0 R R' H H' : Hp} {ρ σ τ τ' : List (Option V)} {Δ Γ Θ Θ' : List Sl} {s : Sl} {o : Option V} {f own own' : List Addr}
theorem es_append : ∀ {τ τ' : List (Option V)} {Θ Θ' : List Sl} {own : List Addr}, τ.length = Θ.length → (Es Z R H (τ ++ τ') (Θ ++ Θ') own ↔ ∃ f g, own = f ++ g ∧ Es Z R H τ Θ f ∧ Es Z R H τ' Θ' g)
  | [], _, [], _, own, _ => ⟨fun h => ⟨[], own, rfl, rfl, h⟩, fun ⟨f, g, e, h1, h2⟩ => by
      have h1' : f = [] := h1
      subst h1'
      rw [e]
      exact h2⟩
  | o :: τ, τ', s :: Θ, Θ', own, hl => by
    have hl' : τ.length = Θ.length := by simpa using hl
    constructor
    · rintro ⟨f, g, e, h1, h2⟩
      obtain ⟨f2, g2, e2, h3, h4⟩ := (es_append hl').mp h2
      exact ⟨f ++ f2, g2, by rw [e, e2, List.append_assoc], ⟨f, f2, rfl, h1, h3⟩, h4⟩
    · rintro ⟨f, g, e, ⟨f1, f2, e1, h1, h2⟩, h3⟩
      exact ⟨f1, f2 ++ g, by rw [e, e1, List.append_assoc], h1, (es_append hl').mpr ⟨f2, g, rfl, h2, h3⟩⟩
  | [], _, _ :: _, _, _, hl => by simp at hl
  | _ :: _, _, [], _, _, hl => by simp at hl
theorem sy_sub {τ1 τ2 τ3 : List (Option V)} {Θ1 Θ2 Θ3 : List Sl} (h1 : τ1.length = Θ1.length) (h2 : τ2.length = Θ2.length) (S : Sy Z B R0 R H (τ1 ++ (τ2 ++ τ3)) (Θ1 ++ (Θ2 ++ Θ3))) : Sy Z B R0 R H (τ1 ++ τ3) (Θ1 ++ Θ3) := by
  obtain ⟨own, hs, es⟩ := S
  obtain ⟨f, g, rfl, e1, e2⟩ := (es_append h1).mp es
  obtain ⟨f2, g2, rfl, e3, e4⟩ := (es_append h2).mp e2
  refine ⟨f ++ g2, hs_sub hs (fun p hp => ?_) ?_, (es_append h1).mpr ⟨f, g2, rfl, e1, e4⟩⟩
  · simp only [List.mem_append] at hp ⊢
    grind
  · have nd := hs.nd
    simp only [List.nodup_append, List.mem_append] at nd ⊢
    grind
theorem sx_len (S : Sx Z B R0 R H ρ Δ σ Γ) : σ.length = Γ.length := by
  obtain ⟨h, own, _, es⟩ := S
  have := es_len es
  simp only [List.length_append] at this
  omega
theorem sx_same (S : Sx Z B R0 R H ρ Δ σ Γ) : Same R H := by
  obtain ⟨_, own, hs, _⟩ := S
  exact hs.rh
theorem sx_base (S : Sx Z B R0 R H ρ Δ σ Γ) : Same B H := by
  obtain ⟨_, own, hs, _⟩ := S
  exact hs.bh
theorem at_slot {α β : Type _} {l : List α} {m : List β} {i : Nat} {r : List β} (h : l.length = m.length) : (m ++ r)[l.length + i]? = r[i]? := by
  rw [h, List.getElem?_append_right (by omega)]
  congr 1
  omega
theorem at_slot' {α : Type _} {l r : List α} {i : Nat} : (l ++ r)[l.length + i]? = r[i]? := at_slot rfl
theorem sx_slot (S : Sx Z B R0 R H ρ Δ σ Γ) {i : Nat} (e : Γ[i]? = some s) : ∃ o f, σ[i]? = some o ∧ slok Z R H o s f := by
  obtain ⟨hl, S⟩ := S
  obtain ⟨o, f, h1, h2⟩ := sy_get S (i := ρ.length + i) (by rw [at_slot hl]; exact e)
  rw [at_slot'] at h1
  exact ⟨o, f, h1, h2⟩
theorem sx_im {α : Type} [Rp α] {d : α} (S : Sx Z B R0 R H ρ Δ σ Γ) {i : Nat} (e : Γ[i]? = some (.im d)) : ∃ v, σ[i]? = some (some v) ∧ Rp.rp Z R v d := by
  obtain ⟨o, f, h1, _, v, h2, h3⟩ := sx_slot S e
  exact ⟨v, by rw [h1, h2], h3⟩
theorem sx_push {α : Type} [Rp α] {d : α} {v : V} (S : Sx Z B R0 R H ρ Δ σ Γ) (h : Rp.rp Z R v d) : Sx Z B R0 R H (some v :: ρ) (.im d :: Δ) σ Γ := ⟨by simp [S.1], sy_push S.2 h⟩
theorem sx_pushu (S : Sx Z B R0 R H ρ Δ σ Γ) : Sx Z B R0 R H (o :: ρ) (.un :: Δ) σ Γ := ⟨by simp [S.1], sy_pushu S.2⟩
theorem sx_pop {s : Sl} (S : Sx Z B R0 R H (o :: ρ) (s :: Δ) σ Γ) : Sx Z B R0 R H ρ Δ σ Γ := ⟨by have := S.1; simpa using this, sy_tail S.2⟩
theorem sx_pop2 {o2 : Option V} {s s2 : Sl} (S : Sx Z B R0 R H (o :: o2 :: ρ) (s :: s2 :: Δ) σ Γ) : Sx Z B R0 R H (o :: ρ) (s :: Δ) σ Γ :=
  ⟨by have := S.1; simpa using this, sy_sub (τ1 := [o]) (τ2 := [o2]) (Θ1 := [s]) (Θ2 := [s2]) rfl rfl S.2⟩
theorem sx_top {α : Type} [Rp α] {d : α} (S : Sx Z B R0 R H (o :: ρ) (.im d :: Δ) σ Γ) : ∃ v, o = some v ∧ Rp.rp Z R v d := sy_top S.2
theorem sx_top' {α : Type} [Rp α] {d : α} {v : V} (S : Sx Z B R0 R H (some v :: ρ) (.im d :: Δ) σ Γ) : Rp.rp Z R v d := by
  obtain ⟨w, h1, h2⟩ := sx_top S
  cases h1
  exact h2
theorem sx_drop {ρ' : List (Option V)} {Δ' : List Sl} (h : ρ'.length = Δ'.length) (S : Sx Z B R0 R H (ρ' ++ ρ) (Δ' ++ Δ) σ Γ) : Sx Z B R0 R H ρ Δ σ Γ := by
  obtain ⟨h1, S⟩ := S
  rw [List.length_append, List.length_append] at h1
  exact ⟨by omega, sy_sub (τ1 := []) (Θ1 := []) rfl h (by simpa using S)⟩
theorem sx_drop1 {ρ' : List (Option V)} {Δ' : List Sl} (h : ρ'.length = Δ'.length) (S : Sx Z B R0 R H (o :: (ρ' ++ ρ)) (s :: (Δ' ++ Δ)) σ Γ) : Sx Z B R0 R H (o :: ρ) (s :: Δ) σ Γ := by
  obtain ⟨h1, S⟩ := S
  simp only [List.length_cons, List.length_append] at h1
  refine ⟨by simp; omega, sy_sub (τ1 := [o]) (Θ1 := [s]) (τ2 := ρ') (Θ2 := Δ') rfl h (by simpa using S)⟩
/-- the slots are let go -/
theorem sx_leave (S : Sx Z B R0 R H ρ Δ σ Γ) : Sx Z B R0 R H ρ Δ [] [] := by
  refine ⟨S.1, ?_⟩
  have h := sx_len S
  exact sy_sub (τ1 := ρ) (Θ1 := Δ) (τ2 := σ) (Θ2 := Γ) (τ3 := []) (Θ3 := []) S.1 h (by simpa using S.2)
theorem sx_asg (S : Sx Z B R0 R H (o :: ρ) (s :: Δ) σ Γ) (i : Nat) : Sx Z B R0 R H ρ Δ (σ.set i o) (Γ.set i s) := by
  obtain ⟨h, S⟩ := S
  have h' : ρ.length = Δ.length := by simpa using h
  refine ⟨h', ?_⟩
  have q := sy_move (τ := ρ ++ σ) (Θ := Δ ++ Γ) S (ρ.length + i)
  rw [List.set_append_right _ _ (by omega), h', List.set_append_right _ _ (by omega), show Δ.length + i - Δ.length = i by omega] at q
  exact q
theorem sx_forget (S : Sx Z B R0 R H ρ Δ σ Γ) (i : Nat) : Sx Z B R0 R H ρ Δ σ (Γ.set i .un) := by
  obtain ⟨h, S⟩ := S
  refine ⟨h, ?_⟩
  have q := sy_forget' S (Δ.length + i)
  rw [List.set_append_right _ _ (by omega), show Δ.length + i - Δ.length = i by omega] at q
  exact q
theorem sx_forgets (S : Sx Z B R0 R H ρ Δ σ Γ) (i : Nat) (o' : Option V) : Sx Z B R0 R H ρ Δ (σ.set i o') (Γ.set i .un) := sx_asg (sx_pushu S) i
theorem sx_alloc (S : Sx Z B R0 R H ρ Δ σ Γ) {p : Addr} (hp : H p = none) (u : HO) : Sx Z B R0 R (upd H p u) ρ Δ σ Γ := ⟨S.1, sy_alloc S.2 hp u⟩
theorem sx_froz (S : Sx Z B R0 R H ρ Δ σ Γ) {p : Addr} (hp : H p = none) (u : HO) : Sx Z B R0 (upd R p u) (upd H p u) ρ Δ σ Γ ∧ Same R (upd R p u) := ⟨⟨S.1, (sy_froz S.2 hp u).1⟩, (sy_froz S.2 hp u).2⟩
theorem sx_newl {α : Type} [Rp α] {vs : List V} {xs : List α} (S : Sx Z B R0 R H ρ Δ σ Γ) {p : Addr} (hp : H p = none) (hv : Paired (Rp.rp Z R) vs xs) : Sx Z B R0 R (upd H p (.lst vs)) (some (.ref p) :: ρ) (.ol xs :: Δ) σ Γ :=
  ⟨by simp [S.1], sy_newl S.2 hp hv⟩
theorem sx_newd {α : Type} [Rp α] (S : Sx Z B R0 R H ρ Δ σ Γ) {p : Addr} (hp : H p = none) : Sx Z B R0 R (upd H p (.dK [])) (some (.ref p) :: ρ) (.od ([] : List (Int × α)) :: Δ) σ Γ := ⟨by simp [S.1], sy_newd S.2 hp⟩
theorem sx_mutl {α : Type} [Rp α] {xs : List α} (S : Sx Z B R0 R H ρ Δ σ Γ) {i : Nat} (e : Γ[i]? = some (.ol xs)) : ∃ p vs, σ[i]? = some (some (.ref p)) ∧ H p = some (.lst vs) ∧ Paired (Rp.rp Z R) vs xs ∧
    ∀ {β : Type} [Rp β] (vs' : List V) (ys : List β), Paired (Rp.rp Z R) vs' ys → Sx Z B R0 R (upd H p (.lst vs')) ρ Δ σ (Γ.set i (.ol ys)) := by
  obtain ⟨h, S⟩ := S
  obtain ⟨p, vs, h1, h2, h3, h4⟩ := sy_mutl S (i := ρ.length + i) (by rw [at_slot h]; exact e)
  rw [at_slot'] at h1
  refine ⟨p, vs, h1, h2, h3, fun vs' ys hy => ⟨h, ?_⟩⟩
  have q := h4 vs' ys hy
  rw [h, List.set_append_right _ _ (by omega), show Δ.length + i - Δ.length = i by omega] at q
  exact q
theorem sx_mutd {α : Type} [Rp α] {xs : List (Int × α)} (S : Sx Z B R0 R H ρ Δ σ Γ) {i : Nat} (e : Γ[i]? = some (.od xs)) : ∃ p kv, σ[i]? = some (some (.ref p)) ∧ H p = some (.dK kv) ∧ Paired (kvOk Z R) kv xs ∧
    ∀ {β : Type} [Rp β] (kv' : List (Key × V)) (ys : List (Int × β)), Paired (kvOk Z R) kv' ys → Sx Z B R0 R (upd H p (.dK kv')) ρ Δ σ (Γ.set i (.od ys)) := by
  obtain ⟨h, S⟩ := S
  obtain ⟨p, vs, h1, h2, h3, h4⟩ := sy_mutd S (i := ρ.length + i) (by rw [at_slot h]; exact e)
  rw [at_slot'] at h1
  refine ⟨p, vs, h1, h2, h3, fun vs' ys hy => ⟨h, ?_⟩⟩
  have q := h4 vs' ys hy
  rw [h, List.set_append_right _ _ (by omega), show Δ.length + i - Δ.length = i by omega] at q
  exact q
/-- the top, an own list, changes -/
theorem sx_mutTop {α : Type} [Rp α] {xs : List α} (S : Sx Z B R0 R H (o :: ρ) (.ol xs :: Δ) σ Γ) : ∃ p vs, o = some (.ref p) ∧ H p = some (.lst vs) ∧ Paired (Rp.rp Z R) vs xs ∧
    ∀ {β : Type} [Rp β] (vs' : List V) (ys : List β), Paired (Rp.rp Z R) vs' ys → Sx Z B R0 R (upd H p (.lst vs')) (o :: ρ) (.ol ys :: Δ) σ Γ := by
  obtain ⟨h, S⟩ := S
  obtain ⟨p, vs, h1, h2, h3, h4⟩ := sy_mutl S (i := 0) rfl
  refine ⟨p, vs, by simpa using h1, h2, h3, fun vs' ys hy => ⟨by simpa using h, ?_⟩⟩
  exact h4 vs' ys hy
theorem sx_frl {α : Type} [Rp α] {xs : List α} (S : Sx Z B R0 R H ρ Δ σ Γ) {i : Nat} (e : Γ[i]? = some (.ol xs)) : ∃ R', Same R R' ∧ Sx Z B R0 R' H ρ Δ σ (Γ.set i (.im xs)) := by
  obtain ⟨h, S⟩ := S
  obtain ⟨R', h1, h2⟩ := sy_frl S (i := ρ.length + i) (by rw [at_slot h]; exact e)
  rw [h, List.set_append_right _ _ (by omega), show Δ.length + i - Δ.length = i by omega] at h2
  exact ⟨R', h1, h, h2⟩
theorem sx_frTop {α : Type} [Rp α] {xs : List α} (S : Sx Z B R0 R H (o :: ρ) (.ol xs :: Δ) σ Γ) : ∃ R', Same R R' ∧ Sx Z B R0 R' H (o :: ρ) (.im xs :: Δ) σ Γ := by
  obtain ⟨h, S⟩ := S
  obtain ⟨R', h1, h2⟩ := sy_frl S (i := 0) rfl
  exact ⟨R', h1, by simpa using h, h2⟩
end

/-! ### refusals -/
structure Rf where
  name : CN
  fs : List (Str × V)
/-- a refusal: its class, its dict in H, which is new since B -/
def RepEx (Z : Zz) (B H : Hp) (r : Rf) (cls : Value) (d : Option Addr) : Prop := cls = .ref (Z.cls r.name) ∧ ((r.fs = [] ∧ d = none) ∨ (r.fs ≠ [] ∧ ∃ dx, d = some dx ∧ B dx = none ∧ H dx = some (.xd r.fs)))
theorem RepEx.mono {Z : Zz} {B H H' : Hp} {r : Rf} {cls : Value} {d : Option Addr} (e : Same H H') (h : RepEx Z B H r cls d) : RepEx Z B H' r cls d := by
  obtain ⟨h1, h2 | ⟨h2, dx, h3, h4, h5⟩⟩ := h
  · exact ⟨h1, .inl h2⟩
  · exact ⟨h1, .inr ⟨h2, dx, h3, h4, e _ _ h5⟩⟩
/-- the written part, what is wished of an exception, which refusals may come -/
structure Cn where
  Z : Zz
  X : WX
  ex : Rf → List Sl → Prop
abbrev Cn.no (c : Cn) : Cn := { c with ex := fun _ _ => False }
def Xok (c : Cn) (B R0 : Hp) (ρ : List (Option V)) (Δ : List Sl) : Prop := ∀ R' H' σ' Γ' r cls d, Sx c.Z B R0 R' H' ρ Δ σ' Γ' → RepEx c.Z B R' r cls d → c.ex r Γ' → c.X cls d σ' H'
theorem Xok.push {c : Cn} {B R0 : Hp} {ρ ρ' : List (Option V)} {Δ Δ' : List Sl} (h : ρ'.length = Δ'.length) (x : Xok c B R0 ρ Δ) : Xok c B R0 (ρ' ++ ρ) (Δ' ++ Δ) := fun R' H' σ' Γ' r cls d S => x R' H' σ' Γ' r cls d (sx_drop h S)
theorem Xok.push1 {c : Cn} {B R0 : Hp} {ρ : List (Option V)} {Δ : List Sl} {o : Option V} {s : Sl} (x : Xok c B R0 ρ Δ) : Xok c B R0 (o :: ρ) (s :: Δ) := fun R' H' σ' Γ' r cls d S => x R' H' σ' Γ' r cls d (sx_pop S)
theorem Xok.no (c : Cn) (B R0 : Hp) (ρ : List (Option V)) (Δ : List Sl) : Xok c.no B R0 ρ Δ := fun _ _ _ _ _ _ _ _ _ z => z.elim

/-! ### the judgements -/
def Ev (c : Cn) (Γ : List Sl) (t : TE) (s : Sl) : Prop := ∀ B R0 R H ρ Δ σ, Sx c.Z B R0 R H ρ Δ σ Γ → ∀ Q : VK, (∀ v R' H', Sx c.Z B R0 R' H' (some v :: ρ) (s :: Δ) σ Γ → Q v H') → Xok c B R0 ρ Δ → t σ H Q
def EvT (c : Cn) (Γ : List Sl) (t : TT) (b : Bool) : Prop := ∀ B R0 R H ρ Δ σ, Sx c.Z B R0 R H ρ Δ σ Γ → ∀ Q : Bool → Hp → Prop, (∀ R' H', Sx c.Z B R0 R' H' ρ Δ σ Γ → Q b H') → Xok c B R0 ρ Δ → t σ H Q
inductive Slims (Z : Zz) (R : Hp) : List V → List Sl → Prop
  | nil : Slims Z R [] []
  | cons {α : Type} [Rp α] {v : V} {d : α} {vs : List V} {ss : List Sl} : Rp.rp Z R v d → Slims Z R vs ss → Slims Z R (v :: vs) (.im d :: ss)
def EvA (c : Cn) (Γ : List Sl) (t : TA) (ss : List Sl) : Prop := ∀ B R0 R H ρ Δ σ, Sx c.Z B R0 R H ρ Δ σ Γ → ∀ Q : List V → Hp → Prop, (∀ vs R' H', Sx c.Z B R0 R' H' ρ Δ σ Γ → Slims c.Z R' vs ss → Q vs H') → Xok c B R0 ρ Δ → t σ H Q
structure Po where
  nx : List Sl → Prop
  rt : Sl → Prop
  bk : List Sl → Prop := fun _ => False
  ct : List Sl → Prop := fun _ => False
def W (c : Cn) (Γ : List Sl) (t : TS) (P : Po) : Prop := ∀ B R0 R H ρ Δ σ D, Sx c.Z B R0 R H ρ Δ σ Γ →
  (∀ R' H' σ' Γ', Sx c.Z B R0 R' H' ρ Δ σ' Γ' → P.nx Γ' → D.nx σ' H') → (∀ R' H' v s, Sx c.Z B R0 R' H' (some v :: ρ) (s :: Δ) [] [] → P.rt s → D.rt v H') →
  (∀ R' H' σ' Γ', Sx c.Z B R0 R' H' ρ Δ σ' Γ' → P.bk Γ' → D.bk σ' H') → (∀ R' H' σ' Γ', Sx c.Z B R0 R' H' ρ Δ σ' Γ' → P.ct Γ' → D.ct σ' H') → Xok c B R0 ρ Δ → t D σ H
/-- forget the block's own slots -/
def wipeG (Γ : List Sl) : List Nat → List Sl
  | [] => Γ
  | v :: vs => (wipeG Γ vs).set v .un
/-- nothing stands in these slots -/
def UnAt (Γ : List Sl) : List Nat → Prop
  | [] => True
  | v :: vs => (Γ[v]? = some .un ∨ Γ.length ≤ v) ∧ UnAt Γ vs
/-- a walk: n turns, turn i stores as us i tells, into slots of js -/
structure ItOk (Z : Zz) (B R0 : Hp) (ρ : List (Option V)) (Δ : List Sl) (J : It) (g : TG) (n : Nat) (us : Nat → List Sl → List Sl) (js : List Nat) : Prop where
  back : ∀ (i : Nat) (Γ : List Sl) (vs : List Nat), (∀ j ∈ js, j ∈ vs) → wipeG (us i Γ) vs = wipeG Γ vs
  go : ∀ {R H : Hp} {ρx : List (Option V)} {Δx : List Sl} {σ : List (Option V)} {Γ : List Sl} {i : Nat}, ρx.length = Δx.length → Sx Z B R0 R H (ρx ++ ρ) (Δx ++ Δ) σ Γ → i < n → J.go i H
  stop : ∀ {R H : Hp} {ρx : List (Option V)} {Δx : List Sl} {σ : List (Option V)} {Γ : List Sl}, ρx.length = Δx.length → Sx Z B R0 R H (ρx ++ ρ) (Δx ++ Δ) σ Γ → J.stop n H
  yld : ∀ {R H : Hp} {ρx : List (Option V)} {Δx : List Sl} {σ : List (Option V)} {Γ : List Sl} {i : Nat} {x : V} {H' : Hp}, ρx.length = Δx.length → Sx Z B R0 R H (ρx ++ ρ) (Δx ++ Δ) σ Γ → i < n → J.yld i H x H' → ∀ K : St → Hp → Prop,
    (∀ R2 σ2 H2, Sx Z B R0 R2 H2 (ρx ++ ρ) (Δx ++ Δ) σ2 (us i Γ) → (∀ vs : List Nat, (∀ j ∈ js, j ∈ vs) → wipe σ2 vs = wipe σ vs) → K σ2 H2) → g x σ H' K
def EvI (c : Cn) (Γ : List Sl) (wi : TI) (g : TG) (n : Nat) (us : Nat → List Sl → List Sl) (js : List Nat) : Prop := ∀ B R0 R H ρ Δ σ, Sx c.Z B R0 R H ρ Δ σ Γ → ∀ K : It → Hp → Prop,
  (∀ J R' H' ρ' Δ', ρ'.length = Δ'.length → Sx c.Z B R0 R' H' (ρ' ++ ρ) (Δ' ++ Δ) σ Γ → ItOk c.Z B R0 (ρ' ++ ρ) (Δ' ++ Δ) J g n us js → K J H') → Xok c B R0 ρ Δ → wi σ H K
end TB

/-! TbR: the rules of the judgements. -/
namespace TB
open PySem L2
variable {c : Cn} {Γ : List Sl} {ta tb te tl : TE} {t u : TT} {s : Sl} {α β γ : Type} {_ : Rp α} {_ : Rp β} {_ : Rp γ}

/-- the item of a list at an int -/
def gt {α : Type} [Rp α] (xs : List α) (i : Int) : α := xs.getD i.toNat Rp.df
theorem gt_nat {α : Type} [Rp α] {xs : List α} {i : Nat} (h : i < xs.length) : gt xs (i : Int) = xs[i] := by simp [gt, h]
theorem gt_some {α : Type} [Rp α] {xs : List α} {i : Int} (h0 : 0 ≤ i) (h1 : i < xs.length) : xs[i.toNat]? = some (gt xs i) := by
  have : i.toNat < xs.length := by omega
  simp [gt, this]
theorem atI_of {α : Type} {xs : List α} {i : Int} {x : α} (h0 : 0 ≤ i) (h1 : i < xs.length) (e : xs[i.toNat]? = some x) : atI xs i = some x := by
  unfold atI ixN
  rw [if_pos h0, if_pos h1]
  exact e

/-! ### expressions -/
theorem ev_is {s' : Sl} (h : Ev c Γ te s) (e : s = s') : Ev c Γ te s' := e ▸ h
theorem ev_to {d d' : α} (h : Ev c Γ te (.im d)) (e : d = d') : Ev c Γ te (.im d') := e ▸ h
theorem et_to {b b' : Bool} (h : EvT c Γ t b) (e : b = b') : EvT c Γ t b' := e ▸ h
theorem ev_var {i : Nat} {d : α} (e : Γ[i]? = some (.im d)) : Ev c Γ (tVar i) (.im d) := fun B R0 R H ρ Δ σ S Q q _ => by
  obtain ⟨v, h1, h2⟩ := sx_im S e
  exact ⟨v, h1, q v R H (sx_push S h2)⟩
theorem ev_int {i : Int} : Ev c Γ (tC (.int i)) (.im i) := fun B R0 R H ρ Δ σ S Q q _ => q _ R H (sx_push S rfl)
theorem ev_bl {b : Bool} : Ev c Γ (tC (.bl b)) (.im b) := fun B R0 R H ρ Δ σ S Q q _ => q _ R H (sx_push S rfl)
theorem ev_str {x : Str} : Ev c Γ (tC (.str x)) (.im x) := fun B R0 R H ρ Δ σ S Q q _ => q _ R H (sx_push S rfl)
theorem ev_non : Ev c Γ (tC .non) (.im ()) := fun B R0 R H ρ Δ σ S Q q _ => q _ R H (sx_push S rfl)
theorem ev_none : Ev c Γ (tC .non) (.im (none : Option α)) := fun B R0 R H ρ Δ σ S Q q _ => q _ R H (sx_push S rfl)
theorem ev_unopt {d : α} (h : Ev c Γ te (.im (some d))) : Ev c Γ te (.im d) := fun B R0 R H ρ Δ σ S Q q x => h B R0 R H ρ Δ σ S Q (fun v R' H' S' => q v R' H' (sx_push (sx_pop S') (show Rp.rp c.Z R' v d from sx_top' S'))) x
theorem ev_fr {xs : List α} (h : Ev c Γ te (.ol xs)) : Ev c Γ te (.im xs) := fun B R0 R H ρ Δ σ S Q q x => h B R0 R H ρ Δ σ S Q (fun v R' H' S' => by
  obtain ⟨R2, _, S2⟩ := sx_frTop S'
  exact q v R2 H' S2) x
theorem ev_op {r : R2} {x : α} {y : β} (ha : Ev c Γ ta (.im x)) (hb : Ev c Γ tb (.im y))
    (hr : ∀ B R0 R H ρ Δ σ v w, Sx c.Z B R0 R H ρ Δ σ Γ → Rp.rp c.Z R v x → Rp.rp c.Z R w y → ∀ Q : VK, (∀ z R' H', Sx c.Z B R0 R' H' (some z :: ρ) (s :: Δ) σ Γ → Q z H') → r v w H Q) : Ev c Γ (tOp r ta tb) s :=
  fun B R0 R H ρ Δ σ S Q q xk => ha B R0 R H ρ Δ σ S _ (fun v R1 H1 S1 => hb B R0 R1 H1 _ _ σ S1 _ (fun w R2 H2 S2 => hr B R0 R2 H2 ρ Δ σ v w (sx_pop (sx_pop S2)) (sx_top' (sx_pop S2)) (sx_top' S2) Q q) xk.push1) xk
/-- an operation on flat values -/
theorem ev_opv {r : R2} {x : α} {y : β} {z : γ} (ha : Ev c Γ ta (.im x)) (hb : Ev c Γ tb (.im y)) (hr : ∀ R H v w, Same R H → Rp.rp c.Z R v x → Rp.rp c.Z R w y → ∃ k, Rp.rp c.Z R k z ∧ ∀ Q : VK, Q k H → r v w H Q) : Ev c Γ (tOp r ta tb) (.im z) :=
  ev_op ha hb fun B R0 R H ρ Δ σ v w S rv rw Q q => by
    obtain ⟨k, h1, h2⟩ := hr R H v w (sx_same S) rv rw
    exact h2 Q (q k R H (sx_push S h1))
section
variable {i j : Int}
theorem ev_add (ha : Ev c Γ ta (.im i)) (hb : Ev c Γ tb (.im j)) : Ev c Γ (tOp gAdd ta tb) (.im (i + j)) := ev_opv ha hb fun R H v w _ rv rw => ⟨.int (i + j), rfl, fun Q q => .inl ⟨i, j, rv, rw, q⟩⟩
theorem ev_sub (ha : Ev c Γ ta (.im i)) (hb : Ev c Γ tb (.im j)) : Ev c Γ (tOp gMns ta tb) (.im (i - j)) := ev_opv ha hb fun R H v w _ rv rw => ⟨.int (i - j), rfl, fun Q q => ⟨i, j, rv, rw, q⟩⟩
theorem ev_mul (ha : Ev c Γ ta (.im i)) (hb : Ev c Γ tb (.im j)) (h : CMulW i j) : Ev c Γ (tOp gMul ta tb) (.im (i * j)) := ev_opv ha hb fun R H v w _ rv rw => ⟨.int (i * j), rfl, fun Q q => .inl ⟨i, j, rv, rw, h, q⟩⟩
theorem ev_mod (ha : Ev c Γ ta (.im i)) (hb : Ev c Γ tb (.im j)) (h : 0 < j) : Ev c Γ (tOp gMod ta tb) (.im (i % j)) := ev_opv ha hb fun R H v w _ rv rw => ⟨.int (i % j), rfl, fun Q q => ⟨i, j, rv, rw, by omega, by show Q (.int (i.fmod j)) H; rw [Int.fmod_eq_emod_of_nonneg _ (by omega)]; exact q⟩⟩
theorem ev_div (ha : Ev c Γ ta (.im i)) (hb : Ev c Γ tb (.im j)) (h : 0 < j) (h2 : j < 1073741824) : Ev c Γ (tOp gDiv ta tb) (.im (i / j)) := ev_opv ha hb fun R H v w _ rv rw => ⟨.int (i / j), rfl, fun Q q => .inl ⟨i, j, rv, rw, ⟨by omega, by omega⟩, by show Q (.int (i.fdiv j)) H; rw [Int.fdiv_eq_ediv_of_nonneg _ (by omega)]; exact q⟩⟩
theorem ev_pow (ha : Ev c Γ ta (.im i)) (hb : Ev c Γ tb (.im j)) (h : CPow i j) : Ev c Γ (tOp gPow ta tb) (.im (i ^ j.toNat)) := ev_opv ha hb fun R H v w _ rv rw => ⟨.int (i ^ j.toNat), rfl, fun Q q => ⟨i, j, rv, rw, h, q⟩⟩
theorem ev_lt (ha : Ev c Γ ta (.im i)) (hb : Ev c Γ tb (.im j)) : Ev c Γ (tOp gLt ta tb) (.im (decide (i < j))) := ev_opv ha hb fun R H v w _ rv rw => ⟨.bl _, rfl, fun Q q => ⟨i, j, rv, rw, q⟩⟩
theorem ev_le (ha : Ev c Γ ta (.im i)) (hb : Ev c Γ tb (.im j)) : Ev c Γ (tOp gLe ta tb) (.im (decide (i ≤ j))) := ev_opv ha hb fun R H v w _ rv rw => ⟨.bl _, rfl, fun Q q => ⟨i, j, rv, rw, q⟩⟩
theorem ev_gt (ha : Ev c Γ ta (.im i)) (hb : Ev c Γ tb (.im j)) : Ev c Γ (tOp gGt ta tb) (.im (decide (j < i))) := ev_opv ha hb fun R H v w _ rv rw => ⟨.bl _, rfl, fun Q q => ⟨i, j, rv, rw, q⟩⟩
theorem ev_ge (ha : Ev c Γ ta (.im i)) (hb : Ev c Γ tb (.im j)) : Ev c Γ (tOp gGe ta tb) (.im (decide (j ≤ i))) := ev_opv ha hb fun R H v w _ rv rw => ⟨.bl _, rfl, fun Q q => ⟨i, j, rv, rw, q⟩⟩
theorem int_eq_iff {i j : Int} : decide (V.int i = V.int j) = decide (i = j) := by
  by_cases h : i = j
  · subst h; simp
  · have : ¬ V.int i = V.int j := fun z => h (V.int.inj z)
    simp [h, this]
theorem ev_eqI (ha : Ev c Γ ta (.im i)) (hb : Ev c Γ tb (.im j)) : Ev c Γ (tOp (gEq c.Z.K) ta tb) (.im (decide (i = j))) := ev_opv ha hb fun R H v w _ rv rw => ⟨.bl _, rfl, fun Q q => by
  have rv' : v = .int i := rv
  have rw' : w = .int j := rw
  subst rv' rw'
  exact .inl ⟨rfl, by rw [int_eq_iff]; exact q⟩⟩
theorem ev_neI (ha : Ev c Γ ta (.im i)) (hb : Ev c Γ tb (.im j)) : Ev c Γ (tOp (gNe c.Z.K) ta tb) (.im (!decide (i = j))) := ev_opv ha hb fun R H v w _ rv rw => ⟨.bl _, rfl, fun Q q => by
  have rv' : v = .int i := rv
  have rw' : w = .int j := rw
  subst rv' rw'
  exact .inl ⟨rfl, by rw [int_eq_iff]; exact q⟩⟩
theorem ev_neg (ha : Ev c Γ ta (.im i)) : Ev c Γ (tUn uNeg ta) (.im (-i)) := fun B R0 R H ρ Δ σ S Q q xk => ha B R0 R H ρ Δ σ S _ (fun v R1 H1 S1 => by
  have rv : v = .int i := sx_top' S1
  exact ⟨i, rv, q _ R1 H1 (sx_push (sx_pop S1) rfl)⟩) xk
end
theorem ev_isNotN {d : α} (ha : Ev c Γ ta (.im d)) (b : Bool) (hb : ∀ R v, Rp.rp c.Z R v d → (!decide (v = .non)) = b) : Ev c Γ (tOp gIsNot ta (tC .non)) (.im b) := fun B R0 R H ρ Δ σ S Q q xk => ha B R0 R H ρ Δ σ S _ (fun v R1 H1 S1 =>
  ⟨rfl, q _ R1 H1 (sx_push (sx_pop S1) (congrArg V.bl (hb R1 v (sx_top' S1))))⟩) xk
/-! lists -/
theorem ev_ix {xs : List α} {i : Int} (ha : Ev c Γ ta (.im xs)) (hb : Ev c Γ tb (.im i)) (h0 : 0 ≤ i) (h1 : i < xs.length) : Ev c Γ (tOp (gIx c.Z.K) ta tb) (.im (gt xs i)) := ev_opv ha hb fun R H v w sm rv rw => by
  obtain ⟨a, vs, rfl, ha, hp⟩ := rv
  obtain ⟨k, hk, rk⟩ := paired_get hp (gt_some h0 h1)
  exact ⟨k, rk, fun Q q => .inl ⟨a, vs, i, k, rfl, rw, SqL.of (sm _ _ ha), atI_of h0 (by rw [Paired.length hp]; exact h1) hk, q⟩⟩
theorem ev_ix1 {p : α × β} (ha : Ev c Γ ta (.im p)) (hb : Ev c Γ tb (.im (0 : Int))) : Ev c Γ (tOp (gIx c.Z.K) ta tb) (.im p.1) := ev_opv ha hb fun R H v w sm rv rw => by
  obtain ⟨a, x, y, rfl, ha, hx, hy⟩ := rv
  exact ⟨x, hx, fun Q q => .inr (.inl ⟨a, [x, y], 0, x, rfl, rw, SqT.of (sm _ _ ha), rfl, q⟩)⟩
theorem ev_ix2 {p : α × β} (ha : Ev c Γ ta (.im p)) (hb : Ev c Γ tb (.im (1 : Int))) : Ev c Γ (tOp (gIx c.Z.K) ta tb) (.im p.2) := ev_opv ha hb fun R H v w sm rv rw => by
  obtain ⟨a, x, y, rfl, ha, hx, hy⟩ := rv
  exact ⟨y, hy, fun Q q => .inr (.inl ⟨a, [x, y], 1, y, rfl, rw, SqT.of (sm _ _ ha), rfl, q⟩)⟩
/-- an own list's item -/
theorem ev_ixO {xs : List α} {k : Nat} {i : Int} (e : Γ[k]? = some (.ol xs)) (hb : Ev c Γ tb (.im i)) (h0 : 0 ≤ i) (h1 : i < xs.length) : Ev c Γ (tOp (gIx c.Z.K) (tVar k) tb) (.im (gt xs i)) := fun B R0 R H ρ Δ σ S Q q xk => by
  obtain ⟨p, vs, h2, _⟩ := sx_mutl S e
  refine ⟨.ref p, h2, hb B R0 R H ρ Δ σ S _ (fun w R1 H1 S1 => ?_) xk⟩
  have rw' : w = .int i := sx_top' S1
  obtain ⟨p', vs', h2', h3, h4, _⟩ := sx_mutl (sx_pop S1) e
  have ep : p = p' := by
    rw [h2] at h2'
    cases h2'
    rfl
  subst ep
  obtain ⟨v, hv, rv⟩ := paired_get h4 (gt_some h0 h1)
  exact .inl ⟨p, vs', i, v, rfl, rw', SqL.of h3, atI_of h0 (by rw [Paired.length h4]; exact h1) hv, q v R1 H1 (sx_push (sx_pop S1) rv)⟩
theorem ev_ixOL {xs : List α} {k : Nat} {i : Int} (e : Γ[k]? = some (.ol xs)) (hb : Ev c Γ tb (.im i)) (h0 : i = -1) (h1 : 0 < xs.length) : Ev c Γ (tOp (gIx c.Z.K) (tVar k) tb) (.im (gt xs ((xs.length : Int) - 1))) := fun B R0 R H ρ Δ σ S Q q xk => by
  subst h0
  obtain ⟨p, vs, h2, _⟩ := sx_mutl S e
  refine ⟨.ref p, h2, hb B R0 R H ρ Δ σ S _ (fun w R1 H1 S1 => ?_) xk⟩
  have rw' : w = .int (-1) := sx_top' S1
  obtain ⟨p', vs', h2', h3, h4, _⟩ := sx_mutl (sx_pop S1) e
  have ep : p = p' := by
    rw [h2] at h2'
    cases h2'
    rfl
  subst ep
  obtain ⟨v, hv, rv⟩ := paired_get h4 (gt_some (xs := xs) (i := (xs.length : Int) - 1) (by omega) (by omega))
  have hl := Paired.length h4
  refine .inl ⟨p, vs', -1, v, rfl, rw', SqL.of h3, ?_, q v R1 H1 (sx_push (sx_pop S1) rv)⟩
  unfold atI ixN
  rw [if_neg (by omega), if_pos (by omega)]
  rw [show (-1 + (vs'.length : Int)).toNat = ((xs.length : Int) - 1).toNat by omega]
  exact hv
theorem ev_ixS {l : Scr} {i : Int} (ha : Ev c Γ ta (.im l)) (hb : Ev c Γ tb (.im i)) (h0 : 0 ≤ i) (h1 : i < l.l.length) : Ev c Γ (tOp (gIx c.Z.K) ta tb) (.im (gt l.l i)) := ev_opv ha hb fun R H v w sm rv rw => by
  obtain ⟨a, rfl, ha⟩ := rv
  refine ⟨.int (gt l.l i), rfl, fun Q q => .inl ⟨a, _, i, _, rfl, rw, sm.seq ha, atI_of h0 (by simpa using h1) ?_, q⟩⟩
  rw [List.getElem?_map, gt_some h0 h1]
  rfl
/-! tests -/
theorem et_test {b : Bool} (h : Ev c Γ te (.im b)) : EvT c Γ (tTest te) b := fun B R0 R H ρ Δ σ S Q q xk => h B R0 R H ρ Δ σ S _ (fun v R1 H1 S1 => ⟨b, sx_top' S1, q R1 H1 (sx_pop S1)⟩) xk
theorem et_B {b : Bool} (h : Ev c Γ te (.im b)) : EvT c Γ (tB te) b := fun B R0 R H ρ Δ σ S Q q xk => h B R0 R H ρ Δ σ S _ (fun v R1 H1 S1 => ⟨b, sx_top' S1, q R1 H1 (sx_pop S1)⟩) xk
theorem et_and {a b : Bool} (h1 : EvT c Γ t a) (h2 : a = true → EvT c Γ u b) : EvT c Γ (tAnd t u) (a && b) := fun B R0 R H ρ Δ σ S Q q xk => h1 B R0 R H ρ Δ σ S _ (fun R1 H1 S1 => by
  cases a with
  | true => exact h2 rfl B R0 R1 H1 ρ Δ σ S1 Q q xk
  | false => exact q R1 H1 S1) xk
theorem et_or {a b : Bool} (h1 : EvT c Γ t a) (h2 : a = false → EvT c Γ u b) : EvT c Γ (tOr t u) (a || b) := fun B R0 R H ρ Δ σ S Q q xk => h1 B R0 R H ρ Δ σ S _ (fun R1 H1 S1 => by
  cases a with
  | true => exact q R1 H1 S1
  | false => exact h2 rfl B R0 R1 H1 ρ Δ σ S1 Q q xk) xk
theorem et_not {a : Bool} (h1 : EvT c Γ t a) : EvT c Γ (tNot t) (!a) := fun B R0 R H ρ Δ σ S Q q xk => h1 B R0 R H ρ Δ σ S _ (fun R1 H1 S1 => q R1 H1 S1) xk
theorem et_yes : EvT c Γ tYes true := fun B R0 R H ρ Δ σ S Q q _ => q R H S
theorem ev_andV {a b : Bool} (h1 : Ev c Γ ta (.im a)) (h2 : a = true → Ev c Γ tb (.im b)) : Ev c Γ (tAndV ta tb) (.im (a && b)) := fun B R0 R H ρ Δ σ S Q q xk => h1 B R0 R H ρ Δ σ S _ (fun v R1 H1 S1 => ⟨a, sx_top' S1, by
  cases a with
  | true => exact h2 rfl B R0 R1 H1 ρ Δ σ (sx_pop S1) Q q xk
  | false => exact q _ R1 H1 (sx_push (sx_pop S1) rfl)⟩) xk
theorem ev_orV {a b : Bool} (h1 : Ev c Γ ta (.im a)) (h2 : a = false → Ev c Γ tb (.im b)) : Ev c Γ (tOrV ta tb) (.im (a || b)) := fun B R0 R H ρ Δ σ S Q q xk => h1 B R0 R H ρ Δ σ S _ (fun v R1 H1 S1 => ⟨a, sx_top' S1, by
  cases a with
  | true => exact q _ R1 H1 (sx_push (sx_pop S1) rfl)
  | false => exact h2 rfl B R0 R1 H1 ρ Δ σ (sx_pop S1) Q q xk⟩) xk
theorem ev_notV {a : Bool} (h1 : Ev c Γ ta (.im a)) : Ev c Γ (tNotV ta) (.im (!a)) := fun B R0 R H ρ Δ σ S Q q xk => h1 B R0 R H ρ Δ σ S _ (fun v R1 H1 S1 => ⟨a, sx_top' S1, q _ R1 H1 (sx_push (sx_pop S1) rfl)⟩) xk
/-! arguments, displays, calls -/
theorem ea_nil : EvA c Γ tNil [] := fun B R0 R H ρ Δ σ S Q q _ => q [] R H S .nil
theorem ea_cons {d : α} {tr : TA} {ss : List Sl} (h : Ev c Γ te (.im d)) (hr : EvA c Γ tr ss) : EvA c Γ (tCons te tr) (.im d :: ss) := fun B R0 R H ρ Δ σ S Q q xk => h B R0 R H ρ Δ σ S _ (fun v R1 H1 S1 =>
  hr B R0 R1 H1 _ _ σ S1 _ (fun vs R2 H2 S2 sl => q (v :: vs) R2 H2 (sx_pop S2) (.cons (sx_top' S2) sl)) xk.push1) xk
theorem slims_append {Z : Zz} {R : Hp} {vs ws : List V} {ss rs : List Sl} (h : Slims Z R vs ss) (h' : Slims Z R ws rs) : Slims Z R (vs ++ ws) (ss ++ rs) := by
  induction h with
  | nil => exact h'
  | cons r t ih => exact .cons r ih
theorem slims_list {Z : Zz} {R : Hp} : ∀ {xs : List α} {vs : List V}, Slims Z R vs (xs.map fun x => .im x) → Paired (Rp.rp Z R) vs xs
  | [], _, h => by cases h; exact .nil
  | x :: xs, _, h => by
    cases h with
    | cons r t => exact Paired.cons r (slims_list t)
/-- a written list, of like items -/
theorem ev_lst {t : TA} (xs : List α) (h : EvA c Γ t (xs.map fun x => .im x)) (hl : xs.length ≤ 1000) : Ev c Γ (tLst t) (.ol xs) := fun B R0 R H ρ Δ σ S Q q xk => h B R0 R H ρ Δ σ S _ (fun vs R1 H1 S1 sl => by
  have hp := slims_list sl
  refine ⟨Nat.le_of_lt (small1000 (by rw [Paired.length hp]; exact hl)), fun p np => q _ R1 _ (sx_newl S1 np hp)⟩) xk
theorem ev_nil {δ : Type} [Rp δ] : Ev c Γ (tLst tNil) (.ol ([] : List δ)) := ev_lst [] ea_nil (by simp)
theorem ev_dict {δ : Type} [Rp δ] : Ev c Γ tDNewK (.od ([] : List (Int × δ))) := fun B R0 R H ρ Δ σ S Q q _ p np => q _ R _ (sx_newd S np)
/-- a built-in of one argument, its answer a datum -/
theorem ev_cb1 {r : List V → Hp → VK → Prop} {x : α} {z : γ} (ha : Ev c Γ ta (.im x)) (hr : ∀ R H v, Same R H → Rp.rp c.Z R v x → ∃ k, Rp.rp c.Z R k z ∧ ∀ Q : VK, Q k H → r [v] H Q) : Ev c Γ (tCB r (tCons ta tNil)) (.im z) :=
  fun B R0 R H ρ Δ σ S Q q xk => ha B R0 R H ρ Δ σ S _ (fun v R1 H1 S1 => by
    obtain ⟨k, h1, h2⟩ := hr R1 H1 v (sx_same S1) (sx_top' S1)
    exact h2 Q (q k R1 H1 (sx_push (sx_pop S1) h1))) xk
theorem ev_cb2 {r : List V → Hp → VK → Prop} {x : α} {y : β} {z : γ} (ha : Ev c Γ ta (.im x)) (hb : Ev c Γ tb (.im y)) (hr : ∀ R H v w, Same R H → Rp.rp c.Z R v x → Rp.rp c.Z R w y → ∃ k, Rp.rp c.Z R k z ∧ ∀ Q : VK, Q k H → r [v, w] H Q) : Ev c Γ (tCB r (tCons ta (tCons tb tNil))) (.im z) :=
  fun B R0 R H ρ Δ σ S Q q xk => ha B R0 R H ρ Δ σ S _ (fun v R1 H1 S1 => hb B R0 R1 H1 _ _ σ S1 _ (fun w R2 H2 S2 => by
    obtain ⟨k, h1, h2⟩ := hr R2 H2 v w (sx_same S2) (sx_top' (sx_pop S2)) (sx_top' S2)
    exact h2 Q (q k R2 H2 (sx_push (sx_pop (sx_pop S2)) h1))) xk.push1) xk
/-- .. its answer a new list -/
theorem ev_cbL {r : List V → Hp → VK → Prop} {x : α} {zs : List γ} (ha : Ev c Γ ta (.im x)) (hr : ∀ R H v, Same R H → Rp.rp c.Z R v x → ∀ Q : VK, (∀ ks p, Paired (Rp.rp c.Z R) ks zs → H p = none → Q (.ref p) (upd H p (.lst ks))) → r [v] H Q) : Ev c Γ (tCB r (tCons ta tNil)) (.ol zs) :=
  fun B R0 R H ρ Δ σ S Q q xk => ha B R0 R H ρ Δ σ S _ (fun v R1 H1 S1 => hr R1 H1 v (sx_same S1) (sx_top' S1) Q fun ks p hp np => q _ R1 _ (sx_newl (sx_pop S1) np hp)) xk
def gLen (K : PySem.W.Frag) : List V → Hp → VK → Prop := fun xs H Q => ∃ x n, xs = [x] ∧ LenV K x H n ∧ Q (.int n) H
def gList (K : PySem.W.Frag) : List V → Hp → VK → Prop := fun xs H Q => ∃ p ys, xs = [.ref p] ∧ (SqL K H p ys ∨ SqT K H p ys) ∧ ∀ l, H l = none → Q (.ref l) (upd H l (.lst ys))
theorem gc_len {X : Cx} : CallR X (.builtin "len") (gLen X.K) := call_len
theorem gc_list {X : Cx} : CallR X (.type "list") (gList X.K) := call_list_of
theorem ev_len {xs : List α} (ha : Ev c Γ ta (.im xs)) : Ev c Γ (tCB (gLen c.Z.K) (tCons ta tNil)) (.im (xs.length : Int)) := ev_cb1 ha fun R H v sm rv => by
  obtain ⟨a, vs, rfl, ha, hp⟩ := rv
  exact ⟨_, rfl, fun Q q => ⟨_, vs.length, rfl, .inl ⟨vs, SqL.of (sm _ _ ha), rfl⟩, by rw [Paired.length hp]; exact q⟩⟩
theorem ev_lenS {l : Scr} (ha : Ev c Γ ta (.im l)) : Ev c Γ (tCB (gLen c.Z.K) (tCons ta tNil)) (.im (l.l.length : Int)) := ev_cb1 ha fun R H v sm rv => by
  obtain ⟨a, rfl, ha⟩ := rv
  exact ⟨_, rfl, fun Q q => ⟨_, l.l.length, rfl, .inl ⟨_, sm.seq ha, by rw [List.length_map]⟩, q⟩⟩
theorem ev_lenO {xs : List α} {k : Nat} (e : Γ[k]? = some (.ol xs)) : Ev c Γ (tCB (gLen c.Z.K) (tCons (tVar k) tNil)) (.im (xs.length : Int)) := fun B R0 R H ρ Δ σ S Q q xk => by
  obtain ⟨p, vs, h2, h3, h4, _⟩ := sx_mutl S e
  exact ⟨.ref p, h2, _, vs.length, rfl, .inl ⟨vs, SqL.of h3, rfl⟩, q _ R H (sx_push S (by rw [Paired.length h4]; rfl))⟩
theorem ev_list {xs : List α} (ha : Ev c Γ ta (.im xs)) : Ev c Γ (tCB (gList c.Z.K) (tCons ta tNil)) (.ol xs) := ev_cbL ha fun R H v sm rv Q q => by
  obtain ⟨a, vs, rfl, ha, hp⟩ := rv
  exact ⟨a, vs, rfl, .inl (SqL.of (sm _ _ ha)), fun l hl => q vs l hp hl⟩
theorem ev_listO {xs : List α} {k : Nat} (e : Γ[k]? = some (.ol xs)) : Ev c Γ (tCB (gList c.Z.K) (tCons (tVar k) tNil)) (.ol xs) := fun B R0 R H ρ Δ σ S Q q xk => by
  obtain ⟨p, vs, h2, h3, h4, _⟩ := sx_mutl S e
  exact ⟨.ref p, h2, p, vs, rfl, .inl (SqL.of h3), fun l hl => q _ R _ (sx_newl S hl h4)⟩
theorem ev_all {bs : List Bool} {K : PySem.W.Frag} (hK : K = c.Z.K) (ha : Ev c Γ ta (.im bs)) : Ev c Γ (tCB (rAll K) (tCons ta tNil)) (.im (bs.all id)) := hK ▸ ev_cb1 ha fun R H v sm rv => by
  obtain ⟨a, vs, rfl, ha, hp⟩ := rv
  exact ⟨_, rfl, fun Q q => ⟨a, bs, rfl, SqL.of (paired_map_bl hp ▸ sm _ _ ha), q⟩⟩
theorem ev_any {bs : List Bool} {K : PySem.W.Frag} (hK : K = c.Z.K) (ha : Ev c Γ ta (.im bs)) : Ev c Γ (tCB (rAny K) (tCons ta tNil)) (.im (bs.any id)) := hK ▸ ev_cb1 ha fun R H v sm rv => by
  obtain ⟨a, vs, rfl, ha, hp⟩ := rv
  exact ⟨_, rfl, fun Q q => ⟨a, bs, rfl, SqL.of (paired_map_bl hp ▸ sm _ _ ha), q⟩⟩
/-! own defs: T tells, of arguments, what may come of them -/
abbrev Tm := List Sl → (Sl → Prop) → (Rf → Prop) → Prop
def spOf (Z : Zz) (T : Tm) : Sp := fun vs H Q E => ∃ R ss ok er, Same R H ∧ Slims Z R vs ss ∧ T ss ok er ∧
  (∀ v R' H' s, Sx Z H R R' H' [some v] [s] [] [] → ok s → Q v H') ∧ ∀ r cls d H', Same H H' → RepEx Z H H' r cls d → er r → E cls d H'
theorem sx_call {Z : Zz} {B R0 R R' H H' : Hp} {ρ : List (Option V)} {Δ : List Sl} {σ : List (Option V)} {v : V} {s : Sl} (S : Sx Z B R0 R H ρ Δ σ Γ) (S2 : Sx Z H R R' H' [some v] [s] [] []) : Sx Z B R0 R' H' (some v :: ρ) (s :: Δ) σ Γ := by
  obtain ⟨hl, own, hs, es⟩ := S
  obtain ⟨_, own2, hs2, f, g, rfl, h1, h2⟩ := S2
  have hg : g = [] := h2
  subst hg
  rw [List.append_nil] at hs2
  have key : ∀ p ∈ own, R' p = none ∧ H' p = H p ∧ p ∉ f := fun p hp => by
    have h3 := es_some es p hp
    have h4 := hs.ow p hp
    obtain ⟨o, ho⟩ : ∃ o, H p = some o := by
      cases e : H p with
      | none => exact absurd e h3
      | some o => exact ⟨o, rfl⟩
    refine ⟨?_, ?_, fun hf => ?_⟩
    · cases e : R' p with
      | none => rfl
      | some o2 =>
        rcases hs2.nw p o2 e with q | q
        · rw [h4.1] at q; cases q
        · exact absurd q h3
    · rw [ho, hs2.bh p o ho]
    · exact h3 (hs2.ow p hf).2
  refine ⟨by simp [hl], f ++ own, ⟨hs2.rh, hs.bh.trans hs2.bh, hs.r0.trans hs2.r0, fun b o e => ?_, fun p hp => ?_, ?_⟩, f, own, rfl, h1, es_mono hs2.r0 (fun p hp => (key p hp).2.1) es⟩
  · rcases hs2.nw b o e with q | q
    · exact hs.nw b o q
    · exact .inr (hs.bh.free q)
  · rcases List.mem_append.mp hp with q | q
    · exact ⟨(hs2.ow p q).1, hs.bh.free (hs2.ow p q).2⟩
    · exact ⟨(key p q).1, (hs.ow p q).2⟩
  · rw [List.nodup_append]
    exact ⟨hs2.nd, hs.nd, fun a ha b hb e => (key b hb).2.2 (e ▸ ha)⟩
theorem sx_same_call {Z : Zz} {B R0 R H H' : Hp} {ρ : List (Option V)} {Δ : List Sl} {σ : List (Option V)} (S : Sx Z B R0 R H ρ Δ σ Γ) (e : Same H H') : Sx Z B R0 R H' ρ Δ σ Γ := by
  obtain ⟨hl, own, hs, es⟩ := S
  refine ⟨hl, own, ⟨hs.rh.trans e, hs.bh.trans e, hs.r0, hs.nw, hs.ow, hs.nd⟩, es_mono (Same.refl _) (fun p hp => ?_) es⟩
  cases q : H p with
  | none => exact absurd q (es_some es p hp)
  | some o => exact e p o q
/-- a call's refusal, its dict frozen -/
theorem sx_callX {Z : Zz} {B R0 R H H' : Hp} {ρ : List (Option V)} {Δ : List Sl} {σ : List (Option V)} {r : Rf} {cls : Value} {d : Option Addr} (S : Sx Z B R0 R H ρ Δ σ Γ) (e : Same H H') (rx : RepEx Z H H' r cls d) : ∃ R', Same R R' ∧ Sx Z B R0 R' H' ρ Δ σ Γ ∧ RepEx Z B R' r cls d := by
  obtain ⟨h1, h2 | ⟨h2, dx, h3, h4, h5⟩⟩ := rx
  · exact ⟨R, Same.refl _, sx_same_call S e, h1, .inl h2⟩
  · have hr := (sx_same S).free h4
    refine ⟨upd R dx (.xd r.fs), same_upd hr, sx_pop (sx_call S (s := .un) (v := .non) ⟨rfl, [], ⟨fun b o q => ?_, e, same_upd hr, fun b o q => ?_, fun p hp => by simp at hp, List.nodup_nil⟩, [], [], rfl, rfl, rfl⟩), h1, .inr ⟨h2, dx, h3, (sx_base S).free h4, upd_same⟩⟩
    · by_cases c : b = dx
      · subst c
        rw [upd_same] at q
        rw [h5]
        exact q
      · rw [upd_ne c] at q
        exact e _ _ (sx_same S _ _ q)
    · by_cases c : b = dx
      · subst c
        exact .inr h4
      · rw [upd_ne c] at q
        exact .inl q
theorem ev_call {T : Tm} {dvs : List V} {ds : List Sl} {t : TA} {ss : List Sl} (ha : EvA c Γ t ss) (hd : ∀ R, Slims c.Z R dvs ds) (hT : T (ss ++ ds) (fun s' => s' = s) fun r => c.ex r Γ) : Ev c Γ (tCallSD (spOf c.Z T) dvs (WE c.X) t) s := fun B R0 R H ρ Δ σ S Q q xk => ha B R0 R H ρ Δ σ S _ (fun vs R1 H1 S1 sl => by
  refine ⟨R1, ss ++ ds, _, _, sx_same S1, slims_append sl (hd R1), hT, fun v R' H' s' S' e => ?_, fun r cls d H' e rx er => ?_⟩
  · subst e
    exact q v R' H' (sx_call S1 S')
  · obtain ⟨R2, _, S2, rx2⟩ := sx_callX S1 e rx
    exact xk R2 H' σ Γ r cls d S2 rx2 er) xk
/-- a call that raises nothing, within a comprehension -/
theorem ev_call0 {T : Tm} {dvs : List V} {ds : List Sl} {t : TA} {ss : List Sl} (ha : EvA c Γ t ss) (hd : ∀ R, Slims c.Z R dvs ds) (hT : T (ss ++ ds) (fun s' => s' = s) fun _ => False) : Ev c Γ (tCall (spOf c.Z T) dvs E0 t) s := fun B R0 R H ρ Δ σ S Q q xk => ha B R0 R H ρ Δ σ S _ (fun vs R1 H1 S1 sl => by
  refine ⟨R1, ss ++ ds, _, _, sx_same S1, slims_append sl (hd R1), hT, fun v R' H' s' S' e => ?_, fun r cls d H' e rx er => er.elim⟩
  · subst e
    exact q v R' H' (sx_call S1 S')) xk
/-- what a def's body must show -/
theorem spOf_run {Z : Zz} {T : Tm} {N : List Str} {t : XK → TS} (hN : ∀ ss ok er, T ss ok er → ss.length ≤ N.length)
    (h : ∀ E ss ok er, T ss ok er → W ⟨Z, fun cls d _ H => E cls d H, fun r _ => er r⟩ (ss ++ List.replicate (N.length - ss.length) .un) (t E) ⟨fun _ => ok (.im ()), ok, fun _ => False, fun _ => False⟩)
    (vs : List V) (H : Hp) (Q : VK) (E : XK) (hs : spOf Z T vs H Q E) : t E { nx := fun _ H' => Q .non H', rt := Q } (L2.start N vs) H := by
  obtain ⟨R, ss, ok, er, sm, sl, hT, kq, ke⟩ := hs
  have es0 : ∀ (n : Nat), Es Z R H (List.replicate n none) (List.replicate n .un) [] := fun n => by
    induction n with
    | zero => exact rfl
    | succ n ih => exact ⟨[], [], rfl, rfl, ih⟩
  have hlen : vs.length = ss.length := by
    clear hT kq
    induction sl with
    | nil => rfl
    | cons r t ih => simp [ih]
  have es : Es Z R H (L2.start N vs) (ss ++ List.replicate (N.length - ss.length) .un) [] := by
    unfold L2.start
    rw [hlen]
    generalize N.length - ss.length = n
    clear hT kq hlen
    induction sl with
    | nil => exact es0 n
    | cons r t ih => exact ⟨[], [], rfl, ⟨rfl, _, rfl, r⟩, ih⟩
  refine h E ss ok er hT H R R H [] [] (L2.start N vs) _ ⟨rfl, [], ⟨sm, Same.refl _, Same.refl _, fun b o e => .inl e, fun p hp => by simp at hp, List.nodup_nil⟩, es⟩ (fun R' H' σ' Γ' S' ok' => ?_) (fun R' H' v s S' ok' => kq v R' H' s S' ok') (fun _ _ _ _ _ z => z.elim) (fun _ _ _ _ _ z => z.elim) (fun R' H' σ' Γ' r cls d S' rx er' => ?_)
  · exact kq .non R' H' (.im ()) (sx_push (sx_leave S') rfl) ok'
  · exact ke r cls d H' (sx_base S') (rx.mono (sx_same S')) er'
end TB

/-! TbS: the rules of statements, walks and comprehensions. -/
namespace TB
open PySem L2
variable {c : Cn} {Γ : List Sl} {ta tb te tl : TE} {tt tc : TT} {t u : TS} {s : Sl} {α β γ : Type} {_ : Rp α} {_ : Rp β} {_ : Rp γ} {P P' : Po}

theorem W.imp (h : W c Γ t P) (h1 : ∀ G, P.nx G → P'.nx G) (h2 : ∀ s, P.rt s → P'.rt s) (h3 : ∀ G, P.bk G → P'.bk G) (h4 : ∀ G, P.ct G → P'.ct G) : W c Γ t P' := fun B R0 R H ρ Δ σ D S n r b k x =>
  h B R0 R H ρ Δ σ D S (fun R' H' σ' Γ' S' q => n R' H' σ' Γ' S' (h1 _ q)) (fun R' H' v s S' q => r R' H' v s S' (h2 _ q)) (fun R' H' σ' Γ' S' q => b R' H' σ' Γ' S' (h3 _ q)) (fun R' H' σ' Γ' S' q => k R' H' σ' Γ' S' (h4 _ q)) x
theorem w_seq (h : W c Γ t ⟨fun G => W c G u P, P.rt, P.bk, P.ct⟩) : W c Γ (tSeq t u) P := fun B R0 R H ρ Δ σ D S n r b k x =>
  h B R0 R H ρ Δ σ { D with nx := u D } S (fun R' H' σ' Γ' S' q => q B R0 R' H' ρ Δ σ' D S' n r b k x) r b k x
theorem w_asg {i : Nat} (h : Ev c Γ te s) (k : P.nx (Γ.set i s)) : W c Γ (tAsg te (gName i)) P := fun B R0 R H ρ Δ σ D S n r b kk x =>
  h B R0 R H ρ Δ σ S _ (fun v R1 H1 S1 => n R1 H1 _ _ (sx_asg S1 i) k) x
theorem w_if {b : Bool} (h : EvT c Γ tc b) (h1 : b = true → W c Γ t P) (h2 : b = false → W c Γ u P) : W c Γ (tIfS tc t u) P := fun B R0 R H ρ Δ σ D S n r bk kk x =>
  h B R0 R H ρ Δ σ S _ (fun R1 H1 S1 => by
    cases b with
    | true => exact h1 rfl B R0 R1 H1 ρ Δ σ D S1 n r bk kk x
    | false => exact h2 rfl B R0 R1 H1 ρ Δ σ D S1 n r bk kk x) x
theorem w_ret (h : Ev c Γ te s) (k : P.rt s) : W c Γ (tRet te) P := fun B R0 R H ρ Δ σ D S n r b kk x =>
  h B R0 R H ρ Δ σ S _ (fun v R1 H1 S1 => r R1 H1 v s (sx_leave S1) k) x
theorem w_next (k : P.nx Γ) : W c Γ tNext P := fun B R0 R H ρ Δ σ D S n r b kk x => n R H σ Γ S k
theorem w_cont (k : P.ct Γ) : W c Γ tCont P := fun B R0 R H ρ Δ σ D S n r b kk x => kk R H σ Γ S k
/-- slot i, an own list, is frozen from here on; a slot is forgotten -/
theorem w_fr {xs : List α} (i : Nat) (e : Γ[i]? = some (.ol xs)) (h : W c (Γ.set i (.im xs)) t P) : W c Γ t P := fun B R0 R H ρ Δ σ D S n r b kk x => by
  obtain ⟨R', _, S'⟩ := sx_frl S e
  exact h B R0 R' H ρ Δ σ D S' n r b kk x
theorem w_un (i : Nat) (h : W c (Γ.set i .un) t P) : W c Γ t P := fun B R0 R H ρ Δ σ D S n r b kk x => h B R0 R H ρ Δ σ D (sx_forget S i) n r b kk x
theorem w_aug {i : Nat} {f : Int → Int → Int} {a b : Int} (e : Γ[i]? = some (.im a)) (h : Ev c Γ te (.im b)) (k : P.nx (Γ.set i (.im (f a b)))) : W c Γ (tAug i te (ipI f)) P := fun B R0 R H ρ Δ σ D S n r bb kk x => by
  obtain ⟨v, h1, h2⟩ := sx_im S e
  refine ⟨v, h1, h B R0 R H ρ Δ σ S _ (fun w R1 H1 S1 => ?_) x⟩
  have e2 : w = .int b := sx_top' S1
  exact ⟨a, b, h2, e2, n R1 H1 _ _ (sx_asg (sx_push (sx_pop S1) (show Rp.rp c.Z R1 (.int (f a b)) (f a b) from rfl)) i) k⟩
/-! own lists -/
theorem tyL {K : PySem.W.Frag} {H : Hp} {p : Addr} {vs : List V} (h : H p = some (.lst vs)) : tyV K "list" (.ref p) H := .inl ⟨rfl, vs, SqL.of h⟩
theorem w_app {i : Nat} {xs : List α} {y : α} (e : Γ[i]? = some (.ol xs)) (h : Ev c Γ te (.im y)) (hl : xs.length < 1000000) (k : P.nx (Γ.set i (.ol (xs ++ [y])))) : W c Γ (tDrop (tBM c.Z.K "list" rAppend (tVar i) (tCons te tNil))) P := fun B R0 R H ρ Δ σ D S n r bb kk x => by
  obtain ⟨p, vs, h2, h3, h4, _⟩ := sx_mutl S e
  refine ⟨.ref p, h2, tyL h3, h B R0 R H ρ Δ σ S _ (fun w R1 H1 S1 => ?_) x⟩
  obtain ⟨p', vs', h2', h3', h4', h5⟩ := sx_mutl (sx_pop S1) e
  have ep : p = p' := by
    rw [h2] at h2'
    cases h2'
    rfl
  subst ep
  have hl' := Paired.length h4'
  refine ⟨p, vs', w, rfl, rfl, h3', Nat.lt_of_lt_of_le (by omega : vs'.length < 1000000) (by decide), n R1 _ _ _ (h5 (vs' ++ [w]) (xs ++ [y]) (paired_append h4' (.cons (sx_top' S1) .nil))) k⟩
theorem ixN_of {n : Nat} {i : Int} (h0 : 0 ≤ i) (h1 : i < n) : ixN n i = some i.toNat := by
  unfold ixN
  rw [if_pos h0, if_pos h1]
/-! walks -/
theorem wipe_set {σ : St} {j : Nat} {v : Option V} {vs : List Nat} (h : j ∈ vs) : wipe (σ.set j v) vs = wipe σ vs := by
  have key : ∀ (vs : List Nat) (i : Nat), (wipe (σ.set j v) vs)[i]? = if i ∈ vs then (if i < σ.length then some none else none) else (σ.set j v)[i]? := by
    intro vs
    induction vs with
    | nil => intro i; simp [wipe]
    | cons a r ih =>
      intro i
      unfold wipe
      rw [List.getElem?_set, wipe_length, List.length_set, ih]
      by_cases h1 : a = i
      · subst h1; simp
      · have : i ≠ a := fun e => h1 e.symm
        simp [h1, this]
  have key2 : ∀ (vs : List Nat) (i : Nat), (wipe σ vs)[i]? = if i ∈ vs then (if i < σ.length then some none else none) else σ[i]? := by
    intro vs
    induction vs with
    | nil => intro i; simp [wipe]
    | cons a r ih =>
      intro i
      unfold wipe
      rw [List.getElem?_set, wipe_length, ih]
      by_cases h1 : a = i
      · subst h1; simp
      · have : i ≠ a := fun e => h1 e.symm
        simp [h1, this]
  apply List.ext_getElem?
  intro i
  rw [key, key2]
  by_cases hi : i ∈ vs
  · simp [hi]
  · have : j ≠ i := fun e => hi (e ▸ h)
    simp [hi, List.getElem?_set, this]
theorem wipeG_len (Γ : List Sl) : ∀ vs : List Nat, (wipeG Γ vs).length = Γ.length
  | [] => rfl
  | v :: vs => by unfold wipeG; rw [List.length_set, wipeG_len Γ vs]
theorem wipeG_get (Γ : List Sl) : ∀ (vs : List Nat) (i : Nat), (wipeG Γ vs)[i]? = if i ∈ vs then (if i < Γ.length then some .un else none) else Γ[i]? := by
  intro vs
  induction vs with
  | nil => intro i; simp [wipeG]
  | cons a r ih =>
    intro i
    unfold wipeG
    rw [List.getElem?_set, wipeG_len, ih]
    by_cases h1 : a = i
    · subst h1; simp
    · have : i ≠ a := fun e => h1 e.symm
      simp [h1, this]
theorem wipeG_set {Γ : List Sl} {j : Nat} {v : Sl} {vs : List Nat} (h : j ∈ vs) : wipeG (Γ.set j v) vs = wipeG Γ vs := by
  apply List.ext_getElem?
  intro i
  rw [wipeG_get, wipeG_get, List.length_set]
  by_cases hi : i ∈ vs
  · simp [hi]
  · have : j ≠ i := fun e => hi (e ▸ h)
    simp [hi, List.getElem?_set, this]
theorem unAt_mem {Γ : List Sl} : ∀ {vs : List Nat}, UnAt Γ vs → ∀ v ∈ vs, Γ[v]? = some .un ∨ Γ.length ≤ v
  | [], _, v, hv => by simp at hv
  | a :: r, h, v, hv => by
    rcases List.mem_cons.mp hv with e | e
    · rw [e]; exact h.1
    · exact unAt_mem h.2 v e
theorem wipeG_un {Γ : List Sl} {vs : List Nat} (h : UnAt Γ vs) : wipeG Γ vs = Γ := by
  apply List.ext_getElem?
  intro i
  rw [wipeG_get]
  by_cases hi : i ∈ vs
  · rw [if_pos hi]
    rcases unAt_mem h i hi with e | e
    · rw [e, if_pos (by obtain ⟨h, _⟩ := List.getElem?_eq_some_iff.mp e; exact h)]
    · rw [if_neg (by omega), List.getElem?_eq_none e]
  · rw [if_neg hi]
theorem wipe_wipe (σ : St) (vs : List Nat) : wipe (wipe σ vs) vs = wipe σ vs := by
  have key : ∀ (us : List Nat), (∀ u ∈ us, u ∈ vs) → wipe (wipe σ us) vs = wipe σ vs := by
    intro us
    induction us with
    | nil => intro _; rfl
    | cons a r ih =>
      intro h
      show wipe ((wipe σ r).set a none) vs = wipe σ vs
      rw [wipe_set (h a List.mem_cons_self)]
      exact ih fun u hu => h u (List.mem_cons_of_mem _ hu)
  exact key vs fun _ h => h
theorem sx_unwipe {Z : Zz} {B R0 R H : Hp} {ρ : List (Option V)} {Δ : List Sl} {σ : List (Option V)} : ∀ {vs : List Nat}, UnAt Γ vs → Sx Z B R0 R H ρ Δ (wipe σ vs) Γ → Sx Z B R0 R H ρ Δ σ Γ
  | [], _, S => S
  | v :: vs, h, S => by
    refine sx_unwipe h.2 ?_
    have S' : Sx Z B R0 R H ρ Δ ((wipe σ vs).set v none) Γ := S
    have e3 : Γ.set v .un = Γ := by
      apply List.ext_getElem?
      intro i
      rw [List.getElem?_set]
      by_cases hi : v = i
      · subst hi
        rcases h.1 with e | e
        · rw [if_pos rfl, e, if_pos (by obtain ⟨h, _⟩ := List.getElem?_eq_some_iff.mp e; exact h)]
        · rw [if_pos rfl, if_neg (by omega), List.getElem?_eq_none e]
      · rw [if_neg hi]
    by_cases hv : v < (wipe σ vs).length
    · have q := sx_forgets S' v (wipe σ vs)[v]
      rw [e3, List.set_set, List.set_getElem_self] at q
      exact q
    · rw [List.set_eq_of_length_le (by omega)] at S'
      exact S'
/-- over a list of data -/
theorem ei_list {xs : List α} {j : Nat} (h : Ev c Γ tl (.im xs)) : EvI c Γ (iList c.Z.K tl) (gName j) xs.length (fun i G => G.set j (.im (xs.getD i Rp.df))) [j] := fun B R0 R H ρ Δ σ S K k x =>
  h B R0 R H ρ Δ σ S _ (fun v R1 H1 S1 => by
    have rv := sx_top' S1
    obtain ⟨a, vs, rfl, ha, hp⟩ := id rv
    refine ⟨a, rfl, ⟨vs, SqL.of (sx_same S1 _ _ ha)⟩, k (Itl c.Z.K a) R1 H1 [some (.ref a)] [.im xs] rfl S1 ⟨fun i G vs3 hj => wipeG_set (hj j (by simp)), fun {R2 H2 ρx Δx σ2 Γ2 i} hx S2 hi => ?_, fun {R2 H2 ρx Δx σ2 Γ2} hx S2 => ?_, fun {R2 H2 ρx Δx σ2 Γ2 i y H'} hx S2 hi hy K' kk => ?_⟩⟩
    · obtain ⟨a2, vs2, e2, ha2, hp2⟩ := sx_top' (sx_drop hx S2)
      cases e2
      obtain ⟨w, hw, _⟩ := paired_get hp2 (b := xs[i]) (i := i) (by simp [hi])
      exact ⟨vs2, w, SqL.of (sx_same S2 _ _ ha2), hw⟩
    · obtain ⟨a2, vs2, e2, ha2, hp2⟩ := sx_top' (sx_drop hx S2)
      cases e2
      exact ⟨vs2, SqL.of (sx_same S2 _ _ ha2), by rw [Paired.length hp2]; exact Nat.le_refl _⟩
    · obtain ⟨a2, vs2, e2, ha2, hp2⟩ := sx_top' (sx_drop hx S2)
      cases e2
      obtain ⟨eH, hy⟩ := hy
      subst eH
      have hy' := hy vs2 (SqL.of (sx_same S2 _ _ ha2))
      obtain ⟨b, hb, rb⟩ := paired_getL hp2 hy'
      refine kk R2 _ H' (sx_asg (sx_push S2 (d := xs.getD i Rp.df) ?_) j) fun vs3 hj => wipe_set (hj j (by simp))
      have : xs.getD i Rp.df = b := by rw [List.getD_eq_getElem?_getD, hb]; rfl
      rw [this]
      exact rb) x
theorem ei_rng1 {j : Nat} {n : Int} (h : Ev c Γ te (.im n)) (hn : n < 2 ^ 60) (hn0 : -(2 ^ 60) < n) : EvI c Γ (iRng1 (tCons te tNil)) (gName j) n.toNat (fun i G => G.set j (.im (i : Int))) [j] := fun B R0 R H ρ Δ σ S K k x =>
  h B R0 R H ρ Δ σ S _ (fun v R1 H1 S1 => by
    have rv : v = .int n := sx_top' S1
    subst rv
    refine ⟨n, rfl, by omega, by omega, k (Itr 0 n.toNat) R1 H1 [] [] rfl (sx_pop S1) ⟨fun i G vs3 hj => wipeG_set (hj j (by simp)), fun _ _ hi => hi, fun _ _ => Nat.le_refl _, fun {R2 H2 ρx Δx σ2 Γ2 i y H'} hx S2 hi hy K' kk => ?_⟩⟩
    obtain ⟨rfl, rfl⟩ := hy
    exact kk R2 _ _ (sx_asg (sx_push S2 (show Rp.rp c.Z R2 (V.int (0 + (i : Int))) (i : Int) by rw [Int.zero_add]; rfl)) j) fun vs3 hj => wipe_set (hj j (by simp))) x
theorem w_for {wi : TI} {g : TG} {n : Nat} {us : Nat → List Sl → List Sl} {js : List Nat} (I : Nat → List Sl → Prop) (hi : EvI c Γ wi g n us js) (h0 : I 0 Γ)
    (hs : ∀ i G, i < n → I i G → W c (us i G) t ⟨I (i + 1), P.rt, P.nx, I (i + 1)⟩) (hd : ∀ G, I n G → P.nx G) : W c Γ (tFor wi g t) P := fun B R0 R H ρ Δ σ D S nx r b kk x =>
  hi B R0 R H ρ Δ σ S _ (fun J R1 H1 ρ' Δ' hl S1 ok => by
    refine ⟨fun i m σ H => m = n - i ∧ i ≤ n ∧ ∃ R G, Sx c.Z B R0 R H (ρ' ++ ρ) (Δ' ++ Δ) σ G ∧ I i G, ⟨n, by simp, Nat.zero_le _, R1, Γ, S1, h0⟩, ?_⟩
    rintro i m σ2 H2 ⟨rfl, hin, R2, G, S2, hI⟩
    by_cases hlt : i < n
    · refine .inr ⟨ok.go (ρx := []) (Δx := []) rfl S2 hlt, fun σ' H' => ∃ R G, Sx c.Z B R0 R H' (ρ' ++ ρ) (Δ' ++ Δ) σ' G ∧ I (i + 1) G, fun σ' H' h => ⟨n - (i + 1), by omega, rfl, hlt, h⟩, fun y H' hy => ?_⟩
      refine ok.yld (ρx := []) (Δx := []) rfl S2 hlt hy _ fun R3 σ3 H3 S3 _ => ?_
      exact hs i G hlt hI B R0 R3 H3 (ρ' ++ ρ) (Δ' ++ Δ) σ3 _ S3 (fun R4 H4 σ4 Γ4 S4 q => ⟨R4, Γ4, S4, q⟩) (fun R4 H4 v s S4 q => r R4 H4 v s (sx_drop1 hl S4) q) (fun R4 H4 σ4 Γ4 S4 q => nx R4 H4 σ4 Γ4 (sx_drop hl S4) q) (fun R4 H4 σ4 Γ4 S4 q => ⟨R4, Γ4, S4, q⟩) (x.push hl)
    · have e : i = n := by omega
      subst e
      exact .inl ⟨ok.stop (ρx := []) (Δx := []) rfl S2, nx R2 H2 σ2 G (sx_drop hl S2) (hd G hI)⟩) x
theorem w_while (I : Nat → List Sl → Prop) (m0 : Nat) (h0 : I m0 Γ)
    (hs : ∀ m G, I m G → ∃ b, EvT c G tc b ∧ (b = true → W c G t ⟨fun G' => ∃ m', m' < m ∧ I m' G', P.rt, P.nx, fun G' => ∃ m', m' < m ∧ I m' G'⟩) ∧ (b = false → P.nx G)) : W c Γ (tWhile tc t) P := fun B R0 R H ρ Δ σ D S nx r b kk x => by
  refine ⟨fun m σ H => ∃ R G, Sx c.Z B R0 R H ρ Δ σ G ∧ I m G, ⟨m0, R, Γ, S, h0⟩, ?_⟩
  rintro m σ1 H1 ⟨R1, G, S1, hI⟩
  obtain ⟨bb, ht, h1, h2⟩ := hs m G hI
  refine ht B R0 R1 H1 ρ Δ σ1 S1 _ (fun R2 H2 S2 => ?_) x
  cases bb with
  | true =>
    refine ⟨fun σ' H' => ∃ R G, Sx c.Z B R0 R H' ρ Δ σ' G ∧ ∃ m', m' < m ∧ I m' G, fun σ' H' ⟨R, G, S', m', hm, hI'⟩ => ⟨m', hm, R, G, S', hI'⟩, ?_⟩
    exact h1 rfl B R0 R2 H2 ρ Δ σ1 _ S2 (fun R4 H4 σ4 Γ4 S4 q => ⟨R4, Γ4, S4, q⟩) r nx (fun R4 H4 σ4 Γ4 S4 q => ⟨R4, Γ4, S4, q⟩) x
  | false => exact nx R2 H2 σ1 G S2 (h2 rfl)
/-! comprehensions -/
theorem take_snoc {α : Type} {l : List α} {i : Nat} (h : i < l.length) : l.take (i + 1) = l.take i ++ [l[i]] := by rw [List.take_succ, List.getElem?_eq_getElem h]; rfl
theorem sx_wipe {Z : Zz} {B R0 R H : Hp} {ρ : List (Option V)} {Δ : List Sl} {σ : List (Option V)} (S : Sx Z B R0 R H ρ Δ σ Γ) : ∀ vs : List Nat, Sx Z B R0 R H ρ Δ (wipe σ vs) (wipeG Γ vs)
  | [] => S
  | v :: vs => sx_forgets (sx_wipe S vs) v none
/-- the first i turns' items that are kept -/
def kept {α : Type} (p : Nat → Bool) (f : Nat → α) (n : Nat) : List α := ((List.range n).filter p).map f
theorem kept_yes {α : Type} {p : Nat → Bool} {f : Nat → α} {n : Nat} (h : p n = true) : kept p f (n + 1) = kept p f n ++ [f n] := by
  unfold kept
  rw [List.range_succ, List.filter_append, List.map_append]
  simp [h]
theorem kept_no {α : Type} {p : Nat → Bool} {f : Nat → α} {n : Nat} (h : p n = false) : kept p f (n + 1) = kept p f n := by
  unfold kept
  rw [List.range_succ, List.filter_append, List.map_append]
  simp [h]
theorem kept_len {α : Type} (p : Nat → Bool) (f : Nat → α) (n : Nat) : (kept p f n).length ≤ n := by
  unfold kept
  rw [List.length_map]
  exact Nat.le_trans (List.length_filter_le _ _) (by simp)
theorem sx_swapTop {Z : Zz} {B R0 R H : Hp} {ρ : List (Option V)} {Δ : List Sl} {σ : List (Option V)} {o o' : Option V} {s s' : Sl} (S : Sx Z B R0 R H (o :: o' :: ρ) (s :: s' :: Δ) σ Γ) : Sx Z B R0 R H (o' :: o :: ρ) (s' :: s :: Δ) σ Γ := by
  obtain ⟨h, own, hs, f, g, rfl, h1, f2, g2, rfl, h2, h3⟩ := S
  refine ⟨by simpa using h, f2 ++ (f ++ g2), hs_sub hs (fun p hp => ?_) ?_, f2, f ++ g2, rfl, h2, f, g2, rfl, h1, h3⟩
  · simp only [List.mem_append] at hp ⊢
    grind
  · have nd := hs.nd
    simp only [List.nodup_append, List.mem_append] at nd ⊢
    grind
theorem ev_lc {wi : TI} {g : TG} {n : Nat} {us : Nat → List Sl → List Sl} {js vs : List Nat} (p : Nat → Bool) (f : Nat → α) (hi : EvI c Γ wi g n us js) (hn : n < 1000000) (hj : ∀ j ∈ js, j ∈ vs) (hu : UnAt Γ vs)
    (ht : ∀ i, i < n → EvT c.no (us i Γ) tt (p i)) (he : ∀ i, i < n → p i = true → Ev c.no (us i Γ) te (.im (f i))) : Ev c Γ (tLc wi g tt te vs) (.ol (kept p f n)) := fun B R0 R H ρ Δ σ S Q q x =>
  hi B R0 R H ρ Δ σ S _ (fun J R1 H1 ρ' Δ' hl S1 ok Dl hD => by
    refine ⟨fun i m H => m = n - i ∧ i ≤ n ∧ ∃ R, Sx c.Z B R0 R H (some (.ref Dl) :: (ρ' ++ ρ)) (.ol (kept p f i) :: (Δ' ++ Δ)) σ Γ, ⟨n, by simp, Nat.zero_le _, R1, sx_newl S1 hD .nil⟩, ?_⟩
    rintro i m H2 ⟨rfl, hin, R2, S2⟩
    by_cases hlt : i < n
    · refine .inr ⟨ok.go (ρx := [some (.ref Dl)]) (Δx := [.ol (kept p f i)]) rfl S2 hlt, fun H' => ∃ R, Sx c.Z B R0 R H' (some (.ref Dl) :: (ρ' ++ ρ)) (.ol (kept p f (i + 1)) :: (Δ' ++ Δ)) σ Γ, fun H' h => ⟨n - (i + 1), by omega, rfl, hlt, h⟩, fun y H' hy => ?_⟩
      have S2w := sx_wipe S2 vs
      rw [wipeG_un hu] at S2w
      refine ok.yld (ρx := [some (.ref Dl)]) (Δx := [.ol (kept p f i)]) rfl S2w hlt hy _ fun R3 σ3 H3 S3 hw => ⟨(hw vs hj).trans (wipe_wipe _ vs), ?_⟩
      have back : ∀ {R4 H4 : Hp} {o : Option V} {s : Sl}, Sx c.Z B R0 R4 H4 (o :: (ρ' ++ ρ)) (s :: (Δ' ++ Δ)) σ3 (us i Γ) → Sx c.Z B R0 R4 H4 (o :: (ρ' ++ ρ)) (s :: (Δ' ++ Δ)) σ Γ := fun S4 => by
        have q4 := sx_wipe S4 vs
        rw [hw vs hj, wipe_wipe, ok.back i Γ vs hj, wipeG_un hu] at q4
        exact sx_unwipe hu q4
      refine ht i hlt B R0 R3 H3 _ _ σ3 S3 _ (fun R4 H4 S4 => ?_) (Xok.no c _ _ _ _)
      cases hp : p i with
      | false =>
        refine ⟨R4, ?_⟩
        rw [kept_no hp]
        exact back S4
      | true =>
        refine he i hlt hp B R0 R4 H4 _ _ σ3 S4 _ (fun w R5 H5 S5 => ?_) (Xok.no c _ _ _ _)
        obtain ⟨p1, vs1, e1, h1, h2, h3⟩ := sx_mutTop (sx_swapTop S5)
        cases e1
        have hl1 := Paired.length h2
        have hl2 := kept_len p f i
        refine ⟨vs1, h1, Nat.lt_of_lt_of_le (by omega : vs1.length < 1000000) (by decide), R5, ?_⟩
        rw [kept_yes hp]
        exact back (sx_pop2 (h3 (vs1 ++ [w]) (kept p f i ++ [f i]) (paired_append h2 (.cons (sx_top' S5) .nil))))
    · have e : i = n := by omega
      subst e
      exact .inl ⟨ok.stop (ρx := [some (.ref Dl)]) (Δx := [.ol (kept p f i)]) rfl S2, q _ R2 H2 (sx_drop1 hl S2)⟩) x
end TB

/-! TbX: refusals raised; sorted, min, max, insert, stores by index; more walks (enumerate, zip). -/
namespace TB
open PySem PySem.Spec PyProof.Rows L2
/-! ### by values -/
/-! ### refusals -/
def tRaise0 (C : Addr) (X : WX) : TS := fun _ σ H => (fun _ H Q => Q (.ref C) none H : L2.St → Hp → XK → Prop) σ H fun cls d H' => X cls d σ H'
/-- __init__ of an own exception class: its fields, in order -/
def spXI (C : Addr) (fs : List Str) : Sp := fun vs H Q _ => ∃ (a : Addr) (ws : List V), vs = .ref a :: ws ∧ ws.length = fs.length ∧ H a = some (exo a C none) ∧
  ∀ (d : Addr) (H' : Hp), H d = none → d ≠ a → H' a = some (exo a C (some d)) → H' d = some (exd d (fs.zip ws).reverse) → (∀ b, b ≠ a → b ≠ d → H' b = H b) → Q .non H'
def tRaiseN (C : Addr) (fs : List Str) (X : WX) (ta : TA) : TS := fun _ σ H => tMkO C (spXI C fs) [] ta σ H fun cls d H' => X cls d σ H'
section
variable {c : Cn} {Γ : List Sl} {ta tb te tl : TE} {tt tc : TT} {t u : TS} {s : Sl} {α β γ : Type} {_ : Rp α} {_ : Rp β} {_ : Rp γ} {P : Po}
theorem w_raise0 (n : CN) (h : c.ex ⟨n, []⟩ Γ) : W c Γ (tRaise0 (c.Z.cls n) c.X) P := fun B R0 R H ρ Δ σ D S nx r b k x => x R H σ Γ ⟨n, []⟩ (.ref (c.Z.cls n)) none S ⟨rfl, .inl ⟨rfl, rfl⟩⟩ h
/-- the fields' values, ints -/
theorem w_raiseN {ts : TA} (n : CN) (fs : List Str) (ns : List Int) (ha : EvA c Γ ts (ns.map fun i => .im i)) (hl : ns.length = fs.length) (hl2 : ns.length ≤ 900) (hne : fs ≠ []) (h : c.ex ⟨n, (fs.zip (ns.map V.int)).reverse⟩ Γ) : W c Γ (tRaiseN (c.Z.cls n) fs c.X ts) P := fun B R0 R H ρ Δ σ D S nx r b k x =>
  ha B R0 R H ρ Δ σ S _ (fun vs R1 H1 S1 sl => by
    have hp := paired_map_int (slims_list sl)
    subst hp
    refine ⟨by rw [List.length_map]; omega, fun a na => ?_⟩
    rw [List.append_nil]
    refine ⟨a, ns.map V.int, rfl, by rw [List.length_map]; exact hl, upd_same, fun d H2 nd hda ha2 hd2 ho => ?_⟩
    have nd1 : H1 d = none := by rw [upd_ne hda] at nd; exact nd
    refine ⟨rfl, d, _, ha2, hd2, nd1, ?_⟩
    have eH : upd (del H2 a) d (.xd (fs.zip (ns.map V.int)).reverse) = upd H1 d (.xd (fs.zip (ns.map V.int)).reverse) := by
      funext b
      by_cases h1 : b = d
      · subst h1; rw [upd_same, upd_same]
      · rw [upd_ne h1, upd_ne h1]
        by_cases h2 : b = a
        · subst h2; rw [del_same, na]
        · rw [del_ne h2, ho b h2 h1, upd_ne h2]
    rw [eH]
    refine x _ _ σ Γ ⟨n, _⟩ (.ref (c.Z.cls n)) (some d) (sx_froz S1 nd1 _).1 ⟨rfl, .inr ⟨fun z => hne ?_, d, rfl, (sx_base S1).free nd1, upd_same⟩⟩ h
    have z2 := congrArg List.length (show (fs.zip (ns.map V.int)).reverse = [] from z)
    rw [List.length_reverse, List.length_zip, List.length_map, hl, Nat.min_self] at z2
    exact List.length_eq_zero_iff.mp z2) x
end
/-- the promise of such an __init__, from its body's reading: one, two, three fields -/
theorem xi_ost {K : PySem.W.Frag} {C : Addr} {f : Str} {j : Nat} {D : Ends} {σ : L2.St} {H : Hp} {a : Addr} {w : V} (T : OexC K C) (hn : PySem.W.findIn K (.ref C) f = some none) (h0 : σ[0]? = some (some (.ref a))) (hj : σ[j]? = some (some w))
    (h : (H a = some (exo a C none) ∧ ∀ dx, H dx = none → dx ≠ a → D.nx σ (upd (upd H dx (exd dx [(f, w)])) a (exo a C (some dx)))) ∨ ∃ (dx : Addr) (fs : List (Str × V)), H a = some (exo a C (some dx)) ∧ H dx = some (exd dx fs) ∧ fs.length ≤ 900 ∧ D.nx σ (upd H dx (exd dx ((f, w) :: fs)))) :
    tOst K f (tVar 0) (tVar j) D σ H := ⟨w, hj, .ref a, h0, a, C, rfl, T, hn, h⟩
theorem xi_one {K : PySem.W.Frag} {C : Addr} {f : Str} {N : List Str} (hN : N.length = 2) (T : OexC K C) (hn : PySem.W.findIn K (.ref C) f = some none) (vs : List V) (H : Hp) (Q : VK) (E : XK) (h : spXI C [f] vs H Q E) :
    tOst K f (tVar 0) (tVar 1) { nx := fun _ H' => Q .non H', rt := Q } (L2.start N vs) H := by
  obtain ⟨a, ws, rfl, hl, ha, k⟩ := h
  obtain ⟨w, rfl⟩ : ∃ w, ws = [w] := by
    match ws, hl with
    | [w], _ => exact ⟨w, rfl⟩
  refine xi_ost T hn rfl rfl (.inl ⟨ha, fun dx nd ne => k dx _ nd ne upd_same (by rw [upd_ne ne, upd_same]; rfl) fun b h1 h2 => by rw [upd_ne h1, upd_ne h2]⟩)
theorem xi_two {K : PySem.W.Frag} {C : Addr} {f g : Str} {N : List Str} (hN : N.length = 3) (T : OexC K C) (hn : PySem.W.findIn K (.ref C) f = some none) (hg : PySem.W.findIn K (.ref C) g = some none) (vs : List V) (H : Hp) (Q : VK) (E : XK) (h : spXI C [f, g] vs H Q E) :
    tSeq (tOst K f (tVar 0) (tVar 1)) (tOst K g (tVar 0) (tVar 2)) { nx := fun _ H' => Q .non H', rt := Q } (L2.start N vs) H := by
  obtain ⟨a, ws, rfl, hl, ha, k⟩ := h
  obtain ⟨w, w2, rfl⟩ : ∃ w w2, ws = [w, w2] := by
    match ws, hl with
    | [w, w2], _ => exact ⟨w, w2, rfl⟩
  refine xi_ost T hn rfl rfl (.inl ⟨ha, fun dx nd ne => ?_⟩)
  refine xi_ost T hg rfl rfl (.inr ⟨dx, _, upd_same, by rw [upd_ne ne, upd_same], by simp, ?_⟩)
  refine k dx _ nd ne (by rw [upd_ne (Ne.symm ne), upd_same]) (by rw [upd_same]; rfl) fun b h1 h2 => by rw [upd_ne h2, upd_ne h1, upd_ne h2]
theorem xi_three {K : PySem.W.Frag} {C : Addr} {f g g3 : Str} {N : List Str} (hN : N.length = 4) (T : OexC K C) (hn : PySem.W.findIn K (.ref C) f = some none) (hg : PySem.W.findIn K (.ref C) g = some none) (hg3 : PySem.W.findIn K (.ref C) g3 = some none) (vs : List V) (H : Hp) (Q : VK) (E : XK) (h : spXI C [f, g, g3] vs H Q E) :
    tSeq (tOst K f (tVar 0) (tVar 1)) (tSeq (tOst K g (tVar 0) (tVar 2)) (tOst K g3 (tVar 0) (tVar 3))) { nx := fun _ H' => Q .non H', rt := Q } (L2.start N vs) H := by
  obtain ⟨a, ws, rfl, hl, ha, k⟩ := h
  obtain ⟨w, w2, w3, rfl⟩ : ∃ w w2 w3, ws = [w, w2, w3] := by
    match ws, hl with
    | [w, w2, w3], _ => exact ⟨w, w2, w3, rfl⟩
  refine xi_ost T hn rfl rfl (.inl ⟨ha, fun dx nd ne => ?_⟩)
  refine xi_ost T hg rfl rfl (.inr ⟨dx, _, upd_same, by rw [upd_ne ne, upd_same], by simp, ?_⟩)
  refine xi_ost T hg3 rfl rfl (.inr ⟨dx, _, by rw [upd_ne (Ne.symm ne), upd_same], upd_same, by simp, ?_⟩)
  refine k dx _ nd ne (by rw [upd_ne (Ne.symm ne), upd_ne (Ne.symm ne), upd_same]) (by rw [upd_same]; rfl) fun b h1 h2 => by rw [upd_ne h2, upd_ne h2, upd_ne h1, upd_ne h2]

/-! ### more built-ins -/
def isort (xs : List Int) : List Int := xs.mergeSort fun x y => decide (x ≤ y)
def gSorted (K : PySem.W.Frag) : List V → Hp → VK → Prop := rSortedI K
theorem gc_sorted {X : Cx} : CallR X (.builtin "sorted") (gSorted X.K) := cr_sortedI
def gMin : List V → Hp → VK → Prop := fun xs H Q => ∃ i j, xs = [.int i, .int j] ∧ Q (.int (if j < i then j else i)) H
def gMax : List V → Hp → VK → Prop := fun xs H Q => ∃ i j, xs = [.int i, .int j] ∧ Q (.int (if j > i then j else i)) H
def gInsert : V → List V → Hp → VK → Prop := fun x vs H Q => ∃ (l : Addr) (xs : List V) (i : Int) (y : V), x = .ref l ∧ vs = [.int i, y] ∧ H l = some (.lst xs) ∧ xs.length < sizeLine ∧ 0 ≤ i ∧ i < 2 ^ 63 ∧
    Q .non (upd H l (.lst (xs.take i.toNat ++ [y] ++ xs.drop i.toNat)))
theorem gm_insert {X : Cx} : MtR X "list.insert" gInsert := mt_insert
/-- o[i] = v: a list, a dict -/
def gSet : V → V → V → Hp → (Hp → Prop) → Prop := fun o i v H Q => rSetL o i v H Q ∨ ∃ a H', o = .ref a ∧ DPut H a i v H' ∧ Q H'
theorem gs_set {X : Cx} (hu : X.A.units + 1 < cLine) : PSet X gSet := by
  intro pins s σ H o i v ov iv u Q I ro ri rv h
  rcases h with h | ⟨a, H', rfl, h, q⟩
  · exact set_list pins s σ H o i v ov iv u Q I ro ri rv h
  · obtain rfl : ov = Value.ref a := ro
    exact d_setItem hu I h ri rv fun s4 I4 => ⟨H', I4, q⟩
section
variable {c : Cn} {Γ : List Sl} {ta tb te tl : TE} {tt tc : TT} {t u : TS} {s : Sl} {α β γ : Type} {_ : Rp α} {_ : Rp β} {_ : Rp γ} {P : Po}
theorem ev_sorted {xs : List Int} (ha : Ev c Γ ta (.im xs)) : Ev c Γ (tCB (gSorted c.Z.K) (tCons ta tNil)) (.ol (isort xs)) := ev_cbL ha fun R H v sm rv Q q => by
  obtain ⟨a, vs, rfl, ha, hp⟩ := rv
  refine ⟨a, xs, rfl, SqL.of (paired_map_int hp ▸ sm _ _ ha), fun ns' p pm pw np => ?_⟩
  have e : ns' = isort xs := PySem.W.os_sorted_mergeSort pm pw
  subst e
  exact q _ p (paired_of_int _) np
theorem ev_min2 {i j : Int} (ha : Ev c Γ ta (.im i)) (hb : Ev c Γ tb (.im j)) : Ev c Γ (tCB gMin (tCons ta (tCons tb tNil))) (.im (if j < i then j else i)) := ev_cb2 ha hb fun R H v w sm rv rw => by
  have rv' : v = .int i := rv
  have rw' : w = .int j := rw
  subst rv' rw'
  exact ⟨_, rfl, fun Q q => ⟨i, j, rfl, q⟩⟩
theorem ev_max2 {i j : Int} (ha : Ev c Γ ta (.im i)) (hb : Ev c Γ tb (.im j)) : Ev c Γ (tCB gMax (tCons ta (tCons tb tNil))) (.im (if j > i then j else i)) := ev_cb2 ha hb fun R H v w sm rv rw => by
  have rv' : v = .int i := rv
  have rw' : w = .int j := rw
  subst rv' rw'
  exact ⟨_, rfl, fun Q q => ⟨i, j, rfl, q⟩⟩
/-- 0, 1, .., n - 1 -/
def irange (n : Int) : List Int := (List.range n.toNat).map fun (i : Nat) => (i : Int)
theorem ev_listRg {n : Int} (ha : Ev c Γ ta (.im n)) (h : n ≤ 1000000) (h0 : -1000000 ≤ n) : Ev c Γ (tLstRg (tRg1 ta)) (.ol (irange n)) := fun B R0 R H ρ Δ σ S Q q xk => ha B R0 R H ρ Δ σ S _ (fun v R1 H1 S1 => by
  have rv : v = .int n := sx_top' S1
  refine ⟨n, rv, ⟨by omega, by omega, by omega, by omega, by omega⟩, fun p np => ?_⟩
  have e : rgV 0 n = (irange n).map V.int := by
    unfold rgV irange
    rw [List.map_map]
    congr 1
    · funext i; show V.int (0 + (i : Int)) = V.int (i : Int); rw [Int.zero_add]
    · rw [Int.sub_zero]
  rw [e]
  exact q _ R1 _ (sx_newl (sx_pop S1) np (paired_of_int _))) xk
theorem ev_slice {xs : List α} {t1 t2 : TO} {lo hi : Option Int} (ha : Ev c Γ ta (.im xs)) (h1 : ∀ B R0 R H ρ Δ σ, Sx c.Z B R0 R H ρ Δ σ Γ → ∀ Q : Option Int → Hp → Prop, (∀ R' H', Sx c.Z B R0 R' H' ρ Δ σ Γ → Q lo H') → Xok c B R0 ρ Δ → t1 σ H Q)
    (h2 : ∀ B R0 R H ρ Δ σ, Sx c.Z B R0 R H ρ Δ σ Γ → ∀ Q : Option Int → Hp → Prop, (∀ R' H', Sx c.Z B R0 R' H' ρ Δ σ Γ → Q hi H') → Xok c B R0 ρ Δ → t2 σ H Q) :
    Ev c Γ (tSl (rSlL c.Z.K) ta t1 t2) (.ol ((xs.drop (HT.sIx xs.length 0 lo)).take (HT.sIx xs.length xs.length hi - HT.sIx xs.length 0 lo))) := fun B R0 R H ρ Δ σ S Q q xk => ha B R0 R H ρ Δ σ S _ (fun v R1 H1 S1 =>
  h1 B R0 R1 H1 _ _ σ S1 _ (fun R2 H2 S2 => h2 B R0 R2 H2 _ _ σ S2 _ (fun R3 H3 S3 => by
    obtain ⟨a, vs, rfl, ha3, hp⟩ := sx_top' S3
    refine ⟨a, vs, rfl, SqL.of (sx_same S3 _ _ ha3), fun p np => ?_⟩
    have hl := Paired.length hp
    unfold cutV
    rw [hl]
    exact q _ R3 _ (sx_newl (sx_pop S3) np (paired_take _ (paired_drop _ hp)))) xk.push1) xk.push1) xk
theorem eo_none : ∀ B R0 R H ρ Δ σ, Sx c.Z B R0 R H ρ Δ σ Γ → ∀ Q : Option Int → Hp → Prop, (∀ R' H', Sx c.Z B R0 R' H' ρ Δ σ Γ → Q none H') → Xok c B R0 ρ Δ → tNoPart σ H Q := fun B R0 R H ρ Δ σ S Q q _ => q R H S
theorem eo_some {i : Int} (h : Ev c Γ te (.im i)) : ∀ B R0 R H ρ Δ σ, Sx c.Z B R0 R H ρ Δ σ Γ → ∀ Q : Option Int → Hp → Prop, (∀ R' H', Sx c.Z B R0 R' H' ρ Δ σ Γ → Q (some i) H') → Xok c B R0 ρ Δ → tPart te σ H Q := fun B R0 R H ρ Δ σ S Q q xk =>
  h B R0 R H ρ Δ σ S _ (fun v R1 H1 S1 => ⟨i, sx_top' S1, q R1 H1 (sx_pop S1)⟩) xk
theorem sIx_of {n d : Nat} {i : Int} (h : 0 ≤ i) : HT.sIx n d (some i) = min i.toNat n := by
  unfold HT.sIx
  simp only []
  split <;> omega
/-- xs[lo:hi] -/
theorem ev_cut {xs : List α} {lo hi : Int} (ha : Ev c Γ ta (.im xs)) (h1 : Ev c Γ tb (.im lo)) (h2 : Ev c Γ te (.im hi)) (h0 : 0 ≤ lo) (h3 : 0 ≤ hi) : Ev c Γ (tSl (rSlL c.Z.K) ta (tPart tb) (tPart te)) (.ol ((xs.take hi.toNat).drop lo.toNat)) := by
  refine ev_is (ev_slice ha (eo_some h1) (eo_some h2)) (congrArg Sl.ol ?_)
  rw [sIx_of h0, sIx_of h3, List.drop_take]
  apply List.ext_getElem?
  intro k
  simp only [List.getElem?_take, List.getElem?_drop]
  grind
theorem ev_cutTo {xs : List α} {hi : Int} (ha : Ev c Γ ta (.im xs)) (h2 : Ev c Γ te (.im hi)) (h3 : 0 ≤ hi) : Ev c Γ (tSl (rSlL c.Z.K) ta tNoPart (tPart te)) (.ol (xs.take hi.toNat)) := by
  refine ev_is (ev_slice ha eo_none (eo_some h2)) (congrArg Sl.ol ?_)
  rw [sIx_of h3]
  apply List.ext_getElem?
  intro k
  simp only [List.getElem?_take, List.getElem?_drop, HT.sIx]
  grind
theorem ev_cutFrom {xs : List α} {lo : Int} (ha : Ev c Γ ta (.im xs)) (h1 : Ev c Γ tb (.im lo)) (h0 : 0 ≤ lo) : Ev c Γ (tSl (rSlL c.Z.K) ta (tPart tb) tNoPart) (.ol (xs.drop lo.toNat)) := by
  refine ev_is (ev_slice ha (eo_some h1) eo_none) (congrArg Sl.ol ?_)
  rw [sIx_of h0]
  apply List.ext_getElem?
  intro k
  simp only [List.getElem?_take, List.getElem?_drop, HT.sIx]
  grind
end
end TB

/-! TbY: enumerate, zip; own classes' fields; groups. -/
namespace TB
open PySem L2
section
variable {c : Cn} {Γ : List Sl} {ta tb te tl : TE} {tt tc : TT} {t u : TS} {s : Sl} {α β γ : Type} {_ : Rp α} {_ : Rp β} {_ : Rp γ} {P : Po}
theorem ei_enum {xs : List α} {a b : Nat} (h : Ev c Γ tl (.im xs)) : EvI c Γ (iEnum c.Z.K (tCons tl tNil)) (gTup c.Z.K 2 (gCons (gName a) (gCons (gName b) gNil))) xs.length (fun i G => (G.set a (.im (i : Int))).set b (.im (xs.getD i Rp.df))) [a, b] := fun B R0 R H ρ Δ σ S K k x =>
  h B R0 R H ρ Δ σ S _ (fun v R1 H1 S1 => by
    have rv := sx_top' S1
    obtain ⟨l, vs, rfl, ha, hp⟩ := id rv
    refine ⟨l, vs, rfl, SqL.of (sx_same S1 _ _ ha), k (Ite c.Z.K l) R1 H1 [some (.ref l)] [.im xs] rfl S1 ⟨fun i G vs3 hj => by rw [wipeG_set (hj b (by simp)), wipeG_set (hj a (by simp))], fun {R2 H2 ρx Δx σ2 Γ2 i} hx S2 hi => ?_, fun {R2 H2 ρx Δx σ2 Γ2} hx S2 => ?_, fun {R2 H2 ρx Δx σ2 Γ2 i y H'} hx S2 hi hy K' kk => ?_⟩⟩
    · obtain ⟨a2, vs2, e2, ha2, hp2⟩ := sx_top' (sx_drop hx S2)
      cases e2
      obtain ⟨w, hw, _⟩ := paired_get hp2 (b := xs[i]) (i := i) (by simp [hi])
      exact ⟨vs2, w, SqL.of (sx_same S2 _ _ ha2), hw⟩
    · obtain ⟨a2, vs2, e2, ha2, hp2⟩ := sx_top' (sx_drop hx S2)
      cases e2
      exact ⟨vs2, SqL.of (sx_same S2 _ _ ha2), by rw [Paired.length hp2]; exact Nat.le_refl _⟩
    · obtain ⟨a2, vs2, e2, ha2, hp2⟩ := sx_top' (sx_drop hx S2)
      cases e2
      obtain ⟨T, w, rfl, hT, rfl, hy⟩ := hy
      have hy' := hy vs2 (SqL.of (sx_same S2 _ _ ha2))
      obtain ⟨z, hz, rz⟩ := paired_getL hp2 hy'
      have e3 : xs.getD i Rp.df = z := by rw [List.getD_eq_getElem?_getD, hz]; rfl
      refine ⟨T, [.int (i : Nat), w], rfl, SqT.of upd_same, rfl, _, _, rfl, _, _, rfl, rfl, ?_⟩
      refine kk R2 _ _ ?_ fun vs3 hj => by rw [wipe_set (hj b (by simp)), wipe_set (hj a (by simp))]
      refine sx_asg (sx_push (sx_asg (sx_push (sx_alloc S2 hT _) (show Rp.rp c.Z R2 (V.int (i : Int)) (i : Int) from rfl)) a) (d := xs.getD i Rp.df) ?_) b
      rw [e3]
      exact rz) x
/-! fields -/
/-- o.f, told by what o's rep says -/
theorem ev_fld {o : α} {d : β} {f : Str} (h : Ev c Γ te (.im o)) (hf : ∀ R v, Rp.rp c.Z R v o → ∃ a C dx fs w, v = .ref a ∧ R a = some (.ins C dx fs) ∧ Cls c.Z.K C ∧ NoAttr c.Z.K C f ∧ fs.lookup f = some w ∧ Rp.rp c.Z R w d) : Ev c Γ (tFld c.Z.K te f) (.im d) := fun B R0 R H ρ Δ σ S Q q x =>
  h B R0 R H ρ Δ σ S _ (fun v R1 H1 S1 => by
    obtain ⟨a, C, dx, fs, w, rfl, h1, h2, h3, h4, h5⟩ := hf R1 v (sx_top' S1)
    exact ⟨a, C, dx, fs, w, rfl, sx_same S1 _ _ h1, h2, h3, h4, q w R1 H1 (sx_push (sx_pop S1) h5)⟩) x
end
/-! ### groups -/
structure Grp where
  many : Int
  rows : List (List Int)
  unit : Int
  backs : List Int
/-- what the written part says of the class -/
structure GrpC (Z : Zz) : Prop where
  cl : Cls Z.K (Z.cls .Group)
  n1 : NoAttr Z.K (Z.cls .Group) "many"
  n2 : NoAttr Z.K (Z.cls .Group) "rows"
  n3 : NoAttr Z.K (Z.cls .Group) "unit"
  n4 : NoAttr Z.K (Z.cls .Group) "backs"
def flG (m r u b : V) : List (Str × V) := [("many", m), ("rows", r), ("unit", u), ("backs", b)]
instance : Rp Grp := ⟨⟨0, [], 0, []⟩, fun Z H v g => GrpC Z ∧ ∃ a dx m r u b, v = .ref a ∧ H a = some (.ins (Z.cls .Group) dx (flG m r u b)) ∧ Rp.rp Z H m g.many ∧ Rp.rp Z H r g.rows ∧ Rp.rp Z H u g.unit ∧ Rp.rp Z H b g.backs,
  fun e h => by
    obtain ⟨h0, a, dx, m, r, u, b, h1, h2, h3, h4, h5, h6⟩ := h
    exact ⟨h0, a, dx, m, r, u, b, h1, e _ _ h2, Rp.mono e h3, Rp.mono e h4, Rp.mono e h5, Rp.mono e h6⟩⟩
theorem lookup_at {f g : Str} {v : V} {fs : List (Str × V)} (h : ¬ f = g) : ((f, v) :: fs).lookup g = fs.lookup g := by
  have : (g == f) = false := by simpa using fun e => h e.symm
  simp [List.lookup, this]
theorem lookup_here {f : Str} {v : V} {fs : List (Str × V)} : ((f, v) :: fs).lookup f = some v := by simp [List.lookup]
theorem flG1 (m r u b : V) : (flG m r u b).lookup ("many" : Str) = some m := lookup_here
theorem flG2 (m r u b : V) : (flG m r u b).lookup ("rows" : Str) = some r := by
  unfold flG
  rw [lookup_at (by decide +kernel), lookup_here]
theorem flG3 (m r u b : V) : (flG m r u b).lookup ("unit" : Str) = some u := by
  unfold flG
  rw [lookup_at (by decide +kernel), lookup_at (by decide +kernel), lookup_here]
theorem flG4 (m r u b : V) : (flG m r u b).lookup ("backs" : Str) = some b := by
  unfold flG
  rw [lookup_at (by decide +kernel), lookup_at (by decide +kernel), lookup_at (by decide +kernel), lookup_here]
section
variable {c : Cn} {Γ : List Sl} {ta tb te tl : TE} {g : Grp}
theorem ev_many (h : Ev c Γ te (.im g)) : Ev c Γ (tFld c.Z.K te "many") (.im g.many) := ev_fld h fun R v ⟨h0, a, dx, m, r, u, b, h1, h2, h3, h4, h5, h6⟩ => ⟨a, _, dx, _, m, h1, h2, h0.cl, h0.n1, flG1 .., h3⟩
theorem ev_rows (h : Ev c Γ te (.im g)) : Ev c Γ (tFld c.Z.K te "rows") (.im g.rows) := ev_fld h fun R v ⟨h0, a, dx, m, r, u, b, h1, h2, h3, h4, h5, h6⟩ => ⟨a, _, dx, _, r, h1, h2, h0.cl, h0.n2, flG2 .., h4⟩
theorem ev_unit (h : Ev c Γ te (.im g)) : Ev c Γ (tFld c.Z.K te "unit") (.im g.unit) := ev_fld h fun R v ⟨h0, a, dx, m, r, u, b, h1, h2, h3, h4, h5, h6⟩ => ⟨a, _, dx, _, u, h1, h2, h0.cl, h0.n3, flG3 .., h5⟩
theorem ev_backs (h : Ev c Γ te (.im g)) : Ev c Γ (tFld c.Z.K te "backs") (.im g.backs) := ev_fld h fun R v ⟨h0, a, dx, m, r, u, b, h1, h2, h3, h4, h5, h6⟩ => ⟨a, _, dx, _, b, h1, h2, h0.cl, h0.n4, flG4 .., h6⟩
/-- Group.__init__ -/
def spI_Group (Z : Zz) : Sp := fun vs H Q _ => ∃ x dx l xs u b, vs = [.ref x, .ref l, u, b] ∧ H x = some (.ins (Z.cls .Group) dx []) ∧ H l = some (.lst xs) ∧ GrpC Z ∧
  ∀ H', H' x = some (.ins (Z.cls .Group) dx (flG (.int xs.length) (.ref l) u b)) → (∀ p, p ≠ x → H' p = H p) → Q .non H'
end
/-- the body: self.many = len(rows); self.rows = rows; self.unit = unit; self.backs = backs -/
theorem pure_Group_init {Z : Zz} {N : List Str} (hN : N.length = 4) (vs : List V) (H : Hp) (Q : VK) (E : XK) (h : spI_Group Z vs H Q E) :
    (tSeq (sFld Z.K (tVar 0) (tCB (gLen Z.K) (tCons (tVar 1) tNil)) "many") (tSeq (sFld Z.K (tVar 0) (tVar 1) "rows") (tSeq (sFld Z.K (tVar 0) (tVar 2) "unit") (sFld Z.K (tVar 0) (tVar 3) "backs")))) { nx := fun _ H' => Q .non H', rt := Q } (L2.start N vs) H := by
  obtain ⟨x, dx, l, xs, u, b, rfl, hx, hl, hZ, k⟩ := h
  have nlx : l ≠ x := fun e => by subst e; rw [hx] at hl; cases hl
  refine ⟨.ref l, rfl, .ref l, xs.length, rfl, .inl ⟨xs, SqL.of hl, rfl⟩, .ref x, rfl, x, _, dx, [], rfl, hx, hZ.cl, hZ.n1, by decide, ?_⟩
  refine ⟨.ref l, rfl, .ref x, rfl, x, _, dx, _, rfl, upd_same, hZ.cl, hZ.n2, by simp [putF], ?_⟩
  refine ⟨u, rfl, .ref x, rfl, x, _, dx, _, rfl, upd_same, hZ.cl, hZ.n3, by simp only [putF]; split <;> simp, ?_⟩
  have n12 : ¬ (("many" : Str) = "rows") := by decide +kernel
  have n13 : ¬ (("many" : Str) = "unit") := by decide +kernel
  have n23 : ¬ (("rows" : Str) = "unit") := by decide +kernel
  have n14 : ¬ (("many" : Str) = "backs") := by decide +kernel
  have n24 : ¬ (("rows" : Str) = "backs") := by decide +kernel
  have n34 : ¬ (("unit" : Str) = "backs") := by decide +kernel
  have e3 : putF "unit" u (putF "rows" (.ref l) (putF "many" (.int xs.length) [])) = ([("many", .int xs.length), ("rows", .ref l), ("unit", u)] : List (Str × V)) := by
    simp only [putF, if_neg n12, if_neg n13, if_neg n23]
  have e4 : putF "backs" b (putF "unit" u (putF "rows" (.ref l) (putF "many" (.int xs.length) []))) = flG (.int xs.length) (.ref l) u b := by
    rw [e3]
    simp only [putF, if_neg n14, if_neg n24, if_neg n34]
    rfl
  refine ⟨b, rfl, .ref x, rfl, x, _, dx, _, rfl, upd_same, hZ.cl, hZ.n4, by rw [e3]; simp, ?_⟩
  refine k _ (by rw [upd_same, e4]) fun p hp => by rw [upd_ne hp, upd_ne hp, upd_ne hp, upd_ne hp]
end TB
namespace TB
open PySem L2
section
variable {α β γ δ ε : Type} [Rp α] [Rp β] [Rp γ] [Rp δ] [Rp ε]
def tm1 (F : α → (Sl → Prop) → (Rf → Prop) → Prop) : Tm := fun ss ok er => ∃ a, ss = [.im a] ∧ F a ok er
def tm2 (F : α → β → (Sl → Prop) → (Rf → Prop) → Prop) : Tm := fun ss ok er => ∃ a b, ss = [.im a, .im b] ∧ F a b ok er
def tm3 (F : α → β → γ → (Sl → Prop) → (Rf → Prop) → Prop) : Tm := fun ss ok er => ∃ a b c, ss = [.im a, .im b, .im c] ∧ F a b c ok er
def tm4 (F : α → β → γ → δ → (Sl → Prop) → (Rf → Prop) → Prop) : Tm := fun ss ok er => ∃ a b c d, ss = [.im a, .im b, .im c, .im d] ∧ F a b c d ok er
end
theorem spOf_len {Z : Zz} {T : Tm} {n : Nat} (h : ∀ ss ok er, T ss ok er → ss.length = n) (vs : List V) (H : Hp) (Q : VK) (E : XK) (hs : spOf Z T vs H Q E) : vs.length = n := by
  obtain ⟨R, ss, ok, er, _, sl, hT, _⟩ := hs
  rw [← h ss ok er hT]
  clear hT
  induction sl with
  | nil => rfl
  | cons r t ih => simp [ih]
/-- a body's judgement at its entry -/
abbrev WF (Z : Zz) (X : WX) (er : Rf → Prop) (Γ : List Sl) (t : TS) (ok : Sl → Prop) : Prop := W ⟨Z, X, fun r _ => er r⟩ Γ t ⟨fun _ => ok (.im ()), ok, fun _ => False, fun _ => False⟩
end TB
namespace TB
open PySem L2
theorem getD_eq {α : Type} {l : List α} {i : Nat} {d : α} (h : i < l.length) : l.getD i d = l[i] := by simp [h]
section
variable {c : Cn} {Γ : List Sl} {ta tb te tl : TE} {tt tc : TT} {t u : TS} {s : Sl} {α β γ : Type} {_ : Rp α} {_ : Rp β} {_ : Rp γ} {P : Po}
theorem w_forL {xs : List α} {j : Nat} (I : Nat → List Sl → Prop) (h : Ev c Γ tl (.im xs)) (h0 : I 0 Γ) (hs : ∀ i G (hi : i < xs.length), I i G → W c (G.set j (.im xs[i])) t ⟨I (i + 1), P.rt, P.nx, I (i + 1)⟩) (hd : ∀ G, I xs.length G → P.nx G) :
    W c Γ (tFor (iList c.Z.K tl) (gName j) t) P := w_for I (ei_list h) h0 (fun i G hi hI => by
  have q := hs i G hi hI
  rw [← getD_eq (d := Rp.df) hi] at q
  exact q) hd
theorem w_forE {xs : List α} {a b : Nat} (I : Nat → List Sl → Prop) (h : Ev c Γ tl (.im xs)) (h0 : I 0 Γ) (hs : ∀ i G (hi : i < xs.length), I i G → W c ((G.set a (.im (i : Int))).set b (.im xs[i])) t ⟨I (i + 1), P.rt, P.nx, I (i + 1)⟩) (hd : ∀ G, I xs.length G → P.nx G) :
    W c Γ (tFor (iEnum c.Z.K (tCons tl tNil)) (gTup c.Z.K 2 (gCons (gName a) (gCons (gName b) gNil))) t) P := w_for I (ei_enum h) h0 (fun i G hi hI => by
  have q := hs i G hi hI
  rw [← getD_eq (d := Rp.df) hi] at q
  exact q) hd
theorem w_forR {n : Int} {j : Nat} (I : Nat → List Sl → Prop) (h : Ev c Γ te (.im n)) (hn : n < 2 ^ 60) (hn0 : -(2 ^ 60) < n) (h0 : I 0 Γ) (hs : ∀ (i : Nat) G, (i : Int) < n → I i G → W c (G.set j (.im (i : Int))) t ⟨I (i + 1), P.rt, P.nx, I (i + 1)⟩) (hd : ∀ G, I n.toNat G → P.nx G) :
    W c Γ (tFor (iRng1 (tCons te tNil)) (gName j) t) P := w_for I (ei_rng1 h hn hn0) h0 (fun i G hi hI => hs i G (by omega) hI) hd
/-- comprehensions with all items, none left out: the mapped list -/
theorem kept_all {α : Type} {f : Nat → α} : ∀ n, kept (fun _ => true) f n = (List.range n).map f := fun n => congrArg (List.map f) (List.filter_eq_self.2 fun _ _ => rfl)
theorem ev_mapL {xs : List α} {j : Nat} {vs : List Nat} (f : α → β) (h : Ev c Γ tl (.im xs)) (hn : xs.length < 1000000) (hj : j ∈ vs) (hu : UnAt Γ vs) (he : ∀ x, x ∈ xs → Ev c.no (Γ.set j (.im x)) te (.im (f x))) : Ev c Γ (tLc (iList c.Z.K tl) (gName j) tYes te vs) (.ol (xs.map f)) := by
  refine ev_is (ev_lc (fun _ => true) (fun i => f (xs.getD i Rp.df)) (ei_list h) hn (fun k hk => by simp at hk; rw [hk]; exact hj) hu (fun i hi => fun B R0 R H ρ Δ σ S Q q _ => q R H S) (fun i hi _ => he _ (by rw [getD_eq hi]; exact List.getElem_mem hi))) ?_
  rw [kept_all]
  refine congrArg Sl.ol (List.ext_getElem (by simp) fun i h1 h2 => ?_)
  simp at h1
  simp [h1]
theorem ev_mapR {n : Int} {j : Nat} {vs : List Nat} (f : Int → β) (h : Ev c Γ ta (.im n)) (hn : n < 1000000) (hn0 : -1000000 < n) (hj : j ∈ vs) (hu : UnAt Γ vs) (he : ∀ i : Int, 0 ≤ i → i < n → Ev c.no (Γ.set j (.im i)) te (.im (f i))) : Ev c Γ (tLc (iRng1 (tCons ta tNil)) (gName j) tYes te vs) (.ol ((irange n).map f)) := by
  refine ev_is (ev_lc (fun _ => true) (fun i => f (i : Int)) (ei_rng1 h (by omega) (by omega)) (by omega) (fun k hk => by simp at hk; rw [hk]; exact hj) hu (fun i hi => fun B R0 R H ρ Δ σ S Q q _ => q R H S) (fun i hi _ => he _ (by omega) (by omega))) ?_
  rw [kept_all]
  unfold irange
  rw [List.map_map]
  rfl
theorem ev_filtR {n : Int} {j : Nat} {vs : List Nat} (p : Int → Bool) (f : Int → β) (h : Ev c Γ ta (.im n)) (hn : n < 1000000) (hn0 : -1000000 < n) (hj : j ∈ vs) (hu : UnAt Γ vs) (ht : ∀ i : Int, 0 ≤ i → i < n → EvT c.no (Γ.set j (.im i)) tt (p i)) (he : ∀ i : Int, 0 ≤ i → i < n → p i = true → Ev c.no (Γ.set j (.im i)) te (.im (f i))) :
    Ev c Γ (tLc (iRng1 (tCons ta tNil)) (gName j) tt te vs) (.ol (((irange n).filter p).map f)) := by
  refine ev_is (ev_lc (fun i => p (i : Int)) (fun i => f (i : Int)) (ei_rng1 h (by omega) (by omega)) (by omega) (fun k hk => by simp at hk; rw [hk]; exact hj) hu (fun i hi => ht _ (by omega) (by omega)) (fun i hi hp => he _ (by omega) (by omega) hp)) (congrArg Sl.ol ?_)
  unfold irange kept
  rw [List.filter_map, List.map_map]
  rfl
end
theorem irange_len (n : Int) : (irange n).length = n.toNat := by unfold irange; simp
theorem mem_irange {n i : Int} : i ∈ irange n ↔ 0 ≤ i ∧ i < n := by
  unfold irange
  simp only [List.mem_map, List.mem_range]
  constructor
  · rintro ⟨k, h, rfl⟩
    omega
  · rintro ⟨h0, h1⟩
    exact ⟨i.toNat, by omega, by omega⟩
theorem irange_get {n : Int} {i : Nat} (h : i < (irange n).length) : (irange n)[i] = (i : Int) := by simp only [irange, List.getElem_map, List.getElem_range]
end TB

/-! TbZ: == of data; isinstance; cuts of the script; calls. -/
namespace TB
open PySem L2
/-- data that == compares -/
class Pd (α : Type) extends Rp α where
  py : α → PyData
  dep : Nat
  dp : ∀ {Z : Zz} {H : Hp} {v : V} {d : α}, rp Z H v d → Dp Z.K H v (py d)
  can : ∀ d, PyData.canLay0 (py d) = true
  low : ∀ d, PyData.depth (py d) ≤ dep
  eqv : ∀ a b, PyData.eqv (py a) (py b) = true ↔ a = b
instance : Pd Int := { py := .int, dep := 0, dp := fun h => (by cases h; exact .int _), can := fun _ => (by simp [PyData.canLay0]), low := fun _ => (by simp [PyData.depth]), eqv := fun a b => (by simp [PyData.eqv]) }
instance : Pd Bool := { py := .bool, dep := 0, dp := fun h => (by cases h; exact .bl _), can := fun _ => (by simp [PyData.canLay0]), low := fun _ => (by simp [PyData.depth]), eqv := fun a b => (by simp [PyData.eqv]) }
theorem dpAll_of {α : Type} [Pd α] {Z : Zz} {H : Hp} : ∀ {vs : List V} {xs : List α}, Paired (Rp.rp Z H) vs xs → DpAll Z.K H vs (xs.map Pd.py)
  | _, _, .nil => .nil
  | _, _, .cons r t => .cons (Pd.dp r) (dpAll_of t)
instance {α : Type} [Pd α] : Pd (List α) where
  py := fun xs => .list (xs.map Pd.py)
  dep := (Pd.dep α) + 1
  dp := fun h => by
    obtain ⟨a, vs, rfl, h2, h3⟩ := h
    exact .lst (SqL.of h2) (dpAll_of h3)
  can := fun d => by
    show PyData.canLay0 (.list (d.map Pd.py)) = true
    rw [PyData.canLay0]
    induction d with
    | nil => simp [PyData.canLayAll0]
    | cons x r ih => simp [PyData.canLayAll0, Pd.can x, ih]
  low := fun d => by
    show PyData.depth (.list (d.map Pd.py)) ≤ Pd.dep α + 1
    rw [PyData.depth]
    have : PyData.depthAll (d.map Pd.py) ≤ Pd.dep α := by
      induction d with
      | nil => simp [PyData.depthAll]
      | cons x r ih =>
        have := Pd.low x
        simp only [List.map_cons, PyData.depthAll]
        omega
    omega
  eqv := fun a b => by
    show PyData.eqv (.list (a.map Pd.py)) (.list (b.map Pd.py)) = true ↔ a = b
    rw [PyData.eqv]
    induction a generalizing b with
    | nil => cases b <;> simp [PyData.eqvAll]
    | cons x r ih =>
      cases b with
      | nil => simp [PyData.eqvAll]
      | cons y t => simp [PyData.eqvAll, Pd.eqv, ih]
instance {α β : Type} [Pd α] [Pd β] : Pd (α × β) where
  py := fun p => .tuple [Pd.py p.1, Pd.py p.2]
  dep := max (Pd.dep α) (Pd.dep β) + 1
  dp := fun h => by
    obtain ⟨a, x, y, rfl, h2, h3, h4⟩ := h
    exact .tup (SqT.of h2) (.cons (Pd.dp h3) (.cons (Pd.dp h4) .nil))
  can := fun d => by simp [PyData.canLay0, PyData.canLayAll0, Pd.can]
  low := fun d => by
    have h1 := Pd.low d.1
    have h2 := Pd.low d.2
    simp only [PyData.depth, PyData.depthAll]
    omega
  eqv := fun a b => by simp [PyData.eqv, PyData.eqvAll, Pd.eqv, Prod.ext_iff]
section
variable {c : Cn} {Γ : List Sl} {ta tb te tl : TE} {tt tc : TT} {t u : TS} {s : Sl} {α β γ : Type} {P : Po}
theorem rEqD_of [Pd α] {Z : Zz} {H : Hp} {v w : V} {x y : α} {Q : VK} (h : Rp.rp Z H v x) (h' : Rp.rp Z H w y) (hd : Pd.dep α ≤ 64) (q : Q (.bl (PyData.eqv (Pd.py x) (Pd.py y))) H) : rEqD Z.K v w H Q :=
  ⟨Pd.py x, Pd.py y, Pd.dp h, Pd.dp h', by simp [SeqAt.shaped, Pd.can, Nat.le_trans (Pd.low x) hd], by simp [SeqAt.shaped, Pd.can, Nat.le_trans (Pd.low y) hd], q⟩
theorem rNeD_of [Pd α] {Z : Zz} {H : Hp} {v w : V} {x y : α} {Q : VK} (h : Rp.rp Z H v x) (h' : Rp.rp Z H w y) (hd : Pd.dep α ≤ 64) (q : Q (.bl (!PyData.eqv (Pd.py x) (Pd.py y))) H) : rNeD Z.K v w H Q :=
  ⟨Pd.py x, Pd.py y, Pd.dp h, Pd.dp h', by simp [SeqAt.shaped, Pd.can, Nat.le_trans (Pd.low x) hd], by simp [SeqAt.shaped, Pd.can, Nat.le_trans (Pd.low y) hd], q⟩
theorem eqv_dec [Pd α] [DecidableEq α] (x y : α) : PyData.eqv (Pd.py x) (Pd.py y) = decide (x = y) := by
  have := Pd.eqv x y
  by_cases h : x = y
  · rw [decide_eq_true h]; exact this.mpr h
  · rw [decide_eq_false h]
    cases e : PyData.eqv (Pd.py x) (Pd.py y) with
    | false => rfl
    | true => exact absurd (this.mp e) h
theorem ev_eqD [Pd α] [DecidableEq α] {x y : α} (ha : Ev c Γ ta (.im x)) (hb : Ev c Γ tb (.im y)) (hd : Pd.dep α ≤ 64) : Ev c Γ (tOp (gEq c.Z.K) ta tb) (.im (decide (x = y))) := ev_opv ha hb fun R H v w sm rv rw => ⟨.bl _, rfl, fun Q q =>
  .inr (rEqD_of (Rp.mono sm rv) (Rp.mono sm rw) hd (by rw [eqv_dec]; exact q))⟩
theorem ev_neD [Pd α] [DecidableEq α] {x y : α} (ha : Ev c Γ ta (.im x)) (hb : Ev c Γ tb (.im y)) (hd : Pd.dep α ≤ 64) : Ev c Γ (tOp (gNe c.Z.K) ta tb) (.im (!decide (x = y))) := ev_opv ha hb fun R H v w sm rv rw => ⟨.bl _, rfl, fun Q q =>
  .inr (rNeD_of (Rp.mono sm rv) (Rp.mono sm rw) hd (by rw [eqv_dec]; exact q))⟩
theorem ev_eqL {x y : List Int} (ha : Ev c Γ ta (.im x)) (hb : Ev c Γ tb (.im y)) : Ev c Γ (tOp (gEq c.Z.K) ta tb) (.im (decide (x = y))) := ev_eqD ha hb (by decide)
theorem ev_neL {x y : List Int} (ha : Ev c Γ ta (.im x)) (hb : Ev c Γ tb (.im y)) : Ev c Γ (tOp (gNe c.Z.K) ta tb) (.im (!decide (x = y))) := ev_neD ha hb (by decide)
theorem ev_eqLL {x y : List (List Int)} (ha : Ev c Γ ta (.im x)) (hb : Ev c Γ tb (.im y)) : Ev c Γ (tOp (gEq c.Z.K) ta tb) (.im (decide (x = y))) := ev_eqD ha hb (by decide)
theorem ev_neLL {x y : List (List Int)} (ha : Ev c Γ ta (.im x)) (hb : Ev c Γ tb (.im y)) : Ev c Γ (tOp (gNe c.Z.K) ta tb) (.im (!decide (x = y))) := ev_neD ha hb (by decide)
theorem ev_eqP {x y : Int × Int} (ha : Ev c Γ ta (.im x)) (hb : Ev c Γ tb (.im y)) : Ev c Γ (tOp (gEq c.Z.K) ta tb) (.im (decide (x = y))) := ev_eqD ha hb (by decide)
theorem ev_neP {x y : Int × Int} (ha : Ev c Γ ta (.im x)) (hb : Ev c Γ tb (.im y)) : Ev c Γ (tOp (gNe c.Z.K) ta tb) (.im (!decide (x = y))) := ev_neD ha hb (by decide)
theorem w_raise1 {n : CN} {f : Str} {i : Int} (h : Ev c Γ ta (.im i)) (k : c.ex ⟨n, [(f, .int i)]⟩ Γ) : W c Γ (tRaiseN (c.Z.cls n) [f] c.X (tCons ta tNil)) P := w_raiseN n [f] [i] (ea_cons h ea_nil) rfl (by show 1 ≤ 900; decide) (by simp) k
theorem w_raise2 {n : CN} {f g : Str} {i j : Int} (h : Ev c Γ ta (.im i)) (h2 : Ev c Γ tb (.im j)) (k : c.ex ⟨n, [(g, .int j), (f, .int i)]⟩ Γ) : W c Γ (tRaiseN (c.Z.cls n) [f, g] c.X (tCons ta (tCons tb tNil))) P := w_raiseN n [f, g] [i, j] (ea_cons h (ea_cons h2 ea_nil)) rfl (by show 2 ≤ 900; decide) (by simp) k
theorem w_raise3 {n : CN} {f g e : Str} {i j m : Int} (h : Ev c Γ ta (.im i)) (h2 : Ev c Γ tb (.im j)) (h3 : Ev c Γ te (.im m)) (k : c.ex ⟨n, [(e, .int m), (g, .int j), (f, .int i)]⟩ Γ) : W c Γ (tRaiseN (c.Z.cls n) [f, g, e] c.X (tCons ta (tCons tb (tCons te tNil)))) P := w_raiseN n [f, g, e] [i, j, m] (ea_cons h (ea_cons h2 (ea_cons h3 ea_nil))) rfl (by show 3 ≤ 900; decide) (by simp) k
/-! calls whose answers are told by a set -/
def EvS (c : Cn) (Γ : List Sl) (t : TE) (S : Sl → Prop) : Prop := ∀ B R0 R H ρ Δ σ, Sx c.Z B R0 R H ρ Δ σ Γ → ∀ Q : VK, (∀ v s R' H', S s → Sx c.Z B R0 R' H' (some v :: ρ) (s :: Δ) σ Γ → Q v H') → Xok c B R0 ρ Δ → t σ H Q
theorem es_call {T : Tm} {t : TA} {ss : List Sl} {S : Sl → Prop} (ha : EvA c Γ t ss) (hT : T (ss ++ []) S fun r => c.ex r Γ) : EvS c Γ (tCallSD (spOf c.Z T) [] (WE c.X) t) S := fun B R0 R H ρ Δ σ S0 Q q xk => ha B R0 R H ρ Δ σ S0 _ (fun vs R1 H1 S1 sl => by
  refine ⟨R1, ss ++ [], _, _, sx_same S1, slims_append sl .nil, hT, fun v R' H' s' S' e => ?_, fun r cls d H' e rx er => ?_⟩
  · exact q v s' R' H' e (sx_call S1 S')
  · obtain ⟨R2, _, S2, rx2⟩ := sx_callX S1 e rx
    exact xk R2 H' σ Γ r cls d S2 rx2 er) xk
theorem w_asgS {i : Nat} {S : Sl → Prop} (h : EvS c Γ te S) (k : ∀ s, S s → P.nx (Γ.set i s)) : W c Γ (tAsg te (gName i)) P := fun B R0 R H ρ Δ σ D S0 n r b kk x =>
  h B R0 R H ρ Δ σ S0 _ (fun v s R1 H1 e S1 => n R1 H1 _ _ (sx_asg S1 i) (k s e)) x
theorem w_dropS {S : Sl → Prop} (h : EvS c Γ te S) (k : ∀ s, S s → P.nx Γ) : W c Γ (tDrop te) P := fun B R0 R H ρ Δ σ D S0 n r b kk x =>
  h B R0 R H ρ Δ σ S0 _ (fun v s R1 H1 e S1 => n R1 H1 _ _ (sx_pop S1) (k s e)) x
/-- a statement, what holds between, the rest -/
theorem w_mid (M : List Sl → Prop) (h : W c Γ t ⟨M, P.rt, P.bk, P.ct⟩) (k : ∀ G, M G → W c G u P) : W c Γ (tSeq t u) P := w_seq (h.imp (fun G q => k G q) (fun _ q => q) (fun _ q => q) (fun _ q => q))
/-! written lists -/
def EvH {α : Type} (c : Cn) (Γ : List Sl) (_ : Rp α) (t : TA) (xs : List α) : Prop := EvA c Γ t (xs.map fun x => .im x)
theorem evh_nil {i : Rp α} : EvH c Γ i tNil ([] : List α) := ea_nil
theorem evh_cons {i : Rp α} {x : α} {xs : List α} {tr : TA} (h : Ev c Γ te (.im x)) (hr : EvH c Γ i tr xs) : EvH c Γ i (tCons te tr) (x :: xs) := ea_cons h hr
theorem ev_lstH {i : Rp α} {xs : List α} {t : TA} (h : EvH c Γ i t xs) (hl : xs.length ≤ 1000) : Ev c Γ (tLst t) (.ol xs) := ev_lst xs h hl
/-! isinstance -/
theorem ev_isi {_ : Rp α} {x : α} (n m : String) (b : Bool) (ha : Ev c Γ ta (.im x)) (ht : ∀ R H v, Same R H → Rp.rp c.Z R v x → TyX c.Z.K H v (.type m)) (hk : kitB m n = some b) : Ev c Γ (tCB (rIsi c.Z.K) (tCons ta (tCons (tC (.ty n)) tNil))) (.im b) := fun B R0 R H ρ Δ σ S Q q xk => ha B R0 R H ρ Δ σ S _ (fun v R1 H1 S1 =>
  ⟨v, .ty n, .type m, .type n, b, rfl, .ty n, ht R1 H1 v (sx_same S1) (sx_top' S1), kit_ty hk, q _ R1 H1 (sx_push (sx_pop S1) rfl)⟩) xk
theorem ev_isiII {x : Int} (ha : Ev c Γ ta (.im x)) : Ev c Γ (tCB (rIsi c.Z.K) (tCons ta (tCons (tC (.ty "int")) tNil))) (.im true) := ev_isi "int" "int" true ha (fun R H v _ h => by cases h; exact .base (.int _)) (by decide +kernel)
theorem ev_isiIB {x : Int} (ha : Ev c Γ ta (.im x)) : Ev c Γ (tCB (rIsi c.Z.K) (tCons ta (tCons (tC (.ty "bool")) tNil))) (.im false) := ev_isi "bool" "int" false ha (fun R H v _ h => by cases h; exact .base (.int _)) (by decide +kernel)
theorem ev_isiLL {_ : Rp α} {x : List α} (ha : Ev c Γ ta (.im x)) : Ev c Γ (tCB (rIsi c.Z.K) (tCons ta (tCons (tC (.ty "list")) tNil))) (.im true) := ev_isi "list" "list" true ha (fun R H v e h => by obtain ⟨a, vs, rfl, h2, _⟩ := h; exact .base (.lst (e _ _ h2))) (by decide +kernel)
theorem ev_isiTT {_ : Rp α} {_ : Rp β} {x : α × β} (ha : Ev c Γ ta (.im x)) : Ev c Γ (tCB (rIsi c.Z.K) (tCons ta (tCons (tC (.ty "tuple")) tNil))) (.im true) := ev_isi "tuple" "tuple" true ha (fun R H v e h => by obtain ⟨a, y, z, rfl, h2, _⟩ := h; exact .base (.tup (e _ _ h2))) (by decide +kernel)
/-! cuts of the script -/
theorem ev_sliceS {l : Scr} {t1 t2 : TO} {lo hi : Option Int} (ha : Ev c Γ ta (.im l)) (h1 : ∀ B R0 R H ρ Δ σ, Sx c.Z B R0 R H ρ Δ σ Γ → ∀ Q : Option Int → Hp → Prop, (∀ R' H', Sx c.Z B R0 R' H' ρ Δ σ Γ → Q lo H') → Xok c B R0 ρ Δ → t1 σ H Q)
    (h2 : ∀ B R0 R H ρ Δ σ, Sx c.Z B R0 R H ρ Δ σ Γ → ∀ Q : Option Int → Hp → Prop, (∀ R' H', Sx c.Z B R0 R' H' ρ Δ σ Γ → Q hi H') → Xok c B R0 ρ Δ → t2 σ H Q) :
    Ev c Γ (tSl (rSlL c.Z.K) ta t1 t2) (.ol ((l.l.drop (HT.sIx l.l.length 0 lo)).take (HT.sIx l.l.length l.l.length hi - HT.sIx l.l.length 0 lo))) := fun B R0 R H ρ Δ σ S Q q xk => ha B R0 R H ρ Δ σ S _ (fun v R1 H1 S1 =>
  h1 B R0 R1 H1 _ _ σ S1 _ (fun R2 H2 S2 => h2 B R0 R2 H2 _ _ σ S2 _ (fun R3 H3 S3 => by
    obtain ⟨a, rfl, ha3⟩ := sx_top' S3
    refine ⟨a, _, rfl, (sx_same S3).seq ha3, fun p np => ?_⟩
    unfold cutV
    rw [List.length_map, ← List.map_drop, ← List.map_take]
    exact q _ R3 _ (sx_newl (sx_pop S3) np (paired_of_int _))) xk.push1) xk.push1) xk
theorem ev_cutS {l : Scr} {lo hi : Int} (ha : Ev c Γ ta (.im l)) (h1 : Ev c Γ tb (.im lo)) (h2 : Ev c Γ te (.im hi)) (h0 : 0 ≤ lo) (h3 : 0 ≤ hi) : Ev c Γ (tSl (rSlL c.Z.K) ta (tPart tb) (tPart te)) (.ol ((l.l.take hi.toNat).drop lo.toNat)) := by
  refine ev_is (ev_sliceS ha (eo_some h1) (eo_some h2)) (congrArg Sl.ol ?_)
  rw [sIx_of h0, sIx_of h3, List.drop_take]
  apply List.ext_getElem?
  intro k
  simp only [List.getElem?_take, List.getElem?_drop]
  grind
/-! own lists in a row of appends: an own list is frozen and appended -/
theorem ev_cat {_ : Rp α} {xs ys : List α} (ha : Ev c Γ ta (.im xs)) (hb : Ev c Γ tb (.im ys)) (hl : xs.length + ys.length < 1000000) : Ev c Γ (tOp gAdd ta tb) (.ol (xs ++ ys)) := ev_op ha hb fun B R0 R H ρ Δ σ v w S rv rw Q q => by
  obtain ⟨a, vs, rfl, h2, h3⟩ := rv
  obtain ⟨b, ws, rfl, h5, h6⟩ := rw
  have l1 := Paired.length h3
  have l2 := Paired.length h6
  exact .inr ⟨a, b, vs, ws, rfl, rfl, sx_same S _ _ h2, sx_same S _ _ h5, Nat.le_trans (by omega : vs.length + ws.length ≤ 1000000) (by decide), fun p np => q _ R _ (sx_newl S np (paired_append h3 h6))⟩
theorem ev_rep {_ : Rp α} {xs : List α} {k : Int} (ha : Ev c Γ ta (.im xs)) (hb : Ev c Γ tb (.im k)) (h0 : 0 ≤ k) (hl : xs.length * k.toNat ≤ 1000000) (hk : k < 1000000) : Ev c Γ (tOp gMul ta tb) (.ol (List.replicate k.toNat xs).flatten) := ev_op ha hb fun B R0 R H ρ Δ σ v w S rv rw Q q => by
  obtain ⟨a, vs, rfl, h2, h3⟩ := rv
  have l1 := Paired.length h3
  refine .inr (.inl ⟨a, k, vs, rfl, rw, sx_same S _ _ h2, by omega, by omega, by rw [l1]; exact Nat.le_trans hl (by decide), fun p np => q _ R _ (sx_newl S np ?_)⟩)
  generalize k.toNat = n
  induction n with
  | zero => exact .nil
  | succ n ih => rw [List.replicate_succ, List.replicate_succ, List.flatten_cons, List.flatten_cons]; exact paired_append h3 ih
/-- a call whose answer is told -/
theorem ev_callN {T : Tm} {t : TA} {ss : List Sl} (ha : EvA c Γ t ss) (hT : T (ss ++ []) (fun s' => s' = s) fun r => c.ex r Γ) : Ev c Γ (tCallSD (spOf c.Z T) [] (WE c.X) t) s := ev_call ha (fun _ => .nil) hT
theorem ev_callN0 {T : Tm} {t : TA} {ss : List Sl} (ha : EvA c Γ t ss) (hT : T (ss ++ []) (fun s' => s' = s) fun _ => False) : Ev c Γ (tCall (spOf c.Z T) [] E0 t) s := ev_call0 ha (fun _ => .nil) hT
end
theorem cmulS {i j : Int} (h1 : -1000000000000000000 ≤ i) (h2 : i ≤ 1000000000000000000) (h3 : -1000000000000000000 ≤ j) (h4 : j ≤ 1000000000000000000) : CMulW i j := wide_mul (a := 64) (b := 64) (by omega) (by omega) (by decide) (by decide) (by decide)
/-! ### a law -/
def T_law : Tm := tm1 fun (l : Scr) ok _ => l.l.length ≤ 63 ∧ ok (.im true)
def spLaw (K : PySem.W.Frag) : Sp := fun vs H Q _ => ∃ (a : Addr) (ns : List Int), vs = [.ref a] ∧ SqL K H a (ns.map V.int) ∧ ns.length ≤ 63 ∧ ∀ H', Q (.bl true) H'
theorem law_imp {K : PySem.W.Frag} {cls : CN → Addr} {vs : List V} {H : Hp} {Q : VK} {E : XK} (h : spLaw K vs H Q E) : spOf ⟨K, cls⟩ T_law vs H Q E := by
  obtain ⟨a, ns, rfl, hS, hl, k⟩ := h
  refine ⟨H, [.im (⟨ns⟩ : Scr)], fun s => s = .im true, fun _ => False, Same.refl _, .cons ⟨a, rfl, hS⟩ .nil, ⟨⟨ns⟩, rfl, hl, rfl⟩, fun v R' H' s S e => ?_, fun _ _ _ _ _ _ z => z.elim⟩
  subst e
  have : v = .bl true := sx_top' S
  subst this
  exact k H'
end TB

/-! TbL: own things lent to calls, frozen, own lists of own lists. -/
namespace TB
open PySem L2
/-! ### the frozen part and own things beside it -/
def frz (R H : Hp) (f : List Addr) : Hp := fun p => match R p with | some o => some o | none => if p ∈ f then H p else none
theorem frz_same {R H : Hp} {f : List Addr} : Same R (frz R H f) := fun b o e => by unfold frz; rw [e]
theorem frz_le {R H : Hp} {f : List Addr} (h : Same R H) : Same (frz R H f) H := fun b o e => by
  unfold frz at e
  cases q : R b with
  | some o2 =>
    rw [q] at e
    have e' : o2 = o := by simpa using e
    rw [← e']
    exact h b o2 q
  | none =>
    rw [q] at e
    simp only [] at e
    by_cases c : b ∈ f
    · rw [if_pos c] at e; exact e
    · rw [if_neg c] at e; cases e
theorem res_frz {R H : Hp} {f : List Addr} (h : Same R H) : Same (res H f) (frz R H f) := fun b o e => by
  obtain ⟨c, e2⟩ := res_some e
  unfold frz
  cases q : R b with
  | some o2 =>
    have := h b o2 q
    rw [e2] at this
    simpa using this.symm
  | none => simp only []; rw [if_pos c]; exact e2
theorem frz_in {R H : Hp} {f : List Addr} {p : Addr} {o : HO} (h : Same R H) (c : p ∈ f) (e : H p = some o) : frz R H f p = some o := res_frz h p o (by rw [res_in c]; exact e)
theorem frz_out {R H : Hp} {f : List Addr} {p : Addr} (c : p ∉ f) : frz R H f p = R p := by
  unfold frz
  cases q : R p with
  | some o => rfl
  | none => simp [c]
/-- own data, told within its own objects -/
def Fo {α : Type} [Rp α] (d : α) : Own := ⟨fun Z _ h v => Rp.rp Z h v d, fun _ h => h⟩
abbrev Sl.fo {α : Type} [Rp α] (d : α) : Sl := .ow (Fo d)
/-- a thing may be lent, or frozen, as data d -/
def Lnd (so : Sl) {α : Type} [Rp α] (d : α) : Prop := ∀ Z R H o f, Same R H → slok Z R H o so f → ∃ v, o = some v ∧ Rp.rp Z (frz R H f) v d
theorem lnd_ol {α : Type} [Rp α] {xs : List α} : Lnd (.ol xs) xs := fun Z R H o f sm h => by
  obtain ⟨p, vs, rfl, rfl, h3, h4⟩ := h
  exact ⟨_, rfl, p, vs, rfl, frz_in sm (by simp) h3, paired_mono (fun _ _ => Rp.mono frz_same) h4⟩
theorem inOk_rp {α : Type} [Rp α] {Z : Zz} {R H R' : Hp} (e : Same R R') : ∀ {qs : List Addr} {xss : List (List α)}, (∀ q ∈ qs, ∀ o, H q = some o → R' q = some o) → Paired (inOk Z R H) qs xss → Paired (Rp.rp Z R') (qs.map V.ref) xss
  | _, _, _, .nil => .nil
  | _, _, k, .cons r t => by
    obtain ⟨vs, h1, h2⟩ := r
    exact .cons ⟨_, vs, rfl, k _ List.mem_cons_self _ h1, paired_mono (fun _ _ => Rp.mono e) h2⟩ (inOk_rp e (fun q hq => k q (List.mem_cons_of_mem _ hq)) t)
theorem lnd_o2 {α : Type} [Rp α] {xss : List (List α)} : Lnd (.o2 xss) xss := fun Z R H o f sm h => by
  obtain ⟨p, qs, rfl, rfl, h3, h4⟩ := h
  exact ⟨_, rfl, p, _, rfl, frz_in sm (by simp) h3, inOk_rp frz_same (fun q hq o e => frz_in sm (List.mem_cons_of_mem _ hq) e) h4⟩
theorem lnd_fo {α : Type} [Rp α] {d : α} : Lnd (.fo d) d := fun Z R H o f sm h => by
  obtain ⟨v, rfl, h3, h4⟩ := h
  exact ⟨v, rfl, Rp.mono (res_frz sm) h3⟩
section
variable {Z : Zz} {B R0 R R' RL H H' : Hp} {τ ρ σ : List (Option V)} {Θ Δ Γ : List Sl} {s so : Sl} {o : Option V} {f own own' : List Addr} {α β γ : Type} {_ : Rp α} {_ : Rp β} {_ : Rp γ} {d : α}
theorem sy_frz (hL : Lnd so d) (S : Sy Z B R0 R H τ Θ) {i : Nat} (e : Θ[i]? = some so) : ∃ R', Same R R' ∧ Sy Z B R0 R' H τ (Θ.set i (.im d)) := by
  obtain ⟨own, hs, es⟩ := S
  obtain ⟨o, g1, f, g2, h2, h3, h4, h6⟩ := es_at es e
  subst h3
  obtain ⟨v, rfl, h5⟩ := hL Z R H o f hs.rh h4
  have nd := hs.nd
  have ne : ∀ q ∈ g1 ++ g2, q ∉ f := fun q hq z => by
    simp only [List.nodup_append, List.mem_append] at nd hq
    grind
  have h7 := h6 (frz R H f) H (some v) (.im d) [] frz_same (fun q hq => rfl) ⟨rfl, v, rfl, h5⟩
  have e2 : τ.set i (some v) = τ := by
    apply List.ext_getElem?
    intro j
    rw [List.getElem?_set]
    split
    · rename_i hj
      subst hj
      split
      · rw [h2]
      · rename_i hl
        rw [List.getElem?_eq_none (by omega)]
    · rfl
  rw [e2] at h7
  refine ⟨_, frz_same, _, ⟨frz_le hs.rh, hs.bh, hs.r0.trans frz_same, fun q u a => ?_, fun q hq => ?_, nd_mid hs.nd⟩, h7⟩
  · by_cases hq : q ∈ f
    · exact .inr (hs.ow q (by simp [hq])).2
    · rw [frz_out hq] at a
      exact hs.nw _ _ a
  · rw [List.append_nil] at hq
    rw [frz_out (ne q hq)]
    exact hs.ow q (by simp only [List.mem_append] at hq ⊢; grind)
theorem sx_frz (hL : Lnd so d) (S : Sx Z B R0 R H ρ Δ σ Γ) {i : Nat} (e : Γ[i]? = some so) : ∃ R', Same R R' ∧ Sx Z B R0 R' H ρ Δ σ (Γ.set i (.im d)) := by
  obtain ⟨h, S⟩ := S
  obtain ⟨R', h1, h2⟩ := sy_frz hL S (i := ρ.length + i) (by rw [at_slot h]; exact e)
  rw [h, List.set_append_right _ _ (by omega), show Δ.length + i - Δ.length = i by omega] at h2
  exact ⟨R', h1, h, h2⟩
theorem sx_frzTop (hL : Lnd so d) (S : Sx Z B R0 R H (o :: ρ) (so :: Δ) σ Γ) : ∃ R', Same R R' ∧ Sx Z B R0 R' H (o :: ρ) (.im d :: Δ) σ Γ := by
  obtain ⟨h, S⟩ := S
  obtain ⟨R', h1, h2⟩ := sy_frz hL S (i := 0) rfl
  exact ⟨R', h1, by simpa using h, h2⟩
/-! ### calls with things lent -/
end
/-- data that need no heap -/
class Flt (α : Type) [Rp α] : Prop where
  fl : ∀ {Z : Zz} {H H' : Hp} {v : V} {d : α}, Rp.rp Z H v d → Rp.rp Z H' v d
instance : Flt Int := ⟨fun h => h⟩
instance : Flt Bool := ⟨fun h => h⟩
instance : Flt Unit := ⟨fun h => h⟩
instance : Flt Str := ⟨fun h => h⟩
instance {α : Type} [Rp α] [Flt α] : Flt (Option α) := ⟨fun {Z H H' v d} h => by
  cases d with
  | none => exact h
  | some x => exact Flt.fl (α := α) h⟩
section
variable {c : Cn} {Γ : List Sl} {ta tb te tl : TE} {tt tc : TT} {t u : TS} {s so : Sl} {α β γ : Type} {_ : Rp α} {_ : Rp β} {_ : Rp γ} {P : Po} {d : α}
theorem w_frz {d : α} (i : Nat) (hL : Lnd so d) (e : Γ[i]? = some so) (h : W c (Γ.set i (.im d)) t P) : W c Γ t P := fun B R0 R H ρ Δ σ D S n r b kk x => by
  obtain ⟨R', _, S'⟩ := sx_frz hL S e
  exact h B R0 R' H ρ Δ σ D S' n r b kk x
theorem w_fr2 {xss : List (List α)} (i : Nat) (e : Γ[i]? = some (.o2 xss)) (h : W c (Γ.set i (.im xss)) t P) : W c Γ t P := w_frz i lnd_o2 e h
theorem w_frF {d : α} (i : Nat) (e : Γ[i]? = some (.fo d)) (h : W c (Γ.set i (.im d)) t P) : W c Γ t P := w_frz i lnd_fo e h
theorem ev_frz {d : α} (hL : Lnd so d) (h : Ev c Γ te so) : Ev c Γ te (.im d) := fun B R0 R H ρ Δ σ S Q q x => h B R0 R H ρ Δ σ S Q (fun v R' H' S' => by
  obtain ⟨R2, _, S2⟩ := sx_frzTop hL S'
  exact q v R2 H' S2) x
theorem ev_fr2 {xss : List (List α)} (h : Ev c Γ te (.o2 xss)) : Ev c Γ te (.im xss) := ev_frz lnd_o2 h
theorem ev_frF {d : α} (h : Ev c Γ te (.fo d)) : Ev c Γ te (.im d) := ev_frz lnd_fo h
/-! ### == with a thing lent -/
theorem ev_opR {r : R2} {x : α} {y : β} {z : γ} {i : Nat} (ha : Ev c Γ ta (.im x)) (hL : Lnd so y) (e : Γ[i]? = some so) (hr : ∀ R H v w, Same R H → Rp.rp c.Z R v x → Rp.rp c.Z R w y → ∃ k, (∀ R, Rp.rp c.Z R k z) ∧ ∀ Q : VK, Q k H → r v w H Q) : Ev c Γ (tOp r ta (tVar i)) (.im z) := fun B R0 R H ρ Δ σ S Q q xk => by
  refine ha B R0 R H ρ Δ σ S _ (fun v R2 H2 S2 => ?_) xk
  obtain ⟨o2, f2, g1, g2⟩ := sx_slot (sx_pop S2) e
  obtain ⟨w, e', rp⟩ := hL _ _ _ _ _ (sx_same S2) g2
  subst e'
  obtain ⟨k, k1, k2⟩ := hr (frz R2 H2 f2) H2 v w (frz_le (sx_same S2)) (Rp.mono frz_same (sx_top' S2)) rp
  exact ⟨w, g1, k2 Q (q k R2 H2 (sx_push (sx_pop S2) (k1 R2)))⟩
end
/-! ### own lists of own lists -/
theorem paired_in_upd {α : Type} [Rp α] {Z : Zz} {R H : Hp} {q : Addr} {vs' : List V} {ys : List α} (hy : Paired (Rp.rp Z R) vs' ys) : ∀ {qs : List Addr} {xss : List (List α)} {j : Nat}, qs.Nodup → qs[j]? = some q → Paired (inOk Z R H) qs xss → Paired (inOk Z R (upd H q (.lst vs'))) qs (xss.set j ys)
  | _, _, j, _, e, .nil => by simp at e
  | a :: qs, _, 0, nd, e, .cons r t => by
    have e' : a = q := by simpa using e
    subst e'
    have nd' := List.nodup_cons.mp nd
    exact .cons ⟨vs', upd_same, hy⟩ (paired_inOk (Same.refl _) (fun p hp => upd_ne fun z => nd'.1 (z ▸ hp)) t)
  | a :: qs, _, j + 1, nd, e, .cons r t => by
    have nd' := List.nodup_cons.mp nd
    have e' : qs[j]? = some q := by simpa using e
    have ne : a ≠ q := fun z => nd'.1 (z ▸ List.mem_of_getElem? e')
    exact .cons (inOk_mono (Same.refl _) (upd_ne ne) r) (paired_in_upd hy nd'.2 e' t)
section
variable {Z : Zz} {B R0 R R' RL H H' : Hp} {τ ρ σ : List (Option V)} {Θ Δ Γ : List Sl} {s so : Sl} {o : Option V} {f own own' : List Addr} {α β γ : Type} {_ : Rp α} {_ : Rp β} {_ : Rp γ}
theorem set_same {τ : List (Option V)} {i : Nat} {o : Option V} (h2 : τ[i]? = some o) : τ.set i o = τ := by
  apply List.ext_getElem?
  intro j
  rw [List.getElem?_set]
  split
  · rename_i hj
    subst hj
    split
    · rw [h2]
    · rename_i hl
      rw [List.getElem?_eq_none (by omega)]
  · rfl
theorem sy_mut2 {xss : List (List α)} (S : Sy Z B R0 R H τ Θ) {i : Nat} (e : Θ[i]? = some (.o2 xss)) : ∃ p qs, τ[i]? = some (some (.ref p)) ∧ H p = some (.lst (qs.map V.ref)) ∧ Paired (inOk Z R H) qs xss ∧
    ∀ (j : Nat) (q : Addr) (vs' : List V) (ys : List α), qs[j]? = some q → Paired (Rp.rp Z R) vs' ys → Sy Z B R0 R (upd H q (.lst vs')) τ (Θ.set i (.o2 (xss.set j ys))) := by
  obtain ⟨own, hs, es⟩ := S
  obtain ⟨o, g1, f, g2, h2, h3, ⟨p, qs, rfl, rfl, h4, h5⟩, h6⟩ := es_at es e
  subst h3
  refine ⟨p, qs, h2, h4, h5, fun j q vs' ys hq hy => ?_⟩
  have hqm : q ∈ qs := List.mem_of_getElem? hq
  have hp := hs.ow q (by simp [hqm])
  have nd := hs.nd
  have ne : ∀ b ∈ g1 ++ g2, b ≠ q := fun b hb z => by
    subst z
    simp only [List.nodup_append, List.mem_append, List.mem_cons] at nd hb
    grind
  have ndq : (p :: qs).Nodup := by
    simp only [List.nodup_append] at nd
    exact nd.1.2.1
  have ndq' := List.nodup_cons.mp ndq
  have np : p ≠ q := fun z => ndq'.1 (z ▸ hqm)
  have h7 := h6 R (upd H q (.lst vs')) (some (.ref p)) (.o2 (xss.set j ys)) (p :: qs) (Same.refl _) (fun b hb => upd_ne (ne b hb)) ⟨p, qs, rfl, rfl, by rw [upd_ne np]; exact h4, paired_in_upd hy ndq'.2 hq h5⟩
  rw [set_same h2] at h7
  exact ⟨_, ⟨fun b u a => by rw [upd_ne (ne_of_none a hp.1)]; exact hs.rh _ _ a, fun b u a => by rw [upd_ne (ne_of_none a hp.2)]; exact hs.bh _ _ a, hs.r0, hs.nw, hs.ow, hs.nd⟩, h7⟩
theorem sx_mut2 {xss : List (List α)} (S : Sx Z B R0 R H ρ Δ σ Γ) {i : Nat} (e : Γ[i]? = some (.o2 xss)) : ∃ p qs, σ[i]? = some (some (.ref p)) ∧ H p = some (.lst (qs.map V.ref)) ∧ Paired (inOk Z R H) qs xss ∧
    ∀ (j : Nat) (q : Addr) (vs' : List V) (ys : List α), qs[j]? = some q → Paired (Rp.rp Z R) vs' ys → Sx Z B R0 R (upd H q (.lst vs')) ρ Δ σ (Γ.set i (.o2 (xss.set j ys))) := by
  obtain ⟨h, S⟩ := S
  obtain ⟨p, qs, h1, h2, h3, h4⟩ := sy_mut2 S (i := ρ.length + i) (by rw [at_slot h]; exact e)
  rw [at_slot'] at h1
  refine ⟨p, qs, h1, h2, h3, fun j q vs' ys hq hy => ⟨h, ?_⟩⟩
  have q2 := h4 j q vs' ys hq hy
  rw [h, List.set_append_right _ _ (by omega), show Δ.length + i - Δ.length = i by omega] at q2
  exact q2
theorem sx_new2 (S : Sx Z B R0 R H ρ Δ σ Γ) {p : Addr} (hp : H p = none) : Sx Z B R0 R (upd H p (.lst [])) (some (.ref p) :: ρ) (.o2 ([] : List (List α)) :: Δ) σ Γ := by
  have S2 := sx_newl (α := α) S hp .nil
  obtain ⟨hl, own, hs, f, g, rfl, ⟨p', vs, rfl, h2, h3, h4⟩, h5⟩ := S2
  cases h2
  rw [upd_same] at h3
  cases h3
  exact ⟨hl, _, hs, [p], g, rfl, ⟨p, [], rfl, rfl, upd_same, .nil⟩, h5⟩
theorem sx_app2 {xs : List α} {xss : List (List α)} {w : V} {Dl : Addr} (S : Sx Z B R0 R H (some w :: some (.ref Dl) :: ρ) (.ol xs :: .o2 xss :: Δ) σ Γ) : ∃ vs, H Dl = some (.lst vs) ∧ vs.length = xss.length ∧ Sx Z B R0 R (upd H Dl (.lst (vs ++ [w]))) (some (.ref Dl) :: ρ) (.o2 (xss ++ [xs]) :: Δ) σ Γ := by
  obtain ⟨hl, own, hs, f, g, rfl, ⟨q, vs, rfl, h2, h3, h4⟩, f2, g2, rfl, ⟨p, qs, rfl, h6, h7, h8⟩, h9⟩ := S
  cases h2
  cases h6
  have nd := hs.nd
  have hp := hs.ow Dl (by simp)
  have ndp : Dl ≠ q ∧ Dl ∉ qs ∧ Dl ∉ g2 := by
    simp only [List.nodup_append, List.nodup_cons, List.mem_append, List.mem_cons, List.mem_singleton] at nd
    grind
  refine ⟨_, h7, by rw [List.length_map, Paired.length h8], by simpa using hl, (Dl :: (qs ++ [q])) ++ g2, ⟨fun b u a => by rw [upd_ne (ne_of_none a hp.1)]; exact hs.rh _ _ a, fun b u a => by rw [upd_ne (ne_of_none a hp.2)]; exact hs.bh _ _ a, hs.r0, hs.nw, fun b hb => hs.ow b ?_, ?_⟩, Dl :: (qs ++ [q]), g2, rfl, ⟨Dl, qs ++ [q], rfl, rfl, ?_, ?_⟩, es_mono (Same.refl _) (fun b hb => upd_ne fun z => ndp.2.2 (z ▸ hb)) h9⟩
  · simp only [List.mem_append, List.mem_cons, List.mem_singleton, List.not_mem_nil, or_false] at hb ⊢
    grind
  · simp only [List.nodup_append, List.nodup_cons, List.mem_append, List.mem_cons, List.mem_singleton, List.cons_append, List.nil_append, List.append_assoc, List.not_mem_nil, or_false] at nd ⊢
    grind
  · rw [upd_same, List.map_append]
    rfl
  · exact paired_append (paired_inOk (Same.refl _) (fun b hb => upd_ne fun z => ndp.2.1 (z ▸ hb)) h8) (.cons ⟨vs, by rw [upd_ne (Ne.symm ndp.1)]; exact h3, h4⟩ .nil)
end
section
variable {c : Cn} {Γ : List Sl} {ta tb te tl : TE} {tt tc : TT} {t u : TS} {s so : Sl} {α β γ : Type} {_ : Rp α} {_ : Rp β} {_ : Rp γ} {P : Po} {d : α}
theorem ev_lc2 {wi : TI} {g : TG} {n : Nat} {us : Nat → List Sl → List Sl} {js vs : List Nat} (p : Nat → Bool) (f : Nat → List α) (hi : EvI c Γ wi g n us js) (hn : n < 1000000) (hj : ∀ j ∈ js, j ∈ vs) (hu : UnAt Γ vs)
    (ht : ∀ i, i < n → EvT c.no (us i Γ) tt (p i)) (he : ∀ i, i < n → p i = true → Ev c.no (us i Γ) te (.ol (f i))) : Ev c Γ (tLc wi g tt te vs) (.o2 (kept p f n)) := fun B R0 R H ρ Δ σ S Q q x =>
  hi B R0 R H ρ Δ σ S _ (fun J R1 H1 ρ' Δ' hl S1 ok Dl hD => by
    refine ⟨fun i m H => m = n - i ∧ i ≤ n ∧ ∃ R, Sx c.Z B R0 R H (some (.ref Dl) :: (ρ' ++ ρ)) (.o2 (kept p f i) :: (Δ' ++ Δ)) σ Γ, ⟨n, by simp, Nat.zero_le _, R1, sx_new2 S1 hD⟩, ?_⟩
    rintro i m H2 ⟨rfl, hin, R2, S2⟩
    by_cases hlt : i < n
    · refine .inr ⟨ok.go (ρx := [some (.ref Dl)]) (Δx := [.o2 (kept p f i)]) rfl S2 hlt, fun H' => ∃ R, Sx c.Z B R0 R H' (some (.ref Dl) :: (ρ' ++ ρ)) (.o2 (kept p f (i + 1)) :: (Δ' ++ Δ)) σ Γ, fun H' h => ⟨n - (i + 1), by omega, rfl, hlt, h⟩, fun y H' hy => ?_⟩
      have S2w := sx_wipe S2 vs
      rw [wipeG_un hu] at S2w
      refine ok.yld (ρx := [some (.ref Dl)]) (Δx := [.o2 (kept p f i)]) rfl S2w hlt hy _ fun R3 σ3 H3 S3 hw => ⟨(hw vs hj).trans (wipe_wipe _ vs), ?_⟩
      have back : ∀ {R4 H4 : Hp} {o : Option V} {s : Sl}, Sx c.Z B R0 R4 H4 (o :: (ρ' ++ ρ)) (s :: (Δ' ++ Δ)) σ3 (us i Γ) → Sx c.Z B R0 R4 H4 (o :: (ρ' ++ ρ)) (s :: (Δ' ++ Δ)) σ Γ := fun S4 => by
        have q4 := sx_wipe S4 vs
        rw [hw vs hj, wipe_wipe, ok.back i Γ vs hj, wipeG_un hu] at q4
        exact sx_unwipe hu q4
      refine ht i hlt B R0 R3 H3 _ _ σ3 S3 _ (fun R4 H4 S4 => ?_) (Xok.no c _ _ _ _)
      cases hp : p i with
      | false =>
        refine ⟨R4, ?_⟩
        rw [kept_no hp]
        exact back S4
      | true =>
        refine he i hlt hp B R0 R4 H4 _ _ σ3 S4 _ (fun w R5 H5 S5 => ?_) (Xok.no c _ _ _ _)
        obtain ⟨vs1, h1, h2, h3⟩ := sx_app2 S5
        have hl2 := kept_len p f i
        refine ⟨vs1, h1, Nat.lt_of_lt_of_le (by omega : vs1.length < 1000000) (by decide), R5, ?_⟩
        rw [kept_yes hp]
        exact back h3
    · have e : i = n := by omega
      subst e
      exact .inl ⟨ok.stop (ρx := [some (.ref Dl)]) (Δx := [.o2 (kept p f i)]) rfl S2, q _ R2 H2 (sx_drop1 hl S2)⟩) x
/-- [own list for x in xs] -/
theorem ev_mapL2 {xs : List α} {j : Nat} {vs : List Nat} (f : α → List β) (h : Ev c Γ tl (.im xs)) (hn : xs.length < 1000000) (hj : j ∈ vs) (hu : UnAt Γ vs) (he : ∀ x, x ∈ xs → Ev c.no (Γ.set j (.im x)) te (.ol (f x))) : Ev c Γ (tLc (iList c.Z.K tl) (gName j) tYes te vs) (.o2 (xs.map f)) := by
  refine ev_is (ev_lc2 (fun _ => true) (fun i => f (xs.getD i Rp.df)) (ei_list h) hn (fun k hk => by simp at hk; rw [hk]; exact hj) hu (fun i hi => fun B R0 R H ρ Δ σ S Q q _ => q R H S) (fun i hi _ => he _ (by rw [getD_eq hi]; exact List.getElem_mem hi))) ?_
  rw [kept_all]
  refine congrArg Sl.o2 (List.ext_getElem (by simp) fun i h1 h2 => ?_)
  simp at h1
  simp [h1]
/-- [list(row) for row in table], the table own -/
theorem ev_copyT2 {xss : List (List β)} {j : Nat} (h : Ev c Γ tl (.im xss)) (hn : xss.length < 1000000) (hu : UnAt Γ [j]) (hv : ∀ r : List β, (Γ.set j (.im r))[j]? = some (.im r)) : Ev c Γ (tLc (iList c.Z.K tl) (gName j) tYes (tCB (gList c.Z.K) (tCons (tVar j) tNil)) [j]) (.o2 xss) :=
  ev_is (ev_mapL2 (xs := xss) (fun r => r) h hn (by simp) hu fun r _ => ev_list (ev_var (hv r))) (congrArg Sl.o2 (List.map_id' _))
/-- worth d, the heap as it was -/
def EvP (c : Cn) (Γ : List Sl) (t : TE) {α : Type} [Rp α] (d : α) : Prop := ∀ B R0 R H ρ Δ σ, Sx c.Z B R0 R H ρ Δ σ Γ → ∀ Q : VK, (∀ v, Rp.rp c.Z R v d → Q v H) → t σ H Q
theorem ep_var {d : α} {i : Nat} (e : Γ[i]? = some (.im d)) : EvP c Γ (tVar i) d := fun B R0 R H ρ Δ σ S Q q => by
  obtain ⟨v, h1, h2⟩ := sx_im S e
  exact ⟨v, h1, q v h2⟩
theorem ep_ix {xs : List α} {i : Int} (ha : EvP c Γ ta xs) (hb : EvP c Γ tb i) (h0 : 0 ≤ i) (h1 : i < xs.length) : EvP c Γ (tOp (gIx c.Z.K) ta tb) (gt xs i) := fun B R0 R H ρ Δ σ S Q q => ha B R0 R H ρ Δ σ S _ fun v rv => hb B R0 R H ρ Δ σ S _ fun w rw => by
  obtain ⟨a, vs, rfl, ha, hp⟩ := rv
  obtain ⟨k, hk, rk⟩ := paired_get hp (gt_some h0 h1)
  exact .inl ⟨a, vs, i, k, rfl, rw, SqL.of (sx_same S _ _ ha), atI_of h0 (by rw [Paired.length hp]; exact h1) hk, q k rk⟩
/-- xss[i][j] = y -/
theorem w_put2 {k : Nat} {xss : List (List α)} {y : α} {i j : Int} (e : Γ[k]? = some (.o2 xss)) (h : Ev c Γ te (.im y)) (hi : EvP c Γ ta i) (hj : EvP c Γ tb j) (h0 : 0 ≤ i) (h1 : i < xss.length) (h2 : 0 ≤ j) (h3 : j < (gt xss i).length)
    (kk : P.nx (Γ.set k (.o2 (xss.set i.toNat ((gt xss i).set j.toNat y))))) : W c Γ (tAsg te (gSub (tOp (gIx c.Z.K) (tVar k) ta) tb gSet)) P := fun B R0 R H ρ Δ σ D S n r bb kk' x =>
  h B R0 R H ρ Δ σ S _ (fun w R1 H1 S1 => by
    obtain ⟨p, qs, g2, g3, g4, g5⟩ := sx_mut2 (sx_pop S1) e
    have ew := sx_top' S1
    refine ⟨.ref p, g2, hi B R0 R1 H1 _ _ σ S1 _ fun z ez => ?_⟩
    obtain ⟨q, hq, vs, hH, hp⟩ := paired_get g4 (gt_some h0 h1)
    refine .inl ⟨p, qs.map V.ref, i, .ref q, rfl, ez, SqL.of g3, atI_of h0 (by rw [List.length_map, Paired.length g4]; exact h1) (by rw [List.getElem?_map, hq]; rfl), ?_⟩
    refine hj B R0 R1 H1 _ _ σ S1 _ fun z2 ez2 => .inl ?_
    exact ⟨q, vs, j, j.toNat, rfl, ez2, hH, ixN_of h2 (by rw [Paired.length hp]; exact h3), n R1 _ _ _ (g5 i.toNat q _ _ hq (paired_set ew _ hp)) kk⟩) x
end
end TB
namespace TB
open PySem L2
section
variable {Z : Zz} {B R0 R R' RL H H' : Hp} {τ ρ σ : List (Option V)} {Θ Δ Γ : List Sl} {s so : Sl} {o : Option V} {f own own' : List Addr}
/-- slot i's thing is taken to the top -/
theorem sy_take (S : Sy Z B R0 R H τ Θ) {i : Nat} (e : Θ[i]? = some s) : ∃ o, τ[i]? = some o ∧ Sy Z B R0 R H (o :: τ) (s :: Θ.set i .un) := by
  obtain ⟨own, hs, es⟩ := S
  obtain ⟨o, g1, f, g2, h2, h3, h4, h6⟩ := es_at es e
  subst h3
  have h7 := h6 R H o .un [] (Same.refl _) (fun _ _ => rfl) rfl
  rw [set_same h2, List.append_nil] at h7
  refine ⟨o, h2, f ++ (g1 ++ g2), hs_sub hs (fun p hp => ?_) ?_, f, g1 ++ g2, rfl, h4, h7⟩
  · simp only [List.mem_append] at hp ⊢
    grind
  · have nd := hs.nd
    simp only [List.nodup_append, List.mem_append] at nd ⊢
    grind
theorem sx_take (S : Sx Z B R0 R H ρ Δ σ Γ) {i : Nat} (e : Γ[i]? = some s) : ∃ o, σ[i]? = some o ∧ Sx Z B R0 R H (o :: ρ) (s :: Δ) σ (Γ.set i .un) := by
  obtain ⟨h, S⟩ := S
  obtain ⟨o, h1, h2⟩ := sy_take S (i := ρ.length + i) (by rw [at_slot h]; exact e)
  rw [at_slot'] at h1
  rw [h, List.set_append_right _ _ (by omega), show Δ.length + i - Δ.length = i by omega] at h2
  exact ⟨o, h1, by simp [h], h2⟩
end
section
variable {c : Cn} {Γ : List Sl} {ta tb te tl : TE} {tt tc : TT} {t u : TS} {s so : Sl} {α β γ : Type} {_ : Rp α} {_ : Rp β} {_ : Rp γ} {P : Po} {d : α}
/-- a thing of some kind: a value stands there -/
def Val (s : Sl) : Prop := ∀ Z R H o f, slok Z R H o s f → ∃ v, o = some v
theorem val_ol {xs : List α} : Val (.ol xs) := fun _ _ _ _ _ ⟨p, _, _, h, _⟩ => ⟨_, h⟩
theorem val_o2 {xss : List (List α)} : Val (.o2 xss) := fun _ _ _ _ _ ⟨p, _, _, h, _⟩ => ⟨_, h⟩
/-- an own thing is told -/
theorem w_retO {i : Nat} (hv : Val so) (e : Γ[i]? = some so) (k : P.rt so) : W c Γ (tRet (tVar i)) P := fun B R0 R H ρ Δ σ D S n r b kk x => by
  obtain ⟨o, h1, S2⟩ := sx_take S e
  obtain ⟨o2, f, h2, h3⟩ := sx_slot S e
  obtain ⟨v, rfl⟩ := hv _ _ _ _ _ h3
  rw [h1] at h2
  cases h2
  exact ⟨v, h1, r R H v so (sx_leave S2) k⟩
/-- a group of own parts is told -/
theorem w_retGroup {rows : List (List Int)} {unit : Int} {backs : List Int} {i j : Nat} (hZ : GrpC c.Z) (h : Ev c Γ ta (.o2 rows)) (hi : Γ[i]? = some (.im unit)) (hj : Γ[j]? = some (.ol backs)) (k : P.rt (.fo (⟨rows.length, rows, unit, backs⟩ : Grp))) : W c Γ (tRet (tMake (c.Z.cls .Group) (spI_Group c.Z) [] E0 (tCons ta (tCons (tVar i) (tCons (tVar j) tNil))))) P := fun B R0 R H ρ Δ σ D S n r b kk xk =>
  h B R0 R H ρ Δ σ S _ (fun v R1 H1 S1 => by
    obtain ⟨v2, g1, g2⟩ := sx_im S1 hi
    have hu : v2 = .int unit := g2
    subst hu
    obtain ⟨o3, g3, S2⟩ := sx_take S1 hj
    obtain ⟨hl, own, hs, f, g, rfl, ⟨p3, vs3, rfl, rfl, h3, h4⟩, f2, g', rfl, ⟨p1, qs, rfl, h6, h7, h8⟩, h9⟩ := sx_leave S2
    cases h6
    refine ⟨_, g1, _, g3, fun x dx nx ndx hne => ?_⟩
    have nlx : p1 ≠ x := fun e => by subst e; rw [nx] at h7; cases h7
    have nld : p1 ≠ dx := fun e => by subst e; rw [ndx] at h7; cases h7
    refine ⟨x, dx, p1, qs.map V.ref, _, _, rfl, upd_same, by rw [upd_ne nlx, upd_ne nld]; exact h7, hZ, fun H2 q1 q2 => ⟨rfl, ?_⟩⟩
    have old : ∀ p, H1 p ≠ none → H2 p = H1 p := fun p hp => by
      have a1 : p ≠ x := fun e => hp (e ▸ nx)
      have a2 : p ≠ dx := fun e => hp (e ▸ ndx)
      rw [q2 p a1, upd_ne a1, upd_ne a2]
    have sm : Same H1 H2 := fun p o e => by rw [old p (by rw [e]; simp)]; exact e
    have hd : H2 dx ≠ none := by rw [q2 dx hne, upd_ne hne, upd_same]; simp
    have hx : H2 x ≠ none := by rw [q1]; simp
    have own_old : ∀ p ∈ p3 :: ((p1 :: qs) ++ g'), H1 p ≠ none := by
      intro p hp
      have es2 : Es c.Z R1 H1 (some (.ref p3) :: some (.ref p1) :: (ρ ++ [])) (.ol backs :: .o2 rows :: (Δ ++ [])) (p3 :: ((p1 :: qs) ++ g')) := ⟨[p3], _, rfl, ⟨p3, vs3, rfl, rfl, h3, h4⟩, p1 :: qs, g', rfl, ⟨p1, qs, rfl, rfl, h7, h8⟩, h9⟩
      exact es_some es2 p hp
    have nin : ∀ p, H1 p = none → p ∉ p3 :: ((p1 :: qs) ++ g') := fun p hp z => own_old p z hp
    have e3 : H2 p3 = some (.lst vs3) := by rw [old p3 (by rw [h3]; simp)]; exact h3
    have e7 : H2 p1 = some (.lst (qs.map V.ref)) := by rw [old p1 (by rw [h7]; simp)]; exact h7
    refine r R1 H2 _ (.fo (⟨rows.length, rows, unit, backs⟩ : Grp)) ⟨by simpa using hl, (x :: dx :: p3 :: p1 :: qs) ++ g', ⟨hs.rh.trans sm, hs.bh.trans sm, hs.r0, hs.nw, fun p hp => ?_, ?_⟩, x :: dx :: p3 :: p1 :: qs, g', rfl, ⟨_, rfl, ?_, fun p hp => ?_⟩, es_mono (Same.refl _) (fun p hp => old p (own_old p (by simp [hp]))) h9⟩ k
    · simp only [List.cons_append, List.mem_cons] at hp
      rcases hp with rfl | rfl | hp
      · exact ⟨hs.rh.free nx, hs.bh.free nx⟩
      · exact ⟨hs.rh.free ndx, hs.bh.free ndx⟩
      · exact hs.ow p (by simpa using hp)
    · have n1 := nin x nx
      have n2 := nin dx ndx
      have nd := hs.nd
      simp only [List.cons_append, List.nil_append] at nd n1 n2 ⊢
      refine List.nodup_cons.mpr ⟨?_, List.nodup_cons.mpr ⟨n2, nd⟩⟩
      simp only [List.mem_cons] at n1 ⊢
      rintro (z | z)
      · exact hne z.symm
      · exact n1 z
    · refine ⟨hZ, x, dx, _, _, _, _, rfl, by rw [res_in (by simp)]; exact q1, by rw [List.length_map, Paired.length h8]; rfl, ⟨p1, _, rfl, by rw [res_in (by simp)]; exact e7, ?_⟩, rfl, p3, vs3, rfl, by rw [res_in (by simp)]; exact e3, paired_mono (fun _ _ => Flt.fl) h4⟩
      have h8' : Paired (inOk c.Z (fun _ => none) H1) qs rows := paired_mono (fun _ _ ⟨vs, a, b⟩ => ⟨vs, a, paired_mono (fun _ _ => Flt.fl) b⟩) h8
      exact inOk_rp (fun _ _ e => by cases e) (fun q hq o e => by rw [res_in (by simp [hq]), old q (by rw [e]; simp)]; exact e) h8'
    · simp only [List.mem_cons] at hp
      rcases hp with rfl | rfl | hp
      · exact hx
      · exact hd
      · have : H1 p ≠ none := own_old p (by simp only [List.mem_cons, List.mem_append]; grind)
        rw [old p this]
        exact this) xk
end
end TB
namespace TB
open PySem L2
section
variable {c : Cn} {Γ : List Sl} {ta tb te tl : TE} {tt tc : TT} {t u : TS} {s so : Sl} {α β γ : Type} {_ : Rp α} {_ : Rp β} {_ : Rp γ} {P : Po} {d : α}
/-- x, y = a, b -/
theorem w_par {x : α} {y : β} {i j : Nat} (ha : Ev c Γ ta (.im x)) (hb : Ev c Γ tb (.im y)) (k : P.nx ((Γ.set i (.im x)).set j (.im y))) : W c Γ (tPar i j (tCons ta (tCons tb tNil))) P := fun B R0 R H ρ Δ σ D S n r b kk xk =>
  (ea_cons ha (ea_cons hb ea_nil)) B R0 R H ρ Δ σ S _ (fun vs R1 H1 S1 sl => by
    cases sl with
    | cons r1 t1 =>
      cases t1 with
      | cons r2 t2 =>
        cases t2
        rename_i v w
        exact ⟨v, w, rfl, n R1 H1 _ _ (sx_asg (sx_push (sx_asg (sx_push S1 r1) i) r2) j) k⟩) xk
/-- xs.insert(i, y) -/
theorem w_ins {k : Nat} {xs : List α} {y : α} {i : Int} (e : Γ[k]? = some (.ol xs)) (hi : Ev c Γ ta (.im i)) (h : Ev c Γ te (.im y)) (h0 : 0 ≤ i) (h1 : i < 2 ^ 63) (hl : xs.length < 1000000) (kk : P.nx (Γ.set k (.ol (xs.take i.toNat ++ [y] ++ xs.drop i.toNat)))) : W c Γ (tDrop (tBM c.Z.K "list" gInsert (tVar k) (tCons ta (tCons te tNil)))) P := fun B R0 R H ρ Δ σ D S n r bb kk' x => by
  obtain ⟨p, vs, h2, h3, h4, _⟩ := sx_mutl S e
  refine ⟨.ref p, h2, tyL h3, (ea_cons hi (ea_cons h ea_nil)) B R0 R H ρ Δ σ S _ (fun ws R1 H1 S1 sl => ?_) x⟩
  cases sl with
  | cons r1 t1 =>
    cases t1 with
    | cons r2 t2 =>
      cases t2
      rename_i v w
      obtain ⟨p', vs', h2', h3', h4', h5⟩ := sx_mutl S1 e
      rw [h2] at h2'
      cases h2'
      have hl' := Paired.length h4'
      have rv : v = .int i := r1
      subst rv
      exact ⟨p, vs', i, w, rfl, rfl, h3', Nat.lt_of_lt_of_le (by omega : vs'.length < 1000000) (by decide), h0, h1, n R1 _ _ _ (h5 _ _ (paired_append (paired_append (paired_take _ h4') (.cons r2 .nil)) (paired_drop _ h4'))) kk⟩
end
theorem irange_suc {n : Int} (h : 0 ≤ n) : irange (n + 1) = irange n ++ [n] := by
  unfold irange
  rw [show (n + 1).toNat = n.toNat + 1 by omega, List.range_succ, List.map_append, List.map_singleton, show ((n.toNat : Nat) : Int) = n by omega]
theorem irange_0 : irange 0 = [] := rfl
end TB
namespace TB
open PySem L2
section
variable {c : Cn} {Γ : List Sl} {ta tb te tl : TE} {tt tc : TT} {t u : TS} {s so : Sl} {α β γ : Type} {_ : Rp α} {_ : Rp β} {_ : Rp γ} {P : Po} {d : α}
theorem w_appS {i : Nat} {xs : List α} {S : Sl → Prop} (e : Γ[i]? = some (.ol xs)) (h : EvS c Γ te S) (hl : xs.length < 1000000) (k : ∀ s, S s → ∃ y : α, s = .im y ∧ P.nx (Γ.set i (.ol (xs ++ [y])))) : W c Γ (tDrop (tBM c.Z.K "list" rAppend (tVar i) (tCons te tNil))) P := fun B R0 R H ρ Δ σ D S0 n r bb kk x => by
  obtain ⟨p, vs, h2, h3, h4, _⟩ := sx_mutl S0 e
  refine ⟨.ref p, h2, tyL h3, h B R0 R H ρ Δ σ S0 _ (fun w s R1 H1 es S1 => ?_) x⟩
  obtain ⟨y, rfl, kn⟩ := k s es
  obtain ⟨p', vs', h2', h3', h4', h5⟩ := sx_mutl (sx_pop S1) e
  rw [h2] at h2'
  cases h2'
  have hl' := Paired.length h4'
  exact ⟨p, vs', w, rfl, rfl, h3', Nat.lt_of_lt_of_le (by omega : vs'.length < 1000000) (by decide), n R1 _ _ _ (h5 (vs' ++ [w]) (xs ++ [y]) (paired_append h4' (.cons (sx_top' S1) .nil))) kn⟩
end
end TB
namespace TB
open PySem L2
section
variable {Z : Zz} {B R0 R R' RL H H' : Hp} {τ ρ σ : List (Option V)} {Θ Δ Γ : List Sl} {s so : Sl} {o : Option V} {f own own' : List Addr}
end
section
variable {c : Cn} {Γ : List Sl} {ta tb te tl : TE} {tt tc : TT} {t u : TS} {s so : Sl} {α β γ : Type} {_ : Rp α} {_ : Rp β} {_ : Rp γ} {P : Po} {d : α}
end
end TB

/-! TbM: more rules. -/
namespace TB
open PySem L2
section
variable {c : Cn} {Γ : List Sl} {ta tb te tl : TE} {tt tc : TT} {t u : TS} {s so : Sl} {α β γ : Type} {_ : Rp α} {_ : Rp β} {_ : Rp γ} {P : Po} {d : α}
/-- xs.index(y) -/
theorem ev_index {xs : List Int} {y : Int} {j : Nat} (h : Ev c Γ te (.im xs)) (ha : Ev c Γ ta (.im y)) (hj : xs[j]? = some y) (hno : ∀ m, m < j → xs[m]? ≠ some y) : Ev c Γ (tBM c.Z.K "list" (rIndex c.Z.K) te (tCons ta tNil)) (.im (j : Int)) := fun B R0 R H ρ Δ σ S Q q xk => h B R0 R H ρ Δ σ S _ (fun v R1 H1 S1 => by
  obtain ⟨a, vs, rfl, h2, h3⟩ := id (sx_top' S1)
  refine ⟨.inl ⟨rfl, vs, SqL.of (sx_same S1 _ _ h2)⟩, ha B R0 R1 H1 _ _ σ S1 _ (fun w R2 H2 S2 => ?_) xk.push1⟩
  have ew : w = .int y := sx_top' S2
  subst ew
  obtain ⟨a', vs', e', h2', h3'⟩ := sx_top' (sx_pop S2)
  cases e'
  have ev := paired_map_int h3'
  subst ev
  refine ⟨a, xs.map V.int, .int y, j, .int y, rfl, rfl, SqL.of (sx_same S2 _ _ h2'), rfl, ?_, by rw [List.getElem?_map, hj]; rfl, by simp [eqV], fun m z' hm hz => ?_, q _ R2 H2 (sx_push (sx_pop (sx_pop S2)) rfl)⟩
  · rw [List.all_eq_true]
    intro x hx
    obtain ⟨i, _, rfl⟩ := List.mem_map.mp hx
    rfl
  · rw [List.getElem?_map] at hz
    cases e : xs[m]? with
    | none => rw [e] at hz; cases hz
    | some i =>
      rw [e] at hz
      cases hz
      have : i ≠ y := fun z => hno m hm (by rw [e, z])
      simp [eqV, this]) xk
end
end TB

/-! TbW: methods of own classes, own classes made, where something may be raised. -/
namespace TB
open PySem PySem.Spec PyProof.Rows L2
section
variable {X : Cx} {CX : CXT} {k : Nat} {f C : Addr} {fd : FuncData} {ps : List Str} {sp : Sp} {dvs : List V} {ds : List Value} {E : L2.St → XK} {x m : Str} {p pos apos : Pos} {e o : Expr} {es : List Expr} {ta : TE} {t : TA}
end
end TB

/-! TbT: own trees: lists and tuples, one in another, all of this frame's own. -/
namespace TB
open PySem L2
inductive OT where
  | i (n : Int)
  | b (x : Bool)
  | z
  | l (xs : List OT)
  | t (xs : List OT)
mutual
def otR (h : Hp) : OT → V → List Addr → Prop
  | .i n, v, f => v = .int n ∧ f = []
  | .b x, v, f => v = .bl x ∧ f = []
  | .z, v, f => v = .non ∧ f = []
  | .l xs, v, f => ∃ a vs g, v = .ref a ∧ f = a :: g ∧ h a = some (.lst vs) ∧ otRs h xs vs g
  | .t xs, v, f => ∃ a vs g, v = .ref a ∧ f = a :: g ∧ h a = some (.tup vs) ∧ otRs h xs vs g
def otRs (h : Hp) : List OT → List V → List Addr → Prop
  | [], vs, f => vs = [] ∧ f = []
  | x :: xs, vs, f => ∃ v ws g1 g2, vs = v :: ws ∧ f = g1 ++ g2 ∧ otR h x v g1 ∧ otRs h xs ws g2
end
mutual
theorem otR_frame {h h' : Hp} : ∀ {T : OT} {v : V} {f : List Addr}, (∀ p ∈ f, h' p = h p) → otR h T v f → otR h' T v f
  | .i n, _, _, _, q => q
  | .b x, _, _, _, q => q
  | .z, _, _, _, q => q
  | .l xs, _, _, k, q => by
    obtain ⟨a, vs, g, e1, rfl, h1, h2⟩ := q
    exact ⟨a, vs, g, e1, rfl, by rw [k a (by simp)]; exact h1, otRs_frame (fun p hp => k p (by simp [hp])) h2⟩
  | .t xs, _, _, k, q => by
    obtain ⟨a, vs, g, e1, rfl, h1, h2⟩ := q
    exact ⟨a, vs, g, e1, rfl, by rw [k a (by simp)]; exact h1, otRs_frame (fun p hp => k p (by simp [hp])) h2⟩
theorem otRs_frame {h h' : Hp} : ∀ {Ts : List OT} {vs : List V} {f : List Addr}, (∀ p ∈ f, h' p = h p) → otRs h Ts vs f → otRs h' Ts vs f
  | [], _, _, _, q => q
  | x :: xs, _, _, k, q => by
    obtain ⟨v, ws, g1, g2, e1, rfl, h1, h2⟩ := q
    exact ⟨v, ws, g1, g2, e1, rfl, otR_frame (fun p hp => k p (by simp [hp])) h1, otRs_frame (fun p hp => k p (by simp [hp])) h2⟩
end
/-- one item, and the rest -/
theorem otRs_at {h : Hp} : ∀ {Ts : List OT} {vs : List V} {f : List Addr} {i : Nat} {T : OT}, otRs h Ts vs f → Ts[i]? = some T → ∃ v f1 g f2, vs[i]? = some v ∧ f = f1 ++ g ++ f2 ∧ otR h T v g ∧
    ∀ (h' : Hp) (T' : OT) (g' : List Addr), (∀ p ∈ f1 ++ f2, h' p = h p) → otR h' T' v g' → otRs h' (Ts.set i T') vs (f1 ++ g' ++ f2)
  | [], _, _, _, _, _, e => by simp at e
  | x :: xs, _, _, 0, T, q, e => by
    obtain ⟨v, ws, g1, g2, rfl, rfl, h1, h2⟩ := q
    have e' : x = T := by simpa using e
    subst e'
    exact ⟨v, [], g1, g2, rfl, by simp, h1, fun h' T' g' k r => ⟨v, ws, g', g2, rfl, by simp, r, otRs_frame (fun p hp => k p (by simp [hp])) h2⟩⟩
  | x :: xs, _, _, i + 1, T, q, e => by
    obtain ⟨v, ws, g1, g2, rfl, rfl, h1, h2⟩ := q
    obtain ⟨w, f1, g, f2, e1, rfl, h3, h4⟩ := otRs_at (i := i) (T := T) h2 (by simpa using e)
    refine ⟨w, g1 ++ f1, g, f2, by simpa using e1, by simp, h3, fun h' T' g' k r => ⟨v, ws, g1, f1 ++ g' ++ f2, rfl, by simp, otR_frame (fun p hp => k p (by simp [hp])) h1, h4 h' T' g' (fun p hp => k p (by simp at hp ⊢; rcases hp with q | q <;> simp [q])) r⟩⟩
end TB
namespace TB
open PySem L2
theorem otR_nd {h : Hp} : ∀ {T : OT} {v : V} {f : List Addr}, otR h T v f → ∀ p ∈ f, h p ≠ none := by
  intro T
  have key : (∀ (v : V) (f : List Addr), otR h T v f → ∀ p ∈ f, h p ≠ none) := by
    refine OT.rec (motive_1 := fun T => ∀ (v : V) (f : List Addr), otR h T v f → ∀ p ∈ f, h p ≠ none) (motive_2 := fun Ts => ∀ (vs : List V) (f : List Addr), otRs h Ts vs f → ∀ p ∈ f, h p ≠ none) ?_ ?_ ?_ ?_ ?_ ?_ ?_ T
    · rintro n v f ⟨_, rfl⟩ p hp; simp at hp
    · rintro n v f ⟨_, rfl⟩ p hp; simp at hp
    · rintro v f ⟨_, rfl⟩ p hp; simp at hp
    · rintro xs ih v f ⟨a, vs, g, _, rfl, h1, h2⟩ p hp
      rcases List.mem_cons.mp hp with rfl | hp
      · rw [h1]; simp
      · exact ih _ _ h2 p hp
    · rintro xs ih v f ⟨a, vs, g, _, rfl, h1, h2⟩ p hp
      rcases List.mem_cons.mp hp with rfl | hp
      · rw [h1]; simp
      · exact ih _ _ h2 p hp
    · rintro vs f ⟨_, rfl⟩ p hp; simp at hp
    · rintro x xs ih1 ih2 vs f ⟨v, ws, g1, g2, _, rfl, h1, h2⟩ p hp
      rcases List.mem_append.mp hp with hp | hp
      · exact ih1 _ _ h1 p hp
      · exact ih2 _ _ h2 p hp
  exact fun {v f} q => key v f q
/-- the tree as own objects -/
def Ot (T : OT) : Own := ⟨fun _ _ h v => ∃ f : List Addr, f.Nodup ∧ otR h T v f, fun _ h => h⟩
abbrev Sl.ot (T : OT) : Sl := .ow (Ot T)
/-- s may be told as s' -/
def SubS (s s' : Sl) : Prop := ∀ Z R H o f, f.Nodup → slok Z R H o s f → ∃ f', f'.Nodup ∧ (∀ p ∈ f', p ∈ f) ∧ slok Z R H o s' f'
section
variable {Z : Zz} {B R0 R R' RL H H' : Hp} {τ ρ σ : List (Option V)} {Θ Δ Γ : List Sl} {s s' so : Sl} {o : Option V} {f own own' : List Addr} {α β γ : Type} {_ : Rp α} {_ : Rp β} {_ : Rp γ} {T U : OT}
/-- the top's own objects -/
theorem sx_ownTop (S : Sx Z B R0 R H (o :: ρ) (s :: Δ) σ Γ) : ∃ f, slok Z R H o s f ∧ f.Nodup ∧
    ∀ (H' : Hp) (o' : Option V) (s' : Sl) (f' : List Addr), (∀ p, p ∉ f → H' p = H p) → f'.Nodup → (∀ p ∈ f', p ∈ f) → slok Z R H' o' s' f' → Sx Z B R0 R H' (o' :: ρ) (s' :: Δ) σ Γ := by
  obtain ⟨hl, own, hs, f, g, rfl, h1, h2⟩ := S
  have nd := hs.nd
  refine ⟨f, h1, by simp only [List.nodup_append] at nd; exact nd.1, fun H' o' s' f' k ndf sub h5 => ⟨by simpa using hl, f' ++ g, ⟨fun p o a => ?_, fun p o a => ?_, hs.r0, hs.nw, fun p hp => hs.ow p ?_, ?_⟩, f', g, rfl, h5, es_mono (Same.refl _) (fun p hp => k p fun z => ?_) h2⟩⟩
  · rw [k p fun z => by have := (hs.ow p (by simp [z])).1; rw [a] at this; cases this]; exact hs.rh _ _ a
  · rw [k p fun z => by have := (hs.ow p (by simp [z])).2; rw [a] at this; cases this]; exact hs.bh _ _ a
  · simp only [List.mem_append] at hp ⊢
    rcases hp with hp | hp
    · exact .inl (sub p hp)
    · exact .inr hp
  · simp only [List.nodup_append] at nd ⊢
    exact ⟨ndf, nd.2.1, fun a ha b hb => nd.2.2 a (sub a ha) b hb⟩
  · simp only [List.nodup_append] at nd
    exact nd.2.2 p z p hp rfl
theorem sx_subTop (h : SubS s s') (S : Sx Z B R0 R H (o :: ρ) (s :: Δ) σ Γ) : Sx Z B R0 R H (o :: ρ) (s' :: Δ) σ Γ := by
  obtain ⟨f, h2, h3, h4⟩ := sx_ownTop S
  obtain ⟨f', h5, h6, h7⟩ := h Z R H o f h3 h2
  exact h4 H o s' f' (fun _ _ => rfl) h5 h6 h7
end
theorem slok_ot {Z : Zz} {R H : Hp} {v : V} {T : OT} {f : List Addr} (nd : f.Nodup) (h : otR H T v f) : slok Z R H (some v) (.ot T) f :=
  ⟨v, rfl, ⟨f, nd, otR_frame (fun p hp => res_in hp) h⟩, otR_nd h⟩
theorem slok_ot' {Z : Zz} {R H : Hp} {o : Option V} {T : OT} {f : List Addr} (h : slok Z R H o (.ot T) f) : ∃ v g, o = some v ∧ g.Nodup ∧ (∀ p ∈ g, p ∈ f) ∧ otR H T v g := by
  obtain ⟨v, h1, ⟨g, h2, h3⟩, h4⟩ := h
  have sub : ∀ p ∈ g, p ∈ f := fun p hp => by
    have := otR_nd h3 p hp
    unfold res at this
    by_cases c : p ∈ f
    · exact c
    · rw [if_neg c] at this; exact absurd rfl this
  exact ⟨v, g, h1, h2, sub, otR_frame (fun p hp => (res_in (sub p hp)).symm) h3⟩
theorem otRs_ints {h : Hp} : ∀ {xs : List Int} {vs : List V} {f : List Addr}, otRs h (xs.map OT.i) vs f ↔ vs = xs.map V.int ∧ f = []
  | [], vs, f => Iff.rfl
  | x :: xs, vs, f => by
    constructor
    · rintro ⟨v, ws, g1, g2, rfl, rfl, ⟨rfl, rfl⟩, h2⟩
      obtain ⟨rfl, rfl⟩ := otRs_ints.mp h2
      exact ⟨rfl, rfl⟩
    · rintro ⟨rfl, rfl⟩
      exact ⟨_, _, [], [], rfl, rfl, ⟨rfl, rfl⟩, otRs_ints.mpr ⟨rfl, rfl⟩⟩
abbrev oti (xs : List Int) : OT := .l (xs.map OT.i)
abbrev otii (xss : List (List Int)) : OT := .l (xss.map oti)
theorem otR_ints {h : Hp} {xs : List Int} {v : V} {f : List Addr} : otR h (oti xs) v f ↔ ∃ a, v = .ref a ∧ f = [a] ∧ h a = some (.lst (xs.map V.int)) := by
  constructor
  · rintro ⟨a, vs, g, rfl, rfl, h1, h2⟩
    obtain ⟨rfl, rfl⟩ := otRs_ints.mp h2
    exact ⟨a, rfl, rfl, h1⟩
  · rintro ⟨a, rfl, rfl, h1⟩
    exact ⟨a, _, [], rfl, rfl, h1, otRs_ints.mpr ⟨rfl, rfl⟩⟩
theorem sub_Tol {xs : List Int} : SubS (.ot (oti xs)) (.ol xs) := fun Z R H o f nd h => by
  obtain ⟨v, g, rfl, h2, h3, h4⟩ := slok_ot' h
  obtain ⟨a, rfl, rfl, h5⟩ := otR_ints.mp h4
  exact ⟨[a], h2, h3, a, _, rfl, rfl, h5, paired_of_int _⟩
theorem otRs_iint {h : Hp} : ∀ {xss : List (List Int)} {qs : List Addr}, Paired (fun q xs => h q = some (.lst (xs.map V.int))) qs xss → otRs h (xss.map oti) (qs.map V.ref) qs
  | _, _, .nil => ⟨rfl, rfl⟩
  | _, _, .cons r t => ⟨_, _, [_], _, rfl, rfl, otR_ints.mpr ⟨_, rfl, rfl, r⟩, otRs_iint t⟩
end TB
namespace TB
open PySem L2
section
variable {c : Cn} {Γ : List Sl} {ta tb te tl ty : TE} {tt tc : TT} {t u : TS} {s s' so : Sl} {α β γ : Type} {_ : Rp α} {_ : Rp β} {_ : Rp γ} {P : Po} {d : α} {T U : OT}
theorem ev_subS (q : SubS s s') (h : Ev c Γ te s) : Ev c Γ te s' := fun B R0 R H ρ Δ σ S Q k x => h B R0 R H ρ Δ σ S Q (fun v R1 H1 S1 => k v R1 H1 (sx_subTop q S1)) x
/-- an own tuple's (list's) item, the rest let go -/
theorem ev_otIxT {Ts : List OT} {k : Nat} {n : Int} (h : Ev c Γ te (.ot (.t Ts))) (e : Ts[k]? = some U) (hn : n = (k : Int)) : Ev c Γ (tOp (gIx c.Z.K) te (tC (.int n))) (.ot U) := fun B R0 R H ρ Δ σ S Q q x =>
  h B R0 R H ρ Δ σ S _ (fun v R1 H1 S1 => by
    obtain ⟨f, h1, h2, h3⟩ := sx_ownTop S1
    obtain ⟨v', g, e1, h4, h5, a, vs, g', rfl, rfl, h6, h7⟩ := slok_ot' h1
    cases e1
    obtain ⟨w, f1, g2, f2, h8, rfl, h9, _⟩ := otRs_at h7 e
    have hlt : k < vs.length := (List.getElem?_eq_some_iff.mp h8).1
    refine .inr (.inl ⟨a, vs, n, w, rfl, rfl, SqT.of h6, atI_of (by omega) (by omega) (by rw [hn]; simpa using h8), ?_⟩)
    have nd2 : g2.Nodup := by
      have := (List.nodup_cons.mp h4).2
      simp only [List.nodup_append] at this
      exact this.1.2.1
    exact q w R1 H1 (h3 H1 (some w) (.ot U) g2 (fun _ _ => rfl) nd2 (fun p hp => h5 p (by simp [hp])) (slok_ot nd2 h9))) x
end
end TB
namespace TB
open PySem L2
section
variable {c : Cn} {Γ : List Sl} {ta tb te tl ty : TE} {tt tc : TT} {t u : TS} {s s' so : Sl} {α β γ : Type} {_ : Rp α} {_ : Rp β} {_ : Rp γ} {P : Po} {d : α} {T U : OT}
end
end TB

local macro_rules | `(tactic| walk_at "nz") => `(tactic| try dsimp only [List.set_cons_zero, List.set_cons_succ, List.replicate, List.length_cons, List.length_nil, List.append_nil, List.cons_append, List.nil_append])
local macro_rules | `(tactic| walk_at "sd") => `(tactic| first | assumption | rfl | omega | (simp only [List.length_cons, List.length_nil]; omega) | skip)
local macro_rules | `(tactic| walk_at "ev1") => `(tactic| first
  | with_reducible exact TB.ev_int
  | with_reducible exact TB.ev_bl
  | with_reducible exact TB.ev_str
  | exact TB.ev_var rfl
  | with_reducible exact TB.ev_non
  | exact TB.ev_none
  | ((with_reducible apply TB.ev_add) <;> walk_at "ev")
  | ((with_reducible apply TB.ev_sub) <;> walk_at "ev")
  | ((with_reducible apply TB.ev_mul) <;> walk_at "ev")
  | ((with_reducible apply TB.ev_mod) <;> walk_at "ev")
  | ((with_reducible apply TB.ev_div) <;> walk_at "ev")
  | ((with_reducible apply TB.ev_pow) <;> walk_at "ev")
  | ((with_reducible apply TB.ev_neg) <;> walk_at "ev")
  | ((with_reducible apply TB.ev_lt) <;> walk_at "ev")
  | ((with_reducible apply TB.ev_le) <;> walk_at "ev")
  | ((with_reducible apply TB.ev_gt) <;> walk_at "ev")
  | ((with_reducible apply TB.ev_ge) <;> walk_at "ev")
  | ((with_reducible apply TB.ev_eqI) <;> walk_at "ev")
  | ((with_reducible apply TB.ev_neI) <;> walk_at "ev")
  | ((with_reducible apply TB.ev_eqL) <;> walk_at "ev")
  | ((with_reducible apply TB.ev_neL) <;> walk_at "ev")
  | ((with_reducible apply TB.ev_eqLL) <;> walk_at "ev")
  | ((with_reducible apply TB.ev_neLL) <;> walk_at "ev")
  | ((with_reducible apply TB.ev_eqP) <;> walk_at "ev")
  | ((with_reducible apply TB.ev_neP) <;> walk_at "ev")
  | ((with_reducible apply TB.ev_ix) <;> walk_at "ev")
  | ((with_reducible apply TB.ev_ixS) <;> walk_at "ev")
  | ((apply TB.ev_ixO rfl) <;> walk_at "ev")
  | ((with_reducible apply TB.ev_rows) <;> walk_at "ev")
  | ((with_reducible apply TB.ev_unit) <;> walk_at "ev")
  | ((with_reducible apply TB.ev_backs) <;> walk_at "ev")
  | ((with_reducible apply TB.ev_many) <;> walk_at "ev")
  | ((with_reducible apply TB.ev_len) <;> walk_at "ev")
  | ((with_reducible apply TB.ev_lenS) <;> walk_at "ev")
  | exact TB.ev_lenO rfl
  | ((with_reducible apply TB.ev_list) <;> walk_at "ev")
  | exact TB.ev_listO rfl
  | ((with_reducible apply TB.ev_sorted) <;> walk_at "ev")
  | ((with_reducible apply TB.ev_min2) <;> walk_at "ev")
  | ((with_reducible apply TB.ev_max2) <;> walk_at "ev")
  | ((with_reducible apply TB.ev_listRg) <;> walk_at "ev")
  | ((with_reducible apply TB.ev_isiII) <;> walk_at "ev")
  | ((with_reducible apply TB.ev_isiIB) <;> walk_at "ev")
  | ((with_reducible apply TB.ev_isiLL) <;> walk_at "ev")
  | ((with_reducible apply TB.ev_isiTT) <;> walk_at "ev")
  | ((with_reducible apply TB.ev_cut) <;> walk_at "ev")
  | ((with_reducible apply TB.ev_cutTo) <;> walk_at "ev")
  | ((with_reducible apply TB.ev_cutFrom) <;> walk_at "ev")
  | ((with_reducible apply TB.ev_cutS) <;> walk_at "ev")
  | ((with_reducible apply TB.ev_cat) <;> walk_at "ev")
  | ((with_reducible apply TB.ev_rep) <;> walk_at "ev")
  | ((with_reducible apply TB.ev_all rfl) <;> walk_at "ev")
  | ((with_reducible apply TB.ev_any rfl) <;> walk_at "ev")
  | ((with_reducible apply TB.ev_lstH) <;> walk_at "ev")
  | ((with_reducible apply TB.ev_fr) <;> walk_at "ev")
  | ((with_reducible apply TB.ev_andV) <;> walk_at "ev")
  | ((with_reducible apply TB.ev_orV) <;> walk_at "ev")
  | ((with_reducible apply TB.ev_notV) <;> walk_at "ev"))
local macro_rules | `(tactic| walk_at "et1") => `(tactic| first
  | with_reducible exact TB.et_yes
  | ((with_reducible apply TB.et_test) <;> walk_at "ev")
  | ((with_reducible apply TB.et_B) <;> walk_at "ev")
  | ((with_reducible apply TB.et_not) <;> walk_at "ev")
  | ((with_reducible apply TB.et_and) <;> walk_at "ev")
  | ((with_reducible apply TB.et_or) <;> walk_at "ev"))
local macro_rules | `(tactic| walk_at "ea1") => `(tactic| first
  | with_reducible exact TB.ea_nil
  | ((with_reducible apply TB.ea_cons) <;> walk_at "ev"))
local macro_rules | `(tactic| walk_at "eh1") => `(tactic| first
  | with_reducible exact TB.evh_nil
  | ((with_reducible apply TB.evh_cons) <;> walk_at "ev"))
local macro_rules | `(tactic| walk_at "ev") => `(tactic| first
  | ((with_reducible show TB.EvH _ _ _ _ _); walk_at "eh1")
  | ((with_reducible show TB.Ev _ _ _ _); walk_at "ev1")
  | ((with_reducible show TB.EvT _ _ _ _); walk_at "et1")
  | ((with_reducible show TB.EvA _ _ _ _); walk_at "ea1")
  | ((fail_if_success (with_reducible show TB.Ev _ _ _ _)); (fail_if_success (with_reducible show TB.EvH _ _ _ _ _)); (fail_if_success (with_reducible show TB.EvT _ _ _ _)); (fail_if_success (with_reducible show TB.EvA _ _ _ _)); (first | (intro hc_; walk_at "ev") | walk_at "sd")))
local macro_rules | `(tactic| walk_at "w") => `(tactic| first
  | (with_reducible apply TB.w_seq; walk_at "w")
  | (with_reducible apply TB.w_asg; (case' h => walk_at "ev"); (case' k => walk_at "nz"))
  | (with_reducible apply TB.w_ret; (case' h => walk_at "ev"))
  | (with_reducible apply TB.w_if; (case' h => walk_at "ev"); skip))

/-! TbGrp: groups as data: the product, what is in bounds. -/
namespace TB
open PySem L2
def mul (g : Grp) (a b : Int) : Int := gt (gt g.rows a) b
/-- rows and columns in bounds -/
structure GrpOk (g : Grp) : Prop where
  many : g.many = g.rows.length
  sq : ∀ r ∈ g.rows, r.length = g.rows.length
  bd : ∀ r ∈ g.rows, ∀ x ∈ r, 0 ≤ x ∧ x < g.rows.length
  un : 0 ≤ g.unit ∧ g.unit < g.rows.length
  bl : g.backs.length = g.rows.length
  bb : ∀ x ∈ g.backs, 0 ≤ x ∧ x < g.rows.length
  small : g.rows.length ≤ 23
def Th (g : Grp) (a : Int) : Prop := 0 ≤ a ∧ a < g.rows.length
theorem gt_mem {α : Type} [Rp α] {xs : List α} {i : Int} (h0 : 0 ≤ i) (h1 : i < xs.length) : gt xs i ∈ xs := List.mem_of_getElem? (gt_some h0 h1)
theorem GrpOk.row {g : Grp} (o : GrpOk g) {a : Int} (h : Th g a) : (gt g.rows a).length = g.rows.length := o.sq _ (gt_mem h.1 h.2)
theorem GrpOk.mul {g : Grp} (o : GrpOk g) {a b : Int} (h : Th g a) (k : Th g b) : Th g (mul g a b) := o.bd _ (gt_mem h.1 h.2) _ (gt_mem k.1 (by rw [o.row h]; exact k.2))
def prod (g : Grp) (l : List Int) : Int := l.foldl (mul g) g.unit
end TB
namespace TB
open PySem L2
/-! ### tables -/
abbrev Tbl := List (List Int)
def SizeOk (t : Tbl) : Prop := 1 ≤ t.length ∧ t.length ≤ 23 ∧ ∀ r ∈ t, r.length = t.length
/-- an entry -/
abbrev en (t : Tbl) (a b : Int) : Int := gt (gt t a) b
def Stg (t : Tbl) (x : Int) : Prop := x < 0 ∨ t.length ≤ x
/-- the first stranger's place -/
structure FirstStg (t : Tbl) (a b : Nat) : Prop where
  ha : a < t.length
  hb : b < t[a].length
  bad : Stg t t[a][b]
  rows : ∀ i (h : i < t.length), i < a → ∀ x ∈ t[i], ¬ Stg t x
  row : ∀ j (h : j < t[a].length), j < b → ¬ Stg t t[a][j]
def NoStg (t : Tbl) : Prop := ∀ r ∈ t, ∀ x ∈ r, 0 ≤ x ∧ x < t.length
def IsUnit (t : Tbl) (e : Int) : Prop := ∀ a : Int, 0 ≤ a → a < t.length → en t e a = a ∧ en t a e = a
def IsBack (t : Tbl) (u a b : Int) : Prop := en t a b = u ∧ en t b a = u
structure FirstBack (t : Tbl) (u a b : Int) : Prop where
  b0 : 0 ≤ b
  b1 : b < t.length
  is : IsBack t u a b
  no : ∀ c, 0 ≤ c → c < b → ¬ IsBack t u a c
def Asc (t : Tbl) (a b c : Int) : Prop := en t (en t a b) c = en t a (en t b c)
def InT (t : Tbl) (a : Int) : Prop := 0 ≤ a ∧ a < t.length
def AllAsc (t : Tbl) : Prop := ∀ a b c, InT t a → InT t b → InT t c → Asc t a b c
structure FirstBad (t : Tbl) (a b c : Int) : Prop where
  ha : InT t a
  hb : InT t b
  hc : InT t c
  bad : ¬ Asc t a b c
  r1 : ∀ x y z, InT t x → InT t y → InT t z → x < a → Asc t x y z
  r2 : ∀ y z, InT t y → InT t z → y < b → Asc t a y z
  r3 : ∀ z, InT t z → z < c → Asc t a b z
theorem gt_get {α : Type} [Rp α] {xs : List α} {i : Nat} (h : i < xs.length) : gt xs (i : Int) = xs[i] := gt_nat h
end TB
namespace TB
open PySem L2
/-! ### the group of a table -/
instance (t : Tbl) (u a b : Int) : Decidable (IsBack t u a b) := inferInstanceAs (Decidable (_ ∧ _))
def bkf (t : Tbl) (u a : Int) : Int := ((irange t.length).find? fun b => decide (IsBack t u a b)).getD 0
theorem find_irange {n : Int} {p : Int → Bool} {b : Int} (h : (irange n).find? p = some b) : 0 ≤ b ∧ b < n ∧ p b = true ∧ ∀ c, 0 ≤ c → c < b → p c = false := by
  have hp := List.find?_some h
  have hm := List.mem_of_find?_eq_some h
  rw [mem_irange] at hm
  refine ⟨hm.1, hm.2, hp, fun c h0 h1 => ?_⟩
  rw [List.find?_eq_some_iff_getElem] at h
  obtain ⟨_, i, hi, e, hlt⟩ := h
  rw [irange_get] at e
  have hc : c.toNat < i := by omega
  have := hlt c.toNat hc
  rw [irange_get] at this
  rw [show ((c.toNat : Nat) : Int) = c by omega] at this
  simpa using this
theorem bkf_first {t : Tbl} {u a : Int} (h : ∃ b, InT t b ∧ IsBack t u a b) : FirstBack t u a (bkf t u a) := by
  obtain ⟨b, hb, hk⟩ := h
  unfold bkf
  cases e : (irange t.length).find? fun b => decide (IsBack t u a b) with
  | none =>
    rw [List.find?_eq_none] at e
    exact absurd (decide_eq_true hk) (e b (mem_irange.mpr hb))
  | some x =>
    obtain ⟨h0, h1, h2, h3⟩ := find_irange e
    exact ⟨h0, h1, of_decide_eq_true h2, fun c c0 c1 => of_decide_eq_false (h3 c c0 c1)⟩
def grpOf (t : Tbl) (u : Int) : Grp := ⟨t.length, t, u, (irange t.length).map (bkf t u)⟩
end TB
namespace TB
open PySem L2
theorem unit_one {t : Tbl} {u e : Int} (hu : InT t u) (he : InT t e) (h1 : IsUnit t u) (h2 : IsUnit t e) : u = e := by
  have a1 := (h1 e he.1 he.2).1
  have a2 := (h2 u hu.1 hu.2).2
  rw [← a2, a1]
/-- a table that is a group's, with its unit -/
structure GTbl (t : Tbl) (e : Int) : Prop where
  sz : SizeOk t
  ns : NoStg t
  he : InT t e
  un : IsUnit t e
  bk : ∀ a, InT t a → ∃ b, InT t b ∧ IsBack t e a b
  asc : AllAsc t
theorem GTbl.ok {t : Tbl} {e : Int} (h : GTbl t e) : GrpOk (grpOf t e) := by
  have hb : ∀ x ∈ (grpOf t e).backs, 0 ≤ x ∧ x < t.length := by
    intro x hx
    obtain ⟨a, ha, rfl⟩ := List.mem_map.mp hx
    rw [mem_irange] at ha
    have := bkf_first (h.bk a ha)
    exact ⟨this.b0, this.b1⟩
  exact ⟨rfl, h.sz.2.2, h.ns, h.he, by show ((irange t.length).map _).length = t.length; rw [List.length_map, irange_len]; omega, hb, h.sz.2.1⟩
end TB
namespace TB
open PySem L2
theorem gt_map {α : Type} [Rp α] {f : Int → α} {n i : Int} (h0 : 0 ≤ i) (h1 : i < n) : gt ((irange n).map f) i = f i := by
  have h2 : i.toNat < ((irange n).map f).length := by rw [List.length_map, irange_len]; omega
  unfold gt
  rw [getD_eq h2, List.getElem_map, irange_get, show ((i.toNat : Nat) : Int) = i by omega]
end TB
namespace TB
open PySem L2
/-- [list(row) for row in table] -/
theorem ev_copyT {c : Cn} {Γ : List Sl} {tl : TE} {t : Tbl} {j : Nat} (h : Ev c Γ tl (.im t)) (hn : t.length < 1000000) (hu : UnAt Γ [j]) (hv : ∀ r : List Int, (Γ.set j (.im r))[j]? = some (.im r)) : Ev c Γ (tLc (iList c.Z.K tl) (gName j) tYes (tCB (gList c.Z.K) (tCons (tVar j) tNil)) [j]) (.ol t) :=
  ev_is (ev_mapL (xs := t) (fun r => r) h hn (by simp) hu fun r _ => ev_fr (ev_list (ev_var (hv r)))) (congrArg Sl.ol (List.map_id' _))
end TB

/-! TbMk: the makings of the laws' groups, as data. -/
namespace TB
open PySem L2
/-- four sizes, together at most 23 -/
def SzOk (l : List Int) : Prop := ∃ a b c d : Int, l = [a, b, c, d] ∧ 1 ≤ a ∧ 1 ≤ b ∧ 1 ≤ c ∧ 1 ≤ d ∧ a * b * c * d ≤ 23
def szB : List Int → Bool
  | [a, b, c, d] => decide (1 ≤ a) && decide (1 ≤ b) && decide (1 ≤ c) && decide (1 ≤ d) && decide (a * b * c * d ≤ 23)
  | _ => false
theorem szB_ok {l : List Int} (h : szB l = true) : SzOk l := by
  match l, h with
  | [a, b, c, d], h =>
    simp only [szB, Bool.and_eq_true, decide_eq_true_eq] at h
    exact ⟨a, b, c, d, rfl, h.1.1.1.1, h.1.1.1.2, h.1.1.2, h.1.2, h.2⟩
theorem drawn {m f x : Int} (hf : 1 ≤ f) (hm : f ≤ m) : 1 ≤ m / f ∧ 1 ≤ 1 + x % (m / f) ∧ f * (1 + x % (m / f)) ≤ m := by
  have h1 : 1 ≤ m / f := (Int.le_ediv_iff_mul_le (by omega)).mpr (by omega)
  have h2 := Int.emod_nonneg x (show m / f ≠ 0 by omega)
  have h3 := Int.emod_lt_of_pos x (show 0 < m / f by omega)
  refine ⟨h1, by omega, ?_⟩
  have h4 : f * (1 + x % (m / f)) ≤ f * (m / f) := Int.mul_le_mul_of_nonneg_left (by omega) (by omega)
  have h5 : f * (m / f) ≤ m := Int.mul_ediv_self_le (by omega)
  omega
theorem szOk_of {top steps a x y : Int} {r : Int} (hr : r = top / steps) (hs : 1 ≤ steps) (ht : top ≤ 23) (h1 : 1 ≤ a) (h2 : a ≤ r) :
    1 ≤ r / a ∧ 1 ≤ 1 + x % (r / a) ∧ 1 ≤ r / (a * (1 + x % (r / a))) ∧ SzOk [a, 1 + x % (r / a), 1 + y % (r / (a * (1 + x % (r / a)))), steps] := by
  obtain ⟨p1, p2, p3⟩ := drawn (x := x) h1 h2
  have p4 : 1 ≤ a * (1 + x % (r / a)) := by
    have := Int.mul_le_mul_of_nonneg_right h1 (show 0 ≤ 1 + x % (r / a) by omega)
    omega
  obtain ⟨p5, p6, p7⟩ := drawn (x := y) p4 p3
  refine ⟨p1, p2, p5, _, _, _, _, rfl, h1, p2, p6, hs, ?_⟩
  have q1 := Int.mul_le_mul_of_nonneg_right p7 (show 0 ≤ steps by omega)
  have q2 : r * steps ≤ top := by rw [hr, Int.mul_comm]; exact Int.mul_ediv_self_le (by omega)
  omega
end TB

/-! TbAb: plain law: an abelian part turned by steps is a group. -/
namespace TB
open PySem L2
def In (n a : Int) : Prop := 0 ≤ a ∧ a < n
structure OpG (n : Int) (f : Int → Int → Int) (e : Int) : Prop where
  he : In n e
  cl : ∀ a b, In n a → In n b → In n (f a b)
  un : ∀ a, In n a → f e a = a ∧ f a e = a
  bk : ∀ a, In n a → ∃ b, In n b ∧ f a b = e
  asc : ∀ a b c, In n a → In n b → In n c → f (f a b) c = f a (f b c)
theorem OpG.bk2 {n : Int} {f : Int → Int → Int} {e : Int} (g : OpG n f e) {a : Int} (ha : In n a) : ∃ b, In n b ∧ f a b = e ∧ f b a = e := by
  obtain ⟨b, hb, e1⟩ := g.bk a ha
  obtain ⟨c, hc, e2⟩ := g.bk b hb
  refine ⟨b, hb, e1, ?_⟩
  have h1 := (g.un (f b a) (g.cl _ _ hb ha)).2
  rw [← h1, ← e2, g.asc _ _ _ hb ha (g.cl _ _ hb hc), ← g.asc _ _ _ ha hb hc, e1, (g.un c hc).1]
theorem tbl_of {t : Tbl} {n : Int} {f : Int → Int → Int} {e : Int} (g : OpG n f e) (nm : Int → Int) (h1 : 1 ≤ n) (h2 : n ≤ 23) (hin : ∀ a, In n a → In n (nm a)) (sj : ∀ b, In n b → ∃ a, In n a ∧ nm a = b) (hl : (t.length : Int) = n) (hr : ∀ r ∈ t, r.length = t.length)
    (hv : ∀ a b, In n a → In n b → en t (nm a) (nm b) = nm (f a b)) : GTbl t (nm e) := by
  have inT : ∀ {a}, InT t a ↔ In n a := fun {a} => by unfold InT In; rw [hl]
  have q : ∀ {a}, InT t a → ∃ b, In n b ∧ nm b = a := fun h => sj _ (inT.mp h)
  refine ⟨⟨by omega, by omega, hr⟩, fun r hr' x hx => ?_, inT.mpr (hin _ g.he), fun a a0 a1 => ?_, fun a ha => ?_, fun a b c ha hb hc => ?_⟩
  · obtain ⟨i, hi, rfl⟩ := List.getElem_of_mem hr'
    obtain ⟨j, hj, rfl⟩ := List.getElem_of_mem hx
    have hj' := hj
    rw [hr _ hr'] at hj'
    obtain ⟨a, ha, ea⟩ := q (a := (i : Int)) ⟨by omega, by omega⟩
    obtain ⟨b, hb, eb⟩ := q (a := (j : Int)) ⟨by omega, by omega⟩
    have := hv a b ha hb
    rw [ea, eb, en, gt_get hi, gt_get hj] at this
    rw [this]
    exact inT.mpr (hin _ (g.cl _ _ ha hb))
  · obtain ⟨b, hb, rfl⟩ := q ⟨a0, a1⟩
    rw [hv _ _ g.he hb, hv _ _ hb g.he, (g.un b hb).1, (g.un b hb).2]
    exact ⟨rfl, rfl⟩
  · obtain ⟨b, hb, rfl⟩ := q ha
    obtain ⟨c, hc, e1, e2⟩ := g.bk2 hb
    exact ⟨nm c, inT.mpr (hin _ hc), by rw [IsBack, hv _ _ hb hc, hv _ _ hc hb, e1, e2]; exact ⟨rfl, rfl⟩⟩
  · obtain ⟨a', ha', ea⟩ := q ha
    obtain ⟨b', hb', eb⟩ := q hb
    obtain ⟨c', hc', ec⟩ := q hc
    rw [← ea, ← eb, ← ec, Asc, hv _ _ ha' hb', hv _ _ hb' hc', hv _ _ (g.cl _ _ ha' hb') hc', hv _ _ ha' (g.cl _ _ hb' hc'), g.asc _ _ _ ha' hb' hc']
/-! ### an abelian part, turned by steps -/
structure AbG (n : Int) (f : Int → Int → Int) : Prop where
  pos : 1 ≤ n
  cl : ∀ a b, In n (f a b)
  comm : ∀ a b, f a b = f b a
  asc : ∀ a b c, f (f a b) c = f a (f b c)
  un : ∀ a, In n a → f a 0 = a
  bk : ∀ a, In n a → ∃ b, In n b ∧ f a b = 0
def itr (ph : Int → Int) : Nat → Int → Int
  | 0, a => a
  | k + 1, a => ph (itr ph k a)
theorem itr_add {ph : Int → Int} (i j : Nat) (a : Int) : itr ph (i + j) a = itr ph i (itr ph j a) := by
  induction i with
  | zero => rw [Nat.zero_add]; rfl
  | succ i ih => rw [Nat.succ_add]; show ph _ = ph _; rw [ih]
structure Turn (n s : Int) (f : Int → Int → Int) (ph : Int → Int) (e : Int) : Prop where
  pos : 1 ≤ s
  cl : ∀ a, In n (ph a)
  add : ∀ a b, ph (f a b) = f (ph a) (ph b)
  z : ph 0 = 0
  es : ph e = e
  he : In n e
  back : ∀ a, In n a → itr ph s.toNat a = a
def xop (n s : Int) (f : Int → Int → Int) (ph : Int → Int) (e : Int) (A B : Int) : Int := (if s ≤ A / n + B / n then f (f (A % n) (itr ph (A / n).toNat (B % n))) e else f (A % n) (itr ph (A / n).toNat (B % n))) + n * ((A / n + B / n) % s)
section
variable {n s : Int} {f : Int → Int → Int} {ph : Int → Int} {e : Int}
theorem dm {n v k : Int} (h : In n v) : (v + n * k) % n = v ∧ (v + n * k) / n = k := by
  have hn : n ≠ 0 := by have := h.1; have := h.2; omega
  rw [Int.add_mul_emod_self_left, Int.add_mul_ediv_left _ _ hn, Int.emod_eq_of_lt h.1 h.2, Int.ediv_eq_zero_of_lt h.1 h.2]
  omega
theorem dmi {n s A : Int} (hn : 1 ≤ n) (h : In (n * s) A) : In n (A % n) ∧ In s (A / n) ∧ A = A % n + n * (A / n) := by
  have q1 := Int.emod_nonneg A (show n ≠ 0 by omega)
  have q2 := Int.emod_lt_of_pos A (show 0 < n by omega)
  have q3 := Int.emod_add_mul_ediv A n
  have q4 := Int.ediv_nonneg h.1 (show 0 ≤ n by omega)
  have q5 : A / n < s := Int.ediv_lt_of_lt_mul (by omega) (by rw [Int.mul_comm]; exact h.2)
  exact ⟨⟨q1, q2⟩, ⟨q4, q5⟩, by omega⟩
theorem dmb {n s v k : Int} (h : In n v) (hk : In s k) : In (n * s) (v + n * k) := by
  obtain ⟨a, b⟩ := h
  obtain ⟨c, d⟩ := hk
  have h1 : n * k ≤ n * (s - 1) := Int.mul_le_mul_of_nonneg_left (by omega) (by omega)
  have h2 : 0 ≤ n * k := Int.mul_nonneg (by omega) c
  rw [Int.mul_sub] at h1
  exact ⟨by omega, by omega⟩
def cy (s e i j : Int) : Int := if s ≤ i + j then e else 0
theorem xop_at (A : AbG n f) (T : Turn n s f ph e) {p q i j : Int} (hp : In n p) (hq : In n q) : xop n s f ph e (p + n * i) (q + n * j) = f (f p (itr ph i.toNat q)) (cy s e i j) + n * ((i + j) % s) := by
  unfold xop cy
  rw [(dm hp).1, (dm hp).2, (dm hq).1, (dm hq).2]
  split
  · rfl
  · rw [A.un _ (A.cl _ _)]
theorem itr_in (T : Turn n s f ph e) {a : Int} (h : In n a) : ∀ k, In n (itr ph k a)
  | 0 => h
  | k + 1 => T.cl _
theorem itr_f (T : Turn n s f ph e) (a b : Int) : ∀ k, itr ph k (f a b) = f (itr ph k a) (itr ph k b)
  | 0 => rfl
  | k + 1 => by show ph _ = f (ph _) (ph _); rw [itr_f T a b k, T.add]
theorem itr_cy (T : Turn n s f ph e) (i j : Int) : ∀ k, itr ph k (cy s e i j) = cy s e i j
  | 0 => rfl
  | k + 1 => by
    show ph _ = _
    rw [itr_cy T i j k]
    unfold cy
    split
    · exact T.es
    · exact T.z
theorem itr_mod (T : Turn n s f ph e) {i j r : Int} (hi : In s i) (hj : In s j) (hr : In n r) : itr ph ((i + j) % s).toNat r = itr ph i.toNat (itr ph j.toNat r) := by
  rw [← itr_add]
  by_cases h : i + j < s
  · rw [Int.emod_eq_of_lt (by have := hi.1; have := hj.1; omega) h, show (i + j).toNat = i.toNat + j.toNat by have := hi.1; have := hj.1; omega]
  · have e1 : (i + j) % s = i + j - s := by
      rw [← Int.sub_emod_right, Int.emod_eq_of_lt (by omega) (by have := hi.2; have := hj.2; omega)]
    rw [e1, show i.toNat + j.toNat = (i + j - s).toNat + s.toNat by have := hi.1; have := hj.1; have := T.pos; omega, itr_add, T.back _ hr]
theorem cy_cy (A : AbG n f) {i j k : Int} (hi : In s i) (hj : In s j) (hk : In s k) : f (cy s e i j) (cy s e ((i + j) % s) k) = f (cy s e j k) (cy s e i ((j + k) % s)) := by
  obtain ⟨i0, i1⟩ := hi
  obtain ⟨j0, j1⟩ := hj
  obtain ⟨k0, k1⟩ := hk
  have m : ∀ {x}, 0 ≤ x → x < s + s → x % s = if x < s then x else x - s := fun {x} h0 h1 => by
    by_cases h : x < s
    · rw [if_pos h, Int.emod_eq_of_lt h0 h]
    · rw [if_neg h, ← Int.sub_emod_right, Int.emod_eq_of_lt (by omega) (by omega)]
  rw [m (by omega) (by omega), m (by omega) (by omega)]
  unfold cy
  have c0 := A.comm e 0
  by_cases h1 : i + j < s <;> by_cases h2 : j + k < s <;> simp only [h1, h2, ite_true, ite_false, show ¬ (s ≤ i + j) ↔ i + j < s by omega]
  all_goals (repeat' split)
  all_goals first | rfl | omega | exact c0 | exact c0.symm
theorem ext_G (A : AbG n f) (T : Turn n s f ph e) : OpG (n * s) (xop n s f ph e) 0 := by
  have hn := A.pos
  have hs := T.pos
  have z : In n 0 := ⟨by omega, by omega⟩
  have mods : ∀ x : Int, In s (x % s) := fun x => ⟨Int.emod_nonneg x (by omega), Int.emod_lt_of_pos x (by omega)⟩
  have zs : In s 0 := ⟨by omega, by omega⟩
  have com0 : ∀ a, In n a → f 0 a = a := fun a ha => by rw [A.comm, A.un a ha]
  have i0 : ∀ k, itr ph k 0 = 0 := fun k => by
    induction k with
    | zero => rfl
    | succ k ih => show ph _ = 0; rw [ih, T.z]
  have Z0 : ∀ B, In (n * s) B → B = B % n + n * (B / n) ∧ In n (B % n) ∧ In s (B / n) := fun B h => ⟨(dmi hn h).2.2, (dmi hn h).1, (dmi hn h).2.1⟩
  refine ⟨⟨by omega, ?_⟩, fun a b ha hb => ?_, fun a ha => ?_, fun a ha => ?_, fun a b c ha hb hc => ?_⟩
  · have := Int.mul_le_mul_of_nonneg_left hs (show 0 ≤ n by omega)
    omega
  · unfold xop
    refine dmb ?_ (mods _)
    split <;> exact A.cl _ _
  · obtain ⟨ea, hp, hi⟩ := Z0 a ha
    generalize a % n = p at ea hp
    generalize a / n = i at ea hi
    subst ea
    constructor
    · have := xop_at (e := e) A T (i := 0) (j := i) z hp
      rw [Int.mul_zero, Int.add_zero] at this
      rw [this, Int.zero_add, Int.emod_eq_of_lt hi.1 hi.2]
      unfold cy
      rw [if_neg (by have := hi.2; omega), A.un _ (A.cl _ _)]
      show f 0 p + _ = _
      rw [com0 p hp]
    · have := xop_at (e := e) A T (i := i) (j := 0) hp z
      rw [Int.mul_zero, Int.add_zero] at this
      rw [this, Int.add_zero, Int.emod_eq_of_lt hi.1 hi.2]
      unfold cy
      rw [if_neg (by have := hi.2; omega), A.un _ (A.cl _ _), i0, A.un _ hp]
  · obtain ⟨ea, hp, hi⟩ := Z0 a ha
    generalize a % n = p at ea hp
    generalize a / n = i at ea hi
    subst ea
    by_cases h : i = 0
    · subst h
      obtain ⟨b, hb, e1⟩ := A.bk p hp
      refine ⟨b + n * 0, dmb hb zs, ?_⟩
      rw [xop_at A T hp hb]
      show f (f p b) (cy s e 0 0) + n * (0 % s) = 0
      unfold cy
      rw [e1, if_neg (by omega), A.un 0 z, Int.zero_emod, Int.mul_zero]
      rfl
    · have i1 := hi.1
      have i2 := hi.2
      obtain ⟨r, hr, e1⟩ := A.bk (f p e) (A.cl _ _)
      refine ⟨itr ph (s - i).toNat r + n * (s - i), dmb (itr_in T hr _) ⟨by omega, by omega⟩, ?_⟩
      rw [xop_at A T hp (itr_in T hr _), ← itr_add, show i.toNat + (s - i).toNat = s.toNat by omega, T.back r hr, show i + (s - i) = s by omega, Int.emod_self, Int.mul_zero, Int.add_zero]
      unfold cy
      rw [if_pos (by omega), A.asc, A.comm r e, ← A.asc, e1]
  · obtain ⟨ea, hp, hi⟩ := Z0 a ha
    obtain ⟨eb, hq, hj⟩ := Z0 b hb
    obtain ⟨ec, hr, hk⟩ := Z0 c hc
    generalize a % n = p at ea hp
    generalize a / n = i at ea hi
    generalize b % n = q at eb hq
    generalize b / n = j at eb hj
    generalize c % n = r at ec hr
    generalize c / n = k at ec hk
    subst ea eb ec
    rw [xop_at A T hp hq, xop_at A T hq hr, xop_at A T (A.cl _ _) hr, xop_at A T hp (A.cl _ _), itr_mod T hi hj hr, itr_f T, itr_f T, itr_cy T]
    have e1 : ((i + j) % s + k) % s = (i + (j + k) % s) % s := by rw [Int.emod_add_emod, Int.add_emod_emod, Int.add_assoc]
    rw [e1]
    congr 1
    have c1 := cy_cy (e := e) A hi hj hk
    have ia : Std.Associative f := ⟨A.asc⟩
    have ic : Std.Commutative f := ⟨A.comm⟩
    generalize itr ph i.toNat q = q' at *
    generalize itr ph i.toNat (itr ph j.toNat r) = r' at *
    generalize cy s e i j = x1 at *
    generalize cy s e ((i + j) % s) k = x2 at *
    generalize cy s e j k = x3 at *
    generalize cy s e i ((j + k) % s) = x4 at *
    have l1 : f (f (f (f p q') x1) r') x2 = f (f (f p q') r') (f x1 x2) := by ac_rfl
    have l2 : f (f p (f (f q' r') x3)) x4 = f (f (f p q') r') (f x3 x4) := by ac_rfl
    rw [l1, l2, c1]
end
end TB
namespace TB
open PySem L2
/-! ### three rounds -/
def suF (a b c p q : Int) : Int := (p + q) % a + a * ((p / a + q / a) % b) + a * b * ((p / (a * b) + q / (a * b)) % c)
/-- what the turn makes of the two first rounds -/
def tuP (a b u v k : Int) (x y : Int) : Int × Int := if k = 1 then (y, x) else if k = 2 then ((0 - y) % a, (x - y) % a) else if k = 3 then (x, (y + x) % b) else if k = 4 then ((x + a / 2 * y) % a, y) else (x * u % a, y * v % b)
def tuF (a b c u v w k p : Int) : Int := (tuP a b u v k (p % a) (p / a % b)).1 + a * ((tuP a b u v k (p % a) (p / a % b)).2 + b * (p / (a * b) * w % c))
/-- x, y, z of the three rounds as one number -/
def cod (a b x y z : Int) : Int := x + a * (y + b * z)
section
variable {a b c : Int}
theorem cod_d (ha : 1 ≤ a) (hb : 1 ≤ b) {x y z : Int} (hx : In a x) (hy : In b y) : cod a b x y z % a = x ∧ cod a b x y z / a = y + b * z ∧ cod a b x y z / a % b = y ∧ cod a b x y z / (a * b) = z := by
  have h1 := dm (n := a) (k := y + b * z) hx
  have h2 := dm (n := b) (k := z) hy
  have e : cod a b x y z = x + a * (y + b * z) := rfl
  rw [e, h1.1, h1.2, ← Int.ediv_ediv_of_nonneg (by omega), h1.2, h2.1, h2.2]
  exact ⟨rfl, rfl, rfl, rfl⟩
theorem suF_cod (p q : Int) : suF a b c p q = cod a b ((p + q) % a) ((p / a + q / a) % b) ((p / (a * b) + q / (a * b)) % c) := by
  unfold suF cod
  rw [Int.mul_add, Int.mul_assoc, Int.add_assoc]
theorem md' {n : Int} (hn : 1 ≤ n) (x : Int) : In n (x % n) := ⟨Int.emod_nonneg x (by omega), Int.emod_lt_of_pos x (by omega)⟩
theorem cod_in (ha : 1 ≤ a) (hb : 1 ≤ b) {x y z : Int} (hx : In a x) (hy : In b y) (hz : In c z) : In (a * b * c) (cod a b x y z) := by
  have h2 := dmb hy hz
  have h1 := dmb hx h2
  rw [← Int.mul_assoc] at h1
  exact h1
theorem cod_of (ha : 1 ≤ a) (hb : 1 ≤ b) {p : Int} (h : In (a * b * c) p) : ∃ x y z, In a x ∧ In b y ∧ In c z ∧ p = cod a b x y z := by
  rw [Int.mul_assoc] at h
  obtain ⟨h1, h2, h3⟩ := dmi ha h
  obtain ⟨h4, h5, h6⟩ := dmi hb h2
  refine ⟨p % a, p / a % b, p / a / b, h1, h4, h5, ?_⟩
  unfold cod
  rw [← h6, ← h3]
theorem suF_at (ha : 1 ≤ a) (hb : 1 ≤ b) {x y z x' y' z' : Int} (hx : In a x) (hy : In b y) (hx' : In a x') (hy' : In b y') : suF a b c (cod a b x y z) (cod a b x' y' z') = cod a b ((x + x') % a) ((y + y') % b) ((z + z') % c) := by
  obtain ⟨d1, d2, d3, d4⟩ := cod_d ha hb hx hy (z := z)
  obtain ⟨e1, e2, e3, e4⟩ := cod_d ha hb hx' hy' (z := z')
  rw [suF_cod, d2, d4, e2, e4, ← Int.emod_add_emod, ← Int.add_emod_emod, d1, e1]
  congr 1
  rw [show y + b * z + (y' + b * z') = y + y' + b * (z + z') by rw [Int.mul_add]; omega, Int.add_mul_emod_self_left]
/-- told of every number by the numbers that it is like -/
theorem suF_like (ha : 1 ≤ a) (hb : 1 ≤ b) (p : Int) : ∃ x y z, In a x ∧ In b y ∧ p = cod a b x y z := by
  refine ⟨p % a, p / a % b, p / a / b, md' ha _, md' hb _, ?_⟩
  unfold cod
  rw [Int.emod_add_mul_ediv, Int.emod_add_mul_ediv]
theorem suF_G (ha : 1 ≤ a) (hb : 1 ≤ b) (hc : 1 ≤ c) : AbG (a * b * c) (suF a b c) := by
  have hab : 1 ≤ a * b := by
    have := Int.mul_le_mul_of_nonneg_left hb (show 0 ≤ a by omega)
    omega
  refine ⟨?_, fun p q => ?_, fun p q => ?_, fun p q r => ?_, fun p hp => ?_, fun p hp => ?_⟩
  · have := Int.mul_le_mul_of_nonneg_left hc (show 0 ≤ a * b by omega)
    omega
  · rw [suF_cod]
    exact cod_in ha hb (md' ha _) (md' hb _) (md' hc _)
  · unfold suF
    rw [Int.add_comm p q, Int.add_comm (p / a), Int.add_comm (p / (a * b))]
  · obtain ⟨x, y, z, hx, hy, rfl⟩ := suF_like ha hb p
    obtain ⟨x1, y1, z1, hx1, hy1, rfl⟩ := suF_like ha hb q
    obtain ⟨x2, y2, z2, hx2, hy2, rfl⟩ := suF_like ha hb r
    rw [suF_at ha hb hx hy hx1 hy1, suF_at ha hb hx1 hy1 hx2 hy2, suF_at ha hb (md' ha _) (md' hb _) hx2 hy2, suF_at ha hb hx hy (md' ha _) (md' hb _)]
    simp only [Int.emod_add_emod, Int.add_emod_emod, Int.add_assoc]
  · obtain ⟨x, y, z, hx, hy, hz, rfl⟩ := cod_of ha hb hp
    have z0 : (0 : Int) = cod a b 0 0 0 := by unfold cod; simp
    have := suF_at (c := c) ha hb hx hy (x' := 0) (y' := 0) (z := z) (z' := 0) ⟨by omega, by omega⟩ ⟨by omega, by omega⟩
    rw [← z0, Int.add_zero, Int.add_zero, Int.add_zero, Int.emod_eq_of_lt hx.1 hx.2, Int.emod_eq_of_lt hy.1 hy.2, Int.emod_eq_of_lt hz.1 hz.2] at this
    exact this
  · obtain ⟨x, y, z, hx, hy, hz, rfl⟩ := cod_of ha hb hp
    refine ⟨cod a b ((0 - x) % a) ((0 - y) % b) ((0 - z) % c), cod_in ha hb (md' ha _) (md' hb _) (md' hc _), ?_⟩
    rw [suF_at ha hb hx hy (md' ha _) (md' hb _)]
    simp only [Int.add_emod_emod]
    rw [show x + (0 - x) = 0 by omega, show y + (0 - y) = 0 by omega, show z + (0 - z) = 0 by omega]
    unfold cod
    simp
end
end TB
namespace TB
open PySem L2
/-! ### the turn -/
structure TurnOk (a b c s u v w k : Int) : Prop where
  ha : 1 ≤ a
  hb : 1 ≤ b
  hc : 1 ≤ c
  hs : 1 ≤ s
  kk : k = 0 ∨ (k = 1 ∧ a = b ∧ s % 2 = 0) ∨ (k = 2 ∧ a = b ∧ s % 3 = 0) ∨ (k = 3 ∧ a % b = 0 ∧ s % b = 0) ∨ (k = 4 ∧ a % 2 = 0 ∧ b % 2 = 0 ∧ s % 2 = 0)
  hu : u ^ s.toNat % a = 1 % a
  hv : v ^ s.toNat % b = 1 % b
  hw : w ^ s.toNat % c = 1 % c
theorem mdk {n x y : Int} (k : Int) (h : x = y + n * k) : x % n = y % n := by rw [h, Int.add_mul_emod_self_left]
section
variable {a b c s u v w k : Int}
theorem tuP_in (h : TurnOk a b c s u v w k) {x y : Int} (hx : In a x) (hy : In b y) : In a (tuP a b u v k x y).1 ∧ In b (tuP a b u v k x y).2 := by
  have ha := h.ha
  have hb := h.hb
  unfold tuP
  rcases h.kk with rfl | ⟨rfl, rfl, _⟩ | ⟨rfl, rfl, _⟩ | ⟨rfl, _⟩ | ⟨rfl, _⟩ <;> simp
  · exact ⟨md' ha _, md' hb _⟩
  · exact ⟨hy, hx⟩
  · exact ⟨md' ha _, md' hb _⟩
  · exact ⟨hx, md' hb _⟩
  · exact ⟨md' ha _, hy⟩
theorem tuP_add (h : TurnOk a b c s u v w k) {x y x' y' : Int} (hx : In a x) (hy : In b y) (hx' : In a x') (hy' : In b y') :
    tuP a b u v k ((x + x') % a) ((y + y') % b) = (((tuP a b u v k x y).1 + (tuP a b u v k x' y').1) % a, ((tuP a b u v k x y).2 + (tuP a b u v k x' y').2) % b) := by
  have ha := h.ha
  have hb := h.hb
  have dx := Int.emod_def (x + x') a
  have dy := Int.emod_def (y + y') b
  unfold tuP
  rcases h.kk with rfl | ⟨rfl, rfl, _⟩ | ⟨rfl, rfl, _⟩ | ⟨rfl, q1, _⟩ | ⟨rfl, q1, q2, _⟩ <;> simp
  · rw [← Int.add_mul, ← Int.add_mul]
    exact ⟨by rw [Int.mul_emod, Int.emod_emod, ← Int.mul_emod], by rw [Int.mul_emod, Int.emod_emod, ← Int.mul_emod]⟩
  · refine ⟨mdk ((y + y') / a) ?_, mdk 0 ?_⟩
    · rw [dy]; omega
    · omega
  · obtain ⟨m, em⟩ := Int.dvd_of_emod_eq_zero q1
    refine mdk (-(m * ((x + x') / a))) ?_
    rw [dx, Int.mul_neg, ← Int.mul_assoc, ← em]; omega
  · obtain ⟨m, em⟩ := Int.dvd_of_emod_eq_zero q1
    obtain ⟨m2, em2⟩ := Int.dvd_of_emod_eq_zero q2
    refine mdk (-(m2 * ((y + y') / b))) ?_
    have e2 : a / 2 * b = a * m2 := by
      rw [show a / 2 = m by omega, em, em2, Int.mul_comm 2 m, Int.mul_assoc]
    rw [dy, Int.mul_sub, Int.mul_neg, ← Int.mul_assoc, ← Int.mul_assoc, ← e2, Int.mul_add]
    omega

theorem tuF_cod (p : Int) : tuF a b c u v w k p = cod a b (tuP a b u v k (p % a) (p / a % b)).1 (tuP a b u v k (p % a) (p / a % b)).2 (p / (a * b) * w % c) := rfl
theorem tuF_at (h : TurnOk a b c s u v w k) {x y z : Int} (hx : In a x) (hy : In b y) : tuF a b c u v w k (cod a b x y z) = cod a b (tuP a b u v k x y).1 (tuP a b u v k x y).2 (z * w % c) := by
  obtain ⟨d1, d2, d3, d4⟩ := cod_d h.ha h.hb hx hy (z := z)
  rw [tuF_cod, d1, d3, d4]
theorem tuF_add (h : TurnOk a b c s u v w k) (p q : Int) : tuF a b c u v w k (suF a b c p q) = suF a b c (tuF a b c u v w k p) (tuF a b c u v w k q) := by
  have ha := h.ha
  have hb := h.hb
  obtain ⟨x, y, z, hx, hy, rfl⟩ := suF_like ha hb p
  obtain ⟨x1, y1, z1, hx1, hy1, rfl⟩ := suF_like ha hb q
  rw [suF_at ha hb hx hy hx1 hy1, tuF_at h (md' ha _) (md' hb _), tuF_at h hx hy, tuF_at h hx1 hy1, suF_at ha hb (tuP_in h hx hy).1 (tuP_in h hx hy).2 (tuP_in h hx1 hy1).1 (tuP_in h hx1 hy1).2, tuP_add h hx hy hx1 hy1]
  congr 1
  rw [Int.mul_emod, Int.emod_emod, ← Int.mul_emod, Int.add_mul, Int.emod_add_emod, Int.add_emod_emod]
theorem tuF_in (h : TurnOk a b c s u v w k) (p : Int) : In (a * b * c) (tuF a b c u v w k p) := by
  obtain ⟨x, y, z, hx, hy, rfl⟩ := suF_like h.ha h.hb p
  rw [tuF_at h hx hy]
  exact cod_in h.ha h.hb (tuP_in h hx hy).1 (tuP_in h hx hy).2 (md' h.hc _)
theorem tuF_z (h : TurnOk a b c s u v w k) : tuF a b c u v w k 0 = 0 := by
  have ha := h.ha
  have hb := h.hb
  have z0 : (0 : Int) = cod a b 0 0 0 := by unfold cod; simp
  have := tuF_at h (x := 0) (y := 0) (z := 0) ⟨by omega, by omega⟩ ⟨by omega, by omega⟩
  rw [← z0] at this
  rw [this]
  unfold tuP cod
  rcases h.kk with rfl | ⟨rfl, rfl, _⟩ | ⟨rfl, rfl, _⟩ | ⟨rfl, _⟩ | ⟨rfl, _⟩ <;> simp
/-- the two first rounds, turned k times -/
def itP (F : Int → Int → Int × Int) : Nat → Int × Int → Int × Int
  | 0, q => q
  | n + 1, q => F (itP F n q).1 (itP F n q).2
theorem itP_in (h : TurnOk a b c s u v w k) {x y : Int} (hx : In a x) (hy : In b y) : ∀ n, In a (itP (tuP a b u v k) n (x, y)).1 ∧ In b (itP (tuP a b u v k) n (x, y)).2
  | 0 => ⟨hx, hy⟩
  | n + 1 => tuP_in h (itP_in h hx hy n).1 (itP_in h hx hy n).2
theorem itP_add {F : Int → Int → Int × Int} (m n : Nat) (q : Int × Int) : itP F (m + n) q = itP F m (itP F n q) := by
  induction m with
  | zero => rw [Nat.zero_add]; rfl
  | succ m ih => rw [Nat.succ_add]; show F _ _ = F _ _; rw [ih]
theorem itP_per {F : Int → Int → Int × Int} {d : Nat} {q : Int × Int} (h : itP F d q = q) : ∀ m, itP F (d * m) q = q
  | 0 => rfl
  | m + 1 => by rw [Nat.mul_succ, itP_add, h, itP_per h m]
theorem itr_cod (h : TurnOk a b c s u v w k) {x y z : Int} (hx : In a x) (hy : In b y) (hz : In c z) : ∀ n : Nat, itr (tuF a b c u v w k) n (cod a b x y z) = cod a b (itP (tuP a b u v k) n (x, y)).1 (itP (tuP a b u v k) n (x, y)).2 (z * w ^ n % c)
  | 0 => by
    show cod a b x y z = cod a b x y _
    rw [Int.pow_zero, Int.mul_one, Int.emod_eq_of_lt hz.1 hz.2]
  | n + 1 => by
    show tuF a b c u v w k _ = _
    rw [itr_cod h hx hy hz n, tuF_at h (itP_in h hx hy n).1 (itP_in h hx hy n).2]
    show cod a b _ _ _ = cod a b _ _ _
    congr 1
    rw [Int.pow_succ, ← Int.mul_assoc, Int.mul_emod, Int.emod_emod, ← Int.mul_emod]
theorem pow_back {n u x : Int} {m : Nat} (hx : In n x) (h : u ^ m % n = 1 % n) : x * u ^ m % n = x := by
  rw [Int.mul_emod, h, ← Int.mul_emod, Int.mul_one, Int.emod_eq_of_lt hx.1 hx.2]
theorem itP_0 {x y : Int} (hx : In a x) (hy : In b y) : ∀ n : Nat, itP (tuP a b u v 0) n (x, y) = (x * u ^ n % a, y * v ^ n % b)
  | 0 => by
    show (x, y) = _
    rw [Int.pow_zero, Int.pow_zero, Int.mul_one, Int.mul_one, Int.emod_eq_of_lt hx.1 hx.2, Int.emod_eq_of_lt hy.1 hy.2]
  | n + 1 => by
    show tuP a b u v 0 _ _ = _
    rw [itP_0 hx hy n]
    unfold tuP
    simp only [show ¬ ((0 : Int) = 1) by decide, show ¬ ((0 : Int) = 2) by decide, show ¬ ((0 : Int) = 3) by decide, show ¬ ((0 : Int) = 4) by decide, ite_false]
    rw [Int.pow_succ, Int.pow_succ, ← Int.mul_assoc, ← Int.mul_assoc]
    congr 1 <;> rw [Int.mul_emod, Int.emod_emod, ← Int.mul_emod]
theorem itP_3 {x y : Int} (hx : In a x) (hy : In b y) : ∀ n : Nat, itP (tuP a b u v 3) n (x, y) = (x, (y + n * x) % b)
  | 0 => by
    show (x, y) = _
    rw [show ((0 : Nat) : Int) * x = 0 by simp, Int.add_zero, Int.emod_eq_of_lt hy.1 hy.2]
  | n + 1 => by
    show tuP a b u v 3 _ _ = _
    rw [itP_3 hx hy n]
    unfold tuP
    simp only [show ¬ ((3 : Int) = 1) by decide, show ¬ ((3 : Int) = 2) by decide, ite_false, ite_true]
    rw [Int.emod_add_emod, show ((n + 1 : Nat) : Int) = n + 1 by omega, Int.add_mul, Int.one_mul, Int.add_assoc]
theorem itP_4 {x y : Int} (hx : In a x) (hy : In b y) : ∀ n : Nat, itP (tuP a b u v 4) n (x, y) = ((x + n * (a / 2 * y)) % a, y)
  | 0 => by
    show (x, y) = _
    rw [show ((0 : Nat) : Int) * (a / 2 * y) = 0 by simp, Int.add_zero, Int.emod_eq_of_lt hx.1 hx.2]
  | n + 1 => by
    show tuP a b u v 4 _ _ = _
    rw [itP_4 hx hy n]
    unfold tuP
    simp only [show ¬ ((4 : Int) = 1) by decide, show ¬ ((4 : Int) = 2) by decide, show ¬ ((4 : Int) = 3) by decide, ite_false, ite_true]
    rw [Int.emod_add_emod, show ((n + 1 : Nat) : Int) = n + 1 by omega, Int.add_mul, Int.one_mul, Int.add_assoc]
theorem itP_back (h : TurnOk a b c s u v w k) {x y : Int} (hx : In a x) (hy : In b y) : itP (tuP a b u v k) s.toNat (x, y) = (x, y) := by
  have hs := h.hs
  have es : ((s.toNat : Nat) : Int) = s := by omega
  rcases h.kk with rfl | ⟨rfl, rfl, q⟩ | ⟨rfl, rfl, q⟩ | ⟨rfl, q1, q2⟩ | ⟨rfl, q1, q2, q3⟩
  · rw [itP_0 hx hy, pow_back hx h.hu, pow_back hy h.hv]
  · rw [show s.toNat = 2 * (s.toNat / 2) by omega]
    refine itP_per ?_ _
    simp [itP, tuP]
  · rw [show s.toNat = 3 * (s.toNat / 3) by omega]
    refine itP_per ?_ _
    have e1 : ((0 - x) % a - (x - y) % a) % a = (0 - (x + (x - y))) % a := by rw [Int.emod_sub_emod, Int.sub_emod_emod]; congr 1; omega
    simp [itP, tuP]
    have hxx := Int.emod_eq_of_lt hx.1 hx.2
    have hyy := Int.emod_eq_of_lt hy.1 hy.2
    constructor
    · refine Eq.trans (mdk ((-y - (x - y)) / a) ?_) hxx
      rw [Int.emod_def]
      omega
    · refine Eq.trans (mdk ((x - y) / a) ?_) hyy
      rw [Int.emod_def]
      omega
  · rw [itP_3 hx hy, es]
    obtain ⟨m, em⟩ := Int.dvd_of_emod_eq_zero q2
    rw [em, Int.mul_assoc, Int.add_mul_emod_self_left, Int.emod_eq_of_lt hy.1 hy.2]
  · rw [itP_4 hx hy, es]
    obtain ⟨m, em⟩ := Int.dvd_of_emod_eq_zero q3
    have e2 : s * (a / 2 * y) = a * (m * y) := by
      rw [em, Int.mul_comm 2 m, Int.mul_assoc, ← Int.mul_assoc 2, Int.mul_ediv_cancel' (Int.dvd_of_emod_eq_zero q1), ← Int.mul_assoc, Int.mul_comm m a, Int.mul_assoc]
    rw [e2, Int.add_mul_emod_self_left, Int.emod_eq_of_lt hx.1 hx.2]
theorem tu_T (h : TurnOk a b c s u v w k) {e : Int} (he : In (a * b * c) e) (hes : tuF a b c u v w k e = e) : Turn (a * b * c) s (suF a b c) (tuF a b c u v w k) e := by
  refine ⟨h.hs, tuF_in h, tuF_add h, tuF_z h, hes, he, fun p hp => ?_⟩
  obtain ⟨x, y, z, hx, hy, hz, rfl⟩ := cod_of h.ha h.hb hp
  rw [itr_cod h hx hy hz, itP_back h hx hy, pow_back hz h.hw]
end
end TB
namespace TB
open PySem L2
def tab (N : Int) (f : Int → Int → Int) : Tbl := (irange N).map fun A => (irange N).map (f A)
theorem bnd {a b c : Int} (ha : 1 ≤ a) (hb : 1 ≤ b) (hc : 1 ≤ c) (h : a * b * c ≤ 23) : a ≤ 23 ∧ b ≤ 23 ∧ c ≤ 23 ∧ 1 ≤ a * b ∧ a * b ≤ 23 ∧ 1 ≤ a * b * c := by
  have h1 : a * 1 ≤ a * b := Int.mul_le_mul_of_nonneg_left hb (by omega)
  have h2 : 1 * b ≤ a * b := Int.mul_le_mul_of_nonneg_right ha (by omega)
  have h3 : a * b * 1 ≤ a * b * c := Int.mul_le_mul_of_nonneg_left hc (by omega)
  have h4 : 1 * c ≤ a * b * c := Int.mul_le_mul_of_nonneg_right (by omega) (by omega)
  omega
section
variable {cc : Cn} {Γ : List Sl} {k : Nat} {a b c d : Int}
theorem ev_s0 (e : Γ[k]? = some (.im [a, b, c, d])) : Ev cc Γ (tOp (gIx cc.Z.K) (tVar k) (tC (.int 0))) (.im a) := ev_ix (ev_var e) ev_int (by decide) (by simp)
theorem ev_s1 (e : Γ[k]? = some (.im [a, b, c, d])) : Ev cc Γ (tOp (gIx cc.Z.K) (tVar k) (tC (.int 1))) (.im b) := ev_ix (ev_var e) ev_int (by decide) (by simp)
theorem ev_s2 (e : Γ[k]? = some (.im [a, b, c, d])) : Ev cc Γ (tOp (gIx cc.Z.K) (tVar k) (tC (.int 2))) (.im c) := ev_ix (ev_var e) ev_int (by decide) (by simp)
theorem ev_s3 (e : Γ[k]? = some (.im [a, b, c, d])) : Ev cc Γ (tOp (gIx cc.Z.K) (tVar k) (tC (.int 3))) (.im d) := ev_ix (ev_var e) ev_int (by decide) (by simp)
theorem ev_u0 (e : Γ[k]? = some (.im [a, b, c])) : Ev cc Γ (tOp (gIx cc.Z.K) (tVar k) (tC (.int 0))) (.im a) := ev_ix (ev_var e) ev_int (by decide) (by simp)
theorem ev_u1 (e : Γ[k]? = some (.im [a, b, c])) : Ev cc Γ (tOp (gIx cc.Z.K) (tVar k) (tC (.int 1))) (.im b) := ev_ix (ev_var e) ev_int (by decide) (by simp)
theorem ev_u2 (e : Γ[k]? = some (.im [a, b, c])) : Ev cc Γ (tOp (gIx cc.Z.K) (tVar k) (tC (.int 2))) (.im c) := ev_ix (ev_var e) ev_int (by decide) (by simp)
theorem cmul23 {x y : Int} (h0 : 0 ≤ x) (h1 : x ≤ 1000) (h2 : 0 ≤ y) (h3 : y ≤ 1000) : CMulW x y := cmulS (by omega) (by omega) (by omega) (by omega)
end
def KindOk (a b s k : Int) : Prop := k = 0 ∨ (k = 1 ∧ a = b ∧ s % 2 = 0) ∨ (k = 2 ∧ a = b ∧ s % 3 = 0) ∨ (k = 3 ∧ a % b = 0 ∧ s % b = 0) ∨ (k = 4 ∧ a % 2 = 0 ∧ b % 2 = 0 ∧ s % 2 = 0)
def UnitOk (n s u : Int) : Prop := 0 ≤ u ∧ u < n ∧ u ^ s.toNat % n = 1 % n
end TB

/-! TbGt: plain law: powers, orders, parts of a group told by its table. -/
namespace TB
open PySem L2
theorem nodup_le {α : Type} [DecidableEq α] : ∀ {A B : List α}, A.Nodup → (∀ x ∈ A, x ∈ B) → A.length ≤ B.length
  | [], _, _, _ => Nat.zero_le _
  | a :: A, B, nd, h => by
    have nd' := List.nodup_cons.mp nd
    have hb := h a List.mem_cons_self
    have ih := nodup_le (A := A) (B := B.erase a) nd'.2 fun x hx => by
      have : x ≠ a := fun z => nd'.1 (z ▸ hx)
      exact (List.mem_erase_of_ne this).mpr (h x (List.mem_cons_of_mem _ hx))
    rw [List.length_erase_of_mem hb] at ih
    have : 0 < B.length := List.length_pos_of_mem hb
    simp only [List.length_cons]
    omega
theorem filter_two {α : Type} (p : α → Bool) : ∀ L : List α, L.length = (L.filter p).length + (L.filter fun x => !p x).length
  | [] => rfl
  | a :: L => by
    have ih := filter_two p L
    rw [List.filter_cons, List.filter_cons]
    cases p a <;> simp <;> omega
theorem nodup_irange' (n : Int) : (irange n).Nodup := by
  unfold irange List.Nodup
  rw [List.pairwise_map]
  exact (List.nodup_range).imp (fun h e => h (by omega))
theorem least {p : Nat → Prop} (h : ∃ k, p k) : ∃ k, p k ∧ ∀ j, j < k → ¬ p j := by
  obtain ⟨k, hk⟩ := h
  induction k using Nat.strongRecOn with
  | _ k ih =>
    by_cases q : ∃ j, j < k ∧ p j
    · obtain ⟨j, hj, hp⟩ := q
      exact ih j hj hp
    · exact ⟨k, hk, fun j hj hp => q ⟨j, hj, hp⟩⟩
section
variable {t : Tbl} {e : Int}
theorem GTbl.cl (h : GTbl t e) {a b : Int} (ha : InT t a) (hb : InT t b) : InT t (en t a b) := by
  have h1 : (gt t a).length = t.length := h.sz.2.2 _ (gt_mem ha.1 ha.2)
  exact h.ns _ (gt_mem ha.1 ha.2) _ (gt_mem hb.1 (by rw [h1]; exact hb.2))
theorem GTbl.row (h : GTbl t e) {a : Int} (ha : InT t a) : (gt t a).length = t.length := h.sz.2.2 _ (gt_mem ha.1 ha.2)
theorem GTbl.u1 (h : GTbl t e) {a : Int} (ha : InT t a) : en t e a = a := (h.un a ha.1 ha.2).1
theorem GTbl.u2 (h : GTbl t e) {a : Int} (ha : InT t a) : en t a e = a := (h.un a ha.1 ha.2).2
theorem GTbl.as (h : GTbl t e) {a b c : Int} (ha : InT t a) (hb : InT t b) (hc : InT t c) : en t (en t a b) c = en t a (en t b c) := h.asc a b c ha hb hc
theorem GTbl.canL (h : GTbl t e) {a b c : Int} (ha : InT t a) (hb : InT t b) (hc : InT t c) (q : en t a b = en t a c) : b = c := by
  obtain ⟨i, hi, e1, e2⟩ := h.bk a ha
  have := congrArg (en t i) q
  rw [← h.as hi ha hb, ← h.as hi ha hc, e2, h.u1 hb, h.u1 hc] at this
  exact this
theorem GTbl.canR (h : GTbl t e) {a b c : Int} (ha : InT t a) (hb : InT t b) (hc : InT t c) (q : en t b a = en t c a) : b = c := by
  obtain ⟨i, hi, e1, e2⟩ := h.bk a ha
  have := congrArg (fun x => en t x i) q
  rw [h.as hb ha hi, h.as hc ha hi, e1, h.u2 hb, h.u2 hc] at this
  exact this
/-! ### powers -/
def pw (t : Tbl) (e a : Int) : Nat → Int
  | 0 => e
  | k + 1 => en t (pw t e a k) a
theorem pw_in (h : GTbl t e) {a : Int} (ha : InT t a) : ∀ k, InT t (pw t e a k)
  | 0 => h.he
  | k + 1 => h.cl (pw_in h ha k) ha
theorem pw_add (h : GTbl t e) {a : Int} (ha : InT t a) (i : Nat) : ∀ j, pw t e a (i + j) = en t (pw t e a i) (pw t e a j)
  | 0 => (h.u2 (pw_in h ha i)).symm
  | j + 1 => by
    show en t (pw t e a (i + j)) a = en t _ (en t (pw t e a j) a)
    rw [pw_add h ha i j, h.as (pw_in h ha i) (pw_in h ha j) ha]
structure IsOrd (t : Tbl) (e a : Int) (d : Nat) : Prop where
  pos : 1 ≤ d
  one : pw t e a d = e
  low : ∀ k, 0 < k → k < d → pw t e a k ≠ e
theorem ex_back (h : GTbl t e) {a : Int} (ha : InT t a) : ∃ k, 0 < k ∧ k ≤ t.length ∧ pw t e a k = e := by
  have hlen := h.sz.1
  have : ¬ ((List.range (t.length + 1)).map (pw t e a)).Nodup := fun nd => by
    have := nodup_le (B := irange t.length) nd fun x hx => by
      obtain ⟨i, _, rfl⟩ := List.mem_map.mp hx
      exact mem_irange.mpr (pw_in h ha i)
    rw [List.length_map, List.length_range, irange_len] at this
    omega
  obtain ⟨i, j, hij, hj, eq⟩ : ∃ i j, i < j ∧ j < t.length + 1 ∧ pw t e a i = pw t e a j := by
    refine Classical.byContradiction fun hc => this ?_
    rw [List.Nodup, List.pairwise_map, List.pairwise_iff_getElem]
    intro i j hi hj hlt z
    simp only [List.getElem_range] at z
    simp only [List.length_range] at hi hj
    exact hc ⟨i, j, hlt, hj, z⟩
  refine ⟨j - i, by omega, by omega, ?_⟩
  have q := pw_add h ha i (j - i)
  rw [show i + (j - i) = j by omega, ← eq] at q
  have q2 : en t (pw t e a i) e = en t (pw t e a i) (pw t e a (j - i)) := by rw [h.u2 (pw_in h ha i)]; exact q
  exact (h.canL (pw_in h ha i) h.he (pw_in h ha _) q2).symm
theorem ex_ord (h : GTbl t e) {a : Int} (ha : InT t a) : ∃ d, IsOrd t e a d ∧ d ≤ t.length := by
  obtain ⟨k, k0, k1, k2⟩ := ex_back h ha
  obtain ⟨d, ⟨d0, d1⟩, d2⟩ := least (p := fun k => 0 < k ∧ pw t e a k = e) ⟨k, k0, k2⟩
  refine ⟨d, ⟨d0, d1, fun j j0 j1 z => d2 j j1 ⟨j0, z⟩⟩, ?_⟩
  by_cases q : d ≤ k
  · omega
  · exact absurd ⟨k0, k2⟩ (d2 k (by omega))
theorem pw_mul (h : GTbl t e) {a : Int} (ha : InT t a) {d : Nat} (hd : pw t e a d = e) : ∀ m, pw t e a (d * m) = e
  | 0 => rfl
  | m + 1 => by rw [Nat.mul_succ, pw_add h ha, pw_mul h ha hd m, hd, h.u1 h.he]
theorem pw_mod (h : GTbl t e) {a : Int} (ha : InT t a) {d : Nat} (hd : pw t e a d = e) (k : Nat) : pw t e a (k % d) = pw t e a k := by
  have q := pw_add h ha (d * (k / d)) (k % d)
  rw [Nat.div_add_mod, pw_mul h ha hd, h.u1 (pw_in h ha _)] at q
  exact q.symm
/-! ### parts -/
structure Part (t : Tbl) (e : Int) (H : List Int) : Prop where
  nd : H.Nodup
  inn : ∀ x ∈ H, InT t x
  one : e ∈ H
  mul : ∀ x ∈ H, ∀ y ∈ H, en t x y ∈ H
  bk : ∀ x ∈ H, ∃ y ∈ H, en t x y = e ∧ en t y x = e
theorem lag_aux (h : GTbl t e) {H : List Int} (P : Part t e H) : ∀ (m : Nat) (L : List Int), L.length ≤ m → L.Nodup → (∀ x ∈ L, InT t x) → (∀ x ∈ L, ∀ y ∈ H, en t x y ∈ L) → H.length ∣ L.length
  | 0, L, hm, _, _, _ => by
    rw [show L.length = 0 by omega]
    exact Nat.dvd_zero _
  | m + 1, [], _, _, _, _ => Nat.dvd_zero _
  | m + 1, x :: L0, hm, nd, hin, cl => by
    obtain ⟨L, eL⟩ : ∃ L, L = x :: L0 := ⟨_, rfl⟩
    have hx : x ∈ L := by rw [eL]; exact List.mem_cons_self
    rw [← eL] at hm nd hin cl ⊢
    have xi := hin x hx
    have ndC : (H.map (en t x)).Nodup := by
      rw [List.Nodup, List.pairwise_map]
      exact (P.nd).imp_of_mem fun {y z} hy hz ne q => ne (h.canL xi (P.inn y hy) (P.inn z hz) q)
    have l1 : (L.filter fun y => decide (y ∈ H.map (en t x))).length = H.length := by
      apply Nat.le_antisymm
      · rw [← List.length_map (f := en t x) (as := H)]
        exact nodup_le (nd.filter _) fun y hy => by simpa using (List.mem_filter.mp hy).2
      · rw [← List.length_map (f := en t x) (as := H)]
        exact nodup_le ndC fun y hy => by
          rw [List.mem_filter]
          refine ⟨?_, by simpa using hy⟩
          obtain ⟨z, hz, rfl⟩ := List.mem_map.mp hy
          exact cl x hx z hz
    have l2 := filter_two (fun y => decide (y ∈ H.map (en t x))) L
    have hp : 0 < H.length := List.length_pos_of_mem P.one
    have ih := lag_aux h P m (L.filter fun y => !decide (y ∈ H.map (en t x))) (by omega) (nd.filter _) (fun y hy => hin y (List.mem_filter.mp hy).1) fun y hy z hz => by
      obtain ⟨y1, y2⟩ := List.mem_filter.mp hy
      rw [List.mem_filter]
      refine ⟨cl y y1 z hz, ?_⟩
      have y3 : y ∉ H.map (en t x) := by simpa using y2
      have : en t y z ∉ H.map (en t x) := fun q => by
        obtain ⟨w, hw, ew⟩ := List.mem_map.mp q
        obtain ⟨z', hz', e1, e2⟩ := P.bk z hz
        refine y3 (List.mem_map.mpr ⟨en t w z', P.mul w hw z' hz', ?_⟩)
        rw [← h.as xi (P.inn w hw) (P.inn z' hz'), ew, h.as (hin y y1) (P.inn z hz) (P.inn z' hz'), e1, h.u2 (hin y y1)]
      simpa using this
    rw [l2, l1]
    exact Nat.dvd_add (Nat.dvd_refl _) ih
theorem lag (h : GTbl t e) {H : List Int} (P : Part t e H) : H.length ∣ t.length := by
  have := lag_aux h P (irange t.length).length (irange t.length) (Nat.le_refl _) (nodup_irange' _) (fun x hx => mem_irange.mp hx) fun x hx y hy => mem_irange.mpr (h.cl (mem_irange.mp hx) (P.inn y hy))
  rw [irange_len] at this
  simpa using this
theorem ord_part (h : GTbl t e) {a : Int} (ha : InT t a) {d : Nat} (hd : IsOrd t e a d) : Part t e ((List.range d).map (pw t e a)) := by
  have mem : ∀ k, pw t e a k ∈ (List.range d).map (pw t e a) := fun k => by
    rw [← pw_mod h ha hd.one k]
    exact List.mem_map.mpr ⟨k % d, List.mem_range.mpr (Nat.mod_lt _ hd.pos), rfl⟩
  refine ⟨?_, fun x hx => ?_, mem 0, fun x hx y hy => ?_, fun x hx => ?_⟩
  · rw [List.Nodup, List.pairwise_map, List.pairwise_iff_getElem]
    intro i j hi hj hlt z
    simp only [List.getElem_range, List.length_range] at z hi hj
    have q := pw_add h ha i (j - i)
    rw [show i + (j - i) = j by omega, ← z] at q
    have q2 : en t (pw t e a i) e = en t (pw t e a i) (pw t e a (j - i)) := by rw [h.u2 (pw_in h ha i)]; exact q
    exact hd.low (j - i) (by omega) (by omega) (h.canL (pw_in h ha i) h.he (pw_in h ha _) q2).symm
  · obtain ⟨k, _, rfl⟩ := List.mem_map.mp hx
    exact pw_in h ha k
  · obtain ⟨i, _, rfl⟩ := List.mem_map.mp hx
    obtain ⟨j, _, rfl⟩ := List.mem_map.mp hy
    rw [← pw_add h ha]
    exact mem _
  · obtain ⟨i, hi, rfl⟩ := List.mem_map.mp hx
    have hi' := List.mem_range.mp hi
    refine ⟨_, mem (d - i), ?_, ?_⟩
    · rw [← pw_add h ha, show i + (d - i) = d by omega, hd.one]
    · rw [← pw_add h ha, show d - i + i = d by omega, hd.one]
theorem ord_dvd (h : GTbl t e) {a : Int} (ha : InT t a) {d : Nat} (hd : IsOrd t e a d) : d ∣ t.length := by
  have := lag h (ord_part h ha hd)
  rw [List.length_map, List.length_range] at this
  exact this
theorem pw_len (h : GTbl t e) {a : Int} (ha : InT t a) : pw t e a t.length = e := by
  obtain ⟨d, hd, _⟩ := ex_ord h ha
  obtain ⟨m, em⟩ := ord_dvd h ha hd
  rw [em, pw_mul h ha hd.one]
end
end TB
namespace TB
open PySem L2
/-- one thing turned by another -/
def cj (t : Tbl) (e x a : Int) : Int := en t (en t x a) (bkf t e x)
theorem bk_first {t : Tbl} {e a : Int} (hG : GTbl t e) (ha : InT t a) : FirstBack t e a (bkf t e a) := bkf_first (hG.bk a ha)
theorem bk_in {t : Tbl} {e a : Int} (hG : GTbl t e) (ha : InT t a) : InT t (bkf t e a) := ⟨(bk_first hG ha).b0, (bk_first hG ha).b1⟩
theorem cj_in {t : Tbl} {e x a : Int} (hG : GTbl t e) (hx : InT t x) (ha : InT t a) : InT t (cj t e x a) := hG.cl (hG.cl hx ha) (bk_in hG hx)
theorem backs_len {t : Tbl} {e : Int} (hG : GTbl t e) : (((grpOf t e).backs).length : Int) = t.length := by rw [hG.ok.bl]; rfl
theorem backs_at {t : Tbl} {e a : Int} (ha : InT t a) : gt (grpOf t e).backs a = bkf t e a := gt_map ha.1 ha.2
end TB

/-! ### turned_by -/
namespace TB
open PySem L2
--use TbGt
def T_turned_by : Tm := tm3 fun (g : Grp) (a b : Int) ok _ => ∃ (t : Tbl) (e : Int), GTbl t e ∧ g = grpOf t e ∧ InT t a ∧ InT t b ∧ ok (.im (cj t e b a))
def t_turned_by (Z : Zz) (X : WX) : TS :=
  (tRet (tOp (gIx Z.K) (tOp (gIx Z.K) (tFld Z.K (tVar 0) "rows") (tOp (gIx Z.K) (tOp (gIx Z.K) (tFld Z.K (tVar 0) "rows") (tVar 2)) (tVar 1))) (tOp (gIx Z.K) (tFld Z.K (tVar 0) "backs") (tVar 2))))
theorem w_turned_by (Z : Zz) (X : WX) (ss : List Sl) (ok : Sl → Prop) (er : Rf → Prop) (h : T_turned_by ss ok er) : WF Z X er (ss ++ List.replicate (3 - ss.length) .un) (t_turned_by Z X) ok := by
  obtain ⟨g, a, b, rfl, t, e, hG, rfl, ha, hb, k⟩ := h
  show W _ [.im (grpOf t e), .im a, .im b] _ _
  unfold t_turned_by
  have hx := hG.cl hb ha
  have hi := bk_in hG hb
  exact w_ret (ev_ix (ev_ix (xs := t) (ev_rows (g := grpOf t e) (ev_var rfl)) (ev_ix (ev_ix (xs := t) (ev_rows (g := grpOf t e) (ev_var rfl)) (ev_var rfl) hb.1 hb.2) (ev_var rfl) ha.1 (by rw [hG.row hb]; exact ha.2)) hx.1 hx.2) (ev_to (ev_ix (ev_backs (g := grpOf t e) (ev_var rfl)) (ev_var rfl) hb.1 (by rw [backs_len hG]; exact hb.2)) (backs_at hb)) hi.1 (by rw [hG.row hx]; exact hi.2)) k
end TB

/-! TbPoly: plain law: polynomials, what is left of a division, sums round a wheel. -/
namespace TB
open PySem L2
/-! ### what the program reckons -/
def stripF : Nat → Int → Int → Int
  | 0, _, r => r
  | n + 1, p, r => if r % p = 0 then stripF n p (r / p) else r
def primesN (m : Int) : Nat → List Int × Int
  | 0 => ([], m)
  | i + 1 => let s := primesN m i; (if s.2 % (2 + (i : Int)) = 0 then s.1 ++ [2 + (i : Int)] else s.1, stripF 6 (2 + (i : Int)) s.2)
def primesF (m : Int) : List Int := (primesN m (m - 1).toNat).1
/-! ### entries and lengths -/
def Bd (n : Nat) (xs : List Int) : Prop := ∀ x ∈ xs, x.natAbs < 2 ^ n
theorem Bd.mono {n m : Nat} {xs : List Int} (h : Bd n xs) (l : n ≤ m) : Bd m xs := fun x hx => Nat.lt_of_lt_of_le (h x hx) (Nat.pow_le_pow_right (by omega) l)
/-! ### sums round a wheel -/
section
variable {m : Int}
end
/-! ### less a turn for each prime -/
def dif (m : Int) : List Int → (Int → Int) → Int → Int
  | [], f, j => f j
  | p :: ps, f, j => dif m ps (fun i => f i - f (i - m / p)) j
/-- the same number of the wheel: one sum less the other is nought all round -/
def SameN (m : Int) (f g : Int → Int) : Prop := ∀ j, dif m (primesF m) f j = dif m (primesF m) g j
theorem SameN.refl {m : Int} (f : Int → Int) : SameN m f f := fun _ => rfl
theorem SameN.trans {m : Int} {f g h : Int → Int} (a : SameN m f g) (b : SameN m g h) : SameN m f h := fun j => (a j).trans (b j)
theorem SameN.symm {m : Int} {f g : Int → Int} (a : SameN m f g) : SameN m g f := fun j => (a j).symm
end TB

/-! TbRing: what holds of the circles of 1 to 60, reckoned. -/
namespace TB
open PySem L2
/-! ### what holds of the circles of 1 to 60 -/
end TB

/-! TbWh: wheels as data; more rules for lists. -/
namespace TB
open PySem L2
section
variable {c : Cn} {Γ : List Sl} {ta tb te tl ty : TE} {tt tc : TT} {t u : TS} {s s' so : Sl} {α β γ : Type} {_ : Rp α} {_ : Rp β} {_ : Rp γ} {P : Po} {d : α}
theorem ev_frI {xs : List Int} (h : Ev c Γ te (.ol xs)) : Ev c Γ te (.im xs) := ev_fr h
/-- xs[i] = y -/
theorem w_putG {k : Nat} {xs : List α} {y : α} {i : Int} (e : Γ[k]? = some (.ol xs)) (h : Ev c Γ te (.im y)) (hi : Ev c Γ tb (.im i)) (h0 : 0 ≤ i) (h1 : i < xs.length) (kk : P.nx (Γ.set k (.ol (xs.set i.toNat y)))) : W c Γ (tAsg te (gSub (tVar k) tb gSet)) P := fun B R0 R H ρ Δ σ D S n r bb kk' x =>
  h B R0 R H ρ Δ σ S _ (fun w R1 H1 S1 => by
    obtain ⟨p, vs, h2, h3, h4, _⟩ := sx_mutl (sx_pop S1) e
    refine ⟨.ref p, h2, hi B R0 R1 H1 _ _ σ S1 _ (fun z R2 H2 S2 => ?_) x.push1⟩
    have ez : z = .int i := sx_top' S2
    obtain ⟨p', vs', h2', h3', h4', h5⟩ := sx_mutl (sx_pop (sx_pop S2)) e
    have ep : p = p' := by
      rw [h2] at h2'
      cases h2'
      rfl
    subst ep
    exact .inl ⟨p, vs', i, i.toNat, rfl, ez, h3', ixN_of h0 (by rw [Paired.length h4']; exact h1), n R2 _ _ _ (h5 _ _ (paired_set (sx_top' (sx_pop S2)) _ h4')) kk⟩) x
/-! ### wheels -/
end
structure Whl where
  ring : List Int
  spokes : Int
  size : Int
structure WhlC (Z : Zz) : Prop where
  cl : Cls Z.K (Z.cls .Wheel)
  n1 : NoAttr Z.K (Z.cls .Wheel) "ring"
  n2 : NoAttr Z.K (Z.cls .Wheel) "spokes"
  n3 : NoAttr Z.K (Z.cls .Wheel) "size"
def flW (r m z : V) : List (Str × V) := [("ring", r), ("spokes", m), ("size", z)]
instance : Rp Whl := ⟨⟨[], 0, 0⟩, fun Z H v g => WhlC Z ∧ ∃ a dx r m z, v = .ref a ∧ H a = some (.ins (Z.cls .Wheel) dx (flW r m z)) ∧ Rp.rp Z H r g.ring ∧ Rp.rp Z H m g.spokes ∧ Rp.rp Z H z g.size,
  fun e h => by
    obtain ⟨h0, a, dx, r, m, z, h1, h2, h3, h4, h5⟩ := h
    exact ⟨h0, a, dx, r, m, z, h1, e _ _ h2, Rp.mono e h3, Rp.mono e h4, Rp.mono e h5⟩⟩
section
variable {c : Cn} {Γ : List Sl} {ta tb te tl : TE} {g : Whl}
end
end TB

/-! TbU: sorted(set(xs)) of a list of ints. -/
namespace TB
open PySem PySem.Spec PyProof.Rows L2
section
variable {P : Program} {w : World} {A : Around} {E : Value → Shared → Prop} {s : Shared}
/-- the empty set, as set.__new__ lays it -/
def sob (w : World) : Obj := { cls := .type "set", dict := none, data := .set #[] 0 (.fresh 0 0 (!w.params.followText "set-order")) }
def spu (w : World) (s : Shared) : Shared := { s with heap := s.heap.push (sob w) }
set_option maxHeartbeats 4000000 in
theorem set_of_list {l : Addr} {its : Array Value} (ns : List Int) {Q : Value → Shared → Prop} (hh : A.handled = none) (hl : s.heap.IsList l its) (hi : IntsAre its.toList ns) (hb : ns.length + 1 < scanBound)
    (k : ∀ (h2 : Heap) (tk c : Nat), SetR w h2 s.heap.objs.size (fun j => decide (j ∈ ns)) c → c ≤ ns.length → (∀ b o, s.heap.get? b = some o → h2.get? b = some o) → Q (.ref s.heap.objs.size) { s with heap := h2, toks := tk }) :
    wpAny (model P w) A (call (.type "set") [.ref l]) Q E s := by
  have zs : its.size = ns.length := by
    have q := IntsAre.length hi
    rw [Array.length_toList] at q
    exact q
  have F1 := F.called_set.mro
  obtain ⟨c, tl, hmro⟩ := F1
  have hmade := F.called_set.made; have hsub := F.called_set.sub
  refine wpAny_call (codeAny_of_tree (by
    show wpAny _ _ (callAny (.type "set") _) _ _ _
    refine wpAny_pure ⟨Code.quiet_builtin _ (by decide +kernel), codeAny_builtin F.entry_type_call (by
      rw [Around.under_plain (weight_type_call_type "set" [.ref l] []) rfl]
      have h1 := F.called_set.notType; have h2 := F.called_set.canCreate; have hct := F.typeCall_set_1 (.ref l)
      repeat (any_goals (first | assumption | wp_step))
      refine codeAny_mono (code_set_led1 (.ref l) (E := E) (Q₁ := fun ob s₁ => ob = .ref s.heap.objs.size ∧ s₁ = spu w s) ⟨rfl, rfl⟩) fun r s₁ hr => ?_
      cases r with
      | error e => exact hr
      | ok fl =>
        cases fl with
        | ret ob =>
          obtain ⟨rfl, rfl⟩ := hr
          have g0 : (spu w s).heap.get? s.heap.objs.size = some (sob w) := Heap.get?_push_size _ rfl
          have ty0 : Shared.TypeIs (spu w s) (.ref s.heap.objs.size) "set" := ⟨_, g0, rfl⟩
          have hli := F.called_set.init.lookup; have hbi := F.called_set.init.bind (.ref s.heap.objs.size)
          repeat (any_goals (first | assumption | wp_step))
          refine codeAny_mono (codeAny_call_builtin (R := wants (fun r s₂ => r = .none ∧ ∃ h2 tk c, s₂ = { s with heap := h2, toks := tk } ∧ SetR w h2 s.heap.objs.size (fun j => decide (j ∈ ns)) c ∧ c ≤ ns.length ∧ (∀ b o, s.heap.get? b = some o → h2.get? b = some o)) E) F.called_set.init.plain F.entry_set_init (check_set_init_1 ty0 ?body)) fun r₂ s₂ hr₂ => ?fin
          case body =>
            obtain ⟨⟨ocl, odi, oda, osl⟩, hol, e1, nl, e2⟩ := hl
            simp only at e1 e2
            subst e1; subst e2
            have hlS : l < s.heap.objs.size := Heap.lt_size hol
            have hol' : (spu w s).heap.get? l = some { cls := .type "list", dict := odi, data := .seq its nl, slots := osl } := Heap.get?_push_of_some _ hol
            have hsls := F.sub_list_set; have hslf := F.sub_list_frozenset
            have hne : (Value.type "list" == Value.type "dict") = false := by decide
            have hl1 : (spu w s).heap.IsList l its := ⟨_, hol', rfl, nl, rfl⟩
            unfold Builtin.«set.__init__» noKeywords Builtin.Frozenset.updateFrom
            generalize hPI : pyIter = PI
            wp_walk
            subst hPI
            refine wpAny_pyIter_list hl1 (wpAny_bind (wpAny_runValue ?_))
            have hh3 : A.in1.in1.in1.handled = none := by simp [hh]
            have zp : (spu w s).heap.objs.size = s.heap.objs.size + 1 := Heap.size_push ..
            have n1 : l ≠ (spu w s).heap.objs.size := by rw [zp]; exact Nat.ne_of_lt (Nat.lt_succ_of_lt hlS)
            have n2 : s.heap.objs.size ∉ [(spu w s).heap.objs.size, l] := by
              rw [zp]; simp only [List.mem_cons, List.not_mem_nil, or_false, not_or]; exact ⟨Nat.ne_of_lt (Nat.lt_succ_self _), Nat.ne_of_gt hlS⟩
            have vals : ∀ (i : Nat) (v : Value), its[i]? = some v → ∃ k t, ns[i]? = some k ∧ v = .int k t := fun i v hv => by
              have hlt : i < ns.length := by rw [← zs]; exact (Array.getElem?_eq_some_iff.mp hv).1
              obtain ⟨t, e⟩ := PyProof.Rows.IntsAre.int_at hi i v (by rw [Array.getElem?_toList]; exact hv)
              exact ⟨ns[i], t, List.getElem?_eq_getElem hlt, by rw [e, List.getD_eq_getElem?_getD, List.getElem?_eq_getElem hlt] <;> rfl⟩
            refine set_update_ints ((Walks.list hh3 _ l n1 its).toS) s.heap.objs.size n2 ns zs hb vals (its.size - 0) 0 _ (by omega) (Nat.zero_le _) ⟨⟨_, Heap.get?_push_size _ rfl, rfl, rfl⟩, (hl1.push _)⟩ ⟨0, Nat.le_refl 0, setR_new_at (Heap.get?_push_of_some _ g0)⟩ ?_
            intro s3 c3 hm hc3 hS3
            obtain ⟨h3, g3, d3, tk3, os3⟩ := s3
            obtain rfl : g3 = s.gens := hm.gens
            obtain rfl : d3 = s.drawn := hm.drawn
            obtain rfl : os3 = s.os := hm.os
            show wpAny _ _ _ _ _ _
            refine wpAny_pure ?_
            show wpAny _ _ (ret Value.none) _ _ _
            refine wpAny_pure ⟨rfl, h3, tk3, c3, rfl, hS3, zs ▸ hc3, fun b o e => ?_⟩
            have b0 := Heap.lt_size e
            refine hm.heap b o ?_ (Heap.get?_push_of_some _ (Heap.get?_push_of_some _ e))
            rw [zp]; simp only [List.mem_cons, List.not_mem_nil, or_false, not_or]; exact ⟨Nat.ne_of_lt b0, Nat.ne_of_lt (Nat.lt_succ_of_lt b0)⟩
          case fin =>
            cases r₂ with
            | error e => exact hr₂
            | ok f2 =>
              cases f2 with
              | ret r =>
                obtain ⟨rfl, h3, tk, c3, rfl, hS3, hc3, hk3⟩ := hr₂
                repeat (any_goals (first | assumption | wp_step))
                exact k _ _ _ hS3 hc3 hk3
              | _ => exact hr₂.elim
        | _ => exact hr.elim)⟩))
end
section
variable {X : Cx} {a : Expr} {ta : TE} {p p2 q pos : Pos}
/-- sorted(set(xs)) -/
def tSortedSet (K : PySem.W.Frag) (ta : TE) : TE := fun σ H Q => ta σ H fun x H1 => ∃ (l : Addr) (ns : List Int), x = V.ref l ∧ SqL K H1 l (ns.map V.int) ∧ ns.length < 64 ∧
  ∀ (out : List Int) (r : Addr), out.Pairwise (· < ·) → (∀ k : Int, k ∈ out ↔ k ∈ ns) → H1 r = none → Q (.ref r) (upd H1 r (.lst (out.map V.int)))
theorem pe_sortedSet (hc : X.calm = true) (hg : Gl X "sorted") (hm : X.mg "sorted" = none) (hg2 : Gl X "set") (hm2 : X.mg "set" = none) (ha : PE X a ta)
    (na : starEach [a] X.env = (false, eval a X.env) :: starEach [] X.env := by rfl) (nb : starEach [.Call (.Name "set" p2) [a] [] q] X.env = (false, eval (.Call (.Name "set" p2) [a] [] q) X.env) :: starEach [] X.env := by rfl) :
    PE X (.Call (.Name "sorted" p) [.Call (.Name "set" p2) [a] [] q] [] pos) (tSortedSet X.K ta) :=
  ⟨fun pins s σ H Q I h => Call_ (ld_blt I hg hm boot_sorted (PyProof.Rows.callWith_builtin1 (PyProof.Rows.args_cons (Call_ (ld_blt I hg2 hm2 boot_set (PyProof.Rows.callWith_type1 (PyProof.Rows.args_cons (thn (ha.run pins s σ H _ I h) fun v s1 ⟨x, H1, I1, r1, q1⟩ => PyProof.Rows.args_nil (by
    obtain ⟨l, ns, rfl, hq, h64, q1⟩ := q1
    cases r1
    obtain ⟨its, r, pl, hz⟩ := I1.list hq
    refine set_of_list ns (I1.ok.hd hc) pl.isList (by simpa using r.ints) (by unfold scanBound; omega) fun h2 tk c hR hcl hk => ?_
    have I2 : Inv X pins σ H1 { s1 with heap := h2, toks := tk } := I1.kept fun b o e => hk b o e
    refine PyProof.Rows.args_nil ?_
    have hR : SetR X.w ({ s1 with heap := h2, toks := tk } : Shared).heap s1.heap.objs.size (fun j => decide (j ∈ ns)) c := hR
    generalize ({ s1 with heap := h2, toks := tk } : Shared) = s0 at hR I2 ⊢
    refine sorted_set hR (I2.ok.hd hc) (by omega) fun s3 r3 out c3 ms k3 g3 o3 hp3 hg3 hi3 hs3 hm3 hl3 => ?_
    have hn : H1 r3 = none := I2.hok.fresh hp3
    have hlen : (ms.map V.int).length ≤ sizeLine := by rw [List.length_map, hl3, sizeLine_eq]; omega
    have J : Inv X pins σ (upd H1 r3 (.lst (ms.map V.int))) { s0 with heap := s3.heap, gens := s3.gens, drawn := s3.drawn, toks := s3.toks } :=
      I2.call (ch := []) (Un.laid k3 hp3 hn) (I2.hok.laid k3 hp3 ⟨hlen, out.toList, c3, vals_of_ints hi3, hg3⟩) (by rw [g3]; exact I2.bare) (fun _ z => nomatch z)
    have e : s3 = { s0 with heap := s3.heap, gens := s3.gens, drawn := s3.drawn, toks := s3.toks } := by
      cases s3
      cases s0
      cases o3
      rfl
    rw [e]
    exact ⟨.ref r3, _, J, rfl, q1 ms r3 hs3 (fun k => (hm3 k).trans (by simp)) hn⟩)) na) na rfl))) nb) nb rfl))⟩
end
end TB

/-! TbD: dicts, membership, own lists walked, own lists put into own lists. -/
namespace TB
open PySem L2
/-! ### dicts by int keys -/
def dget {α : Type} (kvs : List (Int × α)) (k : Int) : Option α := (kvs.find? fun p => decide (p.1 = k)).map (·.2)
def dput {α : Type} (kvs : List (Int × α)) (k : Int) (v : α) : List (Int × α) := if (kvs.any fun p => decide (p.1 = k)) = true then kvs.map (fun p => if p.1 = k then (p.1, v) else p) else kvs ++ [(k, v)]
theorem dget_nil {α : Type} {k : Int} : dget ([] : List (Int × α)) k = none := rfl
theorem dget_any {α : Type} : ∀ (kvs : List (Int × α)) (k : Int), (kvs.any fun p => decide (p.1 = k)) = (dget kvs k).isSome
  | [], k => rfl
  | p :: r, k => by
    have ih := dget_any r k
    unfold dget at ih ⊢
    rw [List.any_cons, List.find?_cons]
    by_cases c : p.1 = k
    · simp [c]
    · simp only [decide_eq_false c, Bool.false_or]
      exact ih
theorem dget_map {α : Type} (k : Int) (v : α) (x : Int) : ∀ kvs : List (Int × α), dget (kvs.map fun p => if p.1 = k then (p.1, v) else p) x = if x = k then (dget kvs k).map (fun _ => v) else dget kvs x
  | [] => by unfold dget; simp
  | p :: r => by
    have ih := dget_map k v x r
    unfold dget at ih ⊢
    rw [List.map_cons, List.find?_cons, List.find?_cons, List.find?_cons]
    by_cases c : p.1 = k
    · rw [if_pos c]
      by_cases c2 : x = k
      · subst c2
        simp [c]
      · have : ¬ p.1 = x := fun z => c2 (z ▸ c)
        simp only [decide_eq_false this, if_neg c2] at ih ⊢
        exact ih
    · rw [if_neg c]
      by_cases c3 : p.1 = x
      · have : ¬ x = k := fun z => c (c3.trans z)
        simp [c3, this]
      · simp only [decide_eq_false c3, decide_eq_false c] at ih ⊢
        exact ih
theorem dget_put {α : Type} (kvs : List (Int × α)) (k : Int) (v : α) (x : Int) : dget (dput kvs k v) x = if x = k then some v else dget kvs x := by
  unfold dput
  have h := dget_any kvs k
  by_cases c : (kvs.any fun p => decide (p.1 = k)) = true
  · rw [if_pos c, dget_map]
    rw [c] at h
    by_cases c2 : x = k
    · rw [if_pos c2, if_pos c2]
      cases e : dget kvs k with
      | none => rw [e] at h; cases h
      | some y => rfl
    · rw [if_neg c2, if_neg c2]
  · rw [if_neg c]
    have h2 : dget kvs k = none := by
      cases e : dget kvs k with
      | none => rfl
      | some y => rw [e] at h; exact absurd h c
    unfold dget at h2 ⊢
    rw [List.find?_append]
    by_cases c2 : x = k
    · subst c2
      have h3 : kvs.find? (fun p => decide (p.1 = x)) = none := by simpa using h2
      rw [h3]
      simp
    · rw [if_neg c2]
      have : ([(k, v)] : List (Int × α)).find? (fun p => decide (p.1 = x)) = none := by
        have c3 : ¬ k = x := fun z => c2 z.symm
        simp [c3]
      rw [this, Option.or_none]
theorem dput_len {α : Type} (kvs : List (Int × α)) (k : Int) (v : α) : (dput kvs k v).length ≤ kvs.length + 1 := by
  unfold dput
  split
  · rw [List.length_map]; omega
  · simp
section
variable {Z : Zz} {R : Hp} {α : Type} {_ : Rp α}
theorem kv_any {k : Int} : ∀ {kv : List (Key × V)} {kvs : List (Int × α)}, Paired (kvOk Z R) kv kvs → (kv.any fun p => decide (p.1 = (Sum.inl k : Key))) = kvs.any fun p => decide (p.1 = k)
  | _, _, .nil => rfl
  | _, _, .cons (a := a) (b := b) r t => by
    rw [List.any_cons, List.any_cons, kv_any t, r.1]
    congr 1
    by_cases c : b.1 = k
    · simp [c]
    · have : ¬ (Sum.inl b.1 : Key) = Sum.inl k := fun z => c (Sum.inl.inj z)
      simp [c]
theorem kv_put {k : Int} {w : V} {v : α} (hw : Rp.rp Z R w v) {kv : List (Key × V)} {kvs : List (Int × α)} (h : Paired (kvOk Z R) kv kvs) : Paired (kvOk Z R) (putK kv (Sum.inl k) w) (dput kvs k v) := by
  unfold putK dput
  rw [kv_any h]
  by_cases c : (kvs.any fun p => decide (p.1 = k)) = true
  · rw [if_pos c, if_pos c]
    clear c
    induction h with
    | nil => exact .nil
    | @cons a b kv kvs r t ih =>
      refine .cons ?_ ih
      show kvOk Z R (if a.1 = Sum.inl k then (a.1, w) else a) (if b.1 = k then (b.1, v) else b)
      rw [r.1]
      by_cases c : b.1 = k
      · rw [if_pos (by rw [c]), if_pos c]
        exact ⟨rfl, hw⟩
      · rw [if_neg (fun z => c (Sum.inl.inj z)), if_neg c]
        exact r
  · rw [if_neg c, if_neg c]
    exact paired_append h (.cons ⟨rfl, hw⟩ .nil)
theorem dget_neg {β : Type} {b : Int × β} {r : List (Int × β)} {k : Int} (c : ¬ b.1 = k) : dget (b :: r) k = dget r k := by
  unfold dget
  rw [List.find?_cons]
  simp only [decide_eq_false c]
theorem kv_get {k : Int} : ∀ {kv : List (Key × V)} {kvs : List (Int × α)}, Paired (kvOk Z R) kv kvs → (valV kv (Sum.inl k) = none ∧ dget kvs k = none) ∨ ∃ w v, valV kv (Sum.inl k) = some w ∧ dget kvs k = some v ∧ Rp.rp Z R w v
  | _, _, .nil => .inl ⟨rfl, rfl⟩
  | _, _, .cons (a := a) (b := b) r t => by
    by_cases c : b.1 = k
    · refine .inr ⟨a.2, b.2, valV_pos (by rw [r.1, c]), ?_, r.2⟩
      unfold dget
      simp [c]
    · rw [valV_neg (fun z => c (Sum.inl.inj (r.1.symm.trans z)))]
      rw [dget_neg c]
      exact kv_get t
end
section
variable {c : Cn} {Γ : List Sl} {ta tb te tl ty : TE} {tt tc : TT} {t u : TS} {s s' so : Sl} {α β γ : Type} {_ : Rp α} {_ : Rp β} {_ : Rp γ} {P : Po} {d : α}
/-- d[k] = v -/
theorem w_dset {i : Nat} {kvs : List (Int × α)} {k : Int} {v : α} (e : Γ[i]? = some (.od kvs)) (h : Ev c Γ te (.im v)) (hk : Ev c Γ tb (.im k)) (hl : kvs.length < 1000000) (kk : P.nx (Γ.set i (.od (dput kvs k v)))) : W c Γ (tAsg te (gSub (tVar i) tb gSet)) P := fun B R0 R H ρ Δ σ D S n r bb kk' x =>
  h B R0 R H ρ Δ σ S _ (fun w R1 H1 S1 => by
    obtain ⟨p, kv, h2, _⟩ := sx_mutd (sx_pop S1) e
    refine ⟨.ref p, h2, hk B R0 R1 H1 _ _ σ S1 _ (fun z R2 H2 S2 => ?_) x.push1⟩
    have ez : z = .int k := sx_top' S2
    subst ez
    obtain ⟨p', kv', h2', h3, h4, h5⟩ := sx_mutd (sx_pop (sx_pop S2)) e
    rw [h2] at h2'
    cases h2'
    have hl' := Paired.length h4
    exact .inr ⟨p, _, rfl, DPut.k (k := Sum.inl k) h3 (Nat.lt_of_lt_of_le (by omega : kv'.length < 1000000) (by decide)), n R2 _ _ _ (h5 _ _ (kv_put (sx_top' (sx_pop S2)) h4)) kk⟩) x
/-- k in d -/
theorem ev_inD {i : Nat} {kvs : List (Int × α)} {k : Int} (e : Γ[i]? = some (.od kvs)) (hk : Ev c Γ ta (.im k)) : Ev c Γ (tOp (gIn c.Z.K) ta (tVar i)) (.im (dget kvs k).isSome) := fun B R0 R H ρ Δ σ S Q q x =>
  hk B R0 R H ρ Δ σ S _ (fun z R1 H1 S1 => by
    have ez : z = .int k := sx_top' S1
    subst ez
    obtain ⟨p, kv, h2, h3, h4, _⟩ := sx_mutd (sx_pop S1) e
    refine ⟨.ref p, h2, .inr ⟨p, _, rfl, DGet.k (k := Sum.inl k) h3, ?_⟩⟩
    rcases kv_get (k := k) h4 with ⟨g1, g2⟩ | ⟨w, v, g1, g2, _⟩
    · rw [g1]; exact q _ R1 H1 (sx_push (sx_pop S1) (by rw [g2]; rfl))
    · rw [g1]; exact q _ R1 H1 (sx_push (sx_pop S1) (by rw [g2]; rfl))) x
theorem ev_notInD {i : Nat} {kvs : List (Int × α)} {k : Int} (e : Γ[i]? = some (.od kvs)) (hk : Ev c Γ ta (.im k)) : Ev c Γ (tOp (gNotIn c.Z.K) ta (tVar i)) (.im (!(dget kvs k).isSome)) := fun B R0 R H ρ Δ σ S Q q x =>
  hk B R0 R H ρ Δ σ S _ (fun z R1 H1 S1 => by
    have ez : z = .int k := sx_top' S1
    subst ez
    obtain ⟨p, kv, h2, h3, h4, _⟩ := sx_mutd (sx_pop S1) e
    refine ⟨.ref p, h2, .inr ⟨p, _, rfl, DGet.k (k := Sum.inl k) h3, ?_⟩⟩
    rcases kv_get (k := k) h4 with ⟨g1, g2⟩ | ⟨w, v, g1, g2, _⟩
    · rw [g1]; exact q _ R1 H1 (sx_push (sx_pop S1) (by rw [g2]; rfl))
    · rw [g1]; exact q _ R1 H1 (sx_push (sx_pop S1) (by rw [g2]; rfl))) x
end
/-! ### membership in lists of ints -/
theorem inV_int {x : Int} {xs : List Int} : inV (.int x) (xs.map V.int) = decide (x ∈ xs) := by
  induction xs with
  | nil => rfl
  | cons y r ih =>
    unfold inV at ih ⊢
    rw [List.map_cons, List.any_cons, ih]
    by_cases c : x = y
    · subst c; simp [eqV]
    · have : ¬ y = x := fun z => c z.symm
      simp [eqV, c, this]
theorem flat_ints (xs : List Int) : (xs.map V.int).all flatV = true := by
  rw [List.all_eq_true]
  intro v hv
  obtain ⟨i, _, rfl⟩ := List.mem_map.mp hv
  rfl
section
variable {c : Cn} {Γ : List Sl} {ta tb te tl ty : TE} {tt tc : TT} {t u : TS} {s s' so : Sl} {α β γ : Type} {_ : Rp α} {_ : Rp β} {_ : Rp γ} {P : Po} {d : α}
theorem ev_notInL {x : Int} {xs : List Int} (ha : Ev c Γ ta (.im x)) (hb : Ev c Γ tb (.im xs)) : Ev c Γ (tOp (gNotIn c.Z.K) ta tb) (.im (!decide (x ∈ xs))) := ev_opv ha hb fun R H v w sm rv rw => by
  have rv' : v = .int x := rv
  subst rv'
  obtain ⟨a, vs, rfl, h2, h3⟩ := rw
  have := paired_map_int h3
  subst this
  exact ⟨.bl _, rfl, fun Q q => .inl ⟨a, _, rfl, .inl (SqL.of (sm _ _ h2)), rfl, flat_ints xs, by rw [if_pos rfl, inV_int]; exact q⟩⟩
theorem ev_notInO {x : Int} {xs : List Int} {i : Nat} (ha : Ev c Γ ta (.im x)) (e : Γ[i]? = some (.ol xs)) : Ev c Γ (tOp (gNotIn c.Z.K) ta (tVar i)) (.im (!decide (x ∈ xs))) := ev_opR ha lnd_ol e fun R H v w sm rv rw => by
  have rv' : v = .int x := rv
  subst rv'
  obtain ⟨a, vs, rfl, h2, h3⟩ := rw
  have := paired_map_int h3
  subst this
  exact ⟨.bl _, fun _ => rfl, fun Q q => .inl ⟨a, _, rfl, .inl (SqL.of (sm _ _ h2)), rfl, flat_ints xs, by rw [if_pos rfl, inV_int]; exact q⟩⟩
/-! ### sorted(set(xs)) -/
end
def sins (x : Int) : List Int → List Int
  | [] => [x]
  | y :: r => if x < y then x :: y :: r else if x = y then y :: r else y :: sins x r
/-- the things of a list, each once, rising -/
def uset (xs : List Int) : List Int := xs.foldr sins []
def Inc (xs : List Int) : Prop := xs.Pairwise (· < ·)
theorem mem_sins {x z : Int} : ∀ {l : List Int}, z ∈ sins x l ↔ z = x ∨ z ∈ l
  | [] => by simp [sins]
  | y :: r => by
    unfold sins
    split
    · simp
    · split
      · rename_i h; subst h; simp
      · rw [List.mem_cons, mem_sins, List.mem_cons]
        constructor
        · rintro (h | h | h)
          · exact .inr (.inl h)
          · exact .inl h
          · exact .inr (.inr h)
        · rintro (h | h | h)
          · exact .inr (.inl h)
          · exact .inl h
          · exact .inr (.inr h)
theorem inc_sins {x : Int} : ∀ {l : List Int}, Inc l → Inc (sins x l)
  | [], _ => List.pairwise_singleton _ _
  | y :: r, h => by
    obtain ⟨h1, h2⟩ := List.pairwise_cons.mp h
    unfold sins
    split
    · rename_i c
      refine List.pairwise_cons.mpr ⟨fun z hz => ?_, h⟩
      rcases List.mem_cons.mp hz with rfl | hz
      · exact c
      · exact Int.lt_trans c (h1 z hz)
    · split
      · exact h
      · rename_i c1 c2
        refine List.pairwise_cons.mpr ⟨fun z hz => ?_, inc_sins h2⟩
        rcases mem_sins.mp hz with rfl | hz
        · omega
        · exact h1 z hz
theorem mem_uset {z : Int} {xs : List Int} : z ∈ uset xs ↔ z ∈ xs := by
  unfold uset
  induction xs with
  | nil => simp
  | cons x r ih => rw [List.foldr_cons, mem_sins, ih, List.mem_cons]
theorem inc_uset (xs : List Int) : Inc (uset xs) := by
  unfold uset
  induction xs with
  | nil => exact .nil
  | cons x r ih => exact inc_sins ih
theorem inc_one : ∀ {a b : List Int}, Inc a → Inc b → (∀ z, z ∈ a ↔ z ∈ b) → a = b
  | [], [], _, _, _ => rfl
  | [], y :: b, _, _, h => by have := (h y).mpr (by simp); simp at this
  | x :: a, [], _, _, h => by have := (h x).mp (by simp); simp at this
  | x :: a, y :: b, ha, hb, h => by
    obtain ⟨a1, a2⟩ := List.pairwise_cons.mp ha
    obtain ⟨b1, b2⟩ := List.pairwise_cons.mp hb
    have e : x = y := by
      rcases List.mem_cons.mp ((h x).mp (by simp)) with q | q
      · exact q
      · rcases List.mem_cons.mp ((h y).mpr (by simp)) with q2 | q2
        · exact q2.symm
        · have := a1 y q2; have := b1 x q; omega
    subst e
    congr 1
    refine inc_one a2 b2 fun z => ?_
    have hz := h z
    rw [List.mem_cons, List.mem_cons] at hz
    constructor
    · intro q
      rcases hz.mp (.inr q) with r | r
      · have := a1 z q; omega
      · exact r
    · intro q
      rcases hz.mpr (.inr q) with r | r
      · have := b1 z q; omega
      · exact r
theorem inc_nodup {xs : List Int} (h : Inc xs) : xs.Nodup := List.Pairwise.imp (fun h => by omega) h
theorem inc_irange (n : Int) : Inc (irange n) := by
  unfold Inc irange
  rw [List.pairwise_map]
  exact (List.pairwise_lt_range).imp fun h => by omega
theorem isort_perm (xs : List Int) : (isort xs).Perm xs := List.mergeSort_perm _ _
theorem isort_sorted (xs : List Int) : (isort xs).Pairwise (· ≤ ·) := by
  have := List.pairwise_mergeSort (le := fun x y : Int => decide (x ≤ y)) (fun a b c h1 h2 => by simp at *; omega) (fun a b => by simp; omega) xs
  exact this.imp fun h => by simpa using h
theorem isort_inc {xs : List Int} (h : xs.Nodup) : Inc (isort xs) := by
  have h1 := isort_sorted xs
  have h2 : (isort xs).Nodup := (isort_perm xs).nodup_iff.mpr h
  exact (h1.and h2).imp fun ⟨a, b⟩ => by omega
theorem isort_eq {xs ys : List Int} (h : xs.Nodup) (hy : Inc ys) (e : ∀ z, z ∈ xs ↔ z ∈ ys) : isort xs = ys := inc_one (isort_inc h) hy fun z => ((isort_perm xs).mem_iff).trans (e z)
section
variable {c : Cn} {Γ : List Sl} {ta tb te tl ty : TE} {tt tc : TT} {t u : TS} {s s' so : Sl} {α β γ : Type} {_ : Rp α} {_ : Rp β} {_ : Rp γ} {P : Po} {d : α}
theorem ev_uset {xs : List Int} (ha : Ev c Γ ta (.im xs)) (hl : xs.length < 64) : Ev c Γ (tSortedSet c.Z.K ta) (.ol (uset xs)) := fun B R0 R H ρ Δ σ S Q q xk => ha B R0 R H ρ Δ σ S _ (fun v R1 H1 S1 => by
  obtain ⟨a, vs, rfl, h2, h3⟩ := id (sx_top' S1)
  have := paired_map_int h3
  subst this
  refine ⟨a, xs, rfl, SqL.of (sx_same S1 _ _ h2), hl, fun out r pw hm nr => ?_⟩
  have e : out = uset xs := inc_one pw (inc_uset xs) fun z => (hm z).trans mem_uset.symm
  subst e
  exact q _ R1 _ (sx_newl (sx_pop S1) nr (paired_of_int _))) xk
/-! ### own lists put into own lists -/
theorem sx_swapTop' {Z : Zz} {B R0 R H : Hp} {ρ : List (Option V)} {Δ : List Sl} {σ : List (Option V)} {o o' : Option V} {s s' : Sl} (S : Sx Z B R0 R H (o :: o' :: ρ) (s :: s' :: Δ) σ Γ) : Sx Z B R0 R H (o' :: o :: ρ) (s' :: s :: Δ) σ Γ := sx_swapTop S
theorem ev_nil2 {δ : Type} [Rp δ] : Ev c Γ (tLst tNil) (.o2 ([] : List (List δ))) := ev_subS (fun Z R H o f nd h => by
  obtain ⟨p, vs, rfl, rfl, h3, h4⟩ := h
  cases h4
  exact ⟨[p], nd, fun _ h => h, p, [], rfl, rfl, h3, .nil⟩) (ev_nil (δ := List δ))
/-- xss.append(own list of slot j) -/
theorem w_app2V {i j : Nat} {xs : List α} {xss : List (List α)} (hij : i ≠ j) (e : Γ[i]? = some (.o2 xss)) (e2 : Γ[j]? = some (.ol xs)) (hl : xss.length < 1000000) (k : P.nx ((Γ.set j .un).set i (.o2 (xss ++ [xs])))) : W c Γ (tDrop (tBM c.Z.K "list" rAppend (tVar i) (tCons (tVar j) tNil))) P := fun B R0 R H ρ Δ σ D S n r bb kk x => by
  obtain ⟨o1, h1, S1⟩ := sx_take S (i := i) e
  obtain ⟨o2, h2, S2⟩ := sx_take S1 (i := j) (by rw [List.getElem?_set_ne hij]; exact e2)
  obtain ⟨o1', f, g1, g2⟩ := sx_slot S e
  obtain ⟨o2', f2, g3, g4⟩ := sx_slot S e2
  obtain ⟨p, qs, _, eo, hp, _⟩ := g2
  obtain ⟨p2, vs2, _, eo2, hp2, _⟩ := g4
  rw [h1] at g1
  rw [h2] at g3
  cases g1
  cases g3
  subst eo eo2
  obtain ⟨vs, a1, a2, S3⟩ := sx_app2 S2
  rw [hp] at a1
  cases a1
  refine ⟨.ref p, h1, tyL hp, .ref p2, h2, p, _, .ref p2, rfl, rfl, hp, Nat.lt_of_lt_of_le (by omega : (qs.map V.ref).length < 1000000) (by decide), ?_⟩
  have S4 := sx_asg S3 i
  rw [set_same h1] at S4
  refine n R _ σ _ S4 ?_
  have : ((Γ.set i .un).set j .un).set i (.o2 (xss ++ [xs])) = (Γ.set j .un).set i (.o2 (xss ++ [xs])) := by
    rw [List.set_comm _ _ hij, List.set_set]
  rw [this]
  exact k
/-- xss.append(a new list) -/
theorem w_app2T {i : Nat} {xs : List α} {xss : List (List α)} (e : Γ[i]? = some (.o2 xss)) (h : Ev c Γ te (.ol xs)) (hl : xss.length < 1000000) (k : P.nx (Γ.set i (.o2 (xss ++ [xs])))) : W c Γ (tDrop (tBM c.Z.K "list" rAppend (tVar i) (tCons te tNil))) P := fun B R0 R H ρ Δ σ D S n r bb kk x => by
  obtain ⟨o1, f, g1, p, qs, _, eo, hp, _⟩ := sx_slot S e
  subst eo
  refine ⟨.ref p, g1, tyL hp, h B R0 R H ρ Δ σ S _ (fun w R1 H1 S1 => ?_) x⟩
  obtain ⟨o1', h1, S2⟩ := sx_take S1 (i := i) e
  rw [g1] at h1
  cases h1
  obtain ⟨vs, a1, a2, S3⟩ := sx_app2 (sx_swapTop' S2)
  have S4 := sx_asg S3 i
  rw [set_same g1, List.set_set] at S4
  exact ⟨p, vs, w, rfl, rfl, a1, Nat.lt_of_lt_of_le (by omega : vs.length < 1000000) (by decide), n R1 _ _ _ S4 k⟩
/-- over an own list, which stays -/
theorem w_forO {i j : Nat} {xs : List α} (I : Sl → Nat → List Sl → Prop) (e : Γ[i]? = some (.ol xs)) (h0 : ∀ s, I s 0 (Γ.set i s)) (hs : ∀ s k G (hk : k < xs.length), I s k G → W c (G.set j (.im xs[k])) t ⟨I s (k + 1), P.rt, fun _ => False, I s (k + 1)⟩)
    (hd : ∀ s G, I s xs.length G → G[i]? = some s ∧ P.nx (G.set i (.ol xs))) : W c Γ (tFor (iList c.Z.K (tVar i)) (gName j) t) P := fun B R0 R H ρ Δ σ D S n r bb kk x => by
  obtain ⟨o, h1, S1⟩ := sx_take S e
  obtain ⟨o', f, g1, p, vs0, _, eo, hp, _⟩ := sx_slot S e
  rw [h1] at g1
  cases g1
  subst eo
  -- the slot keeps the very value
  have At : ∃ s : Sl, (∀ Z R H o f, slok Z R H o s f → o = some (.ref p)) ∧ ∀ Z R H, slok Z R H (some (.ref p)) s [] :=
    ⟨.ow ⟨fun _ _ _ w => w = .ref p, fun _ h => h⟩, fun Z R H o f ⟨w, a, b, _⟩ => by rw [a, b], fun Z R H => ⟨_, rfl, rfl, fun q hq => by simp at hq⟩⟩
  obtain ⟨s, s1, s2⟩ := At
  have S2 : Sx c.Z B R0 R H (some (.ref p) :: ρ) (.ol xs :: Δ) σ (Γ.set i s) := by
    obtain ⟨hl, own, hs', es⟩ := S1
    have e' : (.ol xs :: Δ ++ Γ.set i .un)[(some (V.ref p) :: ρ).length + i]? = some .un := by
      rw [at_slot hl]
      rw [List.getElem?_set_self]
      exact (List.getElem?_eq_some_iff.mp e).1
    obtain ⟨o2, a1, f2, a2, b1, b2, b3, b4⟩ := es_at es e'
    rw [at_slot', h1] at b1
    cases b1
    have b3' : f2 = [] := b3
    subst b3'
    have q := b4 R H (some (.ref p)) s [] (Same.refl _) (fun _ _ => rfl) (s2 _ _ _)
    rw [set_same (by rw [at_slot']; exact h1), hl, List.set_append_right _ _ (by omega), show (Sl.ol xs :: Δ).length + i - (Sl.ol xs :: Δ).length = i by omega, List.set_set] at q
    exact ⟨hl, own, hs', by rw [b2]; exact q⟩
  refine ⟨.ref p, h1, p, rfl, ⟨vs0, SqL.of hp⟩, ?_⟩
  refine ⟨fun k m σ1 H1 => m = xs.length - k ∧ k ≤ xs.length ∧ ∃ R1 G, Sx c.Z B R0 R1 H1 (some (.ref p) :: ρ) (.ol xs :: Δ) σ1 G ∧ I s k G, ⟨xs.length, by simp, Nat.zero_le _, R, _, S2, h0 s⟩, ?_⟩
  rintro k m σ1 H1 ⟨rfl, hk, R1, G, S3, hI⟩
  obtain ⟨p', vs, e1, g2, g3, _⟩ := sx_mutTop S3
  cases e1
  have hl := Paired.length g3
  by_cases hlt : k < xs.length
  · obtain ⟨w, hw, rw'⟩ := paired_get g3 (i := k) (b := xs[k]) (List.getElem?_eq_getElem hlt)
    refine .inr ⟨⟨vs, w, SqL.of g2, hw⟩, fun σ' H' => ∃ R1 G, Sx c.Z B R0 R1 H' (some (.ref p) :: ρ) (.ol xs :: Δ) σ' G ∧ I s (k + 1) G, fun σ' H' h => ⟨xs.length - (k + 1), by omega, rfl, hlt, h⟩, ?_⟩
    rintro y H' ⟨rfl, hy⟩
    have := hy vs (SqL.of g2)
    rw [hw] at this
    cases this
    exact hs s k G hlt hI B R0 R1 H' _ _ _ _ (sx_asg (sx_push S3 rw') j) (fun R4 H4 σ4 Γ4 S4 q => ⟨R4, Γ4, S4, q⟩) (fun R4 H4 v s' S4 q => r R4 H4 v s' (sx_pop2 S4) q) (fun _ _ _ _ _ z => z.elim) (fun R4 H4 σ4 Γ4 S4 q => ⟨R4, Γ4, S4, q⟩) x.push1
  · have ek : k = xs.length := by omega
    subst ek
    obtain ⟨q1, q2⟩ := hd s G hI
    have S4 := sx_asg S3 i
    obtain ⟨o2, f2, q3, q4⟩ := sx_slot S3 q1
    rw [s1 _ _ _ _ _ q4] at q3
    rw [set_same q3] at S4
    exact .inl ⟨⟨vs, SqL.of g2, by omega⟩, n R1 H1 σ1 _ S4 q2⟩
end
end TB
namespace TB
open PySem L2
section
variable {c : Cn} {Γ : List Sl} {ta tb te tl ty : TE} {tt tc : TT} {t u : TS} {s s' so : Sl} {α β γ : Type} {_ : Rp α} {_ : Rp β} {_ : Rp γ} {P : Po} {d : α}
theorem ev_sortedO {xs : List Int} {k : Nat} (e : Γ[k]? = some (.ol xs)) : Ev c Γ (tCB (gSorted c.Z.K) (tCons (tVar k) tNil)) (.ol (isort xs)) := fun B R0 R H ρ Δ σ S Q q xk => by
  obtain ⟨p, vs, h2, h3, h4, _⟩ := sx_mutl S e
  have := paired_map_int h4
  subst this
  refine ⟨.ref p, h2, p, xs, rfl, SqL.of h3, fun ns' r pm pw np => ?_⟩
  have e : ns' = isort xs := PySem.W.os_sorted_mergeSort pm pw
  subst e
  exact q _ R _ (sx_newl S np (paired_of_int _))
theorem ev_tupF {x y : Int} (hx : Ev c Γ ta (.im x)) (hy : Ev c Γ tb (.im y)) : Ev c Γ (tTup (tCons ta (tCons tb tNil))) (.fo (some (x, y) : Option (Int × Int))) := fun B R0 R H ρ Δ σ S Q q xk => (ea_cons hx (ea_cons hy ea_nil)) B R0 R H ρ Δ σ S _ (fun vs R1 H1 S1 sl => by
  cases sl with
  | cons r1 t1 =>
    cases t1 with
    | cons r2 t2 =>
      cases t2
      rename_i v1 v2
      have e1 : v1 = .int x := r1
      have e2 : v2 = .int y := r2
      subst e1 e2
      refine ⟨by show 2 ≤ sizeLine; decide, fun p np => q _ R1 _ ?_⟩
      obtain ⟨hl, own, hs, es⟩ := S1
      obtain ⟨f1, f2, f3⟩ := fresh_own hs es np
      refine ⟨by simpa using hl, p :: own, ⟨hs.rh.trans (same_upd np), hs.bh.trans (same_upd np), hs.r0, hs.nw, fun b hb => ?_, List.nodup_cons.mpr ⟨f3, hs.nd⟩⟩, [p], own, rfl, ⟨_, rfl, ⟨p, _, _, rfl, by rw [res_in (by simp), upd_same], rfl, rfl⟩, fun b hb => ?_⟩, es_mono (Same.refl _) (fun b hb => upd_ne fun z => f3 (z ▸ hb)) es⟩
      · rcases List.mem_cons.mp hb with rfl | hb
        · exact ⟨f1, f2⟩
        · exact hs.ow b hb
      · have : b = p := by simpa using hb
        rw [this, upd_same]; simp) xk
theorem ev_noneF : Ev c Γ (tC .non) (.fo (none : Option α)) := ev_subS (s := .im (none : Option α)) (fun Z R H o f nd h => by
  obtain ⟨h1, v, h2, h3⟩ := h
  exact ⟨f, nd, fun _ h => h, v, h2, h3, fun p hp => by rw [h1] at hp; simp at hp⟩) ev_none
end
end TB

/-! TbCls: plain law: classes. -/
namespace TB
open PySem L2
section
variable {t : Tbl} {e : Int}
theorem bk_l (h : GTbl t e) {a : Int} (ha : InT t a) : en t a (bkf t e a) = e := (bk_first h ha).is.1
theorem bk_r (h : GTbl t e) {a : Int} (ha : InT t a) : en t (bkf t e a) a = e := (bk_first h ha).is.2
theorem bk_one (h : GTbl t e) {a b : Int} (ha : InT t a) (hb : InT t b) (q : en t a b = e) : bkf t e a = b := h.canL ha (bk_in h ha) hb ((bk_l h ha).trans q.symm)
theorem bk_mul (h : GTbl t e) {a b : Int} (ha : InT t a) (hb : InT t b) : bkf t e (en t a b) = en t (bkf t e b) (bkf t e a) := by
  have ia := bk_in h ha
  have ib := bk_in h hb
  refine bk_one h (h.cl ha hb) (h.cl ib ia) ?_
  rw [h.as ha hb (h.cl ib ia), ← h.as hb ib ia, bk_l h hb, h.u1 ia, bk_l h ha]
theorem cj_mul (h : GTbl t e) {x y a : Int} (hx : InT t x) (hy : InT t y) (ha : InT t a) : cj t e x (cj t e y a) = cj t e (en t x y) a := by
  unfold cj
  have iy := bk_in h hy
  have ix := bk_in h hx
  rw [bk_mul h hx hy, ← h.as hx (h.cl hy ha) iy, ← h.as hx hy ha, h.as (h.cl (h.cl hx hy) ha) iy ix]
theorem bk_unit (h : GTbl t e) : bkf t e e = e := bk_one h h.he h.he (h.u1 h.he)
theorem cj_unit (h : GTbl t e) {a : Int} (ha : InT t a) : cj t e e a = a := by
  unfold cj
  rw [bk_unit h, h.u1 ha, h.u2 ha]
def orb (t : Tbl) (e a : Int) : List Int := uset ((irange t.length).map fun o => cj t e o a)
theorem mem_orb {a z : Int} : z ∈ orb t e a ↔ ∃ o, InT t o ∧ cj t e o a = z := by
  unfold orb
  rw [mem_uset, List.mem_map]
  constructor
  · rintro ⟨o, h1, h2⟩
    exact ⟨o, mem_irange.mp h1, h2⟩
  · rintro ⟨o, h1, h2⟩
    exact ⟨o, mem_irange.mpr h1, h2⟩
theorem orb_in (h : GTbl t e) {a z : Int} (ha : InT t a) (hz : z ∈ orb t e a) : InT t z := by
  obtain ⟨o, h1, rfl⟩ := mem_orb.mp hz
  exact cj_in h h1 ha
theorem orb_self (h : GTbl t e) {a : Int} (ha : InT t a) : a ∈ orb t e a := mem_orb.mpr ⟨e, h.he, cj_unit h ha⟩
theorem orb_sym (h : GTbl t e) {a z : Int} (ha : InT t a) (hz : z ∈ orb t e a) : a ∈ orb t e z := by
  obtain ⟨o, h1, rfl⟩ := mem_orb.mp hz
  refine mem_orb.mpr ⟨bkf t e o, bk_in h h1, ?_⟩
  rw [cj_mul h (bk_in h h1) h1 ha, bk_r h h1, cj_unit h ha]
theorem orb_trans (h : GTbl t e) {a b z : Int} (ha : InT t a) (hb : b ∈ orb t e a) (hz : z ∈ orb t e b) : z ∈ orb t e a := by
  obtain ⟨o, h1, rfl⟩ := mem_orb.mp hb
  obtain ⟨p, h2, rfl⟩ := mem_orb.mp hz
  exact mem_orb.mpr ⟨en t p o, h.cl h2 h1, (cj_mul h h2 h1 ha).symm⟩
theorem orb_eq (h : GTbl t e) {a z : Int} (ha : InT t a) (hz : z ∈ orb t e a) : orb t e z = orb t e a :=
  inc_one (inc_uset _) (inc_uset _) fun x => ⟨fun q => orb_trans h ha hz q, fun q => orb_trans h (orb_in h ha hz) (orb_sym h ha hz) q⟩
theorem sins_len (x : Int) : ∀ l : List Int, (sins x l).length ≤ l.length + 1
  | [] => Nat.le_refl _
  | y :: r => by
    have := sins_len x r
    unfold sins
    split
    · simp
    · split <;> simp <;> omega
theorem uset_len (xs : List Int) : (uset xs).length ≤ xs.length := by
  unfold uset
  induction xs with
  | nil => exact Nat.le_refl _
  | cons x r ih =>
    have := sins_len x (r.foldr sins [])
    rw [List.foldr_cons, List.length_cons]
    omega
theorem orb_len {a : Int} : (orb t e a).length ≤ t.length := by
  unfold orb
  refine Nat.le_trans (uset_len _) ?_
  rw [List.length_map, irange_len]
  omega
/-- the classes found among the first things -/
def clsN (t : Tbl) (e : Int) : Nat → List (List Int)
  | 0 => []
  | i + 1 => if (i : Int) ∈ (clsN t e i).flatten then clsN t e i else clsN t e i ++ [orb t e (i : Int)]
def clsF (t : Tbl) (e : Int) : List (List Int) := clsN t e t.length
theorem inc_head {xs : List Int} {a : Int} (h : Inc xs) (ha : a ∈ xs) (lo : ∀ z ∈ xs, a ≤ z) : gt xs 0 = a := by
  cases xs with
  | nil => simp at ha
  | cons x r =>
    show x = a
    have h1 := lo x (by simp)
    rcases List.mem_cons.mp ha with q | q
    · exact q.symm
    · have := (List.pairwise_cons.mp h).1 a q
      omega
structure ClsI (t : Tbl) (e : Int) (i : Nat) (L : List (List Int)) : Prop where
  cov : ∀ x : Int, 0 ≤ x → x < i → x ∈ L.flatten
  orbs : ∀ l ∈ L, ∃ x : Int, InT t x ∧ l = orb t e x ∧ gt l 0 = x ∧ x < i
  heads : L.Pairwise fun a b => gt a 0 < gt b 0
  nd : L.flatten.Nodup
theorem clsI (h : GTbl t e) : ∀ i : Nat, i ≤ t.length → ClsI t e i (clsN t e i)
  | 0, _ => ⟨fun x a b => by omega, fun l hl => by simp [clsN] at hl, .nil, .nil⟩
  | i + 1, hi => by
    have ih := clsI h i (by omega)
    have hI : InT t (i : Int) := ⟨by omega, by omega⟩
    unfold clsN
    split
    · rename_i c
      refine ⟨fun x a b => ?_, fun l hl => ?_, ih.heads, ih.nd⟩
      · by_cases q : x = i
        · rw [q]; exact c
        · exact ih.cov x a (by omega)
      · obtain ⟨x, a, b, d, f⟩ := ih.orbs l hl
        exact ⟨x, a, b, d, by omega⟩
    · rename_i c
      have far : ∀ z ∈ orb t e (i : Int), z ∉ (clsN t e i).flatten := fun z hz hz2 => by
        obtain ⟨l, hl, hzl⟩ := List.mem_flatten.mp hz2
        obtain ⟨x, a, b, _, _⟩ := ih.orbs l hl
        rw [b] at hzl
        have e1 := orb_eq h a hzl
        have e2 := orb_sym h hI hz
        rw [e1, ← b] at e2
        exact c (List.mem_flatten.mpr ⟨l, hl, e2⟩)
      have lo : ∀ z ∈ orb t e (i : Int), (i : Int) ≤ z := fun z hz => by
        by_cases q : (i : Int) ≤ z
        · exact q
        · exact absurd (ih.cov z (orb_in h hI hz).1 (by omega)) (far z hz)
      have hd : gt (orb t e (i : Int)) 0 = i := inc_head (inc_uset _) (orb_self h hI) lo
      refine ⟨fun x a b => ?_, fun l hl => ?_, ?_, ?_⟩
      · rw [List.flatten_append, List.mem_append]
        by_cases q : x = i
        · rw [q]; exact .inr (by simpa using orb_self h hI)
        · exact .inl (ih.cov x a (by omega))
      · rcases List.mem_append.mp hl with q | q
        · obtain ⟨x, a, b, d, f⟩ := ih.orbs l q
          exact ⟨x, a, b, d, by omega⟩
        · have : l = orb t e (i : Int) := by simpa using q
          exact ⟨i, hI, this, by rw [this]; exact hd, by omega⟩
      · rw [List.pairwise_append]
        refine ⟨ih.heads, List.pairwise_singleton _ _, fun a ha b hb => ?_⟩
        have : b = orb t e (i : Int) := by simpa using hb
        obtain ⟨x, _, _, d, f⟩ := ih.orbs a ha
        rw [this, hd, d]
        exact f
      · rw [List.flatten_append, List.nodup_append]
        refine ⟨ih.nd, by simpa using (show (orb t e (i : Int)).Nodup from inc_nodup (inc_uset _)), fun a ha b hb q => ?_⟩
        have hb' : b ∈ orb t e (i : Int) := by simpa using hb
        exact far b hb' (q ▸ ha)
theorem clsF_I (h : GTbl t e) : ClsI t e t.length (clsF t e) := clsI h _ (Nat.le_refl _)
theorem clsN_len (t : Tbl) (e : Int) : ∀ i, (clsN t e i).length ≤ i
  | 0 => Nat.le_refl _
  | i + 1 => by
    have := clsN_len t e i
    unfold clsN
    split
    · omega
    · simp; omega
end
end TB

/-! ### classes -/
namespace TB
open PySem L2
--use TbCls
def T_classes : Tm := tm1 fun (g : Grp) ok _ => ∃ (t : Tbl) (e : Int), GTbl t e ∧ g = grpOf t e ∧ ok (.o2 (clsF t e))
def t_classes (Z : Zz) (X : WX) : TS :=
  (tSeq (tAsg (tLst tNil) (gName 1))
  (tSeq (tAsg tDNewK (gName 2))
  (tSeq (tFor (iRng1 (tCons (tFld Z.K (tVar 0) "many") tNil)) (gName 3)
  (tIfS (tTest (tOp (gNotIn Z.K) (tVar 3) (tVar 2)))
  (tSeq (tAsg (tSortedSet Z.K (tLc (iRng1 (tCons (tFld Z.K (tVar 0) "many") tNil)) (gName 6) tYes (tCall (spOf Z T_turned_by) [] E0 (tCons (tVar 0) (tCons (tVar 3) (tCons (tVar 6) tNil)))) [6])) (gName 4))
  (tSeq (tFor (iList Z.K (tVar 4)) (gName 5)
  (tAsg (tC (.bl true)) (gSub (tVar 2) (tVar 5) gSet)))
  (tDrop (tBM Z.K "list" rAppend (tVar 1) (tCons (tVar 4) tNil)))))
  tNext))
  (tRet (tVar 1)))))
theorem w_classes (Z : Zz) (X : WX) (ss : List Sl) (ok : Sl → Prop) (er : Rf → Prop) (h : T_classes ss ok er) : WF Z X er (ss ++ List.replicate (7 - ss.length) .un) (t_classes Z X) ok := by
  obtain ⟨g, rfl, t, e, hG, rfl, k⟩ := h
  show W _ [.im (grpOf t e), .un, .un, .un, .un, .un, .un] _ _
  unfold t_classes
  have hl := hG.sz.2.1
  refine w_seq (w_asg (ev_nil2 (δ := Int)) ?_)
  refine w_seq (w_asg (ev_dict (δ := Bool)) ?_)
  walk_at "nz"
  refine w_seq (w_forR (n := (t.length : Int)) (fun i G => ∃ (kvs : List (Int × Bool)) (s3 s4 s5 : Sl), G = [.im (grpOf t e), .o2 (clsN t e i), .od kvs, s3, s4, s5, .un] ∧ (∀ x : Int, (dget kvs x).isSome = decide (x ∈ (clsN t e i).flatten)) ∧ kvs.length ≤ 23 * i) (ev_many (g := grpOf t e) (ev_var rfl)) (by omega) (by omega) ⟨[], _, _, _, rfl, fun x => rfl, by simp⟩ ?_ ?_)
  · rintro i G hi ⟨kvs, s3, s4, s5, rfl, hk, hkl⟩
    walk_at "nz"
    have hI : InT t (i : Int) := ⟨by omega, hi⟩
    have hcl := clsN_len t e i
    refine w_if (b := !decide ((i : Int) ∈ (clsN t e i).flatten)) (et_test (ev_to (ev_notInD rfl (ev_var rfl)) (by rw [hk]))) (fun hb => ?_) (fun hb => w_next ⟨kvs, .im (i : Int), s4, s5, ?_⟩)
    · have hb' : ¬ (i : Int) ∈ (clsN t e i).flatten := by simpa using hb
      have hN : clsN t e (i + 1) = clsN t e i ++ [orb t e (i : Int)] := by rw [clsN, if_neg hb']
      rw [hN]
      refine w_seq (w_asg (s := .ol (orb t e (i : Int))) (ev_uset (ev_frI ?hh) (by rw [List.length_map, irange_len]; omega)) ?_)
      case hh =>
        refine ev_mapR (n := (t.length : Int)) (fun o => cj t e o (i : Int)) (ev_many (g := grpOf t e) (ev_var rfl)) (by omega) (by omega) (by simp) ⟨.inl rfl, trivial⟩ ?_
        intro o o0 o1
        exact ev_callN0 (ea_cons (ev_var rfl) (ea_cons (ev_var rfl) (ea_cons (ev_var rfl) ea_nil))) ⟨_, _, _, rfl, t, e, hG, rfl, hI, ⟨o0, o1⟩, rfl⟩
      walk_at "nz"
      have hol := orb_len (t := t) (e := e) (a := (i : Int))
      generalize orb t e (i : Int) = kin at hol ⊢
      refine w_seq (w_forO (xs := kin) (fun s n G => ∃ (kvs' : List (Int × Bool)) (s5 : Sl), G = [.im (grpOf t e), .o2 (clsN t e i), .od kvs', .im (i : Int), s, s5, .un] ∧ (∀ x : Int, (dget kvs' x).isSome = decide (x ∈ (clsN t e i).flatten ++ kin.take n)) ∧ kvs'.length ≤ 23 * i + n) rfl (fun s => ⟨kvs, s5, rfl, fun x => by rw [hk]; simp, by omega⟩) ?_ ?_)
      · rintro s n G hn ⟨kvs', s5, rfl, q1, q2⟩
        walk_at "nz"
        refine w_dset rfl ev_bl (ev_var rfl) (by omega) ⟨dput kvs' kin[n] true, .im kin[n], rfl, fun x => ?_, ?_⟩
        · rw [dget_put, take_snoc hn]
          by_cases c : x = kin[n]
          · rw [if_pos c, c]
            exact (decide_eq_true (by rw [List.mem_append, List.mem_append]; exact .inr (.inr (by simp)))).symm
          · rw [if_neg c, q1]
            exact decide_eq_decide.mpr (by simp only [List.mem_append, List.mem_singleton, c, or_false])
        · have := dput_len kvs' kin[n] true
          omega
      · rintro s G ⟨kvs', s5, rfl, q1, q2⟩
        refine ⟨rfl, ?_⟩
        walk_at "nz"
        refine w_app2V (by decide) rfl rfl (by omega) ⟨kvs', .im (i : Int), .un, s5, rfl, fun x => ?_, by omega⟩
        rw [q1, List.take_length, List.flatten_append]
        simp
    · have hb' : (i : Int) ∈ (clsN t e i).flatten := by simpa using hb
      rw [clsN, if_pos hb']
      exact ⟨rfl, hk, by omega⟩
  · rintro G ⟨kvs, s3, s4, s5, rfl, _, _⟩
    exact w_retO val_o2 rfl k
end TB

/-! ### look_at_size -/
namespace TB
open PySem L2
--use TbGrp
def T_look_at_size : Tm := tm1 fun (t : Tbl) ok er => (SizeOk t → ok (.im ())) ∧ (¬ SizeOk t → er ⟨.BadSize, []⟩)
def t_look_at_size (Z : Zz) (X : WX) : TS :=
  (tSeq (tIfS (tOr (tTest (tOp gLt (tCB (gLen Z.K) (tCons (tVar 0) tNil)) (tC (.int 1)))) (tTest (tOp gGt (tCB (gLen Z.K) (tCons (tVar 0) tNil)) (tC (.int 23)))))
  (tRaise0 (Z.cls .BadSize) X)
  tNext)
  (tFor (iList Z.K (tVar 0)) (gName 1)
  (tIfS (tTest (tOp (gNe Z.K) (tCB (gLen Z.K) (tCons (tVar 1) tNil)) (tCB (gLen Z.K) (tCons (tVar 0) tNil))))
  (tRaise0 (Z.cls .BadSize) X)
  tNext)))
theorem w_look_at_size (Z : Zz) (X : WX) (ss : List Sl) (ok : Sl → Prop) (er : Rf → Prop) (h : T_look_at_size ss ok er) : WF Z X er (ss ++ List.replicate (2 - ss.length) .un) (t_look_at_size Z X) ok := by
  obtain ⟨t, rfl, k1, k2⟩ := h
  show W _ [.im t, .un] _ _
  unfold t_look_at_size
  refine w_seq (w_if (by walk_at "ev") (fun hb => ?_) (fun hb => ?_))
  · refine w_raise0 _ (k2 fun z => ?_)
    simp at hb
    obtain ⟨z1, z2, _⟩ := z
    omega
  · refine w_next ?_
    simp at hb
    show W _ _ _ _
    refine w_forL (xs := t) (fun i G => ∃ s, G = [.im t, s] ∧ ∀ r ∈ t.take i, r.length = t.length) (by walk_at "ev") ⟨.un, rfl, by simp⟩ ?_ ?_
    · rintro i G hi ⟨s, rfl, hr⟩
      walk_at "nz"
      refine w_if (by walk_at "ev") (fun hc => ?_) (fun hc => ?_)
      · refine w_raise0 _ (k2 fun z => ?_)
        simp at hc
        exact hc (by rw [z.2.2 _ (List.getElem_mem hi)])
      · refine w_next ⟨_, rfl, fun r hr' => ?_⟩
        rw [take_snoc hi] at hr'
        rcases List.mem_append.mp hr' with q | q
        · exact hr r q
        · rw [List.mem_singleton.mp q]
          simp at hc
          omega
    · rintro G ⟨s, rfl, hr⟩
      rw [List.take_length] at hr
      refine k1 ⟨by omega, by omega, hr⟩
end TB

/-! ### look_for_strangers -/
namespace TB
open PySem L2
--use TbGrp
def T_look_for_strangers : Tm := tm1 fun (t : Tbl) ok er => (NoStg t → ok (.im ())) ∧ ∀ a b : Nat, FirstStg t a b → er ⟨.Stranger, [("column", .int b), ("row", .int a)]⟩
def t_look_for_strangers (Z : Zz) (X : WX) : TS :=
  (tFor (iEnum Z.K (tCons (tVar 0) tNil)) (gTup Z.K 2 (gCons (gName 1) (gCons (gName 2) gNil)))
  (tFor (iEnum Z.K (tCons (tVar 2) tNil)) (gTup Z.K 2 (gCons (gName 3) (gCons (gName 4) gNil)))
  (tIfS (tOr (tTest (tOp gLt (tVar 4) (tC (.int 0)))) (tTest (tOp gGe (tVar 4) (tCB (gLen Z.K) (tCons (tVar 0) tNil)))))
  (tRaiseN (Z.cls .Stranger) ["row", "column"] X (tCons (tVar 1) (tCons (tVar 3) tNil)))
  tNext)))
theorem w_look_for_strangers (Z : Zz) (X : WX) (ss : List Sl) (ok : Sl → Prop) (er : Rf → Prop) (h : T_look_for_strangers ss ok er) : WF Z X er (ss ++ List.replicate (5 - ss.length) .un) (t_look_for_strangers Z X) ok := by
  obtain ⟨t, rfl, k1, k2⟩ := h
  show W _ [.im t, .un, .un, .un, .un] _ _
  unfold t_look_for_strangers
  refine w_forE (xs := t) (fun i G => ∃ s1 s2 s3 s4, G = [.im t, s1, s2, s3, s4] ∧ ∀ a (h : a < t.length), a < i → ∀ x ∈ t[a], ¬ Stg t x) (by walk_at "ev") ⟨_, _, _, _, rfl, fun _ _ h => absurd h (Nat.not_lt_zero _)⟩ ?_ ?_
  · rintro i G hi ⟨s1, s2, s3, s4, rfl, hr⟩
    walk_at "nz"
    refine w_forE (xs := t[i]) (fun j G => ∃ s3 s4, G = [.im t, .im (i : Int), .im t[i], s3, s4] ∧ ∀ b (h : b < t[i].length), b < j → ¬ Stg t t[i][b]) (by walk_at "ev") ⟨_, _, rfl, fun _ _ h => absurd h (Nat.not_lt_zero _)⟩ ?_ ?_
    · rintro j G hj ⟨s3, s4, rfl, hq⟩
      walk_at "nz"
      refine w_if (by walk_at "ev") (fun hb => ?_) (fun hb => ?_)
      · refine w_raise2 (by walk_at "ev") (by walk_at "ev") (k2 i j ⟨hi, hj, ?_, fun a h ha => hr a h ha, fun b h hb => hq b h hb⟩)
        simp at hb
        exact hb
      · refine w_next ⟨_, _, rfl, fun b h hbj => ?_⟩
        rcases Nat.lt_succ_iff_lt_or_eq.mp hbj with q | q
        · exact hq b h q
        · subst q
          simp at hb
          intro z
          rcases z with z | z <;> omega
    · rintro G ⟨s3, s4, rfl, hq⟩
      refine ⟨_, _, _, _, rfl, fun a h ha x hx => ?_⟩
      rcases Nat.lt_succ_iff_lt_or_eq.mp ha with q | q
      · exact hr a h q x hx
      · subst q
        obtain ⟨b, hb, rfl⟩ := List.getElem_of_mem hx
        exact hq b hb hb
  · rintro G ⟨s1, s2, s3, s4, rfl, hr⟩
    refine k1 fun r hr' x hx => ?_
    obtain ⟨a, ha, rfl⟩ := List.getElem_of_mem hr'
    have := hr a ha ha x hx
    unfold Stg at this
    omega
end TB

/-! ### unit_of -/
namespace TB
open PySem L2
--use TbGrp
def T_unit_of : Tm := tm1 fun (t : Tbl) ok er => SizeOk t ∧ (∀ e : Int, 0 ≤ e → e < t.length → IsUnit t e → (∀ e', 0 ≤ e' → e' < e → ¬ IsUnit t e') → ok (.im e)) ∧ ((∀ e : Int, 0 ≤ e → e < t.length → ¬ IsUnit t e) → er ⟨.NoUnit, []⟩)
theorem isUnit_iff {t : Tbl} {e : Int} : (((irange (t.length : Int)).map fun a => (decide (gt (gt t e) a = a) && decide (gt (gt t a) e = a))).all id = true) ↔ IsUnit t e := by
  simp only [List.all_eq_true, List.mem_map, mem_irange, IsUnit, id]
  constructor
  · intro h a h0 h1
    have := h _ ⟨a, ⟨h0, h1⟩, rfl⟩
    simpa using this
  · rintro h x ⟨a, ⟨h0, h1⟩, rfl⟩
    simpa using h a h0 h1
theorem sz_row {t : Tbl} (h : SizeOk t) {a : Int} (h0 : 0 ≤ a) (h1 : a < t.length) : (gt t a).length = t.length := h.2.2 _ (gt_mem h0 h1)
def t_unit_of (Z : Zz) (X : WX) : TS :=
  (tSeq (tFor (iEnum Z.K (tCons (tVar 0) tNil)) (gTup Z.K 2 (gCons (gName 1) (gCons (gName 2) gNil)))
  (tIfS (tB (tCB (rAll Z.K) (tCons (tLc (iRng1 (tCons (tCB (gLen Z.K) (tCons (tVar 0) tNil)) tNil)) (gName 3) tYes (tAndV (tOp (gEq Z.K) (tOp (gIx Z.K) (tVar 2) (tVar 3)) (tVar 3)) (tOp (gEq Z.K) (tOp (gIx Z.K) (tOp (gIx Z.K) (tVar 0) (tVar 3)) (tVar 1)) (tVar 3))) [3]) tNil)))
  (tRet (tVar 1))
  tNext))
  (tRaise0 (Z.cls .NoUnit) X))
theorem w_unit_of (Z : Zz) (X : WX) (ss : List Sl) (ok : Sl → Prop) (er : Rf → Prop) (h : T_unit_of ss ok er) : WF Z X er (ss ++ List.replicate (4 - ss.length) .un) (t_unit_of Z X) ok := by
  obtain ⟨t, rfl, hs, k1, k2⟩ := h
  show W _ [.im t, .un, .un, .un] _ _
  unfold t_unit_of
  have hlen := hs.2.1
  refine w_seq (w_forE (xs := t) (fun i G => ∃ s1 s2, G = [.im t, s1, s2, .un] ∧ ∀ e : Int, 0 ≤ e → e < i → ¬ IsUnit t e) (by walk_at "ev") ⟨_, _, rfl, fun _ _ _ => by omega⟩ ?_ ?_)
  · rintro i G hi ⟨s1, s2, rfl, hr⟩
    walk_at "nz"
    have hri : t[i].length = t.length := hs.2.2 _ (List.getElem_mem hi)
    refine w_if (b := ((irange (t.length : Int)).map fun a => (decide (gt (gt t (i : Int)) a = a) && decide (gt (gt t a) (i : Int) = a))).all id) (et_B (ev_all rfl (ev_fr (ev_mapR (n := (t.length : Int)) (fun a => (decide (gt (gt t (i : Int)) a = a) && decide (gt (gt t a) (i : Int) = a))) (by walk_at "ev") (by omega) (by omega) (by simp) ⟨.inl rfl, trivial⟩ fun a h0 h1 => ?_)))) (fun hb => ?_) (fun hb => ?_)
    · have h2 := sz_row hs h0 h1
      rw [gt_get hi]
      walk_at "nz"
      walk_at "ev"
    · exact w_ret (by walk_at "ev") (k1 i (by omega) (by omega) (isUnit_iff.mp hb) hr)
    · refine w_next ⟨_, _, rfl, fun e h0 h1 => ?_⟩
      by_cases he : e = i
      · subst he
        intro z
        rw [isUnit_iff.mpr z] at hb
        cases hb
      · exact hr e h0 (by omega)
  · rintro G ⟨s1, s2, rfl, hr⟩
    exact w_raise0 _ (k2 hr)
end TB

/-! ### back_of -/
namespace TB
open PySem L2
--use TbGrp
def T_back_of : Tm := tm3 fun (t : Tbl) (u a : Int) ok er => SizeOk t ∧ InT t a ∧ (∀ b, FirstBack t u a b → ok (.im b)) ∧ ((∀ b, InT t b → ¬ IsBack t u a b) → er ⟨.NoBack, [("thing", .int a)]⟩)
def t_back_of (Z : Zz) (X : WX) : TS :=
  (tSeq (tFor (iRng1 (tCons (tCB (gLen Z.K) (tCons (tVar 0) tNil)) tNil)) (gName 3)
  (tIfS (tAnd (tTest (tOp (gEq Z.K) (tOp (gIx Z.K) (tOp (gIx Z.K) (tVar 0) (tVar 2)) (tVar 3)) (tVar 1))) (tTest (tOp (gEq Z.K) (tOp (gIx Z.K) (tOp (gIx Z.K) (tVar 0) (tVar 3)) (tVar 2)) (tVar 1))))
  (tRet (tVar 3))
  tNext))
  (tRaiseN (Z.cls .NoBack) ["thing"] X (tCons (tVar 2) tNil)))
theorem w_back_of (Z : Zz) (X : WX) (ss : List Sl) (ok : Sl → Prop) (er : Rf → Prop) (h : T_back_of ss ok er) : WF Z X er (ss ++ List.replicate (4 - ss.length) .un) (t_back_of Z X) ok := by
  obtain ⟨t, u, a, rfl, hs, ha, k1, k2⟩ := h
  show W _ [.im t, .im u, .im a, .un] _ _
  unfold t_back_of
  have hlen := hs.2.1
  obtain ⟨ha0, ha1⟩ := id ha
  have hra : (gt t a).length = t.length := hs.2.2 _ (gt_mem ha0 ha1)
  refine w_seq (w_forR (n := (t.length : Int)) (fun i G => ∃ s1, G = [.im t, .im u, .im a, s1] ∧ ∀ b : Int, 0 ≤ b → b < i → ¬ IsBack t u a b) (by walk_at "ev") (by omega) (by omega) ⟨_, rfl, fun _ _ _ => by omega⟩ ?_ ?_)
  · rintro i G hi ⟨s1, rfl, hr⟩
    walk_at "nz"
    have hri : (gt t (i : Int)).length = t.length := hs.2.2 _ (gt_mem (by omega) hi)
    refine w_if (by walk_at "ev") (fun hb => ?_) (fun hb => ?_)
    · simp at hb
      exact w_ret (by walk_at "ev") (k1 i ⟨by omega, hi, hb, hr⟩)
    · refine w_next ⟨_, rfl, fun b h0 h1 => ?_⟩
      by_cases he : b = i
      · subst he
        rintro ⟨z1, z2⟩
        simp [en] at hb z1 z2
        exact hb z1 z2
      · exact hr b h0 (by omega)
  · rintro G ⟨s1, rfl, hr⟩
    refine w_raise1 (by walk_at "ev") (k2 fun b hb => hr b hb.1 (by have := hb.2; omega))
end TB

/-! ### look_at_threes -/
namespace TB
open PySem L2
--use TbGrp
def T_look_at_threes : Tm := tm1 fun (t : Tbl) ok er => SizeOk t ∧ NoStg t ∧ (AllAsc t → ok (.im ())) ∧ ∀ a b c, FirstBad t a b c → er ⟨.NotTogether, [("three", .int c), ("two", .int b), ("one", .int a)]⟩
theorem en_in {t : Tbl} (hs : SizeOk t) (hn : NoStg t) {a b : Int} (ha : InT t a) (hb : InT t b) : InT t (en t a b) := by
  have h1 : (gt t a).length = t.length := hs.2.2 _ (gt_mem ha.1 ha.2)
  exact hn _ (gt_mem ha.1 ha.2) _ (gt_mem hb.1 (by rw [h1]; exact hb.2))
def t_look_at_threes (Z : Zz) (X : WX) : TS :=
  (tFor (iEnum Z.K (tCons (tVar 0) tNil)) (gTup Z.K 2 (gCons (gName 1) (gCons (gName 2) gNil)))
  (tFor (iEnum Z.K (tCons (tVar 2) tNil)) (gTup Z.K 2 (gCons (gName 3) (gCons (gName 4) gNil)))
  (tFor (iEnum Z.K (tCons (tOp (gIx Z.K) (tVar 0) (tVar 3)) tNil)) (gTup Z.K 2 (gCons (gName 5) (gCons (gName 6) gNil)))
  (tIfS (tTest (tOp (gNe Z.K) (tOp (gIx Z.K) (tOp (gIx Z.K) (tVar 0) (tVar 4)) (tVar 5)) (tOp (gIx Z.K) (tVar 2) (tVar 6))))
  (tRaiseN (Z.cls .NotTogether) ["one", "two", "three"] X (tCons (tVar 1) (tCons (tVar 3) (tCons (tVar 5) tNil))))
  tNext))))
theorem w_look_at_threes (Z : Zz) (X : WX) (ss : List Sl) (ok : Sl → Prop) (er : Rf → Prop) (h : T_look_at_threes ss ok er) : WF Z X er (ss ++ List.replicate (7 - ss.length) .un) (t_look_at_threes Z X) ok := by
  obtain ⟨t, rfl, hs, hn, k1, k2⟩ := h
  show W _ [.im t, .un, .un, .un, .un, .un, .un] _ _
  unfold t_look_at_threes
  have hlen := hs.2.1
  refine w_forE (xs := t) (fun i G => ∃ s1 s2 s3 s4 s5 s6, G = [.im t, s1, s2, s3, s4, s5, s6] ∧ ∀ a b c, InT t a → InT t b → InT t c → a < i → Asc t a b c) (by walk_at "ev") ⟨_, _, _, _, _, _, rfl, fun a b c h _ _ h2 => by have := h.1; omega⟩ ?_ ?_
  · rintro i G hi ⟨s1, s2, s3, s4, s5, s6, rfl, hr⟩
    have hI : InT t (i : Int) := ⟨by omega, by omega⟩
    have hri : t[i].length = t.length := hs.2.2 _ (List.getElem_mem hi)
    walk_at "nz"
    refine w_forE (xs := t[i]) (fun j G => ∃ s3 s4 s5 s6, G = [.im t, .im (i : Int), .im t[i], s3, s4, s5, s6] ∧ ∀ b c, InT t b → InT t c → b < j → Asc t i b c) (by walk_at "ev") ⟨_, _, _, _, rfl, fun b c h _ h2 => by have := h.1; omega⟩ ?_ ?_
    · rintro j G hj ⟨s3, s4, s5, s6, rfl, hq⟩
      have hJ : InT t (j : Int) := ⟨by omega, by omega⟩
      have hrj : (gt t (j : Int)).length = t.length := hs.2.2 _ (gt_mem hJ.1 hJ.2)
      have eij : t[i][j] = en t i j := by rw [en, gt_get hi, gt_get hj]
      have hij := en_in hs hn hI hJ
      have hrij : (gt t (en t i j)).length = t.length := hs.2.2 _ (gt_mem hij.1 hij.2)
      have hJ1 := hJ.1
      have hJ2 := hJ.2
      walk_at "nz"
      refine w_forE (xs := gt t (j : Int)) (fun k G => ∃ s5 s6, G = [.im t, .im (i : Int), .im t[i], .im (j : Int), .im t[i][j], s5, s6] ∧ ∀ c, InT t c → c < k → Asc t i j c) (by walk_at "ev") ⟨_, _, rfl, fun c h h2 => by have := h.1; omega⟩ ?_ ?_
      · rintro k G hk ⟨s5, s6, rfl, hw⟩
        have hK : InT t (k : Int) := ⟨by omega, by omega⟩
        have ejk : (gt t (j : Int))[k] = en t j k := by rw [en, gt_get hk]
        have hjk := en_in hs hn hJ hK
        have a1 := hij.1
        have a2 := hij.2
        have a3 := hjk.1
        have a4 := hjk.2
        have eti : t[i] = gt t (i : Int) := (gt_get hi).symm
        rw [eij, ejk]
        rw [eti] at hri ⊢
        walk_at "nz"
        refine w_if (by walk_at "ev") (fun hb => ?_) (fun hb => ?_)
        · simp at hb
          refine w_raise3 (by walk_at "ev") (by walk_at "ev") (by walk_at "ev") (k2 i j k ⟨hI, hJ, hK, hb, hr, hq, hw⟩)
        · simp at hb
          refine w_next ⟨_, _, rfl, fun c hc h1 => ?_⟩
          by_cases he : c = k
          · subst he; exact hb
          · exact hw c hc (by omega)
      · rintro G ⟨s5, s6, rfl, hw⟩
        refine ⟨_, _, _, _, rfl, fun b c hb hc h1 => ?_⟩
        by_cases he : b = j
        · subst he
          exact hw c hc (by have := hc.2; omega)
        · exact hq b c hb hc (by omega)
    · rintro G ⟨s3, s4, s5, s6, rfl, hq⟩
      refine ⟨_, _, _, _, _, _, rfl, fun a b c ha hb hc h1 => ?_⟩
      by_cases he : a = i
      · subst he
        exact hq b c hb hc (by have := hb.2; omega)
      · exact hr a b c ha hb hc (by omega)
  · rintro G ⟨s1, s2, s3, s4, s5, s6, rfl, hr⟩
    exact k1 fun a b c ha hb hc => hr a b c ha hb hc ha.2
end TB

/-! ### group_of -/
namespace TB
open PySem L2
--use TbGrp
--extra T.grpC
def T_group_of : Tm := tm1 fun (t : Tbl) ok er => (¬ SizeOk t → er ⟨.BadSize, []⟩) ∧ (SizeOk t → (∀ a b : Nat, FirstStg t a b → er ⟨.Stranger, [("column", .int b), ("row", .int a)]⟩) ∧
  (NoStg t → ((∀ e, InT t e → ¬ IsUnit t e) → er ⟨.NoUnit, []⟩) ∧ ∀ u, InT t u → IsUnit t u → (∀ a, InT t a → ∃ b, InT t b ∧ IsBack t u a b) ∧ (AllAsc t → ok (.fo (grpOf t u))) ∧
    ∀ a b c, FirstBad t a b c → er ⟨.NotTogether, [("three", .int c), ("two", .int b), ("one", .int a)]⟩))
theorem gof_ok {t : Tbl} {e : Int} (hG : GTbl t e) (er : Rf → Prop) : T_group_of ([.im t] ++ []) (fun s => s = .fo (grpOf t e)) er := by
  refine ⟨t, rfl, fun z => absurd hG.sz z, fun _ => ⟨fun a b fs => ?_, fun _ => ⟨fun z => absurd hG.un (z e hG.he), fun u hu hU => ⟨?_, fun _ => ?_, fun a b c fb => absurd (hG.asc a b c fb.ha fb.hb fb.hc) fb.bad⟩⟩⟩⟩
  · have := fs.bad
    have := hG.ns _ (List.getElem_mem fs.ha) _ (List.getElem_mem fs.hb)
    unfold Stg at *
    omega
  · have e' := unit_one hu hG.he hU hG.un
    subst e'
    exact hG.bk
  · have e' := unit_one hu hG.he hU hG.un
    subst e'
    rfl
def t_group_of (Z : Zz) (X : WX) : TS :=
  (tSeq (tDrop (tCallSD (spOf Z T_look_at_size) [] (WE X) (tCons (tVar 0) tNil)))
  (tSeq (tDrop (tCallSD (spOf Z T_look_for_strangers) [] (WE X) (tCons (tVar 0) tNil)))
  (tSeq (tAsg (tCallSD (spOf Z T_unit_of) [] (WE X) (tCons (tVar 0) tNil)) (gName 1))
  (tSeq (tAsg (tLc (iRng1 (tCons (tCB (gLen Z.K) (tCons (tVar 0) tNil)) tNil)) (gName 3) tYes (tCall (spOf Z T_back_of) [] E0 (tCons (tVar 0) (tCons (tVar 1) (tCons (tVar 3) tNil)))) [3]) (gName 2))
  (tSeq (tDrop (tCallSD (spOf Z T_look_at_threes) [] (WE X) (tCons (tVar 0) tNil)))
  (tRet (tMake (Z.cls .Group) (spI_Group Z) [] E0 (tCons (tLc (iList Z.K (tVar 0)) (gName 4) tYes (tCB (gList Z.K) (tCons (tVar 4) tNil)) [4]) (tCons (tVar 1) (tCons (tVar 2) tNil))))))))))
theorem w_group_of {Z : Zz} (hZ : GrpC Z) (X : WX) (ss : List Sl) (ok : Sl → Prop) (er : Rf → Prop) (h : T_group_of ss ok er) : WF Z X er (ss ++ List.replicate (5 - ss.length) .un) (t_group_of Z X) ok := by
  obtain ⟨t, rfl, k1, k2⟩ := h
  show W _ [.im t, .un, .un, .un, .un] _ _
  unfold t_group_of
  refine w_seq (w_dropS (S := fun _ => SizeOk t) (es_call (by walk_at "ev") ⟨t, rfl, fun h => h, k1⟩) fun _ hs => ?_)
  obtain ⟨k3, k4⟩ := k2 hs
  have hlen := hs.2.1
  refine w_seq (w_dropS (S := fun _ => NoStg t) (es_call (by walk_at "ev") ⟨t, rfl, fun h => h, k3⟩) fun _ hn => ?_)
  obtain ⟨k5, k6⟩ := k4 hn
  refine w_seq (w_asgS (S := fun s => ∃ u : Int, s = .im u ∧ InT t u ∧ IsUnit t u) (es_call (by walk_at "ev") ⟨t, rfl, hs, fun e h0 h1 hu _ => ⟨e, rfl, ⟨h0, h1⟩, hu⟩, fun h => k5 fun e he => h e he.1 he.2⟩) ?_)
  rintro _ ⟨u, rfl, hu, hU⟩
  obtain ⟨hb, k7, k8⟩ := k6 u hu hU
  show W _ [.im t, .im u, .un, .un, .un] _ _
  refine w_seq (w_asg (s := Sl.ol (α := Int) ((irange (t.length : Int)).map (bkf t u))) ?hh ?_)
  case hh =>
    refine ev_mapR (n := (t.length : Int)) (bkf t u) (by walk_at "ev") (by omega) (by omega) (by simp) ⟨.inl rfl, trivial⟩ ?_
    intro a h0 h1
    walk_at "nz"
    refine ev_callN0 (by walk_at "ev") ⟨t, u, a, rfl, hs, ⟨h0, h1⟩, fun b fb => ?_, fun h => ?_⟩
    · have fb2 := bkf_first (hb a ⟨h0, h1⟩)
      congr 1
      have e1 := fb.no
      have e2 := fb2.no
      rcases Int.lt_trichotomy b (bkf t u a) with q | q | q
      · exact absurd fb.is (e2 b fb.b0 q)
      · exact q
      · exact absurd fb2.is (e1 _ fb2.b0 q)
    · obtain ⟨b, h2, h3⟩ := hb a ⟨h0, h1⟩
      exact h b h2 h3
  · show W _ [.im t, .im u, .ol ((irange (t.length : Int)).map (bkf t u)), .un, .un] _ _
    refine w_seq (w_dropS (S := fun _ => AllAsc t) (es_call (by walk_at "ev") ⟨t, rfl, hs, hn, fun h => h, k8⟩) fun _ ha => ?_)
    exact w_retGroup (rows := t) (unit := u) (backs := (irange (t.length : Int)).map (bkf t u)) hZ (ev_copyT2 (ev_var rfl) (by omega) ⟨.inl rfl, trivial⟩ fun _ => rfl) rfl rfl (k7 ha)
end TB

/-! ### product -/
namespace TB
open PySem L2
--use TbGrp
theorem prod_snoc (g : Grp) (l : List Int) (x : Int) : prod g (l ++ [x]) = mul g (prod g l) x := by unfold prod; rw [List.foldl_append]; rfl
def T_product : Tm := tm2 fun (g : Grp) (l : List Int) ok _ => GrpOk g ∧ (∀ x ∈ l, Th g x) ∧ ok (.im (prod g l))
def t_product (Z : Zz) (X : WX) : TS :=
  (tSeq (tAsg (tFld Z.K (tVar 0) "unit") (gName 2))
  (tSeq (tFor (iList Z.K (tVar 1)) (gName 3)
  (tAsg (tOp (gIx Z.K) (tOp (gIx Z.K) (tFld Z.K (tVar 0) "rows") (tVar 2)) (tVar 3)) (gName 2)))
  (tRet (tVar 2))))
theorem w_product (Z : Zz) (X : WX) (ss : List Sl) (ok : Sl → Prop) (er : Rf → Prop) (h : T_product ss ok er) : WF Z X er (ss ++ List.replicate (4 - ss.length) .un) (t_product Z X) ok := by
  obtain ⟨g, l, rfl, o, hl, k⟩ := h
  show W _ [.im g, .im l, .un, .un] _ _
  unfold t_product
  walk_at "w"
  refine w_seq (w_forL (xs := l) (fun i G => ∃ s, G = [.im g, .im l, .im (prod g (l.take i)), s] ∧ Th g (prod g (l.take i))) (by walk_at "ev") ⟨.un, rfl, o.un⟩ ?_ ?_)
  · rintro i G hi ⟨s, rfl, ht⟩
    walk_at "nz"
    have hx := hl l[i] (by simp)
    rw [take_snoc hi, prod_snoc]
    have := o.row ht
    obtain ⟨h0, h1⟩ := ht
    obtain ⟨h2, h3⟩ := hx
    walk_at "w"
    exact ⟨_, rfl, o.mul ⟨h0, h1⟩ ⟨h2, h3⟩⟩
  · rintro G ⟨s, rfl, ht⟩
    rw [List.take_length]
    walk_at "w"
    exact k
end TB

/-! TbPart: plain law: parts, least parts, sides, ways out. -/
namespace TB
open PySem L2
/-- a rising part -/
structure PartL (t : Tbl) (e : Int) (P : List Int) : Prop where
  inc : Inc P
  pt : Part t e P
/-- what look_at_part asks -/
structure IsPart (t : Tbl) (P : List Int) : Prop where
  ne : P ≠ []
  inc : Inc P
  inn : ∀ x ∈ P, InT t x
  mul : ∀ x ∈ P, ∀ y ∈ P, en t x y ∈ P
section
variable {t : Tbl} {e : Int}
theorem pw_mem {P : List Int} {a : Int} (h1 : e ∈ P) (hm : ∀ x ∈ P, ∀ y ∈ P, en t x y ∈ P) (ha : a ∈ P) : ∀ k, pw t e a k ∈ P
  | 0 => h1
  | k + 1 => hm _ (pw_mem h1 hm ha k) _ ha
theorem bk_pw (h : GTbl t e) {a : Int} (ha : InT t a) : bkf t e a = pw t e a (t.length - 1) := by
  refine bk_one h ha (pw_in h ha _) ?_
  have q := pw_add h ha 1 (t.length - 1)
  rw [show 1 + (t.length - 1) = t.length by have := h.sz.1; omega, pw_len h ha] at q
  have : pw t e a 1 = a := by show en t e a = a; exact h.u1 ha
  rw [this] at q
  exact q.symm
theorem IsPart.one (h : GTbl t e) {P : List Int} (p : IsPart t P) : e ∈ P := by
  obtain ⟨a, ha⟩ := List.exists_mem_of_ne_nil P p.ne
  have key : ∀ k, 0 < k → pw t e a k ∈ P := fun k => by
    induction k with
    | zero => intro z; omega
    | succ k ih =>
      intro _
      by_cases c : k = 0
      · subst c
        show en t e a ∈ P
        rw [h.u1 (p.inn a ha)]
        exact ha
      · exact p.mul _ (ih (by omega)) _ ha
  have := key t.length h.sz.1
  rw [pw_len h (p.inn a ha)] at this
  exact this
theorem IsPart.partL (h : GTbl t e) {P : List Int} (p : IsPart t P) : PartL t e P := by
  refine ⟨p.inc, inc_nodup p.inc, p.inn, p.one h, p.mul, fun x hx => ?_⟩
  have hi := p.inn x hx
  refine ⟨bkf t e x, ?_, bk_l h hi, bk_r h hi⟩
  rw [bk_pw h hi]
  exact pw_mem (p.one h) p.mul hx _
theorem PartL.isPart {P : List Int} (p : PartL t e P) : IsPart t P := ⟨fun z => by have := p.pt.one; rw [z] at this; simp at this, p.inc, p.pt.inn, p.pt.mul⟩
theorem PartL.bk (h : GTbl t e) {P : List Int} (p : PartL t e P) {x : Int} (hx : x ∈ P) : bkf t e x ∈ P := by
  obtain ⟨y, hy, q, _⟩ := p.pt.bk x hx
  rw [bk_one h (p.pt.inn x hx) (p.pt.inn y hy) q]
  exact hy
theorem PartL.len {P : List Int} (p : PartL t e P) : P.length ≤ t.length := by
  have := nodup_le (B := irange t.length) p.pt.nd fun x hx => mem_irange.mpr (p.pt.inn x hx)
  rw [irange_len] at this
  omega
/-! ### least parts -/
inductive Reach (t : Tbl) (e : Int) (some : List Int) : Int → Prop
  | one : Reach t e some e
  | step {x y : Int} : Reach t e some x → y ∈ some → Reach t e some (en t x y)
noncomputable def clo (t : Tbl) (e : Int) (some : List Int) : List Int := (irange t.length).filter fun x => @decide (Reach t e some x) (Classical.propDecidable _)
theorem reach_in (h : GTbl t e) {some : List Int} (hs : ∀ y ∈ some, InT t y) {x : Int} (r : Reach t e some x) : InT t x := by
  induction r with
  | one => exact h.he
  | step _ hy ih => exact h.cl ih (hs _ hy)
theorem mem_clo (h : GTbl t e) {some : List Int} (hs : ∀ y ∈ some, InT t y) {x : Int} : x ∈ clo t e some ↔ Reach t e some x := by
  unfold clo
  rw [List.mem_filter]
  constructor
  · rintro ⟨_, q⟩
    exact @of_decide_eq_true _ (Classical.propDecidable _) q
  · intro q
    exact ⟨mem_irange.mpr (reach_in h hs q), @decide_eq_true _ (Classical.propDecidable _) q⟩
theorem inc_clo (some : List Int) : Inc (clo t e some) := (inc_irange _).filter _
theorem reach_mul (h : GTbl t e) {some : List Int} (hs : ∀ y ∈ some, InT t y) {x y : Int} (rx : Reach t e some x) (ry : Reach t e some y) : Reach t e some (en t x y) := by
  have hx := reach_in h hs rx
  induction ry with
  | one => rw [h.u2 hx]; exact rx
  | step r hy ih =>
    rw [← h.as hx (reach_in h hs r) (hs _ hy)]
    exact .step ih hy
theorem reach_some (h : GTbl t e) {some : List Int} (hs : ∀ y ∈ some, InT t y) {y : Int} (hy : y ∈ some) : Reach t e some y := by
  have := Reach.step (.one (t := t) (e := e) (some := some)) hy
  rw [h.u1 (hs y hy)] at this
  exact this
theorem clo_part (h : GTbl t e) {some : List Int} (hs : ∀ y ∈ some, InT t y) : PartL t e (clo t e some) :=
  IsPart.partL h ⟨fun z => by have := (mem_clo h hs).mpr .one; rw [z] at this; simp at this, inc_clo some, fun x hx => reach_in h hs ((mem_clo h hs).mp hx), fun x hx y hy => (mem_clo h hs).mpr (reach_mul h hs ((mem_clo h hs).mp hx) ((mem_clo h hs).mp hy))⟩
/-- a list with all products by some things holds all that they reach -/
theorem reach_sub {some R : List Int} (h1 : e ∈ R) (hc : ∀ x ∈ R, ∀ y ∈ some, en t x y ∈ R) {x : Int} (r : Reach t e some x) : x ∈ R := by
  induction r with
  | one => exact h1
  | step _ hy ih => exact hc _ ih _ hy
theorem clo_is (h : GTbl t e) {some R : List Int} (hs : ∀ y ∈ some, InT t y) (nd : R.Nodup) (h1 : e ∈ R) (hr : ∀ x ∈ R, Reach t e some x) (hc : ∀ x ∈ R, ∀ y ∈ some, en t x y ∈ R) : isort R = clo t e some :=
  isort_eq nd (inc_clo some) fun z => ⟨fun q => (mem_clo h hs).mpr (hr z q), fun q => reach_sub h1 hc ((mem_clo h hs).mp q)⟩
theorem clo_congr (h : GTbl t e) {some some' : List Int} (hs : ∀ y ∈ some, InT t y) (hs' : ∀ y ∈ some', InT t y) (h1 : ∀ y, y ∈ some ↔ y ∈ some') : clo t e some = clo t e some' := by
  refine inc_one (inc_clo _) (inc_clo _) fun z => ?_
  rw [mem_clo h hs, mem_clo h hs']
  constructor
  · intro r
    induction r with
    | one => exact .one
    | step _ hy ih => exact .step ih ((h1 _).mp hy)
  · intro r
    induction r with
    | one => exact .one
    | step _ hy ih => exact .step ih ((h1 _).mpr hy)
/-! ### things told apart by lists -/
/-- each thing's list: rising, with it, the same for all its things -/
structure Eqv (t : Tbl) (F : Int → List Int) : Prop where
  inc : ∀ a, InT t a → Inc (F a)
  self : ∀ a, InT t a → a ∈ F a
  inn : ∀ a, InT t a → ∀ z ∈ F a, InT t z
  eq : ∀ a, InT t a → ∀ z ∈ F a, F z = F a
def kinN (F : Int → List Int) : Nat → List (List Int)
  | 0 => []
  | i + 1 => if (i : Int) ∈ (kinN F i).flatten then kinN F i else kinN F i ++ [F (i : Int)]
structure KinI (t : Tbl) (F : Int → List Int) (i : Nat) (L : List (List Int)) : Prop where
  cov : ∀ x : Int, 0 ≤ x → x < i → x ∈ L.flatten
  orbs : ∀ l ∈ L, ∃ x : Int, InT t x ∧ l = F x ∧ gt l 0 = x ∧ x < i
  heads : L.Pairwise fun a b => gt a 0 < gt b 0
  nd : L.flatten.Nodup
theorem kinI {F : Int → List Int} (h : Eqv t F) : ∀ i : Nat, i ≤ t.length → KinI t F i (kinN F i)
  | 0, _ => ⟨fun x a b => by omega, fun l hl => by simp [kinN] at hl, .nil, .nil⟩
  | i + 1, hi => by
    have ih := kinI h i (by omega)
    have hI : InT t (i : Int) := ⟨by omega, by omega⟩
    unfold kinN
    split
    · rename_i c
      refine ⟨fun x a b => ?_, fun l hl => ?_, ih.heads, ih.nd⟩
      · by_cases q : x = i
        · rw [q]; exact c
        · exact ih.cov x a (by omega)
      · obtain ⟨x, a, b, d, f⟩ := ih.orbs l hl
        exact ⟨x, a, b, d, by omega⟩
    · rename_i c
      have far : ∀ z ∈ F (i : Int), z ∉ (kinN F i).flatten := fun z hz hz2 => by
        obtain ⟨l, hl, hzl⟩ := List.mem_flatten.mp hz2
        obtain ⟨x, a, b, _, _⟩ := ih.orbs l hl
        rw [b] at hzl
        have e1 := h.eq x a z hzl
        have e2 := h.eq i hI z hz
        have e3 := h.self i hI
        rw [← e2, e1, ← b] at e3
        exact c (List.mem_flatten.mpr ⟨l, hl, e3⟩)
      have lo : ∀ z ∈ F (i : Int), (i : Int) ≤ z := fun z hz => by
        by_cases q : (i : Int) ≤ z
        · exact q
        · exact absurd (ih.cov z (h.inn i hI z hz).1 (by omega)) (far z hz)
      have hd : gt (F (i : Int)) 0 = i := inc_head (h.inc i hI) (h.self i hI) lo
      refine ⟨fun x a b => ?_, fun l hl => ?_, ?_, ?_⟩
      · rw [List.flatten_append, List.mem_append]
        by_cases q : x = i
        · rw [q]; exact .inr (by simpa using h.self i hI)
        · exact .inl (ih.cov x a (by omega))
      · rcases List.mem_append.mp hl with q | q
        · obtain ⟨x, a, b, d, f⟩ := ih.orbs l q
          exact ⟨x, a, b, d, by omega⟩
        · have : l = F (i : Int) := by simpa using q
          exact ⟨i, hI, this, by rw [this]; exact hd, by omega⟩
      · rw [List.pairwise_append]
        refine ⟨ih.heads, List.pairwise_singleton _ _, fun a ha b hb => ?_⟩
        have : b = F (i : Int) := by simpa using hb
        obtain ⟨x, _, _, d, f⟩ := ih.orbs a ha
        rw [this, hd, d]
        exact f
      · rw [List.flatten_append, List.nodup_append]
        refine ⟨ih.nd, by simpa using inc_nodup (h.inc i hI), fun a ha b hb q => ?_⟩
        have hb' : b ∈ F (i : Int) := by simpa using hb
        exact far b hb' (q ▸ ha)
theorem kinN_len (F : Int → List Int) : ∀ i, (kinN F i).length ≤ i
  | 0 => Nat.le_refl _
  | i + 1 => by
    have := kinN_len F i
    unfold kinN
    split
    · omega
    · simp; omega
theorem kin_mem {F : Int → List Int} (h : Eqv t F) (x : Int) : x ∈ (kinN F t.length).flatten ↔ x ∈ irange t.length := by
  have I := kinI h t.length (Nat.le_refl _)
  constructor
  · intro q
    obtain ⟨l, hl, hx⟩ := List.mem_flatten.mp q
    obtain ⟨y, a, b, _, _⟩ := I.orbs l hl
    rw [b] at hx
    exact mem_irange.mpr (h.inn y a x hx)
  · intro q
    have := mem_irange.mp q
    exact I.cov x this.1 this.2
/-! ### sides -/
def sid (t : Tbl) (P : List Int) (x : Int) : List Int := isort (P.map fun h => gt (gt t x) h)
theorem mem_sid {P : List Int} {x z : Int} : z ∈ sid t P x ↔ ∃ h ∈ P, en t x h = z := by
  unfold sid
  rw [(isort_perm _).mem_iff, List.mem_map]
theorem sid_len {P : List Int} {x : Int} : (sid t P x).length = P.length := by
  unfold sid
  rw [(isort_perm _).length_eq, List.length_map]
theorem sid_eqv (h : GTbl t e) {P : List Int} (p : PartL t e P) : Eqv t (sid t P) := by
  have inc : ∀ a, InT t a → Inc (sid t P a) := fun a ha => by
    refine isort_inc ?_
    rw [List.Nodup, List.pairwise_map]
    exact p.pt.nd.imp_of_mem fun {x y} hx hy ne q => ne (h.canL ha (p.pt.inn x hx) (p.pt.inn y hy) q)
  have inn : ∀ a, InT t a → ∀ z ∈ sid t P a, InT t z := fun a ha z hz => by
    obtain ⟨y, hy, rfl⟩ := mem_sid.mp hz
    exact h.cl ha (p.pt.inn y hy)
  refine ⟨inc, fun a ha => mem_sid.mpr ⟨e, p.pt.one, h.u2 ha⟩, inn, fun a ha z hz => ?_⟩
  obtain ⟨y, hy, rfl⟩ := mem_sid.mp hz
  have iy := p.pt.inn y hy
  refine inc_one (inc _ (inn a ha _ hz)) (inc a ha) fun w => ?_
  rw [mem_sid, mem_sid]
  constructor
  · rintro ⟨v, hv, rfl⟩
    exact ⟨en t y v, p.pt.mul y hy v hv, (h.as ha iy (p.pt.inn v hv)).symm⟩
  · rintro ⟨v, hv, rfl⟩
    have by' := p.bk h hy
    refine ⟨en t (bkf t e y) v, p.pt.mul _ by' v hv, ?_⟩
    rw [h.as ha iy (h.cl (p.pt.inn _ by') (p.pt.inn v hv)), ← h.as iy (p.pt.inn _ by') (p.pt.inn v hv), bk_l h iy, h.u1 (p.pt.inn v hv)]
/-- what leads back the carrier of a thing's side -/
theorem sid_back (h : GTbl t e) {P : List Int} (p : PartL t e P) {x z : Int} (hx : InT t x) (hz : z ∈ sid t P x) : en t (bkf t e x) z ∈ P := by
  obtain ⟨y, hy, rfl⟩ := mem_sid.mp hz
  rw [← h.as (bk_in h hx) hx (p.pt.inn y hy), bk_r h hx, h.u1 (p.pt.inn y hy)]
  exact hy
/-! ### ways out -/
def woF (t : Tbl) (e : Int) (P : List Int) : Option (Int × Int) := (irange t.length).findSome? fun o => (P.find? fun h => !decide (cj t e o h ∈ P)).map fun h => (o, h)
theorem irange_cut {n : Int} {i : Int} (h0 : 0 ≤ i) (h1 : i < n) : ∃ r, irange n = irange i ++ i :: r := by
  refine ⟨(irange n).drop (i.toNat + 1), ?_⟩
  have hl : i.toNat < (irange n).length := by rw [irange_len]; omega
  have e1 : (irange n).take i.toNat = irange i := by
    refine List.ext_getElem (by simp [irange_len]; omega) fun k a b => ?_
    rw [List.getElem_take, irange_get, irange_get]
  have e2 : (irange n)[i.toNat] = i := by rw [irange_get]; omega
  conv => lhs; rw [← List.take_append_drop i.toNat (irange n), e1, List.drop_eq_getElem_cons hl, e2]
theorem find_none {α : Type} {p : α → Bool} {l : List α} (h : ∀ x ∈ l, p x = false) : l.find? p = none := by
  rw [List.find?_eq_none]
  intro x hx
  rw [h x hx]
  decide
theorem woF_none {P : List Int} (h : ∀ o, InT t o → ∀ x ∈ P, cj t e o x ∈ P) : woF t e P = none := by
  unfold woF
  rw [List.findSome?_eq_none_iff]
  intro o ho
  rw [find_none fun x hx => by simpa using h o (mem_irange.mp ho) x hx]
  rfl
theorem woF_some {P : List Int} {o : Int} {k : Nat} (hk : k < P.length) (ho : InT t o) (h1 : ∀ a, 0 ≤ a → a < o → ∀ x ∈ P, cj t e a x ∈ P) (h2 : ∀ x ∈ P.take k, cj t e o x ∈ P) (h3 : cj t e o P[k] ∉ P) : woF t e P = some (o, P[k]) := by
  obtain ⟨r, er⟩ := irange_cut ho.1 ho.2
  unfold woF
  rw [er, List.findSome?_append, List.findSome?_eq_none_iff.mpr, Option.none_or, List.findSome?_cons]
  · have : P.find? (fun h => !decide (cj t e o h ∈ P)) = some P[k] := by
      have eP : P = P.take k ++ P[k] :: P.drop (k + 1) := by
        conv => lhs; rw [← List.take_append_drop k P, List.drop_eq_getElem_cons hk]
      have q : ∀ Q : Int → Bool, (∀ x ∈ P.take k, Q x = false) → Q P[k] = true → P.find? Q = some P[k] := fun Q a b => by
        have : (P.take k ++ P[k] :: P.drop (k + 1)).find? Q = some P[k] := by
          rw [List.find?_append, find_none a, Option.none_or, List.find?_cons, b]
        rw [← eP] at this
        exact this
      exact q _ (fun x hx => by simpa using h2 x hx) (by simpa using h3)
    rw [this]
    rfl
  · intro a ha
    have := mem_irange.mp ha
    rw [find_none fun x hx => by simpa using h1 a this.1 this.2 x hx]
    rfl
end
end TB

/-! ### look_at_part -/
namespace TB
open PySem L2
--use TbPart
def T_look_at_part : Tm := tm2 fun (g : Grp) (P : List Int) ok er => ∃ (t : Tbl) (e : Int), GTbl t e ∧ g = grpOf t e ∧ P.length ≤ 100000 ∧ (IsPart t P → ok (.im ())) ∧ (¬ IsPart t P → er ⟨.NoPart, []⟩)
def t_look_at_part (Z : Zz) (X : WX) : TS :=
  (tSeq (tIfS (tTest (tOp (gEq Z.K) (tCB (gLen Z.K) (tCons (tVar 1) tNil)) (tC (.int 0))))
  (tRaise0 (Z.cls .NoPart) X)
  tNext)
  (tSeq (tAsg tDNewK (gName 2))
  (tSeq (tAsg (tUn uNeg (tC (.int 1))) (gName 3))
  (tSeq (tFor (iList Z.K (tVar 1)) (gName 4)
  (tSeq (tIfS (tOr (tTest (tOp gLe (tVar 4) (tVar 3))) (tTest (tOp gGe (tVar 4) (tFld Z.K (tVar 0) "many"))))
  (tRaise0 (Z.cls .NoPart) X)
  tNext)
  (tSeq (tAsg (tC (.bl true)) (gSub (tVar 2) (tVar 4) gSet))
  (tAsg (tVar 4) (gName 3)))))
  (tFor (iList Z.K (tVar 1)) (gName 5)
  (tFor (iList Z.K (tVar 1)) (gName 6)
  (tIfS (tTest (tOp (gNotIn Z.K) (tOp (gIx Z.K) (tOp (gIx Z.K) (tFld Z.K (tVar 0) "rows") (tVar 5)) (tVar 6)) (tVar 2)))
  (tRaise0 (Z.cls .NoPart) X)
  tNext)))))))
theorem w_look_at_part (Z : Zz) (X : WX) (ss : List Sl) (ok : Sl → Prop) (er : Rf → Prop) (h : T_look_at_part ss ok er) : WF Z X er (ss ++ List.replicate (7 - ss.length) .un) (t_look_at_part Z X) ok := by
  obtain ⟨g, P, rfl, t, e, hG, rfl, hPl, k, ke⟩ := h
  show W _ [.im (grpOf t e), .im P, .un, .un, .un, .un, .un] _ _
  unfold t_look_at_part
  have hl := hG.sz.2.1
  refine w_seq (w_if (b := decide (P = [])) (et_to (et_test (ev_eqI (ev_len (ev_var rfl)) ev_int)) (by cases P <;> simp; omega)) (fun hb => ?_) (fun hb => w_next ?_))
  · have hb' : P = [] := by simpa using hb
    exact w_raise0 .NoPart (ke fun z => z.ne hb')
  have hne : P ≠ [] := by simpa using hb
  refine w_seq (w_asg (ev_dict (δ := Bool)) ?_)
  refine w_seq (w_asg (ev_neg ev_int) ?_)
  walk_at "nz"
  refine w_seq (w_forL (xs := P) (fun i G => ∃ (kvs : List (Int × Bool)) (last : Int) (s4 : Sl), G = [.im (grpOf t e), .im P, .od kvs, .im last, s4, .un, .un] ∧ (∀ x : Int, (dget kvs x).isSome = decide (x ∈ P.take i)) ∧ kvs.length ≤ i ∧ Inc (P.take i) ∧ (∀ x ∈ P.take i, InT t x ∧ x ≤ last) ∧ (-1 ≤ last) ∧ (i = 0 → last = -1) ∧ (0 < i → last ∈ P.take i)) (ev_var rfl) ⟨[], _, _, rfl, fun x => by simp [dget_nil], by simp, .nil, fun x hx => by simp at hx, by omega, fun _ => rfl, fun z => by omega⟩ ?_ ?_)
  · rintro i G hi ⟨kvs, last, s4, rfl, hk, hkl, hinc, hin, hlast, hl0, hmem⟩
    walk_at "nz"
    have htk : P.take (i + 1) = P.take i ++ [P[i]] := take_snoc hi
    have hxP : P[i] ∈ P := List.getElem_mem hi
    have hpre : ∀ x ∈ P.take i, x ∈ P := fun x hx => List.mem_of_mem_take hx
    have pw : IsPart t P → ∀ x ∈ P.take i, x < P[i] := fun z x hx => by
      obtain ⟨j, hj, rfl⟩ := List.getElem_of_mem hx
      rw [List.getElem_take]
      exact List.pairwise_iff_getElem.mp z.inc j i (by simp at hj; omega) hi (by simp at hj; omega)
    rw [htk]
    generalize P[i] = x at hxP pw ⊢
    refine w_seq (w_if (b := decide (x ≤ last) || decide ((t.length : Int) ≤ x)) (et_or (et_test (ev_le (ev_var rfl) (ev_var rfl))) fun _ => et_test (ev_ge (ev_var rfl) (ev_many (g := grpOf t e) (ev_var rfl)))) (fun hb => ?_) (fun hb => w_next ?_))
    · have hb' : x ≤ last ∨ (t.length : Int) ≤ x := by simpa using hb
      refine w_raise0 .NoPart (ke fun z => ?_)
      have hx := z.inn x hxP
      rcases hb' with q | q
      · by_cases c : 0 < i
        · have := pw z _ (hmem c)
          omega
        · have h0 : i = 0 := by omega
          subst h0
          have := hx.1
          have := hl0 rfl
          omega
      · have := hx.2; omega
    · have hb' : last < x ∧ x < (t.length : Int) := by simpa using hb
      have hx : InT t x := ⟨by omega, hb'.2⟩
      refine w_seq (w_dset rfl ev_bl (ev_var rfl) (by omega) ?_)
      walk_at "nz"
      refine w_asg (ev_var rfl) ⟨dput kvs x true, x, _, rfl, fun y => ?_, ?_, ?_, fun y hy => ?_, by omega, fun z => by omega, fun _ => by simp⟩
      · rw [dget_put]
        by_cases c : y = x
        · rw [if_pos c, c]
          exact (decide_eq_true (by rw [List.mem_append]; exact .inr (by simp))).symm
        · rw [if_neg c, hk]
          exact decide_eq_decide.mpr (by simp only [List.mem_append, List.mem_singleton, c, or_false])
      · have := dput_len kvs x true
        omega
      · refine List.pairwise_append.mpr ⟨hinc, List.pairwise_singleton _ _, fun a ha b hb2 => ?_⟩
        have : b = x := by simpa using hb2
        have := (hin a ha).2
        omega
      · rcases List.mem_append.mp hy with q | q
        · have := hin y q
          exact ⟨this.1, by omega⟩
        · have : y = x := by simpa using q
          rw [this]
          exact ⟨hx, by omega⟩
  rintro G ⟨kvs, last, s4, rfl, hk, hkl, hinc, hin, _, _, _⟩
  rw [List.take_length] at hinc hin
  have hk : ∀ x : Int, (dget kvs x).isSome = decide (x ∈ P) := fun x => by rw [hk, List.take_length]
  have hin : ∀ x ∈ P, InT t x := fun x hx => (hin x hx).1
  refine w_forL (xs := P) (fun i G => ∃ s5 s6 : Sl, G = [.im (grpOf t e), .im P, .od kvs, .im last, s4, s5, s6] ∧ ∀ x ∈ P.take i, ∀ y ∈ P, en t x y ∈ P) (ev_var rfl) ⟨_, _, rfl, fun x hx => by simp at hx⟩ ?_ ?_
  · rintro i G hi ⟨s5, s6, rfl, hc⟩
    walk_at "nz"
    have hx := hin _ (List.getElem_mem hi)
    refine w_forL (xs := P) (fun j G => ∃ s6 : Sl, G = [.im (grpOf t e), .im P, .od kvs, .im last, s4, .im P[i], s6] ∧ ∀ y ∈ P.take j, en t P[i] y ∈ P) (ev_var rfl) ⟨_, rfl, fun x hx => by simp at hx⟩ ?_ ?_
    · rintro j G hj ⟨s6, rfl, hd⟩
      walk_at "nz"
      have hy := hin _ (List.getElem_mem hj)
      refine w_if (b := !decide (en t P[i] P[j] ∈ P)) (et_test (ev_to (ev_notInD rfl (ev_ix (ev_ix (xs := t) (ev_rows (g := grpOf t e) (ev_var rfl)) (ev_var rfl) hx.1 hx.2) (ev_var rfl) hy.1 (by rw [hG.row hx]; exact hy.2))) (by rw [hk]))) (fun hb => ?_) (fun hb => w_next ⟨_, rfl, fun y hy2 => ?_⟩)
      · have hb' : ¬ en t P[i] P[j] ∈ P := by simpa using hb
        exact w_raise0 .NoPart (ke fun z => hb' (z.mul _ (List.getElem_mem hi) _ (List.getElem_mem hj)))
      · have hb' : en t P[i] P[j] ∈ P := by simpa using hb
        rw [take_snoc hj] at hy2
        rcases List.mem_append.mp hy2 with q | q
        · exact hd y q
        · have : y = P[j] := by simpa using q
          rw [this]; exact hb'
    · rintro G ⟨s6, rfl, hd⟩
      rw [List.take_length] at hd
      refine ⟨_, _, rfl, fun x hx2 y hy => ?_⟩
      rw [take_snoc hi] at hx2
      rcases List.mem_append.mp hx2 with q | q
      · exact hc x q y hy
      · have : x = P[i] := by simpa using q
        rw [this]; exact hd y hy
  · rintro G ⟨s5, s6, rfl, hc⟩
    rw [List.take_length] at hc
    exact k ⟨hne, hinc, hin, hc⟩
end TB

/-! TbBfs: least parts with words: what is reckoned, and own dicts of own lists. -/
namespace TB
open PySem L2
abbrev Kvs := List (Int × List Int)
def stepW (t : Tbl) (x : Int) (w : List Int) (kvs : Kvs) (y : Int) : Kvs := if en t x y ∈ kvs.map (·.1) then kvs else kvs ++ [(en t x y, w ++ [y])]
def bfsN (t : Tbl) (some : List Int) : Nat → Nat → Kvs → Kvs
  | 0, _, kvs => kvs
  | n + 1, a, kvs => if h : a < kvs.length then bfsN t some n (a + 1) (some.foldl (stepW t kvs[a].1 kvs[a].2) kvs) else kvs
def wordsF (t : Tbl) (e : Int) (some : List Int) : Kvs := bfsN t some (t.length + 1) 0 [(e, [])]
/-- a word of x -/
structure WordOk (t : Tbl) (e : Int) (some : List Int) (x : Int) (w : List Int) : Prop where
  sub : ∀ y ∈ w, y ∈ some
  is : w.foldl (en t) e = x
structure BfsI (t : Tbl) (e : Int) (some : List Int) (kvs : Kvs) : Prop where
  nd : (kvs.map (·.1)).Nodup
  one : kvs[0]? = Option.some (e, [])
  rc : ∀ x ∈ kvs.map (·.1), Reach t e some x
  wd : ∀ (i : Nat) (h : i < kvs.length), WordOk t e some kvs[i].1 kvs[i].2 ∧ (kvs[i].2).length ≤ i
section
variable {t : Tbl} {e : Int} {some : List Int}
theorem bfs_0 : BfsI t e some [(e, [])] := ⟨by simp, rfl, fun x hx => (show x = e by simpa using hx) ▸ .one, fun i h => by
  have : i = 0 := by simpa using h
  subst this
  exact ⟨⟨fun y hy => by simp at hy, rfl⟩, by simp⟩⟩
theorem bfs_step {kvs : Kvs} {a : Nat} {x : Int} {w : List Int} {y : Int} (I : BfsI t e some kvs) (ha : a < kvs.length) (hw : WordOk t e some x w) (hl : w.length ≤ a) (hr : Reach t e some x) (hy : y ∈ some) : BfsI t e some (stepW t x w kvs y) ∧ kvs <+: stepW t x w kvs y ∧ en t x y ∈ (stepW t x w kvs y).map (·.1) := by
  unfold stepW
  split
  · rename_i h
    exact ⟨I, List.prefix_rfl, h⟩
  · rename_i h
    refine ⟨⟨?_, ?_, fun z hz => ?_, fun i hi => ?_⟩, List.prefix_append _ _, by simp⟩
    · rw [List.map_append, List.nodup_append]
      exact ⟨I.nd, by simp, fun p hp q hq z => by
        have : q = en t x y := by simpa using hq
        exact h (this ▸ z ▸ hp)⟩
    · rw [List.getElem?_append_left (by omega)]
      exact I.one
    · rw [List.map_append] at hz
      rcases List.mem_append.mp hz with q | q
      · exact I.rc z q
      · have : z = en t x y := by simpa using q
        rw [this]
        exact .step hr hy
    · by_cases c : i < kvs.length
      · rw [List.getElem_append_left c]
        exact I.wd i c
      · have e1 : i = kvs.length := by simp at hi; omega
        subst e1
        rw [List.getElem_append_right (Nat.le_refl _)]
        simp only [Nat.sub_self, List.getElem_cons_zero]
        refine ⟨⟨fun z hz => ?_, ?_⟩, ?_⟩
        · rcases List.mem_append.mp hz with q | q
          · exact hw.sub z q
          · have : z = y := by simpa using q
            rw [this]; exact hy
        · rw [List.foldl_append, hw.is]
          rfl
        · rw [List.length_append]
          simp
          omega
theorem bfs_fold {a : Nat} {x : Int} {w : List Int} : ∀ (ys : List Int) {kvs : Kvs}, BfsI t e some kvs → a < kvs.length → WordOk t e some x w → w.length ≤ a → Reach t e some x → (∀ y ∈ ys, y ∈ some) → BfsI t e some (ys.foldl (stepW t x w) kvs) ∧ kvs <+: ys.foldl (stepW t x w) kvs ∧ ∀ y ∈ ys, en t x y ∈ (ys.foldl (stepW t x w) kvs).map (·.1)
  | [], kvs, I, _, _, _, _, _ => ⟨I, List.prefix_rfl, fun y hy => by simp at hy⟩
  | y :: ys, kvs, I, ha, hw, hl, hr, hs => by
    obtain ⟨I2, p2, m2⟩ := bfs_step I ha hw hl hr (hs y (by simp))
    obtain ⟨I3, p3, m3⟩ := bfs_fold ys I2 (Nat.lt_of_lt_of_le ha p2.length_le) hw hl hr fun z hz => hs z (by simp [hz])
    refine ⟨I3, p2.trans p3, fun z hz => ?_⟩
    rcases List.mem_cons.mp hz with q | q
    · rw [q]
      exact (p3.map _).mem m2
    · exact m3 z q
theorem bfs_len (h : GTbl t e) (hs : ∀ y ∈ some, InT t y) {kvs : Kvs} (I : BfsI t e some kvs) : kvs.length ≤ t.length := by
  have := nodup_le (B := irange t.length) I.nd fun x hx => mem_irange.mpr (reach_in h hs (I.rc x hx))
  rw [irange_len, List.length_map] at this
  omega
theorem bfs_run (h : GTbl t e) (hs : ∀ y ∈ some, InT t y) : ∀ (n a : Nat) (kvs : Kvs), BfsI t e some kvs → t.length < n + a → a ≤ kvs.length → (∀ x ∈ (kvs.take a).map (·.1), ∀ y ∈ some, en t x y ∈ kvs.map (·.1)) →
    BfsI t e some (bfsN t some n a kvs) ∧ ∀ x ∈ (bfsN t some n a kvs).map (·.1), ∀ y ∈ some, en t x y ∈ (bfsN t some n a kvs).map (·.1)
  | 0, a, kvs, I, hn, ha, hc => by have := bfs_len h hs I; omega
  | n + 1, a, kvs, I, hn, ha, hc => by
    unfold bfsN
    split
    · rename_i hlt
      obtain ⟨w1, w2⟩ := I.wd a hlt
      obtain ⟨I2, p2, m2⟩ := bfs_fold some I hlt w1 w2 (I.rc _ (List.mem_map.mpr ⟨_, List.getElem_mem hlt, rfl⟩)) fun y hy => hy
      refine bfs_run h hs n (a + 1) _ I2 (by omega) (Nat.le_trans hlt p2.length_le) fun x hx y hy => ?_
      have haR := Nat.lt_of_lt_of_le hlt p2.length_le
      rw [take_snoc haR, List.map_append] at hx
      rcases List.mem_append.mp hx with q | q
      · have e1 : (some.foldl (stepW t kvs[a].1 kvs[a].2) kvs).take a = kvs.take a := by
          obtain ⟨r, er⟩ := p2
          rw [← er, List.take_append_of_le_length (by omega)]
        rw [e1] at q
        exact (p2.map _).mem (hc x q y hy)
      · have : x = kvs[a].1 := by rw [(p2.getElem hlt)]; simpa using q
        rw [this]
        exact m2 y hy
    · rename_i hlt
      rw [List.take_of_length_le (by omega)] at hc
      exact ⟨I, hc⟩
theorem words_I (h : GTbl t e) (hs : ∀ y ∈ some, InT t y) : BfsI t e some (wordsF t e some) ∧ isort ((wordsF t e some).map (·.1)) = clo t e some := by
  obtain ⟨I, c⟩ := bfs_run h hs (t.length + 1) 0 [(e, [])] bfs_0 (by omega) (by simp) fun x hx => by simp at hx
  exact ⟨I, clo_is h hs I.nd (List.mem_map.mpr ⟨(e, []), List.mem_of_getElem? I.one, rfl⟩) I.rc c⟩
theorem dget_at {kvs : Kvs} : ∀ {i : Nat} (h : i < kvs.length), (kvs.map (·.1)).Nodup → dget kvs kvs[i].1 = Option.some kvs[i].2 := by
  induction kvs with
  | nil => intro i h; simp at h
  | cons p r ih =>
    intro i h nd
    rw [List.map_cons, List.nodup_cons] at nd
    cases i with
    | zero => unfold dget; simp
    | succ i =>
      have hi : i < r.length := by simpa using h
      have ne : ¬ p.1 = (r[i]).1 := fun z => nd.1 (List.mem_map.mpr ⟨_, List.getElem_mem hi, z.symm⟩)
      show dget (p :: r) (r[i]).1 = Option.some (r[i]).2
      rw [dget_neg ne]
      exact ih hi nd.2
theorem dget_key {kvs : Kvs} {x : Int} : (dget kvs x).isSome = decide (x ∈ kvs.map (·.1)) := by
  rw [← dget_any]
  induction kvs with
  | nil => rfl
  | cons p r ih =>
    rw [List.any_cons, ih, List.map_cons]
    by_cases c : x = p.1
    · subst c; simp
    · have : ¬ p.1 = x := fun z => c z.symm
      simp [this, c]
def wordF (t : Tbl) (e : Int) (some : List Int) (x : Int) : List Int := (dget (wordsF t e some) x).getD []
theorem wordF_ok (h : GTbl t e) (hs : ∀ y ∈ some, InT t y) {x : Int} (hx : x ∈ clo t e some) : dget (wordsF t e some) x = Option.some (wordF t e some x) ∧ WordOk t e some x (wordF t e some x) ∧ (wordF t e some x).length ≤ t.length ∧ (x = e → wordF t e some x = []) := by
  obtain ⟨I, c⟩ := words_I h hs
  have hm : x ∈ (wordsF t e some).map (·.1) := by rw [← (isort_perm _).mem_iff, c]; exact hx
  obtain ⟨p, hp, rfl⟩ := List.mem_map.mp hm
  obtain ⟨i, hi, rfl⟩ := List.getElem_of_mem hp
  have d := dget_at hi I.nd
  have hl := bfs_len h hs I
  obtain ⟨w1, w2⟩ := I.wd i hi
  unfold wordF
  rw [d]
  refine ⟨rfl, w1, by show ((wordsF t e some)[i].2).length ≤ _; omega, fun z => ?_⟩
  have h0 : 0 < (wordsF t e some).length := by omega
  have e0 : (wordsF t e some)[0] = (e, []) := by
    have := I.one
    rw [List.getElem?_eq_getElem h0] at this
    exact Option.some.inj this
  have d0 := dget_at h0 I.nd
  rw [e0] at d0
  rw [z] at d
  rw [d0] at d
  exact (Option.some.inj d).symm
end
/-! ### own dicts of own lists -/
def kvq (kvs : Kvs) (qs : List Addr) : List (Key × V) := List.zipWith (fun x q => ((Sum.inl x.1 : Key), V.ref q)) kvs qs
def Od2 (kvs : Kvs) : Own := ⟨fun _ _ h v => ∃ (p : Addr) (qs : List Addr), v = .ref p ∧ (p :: qs).Nodup ∧ h p = some (.dK (kvq kvs qs)) ∧ Paired (fun (q : Addr) (x : Int × List Int) => h q = some (.lst (x.2.map V.int))) qs kvs, fun _ h => h⟩
abbrev Sl.d2 (kvs : Kvs) : Sl := .ow (Od2 kvs)
theorem kvq_get {k : Int} : ∀ {kvs : Kvs} {qs : List Addr}, qs.length = kvs.length → (dget kvs k = none ∧ valV (kvq kvs qs) (Sum.inl k) = none) ∨ ∃ (i : Nat) (q : Addr) (x : Int × List Int), qs[i]? = some q ∧ kvs[i]? = some x ∧ x.1 = k ∧ dget kvs k = some x.2 ∧ valV (kvq kvs qs) (Sum.inl k) = some (.ref q)
  | [], [], _ => .inl ⟨rfl, rfl⟩
  | x :: kvs, q :: qs, h => by
    by_cases c : x.1 = k
    · refine .inr ⟨0, q, x, rfl, rfl, c, ?_, ?_⟩
      · unfold dget; simp [c]
      · show valV ((Sum.inl x.1, V.ref q) :: kvq kvs qs) (Sum.inl k) = _
        exact valV_pos (by rw [c])
    · have e1 : dget (x :: kvs) k = dget kvs k := dget_neg c
      have e2 : valV (kvq (x :: kvs) (q :: qs)) (Sum.inl k) = valV (kvq kvs qs) (Sum.inl k) := valV_neg fun z => c (Sum.inl.inj z)
      rw [e1, e2]
      rcases kvq_get (k := k) (kvs := kvs) (qs := qs) (by simpa using h) with q1 | ⟨i, q', x', a, b, d, f, g⟩
      · exact .inl q1
      · exact .inr ⟨i + 1, q', x', by simpa using a, by simpa using b, d, f, g⟩
theorem slok_d2 {Z : Zz} {R H : Hp} {p : Addr} {qs : List Addr} {kvs : Kvs} (nd : (p :: qs).Nodup) (h1 : H p = some (.dK (kvq kvs qs))) (h2 : Paired (fun q x => H q = some (.lst (x.2.map V.int))) qs kvs) : slok Z R H (some (.ref p)) (.d2 kvs) (p :: qs) := by
  have key : ∀ {qs' : List Addr} {kvs' : Kvs}, (∀ q ∈ qs', q ∈ p :: qs) → Paired (fun q x => H q = some (.lst (x.2.map V.int))) qs' kvs' → Paired (fun q (x : Int × List Int) => res H (p :: qs) q = some (.lst (x.2.map V.int))) qs' kvs' ∧ ∀ q ∈ qs', H q ≠ none := by
    intro qs' kvs' hs h
    induction h with
    | nil => exact ⟨.nil, fun q hq => by simp at hq⟩
    | cons r t ih =>
      obtain ⟨a, b⟩ := ih fun q hq => hs q (List.mem_cons_of_mem _ hq)
      refine ⟨.cons (by rw [res_in (hs _ List.mem_cons_self)]; exact r) a, fun q hq => ?_⟩
      rcases List.mem_cons.mp hq with rfl | hq
      · rw [r]; simp
      · exact b q hq
  obtain ⟨a, b⟩ := key (fun q hq => List.mem_cons_of_mem _ hq) h2
  refine ⟨_, rfl, ⟨p, qs, rfl, nd, by rw [res_in (by simp)]; exact h1, a⟩, fun q hq => ?_⟩
  rcases List.mem_cons.mp hq with rfl | hq
  · rw [h1]; simp
  · exact b q hq
theorem slok_d2' {Z : Zz} {R H : Hp} {o : Option V} {kvs : Kvs} {f : List Addr} (h : slok Z R H o (.d2 kvs) f) : ∃ (p : Addr) (qs : List Addr), o = some (.ref p) ∧ (p :: qs).Nodup ∧ (∀ q ∈ p :: qs, q ∈ f) ∧ H p = some (.dK (kvq kvs qs)) ∧ Paired (fun q x => H q = some (.lst (x.2.map V.int))) qs kvs := by
  obtain ⟨v, rfl, ⟨p, qs, rfl, nd, h1, h2⟩, _⟩ := h
  obtain ⟨m1, e1⟩ := res_some h1
  refine ⟨p, qs, rfl, nd, fun q hq => ?_, e1, paired_mono (fun q x r => (res_some r).2) h2⟩
  rcases List.mem_cons.mp hq with rfl | hq
  · exact m1
  · have key : ∀ {qs' : List Addr} {kvs' : Kvs}, Paired (fun q (x : Int × List Int) => res H f q = some (.lst (x.2.map V.int))) qs' kvs' → ∀ q ∈ qs', q ∈ f := by
      intro qs' kvs' h
      induction h with
      | nil => intro q hq; simp at hq
      | cons r t ih =>
        intro q hq
        rcases List.mem_cons.mp hq with rfl | hq
        · exact (res_some r).1
        · exact ih q hq
    exact key h2 q hq
theorem putK_end {kv : List (Key × V)} {k : Key} {v : V} (h : valV kv k = none) : putK kv k v = kv ++ [(k, v)] := putK_new v h
/-- new own objects on top -/
theorem sx_newO {Z : Zz} {B R0 R H H' : Hp} {ρ σ : List (Option V)} {Δ Γ : List Sl} {o : Option V} {s : Sl} {f : List Addr} (S : Sx Z B R0 R H ρ Δ σ Γ) (e : Same H H') (hf : ∀ b ∈ f, H b = none) (nd : f.Nodup) (h : slok Z R H' o s f) : Sx Z B R0 R H' (o :: ρ) (s :: Δ) σ Γ := by
  obtain ⟨hl, own, hs, es⟩ := S
  have ks : ∀ p ∈ own, H' p = H p := fun p hp => by
    cases q : H p with
    | none => exact absurd q (es_some es p hp)
    | some o => exact e p o q
  refine ⟨by simp [hl], f ++ own, ⟨hs.rh.trans e, hs.bh.trans e, hs.r0, hs.nw, fun p hp => ?_, ?_⟩, f, own, rfl, h, es_mono (Same.refl _) ks es⟩
  · rcases List.mem_append.mp hp with q | q
    · exact ⟨hs.rh.free (hf p q), hs.bh.free (hf p q)⟩
    · exact hs.ow p q
  · rw [List.nodup_append]
    exact ⟨nd, hs.nd, fun a ha b hb z => es_some es b hb (z ▸ hf a ha)⟩
/-- a slot's own objects change, and there may be new ones among them -/
theorem sx_grow {Z : Zz} {B R0 R H : Hp} {ρ σ : List (Option V)} {Δ Γ : List Sl} {s : Sl} (S : Sx Z B R0 R H ρ Δ σ Γ) {i : Nat} (e : Γ[i]? = some s) : ∃ o f, σ[i]? = some o ∧ slok Z R H o s f ∧ f.Nodup ∧
    ∀ (H' : Hp) (s' : Sl) (f' : List Addr), (∀ p, p ∉ f → H p ≠ none → H' p = H p) → f'.Nodup → (∀ p ∈ f', p ∈ f ∨ H p = none) → slok Z R H' o s' f' → Sx Z B R0 R H' ρ Δ σ (Γ.set i s') := by
  obtain ⟨hl, own, hs, es⟩ := S
  have e' : (Δ ++ Γ)[ρ.length + i]? = some s := by rw [at_slot hl]; exact e
  obtain ⟨o, g1, f, g2, h2, h3, h4, h6⟩ := es_at es e'
  rw [at_slot'] at h2
  subst h3
  have nd := hs.nd
  have al := es_some es
  refine ⟨o, f, h2, h4, by simp only [List.nodup_append] at nd; exact nd.1.2.1, fun H' s' f' k ndf sub h5 => ⟨hl, ?_⟩⟩
  have ne : ∀ q ∈ g1 ++ g2, q ∉ f := fun q hq z => by
    simp only [List.nodup_append, List.mem_append] at nd hq
    grind
  have al2 : ∀ q ∈ g1 ++ g2, H q ≠ none := fun q hq => al q (by simp only [List.mem_append] at hq ⊢; grind)
  have h7 := h6 R H' o s' f' (Same.refl _) (fun q hq => k q (ne q hq) (al2 q hq)) h5
  have e2 : (ρ ++ σ).set (ρ.length + i) o = ρ ++ σ := set_same (by rw [at_slot']; exact h2)
  rw [e2, hl, List.set_append_right _ _ (by omega), show Δ.length + i - Δ.length = i by omega] at h7
  have out : ∀ p, (R p ≠ none ∨ B p ≠ none) → p ∉ f := fun p hp z => by
    have := hs.ow p (by simp [z])
    rcases hp with q | q
    · exact q this.1
    · exact q this.2
  have some_of : ∀ {p : Addr} {o : HO}, H p = some o → H p ≠ none := fun e => by rw [e]; simp
  refine ⟨_, ⟨fun p o a => by rw [k p (out p (.inl (by rw [a]; simp))) (some_of (hs.rh _ _ a))]; exact hs.rh _ _ a, fun p o a => by rw [k p (out p (.inr (by rw [a]; simp))) (some_of (hs.bh _ _ a))]; exact hs.bh _ _ a, hs.r0, hs.nw, fun p hp => ?_, ?_⟩, h7⟩
  · simp only [List.mem_append] at hp
    rcases hp with (hp | hp) | hp
    · exact hs.ow p (by simp [hp])
    · rcases sub p hp with q | q
      · exact hs.ow p (by simp [q])
      · exact ⟨hs.rh.free q, hs.bh.free q⟩
    · exact hs.ow p (by simp [hp])
  · have dis : ∀ p ∈ f', p ∉ g1 ++ g2 := fun p hp z => by
      rcases sub p hp with q | q
      · exact ne p z q
      · exact al2 p z q
    simp only [List.nodup_append, List.mem_append] at nd dis ⊢
    grind
section
variable {c : Cn} {Γ : List Sl} {ta tb te tl ty tk : TE} {tt tc : TT} {t u : TS} {s s' so : Sl} {α β γ : Type} {_ : Rp α} {_ : Rp β} {_ : Rp γ} {P : Po} {d : α} {kvs : Kvs}
theorem ev_inD2 {i : Nat} {k : Int} (e : Γ[i]? = some (.d2 kvs)) (hk : Ev c Γ ta (.im k)) : Ev c Γ (tOp (gNotIn c.Z.K) ta (tVar i)) (.im (!(dget kvs k).isSome)) := fun B R0 R H ρ Δ σ S Q q x =>
  hk B R0 R H ρ Δ σ S _ (fun z R1 H1 S1 => by
    have ez : z = .int k := sx_top' S1
    subst ez
    obtain ⟨o, f, h2, h3⟩ := sx_slot (sx_pop S1) e
    obtain ⟨p, qs, rfl, nd, _, h4, h5⟩ := slok_d2' h3
    refine ⟨.ref p, h2, .inr ⟨p, _, rfl, DGet.k (k := Sum.inl k) h4, ?_⟩⟩
    rcases kvq_get (k := k) (Paired.length h5) with ⟨g1, g2⟩ | ⟨_, w, v, _, _, _, g1, g2⟩
    · rw [g2]; exact q _ R1 H1 (sx_push (sx_pop S1) (by rw [g1]; rfl))
    · rw [g2]; exact q _ R1 H1 (sx_push (sx_pop S1) (by rw [g1]; rfl))) x
/-- {k: []} -/
theorem ev_disp2 {k : Int} (hk : EvP c Γ tk k) : Ev c Γ (tDisp [(tk, tLst tNil)]) (.d2 [(k, [])]) := fun B R0 R H ρ Δ σ S Q q x => by
  intro p np
  refine hk B R0 R _ ρ Δ σ (sx_alloc S np (.dK [])) _ fun v rv => ⟨by decide, fun r nr => ?_⟩
  have ev : v = .int k := rv
  subst ev
  have nrp : r ≠ p := fun z => by rw [z, upd_same] at nr; cases nr
  have nr' : H r = none := by rw [upd_ne nrp] at nr; exact nr
  refine ⟨by rw [upd_ne (Ne.symm nrp), upd_same], [(Sum.inl k, .ref r)], rfl, by simp, q _ R _ ?_⟩
  refine sx_newO S (f := [p, r]) (fun b o e => ?_) (fun b hb => ?_) (by simp [Ne.symm nrp]) (slok_d2 (qs := [r]) (by simp [Ne.symm nrp]) (by rw [upd_same]; rfl) (.cons (by rw [upd_ne nrp, upd_same]; rfl) .nil))
  · have b1 : b ≠ p := fun z => by subst z; rw [np] at e; cases e
    have b2 : b ≠ r := fun z => by subst z; rw [nr'] at e; cases e
    rw [upd_ne b1, upd_ne b2, upd_ne b1]
    exact e
  · simp only [List.mem_cons, List.not_mem_nil, or_false] at hb
    rcases hb with rfl | rfl
    · exact np
    · exact nr'
/-- reads of own lists, the heap as it was -/
theorem ep_ixO {xs : List α} {i : Nat} {k : Int} (e : Γ[i]? = some (.ol xs)) (hb : EvP c Γ tb k) (h0 : 0 ≤ k) (h1 : k < xs.length) : EvP c Γ (tOp (gIx c.Z.K) (tVar i) tb) (gt xs k) := fun B R0 R H ρ Δ σ S Q q => by
  obtain ⟨p, vs, h2, h3, h4, _⟩ := sx_mutl S e
  refine ⟨.ref p, h2, hb B R0 R H ρ Δ σ S _ fun w rw' => ?_⟩
  have ew : w = .int k := rw'
  subst ew
  obtain ⟨v, hv, rv⟩ := paired_get h4 (gt_some h0 h1)
  exact .inl ⟨p, vs, k, v, rfl, rfl, SqL.of h3, atI_of h0 (by rw [Paired.length h4]; exact h1) hv, q v rv⟩
theorem paired_mono_mem {F G : α → β → Prop} : ∀ {l : List α} {m : List β}, Paired F l m → (∀ a b, a ∈ l → F a b → G a b) → Paired G l m
  | _, _, .nil, _ => .nil
  | _, _, .cons r t, h => .cons (h _ _ List.mem_cons_self r) (paired_mono_mem t fun a b ha => h a b (List.mem_cons_of_mem _ ha))
theorem paired_snoc {F : α → β → Prop} {l : List α} {m : List β} {a : α} {b : β} (h : Paired F l m) (r : F a b) : Paired F (l ++ [a]) (m ++ [b]) := paired_append h (.cons r .nil)
theorem kvq_snoc {qs : List Addr} {x : Int × List Int} {q : Addr} (h : qs.length = kvs.length) : kvq (kvs ++ [x]) (qs ++ [q]) = kvq kvs qs ++ [(Sum.inl x.1, .ref q)] := by
  unfold kvq
  rw [List.zipWith_append h.symm]
  rfl
/-- d[b] = d[a] + [y], b not in d -/
theorem w_word {i : Nat} {a b y : Int} {w : List Int} (e : Γ[i]? = some (.d2 kvs)) (ha : EvP c Γ tk a) (hy : EvP c Γ ty y) (hb : EvP c Γ tb b) (hw : dget kvs a = some w) (hn : dget kvs b = none) (hl : kvs.length < 1000000) (hl2 : w.length < 1000000)
    (k : P.nx (Γ.set i (.d2 (kvs ++ [(b, w ++ [y])])))) : W c Γ (tAsg (tOp gAdd (tOp (gIx c.Z.K) (tVar i) tk) (tLst (tCons ty tNil))) (gSub (tVar i) tb gSet)) P := fun B R0 R H ρ Δ σ D S n r bb kk x => by
  obtain ⟨o, f, h1, h2, hnd, h3⟩ := sx_grow S e
  obtain ⟨p, qs, rfl, nd, sub, h4, h5⟩ := slok_d2' h2
  have hql := Paired.length h5
  rcases kvq_get (k := a) hql with ⟨g1, _⟩ | ⟨j, q, z, gq, gz, gk, g1, g2⟩
  · rw [g1] at hw; cases hw
  rw [g1] at hw
  cases hw
  have hq : H q = some (.lst (z.2.map V.int)) := by
    obtain ⟨q', e1, e2⟩ := paired_get h5 gz
    rw [gq] at e1
    cases e1
    exact e2
  have g3 : valV (kvq kvs qs) (Sum.inl b) = none := by
    rcases kvq_get (k := b) hql with ⟨_, g⟩ | ⟨_, _, _, _, _, _, g, _⟩
    · exact g
    · rw [hn] at g; cases g
  refine ⟨.ref p, h1, ha B R0 R H ρ Δ σ S _ fun v rv => ?_⟩
  have ev : v = .int a := rv
  subst ev
  refine .inr (.inr ⟨p, .ref q, rfl, by rw [← g2]; exact DGet.k (k := Sum.inl a) h4, ?_⟩)
  refine hy B R0 R H ρ Δ σ S _ fun v rv => ⟨by show 1 ≤ sizeLine; decide, fun r1 nr1 => ?_⟩
  have ev : v = .int y := rv
  subst ev
  have nq : q ≠ r1 := fun z => by rw [z, nr1] at hq; cases hq
  refine .inr ⟨q, r1, z.2.map V.int, [.int y], rfl, rfl, by rw [upd_ne nq]; exact hq, upd_same, Nat.le_trans (by simp; omega : (z.2.map V.int).length + [V.int y].length ≤ 1000000) (by decide), fun r2 nr2 => ?_⟩
  have n21 : r2 ≠ r1 := fun z => by rw [z, upd_same] at nr2; cases nr2
  have nr2' : H r2 = none := by rw [upd_ne n21] at nr2; exact nr2
  have S2 := sx_alloc (sx_alloc S nr1 (.lst [.int y])) nr2 (.lst (z.2.map V.int ++ [.int y]))
  refine ⟨.ref p, h1, hb B R0 R _ ρ Δ σ S2 _ fun v rv => ?_⟩
  have ev : v = .int b := rv
  subst ev
  have np1 : p ≠ r1 := fun z => by rw [z, nr1] at h4; cases h4
  have np2 : p ≠ r2 := fun z => by rw [z, nr2'] at h4; cases h4
  have hp2 : (upd (upd H r1 (.lst [.int y])) r2 (.lst (z.2.map V.int ++ [.int y]))) p = some (.dK (kvq kvs qs)) := by rw [upd_ne np2, upd_ne np1]; exact h4
  have hkl : (kvq kvs qs).length < 1000000 := by unfold kvq; rw [List.length_zipWith]; omega
  refine .inr ⟨p, _, rfl, DPut.k (k := Sum.inl b) hp2 (Nat.lt_of_lt_of_le hkl (by decide)), ?_⟩
  rw [putK_end g3]
  have fr : ∀ q' ∈ p :: qs, H q' ≠ none := fun q' hq' => slok_some h2 q' (sub q' hq')
  have nq2 : ∀ q' ∈ p :: qs, q' ≠ r2 := fun q' hq' z => fr q' hq' (z ▸ nr2')
  have nq1 : ∀ q' ∈ p :: qs, q' ≠ r1 := fun q' hq' z => fr q' hq' (z ▸ nr1)
  refine n R _ σ _ ?_ k
  refine h3 _ (.d2 (kvs ++ [(b, z.2 ++ [y])])) (p :: (qs ++ [r2])) (fun p' hp' hn' => ?_) ?_ (fun p' hp' => ?_) (slok_d2 ?_ (by rw [upd_same, kvq_snoc hql]) (paired_snoc (paired_mono_mem h5 fun q' x' hq' r' => ?_) ?_))
  · have a1 : p' ≠ p := fun z => hp' (z ▸ sub p (by simp))
    have a2 : p' ≠ r2 := fun z => hn' (z ▸ nr2')
    have a3 : p' ≠ r1 := fun z => hn' (z ▸ nr1)
    rw [upd_ne a1, upd_ne a2, upd_ne a3]
  · have := nq2
    simp only [List.nodup_cons, List.nodup_append, List.mem_cons, List.mem_append] at nd this ⊢
    grind
  · simp only [List.mem_cons, List.mem_append, List.not_mem_nil, or_false] at hp'
    rcases hp' with q' | q' | q'
    · exact .inl (sub _ (by simp [q']))
    · exact .inl (sub _ (by simp [q']))
    · exact .inr (q' ▸ nr2')
  · have := nq2
    simp only [List.nodup_cons, List.nodup_append, List.mem_cons, List.mem_append] at nd this ⊢
    grind
  · have a1 : q' ≠ p := fun z => (List.nodup_cons.mp nd).1 (z ▸ hq')
    rw [upd_ne a1, upd_ne (nq2 q' (by simp [hq'])), upd_ne (nq1 q' (by simp [hq']))]
    exact r'
  · rw [upd_ne (Ne.symm np2), upd_same, List.map_append]
    rfl
/-- return (xs, [d[x] for x in xs]) -/
theorem w_retClo {i j l : Nat} {xs : List Int} (hij : j ≠ i) (hl1 : l ≠ i) (hl2 : l ≠ j) (hlt : l < Γ.length) (e : Γ[i]? = some (.ol xs)) (e2 : Γ[j]? = some (.d2 kvs)) (nd : xs.Nodup) (hx : ∀ x ∈ xs, (dget kvs x).isSome = true) (hkn : (kvs.map (·.1)).Nodup) (hlen : xs.length < 1000000)
    (k : P.rt (.ot (.t [oti xs, otii (xs.map fun x => (dget kvs x).getD [])]))) : W c Γ (tRet (tTup (tCons (tVar i) (tCons (tLc (iList c.Z.K (tVar i)) (gName l) tYes (tOp (gIx c.Z.K) (tVar j) (tVar l)) [l]) tNil)))) P := fun B R0 R H ρ Δ σ D S n r bb kk x => by
  have ls := sx_len S
  obtain ⟨o2, q2, S1⟩ := sx_take S e2
  obtain ⟨o1, q1, S2⟩ := sx_take S1 (i := i) (by rw [List.getElem?_set_ne hij]; exact e)
  obtain ⟨hl, own, hs, f, g, rfl, ⟨p1, vs, rfl, rfl, h1, h2⟩, f2, g2, rfl, h3, h4⟩ := sx_leave S2
  have ev := paired_map_int h2
  subst ev
  obtain ⟨p, qs, rfl, ndq, sub, h5, h6⟩ := slok_d2' h3
  have hql := Paired.length h6
  refine ⟨.ref p1, q1, .ref p1, q1, p1, rfl, ⟨_, SqL.of h1⟩, ?_⟩
  -- each key's list
  have adr : ∀ x ∈ xs, ∃ (m : Nat) (q : Addr) (z : Int × List Int), qs[m]? = some q ∧ kvs[m]? = some z ∧ z.1 = x ∧ dget kvs x = some z.2 ∧ valV (kvq kvs qs) (Sum.inl x) = some (.ref q) := fun x hxx => by
    rcases kvq_get (k := x) hql with ⟨g1, _⟩ | h
    · have := hx x hxx; rw [g1] at this; cases this
    · exact h
  have ex : ∃ as : List Addr, as.length = xs.length ∧ (∀ (m : Nat) (x : Int), xs[m]? = some x → ∃ q, as[m]? = some q ∧ q ∈ qs ∧ valV (kvq kvs qs) (Sum.inl x) = some (.ref q) ∧ H q = some (.lst (((dget kvs x).getD []).map V.int))) ∧ as.Nodup ∧ ∀ q ∈ as, q ∈ qs := by
    have key : ∀ ys : List Int, (∀ y ∈ ys, y ∈ xs) → ys.Nodup → ∃ as : List Addr, as.length = ys.length ∧ (∀ (m : Nat) (x : Int), ys[m]? = some x → ∃ q, as[m]? = some q ∧ q ∈ qs ∧ valV (kvq kvs qs) (Sum.inl x) = some (.ref q) ∧ H q = some (.lst (((dget kvs x).getD []).map V.int))) ∧ as.Nodup ∧ (∀ q ∈ as, q ∈ qs ∧ ∃ y ∈ ys, valV (kvq kvs qs) (Sum.inl y) = some (.ref q)) := by
      intro ys
      induction ys with
      | nil => exact fun _ _ => ⟨[], rfl, fun m x h => by simp at h, List.nodup_nil, fun q hq => by simp at hq⟩
      | cons y ys ih =>
        intro hys hnd
        obtain ⟨n1, n2⟩ := List.nodup_cons.mp hnd
        obtain ⟨as, a1, a2, a3, a4⟩ := ih (fun z hz => hys z (by simp [hz])) n2
        obtain ⟨m, q, z, b1, b2, b3, b4, b5⟩ := adr y (hys y (by simp))
        have hqq : q ∈ qs := List.mem_of_getElem? b1
        have hH : H q = some (.lst (((dget kvs y).getD []).map V.int)) := by
          obtain ⟨q', c1, c2⟩ := paired_get h6 b2
          rw [b1] at c1
          cases c1
          rw [b4]
          exact c2
        refine ⟨q :: as, by simp [a1], fun m' x' hm' => ?_, List.nodup_cons.mpr ⟨fun hin => ?_, a3⟩, fun q' hq' => ?_⟩
        · cases m' with
          | zero =>
            have : y = x' := by simpa using hm'
            subst this
            exact ⟨q, rfl, hqq, b5, hH⟩
          | succ m' =>
            obtain ⟨q', c1, c2⟩ := a2 m' x' (by simpa using hm')
            exact ⟨q', by simpa using c1, c2⟩
        · obtain ⟨_, y', hy', hv'⟩ := a4 q hin
          obtain ⟨m', q', z', c1, c2, c3, c4, c5⟩ := adr y' (hys y' (by simp [hy']))
          rw [c5] at hv'
          cases hv'
          have em : m = m' := by
            have nq := (List.nodup_cons.mp ndq).2
            obtain ⟨i1, i2⟩ := List.getElem?_eq_some_iff.mp b1
            obtain ⟨i3, i4⟩ := List.getElem?_eq_some_iff.mp c1
            exact (List.getElem_inj nq).mp (i2.trans i4.symm)
          subst em
          rw [b2] at c2
          cases c2
          exact n1 (b3 ▸ c3 ▸ hy')
        · rcases List.mem_cons.mp hq' with rfl | hq'
          · exact ⟨hqq, y, by simp, b5⟩
          · obtain ⟨c1, y', c2, c3⟩ := a4 q' hq'
            exact ⟨c1, y', by simp [c2], c3⟩
    obtain ⟨as, a1, a2, a3, a4⟩ := key xs (fun _ h => h) nd
    exact ⟨as, a1, a2, a3, fun q hq => (a4 q hq).1⟩
  obtain ⟨as, a1, a2, a3, a4⟩ := ex
  intro Dl hD
  have nD1 : p1 ≠ Dl := fun z => by rw [z, hD] at h1; cases h1
  have nDp : p ≠ Dl := fun z => by rw [z, hD] at h5; cases h5
  have al := es_some (Z := c.Z) (R := R) (H := H) (τ := some (.ref p1) :: some (.ref p) :: (ρ ++ [])) (Θ := .ol xs :: .d2 kvs :: (Δ ++ [])) (own := [p1] ++ (f2 ++ g2)) ⟨[p1], _, rfl, ⟨p1, _, rfl, rfl, h1, h2⟩, f2, g2, rfl, h3, h4⟩
  have qal : ∀ q ∈ qs, H q ≠ none := fun q hq => al q (by simp [sub q (by simp [hq])])
  refine ⟨fun m w H2 => w = xs.length - m ∧ m ≤ xs.length ∧ H2 = upd H Dl (.lst ((as.take m).map V.ref)), ⟨xs.length, by simp, Nat.zero_le _, by simp⟩, ?_⟩
  rintro m w H2 ⟨rfl, hm, rfl⟩
  have hL : (upd H Dl (.lst ((as.take m).map V.ref))) p1 = some (.lst (xs.map V.int)) := by rw [upd_ne nD1]; exact h1
  by_cases hlt2 : m < xs.length
  · refine .inr ⟨⟨_, .int xs[m], SqL.of hL, by rw [List.getElem?_map, List.getElem?_eq_getElem hlt2]; rfl⟩, fun H' => H' = upd H Dl (.lst ((as.take (m + 1)).map V.ref)), fun H' h => ⟨xs.length - (m + 1), by omega, rfl, hlt2, h⟩, ?_⟩
    rintro y H' ⟨rfl, hy⟩
    have := hy _ (SqL.of hL)
    rw [List.getElem?_map, List.getElem?_eq_getElem hlt2] at this
    cases this
    obtain ⟨q, b1, b2, b3, b4⟩ := a2 m xs[m] (List.getElem?_eq_getElem hlt2)
    refine ⟨(wipe_set (j := l) (vs := [l]) (List.mem_singleton.mpr rfl)).trans (wipe_wipe σ [l]), ?_⟩
    have g1 : ((wipe σ [l]).set l (some (V.int xs[m])))[j]? = some (some (.ref p)) := by
      rw [List.getElem?_set_ne hl2]
      show (σ.set l none)[j]? = _
      rw [List.getElem?_set_ne hl2]
      exact q2
    have g3 : ((wipe σ [l]).set l (some (V.int xs[m])))[l]? = some (some (.int xs[m])) := by
      rw [List.getElem?_set_self]
      show l < (σ.set l none).length
      rw [List.length_set]
      omega
    have hp : (upd H Dl (.lst ((as.take m).map V.ref))) p = some (.dK (kvq kvs qs)) := by rw [upd_ne nDp]; exact h5
    refine ⟨.ref p, g1, .int xs[m], g3, .inr (.inr ⟨p, .ref q, rfl, by rw [← b3]; exact DGet.k (k := Sum.inl xs[m]) hp, ?_⟩)⟩
    have ham : m < as.length := by omega
    refine ⟨_, upd_same, Nat.lt_of_lt_of_le (by rw [List.length_map, List.length_take]; omega : ((as.take m).map V.ref).length < 1000000) (by decide), ?_⟩
    have eq : as[m] = q := by
      rw [List.getElem?_eq_getElem ham] at b1
      exact Option.some.inj b1
    rw [take_snoc ham, List.map_append, eq]
    funext b
    by_cases hb : b = Dl
    · subst hb; rw [upd_same, upd_same]; rfl
    · rw [upd_ne hb, upd_ne hb, upd_ne hb]
  · have em : m = xs.length := by omega
    subst em
    have eA : as.take xs.length = as := by rw [← a1, List.take_length]
    rw [eA] at hL ⊢
    refine .inl ⟨⟨_, SqL.of hL, by rw [List.length_map]; exact Nat.le_refl _⟩, by show 2 ≤ sizeLine; decide, fun T nT => ?_⟩
    have nTD : T ≠ Dl := fun z => by rw [z, upd_same] at nT; cases nT
    have nT' : H T = none := by rw [upd_ne nTD] at nT; exact nT
    have nT1 : p1 ≠ T := fun z => by rw [z, nT'] at h1; cases h1
    have ow := hs.ow
    have ndo := hs.nd
    have hpair : Paired (fun q xs => (upd (upd H Dl (.lst (as.map V.ref))) T (.tup [.ref p1, .ref Dl])) q = some (.lst (xs.map V.int))) as (xs.map fun x => (dget kvs x).getD []) := by
      have key : ∀ (as' : List Addr) (ys : List Int), as'.length = ys.length → (∀ (m : Nat) (x : Int), ys[m]? = some x → ∃ q, as'[m]? = some q ∧ q ∈ qs ∧ H q = some (.lst (((dget kvs x).getD []).map V.int))) → Paired (fun q xs => (upd (upd H Dl (.lst (as.map V.ref))) T (.tup [.ref p1, .ref Dl])) q = some (.lst (xs.map V.int))) as' (ys.map fun x => (dget kvs x).getD []) := by
        intro as'
        induction as' with
        | nil => intro ys hy _; rw [List.length_eq_zero_iff.mp hy.symm]; exact .nil
        | cons a as' ih =>
          intro ys hy h
          match ys, hy with
          | y :: ys, hy =>
            refine .cons ?_ (ih ys (by simpa using hy) fun m x hm => ?_)
            · obtain ⟨q, b1, b2, b3⟩ := h 0 y rfl
              have : a = q := by simpa using b1
              subst this
              have z1 : a ≠ T := fun z => qal a b2 (z ▸ nT')
              have z2 : a ≠ Dl := fun z => qal a b2 (z ▸ hD)
              rw [upd_ne z1, upd_ne z2]
              exact b3
            · obtain ⟨q, b1, b2⟩ := h (m + 1) x (by simpa using hm)
              exact ⟨q, by simpa using b1, b2⟩
      exact key as xs a1 fun m x hm => by
        obtain ⟨q, b1, b2, _, b4⟩ := a2 m x hm
        exact ⟨q, b1, b2, b4⟩
    have ndT : (T :: p1 :: Dl :: as).Nodup := by
      refine List.nodup_cons.mpr ⟨?_, List.nodup_cons.mpr ⟨?_, List.nodup_cons.mpr ⟨?_, a3⟩⟩⟩
      · simp only [List.mem_cons, not_or]
        exact ⟨Ne.symm nT1, nTD, fun z => qal T (a4 T z) nT'⟩
      · simp only [List.mem_cons, not_or]
        refine ⟨nD1, fun z => ?_⟩
        have := sub p1 (by simp [a4 p1 z])
        simp only [List.cons_append, List.nil_append, List.nodup_cons, List.mem_append] at ndo
        exact ndo.1 (.inl this)
      · exact fun z => qal Dl (a4 Dl z) hD
    have dis : ∀ b ∈ T :: p1 :: Dl :: as, b ∉ g2 := fun b hb hg => by
      simp only [List.mem_cons] at hb
      have alg := al b (by simp [hg])
      rcases hb with rfl | rfl | rfl | hb
      · exact alg nT'
      · simp only [List.cons_append, List.nil_append, List.nodup_cons, List.mem_append] at ndo
        exact ndo.1 (.inr hg)
      · exact alg hD
      · have := sub b (by simp [a4 b hb])
        simp only [List.cons_append, List.nil_append, List.nodup_cons, List.nodup_append] at ndo
        exact ndo.2.2.2 b this b hg rfl
    have same : Same H (upd (upd H Dl (.lst (as.map V.ref))) T (.tup [.ref p1, .ref Dl])) := fun b o eb => by
      have b1 : b ≠ T := fun z => by rw [z, nT'] at eb; cases eb
      have b2 : b ≠ Dl := fun z => by rw [z, hD] at eb; cases eb
      rw [upd_ne b1, upd_ne b2]
      exact eb
    refine r R _ (.ref T) (.ot (.t [oti xs, otii (xs.map fun x => (dget kvs x).getD [])])) ⟨by simpa using hl, (T :: p1 :: Dl :: as) ++ g2, ⟨hs.rh.trans same, hs.bh.trans same, hs.r0, hs.nw, fun b hb => ?_, ?_⟩, T :: p1 :: Dl :: as, g2, rfl, slok_ot ndT ⟨T, _, _, rfl, rfl, upd_same, .ref p1, _, [p1], Dl :: as, rfl, rfl, otR_ints.mpr ⟨p1, rfl, rfl, by rw [upd_ne nT1, upd_ne nD1]; exact h1⟩, .ref Dl, _, Dl :: as, [], rfl, by simp, ⟨Dl, _, as, rfl, rfl, by rw [upd_ne (Ne.symm nTD), upd_same], otRs_iint hpair⟩, rfl, rfl⟩, es_mono (Same.refl _) (fun b hb => ?_) h4⟩ k
    · simp only [List.cons_append, List.mem_cons, List.mem_append] at hb
      rcases hb with rfl | rfl | rfl | hb | hb
      · exact ⟨hs.rh.free nT', hs.bh.free nT'⟩
      · exact ow b (by simp)
      · exact ⟨hs.rh.free hD, hs.bh.free hD⟩
      · exact ow b (by simp [sub b (by simp [a4 b hb])])
      · exact ow b (by simp [hb])
    · rw [List.nodup_append]
      refine ⟨ndT, ?_, fun a ha b hb z => dis a ha (z ▸ hb)⟩
      simp only [List.cons_append, List.nil_append, List.nodup_cons, List.nodup_append] at ndo
      exact ndo.2.2.1
    · have alg := al b (by simp [hb])
      have b1 : b ≠ T := fun z => alg (z ▸ nT')
      have b2 : b ≠ Dl := fun z => alg (z ▸ hD)
      rw [upd_ne b1, upd_ne b2]
end
end TB

/-! TbOq: more of own trees. -/
namespace TB
open PySem L2
section
variable {c : Cn} {Γ : List Sl} {ta tb te tl ty tk : TE} {tt tc : TT} {t u : TS} {s s' so : Sl} {α β γ : Type} {_ : Rp α} {_ : Rp β} {_ : Rp γ} {P : Po} {d : α} {T U : OT}
end
section
variable {c : Cn} {Γ : List Sl} {ta tb te tl ty tk : TE} {tt tc : TT} {t u : TS} {s s' so : Sl} {α β γ : Type} {_ : Rp α} {_ : Rp β} {_ : Rp γ} {P : Po} {d : α} {T U : OT}
end
section
variable {c : Cn} {Γ : List Sl} {te : TE} {α β : Type} {_ : Rp α} {_ : Rp β} {d : α}
theorem ep_to {d d' : α} (h : EvP c Γ te d) (e : d = d') : EvP c Γ te d' := e ▸ h
/-- o.f, the heap as it was -/
theorem ep_fld {o : α} {d : β} {f : Str} (h : EvP c Γ te o) (hf : ∀ R v, Rp.rp c.Z R v o → ∃ a C dx fs w, v = .ref a ∧ R a = some (.ins C dx fs) ∧ Cls c.Z.K C ∧ NoAttr c.Z.K C f ∧ fs.lookup f = some w ∧ Rp.rp c.Z R w d) : EvP c Γ (tFld c.Z.K te f) d := fun B R0 R H ρ Δ σ S Q q =>
  h B R0 R H ρ Δ σ S _ fun v rv => by
    obtain ⟨a, C, dx, fs, w, rfl, h1, h2, h3, h4, h5⟩ := hf R v rv
    exact ⟨a, C, dx, fs, w, rfl, sx_same S _ _ h1, h2, h3, h4, q w h5⟩
variable {g : Grp}
theorem ep_unit (h : EvP c Γ te g) : EvP c Γ (tFld c.Z.K te "unit") g.unit := ep_fld h fun R v ⟨h0, a, dx, m, r, u, b, h1, h2, h3, h4, h5, h6⟩ => ⟨a, _, dx, _, u, h1, h2, h0.cl, h0.n3, flG3 .., h5⟩
end
/-! ### mixed parts -/
def cmm (t : Tbl) (e a b : Int) : Int := en t (en t (en t a b) (bkf t e a)) (bkf t e b)
def cmL (t : Tbl) (e : Int) (P : List Int) : List Int := (P.map fun a => P.map fun b => cmm t e a b).flatten
noncomputable def mixF (t : Tbl) (e : Int) (P : List Int) : List Int := clo t e (cmL t e P)
theorem cmm_in {t : Tbl} {e a b : Int} (h : GTbl t e) (ha : InT t a) (hb : InT t b) : InT t (cmm t e a b) := h.cl (h.cl (h.cl ha hb) (bk_in h ha)) (bk_in h hb)
theorem cmL_in {t : Tbl} {e : Int} (h : GTbl t e) {P : List Int} (hp : ∀ x ∈ P, InT t x) : ∀ y ∈ cmL t e P, InT t y := fun y hy => by
  obtain ⟨l, hl, hyl⟩ := List.mem_flatten.mp hy
  obtain ⟨a, ha, rfl⟩ := List.mem_map.mp hl
  obtain ⟨b, hb, rfl⟩ := List.mem_map.mp hyl
  exact cmm_in h (hp a ha) (hp b hb)
end TB

/-! ### closure -/
namespace TB
open PySem L2
--use TbOq
def T_closure : Tm := tm2 fun (g : Grp) (sm : List Int) ok _ => ∃ (t : Tbl) (e : Int), GTbl t e ∧ g = grpOf t e ∧ (∀ y ∈ sm, InT t y) ∧ sm.length ≤ 100000 ∧ ok (.ot (.t [oti (clo t e sm), otii ((clo t e sm).map (wordF t e sm))]))
def t_closure (Z : Zz) (X : WX) : TS :=
  (tSeq (tAsg (tDisp [((tFld Z.K (tVar 0) "unit"), (tLst tNil))]) (gName 2))
  (tSeq (tAsg (tLst (tCons (tFld Z.K (tVar 0) "unit") tNil)) (gName 3))
  (tSeq (tAsg (tC (.int 0)) (gName 4))
  (tSeq (tWhile (tTest (tOp gLt (tVar 4) (tCB (gLen Z.K) (tCons (tVar 3) tNil))))
  (tSeq (tFor (iList Z.K (tVar 1)) (gName 5)
  (tSeq (tAsg (tOp (gIx Z.K) (tOp (gIx Z.K) (tFld Z.K (tVar 0) "rows") (tOp (gIx Z.K) (tVar 3) (tVar 4))) (tVar 5)) (gName 6))
  (tIfS (tTest (tOp (gNotIn Z.K) (tVar 6) (tVar 2)))
  (tSeq (tAsg (tOp gAdd (tOp (gIx Z.K) (tVar 2) (tOp (gIx Z.K) (tVar 3) (tVar 4))) (tLst (tCons (tVar 5) tNil))) (gSub (tVar 2) (tVar 6) gSet))
  (tDrop (tBM Z.K "list" rAppend (tVar 3) (tCons (tVar 6) tNil))))
  tNext)))
  (tAug 4 (tC (.int 1)) (ipI fun i j => i + j))))
  (tSeq (tAsg (tCB (gSorted Z.K) (tCons (tVar 3) tNil)) (gName 7))
  (tRet (tTup (tCons (tVar 7) (tCons (tLc (iList Z.K (tVar 7)) (gName 5) tYes (tOp (gIx Z.K) (tVar 2) (tVar 5)) [5]) tNil)))))))))
theorem w_closure (Z : Zz) (X : WX) (ss : List Sl) (ok : Sl → Prop) (er : Rf → Prop) (h : T_closure ss ok er) : WF Z X er (ss ++ List.replicate (8 - ss.length) .un) (t_closure Z X) ok := by
  obtain ⟨g, sm, rfl, t, e, hG, rfl, hs, hsl, k⟩ := h
  show W _ [.im (grpOf t e), .im sm, .un, .un, .un, .un, .un, .un] _ _
  unfold t_closure
  have hl := hG.sz.2.1
  refine w_seq (w_asg (s := .d2 [(e, [])]) (ev_disp2 (ep_unit (g := grpOf t e) (ep_var rfl))) ?_)
  refine w_seq (w_asg (s := .ol [e]) (ev_lstH (evh_cons (ev_unit (g := grpOf t e) (ev_var rfl)) evh_nil) (by simp)) ?_)
  refine w_seq (w_asg ev_int ?_)
  walk_at "nz"
  obtain ⟨hW, hclo⟩ := words_I hG hs
  refine w_mid (fun G => ∃ (s4 s5 s6 : Sl), G = [.im (grpOf t e), .im sm, .d2 (wordsF t e sm), .ol ((wordsF t e sm).map (·.1)), s4, s5, s6, .un]) ?_ ?_
  · refine w_while (fun m G => ∃ (kvs : Kvs) (a : Nat) (s5 s6 : Sl), G = [.im (grpOf t e), .im sm, .d2 kvs, .ol (kvs.map (·.1)), .im (a : Int), s5, s6, .un] ∧ BfsI t e sm kvs ∧ a ≤ kvs.length ∧ t.length < m + a ∧ bfsN t sm m a kvs = wordsF t e sm) (t.length + 1) ⟨[(e, [])], 0, _, _, rfl, bfs_0, by simp, by omega, rfl⟩ ?_
    rintro m G ⟨kvs, a, s5, s6, rfl, I, ha, hm, hb⟩
    have hkl := bfs_len hG hs I
    refine ⟨decide ((a : Int) < (kvs.map (·.1)).length), et_test (ev_lt (ev_var rfl) (ev_lenO rfl)), fun hb' => ?_, fun hb' => ?_⟩
    · have ha' : a < kvs.length := by simpa using hb'
      obtain ⟨m, rfl⟩ : ∃ m', m = m' + 1 := ⟨m - 1, by omega⟩
      rw [bfsN, dif_pos ha'] at hb
      obtain ⟨wd, wl⟩ := I.wd a ha'
      have rc := I.rc kvs[a].1 (List.mem_map.mpr ⟨_, List.getElem_mem ha', rfl⟩)
      have hx : InT t kvs[a].1 := reach_in hG hs rc
      refine w_seq (w_forL (xs := sm) (fun i G => ∃ (s5 s6 : Sl), G = [.im (grpOf t e), .im sm, .d2 ((sm.take i).foldl (stepW t kvs[a].1 kvs[a].2) kvs), .ol (((sm.take i).foldl (stepW t kvs[a].1 kvs[a].2) kvs).map (·.1)), .im (a : Int), s5, s6, .un]) (ev_var rfl) ⟨_, _, rfl⟩ ?_ ?_)
      · rintro i G hi ⟨s5, s6, rfl⟩
        walk_at "nz"
        obtain ⟨I2, pre, _⟩ := bfs_fold (sm.take i) I ha' wd wl rc fun y hy => List.mem_of_mem_take hy
        have hy : InT t sm[i] := hs _ (List.getElem_mem hi)
        have hst : (sm.take (i + 1)).foldl (stepW t kvs[a].1 kvs[a].2) kvs = stepW t kvs[a].1 kvs[a].2 ((sm.take i).foldl (stepW t kvs[a].1 kvs[a].2) kvs) sm[i] := by rw [take_snoc hi, List.foldl_append]; rfl
        rw [hst]
        generalize (sm.take i).foldl (stepW t kvs[a].1 kvs[a].2) kvs = kv at I2 pre ⊢
        have hkv := bfs_len hG hs I2
        have hak : a < kv.length := Nat.lt_of_lt_of_le ha' pre.length_le
        have eK : kv[a] = kvs[a] := (pre.getElem ha').symm
        have hgt : gt (kv.map (·.1)) (a : Int) = kvs[a].1 := by rw [gt_nat (by simpa using hak), List.getElem_map, eK]
        have hdg : dget kv kvs[a].1 = some kvs[a].2 := by rw [← eK]; exact dget_at hak I2.nd
        generalize kvs[a].1 = x at hgt hdg hx ⊢
        generalize kvs[a].2 = w at hdg wl ⊢
        generalize sm[i] = y at hy ⊢
        refine w_seq (w_asg (s := .im (en t x y)) (ev_ix (ev_ix (xs := t) (ev_rows (g := grpOf t e) (ev_var rfl)) (ev_to (ev_ixO rfl (ev_var rfl) (by omega) (by simp; omega)) hgt) hx.1 hx.2) (ev_var rfl) hy.1 (by rw [hG.row hx]; exact hy.2)) ?_)
        walk_at "nz"
        refine w_if (b := !decide (en t x y ∈ kv.map (·.1))) (et_to (et_test (ev_inD2 rfl (ev_var rfl))) (by rw [dget_key])) (fun hb => ?_) (fun hb => w_next ?_)
        · have hn : ¬ en t x y ∈ kv.map (·.1) := by simpa using hb
          have e1 : stepW t x w kv y = kv ++ [(en t x y, w ++ [y])] := by rw [stepW, if_neg hn]
          rw [e1]
          refine w_seq (w_word (a := x) (b := en t x y) (y := y) (w := w) rfl (ep_to (ep_ixO rfl (ep_var rfl) (by omega) (by simp; omega)) hgt) (ep_var rfl) (ep_var rfl) hdg (by
            have := dget_key (kvs := kv) (x := en t x y)
            rw [decide_eq_false hn] at this
            simpa using this) (by omega) (by omega) ?_)
          walk_at "nz"
          refine w_app rfl (ev_var rfl) (by simp; omega) ⟨.im y, .im (en t x y), ?_⟩
          walk_at "nz"
          rw [List.map_append]
          rfl
        · have hn : en t x y ∈ kv.map (·.1) := by simpa using hb
          have e1 : stepW t x w kv y = kv := by rw [stepW, if_pos hn]
          rw [e1]
          exact ⟨_, _, rfl⟩
      · rintro G ⟨s5, s6, rfl⟩
        rw [List.take_length]
        obtain ⟨I2, pre, _⟩ := bfs_fold sm I ha' wd wl rc fun y hy => hy
        refine w_aug rfl ev_int ⟨m, by omega, _, a + 1, s5, s6, rfl, I2, Nat.le_trans ha' pre.length_le, by omega, hb⟩
    · have ha' : ¬ a < kvs.length := by simpa using hb'
      have : wordsF t e sm = kvs := by
        rw [← hb]
        cases m with
        | zero => rfl
        | succ m => rw [bfsN, dif_neg ha']
      rw [this]
      exact ⟨_, s5, s6, rfl⟩
  · rintro G ⟨s4, s5, s6, rfl⟩
    refine w_seq (w_asg (s := .ol (clo t e sm)) (ev_is (ev_sortedO rfl) (congrArg Sl.ol hclo)) ?_)
    walk_at "nz"
    have pc := (clo_part hG hs).len
    exact w_retClo (i := 7) (j := 2) (l := 5) (by decide) (by decide) (by decide) (by simp) rfl rfl (inc_nodup (inc_clo sm)) (fun x hx => by
      rw [(wordF_ok hG hs hx).1]; rfl) hW.nd (by omega) k
end TB

/-! ### mixed -/
namespace TB
open PySem L2
--use TbOq
def T_mixed : Tm := tm2 fun (g : Grp) (P : List Int) ok er => ∃ (t : Tbl) (e : Int), GTbl t e ∧ g = grpOf t e ∧ P.length ≤ 100000 ∧ (IsPart t P → ok (.ol (mixF t e P))) ∧ (¬ IsPart t P → er ⟨.NoPart, []⟩)
def t_mixed (Z : Zz) (X : WX) : TS :=
  (tSeq (tDrop (tCallSD (spOf Z T_look_at_part) [] (WE X) (tCons (tVar 0) (tCons (tVar 1) tNil))))
  (tSeq (tAsg (tLst tNil) (gName 2))
  (tSeq (tFor (iList Z.K (tVar 1)) (gName 3)
  (tFor (iList Z.K (tVar 1)) (gName 4)
  (tSeq (tAsg (tCallSD (spOf Z T_product) [] (WE X) (tCons (tVar 0) (tCons (tLst (tCons (tVar 3) (tCons (tVar 4) (tCons (tOp (gIx Z.K) (tFld Z.K (tVar 0) "backs") (tVar 3)) (tCons (tOp (gIx Z.K) (tFld Z.K (tVar 0) "backs") (tVar 4)) tNil))))) tNil))) (gName 5))
  (tIfS (tTest (tOp (gNotIn Z.K) (tVar 5) (tVar 2)))
  (tDrop (tBM Z.K "list" rAppend (tVar 2) (tCons (tVar 5) tNil)))
  tNext))))
  (tRet (tOp (gIx Z.K) (tCallSD (spOf Z T_closure) [] (WE X) (tCons (tVar 0) (tCons (tVar 2) tNil))) (tC (.int 0)))))))
theorem w_mixed (Z : Zz) (X : WX) (ss : List Sl) (ok : Sl → Prop) (er : Rf → Prop) (h : T_mixed ss ok er) : WF Z X er (ss ++ List.replicate (6 - ss.length) .un) (t_mixed Z X) ok := by
  obtain ⟨g, P, rfl, t, e, hG, rfl, hPl, k, ke⟩ := h
  show W _ [.im (grpOf t e), .im P, .un, .un, .un, .un] _ _
  unfold t_mixed
  have hl := hG.sz.2.1
  refine w_seq (w_dropS (S := fun _ => IsPart t P) (es_call (ea_cons (ev_var rfl) (ea_cons (ev_var rfl) ea_nil)) ⟨_, _, rfl, t, e, hG, rfl, hPl, fun z => z, ke⟩) fun _ hp => ?_)
  have k := k hp
  have p := hp.partL hG
  have hpl := p.len
  have blen := backs_len hG
  refine w_seq (w_asg (s := .ol ([] : List Int)) ev_nil ?_)
  walk_at "nz"
  have small : ∀ L : List Int, L.Nodup → (∀ x ∈ L, InT t x) → L.length ≤ t.length := fun L nd hi => by
    have := nodup_le (B := irange t.length) nd fun x hx => mem_irange.mpr (hi x hx)
    rw [irange_len] at this
    omega
  refine w_seq (w_forL (xs := P) (fun i G => ∃ (L : List Int) (s3 s4 s5 : Sl), G = [.im (grpOf t e), .im P, .ol L, s3, s4, s5] ∧ L.Nodup ∧ (∀ x ∈ L, InT t x) ∧ ∀ z, z ∈ L ↔ z ∈ ((P.take i).map fun a => P.map fun b => cmm t e a b).flatten) (ev_var rfl) ⟨_, _, _, _, rfl, .nil, fun x hx => by simp at hx, fun z => by simp⟩ ?_ ?_)
  · rintro i G hi ⟨L, s3, s4, s5, rfl, nd, hin, hL⟩
    walk_at "nz"
    have hx := p.pt.inn _ (List.getElem_mem hi)
    have e0 : ((P.take (i + 1)).map fun a => P.map fun b => cmm t e a b).flatten = ((P.take i).map fun a => P.map fun b => cmm t e a b).flatten ++ P.map fun b => cmm t e P[i] b := by
      rw [take_snoc hi, List.map_append, List.flatten_append]; simp only [List.map_cons, List.map_nil, List.flatten_cons, List.flatten_nil, List.append_nil]
    rw [e0]
    generalize P[i] = x at hx ⊢
    refine w_forL (xs := P) (fun j G => ∃ (L' : List Int) (s4 s5 : Sl), G = [.im (grpOf t e), .im P, .ol L', .im x, s4, s5] ∧ L'.Nodup ∧ (∀ x ∈ L', InT t x) ∧ ∀ z, z ∈ L' ↔ z ∈ L ∨ z ∈ (P.take j).map fun b => cmm t e x b) (ev_var rfl) ⟨L, _, _, rfl, nd, hin, fun z => by simp⟩ ?_ ?_
    · rintro j G hj ⟨L', s4, s5, rfl, nd', hin', hL'⟩
      walk_at "nz"
      have hy := p.pt.inn _ (List.getElem_mem hj)
      rw [take_snoc hj]
      generalize P[j] = y at hy ⊢
      have hl' := small L' nd' hin'
      have hc := cmm_in hG hx hy
      refine w_seq (w_asg (s := .im (cmm t e x y)) (ev_callN (ea_cons (ev_var rfl) (ea_cons (ev_frI (ev_lstH (evh_cons (ev_var rfl) (evh_cons (ev_var rfl) (evh_cons (ev_ix (ev_backs (g := grpOf t e) (ev_var rfl)) (ev_var rfl) hx.1 (by rw [blen]; exact hx.2)) (evh_cons (ev_ix (ev_backs (g := grpOf t e) (ev_var rfl)) (ev_var rfl) hy.1 (by rw [blen]; exact hy.2)) evh_nil)))) (by simp))) ea_nil)) ?pr) ?_)
      case pr =>
        have bx := bk_in hG hx
        have bY := bk_in hG hy
        have ep : prod (grpOf t e) [x, y, gt (grpOf t e).backs x, gt (grpOf t e).backs y] = cmm t e x y := by
          rw [backs_at hx, backs_at hy]
          show en t (en t (en t (en t e x) y) _) _ = _
          rw [hG.u1 hx]
          rfl
        refine ⟨_, _, rfl, hG.ok, fun z hz => ?_, congrArg Sl.im ep⟩
        rw [backs_at hx, backs_at hy] at hz
        simp only [List.mem_cons, List.not_mem_nil, or_false] at hz
        rcases hz with rfl | rfl | rfl | rfl
        · exact hx
        · exact hy
        · exact bx
        · exact bY
      walk_at "nz"
      refine w_if (b := !decide (cmm t e x y ∈ L')) (et_test (ev_notInO (ev_var rfl) rfl)) (fun hb => ?_) (fun hb => w_next ?_)
      · have hb' : ¬ cmm t e x y ∈ L' := by simpa using hb
        refine w_app rfl (ev_var rfl) (by omega) ⟨L' ++ [cmm t e x y], _, _, rfl, ?_, fun z hz => ?_, fun z => ?_⟩
        · rw [List.nodup_append]
          exact ⟨nd', by simp, fun a ha b hb z => by
            have : b = cmm t e x y := by simpa using hb
            exact hb' (this ▸ z ▸ ha)⟩
        · rcases List.mem_append.mp hz with q | q
          · exact hin' z q
          · have : z = cmm t e x y := by simpa using q
            rw [this]; exact hc
        · simp only [List.mem_append, hL', List.map_append, List.map_cons, List.map_nil, List.mem_singleton, or_assoc]
      · have hb' : cmm t e x y ∈ L' := by simpa using hb
        refine ⟨L', _, _, rfl, nd', hin', fun z => ?_⟩
        simp only [hL', List.mem_append, List.map_append, List.map_cons, List.map_nil, List.mem_singleton]
        constructor
        · rintro (q | q)
          · exact .inl q
          · exact .inr (.inl q)
        · rintro (q | q | q)
          · exact .inl q
          · exact .inr q
          · rw [q]; exact (hL' _).mp hb'
    · rintro G ⟨L', s4, s5, rfl, nd', hin', hL'⟩
      rw [List.take_length] at hL'
      exact ⟨L', _, _, _, rfl, nd', hin', fun z => by rw [hL', List.mem_append, hL]⟩
  · rintro G ⟨L, s3, s4, s5, rfl, nd, hin, hL⟩
    rw [List.take_length] at hL
    have e1 : clo t e L = mixF t e P := clo_congr hG hin (cmL_in hG p.pt.inn) hL
    have := small L nd hin
    rw [← e1] at k
    refine w_fr 2 rfl ?_
    exact w_ret (ev_subS sub_Tol (ev_otIxT (k := 0) (ev_callN (s := .ot (.t [oti (clo t e L), otii ((clo t e L).map (wordF t e L))])) (ea_cons (ev_var rfl) (ea_cons (ev_var rfl) ea_nil)) ⟨_, _, rfl, t, e, hG, rfl, hin, by omega, rfl⟩) rfl rfl)) k
end TB

/-! ### sides -/
namespace TB
open PySem L2
--use TbPart
def T_sides : Tm := tm2 fun (g : Grp) (P : List Int) ok er => ∃ (t : Tbl) (e : Int), GTbl t e ∧ g = grpOf t e ∧ P.length ≤ 100000 ∧ (IsPart t P → ok (.o2 (kinN (sid t P) t.length))) ∧ (¬ IsPart t P → er ⟨.NoPart, []⟩)
def t_sides (Z : Zz) (X : WX) : TS :=
  (tSeq (tDrop (tCallSD (spOf Z T_look_at_part) [] (WE X) (tCons (tVar 0) (tCons (tVar 1) tNil))))
  (tSeq (tAsg (tLst tNil) (gName 2))
  (tSeq (tAsg tDNewK (gName 3))
  (tSeq (tFor (iEnum Z.K (tCons (tFld Z.K (tVar 0) "rows") tNil)) (gTup Z.K 2 (gCons (gName 4) (gCons (gName 5) gNil)))
  (tSeq (tIfS (tTest (tOp (gIn Z.K) (tVar 4) (tVar 3)))
  tCont
  tNext)
  (tSeq (tAsg (tCB (gSorted Z.K) (tCons (tLc (iList Z.K (tVar 1)) (gName 7) tYes (tOp (gIx Z.K) (tVar 5) (tVar 7)) [7]) tNil)) (gName 6))
  (tSeq (tFor (iList Z.K (tVar 6)) (gName 7)
  (tAsg (tC (.bl true)) (gSub (tVar 3) (tVar 7) gSet)))
  (tDrop (tBM Z.K "list" rAppend (tVar 2) (tCons (tVar 6) tNil)))))))
  (tRet (tVar 2))))))
theorem w_sides (Z : Zz) (X : WX) (ss : List Sl) (ok : Sl → Prop) (er : Rf → Prop) (h : T_sides ss ok er) : WF Z X er (ss ++ List.replicate (8 - ss.length) .un) (t_sides Z X) ok := by
  obtain ⟨g, P, rfl, t, e, hG, rfl, hPl, k, ke⟩ := h
  show W _ [.im (grpOf t e), .im P, .un, .un, .un, .un, .un, .un] _ _
  unfold t_sides
  have hl := hG.sz.2.1
  refine w_seq (w_dropS (S := fun _ => IsPart t P) (es_call (ea_cons (ev_var rfl) (ea_cons (ev_var rfl) ea_nil)) ⟨_, _, rfl, t, e, hG, rfl, hPl, fun z => z, ke⟩) fun _ hp => ?_)
  have k := k hp
  have p := hp.partL hG
  have hpl := p.len
  refine w_seq (w_asg (ev_nil2 (δ := Int)) ?_)
  refine w_seq (w_asg (ev_dict (δ := Bool)) ?_)
  walk_at "nz"
  refine w_seq (w_forE (xs := t) (fun i G => ∃ (kvs : List (Int × Bool)) (s4 s5 s6 s7 : Sl), G = [.im (grpOf t e), .im P, .o2 (kinN (sid t P) i), .od kvs, s4, s5, s6, s7] ∧ (∀ x : Int, (dget kvs x).isSome = decide (x ∈ (kinN (sid t P) i).flatten)) ∧ kvs.length ≤ 23 * i) (ev_rows (g := grpOf t e) (ev_var rfl)) ⟨[], _, _, _, _, rfl, fun x => rfl, by simp⟩ ?_ ?_)
  · rintro i G hi ⟨kvs, s4, s5, s6, s7, rfl, hk, hkl⟩
    walk_at "nz"
    have hI : InT t (i : Int) := ⟨by omega, by omega⟩
    have hcl := kinN_len (sid t P) i
    refine w_seq (w_if (b := decide ((i : Int) ∈ (kinN (sid t P) i).flatten)) (et_test (ev_to (ev_inD rfl (ev_var rfl)) (by rw [hk]))) (fun hb => ?_) (fun hb => w_next ?_))
    · have hb' : (i : Int) ∈ (kinN (sid t P) i).flatten := by simpa using hb
      refine w_cont ⟨kvs, .im (i : Int), .im t[i], s6, s7, ?_⟩
      rw [kinN, if_pos hb']
      exact ⟨rfl, hk, by omega⟩
    have hb' : ¬ (i : Int) ∈ (kinN (sid t P) i).flatten := by simpa using hb
    have hN : kinN (sid t P) (i + 1) = kinN (sid t P) i ++ [sid t P (i : Int)] := by rw [kinN, if_neg hb']
    rw [hN]
    have hrow := hG.row hI
    rw [← gt_nat hi]
    refine w_un 7 ?_
    walk_at "nz"
    refine w_seq (w_asg (s := .ol (sid t P (i : Int))) (ev_sorted (ev_frI ?hh)) ?_)
    case hh =>
      refine ev_mapL (xs := P) (fun h => gt (gt t (i : Int)) h) (ev_var rfl) (by omega) (by simp) ⟨.inl rfl, trivial⟩ fun h hh => ?_
      have := p.pt.inn h hh
      exact ev_ix (ev_var rfl) (ev_var rfl) this.1 (by rw [hrow]; exact this.2)
    walk_at "nz"
    have hol : (sid t P (i : Int)).length ≤ 23 := by rw [sid_len]; omega
    generalize sid t P (i : Int) = kin at hol ⊢
    refine w_seq (w_forO (xs := kin) (fun s n G => ∃ (kvs' : List (Int × Bool)) (s7 : Sl), G = [.im (grpOf t e), .im P, .o2 (kinN (sid t P) i), .od kvs', .im (i : Int), .im (gt t (i : Int)), s, s7] ∧ (∀ x : Int, (dget kvs' x).isSome = decide (x ∈ (kinN (sid t P) i).flatten ++ kin.take n)) ∧ kvs'.length ≤ 23 * i + n) rfl (fun s => ⟨kvs, _, rfl, fun x => by rw [hk]; simp, by omega⟩) ?_ ?_)
    · rintro s n G hn ⟨kvs', s7, rfl, q1, q2⟩
      walk_at "nz"
      refine w_dset rfl ev_bl (ev_var rfl) (by omega) ⟨dput kvs' kin[n] true, .im kin[n], rfl, fun x => ?_, ?_⟩
      · rw [dget_put, take_snoc hn]
        by_cases c : x = kin[n]
        · rw [if_pos c, c]
          exact (decide_eq_true (by rw [List.mem_append, List.mem_append]; exact .inr (.inr (by simp)))).symm
        · rw [if_neg c, q1]
          exact decide_eq_decide.mpr (by simp only [List.mem_append, List.mem_singleton, c, or_false])
      · have := dput_len kvs' kin[n] true
        omega
    · rintro s G ⟨kvs', s7, rfl, q1, q2⟩
      refine ⟨rfl, ?_⟩
      walk_at "nz"
      refine w_app2V (by decide) rfl rfl (by omega) ⟨kvs', .im (i : Int), _, .un, s7, rfl, fun x => ?_, by omega⟩
      rw [q1, List.take_length, List.flatten_append]
      simp
  · rintro G ⟨kvs, s4, s5, s6, s7, rfl, _, _⟩
    exact w_retO val_o2 rfl k
end TB

/-! ### way_out -/
namespace TB
open PySem L2
--use TbPart
def T_way_out : Tm := tm2 fun (g : Grp) (P : List Int) ok er => ∃ (t : Tbl) (e : Int), GTbl t e ∧ g = grpOf t e ∧ P.length ≤ 100000 ∧ (IsPart t P → ok (.fo (woF t e P))) ∧ (¬ IsPart t P → er ⟨.NoPart, []⟩)
def t_way_out (Z : Zz) (X : WX) : TS :=
  (tSeq (tDrop (tCallSD (spOf Z T_look_at_part) [] (WE X) (tCons (tVar 0) (tCons (tVar 1) tNil))))
  (tSeq (tFor (iRng1 (tCons (tFld Z.K (tVar 0) "many") tNil)) (gName 2)
  (tFor (iList Z.K (tVar 1)) (gName 3)
  (tIfS (tTest (tOp (gNotIn Z.K) (tCallSD (spOf Z T_turned_by) [] (WE X) (tCons (tVar 0) (tCons (tVar 3) (tCons (tVar 2) tNil)))) (tVar 1)))
  (tRet (tTup (tCons (tVar 2) (tCons (tVar 3) tNil))))
  tNext)))
  (tRet (tC .non))))
theorem w_way_out (Z : Zz) (X : WX) (ss : List Sl) (ok : Sl → Prop) (er : Rf → Prop) (h : T_way_out ss ok er) : WF Z X er (ss ++ List.replicate (4 - ss.length) .un) (t_way_out Z X) ok := by
  obtain ⟨g, P, rfl, t, e, hG, rfl, hPl, k, ke⟩ := h
  show W _ [.im (grpOf t e), .im P, .un, .un] _ _
  unfold t_way_out
  have hl := hG.sz.2.1
  refine w_seq (w_dropS (S := fun _ => IsPart t P) (es_call (ea_cons (ev_var rfl) (ea_cons (ev_var rfl) ea_nil)) ⟨_, _, rfl, t, e, hG, rfl, hPl, fun z => z, ke⟩) fun _ hp => ?_)
  have k := k hp
  have p := hp.partL hG
  refine w_seq (w_forR (n := (t.length : Int)) (fun i G => ∃ s2 s3, G = [.im (grpOf t e), .im P, s2, s3] ∧ ∀ a, 0 ≤ a → a < (i : Int) → ∀ x ∈ P, cj t e a x ∈ P) (ev_many (g := grpOf t e) (ev_var rfl)) (by omega) (by omega) ⟨_, _, rfl, fun a h0 h1 => by omega⟩ ?_ ?_)
  · rintro i G hi ⟨s2, s3, rfl, hlt⟩
    walk_at "nz"
    have hI : InT t (i : Int) := ⟨by omega, hi⟩
    refine w_forL (xs := P) (fun j G => ∃ s3, G = [.im (grpOf t e), .im P, .im (i : Int), s3] ∧ ∀ x ∈ P.take j, cj t e (i : Int) x ∈ P) (ev_var rfl) ⟨_, rfl, fun x hx => by simp at hx⟩ ?_ ?_
    · rintro j G hj ⟨s3, rfl, hd⟩
      walk_at "nz"
      have hx := p.pt.inn _ (List.getElem_mem hj)
      refine w_if (b := !decide (cj t e (i : Int) P[j] ∈ P)) (et_test (ev_notInL (ev_callN (s := .im (cj t e (i : Int) P[j])) (ea_cons (ev_var rfl) (ea_cons (ev_var rfl) (ea_cons (ev_var rfl) ea_nil))) ⟨_, _, _, rfl, t, e, hG, rfl, hx, hI, rfl⟩) (ev_var rfl))) (fun hb => ?_) (fun hb => w_next ⟨_, rfl, fun y hy => ?_⟩)
      · have hb' : ¬ cj t e (i : Int) P[j] ∈ P := by simpa using hb
        rw [woF_some hj hI hlt hd hb'] at k
        exact w_ret (ev_tupF (ev_var rfl) (ev_var rfl)) k
      · have hb' : cj t e (i : Int) P[j] ∈ P := by simpa using hb
        rw [take_snoc hj] at hy
        rcases List.mem_append.mp hy with q | q
        · exact hd y q
        · have : y = P[j] := by simpa using q
          rw [this]; exact hb'
    · rintro G ⟨s3, rfl, hd⟩
      rw [List.take_length] at hd
      refine ⟨_, _, rfl, fun a a0 a1 x hx => ?_⟩
      by_cases c : a = (i : Int)
      · rw [c]; exact hd x hx
      · exact hlt a a0 (by omega) x hx
  · rintro G ⟨s2, s3, rfl, hlt⟩
    rw [woF_none fun o ho x hx => hlt o ho.1 (by have := ho.2; omega) x hx] at k
    exact w_ret (s := .fo (none : Option (Int × Int))) ev_noneF k
end TB

/-! TbIn: plain law: a part's own group, the group of a steady part's sides. -/
namespace TB
open PySem L2
/-- a thing's place in a list -/
def ix : List Int → Int → Nat
  | [], _ => 0
  | x :: r, y => if x = y then 0 else ix r y + 1
theorem ix_at : ∀ {r : List Int} {y : Int}, y ∈ r → r[ix r y]? = some y ∧ ∀ m, m < ix r y → r[m]? ≠ some y
  | [], y, h => by simp at h
  | x :: r, y, h => by
    unfold ix
    by_cases q : x = y
    · rw [if_pos q]
      exact ⟨by simp [q], fun m hm => by omega⟩
    · rw [if_neg q]
      have h' : y ∈ r := by
        rcases List.mem_cons.mp h with z | z
        · exact absurd z.symm q
        · exact z
      obtain ⟨h1, h2⟩ := ix_at h'
      refine ⟨by simpa using h1, fun m hm => ?_⟩
      cases m with
      | zero => simpa using q
      | succ m => simpa using h2 m (by omega)
theorem ix_lt {r : List Int} {y : Int} (h : y ∈ r) : ix r y < r.length := (List.getElem?_eq_some_iff.mp (ix_at h).1).1
theorem gt_ix {r : List Int} {y : Int} (h : y ∈ r) : gt r (ix r y : Int) = y := by
  rw [gt_nat (ix_lt h)]
  exact (List.getElem?_eq_some_iff.mp (ix_at h).1).2
theorem gt_inj {r : List Int} (nd : r.Nodup) {i j : Int} (i0 : 0 ≤ i) (i1 : i < r.length) (j0 : 0 ≤ j) (j1 : j < r.length) (q : gt r i = gt r j) : i = j := by
  have e1 := gt_some i0 i1
  have e2 := gt_some j0 j1
  rw [q, ← e2] at e1
  have := (List.getElem?_inj (by omega) nd).mp e1
  omega
theorem ix_gt {r : List Int} (nd : r.Nodup) {i : Int} (i0 : 0 ≤ i) (i1 : i < r.length) : (ix r (gt r i) : Int) = i :=
  gt_inj nd (by omega) (by have := ix_lt (gt_mem i0 i1); omega) i0 i1 (gt_ix (gt_mem i0 i1))
theorem gt_mapL {α β : Type} [Rp α] [Rp β] {l : List α} {f : α → β} {i : Int} (h0 : 0 ≤ i) (h1 : i < l.length) : gt (l.map f) i = f (gt l i) := by
  have h2 : i.toNat < l.length := by omega
  have e : ((i.toNat : Nat) : Int) = i := by omega
  rw [← e, gt_nat (by rw [List.length_map]; exact h2), gt_nat h2, List.getElem_map]
/-! ### the image of a group -/
theorem img_G {t t' : Tbl} {e : Int} (h : GTbl t e) (f : Int → Int) (hs : SizeOk t') (inn : ∀ x, InT t x → InT t' (f x)) (sur : ∀ i, InT t' i → ∃ x, InT t x ∧ f x = i) (hm : ∀ x y, InT t x → InT t y → en t' (f x) (f y) = f (en t x y)) : GTbl t' (f e) := by
  refine ⟨hs, fun r hr z hz => ?_, inn e h.he, fun a a0 a1 => ?_, fun a ha => ?_, fun a b c ha hb hc => ?_⟩
  · obtain ⟨i, hi, rfl⟩ := List.getElem_of_mem hr
    obtain ⟨j, hj, rfl⟩ := List.getElem_of_mem hz
    have hl := hs.2.2 _ (List.getElem_mem hi)
    obtain ⟨x, hx, ex⟩ := sur (i : Int) ⟨by omega, by omega⟩
    obtain ⟨y, hy, ey⟩ := sur (j : Int) ⟨by omega, by omega⟩
    have := hm x y hx hy
    rw [ex, ey] at this
    have e1 : en t' (i : Int) (j : Int) = t'[i][j] := by
      show gt (gt t' (i : Int)) (j : Int) = _
      rw [gt_nat hi, gt_nat hj]
    rw [← e1, this]
    exact inn _ (h.cl hx hy)
  · obtain ⟨x, hx, rfl⟩ := sur a ⟨a0, a1⟩
    rw [hm _ _ h.he hx, hm _ _ hx h.he, h.u1 hx, h.u2 hx]
    exact ⟨rfl, rfl⟩
  · obtain ⟨x, hx, rfl⟩ := sur a ha
    obtain ⟨y, hy, q1, q2⟩ := h.bk x hx
    exact ⟨f y, inn y hy, by rw [hm _ _ hx hy, q1], by rw [hm _ _ hy hx, q2]⟩
  · obtain ⟨x, hx, rfl⟩ := sur a ha
    obtain ⟨y, hy, rfl⟩ := sur b hb
    obtain ⟨z, hz, rfl⟩ := sur c hc
    show en t' (en t' _ _) _ = en t' _ (en t' _ _)
    rw [hm _ _ hx hy, hm _ _ hy hz, hm _ _ (h.cl hx hy) hz, hm _ _ hx (h.cl hy hz), h.as hx hy hz]
/-! ### a part's own group -/
def innT (t : Tbl) (P : List Int) : Tbl := P.map fun a => P.map fun b => (ix P (en t a b) : Int)
section
variable {t : Tbl} {e : Int} {P : List Int}
theorem innT_len : (innT t P).length = P.length := by unfold innT; rw [List.length_map]
theorem innT_en {i j : Int} (i0 : 0 ≤ i) (i1 : i < P.length) (j0 : 0 ≤ j) (j1 : j < P.length) : en (innT t P) i j = (ix P (en t (gt P i) (gt P j)) : Int) := by
  show gt (gt (innT t P) i) j = _
  unfold innT
  rw [gt_mapL i0 i1, gt_mapL j0 j1]
theorem innT_G (h : GTbl t e) (p : PartL t e P) : GTbl (innT t P) (ix P e : Int) := by
  have hn : (innT t P).length = P.length := innT_len
  have ip : ∀ {i : Int}, InT (innT t P) i → 0 ≤ i ∧ i < P.length ∧ gt P i ∈ P := fun {i} hi => ⟨hi.1, by have := hi.2; omega, gt_mem hi.1 (by have := hi.2; omega)⟩
  have xi : ∀ {x : Int}, x ∈ P → InT (innT t P) (ix P x : Int) := fun {x} hx => ⟨by omega, by have := ix_lt hx; omega⟩
  have enx : ∀ {x y : Int}, x ∈ P → y ∈ P → en (innT t P) (ix P x : Int) (ix P y : Int) = (ix P (en t x y) : Int) := fun {x y} hx hy => by
    rw [innT_en (xi hx).1 (ip (xi hx)).2.1 (xi hy).1 (ip (xi hy)).2.1, gt_ix hx, gt_ix hy]
  have bc : ∀ {i : Int}, InT (innT t P) i → i = (ix P (gt P i) : Int) := fun {i} hi => (ix_gt p.pt.nd (ip hi).1 (ip hi).2.1).symm
  have hl := p.len
  have h1 := h.sz.2.1
  refine ⟨⟨?_, by omega, fun r hr => ?_⟩, fun r hr z hz => ?_, xi p.pt.one, fun a a0 a1 => ?_, fun a ha => ?_, fun a b c ha hb hc => ?_⟩
  · rw [hn]; exact List.length_pos_of_mem p.pt.one
  · obtain ⟨a, _, rfl⟩ := List.mem_map.mp hr
    rw [hn, List.length_map]
  · obtain ⟨a, ha, rfl⟩ := List.mem_map.mp hr
    obtain ⟨b, hb, rfl⟩ := List.mem_map.mp hz
    exact xi (p.pt.mul a ha b hb)
  · have ha : InT (innT t P) a := ⟨a0, a1⟩
    have hm := (ip ha).2.2
    rw [bc ha, enx p.pt.one hm, enx hm p.pt.one, h.u1 (p.pt.inn _ hm), h.u2 (p.pt.inn _ hm)]
    exact ⟨rfl, rfl⟩
  · have hm := (ip ha).2.2
    have hb := p.bk h hm
    refine ⟨_, xi hb, ?_⟩
    rw [bc ha]
    refine ⟨?_, ?_⟩
    · rw [gt_ix hm, enx hm hb, bk_l h (p.pt.inn _ hm)]
    · rw [gt_ix hm, enx hb hm, bk_r h (p.pt.inn _ hm)]
  · have ma := (ip ha).2.2
    have mb := (ip hb).2.2
    have mc := (ip hc).2.2
    show en _ (en _ _ _) _ = en _ _ (en _ _ _)
    rw [bc ha, bc hb, bc hc, enx ma mb, enx mb mc, enx (p.pt.mul _ ma _ mb) mc, enx ma (p.pt.mul _ mb _ mc), h.as (p.pt.inn _ ma) (p.pt.inn _ mb) (p.pt.inn _ mc)]
theorem innT_bk (h : GTbl t e) (p : PartL t e P) {x : Int} (hx : x ∈ P) : bkf (innT t P) (ix P e : Int) (ix P x : Int) = (ix P (bkf t e x) : Int) := by
  have hn : (innT t P).length = P.length := innT_len
  have xi : ∀ {x : Int}, x ∈ P → InT (innT t P) (ix P x : Int) := fun {x} hx => ⟨by omega, by have := ix_lt hx; omega⟩
  have hb := p.bk h hx
  refine bk_one (innT_G h p) (xi hx) (xi hb) ?_
  rw [innT_en (xi hx).1 (by have := ix_lt hx; omega) (xi hb).1 (by have := ix_lt hb; omega), gt_ix hx, gt_ix hb, bk_l h (p.pt.inn x hx)]
theorem innT_grp (h : GTbl t e) (p : PartL t e P) : (⟨(innT t P).length, innT t P, (ix P e : Int), P.map fun x => (ix P (bkf t e x) : Int)⟩ : Grp) = grpOf (innT t P) (ix P e : Int) := by
  unfold grpOf
  congr 1
  have hn : (innT t P).length = P.length := innT_len
  refine List.ext_getElem (by rw [List.length_map, List.length_map, irange_len]; omega) fun i h1 h2 => ?_
  have hi : i < P.length := by simpa using h1
  rw [List.getElem_map, List.getElem_map, irange_get]
  have e1 : (i : Int) = (ix P P[i] : Int) := by
    have := ix_gt p.pt.nd (i := (i : Int)) (by omega) (by omega)
    rw [gt_nat hi] at this
    exact this.symm
  rw [e1, innT_bk h p (List.getElem_mem hi)]
/-! ### sides' numbers -/
abbrev sds (t : Tbl) (P : List Int) : List (List Int) := kinN (sid t P) t.length
def hm (t : Tbl) (P : List Int) (x : Int) : Nat := (sds t P).findIdx fun l => decide (x ∈ l)
theorem mem_sid_iff (h : GTbl t e) (p : PartL t e P) {x y : Int} (hx : InT t x) (hy : InT t y) : x ∈ sid t P y ↔ sid t P x = sid t P y := by
  have E := sid_eqv h p
  exact ⟨fun q => E.eq y hy x q, fun q => q ▸ E.self x hx⟩
theorem sds_at (h : GTbl t e) (p : PartL t e P) {k : Nat} (hk : k < (sds t P).length) : ∃ y, InT t y ∧ (sds t P)[k] = sid t P y ∧ gt (sds t P)[k] 0 = y := by
  obtain ⟨x, a, b, d, _⟩ := (kinI (sid_eqv h p) t.length (Nat.le_refl _)).orbs _ (List.getElem_mem hk)
  exact ⟨x, a, b, d⟩
theorem hm_spec (h : GTbl t e) (p : PartL t e P) {x : Int} (hx : InT t x) : ∃ hl : hm t P x < (sds t P).length, (sds t P)[hm t P x] = sid t P x := by
  have hc : x ∈ (sds t P).flatten := (kin_mem (sid_eqv h p) x).mpr (mem_irange.mpr hx)
  obtain ⟨l, hl, hxl⟩ := List.mem_flatten.mp hc
  have hlt : hm t P x < (sds t P).length := List.findIdx_lt_length_of_exists ⟨l, hl, decide_eq_true hxl⟩
  refine ⟨hlt, ?_⟩
  have q : x ∈ (sds t P)[hm t P x] := of_decide_eq_true (List.findIdx_getElem (p := fun l => decide (x ∈ l)) (w := hlt))
  obtain ⟨y, hy, e1, _⟩ := sds_at h p hlt
  rw [e1] at q ⊢
  exact ((mem_sid_iff h p hx hy).mp q).symm
theorem sds_inj (h : GTbl t e) (p : PartL t e P) {i j : Nat} (hi : i < (sds t P).length) (hj : j < (sds t P).length) (q : (sds t P)[i] = (sds t P)[j]) : i = j := by
  have hp := List.pairwise_iff_getElem.mp (show (sds t P).Pairwise fun a b => gt a 0 < gt b 0 from (kinI (sid_eqv h p) t.length (Nat.le_refl _)).heads)
  rcases Nat.lt_trichotomy i j with r | r | r
  · have := hp i j hi hj r
    rw [q] at this
    omega
  · exact r
  · have := hp j i hj hi r
    rw [q] at this
    omega
theorem hm_eq (h : GTbl t e) (p : PartL t e P) {x y : Int} (hx : InT t x) (hy : InT t y) : hm t P x = hm t P y ↔ sid t P x = sid t P y := by
  obtain ⟨l1, e1⟩ := hm_spec h p hx
  obtain ⟨l2, e2⟩ := hm_spec h p hy
  constructor
  · intro q
    rw [← e1, ← e2]
    simp only [q]
  · intro q
    exact sds_inj h p l1 l2 (by rw [e1, e2, q])
/-- a side's least thing -/
abbrev lf (t : Tbl) (P : List Int) (k : Nat) : Int := gt (gt (sds t P) (k : Int)) 0
theorem lf_spec (h : GTbl t e) (p : PartL t e P) {k : Nat} (hk : k < (sds t P).length) : InT t (lf t P k) ∧ (sds t P)[k] = sid t P (lf t P k) ∧ hm t P (lf t P k) = k := by
  obtain ⟨y, hy, e1, e2⟩ := sds_at h p hk
  have e3 : lf t P k = y := by show gt (gt (sds t P) (k : Int)) 0 = y; rw [gt_nat hk]; exact e2
  rw [e3]
  refine ⟨hy, e1, ?_⟩
  obtain ⟨l1, q⟩ := hm_spec h p hy
  exact sds_inj h p l1 hk (by rw [q, e1])
theorem sid_lf (h : GTbl t e) (p : PartL t e P) {x : Int} (hx : InT t x) : sid t P (lf t P (hm t P x)) = sid t P x := by
  obtain ⟨l1, q⟩ := hm_spec h p hx
  rw [← (lf_spec h p l1).2.1, q]
/-! ### steady parts -/
def St (t : Tbl) (e : Int) (P : List Int) : Prop := ∀ o, InT t o → ∀ x ∈ P, cj t e o x ∈ P
theorem bk_bk (h : GTbl t e) {x : Int} (hx : InT t x) : bkf t e (bkf t e x) = x := bk_one h (bk_in h hx) hx (bk_r h hx)
theorem woF_st (h : GTbl t e) (p : PartL t e P) (q : woF t e P = none) : St t e P := fun o ho x hx => by
  unfold woF at q
  rw [List.findSome?_eq_none_iff] at q
  have := q o (mem_irange.mpr ho)
  rw [Option.map_eq_none_iff, List.find?_eq_none] at this
  have := this x hx
  simpa using this
theorem st_woF (st : St t e P) : woF t e P = none := woF_none st
theorem sid_mul (h : GTbl t e) (p : PartL t e P) (st : St t e P) {x x' y y' : Int} (hx : InT t x) (hx' : InT t x') (hy : InT t y) (hy' : InT t y') (q1 : sid t P x' = sid t P x) (q2 : sid t P y' = sid t P y) : sid t P (en t x' y') = sid t P (en t x y) := by
  have E := sid_eqv h p
  obtain ⟨a, ha, rfl⟩ := mem_sid.mp ((mem_sid_iff h p hx' hx).mpr q1)
  obtain ⟨b, hb, rfl⟩ := mem_sid.mp ((mem_sid_iff h p hy' hy).mpr q2)
  refine E.eq _ (h.cl hx hy) _ (mem_sid.mpr ⟨en t (cj t e (bkf t e y) a) b, p.pt.mul _ (st _ (bk_in h hy) a ha) b hb, ?_⟩)
  have ia := p.pt.inn a ha
  have ib := p.pt.inn b hb
  have iy := bk_in h hy
  unfold cj
  rw [bk_bk h hy]
  rw [h.as (h.cl iy ia) hy ib, h.as iy ia (h.cl hy ib), h.as hx hy (h.cl iy (h.cl ia (h.cl hy ib))), ← h.as hy iy (h.cl ia (h.cl hy ib)), bk_l h hy, h.u1 (h.cl ia (h.cl hy ib)), h.as hx ia (h.cl hy ib)]
/-- the group of the sides -/
def fdT (t : Tbl) (P : List Int) : Tbl := (sds t P).map fun a => (sds t P).map fun b => (hm t P (en t (gt a 0) (gt b 0)) : Int)
theorem fdT_len : (fdT t P).length = (sds t P).length := by unfold fdT; rw [List.length_map]
theorem fdT_en (h : GTbl t e) (p : PartL t e P) (st : St t e P) {x y : Int} (hx : InT t x) (hy : InT t y) : en (fdT t P) (hm t P x : Int) (hm t P y : Int) = (hm t P (en t x y) : Int) := by
  obtain ⟨l1, q1⟩ := hm_spec h p hx
  obtain ⟨l2, q2⟩ := hm_spec h p hy
  show gt (gt (fdT t P) _) _ = _
  unfold fdT
  rw [gt_mapL (by omega) (by omega), gt_mapL (by omega) (by omega)]
  congr 1
  have i1 := (lf_spec h p l1).1
  have i2 := (lf_spec h p l2).1
  exact (hm_eq h p (h.cl i1 i2) (h.cl hx hy)).mpr (sid_mul h p st hx i1 hy i2 (sid_lf h p hx) (sid_lf h p hy))
theorem sds_len (h : GTbl t e) (p : PartL t e P) : 1 ≤ (sds t P).length ∧ (sds t P).length ≤ t.length := by
  obtain ⟨l1, _⟩ := hm_spec h p h.he
  exact ⟨by omega, kinN_len _ _⟩
theorem fdT_G (h : GTbl t e) (p : PartL t e P) (st : St t e P) : GTbl (fdT t P) (hm t P e : Int) := by
  obtain ⟨n1, n2⟩ := sds_len h p
  have h1 := h.sz.2.1
  refine img_G h (fun x => (hm t P x : Int)) ⟨by rw [fdT_len]; exact n1, by rw [fdT_len]; omega, fun r hr => ?_⟩ (fun x hx => ⟨by omega, by rw [fdT_len]; have := (hm_spec h p hx).1; omega⟩) (fun i hi => ?_) fun x y hx hy => fdT_en h p st hx hy
  · obtain ⟨a, _, rfl⟩ := List.mem_map.mp hr
    rw [List.length_map, fdT_len]
  · have := hi.2
    rw [fdT_len] at this
    have i0 := hi.1
    obtain ⟨a, _, c⟩ := lf_spec h p (k := i.toNat) (by omega)
    exact ⟨_, a, by rw [c]; omega⟩
theorem fdT_grp (h : GTbl t e) (p : PartL t e P) (st : St t e P) : (⟨(fdT t P).length, fdT t P, (hm t P e : Int), (sds t P).map fun s => (hm t P (bkf t e (gt s 0)) : Int)⟩ : Grp) = grpOf (fdT t P) (hm t P e : Int) := by
  unfold grpOf
  congr 1
  refine List.ext_getElem (by rw [List.length_map, List.length_map, irange_len, fdT_len]; omega) fun i h1 h2 => ?_
  have hi : i < (sds t P).length := by simpa using h1
  rw [List.getElem_map, List.getElem_map, irange_get]
  obtain ⟨a, _, c⟩ := lf_spec h p hi
  have e1 : gt (sds t P)[i] 0 = lf t P i := by show _ = gt (gt _ _) 0; rw [gt_nat hi]
  rw [e1]
  have ib := bk_in h a
  have G := fdT_G h p st
  have inn : ∀ x, InT t x → InT (fdT t P) (hm t P x : Int) := fun x hx => ⟨by omega, by rw [fdT_len]; have := (hm_spec h p hx).1; omega⟩
  have := bk_one G (inn _ a) (inn _ ib) (by rw [fdT_en h p st a ib, bk_l h a])
  rw [c] at this
  exact this.symm
/-- the numbers of all things' sides -/
def hmL (t : Tbl) (P : List Int) : List Int := (irange t.length).map fun x => (hm t P x : Int)
/-! ### the walk along the sides -/
theorem kinN_pre (F : Int → List Int) {i : Nat} : ∀ {n : Nat}, i ≤ n → kinN F i <+: kinN F n
  | 0, h => by rw [show i = 0 by omega]; exact List.prefix_rfl
  | n + 1, h => by
    by_cases q : i = n + 1
    · rw [q]; exact List.prefix_rfl
    · have ih := kinN_pre F (i := i) (n := n) (by omega)
      rw [kinN]
      split
      · exact ih
      · exact List.IsPrefix.trans ih (List.prefix_append _ _)
theorem kinN_at (h : GTbl t e) (p : PartL t e P) {i k : Nat} (hi : i ≤ t.length) (hk : k < (kinN (sid t P) i).length) : ∃ hk' : k < (sds t P).length, (kinN (sid t P) i)[k] = (sds t P)[k] := by
  have pre := kinN_pre (sid t P) hi
  exact ⟨Nat.lt_of_lt_of_le hk pre.length_le, pre.getElem hk⟩
/-- a thing lies in a side that is told just where its number is one of these -/
theorem kinN_own (h : GTbl t e) (p : PartL t e P) {i k : Nat} (hi : i ≤ t.length) (hk : k < (kinN (sid t P) i).length) {x : Int} (hx : InT t x) : x ∈ (kinN (sid t P) i)[k] ↔ hm t P x = k := by
  obtain ⟨hk', e1⟩ := kinN_at h p hi hk
  rw [e1]
  obtain ⟨a, b, c⟩ := lf_spec h p hk'
  rw [b, mem_sid_iff h p hx a, ← hm_eq h p hx a, c]
end
end TB

/-! TbTry: try with clauses, some of them with a name; what is caught may be kept. -/
namespace TB
open PySem PySem.Spec PyProof.Rows L2
/-- a caught exception that is kept at a -/
def XT (cls : Value) (d : Option Addr) (a : Addr) : HO := .ext fun h => ∃ (oe : Obj) (vs : Array Value), h.get? a = some oe ∧ Zc cls d oe ∧ oe.data = .fields vs
section
variable {X : Cx} {pins : List (Addr × Obj)} {σ : L2.St} {H : Hp} {s : Shared}
end
abbrev Hdl := Value × Option Nat × (Addr → Value → Option Addr → TS)
section
variable {X : Cx} {body : List Stmt} {h₀ : ExceptHandler} {hds : List ExceptHandler} {l : List Hdl} {pos : Pos} {tb : WX → TS} {Wout : WX}
end
end TB

/-! TbEx: exceptions as data: what is caught and kept, isinstance, fields. -/
namespace TB
open PySem PySem.Spec PyProof.Rows L2
def XtOk (Z : Zz) (R : Hp) (r : Rf) (cls : Value) (d : Option Addr) : Prop := cls = .ref (Z.cls r.name) ∧ ((r.fs = [] ∧ d = none) ∨ ∃ dx, d = some dx ∧ R dx = some (.xd r.fs))
theorem XtOk.mono {Z : Zz} {R R' : Hp} {r : Rf} {cls : Value} {d : Option Addr} (e : Same R R') (h : XtOk Z R r cls d) : XtOk Z R' r cls d := by
  obtain ⟨h1, h2 | ⟨dx, h3, h4⟩⟩ := h
  · exact ⟨h1, .inl h2⟩
  · exact ⟨h1, .inr ⟨dx, h3, e _ _ h4⟩⟩
instance : Rp Rf := ⟨⟨.BookError, []⟩, fun Z H v r => ∃ a cls d, v = .ref a ∧ H a = some (XT cls d a) ∧ XtOk Z H r cls d, fun e h => by
  obtain ⟨a, cls, d, h1, h2, h3⟩ := h
  exact ⟨a, cls, d, h1, e _ _ h2, h3.mono e⟩⟩
/-- the exception that a suite holds -/
def ExO1 (a : Addr) (d : Option Addr) (r : Rf) : Own := ⟨fun Z R _ v => v = .ref a ∧ XtOk Z R r (.ref (Z.cls r.name)) d, fun e h => ⟨h.1, h.2.mono e⟩⟩
abbrev Sl.ex (a : Addr) (d : Option Addr) (r : Rf) : Sl := .ow (ExO1 a d r)
section
variable {Z : Zz} {B R0 R R' H H' : Hp} {ρ σ : List (Option V)} {Δ Γ : List Sl}
end
/-! ### the classes -/
def mroV (Z : Zz) (C : CN) : List Value := (if C = .BookError then [] else [.ref (Z.cls C)]) ++ [.ref (Z.cls .BookError), .type "ValueError", .type "Exception", .type "BaseException", .type "object"]
structure ExsC (Z : Zz) (C : CN) : Prop where
  mro : (PySem.W.clsIn Z.K (Z.cls C)).map (·.mro) = some (mroV Z C)
  ty : PySem.W.typeIn Z.K (.ref (Z.cls C)) = some (.type "type")
  hd : PySem.W.hasDictIn Z.K (Z.cls C) = true
  ga : PySem.W.findIn Z.K (.ref (Z.cls C)) "__getattribute__" = some (some (.builtin "BaseException.__getattribute__"))
  gg : PySem.W.findIn Z.K (.ref (Z.cls C)) "__getattr__" = some none
  ca : PySem.W.findIn Z.K (.ref (Z.cls C)) "__class__" = some (some (.builtin "object.__class__"))
def ExsL (Z : Zz) : List CN → Prop
  | [] => True
  | C :: r => ExsC Z C ∧ ExsL Z r
structure Exs (Z : Zz) (L : List CN) : Prop where
  all : ExsL Z L
  inj : (L.map Z.cls).Nodup
  base : .BookError ∈ L
  sg : PySem.W.specialIn Z.K (.builtin "object.__class__") "__get__" = some (some (.builtin "getset_descriptor.__get__"))
  tk : PySem.W.takesIn Z.K (.builtin "object.__class__") = some true
theorem ExsL.at {Z : Zz} : ∀ {L : List CN}, ExsL Z L → ∀ {C : CN}, C ∈ L → ExsC Z C
  | _ :: _, ⟨h, t⟩, C, m => by
    rcases List.mem_cons.mp m with e | e
    · rw [e]; exact h
    · exact ExsL.at t e
/-- D stands beneath C -/
def subB (D C : CN) : Bool := decide (D = C) || decide (C = .BookError)
section
variable {Z : Zz} {L : List CN} {C D : CN}
theorem nd_inj : ∀ {L : List CN} {f : CN → Addr}, (L.map f).Nodup → ∀ {C D : CN}, C ∈ L → D ∈ L → f C = f D → C = D
  | x :: r, f, h, C, D, hC, hD, e => by
    simp only [List.map_cons, List.nodup_cons] at h
    rcases List.mem_cons.mp hC with q | q <;> rcases List.mem_cons.mp hD with q' | q'
    · rw [q, q']
    · subst q
      exact absurd (e ▸ List.mem_map.mpr ⟨D, q', rfl⟩) h.1
    · subst q'
      exact absurd (e ▸ List.mem_map.mpr ⟨C, q, rfl⟩) h.1
    · exact nd_inj h.2 q q' e
theorem Exs.at (E : Exs Z L) (h : C ∈ L) : ExsC Z C := E.all.at h
theorem Exs.inj' (E : Exs Z L) (hC : C ∈ L) (hD : D ∈ L) (e : Z.cls C = Z.cls D) : C = D := nd_inj E.inj hC hD e
theorem mroV_ne : (mroV Z C).isEmpty = false := by
  unfold mroV
  cases (if C = .BookError then ([] : List Value) else [.ref (Z.cls C)]) <;> rfl
theorem Exs.subV (E : Exs Z L) (hD : D ∈ L) (b : Value) : PySem.W.subIn Z.K (.ref (Z.cls D)) b = some ((mroV Z D).contains b) := by
  have h := (E.at hD).mro
  obtain ⟨cd, h1, h2⟩ := Option.map_eq_some_iff.mp h
  show (PySem.W.clsIn Z.K (Z.cls D)).bind _ = _
  rw [h1]
  show (if cd.mro.isEmpty = true then none else some (cd.mro.contains b)) = _
  rw [h2, mroV_ne]
  rfl
theorem ref_beq {a b : Addr} : ((Value.ref a : Value) == .ref b) = decide (a = b) := by
  by_cases h : a = b
  · rw [h, decide_eq_true rfl]; exact beq_self_eq_true _
  · rw [decide_eq_false h]
    exact Bool.eq_false_iff.mpr fun q => h (Value.ref.inj (beq_iff_eq.mp q))
theorem ref_tbeq {a : Addr} {t : String} : ((Value.ref a : Value) == .type t) = false := Bool.eq_false_iff.mpr fun q => by cases beq_iff_eq.mp q
theorem Exs.sub (E : Exs Z L) (hD : D ∈ L) (hC : C ∈ L) : PySem.W.subIn Z.K (.ref (Z.cls D)) (.ref (Z.cls C)) = some (subB D C) := by
  rw [E.subV hD]
  congr 1
  have e1 : decide (Z.cls C = Z.cls D) = decide (D = C) := decide_eq_decide.mpr ⟨fun h => (E.inj' hC hD h).symm, fun h => by rw [h]⟩
  have e2 : decide (Z.cls C = Z.cls .BookError) = decide (C = .BookError) := decide_eq_decide.mpr ⟨fun h => E.inj' hC E.base h, fun h => by rw [h]⟩
  have tail : ([.type "ValueError", .type "Exception", .type "BaseException", .type "object"] : List Value).contains (.ref (Z.cls C)) = false := by
    simp only [List.contains_cons, List.contains_nil, ref_tbeq, Bool.or_false]
  unfold mroV subB
  by_cases h : D = .BookError
  · rw [if_pos h, List.nil_append, List.contains_cons, ref_beq, e2, tail, Bool.or_false, h]
    by_cases c : C = .BookError
    · simp [c]
    · have : ¬ CN.BookError = C := fun z => c z.symm
      simp [c, this]
  · rw [if_neg h, List.cons_append, List.nil_append, List.contains_cons, List.contains_cons, ref_beq, ref_beq, e1, e2, tail, Bool.or_false]
theorem Exs.clsT (E : Exs Z L) (hC : C ∈ L) : ((PySem.W.clsIn Z.K (Z.cls C)).isSome && PySem.W.typeIn Z.K (.ref (Z.cls C)) == some (.type "type")) = true := by
  obtain ⟨cd, h1, h2⟩ := Option.map_eq_some_iff.mp (E.at hC).mro
  rw [h1, (E.at hC).ty]
  rfl
theorem Exs.kit (E : Exs Z L) (hD : D ∈ L) (hC : C ∈ L) : PySem.W.kitCls Z.K (.ref (Z.cls D)) (.ref (Z.cls C)) = some (subB D C) := by
  unfold PySem.W.kitCls
  show (if _ then PySem.W.subIn _ _ _ else none) = _
  rw [if_pos (E.clsT hC)]
  exact E.sub hD hC
theorem Exs.one (E : Exs Z L) (hD : D ∈ L) (hC : C ∈ L) : PySem.W.kitOne Z.K (.ref (Z.cls D)) (.ref (Z.cls C)) = some (subB D C) := by
  unfold PySem.W.kitOne
  rw [ref_beq]
  by_cases c : D = C
  · subst c
    rw [if_pos (decide_eq_true rfl)]
    simp [subB]
  · rw [if_neg (by simp only [decide_eq_true_eq]; exact fun z => c (E.inj' hD hC z))]
    exact E.kit hD hC
end
end TB

namespace TB
open PySem PySem.Spec PyProof.Rows L2
/-! ### isinstance of what was kept -/
section
variable {Z : Zz} {L : List CN} {C D : CN}
end
end TB

namespace TB
open PySem PySem.Spec PyProof.Rows L2
section
variable {c : Cn} {Γ : List Sl} {ta tb te tl : TE} {tt tc : TT} {t u : TS} {s so : Sl} {α β γ : Type} {_ : Rp α} {_ : Rp β} {_ : Rp γ} {P : Po} {d : α} {L : List CN}
/-! ### try -/
end
end TB

/-! TbPr: own pairs of any two slots; texts compared. -/
namespace TB
open PySem L2
def Pr (s1 s2 : Sl) : Own := ⟨fun Z R h v => ∃ (a : Addr) (x y : V) (f1 f2 : List Addr), v = .ref a ∧ (a :: (f1 ++ f2)).Nodup ∧ h a = some (.tup [x, y]) ∧ slok Z R h (some x) s1 f1 ∧ slok Z R h (some y) s2 f2,
  fun e h => by
    obtain ⟨a, x, y, f1, f2, h1, h2, h3, h4, h5⟩ := h
    exact ⟨a, x, y, f1, f2, h1, h2, h3, slok_mono e (fun _ _ => rfl) h4, slok_mono e (fun _ _ => rfl) h5⟩⟩
abbrev Sl.pr (s1 s2 : Sl) : Sl := .ow (Pr s1 s2)
section
variable {Z : Zz} {B R0 R R' H H' : Hp} {τ ρ σ : List (Option V)} {Θ Δ Γ : List Sl} {s s' s1 s2 : Sl} {o : Option V} {f g own : List Addr}
theorem slok_pr {a : Addr} {x y : V} {f1 f2 : List Addr} (nd : (a :: (f1 ++ f2)).Nodup) (h : H a = some (.tup [x, y])) (h1 : slok Z R H (some x) s1 f1) (h2 : slok Z R H (some y) s2 f2) : slok Z R H (some (.ref a)) (.pr s1 s2) (a :: (f1 ++ f2)) := by
  refine ⟨.ref a, rfl, ⟨a, x, y, f1, f2, rfl, nd, by rw [res_in (by simp)]; exact h, slok_mono (Same.refl _) (fun p hp => res_in (by simp [hp])) h1, slok_mono (Same.refl _) (fun p hp => res_in (by simp [hp])) h2⟩, fun p hp => ?_⟩
  rcases List.mem_cons.mp hp with q | q
  · rw [q, h]; simp
  · rcases List.mem_append.mp q with q | q
    · exact slok_some h1 p q
    · exact slok_some h2 p q
theorem slok_pr' (h : slok Z R H o (.pr s1 s2) f) : ∃ (a : Addr) (x y : V) (f1 f2 : List Addr), o = some (.ref a) ∧ (a :: (f1 ++ f2)).Nodup ∧ (∀ p ∈ a :: (f1 ++ f2), p ∈ f) ∧ H a = some (.tup [x, y]) ∧ slok Z R H (some x) s1 f1 ∧ slok Z R H (some y) s2 f2 := by
  obtain ⟨v, rfl, ⟨a, x, y, f1, f2, rfl, nd, h1, h2, h3⟩, h4⟩ := h
  have k : ∀ p, res H f p ≠ none → p ∈ f ∧ H p = res H f p := fun p hp => by
    by_cases c : p ∈ f
    · exact ⟨c, (res_in c).symm⟩
    · exact absurd (by unfold res; rw [if_neg c]) hp
  have ka := k a (by rw [h1]; simp)
  refine ⟨a, x, y, f1, f2, rfl, nd, fun p hp => ?_, by rw [ka.2]; exact h1, slok_mono (Same.refl _) (fun p hp => (k p (slok_some h2 p hp)).2) h2, slok_mono (Same.refl _) (fun p hp => (k p (slok_some h3 p hp)).2) h3⟩
  rcases List.mem_cons.mp hp with q | q
  · rw [q]; exact ka.1
  · rcases List.mem_append.mp q with q | q
    · exact (k p (slok_some h2 p q)).1
    · exact (k p (slok_some h3 p q)).1
/-- a pair is taken apart -/
theorem sx_unpair {v : V} (S : Sx Z B R0 R H (some v :: ρ) (.pr s1 s2 :: Δ) σ Γ) : ∃ (a : Addr) (x y : V), v = .ref a ∧ H a = some (.tup [x, y]) ∧ Sx Z B R0 R H (some x :: some y :: ρ) (s1 :: s2 :: Δ) σ Γ := by
  obtain ⟨hl, own, hs, f, g, rfl, h1, es⟩ := S
  obtain ⟨a, x, y, f1, f2, e, nd, sub, ha, k1, k2⟩ := slok_pr' h1
  cases e
  have ndo := hs.nd
  refine ⟨a, x, y, rfl, ha, by simpa using hl, f1 ++ (f2 ++ g), hs_sub hs (fun p hp => ?_) ?_, f1, f2 ++ g, rfl, k1, f2, g, rfl, k2, es⟩
  · simp only [List.mem_append] at hp ⊢
    rcases hp with q | q | q
    · exact .inl (sub p (by simp [q]))
    · exact .inl (sub p (by simp [q]))
    · exact .inr q
  · simp only [List.nodup_append, List.nodup_cons, List.mem_append] at nd ndo ⊢
    refine ⟨nd.2.1, ⟨nd.2.2.1, ndo.2.1, fun p hp q hq z => ndo.2.2 p (sub p (by simp [hp])) q hq z⟩, fun p hp q hq z => ?_⟩
    rcases hq with r | r
    · exact nd.2.2.2 p hp q r z
    · exact ndo.2.2 p (sub p (by simp [hp])) q r z
/-- the two things on top make a pair -/
theorem sx_pair {p : Addr} {x y : V} (S : Sx Z B R0 R H (some x :: some y :: ρ) (s1 :: s2 :: Δ) σ Γ) (np : H p = none) : Sx Z B R0 R (upd H p (.tup [x, y])) (some (.ref p) :: ρ) (.pr s1 s2 :: Δ) σ Γ := by
  obtain ⟨hl, own, hs, f1, g1, rfl, h1, f2, g2, rfl, h2, es⟩ := S
  have fp := fresh_own hs (Z := Z) (τ := some x :: some y :: (ρ ++ σ)) (Θ := s1 :: s2 :: (Δ ++ Γ)) ⟨f1, _, rfl, h1, f2, g2, rfl, h2, es⟩ np
  have nd := hs.nd
  have ne : ∀ q, q ∈ f1 ++ (f2 ++ g2) → q ≠ p := fun q hq z => fp.2.2 (z ▸ hq)
  have ndp : (p :: (f1 ++ f2)).Nodup := by
    have q := fp.2.2
    simp only [List.nodup_cons, List.nodup_append, List.mem_append] at nd q ⊢
    grind
  refine ⟨by simpa using hl, (p :: (f1 ++ f2)) ++ g2, ⟨hs.rh.trans (same_upd np), hs.bh.trans (same_upd np), hs.r0, hs.nw, fun b hb => ?_, ?_⟩, p :: (f1 ++ f2), g2, rfl, slok_pr ndp upd_same (slok_mono (Same.refl _) (fun b hb => upd_ne (ne b (by simp [hb]))) h1) (slok_mono (Same.refl _) (fun b hb => upd_ne (ne b (by simp [hb]))) h2), es_mono (Same.refl _) (fun b hb => upd_ne (ne b (by simp [hb]))) es⟩
  · simp only [List.cons_append, List.mem_cons, List.mem_append] at hb
    rcases hb with rfl | hb
    · exact ⟨fp.1, fp.2.1⟩
    · exact hs.ow b (by simp only [List.mem_append]; grind)
  · have q := fp.2.2
    simp only [List.cons_append, List.nodup_cons, List.nodup_append, List.mem_append] at nd q ⊢
    grind
end
section
variable {c : Cn} {Γ : List Sl} {ta tb te tl : TE} {tt tc : TT} {t u : TS} {s s' s1 s2 : Sl} {α β γ : Type} {_ : Rp α} {_ : Rp β} {_ : Rp γ} {P : Po} {d : α}
/-- x, y = a pair -/
theorem w_asgPr {i j : Nat} (h : Ev c Γ te (.pr s1 s2)) (k : P.nx ((Γ.set i s1).set j s2)) : W c Γ (tAsg te (gTup c.Z.K 2 (gCons (gName i) (gCons (gName j) gNil)))) P := fun B R0 R H ρ Δ σ D S n r bb kk x =>
  h B R0 R H ρ Δ σ S _ (fun v R1 H1 S1 => by
    obtain ⟨a, y, z, rfl, ha, S2⟩ := sx_unpair S1
    exact ⟨a, _, rfl, SqT.of ha, rfl, _, _, rfl, _, _, rfl, rfl, n R1 H1 _ _ (sx_asg (sx_asg S2 i) j) k⟩) x
theorem ev_isSomeD {o : Option α} (ha : Ev c Γ ta (.im o)) (hn : ∀ Z R v (d : α), Rp.rp Z R v d → v ≠ .non) : Ev c Γ (tOp gIsNot ta (tC .non)) (.im o.isSome) := ev_isNotN ha _ fun R v rv => by
  cases o with
  | none =>
    have e : v = V.non := rv
    rw [e]; rfl
  | some d => simp [hn _ _ _ _ rv]
end
end TB
namespace TB
open PySem L2
section
variable {c : Cn} {Γ : List Sl} {te : TE} {s : Sl} {α : Type} {_ : Rp α}
end
end TB

/-! TbMv: things moved out of their slots; own pairs' parts; groups of own parts; fields of kept exceptions. -/
namespace TB
open PySem PySem.Spec PyProof.Rows L2
/-- worth s, the slots as Γ' tells behind it -/
def EvM (c : Cn) (Γ : List Sl) (t : TE) (s : Sl) (Γ' : List Sl) : Prop := ∀ B R0 R H ρ Δ σ, Sx c.Z B R0 R H ρ Δ σ Γ → ∀ Q : VK, (∀ v R' H', Sx c.Z B R0 R' H' (some v :: ρ) (s :: Δ) σ Γ' → Q v H') → Xok c B R0 ρ Δ → t σ H Q
section
variable {c : Cn} {Γ Γ1 Γ2 Γ3 : List Sl} {ta tb td te tl : TE} {tt tc : TT} {t u : TS} {s s1 s2 so : Sl} {α β γ : Type} {_ : Rp α} {_ : Rp β} {_ : Rp γ} {P : Po} {d : α}
theorem em_of (h : Ev c Γ te s) : EvM c Γ te s Γ := h
theorem em_take {i : Nat} (hv : Val so) (e : Γ[i]? = some so) : EvM c Γ (tVar i) so (Γ.set i .un) := fun B R0 R H ρ Δ σ S Q q _ => by
  obtain ⟨o, h1, S2⟩ := sx_take S e
  obtain ⟨o2, f, h2, h3⟩ := sx_slot S e
  obtain ⟨v, rfl⟩ := hv _ _ _ _ _ h3
  rw [h1] at h2
  cases h2
  exact ⟨v, h1, q v R H S2⟩
theorem em_pr (h1 : EvM c Γ ta s1 Γ1) (h2 : EvM c Γ1 tb s2 Γ2) : EvM c Γ (tTup (tCons ta (tCons tb tNil))) (.pr s1 s2) Γ2 := fun B R0 R H ρ Δ σ S Q q xk =>
  h1 B R0 R H ρ Δ σ S _ (fun x R1 H1 S1 => h2 B R0 R1 H1 _ _ σ S1 _ (fun y R2 H2 S2 => ⟨by show 2 ≤ sizeLine; decide, fun p np => q _ R2 _ (sx_pair (sx_swapTop S2) np)⟩) xk.push1) xk
theorem w_retM (h : EvM c Γ te s Γ1) (k : P.rt s) : W c Γ (tRet te) P := fun B R0 R H ρ Δ σ D S n r b kk x =>
  h B R0 R H ρ Δ σ S _ (fun v R1 H1 S1 => r R1 H1 v s (sx_leave S1) k) x
/-- a group of own parts -/
theorem em_mkGroup {rows : List (List Int)} {unit : Int} {backs : List Int} (hZ : GrpC c.Z) (h1 : EvM c Γ ta (.o2 rows) Γ1) (h2 : EvM c Γ1 tb (.im unit) Γ2) (h3 : EvM c Γ2 td (.ol backs) Γ3) :
    EvM c Γ (tMake (c.Z.cls .Group) (spI_Group c.Z) [] E0 (tCons ta (tCons tb (tCons td tNil)))) (.fo (⟨rows.length, rows, unit, backs⟩ : Grp)) Γ3 := fun B R0 R H ρ Δ σ S Q q xk =>
  h1 B R0 R H ρ Δ σ S _ (fun v R1 H1 S1 => h2 B R0 R1 H1 _ _ σ S1 _ (fun v2 R2 H2 S2 => h3 B R0 R2 H2 _ _ σ S2 _ (fun v3 R3 H3 S3 x dx nx ndx hne => by
    have hu : v2 = .int unit := sx_top' (sx_pop S3)
    subst hu
    obtain ⟨hl, own, hs, f, g, rfl, ⟨p3, vs3, rfl, e3, h3, h4⟩, f2, g', rfl, ⟨p1, qs, rfl, h6, h7, h8⟩, h9⟩ := sx_pop2 S3
    cases e3
    cases h6
    have nlx : p1 ≠ x := fun e => by subst e; rw [nx] at h7; cases h7
    have nld : p1 ≠ dx := fun e => by subst e; rw [ndx] at h7; cases h7
    refine ⟨x, dx, p1, qs.map V.ref, _, _, rfl, upd_same, by rw [upd_ne nlx, upd_ne nld]; exact h7, hZ, fun H4 q1 q2 => ⟨rfl, ?_⟩⟩
    have old : ∀ p, H3 p ≠ none → H4 p = H3 p := fun p hp => by
      have a1 : p ≠ x := fun e => hp (e ▸ nx)
      have a2 : p ≠ dx := fun e => hp (e ▸ ndx)
      rw [q2 p a1, upd_ne a1, upd_ne a2]
    have sm : Same H3 H4 := fun p o e => by rw [old p (by rw [e]; simp)]; exact e
    have hd : H4 dx ≠ none := by rw [q2 dx hne, upd_ne hne, upd_same]; simp
    have hx : H4 x ≠ none := by rw [q1]; simp
    have own_old : ∀ p ∈ p3 :: ((p1 :: qs) ++ g'), H3 p ≠ none := by
      intro p hp
      have es2 : Es c.Z R3 H3 (some (.ref p3) :: some (.ref p1) :: (ρ ++ σ)) (.ol backs :: .o2 rows :: (Δ ++ Γ3)) (p3 :: ((p1 :: qs) ++ g')) := ⟨[p3], _, rfl, ⟨p3, vs3, rfl, rfl, h3, h4⟩, p1 :: qs, g', rfl, ⟨p1, qs, rfl, rfl, h7, h8⟩, h9⟩
      exact es_some es2 p hp
    have nin : ∀ p, H3 p = none → p ∉ p3 :: ((p1 :: qs) ++ g') := fun p hp z => own_old p z hp
    have e3 : H4 p3 = some (.lst vs3) := by rw [old p3 (by rw [h3]; simp)]; exact h3
    have e7 : H4 p1 = some (.lst (qs.map V.ref)) := by rw [old p1 (by rw [h7]; simp)]; exact h7
    refine q _ R3 H4 ⟨by simpa using hl, (x :: dx :: p3 :: p1 :: qs) ++ g', ⟨hs.rh.trans sm, hs.bh.trans sm, hs.r0, hs.nw, fun p hp => ?_, ?_⟩, x :: dx :: p3 :: p1 :: qs, g', rfl, ⟨_, rfl, ?_, fun p hp => ?_⟩, es_mono (Same.refl _) (fun p hp => old p (own_old p (by simp [hp]))) h9⟩
    · simp only [List.cons_append, List.mem_cons] at hp
      rcases hp with rfl | rfl | hp
      · exact ⟨hs.rh.free nx, hs.bh.free nx⟩
      · exact ⟨hs.rh.free ndx, hs.bh.free ndx⟩
      · exact hs.ow p (by simpa using hp)
    · have n1 := nin x nx
      have n2 := nin dx ndx
      have nd := hs.nd
      simp only [List.cons_append, List.nil_append] at nd n1 n2 ⊢
      refine List.nodup_cons.mpr ⟨?_, List.nodup_cons.mpr ⟨n2, nd⟩⟩
      simp only [List.mem_cons] at n1 ⊢
      rintro (z | z)
      · exact hne z.symm
      · exact n1 z
    · refine ⟨hZ, x, dx, _, _, _, _, rfl, by rw [res_in (by simp)]; exact q1, by rw [List.length_map, Paired.length h8]; rfl, ⟨p1, _, rfl, by rw [res_in (by simp)]; exact e7, ?_⟩, rfl, p3, vs3, rfl, by rw [res_in (by simp)]; exact e3, paired_mono (fun _ _ => Flt.fl) h4⟩
      have h8' : Paired (inOk c.Z (fun _ => none) H3) qs rows := paired_mono (fun _ _ ⟨vs, a, b⟩ => ⟨vs, a, paired_mono (fun _ _ => Flt.fl) b⟩) h8
      exact inOk_rp (fun _ _ e => by cases e) (fun q hq o e => by rw [res_in (by simp [hq]), old q (by rw [e]; simp)]; exact e) h8'
    · simp only [List.mem_cons] at hp
      rcases hp with rfl | rfl | hp
      · exact hx
      · exact hd
      · have : H3 p ≠ none := own_old p (by simp only [List.mem_cons, List.mem_append]; grind)
        rw [old p this]
        exact this) xk.push1.push1) xk.push1) xk
/-- what is told is frozen -/
theorem em_frz (hL : Lnd so d) (h : EvM c Γ te so Γ1) : EvM c Γ te (.im d) Γ1 := fun B R0 R H ρ Δ σ S Q q x => h B R0 R H ρ Δ σ S Q (fun v R' H' S' => by
  obtain ⟨R2, _, S2⟩ := sx_frzTop hL S'
  exact q v R2 H' S2) x
theorem em_grpIm {g : Grp} (h : EvM c Γ te (.fo g) Γ1) : EvM c Γ te (.im g) Γ1 := em_frz lnd_fo h
/-! ### parts of own pairs -/
theorem ev_prT1 (h : Ev c Γ te (.pr s1 s2)) : Ev c Γ (tOp (gIx c.Z.K) te (tC (.int 0))) s1 := fun B R0 R H ρ Δ σ S Q q x => h B R0 R H ρ Δ σ S _ (fun v R1 H1 S1 => by
  obtain ⟨a, y, z, rfl, ha, S2⟩ := sx_unpair S1
  exact .inr (.inl ⟨a, [y, z], 0, y, rfl, rfl, SqT.of ha, rfl, q y R1 H1 (sx_pop2 S2)⟩)) x
end
/-! ### fields of exceptions that were kept -/
section
variable {c : Cn} {Γ : List Sl} {te : TE}
end
end TB

/-! ### folded -/
namespace TB
open PySem L2
--use TbIn
--use TbMv
--extra T.grpC
/-- those of the first sides alone -/
def hmN (t : Tbl) (P : List Int) (k : Nat) (q : List Int) : List Int := (irange t.length).map fun x => if hm t P x < k ∨ x ∈ q then (hm t P x : Int) else 0
theorem hmN_put {t : Tbl} {P : List Int} {k : Nat} {q : List Int} {x : Int} (hx : InT t x) (hk : hm t P x = k) : (hmN t P k q).set x.toNat (k : Int) = hmN t P k (q ++ [x]) := by
  unfold hmN
  refine List.ext_getElem (by simp) fun i h1 h2 => ?_
  have hi : i < (irange t.length).length := by simpa using h2
  rw [List.getElem_set, List.getElem_map, List.getElem_map, irange_get hi]
  split
  · rename_i c
    have : (i : Int) = x := by have := hx.1; omega
    rw [this, hk, if_pos (.inr (by simp))]
  · rename_i c
    have : ¬ (i : Int) = x := by have := hx.1; omega
    simp only [List.mem_append, List.mem_singleton, this, or_false]
def T_folded : Tm := tm2 fun (g : Grp) (P : List Int) ok er => ∃ (t : Tbl) (e : Int), GTbl t e ∧ g = grpOf t e ∧ P.length ≤ 100000 ∧ (¬ IsPart t P → er ⟨.NoPart, []⟩) ∧ (IsPart t P → (∀ o x, woF t e P = some (o, x) → er ⟨.NotSteady, [("thing", .int x), ("turner", .int o)]⟩) ∧
  (woF t e P = none → ok (.pr (.im (grpOf (fdT t P) (hm t P e : Int))) (.ol (hmL t P)))))
def t_folded (Z : Zz) (X : WX) : TS :=
  (tSeq (tAsg (tCallSD (spOf Z T_way_out) [] (WE X) (tCons (tVar 0) (tCons (tVar 1) tNil))) (gName 2))
  (tSeq (tIfS (tTest (tOp gIsNot (tVar 2) (tC .non)))
  (tRaiseN (Z.cls .NotSteady) ["turner", "thing"] X (tCons (tOp (gIx Z.K) (tVar 2) (tC (.int 0))) (tCons (tOp (gIx Z.K) (tVar 2) (tC (.int 1))) tNil)))
  tNext)
  (tSeq (tAsg (tCallSD (spOf Z T_sides) [] (WE X) (tCons (tVar 0) (tCons (tVar 1) tNil))) (gName 3))
  (tSeq (tAsg (tLc (iRng1 (tCons (tFld Z.K (tVar 0) "many") tNil)) (gName 7) tYes (tC (.int 0)) [7]) (gName 4))
  (tSeq (tFor (iEnum Z.K (tCons (tVar 3) tNil)) (gTup Z.K 2 (gCons (gName 5) (gCons (gName 6) gNil)))
  (tFor (iList Z.K (tVar 6)) (gName 7)
  (tAsg (tVar 5) (gSub (tVar 4) (tVar 7) gSet))))
  (tSeq (tAsg (tLst tNil) (gName 8))
  (tSeq (tFor (iList Z.K (tVar 3)) (gName 9)
  (tDrop (tBM Z.K "list" rAppend (tVar 8) (tCons (tLc (iList Z.K (tVar 3)) (gName 10) tYes (tOp (gIx Z.K) (tVar 4) (tOp (gIx Z.K) (tOp (gIx Z.K) (tFld Z.K (tVar 0) "rows") (tOp (gIx Z.K) (tVar 9) (tC (.int 0)))) (tOp (gIx Z.K) (tVar 10) (tC (.int 0))))) [10]) tNil))))
  (tRet (tTup (tCons (tMake (Z.cls .Group) (spI_Group Z) [] E0 (tCons (tVar 8) (tCons (tOp (gIx Z.K) (tVar 4) (tFld Z.K (tVar 0) "unit")) (tCons (tLc (iList Z.K (tVar 3)) (gName 6) tYes (tOp (gIx Z.K) (tVar 4) (tOp (gIx Z.K) (tFld Z.K (tVar 0) "backs") (tOp (gIx Z.K) (tVar 6) (tC (.int 0))))) [6]) tNil)))) (tCons (tVar 4) tNil)))))))))))
theorem w_folded {Z : Zz} (hZ : GrpC Z) (X : WX) (ss : List Sl) (ok : Sl → Prop) (er : Rf → Prop) (h : T_folded ss ok er) : WF Z X er (ss ++ List.replicate (11 - ss.length) .un) (t_folded Z X) ok := by
  obtain ⟨g, P, rfl, t, e, hG, rfl, hPl, ke, k⟩ := h
  show W _ [.im (grpOf t e), .im P, .un, .un, .un, .un, .un, .un, .un, .un, .un] _ _
  unfold t_folded
  have hl := hG.sz.2.1
  refine w_seq (w_asgS (S := fun s => s = .fo (woF t e P) ∧ IsPart t P) (es_call (ea_cons (ev_var rfl) (ea_cons (ev_var rfl) ea_nil)) ⟨_, _, rfl, t, e, hG, rfl, hPl, fun z => ⟨rfl, z⟩, ke⟩) ?_)
  rintro s ⟨rfl, hp⟩
  refine w_frF 2 rfl ?_
  walk_at "nz"
  obtain ⟨k1, k2⟩ := k hp
  have p := hp.partL hG
  have hpl := p.len
  have blen := backs_len hG
  refine w_seq (w_if (b := (woF t e P).isSome) (et_test (ev_isSomeD (ev_var rfl) fun Z R v d ⟨a, _, _, e, _⟩ z => by rw [e] at z; cases z)) (fun hb => ?_) (fun hb => w_next ?_))
  · obtain ⟨⟨o, x⟩, ho⟩ := Option.isSome_iff_exists.mp hb
    have k1 := k1 o x ho
    rw [ho]
    exact w_raise2 (ev_ix1 (p := (o, x)) (ev_unopt (ev_var rfl)) ev_int) (ev_ix2 (p := (o, x)) (ev_unopt (ev_var rfl)) ev_int) k1
  have hw : woF t e P = none := by simpa using hb
  have k := k2 hw
  have st := woF_st hG p hw
  rw [← fdT_grp hG p st] at k
  refine w_seq (w_asg (s := .o2 (sds t P)) (ev_callN (ea_cons (ev_var rfl) (ea_cons (ev_var rfl) ea_nil)) ⟨_, _, rfl, t, e, hG, rfl, hPl, fun _ => rfl, fun z => absurd hp z⟩) ?_)
  refine w_fr2 3 rfl ?_
  walk_at "nz"
  have eF : fdT t P = (sds t P).map fun a => (sds t P).map fun b => (hm t P (en t (gt a 0) (gt b 0)) : Int) := rfl
  obtain ⟨n1, n2⟩ := sds_len hG p
  have hS : ∀ k (hk : k < (sds t P).length), ∃ y, InT t y ∧ (sds t P)[k] = sid t P y ∧ gt (sds t P)[k] 0 = y := fun k hk => sds_at hG p hk
  have hgt : ∀ s ∈ sds t P, InT t (gt s 0) ∧ 0 < s.length := fun s hs => by
    obtain ⟨k, hk, rfl⟩ := List.getElem_of_mem hs
    obtain ⟨y, hy, e1, e2⟩ := hS k hk
    rw [e2]
    exact ⟨hy, by rw [e1, sid_len]; exact List.length_pos_of_mem p.pt.one⟩
  have hown : ∀ k (hk : k < (sds t P).length), ∀ x ∈ (sds t P)[k], InT t x ∧ hm t P x = k := fun k hk x hx => by
    obtain ⟨y, hy, e1, e2⟩ := hS k hk
    have ix : InT t x := (sid_eqv hG p).inn y hy x (e1 ▸ hx)
    exact ⟨ix, (kinN_own hG p (Nat.le_refl _) hk ix).mp hx⟩
  have hall : ∀ x, InT t x → hm t P x < (sds t P).length := fun x hx => (hm_spec hG p hx).1
  have e0 : hmN t P 0 [] = (irange t.length).map fun _ => (0 : Int) := by
    unfold hmN
    exact List.map_congr_left fun x _ => if_neg (by simp)
  have eN : hmN t P (sds t P).length [] = hmL t P := by
    unfold hmN hmL
    exact List.map_congr_left fun x hx => if_pos (.inl (hall x (mem_irange.mp hx)))
  have eS : ∀ k (hk : k < (sds t P).length), hmN t P k (sds t P)[k] = hmN t P (k + 1) [] := fun k hk => by
    unfold hmN
    refine List.map_congr_left fun x hx => ?_
    have ix := mem_irange.mp hx
    have : (hm t P x < k ∨ x ∈ (sds t P)[k]) ↔ (hm t P x < k + 1 ∨ x ∈ []) := by
      rw [kinN_own hG p (Nat.le_refl _) hk ix]
      simp only [List.not_mem_nil, or_false]
      omega
    simp only [this]
  have lN : ∀ k q, (hmN t P k q).length = t.length := fun k q => by unfold hmN; rw [List.length_map, irange_len]; omega
  generalize hSd : sds t P = S at n1 n2 hgt hown eS eN eF k ⊢
  refine w_seq (w_asg (s := .ol (hmN t P 0 [])) (ev_is ?h4 (congrArg Sl.ol e0.symm)) ?_)
  case h4 =>
    exact ev_mapR (n := (t.length : Int)) (fun _ => (0 : Int)) (ev_many (g := grpOf t e) (ev_var rfl)) (by omega) (by omega) (by simp) ⟨.inl rfl, trivial⟩ fun i _ _ => ev_int
  walk_at "nz"
  refine w_seq (w_forE (xs := S) (fun k G => ∃ (s5 s6 s7 : Sl), G = [.im (grpOf t e), .im P, .im (woF t e P), .im S, .ol (hmN t P k []), s5, s6, s7, .un, .un, .un]) (ev_var rfl) ⟨_, _, _, rfl⟩ ?_ ?_)
  · rintro k G hk ⟨s5, s6, s7, rfl⟩
    walk_at "nz"
    rw [← eS k hk]
    have ho := hown k hk
    generalize S[k] = sd at ho ⊢
    refine w_forL (xs := sd) (fun j G => ∃ (s7 : Sl), G = [.im (grpOf t e), .im P, .im (woF t e P), .im S, .ol (hmN t P k (sd.take j)), .im (k : Int), .im sd, s7, .un, .un, .un]) (ev_var rfl) ⟨_, rfl⟩ ?_ ?_
    · rintro j G hj ⟨s7, rfl⟩
      walk_at "nz"
      obtain ⟨ix, hx⟩ := ho _ (List.getElem_mem hj)
      rw [take_snoc hj]
      generalize sd[j] = x at ix hx ⊢
      rw [← hmN_put ix hx]
      exact w_putG (e := rfl) (ev_var rfl) (ev_var rfl) ix.1 (by rw [lN]; exact ix.2) ⟨_, rfl⟩
    · rintro G ⟨s7, rfl⟩
      rw [List.take_length]
      exact ⟨_, _, _, rfl⟩
  rintro G ⟨s5, s6, s7, rfl⟩
  rw [eN]
  have lH : (hmL t P).length = t.length := by unfold hmL; rw [List.length_map, irange_len]; omega
  have aH : ∀ x, InT t x → gt (hmL t P) x = (hm t P x : Int) := fun x hx => gt_map hx.1 hx.2
  refine w_un 6 ?_
  refine w_seq (w_asg (ev_nil2 (δ := Int)) ?_)
  walk_at "nz"
  refine w_seq (w_forL (xs := S) (fun i G => ∃ s9, G = [.im (grpOf t e), .im P, .im (woF t e P), .im S, .ol (hmL t P), s5, .un, s7, .o2 ((S.take i).map fun a => S.map fun b => (hm t P (en t (gt a 0) (gt b 0)) : Int)), s9, .un]) (ev_var rfl) ⟨_, rfl⟩ ?_ ?_)
  · rintro i G hi ⟨s9, rfl⟩
    walk_at "nz"
    have hx := hgt _ (List.getElem_mem hi)
    have htk : ((S.take (i + 1)).map fun a => S.map fun b => (hm t P (en t (gt a 0) (gt b 0)) : Int)) = ((S.take i).map fun a => S.map fun b => (hm t P (en t (gt a 0) (gt b 0)) : Int)) ++ [S.map fun b => (hm t P (en t (gt S[i] 0) (gt b 0)) : Int)] := by rw [take_snoc hi, List.map_append]; rfl
    rw [htk]
    generalize S[i] = x at hx ⊢
    have hml : ((S.take i).map fun a => S.map fun b => (hm t P (en t (gt a 0) (gt b 0)) : Int)).length ≤ 23 := by rw [List.length_map, List.length_take]; omega
    generalize ((S.take i).map fun a => S.map fun b => (hm t P (en t (gt a 0) (gt b 0)) : Int)) = M at hml ⊢
    refine w_app2T (xs := S.map fun b => (hm t P (en t (gt x 0) (gt b 0)) : Int)) rfl ?hh (by omega) ⟨_, rfl⟩
    case hh =>
      refine ev_mapL (xs := S) (fun b => (hm t P (en t (gt x 0) (gt b 0)) : Int)) (ev_var rfl) (by omega) (by simp) ⟨.inl rfl, trivial⟩ ?_
      intro y hy
      have iy := hgt y hy
      have ic := hG.cl hx.1 iy.1
      exact ev_to (ev_ixO rfl (ev_ix (ev_ix (xs := t) (ev_rows (g := grpOf t e) (ev_var rfl)) (ev_ix (ev_var rfl) ev_int (by decide) (by omega)) hx.1.1 hx.1.2) (ev_ix (ev_var rfl) ev_int (by decide) (by omega)) iy.1.1 (by rw [hG.row hx.1]; exact iy.1.2)) ic.1 (by rw [lH]; exact ic.2)) (aH _ ic)
  · rintro G ⟨s9, rfl⟩
    rw [List.take_length, ← eF]
    refine w_retM (em_pr (em_grpIm (em_mkGroup (rows := fdT t P) (unit := (hm t P e : Int)) (backs := S.map fun s => (hm t P (bkf t e (gt s 0)) : Int)) hZ (em_take val_o2 rfl) (em_of ?h1) (em_of ?h2))) (em_take val_ol rfl)) k
    case h1 =>
      exact ev_to (ev_ixO rfl (ev_unit (g := grpOf t e) (ev_var rfl)) hG.he.1 (by rw [lH]; exact hG.he.2)) (aH _ hG.he)
    case h2 =>
      refine ev_mapL (xs := S) (fun s => (hm t P (bkf t e (gt s 0)) : Int)) (ev_var rfl) (by omega) (by simp) ⟨.inl rfl, trivial⟩ ?_
      intro y hy
      have iy := hgt y hy
      have ib := bk_in hG iy.1
      exact ev_to (ev_ixO rfl (ev_to (ev_ix (ev_backs (g := grpOf t e) (ev_var rfl)) (ev_ix (ev_var rfl) ev_int (by decide) (by omega)) iy.1.1 (by rw [blen]; exact iy.1.2)) (backs_at iy.1)) ib.1 (by rw [lH]; exact ib.2)) (aH _ ib)
end TB

/-! ### inner -/
namespace TB
open PySem L2
--use TbIn
--use TbMv
--use TbM
--extra T.grpC
def T_inner : Tm := tm2 fun (g : Grp) (P : List Int) ok er => ∃ (t : Tbl) (e : Int), GTbl t e ∧ g = grpOf t e ∧ P.length ≤ 100000 ∧ (IsPart t P → ok (.fo (grpOf (innT t P) (ix P e : Int)))) ∧ (¬ IsPart t P → er ⟨.NoPart, []⟩)
def t_inner (Z : Zz) (X : WX) : TS :=
  (tSeq (tDrop (tCallSD (spOf Z T_look_at_part) [] (WE X) (tCons (tVar 0) (tCons (tVar 1) tNil))))
  (tSeq (tAsg (tLst tNil) (gName 2))
  (tSeq (tFor (iList Z.K (tVar 1)) (gName 3)
  (tDrop (tBM Z.K "list" rAppend (tVar 2) (tCons (tLc (iList Z.K (tVar 1)) (gName 4) tYes (tBM Z.K "list" (rIndex Z.K) (tVar 1) (tCons (tOp (gIx Z.K) (tOp (gIx Z.K) (tFld Z.K (tVar 0) "rows") (tVar 3)) (tVar 4)) tNil)) [4]) tNil))))
  (tRet (tMake (Z.cls .Group) (spI_Group Z) [] E0 (tCons (tVar 2) (tCons (tBM Z.K "list" (rIndex Z.K) (tVar 1) (tCons (tFld Z.K (tVar 0) "unit") tNil)) (tCons (tLc (iList Z.K (tVar 1)) (gName 5) tYes (tBM Z.K "list" (rIndex Z.K) (tVar 1) (tCons (tOp (gIx Z.K) (tFld Z.K (tVar 0) "backs") (tVar 5)) tNil)) [5]) tNil))))))))
theorem w_inner {Z : Zz} (hZ : GrpC Z) (X : WX) (ss : List Sl) (ok : Sl → Prop) (er : Rf → Prop) (h : T_inner ss ok er) : WF Z X er (ss ++ List.replicate (6 - ss.length) .un) (t_inner Z X) ok := by
  obtain ⟨g, P, rfl, t, e, hG, rfl, hPl, k, ke⟩ := h
  show W _ [.im (grpOf t e), .im P, .un, .un, .un, .un] _ _
  unfold t_inner
  have hl := hG.sz.2.1
  refine w_seq (w_dropS (S := fun _ => IsPart t P) (es_call (ea_cons (ev_var rfl) (ea_cons (ev_var rfl) ea_nil)) ⟨_, _, rfl, t, e, hG, rfl, hPl, fun z => z, ke⟩) fun _ hp => ?_)
  have k := k hp
  have p := hp.partL hG
  have hpl := p.len
  rw [← innT_grp hG p] at k
  have eR : innT t P = P.map fun a => P.map fun b => (ix P (en t a b) : Int) := rfl
  refine w_seq (w_asg (ev_nil2 (δ := Int)) ?_)
  walk_at "nz"
  refine w_seq (w_forL (xs := P) (fun i G => ∃ s3, G = [.im (grpOf t e), .im P, .o2 ((P.take i).map fun a => P.map fun b => (ix P (en t a b) : Int)), s3, .un, .un]) (ev_var rfl) ⟨_, rfl⟩ ?_ ?_)
  · rintro i G hi ⟨s3, rfl⟩
    walk_at "nz"
    have hx := p.pt.inn _ (List.getElem_mem hi)
    have hxP := List.getElem_mem hi
    have htk : ((P.take (i + 1)).map fun a => P.map fun b => (ix P (en t a b) : Int)) = ((P.take i).map fun a => P.map fun b => (ix P (en t a b) : Int)) ++ [P.map fun b => (ix P (en t P[i] b) : Int)] := by rw [take_snoc hi, List.map_append]; rfl
    rw [htk]
    generalize P[i] = x at hx hxP ⊢
    have hml : ((P.take i).map fun a => P.map fun b => (ix P (en t a b) : Int)).length ≤ 23 := by rw [List.length_map, List.length_take]; omega
    generalize ((P.take i).map fun a => P.map fun b => (ix P (en t a b) : Int)) = M at hml ⊢
    refine w_app2T (xs := P.map fun b => (ix P (en t x b) : Int)) rfl ?hh (by omega) ⟨_, rfl⟩
    case hh =>
      refine ev_mapL (xs := P) (fun b => (ix P (en t x b) : Int)) (ev_var rfl) (by omega) (by simp) ⟨.inl rfl, trivial⟩ ?_
      intro y hy
      have iy := p.pt.inn y hy
      obtain ⟨h1, h2⟩ := ix_at (p.pt.mul x hxP y hy)
      exact ev_index (ev_var rfl) (ev_ix (ev_ix (xs := t) (ev_rows (g := grpOf t e) (ev_var rfl)) (ev_var rfl) hx.1 hx.2) (ev_var rfl) iy.1 (by rw [hG.row hx]; exact iy.2)) h1 h2
  · rintro G ⟨s3, rfl⟩
    rw [List.take_length, ← eR]
    have blen := backs_len hG
    refine w_retM (em_mkGroup (rows := innT t P) (unit := (ix P e : Int)) (backs := P.map fun x => (ix P (bkf t e x) : Int)) hZ (em_take val_o2 rfl) (em_of ?h1) (em_of ?h2)) k
    case h1 =>
      obtain ⟨h1, h2⟩ := ix_at p.pt.one
      exact ev_index (ev_var rfl) (ev_unit (g := grpOf t e) (ev_var rfl)) h1 h2
    case h2 =>
      refine ev_mapL (xs := P) (fun x => (ix P (bkf t e x) : Int)) (ev_var rfl) (by omega) (by simp) ⟨.inl rfl, trivial⟩ ?_
      intro y hy
      have iy := p.pt.inn y hy
      obtain ⟨h1, h2⟩ := ix_at (p.bk hG hy)
      exact ev_index (ev_var rfl) (ev_to (ev_ix (ev_backs (g := grpOf t e) (ev_var rfl)) (ev_var rfl) iy.1 (by rw [blen]; exact iy.2)) (backs_at iy)) h1 h2
end TB

/-! ### l_cell -/
namespace TB
open PySem L2
def cellOf (l : Scr) (k : Int) : Int := if k < l.l.length then gt l.l k % 2147483647 else 0
theorem cellOf_bd (l : Scr) (k : Int) : 0 ≤ cellOf l k ∧ cellOf l k < 2147483647 := by
  unfold cellOf
  split <;> omega
def T_l_cell : Tm := tm2 fun (l : Scr) (k : Int) ok _ => 0 ≤ k ∧ ok (.im (cellOf l k))
def t_l_cell (Z : Zz) (X : WX) : TS :=
  (tSeq (tIfS (tTest (tOp gLt (tVar 1) (tCB (gLen Z.K) (tCons (tVar 0) tNil))))
  (tRet (tOp gMod (tOp (gIx Z.K) (tVar 0) (tVar 1)) (tC (.int 2147483647))))
  tNext)
  (tRet (tC (.int 0))))
theorem w_l_cell (Z : Zz) (X : WX) (ss : List Sl) (ok : Sl → Prop) (er : Rf → Prop) (h : T_l_cell ss ok er) : WF Z X er (ss ++ List.replicate (2 - ss.length) .un) (t_l_cell Z X) ok := by
  obtain ⟨l, k, rfl, h0, hk⟩ := h
  show W _ [.im l, .im k] _ _
  unfold t_l_cell
  refine w_seq (w_if (by walk_at "ev") (fun hb => ?_) (fun hb => w_next ?_))
  · simp at hb
    refine w_ret (ev_mod (ev_ixS (ev_var rfl) (ev_var rfl) h0 hb) ev_int (by decide)) ?_
    unfold cellOf at hk
    rw [if_pos hb] at hk
    exact hk
  · simp at hb
    refine w_ret ev_int ?_
    unfold cellOf at hk
    rw [if_neg (by omega)] at hk
    exact hk
end TB

/-! ### l_sizes -/
namespace TB
open PySem L2
--use TbMk
def T_l_sizes : Tm := tm2 fun (one two : Int) ok _ => 0 ≤ one ∧ 0 ≤ two ∧ ∀ l, SzOk l → ok (.im l)
def t_l_sizes (Z : Zz) (X : WX) : TS :=
  (tSeq (tAsg (tOp gDiv (tVar 0) (tC (.int 3))) (gName 2))
  (tSeq (tIfS (tTest (tOp (gEq Z.K) (tOp gMod (tVar 0) (tC (.int 3))) (tC (.int 1))))
  (tSeq (tAsg (tLst (tCons (tLst (tCons (tC (.int 2)) (tCons (tC (.int 2)) (tCons (tC (.int 1)) (tCons (tC (.int 3)) tNil))))) (tCons (tLst (tCons (tC (.int 7)) (tCons (tC (.int 1)) (tCons (tC (.int 1)) (tCons (tC (.int 3)) tNil))))) (tCons (tLst (tCons (tC (.int 5)) (tCons (tC (.int 1)) (tCons (tC (.int 1)) (tCons (tC (.int 4)) tNil))))) (tCons (tLst (tCons (tC (.int 4)) (tCons (tC (.int 2)) (tCons (tC (.int 1)) (tCons (tC (.int 2)) tNil))))) (tCons (tLst (tCons (tC (.int 3)) (tCons (tC (.int 3)) (tCons (tC (.int 1)) (tCons (tC (.int 2)) tNil))))) (tCons (tLst (tCons (tC (.int 8)) (tCons (tC (.int 1)) (tCons (tC (.int 1)) (tCons (tC (.int 2)) tNil))))) tNil))))))) (gName 3))
  (tSeq (tAsg (tOp gAdd (tVar 3) (tLst (tCons (tLst (tCons (tC (.int 4)) (tCons (tC (.int 1)) (tCons (tC (.int 1)) (tCons (tC (.int 2)) tNil))))) (tCons (tLst (tCons (tC (.int 2)) (tCons (tC (.int 2)) (tCons (tC (.int 2)) (tCons (tC (.int 2)) tNil))))) (tCons (tLst (tCons (tC (.int 3)) (tCons (tC (.int 1)) (tCons (tC (.int 1)) (tCons (tC (.int 4)) tNil))))) (tCons (tLst (tCons (tC (.int 2)) (tCons (tC (.int 2)) (tCons (tC (.int 1)) (tCons (tC (.int 2)) tNil))))) (tCons (tLst (tCons (tC (.int 5)) (tCons (tC (.int 1)) (tCons (tC (.int 1)) (tCons (tC (.int 2)) tNil))))) (tCons (tLst (tCons (tC (.int 9)) (tCons (tC (.int 1)) (tCons (tC (.int 1)) (tCons (tC (.int 2)) tNil))))) tNil)))))))) (gName 3))
  (tRet (tOp (gIx Z.K) (tVar 3) (tOp gMod (tVar 2) (tC (.int 12)))))))
  tNext)
  (tSeq (tAsg (tOp (gIx Z.K) (tLst (tCons (tC (.int 8)) (tCons (tC (.int 12)) (tCons (tC (.int 6)) (tCons (tC (.int 23)) tNil))))) (tOp gMod (tVar 2) (tC (.int 4)))) (gName 4))
  (tSeq (tAsg (tOp (gIx Z.K) (tLst (tCons (tC (.int 2)) (tCons (tC (.int 1)) (tCons (tC (.int 2)) (tCons (tC (.int 3)) (tCons (tC (.int 2)) (tCons (tC (.int 4)) tNil))))))) (tOp gMod (tOp gDiv (tVar 2) (tC (.int 4))) (tC (.int 6)))) (gName 5))
  (tSeq (tAsg (tOp gDiv (tVar 4) (tVar 5)) (gName 6))
  (tSeq (tAsg (tOp gAdd (tC (.int 1)) (tOp gMod (tOp gDiv (tVar 2) (tC (.int 24))) (tVar 6))) (gName 7))
  (tSeq (tAsg (tOp gAdd (tC (.int 1)) (tOp gMod (tVar 1) (tOp gDiv (tVar 6) (tVar 7)))) (gName 8))
  (tSeq (tAsg (tOp gAdd (tC (.int 1)) (tOp gMod (tOp gDiv (tVar 1) (tC (.int 23))) (tOp gDiv (tVar 6) (tOp gMul (tVar 7) (tVar 8))))) (gName 9))
  (tRet (tLst (tCons (tVar 7) (tCons (tVar 8) (tCons (tVar 9) (tCons (tVar 5) tNil))))))))))))))
theorem w_l_sizes (Z : Zz) (X : WX) (ss : List Sl) (ok : Sl → Prop) (er : Rf → Prop) (h : T_l_sizes ss ok er) : WF Z X er (ss ++ List.replicate (10 - ss.length) .un) (t_l_sizes Z X) ok := by
  obtain ⟨one, two, rfl, h0, h1, k⟩ := h
  show W _ [.im one, .im two, .un, .un, .un, .un, .un, .un, .un, .un] _ _
  unfold t_l_sizes
  refine w_seq (w_asg (ev_div (ev_var rfl) ev_int (by decide) (by decide)) ?_)
  walk_at "nz"
  have hn : 0 ≤ one / 3 := by omega
  generalize one / 3 = number at hn ⊢
  refine w_seq (w_if (by walk_at "ev") (fun hb => ?_) (fun hb => w_next ?_))
  · walk_at "w"
    refine w_fr 3 rfl ?_
    walk_at "nz"
    walk_at "w"
    refine w_fr 3 rfl ?_
    walk_at "nz"
    refine w_ret (ev_ix (ev_var rfl) (by walk_at "ev") (by omega) (by show number % 12 < 12; omega)) ?_
    refine k _ (szB_ok ?_)
    have : ∀ i : Int, 0 ≤ i → i < 12 → szB (gt ([[2, 2, 1, 3], [7, 1, 1, 3], [5, 1, 1, 4], [4, 2, 1, 2], [3, 3, 1, 2], [8, 1, 1, 2]] ++ [[4, 1, 1, 2], [2, 2, 2, 2], [3, 1, 1, 4], [2, 2, 1, 2], [5, 1, 1, 2], [9, 1, 1, 2]]) i) = true := by
      intro i h0 h1
      have e : i = ((i.toNat : Nat) : Int) := by omega
      have h2 : i.toNat < 12 := by omega
      rw [e]
      generalize i.toNat = n at h2
      revert n
      decide
    exact this _ (by omega) (by omega)
  · refine w_seq (w_asg (ev_ix (ev_fr (xs := ([8, 12, 6, 23] : List Int)) (by walk_at "ev")) (by walk_at "ev") (by omega) (by show number % 4 < 4; omega)) ?_)
    walk_at "nz"
    have ht : ∃ top : Int, gt ([8, 12, 6, 23] : List Int) (number % 4) = top ∧ 6 ≤ top ∧ top ≤ 23 := by
      refine ⟨_, rfl, ?_⟩
      have e : number % 4 = (((number % 4).toNat : Nat) : Int) := by omega
      have h2 : (number % 4).toNat < 4 := by omega
      rw [e]
      generalize (number % 4).toNat = n at h2
      revert n
      decide
    obtain ⟨top, et, t1, t2⟩ := ht
    rw [et]
    refine w_seq (w_asg (ev_ix (ev_fr (xs := ([2, 1, 2, 3, 2, 4] : List Int)) (by walk_at "ev")) (ev_mod (ev_div (ev_var rfl) ev_int (by decide) (by decide)) ev_int (by decide)) (by omega) (by show number / 4 % 6 < 6; omega)) ?_)
    walk_at "nz"
    have hs : ∃ st : Int, gt ([2, 1, 2, 3, 2, 4] : List Int) (number / 4 % 6) = st ∧ 1 ≤ st ∧ st ≤ 4 := by
      refine ⟨_, rfl, ?_⟩
      have e : number / 4 % 6 = (((number / 4 % 6).toNat : Nat) : Int) := by omega
      have h2 : (number / 4 % 6).toNat < 6 := by omega
      rw [e]
      generalize (number / 4 % 6).toNat = n at h2
      revert n
      decide
    obtain ⟨st, es, s1, s2⟩ := hs
    rw [es]
    have hr : 1 ≤ top / st := (Int.le_ediv_iff_mul_le (by omega)).mpr (by omega)
    have hr2 : top / st ≤ 23 := Int.le_trans (Int.ediv_le_self _ (by omega)) t2
    refine w_seq (w_asg (ev_div (ev_var rfl) (ev_var rfl) (by omega) (by omega)) ?_)
    walk_at "nz"
    obtain ⟨r, er⟩ : ∃ r, r = top / st := ⟨_, rfl⟩
    rw [← er] at hr hr2 ⊢
    refine w_seq (w_asg (ev_add ev_int (ev_mod (ev_div (ev_var rfl) ev_int (by decide) (by decide)) (ev_var rfl) (by omega))) ?_)
    walk_at "nz"
    have a1 := Int.emod_nonneg (number / 24) (show r ≠ 0 by omega)
    have a2 := Int.emod_lt_of_pos (number / 24) (show 0 < r by omega)
    obtain ⟨a, ea⟩ : ∃ a, a = 1 + number / 24 % r := ⟨_, rfl⟩
    rw [← ea]
    obtain ⟨p1, p2, p3, p4⟩ := szOk_of (x := two) (y := two / 23) er s1 t2 (show 1 ≤ a by omega) (show a ≤ r by omega)
    have p5 : r / a ≤ 23 := Int.le_trans (Int.ediv_le_self _ (by omega)) hr2
    refine w_seq (w_asg (ev_add ev_int (ev_mod (ev_var rfl) (ev_div (ev_var rfl) (ev_var rfl) (by omega) (by omega)) (by omega))) ?_)
    walk_at "nz"
    have b1 := Int.emod_nonneg two (show r / a ≠ 0 by omega)
    have b2 := Int.emod_lt_of_pos two (show 0 < r / a by omega)
    obtain ⟨b, eb⟩ : ∃ b, b = 1 + two % (r / a) := ⟨_, rfl⟩
    rw [← eb] at p2 p3 p4 ⊢
    have p6 : a * b ≤ r := by
      have := (drawn (x := two) (show 1 ≤ a by omega) (show a ≤ r by omega)).2.2
      rw [← eb] at this
      exact this
    have p7 : 1 ≤ a * b := by
      have := Int.mul_le_mul_of_nonneg_right (show 1 ≤ a by omega) (show 0 ≤ b by omega)
      omega
    have p8 : r / (a * b) ≤ 23 := Int.le_trans (Int.ediv_le_self _ (by omega)) hr2
    refine w_seq (w_asg (ev_add ev_int (ev_mod (ev_div (ev_var rfl) ev_int (by decide) (by decide)) (ev_div (ev_var rfl) (ev_mul (ev_var rfl) (ev_var rfl) (cmulS (by omega) (by omega) (by omega) (by omega))) (by omega) (by omega)) (by omega))) ?_)
    walk_at "nz"
    refine w_ret (ev_fr (xs := ([a, b, 1 + two / 23 % (r / (a * b)), st] : List Int)) (by walk_at "ev")) (k _ p4)
end TB

/-! ### l_kind -/
namespace TB
open PySem L2
--use TbAb
def T_l_kind : Tm := tm2 fun (l : List Int) (x : Int) ok _ => ∃ a b c d : Int, l = [a, b, c, d] ∧ 1 ≤ a ∧ 1 ≤ b ∧ 1 ≤ d ∧ ∀ k, KindOk a b d k → ok (.im k)
def t_l_kind (Z : Zz) (X : WX) : TS :=
  (tSeq (tAsg (tLst (tCons (tC (.int 0)) tNil)) (gName 2))
  (tSeq (tIfS (tAnd (tTest (tOp (gEq Z.K) (tOp (gIx Z.K) (tVar 0) (tC (.int 0))) (tOp (gIx Z.K) (tVar 0) (tC (.int 1))))) (tTest (tOp (gEq Z.K) (tOp gMod (tOp (gIx Z.K) (tVar 0) (tC (.int 3))) (tC (.int 2))) (tC (.int 0)))))
  (tDrop (tBM Z.K "list" rAppend (tVar 2) (tCons (tC (.int 1)) tNil)))
  tNext)
  (tSeq (tIfS (tAnd (tTest (tOp (gEq Z.K) (tOp (gIx Z.K) (tVar 0) (tC (.int 0))) (tOp (gIx Z.K) (tVar 0) (tC (.int 1))))) (tTest (tOp (gEq Z.K) (tOp gMod (tOp (gIx Z.K) (tVar 0) (tC (.int 3))) (tC (.int 3))) (tC (.int 0)))))
  (tDrop (tBM Z.K "list" rAppend (tVar 2) (tCons (tC (.int 2)) tNil)))
  tNext)
  (tSeq (tIfS (tAnd (tTest (tOp (gEq Z.K) (tOp gMod (tOp (gIx Z.K) (tVar 0) (tC (.int 0))) (tOp (gIx Z.K) (tVar 0) (tC (.int 1)))) (tC (.int 0)))) (tAnd (tTest (tOp gGt (tOp (gIx Z.K) (tVar 0) (tC (.int 1))) (tC (.int 1)))) (tTest (tOp (gEq Z.K) (tOp gMod (tOp (gIx Z.K) (tVar 0) (tC (.int 3))) (tOp (gIx Z.K) (tVar 0) (tC (.int 1)))) (tC (.int 0))))))
  (tDrop (tBM Z.K "list" rAppend (tVar 2) (tCons (tC (.int 3)) tNil)))
  tNext)
  (tSeq (tIfS (tAnd (tTest (tOp (gEq Z.K) (tOp gMod (tOp (gIx Z.K) (tVar 0) (tC (.int 0))) (tC (.int 2))) (tC (.int 0)))) (tAnd (tTest (tOp (gEq Z.K) (tOp gMod (tOp (gIx Z.K) (tVar 0) (tC (.int 1))) (tC (.int 2))) (tC (.int 0)))) (tTest (tOp (gEq Z.K) (tOp gMod (tOp (gIx Z.K) (tVar 0) (tC (.int 3))) (tC (.int 2))) (tC (.int 0))))))
  (tDrop (tBM Z.K "list" rAppend (tVar 2) (tCons (tC (.int 4)) tNil)))
  tNext)
  (tRet (tOp (gIx Z.K) (tVar 2) (tOp gMod (tVar 1) (tCB (gLen Z.K) (tCons (tVar 2) tNil))))))))))
theorem w_l_kind (Z : Zz) (X : WX) (ss : List Sl) (ok : Sl → Prop) (er : Rf → Prop) (h : T_l_kind ss ok er) : WF Z X er (ss ++ List.replicate (3 - ss.length) .un) (t_l_kind Z X) ok := by
  obtain ⟨l, x, rfl, a, b, c, d, rfl, ha, hb, hd, k⟩ := h
  show W _ [.im [a, b, c, d], .im x, .un] _ _
  unfold t_l_kind
  refine w_seq (w_asg (s := .ol ([0] : List Int)) (by walk_at "ev") ?_)
  walk_at "nz"
  have step : ∀ (i : Int) (ks : List Int) (n : Nat), ks.length ≤ n → (∀ k ∈ ks, KindOk a b d k) → KindOk a b d i → ks ≠ [] → (∀ k ∈ ks ++ [i], KindOk a b d k) ∧ ks ++ [i] ≠ [] ∧ (ks ++ [i]).length ≤ n + 1 := fun i ks n hl h1 h2 h3 => by
    refine ⟨fun k hk => ?_, by simp, by simp; omega⟩
    rcases List.mem_append.mp hk with q | q
    · exact h1 k q
    · rw [show k = i by simpa using q]; exact h2
  refine w_mid (fun G => ∃ ks : List Int, G = [.im [a, b, c, d], .im x, .ol ks] ∧ (∀ k ∈ ks, KindOk a b d k) ∧ ks ≠ [] ∧ ks.length ≤ 2) (w_if (et_and (et_test (ev_eqI (ev_s0 rfl) (ev_s1 rfl))) fun _ => et_test (ev_eqI (ev_mod (ev_s3 rfl) ev_int (by decide)) ev_int)) (fun hk => ?_) (fun hk => ?_)) ?_
  · simp at hk
    exact w_app rfl ev_int (by simp) ⟨_, rfl, step 1 [0] 1 (by simp) (by simp [KindOk]) (.inr (.inl ⟨rfl, hk.1, hk.2⟩)) (by simp)⟩
  · exact w_next ⟨_, rfl, by simp [KindOk], by simp, by simp⟩
  rintro _ ⟨ks, rfl, h1, h2, h3⟩
  refine w_mid (fun G => ∃ ks : List Int, G = [.im [a, b, c, d], .im x, .ol ks] ∧ (∀ k ∈ ks, KindOk a b d k) ∧ ks ≠ [] ∧ ks.length ≤ 3) (w_if (et_and (et_test (ev_eqI (ev_s0 rfl) (ev_s1 rfl))) fun _ => et_test (ev_eqI (ev_mod (ev_s3 rfl) ev_int (by decide)) ev_int)) (fun hk => ?_) (fun hk => ?_)) ?_
  · simp at hk
    exact w_app rfl ev_int (by omega) ⟨_, rfl, step 2 ks 2 h3 h1 (.inr (.inr (.inl ⟨rfl, hk.1, hk.2⟩))) h2⟩
  · exact w_next ⟨_, rfl, h1, h2, by omega⟩
  clear h1 h2 h3 ks
  rintro _ ⟨ks, rfl, h1, h2, h3⟩
  refine w_mid (fun G => ∃ ks : List Int, G = [.im [a, b, c, d], .im x, .ol ks] ∧ (∀ k ∈ ks, KindOk a b d k) ∧ ks ≠ [] ∧ ks.length ≤ 4) (w_if (et_and (et_test (ev_eqI (ev_mod (ev_s0 rfl) (ev_s1 rfl) (by omega)) ev_int)) fun _ => et_and (et_test (ev_gt (ev_s1 rfl) ev_int)) fun _ => et_test (ev_eqI (ev_mod (ev_s3 rfl) (ev_s1 rfl) (by omega)) ev_int)) (fun hk => ?_) (fun hk => ?_)) ?_
  · simp at hk
    exact w_app rfl ev_int (by omega) ⟨_, rfl, step 3 ks 3 h3 h1 (.inr (.inr (.inr (.inl ⟨rfl, hk.1, hk.2.2⟩)))) h2⟩
  · exact w_next ⟨_, rfl, h1, h2, by omega⟩
  clear h1 h2 h3 ks
  rintro _ ⟨ks, rfl, h1, h2, h3⟩
  refine w_mid (fun G => ∃ ks : List Int, G = [.im [a, b, c, d], .im x, .ol ks] ∧ (∀ k ∈ ks, KindOk a b d k) ∧ ks ≠ [] ∧ ks.length ≤ 5) (w_if (et_and (et_test (ev_eqI (ev_mod (ev_s0 rfl) ev_int (by decide)) ev_int)) fun _ => et_and (et_test (ev_eqI (ev_mod (ev_s1 rfl) ev_int (by decide)) ev_int)) fun _ => et_test (ev_eqI (ev_mod (ev_s3 rfl) ev_int (by decide)) ev_int)) (fun hk => ?_) (fun hk => ?_)) ?_
  · simp at hk
    exact w_app rfl ev_int (by omega) ⟨_, rfl, step 4 ks 4 h3 h1 (.inr (.inr (.inr (.inr ⟨rfl, hk.1, hk.2.1, hk.2.2⟩)))) h2⟩
  · exact w_next ⟨_, rfl, h1, h2, by omega⟩
  clear h1 h2 h3 ks
  rintro _ ⟨ks, rfl, h1, h2, h3⟩
  have hl : 0 < ks.length := List.length_pos_iff.mpr h2
  have m0 := Int.emod_nonneg x (show (ks.length : Int) ≠ 0 by omega)
  have m1 := Int.emod_lt_of_pos x (show (0 : Int) < ks.length by omega)
  exact w_ret (ev_ixO rfl (ev_mod (ev_var rfl) (ev_lenO rfl) (by omega)) m0 m1) (k _ (h1 _ (gt_mem m0 m1)))
end TB

/-! ### l_unit -/
namespace TB
open PySem L2
--use TbAb
def T_l_unit : Tm := tm3 fun (n s x : Int) ok _ => 1 ≤ n ∧ n ≤ 23 ∧ 1 ≤ s ∧ s ≤ 23 ∧ ∀ u, UnitOk n s u → ok (.im u)
theorem one_pow {n : Int} (s : Nat) : (1 % n) ^ s % n = 1 % n := by
  induction s with
  | zero => rw [Int.pow_zero]
  | succ s ih => rw [Int.pow_succ, Int.mul_emod, ih, Int.emod_emod, ← Int.mul_emod, Int.one_mul]
def t_l_unit (Z : Zz) (X : WX) : TS :=
  (tSeq (tAsg (tLst tNil) (gName 3))
  (tSeq (tFor (iRng1 (tCons (tVar 0) tNil)) (gName 4)
  (tSeq (tAsg (tC (.int 1)) (gName 5))
  (tSeq (tFor (iRng1 (tCons (tVar 1) tNil)) (gName 6)
  (tAsg (tOp gMod (tOp gMul (tVar 5) (tVar 4)) (tVar 0)) (gName 5)))
  (tIfS (tTest (tOp (gEq Z.K) (tVar 5) (tOp gMod (tC (.int 1)) (tVar 0))))
  (tDrop (tBM Z.K "list" rAppend (tVar 3) (tCons (tVar 4) tNil)))
  tNext))))
  (tSeq (tIfS (tAnd (tTest (tOp gGt (tOp gMul (tVar 0) (tVar 1)) (tC (.int 16)))) (tTest (tOp gGt (tCB (gLen Z.K) (tCons (tVar 3) tNil)) (tC (.int 1)))))
  (tAsg (tSl (rSlL Z.K) (tVar 3) (tPart (tC (.int 1))) tNoPart) (gName 3))
  tNext)
  (tRet (tOp (gIx Z.K) (tVar 3) (tOp gMod (tVar 2) (tCB (gLen Z.K) (tCons (tVar 3) tNil))))))))
theorem w_l_unit (Z : Zz) (X : WX) (ss : List Sl) (ok : Sl → Prop) (er : Rf → Prop) (h : T_l_unit ss ok er) : WF Z X er (ss ++ List.replicate (7 - ss.length) .un) (t_l_unit Z X) ok := by
  obtain ⟨n, s, x, rfl, hn, hn2, hs, hs2, k⟩ := h
  show W _ [.im n, .im s, .im x, .un, .un, .un, .un] _ _
  unfold t_l_unit
  refine w_seq (w_asg (ev_nil (δ := Int)) ?_)
  walk_at "nz"
  refine w_seq (w_forR (n := n) (fun i G => ∃ (us : List Int) (s4 s5 s6 : Sl), G = [.im n, .im s, .im x, .ol us, s4, s5, s6] ∧ (∀ u ∈ us, UnitOk n s u) ∧ us.length ≤ i ∧ (1 % n < i → us ≠ [])) (ev_var rfl) (by omega) (by omega) ⟨[], _, _, _, rfl, by simp, by simp, fun h => ?_⟩ ?_ ?_)
  · have := Int.emod_nonneg 1 (show n ≠ 0 by omega)
    omega
  · rintro i G hi ⟨us, s4, s5, s6, rfl, h1, h2, h3⟩
    walk_at "nz"
    refine w_seq (w_asg ev_int ?_)
    walk_at "nz"
    refine w_seq (w_forR (n := s) (fun j G => ∃ (y : Int) (s6 : Sl), G = [.im n, .im s, .im x, .ol us, .im (i : Int), .im y, s6] ∧ 0 ≤ y ∧ y ≤ 23 ∧ y % n = (i : Int) ^ j % n ∧ (0 < j → y < n)) (ev_var rfl) (by omega) (by omega) ⟨1, _, rfl, by omega, by omega, by rw [Int.pow_zero], by omega⟩ ?_ ?_)
    · rintro j G hj ⟨y, s6, rfl, y0, y1, e, y2⟩
      walk_at "nz"
      have z0 := Int.emod_nonneg (y * i) (show n ≠ 0 by omega)
      have z1 := Int.emod_lt_of_pos (y * i) (show 0 < n by omega)
      refine w_asg (ev_mod (ev_mul (ev_var rfl) (ev_var rfl) (cmul23 y0 (by omega) (by omega) (by omega))) (ev_var rfl) (by omega)) ⟨_, _, rfl, z0, by omega, ?_, fun _ => z1⟩
      rw [Int.emod_emod, Int.pow_succ, Int.mul_emod, e, ← Int.mul_emod]
    · rintro G ⟨y, s6, rfl, y0, y1, e, y2⟩
      have y3 := y2 (by omega)
      rw [Int.emod_eq_of_lt y0 y3] at e
      refine w_if (et_test (ev_eqI (ev_var rfl) (ev_mod ev_int (ev_var rfl) (by omega)))) (fun hb => ?_) (fun hb => ?_)
      · simp at hb
        refine w_app rfl (ev_var rfl) (by omega) ⟨_, _, _, _, rfl, fun u hu => ?_, by simp; omega, fun _ => by simp⟩
        rcases List.mem_append.mp hu with q | q
        · exact h1 u q
        · rw [show u = i by simpa using q]
          exact ⟨by omega, hi, by rw [← e, hb]⟩
      · simp at hb
        refine w_next ⟨_, _, _, _, rfl, h1, by omega, fun h => ?_⟩
        by_cases q : 1 % n < (i : Int)
        · exact h3 q
        · have q2 : (i : Int) = 1 % n := by omega
          rw [q2, one_pow] at e
          exact absurd e hb
  · rintro G ⟨us, s4, s5, s6, rfl, h1, h2, h3⟩
    have hne := h3 (by have := Int.emod_lt_of_pos 1 (show 0 < n by omega); omega)
    have hl : 0 < us.length := List.length_pos_iff.mpr hne
    refine w_fr 3 rfl ?_
    walk_at "nz"
    refine w_mid (fun G => ∃ us : List Int, G = [.im n, .im s, .im x, .im us, s4, s5, s6] ∧ (∀ u ∈ us, UnitOk n s u) ∧ 0 < us.length) (w_if (et_and (et_test (ev_gt (ev_mul (ev_var rfl) (ev_var rfl) (cmul23 (by omega) (by omega) (by omega) (by omega))) ev_int)) fun _ => et_test (ev_gt (ev_len (ev_var rfl)) ev_int)) (fun hb => ?_) (fun hb => ?_)) ?_
    · simp at hb
      refine w_asg (s := .im (us.drop 1)) (ev_fr (ev_cutFrom (ev_var rfl) ev_int (by decide))) ⟨_, rfl, fun u hu => h1 u (List.mem_of_mem_drop hu), by rw [List.length_drop]; omega⟩
    · exact w_next ⟨_, rfl, h1, hl⟩
    · clear h1 h2 h3 hne hl
      rintro _ ⟨us, rfl, h1, hl⟩
      have m0 := Int.emod_nonneg x (show (us.length : Int) ≠ 0 by omega)
      have m1 := Int.emod_lt_of_pos x (show (0 : Int) < us.length by omega)
      exact w_ret (ev_ix (ev_var rfl) (ev_mod (ev_var rfl) (ev_len (ev_var rfl)) (by omega)) m0 m1) (k _ (h1 _ (gt_mem m0 m1)))
end TB

/-! ### l_turned -/
namespace TB
open PySem L2
--use TbAb
def T_l_turned : Tm := tm4 fun (p : Int) (l : List Int) (k : Int) (us : List Int) ok _ => ∃ a b c d u v w : Int, l = [a, b, c, d] ∧ us = [u, v, w] ∧ 1 ≤ a ∧ 1 ≤ b ∧ 1 ≤ c ∧ a * b * c ≤ 23 ∧ In a u ∧ In b v ∧ In c w ∧ In (a * b * c) p ∧ ok (.im (tuF a b c u v w k p))
def t_l_turned (Z : Zz) (X : WX) : TS :=
  (tSeq (tAsg (tOp gMod (tVar 0) (tOp (gIx Z.K) (tVar 1) (tC (.int 0)))) (gName 4))
  (tSeq (tAsg (tOp gMod (tOp gDiv (tVar 0) (tOp (gIx Z.K) (tVar 1) (tC (.int 0)))) (tOp (gIx Z.K) (tVar 1) (tC (.int 1)))) (gName 5))
  (tSeq (tAsg (tOp gMod (tOp gMul (tOp gDiv (tVar 0) (tOp gMul (tOp (gIx Z.K) (tVar 1) (tC (.int 0))) (tOp (gIx Z.K) (tVar 1) (tC (.int 1))))) (tOp (gIx Z.K) (tVar 3) (tC (.int 2)))) (tOp (gIx Z.K) (tVar 1) (tC (.int 2)))) (gName 6))
  (tSeq (tIfS (tTest (tOp (gEq Z.K) (tVar 2) (tC (.int 1))))
  (tPar 4 5 (tCons (tVar 5) (tCons (tVar 4) tNil)))
  (tIfS (tTest (tOp (gEq Z.K) (tVar 2) (tC (.int 2))))
  (tPar 4 5 (tCons (tOp gMod (tOp gMns (tC (.int 0)) (tVar 5)) (tOp (gIx Z.K) (tVar 1) (tC (.int 0)))) (tCons (tOp gMod (tOp gMns (tVar 4) (tVar 5)) (tOp (gIx Z.K) (tVar 1) (tC (.int 0)))) tNil)))
  (tIfS (tTest (tOp (gEq Z.K) (tVar 2) (tC (.int 3))))
  (tAsg (tOp gMod (tOp gAdd (tVar 5) (tVar 4)) (tOp (gIx Z.K) (tVar 1) (tC (.int 1)))) (gName 5))
  (tIfS (tTest (tOp (gEq Z.K) (tVar 2) (tC (.int 4))))
  (tAsg (tOp gMod (tOp gAdd (tVar 4) (tOp gMul (tOp gDiv (tOp (gIx Z.K) (tVar 1) (tC (.int 0))) (tC (.int 2))) (tVar 5))) (tOp (gIx Z.K) (tVar 1) (tC (.int 0)))) (gName 4))
  (tSeq (tAsg (tOp gMod (tOp gMul (tVar 4) (tOp (gIx Z.K) (tVar 3) (tC (.int 0)))) (tOp (gIx Z.K) (tVar 1) (tC (.int 0)))) (gName 4))
  (tAsg (tOp gMod (tOp gMul (tVar 5) (tOp (gIx Z.K) (tVar 3) (tC (.int 1)))) (tOp (gIx Z.K) (tVar 1) (tC (.int 1)))) (gName 5)))))))
  (tRet (tOp gAdd (tVar 4) (tOp gMul (tOp (gIx Z.K) (tVar 1) (tC (.int 0))) (tOp gAdd (tVar 5) (tOp gMul (tOp (gIx Z.K) (tVar 1) (tC (.int 1))) (tVar 6))))))))))
theorem w_l_turned (Z : Zz) (X : WX) (ss : List Sl) (ok : Sl → Prop) (er : Rf → Prop) (h : T_l_turned ss ok er) : WF Z X er (ss ++ List.replicate (7 - ss.length) .un) (t_l_turned Z X) ok := by
  obtain ⟨p, l, k, us, rfl, a, b, c, d, u, v, w, rfl, rfl, ha, hb, hc, hn, hu, hv, hw, hp, kk⟩ := h
  show W _ [.im p, .im [a, b, c, d], .im k, .im [u, v, w], .un, .un, .un] _ _
  unfold t_l_turned
  obtain ⟨a1, b1, c1, d1, e1, f1⟩ := bnd ha hb hc hn
  have m1 := md' ha p
  have m2 := md' hb (p / a)
  have m3 := md' hc (p / (a * b) * w)
  have hpd : 0 ≤ p / (a * b) ∧ p / (a * b) ≤ 23 := ⟨Int.ediv_nonneg hp.1 (by omega), Int.le_trans (Int.ediv_le_self _ hp.1) (by have := hp.2; omega)⟩
  have w0 := hw.1
  have w1 := hw.2
  have u0 := hu.1
  have u1 := hu.2
  have v0 := hv.1
  have v1 := hv.2
  refine w_seq (w_asg (ev_mod (ev_var rfl) (ev_s0 rfl) (by omega)) ?_)
  refine w_seq (w_asg (ev_mod (ev_div (ev_var rfl) (ev_s0 rfl) (by omega) (by omega)) (ev_s1 rfl) (by omega)) ?_)
  refine w_seq (w_asg (ev_mod (ev_mul (ev_div (ev_var rfl) (ev_mul (ev_s0 rfl) (ev_s1 rfl) (cmul23 (by omega) (by omega) (by omega) (by omega))) (by omega) (by omega)) (ev_u2 rfl) (cmul23 hpd.1 (by omega) w0 (by omega))) (ev_s2 rfl) (by omega)) ?_)
  walk_at "nz"
  unfold tuF at kk
  generalize p % a = x at *
  generalize p / a % b = y at *
  generalize p / (a * b) * w % c = z at *
  obtain ⟨x0, x1⟩ := m1
  obtain ⟨y0, y1⟩ := m2
  obtain ⟨z0, z1⟩ := m3
  have hyz : y + b * z ≤ 600 := by
    have : b * z ≤ 23 * 23 := Int.mul_le_mul b1 (by omega) (by omega) (by omega)
    omega
  have hyz0 : 0 ≤ b * z := Int.mul_nonneg (by omega) z0
  have hin : 0 ≤ (tuP a b u v k x y).2 ∧ (tuP a b u v k x y).2 ≤ 23 := by
    unfold tuP
    have q1 := md' hb (y * v)
    have q2 := md' ha (x - y)
    have q3 := md' hb (y + x)
    split
    · exact ⟨x0, by show x ≤ 23; omega⟩
    split
    · exact ⟨q2.1, by have := q2.2; show (x - y) % a ≤ 23; omega⟩
    split
    · exact ⟨q3.1, by have := q3.2; show (y + x) % b ≤ 23; omega⟩
    split
    · exact ⟨y0, by show y ≤ 23; omega⟩
    · exact ⟨q1.1, by have := q1.2; show (y * v) % b ≤ 23; omega⟩
  refine w_mid (fun G => G = [.im p, .im [a, b, c, d], .im k, .im [u, v, w], .im (tuP a b u v k x y).1, .im (tuP a b u v k x y).2, .im z]) ?_ ?_
  · unfold tuP
    refine w_if (et_test (ev_eqI (ev_var rfl) ev_int)) (fun hk => ?_) (fun hk => ?_)
    · simp at hk
      rw [if_pos hk]
      exact w_par (ev_var rfl) (ev_var rfl) rfl
    simp at hk
    rw [if_neg hk]
    refine w_if (et_test (ev_eqI (ev_var rfl) ev_int)) (fun hk => ?_) (fun hk => ?_)
    · simp at hk
      rw [if_pos hk]
      exact w_par (ev_mod (ev_sub ev_int (ev_var rfl)) (ev_s0 rfl) (by omega)) (ev_mod (ev_sub (ev_var rfl) (ev_var rfl)) (ev_s0 rfl) (by omega)) rfl
    simp at hk
    rw [if_neg hk]
    refine w_if (et_test (ev_eqI (ev_var rfl) ev_int)) (fun hk => ?_) (fun hk => ?_)
    · simp at hk
      rw [if_pos hk]
      exact w_asg (ev_mod (ev_add (ev_var rfl) (ev_var rfl)) (ev_s1 rfl) (by omega)) rfl
    simp at hk
    rw [if_neg hk]
    refine w_if (et_test (ev_eqI (ev_var rfl) ev_int)) (fun hk => ?_) (fun hk => ?_)
    · simp at hk
      rw [if_pos hk]
      exact w_asg (ev_mod (ev_add (ev_var rfl) (ev_mul (ev_div (ev_s0 rfl) ev_int (by decide) (by decide)) (ev_var rfl) (cmul23 (by omega) (by omega) y0 (by omega)))) (ev_s0 rfl) (by omega)) rfl
    simp at hk
    rw [if_neg hk]
    refine w_seq (w_asg (ev_mod (ev_mul (ev_var rfl) (ev_u0 rfl) (cmul23 x0 (by omega) u0 (by omega))) (ev_s0 rfl) (by omega)) ?_)
    exact w_asg (ev_mod (ev_mul (ev_var rfl) (ev_u1 rfl) (cmul23 y0 (by omega) v0 (by omega))) (ev_s1 rfl) (by omega)) rfl
  · rintro _ rfl
    generalize tuP a b u v k x y = q at *
    have q0 := hin.1
    have q1 := hin.2
    exact w_ret (ev_add (ev_var rfl) (ev_mul (ev_s0 rfl) (ev_add (ev_var rfl) (ev_mul (ev_s1 rfl) (ev_var rfl) (cmul23 (by omega) (by omega) z0 (by omega)))) (cmul23 (by omega) (by omega) (by omega) (by omega)))) kk
end TB

/-! ### l_sum -/
namespace TB
open PySem L2
--use TbAb
def T_l_sum : Tm := tm3 fun (p q : Int) (l : List Int) ok _ => ∃ a b c d : Int, l = [a, b, c, d] ∧ 1 ≤ a ∧ 1 ≤ b ∧ 1 ≤ c ∧ a * b * c ≤ 23 ∧ In (a * b * c) p ∧ In (a * b * c) q ∧ ok (.im (suF a b c p q))
def t_l_sum (Z : Zz) (X : WX) : TS :=
  (tSeq (tAsg (tOp gMul (tOp (gIx Z.K) (tVar 2) (tC (.int 0))) (tOp (gIx Z.K) (tVar 2) (tC (.int 1)))) (gName 3))
  (tSeq (tAsg (tOp gMod (tOp gAdd (tVar 0) (tVar 1)) (tOp (gIx Z.K) (tVar 2) (tC (.int 0)))) (gName 4))
  (tSeq (tAsg (tOp gMod (tOp gAdd (tOp gDiv (tVar 0) (tOp (gIx Z.K) (tVar 2) (tC (.int 0)))) (tOp gDiv (tVar 1) (tOp (gIx Z.K) (tVar 2) (tC (.int 0))))) (tOp (gIx Z.K) (tVar 2) (tC (.int 1)))) (gName 5))
  (tSeq (tAsg (tOp gMod (tOp gAdd (tOp gDiv (tVar 0) (tVar 3)) (tOp gDiv (tVar 1) (tVar 3))) (tOp (gIx Z.K) (tVar 2) (tC (.int 2)))) (gName 6))
  (tRet (tOp gAdd (tOp gAdd (tVar 4) (tOp gMul (tOp (gIx Z.K) (tVar 2) (tC (.int 0))) (tVar 5))) (tOp gMul (tVar 3) (tVar 6))))))))
theorem w_l_sum (Z : Zz) (X : WX) (ss : List Sl) (ok : Sl → Prop) (er : Rf → Prop) (h : T_l_sum ss ok er) : WF Z X er (ss ++ List.replicate (7 - ss.length) .un) (t_l_sum Z X) ok := by
  obtain ⟨p, q, l, rfl, a, b, c, d, rfl, ha, hb, hc, hn, hp, hq, k⟩ := h
  show W _ [.im p, .im q, .im [a, b, c, d], .un, .un, .un, .un] _ _
  unfold t_l_sum
  obtain ⟨a1, b1, c1, d1, e1, f1⟩ := bnd ha hb hc hn
  have m1 := md' ha (p + q)
  have m2 := md' hb (p / a + q / a)
  have m3 := md' hc (p / (a * b) + q / (a * b))
  refine w_seq (w_asg (ev_mul (ev_s0 rfl) (ev_s1 rfl) (cmul23 (by omega) (by omega) (by omega) (by omega))) ?_)
  refine w_seq (w_asg (ev_mod (ev_add (ev_var rfl) (ev_var rfl)) (ev_s0 rfl) (by omega)) ?_)
  refine w_seq (w_asg (ev_mod (ev_add (ev_div (ev_var rfl) (ev_s0 rfl) (by omega) (by omega)) (ev_div (ev_var rfl) (ev_s0 rfl) (by omega) (by omega))) (ev_s1 rfl) (by omega)) ?_)
  refine w_seq (w_asg (ev_mod (ev_add (ev_div (ev_var rfl) (ev_var rfl) (by omega) (by omega)) (ev_div (ev_var rfl) (ev_var rfl) (by omega) (by omega))) (ev_s2 rfl) (by omega)) ?_)
  exact w_ret (ev_add (ev_add (ev_var rfl) (ev_mul (ev_s0 rfl) (ev_var rfl) (cmul23 (by omega) (by omega) m2.1 (by have := m2.2; omega)))) (ev_mul (ev_var rfl) (ev_var rfl) (cmul23 (by omega) (by omega) m3.1 (by have := m3.2; omega)))) k
end TB

/-! ### l_rows -/
namespace TB
open PySem L2
--use TbAb
def T_l_rows : Tm := tm3 fun (l tu : List Int) (e : Int) ok _ => ∃ (a b c d : Int) (ph : Int → Int), l = [a, b, c, d] ∧ 1 ≤ a ∧ 1 ≤ b ∧ 1 ≤ c ∧ 1 ≤ d ∧ a * b * c * d ≤ 23 ∧ tu = (irange (a * b * c)).map ph ∧ (∀ x, In (a * b * c) x → In (a * b * c) (ph x)) ∧ In (a * b * c) e ∧ ok (.im (tab (a * b * c * d) (xop (a * b * c) d (suF a b c) ph e)))
theorem irange_at {n : Int} {f : Int → Int} {g : Int} (h : 0 ≤ n) (e : g = f n) : (irange n).map f ++ [g] = (irange (n + 1)).map f := by rw [irange_suc h, List.map_append, e]; rfl
theorem irange_atT {n : Int} {f : Int → List Int} {g : List Int} (h : 0 ≤ n) (e : g = f n) : (irange n).map f ++ [g] = (irange (n + 1)).map f := by rw [irange_suc h, List.map_append, e]; rfl
def t_l_rows (Z : Zz) (X : WX) : TS :=
  (tSeq (tAsg (tCB (gLen Z.K) (tCons (tVar 1) tNil)) (gName 3))
  (tSeq (tAsg (tLst tNil) (gName 4))
  (tSeq (tAsg (tLstRg (tRg1 (tVar 3))) (gName 5))
  (tSeq (tFor (iRng1 (tCons (tOp (gIx Z.K) (tVar 0) (tC (.int 3))) tNil)) (gName 6)
  (tSeq (tFor (iRng1 (tCons (tVar 3) tNil)) (gName 7)
  (tSeq (tAsg (tLst tNil) (gName 8))
  (tSeq (tFor (iRng1 (tCons (tOp (gIx Z.K) (tVar 0) (tC (.int 3))) tNil)) (gName 9)
  (tFor (iRng1 (tCons (tVar 3) tNil)) (gName 10)
  (tSeq (tAsg (tCallSD (spOf Z T_l_sum) [] (WE X) (tCons (tVar 7) (tCons (tOp (gIx Z.K) (tVar 5) (tVar 10)) (tCons (tVar 0) tNil)))) (gName 11))
  (tSeq (tIfS (tTest (tOp gGe (tOp gAdd (tVar 6) (tVar 9)) (tOp (gIx Z.K) (tVar 0) (tC (.int 3)))))
  (tAsg (tCallSD (spOf Z T_l_sum) [] (WE X) (tCons (tVar 11) (tCons (tVar 2) (tCons (tVar 0) tNil)))) (gName 11))
  tNext)
  (tDrop (tBM Z.K "list" rAppend (tVar 8) (tCons (tOp gAdd (tVar 11) (tOp gMul (tVar 3) (tOp gMod (tOp gAdd (tVar 6) (tVar 9)) (tOp (gIx Z.K) (tVar 0) (tC (.int 3)))))) tNil)))))))
  (tDrop (tBM Z.K "list" rAppend (tVar 4) (tCons (tVar 8) tNil))))))
  (tAsg (tLc (iList Z.K (tVar 5)) (gName 11) tYes (tOp (gIx Z.K) (tVar 1) (tVar 11)) [11]) (gName 5))))
  (tRet (tVar 4))))))
theorem w_l_rows (Z : Zz) (X : WX) (ss : List Sl) (ok : Sl → Prop) (er : Rf → Prop) (h : T_l_rows ss ok er) : WF Z X er (ss ++ List.replicate (12 - ss.length) .un) (t_l_rows Z X) ok := by
  obtain ⟨l, tu, e, rfl, a, b, c, d, ph, rfl, ha, hb, hc, hd, hN, rfl, hph, he, k⟩ := h
  show W _ [.im [a, b, c, d], .im ((irange (a * b * c)).map ph), .im e, .un, .un, .un, .un, .un, .un, .un, .un, .un] _ _
  unfold t_l_rows
  have hab : 1 ≤ a * b := by
    have h1 : a * 1 ≤ a * b := Int.mul_le_mul_of_nonneg_left hb (by omega)
    omega
  obtain ⟨n1, _, d1, nd1, nd2, _⟩ := bnd (a := a * b * c) (b := d) (c := 1) (by
    have h1 : a * b * 1 ≤ a * b * c := Int.mul_le_mul_of_nonneg_left hc (by omega)
    omega) hd (by decide) (by omega)
  have hn1 : 1 ≤ a * b * c := by
    have h1 : a * b * 1 ≤ a * b * c := Int.mul_le_mul_of_nonneg_left hc (by omega)
    omega
  have hd23 : d ≤ 23 := by
    have h1 : 1 * d ≤ a * b * c * d := Int.mul_le_mul_of_nonneg_right hn1 (by omega)
    omega
  have hG := suF_G ha hb hc
  obtain ⟨n, en⟩ : ∃ n, n = a * b * c := ⟨_, rfl⟩
  rw [← en] at n1 nd1 nd2 hn1 hN hph he k hG ⊢
  have hcall : ∀ p q : Int, In n p → In n q → T_l_sum [.im p, .im q, .im [a, b, c, d]] (fun s => s = .im (suF a b c p q)) (fun _ => False) := fun p q hp hq => ⟨p, q, _, rfl, a, b, c, d, rfl, ha, hb, hc, by rw [← en]; exact n1, by rw [← en]; exact hp, by rw [← en]; exact hq, rfl⟩
  have itn : ∀ i q, In n q → In n (itr ph i q) := fun i q hq => by
    induction i with
    | zero => exact hq
    | succ i ih => exact hph _ ih
  have cl : ∀ p q, In n (suF a b c p q) := hG.cl
  generalize suF a b c = f at *
  have hlen : (((irange n).map ph).length : Int) = n := by rw [List.length_map, irange_len]; omega
  have hlenT : ∀ g : Int → Int, (((irange n).map g).length : Int) = n := fun g => by rw [List.length_map, irange_len]; omega
  refine w_seq (w_asg (s := .im n) (ev_to (ev_len (ev_var rfl)) hlen) ?_)
  refine w_seq (w_asg (ev_nil (δ := List Int)) ?_)
  refine w_seq (w_asg (s := .im (irange n)) (ev_fr (ev_listRg (ev_var rfl) (by omega) (by omega))) ?_)
  walk_at "nz"
  generalize hop : xop n d f ph e = op at k
  refine w_seq (w_forR (n := d) (fun i G => ∃ s6 s7 s8 s9 s10 s11 : Sl, G = [.im [a, b, c, d], .im ((irange n).map ph), .im e, .im n, .ol ((irange (n * i)).map fun A => (irange (n * d)).map (op A)), .im ((irange n).map (itr ph i)), s6, s7, s8, s9, s10, s11]) (ev_s3 rfl) (by omega) (by omega) ⟨.un, .un, .un, .un, .un, .un, ?_⟩ ?_ ?_)
  · rw [show n * ((0 : Nat) : Int) = 0 by simp, irange_0]
    have : (irange n).map (itr ph 0) = irange n := List.map_id _
    rw [this]
    rfl
  · rintro i G hi ⟨s6, s7, s8, s9, s10, s11, rfl⟩
    walk_at "nz"
    have hni : 0 ≤ n * (i : Int) := Int.mul_nonneg (by omega) (by omega)
    have hni2 : n * (i : Int) ≤ 600 := by
      have : n * (i : Int) ≤ 23 * 23 := Int.mul_le_mul n1 (by omega) (by omega) (by omega)
      omega
    refine w_seq (w_forR (n := n) (fun p G => ∃ s7 s8 s9 s10 s11 : Sl, G = [.im [a, b, c, d], .im ((irange n).map ph), .im e, .im n, .ol ((irange (n * i + p)).map fun A => (irange (n * d)).map (op A)), .im ((irange n).map (itr ph i)), .im (i : Int), s7, s8, s9, s10, s11]) (ev_var rfl) (by omega) (by omega) ⟨s7, s8, s9, s10, s11, by rw [show n * (i : Int) + ((0 : Nat) : Int) = n * i by simp]⟩ ?_ ?_)
    · rintro p G hp ⟨s7, s8, s9, s10, s11, rfl⟩
      walk_at "nz"
      have hP : In n (p : Int) := ⟨by omega, hp⟩
      refine w_seq (w_asg (ev_nil (δ := Int)) ?_)
      walk_at "nz"
      refine w_seq (w_forR (n := d) (fun j G => ∃ s9 s10 s11 : Sl, G = [.im [a, b, c, d], .im ((irange n).map ph), .im e, .im n, .ol ((irange (n * i + p)).map fun A => (irange (n * d)).map (op A)), .im ((irange n).map (itr ph i)), .im (i : Int), .im (p : Int), .ol ((irange (n * j)).map (op (n * i + p))), s9, s10, s11]) (ev_s3 rfl) (by omega) (by omega) ⟨s9, s10, s11, by rw [show n * ((0 : Nat) : Int) = 0 by simp, irange_0]; rfl⟩ ?_ ?_)
      · rintro j G hj ⟨s9, s10, s11, rfl⟩
        walk_at "nz"
        have hnj : 0 ≤ n * (j : Int) := Int.mul_nonneg (by omega) (by omega)
        have hnj2 : n * (j : Int) ≤ 600 := by
          have : n * (j : Int) ≤ 23 * 23 := Int.mul_le_mul n1 (by omega) (by omega) (by omega)
          omega
        refine w_forR (n := n) (fun q G => ∃ s10 s11 : Sl, G = [.im [a, b, c, d], .im ((irange n).map ph), .im e, .im n, .ol ((irange (n * i + p)).map fun A => (irange (n * d)).map (op A)), .im ((irange n).map (itr ph i)), .im (i : Int), .im (p : Int), .ol ((irange (n * j + q)).map (op (n * i + p))), .im (j : Int), s10, s11]) (ev_var rfl) (by omega) (by omega) ⟨s10, s11, by rw [show n * (j : Int) + ((0 : Nat) : Int) = n * j by simp]⟩ ?_ ?_
        · rintro q G hq ⟨s10, s11, rfl⟩
          walk_at "nz"
          have hQ : In n (q : Int) := ⟨by omega, hq⟩
          have hI := itn i q hQ
          have eg : gt ((irange n).map (itr ph i)) (q : Int) = itr ph i q := gt_map hQ.1 hQ.2
          refine w_seq (w_asg (s := .im (f p (itr ph i q))) (ev_callN (ea_cons (ev_var rfl) (ea_cons (ev_to (ev_ix (ev_var rfl) (ev_var rfl) hQ.1 (by rw [hlenT]; exact hQ.2)) eg) (ea_cons (ev_var rfl) ea_nil))) ?_) ?_)
          · obtain ⟨p', q', l', e1, r⟩ := hcall p _ hP hI
            exact ⟨p', q', l', e1, r⟩
          walk_at "nz"
          have m0 := Int.emod_nonneg ((i : Int) + j) (show d ≠ 0 by omega)
          have m1 := Int.emod_lt_of_pos ((i : Int) + j) (show 0 < d by omega)
          have eo : op (n * i + p) (n * j + q) = (if d ≤ (i : Int) + j then f (f p (itr ph i q)) e else f p (itr ph i q)) + n * (((i : Int) + j) % d) := by
            rw [← hop]
            unfold xop
            have a1 := dm (n := n) (k := (i : Int)) hP
            have a2 := dm (n := n) (k := (j : Int)) hQ
            rw [Int.add_comm (n * (i : Int)), Int.add_comm (n * (j : Int)), a1.1, a1.2, a2.1, a2.2]
            rfl
          refine w_mid (fun G => ∃ v : Int, v = (if d ≤ (i : Int) + j then f (f p (itr ph i q)) e else f p (itr ph i q)) ∧ G = [.im [a, b, c, d], .im ((irange n).map ph), .im e, .im n, .ol ((irange (n * i + p)).map fun A => (irange (n * d)).map (op A)), .im ((irange n).map (itr ph i)), .im (i : Int), .im (p : Int), .ol ((irange (n * j + q)).map (op (n * i + p))), .im (j : Int), .im (q : Int), .im v]) (w_if (et_test (ev_ge (ev_add (ev_var rfl) (ev_var rfl)) (ev_s3 rfl))) (fun hb => ?_) (fun hb => ?_)) ?_
          · simp at hb
            refine w_asg (s := .im (f (f p (itr ph i q)) e)) (ev_callN (ea_cons (ev_var rfl) (ea_cons (ev_var rfl) (ea_cons (ev_var rfl) ea_nil))) ?_) ⟨_, by rw [if_pos hb], rfl⟩
            obtain ⟨p', q', l', e1, r⟩ := hcall _ _ (cl p (itr ph i q)) he
            exact ⟨p', q', l', e1, r⟩
          · simp at hb
            exact w_next ⟨_, by rw [if_neg (by omega)], rfl⟩
          · rintro _ ⟨v, ev, rfl⟩
            refine w_app rfl (ev_add (ev_var rfl) (ev_mul (ev_var rfl) (ev_mod (ev_add (ev_var rfl) (ev_var rfl)) (ev_s3 rfl) (by omega)) (cmul23 (by omega) (by omega) m0 (by omega)))) (by rw [List.length_map, irange_len]; omega) ⟨.im (q : Int), .im v, ?_⟩
            walk_at "nz"
            rw [irange_at (by omega) (by rw [eo, ev]), show n * (j : Int) + ((q + 1 : Nat) : Int) = n * j + q + 1 by omega]
        · rintro G ⟨s10, s11, rfl⟩
          refine ⟨.im (j : Int), s10, s11, ?_⟩
          rw [show n * (j : Int) + ((n.toNat : Nat) : Int) = n * ((j + 1 : Nat) : Int) by rw [show ((j + 1 : Nat) : Int) = j + 1 by omega, Int.mul_add]; omega]
      · rintro G ⟨s9, s10, s11, rfl⟩
        rw [show ((d.toNat : Nat) : Int) = d by omega]
        refine w_fr 8 rfl (w_app rfl (ev_var rfl) (by rw [List.length_map, irange_len]; omega) ⟨.im (p : Int), .im ((irange (n * d)).map (op (n * i + p))), s9, s10, s11, ?_⟩)
        walk_at "nz"
        rw [irange_atT (by omega) rfl, show n * (i : Int) + ((p + 1 : Nat) : Int) = n * i + p + 1 by omega]
    · rintro G ⟨s7, s8, s9, s10, s11, rfl⟩
      refine w_un 11 ?_
      walk_at "nz"
      refine w_asg (s := .im ((irange n).map (itr ph (i + 1)))) ?hh ⟨.im (i : Int), s7, s8, s9, s10, .un, ?_⟩
      case hh =>
        refine ev_fr (ev_is (s := Sl.ol (α := Int) (((irange n).map (itr ph i)).map fun x => ph x)) (ev_mapL (xs := (irange n).map (itr ph i)) (fun x => ph x) (ev_var rfl) ?_ ?_ ?_ ?_) ?_)
        · have := hlenT (itr ph i); omega
        · simp
        · exact ⟨.inl rfl, trivial⟩
        · intro x hx
          obtain ⟨y, hy, rfl⟩ := List.mem_map.mp hx
          have hI := itn i y (mem_irange.mp hy)
          exact ev_to (ev_ix (ev_var rfl) (ev_var rfl) hI.1 (by rw [hlen]; exact hI.2)) (gt_map hI.1 hI.2)
        · rw [List.map_map]
          rfl
      · rw [show n * (i : Int) + ((n.toNat : Nat) : Int) = n * ((i + 1 : Nat) : Int) by rw [show ((i + 1 : Nat) : Int) = i + 1 by omega, Int.mul_add]; omega]
        rfl
  · rintro G ⟨s6, s7, s8, s9, s10, s11, rfl⟩
    refine w_fr 4 rfl (w_ret (ev_var rfl) ?_)
    rw [show ((d.toNat : Nat) : Int) = d by omega]
    exact k
end TB

/-! ### l_names -/
namespace TB
open PySem L2
--use TbAb
def T_l_names : Tm := tm2 fun (n x : Int) ok _ => 0 ≤ n ∧ n ≤ 1000 ∧ 0 ≤ x ∧ x ≤ 2147483647 ∧ ∀ nm : List Int, nm.Perm (irange n) → ok (.im nm)
def t_l_names (Z : Zz) (X : WX) : TS :=
  (tSeq (tAsg (tLst tNil) (gName 2))
  (tSeq (tFor (iRng1 (tCons (tVar 0) tNil)) (gName 3)
  (tSeq (tAsg (tOp gMod (tOp gAdd (tOp gAdd (tOp gAdd (tOp gMul (tVar 1) (tVar 1)) (tOp gMul (tC (.int 48271)) (tVar 1))) (tVar 3)) (tC (.int 11))) (tC (.int 2147483647))) (gName 1))
  (tDrop (tBM Z.K "list" gInsert (tVar 2) (tCons (tOp gMod (tVar 1) (tOp gAdd (tVar 3) (tC (.int 1)))) (tCons (tVar 3) tNil))))))
  (tRet (tVar 2))))
theorem w_l_names (Z : Zz) (X : WX) (ss : List Sl) (ok : Sl → Prop) (er : Rf → Prop) (h : T_l_names ss ok er) : WF Z X er (ss ++ List.replicate (4 - ss.length) .un) (t_l_names Z X) ok := by
  obtain ⟨n, x, rfl, h0, h1, hx0, hx1, k⟩ := h
  show W _ [.im n, .im x, .un, .un] _ _
  unfold t_l_names
  refine w_seq (w_asg (ev_nil (δ := Int)) ?_)
  walk_at "nz"
  refine w_seq (w_forR (n := n) (fun i G => ∃ (x : Int) (nm : List Int) (s3 : Sl), G = [.im n, .im x, .ol nm, s3] ∧ 0 ≤ x ∧ x ≤ 2147483647 ∧ nm.Perm (irange (i : Int))) (ev_var rfl) (by omega) (by omega) ⟨x, [], .un, rfl, hx0, hx1, .nil⟩ ?_ ?_)
  · rintro i G hi ⟨x, nm, s3, rfl, hx0, hx1, hp⟩
    walk_at "nz"
    have hl : nm.length = i := by rw [hp.length_eq, irange_len]; omega
    refine w_seq (w_asg (ev_mod (ev_add (ev_add (ev_add (ev_mul (ev_var rfl) (ev_var rfl) (cmulS (by omega) (by omega) (by omega) (by omega))) (ev_mul ev_int (ev_var rfl) (cmulS (by omega) (by omega) (by omega) (by omega)))) (ev_var rfl)) ev_int) ev_int (by decide)) ?_)
    walk_at "nz"
    generalize hy : (x * x + 48271 * x + (i : Int) + 11) % 2147483647 = y
    have hy0 : 0 ≤ y := by rw [← hy]; exact Int.emod_nonneg _ (by decide)
    have hy1 : y < 2147483647 := by rw [← hy]; exact Int.emod_lt_of_pos _ (by decide)
    have z0 := Int.emod_nonneg y (show (i : Int) + 1 ≠ 0 by omega)
    have z1 := Int.emod_lt_of_pos y (show 0 < (i : Int) + 1 by omega)
    refine w_ins rfl (ev_mod (ev_var rfl) (ev_add (ev_var rfl) ev_int) (by omega)) (ev_var rfl) z0 (by omega) (by omega) ⟨y, _, _, rfl, hy0, by omega, ?_⟩
    rw [show ((i + 1 : Nat) : Int) = (i : Int) + 1 by omega, irange_suc (by omega)]
    generalize (y % ((i : Int) + 1)).toNat = m
    rw [List.append_assoc]
    refine .trans (List.perm_middle (a := (i : Int))) (.trans (.cons _ (by show (List.take m nm ++ List.drop m nm).Perm nm; rw [List.take_append_drop])) (.trans (.cons _ hp) (List.perm_append_comm (l₁ := [(i : Int)]))))
  · rintro G ⟨x, nm, s3, rfl, _, _, hp⟩
    refine w_fr 2 rfl (w_ret (ev_var rfl) (k _ ?_))
    rw [show ((n.toNat : Nat) : Int) = n by omega] at hp
    exact hp
end TB

/-! ### l_group -/
namespace TB
open PySem L2
--use TbAb
def T_l_group : Tm := tm2 fun (l : Scr) (x : Int) ok _ => 0 ≤ x ∧ ∀ t e, GTbl t e → ok (.o2 t)
theorem nodup_irange (n : Int) : (irange n).Nodup := by
  unfold irange List.Nodup
  rw [List.pairwise_map]
  exact (List.nodup_range).imp (fun h e => h (by omega))
structure Nms (N : Int) (nm : List Int) : Prop where
  len : (nm.length : Int) = N
  inn : ∀ a, In N a → In N (gt nm a)
  inj : ∀ a b, In N a → In N b → gt nm a = gt nm b → a = b
  sj : ∀ b, In N b → ∃ a, In N a ∧ gt nm a = b
theorem nms_of {N : Int} {nm : List Int} (h0 : 0 ≤ N) (h : nm.Perm (irange N)) : Nms N nm := by
  have hl : (nm.length : Int) = N := by rw [h.length_eq, irange_len]; omega
  have nd : nm.Nodup := h.nodup_iff.mpr (nodup_irange N)
  refine ⟨hl, fun a ha => mem_irange.mp (h.mem_iff.mp (gt_mem ha.1 (by rw [hl]; exact ha.2))), fun a b ha hb e => ?_, fun b hb => ?_⟩
  · obtain ⟨a0, a1⟩ := ha
    obtain ⟨b0, b1⟩ := hb
    have i1 : a.toNat < nm.length := by omega
    have i2 : b.toNat < nm.length := by omega
    have e1 := gt_nat (xs := nm) i1
    have e2 := gt_nat (xs := nm) i2
    rw [show ((a.toNat : Nat) : Int) = a by omega] at e1
    rw [show ((b.toNat : Nat) : Int) = b by omega] at e2
    rw [e1, e2] at e
    have := (List.getElem_inj nd).mp e
    omega
  · have hm := h.mem_iff.mpr (mem_irange.mpr hb)
    obtain ⟨i, hi, rfl⟩ := List.getElem_of_mem hm
    exact ⟨(i : Int), ⟨by omega, by omega⟩, gt_nat hi⟩
theorem gt_set {α : Type} [Rp α] {xs : List α} {i j : Int} {y : α} (hi : 0 ≤ i) (hj : 0 ≤ j) (hj2 : j < xs.length) : gt (xs.set i.toNat y) j = if i = j then y else gt xs j := by
  have h1 : j.toNat < xs.length := by omega
  unfold gt
  rw [getD_eq (by rw [List.length_set]; exact h1), getD_eq h1, List.getElem_set]
  by_cases e : i = j
  · subst e; simp
  · rw [if_neg (by omega), if_neg e]
structure TbSt (N : Int) (nm : List Int) (op : Int → Int → Int) (A B : Int) (tb : Tbl) : Prop where
  len : (tb.length : Int) = N
  row : ∀ r ∈ tb, (r.length : Int) = N
  en : ∀ x y, In N x → In N y → (x < A ∨ (x = A ∧ y < B)) → en tb (gt nm x) (gt nm y) = gt nm (op x y)
theorem tbSt_step {N : Int} {nm : List Int} {op : Int → Int → Int} {A B : Int} {tb : Tbl} (hn : Nms N nm) (h : TbSt N nm op A B tb) (hA : In N A) (hB : In N B) :
    TbSt N nm op A (B + 1) (tb.set (gt nm A).toNat ((gt tb (gt nm A)).set (gt nm B).toNat (gt nm (op A B)))) := by
  have nA := hn.inn A hA
  have nB := hn.inn B hB
  have rA : ((gt tb (gt nm A)).length : Int) = N := h.row _ (gt_mem nA.1 (by rw [h.len]; exact nA.2))
  refine ⟨by rw [List.length_set]; exact h.len, fun r hr => ?_, fun x y hx hy hq => ?_⟩
  · rcases List.mem_or_eq_of_mem_set hr with q | q
    · exact h.row r q
    · rw [q, List.length_set]; exact rA
  · have nx := hn.inn x hx
    have ny := hn.inn y hy
    unfold TB.en
    rw [gt_set nA.1 nx.1 (by rw [h.len]; exact nx.2)]
    by_cases e : gt nm A = gt nm x
    · have ex := hn.inj _ _ hA hx e
      subst ex
      rw [if_pos rfl, gt_set nB.1 ny.1 (by rw [rA]; exact ny.2)]
      by_cases e2 : gt nm B = gt nm y
      · have ey := hn.inj _ _ hB hy e2
        subst ey
        rw [if_pos rfl]
      · rw [if_neg e2]
        refine h.en _ _ hx hy ?_
        have : y ≠ B := fun z => e2 (by rw [z])
        omega
    · rw [if_neg e]
      refine h.en _ _ hx hy ?_
      have : x ≠ A := fun z => e (by rw [z])
      omega
theorem tab_len {N : Int} {op : Int → Int → Int} (h : 0 ≤ N) : ((tab N op).length : Int) = N := by unfold tab; rw [List.length_map, irange_len]; omega
theorem tab_row {N : Int} {op : Int → Int → Int} (h : 0 ≤ N) : ∀ r ∈ tab N op, (r.length : Int) = N := fun r hr => by
  obtain ⟨a, _, rfl⟩ := List.mem_map.mp hr
  rw [List.length_map, irange_len]; omega
theorem tab_get {N : Int} {op : Int → Int → Int} {i : Nat} (hi : i < (tab N op).length) : (tab N op)[i] = (irange N).map (op i) := by
  have h2 : i < ((irange N).map fun A => (irange N).map (op A)).length := hi
  show ((irange N).map fun A => (irange N).map (op A))[i]'h2 = _
  rw [List.getElem_map, irange_get]
theorem row_get {N : Int} {f : Int → Int} {i : Nat} (hi : i < ((irange N).map f).length) : ((irange N).map f)[i] = f i := by
  rw [List.getElem_map, irange_get]
def t_l_group (Z : Zz) (X : WX) : TS :=
  (tSeq (tAsg (tCallSD (spOf Z T_l_cell) [] (WE X) (tCons (tVar 0) (tCons (tVar 1) tNil))) (gName 2))
  (tSeq (tAsg (tCallSD (spOf Z T_l_cell) [] (WE X) (tCons (tVar 0) (tCons (tOp gAdd (tVar 1) (tC (.int 1))) tNil))) (gName 3))
  (tSeq (tAsg (tCallSD (spOf Z T_l_sizes) [] (WE X) (tCons (tVar 2) (tCons (tVar 3) tNil))) (gName 4))
  (tSeq (tAsg (tOp gMod (tOp gMul (tOp gMul (tOp gAdd (tVar 3) (tC (.int 11))) (tOp gAdd (tVar 3) (tC (.int 29)))) (tC (.int 48271))) (tC (.int 2147483629))) (gName 5))
  (tSeq (tAsg (tCallSD (spOf Z T_l_kind) [] (WE X) (tCons (tVar 4) (tCons (tVar 5) tNil))) (gName 6))
  (tSeq (tAsg (tLst tNil) (gName 7))
  (tSeq (tFor (iRng1 (tCons (tC (.int 3)) tNil)) (gName 8)
  (tDrop (tBM Z.K "list" rAppend (tVar 7) (tCons (tCallSD (spOf Z T_l_unit) [] (WE X) (tCons (tOp (gIx Z.K) (tVar 4) (tVar 8)) (tCons (tOp (gIx Z.K) (tVar 4) (tC (.int 3))) (tCons (tOp gDiv (tVar 5) (tOp (gIx Z.K) (tLst (tCons (tC (.int 12)) (tCons (tC (.int 276)) (tCons (tC (.int 6348)) tNil)))) (tVar 8))) tNil)))) tNil))))
  (tSeq (tAsg (tOp gMul (tOp gMul (tOp (gIx Z.K) (tVar 4) (tC (.int 0))) (tOp (gIx Z.K) (tVar 4) (tC (.int 1)))) (tOp (gIx Z.K) (tVar 4) (tC (.int 2)))) (gName 9))
  (tSeq (tAsg (tLc (iRng1 (tCons (tVar 9) tNil)) (gName 19) tYes (tCall (spOf Z T_l_turned) [] E0 (tCons (tVar 19) (tCons (tVar 4) (tCons (tVar 6) (tCons (tVar 7) tNil))))) [19]) (gName 10))
  (tSeq (tAsg (tOp gMod (tOp gMod (tOp gMul (tOp gMul (tOp gAdd (tVar 2) (tC (.int 5))) (tOp gAdd (tVar 2) (tC (.int 17)))) (tC (.int 69621))) (tC (.int 2147483587))) (tVar 9)) (gName 11))
  (tSeq (tIfS (tTest (tOp (gNe Z.K) (tOp (gIx Z.K) (tVar 10) (tVar 11)) (tVar 11)))
  (tAsg (tC (.int 0)) (gName 11))
  tNext)
  (tSeq (tAsg (tCallSD (spOf Z T_l_rows) [] (WE X) (tCons (tVar 4) (tCons (tVar 10) (tCons (tVar 11) tNil)))) (gName 12))
  (tSeq (tAsg (tCallSD (spOf Z T_l_names) [] (WE X) (tCons (tCB (gLen Z.K) (tCons (tVar 12) tNil)) (tCons (tCallSD (spOf Z T_l_cell) [] (WE X) (tCons (tVar 0) (tCons (tOp gAdd (tVar 1) (tC (.int 2))) tNil))) tNil))) (gName 13))
  (tSeq (tAsg (tLc (iList Z.K (tVar 12)) (gName 16) tYes (tCB (gList Z.K) (tCons (tVar 16) tNil)) [16]) (gName 14))
  (tSeq (tFor (iEnum Z.K (tCons (tVar 12) tNil)) (gTup Z.K 2 (gCons (gName 15) (gCons (gName 16) gNil)))
  (tFor (iEnum Z.K (tCons (tVar 16) tNil)) (gTup Z.K 2 (gCons (gName 17) (gCons (gName 18) gNil)))
  (tAsg (tOp (gIx Z.K) (tVar 13) (tVar 18)) (gSub (tOp (gIx Z.K) (tVar 14) (tOp (gIx Z.K) (tVar 13) (tVar 15))) (tOp (gIx Z.K) (tVar 13) (tVar 17)) gSet))))
  (tRet (tVar 14)))))))))))))))))
theorem w_l_group (Z : Zz) (X : WX) (ss : List Sl) (ok : Sl → Prop) (er : Rf → Prop) (h : T_l_group ss ok er) : WF Z X er (ss ++ List.replicate (20 - ss.length) .un) (t_l_group Z X) ok := by
  obtain ⟨l, x, rfl, hx, k⟩ := h
  show W _ [.im l, .im x, .un, .un, .un, .un, .un, .un, .un, .un, .un, .un, .un, .un, .un, .un, .un, .un, .un, .un] _ _
  unfold t_l_group
  have cell : ∀ {Γ : List Sl} {ta tb : TE} {i : Int}, Ev ⟨Z, X, fun r _ => er r⟩ Γ ta (.im l) → Ev ⟨Z, X, fun r _ => er r⟩ Γ tb (.im i) → 0 ≤ i → Ev ⟨Z, X, fun r _ => er r⟩ Γ (tCallSD (spOf Z T_l_cell) [] (WE X) (tCons ta (tCons tb tNil))) (.im (cellOf l i)) := fun h1 h2 h3 => ev_callN (c := ⟨Z, X, fun r _ => er r⟩) (ea_cons h1 (ea_cons h2 ea_nil)) ⟨_, _, rfl, h3, rfl⟩
  refine w_seq (w_asg (cell (ev_var rfl) (ev_var rfl) hx) ?_)
  refine w_seq (w_asg (cell (ev_var rfl) (ev_add (ev_var rfl) ev_int) (by omega)) ?_)
  walk_at "nz"
  have b2 := cellOf_bd l x
  have b3 := cellOf_bd l (x + 1)
  have b4 := cellOf_bd l (x + 2)
  generalize cellOf l x = x2 at *
  generalize cellOf l (x + 1) = x3 at *
  refine w_seq (w_asgS (S := fun s => ∃ sz : List Int, s = .im sz ∧ SzOk sz) (es_call (ea_cons (ev_var rfl) (ea_cons (ev_var rfl) ea_nil)) ⟨_, _, rfl, b2.1, b3.1, fun sz hs => ⟨sz, rfl, hs⟩⟩) ?_)
  rintro _ ⟨_, rfl, a, b, c, d, rfl, ha, hb, hc, hd, hN⟩
  walk_at "nz"
  have bigm : ∀ p q : Int, 0 ≤ p → p ≤ 2147483700 → 0 ≤ q → q ≤ 2147483700 → 0 ≤ p * q ∧ p * q ≤ 2147483700 * 2147483700 := fun p q h0 h1 h2 h3 => ⟨Int.mul_nonneg h0 h2, Int.mul_le_mul h1 h3 h2 (by omega)⟩
  have big : ∀ p q z : Int, 0 ≤ p → p ≤ 2147483700 → 0 ≤ q → q ≤ 2147483700 → 0 ≤ z → z ≤ 100000 → CMulW (p * q) z := fun p q z h0 h1 h2 h3 h4 h5 => by
    have := bigm p q h0 h1 h2 h3
    generalize p * q = m at *
    exact wide_mul (a := 64) (b := 64) (by omega) (by omega) (by decide) (by decide) (by decide)
  refine w_seq (w_asg (ev_mod (ev_mul (ev_mul (ev_add (ev_var rfl) ev_int) (ev_add (ev_var rfl) ev_int) (cmulS (by omega) (by omega) (by omega) (by omega))) ev_int (big _ _ _ (by omega) (by omega) (by omega) (by omega) (by omega) (by omega))) ev_int (by decide)) ?_)
  walk_at "nz"
  generalize (x3 + 11) * (x3 + 29) * 48271 % 2147483629 = y5
  refine w_seq (w_asgS (S := fun s => ∃ kd : Int, s = .im kd ∧ KindOk a b d kd) (es_call (ea_cons (ev_var rfl) (ea_cons (ev_var rfl) ea_nil)) ⟨_, _, rfl, a, b, c, d, rfl, ha, hb, hd, fun kd hk => ⟨kd, rfl, hk⟩⟩) ?_)
  rintro _ ⟨kd, rfl, hkd⟩
  walk_at "nz"
  have hn1 : 1 ≤ a * b * c := by
    have h1 : a * 1 ≤ a * b := Int.mul_le_mul_of_nonneg_left hb (by omega)
    have h2 : a * b * 1 ≤ a * b * c := Int.mul_le_mul_of_nonneg_left hc (by omega)
    omega
  have hn : a * b * c ≤ 23 := by
    have h2 : a * b * c * 1 ≤ a * b * c * d := Int.mul_le_mul_of_nonneg_left hd (by omega)
    omega
  have hd23 : d ≤ 23 := by
    have h2 : 1 * d ≤ a * b * c * d := Int.mul_le_mul_of_nonneg_right hn1 (by omega)
    omega
  obtain ⟨a1, b1, c1, ab0, ab1, _⟩ := bnd ha hb hc hn
  refine w_seq (w_asg (ev_nil (δ := Int)) ?_)
  walk_at "nz"
  refine w_seq (w_forR (n := 3) (fun i G => ∃ (us : List Int) (s8 : Sl), G = [.im l, .im x, .im x2, .im x3, .im [a, b, c, d], .im y5, .im kd, .ol us, s8, .un, .un, .un, .un, .un, .un, .un, .un, .un, .un, .un] ∧ us.length = i ∧ ∀ j : Int, 0 ≤ j → j < i → UnitOk (gt [a, b, c, d] j) d (gt us j)) ev_int (by decide) (by decide) ⟨[], .un, rfl, rfl, fun j h0 h1 => by omega⟩ ?_ ?_)
  · rintro i G hi ⟨us, s8, rfl, hl, hu⟩
    walk_at "nz"
    have hg : ∀ i : Int, 0 ≤ i → i < 3 → (1 ≤ gt [a, b, c, d] i ∧ gt [a, b, c, d] i ≤ 23) ∧ (0 < gt ([12, 276, 6348] : List Int) i ∧ gt ([12, 276, 6348] : List Int) i < 1073741824) := fun i h0 h1 => by
      rcases (show i = 0 ∨ i = 1 ∨ i = 2 by omega) with rfl | rfl | rfl
      · exact ⟨⟨ha, a1⟩, by decide⟩
      · exact ⟨⟨hb, b1⟩, by decide⟩
      · exact ⟨⟨hc, c1⟩, by decide⟩
    obtain ⟨⟨g1, g2⟩, g3, g4⟩ := hg i (by omega) hi
    refine w_appS rfl (S := fun s => ∃ u : Int, s = .im u ∧ UnitOk (gt [a, b, c, d] (i : Int)) d u) (es_call (ss := [.im (gt [a, b, c, d] (i : Int)), .im d, .im (y5 / gt ([12, 276, 6348] : List Int) (i : Int))]) (ea_cons (ev_ix (ev_var rfl) (ev_var rfl) (by omega) (by simp; omega)) (ea_cons (ev_s3 rfl) (ea_cons (ev_div (ev_var rfl) (ev_ix (ev_fr (xs := ([12, 276, 6348] : List Int)) (by walk_at "ev")) (ev_var rfl) (by omega) (by simp; omega)) g3 g4) ea_nil))) ⟨_, _, _, rfl, g1, g2, hd, hd23, fun u hu => ⟨u, rfl, hu⟩⟩) (by omega) ?_
    rintro _ ⟨u, rfl, hU⟩
    refine ⟨u, rfl, _, _, rfl, by simp; omega, fun j h0 h1 => ?_⟩
    by_cases hj : j < (i : Int)
    · have e1 : gt (us ++ [u]) j = gt us j := by
        unfold gt
        rw [getD_eq (by simp; omega), getD_eq (by omega), List.getElem_append_left (by omega)]
      rw [e1]
      exact hu j h0 hj
    · have e2 : j = (i : Int) := by omega
      subst e2
      have e1 : gt (us ++ [u]) (i : Int) = u := by
        rw [gt_nat (by simp; omega), List.getElem_append_right (by omega)]
        simp
      rw [e1]
      exact hU
  rintro G ⟨us, s8, rfl, hl, hu⟩
  obtain ⟨u, v, w, rfl⟩ : ∃ u v w, us = [u, v, w] := by
    match us, hl with
    | [u, v, w], _ => exact ⟨u, v, w, rfl⟩
  have hu0 : UnitOk a d u := hu 0 (by decide) (by decide)
  have hv0 : UnitOk b d v := hu 1 (by decide) (by decide)
  have hw0 : UnitOk c d w := hu 2 (by decide) (by decide)
  have TO : TurnOk a b c d u v w kd := ⟨ha, hb, hc, hd, hkd, hu0.2.2, hv0.2.2, hw0.2.2⟩
  refine w_fr 7 rfl ?_
  walk_at "nz"
  refine w_seq (w_asg (ev_mul (ev_mul (ev_s0 rfl) (ev_s1 rfl) (cmul23 (by omega) (by omega) (by omega) (by omega))) (ev_s2 rfl) (cmul23 (by omega) (by omega) (by omega) (by omega))) ?_)
  walk_at "nz"
  refine w_seq (w_asg (s := .im ((irange (a * b * c)).map (tuF a b c u v w kd))) ?hh ?_)
  case hh =>
    refine ev_fr (ev_mapR (n := a * b * c) (tuF a b c u v w kd) (ev_var rfl) (by omega) (by omega) (by simp) ⟨.inl rfl, trivial⟩ ?_)
    intro p h0 h1
    exact ev_callN0 (ea_cons (ev_var rfl) (ea_cons (ev_var rfl) (ea_cons (ev_var rfl) (ea_cons (ev_var rfl) ea_nil)))) ⟨_, _, _, _, rfl, a, b, c, d, u, v, w, rfl, rfl, ha, hb, hc, hn, ⟨hu0.1, hu0.2.1⟩, ⟨hv0.1, hv0.2.1⟩, ⟨hw0.1, hw0.2.1⟩, ⟨h0, h1⟩, rfl⟩
  walk_at "nz"
  refine w_seq (w_asg (ev_mod (ev_mod (ev_mul (ev_mul (ev_add (ev_var rfl) ev_int) (ev_add (ev_var rfl) ev_int) (cmulS (by omega) (by omega) (by omega) (by omega))) ev_int (big _ _ _ (by omega) (by omega) (by omega) (by omega) (by omega) (by omega))) ev_int (by decide)) (ev_var rfl) (by omega)) ?_)
  walk_at "nz"
  have hE := md' hn1 ((x2 + 5) * (x2 + 17) * 69621 % 2147483587)
  generalize (x2 + 5) * (x2 + 17) * 69621 % 2147483587 % (a * b * c) = e0 at hE ⊢
  have hlenT : (((irange (a * b * c)).map (tuF a b c u v w kd)).length : Int) = a * b * c := by rw [List.length_map, irange_len]; omega
  have eg : gt ((irange (a * b * c)).map (tuF a b c u v w kd)) e0 = tuF a b c u v w kd e0 := gt_map hE.1 hE.2
  refine w_mid (fun G => ∃ e : Int, In (a * b * c) e ∧ tuF a b c u v w kd e = e ∧ G = [.im l, .im x, .im x2, .im x3, .im [a, b, c, d], .im y5, .im kd, .im [u, v, w], s8, .im (a * b * c), .im ((irange (a * b * c)).map (tuF a b c u v w kd)), .im e, .un, .un, .un, .un, .un, .un, .un, .un]) (w_if (et_test (ev_neI (ev_to (ev_ix (ev_var rfl) (ev_var rfl) hE.1 (by rw [hlenT]; exact hE.2)) eg) (ev_var rfl))) (fun hb => ?_) (fun hb => ?_)) ?_
  · exact w_asg ev_int ⟨0, ⟨by omega, by omega⟩, tuF_z TO, rfl⟩
  · simp at hb
    exact w_next ⟨e0, hE, hb, rfl⟩
  rintro _ ⟨e, he, hes, rfl⟩
  have hT := tu_T TO he hes
  have hG := ext_G (suF_G ha hb hc) hT
  refine w_seq (w_asg (s := .im (tab (a * b * c * d) (xop (a * b * c) d (suF a b c) (tuF a b c u v w kd) e))) (ev_callN (ea_cons (ev_var rfl) (ea_cons (ev_var rfl) (ea_cons (ev_var rfl) ea_nil))) ⟨_, _, _, rfl, a, b, c, d, tuF a b c u v w kd, rfl, ha, hb, hc, hd, hN, rfl, fun y _ => tuF_in TO y, he, rfl⟩) ?_)
  walk_at "nz"
  have hN1 : 1 ≤ a * b * c * d := by
    have h2 : a * b * c * 1 ≤ a * b * c * d := Int.mul_le_mul_of_nonneg_left hd (by omega)
    omega
  generalize xop (a * b * c) d (suF a b c) (tuF a b c u v w kd) e = op at hG ⊢
  generalize a * b * c * d = N at hG hN1 hN ⊢
  have tl := tab_len (op := op) (show 0 ≤ N by omega)
  have tr := tab_row (op := op) (show 0 ≤ N by omega)
  refine w_seq (w_asgS (S := fun s => ∃ nm : List Int, s = .im nm ∧ nm.Perm (irange N)) (es_call (ss := [.im N, .im (cellOf l (x + 2))]) (ea_cons (ev_to (ev_len (ev_var rfl)) tl) (ea_cons (cell (ev_var rfl) (ev_add (ev_var rfl) ev_int) (by omega)) ea_nil)) ⟨_, _, rfl, by omega, by omega, b4.1, by omega, fun nm hp => ⟨nm, rfl, hp⟩⟩) ?_)
  rintro _ ⟨nm, rfl, hp⟩
  have hnm := nms_of (by omega) hp
  walk_at "nz"
  refine w_seq (w_asg (s := .o2 (tab N op)) (ev_copyT2 (ev_var rfl) (by omega) ⟨.inl rfl, trivial⟩ fun _ => rfl) ?_)
  walk_at "nz"
  refine w_seq (w_forE (xs := tab N op) (fun A G => ∃ (tb : Tbl) (s15 s16 s17 s18 : Sl), G = [.im l, .im x, .im x2, .im x3, .im [a, b, c, d], .im y5, .im kd, .im [u, v, w], s8, .im (a * b * c), .im ((irange (a * b * c)).map (tuF a b c u v w kd)), .im e, .im (tab N op), .im nm, .o2 tb, s15, s16, s17, s18, .un] ∧ TbSt N nm op A 0 tb) (ev_var rfl) ⟨_, .un, .un, .un, .un, rfl, tl, tr, fun x y hx hy h => by have := hx.1; have := hy.1; omega⟩ ?_ ?_)
  · rintro A G hA ⟨tb, s15, s16, s17, s18, rfl, hst⟩
    have hA' : In N (A : Int) := ⟨by omega, by omega⟩
    have erow := tab_get hA
    rw [erow]
    walk_at "nz"
    refine w_forE (xs := (irange N).map (op A)) (fun B G => ∃ (tb : Tbl) (s17 s18 : Sl), G = [.im l, .im x, .im x2, .im x3, .im [a, b, c, d], .im y5, .im kd, .im [u, v, w], s8, .im (a * b * c), .im ((irange (a * b * c)).map (tuF a b c u v w kd)), .im e, .im (tab N op), .im nm, .o2 tb, .im (A : Int), .im ((irange N).map (op A)), s17, s18, .un] ∧ TbSt N nm op A B tb) (ev_var rfl) ⟨tb, s17, s18, rfl, hst⟩ ?_ ?_
    · rintro B G hB ⟨tb, s17, s18, rfl, hst⟩
      have hlr : (((irange N).map (op A)).length : Int) = N := by rw [List.length_map, irange_len]; omega
      have hB' : In N (B : Int) := ⟨by omega, by omega⟩
      rw [row_get hB]
      walk_at "nz"
      have hop := hG.cl _ _ hA' hB'
      have nA := hnm.inn _ hA'
      have nB := hnm.inn _ hB'
      have rA : ((gt tb (gt nm A)).length : Int) = N := hst.row _ (gt_mem nA.1 (by rw [hst.len]; exact nA.2))
      refine w_put2 rfl (ev_ix (ev_var rfl) (ev_var rfl) hop.1 (by rw [hnm.len]; exact hop.2)) (ep_ix (ep_var rfl) (ep_var rfl) hA'.1 (by rw [hnm.len]; exact hA'.2)) (ep_ix (ep_var rfl) (ep_var rfl) hB'.1 (by rw [hnm.len]; exact hB'.2)) nA.1 (by rw [hst.len]; exact nA.2) nB.1 (by rw [rA]; exact nB.2) ⟨_, _, _, rfl, ?_⟩
      rw [show ((B + 1 : Nat) : Int) = (B : Int) + 1 by omega]
      exact tbSt_step hnm hst hA' hB'
    · rintro G ⟨tb, s17, s18, rfl, hst⟩
      refine ⟨tb, _, _, _, _, rfl, hst.len, hst.row, fun x y hx hy h => hst.en x y hx hy ?_⟩
      have hlr : (((irange N).map (op A)).length : Int) = N := by rw [List.length_map, irange_len]; omega
      have := hy.2
      have := hy.1
      omega
  · rintro G ⟨tb, s15, s16, s17, s18, rfl, hst⟩
    refine w_retO val_o2 rfl (k _ (gt nm 0) (tbl_of hG (gt nm) (by omega) hN hnm.inn hnm.sj hst.len (fun r hr => ?_) fun x y hx hy => hst.en x y hx hy (.inl ?_)))
    · have := hst.row r hr
      have := hst.len
      omega
    · rw [tl]; exact hx.2
end TB

/-! ### l_one -/
namespace TB
open PySem L2
--use TbGt
def T_l_one : Tm := tm1 fun (t : Tbl) ok _ => ∃ e, GTbl t e ∧ ok (.im e)
def t_l_one (Z : Zz) (X : WX) : TS :=
  (tRet (tOp (gIx Z.K) (tLc (iRng1 (tCons (tCB (gLen Z.K) (tCons (tVar 0) tNil)) tNil)) (gName 1) (tTest (tOp (gEq Z.K) (tOp (gIx Z.K) (tOp (gIx Z.K) (tVar 0) (tVar 1)) (tVar 1)) (tVar 1))) (tVar 1) [1]) (tC (.int 0))))
theorem w_l_one (Z : Zz) (X : WX) (ss : List Sl) (ok : Sl → Prop) (er : Rf → Prop) (h : T_l_one ss ok er) : WF Z X er (ss ++ List.replicate (2 - ss.length) .un) (t_l_one Z X) ok := by
  obtain ⟨t, rfl, e, hG, k⟩ := h
  show W _ [.im t, .un] _ _
  unfold t_l_one
  have hl := hG.sz.2.1
  have he := hG.he
  obtain ⟨L, eL⟩ : ∃ L, L = ((irange t.length).filter fun a => decide (gt (gt t a) a = a)).map fun a => a := ⟨_, rfl⟩
  have hm : ∀ x ∈ L, x = e := fun x hx => by
    rw [eL, List.map_id'] at hx
    obtain ⟨h1, h2⟩ := List.mem_filter.mp hx
    have hX := mem_irange.mp h1
    have h3 : en t x x = x := by simpa using h2
    have q : en t x x = en t x e := by rw [h3, hG.u2 hX]
    exact hG.canL hX hX he q
  have hin : e ∈ L := by
    rw [eL, List.map_id', List.mem_filter]
    have : gt (gt t e) e = e := hG.u1 he
    exact ⟨mem_irange.mpr he, by simpa using this⟩
  have hL : 0 < L.length := List.length_pos_of_mem hin
  refine w_ret (ev_to (ev_ix (xs := L) (ev_fr (ev_is (s := Sl.ol (α := Int) (((irange t.length).filter fun a => decide (gt (gt t a) a = a)).map fun a => a)) ?hh (congrArg Sl.ol eL.symm))) ev_int (by decide) (by omega)) (hm _ (gt_mem (by decide) (by omega)))) k
  case hh =>
    refine ev_filtR (n := (t.length : Int)) (fun a => decide (gt (gt t a) a = a)) (fun a => a) (ev_len (ev_var rfl)) (by omega) (by omega) (by simp) ⟨.inl rfl, trivial⟩ ?_ ?_
    · intro a h0 h1
      have hA : InT t a := ⟨h0, h1⟩
      exact et_test (ev_eqI (ev_ix (ev_ix (ev_var rfl) (ev_var rfl) h0 h1) (ev_var rfl) h0 (by rw [hG.row hA]; exact h1)) (ev_var rfl))
    · intro a h0 h1 _
      exact ev_var rfl
end TB

/-! ### l_backs -/
namespace TB
open PySem L2
--use TbGt
--use TbM
def fi : List Int → Int → Nat
  | [], _ => 0
  | x :: r, y => if x = y then 0 else fi r y + 1
theorem fi_at : ∀ {r : List Int} {y : Int}, y ∈ r → r[fi r y]? = some y ∧ ∀ m, m < fi r y → r[m]? ≠ some y
  | [], y, h => by simp at h
  | x :: r, y, h => by
    unfold fi
    by_cases q : x = y
    · rw [if_pos q]
      exact ⟨by simp [q], fun m hm => by omega⟩
    · rw [if_neg q]
      have h' : y ∈ r := by
        rcases List.mem_cons.mp h with z | z
        · exact absurd z.symm q
        · exact z
      obtain ⟨h1, h2⟩ := fi_at h'
      refine ⟨by simpa using h1, fun m hm => ?_⟩
      cases m with
      | zero => simpa using q
      | succ m => simpa using h2 m (by omega)
theorem fi_bk {t : Tbl} {e a : Int} (hG : GTbl t e) (ha : InT t a) : e ∈ gt t a ∧ ((fi (gt t a) e : Nat) : Int) = bkf t e a := by
  have fb := bkf_first (hG.bk a ha)
  have hb : InT t (bkf t e a) := ⟨fb.b0, fb.b1⟩
  have hr := hG.row ha
  have hm : e ∈ gt t a := by
    rw [← fb.is.1]
    exact gt_mem hb.1 (by rw [hr]; exact hb.2)
  refine ⟨hm, ?_⟩
  obtain ⟨h1, _⟩ := fi_at hm
  obtain ⟨hlt, h2⟩ := List.getElem?_eq_some_iff.mp h1
  have hF : InT t ((fi (gt t a) e : Nat) : Int) := ⟨by omega, by omega⟩
  refine hG.canL ha hF hb ?_
  rw [fb.is.1]
  show gt (gt t a) _ = e
  rw [gt_nat hlt, h2]
def T_l_backs : Tm := tm1 fun (t : Tbl) ok _ => ∃ e, GTbl t e ∧ ok (.im ((irange t.length).map (bkf t e)))
def t_l_backs (Z : Zz) (X : WX) : TS :=
  (tSeq (tAsg (tCallSD (spOf Z T_l_one) [] (WE X) (tCons (tVar 0) tNil)) (gName 1))
  (tRet (tLc (iList Z.K (tVar 0)) (gName 2) tYes (tBM Z.K "list" (rIndex Z.K) (tVar 2) (tCons (tVar 1) tNil)) [2])))
theorem w_l_backs (Z : Zz) (X : WX) (ss : List Sl) (ok : Sl → Prop) (er : Rf → Prop) (h : T_l_backs ss ok er) : WF Z X er (ss ++ List.replicate (3 - ss.length) .un) (t_l_backs Z X) ok := by
  obtain ⟨t, rfl, e, hG, k⟩ := h
  show W _ [.im t, .un, .un] _ _
  unfold t_l_backs
  have hl := hG.sz.2.1
  have hmem : ∀ r ∈ t, ∃ a, InT t a ∧ r = gt t a := fun r hr => by
    obtain ⟨i, hi, rfl⟩ := List.getElem_of_mem hr
    exact ⟨(i : Int), ⟨by omega, by omega⟩, (gt_get hi).symm⟩
  refine w_seq (w_asg (s := .im e) (ev_callN (ea_cons (ev_var rfl) ea_nil) ⟨_, rfl, e, hG, rfl⟩) ?_)
  walk_at "nz"
  refine w_ret (ev_fr (ev_is (s := Sl.ol (α := Int) (t.map fun r => ((fi r e : Nat) : Int))) ?hh (congrArg Sl.ol ?_))) k
  case hh =>
    refine ev_mapL (xs := t) (fun r => ((fi r e : Nat) : Int)) (ev_var rfl) (by omega) (by simp) ⟨.inl rfl, trivial⟩ ?_
    intro r hr
    obtain ⟨a, ha, rfl⟩ := hmem r hr
    obtain ⟨h1, h2⟩ := fi_at (fi_bk hG ha).1
    exact ev_index (ev_var rfl) (ev_var rfl) h1 h2
  · refine List.ext_getElem (by simp [irange_len]) fun i h1 h2 => ?_
    have hi : i < t.length := by simpa using h1
    rw [List.getElem_map, List.getElem_map, irange_get, ← gt_get hi, (fi_bk hG ⟨by omega, by omega⟩).2]
end TB

/-! ### l_thing -/
namespace TB
open PySem L2
--use TbAb
def thingOf (x k n : Int) : Int := ((x % 2147483647 * 48271 + 69621 * k * k + 7 * k) % 2147483629) * ((x % 2147483647 * 48271 + 69621 * k * k + 7 * k) % 2147483629) % 2147483587 % n
theorem thing_in {x k n : Int} (h : 1 ≤ n) : In n (thingOf x k n) := md' h _
def T_l_thing : Tm := tm3 fun (x k n : Int) ok _ => 0 ≤ k ∧ k ≤ 1000 ∧ 1 ≤ n ∧ ok (.im (thingOf x k n))
def t_l_thing (Z : Zz) (X : WX) : TS :=
  (tSeq (tAsg (tOp gMod (tOp gAdd (tOp gAdd (tOp gMul (tOp gMod (tVar 0) (tC (.int 2147483647))) (tC (.int 48271))) (tOp gMul (tOp gMul (tC (.int 69621)) (tVar 1)) (tVar 1))) (tOp gMul (tC (.int 7)) (tVar 1))) (tC (.int 2147483629))) (gName 3))
  (tRet (tOp gMod (tOp gMod (tOp gMul (tVar 3) (tVar 3)) (tC (.int 2147483587))) (tVar 2))))
theorem w_l_thing (Z : Zz) (X : WX) (ss : List Sl) (ok : Sl → Prop) (er : Rf → Prop) (h : T_l_thing ss ok er) : WF Z X er (ss ++ List.replicate (4 - ss.length) .un) (t_l_thing Z X) ok := by
  obtain ⟨x, k, n, rfl, k0, k1, hn, kk⟩ := h
  show W _ [.im x, .im k, .im n, .un] _ _
  unfold t_l_thing
  have x0 := Int.emod_nonneg x (show (2147483647 : Int) ≠ 0 by decide)
  have x1 := Int.emod_lt_of_pos x (show (0 : Int) < 2147483647 by decide)
  have y0 := Int.emod_nonneg (x % 2147483647 * 48271 + 69621 * k * k + 7 * k) (show (2147483629 : Int) ≠ 0 by decide)
  have y1 := Int.emod_lt_of_pos (x % 2147483647 * 48271 + 69621 * k * k + 7 * k) (show (0 : Int) < 2147483629 by decide)
  refine w_seq (w_asg (ev_mod (ev_add (ev_add (ev_mul (ev_mod (ev_var rfl) ev_int (by decide)) ev_int (cmulS (by omega) (by omega) (by omega) (by omega))) (ev_mul (ev_mul ev_int (ev_var rfl) (cmulS (by omega) (by omega) (by omega) (by omega))) (ev_var rfl) (cmulS (by omega) (by omega) (by omega) (by omega)))) (ev_mul ev_int (ev_var rfl) (cmulS (by omega) (by omega) (by omega) (by omega)))) ev_int (by decide)) ?_)
  walk_at "nz"
  exact w_ret (ev_mod (ev_mod (ev_mul (ev_var rfl) (ev_var rfl) (cmulS (by omega) (by omega) (by omega) (by omega))) ev_int (by decide)) (ev_var rfl) (by omega)) kk
end TB

/-! ### l_closed -/
namespace TB
open PySem L2
--use TbPart
def T_l_closed : Tm := tm2 fun (t : Tbl) (some : List Int) ok _ => ∃ e, GTbl t e ∧ (∀ y ∈ some, InT t y) ∧ some.length ≤ 100000 ∧ ok (.ol (clo t e some))
def t_l_closed (Z : Zz) (X : WX) : TS :=
  (tSeq (tAsg (tLst (tCons (tCallSD (spOf Z T_l_one) [] (WE X) (tCons (tVar 0) tNil)) tNil)) (gName 2))
  (tSeq (tAsg (tC (.int 0)) (gName 3))
  (tSeq (tWhile (tTest (tOp gLt (tVar 3) (tCB (gLen Z.K) (tCons (tVar 2) tNil))))
  (tSeq (tFor (iList Z.K (tVar 1)) (gName 4)
  (tSeq (tAsg (tOp (gIx Z.K) (tOp (gIx Z.K) (tVar 0) (tOp (gIx Z.K) (tVar 2) (tVar 3))) (tVar 4)) (gName 5))
  (tIfS (tTest (tOp (gNotIn Z.K) (tVar 5) (tVar 2)))
  (tDrop (tBM Z.K "list" rAppend (tVar 2) (tCons (tVar 5) tNil)))
  tNext)))
  (tAsg (tOp gAdd (tVar 3) (tC (.int 1))) (gName 3))))
  (tRet (tCB (gSorted Z.K) (tCons (tVar 2) tNil))))))
theorem w_l_closed (Z : Zz) (X : WX) (ss : List Sl) (ok : Sl → Prop) (er : Rf → Prop) (h : T_l_closed ss ok er) : WF Z X er (ss ++ List.replicate (6 - ss.length) .un) (t_l_closed Z X) ok := by
  obtain ⟨t, sm, rfl, e, hG, hs, hsl, k⟩ := h
  show W _ [.im t, .im sm, .un, .un, .un, .un] _ _
  unfold t_l_closed
  have hl := hG.sz.2.1
  refine w_seq (w_asg (s := .ol [e]) (ev_lstH (evh_cons (ev_callN (s := .im e) (ea_cons (ev_var rfl) ea_nil) ⟨_, rfl, e, hG, rfl⟩) evh_nil) (by simp)) ?_)
  refine w_seq (w_asg ev_int ?_)
  walk_at "nz"
  have len : ∀ R : List Int, R.Nodup → (∀ x ∈ R, Reach t e sm x) → R.length ≤ t.length := fun R nd hr => by
    have := nodup_le (B := irange t.length) nd fun x hx => mem_irange.mpr (reach_in hG hs (hr x hx))
    rw [irange_len] at this
    omega
  refine w_mid (fun G => ∃ (R : List Int) (s3 s4 s5 : Sl), G = [.im t, .im sm, .ol R, s3, s4, s5] ∧ isort R = clo t e sm) ?_ ?_
  · refine w_while (fun m G => ∃ (R : List Int) (a : Nat) (s4 s5 : Sl), G = [.im t, .im sm, .ol R, .im (a : Int), s4, s5] ∧ R.Nodup ∧ e ∈ R ∧ (∀ x ∈ R, Reach t e sm x) ∧ (∀ x ∈ R.take a, ∀ y ∈ sm, en t x y ∈ R) ∧ a ≤ R.length ∧ m = t.length - a) t.length ⟨[e], 0, _, _, rfl, by simp, by simp, fun x hx => (show x = e by simpa using hx) ▸ .one, fun x hx => by simp at hx, by simp, by simp⟩ ?_
    rintro m G ⟨R, a, s4, s5, rfl, nd, h1, hr, hc, ha, rfl⟩
    have hR := len R nd hr
    refine ⟨decide ((a : Int) < R.length), et_test (ev_lt (ev_var rfl) (ev_lenO rfl)), fun hb => ?_, fun hb => ?_⟩
    · have ha' : a < R.length := by simpa using hb
      refine w_seq (w_forL (xs := sm) (fun i G => ∃ (R' : List Int) (s4 s5 : Sl), G = [.im t, .im sm, .ol R', .im (a : Int), s4, s5] ∧ R'.Nodup ∧ (∀ x ∈ R, x ∈ R') ∧ (∀ x ∈ R', Reach t e sm x) ∧ R <+: R' ∧ (∀ y ∈ sm.take i, en t R[a] y ∈ R')) (ev_var rfl) ⟨R, _, _, rfl, nd, fun _ h => h, hr, List.prefix_rfl, fun y hy => by simp at hy⟩ ?_ ?_)
      · rintro i G hi ⟨R', s4, s5, rfl, nd', sub, hr', pre, hd⟩
        walk_at "nz"
        have hR' := len R' nd' hr'
        have haR : a < R'.length := Nat.lt_of_lt_of_le ha' pre.length_le
        have eR : R'[a] = R[a] := (pre.getElem ha').symm
        have hx : InT t R[a] := reach_in hG hs (hr _ (List.getElem_mem ha'))
        have hy : InT t sm[i] := hs _ (List.getElem_mem hi)
        have hgt : gt R' (a : Int) = R[a] := by rw [gt_nat haR, eR]
        have hrx : Reach t e sm (en t R[a] sm[i]) := .step (hr _ (List.getElem_mem ha')) (List.getElem_mem hi)
        have htk : sm.take (i + 1) = sm.take i ++ [sm[i]] := take_snoc hi
        rw [htk]
        generalize sm[i] = y at hy hrx ⊢
        generalize R[a] = x at eR hx hgt hd hrx ⊢
        refine w_seq (w_asg (s := .im (en t x y)) (ev_ix (ev_ix (ev_var rfl) (ev_to (ev_ixO rfl (ev_var rfl) (by omega) (by omega)) hgt) hx.1 hx.2) (ev_var rfl) hy.1 (by rw [hG.row hx]; exact hy.2)) ?_)
        walk_at "nz"
        refine w_if (b := !decide (en t x y ∈ R')) (et_test (ev_notInO (ev_var rfl) rfl)) (fun hb => ?_) (fun hb => w_next ⟨R', _, _, rfl, nd', sub, hr', pre, fun z hz => ?_⟩)
        · have hb' : ¬ en t x y ∈ R' := by simpa using hb
          refine w_app rfl (ev_var rfl) (by omega) ⟨R' ++ [en t x y], _, _, rfl, ?_, fun z hz => List.mem_append_left _ (sub z hz), fun z hz => ?_, List.IsPrefix.trans pre (List.prefix_append _ _), fun z hz => ?_⟩
          · rw [List.nodup_append]
            exact ⟨nd', by simp, fun p hp q hq z => by
              have : q = en t x y := by simpa using hq
              exact hb' (this ▸ z ▸ hp)⟩
          · rcases List.mem_append.mp hz with q | q
            · exact hr' z q
            · have : z = en t x y := by simpa using q
              rw [this]; exact hrx
          · rcases List.mem_append.mp hz with q | q
            · exact List.mem_append_left _ (hd z q)
            · have : z = y := by simpa using q
              rw [this]
              simp
        · have hb' : en t x y ∈ R' := by simpa using hb
          rcases List.mem_append.mp hz with q | q
          · exact hd z q
          · have : z = y := by simpa using q
            rw [this]; exact hb'
      · rintro G ⟨R', s4, s5, rfl, nd', sub, hr', pre, hd⟩
        refine w_asg (ev_add (ev_var rfl) ev_int) ⟨t.length - (a + 1), by omega, R', a + 1, s4, s5, rfl, nd', sub e h1, hr', fun x hx y hy => ?_, Nat.le_trans ha' pre.length_le, rfl⟩
        have haR : a < R'.length := Nat.lt_of_lt_of_le ha' pre.length_le
        rw [take_snoc haR, (pre.getElem ha').symm] at hx
        rcases List.mem_append.mp hx with q | q
        · refine sub _ (hc x ?_ y hy)
          obtain ⟨r, er⟩ := pre
          rw [← er, List.take_append_of_le_length (by omega)] at q
          exact q
        · have : x = R[a] := by simpa using q
          rw [this]
          exact hd y (by rw [List.take_length]; exact hy)
    · have ha' : ¬ a < R.length := by simpa using hb
      refine ⟨R, _, s4, s5, rfl, clo_is hG hs nd h1 hr fun x hx => ?_⟩
      rw [show a = R.length by omega, List.take_length] at hc
      exact hc x hx
  · rintro G ⟨R, s3, s4, s5, rfl, he⟩
    rw [← he] at k
    exact w_ret (ev_sortedO (xs := R) rfl) k
end TB

/-! TbWay: a class's own function called by the class's name; isinstance of an instance of a class under it; one of two readings. -/
namespace TB
open PySem L2
section
variable {X : Cx} {CX : CXT} {k : Nat} {C f : Addr} {mc : Value} {sp : Sp} {fd : FuncData} {ps : List Str} {dvs : List V} {ds : List Value} {E : L2.St → XK} {o e : Expr} {es : List Expr} {m : Str} {pos apos : Pos} {ta : TE} {t : TA}
/-- what isinstance asks of an instance of D, by C -/
structure InsD (K : PySem.W.Frag) (D C : Addr) (b : Bool) : Prop where
  cl : Cls K D
  ha : PySem.W.findIn K (.ref D) "__class__" = some (some (.builtin "object.__class__"))
  hn : PySem.W.specialIn K (.builtin "object.__class__") "__get__" = some (some (.builtin "getset_descriptor.__get__"))
  htk : PySem.W.takesIn K (.builtin "object.__class__") = some true
  hm : PySem.W.mroIn K D (.type "object") = some true
  me : PySem.W.kitOne K (.ref D) (.ref C) = some b
end
section
variable {X : Cx} {CX : CXT} {k n : Nat} {f C : Addr} {fd : FuncData} {ps : List Str} {sp : Sp} {E : XK} {x nm : Str} {p pos : Pos} {e : Expr} {es : List Expr} {kws : List Keyword} {t tk : TA} {g : List Value → List Value → List Value} {gV : List V → List V → List V}
end
end TB

/-! TbObj: an own instance that is being made: its fields are put one by one. -/
namespace TB
open PySem L2
def Fs (Z : Zz) (R : Hp) : List (Str × V) → List (Str × Sl) → Prop
  | [], [] => True
  | (n, v) :: vs, (m, s) :: ss => n = m ∧ slok Z R (fun _ => none) (some v) s [] ∧ Fs Z R vs ss
  | _, _ => False
section
variable {Z : Zz} {R R' H : Hp}
theorem fs_mono (e : Same R R') : ∀ {vs : List (Str × V)} {ss : List (Str × Sl)}, Fs Z R vs ss → Fs Z R' vs ss
  | [], [], _ => trivial
  | (_, _) :: _, (_, _) :: _, ⟨h1, h2, h3⟩ => ⟨h1, slok_mono e (fun _ _ => rfl) h2, fs_mono e h3⟩
  | [], _ :: _, h => h.elim
  | _ :: _, [], h => h.elim
end
def isWay : CN → Bool
  | .Regular => true
  | .Lifted => true
  | .Beside => true
  | .Crossed => true
  | .Backed => true
  | .Within => true
  | .Raised => true
  | _ => false
/-- the names that instances of C have as fields; classes under Way -/
structure FldC (Z : Zz) (C : CN) (ns : List Str) : Prop where
  cl : Cls Z.K (Z.cls C)
  no : ∀ n ∈ ns, NoAttr Z.K (Z.cls C) n
  ins : isWay C = true → InsD Z.K (Z.cls C) (Z.cls .Way) true
/-- an own instance of C with these fields, all of them data; ns: the names that instances of C have as fields -/
def Ob (C : CN) (a : Addr) (ns : List Str) (ss : List (Str × Sl)) : Own := ⟨fun Z R h v => FldC Z C ns ∧ ∃ dx vs, v = .ref a ∧ h a = some (.ins (Z.cls C) dx vs) ∧ Fs Z R vs ss, fun e h => by
  obtain ⟨h0, dx, vs, h1, h2, h3⟩ := h
  exact ⟨h0, dx, vs, h1, h2, fs_mono e h3⟩⟩
abbrev Sl.ob (C : CN) (a : Addr) (ns : List Str) (ss : List (Str × Sl)) : Sl := .ow (Ob C a ns ss)
section
variable {c : Cn} {Γ : List Sl} {ta tb te tl : TE} {tt tc : TT} {t u : TS} {s s' : Sl} {α β γ : Type} {_ : Rp α} {_ : Rp β} {_ : Rp γ} {P : Po} {C : CN} {ss : List (Str × Sl)} {ns : List Str} {n n' : Str} {i : Nat} {a : Addr}
end
end TB

/-! TbObk: an own instance lent to a method of its class. -/
namespace TB
open PySem L2
section
variable {c : Cn} {Γ : List Sl} {ta tb te tl : TE} {tt tc : TT} {t u : TS} {s s' so : Sl} {α β γ : Type} {_ : Rp α} {_ : Rp β} {_ : Rp γ} {P : Po} {n : Str} {i : Nat}
end
end TB

/-! TbCm: calls whose arguments are own things, handed over; rows of own tables; values of mixed lists compared. -/
namespace TB
open PySem PySem.Spec PyProof.Rows L2
section
variable {c : Cn} {Γ Γ1 Γ2 : List Sl} {ta tb te tl ty : TE} {tt tc : TT} {t u : TS} {s s1 s2 so : Sl} {α β γ : Type} {_ : Rp α} {_ : Rp β} {_ : Rp γ} {P : Po} {d : α}
/-! ### expressions that leave the heap as it is -/
/-! ### rows of own tables -/
end
/-! ### values of mixed lists -/
/-- an int, or a text that Python can show -/
inductive IX where
  | i (n : Int) | s (x : Str) (h : PyData.strOk x = true)
  deriving DecidableEq
instance : Rp IX := ⟨.i 0, fun _ _ v d => match d with | .i n => v = .int n | .s x _ => v = .str x, fun {Z H H' v d} _ h => by cases d <;> exact h⟩
instance : Flt IX := ⟨fun {Z H H' v d} h => by cases d <;> exact h⟩
instance : Pd IX := { py := fun d => match d with | .i n => .int n | .s x _ => .str x, dep := 0, dp := fun {Z H v d} h => (by
    cases d with
    | i n => cases (show v = .int n from h); exact .int _
    | s x _ => cases (show v = .str x from h); exact .str _), can := fun d => (by
    cases d with
    | i n => simp [PyData.canLay0]
    | s x h => simpa [PyData.canLay0] using h), low := fun d => (by cases d <;> simp [PyData.depth]), eqv := fun a b => (by cases a <;> cases b <;> simp [PyData.eqv]) }
section
variable {c : Cn} {Γ : List Sl} {te : TE} {α : Type} {_ : Rp α}
end
end TB

/-! TbGiv: an own instance given to a call that puts its fields. -/
namespace TB
open PySem L2
/-- a call given an own instance; ok tells what the instance is behind it -/
abbrev Tg := CN → Addr → List Str → List (Str × Sl) → Tm
section
variable {Z : Zz} {B R0 R R' H H' : Hp} {ρ σ : List (Option V)} {Δ Γ : List Sl} {s' : Sl} {i : Nat} {C : CN} {a : Addr} {dx : Addr} {ns : List Str} {ss : List (Str × Sl)}
end
section
variable {c : Cn} {Γ : List Sl} {P : Po} {i : Nat} {C : CN} {a W0 : Addr} {ns : List Str} {ss0 : List (Str × Sl)} {tr : TA} {ss : List Sl} {T : Tg} {S : Sl → Prop}
end
end TB

/-! TbWy: ways and carriers as data: what an instance of a class holds. -/
namespace TB
open PySem L2
def wyN : List Str := ["group", "spokes", "size", "doings", "part", "marks", "carriers", "first", "second", "things", "leasts", "homes"]
def wyMs : List Str := ["trace", "moves", "step", "led"]
/-- a field, where it is told -/
def OpF {α : Type} [Rp α] (Z : Zz) (H : Hp) (vs : List (Str × V)) (n : Str) (o : Option α) : Prop := ∀ x, o = some x → ∃ w, vs.lookup n = some w ∧ Rp.rp Z H w x
theorem OpF.mono {α : Type} [Rp α] {Z : Zz} {H H' : Hp} {vs : List (Str × V)} {n : Str} {o : Option α} (e : Same H H') (h : OpF Z H vs n o) : OpF Z H' vs n o := fun x hx => by
  obtain ⟨w, h1, h2⟩ := h x hx
  exact ⟨w, h1, Rp.mono e h2⟩
/-- an instance of C, its fields as F tells -/
def InsR (Z : Zz) (H : Hp) (v : V) (C : CN) (F : List (Str × V) → Prop) : Prop := FldC Z C wyN ∧ ∃ a dx vs, v = .ref a ∧ H a = some (.ins (Z.cls C) dx vs) ∧ (∀ k ∈ wyMs, vs.lookup k = none) ∧ F vs
theorem InsR.mono {Z : Zz} {H H' : Hp} {v : V} {C : CN} {F G : List (Str × V) → Prop} (e : Same H H') (k : ∀ vs, F vs → G vs) (h : InsR Z H v C F) : InsR Z H' v C G := by
  obtain ⟨h0, a, dx, vs, h1, h2, h3, h4⟩ := h
  exact ⟨h0, a, dx, vs, h1, e _ _ h2, h3, k _ h4⟩
/-- the sides of a part -/
structure Car where
  g : Grp
  part : List Int
  leasts : List Int
  homes : List Int
instance : Rp Car := ⟨⟨Rp.df, [], [], []⟩, fun Z H v d => InsR Z H v .Carriers fun vs => OpF Z H vs "group" (some d.g) ∧ OpF Z H vs "part" (some d.part) ∧ OpF Z H vs "leasts" (some d.leasts) ∧ OpF Z H vs "homes" (some d.homes),
  fun e h => h.mono e fun vs q => ⟨q.1.mono e, q.2.1.mono e, q.2.2.1.mono e, q.2.2.2.mono e⟩⟩
/-- a way; pm: a lifted one's part and marks -/
structure Wy where
  C : CN
  g : Grp
  m : Int
  n : Int
  ds : List (List (Int × Int))
  pm : Option (List Int × List Int)
instance : Rp Wy := ⟨⟨.Way, Rp.df, 0, 0, [], none⟩, fun Z H v d => InsR Z H v d.C fun vs => OpF Z H vs "group" (some d.g) ∧ OpF Z H vs "spokes" (some d.m) ∧ OpF Z H vs "size" (some d.n) ∧ OpF Z H vs "doings" (some d.ds) ∧ OpF Z H vs "part" (d.pm.map (·.1)) ∧ OpF Z H vs "marks" (d.pm.map (·.2)),
  fun e h => h.mono e fun vs q => ⟨q.1.mono e, q.2.1.mono e, q.2.2.1.mono e, q.2.2.2.1.mono e, q.2.2.2.2.1.mono e, q.2.2.2.2.2.mono e⟩⟩
/-- a way that is being made -/
structure Wx where
  C : CN
  g : Grp
  m : Int
  n : Int
  a : Option Wy := none
  b : Option Wy := none
  pm : Option (List Int × List Int) := none
  th : Option (List Int) := none
  car : Option Car := none
instance : Rp Wx := ⟨{C := .Way, g := Rp.df, m := 0, n := 0}, fun Z H v d => InsR Z H v d.C fun vs => OpF Z H vs "group" (some d.g) ∧ OpF Z H vs "spokes" (some d.m) ∧ OpF Z H vs "size" (some d.n) ∧ OpF Z H vs "first" d.a ∧ OpF Z H vs "second" d.b ∧ OpF Z H vs "marks" (d.pm.map (·.2)) ∧ OpF Z H vs "things" d.th ∧ OpF Z H vs "carriers" d.car,
  fun e h => h.mono e fun vs q => ⟨q.1.mono e, q.2.1.mono e, q.2.2.1.mono e, q.2.2.2.1.mono e, q.2.2.2.2.1.mono e, q.2.2.2.2.2.1.mono e, q.2.2.2.2.2.2.1.mono e, q.2.2.2.2.2.2.2.mono e⟩⟩
section
variable {c : Cn} {Γ : List Sl} {te : TE} {d : Wy} {x : Wx} {k : Car}
end
/-- where names stand in a list of fields -/
theorem lk_at (ns : List Str) (ss : List Sl) (k : Str) (i : Nat) (h : ns.findIdx? (· == k) = some i) : (ns.zip ss).lookup k = ss[i]? := by
  induction ns generalizing ss i with
  | nil => simp at h
  | cons n ns ih =>
    rw [List.findIdx?_cons] at h
    cases ss with
    | nil => simp
    | cons s ss =>
      rw [List.zip_cons_cons, List.lookup_cons]
      by_cases c : (n == k) = true
      · rw [if_pos c] at h
        cases h
        have : n = k := by simpa using c
        subst this
        simp
      · rw [if_neg c] at h
        have c2 : (k == n) = false := by
          cases q : (k == n) with
          | false => rfl
          | true =>
            have : k = n := by simpa using q
            subst this
            simp at c
        rw [c2]
        cases h2 : ns.findIdx? (· == k) with
        | none => rw [h2] at h; simp at h
        | some j =>
          rw [h2] at h
          have : i = j + 1 := by simpa using h.symm
          subst this
          simpa using ih ss j h2
theorem lk_no (ns : List Str) (ss : List Sl) (k : Str) (h : ns.findIdx? (· == k) = none) : (ns.zip ss).lookup k = none := by
  induction ns generalizing ss with
  | nil => simp
  | cons n ns ih =>
    rw [List.findIdx?_cons] at h
    cases ss with
    | nil => simp
    | cons s ss =>
      rw [List.zip_cons_cons, List.lookup_cons]
      by_cases c : (n == k) = true
      · rw [if_pos c] at h; cases h
      · rw [if_neg c] at h
        have c2 : (k == n) = false := by
          cases q : (k == n) with
          | false => rfl
          | true =>
            have : k = n := by simpa using q
            subst this
            simp at c
        rw [c2]
        exact ih ss (by simpa using h)
end TB
namespace TB
open PySem L2
end TB

/-! TbAv: data that avoid what is lent; calls that take lent things and tell data of the kept part. -/
namespace TB
open PySem L2
def wos (H : Hp) (A : List Addr) : Hp := fun p => if p ∈ A then none else H p
theorem wos_some {H : Hp} {A : List Addr} {p : Addr} {o : HO} (h : wos H A p = some o) : p ∉ A ∧ H p = some o := by
  unfold wos at h
  by_cases c : p ∈ A
  · rw [if_pos c] at h; cases h
  · rw [if_neg c] at h; exact ⟨c, h⟩
theorem wos_out {H : Hp} {A : List Addr} {p : Addr} (h : p ∉ A) : wos H A p = H p := if_neg h
theorem wos_in {H : Hp} {A : List Addr} {p : Addr} (h : p ∈ A) : wos H A p = none := if_pos h
theorem wos_mono {H H' : Hp} {A : List Addr} (e : Same H H') : Same (wos H A) (wos H' A) := fun p o h => by
  obtain ⟨h1, h2⟩ := wos_some h
  rw [wos_out h1]
  exact e _ _ h2
structure Av (α : Type) where
  A : List Addr
  d : α
instance {α : Type} [Rp α] : Rp (Av α) := ⟨⟨[], Rp.df⟩, fun Z H v x => (∀ p ∈ x.A, H p ≠ none) ∧ Rp.rp Z (wos H x.A) v x.d, fun {Z H H' v d} e h => ⟨fun p hp z => by
  have := h.1 p hp
  cases q : H p with
  | none => exact this q
  | some o => (rw [e _ _ q] at z; cases z), Rp.mono (wos_mono e) h.2⟩⟩
/-- data, and the very value that stands for them -/
structure VT (α : Type) where
  v : V
  d : α
instance {α : Type} [Rp α] : Rp (VT α) := ⟨⟨.non, Rp.df⟩, fun Z H v x => v = x.v ∧ Rp.rp Z H v x.d, fun e h => ⟨h.1, Rp.mono e h.2⟩⟩
/-- data told by own things, seen frozen, where these are not frozen yet -/
def LndO (so : Sl) {α : Type} [Rp α] (d : α) : Prop := ∀ Z R H o f, Same R H → (∀ p ∈ f, R p = none) → slok Z R H o so f → ∃ v, o = some v ∧ Rp.rp Z (frz R H f) v d
theorem Lnd.o {so : Sl} {α : Type} [Rp α] {d : α} (h : Lnd so d) : LndO so d := fun Z R H o f sm _ hs => h Z R H o f sm hs
section
variable {Z : Zz} {B R0 R R' RL H H' : Hp} {τ ρ σ : List (Option V)} {Θ Δ Γ : List Sl} {s so : Sl} {o : Option V} {f own own' : List Addr} {α β γ : Type} {_ : Rp α} {_ : Rp β} {_ : Rp γ} {d : α}
end
section
variable {c : Cn} {Γ : List Sl} {ta tb te tl : TE} {tt tc : TT} {t u : TS} {s s' so : Sl} {α β γ : Type} {_ : Rp α} {_ : Rp β} {_ : Rp γ} {P : Po} {d : α} {S : Sl → Prop} {A : List Addr}
/-! ### lent arguments, and what avoids them -/
/-- RL is the frozen part R and the lent A beside it -/
structure Lent (R RL H : Hp) (A : List Addr) : Prop where
  up : Same R RL
  le : Same RL H
  in_ : ∀ p ∈ A, RL p ≠ none ∧ R p = none
  out : ∀ p, p ∉ A → RL p = R p
theorem Lent.wos {R RL H : Hp} {A : List Addr} (h : Lent R RL H A) : wos RL A = R := by
  funext p
  by_cases c : p ∈ A
  · rw [wos_in c, (h.in_ p c).2]
  · rw [wos_out c, h.out p c]
end
/-! ### Way.__init__(self, ..) where all that self holds is kept -/
section
variable {c : Cn} {Γ : List Sl} {P : Po} {i : Nat} {C : CN} {a W0 : Addr} {ns : List Str} {ss0 us0 : List (Str × Sl)} {tr : TA} {ss us : List Sl} {T : Tg} {A : List Addr}
end
section
variable {c : Cn} {Γ : List Sl} {i : Nat}
end
end TB

/-! TbWi: ways made, asked by one of several classes. -/
namespace TB
open PySem L2
section
variable {c : Cn} {Γ : List Sl} {ta tb te tl : TE} {t u : TA} {s s' so : Sl} {α β γ : Type} {_ : Rp α} {_ : Rp β} {_ : Rp γ} {P : Po} {S : Sl → Prop} {ss : List Sl} {C : CN} {ns : List Str} {T : Tg}
end
/-! ### what never tells anything -/
section
variable {c : Cn} {Γ : List Sl} {te : TE} {t : TA} {α : Type} {_ : Rp α} {P : Po} {ss : List Sl} {i : Nat}
end
/-! ### methods asked of a way, whatever its class -/
section
variable {c : Cn} {Γ : List Sl} {ta tb te tl : TE} {t u : TA} {s s' so : Sl} {α β γ : Type} {_ : Rp α} {_ : Rp β} {_ : Rp γ} {P : Po} {S : Sl → Prop} {ss : List Sl} {w : Wy} {m : Str} {T : Tm}
end
/-! ### Way.__init__ -/
/-- the fields that Way puts -/
abbrev wS (g : Grp) (m n : Int) : List (Str × Sl) := [("group", .im g), ("spokes", .im m), ("size", .im n)]
/-- what the fields of a way that is being made hold -/
structure XAt (ss : List (Str × Sl)) (d : Wx) : Prop where
  g : ss.lookup ("group" : Str) = some (.im d.g)
  m : ss.lookup ("spokes" : Str) = some (.im d.m)
  n : ss.lookup ("size" : Str) = some (.im d.n)
  a : ∀ x, d.a = some x → ss.lookup ("first" : Str) = some (.im x)
  b : ∀ x, d.b = some x → ss.lookup ("second" : Str) = some (.im x)
  p : ∀ x, d.pm = some x → ss.lookup ("part" : Str) = some (.im x.1)
  k : ∀ x, d.pm = some x → ss.lookup ("marks" : Str) = some (.im x.2)
  t : ∀ x, d.th = some x → ss.lookup ("things" : Str) = some (.im x)
  c : ∀ x, d.car = some x → ss.lookup ("carriers" : Str) = some (.im x)
  ds : ss.lookup ("doings" : Str) = none
  ms : ∀ k ∈ wyMs, ss.lookup k = none
/-- .. ahead of Way.__init__ -/
structure X0 (ss : List (Str × Sl)) (d : Wx) : Prop where
  at_ : XAt (ss ++ wS d.g d.m d.n) d
  n1 : ss.lookup ("group" : Str) = none
  n2 : (ss ++ ([("group", .im d.g)] : List (Str × Sl))).lookup ("spokes" : Str) = none
  n3 : (ss ++ ([("group", .im d.g), ("spokes", .im d.m)] : List (Str × Sl))).lookup ("size" : Str) = none
  len : ss.length < 100
section
variable {C : CN} {a p : Addr} {ns : List Str} {ss : List (Str × Sl)} {xs : List (List (Int × Int))}
end
/-! the shapes of fields -/
def wyR : List Str := ["group", "spokes", "size", "doings", "trace", "moves", "step", "led"]
/-- what is put ahead of Way.__init__ -/
structure X00 (ns : List Str) (sl : List Sl) (d : Wx) : Prop where
  no : ∀ k ∈ wyR, ns.findIdx? (· == k) = none
  len : ns.length < 100
  a : ∀ x, d.a = some x → (ns.zip sl).lookup ("first" : Str) = some (.im x)
  b : ∀ x, d.b = some x → (ns.zip sl).lookup ("second" : Str) = some (.im x)
  p : ∀ x, d.pm = some x → (ns.zip sl).lookup ("part" : Str) = some (.im x.1)
  k : ∀ x, d.pm = some x → (ns.zip sl).lookup ("marks" : Str) = some (.im x.2)
  t : ∀ x, d.th = some x → (ns.zip sl).lookup ("things" : Str) = some (.im x)
  c : ∀ x, d.car = some x → (ns.zip sl).lookup ("carriers" : Str) = some (.im x)
theorem look_l {ss us : List (Str × Sl)} {k : Str} {s : Sl} (h : ss.lookup k = some s) : (ss ++ us).lookup k = some s := by
  rw [List.lookup_append, h]; rfl
theorem look_r {ss us : List (Str × Sl)} {k : Str} {o : Option Sl} (h : ss.lookup k = none) (h2 : us.lookup k = o) : (ss ++ us).lookup k = o := by
  rw [List.lookup_append, h, h2]; rfl
theorem X00.x0 {ns : List Str} {sl : List Sl} {d : Wx} (h : X00 ns sl d) : X0 (ns.zip sl) d := by
  have no : ∀ k ∈ wyR, (ns.zip sl).lookup k = none := fun k hk => lk_no _ _ _ (h.no k hk)
  have ww : ∀ k ∈ wyMs, k ∈ wyR ∧ (["group", "spokes", "size"] : List Str).findIdx? (· == k) = none := by decide +kernel
  have z : ∀ (k : Str) (o : Option Sl), k ∈ wyR → (wS d.g d.m d.n).lookup k = o → (ns.zip sl ++ wS d.g d.m d.n).lookup k = o := fun k o hk h2 => look_r (no k hk) h2
  have at_ : ∀ (k : Str) (i : Nat), (["group", "spokes", "size"] : List Str).findIdx? (· == k) = some i → (wS d.g d.m d.n).lookup k = ([.im d.g, .im d.m, .im d.n] : List Sl)[i]? := fun k i e => lk_at ["group", "spokes", "size"] [.im d.g, .im d.m, .im d.n] k i e
  refine ⟨⟨z _ _ (by simp [wyR]) (at_ _ 0 (by decide +kernel)), z _ _ (by simp [wyR]) (at_ _ 1 (by decide +kernel)), z _ _ (by simp [wyR]) (at_ _ 2 (by decide +kernel)), fun x hx => look_l (h.a x hx), fun x hx => look_l (h.b x hx), fun x hx => look_l (h.p x hx), fun x hx => look_l (h.k x hx), fun x hx => look_l (h.t x hx), fun x hx => look_l (h.c x hx),
    z _ _ (by simp [wyR]) (lk_no ["group", "spokes", "size"] [.im d.g, .im d.m, .im d.n] _ (by decide +kernel)), fun k hk => z _ _ (ww k hk).1 (lk_no ["group", "spokes", "size"] [.im d.g, .im d.m, .im d.n] _ (ww k hk).2)⟩, no _ (by simp [wyR]), ?_, ?_, ?_⟩
  · exact look_r (no _ (by simp [wyR])) (lk_no ["group"] [.im d.g] _ (by decide +kernel))
  · exact look_r (no _ (by simp [wyR])) (lk_no ["group", "spokes"] [.im d.g, .im d.m] _ (by decide +kernel))
  · rw [List.length_zip]
    have := h.len
    omega
end TB

/-! TbDz: dict(zip(xs, ys)); sorted(d.keys()). -/
namespace TB
open PySem PySem.Spec PyProof.Rows L2
section
variable {X : Cx} {a b : Expr} {ta : TA} {p p2 q pos : Pos}
end
section
variable {X : Cx} {e : Expr} {td : TE} {p apos cpos pos : Pos}
end
end TB

/-! TbDf: defs whose last parameter has a default; more of dicts. -/
namespace TB
open PySem PySem.Spec PyProof.Rows L2
/-- a def as it stands behind the top, whatever its defaults are -/
structure FunX (K : PySem.W.Frag) (x qual : Str) (st : Stmt) (f : Addr) (fd : FuncData) : Prop where
  ex : ∃ (oc : Value) (od : Option Addr) (dV kV doc pm : Value) (an : Option Addr) (cdv ct : Value) (osl : Array (Option Value)),
    fd = PySem.W.fnOf x qual (defArgs st) (defBody st) (defScope st) dV kV doc pm an cdv ct ∧ K.lookup f = some ⟨oc, od, .func fd, osl⟩ ∧ PySem.W.codeIn K cdv qual = true
  kp : PySem.W.keepIn K (.ref f) = true
section
variable {P : Program} {w : World} {K : PySem.W.Frag} {mg : Str → Option Value} {base : Heap} {x qual : Str} {st : Stmt} {f : Addr} {fd : FuncData} {N ps : List Str} {k : Nat} {sp : Sp}
theorem FunX.okX (F : FunX K x qual st f fd) (S : FnScope N ps (defScope st)) (len : ∀ vs H Q E, sp vs H Q E → vs.length = ps.length)
    (hbody : ∀ (cdv : Value) (A : Around) (outer : List Env) (s : Shared) (H : Hp) (vs : List V) (Q : VK) (E : XK), Room k (A.deeper (envOfC qual (defScope st) s.heap.objs.size f cdv)) → sp vs H Q E →
      ∃ t, PSs (cxOf (L2.CX P w) P w K mg base N qual (defScope st) f cdv A outer s H E) (defBody st) t ∧ t { nx := fun _ H' => Q .non H', rt := Q } (L2.start N vs) H) : FnOk P w K mg base (L2.CX P w) (k + 1) f fd ps sp := by
  obtain ⟨oc, od, dV, kV, doc, pm, an, cdv, ct, osl, rfl, lk, hcd⟩ := F.ex
  exact fn_of lk hcd S len fun A outer s H vs Q E hr hsp => hbody cdv A outer s H vs Q E hr hsp
end
section
variable {c : Cn} {Γ : List Sl} {ta tb te tl ty : TE} {tt tc : TT} {t u : TS} {s s' so : Sl} {α β γ : Type} {_ : Rp α} {_ : Rp β} {_ : Rp γ} {P : Po} {d : α}
/-! ### dict(zip(xs, ys)), sorted(d.keys()) -/
end
section
variable {c : Cn} {Γ : List Sl} {ta tb te tl ty : TE} {s : Sl} {α : Type} {_ : Rp α}
end
end TB

/-! TbUl: a list unpacked to two names; a pair walked; calls with what is in fresh lists. -/
namespace TB
open PySem PySem.Spec PyProof.Rows L2
section
variable {prog : Program} {w : World} {A : Around} {E : Value → Shared → Prop} {s : Shared}
end
section
variable {c : Cn} {Γ : List Sl} {ta tb te tl ty : TE} {t u : TS} {s so : Sl} {α β : Type} {_ : Rp α} {_ : Rp β} {P : Po} {d : α}
end
end TB
namespace TB
open PySem PySem.Spec PyProof.Rows L2
section
variable {c : Cn} {Γ : List Sl} {te : TE} {α : Type} {_ : Rp α} {P : Po}
end
end TB
namespace TB
open PySem PySem.Spec PyProof.Rows L2
section
variable {X : Cx} {CX : CXT} {k n : Nat} {f : Addr} {fd : FuncData} {ps : List Str} {nm : Str} {sp : Sp} {E : XK} {x : Str} {p pos : Pos} {e : Expr} {es : List Expr} {kws : List Keyword} {t tk : TA} {g : List Value → List Value → List Value} {gV : List V → List V → List V}
end
end TB

/-! TbLcm: the turns of a group. -/
namespace TB
open PySem
structure IsLcm (t : Tbl) (e : Int) (n : Int) (L : Nat) : Prop where
  pos : 1 ≤ L
  all : ∀ a d, InT t a → a < n → IsOrd t e a d → d ∣ L
  low : ∀ M, (∀ a d, InT t a → a < n → IsOrd t e a d → d ∣ M) → L ∣ M
end TB

/-! TbOne: one-row ways of parts. -/
namespace TB
open PySem
/-- the first two things of which f holds -/
def fbk (P : List Int) (f : Int → Int → Bool) : Option (Int × Int) := P.findSome? fun a => (P.find? fun b => f a b).map fun b => (a, b)
/-- the mark of a thing -/
def mk (P M : List Int) (x : Int) : Int := gt M (ix P x : Int)
def brkF (t : Tbl) (P M : List Int) (m : Int) : Option (Int × Int) := fbk P fun a b => !decide (mk P M (en t a b) = (mk P M a + mk P M b) % m)
def MarksOk (P M : List Int) (m : Int) : Prop := M.length = P.length ∧ ∀ x ∈ M, 0 ≤ x ∧ x < m
end TB

/-! TbPl: own lists of two things of different make. -/
namespace TB
open PySem PySem.Spec PyProof.Rows L2
def Pl (s1 s2 : Sl) : Own := ⟨fun Z R h v => ∃ (a : Addr) (x y : V) (f1 f2 : List Addr), v = .ref a ∧ (a :: (f1 ++ f2)).Nodup ∧ h a = some (.lst [x, y]) ∧ slok Z R h (some x) s1 f1 ∧ slok Z R h (some y) s2 f2,
  fun e h => by
    obtain ⟨a, x, y, f1, f2, h1, h2, h3, h4, h5⟩ := h
    exact ⟨a, x, y, f1, f2, h1, h2, h3, slok_mono e (fun _ _ => rfl) h4, slok_mono e (fun _ _ => rfl) h5⟩⟩
abbrev Sl.pl (s1 s2 : Sl) : Sl := .ow (Pl s1 s2)
section
variable {Z : Zz} {B R0 R R' H H' : Hp} {τ ρ σ : List (Option V)} {Θ Δ Γ : List Sl} {s s' s1 s2 : Sl} {o : Option V} {f g own : List Addr}
end
section
variable {c : Cn} {Γ Γ1 Γ2 : List Sl} {ta tb te tl : TE} {t u : TS} {s s1 s2 : Sl} {α β : Type} {_ : Rp α} {_ : Rp β} {P : Po} {d : α}
end
end TB

/-! TbSr: rows sorted as Python sorts lists; own tables put together. -/
namespace TB
open PySem PySem.Spec PyProof.Rows L2 PySem.W
section
variable {c : Cn} {Γ : List Sl} {ta tb te : TE} {t u : TS} {s so : Sl} {α : Type} {_ : Rp α} {P : Po}
end
end TB

/-! TbTk: one-row ways taken on to one thing more. -/
namespace TB
open PySem
section
variable {t : Tbl} {e : Int}
end
end TB

/-! TbTl: what taking on tells: the greater part, and its one-row ways. -/
namespace TB
open PySem
section
variable {t : Tbl} {e : Int}
structure OneW (t : Tbl) (P M : List Int) (m : Int) : Prop where
  ok : MarksOk P M m
  hom : ∀ a ∈ P, ∀ b ∈ P, mk P M (en t a b) = (mk P M a + mk P M b) % m
theorem cj_move (h : GTbl t e) {x a : Int} (hx : InT t x) (ha : InT t a) : en t (cj t e x a) x = en t x a := by
  unfold cj
  rw [h.as (h.cl hx ha) (bk_in h hx) hx, bk_r h hx, h.u2 (h.cl hx ha)]
end
end TB

/-! TbOns: all one-row ways of a part. -/
namespace TB
open PySem
section
variable {t : Tbl} {e : Int}
open Classical in
theorem cj_cmm (h : GTbl t e) {a b : Int} (ha : InT t a) (hb : InT t b) : cj t e a b = en t (cmm t e a b) b := by
  unfold cmm cj
  rw [h.as (h.cl (h.cl ha hb) (bk_in h ha)) (bk_in h hb) hb, bk_r h hb, h.u2 (h.cl (h.cl ha hb) (bk_in h ha))]
end
end TB

/-! TbRd: the table of a round; what is due of a table. -/
namespace TB
open PySem L2
section
variable {c : Cn} {Γ : List Sl} {ta te : TE} {β : Type} {_ : Rp β}
end
/-! ### what is due of a table that may be spoilt -/
end TB
namespace TB
open PySem L2
/-! ### the names of what was caught -/
section
variable {c : Cn} {Γ : List Sl} {ta tb te : TE} {tt : TT} {α β γ : Type} {_ : Rp α} {_ : Rp β} {_ : Rp γ}
end
end TB

/-! TbAsk: what is refused where one-row ways are asked; lists turned and shortened. -/
namespace TB
open PySem PySem.Spec PyProof.Rows L2
def SrvOk (L : Nat) (sp : Option Int) (m : Int) : Prop := (sp = none ∧ m = (L : Int)) ∨ (sp = some m ∧ (L : Int) ≤ m ∧ m % (L : Int) = 0 ∧ m ≤ 60)
theorem SrvOk.pos {L : Nat} {sp : Option Int} {m : Int} (h : SrvOk L sp m) (hL : 1 ≤ L) : 0 < m := by
  rcases h with ⟨_, rfl⟩ | ⟨_, h, _⟩ <;> omega
theorem SrvOk.le {L : Nat} {sp : Option Int} {m : Int} (h : SrvOk L sp m) (hL : L ≤ 60) : m ≤ 60 := by
  rcases h with ⟨_, rfl⟩ | ⟨_, _, _, h⟩ <;> omega
theorem SrvOk.one {L : Nat} {sp : Option Int} {m m' : Int} (h : SrvOk L sp m) (h' : SrvOk L sp m') : m = m' := by
  rcases h with ⟨rfl, rfl⟩ | ⟨rfl, _⟩
  · rcases h' with ⟨_, rfl⟩ | ⟨z, _⟩
    · rfl
    · cases z
  · rcases h' with ⟨z, _⟩ | ⟨z, _⟩
    · cases z
    · cases z; rfl
theorem SrvOk.some' {L : Nat} {s m : Int} (h : SrvOk L (some s) m) : m = s := by
  rcases h with ⟨z, _⟩ | ⟨z, _⟩
  · cases z
  · cases z; rfl
section
variable {c : Cn} {Γ : List Sl} {ta tb te : TE} {s : Sl} {α : Type} {_ : Rp α} {P : Po}
end
end TB

/-! TbWl: plain law of ways: what each class does. -/
namespace TB
open PySem L2
structure WyOk (w : Wy) (t : Tbl) (e : Int) : Prop where
  G : GTbl t e
  g : w.g = grpOf t e
  m1 : 1 ≤ w.m
  m2 : w.m ≤ 60
  n1 : 1 ≤ w.n
  n2 : w.n ≤ 60
  len : w.ds.length = t.length
  row : ∀ r ∈ w.ds, (r.length : Int) = w.n
  pl : ∀ r ∈ w.ds, ∀ q ∈ r, (0 ≤ q.1 ∧ q.1 < w.n) ∧ 0 ≤ q.2 ∧ q.2 < w.m
  cl : isWay w.C = true
theorem WyOk.at {w : Wy} {t : Tbl} {e a p : Int} (h : WyOk w t e) (ha : InT t a) (p0 : 0 ≤ p) (p1 : p < w.n) : ((gt w.ds a).length : Int) = w.n ∧ (0 ≤ (gt (gt w.ds a) p).1 ∧ (gt (gt w.ds a) p).1 < w.n) ∧ 0 ≤ (gt (gt w.ds a) p).2 ∧ (gt (gt w.ds a) p).2 < w.m := by
  have h1 := gt_mem (xs := w.ds) ha.1 (by have := ha.2; have := h.len; omega)
  have h2 := h.row _ h1
  exact ⟨h2, h.pl _ h1 _ (gt_mem p0 (by omega))⟩
/-- the side to which a thing leads a side, and the place in the part of what is over -/
def ledF (t : Tbl) (e : Int) (P : List Int) (a k : Int) : Int × Int :=
  let z := en t a (lf t P k.toNat)
  ((hm t P z : Int), (ix P (en t (bkf t e (lf t P (hm t P z))) z) : Int))
def carOf (t : Tbl) (e : Int) (P : List Int) : Car := ⟨grpOf t e, P, (sds t P).map fun s => gt s 0, hmL t P⟩
def liF (t : Tbl) (e : Int) (P M : List Int) (a k : Int) : Int × Int := ((ledF t e P a k).1, gt M (ledF t e P a k).2)
def beF (u v : Wy) (a p : Int) : Int × Int := if p < u.n then gt (gt u.ds a) p else (u.n + (gt (gt v.ds a) (p - u.n)).1, (gt (gt v.ds a) (p - u.n)).2)
def crF (u v : Wy) (a p : Int) : Int × Int := ((gt (gt u.ds a) (p / v.n)).1 * v.n + (gt (gt v.ds a) (p % v.n)).1, ((gt (gt u.ds a) (p / v.n)).2 + (gt (gt v.ds a) (p % v.n)).2) % u.m)
def baF (u : Wy) (a p : Int) : Int × Int := ((gt (gt u.ds a) p).1, (-(gt (gt u.ds a) p).2) % u.m)
def wiF (u : Wy) (P : List Int) (a p : Int) : Int × Int := gt (gt u.ds (gt P a)) p
def raF (t : Tbl) (e : Int) (P : List Int) (u : Wy) (a p : Int) : Int × Int := ((ledF t e P a (p / u.n)).1 * u.n + (gt (gt u.ds (ledF t e P a (p / u.n)).2) (p % u.n)).1, (gt (gt u.ds (ledF t e P a (p / u.n)).2) (p % u.n)).2)
/-- a way that is being made, what it does, its group -/
inductive WayIn : Wx → (Int → Int → Int × Int) → Tbl → Int → Prop
  | reg {t : Tbl} {e m : Int} (G : GTbl t e) (m1 : 1 ≤ m) (m2 : m ≤ 60) : WayIn {C := .Regular, g := grpOf t e, m := m, n := t.length} (fun a p => (en t a p, 0)) t e
  | lif {t : Tbl} {e m : Int} {P M : List Int} (G : GTbl t e) (p : PartL t e P) (k : MarksOk P M m) (kb : brkF t P M m = none) (m1 : 1 ≤ m) (m2 : m ≤ 60) : WayIn {C := .Lifted, g := grpOf t e, m := m, n := (sds t P).length, pm := some (P, M), car := some (carOf t e P)} (liF t e P M) t e
  | bes {t : Tbl} {e : Int} {u v : Wy} (hu : WyOk u t e) (hv : WyOk v t e) (hm : v.m = u.m) : WayIn {C := .Beside, g := u.g, m := u.m, n := u.n + v.n, a := some u, b := some v} (beF u v) t e
  | cro {t : Tbl} {e : Int} {u v : Wy} (hu : WyOk u t e) (hv : WyOk v t e) (hm : v.m = u.m) : WayIn {C := .Crossed, g := u.g, m := u.m, n := u.n * v.n, a := some u, b := some v} (crF u v) t e
  | bac {t : Tbl} {e : Int} {u : Wy} (hu : WyOk u t e) : WayIn {C := .Backed, g := u.g, m := u.m, n := u.n, a := some u} (baF u) t e
  | wit {t : Tbl} {e : Int} {u : Wy} {P : List Int} (hu : WyOk u t e) (p : PartL t e P) : WayIn {C := .Within, g := grpOf (innT t P) (ix P e : Int), m := u.m, n := u.n, a := some u, th := some P} (wiF u P) (innT t P) (ix P e : Int)
  | rai {t : Tbl} {e : Int} {u : Wy} {P : List Int} (G : GTbl t e) (p : PartL t e P) (hu : WyOk u (innT t P) (ix P e : Int)) : WayIn {C := .Raised, g := grpOf t e, m := u.m, n := u.n * (sds t P).length, a := some u, car := some (carOf t e P)} (raF t e P u) t e
theorem ledF_ok {t : Tbl} {e a k : Int} {P : List Int} (G : GTbl t e) (p : PartL t e P) (ha : InT t a) (k0 : 0 ≤ k) (k1 : k < (sds t P).length) :
    InT t (lf t P k.toNat) ∧ InT t (en t a (lf t P k.toNat)) ∧ (0 ≤ (ledF t e P a k).1 ∧ (ledF t e P a k).1 < (sds t P).length) ∧ (0 ≤ (ledF t e P a k).2 ∧ (ledF t e P a k).2 < P.length) ∧ InT t (lf t P (ledF t e P a k).1.toNat) ∧ en t (bkf t e (lf t P (ledF t e P a k).1.toNat)) (en t a (lf t P k.toNat)) ∈ P ∧
    gt P (ledF t e P a k).2 = en t (bkf t e (lf t P (ledF t e P a k).1.toNat)) (en t a (lf t P k.toNat)) := by
  have hx := (lf_spec G p (k := k.toNat) (by omega)).1
  have hz := G.cl ha hx
  obtain ⟨l1, q1⟩ := hm_spec G p hz
  have hy := (lf_spec G p l1).1
  have hin : en t (bkf t e (lf t P (hm t P (en t a (lf t P k.toNat))))) (en t a (lf t P k.toNat)) ∈ P := sid_back G p hy ((mem_sid_iff G p hz hy).mpr (sid_lf G p hz).symm)
  have e1 : (ledF t e P a k).1.toNat = hm t P (en t a (lf t P k.toNat)) := by unfold ledF; simp
  have h3 := ix_lt hin
  refine ⟨hx, hz, ⟨?_, ?_⟩, ⟨?_, ?_⟩, ?_, ?_, ?_⟩
  · unfold ledF; simp
  · unfold ledF; simp; omega
  · unfold ledF; simp
  · unfold ledF; simp only []; omega
  · rw [e1]; exact hy
  · rw [e1]; exact hin
  · rw [e1]; exact gt_ix hin
theorem WayIn.rows {d : Wx} {f : Int → Int → Int × Int} {t : Tbl} {e : Int} (h : WayIn d f t e) : GTbl t e ∧ d.g = grpOf t e ∧ 1 ≤ d.m ∧ d.m ≤ 60 ∧ 1 ≤ d.n ∧ isWay d.C = true := by
  cases h with
  | reg G m1 m2 => exact ⟨G, rfl, m1, m2, by have := G.sz.1; show (1 : Int) ≤ (t.length : Int); omega, rfl⟩
  | lif G p k kb m1 m2 => exact ⟨G, rfl, m1, m2, by have := (sds_len G p).1; show (1 : Int) ≤ ((sds t _).length : Int); omega, rfl⟩
  | bes hu hv hm => exact ⟨hu.G, hu.g, hu.m1, hu.m2, by have := hu.n1; have := hv.n1; simp only []; omega, rfl⟩
  | cro hu hv hm => exact ⟨hu.G, hu.g, hu.m1, hu.m2, Int.mul_pos hu.n1 hv.n1, rfl⟩
  | bac hu => exact ⟨hu.G, hu.g, hu.m1, hu.m2, hu.n1, rfl⟩
  | wit hu p => exact ⟨innT_G hu.G p, rfl, hu.m1, hu.m2, hu.n1, rfl⟩
  | rai G p hu => exact ⟨G, rfl, hu.m1, hu.m2, Int.mul_pos hu.n1 (by have := (sds_len G p).1; omega), rfl⟩
theorem pair_lt {i j a b : Int} (i0 : 0 ≤ i) (i1 : i < a) (j0 : 0 ≤ j) (j1 : j < b) : 0 ≤ i * b + j ∧ i * b + j < a * b := by
  have h1 : 0 ≤ i * b := Int.mul_nonneg i0 (by omega)
  have h2 : (i + 1) * b ≤ a * b := Int.mul_le_mul_of_nonneg_right (by omega) (by omega)
  rw [Int.add_mul, Int.one_mul] at h2
  omega
theorem div_lt {p a b : Int} (p0 : 0 ≤ p) (p1 : p < a * b) (b0 : 1 ≤ b) : (0 ≤ p / b ∧ p / b < a) ∧ 0 ≤ p % b ∧ p % b < b :=
  ⟨⟨Int.ediv_nonneg p0 (by omega), Int.ediv_lt_of_lt_mul (by omega) p1⟩, Int.emod_nonneg _ (by omega), Int.emod_lt_of_pos _ (by omega)⟩
theorem WayIn.vals {d : Wx} {f : Int → Int → Int × Int} {t : Tbl} {e a p : Int} (h : WayIn d f t e) (ha : InT t a) (p0 : 0 ≤ p) (p1 : p < d.n) : (0 ≤ (f a p).1 ∧ (f a p).1 < d.n) ∧ 0 ≤ (f a p).2 ∧ (f a p).2 < d.m := by
  cases h with
  | reg G m1 m2 => exact ⟨G.cl ha ⟨p0, p1⟩, Int.le_refl _, m1⟩
  | lif G pt k kb m1 m2 =>
    obtain ⟨_, _, h3, h4, _⟩ := ledF_ok G pt ha p0 p1
    have hl := k.1
    have := k.2 _ (gt_mem h4.1 (by omega))
    exact ⟨h3, this⟩
  | @bes t e u v hu hv hm =>
    show (0 ≤ (beF u v a p).1 ∧ (beF u v a p).1 < u.n + v.n) ∧ _
    unfold beF
    have p1' : p < u.n + v.n := p1
    split
    · obtain ⟨_, q1, q2⟩ := hu.at ha p0 (by assumption)
      have := hv.n1
      exact ⟨⟨q1.1, by omega⟩, q2⟩
    · obtain ⟨_, q1, q2⟩ := hv.at ha (p := p - u.n) (by omega) (by omega)
      have := hu.n1
      rw [hm] at q2
      exact ⟨⟨by show 0 ≤ u.n + _; omega, by show u.n + _ < _; omega⟩, q2⟩
  | @cro t e u v hu hv hm =>
    obtain ⟨d1, d2⟩ := div_lt (p := p) (a := u.n) (b := v.n) p0 p1 hv.n1
    obtain ⟨_, q1, q2⟩ := hu.at ha d1.1 d1.2
    obtain ⟨_, r1, r2⟩ := hv.at ha d2.1 d2.2
    have := hu.m1
    exact ⟨pair_lt q1.1 q1.2 r1.1 r1.2, Int.emod_nonneg _ (by omega), Int.emod_lt_of_pos _ hu.m1⟩
  | @bac t e u hu =>
    obtain ⟨_, q1, q2⟩ := hu.at ha p0 p1
    have := hu.m1
    exact ⟨q1, Int.emod_nonneg _ (by omega), Int.emod_lt_of_pos _ hu.m1⟩
  | @wit t e u P hu pt =>
    have hl : (innT t P).length = P.length := innT_len
    have hp := pt.pt.inn _ (gt_mem ha.1 (by have := ha.2; omega))
    obtain ⟨_, q1, q2⟩ := hu.at hp p0 p1
    exact ⟨q1, q2⟩
  | @rai t e u P G pt hu =>
    obtain ⟨d1, d2⟩ := div_lt (p := p) (a := (sds t P).length) (b := u.n) p0 (by rw [Int.mul_comm]; exact p1) hu.n1
    obtain ⟨_, _, h3, h4, _⟩ := ledF_ok G pt ha d1.1 d1.2
    have hl : (innT t P).length = P.length := innT_len
    obtain ⟨_, q1, q2⟩ := hu.at (a := (ledF t e P a (p / u.n)).2) ⟨h4.1, by omega⟩ d2.1 d2.2
    have := pair_lt h3.1 h3.2 q1.1 q1.2
    exact ⟨⟨this.1, by rw [Int.mul_comm] at this; rw [Int.mul_comm u.n]; have h5 := pair_lt h3.1 h3.2 q1.1 q1.2; exact h5.2⟩, q2⟩
end TB

/-! TbWm: pairs unpacked, divmod, int of a bool; carriers being made. -/
namespace TB
open PySem L2
section
variable {c : Cn} {Γ : List Sl} {ta tb te tl : TE} {t u : TS} {s s' so : Sl} {α β γ : Type} {_ : Rp α} {_ : Rp β} {_ : Rp γ} {P : Po} {i j : Nat}
end
/-! ### an own instance with two own lists -/
section
variable {c : Cn} {Γ : List Sl} {ta tb te tl : TE} {tt tc : TT} {t u : TS} {P : Po} {C : CN} {ss : List (Str × Sl)} {ns : List Str} {n n1 n2 : Str} {i : Nat} {a p1 p2 : Addr} {xs1 xs2 : List Int}
end
/-! ### numbers of spokes -/
/-! ### the numbers of sides, put one by one -/
section
variable {t : Tbl} {e : Int} {P : List Int}
end
end TB

/-! TbMkd: marks told thing by thing along the walk of a least part. -/
namespace TB
open PySem L2
section
variable {c : Cn} {Γ : List Sl} {tk tv : TE} {α : Type} {_ : Rp α}
end
section
variable {t : Tbl} {e m : Int} {ys gs : List Int} {kvs : List (Int × Int)} {a j : Nat} {good : Bool}
end
end TB

/-! TbAv: carriers that avoid what is lent. -/
namespace TB
open PySem L2
section
variable {c : Cn} {Γ : List Sl} {β : Type} {_ : Rp β} {α : Type} {_ : Rp α} {d : α} {te : TE} {S : Sl → Prop}
end
section
variable {c : Cn} {Γ : List Sl} {P : Po} {α : Type} {_ : Rp α}
end
section
variable {c : Cn} {Γ : List Sl} {P : Po} {α β : Type} [Rp α] [Rp β] {te : TE} {i j : Nat}
end
end TB

/-! TbMo: a comprehension over an own list, which stays. -/
namespace TB
open PySem PySem.Spec PyProof.Rows L2
section
variable {c : Cn} {Γ : List Sl} {ta tb te tl ty : TE} {t u : TS} {s s' so : Sl} {α β : Type} {_ : Rp α} {_ : Rp β} {P : Po}
end
end TB

/-! TbLt: rows compared by <; own tables copied, and wrecked. -/
namespace TB
open PySem PySem.Spec PyProof.Rows L2 PySem.W
section
variable {c : Cn} {Γ : List Sl} {ta tb te tl ty : TE} {t u : TS} {s s' so s1 s2 : Sl} {α β : Type} {_ : Rp α} {_ : Rp β} {P : Po}
end
end TB

/-! TbRef: what grown refuses, told as rows; own pairs lent. -/
namespace TB
open PySem L2
structure Grw (t : Tbl) (e : Int) (L : Nat) (P M : List Int) (x w : Int) : Prop where
  G : GTbl t e
  lcm : IsLcm t e t.length L
  pt : PartL t e P
  one : OneW t P M w
  xi : InT t x
  w0 : (L : Int) ≤ w
  w1 : w % (L : Int) = 0
  w2 : w ≤ 60
theorem Grw.pos {t : Tbl} {e : Int} {L : Nat} {P M : List Int} {x w : Int} (g : Grw t e L P M x w) : 0 < w := by have := g.w0; have := g.lcm.pos; omega
end TB

/-! TbHrt: the heart, and what leads its sides round. -/
namespace TB
open PySem
section
variable {t : Tbl} {e : Int}
open Classical in
theorem all_part (h : GTbl t e) : PartL t e (irange t.length) := ⟨inc_irange _, ⟨nodup_irange' _, fun x hx => mem_irange.mp hx, mem_irange.mpr h.he, fun x hx y hy => mem_irange.mpr (h.cl (mem_irange.mp hx) (mem_irange.mp hy)), fun x hx => ⟨bkf t e x, mem_irange.mpr (bk_in h (mem_irange.mp hx)), bk_l h (mem_irange.mp hx), bk_r h (mem_irange.mp hx)⟩⟩⟩
/-- the heart -/
structure Hrt (t : Tbl) (e : Int) (H : List Int) : Prop where
  pt : PartL t e H
  ab : ∀ a ∈ H, ∀ b ∈ H, en t a b = en t b a
  cm : ∀ a b, InT t a → InT t b → cmm t e a b ∈ H
  out : ∀ x, InT t x → x ∉ H → ∃ a ∈ H, en t x a ≠ en t a x
section
variable {H : List Int}
theorem Hrt.st (o : Hrt t e H) (h : GTbl t e) {x a : Int} (hx : InT t x) (ha : a ∈ H) : cj t e x a ∈ H := by
  rw [cj_cmm h hx (o.pt.pt.inn a ha)]
  exact o.pt.pt.mul _ (o.cm x a hx (o.pt.pt.inn a ha)) _ ha
theorem cj_comm (h : GTbl t e) {x a : Int} (hx : InT t x) (ha : InT t a) : cj t e x a = a ↔ en t x a = en t a x := by
  have mv := cj_move h hx ha
  constructor
  · intro q
    rw [q] at mv
    exact mv.symm
  · intro q
    exact h.canR hx (cj_in h hx ha) ha (mv.trans q)
theorem Hrt.moves (o : Hrt t e H) (h : GTbl t e) {x : Int} (hx : InT t x) (hn : x ∉ H) : ∃ a ∈ H, cj t e x a ≠ a := by
  obtain ⟨a, ha, hne⟩ := o.out x hx hn
  exact ⟨a, ha, fun z => hne ((cj_comm h hx (o.pt.pt.inn a ha)).mp z)⟩
theorem Hrt.fixes (o : Hrt t e H) (h : GTbl t e) {x : Int} (hx : x ∈ H) {a : Int} (ha : a ∈ H) : cj t e x a = a := (cj_comm h (o.pt.pt.inn x hx) (o.pt.pt.inn a ha)).mpr (o.ab x hx a ha)
theorem cj_inj (h : GTbl t e) {x a b : Int} (hx : InT t x) (ha : InT t a) (hb : InT t b) (q : cj t e x a = cj t e x b) : a = b := by
  have e1 := cj_move h hx ha
  have e2 := cj_move h hx hb
  rw [q, e2] at e1
  exact (h.canL hx hb ha e1).symm
theorem cj_e (h : GTbl t e) {x : Int} (hx : InT t x) : cj t e x e = e := by
  unfold cj
  rw [h.u2 hx, bk_l h hx]
/-- there is room for two out of it, and their product -/
theorem Hrt.two (o : Hrt t e H) (h : GTbl t e) (hr : 2 * H.length < t.length) {x : Int} (hx : InT t x) : ∃ y, InT t y ∧ y ∉ H ∧ en t x y ∉ H := by
  by_cases c : ∃ y, InT t y ∧ y ∉ H ∧ en t x y ∉ H
  · exact c
  · exfalso
    have cov : ∀ y ∈ irange t.length, y ∈ H ++ H.map fun a => en t (bkf t e x) a := fun y hy => by
      have iy := mem_irange.mp hy
      rw [List.mem_append]
      by_cases d : y ∈ H
      · exact .inl d
      · by_cases d2 : en t x y ∈ H
        · refine .inr (List.mem_map.mpr ⟨_, d2, ?_⟩)
          rw [← h.as (bk_in h hx) hx iy, bk_r h hx, h.u1 iy]
        · exact absurd ⟨y, iy, d, d2⟩ c
    have := nodup_le (nodup_irange' t.length) cov
    rw [irange_len, List.length_append, List.length_map] at this
    omega
/-- no room for one more -/
theorem full {P Q : List Int} (nd : Q.Nodup) (hq : ∀ z ∈ Q, z ∈ P) (hl : P.length ≤ Q.length) {z : Int} (hz : z ∈ P) : z ∈ Q := by
  by_cases c : z ∈ Q
  · exact c
  · have := nodup_le (A := z :: Q) (B := P) (List.nodup_cons.mpr ⟨c, nd⟩) fun w hw => by
      rcases List.mem_cons.mp hw with q | q
      · rw [q]; exact hz
      · exact hq w q
    rw [List.length_cons] at this
    omega
theorem Hrt.m2 (o : Hrt t e H) (h : GTbl t e) (hl : H.length ≤ 2) {x : Int} (hx : InT t x) : x ∈ H := by
  by_cases c : x ∈ H
  · exact c
  · exfalso
    obtain ⟨a, ha, hne⟩ := o.moves h hx c
    have ia := o.pt.pt.inn a ha
    have ae : a ≠ e := fun z => hne (by rw [z]; exact cj_e h hx)
    have hc := o.st h hx ha
    have ce : cj t e x a ≠ e := fun z => ae (cj_inj h hx ia h.he (z.trans (cj_e h hx).symm))
    have := full (Q := [e, a]) (by simp [Ne.symm ae]) (fun z hz => by
      simp only [List.mem_cons, List.not_mem_nil, or_false] at hz
      rcases hz with rfl | rfl
      · exact o.pt.pt.one
      · exact ha) hl hc
    simp only [List.mem_cons, List.not_mem_nil, or_false] at this
    rcases this with z | z
    · exact ce z
    · exact hne z
theorem Hrt.m3 (o : Hrt t e H) (h : GTbl t e) (hl : H.length ≤ 3) {x y : Int} (hx : InT t x) (hy : InT t y) (cx : x ∉ H) (cy : y ∉ H) : en t x y ∈ H := by
  by_cases c : en t x y ∈ H
  · exact c
  · exfalso
    have hxy := h.cl hx hy
    obtain ⟨a, ha, hne⟩ := o.moves h hxy c
    have ia := o.pt.pt.inn a ha
    rw [← cj_mul h hx hy ia] at hne
    -- the one and the other each move all but the unit
    have mv : ∀ {z : Int}, InT t z → z ∉ H → ∀ b ∈ H, b ≠ e → cj t e z b ≠ b := fun {z} hz cz b hb be q => by
      have ib := o.pt.pt.inn b hb
      obtain ⟨d, hd, hne2⟩ := o.moves h hz cz
      have id := o.pt.pt.inn d hd
      have de : d ≠ e := fun w => hne2 (by rw [w]; exact cj_e h hz)
      have db : d ≠ b := fun w => hne2 (by rw [w]; exact q)
      have hc := o.st h hz hd
      have := full (Q := [e, b, d]) (by simp [Ne.symm be, Ne.symm de, Ne.symm db]) (fun w hw => by
        simp only [List.mem_cons, List.not_mem_nil, or_false] at hw
        rcases hw with rfl | rfl | rfl
        · exact o.pt.pt.one
        · exact hb
        · exact hd) hl hc
      simp only [List.mem_cons, List.not_mem_nil, or_false] at this
      rcases this with w | w | w
      · exact de (cj_inj h hz id h.he (w.trans (cj_e h hz).symm))
      · exact db (cj_inj h hz id ib (w.trans q.symm))
      · exact hne2 w
    have ae : a ≠ e := fun z => hne (by rw [z, cj_e h hy, cj_e h hx])
    have hb := o.st h hy ha
    have ib := o.pt.pt.inn _ hb
    have ba := mv hy cy a ha ae
    have be : cj t e y a ≠ e := fun z => ae (cj_inj h hy ia h.he (z.trans (cj_e h hy).symm))
    have hcb := o.st h hx hb
    have m2 := mv hx cx _ hb be
    have := full (Q := [e, a, cj t e y a]) (by simp [Ne.symm ae, Ne.symm be, Ne.symm ba]) (fun w hw => by
      simp only [List.mem_cons, List.not_mem_nil, or_false] at hw
      rcases hw with rfl | rfl | rfl
      · exact o.pt.pt.one
      · exact ha
      · exact hb) hl hcb
    simp only [List.mem_cons, List.not_mem_nil, or_false] at this
    rcases this with w | w | w
    · exact be (cj_inj h hx ib h.he (w.trans (cj_e h hx).symm))
    · exact hne w
    · exact m2 w
theorem Hrt.sq (o : Hrt t e H) (h : GTbl t e) {x : Int} (hx : InT t x) (hs : en t x x ∈ H) {a : Int} (ha : a ∈ H) : cj t e x (cj t e x a) = a := by
  rw [cj_mul h hx hx (o.pt.pt.inn a ha)]
  exact o.fixes h hs ha
end
end
end TB

/-! TbRai: plain law of raised ways. -/
namespace TB
open PySem L2
section
variable {t : Tbl} {e : Int} {P : List Int}
theorem flat_same {n : Nat} : ∀ {l : List (List Int)}, (∀ x ∈ l, x.length = n) → l.flatten.length = l.length * n
  | [], _ => by simp
  | x :: l, h => by
    rw [List.flatten_cons, List.length_append, h x (by simp), flat_same fun y hy => h y (by simp [hy]), List.length_cons, Nat.add_mul]
    omega
/-- as many sides as the part goes into all things -/
theorem sds_cnt (h : GTbl t e) (p : PartL t e P) : (sds t P).length * P.length = t.length := by
  have I := kinI (sid_eqv h p) t.length (Nat.le_refl _)
  have e1 : (sds t P).flatten.length = (sds t P).length * P.length := flat_same fun x hx => by
    obtain ⟨k, hk, rfl⟩ := List.getElem_of_mem hx
    obtain ⟨y, hy, e1, _⟩ := sds_at h p hk
    rw [e1, sid_len]
  have e2 : (sds t P).flatten.Perm (irange t.length) := (List.perm_ext_iff_of_nodup I.nd (nodup_irange' _)).mpr fun x => kin_mem (sid_eqv h p) x
  rw [← e1, e2.length_eq, irange_len]
  omega
/-! raised, side by side -/
/-! a one-row way of a part, as a way of the part's own group -/
end
end TB

/-! TbFof: plain law: folds of folds. -/
namespace TB
open PySem L2
section
variable {t : Tbl} {e : Int} {P Q : List Int}
/-! ### numberings in the order of the things -/
/-- each lesser number has come before -/
def FstO (n : Int) (f : Int → Nat) : Prop := ∀ x, 0 ≤ x → x < n → ∀ k, k < f x → ∃ y, 0 ≤ y ∧ y < x ∧ f y = k
theorem fo_one {n : Int} {f g : Int → Nat} (hf : FstO n f) (hg : FstO n g) (hk : ∀ x y, 0 ≤ x → x < n → 0 ≤ y → y < n → (f x = f y ↔ g x = g y)) : ∀ m : Nat, ∀ x : Int, 0 ≤ x → x < n → x < m → f x = g x
  | 0, x, h0, _, h2 => by omega
  | m + 1, x, h0, h1, h2 => by
    have ih := fo_one hf hg hk m
    rcases Nat.lt_trichotomy (f x) (g x) with q | q | q
    · obtain ⟨y, y0, y1, e1⟩ := hg x h0 h1 _ q
      have e2 := ih y y0 (by omega) (by omega)
      have := (hk y x y0 (by omega) h0 h1).mp (e2.trans e1)
      omega
    · exact q
    · obtain ⟨y, y0, y1, e1⟩ := hf x h0 h1 _ q
      have e2 := ih y y0 (by omega) (by omega)
      have := (hk y x y0 (by omega) h0 h1).mpr (e2.symm.trans e1)
      omega
theorem inc_least {xs : List Int} (h : Inc xs) {z : Int} (hz : z ∈ xs) : gt xs 0 ≤ z := by
  cases xs with
  | nil => simp at hz
  | cons x r =>
    show x ≤ z
    rcases List.mem_cons.mp hz with q | q
    · omega
    · have := (List.pairwise_cons.mp h).1 z q
      omega
theorem hm_fo (h : GTbl t e) (p : PartL t e P) : FstO t.length (hm t P) := fun x x0 x1 k hk => by
  have ix : InT t x := ⟨x0, x1⟩
  obtain ⟨hl, e1⟩ := hm_spec h p ix
  have hp := List.pairwise_iff_getElem.mp (show (sds t P).Pairwise fun a b => gt a 0 < gt b 0 from (kinI (sid_eqv h p) t.length (Nat.le_refl _)).heads)
  have hk' : k < (sds t P).length := by omega
  have := hp k _ hk' hl hk
  obtain ⟨a, b, c⟩ := lf_spec h p hk'
  have e2 : lf t P k = gt (sds t P)[k] 0 := by show gt (gt (sds t P) (k : Int)) 0 = _; rw [gt_nat hk']
  have E := sid_eqv h p
  have e3 : gt (sds t P)[hm t P x] 0 ≤ x := by rw [e1]; exact inc_least (E.inc x ix) (E.self x ix)
  exact ⟨lf t P k, a.1, by omega, c⟩
theorem hm_in (h : GTbl t e) (p : PartL t e P) {x : Int} (hx : InT t x) : InT (fdT t P) (hm t P x : Int) := ⟨by omega, by rw [fdT_len]; have := (hm_spec h p hx).1; omega⟩
theorem hm_sur (h : GTbl t e) (p : PartL t e P) {i : Int} (hi : InT (fdT t P) i) : ∃ x, InT t x ∧ (hm t P x : Int) = i := by
  have h1 := hi.2
  have h0 := hi.1
  rw [fdT_len] at h1
  obtain ⟨a, b, c⟩ := lf_spec h p (k := i.toNat) (by omega)
  exact ⟨_, a, by omega⟩
/-- two things lie in one side -/
theorem hm_iff (h : GTbl t e) (p : PartL t e P) {x y : Int} (hx : InT t x) (hy : InT t y) : hm t P x = hm t P y ↔ ∃ z ∈ P, en t y z = x := by
  rw [hm_eq h p hx hy, ← mem_sid_iff h p hx hy, mem_sid]
/-! ### images -/
/-- the sides of some things -/
def imgF (t : Tbl) (P S : List Int) : List Int := uset (S.map fun x => (hm t P x : Int))
theorem mem_img {S : List Int} {i : Int} : i ∈ imgF t P S ↔ ∃ x ∈ S, (hm t P x : Int) = i := by
  unfold imgF
  rw [mem_uset, List.mem_map]
theorem inc_img {S : List Int} : Inc (imgF t P S) := inc_uset _
theorem hm_bk (h : GTbl t e) (p : PartL t e P) (st : St t e P) {x : Int} (hx : InT t x) : bkf (fdT t P) (hm t P e : Int) (hm t P x : Int) = (hm t P (bkf t e x) : Int) := by
  have ib := bk_in h hx
  exact bk_one (fdT_G h p st) (hm_in h p hx) (hm_in h p ib) (by rw [fdT_en h p st hx ib, bk_l h hx])
theorem hm_cj (h : GTbl t e) (p : PartL t e P) (st : St t e P) {o x : Int} (ho : InT t o) (hx : InT t x) : cj (fdT t P) (hm t P e : Int) (hm t P o : Int) (hm t P x : Int) = (hm t P (cj t e o x) : Int) := by
  unfold cj
  rw [hm_bk h p st ho, fdT_en h p st ho hx, fdT_en h p st (h.cl ho hx) (bk_in h ho)]
theorem hm_cmm (h : GTbl t e) (p : PartL t e P) (st : St t e P) {a b : Int} (ha : InT t a) (hb : InT t b) : cmm (fdT t P) (hm t P e : Int) (hm t P a : Int) (hm t P b : Int) = (hm t P (cmm t e a b) : Int) := by
  unfold cmm
  rw [hm_bk h p st ha, hm_bk h p st hb, fdT_en h p st ha hb, fdT_en h p st (h.cl ha hb) (bk_in h ha), fdT_en h p st (h.cl (h.cl ha hb) (bk_in h ha)) (bk_in h hb)]
/-- a class goes to a class -/
theorem img_orb (h : GTbl t e) (p : PartL t e P) (st : St t e P) {x : Int} (hx : InT t x) : imgF t P (orb t e x) = orb (fdT t P) (hm t P e : Int) (hm t P x : Int) := by
  refine inc_one inc_img (inc_uset _) fun z => ?_
  rw [mem_img]
  constructor
  · rintro ⟨y, hy, rfl⟩
    obtain ⟨o, ho, rfl⟩ := mem_orb.mp hy
    exact mem_orb.mpr ⟨_, hm_in h p ho, hm_cj h p st ho hx⟩
  · intro q
    obtain ⟨o, ho, rfl⟩ := mem_orb.mp q
    obtain ⟨y, hy, rfl⟩ := hm_sur h p ho
    exact ⟨_, mem_orb.mpr ⟨y, hy, rfl⟩, (hm_cj h p st hy hx).symm⟩
theorem orb_cls (h : GTbl t e) {x : Int} (hx : InT t x) : orb t e x ∈ clsF t e := by
  have I := clsF_I h
  obtain ⟨l, hl, hxl⟩ := List.mem_flatten.mp (I.cov x hx.1 (by have := hx.2; omega))
  obtain ⟨y, hy, e1, _⟩ := I.orbs l hl
  rw [e1] at hxl
  rw [orb_eq h hy hxl, ← e1]
  exact hl
theorem cls_orb (h : GTbl t e) {l : List Int} (hl : l ∈ clsF t e) : ∃ x, InT t x ∧ l = orb t e x := by
  obtain ⟨y, hy, e1, _⟩ := (clsF_I h).orbs l hl
  exact ⟨y, hy, e1⟩
theorem img_cls (h : GTbl t e) (p : PartL t e P) (st : St t e P) {l : List Int} (hl : l ∈ clsF t e) : imgF t P l ∈ clsF (fdT t P) (hm t P e : Int) := by
  obtain ⟨x, hx, rfl⟩ := cls_orb h hl
  rw [img_orb h p st hx]
  exact orb_cls (fdT_G h p st) (hm_in h p hx)
/-- what some things make goes to what their sides make -/
theorem img_clo (h : GTbl t e) (p : PartL t e P) (st : St t e P) {S S' : List Int} (hs : ∀ y ∈ S, InT t y) (hS : ∀ i, i ∈ S' ↔ ∃ y ∈ S, (hm t P y : Int) = i) : clo (fdT t P) (hm t P e : Int) S' = imgF t P (clo t e S) := by
  have G := fdT_G h p st
  have hs' : ∀ y ∈ S', InT (fdT t P) y := fun y hy => by
    obtain ⟨x, hx, rfl⟩ := (hS y).mp hy
    exact hm_in h p (hs x hx)
  refine inc_one (inc_clo _) inc_img fun z => ?_
  rw [mem_clo G hs', mem_img]
  constructor
  · intro r
    induction r with
    | one => exact ⟨e, (mem_clo h hs).mpr .one, rfl⟩
    | step _ hy ih =>
      obtain ⟨x, hx, rfl⟩ := ih
      obtain ⟨y, hy', rfl⟩ := (hS _).mp hy
      have rx := (mem_clo h hs).mp hx
      exact ⟨en t x y, (mem_clo h hs).mpr (.step rx hy'), (fdT_en h p st (reach_in h hs rx) (hs y hy')).symm⟩
  · rintro ⟨x, hx, rfl⟩
    have rx := (mem_clo h hs).mp hx
    induction rx with
    | one => exact .one
    | step r hy ih =>
      rw [← fdT_en h p st (reach_in h hs r) (hs _ hy)]
      exact .step (ih ((mem_clo h hs).mpr r)) ((hS _).mpr ⟨_, hy, rfl⟩)
theorem mem_cmL {S : List Int} {z : Int} : z ∈ cmL t e S ↔ ∃ a ∈ S, ∃ b ∈ S, cmm t e a b = z := by
  unfold cmL
  rw [List.mem_flatten]
  constructor
  · rintro ⟨l, hl, hz⟩
    obtain ⟨a, ha, rfl⟩ := List.mem_map.mp hl
    obtain ⟨b, hb, rfl⟩ := List.mem_map.mp hz
    exact ⟨a, ha, b, hb, rfl⟩
  · rintro ⟨a, ha, b, hb, rfl⟩
    exact ⟨_, List.mem_map.mpr ⟨a, ha, rfl⟩, List.mem_map.mpr ⟨b, hb, rfl⟩⟩
theorem img_mix (h : GTbl t e) (p : PartL t e P) (st : St t e P) : mixF (fdT t P) (hm t P e : Int) (irange (fdT t P).length) = imgF t P (mixF t e (irange t.length)) := by
  unfold mixF
  refine img_clo h p st (cmL_in h fun x hx => mem_irange.mp hx) fun i => ?_
  rw [mem_cmL]
  constructor
  · rintro ⟨a, ha, b, hb, rfl⟩
    obtain ⟨x, hx, rfl⟩ := hm_sur h p (mem_irange.mp ha)
    obtain ⟨y, hy, rfl⟩ := hm_sur h p (mem_irange.mp hb)
    exact ⟨_, mem_cmL.mpr ⟨x, mem_irange.mpr hx, y, mem_irange.mpr hy, rfl⟩, (hm_cmm h p st hx hy).symm⟩
  · rintro ⟨z, hz, rfl⟩
    obtain ⟨x, hx, y, hy, rfl⟩ := mem_cmL.mp hz
    have ix := mem_irange.mp hx
    have iy := mem_irange.mp hy
    exact ⟨_, mem_irange.mpr (hm_in h p ix), _, mem_irange.mpr (hm_in h p iy), hm_cmm h p st ix iy⟩
/-! ### tables told by one map -/
theorem tbl_ext {T1 T2 : Tbl} (s1 : SizeOk T1) (s2 : SizeOk T2) (hl : T1.length = T2.length) (he : ∀ i j, InT T1 i → InT T1 j → en T1 i j = en T2 i j) : T1 = T2 := by
  refine List.ext_getElem hl fun i h1 h2 => ?_
  have l1 := s1.2.2 _ (List.getElem_mem h1)
  have l2 := s2.2.2 _ (List.getElem_mem h2)
  refine List.ext_getElem (by omega) fun j k1 k2 => ?_
  have := he (i : Int) (j : Int) ⟨by omega, by omega⟩ ⟨by omega, by omega⟩
  have e1 : en T1 (i : Int) (j : Int) = T1[i][j] := by show gt (gt T1 (i : Int)) (j : Int) = _; rw [gt_nat h1, gt_nat k1]
  have e2 : en T2 (i : Int) (j : Int) = T2[i][j] := by show gt (gt T2 (i : Int)) (j : Int) = _; rw [gt_nat h2, gt_nat k2]
  rw [← e1, ← e2]
  exact this
theorem img_tbl {n : Int} {op : Int → Int → Int} {T1 T2 : Tbl} (f : Int → Int) (s1 : SizeOk T1) (s2 : SizeOk T2) (i1 : ∀ x, In n x → InT T1 (f x)) (i2 : ∀ x, In n x → InT T2 (f x)) (u1 : ∀ i, InT T1 i → ∃ x, In n x ∧ f x = i) (u2 : ∀ i, InT T2 i → ∃ x, In n x ∧ f x = i) (e1 : ∀ x y, In n x → In n y → en T1 (f x) (f y) = f (op x y)) (e2 : ∀ x y, In n x → In n y → en T2 (f x) (f y) = f (op x y)) : T1 = T2 := by
  have q : ∀ i, InT T1 i ↔ InT T2 i := fun i => ⟨fun a => by obtain ⟨x, hx, rfl⟩ := u1 i a; exact i2 x hx, fun a => by obtain ⟨x, hx, rfl⟩ := u2 i a; exact i1 x hx⟩
  have hl : T1.length = T2.length := by
    have n1 := s1.1
    have n2 := s2.1
    have a := ((q ((T1.length : Int) - 1)).mp ⟨by omega, by omega⟩).2
    have b := ((q ((T2.length : Int) - 1)).mpr ⟨by omega, by omega⟩).2
    omega
  refine tbl_ext s1 s2 hl fun i j hi hj => ?_
  obtain ⟨x, hx, rfl⟩ := u1 i hi
  obtain ⟨y, hy, rfl⟩ := u1 j hj
  rw [e1 x y hx hy, e2 x y hx hy]
/-! ### a steady part in a steady part -/
/-- the greater part's sides -/
theorem img_part (h : GTbl t e) (q : PartL t e Q) (sq : St t e Q) (p : PartL t e P) : PartL (fdT t Q) (hm t Q e : Int) (imgF t Q P) := by
  refine IsPart.partL (fdT_G h q sq) ⟨fun z => ?_, inc_img, fun i hi => ?_, fun i hi j hj => ?_⟩
  · have : (hm t Q e : Int) ∈ imgF t Q P := mem_img.mpr ⟨e, p.pt.one, rfl⟩
    rw [z] at this
    simp at this
  · obtain ⟨x, hx, rfl⟩ := mem_img.mp hi
    exact hm_in h q (p.pt.inn x hx)
  · obtain ⟨x, hx, rfl⟩ := mem_img.mp hi
    obtain ⟨y, hy, rfl⟩ := mem_img.mp hj
    rw [fdT_en h q sq (p.pt.inn x hx) (p.pt.inn y hy)]
    exact mem_img.mpr ⟨_, p.pt.mul x hx y hy, rfl⟩
theorem img_st (h : GTbl t e) (q : PartL t e Q) (sq : St t e Q) (p : PartL t e P) (sp : St t e P) : St (fdT t Q) (hm t Q e : Int) (imgF t Q P) := fun o ho i hi => by
  obtain ⟨x, hx, rfl⟩ := hm_sur h q ho
  obtain ⟨y, hy, rfl⟩ := mem_img.mp hi
  rw [hm_cj h q sq hx (p.pt.inn y hy)]
  exact mem_img.mpr ⟨_, sp x hx y hy, rfl⟩
/-- each thing is in the side of its side -/
theorem hm_hm (h : GTbl t e) (q : PartL t e Q) (sq : St t e Q) (p : PartL t e P) (hQ : ∀ x ∈ Q, x ∈ P) {x : Int} (hx : InT t x) : hm (fdT t Q) (imgF t Q P) (hm t Q x : Int) = hm t P x := by
  have G := fdT_G h q sq
  have r := img_part h q sq p
  refine fo_one (n := t.length) (f := fun x => hm (fdT t Q) (imgF t Q P) (hm t Q x : Int)) (g := hm t P) (fun x x0 x1 k hk => ?_) (hm_fo h p) (fun x y x0 x1 y0 y1 => ?_) t.length x hx.1 hx.2 hx.2
  · have ix : InT t x := ⟨x0, x1⟩
    have jx := hm_in h q ix
    obtain ⟨z, z0, z1, e1⟩ := hm_fo G r _ jx.1 jx.2 k hk
    obtain ⟨y, y0, y1, e2⟩ := hm_fo h q x x0 x1 z.toNat (by omega)
    refine ⟨y, y0, y1, ?_⟩
    show hm (fdT t Q) (imgF t Q P) (hm t Q y : Int) = k
    rw [e2, show ((z.toNat : Nat) : Int) = z by omega]
    exact e1
  · have ix : InT t x := ⟨x0, x1⟩
    have iy : InT t y := ⟨y0, y1⟩
    rw [hm_iff h p ix iy]
    show hm _ _ _ = hm _ _ _ ↔ _
    rw [hm_iff G r (hm_in h q ix) (hm_in h q iy)]
    constructor
    · rintro ⟨i, hi, e1⟩
      obtain ⟨z, hz, rfl⟩ := mem_img.mp hi
      have iz := p.pt.inn z hz
      rw [fdT_en h q sq iy iz] at e1
      obtain ⟨w, hw, e2⟩ := (hm_iff h q ix (h.cl iy iz)).mp (by omega)
      exact ⟨en t z w, p.pt.mul z hz w (hQ w hw), by rw [← e2, h.as iy iz (q.pt.inn w hw)]⟩
    · rintro ⟨z, hz, e1⟩
      have iz := p.pt.inn z hz
      exact ⟨_, mem_img.mpr ⟨z, hz, rfl⟩, by rw [fdT_en h q sq iy iz, e1]⟩
/-- the fold of the fold -/
theorem fd_fd (h : GTbl t e) (q : PartL t e Q) (sq : St t e Q) (p : PartL t e P) (sp : St t e P) (hQ : ∀ x ∈ Q, x ∈ P) : fdT (fdT t Q) (imgF t Q P) = fdT t P := by
  have G := fdT_G h q sq
  have r := img_part h q sq p
  have sr := img_st h q sq p sp
  refine img_tbl (n := t.length) (op := en t) (fun x => (hm t P x : Int)) (fdT_G G r sr).sz (fdT_G h p sp).sz (fun x hx => ?_) (fun x hx => hm_in h p hx) (fun i hi => ?_) (fun i hi => hm_sur h p hi) (fun x y hx hy => ?_) (fun x y hx hy => fdT_en h p sp hx hy)
  · show InT _ (hm t P x : Int)
    rw [← hm_hm h q sq p hQ hx]
    exact hm_in G r (hm_in h q hx)
  · obtain ⟨j, hj, rfl⟩ := hm_sur G r hi
    obtain ⟨x, hx, rfl⟩ := hm_sur h q hj
    exact ⟨x, hx, by rw [hm_hm h q sq p hQ hx]⟩
  · show en _ (hm t P x : Int) (hm t P y : Int) = (hm t P (en t x y) : Int)
    rw [← hm_hm h q sq p hQ hx, ← hm_hm h q sq p hQ hy, fdT_en G r sr (hm_in h q hx) (hm_in h q hy), fdT_en h q sq hx hy, hm_hm h q sq p hQ (h.cl hx hy)]
theorem fd_len (h : GTbl t e) (p : PartL t e P) : (fdT t P).length * P.length = t.length := by
  rw [fdT_len]
  exact sds_cnt h p
/-! ### the greater part's own group -/
/-- the lesser part's places in the greater one -/
def plF (P Q : List Int) : List Int := Q.map fun x => (ix P x : Int)
theorem ix_in {x : Int} (hx : x ∈ P) : InT (innT t P) (ix P x : Int) := ⟨by omega, by rw [innT_len]; have := ix_lt hx; omega⟩
theorem in_ix (p : PartL t e P) {i : Int} (hi : InT (innT t P) i) : gt P i ∈ P ∧ (ix P (gt P i) : Int) = i := by
  have := hi.2
  rw [innT_len] at this
  exact ⟨gt_mem hi.1 this, ix_gt p.pt.nd hi.1 this⟩
theorem inn_en (p : PartL t e P) {x y : Int} (hx : x ∈ P) (hy : y ∈ P) : en (innT t P) (ix P x : Int) (ix P y : Int) = (ix P (en t x y) : Int) := by
  have a := ix_lt hx
  have b := ix_lt hy
  rw [innT_en (by omega) (by omega) (by omega) (by omega), gt_ix hx, gt_ix hy]
/-- places rise with the things -/
theorem ix_mono (p : Inc P) {x y : Int} (hx : x ∈ P) (hy : y ∈ P) (q : x < y) : ix P x < ix P y := by
  rcases Nat.lt_trichotomy (ix P x) (ix P y) with c | c | c
  · exact c
  · have a := gt_ix hx
    rw [c, gt_ix hy] at a
    omega
  · have := List.pairwise_iff_getElem.mp p _ _ (ix_lt hy) (ix_lt hx) c
    have a := gt_ix hx
    have b := gt_ix hy
    rw [gt_nat (ix_lt hx)] at a
    rw [gt_nat (ix_lt hy)] at b
    omega
theorem pl_part (h : GTbl t e) (q : PartL t e Q) (p : PartL t e P) (hQ : ∀ x ∈ Q, x ∈ P) : PartL (innT t P) (ix P e : Int) (plF P Q) := by
  refine IsPart.partL (innT_G h p) ⟨fun z => ?_, ?_, fun i hi => ?_, fun i hi j hj => ?_⟩
  · have : (ix P e : Int) ∈ plF P Q := List.mem_map.mpr ⟨e, q.pt.one, rfl⟩
    rw [z] at this
    simp at this
  · unfold plF Inc
    rw [List.pairwise_map]
    refine List.Pairwise.imp_of_mem (fun {a b} ha hb hab => ?_) q.inc
    have := ix_mono p.inc (hQ a ha) (hQ b hb) hab
    omega
  · obtain ⟨x, hx, rfl⟩ := List.mem_map.mp hi
    exact ix_in (hQ x hx)
  · obtain ⟨x, hx, rfl⟩ := List.mem_map.mp hi
    obtain ⟨y, hy, rfl⟩ := List.mem_map.mp hj
    rw [inn_en p (hQ x hx) (hQ y hy)]
    exact List.mem_map.mpr ⟨_, q.pt.mul x hx y hy, rfl⟩
theorem pl_st (h : GTbl t e) (sq : St t e Q) (p : PartL t e P) (hQ : ∀ x ∈ Q, x ∈ P) : St (innT t P) (ix P e : Int) (plF P Q) := fun o ho i hi => by
  obtain ⟨mo, eo⟩ := in_ix p ho
  obtain ⟨x, hx, rfl⟩ := List.mem_map.mp hi
  rw [← eo]
  unfold cj
  have b := p.bk h mo
  rw [innT_bk h p mo, inn_en p mo (hQ x hx), inn_en p (p.pt.mul _ mo _ (hQ x hx)) b]
  exact List.mem_map.mpr ⟨_, sq _ (p.pt.inn _ mo) x hx, rfl⟩
/-- the side in the own group is the place of the side among the greater part's sides -/
theorem hm_pl (h : GTbl t e) (q : PartL t e Q) (sq : St t e Q) (p : PartL t e P) (hQ : ∀ x ∈ Q, x ∈ P) {i : Int} (hi : InT (innT t P) i) : hm (innT t P) (plF P Q) i = ix (imgF t Q P) (hm t Q (gt P i) : Int) := by
  have G := innT_G h p
  have r := pl_part h q p hQ
  have mi : ∀ {i : Int}, InT (innT t P) i → (hm t Q (gt P i) : Int) ∈ imgF t Q P := fun {i} hi => mem_img.mpr ⟨_, (in_ix p hi).1, rfl⟩
  refine fo_one (n := (innT t P).length) (f := hm (innT t P) (plF P Q)) (g := fun i => ix (imgF t Q P) (hm t Q (gt P i) : Int)) (hm_fo G r) (fun i i0 i1 k hk => ?_) (fun i j i0 i1 j0 j1 => ?_) (innT t P).length i hi.1 hi.2 hi.2
  · have ii : InT (innT t P) i := ⟨i0, i1⟩
    obtain ⟨m1, e1⟩ := in_ix p ii
    have mR := mi ii
    have hR := ix_lt mR
    have hk' : k < (imgF t Q P).length := Nat.lt_trans hk hR
    obtain ⟨z, hz, e2⟩ := mem_img.mp (List.getElem_mem hk')
    have iz := p.pt.inn z hz
    have lt : (imgF t Q P)[k] < (hm t Q (gt P i) : Int) := by
      have a := List.pairwise_iff_getElem.mp (inc_img (t := t) (P := Q) (S := P)) k _ hk' hR hk
      have b := gt_ix mR
      rw [gt_nat hR] at b
      omega
    obtain ⟨y, y0, y1, e3⟩ := hm_fo h q (gt P i) (p.pt.inn _ m1).1 (p.pt.inn _ m1).2 (hm t Q z) (by omega)
    have iy : InT t y := ⟨y0, by have := (p.pt.inn _ m1).2; omega⟩
    obtain ⟨w, hw, e4⟩ := (hm_iff h q iy iz).mp e3
    have hy : y ∈ P := by rw [← e4]; exact p.pt.mul z hz w (hQ w hw)
    refine ⟨(ix P y : Int), by omega, ?_, ?_⟩
    · have := ix_mono p.inc hy m1 y1
      omega
    · show ix (imgF t Q P) (hm t Q (gt P (ix P y : Int)) : Int) = k
      rw [gt_ix hy, e3, e2]
      have := ix_gt (inc_nodup (inc_img (t := t) (P := Q) (S := P))) (i := (k : Int)) (by omega) (by omega)
      rw [gt_nat hk'] at this
      omega
  · have ii : InT (innT t P) i := ⟨i0, i1⟩
    have jj : InT (innT t P) j := ⟨j0, j1⟩
    obtain ⟨m1, e1⟩ := in_ix p ii
    obtain ⟨m2, e2⟩ := in_ix p jj
    rw [hm_iff G r ii jj]
    show _ ↔ ix (imgF t Q P) (hm t Q (gt P i) : Int) = ix (imgF t Q P) (hm t Q (gt P j) : Int)
    have e3 : ix (imgF t Q P) (hm t Q (gt P i) : Int) = ix (imgF t Q P) (hm t Q (gt P j) : Int) ↔ hm t Q (gt P i) = hm t Q (gt P j) := by
      constructor
      · intro c
        have a := gt_ix (mi ii)
        rw [c, gt_ix (mi jj)] at a
        omega
      · intro c; rw [c]
    rw [e3, hm_iff h q (p.pt.inn _ m1) (p.pt.inn _ m2)]
    constructor
    · rintro ⟨k, hk, e4⟩
      obtain ⟨z, hz, rfl⟩ := List.mem_map.mp hk
      refine ⟨z, hz, ?_⟩
      rw [← e2, inn_en p m2 (hQ z hz)] at e4
      rw [← e1] at e4
      have a := gt_ix m1
      rw [← e4] at a
      rw [gt_ix (p.pt.mul _ m2 z (hQ z hz))] at a
      exact a
    · rintro ⟨z, hz, e4⟩
      refine ⟨_, List.mem_map.mpr ⟨z, hz, rfl⟩, ?_⟩
      rw [← e2, inn_en p m2 (hQ z hz), e4, e1]
/-- the greater part's own group, folded by the lesser, is the own group of the greater part's sides -/
theorem fd_inn (h : GTbl t e) (q : PartL t e Q) (sq : St t e Q) (p : PartL t e P) (sp : St t e P) (hQ : ∀ x ∈ Q, x ∈ P) : fdT (innT t P) (plF P Q) = innT (fdT t Q) (imgF t Q P) := by
  have G := innT_G h p
  have r := pl_part h q p hQ
  have sr := pl_st h sq p hQ
  have F := fdT_G h q sq
  have m := img_part h q sq p
  have mi : ∀ {i : Int}, InT (innT t P) i → (hm t Q (gt P i) : Int) ∈ imgF t Q P := fun {i} hi => mem_img.mpr ⟨_, (in_ix p hi).1, rfl⟩
  refine img_tbl (n := (innT t P).length) (op := en (innT t P)) (fun i => (hm (innT t P) (plF P Q) i : Int)) (fdT_G G r sr).sz (innT_G F m).sz (fun i hi => hm_in G r hi) (fun i hi => ?_) (fun i hi => hm_sur G r hi) (fun k hk => ?_) (fun i j hi hj => fdT_en G r sr hi hj) (fun i j hi hj => ?_)
  · show InT _ (hm _ _ i : Int)
    rw [hm_pl h q sq p hQ hi]
    exact ix_in (mi hi)
  · obtain ⟨a, b⟩ := in_ix m hk
    obtain ⟨x, hx, e1⟩ := mem_img.mp a
    refine ⟨(ix P x : Int), ix_in hx, ?_⟩
    show (hm _ _ _ : Int) = k
    rw [hm_pl h q sq p hQ (ix_in hx), gt_ix hx, e1, b]
  · show en _ (hm _ _ i : Int) (hm _ _ j : Int) = (hm _ _ _ : Int)
    obtain ⟨m1, e1⟩ := in_ix p hi
    obtain ⟨m2, e2⟩ := in_ix p hj
    rw [hm_pl h q sq p hQ hi, hm_pl h q sq p hQ hj, hm_pl h q sq p hQ (G.cl hi hj), inn_en m (mi hi) (mi hj), fdT_en h q sq (p.pt.inn _ m1) (p.pt.inn _ m2)]
    have e3 : gt P (en (innT t P) i j) = en t (gt P i) (gt P j) := by
      have : en (innT t P) i j = (ix P (en t (gt P i) (gt P j)) : Int) := by
        rw [← inn_en p m1 m2, e1, e2]
      rw [this, gt_ix (p.pt.mul _ m1 _ m2)]
    rw [e3]
/-! ### the chain -/
/-- steady parts, each in the next -/
structure ChnOk (t : Tbl) (e : Int) (L : List (List Int)) : Prop where
  prt : ∀ C ∈ L, PartL t e C ∧ St t e C
  sub : ∀ k (h : k + 1 < L.length), ∀ x ∈ L[k], x ∈ L[k + 1]
theorem chn_one (h : GTbl t e) : ChnOk t e [[e]] := by
  refine ⟨fun C hC => ?_, fun k hk => by simp at hk⟩
  have : C = [e] := by simpa using hC
  subst this
  have p : IsPart t [e] := ⟨by simp, List.pairwise_singleton _ _, fun x hx => by
    have : x = e := by simpa using hx
    rw [this]; exact h.he, fun x hx y hy => by
    have e1 : x = e := by simpa using hx
    have e2 : y = e := by simpa using hy
    rw [e1, e2, h.u1 h.he]; simp⟩
  refine ⟨p.partL h, fun o ho x hx => ?_⟩
  have : x = e := by simpa using hx
  rw [this]
  unfold cj
  rw [h.u2 ho, bk_l h ho]
  simp
/-- what a steady part makes with a thing and all into which it is turned -/
theorem chn_next (h : GTbl t e) (p : PartL t e P) (sp : St t e P) {a : Int} (ha : InT t a) {S : List Int} (hS : ∀ z, z ∈ S ↔ z ∈ P ∨ ∃ o, InT t o ∧ cj t e o a = z) : (∀ y ∈ S, InT t y) ∧ PartL t e (clo t e S) ∧ St t e (clo t e S) ∧ ∀ x ∈ P, x ∈ clo t e S := by
  have hs : ∀ y ∈ S, InT t y := fun y hy => by
    rcases (hS y).mp hy with q | ⟨o, ho, rfl⟩
    · exact p.pt.inn y q
    · exact cj_in h ho ha
  have cjS : ∀ o, InT t o → ∀ y ∈ S, cj t e o y ∈ S := fun o ho y hy => by
    rcases (hS y).mp hy with q | ⟨b, hb, rfl⟩
    · exact (hS _).mpr (.inl (sp o ho y q))
    · exact (hS _).mpr (.inr ⟨en t o b, h.cl ho hb, (cj_mul h ho hb ha).symm⟩)
  refine ⟨hs, clo_part h hs, fun o ho x hx => ?_, fun x hx => (mem_clo h hs).mpr (reach_some h hs ((hS x).mpr (.inl hx)))⟩
  have rx := (mem_clo h hs).mp hx
  refine (mem_clo h hs).mpr ?_
  induction rx with
  | one =>
    unfold cj
    rw [h.u2 ho, bk_l h ho]
    exact .one
  | @step x y r hy ih =>
    have ix := reach_in h hs r
    have iy := hs y hy
    have ib := bk_in h ho
    have e1 : cj t e o (en t x y) = en t (cj t e o x) (cj t e o y) := by
      unfold cj
      rw [h.as (h.cl ho ix) ib (h.cl (h.cl ho iy) ib), ← h.as ib (h.cl ho iy) ib, ← h.as ib ho iy, bk_r h ho, h.u1 iy, ← h.as (h.cl ho ix) iy ib, h.as ho ix iy]
    rw [e1]
    exact .step (ih ((mem_clo h hs).mpr r)) (cjS o ho y hy)
theorem chn_app {L : List (List Int)} (h : ChnOk t e L) {C : List Int} (p : PartL t e C) (st : St t e C) (hl : 0 < L.length) (hs : ∀ x ∈ gt L ((L.length : Int) - 1), x ∈ C) : ChnOk t e (L ++ [C]) := by
  refine ⟨fun D hD => ?_, fun k hk x hx => ?_⟩
  · rcases List.mem_append.mp hD with q | q
    · exact h.prt D q
    · have : D = C := by simpa using q
      rw [this]; exact ⟨p, st⟩
  · have hk' : k < L.length := by simpa using hk
    rw [List.getElem_append_left hk'] at hx
    by_cases c : k + 1 < L.length
    · rw [List.getElem_append_left c]
      exact h.sub k c x hx
    · have e1 : k = L.length - 1 := by omega
      have e2 : (L ++ [C])[k + 1]'hk = C := by
        rw [List.getElem_append_right (by omega)]
        simp
      rw [e2]
      refine hs x ?_
      rw [show ((L.length : Int) - 1) = ((k : Nat) : Int) by omega, gt_nat hk']
      exact hx
end
end TB

/-! ### l_chain -/
namespace TB
open PySem L2
--use TbFof
def T_l_chain : Tm := tm2 fun (t : Tbl) (cs : List Int) ok _ => ∃ e, GTbl t e ∧ cs.length ≤ 64 ∧ ∀ L, ChnOk t e L → 0 < L.length → L.length ≤ 65 → ok (.ol L)
def t_l_chain (Z : Zz) (X : WX) : TS :=
  (tSeq (tAsg (tCallSD (spOf Z T_l_backs) [] (WE X) (tCons (tVar 0) tNil)) (gName 2))
  (tSeq (tAsg (tLst (tCons (tLst (tCons (tCallSD (spOf Z T_l_one) [] (WE X) (tCons (tVar 0) tNil)) tNil)) tNil)) (gName 3))
  (tSeq (tFor (iList Z.K (tVar 1)) (gName 4)
  (tSeq (tAsg (tCallSD (spOf Z T_l_thing) [] (WE X) (tCons (tVar 4) (tCons (tC (.int 1)) (tCons (tCB (gLen Z.K) (tCons (tVar 0) tNil)) tNil)))) (gName 5))
  (tSeq (tAsg (tCB (gList Z.K) (tCons (tOp (gIx Z.K) (tVar 3) (tUn uNeg (tC (.int 1)))) tNil)) (gName 6))
  (tSeq (tFor (iRng1 (tCons (tCB (gLen Z.K) (tCons (tVar 0) tNil)) tNil)) (gName 7)
  (tDrop (tBM Z.K "list" rAppend (tVar 6) (tCons (tOp (gIx Z.K) (tOp (gIx Z.K) (tVar 0) (tOp (gIx Z.K) (tOp (gIx Z.K) (tVar 0) (tVar 7)) (tVar 5))) (tOp (gIx Z.K) (tVar 2) (tVar 7))) tNil))))
  (tIfS (tTest (tOp (gNotIn Z.K) (tVar 5) (tOp (gIx Z.K) (tVar 3) (tUn uNeg (tC (.int 1))))))
  (tDrop (tBM Z.K "list" rAppend (tVar 3) (tCons (tCallSD (spOf Z T_l_closed) [] (WE X) (tCons (tVar 0) (tCons (tSortedSet Z.K (tVar 6)) tNil))) tNil)))
  tNext)))))
  (tRet (tVar 3)))))
theorem w_l_chain (Z : Zz) (X : WX) (ss : List Sl) (ok : Sl → Prop) (er : Rf → Prop) (h : T_l_chain ss ok er) : WF Z X er (ss ++ List.replicate (8 - ss.length) .un) (t_l_chain Z X) ok := by
  obtain ⟨t, cs, rfl, e, hG, hc, k⟩ := h
  show W _ [.im t, .im cs, .un, .un, .un, .un, .un, .un] _ _
  unfold t_l_chain
  have hl := hG.sz.2.1
  have hl1 := hG.sz.1
  refine w_seq (w_asg (s := .im ((irange t.length).map (bkf t e))) (ev_callN (ea_cons (ev_var rfl) ea_nil) ⟨_, rfl, e, hG, rfl⟩) ?_)
  walk_at "nz"
  refine w_seq (w_asg (s := .ol [[e]]) (ev_lstH (evh_cons (ev_fr (ev_lstH (evh_cons (ev_callN (s := .im e) (ea_cons (ev_var rfl) ea_nil) ⟨_, rfl, e, hG, rfl⟩) evh_nil) (by simp))) evh_nil) (by simp)) ?_)
  walk_at "nz"
  have lb : ((irange t.length).map (bkf t e)).length = t.length := by rw [List.length_map, irange_len]; omega
  refine w_seq (w_forL (xs := cs) (fun i G => ∃ (L : List (List Int)) (s4 s5 s6 s7 : Sl), G = [.im t, .im cs, .im ((irange t.length).map (bkf t e)), .ol L, s4, s5, s6, s7] ∧ ChnOk t e L ∧ 0 < L.length ∧ L.length ≤ i + 1) (ev_var rfl) ⟨_, _, _, _, _, rfl, chn_one hG, by simp, by simp⟩ ?_ ?_)
  · rintro i G hi ⟨L, s4, s5, s6, s7, rfl, hL, h0, h1⟩
    walk_at "nz"
    generalize cs[i] = x
    refine w_seq (w_asg (s := .im (thingOf x 1 t.length)) (ev_callN (ea_cons (ev_var rfl) (ea_cons ev_int (ea_cons (ev_len (ev_var rfl)) ea_nil))) ⟨_, _, _, rfl, by decide, by decide, by omega, rfl⟩) ?_)
    have ha : InT t (thingOf x 1 t.length) := thing_in (by omega)
    generalize thingOf x 1 t.length = a at ha ⊢
    walk_at "nz"
    obtain ⟨p, sp⟩ := hL.prt _ (gt_mem (xs := L) (i := (L.length : Int) - 1) (by omega) (by omega))
    have hA : ∀ C, PartL t e C → St t e C → (∀ x ∈ gt L ((L.length : Int) - 1), x ∈ C) → ChnOk t e (L ++ [C]) := fun C q sq hs => chn_app hL q sq h0 hs
    have last : ∀ {c : Cn} {G : List Sl}, G[3]? = some (.ol L) → Ev c G (tOp (gIx c.Z.K) (tVar 3) (tUn uNeg (tC (.int 1)))) (.im (gt L ((L.length : Int) - 1))) := fun hg => ev_ixOL hg (ev_neg ev_int) rfl h0
    generalize gt L ((L.length : Int) - 1) = P at p sp hA last
    have pl := p.len
    refine w_seq (w_asg (s := .ol P) (ev_list (last rfl)) ?_)
    walk_at "nz"
    refine w_seq (w_forR (n := (t.length : Int)) (fun j G => ∃ s7 : Sl, G = [.im t, .im cs, .im ((irange t.length).map (bkf t e)), .ol L, .im x, .im a, .ol (P ++ (irange (j : Int)).map fun o => cj t e o a), s7]) (ev_len (ev_var rfl)) (by omega) (by omega) ⟨s7, by simp [irange_0]⟩ ?_ ?_)
    · rintro j G hj ⟨s7, rfl⟩
      walk_at "nz"
      have hj' : InT t (j : Int) := ⟨by omega, by omega⟩
      have ic := hG.cl hj' ha
      have ib := bk_in hG hj'
      have es : (P ++ (irange ((j + 1 : Nat) : Int)).map fun o => cj t e o a) = (P ++ (irange (j : Int)).map fun o => cj t e o a) ++ [cj t e (j : Int) a] := by
        rw [show ((j + 1 : Nat) : Int) = (j : Int) + 1 by omega, irange_suc (by omega), List.map_append, List.append_assoc]; rfl
      rw [es]
      refine w_app rfl (ev_ix (ev_ix (ev_var rfl) (ev_ix (ev_ix (ev_var rfl) (ev_var rfl) hj'.1 hj'.2) (ev_var rfl) ha.1 (by rw [hG.row hj']; exact ha.2)) ic.1 ic.2) (ev_to (ev_ix (ev_var rfl) (ev_var rfl) hj'.1 (by rw [lb]; exact hj'.2)) (gt_map hj'.1 hj'.2)) ib.1 (by rw [hG.row ic]; exact ib.2)) (by simp [irange_len]; omega) ⟨_, rfl⟩
    · rintro G ⟨s7, rfl⟩
      simp only [Int.toNat_natCast]
      refine w_if (b := !decide (a ∈ P)) (et_test (ev_notInL (ev_var rfl) (last rfl))) (fun hb => ?_) (fun hb => w_next ⟨_, _, _, _, _, rfl, hL, h0, by omega⟩)
      refine w_fr 6 rfl ?_
      walk_at "nz"
      have hS : ∀ z, z ∈ uset (P ++ (irange t.length).map fun o => cj t e o a) ↔ z ∈ P ∨ ∃ o, InT t o ∧ cj t e o a = z := fun z => by
        rw [mem_uset, List.mem_append, List.mem_map]
        constructor
        · rintro (q | ⟨o, ho, q⟩)
          · exact .inl q
          · exact .inr ⟨o, mem_irange.mp ho, q⟩
        · rintro (q | ⟨o, ho, q⟩)
          · exact .inl q
          · exact .inr ⟨o, mem_irange.mpr ho, q⟩
      obtain ⟨hs, q, sq, sub⟩ := chn_next hG p sp ha hS
      have ul := uset_len (P ++ (irange t.length).map fun o => cj t e o a)
      have ml : (P ++ (irange t.length).map fun o => cj t e o a).length < 64 := by rw [List.length_append, List.length_map, irange_len]; omega
      exact w_app (y := clo t e (uset (P ++ (irange t.length).map fun o => cj t e o a))) rfl (ev_fr (ev_callN (s := .ol (clo t e (uset (P ++ (irange t.length).map fun o => cj t e o a)))) (ea_cons (ev_var rfl) (ea_cons (ev_fr (ev_uset (ev_var rfl) ml)) ea_nil)) ⟨_, _, rfl, e, hG, hs, by omega, rfl⟩)) (by omega) ⟨_, _, _, _, _, rfl, hA _ q sq sub, by simp, by simp; omega⟩
  · rintro G ⟨L, s4, s5, s6, s7, rfl, hL, h0, h1⟩
    exact w_retO val_ol rfl (k L hL h0 (by omega))
end TB

/-! ### l_through -/
namespace TB
open PySem L2
--use TbFof
def T_l_through : Tm := tm2 fun (H S : List Int) ok _ => S.length < 64 ∧ (∀ x ∈ S, 0 ≤ x ∧ x < H.length) ∧ ok (.ol (uset (S.map fun x => gt H x)))
def t_l_through (Z : Zz) (X : WX) : TS :=
  (tRet (tSortedSet Z.K (tLc (iList Z.K (tVar 1)) (gName 2) tYes (tOp (gIx Z.K) (tVar 0) (tVar 2)) [2])))
theorem w_l_through (Z : Zz) (X : WX) (ss : List Sl) (ok : Sl → Prop) (er : Rf → Prop) (h : T_l_through ss ok er) : WF Z X er (ss ++ List.replicate (3 - ss.length) .un) (t_l_through Z X) ok := by
  obtain ⟨H, S, rfl, hl, hs, k⟩ := h
  show W _ [.im H, .im S, .un] _ _
  unfold t_l_through
  refine w_ret (ev_uset (ev_frI ?hh) (by rw [List.length_map]; exact hl)) k
  case hh => exact ev_mapL (xs := S) (fun x => gt H x) (ev_var rfl) (by omega) (by simp) ⟨.inl rfl, trivial⟩ fun x hx => ev_ix (ev_var rfl) (ev_var rfl) (hs x hx).1 (hs x hx).2
end TB

/-! TbNin: `x not in` a list of lists. -/
namespace TB
open PySem L2
def gNinD (K : PySem.W.Frag) : R2 := fun x y H Q => ∃ d ds, Dp K H x d ∧ Dp K H y (.list ds) ∧ d.canLay0 = true ∧ PyData.canLayAll0 ds = true ∧ d.depth ≤ 63 ∧ Q (.bl (!ds.any fun y => PyData.eqv y d)) H
theorem go_ninD {X : Cx} (hu : X.A.units + 64 < cLine) : OpR X (compareOp .NotIn) (gNinD X.K) := by
  intro pins s σ H x y v u Q I rx ry h
  obtain ⟨d, ds, hd, hs, c1, c2, hdep, q⟩ := h
  obtain ⟨as, r1⟩ := Dp.reads I d x v hd rx
  obtain ⟨bs, r2⟩ := Dp.reads I _ y u hs ry
  exact SeqAt.notIn_list_reads r2 r1 c2 c1 (by have := Nat.min_le_right (PyData.depthAll ds) d.depth; omega) ⟨.bl _, H, I, rfl, q⟩
section
variable {c : Cn} {Γ : List Sl} {ta tb : TE} {α : Type}
theorem any_dec [Pd α] [DecidableEq α] (x : α) : ∀ xs : List α, ((xs.map Pd.py).any fun y => PyData.eqv y (Pd.py x)) = decide (x ∈ xs)
  | [] => rfl
  | y :: r => by
    rw [List.map_cons, List.any_cons, any_dec x r, eqv_dec]
    by_cases h : y = x
    · simp [h]
    · have h' : ¬ x = y := fun z => h z.symm
      simp [h, h']
theorem can_all [Pd α] (xs : List α) : PyData.canLayAll0 (xs.map Pd.py) = true := by
  have := Pd.can (α := List α) xs
  have e : (Pd.py xs : PyData) = .list (xs.map Pd.py) := rfl
  rw [e, PyData.canLay0] at this
  exact this
theorem ev_ninD [Pd α] [DecidableEq α] {x : α} {xs : List α} (ha : Ev c Γ ta (.im x)) (hb : Ev c Γ tb (.im xs)) (hd : Pd.dep α ≤ 63) : Ev c Γ (tOp (gNinD c.Z.K) ta tb) (.im (!decide (x ∈ xs))) := ev_opv ha hb fun R H v w sm rv rw => ⟨.bl _, rfl, fun Q q =>
  ⟨Pd.py x, xs.map Pd.py, Pd.dp (Rp.mono sm rv), Pd.dp (α := List α) (Rp.mono sm rw), Pd.can x, can_all xs, Nat.le_trans (Pd.low x) hd, by rw [any_dec]; exact q⟩⟩
end
end TB

/-! ### l_twice -/
namespace TB
open PySem L2
--use TbFof
--use TbNin
--use TbPr
--use TbM
def T_l_twice : Tm := tm3 fun (g : Grp) (Q P : List Int) ok _ => ∃ t e, GTbl t e ∧ g = grpOf t e ∧ PartL t e Q ∧ St t e Q ∧ PartL t e P ∧ St t e P ∧ (∀ x ∈ Q, x ∈ P) ∧ ok (.im true)
def t_l_twice (Z : Zz) (X : WX) : TS :=
  (tSeq (tAsg (tCallSD (spOf Z T_folded) [] (WE X) (tCons (tVar 0) (tCons (tCB (gList Z.K) (tCons (tVar 2) tNil)) tNil))) (gTup Z.K 2 (gCons (gName 3) (gCons (gName 4) gNil))))
  (tSeq (tAsg (tCallSD (spOf Z T_folded) [] (WE X) (tCons (tVar 0) (tCons (tCB (gList Z.K) (tCons (tVar 1) tNil)) tNil))) (gTup Z.K 2 (gCons (gName 5) (gCons (gName 6) gNil))))
  (tSeq (tAsg (tCallSD (spOf Z T_l_through) [] (WE X) (tCons (tVar 6) (tCons (tVar 2) tNil))) (gName 7))
  (tSeq (tAsg (tCallSD (spOf Z T_folded) [] (WE X) (tCons (tVar 5) (tCons (tCB (gList Z.K) (tCons (tVar 7) tNil)) tNil))) (gTup Z.K 2 (gCons (gName 8) (gCons (gName 9) gNil))))
  (tSeq (tIfS (tOr (tTest (tOp (gNe Z.K) (tFld Z.K (tVar 8) "rows") (tFld Z.K (tVar 3) "rows"))) (tTest (tOp (gNe Z.K) (tLc (iList Z.K (tVar 6)) (gName 11) tYes (tOp (gIx Z.K) (tVar 9) (tVar 11)) [11]) (tVar 4))))
  (tRet (tC (.bl false)))
  tNext)
  (tSeq (tAsg (tOp (gIx Z.K) (tCallSD (spOf Z T_folded) [] (WE X) (tCons (tCallSD (spOf Z T_inner) [] (WE X) (tCons (tVar 0) (tCons (tCB (gList Z.K) (tCons (tVar 2) tNil)) tNil))) (tCons (tLc (iList Z.K (tVar 1)) (gName 12) tYes (tBM Z.K "list" (rIndex Z.K) (tVar 2) (tCons (tVar 12) tNil)) [12]) tNil))) (tC (.int 0))) (gName 10))
  (tSeq (tIfS (tOr (tTest (tOp (gNe Z.K) (tOp gMul (tFld Z.K (tVar 3) "many") (tCB (gLen Z.K) (tCons (tVar 2) tNil))) (tFld Z.K (tVar 0) "many"))) (tTest (tOp (gNe Z.K) (tOp gMul (tFld Z.K (tVar 10) "many") (tCB (gLen Z.K) (tCons (tVar 1) tNil))) (tCB (gLen Z.K) (tCons (tVar 2) tNil)))))
  (tRet (tC (.bl false)))
  tNext)
  (tRet (tOp (gEq Z.K) (tFld Z.K (tVar 10) "rows") (tFld Z.K (tCallSD (spOf Z T_inner) [] (WE X) (tCons (tVar 5) (tCons (tVar 7) tNil))) "rows"))))))))))
theorem w_l_twice (Z : Zz) (X : WX) (ss : List Sl) (ok : Sl → Prop) (er : Rf → Prop) (h : T_l_twice ss ok er) : WF Z X er (ss ++ List.replicate (13 - ss.length) .un) (t_l_twice Z X) ok := by
  obtain ⟨g, Q, P, rfl, t, e, hG, rfl, q, sq, p, sp, hQ, k⟩ := h
  show W _ [.im (grpOf t e), .im Q, .im P, .un, .un, .un, .un, .un, .un, .un, .un, .un, .un] _ _
  unfold t_l_twice
  have hl := hG.sz.2.1
  have pl := p.len
  have ql := q.len
  have fP := fdT_G hG p sp
  have fQ := fdT_G hG q sq
  have flQ := fQ.sz.2.1
  have r := img_part hG q sq p
  have sr := img_st hG q sq p sp
  have rl := r.len
  have lQ : (hmL t Q).length = t.length := by unfold hmL; rw [List.length_map, irange_len]; omega
  have gQ : ∀ x, InT t x → gt (hmL t Q) x = (hm t Q x : Int) := fun x hx => gt_map hx.1 hx.2
  have lR : (hmL (fdT t Q) (imgF t Q P)).length = (fdT t Q).length := by unfold hmL; rw [List.length_map, irange_len]; omega
  have eR : fdT (fdT t Q) (imgF t Q P) = fdT t P := fd_fd hG q sq p sp hQ
  have eI : (uset (P.map fun x => gt (hmL t Q) x)) = imgF t Q P := by
    unfold imgF
    congr 1
    exact List.map_congr_left fun x hx => gQ x (p.pt.inn x hx)
  have hQi : ∀ y ∈ hmL t Q, 0 ≤ y ∧ y < (hmL (fdT t Q) (imgF t Q P)).length := fun y hy => by
    obtain ⟨x, hx, rfl⟩ := List.mem_map.mp hy
    have := hm_in hG q (mem_irange.mp hx)
    exact ⟨this.1, by rw [lR]; exact this.2⟩
  have eH : (hmL t Q).map (fun y => gt (hmL (fdT t Q) (imgF t Q P)) y) = hmL t P := by
    unfold hmL
    rw [List.map_map]
    refine List.map_congr_left fun x hx => ?_
    have ix := mem_irange.mp hx
    have jx := hm_in hG q ix
    have := hm_hm hG q sq p hQ ix
    show gt ((irange (fdT t Q).length).map _) (hm t Q x : Int) = _
    rw [gt_map jx.1 jx.2, this]
  have iG := innT_G hG p
  have pp := pl_part hG q p hQ
  have ps := pl_st hG sq p hQ
  have ppl := pp.len
  have eN : fdT (innT t P) (plF P Q) = innT (fdT t Q) (imgF t Q P) := fd_inn hG q sq p sp hQ
  have c1 := fd_len hG p
  have c2 := fd_len iG pp
  rw [innT_len] at c2
  have c3 : (plF P Q).length = Q.length := List.length_map ..
  rw [c3] at c2
  have c1' : ((fdT t P).length : Int) * (P.length : Int) = (t.length : Int) := by rw [← c1]; simp
  have c2' : ((fdT (innT t P) (plF P Q)).length : Int) * (Q.length : Int) = (P.length : Int) := by rw [← c2]; simp
  have iPl : (innT t P).length = P.length := innT_len
  have f1 := fP.sz.2.1
  have f2 := (fdT_G iG pp ps).sz.2.1
  have many : ∀ {c : Cn} {G : List Sl} {i : Nat} {t : Tbl} {e : Int}, G[i]? = some (.im (grpOf t e)) → Ev c G (tFld c.Z.K (tVar i) "many") (.im (t.length : Int)) := fun {c G i t e} h => ev_many (g := grpOf t e) (ev_var h)
  refine w_seq (w_asgPr (s1 := .im (grpOf (fdT t P) (hm t P e : Int))) (s2 := .ol (hmL t P)) (ev_callN (ea_cons (ev_var rfl) (ea_cons (ev_fr (ev_list (ev_var rfl))) ea_nil)) ⟨_, _, rfl, t, e, hG, rfl, by omega, fun z => absurd p.isPart z, fun _ => ⟨(fun o x q => by rw [st_woF sp] at q; cases q), fun _ => rfl⟩⟩) ?_)
  refine w_fr 4 rfl ?_
  walk_at "nz"
  refine w_seq (w_asgPr (s1 := .im (grpOf (fdT t Q) (hm t Q e : Int))) (s2 := .ol (hmL t Q)) (ev_callN (ea_cons (ev_var rfl) (ea_cons (ev_fr (ev_list (ev_var rfl))) ea_nil)) ⟨_, _, rfl, t, e, hG, rfl, by omega, fun z => absurd q.isPart z, fun _ => ⟨(fun o x q => by rw [st_woF sq] at q; cases q), fun _ => rfl⟩⟩) ?_)
  refine w_fr 6 rfl ?_
  walk_at "nz"
  refine w_seq (w_asg (s := .ol (imgF t Q P)) (ev_callN (ea_cons (ev_var rfl) (ea_cons (ev_var rfl) ea_nil)) ⟨_, _, rfl, by omega, fun x hx => ⟨(p.pt.inn x hx).1, by rw [lQ]; exact (p.pt.inn x hx).2⟩, by rw [eI]⟩) ?_)
  refine w_fr 7 rfl ?_
  walk_at "nz"
  refine w_seq (w_asgPr (s1 := .im (grpOf (fdT (fdT t Q) (imgF t Q P)) (hm (fdT t Q) (imgF t Q P) (hm t Q e : Int) : Int))) (s2 := .ol (hmL (fdT t Q) (imgF t Q P))) (ev_callN (ea_cons (ev_var rfl) (ea_cons (ev_fr (ev_list (ev_var rfl))) ea_nil)) ⟨_, _, rfl, _, _, fQ, rfl, by omega, fun z => absurd r.isPart z, fun _ => ⟨(fun o x q => by rw [st_woF sr] at q; cases q), fun _ => rfl⟩⟩) ?_)
  refine w_fr 9 rfl ?_
  walk_at "nz"
  rw [eR]
  generalize hmL (fdT t Q) (imgF t Q P) = A at lR hQi eH ⊢
  have comp : ∀ {c : Cn} {G : List Sl}, G[9]? = some (.im A) → Ev c [.im (grpOf t e), .im Q, .im P, .im (grpOf (fdT t P) (hm t P e : Int)), .im (hmL t P), .im (grpOf (fdT t Q) (hm t Q e : Int)), .im (hmL t Q), .im (imgF t Q P), .im (grpOf (fdT t P) (hm (fdT t Q) (imgF t Q P) (hm t Q e : Int) : Int)), .im A, .un, .un, .un] (tLc (iList c.Z.K (tVar 6)) (gName 11) tYes (tOp (gIx c.Z.K) (tVar 9) (tVar 11)) [11]) (.ol ((hmL t Q).map fun y => gt A y)) := fun _ => ev_mapL (xs := hmL t Q) (fun y => gt A y) (ev_var rfl) (by omega) (by simp) ⟨.inl rfl, trivial⟩ fun y hy => ev_ix (ev_var rfl) (ev_var rfl) (hQi y hy).1 (hQi y hy).2
  refine w_seq (w_if (b := false) (et_to (et_or (et_test (ev_neLL (ev_rows (g := grpOf _ _) (ev_var rfl)) (ev_rows (g := grpOf _ _) (ev_var rfl)))) fun _ => et_test (ev_neL (ev_fr (comp (G := [.un, .un, .un, .un, .un, .un, .un, .un, .un, .im A]) rfl)) (ev_var rfl))) (by simp [eH, grpOf])) (fun z => nomatch z) (fun _ => w_next ?_))
  refine w_seq (w_asg (s := .im (grpOf (fdT (innT t P) (plF P Q)) (hm (innT t P) (plF P Q) (ix P e : Int) : Int))) (ev_prT1 (s2 := .ol (hmL (innT t P) (plF P Q))) (ev_callN (ea_cons (ev_frF (d := grpOf (innT t P) (ix P e : Int)) (ev_callN (ea_cons (ev_var rfl) (ea_cons (ev_fr (ev_list (ev_var rfl))) ea_nil)) ⟨_, _, rfl, t, e, hG, rfl, by omega, fun _ => rfl, fun z => absurd p.isPart z⟩)) (ea_cons (ev_fr (xs := plF P Q) ?hh) ea_nil)) ⟨_, _, rfl, _, _, iG, rfl, by omega, fun z => absurd pp.isPart z, fun _ => ⟨(fun o x q => by rw [st_woF ps] at q; cases q), fun _ => rfl⟩⟩)) ?_)
  case hh =>
    exact ev_mapL (xs := Q) (fun x => (ix P x : Int)) (ev_var rfl) (by omega) (by simp) ⟨.inl rfl, trivial⟩ fun x hx => by
      obtain ⟨h1, h2⟩ := ix_at (hQ x hx)
      exact ev_index (ev_var rfl) (ev_var rfl) h1 h2
  walk_at "nz"
  refine w_seq (w_if (b := false) (et_to (et_or (et_test (ev_neI (ev_mul (many rfl) (ev_len (ev_var rfl)) (cmulS (by omega) (by omega) (by omega) (by omega))) (many rfl))) fun _ => et_test (ev_neI (ev_mul (many rfl) (ev_len (ev_var rfl)) (cmulS (by omega) (by omega) (by omega) (by omega))) (ev_len (ev_var rfl)))) (by simp [c1', c2'])) (fun z => nomatch z) (fun _ => w_next ?_))
  exact w_ret (ev_to (ev_eqLL (ev_rows (g := grpOf _ _) (ev_var rfl)) (ev_rows (g := grpOf (innT (fdT t Q) (imgF t Q P)) (ix (imgF t Q P) (hm t Q e : Int) : Int)) (ev_frF (ev_callN (ea_cons (ev_var rfl) (ea_cons (ev_var rfl) ea_nil)) ⟨_, _, rfl, _, _, fQ, rfl, by omega, fun _ => rfl, fun z => absurd r.isPart z⟩)))) (by simp [grpOf, eN])) k
end TB

/-! ### l_kin -/
namespace TB
open PySem L2
--use TbFof
--use TbNin
--use TbPr
theorem img_is {t : Tbl} {P S : List Int} (hs : ∀ x ∈ S, InT t x) : (uset (S.map fun x => gt (hmL t P) x)) = imgF t P S := by
  unfold imgF
  congr 1
  exact List.map_congr_left fun x hx => gt_map (hs x hx).1 (hs x hx).2
def T_l_kin : Tm := tm3 fun (g : Grp) (P sm : List Int) ok _ => ∃ t e, GTbl t e ∧ g = grpOf t e ∧ PartL t e P ∧ St t e P ∧ (∀ y ∈ sm, InT t y) ∧ sm.length < 100 ∧ ok (.im true)
def t_l_kin (Z : Zz) (X : WX) : TS :=
  (tSeq (tAsg (tCallSD (spOf Z T_folded) [] (WE X) (tCons (tVar 0) (tCons (tCB (gList Z.K) (tCons (tVar 1) tNil)) tNil))) (gTup Z.K 2 (gCons (gName 3) (gCons (gName 4) gNil))))
  (tSeq (tAsg (tCallSD (spOf Z T_classes) [] (WE X) (tCons (tVar 3) tNil)) (gName 5))
  (tSeq (tFor (iList Z.K (tCallSD (spOf Z T_classes) [] (WE X) (tCons (tVar 0) tNil))) (gName 6)
  (tIfS (tTest (tOp (gNinD Z.K) (tCallSD (spOf Z T_l_through) [] (WE X) (tCons (tVar 4) (tCons (tVar 6) tNil))) (tVar 5)))
  (tRet (tC (.bl false)))
  tNext))
  (tSeq (tAsg (tCallSD (spOf Z T_l_through) [] (WE X) (tCons (tVar 4) (tCons (tCallSD (spOf Z T_mixed) [] (WE X) (tCons (tVar 0) (tCons (tLstRg (tRg1 (tFld Z.K (tVar 0) "many"))) tNil))) tNil))) (gName 7))
  (tSeq (tIfS (tTest (tOp (gNe Z.K) (tCallSD (spOf Z T_mixed) [] (WE X) (tCons (tVar 3) (tCons (tLstRg (tRg1 (tFld Z.K (tVar 3) "many"))) tNil))) (tVar 7)))
  (tRet (tC (.bl false)))
  tNext)
  (tSeq (tAsg (tCallSD (spOf Z T_l_through) [] (WE X) (tCons (tVar 4) (tCons (tOp (gIx Z.K) (tCallSD (spOf Z T_closure) [] (WE X) (tCons (tVar 0) (tCons (tCB (gList Z.K) (tCons (tVar 2) tNil)) tNil))) (tC (.int 0))) tNil))) (gName 7))
  (tRet (tOp (gEq Z.K) (tOp (gIx Z.K) (tCallSD (spOf Z T_closure) [] (WE X) (tCons (tVar 3) (tCons (tLc (iList Z.K (tVar 2)) (gName 8) tYes (tOp (gIx Z.K) (tVar 4) (tVar 8)) [8]) tNil))) (tC (.int 0))) (tVar 7)))))))))
theorem w_l_kin (Z : Zz) (X : WX) (ss : List Sl) (ok : Sl → Prop) (er : Rf → Prop) (h : T_l_kin ss ok er) : WF Z X er (ss ++ List.replicate (9 - ss.length) .un) (t_l_kin Z X) ok := by
  obtain ⟨g, P, sm, rfl, t, e, hG, rfl, p, sp, hs, hsl, k⟩ := h
  show W _ [.im (grpOf t e), .im P, .im sm, .un, .un, .un, .un, .un, .un] _ _
  unfold t_l_kin
  have hl := hG.sz.2.1
  have pl := p.len
  have fG := fdT_G hG p sp
  have fl := fG.sz.2.1
  have lH : (hmL t P).length = t.length := by unfold hmL; rw [List.length_map, irange_len]; omega
  have iC : ∀ {l : List Int}, l ∈ clsF t e → imgF t P l ∈ clsF (fdT t P) (hm t P e : Int) := fun {l} h => img_cls hG p sp h
  have iM := img_mix hG p sp
  have iS := img_clo (S := sm) (S' := sm.map fun x => gt (hmL t P) x) hG p sp hs fun i => by
    rw [List.mem_map]
    constructor
    · rintro ⟨x, hx, rfl⟩
      have q : gt (hmL t P) x = (hm t P x : Int) := gt_map (hs x hx).1 (hs x hx).2
      exact ⟨x, hx, q.symm⟩
    · rintro ⟨x, hx, rfl⟩
      have q : gt (hmL t P) x = (hm t P x : Int) := gt_map (hs x hx).1 (hs x hx).2
      exact ⟨x, hx, q⟩
  have hs' : ∀ y ∈ sm.map fun x => gt (hmL t P) x, InT (fdT t P) y := fun y hy => by
    obtain ⟨x, hx, rfl⟩ := List.mem_map.mp hy
    have : gt (hmL t P) x = (hm t P x : Int) := gt_map (hs x hx).1 (hs x hx).2
    rw [this]
    exact hm_in hG p (hs x hx)
  have eI : ∀ S : List Int, (∀ x ∈ S, InT t x) → (uset (S.map fun x => gt (hmL t P) x)) = imgF t P S := fun S h => img_is h
  have many : ∀ {c : Cn} {G : List Sl} {i : Nat} {t : Tbl} {e : Int}, G[i]? = some (.im (grpOf t e)) → Ev c G (tFld c.Z.K (tVar i) "many") (.im (t.length : Int)) := fun {c G i t e} h => ev_many (g := grpOf t e) (ev_var h)
  have lC := clsN_len t e t.length
  refine w_seq (w_asgPr (s1 := .im (grpOf (fdT t P) (hm t P e : Int))) (s2 := .ol (hmL t P)) (ev_callN (ea_cons (ev_var rfl) (ea_cons (ev_fr (ev_list (ev_var rfl))) ea_nil)) ⟨_, _, rfl, t, e, hG, rfl, by omega, fun z => absurd p.isPart z, fun _ => ⟨(fun o x q => by rw [st_woF sp] at q; cases q), fun _ => rfl⟩⟩) ?_)
  refine w_fr 4 rfl ?_
  walk_at "nz"
  generalize hmL t P = Hm at lH iS hs' eI ⊢
  have thr : ∀ {c : Cn} {G : List Sl} {te : TE} {S : List Int}, G[4]? = some (.im Hm) → (∀ x ∈ S, InT t x) → S.length ≤ 23 → Ev c G te (.im S) → Ev c G (tCallSD (spOf c.Z T_l_through) [] (WE c.X) (tCons (tVar 4) (tCons te tNil))) (.ol (imgF t P S)) := fun {c G te S} hg hS hl h => ev_callN (ea_cons (ev_var hg) (ea_cons h ea_nil)) ⟨_, _, rfl, by omega, fun x hx => ⟨(hS x hx).1, by rw [lH]; exact (hS x hx).2⟩, by rw [eI S hS]⟩
  refine w_seq (w_asg (s := .o2 (clsF (fdT t P) (hm t P e : Int))) (ev_callN (ea_cons (ev_var rfl) ea_nil) ⟨_, rfl, _, _, fG, rfl, rfl⟩) ?_)
  refine w_fr2 5 rfl ?_
  walk_at "nz"
  refine w_seq (w_forL (xs := clsF t e) (fun i G => ∃ s6 : Sl, G = [.im (grpOf t e), .im P, .im sm, .im (grpOf (fdT t P) (hm t P e : Int)), .im Hm, .im (clsF (fdT t P) (hm t P e : Int)), s6, .un, .un]) (ev_fr2 (ev_callN (ea_cons (ev_var rfl) ea_nil) ⟨_, rfl, _, _, hG, rfl, rfl⟩)) ⟨_, rfl⟩ ?_ ?_)
  · rintro i G hi ⟨s6, rfl⟩
    walk_at "nz"
    have hm := List.getElem_mem hi
    generalize (clsF t e)[i] = kin at hm ⊢
    have q := iC hm
    have hk : (∀ x ∈ kin, InT t x) ∧ kin.length ≤ 23 := by
      obtain ⟨x, hx, rfl⟩ := cls_orb hG hm
      have := orb_len (t := t) (e := e) (a := x)
      exact ⟨fun z hz => orb_in hG hx hz, by omega⟩
    exact w_if (b := false) (et_to (et_test (ev_ninD (ev_fr (thr rfl hk.1 hk.2 (ev_var rfl))) (ev_var rfl) (by decide))) (by simp [q])) (fun z => nomatch z) (fun _ => w_next ⟨_, rfl⟩)
  rintro G ⟨s6, rfl⟩
  have pa := all_part hG
  have hmi : ∀ y ∈ cmL t e (irange t.length), InT t y := cmL_in hG fun x hx => mem_irange.mp hx
  have pm : PartL t e (mixF t e (irange t.length)) := clo_part hG hmi
  have pml := pm.len
  refine w_seq (w_asg (s := .ol (imgF t P (mixF t e (irange t.length)))) (thr rfl pm.pt.inn (by omega) (ev_fr (ev_callN (s := .ol (mixF t e (irange t.length))) (ea_cons (ev_var rfl) (ea_cons (ev_fr (ev_listRg (many rfl) (by omega) (by omega))) ea_nil)) ⟨_, _, rfl, t, e, hG, rfl, by rw [irange_len]; omega, fun _ => rfl, fun z => absurd pa.isPart z⟩))) ?_)
  refine w_fr 7 rfl ?_
  walk_at "nz"
  refine w_seq (w_if (b := false) (et_to (et_test (ev_neL (ev_fr (ev_callN (s := .ol (imgF t P (mixF t e (irange t.length)))) (ea_cons (ev_var rfl) (ea_cons (ev_fr (ev_listRg (many rfl) (by omega) (by omega))) ea_nil)) ⟨_, _, rfl, _, _, fG, rfl, by rw [irange_len]; omega, fun _ => by rw [iM], fun z => absurd (all_part fG).isPart z⟩)) (ev_var rfl))) (by simp)) (fun z => nomatch z) (fun _ => w_next ?_))
  have pc := clo_part hG hs
  have pcl := pc.len
  refine w_seq (w_asg (s := .ol (imgF t P (clo t e sm))) (thr rfl pc.pt.inn (by omega) (ev_fr (ev_subS sub_Tol (ev_otIxT (U := oti (clo t e sm)) (k := 0) (ev_callN (ea_cons (ev_var rfl) (ea_cons (ev_fr (ev_list (ev_var rfl))) ea_nil)) ⟨_, _, rfl, t, e, hG, rfl, hs, by omega, rfl⟩) rfl rfl)))) ?_)
  refine w_fr 7 rfl ?_
  walk_at "nz"
  refine w_ret (ev_to (ev_eqL (x := imgF t P (clo t e sm)) (ev_fr ?hh) (ev_var rfl)) (by simp)) k
  case hh =>
    refine ev_is (s := .ol (clo (fdT t P) (hm t P e : Int) (sm.map fun x => gt Hm x))) (ev_subS sub_Tol (ev_otIxT (U := oti (clo (fdT t P) (hm t P e : Int) (sm.map fun x => gt Hm x))) (k := 0) (ev_callN (ea_cons (ev_var rfl) (ea_cons (ev_fr ?h2) ea_nil)) ⟨_, _, rfl, _, _, fG, rfl, hs', by simp; omega, rfl⟩) rfl rfl)) (by rw [iS])
    exact ev_mapL (xs := sm) (fun x => gt Hm x) (ev_var rfl) (by omega) (by simp) ⟨.inl rfl, trivial⟩ fun x hx => ev_ix (ev_var rfl) (ev_var rfl) (hs x hx).1 (by rw [lH]; exact (hs x hx).2)
end TB

/-! ### law -/
namespace TB
open PySem L2
--use TbFof
def t_law (Z : Zz) (X : WX) : TS :=
  (tSeq (tAsg (tCallSD (spOf Z T_l_group) [] (WE X) (tCons (tVar 0) (tCons (tC (.int 0)) tNil))) (gName 1))
  (tSeq (tAsg (tCallSD (spOf Z T_group_of) [] (WE X) (tCons (tLc (iList Z.K (tVar 1)) (gName 6) tYes (tCB (gList Z.K) (tCons (tVar 6) tNil)) [6]) tNil)) (gName 2))
  (tSeq (tAsg (tCallSD (spOf Z T_l_chain) [] (WE X) (tCons (tVar 1) (tCons (tOp gAdd (tSl (rSlL Z.K) (tVar 0) (tPart (tC (.int 3))) (tPart (tC (.int 63)))) (tLst (tCons (tC (.int 1)) tNil))) tNil))) (gName 3))
  (tSeq (tFor (iRng1 (tCons (tCB (gLen Z.K) (tCons (tVar 3) tNil)) tNil)) (gName 4)
  (tSeq (tAsg (tLc (iList Z.K (tSl (rSlL Z.K) (tVar 0) (tPart (tC (.int 3))) (tPart (tOp gAdd (tC (.int 4)) (tVar 4))))) (gName 7) tYes (tCall (spOf Z T_l_thing) [] E0 (tCons (tVar 7) (tCons (tOp gAdd (tC (.int 2)) (tVar 4)) (tCons (tCB (gLen Z.K) (tCons (tVar 1) tNil)) tNil)))) [7]) (gName 5))
  (tSeq (tIfS (tNot (tB (tCallSD (spOf Z T_l_kin) [] (WE X) (tCons (tVar 2) (tCons (tOp (gIx Z.K) (tVar 3) (tVar 4)) (tCons (tVar 5) tNil))))))
  (tRet (tC (.bl false)))
  tNext)
  (tIfS (tAnd (tTest (tOp gGt (tVar 4) (tC (.int 0)))) (tNot (tB (tCallSD (spOf Z T_l_twice) [] (WE X) (tCons (tVar 2) (tCons (tOp (gIx Z.K) (tVar 3) (tOp gMns (tVar 4) (tC (.int 1)))) (tCons (tOp (gIx Z.K) (tVar 3) (tVar 4)) tNil)))))))
  (tRet (tC (.bl false)))
  tNext))))
  (tRet (tC (.bl true)))))))
theorem w_law (Z : Zz) (X : WX) (ss : List Sl) (ok : Sl → Prop) (er : Rf → Prop) (hh : T_law ss ok er) : WF Z X er (ss ++ List.replicate (8 - ss.length) .un) (t_law Z X) ok := by
  obtain ⟨l, rfl, hl, k⟩ := hh
  show W _ [.im l, .un, .un, .un, .un, .un, .un, .un] _ _
  unfold t_law
  refine w_seq (w_asgS (S := fun s => ∃ t e, s = .o2 t ∧ GTbl t e) (es_call (ea_cons (ev_var rfl) (ea_cons ev_int ea_nil)) ⟨_, _, rfl, by decide, fun t e h => ⟨t, e, rfl, h⟩⟩) ?_)
  rintro _ ⟨t, e, rfl, hG⟩
  refine w_fr2 1 rfl ?_
  walk_at "nz"
  have hlen := hG.sz.2.1
  have hlen1 := hG.sz.1
  refine w_seq (w_asg (s := .fo (grpOf t e)) (ev_callN (ea_cons (ev_fr (ev_copyT (ev_var rfl) (by omega) ⟨.inl rfl, trivial⟩ fun _ => rfl)) ea_nil) (gof_ok hG _)) ?_)
  refine w_frF 2 rfl ?_
  walk_at "nz"
  refine w_seq (w_asgS (S := fun s => ∃ L, s = .ol L ∧ ChnOk t e L ∧ 0 < L.length ∧ L.length ≤ 65) (es_call (ea_cons (ev_var rfl) (ea_cons (ev_fr (ev_cat (ev_fr (ev_cutS (l := l) (ev_var rfl) ev_int ev_int (by decide) (by decide))) (ev_fr (ev_lstH (evh_cons ev_int evh_nil) (by decide))) (by simp; omega))) ea_nil)) ⟨_, _, rfl, e, hG, by simp; omega, fun L h1 h2 h3 => ⟨L, rfl, h1, h2, h3⟩⟩) ?_)
  rintro _ ⟨L, rfl, hL, hL0, hL1⟩
  refine w_fr 3 rfl ?_
  walk_at "nz"
  refine w_seq (w_forR (n := (L.length : Int)) (fun i G => ∃ s4 s5 : Sl, G = [.im l, .im t, .im (grpOf t e), .im L, s4, s5, .un, .un]) (ev_len (ev_var rfl)) (by omega) (by omega) ⟨_, _, rfl⟩ ?_ ?_)
  · rintro i G hi ⟨s4, s5, rfl⟩
    walk_at "nz"
    have hi' : i < L.length := by omega
    obtain ⟨p, sp⟩ := hL.prt _ (List.getElem_mem hi')
    have gi : gt L (i : Int) = L[i] := gt_nat hi'
    refine w_seq (w_asg (s := .ol (((l.l.take ((4 : Int) + (i : Int)).toNat).drop (3 : Int).toNat).map fun x => thingOf x (2 + (i : Int)) t.length)) ?hh ?_)
    case hh =>
      exact ev_mapL (xs := (l.l.take ((4 : Int) + (i : Int)).toNat).drop (3 : Int).toNat) (fun x => thingOf x (2 + (i : Int)) t.length) (ev_fr (ev_cutS (l := l) (ev_var rfl) ev_int (ev_add ev_int (ev_var rfl)) (by decide) (by omega))) (by simp; omega) (by simp) ⟨.inl rfl, trivial⟩ fun x _ => ev_callN0 (ea_cons (ev_var rfl) (ea_cons (ev_add ev_int (ev_var rfl)) (ea_cons (ev_len (ev_var rfl)) ea_nil))) ⟨_, _, _, rfl, by omega, by omega, by omega, rfl⟩
    have hs : ∀ y ∈ ((l.l.take ((4 : Int) + (i : Int)).toNat).drop (3 : Int).toNat).map (fun x => thingOf x (2 + (i : Int)) t.length), InT t y := fun y hy => by
      obtain ⟨x, _, rfl⟩ := List.mem_map.mp hy
      exact thing_in (by omega)
    have hsl : (((l.l.take ((4 : Int) + (i : Int)).toNat).drop (3 : Int).toNat).map fun x => thingOf x (2 + (i : Int)) t.length).length < 100 := by
      rw [List.length_map, List.length_drop, List.length_take]; omega
    generalize ((l.l.take ((4 : Int) + (i : Int)).toNat).drop (3 : Int).toNat).map (fun x => thingOf x (2 + (i : Int)) t.length) = sm at hs hsl ⊢
    refine w_fr 5 rfl ?_
    walk_at "nz"
    refine w_seq (w_if (b := false) (et_to (et_not (et_B (ev_callN (s := .im true) (ea_cons (ev_var rfl) (ea_cons (ev_to (ev_ix (xs := L) (ev_var rfl) (ev_var rfl) (by omega) (by omega)) gi) (ea_cons (ev_var rfl) ea_nil))) ⟨_, _, _, rfl, t, e, hG, rfl, p, sp, hs, hsl, rfl⟩))) rfl) (fun z => nomatch z) (fun _ => w_next ?_))
    refine w_if (b := false) (et_to (et_and (b := false) (et_test (ev_gt (ev_var rfl) ev_int)) fun h0 => ?hx) (by simp)) (fun z => nomatch z) (fun _ => w_next ⟨_, _, rfl⟩)
    case hx =>
      have h0' : 0 < i := by have := of_decide_eq_true h0; omega
      obtain ⟨q, sq⟩ := hL.prt _ (List.getElem_mem (show i - 1 < L.length by omega))
      have gj : gt L ((i : Int) - 1) = L[i - 1] := by rw [show ((i : Int) - 1) = ((i - 1 : Nat) : Int) by omega]; exact gt_nat _
      have sub : ∀ x ∈ L[i - 1], x ∈ L[i] := fun x hx => by
        have := hL.sub (i - 1) (by omega) x hx
        simpa only [show i - 1 + 1 = i by omega] using this
      exact et_to (et_not (et_B (ev_callN (s := .im true) (ea_cons (ev_var rfl) (ea_cons (ev_to (ev_ix (xs := L) (ev_var rfl) (ev_sub (ev_var rfl) ev_int) (by omega) (by omega)) gj) (ea_cons (ev_to (ev_ix (xs := L) (ev_var rfl) (ev_var rfl) (by omega) (by omega)) gi) ea_nil))) ⟨_, _, _, rfl, t, e, hG, rfl, q, sq, p, sp, sub, rfl⟩))) rfl
  · rintro G ⟨s4, s5, rfl⟩
    exact w_ret ev_bl k
end TB
namespace TB
open PySem L2
def topS (i : Nat) : Stmt := PySem.Challenge.pw_tracebook_k18_whole_folds_of_folds.main.body.getD i (.Pass ⟨0, 0, 0, 0⟩)
abbrev s_turned_by : Stmt := (topS 1)
abbrev s_classes : Stmt := (topS 2)
abbrev s_Stranger_init : Stmt := (inClass (topS 6) 0)
abbrev s_NoBack_init : Stmt := (inClass (topS 8) 0)
abbrev s_NotTogether_init : Stmt := (inClass (topS 9) 0)
abbrev s_NotSteady_init : Stmt := (inClass (topS 11) 0)
abbrev s_Group_init : Stmt := (inClass (topS 14) 0)
abbrev s_look_at_size : Stmt := (topS 15)
abbrev s_look_for_strangers : Stmt := (topS 16)
abbrev s_unit_of : Stmt := (topS 17)
abbrev s_back_of : Stmt := (topS 18)
abbrev s_look_at_threes : Stmt := (topS 19)
abbrev s_group_of : Stmt := (topS 20)
abbrev s_product : Stmt := (topS 21)
abbrev s_look_at_part : Stmt := (topS 23)
abbrev s_closure : Stmt := (topS 24)
abbrev s_mixed : Stmt := (topS 25)
abbrev s_sides : Stmt := (topS 26)
abbrev s_way_out : Stmt := (topS 27)
abbrev s_folded : Stmt := (topS 28)
abbrev s_inner : Stmt := (topS 29)
abbrev s_l_cell : Stmt := (topS 31)
abbrev s_l_sizes : Stmt := (topS 32)
abbrev s_l_kind : Stmt := (topS 33)
abbrev s_l_unit : Stmt := (topS 34)
abbrev s_l_turned : Stmt := (topS 35)
abbrev s_l_sum : Stmt := (topS 36)
abbrev s_l_rows : Stmt := (topS 37)
abbrev s_l_names : Stmt := (topS 38)
abbrev s_l_group : Stmt := (topS 39)
abbrev s_l_one : Stmt := (topS 40)
abbrev s_l_backs : Stmt := (topS 41)
abbrev s_l_thing : Stmt := (topS 42)
abbrev s_l_closed : Stmt := (topS 43)
abbrev s_l_chain : Stmt := (topS 44)
abbrev s_l_through : Stmt := (topS 45)
abbrev s_l_twice : Stmt := (topS 46)
abbrev s_l_kin : Stmt := (topS 47)
abbrev s_law : Stmt := (topS 48)
theorem ar_turned_by : ∀ ss ok er, T_turned_by ss ok er → ss.length = 3 := by intro ss ok er h; obtain ⟨_, _, _, rfl, _⟩ := h; rfl
theorem ar_classes : ∀ ss ok er, T_classes ss ok er → ss.length = 1 := by intro ss ok er h; obtain ⟨_, rfl, _⟩ := h; rfl
theorem ar_look_at_size : ∀ ss ok er, T_look_at_size ss ok er → ss.length = 1 := by intro ss ok er h; obtain ⟨_, rfl, _⟩ := h; rfl
theorem ar_look_for_strangers : ∀ ss ok er, T_look_for_strangers ss ok er → ss.length = 1 := by intro ss ok er h; obtain ⟨_, rfl, _⟩ := h; rfl
theorem ar_unit_of : ∀ ss ok er, T_unit_of ss ok er → ss.length = 1 := by intro ss ok er h; obtain ⟨_, rfl, _⟩ := h; rfl
theorem ar_back_of : ∀ ss ok er, T_back_of ss ok er → ss.length = 3 := by intro ss ok er h; obtain ⟨_, _, _, rfl, _⟩ := h; rfl
theorem ar_look_at_threes : ∀ ss ok er, T_look_at_threes ss ok er → ss.length = 1 := by intro ss ok er h; obtain ⟨_, rfl, _⟩ := h; rfl
theorem ar_group_of : ∀ ss ok er, T_group_of ss ok er → ss.length = 1 := by intro ss ok er h; obtain ⟨_, rfl, _⟩ := h; rfl
theorem ar_product : ∀ ss ok er, T_product ss ok er → ss.length = 2 := by intro ss ok er h; obtain ⟨_, _, rfl, _⟩ := h; rfl
theorem ar_look_at_part : ∀ ss ok er, T_look_at_part ss ok er → ss.length = 2 := by intro ss ok er h; obtain ⟨_, _, rfl, _⟩ := h; rfl
theorem ar_closure : ∀ ss ok er, T_closure ss ok er → ss.length = 2 := by intro ss ok er h; obtain ⟨_, _, rfl, _⟩ := h; rfl
theorem ar_mixed : ∀ ss ok er, T_mixed ss ok er → ss.length = 2 := by intro ss ok er h; obtain ⟨_, _, rfl, _⟩ := h; rfl
theorem ar_sides : ∀ ss ok er, T_sides ss ok er → ss.length = 2 := by intro ss ok er h; obtain ⟨_, _, rfl, _⟩ := h; rfl
theorem ar_way_out : ∀ ss ok er, T_way_out ss ok er → ss.length = 2 := by intro ss ok er h; obtain ⟨_, _, rfl, _⟩ := h; rfl
theorem ar_folded : ∀ ss ok er, T_folded ss ok er → ss.length = 2 := by intro ss ok er h; obtain ⟨_, _, rfl, _⟩ := h; rfl
theorem ar_inner : ∀ ss ok er, T_inner ss ok er → ss.length = 2 := by intro ss ok er h; obtain ⟨_, _, rfl, _⟩ := h; rfl
theorem ar_l_cell : ∀ ss ok er, T_l_cell ss ok er → ss.length = 2 := by intro ss ok er h; obtain ⟨_, _, rfl, _⟩ := h; rfl
theorem ar_l_sizes : ∀ ss ok er, T_l_sizes ss ok er → ss.length = 2 := by intro ss ok er h; obtain ⟨_, _, rfl, _⟩ := h; rfl
theorem ar_l_kind : ∀ ss ok er, T_l_kind ss ok er → ss.length = 2 := by intro ss ok er h; obtain ⟨_, _, rfl, _⟩ := h; rfl
theorem ar_l_unit : ∀ ss ok er, T_l_unit ss ok er → ss.length = 3 := by intro ss ok er h; obtain ⟨_, _, _, rfl, _⟩ := h; rfl
theorem ar_l_turned : ∀ ss ok er, T_l_turned ss ok er → ss.length = 4 := by intro ss ok er h; obtain ⟨_, _, _, _, rfl, _⟩ := h; rfl
theorem ar_l_sum : ∀ ss ok er, T_l_sum ss ok er → ss.length = 3 := by intro ss ok er h; obtain ⟨_, _, _, rfl, _⟩ := h; rfl
theorem ar_l_rows : ∀ ss ok er, T_l_rows ss ok er → ss.length = 3 := by intro ss ok er h; obtain ⟨_, _, _, rfl, _⟩ := h; rfl
theorem ar_l_names : ∀ ss ok er, T_l_names ss ok er → ss.length = 2 := by intro ss ok er h; obtain ⟨_, _, rfl, _⟩ := h; rfl
theorem ar_l_group : ∀ ss ok er, T_l_group ss ok er → ss.length = 2 := by intro ss ok er h; obtain ⟨_, _, rfl, _⟩ := h; rfl
theorem ar_l_one : ∀ ss ok er, T_l_one ss ok er → ss.length = 1 := by intro ss ok er h; obtain ⟨_, rfl, _⟩ := h; rfl
theorem ar_l_backs : ∀ ss ok er, T_l_backs ss ok er → ss.length = 1 := by intro ss ok er h; obtain ⟨_, rfl, _⟩ := h; rfl
theorem ar_l_thing : ∀ ss ok er, T_l_thing ss ok er → ss.length = 3 := by intro ss ok er h; obtain ⟨_, _, _, rfl, _⟩ := h; rfl
theorem ar_l_closed : ∀ ss ok er, T_l_closed ss ok er → ss.length = 2 := by intro ss ok er h; obtain ⟨_, _, rfl, _⟩ := h; rfl
theorem ar_l_chain : ∀ ss ok er, T_l_chain ss ok er → ss.length = 2 := by intro ss ok er h; obtain ⟨_, _, rfl, _⟩ := h; rfl
theorem ar_l_through : ∀ ss ok er, T_l_through ss ok er → ss.length = 2 := by intro ss ok er h; obtain ⟨_, _, rfl, _⟩ := h; rfl
theorem ar_l_twice : ∀ ss ok er, T_l_twice ss ok er → ss.length = 3 := by intro ss ok er h; obtain ⟨_, _, _, rfl, _⟩ := h; rfl
theorem ar_l_kin : ∀ ss ok er, T_l_kin ss ok er → ss.length = 3 := by intro ss ok er h; obtain ⟨_, _, _, rfl, _⟩ := h; rfl
theorem ar_law : ∀ ss ok er, T_law ss ok er → ss.length = 1 := by intro ss ok er h; obtain ⟨_, rfl, _⟩ := h; rfl
structure Tx (K : PySem.W.Frag) (mg : Str → Option Value) (cls : CN → Addr) (a_turned_by a_classes a_Stranger_init a_NoBack_init a_NotTogether_init a_NotSteady_init a_Group_init a_look_at_size a_look_for_strangers a_unit_of a_back_of a_look_at_threes a_group_of a_product a_look_at_part a_closure a_mixed a_sides a_way_out a_folded a_inner a_l_cell a_l_sizes a_l_kind a_l_unit a_l_turned a_l_sum a_l_rows a_l_names a_l_group a_l_one a_l_backs a_l_thing a_l_closed a_l_chain a_l_through a_l_twice a_l_kin a_law : Addr) (fd_turned_by fd_classes fd_Stranger_init fd_NoBack_init fd_NotTogether_init fd_NotSteady_init fd_Group_init fd_look_at_size fd_look_for_strangers fd_unit_of fd_back_of fd_look_at_threes fd_group_of fd_product fd_look_at_part fd_closure fd_mixed fd_sides fd_way_out fd_folded fd_inner fd_l_cell fd_l_sizes fd_l_kind fd_l_unit fd_l_turned fd_l_sum fd_l_rows fd_l_names fd_l_group fd_l_one fd_l_backs fd_l_thing fd_l_closed fd_l_chain fd_l_through fd_l_twice fd_l_kin fd_law : FuncData) : Prop where
  F_turned_by : Fun K "turned_by" "turned_by" s_turned_by a_turned_by fd_turned_by
  b_turned_by : Binds K fd_turned_by ["group", "thing", "other"] []
  g_turned_by : mg "turned_by" = some (.ref a_turned_by)
  k_turned_by : PySem.W.keepIn K (.ref a_turned_by) = true
  F_classes : Fun K "classes" "classes" s_classes a_classes fd_classes
  b_classes : Binds K fd_classes ["group"] []
  g_classes : mg "classes" = some (.ref a_classes)
  k_classes : PySem.W.keepIn K (.ref a_classes) = true
  F_Stranger_init : Fun K "__init__" "Stranger.__init__" s_Stranger_init a_Stranger_init fd_Stranger_init
  b_Stranger_init : Binds K fd_Stranger_init ["self", "row", "column"] []
  F_NoBack_init : Fun K "__init__" "NoBack.__init__" s_NoBack_init a_NoBack_init fd_NoBack_init
  b_NoBack_init : Binds K fd_NoBack_init ["self", "thing"] []
  F_NotTogether_init : Fun K "__init__" "NotTogether.__init__" s_NotTogether_init a_NotTogether_init fd_NotTogether_init
  b_NotTogether_init : Binds K fd_NotTogether_init ["self", "one", "two", "three"] []
  F_NotSteady_init : Fun K "__init__" "NotSteady.__init__" s_NotSteady_init a_NotSteady_init fd_NotSteady_init
  b_NotSteady_init : Binds K fd_NotSteady_init ["self", "turner", "thing"] []
  F_Group_init : Fun K "__init__" "Group.__init__" s_Group_init a_Group_init fd_Group_init
  b_Group_init : Binds K fd_Group_init ["self", "rows", "unit", "backs"] []
  F_look_at_size : Fun K "look_at_size" "look_at_size" s_look_at_size a_look_at_size fd_look_at_size
  b_look_at_size : Binds K fd_look_at_size ["table"] []
  g_look_at_size : mg "look_at_size" = some (.ref a_look_at_size)
  k_look_at_size : PySem.W.keepIn K (.ref a_look_at_size) = true
  F_look_for_strangers : Fun K "look_for_strangers" "look_for_strangers" s_look_for_strangers a_look_for_strangers fd_look_for_strangers
  b_look_for_strangers : Binds K fd_look_for_strangers ["table"] []
  g_look_for_strangers : mg "look_for_strangers" = some (.ref a_look_for_strangers)
  k_look_for_strangers : PySem.W.keepIn K (.ref a_look_for_strangers) = true
  F_unit_of : Fun K "unit_of" "unit_of" s_unit_of a_unit_of fd_unit_of
  b_unit_of : Binds K fd_unit_of ["table"] []
  g_unit_of : mg "unit_of" = some (.ref a_unit_of)
  k_unit_of : PySem.W.keepIn K (.ref a_unit_of) = true
  F_back_of : Fun K "back_of" "back_of" s_back_of a_back_of fd_back_of
  b_back_of : Binds K fd_back_of ["table", "unit", "thing"] []
  g_back_of : mg "back_of" = some (.ref a_back_of)
  k_back_of : PySem.W.keepIn K (.ref a_back_of) = true
  F_look_at_threes : Fun K "look_at_threes" "look_at_threes" s_look_at_threes a_look_at_threes fd_look_at_threes
  b_look_at_threes : Binds K fd_look_at_threes ["table"] []
  g_look_at_threes : mg "look_at_threes" = some (.ref a_look_at_threes)
  k_look_at_threes : PySem.W.keepIn K (.ref a_look_at_threes) = true
  F_group_of : Fun K "group_of" "group_of" s_group_of a_group_of fd_group_of
  b_group_of : Binds K fd_group_of ["table"] []
  g_group_of : mg "group_of" = some (.ref a_group_of)
  k_group_of : PySem.W.keepIn K (.ref a_group_of) = true
  F_product : Fun K "product" "product" s_product a_product fd_product
  b_product : Binds K fd_product ["group", "things"] []
  g_product : mg "product" = some (.ref a_product)
  k_product : PySem.W.keepIn K (.ref a_product) = true
  F_look_at_part : Fun K "look_at_part" "look_at_part" s_look_at_part a_look_at_part fd_look_at_part
  b_look_at_part : Binds K fd_look_at_part ["group", "part"] []
  g_look_at_part : mg "look_at_part" = some (.ref a_look_at_part)
  k_look_at_part : PySem.W.keepIn K (.ref a_look_at_part) = true
  F_closure : Fun K "closure" "closure" s_closure a_closure fd_closure
  b_closure : Binds K fd_closure ["group", "some"] []
  g_closure : mg "closure" = some (.ref a_closure)
  k_closure : PySem.W.keepIn K (.ref a_closure) = true
  F_mixed : Fun K "mixed" "mixed" s_mixed a_mixed fd_mixed
  b_mixed : Binds K fd_mixed ["group", "part"] []
  g_mixed : mg "mixed" = some (.ref a_mixed)
  k_mixed : PySem.W.keepIn K (.ref a_mixed) = true
  F_sides : Fun K "sides" "sides" s_sides a_sides fd_sides
  b_sides : Binds K fd_sides ["group", "part"] []
  g_sides : mg "sides" = some (.ref a_sides)
  k_sides : PySem.W.keepIn K (.ref a_sides) = true
  F_way_out : Fun K "way_out" "way_out" s_way_out a_way_out fd_way_out
  b_way_out : Binds K fd_way_out ["group", "part"] []
  g_way_out : mg "way_out" = some (.ref a_way_out)
  k_way_out : PySem.W.keepIn K (.ref a_way_out) = true
  F_folded : Fun K "folded" "folded" s_folded a_folded fd_folded
  b_folded : Binds K fd_folded ["group", "part"] []
  g_folded : mg "folded" = some (.ref a_folded)
  k_folded : PySem.W.keepIn K (.ref a_folded) = true
  F_inner : Fun K "inner" "inner" s_inner a_inner fd_inner
  b_inner : Binds K fd_inner ["group", "part"] []
  g_inner : mg "inner" = some (.ref a_inner)
  k_inner : PySem.W.keepIn K (.ref a_inner) = true
  F_l_cell : Fun K "_law_cell" "_law_cell" s_l_cell a_l_cell fd_l_cell
  b_l_cell : Binds K fd_l_cell ["_law_script", "_law_k"] []
  g_l_cell : mg "_law_cell" = some (.ref a_l_cell)
  k_l_cell : PySem.W.keepIn K (.ref a_l_cell) = true
  F_l_sizes : Fun K "_law_sizes" "_law_sizes" s_l_sizes a_l_sizes fd_l_sizes
  b_l_sizes : Binds K fd_l_sizes ["_law_one_here", "_law_two"] []
  g_l_sizes : mg "_law_sizes" = some (.ref a_l_sizes)
  k_l_sizes : PySem.W.keepIn K (.ref a_l_sizes) = true
  F_l_kind : Fun K "_law_kind" "_law_kind" s_l_kind a_l_kind fd_l_kind
  b_l_kind : Binds K fd_l_kind ["_law_sizes_here", "_law_number"] []
  g_l_kind : mg "_law_kind" = some (.ref a_l_kind)
  k_l_kind : PySem.W.keepIn K (.ref a_l_kind) = true
  F_l_unit : Fun K "_law_unit" "_law_unit" s_l_unit a_l_unit fd_l_unit
  b_l_unit : Binds K fd_l_unit ["_law_many", "_law_steps", "_law_number"] []
  g_l_unit : mg "_law_unit" = some (.ref a_l_unit)
  k_l_unit : PySem.W.keepIn K (.ref a_l_unit) = true
  F_l_turned : Fun K "_law_turned" "_law_turned" s_l_turned a_l_turned fd_l_turned
  b_l_turned : Binds K fd_l_turned ["_law_place", "_law_sizes_here", "_law_kind_here", "_law_units"] []
  g_l_turned : mg "_law_turned" = some (.ref a_l_turned)
  k_l_turned : PySem.W.keepIn K (.ref a_l_turned) = true
  F_l_sum : Fun K "_law_sum" "_law_sum" s_l_sum a_l_sum fd_l_sum
  b_l_sum : Binds K fd_l_sum ["_law_one_here", "_law_other", "_law_sizes_here"] []
  g_l_sum : mg "_law_sum" = some (.ref a_l_sum)
  k_l_sum : PySem.W.keepIn K (.ref a_l_sum) = true
  F_l_rows : Fun K "_law_rows" "_law_rows" s_l_rows a_l_rows fd_l_rows
  b_l_rows : Binds K fd_l_rows ["_law_sizes_here", "_law_turn", "_law_end"] []
  g_l_rows : mg "_law_rows" = some (.ref a_l_rows)
  k_l_rows : PySem.W.keepIn K (.ref a_l_rows) = true
  F_l_names : Fun K "_law_names" "_law_names" s_l_names a_l_names fd_l_names
  b_l_names : Binds K fd_l_names ["_law_many", "_law_number"] []
  g_l_names : mg "_law_names" = some (.ref a_l_names)
  k_l_names : PySem.W.keepIn K (.ref a_l_names) = true
  F_l_group : Fun K "_law_group" "_law_group" s_l_group a_l_group fd_l_group
  b_l_group : Binds K fd_l_group ["_law_script", "_law_start"] []
  g_l_group : mg "_law_group" = some (.ref a_l_group)
  k_l_group : PySem.W.keepIn K (.ref a_l_group) = true
  F_l_one : Fun K "_law_one" "_law_one" s_l_one a_l_one fd_l_one
  b_l_one : Binds K fd_l_one ["_law_table"] []
  g_l_one : mg "_law_one" = some (.ref a_l_one)
  k_l_one : PySem.W.keepIn K (.ref a_l_one) = true
  F_l_backs : Fun K "_law_backs" "_law_backs" s_l_backs a_l_backs fd_l_backs
  b_l_backs : Binds K fd_l_backs ["_law_table"] []
  g_l_backs : mg "_law_backs" = some (.ref a_l_backs)
  k_l_backs : PySem.W.keepIn K (.ref a_l_backs) = true
  F_l_thing : Fun K "_law_thing" "_law_thing" s_l_thing a_l_thing fd_l_thing
  b_l_thing : Binds K fd_l_thing ["_law_cell_here", "_law_k", "_law_many"] []
  g_l_thing : mg "_law_thing" = some (.ref a_l_thing)
  k_l_thing : PySem.W.keepIn K (.ref a_l_thing) = true
  F_l_closed : Fun K "_law_closed" "_law_closed" s_l_closed a_l_closed fd_l_closed
  b_l_closed : Binds K fd_l_closed ["_law_table", "_law_some"] []
  g_l_closed : mg "_law_closed" = some (.ref a_l_closed)
  k_l_closed : PySem.W.keepIn K (.ref a_l_closed) = true
  F_l_chain : Fun K "_law_chain" "_law_chain" s_l_chain a_l_chain fd_l_chain
  b_l_chain : Binds K fd_l_chain ["_law_table", "_law_cells"] []
  g_l_chain : mg "_law_chain" = some (.ref a_l_chain)
  k_l_chain : PySem.W.keepIn K (.ref a_l_chain) = true
  F_l_through : Fun K "_law_through" "_law_through" s_l_through a_l_through fd_l_through
  b_l_through : Binds K fd_l_through ["_law_homes", "_law_some"] []
  g_l_through : mg "_law_through" = some (.ref a_l_through)
  k_l_through : PySem.W.keepIn K (.ref a_l_through) = true
  F_l_twice : Fun K "_law_twice" "_law_twice" s_l_twice a_l_twice fd_l_twice
  b_l_twice : Binds K fd_l_twice ["_law_group_here", "_law_less", "_law_more"] []
  g_l_twice : mg "_law_twice" = some (.ref a_l_twice)
  k_l_twice : PySem.W.keepIn K (.ref a_l_twice) = true
  F_l_kin : Fun K "_law_kin" "_law_kin" s_l_kin a_l_kin fd_l_kin
  b_l_kin : Binds K fd_l_kin ["_law_group_here", "_law_part", "_law_some"] []
  g_l_kin : mg "_law_kin" = some (.ref a_l_kin)
  k_l_kin : PySem.W.keepIn K (.ref a_l_kin) = true
  F_law : Fun K "law" "law" s_law a_law fd_law
  b_law : Binds K fd_law ["_law_script"] []
  g_law : mg "law" = some (.ref a_law)
  k_law : PySem.W.keepIn K (.ref a_law) = true
  b_all : mg "all" = none
  b_enumerate : mg "enumerate" = none
  b_len : mg "len" = none
  b_list : mg "list" = none
  b_range : mg "range" = none
  b_set : mg "set" = none
  b_sorted : mg "sorted" = none
  g_MOST : ∃ t, mg "MOST" = some (.int 23 t)
  g_BadSize : mg "BadSize" = some (.ref (cls .BadSize))
  g_Stranger : mg "Stranger" = some (.ref (cls .Stranger))
  g_NoUnit : mg "NoUnit" = some (.ref (cls .NoUnit))
  g_NoBack : mg "NoBack" = some (.ref (cls .NoBack))
  g_NotTogether : mg "NotTogether" = some (.ref (cls .NotTogether))
  g_NoPart : mg "NoPart" = some (.ref (cls .NoPart))
  g_NotSteady : mg "NotSteady" = some (.ref (cls .NotSteady))
  g_Group : mg "Group" = some (.ref (cls .Group))
  M_Group : Mk K (cls .Group) a_Group_init
  grpC : GrpC ⟨K, cls⟩
  x_BadSize : PySem.W.excIn K (cls .BadSize) [.type "ValueError", .type "Exception", .type "BaseException", .type "object"] "ValueError.__new__" = true
  k_BadSize : PySem.W.keepIn K (.ref (cls .BadSize)) = true
  r_BadSize : PySem.W.subIn K (.ref (cls .BadSize)) (.type "BaseException") = some true
  rt_BadSize : PySem.W.typeIn K (.ref (cls .BadSize)) = some (.type "type")
  x_NoPart : PySem.W.excIn K (cls .NoPart) [.type "ValueError", .type "Exception", .type "BaseException", .type "object"] "ValueError.__new__" = true
  k_NoPart : PySem.W.keepIn K (.ref (cls .NoPart)) = true
  r_NoPart : PySem.W.subIn K (.ref (cls .NoPart)) (.type "BaseException") = some true
  rt_NoPart : PySem.W.typeIn K (.ref (cls .NoPart)) = some (.type "type")
  x_NoUnit : PySem.W.excIn K (cls .NoUnit) [.type "ValueError", .type "Exception", .type "BaseException", .type "object"] "ValueError.__new__" = true
  k_NoUnit : PySem.W.keepIn K (.ref (cls .NoUnit)) = true
  r_NoUnit : PySem.W.subIn K (.ref (cls .NoUnit)) (.type "BaseException") = some true
  rt_NoUnit : PySem.W.typeIn K (.ref (cls .NoUnit)) = some (.type "type")
  O_NoBack : OexC K (cls .NoBack)
  i_NoBack : PySem.W.findIn K (.ref (cls .NoBack)) "__init__" = some (some (.ref a_NoBack_init))
  ti_NoBack : PySem.W.typeIn K (.ref a_NoBack_init) = some (.type "function")
  n_NoBack_thing : PySem.W.findIn K (.ref (cls .NoBack)) "thing" = some none
  O_NotSteady : OexC K (cls .NotSteady)
  i_NotSteady : PySem.W.findIn K (.ref (cls .NotSteady)) "__init__" = some (some (.ref a_NotSteady_init))
  ti_NotSteady : PySem.W.typeIn K (.ref a_NotSteady_init) = some (.type "function")
  n_NotSteady_turner : PySem.W.findIn K (.ref (cls .NotSteady)) "turner" = some none
  n_NotSteady_thing : PySem.W.findIn K (.ref (cls .NotSteady)) "thing" = some none
  O_NotTogether : OexC K (cls .NotTogether)
  i_NotTogether : PySem.W.findIn K (.ref (cls .NotTogether)) "__init__" = some (some (.ref a_NotTogether_init))
  ti_NotTogether : PySem.W.typeIn K (.ref a_NotTogether_init) = some (.type "function")
  n_NotTogether_one : PySem.W.findIn K (.ref (cls .NotTogether)) "one" = some none
  n_NotTogether_two : PySem.W.findIn K (.ref (cls .NotTogether)) "two" = some none
  n_NotTogether_three : PySem.W.findIn K (.ref (cls .NotTogether)) "three" = some none
  O_Stranger : OexC K (cls .Stranger)
  i_Stranger : PySem.W.findIn K (.ref (cls .Stranger)) "__init__" = some (some (.ref a_Stranger_init))
  ti_Stranger : PySem.W.typeIn K (.ref a_Stranger_init) = some (.type "function")
  n_Stranger_row : PySem.W.findIn K (.ref (cls .Stranger)) "row" = some none
  n_Stranger_column : PySem.W.findIn K (.ref (cls .Stranger)) "column" = some none
section
variable {P : Program} {w : World} {K : PySem.W.Frag} {mg : Str → Option Value} {base : Heap} {cls : CN → Addr}
  {a_turned_by a_classes a_Stranger_init a_NoBack_init a_NotTogether_init a_NotSteady_init a_Group_init a_look_at_size a_look_for_strangers a_unit_of a_back_of a_look_at_threes a_group_of a_product a_look_at_part a_closure a_mixed a_sides a_way_out a_folded a_inner a_l_cell a_l_sizes a_l_kind a_l_unit a_l_turned a_l_sum a_l_rows a_l_names a_l_group a_l_one a_l_backs a_l_thing a_l_closed a_l_chain a_l_through a_l_twice a_l_kin a_law : Addr} {fd_turned_by fd_classes fd_Stranger_init fd_NoBack_init fd_NotTogether_init fd_NotSteady_init fd_Group_init fd_look_at_size fd_look_for_strangers fd_unit_of fd_back_of fd_look_at_threes fd_group_of fd_product fd_look_at_part fd_closure fd_mixed fd_sides fd_way_out fd_folded fd_inner fd_l_cell fd_l_sizes fd_l_kind fd_l_unit fd_l_turned fd_l_sum fd_l_rows fd_l_names fd_l_group fd_l_one fd_l_backs fd_l_thing fd_l_closed fd_l_chain fd_l_through fd_l_twice fd_l_kin fd_law : FuncData}
theorem sc_turned_by : FnScope ["group", "thing", "other"] ["group", "thing", "other"] (defScope s_turned_by) := ⟨rfl, rfl, rfl, by decide +kernel, rfl, by decide +kernel, by decide +kernel⟩
theorem sc_classes : FnScope ["group", "found", "seen", "thing", "kin", "one", "other"] ["group"] (defScope s_classes) := ⟨rfl, rfl, rfl, by decide +kernel, rfl, by decide +kernel, by decide +kernel⟩
theorem sc_Stranger_init : FnScope ["self", "row", "column"] ["self", "row", "column"] (defScope s_Stranger_init) := ⟨rfl, rfl, rfl, by decide +kernel, rfl, by decide +kernel, by decide +kernel⟩
theorem sc_NoBack_init : FnScope ["self", "thing"] ["self", "thing"] (defScope s_NoBack_init) := ⟨rfl, rfl, rfl, by decide +kernel, rfl, by decide +kernel, by decide +kernel⟩
theorem sc_NotTogether_init : FnScope ["self", "one", "two", "three"] ["self", "one", "two", "three"] (defScope s_NotTogether_init) := ⟨rfl, rfl, rfl, by decide +kernel, rfl, by decide +kernel, by decide +kernel⟩
theorem sc_NotSteady_init : FnScope ["self", "turner", "thing"] ["self", "turner", "thing"] (defScope s_NotSteady_init) := ⟨rfl, rfl, rfl, by decide +kernel, rfl, by decide +kernel, by decide +kernel⟩
theorem sc_Group_init : FnScope ["self", "rows", "unit", "backs"] ["self", "rows", "unit", "backs"] (defScope s_Group_init) := ⟨rfl, rfl, rfl, by decide +kernel, rfl, by decide +kernel, by decide +kernel⟩
theorem sc_look_at_size : FnScope ["table", "row"] ["table"] (defScope s_look_at_size) := ⟨rfl, rfl, rfl, by decide +kernel, rfl, by decide +kernel, by decide +kernel⟩
theorem sc_look_for_strangers : FnScope ["table", "a", "row", "b", "thing"] ["table"] (defScope s_look_for_strangers) := ⟨rfl, rfl, rfl, by decide +kernel, rfl, by decide +kernel, by decide +kernel⟩
theorem sc_unit_of : FnScope ["table", "e", "row", "a"] ["table"] (defScope s_unit_of) := ⟨rfl, rfl, rfl, by decide +kernel, rfl, by decide +kernel, by decide +kernel⟩
theorem sc_back_of : FnScope ["table", "unit", "thing", "other"] ["table", "unit", "thing"] (defScope s_back_of) := ⟨rfl, rfl, rfl, by decide +kernel, rfl, by decide +kernel, by decide +kernel⟩
theorem sc_look_at_threes : FnScope ["table", "one", "row", "two", "pair", "three", "thing"] ["table"] (defScope s_look_at_threes) := ⟨rfl, rfl, rfl, by decide +kernel, rfl, by decide +kernel, by decide +kernel⟩
theorem sc_group_of : FnScope ["table", "unit", "backs", "thing", "row"] ["table"] (defScope s_group_of) := ⟨rfl, rfl, rfl, by decide +kernel, rfl, by decide +kernel, by decide +kernel⟩
theorem sc_product : FnScope ["group", "things", "found", "thing"] ["group", "things"] (defScope s_product) := ⟨rfl, rfl, rfl, by decide +kernel, rfl, by decide +kernel, by decide +kernel⟩
theorem sc_look_at_part : FnScope ["group", "part", "inside", "last", "thing", "one", "other"] ["group", "part"] (defScope s_look_at_part) := ⟨rfl, rfl, rfl, by decide +kernel, rfl, by decide +kernel, by decide +kernel⟩
theorem sc_closure : FnScope ["group", "some", "words", "row", "at", "thing", "found", "part"] ["group", "some"] (defScope s_closure) := ⟨rfl, rfl, rfl, by decide +kernel, rfl, by decide +kernel, by decide +kernel⟩
theorem sc_mixed : FnScope ["group", "part", "some", "one", "other", "found"] ["group", "part"] (defScope s_mixed) := ⟨rfl, rfl, rfl, by decide +kernel, rfl, by decide +kernel, by decide +kernel⟩
theorem sc_sides : FnScope ["group", "part", "found", "seen", "thing", "row", "side", "one"] ["group", "part"] (defScope s_sides) := ⟨rfl, rfl, rfl, by decide +kernel, rfl, by decide +kernel, by decide +kernel⟩
theorem sc_way_out : FnScope ["group", "part", "one", "thing"] ["group", "part"] (defScope s_way_out) := ⟨rfl, rfl, rfl, by decide +kernel, rfl, by decide +kernel, by decide +kernel⟩
theorem sc_folded : FnScope ["group", "part", "out", "found", "homes", "k", "side", "thing", "rows", "one", "other"] ["group", "part"] (defScope s_folded) := ⟨rfl, rfl, rfl, by decide +kernel, rfl, by decide +kernel, by decide +kernel⟩
theorem sc_inner : FnScope ["group", "part", "rows", "one", "other", "thing"] ["group", "part"] (defScope s_inner) := ⟨rfl, rfl, rfl, by decide +kernel, rfl, by decide +kernel, by decide +kernel⟩
theorem sc_l_cell : FnScope ["_law_script", "_law_k"] ["_law_script", "_law_k"] (defScope s_l_cell) := ⟨rfl, rfl, rfl, by decide +kernel, rfl, by decide +kernel, by decide +kernel⟩
theorem sc_l_sizes : FnScope ["_law_one_here", "_law_two", "_law_number", "_law_some", "_law_top", "_law_steps", "_law_room", "_law_first", "_law_second", "_law_third"] ["_law_one_here", "_law_two"] (defScope s_l_sizes) := ⟨rfl, rfl, rfl, by decide +kernel, rfl, by decide +kernel, by decide +kernel⟩
theorem sc_l_kind : FnScope ["_law_sizes_here", "_law_number", "_law_kinds"] ["_law_sizes_here", "_law_number"] (defScope s_l_kind) := ⟨rfl, rfl, rfl, by decide +kernel, rfl, by decide +kernel, by decide +kernel⟩
theorem sc_l_unit : FnScope ["_law_many", "_law_steps", "_law_number", "_law_units", "_law_u", "_law_found", "_law_k"] ["_law_many", "_law_steps", "_law_number"] (defScope s_l_unit) := ⟨rfl, rfl, rfl, by decide +kernel, rfl, by decide +kernel, by decide +kernel⟩
theorem sc_l_turned : FnScope ["_law_place", "_law_sizes_here", "_law_kind_here", "_law_units", "_law_x", "_law_y", "_law_w"] ["_law_place", "_law_sizes_here", "_law_kind_here", "_law_units"] (defScope s_l_turned) := ⟨rfl, rfl, rfl, by decide +kernel, rfl, by decide +kernel, by decide +kernel⟩
theorem sc_l_sum : FnScope ["_law_one_here", "_law_other", "_law_sizes_here", "_law_both", "_law_x", "_law_y", "_law_w"] ["_law_one_here", "_law_other", "_law_sizes_here"] (defScope s_l_sum) := ⟨rfl, rfl, rfl, by decide +kernel, rfl, by decide +kernel, by decide +kernel⟩
theorem sc_l_rows : FnScope ["_law_sizes_here", "_law_turn", "_law_end", "_law_calm", "_law_rows_here", "_law_led", "_law_i", "_law_one_here", "_law_row", "_law_j", "_law_other", "_law_place"] ["_law_sizes_here", "_law_turn", "_law_end"] (defScope s_l_rows) := ⟨rfl, rfl, rfl, by decide +kernel, rfl, by decide +kernel, by decide +kernel⟩
theorem sc_l_names : FnScope ["_law_many", "_law_number", "_law_names_here", "_law_k"] ["_law_many", "_law_number"] (defScope s_l_names) := ⟨rfl, rfl, rfl, by decide +kernel, rfl, by decide +kernel, by decide +kernel⟩
theorem sc_l_group : FnScope ["_law_script", "_law_start", "_law_one_here", "_law_two", "_law_sizes_here", "_law_stirred", "_law_kind_here", "_law_units", "_law_k", "_law_calm", "_law_turn", "_law_end", "_law_rows_here", "_law_names_here", "_law_table", "_law_a", "_law_row", "_law_b", "_law_thing_here", "_law_place"] ["_law_script", "_law_start"] (defScope s_l_group) := ⟨rfl, rfl, rfl, by decide +kernel, rfl, by decide +kernel, by decide +kernel⟩
theorem sc_l_one : FnScope ["_law_table", "_law_thing_here"] ["_law_table"] (defScope s_l_one) := ⟨rfl, rfl, rfl, by decide +kernel, rfl, by decide +kernel, by decide +kernel⟩
theorem sc_l_backs : FnScope ["_law_table", "_law_one_here", "_law_row"] ["_law_table"] (defScope s_l_backs) := ⟨rfl, rfl, rfl, by decide +kernel, rfl, by decide +kernel, by decide +kernel⟩
theorem sc_l_thing : FnScope ["_law_cell_here", "_law_k", "_law_many", "_law_number"] ["_law_cell_here", "_law_k", "_law_many"] (defScope s_l_thing) := ⟨rfl, rfl, rfl, by decide +kernel, rfl, by decide +kernel, by decide +kernel⟩
theorem sc_l_closed : FnScope ["_law_table", "_law_some", "_law_found", "_law_at", "_law_one_here", "_law_thing_here"] ["_law_table", "_law_some"] (defScope s_l_closed) := ⟨rfl, rfl, rfl, by decide +kernel, rfl, by decide +kernel, by decide +kernel⟩
theorem sc_l_chain : FnScope ["_law_table", "_law_cells", "_law_backs_here", "_law_chain_here", "_law_cell_here", "_law_one_here", "_law_made", "_law_t"] ["_law_table", "_law_cells"] (defScope s_l_chain) := ⟨rfl, rfl, rfl, by decide +kernel, rfl, by decide +kernel, by decide +kernel⟩
theorem sc_l_through : FnScope ["_law_homes", "_law_some", "_law_one_here"] ["_law_homes", "_law_some"] (defScope s_l_through) := ⟨rfl, rfl, rfl, by decide +kernel, rfl, by decide +kernel, by decide +kernel⟩
theorem sc_l_twice : FnScope ["_law_group_here", "_law_less", "_law_more", "_law_top", "_law_homes", "_law_near", "_law_places", "_law_part", "_law_far", "_law_again", "_law_own", "_law_place", "_law_one_here"] ["_law_group_here", "_law_less", "_law_more"] (defScope s_l_twice) := ⟨rfl, rfl, rfl, by decide +kernel, rfl, by decide +kernel, by decide +kernel⟩
theorem sc_l_kin : FnScope ["_law_group_here", "_law_part", "_law_some", "_law_top", "_law_homes", "_law_told", "_law_kin_here", "_law_due", "_law_one_here"] ["_law_group_here", "_law_part", "_law_some"] (defScope s_l_kin) := ⟨rfl, rfl, rfl, by decide +kernel, rfl, by decide +kernel, by decide +kernel⟩
theorem sc_law : FnScope ["_law_script", "_law_table", "_law_group_here", "_law_chain_here", "_law_k", "_law_some", "_law_row", "_law_cell_here"] ["_law_script"] (defScope s_law) := ⟨rfl, rfl, rfl, by decide +kernel, rfl, by decide +kernel, by decide +kernel⟩
theorem ok_turned_by (T : Tx K mg cls a_turned_by a_classes a_Stranger_init a_NoBack_init a_NotTogether_init a_NotSteady_init a_Group_init a_look_at_size a_look_for_strangers a_unit_of a_back_of a_look_at_threes a_group_of a_product a_look_at_part a_closure a_mixed a_sides a_way_out a_folded a_inner a_l_cell a_l_sizes a_l_kind a_l_unit a_l_turned a_l_sum a_l_rows a_l_names a_l_group a_l_one a_l_backs a_l_thing a_l_closed a_l_chain a_l_through a_l_twice a_l_kin a_law fd_turned_by fd_classes fd_Stranger_init fd_NoBack_init fd_NotTogether_init fd_NotSteady_init fd_Group_init fd_look_at_size fd_look_for_strangers fd_unit_of fd_back_of fd_look_at_threes fd_group_of fd_product fd_look_at_part fd_closure fd_mixed fd_sides fd_way_out fd_folded fd_inner fd_l_cell fd_l_sizes fd_l_kind fd_l_unit fd_l_turned fd_l_sum fd_l_rows fd_l_names fd_l_group fd_l_one fd_l_backs fd_l_thing fd_l_closed fd_l_chain fd_l_through fd_l_twice fd_l_kin fd_law) : FnOk P w K mg base (L2.CX P w) 1 a_turned_by fd_turned_by ["group", "thing", "other"] (spOf ⟨K, cls⟩ T_turned_by) := by
  refine T.F_turned_by.okX sc_turned_by (spOf_len (n := 3) (ar_turned_by)) (fun cdv A outer s H vs Q E hr h => ⟨t_turned_by ⟨K, cls⟩ (fun c d _ H => E c d H), ?_, spOf_run (N := ["group", "thing", "other"]) (t := fun E => t_turned_by ⟨K, cls⟩ (fun c d _ H => E c d H)) (fun ss ok er hT => by rw [ar_turned_by ss ok er hT]; decide) (fun E ss ok er hT => w_turned_by ⟨K, cls⟩ _ ss ok er hT) vs H Q E h⟩)
  unfold t_turned_by
  exact (pss_one (ps_ret (pe_ix (go_ix (hu1 hr)) (pe_ix (go_ix (hu1 hr)) (pe_fld (pv 0) (by rfl)) (pe_ix (go_ix (hu1 hr)) (pe_ix (go_ix (hu1 hr)) (pe_fld (pv 0) (by rfl)) (pv 2) (fun _ _ => rfl)) (pv 1) (fun _ _ => rfl)) (fun _ _ => rfl)) (pe_ix (go_ix (hu1 hr)) (pe_fld (pv 0) (by rfl)) (pv 2) (fun _ _ => rfl)) (fun _ _ => rfl))))
theorem ok_classes (T : Tx K mg cls a_turned_by a_classes a_Stranger_init a_NoBack_init a_NotTogether_init a_NotSteady_init a_Group_init a_look_at_size a_look_for_strangers a_unit_of a_back_of a_look_at_threes a_group_of a_product a_look_at_part a_closure a_mixed a_sides a_way_out a_folded a_inner a_l_cell a_l_sizes a_l_kind a_l_unit a_l_turned a_l_sum a_l_rows a_l_names a_l_group a_l_one a_l_backs a_l_thing a_l_closed a_l_chain a_l_through a_l_twice a_l_kin a_law fd_turned_by fd_classes fd_Stranger_init fd_NoBack_init fd_NotTogether_init fd_NotSteady_init fd_Group_init fd_look_at_size fd_look_for_strangers fd_unit_of fd_back_of fd_look_at_threes fd_group_of fd_product fd_look_at_part fd_closure fd_mixed fd_sides fd_way_out fd_folded fd_inner fd_l_cell fd_l_sizes fd_l_kind fd_l_unit fd_l_turned fd_l_sum fd_l_rows fd_l_names fd_l_group fd_l_one fd_l_backs fd_l_thing fd_l_closed fd_l_chain fd_l_through fd_l_twice fd_l_kin fd_law) (G_turned_by : FnOk P w K mg base (L2.CX P w) 1 a_turned_by fd_turned_by ["group", "thing", "other"] (spOf ⟨K, cls⟩ T_turned_by)) : FnOk P w K mg base (L2.CX P w) 2 a_classes fd_classes ["group"] (spOf ⟨K, cls⟩ T_classes) := by
  refine T.F_classes.okX sc_classes (spOf_len (n := 1) (ar_classes)) (fun cdv A outer s H vs Q E hr h => ⟨t_classes ⟨K, cls⟩ (fun c d _ H => E c d H), ?_, spOf_run (N := ["group", "found", "seen", "thing", "kin", "one", "other"]) (t := fun E => t_classes ⟨K, cls⟩ (fun c d _ H => E c d H)) (fun ss ok er hT => by rw [ar_classes ss ok er hT]; decide) (fun E ss ok er hT => w_classes ⟨K, cls⟩ _ ss ok er hT) vs H Q E h⟩)
  unfold t_classes
  exact (pss_cons (ps_set (i := 1) sc_classes.nd (by rfl) (Or.inl rfl) (pe_lst pa_nil))
  (pss_cons (ps_set (i := 2) sc_classes.nd (by rfl) (Or.inl rfl) pe_dnewK)
  (pss_cons (ps_for (passes_of rfl) (by rfl) (pi_range1 (by rfl) T.b_range (pa_cons (pe_fld (pv 0) (by rfl)) pa_nil)) (pg_name (i := 3) sc_classes.nd (by rfl) (Or.inr rfl))
  (pss_one (ps_if (pt_cmpR (go_notIn (hu1 hr)) (pv 3) (pv 2) (by rfl))
  (pss_cons (ps_set (i := 4) sc_classes.nd (by rfl) (Or.inl rfl) (pe_sortedSet (by rfl) (by rfl) T.b_sorted (by rfl) T.b_set (pe_lc (by rfl) sc_classes.nd (pi_range1 (by rfl) T.b_range (pa_cons (pe_fld (pv 0) (by rfl)) pa_nil)) (blkOk_by (own := [("other", 6)]) (by (show blkC ["group", "found", "seen", "thing", "kin", "one", "other"] (defScope s_classes) _ _ = true); decide +kernel)) (fun _ _ _ _ _ => (pg_name (i := 6) sc_classes.nd (by rfl) (Or.inl rfl))) (fun _ _ _ _ _ => pts_nil) (fun _ _ _ _ _ => (pe_call G_turned_by (hr.mono (by decide)) (by rfl) T.g_turned_by T.k_turned_by T.b_turned_by .nil passL (pa_cons (pv 0) (pa_cons (pv 3) (pa_cons (pv 6) pa_nil))))))))
  (pss_cons (ps_for (passes_of rfl) (by rfl) (pi_list (pv 4)) (pg_name (i := 5) sc_classes.nd (by rfl) (Or.inl rfl))
  (pss_one (ps_asg pe_bl (pg_sub (pv 2) (pv 5) (gs_set (hu1 hr))))))
  (pss_one (ps_expr (pe_bm PySem.F.plainAttrs_list PySem.F.slot_list_append PySem.F.type_list_append mt_append (pv 1) (pa_cons (pv 4) pa_nil))))))
  pss_nil)))
  (pss_one (ps_ret (pv 1))))))
theorem ok_Stranger_init (T : Tx K mg cls a_turned_by a_classes a_Stranger_init a_NoBack_init a_NotTogether_init a_NotSteady_init a_Group_init a_look_at_size a_look_for_strangers a_unit_of a_back_of a_look_at_threes a_group_of a_product a_look_at_part a_closure a_mixed a_sides a_way_out a_folded a_inner a_l_cell a_l_sizes a_l_kind a_l_unit a_l_turned a_l_sum a_l_rows a_l_names a_l_group a_l_one a_l_backs a_l_thing a_l_closed a_l_chain a_l_through a_l_twice a_l_kin a_law fd_turned_by fd_classes fd_Stranger_init fd_NoBack_init fd_NotTogether_init fd_NotSteady_init fd_Group_init fd_look_at_size fd_look_for_strangers fd_unit_of fd_back_of fd_look_at_threes fd_group_of fd_product fd_look_at_part fd_closure fd_mixed fd_sides fd_way_out fd_folded fd_inner fd_l_cell fd_l_sizes fd_l_kind fd_l_unit fd_l_turned fd_l_sum fd_l_rows fd_l_names fd_l_group fd_l_one fd_l_backs fd_l_thing fd_l_closed fd_l_chain fd_l_through fd_l_twice fd_l_kin fd_law) : FnOk P w K mg base (L2.CX P w) 1 a_Stranger_init fd_Stranger_init ["self", "row", "column"] (spXI (cls .Stranger) ["row", "column"]) := by
  refine T.F_Stranger_init.okX sc_Stranger_init (fun vs H Q E h => ?_) (fun cdv A outer s H vs Q E hr h => ⟨_, ?_, xi_two (K := K) (N := ["self", "row", "column"]) rfl T.O_Stranger T.n_Stranger_row T.n_Stranger_column vs H Q E h⟩)
  · obtain ⟨a, ws, rfl, hl, _⟩ := h
    exact congrArg Nat.succ hl
  · exact (pss_cons (ps_ost (pv 0) (pv 1) (by rfl)) (pss_one (ps_ost (pv 0) (pv 2) (by rfl))))
theorem ok_NoBack_init (T : Tx K mg cls a_turned_by a_classes a_Stranger_init a_NoBack_init a_NotTogether_init a_NotSteady_init a_Group_init a_look_at_size a_look_for_strangers a_unit_of a_back_of a_look_at_threes a_group_of a_product a_look_at_part a_closure a_mixed a_sides a_way_out a_folded a_inner a_l_cell a_l_sizes a_l_kind a_l_unit a_l_turned a_l_sum a_l_rows a_l_names a_l_group a_l_one a_l_backs a_l_thing a_l_closed a_l_chain a_l_through a_l_twice a_l_kin a_law fd_turned_by fd_classes fd_Stranger_init fd_NoBack_init fd_NotTogether_init fd_NotSteady_init fd_Group_init fd_look_at_size fd_look_for_strangers fd_unit_of fd_back_of fd_look_at_threes fd_group_of fd_product fd_look_at_part fd_closure fd_mixed fd_sides fd_way_out fd_folded fd_inner fd_l_cell fd_l_sizes fd_l_kind fd_l_unit fd_l_turned fd_l_sum fd_l_rows fd_l_names fd_l_group fd_l_one fd_l_backs fd_l_thing fd_l_closed fd_l_chain fd_l_through fd_l_twice fd_l_kin fd_law) : FnOk P w K mg base (L2.CX P w) 1 a_NoBack_init fd_NoBack_init ["self", "thing"] (spXI (cls .NoBack) ["thing"]) := by
  refine T.F_NoBack_init.okX sc_NoBack_init (fun vs H Q E h => ?_) (fun cdv A outer s H vs Q E hr h => ⟨_, ?_, xi_one (K := K) (N := ["self", "thing"]) rfl T.O_NoBack T.n_NoBack_thing vs H Q E h⟩)
  · obtain ⟨a, ws, rfl, hl, _⟩ := h
    exact congrArg Nat.succ hl
  · exact (pss_one (ps_ost (pv 0) (pv 1) (by rfl)))
theorem ok_NotTogether_init (T : Tx K mg cls a_turned_by a_classes a_Stranger_init a_NoBack_init a_NotTogether_init a_NotSteady_init a_Group_init a_look_at_size a_look_for_strangers a_unit_of a_back_of a_look_at_threes a_group_of a_product a_look_at_part a_closure a_mixed a_sides a_way_out a_folded a_inner a_l_cell a_l_sizes a_l_kind a_l_unit a_l_turned a_l_sum a_l_rows a_l_names a_l_group a_l_one a_l_backs a_l_thing a_l_closed a_l_chain a_l_through a_l_twice a_l_kin a_law fd_turned_by fd_classes fd_Stranger_init fd_NoBack_init fd_NotTogether_init fd_NotSteady_init fd_Group_init fd_look_at_size fd_look_for_strangers fd_unit_of fd_back_of fd_look_at_threes fd_group_of fd_product fd_look_at_part fd_closure fd_mixed fd_sides fd_way_out fd_folded fd_inner fd_l_cell fd_l_sizes fd_l_kind fd_l_unit fd_l_turned fd_l_sum fd_l_rows fd_l_names fd_l_group fd_l_one fd_l_backs fd_l_thing fd_l_closed fd_l_chain fd_l_through fd_l_twice fd_l_kin fd_law) : FnOk P w K mg base (L2.CX P w) 1 a_NotTogether_init fd_NotTogether_init ["self", "one", "two", "three"] (spXI (cls .NotTogether) ["one", "two", "three"]) := by
  refine T.F_NotTogether_init.okX sc_NotTogether_init (fun vs H Q E h => ?_) (fun cdv A outer s H vs Q E hr h => ⟨_, ?_, xi_three (K := K) (N := ["self", "one", "two", "three"]) rfl T.O_NotTogether T.n_NotTogether_one T.n_NotTogether_two T.n_NotTogether_three vs H Q E h⟩)
  · obtain ⟨a, ws, rfl, hl, _⟩ := h
    exact congrArg Nat.succ hl
  · exact (pss_cons (ps_ost (pv 0) (pv 1) (by rfl)) (pss_cons (ps_ost (pv 0) (pv 2) (by rfl)) (pss_one (ps_ost (pv 0) (pv 3) (by rfl)))))
theorem ok_NotSteady_init (T : Tx K mg cls a_turned_by a_classes a_Stranger_init a_NoBack_init a_NotTogether_init a_NotSteady_init a_Group_init a_look_at_size a_look_for_strangers a_unit_of a_back_of a_look_at_threes a_group_of a_product a_look_at_part a_closure a_mixed a_sides a_way_out a_folded a_inner a_l_cell a_l_sizes a_l_kind a_l_unit a_l_turned a_l_sum a_l_rows a_l_names a_l_group a_l_one a_l_backs a_l_thing a_l_closed a_l_chain a_l_through a_l_twice a_l_kin a_law fd_turned_by fd_classes fd_Stranger_init fd_NoBack_init fd_NotTogether_init fd_NotSteady_init fd_Group_init fd_look_at_size fd_look_for_strangers fd_unit_of fd_back_of fd_look_at_threes fd_group_of fd_product fd_look_at_part fd_closure fd_mixed fd_sides fd_way_out fd_folded fd_inner fd_l_cell fd_l_sizes fd_l_kind fd_l_unit fd_l_turned fd_l_sum fd_l_rows fd_l_names fd_l_group fd_l_one fd_l_backs fd_l_thing fd_l_closed fd_l_chain fd_l_through fd_l_twice fd_l_kin fd_law) : FnOk P w K mg base (L2.CX P w) 1 a_NotSteady_init fd_NotSteady_init ["self", "turner", "thing"] (spXI (cls .NotSteady) ["turner", "thing"]) := by
  refine T.F_NotSteady_init.okX sc_NotSteady_init (fun vs H Q E h => ?_) (fun cdv A outer s H vs Q E hr h => ⟨_, ?_, xi_two (K := K) (N := ["self", "turner", "thing"]) rfl T.O_NotSteady T.n_NotSteady_turner T.n_NotSteady_thing vs H Q E h⟩)
  · obtain ⟨a, ws, rfl, hl, _⟩ := h
    exact congrArg Nat.succ hl
  · exact (pss_cons (ps_ost (pv 0) (pv 1) (by rfl)) (pss_one (ps_ost (pv 0) (pv 2) (by rfl))))
theorem ok_Group_init (T : Tx K mg cls a_turned_by a_classes a_Stranger_init a_NoBack_init a_NotTogether_init a_NotSteady_init a_Group_init a_look_at_size a_look_for_strangers a_unit_of a_back_of a_look_at_threes a_group_of a_product a_look_at_part a_closure a_mixed a_sides a_way_out a_folded a_inner a_l_cell a_l_sizes a_l_kind a_l_unit a_l_turned a_l_sum a_l_rows a_l_names a_l_group a_l_one a_l_backs a_l_thing a_l_closed a_l_chain a_l_through a_l_twice a_l_kin a_law fd_turned_by fd_classes fd_Stranger_init fd_NoBack_init fd_NotTogether_init fd_NotSteady_init fd_Group_init fd_look_at_size fd_look_for_strangers fd_unit_of fd_back_of fd_look_at_threes fd_group_of fd_product fd_look_at_part fd_closure fd_mixed fd_sides fd_way_out fd_folded fd_inner fd_l_cell fd_l_sizes fd_l_kind fd_l_unit fd_l_turned fd_l_sum fd_l_rows fd_l_names fd_l_group fd_l_one fd_l_backs fd_l_thing fd_l_closed fd_l_chain fd_l_through fd_l_twice fd_l_kin fd_law) : FnOk P w K mg base (L2.CX P w) 1 a_Group_init fd_Group_init ["self", "rows", "unit", "backs"] (spI_Group ⟨K, cls⟩) := by
  refine T.F_Group_init.okX sc_Group_init (fun vs H Q E h => ?_) (fun cdv A outer s H vs Q E hr h => ⟨_, ?_, pure_Group_init (Z := ⟨K, cls⟩) (N := ["self", "rows", "unit", "backs"]) rfl vs H Q E h⟩)
  · obtain ⟨x, dx, l, xs, u, b, rfl, _⟩ := h
    rfl
  · exact (pss_cons (ps_fld (pv 0) (pe_callB gc_len (by rfl) T.b_len (by decide +kernel) (pa_cons (pv 1) pa_nil)) (by rfl))
  (pss_cons (ps_fld (pv 0) (pv 1) (by rfl))
  (pss_cons (ps_fld (pv 0) (pv 2) (by rfl))
  (pss_one (ps_fld (pv 0) (pv 3) (by rfl))))))
theorem ok_look_at_size (T : Tx K mg cls a_turned_by a_classes a_Stranger_init a_NoBack_init a_NotTogether_init a_NotSteady_init a_Group_init a_look_at_size a_look_for_strangers a_unit_of a_back_of a_look_at_threes a_group_of a_product a_look_at_part a_closure a_mixed a_sides a_way_out a_folded a_inner a_l_cell a_l_sizes a_l_kind a_l_unit a_l_turned a_l_sum a_l_rows a_l_names a_l_group a_l_one a_l_backs a_l_thing a_l_closed a_l_chain a_l_through a_l_twice a_l_kin a_law fd_turned_by fd_classes fd_Stranger_init fd_NoBack_init fd_NotTogether_init fd_NotSteady_init fd_Group_init fd_look_at_size fd_look_for_strangers fd_unit_of fd_back_of fd_look_at_threes fd_group_of fd_product fd_look_at_part fd_closure fd_mixed fd_sides fd_way_out fd_folded fd_inner fd_l_cell fd_l_sizes fd_l_kind fd_l_unit fd_l_turned fd_l_sum fd_l_rows fd_l_names fd_l_group fd_l_one fd_l_backs fd_l_thing fd_l_closed fd_l_chain fd_l_through fd_l_twice fd_l_kin fd_law) : FnOk P w K mg base (L2.CX P w) 1 a_look_at_size fd_look_at_size ["table"] (spOf ⟨K, cls⟩ T_look_at_size) := by
  refine T.F_look_at_size.okX sc_look_at_size (spOf_len (n := 1) (ar_look_at_size)) (fun cdv A outer s H vs Q E hr h => ⟨t_look_at_size ⟨K, cls⟩ (fun c d _ H => E c d H), ?_, spOf_run (N := ["table", "row"]) (t := fun E => t_look_at_size ⟨K, cls⟩ (fun c d _ H => E c d H)) (fun ss ok er hT => by rw [ar_look_at_size ss ok er hT]; decide) (fun E ss ok er hT => w_look_at_size ⟨K, cls⟩ _ ss ok er hT) vs H Q E h⟩)
  unfold t_look_at_size
  exact (pss_cons (ps_if (PW.pt (pw_or (pt_cmpR go_lt (pe_callB gc_len (by rfl) T.b_len (by decide +kernel) (pa_cons (pv 0) pa_nil)) pe_int (nomark _)) (pw_or1 (pt_cmpR go_gt (pe_callB gc_len (by rfl) T.b_len (by decide +kernel) (pa_cons (pv 0) pa_nil)) (pe_glob (by rfl) T.g_MOST.choose_spec ⟨_, rfl⟩) (nomark _)))))
  (pss_one (ps_raise (by rfl) (takes_of rfl rfl rfl rfl) (pmk_own PySem.F.excBase_ValueError T.x_BadSize T.g_BadSize T.k_BadSize (raises_own T.r_BadSize T.rt_BadSize) (by rfl))))
  pss_nil)
  (pss_one (ps_for (passes_of rfl) (by rfl) (pi_list (pv 0)) (pg_name (i := 1) sc_look_at_size.nd (by rfl) (Or.inl rfl))
  (pss_one (ps_if (pt_cmpR (go_ne (hu64 hr)) (pe_callB gc_len (by rfl) T.b_len (by decide +kernel) (pa_cons (pv 1) pa_nil)) (pe_callB gc_len (by rfl) T.b_len (by decide +kernel) (pa_cons (pv 0) pa_nil)) (nomark _))
  (pss_one (ps_raise (by rfl) (takes_of rfl rfl rfl rfl) (pmk_own PySem.F.excBase_ValueError T.x_BadSize T.g_BadSize T.k_BadSize (raises_own T.r_BadSize T.rt_BadSize) (by rfl))))
  pss_nil)))))
theorem ok_look_for_strangers (T : Tx K mg cls a_turned_by a_classes a_Stranger_init a_NoBack_init a_NotTogether_init a_NotSteady_init a_Group_init a_look_at_size a_look_for_strangers a_unit_of a_back_of a_look_at_threes a_group_of a_product a_look_at_part a_closure a_mixed a_sides a_way_out a_folded a_inner a_l_cell a_l_sizes a_l_kind a_l_unit a_l_turned a_l_sum a_l_rows a_l_names a_l_group a_l_one a_l_backs a_l_thing a_l_closed a_l_chain a_l_through a_l_twice a_l_kin a_law fd_turned_by fd_classes fd_Stranger_init fd_NoBack_init fd_NotTogether_init fd_NotSteady_init fd_Group_init fd_look_at_size fd_look_for_strangers fd_unit_of fd_back_of fd_look_at_threes fd_group_of fd_product fd_look_at_part fd_closure fd_mixed fd_sides fd_way_out fd_folded fd_inner fd_l_cell fd_l_sizes fd_l_kind fd_l_unit fd_l_turned fd_l_sum fd_l_rows fd_l_names fd_l_group fd_l_one fd_l_backs fd_l_thing fd_l_closed fd_l_chain fd_l_through fd_l_twice fd_l_kin fd_law) (G_Stranger_init : FnOk P w K mg base (L2.CX P w) 1 a_Stranger_init fd_Stranger_init ["self", "row", "column"] (spXI (cls .Stranger) ["row", "column"])) : FnOk P w K mg base (L2.CX P w) 3 a_look_for_strangers fd_look_for_strangers ["table"] (spOf ⟨K, cls⟩ T_look_for_strangers) := by
  refine T.F_look_for_strangers.okX sc_look_for_strangers (spOf_len (n := 1) (ar_look_for_strangers)) (fun cdv A outer s H vs Q E hr h => ⟨t_look_for_strangers ⟨K, cls⟩ (fun c d _ H => E c d H), ?_, spOf_run (N := ["table", "a", "row", "b", "thing"]) (t := fun E => t_look_for_strangers ⟨K, cls⟩ (fun c d _ H => E c d H)) (fun ss ok er hT => by rw [ar_look_for_strangers ss ok er hT]; decide) (fun E ss ok er hT => w_look_for_strangers ⟨K, cls⟩ _ ss ok er hT) vs H Q E h⟩)
  unfold t_look_for_strangers
  exact (pss_one (ps_for (passes_of rfl) (by rfl) (pi_enum (by rfl) T.b_enumerate (pa_cons (pv 0) pa_nil)) (pg_tup (by rfl) (pgs_cons (pg_name (i := 1) sc_look_for_strangers.nd (by rfl) (Or.inl rfl)) (pgs_cons (pg_name (i := 2) sc_look_for_strangers.nd (by rfl) (Or.inl rfl)) pgs_nil)))
  (pss_one (ps_for (passes_of rfl) (by rfl) (pi_enum (by rfl) T.b_enumerate (pa_cons (pv 2) pa_nil)) (pg_tup (by rfl) (pgs_cons (pg_name (i := 3) sc_look_for_strangers.nd (by rfl) (Or.inl rfl)) (pgs_cons (pg_name (i := 4) sc_look_for_strangers.nd (by rfl) (Or.inl rfl)) pgs_nil)))
  (pss_one (ps_if (PW.pt (pw_or (pt_cmpR go_lt (pv 4) pe_int (nomark _)) (pw_or1 (pt_cmpR go_ge (pv 4) (pe_callB gc_len (by rfl) T.b_len (by decide +kernel) (pa_cons (pv 0) pa_nil)) (nomark _)))))
  (pss_one (ps_raise (by rfl) (takes_of rfl rfl rfl rfl) (pmk_oex T.O_Stranger T.i_Stranger T.ti_Stranger G_Stranger_init (hr.mono (by decide)) T.b_Stranger_init .nil passL (by rfl) T.g_Stranger (pa_cons (pv 1) (pa_cons (pv 3) pa_nil)))))
  pss_nil))))))
theorem ok_unit_of (T : Tx K mg cls a_turned_by a_classes a_Stranger_init a_NoBack_init a_NotTogether_init a_NotSteady_init a_Group_init a_look_at_size a_look_for_strangers a_unit_of a_back_of a_look_at_threes a_group_of a_product a_look_at_part a_closure a_mixed a_sides a_way_out a_folded a_inner a_l_cell a_l_sizes a_l_kind a_l_unit a_l_turned a_l_sum a_l_rows a_l_names a_l_group a_l_one a_l_backs a_l_thing a_l_closed a_l_chain a_l_through a_l_twice a_l_kin a_law fd_turned_by fd_classes fd_Stranger_init fd_NoBack_init fd_NotTogether_init fd_NotSteady_init fd_Group_init fd_look_at_size fd_look_for_strangers fd_unit_of fd_back_of fd_look_at_threes fd_group_of fd_product fd_look_at_part fd_closure fd_mixed fd_sides fd_way_out fd_folded fd_inner fd_l_cell fd_l_sizes fd_l_kind fd_l_unit fd_l_turned fd_l_sum fd_l_rows fd_l_names fd_l_group fd_l_one fd_l_backs fd_l_thing fd_l_closed fd_l_chain fd_l_through fd_l_twice fd_l_kin fd_law) : FnOk P w K mg base (L2.CX P w) 1 a_unit_of fd_unit_of ["table"] (spOf ⟨K, cls⟩ T_unit_of) := by
  refine T.F_unit_of.okX sc_unit_of (spOf_len (n := 1) (ar_unit_of)) (fun cdv A outer s H vs Q E hr h => ⟨t_unit_of ⟨K, cls⟩ (fun c d _ H => E c d H), ?_, spOf_run (N := ["table", "e", "row", "a"]) (t := fun E => t_unit_of ⟨K, cls⟩ (fun c d _ H => E c d H)) (fun ss ok er hT => by rw [ar_unit_of ss ok er hT]; decide) (fun E ss ok er hT => w_unit_of ⟨K, cls⟩ _ ss ok er hT) vs H Q E h⟩)
  unfold t_unit_of
  exact (pss_cons (ps_for (passes_of rfl) (by rfl) (pi_enum (by rfl) T.b_enumerate (pa_cons (pv 0) pa_nil)) (pg_tup (by rfl) (pgs_cons (pg_name (i := 1) sc_unit_of.nd (by rfl) (Or.inr rfl)) (pgs_cons (pg_name (i := 2) sc_unit_of.nd (by rfl) (Or.inr rfl)) pgs_nil)))
  (pss_one (ps_if (pt_val (pe_callB (cr_all (by rfl)) (by rfl) T.b_all (by decide +kernel) (pa_cons (pe_lc (by rfl) sc_unit_of.nd (pi_range1 (by rfl) T.b_range (pa_cons (pe_callB gc_len (by rfl) T.b_len (by decide +kernel) (pa_cons (pv 0) pa_nil)) pa_nil)) (blkOk_by (own := [("a", 3)]) (by (show blkC ["table", "e", "row", "a"] (defScope s_unit_of) _ _ = true); decide +kernel)) (fun _ _ _ _ _ => (pg_name (i := 3) sc_unit_of.nd (by rfl) (Or.inl rfl))) (fun _ _ _ _ _ => pts_nil) (fun _ _ _ _ _ => (pe_and (pe_cmpR (go_eq (hu64 hr)) (pe_ix (go_ix (hu1 hr)) (pv 2) (pv 3) (fun _ _ => rfl)) (pv 3) (nomark _)) (pe_one (pe_cmpR (go_eq (hu64 hr)) (pe_ix (go_ix (hu1 hr)) (pe_ix (go_ix (hu1 hr)) (pv 0) (pv 3) (fun _ _ => rfl)) (pv 1) (fun _ _ => rfl)) (pv 3) (nomark _)))))) pa_nil)))
  (pss_one (ps_ret (pv 1)))
  pss_nil)))
  (pss_one (ps_raise (by rfl) (takes_of rfl rfl rfl rfl) (pmk_own PySem.F.excBase_ValueError T.x_NoUnit T.g_NoUnit T.k_NoUnit (raises_own T.r_NoUnit T.rt_NoUnit) (by rfl)))))
theorem ok_back_of (T : Tx K mg cls a_turned_by a_classes a_Stranger_init a_NoBack_init a_NotTogether_init a_NotSteady_init a_Group_init a_look_at_size a_look_for_strangers a_unit_of a_back_of a_look_at_threes a_group_of a_product a_look_at_part a_closure a_mixed a_sides a_way_out a_folded a_inner a_l_cell a_l_sizes a_l_kind a_l_unit a_l_turned a_l_sum a_l_rows a_l_names a_l_group a_l_one a_l_backs a_l_thing a_l_closed a_l_chain a_l_through a_l_twice a_l_kin a_law fd_turned_by fd_classes fd_Stranger_init fd_NoBack_init fd_NotTogether_init fd_NotSteady_init fd_Group_init fd_look_at_size fd_look_for_strangers fd_unit_of fd_back_of fd_look_at_threes fd_group_of fd_product fd_look_at_part fd_closure fd_mixed fd_sides fd_way_out fd_folded fd_inner fd_l_cell fd_l_sizes fd_l_kind fd_l_unit fd_l_turned fd_l_sum fd_l_rows fd_l_names fd_l_group fd_l_one fd_l_backs fd_l_thing fd_l_closed fd_l_chain fd_l_through fd_l_twice fd_l_kin fd_law) (G_NoBack_init : FnOk P w K mg base (L2.CX P w) 1 a_NoBack_init fd_NoBack_init ["self", "thing"] (spXI (cls .NoBack) ["thing"])) : FnOk P w K mg base (L2.CX P w) 3 a_back_of fd_back_of ["table", "unit", "thing"] (spOf ⟨K, cls⟩ T_back_of) := by
  refine T.F_back_of.okX sc_back_of (spOf_len (n := 3) (ar_back_of)) (fun cdv A outer s H vs Q E hr h => ⟨t_back_of ⟨K, cls⟩ (fun c d _ H => E c d H), ?_, spOf_run (N := ["table", "unit", "thing", "other"]) (t := fun E => t_back_of ⟨K, cls⟩ (fun c d _ H => E c d H)) (fun ss ok er hT => by rw [ar_back_of ss ok er hT]; decide) (fun E ss ok er hT => w_back_of ⟨K, cls⟩ _ ss ok er hT) vs H Q E h⟩)
  unfold t_back_of
  exact (pss_cons (ps_for (passes_of rfl) (by rfl) (pi_range1 (by rfl) T.b_range (pa_cons (pe_callB gc_len (by rfl) T.b_len (by decide +kernel) (pa_cons (pv 0) pa_nil)) pa_nil)) (pg_name (i := 3) sc_back_of.nd (by rfl) (Or.inl rfl))
  (pss_one (ps_if (PW.pt (pw_and (pt_cmpR (go_eq (hu64 hr)) (pe_ix (go_ix (hu1 hr)) (pe_ix (go_ix (hu1 hr)) (pv 0) (pv 2) (fun _ _ => rfl)) (pv 3) (fun _ _ => rfl)) (pv 1) (nomark _)) (pw_and1 (pt_cmpR (go_eq (hu64 hr)) (pe_ix (go_ix (hu1 hr)) (pe_ix (go_ix (hu1 hr)) (pv 0) (pv 3) (fun _ _ => rfl)) (pv 2) (fun _ _ => rfl)) (pv 1) (nomark _)))))
  (pss_one (ps_ret (pv 3)))
  pss_nil)))
  (pss_one (ps_raise (by rfl) (takes_of rfl rfl rfl rfl) (pmk_oex T.O_NoBack T.i_NoBack T.ti_NoBack G_NoBack_init (hr.mono (by decide)) T.b_NoBack_init .nil passL (by rfl) T.g_NoBack (pa_cons (pv 2) pa_nil)))))
theorem ok_look_at_threes (T : Tx K mg cls a_turned_by a_classes a_Stranger_init a_NoBack_init a_NotTogether_init a_NotSteady_init a_Group_init a_look_at_size a_look_for_strangers a_unit_of a_back_of a_look_at_threes a_group_of a_product a_look_at_part a_closure a_mixed a_sides a_way_out a_folded a_inner a_l_cell a_l_sizes a_l_kind a_l_unit a_l_turned a_l_sum a_l_rows a_l_names a_l_group a_l_one a_l_backs a_l_thing a_l_closed a_l_chain a_l_through a_l_twice a_l_kin a_law fd_turned_by fd_classes fd_Stranger_init fd_NoBack_init fd_NotTogether_init fd_NotSteady_init fd_Group_init fd_look_at_size fd_look_for_strangers fd_unit_of fd_back_of fd_look_at_threes fd_group_of fd_product fd_look_at_part fd_closure fd_mixed fd_sides fd_way_out fd_folded fd_inner fd_l_cell fd_l_sizes fd_l_kind fd_l_unit fd_l_turned fd_l_sum fd_l_rows fd_l_names fd_l_group fd_l_one fd_l_backs fd_l_thing fd_l_closed fd_l_chain fd_l_through fd_l_twice fd_l_kin fd_law) (G_NotTogether_init : FnOk P w K mg base (L2.CX P w) 1 a_NotTogether_init fd_NotTogether_init ["self", "one", "two", "three"] (spXI (cls .NotTogether) ["one", "two", "three"])) : FnOk P w K mg base (L2.CX P w) 3 a_look_at_threes fd_look_at_threes ["table"] (spOf ⟨K, cls⟩ T_look_at_threes) := by
  refine T.F_look_at_threes.okX sc_look_at_threes (spOf_len (n := 1) (ar_look_at_threes)) (fun cdv A outer s H vs Q E hr h => ⟨t_look_at_threes ⟨K, cls⟩ (fun c d _ H => E c d H), ?_, spOf_run (N := ["table", "one", "row", "two", "pair", "three", "thing"]) (t := fun E => t_look_at_threes ⟨K, cls⟩ (fun c d _ H => E c d H)) (fun ss ok er hT => by rw [ar_look_at_threes ss ok er hT]; decide) (fun E ss ok er hT => w_look_at_threes ⟨K, cls⟩ _ ss ok er hT) vs H Q E h⟩)
  unfold t_look_at_threes
  exact (pss_one (ps_for (passes_of rfl) (by rfl) (pi_enum (by rfl) T.b_enumerate (pa_cons (pv 0) pa_nil)) (pg_tup (by rfl) (pgs_cons (pg_name (i := 1) sc_look_at_threes.nd (by rfl) (Or.inl rfl)) (pgs_cons (pg_name (i := 2) sc_look_at_threes.nd (by rfl) (Or.inl rfl)) pgs_nil)))
  (pss_one (ps_for (passes_of rfl) (by rfl) (pi_enum (by rfl) T.b_enumerate (pa_cons (pv 2) pa_nil)) (pg_tup (by rfl) (pgs_cons (pg_name (i := 3) sc_look_at_threes.nd (by rfl) (Or.inl rfl)) (pgs_cons (pg_name (i := 4) sc_look_at_threes.nd (by rfl) (Or.inl rfl)) pgs_nil)))
  (pss_one (ps_for (passes_of rfl) (by rfl) (pi_enum (by rfl) T.b_enumerate (pa_cons (pe_ix (go_ix (hu1 hr)) (pv 0) (pv 3) (fun _ _ => rfl)) pa_nil)) (pg_tup (by rfl) (pgs_cons (pg_name (i := 5) sc_look_at_threes.nd (by rfl) (Or.inl rfl)) (pgs_cons (pg_name (i := 6) sc_look_at_threes.nd (by rfl) (Or.inl rfl)) pgs_nil)))
  (pss_one (ps_if (pt_cmpR (go_ne (hu64 hr)) (pe_ix (go_ix (hu1 hr)) (pe_ix (go_ix (hu1 hr)) (pv 0) (pv 4) (fun _ _ => rfl)) (pv 5) (fun _ _ => rfl)) (pe_ix (go_ix (hu1 hr)) (pv 2) (pv 6) (fun _ _ => rfl)) (nomark _))
  (pss_one (ps_raise (by rfl) (takes_of rfl rfl rfl rfl) (pmk_oex T.O_NotTogether T.i_NotTogether T.ti_NotTogether G_NotTogether_init (hr.mono (by decide)) T.b_NotTogether_init .nil passL (by rfl) T.g_NotTogether (pa_cons (pv 1) (pa_cons (pv 3) (pa_cons (pv 5) pa_nil))))))
  pss_nil))))))))
theorem ok_group_of (T : Tx K mg cls a_turned_by a_classes a_Stranger_init a_NoBack_init a_NotTogether_init a_NotSteady_init a_Group_init a_look_at_size a_look_for_strangers a_unit_of a_back_of a_look_at_threes a_group_of a_product a_look_at_part a_closure a_mixed a_sides a_way_out a_folded a_inner a_l_cell a_l_sizes a_l_kind a_l_unit a_l_turned a_l_sum a_l_rows a_l_names a_l_group a_l_one a_l_backs a_l_thing a_l_closed a_l_chain a_l_through a_l_twice a_l_kin a_law fd_turned_by fd_classes fd_Stranger_init fd_NoBack_init fd_NotTogether_init fd_NotSteady_init fd_Group_init fd_look_at_size fd_look_for_strangers fd_unit_of fd_back_of fd_look_at_threes fd_group_of fd_product fd_look_at_part fd_closure fd_mixed fd_sides fd_way_out fd_folded fd_inner fd_l_cell fd_l_sizes fd_l_kind fd_l_unit fd_l_turned fd_l_sum fd_l_rows fd_l_names fd_l_group fd_l_one fd_l_backs fd_l_thing fd_l_closed fd_l_chain fd_l_through fd_l_twice fd_l_kin fd_law) (G_Group_init : FnOk P w K mg base (L2.CX P w) 1 a_Group_init fd_Group_init ["self", "rows", "unit", "backs"] (spI_Group ⟨K, cls⟩)) (G_look_at_size : FnOk P w K mg base (L2.CX P w) 1 a_look_at_size fd_look_at_size ["table"] (spOf ⟨K, cls⟩ T_look_at_size)) (G_look_for_strangers : FnOk P w K mg base (L2.CX P w) 3 a_look_for_strangers fd_look_for_strangers ["table"] (spOf ⟨K, cls⟩ T_look_for_strangers)) (G_unit_of : FnOk P w K mg base (L2.CX P w) 1 a_unit_of fd_unit_of ["table"] (spOf ⟨K, cls⟩ T_unit_of)) (G_back_of : FnOk P w K mg base (L2.CX P w) 3 a_back_of fd_back_of ["table", "unit", "thing"] (spOf ⟨K, cls⟩ T_back_of)) (G_look_at_threes : FnOk P w K mg base (L2.CX P w) 3 a_look_at_threes fd_look_at_threes ["table"] (spOf ⟨K, cls⟩ T_look_at_threes)) : FnOk P w K mg base (L2.CX P w) 4 a_group_of fd_group_of ["table"] (spOf ⟨K, cls⟩ T_group_of) := by
  refine T.F_group_of.okX sc_group_of (spOf_len (n := 1) (ar_group_of)) (fun cdv A outer s H vs Q E hr h => ⟨t_group_of ⟨K, cls⟩ (fun c d _ H => E c d H), ?_, spOf_run (N := ["table", "unit", "backs", "thing", "row"]) (t := fun E => t_group_of ⟨K, cls⟩ (fun c d _ H => E c d H)) (fun ss ok er hT => by rw [ar_group_of ss ok er hT]; decide) (fun E ss ok er hT => w_group_of T.grpC _ ss ok er hT) vs H Q E h⟩)
  unfold t_group_of
  exact (pss_cons (ps_expr (pe_callSD G_look_at_size (hr.mono (by decide)) (by rfl) T.g_look_at_size T.k_look_at_size T.b_look_at_size .nil (fun σ => passAt (takes_of rfl rfl rfl rfl) σ) (pa_cons (pv 0) pa_nil)))
  (pss_cons (ps_expr (pe_callSD G_look_for_strangers (hr.mono (by decide)) (by rfl) T.g_look_for_strangers T.k_look_for_strangers T.b_look_for_strangers .nil (fun σ => passAt (takes_of rfl rfl rfl rfl) σ) (pa_cons (pv 0) pa_nil)))
  (pss_cons (ps_set (i := 1) sc_group_of.nd (by rfl) (Or.inr rfl) (pe_callSD G_unit_of (hr.mono (by decide)) (by rfl) T.g_unit_of T.k_unit_of T.b_unit_of .nil (fun σ => passAt (takes_of rfl rfl rfl rfl) σ) (pa_cons (pv 0) pa_nil)))
  (pss_cons (ps_setLc (i := 2) (by rfl) sc_group_of.nd (by rfl) (by rfl) (sw_true rfl rfl rfl (by decide +kernel)) (pi_range1 (by rfl) T.b_range (pa_cons (pe_callB gc_len (by rfl) T.b_len (by decide +kernel) (pa_cons (pv 0) pa_nil)) pa_nil)) (blkOk_by (own := [("thing", 3)]) (by (show blkC ["table", "unit", "backs", "thing", "row"] (defScope s_group_of) _ _ = true); decide +kernel)) (fun _ _ _ _ _ => (pg_name (i := 3) sc_group_of.nd (by rfl) (Or.inl rfl))) (fun _ _ _ _ _ => pts_nil) (fun _ _ _ _ _ => (pe_call G_back_of (hr.mono (by decide)) (by rfl) T.g_back_of T.k_back_of T.b_back_of .nil passL (pa_cons (pv 0) (pa_cons (pv 1) (pa_cons (pv 3) pa_nil))))))
  (pss_cons (ps_expr (pe_callSD G_look_at_threes (hr.mono (by decide)) (by rfl) T.g_look_at_threes T.k_look_at_threes T.b_look_at_threes .nil (fun σ => passAt (takes_of rfl rfl rfl rfl) σ) (pa_cons (pv 0) pa_nil)))
  (pss_one (ps_ret (pe_make T.M_Group G_Group_init (hr.mono (by decide)) (by rfl) T.g_Group T.b_Group_init .nil passL (pa_cons (pe_lc (by rfl) sc_group_of.nd (pi_list (pv 0)) (blkOk_by (own := [("row", 4)]) (by (show blkC ["table", "unit", "backs", "thing", "row"] (defScope s_group_of) _ _ = true); decide +kernel)) (fun _ _ _ _ _ => (pg_name (i := 4) sc_group_of.nd (by rfl) (Or.inl rfl))) (fun _ _ _ _ _ => pts_nil) (fun _ _ _ _ _ => (pe_callTy gc_list (by rfl) T.b_list (by decide +kernel) (pa_cons (pv 4) pa_nil)))) (pa_cons (pv 1) (pa_cons (pv 2) pa_nil)))))))))))
theorem ok_product (T : Tx K mg cls a_turned_by a_classes a_Stranger_init a_NoBack_init a_NotTogether_init a_NotSteady_init a_Group_init a_look_at_size a_look_for_strangers a_unit_of a_back_of a_look_at_threes a_group_of a_product a_look_at_part a_closure a_mixed a_sides a_way_out a_folded a_inner a_l_cell a_l_sizes a_l_kind a_l_unit a_l_turned a_l_sum a_l_rows a_l_names a_l_group a_l_one a_l_backs a_l_thing a_l_closed a_l_chain a_l_through a_l_twice a_l_kin a_law fd_turned_by fd_classes fd_Stranger_init fd_NoBack_init fd_NotTogether_init fd_NotSteady_init fd_Group_init fd_look_at_size fd_look_for_strangers fd_unit_of fd_back_of fd_look_at_threes fd_group_of fd_product fd_look_at_part fd_closure fd_mixed fd_sides fd_way_out fd_folded fd_inner fd_l_cell fd_l_sizes fd_l_kind fd_l_unit fd_l_turned fd_l_sum fd_l_rows fd_l_names fd_l_group fd_l_one fd_l_backs fd_l_thing fd_l_closed fd_l_chain fd_l_through fd_l_twice fd_l_kin fd_law) : FnOk P w K mg base (L2.CX P w) 1 a_product fd_product ["group", "things"] (spOf ⟨K, cls⟩ T_product) := by
  refine T.F_product.okX sc_product (spOf_len (n := 2) (ar_product)) (fun cdv A outer s H vs Q E hr h => ⟨t_product ⟨K, cls⟩ (fun c d _ H => E c d H), ?_, spOf_run (N := ["group", "things", "found", "thing"]) (t := fun E => t_product ⟨K, cls⟩ (fun c d _ H => E c d H)) (fun ss ok er hT => by rw [ar_product ss ok er hT]; decide) (fun E ss ok er hT => w_product ⟨K, cls⟩ _ ss ok er hT) vs H Q E h⟩)
  unfold t_product
  exact (pss_cons (ps_set (i := 2) sc_product.nd (by rfl) (Or.inl rfl) (pe_fld (pv 0) (by rfl)))
  (pss_cons (ps_for (passes_of rfl) (by rfl) (pi_list (pv 1)) (pg_name (i := 3) sc_product.nd (by rfl) (Or.inl rfl))
  (pss_one (ps_set (i := 2) sc_product.nd (by rfl) (Or.inl rfl) (pe_ix (go_ix (hu1 hr)) (pe_ix (go_ix (hu1 hr)) (pe_fld (pv 0) (by rfl)) (pv 2) (fun _ _ => rfl)) (pv 3) (fun _ _ => rfl)))))
  (pss_one (ps_ret (pv 2)))))
theorem ok_look_at_part (T : Tx K mg cls a_turned_by a_classes a_Stranger_init a_NoBack_init a_NotTogether_init a_NotSteady_init a_Group_init a_look_at_size a_look_for_strangers a_unit_of a_back_of a_look_at_threes a_group_of a_product a_look_at_part a_closure a_mixed a_sides a_way_out a_folded a_inner a_l_cell a_l_sizes a_l_kind a_l_unit a_l_turned a_l_sum a_l_rows a_l_names a_l_group a_l_one a_l_backs a_l_thing a_l_closed a_l_chain a_l_through a_l_twice a_l_kin a_law fd_turned_by fd_classes fd_Stranger_init fd_NoBack_init fd_NotTogether_init fd_NotSteady_init fd_Group_init fd_look_at_size fd_look_for_strangers fd_unit_of fd_back_of fd_look_at_threes fd_group_of fd_product fd_look_at_part fd_closure fd_mixed fd_sides fd_way_out fd_folded fd_inner fd_l_cell fd_l_sizes fd_l_kind fd_l_unit fd_l_turned fd_l_sum fd_l_rows fd_l_names fd_l_group fd_l_one fd_l_backs fd_l_thing fd_l_closed fd_l_chain fd_l_through fd_l_twice fd_l_kin fd_law) : FnOk P w K mg base (L2.CX P w) 1 a_look_at_part fd_look_at_part ["group", "part"] (spOf ⟨K, cls⟩ T_look_at_part) := by
  refine T.F_look_at_part.okX sc_look_at_part (spOf_len (n := 2) (ar_look_at_part)) (fun cdv A outer s H vs Q E hr h => ⟨t_look_at_part ⟨K, cls⟩ (fun c d _ H => E c d H), ?_, spOf_run (N := ["group", "part", "inside", "last", "thing", "one", "other"]) (t := fun E => t_look_at_part ⟨K, cls⟩ (fun c d _ H => E c d H)) (fun ss ok er hT => by rw [ar_look_at_part ss ok er hT]; decide) (fun E ss ok er hT => w_look_at_part ⟨K, cls⟩ _ ss ok er hT) vs H Q E h⟩)
  unfold t_look_at_part
  exact (pss_cons (ps_if (pt_cmpR (go_eq (hu64 hr)) (pe_callB gc_len (by rfl) T.b_len (by decide +kernel) (pa_cons (pv 1) pa_nil)) pe_int (nomark _))
  (pss_one (ps_raise (by rfl) (takes_of rfl rfl rfl rfl) (pmk_own PySem.F.excBase_ValueError T.x_NoPart T.g_NoPart T.k_NoPart (raises_own T.r_NoPart T.rt_NoPart) (by rfl))))
  pss_nil)
  (pss_cons (ps_set (i := 2) sc_look_at_part.nd (by rfl) (Or.inl rfl) pe_dnewK)
  (pss_cons (ps_set (i := 3) sc_look_at_part.nd (by rfl) (Or.inl rfl) (pe_un go_neg pe_int))
  (pss_cons (ps_for (passes_of rfl) (by rfl) (pi_list (pv 1)) (pg_name (i := 4) sc_look_at_part.nd (by rfl) (Or.inl rfl))
  (pss_cons (ps_if (PW.pt (pw_or (pt_cmpR go_le (pv 4) (pv 3) (nomark _)) (pw_or1 (pt_cmpR go_ge (pv 4) (pe_fld (pv 0) (by rfl)) (nomark _)))))
  (pss_one (ps_raise (by rfl) (takes_of rfl rfl rfl rfl) (pmk_own PySem.F.excBase_ValueError T.x_NoPart T.g_NoPart T.k_NoPart (raises_own T.r_NoPart T.rt_NoPart) (by rfl))))
  pss_nil)
  (pss_cons (ps_asg pe_bl (pg_sub (pv 2) (pv 4) (gs_set (hu1 hr))))
  (pss_one (ps_set (i := 3) sc_look_at_part.nd (by rfl) (Or.inl rfl) (pv 4))))))
  (pss_one (ps_for (passes_of rfl) (by rfl) (pi_list (pv 1)) (pg_name (i := 5) sc_look_at_part.nd (by rfl) (Or.inl rfl))
  (pss_one (ps_for (passes_of rfl) (by rfl) (pi_list (pv 1)) (pg_name (i := 6) sc_look_at_part.nd (by rfl) (Or.inl rfl))
  (pss_one (ps_if (pt_cmpR (go_notIn (hu1 hr)) (pe_ix (go_ix (hu1 hr)) (pe_ix (go_ix (hu1 hr)) (pe_fld (pv 0) (by rfl)) (pv 5) (fun _ _ => rfl)) (pv 6) (fun _ _ => rfl)) (pv 2) (by rfl))
  (pss_one (ps_raise (by rfl) (takes_of rfl rfl rfl rfl) (pmk_own PySem.F.excBase_ValueError T.x_NoPart T.g_NoPart T.k_NoPart (raises_own T.r_NoPart T.rt_NoPart) (by rfl))))
  pss_nil))))))))))
theorem ok_closure (T : Tx K mg cls a_turned_by a_classes a_Stranger_init a_NoBack_init a_NotTogether_init a_NotSteady_init a_Group_init a_look_at_size a_look_for_strangers a_unit_of a_back_of a_look_at_threes a_group_of a_product a_look_at_part a_closure a_mixed a_sides a_way_out a_folded a_inner a_l_cell a_l_sizes a_l_kind a_l_unit a_l_turned a_l_sum a_l_rows a_l_names a_l_group a_l_one a_l_backs a_l_thing a_l_closed a_l_chain a_l_through a_l_twice a_l_kin a_law fd_turned_by fd_classes fd_Stranger_init fd_NoBack_init fd_NotTogether_init fd_NotSteady_init fd_Group_init fd_look_at_size fd_look_for_strangers fd_unit_of fd_back_of fd_look_at_threes fd_group_of fd_product fd_look_at_part fd_closure fd_mixed fd_sides fd_way_out fd_folded fd_inner fd_l_cell fd_l_sizes fd_l_kind fd_l_unit fd_l_turned fd_l_sum fd_l_rows fd_l_names fd_l_group fd_l_one fd_l_backs fd_l_thing fd_l_closed fd_l_chain fd_l_through fd_l_twice fd_l_kin fd_law) : FnOk P w K mg base (L2.CX P w) 1 a_closure fd_closure ["group", "some"] (spOf ⟨K, cls⟩ T_closure) := by
  refine T.F_closure.okX sc_closure (spOf_len (n := 2) (ar_closure)) (fun cdv A outer s H vs Q E hr h => ⟨t_closure ⟨K, cls⟩ (fun c d _ H => E c d H), ?_, spOf_run (N := ["group", "some", "words", "row", "at", "thing", "found", "part"]) (t := fun E => t_closure ⟨K, cls⟩ (fun c d _ H => E c d H)) (fun ss ok er hT => by rw [ar_closure ss ok er hT]; decide) (fun E ss ok er hT => w_closure ⟨K, cls⟩ _ ss ok er hT) vs H Q E h⟩)
  unfold t_closure
  exact (pss_cons (ps_set (i := 2) sc_closure.nd (by rfl) (Or.inr rfl) (pe_disp (pps_cons (pe_fld (pv 0) (by rfl)) (pe_lst pa_nil) pps_nil) (by rfl) (by rfl) (fun z => by cases z) (by decide)))
  (pss_cons (ps_set (i := 3) sc_closure.nd (by rfl) (Or.inl rfl) (pe_lst (pa_cons (pe_fld (pv 0) (by rfl)) pa_nil)))
  (pss_cons (ps_set (i := 4) sc_closure.nd (by rfl) (Or.inl rfl) pe_int)
  (pss_cons (ps_while (passes_of rfl) (pt_cmpR go_lt (pv 4) (pe_callB gc_len (by rfl) T.b_len (by decide +kernel) (pa_cons (pv 3) pa_nil)) (nomark _))
  (pss_cons (ps_for (passes_of rfl) (by rfl) (pi_list (pv 1)) (pg_name (i := 5) sc_closure.nd (by rfl) (Or.inl rfl))
  (pss_cons (ps_set (i := 6) sc_closure.nd (by rfl) (Or.inl rfl) (pe_ix (go_ix (hu1 hr)) (pe_ix (go_ix (hu1 hr)) (pe_fld (pv 0) (by rfl)) (pe_ix (go_ix (hu1 hr)) (pv 3) (pv 4) (fun _ _ => rfl)) (fun _ _ => rfl)) (pv 5) (fun _ _ => rfl)))
  (pss_one (ps_if (pt_cmpR (go_notIn (hu1 hr)) (pv 6) (pv 2) (by rfl))
  (pss_cons (ps_asg (pe_op go_add (pe_ix (go_ix (hu1 hr)) (pv 2) (pe_ix (go_ix (hu1 hr)) (pv 3) (pv 4) (fun _ _ => rfl)) (fun _ _ => rfl)) (pe_lst (pa_cons (pv 5) pa_nil))) (pg_sub (pv 2) (pv 6) (gs_set (hu1 hr))))
  (pss_one (ps_expr (pe_bm PySem.F.plainAttrs_list PySem.F.slot_list_append PySem.F.type_list_append mt_append (pv 3) (pa_cons (pv 6) pa_nil)))))
  pss_nil))))
  (pss_one (ps_aug (i := 4) sc_closure.nd (by rfl) (Or.inl rfl) pe_int ip_add))))
  (pss_cons (ps_set (i := 7) sc_closure.nd (by rfl) (Or.inl rfl) (pe_callB gc_sorted (by rfl) T.b_sorted (by decide +kernel) (pa_cons (pv 3) pa_nil)))
  (pss_one (ps_ret (pe_tup (pa_cons (pv 7) (pa_cons (pe_lc (by rfl) sc_closure.nd (pi_list (pv 7)) (blkOk_by (own := [("thing", 5)]) (by (show blkC ["group", "some", "words", "row", "at", "thing", "found", "part"] (defScope s_closure) _ _ = true); decide +kernel)) (fun _ _ _ _ _ => (pg_name (i := 5) sc_closure.nd (by rfl) (Or.inl rfl))) (fun _ _ _ _ _ => pts_nil) (fun _ _ _ _ _ => (pe_ix (go_ix (hu1 hr)) (pv 2) (pv 5) (fun _ _ => rfl)))) pa_nil))))))))))
theorem ok_mixed (T : Tx K mg cls a_turned_by a_classes a_Stranger_init a_NoBack_init a_NotTogether_init a_NotSteady_init a_Group_init a_look_at_size a_look_for_strangers a_unit_of a_back_of a_look_at_threes a_group_of a_product a_look_at_part a_closure a_mixed a_sides a_way_out a_folded a_inner a_l_cell a_l_sizes a_l_kind a_l_unit a_l_turned a_l_sum a_l_rows a_l_names a_l_group a_l_one a_l_backs a_l_thing a_l_closed a_l_chain a_l_through a_l_twice a_l_kin a_law fd_turned_by fd_classes fd_Stranger_init fd_NoBack_init fd_NotTogether_init fd_NotSteady_init fd_Group_init fd_look_at_size fd_look_for_strangers fd_unit_of fd_back_of fd_look_at_threes fd_group_of fd_product fd_look_at_part fd_closure fd_mixed fd_sides fd_way_out fd_folded fd_inner fd_l_cell fd_l_sizes fd_l_kind fd_l_unit fd_l_turned fd_l_sum fd_l_rows fd_l_names fd_l_group fd_l_one fd_l_backs fd_l_thing fd_l_closed fd_l_chain fd_l_through fd_l_twice fd_l_kin fd_law) (G_product : FnOk P w K mg base (L2.CX P w) 1 a_product fd_product ["group", "things"] (spOf ⟨K, cls⟩ T_product)) (G_look_at_part : FnOk P w K mg base (L2.CX P w) 1 a_look_at_part fd_look_at_part ["group", "part"] (spOf ⟨K, cls⟩ T_look_at_part)) (G_closure : FnOk P w K mg base (L2.CX P w) 1 a_closure fd_closure ["group", "some"] (spOf ⟨K, cls⟩ T_closure)) : FnOk P w K mg base (L2.CX P w) 2 a_mixed fd_mixed ["group", "part"] (spOf ⟨K, cls⟩ T_mixed) := by
  refine T.F_mixed.okX sc_mixed (spOf_len (n := 2) (ar_mixed)) (fun cdv A outer s H vs Q E hr h => ⟨t_mixed ⟨K, cls⟩ (fun c d _ H => E c d H), ?_, spOf_run (N := ["group", "part", "some", "one", "other", "found"]) (t := fun E => t_mixed ⟨K, cls⟩ (fun c d _ H => E c d H)) (fun ss ok er hT => by rw [ar_mixed ss ok er hT]; decide) (fun E ss ok er hT => w_mixed ⟨K, cls⟩ _ ss ok er hT) vs H Q E h⟩)
  unfold t_mixed
  exact (pss_cons (ps_expr (pe_callSD G_look_at_part (hr.mono (by decide)) (by rfl) T.g_look_at_part T.k_look_at_part T.b_look_at_part .nil (fun σ => passAt (takes_of rfl rfl rfl rfl) σ) (pa_cons (pv 0) (pa_cons (pv 1) pa_nil))))
  (pss_cons (ps_set (i := 2) sc_mixed.nd (by rfl) (Or.inl rfl) (pe_lst pa_nil))
  (pss_cons (ps_for (passes_of rfl) (by rfl) (pi_list (pv 1)) (pg_name (i := 3) sc_mixed.nd (by rfl) (Or.inl rfl))
  (pss_one (ps_for (passes_of rfl) (by rfl) (pi_list (pv 1)) (pg_name (i := 4) sc_mixed.nd (by rfl) (Or.inl rfl))
  (pss_cons (ps_set (i := 5) sc_mixed.nd (by rfl) (Or.inl rfl) (pe_callSD G_product (hr.mono (by decide)) (by rfl) T.g_product T.k_product T.b_product .nil (fun σ => passAt (takes_of rfl rfl rfl rfl) σ) (pa_cons (pv 0) (pa_cons (pe_lst (pa_cons (pv 3) (pa_cons (pv 4) (pa_cons (pe_ix (go_ix (hu1 hr)) (pe_fld (pv 0) (by rfl)) (pv 3) (fun _ _ => rfl)) (pa_cons (pe_ix (go_ix (hu1 hr)) (pe_fld (pv 0) (by rfl)) (pv 4) (fun _ _ => rfl)) pa_nil))))) pa_nil))))
  (pss_one (ps_if (pt_cmpR (go_notIn (hu1 hr)) (pv 5) (pv 2) (by rfl))
  (pss_one (ps_expr (pe_bm PySem.F.plainAttrs_list PySem.F.slot_list_append PySem.F.type_list_append mt_append (pv 2) (pa_cons (pv 5) pa_nil))))
  pss_nil))))))
  (pss_one (ps_ret (pe_ix (go_ix (hu1 hr)) (pe_callSD G_closure (hr.mono (by decide)) (by rfl) T.g_closure T.k_closure T.b_closure .nil (fun σ => passAt (takes_of rfl rfl rfl rfl) σ) (pa_cons (pv 0) (pa_cons (pv 2) pa_nil))) pe_int (fun _ _ => rfl)))))))
theorem ok_sides (T : Tx K mg cls a_turned_by a_classes a_Stranger_init a_NoBack_init a_NotTogether_init a_NotSteady_init a_Group_init a_look_at_size a_look_for_strangers a_unit_of a_back_of a_look_at_threes a_group_of a_product a_look_at_part a_closure a_mixed a_sides a_way_out a_folded a_inner a_l_cell a_l_sizes a_l_kind a_l_unit a_l_turned a_l_sum a_l_rows a_l_names a_l_group a_l_one a_l_backs a_l_thing a_l_closed a_l_chain a_l_through a_l_twice a_l_kin a_law fd_turned_by fd_classes fd_Stranger_init fd_NoBack_init fd_NotTogether_init fd_NotSteady_init fd_Group_init fd_look_at_size fd_look_for_strangers fd_unit_of fd_back_of fd_look_at_threes fd_group_of fd_product fd_look_at_part fd_closure fd_mixed fd_sides fd_way_out fd_folded fd_inner fd_l_cell fd_l_sizes fd_l_kind fd_l_unit fd_l_turned fd_l_sum fd_l_rows fd_l_names fd_l_group fd_l_one fd_l_backs fd_l_thing fd_l_closed fd_l_chain fd_l_through fd_l_twice fd_l_kin fd_law) (G_look_at_part : FnOk P w K mg base (L2.CX P w) 1 a_look_at_part fd_look_at_part ["group", "part"] (spOf ⟨K, cls⟩ T_look_at_part)) : FnOk P w K mg base (L2.CX P w) 2 a_sides fd_sides ["group", "part"] (spOf ⟨K, cls⟩ T_sides) := by
  refine T.F_sides.okX sc_sides (spOf_len (n := 2) (ar_sides)) (fun cdv A outer s H vs Q E hr h => ⟨t_sides ⟨K, cls⟩ (fun c d _ H => E c d H), ?_, spOf_run (N := ["group", "part", "found", "seen", "thing", "row", "side", "one"]) (t := fun E => t_sides ⟨K, cls⟩ (fun c d _ H => E c d H)) (fun ss ok er hT => by rw [ar_sides ss ok er hT]; decide) (fun E ss ok er hT => w_sides ⟨K, cls⟩ _ ss ok er hT) vs H Q E h⟩)
  unfold t_sides
  exact (pss_cons (ps_expr (pe_callSD G_look_at_part (hr.mono (by decide)) (by rfl) T.g_look_at_part T.k_look_at_part T.b_look_at_part .nil (fun σ => passAt (takes_of rfl rfl rfl rfl) σ) (pa_cons (pv 0) (pa_cons (pv 1) pa_nil))))
  (pss_cons (ps_set (i := 2) sc_sides.nd (by rfl) (Or.inl rfl) (pe_lst pa_nil))
  (pss_cons (ps_set (i := 3) sc_sides.nd (by rfl) (Or.inl rfl) pe_dnewK)
  (pss_cons (ps_for (passes_of rfl) (by rfl) (pi_enum (by rfl) T.b_enumerate (pa_cons (pe_fld (pv 0) (by rfl)) pa_nil)) (pg_tup (by rfl) (pgs_cons (pg_name (i := 4) sc_sides.nd (by rfl) (Or.inl rfl)) (pgs_cons (pg_name (i := 5) sc_sides.nd (by rfl) (Or.inr rfl)) pgs_nil)))
  (pss_cons (ps_if (pt_cmpR (go_in (hu1 hr)) (pv 4) (pv 3) (by rfl))
  (pss_one ps_continue)
  pss_nil)
  (pss_cons (ps_set (i := 6) sc_sides.nd (by rfl) (Or.inl rfl) (pe_callB gc_sorted (by rfl) T.b_sorted (by decide +kernel) (pa_cons (pe_lc (by rfl) sc_sides.nd (pi_list (pv 1)) (blkOk_by (own := [("one", 7)]) (by (show blkC ["group", "part", "found", "seen", "thing", "row", "side", "one"] (defScope s_sides) _ _ = true); decide +kernel)) (fun _ _ _ _ _ => (pg_name (i := 7) sc_sides.nd (by rfl) (Or.inl rfl))) (fun _ _ _ _ _ => pts_nil) (fun _ _ _ _ _ => (pe_ix (go_ix (hu1 hr)) (pv 5) (pv 7) (fun _ _ => rfl)))) pa_nil)))
  (pss_cons (ps_for (passes_of rfl) (by rfl) (pi_list (pv 6)) (pg_name (i := 7) sc_sides.nd (by rfl) (Or.inl rfl))
  (pss_one (ps_asg pe_bl (pg_sub (pv 3) (pv 7) (gs_set (hu1 hr))))))
  (pss_one (ps_expr (pe_bm PySem.F.plainAttrs_list PySem.F.slot_list_append PySem.F.type_list_append mt_append (pv 2) (pa_cons (pv 6) pa_nil))))))))
  (pss_one (ps_ret (pv 2)))))))
theorem ok_way_out (T : Tx K mg cls a_turned_by a_classes a_Stranger_init a_NoBack_init a_NotTogether_init a_NotSteady_init a_Group_init a_look_at_size a_look_for_strangers a_unit_of a_back_of a_look_at_threes a_group_of a_product a_look_at_part a_closure a_mixed a_sides a_way_out a_folded a_inner a_l_cell a_l_sizes a_l_kind a_l_unit a_l_turned a_l_sum a_l_rows a_l_names a_l_group a_l_one a_l_backs a_l_thing a_l_closed a_l_chain a_l_through a_l_twice a_l_kin a_law fd_turned_by fd_classes fd_Stranger_init fd_NoBack_init fd_NotTogether_init fd_NotSteady_init fd_Group_init fd_look_at_size fd_look_for_strangers fd_unit_of fd_back_of fd_look_at_threes fd_group_of fd_product fd_look_at_part fd_closure fd_mixed fd_sides fd_way_out fd_folded fd_inner fd_l_cell fd_l_sizes fd_l_kind fd_l_unit fd_l_turned fd_l_sum fd_l_rows fd_l_names fd_l_group fd_l_one fd_l_backs fd_l_thing fd_l_closed fd_l_chain fd_l_through fd_l_twice fd_l_kin fd_law) (G_turned_by : FnOk P w K mg base (L2.CX P w) 1 a_turned_by fd_turned_by ["group", "thing", "other"] (spOf ⟨K, cls⟩ T_turned_by)) (G_look_at_part : FnOk P w K mg base (L2.CX P w) 1 a_look_at_part fd_look_at_part ["group", "part"] (spOf ⟨K, cls⟩ T_look_at_part)) : FnOk P w K mg base (L2.CX P w) 2 a_way_out fd_way_out ["group", "part"] (spOf ⟨K, cls⟩ T_way_out) := by
  refine T.F_way_out.okX sc_way_out (spOf_len (n := 2) (ar_way_out)) (fun cdv A outer s H vs Q E hr h => ⟨t_way_out ⟨K, cls⟩ (fun c d _ H => E c d H), ?_, spOf_run (N := ["group", "part", "one", "thing"]) (t := fun E => t_way_out ⟨K, cls⟩ (fun c d _ H => E c d H)) (fun ss ok er hT => by rw [ar_way_out ss ok er hT]; decide) (fun E ss ok er hT => w_way_out ⟨K, cls⟩ _ ss ok er hT) vs H Q E h⟩)
  unfold t_way_out
  exact (pss_cons (ps_expr (pe_callSD G_look_at_part (hr.mono (by decide)) (by rfl) T.g_look_at_part T.k_look_at_part T.b_look_at_part .nil (fun σ => passAt (takes_of rfl rfl rfl rfl) σ) (pa_cons (pv 0) (pa_cons (pv 1) pa_nil))))
  (pss_cons (ps_for (passes_of rfl) (by rfl) (pi_range1 (by rfl) T.b_range (pa_cons (pe_fld (pv 0) (by rfl)) pa_nil)) (pg_name (i := 2) sc_way_out.nd (by rfl) (Or.inl rfl))
  (pss_one (ps_for (passes_of rfl) (by rfl) (pi_list (pv 1)) (pg_name (i := 3) sc_way_out.nd (by rfl) (Or.inl rfl))
  (pss_one (ps_if (pt_cmpR (go_notIn (hu1 hr)) (pe_callSD G_turned_by (hr.mono (by decide)) (by rfl) T.g_turned_by T.k_turned_by T.b_turned_by .nil (fun σ => passAt (takes_of rfl rfl rfl rfl) σ) (pa_cons (pv 0) (pa_cons (pv 3) (pa_cons (pv 2) pa_nil)))) (pv 1) (by rfl))
  (pss_one (ps_ret (pe_tup (pa_cons (pv 2) (pa_cons (pv 3) pa_nil)))))
  pss_nil)))))
  (pss_one (ps_ret pe_non))))
theorem ok_folded (T : Tx K mg cls a_turned_by a_classes a_Stranger_init a_NoBack_init a_NotTogether_init a_NotSteady_init a_Group_init a_look_at_size a_look_for_strangers a_unit_of a_back_of a_look_at_threes a_group_of a_product a_look_at_part a_closure a_mixed a_sides a_way_out a_folded a_inner a_l_cell a_l_sizes a_l_kind a_l_unit a_l_turned a_l_sum a_l_rows a_l_names a_l_group a_l_one a_l_backs a_l_thing a_l_closed a_l_chain a_l_through a_l_twice a_l_kin a_law fd_turned_by fd_classes fd_Stranger_init fd_NoBack_init fd_NotTogether_init fd_NotSteady_init fd_Group_init fd_look_at_size fd_look_for_strangers fd_unit_of fd_back_of fd_look_at_threes fd_group_of fd_product fd_look_at_part fd_closure fd_mixed fd_sides fd_way_out fd_folded fd_inner fd_l_cell fd_l_sizes fd_l_kind fd_l_unit fd_l_turned fd_l_sum fd_l_rows fd_l_names fd_l_group fd_l_one fd_l_backs fd_l_thing fd_l_closed fd_l_chain fd_l_through fd_l_twice fd_l_kin fd_law) (G_NotSteady_init : FnOk P w K mg base (L2.CX P w) 1 a_NotSteady_init fd_NotSteady_init ["self", "turner", "thing"] (spXI (cls .NotSteady) ["turner", "thing"])) (G_Group_init : FnOk P w K mg base (L2.CX P w) 1 a_Group_init fd_Group_init ["self", "rows", "unit", "backs"] (spI_Group ⟨K, cls⟩)) (G_sides : FnOk P w K mg base (L2.CX P w) 2 a_sides fd_sides ["group", "part"] (spOf ⟨K, cls⟩ T_sides)) (G_way_out : FnOk P w K mg base (L2.CX P w) 2 a_way_out fd_way_out ["group", "part"] (spOf ⟨K, cls⟩ T_way_out)) : FnOk P w K mg base (L2.CX P w) 3 a_folded fd_folded ["group", "part"] (spOf ⟨K, cls⟩ T_folded) := by
  refine T.F_folded.okX sc_folded (spOf_len (n := 2) (ar_folded)) (fun cdv A outer s H vs Q E hr h => ⟨t_folded ⟨K, cls⟩ (fun c d _ H => E c d H), ?_, spOf_run (N := ["group", "part", "out", "found", "homes", "k", "side", "thing", "rows", "one", "other"]) (t := fun E => t_folded ⟨K, cls⟩ (fun c d _ H => E c d H)) (fun ss ok er hT => by rw [ar_folded ss ok er hT]; decide) (fun E ss ok er hT => w_folded T.grpC _ ss ok er hT) vs H Q E h⟩)
  unfold t_folded
  exact (pss_cons (ps_set (i := 2) sc_folded.nd (by rfl) (Or.inl rfl) (pe_callSD G_way_out (hr.mono (by decide)) (by rfl) T.g_way_out T.k_way_out T.b_way_out .nil (fun σ => passAt (takes_of rfl rfl rfl rfl) σ) (pa_cons (pv 0) (pa_cons (pv 1) pa_nil))))
  (pss_cons (ps_if (pt_cmpR go_isNot (pv 2) pe_non (nomark _))
  (pss_one (ps_raise (by rfl) (takes_of rfl rfl rfl rfl) (pmk_oex T.O_NotSteady T.i_NotSteady T.ti_NotSteady G_NotSteady_init (hr.mono (by decide)) T.b_NotSteady_init .nil passL (by rfl) T.g_NotSteady (pa_cons (pe_ix (go_ix (hu1 hr)) (pv 2) pe_int (fun _ _ => rfl)) (pa_cons (pe_ix (go_ix (hu1 hr)) (pv 2) pe_int (fun _ _ => rfl)) pa_nil)))))
  pss_nil)
  (pss_cons (ps_set (i := 3) sc_folded.nd (by rfl) (Or.inl rfl) (pe_callSD G_sides (hr.mono (by decide)) (by rfl) T.g_sides T.k_sides T.b_sides .nil (fun σ => passAt (takes_of rfl rfl rfl rfl) σ) (pa_cons (pv 0) (pa_cons (pv 1) pa_nil))))
  (pss_cons (ps_set (i := 4) sc_folded.nd (by rfl) (Or.inr rfl) (pe_lc (by rfl) sc_folded.nd (pi_range1 (by rfl) T.b_range (pa_cons (pe_fld (pv 0) (by rfl)) pa_nil)) (blkOk_by (own := [("thing", 7)]) (by (show blkC ["group", "part", "out", "found", "homes", "k", "side", "thing", "rows", "one", "other"] (defScope s_folded) _ _ = true); decide +kernel)) (fun _ _ _ _ _ => (pg_name (i := 7) sc_folded.nd (by rfl) (Or.inl rfl))) (fun _ _ _ _ _ => pts_nil) (fun _ _ _ _ _ => pe_int)))
  (pss_cons (ps_for (passes_of rfl) (by rfl) (pi_enum (by rfl) T.b_enumerate (pa_cons (pv 3) pa_nil)) (pg_tup (by rfl) (pgs_cons (pg_name (i := 5) sc_folded.nd (by rfl) (Or.inl rfl)) (pgs_cons (pg_name (i := 6) sc_folded.nd (by rfl) (Or.inl rfl)) pgs_nil)))
  (pss_one (ps_for (passes_of rfl) (by rfl) (pi_list (pv 6)) (pg_name (i := 7) sc_folded.nd (by rfl) (Or.inl rfl))
  (pss_one (ps_asg (pv 5) (pg_sub (pv 4) (pv 7) (gs_set (hu1 hr))))))))
  (pss_cons (ps_set (i := 8) sc_folded.nd (by rfl) (Or.inl rfl) (pe_lst pa_nil))
  (pss_cons (ps_for (passes_of rfl) (by rfl) (pi_list (pv 3)) (pg_name (i := 9) sc_folded.nd (by rfl) (Or.inr rfl))
  (pss_one (ps_expr (pe_bm PySem.F.plainAttrs_list PySem.F.slot_list_append PySem.F.type_list_append mt_append (pv 8) (pa_cons (pe_lc (by rfl) sc_folded.nd (pi_list (pv 3)) (blkOk_by (own := [("other", 10)]) (by (show blkC ["group", "part", "out", "found", "homes", "k", "side", "thing", "rows", "one", "other"] (defScope s_folded) _ _ = true); decide +kernel)) (fun _ _ _ _ _ => (pg_name (i := 10) sc_folded.nd (by rfl) (Or.inl rfl))) (fun _ _ _ _ _ => pts_nil) (fun _ _ _ _ _ => (pe_ix (go_ix (hu1 hr)) (pv 4) (pe_ix (go_ix (hu1 hr)) (pe_ix (go_ix (hu1 hr)) (pe_fld (pv 0) (by rfl)) (pe_ix (go_ix (hu1 hr)) (pv 9) pe_int (fun _ _ => rfl)) (fun _ _ => rfl)) (pe_ix (go_ix (hu1 hr)) (pv 10) pe_int (fun _ _ => rfl)) (fun _ _ => rfl)) (fun _ _ => rfl)))) pa_nil)))))
  (pss_one (ps_ret (pe_tup (pa_cons (pe_make T.M_Group G_Group_init (hr.mono (by decide)) (by rfl) T.g_Group T.b_Group_init .nil passL (pa_cons (pv 8) (pa_cons (pe_ix (go_ix (hu1 hr)) (pv 4) (pe_fld (pv 0) (by rfl)) (fun _ _ => rfl)) (pa_cons (pe_lc (by rfl) sc_folded.nd (pi_list (pv 3)) (blkOk_by (own := [("side", 6)]) (by (show blkC ["group", "part", "out", "found", "homes", "k", "side", "thing", "rows", "one", "other"] (defScope s_folded) _ _ = true); decide +kernel)) (fun _ _ _ _ _ => (pg_name (i := 6) sc_folded.nd (by rfl) (Or.inl rfl))) (fun _ _ _ _ _ => pts_nil) (fun _ _ _ _ _ => (pe_ix (go_ix (hu1 hr)) (pv 4) (pe_ix (go_ix (hu1 hr)) (pe_fld (pv 0) (by rfl)) (pe_ix (go_ix (hu1 hr)) (pv 6) pe_int (fun _ _ => rfl)) (fun _ _ => rfl)) (fun _ _ => rfl)))) pa_nil)))) (pa_cons (pv 4) pa_nil))))))))))))
theorem ok_inner (T : Tx K mg cls a_turned_by a_classes a_Stranger_init a_NoBack_init a_NotTogether_init a_NotSteady_init a_Group_init a_look_at_size a_look_for_strangers a_unit_of a_back_of a_look_at_threes a_group_of a_product a_look_at_part a_closure a_mixed a_sides a_way_out a_folded a_inner a_l_cell a_l_sizes a_l_kind a_l_unit a_l_turned a_l_sum a_l_rows a_l_names a_l_group a_l_one a_l_backs a_l_thing a_l_closed a_l_chain a_l_through a_l_twice a_l_kin a_law fd_turned_by fd_classes fd_Stranger_init fd_NoBack_init fd_NotTogether_init fd_NotSteady_init fd_Group_init fd_look_at_size fd_look_for_strangers fd_unit_of fd_back_of fd_look_at_threes fd_group_of fd_product fd_look_at_part fd_closure fd_mixed fd_sides fd_way_out fd_folded fd_inner fd_l_cell fd_l_sizes fd_l_kind fd_l_unit fd_l_turned fd_l_sum fd_l_rows fd_l_names fd_l_group fd_l_one fd_l_backs fd_l_thing fd_l_closed fd_l_chain fd_l_through fd_l_twice fd_l_kin fd_law) (G_Group_init : FnOk P w K mg base (L2.CX P w) 1 a_Group_init fd_Group_init ["self", "rows", "unit", "backs"] (spI_Group ⟨K, cls⟩)) (G_look_at_part : FnOk P w K mg base (L2.CX P w) 1 a_look_at_part fd_look_at_part ["group", "part"] (spOf ⟨K, cls⟩ T_look_at_part)) : FnOk P w K mg base (L2.CX P w) 3 a_inner fd_inner ["group", "part"] (spOf ⟨K, cls⟩ T_inner) := by
  refine T.F_inner.okX sc_inner (spOf_len (n := 2) (ar_inner)) (fun cdv A outer s H vs Q E hr h => ⟨t_inner ⟨K, cls⟩ (fun c d _ H => E c d H), ?_, spOf_run (N := ["group", "part", "rows", "one", "other", "thing"]) (t := fun E => t_inner ⟨K, cls⟩ (fun c d _ H => E c d H)) (fun ss ok er hT => by rw [ar_inner ss ok er hT]; decide) (fun E ss ok er hT => w_inner T.grpC _ ss ok er hT) vs H Q E h⟩)
  unfold t_inner
  exact (pss_cons (ps_expr (pe_callSD G_look_at_part (hr.mono (by decide)) (by rfl) T.g_look_at_part T.k_look_at_part T.b_look_at_part .nil (fun σ => passAt (takes_of rfl rfl rfl rfl) σ) (pa_cons (pv 0) (pa_cons (pv 1) pa_nil))))
  (pss_cons (ps_set (i := 2) sc_inner.nd (by rfl) (Or.inl rfl) (pe_lst pa_nil))
  (pss_cons (ps_for (passes_of rfl) (by rfl) (pi_list (pv 1)) (pg_name (i := 3) sc_inner.nd (by rfl) (Or.inr rfl))
  (pss_one (ps_expr (pe_bm PySem.F.plainAttrs_list PySem.F.slot_list_append PySem.F.type_list_append mt_append (pv 2) (pa_cons (pe_lc (by rfl) sc_inner.nd (pi_list (pv 1)) (blkOk_by (own := [("other", 4)]) (by (show blkC ["group", "part", "rows", "one", "other", "thing"] (defScope s_inner) _ _ = true); decide +kernel)) (fun _ _ _ _ _ => (pg_name (i := 4) sc_inner.nd (by rfl) (Or.inl rfl))) (fun _ _ _ _ _ => pts_nil) (fun _ _ _ _ _ => (pe_bm PySem.F.plainAttrs_list PySem.F.slot_list_index PySem.F.type_list_index mt_index (pv 1) (pa_cons (pe_ix (go_ix (hu1 hr)) (pe_ix (go_ix (hu1 hr)) (pe_fld (pv 0) (by rfl)) (pv 3) (fun _ _ => rfl)) (pv 4) (fun _ _ => rfl)) pa_nil)))) pa_nil)))))
  (pss_one (ps_ret (pe_make T.M_Group G_Group_init (hr.mono (by decide)) (by rfl) T.g_Group T.b_Group_init .nil passL (pa_cons (pv 2) (pa_cons (pe_bm PySem.F.plainAttrs_list PySem.F.slot_list_index PySem.F.type_list_index mt_index (pv 1) (pa_cons (pe_fld (pv 0) (by rfl)) pa_nil)) (pa_cons (pe_lc (by rfl) sc_inner.nd (pi_list (pv 1)) (blkOk_by (own := [("thing", 5)]) (by (show blkC ["group", "part", "rows", "one", "other", "thing"] (defScope s_inner) _ _ = true); decide +kernel)) (fun _ _ _ _ _ => (pg_name (i := 5) sc_inner.nd (by rfl) (Or.inl rfl))) (fun _ _ _ _ _ => pts_nil) (fun _ _ _ _ _ => (pe_bm PySem.F.plainAttrs_list PySem.F.slot_list_index PySem.F.type_list_index mt_index (pv 1) (pa_cons (pe_ix (go_ix (hu1 hr)) (pe_fld (pv 0) (by rfl)) (pv 5) (fun _ _ => rfl)) pa_nil)))) pa_nil)))))))))
theorem ok_l_cell (T : Tx K mg cls a_turned_by a_classes a_Stranger_init a_NoBack_init a_NotTogether_init a_NotSteady_init a_Group_init a_look_at_size a_look_for_strangers a_unit_of a_back_of a_look_at_threes a_group_of a_product a_look_at_part a_closure a_mixed a_sides a_way_out a_folded a_inner a_l_cell a_l_sizes a_l_kind a_l_unit a_l_turned a_l_sum a_l_rows a_l_names a_l_group a_l_one a_l_backs a_l_thing a_l_closed a_l_chain a_l_through a_l_twice a_l_kin a_law fd_turned_by fd_classes fd_Stranger_init fd_NoBack_init fd_NotTogether_init fd_NotSteady_init fd_Group_init fd_look_at_size fd_look_for_strangers fd_unit_of fd_back_of fd_look_at_threes fd_group_of fd_product fd_look_at_part fd_closure fd_mixed fd_sides fd_way_out fd_folded fd_inner fd_l_cell fd_l_sizes fd_l_kind fd_l_unit fd_l_turned fd_l_sum fd_l_rows fd_l_names fd_l_group fd_l_one fd_l_backs fd_l_thing fd_l_closed fd_l_chain fd_l_through fd_l_twice fd_l_kin fd_law) : FnOk P w K mg base (L2.CX P w) 1 a_l_cell fd_l_cell ["_law_script", "_law_k"] (spOf ⟨K, cls⟩ T_l_cell) := by
  refine T.F_l_cell.okX sc_l_cell (spOf_len (n := 2) (ar_l_cell)) (fun cdv A outer s H vs Q E hr h => ⟨t_l_cell ⟨K, cls⟩ (fun c d _ H => E c d H), ?_, spOf_run (N := ["_law_script", "_law_k"]) (t := fun E => t_l_cell ⟨K, cls⟩ (fun c d _ H => E c d H)) (fun ss ok er hT => by rw [ar_l_cell ss ok er hT]; decide) (fun E ss ok er hT => w_l_cell ⟨K, cls⟩ _ ss ok er hT) vs H Q E h⟩)
  unfold t_l_cell
  exact (pss_cons (ps_if (pt_cmpR go_lt (pv 1) (pe_callB gc_len (by rfl) T.b_len (by decide +kernel) (pa_cons (pv 0) pa_nil)) (nomark _))
  (pss_one (ps_ret (pe_op go_mod (pe_ix (go_ix (hu1 hr)) (pv 0) (pv 1) (fun _ _ => rfl)) pe_int)))
  pss_nil)
  (pss_one (ps_ret pe_int)))
theorem ok_l_sizes (T : Tx K mg cls a_turned_by a_classes a_Stranger_init a_NoBack_init a_NotTogether_init a_NotSteady_init a_Group_init a_look_at_size a_look_for_strangers a_unit_of a_back_of a_look_at_threes a_group_of a_product a_look_at_part a_closure a_mixed a_sides a_way_out a_folded a_inner a_l_cell a_l_sizes a_l_kind a_l_unit a_l_turned a_l_sum a_l_rows a_l_names a_l_group a_l_one a_l_backs a_l_thing a_l_closed a_l_chain a_l_through a_l_twice a_l_kin a_law fd_turned_by fd_classes fd_Stranger_init fd_NoBack_init fd_NotTogether_init fd_NotSteady_init fd_Group_init fd_look_at_size fd_look_for_strangers fd_unit_of fd_back_of fd_look_at_threes fd_group_of fd_product fd_look_at_part fd_closure fd_mixed fd_sides fd_way_out fd_folded fd_inner fd_l_cell fd_l_sizes fd_l_kind fd_l_unit fd_l_turned fd_l_sum fd_l_rows fd_l_names fd_l_group fd_l_one fd_l_backs fd_l_thing fd_l_closed fd_l_chain fd_l_through fd_l_twice fd_l_kin fd_law) : FnOk P w K mg base (L2.CX P w) 1 a_l_sizes fd_l_sizes ["_law_one_here", "_law_two"] (spOf ⟨K, cls⟩ T_l_sizes) := by
  refine T.F_l_sizes.okX sc_l_sizes (spOf_len (n := 2) (ar_l_sizes)) (fun cdv A outer s H vs Q E hr h => ⟨t_l_sizes ⟨K, cls⟩ (fun c d _ H => E c d H), ?_, spOf_run (N := ["_law_one_here", "_law_two", "_law_number", "_law_some", "_law_top", "_law_steps", "_law_room", "_law_first", "_law_second", "_law_third"]) (t := fun E => t_l_sizes ⟨K, cls⟩ (fun c d _ H => E c d H)) (fun ss ok er hT => by rw [ar_l_sizes ss ok er hT]; decide) (fun E ss ok er hT => w_l_sizes ⟨K, cls⟩ _ ss ok er hT) vs H Q E h⟩)
  unfold t_l_sizes
  exact (pss_cons (ps_set (i := 2) sc_l_sizes.nd (by rfl) (Or.inl rfl) (pe_op go_div (pv 0) pe_int))
  (pss_cons (ps_if (pt_cmpR (go_eq (hu64 hr)) (pe_op go_mod (pv 0) pe_int) pe_int (nomark _))
  (pss_cons (ps_set (i := 3) sc_l_sizes.nd (by rfl) (Or.inl rfl) (pe_lst (pa_cons (pe_lst (pa_cons pe_int (pa_cons pe_int (pa_cons pe_int (pa_cons pe_int pa_nil))))) (pa_cons (pe_lst (pa_cons pe_int (pa_cons pe_int (pa_cons pe_int (pa_cons pe_int pa_nil))))) (pa_cons (pe_lst (pa_cons pe_int (pa_cons pe_int (pa_cons pe_int (pa_cons pe_int pa_nil))))) (pa_cons (pe_lst (pa_cons pe_int (pa_cons pe_int (pa_cons pe_int (pa_cons pe_int pa_nil))))) (pa_cons (pe_lst (pa_cons pe_int (pa_cons pe_int (pa_cons pe_int (pa_cons pe_int pa_nil))))) (pa_cons (pe_lst (pa_cons pe_int (pa_cons pe_int (pa_cons pe_int (pa_cons pe_int pa_nil))))) pa_nil))))))))
  (pss_cons (ps_set (i := 3) sc_l_sizes.nd (by rfl) (Or.inl rfl) (pe_op go_add (pv 3) (pe_lst (pa_cons (pe_lst (pa_cons pe_int (pa_cons pe_int (pa_cons pe_int (pa_cons pe_int pa_nil))))) (pa_cons (pe_lst (pa_cons pe_int (pa_cons pe_int (pa_cons pe_int (pa_cons pe_int pa_nil))))) (pa_cons (pe_lst (pa_cons pe_int (pa_cons pe_int (pa_cons pe_int (pa_cons pe_int pa_nil))))) (pa_cons (pe_lst (pa_cons pe_int (pa_cons pe_int (pa_cons pe_int (pa_cons pe_int pa_nil))))) (pa_cons (pe_lst (pa_cons pe_int (pa_cons pe_int (pa_cons pe_int (pa_cons pe_int pa_nil))))) (pa_cons (pe_lst (pa_cons pe_int (pa_cons pe_int (pa_cons pe_int (pa_cons pe_int pa_nil))))) pa_nil)))))))))
  (pss_one (ps_ret (pe_ix (go_ix (hu1 hr)) (pv 3) (pe_op go_mod (pv 2) pe_int) (fun _ _ => rfl))))))
  pss_nil)
  (pss_cons (ps_set (i := 4) sc_l_sizes.nd (by rfl) (Or.inl rfl) (pe_ix (go_ix (hu1 hr)) (pe_lst (pa_cons pe_int (pa_cons pe_int (pa_cons pe_int (pa_cons pe_int pa_nil))))) (pe_op go_mod (pv 2) pe_int) (fun _ _ => rfl)))
  (pss_cons (ps_set (i := 5) sc_l_sizes.nd (by rfl) (Or.inl rfl) (pe_ix (go_ix (hu1 hr)) (pe_lst (pa_cons pe_int (pa_cons pe_int (pa_cons pe_int (pa_cons pe_int (pa_cons pe_int (pa_cons pe_int pa_nil))))))) (pe_op go_mod (pe_op go_div (pv 2) pe_int) pe_int) (fun _ _ => rfl)))
  (pss_cons (ps_set (i := 6) sc_l_sizes.nd (by rfl) (Or.inl rfl) (pe_op go_div (pv 4) (pv 5)))
  (pss_cons (ps_set (i := 7) sc_l_sizes.nd (by rfl) (Or.inl rfl) (pe_op go_add pe_int (pe_op go_mod (pe_op go_div (pv 2) pe_int) (pv 6))))
  (pss_cons (ps_set (i := 8) sc_l_sizes.nd (by rfl) (Or.inl rfl) (pe_op go_add pe_int (pe_op go_mod (pv 1) (pe_op go_div (pv 6) (pv 7)))))
  (pss_cons (ps_set (i := 9) sc_l_sizes.nd (by rfl) (Or.inl rfl) (pe_op go_add pe_int (pe_op go_mod (pe_op go_div (pv 1) pe_int) (pe_op go_div (pv 6) (pe_op go_mul (pv 7) (pv 8))))))
  (pss_one (ps_ret (pe_lst (pa_cons (pv 7) (pa_cons (pv 8) (pa_cons (pv 9) (pa_cons (pv 5) pa_nil)))))))))))))))
theorem ok_l_kind (T : Tx K mg cls a_turned_by a_classes a_Stranger_init a_NoBack_init a_NotTogether_init a_NotSteady_init a_Group_init a_look_at_size a_look_for_strangers a_unit_of a_back_of a_look_at_threes a_group_of a_product a_look_at_part a_closure a_mixed a_sides a_way_out a_folded a_inner a_l_cell a_l_sizes a_l_kind a_l_unit a_l_turned a_l_sum a_l_rows a_l_names a_l_group a_l_one a_l_backs a_l_thing a_l_closed a_l_chain a_l_through a_l_twice a_l_kin a_law fd_turned_by fd_classes fd_Stranger_init fd_NoBack_init fd_NotTogether_init fd_NotSteady_init fd_Group_init fd_look_at_size fd_look_for_strangers fd_unit_of fd_back_of fd_look_at_threes fd_group_of fd_product fd_look_at_part fd_closure fd_mixed fd_sides fd_way_out fd_folded fd_inner fd_l_cell fd_l_sizes fd_l_kind fd_l_unit fd_l_turned fd_l_sum fd_l_rows fd_l_names fd_l_group fd_l_one fd_l_backs fd_l_thing fd_l_closed fd_l_chain fd_l_through fd_l_twice fd_l_kin fd_law) : FnOk P w K mg base (L2.CX P w) 1 a_l_kind fd_l_kind ["_law_sizes_here", "_law_number"] (spOf ⟨K, cls⟩ T_l_kind) := by
  refine T.F_l_kind.okX sc_l_kind (spOf_len (n := 2) (ar_l_kind)) (fun cdv A outer s H vs Q E hr h => ⟨t_l_kind ⟨K, cls⟩ (fun c d _ H => E c d H), ?_, spOf_run (N := ["_law_sizes_here", "_law_number", "_law_kinds"]) (t := fun E => t_l_kind ⟨K, cls⟩ (fun c d _ H => E c d H)) (fun ss ok er hT => by rw [ar_l_kind ss ok er hT]; decide) (fun E ss ok er hT => w_l_kind ⟨K, cls⟩ _ ss ok er hT) vs H Q E h⟩)
  unfold t_l_kind
  exact (pss_cons (ps_set (i := 2) sc_l_kind.nd (by rfl) (Or.inl rfl) (pe_lst (pa_cons pe_int pa_nil)))
  (pss_cons (ps_if (PW.pt (pw_and (pt_cmpR (go_eq (hu64 hr)) (pe_ix (go_ix (hu1 hr)) (pv 0) pe_int (fun _ _ => rfl)) (pe_ix (go_ix (hu1 hr)) (pv 0) pe_int (fun _ _ => rfl)) (nomark _)) (pw_and1 (pt_cmpR (go_eq (hu64 hr)) (pe_op go_mod (pe_ix (go_ix (hu1 hr)) (pv 0) pe_int (fun _ _ => rfl)) pe_int) pe_int (nomark _)))))
  (pss_one (ps_expr (pe_bm PySem.F.plainAttrs_list PySem.F.slot_list_append PySem.F.type_list_append mt_append (pv 2) (pa_cons pe_int pa_nil))))
  pss_nil)
  (pss_cons (ps_if (PW.pt (pw_and (pt_cmpR (go_eq (hu64 hr)) (pe_ix (go_ix (hu1 hr)) (pv 0) pe_int (fun _ _ => rfl)) (pe_ix (go_ix (hu1 hr)) (pv 0) pe_int (fun _ _ => rfl)) (nomark _)) (pw_and1 (pt_cmpR (go_eq (hu64 hr)) (pe_op go_mod (pe_ix (go_ix (hu1 hr)) (pv 0) pe_int (fun _ _ => rfl)) pe_int) pe_int (nomark _)))))
  (pss_one (ps_expr (pe_bm PySem.F.plainAttrs_list PySem.F.slot_list_append PySem.F.type_list_append mt_append (pv 2) (pa_cons pe_int pa_nil))))
  pss_nil)
  (pss_cons (ps_if (PW.pt (pw_and (pt_cmpR (go_eq (hu64 hr)) (pe_op go_mod (pe_ix (go_ix (hu1 hr)) (pv 0) pe_int (fun _ _ => rfl)) (pe_ix (go_ix (hu1 hr)) (pv 0) pe_int (fun _ _ => rfl))) pe_int (nomark _)) (pw_and (pt_cmpR go_gt (pe_ix (go_ix (hu1 hr)) (pv 0) pe_int (fun _ _ => rfl)) pe_int (nomark _)) (pw_and1 (pt_cmpR (go_eq (hu64 hr)) (pe_op go_mod (pe_ix (go_ix (hu1 hr)) (pv 0) pe_int (fun _ _ => rfl)) (pe_ix (go_ix (hu1 hr)) (pv 0) pe_int (fun _ _ => rfl))) pe_int (nomark _))))))
  (pss_one (ps_expr (pe_bm PySem.F.plainAttrs_list PySem.F.slot_list_append PySem.F.type_list_append mt_append (pv 2) (pa_cons pe_int pa_nil))))
  pss_nil)
  (pss_cons (ps_if (PW.pt (pw_and (pt_cmpR (go_eq (hu64 hr)) (pe_op go_mod (pe_ix (go_ix (hu1 hr)) (pv 0) pe_int (fun _ _ => rfl)) pe_int) pe_int (nomark _)) (pw_and (pt_cmpR (go_eq (hu64 hr)) (pe_op go_mod (pe_ix (go_ix (hu1 hr)) (pv 0) pe_int (fun _ _ => rfl)) pe_int) pe_int (nomark _)) (pw_and1 (pt_cmpR (go_eq (hu64 hr)) (pe_op go_mod (pe_ix (go_ix (hu1 hr)) (pv 0) pe_int (fun _ _ => rfl)) pe_int) pe_int (nomark _))))))
  (pss_one (ps_expr (pe_bm PySem.F.plainAttrs_list PySem.F.slot_list_append PySem.F.type_list_append mt_append (pv 2) (pa_cons pe_int pa_nil))))
  pss_nil)
  (pss_one (ps_ret (pe_ix (go_ix (hu1 hr)) (pv 2) (pe_op go_mod (pv 1) (pe_callB gc_len (by rfl) T.b_len (by decide +kernel) (pa_cons (pv 2) pa_nil))) (fun _ _ => rfl)))))))))
theorem ok_l_unit (T : Tx K mg cls a_turned_by a_classes a_Stranger_init a_NoBack_init a_NotTogether_init a_NotSteady_init a_Group_init a_look_at_size a_look_for_strangers a_unit_of a_back_of a_look_at_threes a_group_of a_product a_look_at_part a_closure a_mixed a_sides a_way_out a_folded a_inner a_l_cell a_l_sizes a_l_kind a_l_unit a_l_turned a_l_sum a_l_rows a_l_names a_l_group a_l_one a_l_backs a_l_thing a_l_closed a_l_chain a_l_through a_l_twice a_l_kin a_law fd_turned_by fd_classes fd_Stranger_init fd_NoBack_init fd_NotTogether_init fd_NotSteady_init fd_Group_init fd_look_at_size fd_look_for_strangers fd_unit_of fd_back_of fd_look_at_threes fd_group_of fd_product fd_look_at_part fd_closure fd_mixed fd_sides fd_way_out fd_folded fd_inner fd_l_cell fd_l_sizes fd_l_kind fd_l_unit fd_l_turned fd_l_sum fd_l_rows fd_l_names fd_l_group fd_l_one fd_l_backs fd_l_thing fd_l_closed fd_l_chain fd_l_through fd_l_twice fd_l_kin fd_law) : FnOk P w K mg base (L2.CX P w) 1 a_l_unit fd_l_unit ["_law_many", "_law_steps", "_law_number"] (spOf ⟨K, cls⟩ T_l_unit) := by
  refine T.F_l_unit.okX sc_l_unit (spOf_len (n := 3) (ar_l_unit)) (fun cdv A outer s H vs Q E hr h => ⟨t_l_unit ⟨K, cls⟩ (fun c d _ H => E c d H), ?_, spOf_run (N := ["_law_many", "_law_steps", "_law_number", "_law_units", "_law_u", "_law_found", "_law_k"]) (t := fun E => t_l_unit ⟨K, cls⟩ (fun c d _ H => E c d H)) (fun ss ok er hT => by rw [ar_l_unit ss ok er hT]; decide) (fun E ss ok er hT => w_l_unit ⟨K, cls⟩ _ ss ok er hT) vs H Q E h⟩)
  unfold t_l_unit
  exact (pss_cons (ps_set (i := 3) sc_l_unit.nd (by rfl) (Or.inl rfl) (pe_lst pa_nil))
  (pss_cons (ps_for (passes_of rfl) (by rfl) (pi_range1 (by rfl) T.b_range (pa_cons (pv 0) pa_nil)) (pg_name (i := 4) sc_l_unit.nd (by rfl) (Or.inl rfl))
  (pss_cons (ps_set (i := 5) sc_l_unit.nd (by rfl) (Or.inl rfl) pe_int)
  (pss_cons (ps_for (passes_of rfl) (by rfl) (pi_range1 (by rfl) T.b_range (pa_cons (pv 1) pa_nil)) (pg_name (i := 6) sc_l_unit.nd (by rfl) (Or.inl rfl))
  (pss_one (ps_set (i := 5) sc_l_unit.nd (by rfl) (Or.inl rfl) (pe_op go_mod (pe_op go_mul (pv 5) (pv 4)) (pv 0)))))
  (pss_one (ps_if (pt_cmpR (go_eq (hu64 hr)) (pv 5) (pe_op go_mod pe_int (pv 0)) (nomark _))
  (pss_one (ps_expr (pe_bm PySem.F.plainAttrs_list PySem.F.slot_list_append PySem.F.type_list_append mt_append (pv 3) (pa_cons (pv 4) pa_nil))))
  pss_nil)))))
  (pss_cons (ps_if (PW.pt (pw_and (pt_cmpR go_gt (pe_op go_mul (pv 0) (pv 1)) pe_int (nomark _)) (pw_and1 (pt_cmpR go_gt (pe_callB gc_len (by rfl) T.b_len (by decide +kernel) (pa_cons (pv 3) pa_nil)) pe_int (nomark _)))))
  (pss_one (ps_set (i := 3) sc_l_unit.nd (by rfl) (Or.inl rfl) (pe_slice sl_list (pv 3) (po_some pe_int) po_none)))
  pss_nil)
  (pss_one (ps_ret (pe_ix (go_ix (hu1 hr)) (pv 3) (pe_op go_mod (pv 2) (pe_callB gc_len (by rfl) T.b_len (by decide +kernel) (pa_cons (pv 3) pa_nil))) (fun _ _ => rfl)))))))
theorem ok_l_turned (T : Tx K mg cls a_turned_by a_classes a_Stranger_init a_NoBack_init a_NotTogether_init a_NotSteady_init a_Group_init a_look_at_size a_look_for_strangers a_unit_of a_back_of a_look_at_threes a_group_of a_product a_look_at_part a_closure a_mixed a_sides a_way_out a_folded a_inner a_l_cell a_l_sizes a_l_kind a_l_unit a_l_turned a_l_sum a_l_rows a_l_names a_l_group a_l_one a_l_backs a_l_thing a_l_closed a_l_chain a_l_through a_l_twice a_l_kin a_law fd_turned_by fd_classes fd_Stranger_init fd_NoBack_init fd_NotTogether_init fd_NotSteady_init fd_Group_init fd_look_at_size fd_look_for_strangers fd_unit_of fd_back_of fd_look_at_threes fd_group_of fd_product fd_look_at_part fd_closure fd_mixed fd_sides fd_way_out fd_folded fd_inner fd_l_cell fd_l_sizes fd_l_kind fd_l_unit fd_l_turned fd_l_sum fd_l_rows fd_l_names fd_l_group fd_l_one fd_l_backs fd_l_thing fd_l_closed fd_l_chain fd_l_through fd_l_twice fd_l_kin fd_law) : FnOk P w K mg base (L2.CX P w) 1 a_l_turned fd_l_turned ["_law_place", "_law_sizes_here", "_law_kind_here", "_law_units"] (spOf ⟨K, cls⟩ T_l_turned) := by
  refine T.F_l_turned.okX sc_l_turned (spOf_len (n := 4) (ar_l_turned)) (fun cdv A outer s H vs Q E hr h => ⟨t_l_turned ⟨K, cls⟩ (fun c d _ H => E c d H), ?_, spOf_run (N := ["_law_place", "_law_sizes_here", "_law_kind_here", "_law_units", "_law_x", "_law_y", "_law_w"]) (t := fun E => t_l_turned ⟨K, cls⟩ (fun c d _ H => E c d H)) (fun ss ok er hT => by rw [ar_l_turned ss ok er hT]; decide) (fun E ss ok er hT => w_l_turned ⟨K, cls⟩ _ ss ok er hT) vs H Q E h⟩)
  unfold t_l_turned
  exact (pss_cons (ps_set (i := 4) sc_l_turned.nd (by rfl) (Or.inl rfl) (pe_op go_mod (pv 0) (pe_ix (go_ix (hu1 hr)) (pv 1) pe_int (fun _ _ => rfl))))
  (pss_cons (ps_set (i := 5) sc_l_turned.nd (by rfl) (Or.inl rfl) (pe_op go_mod (pe_op go_div (pv 0) (pe_ix (go_ix (hu1 hr)) (pv 1) pe_int (fun _ _ => rfl))) (pe_ix (go_ix (hu1 hr)) (pv 1) pe_int (fun _ _ => rfl))))
  (pss_cons (ps_set (i := 6) sc_l_turned.nd (by rfl) (Or.inl rfl) (pe_op go_mod (pe_op go_mul (pe_op go_div (pv 0) (pe_op go_mul (pe_ix (go_ix (hu1 hr)) (pv 1) pe_int (fun _ _ => rfl)) (pe_ix (go_ix (hu1 hr)) (pv 1) pe_int (fun _ _ => rfl)))) (pe_ix (go_ix (hu1 hr)) (pv 3) pe_int (fun _ _ => rfl))) (pe_ix (go_ix (hu1 hr)) (pv 1) pe_int (fun _ _ => rfl))))
  (pss_cons (ps_if (pt_cmpR (go_eq (hu64 hr)) (pv 2) pe_int (nomark _))
  (pss_one (ps_par (i := 4) (j := 5) (by rfl) sc_l_turned.nd (by rfl) (by rfl) (by decide) (by rfl) (by rfl) (pa_cons (pv 5) (pa_cons (pv 4) pa_nil)) (by rfl)))
  (pss_one (ps_if (pt_cmpR (go_eq (hu64 hr)) (pv 2) pe_int (nomark _))
  (pss_one (ps_par (i := 4) (j := 5) (by rfl) sc_l_turned.nd (by rfl) (by rfl) (by decide) (by rfl) (by rfl) (pa_cons (pe_op go_mod (pe_op go_sub pe_int (pv 5)) (pe_ix (go_ix (hu1 hr)) (pv 1) pe_int (fun _ _ => rfl))) (pa_cons (pe_op go_mod (pe_op go_sub (pv 4) (pv 5)) (pe_ix (go_ix (hu1 hr)) (pv 1) pe_int (fun _ _ => rfl))) pa_nil)) (by rfl)))
  (pss_one (ps_if (pt_cmpR (go_eq (hu64 hr)) (pv 2) pe_int (nomark _))
  (pss_one (ps_set (i := 5) sc_l_turned.nd (by rfl) (Or.inl rfl) (pe_op go_mod (pe_op go_add (pv 5) (pv 4)) (pe_ix (go_ix (hu1 hr)) (pv 1) pe_int (fun _ _ => rfl)))))
  (pss_one (ps_if (pt_cmpR (go_eq (hu64 hr)) (pv 2) pe_int (nomark _))
  (pss_one (ps_set (i := 4) sc_l_turned.nd (by rfl) (Or.inl rfl) (pe_op go_mod (pe_op go_add (pv 4) (pe_op go_mul (pe_op go_div (pe_ix (go_ix (hu1 hr)) (pv 1) pe_int (fun _ _ => rfl)) pe_int) (pv 5))) (pe_ix (go_ix (hu1 hr)) (pv 1) pe_int (fun _ _ => rfl)))))
  (pss_cons (ps_set (i := 4) sc_l_turned.nd (by rfl) (Or.inl rfl) (pe_op go_mod (pe_op go_mul (pv 4) (pe_ix (go_ix (hu1 hr)) (pv 3) pe_int (fun _ _ => rfl))) (pe_ix (go_ix (hu1 hr)) (pv 1) pe_int (fun _ _ => rfl))))
  (pss_one (ps_set (i := 5) sc_l_turned.nd (by rfl) (Or.inl rfl) (pe_op go_mod (pe_op go_mul (pv 5) (pe_ix (go_ix (hu1 hr)) (pv 3) pe_int (fun _ _ => rfl))) (pe_ix (go_ix (hu1 hr)) (pv 1) pe_int (fun _ _ => rfl)))))))))))))
  (pss_one (ps_ret (pe_op go_add (pv 4) (pe_op go_mul (pe_ix (go_ix (hu1 hr)) (pv 1) pe_int (fun _ _ => rfl)) (pe_op go_add (pv 5) (pe_op go_mul (pe_ix (go_ix (hu1 hr)) (pv 1) pe_int (fun _ _ => rfl)) (pv 6)))))))))))
theorem ok_l_sum (T : Tx K mg cls a_turned_by a_classes a_Stranger_init a_NoBack_init a_NotTogether_init a_NotSteady_init a_Group_init a_look_at_size a_look_for_strangers a_unit_of a_back_of a_look_at_threes a_group_of a_product a_look_at_part a_closure a_mixed a_sides a_way_out a_folded a_inner a_l_cell a_l_sizes a_l_kind a_l_unit a_l_turned a_l_sum a_l_rows a_l_names a_l_group a_l_one a_l_backs a_l_thing a_l_closed a_l_chain a_l_through a_l_twice a_l_kin a_law fd_turned_by fd_classes fd_Stranger_init fd_NoBack_init fd_NotTogether_init fd_NotSteady_init fd_Group_init fd_look_at_size fd_look_for_strangers fd_unit_of fd_back_of fd_look_at_threes fd_group_of fd_product fd_look_at_part fd_closure fd_mixed fd_sides fd_way_out fd_folded fd_inner fd_l_cell fd_l_sizes fd_l_kind fd_l_unit fd_l_turned fd_l_sum fd_l_rows fd_l_names fd_l_group fd_l_one fd_l_backs fd_l_thing fd_l_closed fd_l_chain fd_l_through fd_l_twice fd_l_kin fd_law) : FnOk P w K mg base (L2.CX P w) 1 a_l_sum fd_l_sum ["_law_one_here", "_law_other", "_law_sizes_here"] (spOf ⟨K, cls⟩ T_l_sum) := by
  refine T.F_l_sum.okX sc_l_sum (spOf_len (n := 3) (ar_l_sum)) (fun cdv A outer s H vs Q E hr h => ⟨t_l_sum ⟨K, cls⟩ (fun c d _ H => E c d H), ?_, spOf_run (N := ["_law_one_here", "_law_other", "_law_sizes_here", "_law_both", "_law_x", "_law_y", "_law_w"]) (t := fun E => t_l_sum ⟨K, cls⟩ (fun c d _ H => E c d H)) (fun ss ok er hT => by rw [ar_l_sum ss ok er hT]; decide) (fun E ss ok er hT => w_l_sum ⟨K, cls⟩ _ ss ok er hT) vs H Q E h⟩)
  unfold t_l_sum
  exact (pss_cons (ps_set (i := 3) sc_l_sum.nd (by rfl) (Or.inl rfl) (pe_op go_mul (pe_ix (go_ix (hu1 hr)) (pv 2) pe_int (fun _ _ => rfl)) (pe_ix (go_ix (hu1 hr)) (pv 2) pe_int (fun _ _ => rfl))))
  (pss_cons (ps_set (i := 4) sc_l_sum.nd (by rfl) (Or.inl rfl) (pe_op go_mod (pe_op go_add (pv 0) (pv 1)) (pe_ix (go_ix (hu1 hr)) (pv 2) pe_int (fun _ _ => rfl))))
  (pss_cons (ps_set (i := 5) sc_l_sum.nd (by rfl) (Or.inl rfl) (pe_op go_mod (pe_op go_add (pe_op go_div (pv 0) (pe_ix (go_ix (hu1 hr)) (pv 2) pe_int (fun _ _ => rfl))) (pe_op go_div (pv 1) (pe_ix (go_ix (hu1 hr)) (pv 2) pe_int (fun _ _ => rfl)))) (pe_ix (go_ix (hu1 hr)) (pv 2) pe_int (fun _ _ => rfl))))
  (pss_cons (ps_set (i := 6) sc_l_sum.nd (by rfl) (Or.inl rfl) (pe_op go_mod (pe_op go_add (pe_op go_div (pv 0) (pv 3)) (pe_op go_div (pv 1) (pv 3))) (pe_ix (go_ix (hu1 hr)) (pv 2) pe_int (fun _ _ => rfl))))
  (pss_one (ps_ret (pe_op go_add (pe_op go_add (pv 4) (pe_op go_mul (pe_ix (go_ix (hu1 hr)) (pv 2) pe_int (fun _ _ => rfl)) (pv 5))) (pe_op go_mul (pv 3) (pv 6)))))))))
theorem ok_l_rows (T : Tx K mg cls a_turned_by a_classes a_Stranger_init a_NoBack_init a_NotTogether_init a_NotSteady_init a_Group_init a_look_at_size a_look_for_strangers a_unit_of a_back_of a_look_at_threes a_group_of a_product a_look_at_part a_closure a_mixed a_sides a_way_out a_folded a_inner a_l_cell a_l_sizes a_l_kind a_l_unit a_l_turned a_l_sum a_l_rows a_l_names a_l_group a_l_one a_l_backs a_l_thing a_l_closed a_l_chain a_l_through a_l_twice a_l_kin a_law fd_turned_by fd_classes fd_Stranger_init fd_NoBack_init fd_NotTogether_init fd_NotSteady_init fd_Group_init fd_look_at_size fd_look_for_strangers fd_unit_of fd_back_of fd_look_at_threes fd_group_of fd_product fd_look_at_part fd_closure fd_mixed fd_sides fd_way_out fd_folded fd_inner fd_l_cell fd_l_sizes fd_l_kind fd_l_unit fd_l_turned fd_l_sum fd_l_rows fd_l_names fd_l_group fd_l_one fd_l_backs fd_l_thing fd_l_closed fd_l_chain fd_l_through fd_l_twice fd_l_kin fd_law) (G_l_sum : FnOk P w K mg base (L2.CX P w) 1 a_l_sum fd_l_sum ["_law_one_here", "_law_other", "_law_sizes_here"] (spOf ⟨K, cls⟩ T_l_sum)) : FnOk P w K mg base (L2.CX P w) 2 a_l_rows fd_l_rows ["_law_sizes_here", "_law_turn", "_law_end"] (spOf ⟨K, cls⟩ T_l_rows) := by
  refine T.F_l_rows.okX sc_l_rows (spOf_len (n := 3) (ar_l_rows)) (fun cdv A outer s H vs Q E hr h => ⟨t_l_rows ⟨K, cls⟩ (fun c d _ H => E c d H), ?_, spOf_run (N := ["_law_sizes_here", "_law_turn", "_law_end", "_law_calm", "_law_rows_here", "_law_led", "_law_i", "_law_one_here", "_law_row", "_law_j", "_law_other", "_law_place"]) (t := fun E => t_l_rows ⟨K, cls⟩ (fun c d _ H => E c d H)) (fun ss ok er hT => by rw [ar_l_rows ss ok er hT]; decide) (fun E ss ok er hT => w_l_rows ⟨K, cls⟩ _ ss ok er hT) vs H Q E h⟩)
  unfold t_l_rows
  exact (pss_cons (ps_set (i := 3) sc_l_rows.nd (by rfl) (Or.inl rfl) (pe_callB gc_len (by rfl) T.b_len (by decide +kernel) (pa_cons (pv 1) pa_nil)))
  (pss_cons (ps_set (i := 4) sc_l_rows.nd (by rfl) (Or.inl rfl) (pe_lst pa_nil))
  (pss_cons (ps_set (i := 5) sc_l_rows.nd (by rfl) (Or.inl rfl) (pe_listRg (by rfl) (by rfl) T.b_list (prg_1 (by rfl) T.b_range (pv 3))))
  (pss_cons (ps_for (passes_of rfl) (by rfl) (pi_range1 (by rfl) T.b_range (pa_cons (pe_ix (go_ix (hu1 hr)) (pv 0) pe_int (fun _ _ => rfl)) pa_nil)) (pg_name (i := 6) sc_l_rows.nd (by rfl) (Or.inl rfl))
  (pss_cons (ps_for (passes_of rfl) (by rfl) (pi_range1 (by rfl) T.b_range (pa_cons (pv 3) pa_nil)) (pg_name (i := 7) sc_l_rows.nd (by rfl) (Or.inl rfl))
  (pss_cons (ps_set (i := 8) sc_l_rows.nd (by rfl) (Or.inl rfl) (pe_lst pa_nil))
  (pss_cons (ps_for (passes_of rfl) (by rfl) (pi_range1 (by rfl) T.b_range (pa_cons (pe_ix (go_ix (hu1 hr)) (pv 0) pe_int (fun _ _ => rfl)) pa_nil)) (pg_name (i := 9) sc_l_rows.nd (by rfl) (Or.inl rfl))
  (pss_one (ps_for (passes_of rfl) (by rfl) (pi_range1 (by rfl) T.b_range (pa_cons (pv 3) pa_nil)) (pg_name (i := 10) sc_l_rows.nd (by rfl) (Or.inl rfl))
  (pss_cons (ps_set (i := 11) sc_l_rows.nd (by rfl) (Or.inl rfl) (pe_callSD G_l_sum (hr.mono (by decide)) (by rfl) T.g_l_sum T.k_l_sum T.b_l_sum .nil (fun σ => passAt (takes_of rfl rfl rfl rfl) σ) (pa_cons (pv 7) (pa_cons (pe_ix (go_ix (hu1 hr)) (pv 5) (pv 10) (fun _ _ => rfl)) (pa_cons (pv 0) pa_nil)))))
  (pss_cons (ps_if (pt_cmpR go_ge (pe_op go_add (pv 6) (pv 9)) (pe_ix (go_ix (hu1 hr)) (pv 0) pe_int (fun _ _ => rfl)) (nomark _))
  (pss_one (ps_set (i := 11) sc_l_rows.nd (by rfl) (Or.inl rfl) (pe_callSD G_l_sum (hr.mono (by decide)) (by rfl) T.g_l_sum T.k_l_sum T.b_l_sum .nil (fun σ => passAt (takes_of rfl rfl rfl rfl) σ) (pa_cons (pv 11) (pa_cons (pv 2) (pa_cons (pv 0) pa_nil))))))
  pss_nil)
  (pss_one (ps_expr (pe_bm PySem.F.plainAttrs_list PySem.F.slot_list_append PySem.F.type_list_append mt_append (pv 8) (pa_cons (pe_op go_add (pv 11) (pe_op go_mul (pv 3) (pe_op go_mod (pe_op go_add (pv 6) (pv 9)) (pe_ix (go_ix (hu1 hr)) (pv 0) pe_int (fun _ _ => rfl))))) pa_nil)))))))))
  (pss_one (ps_expr (pe_bm PySem.F.plainAttrs_list PySem.F.slot_list_append PySem.F.type_list_append mt_append (pv 4) (pa_cons (pv 8) pa_nil)))))))
  (pss_one (ps_setLc (i := 5) (by rfl) sc_l_rows.nd (by rfl) (by rfl) (sw_true rfl rfl rfl (by decide +kernel)) (pi_list (pv 5)) (blkOk_by (own := [("_law_place", 11)]) (by (show blkC ["_law_sizes_here", "_law_turn", "_law_end", "_law_calm", "_law_rows_here", "_law_led", "_law_i", "_law_one_here", "_law_row", "_law_j", "_law_other", "_law_place"] (defScope s_l_rows) _ _ = true); decide +kernel)) (fun _ _ _ _ _ => (pg_name (i := 11) sc_l_rows.nd (by rfl) (Or.inl rfl))) (fun _ _ _ _ _ => pts_nil) (fun _ _ _ _ _ => (pe_ix (go_ix (hu1 hr)) (pv 1) (pv 11) (fun _ _ => rfl)))))))
  (pss_one (ps_ret (pv 4)))))))
theorem ok_l_names (T : Tx K mg cls a_turned_by a_classes a_Stranger_init a_NoBack_init a_NotTogether_init a_NotSteady_init a_Group_init a_look_at_size a_look_for_strangers a_unit_of a_back_of a_look_at_threes a_group_of a_product a_look_at_part a_closure a_mixed a_sides a_way_out a_folded a_inner a_l_cell a_l_sizes a_l_kind a_l_unit a_l_turned a_l_sum a_l_rows a_l_names a_l_group a_l_one a_l_backs a_l_thing a_l_closed a_l_chain a_l_through a_l_twice a_l_kin a_law fd_turned_by fd_classes fd_Stranger_init fd_NoBack_init fd_NotTogether_init fd_NotSteady_init fd_Group_init fd_look_at_size fd_look_for_strangers fd_unit_of fd_back_of fd_look_at_threes fd_group_of fd_product fd_look_at_part fd_closure fd_mixed fd_sides fd_way_out fd_folded fd_inner fd_l_cell fd_l_sizes fd_l_kind fd_l_unit fd_l_turned fd_l_sum fd_l_rows fd_l_names fd_l_group fd_l_one fd_l_backs fd_l_thing fd_l_closed fd_l_chain fd_l_through fd_l_twice fd_l_kin fd_law) : FnOk P w K mg base (L2.CX P w) 1 a_l_names fd_l_names ["_law_many", "_law_number"] (spOf ⟨K, cls⟩ T_l_names) := by
  refine T.F_l_names.okX sc_l_names (spOf_len (n := 2) (ar_l_names)) (fun cdv A outer s H vs Q E hr h => ⟨t_l_names ⟨K, cls⟩ (fun c d _ H => E c d H), ?_, spOf_run (N := ["_law_many", "_law_number", "_law_names_here", "_law_k"]) (t := fun E => t_l_names ⟨K, cls⟩ (fun c d _ H => E c d H)) (fun ss ok er hT => by rw [ar_l_names ss ok er hT]; decide) (fun E ss ok er hT => w_l_names ⟨K, cls⟩ _ ss ok er hT) vs H Q E h⟩)
  unfold t_l_names
  exact (pss_cons (ps_set (i := 2) sc_l_names.nd (by rfl) (Or.inl rfl) (pe_lst pa_nil))
  (pss_cons (ps_for (passes_of rfl) (by rfl) (pi_range1 (by rfl) T.b_range (pa_cons (pv 0) pa_nil)) (pg_name (i := 3) sc_l_names.nd (by rfl) (Or.inl rfl))
  (pss_cons (ps_set (i := 1) sc_l_names.nd (by rfl) (Or.inl rfl) (pe_op go_mod (pe_op go_add (pe_op go_add (pe_op go_add (pe_op go_mul (pv 1) (pv 1)) (pe_op go_mul pe_int (pv 1))) (pv 3)) pe_int) pe_int))
  (pss_one (ps_expr (pe_bm PySem.F.plainAttrs_list PySem.F.slot_list_insert PySem.F.type_list_insert gm_insert (pv 2) (pa_cons (pe_op go_mod (pv 1) (pe_op go_add (pv 3) pe_int)) (pa_cons (pv 3) pa_nil)))))))
  (pss_one (ps_ret (pv 2)))))
theorem ok_l_group (T : Tx K mg cls a_turned_by a_classes a_Stranger_init a_NoBack_init a_NotTogether_init a_NotSteady_init a_Group_init a_look_at_size a_look_for_strangers a_unit_of a_back_of a_look_at_threes a_group_of a_product a_look_at_part a_closure a_mixed a_sides a_way_out a_folded a_inner a_l_cell a_l_sizes a_l_kind a_l_unit a_l_turned a_l_sum a_l_rows a_l_names a_l_group a_l_one a_l_backs a_l_thing a_l_closed a_l_chain a_l_through a_l_twice a_l_kin a_law fd_turned_by fd_classes fd_Stranger_init fd_NoBack_init fd_NotTogether_init fd_NotSteady_init fd_Group_init fd_look_at_size fd_look_for_strangers fd_unit_of fd_back_of fd_look_at_threes fd_group_of fd_product fd_look_at_part fd_closure fd_mixed fd_sides fd_way_out fd_folded fd_inner fd_l_cell fd_l_sizes fd_l_kind fd_l_unit fd_l_turned fd_l_sum fd_l_rows fd_l_names fd_l_group fd_l_one fd_l_backs fd_l_thing fd_l_closed fd_l_chain fd_l_through fd_l_twice fd_l_kin fd_law) (G_l_cell : FnOk P w K mg base (L2.CX P w) 1 a_l_cell fd_l_cell ["_law_script", "_law_k"] (spOf ⟨K, cls⟩ T_l_cell)) (G_l_sizes : FnOk P w K mg base (L2.CX P w) 1 a_l_sizes fd_l_sizes ["_law_one_here", "_law_two"] (spOf ⟨K, cls⟩ T_l_sizes)) (G_l_kind : FnOk P w K mg base (L2.CX P w) 1 a_l_kind fd_l_kind ["_law_sizes_here", "_law_number"] (spOf ⟨K, cls⟩ T_l_kind)) (G_l_unit : FnOk P w K mg base (L2.CX P w) 1 a_l_unit fd_l_unit ["_law_many", "_law_steps", "_law_number"] (spOf ⟨K, cls⟩ T_l_unit)) (G_l_turned : FnOk P w K mg base (L2.CX P w) 1 a_l_turned fd_l_turned ["_law_place", "_law_sizes_here", "_law_kind_here", "_law_units"] (spOf ⟨K, cls⟩ T_l_turned)) (G_l_rows : FnOk P w K mg base (L2.CX P w) 2 a_l_rows fd_l_rows ["_law_sizes_here", "_law_turn", "_law_end"] (spOf ⟨K, cls⟩ T_l_rows)) (G_l_names : FnOk P w K mg base (L2.CX P w) 1 a_l_names fd_l_names ["_law_many", "_law_number"] (spOf ⟨K, cls⟩ T_l_names)) : FnOk P w K mg base (L2.CX P w) 3 a_l_group fd_l_group ["_law_script", "_law_start"] (spOf ⟨K, cls⟩ T_l_group) := by
  refine T.F_l_group.okX sc_l_group (spOf_len (n := 2) (ar_l_group)) (fun cdv A outer s H vs Q E hr h => ⟨t_l_group ⟨K, cls⟩ (fun c d _ H => E c d H), ?_, spOf_run (N := ["_law_script", "_law_start", "_law_one_here", "_law_two", "_law_sizes_here", "_law_stirred", "_law_kind_here", "_law_units", "_law_k", "_law_calm", "_law_turn", "_law_end", "_law_rows_here", "_law_names_here", "_law_table", "_law_a", "_law_row", "_law_b", "_law_thing_here", "_law_place"]) (t := fun E => t_l_group ⟨K, cls⟩ (fun c d _ H => E c d H)) (fun ss ok er hT => by rw [ar_l_group ss ok er hT]; decide) (fun E ss ok er hT => w_l_group ⟨K, cls⟩ _ ss ok er hT) vs H Q E h⟩)
  unfold t_l_group
  exact (pss_cons (ps_set (i := 2) sc_l_group.nd (by rfl) (Or.inl rfl) (pe_callSD G_l_cell (hr.mono (by decide)) (by rfl) T.g_l_cell T.k_l_cell T.b_l_cell .nil (fun σ => passAt (takes_of rfl rfl rfl rfl) σ) (pa_cons (pv 0) (pa_cons (pv 1) pa_nil))))
  (pss_cons (ps_set (i := 3) sc_l_group.nd (by rfl) (Or.inl rfl) (pe_callSD G_l_cell (hr.mono (by decide)) (by rfl) T.g_l_cell T.k_l_cell T.b_l_cell .nil (fun σ => passAt (takes_of rfl rfl rfl rfl) σ) (pa_cons (pv 0) (pa_cons (pe_op go_add (pv 1) pe_int) pa_nil))))
  (pss_cons (ps_set (i := 4) sc_l_group.nd (by rfl) (Or.inr rfl) (pe_callSD G_l_sizes (hr.mono (by decide)) (by rfl) T.g_l_sizes T.k_l_sizes T.b_l_sizes .nil (fun σ => passAt (takes_of rfl rfl rfl rfl) σ) (pa_cons (pv 2) (pa_cons (pv 3) pa_nil))))
  (pss_cons (ps_set (i := 5) sc_l_group.nd (by rfl) (Or.inl rfl) (pe_op go_mod (pe_op go_mul (pe_op go_mul (pe_op go_add (pv 3) pe_int) (pe_op go_add (pv 3) pe_int)) pe_int) pe_int))
  (pss_cons (ps_set (i := 6) sc_l_group.nd (by rfl) (Or.inr rfl) (pe_callSD G_l_kind (hr.mono (by decide)) (by rfl) T.g_l_kind T.k_l_kind T.b_l_kind .nil (fun σ => passAt (takes_of rfl rfl rfl rfl) σ) (pa_cons (pv 4) (pa_cons (pv 5) pa_nil))))
  (pss_cons (ps_set (i := 7) sc_l_group.nd (by rfl) (Or.inr rfl) (pe_lst pa_nil))
  (pss_cons (ps_for (passes_of rfl) (by rfl) (pi_range1 (by rfl) T.b_range (pa_cons pe_int pa_nil)) (pg_name (i := 8) sc_l_group.nd (by rfl) (Or.inl rfl))
  (pss_one (ps_expr (pe_bm PySem.F.plainAttrs_list PySem.F.slot_list_append PySem.F.type_list_append mt_append (pv 7) (pa_cons (pe_callSD G_l_unit (hr.mono (by decide)) (by rfl) T.g_l_unit T.k_l_unit T.b_l_unit .nil (fun σ => passAt (takes_of rfl rfl rfl rfl) σ) (pa_cons (pe_ix (go_ix (hu1 hr)) (pv 4) (pv 8) (fun _ _ => rfl)) (pa_cons (pe_ix (go_ix (hu1 hr)) (pv 4) pe_int (fun _ _ => rfl)) (pa_cons (pe_op go_div (pv 5) (pe_ix (go_ix (hu1 hr)) (pe_lst (pa_cons pe_int (pa_cons pe_int (pa_cons pe_int pa_nil)))) (pv 8) (fun _ _ => rfl))) pa_nil)))) pa_nil)))))
  (pss_cons (ps_set (i := 9) sc_l_group.nd (by rfl) (Or.inl rfl) (pe_op go_mul (pe_op go_mul (pe_ix (go_ix (hu1 hr)) (pv 4) pe_int (fun _ _ => rfl)) (pe_ix (go_ix (hu1 hr)) (pv 4) pe_int (fun _ _ => rfl))) (pe_ix (go_ix (hu1 hr)) (pv 4) pe_int (fun _ _ => rfl))))
  (pss_cons (ps_setLc (i := 10) (by rfl) sc_l_group.nd (by rfl) (by rfl) (sw_true rfl rfl rfl (by decide +kernel)) (pi_range1 (by rfl) T.b_range (pa_cons (pv 9) pa_nil)) (blkOk_by (own := [("_law_place", 19)]) (by (show blkC ["_law_script", "_law_start", "_law_one_here", "_law_two", "_law_sizes_here", "_law_stirred", "_law_kind_here", "_law_units", "_law_k", "_law_calm", "_law_turn", "_law_end", "_law_rows_here", "_law_names_here", "_law_table", "_law_a", "_law_row", "_law_b", "_law_thing_here", "_law_place"] (defScope s_l_group) _ _ = true); decide +kernel)) (fun _ _ _ _ _ => (pg_name (i := 19) sc_l_group.nd (by rfl) (Or.inl rfl))) (fun _ _ _ _ _ => pts_nil) (fun _ _ _ _ _ => (pe_call G_l_turned (hr.mono (by decide)) (by rfl) T.g_l_turned T.k_l_turned T.b_l_turned .nil passL (pa_cons (pv 19) (pa_cons (pv 4) (pa_cons (pv 6) (pa_cons (pv 7) pa_nil)))))))
  (pss_cons (ps_set (i := 11) sc_l_group.nd (by rfl) (Or.inl rfl) (pe_op go_mod (pe_op go_mod (pe_op go_mul (pe_op go_mul (pe_op go_add (pv 2) pe_int) (pe_op go_add (pv 2) pe_int)) pe_int) pe_int) (pv 9)))
  (pss_cons (ps_if (pt_cmpR (go_ne (hu64 hr)) (pe_ix (go_ix (hu1 hr)) (pv 10) (pv 11) (fun _ _ => rfl)) (pv 11) (nomark _))
  (pss_one (ps_set (i := 11) sc_l_group.nd (by rfl) (Or.inl rfl) pe_int))
  pss_nil)
  (pss_cons (ps_set (i := 12) sc_l_group.nd (by rfl) (Or.inl rfl) (pe_callSD G_l_rows (hr.mono (by decide)) (by rfl) T.g_l_rows T.k_l_rows T.b_l_rows .nil (fun σ => passAt (takes_of rfl rfl rfl rfl) σ) (pa_cons (pv 4) (pa_cons (pv 10) (pa_cons (pv 11) pa_nil)))))
  (pss_cons (ps_set (i := 13) sc_l_group.nd (by rfl) (Or.inl rfl) (pe_callSD G_l_names (hr.mono (by decide)) (by rfl) T.g_l_names T.k_l_names T.b_l_names .nil (fun σ => passAt (takes_of rfl rfl rfl rfl) σ) (pa_cons (pe_callB gc_len (by rfl) T.b_len (by decide +kernel) (pa_cons (pv 12) pa_nil)) (pa_cons (pe_callSD G_l_cell (hr.mono (by decide)) (by rfl) T.g_l_cell T.k_l_cell T.b_l_cell .nil (fun σ => passAt (takes_of rfl rfl rfl rfl) σ) (pa_cons (pv 0) (pa_cons (pe_op go_add (pv 1) pe_int) pa_nil))) pa_nil))))
  (pss_cons (ps_setLc (i := 14) (by rfl) sc_l_group.nd (by rfl) (by rfl) (sw_true rfl rfl rfl (by decide +kernel)) (pi_list (pv 12)) (blkOk_by (own := [("_law_row", 16)]) (by (show blkC ["_law_script", "_law_start", "_law_one_here", "_law_two", "_law_sizes_here", "_law_stirred", "_law_kind_here", "_law_units", "_law_k", "_law_calm", "_law_turn", "_law_end", "_law_rows_here", "_law_names_here", "_law_table", "_law_a", "_law_row", "_law_b", "_law_thing_here", "_law_place"] (defScope s_l_group) _ _ = true); decide +kernel)) (fun _ _ _ _ _ => (pg_name (i := 16) sc_l_group.nd (by rfl) (Or.inl rfl))) (fun _ _ _ _ _ => pts_nil) (fun _ _ _ _ _ => (pe_callTy gc_list (by rfl) T.b_list (by decide +kernel) (pa_cons (pv 16) pa_nil))))
  (pss_cons (ps_for (passes_of rfl) (by rfl) (pi_enum (by rfl) T.b_enumerate (pa_cons (pv 12) pa_nil)) (pg_tup (by rfl) (pgs_cons (pg_name (i := 15) sc_l_group.nd (by rfl) (Or.inl rfl)) (pgs_cons (pg_name (i := 16) sc_l_group.nd (by rfl) (Or.inl rfl)) pgs_nil)))
  (pss_one (ps_for (passes_of rfl) (by rfl) (pi_enum (by rfl) T.b_enumerate (pa_cons (pv 16) pa_nil)) (pg_tup (by rfl) (pgs_cons (pg_name (i := 17) sc_l_group.nd (by rfl) (Or.inl rfl)) (pgs_cons (pg_name (i := 18) sc_l_group.nd (by rfl) (Or.inl rfl)) pgs_nil)))
  (pss_one (ps_asg (pe_ix (go_ix (hu1 hr)) (pv 13) (pv 18) (fun _ _ => rfl)) (pg_sub (pe_ix (go_ix (hu1 hr)) (pv 14) (pe_ix (go_ix (hu1 hr)) (pv 13) (pv 15) (fun _ _ => rfl)) (fun _ _ => rfl)) (pe_ix (go_ix (hu1 hr)) (pv 13) (pv 17) (fun _ _ => rfl)) (gs_set (hu1 hr))))))))
  (pss_one (ps_ret (pv 14))))))))))))))))))
theorem ok_l_one (T : Tx K mg cls a_turned_by a_classes a_Stranger_init a_NoBack_init a_NotTogether_init a_NotSteady_init a_Group_init a_look_at_size a_look_for_strangers a_unit_of a_back_of a_look_at_threes a_group_of a_product a_look_at_part a_closure a_mixed a_sides a_way_out a_folded a_inner a_l_cell a_l_sizes a_l_kind a_l_unit a_l_turned a_l_sum a_l_rows a_l_names a_l_group a_l_one a_l_backs a_l_thing a_l_closed a_l_chain a_l_through a_l_twice a_l_kin a_law fd_turned_by fd_classes fd_Stranger_init fd_NoBack_init fd_NotTogether_init fd_NotSteady_init fd_Group_init fd_look_at_size fd_look_for_strangers fd_unit_of fd_back_of fd_look_at_threes fd_group_of fd_product fd_look_at_part fd_closure fd_mixed fd_sides fd_way_out fd_folded fd_inner fd_l_cell fd_l_sizes fd_l_kind fd_l_unit fd_l_turned fd_l_sum fd_l_rows fd_l_names fd_l_group fd_l_one fd_l_backs fd_l_thing fd_l_closed fd_l_chain fd_l_through fd_l_twice fd_l_kin fd_law) : FnOk P w K mg base (L2.CX P w) 1 a_l_one fd_l_one ["_law_table"] (spOf ⟨K, cls⟩ T_l_one) := by
  refine T.F_l_one.okX sc_l_one (spOf_len (n := 1) (ar_l_one)) (fun cdv A outer s H vs Q E hr h => ⟨t_l_one ⟨K, cls⟩ (fun c d _ H => E c d H), ?_, spOf_run (N := ["_law_table", "_law_thing_here"]) (t := fun E => t_l_one ⟨K, cls⟩ (fun c d _ H => E c d H)) (fun ss ok er hT => by rw [ar_l_one ss ok er hT]; decide) (fun E ss ok er hT => w_l_one ⟨K, cls⟩ _ ss ok er hT) vs H Q E h⟩)
  unfold t_l_one
  exact (pss_one (ps_ret (pe_ix (go_ix (hu1 hr)) (pe_lc (by rfl) sc_l_one.nd (pi_range1 (by rfl) T.b_range (pa_cons (pe_callB gc_len (by rfl) T.b_len (by decide +kernel) (pa_cons (pv 0) pa_nil)) pa_nil)) (blkOk_by (own := [("_law_thing_here", 1)]) (by (show blkC ["_law_table", "_law_thing_here"] (defScope s_l_one) _ _ = true); decide +kernel)) (fun _ _ _ _ _ => (pg_name (i := 1) sc_l_one.nd (by rfl) (Or.inl rfl))) (fun _ _ _ _ _ => (pts_one (pt_cmpR (go_eq (hu64 hr)) (pe_ix (go_ix (hu1 hr)) (pe_ix (go_ix (hu1 hr)) (pv 0) (pv 1) (fun _ _ => rfl)) (pv 1) (fun _ _ => rfl)) (pv 1) (nomark _)))) (fun _ _ _ _ _ => (pv 1))) pe_int (fun _ _ => rfl))))
theorem ok_l_backs (T : Tx K mg cls a_turned_by a_classes a_Stranger_init a_NoBack_init a_NotTogether_init a_NotSteady_init a_Group_init a_look_at_size a_look_for_strangers a_unit_of a_back_of a_look_at_threes a_group_of a_product a_look_at_part a_closure a_mixed a_sides a_way_out a_folded a_inner a_l_cell a_l_sizes a_l_kind a_l_unit a_l_turned a_l_sum a_l_rows a_l_names a_l_group a_l_one a_l_backs a_l_thing a_l_closed a_l_chain a_l_through a_l_twice a_l_kin a_law fd_turned_by fd_classes fd_Stranger_init fd_NoBack_init fd_NotTogether_init fd_NotSteady_init fd_Group_init fd_look_at_size fd_look_for_strangers fd_unit_of fd_back_of fd_look_at_threes fd_group_of fd_product fd_look_at_part fd_closure fd_mixed fd_sides fd_way_out fd_folded fd_inner fd_l_cell fd_l_sizes fd_l_kind fd_l_unit fd_l_turned fd_l_sum fd_l_rows fd_l_names fd_l_group fd_l_one fd_l_backs fd_l_thing fd_l_closed fd_l_chain fd_l_through fd_l_twice fd_l_kin fd_law) (G_l_one : FnOk P w K mg base (L2.CX P w) 1 a_l_one fd_l_one ["_law_table"] (spOf ⟨K, cls⟩ T_l_one)) : FnOk P w K mg base (L2.CX P w) 2 a_l_backs fd_l_backs ["_law_table"] (spOf ⟨K, cls⟩ T_l_backs) := by
  refine T.F_l_backs.okX sc_l_backs (spOf_len (n := 1) (ar_l_backs)) (fun cdv A outer s H vs Q E hr h => ⟨t_l_backs ⟨K, cls⟩ (fun c d _ H => E c d H), ?_, spOf_run (N := ["_law_table", "_law_one_here", "_law_row"]) (t := fun E => t_l_backs ⟨K, cls⟩ (fun c d _ H => E c d H)) (fun ss ok er hT => by rw [ar_l_backs ss ok er hT]; decide) (fun E ss ok er hT => w_l_backs ⟨K, cls⟩ _ ss ok er hT) vs H Q E h⟩)
  unfold t_l_backs
  exact (pss_cons (ps_set (i := 1) sc_l_backs.nd (by rfl) (Or.inr rfl) (pe_callSD G_l_one (hr.mono (by decide)) (by rfl) T.g_l_one T.k_l_one T.b_l_one .nil (fun σ => passAt (takes_of rfl rfl rfl rfl) σ) (pa_cons (pv 0) pa_nil)))
  (pss_one (ps_ret (pe_lc (by rfl) sc_l_backs.nd (pi_list (pv 0)) (blkOk_by (own := [("_law_row", 2)]) (by (show blkC ["_law_table", "_law_one_here", "_law_row"] (defScope s_l_backs) _ _ = true); decide +kernel)) (fun _ _ _ _ _ => (pg_name (i := 2) sc_l_backs.nd (by rfl) (Or.inl rfl))) (fun _ _ _ _ _ => pts_nil) (fun _ _ _ _ _ => (pe_bm PySem.F.plainAttrs_list PySem.F.slot_list_index PySem.F.type_list_index mt_index (pv 2) (pa_cons (pv 1) pa_nil)))))))
theorem ok_l_thing (T : Tx K mg cls a_turned_by a_classes a_Stranger_init a_NoBack_init a_NotTogether_init a_NotSteady_init a_Group_init a_look_at_size a_look_for_strangers a_unit_of a_back_of a_look_at_threes a_group_of a_product a_look_at_part a_closure a_mixed a_sides a_way_out a_folded a_inner a_l_cell a_l_sizes a_l_kind a_l_unit a_l_turned a_l_sum a_l_rows a_l_names a_l_group a_l_one a_l_backs a_l_thing a_l_closed a_l_chain a_l_through a_l_twice a_l_kin a_law fd_turned_by fd_classes fd_Stranger_init fd_NoBack_init fd_NotTogether_init fd_NotSteady_init fd_Group_init fd_look_at_size fd_look_for_strangers fd_unit_of fd_back_of fd_look_at_threes fd_group_of fd_product fd_look_at_part fd_closure fd_mixed fd_sides fd_way_out fd_folded fd_inner fd_l_cell fd_l_sizes fd_l_kind fd_l_unit fd_l_turned fd_l_sum fd_l_rows fd_l_names fd_l_group fd_l_one fd_l_backs fd_l_thing fd_l_closed fd_l_chain fd_l_through fd_l_twice fd_l_kin fd_law) : FnOk P w K mg base (L2.CX P w) 1 a_l_thing fd_l_thing ["_law_cell_here", "_law_k", "_law_many"] (spOf ⟨K, cls⟩ T_l_thing) := by
  refine T.F_l_thing.okX sc_l_thing (spOf_len (n := 3) (ar_l_thing)) (fun cdv A outer s H vs Q E hr h => ⟨t_l_thing ⟨K, cls⟩ (fun c d _ H => E c d H), ?_, spOf_run (N := ["_law_cell_here", "_law_k", "_law_many", "_law_number"]) (t := fun E => t_l_thing ⟨K, cls⟩ (fun c d _ H => E c d H)) (fun ss ok er hT => by rw [ar_l_thing ss ok er hT]; decide) (fun E ss ok er hT => w_l_thing ⟨K, cls⟩ _ ss ok er hT) vs H Q E h⟩)
  unfold t_l_thing
  exact (pss_cons (ps_set (i := 3) sc_l_thing.nd (by rfl) (Or.inl rfl) (pe_op go_mod (pe_op go_add (pe_op go_add (pe_op go_mul (pe_op go_mod (pv 0) pe_int) pe_int) (pe_op go_mul (pe_op go_mul pe_int (pv 1)) (pv 1))) (pe_op go_mul pe_int (pv 1))) pe_int))
  (pss_one (ps_ret (pe_op go_mod (pe_op go_mod (pe_op go_mul (pv 3) (pv 3)) pe_int) (pv 2)))))
theorem ok_l_closed (T : Tx K mg cls a_turned_by a_classes a_Stranger_init a_NoBack_init a_NotTogether_init a_NotSteady_init a_Group_init a_look_at_size a_look_for_strangers a_unit_of a_back_of a_look_at_threes a_group_of a_product a_look_at_part a_closure a_mixed a_sides a_way_out a_folded a_inner a_l_cell a_l_sizes a_l_kind a_l_unit a_l_turned a_l_sum a_l_rows a_l_names a_l_group a_l_one a_l_backs a_l_thing a_l_closed a_l_chain a_l_through a_l_twice a_l_kin a_law fd_turned_by fd_classes fd_Stranger_init fd_NoBack_init fd_NotTogether_init fd_NotSteady_init fd_Group_init fd_look_at_size fd_look_for_strangers fd_unit_of fd_back_of fd_look_at_threes fd_group_of fd_product fd_look_at_part fd_closure fd_mixed fd_sides fd_way_out fd_folded fd_inner fd_l_cell fd_l_sizes fd_l_kind fd_l_unit fd_l_turned fd_l_sum fd_l_rows fd_l_names fd_l_group fd_l_one fd_l_backs fd_l_thing fd_l_closed fd_l_chain fd_l_through fd_l_twice fd_l_kin fd_law) (G_l_one : FnOk P w K mg base (L2.CX P w) 1 a_l_one fd_l_one ["_law_table"] (spOf ⟨K, cls⟩ T_l_one)) : FnOk P w K mg base (L2.CX P w) 2 a_l_closed fd_l_closed ["_law_table", "_law_some"] (spOf ⟨K, cls⟩ T_l_closed) := by
  refine T.F_l_closed.okX sc_l_closed (spOf_len (n := 2) (ar_l_closed)) (fun cdv A outer s H vs Q E hr h => ⟨t_l_closed ⟨K, cls⟩ (fun c d _ H => E c d H), ?_, spOf_run (N := ["_law_table", "_law_some", "_law_found", "_law_at", "_law_one_here", "_law_thing_here"]) (t := fun E => t_l_closed ⟨K, cls⟩ (fun c d _ H => E c d H)) (fun ss ok er hT => by rw [ar_l_closed ss ok er hT]; decide) (fun E ss ok er hT => w_l_closed ⟨K, cls⟩ _ ss ok er hT) vs H Q E h⟩)
  unfold t_l_closed
  exact (pss_cons (ps_set (i := 2) sc_l_closed.nd (by rfl) (Or.inl rfl) (pe_lst (pa_cons (pe_callSD G_l_one (hr.mono (by decide)) (by rfl) T.g_l_one T.k_l_one T.b_l_one .nil (fun σ => passAt (takes_of rfl rfl rfl rfl) σ) (pa_cons (pv 0) pa_nil)) pa_nil)))
  (pss_cons (ps_set (i := 3) sc_l_closed.nd (by rfl) (Or.inl rfl) pe_int)
  (pss_cons (ps_while (passes_of rfl) (pt_cmpR go_lt (pv 3) (pe_callB gc_len (by rfl) T.b_len (by decide +kernel) (pa_cons (pv 2) pa_nil)) (nomark _))
  (pss_cons (ps_for (passes_of rfl) (by rfl) (pi_list (pv 1)) (pg_name (i := 4) sc_l_closed.nd (by rfl) (Or.inl rfl))
  (pss_cons (ps_set (i := 5) sc_l_closed.nd (by rfl) (Or.inl rfl) (pe_ix (go_ix (hu1 hr)) (pe_ix (go_ix (hu1 hr)) (pv 0) (pe_ix (go_ix (hu1 hr)) (pv 2) (pv 3) (fun _ _ => rfl)) (fun _ _ => rfl)) (pv 4) (fun _ _ => rfl)))
  (pss_one (ps_if (pt_cmpR (go_notIn (hu1 hr)) (pv 5) (pv 2) (by rfl))
  (pss_one (ps_expr (pe_bm PySem.F.plainAttrs_list PySem.F.slot_list_append PySem.F.type_list_append mt_append (pv 2) (pa_cons (pv 5) pa_nil))))
  pss_nil))))
  (pss_one (ps_set (i := 3) sc_l_closed.nd (by rfl) (Or.inl rfl) (pe_op go_add (pv 3) pe_int)))))
  (pss_one (ps_ret (pe_callB gc_sorted (by rfl) T.b_sorted (by decide +kernel) (pa_cons (pv 2) pa_nil)))))))
theorem ok_l_chain (T : Tx K mg cls a_turned_by a_classes a_Stranger_init a_NoBack_init a_NotTogether_init a_NotSteady_init a_Group_init a_look_at_size a_look_for_strangers a_unit_of a_back_of a_look_at_threes a_group_of a_product a_look_at_part a_closure a_mixed a_sides a_way_out a_folded a_inner a_l_cell a_l_sizes a_l_kind a_l_unit a_l_turned a_l_sum a_l_rows a_l_names a_l_group a_l_one a_l_backs a_l_thing a_l_closed a_l_chain a_l_through a_l_twice a_l_kin a_law fd_turned_by fd_classes fd_Stranger_init fd_NoBack_init fd_NotTogether_init fd_NotSteady_init fd_Group_init fd_look_at_size fd_look_for_strangers fd_unit_of fd_back_of fd_look_at_threes fd_group_of fd_product fd_look_at_part fd_closure fd_mixed fd_sides fd_way_out fd_folded fd_inner fd_l_cell fd_l_sizes fd_l_kind fd_l_unit fd_l_turned fd_l_sum fd_l_rows fd_l_names fd_l_group fd_l_one fd_l_backs fd_l_thing fd_l_closed fd_l_chain fd_l_through fd_l_twice fd_l_kin fd_law) (G_l_one : FnOk P w K mg base (L2.CX P w) 1 a_l_one fd_l_one ["_law_table"] (spOf ⟨K, cls⟩ T_l_one)) (G_l_backs : FnOk P w K mg base (L2.CX P w) 2 a_l_backs fd_l_backs ["_law_table"] (spOf ⟨K, cls⟩ T_l_backs)) (G_l_thing : FnOk P w K mg base (L2.CX P w) 1 a_l_thing fd_l_thing ["_law_cell_here", "_law_k", "_law_many"] (spOf ⟨K, cls⟩ T_l_thing)) (G_l_closed : FnOk P w K mg base (L2.CX P w) 2 a_l_closed fd_l_closed ["_law_table", "_law_some"] (spOf ⟨K, cls⟩ T_l_closed)) : FnOk P w K mg base (L2.CX P w) 3 a_l_chain fd_l_chain ["_law_table", "_law_cells"] (spOf ⟨K, cls⟩ T_l_chain) := by
  refine T.F_l_chain.okX sc_l_chain (spOf_len (n := 2) (ar_l_chain)) (fun cdv A outer s H vs Q E hr h => ⟨t_l_chain ⟨K, cls⟩ (fun c d _ H => E c d H), ?_, spOf_run (N := ["_law_table", "_law_cells", "_law_backs_here", "_law_chain_here", "_law_cell_here", "_law_one_here", "_law_made", "_law_t"]) (t := fun E => t_l_chain ⟨K, cls⟩ (fun c d _ H => E c d H)) (fun ss ok er hT => by rw [ar_l_chain ss ok er hT]; decide) (fun E ss ok er hT => w_l_chain ⟨K, cls⟩ _ ss ok er hT) vs H Q E h⟩)
  unfold t_l_chain
  exact (pss_cons (ps_set (i := 2) sc_l_chain.nd (by rfl) (Or.inl rfl) (pe_callSD G_l_backs (hr.mono (by decide)) (by rfl) T.g_l_backs T.k_l_backs T.b_l_backs .nil (fun σ => passAt (takes_of rfl rfl rfl rfl) σ) (pa_cons (pv 0) pa_nil)))
  (pss_cons (ps_set (i := 3) sc_l_chain.nd (by rfl) (Or.inl rfl) (pe_lst (pa_cons (pe_lst (pa_cons (pe_callSD G_l_one (hr.mono (by decide)) (by rfl) T.g_l_one T.k_l_one T.b_l_one .nil (fun σ => passAt (takes_of rfl rfl rfl rfl) σ) (pa_cons (pv 0) pa_nil)) pa_nil)) pa_nil)))
  (pss_cons (ps_for (passes_of rfl) (by rfl) (pi_list (pv 1)) (pg_name (i := 4) sc_l_chain.nd (by rfl) (Or.inl rfl))
  (pss_cons (ps_set (i := 5) sc_l_chain.nd (by rfl) (Or.inl rfl) (pe_callSD G_l_thing (hr.mono (by decide)) (by rfl) T.g_l_thing T.k_l_thing T.b_l_thing .nil (fun σ => passAt (takes_of rfl rfl rfl rfl) σ) (pa_cons (pv 4) (pa_cons pe_int (pa_cons (pe_callB gc_len (by rfl) T.b_len (by decide +kernel) (pa_cons (pv 0) pa_nil)) pa_nil)))))
  (pss_cons (ps_set (i := 6) sc_l_chain.nd (by rfl) (Or.inl rfl) (pe_callTy gc_list (by rfl) T.b_list (by decide +kernel) (pa_cons (pe_ix (go_ix (hu1 hr)) (pv 3) (pe_un go_neg pe_int) (fun _ _ => rfl)) pa_nil)))
  (pss_cons (ps_for (passes_of rfl) (by rfl) (pi_range1 (by rfl) T.b_range (pa_cons (pe_callB gc_len (by rfl) T.b_len (by decide +kernel) (pa_cons (pv 0) pa_nil)) pa_nil)) (pg_name (i := 7) sc_l_chain.nd (by rfl) (Or.inl rfl))
  (pss_one (ps_expr (pe_bm PySem.F.plainAttrs_list PySem.F.slot_list_append PySem.F.type_list_append mt_append (pv 6) (pa_cons (pe_ix (go_ix (hu1 hr)) (pe_ix (go_ix (hu1 hr)) (pv 0) (pe_ix (go_ix (hu1 hr)) (pe_ix (go_ix (hu1 hr)) (pv 0) (pv 7) (fun _ _ => rfl)) (pv 5) (fun _ _ => rfl)) (fun _ _ => rfl)) (pe_ix (go_ix (hu1 hr)) (pv 2) (pv 7) (fun _ _ => rfl)) (fun _ _ => rfl)) pa_nil)))))
  (pss_one (ps_if (pt_cmpR (go_notIn (hu1 hr)) (pv 5) (pe_ix (go_ix (hu1 hr)) (pv 3) (pe_un go_neg pe_int) (fun _ _ => rfl)) (by rfl))
  (pss_one (ps_expr (pe_bm PySem.F.plainAttrs_list PySem.F.slot_list_append PySem.F.type_list_append mt_append (pv 3) (pa_cons (pe_callSD G_l_closed (hr.mono (by decide)) (by rfl) T.g_l_closed T.k_l_closed T.b_l_closed .nil (fun σ => passAt (takes_of rfl rfl rfl rfl) σ) (pa_cons (pv 0) (pa_cons (pe_sortedSet (by rfl) (by rfl) T.b_sorted (by rfl) T.b_set (pv 6)) pa_nil))) pa_nil))))
  pss_nil))))))
  (pss_one (ps_ret (pv 3))))))
theorem ok_l_through (T : Tx K mg cls a_turned_by a_classes a_Stranger_init a_NoBack_init a_NotTogether_init a_NotSteady_init a_Group_init a_look_at_size a_look_for_strangers a_unit_of a_back_of a_look_at_threes a_group_of a_product a_look_at_part a_closure a_mixed a_sides a_way_out a_folded a_inner a_l_cell a_l_sizes a_l_kind a_l_unit a_l_turned a_l_sum a_l_rows a_l_names a_l_group a_l_one a_l_backs a_l_thing a_l_closed a_l_chain a_l_through a_l_twice a_l_kin a_law fd_turned_by fd_classes fd_Stranger_init fd_NoBack_init fd_NotTogether_init fd_NotSteady_init fd_Group_init fd_look_at_size fd_look_for_strangers fd_unit_of fd_back_of fd_look_at_threes fd_group_of fd_product fd_look_at_part fd_closure fd_mixed fd_sides fd_way_out fd_folded fd_inner fd_l_cell fd_l_sizes fd_l_kind fd_l_unit fd_l_turned fd_l_sum fd_l_rows fd_l_names fd_l_group fd_l_one fd_l_backs fd_l_thing fd_l_closed fd_l_chain fd_l_through fd_l_twice fd_l_kin fd_law) : FnOk P w K mg base (L2.CX P w) 1 a_l_through fd_l_through ["_law_homes", "_law_some"] (spOf ⟨K, cls⟩ T_l_through) := by
  refine T.F_l_through.okX sc_l_through (spOf_len (n := 2) (ar_l_through)) (fun cdv A outer s H vs Q E hr h => ⟨t_l_through ⟨K, cls⟩ (fun c d _ H => E c d H), ?_, spOf_run (N := ["_law_homes", "_law_some", "_law_one_here"]) (t := fun E => t_l_through ⟨K, cls⟩ (fun c d _ H => E c d H)) (fun ss ok er hT => by rw [ar_l_through ss ok er hT]; decide) (fun E ss ok er hT => w_l_through ⟨K, cls⟩ _ ss ok er hT) vs H Q E h⟩)
  unfold t_l_through
  exact (pss_one (ps_ret (pe_sortedSet (by rfl) (by rfl) T.b_sorted (by rfl) T.b_set (pe_lc (by rfl) sc_l_through.nd (pi_list (pv 1)) (blkOk_by (own := [("_law_one_here", 2)]) (by (show blkC ["_law_homes", "_law_some", "_law_one_here"] (defScope s_l_through) _ _ = true); decide +kernel)) (fun _ _ _ _ _ => (pg_name (i := 2) sc_l_through.nd (by rfl) (Or.inl rfl))) (fun _ _ _ _ _ => pts_nil) (fun _ _ _ _ _ => (pe_ix (go_ix (hu1 hr)) (pv 0) (pv 2) (fun _ _ => rfl)))))))
theorem ok_l_twice (T : Tx K mg cls a_turned_by a_classes a_Stranger_init a_NoBack_init a_NotTogether_init a_NotSteady_init a_Group_init a_look_at_size a_look_for_strangers a_unit_of a_back_of a_look_at_threes a_group_of a_product a_look_at_part a_closure a_mixed a_sides a_way_out a_folded a_inner a_l_cell a_l_sizes a_l_kind a_l_unit a_l_turned a_l_sum a_l_rows a_l_names a_l_group a_l_one a_l_backs a_l_thing a_l_closed a_l_chain a_l_through a_l_twice a_l_kin a_law fd_turned_by fd_classes fd_Stranger_init fd_NoBack_init fd_NotTogether_init fd_NotSteady_init fd_Group_init fd_look_at_size fd_look_for_strangers fd_unit_of fd_back_of fd_look_at_threes fd_group_of fd_product fd_look_at_part fd_closure fd_mixed fd_sides fd_way_out fd_folded fd_inner fd_l_cell fd_l_sizes fd_l_kind fd_l_unit fd_l_turned fd_l_sum fd_l_rows fd_l_names fd_l_group fd_l_one fd_l_backs fd_l_thing fd_l_closed fd_l_chain fd_l_through fd_l_twice fd_l_kin fd_law) (G_folded : FnOk P w K mg base (L2.CX P w) 3 a_folded fd_folded ["group", "part"] (spOf ⟨K, cls⟩ T_folded)) (G_inner : FnOk P w K mg base (L2.CX P w) 3 a_inner fd_inner ["group", "part"] (spOf ⟨K, cls⟩ T_inner)) (G_l_through : FnOk P w K mg base (L2.CX P w) 1 a_l_through fd_l_through ["_law_homes", "_law_some"] (spOf ⟨K, cls⟩ T_l_through)) : FnOk P w K mg base (L2.CX P w) 4 a_l_twice fd_l_twice ["_law_group_here", "_law_less", "_law_more"] (spOf ⟨K, cls⟩ T_l_twice) := by
  refine T.F_l_twice.okX sc_l_twice (spOf_len (n := 3) (ar_l_twice)) (fun cdv A outer s H vs Q E hr h => ⟨t_l_twice ⟨K, cls⟩ (fun c d _ H => E c d H), ?_, spOf_run (N := ["_law_group_here", "_law_less", "_law_more", "_law_top", "_law_homes", "_law_near", "_law_places", "_law_part", "_law_far", "_law_again", "_law_own", "_law_place", "_law_one_here"]) (t := fun E => t_l_twice ⟨K, cls⟩ (fun c d _ H => E c d H)) (fun ss ok er hT => by rw [ar_l_twice ss ok er hT]; decide) (fun E ss ok er hT => w_l_twice ⟨K, cls⟩ _ ss ok er hT) vs H Q E h⟩)
  unfold t_l_twice
  exact (pss_cons (ps_asg (pe_callSD G_folded (hr.mono (by decide)) (by rfl) T.g_folded T.k_folded T.b_folded .nil (fun σ => passAt (takes_of rfl rfl rfl rfl) σ) (pa_cons (pv 0) (pa_cons (pe_callTy gc_list (by rfl) T.b_list (by decide +kernel) (pa_cons (pv 2) pa_nil)) pa_nil))) (pg_tup (by rfl) (pgs_cons (pg_name (i := 3) sc_l_twice.nd (by rfl) (Or.inl rfl)) (pgs_cons (pg_name (i := 4) sc_l_twice.nd (by rfl) (Or.inl rfl)) pgs_nil))))
  (pss_cons (ps_asg (pe_callSD G_folded (hr.mono (by decide)) (by rfl) T.g_folded T.k_folded T.b_folded .nil (fun σ => passAt (takes_of rfl rfl rfl rfl) σ) (pa_cons (pv 0) (pa_cons (pe_callTy gc_list (by rfl) T.b_list (by decide +kernel) (pa_cons (pv 1) pa_nil)) pa_nil))) (pg_tup (by rfl) (pgs_cons (pg_name (i := 5) sc_l_twice.nd (by rfl) (Or.inl rfl)) (pgs_cons (pg_name (i := 6) sc_l_twice.nd (by rfl) (Or.inl rfl)) pgs_nil))))
  (pss_cons (ps_set (i := 7) sc_l_twice.nd (by rfl) (Or.inl rfl) (pe_callSD G_l_through (hr.mono (by decide)) (by rfl) T.g_l_through T.k_l_through T.b_l_through .nil (fun σ => passAt (takes_of rfl rfl rfl rfl) σ) (pa_cons (pv 6) (pa_cons (pv 2) pa_nil))))
  (pss_cons (ps_asg (pe_callSD G_folded (hr.mono (by decide)) (by rfl) T.g_folded T.k_folded T.b_folded .nil (fun σ => passAt (takes_of rfl rfl rfl rfl) σ) (pa_cons (pv 5) (pa_cons (pe_callTy gc_list (by rfl) T.b_list (by decide +kernel) (pa_cons (pv 7) pa_nil)) pa_nil))) (pg_tup (by rfl) (pgs_cons (pg_name (i := 8) sc_l_twice.nd (by rfl) (Or.inl rfl)) (pgs_cons (pg_name (i := 9) sc_l_twice.nd (by rfl) (Or.inr rfl)) pgs_nil))))
  (pss_cons (ps_if (PW.pt (pw_or (pt_cmpR (go_ne (hu64 hr)) (pe_fld (pv 8) (by rfl)) (pe_fld (pv 3) (by rfl)) (nomark _)) (pw_or1 (pt_cmpR (go_ne (hu64 hr)) (pe_lc (by rfl) sc_l_twice.nd (pi_list (pv 6)) (blkOk_by (own := [("_law_place", 11)]) (by (show blkC ["_law_group_here", "_law_less", "_law_more", "_law_top", "_law_homes", "_law_near", "_law_places", "_law_part", "_law_far", "_law_again", "_law_own", "_law_place", "_law_one_here"] (defScope s_l_twice) _ _ = true); decide +kernel)) (fun _ _ _ _ _ => (pg_name (i := 11) sc_l_twice.nd (by rfl) (Or.inl rfl))) (fun _ _ _ _ _ => pts_nil) (fun _ _ _ _ _ => (pe_ix (go_ix (hu1 hr)) (pv 9) (pv 11) (fun _ _ => rfl)))) (pv 4) (nomark _)))))
  (pss_one (ps_ret pe_bl))
  pss_nil)
  (pss_cons (ps_set (i := 10) sc_l_twice.nd (by rfl) (Or.inl rfl) (pe_ix (go_ix (hu1 hr)) (pe_callSD G_folded (hr.mono (by decide)) (by rfl) T.g_folded T.k_folded T.b_folded .nil (fun σ => passAt (takes_of rfl rfl rfl rfl) σ) (pa_cons (pe_callSD G_inner (hr.mono (by decide)) (by rfl) T.g_inner T.k_inner T.b_inner .nil (fun σ => passAt (takes_of rfl rfl rfl rfl) σ) (pa_cons (pv 0) (pa_cons (pe_callTy gc_list (by rfl) T.b_list (by decide +kernel) (pa_cons (pv 2) pa_nil)) pa_nil))) (pa_cons (pe_lc (by rfl) sc_l_twice.nd (pi_list (pv 1)) (blkOk_by (own := [("_law_one_here", 12)]) (by (show blkC ["_law_group_here", "_law_less", "_law_more", "_law_top", "_law_homes", "_law_near", "_law_places", "_law_part", "_law_far", "_law_again", "_law_own", "_law_place", "_law_one_here"] (defScope s_l_twice) _ _ = true); decide +kernel)) (fun _ _ _ _ _ => (pg_name (i := 12) sc_l_twice.nd (by rfl) (Or.inl rfl))) (fun _ _ _ _ _ => pts_nil) (fun _ _ _ _ _ => (pe_bm PySem.F.plainAttrs_list PySem.F.slot_list_index PySem.F.type_list_index mt_index (pv 2) (pa_cons (pv 12) pa_nil)))) pa_nil))) pe_int (fun _ _ => rfl)))
  (pss_cons (ps_if (PW.pt (pw_or (pt_cmpR (go_ne (hu64 hr)) (pe_op go_mul (pe_fld (pv 3) (by rfl)) (pe_callB gc_len (by rfl) T.b_len (by decide +kernel) (pa_cons (pv 2) pa_nil))) (pe_fld (pv 0) (by rfl)) (nomark _)) (pw_or1 (pt_cmpR (go_ne (hu64 hr)) (pe_op go_mul (pe_fld (pv 10) (by rfl)) (pe_callB gc_len (by rfl) T.b_len (by decide +kernel) (pa_cons (pv 1) pa_nil))) (pe_callB gc_len (by rfl) T.b_len (by decide +kernel) (pa_cons (pv 2) pa_nil)) (nomark _)))))
  (pss_one (ps_ret pe_bl))
  pss_nil)
  (pss_one (ps_ret (pe_cmpR (go_eq (hu64 hr)) (pe_fld (pv 10) (by rfl)) (pe_fld (pe_callSD G_inner (hr.mono (by decide)) (by rfl) T.g_inner T.k_inner T.b_inner .nil (fun σ => passAt (takes_of rfl rfl rfl rfl) σ) (pa_cons (pv 5) (pa_cons (pv 7) pa_nil))) (by rfl)) (nomark _)))))))))))
theorem ok_l_kin (T : Tx K mg cls a_turned_by a_classes a_Stranger_init a_NoBack_init a_NotTogether_init a_NotSteady_init a_Group_init a_look_at_size a_look_for_strangers a_unit_of a_back_of a_look_at_threes a_group_of a_product a_look_at_part a_closure a_mixed a_sides a_way_out a_folded a_inner a_l_cell a_l_sizes a_l_kind a_l_unit a_l_turned a_l_sum a_l_rows a_l_names a_l_group a_l_one a_l_backs a_l_thing a_l_closed a_l_chain a_l_through a_l_twice a_l_kin a_law fd_turned_by fd_classes fd_Stranger_init fd_NoBack_init fd_NotTogether_init fd_NotSteady_init fd_Group_init fd_look_at_size fd_look_for_strangers fd_unit_of fd_back_of fd_look_at_threes fd_group_of fd_product fd_look_at_part fd_closure fd_mixed fd_sides fd_way_out fd_folded fd_inner fd_l_cell fd_l_sizes fd_l_kind fd_l_unit fd_l_turned fd_l_sum fd_l_rows fd_l_names fd_l_group fd_l_one fd_l_backs fd_l_thing fd_l_closed fd_l_chain fd_l_through fd_l_twice fd_l_kin fd_law) (G_classes : FnOk P w K mg base (L2.CX P w) 2 a_classes fd_classes ["group"] (spOf ⟨K, cls⟩ T_classes)) (G_closure : FnOk P w K mg base (L2.CX P w) 1 a_closure fd_closure ["group", "some"] (spOf ⟨K, cls⟩ T_closure)) (G_mixed : FnOk P w K mg base (L2.CX P w) 2 a_mixed fd_mixed ["group", "part"] (spOf ⟨K, cls⟩ T_mixed)) (G_folded : FnOk P w K mg base (L2.CX P w) 3 a_folded fd_folded ["group", "part"] (spOf ⟨K, cls⟩ T_folded)) (G_l_through : FnOk P w K mg base (L2.CX P w) 1 a_l_through fd_l_through ["_law_homes", "_law_some"] (spOf ⟨K, cls⟩ T_l_through)) : FnOk P w K mg base (L2.CX P w) 4 a_l_kin fd_l_kin ["_law_group_here", "_law_part", "_law_some"] (spOf ⟨K, cls⟩ T_l_kin) := by
  refine T.F_l_kin.okX sc_l_kin (spOf_len (n := 3) (ar_l_kin)) (fun cdv A outer s H vs Q E hr h => ⟨t_l_kin ⟨K, cls⟩ (fun c d _ H => E c d H), ?_, spOf_run (N := ["_law_group_here", "_law_part", "_law_some", "_law_top", "_law_homes", "_law_told", "_law_kin_here", "_law_due", "_law_one_here"]) (t := fun E => t_l_kin ⟨K, cls⟩ (fun c d _ H => E c d H)) (fun ss ok er hT => by rw [ar_l_kin ss ok er hT]; decide) (fun E ss ok er hT => w_l_kin ⟨K, cls⟩ _ ss ok er hT) vs H Q E h⟩)
  unfold t_l_kin
  exact (pss_cons (ps_asg (pe_callSD G_folded (hr.mono (by decide)) (by rfl) T.g_folded T.k_folded T.b_folded .nil (fun σ => passAt (takes_of rfl rfl rfl rfl) σ) (pa_cons (pv 0) (pa_cons (pe_callTy gc_list (by rfl) T.b_list (by decide +kernel) (pa_cons (pv 1) pa_nil)) pa_nil))) (pg_tup (by rfl) (pgs_cons (pg_name (i := 3) sc_l_kin.nd (by rfl) (Or.inl rfl)) (pgs_cons (pg_name (i := 4) sc_l_kin.nd (by rfl) (Or.inr rfl)) pgs_nil))))
  (pss_cons (ps_set (i := 5) sc_l_kin.nd (by rfl) (Or.inl rfl) (pe_callSD G_classes (hr.mono (by decide)) (by rfl) T.g_classes T.k_classes T.b_classes .nil (fun σ => passAt (takes_of rfl rfl rfl rfl) σ) (pa_cons (pv 3) pa_nil)))
  (pss_cons (ps_for (passes_of rfl) (by rfl) (pi_list (pe_callSD G_classes (hr.mono (by decide)) (by rfl) T.g_classes T.k_classes T.b_classes .nil (fun σ => passAt (takes_of rfl rfl rfl rfl) σ) (pa_cons (pv 0) pa_nil))) (pg_name (i := 6) sc_l_kin.nd (by rfl) (Or.inl rfl))
  (pss_one (ps_if (pt_cmpR (go_ninD (hu64 hr)) (pe_callSD G_l_through (hr.mono (by decide)) (by rfl) T.g_l_through T.k_l_through T.b_l_through .nil (fun σ => passAt (takes_of rfl rfl rfl rfl) σ) (pa_cons (pv 4) (pa_cons (pv 6) pa_nil))) (pv 5) (by rfl))
  (pss_one (ps_ret pe_bl))
  pss_nil)))
  (pss_cons (ps_set (i := 7) sc_l_kin.nd (by rfl) (Or.inl rfl) (pe_callSD G_l_through (hr.mono (by decide)) (by rfl) T.g_l_through T.k_l_through T.b_l_through .nil (fun σ => passAt (takes_of rfl rfl rfl rfl) σ) (pa_cons (pv 4) (pa_cons (pe_callSD G_mixed (hr.mono (by decide)) (by rfl) T.g_mixed T.k_mixed T.b_mixed .nil (fun σ => passAt (takes_of rfl rfl rfl rfl) σ) (pa_cons (pv 0) (pa_cons (pe_listRg (by rfl) (by rfl) T.b_list (prg_1 (by rfl) T.b_range (pe_fld (pv 0) (by rfl)))) pa_nil))) pa_nil))))
  (pss_cons (ps_if (pt_cmpR (go_ne (hu64 hr)) (pe_callSD G_mixed (hr.mono (by decide)) (by rfl) T.g_mixed T.k_mixed T.b_mixed .nil (fun σ => passAt (takes_of rfl rfl rfl rfl) σ) (pa_cons (pv 3) (pa_cons (pe_listRg (by rfl) (by rfl) T.b_list (prg_1 (by rfl) T.b_range (pe_fld (pv 3) (by rfl)))) pa_nil))) (pv 7) (nomark _))
  (pss_one (ps_ret pe_bl))
  pss_nil)
  (pss_cons (ps_set (i := 7) sc_l_kin.nd (by rfl) (Or.inl rfl) (pe_callSD G_l_through (hr.mono (by decide)) (by rfl) T.g_l_through T.k_l_through T.b_l_through .nil (fun σ => passAt (takes_of rfl rfl rfl rfl) σ) (pa_cons (pv 4) (pa_cons (pe_ix (go_ix (hu1 hr)) (pe_callSD G_closure (hr.mono (by decide)) (by rfl) T.g_closure T.k_closure T.b_closure .nil (fun σ => passAt (takes_of rfl rfl rfl rfl) σ) (pa_cons (pv 0) (pa_cons (pe_callTy gc_list (by rfl) T.b_list (by decide +kernel) (pa_cons (pv 2) pa_nil)) pa_nil))) pe_int (fun _ _ => rfl)) pa_nil))))
  (pss_one (ps_ret (pe_cmpR (go_eq (hu64 hr)) (pe_ix (go_ix (hu1 hr)) (pe_callSD G_closure (hr.mono (by decide)) (by rfl) T.g_closure T.k_closure T.b_closure .nil (fun σ => passAt (takes_of rfl rfl rfl rfl) σ) (pa_cons (pv 3) (pa_cons (pe_lc (by rfl) sc_l_kin.nd (pi_list (pv 2)) (blkOk_by (own := [("_law_one_here", 8)]) (by (show blkC ["_law_group_here", "_law_part", "_law_some", "_law_top", "_law_homes", "_law_told", "_law_kin_here", "_law_due", "_law_one_here"] (defScope s_l_kin) _ _ = true); decide +kernel)) (fun _ _ _ _ _ => (pg_name (i := 8) sc_l_kin.nd (by rfl) (Or.inl rfl))) (fun _ _ _ _ _ => pts_nil) (fun _ _ _ _ _ => (pe_ix (go_ix (hu1 hr)) (pv 4) (pv 8) (fun _ _ => rfl)))) pa_nil))) pe_int (fun _ _ => rfl)) (pv 7) (nomark _))))))))))
theorem ok_law (T : Tx K mg cls a_turned_by a_classes a_Stranger_init a_NoBack_init a_NotTogether_init a_NotSteady_init a_Group_init a_look_at_size a_look_for_strangers a_unit_of a_back_of a_look_at_threes a_group_of a_product a_look_at_part a_closure a_mixed a_sides a_way_out a_folded a_inner a_l_cell a_l_sizes a_l_kind a_l_unit a_l_turned a_l_sum a_l_rows a_l_names a_l_group a_l_one a_l_backs a_l_thing a_l_closed a_l_chain a_l_through a_l_twice a_l_kin a_law fd_turned_by fd_classes fd_Stranger_init fd_NoBack_init fd_NotTogether_init fd_NotSteady_init fd_Group_init fd_look_at_size fd_look_for_strangers fd_unit_of fd_back_of fd_look_at_threes fd_group_of fd_product fd_look_at_part fd_closure fd_mixed fd_sides fd_way_out fd_folded fd_inner fd_l_cell fd_l_sizes fd_l_kind fd_l_unit fd_l_turned fd_l_sum fd_l_rows fd_l_names fd_l_group fd_l_one fd_l_backs fd_l_thing fd_l_closed fd_l_chain fd_l_through fd_l_twice fd_l_kin fd_law) (G_group_of : FnOk P w K mg base (L2.CX P w) 4 a_group_of fd_group_of ["table"] (spOf ⟨K, cls⟩ T_group_of)) (G_l_group : FnOk P w K mg base (L2.CX P w) 3 a_l_group fd_l_group ["_law_script", "_law_start"] (spOf ⟨K, cls⟩ T_l_group)) (G_l_thing : FnOk P w K mg base (L2.CX P w) 1 a_l_thing fd_l_thing ["_law_cell_here", "_law_k", "_law_many"] (spOf ⟨K, cls⟩ T_l_thing)) (G_l_chain : FnOk P w K mg base (L2.CX P w) 3 a_l_chain fd_l_chain ["_law_table", "_law_cells"] (spOf ⟨K, cls⟩ T_l_chain)) (G_l_twice : FnOk P w K mg base (L2.CX P w) 4 a_l_twice fd_l_twice ["_law_group_here", "_law_less", "_law_more"] (spOf ⟨K, cls⟩ T_l_twice)) (G_l_kin : FnOk P w K mg base (L2.CX P w) 4 a_l_kin fd_l_kin ["_law_group_here", "_law_part", "_law_some"] (spOf ⟨K, cls⟩ T_l_kin)) : FnOk P w K mg base (L2.CX P w) 5 a_law fd_law ["_law_script"] (spOf ⟨K, cls⟩ T_law) := by
  refine T.F_law.okX sc_law (spOf_len (n := 1) (ar_law)) (fun cdv A outer s H vs Q E hr h => ⟨t_law ⟨K, cls⟩ (fun c d _ H => E c d H), ?_, spOf_run (N := ["_law_script", "_law_table", "_law_group_here", "_law_chain_here", "_law_k", "_law_some", "_law_row", "_law_cell_here"]) (t := fun E => t_law ⟨K, cls⟩ (fun c d _ H => E c d H)) (fun ss ok er hT => by rw [ar_law ss ok er hT]; decide) (fun E ss ok er hT => w_law ⟨K, cls⟩ _ ss ok er hT) vs H Q E h⟩)
  unfold t_law
  exact (pss_cons (ps_set (i := 1) sc_law.nd (by rfl) (Or.inr rfl) (pe_callSD G_l_group (hr.mono (by decide)) (by rfl) T.g_l_group T.k_l_group T.b_l_group .nil (fun σ => passAt (takes_of rfl rfl rfl rfl) σ) (pa_cons (pv 0) (pa_cons pe_int pa_nil))))
  (pss_cons (ps_set (i := 2) sc_law.nd (by rfl) (Or.inl rfl) (pe_callSD G_group_of (hr.mono (by decide)) (by rfl) T.g_group_of T.k_group_of T.b_group_of .nil (fun σ => passAt (takes_of rfl rfl rfl rfl) σ) (pa_cons (pe_lc (by rfl) sc_law.nd (pi_list (pv 1)) (blkOk_by (own := [("_law_row", 6)]) (by (show blkC ["_law_script", "_law_table", "_law_group_here", "_law_chain_here", "_law_k", "_law_some", "_law_row", "_law_cell_here"] (defScope s_law) _ _ = true); decide +kernel)) (fun _ _ _ _ _ => (pg_name (i := 6) sc_law.nd (by rfl) (Or.inl rfl))) (fun _ _ _ _ _ => pts_nil) (fun _ _ _ _ _ => (pe_callTy gc_list (by rfl) T.b_list (by decide +kernel) (pa_cons (pv 6) pa_nil)))) pa_nil)))
  (pss_cons (ps_set (i := 3) sc_law.nd (by rfl) (Or.inl rfl) (pe_callSD G_l_chain (hr.mono (by decide)) (by rfl) T.g_l_chain T.k_l_chain T.b_l_chain .nil (fun σ => passAt (takes_of rfl rfl rfl rfl) σ) (pa_cons (pv 1) (pa_cons (pe_op go_add (pe_slice sl_list (pv 0) (po_some pe_int) (po_some pe_int)) (pe_lst (pa_cons pe_int pa_nil))) pa_nil))))
  (pss_cons (ps_for (passes_of rfl) (by rfl) (pi_range1 (by rfl) T.b_range (pa_cons (pe_callB gc_len (by rfl) T.b_len (by decide +kernel) (pa_cons (pv 3) pa_nil)) pa_nil)) (pg_name (i := 4) sc_law.nd (by rfl) (Or.inr rfl))
  (pss_cons (ps_setLc (i := 5) (by rfl) sc_law.nd (by rfl) (by rfl) (sw_true rfl rfl rfl (by decide +kernel)) (pi_list (pe_slice sl_list (pv 0) (po_some pe_int) (po_some (pe_op go_add pe_int (pv 4))))) (blkOk_by (own := [("_law_cell_here", 7)]) (by (show blkC ["_law_script", "_law_table", "_law_group_here", "_law_chain_here", "_law_k", "_law_some", "_law_row", "_law_cell_here"] (defScope s_law) _ _ = true); decide +kernel)) (fun _ _ _ _ _ => (pg_name (i := 7) sc_law.nd (by rfl) (Or.inl rfl))) (fun _ _ _ _ _ => pts_nil) (fun _ _ _ _ _ => (pe_call G_l_thing (hr.mono (by decide)) (by rfl) T.g_l_thing T.k_l_thing T.b_l_thing .nil passL (pa_cons (pv 7) (pa_cons (pe_op go_add pe_int (pv 4)) (pa_cons (pe_callB gc_len (by rfl) T.b_len (by decide +kernel) (pa_cons (pv 1) pa_nil)) pa_nil))))))
  (pss_cons (ps_if (pt_not (pt_val (pe_callSD G_l_kin (hr.mono (by decide)) (by rfl) T.g_l_kin T.k_l_kin T.b_l_kin .nil (fun σ => passAt (takes_of rfl rfl rfl rfl) σ) (pa_cons (pv 2) (pa_cons (pe_ix (go_ix (hu1 hr)) (pv 3) (pv 4) (fun _ _ => rfl)) (pa_cons (pv 5) pa_nil))))))
  (pss_one (ps_ret pe_bl))
  pss_nil)
  (pss_one (ps_if (PW.pt (pw_and (pt_cmpR go_gt (pv 4) pe_int (nomark _)) (pw_and1 (pt_not (pt_val (pe_callSD G_l_twice (hr.mono (by decide)) (by rfl) T.g_l_twice T.k_l_twice T.b_l_twice .nil (fun σ => passAt (takes_of rfl rfl rfl rfl) σ) (pa_cons (pv 2) (pa_cons (pe_ix (go_ix (hu1 hr)) (pv 3) (pe_op go_sub (pv 4) pe_int) (fun _ _ => rfl)) (pa_cons (pe_ix (go_ix (hu1 hr)) (pv 3) (pv 4) (fun _ _ => rfl)) pa_nil)))))))))
  (pss_one (ps_ret pe_bl))
  pss_nil)))))
  (pss_one (ps_ret pe_bl))))))
end
set_option maxHeartbeats 0 in
theorem all_mk {l : PySem.W.OpenLaw} {w : World} {K : PySem.W.Frag} {h : Heap} {mg : Str → Option Value} {fa a_turned_by a_classes a_Stranger_init a_NoBack_init a_NotTogether_init a_NotSteady_init a_Group_init a_look_at_size a_look_for_strangers a_unit_of a_back_of a_look_at_threes a_group_of a_product a_look_at_part a_closure a_mixed a_sides a_way_out a_folded a_inner a_l_cell a_l_sizes a_l_kind a_l_unit a_l_turned a_l_sum a_l_rows a_l_names a_l_group a_l_one a_l_backs a_l_thing a_l_closed a_l_chain a_l_through a_l_twice a_l_kin a_law c_BadSize c_Stranger c_NoUnit c_NoBack c_NotTogether c_NoPart c_NotSteady c_Group : Addr} (X : K.In h) (G : h.Ns mainGlobals mg) (hfa : mg "law" = some (.ref fa))
  {od_turned_by an_turned_by : Option Addr} {sl_turned_by : Array (Option Value)} {oc_turned_by kV_turned_by dc_turned_by pm_turned_by cd_turned_by ct_turned_by : Value}
  {od_classes an_classes : Option Addr} {sl_classes : Array (Option Value)} {oc_classes kV_classes dc_classes pm_classes cd_classes ct_classes : Value}
  {od_Stranger_init an_Stranger_init : Option Addr} {sl_Stranger_init : Array (Option Value)} {oc_Stranger_init kV_Stranger_init dc_Stranger_init pm_Stranger_init cd_Stranger_init ct_Stranger_init : Value}
  {od_NoBack_init an_NoBack_init : Option Addr} {sl_NoBack_init : Array (Option Value)} {oc_NoBack_init kV_NoBack_init dc_NoBack_init pm_NoBack_init cd_NoBack_init ct_NoBack_init : Value}
  {od_NotTogether_init an_NotTogether_init : Option Addr} {sl_NotTogether_init : Array (Option Value)} {oc_NotTogether_init kV_NotTogether_init dc_NotTogether_init pm_NotTogether_init cd_NotTogether_init ct_NotTogether_init : Value}
  {od_NotSteady_init an_NotSteady_init : Option Addr} {sl_NotSteady_init : Array (Option Value)} {oc_NotSteady_init kV_NotSteady_init dc_NotSteady_init pm_NotSteady_init cd_NotSteady_init ct_NotSteady_init : Value}
  {od_Group_init an_Group_init : Option Addr} {sl_Group_init : Array (Option Value)} {oc_Group_init kV_Group_init dc_Group_init pm_Group_init cd_Group_init ct_Group_init : Value}
  {od_look_at_size an_look_at_size : Option Addr} {sl_look_at_size : Array (Option Value)} {oc_look_at_size kV_look_at_size dc_look_at_size pm_look_at_size cd_look_at_size ct_look_at_size : Value}
  {od_look_for_strangers an_look_for_strangers : Option Addr} {sl_look_for_strangers : Array (Option Value)} {oc_look_for_strangers kV_look_for_strangers dc_look_for_strangers pm_look_for_strangers cd_look_for_strangers ct_look_for_strangers : Value}
  {od_unit_of an_unit_of : Option Addr} {sl_unit_of : Array (Option Value)} {oc_unit_of kV_unit_of dc_unit_of pm_unit_of cd_unit_of ct_unit_of : Value}
  {od_back_of an_back_of : Option Addr} {sl_back_of : Array (Option Value)} {oc_back_of kV_back_of dc_back_of pm_back_of cd_back_of ct_back_of : Value}
  {od_look_at_threes an_look_at_threes : Option Addr} {sl_look_at_threes : Array (Option Value)} {oc_look_at_threes kV_look_at_threes dc_look_at_threes pm_look_at_threes cd_look_at_threes ct_look_at_threes : Value}
  {od_group_of an_group_of : Option Addr} {sl_group_of : Array (Option Value)} {oc_group_of kV_group_of dc_group_of pm_group_of cd_group_of ct_group_of : Value}
  {od_product an_product : Option Addr} {sl_product : Array (Option Value)} {oc_product kV_product dc_product pm_product cd_product ct_product : Value}
  {od_look_at_part an_look_at_part : Option Addr} {sl_look_at_part : Array (Option Value)} {oc_look_at_part kV_look_at_part dc_look_at_part pm_look_at_part cd_look_at_part ct_look_at_part : Value}
  {od_closure an_closure : Option Addr} {sl_closure : Array (Option Value)} {oc_closure kV_closure dc_closure pm_closure cd_closure ct_closure : Value}
  {od_mixed an_mixed : Option Addr} {sl_mixed : Array (Option Value)} {oc_mixed kV_mixed dc_mixed pm_mixed cd_mixed ct_mixed : Value}
  {od_sides an_sides : Option Addr} {sl_sides : Array (Option Value)} {oc_sides kV_sides dc_sides pm_sides cd_sides ct_sides : Value}
  {od_way_out an_way_out : Option Addr} {sl_way_out : Array (Option Value)} {oc_way_out kV_way_out dc_way_out pm_way_out cd_way_out ct_way_out : Value}
  {od_folded an_folded : Option Addr} {sl_folded : Array (Option Value)} {oc_folded kV_folded dc_folded pm_folded cd_folded ct_folded : Value}
  {od_inner an_inner : Option Addr} {sl_inner : Array (Option Value)} {oc_inner kV_inner dc_inner pm_inner cd_inner ct_inner : Value}
  {od_l_cell an_l_cell : Option Addr} {sl_l_cell : Array (Option Value)} {oc_l_cell kV_l_cell dc_l_cell pm_l_cell cd_l_cell ct_l_cell : Value}
  {od_l_sizes an_l_sizes : Option Addr} {sl_l_sizes : Array (Option Value)} {oc_l_sizes kV_l_sizes dc_l_sizes pm_l_sizes cd_l_sizes ct_l_sizes : Value}
  {od_l_kind an_l_kind : Option Addr} {sl_l_kind : Array (Option Value)} {oc_l_kind kV_l_kind dc_l_kind pm_l_kind cd_l_kind ct_l_kind : Value}
  {od_l_unit an_l_unit : Option Addr} {sl_l_unit : Array (Option Value)} {oc_l_unit kV_l_unit dc_l_unit pm_l_unit cd_l_unit ct_l_unit : Value}
  {od_l_turned an_l_turned : Option Addr} {sl_l_turned : Array (Option Value)} {oc_l_turned kV_l_turned dc_l_turned pm_l_turned cd_l_turned ct_l_turned : Value}
  {od_l_sum an_l_sum : Option Addr} {sl_l_sum : Array (Option Value)} {oc_l_sum kV_l_sum dc_l_sum pm_l_sum cd_l_sum ct_l_sum : Value}
  {od_l_rows an_l_rows : Option Addr} {sl_l_rows : Array (Option Value)} {oc_l_rows kV_l_rows dc_l_rows pm_l_rows cd_l_rows ct_l_rows : Value}
  {od_l_names an_l_names : Option Addr} {sl_l_names : Array (Option Value)} {oc_l_names kV_l_names dc_l_names pm_l_names cd_l_names ct_l_names : Value}
  {od_l_group an_l_group : Option Addr} {sl_l_group : Array (Option Value)} {oc_l_group kV_l_group dc_l_group pm_l_group cd_l_group ct_l_group : Value}
  {od_l_one an_l_one : Option Addr} {sl_l_one : Array (Option Value)} {oc_l_one kV_l_one dc_l_one pm_l_one cd_l_one ct_l_one : Value}
  {od_l_backs an_l_backs : Option Addr} {sl_l_backs : Array (Option Value)} {oc_l_backs kV_l_backs dc_l_backs pm_l_backs cd_l_backs ct_l_backs : Value}
  {od_l_thing an_l_thing : Option Addr} {sl_l_thing : Array (Option Value)} {oc_l_thing kV_l_thing dc_l_thing pm_l_thing cd_l_thing ct_l_thing : Value}
  {od_l_closed an_l_closed : Option Addr} {sl_l_closed : Array (Option Value)} {oc_l_closed kV_l_closed dc_l_closed pm_l_closed cd_l_closed ct_l_closed : Value}
  {od_l_chain an_l_chain : Option Addr} {sl_l_chain : Array (Option Value)} {oc_l_chain kV_l_chain dc_l_chain pm_l_chain cd_l_chain ct_l_chain : Value}
  {od_l_through an_l_through : Option Addr} {sl_l_through : Array (Option Value)} {oc_l_through kV_l_through dc_l_through pm_l_through cd_l_through ct_l_through : Value}
  {od_l_twice an_l_twice : Option Addr} {sl_l_twice : Array (Option Value)} {oc_l_twice kV_l_twice dc_l_twice pm_l_twice cd_l_twice ct_l_twice : Value}
  {od_l_kin an_l_kin : Option Addr} {sl_l_kin : Array (Option Value)} {oc_l_kin kV_l_kin dc_l_kin pm_l_kin cd_l_kin ct_l_kin : Value}
  {od_law an_law : Option Addr} {sl_law : Array (Option Value)} {oc_law kV_law dc_law pm_law cd_law ct_law : Value}
  {tok_MOST : Tok}
  {nm_NoBack q_NoBack : Str} {N_NoBack : Addr} {bs_NoBack bm_NoBack sub_NoBack : List Value} {sn_NoBack : List Str} {ab_NoBack : Bool} {col_NoBack : Option Bool} {dd_NoBack : Option Addr} {m0_NoBack m1_NoBack m2_NoBack m3_NoBack m5_NoBack : Option Value}
  {nm_NotSteady q_NotSteady : Str} {N_NotSteady : Addr} {bs_NotSteady bm_NotSteady sub_NotSteady : List Value} {sn_NotSteady : List Str} {ab_NotSteady : Bool} {col_NotSteady : Option Bool} {dd_NotSteady : Option Addr} {m0_NotSteady m1_NotSteady m2_NotSteady m3_NotSteady m5_NotSteady : Option Value}
  {nm_NotTogether q_NotTogether : Str} {N_NotTogether : Addr} {bs_NotTogether bm_NotTogether sub_NotTogether : List Value} {sn_NotTogether : List Str} {ab_NotTogether : Bool} {col_NotTogether : Option Bool} {dd_NotTogether : Option Addr} {m0_NotTogether m1_NotTogether m2_NotTogether m3_NotTogether m5_NotTogether : Option Value}
  {nm_Stranger q_Stranger : Str} {N_Stranger : Addr} {bs_Stranger bm_Stranger sub_Stranger : List Value} {sn_Stranger : List Str} {ab_Stranger : Bool} {col_Stranger : Option Bool} {dd_Stranger : Option Addr} {m0_Stranger m1_Stranger m2_Stranger m3_Stranger m5_Stranger : Option Value}
  (ac_BadSize : PySem.W.nsIn K mainGlobals "BadSize" = some (some (.ref c_BadSize)))
  (ac_Stranger : PySem.W.nsIn K mainGlobals "Stranger" = some (some (.ref c_Stranger)))
  (ac_NoUnit : PySem.W.nsIn K mainGlobals "NoUnit" = some (some (.ref c_NoUnit)))
  (ac_NoBack : PySem.W.nsIn K mainGlobals "NoBack" = some (some (.ref c_NoBack)))
  (ac_NotTogether : PySem.W.nsIn K mainGlobals "NotTogether" = some (some (.ref c_NotTogether)))
  (ac_NoPart : PySem.W.nsIn K mainGlobals "NoPart" = some (some (.ref c_NoPart)))
  (ac_NotSteady : PySem.W.nsIn K mainGlobals "NotSteady" = some (some (.ref c_NotSteady)))
  (ac_Group : PySem.W.nsIn K mainGlobals "Group" = some (some (.ref c_Group)))
  (a1_turned_by : PySem.W.nsIn K mainGlobals "turned_by" = some (some (.ref a_turned_by)))
  (l1_turned_by : K.lookup a_turned_by = some ⟨oc_turned_by, od_turned_by, .func (PySem.W.fnOf "turned_by" "turned_by" (defArgs s_turned_by) (defBody s_turned_by) (defScope s_turned_by) .none kV_turned_by dc_turned_by pm_turned_by an_turned_by cd_turned_by ct_turned_by), sl_turned_by⟩)
  (c1_turned_by : PySem.W.codeIn K cd_turned_by "turned_by" = true)
  (k1_turned_by : PySem.W.keepIn K (.ref a_turned_by) = true)
  (a1_classes : PySem.W.nsIn K mainGlobals "classes" = some (some (.ref a_classes)))
  (l1_classes : K.lookup a_classes = some ⟨oc_classes, od_classes, .func (PySem.W.fnOf "classes" "classes" (defArgs s_classes) (defBody s_classes) (defScope s_classes) .none kV_classes dc_classes pm_classes an_classes cd_classes ct_classes), sl_classes⟩)
  (c1_classes : PySem.W.codeIn K cd_classes "classes" = true)
  (k1_classes : PySem.W.keepIn K (.ref a_classes) = true)
  (a1_Stranger_init : PySem.W.findIn K (.ref c_Stranger) "__init__" = some (some (.ref a_Stranger_init)))
  (i1_Stranger_init : PySem.W.isFn K (.ref a_Stranger_init) = true)
  (l1_Stranger_init : K.lookup a_Stranger_init = some ⟨oc_Stranger_init, od_Stranger_init, .func (PySem.W.fnOf "__init__" "Stranger.__init__" (defArgs s_Stranger_init) (defBody s_Stranger_init) (defScope s_Stranger_init) .none kV_Stranger_init dc_Stranger_init pm_Stranger_init an_Stranger_init cd_Stranger_init ct_Stranger_init), sl_Stranger_init⟩)
  (c1_Stranger_init : PySem.W.codeIn K cd_Stranger_init "Stranger.__init__" = true)
  (k1_Stranger_init : PySem.W.keepIn K (.ref a_Stranger_init) = true)
  (a1_NoBack_init : PySem.W.findIn K (.ref c_NoBack) "__init__" = some (some (.ref a_NoBack_init)))
  (i1_NoBack_init : PySem.W.isFn K (.ref a_NoBack_init) = true)
  (l1_NoBack_init : K.lookup a_NoBack_init = some ⟨oc_NoBack_init, od_NoBack_init, .func (PySem.W.fnOf "__init__" "NoBack.__init__" (defArgs s_NoBack_init) (defBody s_NoBack_init) (defScope s_NoBack_init) .none kV_NoBack_init dc_NoBack_init pm_NoBack_init an_NoBack_init cd_NoBack_init ct_NoBack_init), sl_NoBack_init⟩)
  (c1_NoBack_init : PySem.W.codeIn K cd_NoBack_init "NoBack.__init__" = true)
  (k1_NoBack_init : PySem.W.keepIn K (.ref a_NoBack_init) = true)
  (a1_NotTogether_init : PySem.W.findIn K (.ref c_NotTogether) "__init__" = some (some (.ref a_NotTogether_init)))
  (i1_NotTogether_init : PySem.W.isFn K (.ref a_NotTogether_init) = true)
  (l1_NotTogether_init : K.lookup a_NotTogether_init = some ⟨oc_NotTogether_init, od_NotTogether_init, .func (PySem.W.fnOf "__init__" "NotTogether.__init__" (defArgs s_NotTogether_init) (defBody s_NotTogether_init) (defScope s_NotTogether_init) .none kV_NotTogether_init dc_NotTogether_init pm_NotTogether_init an_NotTogether_init cd_NotTogether_init ct_NotTogether_init), sl_NotTogether_init⟩)
  (c1_NotTogether_init : PySem.W.codeIn K cd_NotTogether_init "NotTogether.__init__" = true)
  (k1_NotTogether_init : PySem.W.keepIn K (.ref a_NotTogether_init) = true)
  (a1_NotSteady_init : PySem.W.findIn K (.ref c_NotSteady) "__init__" = some (some (.ref a_NotSteady_init)))
  (i1_NotSteady_init : PySem.W.isFn K (.ref a_NotSteady_init) = true)
  (l1_NotSteady_init : K.lookup a_NotSteady_init = some ⟨oc_NotSteady_init, od_NotSteady_init, .func (PySem.W.fnOf "__init__" "NotSteady.__init__" (defArgs s_NotSteady_init) (defBody s_NotSteady_init) (defScope s_NotSteady_init) .none kV_NotSteady_init dc_NotSteady_init pm_NotSteady_init an_NotSteady_init cd_NotSteady_init ct_NotSteady_init), sl_NotSteady_init⟩)
  (c1_NotSteady_init : PySem.W.codeIn K cd_NotSteady_init "NotSteady.__init__" = true)
  (k1_NotSteady_init : PySem.W.keepIn K (.ref a_NotSteady_init) = true)
  (a1_Group_init : PySem.W.findIn K (.ref c_Group) "__init__" = some (some (.ref a_Group_init)))
  (i1_Group_init : PySem.W.isFn K (.ref a_Group_init) = true)
  (l1_Group_init : K.lookup a_Group_init = some ⟨oc_Group_init, od_Group_init, .func (PySem.W.fnOf "__init__" "Group.__init__" (defArgs s_Group_init) (defBody s_Group_init) (defScope s_Group_init) .none kV_Group_init dc_Group_init pm_Group_init an_Group_init cd_Group_init ct_Group_init), sl_Group_init⟩)
  (c1_Group_init : PySem.W.codeIn K cd_Group_init "Group.__init__" = true)
  (k1_Group_init : PySem.W.keepIn K (.ref a_Group_init) = true)
  (a1_look_at_size : PySem.W.nsIn K mainGlobals "look_at_size" = some (some (.ref a_look_at_size)))
  (l1_look_at_size : K.lookup a_look_at_size = some ⟨oc_look_at_size, od_look_at_size, .func (PySem.W.fnOf "look_at_size" "look_at_size" (defArgs s_look_at_size) (defBody s_look_at_size) (defScope s_look_at_size) .none kV_look_at_size dc_look_at_size pm_look_at_size an_look_at_size cd_look_at_size ct_look_at_size), sl_look_at_size⟩)
  (c1_look_at_size : PySem.W.codeIn K cd_look_at_size "look_at_size" = true)
  (k1_look_at_size : PySem.W.keepIn K (.ref a_look_at_size) = true)
  (a1_look_for_strangers : PySem.W.nsIn K mainGlobals "look_for_strangers" = some (some (.ref a_look_for_strangers)))
  (l1_look_for_strangers : K.lookup a_look_for_strangers = some ⟨oc_look_for_strangers, od_look_for_strangers, .func (PySem.W.fnOf "look_for_strangers" "look_for_strangers" (defArgs s_look_for_strangers) (defBody s_look_for_strangers) (defScope s_look_for_strangers) .none kV_look_for_strangers dc_look_for_strangers pm_look_for_strangers an_look_for_strangers cd_look_for_strangers ct_look_for_strangers), sl_look_for_strangers⟩)
  (c1_look_for_strangers : PySem.W.codeIn K cd_look_for_strangers "look_for_strangers" = true)
  (k1_look_for_strangers : PySem.W.keepIn K (.ref a_look_for_strangers) = true)
  (a1_unit_of : PySem.W.nsIn K mainGlobals "unit_of" = some (some (.ref a_unit_of)))
  (l1_unit_of : K.lookup a_unit_of = some ⟨oc_unit_of, od_unit_of, .func (PySem.W.fnOf "unit_of" "unit_of" (defArgs s_unit_of) (defBody s_unit_of) (defScope s_unit_of) .none kV_unit_of dc_unit_of pm_unit_of an_unit_of cd_unit_of ct_unit_of), sl_unit_of⟩)
  (c1_unit_of : PySem.W.codeIn K cd_unit_of "unit_of" = true)
  (k1_unit_of : PySem.W.keepIn K (.ref a_unit_of) = true)
  (a1_back_of : PySem.W.nsIn K mainGlobals "back_of" = some (some (.ref a_back_of)))
  (l1_back_of : K.lookup a_back_of = some ⟨oc_back_of, od_back_of, .func (PySem.W.fnOf "back_of" "back_of" (defArgs s_back_of) (defBody s_back_of) (defScope s_back_of) .none kV_back_of dc_back_of pm_back_of an_back_of cd_back_of ct_back_of), sl_back_of⟩)
  (c1_back_of : PySem.W.codeIn K cd_back_of "back_of" = true)
  (k1_back_of : PySem.W.keepIn K (.ref a_back_of) = true)
  (a1_look_at_threes : PySem.W.nsIn K mainGlobals "look_at_threes" = some (some (.ref a_look_at_threes)))
  (l1_look_at_threes : K.lookup a_look_at_threes = some ⟨oc_look_at_threes, od_look_at_threes, .func (PySem.W.fnOf "look_at_threes" "look_at_threes" (defArgs s_look_at_threes) (defBody s_look_at_threes) (defScope s_look_at_threes) .none kV_look_at_threes dc_look_at_threes pm_look_at_threes an_look_at_threes cd_look_at_threes ct_look_at_threes), sl_look_at_threes⟩)
  (c1_look_at_threes : PySem.W.codeIn K cd_look_at_threes "look_at_threes" = true)
  (k1_look_at_threes : PySem.W.keepIn K (.ref a_look_at_threes) = true)
  (a1_group_of : PySem.W.nsIn K mainGlobals "group_of" = some (some (.ref a_group_of)))
  (l1_group_of : K.lookup a_group_of = some ⟨oc_group_of, od_group_of, .func (PySem.W.fnOf "group_of" "group_of" (defArgs s_group_of) (defBody s_group_of) (defScope s_group_of) .none kV_group_of dc_group_of pm_group_of an_group_of cd_group_of ct_group_of), sl_group_of⟩)
  (c1_group_of : PySem.W.codeIn K cd_group_of "group_of" = true)
  (k1_group_of : PySem.W.keepIn K (.ref a_group_of) = true)
  (a1_product : PySem.W.nsIn K mainGlobals "product" = some (some (.ref a_product)))
  (l1_product : K.lookup a_product = some ⟨oc_product, od_product, .func (PySem.W.fnOf "product" "product" (defArgs s_product) (defBody s_product) (defScope s_product) .none kV_product dc_product pm_product an_product cd_product ct_product), sl_product⟩)
  (c1_product : PySem.W.codeIn K cd_product "product" = true)
  (k1_product : PySem.W.keepIn K (.ref a_product) = true)
  (a1_look_at_part : PySem.W.nsIn K mainGlobals "look_at_part" = some (some (.ref a_look_at_part)))
  (l1_look_at_part : K.lookup a_look_at_part = some ⟨oc_look_at_part, od_look_at_part, .func (PySem.W.fnOf "look_at_part" "look_at_part" (defArgs s_look_at_part) (defBody s_look_at_part) (defScope s_look_at_part) .none kV_look_at_part dc_look_at_part pm_look_at_part an_look_at_part cd_look_at_part ct_look_at_part), sl_look_at_part⟩)
  (c1_look_at_part : PySem.W.codeIn K cd_look_at_part "look_at_part" = true)
  (k1_look_at_part : PySem.W.keepIn K (.ref a_look_at_part) = true)
  (a1_closure : PySem.W.nsIn K mainGlobals "closure" = some (some (.ref a_closure)))
  (l1_closure : K.lookup a_closure = some ⟨oc_closure, od_closure, .func (PySem.W.fnOf "closure" "closure" (defArgs s_closure) (defBody s_closure) (defScope s_closure) .none kV_closure dc_closure pm_closure an_closure cd_closure ct_closure), sl_closure⟩)
  (c1_closure : PySem.W.codeIn K cd_closure "closure" = true)
  (k1_closure : PySem.W.keepIn K (.ref a_closure) = true)
  (a1_mixed : PySem.W.nsIn K mainGlobals "mixed" = some (some (.ref a_mixed)))
  (l1_mixed : K.lookup a_mixed = some ⟨oc_mixed, od_mixed, .func (PySem.W.fnOf "mixed" "mixed" (defArgs s_mixed) (defBody s_mixed) (defScope s_mixed) .none kV_mixed dc_mixed pm_mixed an_mixed cd_mixed ct_mixed), sl_mixed⟩)
  (c1_mixed : PySem.W.codeIn K cd_mixed "mixed" = true)
  (k1_mixed : PySem.W.keepIn K (.ref a_mixed) = true)
  (a1_sides : PySem.W.nsIn K mainGlobals "sides" = some (some (.ref a_sides)))
  (l1_sides : K.lookup a_sides = some ⟨oc_sides, od_sides, .func (PySem.W.fnOf "sides" "sides" (defArgs s_sides) (defBody s_sides) (defScope s_sides) .none kV_sides dc_sides pm_sides an_sides cd_sides ct_sides), sl_sides⟩)
  (c1_sides : PySem.W.codeIn K cd_sides "sides" = true)
  (k1_sides : PySem.W.keepIn K (.ref a_sides) = true)
  (a1_way_out : PySem.W.nsIn K mainGlobals "way_out" = some (some (.ref a_way_out)))
  (l1_way_out : K.lookup a_way_out = some ⟨oc_way_out, od_way_out, .func (PySem.W.fnOf "way_out" "way_out" (defArgs s_way_out) (defBody s_way_out) (defScope s_way_out) .none kV_way_out dc_way_out pm_way_out an_way_out cd_way_out ct_way_out), sl_way_out⟩)
  (c1_way_out : PySem.W.codeIn K cd_way_out "way_out" = true)
  (k1_way_out : PySem.W.keepIn K (.ref a_way_out) = true)
  (a1_folded : PySem.W.nsIn K mainGlobals "folded" = some (some (.ref a_folded)))
  (l1_folded : K.lookup a_folded = some ⟨oc_folded, od_folded, .func (PySem.W.fnOf "folded" "folded" (defArgs s_folded) (defBody s_folded) (defScope s_folded) .none kV_folded dc_folded pm_folded an_folded cd_folded ct_folded), sl_folded⟩)
  (c1_folded : PySem.W.codeIn K cd_folded "folded" = true)
  (k1_folded : PySem.W.keepIn K (.ref a_folded) = true)
  (a1_inner : PySem.W.nsIn K mainGlobals "inner" = some (some (.ref a_inner)))
  (l1_inner : K.lookup a_inner = some ⟨oc_inner, od_inner, .func (PySem.W.fnOf "inner" "inner" (defArgs s_inner) (defBody s_inner) (defScope s_inner) .none kV_inner dc_inner pm_inner an_inner cd_inner ct_inner), sl_inner⟩)
  (c1_inner : PySem.W.codeIn K cd_inner "inner" = true)
  (k1_inner : PySem.W.keepIn K (.ref a_inner) = true)
  (a1_l_cell : PySem.W.nsIn K mainGlobals "_law_cell" = some (some (.ref a_l_cell)))
  (l1_l_cell : K.lookup a_l_cell = some ⟨oc_l_cell, od_l_cell, .func (PySem.W.fnOf "_law_cell" "_law_cell" (defArgs s_l_cell) (defBody s_l_cell) (defScope s_l_cell) .none kV_l_cell dc_l_cell pm_l_cell an_l_cell cd_l_cell ct_l_cell), sl_l_cell⟩)
  (c1_l_cell : PySem.W.codeIn K cd_l_cell "_law_cell" = true)
  (k1_l_cell : PySem.W.keepIn K (.ref a_l_cell) = true)
  (a1_l_sizes : PySem.W.nsIn K mainGlobals "_law_sizes" = some (some (.ref a_l_sizes)))
  (l1_l_sizes : K.lookup a_l_sizes = some ⟨oc_l_sizes, od_l_sizes, .func (PySem.W.fnOf "_law_sizes" "_law_sizes" (defArgs s_l_sizes) (defBody s_l_sizes) (defScope s_l_sizes) .none kV_l_sizes dc_l_sizes pm_l_sizes an_l_sizes cd_l_sizes ct_l_sizes), sl_l_sizes⟩)
  (c1_l_sizes : PySem.W.codeIn K cd_l_sizes "_law_sizes" = true)
  (k1_l_sizes : PySem.W.keepIn K (.ref a_l_sizes) = true)
  (a1_l_kind : PySem.W.nsIn K mainGlobals "_law_kind" = some (some (.ref a_l_kind)))
  (l1_l_kind : K.lookup a_l_kind = some ⟨oc_l_kind, od_l_kind, .func (PySem.W.fnOf "_law_kind" "_law_kind" (defArgs s_l_kind) (defBody s_l_kind) (defScope s_l_kind) .none kV_l_kind dc_l_kind pm_l_kind an_l_kind cd_l_kind ct_l_kind), sl_l_kind⟩)
  (c1_l_kind : PySem.W.codeIn K cd_l_kind "_law_kind" = true)
  (k1_l_kind : PySem.W.keepIn K (.ref a_l_kind) = true)
  (a1_l_unit : PySem.W.nsIn K mainGlobals "_law_unit" = some (some (.ref a_l_unit)))
  (l1_l_unit : K.lookup a_l_unit = some ⟨oc_l_unit, od_l_unit, .func (PySem.W.fnOf "_law_unit" "_law_unit" (defArgs s_l_unit) (defBody s_l_unit) (defScope s_l_unit) .none kV_l_unit dc_l_unit pm_l_unit an_l_unit cd_l_unit ct_l_unit), sl_l_unit⟩)
  (c1_l_unit : PySem.W.codeIn K cd_l_unit "_law_unit" = true)
  (k1_l_unit : PySem.W.keepIn K (.ref a_l_unit) = true)
  (a1_l_turned : PySem.W.nsIn K mainGlobals "_law_turned" = some (some (.ref a_l_turned)))
  (l1_l_turned : K.lookup a_l_turned = some ⟨oc_l_turned, od_l_turned, .func (PySem.W.fnOf "_law_turned" "_law_turned" (defArgs s_l_turned) (defBody s_l_turned) (defScope s_l_turned) .none kV_l_turned dc_l_turned pm_l_turned an_l_turned cd_l_turned ct_l_turned), sl_l_turned⟩)
  (c1_l_turned : PySem.W.codeIn K cd_l_turned "_law_turned" = true)
  (k1_l_turned : PySem.W.keepIn K (.ref a_l_turned) = true)
  (a1_l_sum : PySem.W.nsIn K mainGlobals "_law_sum" = some (some (.ref a_l_sum)))
  (l1_l_sum : K.lookup a_l_sum = some ⟨oc_l_sum, od_l_sum, .func (PySem.W.fnOf "_law_sum" "_law_sum" (defArgs s_l_sum) (defBody s_l_sum) (defScope s_l_sum) .none kV_l_sum dc_l_sum pm_l_sum an_l_sum cd_l_sum ct_l_sum), sl_l_sum⟩)
  (c1_l_sum : PySem.W.codeIn K cd_l_sum "_law_sum" = true)
  (k1_l_sum : PySem.W.keepIn K (.ref a_l_sum) = true)
  (a1_l_rows : PySem.W.nsIn K mainGlobals "_law_rows" = some (some (.ref a_l_rows)))
  (l1_l_rows : K.lookup a_l_rows = some ⟨oc_l_rows, od_l_rows, .func (PySem.W.fnOf "_law_rows" "_law_rows" (defArgs s_l_rows) (defBody s_l_rows) (defScope s_l_rows) .none kV_l_rows dc_l_rows pm_l_rows an_l_rows cd_l_rows ct_l_rows), sl_l_rows⟩)
  (c1_l_rows : PySem.W.codeIn K cd_l_rows "_law_rows" = true)
  (k1_l_rows : PySem.W.keepIn K (.ref a_l_rows) = true)
  (a1_l_names : PySem.W.nsIn K mainGlobals "_law_names" = some (some (.ref a_l_names)))
  (l1_l_names : K.lookup a_l_names = some ⟨oc_l_names, od_l_names, .func (PySem.W.fnOf "_law_names" "_law_names" (defArgs s_l_names) (defBody s_l_names) (defScope s_l_names) .none kV_l_names dc_l_names pm_l_names an_l_names cd_l_names ct_l_names), sl_l_names⟩)
  (c1_l_names : PySem.W.codeIn K cd_l_names "_law_names" = true)
  (k1_l_names : PySem.W.keepIn K (.ref a_l_names) = true)
  (a1_l_group : PySem.W.nsIn K mainGlobals "_law_group" = some (some (.ref a_l_group)))
  (l1_l_group : K.lookup a_l_group = some ⟨oc_l_group, od_l_group, .func (PySem.W.fnOf "_law_group" "_law_group" (defArgs s_l_group) (defBody s_l_group) (defScope s_l_group) .none kV_l_group dc_l_group pm_l_group an_l_group cd_l_group ct_l_group), sl_l_group⟩)
  (c1_l_group : PySem.W.codeIn K cd_l_group "_law_group" = true)
  (k1_l_group : PySem.W.keepIn K (.ref a_l_group) = true)
  (a1_l_one : PySem.W.nsIn K mainGlobals "_law_one" = some (some (.ref a_l_one)))
  (l1_l_one : K.lookup a_l_one = some ⟨oc_l_one, od_l_one, .func (PySem.W.fnOf "_law_one" "_law_one" (defArgs s_l_one) (defBody s_l_one) (defScope s_l_one) .none kV_l_one dc_l_one pm_l_one an_l_one cd_l_one ct_l_one), sl_l_one⟩)
  (c1_l_one : PySem.W.codeIn K cd_l_one "_law_one" = true)
  (k1_l_one : PySem.W.keepIn K (.ref a_l_one) = true)
  (a1_l_backs : PySem.W.nsIn K mainGlobals "_law_backs" = some (some (.ref a_l_backs)))
  (l1_l_backs : K.lookup a_l_backs = some ⟨oc_l_backs, od_l_backs, .func (PySem.W.fnOf "_law_backs" "_law_backs" (defArgs s_l_backs) (defBody s_l_backs) (defScope s_l_backs) .none kV_l_backs dc_l_backs pm_l_backs an_l_backs cd_l_backs ct_l_backs), sl_l_backs⟩)
  (c1_l_backs : PySem.W.codeIn K cd_l_backs "_law_backs" = true)
  (k1_l_backs : PySem.W.keepIn K (.ref a_l_backs) = true)
  (a1_l_thing : PySem.W.nsIn K mainGlobals "_law_thing" = some (some (.ref a_l_thing)))
  (l1_l_thing : K.lookup a_l_thing = some ⟨oc_l_thing, od_l_thing, .func (PySem.W.fnOf "_law_thing" "_law_thing" (defArgs s_l_thing) (defBody s_l_thing) (defScope s_l_thing) .none kV_l_thing dc_l_thing pm_l_thing an_l_thing cd_l_thing ct_l_thing), sl_l_thing⟩)
  (c1_l_thing : PySem.W.codeIn K cd_l_thing "_law_thing" = true)
  (k1_l_thing : PySem.W.keepIn K (.ref a_l_thing) = true)
  (a1_l_closed : PySem.W.nsIn K mainGlobals "_law_closed" = some (some (.ref a_l_closed)))
  (l1_l_closed : K.lookup a_l_closed = some ⟨oc_l_closed, od_l_closed, .func (PySem.W.fnOf "_law_closed" "_law_closed" (defArgs s_l_closed) (defBody s_l_closed) (defScope s_l_closed) .none kV_l_closed dc_l_closed pm_l_closed an_l_closed cd_l_closed ct_l_closed), sl_l_closed⟩)
  (c1_l_closed : PySem.W.codeIn K cd_l_closed "_law_closed" = true)
  (k1_l_closed : PySem.W.keepIn K (.ref a_l_closed) = true)
  (a1_l_chain : PySem.W.nsIn K mainGlobals "_law_chain" = some (some (.ref a_l_chain)))
  (l1_l_chain : K.lookup a_l_chain = some ⟨oc_l_chain, od_l_chain, .func (PySem.W.fnOf "_law_chain" "_law_chain" (defArgs s_l_chain) (defBody s_l_chain) (defScope s_l_chain) .none kV_l_chain dc_l_chain pm_l_chain an_l_chain cd_l_chain ct_l_chain), sl_l_chain⟩)
  (c1_l_chain : PySem.W.codeIn K cd_l_chain "_law_chain" = true)
  (k1_l_chain : PySem.W.keepIn K (.ref a_l_chain) = true)
  (a1_l_through : PySem.W.nsIn K mainGlobals "_law_through" = some (some (.ref a_l_through)))
  (l1_l_through : K.lookup a_l_through = some ⟨oc_l_through, od_l_through, .func (PySem.W.fnOf "_law_through" "_law_through" (defArgs s_l_through) (defBody s_l_through) (defScope s_l_through) .none kV_l_through dc_l_through pm_l_through an_l_through cd_l_through ct_l_through), sl_l_through⟩)
  (c1_l_through : PySem.W.codeIn K cd_l_through "_law_through" = true)
  (k1_l_through : PySem.W.keepIn K (.ref a_l_through) = true)
  (a1_l_twice : PySem.W.nsIn K mainGlobals "_law_twice" = some (some (.ref a_l_twice)))
  (l1_l_twice : K.lookup a_l_twice = some ⟨oc_l_twice, od_l_twice, .func (PySem.W.fnOf "_law_twice" "_law_twice" (defArgs s_l_twice) (defBody s_l_twice) (defScope s_l_twice) .none kV_l_twice dc_l_twice pm_l_twice an_l_twice cd_l_twice ct_l_twice), sl_l_twice⟩)
  (c1_l_twice : PySem.W.codeIn K cd_l_twice "_law_twice" = true)
  (k1_l_twice : PySem.W.keepIn K (.ref a_l_twice) = true)
  (a1_l_kin : PySem.W.nsIn K mainGlobals "_law_kin" = some (some (.ref a_l_kin)))
  (l1_l_kin : K.lookup a_l_kin = some ⟨oc_l_kin, od_l_kin, .func (PySem.W.fnOf "_law_kin" "_law_kin" (defArgs s_l_kin) (defBody s_l_kin) (defScope s_l_kin) .none kV_l_kin dc_l_kin pm_l_kin an_l_kin cd_l_kin ct_l_kin), sl_l_kin⟩)
  (c1_l_kin : PySem.W.codeIn K cd_l_kin "_law_kin" = true)
  (k1_l_kin : PySem.W.keepIn K (.ref a_l_kin) = true)
  (a1_law : PySem.W.nsIn K mainGlobals "law" = some (some (.ref a_law)))
  (l1_law : K.lookup a_law = some ⟨oc_law, od_law, .func (PySem.W.fnOf "law" "law" (defArgs s_law) (defBody s_law) (defScope s_law) .none kV_law dc_law pm_law an_law cd_law ct_law), sl_law⟩)
  (c1_law : PySem.W.codeIn K cd_law "law" = true)
  (k1_law : PySem.W.keepIn K (.ref a_law) = true)
  (z_all : PySem.W.nsIn K mainGlobals "all" = some none)
  (z_enumerate : PySem.W.nsIn K mainGlobals "enumerate" = some none)
  (z_len : PySem.W.nsIn K mainGlobals "len" = some none)
  (z_list : PySem.W.nsIn K mainGlobals "list" = some none)
  (z_range : PySem.W.nsIn K mainGlobals "range" = some none)
  (z_set : PySem.W.nsIn K mainGlobals "set" = some none)
  (z_sorted : PySem.W.nsIn K mainGlobals "sorted" = some none)
  (v_MOST : PySem.W.nsIn K mainGlobals "MOST" = some (some (.int 23 tok_MOST)))
  (mk_Group : PySem.W.makesIn K c_Group = true)
  (kc_Group : PySem.W.keepIn K (.ref c_Group) = true)
  (pg_Group : PySem.W.plainGet K c_Group Str.empty = true)
  (hd_Group : PySem.W.hasDictIn K c_Group = true)
  (po_Group : PySem.W.plainOver K c_Group = true)
  (sa_Group : PySem.W.findIn K (.ref c_Group) "__setattr__" = some (some (.builtin "object.__setattr__")))
  (nG_many : PySem.W.findIn K (.ref c_Group) "many" = some none)
  (nG_rows : PySem.W.findIn K (.ref c_Group) "rows" = some none)
  (nG_unit : PySem.W.findIn K (.ref c_Group) "unit" = some none)
  (nG_backs : PySem.W.findIn K (.ref c_Group) "backs" = some none)
  (x_BadSize : PySem.W.excIn K c_BadSize [.type "ValueError", .type "Exception", .type "BaseException", .type "object"] "ValueError.__new__" = true)
  (kx_BadSize : PySem.W.keepIn K (.ref c_BadSize) = true)
  (rx_BadSize : PySem.W.subIn K (.ref c_BadSize) (.type "BaseException") = some true)
  (rt_BadSize : PySem.W.typeIn K (.ref c_BadSize) = some (.type "type"))
  (x_NoPart : PySem.W.excIn K c_NoPart [.type "ValueError", .type "Exception", .type "BaseException", .type "object"] "ValueError.__new__" = true)
  (kx_NoPart : PySem.W.keepIn K (.ref c_NoPart) = true)
  (rx_NoPart : PySem.W.subIn K (.ref c_NoPart) (.type "BaseException") = some true)
  (rt_NoPart : PySem.W.typeIn K (.ref c_NoPart) = some (.type "type"))
  (x_NoUnit : PySem.W.excIn K c_NoUnit [.type "ValueError", .type "Exception", .type "BaseException", .type "object"] "ValueError.__new__" = true)
  (kx_NoUnit : PySem.W.keepIn K (.ref c_NoUnit) = true)
  (rx_NoUnit : PySem.W.subIn K (.ref c_NoUnit) (.type "BaseException") = some true)
  (rt_NoUnit : PySem.W.typeIn K (.ref c_NoUnit) = some (.type "type"))
  (xL_NoBack : K.lookup c_NoBack = some (excClassObj nm_NoBack q_NoBack c_NoBack N_NoBack bs_NoBack bm_NoBack true sn_NoBack sub_NoBack ab_NoBack col_NoBack dd_NoBack m0_NoBack m1_NoBack m2_NoBack m3_NoBack m5_NoBack "ValueError.__new__"))
  (bm_NoBack_ok : PySem.HandSPX.refsVE bm_NoBack = true)
  (sa_NoBack : PySem.W.findIn K (.ref c_NoBack) "__setattr__" = some (some (.builtin "object.__setattr__")))
  (rx_NoBack : PySem.W.subIn K (.ref c_NoBack) (.type "BaseException") = some true)
  (rt_NoBack : PySem.W.typeIn K (.ref c_NoBack) = some (.type "type"))
  (kx_NoBack : PySem.W.keepIn K (.ref c_NoBack) = true)
  (ti_NoBack : PySem.W.typeIn K (.ref a_NoBack_init) = some (.type "function"))
  (n_NoBack_thing : PySem.W.findIn K (.ref c_NoBack) "thing" = some none)
  (xL_NotSteady : K.lookup c_NotSteady = some (excClassObj nm_NotSteady q_NotSteady c_NotSteady N_NotSteady bs_NotSteady bm_NotSteady true sn_NotSteady sub_NotSteady ab_NotSteady col_NotSteady dd_NotSteady m0_NotSteady m1_NotSteady m2_NotSteady m3_NotSteady m5_NotSteady "ValueError.__new__"))
  (bm_NotSteady_ok : PySem.HandSPX.refsVE bm_NotSteady = true)
  (sa_NotSteady : PySem.W.findIn K (.ref c_NotSteady) "__setattr__" = some (some (.builtin "object.__setattr__")))
  (rx_NotSteady : PySem.W.subIn K (.ref c_NotSteady) (.type "BaseException") = some true)
  (rt_NotSteady : PySem.W.typeIn K (.ref c_NotSteady) = some (.type "type"))
  (kx_NotSteady : PySem.W.keepIn K (.ref c_NotSteady) = true)
  (ti_NotSteady : PySem.W.typeIn K (.ref a_NotSteady_init) = some (.type "function"))
  (n_NotSteady_turner : PySem.W.findIn K (.ref c_NotSteady) "turner" = some none)
  (n_NotSteady_thing : PySem.W.findIn K (.ref c_NotSteady) "thing" = some none)
  (xL_NotTogether : K.lookup c_NotTogether = some (excClassObj nm_NotTogether q_NotTogether c_NotTogether N_NotTogether bs_NotTogether bm_NotTogether true sn_NotTogether sub_NotTogether ab_NotTogether col_NotTogether dd_NotTogether m0_NotTogether m1_NotTogether m2_NotTogether m3_NotTogether m5_NotTogether "ValueError.__new__"))
  (bm_NotTogether_ok : PySem.HandSPX.refsVE bm_NotTogether = true)
  (sa_NotTogether : PySem.W.findIn K (.ref c_NotTogether) "__setattr__" = some (some (.builtin "object.__setattr__")))
  (rx_NotTogether : PySem.W.subIn K (.ref c_NotTogether) (.type "BaseException") = some true)
  (rt_NotTogether : PySem.W.typeIn K (.ref c_NotTogether) = some (.type "type"))
  (kx_NotTogether : PySem.W.keepIn K (.ref c_NotTogether) = true)
  (ti_NotTogether : PySem.W.typeIn K (.ref a_NotTogether_init) = some (.type "function"))
  (n_NotTogether_one : PySem.W.findIn K (.ref c_NotTogether) "one" = some none)
  (n_NotTogether_two : PySem.W.findIn K (.ref c_NotTogether) "two" = some none)
  (n_NotTogether_three : PySem.W.findIn K (.ref c_NotTogether) "three" = some none)
  (xL_Stranger : K.lookup c_Stranger = some (excClassObj nm_Stranger q_Stranger c_Stranger N_Stranger bs_Stranger bm_Stranger true sn_Stranger sub_Stranger ab_Stranger col_Stranger dd_Stranger m0_Stranger m1_Stranger m2_Stranger m3_Stranger m5_Stranger "ValueError.__new__"))
  (bm_Stranger_ok : PySem.HandSPX.refsVE bm_Stranger = true)
  (sa_Stranger : PySem.W.findIn K (.ref c_Stranger) "__setattr__" = some (some (.builtin "object.__setattr__")))
  (rx_Stranger : PySem.W.subIn K (.ref c_Stranger) (.type "BaseException") = some true)
  (rt_Stranger : PySem.W.typeIn K (.ref c_Stranger) = some (.type "type"))
  (kx_Stranger : PySem.W.keepIn K (.ref c_Stranger) = true)
  (ti_Stranger : PySem.W.typeIn K (.ref a_Stranger_init) = some (.type "function"))
  (n_Stranger_row : PySem.W.findIn K (.ref c_Stranger) "row" = some none)
  (n_Stranger_column : PySem.W.findIn K (.ref c_Stranger) "column" = some none)
  : ∃ fd : FuncData, (∀ (s : Shared) (v : Value), BindsTo s fd ⟨[v], []⟩ [("_law_script", v)]) ∧ ∀ base : Heap, K.In base → base.Ns mainGlobals mg → FnOk l.prog w K mg base (L2.CX l.prog w) 5 fa fd ["_law_script"] (spLaw K) := by
  have e := (PySem.W.mg_of X G a1_law).symm.trans hfa
  cases e
  obtain ⟨cls, e_BadSize, e_Stranger, e_NoUnit, e_NoBack, e_NotTogether, e_NoPart, e_NotSteady, e_Group⟩ : ∃ cls : CN → Addr, cls .BadSize = c_BadSize ∧ cls .Stranger = c_Stranger ∧ cls .NoUnit = c_NoUnit ∧ cls .NoBack = c_NoBack ∧ cls .NotTogether = c_NotTogether ∧ cls .NoPart = c_NoPart ∧ cls .NotSteady = c_NotSteady ∧ cls .Group = c_Group := ⟨fun n => match n with | .BadSize => c_BadSize | .Stranger => c_Stranger | .NoUnit => c_NoUnit | .NoBack => c_NoBack | .NotTogether => c_NotTogether | .NoPart => c_NoPart | .NotSteady => c_NotSteady | .Group => c_Group | _ => 0, rfl, rfl, rfl, rfl, rfl, rfl, rfl, rfl⟩
  subst e_BadSize
  subst e_Stranger
  subst e_NoUnit
  subst e_NoBack
  subst e_NotTogether
  subst e_NoPart
  subst e_NotSteady
  subst e_Group
  have F_turned_by := fun_mk (st := s_turned_by) l1_turned_by c1_turned_by k1_turned_by
  have b_turned_by := F_turned_by.binds (ps := ["group", "thing", "other"]) fun _ _ _ _ _ _ us hl => match us, hl with | [_, _, _], _ => rfl
  have F_classes := fun_mk (st := s_classes) l1_classes c1_classes k1_classes
  have b_classes := F_classes.binds (ps := ["group"]) fun _ _ _ _ _ _ us hl => match us, hl with | [_], _ => rfl
  have F_Stranger_init := fun_mk (st := s_Stranger_init) l1_Stranger_init c1_Stranger_init k1_Stranger_init
  have b_Stranger_init := F_Stranger_init.binds (ps := ["self", "row", "column"]) fun _ _ _ _ _ _ us hl => match us, hl with | [_, _, _], _ => rfl
  have F_NoBack_init := fun_mk (st := s_NoBack_init) l1_NoBack_init c1_NoBack_init k1_NoBack_init
  have b_NoBack_init := F_NoBack_init.binds (ps := ["self", "thing"]) fun _ _ _ _ _ _ us hl => match us, hl with | [_, _], _ => rfl
  have F_NotTogether_init := fun_mk (st := s_NotTogether_init) l1_NotTogether_init c1_NotTogether_init k1_NotTogether_init
  have b_NotTogether_init := F_NotTogether_init.binds (ps := ["self", "one", "two", "three"]) fun _ _ _ _ _ _ us hl => match us, hl with | [_, _, _, _], _ => rfl
  have F_NotSteady_init := fun_mk (st := s_NotSteady_init) l1_NotSteady_init c1_NotSteady_init k1_NotSteady_init
  have b_NotSteady_init := F_NotSteady_init.binds (ps := ["self", "turner", "thing"]) fun _ _ _ _ _ _ us hl => match us, hl with | [_, _, _], _ => rfl
  have F_Group_init := fun_mk (st := s_Group_init) l1_Group_init c1_Group_init k1_Group_init
  have b_Group_init := F_Group_init.binds (ps := ["self", "rows", "unit", "backs"]) fun _ _ _ _ _ _ us hl => match us, hl with | [_, _, _, _], _ => rfl
  have F_look_at_size := fun_mk (st := s_look_at_size) l1_look_at_size c1_look_at_size k1_look_at_size
  have b_look_at_size := F_look_at_size.binds (ps := ["table"]) fun _ _ _ _ _ _ us hl => match us, hl with | [_], _ => rfl
  have F_look_for_strangers := fun_mk (st := s_look_for_strangers) l1_look_for_strangers c1_look_for_strangers k1_look_for_strangers
  have b_look_for_strangers := F_look_for_strangers.binds (ps := ["table"]) fun _ _ _ _ _ _ us hl => match us, hl with | [_], _ => rfl
  have F_unit_of := fun_mk (st := s_unit_of) l1_unit_of c1_unit_of k1_unit_of
  have b_unit_of := F_unit_of.binds (ps := ["table"]) fun _ _ _ _ _ _ us hl => match us, hl with | [_], _ => rfl
  have F_back_of := fun_mk (st := s_back_of) l1_back_of c1_back_of k1_back_of
  have b_back_of := F_back_of.binds (ps := ["table", "unit", "thing"]) fun _ _ _ _ _ _ us hl => match us, hl with | [_, _, _], _ => rfl
  have F_look_at_threes := fun_mk (st := s_look_at_threes) l1_look_at_threes c1_look_at_threes k1_look_at_threes
  have b_look_at_threes := F_look_at_threes.binds (ps := ["table"]) fun _ _ _ _ _ _ us hl => match us, hl with | [_], _ => rfl
  have F_group_of := fun_mk (st := s_group_of) l1_group_of c1_group_of k1_group_of
  have b_group_of := F_group_of.binds (ps := ["table"]) fun _ _ _ _ _ _ us hl => match us, hl with | [_], _ => rfl
  have F_product := fun_mk (st := s_product) l1_product c1_product k1_product
  have b_product := F_product.binds (ps := ["group", "things"]) fun _ _ _ _ _ _ us hl => match us, hl with | [_, _], _ => rfl
  have F_look_at_part := fun_mk (st := s_look_at_part) l1_look_at_part c1_look_at_part k1_look_at_part
  have b_look_at_part := F_look_at_part.binds (ps := ["group", "part"]) fun _ _ _ _ _ _ us hl => match us, hl with | [_, _], _ => rfl
  have F_closure := fun_mk (st := s_closure) l1_closure c1_closure k1_closure
  have b_closure := F_closure.binds (ps := ["group", "some"]) fun _ _ _ _ _ _ us hl => match us, hl with | [_, _], _ => rfl
  have F_mixed := fun_mk (st := s_mixed) l1_mixed c1_mixed k1_mixed
  have b_mixed := F_mixed.binds (ps := ["group", "part"]) fun _ _ _ _ _ _ us hl => match us, hl with | [_, _], _ => rfl
  have F_sides := fun_mk (st := s_sides) l1_sides c1_sides k1_sides
  have b_sides := F_sides.binds (ps := ["group", "part"]) fun _ _ _ _ _ _ us hl => match us, hl with | [_, _], _ => rfl
  have F_way_out := fun_mk (st := s_way_out) l1_way_out c1_way_out k1_way_out
  have b_way_out := F_way_out.binds (ps := ["group", "part"]) fun _ _ _ _ _ _ us hl => match us, hl with | [_, _], _ => rfl
  have F_folded := fun_mk (st := s_folded) l1_folded c1_folded k1_folded
  have b_folded := F_folded.binds (ps := ["group", "part"]) fun _ _ _ _ _ _ us hl => match us, hl with | [_, _], _ => rfl
  have F_inner := fun_mk (st := s_inner) l1_inner c1_inner k1_inner
  have b_inner := F_inner.binds (ps := ["group", "part"]) fun _ _ _ _ _ _ us hl => match us, hl with | [_, _], _ => rfl
  have F_l_cell := fun_mk (st := s_l_cell) l1_l_cell c1_l_cell k1_l_cell
  have b_l_cell := F_l_cell.binds (ps := ["_law_script", "_law_k"]) fun _ _ _ _ _ _ us hl => match us, hl with | [_, _], _ => rfl
  have F_l_sizes := fun_mk (st := s_l_sizes) l1_l_sizes c1_l_sizes k1_l_sizes
  have b_l_sizes := F_l_sizes.binds (ps := ["_law_one_here", "_law_two"]) fun _ _ _ _ _ _ us hl => match us, hl with | [_, _], _ => rfl
  have F_l_kind := fun_mk (st := s_l_kind) l1_l_kind c1_l_kind k1_l_kind
  have b_l_kind := F_l_kind.binds (ps := ["_law_sizes_here", "_law_number"]) fun _ _ _ _ _ _ us hl => match us, hl with | [_, _], _ => rfl
  have F_l_unit := fun_mk (st := s_l_unit) l1_l_unit c1_l_unit k1_l_unit
  have b_l_unit := F_l_unit.binds (ps := ["_law_many", "_law_steps", "_law_number"]) fun _ _ _ _ _ _ us hl => match us, hl with | [_, _, _], _ => rfl
  have F_l_turned := fun_mk (st := s_l_turned) l1_l_turned c1_l_turned k1_l_turned
  have b_l_turned := F_l_turned.binds (ps := ["_law_place", "_law_sizes_here", "_law_kind_here", "_law_units"]) fun _ _ _ _ _ _ us hl => match us, hl with | [_, _, _, _], _ => rfl
  have F_l_sum := fun_mk (st := s_l_sum) l1_l_sum c1_l_sum k1_l_sum
  have b_l_sum := F_l_sum.binds (ps := ["_law_one_here", "_law_other", "_law_sizes_here"]) fun _ _ _ _ _ _ us hl => match us, hl with | [_, _, _], _ => rfl
  have F_l_rows := fun_mk (st := s_l_rows) l1_l_rows c1_l_rows k1_l_rows
  have b_l_rows := F_l_rows.binds (ps := ["_law_sizes_here", "_law_turn", "_law_end"]) fun _ _ _ _ _ _ us hl => match us, hl with | [_, _, _], _ => rfl
  have F_l_names := fun_mk (st := s_l_names) l1_l_names c1_l_names k1_l_names
  have b_l_names := F_l_names.binds (ps := ["_law_many", "_law_number"]) fun _ _ _ _ _ _ us hl => match us, hl with | [_, _], _ => rfl
  have F_l_group := fun_mk (st := s_l_group) l1_l_group c1_l_group k1_l_group
  have b_l_group := F_l_group.binds (ps := ["_law_script", "_law_start"]) fun _ _ _ _ _ _ us hl => match us, hl with | [_, _], _ => rfl
  have F_l_one := fun_mk (st := s_l_one) l1_l_one c1_l_one k1_l_one
  have b_l_one := F_l_one.binds (ps := ["_law_table"]) fun _ _ _ _ _ _ us hl => match us, hl with | [_], _ => rfl
  have F_l_backs := fun_mk (st := s_l_backs) l1_l_backs c1_l_backs k1_l_backs
  have b_l_backs := F_l_backs.binds (ps := ["_law_table"]) fun _ _ _ _ _ _ us hl => match us, hl with | [_], _ => rfl
  have F_l_thing := fun_mk (st := s_l_thing) l1_l_thing c1_l_thing k1_l_thing
  have b_l_thing := F_l_thing.binds (ps := ["_law_cell_here", "_law_k", "_law_many"]) fun _ _ _ _ _ _ us hl => match us, hl with | [_, _, _], _ => rfl
  have F_l_closed := fun_mk (st := s_l_closed) l1_l_closed c1_l_closed k1_l_closed
  have b_l_closed := F_l_closed.binds (ps := ["_law_table", "_law_some"]) fun _ _ _ _ _ _ us hl => match us, hl with | [_, _], _ => rfl
  have F_l_chain := fun_mk (st := s_l_chain) l1_l_chain c1_l_chain k1_l_chain
  have b_l_chain := F_l_chain.binds (ps := ["_law_table", "_law_cells"]) fun _ _ _ _ _ _ us hl => match us, hl with | [_, _], _ => rfl
  have F_l_through := fun_mk (st := s_l_through) l1_l_through c1_l_through k1_l_through
  have b_l_through := F_l_through.binds (ps := ["_law_homes", "_law_some"]) fun _ _ _ _ _ _ us hl => match us, hl with | [_, _], _ => rfl
  have F_l_twice := fun_mk (st := s_l_twice) l1_l_twice c1_l_twice k1_l_twice
  have b_l_twice := F_l_twice.binds (ps := ["_law_group_here", "_law_less", "_law_more"]) fun _ _ _ _ _ _ us hl => match us, hl with | [_, _, _], _ => rfl
  have F_l_kin := fun_mk (st := s_l_kin) l1_l_kin c1_l_kin k1_l_kin
  have b_l_kin := F_l_kin.binds (ps := ["_law_group_here", "_law_part", "_law_some"]) fun _ _ _ _ _ _ us hl => match us, hl with | [_, _, _], _ => rfl
  have F_law := fun_mk (st := s_law) l1_law c1_law k1_law
  have b_law := F_law.binds (ps := ["_law_script"]) fun _ _ _ _ _ _ us hl => match us, hl with | [_], _ => rfl
  have T : Tx K mg cls a_turned_by a_classes a_Stranger_init a_NoBack_init a_NotTogether_init a_NotSteady_init a_Group_init a_look_at_size a_look_for_strangers a_unit_of a_back_of a_look_at_threes a_group_of a_product a_look_at_part a_closure a_mixed a_sides a_way_out a_folded a_inner a_l_cell a_l_sizes a_l_kind a_l_unit a_l_turned a_l_sum a_l_rows a_l_names a_l_group a_l_one a_l_backs a_l_thing a_l_closed a_l_chain a_l_through a_l_twice a_l_kin fa _ _ _ _ _ _ _ _ _ _ _ _ _ _ _ _ _ _ _ _ _ _ _ _ _ _ _ _ _ _ _ _ _ _ _ _ _ _ _ := {F_turned_by := F_turned_by, b_turned_by := b_turned_by, g_turned_by := PySem.W.mg_of X G a1_turned_by, k_turned_by := k1_turned_by, F_classes := F_classes, b_classes := b_classes, g_classes := PySem.W.mg_of X G a1_classes, k_classes := k1_classes, F_Stranger_init := F_Stranger_init, b_Stranger_init := b_Stranger_init, F_NoBack_init := F_NoBack_init, b_NoBack_init := b_NoBack_init, F_NotTogether_init := F_NotTogether_init, b_NotTogether_init := b_NotTogether_init, F_NotSteady_init := F_NotSteady_init, b_NotSteady_init := b_NotSteady_init, F_Group_init := F_Group_init, b_Group_init := b_Group_init, F_look_at_size := F_look_at_size, b_look_at_size := b_look_at_size, g_look_at_size := PySem.W.mg_of X G a1_look_at_size, k_look_at_size := k1_look_at_size, F_look_for_strangers := F_look_for_strangers, b_look_for_strangers := b_look_for_strangers, g_look_for_strangers := PySem.W.mg_of X G a1_look_for_strangers, k_look_for_strangers := k1_look_for_strangers, F_unit_of := F_unit_of, b_unit_of := b_unit_of, g_unit_of := PySem.W.mg_of X G a1_unit_of, k_unit_of := k1_unit_of, F_back_of := F_back_of, b_back_of := b_back_of, g_back_of := PySem.W.mg_of X G a1_back_of, k_back_of := k1_back_of, F_look_at_threes := F_look_at_threes, b_look_at_threes := b_look_at_threes, g_look_at_threes := PySem.W.mg_of X G a1_look_at_threes, k_look_at_threes := k1_look_at_threes, F_group_of := F_group_of, b_group_of := b_group_of, g_group_of := PySem.W.mg_of X G a1_group_of, k_group_of := k1_group_of, F_product := F_product, b_product := b_product, g_product := PySem.W.mg_of X G a1_product, k_product := k1_product, F_look_at_part := F_look_at_part, b_look_at_part := b_look_at_part, g_look_at_part := PySem.W.mg_of X G a1_look_at_part, k_look_at_part := k1_look_at_part, F_closure := F_closure, b_closure := b_closure, g_closure := PySem.W.mg_of X G a1_closure, k_closure := k1_closure, F_mixed := F_mixed, b_mixed := b_mixed, g_mixed := PySem.W.mg_of X G a1_mixed, k_mixed := k1_mixed, F_sides := F_sides, b_sides := b_sides, g_sides := PySem.W.mg_of X G a1_sides, k_sides := k1_sides, F_way_out := F_way_out, b_way_out := b_way_out, g_way_out := PySem.W.mg_of X G a1_way_out, k_way_out := k1_way_out, F_folded := F_folded, b_folded := b_folded, g_folded := PySem.W.mg_of X G a1_folded, k_folded := k1_folded, F_inner := F_inner, b_inner := b_inner, g_inner := PySem.W.mg_of X G a1_inner, k_inner := k1_inner, F_l_cell := F_l_cell, b_l_cell := b_l_cell, g_l_cell := PySem.W.mg_of X G a1_l_cell, k_l_cell := k1_l_cell, F_l_sizes := F_l_sizes, b_l_sizes := b_l_sizes, g_l_sizes := PySem.W.mg_of X G a1_l_sizes, k_l_sizes := k1_l_sizes, F_l_kind := F_l_kind, b_l_kind := b_l_kind, g_l_kind := PySem.W.mg_of X G a1_l_kind, k_l_kind := k1_l_kind, F_l_unit := F_l_unit, b_l_unit := b_l_unit, g_l_unit := PySem.W.mg_of X G a1_l_unit, k_l_unit := k1_l_unit, F_l_turned := F_l_turned, b_l_turned := b_l_turned, g_l_turned := PySem.W.mg_of X G a1_l_turned, k_l_turned := k1_l_turned, F_l_sum := F_l_sum, b_l_sum := b_l_sum, g_l_sum := PySem.W.mg_of X G a1_l_sum, k_l_sum := k1_l_sum, F_l_rows := F_l_rows, b_l_rows := b_l_rows, g_l_rows := PySem.W.mg_of X G a1_l_rows, k_l_rows := k1_l_rows, F_l_names := F_l_names, b_l_names := b_l_names, g_l_names := PySem.W.mg_of X G a1_l_names, k_l_names := k1_l_names, F_l_group := F_l_group, b_l_group := b_l_group, g_l_group := PySem.W.mg_of X G a1_l_group, k_l_group := k1_l_group, F_l_one := F_l_one, b_l_one := b_l_one, g_l_one := PySem.W.mg_of X G a1_l_one, k_l_one := k1_l_one, F_l_backs := F_l_backs, b_l_backs := b_l_backs, g_l_backs := PySem.W.mg_of X G a1_l_backs, k_l_backs := k1_l_backs, F_l_thing := F_l_thing, b_l_thing := b_l_thing, g_l_thing := PySem.W.mg_of X G a1_l_thing, k_l_thing := k1_l_thing, F_l_closed := F_l_closed, b_l_closed := b_l_closed, g_l_closed := PySem.W.mg_of X G a1_l_closed, k_l_closed := k1_l_closed, F_l_chain := F_l_chain, b_l_chain := b_l_chain, g_l_chain := PySem.W.mg_of X G a1_l_chain, k_l_chain := k1_l_chain, F_l_through := F_l_through, b_l_through := b_l_through, g_l_through := PySem.W.mg_of X G a1_l_through, k_l_through := k1_l_through, F_l_twice := F_l_twice, b_l_twice := b_l_twice, g_l_twice := PySem.W.mg_of X G a1_l_twice, k_l_twice := k1_l_twice, F_l_kin := F_l_kin, b_l_kin := b_l_kin, g_l_kin := PySem.W.mg_of X G a1_l_kin, k_l_kin := k1_l_kin, F_law := F_law, b_law := b_law, g_law := PySem.W.mg_of X G a1_law, k_law := k1_law, b_all := PySem.W.mg_none_of X G z_all, b_enumerate := PySem.W.mg_none_of X G z_enumerate, b_len := PySem.W.mg_none_of X G z_len, b_list := PySem.W.mg_none_of X G z_list, b_range := PySem.W.mg_none_of X G z_range, b_set := PySem.W.mg_none_of X G z_set, b_sorted := PySem.W.mg_none_of X G z_sorted, g_MOST := ⟨_, PySem.W.mg_of X G v_MOST⟩, g_BadSize := PySem.W.mg_of X G ac_BadSize, g_Stranger := PySem.W.mg_of X G ac_Stranger, g_NoUnit := PySem.W.mg_of X G ac_NoUnit, g_NoBack := PySem.W.mg_of X G ac_NoBack, g_NotTogether := PySem.W.mg_of X G ac_NotTogether, g_NoPart := PySem.W.mg_of X G ac_NoPart, g_NotSteady := PySem.W.mg_of X G ac_NotSteady, g_Group := PySem.W.mg_of X G ac_Group, M_Group := ⟨mk_Group, a1_Group_init, i1_Group_init, kc_Group⟩, grpC := ⟨⟨pg_Group, hd_Group, po_Group, sa_Group⟩, nG_many, nG_rows, nG_unit, nG_backs⟩, x_BadSize := x_BadSize, k_BadSize := kx_BadSize, r_BadSize := rx_BadSize, rt_BadSize := rt_BadSize, x_NoPart := x_NoPart, k_NoPart := kx_NoPart, r_NoPart := rx_NoPart, rt_NoPart := rt_NoPart, x_NoUnit := x_NoUnit, k_NoUnit := kx_NoUnit, r_NoUnit := rx_NoUnit, rt_NoUnit := rt_NoUnit, O_NoBack := ⟨⟨_, _, _, _, _, _, _, _, _, _, _, _, _, _, _, xL_NoBack, bm_NoBack_ok⟩, sa_NoBack, rx_NoBack, rt_NoBack, kx_NoBack⟩, i_NoBack := a1_NoBack_init, ti_NoBack := ti_NoBack, n_NoBack_thing := n_NoBack_thing, O_NotSteady := ⟨⟨_, _, _, _, _, _, _, _, _, _, _, _, _, _, _, xL_NotSteady, bm_NotSteady_ok⟩, sa_NotSteady, rx_NotSteady, rt_NotSteady, kx_NotSteady⟩, i_NotSteady := a1_NotSteady_init, ti_NotSteady := ti_NotSteady, n_NotSteady_turner := n_NotSteady_turner, n_NotSteady_thing := n_NotSteady_thing, O_NotTogether := ⟨⟨_, _, _, _, _, _, _, _, _, _, _, _, _, _, _, xL_NotTogether, bm_NotTogether_ok⟩, sa_NotTogether, rx_NotTogether, rt_NotTogether, kx_NotTogether⟩, i_NotTogether := a1_NotTogether_init, ti_NotTogether := ti_NotTogether, n_NotTogether_one := n_NotTogether_one, n_NotTogether_two := n_NotTogether_two, n_NotTogether_three := n_NotTogether_three, O_Stranger := ⟨⟨_, _, _, _, _, _, _, _, _, _, _, _, _, _, _, xL_Stranger, bm_Stranger_ok⟩, sa_Stranger, rx_Stranger, rt_Stranger, kx_Stranger⟩, i_Stranger := a1_Stranger_init, ti_Stranger := ti_Stranger, n_Stranger_row := n_Stranger_row, n_Stranger_column := n_Stranger_column}
  refine ⟨PySem.W.fnOf "law" "law" (defArgs s_law) (defBody s_law) (defScope s_law) .none kV_law dc_law pm_law an_law cd_law ct_law, fun s v => .of_eq rfl, fun base hb hn => ?_⟩
  have G_turned_by := ok_turned_by (P := l.prog) (w := w) (base := base) T 
  have G_classes := ok_classes (P := l.prog) (w := w) (base := base) T G_turned_by
  have G_Stranger_init := ok_Stranger_init (P := l.prog) (w := w) (base := base) T 
  have G_NoBack_init := ok_NoBack_init (P := l.prog) (w := w) (base := base) T 
  have G_NotTogether_init := ok_NotTogether_init (P := l.prog) (w := w) (base := base) T 
  have G_NotSteady_init := ok_NotSteady_init (P := l.prog) (w := w) (base := base) T 
  have G_Group_init := ok_Group_init (P := l.prog) (w := w) (base := base) T 
  have G_look_at_size := ok_look_at_size (P := l.prog) (w := w) (base := base) T 
  have G_look_for_strangers := ok_look_for_strangers (P := l.prog) (w := w) (base := base) T G_Stranger_init
  have G_unit_of := ok_unit_of (P := l.prog) (w := w) (base := base) T 
  have G_back_of := ok_back_of (P := l.prog) (w := w) (base := base) T G_NoBack_init
  have G_look_at_threes := ok_look_at_threes (P := l.prog) (w := w) (base := base) T G_NotTogether_init
  have G_group_of := ok_group_of (P := l.prog) (w := w) (base := base) T G_Group_init G_look_at_size G_look_for_strangers G_unit_of G_back_of G_look_at_threes
  have G_product := ok_product (P := l.prog) (w := w) (base := base) T 
  have G_look_at_part := ok_look_at_part (P := l.prog) (w := w) (base := base) T 
  have G_closure := ok_closure (P := l.prog) (w := w) (base := base) T 
  have G_mixed := ok_mixed (P := l.prog) (w := w) (base := base) T G_product G_look_at_part G_closure
  have G_sides := ok_sides (P := l.prog) (w := w) (base := base) T G_look_at_part
  have G_way_out := ok_way_out (P := l.prog) (w := w) (base := base) T G_turned_by G_look_at_part
  have G_folded := ok_folded (P := l.prog) (w := w) (base := base) T G_NotSteady_init G_Group_init G_sides G_way_out
  have G_inner := ok_inner (P := l.prog) (w := w) (base := base) T G_Group_init G_look_at_part
  have G_l_cell := ok_l_cell (P := l.prog) (w := w) (base := base) T 
  have G_l_sizes := ok_l_sizes (P := l.prog) (w := w) (base := base) T 
  have G_l_kind := ok_l_kind (P := l.prog) (w := w) (base := base) T 
  have G_l_unit := ok_l_unit (P := l.prog) (w := w) (base := base) T 
  have G_l_turned := ok_l_turned (P := l.prog) (w := w) (base := base) T 
  have G_l_sum := ok_l_sum (P := l.prog) (w := w) (base := base) T 
  have G_l_rows := ok_l_rows (P := l.prog) (w := w) (base := base) T G_l_sum
  have G_l_names := ok_l_names (P := l.prog) (w := w) (base := base) T 
  have G_l_group := ok_l_group (P := l.prog) (w := w) (base := base) T G_l_cell G_l_sizes G_l_kind G_l_unit G_l_turned G_l_rows G_l_names
  have G_l_one := ok_l_one (P := l.prog) (w := w) (base := base) T 
  have G_l_backs := ok_l_backs (P := l.prog) (w := w) (base := base) T G_l_one
  have G_l_thing := ok_l_thing (P := l.prog) (w := w) (base := base) T 
  have G_l_closed := ok_l_closed (P := l.prog) (w := w) (base := base) T G_l_one
  have G_l_chain := ok_l_chain (P := l.prog) (w := w) (base := base) T G_l_one G_l_backs G_l_thing G_l_closed
  have G_l_through := ok_l_through (P := l.prog) (w := w) (base := base) T 
  have G_l_twice := ok_l_twice (P := l.prog) (w := w) (base := base) T G_folded G_inner G_l_through
  have G_l_kin := ok_l_kin (P := l.prog) (w := w) (base := base) T G_classes G_closure G_mixed G_folded G_l_through
  have G_law := ok_law (P := l.prog) (w := w) (base := base) T G_group_of G_l_group G_l_thing G_l_chain G_l_twice G_l_kin
  exact G_law.imp fun vs H Q E h => law_imp h
theorem walk {l : PySem.W.OpenLaw} {q : Program} {loose : List Str} {XP : (Str → Option Value) → Heap → Prop} {YP : World → Heap → Prop} {d : DefRec} {K : Params → PySem.W.Frag} (hn : l.most = some 63) (hdf : d.params.defaults = [])
    (hY : ∀ (w : World) (h : Heap), YP w h → (K w.params).In h)
    (F : ∀ (w : World) (mg : Str → Option Value) (fa : Addr) (h : Heap), (K w.params).In h → h.Ns mainGlobals mg → mg d.name = some (.ref fa) →
      ∃ fd : FuncData, (∀ (s : Shared) (u : Value), BindsTo s fd ⟨[u], []⟩ [("_law_script", u)]) ∧ ∀ base : Heap, (K w.params).In base → base.Ns mainGlobals mg → FnOk l.prog w (K w.params) mg base (L2.CX l.prog w) 5 fa fd ["_law_script"] (spLaw (K w.params))) :
    PySem.W.WalkO q loose XP YP l.row.toRowW d [] (fun f vs => PySem.call f vs) :=
  L2.walk_of (n := 63) (k := 5) (x := "_law_script") (CX := fun w => L2.CX l.prog w) (sp := fun w => spLaw (K w.params)) hn (by decide) hdf ⟨rfl, by decide, by decide⟩ hY F (fun _ _ a ns hl _ hS => ⟨a, ns, rfl, hS, hl, fun _ => rfl⟩) fun _ _ _ _ _ z => by
    obtain ⟨_, _, _, _, _, _, _, _, _, _, _, _, z⟩ := z
    exact z.elim
end TB
open PySem PySem.W PyProof.Rows
set_option maxRecDepth 100000 in
set_option maxHeartbeats 0 in
theorem PySem.Challenge.cw_tracebook_k18_whole_folds_of_folds_holds : PySem.Challenge.rw_tracebook_k18_whole_folds_of_folds.Holds := by
  w_on; o_law; k_head; (case hw => w_witness2)
  k_fill
  refine TB.walk (l := PySem.Challenge.rw_tracebook_k18_whole_folds_of_folds) rfl rfl (fun w h Y => PySem.W.kIn_of Y) ?F
  case F =>
    intro w mg fa h KX G hmg
    refine' TB.all_mk KX G hmg ?ac_BadSize ?ac_Stranger ?ac_NoUnit ?ac_NoBack ?ac_NotTogether ?ac_NoPart ?ac_NotSteady ?ac_Group ?a1_turned_by ?l1_turned_by ?c1_turned_by ?k1_turned_by ?a1_classes ?l1_classes ?c1_classes ?k1_classes ?a1_Stranger_init ?i1_Stranger_init ?l1_Stranger_init ?c1_Stranger_init ?k1_Stranger_init ?a1_NoBack_init ?i1_NoBack_init ?l1_NoBack_init ?c1_NoBack_init ?k1_NoBack_init ?a1_NotTogether_init ?i1_NotTogether_init ?l1_NotTogether_init ?c1_NotTogether_init ?k1_NotTogether_init ?a1_NotSteady_init ?i1_NotSteady_init ?l1_NotSteady_init ?c1_NotSteady_init ?k1_NotSteady_init ?a1_Group_init ?i1_Group_init ?l1_Group_init ?c1_Group_init ?k1_Group_init ?a1_look_at_size ?l1_look_at_size ?c1_look_at_size ?k1_look_at_size ?a1_look_for_strangers ?l1_look_for_strangers ?c1_look_for_strangers ?k1_look_for_strangers ?a1_unit_of ?l1_unit_of ?c1_unit_of ?k1_unit_of ?a1_back_of ?l1_back_of ?c1_back_of ?k1_back_of ?a1_look_at_threes ?l1_look_at_threes ?c1_look_at_threes ?k1_look_at_threes ?a1_group_of ?l1_group_of ?c1_group_of ?k1_group_of ?a1_product ?l1_product ?c1_product ?k1_product ?a1_look_at_part ?l1_look_at_part ?c1_look_at_part ?k1_look_at_part ?a1_closure ?l1_closure ?c1_closure ?k1_closure ?a1_mixed ?l1_mixed ?c1_mixed ?k1_mixed ?a1_sides ?l1_sides ?c1_sides ?k1_sides ?a1_way_out ?l1_way_out ?c1_way_out ?k1_way_out ?a1_folded ?l1_folded ?c1_folded ?k1_folded ?a1_inner ?l1_inner ?c1_inner ?k1_inner ?a1_l_cell ?l1_l_cell ?c1_l_cell ?k1_l_cell ?a1_l_sizes ?l1_l_sizes ?c1_l_sizes ?k1_l_sizes ?a1_l_kind ?l1_l_kind ?c1_l_kind ?k1_l_kind ?a1_l_unit ?l1_l_unit ?c1_l_unit ?k1_l_unit ?a1_l_turned ?l1_l_turned ?c1_l_turned ?k1_l_turned ?a1_l_sum ?l1_l_sum ?c1_l_sum ?k1_l_sum ?a1_l_rows ?l1_l_rows ?c1_l_rows ?k1_l_rows ?a1_l_names ?l1_l_names ?c1_l_names ?k1_l_names ?a1_l_group ?l1_l_group ?c1_l_group ?k1_l_group ?a1_l_one ?l1_l_one ?c1_l_one ?k1_l_one ?a1_l_backs ?l1_l_backs ?c1_l_backs ?k1_l_backs ?a1_l_thing ?l1_l_thing ?c1_l_thing ?k1_l_thing ?a1_l_closed ?l1_l_closed ?c1_l_closed ?k1_l_closed ?a1_l_chain ?l1_l_chain ?c1_l_chain ?k1_l_chain ?a1_l_through ?l1_l_through ?c1_l_through ?k1_l_through ?a1_l_twice ?l1_l_twice ?c1_l_twice ?k1_l_twice ?a1_l_kin ?l1_l_kin ?c1_l_kin ?k1_l_kin ?a1_law ?l1_law ?c1_law ?k1_law ?z_all ?z_enumerate ?z_len ?z_list ?z_range ?z_set ?z_sorted ?v_MOST ?mk_Group ?kc_Group ?pg_Group ?hd_Group ?po_Group ?sa_Group ?nG_many ?nG_rows ?nG_unit ?nG_backs ?x_BadSize ?kx_BadSize ?rx_BadSize ?rt_BadSize ?x_NoPart ?kx_NoPart ?rx_NoPart ?rt_NoPart ?x_NoUnit ?kx_NoUnit ?rx_NoUnit ?rt_NoUnit ?xL_NoBack ?bm_NoBack_ok ?sa_NoBack ?rx_NoBack ?rt_NoBack ?kx_NoBack ?ti_NoBack ?n_NoBack_thing ?xL_NotSteady ?bm_NotSteady_ok ?sa_NotSteady ?rx_NotSteady ?rt_NotSteady ?kx_NotSteady ?ti_NotSteady ?n_NotSteady_turner ?n_NotSteady_thing ?xL_NotTogether ?bm_NotTogether_ok ?sa_NotTogether ?rx_NotTogether ?rt_NotTogether ?kx_NotTogether ?ti_NotTogether ?n_NotTogether_one ?n_NotTogether_two ?n_NotTogether_three ?xL_Stranger ?bm_Stranger_ok ?sa_Stranger ?rx_Stranger ?rt_Stranger ?kx_Stranger ?ti_Stranger ?n_Stranger_row ?n_Stranger_column
    (case ac_BadSize => k_is)
    (case ac_Stranger => k_is)
    (case ac_NoUnit => k_is)
    (case ac_NoBack => k_is)
    (case ac_NotTogether => k_is)
    (case ac_NoPart => k_is)
    (case ac_NotSteady => k_is)
    (case ac_Group => k_is)
    (case a1_turned_by => k_is)
    (case l1_turned_by => k_is)
    (case c1_turned_by => k_is)
    (case k1_turned_by => k_is)
    (case a1_classes => k_is)
    (case l1_classes => k_is)
    (case c1_classes => k_is)
    (case k1_classes => k_is)
    (case a1_Stranger_init => k_is)
    (case i1_Stranger_init => k_is)
    (case l1_Stranger_init => k_is)
    (case c1_Stranger_init => k_is)
    (case k1_Stranger_init => k_is)
    (case a1_NoBack_init => k_is)
    (case i1_NoBack_init => k_is)
    (case l1_NoBack_init => k_is)
    (case c1_NoBack_init => k_is)
    (case k1_NoBack_init => k_is)
    (case a1_NotTogether_init => k_is)
    (case i1_NotTogether_init => k_is)
    (case l1_NotTogether_init => k_is)
    (case c1_NotTogether_init => k_is)
    (case k1_NotTogether_init => k_is)
    (case a1_NotSteady_init => k_is)
    (case i1_NotSteady_init => k_is)
    (case l1_NotSteady_init => k_is)
    (case c1_NotSteady_init => k_is)
    (case k1_NotSteady_init => k_is)
    (case a1_Group_init => k_is)
    (case i1_Group_init => k_is)
    (case l1_Group_init => k_is)
    (case c1_Group_init => k_is)
    (case k1_Group_init => k_is)
    (case a1_look_at_size => k_is)
    (case l1_look_at_size => k_is)
    (case c1_look_at_size => k_is)
    (case k1_look_at_size => k_is)
    (case a1_look_for_strangers => k_is)
    (case l1_look_for_strangers => k_is)
    (case c1_look_for_strangers => k_is)
    (case k1_look_for_strangers => k_is)
    (case a1_unit_of => k_is)
    (case l1_unit_of => k_is)
    (case c1_unit_of => k_is)
    (case k1_unit_of => k_is)
    (case a1_back_of => k_is)
    (case l1_back_of => k_is)
    (case c1_back_of => k_is)
    (case k1_back_of => k_is)
    (case a1_look_at_threes => k_is)
    (case l1_look_at_threes => k_is)
    (case c1_look_at_threes => k_is)
    (case k1_look_at_threes => k_is)
    (case a1_group_of => k_is)
    (case l1_group_of => k_is)
    (case c1_group_of => k_is)
    (case k1_group_of => k_is)
    (case a1_product => k_is)
    (case l1_product => k_is)
    (case c1_product => k_is)
    (case k1_product => k_is)
    (case a1_look_at_part => k_is)
    (case l1_look_at_part => k_is)
    (case c1_look_at_part => k_is)
    (case k1_look_at_part => k_is)
    (case a1_closure => k_is)
    (case l1_closure => k_is)
    (case c1_closure => k_is)
    (case k1_closure => k_is)
    (case a1_mixed => k_is)
    (case l1_mixed => k_is)
    (case c1_mixed => k_is)
    (case k1_mixed => k_is)
    (case a1_sides => k_is)
    (case l1_sides => k_is)
    (case c1_sides => k_is)
    (case k1_sides => k_is)
    (case a1_way_out => k_is)
    (case l1_way_out => k_is)
    (case c1_way_out => k_is)
    (case k1_way_out => k_is)
    (case a1_folded => k_is)
    (case l1_folded => k_is)
    (case c1_folded => k_is)
    (case k1_folded => k_is)
    (case a1_inner => k_is)
    (case l1_inner => k_is)
    (case c1_inner => k_is)
    (case k1_inner => k_is)
    (case a1_l_cell => k_is)
    (case l1_l_cell => k_is)
    (case c1_l_cell => k_is)
    (case k1_l_cell => k_is)
    (case a1_l_sizes => k_is)
    (case l1_l_sizes => k_is)
    (case c1_l_sizes => k_is)
    (case k1_l_sizes => k_is)
    (case a1_l_kind => k_is)
    (case l1_l_kind => k_is)
    (case c1_l_kind => k_is)
    (case k1_l_kind => k_is)
    (case a1_l_unit => k_is)
    (case l1_l_unit => k_is)
    (case c1_l_unit => k_is)
    (case k1_l_unit => k_is)
    (case a1_l_turned => k_is)
    (case l1_l_turned => k_is)
    (case c1_l_turned => k_is)
    (case k1_l_turned => k_is)
    (case a1_l_sum => k_is)
    (case l1_l_sum => k_is)
    (case c1_l_sum => k_is)
    (case k1_l_sum => k_is)
    (case a1_l_rows => k_is)
    (case l1_l_rows => k_is)
    (case c1_l_rows => k_is)
    (case k1_l_rows => k_is)
    (case a1_l_names => k_is)
    (case l1_l_names => k_is)
    (case c1_l_names => k_is)
    (case k1_l_names => k_is)
    (case a1_l_group => k_is)
    (case l1_l_group => k_is)
    (case c1_l_group => k_is)
    (case k1_l_group => k_is)
    (case a1_l_one => k_is)
    (case l1_l_one => k_is)
    (case c1_l_one => k_is)
    (case k1_l_one => k_is)
    (case a1_l_backs => k_is)
    (case l1_l_backs => k_is)
    (case c1_l_backs => k_is)
    (case k1_l_backs => k_is)
    (case a1_l_thing => k_is)
    (case l1_l_thing => k_is)
    (case c1_l_thing => k_is)
    (case k1_l_thing => k_is)
    (case a1_l_closed => k_is)
    (case l1_l_closed => k_is)
    (case c1_l_closed => k_is)
    (case k1_l_closed => k_is)
    (case a1_l_chain => k_is)
    (case l1_l_chain => k_is)
    (case c1_l_chain => k_is)
    (case k1_l_chain => k_is)
    (case a1_l_through => k_is)
    (case l1_l_through => k_is)
    (case c1_l_through => k_is)
    (case k1_l_through => k_is)
    (case a1_l_twice => k_is)
    (case l1_l_twice => k_is)
    (case c1_l_twice => k_is)
    (case k1_l_twice => k_is)
    (case a1_l_kin => k_is)
    (case l1_l_kin => k_is)
    (case c1_l_kin => k_is)
    (case k1_l_kin => k_is)
    (case a1_law => k_is)
    (case l1_law => k_is)
    (case c1_law => k_is)
    (case k1_law => k_is)
    (case z_all => k_is)
    (case z_enumerate => k_is)
    (case z_len => k_is)
    (case z_list => k_is)
    (case z_range => k_is)
    (case z_set => k_is)
    (case z_sorted => k_is)
    (case v_MOST => k_is)
    (case mk_Group => k_is)
    (case kc_Group => k_is)
    (case pg_Group => k_is)
    (case hd_Group => k_is)
    (case po_Group => k_is)
    (case sa_Group => k_is)
    (case nG_many => k_is)
    (case nG_rows => k_is)
    (case nG_unit => k_is)
    (case nG_backs => k_is)
    (case x_BadSize => k_exc)
    (case kx_BadSize => k_is)
    (case rx_BadSize => k_is)
    (case rt_BadSize => k_is)
    (case x_NoPart => k_exc)
    (case kx_NoPart => k_is)
    (case rx_NoPart => k_is)
    (case rt_NoPart => k_is)
    (case x_NoUnit => k_exc)
    (case kx_NoUnit => k_is)
    (case rx_NoUnit => k_is)
    (case rt_NoUnit => k_is)
    (case xL_NoBack => k_is)
    (case bm_NoBack_ok => decide +kernel)
    (case sa_NoBack => k_is)
    (case rx_NoBack => k_is)
    (case rt_NoBack => k_is)
    (case kx_NoBack => k_is)
    (case ti_NoBack => k_is)
    (case n_NoBack_thing => k_is)
    (case xL_NotSteady => k_is)
    (case bm_NotSteady_ok => decide +kernel)
    (case sa_NotSteady => k_is)
    (case rx_NotSteady => k_is)
    (case rt_NotSteady => k_is)
    (case kx_NotSteady => k_is)
    (case ti_NotSteady => k_is)
    (case n_NotSteady_turner => k_is)
    (case n_NotSteady_thing => k_is)
    (case xL_NotTogether => k_is)
    (case bm_NotTogether_ok => decide +kernel)
    (case sa_NotTogether => k_is)
    (case rx_NotTogether => k_is)
    (case rt_NotTogether => k_is)
    (case kx_NotTogether => k_is)
    (case ti_NotTogether => k_is)
    (case n_NotTogether_one => k_is)
    (case n_NotTogether_two => k_is)
    (case n_NotTogether_three => k_is)
    (case xL_Stranger => k_is)
    (case bm_Stranger_ok => decide +kernel)
    (case sa_Stranger => k_is)
    (case rx_Stranger => k_is)
    (case rt_Stranger => k_is)
    (case kx_Stranger => k_is)
    (case ti_Stranger => k_is)
    (case n_Stranger_row => k_is)
    (case n_Stranger_column => k_is)
#print axioms PySem.Challenge.cw_tracebook_k18_whole_folds_of_folds_holds
