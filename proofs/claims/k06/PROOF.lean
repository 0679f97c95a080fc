import PyProof.Rows.All
import Wide.All
import OpenK.AllK
import Wide.FinOn
import HandS.ForMost
import HandS.Exc
import HandS.ExcOwn
import HandS.TryOnly
import HandS.TryMany
import HandS.ExcInit
import HandS.CallSlots
import HandS.WordsExc
import HandS.SortInts
import HandS.SortKw
import HandS.IsInst
import HandS.Wide
import HandS.More
import HandS.Lambda
import HandS.Conv
import KE.OsSort
import KE.KExcIs
import HandS.ExcField
import HandS.SetFor
import HandS.Strs
import HandS.Comp
import KE.KDictZip
import KE.KDictSum
import KE.KTurns
import HandS.Iter
import HandS.Defaults
import KE.SortData
import PySem.Challenge.RW_tracebook_k06_whole_a_group_or_what_show
set_option Elab.async false
set_option linter.all false
set_option maxRecDepth 100000
set_option maxHeartbeats 4000000
/-! TbBase: a typed layer over the hand layer's readings: what slots hold, told as Lean data. -/
namespace TB
open PySem L2

/-- the program's own classes -/
inductive CN where
  | BookError | BadSize | Stranger | NoUnit | NoBack | NotTogether | NoPart | NotSteady | BadWheel | NoMove | BadMarks | NoWay | NotKept | OtherGroup | OtherWheel | TooGreat | Group | Wheel | Carriers | Way | Regular | Lifted | Beside | Crossed | Backed | Within | Raised | Book | BookTab
  deriving DecidableEq
/-- the written part, and where the program's own classes stand -/
structure Zz where
  K : PySem.W.Frag
  cls : CN → Addr

/-- a type whose data stand in the heap, never to be changed -/
class Rp (α : Type) where
  /-- what is taken where nothing stands -/
  df : α
  rp : Zz → Hp → V → α → Prop
  mono : ∀ {Z : Zz} {H H' : Hp} {v : V} {d : α}, Same H H' → rp Z H v d → rp Z H' v d

theorem paired_mono {α β : Type} {F G : α → β → Prop} (h : ∀ a b, F a b → G a b) : ∀ {l : List α} {m : List β}, Paired F l m → Paired G l m
  | _, _, .nil => .nil
  | _, _, .cons r t => .cons (h _ _ r) (paired_mono h t)
theorem paired_get {α β : Type} {F : α → β → Prop} : ∀ {l : List α} {m : List β} {i : Nat} {b : β}, Paired F l m → m[i]? = some b → ∃ a, l[i]? = some a ∧ F a b
  | _, _, _, _, .nil, e => by simp at e
  | _, _, 0, _, .cons r _, e => by simp at e; subst e; exact ⟨_, rfl, r⟩
  | _, _, i + 1, b, .cons _ t, e => by
    obtain ⟨u, h1, h2⟩ := paired_get (i := i) (b := b) t (by simpa using e)
    exact ⟨u, by simpa using h1, h2⟩
theorem paired_getL {α β : Type} {F : α → β → Prop} : ∀ {l : List α} {m : List β} {i : Nat} {a : α}, Paired F l m → l[i]? = some a → ∃ b, m[i]? = some b ∧ F a b
  | _, _, _, _, .nil, e => by simp at e
  | _, _, 0, _, .cons r _, e => by simp at e; subst e; exact ⟨_, rfl, r⟩
  | _, _, i + 1, b, .cons _ t, e => by
    obtain ⟨u, h1, h2⟩ := paired_getL (i := i) (a := b) t (by simpa using e)
    exact ⟨u, by simpa using h1, h2⟩
theorem paired_append {α β : Type} {F : α → β → Prop} : ∀ {l l' : List α} {m m' : List β}, Paired F l m → Paired F l' m' → Paired F (l ++ l') (m ++ m')
  | _, _, _, _, .nil, s => s
  | _, _, _, _, .cons r t, s => .cons r (paired_append t s)
theorem paired_set {α β : Type} {F : α → β → Prop} {a : α} {b : β} (h : F a b) : ∀ {l : List α} {m : List β} (i : Nat), Paired F l m → Paired F (l.set i a) (m.set i b)
  | _, _, _, .nil => .nil
  | _, _, 0, .cons _ t => .cons h t
  | _, _, i + 1, .cons r t => .cons r (paired_set h i t)
theorem paired_take {α β : Type} {F : α → β → Prop} : ∀ {l : List α} {m : List β} (n : Nat), Paired F l m → Paired F (l.take n) (m.take n)
  | _, _, 0, _ => .nil
  | _, _, _ + 1, .nil => .nil
  | _, _, n + 1, .cons r t => .cons r (paired_take n t)
theorem paired_drop {α β : Type} {F : α → β → Prop} : ∀ {l : List α} {m : List β} (n : Nat), Paired F l m → Paired F (l.drop n) (m.drop n)
  | _, _, 0, r => r
  | _, _, _ + 1, .nil => .nil
  | _, _, n + 1, .cons _ t => paired_drop n t
theorem paired_map_int : ∀ {vs : List V} {xs : List Int}, Paired (fun v d => v = V.int d) vs xs → vs = xs.map V.int
  | _, _, .nil => rfl
  | _, _, .cons r t => by rw [List.map_cons, ← r, ← paired_map_int t]
theorem paired_of_int : ∀ (xs : List Int), Paired (fun v d => v = V.int d) (xs.map V.int) xs
  | [] => .nil
  | _ :: t => .cons rfl (paired_of_int t)
theorem paired_map_bl : ∀ {vs : List V} {xs : List Bool}, Paired (fun v d => v = V.bl d) vs xs → vs = xs.map V.bl
  | _, _, .nil => rfl
  | _, _, .cons r t => by rw [List.map_cons, ← r, ← paired_map_bl t]

noncomputable instance : Rp Int := ⟨0, fun _ _ v d => v = .int d, fun _ h => h⟩
noncomputable instance : Rp Bool := ⟨false, fun _ _ v d => v = .bl d, fun _ h => h⟩
noncomputable instance : Rp Unit := ⟨(), fun _ _ v _ => v = .non, fun _ h => h⟩
noncomputable instance : Rp Str := ⟨Str.empty, fun _ _ v d => v = .str d, fun _ h => h⟩
noncomputable instance {α : Type} [Rp α] : Rp (Option α) := ⟨none, fun Z H v d => match d with | none => v = .non | some x => Rp.rp Z H v x, fun {Z H H' v d} e h => by
  cases d with
  | none => exact h
  | some x => exact Rp.mono e h⟩
noncomputable instance {α : Type} [Rp α] : Rp (List α) := ⟨[], fun Z H v d => ∃ a vs, v = .ref a ∧ H a = some (.lst vs) ∧ Paired (Rp.rp Z H) vs d,
  fun e h => by
    obtain ⟨a, vs, h1, h2, h3⟩ := h
    exact ⟨a, vs, h1, e _ _ h2, paired_mono (fun _ _ => Rp.mono e) h3⟩⟩
noncomputable instance {α β : Type} [Rp α] [Rp β] : Rp (α × β) := ⟨(Rp.df, Rp.df), fun Z H v d => ∃ a x y, v = .ref a ∧ H a = some (.tup [x, y]) ∧ Rp.rp Z H x d.1 ∧ Rp.rp Z H y d.2,
  fun e h => by
    obtain ⟨a, x, y, h1, h2, h3, h4⟩ := h
    exact ⟨a, x, y, h1, e _ _ h2, Rp.mono e h3, Rp.mono e h4⟩⟩
/-- the script: a list that is known to the law's object -/
structure Scr where
  l : List Int
noncomputable instance : Rp Scr := ⟨⟨[]⟩, fun Z H v d => ∃ a, v = .ref a ∧ SqL Z.K H a (d.l.map V.int), fun e h => by
    obtain ⟨a, h1, h2⟩ := h
    exact ⟨a, h1, e.seq h2⟩⟩
/-- a value of a mixed list: an int or a text -/
inductive IS where
  | i (n : Int) | s (x : Str)
  deriving DecidableEq
noncomputable instance : Rp IS := ⟨.i 0, fun _ _ v d => match d with | .i n => v = .int n | .s x => v = .str x, fun {Z H H' v d} _ h => by cases d <;> exact h⟩

/-- h within these addresses -/
noncomputable def res (H : Hp) (f : List Addr) : Hp := fun p => if p ∈ f then H p else none
theorem res_in {H : Hp} {f : List Addr} {p : Addr} (h : p ∈ f) : res H f p = H p := by simp [res, h]
theorem res_some {H : Hp} {f : List Addr} {p : Addr} {o : HO} (h : res H f p = some o) : p ∈ f ∧ H p = some o := by
  unfold res at h
  by_cases c : p ∈ f
  · rw [if_pos c] at h; exact ⟨c, h⟩
  · rw [if_neg c] at h; cases h
/-- own objects of any make: told of the frozen part and of the own objects alone -/
structure Own where
  G : Zz → Hp → Hp → V → Prop
  mono : ∀ {Z : Zz} {R R' h : Hp} {v : V}, Same R R' → G Z R h v → G Z R' h v
/-- what a slot holds -/
inductive Sl : Type 1
  /-- nothing that matters -/
  | un : Sl
  /-- data that never change -/
  | im {α : Type} [Rp α] (d : α) : Sl
  /-- a list of this frame's own -/
  | ol {α : Type} [Rp α] (xs : List α) : Sl
  /-- an own list of own lists -/
  | o2 {α : Type} [Rp α] (xss : List (List α)) : Sl
  /-- an own dict, keys ints -/
  | od {α : Type} [Rp α] (kvs : List (Int × α)) : Sl
  /-- own objects of any make -/
  | ow (O : Own) : Sl
  /-- a code object's table at P, an own thing that no value stands for; what it tells of bears the name q -/
  | gh (P : Addr) (q : Str) : Sl
/-- a table as it stands at o: what it tells of is frozen -/
noncomputable def TabR (R : Hp) (q : Str) (o : Option HO) : Prop := ∃ ps : Array Value, o = some (.tbl ps) ∧ TriplesOk ps.toList ∧ ∀ (pos : Pos) (cv : Value), codeAmong pos ps.toList = some cv → ∃ c, cv = .ref c ∧ R c = some (LamX.CodeO c q)
theorem TabR.mono {R R' : Hp} {q : Str} {o : Option HO} (e : Same R R') (h : TabR R q o) : TabR R' q o := by
  obtain ⟨ps, h1, h2, h3⟩ := h
  exact ⟨ps, h1, h2, fun pos cv hc => (h3 pos cv hc).imp fun c z => ⟨z.1, e _ _ z.2⟩⟩

section
variable (Z : Zz) (R H : Hp)
noncomputable def kvOk {α : Type} [Rp α] (a : Key × V) (b : Int × α) : Prop := a.1 = Sum.inl b.1 ∧ Rp.rp Z R a.2 b.2
noncomputable def inOk {α : Type} [Rp α] (q : Addr) (xs : List α) : Prop := ∃ vs, H q = some (.lst vs) ∧ Paired (Rp.rp Z R) vs xs
noncomputable def slok (o : Option V) : Sl → List Addr → Prop
  | .un, f => f = []
  | @Sl.im _ _ d, f => f = [] ∧ ∃ v, o = some v ∧ Rp.rp Z R v d
  | @Sl.ol _ _ xs, f => ∃ p vs, f = [p] ∧ o = some (.ref p) ∧ H p = some (.lst vs) ∧ Paired (Rp.rp Z R) vs xs
  | @Sl.o2 _ _ xss, f => ∃ p qs, f = p :: qs ∧ o = some (.ref p) ∧ H p = some (.lst (qs.map V.ref)) ∧ Paired (inOk Z R H) qs xss
  | @Sl.od _ _ kvs, f => ∃ p kv, f = [p] ∧ o = some (.ref p) ∧ H p = some (.dK kv) ∧ Paired (kvOk Z R) kv kvs
  | .ow O, f => ∃ v, o = some v ∧ O.G Z R (res H f) v ∧ ∀ p ∈ f, H p ≠ none
  | .gh P q, f => f = [P] ∧ TabR R q (H P)
noncomputable def Es : List (Option V) → List Sl → List Addr → Prop
  | [], [], own => own = []
  | o :: σ, s :: Γ, own => ∃ f g, own = f ++ g ∧ slok Z R H o s f ∧ Es σ Γ g
  | _, _, _ => False
end
/-- the heap H over the frozen part R; B: the heap at the frame's entry, R0 the frozen part there; own: this frame's own objects -/
structure Hs (B R0 R H : Hp) (own : List Addr) : Prop where
  rh : Same R H
  bh : Same B H
  r0 : Same R0 R
  nw : ∀ b o, R b = some o → R0 b = some o ∨ B b = none
  ow : ∀ p ∈ own, R p = none ∧ B p = none
  nd : own.Nodup
noncomputable def Sy (Z : Zz) (B R0 R H : Hp) (τ : List (Option V)) (Θ : List Sl) : Prop := ∃ own, Hs B R0 R H own ∧ Es Z R H τ Θ own

section
variable {Z : Zz} {B R0 R R' H H' : Hp} {τ : List (Option V)} {Θ : List Sl} {s : Sl} {o : Option V} {f own : List Addr}
theorem inOk_mono {α : Type} [Rp α] {q : Addr} {xs : List α} (e : Same R R') (k : H' q = H q) (h : inOk Z R H q xs) : inOk Z R' H' q xs := by
  obtain ⟨vs, h1, h2⟩ := h
  exact ⟨vs, by rw [k]; exact h1, paired_mono (fun _ _ => Rp.mono e) h2⟩
theorem paired_inOk {α : Type} [Rp α] : ∀ {qs : List Addr} {xss : List (List α)}, Same R R' → (∀ p ∈ qs, H' p = H p) → Paired (inOk Z R H) qs xss → Paired (inOk Z R' H') qs xss
  | _, _, _, _, .nil => .nil
  | _, _, e, k, .cons r t => .cons (inOk_mono e (k _ List.mem_cons_self) r) (paired_inOk e (fun p hp => k p (List.mem_cons_of_mem _ hp)) t)
theorem slok_mono (e : Same R R') (k : ∀ p ∈ f, H' p = H p) (h : slok Z R H o s f) : slok Z R' H' o s f := by
  cases s with
  | un => exact h
  | im d =>
    obtain ⟨h1, v, h2, h3⟩ := h
    exact ⟨h1, v, h2, Rp.mono e h3⟩
  | ol xs =>
    obtain ⟨p, vs, rfl, h2, h3, h4⟩ := h
    exact ⟨p, vs, rfl, h2, by rw [k p (by simp)]; exact h3, paired_mono (fun _ _ => Rp.mono e) h4⟩
  | o2 xss =>
    obtain ⟨p, qs, rfl, h2, h3, h4⟩ := h
    exact ⟨p, qs, rfl, h2, by rw [k p (by simp)]; exact h3, paired_inOk e (fun q hq => k q (List.mem_cons_of_mem _ hq)) h4⟩
  | od kvs =>
    obtain ⟨p, kv, rfl, h2, h3, h4⟩ := h
    exact ⟨p, kv, rfl, h2, by rw [k p (by simp)]; exact h3, paired_mono (fun _ _ q => ⟨q.1, Rp.mono e q.2⟩) h4⟩
  | ow O =>
    obtain ⟨v, h2, h3, h4⟩ := h
    have e2 : res H' f = res H f := by
      funext p
      by_cases c : p ∈ f
      · rw [res_in c, res_in c, k p c]
      · simp [res, c]
    exact ⟨v, h2, by rw [e2]; exact O.mono e h3, fun p hp => by rw [k p hp]; exact h4 p hp⟩
  | gh P q =>
    obtain ⟨rfl, h2⟩ := h
    exact ⟨rfl, by rw [k P (by simp)]; exact h2.mono e⟩
theorem inOk_some {α : Type} [Rp α] : ∀ {qs : List Addr} {xss : List (List α)}, Paired (inOk Z R H) qs xss → ∀ p ∈ qs, H p ≠ none
  | _, _, .nil, p, hp => by simp at hp
  | _, _, .cons r t, p, hp => by
    rcases List.mem_cons.mp hp with e | e
    · subst e
      obtain ⟨vs, h1, _⟩ := r
      rw [h1]; simp
    · exact inOk_some t p e
theorem slok_some (h : slok Z R H o s f) : ∀ p ∈ f, H p ≠ none := by
  intro q hq
  cases s with
  | un => rw [show f = [] from h] at hq; simp at hq
  | im d => rw [h.1] at hq; simp at hq
  | ol xs =>
    obtain ⟨p, vs, rfl, h2, h3, h4⟩ := h
    have e : q = p := by simpa using hq
    rw [e, h3]; simp
  | o2 xss =>
    obtain ⟨p, qs, rfl, h2, h3, h4⟩ := h
    rcases List.mem_cons.mp hq with e | e
    · rw [e, h3]; simp
    · exact inOk_some h4 q e
  | od kvs =>
    obtain ⟨p, kv, rfl, h2, h3, h4⟩ := h
    have e : q = p := by simpa using hq
    rw [e, h3]; simp
  | ow O =>
    obtain ⟨v, h2, h3, h4⟩ := h
    exact h4 q hq
  | gh P n =>
    obtain ⟨rfl, ps, h2, _⟩ := h
    rw [show q = P by simpa using hq, h2]
    simp
theorem es_len : ∀ {τ : List (Option V)} {Θ : List Sl} {own : List Addr}, Es Z R H τ Θ own → τ.length = Θ.length
  | [], [], _, _ => rfl
  | _ :: _, _ :: _, _, ⟨_, _, _, _, t⟩ => by rw [List.length_cons, List.length_cons, es_len t]
  | [], _ :: _, _, h => h.elim
  | _ :: _, [], _, h => h.elim
theorem es_mono (e : Same R R') : ∀ {τ : List (Option V)} {Θ : List Sl} {own : List Addr}, (∀ p ∈ own, H' p = H p) → Es Z R H τ Θ own → Es Z R' H' τ Θ own
  | [], [], _, _, h => h
  | _ :: _, _ :: _, _, k, ⟨f, g, e1, h1, t⟩ => by
    subst e1
    exact ⟨f, g, rfl, slok_mono e (fun p hp => k p (List.mem_append_left _ hp)) h1, es_mono e (fun p hp => k p (List.mem_append_right _ hp)) t⟩
  | [], _ :: _, _, _, h => h.elim
  | _ :: _, [], _, _, h => h.elim
theorem es_some : ∀ {τ : List (Option V)} {Θ : List Sl} {own : List Addr}, Es Z R H τ Θ own → ∀ p ∈ own, H p ≠ none
  | [], [], _, h, p, hp => by rw [show _ = [] from h] at hp; simp at hp
  | _ :: _, _ :: _, _, ⟨f, g, e1, h1, t⟩, p, hp => by
    subst e1
    rcases List.mem_append.mp hp with q | q
    · exact slok_some h1 p q
    · exact es_some t p q
  | [], _ :: _, _, h, _, _ => h.elim
  | _ :: _, [], _, h, _, _ => h.elim
/-- one slot, and all else -/
theorem es_at : ∀ {τ : List (Option V)} {Θ : List Sl} {own : List Addr} {i : Nat} {s : Sl}, Es Z R H τ Θ own → Θ[i]? = some s →
    ∃ o g1 f g2, τ[i]? = some o ∧ own = g1 ++ f ++ g2 ∧ slok Z R H o s f ∧ ∀ (R' H' : Hp) (o' : Option V) (s' : Sl) (f' : List Addr), Same R R' → (∀ p ∈ g1 ++ g2, H' p = H p) → slok Z R' H' o' s' f' → Es Z R' H' (τ.set i o') (Θ.set i s') (g1 ++ f' ++ g2)
  | [], [], _, _, _, _, e => by simp at e
  | o :: τ, s0 :: Θ, _, 0, s, ⟨f, g, e1, h1, t⟩, e => by
    have e' : s0 = s := by simpa using e
    subst e'
    refine ⟨o, [], f, g, rfl, by simpa using e1, h1, fun R' H' o' s' f' a k h => ⟨f', g, by simp, h, es_mono a (fun p hp => k p (by simpa using hp)) t⟩⟩
  | o :: τ, s0 :: Θ, _, i + 1, s, ⟨f, g, e1, h1, t⟩, e => by
    obtain ⟨o1, g1, f1, g2, h2, h3, h4, h5⟩ := es_at (i := i) t (by simpa using e)
    refine ⟨o1, f ++ g1, f1, g2, by simpa using h2, by rw [e1, h3]; simp, h4, fun R' H' o' s' f' a k h => ⟨f, g1 ++ f' ++ g2, by simp, slok_mono a (fun p hp => k p (by simp [hp])) h1, h5 R' H' o' s' f' a (fun p hp => k p (by simp at hp ⊢; rcases hp with q | q <;> simp [q])) h⟩⟩
  | [], _ :: _, _, _, _, h, _ => h.elim
  | _ :: _, [], _, _, _, h, _ => h.elim
end
end TB

namespace TB
open PySem L2
section
variable {Z : Zz} {B R0 R R' H H' : Hp} {τ : List (Option V)} {Θ : List Sl} {s : Sl} {o : Option V} {f own own' : List Addr}
theorem hs_sub (h : Hs B R0 R H own) (k : ∀ p ∈ own', p ∈ own) (nd : own'.Nodup) : Hs B R0 R H own' := ⟨h.rh, h.bh, h.r0, h.nw, fun p hp => h.ow p (k p hp), nd⟩
theorem nd_mid {g1 f g2 : List Addr} (h : (g1 ++ f ++ g2).Nodup) : (g1 ++ [] ++ g2).Nodup := by
  simp only [List.nodup_append, List.mem_append] at h ⊢
  grind
theorem nd_move {f g1 f1 g2 : List Addr} (h : (f ++ (g1 ++ f1 ++ g2)).Nodup) : (g1 ++ f ++ g2).Nodup := by
  simp only [List.nodup_append, List.mem_append] at h ⊢
  grind
theorem nd_tail {f g : List Addr} (h : (f ++ g).Nodup) : g.Nodup := by
  simp only [List.nodup_append] at h
  exact h.2.1
theorem sy_get (S : Sy Z B R0 R H τ Θ) {i : Nat} (e : Θ[i]? = some s) : ∃ o f, τ[i]? = some o ∧ slok Z R H o s f := by
  obtain ⟨own, h, es⟩ := S
  obtain ⟨o, g1, f, g2, h1, _, h3, _⟩ := es_at es e
  exact ⟨o, f, h1, h3⟩
theorem sy_push {α : Type} [Rp α] {d : α} {v : V} (S : Sy Z B R0 R H τ Θ) (h : Rp.rp Z R v d) : Sy Z B R0 R H (some v :: τ) (.im d :: Θ) := by
  obtain ⟨own, hs, es⟩ := S
  exact ⟨own, hs, [], own, rfl, ⟨rfl, v, rfl, h⟩, es⟩
theorem sy_pushu (S : Sy Z B R0 R H τ Θ) : Sy Z B R0 R H (o :: τ) (.un :: Θ) := by
  obtain ⟨own, hs, es⟩ := S
  exact ⟨own, hs, [], own, rfl, rfl, es⟩
theorem sy_tail (S : Sy Z B R0 R H (o :: τ) (s :: Θ)) : Sy Z B R0 R H τ Θ := by
  obtain ⟨own, hs, f, g, e1, _, es⟩ := S
  subst e1
  exact ⟨g, hs_sub hs (fun p hp => List.mem_append_right _ hp) (nd_tail hs.nd), es⟩
theorem sy_top {α : Type} [Rp α] {d : α} (S : Sy Z B R0 R H (o :: τ) (.im d :: Θ)) : ∃ v, o = some v ∧ Rp.rp Z R v d := by
  obtain ⟨own, hs, f, g, e1, ⟨_, v, h1, h2⟩, es⟩ := S
  exact ⟨v, h1, h2⟩
/-- the top goes into slot i -/
theorem sy_move (S : Sy Z B R0 R H (o :: τ) (s :: Θ)) (i : Nat) : Sy Z B R0 R H (τ.set i o) (Θ.set i s) := by
  obtain ⟨own, hs, f, g, e1, h1, es⟩ := S
  subst e1
  cases e : Θ[i]? with
  | none =>
    have l1 : Θ.length ≤ i := List.getElem?_eq_none_iff.mp e
    have l2 : τ.length ≤ i := by rw [es_len es]; exact l1
    rw [List.set_eq_of_length_le l1, List.set_eq_of_length_le l2]
    exact ⟨g, hs_sub hs (fun p hp => List.mem_append_right _ hp) (nd_tail hs.nd), es⟩
  | some s0 =>
    obtain ⟨o0, g1, f1, g2, h2, h3, h4, h5⟩ := es_at es e
    subst h3
    refine ⟨g1 ++ f ++ g2, hs_sub hs (fun p hp => ?_) (nd_move hs.nd), h5 R H o s f (Same.refl _) (fun _ _ => rfl) h1⟩
    simp only [List.mem_append] at hp ⊢
    grind
theorem sy_forget' (S : Sy Z B R0 R H τ Θ) (i : Nat) : Sy Z B R0 R H τ (Θ.set i .un) := by
  obtain ⟨own, hs, es⟩ := S
  cases e : Θ[i]? with
  | none =>
    rw [List.set_eq_of_length_le (List.getElem?_eq_none_iff.mp e)]
    exact ⟨own, hs, es⟩
  | some s0 =>
    obtain ⟨o0, g1, f1, g2, h2, h3, h4, h5⟩ := es_at es e
    subst h3
    have h6 := h5 R H o0 .un [] (Same.refl _) (fun _ _ => rfl) rfl
    have e2 : τ.set i o0 = τ := by
      apply List.ext_getElem?
      intro j
      rw [List.getElem?_set]
      split
      · rename_i hj
        subst hj
        split
        · rw [h2]
        · rename_i hl
          rw [List.getElem?_eq_none (by omega)]
      · rfl
    rw [e2] at h6
    exact ⟨_, hs_sub hs (fun p hp => by simp only [List.mem_append] at hp ⊢; grind) (nd_mid hs.nd), h6⟩
theorem fresh_own (hs : Hs B R0 R H own) (es : Es Z R H τ Θ own) {p : Addr} (hp : H p = none) : R p = none ∧ B p = none ∧ p ∉ own := by
  refine ⟨hs.rh.free hp, hs.bh.free hp, fun hm => es_some es p hm hp⟩
theorem same_upd {p : Addr} {u : HO} (hp : H p = none) : Same H (upd H p u) := fun b o e => by
  rw [upd_ne (ne_of_none e hp)]
  exact e
/-- a new object that nobody needs -/
theorem sy_alloc (S : Sy Z B R0 R H τ Θ) {p : Addr} (hp : H p = none) (u : HO) : Sy Z B R0 R (upd H p u) τ Θ := by
  obtain ⟨own, hs, es⟩ := S
  obtain ⟨a, b, c⟩ := fresh_own hs es hp
  exact ⟨own, ⟨hs.rh.trans (same_upd hp), hs.bh.trans (same_upd hp), hs.r0, hs.nw, hs.ow, hs.nd⟩, es_mono (Same.refl _) (fun q hq => upd_ne (fun z => c (z ▸ hq))) es⟩
/-- a new object, frozen at once -/
theorem sy_froz (S : Sy Z B R0 R H τ Θ) {p : Addr} (hp : H p = none) (u : HO) : Sy Z B R0 (upd R p u) (upd H p u) τ Θ ∧ Same R (upd R p u) := by
  obtain ⟨own, hs, es⟩ := S
  obtain ⟨a, b, c⟩ := fresh_own hs es hp
  have sr : Same R (upd R p u) := same_upd a
  refine ⟨⟨own, ⟨fun q o e => ?_, hs.bh.trans (same_upd hp), hs.r0.trans sr, fun q o e => ?_, fun q hq => ?_, hs.nd⟩, es_mono sr (fun q hq => upd_ne (fun z => c (z ▸ hq))) es⟩, sr⟩
  · by_cases hq : q = p
    · subst hq
      rw [upd_same] at e ⊢
      exact e
    · rw [upd_ne hq] at e ⊢
      exact hs.rh _ _ e
  · by_cases hq : q = p
    · subst hq
      exact .inr b
    · rw [upd_ne hq] at e
      exact hs.nw _ _ e
  · have n : q ≠ p := fun z => c (z ▸ hq)
    rw [upd_ne n]
    exact hs.ow q hq
/-- a new own list | dict -/
theorem sy_newl {α : Type} [Rp α] {vs : List V} {xs : List α} (S : Sy Z B R0 R H τ Θ) {p : Addr} (hp : H p = none) (hv : Paired (Rp.rp Z R) vs xs) : Sy Z B R0 R (upd H p (.lst vs)) (some (.ref p) :: τ) (.ol xs :: Θ) := by
  obtain ⟨own, hs, es⟩ := S
  obtain ⟨a, b, c⟩ := fresh_own hs es hp
  refine ⟨p :: own, ⟨hs.rh.trans (same_upd hp), hs.bh.trans (same_upd hp), hs.r0, hs.nw, fun q hq => ?_, List.nodup_cons.mpr ⟨c, hs.nd⟩⟩, [p], own, rfl, ⟨p, vs, rfl, rfl, upd_same, hv⟩, es_mono (Same.refl _) (fun q hq => upd_ne (fun z => c (z ▸ hq))) es⟩
  rcases List.mem_cons.mp hq with z | z
  · rw [z]; exact ⟨a, b⟩
  · exact hs.ow q z
/-- an own list changes -/
theorem sy_mutl {α : Type} [Rp α] {xs : List α} (S : Sy Z B R0 R H τ Θ) {i : Nat} (e : Θ[i]? = some (.ol xs)) : ∃ p vs, τ[i]? = some (some (.ref p)) ∧ H p = some (.lst vs) ∧ Paired (Rp.rp Z R) vs xs ∧
    ∀ {β : Type} [Rp β] (vs' : List V) (ys : List β), Paired (Rp.rp Z R) vs' ys → Sy Z B R0 R (upd H p (.lst vs')) τ (Θ.set i (.ol ys)) := by
  obtain ⟨own, hs, es⟩ := S
  obtain ⟨o, g1, f, g2, h2, h3, ⟨p, vs, rfl, rfl, h4, h5⟩, h6⟩ := es_at es e
  subst h3
  refine ⟨p, vs, h2, h4, h5, fun {β} _ vs' ys hy => ?_⟩
  have hp := hs.ow p (by simp)
  have nd := hs.nd
  have ne : ∀ q ∈ g1 ++ g2, q ≠ p := fun q hq z => by
    subst z
    simp only [List.nodup_append, List.mem_append, List.mem_singleton] at nd hq
    grind
  have h7 := h6 R (upd H p (.lst vs')) (some (.ref p)) (.ol ys) [p] (Same.refl _) (fun q hq => upd_ne (ne q hq)) ⟨p, vs', rfl, rfl, upd_same, hy⟩
  have e2 : τ.set i (some (.ref p)) = τ := by
    apply List.ext_getElem?
    intro j
    rw [List.getElem?_set]
    split
    · rename_i hj
      subst hj
      split
      · rw [h2]
      · rename_i hl
        rw [List.getElem?_eq_none (by omega)]
    · rfl
  rw [e2] at h7
  exact ⟨_, ⟨fun q u a => by rw [upd_ne (ne_of_none a hp.1)]; exact hs.rh _ _ a, fun q u a => by rw [upd_ne (ne_of_none a hp.2)]; exact hs.bh _ _ a, hs.r0, hs.nw, hs.ow, hs.nd⟩, h7⟩
/-- an own list is frozen -/
theorem sy_frl {α : Type} [Rp α] {xs : List α} (S : Sy Z B R0 R H τ Θ) {i : Nat} (e : Θ[i]? = some (.ol xs)) : ∃ R', Same R R' ∧ Sy Z B R0 R' H τ (Θ.set i (.im xs)) := by
  obtain ⟨own, hs, es⟩ := S
  obtain ⟨o, g1, f, g2, h2, h3, ⟨p, vs, rfl, rfl, h4, h5⟩, h6⟩ := es_at es e
  subst h3
  have hp := hs.ow p (by simp)
  have nd := hs.nd
  have ne : ∀ q ∈ g1 ++ g2, q ≠ p := fun q hq z => by
    subst z
    simp only [List.nodup_append, List.mem_append, List.mem_singleton] at nd hq
    grind
  have sr : Same R (upd R p (.lst vs)) := same_upd hp.1
  have h7 := h6 (upd R p (.lst vs)) H (some (.ref p)) (.im xs) [] sr (fun q hq => rfl) ⟨rfl, .ref p, rfl, p, vs, rfl, upd_same, paired_mono (fun _ _ => Rp.mono sr) h5⟩
  have e2 : τ.set i (some (.ref p)) = τ := by
    apply List.ext_getElem?
    intro j
    rw [List.getElem?_set]
    split
    · rename_i hj
      subst hj
      split
      · rw [h2]
      · rename_i hl
        rw [List.getElem?_eq_none (by omega)]
    · rfl
  rw [e2] at h7
  refine ⟨_, sr, _, ⟨fun q u a => ?_, hs.bh, hs.r0.trans sr, fun q u a => ?_, fun q hq => ?_, nd_mid hs.nd⟩, h7⟩
  · by_cases hq : q = p
    · subst hq
      rw [upd_same] at a
      rw [h4]; exact a
    · rw [upd_ne hq] at a
      exact hs.rh _ _ a
  · by_cases hq : q = p
    · subst hq
      exact .inr hp.2
    · rw [upd_ne hq] at a
      exact hs.nw _ _ a
  · rw [List.append_nil] at hq
    rw [upd_ne (ne q hq)]
    exact hs.ow q (by simp only [List.mem_append] at hq ⊢; grind)
end
end TB

/-! TbG: operators by values, whatever the kinds (ints or lists; lists, tuples or dicts). -/
namespace TB
open PySem PySem.Spec PyProof.Rows L2
theorem opR_or {X : Cx} {f : Value → Value → Sem Value} {r r' : R2} (h : OpR X f r) (h' : OpR X f r') : OpR X f (fun x y H Q => r x y H Q ∨ r' x y H Q) := by
  intro pins s σ H x y v u Q I rx ry q
  rcases q with q | q
  · exact h pins s σ H x y v u Q I rx ry q
  · exact h' pins s σ H x y v u Q I rx ry q
noncomputable def rAddI : R2 := rI0 fun i j => .int (i + j)
noncomputable def gAdd : R2 := fun x y H Q => rAddI x y H Q ∨ rCat x y H Q
noncomputable def gMns : R2 := rI0 fun i j => .int (i - j)
noncomputable def rMulI : R2 := rI CMulW fun i j => .int (i * j)
noncomputable def rMulS : R2 := rI CMul fun i j => .int (i * j)
noncomputable def gMul : R2 := fun x y H Q => rMulI x y H Q ∨ rRep x y H Q ∨ rMulS x y H Q
noncomputable def gMod : R2 := rI (fun _ j => j ≠ 0) fun i j => .int (i.fmod j)
noncomputable def rDivN : R2 := rI CDivN fun i j => .int (i.fdiv j)
noncomputable def rDivW : R2 := rI CDivW fun i j => .int (i / j)
noncomputable def gDiv : R2 := fun x y H Q => rDivN x y H Q ∨ rDivW x y H Q
noncomputable def gPow : R2 := rI CPow fun i j => .int (i ^ j.toNat)
noncomputable def gEq (K : PySem.W.Frag) : R2 := fun x y H Q => rEq x y H Q ∨ rEqD K x y H Q
noncomputable def gNe (K : PySem.W.Frag) : R2 := fun x y H Q => rNe x y H Q ∨ rNeD K x y H Q
noncomputable def gLt : R2 := rI0 fun i j => .bl (decide (i < j))
noncomputable def gLe : R2 := rI0 fun i j => .bl (decide (i ≤ j))
noncomputable def gGt : R2 := rI0 fun i j => .bl (decide (j < i))
noncomputable def gGe : R2 := rI0 fun i j => .bl (decide (j ≤ i))
noncomputable def gIs : R2 := fun x y H Q => y = .non ∧ Q (.bl (decide (x = .non))) H
noncomputable def rDIx : R2 := fun x y H Q => ∃ a v, x = .ref a ∧ DGet H a y (some v) ∧ Q v H
noncomputable def gIx (K : PySem.W.Frag) : R2 := fun x y H Q => rIxL K x y H Q ∨ rIxT K x y H Q ∨ rDIx x y H Q
noncomputable def uNeg : V → Hp → VK → Prop := rU fun i => .int (-i)
section
variable {X : Cx}
theorem go_add : OpR X (binaryOp .Add) gAdd := opR_or op_add op_cat
theorem go_sub : OpR X (binaryOp .Sub) gMns := op_sub
theorem go_mul : OpR X (binaryOp .Mult) gMul := opR_or op_mulW (opR_or op_rep op_mul)
theorem go_mod : OpR X (binaryOp .Mod) gMod := op_modN
theorem go_div : OpR X (binaryOp .FloorDiv) gDiv := opR_or op_fdivN op_fdivW
theorem go_eq (hu : X.A.units + 64 < cLine) : OpR X (compareOp .Eq) (gEq X.K) := opR_or op_eq (op_eqD hu)
theorem go_ne (hu : X.A.units + 64 < cLine) : OpR X (compareOp .NotEq) (gNe X.K) := opR_or op_ne (op_neD hu)
theorem go_lt : OpR X (compareOp .Lt) gLt := op_lt
theorem go_gt : OpR X (compareOp .Gt) gGt := op_gt
theorem go_ge : OpR X (compareOp .GtE) gGe := op_ge
theorem go_is : OpR X (compareOp .Is) gIs := op_isN
theorem go_dIx (hu : X.A.units + 1 < cLine) : IxR X rDIx := by
  intro value slice pins s σ H x y v u Q I rx ry h hs
  obtain ⟨a, w, rfl, g, q⟩ := h
  cases rx
  exact tail_any (dict_typeIs I g) PySem.F.slot_dict_getitem.lookup (d_getItem hu I g ry fun w' s3 I3 rw' => ⟨w, H, I3, rw', q⟩) hs
theorem go_ix (hu : X.A.units + 1 < cLine) : IxR X (gIx X.K) := ix_list.or (ix_tup.or (go_dIx hu))
theorem go_neg : UnR X (unaryOp .USub) uNeg := un_neg
theorem hu64 {k : Nat} {A : Around} (hr : Room k A) : A.units + 64 < cLine := by have := hr.un; omega
theorem hu1 {k : Nat} {A : Around} (hr : Room k A) : A.units + 1 < cLine := by have := hr.un; omega
end
end TB

/-! TbJ: the judgements: what an expression is worth (Ev), a test (EvT), arguments (EvA), what a walk draws (EvI), what a statement leads to (W). -/
namespace TB
open PySem L2
/-- a frame's state: ρ, Δ what lies ahead of the slots (values under way) -/
noncomputable def Sx (Z : Zz) (B R0 R H : Hp) (ρ : List (Option V)) (Δ : List Sl) (σ : List (Option V)) (Γ : List Sl) : Prop := ρ.length = Δ.length ∧ Sy Z B R0 R H (ρ ++ σ) (Δ ++ Γ)
section
variable {Z : Zz} {B R0 R R' H H' : Hp} {ρ σ τ τ' : List (Option V)} {Δ Γ Θ Θ' : List Sl} {s : Sl} {o : Option V} {f own own' : List Addr}
theorem es_append : ∀ {τ τ' : List (Option V)} {Θ Θ' : List Sl} {own : List Addr}, τ.length = Θ.length → (Es Z R H (τ ++ τ') (Θ ++ Θ') own ↔ ∃ f g, own = f ++ g ∧ Es Z R H τ Θ f ∧ Es Z R H τ' Θ' g)
  | [], _, [], _, own, _ => ⟨fun h => ⟨[], own, rfl, rfl, h⟩, fun ⟨f, g, e, h1, h2⟩ => by
      have h1' : f = [] := h1
      subst h1'
      rw [e]
      exact h2⟩
  | o :: τ, τ', s :: Θ, Θ', own, hl => by
    have hl' : τ.length = Θ.length := by simpa using hl
    constructor
    · rintro ⟨f, g, e, h1, h2⟩
      obtain ⟨f2, g2, e2, h3, h4⟩ := (es_append hl').mp h2
      exact ⟨f ++ f2, g2, by rw [e, e2, List.append_assoc], ⟨f, f2, rfl, h1, h3⟩, h4⟩
    · rintro ⟨f, g, e, ⟨f1, f2, e1, h1, h2⟩, h3⟩
      exact ⟨f1, f2 ++ g, by rw [e, e1, List.append_assoc], h1, (es_append hl').mpr ⟨f2, g, rfl, h2, h3⟩⟩
  | [], _, _ :: _, _, _, hl => by simp at hl
  | _ :: _, _, [], _, _, hl => by simp at hl
theorem sy_sub {τ1 τ2 τ3 : List (Option V)} {Θ1 Θ2 Θ3 : List Sl} (h1 : τ1.length = Θ1.length) (h2 : τ2.length = Θ2.length) (S : Sy Z B R0 R H (τ1 ++ (τ2 ++ τ3)) (Θ1 ++ (Θ2 ++ Θ3))) : Sy Z B R0 R H (τ1 ++ τ3) (Θ1 ++ Θ3) := by
  obtain ⟨own, hs, es⟩ := S
  obtain ⟨f, g, rfl, e1, e2⟩ := (es_append h1).mp es
  obtain ⟨f2, g2, rfl, e3, e4⟩ := (es_append h2).mp e2
  refine ⟨f ++ g2, hs_sub hs (fun p hp => ?_) ?_, (es_append h1).mpr ⟨f, g2, rfl, e1, e4⟩⟩
  · simp only [List.mem_append] at hp ⊢
    grind
  · have nd := hs.nd
    simp only [List.nodup_append, List.mem_append] at nd ⊢
    grind
theorem sx_len (S : Sx Z B R0 R H ρ Δ σ Γ) : σ.length = Γ.length := by
  obtain ⟨h, own, _, es⟩ := S
  have := es_len es
  simp only [List.length_append] at this
  omega
theorem sx_same (S : Sx Z B R0 R H ρ Δ σ Γ) : Same R H := by
  obtain ⟨_, own, hs, _⟩ := S
  exact hs.rh
theorem sx_base (S : Sx Z B R0 R H ρ Δ σ Γ) : Same B H := by
  obtain ⟨_, own, hs, _⟩ := S
  exact hs.bh
theorem at_slot {α β : Type _} {l : List α} {m : List β} {i : Nat} {r : List β} (h : l.length = m.length) : (m ++ r)[l.length + i]? = r[i]? := by
  rw [h, List.getElem?_append_right (by omega)]
  congr 1
  omega
theorem at_slot' {α : Type _} {l r : List α} {i : Nat} : (l ++ r)[l.length + i]? = r[i]? := at_slot rfl
theorem sx_slot (S : Sx Z B R0 R H ρ Δ σ Γ) {i : Nat} (e : Γ[i]? = some s) : ∃ o f, σ[i]? = some o ∧ slok Z R H o s f := by
  obtain ⟨hl, S⟩ := S
  obtain ⟨o, f, h1, h2⟩ := sy_get S (i := ρ.length + i) (by rw [at_slot hl]; exact e)
  rw [at_slot'] at h1
  exact ⟨o, f, h1, h2⟩
theorem sx_im {α : Type} [Rp α] {d : α} (S : Sx Z B R0 R H ρ Δ σ Γ) {i : Nat} (e : Γ[i]? = some (.im d)) : ∃ v, σ[i]? = some (some v) ∧ Rp.rp Z R v d := by
  obtain ⟨o, f, h1, _, v, h2, h3⟩ := sx_slot S e
  exact ⟨v, by rw [h1, h2], h3⟩
theorem sx_push {α : Type} [Rp α] {d : α} {v : V} (S : Sx Z B R0 R H ρ Δ σ Γ) (h : Rp.rp Z R v d) : Sx Z B R0 R H (some v :: ρ) (.im d :: Δ) σ Γ := ⟨by simp [S.1], sy_push S.2 h⟩
theorem sx_pushu (S : Sx Z B R0 R H ρ Δ σ Γ) : Sx Z B R0 R H (o :: ρ) (.un :: Δ) σ Γ := ⟨by simp [S.1], sy_pushu S.2⟩
theorem sx_pop {s : Sl} (S : Sx Z B R0 R H (o :: ρ) (s :: Δ) σ Γ) : Sx Z B R0 R H ρ Δ σ Γ := ⟨by have := S.1; simpa using this, sy_tail S.2⟩
theorem sx_pop2 {o2 : Option V} {s s2 : Sl} (S : Sx Z B R0 R H (o :: o2 :: ρ) (s :: s2 :: Δ) σ Γ) : Sx Z B R0 R H (o :: ρ) (s :: Δ) σ Γ :=
  ⟨by have := S.1; simpa using this, sy_sub (τ1 := [o]) (τ2 := [o2]) (Θ1 := [s]) (Θ2 := [s2]) rfl rfl S.2⟩
theorem sx_top {α : Type} [Rp α] {d : α} (S : Sx Z B R0 R H (o :: ρ) (.im d :: Δ) σ Γ) : ∃ v, o = some v ∧ Rp.rp Z R v d := sy_top S.2
theorem sx_top' {α : Type} [Rp α] {d : α} {v : V} (S : Sx Z B R0 R H (some v :: ρ) (.im d :: Δ) σ Γ) : Rp.rp Z R v d := by
  obtain ⟨w, h1, h2⟩ := sx_top S
  cases h1
  exact h2
theorem sx_drop {ρ' : List (Option V)} {Δ' : List Sl} (h : ρ'.length = Δ'.length) (S : Sx Z B R0 R H (ρ' ++ ρ) (Δ' ++ Δ) σ Γ) : Sx Z B R0 R H ρ Δ σ Γ := by
  obtain ⟨h1, S⟩ := S
  rw [List.length_append, List.length_append] at h1
  exact ⟨by omega, sy_sub (τ1 := []) (Θ1 := []) rfl h (by simpa using S)⟩
theorem sx_drop1 {ρ' : List (Option V)} {Δ' : List Sl} (h : ρ'.length = Δ'.length) (S : Sx Z B R0 R H (o :: (ρ' ++ ρ)) (s :: (Δ' ++ Δ)) σ Γ) : Sx Z B R0 R H (o :: ρ) (s :: Δ) σ Γ := by
  obtain ⟨h1, S⟩ := S
  simp only [List.length_cons, List.length_append] at h1
  refine ⟨by simp; omega, sy_sub (τ1 := [o]) (Θ1 := [s]) (τ2 := ρ') (Θ2 := Δ') rfl h (by simpa using S)⟩
/-- the slots are let go -/
theorem sx_leave (S : Sx Z B R0 R H ρ Δ σ Γ) : Sx Z B R0 R H ρ Δ [] [] := by
  refine ⟨S.1, ?_⟩
  have h := sx_len S
  exact sy_sub (τ1 := ρ) (Θ1 := Δ) (τ2 := σ) (Θ2 := Γ) (τ3 := []) (Θ3 := []) S.1 h (by simpa using S.2)
theorem sx_asg (S : Sx Z B R0 R H (o :: ρ) (s :: Δ) σ Γ) (i : Nat) : Sx Z B R0 R H ρ Δ (σ.set i o) (Γ.set i s) := by
  obtain ⟨h, S⟩ := S
  have h' : ρ.length = Δ.length := by simpa using h
  refine ⟨h', ?_⟩
  have q := sy_move (τ := ρ ++ σ) (Θ := Δ ++ Γ) S (ρ.length + i)
  rw [List.set_append_right _ _ (by omega), h', List.set_append_right _ _ (by omega), show Δ.length + i - Δ.length = i by omega] at q
  exact q
theorem sx_forget (S : Sx Z B R0 R H ρ Δ σ Γ) (i : Nat) : Sx Z B R0 R H ρ Δ σ (Γ.set i .un) := by
  obtain ⟨h, S⟩ := S
  refine ⟨h, ?_⟩
  have q := sy_forget' S (Δ.length + i)
  rw [List.set_append_right _ _ (by omega), show Δ.length + i - Δ.length = i by omega] at q
  exact q
theorem sx_forgets (S : Sx Z B R0 R H ρ Δ σ Γ) (i : Nat) (o' : Option V) : Sx Z B R0 R H ρ Δ (σ.set i o') (Γ.set i .un) := sx_asg (sx_pushu S) i
theorem sx_alloc (S : Sx Z B R0 R H ρ Δ σ Γ) {p : Addr} (hp : H p = none) (u : HO) : Sx Z B R0 R (upd H p u) ρ Δ σ Γ := ⟨S.1, sy_alloc S.2 hp u⟩
theorem sx_froz (S : Sx Z B R0 R H ρ Δ σ Γ) {p : Addr} (hp : H p = none) (u : HO) : Sx Z B R0 (upd R p u) (upd H p u) ρ Δ σ Γ ∧ Same R (upd R p u) := ⟨⟨S.1, (sy_froz S.2 hp u).1⟩, (sy_froz S.2 hp u).2⟩
theorem sx_newl {α : Type} [Rp α] {vs : List V} {xs : List α} (S : Sx Z B R0 R H ρ Δ σ Γ) {p : Addr} (hp : H p = none) (hv : Paired (Rp.rp Z R) vs xs) : Sx Z B R0 R (upd H p (.lst vs)) (some (.ref p) :: ρ) (.ol xs :: Δ) σ Γ :=
  ⟨by simp [S.1], sy_newl S.2 hp hv⟩
theorem sx_mutl {α : Type} [Rp α] {xs : List α} (S : Sx Z B R0 R H ρ Δ σ Γ) {i : Nat} (e : Γ[i]? = some (.ol xs)) : ∃ p vs, σ[i]? = some (some (.ref p)) ∧ H p = some (.lst vs) ∧ Paired (Rp.rp Z R) vs xs ∧
    ∀ {β : Type} [Rp β] (vs' : List V) (ys : List β), Paired (Rp.rp Z R) vs' ys → Sx Z B R0 R (upd H p (.lst vs')) ρ Δ σ (Γ.set i (.ol ys)) := by
  obtain ⟨h, S⟩ := S
  obtain ⟨p, vs, h1, h2, h3, h4⟩ := sy_mutl S (i := ρ.length + i) (by rw [at_slot h]; exact e)
  rw [at_slot'] at h1
  refine ⟨p, vs, h1, h2, h3, fun vs' ys hy => ⟨h, ?_⟩⟩
  have q := h4 vs' ys hy
  rw [h, List.set_append_right _ _ (by omega), show Δ.length + i - Δ.length = i by omega] at q
  exact q
/-- the top, an own list, changes -/
theorem sx_mutTop {α : Type} [Rp α] {xs : List α} (S : Sx Z B R0 R H (o :: ρ) (.ol xs :: Δ) σ Γ) : ∃ p vs, o = some (.ref p) ∧ H p = some (.lst vs) ∧ Paired (Rp.rp Z R) vs xs ∧
    ∀ {β : Type} [Rp β] (vs' : List V) (ys : List β), Paired (Rp.rp Z R) vs' ys → Sx Z B R0 R (upd H p (.lst vs')) (o :: ρ) (.ol ys :: Δ) σ Γ := by
  obtain ⟨h, S⟩ := S
  obtain ⟨p, vs, h1, h2, h3, h4⟩ := sy_mutl S (i := 0) rfl
  refine ⟨p, vs, by simpa using h1, h2, h3, fun vs' ys hy => ⟨by simpa using h, ?_⟩⟩
  exact h4 vs' ys hy
theorem sx_frl {α : Type} [Rp α] {xs : List α} (S : Sx Z B R0 R H ρ Δ σ Γ) {i : Nat} (e : Γ[i]? = some (.ol xs)) : ∃ R', Same R R' ∧ Sx Z B R0 R' H ρ Δ σ (Γ.set i (.im xs)) := by
  obtain ⟨h, S⟩ := S
  obtain ⟨R', h1, h2⟩ := sy_frl S (i := ρ.length + i) (by rw [at_slot h]; exact e)
  rw [h, List.set_append_right _ _ (by omega), show Δ.length + i - Δ.length = i by omega] at h2
  exact ⟨R', h1, h, h2⟩
theorem sx_frTop {α : Type} [Rp α] {xs : List α} (S : Sx Z B R0 R H (o :: ρ) (.ol xs :: Δ) σ Γ) : ∃ R', Same R R' ∧ Sx Z B R0 R' H (o :: ρ) (.im xs :: Δ) σ Γ := by
  obtain ⟨h, S⟩ := S
  obtain ⟨R', h1, h2⟩ := sy_frl S (i := 0) rfl
  exact ⟨R', h1, by simpa using h, h2⟩
end

/-! ### refusals -/
structure Rf where
  name : CN
  fs : List (Str × V)
/-- a refusal: its class, its dict in H, which is new since B -/
noncomputable def RepEx (Z : Zz) (B H : Hp) (r : Rf) (cls : Value) (d : Option Addr) : Prop := cls = .ref (Z.cls r.name) ∧ ((r.fs = [] ∧ d = none) ∨ (r.fs ≠ [] ∧ ∃ dx, d = some dx ∧ B dx = none ∧ H dx = some (.xd r.fs)))
theorem RepEx.mono {Z : Zz} {B H H' : Hp} {r : Rf} {cls : Value} {d : Option Addr} (e : Same H H') (h : RepEx Z B H r cls d) : RepEx Z B H' r cls d := by
  obtain ⟨h1, h2 | ⟨h2, dx, h3, h4, h5⟩⟩ := h
  · exact ⟨h1, .inl h2⟩
  · exact ⟨h1, .inr ⟨h2, dx, h3, h4, e _ _ h5⟩⟩
/-- the written part, what is wished of an exception, which refusals may come -/
structure Cn where
  Z : Zz
  X : WX
  ex : Rf → List Sl → Prop
noncomputable abbrev Cn.no (c : Cn) : Cn := { c with ex := fun _ _ => False }
noncomputable def Xok (c : Cn) (B R0 : Hp) (ρ : List (Option V)) (Δ : List Sl) : Prop := ∀ R' H' σ' Γ' r cls d, Sx c.Z B R0 R' H' ρ Δ σ' Γ' → RepEx c.Z B R' r cls d → c.ex r Γ' → c.X cls d σ' H'
theorem Xok.push {c : Cn} {B R0 : Hp} {ρ ρ' : List (Option V)} {Δ Δ' : List Sl} (h : ρ'.length = Δ'.length) (x : Xok c B R0 ρ Δ) : Xok c B R0 (ρ' ++ ρ) (Δ' ++ Δ) := fun R' H' σ' Γ' r cls d S => x R' H' σ' Γ' r cls d (sx_drop h S)
theorem Xok.push1 {c : Cn} {B R0 : Hp} {ρ : List (Option V)} {Δ : List Sl} {o : Option V} {s : Sl} (x : Xok c B R0 ρ Δ) : Xok c B R0 (o :: ρ) (s :: Δ) := fun R' H' σ' Γ' r cls d S => x R' H' σ' Γ' r cls d (sx_pop S)
theorem Xok.no (c : Cn) (B R0 : Hp) (ρ : List (Option V)) (Δ : List Sl) : Xok c.no B R0 ρ Δ := fun _ _ _ _ _ _ _ _ _ z => z.elim

/-! ### the judgements -/
noncomputable def Ev (c : Cn) (Γ : List Sl) (t : TE) (s : Sl) : Prop := ∀ B R0 R H ρ Δ σ, Sx c.Z B R0 R H ρ Δ σ Γ → ∀ Q : VK, (∀ v R' H', Sx c.Z B R0 R' H' (some v :: ρ) (s :: Δ) σ Γ → Q v H') → Xok c B R0 ρ Δ → t σ H Q
noncomputable def EvT (c : Cn) (Γ : List Sl) (t : TT) (b : Bool) : Prop := ∀ B R0 R H ρ Δ σ, Sx c.Z B R0 R H ρ Δ σ Γ → ∀ Q : Bool → Hp → Prop, (∀ R' H', Sx c.Z B R0 R' H' ρ Δ σ Γ → Q b H') → Xok c B R0 ρ Δ → t σ H Q
inductive Slims (Z : Zz) (R : Hp) : List V → List Sl → Prop
  | nil : Slims Z R [] []
  | cons {α : Type} [Rp α] {v : V} {d : α} {vs : List V} {ss : List Sl} : Rp.rp Z R v d → Slims Z R vs ss → Slims Z R (v :: vs) (.im d :: ss)
noncomputable def EvA (c : Cn) (Γ : List Sl) (t : TA) (ss : List Sl) : Prop := ∀ B R0 R H ρ Δ σ, Sx c.Z B R0 R H ρ Δ σ Γ → ∀ Q : List V → Hp → Prop, (∀ vs R' H', Sx c.Z B R0 R' H' ρ Δ σ Γ → Slims c.Z R' vs ss → Q vs H') → Xok c B R0 ρ Δ → t σ H Q
structure Po where
  nx : List Sl → Prop
  rt : Sl → Prop
  bk : List Sl → Prop := fun _ => False
  ct : List Sl → Prop := fun _ => False
noncomputable def W (c : Cn) (Γ : List Sl) (t : TS) (P : Po) : Prop := ∀ B R0 R H ρ Δ σ D, Sx c.Z B R0 R H ρ Δ σ Γ →
  (∀ R' H' σ' Γ', Sx c.Z B R0 R' H' ρ Δ σ' Γ' → P.nx Γ' → D.nx σ' H') → (∀ R' H' v s, Sx c.Z B R0 R' H' (some v :: ρ) (s :: Δ) [] [] → P.rt s → D.rt v H') →
  (∀ R' H' σ' Γ', Sx c.Z B R0 R' H' ρ Δ σ' Γ' → P.bk Γ' → D.bk σ' H') → (∀ R' H' σ' Γ', Sx c.Z B R0 R' H' ρ Δ σ' Γ' → P.ct Γ' → D.ct σ' H') → Xok c B R0 ρ Δ → t D σ H
/-- forget the block's own slots -/
noncomputable def wipeG (Γ : List Sl) : List Nat → List Sl
  | [] => Γ
  | v :: vs => (wipeG Γ vs).set v .un
/-- nothing stands in these slots -/
noncomputable def UnAt (Γ : List Sl) : List Nat → Prop
  | [] => True
  | v :: vs => (Γ[v]? = some .un ∨ Γ.length ≤ v) ∧ UnAt Γ vs
/-- a walk: n turns, turn i stores as us i tells, into slots of js -/
structure ItOk (Z : Zz) (B R0 : Hp) (ρ : List (Option V)) (Δ : List Sl) (J : It) (g : TG) (n : Nat) (us : Nat → List Sl → List Sl) (js : List Nat) : Prop where
  back : ∀ (i : Nat) (Γ : List Sl) (vs : List Nat), (∀ j ∈ js, j ∈ vs) → wipeG (us i Γ) vs = wipeG Γ vs
  go : ∀ {R H : Hp} {ρx : List (Option V)} {Δx : List Sl} {σ : List (Option V)} {Γ : List Sl} {i : Nat}, ρx.length = Δx.length → Sx Z B R0 R H (ρx ++ ρ) (Δx ++ Δ) σ Γ → i < n → J.go i H
  stop : ∀ {R H : Hp} {ρx : List (Option V)} {Δx : List Sl} {σ : List (Option V)} {Γ : List Sl}, ρx.length = Δx.length → Sx Z B R0 R H (ρx ++ ρ) (Δx ++ Δ) σ Γ → J.stop n H
  yld : ∀ {R H : Hp} {ρx : List (Option V)} {Δx : List Sl} {σ : List (Option V)} {Γ : List Sl} {i : Nat} {x : V} {H' : Hp}, ρx.length = Δx.length → Sx Z B R0 R H (ρx ++ ρ) (Δx ++ Δ) σ Γ → i < n → J.yld i H x H' → ∀ K : St → Hp → Prop,
    (∀ R2 σ2 H2, Sx Z B R0 R2 H2 (ρx ++ ρ) (Δx ++ Δ) σ2 (us i Γ) → (∀ vs : List Nat, (∀ j ∈ js, j ∈ vs) → wipe σ2 vs = wipe σ vs) → K σ2 H2) → g x σ H' K
noncomputable def EvI (c : Cn) (Γ : List Sl) (wi : TI) (g : TG) (n : Nat) (us : Nat → List Sl → List Sl) (js : List Nat) : Prop := ∀ B R0 R H ρ Δ σ, Sx c.Z B R0 R H ρ Δ σ Γ → ∀ K : It → Hp → Prop,
  (∀ J R' H' ρ' Δ', ρ'.length = Δ'.length → Sx c.Z B R0 R' H' (ρ' ++ ρ) (Δ' ++ Δ) σ Γ → ItOk c.Z B R0 (ρ' ++ ρ) (Δ' ++ Δ) J g n us js → K J H') → Xok c B R0 ρ Δ → wi σ H K
end TB

/-! TbR: the rules of the judgements. -/
namespace TB
open PySem L2
variable {c : Cn} {Γ : List Sl} {ta tb te tl : TE} {t u : TT} {s : Sl} {α β γ : Type} {_ : Rp α} {_ : Rp β} {_ : Rp γ}

/-- the item of a list at an int -/
noncomputable def gt {α : Type} [Rp α] (xs : List α) (i : Int) : α := xs.getD i.toNat Rp.df
theorem gt_nat {α : Type} [Rp α] {xs : List α} {i : Nat} (h : i < xs.length) : gt xs (i : Int) = xs[i] := by simp [gt, h]
theorem gt_some {α : Type} [Rp α] {xs : List α} {i : Int} (h0 : 0 ≤ i) (h1 : i < xs.length) : xs[i.toNat]? = some (gt xs i) := by
  have : i.toNat < xs.length := by omega
  simp [gt, this]
theorem atI_of {α : Type} {xs : List α} {i : Int} {x : α} (h0 : 0 ≤ i) (h1 : i < xs.length) (e : xs[i.toNat]? = some x) : atI xs i = some x := by
  unfold atI ixN
  rw [if_pos h0, if_pos h1]
  exact e

/-! ### expressions -/
theorem Ev.weak (h : Ev c.no Γ te s) : Ev c Γ te s := fun B R0 R H ρ Δ σ S Q q _ => h B R0 R H ρ Δ σ S Q q (Xok.no c B R0 ρ Δ)
theorem EvT.weak {b : Bool} (h : EvT c.no Γ t b) : EvT c Γ t b := fun B R0 R H ρ Δ σ S Q q _ => h B R0 R H ρ Δ σ S Q q (Xok.no c B R0 ρ Δ)
theorem ev_is {s' : Sl} (h : Ev c Γ te s) (e : s = s') : Ev c Γ te s' := e ▸ h
theorem ev_to {d d' : α} (h : Ev c Γ te (.im d)) (e : d = d') : Ev c Γ te (.im d') := e ▸ h
theorem et_to {b b' : Bool} (h : EvT c Γ t b) (e : b = b') : EvT c Γ t b' := e ▸ h
theorem ev_var {i : Nat} {d : α} (e : Γ[i]? = some (.im d)) : Ev c Γ (tVar i) (.im d) := fun B R0 R H ρ Δ σ S Q q _ => by
  obtain ⟨v, h1, h2⟩ := sx_im S e
  exact ⟨v, h1, q v R H (sx_push S h2)⟩
theorem ev_int {i : Int} : Ev c Γ (tC (.int i)) (.im i) := fun B R0 R H ρ Δ σ S Q q _ => q _ R H (sx_push S rfl)
theorem ev_bl {b : Bool} : Ev c Γ (tC (.bl b)) (.im b) := fun B R0 R H ρ Δ σ S Q q _ => q _ R H (sx_push S rfl)
theorem ev_str {x : Str} : Ev c Γ (tC (.str x)) (.im x) := fun B R0 R H ρ Δ σ S Q q _ => q _ R H (sx_push S rfl)
theorem ev_non : Ev c Γ (tC .non) (.im ()) := fun B R0 R H ρ Δ σ S Q q _ => q _ R H (sx_push S rfl)
theorem ev_none : Ev c Γ (tC .non) (.im (none : Option α)) := fun B R0 R H ρ Δ σ S Q q _ => q _ R H (sx_push S rfl)
theorem ev_fr {xs : List α} (h : Ev c Γ te (.ol xs)) : Ev c Γ te (.im xs) := fun B R0 R H ρ Δ σ S Q q x => h B R0 R H ρ Δ σ S Q (fun v R' H' S' => by
  obtain ⟨R2, _, S2⟩ := sx_frTop S'
  exact q v R2 H' S2) x
theorem ev_op {r : R2} {x : α} {y : β} (ha : Ev c Γ ta (.im x)) (hb : Ev c Γ tb (.im y))
    (hr : ∀ B R0 R H ρ Δ σ v w, Sx c.Z B R0 R H ρ Δ σ Γ → Rp.rp c.Z R v x → Rp.rp c.Z R w y → ∀ Q : VK, (∀ z R' H', Sx c.Z B R0 R' H' (some z :: ρ) (s :: Δ) σ Γ → Q z H') → r v w H Q) : Ev c Γ (tOp r ta tb) s :=
  fun B R0 R H ρ Δ σ S Q q xk => ha B R0 R H ρ Δ σ S _ (fun v R1 H1 S1 => hb B R0 R1 H1 _ _ σ S1 _ (fun w R2 H2 S2 => hr B R0 R2 H2 ρ Δ σ v w (sx_pop (sx_pop S2)) (sx_top' (sx_pop S2)) (sx_top' S2) Q q) xk.push1) xk
/-- an operation on flat values -/
theorem ev_opv {r : R2} {x : α} {y : β} {z : γ} (ha : Ev c Γ ta (.im x)) (hb : Ev c Γ tb (.im y)) (hr : ∀ R H v w, Same R H → Rp.rp c.Z R v x → Rp.rp c.Z R w y → ∃ k, Rp.rp c.Z R k z ∧ ∀ Q : VK, Q k H → r v w H Q) : Ev c Γ (tOp r ta tb) (.im z) :=
  ev_op ha hb fun B R0 R H ρ Δ σ v w S rv rw Q q => by
    obtain ⟨k, h1, h2⟩ := hr R H v w (sx_same S) rv rw
    exact h2 Q (q k R H (sx_push S h1))
section
variable {i j : Int}
theorem ev_add (ha : Ev c Γ ta (.im i)) (hb : Ev c Γ tb (.im j)) : Ev c Γ (tOp gAdd ta tb) (.im (i + j)) := ev_opv ha hb fun R H v w _ rv rw => ⟨.int (i + j), rfl, fun Q q => .inl ⟨i, j, rv, rw, q⟩⟩
theorem ev_sub (ha : Ev c Γ ta (.im i)) (hb : Ev c Γ tb (.im j)) : Ev c Γ (tOp gMns ta tb) (.im (i - j)) := ev_opv ha hb fun R H v w _ rv rw => ⟨.int (i - j), rfl, fun Q q => ⟨i, j, rv, rw, q⟩⟩
theorem ev_mul (ha : Ev c Γ ta (.im i)) (hb : Ev c Γ tb (.im j)) (h : CMulW i j) : Ev c Γ (tOp gMul ta tb) (.im (i * j)) := ev_opv ha hb fun R H v w _ rv rw => ⟨.int (i * j), rfl, fun Q q => .inl ⟨i, j, rv, rw, h, q⟩⟩
theorem ev_mod (ha : Ev c Γ ta (.im i)) (hb : Ev c Γ tb (.im j)) (h : 0 < j) : Ev c Γ (tOp gMod ta tb) (.im (i % j)) := ev_opv ha hb fun R H v w _ rv rw => ⟨.int (i % j), rfl, fun Q q => ⟨i, j, rv, rw, by omega, by show Q (.int (i.fmod j)) H; rw [Int.fmod_eq_emod_of_nonneg _ (by omega)]; exact q⟩⟩
theorem ev_div (ha : Ev c Γ ta (.im i)) (hb : Ev c Γ tb (.im j)) (h : 0 < j) (h2 : j < 1073741824) : Ev c Γ (tOp gDiv ta tb) (.im (i / j)) := ev_opv ha hb fun R H v w _ rv rw => ⟨.int (i / j), rfl, fun Q q => .inl ⟨i, j, rv, rw, ⟨by omega, by omega⟩, by show Q (.int (i.fdiv j)) H; rw [Int.fdiv_eq_ediv_of_nonneg _ (by omega)]; exact q⟩⟩
theorem ev_pow (ha : Ev c Γ ta (.im i)) (hb : Ev c Γ tb (.im j)) (h : CPow i j) : Ev c Γ (tOp gPow ta tb) (.im (i ^ j.toNat)) := ev_opv ha hb fun R H v w _ rv rw => ⟨.int (i ^ j.toNat), rfl, fun Q q => ⟨i, j, rv, rw, h, q⟩⟩
theorem ev_lt (ha : Ev c Γ ta (.im i)) (hb : Ev c Γ tb (.im j)) : Ev c Γ (tOp gLt ta tb) (.im (decide (i < j))) := ev_opv ha hb fun R H v w _ rv rw => ⟨.bl _, rfl, fun Q q => ⟨i, j, rv, rw, q⟩⟩
theorem ev_le (ha : Ev c Γ ta (.im i)) (hb : Ev c Γ tb (.im j)) : Ev c Γ (tOp gLe ta tb) (.im (decide (i ≤ j))) := ev_opv ha hb fun R H v w _ rv rw => ⟨.bl _, rfl, fun Q q => ⟨i, j, rv, rw, q⟩⟩
theorem ev_gt (ha : Ev c Γ ta (.im i)) (hb : Ev c Γ tb (.im j)) : Ev c Γ (tOp gGt ta tb) (.im (decide (j < i))) := ev_opv ha hb fun R H v w _ rv rw => ⟨.bl _, rfl, fun Q q => ⟨i, j, rv, rw, q⟩⟩
theorem ev_ge (ha : Ev c Γ ta (.im i)) (hb : Ev c Γ tb (.im j)) : Ev c Γ (tOp gGe ta tb) (.im (decide (j ≤ i))) := ev_opv ha hb fun R H v w _ rv rw => ⟨.bl _, rfl, fun Q q => ⟨i, j, rv, rw, q⟩⟩
theorem int_eq_iff {i j : Int} : decide (V.int i = V.int j) = decide (i = j) := by
  by_cases h : i = j
  · subst h; simp
  · have : ¬ V.int i = V.int j := fun z => h (V.int.inj z)
    simp [h, this]
theorem ev_eqI (ha : Ev c Γ ta (.im i)) (hb : Ev c Γ tb (.im j)) : Ev c Γ (tOp (gEq c.Z.K) ta tb) (.im (decide (i = j))) := ev_opv ha hb fun R H v w _ rv rw => ⟨.bl _, rfl, fun Q q => by
  have rv' : v = .int i := rv
  have rw' : w = .int j := rw
  subst rv' rw'
  exact .inl ⟨rfl, by rw [int_eq_iff]; exact q⟩⟩
theorem ev_neI (ha : Ev c Γ ta (.im i)) (hb : Ev c Γ tb (.im j)) : Ev c Γ (tOp (gNe c.Z.K) ta tb) (.im (!decide (i = j))) := ev_opv ha hb fun R H v w _ rv rw => ⟨.bl _, rfl, fun Q q => by
  have rv' : v = .int i := rv
  have rw' : w = .int j := rw
  subst rv' rw'
  exact .inl ⟨rfl, by rw [int_eq_iff]; exact q⟩⟩
theorem ev_neg (ha : Ev c Γ ta (.im i)) : Ev c Γ (tUn uNeg ta) (.im (-i)) := fun B R0 R H ρ Δ σ S Q q xk => ha B R0 R H ρ Δ σ S _ (fun v R1 H1 S1 => by
  have rv : v = .int i := sx_top' S1
  exact ⟨i, rv, q _ R1 H1 (sx_push (sx_pop S1) rfl)⟩) xk
end
theorem ev_isN {d : α} (ha : Ev c Γ ta (.im d)) (b : Bool) (hb : ∀ R v, Rp.rp c.Z R v d → decide (v = .non) = b) : Ev c Γ (tOp gIs ta (tC .non)) (.im b) := fun B R0 R H ρ Δ σ S Q q xk => ha B R0 R H ρ Δ σ S _ (fun v R1 H1 S1 =>
  ⟨rfl, q _ R1 H1 (sx_push (sx_pop S1) (congrArg V.bl (hb R1 v (sx_top' S1))))⟩) xk
/-! lists -/
theorem ev_ix {xs : List α} {i : Int} (ha : Ev c Γ ta (.im xs)) (hb : Ev c Γ tb (.im i)) (h0 : 0 ≤ i) (h1 : i < xs.length) : Ev c Γ (tOp (gIx c.Z.K) ta tb) (.im (gt xs i)) := ev_opv ha hb fun R H v w sm rv rw => by
  obtain ⟨a, vs, rfl, ha, hp⟩ := rv
  obtain ⟨k, hk, rk⟩ := paired_get hp (gt_some h0 h1)
  exact ⟨k, rk, fun Q q => .inl ⟨a, vs, i, k, rfl, rw, SqL.of (sm _ _ ha), atI_of h0 (by rw [Paired.length hp]; exact h1) hk, q⟩⟩
/-- an own list's item -/
theorem ev_ixO {xs : List α} {k : Nat} {i : Int} (e : Γ[k]? = some (.ol xs)) (hb : Ev c Γ tb (.im i)) (h0 : 0 ≤ i) (h1 : i < xs.length) : Ev c Γ (tOp (gIx c.Z.K) (tVar k) tb) (.im (gt xs i)) := fun B R0 R H ρ Δ σ S Q q xk => by
  obtain ⟨p, vs, h2, _⟩ := sx_mutl S e
  refine ⟨.ref p, h2, hb B R0 R H ρ Δ σ S _ (fun w R1 H1 S1 => ?_) xk⟩
  have rw' : w = .int i := sx_top' S1
  obtain ⟨p', vs', h2', h3, h4, _⟩ := sx_mutl (sx_pop S1) e
  have ep : p = p' := by
    rw [h2] at h2'
    cases h2'
    rfl
  subst ep
  obtain ⟨v, hv, rv⟩ := paired_get h4 (gt_some h0 h1)
  exact .inl ⟨p, vs', i, v, rfl, rw', SqL.of h3, atI_of h0 (by rw [Paired.length h4]; exact h1) hv, q v R1 H1 (sx_push (sx_pop S1) rv)⟩
theorem ev_ixS {l : Scr} {i : Int} (ha : Ev c Γ ta (.im l)) (hb : Ev c Γ tb (.im i)) (h0 : 0 ≤ i) (h1 : i < l.l.length) : Ev c Γ (tOp (gIx c.Z.K) ta tb) (.im (gt l.l i)) := ev_opv ha hb fun R H v w sm rv rw => by
  obtain ⟨a, rfl, ha⟩ := rv
  refine ⟨.int (gt l.l i), rfl, fun Q q => .inl ⟨a, _, i, _, rfl, rw, sm.seq ha, atI_of h0 (by simpa using h1) ?_, q⟩⟩
  rw [List.getElem?_map, gt_some h0 h1]
  rfl
/-! tests -/
theorem et_test {b : Bool} (h : Ev c Γ te (.im b)) : EvT c Γ (tTest te) b := fun B R0 R H ρ Δ σ S Q q xk => h B R0 R H ρ Δ σ S _ (fun v R1 H1 S1 => ⟨b, sx_top' S1, q R1 H1 (sx_pop S1)⟩) xk
theorem et_B {b : Bool} (h : Ev c Γ te (.im b)) : EvT c Γ (tB te) b := fun B R0 R H ρ Δ σ S Q q xk => h B R0 R H ρ Δ σ S _ (fun v R1 H1 S1 => ⟨b, sx_top' S1, q R1 H1 (sx_pop S1)⟩) xk
theorem et_and {a b : Bool} (h1 : EvT c Γ t a) (h2 : a = true → EvT c Γ u b) : EvT c Γ (tAnd t u) (a && b) := fun B R0 R H ρ Δ σ S Q q xk => h1 B R0 R H ρ Δ σ S _ (fun R1 H1 S1 => by
  cases a with
  | true => exact h2 rfl B R0 R1 H1 ρ Δ σ S1 Q q xk
  | false => exact q R1 H1 S1) xk
theorem et_or {a b : Bool} (h1 : EvT c Γ t a) (h2 : a = false → EvT c Γ u b) : EvT c Γ (tOr t u) (a || b) := fun B R0 R H ρ Δ σ S Q q xk => h1 B R0 R H ρ Δ σ S _ (fun R1 H1 S1 => by
  cases a with
  | true => exact q R1 H1 S1
  | false => exact h2 rfl B R0 R1 H1 ρ Δ σ S1 Q q xk) xk
theorem et_not {a : Bool} (h1 : EvT c Γ t a) : EvT c Γ (tNot t) (!a) := fun B R0 R H ρ Δ σ S Q q xk => h1 B R0 R H ρ Δ σ S _ (fun R1 H1 S1 => q R1 H1 S1) xk
theorem et_yes : EvT c Γ tYes true := fun B R0 R H ρ Δ σ S Q q _ => q R H S
theorem ev_andV {a b : Bool} (h1 : Ev c Γ ta (.im a)) (h2 : a = true → Ev c Γ tb (.im b)) : Ev c Γ (tAndV ta tb) (.im (a && b)) := fun B R0 R H ρ Δ σ S Q q xk => h1 B R0 R H ρ Δ σ S _ (fun v R1 H1 S1 => ⟨a, sx_top' S1, by
  cases a with
  | true => exact h2 rfl B R0 R1 H1 ρ Δ σ (sx_pop S1) Q q xk
  | false => exact q _ R1 H1 (sx_push (sx_pop S1) rfl)⟩) xk
theorem ev_orV {a b : Bool} (h1 : Ev c Γ ta (.im a)) (h2 : a = false → Ev c Γ tb (.im b)) : Ev c Γ (tOrV ta tb) (.im (a || b)) := fun B R0 R H ρ Δ σ S Q q xk => h1 B R0 R H ρ Δ σ S _ (fun v R1 H1 S1 => ⟨a, sx_top' S1, by
  cases a with
  | true => exact q _ R1 H1 (sx_push (sx_pop S1) rfl)
  | false => exact h2 rfl B R0 R1 H1 ρ Δ σ (sx_pop S1) Q q xk⟩) xk
theorem ev_notV {a : Bool} (h1 : Ev c Γ ta (.im a)) : Ev c Γ (tNotV ta) (.im (!a)) := fun B R0 R H ρ Δ σ S Q q xk => h1 B R0 R H ρ Δ σ S _ (fun v R1 H1 S1 => ⟨a, sx_top' S1, q _ R1 H1 (sx_push (sx_pop S1) rfl)⟩) xk
/-! arguments, displays, calls -/
theorem ea_nil : EvA c Γ tNil [] := fun B R0 R H ρ Δ σ S Q q _ => q [] R H S .nil
theorem ea_cons {d : α} {tr : TA} {ss : List Sl} (h : Ev c Γ te (.im d)) (hr : EvA c Γ tr ss) : EvA c Γ (tCons te tr) (.im d :: ss) := fun B R0 R H ρ Δ σ S Q q xk => h B R0 R H ρ Δ σ S _ (fun v R1 H1 S1 =>
  hr B R0 R1 H1 _ _ σ S1 _ (fun vs R2 H2 S2 sl => q (v :: vs) R2 H2 (sx_pop S2) (.cons (sx_top' S2) sl)) xk.push1) xk
theorem slims_append {Z : Zz} {R : Hp} {vs ws : List V} {ss rs : List Sl} (h : Slims Z R vs ss) (h' : Slims Z R ws rs) : Slims Z R (vs ++ ws) (ss ++ rs) := by
  induction h with
  | nil => exact h'
  | cons r t ih => exact .cons r ih
theorem slims_list {Z : Zz} {R : Hp} : ∀ {xs : List α} {vs : List V}, Slims Z R vs (xs.map fun x => .im x) → Paired (Rp.rp Z R) vs xs
  | [], _, h => by cases h; exact .nil
  | x :: xs, _, h => by
    cases h with
    | cons r t => exact Paired.cons r (slims_list t)
/-- a written list, of like items -/
theorem ev_lst {t : TA} (xs : List α) (h : EvA c Γ t (xs.map fun x => .im x)) (hl : xs.length ≤ 1000) : Ev c Γ (tLst t) (.ol xs) := fun B R0 R H ρ Δ σ S Q q xk => h B R0 R H ρ Δ σ S _ (fun vs R1 H1 S1 sl => by
  have hp := slims_list sl
  refine ⟨Nat.le_of_lt (small1000 (by rw [Paired.length hp]; exact hl)), fun p np => q _ R1 _ (sx_newl S1 np hp)⟩) xk
theorem ev_nil {δ : Type} [Rp δ] : Ev c Γ (tLst tNil) (.ol ([] : List δ)) := ev_lst [] ea_nil (by simp)
/-- a built-in of one argument, its answer a datum -/
theorem ev_cb1 {r : List V → Hp → VK → Prop} {x : α} {z : γ} (ha : Ev c Γ ta (.im x)) (hr : ∀ R H v, Same R H → Rp.rp c.Z R v x → ∃ k, Rp.rp c.Z R k z ∧ ∀ Q : VK, Q k H → r [v] H Q) : Ev c Γ (tCB r (tCons ta tNil)) (.im z) :=
  fun B R0 R H ρ Δ σ S Q q xk => ha B R0 R H ρ Δ σ S _ (fun v R1 H1 S1 => by
    obtain ⟨k, h1, h2⟩ := hr R1 H1 v (sx_same S1) (sx_top' S1)
    exact h2 Q (q k R1 H1 (sx_push (sx_pop S1) h1))) xk
theorem ev_cb2 {r : List V → Hp → VK → Prop} {x : α} {y : β} {z : γ} (ha : Ev c Γ ta (.im x)) (hb : Ev c Γ tb (.im y)) (hr : ∀ R H v w, Same R H → Rp.rp c.Z R v x → Rp.rp c.Z R w y → ∃ k, Rp.rp c.Z R k z ∧ ∀ Q : VK, Q k H → r [v, w] H Q) : Ev c Γ (tCB r (tCons ta (tCons tb tNil))) (.im z) :=
  fun B R0 R H ρ Δ σ S Q q xk => ha B R0 R H ρ Δ σ S _ (fun v R1 H1 S1 => hb B R0 R1 H1 _ _ σ S1 _ (fun w R2 H2 S2 => by
    obtain ⟨k, h1, h2⟩ := hr R2 H2 v w (sx_same S2) (sx_top' (sx_pop S2)) (sx_top' S2)
    exact h2 Q (q k R2 H2 (sx_push (sx_pop (sx_pop S2)) h1))) xk.push1) xk
/-- .. its answer a new list -/
theorem ev_cbL {r : List V → Hp → VK → Prop} {x : α} {zs : List γ} (ha : Ev c Γ ta (.im x)) (hr : ∀ R H v, Same R H → Rp.rp c.Z R v x → ∀ Q : VK, (∀ ks p, Paired (Rp.rp c.Z R) ks zs → H p = none → Q (.ref p) (upd H p (.lst ks))) → r [v] H Q) : Ev c Γ (tCB r (tCons ta tNil)) (.ol zs) :=
  fun B R0 R H ρ Δ σ S Q q xk => ha B R0 R H ρ Δ σ S _ (fun v R1 H1 S1 => hr R1 H1 v (sx_same S1) (sx_top' S1) Q fun ks p hp np => q _ R1 _ (sx_newl (sx_pop S1) np hp)) xk
noncomputable def gLen (K : PySem.W.Frag) : List V → Hp → VK → Prop := fun xs H Q => ∃ x n, xs = [x] ∧ LenV K x H n ∧ Q (.int n) H
noncomputable def gList (K : PySem.W.Frag) : List V → Hp → VK → Prop := fun xs H Q => ∃ p ys, xs = [.ref p] ∧ (SqL K H p ys ∨ SqT K H p ys) ∧ ∀ l, H l = none → Q (.ref l) (upd H l (.lst ys))
theorem gc_len {X : Cx} : CallR X (.builtin "len") (gLen X.K) := call_len
theorem gc_list {X : Cx} : CallR X (.type "list") (gList X.K) := call_list_of
theorem ev_len {xs : List α} (ha : Ev c Γ ta (.im xs)) : Ev c Γ (tCB (gLen c.Z.K) (tCons ta tNil)) (.im (xs.length : Int)) := ev_cb1 ha fun R H v sm rv => by
  obtain ⟨a, vs, rfl, ha, hp⟩ := rv
  exact ⟨_, rfl, fun Q q => ⟨_, vs.length, rfl, .inl ⟨vs, SqL.of (sm _ _ ha), rfl⟩, by rw [Paired.length hp]; exact q⟩⟩
theorem ev_lenS {l : Scr} (ha : Ev c Γ ta (.im l)) : Ev c Γ (tCB (gLen c.Z.K) (tCons ta tNil)) (.im (l.l.length : Int)) := ev_cb1 ha fun R H v sm rv => by
  obtain ⟨a, rfl, ha⟩ := rv
  exact ⟨_, rfl, fun Q q => ⟨_, l.l.length, rfl, .inl ⟨_, sm.seq ha, by rw [List.length_map]⟩, q⟩⟩
theorem ev_lenO {xs : List α} {k : Nat} (e : Γ[k]? = some (.ol xs)) : Ev c Γ (tCB (gLen c.Z.K) (tCons (tVar k) tNil)) (.im (xs.length : Int)) := fun B R0 R H ρ Δ σ S Q q xk => by
  obtain ⟨p, vs, h2, h3, h4, _⟩ := sx_mutl S e
  exact ⟨.ref p, h2, _, vs.length, rfl, .inl ⟨vs, SqL.of h3, rfl⟩, q _ R H (sx_push S (by rw [Paired.length h4]; rfl))⟩
theorem ev_list {xs : List α} (ha : Ev c Γ ta (.im xs)) : Ev c Γ (tCB (gList c.Z.K) (tCons ta tNil)) (.ol xs) := ev_cbL ha fun R H v sm rv Q q => by
  obtain ⟨a, vs, rfl, ha, hp⟩ := rv
  exact ⟨a, vs, rfl, .inl (SqL.of (sm _ _ ha)), fun l hl => q vs l hp hl⟩
theorem ev_listO {xs : List α} {k : Nat} (e : Γ[k]? = some (.ol xs)) : Ev c Γ (tCB (gList c.Z.K) (tCons (tVar k) tNil)) (.ol xs) := fun B R0 R H ρ Δ σ S Q q xk => by
  obtain ⟨p, vs, h2, h3, h4, _⟩ := sx_mutl S e
  exact ⟨.ref p, h2, p, vs, rfl, .inl (SqL.of h3), fun l hl => q _ R _ (sx_newl S hl h4)⟩
theorem ev_all {bs : List Bool} {K : PySem.W.Frag} (hK : K = c.Z.K) (ha : Ev c Γ ta (.im bs)) : Ev c Γ (tCB (rAll K) (tCons ta tNil)) (.im (bs.all id)) := hK ▸ ev_cb1 ha fun R H v sm rv => by
  obtain ⟨a, vs, rfl, ha, hp⟩ := rv
  exact ⟨_, rfl, fun Q q => ⟨a, bs, rfl, SqL.of (paired_map_bl hp ▸ sm _ _ ha), q⟩⟩
theorem ev_any {bs : List Bool} {K : PySem.W.Frag} (hK : K = c.Z.K) (ha : Ev c Γ ta (.im bs)) : Ev c Γ (tCB (rAny K) (tCons ta tNil)) (.im (bs.any id)) := hK ▸ ev_cb1 ha fun R H v sm rv => by
  obtain ⟨a, vs, rfl, ha, hp⟩ := rv
  exact ⟨_, rfl, fun Q q => ⟨a, bs, rfl, SqL.of (paired_map_bl hp ▸ sm _ _ ha), q⟩⟩
/-! own defs: T tells, of arguments, what may come of them -/
noncomputable abbrev Tm := List Sl → (Sl → Prop) → (Rf → Prop) → Prop
noncomputable def spOf (Z : Zz) (T : Tm) : Sp := fun vs H Q E => ∃ R ss ok er, Same R H ∧ Slims Z R vs ss ∧ T ss ok er ∧
  (∀ v R' H' s, Sx Z H R R' H' [some v] [s] [] [] → ok s → Q v H') ∧ ∀ r cls d H', Same H H' → RepEx Z H H' r cls d → er r → E cls d H'
theorem sx_call {Z : Zz} {B R0 R R' H H' : Hp} {ρ : List (Option V)} {Δ : List Sl} {σ : List (Option V)} {v : V} {s : Sl} (S : Sx Z B R0 R H ρ Δ σ Γ) (S2 : Sx Z H R R' H' [some v] [s] [] []) : Sx Z B R0 R' H' (some v :: ρ) (s :: Δ) σ Γ := by
  obtain ⟨hl, own, hs, es⟩ := S
  obtain ⟨_, own2, hs2, f, g, rfl, h1, h2⟩ := S2
  have hg : g = [] := h2
  subst hg
  rw [List.append_nil] at hs2
  have key : ∀ p ∈ own, R' p = none ∧ H' p = H p ∧ p ∉ f := fun p hp => by
    have h3 := es_some es p hp
    have h4 := hs.ow p hp
    obtain ⟨o, ho⟩ : ∃ o, H p = some o := by
      cases e : H p with
      | none => exact absurd e h3
      | some o => exact ⟨o, rfl⟩
    refine ⟨?_, ?_, fun hf => ?_⟩
    · cases e : R' p with
      | none => rfl
      | some o2 =>
        rcases hs2.nw p o2 e with q | q
        · rw [h4.1] at q; cases q
        · exact absurd q h3
    · rw [ho, hs2.bh p o ho]
    · exact h3 (hs2.ow p hf).2
  refine ⟨by simp [hl], f ++ own, ⟨hs2.rh, hs.bh.trans hs2.bh, hs.r0.trans hs2.r0, fun b o e => ?_, fun p hp => ?_, ?_⟩, f, own, rfl, h1, es_mono hs2.r0 (fun p hp => (key p hp).2.1) es⟩
  · rcases hs2.nw b o e with q | q
    · exact hs.nw b o q
    · exact .inr (hs.bh.free q)
  · rcases List.mem_append.mp hp with q | q
    · exact ⟨(hs2.ow p q).1, hs.bh.free (hs2.ow p q).2⟩
    · exact ⟨(key p q).1, (hs.ow p q).2⟩
  · rw [List.nodup_append]
    exact ⟨hs2.nd, hs.nd, fun a ha b hb e => (key b hb).2.2 (e ▸ ha)⟩
theorem sx_same_call {Z : Zz} {B R0 R H H' : Hp} {ρ : List (Option V)} {Δ : List Sl} {σ : List (Option V)} (S : Sx Z B R0 R H ρ Δ σ Γ) (e : Same H H') : Sx Z B R0 R H' ρ Δ σ Γ := by
  obtain ⟨hl, own, hs, es⟩ := S
  refine ⟨hl, own, ⟨hs.rh.trans e, hs.bh.trans e, hs.r0, hs.nw, hs.ow, hs.nd⟩, es_mono (Same.refl _) (fun p hp => ?_) es⟩
  cases q : H p with
  | none => exact absurd q (es_some es p hp)
  | some o => exact e p o q
/-- a call's refusal, its dict frozen -/
theorem sx_callX {Z : Zz} {B R0 R H H' : Hp} {ρ : List (Option V)} {Δ : List Sl} {σ : List (Option V)} {r : Rf} {cls : Value} {d : Option Addr} (S : Sx Z B R0 R H ρ Δ σ Γ) (e : Same H H') (rx : RepEx Z H H' r cls d) : ∃ R', Same R R' ∧ Sx Z B R0 R' H' ρ Δ σ Γ ∧ RepEx Z B R' r cls d := by
  obtain ⟨h1, h2 | ⟨h2, dx, h3, h4, h5⟩⟩ := rx
  · exact ⟨R, Same.refl _, sx_same_call S e, h1, .inl h2⟩
  · have hr := (sx_same S).free h4
    refine ⟨upd R dx (.xd r.fs), same_upd hr, sx_pop (sx_call S (s := .un) (v := .non) ⟨rfl, [], ⟨fun b o q => ?_, e, same_upd hr, fun b o q => ?_, fun p hp => by simp at hp, List.nodup_nil⟩, [], [], rfl, rfl, rfl⟩), h1, .inr ⟨h2, dx, h3, (sx_base S).free h4, upd_same⟩⟩
    · by_cases c : b = dx
      · subst c
        rw [upd_same] at q
        rw [h5]
        exact q
      · rw [upd_ne c] at q
        exact e _ _ (sx_same S _ _ q)
    · by_cases c : b = dx
      · subst c
        exact .inr h4
      · rw [upd_ne c] at q
        exact .inl q
theorem ev_call {T : Tm} {dvs : List V} {ds : List Sl} {t : TA} {ss : List Sl} (ha : EvA c Γ t ss) (hd : ∀ R, Slims c.Z R dvs ds) (hT : T (ss ++ ds) (fun s' => s' = s) fun r => c.ex r Γ) : Ev c Γ (tCallSD (spOf c.Z T) dvs (WE c.X) t) s := fun B R0 R H ρ Δ σ S Q q xk => ha B R0 R H ρ Δ σ S _ (fun vs R1 H1 S1 sl => by
  refine ⟨R1, ss ++ ds, _, _, sx_same S1, slims_append sl (hd R1), hT, fun v R' H' s' S' e => ?_, fun r cls d H' e rx er => ?_⟩
  · subst e
    exact q v R' H' (sx_call S1 S')
  · obtain ⟨R2, _, S2, rx2⟩ := sx_callX S1 e rx
    exact xk R2 H' σ Γ r cls d S2 rx2 er) xk
/-- a call that raises nothing, within a comprehension -/
theorem ev_call0 {T : Tm} {dvs : List V} {ds : List Sl} {t : TA} {ss : List Sl} (ha : EvA c Γ t ss) (hd : ∀ R, Slims c.Z R dvs ds) (hT : T (ss ++ ds) (fun s' => s' = s) fun _ => False) : Ev c Γ (tCall (spOf c.Z T) dvs E0 t) s := fun B R0 R H ρ Δ σ S Q q xk => ha B R0 R H ρ Δ σ S _ (fun vs R1 H1 S1 sl => by
  refine ⟨R1, ss ++ ds, _, _, sx_same S1, slims_append sl (hd R1), hT, fun v R' H' s' S' e => ?_, fun r cls d H' e rx er => er.elim⟩
  · subst e
    exact q v R' H' (sx_call S1 S')) xk
/-- what a def's body must show -/
theorem spOf_run {Z : Zz} {T : Tm} {N : List Str} {t : XK → TS} (hN : ∀ ss ok er, T ss ok er → ss.length ≤ N.length)
    (h : ∀ E ss ok er, T ss ok er → W ⟨Z, fun cls d _ H => E cls d H, fun r _ => er r⟩ (ss ++ List.replicate (N.length - ss.length) .un) (t E) ⟨fun _ => ok (.im ()), ok, fun _ => False, fun _ => False⟩)
    (vs : List V) (H : Hp) (Q : VK) (E : XK) (hs : spOf Z T vs H Q E) : t E { nx := fun _ H' => Q .non H', rt := Q } (L2.start N vs) H := by
  obtain ⟨R, ss, ok, er, sm, sl, hT, kq, ke⟩ := hs
  have es0 : ∀ (n : Nat), Es Z R H (List.replicate n none) (List.replicate n .un) [] := fun n => by
    induction n with
    | zero => exact rfl
    | succ n ih => exact ⟨[], [], rfl, rfl, ih⟩
  have hlen : vs.length = ss.length := by
    clear hT kq
    induction sl with
    | nil => rfl
    | cons r t ih => simp [ih]
  have es : Es Z R H (L2.start N vs) (ss ++ List.replicate (N.length - ss.length) .un) [] := by
    unfold L2.start
    rw [hlen]
    generalize N.length - ss.length = n
    clear hT kq hlen
    induction sl with
    | nil => exact es0 n
    | cons r t ih => exact ⟨[], [], rfl, ⟨rfl, _, rfl, r⟩, ih⟩
  refine h E ss ok er hT H R R H [] [] (L2.start N vs) _ ⟨rfl, [], ⟨sm, Same.refl _, Same.refl _, fun b o e => .inl e, fun p hp => by simp at hp, List.nodup_nil⟩, es⟩ (fun R' H' σ' Γ' S' ok' => ?_) (fun R' H' v s S' ok' => kq v R' H' s S' ok') (fun _ _ _ _ _ z => z.elim) (fun _ _ _ _ _ z => z.elim) (fun R' H' σ' Γ' r cls d S' rx er' => ?_)
  · exact kq .non R' H' (.im ()) (sx_push (sx_leave S') rfl) ok'
  · exact ke r cls d H' (sx_base S') (rx.mono (sx_same S')) er'
end TB

/-! TbS: the rules of statements, walks and comprehensions. -/
namespace TB
open PySem L2
variable {c : Cn} {Γ : List Sl} {ta tb te tl : TE} {tt tc : TT} {t u : TS} {s : Sl} {α β γ : Type} {_ : Rp α} {_ : Rp β} {_ : Rp γ} {P P' : Po}

theorem W.imp (h : W c Γ t P) (h1 : ∀ G, P.nx G → P'.nx G) (h2 : ∀ s, P.rt s → P'.rt s) (h3 : ∀ G, P.bk G → P'.bk G) (h4 : ∀ G, P.ct G → P'.ct G) : W c Γ t P' := fun B R0 R H ρ Δ σ D S n r b k x =>
  h B R0 R H ρ Δ σ D S (fun R' H' σ' Γ' S' q => n R' H' σ' Γ' S' (h1 _ q)) (fun R' H' v s S' q => r R' H' v s S' (h2 _ q)) (fun R' H' σ' Γ' S' q => b R' H' σ' Γ' S' (h3 _ q)) (fun R' H' σ' Γ' S' q => k R' H' σ' Γ' S' (h4 _ q)) x
theorem w_seq (h : W c Γ t ⟨fun G => W c G u P, P.rt, P.bk, P.ct⟩) : W c Γ (tSeq t u) P := fun B R0 R H ρ Δ σ D S n r b k x =>
  h B R0 R H ρ Δ σ { D with nx := u D } S (fun R' H' σ' Γ' S' q => q B R0 R' H' ρ Δ σ' D S' n r b k x) r b k x
theorem w_asg {i : Nat} (h : Ev c Γ te s) (k : P.nx (Γ.set i s)) : W c Γ (tAsg te (gName i)) P := fun B R0 R H ρ Δ σ D S n r b kk x =>
  h B R0 R H ρ Δ σ S _ (fun v R1 H1 S1 => n R1 H1 _ _ (sx_asg S1 i) k) x
theorem w_if {b : Bool} (h : EvT c Γ tc b) (h1 : b = true → W c Γ t P) (h2 : b = false → W c Γ u P) : W c Γ (tIfS tc t u) P := fun B R0 R H ρ Δ σ D S n r bk kk x =>
  h B R0 R H ρ Δ σ S _ (fun R1 H1 S1 => by
    cases b with
    | true => exact h1 rfl B R0 R1 H1 ρ Δ σ D S1 n r bk kk x
    | false => exact h2 rfl B R0 R1 H1 ρ Δ σ D S1 n r bk kk x) x
theorem w_ret (h : Ev c Γ te s) (k : P.rt s) : W c Γ (tRet te) P := fun B R0 R H ρ Δ σ D S n r b kk x =>
  h B R0 R H ρ Δ σ S _ (fun v R1 H1 S1 => r R1 H1 v s (sx_leave S1) k) x
theorem w_next (k : P.nx Γ) : W c Γ tNext P := fun B R0 R H ρ Δ σ D S n r b kk x => n R H σ Γ S k
/-- slot i, an own list, is frozen from here on; a slot is forgotten -/
theorem w_fr {xs : List α} (i : Nat) (e : Γ[i]? = some (.ol xs)) (h : W c (Γ.set i (.im xs)) t P) : W c Γ t P := fun B R0 R H ρ Δ σ D S n r b kk x => by
  obtain ⟨R', _, S'⟩ := sx_frl S e
  exact h B R0 R' H ρ Δ σ D S' n r b kk x
theorem w_un (i : Nat) (h : W c (Γ.set i .un) t P) : W c Γ t P := fun B R0 R H ρ Δ σ D S n r b kk x => h B R0 R H ρ Δ σ D (sx_forget S i) n r b kk x
/-! own lists -/
theorem tyL {K : PySem.W.Frag} {H : Hp} {p : Addr} {vs : List V} (h : H p = some (.lst vs)) : tyV K "list" (.ref p) H := .inl ⟨rfl, vs, SqL.of h⟩
theorem w_app {i : Nat} {xs : List α} {y : α} (e : Γ[i]? = some (.ol xs)) (h : Ev c Γ te (.im y)) (hl : xs.length < 1000000) (k : P.nx (Γ.set i (.ol (xs ++ [y])))) : W c Γ (tDrop (tBM c.Z.K "list" rAppend (tVar i) (tCons te tNil))) P := fun B R0 R H ρ Δ σ D S n r bb kk x => by
  obtain ⟨p, vs, h2, h3, h4, _⟩ := sx_mutl S e
  refine ⟨.ref p, h2, tyL h3, h B R0 R H ρ Δ σ S _ (fun w R1 H1 S1 => ?_) x⟩
  obtain ⟨p', vs', h2', h3', h4', h5⟩ := sx_mutl (sx_pop S1) e
  have ep : p = p' := by
    rw [h2] at h2'
    cases h2'
    rfl
  subst ep
  have hl' := Paired.length h4'
  refine ⟨p, vs', w, rfl, rfl, h3', Nat.lt_of_lt_of_le (by omega : vs'.length < 1000000) (by decide), n R1 _ _ _ (h5 (vs' ++ [w]) (xs ++ [y]) (paired_append h4' (.cons (sx_top' S1) .nil))) k⟩
theorem ixN_of {n : Nat} {i : Int} (h0 : 0 ≤ i) (h1 : i < n) : ixN n i = some i.toNat := by
  unfold ixN
  rw [if_pos h0, if_pos h1]
/-! walks -/
theorem wipe_set {σ : St} {j : Nat} {v : Option V} {vs : List Nat} (h : j ∈ vs) : wipe (σ.set j v) vs = wipe σ vs := by
  have key : ∀ (vs : List Nat) (i : Nat), (wipe (σ.set j v) vs)[i]? = if i ∈ vs then (if i < σ.length then some none else none) else (σ.set j v)[i]? := by
    intro vs
    induction vs with
    | nil => intro i; simp [wipe]
    | cons a r ih =>
      intro i
      unfold wipe
      rw [List.getElem?_set, wipe_length, List.length_set, ih]
      by_cases h1 : a = i
      · subst h1; simp
      · have : i ≠ a := fun e => h1 e.symm
        simp [h1, this]
  have key2 : ∀ (vs : List Nat) (i : Nat), (wipe σ vs)[i]? = if i ∈ vs then (if i < σ.length then some none else none) else σ[i]? := by
    intro vs
    induction vs with
    | nil => intro i; simp [wipe]
    | cons a r ih =>
      intro i
      unfold wipe
      rw [List.getElem?_set, wipe_length, ih]
      by_cases h1 : a = i
      · subst h1; simp
      · have : i ≠ a := fun e => h1 e.symm
        simp [h1, this]
  apply List.ext_getElem?
  intro i
  rw [key, key2]
  by_cases hi : i ∈ vs
  · simp [hi]
  · have : j ≠ i := fun e => hi (e ▸ h)
    simp [hi, List.getElem?_set, this]
theorem wipeG_len (Γ : List Sl) : ∀ vs : List Nat, (wipeG Γ vs).length = Γ.length
  | [] => rfl
  | v :: vs => by unfold wipeG; rw [List.length_set, wipeG_len Γ vs]
theorem wipeG_get (Γ : List Sl) : ∀ (vs : List Nat) (i : Nat), (wipeG Γ vs)[i]? = if i ∈ vs then (if i < Γ.length then some .un else none) else Γ[i]? := by
  intro vs
  induction vs with
  | nil => intro i; simp [wipeG]
  | cons a r ih =>
    intro i
    unfold wipeG
    rw [List.getElem?_set, wipeG_len, ih]
    by_cases h1 : a = i
    · subst h1; simp
    · have : i ≠ a := fun e => h1 e.symm
      simp [h1, this]
theorem wipeG_set {Γ : List Sl} {j : Nat} {v : Sl} {vs : List Nat} (h : j ∈ vs) : wipeG (Γ.set j v) vs = wipeG Γ vs := by
  apply List.ext_getElem?
  intro i
  rw [wipeG_get, wipeG_get, List.length_set]
  by_cases hi : i ∈ vs
  · simp [hi]
  · have : j ≠ i := fun e => hi (e ▸ h)
    simp [hi, List.getElem?_set, this]
theorem unAt_mem {Γ : List Sl} : ∀ {vs : List Nat}, UnAt Γ vs → ∀ v ∈ vs, Γ[v]? = some .un ∨ Γ.length ≤ v
  | [], _, v, hv => by simp at hv
  | a :: r, h, v, hv => by
    rcases List.mem_cons.mp hv with e | e
    · rw [e]; exact h.1
    · exact unAt_mem h.2 v e
theorem wipeG_un {Γ : List Sl} {vs : List Nat} (h : UnAt Γ vs) : wipeG Γ vs = Γ := by
  apply List.ext_getElem?
  intro i
  rw [wipeG_get]
  by_cases hi : i ∈ vs
  · rw [if_pos hi]
    rcases unAt_mem h i hi with e | e
    · rw [e, if_pos (by obtain ⟨h, _⟩ := List.getElem?_eq_some_iff.mp e; exact h)]
    · rw [if_neg (by omega), List.getElem?_eq_none e]
  · rw [if_neg hi]
theorem wipe_wipe (σ : St) (vs : List Nat) : wipe (wipe σ vs) vs = wipe σ vs := by
  have key : ∀ (us : List Nat), (∀ u ∈ us, u ∈ vs) → wipe (wipe σ us) vs = wipe σ vs := by
    intro us
    induction us with
    | nil => intro _; rfl
    | cons a r ih =>
      intro h
      show wipe ((wipe σ r).set a none) vs = wipe σ vs
      rw [wipe_set (h a List.mem_cons_self)]
      exact ih fun u hu => h u (List.mem_cons_of_mem _ hu)
  exact key vs fun _ h => h
theorem sx_unwipe {Z : Zz} {B R0 R H : Hp} {ρ : List (Option V)} {Δ : List Sl} {σ : List (Option V)} : ∀ {vs : List Nat}, UnAt Γ vs → Sx Z B R0 R H ρ Δ (wipe σ vs) Γ → Sx Z B R0 R H ρ Δ σ Γ
  | [], _, S => S
  | v :: vs, h, S => by
    refine sx_unwipe h.2 ?_
    have S' : Sx Z B R0 R H ρ Δ ((wipe σ vs).set v none) Γ := S
    have e3 : Γ.set v .un = Γ := by
      apply List.ext_getElem?
      intro i
      rw [List.getElem?_set]
      by_cases hi : v = i
      · subst hi
        rcases h.1 with e | e
        · rw [if_pos rfl, e, if_pos (by obtain ⟨h, _⟩ := List.getElem?_eq_some_iff.mp e; exact h)]
        · rw [if_pos rfl, if_neg (by omega), List.getElem?_eq_none e]
      · rw [if_neg hi]
    by_cases hv : v < (wipe σ vs).length
    · have q := sx_forgets S' v (wipe σ vs)[v]
      rw [e3, List.set_set, List.set_getElem_self] at q
      exact q
    · rw [List.set_eq_of_length_le (by omega)] at S'
      exact S'
/-- over a list of data -/
theorem ei_list {xs : List α} {j : Nat} (h : Ev c Γ tl (.im xs)) : EvI c Γ (iList c.Z.K tl) (gName j) xs.length (fun i G => G.set j (.im (xs.getD i Rp.df))) [j] := fun B R0 R H ρ Δ σ S K k x =>
  h B R0 R H ρ Δ σ S _ (fun v R1 H1 S1 => by
    have rv := sx_top' S1
    obtain ⟨a, vs, rfl, ha, hp⟩ := id rv
    refine ⟨a, rfl, ⟨vs, SqL.of (sx_same S1 _ _ ha)⟩, k (Itl c.Z.K a) R1 H1 [some (.ref a)] [.im xs] rfl S1 ⟨fun i G vs3 hj => wipeG_set (hj j (by simp)), fun {R2 H2 ρx Δx σ2 Γ2 i} hx S2 hi => ?_, fun {R2 H2 ρx Δx σ2 Γ2} hx S2 => ?_, fun {R2 H2 ρx Δx σ2 Γ2 i y H'} hx S2 hi hy K' kk => ?_⟩⟩
    · obtain ⟨a2, vs2, e2, ha2, hp2⟩ := sx_top' (sx_drop hx S2)
      cases e2
      obtain ⟨w, hw, _⟩ := paired_get hp2 (b := xs[i]) (i := i) (by simp [hi])
      exact ⟨vs2, w, SqL.of (sx_same S2 _ _ ha2), hw⟩
    · obtain ⟨a2, vs2, e2, ha2, hp2⟩ := sx_top' (sx_drop hx S2)
      cases e2
      exact ⟨vs2, SqL.of (sx_same S2 _ _ ha2), by rw [Paired.length hp2]; exact Nat.le_refl _⟩
    · obtain ⟨a2, vs2, e2, ha2, hp2⟩ := sx_top' (sx_drop hx S2)
      cases e2
      obtain ⟨eH, hy⟩ := hy
      subst eH
      have hy' := hy vs2 (SqL.of (sx_same S2 _ _ ha2))
      obtain ⟨b, hb, rb⟩ := paired_getL hp2 hy'
      refine kk R2 _ H' (sx_asg (sx_push S2 (d := xs.getD i Rp.df) ?_) j) fun vs3 hj => wipe_set (hj j (by simp))
      have : xs.getD i Rp.df = b := by rw [List.getD_eq_getElem?_getD, hb]; rfl
      rw [this]
      exact rb) x
theorem ei_rng1 {j : Nat} {n : Int} (h : Ev c Γ te (.im n)) (hn : n < 2 ^ 60) (hn0 : -(2 ^ 60) < n) : EvI c Γ (iRng1 (tCons te tNil)) (gName j) n.toNat (fun i G => G.set j (.im (i : Int))) [j] := fun B R0 R H ρ Δ σ S K k x =>
  h B R0 R H ρ Δ σ S _ (fun v R1 H1 S1 => by
    have rv : v = .int n := sx_top' S1
    subst rv
    refine ⟨n, rfl, by omega, by omega, k (Itr 0 n.toNat) R1 H1 [] [] rfl (sx_pop S1) ⟨fun i G vs3 hj => wipeG_set (hj j (by simp)), fun _ _ hi => hi, fun _ _ => Nat.le_refl _, fun {R2 H2 ρx Δx σ2 Γ2 i y H'} hx S2 hi hy K' kk => ?_⟩⟩
    obtain ⟨rfl, rfl⟩ := hy
    exact kk R2 _ _ (sx_asg (sx_push S2 (show Rp.rp c.Z R2 (V.int (0 + (i : Int))) (i : Int) by rw [Int.zero_add]; rfl)) j) fun vs3 hj => wipe_set (hj j (by simp))) x
theorem ei_rng2 {j : Nat} {m n : Int} (h1 : Ev c Γ ta (.im m)) (h : Ev c Γ te (.im n)) (hm : -(2 ^ 60) < m ∧ m < 2 ^ 60) (hn : n < 2 ^ 60 ∧ -(2 ^ 60) < n) : EvI c Γ (iRng2 (tCons ta (tCons te tNil))) (gName j) (n - m).toNat (fun i G => G.set j (.im (m + (i : Int)))) [j] := fun B R0 R H ρ Δ σ S K k x =>
  h1 B R0 R H ρ Δ σ S _ (fun v0 R1 H1 S1 => h B R0 R1 H1 _ _ σ S1 _ (fun v R2 H2 S2 => by
    have rv0 : v0 = .int m := sx_top' (sx_pop S2)
    have rv : v = .int n := sx_top' S2
    subst rv rv0
    refine ⟨m, n, rfl, ⟨by omega, by omega, by omega, by omega⟩, k (Itr m (n - m).toNat) R2 H2 [] [] rfl (sx_pop (sx_pop S2)) ⟨fun i G vs3 hj => wipeG_set (hj j (by simp)), fun _ _ hi => hi, fun _ _ => Nat.le_refl _, fun {R2 H2 ρx Δx σ2 Γ2 i y H'} hx S2 hi hy K' kk => ?_⟩⟩
    obtain ⟨rfl, rfl⟩ := hy
    exact kk R2 _ _ (sx_asg (sx_push S2 (show Rp.rp c.Z R2 (V.int (m + (i : Int))) (m + (i : Int)) from rfl)) j) fun vs3 hj => wipe_set (hj j (by simp))) x.push1) x
theorem w_for {wi : TI} {g : TG} {n : Nat} {us : Nat → List Sl → List Sl} {js : List Nat} (I : Nat → List Sl → Prop) (hi : EvI c Γ wi g n us js) (h0 : I 0 Γ)
    (hs : ∀ i G, i < n → I i G → W c (us i G) t ⟨I (i + 1), P.rt, P.nx, I (i + 1)⟩) (hd : ∀ G, I n G → P.nx G) : W c Γ (tFor wi g t) P := fun B R0 R H ρ Δ σ D S nx r b kk x =>
  hi B R0 R H ρ Δ σ S _ (fun J R1 H1 ρ' Δ' hl S1 ok => by
    refine ⟨fun i m σ H => m = n - i ∧ i ≤ n ∧ ∃ R G, Sx c.Z B R0 R H (ρ' ++ ρ) (Δ' ++ Δ) σ G ∧ I i G, ⟨n, by simp, Nat.zero_le _, R1, Γ, S1, h0⟩, ?_⟩
    rintro i m σ2 H2 ⟨rfl, hin, R2, G, S2, hI⟩
    by_cases hlt : i < n
    · refine .inr ⟨ok.go (ρx := []) (Δx := []) rfl S2 hlt, fun σ' H' => ∃ R G, Sx c.Z B R0 R H' (ρ' ++ ρ) (Δ' ++ Δ) σ' G ∧ I (i + 1) G, fun σ' H' h => ⟨n - (i + 1), by omega, rfl, hlt, h⟩, fun y H' hy => ?_⟩
      refine ok.yld (ρx := []) (Δx := []) rfl S2 hlt hy _ fun R3 σ3 H3 S3 _ => ?_
      exact hs i G hlt hI B R0 R3 H3 (ρ' ++ ρ) (Δ' ++ Δ) σ3 _ S3 (fun R4 H4 σ4 Γ4 S4 q => ⟨R4, Γ4, S4, q⟩) (fun R4 H4 v s S4 q => r R4 H4 v s (sx_drop1 hl S4) q) (fun R4 H4 σ4 Γ4 S4 q => nx R4 H4 σ4 Γ4 (sx_drop hl S4) q) (fun R4 H4 σ4 Γ4 S4 q => ⟨R4, Γ4, S4, q⟩) (x.push hl)
    · have e : i = n := by omega
      subst e
      exact .inl ⟨ok.stop (ρx := []) (Δx := []) rfl S2, nx R2 H2 σ2 G (sx_drop hl S2) (hd G hI)⟩) x
/-! comprehensions -/
theorem take_snoc {α : Type} {l : List α} {i : Nat} (h : i < l.length) : l.take (i + 1) = l.take i ++ [l[i]] := by rw [List.take_succ, List.getElem?_eq_getElem h]; rfl
theorem sx_wipe {Z : Zz} {B R0 R H : Hp} {ρ : List (Option V)} {Δ : List Sl} {σ : List (Option V)} (S : Sx Z B R0 R H ρ Δ σ Γ) : ∀ vs : List Nat, Sx Z B R0 R H ρ Δ (wipe σ vs) (wipeG Γ vs)
  | [] => S
  | v :: vs => sx_forgets (sx_wipe S vs) v none
/-- the first i turns' items that are kept -/
noncomputable def kept {α : Type} (p : Nat → Bool) (f : Nat → α) (n : Nat) : List α := ((List.range n).filter p).map f
theorem kept_yes {α : Type} {p : Nat → Bool} {f : Nat → α} {n : Nat} (h : p n = true) : kept p f (n + 1) = kept p f n ++ [f n] := by
  unfold kept
  rw [List.range_succ, List.filter_append, List.map_append]
  simp [h]
theorem kept_no {α : Type} {p : Nat → Bool} {f : Nat → α} {n : Nat} (h : p n = false) : kept p f (n + 1) = kept p f n := by
  unfold kept
  rw [List.range_succ, List.filter_append, List.map_append]
  simp [h]
theorem kept_len {α : Type} (p : Nat → Bool) (f : Nat → α) (n : Nat) : (kept p f n).length ≤ n := by
  unfold kept
  rw [List.length_map]
  exact Nat.le_trans (List.length_filter_le _ _) (by simp)
theorem sx_swapTop {Z : Zz} {B R0 R H : Hp} {ρ : List (Option V)} {Δ : List Sl} {σ : List (Option V)} {o o' : Option V} {s s' : Sl} (S : Sx Z B R0 R H (o :: o' :: ρ) (s :: s' :: Δ) σ Γ) : Sx Z B R0 R H (o' :: o :: ρ) (s' :: s :: Δ) σ Γ := by
  obtain ⟨h, own, hs, f, g, rfl, h1, f2, g2, rfl, h2, h3⟩ := S
  refine ⟨by simpa using h, f2 ++ (f ++ g2), hs_sub hs (fun p hp => ?_) ?_, f2, f ++ g2, rfl, h2, f, g2, rfl, h1, h3⟩
  · simp only [List.mem_append] at hp ⊢
    grind
  · have nd := hs.nd
    simp only [List.nodup_append, List.mem_append] at nd ⊢
    grind
theorem ev_lc {wi : TI} {g : TG} {n : Nat} {us : Nat → List Sl → List Sl} {js vs : List Nat} (p : Nat → Bool) (f : Nat → α) (hi : EvI c Γ wi g n us js) (hn : n < 1000000) (hj : ∀ j ∈ js, j ∈ vs) (hu : UnAt Γ vs)
    (ht : ∀ i, i < n → EvT c.no (us i Γ) tt (p i)) (he : ∀ i, i < n → p i = true → Ev c.no (us i Γ) te (.im (f i))) : Ev c Γ (tLc wi g tt te vs) (.ol (kept p f n)) := fun B R0 R H ρ Δ σ S Q q x =>
  hi B R0 R H ρ Δ σ S _ (fun J R1 H1 ρ' Δ' hl S1 ok Dl hD => by
    refine ⟨fun i m H => m = n - i ∧ i ≤ n ∧ ∃ R, Sx c.Z B R0 R H (some (.ref Dl) :: (ρ' ++ ρ)) (.ol (kept p f i) :: (Δ' ++ Δ)) σ Γ, ⟨n, by simp, Nat.zero_le _, R1, sx_newl S1 hD .nil⟩, ?_⟩
    rintro i m H2 ⟨rfl, hin, R2, S2⟩
    by_cases hlt : i < n
    · refine .inr ⟨ok.go (ρx := [some (.ref Dl)]) (Δx := [.ol (kept p f i)]) rfl S2 hlt, fun H' => ∃ R, Sx c.Z B R0 R H' (some (.ref Dl) :: (ρ' ++ ρ)) (.ol (kept p f (i + 1)) :: (Δ' ++ Δ)) σ Γ, fun H' h => ⟨n - (i + 1), by omega, rfl, hlt, h⟩, fun y H' hy => ?_⟩
      have S2w := sx_wipe S2 vs
      rw [wipeG_un hu] at S2w
      refine ok.yld (ρx := [some (.ref Dl)]) (Δx := [.ol (kept p f i)]) rfl S2w hlt hy _ fun R3 σ3 H3 S3 hw => ⟨(hw vs hj).trans (wipe_wipe _ vs), ?_⟩
      have back : ∀ {R4 H4 : Hp} {o : Option V} {s : Sl}, Sx c.Z B R0 R4 H4 (o :: (ρ' ++ ρ)) (s :: (Δ' ++ Δ)) σ3 (us i Γ) → Sx c.Z B R0 R4 H4 (o :: (ρ' ++ ρ)) (s :: (Δ' ++ Δ)) σ Γ := fun S4 => by
        have q4 := sx_wipe S4 vs
        rw [hw vs hj, wipe_wipe, ok.back i Γ vs hj, wipeG_un hu] at q4
        exact sx_unwipe hu q4
      refine ht i hlt B R0 R3 H3 _ _ σ3 S3 _ (fun R4 H4 S4 => ?_) (Xok.no c _ _ _ _)
      cases hp : p i with
      | false =>
        refine ⟨R4, ?_⟩
        rw [kept_no hp]
        exact back S4
      | true =>
        refine he i hlt hp B R0 R4 H4 _ _ σ3 S4 _ (fun w R5 H5 S5 => ?_) (Xok.no c _ _ _ _)
        obtain ⟨p1, vs1, e1, h1, h2, h3⟩ := sx_mutTop (sx_swapTop S5)
        cases e1
        have hl1 := Paired.length h2
        have hl2 := kept_len p f i
        refine ⟨vs1, h1, Nat.lt_of_lt_of_le (by omega : vs1.length < 1000000) (by decide), R5, ?_⟩
        rw [kept_yes hp]
        exact back (sx_pop2 (h3 (vs1 ++ [w]) (kept p f i ++ [f i]) (paired_append h2 (.cons (sx_top' S5) .nil))))
    · have e : i = n := by omega
      subst e
      exact .inl ⟨ok.stop (ρx := [some (.ref Dl)]) (Δx := [.ol (kept p f i)]) rfl S2, q _ R2 H2 (sx_drop1 hl S2)⟩) x
end TB

/-! TbX: refusals raised; sorted, min, max, insert, stores by index; more walks (enumerate, zip). -/
namespace TB
open PySem PySem.Spec PyProof.Rows L2
/-! ### by values -/
/-! ### refusals -/
noncomputable def tRaise0 (C : Addr) (X : WX) : TS := fun _ σ H => (fun _ H Q => Q (.ref C) none H : L2.St → Hp → XK → Prop) σ H fun cls d H' => X cls d σ H'
/-- __init__ of an own exception class: its fields, in order -/
noncomputable def spXI (C : Addr) (fs : List Str) : Sp := fun vs H Q _ => ∃ (a : Addr) (ws : List V), vs = .ref a :: ws ∧ ws.length = fs.length ∧ H a = some (exo a C none) ∧
  ∀ (d : Addr) (H' : Hp), H d = none → d ≠ a → H' a = some (exo a C (some d)) → H' d = some (exd d (fs.zip ws).reverse) → (∀ b, b ≠ a → b ≠ d → H' b = H b) → Q .non H'
noncomputable def tRaiseN (C : Addr) (fs : List Str) (X : WX) (ta : TA) : TS := fun _ σ H => tMkO C (spXI C fs) [] ta σ H fun cls d H' => X cls d σ H'
section
variable {c : Cn} {Γ : List Sl} {ta tb te tl : TE} {tt tc : TT} {t u : TS} {s : Sl} {α β γ : Type} {_ : Rp α} {_ : Rp β} {_ : Rp γ} {P : Po}
theorem w_raise0 (n : CN) (h : c.ex ⟨n, []⟩ Γ) : W c Γ (tRaise0 (c.Z.cls n) c.X) P := fun B R0 R H ρ Δ σ D S nx r b k x => x R H σ Γ ⟨n, []⟩ (.ref (c.Z.cls n)) none S ⟨rfl, .inl ⟨rfl, rfl⟩⟩ h
/-- the fields' values, ints -/
theorem w_raiseN {ts : TA} (n : CN) (fs : List Str) (ns : List Int) (ha : EvA c Γ ts (ns.map fun i => .im i)) (hl : ns.length = fs.length) (hl2 : ns.length ≤ 900) (hne : fs ≠ []) (h : c.ex ⟨n, (fs.zip (ns.map V.int)).reverse⟩ Γ) : W c Γ (tRaiseN (c.Z.cls n) fs c.X ts) P := fun B R0 R H ρ Δ σ D S nx r b k x =>
  ha B R0 R H ρ Δ σ S _ (fun vs R1 H1 S1 sl => by
    have hp := paired_map_int (slims_list sl)
    subst hp
    refine ⟨by rw [List.length_map]; omega, fun a na => ?_⟩
    rw [List.append_nil]
    refine ⟨a, ns.map V.int, rfl, by rw [List.length_map]; exact hl, upd_same, fun d H2 nd hda ha2 hd2 ho => ?_⟩
    have nd1 : H1 d = none := by rw [upd_ne hda] at nd; exact nd
    refine ⟨rfl, d, _, ha2, hd2, nd1, ?_⟩
    have eH : upd (del H2 a) d (.xd (fs.zip (ns.map V.int)).reverse) = upd H1 d (.xd (fs.zip (ns.map V.int)).reverse) := by
      funext b
      by_cases h1 : b = d
      · subst h1; rw [upd_same, upd_same]
      · rw [upd_ne h1, upd_ne h1]
        by_cases h2 : b = a
        · subst h2; rw [del_same, na]
        · rw [del_ne h2, ho b h2 h1, upd_ne h2]
    rw [eH]
    refine x _ _ σ Γ ⟨n, _⟩ (.ref (c.Z.cls n)) (some d) (sx_froz S1 nd1 _).1 ⟨rfl, .inr ⟨fun z => hne ?_, d, rfl, (sx_base S1).free nd1, upd_same⟩⟩ h
    have z2 := congrArg List.length (show (fs.zip (ns.map V.int)).reverse = [] from z)
    rw [List.length_reverse, List.length_zip, List.length_map, hl, Nat.min_self] at z2
    exact List.length_eq_zero_iff.mp z2) x
end
/-- the promise of such an __init__, from its body's reading: one, two, three fields -/
theorem xi_ost {K : PySem.W.Frag} {C : Addr} {f : Str} {j : Nat} {D : Ends} {σ : L2.St} {H : Hp} {a : Addr} {w : V} (T : OexC K C) (hn : PySem.W.findIn K (.ref C) f = some none) (h0 : σ[0]? = some (some (.ref a))) (hj : σ[j]? = some (some w))
    (h : (H a = some (exo a C none) ∧ ∀ dx, H dx = none → dx ≠ a → D.nx σ (upd (upd H dx (exd dx [(f, w)])) a (exo a C (some dx)))) ∨ ∃ (dx : Addr) (fs : List (Str × V)), H a = some (exo a C (some dx)) ∧ H dx = some (exd dx fs) ∧ fs.length ≤ 900 ∧ D.nx σ (upd H dx (exd dx ((f, w) :: fs)))) :
    tOst K f (tVar 0) (tVar j) D σ H := ⟨w, hj, .ref a, h0, a, C, rfl, T, hn, h⟩
theorem xi_one {K : PySem.W.Frag} {C : Addr} {f : Str} {N : List Str} (hN : N.length = 2) (T : OexC K C) (hn : PySem.W.findIn K (.ref C) f = some none) (vs : List V) (H : Hp) (Q : VK) (E : XK) (h : spXI C [f] vs H Q E) :
    tOst K f (tVar 0) (tVar 1) { nx := fun _ H' => Q .non H', rt := Q } (L2.start N vs) H := by
  obtain ⟨a, ws, rfl, hl, ha, k⟩ := h
  obtain ⟨w, rfl⟩ : ∃ w, ws = [w] := by
    match ws, hl with
    | [w], _ => exact ⟨w, rfl⟩
  refine xi_ost T hn rfl rfl (.inl ⟨ha, fun dx nd ne => k dx _ nd ne upd_same (by rw [upd_ne ne, upd_same]; rfl) fun b h1 h2 => by rw [upd_ne h1, upd_ne h2]⟩)
theorem xi_two {K : PySem.W.Frag} {C : Addr} {f g : Str} {N : List Str} (hN : N.length = 3) (T : OexC K C) (hn : PySem.W.findIn K (.ref C) f = some none) (hg : PySem.W.findIn K (.ref C) g = some none) (vs : List V) (H : Hp) (Q : VK) (E : XK) (h : spXI C [f, g] vs H Q E) :
    tSeq (tOst K f (tVar 0) (tVar 1)) (tOst K g (tVar 0) (tVar 2)) { nx := fun _ H' => Q .non H', rt := Q } (L2.start N vs) H := by
  obtain ⟨a, ws, rfl, hl, ha, k⟩ := h
  obtain ⟨w, w2, rfl⟩ : ∃ w w2, ws = [w, w2] := by
    match ws, hl with
    | [w, w2], _ => exact ⟨w, w2, rfl⟩
  refine xi_ost T hn rfl rfl (.inl ⟨ha, fun dx nd ne => ?_⟩)
  refine xi_ost T hg rfl rfl (.inr ⟨dx, _, upd_same, by rw [upd_ne ne, upd_same], by simp, ?_⟩)
  refine k dx _ nd ne (by rw [upd_ne (Ne.symm ne), upd_same]) (by rw [upd_same]; rfl) fun b h1 h2 => by rw [upd_ne h2, upd_ne h1, upd_ne h2]
theorem xi_three {K : PySem.W.Frag} {C : Addr} {f g g3 : Str} {N : List Str} (hN : N.length = 4) (T : OexC K C) (hn : PySem.W.findIn K (.ref C) f = some none) (hg : PySem.W.findIn K (.ref C) g = some none) (hg3 : PySem.W.findIn K (.ref C) g3 = some none) (vs : List V) (H : Hp) (Q : VK) (E : XK) (h : spXI C [f, g, g3] vs H Q E) :
    tSeq (tOst K f (tVar 0) (tVar 1)) (tSeq (tOst K g (tVar 0) (tVar 2)) (tOst K g3 (tVar 0) (tVar 3))) { nx := fun _ H' => Q .non H', rt := Q } (L2.start N vs) H := by
  obtain ⟨a, ws, rfl, hl, ha, k⟩ := h
  obtain ⟨w, w2, w3, rfl⟩ : ∃ w w2 w3, ws = [w, w2, w3] := by
    match ws, hl with
    | [w, w2, w3], _ => exact ⟨w, w2, w3, rfl⟩
  refine xi_ost T hn rfl rfl (.inl ⟨ha, fun dx nd ne => ?_⟩)
  refine xi_ost T hg rfl rfl (.inr ⟨dx, _, upd_same, by rw [upd_ne ne, upd_same], by simp, ?_⟩)
  refine xi_ost T hg3 rfl rfl (.inr ⟨dx, _, by rw [upd_ne (Ne.symm ne), upd_same], upd_same, by simp, ?_⟩)
  refine k dx _ nd ne (by rw [upd_ne (Ne.symm ne), upd_ne (Ne.symm ne), upd_same]) (by rw [upd_same]; rfl) fun b h1 h2 => by rw [upd_ne h2, upd_ne h2, upd_ne h1, upd_ne h2]

/-! ### more built-ins -/
noncomputable def isort (xs : List Int) : List Int := xs.mergeSort fun x y => decide (x ≤ y)
noncomputable def gSorted (K : PySem.W.Frag) : List V → Hp → VK → Prop := rSortedI K
noncomputable def gMin : List V → Hp → VK → Prop := fun xs H Q => ∃ i j, xs = [.int i, .int j] ∧ Q (.int (if j < i then j else i)) H
noncomputable def gMax : List V → Hp → VK → Prop := fun xs H Q => ∃ i j, xs = [.int i, .int j] ∧ Q (.int (if j > i then j else i)) H
theorem gc_min {X : Cx} (hc : X.calm = true) : CallR X (.builtin "min") gMin := call_min2 hc
noncomputable def gInsert : V → List V → Hp → VK → Prop := fun x vs H Q => ∃ (l : Addr) (xs : List V) (i : Int) (y : V), x = .ref l ∧ vs = [.int i, y] ∧ H l = some (.lst xs) ∧ xs.length < sizeLine ∧ 0 ≤ i ∧ i < 2 ^ 63 ∧
    Q .non (upd H l (.lst (xs.take i.toNat ++ [y] ++ xs.drop i.toNat)))
theorem gm_insert {X : Cx} : MtR X "list.insert" gInsert := mt_insert
/-- o[i] = v: a list, a dict -/
noncomputable def gSet : V → V → V → Hp → (Hp → Prop) → Prop := fun o i v H Q => rSetL o i v H Q ∨ ∃ a H', o = .ref a ∧ DPut H a i v H' ∧ Q H'
theorem gs_set {X : Cx} (hu : X.A.units + 1 < cLine) : PSet X gSet := by
  intro pins s σ H o i v ov iv u Q I ro ri rv h
  rcases h with h | ⟨a, H', rfl, h, q⟩
  · exact set_list pins s σ H o i v ov iv u Q I ro ri rv h
  · obtain rfl : ov = Value.ref a := ro
    exact d_setItem hu I h ri rv fun s4 I4 => ⟨H', I4, q⟩
section
variable {c : Cn} {Γ : List Sl} {ta tb te tl : TE} {tt tc : TT} {t u : TS} {s : Sl} {α β γ : Type} {_ : Rp α} {_ : Rp β} {_ : Rp γ} {P : Po}
theorem ev_sorted {xs : List Int} (ha : Ev c Γ ta (.im xs)) : Ev c Γ (tCB (gSorted c.Z.K) (tCons ta tNil)) (.ol (isort xs)) := ev_cbL ha fun R H v sm rv Q q => by
  obtain ⟨a, vs, rfl, ha, hp⟩ := rv
  refine ⟨a, xs, rfl, SqL.of (paired_map_int hp ▸ sm _ _ ha), fun ns' p pm pw np => ?_⟩
  have e : ns' = isort xs := PySem.W.os_sorted_mergeSort pm pw
  subst e
  exact q _ p (paired_of_int _) np
theorem ev_min2 {i j : Int} (ha : Ev c Γ ta (.im i)) (hb : Ev c Γ tb (.im j)) : Ev c Γ (tCB gMin (tCons ta (tCons tb tNil))) (.im (if j < i then j else i)) := ev_cb2 ha hb fun R H v w sm rv rw => by
  have rv' : v = .int i := rv
  have rw' : w = .int j := rw
  subst rv' rw'
  exact ⟨_, rfl, fun Q q => ⟨i, j, rfl, q⟩⟩
theorem ev_max2 {i j : Int} (ha : Ev c Γ ta (.im i)) (hb : Ev c Γ tb (.im j)) : Ev c Γ (tCB gMax (tCons ta (tCons tb tNil))) (.im (if j > i then j else i)) := ev_cb2 ha hb fun R H v w sm rv rw => by
  have rv' : v = .int i := rv
  have rw' : w = .int j := rw
  subst rv' rw'
  exact ⟨_, rfl, fun Q q => ⟨i, j, rfl, q⟩⟩
/-- 0, 1, .., n - 1 -/
noncomputable def irange (n : Int) : List Int := (List.range n.toNat).map fun (i : Nat) => (i : Int)
theorem ev_listRg {n : Int} (ha : Ev c Γ ta (.im n)) (h : n ≤ 1000000) (h0 : -1000000 ≤ n) : Ev c Γ (tLstRg (tRg1 ta)) (.ol (irange n)) := fun B R0 R H ρ Δ σ S Q q xk => ha B R0 R H ρ Δ σ S _ (fun v R1 H1 S1 => by
  have rv : v = .int n := sx_top' S1
  refine ⟨n, rv, ⟨by omega, by omega, by omega, by omega, by omega⟩, fun p np => ?_⟩
  have e : rgV 0 n = (irange n).map V.int := by
    unfold rgV irange
    rw [List.map_map]
    congr 1
    · funext i; show V.int (0 + (i : Int)) = V.int (i : Int); rw [Int.zero_add]
    · rw [Int.sub_zero]
  rw [e]
  exact q _ R1 _ (sx_newl (sx_pop S1) np (paired_of_int _))) xk
theorem ev_slice {xs : List α} {t1 t2 : TO} {lo hi : Option Int} (ha : Ev c Γ ta (.im xs)) (h1 : ∀ B R0 R H ρ Δ σ, Sx c.Z B R0 R H ρ Δ σ Γ → ∀ Q : Option Int → Hp → Prop, (∀ R' H', Sx c.Z B R0 R' H' ρ Δ σ Γ → Q lo H') → Xok c B R0 ρ Δ → t1 σ H Q)
    (h2 : ∀ B R0 R H ρ Δ σ, Sx c.Z B R0 R H ρ Δ σ Γ → ∀ Q : Option Int → Hp → Prop, (∀ R' H', Sx c.Z B R0 R' H' ρ Δ σ Γ → Q hi H') → Xok c B R0 ρ Δ → t2 σ H Q) :
    Ev c Γ (tSl (rSlL c.Z.K) ta t1 t2) (.ol ((xs.drop (HT.sIx xs.length 0 lo)).take (HT.sIx xs.length xs.length hi - HT.sIx xs.length 0 lo))) := fun B R0 R H ρ Δ σ S Q q xk => ha B R0 R H ρ Δ σ S _ (fun v R1 H1 S1 =>
  h1 B R0 R1 H1 _ _ σ S1 _ (fun R2 H2 S2 => h2 B R0 R2 H2 _ _ σ S2 _ (fun R3 H3 S3 => by
    obtain ⟨a, vs, rfl, ha3, hp⟩ := sx_top' S3
    refine ⟨a, vs, rfl, SqL.of (sx_same S3 _ _ ha3), fun p np => ?_⟩
    have hl := Paired.length hp
    unfold cutV
    rw [hl]
    exact q _ R3 _ (sx_newl (sx_pop S3) np (paired_take _ (paired_drop _ hp)))) xk.push1) xk.push1) xk
theorem eo_none : ∀ B R0 R H ρ Δ σ, Sx c.Z B R0 R H ρ Δ σ Γ → ∀ Q : Option Int → Hp → Prop, (∀ R' H', Sx c.Z B R0 R' H' ρ Δ σ Γ → Q none H') → Xok c B R0 ρ Δ → tNoPart σ H Q := fun B R0 R H ρ Δ σ S Q q _ => q R H S
theorem eo_some {i : Int} (h : Ev c Γ te (.im i)) : ∀ B R0 R H ρ Δ σ, Sx c.Z B R0 R H ρ Δ σ Γ → ∀ Q : Option Int → Hp → Prop, (∀ R' H', Sx c.Z B R0 R' H' ρ Δ σ Γ → Q (some i) H') → Xok c B R0 ρ Δ → tPart te σ H Q := fun B R0 R H ρ Δ σ S Q q xk =>
  h B R0 R H ρ Δ σ S _ (fun v R1 H1 S1 => ⟨i, sx_top' S1, q R1 H1 (sx_pop S1)⟩) xk
theorem sIx_of {n d : Nat} {i : Int} (h : 0 ≤ i) : HT.sIx n d (some i) = min i.toNat n := by
  unfold HT.sIx
  simp only []
  split <;> omega
/-- xs[lo:hi] -/
theorem ev_cut {xs : List α} {lo hi : Int} (ha : Ev c Γ ta (.im xs)) (h1 : Ev c Γ tb (.im lo)) (h2 : Ev c Γ te (.im hi)) (h0 : 0 ≤ lo) (h3 : 0 ≤ hi) : Ev c Γ (tSl (rSlL c.Z.K) ta (tPart tb) (tPart te)) (.ol ((xs.take hi.toNat).drop lo.toNat)) := by
  refine ev_is (ev_slice ha (eo_some h1) (eo_some h2)) (congrArg Sl.ol ?_)
  rw [sIx_of h0, sIx_of h3, List.drop_take]
  apply List.ext_getElem?
  intro k
  simp only [List.getElem?_take, List.getElem?_drop]
  grind
theorem ev_cutTo {xs : List α} {hi : Int} (ha : Ev c Γ ta (.im xs)) (h2 : Ev c Γ te (.im hi)) (h3 : 0 ≤ hi) : Ev c Γ (tSl (rSlL c.Z.K) ta tNoPart (tPart te)) (.ol (xs.take hi.toNat)) := by
  refine ev_is (ev_slice ha eo_none (eo_some h2)) (congrArg Sl.ol ?_)
  rw [sIx_of h3]
  apply List.ext_getElem?
  intro k
  simp only [List.getElem?_take, List.getElem?_drop, HT.sIx]
  grind
theorem ev_cutFrom {xs : List α} {lo : Int} (ha : Ev c Γ ta (.im xs)) (h1 : Ev c Γ tb (.im lo)) (h0 : 0 ≤ lo) : Ev c Γ (tSl (rSlL c.Z.K) ta (tPart tb) tNoPart) (.ol (xs.drop lo.toNat)) := by
  refine ev_is (ev_slice ha (eo_some h1) eo_none) (congrArg Sl.ol ?_)
  rw [sIx_of h0]
  apply List.ext_getElem?
  intro k
  simp only [List.getElem?_take, List.getElem?_drop, HT.sIx]
  grind
end
end TB

/-! TbY: enumerate, zip; own classes' fields; groups. -/
namespace TB
open PySem L2
section
variable {c : Cn} {Γ : List Sl} {ta tb te tl : TE} {tt tc : TT} {t u : TS} {s : Sl} {α β γ : Type} {_ : Rp α} {_ : Rp β} {_ : Rp γ} {P : Po}
theorem ei_enum {xs : List α} {a b : Nat} (h : Ev c Γ tl (.im xs)) : EvI c Γ (iEnum c.Z.K (tCons tl tNil)) (gTup c.Z.K 2 (gCons (gName a) (gCons (gName b) gNil))) xs.length (fun i G => (G.set a (.im (i : Int))).set b (.im (xs.getD i Rp.df))) [a, b] := fun B R0 R H ρ Δ σ S K k x =>
  h B R0 R H ρ Δ σ S _ (fun v R1 H1 S1 => by
    have rv := sx_top' S1
    obtain ⟨l, vs, rfl, ha, hp⟩ := id rv
    refine ⟨l, vs, rfl, SqL.of (sx_same S1 _ _ ha), k (Ite c.Z.K l) R1 H1 [some (.ref l)] [.im xs] rfl S1 ⟨fun i G vs3 hj => by rw [wipeG_set (hj b (by simp)), wipeG_set (hj a (by simp))], fun {R2 H2 ρx Δx σ2 Γ2 i} hx S2 hi => ?_, fun {R2 H2 ρx Δx σ2 Γ2} hx S2 => ?_, fun {R2 H2 ρx Δx σ2 Γ2 i y H'} hx S2 hi hy K' kk => ?_⟩⟩
    · obtain ⟨a2, vs2, e2, ha2, hp2⟩ := sx_top' (sx_drop hx S2)
      cases e2
      obtain ⟨w, hw, _⟩ := paired_get hp2 (b := xs[i]) (i := i) (by simp [hi])
      exact ⟨vs2, w, SqL.of (sx_same S2 _ _ ha2), hw⟩
    · obtain ⟨a2, vs2, e2, ha2, hp2⟩ := sx_top' (sx_drop hx S2)
      cases e2
      exact ⟨vs2, SqL.of (sx_same S2 _ _ ha2), by rw [Paired.length hp2]; exact Nat.le_refl _⟩
    · obtain ⟨a2, vs2, e2, ha2, hp2⟩ := sx_top' (sx_drop hx S2)
      cases e2
      obtain ⟨T, w, rfl, hT, rfl, hy⟩ := hy
      have hy' := hy vs2 (SqL.of (sx_same S2 _ _ ha2))
      obtain ⟨z, hz, rz⟩ := paired_getL hp2 hy'
      have e3 : xs.getD i Rp.df = z := by rw [List.getD_eq_getElem?_getD, hz]; rfl
      refine ⟨T, [.int (i : Nat), w], rfl, SqT.of upd_same, rfl, _, _, rfl, _, _, rfl, rfl, ?_⟩
      refine kk R2 _ _ ?_ fun vs3 hj => by rw [wipe_set (hj b (by simp)), wipe_set (hj a (by simp))]
      refine sx_asg (sx_push (sx_asg (sx_push (sx_alloc S2 hT _) (show Rp.rp c.Z R2 (V.int (i : Int)) (i : Int) from rfl)) a) (d := xs.getD i Rp.df) ?_) b
      rw [e3]
      exact rz) x
theorem ei_zip {xs : List α} {ys : List β} {a b : Nat} (h : Ev c Γ tl (.im xs)) (h2 : Ev c Γ te (.im ys)) : EvI c Γ (iZip c.Z.K (tCons tl (tCons te tNil))) (gTup c.Z.K 2 (gCons (gName a) (gCons (gName b) gNil))) (min xs.length ys.length) (fun i G => (G.set a (.im (xs.getD i Rp.df))).set b (.im (ys.getD i Rp.df))) [a, b] := fun B R0 R H ρ Δ σ S K k x =>
  h B R0 R H ρ Δ σ S _ (fun v R1 H1 S1 => h2 B R0 R1 H1 _ _ σ S1 _ (fun v2 R3 H3 S3 => by
    obtain ⟨l, vs, rfl, ha, hp⟩ := id (sx_top' (sx_pop S3))
    obtain ⟨l2, vs2, rfl, ha2, hp2⟩ := id (sx_top' S3)
    refine ⟨l, l2, vs, vs2, rfl, SqL.of (sx_same S3 _ _ ha), SqL.of (sx_same S3 _ _ ha2), k (Itz c.Z.K l l2) R3 H3 [some (.ref l2), some (.ref l)] [.im ys, .im xs] rfl S3 ⟨fun i G vs3 hj => by rw [wipeG_set (hj b (by simp)), wipeG_set (hj a (by simp))], fun {R2 H2 ρx Δx σ2 Γ2 i} hx S2 hi => ?_, fun {R2 H2 ρx Δx σ2 Γ2} hx S2 => ?_, fun {R2 H2 ρx Δx σ2 Γ2 i y H'} hx S2 hi hy K' kk => ?_⟩⟩
    all_goals
      have S2' := sx_drop hx S2
      obtain ⟨q1, ws1, e1, g1, p1⟩ := sx_top' (sx_pop S2')
      cases e1
      obtain ⟨q2, ws2, e2, g2, p2⟩ := sx_top' S2'
      cases e2
      have l1 := Paired.length p1
      have l2 := Paired.length p2
      have s1 := sx_same S2 _ _ g1
      have s2 := sx_same S2 _ _ g2
    · obtain ⟨w, hw, _⟩ := paired_get p1 (b := xs[i]'(by omega)) (i := i) (by simp)
      obtain ⟨w2, hw2, _⟩ := paired_get p2 (b := ys[i]'(by omega)) (i := i) (by simp)
      exact ⟨ws1, ws2, w, w2, SqL.of s1, SqL.of s2, hw, hw2⟩
    · exact ⟨ws1, ws2, SqL.of s1, SqL.of s2, by omega⟩
    · obtain ⟨T, w, w2, rfl, hT, rfl, hy, hy2⟩ := hy
      obtain ⟨z, hz, rz⟩ := paired_getL p1 (hy ws1 (SqL.of s1))
      obtain ⟨z2, hz2, rz2⟩ := paired_getL p2 (hy2 ws2 (SqL.of s2))
      have e3 : xs.getD i Rp.df = z := by rw [List.getD_eq_getElem?_getD, hz]; rfl
      have e4 : ys.getD i Rp.df = z2 := by rw [List.getD_eq_getElem?_getD, hz2]; rfl
      refine ⟨T, [w, w2], rfl, SqT.of upd_same, rfl, _, _, rfl, _, _, rfl, rfl, ?_⟩
      refine kk R2 _ _ ?_ fun vs3 hj => by rw [wipe_set (hj b (by simp)), wipe_set (hj a (by simp))]
      refine sx_asg (sx_push (sx_asg (sx_push (sx_alloc S2 hT _) (d := xs.getD i Rp.df) (by rw [e3]; exact rz)) a) (d := ys.getD i Rp.df) ?_) b
      rw [e4]
      exact rz2) x.push1) x
/-! fields -/
/-- o.f, told by what o's rep says -/
theorem ev_fld {o : α} {d : β} {f : Str} (h : Ev c Γ te (.im o)) (hf : ∀ R v, Rp.rp c.Z R v o → ∃ a C dx fs w, v = .ref a ∧ R a = some (.ins C dx fs) ∧ Cls c.Z.K C ∧ NoAttr c.Z.K C f ∧ fs.lookup f = some w ∧ Rp.rp c.Z R w d) : Ev c Γ (tFld c.Z.K te f) (.im d) := fun B R0 R H ρ Δ σ S Q q x =>
  h B R0 R H ρ Δ σ S _ (fun v R1 H1 S1 => by
    obtain ⟨a, C, dx, fs, w, rfl, h1, h2, h3, h4, h5⟩ := hf R1 v (sx_top' S1)
    exact ⟨a, C, dx, fs, w, rfl, sx_same S1 _ _ h1, h2, h3, h4, q w R1 H1 (sx_push (sx_pop S1) h5)⟩) x
end
/-! ### groups -/
structure Grp where
  many : Int
  rows : List (List Int)
  unit : Int
  backs : List Int
/-- what the written part says of the class -/
structure GrpC (Z : Zz) : Prop where
  cl : Cls Z.K (Z.cls .Group)
  n1 : NoAttr Z.K (Z.cls .Group) "many"
  n2 : NoAttr Z.K (Z.cls .Group) "rows"
  n3 : NoAttr Z.K (Z.cls .Group) "unit"
  n4 : NoAttr Z.K (Z.cls .Group) "backs"
noncomputable def flG (m r u b : V) : List (Str × V) := [("many", m), ("rows", r), ("unit", u), ("backs", b)]
noncomputable instance : Rp Grp := ⟨⟨0, [], 0, []⟩, fun Z H v g => GrpC Z ∧ ∃ a dx m r u b, v = .ref a ∧ H a = some (.ins (Z.cls .Group) dx (flG m r u b)) ∧ Rp.rp Z H m g.many ∧ Rp.rp Z H r g.rows ∧ Rp.rp Z H u g.unit ∧ Rp.rp Z H b g.backs,
  fun e h => by
    obtain ⟨h0, a, dx, m, r, u, b, h1, h2, h3, h4, h5, h6⟩ := h
    exact ⟨h0, a, dx, m, r, u, b, h1, e _ _ h2, Rp.mono e h3, Rp.mono e h4, Rp.mono e h5, Rp.mono e h6⟩⟩
theorem lookup_at {f g : Str} {v : V} {fs : List (Str × V)} (h : ¬ f = g) : ((f, v) :: fs).lookup g = fs.lookup g := by
  have : (g == f) = false := by simpa using fun e => h e.symm
  simp [List.lookup, this]
theorem lookup_here {f : Str} {v : V} {fs : List (Str × V)} : ((f, v) :: fs).lookup f = some v := by simp [List.lookup]
theorem flG1 (m r u b : V) : (flG m r u b).lookup ("many" : Str) = some m := lookup_here
theorem flG2 (m r u b : V) : (flG m r u b).lookup ("rows" : Str) = some r := by
  unfold flG
  rw [lookup_at (by decide +kernel), lookup_here]
theorem flG3 (m r u b : V) : (flG m r u b).lookup ("unit" : Str) = some u := by
  unfold flG
  rw [lookup_at (by decide +kernel), lookup_at (by decide +kernel), lookup_here]
theorem flG4 (m r u b : V) : (flG m r u b).lookup ("backs" : Str) = some b := by
  unfold flG
  rw [lookup_at (by decide +kernel), lookup_at (by decide +kernel), lookup_at (by decide +kernel), lookup_here]
section
variable {c : Cn} {Γ : List Sl} {ta tb te tl : TE} {g : Grp}
theorem ev_many (h : Ev c Γ te (.im g)) : Ev c Γ (tFld c.Z.K te "many") (.im g.many) := ev_fld h fun R v ⟨h0, a, dx, m, r, u, b, h1, h2, h3, h4, h5, h6⟩ => ⟨a, _, dx, _, m, h1, h2, h0.cl, h0.n1, flG1 .., h3⟩
theorem ev_rows (h : Ev c Γ te (.im g)) : Ev c Γ (tFld c.Z.K te "rows") (.im g.rows) := ev_fld h fun R v ⟨h0, a, dx, m, r, u, b, h1, h2, h3, h4, h5, h6⟩ => ⟨a, _, dx, _, r, h1, h2, h0.cl, h0.n2, flG2 .., h4⟩
theorem ev_unit (h : Ev c Γ te (.im g)) : Ev c Γ (tFld c.Z.K te "unit") (.im g.unit) := ev_fld h fun R v ⟨h0, a, dx, m, r, u, b, h1, h2, h3, h4, h5, h6⟩ => ⟨a, _, dx, _, u, h1, h2, h0.cl, h0.n3, flG3 .., h5⟩
theorem ev_backs (h : Ev c Γ te (.im g)) : Ev c Γ (tFld c.Z.K te "backs") (.im g.backs) := ev_fld h fun R v ⟨h0, a, dx, m, r, u, b, h1, h2, h3, h4, h5, h6⟩ => ⟨a, _, dx, _, b, h1, h2, h0.cl, h0.n4, flG4 .., h6⟩
/-- Group.__init__ -/
noncomputable def spI_Group (Z : Zz) : Sp := fun vs H Q _ => ∃ x dx l xs u b, vs = [.ref x, .ref l, u, b] ∧ H x = some (.ins (Z.cls .Group) dx []) ∧ H l = some (.lst xs) ∧ GrpC Z ∧
  ∀ H', H' x = some (.ins (Z.cls .Group) dx (flG (.int xs.length) (.ref l) u b)) → (∀ p, p ≠ x → H' p = H p) → Q .non H'
end
/-- the body: self.many = len(rows); self.rows = rows; self.unit = unit; self.backs = backs -/
theorem pure_Group_init {Z : Zz} {N : List Str} (hN : N.length = 4) (vs : List V) (H : Hp) (Q : VK) (E : XK) (h : spI_Group Z vs H Q E) :
    (tSeq (sFld Z.K (tVar 0) (tCB (gLen Z.K) (tCons (tVar 1) tNil)) "many") (tSeq (sFld Z.K (tVar 0) (tVar 1) "rows") (tSeq (sFld Z.K (tVar 0) (tVar 2) "unit") (sFld Z.K (tVar 0) (tVar 3) "backs")))) { nx := fun _ H' => Q .non H', rt := Q } (L2.start N vs) H := by
  obtain ⟨x, dx, l, xs, u, b, rfl, hx, hl, hZ, k⟩ := h
  have nlx : l ≠ x := fun e => by subst e; rw [hx] at hl; cases hl
  refine ⟨.ref l, rfl, .ref l, xs.length, rfl, .inl ⟨xs, SqL.of hl, rfl⟩, .ref x, rfl, x, _, dx, [], rfl, hx, hZ.cl, hZ.n1, by decide, ?_⟩
  refine ⟨.ref l, rfl, .ref x, rfl, x, _, dx, _, rfl, upd_same, hZ.cl, hZ.n2, by simp [putF], ?_⟩
  refine ⟨u, rfl, .ref x, rfl, x, _, dx, _, rfl, upd_same, hZ.cl, hZ.n3, by simp only [putF]; split <;> simp, ?_⟩
  have n12 : ¬ (("many" : Str) = "rows") := by decide +kernel
  have n13 : ¬ (("many" : Str) = "unit") := by decide +kernel
  have n23 : ¬ (("rows" : Str) = "unit") := by decide +kernel
  have n14 : ¬ (("many" : Str) = "backs") := by decide +kernel
  have n24 : ¬ (("rows" : Str) = "backs") := by decide +kernel
  have n34 : ¬ (("unit" : Str) = "backs") := by decide +kernel
  have e3 : putF "unit" u (putF "rows" (.ref l) (putF "many" (.int xs.length) [])) = ([("many", .int xs.length), ("rows", .ref l), ("unit", u)] : List (Str × V)) := by
    simp only [putF, if_neg n12, if_neg n13, if_neg n23]
  have e4 : putF "backs" b (putF "unit" u (putF "rows" (.ref l) (putF "many" (.int xs.length) []))) = flG (.int xs.length) (.ref l) u b := by
    rw [e3]
    simp only [putF, if_neg n14, if_neg n24, if_neg n34]
    rfl
  refine ⟨b, rfl, .ref x, rfl, x, _, dx, _, rfl, upd_same, hZ.cl, hZ.n4, by rw [e3]; simp, ?_⟩
  refine k _ (by rw [upd_same, e4]) fun p hp => by rw [upd_ne hp, upd_ne hp, upd_ne hp, upd_ne hp]
end TB
namespace TB
open PySem L2
section
variable {α β γ δ ε : Type} [Rp α] [Rp β] [Rp γ] [Rp δ] [Rp ε]
noncomputable def tm1 (F : α → (Sl → Prop) → (Rf → Prop) → Prop) : Tm := fun ss ok er => ∃ a, ss = [.im a] ∧ F a ok er
noncomputable def tm2 (F : α → β → (Sl → Prop) → (Rf → Prop) → Prop) : Tm := fun ss ok er => ∃ a b, ss = [.im a, .im b] ∧ F a b ok er
noncomputable def tm3 (F : α → β → γ → (Sl → Prop) → (Rf → Prop) → Prop) : Tm := fun ss ok er => ∃ a b c, ss = [.im a, .im b, .im c] ∧ F a b c ok er
noncomputable def tm4 (F : α → β → γ → δ → (Sl → Prop) → (Rf → Prop) → Prop) : Tm := fun ss ok er => ∃ a b c d, ss = [.im a, .im b, .im c, .im d] ∧ F a b c d ok er
end
theorem spOf_len {Z : Zz} {T : Tm} {n : Nat} (h : ∀ ss ok er, T ss ok er → ss.length = n) (vs : List V) (H : Hp) (Q : VK) (E : XK) (hs : spOf Z T vs H Q E) : vs.length = n := by
  obtain ⟨R, ss, ok, er, _, sl, hT, _⟩ := hs
  rw [← h ss ok er hT]
  clear hT
  induction sl with
  | nil => rfl
  | cons r t ih => simp [ih]
/-- a body's judgement at its entry -/
noncomputable abbrev WF (Z : Zz) (X : WX) (er : Rf → Prop) (Γ : List Sl) (t : TS) (ok : Sl → Prop) : Prop := W ⟨Z, X, fun r _ => er r⟩ Γ t ⟨fun _ => ok (.im ()), ok, fun _ => False, fun _ => False⟩
end TB
namespace TB
open PySem L2
theorem getD_eq {α : Type} {l : List α} {i : Nat} {d : α} (h : i < l.length) : l.getD i d = l[i] := by simp [h]
section
variable {c : Cn} {Γ : List Sl} {ta tb te tl : TE} {tt tc : TT} {t u : TS} {s : Sl} {α β γ : Type} {_ : Rp α} {_ : Rp β} {_ : Rp γ} {P : Po}
theorem w_forL {xs : List α} {j : Nat} (I : Nat → List Sl → Prop) (h : Ev c Γ tl (.im xs)) (h0 : I 0 Γ) (hs : ∀ i G (hi : i < xs.length), I i G → W c (G.set j (.im xs[i])) t ⟨I (i + 1), P.rt, P.nx, I (i + 1)⟩) (hd : ∀ G, I xs.length G → P.nx G) :
    W c Γ (tFor (iList c.Z.K tl) (gName j) t) P := w_for I (ei_list h) h0 (fun i G hi hI => by
  have q := hs i G hi hI
  rw [← getD_eq (d := Rp.df) hi] at q
  exact q) hd
theorem w_forE {xs : List α} {a b : Nat} (I : Nat → List Sl → Prop) (h : Ev c Γ tl (.im xs)) (h0 : I 0 Γ) (hs : ∀ i G (hi : i < xs.length), I i G → W c ((G.set a (.im (i : Int))).set b (.im xs[i])) t ⟨I (i + 1), P.rt, P.nx, I (i + 1)⟩) (hd : ∀ G, I xs.length G → P.nx G) :
    W c Γ (tFor (iEnum c.Z.K (tCons tl tNil)) (gTup c.Z.K 2 (gCons (gName a) (gCons (gName b) gNil))) t) P := w_for I (ei_enum h) h0 (fun i G hi hI => by
  have q := hs i G hi hI
  rw [← getD_eq (d := Rp.df) hi] at q
  exact q) hd
theorem w_forR {n : Int} {j : Nat} (I : Nat → List Sl → Prop) (h : Ev c Γ te (.im n)) (hn : n < 2 ^ 60) (hn0 : -(2 ^ 60) < n) (h0 : I 0 Γ) (hs : ∀ (i : Nat) G, (i : Int) < n → I i G → W c (G.set j (.im (i : Int))) t ⟨I (i + 1), P.rt, P.nx, I (i + 1)⟩) (hd : ∀ G, I n.toNat G → P.nx G) :
    W c Γ (tFor (iRng1 (tCons te tNil)) (gName j) t) P := w_for I (ei_rng1 h hn hn0) h0 (fun i G hi hI => hs i G (by omega) hI) hd
theorem w_forR2 {m n : Int} {j : Nat} (I : Nat → List Sl → Prop) (h1 : Ev c Γ ta (.im m)) (h : Ev c Γ te (.im n)) (hm : -(2 ^ 60) < m ∧ m < 2 ^ 60) (hn : n < 2 ^ 60 ∧ -(2 ^ 60) < n) (h0 : I 0 Γ) (hs : ∀ (i : Nat) G, m + (i : Int) < n → I i G → W c (G.set j (.im (m + (i : Int)))) t ⟨I (i + 1), P.rt, P.nx, I (i + 1)⟩) (hd : ∀ G, I (n - m).toNat G → P.nx G) :
    W c Γ (tFor (iRng2 (tCons ta (tCons te tNil))) (gName j) t) P := w_for I (ei_rng2 h1 h hm hn) h0 (fun i G hi hI => hs i G (by omega) hI) hd
/-- comprehensions with all items, none left out: the mapped list -/
theorem kept_all {α : Type} {f : Nat → α} : ∀ n, kept (fun _ => true) f n = (List.range n).map f := fun n => congrArg (List.map f) (List.filter_eq_self.2 fun _ _ => rfl)
theorem ev_mapL {xs : List α} {j : Nat} {vs : List Nat} (f : α → β) (h : Ev c Γ tl (.im xs)) (hn : xs.length < 1000000) (hj : j ∈ vs) (hu : UnAt Γ vs) (he : ∀ x, x ∈ xs → Ev c.no (Γ.set j (.im x)) te (.im (f x))) : Ev c Γ (tLc (iList c.Z.K tl) (gName j) tYes te vs) (.ol (xs.map f)) := by
  refine ev_is (ev_lc (fun _ => true) (fun i => f (xs.getD i Rp.df)) (ei_list h) hn (fun k hk => by simp at hk; rw [hk]; exact hj) hu (fun i hi => fun B R0 R H ρ Δ σ S Q q _ => q R H S) (fun i hi _ => he _ (by rw [getD_eq hi]; exact List.getElem_mem hi))) ?_
  rw [kept_all]
  refine congrArg Sl.ol (List.ext_getElem (by simp) fun i h1 h2 => ?_)
  simp at h1
  simp [h1]
theorem filter_range_map {α : Type} (xs : List α) (d : α) (p : α → Bool) : ((List.range xs.length).filter fun i => p (xs.getD i d)).map (fun i => xs.getD i d) = xs.filter p := by
  induction xs with
  | nil => rfl
  | cons a r ih =>
    rw [List.length_cons, List.range_succ_eq_map, List.filter_cons]
    have e0 : (a :: r).getD 0 d = a := rfl
    have e1 : ∀ i, (a :: r).getD (i + 1) d = r.getD i d := fun i => rfl
    rw [e0]
    have e2 : List.map (fun i => (a :: r).getD i d) (List.filter (fun i => p ((a :: r).getD i d)) (List.map Nat.succ (List.range r.length))) = r.filter p := by
      rw [List.filter_map, List.map_map]
      exact ih
    rw [List.filter_cons]
    by_cases h : p a = true
    · rw [if_pos h, if_pos h, List.map_cons, e0, e2]
    · rw [if_neg h, if_neg h, e2]
theorem ev_filtL {xs : List α} {j : Nat} {vs : List Nat} (p : α → Bool) (f : α → β) (h : Ev c Γ tl (.im xs)) (hn : xs.length < 1000000) (hj : j ∈ vs) (hu : UnAt Γ vs) (ht : ∀ x, x ∈ xs → EvT c.no (Γ.set j (.im x)) tt (p x)) (he : ∀ x, x ∈ xs → p x = true → Ev c.no (Γ.set j (.im x)) te (.im (f x))) :
    Ev c Γ (tLc (iList c.Z.K tl) (gName j) tt te vs) (.ol ((xs.filter p).map f)) := by
  refine ev_is (ev_lc (fun i => p (xs.getD i Rp.df)) (fun i => f (xs.getD i Rp.df)) (ei_list h) hn (fun k hk => by simp at hk; rw [hk]; exact hj) hu (fun i hi => ht _ (by rw [getD_eq hi]; exact List.getElem_mem hi)) (fun i hi hp => he _ (by rw [getD_eq hi]; exact List.getElem_mem hi) hp)) (congrArg Sl.ol ?_)
  unfold kept
  rw [← filter_range_map xs Rp.df p, List.map_map]
  rfl
theorem ev_mapR {n : Int} {j : Nat} {vs : List Nat} (f : Int → β) (h : Ev c Γ ta (.im n)) (hn : n < 1000000) (hn0 : -1000000 < n) (hj : j ∈ vs) (hu : UnAt Γ vs) (he : ∀ i : Int, 0 ≤ i → i < n → Ev c.no (Γ.set j (.im i)) te (.im (f i))) : Ev c Γ (tLc (iRng1 (tCons ta tNil)) (gName j) tYes te vs) (.ol ((irange n).map f)) := by
  refine ev_is (ev_lc (fun _ => true) (fun i => f (i : Int)) (ei_rng1 h (by omega) (by omega)) (by omega) (fun k hk => by simp at hk; rw [hk]; exact hj) hu (fun i hi => fun B R0 R H ρ Δ σ S Q q _ => q R H S) (fun i hi _ => he _ (by omega) (by omega))) ?_
  rw [kept_all]
  unfold irange
  rw [List.map_map]
  rfl
theorem ev_filtR {n : Int} {j : Nat} {vs : List Nat} (p : Int → Bool) (f : Int → β) (h : Ev c Γ ta (.im n)) (hn : n < 1000000) (hn0 : -1000000 < n) (hj : j ∈ vs) (hu : UnAt Γ vs) (ht : ∀ i : Int, 0 ≤ i → i < n → EvT c.no (Γ.set j (.im i)) tt (p i)) (he : ∀ i : Int, 0 ≤ i → i < n → p i = true → Ev c.no (Γ.set j (.im i)) te (.im (f i))) :
    Ev c Γ (tLc (iRng1 (tCons ta tNil)) (gName j) tt te vs) (.ol (((irange n).filter p).map f)) := by
  refine ev_is (ev_lc (fun i => p (i : Int)) (fun i => f (i : Int)) (ei_rng1 h (by omega) (by omega)) (by omega) (fun k hk => by simp at hk; rw [hk]; exact hj) hu (fun i hi => ht _ (by omega) (by omega)) (fun i hi hp => he _ (by omega) (by omega) hp)) (congrArg Sl.ol ?_)
  unfold irange kept
  rw [List.filter_map, List.map_map]
  rfl
end
theorem irange_len (n : Int) : (irange n).length = n.toNat := by unfold irange; simp
theorem mem_irange {n i : Int} : i ∈ irange n ↔ 0 ≤ i ∧ i < n := by
  unfold irange
  simp only [List.mem_map, List.mem_range]
  constructor
  · rintro ⟨k, h, rfl⟩
    omega
  · rintro ⟨h0, h1⟩
    exact ⟨i.toNat, by omega, by omega⟩
theorem irange_get {n : Int} {i : Nat} (h : i < (irange n).length) : (irange n)[i] = (i : Int) := by simp only [irange, List.getElem_map, List.getElem_range]
end TB

/-! TbZ: == of data; isinstance; cuts of the script; calls. -/
namespace TB
open PySem L2
/-- data that == compares -/
class Pd (α : Type) extends Rp α where
  py : α → PyData
  dep : Nat
  dp : ∀ {Z : Zz} {H : Hp} {v : V} {d : α}, rp Z H v d → Dp Z.K H v (py d)
  can : ∀ d, PyData.canLay0 (py d) = true
  low : ∀ d, PyData.depth (py d) ≤ dep
  eqv : ∀ a b, PyData.eqv (py a) (py b) = true ↔ a = b
noncomputable instance : Pd Int := { py := .int, dep := 0, dp := fun h => (by cases h; exact .int _), can := fun _ => (by simp [PyData.canLay0]), low := fun _ => (by simp [PyData.depth]), eqv := fun a b => (by simp [PyData.eqv]) }
noncomputable instance : Pd Bool := { py := .bool, dep := 0, dp := fun h => (by cases h; exact .bl _), can := fun _ => (by simp [PyData.canLay0]), low := fun _ => (by simp [PyData.depth]), eqv := fun a b => (by simp [PyData.eqv]) }
theorem dpAll_of {α : Type} [Pd α] {Z : Zz} {H : Hp} : ∀ {vs : List V} {xs : List α}, Paired (Rp.rp Z H) vs xs → DpAll Z.K H vs (xs.map Pd.py)
  | _, _, .nil => .nil
  | _, _, .cons r t => .cons (Pd.dp r) (dpAll_of t)
noncomputable instance {α : Type} [Pd α] : Pd (List α) where
  py := fun xs => .list (xs.map Pd.py)
  dep := (Pd.dep α) + 1
  dp := fun h => by
    obtain ⟨a, vs, rfl, h2, h3⟩ := h
    exact .lst (SqL.of h2) (dpAll_of h3)
  can := fun d => by
    show PyData.canLay0 (.list (d.map Pd.py)) = true
    rw [PyData.canLay0]
    induction d with
    | nil => simp [PyData.canLayAll0]
    | cons x r ih => simp [PyData.canLayAll0, Pd.can x, ih]
  low := fun d => by
    show PyData.depth (.list (d.map Pd.py)) ≤ Pd.dep α + 1
    rw [PyData.depth]
    have : PyData.depthAll (d.map Pd.py) ≤ Pd.dep α := by
      induction d with
      | nil => simp [PyData.depthAll]
      | cons x r ih =>
        have := Pd.low x
        simp only [List.map_cons, PyData.depthAll]
        omega
    omega
  eqv := fun a b => by
    show PyData.eqv (.list (a.map Pd.py)) (.list (b.map Pd.py)) = true ↔ a = b
    rw [PyData.eqv]
    induction a generalizing b with
    | nil => cases b <;> simp [PyData.eqvAll]
    | cons x r ih =>
      cases b with
      | nil => simp [PyData.eqvAll]
      | cons y t => simp [PyData.eqvAll, Pd.eqv, ih]
noncomputable instance {α β : Type} [Pd α] [Pd β] : Pd (α × β) where
  py := fun p => .tuple [Pd.py p.1, Pd.py p.2]
  dep := max (Pd.dep α) (Pd.dep β) + 1
  dp := fun h => by
    obtain ⟨a, x, y, rfl, h2, h3, h4⟩ := h
    exact .tup (SqT.of h2) (.cons (Pd.dp h3) (.cons (Pd.dp h4) .nil))
  can := fun d => by simp [PyData.canLay0, PyData.canLayAll0, Pd.can]
  low := fun d => by
    have h1 := Pd.low d.1
    have h2 := Pd.low d.2
    simp only [PyData.depth, PyData.depthAll]
    omega
  eqv := fun a b => by simp [PyData.eqv, PyData.eqvAll, Pd.eqv, Prod.ext_iff]
section
variable {c : Cn} {Γ : List Sl} {ta tb te tl : TE} {tt tc : TT} {t u : TS} {s : Sl} {α β γ : Type} {P : Po}
theorem rEqD_of [Pd α] {Z : Zz} {H : Hp} {v w : V} {x y : α} {Q : VK} (h : Rp.rp Z H v x) (h' : Rp.rp Z H w y) (hd : Pd.dep α ≤ 64) (q : Q (.bl (PyData.eqv (Pd.py x) (Pd.py y))) H) : rEqD Z.K v w H Q :=
  ⟨Pd.py x, Pd.py y, Pd.dp h, Pd.dp h', by simp [SeqAt.shaped, Pd.can, Nat.le_trans (Pd.low x) hd], by simp [SeqAt.shaped, Pd.can, Nat.le_trans (Pd.low y) hd], q⟩
theorem rNeD_of [Pd α] {Z : Zz} {H : Hp} {v w : V} {x y : α} {Q : VK} (h : Rp.rp Z H v x) (h' : Rp.rp Z H w y) (hd : Pd.dep α ≤ 64) (q : Q (.bl (!PyData.eqv (Pd.py x) (Pd.py y))) H) : rNeD Z.K v w H Q :=
  ⟨Pd.py x, Pd.py y, Pd.dp h, Pd.dp h', by simp [SeqAt.shaped, Pd.can, Nat.le_trans (Pd.low x) hd], by simp [SeqAt.shaped, Pd.can, Nat.le_trans (Pd.low y) hd], q⟩
theorem eqv_dec [Pd α] [DecidableEq α] (x y : α) : PyData.eqv (Pd.py x) (Pd.py y) = decide (x = y) := by
  have := Pd.eqv x y
  by_cases h : x = y
  · rw [decide_eq_true h]; exact this.mpr h
  · rw [decide_eq_false h]
    cases e : PyData.eqv (Pd.py x) (Pd.py y) with
    | false => rfl
    | true => exact absurd (this.mp e) h
theorem ev_eqD [Pd α] [DecidableEq α] {x y : α} (ha : Ev c Γ ta (.im x)) (hb : Ev c Γ tb (.im y)) (hd : Pd.dep α ≤ 64) : Ev c Γ (tOp (gEq c.Z.K) ta tb) (.im (decide (x = y))) := ev_opv ha hb fun R H v w sm rv rw => ⟨.bl _, rfl, fun Q q =>
  .inr (rEqD_of (Rp.mono sm rv) (Rp.mono sm rw) hd (by rw [eqv_dec]; exact q))⟩
theorem ev_neD [Pd α] [DecidableEq α] {x y : α} (ha : Ev c Γ ta (.im x)) (hb : Ev c Γ tb (.im y)) (hd : Pd.dep α ≤ 64) : Ev c Γ (tOp (gNe c.Z.K) ta tb) (.im (!decide (x = y))) := ev_opv ha hb fun R H v w sm rv rw => ⟨.bl _, rfl, fun Q q =>
  .inr (rNeD_of (Rp.mono sm rv) (Rp.mono sm rw) hd (by rw [eqv_dec]; exact q))⟩
theorem ev_eqL {x y : List Int} (ha : Ev c Γ ta (.im x)) (hb : Ev c Γ tb (.im y)) : Ev c Γ (tOp (gEq c.Z.K) ta tb) (.im (decide (x = y))) := ev_eqD ha hb (by decide)
theorem ev_neL {x y : List Int} (ha : Ev c Γ ta (.im x)) (hb : Ev c Γ tb (.im y)) : Ev c Γ (tOp (gNe c.Z.K) ta tb) (.im (!decide (x = y))) := ev_neD ha hb (by decide)
theorem ev_eqLL {x y : List (List Int)} (ha : Ev c Γ ta (.im x)) (hb : Ev c Γ tb (.im y)) : Ev c Γ (tOp (gEq c.Z.K) ta tb) (.im (decide (x = y))) := ev_eqD ha hb (by decide)
theorem ev_neLL {x y : List (List Int)} (ha : Ev c Γ ta (.im x)) (hb : Ev c Γ tb (.im y)) : Ev c Γ (tOp (gNe c.Z.K) ta tb) (.im (!decide (x = y))) := ev_neD ha hb (by decide)
theorem ev_eqP {x y : Int × Int} (ha : Ev c Γ ta (.im x)) (hb : Ev c Γ tb (.im y)) : Ev c Γ (tOp (gEq c.Z.K) ta tb) (.im (decide (x = y))) := ev_eqD ha hb (by decide)
theorem ev_neP {x y : Int × Int} (ha : Ev c Γ ta (.im x)) (hb : Ev c Γ tb (.im y)) : Ev c Γ (tOp (gNe c.Z.K) ta tb) (.im (!decide (x = y))) := ev_neD ha hb (by decide)
theorem w_raise1 {n : CN} {f : Str} {i : Int} (h : Ev c Γ ta (.im i)) (k : c.ex ⟨n, [(f, .int i)]⟩ Γ) : W c Γ (tRaiseN (c.Z.cls n) [f] c.X (tCons ta tNil)) P := w_raiseN n [f] [i] (ea_cons h ea_nil) rfl (by show 1 ≤ 900; decide) (by simp) k
theorem w_raise2 {n : CN} {f g : Str} {i j : Int} (h : Ev c Γ ta (.im i)) (h2 : Ev c Γ tb (.im j)) (k : c.ex ⟨n, [(g, .int j), (f, .int i)]⟩ Γ) : W c Γ (tRaiseN (c.Z.cls n) [f, g] c.X (tCons ta (tCons tb tNil))) P := w_raiseN n [f, g] [i, j] (ea_cons h (ea_cons h2 ea_nil)) rfl (by show 2 ≤ 900; decide) (by simp) k
theorem w_raise3 {n : CN} {f g e : Str} {i j m : Int} (h : Ev c Γ ta (.im i)) (h2 : Ev c Γ tb (.im j)) (h3 : Ev c Γ te (.im m)) (k : c.ex ⟨n, [(e, .int m), (g, .int j), (f, .int i)]⟩ Γ) : W c Γ (tRaiseN (c.Z.cls n) [f, g, e] c.X (tCons ta (tCons tb (tCons te tNil)))) P := w_raiseN n [f, g, e] [i, j, m] (ea_cons h (ea_cons h2 (ea_cons h3 ea_nil))) rfl (by show 3 ≤ 900; decide) (by simp) k
/-! calls whose answers are told by a set -/
noncomputable def EvS (c : Cn) (Γ : List Sl) (t : TE) (S : Sl → Prop) : Prop := ∀ B R0 R H ρ Δ σ, Sx c.Z B R0 R H ρ Δ σ Γ → ∀ Q : VK, (∀ v s R' H', S s → Sx c.Z B R0 R' H' (some v :: ρ) (s :: Δ) σ Γ → Q v H') → Xok c B R0 ρ Δ → t σ H Q
theorem es_call {T : Tm} {t : TA} {ss : List Sl} {S : Sl → Prop} (ha : EvA c Γ t ss) (hT : T (ss ++ []) S fun r => c.ex r Γ) : EvS c Γ (tCallSD (spOf c.Z T) [] (WE c.X) t) S := fun B R0 R H ρ Δ σ S0 Q q xk => ha B R0 R H ρ Δ σ S0 _ (fun vs R1 H1 S1 sl => by
  refine ⟨R1, ss ++ [], _, _, sx_same S1, slims_append sl .nil, hT, fun v R' H' s' S' e => ?_, fun r cls d H' e rx er => ?_⟩
  · exact q v s' R' H' e (sx_call S1 S')
  · obtain ⟨R2, _, S2, rx2⟩ := sx_callX S1 e rx
    exact xk R2 H' σ Γ r cls d S2 rx2 er) xk
theorem w_asgS {i : Nat} {S : Sl → Prop} (h : EvS c Γ te S) (k : ∀ s, S s → P.nx (Γ.set i s)) : W c Γ (tAsg te (gName i)) P := fun B R0 R H ρ Δ σ D S0 n r b kk x =>
  h B R0 R H ρ Δ σ S0 _ (fun v s R1 H1 e S1 => n R1 H1 _ _ (sx_asg S1 i) (k s e)) x
theorem w_dropS {S : Sl → Prop} (h : EvS c Γ te S) (k : ∀ s, S s → P.nx Γ) : W c Γ (tDrop te) P := fun B R0 R H ρ Δ σ D S0 n r b kk x =>
  h B R0 R H ρ Δ σ S0 _ (fun v s R1 H1 e S1 => n R1 H1 _ _ (sx_pop S1) (k s e)) x
theorem w_retS {S : Sl → Prop} (h : EvS c Γ te S) (k : ∀ s, S s → P.rt s) : W c Γ (tRet te) P := fun B R0 R H ρ Δ σ D S0 n r b kk x =>
  h B R0 R H ρ Δ σ S0 _ (fun v s R1 H1 e S1 => r R1 H1 v s (sx_leave S1) (k s e)) x
/-- a statement, what holds between, the rest -/
theorem w_mid (M : List Sl → Prop) (h : W c Γ t ⟨M, P.rt, P.bk, P.ct⟩) (k : ∀ G, M G → W c G u P) : W c Γ (tSeq t u) P := w_seq (h.imp (fun G q => k G q) (fun _ q => q) (fun _ q => q) (fun _ q => q))
/-! written lists -/
noncomputable def EvH {α : Type} (c : Cn) (Γ : List Sl) (_ : Rp α) (t : TA) (xs : List α) : Prop := EvA c Γ t (xs.map fun x => .im x)
theorem evh_nil {i : Rp α} : EvH c Γ i tNil ([] : List α) := ea_nil
theorem evh_cons {i : Rp α} {x : α} {xs : List α} {tr : TA} (h : Ev c Γ te (.im x)) (hr : EvH c Γ i tr xs) : EvH c Γ i (tCons te tr) (x :: xs) := ea_cons h hr
theorem ev_lstH {i : Rp α} {xs : List α} {t : TA} (h : EvH c Γ i t xs) (hl : xs.length ≤ 1000) : Ev c Γ (tLst t) (.ol xs) := ev_lst xs h hl
/-! isinstance -/
theorem ev_isi {_ : Rp α} {x : α} (n m : String) (b : Bool) (ha : Ev c Γ ta (.im x)) (ht : ∀ R H v, Same R H → Rp.rp c.Z R v x → TyX c.Z.K H v (.type m)) (hk : kitB m n = some b) : Ev c Γ (tCB (rIsi c.Z.K) (tCons ta (tCons (tC (.ty n)) tNil))) (.im b) := fun B R0 R H ρ Δ σ S Q q xk => ha B R0 R H ρ Δ σ S _ (fun v R1 H1 S1 =>
  ⟨v, .ty n, .type m, .type n, b, rfl, .ty n, ht R1 H1 v (sx_same S1) (sx_top' S1), kit_ty hk, q _ R1 H1 (sx_push (sx_pop S1) rfl)⟩) xk
theorem ev_isiII {x : Int} (ha : Ev c Γ ta (.im x)) : Ev c Γ (tCB (rIsi c.Z.K) (tCons ta (tCons (tC (.ty "int")) tNil))) (.im true) := ev_isi "int" "int" true ha (fun R H v _ h => by cases h; exact .base (.int _)) (by decide +kernel)
theorem ev_isiIB {x : Int} (ha : Ev c Γ ta (.im x)) : Ev c Γ (tCB (rIsi c.Z.K) (tCons ta (tCons (tC (.ty "bool")) tNil))) (.im false) := ev_isi "bool" "int" false ha (fun R H v _ h => by cases h; exact .base (.int _)) (by decide +kernel)
theorem ev_isiLL {_ : Rp α} {x : List α} (ha : Ev c Γ ta (.im x)) : Ev c Γ (tCB (rIsi c.Z.K) (tCons ta (tCons (tC (.ty "list")) tNil))) (.im true) := ev_isi "list" "list" true ha (fun R H v e h => by obtain ⟨a, vs, rfl, h2, _⟩ := h; exact .base (.lst (e _ _ h2))) (by decide +kernel)
theorem ev_isiTT {_ : Rp α} {_ : Rp β} {x : α × β} (ha : Ev c Γ ta (.im x)) : Ev c Γ (tCB (rIsi c.Z.K) (tCons ta (tCons (tC (.ty "tuple")) tNil))) (.im true) := ev_isi "tuple" "tuple" true ha (fun R H v e h => by obtain ⟨a, y, z, rfl, h2, _⟩ := h; exact .base (.tup (e _ _ h2))) (by decide +kernel)
/-! cuts of the script -/
theorem ev_sliceS {l : Scr} {t1 t2 : TO} {lo hi : Option Int} (ha : Ev c Γ ta (.im l)) (h1 : ∀ B R0 R H ρ Δ σ, Sx c.Z B R0 R H ρ Δ σ Γ → ∀ Q : Option Int → Hp → Prop, (∀ R' H', Sx c.Z B R0 R' H' ρ Δ σ Γ → Q lo H') → Xok c B R0 ρ Δ → t1 σ H Q)
    (h2 : ∀ B R0 R H ρ Δ σ, Sx c.Z B R0 R H ρ Δ σ Γ → ∀ Q : Option Int → Hp → Prop, (∀ R' H', Sx c.Z B R0 R' H' ρ Δ σ Γ → Q hi H') → Xok c B R0 ρ Δ → t2 σ H Q) :
    Ev c Γ (tSl (rSlL c.Z.K) ta t1 t2) (.ol ((l.l.drop (HT.sIx l.l.length 0 lo)).take (HT.sIx l.l.length l.l.length hi - HT.sIx l.l.length 0 lo))) := fun B R0 R H ρ Δ σ S Q q xk => ha B R0 R H ρ Δ σ S _ (fun v R1 H1 S1 =>
  h1 B R0 R1 H1 _ _ σ S1 _ (fun R2 H2 S2 => h2 B R0 R2 H2 _ _ σ S2 _ (fun R3 H3 S3 => by
    obtain ⟨a, rfl, ha3⟩ := sx_top' S3
    refine ⟨a, _, rfl, (sx_same S3).seq ha3, fun p np => ?_⟩
    unfold cutV
    rw [List.length_map, ← List.map_drop, ← List.map_take]
    exact q _ R3 _ (sx_newl (sx_pop S3) np (paired_of_int _))) xk.push1) xk.push1) xk
theorem ev_cutS {l : Scr} {lo hi : Int} (ha : Ev c Γ ta (.im l)) (h1 : Ev c Γ tb (.im lo)) (h2 : Ev c Γ te (.im hi)) (h0 : 0 ≤ lo) (h3 : 0 ≤ hi) : Ev c Γ (tSl (rSlL c.Z.K) ta (tPart tb) (tPart te)) (.ol ((l.l.take hi.toNat).drop lo.toNat)) := by
  refine ev_is (ev_sliceS ha (eo_some h1) (eo_some h2)) (congrArg Sl.ol ?_)
  rw [sIx_of h0, sIx_of h3, List.drop_take]
  apply List.ext_getElem?
  intro k
  simp only [List.getElem?_take, List.getElem?_drop]
  grind
/-! own lists in a row of appends: an own list is frozen and appended -/
theorem ev_cat {_ : Rp α} {xs ys : List α} (ha : Ev c Γ ta (.im xs)) (hb : Ev c Γ tb (.im ys)) (hl : xs.length + ys.length < 1000000) : Ev c Γ (tOp gAdd ta tb) (.ol (xs ++ ys)) := ev_op ha hb fun B R0 R H ρ Δ σ v w S rv rw Q q => by
  obtain ⟨a, vs, rfl, h2, h3⟩ := rv
  obtain ⟨b, ws, rfl, h5, h6⟩ := rw
  have l1 := Paired.length h3
  have l2 := Paired.length h6
  exact .inr ⟨a, b, vs, ws, rfl, rfl, sx_same S _ _ h2, sx_same S _ _ h5, Nat.le_trans (by omega : vs.length + ws.length ≤ 1000000) (by decide), fun p np => q _ R _ (sx_newl S np (paired_append h3 h6))⟩
theorem ev_rep {_ : Rp α} {xs : List α} {k : Int} (ha : Ev c Γ ta (.im xs)) (hb : Ev c Γ tb (.im k)) (h0 : 0 ≤ k) (hl : xs.length * k.toNat ≤ 1000000) (hk : k < 1000000) : Ev c Γ (tOp gMul ta tb) (.ol (List.replicate k.toNat xs).flatten) := ev_op ha hb fun B R0 R H ρ Δ σ v w S rv rw Q q => by
  obtain ⟨a, vs, rfl, h2, h3⟩ := rv
  have l1 := Paired.length h3
  refine .inr (.inl ⟨a, k, vs, rfl, rw, sx_same S _ _ h2, by omega, by omega, by rw [l1]; exact Nat.le_trans hl (by decide), fun p np => q _ R _ (sx_newl S np ?_)⟩)
  generalize k.toNat = n
  induction n with
  | zero => exact .nil
  | succ n ih => rw [List.replicate_succ, List.replicate_succ, List.flatten_cons, List.flatten_cons]; exact paired_append h3 ih
/-- a call whose answer is told -/
theorem ev_callN {T : Tm} {t : TA} {ss : List Sl} (ha : EvA c Γ t ss) (hT : T (ss ++ []) (fun s' => s' = s) fun r => c.ex r Γ) : Ev c Γ (tCallSD (spOf c.Z T) [] (WE c.X) t) s := ev_call ha (fun _ => .nil) hT
theorem ev_callN0 {T : Tm} {t : TA} {ss : List Sl} (ha : EvA c Γ t ss) (hT : T (ss ++ []) (fun s' => s' = s) fun _ => False) : Ev c Γ (tCall (spOf c.Z T) [] E0 t) s := ev_call0 ha (fun _ => .nil) hT
end
theorem cmulS {i j : Int} (h1 : -1000000000000000000 ≤ i) (h2 : i ≤ 1000000000000000000) (h3 : -1000000000000000000 ≤ j) (h4 : j ≤ 1000000000000000000) : CMulW i j := wide_mul (a := 64) (b := 64) (by omega) (by omega) (by decide) (by decide) (by decide)
/-! ### a law -/
noncomputable def T_law : Tm := tm1 fun (l : Scr) ok _ => l.l.length ≤ 63 ∧ ok (.im true)
noncomputable def spLaw (K : PySem.W.Frag) : Sp := fun vs H Q _ => ∃ (a : Addr) (ns : List Int), vs = [.ref a] ∧ SqL K H a (ns.map V.int) ∧ ns.length ≤ 63 ∧ ∀ H', Q (.bl true) H'
theorem law_imp {K : PySem.W.Frag} {cls : CN → Addr} {vs : List V} {H : Hp} {Q : VK} {E : XK} (h : spLaw K vs H Q E) : spOf ⟨K, cls⟩ T_law vs H Q E := by
  obtain ⟨a, ns, rfl, hS, hl, k⟩ := h
  refine ⟨H, [.im (⟨ns⟩ : Scr)], fun s => s = .im true, fun _ => False, Same.refl _, .cons ⟨a, rfl, hS⟩ .nil, ⟨⟨ns⟩, rfl, hl, rfl⟩, fun v R' H' s S e => ?_, fun _ _ _ _ _ _ z => z.elim⟩
  subst e
  have : v = .bl true := sx_top' S
  subst this
  exact k H'
end TB

/-! TbL: own things lent to calls, frozen, own lists of own lists. -/
namespace TB
open PySem L2
/-! ### the frozen part and own things beside it -/
noncomputable def frz (R H : Hp) (f : List Addr) : Hp := fun p => match R p with | some o => some o | none => if p ∈ f then H p else none
theorem frz_same {R H : Hp} {f : List Addr} : Same R (frz R H f) := fun b o e => by unfold frz; rw [e]
theorem frz_le {R H : Hp} {f : List Addr} (h : Same R H) : Same (frz R H f) H := fun b o e => by
  unfold frz at e
  cases q : R b with
  | some o2 =>
    rw [q] at e
    have e' : o2 = o := by simpa using e
    rw [← e']
    exact h b o2 q
  | none =>
    rw [q] at e
    simp only [] at e
    by_cases c : b ∈ f
    · rw [if_pos c] at e; exact e
    · rw [if_neg c] at e; cases e
theorem res_frz {R H : Hp} {f : List Addr} (h : Same R H) : Same (res H f) (frz R H f) := fun b o e => by
  obtain ⟨c, e2⟩ := res_some e
  unfold frz
  cases q : R b with
  | some o2 =>
    have := h b o2 q
    rw [e2] at this
    simpa using this.symm
  | none => simp only []; rw [if_pos c]; exact e2
theorem frz_in {R H : Hp} {f : List Addr} {p : Addr} {o : HO} (h : Same R H) (c : p ∈ f) (e : H p = some o) : frz R H f p = some o := res_frz h p o (by rw [res_in c]; exact e)
theorem frz_out {R H : Hp} {f : List Addr} {p : Addr} (c : p ∉ f) : frz R H f p = R p := by
  unfold frz
  cases q : R p with
  | some o => rfl
  | none => simp [c]
/-- own data, told within its own objects -/
noncomputable def Fo {α : Type} [Rp α] (d : α) : Own := ⟨fun Z _ h v => Rp.rp Z h v d, fun _ h => h⟩
noncomputable abbrev Sl.fo {α : Type} [Rp α] (d : α) : Sl := .ow (Fo d)
/-- a thing may be lent, or frozen, as data d -/
noncomputable def Lnd (so : Sl) {α : Type} [Rp α] (d : α) : Prop := ∀ Z R H o f, Same R H → slok Z R H o so f → ∃ v, o = some v ∧ Rp.rp Z (frz R H f) v d
theorem inOk_rp {α : Type} [Rp α] {Z : Zz} {R H R' : Hp} (e : Same R R') : ∀ {qs : List Addr} {xss : List (List α)}, (∀ q ∈ qs, ∀ o, H q = some o → R' q = some o) → Paired (inOk Z R H) qs xss → Paired (Rp.rp Z R') (qs.map V.ref) xss
  | _, _, _, .nil => .nil
  | _, _, k, .cons r t => by
    obtain ⟨vs, h1, h2⟩ := r
    exact .cons ⟨_, vs, rfl, k _ List.mem_cons_self _ h1, paired_mono (fun _ _ => Rp.mono e) h2⟩ (inOk_rp e (fun q hq => k q (List.mem_cons_of_mem _ hq)) t)
theorem lnd_o2 {α : Type} [Rp α] {xss : List (List α)} : Lnd (.o2 xss) xss := fun Z R H o f sm h => by
  obtain ⟨p, qs, rfl, rfl, h3, h4⟩ := h
  exact ⟨_, rfl, p, _, rfl, frz_in sm (by simp) h3, inOk_rp frz_same (fun q hq o e => frz_in sm (List.mem_cons_of_mem _ hq) e) h4⟩
theorem lnd_fo {α : Type} [Rp α] {d : α} : Lnd (.fo d) d := fun Z R H o f sm h => by
  obtain ⟨v, rfl, h3, h4⟩ := h
  exact ⟨v, rfl, Rp.mono (res_frz sm) h3⟩
section
variable {Z : Zz} {B R0 R R' RL H H' : Hp} {τ ρ σ : List (Option V)} {Θ Δ Γ : List Sl} {s so : Sl} {o : Option V} {f own own' : List Addr} {α β γ : Type} {_ : Rp α} {_ : Rp β} {_ : Rp γ} {d : α}
theorem sy_frz (hL : Lnd so d) (S : Sy Z B R0 R H τ Θ) {i : Nat} (e : Θ[i]? = some so) : ∃ R', Same R R' ∧ Sy Z B R0 R' H τ (Θ.set i (.im d)) := by
  obtain ⟨own, hs, es⟩ := S
  obtain ⟨o, g1, f, g2, h2, h3, h4, h6⟩ := es_at es e
  subst h3
  obtain ⟨v, rfl, h5⟩ := hL Z R H o f hs.rh h4
  have nd := hs.nd
  have ne : ∀ q ∈ g1 ++ g2, q ∉ f := fun q hq z => by
    simp only [List.nodup_append, List.mem_append] at nd hq
    grind
  have h7 := h6 (frz R H f) H (some v) (.im d) [] frz_same (fun q hq => rfl) ⟨rfl, v, rfl, h5⟩
  have e2 : τ.set i (some v) = τ := by
    apply List.ext_getElem?
    intro j
    rw [List.getElem?_set]
    split
    · rename_i hj
      subst hj
      split
      · rw [h2]
      · rename_i hl
        rw [List.getElem?_eq_none (by omega)]
    · rfl
  rw [e2] at h7
  refine ⟨_, frz_same, _, ⟨frz_le hs.rh, hs.bh, hs.r0.trans frz_same, fun q u a => ?_, fun q hq => ?_, nd_mid hs.nd⟩, h7⟩
  · by_cases hq : q ∈ f
    · exact .inr (hs.ow q (by simp [hq])).2
    · rw [frz_out hq] at a
      exact hs.nw _ _ a
  · rw [List.append_nil] at hq
    rw [frz_out (ne q hq)]
    exact hs.ow q (by simp only [List.mem_append] at hq ⊢; grind)
theorem sx_frz (hL : Lnd so d) (S : Sx Z B R0 R H ρ Δ σ Γ) {i : Nat} (e : Γ[i]? = some so) : ∃ R', Same R R' ∧ Sx Z B R0 R' H ρ Δ σ (Γ.set i (.im d)) := by
  obtain ⟨h, S⟩ := S
  obtain ⟨R', h1, h2⟩ := sy_frz hL S (i := ρ.length + i) (by rw [at_slot h]; exact e)
  rw [h, List.set_append_right _ _ (by omega), show Δ.length + i - Δ.length = i by omega] at h2
  exact ⟨R', h1, h, h2⟩
theorem sx_frzTop (hL : Lnd so d) (S : Sx Z B R0 R H (o :: ρ) (so :: Δ) σ Γ) : ∃ R', Same R R' ∧ Sx Z B R0 R' H (o :: ρ) (.im d :: Δ) σ Γ := by
  obtain ⟨h, S⟩ := S
  obtain ⟨R', h1, h2⟩ := sy_frz hL S (i := 0) rfl
  exact ⟨R', h1, by simpa using h, h2⟩
/-! ### calls with things lent -/
end
/-- data that need no heap -/
class Flt (α : Type) [Rp α] : Prop where
  fl : ∀ {Z : Zz} {H H' : Hp} {v : V} {d : α}, Rp.rp Z H v d → Rp.rp Z H' v d
noncomputable instance : Flt Int := ⟨fun h => h⟩
noncomputable instance : Flt Bool := ⟨fun h => h⟩
noncomputable instance : Flt Unit := ⟨fun h => h⟩
noncomputable instance : Flt Str := ⟨fun h => h⟩
noncomputable instance {α : Type} [Rp α] [Flt α] : Flt (Option α) := ⟨fun {Z H H' v d} h => by
  cases d with
  | none => exact h
  | some x => exact Flt.fl (α := α) h⟩
section
variable {c : Cn} {Γ : List Sl} {ta tb te tl : TE} {tt tc : TT} {t u : TS} {s so : Sl} {α β γ : Type} {_ : Rp α} {_ : Rp β} {_ : Rp γ} {P : Po} {d : α}
theorem w_frz {d : α} (i : Nat) (hL : Lnd so d) (e : Γ[i]? = some so) (h : W c (Γ.set i (.im d)) t P) : W c Γ t P := fun B R0 R H ρ Δ σ D S n r b kk x => by
  obtain ⟨R', _, S'⟩ := sx_frz hL S e
  exact h B R0 R' H ρ Δ σ D S' n r b kk x
theorem w_fr2 {xss : List (List α)} (i : Nat) (e : Γ[i]? = some (.o2 xss)) (h : W c (Γ.set i (.im xss)) t P) : W c Γ t P := w_frz i lnd_o2 e h
theorem ev_frz {d : α} (hL : Lnd so d) (h : Ev c Γ te so) : Ev c Γ te (.im d) := fun B R0 R H ρ Δ σ S Q q x => h B R0 R H ρ Δ σ S Q (fun v R' H' S' => by
  obtain ⟨R2, _, S2⟩ := sx_frzTop hL S'
  exact q v R2 H' S2) x
theorem ev_frF {d : α} (h : Ev c Γ te (.fo d)) : Ev c Γ te (.im d) := ev_frz lnd_fo h
/-! ### == with a thing lent -/
end
/-! ### own lists of own lists -/
theorem paired_in_upd {α : Type} [Rp α] {Z : Zz} {R H : Hp} {q : Addr} {vs' : List V} {ys : List α} (hy : Paired (Rp.rp Z R) vs' ys) : ∀ {qs : List Addr} {xss : List (List α)} {j : Nat}, qs.Nodup → qs[j]? = some q → Paired (inOk Z R H) qs xss → Paired (inOk Z R (upd H q (.lst vs'))) qs (xss.set j ys)
  | _, _, j, _, e, .nil => by simp at e
  | a :: qs, _, 0, nd, e, .cons r t => by
    have e' : a = q := by simpa using e
    subst e'
    have nd' := List.nodup_cons.mp nd
    exact .cons ⟨vs', upd_same, hy⟩ (paired_inOk (Same.refl _) (fun p hp => upd_ne fun z => nd'.1 (z ▸ hp)) t)
  | a :: qs, _, j + 1, nd, e, .cons r t => by
    have nd' := List.nodup_cons.mp nd
    have e' : qs[j]? = some q := by simpa using e
    have ne : a ≠ q := fun z => nd'.1 (z ▸ List.mem_of_getElem? e')
    exact .cons (inOk_mono (Same.refl _) (upd_ne ne) r) (paired_in_upd hy nd'.2 e' t)
section
variable {Z : Zz} {B R0 R R' RL H H' : Hp} {τ ρ σ : List (Option V)} {Θ Δ Γ : List Sl} {s so : Sl} {o : Option V} {f own own' : List Addr} {α β γ : Type} {_ : Rp α} {_ : Rp β} {_ : Rp γ}
theorem set_same {τ : List (Option V)} {i : Nat} {o : Option V} (h2 : τ[i]? = some o) : τ.set i o = τ := by
  apply List.ext_getElem?
  intro j
  rw [List.getElem?_set]
  split
  · rename_i hj
    subst hj
    split
    · rw [h2]
    · rename_i hl
      rw [List.getElem?_eq_none (by omega)]
  · rfl
theorem sy_mut2 {xss : List (List α)} (S : Sy Z B R0 R H τ Θ) {i : Nat} (e : Θ[i]? = some (.o2 xss)) : ∃ p qs, τ[i]? = some (some (.ref p)) ∧ H p = some (.lst (qs.map V.ref)) ∧ Paired (inOk Z R H) qs xss ∧
    ∀ (j : Nat) (q : Addr) (vs' : List V) (ys : List α), qs[j]? = some q → Paired (Rp.rp Z R) vs' ys → Sy Z B R0 R (upd H q (.lst vs')) τ (Θ.set i (.o2 (xss.set j ys))) := by
  obtain ⟨own, hs, es⟩ := S
  obtain ⟨o, g1, f, g2, h2, h3, ⟨p, qs, rfl, rfl, h4, h5⟩, h6⟩ := es_at es e
  subst h3
  refine ⟨p, qs, h2, h4, h5, fun j q vs' ys hq hy => ?_⟩
  have hqm : q ∈ qs := List.mem_of_getElem? hq
  have hp := hs.ow q (by simp [hqm])
  have nd := hs.nd
  have ne : ∀ b ∈ g1 ++ g2, b ≠ q := fun b hb z => by
    subst z
    simp only [List.nodup_append, List.mem_append, List.mem_cons] at nd hb
    grind
  have ndq : (p :: qs).Nodup := by
    simp only [List.nodup_append] at nd
    exact nd.1.2.1
  have ndq' := List.nodup_cons.mp ndq
  have np : p ≠ q := fun z => ndq'.1 (z ▸ hqm)
  have h7 := h6 R (upd H q (.lst vs')) (some (.ref p)) (.o2 (xss.set j ys)) (p :: qs) (Same.refl _) (fun b hb => upd_ne (ne b hb)) ⟨p, qs, rfl, rfl, by rw [upd_ne np]; exact h4, paired_in_upd hy ndq'.2 hq h5⟩
  rw [set_same h2] at h7
  exact ⟨_, ⟨fun b u a => by rw [upd_ne (ne_of_none a hp.1)]; exact hs.rh _ _ a, fun b u a => by rw [upd_ne (ne_of_none a hp.2)]; exact hs.bh _ _ a, hs.r0, hs.nw, hs.ow, hs.nd⟩, h7⟩
theorem sx_mut2 {xss : List (List α)} (S : Sx Z B R0 R H ρ Δ σ Γ) {i : Nat} (e : Γ[i]? = some (.o2 xss)) : ∃ p qs, σ[i]? = some (some (.ref p)) ∧ H p = some (.lst (qs.map V.ref)) ∧ Paired (inOk Z R H) qs xss ∧
    ∀ (j : Nat) (q : Addr) (vs' : List V) (ys : List α), qs[j]? = some q → Paired (Rp.rp Z R) vs' ys → Sx Z B R0 R (upd H q (.lst vs')) ρ Δ σ (Γ.set i (.o2 (xss.set j ys))) := by
  obtain ⟨h, S⟩ := S
  obtain ⟨p, qs, h1, h2, h3, h4⟩ := sy_mut2 S (i := ρ.length + i) (by rw [at_slot h]; exact e)
  rw [at_slot'] at h1
  refine ⟨p, qs, h1, h2, h3, fun j q vs' ys hq hy => ⟨h, ?_⟩⟩
  have q2 := h4 j q vs' ys hq hy
  rw [h, List.set_append_right _ _ (by omega), show Δ.length + i - Δ.length = i by omega] at q2
  exact q2
theorem sx_new2 (S : Sx Z B R0 R H ρ Δ σ Γ) {p : Addr} (hp : H p = none) : Sx Z B R0 R (upd H p (.lst [])) (some (.ref p) :: ρ) (.o2 ([] : List (List α)) :: Δ) σ Γ := by
  have S2 := sx_newl (α := α) S hp .nil
  obtain ⟨hl, own, hs, f, g, rfl, ⟨p', vs, rfl, h2, h3, h4⟩, h5⟩ := S2
  cases h2
  rw [upd_same] at h3
  cases h3
  exact ⟨hl, _, hs, [p], g, rfl, ⟨p, [], rfl, rfl, upd_same, .nil⟩, h5⟩
theorem sx_app2 {xs : List α} {xss : List (List α)} {w : V} {Dl : Addr} (S : Sx Z B R0 R H (some w :: some (.ref Dl) :: ρ) (.ol xs :: .o2 xss :: Δ) σ Γ) : ∃ vs, H Dl = some (.lst vs) ∧ vs.length = xss.length ∧ Sx Z B R0 R (upd H Dl (.lst (vs ++ [w]))) (some (.ref Dl) :: ρ) (.o2 (xss ++ [xs]) :: Δ) σ Γ := by
  obtain ⟨hl, own, hs, f, g, rfl, ⟨q, vs, rfl, h2, h3, h4⟩, f2, g2, rfl, ⟨p, qs, rfl, h6, h7, h8⟩, h9⟩ := S
  cases h2
  cases h6
  have nd := hs.nd
  have hp := hs.ow Dl (by simp)
  have ndp : Dl ≠ q ∧ Dl ∉ qs ∧ Dl ∉ g2 := by
    simp only [List.nodup_append, List.nodup_cons, List.mem_append, List.mem_cons, List.mem_singleton] at nd
    grind
  refine ⟨_, h7, by rw [List.length_map, Paired.length h8], by simpa using hl, (Dl :: (qs ++ [q])) ++ g2, ⟨fun b u a => by rw [upd_ne (ne_of_none a hp.1)]; exact hs.rh _ _ a, fun b u a => by rw [upd_ne (ne_of_none a hp.2)]; exact hs.bh _ _ a, hs.r0, hs.nw, fun b hb => hs.ow b ?_, ?_⟩, Dl :: (qs ++ [q]), g2, rfl, ⟨Dl, qs ++ [q], rfl, rfl, ?_, ?_⟩, es_mono (Same.refl _) (fun b hb => upd_ne fun z => ndp.2.2 (z ▸ hb)) h9⟩
  · simp only [List.mem_append, List.mem_cons, List.mem_singleton, List.not_mem_nil, or_false] at hb ⊢
    grind
  · simp only [List.nodup_append, List.nodup_cons, List.mem_append, List.mem_cons, List.mem_singleton, List.cons_append, List.nil_append, List.append_assoc, List.not_mem_nil, or_false] at nd ⊢
    grind
  · rw [upd_same, List.map_append]
    rfl
  · exact paired_append (paired_inOk (Same.refl _) (fun b hb => upd_ne fun z => ndp.2.1 (z ▸ hb)) h8) (.cons ⟨vs, by rw [upd_ne (Ne.symm ndp.1)]; exact h3, h4⟩ .nil)
end
section
variable {c : Cn} {Γ : List Sl} {ta tb te tl : TE} {tt tc : TT} {t u : TS} {s so : Sl} {α β γ : Type} {_ : Rp α} {_ : Rp β} {_ : Rp γ} {P : Po} {d : α}
theorem ev_lc2 {wi : TI} {g : TG} {n : Nat} {us : Nat → List Sl → List Sl} {js vs : List Nat} (p : Nat → Bool) (f : Nat → List α) (hi : EvI c Γ wi g n us js) (hn : n < 1000000) (hj : ∀ j ∈ js, j ∈ vs) (hu : UnAt Γ vs)
    (ht : ∀ i, i < n → EvT c.no (us i Γ) tt (p i)) (he : ∀ i, i < n → p i = true → Ev c.no (us i Γ) te (.ol (f i))) : Ev c Γ (tLc wi g tt te vs) (.o2 (kept p f n)) := fun B R0 R H ρ Δ σ S Q q x =>
  hi B R0 R H ρ Δ σ S _ (fun J R1 H1 ρ' Δ' hl S1 ok Dl hD => by
    refine ⟨fun i m H => m = n - i ∧ i ≤ n ∧ ∃ R, Sx c.Z B R0 R H (some (.ref Dl) :: (ρ' ++ ρ)) (.o2 (kept p f i) :: (Δ' ++ Δ)) σ Γ, ⟨n, by simp, Nat.zero_le _, R1, sx_new2 S1 hD⟩, ?_⟩
    rintro i m H2 ⟨rfl, hin, R2, S2⟩
    by_cases hlt : i < n
    · refine .inr ⟨ok.go (ρx := [some (.ref Dl)]) (Δx := [.o2 (kept p f i)]) rfl S2 hlt, fun H' => ∃ R, Sx c.Z B R0 R H' (some (.ref Dl) :: (ρ' ++ ρ)) (.o2 (kept p f (i + 1)) :: (Δ' ++ Δ)) σ Γ, fun H' h => ⟨n - (i + 1), by omega, rfl, hlt, h⟩, fun y H' hy => ?_⟩
      have S2w := sx_wipe S2 vs
      rw [wipeG_un hu] at S2w
      refine ok.yld (ρx := [some (.ref Dl)]) (Δx := [.o2 (kept p f i)]) rfl S2w hlt hy _ fun R3 σ3 H3 S3 hw => ⟨(hw vs hj).trans (wipe_wipe _ vs), ?_⟩
      have back : ∀ {R4 H4 : Hp} {o : Option V} {s : Sl}, Sx c.Z B R0 R4 H4 (o :: (ρ' ++ ρ)) (s :: (Δ' ++ Δ)) σ3 (us i Γ) → Sx c.Z B R0 R4 H4 (o :: (ρ' ++ ρ)) (s :: (Δ' ++ Δ)) σ Γ := fun S4 => by
        have q4 := sx_wipe S4 vs
        rw [hw vs hj, wipe_wipe, ok.back i Γ vs hj, wipeG_un hu] at q4
        exact sx_unwipe hu q4
      refine ht i hlt B R0 R3 H3 _ _ σ3 S3 _ (fun R4 H4 S4 => ?_) (Xok.no c _ _ _ _)
      cases hp : p i with
      | false =>
        refine ⟨R4, ?_⟩
        rw [kept_no hp]
        exact back S4
      | true =>
        refine he i hlt hp B R0 R4 H4 _ _ σ3 S4 _ (fun w R5 H5 S5 => ?_) (Xok.no c _ _ _ _)
        obtain ⟨vs1, h1, h2, h3⟩ := sx_app2 S5
        have hl2 := kept_len p f i
        refine ⟨vs1, h1, Nat.lt_of_lt_of_le (by omega : vs1.length < 1000000) (by decide), R5, ?_⟩
        rw [kept_yes hp]
        exact back h3
    · have e : i = n := by omega
      subst e
      exact .inl ⟨ok.stop (ρx := [some (.ref Dl)]) (Δx := [.o2 (kept p f i)]) rfl S2, q _ R2 H2 (sx_drop1 hl S2)⟩) x
/-- [own list for x in xs] -/
theorem ev_mapL2 {xs : List α} {j : Nat} {vs : List Nat} (f : α → List β) (h : Ev c Γ tl (.im xs)) (hn : xs.length < 1000000) (hj : j ∈ vs) (hu : UnAt Γ vs) (he : ∀ x, x ∈ xs → Ev c.no (Γ.set j (.im x)) te (.ol (f x))) : Ev c Γ (tLc (iList c.Z.K tl) (gName j) tYes te vs) (.o2 (xs.map f)) := by
  refine ev_is (ev_lc2 (fun _ => true) (fun i => f (xs.getD i Rp.df)) (ei_list h) hn (fun k hk => by simp at hk; rw [hk]; exact hj) hu (fun i hi => fun B R0 R H ρ Δ σ S Q q _ => q R H S) (fun i hi _ => he _ (by rw [getD_eq hi]; exact List.getElem_mem hi))) ?_
  rw [kept_all]
  refine congrArg Sl.o2 (List.ext_getElem (by simp) fun i h1 h2 => ?_)
  simp at h1
  simp [h1]
/-- [list(row) for row in table], the table own -/
theorem ev_copyT2 {xss : List (List β)} {j : Nat} (h : Ev c Γ tl (.im xss)) (hn : xss.length < 1000000) (hu : UnAt Γ [j]) (hv : ∀ r : List β, (Γ.set j (.im r))[j]? = some (.im r)) : Ev c Γ (tLc (iList c.Z.K tl) (gName j) tYes (tCB (gList c.Z.K) (tCons (tVar j) tNil)) [j]) (.o2 xss) :=
  ev_is (ev_mapL2 (xs := xss) (fun r => r) h hn (by simp) hu fun r _ => ev_list (ev_var (hv r))) (congrArg Sl.o2 (List.map_id' _))
/-- worth d, the heap as it was -/
noncomputable def EvP (c : Cn) (Γ : List Sl) (t : TE) {α : Type} [Rp α] (d : α) : Prop := ∀ B R0 R H ρ Δ σ, Sx c.Z B R0 R H ρ Δ σ Γ → ∀ Q : VK, (∀ v, Rp.rp c.Z R v d → Q v H) → t σ H Q
theorem ep_var {d : α} {i : Nat} (e : Γ[i]? = some (.im d)) : EvP c Γ (tVar i) d := fun B R0 R H ρ Δ σ S Q q => by
  obtain ⟨v, h1, h2⟩ := sx_im S e
  exact ⟨v, h1, q v h2⟩
theorem ep_ix {xs : List α} {i : Int} (ha : EvP c Γ ta xs) (hb : EvP c Γ tb i) (h0 : 0 ≤ i) (h1 : i < xs.length) : EvP c Γ (tOp (gIx c.Z.K) ta tb) (gt xs i) := fun B R0 R H ρ Δ σ S Q q => ha B R0 R H ρ Δ σ S _ fun v rv => hb B R0 R H ρ Δ σ S _ fun w rw => by
  obtain ⟨a, vs, rfl, ha, hp⟩ := rv
  obtain ⟨k, hk, rk⟩ := paired_get hp (gt_some h0 h1)
  exact .inl ⟨a, vs, i, k, rfl, rw, SqL.of (sx_same S _ _ ha), atI_of h0 (by rw [Paired.length hp]; exact h1) hk, q k rk⟩
/-- xss[i][j] = y -/
theorem w_put2 {k : Nat} {xss : List (List α)} {y : α} {i j : Int} (e : Γ[k]? = some (.o2 xss)) (h : Ev c Γ te (.im y)) (hi : EvP c Γ ta i) (hj : EvP c Γ tb j) (h0 : 0 ≤ i) (h1 : i < xss.length) (h2 : 0 ≤ j) (h3 : j < (gt xss i).length)
    (kk : P.nx (Γ.set k (.o2 (xss.set i.toNat ((gt xss i).set j.toNat y))))) : W c Γ (tAsg te (gSub (tOp (gIx c.Z.K) (tVar k) ta) tb gSet)) P := fun B R0 R H ρ Δ σ D S n r bb kk' x =>
  h B R0 R H ρ Δ σ S _ (fun w R1 H1 S1 => by
    obtain ⟨p, qs, g2, g3, g4, g5⟩ := sx_mut2 (sx_pop S1) e
    have ew := sx_top' S1
    refine ⟨.ref p, g2, hi B R0 R1 H1 _ _ σ S1 _ fun z ez => ?_⟩
    obtain ⟨q, hq, vs, hH, hp⟩ := paired_get g4 (gt_some h0 h1)
    refine .inl ⟨p, qs.map V.ref, i, .ref q, rfl, ez, SqL.of g3, atI_of h0 (by rw [List.length_map, Paired.length g4]; exact h1) (by rw [List.getElem?_map, hq]; rfl), ?_⟩
    refine hj B R0 R1 H1 _ _ σ S1 _ fun z2 ez2 => .inl ?_
    exact ⟨q, vs, j, j.toNat, rfl, ez2, hH, ixN_of h2 (by rw [Paired.length hp]; exact h3), n R1 _ _ _ (g5 i.toNat q _ _ hq (paired_set ew _ hp)) kk⟩) x
end
end TB
namespace TB
open PySem L2
section
variable {Z : Zz} {B R0 R R' RL H H' : Hp} {τ ρ σ : List (Option V)} {Θ Δ Γ : List Sl} {s so : Sl} {o : Option V} {f own own' : List Addr}
/-- slot i's thing is taken to the top -/
theorem sy_take (S : Sy Z B R0 R H τ Θ) {i : Nat} (e : Θ[i]? = some s) : ∃ o, τ[i]? = some o ∧ Sy Z B R0 R H (o :: τ) (s :: Θ.set i .un) := by
  obtain ⟨own, hs, es⟩ := S
  obtain ⟨o, g1, f, g2, h2, h3, h4, h6⟩ := es_at es e
  subst h3
  have h7 := h6 R H o .un [] (Same.refl _) (fun _ _ => rfl) rfl
  rw [set_same h2, List.append_nil] at h7
  refine ⟨o, h2, f ++ (g1 ++ g2), hs_sub hs (fun p hp => ?_) ?_, f, g1 ++ g2, rfl, h4, h7⟩
  · simp only [List.mem_append] at hp ⊢
    grind
  · have nd := hs.nd
    simp only [List.nodup_append, List.mem_append] at nd ⊢
    grind
theorem sx_take (S : Sx Z B R0 R H ρ Δ σ Γ) {i : Nat} (e : Γ[i]? = some s) : ∃ o, σ[i]? = some o ∧ Sx Z B R0 R H (o :: ρ) (s :: Δ) σ (Γ.set i .un) := by
  obtain ⟨h, S⟩ := S
  obtain ⟨o, h1, h2⟩ := sy_take S (i := ρ.length + i) (by rw [at_slot h]; exact e)
  rw [at_slot'] at h1
  rw [h, List.set_append_right _ _ (by omega), show Δ.length + i - Δ.length = i by omega] at h2
  exact ⟨o, h1, by simp [h], h2⟩
end
section
variable {c : Cn} {Γ : List Sl} {ta tb te tl : TE} {tt tc : TT} {t u : TS} {s so : Sl} {α β γ : Type} {_ : Rp α} {_ : Rp β} {_ : Rp γ} {P : Po} {d : α}
/-- a thing of some kind: a value stands there -/
noncomputable def Val (s : Sl) : Prop := ∀ Z R H o f, slok Z R H o s f → ∃ v, o = some v
theorem val_ol {xs : List α} : Val (.ol xs) := fun _ _ _ _ _ ⟨p, _, _, h, _⟩ => ⟨_, h⟩
theorem val_o2 {xss : List (List α)} : Val (.o2 xss) := fun _ _ _ _ _ ⟨p, _, _, h, _⟩ => ⟨_, h⟩
/-- an own thing is told -/
theorem w_retO {i : Nat} (hv : Val so) (e : Γ[i]? = some so) (k : P.rt so) : W c Γ (tRet (tVar i)) P := fun B R0 R H ρ Δ σ D S n r b kk x => by
  obtain ⟨o, h1, S2⟩ := sx_take S e
  obtain ⟨o2, f, h2, h3⟩ := sx_slot S e
  obtain ⟨v, rfl⟩ := hv _ _ _ _ _ h3
  rw [h1] at h2
  cases h2
  exact ⟨v, h1, r R H v so (sx_leave S2) k⟩
/-- a group of own parts is told -/
theorem w_retGroup {rows : List (List Int)} {unit : Int} {backs : List Int} {i j : Nat} (hZ : GrpC c.Z) (h : Ev c Γ ta (.o2 rows)) (hi : Γ[i]? = some (.im unit)) (hj : Γ[j]? = some (.ol backs)) (k : P.rt (.fo (⟨rows.length, rows, unit, backs⟩ : Grp))) : W c Γ (tRet (tMake (c.Z.cls .Group) (spI_Group c.Z) [] E0 (tCons ta (tCons (tVar i) (tCons (tVar j) tNil))))) P := fun B R0 R H ρ Δ σ D S n r b kk xk =>
  h B R0 R H ρ Δ σ S _ (fun v R1 H1 S1 => by
    obtain ⟨v2, g1, g2⟩ := sx_im S1 hi
    have hu : v2 = .int unit := g2
    subst hu
    obtain ⟨o3, g3, S2⟩ := sx_take S1 hj
    obtain ⟨hl, own, hs, f, g, rfl, ⟨p3, vs3, rfl, rfl, h3, h4⟩, f2, g', rfl, ⟨p1, qs, rfl, h6, h7, h8⟩, h9⟩ := sx_leave S2
    cases h6
    refine ⟨_, g1, _, g3, fun x dx nx ndx hne => ?_⟩
    have nlx : p1 ≠ x := fun e => by subst e; rw [nx] at h7; cases h7
    have nld : p1 ≠ dx := fun e => by subst e; rw [ndx] at h7; cases h7
    refine ⟨x, dx, p1, qs.map V.ref, _, _, rfl, upd_same, by rw [upd_ne nlx, upd_ne nld]; exact h7, hZ, fun H2 q1 q2 => ⟨rfl, ?_⟩⟩
    have old : ∀ p, H1 p ≠ none → H2 p = H1 p := fun p hp => by
      have a1 : p ≠ x := fun e => hp (e ▸ nx)
      have a2 : p ≠ dx := fun e => hp (e ▸ ndx)
      rw [q2 p a1, upd_ne a1, upd_ne a2]
    have sm : Same H1 H2 := fun p o e => by rw [old p (by rw [e]; simp)]; exact e
    have hd : H2 dx ≠ none := by rw [q2 dx hne, upd_ne hne, upd_same]; simp
    have hx : H2 x ≠ none := by rw [q1]; simp
    have own_old : ∀ p ∈ p3 :: ((p1 :: qs) ++ g'), H1 p ≠ none := by
      intro p hp
      have es2 : Es c.Z R1 H1 (some (.ref p3) :: some (.ref p1) :: (ρ ++ [])) (.ol backs :: .o2 rows :: (Δ ++ [])) (p3 :: ((p1 :: qs) ++ g')) := ⟨[p3], _, rfl, ⟨p3, vs3, rfl, rfl, h3, h4⟩, p1 :: qs, g', rfl, ⟨p1, qs, rfl, rfl, h7, h8⟩, h9⟩
      exact es_some es2 p hp
    have nin : ∀ p, H1 p = none → p ∉ p3 :: ((p1 :: qs) ++ g') := fun p hp z => own_old p z hp
    have e3 : H2 p3 = some (.lst vs3) := by rw [old p3 (by rw [h3]; simp)]; exact h3
    have e7 : H2 p1 = some (.lst (qs.map V.ref)) := by rw [old p1 (by rw [h7]; simp)]; exact h7
    refine r R1 H2 _ (.fo (⟨rows.length, rows, unit, backs⟩ : Grp)) ⟨by simpa using hl, (x :: dx :: p3 :: p1 :: qs) ++ g', ⟨hs.rh.trans sm, hs.bh.trans sm, hs.r0, hs.nw, fun p hp => ?_, ?_⟩, x :: dx :: p3 :: p1 :: qs, g', rfl, ⟨_, rfl, ?_, fun p hp => ?_⟩, es_mono (Same.refl _) (fun p hp => old p (own_old p (by simp [hp]))) h9⟩ k
    · simp only [List.cons_append, List.mem_cons] at hp
      rcases hp with rfl | rfl | hp
      · exact ⟨hs.rh.free nx, hs.bh.free nx⟩
      · exact ⟨hs.rh.free ndx, hs.bh.free ndx⟩
      · exact hs.ow p (by simpa using hp)
    · have n1 := nin x nx
      have n2 := nin dx ndx
      have nd := hs.nd
      simp only [List.cons_append, List.nil_append] at nd n1 n2 ⊢
      refine List.nodup_cons.mpr ⟨?_, List.nodup_cons.mpr ⟨n2, nd⟩⟩
      simp only [List.mem_cons] at n1 ⊢
      rintro (z | z)
      · exact hne z.symm
      · exact n1 z
    · refine ⟨hZ, x, dx, _, _, _, _, rfl, by rw [res_in (by simp)]; exact q1, by rw [List.length_map, Paired.length h8]; rfl, ⟨p1, _, rfl, by rw [res_in (by simp)]; exact e7, ?_⟩, rfl, p3, vs3, rfl, by rw [res_in (by simp)]; exact e3, paired_mono (fun _ _ => Flt.fl) h4⟩
      have h8' : Paired (inOk c.Z (fun _ => none) H1) qs rows := paired_mono (fun _ _ ⟨vs, a, b⟩ => ⟨vs, a, paired_mono (fun _ _ => Flt.fl) b⟩) h8
      exact inOk_rp (fun _ _ e => by cases e) (fun q hq o e => by rw [res_in (by simp [hq]), old q (by rw [e]; simp)]; exact e) h8'
    · simp only [List.mem_cons] at hp
      rcases hp with rfl | rfl | hp
      · exact hx
      · exact hd
      · have : H1 p ≠ none := own_old p (by simp only [List.mem_cons, List.mem_append]; grind)
        rw [old p this]
        exact this) xk
end
end TB
namespace TB
open PySem L2
section
variable {c : Cn} {Γ : List Sl} {ta tb te tl : TE} {tt tc : TT} {t u : TS} {s so : Sl} {α β γ : Type} {_ : Rp α} {_ : Rp β} {_ : Rp γ} {P : Po} {d : α}
/-- x, y = a, b -/
theorem w_par {x : α} {y : β} {i j : Nat} (ha : Ev c Γ ta (.im x)) (hb : Ev c Γ tb (.im y)) (k : P.nx ((Γ.set i (.im x)).set j (.im y))) : W c Γ (tPar i j (tCons ta (tCons tb tNil))) P := fun B R0 R H ρ Δ σ D S n r b kk xk =>
  (ea_cons ha (ea_cons hb ea_nil)) B R0 R H ρ Δ σ S _ (fun vs R1 H1 S1 sl => by
    cases sl with
    | cons r1 t1 =>
      cases t1 with
      | cons r2 t2 =>
        cases t2
        rename_i v w
        exact ⟨v, w, rfl, n R1 H1 _ _ (sx_asg (sx_push (sx_asg (sx_push S1 r1) i) r2) j) k⟩) xk
/-- xs.insert(i, y) -/
theorem w_ins {k : Nat} {xs : List α} {y : α} {i : Int} (e : Γ[k]? = some (.ol xs)) (hi : Ev c Γ ta (.im i)) (h : Ev c Γ te (.im y)) (h0 : 0 ≤ i) (h1 : i < 2 ^ 63) (hl : xs.length < 1000000) (kk : P.nx (Γ.set k (.ol (xs.take i.toNat ++ [y] ++ xs.drop i.toNat)))) : W c Γ (tDrop (tBM c.Z.K "list" gInsert (tVar k) (tCons ta (tCons te tNil)))) P := fun B R0 R H ρ Δ σ D S n r bb kk' x => by
  obtain ⟨p, vs, h2, h3, h4, _⟩ := sx_mutl S e
  refine ⟨.ref p, h2, tyL h3, (ea_cons hi (ea_cons h ea_nil)) B R0 R H ρ Δ σ S _ (fun ws R1 H1 S1 sl => ?_) x⟩
  cases sl with
  | cons r1 t1 =>
    cases t1 with
    | cons r2 t2 =>
      cases t2
      rename_i v w
      obtain ⟨p', vs', h2', h3', h4', h5⟩ := sx_mutl S1 e
      rw [h2] at h2'
      cases h2'
      have hl' := Paired.length h4'
      have rv : v = .int i := r1
      subst rv
      exact ⟨p, vs', i, w, rfl, rfl, h3', Nat.lt_of_lt_of_le (by omega : vs'.length < 1000000) (by decide), h0, h1, n R1 _ _ _ (h5 _ _ (paired_append (paired_append (paired_take _ h4') (.cons r2 .nil)) (paired_drop _ h4'))) kk⟩
end
theorem irange_suc {n : Int} (h : 0 ≤ n) : irange (n + 1) = irange n ++ [n] := by
  unfold irange
  rw [show (n + 1).toNat = n.toNat + 1 by omega, List.range_succ, List.map_append, List.map_singleton, show ((n.toNat : Nat) : Int) = n by omega]
theorem irange_0 : irange 0 = [] := rfl
end TB
namespace TB
open PySem L2
section
variable {c : Cn} {Γ : List Sl} {ta tb te tl : TE} {tt tc : TT} {t u : TS} {s so : Sl} {α β γ : Type} {_ : Rp α} {_ : Rp β} {_ : Rp γ} {P : Po} {d : α}
theorem w_appS {i : Nat} {xs : List α} {S : Sl → Prop} (e : Γ[i]? = some (.ol xs)) (h : EvS c Γ te S) (hl : xs.length < 1000000) (k : ∀ s, S s → ∃ y : α, s = .im y ∧ P.nx (Γ.set i (.ol (xs ++ [y])))) : W c Γ (tDrop (tBM c.Z.K "list" rAppend (tVar i) (tCons te tNil))) P := fun B R0 R H ρ Δ σ D S0 n r bb kk x => by
  obtain ⟨p, vs, h2, h3, h4, _⟩ := sx_mutl S0 e
  refine ⟨.ref p, h2, tyL h3, h B R0 R H ρ Δ σ S0 _ (fun w s R1 H1 es S1 => ?_) x⟩
  obtain ⟨y, rfl, kn⟩ := k s es
  obtain ⟨p', vs', h2', h3', h4', h5⟩ := sx_mutl (sx_pop S1) e
  rw [h2] at h2'
  cases h2'
  have hl' := Paired.length h4'
  exact ⟨p, vs', w, rfl, rfl, h3', Nat.lt_of_lt_of_le (by omega : vs'.length < 1000000) (by decide), n R1 _ _ _ (h5 (vs' ++ [w]) (xs ++ [y]) (paired_append h4' (.cons (sx_top' S1) .nil))) kn⟩
end
end TB
namespace TB
open PySem L2
section
variable {Z : Zz} {B R0 R R' RL H H' : Hp} {τ ρ σ : List (Option V)} {Θ Δ Γ : List Sl} {s so : Sl} {o : Option V} {f own own' : List Addr}
end
section
variable {c : Cn} {Γ : List Sl} {ta tb te tl : TE} {tt tc : TT} {t u : TS} {s so : Sl} {α β γ : Type} {_ : Rp α} {_ : Rp β} {_ : Rp γ} {P : Po} {d : α}
end
end TB

/-! TbM: more rules. -/
namespace TB
open PySem L2
section
variable {c : Cn} {Γ : List Sl} {ta tb te tl : TE} {tt tc : TT} {t u : TS} {s so : Sl} {α β γ : Type} {_ : Rp α} {_ : Rp β} {_ : Rp γ} {P : Po} {d : α}
end
end TB

/-! TbW: methods of own classes, own classes made, where something may be raised. -/
namespace TB
open PySem PySem.Spec PyProof.Rows L2
section
variable {X : Cx} {CX : CXT} {k : Nat} {f C : Addr} {fd : FuncData} {ps : List Str} {sp : Sp} {dvs : List V} {ds : List Value} {E : L2.St → XK} {x m : Str} {p pos apos : Pos} {e o : Expr} {es : List Expr} {ta : TE} {t : TA}
end
end TB

/-! TbT: own trees: lists and tuples, one in another, all of this frame's own. -/
namespace TB
open PySem L2
inductive OT where
  | i (n : Int)
  | b (x : Bool)
  | z
  | l (xs : List OT)
  | t (xs : List OT)
end TB
namespace TB
open PySem L2
/-- s may be told as s' -/
noncomputable def SubS (s s' : Sl) : Prop := ∀ Z R H o f, f.Nodup → slok Z R H o s f → ∃ f', f'.Nodup ∧ (∀ p ∈ f', p ∈ f) ∧ slok Z R H o s' f'
section
variable {Z : Zz} {B R0 R R' RL H H' : Hp} {τ ρ σ : List (Option V)} {Θ Δ Γ : List Sl} {s s' so : Sl} {o : Option V} {f own own' : List Addr} {α β γ : Type} {_ : Rp α} {_ : Rp β} {_ : Rp γ} {T U : OT}
/-- the top's own objects -/
theorem sx_ownTop (S : Sx Z B R0 R H (o :: ρ) (s :: Δ) σ Γ) : ∃ f, slok Z R H o s f ∧ f.Nodup ∧
    ∀ (H' : Hp) (o' : Option V) (s' : Sl) (f' : List Addr), (∀ p, p ∉ f → H' p = H p) → f'.Nodup → (∀ p ∈ f', p ∈ f) → slok Z R H' o' s' f' → Sx Z B R0 R H' (o' :: ρ) (s' :: Δ) σ Γ := by
  obtain ⟨hl, own, hs, f, g, rfl, h1, h2⟩ := S
  have nd := hs.nd
  refine ⟨f, h1, by simp only [List.nodup_append] at nd; exact nd.1, fun H' o' s' f' k ndf sub h5 => ⟨by simpa using hl, f' ++ g, ⟨fun p o a => ?_, fun p o a => ?_, hs.r0, hs.nw, fun p hp => hs.ow p ?_, ?_⟩, f', g, rfl, h5, es_mono (Same.refl _) (fun p hp => k p fun z => ?_) h2⟩⟩
  · rw [k p fun z => by have := (hs.ow p (by simp [z])).1; rw [a] at this; cases this]; exact hs.rh _ _ a
  · rw [k p fun z => by have := (hs.ow p (by simp [z])).2; rw [a] at this; cases this]; exact hs.bh _ _ a
  · simp only [List.mem_append] at hp ⊢
    rcases hp with hp | hp
    · exact .inl (sub p hp)
    · exact .inr hp
  · simp only [List.nodup_append] at nd ⊢
    exact ⟨ndf, nd.2.1, fun a ha b hb => nd.2.2 a (sub a ha) b hb⟩
  · simp only [List.nodup_append] at nd
    exact nd.2.2 p z p hp rfl
theorem sx_subTop (h : SubS s s') (S : Sx Z B R0 R H (o :: ρ) (s :: Δ) σ Γ) : Sx Z B R0 R H (o :: ρ) (s' :: Δ) σ Γ := by
  obtain ⟨f, h2, h3, h4⟩ := sx_ownTop S
  obtain ⟨f', h5, h6, h7⟩ := h Z R H o f h3 h2
  exact h4 H o s' f' (fun _ _ => rfl) h5 h6 h7
end
end TB
namespace TB
open PySem L2
section
variable {c : Cn} {Γ : List Sl} {ta tb te tl ty : TE} {tt tc : TT} {t u : TS} {s s' so : Sl} {α β γ : Type} {_ : Rp α} {_ : Rp β} {_ : Rp γ} {P : Po} {d : α} {T U : OT}
theorem ev_subS (q : SubS s s') (h : Ev c Γ te s) : Ev c Γ te s' := fun B R0 R H ρ Δ σ S Q k x => h B R0 R H ρ Δ σ S Q (fun v R1 H1 S1 => k v R1 H1 (sx_subTop q S1)) x
end
end TB
namespace TB
open PySem L2
section
variable {c : Cn} {Γ : List Sl} {ta tb te tl ty : TE} {tt tc : TT} {t u : TS} {s s' so : Sl} {α β γ : Type} {_ : Rp α} {_ : Rp β} {_ : Rp γ} {P : Po} {d : α} {T U : OT}
end
end TB

local macro_rules | `(tactic| walk_at "nz") => `(tactic| try dsimp only [List.set_cons_zero, List.set_cons_succ, List.replicate, List.length_cons, List.length_nil, List.append_nil, List.cons_append, List.nil_append])
local macro_rules | `(tactic| walk_at "sd") => `(tactic| first | assumption | rfl | omega | (simp only [List.length_cons, List.length_nil]; omega) | skip)
local macro_rules | `(tactic| walk_at "ev1") => `(tactic| first
  | with_reducible exact TB.ev_int
  | with_reducible exact TB.ev_bl
  | with_reducible exact TB.ev_str
  | exact TB.ev_var rfl
  | with_reducible exact TB.ev_non
  | exact TB.ev_none
  | ((with_reducible apply TB.ev_add) <;> walk_at "ev")
  | ((with_reducible apply TB.ev_sub) <;> walk_at "ev")
  | ((with_reducible apply TB.ev_mul) <;> walk_at "ev")
  | ((with_reducible apply TB.ev_mod) <;> walk_at "ev")
  | ((with_reducible apply TB.ev_div) <;> walk_at "ev")
  | ((with_reducible apply TB.ev_pow) <;> walk_at "ev")
  | ((with_reducible apply TB.ev_neg) <;> walk_at "ev")
  | ((with_reducible apply TB.ev_lt) <;> walk_at "ev")
  | ((with_reducible apply TB.ev_le) <;> walk_at "ev")
  | ((with_reducible apply TB.ev_gt) <;> walk_at "ev")
  | ((with_reducible apply TB.ev_ge) <;> walk_at "ev")
  | ((with_reducible apply TB.ev_eqI) <;> walk_at "ev")
  | ((with_reducible apply TB.ev_neI) <;> walk_at "ev")
  | ((with_reducible apply TB.ev_eqL) <;> walk_at "ev")
  | ((with_reducible apply TB.ev_neL) <;> walk_at "ev")
  | ((with_reducible apply TB.ev_eqLL) <;> walk_at "ev")
  | ((with_reducible apply TB.ev_neLL) <;> walk_at "ev")
  | ((with_reducible apply TB.ev_eqP) <;> walk_at "ev")
  | ((with_reducible apply TB.ev_neP) <;> walk_at "ev")
  | ((with_reducible apply TB.ev_ix) <;> walk_at "ev")
  | ((with_reducible apply TB.ev_ixS) <;> walk_at "ev")
  | ((apply TB.ev_ixO rfl) <;> walk_at "ev")
  | ((with_reducible apply TB.ev_rows) <;> walk_at "ev")
  | ((with_reducible apply TB.ev_unit) <;> walk_at "ev")
  | ((with_reducible apply TB.ev_backs) <;> walk_at "ev")
  | ((with_reducible apply TB.ev_many) <;> walk_at "ev")
  | ((with_reducible apply TB.ev_len) <;> walk_at "ev")
  | ((with_reducible apply TB.ev_lenS) <;> walk_at "ev")
  | exact TB.ev_lenO rfl
  | ((with_reducible apply TB.ev_list) <;> walk_at "ev")
  | exact TB.ev_listO rfl
  | ((with_reducible apply TB.ev_sorted) <;> walk_at "ev")
  | ((with_reducible apply TB.ev_min2) <;> walk_at "ev")
  | ((with_reducible apply TB.ev_max2) <;> walk_at "ev")
  | ((with_reducible apply TB.ev_listRg) <;> walk_at "ev")
  | ((with_reducible apply TB.ev_isiII) <;> walk_at "ev")
  | ((with_reducible apply TB.ev_isiIB) <;> walk_at "ev")
  | ((with_reducible apply TB.ev_isiLL) <;> walk_at "ev")
  | ((with_reducible apply TB.ev_isiTT) <;> walk_at "ev")
  | ((with_reducible apply TB.ev_cut) <;> walk_at "ev")
  | ((with_reducible apply TB.ev_cutTo) <;> walk_at "ev")
  | ((with_reducible apply TB.ev_cutFrom) <;> walk_at "ev")
  | ((with_reducible apply TB.ev_cutS) <;> walk_at "ev")
  | ((with_reducible apply TB.ev_cat) <;> walk_at "ev")
  | ((with_reducible apply TB.ev_rep) <;> walk_at "ev")
  | ((with_reducible apply TB.ev_all rfl) <;> walk_at "ev")
  | ((with_reducible apply TB.ev_any rfl) <;> walk_at "ev")
  | ((with_reducible apply TB.ev_lstH) <;> walk_at "ev")
  | ((with_reducible apply TB.ev_fr) <;> walk_at "ev")
  | ((with_reducible apply TB.ev_andV) <;> walk_at "ev")
  | ((with_reducible apply TB.ev_orV) <;> walk_at "ev")
  | ((with_reducible apply TB.ev_notV) <;> walk_at "ev"))
local macro_rules | `(tactic| walk_at "et1") => `(tactic| first
  | with_reducible exact TB.et_yes
  | ((with_reducible apply TB.et_test) <;> walk_at "ev")
  | ((with_reducible apply TB.et_B) <;> walk_at "ev")
  | ((with_reducible apply TB.et_not) <;> walk_at "ev")
  | ((with_reducible apply TB.et_and) <;> walk_at "ev")
  | ((with_reducible apply TB.et_or) <;> walk_at "ev"))
local macro_rules | `(tactic| walk_at "ea1") => `(tactic| first
  | with_reducible exact TB.ea_nil
  | ((with_reducible apply TB.ea_cons) <;> walk_at "ev"))
local macro_rules | `(tactic| walk_at "eh1") => `(tactic| first
  | with_reducible exact TB.evh_nil
  | ((with_reducible apply TB.evh_cons) <;> walk_at "ev"))
local macro_rules | `(tactic| walk_at "ev") => `(tactic| first
  | ((with_reducible show TB.EvH _ _ _ _ _); walk_at "eh1")
  | ((with_reducible show TB.Ev _ _ _ _); walk_at "ev1")
  | ((with_reducible show TB.EvT _ _ _ _); walk_at "et1")
  | ((with_reducible show TB.EvA _ _ _ _); walk_at "ea1")
  | ((fail_if_success (with_reducible show TB.Ev _ _ _ _)); (fail_if_success (with_reducible show TB.EvH _ _ _ _ _)); (fail_if_success (with_reducible show TB.EvT _ _ _ _)); (fail_if_success (with_reducible show TB.EvA _ _ _ _)); (first | (intro hc_; walk_at "ev") | walk_at "sd")))
local macro_rules | `(tactic| walk_at "w") => `(tactic| first
  | (with_reducible apply TB.w_seq; walk_at "w")
  | (with_reducible apply TB.w_asg; (case' h => walk_at "ev"); (case' k => walk_at "nz"))
  | (with_reducible apply TB.w_ret; (case' h => walk_at "ev"))
  | (with_reducible apply TB.w_if; (case' h => walk_at "ev"); skip))

/-! TbGrp: groups as data: the product, what is in bounds. -/
namespace TB
open PySem L2
noncomputable def mul (g : Grp) (a b : Int) : Int := gt (gt g.rows a) b
/-- rows and columns in bounds -/
structure GrpOk (g : Grp) : Prop where
  many : g.many = g.rows.length
  sq : ∀ r ∈ g.rows, r.length = g.rows.length
  bd : ∀ r ∈ g.rows, ∀ x ∈ r, 0 ≤ x ∧ x < g.rows.length
  un : 0 ≤ g.unit ∧ g.unit < g.rows.length
  bl : g.backs.length = g.rows.length
  bb : ∀ x ∈ g.backs, 0 ≤ x ∧ x < g.rows.length
  small : g.rows.length ≤ 23
noncomputable def Th (g : Grp) (a : Int) : Prop := 0 ≤ a ∧ a < g.rows.length
theorem gt_mem {α : Type} [Rp α] {xs : List α} {i : Int} (h0 : 0 ≤ i) (h1 : i < xs.length) : gt xs i ∈ xs := List.mem_of_getElem? (gt_some h0 h1)
theorem GrpOk.row {g : Grp} (o : GrpOk g) {a : Int} (h : Th g a) : (gt g.rows a).length = g.rows.length := o.sq _ (gt_mem h.1 h.2)
theorem GrpOk.mul {g : Grp} (o : GrpOk g) {a b : Int} (h : Th g a) (k : Th g b) : Th g (mul g a b) := o.bd _ (gt_mem h.1 h.2) _ (gt_mem k.1 (by rw [o.row h]; exact k.2))
end TB
namespace TB
open PySem L2
/-! ### tables -/
noncomputable abbrev Tbl := List (List Int)
noncomputable def SizeOk (t : Tbl) : Prop := 1 ≤ t.length ∧ t.length ≤ 23 ∧ ∀ r ∈ t, r.length = t.length
/-- an entry -/
noncomputable abbrev en (t : Tbl) (a b : Int) : Int := gt (gt t a) b
noncomputable def Stg (t : Tbl) (x : Int) : Prop := x < 0 ∨ t.length ≤ x
/-- the first stranger's place -/
structure FirstStg (t : Tbl) (a b : Nat) : Prop where
  ha : a < t.length
  hb : b < t[a].length
  bad : Stg t t[a][b]
  rows : ∀ i (h : i < t.length), i < a → ∀ x ∈ t[i], ¬ Stg t x
  row : ∀ j (h : j < t[a].length), j < b → ¬ Stg t t[a][j]
noncomputable def NoStg (t : Tbl) : Prop := ∀ r ∈ t, ∀ x ∈ r, 0 ≤ x ∧ x < t.length
noncomputable def IsUnit (t : Tbl) (e : Int) : Prop := ∀ a : Int, 0 ≤ a → a < t.length → en t e a = a ∧ en t a e = a
noncomputable def IsBack (t : Tbl) (u a b : Int) : Prop := en t a b = u ∧ en t b a = u
structure FirstBack (t : Tbl) (u a b : Int) : Prop where
  b0 : 0 ≤ b
  b1 : b < t.length
  is : IsBack t u a b
  no : ∀ c, 0 ≤ c → c < b → ¬ IsBack t u a c
noncomputable def Asc (t : Tbl) (a b c : Int) : Prop := en t (en t a b) c = en t a (en t b c)
noncomputable def InT (t : Tbl) (a : Int) : Prop := 0 ≤ a ∧ a < t.length
noncomputable def AllAsc (t : Tbl) : Prop := ∀ a b c, InT t a → InT t b → InT t c → Asc t a b c
structure FirstBad (t : Tbl) (a b c : Int) : Prop where
  ha : InT t a
  hb : InT t b
  hc : InT t c
  bad : ¬ Asc t a b c
  r1 : ∀ x y z, InT t x → InT t y → InT t z → x < a → Asc t x y z
  r2 : ∀ y z, InT t y → InT t z → y < b → Asc t a y z
  r3 : ∀ z, InT t z → z < c → Asc t a b z
theorem gt_get {α : Type} [Rp α] {xs : List α} {i : Nat} (h : i < xs.length) : gt xs (i : Int) = xs[i] := gt_nat h
end TB
namespace TB
open PySem L2
/-! ### the group of a table -/
noncomputable instance (t : Tbl) (u a b : Int) : Decidable (IsBack t u a b) := inferInstanceAs (Decidable (_ ∧ _))
noncomputable def bkf (t : Tbl) (u a : Int) : Int := ((irange t.length).find? fun b => decide (IsBack t u a b)).getD 0
theorem find_irange {n : Int} {p : Int → Bool} {b : Int} (h : (irange n).find? p = some b) : 0 ≤ b ∧ b < n ∧ p b = true ∧ ∀ c, 0 ≤ c → c < b → p c = false := by
  have hp := List.find?_some h
  have hm := List.mem_of_find?_eq_some h
  rw [mem_irange] at hm
  refine ⟨hm.1, hm.2, hp, fun c h0 h1 => ?_⟩
  rw [List.find?_eq_some_iff_getElem] at h
  obtain ⟨_, i, hi, e, hlt⟩ := h
  rw [irange_get] at e
  have hc : c.toNat < i := by omega
  have := hlt c.toNat hc
  rw [irange_get] at this
  rw [show ((c.toNat : Nat) : Int) = c by omega] at this
  simpa using this
theorem bkf_first {t : Tbl} {u a : Int} (h : ∃ b, InT t b ∧ IsBack t u a b) : FirstBack t u a (bkf t u a) := by
  obtain ⟨b, hb, hk⟩ := h
  unfold bkf
  cases e : (irange t.length).find? fun b => decide (IsBack t u a b) with
  | none =>
    rw [List.find?_eq_none] at e
    exact absurd (decide_eq_true hk) (e b (mem_irange.mpr hb))
  | some x =>
    obtain ⟨h0, h1, h2, h3⟩ := find_irange e
    exact ⟨h0, h1, of_decide_eq_true h2, fun c c0 c1 => of_decide_eq_false (h3 c c0 c1)⟩
noncomputable def grpOf (t : Tbl) (u : Int) : Grp := ⟨t.length, t, u, (irange t.length).map (bkf t u)⟩
end TB
namespace TB
open PySem L2
theorem irange_succ (i : Nat) : irange ((i : Int) + 1) = irange (i : Int) ++ [(i : Int)] := by
  unfold irange
  rw [show ((i : Int) + 1).toNat = i + 1 by omega, show (i : Int).toNat = i by omega, List.range_succ, List.map_append]
  rfl
theorem unit_one {t : Tbl} {u e : Int} (hu : InT t u) (he : InT t e) (h1 : IsUnit t u) (h2 : IsUnit t e) : u = e := by
  have a1 := (h1 e he.1 he.2).1
  have a2 := (h2 u hu.1 hu.2).2
  rw [← a2, a1]
/-- a table that is a group's, with its unit -/
structure GTbl (t : Tbl) (e : Int) : Prop where
  sz : SizeOk t
  ns : NoStg t
  he : InT t e
  un : IsUnit t e
  bk : ∀ a, InT t a → ∃ b, InT t b ∧ IsBack t e a b
  asc : AllAsc t
theorem GTbl.ok {t : Tbl} {e : Int} (h : GTbl t e) : GrpOk (grpOf t e) := by
  have hb : ∀ x ∈ (grpOf t e).backs, 0 ≤ x ∧ x < t.length := by
    intro x hx
    obtain ⟨a, ha, rfl⟩ := List.mem_map.mp hx
    rw [mem_irange] at ha
    have := bkf_first (h.bk a ha)
    exact ⟨this.b0, this.b1⟩
  exact ⟨rfl, h.sz.2.2, h.ns, h.he, by show ((irange t.length).map _).length = t.length; rw [List.length_map, irange_len]; omega, hb, h.sz.2.1⟩
end TB
namespace TB
open PySem L2
theorem gt_map {α : Type} [Rp α] {f : Int → α} {n i : Int} (h0 : 0 ≤ i) (h1 : i < n) : gt ((irange n).map f) i = f i := by
  have h2 : i.toNat < ((irange n).map f).length := by rw [List.length_map, irange_len]; omega
  unfold gt
  rw [getD_eq h2, List.getElem_map, irange_get, show ((i.toNat : Nat) : Int) = i by omega]
end TB
namespace TB
open PySem L2
/-- [list(row) for row in table] -/
theorem ev_copyT {c : Cn} {Γ : List Sl} {tl : TE} {t : Tbl} {j : Nat} (h : Ev c Γ tl (.im t)) (hn : t.length < 1000000) (hu : UnAt Γ [j]) (hv : ∀ r : List Int, (Γ.set j (.im r))[j]? = some (.im r)) : Ev c Γ (tLc (iList c.Z.K tl) (gName j) tYes (tCB (gList c.Z.K) (tCons (tVar j) tNil)) [j]) (.ol t) :=
  ev_is (ev_mapL (xs := t) (fun r => r) h hn (by simp) hu fun r _ => ev_fr (ev_list (ev_var (hv r)))) (congrArg Sl.ol (List.map_id' _))
end TB

/-! ### look_at_size -/
namespace TB
open PySem L2
--use TbGrp
noncomputable def T_look_at_size : Tm := tm1 fun (t : Tbl) ok er => (SizeOk t → ok (.im ())) ∧ (¬ SizeOk t → er ⟨.BadSize, []⟩)
noncomputable def t_look_at_size (Z : Zz) (X : WX) : TS :=
  (tSeq (tIfS (tOr (tTest (tOp gLt (tCB (gLen Z.K) (tCons (tVar 0) tNil)) (tC (.int 1)))) (tTest (tOp gGt (tCB (gLen Z.K) (tCons (tVar 0) tNil)) (tC (.int 23)))))
  (tRaise0 (Z.cls .BadSize) X)
  tNext)
  (tFor (iList Z.K (tVar 0)) (gName 1)
  (tIfS (tTest (tOp (gNe Z.K) (tCB (gLen Z.K) (tCons (tVar 1) tNil)) (tCB (gLen Z.K) (tCons (tVar 0) tNil))))
  (tRaise0 (Z.cls .BadSize) X)
  tNext)))
theorem w_look_at_size (Z : Zz) (X : WX) (ss : List Sl) (ok : Sl → Prop) (er : Rf → Prop) (h : T_look_at_size ss ok er) : WF Z X er (ss ++ List.replicate (2 - ss.length) .un) (t_look_at_size Z X) ok := by
  obtain ⟨t, rfl, k1, k2⟩ := h
  show W _ [.im t, .un] _ _
  unfold t_look_at_size
  refine w_seq (w_if (by walk_at "ev") (fun hb => ?_) (fun hb => ?_))
  · refine w_raise0 _ (k2 fun z => ?_)
    simp at hb
    obtain ⟨z1, z2, _⟩ := z
    omega
  · refine w_next ?_
    simp at hb
    show W _ _ _ _
    refine w_forL (xs := t) (fun i G => ∃ s, G = [.im t, s] ∧ ∀ r ∈ t.take i, r.length = t.length) (by walk_at "ev") ⟨.un, rfl, by simp⟩ ?_ ?_
    · rintro i G hi ⟨s, rfl, hr⟩
      walk_at "nz"
      refine w_if (by walk_at "ev") (fun hc => ?_) (fun hc => ?_)
      · refine w_raise0 _ (k2 fun z => ?_)
        simp at hc
        exact hc (by rw [z.2.2 _ (List.getElem_mem hi)])
      · refine w_next ⟨_, rfl, fun r hr' => ?_⟩
        rw [take_snoc hi] at hr'
        rcases List.mem_append.mp hr' with q | q
        · exact hr r q
        · rw [List.mem_singleton.mp q]
          simp at hc
          omega
    · rintro G ⟨s, rfl, hr⟩
      rw [List.take_length] at hr
      refine k1 ⟨by omega, by omega, hr⟩
end TB

/-! ### look_for_strangers -/
namespace TB
open PySem L2
--use TbGrp
noncomputable def T_look_for_strangers : Tm := tm1 fun (t : Tbl) ok er => (NoStg t → ok (.im ())) ∧ ∀ a b : Nat, FirstStg t a b → er ⟨.Stranger, [("column", .int b), ("row", .int a)]⟩
noncomputable def t_look_for_strangers (Z : Zz) (X : WX) : TS :=
  (tFor (iEnum Z.K (tCons (tVar 0) tNil)) (gTup Z.K 2 (gCons (gName 1) (gCons (gName 2) gNil)))
  (tFor (iEnum Z.K (tCons (tVar 2) tNil)) (gTup Z.K 2 (gCons (gName 3) (gCons (gName 4) gNil)))
  (tIfS (tOr (tTest (tOp gLt (tVar 4) (tC (.int 0)))) (tTest (tOp gGe (tVar 4) (tCB (gLen Z.K) (tCons (tVar 0) tNil)))))
  (tRaiseN (Z.cls .Stranger) ["row", "column"] X (tCons (tVar 1) (tCons (tVar 3) tNil)))
  tNext)))
theorem w_look_for_strangers (Z : Zz) (X : WX) (ss : List Sl) (ok : Sl → Prop) (er : Rf → Prop) (h : T_look_for_strangers ss ok er) : WF Z X er (ss ++ List.replicate (5 - ss.length) .un) (t_look_for_strangers Z X) ok := by
  obtain ⟨t, rfl, k1, k2⟩ := h
  show W _ [.im t, .un, .un, .un, .un] _ _
  unfold t_look_for_strangers
  refine w_forE (xs := t) (fun i G => ∃ s1 s2 s3 s4, G = [.im t, s1, s2, s3, s4] ∧ ∀ a (h : a < t.length), a < i → ∀ x ∈ t[a], ¬ Stg t x) (by walk_at "ev") ⟨_, _, _, _, rfl, fun _ _ h => absurd h (Nat.not_lt_zero _)⟩ ?_ ?_
  · rintro i G hi ⟨s1, s2, s3, s4, rfl, hr⟩
    walk_at "nz"
    refine w_forE (xs := t[i]) (fun j G => ∃ s3 s4, G = [.im t, .im (i : Int), .im t[i], s3, s4] ∧ ∀ b (h : b < t[i].length), b < j → ¬ Stg t t[i][b]) (by walk_at "ev") ⟨_, _, rfl, fun _ _ h => absurd h (Nat.not_lt_zero _)⟩ ?_ ?_
    · rintro j G hj ⟨s3, s4, rfl, hq⟩
      walk_at "nz"
      refine w_if (by walk_at "ev") (fun hb => ?_) (fun hb => ?_)
      · refine w_raise2 (by walk_at "ev") (by walk_at "ev") (k2 i j ⟨hi, hj, ?_, fun a h ha => hr a h ha, fun b h hb => hq b h hb⟩)
        simp at hb
        exact hb
      · refine w_next ⟨_, _, rfl, fun b h hbj => ?_⟩
        rcases Nat.lt_succ_iff_lt_or_eq.mp hbj with q | q
        · exact hq b h q
        · subst q
          simp at hb
          intro z
          rcases z with z | z <;> omega
    · rintro G ⟨s3, s4, rfl, hq⟩
      refine ⟨_, _, _, _, rfl, fun a h ha x hx => ?_⟩
      rcases Nat.lt_succ_iff_lt_or_eq.mp ha with q | q
      · exact hr a h q x hx
      · subst q
        obtain ⟨b, hb, rfl⟩ := List.getElem_of_mem hx
        exact hq b hb hb
  · rintro G ⟨s1, s2, s3, s4, rfl, hr⟩
    refine k1 fun r hr' x hx => ?_
    obtain ⟨a, ha, rfl⟩ := List.getElem_of_mem hr'
    have := hr a ha ha x hx
    unfold Stg at this
    omega
end TB

/-! ### unit_of -/
namespace TB
open PySem L2
--use TbGrp
noncomputable def T_unit_of : Tm := tm1 fun (t : Tbl) ok er => SizeOk t ∧ (∀ e : Int, 0 ≤ e → e < t.length → IsUnit t e → (∀ e', 0 ≤ e' → e' < e → ¬ IsUnit t e') → ok (.im e)) ∧ ((∀ e : Int, 0 ≤ e → e < t.length → ¬ IsUnit t e) → er ⟨.NoUnit, []⟩)
theorem isUnit_iff {t : Tbl} {e : Int} : (((irange (t.length : Int)).map fun a => (decide (gt (gt t e) a = a) && decide (gt (gt t a) e = a))).all id = true) ↔ IsUnit t e := by
  simp only [List.all_eq_true, List.mem_map, mem_irange, IsUnit, id]
  constructor
  · intro h a h0 h1
    have := h _ ⟨a, ⟨h0, h1⟩, rfl⟩
    simpa using this
  · rintro h x ⟨a, ⟨h0, h1⟩, rfl⟩
    simpa using h a h0 h1
theorem sz_row {t : Tbl} (h : SizeOk t) {a : Int} (h0 : 0 ≤ a) (h1 : a < t.length) : (gt t a).length = t.length := h.2.2 _ (gt_mem h0 h1)
noncomputable def t_unit_of (Z : Zz) (X : WX) : TS :=
  (tSeq (tFor (iEnum Z.K (tCons (tVar 0) tNil)) (gTup Z.K 2 (gCons (gName 1) (gCons (gName 2) gNil)))
  (tIfS (tB (tCB (rAll Z.K) (tCons (tLc (iRng1 (tCons (tCB (gLen Z.K) (tCons (tVar 0) tNil)) tNil)) (gName 3) tYes (tAndV (tOp (gEq Z.K) (tOp (gIx Z.K) (tVar 2) (tVar 3)) (tVar 3)) (tOp (gEq Z.K) (tOp (gIx Z.K) (tOp (gIx Z.K) (tVar 0) (tVar 3)) (tVar 1)) (tVar 3))) [3]) tNil)))
  (tRet (tVar 1))
  tNext))
  (tRaise0 (Z.cls .NoUnit) X))
theorem w_unit_of (Z : Zz) (X : WX) (ss : List Sl) (ok : Sl → Prop) (er : Rf → Prop) (h : T_unit_of ss ok er) : WF Z X er (ss ++ List.replicate (4 - ss.length) .un) (t_unit_of Z X) ok := by
  obtain ⟨t, rfl, hs, k1, k2⟩ := h
  show W _ [.im t, .un, .un, .un] _ _
  unfold t_unit_of
  have hlen := hs.2.1
  refine w_seq (w_forE (xs := t) (fun i G => ∃ s1 s2, G = [.im t, s1, s2, .un] ∧ ∀ e : Int, 0 ≤ e → e < i → ¬ IsUnit t e) (by walk_at "ev") ⟨_, _, rfl, fun _ _ _ => by omega⟩ ?_ ?_)
  · rintro i G hi ⟨s1, s2, rfl, hr⟩
    walk_at "nz"
    have hri : t[i].length = t.length := hs.2.2 _ (List.getElem_mem hi)
    refine w_if (b := ((irange (t.length : Int)).map fun a => (decide (gt (gt t (i : Int)) a = a) && decide (gt (gt t a) (i : Int) = a))).all id) (et_B (ev_all rfl (ev_fr (ev_mapR (n := (t.length : Int)) (fun a => (decide (gt (gt t (i : Int)) a = a) && decide (gt (gt t a) (i : Int) = a))) (by walk_at "ev") (by omega) (by omega) (by simp) ⟨.inl rfl, trivial⟩ fun a h0 h1 => ?_)))) (fun hb => ?_) (fun hb => ?_)
    · have h2 := sz_row hs h0 h1
      rw [gt_get hi]
      walk_at "nz"
      walk_at "ev"
    · exact w_ret (by walk_at "ev") (k1 i (by omega) (by omega) (isUnit_iff.mp hb) hr)
    · refine w_next ⟨_, _, rfl, fun e h0 h1 => ?_⟩
      by_cases he : e = i
      · subst he
        intro z
        rw [isUnit_iff.mpr z] at hb
        cases hb
      · exact hr e h0 (by omega)
  · rintro G ⟨s1, s2, rfl, hr⟩
    exact w_raise0 _ (k2 hr)
end TB

/-! ### back_of -/
namespace TB
open PySem L2
--use TbGrp
noncomputable def T_back_of : Tm := tm3 fun (t : Tbl) (u a : Int) ok er => SizeOk t ∧ InT t a ∧ (∀ b, FirstBack t u a b → ok (.im b)) ∧ ((∀ b, InT t b → ¬ IsBack t u a b) → er ⟨.NoBack, [("thing", .int a)]⟩)
noncomputable def t_back_of (Z : Zz) (X : WX) : TS :=
  (tSeq (tFor (iRng1 (tCons (tCB (gLen Z.K) (tCons (tVar 0) tNil)) tNil)) (gName 3)
  (tIfS (tAnd (tTest (tOp (gEq Z.K) (tOp (gIx Z.K) (tOp (gIx Z.K) (tVar 0) (tVar 2)) (tVar 3)) (tVar 1))) (tTest (tOp (gEq Z.K) (tOp (gIx Z.K) (tOp (gIx Z.K) (tVar 0) (tVar 3)) (tVar 2)) (tVar 1))))
  (tRet (tVar 3))
  tNext))
  (tRaiseN (Z.cls .NoBack) ["thing"] X (tCons (tVar 2) tNil)))
theorem w_back_of (Z : Zz) (X : WX) (ss : List Sl) (ok : Sl → Prop) (er : Rf → Prop) (h : T_back_of ss ok er) : WF Z X er (ss ++ List.replicate (4 - ss.length) .un) (t_back_of Z X) ok := by
  obtain ⟨t, u, a, rfl, hs, ha, k1, k2⟩ := h
  show W _ [.im t, .im u, .im a, .un] _ _
  unfold t_back_of
  have hlen := hs.2.1
  obtain ⟨ha0, ha1⟩ := id ha
  have hra : (gt t a).length = t.length := hs.2.2 _ (gt_mem ha0 ha1)
  refine w_seq (w_forR (n := (t.length : Int)) (fun i G => ∃ s1, G = [.im t, .im u, .im a, s1] ∧ ∀ b : Int, 0 ≤ b → b < i → ¬ IsBack t u a b) (by walk_at "ev") (by omega) (by omega) ⟨_, rfl, fun _ _ _ => by omega⟩ ?_ ?_)
  · rintro i G hi ⟨s1, rfl, hr⟩
    walk_at "nz"
    have hri : (gt t (i : Int)).length = t.length := hs.2.2 _ (gt_mem (by omega) hi)
    refine w_if (by walk_at "ev") (fun hb => ?_) (fun hb => ?_)
    · simp at hb
      exact w_ret (by walk_at "ev") (k1 i ⟨by omega, hi, hb, hr⟩)
    · refine w_next ⟨_, rfl, fun b h0 h1 => ?_⟩
      by_cases he : b = i
      · subst he
        rintro ⟨z1, z2⟩
        simp [en] at hb z1 z2
        exact hb z1 z2
      · exact hr b h0 (by omega)
  · rintro G ⟨s1, rfl, hr⟩
    refine w_raise1 (by walk_at "ev") (k2 fun b hb => hr b hb.1 (by have := hb.2; omega))
end TB

/-! ### look_at_threes -/
namespace TB
open PySem L2
--use TbGrp
noncomputable def T_look_at_threes : Tm := tm1 fun (t : Tbl) ok er => SizeOk t ∧ NoStg t ∧ (AllAsc t → ok (.im ())) ∧ ∀ a b c, FirstBad t a b c → er ⟨.NotTogether, [("three", .int c), ("two", .int b), ("one", .int a)]⟩
theorem en_in {t : Tbl} (hs : SizeOk t) (hn : NoStg t) {a b : Int} (ha : InT t a) (hb : InT t b) : InT t (en t a b) := by
  have h1 : (gt t a).length = t.length := hs.2.2 _ (gt_mem ha.1 ha.2)
  exact hn _ (gt_mem ha.1 ha.2) _ (gt_mem hb.1 (by rw [h1]; exact hb.2))
noncomputable def t_look_at_threes (Z : Zz) (X : WX) : TS :=
  (tFor (iEnum Z.K (tCons (tVar 0) tNil)) (gTup Z.K 2 (gCons (gName 1) (gCons (gName 2) gNil)))
  (tFor (iEnum Z.K (tCons (tVar 2) tNil)) (gTup Z.K 2 (gCons (gName 3) (gCons (gName 4) gNil)))
  (tFor (iEnum Z.K (tCons (tOp (gIx Z.K) (tVar 0) (tVar 3)) tNil)) (gTup Z.K 2 (gCons (gName 5) (gCons (gName 6) gNil)))
  (tIfS (tTest (tOp (gNe Z.K) (tOp (gIx Z.K) (tOp (gIx Z.K) (tVar 0) (tVar 4)) (tVar 5)) (tOp (gIx Z.K) (tVar 2) (tVar 6))))
  (tRaiseN (Z.cls .NotTogether) ["one", "two", "three"] X (tCons (tVar 1) (tCons (tVar 3) (tCons (tVar 5) tNil))))
  tNext))))
theorem w_look_at_threes (Z : Zz) (X : WX) (ss : List Sl) (ok : Sl → Prop) (er : Rf → Prop) (h : T_look_at_threes ss ok er) : WF Z X er (ss ++ List.replicate (7 - ss.length) .un) (t_look_at_threes Z X) ok := by
  obtain ⟨t, rfl, hs, hn, k1, k2⟩ := h
  show W _ [.im t, .un, .un, .un, .un, .un, .un] _ _
  unfold t_look_at_threes
  have hlen := hs.2.1
  refine w_forE (xs := t) (fun i G => ∃ s1 s2 s3 s4 s5 s6, G = [.im t, s1, s2, s3, s4, s5, s6] ∧ ∀ a b c, InT t a → InT t b → InT t c → a < i → Asc t a b c) (by walk_at "ev") ⟨_, _, _, _, _, _, rfl, fun a b c h _ _ h2 => by have := h.1; omega⟩ ?_ ?_
  · rintro i G hi ⟨s1, s2, s3, s4, s5, s6, rfl, hr⟩
    have hI : InT t (i : Int) := ⟨by omega, by omega⟩
    have hri : t[i].length = t.length := hs.2.2 _ (List.getElem_mem hi)
    walk_at "nz"
    refine w_forE (xs := t[i]) (fun j G => ∃ s3 s4 s5 s6, G = [.im t, .im (i : Int), .im t[i], s3, s4, s5, s6] ∧ ∀ b c, InT t b → InT t c → b < j → Asc t i b c) (by walk_at "ev") ⟨_, _, _, _, rfl, fun b c h _ h2 => by have := h.1; omega⟩ ?_ ?_
    · rintro j G hj ⟨s3, s4, s5, s6, rfl, hq⟩
      have hJ : InT t (j : Int) := ⟨by omega, by omega⟩
      have hrj : (gt t (j : Int)).length = t.length := hs.2.2 _ (gt_mem hJ.1 hJ.2)
      have eij : t[i][j] = en t i j := by rw [en, gt_get hi, gt_get hj]
      have hij := en_in hs hn hI hJ
      have hrij : (gt t (en t i j)).length = t.length := hs.2.2 _ (gt_mem hij.1 hij.2)
      have hJ1 := hJ.1
      have hJ2 := hJ.2
      walk_at "nz"
      refine w_forE (xs := gt t (j : Int)) (fun k G => ∃ s5 s6, G = [.im t, .im (i : Int), .im t[i], .im (j : Int), .im t[i][j], s5, s6] ∧ ∀ c, InT t c → c < k → Asc t i j c) (by walk_at "ev") ⟨_, _, rfl, fun c h h2 => by have := h.1; omega⟩ ?_ ?_
      · rintro k G hk ⟨s5, s6, rfl, hw⟩
        have hK : InT t (k : Int) := ⟨by omega, by omega⟩
        have ejk : (gt t (j : Int))[k] = en t j k := by rw [en, gt_get hk]
        have hjk := en_in hs hn hJ hK
        have a1 := hij.1
        have a2 := hij.2
        have a3 := hjk.1
        have a4 := hjk.2
        have eti : t[i] = gt t (i : Int) := (gt_get hi).symm
        rw [eij, ejk]
        rw [eti] at hri ⊢
        walk_at "nz"
        refine w_if (by walk_at "ev") (fun hb => ?_) (fun hb => ?_)
        · simp at hb
          refine w_raise3 (by walk_at "ev") (by walk_at "ev") (by walk_at "ev") (k2 i j k ⟨hI, hJ, hK, hb, hr, hq, hw⟩)
        · simp at hb
          refine w_next ⟨_, _, rfl, fun c hc h1 => ?_⟩
          by_cases he : c = k
          · subst he; exact hb
          · exact hw c hc (by omega)
      · rintro G ⟨s5, s6, rfl, hw⟩
        refine ⟨_, _, _, _, rfl, fun b c hb hc h1 => ?_⟩
        by_cases he : b = j
        · subst he
          exact hw c hc (by have := hc.2; omega)
        · exact hq b c hb hc (by omega)
    · rintro G ⟨s3, s4, s5, s6, rfl, hq⟩
      refine ⟨_, _, _, _, _, _, rfl, fun a b c ha hb hc h1 => ?_⟩
      by_cases he : a = i
      · subst he
        exact hq b c hb hc (by have := hb.2; omega)
      · exact hr a b c ha hb hc (by omega)
  · rintro G ⟨s1, s2, s3, s4, s5, s6, rfl, hr⟩
    exact k1 fun a b c ha hb hc => hr a b c ha hb hc ha.2
end TB

/-! TbTry: try with clauses, some of them with a name; what is caught may be kept. -/
namespace TB
open PySem PySem.Spec PyProof.Rows L2
/-- a caught exception that is kept at a -/
noncomputable def XT (cls : Value) (d : Option Addr) (a : Addr) : HO := .ext fun h => ∃ (oe : Obj) (vs : Array Value), h.get? a = some oe ∧ Zc cls d oe ∧ oe.data = .fields vs
section
variable {X : Cx} {pins : List (Addr × Obj)} {σ : L2.St} {H : Hp} {s : Shared}
theorem inv_track {a : Addr} {oe : Obj} {vs : Array Value} {cls : Value} {d : Option Addr} (I : Inv X pins σ H s) (hx : X.ex = []) (n0 : X.s_0.heap.get? a = none) (ha : s.heap.get? a = some oe) (na : H a = none) (nl : a ≠ X.env.locals)
    (nc : ∀ v, oe.data ≠ .cell v) (np : ∀ p ∈ X.pn ++ pins, p.1 ≠ a) (hz : Zc cls d oe) (hd : oe.data = .fields vs) : Inv X pins σ (upd H a (XT cls d a)) s := by
  have ex : ∀ b : Addr, b ∉ X.ex := fun b hb => by rw [hx] at hb; cases hb
  have ne0 : ∀ b o, X.s_0.heap.get? b = some o → b ≠ a := fun b o e z => by rw [z, n0] at e; cases e
  have neH : ∀ b o, H b = some o → b ≠ a := fun b o e z => by rw [z, na] at e; cases e
  have neC : ∀ x c, X.env.cells.lookup x = some c → c ≠ a := fun x c e z => by
    obtain ⟨v, o, ho, hv⟩ := I.cell x c e
    rw [z, ha] at ho
    cases ho
    exact nc _ hv
  refine { ok := I.ok, os := I.os, bare := I.bare, base := ?_, loc := I.loc, cell := I.cell, free := ?_, freeC := ?_, pin := ?_, hok := ?_, len := I.len }
  · refine { keep := I.base.keep, slot := I.base.slot, free := fun b o e n q => ?_, there := I.base.there, tups := fun b xs q => ?_, frzs := fun b o u q => ?_, tbls := fun b ps q => ?_ }
    · rw [upd_ne (ne0 b o e)]; exact I.base.free b o e n q
    · have z := I.base.tups b xs q
      rw [upd_ne (neH b _ z)]; exact z
    · have z := I.base.frzs b o u q
      rw [upd_ne (neH b _ z)]; exact z
    · obtain ⟨m, z⟩ := I.base.tbls b ps q
      exact ⟨m, by rw [upd_ne (neH b _ z)]; exact z⟩
  · rw [upd_ne (Ne.symm nl)]; exact I.free
  · intro x c e
    rw [upd_ne (neC x c e)]
    exact I.freeC x c e
  · intro p hp
    obtain ⟨p1, p2, p3, p4, p5⟩ := I.pin p hp
    exact ⟨p1, by rw [upd_ne (np p hp)]; exact p2, p3, p4, p5⟩
  · intro b u e
    by_cases c : b = a
    · subst c
      rw [upd_same] at e
      cases e
      exact ⟨⟨oe, vs, ha, hz, hd⟩, ⟨oe, ha⟩, fun h1 h2 ⟨o, v, q, r⟩ k => ⟨o, v, k o q, r⟩⟩
    · rw [upd_ne c] at e
      refine (I.hok b u e).stay (fun c v _ q => q) (fun c q => ?_) fun c xs q => ?_
      · rw [upd_ne (neH c _ q)]; exact q
      · rw [upd_ne (neH c _ q)]; exact q
end
/-- how a suite ends: what was caught is kept, its name gone -/
noncomputable def sEnd (D : Ends) (a : Addr) (cls : Value) (d : Option Addr) (cl : L2.St → L2.St) : Ends where
  nx := fun σ H => H a = none → D.nx (cl σ) (upd H a (XT cls d a))
  rt := fun v H => H a = none → D.rt v (upd H a (XT cls d a))
  bk := fun σ H => H a = none → D.bk (cl σ) (upd H a (XT cls d a))
  ct := fun σ H => H a = none → D.ct (cl σ) (upd H a (XT cls d a))
noncomputable abbrev Hdl := Value × Option Nat × (Addr → Value → Option Addr → TS)
noncomputable def clrO : Option Nat → L2.St → L2.St
  | none, σ => σ
  | some i, σ => σ.set i none
noncomputable def putO : Option Nat → Addr → L2.St → L2.St
  | none, _, σ => σ
  | some i, a, σ => σ.set i (some (.ref a))
/-- what the clauses wish of an exception of the body -/
noncomputable def wTry (K : PySem.W.Frag) (Wout : WX) (D : Ends) : List Hdl → WX
  | [] => Wout
  | (c, o, ts) :: r => fun cls d σ H => ∃ b, PySem.W.exmOne K cls c = some b ∧ (b = true → ∀ a, H a = none → ts a cls d (sEnd D a cls d (clrO o)) (putO o a σ) H) ∧ (b = false → wTry K Wout D r cls d σ H)
inductive HdlOk (X : Cx) : List ExceptHandler → List Hdl → Prop
  | nil : HdlOk X [] []
  | plain {x : Str} {c : Value} {ts : Addr → Value → Option Addr → TS} {b₀ : Stmt} {suite : List Stmt} {np pos' : Pos} {hds : List ExceptHandler} {l : List Hdl} (hc : Names X x c)
      (hsu : ∀ (a : Addr) (oe : Obj) (cls : Value) (d : Option Addr) (pn : List (Addr × Obj)), Zc cls d oe → (∃ vs, oe.data = .fields vs) → PSs (X.suite a ((a, oe) :: pn)) (b₀ :: suite) (ts a cls d)) (r : HdlOk X hds l) :
      HdlOk X (.ExceptHandler (some (.Name x np)) none (b₀ :: suite) pos' :: hds) ((c, none, ts) :: l)
  | named {x n : Str} {i : Nat} {c : Value} {ts : Addr → Value → Option Addr → TS} {b₀ : Stmt} {suite : List Stmt} {np pos' : Pos} {hds : List ExceptHandler} {l : List Hdl} (hi : X.N[i]? = some n) (hln : X.env.kindOf n = some .local) (hc : Names X x c)
      (hsu : ∀ (a : Addr) (oe : Obj) (cls : Value) (d : Option Addr) (pn : List (Addr × Obj)), Zc cls d oe → (∃ vs, oe.data = .fields vs) → PSs (X.suite a ((a, oe) :: pn)) (b₀ :: suite) (ts a cls d)) (r : HdlOk X hds l) :
      HdlOk X (.ExceptHandler (some (.Name x np)) (some n) (b₀ :: suite) pos' :: hds) ((c, some i, ts) :: l)
noncomputable def tTry (K : PySem.W.Frag) (l : List Hdl) (Wout : WX) (tb : WX → TS) : TS := fun D σ H => tb (wTry K Wout D l) D σ H
theorem sky_new {B h : Heap} {l : List Env} {a L : Addr} {Z : Obj → Prop} (x : Sky B l a Z L h) : B.get? a = none := by
  rcases x with x | x | x
  · exact x.2.1
  · exact x.2.1
  · exact x.2.1
section
variable {X : Cx} {body : List Stmt} {h₀ : ExceptHandler} {hds : List ExceptHandler} {l : List Hdl} {pos : Pos} {tb : WX → TS} {Wout : WX}
theorem ps_try (hs : X.stack = X.env :: X.outer) (hf : X.env.frame = some X.env.locals) (hx : X.ex = []) (hN : X.N.Nodup) (tk : Takes X Wout)
    (hb : ∀ (W : WX) (pn : List (Addr × Obj)) (xe : Value → Shared → Prop), Takes (X.tr pn xe) W → PassesOwn (model X.prog X.w) X.A X.env xe → PSs (X.tr pn xe) body (tb W))
    (hh : HdlOk X (h₀ :: hds) l) : PS X (.Try body (h₀ :: hds) [] [] pos) (tTry X.K l Wout tb) := by
  refine ⟨fun pins s σ H D I h => ?_⟩
  have ok := I.ok
  have hfr : X.A.frames = some (X.env :: X.outer) := by rw [ok.frames, hs]
  refine wpAny_Try_except (wpAny_mono ((hb (wTry X.K Wout D l) (X.pn ++ pins) (fun e s₁ => wpAny (model X.prog X.w) X.A (noteFrame e X.env) (fun _ s₂ => wpAny (model X.prog X.w) X.A (setFlight e none) (fun _ s₃ => wpAny (model X.prog X.w) X.A (handleBy e X.env (h₀ :: hds)) (SP X pins D) X.xe s₃) X.xe s₂) X.xe s₁) (fun u s' xx => ?_) PassesOwn.looking).run [] s σ H D (I.toTry _) h) (fun f s1 hsp => ?_) (fun e s1 he => he))
  · obtain ⟨a, B, sI, pins', σ', H', cls, d, rfl, J', nb, up, sky, na, os, ag, w⟩ := xx
    have J : Inv X pins σ' H' sI := J'.ofTry ok
    have Ba := sky_new sky
    have sk2 : Sky B (X.env :: X.outer) a (Zc cls d) X.env.locals s'.heap := hs ▸ sky
    show wpAny (model X.prog X.w) X.A (noteFrame (.ref a) X.env) _ _ _
    refine Sky.land Zc.steady hfr hf sk2 fun h3 fl3 up3 => ?_
    have J3 : Inv X pins σ' H' { s' with heap := h3 } := J.landed nb fl3.1 (up.trans up3) os ag
    obtain ⟨oe3, vs3, he3, hz3, hd3⟩ := fl3.there
    have nfr : a ∉ frs (X.env :: X.outer) := fun hm => by
      obtain ⟨_, o', e', hnf⟩ := fl3.2.2.1.mem hm
      rw [he3] at e'
      cases e'
      exact hnf _ hd3
    have nL : a ≠ X.env.locals := fun z => nfr (List.mem_filterMap.mpr ⟨X.env, .head _, by rw [hf, z]⟩)
    have nF : a ∉ X.fs := fun hm => by
      obtain ⟨e, he, q⟩ := List.mem_filterMap.mp hm
      exact nfr (List.mem_filterMap.mpr ⟨e, .tail _ he, q⟩)
    have n0 : X.s_0.heap.get? a = none := by
      cases q : X.s_0.heap.get? a with
      | none => rfl
      | some o =>
        obtain ⟨o', e'⟩ := J.base.there a o q (by rw [hx]; exact fun z => nomatch z)
        have z := nb a o' e' (by rw [hs]; exact nfr)
        rw [Ba] at z
        cases z
    have np : ∀ p ∈ X.pn ++ pins, p.1 ≠ a := fun p hp z => by
      obtain ⟨p1, _, p3, p4, _⟩ := J.pin p hp
      have q := nb p.1 p.2 p1 (by
        rw [hs]
        intro hm
        obtain ⟨e, he, q⟩ := List.mem_filterMap.mp hm
        rcases List.mem_cons.mp he with r | r
        · rw [r, hf] at q
          exact p3 (Option.some.inj q).symm
        · exact p4 (List.mem_filterMap.mpr ⟨e, r, q⟩))
      rw [z, Ba] at q
      cases q
    have S3 := J3.suite he3 hd3 na nL nF
    have LT : PySem.W.Looks (model X.prog X.w) h3 (typeOf (.ref a)) cls := fun A Q E s k q => wpAny_typeOf_ref (k _ _ he3) (by rw [hz3.1]; exact q)
    have test : ∀ {x : Str} {c : Value} {p : Pos} {Q E : Value → Shared → Prop}, Names X x c → Q c { s' with heap := h3 } → wpAny (model X.prog X.w) (X.A.mark (some (.ref a))) (eval (.Name x p) X.env) Q E { s' with heap := h3 } := fun {x c p Q E} hc q => by
      obtain ⟨hg, hdbg, hm | ⟨hm, hv, hnn⟩⟩ := hc
      · exact ld_glob (X := X.suite a ((a, oe3) :: (X.pn ++ pins))) S3 hg hm q hdbg
      · exact ld_blt (X := X.suite a ((a, oe3) :: (X.pn ++ pins))) S3 hg hm hv q hnn hdbg
    have kept : ∀ {oe4 : Obj} {vs4 : Array Value} {σ6 : L2.St} {H6 : Hp} {s6 : Shared}, Zc cls d oe4 → oe4.data = .fields vs4 → Inv (X.suite a ((a, oe4) :: (X.pn ++ pins))) [] σ6 H6 s6 → H6 a = none ∧ Inv X pins σ6 (upd H6 a (XT cls d a)) s6 := fun {oe4 vs4 σ6 H6 s6} hz hd S6 => by
      obtain ⟨q1, q2, q3, _, q5⟩ := S6.pin (a, oe4) (List.mem_append_left _ (.head _))
      exact ⟨q2, inv_track (S6.unsuite ok) hx n0 q1 q2 nL q5 np hz hd⟩
    have go : ∀ {hds' : List ExceptHandler} {l' : List Hdl}, HdlOk X hds' l' → wTry X.K Wout D l' cls d σ' H' → wpAny (model X.prog X.w) X.A (handleBy (.ref a) X.env hds') (SP X pins D) X.xe { s' with heap := h3 } := by
      intro hds' l' hk
      induction hk with
      | nil =>
        intro w
        obtain ⟨k1, k2, k3, oe, vs, T, oT, ts', he, hz, hd, h1, hr⟩ := id fl3
        refine wpAny_handleBy_nil ?_
        unfold PySem.passOn
        refine wpAny_bind (wpAny_field he hd h1 ?_)
        rw [if_neg (show ¬ ((Value.ref T == Value.none) = true) by simp)]
        have fin : wpAny (model X.prog X.w) X.A (setFlight (.ref a) X.env.frame) (fun _ s4 => wpAny (model X.prog X.w) X.A (throw (.ref a) : Sem Flow) (SP X pins D) X.xe s4) X.xe { s' with heap := h3 } :=
          hf ▸ HandSPX.setFlight_upZ fl3 fun h4 hh4 up4 => wpAny_throw (tk _ _ ⟨a, B, sI, pins, σ', H', cls, d, rfl, J, nb, (up.trans up3).trans up4, .inr (.inr (by rw [hs]; exact hh4)), na, os, ag, w⟩)
        first
          | exact wpAny_bind (wpAny_pure (wpAny_bind fin))
          | exact wpAny_bind fin
      | @plain x c ts b₀ suite np' pos' hds2 l2 hc hsu r ih =>
        intro w
        obtain ⟨b, hb1, hyes, hno⟩ := w
        refine wpAny_handleBy_cons (codeAny_handlers_test (test hc ((PySem.W.exm_one (M := model X.prog X.w) (J3.kIn) LT hb1).here ?_))) (by intro q; cases q)
        cases b with
        | true =>
          refine codeAny_handlers_suite (HandSPX.lands_againZ fl3 fun h4 fl4 up4 => ?_)
          have J4 : Inv X pins σ' H' { s' with heap := h4 } := J.landed nb fl4.1 ((up.trans up3).trans up4) os ag
          obtain ⟨oe4, vs4, he4, hz4, hd4⟩ := fl4.there
          refine wpAny_mono ((hsu a oe4 cls d (X.pn ++ pins) hz4 ⟨_, hd4⟩).run [] _ _ H' _ (J4.suite he4 hd4 na nL nF) (hyes rfl a na)) (fun f s6 hsp => ?_) (fun _ _ z => z.elim)
          cases f with
          | next => obtain ⟨σ6, H6, S6, q6⟩ := hsp; exact ⟨_, _, (kept hz4 hd4 S6).2, q6 (kept hz4 hd4 S6).1⟩
          | brk => obtain ⟨σ6, H6, S6, q6⟩ := hsp; exact ⟨_, _, (kept hz4 hd4 S6).2, q6 (kept hz4 hd4 S6).1⟩
          | cont => obtain ⟨σ6, H6, S6, q6⟩ := hsp; exact ⟨_, _, (kept hz4 hd4 S6).2, q6 (kept hz4 hd4 S6).1⟩
          | ret u => obtain ⟨v6, σ6, H6, S6, r6, q6⟩ := hsp; exact ⟨_, _, _, (kept hz4 hd4 S6).2, r6, q6 (kept hz4 hd4 S6).1⟩
        | false => exact ih (hno rfl)
      | @named x n i c ts b₀ suite np' pos' hds2 l2 hi hln hc hsu r ih =>
        intro w
        obtain ⟨b, hb1, hyes, hno⟩ := w
        have hloc : Loc X.env.scope n := .inl hln
        refine wpAny_handleBy_cons (codeAny_handlers_test (test hc ((PySem.W.exm_one (M := model X.prog X.w) (J3.kIn) LT hb1).here ?_))) (by intro q; cases q)
        cases b with
        | true =>
          refine codeAny_handlers_suite_as (HandSPX.lands_againZ fl3 fun h4 fl4 up4 => ?_)
          have J4 : Inv X pins σ' H' { s' with heap := h4 } := J.landed nb fl4.1 ((up.trans up3).trans up4) os ag
          obtain ⟨oe4, vs4, he4, hz4, hd4⟩ := fl4.there
          refine store_ok (X := X.suite a ((a, oe4) :: (X.pn ++ pins))) (v := .ref a) (J4.suite he4 hd4 na nL nF) hN hi hloc rfl (fun s5 S5 => ?_) (.inr hln)
          refine wpAny_mono ((hsu a oe4 cls d (X.pn ++ pins) hz4 ⟨_, hd4⟩).run [] s5 _ H' _ S5 (hyes rfl a na)) (fun f s6 hsp => ?_) (fun _ _ z => z.elim)
          cases f with
          | next => obtain ⟨σ6, H6, S6, q6⟩ := hsp; exact gone_ok (kept hz4 hd4 S6).2 hN hi hln fun s7 J7 => ⟨_, _, J7, q6 (kept hz4 hd4 S6).1⟩
          | brk => obtain ⟨σ6, H6, S6, q6⟩ := hsp; exact gone_ok (kept hz4 hd4 S6).2 hN hi hln fun s7 J7 => ⟨_, _, J7, q6 (kept hz4 hd4 S6).1⟩
          | cont => obtain ⟨σ6, H6, S6, q6⟩ := hsp; exact gone_ok (kept hz4 hd4 S6).2 hN hi hln fun s7 J7 => ⟨_, _, J7, q6 (kept hz4 hd4 S6).1⟩
          | ret u => obtain ⟨v6, σ6, H6, S6, r6, q6⟩ := hsp; exact gone_ok (kept hz4 hd4 S6).2 hN hi hln fun s7 J7 => ⟨_, _, _, J7, r6, q6 (kept hz4 hd4 S6).1⟩
        | false => exact ih (hno rfl)
    exact go hh w
  · cases f with
    | next => obtain ⟨σ', H', J', q⟩ := hsp; exact wpAny_execs_nil ⟨σ', H', J'.ofTry ok, q⟩
    | brk => obtain ⟨σ', H', J', q⟩ := hsp; exact ⟨σ', H', J'.ofTry ok, q⟩
    | cont => obtain ⟨σ', H', J', q⟩ := hsp; exact ⟨σ', H', J'.ofTry ok, q⟩
    | ret u => obtain ⟨v, σ', H', J', r, q⟩ := hsp; exact ⟨v, σ', H', J'.ofTry ok, r, q⟩
end
end TB

/-! TbEx: exceptions as data: what is caught and kept, isinstance, fields. -/
namespace TB
open PySem PySem.Spec PyProof.Rows L2
noncomputable def XtOk (Z : Zz) (R : Hp) (r : Rf) (cls : Value) (d : Option Addr) : Prop := cls = .ref (Z.cls r.name) ∧ ((r.fs = [] ∧ d = none) ∨ ∃ dx, d = some dx ∧ R dx = some (.xd r.fs))
theorem XtOk.mono {Z : Zz} {R R' : Hp} {r : Rf} {cls : Value} {d : Option Addr} (e : Same R R') (h : XtOk Z R r cls d) : XtOk Z R' r cls d := by
  obtain ⟨h1, h2 | ⟨dx, h3, h4⟩⟩ := h
  · exact ⟨h1, .inl h2⟩
  · exact ⟨h1, .inr ⟨dx, h3, e _ _ h4⟩⟩
theorem RepEx.xt {Z : Zz} {B R : Hp} {r : Rf} {cls : Value} {d : Option Addr} (h : RepEx Z B R r cls d) : XtOk Z R r cls d := by
  obtain ⟨h1, h2 | ⟨_, dx, h3, _, h4⟩⟩ := h
  · exact ⟨h1, .inl h2⟩
  · exact ⟨h1, .inr ⟨dx, h3, h4⟩⟩
noncomputable instance : Rp Rf := ⟨⟨.BookError, []⟩, fun Z H v r => ∃ a cls d, v = .ref a ∧ H a = some (XT cls d a) ∧ XtOk Z H r cls d, fun e h => by
  obtain ⟨a, cls, d, h1, h2, h3⟩ := h
  exact ⟨a, cls, d, h1, e _ _ h2, h3.mono e⟩⟩
/-- the exception that a suite holds -/
noncomputable def ExO1 (a : Addr) (d : Option Addr) (r : Rf) : Own := ⟨fun Z R _ v => v = .ref a ∧ XtOk Z R r (.ref (Z.cls r.name)) d, fun e h => ⟨h.1, h.2.mono e⟩⟩
noncomputable abbrev Sl.ex (a : Addr) (d : Option Addr) (r : Rf) : Sl := .ow (ExO1 a d r)
section
variable {Z : Zz} {B R0 R R' H H' : Hp} {ρ σ : List (Option V)} {Δ Γ : List Sl}
/-- a slot that needs no objects of its own -/
theorem sx_pushO {s : Sl} {v : V} (S : Sx Z B R0 R H ρ Δ σ Γ) (h : slok Z R H (some v) s []) : Sx Z B R0 R H (some v :: ρ) (s :: Δ) σ Γ := by
  obtain ⟨hl, own, hs, es⟩ := S
  exact ⟨by simp [hl], own, hs, [], own, rfl, h, es⟩
theorem slok_ex {a : Addr} {d : Option Addr} {r : Rf} (h : XtOk Z R r (.ref (Z.cls r.name)) d) : slok Z R H (some (.ref a)) (.ex a d r) [] := ⟨.ref a, rfl, ⟨rfl, h⟩, fun p hp => by simp at hp⟩
end
/-! ### the classes -/
noncomputable def mroV (Z : Zz) (C : CN) : List Value := (if C = .BookError then [] else [.ref (Z.cls C)]) ++ [.ref (Z.cls .BookError), .type "ValueError", .type "Exception", .type "BaseException", .type "object"]
structure ExsC (Z : Zz) (C : CN) : Prop where
  mro : (PySem.W.clsIn Z.K (Z.cls C)).map (·.mro) = some (mroV Z C)
  ty : PySem.W.typeIn Z.K (.ref (Z.cls C)) = some (.type "type")
  hd : PySem.W.hasDictIn Z.K (Z.cls C) = true
  ga : PySem.W.findIn Z.K (.ref (Z.cls C)) "__getattribute__" = some (some (.builtin "BaseException.__getattribute__"))
  gg : PySem.W.findIn Z.K (.ref (Z.cls C)) "__getattr__" = some none
  ca : PySem.W.findIn Z.K (.ref (Z.cls C)) "__class__" = some (some (.builtin "object.__class__"))
noncomputable def ExsL (Z : Zz) : List CN → Prop
  | [] => True
  | C :: r => ExsC Z C ∧ ExsL Z r
structure Exs (Z : Zz) (L : List CN) : Prop where
  all : ExsL Z L
  inj : (L.map Z.cls).Nodup
  base : .BookError ∈ L
  sg : PySem.W.specialIn Z.K (.builtin "object.__class__") "__get__" = some (some (.builtin "getset_descriptor.__get__"))
  tk : PySem.W.takesIn Z.K (.builtin "object.__class__") = some true
theorem ExsL.at {Z : Zz} : ∀ {L : List CN}, ExsL Z L → ∀ {C : CN}, C ∈ L → ExsC Z C
  | _ :: _, ⟨h, t⟩, C, m => by
    rcases List.mem_cons.mp m with e | e
    · rw [e]; exact h
    · exact ExsL.at t e
/-- D stands beneath C -/
noncomputable def subB (D C : CN) : Bool := decide (D = C) || decide (C = .BookError)
section
variable {Z : Zz} {L : List CN} {C D : CN}
theorem nd_inj : ∀ {L : List CN} {f : CN → Addr}, (L.map f).Nodup → ∀ {C D : CN}, C ∈ L → D ∈ L → f C = f D → C = D
  | x :: r, f, h, C, D, hC, hD, e => by
    simp only [List.map_cons, List.nodup_cons] at h
    rcases List.mem_cons.mp hC with q | q <;> rcases List.mem_cons.mp hD with q' | q'
    · rw [q, q']
    · subst q
      exact absurd (e ▸ List.mem_map.mpr ⟨D, q', rfl⟩) h.1
    · subst q'
      exact absurd (e ▸ List.mem_map.mpr ⟨C, q, rfl⟩) h.1
    · exact nd_inj h.2 q q' e
theorem Exs.at (E : Exs Z L) (h : C ∈ L) : ExsC Z C := E.all.at h
theorem Exs.inj' (E : Exs Z L) (hC : C ∈ L) (hD : D ∈ L) (e : Z.cls C = Z.cls D) : C = D := nd_inj E.inj hC hD e
theorem mroV_ne : (mroV Z C).isEmpty = false := by
  unfold mroV
  cases (if C = .BookError then ([] : List Value) else [.ref (Z.cls C)]) <;> rfl
theorem Exs.subV (E : Exs Z L) (hD : D ∈ L) (b : Value) : PySem.W.subIn Z.K (.ref (Z.cls D)) b = some ((mroV Z D).contains b) := by
  have h := (E.at hD).mro
  obtain ⟨cd, h1, h2⟩ := Option.map_eq_some_iff.mp h
  show (PySem.W.clsIn Z.K (Z.cls D)).bind _ = _
  rw [h1]
  show (if cd.mro.isEmpty = true then none else some (cd.mro.contains b)) = _
  rw [h2, mroV_ne]
  rfl
theorem ref_beq {a b : Addr} : ((Value.ref a : Value) == .ref b) = decide (a = b) := by
  by_cases h : a = b
  · rw [h, decide_eq_true rfl]; exact beq_self_eq_true _
  · rw [decide_eq_false h]
    exact Bool.eq_false_iff.mpr fun q => h (Value.ref.inj (beq_iff_eq.mp q))
theorem ref_tbeq {a : Addr} {t : String} : ((Value.ref a : Value) == .type t) = false := Bool.eq_false_iff.mpr fun q => by cases beq_iff_eq.mp q
theorem type_rbeq {a : Addr} {t : String} : ((Value.type t : Value) == .ref a) = false := Bool.eq_false_iff.mpr fun q => by cases beq_iff_eq.mp q
theorem Exs.sub (E : Exs Z L) (hD : D ∈ L) (hC : C ∈ L) : PySem.W.subIn Z.K (.ref (Z.cls D)) (.ref (Z.cls C)) = some (subB D C) := by
  rw [E.subV hD]
  congr 1
  have e1 : decide (Z.cls C = Z.cls D) = decide (D = C) := decide_eq_decide.mpr ⟨fun h => (E.inj' hC hD h).symm, fun h => by rw [h]⟩
  have e2 : decide (Z.cls C = Z.cls .BookError) = decide (C = .BookError) := decide_eq_decide.mpr ⟨fun h => E.inj' hC E.base h, fun h => by rw [h]⟩
  have tail : ([.type "ValueError", .type "Exception", .type "BaseException", .type "object"] : List Value).contains (.ref (Z.cls C)) = false := by
    simp only [List.contains_cons, List.contains_nil, ref_tbeq, Bool.or_false]
  unfold mroV subB
  by_cases h : D = .BookError
  · rw [if_pos h, List.nil_append, List.contains_cons, ref_beq, e2, tail, Bool.or_false, h]
    by_cases c : C = .BookError
    · simp [c]
    · have : ¬ CN.BookError = C := fun z => c z.symm
      simp [c, this]
  · rw [if_neg h, List.cons_append, List.nil_append, List.contains_cons, List.contains_cons, ref_beq, ref_beq, e1, e2, tail, Bool.or_false]
theorem Exs.subT (E : Exs Z L) (hD : D ∈ L) {t : String} (h : t = "ValueError" ∨ t = "BaseException" ∨ t = "object") : PySem.W.subIn Z.K (.ref (Z.cls D)) (.type t) = some true := by
  rw [E.subV hD]
  congr 1
  unfold mroV
  rw [List.contains_iff_mem, List.mem_append]
  refine .inr ?_
  rcases h with rfl | rfl | rfl <;> simp
theorem Exs.clsT (E : Exs Z L) (hC : C ∈ L) : ((PySem.W.clsIn Z.K (Z.cls C)).isSome && PySem.W.typeIn Z.K (.ref (Z.cls C)) == some (.type "type")) = true := by
  obtain ⟨cd, h1, h2⟩ := Option.map_eq_some_iff.mp (E.at hC).mro
  rw [h1, (E.at hC).ty]
  rfl
theorem Exs.kit (E : Exs Z L) (hD : D ∈ L) (hC : C ∈ L) : PySem.W.kitCls Z.K (.ref (Z.cls D)) (.ref (Z.cls C)) = some (subB D C) := by
  unfold PySem.W.kitCls
  show (if _ then PySem.W.subIn _ _ _ else none) = _
  rw [if_pos (E.clsT hC)]
  exact E.sub hD hC
theorem Exs.one (E : Exs Z L) (hD : D ∈ L) (hC : C ∈ L) : PySem.W.kitOne Z.K (.ref (Z.cls D)) (.ref (Z.cls C)) = some (subB D C) := by
  unfold PySem.W.kitOne
  rw [ref_beq]
  by_cases c : D = C
  · subst c
    rw [if_pos (decide_eq_true rfl)]
    simp [subB]
  · rw [if_neg (by simp only [decide_eq_true_eq]; exact fun z => c (E.inj' hD hC z))]
    exact E.kit hD hC
theorem Exs.oneV (E : Exs Z L) (hD : D ∈ L) : PySem.W.kitOne Z.K (.ref (Z.cls D)) (.type "ValueError") = some true := by
  unfold PySem.W.kitOne
  rw [ref_tbeq, if_neg Bool.false_ne_true]
  unfold PySem.W.kitCls
  show (if PySem.W.kitMeta "ValueError" = true then PySem.W.subIn _ _ _ else none) = _
  rw [if_pos (by decide +kernel)]
  exact E.subT hD (.inl rfl)
theorem Exs.exm (E : Exs Z L) (hD : D ∈ L) (hC : C ∈ L) : PySem.W.exmOne Z.K (.ref (Z.cls D)) (.ref (Z.cls C)) = some (subB D C) := by
  unfold PySem.W.exmOne
  rw [E.subT hC (.inr (.inl rfl)), if_pos (by rfl)]
  exact E.kit hD hC
theorem Exs.noneC (E : Exs Z L) (hC : C ∈ L) : PySem.W.kitOne Z.K (.type "NoneType") (.ref (Z.cls C)) = some false := by
  unfold PySem.W.kitOne
  rw [type_rbeq, if_neg Bool.false_ne_true]
  unfold PySem.W.kitCls
  show (if _ then PySem.W.subIn _ _ _ else none) = _
  rw [if_pos (E.clsT hC)]
  show ((fastBuiltinMro "NoneType").map (·.contains (.ref (Z.cls C)))) = some false
  have e : fastBuiltinMro "NoneType" = some [.type "NoneType", .type "object"] := by decide +kernel
  rw [e]
  rfl
end
end TB

namespace TB
open PySem PySem.Spec PyProof.Rows L2
/-! ### isinstance of what was kept -/
noncomputable def rIsX (K : PySem.W.Frag) : List V → Hp → VK → Prop := fun xs H Q => rIsi K xs H Q ∨ ∃ (c : V) (u : Value) (b : Bool) (a D : Addr) (d : Option Addr), xs = [.ref a, c] ∧ ClsV c u ∧ H a = some (XT (.ref D) d a) ∧ (d = none ∨ ∃ dx fs, d = some dx ∧ H dx = some (.xd fs)) ∧
  PySem.W.KitX K (.ref a) (.ref D) (fun h => ∃ ox od, PySem.W.InstAt h a ox D od) ∧ PySem.W.kitOne K (.ref D) u = some b ∧ Q (.bl b) H
theorem call_isX {X : Cx} : CallR X (.builtin "isinstance") (rIsX X.K) := by
  intro pins s σ H xs us Q I r h
  rcases h with h | ⟨c, u, b, a, D, d, rfl, k, ha, hd, kx, e, q⟩
  · exact call_isi pins s σ H xs us Q I r h
  · obtain ⟨u1, u2, rfl, r1, r2⟩ := vals2 r
    have e1 : u1 = .ref a := r1
    have e2 := k.eq r2
    subst e1 e2
    obtain ⟨⟨oe, vs, ho, hz, hv⟩, _, _⟩ := I.hok a _ ha
    have J : ∃ ox od, PySem.W.InstAt s.heap a ox D od := by
      have hn : PySem.W.notCls oe = true := by unfold PySem.W.notCls; rw [hv] <;> rfl
      rcases hd with hd | ⟨dx, fs, hd, hdx⟩
      · exact ⟨oe, none, ho, hz.1, hn, by rw [hz.2, hd]; trivial⟩
      · have hx : ObjOk X.prog X.w H s.heap dx (.xd fs) := I.hok dx _ hdx
        obtain ⟨mA, hns, _⟩ := hx
        obtain ⟨od, hod, _⟩ := lookIn_ns hns
        exact ⟨oe, some od, ho, hz.1, hn, by rw [hz.2, hd]; exact hod⟩
    exact PySem.W.kia_one kx I.kIn J e (fun z => nomatch z) fun tk => ⟨.bl b, H, I.tok tk, rfl, q⟩
section
variable {Z : Zz} {L : List CN} {C D : CN}
theorem Exs.kitx (E : Exs Z L) (hD : D ∈ L) {a : Addr} : PySem.W.KitX Z.K (.ref a) (.ref (Z.cls D)) (fun h => ∃ ox od, PySem.W.InstAt h a ox (Z.cls D) od) := by
  have e := E.at hD
  have cl : (PySem.W.clsIn Z.K (Z.cls D)).isSome = true := by
    obtain ⟨cd, h1, _⟩ := Option.map_eq_some_iff.mp e.mro
    rw [h1]; rfl
  have k : ∀ ox od, PySem.W.KitX Z.K (.ref a) (.ref (Z.cls D)) (fun h => PySem.W.InstAt h a ox (Z.cls D) od) := fun ox od =>
    PySem.W.kitx_exc cl e.ga e.gg (E.subT hD (.inr (.inl rfl))) e.ca E.sg E.tk (E.subT hD (.inr (.inr rfl)))
  exact { ty := fun M h X ⟨ox, od, I⟩ => (k ox od).ty M h X I, it := fun M h X ⟨ox, od, I⟩ => (k ox od).it M h X I, ne := (k { cls := .none, data := .fields #[] } none).ne, ca := fun X ⟨ox, od, I⟩ kk => (k ox od).ca X I kk }
theorem Exs.xf (E : Exs Z L) (hD : D ∈ L) : XfC Z.K (Z.cls D) := ⟨(E.at hD).ga, (E.at hD).gg, E.subT hD (.inr (.inl rfl)), (E.at hD).hd⟩
end
end TB

namespace TB
open PySem PySem.Spec PyProof.Rows L2
section
variable {c : Cn} {Γ : List Sl} {ta tb te tl : TE} {tt tc : TT} {t u : TS} {s so : Sl} {α β γ : Type} {_ : Rp α} {_ : Rp β} {_ : Rp γ} {P : Po} {d : α} {L : List CN}
/-- the answer of isinstance for what was caught, or None -/
noncomputable def isB (o : Option Rf) (C : CN) : Bool := match o with | none => false | some r => subB r.name C
theorem tyNone {K : PySem.W.Frag} {H : Hp} : TyX K H .non (.type "NoneType") := .base .non
theorem ev_isX {o : Option Rf} {C : CN} (E : Exs c.Z L) (hC : C ∈ L) (hr : ∀ r, o = some r → r.name ∈ L) (ha : Ev c Γ ta (.im o)) : Ev c Γ (tCB (rIsX c.Z.K) (tCons ta (tCons (tC (.ref (c.Z.cls C))) tNil))) (.im (isB o C)) := fun B R0 R H ρ Δ σ S Q q x =>
  ha B R0 R H ρ Δ σ S _ (fun v R1 H1 S1 => by
    have rv := sx_top' S1
    have S2 := sx_pop S1
    cases o with
    | none =>
      cases (show v = V.non from rv)
      exact .inl ⟨.non, _, _, _, false, rfl, .own _, tyNone, E.noneC hC, q _ R1 H1 (sx_push S2 rfl)⟩
    | some r =>
      obtain ⟨a, cls, d, rfl, h2, h3, h4⟩ := (show ∃ a cls d, v = V.ref a ∧ R1 a = some (XT cls d a) ∧ XtOk c.Z R1 r cls d from rv)
      subst h3
      refine .inr ⟨_, _, subB r.name C, a, _, d, rfl, .own _, sx_same S1 _ _ h2, ?_, E.kitx (hr r rfl), E.one (hr r rfl) hC, q _ R1 H1 (sx_push S2 rfl)⟩
      rcases h4 with h4 | ⟨dx, h5, h6⟩
      · exact .inl h4.2
      · exact .inr ⟨dx, _, h5, sx_same S1 _ _ h6⟩) x
theorem ev_isXV {o : Option Rf} (E : Exs c.Z L) (hr : ∀ r, o = some r → r.name ∈ L) (ha : Ev c Γ ta (.im o)) : Ev c Γ (tCB (rIsX c.Z.K) (tCons ta (tCons (tC (.ty "ValueError")) tNil))) (.im o.isSome) := fun B R0 R H ρ Δ σ S Q q x =>
  ha B R0 R H ρ Δ σ S _ (fun v R1 H1 S1 => by
    have rv := sx_top' S1
    have S2 := sx_pop S1
    cases o with
    | none =>
      cases (show v = V.non from rv)
      exact .inl ⟨.non, _, _, _, false, rfl, .ty _, tyNone, kit_ty (by decide +kernel), q _ R1 H1 (sx_push S2 rfl)⟩
    | some r =>
      obtain ⟨a, cls, d, rfl, h2, h3, h4⟩ := (show ∃ a cls d, v = V.ref a ∧ R1 a = some (XT cls d a) ∧ XtOk c.Z R1 r cls d from rv)
      subst h3
      refine .inr ⟨_, _, true, a, _, d, rfl, .ty _, sx_same S1 _ _ h2, ?_, E.kitx (hr r rfl), E.oneV (hr r rfl), q _ R1 H1 (sx_push S2 rfl)⟩
      rcases h4 with h4 | ⟨dx, h5, h6⟩
      · exact .inl h4.2
      · exact .inr ⟨dx, _, h5, sx_same S1 _ _ h6⟩) x
/-! ### try -/
noncomputable def putG : Option Nat → Sl → List Sl → List Sl
  | none, _, G => G
  | some i, s, G => G.set i s
/-- how the slots are told behind a suite: the exception may have gone to slot j -/
noncomputable def KeepX (o : Option Nat) (a : Addr) (d : Option Addr) (r : Rf) (G G' : List Sl) : Prop := G' = putG o .un G ∨ ∃ j, o ≠ some j ∧ G[j]? = some (.ex a d r) ∧ G' = putG o .un (G.set j (.im (some r)))
noncomputable def HsW (c : Cn) (P : Po) : List Hdl → Rf → List Sl → Prop
  | [], r, G => c.ex r G
  | (C, o, ts) :: l, r, G => ∃ b, PySem.W.exmOne c.Z.K (.ref (c.Z.cls r.name)) C = some b ∧ (b = true → ∀ a d, W c.no (putG o (.ex a d r) G) (ts a (.ref (c.Z.cls r.name)) d) ⟨fun G' => ∃ G2, KeepX o a d r G' G2 ∧ P.nx G2, P.rt, fun G' => ∃ G2, KeepX o a d r G' G2 ∧ P.bk G2, fun G' => ∃ G2, KeepX o a d r G' G2 ∧ P.ct G2⟩) ∧ (b = false → HsW c P l r G)
theorem sx_keepX {Z : Zz} {B R0 R H : Hp} {ρ σ : List (Option V)} {Δ G G2 : List Sl} {o : Option Nat} {a : Addr} {d : Option Addr} {r : Rf} (S : Sx Z B R0 R H ρ Δ σ G) (na : H a = none) (k : KeepX o a d r G G2) :
    ∃ R', Sx Z B R0 R' (upd H a (XT (.ref (Z.cls r.name)) d a)) ρ Δ (clrO o σ) G2 := by
  rcases k with rfl | ⟨j, hj, e, rfl⟩
  · cases o with
    | none => exact ⟨R, sx_alloc S na _⟩
    | some i => exact ⟨R, sx_forgets (sx_alloc S na _) i none⟩
  · obtain ⟨S1, sm⟩ := sx_froz S na (XT (.ref (Z.cls r.name)) d a)
    obtain ⟨w, f, h1, v, rfl, ⟨rfl, h3⟩, _⟩ := sx_slot S1 e
    have S2 := sx_asg (sx_push (α := Option Rf) (d := some r) S1 (v := .ref a) ⟨a, _, d, rfl, upd_same, h3⟩) j
    rw [set_same h1] at S2
    cases o with
    | none => exact ⟨_, S2⟩
    | some i => exact ⟨_, sx_forgets S2 i none⟩
theorem w_try {l : List Hdl} {tb : WX → TS} (exB : Rf → List Sl → Prop) (hb : ∀ X', W ⟨c.Z, X', exB⟩ Γ (tb X') P) (hh : ∀ r G, exB r G → HsW c P l r G) : W c Γ (tTry c.Z.K l c.X tb) P := fun B R0 R H ρ Δ σ D S n rr bb kk x => by
  refine hb (wTry c.Z.K c.X D l) B R0 R H ρ Δ σ D S n rr bb kk fun R' H' σ' G' r cls d S' rx e => ?_
  have xt := rx.xt
  obtain ⟨ec, _⟩ := id xt
  subst ec
  have go : ∀ l : List Hdl, HsW c P l r G' → wTry c.Z.K c.X D l (.ref (c.Z.cls r.name)) d σ' H' := by
    intro l
    induction l with
    | nil => exact fun h => x R' H' σ' G' r _ d S' rx h
    | cons hd l ih =>
      obtain ⟨C, o, ts⟩ := hd
      rintro ⟨b, h1, h2, h3⟩
      refine ⟨b, h1, fun hb a na => ?_, fun hb => ih (h3 hb)⟩
      have S2 : Sx c.Z B R0 R' H' ρ Δ (putO o a σ') (putG o (.ex a d r) G') := by
        cases o with
        | none => exact S'
        | some i => exact sx_asg (sx_pushO S' (slok_ex xt)) i
      refine h2 hb a d B R0 R' H' ρ Δ _ _ S2 (fun R2 H2 σ2 G2 S3 ⟨G3, hk, hp⟩ na2 => ?_) (fun R2 H2 v s S3 hp na2 => ?_) (fun R2 H2 σ2 G2 S3 ⟨G3, hk, hp⟩ na2 => ?_) (fun R2 H2 σ2 G2 S3 ⟨G3, hk, hp⟩ na2 => ?_) (Xok.no c _ _ _ _)
      · obtain ⟨R3, S4⟩ := sx_keepX S3 na2 hk
        exact n R3 _ _ G3 S4 hp
      · exact rr R2 _ v s (sx_alloc S3 na2 _) hp
      · obtain ⟨R3, S4⟩ := sx_keepX S3 na2 hk
        exact bb R3 _ _ G3 S4 hp
      · obtain ⟨R3, S4⟩ := sx_keepX S3 na2 hk
        exact kk R3 _ _ G3 S4 hp
  exact go l (hh r G' e)
/-- the suite «x = e», e the exception that it holds -/
theorem w_keep {i j : Nat} {a : Addr} {d : Option Addr} {r : Rf} (hij : i ≠ j) (e : Γ[i]? = some (.ex a d r)) (hj : j < Γ.length) (k : P.nx ((Γ.set j (.im (some r))).set i .un)) :
    W c.no Γ (tAsg (tVar i) (gName j)) ⟨fun G' => ∃ G2, KeepX (some i) a d r G' G2 ∧ P.nx G2, P.rt, fun G' => ∃ G2, KeepX (some i) a d r G' G2 ∧ P.bk G2, fun G' => ∃ G2, KeepX (some i) a d r G' G2 ∧ P.ct G2⟩ := fun B R0 R H ρ Δ σ D S n rr bb kk x => by
  obtain ⟨w, f, h1, v, rfl, ⟨rfl, h3⟩, _⟩ := sx_slot S e
  refine ⟨.ref a, h1, n R H _ _ (sx_asg (sx_pushO S (s := .ex a d r) (v := .ref a) ⟨_, rfl, ⟨rfl, h3⟩, fun p hp => by simp at hp⟩) j) ⟨_, .inr ⟨j, fun z => hij (by simpa using z), by rw [List.getElem?_set_self hj], rfl⟩, ?_⟩⟩
  show P.nx (((Γ.set j _).set j _).set i .un)
  rw [List.set_set]
  exact k
/-- e.f within a suite -/
theorem ev_xf {i : Nat} {a : Addr} {d : Option Addr} {r : Rf} {f : Str} {n : Int} {C : Addr} (e : Γ[i]? = some (.ex a d r)) (hC : C = c.Z.cls r.name) (hf : r.fs.lookup f = some (.int n)) : Ev c Γ (tXf a (.ref (c.Z.cls r.name)) d C f (tVar i)) (.im n) := fun B R0 R H ρ Δ σ S Q q x => by
  obtain ⟨w, g, h1, v, rfl, ⟨rfl, h3, h4⟩, _⟩ := sx_slot S e
  rcases h4 with ⟨h4, _⟩ | ⟨dx, h5, h6⟩
  · rw [h4] at hf; cases hf
  · exact ⟨.ref a, h1, rfl, by rw [hC], dx, r.fs, .int n, h5, sx_same S _ _ h6, hf, q _ R H (sx_push S rfl)⟩
end
end TB

/-! TbPr: own pairs of any two slots; texts compared. -/
namespace TB
open PySem L2
section
variable {Z : Zz} {B R0 R R' H H' : Hp} {τ ρ σ : List (Option V)} {Θ Δ Γ : List Sl} {s s' s1 s2 : Sl} {o : Option V} {f g own : List Addr}
end
section
variable {c : Cn} {Γ : List Sl} {ta tb te tl : TE} {tt tc : TT} {t u : TS} {s s' s1 s2 : Sl} {α β γ : Type} {_ : Rp α} {_ : Rp β} {_ : Rp γ} {P : Po} {d : α}
theorem ev_isNoneD {o : Option α} (ha : Ev c Γ ta (.im o)) (hn : ∀ Z R v (d : α), Rp.rp Z R v d → v ≠ .non) : Ev c Γ (tOp gIs ta (tC .non)) (.im o.isNone) := ev_isN ha _ fun R v rv => by
  cases o with
  | none => exact decide_eq_true rv
  | some d => exact decide_eq_false (hn _ _ _ _ rv)
end
end TB
namespace TB
open PySem L2
section
variable {c : Cn} {Γ : List Sl} {te : TE} {s : Sl} {α : Type} {_ : Rp α}
end
end TB

/-! TbPoly: plain law: polynomials, what is left of a division, sums round a wheel. -/
namespace TB
open PySem L2
/-! ### what the program reckons -/
noncomputable def stripF : Nat → Int → Int → Int
  | 0, _, r => r
  | n + 1, p, r => if r % p = 0 then stripF n p (r / p) else r
noncomputable def primesN (m : Int) : Nat → List Int × Int
  | 0 => ([], m)
  | i + 1 => let s := primesN m i; (if s.2 % (2 + (i : Int)) = 0 then s.1 ++ [2 + (i : Int)] else s.1, stripF 6 (2 + (i : Int)) s.2)
noncomputable def primesF (m : Int) : List Int := (primesN m (m - 1).toNat).1
/-! ### entries and lengths -/
noncomputable def Bd (n : Nat) (xs : List Int) : Prop := ∀ x ∈ xs, x.natAbs < 2 ^ n
theorem Bd.mono {n m : Nat} {xs : List Int} (h : Bd n xs) (l : n ≤ m) : Bd m xs := fun x hx => Nat.lt_of_lt_of_le (h x hx) (Nat.pow_le_pow_right (by omega) l)
/-! ### sums round a wheel -/
section
variable {m : Int}
end
/-! ### less a turn for each prime -/
noncomputable def dif (m : Int) : List Int → (Int → Int) → Int → Int
  | [], f, j => f j
  | p :: ps, f, j => dif m ps (fun i => f i - f (i - m / p)) j
/-- the same number of the wheel: one sum less the other is nought all round -/
noncomputable def SameN (m : Int) (f g : Int → Int) : Prop := ∀ j, dif m (primesF m) f j = dif m (primesF m) g j
theorem SameN.refl {m : Int} (f : Int → Int) : SameN m f f := fun _ => rfl
theorem SameN.trans {m : Int} {f g h : Int → Int} (a : SameN m f g) (b : SameN m g h) : SameN m f h := fun j => (a j).trans (b j)
theorem SameN.symm {m : Int} {f g : Int → Int} (a : SameN m f g) : SameN m g f := fun j => (a j).symm
end TB

/-! TbRing: what holds of the circles of 1 to 60, reckoned. -/
namespace TB
open PySem L2
/-! ### what holds of the circles of 1 to 60 -/
end TB

/-! TbWh: wheels as data; more rules for lists. -/
namespace TB
open PySem L2
section
variable {c : Cn} {Γ : List Sl} {ta tb te tl ty : TE} {tt tc : TT} {t u : TS} {s s' so : Sl} {α β γ : Type} {_ : Rp α} {_ : Rp β} {_ : Rp γ} {P : Po} {d : α}
/-! ### wheels -/
end
structure Whl where
  ring : List Int
  spokes : Int
  size : Int
structure WhlC (Z : Zz) : Prop where
  cl : Cls Z.K (Z.cls .Wheel)
  n1 : NoAttr Z.K (Z.cls .Wheel) "ring"
  n2 : NoAttr Z.K (Z.cls .Wheel) "spokes"
  n3 : NoAttr Z.K (Z.cls .Wheel) "size"
noncomputable def flW (r m z : V) : List (Str × V) := [("ring", r), ("spokes", m), ("size", z)]
noncomputable instance : Rp Whl := ⟨⟨[], 0, 0⟩, fun Z H v g => WhlC Z ∧ ∃ a dx r m z, v = .ref a ∧ H a = some (.ins (Z.cls .Wheel) dx (flW r m z)) ∧ Rp.rp Z H r g.ring ∧ Rp.rp Z H m g.spokes ∧ Rp.rp Z H z g.size,
  fun e h => by
    obtain ⟨h0, a, dx, r, m, z, h1, h2, h3, h4, h5⟩ := h
    exact ⟨h0, a, dx, r, m, z, h1, e _ _ h2, Rp.mono e h3, Rp.mono e h4, Rp.mono e h5⟩⟩
section
variable {c : Cn} {Γ : List Sl} {ta tb te tl : TE} {g : Whl}
end
end TB

/-! TbU: sorted(set(xs)) of a list of ints. -/
namespace TB
open PySem PySem.Spec PyProof.Rows L2
section
variable {P : Program} {w : World} {A : Around} {E : Value → Shared → Prop} {s : Shared}
end
section
variable {X : Cx} {a : Expr} {ta : TE} {p p2 q pos : Pos}
end
end TB

/-! TbD: dicts, membership, own lists walked, own lists put into own lists. -/
namespace TB
open PySem L2
/-! ### dicts by int keys -/
section
variable {Z : Zz} {R : Hp} {α : Type} {_ : Rp α}
end
section
variable {c : Cn} {Γ : List Sl} {ta tb te tl ty : TE} {tt tc : TT} {t u : TS} {s s' so : Sl} {α β γ : Type} {_ : Rp α} {_ : Rp β} {_ : Rp γ} {P : Po} {d : α}
end
/-! ### membership in lists of ints -/
section
variable {c : Cn} {Γ : List Sl} {ta tb te tl ty : TE} {tt tc : TT} {t u : TS} {s s' so : Sl} {α β γ : Type} {_ : Rp α} {_ : Rp β} {_ : Rp γ} {P : Po} {d : α}
/-! ### sorted(set(xs)) -/
end
noncomputable def Inc (xs : List Int) : Prop := xs.Pairwise (· < ·)
section
variable {c : Cn} {Γ : List Sl} {ta tb te tl ty : TE} {tt tc : TT} {t u : TS} {s s' so : Sl} {α β γ : Type} {_ : Rp α} {_ : Rp β} {_ : Rp γ} {P : Po} {d : α}
/-! ### own lists put into own lists -/
theorem sx_swapTop' {Z : Zz} {B R0 R H : Hp} {ρ : List (Option V)} {Δ : List Sl} {σ : List (Option V)} {o o' : Option V} {s s' : Sl} (S : Sx Z B R0 R H (o :: o' :: ρ) (s :: s' :: Δ) σ Γ) : Sx Z B R0 R H (o' :: o :: ρ) (s' :: s :: Δ) σ Γ := sx_swapTop S
theorem ev_nil2 {δ : Type} [Rp δ] : Ev c Γ (tLst tNil) (.o2 ([] : List (List δ))) := ev_subS (fun Z R H o f nd h => by
  obtain ⟨p, vs, rfl, rfl, h3, h4⟩ := h
  cases h4
  exact ⟨[p], nd, fun _ h => h, p, [], rfl, rfl, h3, .nil⟩) (ev_nil (δ := List δ))
/-- xss.append(a new list) -/
theorem w_app2T {i : Nat} {xs : List α} {xss : List (List α)} (e : Γ[i]? = some (.o2 xss)) (h : Ev c Γ te (.ol xs)) (hl : xss.length < 1000000) (k : P.nx (Γ.set i (.o2 (xss ++ [xs])))) : W c Γ (tDrop (tBM c.Z.K "list" rAppend (tVar i) (tCons te tNil))) P := fun B R0 R H ρ Δ σ D S n r bb kk x => by
  obtain ⟨o1, f, g1, p, qs, _, eo, hp, _⟩ := sx_slot S e
  subst eo
  refine ⟨.ref p, g1, tyL hp, h B R0 R H ρ Δ σ S _ (fun w R1 H1 S1 => ?_) x⟩
  obtain ⟨o1', h1, S2⟩ := sx_take S1 (i := i) e
  rw [g1] at h1
  cases h1
  obtain ⟨vs, a1, a2, S3⟩ := sx_app2 (sx_swapTop' S2)
  have S4 := sx_asg S3 i
  rw [set_same g1, List.set_set] at S4
  exact ⟨p, vs, w, rfl, rfl, a1, Nat.lt_of_lt_of_le (by omega : vs.length < 1000000) (by decide), n R1 _ _ _ S4 k⟩
end
end TB
namespace TB
open PySem L2
section
variable {c : Cn} {Γ : List Sl} {ta tb te tl ty : TE} {tt tc : TT} {t u : TS} {s s' so : Sl} {α β γ : Type} {_ : Rp α} {_ : Rp β} {_ : Rp γ} {P : Po} {d : α}
end
end TB

/-! TbMv: things moved out of their slots; own pairs' parts; groups of own parts; fields of kept exceptions. -/
namespace TB
open PySem PySem.Spec PyProof.Rows L2
/-- worth s, the slots as Γ' tells behind it -/
noncomputable def EvM (c : Cn) (Γ : List Sl) (t : TE) (s : Sl) (Γ' : List Sl) : Prop := ∀ B R0 R H ρ Δ σ, Sx c.Z B R0 R H ρ Δ σ Γ → ∀ Q : VK, (∀ v R' H', Sx c.Z B R0 R' H' (some v :: ρ) (s :: Δ) σ Γ' → Q v H') → Xok c B R0 ρ Δ → t σ H Q
section
variable {c : Cn} {Γ Γ1 Γ2 Γ3 : List Sl} {ta tb td te tl : TE} {tt tc : TT} {t u : TS} {s s1 s2 so : Sl} {α β γ : Type} {_ : Rp α} {_ : Rp β} {_ : Rp γ} {P : Po} {d : α}
theorem em_of (h : Ev c Γ te s) : EvM c Γ te s Γ := h
/-! ### parts of own pairs -/
end
/-! ### fields of exceptions that were kept -/
section
variable {c : Cn} {Γ : List Sl} {te : TE}
end
end TB

/-! TbCm: calls whose arguments are own things, handed over; rows of own tables; values of mixed lists compared. -/
namespace TB
open PySem PySem.Spec PyProof.Rows L2
noncomputable def mns (H : Hp) (f : List Addr) : Hp := fun p => if p ∈ f then none else H p
theorem mns_in {H : Hp} {f : List Addr} {p : Addr} (h : p ∈ f) : mns H f p = none := by simp [mns, h]
theorem mns_out {H : Hp} {f : List Addr} {p : Addr} (h : p ∉ f) : mns H f p = H p := by simp [mns, h]
theorem mns_same {H : Hp} {f : List Addr} : Same (mns H f) H := fun p o e => by
  by_cases c : p ∈ f
  · rw [mns_in c] at e; cases e
  · rw [mns_out c] at e; exact e
/-- a def that takes its arguments over; it raises nothing -/
noncomputable def spMv (Z : Zz) (T : Tm) : Sp := fun vs H Q _ => ∃ (R : Hp) (own : List Addr) (ss : List Sl) (ok : Sl → Prop), Same R H ∧ (∀ p ∈ own, R p = none) ∧ own.Nodup ∧ Es Z R H (vs.map some) ss own ∧ T ss ok (fun _ => False) ∧
  ∀ v R' H' s, Sx Z (mns H own) R R' H' [some v] [s] [] [] → ok s → Q v H'
theorem spMv_len {Z : Zz} {T : Tm} {n : Nat} (h : ∀ ss ok er, T ss ok er → ss.length = n) (vs : List V) (H : Hp) (Q : VK) (E : XK) (hs : spMv Z T vs H Q E) : vs.length = n := by
  obtain ⟨R, own, ss, ok, _, _, _, es, hT, _⟩ := hs
  have := es_len es
  rw [List.length_map] at this
  rw [this]
  exact h ss ok _ hT
theorem es_nones {Z : Zz} {R H : Hp} : ∀ n : Nat, Es Z R H (List.replicate n none) (List.replicate n .un) []
  | 0 => rfl
  | n + 1 => ⟨[], [], rfl, rfl, es_nones n⟩
theorem spMv_run {Z : Zz} {T : Tm} {N : List Str} {t : XK → TS} (hN : ∀ ss ok er, T ss ok er → ss.length ≤ N.length)
    (h : ∀ E ss ok er, T ss ok er → W ⟨Z, fun cls d _ H => E cls d H, fun r _ => er r⟩ (ss ++ List.replicate (N.length - ss.length) .un) (t E) ⟨fun _ => ok (.im ()), ok, fun _ => False, fun _ => False⟩)
    (vs : List V) (H : Hp) (Q : VK) (E : XK) (hs : spMv Z T vs H Q E) : t E { nx := fun _ H' => Q .non H', rt := Q } (L2.start N vs) H := by
  obtain ⟨R, own, ss, ok, sm, hR, nd, es, hT, kq⟩ := hs
  have hlen : vs.length = ss.length := by have := es_len es; rw [List.length_map] at this; exact this
  have es2 : Es Z R H (L2.start N vs) (ss ++ List.replicate (N.length - ss.length) .un) own := by
    unfold L2.start
    rw [hlen]
    exact (es_append (by rw [List.length_map]; exact hlen)).mpr ⟨own, [], by simp, es, es_nones _⟩
  refine h E ss ok _ hT (mns H own) R R H [] [] (L2.start N vs) _ ⟨rfl, own, ⟨sm, mns_same, Same.refl _, fun b o e => .inl e, fun p hp => ⟨hR p hp, mns_in hp⟩, nd⟩, es2⟩ (fun R' H' σ' Γ' S' ok' => ?_) (fun R' H' v s S' ok' => kq v R' H' s S' ok') (fun _ _ _ _ _ z => z.elim) (fun _ _ _ _ _ z => z.elim) (fun R' H' σ' Γ' r cls d S' rx er' => er'.elim)
  exact kq .non R' H' (.im ()) (sx_push (sx_leave S') rfl) ok'
section
variable {c : Cn} {Γ Γ1 Γ2 : List Sl} {ta tb te tl ty : TE} {tt tc : TT} {t u : TS} {s s1 s2 so : Sl} {α β γ : Type} {_ : Rp α} {_ : Rp β} {_ : Rp γ} {P : Po} {d : α}
theorem sx_rot {Z : Zz} {B R0 R H : Hp} {ρ ρ1 σ : List (Option V)} {Δ Δ1 : List Sl} {o : Option V} (hl : ρ1.length = Δ1.length) (S : Sx Z B R0 R H (ρ1 ++ (o :: ρ)) (Δ1 ++ (s :: Δ)) σ Γ) : Sx Z B R0 R H (o :: (ρ1 ++ ρ)) (s :: (Δ1 ++ Δ)) σ Γ := by
  obtain ⟨h, own, hs, es⟩ := S
  rw [List.append_assoc, List.append_assoc] at es
  obtain ⟨f, g, rfl, e1, f2, g2, rfl, e2, e3⟩ := (es_append hl).mp es
  refine ⟨by simp at h ⊢; omega, f2 ++ (f ++ g2), hs_sub hs (fun p hp => ?_) ?_, f2, f ++ g2, rfl, e2, ?_⟩
  · simp only [List.mem_append] at hp ⊢
    grind
  · have nd := hs.nd
    simp only [List.nodup_append, List.mem_append] at nd ⊢
    grind
  · show Es Z R H (ρ1 ++ ρ ++ σ) (Δ1 ++ Δ ++ Γ) _
    rw [List.append_assoc, List.append_assoc]
    exact (es_append hl).mpr ⟨f, g2, rfl, e1, e3⟩
/-- arguments handed over -/
noncomputable def EvAM (c : Cn) (Γ : List Sl) (t : TA) (ss : List Sl) (Γ' : List Sl) : Prop := ∀ B R0 R H ρ Δ σ, Sx c.Z B R0 R H ρ Δ σ Γ → ∀ Q : List V → Hp → Prop, (∀ vs R' H', vs.length = ss.length → Sx c.Z B R0 R' H' (vs.map some ++ ρ) (ss ++ Δ) σ Γ' → Q vs H') → Xok c B R0 ρ Δ → t σ H Q
theorem eam_nil : EvAM c Γ tNil [] Γ := fun B R0 R H ρ Δ σ S Q q _ => q [] R H rfl S
theorem eam_cons {tr : TA} {ss : List Sl} (h : EvM c Γ te s Γ1) (hr : EvAM c Γ1 tr ss Γ2) : EvAM c Γ (tCons te tr) (s :: ss) Γ2 := fun B R0 R H ρ Δ σ S Q q xk =>
  h B R0 R H ρ Δ σ S _ (fun v R1 H1 S1 => hr B R0 R1 H1 _ _ σ S1 _ (fun vs R2 H2 hl S2 => q (v :: vs) R2 H2 (by simp [hl]) (sx_rot (by rw [List.length_map]; exact hl) S2)) xk.push1) xk
theorem sx_callMv {Z : Zz} {B R0 R R' H H' : Hp} {ρ ρ1 σ : List (Option V)} {Δ Δ1 : List Sl} {f own' : List Addr} {v : V} (hl : ρ.length = Δ.length) (hs : Hs B R0 R H (f ++ own')) (es : Es Z R H (ρ ++ σ) (Δ ++ Γ) own') (S2 : Sx Z (mns H f) R R' H' [some v] [s] [] []) : Sx Z B R0 R' H' (some v :: ρ) (s :: Δ) σ Γ := by
  obtain ⟨_, own2, hs2, f2, g, rfl, h1, h2⟩ := S2
  have hg : g = [] := h2
  subst hg
  rw [List.append_nil] at hs2
  have nd := hs.nd
  simp only [List.nodup_append] at nd
  have key : ∀ p ∈ own', R' p = none ∧ H' p = H p ∧ p ∉ f2 := fun p hp => by
    have h3 := es_some es p hp
    have h4 := hs.ow p (by simp [hp])
    have h5 : p ∉ f := fun z => nd.2.2 p z p hp rfl
    have h6 : mns H f p = H p := mns_out h5
    obtain ⟨o, ho⟩ : ∃ o, H p = some o := by
      cases e : H p with
      | none => exact absurd e h3
      | some o => exact ⟨o, rfl⟩
    refine ⟨?_, ?_, fun hf => ?_⟩
    · cases e : R' p with
      | none => rfl
      | some o2 =>
        rcases hs2.nw p o2 e with q | q
        · rw [h4.1] at q; cases q
        · rw [h6] at q; exact absurd q h3
    · rw [ho, hs2.bh p o (by rw [h6]; exact ho)]
    · have := (hs2.ow p hf).2
      rw [h6] at this
      exact h3 this
  have bm : Same B (mns H f) := fun p o e => by
    have : p ∉ f := fun z => by have := (hs.ow p (by simp [z])).2; rw [e] at this; cases this
    rw [mns_out this]
    exact hs.bh p o e
  refine ⟨by simp [hl], f2 ++ own', ⟨hs2.rh, bm.trans hs2.bh, hs.r0.trans hs2.r0, fun b o e => ?_, fun p hp => ?_, ?_⟩, f2, own', rfl, h1, es_mono hs2.r0 (fun p hp => (key p hp).2.1) es⟩
  · rcases hs2.nw b o e with q | q
    · exact hs.nw b o q
    · exact .inr (bm.free q)
  · rcases List.mem_append.mp hp with q | q
    · exact ⟨(hs2.ow p q).1, bm.free (hs2.ow p q).2⟩
    · exact ⟨(key p q).1, (hs.ow p (by simp [q])).2⟩
  · rw [List.nodup_append]
    exact ⟨hs2.nd, nd.2.1, fun a ha b hb e => (key b hb).2.2 (e ▸ ha)⟩
/-- worth one of S, the slots as Γ' tells behind it -/
noncomputable def EvSM (c : Cn) (Γ : List Sl) (t : TE) (S : Sl → Prop) (Γ' : List Sl) : Prop := ∀ B R0 R H ρ Δ σ, Sx c.Z B R0 R H ρ Δ σ Γ → ∀ Q : VK, (∀ v s R' H', S s → Sx c.Z B R0 R' H' (some v :: ρ) (s :: Δ) σ Γ' → Q v H') → Xok c B R0 ρ Δ → t σ H Q
theorem w_retSM {S : Sl → Prop} (h : EvSM c Γ te S Γ1) (k : ∀ s, S s → P.rt s) : W c Γ (tRet te) P := fun B R0 R H ρ Δ σ D S0 n r b kk x =>
  h B R0 R H ρ Δ σ S0 _ (fun v s R1 H1 e S1 => r R1 H1 v s (sx_leave S1) (k s e)) x
/-! ### expressions that leave the heap as it is -/
theorem ep_opv {r : R2} {x : α} {y : β} {z : γ} (ha : EvP c Γ ta x) (hb : EvP c Γ tb y) (hr : ∀ R H v w, Same R H → Rp.rp c.Z R v x → Rp.rp c.Z R w y → ∃ k, Rp.rp c.Z R k z ∧ ∀ Q : VK, Q k H → r v w H Q) : EvP c Γ (tOp r ta tb) z := fun B R0 R H ρ Δ σ S Q q =>
  ha B R0 R H ρ Δ σ S _ fun v rv => hb B R0 R H ρ Δ σ S _ fun w rw => by
    obtain ⟨k, h1, h2⟩ := hr R H v w (sx_same S) rv rw
    exact h2 Q (q k h1)
theorem ep_mod {i j : Int} (ha : EvP c Γ ta i) (hb : EvP c Γ tb j) (h : 0 < j) : EvP c Γ (tOp gMod ta tb) (i % j) := ep_opv ha hb fun R H v w _ rv rw => ⟨.int (i % j), rfl, fun Q q => ⟨i, j, rv, rw, by omega, by show Q (.int (i.fmod j)) H; rw [Int.fmod_eq_emod_of_nonneg _ (by omega)]; exact q⟩⟩
theorem ep_div {i j : Int} (ha : EvP c Γ ta i) (hb : EvP c Γ tb j) (h : 0 < j) (h2 : j < 1073741824) : EvP c Γ (tOp gDiv ta tb) (i / j) := ep_opv ha hb fun R H v w _ rv rw => ⟨.int (i / j), rfl, fun Q q => .inl ⟨i, j, rv, rw, ⟨by omega, by omega⟩, by show Q (.int (i.fdiv j)) H; rw [Int.fdiv_eq_ediv_of_nonneg _ (by omega)]; exact q⟩⟩
/-! ### rows of own tables -/
theorem ev_lenO2 {xss : List (List α)} {k : Nat} (e : Γ[k]? = some (.o2 xss)) : Ev c Γ (tCB (gLen c.Z.K) (tCons (tVar k) tNil)) (.im (xss.length : Int)) := fun B R0 R H ρ Δ σ S Q q xk => by
  obtain ⟨p, qs, h2, h3, h4, _⟩ := sx_mut2 S e
  exact ⟨.ref p, h2, _, (qs.map V.ref).length, rfl, .inl ⟨_, SqL.of h3, rfl⟩, q _ R H (sx_push S (by rw [List.length_map, Paired.length h4]; rfl))⟩
end
/-! ### values of mixed lists -/
/-- an int, or a text that Python can show -/
inductive IX where
  | i (n : Int) | s (x : Str) (h : PyData.strOk x = true)
  deriving DecidableEq
noncomputable instance : Rp IX := ⟨.i 0, fun _ _ v d => match d with | .i n => v = .int n | .s x _ => v = .str x, fun {Z H H' v d} _ h => by cases d <;> exact h⟩
noncomputable instance : Flt IX := ⟨fun {Z H H' v d} h => by cases d <;> exact h⟩
noncomputable instance : Pd IX := { py := fun d => match d with | .i n => .int n | .s x _ => .str x, dep := 0, dp := fun {Z H v d} h => (by
    cases d with
    | i n => cases (show v = .int n from h); exact .int _
    | s x _ => cases (show v = .str x from h); exact .str _), can := fun d => (by
    cases d with
    | i n => simp [PyData.canLay0]
    | s x h => simpa [PyData.canLay0] using h), low := fun d => (by cases d <;> simp [PyData.depth]), eqv := fun a b => (by cases a <;> cases b <;> simp [PyData.eqv]) }
section
variable {c : Cn} {Γ : List Sl} {te : TE} {α : Type} {_ : Rp α}
/-- an int, a text, as a value of a mixed list -/
theorem ev_isI {i : Int} (h : Ev c Γ te (.im i)) : Ev c Γ te (.im (IX.i i)) := fun B R0 R H ρ Δ σ S Q q x => h B R0 R H ρ Δ σ S Q (fun v R' H' S' => q v R' H' (sx_push (sx_pop S') (show Rp.rp c.Z R' v (IX.i i) from sx_top' S'))) x
theorem ev_isS {y : Str} (hy : PyData.strOk y = true) (h : Ev c Γ te (.im y)) : Ev c Γ te (.im (IX.s y hy)) := fun B R0 R H ρ Δ σ S Q q x => h B R0 R H ρ Δ σ S Q (fun v R' H' S' => q v R' H' (sx_push (sx_pop S') (show Rp.rp c.Z R' v (IX.s y hy) from sx_top' S'))) x
theorem ev_unI {i : Int} (h : Ev c Γ te (.im (IX.i i))) : Ev c Γ te (.im i) := fun B R0 R H ρ Δ σ S Q q x => h B R0 R H ρ Δ σ S Q (fun v R' H' S' => q v R' H' (sx_push (sx_pop S') (show Rp.rp c.Z R' v i from sx_top' S'))) x
end
end TB

/-! TbMk: the makings of the laws' groups, as data. -/
namespace TB
open PySem L2
/-- four sizes, together at most 23 -/
noncomputable def SzOk (l : List Int) : Prop := ∃ a b c d : Int, l = [a, b, c, d] ∧ 1 ≤ a ∧ 1 ≤ b ∧ 1 ≤ c ∧ 1 ≤ d ∧ a * b * c * d ≤ 23
noncomputable def szB : List Int → Bool
  | [a, b, c, d] => decide (1 ≤ a) && decide (1 ≤ b) && decide (1 ≤ c) && decide (1 ≤ d) && decide (a * b * c * d ≤ 23)
  | _ => false
theorem szB_ok {l : List Int} (h : szB l = true) : SzOk l := by
  match l, h with
  | [a, b, c, d], h =>
    simp only [szB, Bool.and_eq_true, decide_eq_true_eq] at h
    exact ⟨a, b, c, d, rfl, h.1.1.1.1, h.1.1.1.2, h.1.1.2, h.1.2, h.2⟩
theorem drawn {m f x : Int} (hf : 1 ≤ f) (hm : f ≤ m) : 1 ≤ m / f ∧ 1 ≤ 1 + x % (m / f) ∧ f * (1 + x % (m / f)) ≤ m := by
  have h1 : 1 ≤ m / f := (Int.le_ediv_iff_mul_le (by omega)).mpr (by omega)
  have h2 := Int.emod_nonneg x (show m / f ≠ 0 by omega)
  have h3 := Int.emod_lt_of_pos x (show 0 < m / f by omega)
  refine ⟨h1, by omega, ?_⟩
  have h4 : f * (1 + x % (m / f)) ≤ f * (m / f) := Int.mul_le_mul_of_nonneg_left (by omega) (by omega)
  have h5 : f * (m / f) ≤ m := Int.mul_ediv_self_le (by omega)
  omega
theorem szOk_of {top steps a x y : Int} {r : Int} (hr : r = top / steps) (hs : 1 ≤ steps) (ht : top ≤ 23) (h1 : 1 ≤ a) (h2 : a ≤ r) :
    1 ≤ r / a ∧ 1 ≤ 1 + x % (r / a) ∧ 1 ≤ r / (a * (1 + x % (r / a))) ∧ SzOk [a, 1 + x % (r / a), 1 + y % (r / (a * (1 + x % (r / a)))), steps] := by
  obtain ⟨p1, p2, p3⟩ := drawn (x := x) h1 h2
  have p4 : 1 ≤ a * (1 + x % (r / a)) := by
    have := Int.mul_le_mul_of_nonneg_right h1 (show 0 ≤ 1 + x % (r / a) by omega)
    omega
  obtain ⟨p5, p6, p7⟩ := drawn (x := y) p4 p3
  refine ⟨p1, p2, p5, _, _, _, _, rfl, h1, p2, p6, hs, ?_⟩
  have q1 := Int.mul_le_mul_of_nonneg_right p7 (show 0 ≤ steps by omega)
  have q2 : r * steps ≤ top := by rw [hr, Int.mul_comm]; exact Int.mul_ediv_self_le (by omega)
  omega
end TB

/-! TbAb: plain law: an abelian part turned by steps is a group. -/
namespace TB
open PySem L2
noncomputable def In (n a : Int) : Prop := 0 ≤ a ∧ a < n
structure OpG (n : Int) (f : Int → Int → Int) (e : Int) : Prop where
  he : In n e
  cl : ∀ a b, In n a → In n b → In n (f a b)
  un : ∀ a, In n a → f e a = a ∧ f a e = a
  bk : ∀ a, In n a → ∃ b, In n b ∧ f a b = e
  asc : ∀ a b c, In n a → In n b → In n c → f (f a b) c = f a (f b c)
theorem OpG.bk2 {n : Int} {f : Int → Int → Int} {e : Int} (g : OpG n f e) {a : Int} (ha : In n a) : ∃ b, In n b ∧ f a b = e ∧ f b a = e := by
  obtain ⟨b, hb, e1⟩ := g.bk a ha
  obtain ⟨c, hc, e2⟩ := g.bk b hb
  refine ⟨b, hb, e1, ?_⟩
  have h1 := (g.un (f b a) (g.cl _ _ hb ha)).2
  rw [← h1, ← e2, g.asc _ _ _ hb ha (g.cl _ _ hb hc), ← g.asc _ _ _ ha hb hc, e1, (g.un c hc).1]
theorem tbl_of {t : Tbl} {n : Int} {f : Int → Int → Int} {e : Int} (g : OpG n f e) (nm : Int → Int) (h1 : 1 ≤ n) (h2 : n ≤ 23) (hin : ∀ a, In n a → In n (nm a)) (sj : ∀ b, In n b → ∃ a, In n a ∧ nm a = b) (hl : (t.length : Int) = n) (hr : ∀ r ∈ t, r.length = t.length)
    (hv : ∀ a b, In n a → In n b → en t (nm a) (nm b) = nm (f a b)) : GTbl t (nm e) := by
  have inT : ∀ {a}, InT t a ↔ In n a := fun {a} => by unfold InT In; rw [hl]
  have q : ∀ {a}, InT t a → ∃ b, In n b ∧ nm b = a := fun h => sj _ (inT.mp h)
  refine ⟨⟨by omega, by omega, hr⟩, fun r hr' x hx => ?_, inT.mpr (hin _ g.he), fun a a0 a1 => ?_, fun a ha => ?_, fun a b c ha hb hc => ?_⟩
  · obtain ⟨i, hi, rfl⟩ := List.getElem_of_mem hr'
    obtain ⟨j, hj, rfl⟩ := List.getElem_of_mem hx
    have hj' := hj
    rw [hr _ hr'] at hj'
    obtain ⟨a, ha, ea⟩ := q (a := (i : Int)) ⟨by omega, by omega⟩
    obtain ⟨b, hb, eb⟩ := q (a := (j : Int)) ⟨by omega, by omega⟩
    have := hv a b ha hb
    rw [ea, eb, en, gt_get hi, gt_get hj] at this
    rw [this]
    exact inT.mpr (hin _ (g.cl _ _ ha hb))
  · obtain ⟨b, hb, rfl⟩ := q ⟨a0, a1⟩
    rw [hv _ _ g.he hb, hv _ _ hb g.he, (g.un b hb).1, (g.un b hb).2]
    exact ⟨rfl, rfl⟩
  · obtain ⟨b, hb, rfl⟩ := q ha
    obtain ⟨c, hc, e1, e2⟩ := g.bk2 hb
    exact ⟨nm c, inT.mpr (hin _ hc), by rw [IsBack, hv _ _ hb hc, hv _ _ hc hb, e1, e2]; exact ⟨rfl, rfl⟩⟩
  · obtain ⟨a', ha', ea⟩ := q ha
    obtain ⟨b', hb', eb⟩ := q hb
    obtain ⟨c', hc', ec⟩ := q hc
    rw [← ea, ← eb, ← ec, Asc, hv _ _ ha' hb', hv _ _ hb' hc', hv _ _ (g.cl _ _ ha' hb') hc', hv _ _ ha' (g.cl _ _ hb' hc'), g.asc _ _ _ ha' hb' hc']
/-! ### an abelian part, turned by steps -/
structure AbG (n : Int) (f : Int → Int → Int) : Prop where
  pos : 1 ≤ n
  cl : ∀ a b, In n (f a b)
  comm : ∀ a b, f a b = f b a
  asc : ∀ a b c, f (f a b) c = f a (f b c)
  un : ∀ a, In n a → f a 0 = a
  bk : ∀ a, In n a → ∃ b, In n b ∧ f a b = 0
noncomputable def itr (ph : Int → Int) : Nat → Int → Int
  | 0, a => a
  | k + 1, a => ph (itr ph k a)
theorem itr_add {ph : Int → Int} (i j : Nat) (a : Int) : itr ph (i + j) a = itr ph i (itr ph j a) := by
  induction i with
  | zero => rw [Nat.zero_add]; rfl
  | succ i ih => rw [Nat.succ_add]; show ph _ = ph _; rw [ih]
structure Turn (n s : Int) (f : Int → Int → Int) (ph : Int → Int) (e : Int) : Prop where
  pos : 1 ≤ s
  cl : ∀ a, In n (ph a)
  add : ∀ a b, ph (f a b) = f (ph a) (ph b)
  z : ph 0 = 0
  es : ph e = e
  he : In n e
  back : ∀ a, In n a → itr ph s.toNat a = a
noncomputable def xop (n s : Int) (f : Int → Int → Int) (ph : Int → Int) (e : Int) (A B : Int) : Int := (if s ≤ A / n + B / n then f (f (A % n) (itr ph (A / n).toNat (B % n))) e else f (A % n) (itr ph (A / n).toNat (B % n))) + n * ((A / n + B / n) % s)
section
variable {n s : Int} {f : Int → Int → Int} {ph : Int → Int} {e : Int}
theorem dm {n v k : Int} (h : In n v) : (v + n * k) % n = v ∧ (v + n * k) / n = k := by
  have hn : n ≠ 0 := by have := h.1; have := h.2; omega
  rw [Int.add_mul_emod_self_left, Int.add_mul_ediv_left _ _ hn, Int.emod_eq_of_lt h.1 h.2, Int.ediv_eq_zero_of_lt h.1 h.2]
  omega
theorem dmi {n s A : Int} (hn : 1 ≤ n) (h : In (n * s) A) : In n (A % n) ∧ In s (A / n) ∧ A = A % n + n * (A / n) := by
  have q1 := Int.emod_nonneg A (show n ≠ 0 by omega)
  have q2 := Int.emod_lt_of_pos A (show 0 < n by omega)
  have q3 := Int.emod_add_mul_ediv A n
  have q4 := Int.ediv_nonneg h.1 (show 0 ≤ n by omega)
  have q5 : A / n < s := Int.ediv_lt_of_lt_mul (by omega) (by rw [Int.mul_comm]; exact h.2)
  exact ⟨⟨q1, q2⟩, ⟨q4, q5⟩, by omega⟩
theorem dmb {n s v k : Int} (h : In n v) (hk : In s k) : In (n * s) (v + n * k) := by
  obtain ⟨a, b⟩ := h
  obtain ⟨c, d⟩ := hk
  have h1 : n * k ≤ n * (s - 1) := Int.mul_le_mul_of_nonneg_left (by omega) (by omega)
  have h2 : 0 ≤ n * k := Int.mul_nonneg (by omega) c
  rw [Int.mul_sub] at h1
  exact ⟨by omega, by omega⟩
noncomputable def cy (s e i j : Int) : Int := if s ≤ i + j then e else 0
theorem xop_at (A : AbG n f) (T : Turn n s f ph e) {p q i j : Int} (hp : In n p) (hq : In n q) : xop n s f ph e (p + n * i) (q + n * j) = f (f p (itr ph i.toNat q)) (cy s e i j) + n * ((i + j) % s) := by
  unfold xop cy
  rw [(dm hp).1, (dm hp).2, (dm hq).1, (dm hq).2]
  split
  · rfl
  · rw [A.un _ (A.cl _ _)]
theorem itr_in (T : Turn n s f ph e) {a : Int} (h : In n a) : ∀ k, In n (itr ph k a)
  | 0 => h
  | k + 1 => T.cl _
theorem itr_f (T : Turn n s f ph e) (a b : Int) : ∀ k, itr ph k (f a b) = f (itr ph k a) (itr ph k b)
  | 0 => rfl
  | k + 1 => by show ph _ = f (ph _) (ph _); rw [itr_f T a b k, T.add]
theorem itr_cy (T : Turn n s f ph e) (i j : Int) : ∀ k, itr ph k (cy s e i j) = cy s e i j
  | 0 => rfl
  | k + 1 => by
    show ph _ = _
    rw [itr_cy T i j k]
    unfold cy
    split
    · exact T.es
    · exact T.z
theorem itr_mod (T : Turn n s f ph e) {i j r : Int} (hi : In s i) (hj : In s j) (hr : In n r) : itr ph ((i + j) % s).toNat r = itr ph i.toNat (itr ph j.toNat r) := by
  rw [← itr_add]
  by_cases h : i + j < s
  · rw [Int.emod_eq_of_lt (by have := hi.1; have := hj.1; omega) h, show (i + j).toNat = i.toNat + j.toNat by have := hi.1; have := hj.1; omega]
  · have e1 : (i + j) % s = i + j - s := by
      rw [← Int.sub_emod_right, Int.emod_eq_of_lt (by omega) (by have := hi.2; have := hj.2; omega)]
    rw [e1, show i.toNat + j.toNat = (i + j - s).toNat + s.toNat by have := hi.1; have := hj.1; have := T.pos; omega, itr_add, T.back _ hr]
theorem cy_cy (A : AbG n f) {i j k : Int} (hi : In s i) (hj : In s j) (hk : In s k) : f (cy s e i j) (cy s e ((i + j) % s) k) = f (cy s e j k) (cy s e i ((j + k) % s)) := by
  obtain ⟨i0, i1⟩ := hi
  obtain ⟨j0, j1⟩ := hj
  obtain ⟨k0, k1⟩ := hk
  have m : ∀ {x}, 0 ≤ x → x < s + s → x % s = if x < s then x else x - s := fun {x} h0 h1 => by
    by_cases h : x < s
    · rw [if_pos h, Int.emod_eq_of_lt h0 h]
    · rw [if_neg h, ← Int.sub_emod_right, Int.emod_eq_of_lt (by omega) (by omega)]
  rw [m (by omega) (by omega), m (by omega) (by omega)]
  unfold cy
  have c0 := A.comm e 0
  by_cases h1 : i + j < s <;> by_cases h2 : j + k < s <;> simp only [h1, h2, ite_true, ite_false, show ¬ (s ≤ i + j) ↔ i + j < s by omega]
  all_goals (repeat' split)
  all_goals first | rfl | omega | exact c0 | exact c0.symm
theorem ext_G (A : AbG n f) (T : Turn n s f ph e) : OpG (n * s) (xop n s f ph e) 0 := by
  have hn := A.pos
  have hs := T.pos
  have z : In n 0 := ⟨by omega, by omega⟩
  have mods : ∀ x : Int, In s (x % s) := fun x => ⟨Int.emod_nonneg x (by omega), Int.emod_lt_of_pos x (by omega)⟩
  have zs : In s 0 := ⟨by omega, by omega⟩
  have com0 : ∀ a, In n a → f 0 a = a := fun a ha => by rw [A.comm, A.un a ha]
  have i0 : ∀ k, itr ph k 0 = 0 := fun k => by
    induction k with
    | zero => rfl
    | succ k ih => show ph _ = 0; rw [ih, T.z]
  have Z0 : ∀ B, In (n * s) B → B = B % n + n * (B / n) ∧ In n (B % n) ∧ In s (B / n) := fun B h => ⟨(dmi hn h).2.2, (dmi hn h).1, (dmi hn h).2.1⟩
  refine ⟨⟨by omega, ?_⟩, fun a b ha hb => ?_, fun a ha => ?_, fun a ha => ?_, fun a b c ha hb hc => ?_⟩
  · have := Int.mul_le_mul_of_nonneg_left hs (show 0 ≤ n by omega)
    omega
  · unfold xop
    refine dmb ?_ (mods _)
    split <;> exact A.cl _ _
  · obtain ⟨ea, hp, hi⟩ := Z0 a ha
    generalize a % n = p at ea hp
    generalize a / n = i at ea hi
    subst ea
    constructor
    · have := xop_at (e := e) A T (i := 0) (j := i) z hp
      rw [Int.mul_zero, Int.add_zero] at this
      rw [this, Int.zero_add, Int.emod_eq_of_lt hi.1 hi.2]
      unfold cy
      rw [if_neg (by have := hi.2; omega), A.un _ (A.cl _ _)]
      show f 0 p + _ = _
      rw [com0 p hp]
    · have := xop_at (e := e) A T (i := i) (j := 0) hp z
      rw [Int.mul_zero, Int.add_zero] at this
      rw [this, Int.add_zero, Int.emod_eq_of_lt hi.1 hi.2]
      unfold cy
      rw [if_neg (by have := hi.2; omega), A.un _ (A.cl _ _), i0, A.un _ hp]
  · obtain ⟨ea, hp, hi⟩ := Z0 a ha
    generalize a % n = p at ea hp
    generalize a / n = i at ea hi
    subst ea
    by_cases h : i = 0
    · subst h
      obtain ⟨b, hb, e1⟩ := A.bk p hp
      refine ⟨b + n * 0, dmb hb zs, ?_⟩
      rw [xop_at A T hp hb]
      show f (f p b) (cy s e 0 0) + n * (0 % s) = 0
      unfold cy
      rw [e1, if_neg (by omega), A.un 0 z, Int.zero_emod, Int.mul_zero]
      rfl
    · have i1 := hi.1
      have i2 := hi.2
      obtain ⟨r, hr, e1⟩ := A.bk (f p e) (A.cl _ _)
      refine ⟨itr ph (s - i).toNat r + n * (s - i), dmb (itr_in T hr _) ⟨by omega, by omega⟩, ?_⟩
      rw [xop_at A T hp (itr_in T hr _), ← itr_add, show i.toNat + (s - i).toNat = s.toNat by omega, T.back r hr, show i + (s - i) = s by omega, Int.emod_self, Int.mul_zero, Int.add_zero]
      unfold cy
      rw [if_pos (by omega), A.asc, A.comm r e, ← A.asc, e1]
  · obtain ⟨ea, hp, hi⟩ := Z0 a ha
    obtain ⟨eb, hq, hj⟩ := Z0 b hb
    obtain ⟨ec, hr, hk⟩ := Z0 c hc
    generalize a % n = p at ea hp
    generalize a / n = i at ea hi
    generalize b % n = q at eb hq
    generalize b / n = j at eb hj
    generalize c % n = r at ec hr
    generalize c / n = k at ec hk
    subst ea eb ec
    rw [xop_at A T hp hq, xop_at A T hq hr, xop_at A T (A.cl _ _) hr, xop_at A T hp (A.cl _ _), itr_mod T hi hj hr, itr_f T, itr_f T, itr_cy T]
    have e1 : ((i + j) % s + k) % s = (i + (j + k) % s) % s := by rw [Int.emod_add_emod, Int.add_emod_emod, Int.add_assoc]
    rw [e1]
    congr 1
    have c1 := cy_cy (e := e) A hi hj hk
    have ia : Std.Associative f := ⟨A.asc⟩
    have ic : Std.Commutative f := ⟨A.comm⟩
    generalize itr ph i.toNat q = q' at *
    generalize itr ph i.toNat (itr ph j.toNat r) = r' at *
    generalize cy s e i j = x1 at *
    generalize cy s e ((i + j) % s) k = x2 at *
    generalize cy s e j k = x3 at *
    generalize cy s e i ((j + k) % s) = x4 at *
    have l1 : f (f (f (f p q') x1) r') x2 = f (f (f p q') r') (f x1 x2) := by ac_rfl
    have l2 : f (f p (f (f q' r') x3)) x4 = f (f (f p q') r') (f x3 x4) := by ac_rfl
    rw [l1, l2, c1]
end
end TB
namespace TB
open PySem L2
/-! ### three rounds -/
noncomputable def suF (a b c p q : Int) : Int := (p + q) % a + a * ((p / a + q / a) % b) + a * b * ((p / (a * b) + q / (a * b)) % c)
/-- what the turn makes of the two first rounds -/
noncomputable def tuP (a b u v k : Int) (x y : Int) : Int × Int := if k = 1 then (y, x) else if k = 2 then ((0 - y) % a, (x - y) % a) else if k = 3 then (x, (y + x) % b) else if k = 4 then ((x + a / 2 * y) % a, y) else (x * u % a, y * v % b)
noncomputable def tuF (a b c u v w k p : Int) : Int := (tuP a b u v k (p % a) (p / a % b)).1 + a * ((tuP a b u v k (p % a) (p / a % b)).2 + b * (p / (a * b) * w % c))
/-- x, y, z of the three rounds as one number -/
noncomputable def cod (a b x y z : Int) : Int := x + a * (y + b * z)
section
variable {a b c : Int}
theorem cod_d (ha : 1 ≤ a) (hb : 1 ≤ b) {x y z : Int} (hx : In a x) (hy : In b y) : cod a b x y z % a = x ∧ cod a b x y z / a = y + b * z ∧ cod a b x y z / a % b = y ∧ cod a b x y z / (a * b) = z := by
  have h1 := dm (n := a) (k := y + b * z) hx
  have h2 := dm (n := b) (k := z) hy
  have e : cod a b x y z = x + a * (y + b * z) := rfl
  rw [e, h1.1, h1.2, ← Int.ediv_ediv_of_nonneg (by omega), h1.2, h2.1, h2.2]
  exact ⟨rfl, rfl, rfl, rfl⟩
theorem suF_cod (p q : Int) : suF a b c p q = cod a b ((p + q) % a) ((p / a + q / a) % b) ((p / (a * b) + q / (a * b)) % c) := by
  unfold suF cod
  rw [Int.mul_add, Int.mul_assoc, Int.add_assoc]
theorem md' {n : Int} (hn : 1 ≤ n) (x : Int) : In n (x % n) := ⟨Int.emod_nonneg x (by omega), Int.emod_lt_of_pos x (by omega)⟩
theorem cod_in (ha : 1 ≤ a) (hb : 1 ≤ b) {x y z : Int} (hx : In a x) (hy : In b y) (hz : In c z) : In (a * b * c) (cod a b x y z) := by
  have h2 := dmb hy hz
  have h1 := dmb hx h2
  rw [← Int.mul_assoc] at h1
  exact h1
theorem cod_of (ha : 1 ≤ a) (hb : 1 ≤ b) {p : Int} (h : In (a * b * c) p) : ∃ x y z, In a x ∧ In b y ∧ In c z ∧ p = cod a b x y z := by
  rw [Int.mul_assoc] at h
  obtain ⟨h1, h2, h3⟩ := dmi ha h
  obtain ⟨h4, h5, h6⟩ := dmi hb h2
  refine ⟨p % a, p / a % b, p / a / b, h1, h4, h5, ?_⟩
  unfold cod
  rw [← h6, ← h3]
theorem suF_at (ha : 1 ≤ a) (hb : 1 ≤ b) {x y z x' y' z' : Int} (hx : In a x) (hy : In b y) (hx' : In a x') (hy' : In b y') : suF a b c (cod a b x y z) (cod a b x' y' z') = cod a b ((x + x') % a) ((y + y') % b) ((z + z') % c) := by
  obtain ⟨d1, d2, d3, d4⟩ := cod_d ha hb hx hy (z := z)
  obtain ⟨e1, e2, e3, e4⟩ := cod_d ha hb hx' hy' (z := z')
  rw [suF_cod, d2, d4, e2, e4, ← Int.emod_add_emod, ← Int.add_emod_emod, d1, e1]
  congr 1
  rw [show y + b * z + (y' + b * z') = y + y' + b * (z + z') by rw [Int.mul_add]; omega, Int.add_mul_emod_self_left]
/-- told of every number by the numbers that it is like -/
theorem suF_like (ha : 1 ≤ a) (hb : 1 ≤ b) (p : Int) : ∃ x y z, In a x ∧ In b y ∧ p = cod a b x y z := by
  refine ⟨p % a, p / a % b, p / a / b, md' ha _, md' hb _, ?_⟩
  unfold cod
  rw [Int.emod_add_mul_ediv, Int.emod_add_mul_ediv]
theorem suF_G (ha : 1 ≤ a) (hb : 1 ≤ b) (hc : 1 ≤ c) : AbG (a * b * c) (suF a b c) := by
  have hab : 1 ≤ a * b := by
    have := Int.mul_le_mul_of_nonneg_left hb (show 0 ≤ a by omega)
    omega
  refine ⟨?_, fun p q => ?_, fun p q => ?_, fun p q r => ?_, fun p hp => ?_, fun p hp => ?_⟩
  · have := Int.mul_le_mul_of_nonneg_left hc (show 0 ≤ a * b by omega)
    omega
  · rw [suF_cod]
    exact cod_in ha hb (md' ha _) (md' hb _) (md' hc _)
  · unfold suF
    rw [Int.add_comm p q, Int.add_comm (p / a), Int.add_comm (p / (a * b))]
  · obtain ⟨x, y, z, hx, hy, rfl⟩ := suF_like ha hb p
    obtain ⟨x1, y1, z1, hx1, hy1, rfl⟩ := suF_like ha hb q
    obtain ⟨x2, y2, z2, hx2, hy2, rfl⟩ := suF_like ha hb r
    rw [suF_at ha hb hx hy hx1 hy1, suF_at ha hb hx1 hy1 hx2 hy2, suF_at ha hb (md' ha _) (md' hb _) hx2 hy2, suF_at ha hb hx hy (md' ha _) (md' hb _)]
    simp only [Int.emod_add_emod, Int.add_emod_emod, Int.add_assoc]
  · obtain ⟨x, y, z, hx, hy, hz, rfl⟩ := cod_of ha hb hp
    have z0 : (0 : Int) = cod a b 0 0 0 := by unfold cod; simp
    have := suF_at (c := c) ha hb hx hy (x' := 0) (y' := 0) (z := z) (z' := 0) ⟨by omega, by omega⟩ ⟨by omega, by omega⟩
    rw [← z0, Int.add_zero, Int.add_zero, Int.add_zero, Int.emod_eq_of_lt hx.1 hx.2, Int.emod_eq_of_lt hy.1 hy.2, Int.emod_eq_of_lt hz.1 hz.2] at this
    exact this
  · obtain ⟨x, y, z, hx, hy, hz, rfl⟩ := cod_of ha hb hp
    refine ⟨cod a b ((0 - x) % a) ((0 - y) % b) ((0 - z) % c), cod_in ha hb (md' ha _) (md' hb _) (md' hc _), ?_⟩
    rw [suF_at ha hb hx hy (md' ha _) (md' hb _)]
    simp only [Int.add_emod_emod]
    rw [show x + (0 - x) = 0 by omega, show y + (0 - y) = 0 by omega, show z + (0 - z) = 0 by omega]
    unfold cod
    simp
end
end TB
namespace TB
open PySem L2
/-! ### the turn -/
structure TurnOk (a b c s u v w k : Int) : Prop where
  ha : 1 ≤ a
  hb : 1 ≤ b
  hc : 1 ≤ c
  hs : 1 ≤ s
  kk : k = 0 ∨ (k = 1 ∧ a = b ∧ s % 2 = 0) ∨ (k = 2 ∧ a = b ∧ s % 3 = 0) ∨ (k = 3 ∧ a % b = 0 ∧ s % b = 0) ∨ (k = 4 ∧ a % 2 = 0 ∧ b % 2 = 0 ∧ s % 2 = 0)
  hu : u ^ s.toNat % a = 1 % a
  hv : v ^ s.toNat % b = 1 % b
  hw : w ^ s.toNat % c = 1 % c
theorem mdk {n x y : Int} (k : Int) (h : x = y + n * k) : x % n = y % n := by rw [h, Int.add_mul_emod_self_left]
section
variable {a b c s u v w k : Int}
theorem tuP_in (h : TurnOk a b c s u v w k) {x y : Int} (hx : In a x) (hy : In b y) : In a (tuP a b u v k x y).1 ∧ In b (tuP a b u v k x y).2 := by
  have ha := h.ha
  have hb := h.hb
  unfold tuP
  rcases h.kk with rfl | ⟨rfl, rfl, _⟩ | ⟨rfl, rfl, _⟩ | ⟨rfl, _⟩ | ⟨rfl, _⟩ <;> simp
  · exact ⟨md' ha _, md' hb _⟩
  · exact ⟨hy, hx⟩
  · exact ⟨md' ha _, md' hb _⟩
  · exact ⟨hx, md' hb _⟩
  · exact ⟨md' ha _, hy⟩
theorem tuP_add (h : TurnOk a b c s u v w k) {x y x' y' : Int} (hx : In a x) (hy : In b y) (hx' : In a x') (hy' : In b y') :
    tuP a b u v k ((x + x') % a) ((y + y') % b) = (((tuP a b u v k x y).1 + (tuP a b u v k x' y').1) % a, ((tuP a b u v k x y).2 + (tuP a b u v k x' y').2) % b) := by
  have ha := h.ha
  have hb := h.hb
  have dx := Int.emod_def (x + x') a
  have dy := Int.emod_def (y + y') b
  unfold tuP
  rcases h.kk with rfl | ⟨rfl, rfl, _⟩ | ⟨rfl, rfl, _⟩ | ⟨rfl, q1, _⟩ | ⟨rfl, q1, q2, _⟩ <;> simp
  · rw [← Int.add_mul, ← Int.add_mul]
    exact ⟨by rw [Int.mul_emod, Int.emod_emod, ← Int.mul_emod], by rw [Int.mul_emod, Int.emod_emod, ← Int.mul_emod]⟩
  · refine ⟨mdk ((y + y') / a) ?_, mdk 0 ?_⟩
    · rw [dy]; omega
    · omega
  · obtain ⟨m, em⟩ := Int.dvd_of_emod_eq_zero q1
    refine mdk (-(m * ((x + x') / a))) ?_
    rw [dx, Int.mul_neg, ← Int.mul_assoc, ← em]; omega
  · obtain ⟨m, em⟩ := Int.dvd_of_emod_eq_zero q1
    obtain ⟨m2, em2⟩ := Int.dvd_of_emod_eq_zero q2
    refine mdk (-(m2 * ((y + y') / b))) ?_
    have e2 : a / 2 * b = a * m2 := by
      rw [show a / 2 = m by omega, em, em2, Int.mul_comm 2 m, Int.mul_assoc]
    rw [dy, Int.mul_sub, Int.mul_neg, ← Int.mul_assoc, ← Int.mul_assoc, ← e2, Int.mul_add]
    omega

theorem tuF_cod (p : Int) : tuF a b c u v w k p = cod a b (tuP a b u v k (p % a) (p / a % b)).1 (tuP a b u v k (p % a) (p / a % b)).2 (p / (a * b) * w % c) := rfl
theorem tuF_at (h : TurnOk a b c s u v w k) {x y z : Int} (hx : In a x) (hy : In b y) : tuF a b c u v w k (cod a b x y z) = cod a b (tuP a b u v k x y).1 (tuP a b u v k x y).2 (z * w % c) := by
  obtain ⟨d1, d2, d3, d4⟩ := cod_d h.ha h.hb hx hy (z := z)
  rw [tuF_cod, d1, d3, d4]
theorem tuF_add (h : TurnOk a b c s u v w k) (p q : Int) : tuF a b c u v w k (suF a b c p q) = suF a b c (tuF a b c u v w k p) (tuF a b c u v w k q) := by
  have ha := h.ha
  have hb := h.hb
  obtain ⟨x, y, z, hx, hy, rfl⟩ := suF_like ha hb p
  obtain ⟨x1, y1, z1, hx1, hy1, rfl⟩ := suF_like ha hb q
  rw [suF_at ha hb hx hy hx1 hy1, tuF_at h (md' ha _) (md' hb _), tuF_at h hx hy, tuF_at h hx1 hy1, suF_at ha hb (tuP_in h hx hy).1 (tuP_in h hx hy).2 (tuP_in h hx1 hy1).1 (tuP_in h hx1 hy1).2, tuP_add h hx hy hx1 hy1]
  congr 1
  rw [Int.mul_emod, Int.emod_emod, ← Int.mul_emod, Int.add_mul, Int.emod_add_emod, Int.add_emod_emod]
theorem tuF_in (h : TurnOk a b c s u v w k) (p : Int) : In (a * b * c) (tuF a b c u v w k p) := by
  obtain ⟨x, y, z, hx, hy, rfl⟩ := suF_like h.ha h.hb p
  rw [tuF_at h hx hy]
  exact cod_in h.ha h.hb (tuP_in h hx hy).1 (tuP_in h hx hy).2 (md' h.hc _)
theorem tuF_z (h : TurnOk a b c s u v w k) : tuF a b c u v w k 0 = 0 := by
  have ha := h.ha
  have hb := h.hb
  have z0 : (0 : Int) = cod a b 0 0 0 := by unfold cod; simp
  have := tuF_at h (x := 0) (y := 0) (z := 0) ⟨by omega, by omega⟩ ⟨by omega, by omega⟩
  rw [← z0] at this
  rw [this]
  unfold tuP cod
  rcases h.kk with rfl | ⟨rfl, rfl, _⟩ | ⟨rfl, rfl, _⟩ | ⟨rfl, _⟩ | ⟨rfl, _⟩ <;> simp
/-- the two first rounds, turned k times -/
noncomputable def itP (F : Int → Int → Int × Int) : Nat → Int × Int → Int × Int
  | 0, q => q
  | n + 1, q => F (itP F n q).1 (itP F n q).2
theorem itP_in (h : TurnOk a b c s u v w k) {x y : Int} (hx : In a x) (hy : In b y) : ∀ n, In a (itP (tuP a b u v k) n (x, y)).1 ∧ In b (itP (tuP a b u v k) n (x, y)).2
  | 0 => ⟨hx, hy⟩
  | n + 1 => tuP_in h (itP_in h hx hy n).1 (itP_in h hx hy n).2
theorem itP_add {F : Int → Int → Int × Int} (m n : Nat) (q : Int × Int) : itP F (m + n) q = itP F m (itP F n q) := by
  induction m with
  | zero => rw [Nat.zero_add]; rfl
  | succ m ih => rw [Nat.succ_add]; show F _ _ = F _ _; rw [ih]
theorem itP_per {F : Int → Int → Int × Int} {d : Nat} {q : Int × Int} (h : itP F d q = q) : ∀ m, itP F (d * m) q = q
  | 0 => rfl
  | m + 1 => by rw [Nat.mul_succ, itP_add, h, itP_per h m]
theorem itr_cod (h : TurnOk a b c s u v w k) {x y z : Int} (hx : In a x) (hy : In b y) (hz : In c z) : ∀ n : Nat, itr (tuF a b c u v w k) n (cod a b x y z) = cod a b (itP (tuP a b u v k) n (x, y)).1 (itP (tuP a b u v k) n (x, y)).2 (z * w ^ n % c)
  | 0 => by
    show cod a b x y z = cod a b x y _
    rw [Int.pow_zero, Int.mul_one, Int.emod_eq_of_lt hz.1 hz.2]
  | n + 1 => by
    show tuF a b c u v w k _ = _
    rw [itr_cod h hx hy hz n, tuF_at h (itP_in h hx hy n).1 (itP_in h hx hy n).2]
    show cod a b _ _ _ = cod a b _ _ _
    congr 1
    rw [Int.pow_succ, ← Int.mul_assoc, Int.mul_emod, Int.emod_emod, ← Int.mul_emod]
theorem pow_back {n u x : Int} {m : Nat} (hx : In n x) (h : u ^ m % n = 1 % n) : x * u ^ m % n = x := by
  rw [Int.mul_emod, h, ← Int.mul_emod, Int.mul_one, Int.emod_eq_of_lt hx.1 hx.2]
theorem itP_0 {x y : Int} (hx : In a x) (hy : In b y) : ∀ n : Nat, itP (tuP a b u v 0) n (x, y) = (x * u ^ n % a, y * v ^ n % b)
  | 0 => by
    show (x, y) = _
    rw [Int.pow_zero, Int.pow_zero, Int.mul_one, Int.mul_one, Int.emod_eq_of_lt hx.1 hx.2, Int.emod_eq_of_lt hy.1 hy.2]
  | n + 1 => by
    show tuP a b u v 0 _ _ = _
    rw [itP_0 hx hy n]
    unfold tuP
    simp only [show ¬ ((0 : Int) = 1) by decide, show ¬ ((0 : Int) = 2) by decide, show ¬ ((0 : Int) = 3) by decide, show ¬ ((0 : Int) = 4) by decide, ite_false]
    rw [Int.pow_succ, Int.pow_succ, ← Int.mul_assoc, ← Int.mul_assoc]
    congr 1 <;> rw [Int.mul_emod, Int.emod_emod, ← Int.mul_emod]
theorem itP_3 {x y : Int} (hx : In a x) (hy : In b y) : ∀ n : Nat, itP (tuP a b u v 3) n (x, y) = (x, (y + n * x) % b)
  | 0 => by
    show (x, y) = _
    rw [show ((0 : Nat) : Int) * x = 0 by simp, Int.add_zero, Int.emod_eq_of_lt hy.1 hy.2]
  | n + 1 => by
    show tuP a b u v 3 _ _ = _
    rw [itP_3 hx hy n]
    unfold tuP
    simp only [show ¬ ((3 : Int) = 1) by decide, show ¬ ((3 : Int) = 2) by decide, ite_false, ite_true]
    rw [Int.emod_add_emod, show ((n + 1 : Nat) : Int) = n + 1 by omega, Int.add_mul, Int.one_mul, Int.add_assoc]
theorem itP_4 {x y : Int} (hx : In a x) (hy : In b y) : ∀ n : Nat, itP (tuP a b u v 4) n (x, y) = ((x + n * (a / 2 * y)) % a, y)
  | 0 => by
    show (x, y) = _
    rw [show ((0 : Nat) : Int) * (a / 2 * y) = 0 by simp, Int.add_zero, Int.emod_eq_of_lt hx.1 hx.2]
  | n + 1 => by
    show tuP a b u v 4 _ _ = _
    rw [itP_4 hx hy n]
    unfold tuP
    simp only [show ¬ ((4 : Int) = 1) by decide, show ¬ ((4 : Int) = 2) by decide, show ¬ ((4 : Int) = 3) by decide, ite_false, ite_true]
    rw [Int.emod_add_emod, show ((n + 1 : Nat) : Int) = n + 1 by omega, Int.add_mul, Int.one_mul, Int.add_assoc]
theorem itP_back (h : TurnOk a b c s u v w k) {x y : Int} (hx : In a x) (hy : In b y) : itP (tuP a b u v k) s.toNat (x, y) = (x, y) := by
  have hs := h.hs
  have es : ((s.toNat : Nat) : Int) = s := by omega
  rcases h.kk with rfl | ⟨rfl, rfl, q⟩ | ⟨rfl, rfl, q⟩ | ⟨rfl, q1, q2⟩ | ⟨rfl, q1, q2, q3⟩
  · rw [itP_0 hx hy, pow_back hx h.hu, pow_back hy h.hv]
  · rw [show s.toNat = 2 * (s.toNat / 2) by omega]
    refine itP_per ?_ _
    simp [itP, tuP]
  · rw [show s.toNat = 3 * (s.toNat / 3) by omega]
    refine itP_per ?_ _
    have e1 : ((0 - x) % a - (x - y) % a) % a = (0 - (x + (x - y))) % a := by rw [Int.emod_sub_emod, Int.sub_emod_emod]; congr 1; omega
    simp [itP, tuP]
    have hxx := Int.emod_eq_of_lt hx.1 hx.2
    have hyy := Int.emod_eq_of_lt hy.1 hy.2
    constructor
    · refine Eq.trans (mdk ((-y - (x - y)) / a) ?_) hxx
      rw [Int.emod_def]
      omega
    · refine Eq.trans (mdk ((x - y) / a) ?_) hyy
      rw [Int.emod_def]
      omega
  · rw [itP_3 hx hy, es]
    obtain ⟨m, em⟩ := Int.dvd_of_emod_eq_zero q2
    rw [em, Int.mul_assoc, Int.add_mul_emod_self_left, Int.emod_eq_of_lt hy.1 hy.2]
  · rw [itP_4 hx hy, es]
    obtain ⟨m, em⟩ := Int.dvd_of_emod_eq_zero q3
    have e2 : s * (a / 2 * y) = a * (m * y) := by
      rw [em, Int.mul_comm 2 m, Int.mul_assoc, ← Int.mul_assoc 2, Int.mul_ediv_cancel' (Int.dvd_of_emod_eq_zero q1), ← Int.mul_assoc, Int.mul_comm m a, Int.mul_assoc]
    rw [e2, Int.add_mul_emod_self_left, Int.emod_eq_of_lt hx.1 hx.2]
theorem tu_T (h : TurnOk a b c s u v w k) {e : Int} (he : In (a * b * c) e) (hes : tuF a b c u v w k e = e) : Turn (a * b * c) s (suF a b c) (tuF a b c u v w k) e := by
  refine ⟨h.hs, tuF_in h, tuF_add h, tuF_z h, hes, he, fun p hp => ?_⟩
  obtain ⟨x, y, z, hx, hy, hz, rfl⟩ := cod_of h.ha h.hb hp
  rw [itr_cod h hx hy hz, itP_back h hx hy, pow_back hz h.hw]
end
end TB
namespace TB
open PySem L2
noncomputable def tab (N : Int) (f : Int → Int → Int) : Tbl := (irange N).map fun A => (irange N).map (f A)
theorem bnd {a b c : Int} (ha : 1 ≤ a) (hb : 1 ≤ b) (hc : 1 ≤ c) (h : a * b * c ≤ 23) : a ≤ 23 ∧ b ≤ 23 ∧ c ≤ 23 ∧ 1 ≤ a * b ∧ a * b ≤ 23 ∧ 1 ≤ a * b * c := by
  have h1 : a * 1 ≤ a * b := Int.mul_le_mul_of_nonneg_left hb (by omega)
  have h2 : 1 * b ≤ a * b := Int.mul_le_mul_of_nonneg_right ha (by omega)
  have h3 : a * b * 1 ≤ a * b * c := Int.mul_le_mul_of_nonneg_left hc (by omega)
  have h4 : 1 * c ≤ a * b * c := Int.mul_le_mul_of_nonneg_right (by omega) (by omega)
  omega
section
variable {cc : Cn} {Γ : List Sl} {k : Nat} {a b c d : Int}
theorem ev_s0 (e : Γ[k]? = some (.im [a, b, c, d])) : Ev cc Γ (tOp (gIx cc.Z.K) (tVar k) (tC (.int 0))) (.im a) := ev_ix (ev_var e) ev_int (by decide) (by simp)
theorem ev_s1 (e : Γ[k]? = some (.im [a, b, c, d])) : Ev cc Γ (tOp (gIx cc.Z.K) (tVar k) (tC (.int 1))) (.im b) := ev_ix (ev_var e) ev_int (by decide) (by simp)
theorem ev_s2 (e : Γ[k]? = some (.im [a, b, c, d])) : Ev cc Γ (tOp (gIx cc.Z.K) (tVar k) (tC (.int 2))) (.im c) := ev_ix (ev_var e) ev_int (by decide) (by simp)
theorem ev_s3 (e : Γ[k]? = some (.im [a, b, c, d])) : Ev cc Γ (tOp (gIx cc.Z.K) (tVar k) (tC (.int 3))) (.im d) := ev_ix (ev_var e) ev_int (by decide) (by simp)
theorem ev_u0 (e : Γ[k]? = some (.im [a, b, c])) : Ev cc Γ (tOp (gIx cc.Z.K) (tVar k) (tC (.int 0))) (.im a) := ev_ix (ev_var e) ev_int (by decide) (by simp)
theorem ev_u1 (e : Γ[k]? = some (.im [a, b, c])) : Ev cc Γ (tOp (gIx cc.Z.K) (tVar k) (tC (.int 1))) (.im b) := ev_ix (ev_var e) ev_int (by decide) (by simp)
theorem ev_u2 (e : Γ[k]? = some (.im [a, b, c])) : Ev cc Γ (tOp (gIx cc.Z.K) (tVar k) (tC (.int 2))) (.im c) := ev_ix (ev_var e) ev_int (by decide) (by simp)
theorem cmul23 {x y : Int} (h0 : 0 ≤ x) (h1 : x ≤ 1000) (h2 : 0 ≤ y) (h3 : y ≤ 1000) : CMulW x y := cmulS (by omega) (by omega) (by omega) (by omega)
end
noncomputable def KindOk (a b s k : Int) : Prop := k = 0 ∨ (k = 1 ∧ a = b ∧ s % 2 = 0) ∨ (k = 2 ∧ a = b ∧ s % 3 = 0) ∨ (k = 3 ∧ a % b = 0 ∧ s % b = 0) ∨ (k = 4 ∧ a % 2 = 0 ∧ b % 2 = 0 ∧ s % 2 = 0)
noncomputable def UnitOk (n s u : Int) : Prop := 0 ≤ u ∧ u < n ∧ u ^ s.toNat % n = 1 % n
end TB

/-! TbGt: plain law: powers, orders, parts of a group told by its table. -/
namespace TB
open PySem L2
theorem nodup_le {α : Type} [DecidableEq α] : ∀ {A B : List α}, A.Nodup → (∀ x ∈ A, x ∈ B) → A.length ≤ B.length
  | [], _, _, _ => Nat.zero_le _
  | a :: A, B, nd, h => by
    have nd' := List.nodup_cons.mp nd
    have hb := h a List.mem_cons_self
    have ih := nodup_le (A := A) (B := B.erase a) nd'.2 fun x hx => by
      have : x ≠ a := fun z => nd'.1 (z ▸ hx)
      exact (List.mem_erase_of_ne this).mpr (h x (List.mem_cons_of_mem _ hx))
    rw [List.length_erase_of_mem hb] at ih
    have : 0 < B.length := List.length_pos_of_mem hb
    simp only [List.length_cons]
    omega
theorem filter_two {α : Type} (p : α → Bool) : ∀ L : List α, L.length = (L.filter p).length + (L.filter fun x => !p x).length
  | [] => rfl
  | a :: L => by
    have ih := filter_two p L
    rw [List.filter_cons, List.filter_cons]
    cases p a <;> simp <;> omega
theorem nodup_irange' (n : Int) : (irange n).Nodup := by
  unfold irange List.Nodup
  rw [List.pairwise_map]
  exact (List.nodup_range).imp (fun h e => h (by omega))
theorem least {p : Nat → Prop} (h : ∃ k, p k) : ∃ k, p k ∧ ∀ j, j < k → ¬ p j := by
  obtain ⟨k, hk⟩ := h
  induction k using Nat.strongRecOn with
  | _ k ih =>
    by_cases q : ∃ j, j < k ∧ p j
    · obtain ⟨j, hj, hp⟩ := q
      exact ih j hj hp
    · exact ⟨k, hk, fun j hj hp => q ⟨j, hj, hp⟩⟩
section
variable {t : Tbl} {e : Int}
theorem GTbl.cl (h : GTbl t e) {a b : Int} (ha : InT t a) (hb : InT t b) : InT t (en t a b) := by
  have h1 : (gt t a).length = t.length := h.sz.2.2 _ (gt_mem ha.1 ha.2)
  exact h.ns _ (gt_mem ha.1 ha.2) _ (gt_mem hb.1 (by rw [h1]; exact hb.2))
theorem GTbl.row (h : GTbl t e) {a : Int} (ha : InT t a) : (gt t a).length = t.length := h.sz.2.2 _ (gt_mem ha.1 ha.2)
theorem GTbl.u1 (h : GTbl t e) {a : Int} (ha : InT t a) : en t e a = a := (h.un a ha.1 ha.2).1
theorem GTbl.u2 (h : GTbl t e) {a : Int} (ha : InT t a) : en t a e = a := (h.un a ha.1 ha.2).2
theorem GTbl.as (h : GTbl t e) {a b c : Int} (ha : InT t a) (hb : InT t b) (hc : InT t c) : en t (en t a b) c = en t a (en t b c) := h.asc a b c ha hb hc
theorem GTbl.canL (h : GTbl t e) {a b c : Int} (ha : InT t a) (hb : InT t b) (hc : InT t c) (q : en t a b = en t a c) : b = c := by
  obtain ⟨i, hi, e1, e2⟩ := h.bk a ha
  have := congrArg (en t i) q
  rw [← h.as hi ha hb, ← h.as hi ha hc, e2, h.u1 hb, h.u1 hc] at this
  exact this
/-! ### powers -/
noncomputable def pw (t : Tbl) (e a : Int) : Nat → Int
  | 0 => e
  | k + 1 => en t (pw t e a k) a
theorem pw_in (h : GTbl t e) {a : Int} (ha : InT t a) : ∀ k, InT t (pw t e a k)
  | 0 => h.he
  | k + 1 => h.cl (pw_in h ha k) ha
theorem pw_add (h : GTbl t e) {a : Int} (ha : InT t a) (i : Nat) : ∀ j, pw t e a (i + j) = en t (pw t e a i) (pw t e a j)
  | 0 => (h.u2 (pw_in h ha i)).symm
  | j + 1 => by
    show en t (pw t e a (i + j)) a = en t _ (en t (pw t e a j) a)
    rw [pw_add h ha i j, h.as (pw_in h ha i) (pw_in h ha j) ha]
structure IsOrd (t : Tbl) (e a : Int) (d : Nat) : Prop where
  pos : 1 ≤ d
  one : pw t e a d = e
  low : ∀ k, 0 < k → k < d → pw t e a k ≠ e
theorem ex_back (h : GTbl t e) {a : Int} (ha : InT t a) : ∃ k, 0 < k ∧ k ≤ t.length ∧ pw t e a k = e := by
  have hlen := h.sz.1
  have : ¬ ((List.range (t.length + 1)).map (pw t e a)).Nodup := fun nd => by
    have := nodup_le (B := irange t.length) nd fun x hx => by
      obtain ⟨i, _, rfl⟩ := List.mem_map.mp hx
      exact mem_irange.mpr (pw_in h ha i)
    rw [List.length_map, List.length_range, irange_len] at this
    omega
  obtain ⟨i, j, hij, hj, eq⟩ : ∃ i j, i < j ∧ j < t.length + 1 ∧ pw t e a i = pw t e a j := by
    refine Classical.byContradiction fun hc => this ?_
    rw [List.Nodup, List.pairwise_map, List.pairwise_iff_getElem]
    intro i j hi hj hlt z
    simp only [List.getElem_range] at z
    simp only [List.length_range] at hi hj
    exact hc ⟨i, j, hlt, hj, z⟩
  refine ⟨j - i, by omega, by omega, ?_⟩
  have q := pw_add h ha i (j - i)
  rw [show i + (j - i) = j by omega, ← eq] at q
  have q2 : en t (pw t e a i) e = en t (pw t e a i) (pw t e a (j - i)) := by rw [h.u2 (pw_in h ha i)]; exact q
  exact (h.canL (pw_in h ha i) h.he (pw_in h ha _) q2).symm
theorem ex_ord (h : GTbl t e) {a : Int} (ha : InT t a) : ∃ d, IsOrd t e a d ∧ d ≤ t.length := by
  obtain ⟨k, k0, k1, k2⟩ := ex_back h ha
  obtain ⟨d, ⟨d0, d1⟩, d2⟩ := least (p := fun k => 0 < k ∧ pw t e a k = e) ⟨k, k0, k2⟩
  refine ⟨d, ⟨d0, d1, fun j j0 j1 z => d2 j j1 ⟨j0, z⟩⟩, ?_⟩
  by_cases q : d ≤ k
  · omega
  · exact absurd ⟨k0, k2⟩ (d2 k (by omega))
theorem pw_mul (h : GTbl t e) {a : Int} (ha : InT t a) {d : Nat} (hd : pw t e a d = e) : ∀ m, pw t e a (d * m) = e
  | 0 => rfl
  | m + 1 => by rw [Nat.mul_succ, pw_add h ha, pw_mul h ha hd m, hd, h.u1 h.he]
theorem pw_mod (h : GTbl t e) {a : Int} (ha : InT t a) {d : Nat} (hd : pw t e a d = e) (k : Nat) : pw t e a (k % d) = pw t e a k := by
  have q := pw_add h ha (d * (k / d)) (k % d)
  rw [Nat.div_add_mod, pw_mul h ha hd, h.u1 (pw_in h ha _)] at q
  exact q.symm
/-! ### parts -/
structure Part (t : Tbl) (e : Int) (H : List Int) : Prop where
  nd : H.Nodup
  inn : ∀ x ∈ H, InT t x
  one : e ∈ H
  mul : ∀ x ∈ H, ∀ y ∈ H, en t x y ∈ H
  bk : ∀ x ∈ H, ∃ y ∈ H, en t x y = e ∧ en t y x = e
theorem lag_aux (h : GTbl t e) {H : List Int} (P : Part t e H) : ∀ (m : Nat) (L : List Int), L.length ≤ m → L.Nodup → (∀ x ∈ L, InT t x) → (∀ x ∈ L, ∀ y ∈ H, en t x y ∈ L) → H.length ∣ L.length
  | 0, L, hm, _, _, _ => by
    rw [show L.length = 0 by omega]
    exact Nat.dvd_zero _
  | m + 1, [], _, _, _, _ => Nat.dvd_zero _
  | m + 1, x :: L0, hm, nd, hin, cl => by
    obtain ⟨L, eL⟩ : ∃ L, L = x :: L0 := ⟨_, rfl⟩
    have hx : x ∈ L := by rw [eL]; exact List.mem_cons_self
    rw [← eL] at hm nd hin cl ⊢
    have xi := hin x hx
    have ndC : (H.map (en t x)).Nodup := by
      rw [List.Nodup, List.pairwise_map]
      exact (P.nd).imp_of_mem fun {y z} hy hz ne q => ne (h.canL xi (P.inn y hy) (P.inn z hz) q)
    have l1 : (L.filter fun y => decide (y ∈ H.map (en t x))).length = H.length := by
      apply Nat.le_antisymm
      · rw [← List.length_map (f := en t x) (as := H)]
        exact nodup_le (nd.filter _) fun y hy => by simpa using (List.mem_filter.mp hy).2
      · rw [← List.length_map (f := en t x) (as := H)]
        exact nodup_le ndC fun y hy => by
          rw [List.mem_filter]
          refine ⟨?_, by simpa using hy⟩
          obtain ⟨z, hz, rfl⟩ := List.mem_map.mp hy
          exact cl x hx z hz
    have l2 := filter_two (fun y => decide (y ∈ H.map (en t x))) L
    have hp : 0 < H.length := List.length_pos_of_mem P.one
    have ih := lag_aux h P m (L.filter fun y => !decide (y ∈ H.map (en t x))) (by omega) (nd.filter _) (fun y hy => hin y (List.mem_filter.mp hy).1) fun y hy z hz => by
      obtain ⟨y1, y2⟩ := List.mem_filter.mp hy
      rw [List.mem_filter]
      refine ⟨cl y y1 z hz, ?_⟩
      have y3 : y ∉ H.map (en t x) := by simpa using y2
      have : en t y z ∉ H.map (en t x) := fun q => by
        obtain ⟨w, hw, ew⟩ := List.mem_map.mp q
        obtain ⟨z', hz', e1, e2⟩ := P.bk z hz
        refine y3 (List.mem_map.mpr ⟨en t w z', P.mul w hw z' hz', ?_⟩)
        rw [← h.as xi (P.inn w hw) (P.inn z' hz'), ew, h.as (hin y y1) (P.inn z hz) (P.inn z' hz'), e1, h.u2 (hin y y1)]
      simpa using this
    rw [l2, l1]
    exact Nat.dvd_add (Nat.dvd_refl _) ih
theorem lag (h : GTbl t e) {H : List Int} (P : Part t e H) : H.length ∣ t.length := by
  have := lag_aux h P (irange t.length).length (irange t.length) (Nat.le_refl _) (nodup_irange' _) (fun x hx => mem_irange.mp hx) fun x hx y hy => mem_irange.mpr (h.cl (mem_irange.mp hx) (P.inn y hy))
  rw [irange_len] at this
  simpa using this
theorem ord_part (h : GTbl t e) {a : Int} (ha : InT t a) {d : Nat} (hd : IsOrd t e a d) : Part t e ((List.range d).map (pw t e a)) := by
  have mem : ∀ k, pw t e a k ∈ (List.range d).map (pw t e a) := fun k => by
    rw [← pw_mod h ha hd.one k]
    exact List.mem_map.mpr ⟨k % d, List.mem_range.mpr (Nat.mod_lt _ hd.pos), rfl⟩
  refine ⟨?_, fun x hx => ?_, mem 0, fun x hx y hy => ?_, fun x hx => ?_⟩
  · rw [List.Nodup, List.pairwise_map, List.pairwise_iff_getElem]
    intro i j hi hj hlt z
    simp only [List.getElem_range, List.length_range] at z hi hj
    have q := pw_add h ha i (j - i)
    rw [show i + (j - i) = j by omega, ← z] at q
    have q2 : en t (pw t e a i) e = en t (pw t e a i) (pw t e a (j - i)) := by rw [h.u2 (pw_in h ha i)]; exact q
    exact hd.low (j - i) (by omega) (by omega) (h.canL (pw_in h ha i) h.he (pw_in h ha _) q2).symm
  · obtain ⟨k, _, rfl⟩ := List.mem_map.mp hx
    exact pw_in h ha k
  · obtain ⟨i, _, rfl⟩ := List.mem_map.mp hx
    obtain ⟨j, _, rfl⟩ := List.mem_map.mp hy
    rw [← pw_add h ha]
    exact mem _
  · obtain ⟨i, hi, rfl⟩ := List.mem_map.mp hx
    have hi' := List.mem_range.mp hi
    refine ⟨_, mem (d - i), ?_, ?_⟩
    · rw [← pw_add h ha, show i + (d - i) = d by omega, hd.one]
    · rw [← pw_add h ha, show d - i + i = d by omega, hd.one]
theorem ord_dvd (h : GTbl t e) {a : Int} (ha : InT t a) {d : Nat} (hd : IsOrd t e a d) : d ∣ t.length := by
  have := lag h (ord_part h ha hd)
  rw [List.length_map, List.length_range] at this
  exact this
theorem pw_len (h : GTbl t e) {a : Int} (ha : InT t a) : pw t e a t.length = e := by
  obtain ⟨d, hd, _⟩ := ex_ord h ha
  obtain ⟨m, em⟩ := ord_dvd h ha hd
  rw [em, pw_mul h ha hd.one]
end
end TB
namespace TB
open PySem L2
/-- one thing turned by another -/
noncomputable def cj (t : Tbl) (e x a : Int) : Int := en t (en t x a) (bkf t e x)
theorem bk_first {t : Tbl} {e a : Int} (hG : GTbl t e) (ha : InT t a) : FirstBack t e a (bkf t e a) := bkf_first (hG.bk a ha)
theorem bk_in {t : Tbl} {e a : Int} (hG : GTbl t e) (ha : InT t a) : InT t (bkf t e a) := ⟨(bk_first hG ha).b0, (bk_first hG ha).b1⟩
end TB

/-! TbRd: the table of a round; what is due of a table. -/
namespace TB
open PySem L2
section
variable {c : Cn} {Γ : List Sl} {ta te : TE} {β : Type} {_ : Rp β}
/-- [own list for i in range(n)] -/
theorem ev_mapR2 {n : Int} {j : Nat} {vs : List Nat} (f : Int → List β) (h : Ev c Γ ta (.im n)) (hn : n < 1000000) (hn0 : -1000000 < n) (hj : j ∈ vs) (hu : UnAt Γ vs) (he : ∀ i : Int, 0 ≤ i → i < n → Ev c.no (Γ.set j (.im i)) te (.ol (f i))) : Ev c Γ (tLc (iRng1 (tCons ta tNil)) (gName j) tYes te vs) (.o2 ((irange n).map f)) := by
  refine ev_is (ev_lc2 (fun _ => true) (fun i => f (i : Int)) (ei_rng1 h (by omega) (by omega)) (by omega) (fun k hk => by simp at hk; rw [hk]; exact hj) hu (fun i hi => fun B R0 R H ρ Δ σ S Q q _ => q R H S) (fun i hi _ => he _ (by omega) (by omega))) ?_
  rw [kept_all]
  unfold irange
  rw [List.map_map]
  rfl
end
/-! ### what is due of a table that may be spoilt -/
noncomputable abbrev xS (x : Str) (h : PyData.strOk x = true := by decide +kernel) : IX := .s x h
theorem stg_no {t : Tbl} {a b : Nat} (h : FirstStg t a b) : ¬ NoStg t := fun z => by
  have := z _ (List.getElem_mem h.ha) _ (List.getElem_mem h.hb)
  have := h.bad
  unfold Stg at this
  omega
end TB
namespace TB
open PySem L2
/-! ### the names of what was caught -/
noncomputable def clN : List (CN × IX) := [(.BadSize, xS "size"), (.Stranger, xS "stranger"), (.NoUnit, xS "unit"), (.NoBack, xS "back"), (.NotTogether, xS "together"), (.NoPart, xS "part"), (.NotSteady, xS "steady"), (.BadWheel, xS "wheel"), (.NoMove, xS "move"), (.BadMarks, xS "marks"), (.NoWay, xS "way"), (.NotKept, xS "kept"), (.OtherGroup, xS "group"), (.OtherWheel, xS "otherwheel"), (.TooGreat, xS "great")]
noncomputable def calF : Option Rf → List IX
  | none => []
  | some r => (clN.filter fun p => subB r.name p.1).map (·.2)
section
variable {c : Cn} {Γ : List Sl} {ta tb te : TE} {tt : TT} {α β γ : Type} {_ : Rp α} {_ : Rp β} {_ : Rp γ}
/-- [x for x, y in zip(xs, ys) if y] -/
theorem ev_zipF {xs : List α} {ys : List Bool} {i j : Nat} {vs : List Nat} (h : Ev c Γ ta (.im xs)) (h2 : Ev c Γ tb (.im ys)) (hn : xs.length < 1000000) (hl : xs.length = ys.length) (hj : i ∈ vs ∧ j ∈ vs) (hu : UnAt Γ vs) (ht : ∀ (x : α) (y : Bool), EvT c.no ((Γ.set i (.im x)).set j (.im y)) tt y) (he : ∀ (x : α) (y : Bool), Ev c.no ((Γ.set i (.im x)).set j (.im y)) te (.im x)) :
    Ev c Γ (tLc (iZip c.Z.K (tCons ta (tCons tb tNil))) (gTup c.Z.K 2 (gCons (gName i) (gCons (gName j) gNil))) tt te vs) (.ol (((xs.zip ys).filter (·.2)).map (·.1))) := by
  refine ev_is (ev_lc (fun i => ys.getD i (Rp.df : Bool)) (fun i => xs.getD i (Rp.df : α)) (ei_zip h h2) (by omega) (fun k hk => by simp at hk; rcases hk with rfl | rfl; exact hj.1; exact hj.2) hu (fun i hi => ht _ _) (fun i hi _ => he _ _)) (congrArg Sl.ol ?_)
  unfold kept
  rw [← hl, Nat.min_self]
  clear h h2 ht he hn
  induction xs generalizing ys with
  | nil => rfl
  | cons x xs ih =>
    cases ys with
    | nil => simp at hl
    | cons y ys =>
      rw [List.length_cons, List.range_succ_eq_map, List.filter_cons, List.zip_cons_cons, List.filter_cons]
      have e1 : ∀ i, (y :: ys).getD (i + 1) (Rp.df : Bool) = ys.getD i Rp.df := fun i => rfl
      have e2 : List.map (fun i => (x :: xs).getD i Rp.df) (List.filter (fun i => (y :: ys).getD i Rp.df) (List.map Nat.succ (List.range xs.length))) = ((xs.zip ys).filter (·.2)).map (·.1) := by
        rw [← ih (by simpa using hl), List.filter_map, List.map_map]
        rfl
      show List.map _ (if y = true then _ else _) = List.map _ (if y = true then _ else _)
      cases y with
      | true => rw [if_pos rfl, if_pos rfl, List.map_cons, e2]; rfl
      | false => rw [if_neg (by simp), if_neg (by simp), e2]
end
end TB

/-! TbLcx: an exception that leaves a list comprehension. -/
namespace TB
open PySem PySem.Spec PyProof.Rows L2
/-- a frame is noted by its frame alone -/
theorem note_env {e : Value} {env env' : Env} (h : env.frame = env'.frame) : noteFrame e env = noteFrame e env' := by
  unfold noteFrame PySem.frameOf
  rw [h]
theorem ff_but {h h' B B' : Heap} : ∀ {l : List Env}, h.FunFrames B l → (∀ L ∈ frs l, h'.get? L = h.get? L ∧ B'.get? L = none) → h'.FunFrames B' l
  | [], _, _ => trivial
  | env :: l, ⟨hk, ⟨L, o, hf, hn, ho, hd⟩, hr⟩, k => by
    obtain ⟨k1, k2⟩ := k L (List.mem_filterMap.mpr ⟨env, List.mem_cons_self, hf⟩)
    refine ⟨hk, ⟨L, o, hf, k2, k1.trans ho, hd⟩, ff_but hr fun b hb => ?_⟩
    obtain ⟨e, he, q⟩ := List.mem_filterMap.mp hb
    exact k b (List.mem_filterMap.mpr ⟨e, List.mem_cons_of_mem _ he, q⟩)
/-- what the block's end wishes, exceptions with the block's own frame -/
noncomputable def cpX (M : Model) (A : Around) (E : Value → Shared → Prop) (use : Option (Value → Sem Unit)) (Q : Value → Shared → Prop) (acc : Value) (scope : Scope) (env cenv : Env) (r : Result) (s' : Shared) : Prop :=
  match r with
  | .ok f => compPost M A E use Q acc cenv.locals (.ok f) s'
  | .error x => ∃ m, s'.heap.Ns cenv.locals m ∧ ∀ h2, Heap.SameBut cenv.locals s'.heap h2 → wpAny M A (passOn "comprehension.variables-let-go" x { cenv with scope := relabel scope env } : Sem Value) (fun _ _ => False) E { s' with heap := h2 }
theorem wp_compX {M : Model} {A : Around} {E : Value → Shared → Prop} {s : Shared} {env : Env} {e : Expr} {sc : Scope} {pos : Pos} {mk fst : Sem Value} {g : Comprehension} {gs : List Comprehension} {cl : List (Str × Addr)} {use : Option (Value → Sem Unit)} {Q : Value → Shared → Prop}
    (hc : clausesOf e = g :: gs) (hfo : ∀ x, foldedSetIterable g.iter env x = pure x) (hcl : closureFor sc env = pure cl) (hk : sc.kind = .function) (hn : ∀ x ∈ sc.names, x.2 = .local → sc.names.lookup x.1 = some .local)
    (h : wpAny M A fst (fun x s1 => wpAny M A (pyIter x) (fun it s2 => wpAny M A mk (fun acc s3 => wpAny M A (newFunctionEnv sc env.globals cl [] env.qual none .none (some env)) (fun ce s4 =>
        codeAny M A (.compStart e 0 it acc { ce with scope := relabel sc env }) (cpX M A E use Q acc sc env ce) s4) E s3) E s2) E s1) E s) :
    wpAny M A (comprehension e sc env pos mk false fst use) Q E s := by
  unfold comprehension
  rw [hcl, hc]
  refine wpAny_bind (wpAny_mono h (fun x s1 k1 => wpAny_bind (wpAny_standAt (wpAny_bind (wpAny_of_eq (hfo x) (wpAny_bind (wpAny_holding (wpAny_mono k1 (fun it s2 k2 =>
    wpAny_standIf (wpAny_bind (wpAny_mono k2 (fun acc s3 k3 => wpAny_bind (wpAny_pure (wpAny_bind (wpAny_mono k3 (fun ce s4 k4 => ?go) fun _ _ z => z)))) fun _ _ z => z))) fun _ _ z => z))))))) fun _ _ z => z)
  case go =>
    dsimp only
    have v1 : ∀ x ∈ (sc.names.filter fun x => (x.2 == .local || x.2 == .cell) && x.1 != (".0" : Str)).reverse, x.2 = .local → Env.kindOf { ce with scope := relabel sc env } x.1 = some .local :=
      fun x hx hl => lookup_relabel_local (hn x (List.mem_filter.mp (List.mem_reverse.mp hx)).1 hl)
    have v2 : ∀ x ∈ (sc.names.filter fun x => (x.2 == .local || x.2 == .cell) && x.1 != (".0" : Str)).reverse.drop 1 ++ (sc.names.filter fun x => (x.2 == .local || x.2 == .cell) && x.1 != (".0" : Str)).reverse.take 1, x.2 = .local → Env.kindOf { ce with scope := relabel sc env } x.1 = some .local := fun x hx hl => by
      rcases List.mem_append.mp hx with q | q
      · exact v1 x (List.mem_of_mem_drop q) hl
      · exact v1 x (List.mem_of_mem_take q) hl
    refine wpAny_holding (wpAny_bind (wpAny_attempt (wpAny_holding (wpAny_run (codeAny_mono k4 fun r s' kr => ?_)))))
    cases r with
    | ok f =>
      cases use with
      | none =>
        obtain ⟨m, km, kq⟩ := kr
        exact wpAny_bind (wpAny_holding (wpAny_comp_letGo (cenv := { ce with scope := relabel sc env }) hk _ s' m v1 km fun h' m' _ sb => wpAny_pure (kq h' sb)))
      | some u =>
        refine wpAny_bind (wpAny_rule (wpAny_bind (wpAny_holding (wpAny_mono kr (fun _ s5 k5 => ?_) fun _ _ z => z))))
        obtain ⟨m, km, kq⟩ := k5
        exact wpAny_bind (wpAny_comp_letGo (cenv := { ce with scope := relabel sc env }) hk _ s5 m v2 km fun h' m' _ sb => wpAny_pure (kq h' sb))
    | error x =>
      obtain ⟨m, km, kq⟩ := kr
      exact wpAny_bind (wpAny_holding (wpAny_comp_letGo (cenv := { ce with scope := relabel sc env }) hk _ s' m v1 km fun h' m' _ sb => wpAny_mono (kq h' sb) (fun _ _ f => f.elim) fun _ _ y => y))
/-- the context of a block whose calls may let exceptions out -/
noncomputable abbrev blkX (X : Cx) (E : XK) (s : Shared) (H : Hp) (scope : Scope) (cenv : Env) (fp : List Addr) : Cx :=
  { X.blk s H scope cenv fp with xe := fun u s' => ∃ (pins : List (Addr × Obj)) (σ1 : L2.St) (H1 : Hp) (s1 : Shared), Inv (X.blk s H scope cenv fp) pins σ1 H1 s1 ∧ L2.CX X.prog X.w X.stack H1 s1 E u s' }
theorem inv_xe {X : Cx} {xe : Value → Shared → Prop} {pins : List (Addr × Obj)} {σ : L2.St} {H : Hp} {s : Shared} (I : Inv X pins σ H s) : Inv { X with xe := xe } pins σ H s :=
  ⟨⟨I.ok.mod, I.ok.kind, I.ok.glob, I.ok.blt, I.ok.above, I.ok.inj, I.ok.has, I.ok.cab, I.ok.hd, I.ok.frames, I.ok.stk, I.ok.exf, I.ok.bs, I.ok.bsz, I.ok.noex, I.ok.exfs, I.ok.funs, I.ok.frf⟩, I.os, I.bare, I.base, I.loc, I.cell, I.free, I.freeC, I.pin, I.hok, I.len⟩
theorem inv_ex {X : Cx} {xe : Value → Shared → Prop} {pins : List (Addr × Obj)} {σ : L2.St} {H : Hp} {s : Shared} (I : Inv { X with xe := xe } pins σ H s) : Inv X pins σ H s :=
  ⟨⟨I.ok.mod, I.ok.kind, I.ok.glob, I.ok.blt, I.ok.above, I.ok.inj, I.ok.has, I.ok.cab, I.ok.hd, I.ok.frames, I.ok.stk, I.ok.exf, I.ok.bs, I.ok.bsz, I.ok.noex, I.ok.exfs, I.ok.funs, I.ok.frf⟩, I.os, I.bare, I.base, I.loc, I.cell, I.free, I.freeC, I.pin, I.hok, I.len⟩
theorem passB {X : Cx} {E : XK} {s : Shared} {H : Hp} {scope : Scope} {cenv : Env} {fp : List Addr} : Passes (L2.CX X.prog X.w) (blkX X E s H scope cenv fp) E := fun pins σ1 H1 s1 _ _ I c => ⟨pins, σ1, H1, s1, inv_ex I, c⟩
section
variable {X : Cx} {W : WX}
/-- out of the block's call: noted in the def's frame, the block's names let go, on its way -/
theorem block_err {pins : List (Addr × Obj)} {σ : L2.St} {H3 : Hp} {s3 : Shared} {scope : Scope} {ce : Env} {fp : List Addr} {c2 : Env}
    (hs : X.stack = X.env :: X.outer) (hf : X.env.frame = some X.env.locals) (tk : Takes X W) (I3 : Inv X pins σ H3 s3) (f3 : ∀ b ∈ fp, FpOk X pins H3 b) (cL : s3.heap.objs.size ≤ ce.locals) (cF : ce.frame = X.env.frame)
    {u : Value} {s' : Shared} (x : (blkX X (fun cls d H => W cls d σ H) s3 H3 scope ce fp).xe u s') (c2F : c2.frame = X.env.frame) :
    notedBy (model X.prog X.w) X.A ce (fun e s'' => ∃ m, s''.heap.Ns ce.locals m ∧ ∀ h2, Heap.SameBut ce.locals s''.heap h2 → wpAny (model X.prog X.w) X.A (passOn "comprehension.variables-let-go" e c2 : Sem Value) (fun _ _ => False) X.xe { s'' with heap := h2 }) u s' := by
  obtain ⟨pins1, σ1, H1, s1, I1, a, B, H', cls, d, rfl, fl, hok, ub, na, os, ag, hE⟩ := x
  have hfr : X.A.frames = some (X.env :: X.outer) := by rw [I3.ok.frames, hs]
  -- the block's names lie at C
  obtain ⟨m, hn, _⟩ := I1.loc
  have hn : s1.heap.Ns ce.locals m := hn
  obtain ⟨oC, esC, epC, hoC, hdC, rC⟩ := id hn
  have nf : ce.locals ∉ frs X.stack := fun hm => by
    obtain ⟨_, o, ho, _⟩ := I3.stack.mem hm
    exact absurd (Nat.lt_of_lt_of_le (Heap.lt_size ho) cL) (Nat.lt_irrefl _)
  have H1C : H1 ce.locals = none := I1.free
  have BC : B.get? ce.locals = some oC := ub.keep _ _ hoC H1C nf
  have H'C : H' ce.locals = none := ub.free _ _ hoC H1C
  show wpAny _ X.A (noteFrame (.ref a) ce) _ _ _
  rw [note_env cF]
  refine HandSPX.looks_onZ Zc.steady hfr hf (hs ▸ fl) fun h1 held up1 => ?_
  have C1 : h1.get? ce.locals = some oC := held.1 _ _ BC
  refine ⟨m, ⟨oC, esC, epC, C1, hdC, rC⟩, fun h2 sb => ?_⟩
  -- the ground without the block's names
  obtain ⟨B', b1, b2⟩ := restrict B fun b => decide (b ≠ ce.locals)
  have bB : ∀ b o, B'.get? b = some o → b ≠ ce.locals ∧ B.get? b = some o := fun b o e => by
    by_cases c : b = ce.locals
    · rw [b2 b (by simp [c])] at e; cases e
    · exact ⟨c, by rw [← b1 b (by simpa using c)]; exact e⟩
  have oB : ∀ b o, b ≠ ce.locals → B.get? b = some o → B'.get? b = some o := fun b o c e => by rw [b1 b (by simpa using c)]; exact e
  have held2 : HandSPX.HeldZ B' (X.env :: X.outer) a (Zc cls d) X.env.locals h2 := by
    obtain ⟨k1, k2, k3, oe, vs, T, oT, ts, he, hz, hd, h11, hnT, hTe, hT, hdT, h33⟩ := held
    have ne : ∀ b o, h1.get? b = some o → ∀ ws, o.data = .fields ws → b ≠ ce.locals := fun b o e ws q z => by
      rw [z, C1] at e
      cases e
      rw [hdC] at q
      cases q
    have sv : ∀ b, b ≠ ce.locals → h2.get? b = h1.get? b := fun b c => sb.2 b c
    have none' : ∀ b, B.get? b = none → B'.get? b = none := fun b e => by
      cases q : B'.get? b with
      | none => rfl
      | some o => have := (bB b o q).2; rw [e] at this; cases this
    refine ⟨fun b o e => ?_, none' _ k2, ff_but k3 fun L hL => ?_, oe, vs, T, oT, ts, ?_, hz, hd, h11, none' _ hnT, hTe, ?_, hdT, h33⟩
    · obtain ⟨c, e'⟩ := bB b o e
      rw [sv b c]
      exact k1 b o e'
    · have hL' : L ∈ frs X.stack := by rw [hs]; exact hL
      exact ⟨sv L fun z => nf (z ▸ hL'), none' _ (k3.mem hL).1⟩
    · rw [sv a (ne _ _ he _ hd)]; exact he
    · rw [sv T (ne _ _ hT _ hdT)]; exact hT
  obtain ⟨oe, vs, T, oT, ts, he, hz, hd, h11, _⟩ := id held2.2.2.2
  unfold PySem.passOn
  refine wpAny_bind (wpAny_field he hd h11 ?_)
  rw [if_neg (show ¬ ((Value.ref T == Value.none) = true) by simp)]
  have eF : c2.frame = some X.env.locals := by rw [c2F, hf]
  have fin : wpAny (model X.prog X.w) X.A (setFlight (.ref a) c2.frame) (fun _ s4 => wpAny (model X.prog X.w) X.A (throw (.ref a) : Sem Value) (fun _ _ => False) X.xe s4) X.xe { s' with heap := h2 } := by
    rw [eF]
    refine HandSPX.setFlight_onZ held2 fun h4 held4 up4 => wpAny_throw (tk _ _ ?_)
    obtain ⟨G, g1, g2⟩ := restrict h4 fun b => (B'.get? b).isSome || decide (b ∈ frs X.stack)
    have gB : ∀ b o, B'.get? b = some o → G.get? b = some o := fun b o e => by
      rw [g1 b (by simp [e])]
      exact held4.1 b o e
    have gF : ∀ b, b ∈ frs X.stack → G.get? b = h4.get? b := fun b hb => g1 b (by simp [hb])
    have og : ∀ b o, G.get? b = some o → h4.get? b = some o ∧ ((B'.get? b).isSome = true ∨ b ∈ frs X.stack) := fun b o e => by
      cases q : ((B'.get? b).isSome || decide (b ∈ frs X.stack)) with
      | false => rw [g2 b q] at e; cases e
      | true =>
        rw [g1 b q] at e
        exact ⟨e, by simpa [Bool.or_eq_true] using q⟩
    have old : ∀ b o, s3.heap.get? b = some o → b ≠ ce.locals := fun b o e z => by
      have := Heap.lt_size e
      rw [z] at this
      exact absurd (Nat.lt_of_lt_of_le this cL) (Nat.lt_irrefl _)
    have way : ∀ b o, s'.heap.get? b = some o → (∀ vs, o.data ≠ .fields vs) → b ≠ ce.locals → ∃ sl, h4.get? b = some { o with slots := sl } := fun b o e hnf c => by
      obtain ⟨sl, e1⟩ := up1 b o e hnf
      have e2 : h2.get? b = some { o with slots := sl } := (sb.2 b c).trans e1
      obtain ⟨sl2, e3⟩ := up4 b _ e2 hnf
      exact ⟨sl2, e3⟩
    have slot' : ∀ b o, s1.heap.get? b = some o → b ∈ frs X.stack → ∃ sl, h4.get? b = some { o with slots := sl } := fun b o e hb => by
      obtain ⟨sl, e1⟩ := ub.slot b o e hb
      obtain ⟨_, o', e2, hnf⟩ := (hs ▸ fl.2.2.1 : s'.heap.FunFrames B (X.env :: X.outer)).mem (by rw [← hs]; exact hb)
      rw [e1] at e2
      cases e2
      obtain ⟨sl2, e3⟩ := way b _ e1 hnf fun z => nf (z ▸ hb)
      exact ⟨sl2, e3⟩
    refine ⟨a, B', { s1 with heap := G, gens := s'.gens, drawn := s'.drawn, toks := s'.toks }, pins, σ, H', cls, d, rfl, ?_, fun b o e hb => ?_, Heap.UpToSlots.of_keeps fun b o e => (og b o e).1, .inr (.inr (by rw [hs]; exact held4)), na, os, ag, hE⟩
    · refine I3.call' (ch := fp) I1.os ⟨fun b o e n hb hp => ?_, fun b o e n hb hp => ?_, fun b o e n hp => ?_, fun b o e hp => ?_, fun b xs e => ub.tups _ _ (I1.base.tups b xs e), fun b o xs e => ub.frzs _ _ _ (I1.base.frzs b o xs e), fun b ps e => ?_⟩ (fun b o q => ?_) ag
        fun b hb => ⟨(f3 b hb).2.2.2.1, (f3 b hb).2.1, (f3 b hb).2.2.2.2.1, (f3 b hb).2.2.2.2.2⟩
      · exact gB b o (oB b o (old b o e) (ub.keep b o (I1.base.keep b o e n hb hp) (I1.base.free b o e n hp) hb))
      · obtain ⟨sl, e1⟩ := I1.base.slot b o e n hb hp
        obtain ⟨sl2, e2⟩ := slot' b _ e1 hb
        exact ⟨sl2, by rw [gF b hb]; exact e2⟩
      · obtain ⟨o1, e1⟩ := I1.base.there b o e hp
        exact ub.free b o1 e1 (I1.base.free b o e n hp)
      · obtain ⟨o1, e1⟩ := I1.base.there b o e hp
        by_cases hb : b ∈ frs X.stack
        · obtain ⟨sl, e2⟩ := slot' b o1 e1 hb
          exact ⟨_, by rw [gF b hb]; exact e2⟩
        · obtain ⟨o', e2⟩ := ub.there b o1 e1 hb
          exact ⟨o', gB b o' (oB b o' (old b o e) e2)⟩
      · obtain ⟨more, e1⟩ := I1.base.tbls b ps e
        obtain ⟨more2, e2⟩ := ub.tbls b _ e1
        exact ⟨more ++ more2, by rw [e2, Array.append_assoc]⟩
      · exact (hok b o q).stay (fun c v hc r => gB c v (oB c v (fun z => by
          rcases hc with hc | hc
          · rw [← hc, z, H'C] at q; cases q
          · rw [z, H'C] at hc; cases hc) r)) (fun _ r => r) fun _ _ r => r
    · obtain ⟨e', k⟩ := og b o e
      rcases k with k | k
      · obtain ⟨o', q⟩ := Option.isSome_iff_exists.mp k
        have z := held4.1 b o' q
        rw [e'] at z
        cases z
        exact q
      · exact absurd k hb
  first
    | exact wpAny_bind (wpAny_pure (wpAny_bind fin))
    | exact wpAny_bind fin
end
end TB

/-! TbLcx2: name = [..], on one line, a call within may let an exception out. -/
namespace TB
open PySem PySem.Spec PyProof.Rows L2
/-- a comprehension whose things are told by the frame's slots at its start -/
noncomputable def tLcX (wi : TI) (g : TG) (te : L2.St → TE) (vs : List Nat) : TE := fun σ H Q => tLc wi g tYes (te σ) vs σ H Q
/-- a call that lets out what the def may let out -/
noncomputable abbrev tCallW (sp : Sp) (W : WX) (t : TA) : L2.St → TE := fun σ => tCall sp [] (fun cls d H => W cls d σ H) t
section
variable {X : Cx} {W : WX}
theorem lc_X {pins : List (Addr × Obj)} {s : Shared} {σ : L2.St} {H : Hp} {Q : VK} {elt tg iter : Expr} {sc : Scope} {own : List (Str × Nat)} {pos pos' : Pos} {wi : TI} {g : TG} {te : L2.St → TE} {use : Option (Value → Sem Unit)} {Qf : Value → Shared → Prop}
    (hs : X.stack = X.env :: X.outer) (hf : X.env.frame = some X.env.locals) (tk : Takes X W) (hc : X.calm = true) (hN : X.N.Nodup) (I : Inv X pins σ H s) (hi : PI X tg iter wi) (ok : BlkOk X.N X.env.scope sc own)
    (hg : ∀ (s : Shared) (H : Hp) (C : Addr) (cl : List (Str × Addr)) (fp : List Addr), PG (X.blk s H sc (compEnvC sc cl C X.env) fp) tg g)
    (he : ∀ (σ : L2.St) (s : Shared) (H : Hp) (C : Addr) (cl : List (Str × Addr)) (fp : List Addr), PE (blkX X (fun cls d H => W cls d σ H) s H sc (compEnvC sc cl C X.env) fp) elt (te σ))
    (hfo : ∀ x, foldedSetIterable iter X.env x = pure x) (h : tLcX wi g te (own.map (·.2)) σ H Q)
    (hE : ∀ D C s' m H', Inv X pins σ H' s' → Q (.ref D) H' → s'.heap.Ns C m → FpOk X pins H' C → compPost (model X.prog X.w) X.A X.xe use Qf (.ref D) C (.ok .next) s') :
    wpAny (model X.prog X.w) X.A (comprehension (.ListComp elt [⟨tg, iter, [], 0⟩] sc pos) sc X.env pos' (newList []) false (eval iter X.env) use) Qf X.xe s := by
  have free : ∀ y ∈ sc.names, y.2 = .free → ∃ c, X.env.cells.lookup y.1 = some c := fun y hy e => (ok.free y hy e).elim (fun k => I.ok.has _ (.inl k)) fun k => I.ok.has _ (.inr k)
  refine wp_compX (use := use) rfl hfo (closure_ok free) ok.kind (fun y hy e => by rw [ok.uniq y hy, e]) (thn (hi.run pins s σ H _ I h) fun xv s1 hx => thn hx fun itv s2 k2 => ?_)
  obtain ⟨it, fp, tn, J, H2, e, I2, T, st2, f2, q⟩ := k2
  subst e
  refine wpAny_newObj_type (newEnv_comp ?_) (by show 0 ≤ sizeLine; decide)
  generalize eD : s2.heap.objs.size = D
  obtain ⟨Wn, ⟨m0, w0⟩, turn⟩ := q D (I2.hok.fresh (Nat.le_of_eq eD))
  generalize e3 : ({ s2 with heap := s2.heap.push { cls := .type "list", data := .seq ([] : List Value).toArray } } : Shared) = s3
  have I3 : Inv X pins σ (upd H2 D (.lst [])) s3 := by
    rw [← e3]
    exact I2.laid (t' := s2.toks) (fun b o e => Heap.get?_push_of_some _ e) (Nat.le_of_eq eD) ⟨Nat.zero_le _, [], 0, .nil, by rw [← eD]; exact Heap.get?_push_size _ rfl⟩
  have z3 : s3.heap = s2.heap.push { cls := .type "list", data := .seq ([] : List Value).toArray } := by rw [← e3]
  have f3 : ∀ b ∈ fp, FpOk X pins (upd H2 D (.lst [])) b ∧ b < s3.heap.objs.size := fun b hb => by
    obtain ⟨o, eo, _⟩ := T.obj _ _ st2 b hb
    have lt := Heap.lt_size eo
    refine ⟨⟨?_, (f2 b hb).2⟩, by rw [z3, Heap.size_push]; exact Nat.lt_succ_of_lt lt⟩
    rw [upd_ne (by rw [← eD]; exact Nat.ne_of_lt lt)]
    exact (f2 b hb).1
  have st3 : tn 0 s3.heap := T.keep _ _ _ st2 fun b _ o e => by rw [z3]; exact Heap.get?_push_of_some _ e
  have I4 := block_start I3 ok hN f3
  have pg := hg s3 (upd H2 D (.lst [])) s3.heap.objs.size (cellsFrom (s3.heap.objs.size + 1) sc.names (cloFrom X.env.cells sc.names [])) fp
  have pe := he σ s3 (upd H2 D (.lst [])) s3.heap.objs.size (cellsFrom (s3.heap.objs.size + 1) sc.names (cloFrom X.env.cells sc.names [])) fp
  have nfp : ∀ b ∈ fp, (upd H2 D (.lst [])) b = none := fun b hb => (f3 b hb).1.1
  show codeAny _ _ (.compStart (.ListComp elt [⟨tg, iter, [], 0⟩] sc pos) 0 (.ref it) (.ref D) (compEnvC sc (cellsFrom (s3.heap.objs.size + 1) sc.names (cloFrom X.env.cells sc.names [])) s3.heap.objs.size X.env))
    (cpX (model X.prog X.w) X.A X.xe use Qf (.ref D) sc X.env (newEnv sc s3.heap.objs.size X.env.globals (cellsFrom (s3.heap.objs.size + 1) sc.names (cloFrom X.env.cells sc.names [])) X.env.qual none .none (some X.env) builtinsNs)) { s3 with heap := pushCells (s3.heap.push { cls := .type "dict", data := .dict #[] }) sc.names }
  generalize hn0 : newEnv sc s3.heap.objs.size X.env.globals (cellsFrom (s3.heap.objs.size + 1) sc.names (cloFrom X.env.cells sc.names [])) X.env.qual none .none (some X.env) builtinsNs = c0
  have c0L : c0.locals = s3.heap.objs.size := by rw [← hn0]; rfl
  have c0F : c0.frame = X.env.frame := by rw [← hn0]; rfl
  generalize hce : compEnvC sc (cellsFrom (s3.heap.objs.size + 1) sc.names (cloFrom X.env.cells sc.names [])) s3.heap.objs.size X.env = ce at I4 pg pe ⊢
  have cL : ce.locals = s3.heap.objs.size := by rw [← hce]; rfl
  have cF : ce.frame = X.env.frame := by rw [← hce]; rfl
  generalize hH3 : upd H2 D (.lst []) = H3 at I3 I4 pg pe w0 nfp f3
  generalize hs4 : ({ s3 with heap := pushCells (s3.heap.push { cls := .type "dict", data := .dict #[] }) sc.names } : Shared) = s4 at I4 ⊢
  have st4 : tn 0 s4.heap := T.keep _ _ _ st3 fun b _ o e => by rw [← hs4]; exact pushCells_keeps _ _ _ _ (Heap.get?_push_of_some _ e)
  have stat : ∀ {σ' : L2.St} {H' : Hp} {s' : Shared}, Inv (X.blk s3 H3 sc ce fp) [] σ' H' s' → (∀ b ∈ fp, H' b = none) → ∀ b ∈ fp, FpOk (X.blk s3 H3 sc ce fp) [] H' b := fun {σ' H' s'} I' hn b hb =>
    ⟨hn b hb, (I'.ok.exf b hb).1, I'.ok.exfs b hb, .inl hb, fun x c e => (I'.ok.exf b hb).2 x c e, fun p hp => by cases (show p ∈ ([] : List (Addr × Obj)) from by simpa using hp)⟩
  have loop : codeAny (model X.prog X.w) X.A (.compLoop (.ListComp elt [⟨tg, iter, [], 0⟩] sc pos) 0 (.ref it) (.ref D) ce) (cpX (model X.prog X.w) X.A X.xe use Qf (.ref D) sc X.env c0) s4 := by
    refine compLoop_any (fun n s' => ∃ i H', Inv (X.blk s3 H3 sc ce fp) [] (wipe σ (own.map (·.2))) H' s' ∧ tn i s'.heap ∧ (∀ b ∈ fp, H' b = none) ∧ Wn i n H') ?_ m0 ⟨0, H3, I4, st4, nfp, w0⟩
    rintro n s5 ⟨i, H5, I5, st5, n5, w5⟩
    rcases turn i n H5 w5 with ⟨stop, qq⟩ | ⟨go, Nx, hNx, step⟩
    · refine thnF (T.done (X.blk s3 H3 sc ce fp) rfl rfl rfl hc i [] s5 _ H5 (fun _ _ => False) I5 (stat I5 n5) st5 stop) fun r s6 ⟨hr, I6⟩ => ?_
      subst hr
      have I7 : Inv X pins σ H5 s6 := I3.call' (ch := fp) I6.os I6.base I6.hok I6.bare fun b hb => ⟨(f3 b hb).1.2.2.2.1, (f3 b hb).1.2.1, (f3 b hb).1.2.2.2.2.1, (f3 b hb).1.2.2.2.2.2⟩
      have nC : H5 s3.heap.objs.size = none := by
        have z : H5 ce.locals = none := I6.free
        rw [cL] at z
        exact z
      obtain ⟨m, hn, _⟩ := I6.loc
      have hn : s6.heap.Ns ce.locals m := hn
      rw [cL] at hn
      show compPost _ _ _ _ _ _ c0.locals _ _
      rw [c0L]
      exact hE D s3.heap.objs.size s6 m H5 I7 qq hn (I3.fpOk (Nat.le_refl _) nC)
    · refine thnF (T.item (X.blk s3 H3 sc ce fp) rfl rfl rfl hc i [] s5 _ H5 (fun _ _ => False) I5 (stat I5 n5) st5 go) fun r s6 ⟨u, hr, k6⟩ => ?_
      subst hr
      refine thnF k6 fun _ s7 ⟨x, H7, I7, r7, y7, st7, n7⟩ => ?_
      have I7' := I7.pinned (stat I7 n7) (T.obj _ _ st7)
      refine thnF (pg.run _ s7 _ H7 x u _ I7' r7 (step x H7 y7)) fun _ s8 ⟨σ8, H8, I8, hw8, q8⟩ => ?_
      refine wpAny_tests_nil ?_
      have fin : ∀ {s' : Shared} {H' : Hp}, Inv (X.blk s3 H3 sc ce fp) ([] ++ pinsAt fp s7.heap) σ8 H' s' → Nx H' → ∃ m, m < n ∧ ∃ i H', Inv (X.blk s3 H3 sc ce fp) [] (wipe σ (own.map (·.2))) H' s' ∧ tn i s'.heap ∧ (∀ b ∈ fp, H' b = none) ∧ Wn i m H' := fun {s' H'} I' nx => by
        obtain ⟨m', hm, w'⟩ := hNx H' nx
        have pin' : ∀ b ∈ fp, ∀ o, s7.heap.get? b = some o → s'.heap.get? b = some o ∧ H' b = none := fun b hb o e =>
          let z := I'.pin (b, o) (List.mem_append_right _ (List.mem_append_right _ (mem_pinsAt hb e)))
          ⟨z.1, z.2.1⟩
        have hl : (wipe σ (own.map (·.2))).length = σ8.length := by rw [← hw8, wipe_length]
        refine ⟨m', hm, i + 1, H', (I'.unpinned (pins := [])).weak hl (fun j v e => by rw [← hw8] at e; exact (wipe_some e).1), T.keep _ _ _ st7 fun b hb o e => (pin' b hb o e).1, fun b hb => ?_, w'⟩
        obtain ⟨o, e, _⟩ := T.obj _ _ st7 b hb
        exact (pin' b hb o e).2
      rw [if_pos rfl]
      have q8 : te σ σ8 H8 fun y H4 => ∃ acc, H4 D = some (.lst acc) ∧ acc.length < sizeLine ∧ Nx (upd H4 D (.lst (acc ++ [y]))) := by
        have z : tYes σ8 H8 _ := q8
        exact z
      refine wpAny_mono (pe.run _ s8 σ8 H8 _ (inv_xe I8) q8) (fun z s10 ⟨yv, H10, I10, r10, acc, hD10, hz10, nx⟩ => ?_) fun u5 s10 x5 => ?_
      · exact app_ok (X := X.blk s3 H3 sc ce fp) (inv_ex I10) hD10 hz10 r10 fun s11 I11 => fin I11 nx
      · have be := block_err (c2 := { c0 with scope := relabel sc X.env }) hs hf tk I3 (fun b hb => (f3 b hb).1) (Nat.le_of_eq cL.symm) cF x5 c0F
        rw [cL, ← c0L] at be
        exact be
  exact codeAny_compStart_list loop (T.self X.A 0 _ _ _ st4 loop)
/-- name = [..] on one line, the name a local; its thing a call that may let an exception out -/
theorem ps_setLcX {i : Nat} {y : Str} {py : Pos} {elt tg iter : Expr} {sc : Scope} {own : List (Str × Nat)} {pos spos : Pos} {wi : TI} {g : TG} {te : L2.St → TE} (hs : X.stack = X.env :: X.outer) (hf : X.env.frame = some X.env.locals) (tk : Takes X W)
    (hc : X.calm = true) (hN : X.N.Nodup) (hy : X.N[i]? = some y) (hyl : X.env.scope.names.lookup y = some .local) (hsw : swapsWith (.ListComp elt [⟨tg, iter, [], 0⟩] sc pos) (some (.Name y py)) spos.line X.env = pure true) (hi : PI X tg iter wi) (ok : BlkOk X.N X.env.scope sc own)
    (hg : ∀ (s : Shared) (H : Hp) (C : Addr) (cl : List (Str × Addr)) (fp : List Addr), PG (X.blk s H sc (compEnvC sc cl C X.env) fp) tg g)
    (he : ∀ (σ : L2.St) (s : Shared) (H : Hp) (C : Addr) (cl : List (Str × Addr)) (fp : List Addr), PE (blkX X (fun cls d H => W cls d σ H) s H sc (compEnvC sc cl C X.env) fp) elt (te σ)) (hfo : ∀ x, foldedSetIterable iter X.env x = pure x := by intro _; rfl) :
    PS X (.Assign [.Name y py] (.ListComp elt [⟨tg, iter, [], 0⟩] sc pos) spos) (tAsg (tLcX wi g te (own.map (·.2))) (gName i)) := by
  refine ⟨fun pins s σ H D I h => ?_⟩
  rw [exec_Assign_Name_used _ _ _ _ hsw]
  refine wpAny_bind (wpAny_standAt (wpAny_bind ?_))
  show wpAny _ X.A (do let _ ← comprehension (.ListComp elt [⟨tg, iter, [], 0⟩] sc pos) sc X.env (firstIterPos [⟨tg, iter, [], 0⟩] pos) (newList []) false (eval iter X.env) (some (assign (.Name y py) X.env))) _ _ s
  have h : tLcX wi g te (own.map (·.2)) σ H (fun x H1 => gName i x σ H1 D.nx) := h
  refine wpAny_bind (thn (lc_X (Qf := fun _ s' => SP X pins D .next s') hs hf tk hc hN I hi ok hg he hfo h fun L C s' m H' I' q hn f => ?_) fun _ s' hq => wpAny_pure (wpAny_pure hq))
  show wpAny _ _ (assign (.Name y py) X.env (.ref L)) _ _ _
  refine wpAny_assign_Name (store_ok2 (v := V.ref L) I' hN hy (.inl hyl) rfl (fun s2 I2 ⟨a, sb, ha⟩ => ?_) (.inr hyl))
  obtain ⟨f0, f1, f2, f3, f4, f5⟩ := f
  have ne : C ≠ a := by
    rcases ha with z | z
    · rw [z]; exact f1
    · exact fun e => f4 y a z e.symm
  refine ⟨m, hn.sameBut sb ne, fun h3 sb3 => ?_⟩
  exact ⟨_, H', I2.turned (t' := s2.toks) (fun b o hb e => (sb3.2 b hb).trans e) f0 f1 f3 f4 f5, q⟩
end
section
variable {c : Cn} {Γ : List Sl} {ta tb : TE} {t : TA} {α : Type} {_ : Rp α}
/-- the call of each turn tells f of it, where all turns ahead were good; all are good in the end -/
theorem es_lcX {T : Tm} {n : Int} {j : Nat} {vs : List Nat} (f : Int → α) (Gd : Int → Prop) {ss : Int → List Sl} (h : Ev c Γ ta (.im n)) (hn : n < 1000000) (hn0 : -1000000 < n) (hj : j ∈ vs) (hu : UnAt Γ vs) (ha : ∀ i : Int, 0 ≤ i → i < n → EvA c.no (Γ.set j (.im i)) t (ss i))
    (hT : ∀ i : Int, 0 ≤ i → i < n → (∀ k, 0 ≤ k → k < i → Gd k) → T (ss i ++ []) (fun s => s = .im (f i) ∧ Gd i) fun r => c.ex r Γ) :
    EvS c Γ (tLcX (iRng1 (tCons ta tNil)) (gName j) (tCallW (spOf c.Z T) c.X t) vs) (fun s => s = .ol ((irange n).map f) ∧ ∀ i, 0 ≤ i → i < n → Gd i) := fun B R0 R H ρ Δ σ S Q q x => by
  show tLc (iRng1 (tCons ta tNil)) (gName j) tYes (tCallW (spOf c.Z T) c.X t σ) vs σ H Q
  exact ei_rng1 (j := j) h (by omega) (by omega) B R0 R H ρ Δ σ S _ (fun J R1 H1 ρ' Δ' hl S1 ok Dl hD => by
    refine ⟨fun i m H => m = n.toNat - i ∧ i ≤ n.toNat ∧ (∀ k : Int, 0 ≤ k → k < (i : Int) → Gd k) ∧ ∃ R, Sx c.Z B R0 R H (some (.ref Dl) :: (ρ' ++ ρ)) (.ol ((irange (i : Int)).map f) :: (Δ' ++ Δ)) σ Γ, ⟨n.toNat, by simp, Nat.zero_le _, fun k k0 k1 => by omega, R1, sx_newl S1 hD .nil⟩, ?_⟩
    rintro i m H2 ⟨rfl, hin, gd, R2, S2⟩
    by_cases hlt : i < n.toNat
    · refine .inr ⟨ok.go (ρx := [some (.ref Dl)]) (Δx := [.ol ((irange (i : Int)).map f)]) rfl S2 hlt, fun H' => (∀ k : Int, 0 ≤ k → k < ((i + 1 : Nat) : Int) → Gd k) ∧ ∃ R, Sx c.Z B R0 R H' (some (.ref Dl) :: (ρ' ++ ρ)) (.ol ((irange ((i + 1 : Nat) : Int)).map f) :: (Δ' ++ Δ)) σ Γ, fun H' h => ⟨n.toNat - (i + 1), by omega, rfl, hlt, h⟩, fun y H' hy => ?_⟩
      have S2w := sx_wipe S2 vs
      rw [wipeG_un hu] at S2w
      refine ok.yld (ρx := [some (.ref Dl)]) (Δx := [.ol ((irange (i : Int)).map f)]) rfl S2w hlt hy _ fun R3 σ3 H3 S3 hw => ⟨(hw vs (by simpa using hj)).trans (wipe_wipe _ vs), ?_⟩
      have back : ∀ {R4 H4 : Hp} {ρ4 : List (Option V)} {Δ4 : List Sl}, Sx c.Z B R0 R4 H4 ρ4 Δ4 σ3 (Γ.set j (.im (i : Int))) → Sx c.Z B R0 R4 H4 ρ4 Δ4 σ Γ := fun S4 => by
        have q4 := sx_wipe S4 vs
        rw [hw vs (by simpa using hj), wipe_wipe, ok.back i Γ vs (by simpa using hj), wipeG_un hu] at q4
        exact sx_unwipe hu q4
      show tCallW (spOf c.Z T) c.X t σ σ3 H3 _
      refine ha (i : Int) (by omega) (by omega) B R0 R3 H3 _ _ σ3 S3 _ (fun ws R4 H4 S4 sl => ?_) (Xok.no c _ _ _ _)
      refine ⟨R4, ss (i : Int) ++ [], _, _, sx_same S4, slims_append sl .nil, hT (i : Int) (by omega) (by omega) gd, fun v R' H' s' S' e => ?_, fun r cls d H' e rx er => ?_⟩
      · obtain ⟨rfl, gi⟩ := e
        have S5 := sx_call S4 S'
        obtain ⟨p1, vs1, e1, h1, h2, h3⟩ := sx_mutTop (sx_swapTop S5)
        cases e1
        have hl1 := Paired.length h2
        rw [List.length_map, irange_len] at hl1
        refine ⟨vs1, h1, Nat.lt_of_lt_of_le (by omega : vs1.length < 1000000) (by decide), fun k k0 k1 => ?_, R', ?_⟩
        · by_cases c : k = (i : Int)
          · subst c; exact gi
          · exact gd k k0 (by omega)
        · have e2 : (irange ((i + 1 : Nat) : Int)).map f = (irange (i : Int)).map f ++ [f (i : Int)] := by
            unfold irange
            rw [Int.toNat_natCast, Int.toNat_natCast, List.range_succ, List.map_append, List.map_append]
            rfl
          rw [e2]
          exact back (sx_pop2 (h3 (vs1 ++ [v]) ((irange (i : Int)).map f ++ [f (i : Int)]) (paired_append h2 (.cons (sx_top' S5) .nil))))
      · obtain ⟨R2', _, S5, rx2⟩ := sx_callX S4 e rx
        exact x R2' H' σ Γ r cls d (sx_drop hl (sx_pop (back S5))) rx2 er
    · have e : i = n.toNat := by omega
      subst e
      refine .inl ⟨ok.stop (ρx := [some (.ref Dl)]) (Δx := [.ol ((irange ((n.toNat : Nat) : Int)).map f)]) rfl S2, ?_⟩
      have e3 : irange ((n.toNat : Nat) : Int) = irange n := by unfold irange; rw [Int.toNat_natCast]
      rw [e3] at S2
      exact q _ _ R2 H2 ⟨rfl, fun k k0 k1 => gd k k0 (by omega)⟩ (sx_drop1 hl S2)) x
end
end TB

/-! TbDuw: what shows that a table is no group's. -/
namespace TB
open PySem L2
noncomputable def NoU (t : Tbl) : Prop := ∀ e, InT t e → ¬ IsUnit t e
/-- the least thing that nothing leads back -/
structure NoB (t : Tbl) (u a : Int) : Prop where
  ha : InT t a
  no : ∀ b, InT t b → ¬ IsBack t u a b
  le : ∀ k, 0 ≤ k → k < a → ∃ b, InT t b ∧ IsBack t u k b
noncomputable def DueG (t : Tbl) (D : List IX) : Prop := (NoU t ∧ D = [xS "unit"]) ∨ ∃ u, InT t u ∧ IsUnit t u ∧ ((∃ a, NoB t u a ∧ D = [xS "back", .i a]) ∨ ((∀ a, InT t a → ∃ b, InT t b ∧ IsBack t u a b) ∧ ((∃ a b c, FirstBad t a b c ∧ D = [xS "together", .i a, .i b, .i c]) ∨ (AllAsc t ∧ D = []))))
/-- what such a table is refused with -/
noncomputable def ExG (t : Tbl) (r : Rf) : Prop := (NoU t ∧ r = ⟨.NoUnit, []⟩) ∨ ∃ u, InT t u ∧ IsUnit t u ∧ ((∃ a, NoB t u a ∧ r = ⟨.NoBack, [("thing", .int a)]⟩) ∨ ((∀ a, InT t a → ∃ b, InT t b ∧ IsBack t u a b) ∧ ∃ a b c, FirstBad t a b c ∧ r = ⟨.NotTogether, [("three", .int c), ("two", .int b), ("one", .int a)]⟩))
theorem nob_one {t : Tbl} {u a a' : Int} (h : NoB t u a) (h' : NoB t u a') : a = a' := by
  rcases Int.lt_trichotomy a a' with q | q | q
  · obtain ⟨b, hb, k⟩ := h'.le a h.ha.1 q
    exact absurd k (h.no b hb)
  · exact q
  · obtain ⟨b, hb, k⟩ := h.le a' h'.ha.1 q
    exact absurd k (h'.no b hb)
theorem bad_one {t : Tbl} {a b c a' b' c' : Int} (h : FirstBad t a b c) (h' : FirstBad t a' b' c') : a = a' ∧ b = b' ∧ c = c' := by
  have e1 : a = a' := by
    rcases Int.lt_trichotomy a a' with q | q | q
    · exact absurd (h'.r1 a b c h.ha h.hb h.hc q) h.bad
    · exact q
    · exact absurd (h.r1 a' b' c' h'.ha h'.hb h'.hc q) h'.bad
  subst e1
  have e2 : b = b' := by
    rcases Int.lt_trichotomy b b' with q | q | q
    · exact absurd (h'.r2 b c h.hb h.hc q) h.bad
    · exact q
    · exact absurd (h.r2 b' c' h'.hb h'.hc q) h'.bad
  subst e2
  refine ⟨rfl, rfl, ?_⟩
  rcases Int.lt_trichotomy c c' with q | q | q
  · exact absurd (h'.r3 c h.hc q) h.bad
  · exact q
  · exact absurd (h.r3 c' h'.hc q) h'.bad
theorem dueG_one {t : Tbl} {D D' : List IX} (h : DueG t D) (h' : DueG t D') : D = D' := by
  rcases h with ⟨n, rfl⟩ | ⟨u, hu, iu, h⟩
  · rcases h' with ⟨_, rfl⟩ | ⟨u', hu', iu', _⟩
    · rfl
    · exact absurd iu' (n u' hu')
  · rcases h' with ⟨n, _⟩ | ⟨u', hu', iu', h'⟩
    · exact absurd iu (n u hu)
    · obtain rfl := unit_one hu hu' iu iu'
      rcases h with ⟨a, ha, rfl⟩ | ⟨bk, h⟩
      · rcases h' with ⟨a', ha', rfl⟩ | ⟨bk', _⟩
        · rw [nob_one ha ha']
        · obtain ⟨b, hb, k⟩ := bk' a ha.ha
          exact absurd k (ha.no b hb)
      · rcases h' with ⟨a', ha', _⟩ | ⟨_, h'⟩
        · obtain ⟨b, hb, k⟩ := bk a' ha'.ha
          exact absurd k (ha'.no b hb)
        · rcases h with ⟨a, b, c, f, rfl⟩ | ⟨as, rfl⟩
          · rcases h' with ⟨a', b', c', f', rfl⟩ | ⟨as', _⟩
            · obtain ⟨rfl, rfl, rfl⟩ := bad_one f f'
              rfl
            · exact absurd (as' a b c f.ha f.hb f.hc) f.bad
          · rcases h' with ⟨a', b', c', f', rfl⟩ | ⟨_, rfl⟩
            · exact absurd (as a' b' c' f'.ha f'.hb f'.hc) f'.bad
            · rfl
theorem dueG_nil {t : Tbl} (hs : SizeOk t) (hn : NoStg t) (h : DueG t []) : ∃ e, GTbl t e := by
  rcases h with ⟨_, z⟩ | ⟨u, hu, iu, ⟨a, _, z⟩ | ⟨bk, ⟨a, b, c, _, z⟩ | ⟨as, _⟩⟩⟩
  · cases z
  · cases z
  · cases z
  · exact ⟨u, hs, hn, hu, iu, bk, as⟩
theorem dueG_small {t : Tbl} {D : List IX} (h : DueG t D) : D.length ≤ 4 ∧ ∀ i : Int, 1 ≤ i → i < D.length → ∃ n : Int, gt D i = .i n := by
  rcases h with ⟨_, rfl⟩ | ⟨u, hu, iu, ⟨a, _, rfl⟩ | ⟨bk, ⟨a, b, c, _, rfl⟩ | ⟨as, rfl⟩⟩⟩
  · exact ⟨by simp, fun i h1 h2 => by simp at h2; omega⟩
  · refine ⟨by simp, fun i h1 h2 => ?_⟩
    simp at h2
    obtain rfl : i = 1 := by omega
    exact ⟨_, rfl⟩
  · refine ⟨by simp, fun i h1 h2 => ?_⟩
    simp at h2
    rcases (by omega : i = 1 ∨ i = 2 ∨ i = 3) with rfl | rfl | rfl
    · exact ⟨_, rfl⟩
    · exact ⟨_, rfl⟩
    · exact ⟨_, rfl⟩
  · exact ⟨by simp, fun i h1 h2 => by simp at h2; omega⟩
/-- a table of n things -/
structure TabN (n : Int) (t : Tbl) : Prop where
  len : (t.length : Int) = n
  row : ∀ r ∈ t, (r.length : Int) = n
  inn : ∀ r ∈ t, ∀ x ∈ r, 0 ≤ x ∧ x < n
theorem TabN.sz {n : Int} {t : Tbl} (h : TabN n t) (h1 : 1 ≤ n) (h2 : n ≤ 23) : SizeOk t ∧ NoStg t := by
  have l := h.len
  exact ⟨⟨by omega, by omega, fun r hr => by have := h.row r hr; omega⟩, fun r hr x hx => by have := h.inn r hr x hx; omega⟩
theorem GTbl.tab {t : Tbl} {e : Int} (G : GTbl t e) : TabN t.length t := ⟨rfl, fun r hr => by have := G.sz.2.2 r hr; omega, G.ns⟩
/-- another number at a place -/
theorem TabN.put {n : Int} {t : Tbl} (h : TabN n t) {i j y : Int} (i0 : 0 ≤ i) (i1 : i < n) (j0 : 0 ≤ j) (j1 : j < n) (y0 : 0 ≤ y) (y1 : y < n) : TabN n (t.set i.toNat ((gt t i).set j.toNat y)) := by
  have l := h.len
  have hg := gt_mem (xs := t) i0 (by omega)
  refine ⟨by rw [List.length_set]; exact l, fun r hr => ?_, fun r hr x hx => ?_⟩
  · rcases List.mem_or_eq_of_mem_set hr with q | q
    · exact h.row r q
    · rw [q, List.length_set]; exact h.row _ hg
  · rcases List.mem_or_eq_of_mem_set hr with q | q
    · exact h.inn r q x hx
    · rw [q] at hx
      rcases List.mem_or_eq_of_mem_set hx with q2 | q2
      · exact h.inn _ hg x q2
      · rw [q2]; exact ⟨y0, y1⟩
section
variable {c : Cn} {Γ : List Sl} {te : TE}
/-- ints, told as ints or words -/
theorem paired_il {Z : Zz} {R : Hp} : ∀ {vs : List V} {xs : List Int}, Paired (Rp.rp Z R) vs xs → Paired (Rp.rp Z R) vs (xs.map IX.i)
  | _, _, .nil => .nil
  | _, _, .cons r t => .cons r (paired_il t)
theorem ev_isIL {xs : List Int} (h : Ev c Γ te (.im xs)) : Ev c Γ te (.im (xs.map IX.i)) := fun B R0 R H ρ Δ σ S Q q x => h B R0 R H ρ Δ σ S Q (fun v R' H' S' => q v R' H' (sx_push (sx_pop S') (by
  obtain ⟨a, vs, e, ha, hp⟩ := sx_top' S'
  exact ⟨a, vs, e, ha, paired_il hp⟩))) x
/-- arguments handed over, the first one of a kind -/
noncomputable def EvAS (c : Cn) (Γ : List Sl) (t : TA) (A : List Sl → Prop) (Γ' : List Sl) : Prop := ∀ B R0 R H ρ Δ σ, Sx c.Z B R0 R H ρ Δ σ Γ → ∀ Q : List V → Hp → Prop, (∀ vs ss R' H', A ss → vs.length = ss.length → Sx c.Z B R0 R' H' (vs.map some ++ ρ) (ss ++ Δ) σ Γ' → Q vs H') → Xok c B R0 ρ Δ → t σ H Q
theorem eas_cons {Γ1 Γ2 : List Sl} {tr : TA} {S : Sl → Prop} {ss : List Sl} (h : EvSM c Γ te S Γ1) (hr : EvAM c Γ1 tr ss Γ2) : EvAS c Γ (tCons te tr) (fun l => ∃ s, S s ∧ l = s :: ss) Γ2 := fun B R0 R H ρ Δ σ S0 Q q xk =>
  h B R0 R H ρ Δ σ S0 _ (fun v s R1 H1 e S1 => hr B R0 R1 H1 _ _ σ S1 _ (fun vs R2 H2 hl S2 => q (v :: vs) (s :: ss) R2 H2 ⟨s, e, rfl⟩ (by simp [hl]) (sx_rot (by rw [List.length_map]; exact hl) S2)) xk.push1) xk
theorem esm_callS {Γ1 : List Sl} {T : Tm} {t : TA} {A : List Sl → Prop} {S : Sl → Prop} (ha : EvAS c Γ t A Γ1) (hT : ∀ ss, A ss → T ss S fun _ => False) : EvSM c Γ (tCallSD (spMv c.Z T) [] (WE c.X) t) S Γ1 := fun B R0 R H ρ Δ σ S0 Q q xk => ha B R0 R H ρ Δ σ S0 _ (fun vs ss R1 H1 hA hl S1 => by
  obtain ⟨h, own, hs, es⟩ := S1
  rw [List.append_assoc, List.append_assoc] at es
  obtain ⟨f, g, rfl, e1, e2⟩ := (es_append (by rw [List.length_map]; exact hl)).mp es
  have nd := hs.nd
  simp only [List.nodup_append] at nd
  refine ⟨R1, f, ss, S, hs.rh, fun p hp => (hs.ow p (by simp [hp])).1, nd.1, by rw [List.append_nil]; exact e1, hT ss hA, fun v R' H' s S' hs' => q v s R' H' hs' (sx_callMv (ρ1 := []) (Δ1 := []) (by simp at h; omega) hs e2 S')⟩) xk
/-- arguments, the last one of a kind -/
noncomputable def EvAX (c : Cn) (Γ : List Sl) (t : TA) (A : List Sl → Prop) : Prop := ∀ B R0 R H ρ Δ σ, Sx c.Z B R0 R H ρ Δ σ Γ → ∀ Q : List V → Hp → Prop, (∀ vs ss R' H', A ss → Sx c.Z B R0 R' H' ρ Δ σ Γ → Slims c.Z R' vs ss → Q vs H') → Xok c B R0 ρ Δ → t σ H Q
theorem eax_last {α : Type} {_ : Rp α} {D : α → Prop} (h : EvS c Γ te fun s => ∃ d : α, s = .im d ∧ D d) : EvAX c Γ (tCons te tNil) (fun l => ∃ d : α, l = [.im d] ∧ D d) := fun B R0 R H ρ Δ σ S Q q xk =>
  h B R0 R H ρ Δ σ S _ (fun v s R1 H1 e S1 => by
    obtain ⟨d, rfl, hd⟩ := e
    exact q [v] [.im d] R1 H1 ⟨d, rfl, hd⟩ (sx_pop S1) (.cons (sx_top' S1) .nil)) xk
theorem eax_cons {α : Type} {_ : Rp α} {d : α} {tr : TA} {A : List Sl → Prop} (h : Ev c Γ te (.im d)) (hr : EvAX c Γ tr A) : EvAX c Γ (tCons te tr) (fun l => ∃ ss, A ss ∧ l = .im d :: ss) := fun B R0 R H ρ Δ σ S Q q xk =>
  h B R0 R H ρ Δ σ S _ (fun v R1 H1 S1 => hr B R0 R1 H1 _ _ σ S1 _ (fun vs ss R2 H2 hA S2 sl => q (v :: vs) (.im d :: ss) R2 H2 ⟨ss, hA, rfl⟩ (sx_pop S2) (.cons (sx_top' S2) sl)) xk.push1) xk
theorem es_callX {T : Tm} {t : TA} {A : List Sl → Prop} {S : Sl → Prop} (ha : EvAX c Γ t A) (hT : ∀ ss, A ss → T (ss ++ []) S fun r => c.ex r Γ) : EvS c Γ (tCallSD (spOf c.Z T) [] (WE c.X) t) S := fun B R0 R H ρ Δ σ S0 Q q xk => ha B R0 R H ρ Δ σ S0 _ (fun vs ss R1 H1 hA S1 sl => by
  refine ⟨R1, ss ++ [], _, _, sx_same S1, slims_append sl .nil, hT ss hA, fun v R' H' s' S' e => ?_, fun r cls d H' e rx er => ?_⟩
  · exact q v s' R' H' e (sx_call S1 S')
  · obtain ⟨R2, _, S2, rx2⟩ := sx_callX S1 e rx
    exact xk R2 H' σ Γ r cls d S2 rx2 er) xk
theorem es_fr2 {α : Type} {_ : Rp α} {D : List (List α) → Prop} (h : EvS c Γ te fun s => ∃ t : List (List α), s = .o2 t ∧ D t) : EvS c Γ te fun s => ∃ d : List (List α), s = .im d ∧ D d := fun B R0 R H ρ Δ σ S Q q x => h B R0 R H ρ Δ σ S Q (fun v s R' H' e S' => by
  obtain ⟨t, rfl, ht⟩ := e
  obtain ⟨R2, _, S2⟩ := sx_frzTop lnd_o2 S'
  exact q v _ R2 H' ⟨t, rfl, ht⟩ S2) x
theorem es_ev {s0 : Sl} (h : EvS c Γ te fun s => s = s0) : Ev c Γ te s0 := fun B R0 R H ρ Δ σ S Q q x => h B R0 R H ρ Δ σ S Q (fun v s R' H' e S' => q v R' H' (e ▸ S')) x
end
end TB

/-! ### group_of -/
namespace TB
open PySem L2
--use TbDuw
--extra T.grpC
noncomputable def T_group_of : Tm := tm1 fun (t : Tbl) ok er => SizeOk t ∧ NoStg t ∧ (NoU t → er ⟨.NoUnit, []⟩) ∧ ∀ u, InT t u → IsUnit t u → (∀ a, NoB t u a → er ⟨.NoBack, [("thing", .int a)]⟩) ∧
  ((∀ a, InT t a → ∃ b, InT t b ∧ IsBack t u a b) → (AllAsc t → ok (.fo (grpOf t u))) ∧ ∀ a b c, FirstBad t a b c → er ⟨.NotTogether, [("three", .int c), ("two", .int b), ("one", .int a)]⟩)
theorem gof_ok {t : Tbl} {e : Int} (hG : GTbl t e) (er : Rf → Prop) : T_group_of ([.im t] ++ []) (fun s => s = .fo (grpOf t e)) er := by
  refine ⟨t, rfl, hG.sz, hG.ns, fun z => absurd hG.un (z e hG.he), fun u hu iu => ?_⟩
  obtain rfl := unit_one hu hG.he iu hG.un
  refine ⟨fun a ha => ?_, fun _ => ⟨fun _ => rfl, fun a b c f => absurd (hG.asc a b c f.ha f.hb f.hc) f.bad⟩⟩
  obtain ⟨b, hb, k⟩ := hG.bk a ha.ha
  exact absurd k (ha.no b hb)
noncomputable def t_group_of (Z : Zz) (X : WX) : TS :=
  (tSeq (tDrop (tCallSD (spOf Z T_look_at_size) [] (WE X) (tCons (tVar 0) tNil)))
  (tSeq (tDrop (tCallSD (spOf Z T_look_for_strangers) [] (WE X) (tCons (tVar 0) tNil)))
  (tSeq (tAsg (tCallSD (spOf Z T_unit_of) [] (WE X) (tCons (tVar 0) tNil)) (gName 1))
  (tSeq (tAsg (tLcX (iRng1 (tCons (tCB (gLen Z.K) (tCons (tVar 0) tNil)) tNil)) (gName 3) (tCallW (spOf Z T_back_of) X (tCons (tVar 0) (tCons (tVar 1) (tCons (tVar 3) tNil)))) [3]) (gName 2))
  (tSeq (tDrop (tCallSD (spOf Z T_look_at_threes) [] (WE X) (tCons (tVar 0) tNil)))
  (tRet (tMake (Z.cls .Group) (spI_Group Z) [] E0 (tCons (tLc (iList Z.K (tVar 0)) (gName 4) tYes (tCB (gList Z.K) (tCons (tVar 4) tNil)) [4]) (tCons (tVar 1) (tCons (tVar 2) tNil))))))))))
theorem w_group_of {Z : Zz} (hZ : GrpC Z) (X : WX) (ss : List Sl) (ok : Sl → Prop) (er : Rf → Prop) (h : T_group_of ss ok er) : WF Z X er (ss ++ List.replicate (5 - ss.length) .un) (t_group_of Z X) ok := by
  obtain ⟨t, rfl, hs, hn, k1, k2⟩ := h
  show W _ [.im t, .un, .un, .un, .un] _ _
  unfold t_group_of
  have hlen := hs.2.1
  refine w_seq (w_dropS (S := fun _ => True) (es_call (by walk_at "ev") ⟨t, rfl, fun _ => trivial, fun z => absurd hs z⟩) fun _ _ => ?_)
  refine w_seq (w_dropS (S := fun _ => True) (es_call (by walk_at "ev") ⟨t, rfl, fun _ => trivial, fun a b fs => absurd hn (stg_no fs)⟩) fun _ _ => ?_)
  refine w_seq (w_asgS (S := fun s => ∃ u : Int, s = .im u ∧ InT t u ∧ IsUnit t u) (es_call (by walk_at "ev") ⟨t, rfl, hs, fun e h0 h1 hu _ => ⟨e, rfl, ⟨h0, h1⟩, hu⟩, fun h => k1 fun e he => h e he.1 he.2⟩) ?_)
  rintro _ ⟨u, rfl, hu, hU⟩
  obtain ⟨k3, k4⟩ := k2 u hu hU
  show W _ [.im t, .im u, .un, .un, .un] _ _
  refine w_seq (w_asgS (S := fun s => s = .ol ((irange t.length).map (bkf t u)) ∧ ∀ a, 0 ≤ a → a < (t.length : Int) → ∃ b, InT t b ∧ IsBack t u a b) (es_lcX (n := (t.length : Int)) (bkf t u) (fun a => ∃ b, InT t b ∧ IsBack t u a b) (ss := fun a => [.im t, .im u, .im a]) (ev_len (ev_var rfl)) (by omega) (by omega) (by simp) ⟨.inl rfl, trivial⟩ (fun a _ _ => ea_cons (ev_var rfl) (ea_cons (ev_var rfl) (ea_cons (ev_var rfl) ea_nil))) fun a a0 a1 gd => ⟨t, u, a, rfl, hs, ⟨a0, a1⟩, fun b fb => ?_, fun h => k3 a ⟨⟨a0, a1⟩, h, gd⟩⟩) ?_)
  · have fb2 := bkf_first ⟨b, ⟨fb.b0, fb.b1⟩, fb.is⟩
    refine ⟨?_, b, ⟨fb.b0, fb.b1⟩, fb.is⟩
    congr 1
    rcases Int.lt_trichotomy b (bkf t u a) with q | q | q
    · exact absurd fb.is (fb2.no b fb.b0 q)
    · exact q
    · exact absurd fb2.is (fb.no _ fb2.b0 q)
  rintro _ ⟨rfl, hb⟩
  obtain ⟨k7, k8⟩ := k4 fun a ha => hb a ha.1 ha.2
  show W _ [.im t, .im u, .ol ((irange (t.length : Int)).map (bkf t u)), .un, .un] _ _
  refine w_seq (w_dropS (S := fun _ => AllAsc t) (es_call (by walk_at "ev") ⟨t, rfl, hs, hn, fun h => h, k8⟩) fun _ ha => ?_)
  exact w_retGroup (rows := t) (unit := u) (backs := (irange (t.length : Int)).map (bkf t u)) hZ (ev_copyT2 (ev_var rfl) (by omega) ⟨.inl rfl, trivial⟩ fun _ => rfl) rfl rfl (k7 ha)
end TB

/-! ### l_cell -/
namespace TB
open PySem L2
noncomputable def cellOf (l : Scr) (k : Int) : Int := if k < l.l.length then gt l.l k % 2147483647 else 0
theorem cellOf_bd (l : Scr) (k : Int) : 0 ≤ cellOf l k ∧ cellOf l k < 2147483647 := by
  unfold cellOf
  split <;> omega
noncomputable def T_l_cell : Tm := tm2 fun (l : Scr) (k : Int) ok _ => 0 ≤ k ∧ ok (.im (cellOf l k))
noncomputable def t_l_cell (Z : Zz) (X : WX) : TS :=
  (tSeq (tIfS (tTest (tOp gLt (tVar 1) (tCB (gLen Z.K) (tCons (tVar 0) tNil))))
  (tRet (tOp gMod (tOp (gIx Z.K) (tVar 0) (tVar 1)) (tC (.int 2147483647))))
  tNext)
  (tRet (tC (.int 0))))
theorem w_l_cell (Z : Zz) (X : WX) (ss : List Sl) (ok : Sl → Prop) (er : Rf → Prop) (h : T_l_cell ss ok er) : WF Z X er (ss ++ List.replicate (2 - ss.length) .un) (t_l_cell Z X) ok := by
  obtain ⟨l, k, rfl, h0, hk⟩ := h
  show W _ [.im l, .im k] _ _
  unfold t_l_cell
  refine w_seq (w_if (by walk_at "ev") (fun hb => ?_) (fun hb => w_next ?_))
  · simp at hb
    refine w_ret (ev_mod (ev_ixS (ev_var rfl) (ev_var rfl) h0 hb) ev_int (by decide)) ?_
    unfold cellOf at hk
    rw [if_pos hb] at hk
    exact hk
  · simp at hb
    refine w_ret ev_int ?_
    unfold cellOf at hk
    rw [if_neg (by omega)] at hk
    exact hk
end TB

/-! ### l_sizes -/
namespace TB
open PySem L2
--use TbMk
noncomputable def T_l_sizes : Tm := tm2 fun (one two : Int) ok _ => 0 ≤ one ∧ 0 ≤ two ∧ ∀ l, SzOk l → ok (.im l)
noncomputable def t_l_sizes (Z : Zz) (X : WX) : TS :=
  (tSeq (tAsg (tOp gDiv (tVar 0) (tC (.int 3))) (gName 2))
  (tSeq (tIfS (tTest (tOp (gEq Z.K) (tOp gMod (tVar 0) (tC (.int 3))) (tC (.int 1))))
  (tSeq (tAsg (tLst (tCons (tLst (tCons (tC (.int 2)) (tCons (tC (.int 2)) (tCons (tC (.int 1)) (tCons (tC (.int 3)) tNil))))) (tCons (tLst (tCons (tC (.int 7)) (tCons (tC (.int 1)) (tCons (tC (.int 1)) (tCons (tC (.int 3)) tNil))))) (tCons (tLst (tCons (tC (.int 5)) (tCons (tC (.int 1)) (tCons (tC (.int 1)) (tCons (tC (.int 4)) tNil))))) (tCons (tLst (tCons (tC (.int 4)) (tCons (tC (.int 2)) (tCons (tC (.int 1)) (tCons (tC (.int 2)) tNil))))) (tCons (tLst (tCons (tC (.int 3)) (tCons (tC (.int 3)) (tCons (tC (.int 1)) (tCons (tC (.int 2)) tNil))))) (tCons (tLst (tCons (tC (.int 8)) (tCons (tC (.int 1)) (tCons (tC (.int 1)) (tCons (tC (.int 2)) tNil))))) tNil))))))) (gName 3))
  (tSeq (tAsg (tOp gAdd (tVar 3) (tLst (tCons (tLst (tCons (tC (.int 4)) (tCons (tC (.int 1)) (tCons (tC (.int 1)) (tCons (tC (.int 2)) tNil))))) (tCons (tLst (tCons (tC (.int 2)) (tCons (tC (.int 2)) (tCons (tC (.int 2)) (tCons (tC (.int 2)) tNil))))) (tCons (tLst (tCons (tC (.int 3)) (tCons (tC (.int 1)) (tCons (tC (.int 1)) (tCons (tC (.int 4)) tNil))))) (tCons (tLst (tCons (tC (.int 2)) (tCons (tC (.int 2)) (tCons (tC (.int 1)) (tCons (tC (.int 2)) tNil))))) (tCons (tLst (tCons (tC (.int 5)) (tCons (tC (.int 1)) (tCons (tC (.int 1)) (tCons (tC (.int 2)) tNil))))) (tCons (tLst (tCons (tC (.int 9)) (tCons (tC (.int 1)) (tCons (tC (.int 1)) (tCons (tC (.int 2)) tNil))))) tNil)))))))) (gName 3))
  (tRet (tOp (gIx Z.K) (tVar 3) (tOp gMod (tVar 2) (tC (.int 12)))))))
  tNext)
  (tSeq (tAsg (tOp (gIx Z.K) (tLst (tCons (tC (.int 8)) (tCons (tC (.int 12)) (tCons (tC (.int 6)) (tCons (tC (.int 23)) tNil))))) (tOp gMod (tVar 2) (tC (.int 4)))) (gName 4))
  (tSeq (tAsg (tOp (gIx Z.K) (tLst (tCons (tC (.int 2)) (tCons (tC (.int 1)) (tCons (tC (.int 2)) (tCons (tC (.int 3)) (tCons (tC (.int 2)) (tCons (tC (.int 4)) tNil))))))) (tOp gMod (tOp gDiv (tVar 2) (tC (.int 4))) (tC (.int 6)))) (gName 5))
  (tSeq (tAsg (tOp gDiv (tVar 4) (tVar 5)) (gName 6))
  (tSeq (tAsg (tOp gAdd (tC (.int 1)) (tOp gMod (tOp gDiv (tVar 2) (tC (.int 24))) (tVar 6))) (gName 7))
  (tSeq (tAsg (tOp gAdd (tC (.int 1)) (tOp gMod (tVar 1) (tOp gDiv (tVar 6) (tVar 7)))) (gName 8))
  (tSeq (tAsg (tOp gAdd (tC (.int 1)) (tOp gMod (tOp gDiv (tVar 1) (tC (.int 23))) (tOp gDiv (tVar 6) (tOp gMul (tVar 7) (tVar 8))))) (gName 9))
  (tRet (tLst (tCons (tVar 7) (tCons (tVar 8) (tCons (tVar 9) (tCons (tVar 5) tNil))))))))))))))
theorem w_l_sizes (Z : Zz) (X : WX) (ss : List Sl) (ok : Sl → Prop) (er : Rf → Prop) (h : T_l_sizes ss ok er) : WF Z X er (ss ++ List.replicate (10 - ss.length) .un) (t_l_sizes Z X) ok := by
  obtain ⟨one, two, rfl, h0, h1, k⟩ := h
  show W _ [.im one, .im two, .un, .un, .un, .un, .un, .un, .un, .un] _ _
  unfold t_l_sizes
  refine w_seq (w_asg (ev_div (ev_var rfl) ev_int (by decide) (by decide)) ?_)
  walk_at "nz"
  have hn : 0 ≤ one / 3 := by omega
  generalize one / 3 = number at hn ⊢
  refine w_seq (w_if (by walk_at "ev") (fun hb => ?_) (fun hb => w_next ?_))
  · walk_at "w"
    refine w_fr 3 rfl ?_
    walk_at "nz"
    walk_at "w"
    refine w_fr 3 rfl ?_
    walk_at "nz"
    refine w_ret (ev_ix (ev_var rfl) (by walk_at "ev") (by omega) (by show number % 12 < 12; omega)) ?_
    refine k _ (szB_ok ?_)
    have : ∀ i : Int, 0 ≤ i → i < 12 → szB (gt ([[2, 2, 1, 3], [7, 1, 1, 3], [5, 1, 1, 4], [4, 2, 1, 2], [3, 3, 1, 2], [8, 1, 1, 2]] ++ [[4, 1, 1, 2], [2, 2, 2, 2], [3, 1, 1, 4], [2, 2, 1, 2], [5, 1, 1, 2], [9, 1, 1, 2]]) i) = true := by
      intro i h0 h1
      have e : i = ((i.toNat : Nat) : Int) := by omega
      have h2 : i.toNat < 12 := by omega
      rw [e]
      generalize i.toNat = n at h2
      revert n
      decide
    exact this _ (by omega) (by omega)
  · refine w_seq (w_asg (ev_ix (ev_fr (xs := ([8, 12, 6, 23] : List Int)) (by walk_at "ev")) (by walk_at "ev") (by omega) (by show number % 4 < 4; omega)) ?_)
    walk_at "nz"
    have ht : ∃ top : Int, gt ([8, 12, 6, 23] : List Int) (number % 4) = top ∧ 6 ≤ top ∧ top ≤ 23 := by
      refine ⟨_, rfl, ?_⟩
      have e : number % 4 = (((number % 4).toNat : Nat) : Int) := by omega
      have h2 : (number % 4).toNat < 4 := by omega
      rw [e]
      generalize (number % 4).toNat = n at h2
      revert n
      decide
    obtain ⟨top, et, t1, t2⟩ := ht
    rw [et]
    refine w_seq (w_asg (ev_ix (ev_fr (xs := ([2, 1, 2, 3, 2, 4] : List Int)) (by walk_at "ev")) (ev_mod (ev_div (ev_var rfl) ev_int (by decide) (by decide)) ev_int (by decide)) (by omega) (by show number / 4 % 6 < 6; omega)) ?_)
    walk_at "nz"
    have hs : ∃ st : Int, gt ([2, 1, 2, 3, 2, 4] : List Int) (number / 4 % 6) = st ∧ 1 ≤ st ∧ st ≤ 4 := by
      refine ⟨_, rfl, ?_⟩
      have e : number / 4 % 6 = (((number / 4 % 6).toNat : Nat) : Int) := by omega
      have h2 : (number / 4 % 6).toNat < 6 := by omega
      rw [e]
      generalize (number / 4 % 6).toNat = n at h2
      revert n
      decide
    obtain ⟨st, es, s1, s2⟩ := hs
    rw [es]
    have hr : 1 ≤ top / st := (Int.le_ediv_iff_mul_le (by omega)).mpr (by omega)
    have hr2 : top / st ≤ 23 := Int.le_trans (Int.ediv_le_self _ (by omega)) t2
    refine w_seq (w_asg (ev_div (ev_var rfl) (ev_var rfl) (by omega) (by omega)) ?_)
    walk_at "nz"
    obtain ⟨r, er⟩ : ∃ r, r = top / st := ⟨_, rfl⟩
    rw [← er] at hr hr2 ⊢
    refine w_seq (w_asg (ev_add ev_int (ev_mod (ev_div (ev_var rfl) ev_int (by decide) (by decide)) (ev_var rfl) (by omega))) ?_)
    walk_at "nz"
    have a1 := Int.emod_nonneg (number / 24) (show r ≠ 0 by omega)
    have a2 := Int.emod_lt_of_pos (number / 24) (show 0 < r by omega)
    obtain ⟨a, ea⟩ : ∃ a, a = 1 + number / 24 % r := ⟨_, rfl⟩
    rw [← ea]
    obtain ⟨p1, p2, p3, p4⟩ := szOk_of (x := two) (y := two / 23) er s1 t2 (show 1 ≤ a by omega) (show a ≤ r by omega)
    have p5 : r / a ≤ 23 := Int.le_trans (Int.ediv_le_self _ (by omega)) hr2
    refine w_seq (w_asg (ev_add ev_int (ev_mod (ev_var rfl) (ev_div (ev_var rfl) (ev_var rfl) (by omega) (by omega)) (by omega))) ?_)
    walk_at "nz"
    have b1 := Int.emod_nonneg two (show r / a ≠ 0 by omega)
    have b2 := Int.emod_lt_of_pos two (show 0 < r / a by omega)
    obtain ⟨b, eb⟩ : ∃ b, b = 1 + two % (r / a) := ⟨_, rfl⟩
    rw [← eb] at p2 p3 p4 ⊢
    have p6 : a * b ≤ r := by
      have := (drawn (x := two) (show 1 ≤ a by omega) (show a ≤ r by omega)).2.2
      rw [← eb] at this
      exact this
    have p7 : 1 ≤ a * b := by
      have := Int.mul_le_mul_of_nonneg_right (show 1 ≤ a by omega) (show 0 ≤ b by omega)
      omega
    have p8 : r / (a * b) ≤ 23 := Int.le_trans (Int.ediv_le_self _ (by omega)) hr2
    refine w_seq (w_asg (ev_add ev_int (ev_mod (ev_div (ev_var rfl) ev_int (by decide) (by decide)) (ev_div (ev_var rfl) (ev_mul (ev_var rfl) (ev_var rfl) (cmulS (by omega) (by omega) (by omega) (by omega))) (by omega) (by omega)) (by omega))) ?_)
    walk_at "nz"
    refine w_ret (ev_fr (xs := ([a, b, 1 + two / 23 % (r / (a * b)), st] : List Int)) (by walk_at "ev")) (k _ p4)
end TB

/-! ### l_kind -/
namespace TB
open PySem L2
--use TbAb
noncomputable def T_l_kind : Tm := tm2 fun (l : List Int) (x : Int) ok _ => ∃ a b c d : Int, l = [a, b, c, d] ∧ 1 ≤ a ∧ 1 ≤ b ∧ 1 ≤ d ∧ ∀ k, KindOk a b d k → ok (.im k)
noncomputable def t_l_kind (Z : Zz) (X : WX) : TS :=
  (tSeq (tAsg (tLst (tCons (tC (.int 0)) tNil)) (gName 2))
  (tSeq (tIfS (tAnd (tTest (tOp (gEq Z.K) (tOp (gIx Z.K) (tVar 0) (tC (.int 0))) (tOp (gIx Z.K) (tVar 0) (tC (.int 1))))) (tTest (tOp (gEq Z.K) (tOp gMod (tOp (gIx Z.K) (tVar 0) (tC (.int 3))) (tC (.int 2))) (tC (.int 0)))))
  (tDrop (tBM Z.K "list" rAppend (tVar 2) (tCons (tC (.int 1)) tNil)))
  tNext)
  (tSeq (tIfS (tAnd (tTest (tOp (gEq Z.K) (tOp (gIx Z.K) (tVar 0) (tC (.int 0))) (tOp (gIx Z.K) (tVar 0) (tC (.int 1))))) (tTest (tOp (gEq Z.K) (tOp gMod (tOp (gIx Z.K) (tVar 0) (tC (.int 3))) (tC (.int 3))) (tC (.int 0)))))
  (tDrop (tBM Z.K "list" rAppend (tVar 2) (tCons (tC (.int 2)) tNil)))
  tNext)
  (tSeq (tIfS (tAnd (tTest (tOp (gEq Z.K) (tOp gMod (tOp (gIx Z.K) (tVar 0) (tC (.int 0))) (tOp (gIx Z.K) (tVar 0) (tC (.int 1)))) (tC (.int 0)))) (tAnd (tTest (tOp gGt (tOp (gIx Z.K) (tVar 0) (tC (.int 1))) (tC (.int 1)))) (tTest (tOp (gEq Z.K) (tOp gMod (tOp (gIx Z.K) (tVar 0) (tC (.int 3))) (tOp (gIx Z.K) (tVar 0) (tC (.int 1)))) (tC (.int 0))))))
  (tDrop (tBM Z.K "list" rAppend (tVar 2) (tCons (tC (.int 3)) tNil)))
  tNext)
  (tSeq (tIfS (tAnd (tTest (tOp (gEq Z.K) (tOp gMod (tOp (gIx Z.K) (tVar 0) (tC (.int 0))) (tC (.int 2))) (tC (.int 0)))) (tAnd (tTest (tOp (gEq Z.K) (tOp gMod (tOp (gIx Z.K) (tVar 0) (tC (.int 1))) (tC (.int 2))) (tC (.int 0)))) (tTest (tOp (gEq Z.K) (tOp gMod (tOp (gIx Z.K) (tVar 0) (tC (.int 3))) (tC (.int 2))) (tC (.int 0))))))
  (tDrop (tBM Z.K "list" rAppend (tVar 2) (tCons (tC (.int 4)) tNil)))
  tNext)
  (tRet (tOp (gIx Z.K) (tVar 2) (tOp gMod (tVar 1) (tCB (gLen Z.K) (tCons (tVar 2) tNil))))))))))
theorem w_l_kind (Z : Zz) (X : WX) (ss : List Sl) (ok : Sl → Prop) (er : Rf → Prop) (h : T_l_kind ss ok er) : WF Z X er (ss ++ List.replicate (3 - ss.length) .un) (t_l_kind Z X) ok := by
  obtain ⟨l, x, rfl, a, b, c, d, rfl, ha, hb, hd, k⟩ := h
  show W _ [.im [a, b, c, d], .im x, .un] _ _
  unfold t_l_kind
  refine w_seq (w_asg (s := .ol ([0] : List Int)) (by walk_at "ev") ?_)
  walk_at "nz"
  have step : ∀ (i : Int) (ks : List Int) (n : Nat), ks.length ≤ n → (∀ k ∈ ks, KindOk a b d k) → KindOk a b d i → ks ≠ [] → (∀ k ∈ ks ++ [i], KindOk a b d k) ∧ ks ++ [i] ≠ [] ∧ (ks ++ [i]).length ≤ n + 1 := fun i ks n hl h1 h2 h3 => by
    refine ⟨fun k hk => ?_, by simp, by simp; omega⟩
    rcases List.mem_append.mp hk with q | q
    · exact h1 k q
    · rw [show k = i by simpa using q]; exact h2
  refine w_mid (fun G => ∃ ks : List Int, G = [.im [a, b, c, d], .im x, .ol ks] ∧ (∀ k ∈ ks, KindOk a b d k) ∧ ks ≠ [] ∧ ks.length ≤ 2) (w_if (et_and (et_test (ev_eqI (ev_s0 rfl) (ev_s1 rfl))) fun _ => et_test (ev_eqI (ev_mod (ev_s3 rfl) ev_int (by decide)) ev_int)) (fun hk => ?_) (fun hk => ?_)) ?_
  · simp at hk
    exact w_app rfl ev_int (by simp) ⟨_, rfl, step 1 [0] 1 (by simp) (by simp [KindOk]) (.inr (.inl ⟨rfl, hk.1, hk.2⟩)) (by simp)⟩
  · exact w_next ⟨_, rfl, by simp [KindOk], by simp, by simp⟩
  rintro _ ⟨ks, rfl, h1, h2, h3⟩
  refine w_mid (fun G => ∃ ks : List Int, G = [.im [a, b, c, d], .im x, .ol ks] ∧ (∀ k ∈ ks, KindOk a b d k) ∧ ks ≠ [] ∧ ks.length ≤ 3) (w_if (et_and (et_test (ev_eqI (ev_s0 rfl) (ev_s1 rfl))) fun _ => et_test (ev_eqI (ev_mod (ev_s3 rfl) ev_int (by decide)) ev_int)) (fun hk => ?_) (fun hk => ?_)) ?_
  · simp at hk
    exact w_app rfl ev_int (by omega) ⟨_, rfl, step 2 ks 2 h3 h1 (.inr (.inr (.inl ⟨rfl, hk.1, hk.2⟩))) h2⟩
  · exact w_next ⟨_, rfl, h1, h2, by omega⟩
  clear h1 h2 h3 ks
  rintro _ ⟨ks, rfl, h1, h2, h3⟩
  refine w_mid (fun G => ∃ ks : List Int, G = [.im [a, b, c, d], .im x, .ol ks] ∧ (∀ k ∈ ks, KindOk a b d k) ∧ ks ≠ [] ∧ ks.length ≤ 4) (w_if (et_and (et_test (ev_eqI (ev_mod (ev_s0 rfl) (ev_s1 rfl) (by omega)) ev_int)) fun _ => et_and (et_test (ev_gt (ev_s1 rfl) ev_int)) fun _ => et_test (ev_eqI (ev_mod (ev_s3 rfl) (ev_s1 rfl) (by omega)) ev_int)) (fun hk => ?_) (fun hk => ?_)) ?_
  · simp at hk
    exact w_app rfl ev_int (by omega) ⟨_, rfl, step 3 ks 3 h3 h1 (.inr (.inr (.inr (.inl ⟨rfl, hk.1, hk.2.2⟩)))) h2⟩
  · exact w_next ⟨_, rfl, h1, h2, by omega⟩
  clear h1 h2 h3 ks
  rintro _ ⟨ks, rfl, h1, h2, h3⟩
  refine w_mid (fun G => ∃ ks : List Int, G = [.im [a, b, c, d], .im x, .ol ks] ∧ (∀ k ∈ ks, KindOk a b d k) ∧ ks ≠ [] ∧ ks.length ≤ 5) (w_if (et_and (et_test (ev_eqI (ev_mod (ev_s0 rfl) ev_int (by decide)) ev_int)) fun _ => et_and (et_test (ev_eqI (ev_mod (ev_s1 rfl) ev_int (by decide)) ev_int)) fun _ => et_test (ev_eqI (ev_mod (ev_s3 rfl) ev_int (by decide)) ev_int)) (fun hk => ?_) (fun hk => ?_)) ?_
  · simp at hk
    exact w_app rfl ev_int (by omega) ⟨_, rfl, step 4 ks 4 h3 h1 (.inr (.inr (.inr (.inr ⟨rfl, hk.1, hk.2.1, hk.2.2⟩)))) h2⟩
  · exact w_next ⟨_, rfl, h1, h2, by omega⟩
  clear h1 h2 h3 ks
  rintro _ ⟨ks, rfl, h1, h2, h3⟩
  have hl : 0 < ks.length := List.length_pos_iff.mpr h2
  have m0 := Int.emod_nonneg x (show (ks.length : Int) ≠ 0 by omega)
  have m1 := Int.emod_lt_of_pos x (show (0 : Int) < ks.length by omega)
  exact w_ret (ev_ixO rfl (ev_mod (ev_var rfl) (ev_lenO rfl) (by omega)) m0 m1) (k _ (h1 _ (gt_mem m0 m1)))
end TB

/-! ### l_unit -/
namespace TB
open PySem L2
--use TbAb
noncomputable def T_l_unit : Tm := tm3 fun (n s x : Int) ok _ => 1 ≤ n ∧ n ≤ 23 ∧ 1 ≤ s ∧ s ≤ 23 ∧ ∀ u, UnitOk n s u → ok (.im u)
theorem one_pow {n : Int} (s : Nat) : (1 % n) ^ s % n = 1 % n := by
  induction s with
  | zero => rw [Int.pow_zero]
  | succ s ih => rw [Int.pow_succ, Int.mul_emod, ih, Int.emod_emod, ← Int.mul_emod, Int.one_mul]
noncomputable def t_l_unit (Z : Zz) (X : WX) : TS :=
  (tSeq (tAsg (tLst tNil) (gName 3))
  (tSeq (tFor (iRng1 (tCons (tVar 0) tNil)) (gName 4)
  (tSeq (tAsg (tC (.int 1)) (gName 5))
  (tSeq (tFor (iRng1 (tCons (tVar 1) tNil)) (gName 6)
  (tAsg (tOp gMod (tOp gMul (tVar 5) (tVar 4)) (tVar 0)) (gName 5)))
  (tIfS (tTest (tOp (gEq Z.K) (tVar 5) (tOp gMod (tC (.int 1)) (tVar 0))))
  (tDrop (tBM Z.K "list" rAppend (tVar 3) (tCons (tVar 4) tNil)))
  tNext))))
  (tSeq (tIfS (tAnd (tTest (tOp gGt (tOp gMul (tVar 0) (tVar 1)) (tC (.int 16)))) (tTest (tOp gGt (tCB (gLen Z.K) (tCons (tVar 3) tNil)) (tC (.int 1)))))
  (tAsg (tSl (rSlL Z.K) (tVar 3) (tPart (tC (.int 1))) tNoPart) (gName 3))
  tNext)
  (tRet (tOp (gIx Z.K) (tVar 3) (tOp gMod (tVar 2) (tCB (gLen Z.K) (tCons (tVar 3) tNil))))))))
theorem w_l_unit (Z : Zz) (X : WX) (ss : List Sl) (ok : Sl → Prop) (er : Rf → Prop) (h : T_l_unit ss ok er) : WF Z X er (ss ++ List.replicate (7 - ss.length) .un) (t_l_unit Z X) ok := by
  obtain ⟨n, s, x, rfl, hn, hn2, hs, hs2, k⟩ := h
  show W _ [.im n, .im s, .im x, .un, .un, .un, .un] _ _
  unfold t_l_unit
  refine w_seq (w_asg (ev_nil (δ := Int)) ?_)
  walk_at "nz"
  refine w_seq (w_forR (n := n) (fun i G => ∃ (us : List Int) (s4 s5 s6 : Sl), G = [.im n, .im s, .im x, .ol us, s4, s5, s6] ∧ (∀ u ∈ us, UnitOk n s u) ∧ us.length ≤ i ∧ (1 % n < i → us ≠ [])) (ev_var rfl) (by omega) (by omega) ⟨[], _, _, _, rfl, by simp, by simp, fun h => ?_⟩ ?_ ?_)
  · have := Int.emod_nonneg 1 (show n ≠ 0 by omega)
    omega
  · rintro i G hi ⟨us, s4, s5, s6, rfl, h1, h2, h3⟩
    walk_at "nz"
    refine w_seq (w_asg ev_int ?_)
    walk_at "nz"
    refine w_seq (w_forR (n := s) (fun j G => ∃ (y : Int) (s6 : Sl), G = [.im n, .im s, .im x, .ol us, .im (i : Int), .im y, s6] ∧ 0 ≤ y ∧ y ≤ 23 ∧ y % n = (i : Int) ^ j % n ∧ (0 < j → y < n)) (ev_var rfl) (by omega) (by omega) ⟨1, _, rfl, by omega, by omega, by rw [Int.pow_zero], by omega⟩ ?_ ?_)
    · rintro j G hj ⟨y, s6, rfl, y0, y1, e, y2⟩
      walk_at "nz"
      have z0 := Int.emod_nonneg (y * i) (show n ≠ 0 by omega)
      have z1 := Int.emod_lt_of_pos (y * i) (show 0 < n by omega)
      refine w_asg (ev_mod (ev_mul (ev_var rfl) (ev_var rfl) (cmul23 y0 (by omega) (by omega) (by omega))) (ev_var rfl) (by omega)) ⟨_, _, rfl, z0, by omega, ?_, fun _ => z1⟩
      rw [Int.emod_emod, Int.pow_succ, Int.mul_emod, e, ← Int.mul_emod]
    · rintro G ⟨y, s6, rfl, y0, y1, e, y2⟩
      have y3 := y2 (by omega)
      rw [Int.emod_eq_of_lt y0 y3] at e
      refine w_if (et_test (ev_eqI (ev_var rfl) (ev_mod ev_int (ev_var rfl) (by omega)))) (fun hb => ?_) (fun hb => ?_)
      · simp at hb
        refine w_app rfl (ev_var rfl) (by omega) ⟨_, _, _, _, rfl, fun u hu => ?_, by simp; omega, fun _ => by simp⟩
        rcases List.mem_append.mp hu with q | q
        · exact h1 u q
        · rw [show u = i by simpa using q]
          exact ⟨by omega, hi, by rw [← e, hb]⟩
      · simp at hb
        refine w_next ⟨_, _, _, _, rfl, h1, by omega, fun h => ?_⟩
        by_cases q : 1 % n < (i : Int)
        · exact h3 q
        · have q2 : (i : Int) = 1 % n := by omega
          rw [q2, one_pow] at e
          exact absurd e hb
  · rintro G ⟨us, s4, s5, s6, rfl, h1, h2, h3⟩
    have hne := h3 (by have := Int.emod_lt_of_pos 1 (show 0 < n by omega); omega)
    have hl : 0 < us.length := List.length_pos_iff.mpr hne
    refine w_fr 3 rfl ?_
    walk_at "nz"
    refine w_mid (fun G => ∃ us : List Int, G = [.im n, .im s, .im x, .im us, s4, s5, s6] ∧ (∀ u ∈ us, UnitOk n s u) ∧ 0 < us.length) (w_if (et_and (et_test (ev_gt (ev_mul (ev_var rfl) (ev_var rfl) (cmul23 (by omega) (by omega) (by omega) (by omega))) ev_int)) fun _ => et_test (ev_gt (ev_len (ev_var rfl)) ev_int)) (fun hb => ?_) (fun hb => ?_)) ?_
    · simp at hb
      refine w_asg (s := .im (us.drop 1)) (ev_fr (ev_cutFrom (ev_var rfl) ev_int (by decide))) ⟨_, rfl, fun u hu => h1 u (List.mem_of_mem_drop hu), by rw [List.length_drop]; omega⟩
    · exact w_next ⟨_, rfl, h1, hl⟩
    · clear h1 h2 h3 hne hl
      rintro _ ⟨us, rfl, h1, hl⟩
      have m0 := Int.emod_nonneg x (show (us.length : Int) ≠ 0 by omega)
      have m1 := Int.emod_lt_of_pos x (show (0 : Int) < us.length by omega)
      exact w_ret (ev_ix (ev_var rfl) (ev_mod (ev_var rfl) (ev_len (ev_var rfl)) (by omega)) m0 m1) (k _ (h1 _ (gt_mem m0 m1)))
end TB

/-! ### l_turned -/
namespace TB
open PySem L2
--use TbAb
noncomputable def T_l_turned : Tm := tm4 fun (p : Int) (l : List Int) (k : Int) (us : List Int) ok _ => ∃ a b c d u v w : Int, l = [a, b, c, d] ∧ us = [u, v, w] ∧ 1 ≤ a ∧ 1 ≤ b ∧ 1 ≤ c ∧ a * b * c ≤ 23 ∧ In a u ∧ In b v ∧ In c w ∧ In (a * b * c) p ∧ ok (.im (tuF a b c u v w k p))
noncomputable def t_l_turned (Z : Zz) (X : WX) : TS :=
  (tSeq (tAsg (tOp gMod (tVar 0) (tOp (gIx Z.K) (tVar 1) (tC (.int 0)))) (gName 4))
  (tSeq (tAsg (tOp gMod (tOp gDiv (tVar 0) (tOp (gIx Z.K) (tVar 1) (tC (.int 0)))) (tOp (gIx Z.K) (tVar 1) (tC (.int 1)))) (gName 5))
  (tSeq (tAsg (tOp gMod (tOp gMul (tOp gDiv (tVar 0) (tOp gMul (tOp (gIx Z.K) (tVar 1) (tC (.int 0))) (tOp (gIx Z.K) (tVar 1) (tC (.int 1))))) (tOp (gIx Z.K) (tVar 3) (tC (.int 2)))) (tOp (gIx Z.K) (tVar 1) (tC (.int 2)))) (gName 6))
  (tSeq (tIfS (tTest (tOp (gEq Z.K) (tVar 2) (tC (.int 1))))
  (tPar 4 5 (tCons (tVar 5) (tCons (tVar 4) tNil)))
  (tIfS (tTest (tOp (gEq Z.K) (tVar 2) (tC (.int 2))))
  (tPar 4 5 (tCons (tOp gMod (tOp gMns (tC (.int 0)) (tVar 5)) (tOp (gIx Z.K) (tVar 1) (tC (.int 0)))) (tCons (tOp gMod (tOp gMns (tVar 4) (tVar 5)) (tOp (gIx Z.K) (tVar 1) (tC (.int 0)))) tNil)))
  (tIfS (tTest (tOp (gEq Z.K) (tVar 2) (tC (.int 3))))
  (tAsg (tOp gMod (tOp gAdd (tVar 5) (tVar 4)) (tOp (gIx Z.K) (tVar 1) (tC (.int 1)))) (gName 5))
  (tIfS (tTest (tOp (gEq Z.K) (tVar 2) (tC (.int 4))))
  (tAsg (tOp gMod (tOp gAdd (tVar 4) (tOp gMul (tOp gDiv (tOp (gIx Z.K) (tVar 1) (tC (.int 0))) (tC (.int 2))) (tVar 5))) (tOp (gIx Z.K) (tVar 1) (tC (.int 0)))) (gName 4))
  (tSeq (tAsg (tOp gMod (tOp gMul (tVar 4) (tOp (gIx Z.K) (tVar 3) (tC (.int 0)))) (tOp (gIx Z.K) (tVar 1) (tC (.int 0)))) (gName 4))
  (tAsg (tOp gMod (tOp gMul (tVar 5) (tOp (gIx Z.K) (tVar 3) (tC (.int 1)))) (tOp (gIx Z.K) (tVar 1) (tC (.int 1)))) (gName 5)))))))
  (tRet (tOp gAdd (tVar 4) (tOp gMul (tOp (gIx Z.K) (tVar 1) (tC (.int 0))) (tOp gAdd (tVar 5) (tOp gMul (tOp (gIx Z.K) (tVar 1) (tC (.int 1))) (tVar 6))))))))))
theorem w_l_turned (Z : Zz) (X : WX) (ss : List Sl) (ok : Sl → Prop) (er : Rf → Prop) (h : T_l_turned ss ok er) : WF Z X er (ss ++ List.replicate (7 - ss.length) .un) (t_l_turned Z X) ok := by
  obtain ⟨p, l, k, us, rfl, a, b, c, d, u, v, w, rfl, rfl, ha, hb, hc, hn, hu, hv, hw, hp, kk⟩ := h
  show W _ [.im p, .im [a, b, c, d], .im k, .im [u, v, w], .un, .un, .un] _ _
  unfold t_l_turned
  obtain ⟨a1, b1, c1, d1, e1, f1⟩ := bnd ha hb hc hn
  have m1 := md' ha p
  have m2 := md' hb (p / a)
  have m3 := md' hc (p / (a * b) * w)
  have hpd : 0 ≤ p / (a * b) ∧ p / (a * b) ≤ 23 := ⟨Int.ediv_nonneg hp.1 (by omega), Int.le_trans (Int.ediv_le_self _ hp.1) (by have := hp.2; omega)⟩
  have w0 := hw.1
  have w1 := hw.2
  have u0 := hu.1
  have u1 := hu.2
  have v0 := hv.1
  have v1 := hv.2
  refine w_seq (w_asg (ev_mod (ev_var rfl) (ev_s0 rfl) (by omega)) ?_)
  refine w_seq (w_asg (ev_mod (ev_div (ev_var rfl) (ev_s0 rfl) (by omega) (by omega)) (ev_s1 rfl) (by omega)) ?_)
  refine w_seq (w_asg (ev_mod (ev_mul (ev_div (ev_var rfl) (ev_mul (ev_s0 rfl) (ev_s1 rfl) (cmul23 (by omega) (by omega) (by omega) (by omega))) (by omega) (by omega)) (ev_u2 rfl) (cmul23 hpd.1 (by omega) w0 (by omega))) (ev_s2 rfl) (by omega)) ?_)
  walk_at "nz"
  unfold tuF at kk
  generalize p % a = x at *
  generalize p / a % b = y at *
  generalize p / (a * b) * w % c = z at *
  obtain ⟨x0, x1⟩ := m1
  obtain ⟨y0, y1⟩ := m2
  obtain ⟨z0, z1⟩ := m3
  have hyz : y + b * z ≤ 600 := by
    have : b * z ≤ 23 * 23 := Int.mul_le_mul b1 (by omega) (by omega) (by omega)
    omega
  have hyz0 : 0 ≤ b * z := Int.mul_nonneg (by omega) z0
  have hin : 0 ≤ (tuP a b u v k x y).2 ∧ (tuP a b u v k x y).2 ≤ 23 := by
    unfold tuP
    have q1 := md' hb (y * v)
    have q2 := md' ha (x - y)
    have q3 := md' hb (y + x)
    split
    · exact ⟨x0, by show x ≤ 23; omega⟩
    split
    · exact ⟨q2.1, by have := q2.2; show (x - y) % a ≤ 23; omega⟩
    split
    · exact ⟨q3.1, by have := q3.2; show (y + x) % b ≤ 23; omega⟩
    split
    · exact ⟨y0, by show y ≤ 23; omega⟩
    · exact ⟨q1.1, by have := q1.2; show (y * v) % b ≤ 23; omega⟩
  refine w_mid (fun G => G = [.im p, .im [a, b, c, d], .im k, .im [u, v, w], .im (tuP a b u v k x y).1, .im (tuP a b u v k x y).2, .im z]) ?_ ?_
  · unfold tuP
    refine w_if (et_test (ev_eqI (ev_var rfl) ev_int)) (fun hk => ?_) (fun hk => ?_)
    · simp at hk
      rw [if_pos hk]
      exact w_par (ev_var rfl) (ev_var rfl) rfl
    simp at hk
    rw [if_neg hk]
    refine w_if (et_test (ev_eqI (ev_var rfl) ev_int)) (fun hk => ?_) (fun hk => ?_)
    · simp at hk
      rw [if_pos hk]
      exact w_par (ev_mod (ev_sub ev_int (ev_var rfl)) (ev_s0 rfl) (by omega)) (ev_mod (ev_sub (ev_var rfl) (ev_var rfl)) (ev_s0 rfl) (by omega)) rfl
    simp at hk
    rw [if_neg hk]
    refine w_if (et_test (ev_eqI (ev_var rfl) ev_int)) (fun hk => ?_) (fun hk => ?_)
    · simp at hk
      rw [if_pos hk]
      exact w_asg (ev_mod (ev_add (ev_var rfl) (ev_var rfl)) (ev_s1 rfl) (by omega)) rfl
    simp at hk
    rw [if_neg hk]
    refine w_if (et_test (ev_eqI (ev_var rfl) ev_int)) (fun hk => ?_) (fun hk => ?_)
    · simp at hk
      rw [if_pos hk]
      exact w_asg (ev_mod (ev_add (ev_var rfl) (ev_mul (ev_div (ev_s0 rfl) ev_int (by decide) (by decide)) (ev_var rfl) (cmul23 (by omega) (by omega) y0 (by omega)))) (ev_s0 rfl) (by omega)) rfl
    simp at hk
    rw [if_neg hk]
    refine w_seq (w_asg (ev_mod (ev_mul (ev_var rfl) (ev_u0 rfl) (cmul23 x0 (by omega) u0 (by omega))) (ev_s0 rfl) (by omega)) ?_)
    exact w_asg (ev_mod (ev_mul (ev_var rfl) (ev_u1 rfl) (cmul23 y0 (by omega) v0 (by omega))) (ev_s1 rfl) (by omega)) rfl
  · rintro _ rfl
    generalize tuP a b u v k x y = q at *
    have q0 := hin.1
    have q1 := hin.2
    exact w_ret (ev_add (ev_var rfl) (ev_mul (ev_s0 rfl) (ev_add (ev_var rfl) (ev_mul (ev_s1 rfl) (ev_var rfl) (cmul23 (by omega) (by omega) z0 (by omega)))) (cmul23 (by omega) (by omega) (by omega) (by omega)))) kk
end TB

/-! ### l_sum -/
namespace TB
open PySem L2
--use TbAb
noncomputable def T_l_sum : Tm := tm3 fun (p q : Int) (l : List Int) ok _ => ∃ a b c d : Int, l = [a, b, c, d] ∧ 1 ≤ a ∧ 1 ≤ b ∧ 1 ≤ c ∧ a * b * c ≤ 23 ∧ In (a * b * c) p ∧ In (a * b * c) q ∧ ok (.im (suF a b c p q))
noncomputable def t_l_sum (Z : Zz) (X : WX) : TS :=
  (tSeq (tAsg (tOp gMul (tOp (gIx Z.K) (tVar 2) (tC (.int 0))) (tOp (gIx Z.K) (tVar 2) (tC (.int 1)))) (gName 3))
  (tSeq (tAsg (tOp gMod (tOp gAdd (tVar 0) (tVar 1)) (tOp (gIx Z.K) (tVar 2) (tC (.int 0)))) (gName 4))
  (tSeq (tAsg (tOp gMod (tOp gAdd (tOp gDiv (tVar 0) (tOp (gIx Z.K) (tVar 2) (tC (.int 0)))) (tOp gDiv (tVar 1) (tOp (gIx Z.K) (tVar 2) (tC (.int 0))))) (tOp (gIx Z.K) (tVar 2) (tC (.int 1)))) (gName 5))
  (tSeq (tAsg (tOp gMod (tOp gAdd (tOp gDiv (tVar 0) (tVar 3)) (tOp gDiv (tVar 1) (tVar 3))) (tOp (gIx Z.K) (tVar 2) (tC (.int 2)))) (gName 6))
  (tRet (tOp gAdd (tOp gAdd (tVar 4) (tOp gMul (tOp (gIx Z.K) (tVar 2) (tC (.int 0))) (tVar 5))) (tOp gMul (tVar 3) (tVar 6))))))))
theorem w_l_sum (Z : Zz) (X : WX) (ss : List Sl) (ok : Sl → Prop) (er : Rf → Prop) (h : T_l_sum ss ok er) : WF Z X er (ss ++ List.replicate (7 - ss.length) .un) (t_l_sum Z X) ok := by
  obtain ⟨p, q, l, rfl, a, b, c, d, rfl, ha, hb, hc, hn, hp, hq, k⟩ := h
  show W _ [.im p, .im q, .im [a, b, c, d], .un, .un, .un, .un] _ _
  unfold t_l_sum
  obtain ⟨a1, b1, c1, d1, e1, f1⟩ := bnd ha hb hc hn
  have m1 := md' ha (p + q)
  have m2 := md' hb (p / a + q / a)
  have m3 := md' hc (p / (a * b) + q / (a * b))
  refine w_seq (w_asg (ev_mul (ev_s0 rfl) (ev_s1 rfl) (cmul23 (by omega) (by omega) (by omega) (by omega))) ?_)
  refine w_seq (w_asg (ev_mod (ev_add (ev_var rfl) (ev_var rfl)) (ev_s0 rfl) (by omega)) ?_)
  refine w_seq (w_asg (ev_mod (ev_add (ev_div (ev_var rfl) (ev_s0 rfl) (by omega) (by omega)) (ev_div (ev_var rfl) (ev_s0 rfl) (by omega) (by omega))) (ev_s1 rfl) (by omega)) ?_)
  refine w_seq (w_asg (ev_mod (ev_add (ev_div (ev_var rfl) (ev_var rfl) (by omega) (by omega)) (ev_div (ev_var rfl) (ev_var rfl) (by omega) (by omega))) (ev_s2 rfl) (by omega)) ?_)
  exact w_ret (ev_add (ev_add (ev_var rfl) (ev_mul (ev_s0 rfl) (ev_var rfl) (cmul23 (by omega) (by omega) m2.1 (by have := m2.2; omega)))) (ev_mul (ev_var rfl) (ev_var rfl) (cmul23 (by omega) (by omega) m3.1 (by have := m3.2; omega)))) k
end TB

/-! ### l_rows -/
namespace TB
open PySem L2
--use TbAb
noncomputable def T_l_rows : Tm := tm3 fun (l tu : List Int) (e : Int) ok _ => ∃ (a b c d : Int) (ph : Int → Int), l = [a, b, c, d] ∧ 1 ≤ a ∧ 1 ≤ b ∧ 1 ≤ c ∧ 1 ≤ d ∧ a * b * c * d ≤ 23 ∧ tu = (irange (a * b * c)).map ph ∧ (∀ x, In (a * b * c) x → In (a * b * c) (ph x)) ∧ In (a * b * c) e ∧ ok (.im (tab (a * b * c * d) (xop (a * b * c) d (suF a b c) ph e)))
theorem irange_at {n : Int} {f : Int → Int} {g : Int} (h : 0 ≤ n) (e : g = f n) : (irange n).map f ++ [g] = (irange (n + 1)).map f := by rw [irange_suc h, List.map_append, e]; rfl
theorem irange_atT {n : Int} {f : Int → List Int} {g : List Int} (h : 0 ≤ n) (e : g = f n) : (irange n).map f ++ [g] = (irange (n + 1)).map f := by rw [irange_suc h, List.map_append, e]; rfl
noncomputable def t_l_rows (Z : Zz) (X : WX) : TS :=
  (tSeq (tAsg (tCB (gLen Z.K) (tCons (tVar 1) tNil)) (gName 3))
  (tSeq (tAsg (tLst tNil) (gName 4))
  (tSeq (tAsg (tLstRg (tRg1 (tVar 3))) (gName 5))
  (tSeq (tFor (iRng1 (tCons (tOp (gIx Z.K) (tVar 0) (tC (.int 3))) tNil)) (gName 6)
  (tSeq (tFor (iRng1 (tCons (tVar 3) tNil)) (gName 7)
  (tSeq (tAsg (tLst tNil) (gName 8))
  (tSeq (tFor (iRng1 (tCons (tOp (gIx Z.K) (tVar 0) (tC (.int 3))) tNil)) (gName 9)
  (tFor (iRng1 (tCons (tVar 3) tNil)) (gName 10)
  (tSeq (tAsg (tCallSD (spOf Z T_l_sum) [] (WE X) (tCons (tVar 7) (tCons (tOp (gIx Z.K) (tVar 5) (tVar 10)) (tCons (tVar 0) tNil)))) (gName 11))
  (tSeq (tIfS (tTest (tOp gGe (tOp gAdd (tVar 6) (tVar 9)) (tOp (gIx Z.K) (tVar 0) (tC (.int 3)))))
  (tAsg (tCallSD (spOf Z T_l_sum) [] (WE X) (tCons (tVar 11) (tCons (tVar 2) (tCons (tVar 0) tNil)))) (gName 11))
  tNext)
  (tDrop (tBM Z.K "list" rAppend (tVar 8) (tCons (tOp gAdd (tVar 11) (tOp gMul (tVar 3) (tOp gMod (tOp gAdd (tVar 6) (tVar 9)) (tOp (gIx Z.K) (tVar 0) (tC (.int 3)))))) tNil)))))))
  (tDrop (tBM Z.K "list" rAppend (tVar 4) (tCons (tVar 8) tNil))))))
  (tAsg (tLc (iList Z.K (tVar 5)) (gName 11) tYes (tOp (gIx Z.K) (tVar 1) (tVar 11)) [11]) (gName 5))))
  (tRet (tVar 4))))))
theorem w_l_rows (Z : Zz) (X : WX) (ss : List Sl) (ok : Sl → Prop) (er : Rf → Prop) (h : T_l_rows ss ok er) : WF Z X er (ss ++ List.replicate (12 - ss.length) .un) (t_l_rows Z X) ok := by
  obtain ⟨l, tu, e, rfl, a, b, c, d, ph, rfl, ha, hb, hc, hd, hN, rfl, hph, he, k⟩ := h
  show W _ [.im [a, b, c, d], .im ((irange (a * b * c)).map ph), .im e, .un, .un, .un, .un, .un, .un, .un, .un, .un] _ _
  unfold t_l_rows
  have hab : 1 ≤ a * b := by
    have h1 : a * 1 ≤ a * b := Int.mul_le_mul_of_nonneg_left hb (by omega)
    omega
  obtain ⟨n1, _, d1, nd1, nd2, _⟩ := bnd (a := a * b * c) (b := d) (c := 1) (by
    have h1 : a * b * 1 ≤ a * b * c := Int.mul_le_mul_of_nonneg_left hc (by omega)
    omega) hd (by decide) (by omega)
  have hn1 : 1 ≤ a * b * c := by
    have h1 : a * b * 1 ≤ a * b * c := Int.mul_le_mul_of_nonneg_left hc (by omega)
    omega
  have hd23 : d ≤ 23 := by
    have h1 : 1 * d ≤ a * b * c * d := Int.mul_le_mul_of_nonneg_right hn1 (by omega)
    omega
  have hG := suF_G ha hb hc
  obtain ⟨n, en⟩ : ∃ n, n = a * b * c := ⟨_, rfl⟩
  rw [← en] at n1 nd1 nd2 hn1 hN hph he k hG ⊢
  have hcall : ∀ p q : Int, In n p → In n q → T_l_sum [.im p, .im q, .im [a, b, c, d]] (fun s => s = .im (suF a b c p q)) (fun _ => False) := fun p q hp hq => ⟨p, q, _, rfl, a, b, c, d, rfl, ha, hb, hc, by rw [← en]; exact n1, by rw [← en]; exact hp, by rw [← en]; exact hq, rfl⟩
  have itn : ∀ i q, In n q → In n (itr ph i q) := fun i q hq => by
    induction i with
    | zero => exact hq
    | succ i ih => exact hph _ ih
  have cl : ∀ p q, In n (suF a b c p q) := hG.cl
  generalize suF a b c = f at *
  have hlen : (((irange n).map ph).length : Int) = n := by rw [List.length_map, irange_len]; omega
  have hlenT : ∀ g : Int → Int, (((irange n).map g).length : Int) = n := fun g => by rw [List.length_map, irange_len]; omega
  refine w_seq (w_asg (s := .im n) (ev_to (ev_len (ev_var rfl)) hlen) ?_)
  refine w_seq (w_asg (ev_nil (δ := List Int)) ?_)
  refine w_seq (w_asg (s := .im (irange n)) (ev_fr (ev_listRg (ev_var rfl) (by omega) (by omega))) ?_)
  walk_at "nz"
  generalize hop : xop n d f ph e = op at k
  refine w_seq (w_forR (n := d) (fun i G => ∃ s6 s7 s8 s9 s10 s11 : Sl, G = [.im [a, b, c, d], .im ((irange n).map ph), .im e, .im n, .ol ((irange (n * i)).map fun A => (irange (n * d)).map (op A)), .im ((irange n).map (itr ph i)), s6, s7, s8, s9, s10, s11]) (ev_s3 rfl) (by omega) (by omega) ⟨.un, .un, .un, .un, .un, .un, ?_⟩ ?_ ?_)
  · rw [show n * ((0 : Nat) : Int) = 0 by simp, irange_0]
    have : (irange n).map (itr ph 0) = irange n := List.map_id _
    rw [this]
    rfl
  · rintro i G hi ⟨s6, s7, s8, s9, s10, s11, rfl⟩
    walk_at "nz"
    have hni : 0 ≤ n * (i : Int) := Int.mul_nonneg (by omega) (by omega)
    have hni2 : n * (i : Int) ≤ 600 := by
      have : n * (i : Int) ≤ 23 * 23 := Int.mul_le_mul n1 (by omega) (by omega) (by omega)
      omega
    refine w_seq (w_forR (n := n) (fun p G => ∃ s7 s8 s9 s10 s11 : Sl, G = [.im [a, b, c, d], .im ((irange n).map ph), .im e, .im n, .ol ((irange (n * i + p)).map fun A => (irange (n * d)).map (op A)), .im ((irange n).map (itr ph i)), .im (i : Int), s7, s8, s9, s10, s11]) (ev_var rfl) (by omega) (by omega) ⟨s7, s8, s9, s10, s11, by rw [show n * (i : Int) + ((0 : Nat) : Int) = n * i by simp]⟩ ?_ ?_)
    · rintro p G hp ⟨s7, s8, s9, s10, s11, rfl⟩
      walk_at "nz"
      have hP : In n (p : Int) := ⟨by omega, hp⟩
      refine w_seq (w_asg (ev_nil (δ := Int)) ?_)
      walk_at "nz"
      refine w_seq (w_forR (n := d) (fun j G => ∃ s9 s10 s11 : Sl, G = [.im [a, b, c, d], .im ((irange n).map ph), .im e, .im n, .ol ((irange (n * i + p)).map fun A => (irange (n * d)).map (op A)), .im ((irange n).map (itr ph i)), .im (i : Int), .im (p : Int), .ol ((irange (n * j)).map (op (n * i + p))), s9, s10, s11]) (ev_s3 rfl) (by omega) (by omega) ⟨s9, s10, s11, by rw [show n * ((0 : Nat) : Int) = 0 by simp, irange_0]; rfl⟩ ?_ ?_)
      · rintro j G hj ⟨s9, s10, s11, rfl⟩
        walk_at "nz"
        have hnj : 0 ≤ n * (j : Int) := Int.mul_nonneg (by omega) (by omega)
        have hnj2 : n * (j : Int) ≤ 600 := by
          have : n * (j : Int) ≤ 23 * 23 := Int.mul_le_mul n1 (by omega) (by omega) (by omega)
          omega
        refine w_forR (n := n) (fun q G => ∃ s10 s11 : Sl, G = [.im [a, b, c, d], .im ((irange n).map ph), .im e, .im n, .ol ((irange (n * i + p)).map fun A => (irange (n * d)).map (op A)), .im ((irange n).map (itr ph i)), .im (i : Int), .im (p : Int), .ol ((irange (n * j + q)).map (op (n * i + p))), .im (j : Int), s10, s11]) (ev_var rfl) (by omega) (by omega) ⟨s10, s11, by rw [show n * (j : Int) + ((0 : Nat) : Int) = n * j by simp]⟩ ?_ ?_
        · rintro q G hq ⟨s10, s11, rfl⟩
          walk_at "nz"
          have hQ : In n (q : Int) := ⟨by omega, hq⟩
          have hI := itn i q hQ
          have eg : gt ((irange n).map (itr ph i)) (q : Int) = itr ph i q := gt_map hQ.1 hQ.2
          refine w_seq (w_asg (s := .im (f p (itr ph i q))) (ev_callN (ea_cons (ev_var rfl) (ea_cons (ev_to (ev_ix (ev_var rfl) (ev_var rfl) hQ.1 (by rw [hlenT]; exact hQ.2)) eg) (ea_cons (ev_var rfl) ea_nil))) ?_) ?_)
          · obtain ⟨p', q', l', e1, r⟩ := hcall p _ hP hI
            exact ⟨p', q', l', e1, r⟩
          walk_at "nz"
          have m0 := Int.emod_nonneg ((i : Int) + j) (show d ≠ 0 by omega)
          have m1 := Int.emod_lt_of_pos ((i : Int) + j) (show 0 < d by omega)
          have eo : op (n * i + p) (n * j + q) = (if d ≤ (i : Int) + j then f (f p (itr ph i q)) e else f p (itr ph i q)) + n * (((i : Int) + j) % d) := by
            rw [← hop]
            unfold xop
            have a1 := dm (n := n) (k := (i : Int)) hP
            have a2 := dm (n := n) (k := (j : Int)) hQ
            rw [Int.add_comm (n * (i : Int)), Int.add_comm (n * (j : Int)), a1.1, a1.2, a2.1, a2.2]
            rfl
          refine w_mid (fun G => ∃ v : Int, v = (if d ≤ (i : Int) + j then f (f p (itr ph i q)) e else f p (itr ph i q)) ∧ G = [.im [a, b, c, d], .im ((irange n).map ph), .im e, .im n, .ol ((irange (n * i + p)).map fun A => (irange (n * d)).map (op A)), .im ((irange n).map (itr ph i)), .im (i : Int), .im (p : Int), .ol ((irange (n * j + q)).map (op (n * i + p))), .im (j : Int), .im (q : Int), .im v]) (w_if (et_test (ev_ge (ev_add (ev_var rfl) (ev_var rfl)) (ev_s3 rfl))) (fun hb => ?_) (fun hb => ?_)) ?_
          · simp at hb
            refine w_asg (s := .im (f (f p (itr ph i q)) e)) (ev_callN (ea_cons (ev_var rfl) (ea_cons (ev_var rfl) (ea_cons (ev_var rfl) ea_nil))) ?_) ⟨_, by rw [if_pos hb], rfl⟩
            obtain ⟨p', q', l', e1, r⟩ := hcall _ _ (cl p (itr ph i q)) he
            exact ⟨p', q', l', e1, r⟩
          · simp at hb
            exact w_next ⟨_, by rw [if_neg (by omega)], rfl⟩
          · rintro _ ⟨v, ev, rfl⟩
            refine w_app rfl (ev_add (ev_var rfl) (ev_mul (ev_var rfl) (ev_mod (ev_add (ev_var rfl) (ev_var rfl)) (ev_s3 rfl) (by omega)) (cmul23 (by omega) (by omega) m0 (by omega)))) (by rw [List.length_map, irange_len]; omega) ⟨.im (q : Int), .im v, ?_⟩
            walk_at "nz"
            rw [irange_at (by omega) (by rw [eo, ev]), show n * (j : Int) + ((q + 1 : Nat) : Int) = n * j + q + 1 by omega]
        · rintro G ⟨s10, s11, rfl⟩
          refine ⟨.im (j : Int), s10, s11, ?_⟩
          rw [show n * (j : Int) + ((n.toNat : Nat) : Int) = n * ((j + 1 : Nat) : Int) by rw [show ((j + 1 : Nat) : Int) = j + 1 by omega, Int.mul_add]; omega]
      · rintro G ⟨s9, s10, s11, rfl⟩
        rw [show ((d.toNat : Nat) : Int) = d by omega]
        refine w_fr 8 rfl (w_app rfl (ev_var rfl) (by rw [List.length_map, irange_len]; omega) ⟨.im (p : Int), .im ((irange (n * d)).map (op (n * i + p))), s9, s10, s11, ?_⟩)
        walk_at "nz"
        rw [irange_atT (by omega) rfl, show n * (i : Int) + ((p + 1 : Nat) : Int) = n * i + p + 1 by omega]
    · rintro G ⟨s7, s8, s9, s10, s11, rfl⟩
      refine w_un 11 ?_
      walk_at "nz"
      refine w_asg (s := .im ((irange n).map (itr ph (i + 1)))) ?hh ⟨.im (i : Int), s7, s8, s9, s10, .un, ?_⟩
      case hh =>
        refine ev_fr (ev_is (s := Sl.ol (α := Int) (((irange n).map (itr ph i)).map fun x => ph x)) (ev_mapL (xs := (irange n).map (itr ph i)) (fun x => ph x) (ev_var rfl) ?_ ?_ ?_ ?_) ?_)
        · have := hlenT (itr ph i); omega
        · simp
        · exact ⟨.inl rfl, trivial⟩
        · intro x hx
          obtain ⟨y, hy, rfl⟩ := List.mem_map.mp hx
          have hI := itn i y (mem_irange.mp hy)
          exact ev_to (ev_ix (ev_var rfl) (ev_var rfl) hI.1 (by rw [hlen]; exact hI.2)) (gt_map hI.1 hI.2)
        · rw [List.map_map]
          rfl
      · rw [show n * (i : Int) + ((n.toNat : Nat) : Int) = n * ((i + 1 : Nat) : Int) by rw [show ((i + 1 : Nat) : Int) = i + 1 by omega, Int.mul_add]; omega]
        rfl
  · rintro G ⟨s6, s7, s8, s9, s10, s11, rfl⟩
    refine w_fr 4 rfl (w_ret (ev_var rfl) ?_)
    rw [show ((d.toNat : Nat) : Int) = d by omega]
    exact k
end TB

/-! ### l_names -/
namespace TB
open PySem L2
--use TbAb
noncomputable def T_l_names : Tm := tm2 fun (n x : Int) ok _ => 0 ≤ n ∧ n ≤ 1000 ∧ 0 ≤ x ∧ x ≤ 2147483647 ∧ ∀ nm : List Int, nm.Perm (irange n) → ok (.im nm)
noncomputable def t_l_names (Z : Zz) (X : WX) : TS :=
  (tSeq (tAsg (tLst tNil) (gName 2))
  (tSeq (tFor (iRng1 (tCons (tVar 0) tNil)) (gName 3)
  (tSeq (tAsg (tOp gMod (tOp gAdd (tOp gAdd (tOp gAdd (tOp gMul (tVar 1) (tVar 1)) (tOp gMul (tC (.int 48271)) (tVar 1))) (tVar 3)) (tC (.int 11))) (tC (.int 2147483647))) (gName 1))
  (tDrop (tBM Z.K "list" gInsert (tVar 2) (tCons (tOp gMod (tVar 1) (tOp gAdd (tVar 3) (tC (.int 1)))) (tCons (tVar 3) tNil))))))
  (tRet (tVar 2))))
theorem w_l_names (Z : Zz) (X : WX) (ss : List Sl) (ok : Sl → Prop) (er : Rf → Prop) (h : T_l_names ss ok er) : WF Z X er (ss ++ List.replicate (4 - ss.length) .un) (t_l_names Z X) ok := by
  obtain ⟨n, x, rfl, h0, h1, hx0, hx1, k⟩ := h
  show W _ [.im n, .im x, .un, .un] _ _
  unfold t_l_names
  refine w_seq (w_asg (ev_nil (δ := Int)) ?_)
  walk_at "nz"
  refine w_seq (w_forR (n := n) (fun i G => ∃ (x : Int) (nm : List Int) (s3 : Sl), G = [.im n, .im x, .ol nm, s3] ∧ 0 ≤ x ∧ x ≤ 2147483647 ∧ nm.Perm (irange (i : Int))) (ev_var rfl) (by omega) (by omega) ⟨x, [], .un, rfl, hx0, hx1, .nil⟩ ?_ ?_)
  · rintro i G hi ⟨x, nm, s3, rfl, hx0, hx1, hp⟩
    walk_at "nz"
    have hl : nm.length = i := by rw [hp.length_eq, irange_len]; omega
    refine w_seq (w_asg (ev_mod (ev_add (ev_add (ev_add (ev_mul (ev_var rfl) (ev_var rfl) (cmulS (by omega) (by omega) (by omega) (by omega))) (ev_mul ev_int (ev_var rfl) (cmulS (by omega) (by omega) (by omega) (by omega)))) (ev_var rfl)) ev_int) ev_int (by decide)) ?_)
    walk_at "nz"
    generalize hy : (x * x + 48271 * x + (i : Int) + 11) % 2147483647 = y
    have hy0 : 0 ≤ y := by rw [← hy]; exact Int.emod_nonneg _ (by decide)
    have hy1 : y < 2147483647 := by rw [← hy]; exact Int.emod_lt_of_pos _ (by decide)
    have z0 := Int.emod_nonneg y (show (i : Int) + 1 ≠ 0 by omega)
    have z1 := Int.emod_lt_of_pos y (show 0 < (i : Int) + 1 by omega)
    refine w_ins rfl (ev_mod (ev_var rfl) (ev_add (ev_var rfl) ev_int) (by omega)) (ev_var rfl) z0 (by omega) (by omega) ⟨y, _, _, rfl, hy0, by omega, ?_⟩
    rw [show ((i + 1 : Nat) : Int) = (i : Int) + 1 by omega, irange_suc (by omega)]
    generalize (y % ((i : Int) + 1)).toNat = m
    rw [List.append_assoc]
    refine .trans (List.perm_middle (a := (i : Int))) (.trans (.cons _ (by show (List.take m nm ++ List.drop m nm).Perm nm; rw [List.take_append_drop])) (.trans (.cons _ hp) (List.perm_append_comm (l₁ := [(i : Int)]))))
  · rintro G ⟨x, nm, s3, rfl, _, _, hp⟩
    refine w_fr 2 rfl (w_ret (ev_var rfl) (k _ ?_))
    rw [show ((n.toNat : Nat) : Int) = n by omega] at hp
    exact hp
end TB

/-! ### l_group -/
namespace TB
open PySem L2
--use TbAb
noncomputable def T_l_group : Tm := tm2 fun (l : Scr) (x : Int) ok _ => 0 ≤ x ∧ ∀ t e, GTbl t e → ok (.o2 t)
theorem nodup_irange (n : Int) : (irange n).Nodup := by
  unfold irange List.Nodup
  rw [List.pairwise_map]
  exact (List.nodup_range).imp (fun h e => h (by omega))
structure Nms (N : Int) (nm : List Int) : Prop where
  len : (nm.length : Int) = N
  inn : ∀ a, In N a → In N (gt nm a)
  inj : ∀ a b, In N a → In N b → gt nm a = gt nm b → a = b
  sj : ∀ b, In N b → ∃ a, In N a ∧ gt nm a = b
theorem nms_of {N : Int} {nm : List Int} (h0 : 0 ≤ N) (h : nm.Perm (irange N)) : Nms N nm := by
  have hl : (nm.length : Int) = N := by rw [h.length_eq, irange_len]; omega
  have nd : nm.Nodup := h.nodup_iff.mpr (nodup_irange N)
  refine ⟨hl, fun a ha => mem_irange.mp (h.mem_iff.mp (gt_mem ha.1 (by rw [hl]; exact ha.2))), fun a b ha hb e => ?_, fun b hb => ?_⟩
  · obtain ⟨a0, a1⟩ := ha
    obtain ⟨b0, b1⟩ := hb
    have i1 : a.toNat < nm.length := by omega
    have i2 : b.toNat < nm.length := by omega
    have e1 := gt_nat (xs := nm) i1
    have e2 := gt_nat (xs := nm) i2
    rw [show ((a.toNat : Nat) : Int) = a by omega] at e1
    rw [show ((b.toNat : Nat) : Int) = b by omega] at e2
    rw [e1, e2] at e
    have := (List.getElem_inj nd).mp e
    omega
  · have hm := h.mem_iff.mpr (mem_irange.mpr hb)
    obtain ⟨i, hi, rfl⟩ := List.getElem_of_mem hm
    exact ⟨(i : Int), ⟨by omega, by omega⟩, gt_nat hi⟩
theorem gt_set {α : Type} [Rp α] {xs : List α} {i j : Int} {y : α} (hi : 0 ≤ i) (hj : 0 ≤ j) (hj2 : j < xs.length) : gt (xs.set i.toNat y) j = if i = j then y else gt xs j := by
  have h1 : j.toNat < xs.length := by omega
  unfold gt
  rw [getD_eq (by rw [List.length_set]; exact h1), getD_eq h1, List.getElem_set]
  by_cases e : i = j
  · subst e; simp
  · rw [if_neg (by omega), if_neg e]
structure TbSt (N : Int) (nm : List Int) (op : Int → Int → Int) (A B : Int) (tb : Tbl) : Prop where
  len : (tb.length : Int) = N
  row : ∀ r ∈ tb, (r.length : Int) = N
  en : ∀ x y, In N x → In N y → (x < A ∨ (x = A ∧ y < B)) → en tb (gt nm x) (gt nm y) = gt nm (op x y)
theorem tbSt_step {N : Int} {nm : List Int} {op : Int → Int → Int} {A B : Int} {tb : Tbl} (hn : Nms N nm) (h : TbSt N nm op A B tb) (hA : In N A) (hB : In N B) :
    TbSt N nm op A (B + 1) (tb.set (gt nm A).toNat ((gt tb (gt nm A)).set (gt nm B).toNat (gt nm (op A B)))) := by
  have nA := hn.inn A hA
  have nB := hn.inn B hB
  have rA : ((gt tb (gt nm A)).length : Int) = N := h.row _ (gt_mem nA.1 (by rw [h.len]; exact nA.2))
  refine ⟨by rw [List.length_set]; exact h.len, fun r hr => ?_, fun x y hx hy hq => ?_⟩
  · rcases List.mem_or_eq_of_mem_set hr with q | q
    · exact h.row r q
    · rw [q, List.length_set]; exact rA
  · have nx := hn.inn x hx
    have ny := hn.inn y hy
    unfold TB.en
    rw [gt_set nA.1 nx.1 (by rw [h.len]; exact nx.2)]
    by_cases e : gt nm A = gt nm x
    · have ex := hn.inj _ _ hA hx e
      subst ex
      rw [if_pos rfl, gt_set nB.1 ny.1 (by rw [rA]; exact ny.2)]
      by_cases e2 : gt nm B = gt nm y
      · have ey := hn.inj _ _ hB hy e2
        subst ey
        rw [if_pos rfl]
      · rw [if_neg e2]
        refine h.en _ _ hx hy ?_
        have : y ≠ B := fun z => e2 (by rw [z])
        omega
    · rw [if_neg e]
      refine h.en _ _ hx hy ?_
      have : x ≠ A := fun z => e (by rw [z])
      omega
theorem tab_len {N : Int} {op : Int → Int → Int} (h : 0 ≤ N) : ((tab N op).length : Int) = N := by unfold tab; rw [List.length_map, irange_len]; omega
theorem tab_row {N : Int} {op : Int → Int → Int} (h : 0 ≤ N) : ∀ r ∈ tab N op, (r.length : Int) = N := fun r hr => by
  obtain ⟨a, _, rfl⟩ := List.mem_map.mp hr
  rw [List.length_map, irange_len]; omega
theorem tab_get {N : Int} {op : Int → Int → Int} {i : Nat} (hi : i < (tab N op).length) : (tab N op)[i] = (irange N).map (op i) := by
  have h2 : i < ((irange N).map fun A => (irange N).map (op A)).length := hi
  show ((irange N).map fun A => (irange N).map (op A))[i]'h2 = _
  rw [List.getElem_map, irange_get]
theorem row_get {N : Int} {f : Int → Int} {i : Nat} (hi : i < ((irange N).map f).length) : ((irange N).map f)[i] = f i := by
  rw [List.getElem_map, irange_get]
noncomputable def t_l_group (Z : Zz) (X : WX) : TS :=
  (tSeq (tAsg (tCallSD (spOf Z T_l_cell) [] (WE X) (tCons (tVar 0) (tCons (tVar 1) tNil))) (gName 2))
  (tSeq (tAsg (tCallSD (spOf Z T_l_cell) [] (WE X) (tCons (tVar 0) (tCons (tOp gAdd (tVar 1) (tC (.int 1))) tNil))) (gName 3))
  (tSeq (tAsg (tCallSD (spOf Z T_l_sizes) [] (WE X) (tCons (tVar 2) (tCons (tVar 3) tNil))) (gName 4))
  (tSeq (tAsg (tOp gMod (tOp gMul (tOp gMul (tOp gAdd (tVar 3) (tC (.int 11))) (tOp gAdd (tVar 3) (tC (.int 29)))) (tC (.int 48271))) (tC (.int 2147483629))) (gName 5))
  (tSeq (tAsg (tCallSD (spOf Z T_l_kind) [] (WE X) (tCons (tVar 4) (tCons (tVar 5) tNil))) (gName 6))
  (tSeq (tAsg (tLst tNil) (gName 7))
  (tSeq (tFor (iRng1 (tCons (tC (.int 3)) tNil)) (gName 8)
  (tDrop (tBM Z.K "list" rAppend (tVar 7) (tCons (tCallSD (spOf Z T_l_unit) [] (WE X) (tCons (tOp (gIx Z.K) (tVar 4) (tVar 8)) (tCons (tOp (gIx Z.K) (tVar 4) (tC (.int 3))) (tCons (tOp gDiv (tVar 5) (tOp (gIx Z.K) (tLst (tCons (tC (.int 12)) (tCons (tC (.int 276)) (tCons (tC (.int 6348)) tNil)))) (tVar 8))) tNil)))) tNil))))
  (tSeq (tAsg (tOp gMul (tOp gMul (tOp (gIx Z.K) (tVar 4) (tC (.int 0))) (tOp (gIx Z.K) (tVar 4) (tC (.int 1)))) (tOp (gIx Z.K) (tVar 4) (tC (.int 2)))) (gName 9))
  (tSeq (tAsg (tLc (iRng1 (tCons (tVar 9) tNil)) (gName 19) tYes (tCall (spOf Z T_l_turned) [] E0 (tCons (tVar 19) (tCons (tVar 4) (tCons (tVar 6) (tCons (tVar 7) tNil))))) [19]) (gName 10))
  (tSeq (tAsg (tOp gMod (tOp gMod (tOp gMul (tOp gMul (tOp gAdd (tVar 2) (tC (.int 5))) (tOp gAdd (tVar 2) (tC (.int 17)))) (tC (.int 69621))) (tC (.int 2147483587))) (tVar 9)) (gName 11))
  (tSeq (tIfS (tTest (tOp (gNe Z.K) (tOp (gIx Z.K) (tVar 10) (tVar 11)) (tVar 11)))
  (tAsg (tC (.int 0)) (gName 11))
  tNext)
  (tSeq (tAsg (tCallSD (spOf Z T_l_rows) [] (WE X) (tCons (tVar 4) (tCons (tVar 10) (tCons (tVar 11) tNil)))) (gName 12))
  (tSeq (tAsg (tCallSD (spOf Z T_l_names) [] (WE X) (tCons (tCB (gLen Z.K) (tCons (tVar 12) tNil)) (tCons (tCallSD (spOf Z T_l_cell) [] (WE X) (tCons (tVar 0) (tCons (tOp gAdd (tVar 1) (tC (.int 2))) tNil))) tNil))) (gName 13))
  (tSeq (tAsg (tLc (iList Z.K (tVar 12)) (gName 16) tYes (tCB (gList Z.K) (tCons (tVar 16) tNil)) [16]) (gName 14))
  (tSeq (tFor (iEnum Z.K (tCons (tVar 12) tNil)) (gTup Z.K 2 (gCons (gName 15) (gCons (gName 16) gNil)))
  (tFor (iEnum Z.K (tCons (tVar 16) tNil)) (gTup Z.K 2 (gCons (gName 17) (gCons (gName 18) gNil)))
  (tAsg (tOp (gIx Z.K) (tVar 13) (tVar 18)) (gSub (tOp (gIx Z.K) (tVar 14) (tOp (gIx Z.K) (tVar 13) (tVar 15))) (tOp (gIx Z.K) (tVar 13) (tVar 17)) gSet))))
  (tRet (tVar 14)))))))))))))))))
theorem w_l_group (Z : Zz) (X : WX) (ss : List Sl) (ok : Sl → Prop) (er : Rf → Prop) (h : T_l_group ss ok er) : WF Z X er (ss ++ List.replicate (20 - ss.length) .un) (t_l_group Z X) ok := by
  obtain ⟨l, x, rfl, hx, k⟩ := h
  show W _ [.im l, .im x, .un, .un, .un, .un, .un, .un, .un, .un, .un, .un, .un, .un, .un, .un, .un, .un, .un, .un] _ _
  unfold t_l_group
  have cell : ∀ {Γ : List Sl} {ta tb : TE} {i : Int}, Ev ⟨Z, X, fun r _ => er r⟩ Γ ta (.im l) → Ev ⟨Z, X, fun r _ => er r⟩ Γ tb (.im i) → 0 ≤ i → Ev ⟨Z, X, fun r _ => er r⟩ Γ (tCallSD (spOf Z T_l_cell) [] (WE X) (tCons ta (tCons tb tNil))) (.im (cellOf l i)) := fun h1 h2 h3 => ev_callN (c := ⟨Z, X, fun r _ => er r⟩) (ea_cons h1 (ea_cons h2 ea_nil)) ⟨_, _, rfl, h3, rfl⟩
  refine w_seq (w_asg (cell (ev_var rfl) (ev_var rfl) hx) ?_)
  refine w_seq (w_asg (cell (ev_var rfl) (ev_add (ev_var rfl) ev_int) (by omega)) ?_)
  walk_at "nz"
  have b2 := cellOf_bd l x
  have b3 := cellOf_bd l (x + 1)
  have b4 := cellOf_bd l (x + 2)
  generalize cellOf l x = x2 at *
  generalize cellOf l (x + 1) = x3 at *
  refine w_seq (w_asgS (S := fun s => ∃ sz : List Int, s = .im sz ∧ SzOk sz) (es_call (ea_cons (ev_var rfl) (ea_cons (ev_var rfl) ea_nil)) ⟨_, _, rfl, b2.1, b3.1, fun sz hs => ⟨sz, rfl, hs⟩⟩) ?_)
  rintro _ ⟨_, rfl, a, b, c, d, rfl, ha, hb, hc, hd, hN⟩
  walk_at "nz"
  have bigm : ∀ p q : Int, 0 ≤ p → p ≤ 2147483700 → 0 ≤ q → q ≤ 2147483700 → 0 ≤ p * q ∧ p * q ≤ 2147483700 * 2147483700 := fun p q h0 h1 h2 h3 => ⟨Int.mul_nonneg h0 h2, Int.mul_le_mul h1 h3 h2 (by omega)⟩
  have big : ∀ p q z : Int, 0 ≤ p → p ≤ 2147483700 → 0 ≤ q → q ≤ 2147483700 → 0 ≤ z → z ≤ 100000 → CMulW (p * q) z := fun p q z h0 h1 h2 h3 h4 h5 => by
    have := bigm p q h0 h1 h2 h3
    generalize p * q = m at *
    exact wide_mul (a := 64) (b := 64) (by omega) (by omega) (by decide) (by decide) (by decide)
  refine w_seq (w_asg (ev_mod (ev_mul (ev_mul (ev_add (ev_var rfl) ev_int) (ev_add (ev_var rfl) ev_int) (cmulS (by omega) (by omega) (by omega) (by omega))) ev_int (big _ _ _ (by omega) (by omega) (by omega) (by omega) (by omega) (by omega))) ev_int (by decide)) ?_)
  walk_at "nz"
  generalize (x3 + 11) * (x3 + 29) * 48271 % 2147483629 = y5
  refine w_seq (w_asgS (S := fun s => ∃ kd : Int, s = .im kd ∧ KindOk a b d kd) (es_call (ea_cons (ev_var rfl) (ea_cons (ev_var rfl) ea_nil)) ⟨_, _, rfl, a, b, c, d, rfl, ha, hb, hd, fun kd hk => ⟨kd, rfl, hk⟩⟩) ?_)
  rintro _ ⟨kd, rfl, hkd⟩
  walk_at "nz"
  have hn1 : 1 ≤ a * b * c := by
    have h1 : a * 1 ≤ a * b := Int.mul_le_mul_of_nonneg_left hb (by omega)
    have h2 : a * b * 1 ≤ a * b * c := Int.mul_le_mul_of_nonneg_left hc (by omega)
    omega
  have hn : a * b * c ≤ 23 := by
    have h2 : a * b * c * 1 ≤ a * b * c * d := Int.mul_le_mul_of_nonneg_left hd (by omega)
    omega
  have hd23 : d ≤ 23 := by
    have h2 : 1 * d ≤ a * b * c * d := Int.mul_le_mul_of_nonneg_right hn1 (by omega)
    omega
  obtain ⟨a1, b1, c1, ab0, ab1, _⟩ := bnd ha hb hc hn
  refine w_seq (w_asg (ev_nil (δ := Int)) ?_)
  walk_at "nz"
  refine w_seq (w_forR (n := 3) (fun i G => ∃ (us : List Int) (s8 : Sl), G = [.im l, .im x, .im x2, .im x3, .im [a, b, c, d], .im y5, .im kd, .ol us, s8, .un, .un, .un, .un, .un, .un, .un, .un, .un, .un, .un] ∧ us.length = i ∧ ∀ j : Int, 0 ≤ j → j < i → UnitOk (gt [a, b, c, d] j) d (gt us j)) ev_int (by decide) (by decide) ⟨[], .un, rfl, rfl, fun j h0 h1 => by omega⟩ ?_ ?_)
  · rintro i G hi ⟨us, s8, rfl, hl, hu⟩
    walk_at "nz"
    have hg : ∀ i : Int, 0 ≤ i → i < 3 → (1 ≤ gt [a, b, c, d] i ∧ gt [a, b, c, d] i ≤ 23) ∧ (0 < gt ([12, 276, 6348] : List Int) i ∧ gt ([12, 276, 6348] : List Int) i < 1073741824) := fun i h0 h1 => by
      rcases (show i = 0 ∨ i = 1 ∨ i = 2 by omega) with rfl | rfl | rfl
      · exact ⟨⟨ha, a1⟩, by decide⟩
      · exact ⟨⟨hb, b1⟩, by decide⟩
      · exact ⟨⟨hc, c1⟩, by decide⟩
    obtain ⟨⟨g1, g2⟩, g3, g4⟩ := hg i (by omega) hi
    refine w_appS rfl (S := fun s => ∃ u : Int, s = .im u ∧ UnitOk (gt [a, b, c, d] (i : Int)) d u) (es_call (ss := [.im (gt [a, b, c, d] (i : Int)), .im d, .im (y5 / gt ([12, 276, 6348] : List Int) (i : Int))]) (ea_cons (ev_ix (ev_var rfl) (ev_var rfl) (by omega) (by simp; omega)) (ea_cons (ev_s3 rfl) (ea_cons (ev_div (ev_var rfl) (ev_ix (ev_fr (xs := ([12, 276, 6348] : List Int)) (by walk_at "ev")) (ev_var rfl) (by omega) (by simp; omega)) g3 g4) ea_nil))) ⟨_, _, _, rfl, g1, g2, hd, hd23, fun u hu => ⟨u, rfl, hu⟩⟩) (by omega) ?_
    rintro _ ⟨u, rfl, hU⟩
    refine ⟨u, rfl, _, _, rfl, by simp; omega, fun j h0 h1 => ?_⟩
    by_cases hj : j < (i : Int)
    · have e1 : gt (us ++ [u]) j = gt us j := by
        unfold gt
        rw [getD_eq (by simp; omega), getD_eq (by omega), List.getElem_append_left (by omega)]
      rw [e1]
      exact hu j h0 hj
    · have e2 : j = (i : Int) := by omega
      subst e2
      have e1 : gt (us ++ [u]) (i : Int) = u := by
        rw [gt_nat (by simp; omega), List.getElem_append_right (by omega)]
        simp
      rw [e1]
      exact hU
  rintro G ⟨us, s8, rfl, hl, hu⟩
  obtain ⟨u, v, w, rfl⟩ : ∃ u v w, us = [u, v, w] := by
    match us, hl with
    | [u, v, w], _ => exact ⟨u, v, w, rfl⟩
  have hu0 : UnitOk a d u := hu 0 (by decide) (by decide)
  have hv0 : UnitOk b d v := hu 1 (by decide) (by decide)
  have hw0 : UnitOk c d w := hu 2 (by decide) (by decide)
  have TO : TurnOk a b c d u v w kd := ⟨ha, hb, hc, hd, hkd, hu0.2.2, hv0.2.2, hw0.2.2⟩
  refine w_fr 7 rfl ?_
  walk_at "nz"
  refine w_seq (w_asg (ev_mul (ev_mul (ev_s0 rfl) (ev_s1 rfl) (cmul23 (by omega) (by omega) (by omega) (by omega))) (ev_s2 rfl) (cmul23 (by omega) (by omega) (by omega) (by omega))) ?_)
  walk_at "nz"
  refine w_seq (w_asg (s := .im ((irange (a * b * c)).map (tuF a b c u v w kd))) ?hh ?_)
  case hh =>
    refine ev_fr (ev_mapR (n := a * b * c) (tuF a b c u v w kd) (ev_var rfl) (by omega) (by omega) (by simp) ⟨.inl rfl, trivial⟩ ?_)
    intro p h0 h1
    exact ev_callN0 (ea_cons (ev_var rfl) (ea_cons (ev_var rfl) (ea_cons (ev_var rfl) (ea_cons (ev_var rfl) ea_nil)))) ⟨_, _, _, _, rfl, a, b, c, d, u, v, w, rfl, rfl, ha, hb, hc, hn, ⟨hu0.1, hu0.2.1⟩, ⟨hv0.1, hv0.2.1⟩, ⟨hw0.1, hw0.2.1⟩, ⟨h0, h1⟩, rfl⟩
  walk_at "nz"
  refine w_seq (w_asg (ev_mod (ev_mod (ev_mul (ev_mul (ev_add (ev_var rfl) ev_int) (ev_add (ev_var rfl) ev_int) (cmulS (by omega) (by omega) (by omega) (by omega))) ev_int (big _ _ _ (by omega) (by omega) (by omega) (by omega) (by omega) (by omega))) ev_int (by decide)) (ev_var rfl) (by omega)) ?_)
  walk_at "nz"
  have hE := md' hn1 ((x2 + 5) * (x2 + 17) * 69621 % 2147483587)
  generalize (x2 + 5) * (x2 + 17) * 69621 % 2147483587 % (a * b * c) = e0 at hE ⊢
  have hlenT : (((irange (a * b * c)).map (tuF a b c u v w kd)).length : Int) = a * b * c := by rw [List.length_map, irange_len]; omega
  have eg : gt ((irange (a * b * c)).map (tuF a b c u v w kd)) e0 = tuF a b c u v w kd e0 := gt_map hE.1 hE.2
  refine w_mid (fun G => ∃ e : Int, In (a * b * c) e ∧ tuF a b c u v w kd e = e ∧ G = [.im l, .im x, .im x2, .im x3, .im [a, b, c, d], .im y5, .im kd, .im [u, v, w], s8, .im (a * b * c), .im ((irange (a * b * c)).map (tuF a b c u v w kd)), .im e, .un, .un, .un, .un, .un, .un, .un, .un]) (w_if (et_test (ev_neI (ev_to (ev_ix (ev_var rfl) (ev_var rfl) hE.1 (by rw [hlenT]; exact hE.2)) eg) (ev_var rfl))) (fun hb => ?_) (fun hb => ?_)) ?_
  · exact w_asg ev_int ⟨0, ⟨by omega, by omega⟩, tuF_z TO, rfl⟩
  · simp at hb
    exact w_next ⟨e0, hE, hb, rfl⟩
  rintro _ ⟨e, he, hes, rfl⟩
  have hT := tu_T TO he hes
  have hG := ext_G (suF_G ha hb hc) hT
  refine w_seq (w_asg (s := .im (tab (a * b * c * d) (xop (a * b * c) d (suF a b c) (tuF a b c u v w kd) e))) (ev_callN (ea_cons (ev_var rfl) (ea_cons (ev_var rfl) (ea_cons (ev_var rfl) ea_nil))) ⟨_, _, _, rfl, a, b, c, d, tuF a b c u v w kd, rfl, ha, hb, hc, hd, hN, rfl, fun y _ => tuF_in TO y, he, rfl⟩) ?_)
  walk_at "nz"
  have hN1 : 1 ≤ a * b * c * d := by
    have h2 : a * b * c * 1 ≤ a * b * c * d := Int.mul_le_mul_of_nonneg_left hd (by omega)
    omega
  generalize xop (a * b * c) d (suF a b c) (tuF a b c u v w kd) e = op at hG ⊢
  generalize a * b * c * d = N at hG hN1 hN ⊢
  have tl := tab_len (op := op) (show 0 ≤ N by omega)
  have tr := tab_row (op := op) (show 0 ≤ N by omega)
  refine w_seq (w_asgS (S := fun s => ∃ nm : List Int, s = .im nm ∧ nm.Perm (irange N)) (es_call (ss := [.im N, .im (cellOf l (x + 2))]) (ea_cons (ev_to (ev_len (ev_var rfl)) tl) (ea_cons (cell (ev_var rfl) (ev_add (ev_var rfl) ev_int) (by omega)) ea_nil)) ⟨_, _, rfl, by omega, by omega, b4.1, by omega, fun nm hp => ⟨nm, rfl, hp⟩⟩) ?_)
  rintro _ ⟨nm, rfl, hp⟩
  have hnm := nms_of (by omega) hp
  walk_at "nz"
  refine w_seq (w_asg (s := .o2 (tab N op)) (ev_copyT2 (ev_var rfl) (by omega) ⟨.inl rfl, trivial⟩ fun _ => rfl) ?_)
  walk_at "nz"
  refine w_seq (w_forE (xs := tab N op) (fun A G => ∃ (tb : Tbl) (s15 s16 s17 s18 : Sl), G = [.im l, .im x, .im x2, .im x3, .im [a, b, c, d], .im y5, .im kd, .im [u, v, w], s8, .im (a * b * c), .im ((irange (a * b * c)).map (tuF a b c u v w kd)), .im e, .im (tab N op), .im nm, .o2 tb, s15, s16, s17, s18, .un] ∧ TbSt N nm op A 0 tb) (ev_var rfl) ⟨_, .un, .un, .un, .un, rfl, tl, tr, fun x y hx hy h => by have := hx.1; have := hy.1; omega⟩ ?_ ?_)
  · rintro A G hA ⟨tb, s15, s16, s17, s18, rfl, hst⟩
    have hA' : In N (A : Int) := ⟨by omega, by omega⟩
    have erow := tab_get hA
    rw [erow]
    walk_at "nz"
    refine w_forE (xs := (irange N).map (op A)) (fun B G => ∃ (tb : Tbl) (s17 s18 : Sl), G = [.im l, .im x, .im x2, .im x3, .im [a, b, c, d], .im y5, .im kd, .im [u, v, w], s8, .im (a * b * c), .im ((irange (a * b * c)).map (tuF a b c u v w kd)), .im e, .im (tab N op), .im nm, .o2 tb, .im (A : Int), .im ((irange N).map (op A)), s17, s18, .un] ∧ TbSt N nm op A B tb) (ev_var rfl) ⟨tb, s17, s18, rfl, hst⟩ ?_ ?_
    · rintro B G hB ⟨tb, s17, s18, rfl, hst⟩
      have hlr : (((irange N).map (op A)).length : Int) = N := by rw [List.length_map, irange_len]; omega
      have hB' : In N (B : Int) := ⟨by omega, by omega⟩
      rw [row_get hB]
      walk_at "nz"
      have hop := hG.cl _ _ hA' hB'
      have nA := hnm.inn _ hA'
      have nB := hnm.inn _ hB'
      have rA : ((gt tb (gt nm A)).length : Int) = N := hst.row _ (gt_mem nA.1 (by rw [hst.len]; exact nA.2))
      refine w_put2 rfl (ev_ix (ev_var rfl) (ev_var rfl) hop.1 (by rw [hnm.len]; exact hop.2)) (ep_ix (ep_var rfl) (ep_var rfl) hA'.1 (by rw [hnm.len]; exact hA'.2)) (ep_ix (ep_var rfl) (ep_var rfl) hB'.1 (by rw [hnm.len]; exact hB'.2)) nA.1 (by rw [hst.len]; exact nA.2) nB.1 (by rw [rA]; exact nB.2) ⟨_, _, _, rfl, ?_⟩
      rw [show ((B + 1 : Nat) : Int) = (B : Int) + 1 by omega]
      exact tbSt_step hnm hst hA' hB'
    · rintro G ⟨tb, s17, s18, rfl, hst⟩
      refine ⟨tb, _, _, _, _, rfl, hst.len, hst.row, fun x y hx hy h => hst.en x y hx hy ?_⟩
      have hlr : (((irange N).map (op A)).length : Int) = N := by rw [List.length_map, irange_len]; omega
      have := hy.2
      have := hy.1
      omega
  · rintro G ⟨tb, s15, s16, s17, s18, rfl, hst⟩
    refine w_retO val_o2 rfl (k _ (gt nm 0) (tbl_of hG (gt nm) (by omega) hN hnm.inn hnm.sj hst.len (fun r hr => ?_) fun x y hx hy => hst.en x y hx hy (.inl ?_)))
    · have := hst.row r hr
      have := hst.len
      omega
    · rw [tl]; exact hx.2
end TB

/-! ### l_raw -/
namespace TB
open PySem L2
--use TbDuw
noncomputable def T_l_raw : Tm := tm2 fun (l : Scr) (n : Int) ok _ => 1 ≤ n ∧ n ≤ 4 ∧ ∀ t : Tbl, TabN n t → ok (.o2 t)
noncomputable def t_l_raw (Z : Zz) (X : WX) : TS :=
  (tSeq (tAsg (tLst tNil) (gName 2))
  (tSeq (tFor (iRng1 (tCons (tVar 1) tNil)) (gName 3)
  (tDrop (tBM Z.K "list" rAppend (tVar 2) (tCons (tLc (iRng1 (tCons (tVar 1) tNil)) (gName 4) tYes (tOp gMod (tCall (spOf Z T_l_cell) [] E0 (tCons (tVar 0) (tCons (tOp gAdd (tOp gAdd (tC (.int 2)) (tOp gMul (tVar 3) (tVar 1))) (tVar 4)) tNil))) (tVar 1)) [4]) tNil))))
  (tRet (tVar 2))))
theorem w_l_raw (Z : Zz) (X : WX) (ss : List Sl) (ok : Sl → Prop) (er : Rf → Prop) (h : T_l_raw ss ok er) : WF Z X er (ss ++ List.replicate (5 - ss.length) .un) (t_l_raw Z X) ok := by
  obtain ⟨l, n, rfl, n1, n2, k⟩ := h
  show W _ [.im l, .im n, .un, .un, .un] _ _
  unfold t_l_raw
  refine w_seq (w_asg (s := .o2 ([] : Tbl)) ev_nil2 ?_)
  walk_at "nz"
  refine w_seq (w_forR (n := n) (fun i Gs => ∃ (t : Tbl) (s3 : Sl), Gs = [.im l, .im n, .o2 t, s3, .un] ∧ t.length = i ∧ ∀ r ∈ t, (r.length : Int) = n ∧ ∀ x ∈ r, 0 ≤ x ∧ x < n) (ev_var rfl) (by omega) (by omega) ⟨[], _, rfl, rfl, by simp⟩ ?_ ?_)
  · rintro i Gs hi ⟨t, s3, rfl, tl, hr⟩
    walk_at "nz"
    refine w_app2T (i := 2) (xs := (irange n).map fun b => cellOf l (2 + (i : Int) * n + b) % n) rfl ?hh (by omega) ⟨_, _, rfl, by rw [List.length_append, tl]; rfl, fun r hr' => ?_⟩
    case hh =>
      refine ev_mapR (n := n) (fun b => cellOf l (2 + (i : Int) * n + b) % n) (ev_var rfl) (by omega) (by omega) (by simp) ⟨.inl rfl, trivial⟩ fun b b0 b1 => ?_
      have p0 : 0 ≤ (i : Int) * n := Int.mul_nonneg (by omega) (by omega)
      exact ev_mod (ev_callN0 (ea_cons (ev_var rfl) (ea_cons (ev_add (ev_add ev_int (ev_mul (ev_var rfl) (ev_var rfl) (cmulS (by omega) (by omega) (by omega) (by omega)))) (ev_var rfl)) ea_nil)) ⟨_, _, rfl, by omega, rfl⟩) (ev_var rfl) (by omega)
    rcases List.mem_append.mp hr' with q | q
    · exact hr r q
    · rw [List.mem_singleton.mp q]
      refine ⟨by rw [List.length_map, irange_len]; omega, fun x hx => ?_⟩
      obtain ⟨b, _, rfl⟩ := List.mem_map.mp hx
      exact ⟨Int.emod_nonneg _ (by omega), Int.emod_lt_of_pos _ (by omega)⟩
  · rintro Gs ⟨t, s3, rfl, tl, hr⟩
    exact w_retO val_o2 rfl (k t ⟨by omega, fun r h => (hr r h).1, fun r h => (hr r h).2⟩)
end TB

/-! ### l_with_unit -/
namespace TB
open PySem L2
--use TbDuw
noncomputable def T_l_with_unit : Tm := fun ss ok er => ∃ (t : Tbl) (u : Int), ss = [.o2 t, .im u] ∧ ∃ n, 1 ≤ n ∧ n ≤ 23 ∧ TabN n t ∧ 0 ≤ u ∧ u < n ∧ ∀ t' : Tbl, TabN n t' → ok (.o2 t')
noncomputable def t_l_with_unit (Z : Zz) (X : WX) : TS :=
  (tSeq (tFor (iRng1 (tCons (tCB (gLen Z.K) (tCons (tVar 0) tNil)) tNil)) (gName 2)
  (tSeq (tAsg (tVar 2) (gSub (tOp (gIx Z.K) (tVar 0) (tVar 1)) (tVar 2) gSet))
  (tAsg (tVar 2) (gSub (tOp (gIx Z.K) (tVar 0) (tVar 2)) (tVar 1) gSet))))
  (tRet (tVar 0)))
theorem w_l_with_unit (Z : Zz) (X : WX) (ss : List Sl) (ok : Sl → Prop) (er : Rf → Prop) (h : T_l_with_unit ss ok er) : WF Z X er (ss ++ List.replicate (3 - ss.length) .un) (t_l_with_unit Z X) ok := by
  obtain ⟨t, u, rfl, n, n1, n2, ht, u0, u1, k⟩ := h
  show W _ [.o2 t, .im u, .un] _ _
  unfold t_l_with_unit
  refine w_seq (w_forR (n := n) (fun i Gs => ∃ (t : Tbl) (s2 : Sl), Gs = [.o2 t, .im u, s2] ∧ TabN n t) (ev_to (ev_lenO2 rfl) ht.len) (by omega) (by omega) ⟨t, _, rfl, ht⟩ ?_ ?_)
  · rintro i Gs hi ⟨t, s2, rfl, ht⟩
    walk_at "nz"
    have l1 := ht.len
    have r1 := ht.row _ (gt_mem (xs := t) u0 (by omega))
    refine w_seq (w_put2 (k := 0) (y := (i : Int)) (i := u) (j := (i : Int)) rfl (ev_var rfl) (ep_var rfl) (ep_var rfl) u0 (by omega) (by omega) (by omega) ?_)
    walk_at "nz"
    have ht2 := ht.put u0 u1 (show 0 ≤ (i : Int) by omega) hi (show 0 ≤ (i : Int) by omega) hi
    generalize t.set u.toNat ((gt t u).set (i : Int).toNat (i : Int)) = t2 at ht2
    have l2 := ht2.len
    have r2 := ht2.row _ (gt_mem (xs := t2) (i := (i : Int)) (by omega) (by omega))
    exact w_put2 (k := 0) (y := (i : Int)) (i := (i : Int)) (j := u) rfl (ev_var rfl) (ep_var rfl) (ep_var rfl) (by omega) (by omega) u0 (by omega) ⟨_, _, rfl, ht2.put (show 0 ≤ (i : Int) by omega) hi u0 u1 (show 0 ≤ (i : Int) by omega) hi⟩
  · rintro Gs ⟨t, s2, rfl, ht⟩
    exact w_retO val_o2 rfl (k t ht)
end TB

/-! TbCls: plain law: classes. -/
namespace TB
open PySem L2
section
variable {t : Tbl} {e : Int}
theorem bk_l (h : GTbl t e) {a : Int} (ha : InT t a) : en t a (bkf t e a) = e := (bk_first h ha).is.1
theorem bk_one (h : GTbl t e) {a b : Int} (ha : InT t a) (hb : InT t b) (q : en t a b = e) : bkf t e a = b := h.canL ha (bk_in h ha) hb ((bk_l h ha).trans q.symm)
end
end TB

/-! TbPart: plain law: parts, least parts, sides, ways out. -/
namespace TB
open PySem L2
/-- a rising part -/
structure PartL (t : Tbl) (e : Int) (P : List Int) : Prop where
  inc : Inc P
  pt : Part t e P
/-- what look_at_part asks -/
structure IsPart (t : Tbl) (P : List Int) : Prop where
  ne : P ≠ []
  inc : Inc P
  inn : ∀ x ∈ P, InT t x
  mul : ∀ x ∈ P, ∀ y ∈ P, en t x y ∈ P
section
variable {t : Tbl} {e : Int}
theorem IsPart.one (h : GTbl t e) {P : List Int} (p : IsPart t P) : e ∈ P := by
  obtain ⟨a, ha⟩ := List.exists_mem_of_ne_nil P p.ne
  have key : ∀ k, 0 < k → pw t e a k ∈ P := fun k => by
    induction k with
    | zero => intro z; omega
    | succ k ih =>
      intro _
      by_cases c : k = 0
      · subst c
        show en t e a ∈ P
        rw [h.u1 (p.inn a ha)]
        exact ha
      · exact p.mul _ (ih (by omega)) _ ha
  have := key t.length h.sz.1
  rw [pw_len h (p.inn a ha)] at this
  exact this
theorem PartL.bk (h : GTbl t e) {P : List Int} (p : PartL t e P) {x : Int} (hx : x ∈ P) : bkf t e x ∈ P := by
  obtain ⟨y, hy, q, _⟩ := p.pt.bk x hx
  rw [bk_one h (p.pt.inn x hx) (p.pt.inn y hy) q]
  exact hy
theorem PartL.len {P : List Int} (p : PartL t e P) : P.length ≤ t.length := by
  have := nodup_le (B := irange t.length) p.pt.nd fun x hx => mem_irange.mpr (p.pt.inn x hx)
  rw [irange_len] at this
  omega
/-! ### least parts -/
/-! ### things told apart by lists -/
noncomputable def kinN (F : Int → List Int) : Nat → List (List Int)
  | 0 => []
  | i + 1 => if (i : Int) ∈ (kinN F i).flatten then kinN F i else kinN F i ++ [F (i : Int)]
/-! ### sides -/
noncomputable def sid (t : Tbl) (P : List Int) (x : Int) : List Int := isort (P.map fun h => gt (gt t x) h)
/-! ### ways out -/
theorem irange_cut {n : Int} {i : Int} (h0 : 0 ≤ i) (h1 : i < n) : ∃ r, irange n = irange i ++ i :: r := by
  refine ⟨(irange n).drop (i.toNat + 1), ?_⟩
  have hl : i.toNat < (irange n).length := by rw [irange_len]; omega
  have e1 : (irange n).take i.toNat = irange i := by
    refine List.ext_getElem (by simp [irange_len]; omega) fun k a b => ?_
    rw [List.getElem_take, irange_get, irange_get]
  have e2 : (irange n)[i.toNat] = i := by rw [irange_get]; omega
  conv => lhs; rw [← List.take_append_drop i.toNat (irange n), e1, List.drop_eq_getElem_cons hl, e2]
end
end TB

/-! TbIn: plain law: a part's own group, the group of a steady part's sides. -/
namespace TB
open PySem L2
/-- a thing's place in a list -/
noncomputable def ix : List Int → Int → Nat
  | [], _ => 0
  | x :: r, y => if x = y then 0 else ix r y + 1
theorem gt_mapL {α β : Type} [Rp α] [Rp β] {l : List α} {f : α → β} {i : Int} (h0 : 0 ≤ i) (h1 : i < l.length) : gt (l.map f) i = f (gt l i) := by
  have h2 : i.toNat < l.length := by omega
  have e : ((i.toNat : Nat) : Int) = i := by omega
  rw [← e, gt_nat (by rw [List.length_map]; exact h2), gt_nat h2, List.getElem_map]
/-! ### the image of a group -/
/-! ### a part's own group -/
section
variable {t : Tbl} {e : Int} {P : List Int}
/-! ### sides' numbers -/
noncomputable abbrev sds (t : Tbl) (P : List Int) : List (List Int) := kinN (sid t P) t.length
noncomputable def hm (t : Tbl) (P : List Int) (x : Int) : Nat := (sds t P).findIdx fun l => decide (x ∈ l)
/-! ### steady parts -/
noncomputable def St (t : Tbl) (e : Int) (P : List Int) : Prop := ∀ o, InT t o → ∀ x ∈ P, cj t e o x ∈ P
theorem filt_one {n m : Int} (h0 : 0 ≤ m) (h1 : m < n) : (irange n).filter (fun k => decide (m = k)) = [m] := by
  obtain ⟨r, er⟩ := irange_cut h0 h1
  have nd := nodup_irange' n
  rw [er] at nd ⊢
  rw [List.nodup_append] at nd
  have e1 : (irange m).filter (fun k => decide (m = k)) = [] := by
    rw [List.filter_eq_nil_iff]
    intro x hx
    have := mem_irange.mp hx
    simp; omega
  have e2 : r.filter (fun k => decide (m = k)) = [] := by
    rw [List.filter_eq_nil_iff]
    intro x hx
    have := (List.nodup_cons.mp nd.2.1).1
    simp
    intro z
    exact this (z ▸ hx)
  rw [List.filter_append, List.filter_cons, e1, e2]
  simp
/-! ### the walk along the sides -/
end
end TB

/-! ### l_with_backs -/
namespace TB
open PySem L2
--use TbDuw
--use TbIn
noncomputable def T_l_with_backs : Tm := fun ss ok er => ∃ (t : Tbl) (u x : Int), ss = [.o2 t, .im u, .im x] ∧ ∃ n, 1 ≤ n ∧ n ≤ 23 ∧ TabN n t ∧ 0 ≤ u ∧ u < n ∧ ∀ t' : Tbl, TabN n t' → ok (.o2 t')
noncomputable def t_l_with_backs (Z : Zz) (X : WX) : TS :=
  (tSeq (tAsg (tCB (gLen Z.K) (tCons (tVar 0) tNil)) (gName 3))
  (tSeq (tAsg (tLc (iRng1 (tCons (tVar 3) tNil)) (gName 7) (tTest (tOp (gNe Z.K) (tVar 7) (tVar 1))) (tVar 7) [7]) (gName 4))
  (tSeq (tIfS (tAnd (tTest (tOp (gEq Z.K) (tOp gMod (tVar 2) (tC (.int 2))) (tC (.int 0)))) (tTest (tOp gGt (tVar 3) (tC (.int 2)))))
  (tSeq (tAsg (tOp (gIx Z.K) (tVar 4) (tOp gMod (tOp gDiv (tVar 2) (tC (.int 2))) (tOp gMns (tVar 3) (tC (.int 1))))) (gName 5))
  (tSeq (tAsg (tOp (gIx Z.K) (tVar 4) (tOp gMod (tOp gAdd (tOp gDiv (tVar 2) (tC (.int 2))) (tC (.int 1))) (tOp gMns (tVar 3) (tC (.int 1))))) (gName 6))
  (tSeq (tAsg (tVar 1) (gSub (tOp (gIx Z.K) (tVar 0) (tVar 5)) (tVar 6) gSet))
  (tSeq (tAsg (tVar 1) (gSub (tOp (gIx Z.K) (tVar 0) (tVar 6)) (tVar 5) gSet))
  (tAsg (tLc (iList Z.K (tVar 4)) (gName 7) (tAnd (tTest (tOp (gNe Z.K) (tVar 7) (tVar 5))) (tTest (tOp (gNe Z.K) (tVar 7) (tVar 6)))) (tVar 7) [7]) (gName 4))))))
  tNext)
  (tSeq (tFor (iList Z.K (tVar 4)) (gName 7)
  (tAsg (tVar 1) (gSub (tOp (gIx Z.K) (tVar 0) (tVar 7)) (tVar 7) gSet)))
  (tRet (tVar 0))))))
theorem w_l_with_backs (Z : Zz) (X : WX) (ss : List Sl) (ok : Sl → Prop) (er : Rf → Prop) (h : T_l_with_backs ss ok er) : WF Z X er (ss ++ List.replicate (8 - ss.length) .un) (t_l_with_backs Z X) ok := by
  obtain ⟨t, u, x, rfl, n, n1, n2, ht, u0, u1, k⟩ := h
  show W _ [.o2 t, .im u, .im x, .un, .un, .un, .un, .un] _ _
  unfold t_l_with_backs
  refine w_seq (w_asg (s := .im n) (ev_to (ev_lenO2 rfl) ht.len) ?_)
  walk_at "nz"
  have l1 := ht.len
  have ol : (((irange n).filter fun a => !decide (a = u)).length : Int) = n - 1 := by
    have h1 := filter_two (fun a : Int => decide (a = u)) (irange n)
    have h2 : ((irange n).filter fun a => decide (a = u)) = [u] := by
      rw [← filt_one u0 u1]
      exact List.filter_congr fun a _ => by rw [decide_eq_decide]; exact eq_comm
    rw [h2, irange_len] at h1
    simp only [List.length_singleton] at h1
    omega
  have oi : ∀ a ∈ (irange n).filter fun a => !decide (a = u), 0 ≤ a ∧ a < n := fun a ha => mem_irange.mp (List.mem_filter.mp ha).1
  refine w_seq (w_asg (s := .ol ((irange n).filter fun a => !decide (a = u))) (ev_is (s := .ol (((irange n).filter fun a => !decide (a = u)).map fun a => a)) ?h1 (by rw [List.map_id'])) ?_)
  case h1 => exact ev_filtR (n := n) (fun a => !decide (a = u)) (fun a => a) (ev_var rfl) (by omega) (by omega) (by simp) ⟨.inl rfl, trivial⟩ (fun a _ _ => et_test (ev_neI (ev_var rfl) (ev_var rfl))) fun a _ _ _ => ev_var rfl
  refine w_fr 4 rfl ?_
  walk_at "nz"
  generalize (irange n).filter (fun a => !decide (a = u)) = os at ol oi
  refine w_mid (fun Gs => ∃ (t : Tbl) (os : List Int) (s5 s6 : Sl), Gs = [.o2 t, .im u, .im x, .im n, .im os, s5, s6, .un] ∧ TabN n t ∧ os.length ≤ 23 ∧ ∀ a ∈ os, 0 ≤ a ∧ a < n) ?_ ?_
  · refine w_if (et_and (et_test (ev_eqI (ev_mod (ev_var rfl) ev_int (by decide)) ev_int)) fun _ => et_test (ev_gt (ev_var rfl) ev_int)) (fun hb => ?_) (fun _ => w_next ⟨t, os, _, _, rfl, ht, by omega, oi⟩)
    have hb' : 2 < n := by
      rw [Bool.and_eq_true] at hb
      exact of_decide_eq_true hb.2
    have a0 := Int.emod_nonneg (x / 2) (show n - 1 ≠ 0 by omega)
    have a1 := Int.emod_lt_of_pos (x / 2) (show 0 < n - 1 by omega)
    have b0 := Int.emod_nonneg (x / 2 + 1) (show n - 1 ≠ 0 by omega)
    have b1 := Int.emod_lt_of_pos (x / 2 + 1) (show 0 < n - 1 by omega)
    refine w_seq (w_asg (s := .im (gt os (x / 2 % (n - 1)))) (ev_ix (ev_var rfl) (ev_mod (ev_div (ev_var rfl) ev_int (by decide) (by decide)) (ev_sub (ev_var rfl) ev_int) (by omega)) a0 (by omega)) ?_)
    refine w_seq (w_asg (s := .im (gt os ((x / 2 + 1) % (n - 1)))) (ev_ix (ev_var rfl) (ev_mod (ev_add (ev_div (ev_var rfl) ev_int (by decide) (by decide)) ev_int) (ev_sub (ev_var rfl) ev_int) (by omega)) b0 (by omega)) ?_)
    walk_at "nz"
    obtain ⟨p0, p1⟩ := oi _ (gt_mem (xs := os) a0 (by omega))
    obtain ⟨q0, q1⟩ := oi _ (gt_mem (xs := os) b0 (by omega))
    generalize gt os (x / 2 % (n - 1)) = p at p0 p1
    generalize gt os ((x / 2 + 1) % (n - 1)) = q at q0 q1
    have r1 := ht.row _ (gt_mem (xs := t) p0 (by omega))
    refine w_seq (w_put2 (k := 0) (y := u) (i := p) (j := q) rfl (ev_var rfl) (ep_var rfl) (ep_var rfl) p0 (by omega) q0 (by omega) ?_)
    walk_at "nz"
    have ht2 := ht.put p0 p1 q0 q1 u0 u1
    generalize t.set p.toNat ((gt t p).set q.toNat u) = t2 at ht2
    have l2 := ht2.len
    have r2 := ht2.row _ (gt_mem (xs := t2) q0 (by omega))
    refine w_seq (w_put2 (k := 0) (y := u) (i := q) (j := p) rfl (ev_var rfl) (ep_var rfl) (ep_var rfl) q0 (by omega) p0 (by omega) ?_)
    walk_at "nz"
    have ht3 := ht2.put q0 q1 p0 p1 u0 u1
    generalize t2.set q.toNat ((gt t2 q).set p.toNat u) = t3 at ht3
    refine w_asg (s := .im (os.filter fun a => !decide (a = p) && !decide (a = q))) (ev_fr (ev_is (s := .ol ((os.filter fun a => !decide (a = p) && !decide (a = q)).map fun a => a)) ?h2 (by rw [List.map_id']))) ⟨t3, _, _, _, rfl, ht3, Nat.le_trans (List.length_filter_le _ _) (by omega), fun a ha => oi a (List.mem_filter.mp ha).1⟩
    case h2 => exact ev_filtL (xs := os) (fun a => !decide (a = p) && !decide (a = q)) (fun a => a) (ev_var rfl) (by omega) (by simp) ⟨.inl rfl, trivial⟩ (fun a _ => et_and (et_test (ev_neI (ev_var rfl) (ev_var rfl))) fun _ => et_test (ev_neI (ev_var rfl) (ev_var rfl))) fun a _ _ => ev_var rfl
  rintro _ ⟨t, os, s5, s6, rfl, ht, ol, oi⟩
  refine w_seq (w_forL (xs := os) (fun _ Gs => ∃ (t : Tbl) (s7 : Sl), Gs = [.o2 t, .im u, .im x, .im n, .im os, s5, s6, s7] ∧ TabN n t) (ev_var rfl) ⟨t, _, rfl, ht⟩ ?_ ?_)
  · rintro i Gs hi ⟨t, s7, rfl, ht⟩
    walk_at "nz"
    obtain ⟨p0, p1⟩ := oi _ (List.getElem_mem hi)
    generalize os[i] = p at p0 p1
    have l2 := ht.len
    have r2 := ht.row _ (gt_mem (xs := t) p0 (by omega))
    exact w_put2 (k := 0) (y := u) (i := p) (j := p) rfl (ev_var rfl) (ep_var rfl) (ep_var rfl) p0 (by omega) p0 (by omega) ⟨_, _, rfl, ht.put p0 p1 p0 p1 u0 u1⟩
  · rintro Gs ⟨t, s7, rfl, ht⟩
    exact w_retO val_o2 rfl (k t ht)
end TB

/-! ### l_numbers -/
namespace TB
open PySem L2
--use TbDuw
noncomputable def T_l_numbers : Tm := tm3 fun (n w : Int) (nm : List Int) ok _ => 1 ≤ n ∧ n ≤ 12 ∧ nm.Perm (irange n) ∧ ∀ t : Tbl, TabN n t → ok (.o2 t)
noncomputable def t_l_numbers (Z : Zz) (X : WX) : TS :=
  (tSeq (tAsg (tLc (iRng1 (tCons (tVar 0) tNil)) (gName 4) tYes (tLc (iRng1 (tCons (tVar 0) tNil)) (gName 5) tYes (tC (.int 0)) [5]) [4]) (gName 3))
  (tSeq (tFor (iRng1 (tCons (tVar 0) tNil)) (gName 4)
  (tFor (iRng1 (tCons (tVar 0) tNil)) (gName 5)
  (tSeq (tAsg (tOp gMod (tOp gMul (tVar 4) (tVar 5)) (tVar 0)) (gName 6))
  (tSeq (tIfS (tTest (tOp (gEq Z.K) (tVar 1) (tC (.int 1))))
  (tAsg (tCB gMin (tCons (tVar 4) (tCons (tVar 5) tNil))) (gName 6))
  tNext)
  (tAsg (tOp (gIx Z.K) (tVar 2) (tVar 6)) (gSub (tOp (gIx Z.K) (tVar 3) (tOp (gIx Z.K) (tVar 2) (tVar 4))) (tOp (gIx Z.K) (tVar 2) (tVar 5)) gSet))))))
  (tRet (tVar 3))))
theorem w_l_numbers (Z : Zz) (X : WX) (ss : List Sl) (ok : Sl → Prop) (er : Rf → Prop) (h : T_l_numbers ss ok er) : WF Z X er (ss ++ List.replicate (7 - ss.length) .un) (t_l_numbers Z X) ok := by
  obtain ⟨n, w, nm, rfl, n1, n2, pm, k⟩ := h
  show W _ [.im n, .im w, .im nm, .un, .un, .un, .un] _ _
  unfold t_l_numbers
  have nl : (nm.length : Int) = n := by rw [pm.length_eq, irange_len]; omega
  have ni : ∀ i, 0 ≤ i → i < n → 0 ≤ gt nm i ∧ gt nm i < n := fun i i0 i1 => mem_irange.mp (pm.mem_iff.mp (gt_mem i0 (by omega)))
  refine w_seq (w_asg (s := .o2 ((irange n).map fun _ => (irange n).map fun _ => (0 : Int))) (ev_mapR2 (n := n) (fun _ => (irange n).map fun _ => (0 : Int)) (ev_var rfl) (by omega) (by omega) (by simp) ⟨.inl rfl, trivial⟩ fun a _ _ => ev_mapR (n := n) (fun _ => (0 : Int)) (ev_var rfl) (by omega) (by omega) (by simp) ⟨.inl rfl, trivial⟩ fun b _ _ => ev_int) ?_)
  walk_at "nz"
  have ht : TabN n ((irange n).map fun _ => (irange n).map fun _ => (0 : Int)) := by
    refine ⟨by rw [List.length_map, irange_len]; omega, fun r hr => ?_, fun r hr x hx => ?_⟩
    · obtain ⟨_, _, rfl⟩ := List.mem_map.mp hr
      rw [List.length_map, irange_len]; omega
    · obtain ⟨_, _, rfl⟩ := List.mem_map.mp hr
      obtain ⟨_, _, rfl⟩ := List.mem_map.mp hx
      omega
  generalize (irange n).map (fun _ => (irange n).map fun _ => (0 : Int)) = t at ht
  refine w_seq (w_forR (n := n) (fun i Gs => ∃ (t : Tbl) (s4 s5 s6 : Sl), Gs = [.im n, .im w, .im nm, .o2 t, s4, s5, s6] ∧ TabN n t) (ev_var rfl) (by omega) (by omega) ⟨t, _, _, _, rfl, ht⟩ ?_ ?_)
  · rintro i Gs hi ⟨t, s4, s5, s6, rfl, ht⟩
    walk_at "nz"
    refine w_forR (n := n) (fun j Gs => ∃ (t : Tbl) (s5 s6 : Sl), Gs = [.im n, .im w, .im nm, .o2 t, .im (i : Int), s5, s6] ∧ TabN n t) (ev_var rfl) (by omega) (by omega) ⟨t, _, _, rfl, ht⟩ ?_ ?_
    · rintro j Gs hj ⟨t, s5, s6, rfl, ht⟩
      walk_at "nz"
      refine w_seq (w_asg (s := .im ((i : Int) * (j : Int) % n)) (ev_mod (ev_mul (ev_var rfl) (ev_var rfl) (cmulS (by omega) (by omega) (by omega) (by omega))) (ev_var rfl) (by omega)) ?_)
      walk_at "nz"
      have f0 := Int.emod_nonneg ((i : Int) * (j : Int)) (show n ≠ 0 by omega)
      have f1 := Int.emod_lt_of_pos ((i : Int) * (j : Int)) (show 0 < n by omega)
      generalize (i : Int) * (j : Int) % n = f at f0 f1
      refine w_mid (fun Gs => ∃ f : Int, 0 ≤ f ∧ f < n ∧ Gs = [.im n, .im w, .im nm, .o2 t, .im (i : Int), .im (j : Int), .im f]) ?_ ?_
      · refine w_if (et_test (ev_eqI (ev_var rfl) ev_int)) (fun _ => ?_) (fun _ => w_next ⟨f, f0, f1, rfl⟩)
        exact w_asg (s := .im (if (j : Int) < (i : Int) then (j : Int) else (i : Int))) (ev_min2 (ev_var rfl) (ev_var rfl)) ⟨_, by split <;> omega, by split <;> omega, rfl⟩
      rintro _ ⟨f, f0, f1, rfl⟩
      obtain ⟨a0, a1⟩ := ni (i : Int) (by omega) hi
      obtain ⟨b0, b1⟩ := ni (j : Int) (by omega) hj
      obtain ⟨c0, c1⟩ := ni f f0 f1
      have l2 := ht.len
      have r2 := ht.row _ (gt_mem (xs := t) a0 (by omega))
      exact w_put2 (k := 3) (y := gt nm f) (i := gt nm (i : Int)) (j := gt nm (j : Int)) rfl (ev_ix (ev_var rfl) (ev_var rfl) f0 (by omega)) (ep_ix (ep_var rfl) (ep_var rfl) (by omega) (by omega)) (ep_ix (ep_var rfl) (ep_var rfl) (by omega) (by omega)) a0 (by omega) b0 (by omega) ⟨_, _, _, rfl, ht.put a0 a1 b0 b1 c0 c1⟩
    · rintro Gs ⟨t, s5, s6, rfl, ht⟩
      exact ⟨t, _, _, _, rfl, ht⟩
  · rintro Gs ⟨t, s4, s5, s6, rfl, ht⟩
    exact w_retO val_o2 rfl (k t ht)
end TB

/-! ### l_made -/
namespace TB
open PySem L2
--use TbDuw
noncomputable def T_l_made : Tm := tm1 fun (l : Scr) ok _ => l.l.length ≤ 63 ∧ ∀ (n : Int) (t : Tbl), 1 ≤ n → n ≤ 23 → TabN n t → ok (.o2 t)
noncomputable def t_l_made (Z : Zz) (X : WX) : TS :=
  (tSeq (tAsg (tOp gMod (tCallSD (spOf Z T_l_cell) [] (WE X) (tCons (tVar 0) (tCons (tC (.int 0)) tNil))) (tC (.int 6))) (gName 1))
  (tSeq (tAsg (tCallSD (spOf Z T_l_cell) [] (WE X) (tCons (tVar 0) (tCons (tC (.int 1)) tNil))) (gName 2))
  (tSeq (tAsg (tOp gAdd (tC (.int 1)) (tOp gMod (tVar 2) (tC (.int 4)))) (gName 3))
  (tSeq (tAsg (tOp gMod (tOp gDiv (tVar 2) (tC (.int 4))) (tVar 3)) (gName 4))
  (tSeq (tIfS (tTest (tOp (gEq Z.K) (tVar 1) (tC (.int 0))))
  (tRet (tCallSD (spOf Z T_l_raw) [] (WE X) (tCons (tVar 0) (tCons (tVar 3) tNil))))
  tNext)
  (tSeq (tIfS (tTest (tOp (gEq Z.K) (tVar 1) (tC (.int 1))))
  (tRet (tCallSD (spMv Z T_l_with_unit) [] (WE X) (tCons (tCallSD (spOf Z T_l_raw) [] (WE X) (tCons (tVar 0) (tCons (tVar 3) tNil))) (tCons (tVar 4) tNil))))
  tNext)
  (tSeq (tIfS (tTest (tOp (gEq Z.K) (tVar 1) (tC (.int 2))))
  (tRet (tCallSD (spMv Z T_l_with_backs) [] (WE X) (tCons (tCallSD (spMv Z T_l_with_unit) [] (WE X) (tCons (tCallSD (spOf Z T_l_raw) [] (WE X) (tCons (tVar 0) (tCons (tVar 3) tNil))) (tCons (tVar 4) tNil))) (tCons (tVar 4) (tCons (tOp gDiv (tVar 2) (tC (.int 16))) tNil)))))
  tNext)
  (tSeq (tIfS (tTest (tOp (gEq Z.K) (tVar 1) (tC (.int 3))))
  (tSeq (tAsg (tOp gAdd (tC (.int 1)) (tOp gMod (tVar 2) (tC (.int 12)))) (gName 3))
  (tRet (tCallSD (spOf Z T_l_numbers) [] (WE X) (tCons (tVar 3) (tCons (tOp gMod (tOp gDiv (tVar 2) (tC (.int 12))) (tC (.int 2))) (tCons (tCallSD (spOf Z T_l_names) [] (WE X) (tCons (tVar 3) (tCons (tCallSD (spOf Z T_l_cell) [] (WE X) (tCons (tVar 0) (tCons (tC (.int 2)) tNil))) tNil))) tNil))))))
  tNext)
  (tSeq (tAsg (tCallSD (spOf Z T_l_group) [] (WE X) (tCons (tVar 0) (tCons (tC (.int 1)) tNil))) (gName 5))
  (tSeq (tAsg (tCB (gLen Z.K) (tCons (tVar 5) tNil)) (gName 3))
  (tSeq (tIfS (tTest (tOp (gEq Z.K) (tVar 1) (tC (.int 4))))
  (tFor (iList Z.K (tSl (rSlL Z.K) (tVar 0) (tPart (tC (.int 4))) (tPart (tC (.int 8))))) (gName 6)
  (tSeq (tAsg (tOp gMod (tOp gMod (tVar 6) (tC (.int 529))) (tOp gMul (tVar 3) (tVar 3))) (gName 7))
  (tAsg (tOp gMod (tOp gMod (tOp gDiv (tVar 6) (tC (.int 529))) (tC (.int 23))) (tVar 3)) (gSub (tOp (gIx Z.K) (tVar 5) (tOp gDiv (tVar 7) (tVar 3))) (tOp gMod (tVar 7) (tVar 3)) gSet))))
  tNext)
  (tRet (tVar 5)))))))))))))
theorem w_l_made (Z : Zz) (X : WX) (ss : List Sl) (ok : Sl → Prop) (er : Rf → Prop) (h : T_l_made ss ok er) : WF Z X er (ss ++ List.replicate (8 - ss.length) .un) (t_l_made Z X) ok := by
  obtain ⟨l, rfl, hl, k⟩ := h
  show W _ [.im l, .un, .un, .un, .un, .un, .un, .un] _ _
  unfold t_l_made
  refine w_seq (w_asg (s := .im (cellOf l 0 % 6)) (ev_mod (ev_callN (s := .im (cellOf l 0)) (ea_cons (ev_var rfl) (ea_cons ev_int ea_nil)) ⟨_, _, rfl, by decide, rfl⟩) ev_int (by decide)) ?_)
  refine w_seq (w_asg (s := .im (cellOf l 1)) (ev_callN (ea_cons (ev_var rfl) (ea_cons ev_int ea_nil)) ⟨_, _, rfl, by decide, rfl⟩) ?_)
  walk_at "nz"
  have c2 := cellOf_bd l 2
  generalize cellOf l 0 % 6 = w
  generalize cellOf l 1 = x
  have m0 := Int.emod_nonneg x (show (4 : Int) ≠ 0 by decide)
  have m1 := Int.emod_lt_of_pos x (show (0 : Int) < 4 by decide)
  refine w_seq (w_asg (s := .im (1 + x % 4)) (ev_add ev_int (ev_mod (ev_var rfl) ev_int (by decide))) ?_)
  walk_at "nz"
  obtain ⟨n, en⟩ : ∃ n, n = 1 + x % 4 := ⟨_, rfl⟩
  rw [← en]
  have n1 : 1 ≤ n := by omega
  have n4 : n ≤ 4 := by omega
  have u0 := Int.emod_nonneg (x / 4) (show n ≠ 0 by omega)
  have u1 := Int.emod_lt_of_pos (x / 4) (show 0 < n by omega)
  refine w_seq (w_asg (s := .im (x / 4 % n)) (ev_mod (ev_div (ev_var rfl) ev_int (by decide) (by decide)) (ev_var rfl) (by omega)) ?_)
  walk_at "nz"
  generalize x / 4 % n = u at u0 u1
  have kk : ∀ t : Tbl, TabN n t → ok (.o2 t) := fun t ht => k n t n1 (by omega) ht
  refine w_seq (w_if (et_test (ev_eqI (ev_var rfl) ev_int)) (fun _ => ?_) (fun _ => w_next ?_))
  · exact w_retS (es_call (ea_cons (ev_var rfl) (ea_cons (ev_var rfl) ea_nil)) ⟨_, _, rfl, n1, n4, fun t ht => kk t ht⟩) fun s h => h
  refine w_seq (w_if (et_test (ev_eqI (ev_var rfl) ev_int)) (fun _ => ?_) (fun _ => w_next ?_))
  · refine w_retSM (S := fun s => ∃ t, s = .o2 t ∧ TabN n t) (esm_callS (eas_cons (S := fun s => ∃ t, s = .o2 t ∧ TabN n t) (es_call (ea_cons (ev_var rfl) (ea_cons (ev_var rfl) ea_nil)) ⟨_, _, rfl, n1, n4, fun t ht => ⟨t, rfl, ht⟩⟩) (eam_cons (em_of (ev_var rfl)) eam_nil)) ?_) ?_
    · rintro _ ⟨_, ⟨t, rfl, ht⟩, rfl⟩
      exact ⟨t, u, rfl, n, n1, by omega, ht, u0, u1, fun t' ht' => ⟨t', rfl, ht'⟩⟩
    · rintro _ ⟨t, rfl, ht⟩
      exact kk t ht
  refine w_seq (w_if (et_test (ev_eqI (ev_var rfl) ev_int)) (fun _ => ?_) (fun _ => w_next ?_))
  · refine w_retSM (S := fun s => ∃ t, s = .o2 t ∧ TabN n t) (esm_callS (eas_cons (S := fun s => ∃ t, s = .o2 t ∧ TabN n t) (esm_callS (eas_cons (S := fun s => ∃ t, s = .o2 t ∧ TabN n t) (es_call (ea_cons (ev_var rfl) (ea_cons (ev_var rfl) ea_nil)) ⟨_, _, rfl, n1, n4, fun t ht => ⟨t, rfl, ht⟩⟩) (eam_cons (em_of (ev_var rfl)) eam_nil)) ?_) (eam_cons (em_of (ev_var rfl)) (eam_cons (em_of (ev_div (ev_var rfl) ev_int (by decide) (by decide))) eam_nil))) ?_) ?_
    · rintro _ ⟨_, ⟨t, rfl, ht⟩, rfl⟩
      exact ⟨t, u, rfl, n, n1, by omega, ht, u0, u1, fun t' ht' => ⟨t', rfl, ht'⟩⟩
    · rintro _ ⟨_, ⟨t, rfl, ht⟩, rfl⟩
      exact ⟨t, u, _, rfl, n, n1, by omega, ht, u0, u1, fun t' ht' => ⟨t', rfl, ht'⟩⟩
    · rintro _ ⟨t, rfl, ht⟩
      exact kk t ht
  refine w_seq (w_if (et_test (ev_eqI (ev_var rfl) ev_int)) (fun _ => ?_) (fun _ => w_next ?_))
  · have p0 := Int.emod_nonneg x (show (12 : Int) ≠ 0 by decide)
    have p1 := Int.emod_lt_of_pos x (show (0 : Int) < 12 by decide)
    refine w_seq (w_asg (s := .im (1 + x % 12)) (ev_add ev_int (ev_mod (ev_var rfl) ev_int (by decide))) ?_)
    walk_at "nz"
    obtain ⟨N, eN⟩ : ∃ N, N = 1 + x % 12 := ⟨_, rfl⟩
    rw [← eN]
    have N1 : 1 ≤ N := by omega
    have N2 : N ≤ 12 := by omega
    refine w_retS (S := fun s => ∃ t, s = .o2 t ∧ TabN N t) (es_callX (eax_cons (ev_var rfl) (eax_cons (ev_mod (ev_div (ev_var rfl) ev_int (by decide) (by decide)) ev_int (by decide)) (eax_last (α := List Int) (D := fun nm => nm.Perm (irange N)) (es_call (ea_cons (ev_var rfl) (ea_cons (ev_callN (s := .im (cellOf l 2)) (ea_cons (ev_var rfl) (ea_cons ev_int ea_nil)) ⟨_, _, rfl, by decide, rfl⟩) ea_nil)) ⟨_, _, rfl, by omega, by omega, c2.1, by omega, fun nm pm => ⟨nm, rfl, pm⟩⟩)))) ?_) ?_
    · rintro _ ⟨_, ⟨_, ⟨nm, rfl, pm⟩, rfl⟩, rfl⟩
      exact ⟨_, _, nm, rfl, N1, N2, pm, fun t ht => ⟨t, rfl, ht⟩⟩
    · rintro _ ⟨t, rfl, ht⟩
      exact k N t N1 (by omega) ht
  refine w_seq (w_asgS (S := fun s => ∃ t e, s = .o2 t ∧ GTbl t e) (es_call (ea_cons (ev_var rfl) (ea_cons ev_int ea_nil)) ⟨_, _, rfl, by decide, fun t e h => ⟨t, e, rfl, h⟩⟩) ?_)
  rintro _ ⟨t, e, rfl, G⟩
  have tl := G.sz.2.1
  have tl1 := G.sz.1
  refine w_seq (w_asg (s := .im (t.length : Int)) (ev_lenO2 rfl) ?_)
  walk_at "nz"
  have ht := G.tab
  obtain ⟨N, eN⟩ : ∃ N : Int, N = t.length := ⟨_, rfl⟩
  rw [← eN] at ht ⊢
  have N1 : 1 ≤ N := by omega
  have N2 : N ≤ 23 := by omega
  clear eN
  refine w_mid (fun Gs => ∃ (t : Tbl) (s6 s7 : Sl), Gs = [.im l, .im w, .im x, .im N, .im u, .o2 t, s6, s7] ∧ TabN N t) ?_ ?_
  · refine w_if (et_test (ev_eqI (ev_var rfl) ev_int)) (fun _ => ?_) (fun _ => w_next ⟨t, _, _, rfl, ht⟩)
    refine w_forL (xs := (l.l.take (8 : Int).toNat).drop (4 : Int).toNat) (fun _ Gs => ∃ (t : Tbl) (s6 s7 : Sl), Gs = [.im l, .im w, .im x, .im N, .im u, .o2 t, s6, s7] ∧ TabN N t) (ev_fr (ev_cutS (l := l) (ev_var rfl) ev_int ev_int (by decide) (by decide))) ⟨t, _, _, rfl, ht⟩ ?_ ?_
    · rintro i Gs hi ⟨t, s6, s7, rfl, ht⟩
      walk_at "nz"
      generalize ((l.l.take (8 : Int).toNat).drop (4 : Int).toNat)[i] = y
      have NN : 0 < N * N := Int.mul_pos (by omega) (by omega)
      have p0 := Int.emod_nonneg (y % 529) (show N * N ≠ 0 by omega)
      have p1 := Int.emod_lt_of_pos (y % 529) NN
      refine w_seq (w_asg (s := .im (y % 529 % (N * N))) (ev_mod (ev_mod (ev_var rfl) ev_int (by decide)) (ev_mul (ev_var rfl) (ev_var rfl) (cmulS (by omega) (by omega) (by omega) (by omega))) NN) ?_)
      walk_at "nz"
      generalize y % 529 % (N * N) = p at p0 p1
      have q0 : 0 ≤ p / N := Int.ediv_nonneg p0 (by omega)
      have q1 : p / N < N := Int.ediv_lt_of_lt_mul (by omega) p1
      have r0 := Int.emod_nonneg p (show N ≠ 0 by omega)
      have r1 := Int.emod_lt_of_pos p (show 0 < N by omega)
      have v0 := Int.emod_nonneg (y / 529 % 23) (show N ≠ 0 by omega)
      have v1 := Int.emod_lt_of_pos (y / 529 % 23) (show 0 < N by omega)
      have l2 := ht.len
      have r2 := ht.row _ (gt_mem (xs := t) q0 (by omega))
      exact w_put2 (k := 5) (y := y / 529 % 23 % N) (i := p / N) (j := p % N) rfl (ev_mod (ev_mod (ev_div (ev_var rfl) ev_int (by decide) (by decide)) ev_int (by decide)) (ev_var rfl) (by omega)) (ep_div (ep_var rfl) (ep_var rfl) (by omega) (by omega)) (ep_mod (ep_var rfl) (ep_var rfl) (by omega)) q0 (by omega) r0 (by omega) ⟨_, _, _, rfl, ht.put q0 q1 r0 r1 v0 v1⟩
    · rintro Gs ⟨t, s6, s7, rfl, ht⟩
      exact ⟨t, _, _, rfl, ht⟩
  rintro _ ⟨t, s6, s7, rfl, ht⟩
  exact w_retO val_o2 rfl (k N t N1 N2 ht)
end TB

/-! TbDz: dict(zip(xs, ys)); sorted(d.keys()). -/
namespace TB
open PySem PySem.Spec PyProof.Rows L2
section
variable {X : Cx} {a b : Expr} {ta : TA} {p p2 q pos : Pos}
end
section
variable {X : Cx} {e : Expr} {td : TE} {p apos cpos pos : Pos}
end
end TB

/-! TbDf: defs whose last parameter has a default; more of dicts. -/
namespace TB
open PySem PySem.Spec PyProof.Rows L2
/-- a def as it stands behind the top, whatever its defaults are -/
structure FunX (K : PySem.W.Frag) (x qual : Str) (st : Stmt) (f : Addr) (fd : FuncData) : Prop where
  ex : ∃ (oc : Value) (od : Option Addr) (dV kV doc pm : Value) (an : Option Addr) (cdv ct : Value) (osl : Array (Option Value)),
    fd = PySem.W.fnOf x qual (defArgs st) (defBody st) (defScope st) dV kV doc pm an cdv ct ∧ K.lookup f = some ⟨oc, od, .func fd, osl⟩ ∧ PySem.W.codeIn K cdv qual = true
  kp : PySem.W.keepIn K (.ref f) = true
section
variable {P : Program} {w : World} {K : PySem.W.Frag} {mg : Str → Option Value} {base : Heap} {x qual : Str} {st : Stmt} {f : Addr} {fd : FuncData} {N ps : List Str} {k : Nat} {sp : Sp}
theorem FunX.okX (F : FunX K x qual st f fd) (S : FnScope N ps (defScope st)) (len : ∀ vs H Q E, sp vs H Q E → vs.length = ps.length)
    (hbody : ∀ (cdv : Value) (A : Around) (outer : List Env) (s : Shared) (H : Hp) (vs : List V) (Q : VK) (E : XK), Room k (A.deeper (envOfC qual (defScope st) s.heap.objs.size f cdv)) → sp vs H Q E →
      ∃ t, PSs (cxOf (L2.CX P w) P w K mg base N qual (defScope st) f cdv A outer s H E) (defBody st) t ∧ t { nx := fun _ H' => Q .non H', rt := Q } (L2.start N vs) H) : FnOk P w K mg base (L2.CX P w) (k + 1) f fd ps sp := by
  obtain ⟨oc, od, dV, kV, doc, pm, an, cdv, ct, osl, rfl, lk, hcd⟩ := F.ex
  exact fn_of lk hcd S len fun A outer s H vs Q E hr hsp => hbody cdv A outer s H vs Q E hr hsp
end
section
variable {c : Cn} {Γ : List Sl} {ta tb te tl ty : TE} {tt tc : TT} {t u : TS} {s s' so : Sl} {α β γ : Type} {_ : Rp α} {_ : Rp β} {_ : Rp γ} {P : Po} {d : α}
/-! ### dict(zip(xs, ys)), sorted(d.keys()) -/
end
section
variable {c : Cn} {Γ : List Sl} {ta tb te tl ty : TE} {s : Sl} {α : Type} {_ : Rp α}
end
end TB

/-! TbUl: a list unpacked to two names; a pair walked; calls with what is in fresh lists. -/
namespace TB
open PySem PySem.Spec PyProof.Rows L2
section
variable {prog : Program} {w : World} {A : Around} {E : Value → Shared → Prop} {s : Shared}
end
section
variable {c : Cn} {Γ : List Sl} {ta tb te tl ty : TE} {t u : TS} {s so : Sl} {α β : Type} {_ : Rp α} {_ : Rp β} {P : Po} {d : α}
end
end TB
namespace TB
open PySem PySem.Spec PyProof.Rows L2
section
variable {c : Cn} {Γ : List Sl} {te : TE} {α : Type} {_ : Rp α} {P : Po}
end
end TB
namespace TB
open PySem PySem.Spec PyProof.Rows L2
section
variable {X : Cx} {CX : CXT} {k n : Nat} {f : Addr} {fd : FuncData} {ps : List Str} {nm : Str} {sp : Sp} {E : XK} {x : Str} {p pos : Pos} {e : Expr} {es : List Expr} {kws : List Keyword} {t tk : TA} {g : List Value → List Value → List Value} {gV : List V → List V → List V}
end
end TB

/-! TbLcm: the turns of a group. -/
namespace TB
open PySem
end TB

/-! TbOne: one-row ways of parts. -/
namespace TB
open PySem
/-- the mark of a thing -/
noncomputable def mk (P M : List Int) (x : Int) : Int := gt M (ix P x : Int)
end TB

/-! TbPl: own lists of two things of different make. -/
namespace TB
open PySem PySem.Spec PyProof.Rows L2
section
variable {Z : Zz} {B R0 R R' H H' : Hp} {τ ρ σ : List (Option V)} {Θ Δ Γ : List Sl} {s s' s1 s2 : Sl} {o : Option V} {f g own : List Addr}
end
section
variable {c : Cn} {Γ Γ1 Γ2 : List Sl} {ta tb te tl : TE} {t u : TS} {s s1 s2 : Sl} {α β : Type} {_ : Rp α} {_ : Rp β} {P : Po} {d : α}
end
end TB

/-! TbSr: rows sorted as Python sorts lists; own tables put together. -/
namespace TB
open PySem PySem.Spec PyProof.Rows L2 PySem.W
section
variable {c : Cn} {Γ : List Sl} {ta tb te : TE} {t u : TS} {s so : Sl} {α : Type} {_ : Rp α} {P : Po}
end
end TB

/-! TbBfs: least parts with words: what is reckoned, and own dicts of own lists. -/
namespace TB
open PySem L2
noncomputable abbrev Kvs := List (Int × List Int)
section
variable {t : Tbl} {e : Int} {some : List Int}
end
/-! ### own dicts of own lists -/
noncomputable def kvq (kvs : Kvs) (qs : List Addr) : List (Key × V) := List.zipWith (fun x q => ((Sum.inl x.1 : Key), V.ref q)) kvs qs
noncomputable def Od2 (kvs : Kvs) : Own := ⟨fun _ _ h v => ∃ (p : Addr) (qs : List Addr), v = .ref p ∧ (p :: qs).Nodup ∧ h p = some (.dK (kvq kvs qs)) ∧ Paired (fun (q : Addr) (x : Int × List Int) => h q = some (.lst (x.2.map V.int))) qs kvs, fun _ h => h⟩
noncomputable abbrev Sl.d2 (kvs : Kvs) : Sl := .ow (Od2 kvs)
section
variable {c : Cn} {Γ : List Sl} {ta tb te tl ty tk : TE} {tt tc : TT} {t u : TS} {s s' so : Sl} {α β γ : Type} {_ : Rp α} {_ : Rp β} {_ : Rp γ} {P : Po} {d : α} {kvs : Kvs}
end
end TB

/-! TbOq: more of own trees. -/
namespace TB
open PySem L2
section
variable {c : Cn} {Γ : List Sl} {ta tb te tl ty tk : TE} {tt tc : TT} {t u : TS} {s s' so : Sl} {α β γ : Type} {_ : Rp α} {_ : Rp β} {_ : Rp γ} {P : Po} {d : α} {T U : OT}
end
section
variable {c : Cn} {Γ : List Sl} {ta tb te tl ty tk : TE} {tt tc : TT} {t u : TS} {s s' so : Sl} {α β γ : Type} {_ : Rp α} {_ : Rp β} {_ : Rp γ} {P : Po} {d : α} {T U : OT}
end
section
variable {c : Cn} {Γ : List Sl} {te : TE} {α β : Type} {_ : Rp α} {_ : Rp β} {d : α}
variable {g : Grp}
end
/-! ### mixed parts -/
end TB

/-! TbTk: one-row ways taken on to one thing more. -/
namespace TB
open PySem
section
variable {t : Tbl} {e : Int}
end
end TB

/-! TbTl: what taking on tells: the greater part, and its one-row ways. -/
namespace TB
open PySem
section
variable {t : Tbl} {e : Int}
end
end TB

/-! TbOns: all one-row ways of a part. -/
namespace TB
open PySem
section
variable {t : Tbl} {e : Int}
open Classical in
end
end TB

/-! TbAsk: what is refused where one-row ways are asked; lists turned and shortened. -/
namespace TB
open PySem PySem.Spec PyProof.Rows L2
noncomputable def SrvOk (L : Nat) (sp : Option Int) (m : Int) : Prop := (sp = none ∧ m = (L : Int)) ∨ (sp = some m ∧ (L : Int) ≤ m ∧ m % (L : Int) = 0 ∧ m ≤ 60)
theorem SrvOk.pos {L : Nat} {sp : Option Int} {m : Int} (h : SrvOk L sp m) (hL : 1 ≤ L) : 0 < m := by
  rcases h with ⟨_, rfl⟩ | ⟨_, h, _⟩ <;> omega
theorem SrvOk.le {L : Nat} {sp : Option Int} {m : Int} (h : SrvOk L sp m) (hL : L ≤ 60) : m ≤ 60 := by
  rcases h with ⟨_, rfl⟩ | ⟨_, _, _, h⟩ <;> omega
theorem SrvOk.one {L : Nat} {sp : Option Int} {m m' : Int} (h : SrvOk L sp m) (h' : SrvOk L sp m') : m = m' := by
  rcases h with ⟨rfl, rfl⟩ | ⟨rfl, _⟩
  · rcases h' with ⟨_, rfl⟩ | ⟨z, _⟩
    · rfl
    · cases z
  · rcases h' with ⟨z, _⟩ | ⟨z, _⟩
    · cases z
    · cases z; rfl
theorem SrvOk.mod {L : Nat} {sp : Option Int} {m : Int} (h : SrvOk L sp m) : m % (L : Int) = 0 := by
  rcases h with ⟨_, rfl⟩ | ⟨_, _, h, _⟩
  · exact Int.emod_self
  · exact h
section
variable {c : Cn} {Γ : List Sl} {ta tb te : TE} {s : Sl} {α : Type} {_ : Rp α} {P : Po}
end
end TB

/-! ### l_unit_of -/
namespace TB
open PySem L2
--use TbDuw
--use TbAsk
noncomputable def T_l_unit_of : Tm := tm1 fun (t : Tbl) ok _ => SizeOk t ∧ (∀ e, InT t e → IsUnit t e → ok (.im e)) ∧ (NoU t → ok (.im (-1 : Int)))
theorem unit_is {t : Tbl} (hs : SizeOk t) {e : Int} (he : InT t e) : (gt t e = irange t.length ∧ (t.map fun r => gt r e) = gt t e) ↔ IsUnit t e := by
  have rl : (gt t e).length = t.length := hs.2.2 _ (gt_mem he.1 he.2)
  constructor
  · rintro ⟨h1, h2⟩ a a0 a1
    have e1 : gt (gt t e) a = a := by
      rw [h1]
      have := gt_map (f := fun x : Int => x) a0 a1
      rwa [List.map_id'] at this
    refine ⟨e1, ?_⟩
    have e2 : gt (t.map fun r => gt r e) a = gt (gt t a) e := gt_mapL a0 a1
    rw [h2, e1] at e2
    exact e2.symm
  · intro h
    have e1 : gt t e = irange t.length := by
      refine List.ext_getElem (by rw [rl, irange_len, Int.toNat_natCast]) fun i h1 h2 => ?_
      rw [irange_get, ← gt_get h1]
      exact (h (i : Int) (by omega) (by omega)).1
    refine ⟨e1, ?_⟩
    rw [e1]
    refine List.ext_getElem (by rw [List.length_map, irange_len, Int.toNat_natCast]) fun i h1 h2 => ?_
    rw [List.length_map] at h1
    rw [List.getElem_map, irange_get, ← gt_get h1]
    exact (h (i : Int) (by omega) (by omega)).2
noncomputable def t_l_unit_of (Z : Zz) (X : WX) : TS :=
  (tSeq (tFor (iEnum Z.K (tCons (tVar 0) tNil)) (gTup Z.K 2 (gCons (gName 1) (gCons (gName 2) gNil)))
  (tSeq (tAsg (tLc (iList Z.K (tVar 0)) (gName 4) tYes (tOp (gIx Z.K) (tVar 4) (tVar 1)) [4]) (gName 3))
  (tIfS (tAnd (tTest (tOp (gEq Z.K) (tVar 2) (tLstRg (tRg1 (tCB (gLen Z.K) (tCons (tVar 0) tNil)))))) (tTest (tOp (gEq Z.K) (tVar 3) (tVar 2))))
  (tRet (tVar 1))
  tNext)))
  (tRet (tUn uNeg (tC (.int 1)))))
theorem w_l_unit_of (Z : Zz) (X : WX) (ss : List Sl) (ok : Sl → Prop) (er : Rf → Prop) (h : T_l_unit_of ss ok er) : WF Z X er (ss ++ List.replicate (5 - ss.length) .un) (t_l_unit_of Z X) ok := by
  obtain ⟨t, rfl, hs, k1, k2⟩ := h
  show W _ [.im t, .un, .un, .un, .un] _ _
  unfold t_l_unit_of
  have tl := hs.2.1
  refine w_seq (w_forE (xs := t) (fun i Gs => ∃ s1 s2 s3 : Sl, Gs = [.im t, s1, s2, s3, .un] ∧ ∀ e : Int, 0 ≤ e → e < i → ¬ IsUnit t e) (ev_var rfl) ⟨_, _, _, rfl, fun _ _ _ => by omega⟩ ?_ ?_)
  · rintro i Gs hi ⟨s1, s2, s3, rfl, hn⟩
    walk_at "nz"
    have hx : InT t (i : Int) := ⟨by omega, by omega⟩
    have gi : gt t (i : Int) = t[i] := gt_nat hi
    have ui := unit_is hs hx
    rw [gi] at ui
    have rl : ∀ r ∈ t, r.length = t.length := hs.2.2
    generalize t[i] = row at ui
    refine w_seq (w_asg (s := .im (t.map fun r => gt r (i : Int))) (ev_fr ?h1) ?_)
    case h1 => exact ev_mapL (xs := t) (fun r => gt r (i : Int)) (ev_var rfl) (by omega) (by simp) ⟨.inl rfl, trivial⟩ fun r hr => ev_ix (ev_var rfl) (ev_var rfl) (by omega) (by have := rl r hr; omega)
    walk_at "nz"
    refine w_if (b := decide (row = irange t.length) && decide ((t.map fun r => gt r (i : Int)) = row)) (et_and (et_test (ev_eqL (ev_var rfl) (ev_fr (ev_listRg (n := (t.length : Int)) (ev_len (ev_var rfl)) (by omega) (by omega))))) fun _ => et_test (ev_eqL (ev_var rfl) (ev_var rfl))) (fun hb => ?_) (fun hb => w_next ?_)
    · rw [Bool.and_eq_true, decide_eq_true_iff, decide_eq_true_iff] at hb
      exact w_ret (ev_var rfl) (k1 _ hx (ui.mp hb))
    · refine ⟨_, _, _, rfl, fun e e0 e1 => ?_⟩
      by_cases c : e = (i : Int)
      · subst c
        intro z
        obtain ⟨z1, z2⟩ := ui.mpr z
        rw [decide_eq_true z1, decide_eq_true z2] at hb
        cases hb
      · exact hn e e0 (by omega)
  · rintro Gs ⟨s1, s2, s3, rfl, hn⟩
    exact w_ret (ev_neg ev_int) (k2 fun e he => hn e he.1 (by have := he.2; omega))
end TB

/-! ### l_backs -/
namespace TB
open PySem L2
--use TbDuw
--use TbAsk
--use TbIn
noncomputable def T_l_backs : Tm := tm2 fun (t : Tbl) (u : Int) ok _ => SizeOk t ∧ (∀ a, NoB t u a → ok (.ol [xS "back", .i a])) ∧ ((∀ a, InT t a → ∃ b, InT t b ∧ IsBack t u a b) → ok (.ol ((irange t.length).map fun a => IX.i (bkf t u a))))
noncomputable def t_l_backs (Z : Zz) (X : WX) : TS :=
  (tSeq (tAsg (tLst tNil) (gName 2))
  (tSeq (tFor (iRng1 (tCons (tCB (gLen Z.K) (tCons (tVar 0) tNil)) tNil)) (gName 3)
  (tSeq (tAsg (tLc (iRng1 (tCons (tCB (gLen Z.K) (tCons (tVar 0) tNil)) tNil)) (gName 5) (tTest (tOp (gEq Z.K) (tOp (gIx Z.K) (tOp (gIx Z.K) (tVar 0) (tVar 3)) (tVar 5)) (tVar 1))) (tVar 5) [5]) (gName 4))
  (tSeq (tAsg (tLc (iList Z.K (tVar 4)) (gName 5) (tTest (tOp (gEq Z.K) (tOp (gIx Z.K) (tOp (gIx Z.K) (tVar 0) (tVar 5)) (tVar 3)) (tVar 1))) (tVar 5) [5]) (gName 4))
  (tSeq (tIfS (tTest (tOp (gEq Z.K) (tCB (gLen Z.K) (tCons (tVar 4) tNil)) (tC (.int 0))))
  (tRet (tLst (tCons (tC (.str ("back" : Str))) (tCons (tVar 3) tNil))))
  tNext)
  (tDrop (tBM Z.K "list" rAppend (tVar 2) (tCons (tOp (gIx Z.K) (tVar 4) (tC (.int 0))) tNil)))))))
  (tRet (tVar 2))))
theorem w_l_backs (Z : Zz) (X : WX) (ss : List Sl) (ok : Sl → Prop) (er : Rf → Prop) (h : T_l_backs ss ok er) : WF Z X er (ss ++ List.replicate (6 - ss.length) .un) (t_l_backs Z X) ok := by
  obtain ⟨t, u, rfl, hs, k1, k2⟩ := h
  show W _ [.im t, .im u, .un, .un, .un, .un] _ _
  unfold t_l_backs
  have tl := hs.2.1
  have row : ∀ {a : Int}, InT t a → ((gt t a).length : Int) = t.length := fun ha => by rw [hs.2.2 _ (gt_mem ha.1 ha.2)]
  refine w_seq (w_asg (s := .ol ([] : List IX)) ev_nil ?_)
  walk_at "nz"
  refine w_seq (w_forR (n := (t.length : Int)) (fun i Gs => ∃ s3 s4 : Sl, Gs = [.im t, .im u, .ol ((irange (i : Int)).map fun a => IX.i (bkf t u a)), s3, s4, .un] ∧ ∀ a, 0 ≤ a → a < (i : Int) → ∃ b, InT t b ∧ IsBack t u a b) (ev_len (ev_var rfl)) (by omega) (by omega) ⟨_, _, rfl, fun _ _ _ => by omega⟩ ?_ ?_)
  · rintro i Gs hi ⟨s3, s4, rfl, gd⟩
    walk_at "nz"
    have ha : InT t (i : Int) := ⟨by omega, hi⟩
    have bl : ((irange (i : Int)).map fun a => IX.i (bkf t u a)).length ≤ 23 := by rw [List.length_map, irange_len]; omega
    refine w_seq (w_asg (s := .im ((irange t.length).filter fun b => decide (en t (i : Int) b = u))) (ev_fr (ev_is (s := .ol (((irange t.length).filter fun b => decide (en t (i : Int) b = u)).map fun b => b)) ?h1 (by rw [List.map_id']))) ?_)
    case h1 => exact ev_filtR (n := (t.length : Int)) (fun b => decide (en t (i : Int) b = u)) (fun b => b) (ev_len (ev_var rfl)) (by omega) (by omega) (by simp) ⟨.inl rfl, trivial⟩ (fun b b0 b1 => et_test (ev_eqI (ev_ix (ev_ix (ev_var rfl) (ev_var rfl) ha.1 ha.2) (ev_var rfl) b0 (by have := row ha; omega)) (ev_var rfl))) fun b _ _ _ => ev_var rfl
    walk_at "nz"
    have fi : ∀ b ∈ (irange t.length).filter (fun b => decide (en t (i : Int) b = u)), InT t b := fun b hb => mem_irange.mp (List.mem_filter.mp hb).1
    have fl := List.length_filter_le (fun b => decide (en t (i : Int) b = u)) (irange t.length)
    rw [irange_len] at fl
    have e2 : ((irange t.length).filter fun b => decide (en t (i : Int) b = u)).filter (fun b => decide (en t b (i : Int) = u)) = (irange t.length).filter fun b => decide (IsBack t u (i : Int) b) := by
      rw [List.filter_filter]
      refine List.filter_congr fun b _ => ?_
      rw [Bool.and_comm, ← Bool.decide_and]
      exact decide_eq_decide.mpr Iff.rfl
    refine w_seq (w_asg (s := .im ((irange t.length).filter fun b => decide (IsBack t u (i : Int) b))) (ev_fr (ev_is (s := .ol ((((irange t.length).filter fun b => decide (en t (i : Int) b = u)).filter fun b => decide (en t b (i : Int) = u)).map fun b => b)) ?h2 (by rw [List.map_id', e2]))) ?_)
    case h2 => exact ev_filtL (xs := (irange t.length).filter fun b => decide (en t (i : Int) b = u)) (fun b => decide (en t b (i : Int) = u)) (fun b => b) (ev_var rfl) (by omega) (by simp) ⟨.inl rfl, trivial⟩ (fun b hb => et_test (ev_eqI (ev_ix (ev_ix (ev_var rfl) (ev_var rfl) (fi b hb).1 (fi b hb).2) (ev_var rfl) ha.1 (by have := row (fi b hb); omega)) (ev_var rfl))) fun b _ _ => ev_var rfl
    walk_at "nz"
    have mem : ∀ b, b ∈ (irange t.length).filter (fun b => decide (IsBack t u (i : Int) b)) ↔ InT t b ∧ IsBack t u (i : Int) b := fun b => by rw [List.mem_filter, mem_irange, decide_eq_true_iff]; exact Iff.rfl
    have hd : ∀ (h : 0 < ((irange t.length).filter fun b => decide (IsBack t u (i : Int) b)).length), gt ((irange t.length).filter fun b => decide (IsBack t u (i : Int) b)) 0 = bkf t u (i : Int) := fun h => by
      unfold bkf
      rw [← List.head?_filter]
      generalize (irange t.length).filter (fun b => decide (IsBack t u (i : Int) b)) = L at h
      cases L with
      | nil => simp at h
      | cons a L => rfl
    generalize (irange t.length).filter (fun b => decide (IsBack t u (i : Int) b)) = bs at mem hd
    refine w_seq (w_if (et_test (ev_eqI (ev_len (ev_var rfl)) ev_int)) (fun hb => ?_) (fun hb => w_next ?_))
    · have hb' : bs.length = 0 := by have := of_decide_eq_true hb; omega
      refine w_ret (s := .ol [xS "back", .i (i : Int)]) (ev_lstH (evh_cons (ev_isS (by decide +kernel) ev_str) (evh_cons (ev_isI (ev_var rfl)) evh_nil)) (by simp)) (k1 _ ⟨ha, fun b ib kb => ?_, gd⟩)
      have := List.length_pos_of_mem ((mem b).mpr ⟨ib, kb⟩)
      omega
    · have hb' : 0 < bs.length := by have := of_decide_eq_false hb; omega
      have h0 := hd hb'
      obtain ⟨ib, kb⟩ := (mem _).mp (gt_mem (xs := bs) (i := 0) (by decide) (by omega))
      refine w_app (i := 2) (y := IX.i (bkf t u (i : Int))) rfl (ev_isI (ev_to (ev_ix (ev_var rfl) ev_int (by decide) (by omega)) h0)) (by omega) ?_
      rw [show ((i + 1 : Nat) : Int) = (i : Int) + 1 by omega, irange_succ, List.map_append]
      refine ⟨_, _, rfl, fun a a0 a1 => ?_⟩
      · by_cases c : a = (i : Int)
        · subst c; exact ⟨_, ib, kb⟩
        · exact gd a a0 (by omega)
  · rintro Gs ⟨s3, s4, rfl, gd⟩
    exact w_retO val_ol rfl (by
      have := k2 fun a ha => gd a ha.1 (by have := ha.2; omega)
      rw [Int.toNat_natCast]
      exact this)
end TB

/-! ### l_apart -/
namespace TB
open PySem L2
--use TbDuw
--use TbAsk
noncomputable def T_l_apart : Tm := tm1 fun (t : Tbl) ok _ => SizeOk t ∧ NoStg t ∧ (∀ a b c, FirstBad t a b c → ok (.ol [xS "together", .i a, .i b, .i c])) ∧ (AllAsc t → ok (.ol ([] : List IX)))
theorem en_inA {t : Tbl} (hs : SizeOk t) (hn : NoStg t) {a b : Int} (ha : InT t a) (hb : InT t b) : InT t (en t a b) := by
  have h1 : (gt t a).length = t.length := hs.2.2 _ (gt_mem ha.1 ha.2)
  exact hn _ (gt_mem ha.1 ha.2) _ (gt_mem hb.1 (by rw [h1]; exact hb.2))
noncomputable def t_l_apart (Z : Zz) (X : WX) : TS :=
  (tSeq (tAsg (tCB (gLen Z.K) (tCons (tVar 0) tNil)) (gName 1))
  (tSeq (tFor (iRng1 (tCons (tVar 1) tNil)) (gName 2)
  (tFor (iRng1 (tCons (tVar 1) tNil)) (gName 3)
  (tFor (iRng1 (tCons (tVar 1) tNil)) (gName 4)
  (tIfS (tTest (tOp (gNe Z.K) (tOp (gIx Z.K) (tOp (gIx Z.K) (tVar 0) (tOp (gIx Z.K) (tOp (gIx Z.K) (tVar 0) (tVar 2)) (tVar 3))) (tVar 4)) (tOp (gIx Z.K) (tOp (gIx Z.K) (tVar 0) (tVar 2)) (tOp (gIx Z.K) (tOp (gIx Z.K) (tVar 0) (tVar 3)) (tVar 4)))))
  (tRet (tLst (tCons (tC (.str ("together" : Str))) (tCons (tVar 2) (tCons (tVar 3) (tCons (tVar 4) tNil))))))
  tNext))))
  (tRet (tLst tNil))))
theorem w_l_apart (Z : Zz) (X : WX) (ss : List Sl) (ok : Sl → Prop) (er : Rf → Prop) (h : T_l_apart ss ok er) : WF Z X er (ss ++ List.replicate (5 - ss.length) .un) (t_l_apart Z X) ok := by
  obtain ⟨t, rfl, hs, hn, k1, k2⟩ := h
  show W _ [.im t, .un, .un, .un, .un] _ _
  unfold t_l_apart
  have tl := hs.2.1
  have row : ∀ {a : Int}, InT t a → ((gt t a).length : Int) = t.length := fun ha => by rw [hs.2.2 _ (gt_mem ha.1 ha.2)]
  have cl : ∀ {a b : Int}, InT t a → InT t b → InT t (en t a b) := fun ha hb => en_inA hs hn ha hb
  refine w_seq (w_asg (s := .im (t.length : Int)) (ev_len (ev_var rfl)) ?_)
  walk_at "nz"
  refine w_seq (w_forR (n := (t.length : Int)) (fun i Gs => ∃ s2 s3 s4 : Sl, Gs = [.im t, .im (t.length : Int), s2, s3, s4] ∧ ∀ x y z, InT t x → InT t y → InT t z → x < (i : Int) → Asc t x y z) (ev_var rfl) (by omega) (by omega) ⟨_, _, _, rfl, fun x y z hx _ _ q => by have := hx.1; omega⟩ ?_ ?_)
  · rintro i Gs hi ⟨s2, s3, s4, rfl, r1⟩
    walk_at "nz"
    have ha : InT t (i : Int) := ⟨by omega, hi⟩
    refine w_forR (n := (t.length : Int)) (fun j Gs => ∃ s3 s4 : Sl, Gs = [.im t, .im (t.length : Int), .im (i : Int), s3, s4] ∧ ∀ y z, InT t y → InT t z → y < (j : Int) → Asc t (i : Int) y z) (ev_var rfl) (by omega) (by omega) ⟨_, _, rfl, fun y z hy _ q => by have := hy.1; omega⟩ ?_ ?_
    · rintro j Gs hj ⟨s3, s4, rfl, r2⟩
      walk_at "nz"
      have hb : InT t (j : Int) := ⟨by omega, hj⟩
      refine w_forR (n := (t.length : Int)) (fun q Gs => ∃ s4 : Sl, Gs = [.im t, .im (t.length : Int), .im (i : Int), .im (j : Int), s4] ∧ ∀ z, InT t z → z < (q : Int) → Asc t (i : Int) (j : Int) z) (ev_var rfl) (by omega) (by omega) ⟨_, rfl, fun z hz q => by have := hz.1; omega⟩ ?_ ?_
      · rintro q Gs hq ⟨s4, rfl, r3⟩
        walk_at "nz"
        have hc : InT t (q : Int) := ⟨by omega, hq⟩
        have hab := cl ha hb
        have hbc := cl hb hc
        refine w_if (b := !decide (en t (en t (i : Int) (j : Int)) (q : Int) = en t (i : Int) (en t (j : Int) (q : Int)))) (et_test (ev_neI (ev_ix (ev_ix (ev_var rfl) (ev_ix (ev_ix (ev_var rfl) (ev_var rfl) ha.1 ha.2) (ev_var rfl) hb.1 (by rw [row ha]; exact hb.2)) hab.1 hab.2) (ev_var rfl) hc.1 (by rw [row hab]; exact hc.2)) (ev_ix (ev_ix (ev_var rfl) (ev_var rfl) ha.1 ha.2) (ev_ix (ev_ix (ev_var rfl) (ev_var rfl) hb.1 hb.2) (ev_var rfl) hc.1 (by rw [row hb]; exact hc.2)) hbc.1 (by rw [row ha]; exact hbc.2)))) (fun hd => ?_) (fun hd => w_next ?_)
        · have hd' : ¬ Asc t (i : Int) (j : Int) (q : Int) := by
            intro z
            have z' : en t (en t (i : Int) (j : Int)) (q : Int) = en t (i : Int) (en t (j : Int) (q : Int)) := z
            rw [decide_eq_true z'] at hd
            cases hd
          exact w_ret (s := .ol [xS "together", .i (i : Int), .i (j : Int), .i (q : Int)]) (ev_lstH (evh_cons (ev_isS (by decide +kernel) ev_str) (evh_cons (ev_isI (ev_var rfl)) (evh_cons (ev_isI (ev_var rfl)) (evh_cons (ev_isI (ev_var rfl)) evh_nil)))) (by simp)) (k1 _ _ _ ⟨ha, hb, hc, hd', r1, r2, r3⟩)
        · refine ⟨_, rfl, fun z hz zq => ?_⟩
          by_cases c : z = (q : Int)
          · subst c
            have : en t (en t (i : Int) (j : Int)) (q : Int) = en t (i : Int) (en t (j : Int) (q : Int)) := by simpa using hd
            exact this
          · exact r3 z hz (by omega)
      · rintro Gs ⟨s4, rfl, r3⟩
        refine ⟨_, _, rfl, fun y z hy hz yq => ?_⟩
        by_cases c : y = (j : Int)
        · subst c; exact r3 z hz (by have := hz.2; omega)
        · exact r2 y z hy hz (by omega)
    · rintro Gs ⟨s3, s4, rfl, r2⟩
      refine ⟨_, _, _, rfl, fun x y z hx hy hz xq => ?_⟩
      by_cases c : x = (i : Int)
      · subst c; exact r2 y z hy hz (by have := hy.2; omega)
      · exact r1 x y z hx hy hz (by omega)
  · rintro Gs ⟨s2, s3, s4, rfl, r1⟩
    exact w_ret (s := .ol ([] : List IX)) ev_nil (k2 fun a b c ha hb hc => r1 a b c ha hb hc (by have := ha.2; omega))
end TB

/-! ### l_due -/
namespace TB
open PySem L2
--use TbDuw
--use TbAsk
noncomputable def T_l_due : Tm := tm1 fun (t : Tbl) ok _ => SizeOk t ∧ NoStg t ∧ ∀ D, DueG t D → ok (.ol D)
noncomputable def t_l_due (Z : Zz) (X : WX) : TS :=
  (tSeq (tAsg (tCallSD (spOf Z T_l_unit_of) [] (WE X) (tCons (tVar 0) tNil)) (gName 1))
  (tSeq (tIfS (tTest (tOp gLt (tVar 1) (tC (.int 0))))
  (tRet (tLst (tCons (tC (.str ("unit" : Str))) tNil)))
  tNext)
  (tSeq (tAsg (tCallSD (spOf Z T_l_backs) [] (WE X) (tCons (tVar 0) (tCons (tVar 1) tNil))) (gName 2))
  (tSeq (tIfS (tTest (tOp (gEq Z.K) (tOp (gIx Z.K) (tVar 2) (tC (.int 0))) (tC (.str ("back" : Str)))))
  (tRet (tVar 2))
  tNext)
  (tRet (tCallSD (spOf Z T_l_apart) [] (WE X) (tCons (tVar 0) tNil)))))))
theorem w_l_due (Z : Zz) (X : WX) (ss : List Sl) (ok : Sl → Prop) (er : Rf → Prop) (h : T_l_due ss ok er) : WF Z X er (ss ++ List.replicate (3 - ss.length) .un) (t_l_due Z X) ok := by
  obtain ⟨t, rfl, hs, hn, k⟩ := h
  show W _ [.im t, .un, .un] _ _
  unfold t_l_due
  have tl := hs.1
  refine w_seq (w_asgS (S := fun s => ∃ u : Int, s = .im u ∧ ((NoU t ∧ u = -1) ∨ (InT t u ∧ IsUnit t u))) (es_call (ea_cons (ev_var rfl) ea_nil) ⟨_, rfl, hs, fun e he ie => ⟨e, rfl, .inr ⟨he, ie⟩⟩, fun z => ⟨-1, rfl, .inl ⟨z, rfl⟩⟩⟩) ?_)
  rintro _ ⟨u, rfl, hu⟩
  walk_at "nz"
  refine w_seq (w_if (et_test (ev_lt (ev_var rfl) ev_int)) (fun hb => ?_) (fun hb => w_next ?_))
  · have hb' := of_decide_eq_true hb
    refine w_ret (s := .ol [xS "unit"]) (ev_lstH (evh_cons (ev_isS (by decide +kernel) ev_str) evh_nil) (by simp)) (k _ (.inl ⟨?_, rfl⟩))
    rcases hu with ⟨z, _⟩ | ⟨z, _⟩
    · exact z
    · have := z.1; omega
  have hb' := of_decide_eq_false hb
  obtain ⟨iu, uu⟩ : InT t u ∧ IsUnit t u := by
    rcases hu with ⟨_, rfl⟩ | z
    · omega
    · exact z
  have k' : ∀ D, ((∃ a, NoB t u a ∧ D = [xS "back", .i a]) ∨ ((∀ a, InT t a → ∃ b, InT t b ∧ IsBack t u a b) ∧ ((∃ a b c, FirstBad t a b c ∧ D = [xS "together", .i a, .i b, .i c]) ∨ (AllAsc t ∧ D = [])))) → ok (.ol D) := fun D h => k D (.inr ⟨u, iu, uu, h⟩)
  refine w_seq (w_asgS (S := fun s => ∃ D : List IX, s = .ol D ∧ ((∃ a, NoB t u a ∧ D = [xS "back", .i a]) ∨ ((∀ a, InT t a → ∃ b, InT t b ∧ IsBack t u a b) ∧ D = (irange t.length).map fun a => IX.i (bkf t u a)))) (es_call (ea_cons (ev_var rfl) (ea_cons (ev_var rfl) ea_nil)) ⟨_, _, rfl, hs, fun a h => ⟨_, rfl, .inl ⟨a, h, rfl⟩⟩, fun h => ⟨_, rfl, .inr ⟨h, rfl⟩⟩⟩) ?_)
  rintro _ ⟨D, rfl, hD⟩
  walk_at "nz"
  have Dl : 0 < D.length := by
    rcases hD with ⟨a, _, rfl⟩ | ⟨_, rfl⟩
    · simp
    · rw [List.length_map, irange_len]; omega
  refine w_seq (w_if (et_test (ev_eqD (x := gt D 0) (y := xS "back") (ev_ixO rfl ev_int (by decide) (by omega)) (ev_isS (by decide +kernel) ev_str) (by decide))) (fun hb => ?_) (fun hb => w_next ?_))
  · refine w_retO val_ol rfl (k' _ (.inl ?_))
    rcases hD with h | ⟨_, rfl⟩
    · exact h
    · exfalso
      have hb := of_decide_eq_true hb
      rw [gt_map (by decide) (by omega)] at hb
      cases hb
  · obtain ⟨bk, _⟩ : (∀ a, InT t a → ∃ b, InT t b ∧ IsBack t u a b) ∧ True := by
      rcases hD with ⟨a, _, rfl⟩ | ⟨h, _⟩
      · exact absurd rfl (of_decide_eq_false hb)
      · exact ⟨h, trivial⟩
    exact w_retS (es_call (ea_cons (ev_var rfl) ea_nil) ⟨_, rfl, hs, hn, fun a b c h => k' _ (.inr ⟨bk, .inl ⟨a, b, c, h, rfl⟩⟩), fun h => k' _ (.inr ⟨bk, .inr ⟨h, rfl⟩⟩)⟩) fun s h => h
end TB

/-! ### l_told -/
namespace TB
open PySem L2
--use TbDuw
--use TbEx
--extra T.exs (by decide) (by decide) (by decide) (by decide)
noncomputable def T_l_told : Tm := tm1 fun (t : Tbl) ok _ => SizeOk t ∧ NoStg t ∧ ∀ D, DueG t D → ok (.ol D)
noncomputable def t_l_told (Z : Zz) (X : WX) : TS :=
  (tSeq (tAsg (tLst tNil) (gName 1))
  (tSeq (tTry Z.K [(.ref (Z.cls .NoUnit), none, fun a_ cls_ d_ => (tAsg (tLst (tCons (tC (.str ("unit" : Str))) tNil)) (gName 1))), (.ref (Z.cls .NoBack), some 2, fun a_ cls_ d_ => (tAsg (tLst (tCons (tC (.str ("back" : Str))) (tCons (tXf a_ cls_ d_ (Z.cls .NoBack) "thing" (tVar 2)) tNil))) (gName 1))), (.ref (Z.cls .NotTogether), some 2, fun a_ cls_ d_ => (tAsg (tLst (tCons (tC (.str ("together" : Str))) (tCons (tXf a_ cls_ d_ (Z.cls .NotTogether) "one" (tVar 2)) (tCons (tXf a_ cls_ d_ (Z.cls .NotTogether) "two" (tVar 2)) (tCons (tXf a_ cls_ d_ (Z.cls .NotTogether) "three" (tVar 2)) tNil))))) (gName 1))), (.ref (Z.cls .BookError), none, fun a_ cls_ d_ => (tAsg (tLst (tCons (tC (.str ("other" : Str))) tNil)) (gName 1)))] X (fun X => (tDrop (tCallSD (spOf Z T_group_of) [] (WE X) (tCons (tVar 0) tNil)))))
  (tSeq (tFor (iRng2 (tCons (tC (.int 1)) (tCons (tCB (gLen Z.K) (tCons (tVar 1) tNil)) tNil))) (gName 3)
  (tIfS (tOr (tNot (tB (tCB (rIsi Z.K) (tCons (tOp (gIx Z.K) (tVar 1) (tVar 3)) (tCons (tC (.ty "int")) tNil))))) (tB (tCB (rIsi Z.K) (tCons (tOp (gIx Z.K) (tVar 1) (tVar 3)) (tCons (tC (.ty "bool")) tNil)))))
  (tRet (tLst (tCons (tC (.str ("fields" : Str))) tNil)))
  tNext))
  (tRet (tVar 1)))))
theorem w_l_told {Z : Zz} {L : List CN} (hE : Exs Z L) (hL0 : .BookError ∈ L) (hL1 : .NoUnit ∈ L) (hL2 : .NoBack ∈ L) (hL3 : .NotTogether ∈ L) (X : WX) (ss : List Sl) (ok : Sl → Prop) (er : Rf → Prop) (h : T_l_told ss ok er) : WF Z X er (ss ++ List.replicate (4 - ss.length) .un) (t_l_told Z X) ok := by
  obtain ⟨t, rfl, hs, hn, k⟩ := h
  show W _ [.im t, .un, .un, .un] _ _
  unfold t_l_told
  refine w_seq (w_asg (s := .ol ([] : List IX)) ev_nil ?_)
  walk_at "nz"
  refine w_mid (fun G => ∃ D, G = [.im t, .ol D, .un, .un] ∧ DueG t D) ?_ ?_
  · refine w_try (fun r G => G = [.im t, .ol ([] : List IX), .un, .un] ∧ ExG t r) (fun X' => ?_) ?_
    · refine w_dropS (S := fun _ => DueG t []) (es_call (c := ⟨Z, X', _⟩) (ea_cons (ev_var rfl) ea_nil) ?_) fun _ hp => ⟨[], rfl, hp⟩
      exact ⟨t, rfl, hs, hn, fun z => ⟨rfl, .inl ⟨z, rfl⟩⟩, fun u hu iu => ⟨fun a ha => ⟨rfl, .inr ⟨u, hu, iu, .inl ⟨a, ha, rfl⟩⟩⟩, fun bk => ⟨fun as => .inr ⟨u, hu, iu, .inr ⟨bk, .inr ⟨as, rfl⟩⟩⟩, fun a b c f => ⟨rfl, .inr ⟨u, hu, iu, .inr ⟨bk, a, b, c, f, rfl⟩⟩⟩⟩⟩⟩
    · rintro r G ⟨rfl, ⟨hu, rfl⟩ | ⟨u, hu, iu, ⟨a, ha, rfl⟩ | ⟨bk, a, b, c, f, rfl⟩⟩⟩
      · refine ⟨true, hE.exm (D := .NoUnit) hL1 hL1, fun _ a' d => ?_, fun z => nomatch z⟩
        exact w_asg (s := .ol [xS "unit"]) (ev_lstH (evh_cons (ev_isS (by decide +kernel) ev_str) evh_nil) (by simp)) ⟨_, .inl rfl, _, rfl, .inl ⟨hu, rfl⟩⟩
      · refine ⟨false, hE.exm (D := .NoBack) hL2 hL1, (fun z => nomatch z), fun _ => ⟨true, hE.exm (D := .NoBack) hL2 hL2, fun _ a' d => ?_, fun z => nomatch z⟩⟩
        show W _ [.im t, .ol ([] : List IX), .ex a' d ⟨.NoBack, [("thing", .int a)]⟩, .un] _ _
        exact w_asg (s := .ol [xS "back", .i a]) (ev_lstH (evh_cons (ev_isS (by decide +kernel) ev_str) (evh_cons (ev_isI (ev_xf (c := ⟨Z, X, _⟩) rfl rfl lookup_here)) evh_nil)) (by simp)) ⟨_, .inl rfl, _, rfl, .inr ⟨u, hu, iu, .inl ⟨a, ha, rfl⟩⟩⟩
      · refine ⟨false, hE.exm (D := .NotTogether) hL3 hL1, (fun z => nomatch z), fun _ => ⟨false, hE.exm (D := .NotTogether) hL3 hL2, (fun z => nomatch z), fun _ => ⟨true, hE.exm (D := .NotTogether) hL3 hL3, fun _ a' d => ?_, fun z => nomatch z⟩⟩⟩
        show W _ [.im t, .ol ([] : List IX), .ex a' d ⟨.NotTogether, [("three", .int c), ("two", .int b), ("one", .int a)]⟩, .un] _ _
        refine w_asg (s := .ol [xS "together", .i a, .i b, .i c]) (ev_lstH (evh_cons (ev_isS (by decide +kernel) ev_str) (evh_cons (ev_isI (ev_xf (c := ⟨Z, X, _⟩) rfl rfl ?_)) (evh_cons (ev_isI (ev_xf (c := ⟨Z, X, _⟩) rfl rfl ?_)) (evh_cons (ev_isI (ev_xf (c := ⟨Z, X, _⟩) rfl rfl lookup_here)) evh_nil)))) (by simp)) ⟨_, .inl rfl, _, rfl, .inr ⟨u, hu, iu, .inr ⟨bk, .inl ⟨a, b, c, f, rfl⟩⟩⟩⟩
        · show List.lookup _ [_, _, _] = _
          rw [lookup_at (by decide +kernel), lookup_at (by decide +kernel), lookup_here]
        · show List.lookup _ [_, _, _] = _
          rw [lookup_at (by decide +kernel), lookup_here]
  · rintro G ⟨D, rfl, hD⟩
    obtain ⟨hDl, hDi⟩ := dueG_small hD
    refine w_seq (w_forR2 (m := 1) (n := (D.length : Int)) (fun i G => ∃ s3, G = [.im t, .ol D, .un, s3]) ev_int (ev_lenO rfl) (by decide) (by omega) ⟨_, rfl⟩ ?_ ?_)
    · rintro i G hi ⟨s3, rfl⟩
      walk_at "nz"
      obtain ⟨n, hn⟩ := hDi (1 + (i : Int)) (by omega) (by omega)
      have at_ : ∀ {G : List Sl}, G[1]? = some (.ol D) → G[3]? = some (.im (1 + (i : Int))) → Ev ⟨Z, X, fun r _ => er r⟩ G (tOp (gIx Z.K) (tVar 1) (tVar 3)) (.im n) := fun h1 h3 => ev_unI (ev_to (c := ⟨Z, X, fun r _ => er r⟩) (ev_ixO (c := ⟨Z, X, fun r _ => er r⟩) h1 (ev_var h3) (by omega) (by omega)) hn)
      exact w_if (b := false) (et_to (et_or (et_not (et_B (ev_isiII (at_ rfl rfl)))) fun _ => et_B (ev_isiIB (at_ rfl rfl))) rfl) (fun z => nomatch z) (fun _ => w_next ⟨_, rfl⟩)
    · rintro G ⟨s3, rfl⟩
      exact w_retO val_ol rfl (k D hD)
end TB

/-! ### l_called -/
namespace TB
open PySem L2
--use TbRd
--extra T.exs (by decide)
noncomputable def exN15 : List CN := clN.map (·.1)
noncomputable def T_l_called : Tm := tm1 fun (o : Option Rf) ok _ => (∀ r, o = some r → r.name ∈ exN15) ∧ ok (.ol (calF o))
noncomputable def t_l_called (Z : Zz) (X : WX) : TS :=
  (tSeq (tIfS (tTest (tOp gIs (tVar 0) (tC .non)))
  (tRet (tLst tNil))
  tNext)
  (tSeq (tAsg (tLst (tCons (tCB (rIsX Z.K) (tCons (tVar 0) (tCons (tC (.ref (Z.cls .BadSize))) tNil))) (tCons (tCB (rIsX Z.K) (tCons (tVar 0) (tCons (tC (.ref (Z.cls .Stranger))) tNil))) (tCons (tCB (rIsX Z.K) (tCons (tVar 0) (tCons (tC (.ref (Z.cls .NoUnit))) tNil))) (tCons (tCB (rIsX Z.K) (tCons (tVar 0) (tCons (tC (.ref (Z.cls .NoBack))) tNil))) tNil))))) (gName 1))
  (tSeq (tAsg (tOp gAdd (tVar 1) (tLst (tCons (tCB (rIsX Z.K) (tCons (tVar 0) (tCons (tC (.ref (Z.cls .NotTogether))) tNil))) (tCons (tCB (rIsX Z.K) (tCons (tVar 0) (tCons (tC (.ref (Z.cls .NoPart))) tNil))) (tCons (tCB (rIsX Z.K) (tCons (tVar 0) (tCons (tC (.ref (Z.cls .NotSteady))) tNil))) tNil))))) (gName 1))
  (tSeq (tAsg (tOp gAdd (tVar 1) (tLst (tCons (tCB (rIsX Z.K) (tCons (tVar 0) (tCons (tC (.ref (Z.cls .BadWheel))) tNil))) (tCons (tCB (rIsX Z.K) (tCons (tVar 0) (tCons (tC (.ref (Z.cls .NoMove))) tNil))) (tCons (tCB (rIsX Z.K) (tCons (tVar 0) (tCons (tC (.ref (Z.cls .BadMarks))) tNil))) tNil))))) (gName 1))
  (tSeq (tAsg (tOp gAdd (tVar 1) (tLst (tCons (tCB (rIsX Z.K) (tCons (tVar 0) (tCons (tC (.ref (Z.cls .NoWay))) tNil))) (tCons (tCB (rIsX Z.K) (tCons (tVar 0) (tCons (tC (.ref (Z.cls .NotKept))) tNil))) (tCons (tCB (rIsX Z.K) (tCons (tVar 0) (tCons (tC (.ref (Z.cls .OtherGroup))) tNil))) tNil))))) (gName 1))
  (tSeq (tAsg (tOp gAdd (tVar 1) (tLst (tCons (tCB (rIsX Z.K) (tCons (tVar 0) (tCons (tC (.ref (Z.cls .OtherWheel))) tNil))) (tCons (tCB (rIsX Z.K) (tCons (tVar 0) (tCons (tC (.ref (Z.cls .TooGreat))) tNil))) tNil)))) (gName 1))
  (tSeq (tAsg (tLst (tCons (tC (.str ("size" : Str))) (tCons (tC (.str ("stranger" : Str))) (tCons (tC (.str ("unit" : Str))) (tCons (tC (.str ("back" : Str))) (tCons (tC (.str ("together" : Str))) (tCons (tC (.str ("part" : Str))) (tCons (tC (.str ("steady" : Str))) (tCons (tC (.str ("wheel" : Str))) (tCons (tC (.str ("move" : Str))) (tCons (tC (.str ("marks" : Str))) tNil))))))))))) (gName 2))
  (tSeq (tAsg (tOp gAdd (tVar 2) (tLst (tCons (tC (.str ("way" : Str))) (tCons (tC (.str ("kept" : Str))) (tCons (tC (.str ("group" : Str))) (tCons (tC (.str ("otherwheel" : Str))) (tCons (tC (.str ("great" : Str))) tNil))))))) (gName 2))
  (tSeq (tAsg (tLc (iZip Z.K (tCons (tVar 2) (tCons (tVar 1) tNil))) (gTup Z.K 2 (gCons (gName 4) (gCons (gName 5) gNil))) (tB (tVar 5)) (tVar 4) [4, 5]) (gName 3))
  (tSeq (tIfS (tB (tCB (rIsX Z.K) (tCons (tVar 0) (tCons (tC (.ty "ValueError")) tNil))))
  (tRet (tVar 3))
  tNext)
  (tRet (tLst (tCons (tC (.str ("none" : Str))) tNil)))))))))))))
theorem w_l_called {Z : Zz} {L : List CN} (hE : Exs Z L) (hL : ∀ C ∈ exN15, C ∈ L) (X : WX) (ss : List Sl) (ok : Sl → Prop) (er : Rf → Prop) (h : T_l_called ss ok er) : WF Z X er (ss ++ List.replicate (6 - ss.length) .un) (t_l_called Z X) ok := by
  obtain ⟨o, rfl, ho, k⟩ := h
  show W _ [.im o, .un, .un, .un, .un, .un] _ _
  unfold t_l_called
  have nn : ∀ (Z : Zz) (R : Hp) (v : V) (d : Rf), Rp.rp Z R v d → v ≠ .non := fun Z R v d ⟨a, _, _, e, _⟩ z => by rw [e] at z; cases z
  refine w_seq (w_if (b := o.isNone) (et_test (ev_isNoneD (ev_var rfl) nn)) (fun hb => ?_) (fun hb => w_next ?_))
  · cases o with
    | none => exact w_ret ev_nil k
    | some r => cases hb
  cases o with
  | none => cases hb
  | some r =>
  have hr : ∀ r', some r = some r' → r'.name ∈ L := fun r' e => hL _ (ho r' e)
  have is : ∀ {c : Cn} {G : List Sl} {C : CN}, c.Z = Z → C ∈ exN15 → G[0]? = some (.im (some r)) → Ev c G (tCB (rIsX Z.K) (tCons (tVar 0) (tCons (tC (.ref (Z.cls C))) tNil))) (.im (subB r.name C)) := fun hZ hC h => by
    subst hZ
    exact ev_isX hE (hL _ hC) hr (ev_var h)
  have st : ∀ {c : Cn} {G : List Sl} (x : Str) (h : PyData.strOk x = true), Ev c G (tC (.str x)) (.im (IX.s x h)) := fun x h => ev_isS h ev_str
  refine w_seq (w_asg (s := .im [subB r.name .BadSize, subB r.name .Stranger, subB r.name .NoUnit, subB r.name .NoBack]) (ev_fr (ev_lstH (evh_cons (is rfl (by decide) rfl) (evh_cons (is rfl (by decide) rfl) (evh_cons (is rfl (by decide) rfl) (evh_cons (is rfl (by decide) rfl) evh_nil)))) (by simp))) ?_)
  walk_at "nz"
  refine w_seq (w_asg (s := .im ([subB r.name .BadSize, subB r.name .Stranger, subB r.name .NoUnit, subB r.name .NoBack] ++ [subB r.name .NotTogether, subB r.name .NoPart, subB r.name .NotSteady])) (ev_fr (ev_cat (ev_var rfl) (ev_fr (ev_lstH (evh_cons (is rfl (by decide) rfl) (evh_cons (is rfl (by decide) rfl) (evh_cons (is rfl (by decide) rfl) evh_nil))) (by simp))) (by simp))) ?_)
  walk_at "nz"
  refine w_seq (w_asg (s := .im ([subB r.name .BadSize, subB r.name .Stranger, subB r.name .NoUnit, subB r.name .NoBack, subB r.name .NotTogether, subB r.name .NoPart, subB r.name .NotSteady] ++ [subB r.name .BadWheel, subB r.name .NoMove, subB r.name .BadMarks])) (ev_fr (ev_cat (ev_var rfl) (ev_fr (ev_lstH (evh_cons (is rfl (by decide) rfl) (evh_cons (is rfl (by decide) rfl) (evh_cons (is rfl (by decide) rfl) evh_nil))) (by simp))) (by simp))) ?_)
  walk_at "nz"
  refine w_seq (w_asg (s := .im ([subB r.name .BadSize, subB r.name .Stranger, subB r.name .NoUnit, subB r.name .NoBack, subB r.name .NotTogether, subB r.name .NoPart, subB r.name .NotSteady, subB r.name .BadWheel, subB r.name .NoMove, subB r.name .BadMarks] ++ [subB r.name .NoWay, subB r.name .NotKept, subB r.name .OtherGroup])) (ev_fr (ev_cat (ev_var rfl) (ev_fr (ev_lstH (evh_cons (is rfl (by decide) rfl) (evh_cons (is rfl (by decide) rfl) (evh_cons (is rfl (by decide) rfl) evh_nil))) (by simp))) (by simp))) ?_)
  walk_at "nz"
  refine w_seq (w_asg (s := .im ([subB r.name .BadSize, subB r.name .Stranger, subB r.name .NoUnit, subB r.name .NoBack, subB r.name .NotTogether, subB r.name .NoPart, subB r.name .NotSteady, subB r.name .BadWheel, subB r.name .NoMove, subB r.name .BadMarks, subB r.name .NoWay, subB r.name .NotKept, subB r.name .OtherGroup] ++ [subB r.name .OtherWheel, subB r.name .TooGreat])) (ev_fr (ev_cat (ev_var rfl) (ev_fr (ev_lstH (evh_cons (is rfl (by decide) rfl) (evh_cons (is rfl (by decide) rfl) evh_nil)) (by simp))) (by simp))) ?_)
  walk_at "nz"
  refine w_seq (w_asg (s := .im [xS "size", xS "stranger", xS "unit", xS "back", xS "together", xS "part", xS "steady", xS "wheel", xS "move", xS "marks"]) (ev_fr (ev_lstH (evh_cons (st _ (by decide +kernel)) (evh_cons (st _ (by decide +kernel)) (evh_cons (st _ (by decide +kernel)) (evh_cons (st _ (by decide +kernel)) (evh_cons (st _ (by decide +kernel)) (evh_cons (st _ (by decide +kernel)) (evh_cons (st _ (by decide +kernel)) (evh_cons (st _ (by decide +kernel)) (evh_cons (st _ (by decide +kernel)) (evh_cons (st _ (by decide +kernel)) evh_nil)))))))))) (by simp))) ?_)
  walk_at "nz"
  refine w_seq (w_asg (s := .im ([xS "size", xS "stranger", xS "unit", xS "back", xS "together", xS "part", xS "steady", xS "wheel", xS "move", xS "marks"] ++ [xS "way", xS "kept", xS "group", xS "otherwheel", xS "great"])) (ev_fr (ev_cat (ev_var rfl) (ev_fr (ev_lstH (evh_cons (st _ (by decide +kernel)) (evh_cons (st _ (by decide +kernel)) (evh_cons (st _ (by decide +kernel)) (evh_cons (st _ (by decide +kernel)) (evh_cons (st _ (by decide +kernel)) evh_nil))))) (by simp))) (by simp))) ?_)
  walk_at "nz"
  have eN : [xS "size", xS "stranger", xS "unit", xS "back", xS "together", xS "part", xS "steady", xS "wheel", xS "move", xS "marks", xS "way", xS "kept", xS "group", xS "otherwheel", xS "great"] = clN.map (·.2) := rfl
  have eB : [subB r.name .BadSize, subB r.name .Stranger, subB r.name .NoUnit, subB r.name .NoBack, subB r.name .NotTogether, subB r.name .NoPart, subB r.name .NotSteady, subB r.name .BadWheel, subB r.name .NoMove, subB r.name .BadMarks, subB r.name .NoWay, subB r.name .NotKept, subB r.name .OtherGroup, subB r.name .OtherWheel, subB r.name .TooGreat] = clN.map fun p => subB r.name p.1 := rfl
  rw [eN, eB]
  refine w_seq (w_asg (s := .ol (((clN.map (·.2)).zip (clN.map fun p => subB r.name p.1)).filter (·.2) |>.map (·.1))) ?hh ?_)
  case hh => exact ev_zipF (ev_var rfl) (ev_var rfl) (by decide) (by rw [List.length_map, List.length_map]) ⟨by simp, by simp⟩ ⟨.inl rfl, .inl rfl, trivial⟩ (fun x y => et_B (ev_var rfl)) (fun x y => ev_var rfl)
  walk_at "nz"
  have eF : (((clN.map (·.2)).zip (clN.map fun p => subB r.name p.1)).filter (·.2) |>.map (·.1)) = calF (some r) := by
    show _ = (clN.filter fun p => subB r.name p.1).map (·.2)
    rw [List.zip_map', List.filter_map, List.map_map]
    rfl
  rw [eF]
  refine w_seq (w_if (b := true) (et_to (et_B (ev_isXV hE hr (ev_var rfl))) rfl) (fun _ => w_retO val_ol rfl k) (fun z => nomatch z))
end TB

/-! ### l_flags -/
namespace TB
open PySem L2
--use TbDuw
--use TbEx
--extra T.exs (by decide) (by decide) (by decide) (by decide)
noncomputable def T_l_flags : Tm := tm1 fun (t : Tbl) ok _ => SizeOk t ∧ NoStg t ∧ ∀ D, DueG t D → ok (.ol (D.take 1))
noncomputable def t_l_flags (Z : Zz) (X : WX) : TS :=
  (tSeq (tAsg (tC .non) (gName 1))
  (tSeq (tTry Z.K [(.ref (Z.cls .BookError), some 2, fun a_ cls_ d_ => (tAsg (tVar 2) (gName 1)))] X (fun X => (tDrop (tCallSD (spOf Z T_group_of) [] (WE X) (tCons (tVar 0) tNil)))))
  (tRet (tCallSD (spOf Z T_l_called) [] (WE X) (tCons (tVar 1) tNil)))))
theorem w_l_flags {Z : Zz} {L : List CN} (hE : Exs Z L) (hL0 : .BookError ∈ L) (hL1 : .NoUnit ∈ L) (hL2 : .NoBack ∈ L) (hL3 : .NotTogether ∈ L) (X : WX) (ss : List Sl) (ok : Sl → Prop) (er : Rf → Prop) (h : T_l_flags ss ok er) : WF Z X er (ss ++ List.replicate (3 - ss.length) .un) (t_l_flags Z X) ok := by
  obtain ⟨t, rfl, hs, hn, k⟩ := h
  show W _ [.im t, .un, .un] _ _
  unfold t_l_flags
  refine w_seq (w_asg (s := .im (none : Option Rf)) ev_none ?_)
  walk_at "nz"
  refine w_mid (fun G => ∃ r : Option Rf, G = [.im t, .im r, .un] ∧ (∀ r', r = some r' → r'.name ∈ exN15) ∧ ∃ D, DueG t D ∧ calF r = D.take 1) ?_ ?_
  · refine w_try (fun r G => G = [.im t, .im (none : Option Rf), .un] ∧ ExG t r) (fun X' => ?_) ?_
    · refine w_dropS (S := fun _ => DueG t []) (es_call (c := ⟨Z, X', _⟩) (ea_cons (ev_var rfl) ea_nil) ?_) fun _ hp => ⟨none, rfl, fun _ z => (by cases z), [], hp, rfl⟩
      exact ⟨t, rfl, hs, hn, fun z => ⟨rfl, .inl ⟨z, rfl⟩⟩, fun u hu iu => ⟨fun a ha => ⟨rfl, .inr ⟨u, hu, iu, .inl ⟨a, ha, rfl⟩⟩⟩, fun bk => ⟨fun as => .inr ⟨u, hu, iu, .inr ⟨bk, .inr ⟨as, rfl⟩⟩⟩, fun a b c f => ⟨rfl, .inr ⟨u, hu, iu, .inr ⟨bk, a, b, c, f, rfl⟩⟩⟩⟩⟩⟩
    · rintro r G ⟨rfl, hr⟩
      have hnm : r.name = .NoUnit ∨ r.name = .NoBack ∨ r.name = .NotTogether := by
        rcases hr with ⟨_, rfl⟩ | ⟨u, hu, iu, ⟨a, _, rfl⟩ | ⟨_, a, b, c, _, rfl⟩⟩
        · exact .inl rfl
        · exact .inr (.inl rfl)
        · exact .inr (.inr rfl)
      refine ⟨true, ?_, fun _ a d => ?_, fun z => nomatch z⟩
      · rw [hE.exm (by rcases hnm with q | q | q <;> rw [q] <;> assumption) hL0]
        simp [subB]
      · show W _ [.im t, .im (none : Option Rf), .ex a d r] _ _
        refine w_keep (i := 2) (j := 1) (by decide) rfl (by simp) ⟨some r, rfl, fun r' e => ?_, ?_⟩
        · cases e
          rcases hnm with q | q | q <;> rw [q] <;> decide
        · rcases hr with ⟨hu, rfl⟩ | ⟨u, hu, iu, ⟨a, ha, rfl⟩ | ⟨bk, a, b, c, f, rfl⟩⟩
          · exact ⟨_, .inl ⟨hu, rfl⟩, by show (clN.filter fun p => subB .NoUnit p.1).map (·.2) = [xS "unit"]; decide +kernel⟩
          · exact ⟨_, .inr ⟨u, hu, iu, .inl ⟨a, ha, rfl⟩⟩, by show (clN.filter fun p => subB .NoBack p.1).map (·.2) = [xS "back"]; decide +kernel⟩
          · exact ⟨_, .inr ⟨u, hu, iu, .inr ⟨bk, .inl ⟨a, b, c, f, rfl⟩⟩⟩, by show (clN.filter fun p => subB .NotTogether p.1).map (·.2) = [xS "together"]; decide +kernel⟩
  · rintro G ⟨r, rfl, hn, D, hD, e⟩
    have k := k D hD
    rw [← e] at k
    exact w_ret (ev_callN (ea_cons (ev_var rfl) ea_nil) ⟨_, rfl, hn, rfl⟩) k
end TB

/-! ### l_good -/
namespace TB
open PySem L2
--use TbDuw
--use TbAsk
noncomputable def T_l_good : Tm := tm1 fun (t : Tbl) ok _ => ∃ e, GTbl t e ∧ ok (.im true)
noncomputable def t_l_good (Z : Zz) (X : WX) : TS :=
  (tSeq (tAsg (tCallSD (spOf Z T_group_of) [] (WE X) (tCons (tLc (iList Z.K (tVar 0)) (gName 3) tYes (tCB (gList Z.K) (tCons (tVar 3) tNil)) [3]) tNil)) (gName 1))
  (tSeq (tAsg (tCallSD (spOf Z T_l_unit_of) [] (WE X) (tCons (tVar 0) tNil)) (gName 2))
  (tSeq (tIfS (tOr (tNot (tB (tCB (rIsi Z.K) (tCons (tFld Z.K (tVar 1) "unit") (tCons (tC (.ty "int")) tNil))))) (tB (tCB (rIsi Z.K) (tCons (tFld Z.K (tVar 1) "unit") (tCons (tC (.ty "bool")) tNil)))))
  (tRet (tC (.bl false)))
  tNext)
  (tSeq (tIfS (tOr (tTest (tOp (gNe Z.K) (tFld Z.K (tVar 1) "unit") (tVar 2))) (tTest (tOp (gNe Z.K) (tFld Z.K (tVar 1) "many") (tCB (gLen Z.K) (tCons (tVar 0) tNil)))))
  (tRet (tC (.bl false)))
  tNext)
  (tRet (tAndV (tOp (gEq Z.K) (tFld Z.K (tVar 1) "backs") (tCallSD (spOf Z T_l_backs) [] (WE X) (tCons (tVar 0) (tCons (tVar 2) tNil)))) (tOp (gEq Z.K) (tFld Z.K (tVar 1) "rows") (tVar 0))))))))
theorem w_l_good (Z : Zz) (X : WX) (ss : List Sl) (ok : Sl → Prop) (er : Rf → Prop) (h : T_l_good ss ok er) : WF Z X er (ss ++ List.replicate (4 - ss.length) .un) (t_l_good Z X) ok := by
  obtain ⟨t, rfl, e, G, k⟩ := h
  show W _ [.im t, .un, .un, .un] _ _
  unfold t_l_good
  have tl := G.sz.2.1
  refine w_seq (w_asg (s := .im (grpOf t e)) (ev_frF (ev_callN (s := .fo (grpOf t e)) (ea_cons (ev_fr (ev_copyT (ev_var rfl) (by omega) ⟨.inl rfl, trivial⟩ fun _ => rfl)) ea_nil) (gof_ok G _))) ?_)
  refine w_seq (w_asg (s := .im e) (ev_callN (ea_cons (ev_var rfl) ea_nil) ⟨_, rfl, G.sz, fun u hu iu => by rw [unit_one hu G.he iu G.un], fun z => absurd G.un (z e G.he)⟩) ?_)
  walk_at "nz"
  have un : ∀ {c : Cn} {Gs : List Sl}, Gs[1]? = some (.im (grpOf t e)) → Ev c Gs (tFld c.Z.K (tVar 1) "unit") (.im e) := fun h => ev_unit (ev_var h)
  refine w_seq (w_if (b := false) (et_to (et_or (et_not (et_B (ev_isiII (un rfl)))) fun _ => et_B (ev_isiIB (un rfl))) rfl) (fun z => nomatch z) (fun _ => w_next ?_))
  refine w_seq (w_if (b := false) (et_to (et_or (et_test (ev_neI (un rfl) (ev_var rfl))) fun _ => et_test (ev_neI (ev_to (ev_many (ev_var rfl)) rfl) (ev_len (ev_var rfl)))) (by simp [grpOf])) (fun z => nomatch z) (fun _ => w_next ?_))
  have e1 : (grpOf t e).backs.map IX.i = (irange t.length).map fun a => IX.i (bkf t e a) := by
    show ((irange t.length).map (bkf t e)).map IX.i = _
    rw [List.map_map]; rfl
  exact w_ret (ev_to (ev_andV (ev_eqD (x := (irange t.length).map fun a => IX.i (bkf t e a)) (y := (irange t.length).map fun a => IX.i (bkf t e a)) (ev_to (ev_isIL (ev_backs (ev_var rfl))) e1) (ev_fr (ev_callN (ea_cons (ev_var rfl) (ea_cons (ev_var rfl) ea_nil)) ⟨_, _, rfl, G.sz, fun a ha => absurd (G.bk a ha.ha) (fun ⟨b, hb, q⟩ => ha.no b hb q), fun _ => rfl⟩)) (by decide)) fun _ => ev_eqLL (ev_to (ev_rows (ev_var rfl)) (show (grpOf t e).rows = t from rfl)) (ev_var rfl)) (by simp)) k
end TB

/-! ### law -/
namespace TB
open PySem L2
--use TbDuw
--use TbAsk
noncomputable def t_law (Z : Zz) (X : WX) : TS :=
  (tSeq (tAsg (tCallSD (spOf Z T_l_made) [] (WE X) (tCons (tVar 0) tNil)) (gName 1))
  (tSeq (tAsg (tCallSD (spOf Z T_l_due) [] (WE X) (tCons (tVar 1) tNil)) (gName 2))
  (tSeq (tAsg (tLc (iList Z.K (tVar 1)) (gName 4) tYes (tCB (gList Z.K) (tCons (tVar 4) tNil)) [4]) (gName 3))
  (tSeq (tIfS (tOr (tTest (tOp (gNe Z.K) (tCallSD (spOf Z T_l_told) [] (WE X) (tCons (tVar 3) tNil)) (tVar 2))) (tTest (tOp (gNe Z.K) (tVar 3) (tVar 1))))
  (tRet (tC (.bl false)))
  tNext)
  (tSeq (tIfS (tTest (tOp (gEq Z.K) (tVar 2) (tLst tNil)))
  (tIfS (tNot (tB (tCallSD (spOf Z T_l_good) [] (WE X) (tCons (tVar 1) tNil))))
  (tRet (tC (.bl false)))
  tNext)
  (tIfS (tTest (tOp (gNe Z.K) (tCallSD (spOf Z T_l_flags) [] (WE X) (tCons (tVar 3) tNil)) (tSl (rSlL Z.K) (tVar 2) tNoPart (tPart (tC (.int 1))))))
  (tRet (tC (.bl false)))
  tNext))
  (tRet (tAndV (tOp (gEq Z.K) (tVar 3) (tVar 1)) (tCallSD (spOf Z T_l_good) [] (WE X) (tCons (tCallSD (spOf Z T_l_group) [] (WE X) (tCons (tVar 0) (tCons (tC (.int 1)) tNil))) tNil)))))))))
theorem w_law (Z : Zz) (X : WX) (ss : List Sl) (ok : Sl → Prop) (er : Rf → Prop) (hh : T_law ss ok er) : WF Z X er (ss ++ List.replicate (5 - ss.length) .un) (t_law Z X) ok := by
  obtain ⟨l, rfl, hl, k⟩ := hh
  show W _ [.im l, .un, .un, .un, .un] _ _
  unfold t_law
  refine w_seq (w_asgS (S := fun s => ∃ (t : Tbl), s = .o2 t ∧ SizeOk t ∧ NoStg t) (es_call (ea_cons (ev_var rfl) ea_nil) ⟨_, rfl, hl, fun n t n1 n2 ht => ⟨t, rfl, (ht.sz n1 n2).1, (ht.sz n1 n2).2⟩⟩) ?_)
  rintro _ ⟨t, rfl, hs, hn⟩
  refine w_fr2 1 rfl ?_
  walk_at "nz"
  have tl := hs.2.1
  refine w_seq (w_asgS (S := fun s => ∃ D : List IX, s = .ol D ∧ DueG t D) (es_call (ea_cons (ev_var rfl) ea_nil) ⟨_, rfl, hs, hn, fun D h => ⟨D, rfl, h⟩⟩) ?_)
  rintro _ ⟨D, rfl, hD⟩
  refine w_fr 2 rfl ?_
  walk_at "nz"
  refine w_seq (w_asg (s := .im t) (ev_fr (ev_copyT (ev_var rfl) (by omega) ⟨.inl rfl, trivial⟩ fun _ => rfl)) ?_)
  walk_at "nz"
  refine w_seq (w_if (b := false) (et_to (et_or (et_test (ev_neD (x := D) (y := D) (ev_fr (ev_callN (ea_cons (ev_var rfl) ea_nil) ⟨_, rfl, hs, hn, fun D' h => by rw [dueG_one h hD]⟩)) (by exact ev_var rfl) (by decide))) fun _ => et_test (ev_neLL (ev_var rfl) (ev_var rfl))) (by simp)) (fun z => nomatch z) (fun _ => w_next ?_))
  refine w_mid (fun Gs => Gs = [.im l, .im t, .im D, .im t, .un]) ?_ ?_
  · refine w_if (et_test (ev_eqD (x := D) (y := ([] : List IX)) (ev_var rfl) (ev_fr ev_nil) (by decide))) (fun hb => ?_) (fun hb => ?_)
    · have hb' : D = [] := of_decide_eq_true hb
      subst hb'
      obtain ⟨e, G⟩ := dueG_nil hs hn hD
      exact w_if (b := false) (et_to (et_not (et_B (ev_callN (s := .im true) (ea_cons (ev_var rfl) ea_nil) ⟨_, rfl, e, G, rfl⟩))) rfl) (fun z => nomatch z) (fun _ => w_next rfl)
    · refine w_if (b := false) (et_to (et_test (ev_neD (x := D.take 1) (y := D.take 1) (ev_fr (ev_callN (ea_cons (ev_var rfl) ea_nil) ⟨_, rfl, hs, hn, fun D' h => by rw [dueG_one h hD]⟩)) (by exact ev_fr (ev_cutTo (hi := 1) (ev_var rfl) ev_int (by decide))) (by decide))) (by simp)) (fun z => nomatch z) (fun _ => w_next rfl)
  rintro _ rfl
  exact w_ret (ev_to (ev_andV (ev_eqLL (ev_var rfl) (ev_var rfl)) fun _ => es_ev (s0 := .im true) (es_callX (eax_last (α := Tbl) (D := fun t => ∃ e, GTbl t e) (es_fr2 (es_call (ea_cons (ev_var rfl) (ea_cons ev_int ea_nil)) ⟨_, _, rfl, by decide, fun t e h => ⟨t, rfl, e, h⟩⟩))) fun _ ⟨t, h, e, G⟩ => by subst h; exact ⟨t, rfl, e, G, rfl⟩)) (by simp)) k
end TB
namespace TB
open PySem L2
noncomputable def topS (i : Nat) : Stmt := PySem.Challenge.pw_tracebook_k06_whole_a_group_or_what_show.main.body.getD i (.Pass ⟨0, 0, 0, 0⟩)
noncomputable abbrev s_Stranger_init : Stmt := (inClass (topS 3) 0)
noncomputable abbrev s_NoBack_init : Stmt := (inClass (topS 5) 0)
noncomputable abbrev s_NotTogether_init : Stmt := (inClass (topS 6) 0)
noncomputable abbrev s_Group_init : Stmt := (inClass (topS 19) 0)
noncomputable abbrev s_look_at_size : Stmt := (topS 20)
noncomputable abbrev s_look_for_strangers : Stmt := (topS 21)
noncomputable abbrev s_unit_of : Stmt := (topS 22)
noncomputable abbrev s_back_of : Stmt := (topS 23)
noncomputable abbrev s_look_at_threes : Stmt := (topS 24)
noncomputable abbrev s_group_of : Stmt := (topS 25)
noncomputable abbrev s_l_cell : Stmt := (topS 27)
noncomputable abbrev s_l_sizes : Stmt := (topS 28)
noncomputable abbrev s_l_kind : Stmt := (topS 29)
noncomputable abbrev s_l_unit : Stmt := (topS 30)
noncomputable abbrev s_l_turned : Stmt := (topS 31)
noncomputable abbrev s_l_sum : Stmt := (topS 32)
noncomputable abbrev s_l_rows : Stmt := (topS 33)
noncomputable abbrev s_l_names : Stmt := (topS 34)
noncomputable abbrev s_l_group : Stmt := (topS 35)
noncomputable abbrev s_l_raw : Stmt := (topS 36)
noncomputable abbrev s_l_with_unit : Stmt := (topS 37)
noncomputable abbrev s_l_with_backs : Stmt := (topS 38)
noncomputable abbrev s_l_numbers : Stmt := (topS 39)
noncomputable abbrev s_l_made : Stmt := (topS 40)
noncomputable abbrev s_l_unit_of : Stmt := (topS 41)
noncomputable abbrev s_l_backs : Stmt := (topS 42)
noncomputable abbrev s_l_apart : Stmt := (topS 43)
noncomputable abbrev s_l_due : Stmt := (topS 44)
noncomputable abbrev s_l_told : Stmt := (topS 45)
noncomputable abbrev s_l_called : Stmt := (topS 46)
noncomputable abbrev s_l_flags : Stmt := (topS 47)
noncomputable abbrev s_l_good : Stmt := (topS 48)
noncomputable abbrev s_law : Stmt := (topS 49)
set_option genInjectivity false in
set_option genSizeOfSpec false in
structure Ad where
  (a_Stranger_init a_NoBack_init a_NotTogether_init a_Group_init a_look_at_size a_look_for_strangers a_unit_of a_back_of a_look_at_threes a_group_of a_l_cell a_l_sizes a_l_kind a_l_unit a_l_turned a_l_sum a_l_rows a_l_names a_l_group a_l_raw a_l_with_unit a_l_with_backs a_l_numbers a_l_made a_l_unit_of a_l_backs a_l_apart a_l_due a_l_told a_l_called a_l_flags a_l_good a_law : Addr)
  (fd_Stranger_init fd_NoBack_init fd_NotTogether_init fd_Group_init fd_look_at_size fd_look_for_strangers fd_unit_of fd_back_of fd_look_at_threes fd_group_of fd_l_cell fd_l_sizes fd_l_kind fd_l_unit fd_l_turned fd_l_sum fd_l_rows fd_l_names fd_l_group fd_l_raw fd_l_with_unit fd_l_with_backs fd_l_numbers fd_l_made fd_l_unit_of fd_l_backs fd_l_apart fd_l_due fd_l_told fd_l_called fd_l_flags fd_l_good fd_law : FuncData)
theorem ar_look_at_size : ∀ ss ok er, T_look_at_size ss ok er → ss.length = 1 := by intro ss ok er h; obtain ⟨_, rfl, _⟩ := h; rfl
theorem ar_look_for_strangers : ∀ ss ok er, T_look_for_strangers ss ok er → ss.length = 1 := by intro ss ok er h; obtain ⟨_, rfl, _⟩ := h; rfl
theorem ar_unit_of : ∀ ss ok er, T_unit_of ss ok er → ss.length = 1 := by intro ss ok er h; obtain ⟨_, rfl, _⟩ := h; rfl
theorem ar_back_of : ∀ ss ok er, T_back_of ss ok er → ss.length = 3 := by intro ss ok er h; obtain ⟨_, _, _, rfl, _⟩ := h; rfl
theorem ar_look_at_threes : ∀ ss ok er, T_look_at_threes ss ok er → ss.length = 1 := by intro ss ok er h; obtain ⟨_, rfl, _⟩ := h; rfl
theorem ar_group_of : ∀ ss ok er, T_group_of ss ok er → ss.length = 1 := by intro ss ok er h; obtain ⟨_, rfl, _⟩ := h; rfl
theorem ar_l_cell : ∀ ss ok er, T_l_cell ss ok er → ss.length = 2 := by intro ss ok er h; obtain ⟨_, _, rfl, _⟩ := h; rfl
theorem ar_l_sizes : ∀ ss ok er, T_l_sizes ss ok er → ss.length = 2 := by intro ss ok er h; obtain ⟨_, _, rfl, _⟩ := h; rfl
theorem ar_l_kind : ∀ ss ok er, T_l_kind ss ok er → ss.length = 2 := by intro ss ok er h; obtain ⟨_, _, rfl, _⟩ := h; rfl
theorem ar_l_unit : ∀ ss ok er, T_l_unit ss ok er → ss.length = 3 := by intro ss ok er h; obtain ⟨_, _, _, rfl, _⟩ := h; rfl
theorem ar_l_turned : ∀ ss ok er, T_l_turned ss ok er → ss.length = 4 := by intro ss ok er h; obtain ⟨_, _, _, _, rfl, _⟩ := h; rfl
theorem ar_l_sum : ∀ ss ok er, T_l_sum ss ok er → ss.length = 3 := by intro ss ok er h; obtain ⟨_, _, _, rfl, _⟩ := h; rfl
theorem ar_l_rows : ∀ ss ok er, T_l_rows ss ok er → ss.length = 3 := by intro ss ok er h; obtain ⟨_, _, _, rfl, _⟩ := h; rfl
theorem ar_l_names : ∀ ss ok er, T_l_names ss ok er → ss.length = 2 := by intro ss ok er h; obtain ⟨_, _, rfl, _⟩ := h; rfl
theorem ar_l_group : ∀ ss ok er, T_l_group ss ok er → ss.length = 2 := by intro ss ok er h; obtain ⟨_, _, rfl, _⟩ := h; rfl
theorem ar_l_raw : ∀ ss ok er, T_l_raw ss ok er → ss.length = 2 := by intro ss ok er h; obtain ⟨_, _, rfl, _⟩ := h; rfl
theorem ar_l_with_unit : ∀ ss ok er, T_l_with_unit ss ok er → ss.length = 2 := by intro ss ok er h; obtain ⟨_, _, rfl, _⟩ := h; rfl
theorem ar_l_with_backs : ∀ ss ok er, T_l_with_backs ss ok er → ss.length = 3 := by intro ss ok er h; obtain ⟨_, _, _, rfl, _⟩ := h; rfl
theorem ar_l_numbers : ∀ ss ok er, T_l_numbers ss ok er → ss.length = 3 := by intro ss ok er h; obtain ⟨_, _, _, rfl, _⟩ := h; rfl
theorem ar_l_made : ∀ ss ok er, T_l_made ss ok er → ss.length = 1 := by intro ss ok er h; obtain ⟨_, rfl, _⟩ := h; rfl
theorem ar_l_unit_of : ∀ ss ok er, T_l_unit_of ss ok er → ss.length = 1 := by intro ss ok er h; obtain ⟨_, rfl, _⟩ := h; rfl
theorem ar_l_backs : ∀ ss ok er, T_l_backs ss ok er → ss.length = 2 := by intro ss ok er h; obtain ⟨_, _, rfl, _⟩ := h; rfl
theorem ar_l_apart : ∀ ss ok er, T_l_apart ss ok er → ss.length = 1 := by intro ss ok er h; obtain ⟨_, rfl, _⟩ := h; rfl
theorem ar_l_due : ∀ ss ok er, T_l_due ss ok er → ss.length = 1 := by intro ss ok er h; obtain ⟨_, rfl, _⟩ := h; rfl
theorem ar_l_told : ∀ ss ok er, T_l_told ss ok er → ss.length = 1 := by intro ss ok er h; obtain ⟨_, rfl, _⟩ := h; rfl
theorem ar_l_called : ∀ ss ok er, T_l_called ss ok er → ss.length = 1 := by intro ss ok er h; obtain ⟨_, rfl, _⟩ := h; rfl
theorem ar_l_flags : ∀ ss ok er, T_l_flags ss ok er → ss.length = 1 := by intro ss ok er h; obtain ⟨_, rfl, _⟩ := h; rfl
theorem ar_l_good : ∀ ss ok er, T_l_good ss ok er → ss.length = 1 := by intro ss ok er h; obtain ⟨_, rfl, _⟩ := h; rfl
theorem ar_law : ∀ ss ok er, T_law ss ok er → ss.length = 1 := by intro ss ok er h; obtain ⟨_, rfl, _⟩ := h; rfl
structure Tx (K : PySem.W.Frag) (mg : Str → Option Value) (cls : CN → Addr) (A : Ad) : Prop where
  F_Stranger_init : Fun K "__init__" "Stranger.__init__" s_Stranger_init A.a_Stranger_init A.fd_Stranger_init
  b_Stranger_init : Binds K A.fd_Stranger_init ["self", "row", "column"] []
  F_NoBack_init : Fun K "__init__" "NoBack.__init__" s_NoBack_init A.a_NoBack_init A.fd_NoBack_init
  b_NoBack_init : Binds K A.fd_NoBack_init ["self", "thing"] []
  F_NotTogether_init : Fun K "__init__" "NotTogether.__init__" s_NotTogether_init A.a_NotTogether_init A.fd_NotTogether_init
  b_NotTogether_init : Binds K A.fd_NotTogether_init ["self", "one", "two", "three"] []
  F_Group_init : Fun K "__init__" "Group.__init__" s_Group_init A.a_Group_init A.fd_Group_init
  b_Group_init : Binds K A.fd_Group_init ["self", "rows", "unit", "backs"] []
  F_look_at_size : Fun K "look_at_size" "look_at_size" s_look_at_size A.a_look_at_size A.fd_look_at_size
  b_look_at_size : Binds K A.fd_look_at_size ["table"] []
  g_look_at_size : mg "look_at_size" = some (.ref A.a_look_at_size)
  k_look_at_size : PySem.W.keepIn K (.ref A.a_look_at_size) = true
  F_look_for_strangers : Fun K "look_for_strangers" "look_for_strangers" s_look_for_strangers A.a_look_for_strangers A.fd_look_for_strangers
  b_look_for_strangers : Binds K A.fd_look_for_strangers ["table"] []
  g_look_for_strangers : mg "look_for_strangers" = some (.ref A.a_look_for_strangers)
  k_look_for_strangers : PySem.W.keepIn K (.ref A.a_look_for_strangers) = true
  F_unit_of : Fun K "unit_of" "unit_of" s_unit_of A.a_unit_of A.fd_unit_of
  b_unit_of : Binds K A.fd_unit_of ["table"] []
  g_unit_of : mg "unit_of" = some (.ref A.a_unit_of)
  k_unit_of : PySem.W.keepIn K (.ref A.a_unit_of) = true
  F_back_of : Fun K "back_of" "back_of" s_back_of A.a_back_of A.fd_back_of
  b_back_of : Binds K A.fd_back_of ["table", "unit", "thing"] []
  g_back_of : mg "back_of" = some (.ref A.a_back_of)
  k_back_of : PySem.W.keepIn K (.ref A.a_back_of) = true
  F_look_at_threes : Fun K "look_at_threes" "look_at_threes" s_look_at_threes A.a_look_at_threes A.fd_look_at_threes
  b_look_at_threes : Binds K A.fd_look_at_threes ["table"] []
  g_look_at_threes : mg "look_at_threes" = some (.ref A.a_look_at_threes)
  k_look_at_threes : PySem.W.keepIn K (.ref A.a_look_at_threes) = true
  F_group_of : Fun K "group_of" "group_of" s_group_of A.a_group_of A.fd_group_of
  b_group_of : Binds K A.fd_group_of ["table"] []
  g_group_of : mg "group_of" = some (.ref A.a_group_of)
  k_group_of : PySem.W.keepIn K (.ref A.a_group_of) = true
  F_l_cell : Fun K "_law_cell" "_law_cell" s_l_cell A.a_l_cell A.fd_l_cell
  b_l_cell : Binds K A.fd_l_cell ["_law_script", "_law_k"] []
  g_l_cell : mg "_law_cell" = some (.ref A.a_l_cell)
  k_l_cell : PySem.W.keepIn K (.ref A.a_l_cell) = true
  F_l_sizes : Fun K "_law_sizes" "_law_sizes" s_l_sizes A.a_l_sizes A.fd_l_sizes
  b_l_sizes : Binds K A.fd_l_sizes ["_law_one", "_law_two"] []
  g_l_sizes : mg "_law_sizes" = some (.ref A.a_l_sizes)
  k_l_sizes : PySem.W.keepIn K (.ref A.a_l_sizes) = true
  F_l_kind : Fun K "_law_kind" "_law_kind" s_l_kind A.a_l_kind A.fd_l_kind
  b_l_kind : Binds K A.fd_l_kind ["_law_sizes_here", "_law_number"] []
  g_l_kind : mg "_law_kind" = some (.ref A.a_l_kind)
  k_l_kind : PySem.W.keepIn K (.ref A.a_l_kind) = true
  F_l_unit : Fun K "_law_unit" "_law_unit" s_l_unit A.a_l_unit A.fd_l_unit
  b_l_unit : Binds K A.fd_l_unit ["_law_many", "_law_steps", "_law_number"] []
  g_l_unit : mg "_law_unit" = some (.ref A.a_l_unit)
  k_l_unit : PySem.W.keepIn K (.ref A.a_l_unit) = true
  F_l_turned : Fun K "_law_turned" "_law_turned" s_l_turned A.a_l_turned A.fd_l_turned
  b_l_turned : Binds K A.fd_l_turned ["_law_place", "_law_sizes_here", "_law_kind_here", "_law_units"] []
  g_l_turned : mg "_law_turned" = some (.ref A.a_l_turned)
  k_l_turned : PySem.W.keepIn K (.ref A.a_l_turned) = true
  F_l_sum : Fun K "_law_sum" "_law_sum" s_l_sum A.a_l_sum A.fd_l_sum
  b_l_sum : Binds K A.fd_l_sum ["_law_one", "_law_other", "_law_sizes_here"] []
  g_l_sum : mg "_law_sum" = some (.ref A.a_l_sum)
  k_l_sum : PySem.W.keepIn K (.ref A.a_l_sum) = true
  F_l_rows : Fun K "_law_rows" "_law_rows" s_l_rows A.a_l_rows A.fd_l_rows
  b_l_rows : Binds K A.fd_l_rows ["_law_sizes_here", "_law_turn", "_law_end"] []
  g_l_rows : mg "_law_rows" = some (.ref A.a_l_rows)
  k_l_rows : PySem.W.keepIn K (.ref A.a_l_rows) = true
  F_l_names : Fun K "_law_names" "_law_names" s_l_names A.a_l_names A.fd_l_names
  b_l_names : Binds K A.fd_l_names ["_law_many", "_law_number"] []
  g_l_names : mg "_law_names" = some (.ref A.a_l_names)
  k_l_names : PySem.W.keepIn K (.ref A.a_l_names) = true
  F_l_group : Fun K "_law_group" "_law_group" s_l_group A.a_l_group A.fd_l_group
  b_l_group : Binds K A.fd_l_group ["_law_script", "_law_start"] []
  g_l_group : mg "_law_group" = some (.ref A.a_l_group)
  k_l_group : PySem.W.keepIn K (.ref A.a_l_group) = true
  F_l_raw : Fun K "_law_raw" "_law_raw" s_l_raw A.a_l_raw A.fd_l_raw
  b_l_raw : Binds K A.fd_l_raw ["_law_script", "_law_many"] []
  g_l_raw : mg "_law_raw" = some (.ref A.a_l_raw)
  k_l_raw : PySem.W.keepIn K (.ref A.a_l_raw) = true
  F_l_with_unit : Fun K "_law_with_unit" "_law_with_unit" s_l_with_unit A.a_l_with_unit A.fd_l_with_unit
  b_l_with_unit : Binds K A.fd_l_with_unit ["_law_table", "_law_unit_here"] []
  g_l_with_unit : mg "_law_with_unit" = some (.ref A.a_l_with_unit)
  k_l_with_unit : PySem.W.keepIn K (.ref A.a_l_with_unit) = true
  F_l_with_backs : Fun K "_law_with_backs" "_law_with_backs" s_l_with_backs A.a_l_with_backs A.fd_l_with_backs
  b_l_with_backs : Binds K A.fd_l_with_backs ["_law_table", "_law_unit_here", "_law_number"] []
  g_l_with_backs : mg "_law_with_backs" = some (.ref A.a_l_with_backs)
  k_l_with_backs : PySem.W.keepIn K (.ref A.a_l_with_backs) = true
  F_l_numbers : Fun K "_law_numbers" "_law_numbers" s_l_numbers A.a_l_numbers A.fd_l_numbers
  b_l_numbers : Binds K A.fd_l_numbers ["_law_many", "_law_way", "_law_names_here"] []
  g_l_numbers : mg "_law_numbers" = some (.ref A.a_l_numbers)
  k_l_numbers : PySem.W.keepIn K (.ref A.a_l_numbers) = true
  F_l_made : Fun K "_law_made" "_law_made" s_l_made A.a_l_made A.fd_l_made
  b_l_made : Binds K A.fd_l_made ["_law_script"] []
  g_l_made : mg "_law_made" = some (.ref A.a_l_made)
  k_l_made : PySem.W.keepIn K (.ref A.a_l_made) = true
  F_l_unit_of : Fun K "_law_unit_of" "_law_unit_of" s_l_unit_of A.a_l_unit_of A.fd_l_unit_of
  b_l_unit_of : Binds K A.fd_l_unit_of ["_law_table"] []
  g_l_unit_of : mg "_law_unit_of" = some (.ref A.a_l_unit_of)
  k_l_unit_of : PySem.W.keepIn K (.ref A.a_l_unit_of) = true
  F_l_backs : Fun K "_law_backs" "_law_backs" s_l_backs A.a_l_backs A.fd_l_backs
  b_l_backs : Binds K A.fd_l_backs ["_law_table", "_law_unit_here"] []
  g_l_backs : mg "_law_backs" = some (.ref A.a_l_backs)
  k_l_backs : PySem.W.keepIn K (.ref A.a_l_backs) = true
  F_l_apart : Fun K "_law_apart" "_law_apart" s_l_apart A.a_l_apart A.fd_l_apart
  b_l_apart : Binds K A.fd_l_apart ["_law_table"] []
  g_l_apart : mg "_law_apart" = some (.ref A.a_l_apart)
  k_l_apart : PySem.W.keepIn K (.ref A.a_l_apart) = true
  F_l_due : Fun K "_law_due" "_law_due" s_l_due A.a_l_due A.fd_l_due
  b_l_due : Binds K A.fd_l_due ["_law_table"] []
  g_l_due : mg "_law_due" = some (.ref A.a_l_due)
  k_l_due : PySem.W.keepIn K (.ref A.a_l_due) = true
  F_l_told : Fun K "_law_told" "_law_told" s_l_told A.a_l_told A.fd_l_told
  b_l_told : Binds K A.fd_l_told ["_law_table"] []
  g_l_told : mg "_law_told" = some (.ref A.a_l_told)
  k_l_told : PySem.W.keepIn K (.ref A.a_l_told) = true
  F_l_called : Fun K "_law_called" "_law_called" s_l_called A.a_l_called A.fd_l_called
  b_l_called : Binds K A.fd_l_called ["_law_met"] []
  g_l_called : mg "_law_called" = some (.ref A.a_l_called)
  k_l_called : PySem.W.keepIn K (.ref A.a_l_called) = true
  F_l_flags : Fun K "_law_flags" "_law_flags" s_l_flags A.a_l_flags A.fd_l_flags
  b_l_flags : Binds K A.fd_l_flags ["_law_table"] []
  g_l_flags : mg "_law_flags" = some (.ref A.a_l_flags)
  k_l_flags : PySem.W.keepIn K (.ref A.a_l_flags) = true
  F_l_good : Fun K "_law_good" "_law_good" s_l_good A.a_l_good A.fd_l_good
  b_l_good : Binds K A.fd_l_good ["_law_table"] []
  g_l_good : mg "_law_good" = some (.ref A.a_l_good)
  k_l_good : PySem.W.keepIn K (.ref A.a_l_good) = true
  F_law : Fun K "law" "law" s_law A.a_law A.fd_law
  b_law : Binds K A.fd_law ["_law_script"] []
  g_law : mg "law" = some (.ref A.a_law)
  k_law : PySem.W.keepIn K (.ref A.a_law) = true
  b_ValueError : mg "ValueError" = none
  b_all : mg "all" = none
  b_bool : mg "bool" = none
  b_enumerate : mg "enumerate" = none
  b_int : mg "int" = none
  b_isinstance : mg "isinstance" = none
  b_len : mg "len" = none
  b_list : mg "list" = none
  b_min : mg "min" = none
  b_range : mg "range" = none
  b_zip : mg "zip" = none
  g_MOST : ∃ t, mg "MOST" = some (.int 23 t)
  g_BookError : mg "BookError" = some (.ref (cls .BookError))
  g_BadSize : mg "BadSize" = some (.ref (cls .BadSize))
  g_Stranger : mg "Stranger" = some (.ref (cls .Stranger))
  g_NoUnit : mg "NoUnit" = some (.ref (cls .NoUnit))
  g_NoBack : mg "NoBack" = some (.ref (cls .NoBack))
  g_NotTogether : mg "NotTogether" = some (.ref (cls .NotTogether))
  g_NoPart : mg "NoPart" = some (.ref (cls .NoPart))
  g_NotSteady : mg "NotSteady" = some (.ref (cls .NotSteady))
  g_BadWheel : mg "BadWheel" = some (.ref (cls .BadWheel))
  g_NoMove : mg "NoMove" = some (.ref (cls .NoMove))
  g_BadMarks : mg "BadMarks" = some (.ref (cls .BadMarks))
  g_NoWay : mg "NoWay" = some (.ref (cls .NoWay))
  g_NotKept : mg "NotKept" = some (.ref (cls .NotKept))
  g_OtherGroup : mg "OtherGroup" = some (.ref (cls .OtherGroup))
  g_OtherWheel : mg "OtherWheel" = some (.ref (cls .OtherWheel))
  g_TooGreat : mg "TooGreat" = some (.ref (cls .TooGreat))
  g_Group : mg "Group" = some (.ref (cls .Group))
  M_Group : Mk K (cls .Group) A.a_Group_init
  grpC : GrpC ⟨K, cls⟩
  exs : Exs ⟨K, cls⟩ [.BookError, .BadSize, .Stranger, .NoUnit, .NoBack, .NotTogether, .NoPart, .NotSteady, .BadWheel, .NoMove, .BadMarks, .NoWay, .NotKept, .OtherGroup, .OtherWheel, .TooGreat]
  x_BadSize : PySem.W.excIn K (cls .BadSize) [.type "ValueError", .type "Exception", .type "BaseException", .type "object"] "ValueError.__new__" = true
  k_BadSize : PySem.W.keepIn K (.ref (cls .BadSize)) = true
  r_BadSize : PySem.W.subIn K (.ref (cls .BadSize)) (.type "BaseException") = some true
  rt_BadSize : PySem.W.typeIn K (.ref (cls .BadSize)) = some (.type "type")
  x_NoUnit : PySem.W.excIn K (cls .NoUnit) [.type "ValueError", .type "Exception", .type "BaseException", .type "object"] "ValueError.__new__" = true
  k_NoUnit : PySem.W.keepIn K (.ref (cls .NoUnit)) = true
  r_NoUnit : PySem.W.subIn K (.ref (cls .NoUnit)) (.type "BaseException") = some true
  rt_NoUnit : PySem.W.typeIn K (.ref (cls .NoUnit)) = some (.type "type")
  O_NoBack : OexC K (cls .NoBack)
  i_NoBack : PySem.W.findIn K (.ref (cls .NoBack)) "__init__" = some (some (.ref A.a_NoBack_init))
  ti_NoBack : PySem.W.typeIn K (.ref A.a_NoBack_init) = some (.type "function")
  n_NoBack_thing : PySem.W.findIn K (.ref (cls .NoBack)) "thing" = some none
  O_NotTogether : OexC K (cls .NotTogether)
  i_NotTogether : PySem.W.findIn K (.ref (cls .NotTogether)) "__init__" = some (some (.ref A.a_NotTogether_init))
  ti_NotTogether : PySem.W.typeIn K (.ref A.a_NotTogether_init) = some (.type "function")
  n_NotTogether_one : PySem.W.findIn K (.ref (cls .NotTogether)) "one" = some none
  n_NotTogether_two : PySem.W.findIn K (.ref (cls .NotTogether)) "two" = some none
  n_NotTogether_three : PySem.W.findIn K (.ref (cls .NotTogether)) "three" = some none
  O_Stranger : OexC K (cls .Stranger)
  i_Stranger : PySem.W.findIn K (.ref (cls .Stranger)) "__init__" = some (some (.ref A.a_Stranger_init))
  ti_Stranger : PySem.W.typeIn K (.ref A.a_Stranger_init) = some (.type "function")
  n_Stranger_row : PySem.W.findIn K (.ref (cls .Stranger)) "row" = some none
  n_Stranger_column : PySem.W.findIn K (.ref (cls .Stranger)) "column" = some none
section
variable {P : Program} {w : World} {K : PySem.W.Frag} {mg : Str → Option Value} {base : Heap} {cls : CN → Addr}
  {A : Ad}
theorem sc_Stranger_init : FnScope ["self", "row", "column"] ["self", "row", "column"] (defScope s_Stranger_init) := ⟨rfl, rfl, rfl, by decide +kernel, rfl, by decide +kernel, by decide +kernel⟩
theorem sc_NoBack_init : FnScope ["self", "thing"] ["self", "thing"] (defScope s_NoBack_init) := ⟨rfl, rfl, rfl, by decide +kernel, rfl, by decide +kernel, by decide +kernel⟩
theorem sc_NotTogether_init : FnScope ["self", "one", "two", "three"] ["self", "one", "two", "three"] (defScope s_NotTogether_init) := ⟨rfl, rfl, rfl, by decide +kernel, rfl, by decide +kernel, by decide +kernel⟩
theorem sc_Group_init : FnScope ["self", "rows", "unit", "backs"] ["self", "rows", "unit", "backs"] (defScope s_Group_init) := ⟨rfl, rfl, rfl, by decide +kernel, rfl, by decide +kernel, by decide +kernel⟩
theorem sc_look_at_size : FnScope ["table", "row"] ["table"] (defScope s_look_at_size) := ⟨rfl, rfl, rfl, by decide +kernel, rfl, by decide +kernel, by decide +kernel⟩
theorem sc_look_for_strangers : FnScope ["table", "a", "row", "b", "thing"] ["table"] (defScope s_look_for_strangers) := ⟨rfl, rfl, rfl, by decide +kernel, rfl, by decide +kernel, by decide +kernel⟩
theorem sc_unit_of : FnScope ["table", "e", "row", "a"] ["table"] (defScope s_unit_of) := ⟨rfl, rfl, rfl, by decide +kernel, rfl, by decide +kernel, by decide +kernel⟩
theorem sc_back_of : FnScope ["table", "unit", "thing", "other"] ["table", "unit", "thing"] (defScope s_back_of) := ⟨rfl, rfl, rfl, by decide +kernel, rfl, by decide +kernel, by decide +kernel⟩
theorem sc_look_at_threes : FnScope ["table", "one", "row", "two", "pair", "three", "thing"] ["table"] (defScope s_look_at_threes) := ⟨rfl, rfl, rfl, by decide +kernel, rfl, by decide +kernel, by decide +kernel⟩
theorem sc_group_of : FnScope ["table", "unit", "backs", "thing", "row"] ["table"] (defScope s_group_of) := ⟨rfl, rfl, rfl, by decide +kernel, rfl, by decide +kernel, by decide +kernel⟩
theorem sc_l_cell : FnScope ["_law_script", "_law_k"] ["_law_script", "_law_k"] (defScope s_l_cell) := ⟨rfl, rfl, rfl, by decide +kernel, rfl, by decide +kernel, by decide +kernel⟩
theorem sc_l_sizes : FnScope ["_law_one", "_law_two", "_law_number", "_law_some", "_law_top", "_law_steps", "_law_room", "_law_first", "_law_second", "_law_third"] ["_law_one", "_law_two"] (defScope s_l_sizes) := ⟨rfl, rfl, rfl, by decide +kernel, rfl, by decide +kernel, by decide +kernel⟩
theorem sc_l_kind : FnScope ["_law_sizes_here", "_law_number", "_law_kinds"] ["_law_sizes_here", "_law_number"] (defScope s_l_kind) := ⟨rfl, rfl, rfl, by decide +kernel, rfl, by decide +kernel, by decide +kernel⟩
theorem sc_l_unit : FnScope ["_law_many", "_law_steps", "_law_number", "_law_units", "_law_u", "_law_found", "_law_k"] ["_law_many", "_law_steps", "_law_number"] (defScope s_l_unit) := ⟨rfl, rfl, rfl, by decide +kernel, rfl, by decide +kernel, by decide +kernel⟩
theorem sc_l_turned : FnScope ["_law_place", "_law_sizes_here", "_law_kind_here", "_law_units", "_law_x", "_law_y", "_law_w"] ["_law_place", "_law_sizes_here", "_law_kind_here", "_law_units"] (defScope s_l_turned) := ⟨rfl, rfl, rfl, by decide +kernel, rfl, by decide +kernel, by decide +kernel⟩
theorem sc_l_sum : FnScope ["_law_one", "_law_other", "_law_sizes_here", "_law_both", "_law_x", "_law_y", "_law_w"] ["_law_one", "_law_other", "_law_sizes_here"] (defScope s_l_sum) := ⟨rfl, rfl, rfl, by decide +kernel, rfl, by decide +kernel, by decide +kernel⟩
theorem sc_l_rows : FnScope ["_law_sizes_here", "_law_turn", "_law_end", "_law_calm", "_law_rows_here", "_law_led", "_law_i", "_law_one", "_law_row", "_law_j", "_law_other", "_law_place"] ["_law_sizes_here", "_law_turn", "_law_end"] (defScope s_l_rows) := ⟨rfl, rfl, rfl, by decide +kernel, rfl, by decide +kernel, by decide +kernel⟩
theorem sc_l_names : FnScope ["_law_many", "_law_number", "_law_names_here", "_law_k"] ["_law_many", "_law_number"] (defScope s_l_names) := ⟨rfl, rfl, rfl, by decide +kernel, rfl, by decide +kernel, by decide +kernel⟩
theorem sc_l_group : FnScope ["_law_script", "_law_start", "_law_one", "_law_two", "_law_sizes_here", "_law_stirred", "_law_kind_here", "_law_units", "_law_k", "_law_calm", "_law_turn", "_law_end", "_law_rows_here", "_law_names_here", "_law_table", "_law_a", "_law_row", "_law_b", "_law_thing", "_law_place"] ["_law_script", "_law_start"] (defScope s_l_group) := ⟨rfl, rfl, rfl, by decide +kernel, rfl, by decide +kernel, by decide +kernel⟩
theorem sc_l_raw : FnScope ["_law_script", "_law_many", "_law_table", "_law_a", "_law_b"] ["_law_script", "_law_many"] (defScope s_l_raw) := ⟨rfl, rfl, rfl, by decide +kernel, rfl, by decide +kernel, by decide +kernel⟩
theorem sc_l_with_unit : FnScope ["_law_table", "_law_unit_here", "_law_a"] ["_law_table", "_law_unit_here"] (defScope s_l_with_unit) := ⟨rfl, rfl, rfl, by decide +kernel, rfl, by decide +kernel, by decide +kernel⟩
theorem sc_l_with_backs : FnScope ["_law_table", "_law_unit_here", "_law_number", "_law_many", "_law_others", "_law_one", "_law_two", "_law_a"] ["_law_table", "_law_unit_here", "_law_number"] (defScope s_l_with_backs) := ⟨rfl, rfl, rfl, by decide +kernel, rfl, by decide +kernel, by decide +kernel⟩
theorem sc_l_numbers : FnScope ["_law_many", "_law_way", "_law_names_here", "_law_table", "_law_a", "_law_b", "_law_found"] ["_law_many", "_law_way", "_law_names_here"] (defScope s_l_numbers) := ⟨rfl, rfl, rfl, by decide +kernel, rfl, by decide +kernel, by decide +kernel⟩
theorem sc_l_made : FnScope ["_law_script", "_law_way", "_law_number", "_law_many", "_law_unit_here", "_law_table", "_law_cell_here", "_law_place"] ["_law_script"] (defScope s_l_made) := ⟨rfl, rfl, rfl, by decide +kernel, rfl, by decide +kernel, by decide +kernel⟩
theorem sc_l_unit_of : FnScope ["_law_table", "_law_e", "_law_row", "_law_column", "_law_other"] ["_law_table"] (defScope s_l_unit_of) := ⟨rfl, rfl, rfl, by decide +kernel, rfl, by decide +kernel, by decide +kernel⟩
theorem sc_l_backs : FnScope ["_law_table", "_law_unit_here", "_law_backs_here", "_law_a", "_law_some", "_law_b"] ["_law_table", "_law_unit_here"] (defScope s_l_backs) := ⟨rfl, rfl, rfl, by decide +kernel, rfl, by decide +kernel, by decide +kernel⟩
theorem sc_l_apart : FnScope ["_law_table", "_law_many", "_law_a", "_law_b", "_law_c"] ["_law_table"] (defScope s_l_apart) := ⟨rfl, rfl, rfl, by decide +kernel, rfl, by decide +kernel, by decide +kernel⟩
theorem sc_l_due : FnScope ["_law_table", "_law_unit_here", "_law_backs_here"] ["_law_table"] (defScope s_l_due) := ⟨rfl, rfl, rfl, by decide +kernel, rfl, by decide +kernel, by decide +kernel⟩
theorem sc_l_told : FnScope ["_law_table", "_law_found", "_law_e", "_law_k"] ["_law_table"] (defScope s_l_told) := ⟨rfl, rfl, rfl, by decide +kernel, rfl, by decide +kernel, by decide +kernel⟩
theorem sc_l_called : FnScope ["_law_met", "_law_some", "_law_names_here", "_law_found", "_law_name", "_law_truth"] ["_law_met"] (defScope s_l_called) := ⟨rfl, rfl, rfl, by decide +kernel, rfl, by decide +kernel, by decide +kernel⟩
theorem sc_l_flags : FnScope ["_law_table", "_law_met", "_law_e"] ["_law_table"] (defScope s_l_flags) := ⟨rfl, rfl, rfl, by decide +kernel, rfl, by decide +kernel, by decide +kernel⟩
theorem sc_l_good : FnScope ["_law_table", "_law_made_here", "_law_unit_here", "_law_row"] ["_law_table"] (defScope s_l_good) := ⟨rfl, rfl, rfl, by decide +kernel, rfl, by decide +kernel, by decide +kernel⟩
theorem sc_law : FnScope ["_law_script", "_law_table", "_law_due_here", "_law_handed", "_law_row"] ["_law_script"] (defScope s_law) := ⟨rfl, rfl, rfl, by decide +kernel, rfl, by decide +kernel, by decide +kernel⟩
theorem ok_Stranger_init (T : Tx K mg cls A) : FnOk P w K mg base (L2.CX P w) 1 A.a_Stranger_init A.fd_Stranger_init ["self", "row", "column"] (spXI (cls .Stranger) ["row", "column"]) := by
  refine T.F_Stranger_init.okX sc_Stranger_init (fun vs H Q E h => ?_) (fun cdv A outer s H vs Q E hr h => ⟨_, ?_, xi_two (K := K) (N := ["self", "row", "column"]) rfl T.O_Stranger T.n_Stranger_row T.n_Stranger_column vs H Q E h⟩)
  · obtain ⟨a, ws, rfl, hl, _⟩ := h
    exact congrArg Nat.succ hl
  · exact (pss_cons (ps_ost (pv 0) (pv 1) (by rfl)) (pss_one (ps_ost (pv 0) (pv 2) (by rfl))))
theorem ok_NoBack_init (T : Tx K mg cls A) : FnOk P w K mg base (L2.CX P w) 1 A.a_NoBack_init A.fd_NoBack_init ["self", "thing"] (spXI (cls .NoBack) ["thing"]) := by
  refine T.F_NoBack_init.okX sc_NoBack_init (fun vs H Q E h => ?_) (fun cdv A outer s H vs Q E hr h => ⟨_, ?_, xi_one (K := K) (N := ["self", "thing"]) rfl T.O_NoBack T.n_NoBack_thing vs H Q E h⟩)
  · obtain ⟨a, ws, rfl, hl, _⟩ := h
    exact congrArg Nat.succ hl
  · exact (pss_one (ps_ost (pv 0) (pv 1) (by rfl)))
theorem ok_NotTogether_init (T : Tx K mg cls A) : FnOk P w K mg base (L2.CX P w) 1 A.a_NotTogether_init A.fd_NotTogether_init ["self", "one", "two", "three"] (spXI (cls .NotTogether) ["one", "two", "three"]) := by
  refine T.F_NotTogether_init.okX sc_NotTogether_init (fun vs H Q E h => ?_) (fun cdv A outer s H vs Q E hr h => ⟨_, ?_, xi_three (K := K) (N := ["self", "one", "two", "three"]) rfl T.O_NotTogether T.n_NotTogether_one T.n_NotTogether_two T.n_NotTogether_three vs H Q E h⟩)
  · obtain ⟨a, ws, rfl, hl, _⟩ := h
    exact congrArg Nat.succ hl
  · exact (pss_cons (ps_ost (pv 0) (pv 1) (by rfl)) (pss_cons (ps_ost (pv 0) (pv 2) (by rfl)) (pss_one (ps_ost (pv 0) (pv 3) (by rfl)))))
theorem ok_Group_init (T : Tx K mg cls A) : FnOk P w K mg base (L2.CX P w) 1 A.a_Group_init A.fd_Group_init ["self", "rows", "unit", "backs"] (spI_Group ⟨K, cls⟩) := by
  refine T.F_Group_init.okX sc_Group_init (fun vs H Q E h => ?_) (fun cdv A outer s H vs Q E hr h => ⟨_, ?_, pure_Group_init (Z := ⟨K, cls⟩) (N := ["self", "rows", "unit", "backs"]) rfl vs H Q E h⟩)
  · obtain ⟨x, dx, l, xs, u, b, rfl, _⟩ := h
    rfl
  · exact (pss_cons (ps_fld (pv 0) (pe_callB gc_len (by rfl) T.b_len (by decide +kernel) (pa_cons (pv 1) pa_nil)) (by rfl))
  (pss_cons (ps_fld (pv 0) (pv 1) (by rfl))
  (pss_cons (ps_fld (pv 0) (pv 2) (by rfl))
  (pss_one (ps_fld (pv 0) (pv 3) (by rfl))))))
theorem ok_look_at_size (T : Tx K mg cls A) : FnOk P w K mg base (L2.CX P w) 1 A.a_look_at_size A.fd_look_at_size ["table"] (spOf ⟨K, cls⟩ T_look_at_size) := by
  refine T.F_look_at_size.okX sc_look_at_size (spOf_len (n := 1) (ar_look_at_size)) (fun cdv A outer s H vs Q E hr h => ⟨t_look_at_size ⟨K, cls⟩ (fun c d _ H => E c d H), ?_, spOf_run (N := ["table", "row"]) (t := fun E => t_look_at_size ⟨K, cls⟩ (fun c d _ H => E c d H)) (fun ss ok er hT => by rw [ar_look_at_size ss ok er hT]; decide) (fun E ss ok er hT => w_look_at_size ⟨K, cls⟩ _ ss ok er hT) vs H Q E h⟩)
  unfold t_look_at_size
  exact (pss_cons (ps_if (PW.pt (pw_or (pt_cmpR go_lt (pe_callB gc_len (by rfl) T.b_len (by decide +kernel) (pa_cons (pv 0) pa_nil)) pe_int (nomark _)) (pw_or1 (pt_cmpR go_gt (pe_callB gc_len (by rfl) T.b_len (by decide +kernel) (pa_cons (pv 0) pa_nil)) (pe_glob (by rfl) T.g_MOST.choose_spec ⟨_, rfl⟩) (nomark _)))))
  (pss_one (ps_raise (by rfl) (takes_of rfl rfl rfl rfl) (pmk_own PySem.F.excBase_ValueError T.x_BadSize T.g_BadSize T.k_BadSize (raises_own T.r_BadSize T.rt_BadSize) (by rfl))))
  pss_nil)
  (pss_one (ps_for (passes_of rfl) (by rfl) (pi_list (pv 0)) (pg_name (i := 1) sc_look_at_size.nd (by rfl) (Or.inl rfl))
  (pss_one (ps_if (pt_cmpR (go_ne (hu64 hr)) (pe_callB gc_len (by rfl) T.b_len (by decide +kernel) (pa_cons (pv 1) pa_nil)) (pe_callB gc_len (by rfl) T.b_len (by decide +kernel) (pa_cons (pv 0) pa_nil)) (nomark _))
  (pss_one (ps_raise (by rfl) (takes_of rfl rfl rfl rfl) (pmk_own PySem.F.excBase_ValueError T.x_BadSize T.g_BadSize T.k_BadSize (raises_own T.r_BadSize T.rt_BadSize) (by rfl))))
  pss_nil)))))
theorem ok_look_for_strangers (T : Tx K mg cls A) (G_Stranger_init : FnOk P w K mg base (L2.CX P w) 1 A.a_Stranger_init A.fd_Stranger_init ["self", "row", "column"] (spXI (cls .Stranger) ["row", "column"])) : FnOk P w K mg base (L2.CX P w) 3 A.a_look_for_strangers A.fd_look_for_strangers ["table"] (spOf ⟨K, cls⟩ T_look_for_strangers) := by
  refine T.F_look_for_strangers.okX sc_look_for_strangers (spOf_len (n := 1) (ar_look_for_strangers)) (fun cdv A outer s H vs Q E hr h => ⟨t_look_for_strangers ⟨K, cls⟩ (fun c d _ H => E c d H), ?_, spOf_run (N := ["table", "a", "row", "b", "thing"]) (t := fun E => t_look_for_strangers ⟨K, cls⟩ (fun c d _ H => E c d H)) (fun ss ok er hT => by rw [ar_look_for_strangers ss ok er hT]; decide) (fun E ss ok er hT => w_look_for_strangers ⟨K, cls⟩ _ ss ok er hT) vs H Q E h⟩)
  unfold t_look_for_strangers
  exact (pss_one (ps_for (passes_of rfl) (by rfl) (pi_enum (by rfl) T.b_enumerate (pa_cons (pv 0) pa_nil)) (pg_tup (by rfl) (pgs_cons (pg_name (i := 1) sc_look_for_strangers.nd (by rfl) (Or.inl rfl)) (pgs_cons (pg_name (i := 2) sc_look_for_strangers.nd (by rfl) (Or.inl rfl)) pgs_nil)))
  (pss_one (ps_for (passes_of rfl) (by rfl) (pi_enum (by rfl) T.b_enumerate (pa_cons (pv 2) pa_nil)) (pg_tup (by rfl) (pgs_cons (pg_name (i := 3) sc_look_for_strangers.nd (by rfl) (Or.inl rfl)) (pgs_cons (pg_name (i := 4) sc_look_for_strangers.nd (by rfl) (Or.inl rfl)) pgs_nil)))
  (pss_one (ps_if (PW.pt (pw_or (pt_cmpR go_lt (pv 4) pe_int (nomark _)) (pw_or1 (pt_cmpR go_ge (pv 4) (pe_callB gc_len (by rfl) T.b_len (by decide +kernel) (pa_cons (pv 0) pa_nil)) (nomark _)))))
  (pss_one (ps_raise (by rfl) (takes_of rfl rfl rfl rfl) (pmk_oex T.O_Stranger T.i_Stranger T.ti_Stranger G_Stranger_init (hr.mono (by decide)) T.b_Stranger_init .nil passL (by rfl) T.g_Stranger (pa_cons (pv 1) (pa_cons (pv 3) pa_nil)))))
  pss_nil))))))
theorem ok_unit_of (T : Tx K mg cls A) : FnOk P w K mg base (L2.CX P w) 1 A.a_unit_of A.fd_unit_of ["table"] (spOf ⟨K, cls⟩ T_unit_of) := by
  refine T.F_unit_of.okX sc_unit_of (spOf_len (n := 1) (ar_unit_of)) (fun cdv A outer s H vs Q E hr h => ⟨t_unit_of ⟨K, cls⟩ (fun c d _ H => E c d H), ?_, spOf_run (N := ["table", "e", "row", "a"]) (t := fun E => t_unit_of ⟨K, cls⟩ (fun c d _ H => E c d H)) (fun ss ok er hT => by rw [ar_unit_of ss ok er hT]; decide) (fun E ss ok er hT => w_unit_of ⟨K, cls⟩ _ ss ok er hT) vs H Q E h⟩)
  unfold t_unit_of
  exact (pss_cons (ps_for (passes_of rfl) (by rfl) (pi_enum (by rfl) T.b_enumerate (pa_cons (pv 0) pa_nil)) (pg_tup (by rfl) (pgs_cons (pg_name (i := 1) sc_unit_of.nd (by rfl) (Or.inr rfl)) (pgs_cons (pg_name (i := 2) sc_unit_of.nd (by rfl) (Or.inr rfl)) pgs_nil)))
  (pss_one (ps_if (pt_val (pe_callB (cr_all (by rfl)) (by rfl) T.b_all (by decide +kernel) (pa_cons (pe_lc (by rfl) sc_unit_of.nd (pi_range1 (by rfl) T.b_range (pa_cons (pe_callB gc_len (by rfl) T.b_len (by decide +kernel) (pa_cons (pv 0) pa_nil)) pa_nil)) (blkOk_by (own := [("a", 3)]) (by (show blkC ["table", "e", "row", "a"] (defScope s_unit_of) _ _ = true); decide +kernel)) (fun _ _ _ _ _ => (pg_name (i := 3) sc_unit_of.nd (by rfl) (Or.inl rfl))) (fun _ _ _ _ _ => pts_nil) (fun _ _ _ _ _ => (pe_and (pe_cmpR (go_eq (hu64 hr)) (pe_ix (go_ix (hu1 hr)) (pv 2) (pv 3) (fun _ _ => rfl)) (pv 3) (nomark _)) (pe_one (pe_cmpR (go_eq (hu64 hr)) (pe_ix (go_ix (hu1 hr)) (pe_ix (go_ix (hu1 hr)) (pv 0) (pv 3) (fun _ _ => rfl)) (pv 1) (fun _ _ => rfl)) (pv 3) (nomark _)))))) pa_nil)))
  (pss_one (ps_ret (pv 1)))
  pss_nil)))
  (pss_one (ps_raise (by rfl) (takes_of rfl rfl rfl rfl) (pmk_own PySem.F.excBase_ValueError T.x_NoUnit T.g_NoUnit T.k_NoUnit (raises_own T.r_NoUnit T.rt_NoUnit) (by rfl)))))
theorem ok_back_of (T : Tx K mg cls A) (G_NoBack_init : FnOk P w K mg base (L2.CX P w) 1 A.a_NoBack_init A.fd_NoBack_init ["self", "thing"] (spXI (cls .NoBack) ["thing"])) : FnOk P w K mg base (L2.CX P w) 3 A.a_back_of A.fd_back_of ["table", "unit", "thing"] (spOf ⟨K, cls⟩ T_back_of) := by
  refine T.F_back_of.okX sc_back_of (spOf_len (n := 3) (ar_back_of)) (fun cdv A outer s H vs Q E hr h => ⟨t_back_of ⟨K, cls⟩ (fun c d _ H => E c d H), ?_, spOf_run (N := ["table", "unit", "thing", "other"]) (t := fun E => t_back_of ⟨K, cls⟩ (fun c d _ H => E c d H)) (fun ss ok er hT => by rw [ar_back_of ss ok er hT]; decide) (fun E ss ok er hT => w_back_of ⟨K, cls⟩ _ ss ok er hT) vs H Q E h⟩)
  unfold t_back_of
  exact (pss_cons (ps_for (passes_of rfl) (by rfl) (pi_range1 (by rfl) T.b_range (pa_cons (pe_callB gc_len (by rfl) T.b_len (by decide +kernel) (pa_cons (pv 0) pa_nil)) pa_nil)) (pg_name (i := 3) sc_back_of.nd (by rfl) (Or.inl rfl))
  (pss_one (ps_if (PW.pt (pw_and (pt_cmpR (go_eq (hu64 hr)) (pe_ix (go_ix (hu1 hr)) (pe_ix (go_ix (hu1 hr)) (pv 0) (pv 2) (fun _ _ => rfl)) (pv 3) (fun _ _ => rfl)) (pv 1) (nomark _)) (pw_and1 (pt_cmpR (go_eq (hu64 hr)) (pe_ix (go_ix (hu1 hr)) (pe_ix (go_ix (hu1 hr)) (pv 0) (pv 3) (fun _ _ => rfl)) (pv 2) (fun _ _ => rfl)) (pv 1) (nomark _)))))
  (pss_one (ps_ret (pv 3)))
  pss_nil)))
  (pss_one (ps_raise (by rfl) (takes_of rfl rfl rfl rfl) (pmk_oex T.O_NoBack T.i_NoBack T.ti_NoBack G_NoBack_init (hr.mono (by decide)) T.b_NoBack_init .nil passL (by rfl) T.g_NoBack (pa_cons (pv 2) pa_nil)))))
theorem ok_look_at_threes (T : Tx K mg cls A) (G_NotTogether_init : FnOk P w K mg base (L2.CX P w) 1 A.a_NotTogether_init A.fd_NotTogether_init ["self", "one", "two", "three"] (spXI (cls .NotTogether) ["one", "two", "three"])) : FnOk P w K mg base (L2.CX P w) 3 A.a_look_at_threes A.fd_look_at_threes ["table"] (spOf ⟨K, cls⟩ T_look_at_threes) := by
  refine T.F_look_at_threes.okX sc_look_at_threes (spOf_len (n := 1) (ar_look_at_threes)) (fun cdv A outer s H vs Q E hr h => ⟨t_look_at_threes ⟨K, cls⟩ (fun c d _ H => E c d H), ?_, spOf_run (N := ["table", "one", "row", "two", "pair", "three", "thing"]) (t := fun E => t_look_at_threes ⟨K, cls⟩ (fun c d _ H => E c d H)) (fun ss ok er hT => by rw [ar_look_at_threes ss ok er hT]; decide) (fun E ss ok er hT => w_look_at_threes ⟨K, cls⟩ _ ss ok er hT) vs H Q E h⟩)
  unfold t_look_at_threes
  exact (pss_one (ps_for (passes_of rfl) (by rfl) (pi_enum (by rfl) T.b_enumerate (pa_cons (pv 0) pa_nil)) (pg_tup (by rfl) (pgs_cons (pg_name (i := 1) sc_look_at_threes.nd (by rfl) (Or.inl rfl)) (pgs_cons (pg_name (i := 2) sc_look_at_threes.nd (by rfl) (Or.inl rfl)) pgs_nil)))
  (pss_one (ps_for (passes_of rfl) (by rfl) (pi_enum (by rfl) T.b_enumerate (pa_cons (pv 2) pa_nil)) (pg_tup (by rfl) (pgs_cons (pg_name (i := 3) sc_look_at_threes.nd (by rfl) (Or.inl rfl)) (pgs_cons (pg_name (i := 4) sc_look_at_threes.nd (by rfl) (Or.inl rfl)) pgs_nil)))
  (pss_one (ps_for (passes_of rfl) (by rfl) (pi_enum (by rfl) T.b_enumerate (pa_cons (pe_ix (go_ix (hu1 hr)) (pv 0) (pv 3) (fun _ _ => rfl)) pa_nil)) (pg_tup (by rfl) (pgs_cons (pg_name (i := 5) sc_look_at_threes.nd (by rfl) (Or.inl rfl)) (pgs_cons (pg_name (i := 6) sc_look_at_threes.nd (by rfl) (Or.inl rfl)) pgs_nil)))
  (pss_one (ps_if (pt_cmpR (go_ne (hu64 hr)) (pe_ix (go_ix (hu1 hr)) (pe_ix (go_ix (hu1 hr)) (pv 0) (pv 4) (fun _ _ => rfl)) (pv 5) (fun _ _ => rfl)) (pe_ix (go_ix (hu1 hr)) (pv 2) (pv 6) (fun _ _ => rfl)) (nomark _))
  (pss_one (ps_raise (by rfl) (takes_of rfl rfl rfl rfl) (pmk_oex T.O_NotTogether T.i_NotTogether T.ti_NotTogether G_NotTogether_init (hr.mono (by decide)) T.b_NotTogether_init .nil passL (by rfl) T.g_NotTogether (pa_cons (pv 1) (pa_cons (pv 3) (pa_cons (pv 5) pa_nil))))))
  pss_nil))))))))
theorem ok_group_of (T : Tx K mg cls A) (G_Group_init : FnOk P w K mg base (L2.CX P w) 1 A.a_Group_init A.fd_Group_init ["self", "rows", "unit", "backs"] (spI_Group ⟨K, cls⟩)) (G_look_at_size : FnOk P w K mg base (L2.CX P w) 1 A.a_look_at_size A.fd_look_at_size ["table"] (spOf ⟨K, cls⟩ T_look_at_size)) (G_look_for_strangers : FnOk P w K mg base (L2.CX P w) 3 A.a_look_for_strangers A.fd_look_for_strangers ["table"] (spOf ⟨K, cls⟩ T_look_for_strangers)) (G_unit_of : FnOk P w K mg base (L2.CX P w) 1 A.a_unit_of A.fd_unit_of ["table"] (spOf ⟨K, cls⟩ T_unit_of)) (G_back_of : FnOk P w K mg base (L2.CX P w) 3 A.a_back_of A.fd_back_of ["table", "unit", "thing"] (spOf ⟨K, cls⟩ T_back_of)) (G_look_at_threes : FnOk P w K mg base (L2.CX P w) 3 A.a_look_at_threes A.fd_look_at_threes ["table"] (spOf ⟨K, cls⟩ T_look_at_threes)) : FnOk P w K mg base (L2.CX P w) 4 A.a_group_of A.fd_group_of ["table"] (spOf ⟨K, cls⟩ T_group_of) := by
  refine T.F_group_of.okX sc_group_of (spOf_len (n := 1) (ar_group_of)) (fun cdv A outer s H vs Q E hr h => ⟨t_group_of ⟨K, cls⟩ (fun c d _ H => E c d H), ?_, spOf_run (N := ["table", "unit", "backs", "thing", "row"]) (t := fun E => t_group_of ⟨K, cls⟩ (fun c d _ H => E c d H)) (fun ss ok er hT => by rw [ar_group_of ss ok er hT]; decide) (fun E ss ok er hT => w_group_of T.grpC _ ss ok er hT) vs H Q E h⟩)
  unfold t_group_of
  exact (pss_cons (ps_expr (pe_callSD G_look_at_size (hr.mono (by decide)) (by rfl) T.g_look_at_size T.k_look_at_size T.b_look_at_size .nil (fun σ => passAt (takes_of rfl rfl rfl rfl) σ) (pa_cons (pv 0) pa_nil)))
  (pss_cons (ps_expr (pe_callSD G_look_for_strangers (hr.mono (by decide)) (by rfl) T.g_look_for_strangers T.k_look_for_strangers T.b_look_for_strangers .nil (fun σ => passAt (takes_of rfl rfl rfl rfl) σ) (pa_cons (pv 0) pa_nil)))
  (pss_cons (ps_set (i := 1) sc_group_of.nd (by rfl) (Or.inr rfl) (pe_callSD G_unit_of (hr.mono (by decide)) (by rfl) T.g_unit_of T.k_unit_of T.b_unit_of .nil (fun σ => passAt (takes_of rfl rfl rfl rfl) σ) (pa_cons (pv 0) pa_nil)))
  (pss_cons (ps_setLcX (i := 2) rfl rfl (takes_of rfl rfl rfl rfl) (by rfl) sc_group_of.nd (by rfl) (by rfl) (sw_true rfl rfl rfl (by decide +kernel)) (pi_range1 (by rfl) T.b_range (pa_cons (pe_callB gc_len (by rfl) T.b_len (by decide +kernel) (pa_cons (pv 0) pa_nil)) pa_nil)) (blkOk_by (own := [("thing", 3)]) (by (show blkC ["table", "unit", "backs", "thing", "row"] (defScope s_group_of) _ _ = true); decide +kernel)) (fun _ _ _ _ _ => (pg_name (i := 3) sc_group_of.nd (by rfl) (Or.inl rfl))) (fun _ _ _ _ _ _ => (pe_call G_back_of (hr.mono (by decide)) (by rfl) T.g_back_of T.k_back_of T.b_back_of .nil passB (pa_cons (pv 0) (pa_cons (pv 1) (pa_cons (pv 3) pa_nil))))))
  (pss_cons (ps_expr (pe_callSD G_look_at_threes (hr.mono (by decide)) (by rfl) T.g_look_at_threes T.k_look_at_threes T.b_look_at_threes .nil (fun σ => passAt (takes_of rfl rfl rfl rfl) σ) (pa_cons (pv 0) pa_nil)))
  (pss_one (ps_ret (pe_make T.M_Group G_Group_init (hr.mono (by decide)) (by rfl) T.g_Group T.b_Group_init .nil passL (pa_cons (pe_lc (by rfl) sc_group_of.nd (pi_list (pv 0)) (blkOk_by (own := [("row", 4)]) (by (show blkC ["table", "unit", "backs", "thing", "row"] (defScope s_group_of) _ _ = true); decide +kernel)) (fun _ _ _ _ _ => (pg_name (i := 4) sc_group_of.nd (by rfl) (Or.inl rfl))) (fun _ _ _ _ _ => pts_nil) (fun _ _ _ _ _ => (pe_callTy gc_list (by rfl) T.b_list (by decide +kernel) (pa_cons (pv 4) pa_nil)))) (pa_cons (pv 1) (pa_cons (pv 2) pa_nil)))))))))))
theorem ok_l_cell (T : Tx K mg cls A) : FnOk P w K mg base (L2.CX P w) 1 A.a_l_cell A.fd_l_cell ["_law_script", "_law_k"] (spOf ⟨K, cls⟩ T_l_cell) := by
  refine T.F_l_cell.okX sc_l_cell (spOf_len (n := 2) (ar_l_cell)) (fun cdv A outer s H vs Q E hr h => ⟨t_l_cell ⟨K, cls⟩ (fun c d _ H => E c d H), ?_, spOf_run (N := ["_law_script", "_law_k"]) (t := fun E => t_l_cell ⟨K, cls⟩ (fun c d _ H => E c d H)) (fun ss ok er hT => by rw [ar_l_cell ss ok er hT]; decide) (fun E ss ok er hT => w_l_cell ⟨K, cls⟩ _ ss ok er hT) vs H Q E h⟩)
  unfold t_l_cell
  exact (pss_cons (ps_if (pt_cmpR go_lt (pv 1) (pe_callB gc_len (by rfl) T.b_len (by decide +kernel) (pa_cons (pv 0) pa_nil)) (nomark _))
  (pss_one (ps_ret (pe_op go_mod (pe_ix (go_ix (hu1 hr)) (pv 0) (pv 1) (fun _ _ => rfl)) pe_int)))
  pss_nil)
  (pss_one (ps_ret pe_int)))
theorem ok_l_sizes (T : Tx K mg cls A) : FnOk P w K mg base (L2.CX P w) 1 A.a_l_sizes A.fd_l_sizes ["_law_one", "_law_two"] (spOf ⟨K, cls⟩ T_l_sizes) := by
  refine T.F_l_sizes.okX sc_l_sizes (spOf_len (n := 2) (ar_l_sizes)) (fun cdv A outer s H vs Q E hr h => ⟨t_l_sizes ⟨K, cls⟩ (fun c d _ H => E c d H), ?_, spOf_run (N := ["_law_one", "_law_two", "_law_number", "_law_some", "_law_top", "_law_steps", "_law_room", "_law_first", "_law_second", "_law_third"]) (t := fun E => t_l_sizes ⟨K, cls⟩ (fun c d _ H => E c d H)) (fun ss ok er hT => by rw [ar_l_sizes ss ok er hT]; decide) (fun E ss ok er hT => w_l_sizes ⟨K, cls⟩ _ ss ok er hT) vs H Q E h⟩)
  unfold t_l_sizes
  exact (pss_cons (ps_set (i := 2) sc_l_sizes.nd (by rfl) (Or.inl rfl) (pe_op go_div (pv 0) pe_int))
  (pss_cons (ps_if (pt_cmpR (go_eq (hu64 hr)) (pe_op go_mod (pv 0) pe_int) pe_int (nomark _))
  (pss_cons (ps_set (i := 3) sc_l_sizes.nd (by rfl) (Or.inl rfl) (pe_lst (pa_cons (pe_lst (pa_cons pe_int (pa_cons pe_int (pa_cons pe_int (pa_cons pe_int pa_nil))))) (pa_cons (pe_lst (pa_cons pe_int (pa_cons pe_int (pa_cons pe_int (pa_cons pe_int pa_nil))))) (pa_cons (pe_lst (pa_cons pe_int (pa_cons pe_int (pa_cons pe_int (pa_cons pe_int pa_nil))))) (pa_cons (pe_lst (pa_cons pe_int (pa_cons pe_int (pa_cons pe_int (pa_cons pe_int pa_nil))))) (pa_cons (pe_lst (pa_cons pe_int (pa_cons pe_int (pa_cons pe_int (pa_cons pe_int pa_nil))))) (pa_cons (pe_lst (pa_cons pe_int (pa_cons pe_int (pa_cons pe_int (pa_cons pe_int pa_nil))))) pa_nil))))))))
  (pss_cons (ps_set (i := 3) sc_l_sizes.nd (by rfl) (Or.inl rfl) (pe_op go_add (pv 3) (pe_lst (pa_cons (pe_lst (pa_cons pe_int (pa_cons pe_int (pa_cons pe_int (pa_cons pe_int pa_nil))))) (pa_cons (pe_lst (pa_cons pe_int (pa_cons pe_int (pa_cons pe_int (pa_cons pe_int pa_nil))))) (pa_cons (pe_lst (pa_cons pe_int (pa_cons pe_int (pa_cons pe_int (pa_cons pe_int pa_nil))))) (pa_cons (pe_lst (pa_cons pe_int (pa_cons pe_int (pa_cons pe_int (pa_cons pe_int pa_nil))))) (pa_cons (pe_lst (pa_cons pe_int (pa_cons pe_int (pa_cons pe_int (pa_cons pe_int pa_nil))))) (pa_cons (pe_lst (pa_cons pe_int (pa_cons pe_int (pa_cons pe_int (pa_cons pe_int pa_nil))))) pa_nil)))))))))
  (pss_one (ps_ret (pe_ix (go_ix (hu1 hr)) (pv 3) (pe_op go_mod (pv 2) pe_int) (fun _ _ => rfl))))))
  pss_nil)
  (pss_cons (ps_set (i := 4) sc_l_sizes.nd (by rfl) (Or.inl rfl) (pe_ix (go_ix (hu1 hr)) (pe_lst (pa_cons pe_int (pa_cons pe_int (pa_cons pe_int (pa_cons pe_int pa_nil))))) (pe_op go_mod (pv 2) pe_int) (fun _ _ => rfl)))
  (pss_cons (ps_set (i := 5) sc_l_sizes.nd (by rfl) (Or.inl rfl) (pe_ix (go_ix (hu1 hr)) (pe_lst (pa_cons pe_int (pa_cons pe_int (pa_cons pe_int (pa_cons pe_int (pa_cons pe_int (pa_cons pe_int pa_nil))))))) (pe_op go_mod (pe_op go_div (pv 2) pe_int) pe_int) (fun _ _ => rfl)))
  (pss_cons (ps_set (i := 6) sc_l_sizes.nd (by rfl) (Or.inl rfl) (pe_op go_div (pv 4) (pv 5)))
  (pss_cons (ps_set (i := 7) sc_l_sizes.nd (by rfl) (Or.inl rfl) (pe_op go_add pe_int (pe_op go_mod (pe_op go_div (pv 2) pe_int) (pv 6))))
  (pss_cons (ps_set (i := 8) sc_l_sizes.nd (by rfl) (Or.inl rfl) (pe_op go_add pe_int (pe_op go_mod (pv 1) (pe_op go_div (pv 6) (pv 7)))))
  (pss_cons (ps_set (i := 9) sc_l_sizes.nd (by rfl) (Or.inl rfl) (pe_op go_add pe_int (pe_op go_mod (pe_op go_div (pv 1) pe_int) (pe_op go_div (pv 6) (pe_op go_mul (pv 7) (pv 8))))))
  (pss_one (ps_ret (pe_lst (pa_cons (pv 7) (pa_cons (pv 8) (pa_cons (pv 9) (pa_cons (pv 5) pa_nil)))))))))))))))
theorem ok_l_kind (T : Tx K mg cls A) : FnOk P w K mg base (L2.CX P w) 1 A.a_l_kind A.fd_l_kind ["_law_sizes_here", "_law_number"] (spOf ⟨K, cls⟩ T_l_kind) := by
  refine T.F_l_kind.okX sc_l_kind (spOf_len (n := 2) (ar_l_kind)) (fun cdv A outer s H vs Q E hr h => ⟨t_l_kind ⟨K, cls⟩ (fun c d _ H => E c d H), ?_, spOf_run (N := ["_law_sizes_here", "_law_number", "_law_kinds"]) (t := fun E => t_l_kind ⟨K, cls⟩ (fun c d _ H => E c d H)) (fun ss ok er hT => by rw [ar_l_kind ss ok er hT]; decide) (fun E ss ok er hT => w_l_kind ⟨K, cls⟩ _ ss ok er hT) vs H Q E h⟩)
  unfold t_l_kind
  exact (pss_cons (ps_set (i := 2) sc_l_kind.nd (by rfl) (Or.inl rfl) (pe_lst (pa_cons pe_int pa_nil)))
  (pss_cons (ps_if (PW.pt (pw_and (pt_cmpR (go_eq (hu64 hr)) (pe_ix (go_ix (hu1 hr)) (pv 0) pe_int (fun _ _ => rfl)) (pe_ix (go_ix (hu1 hr)) (pv 0) pe_int (fun _ _ => rfl)) (nomark _)) (pw_and1 (pt_cmpR (go_eq (hu64 hr)) (pe_op go_mod (pe_ix (go_ix (hu1 hr)) (pv 0) pe_int (fun _ _ => rfl)) pe_int) pe_int (nomark _)))))
  (pss_one (ps_expr (pe_bm PySem.F.plainAttrs_list PySem.F.slot_list_append PySem.F.type_list_append mt_append (pv 2) (pa_cons pe_int pa_nil))))
  pss_nil)
  (pss_cons (ps_if (PW.pt (pw_and (pt_cmpR (go_eq (hu64 hr)) (pe_ix (go_ix (hu1 hr)) (pv 0) pe_int (fun _ _ => rfl)) (pe_ix (go_ix (hu1 hr)) (pv 0) pe_int (fun _ _ => rfl)) (nomark _)) (pw_and1 (pt_cmpR (go_eq (hu64 hr)) (pe_op go_mod (pe_ix (go_ix (hu1 hr)) (pv 0) pe_int (fun _ _ => rfl)) pe_int) pe_int (nomark _)))))
  (pss_one (ps_expr (pe_bm PySem.F.plainAttrs_list PySem.F.slot_list_append PySem.F.type_list_append mt_append (pv 2) (pa_cons pe_int pa_nil))))
  pss_nil)
  (pss_cons (ps_if (PW.pt (pw_and (pt_cmpR (go_eq (hu64 hr)) (pe_op go_mod (pe_ix (go_ix (hu1 hr)) (pv 0) pe_int (fun _ _ => rfl)) (pe_ix (go_ix (hu1 hr)) (pv 0) pe_int (fun _ _ => rfl))) pe_int (nomark _)) (pw_and (pt_cmpR go_gt (pe_ix (go_ix (hu1 hr)) (pv 0) pe_int (fun _ _ => rfl)) pe_int (nomark _)) (pw_and1 (pt_cmpR (go_eq (hu64 hr)) (pe_op go_mod (pe_ix (go_ix (hu1 hr)) (pv 0) pe_int (fun _ _ => rfl)) (pe_ix (go_ix (hu1 hr)) (pv 0) pe_int (fun _ _ => rfl))) pe_int (nomark _))))))
  (pss_one (ps_expr (pe_bm PySem.F.plainAttrs_list PySem.F.slot_list_append PySem.F.type_list_append mt_append (pv 2) (pa_cons pe_int pa_nil))))
  pss_nil)
  (pss_cons (ps_if (PW.pt (pw_and (pt_cmpR (go_eq (hu64 hr)) (pe_op go_mod (pe_ix (go_ix (hu1 hr)) (pv 0) pe_int (fun _ _ => rfl)) pe_int) pe_int (nomark _)) (pw_and (pt_cmpR (go_eq (hu64 hr)) (pe_op go_mod (pe_ix (go_ix (hu1 hr)) (pv 0) pe_int (fun _ _ => rfl)) pe_int) pe_int (nomark _)) (pw_and1 (pt_cmpR (go_eq (hu64 hr)) (pe_op go_mod (pe_ix (go_ix (hu1 hr)) (pv 0) pe_int (fun _ _ => rfl)) pe_int) pe_int (nomark _))))))
  (pss_one (ps_expr (pe_bm PySem.F.plainAttrs_list PySem.F.slot_list_append PySem.F.type_list_append mt_append (pv 2) (pa_cons pe_int pa_nil))))
  pss_nil)
  (pss_one (ps_ret (pe_ix (go_ix (hu1 hr)) (pv 2) (pe_op go_mod (pv 1) (pe_callB gc_len (by rfl) T.b_len (by decide +kernel) (pa_cons (pv 2) pa_nil))) (fun _ _ => rfl)))))))))
theorem ok_l_unit (T : Tx K mg cls A) : FnOk P w K mg base (L2.CX P w) 1 A.a_l_unit A.fd_l_unit ["_law_many", "_law_steps", "_law_number"] (spOf ⟨K, cls⟩ T_l_unit) := by
  refine T.F_l_unit.okX sc_l_unit (spOf_len (n := 3) (ar_l_unit)) (fun cdv A outer s H vs Q E hr h => ⟨t_l_unit ⟨K, cls⟩ (fun c d _ H => E c d H), ?_, spOf_run (N := ["_law_many", "_law_steps", "_law_number", "_law_units", "_law_u", "_law_found", "_law_k"]) (t := fun E => t_l_unit ⟨K, cls⟩ (fun c d _ H => E c d H)) (fun ss ok er hT => by rw [ar_l_unit ss ok er hT]; decide) (fun E ss ok er hT => w_l_unit ⟨K, cls⟩ _ ss ok er hT) vs H Q E h⟩)
  unfold t_l_unit
  exact (pss_cons (ps_set (i := 3) sc_l_unit.nd (by rfl) (Or.inl rfl) (pe_lst pa_nil))
  (pss_cons (ps_for (passes_of rfl) (by rfl) (pi_range1 (by rfl) T.b_range (pa_cons (pv 0) pa_nil)) (pg_name (i := 4) sc_l_unit.nd (by rfl) (Or.inl rfl))
  (pss_cons (ps_set (i := 5) sc_l_unit.nd (by rfl) (Or.inl rfl) pe_int)
  (pss_cons (ps_for (passes_of rfl) (by rfl) (pi_range1 (by rfl) T.b_range (pa_cons (pv 1) pa_nil)) (pg_name (i := 6) sc_l_unit.nd (by rfl) (Or.inl rfl))
  (pss_one (ps_set (i := 5) sc_l_unit.nd (by rfl) (Or.inl rfl) (pe_op go_mod (pe_op go_mul (pv 5) (pv 4)) (pv 0)))))
  (pss_one (ps_if (pt_cmpR (go_eq (hu64 hr)) (pv 5) (pe_op go_mod pe_int (pv 0)) (nomark _))
  (pss_one (ps_expr (pe_bm PySem.F.plainAttrs_list PySem.F.slot_list_append PySem.F.type_list_append mt_append (pv 3) (pa_cons (pv 4) pa_nil))))
  pss_nil)))))
  (pss_cons (ps_if (PW.pt (pw_and (pt_cmpR go_gt (pe_op go_mul (pv 0) (pv 1)) pe_int (nomark _)) (pw_and1 (pt_cmpR go_gt (pe_callB gc_len (by rfl) T.b_len (by decide +kernel) (pa_cons (pv 3) pa_nil)) pe_int (nomark _)))))
  (pss_one (ps_set (i := 3) sc_l_unit.nd (by rfl) (Or.inl rfl) (pe_slice sl_list (pv 3) (po_some pe_int) po_none)))
  pss_nil)
  (pss_one (ps_ret (pe_ix (go_ix (hu1 hr)) (pv 3) (pe_op go_mod (pv 2) (pe_callB gc_len (by rfl) T.b_len (by decide +kernel) (pa_cons (pv 3) pa_nil))) (fun _ _ => rfl)))))))
theorem ok_l_turned (T : Tx K mg cls A) : FnOk P w K mg base (L2.CX P w) 1 A.a_l_turned A.fd_l_turned ["_law_place", "_law_sizes_here", "_law_kind_here", "_law_units"] (spOf ⟨K, cls⟩ T_l_turned) := by
  refine T.F_l_turned.okX sc_l_turned (spOf_len (n := 4) (ar_l_turned)) (fun cdv A outer s H vs Q E hr h => ⟨t_l_turned ⟨K, cls⟩ (fun c d _ H => E c d H), ?_, spOf_run (N := ["_law_place", "_law_sizes_here", "_law_kind_here", "_law_units", "_law_x", "_law_y", "_law_w"]) (t := fun E => t_l_turned ⟨K, cls⟩ (fun c d _ H => E c d H)) (fun ss ok er hT => by rw [ar_l_turned ss ok er hT]; decide) (fun E ss ok er hT => w_l_turned ⟨K, cls⟩ _ ss ok er hT) vs H Q E h⟩)
  unfold t_l_turned
  exact (pss_cons (ps_set (i := 4) sc_l_turned.nd (by rfl) (Or.inl rfl) (pe_op go_mod (pv 0) (pe_ix (go_ix (hu1 hr)) (pv 1) pe_int (fun _ _ => rfl))))
  (pss_cons (ps_set (i := 5) sc_l_turned.nd (by rfl) (Or.inl rfl) (pe_op go_mod (pe_op go_div (pv 0) (pe_ix (go_ix (hu1 hr)) (pv 1) pe_int (fun _ _ => rfl))) (pe_ix (go_ix (hu1 hr)) (pv 1) pe_int (fun _ _ => rfl))))
  (pss_cons (ps_set (i := 6) sc_l_turned.nd (by rfl) (Or.inl rfl) (pe_op go_mod (pe_op go_mul (pe_op go_div (pv 0) (pe_op go_mul (pe_ix (go_ix (hu1 hr)) (pv 1) pe_int (fun _ _ => rfl)) (pe_ix (go_ix (hu1 hr)) (pv 1) pe_int (fun _ _ => rfl)))) (pe_ix (go_ix (hu1 hr)) (pv 3) pe_int (fun _ _ => rfl))) (pe_ix (go_ix (hu1 hr)) (pv 1) pe_int (fun _ _ => rfl))))
  (pss_cons (ps_if (pt_cmpR (go_eq (hu64 hr)) (pv 2) pe_int (nomark _))
  (pss_one (ps_par (i := 4) (j := 5) (by rfl) sc_l_turned.nd (by rfl) (by rfl) (by decide) (by rfl) (by rfl) (pa_cons (pv 5) (pa_cons (pv 4) pa_nil)) (by rfl)))
  (pss_one (ps_if (pt_cmpR (go_eq (hu64 hr)) (pv 2) pe_int (nomark _))
  (pss_one (ps_par (i := 4) (j := 5) (by rfl) sc_l_turned.nd (by rfl) (by rfl) (by decide) (by rfl) (by rfl) (pa_cons (pe_op go_mod (pe_op go_sub pe_int (pv 5)) (pe_ix (go_ix (hu1 hr)) (pv 1) pe_int (fun _ _ => rfl))) (pa_cons (pe_op go_mod (pe_op go_sub (pv 4) (pv 5)) (pe_ix (go_ix (hu1 hr)) (pv 1) pe_int (fun _ _ => rfl))) pa_nil)) (by rfl)))
  (pss_one (ps_if (pt_cmpR (go_eq (hu64 hr)) (pv 2) pe_int (nomark _))
  (pss_one (ps_set (i := 5) sc_l_turned.nd (by rfl) (Or.inl rfl) (pe_op go_mod (pe_op go_add (pv 5) (pv 4)) (pe_ix (go_ix (hu1 hr)) (pv 1) pe_int (fun _ _ => rfl)))))
  (pss_one (ps_if (pt_cmpR (go_eq (hu64 hr)) (pv 2) pe_int (nomark _))
  (pss_one (ps_set (i := 4) sc_l_turned.nd (by rfl) (Or.inl rfl) (pe_op go_mod (pe_op go_add (pv 4) (pe_op go_mul (pe_op go_div (pe_ix (go_ix (hu1 hr)) (pv 1) pe_int (fun _ _ => rfl)) pe_int) (pv 5))) (pe_ix (go_ix (hu1 hr)) (pv 1) pe_int (fun _ _ => rfl)))))
  (pss_cons (ps_set (i := 4) sc_l_turned.nd (by rfl) (Or.inl rfl) (pe_op go_mod (pe_op go_mul (pv 4) (pe_ix (go_ix (hu1 hr)) (pv 3) pe_int (fun _ _ => rfl))) (pe_ix (go_ix (hu1 hr)) (pv 1) pe_int (fun _ _ => rfl))))
  (pss_one (ps_set (i := 5) sc_l_turned.nd (by rfl) (Or.inl rfl) (pe_op go_mod (pe_op go_mul (pv 5) (pe_ix (go_ix (hu1 hr)) (pv 3) pe_int (fun _ _ => rfl))) (pe_ix (go_ix (hu1 hr)) (pv 1) pe_int (fun _ _ => rfl)))))))))))))
  (pss_one (ps_ret (pe_op go_add (pv 4) (pe_op go_mul (pe_ix (go_ix (hu1 hr)) (pv 1) pe_int (fun _ _ => rfl)) (pe_op go_add (pv 5) (pe_op go_mul (pe_ix (go_ix (hu1 hr)) (pv 1) pe_int (fun _ _ => rfl)) (pv 6)))))))))))
theorem ok_l_sum (T : Tx K mg cls A) : FnOk P w K mg base (L2.CX P w) 1 A.a_l_sum A.fd_l_sum ["_law_one", "_law_other", "_law_sizes_here"] (spOf ⟨K, cls⟩ T_l_sum) := by
  refine T.F_l_sum.okX sc_l_sum (spOf_len (n := 3) (ar_l_sum)) (fun cdv A outer s H vs Q E hr h => ⟨t_l_sum ⟨K, cls⟩ (fun c d _ H => E c d H), ?_, spOf_run (N := ["_law_one", "_law_other", "_law_sizes_here", "_law_both", "_law_x", "_law_y", "_law_w"]) (t := fun E => t_l_sum ⟨K, cls⟩ (fun c d _ H => E c d H)) (fun ss ok er hT => by rw [ar_l_sum ss ok er hT]; decide) (fun E ss ok er hT => w_l_sum ⟨K, cls⟩ _ ss ok er hT) vs H Q E h⟩)
  unfold t_l_sum
  exact (pss_cons (ps_set (i := 3) sc_l_sum.nd (by rfl) (Or.inl rfl) (pe_op go_mul (pe_ix (go_ix (hu1 hr)) (pv 2) pe_int (fun _ _ => rfl)) (pe_ix (go_ix (hu1 hr)) (pv 2) pe_int (fun _ _ => rfl))))
  (pss_cons (ps_set (i := 4) sc_l_sum.nd (by rfl) (Or.inl rfl) (pe_op go_mod (pe_op go_add (pv 0) (pv 1)) (pe_ix (go_ix (hu1 hr)) (pv 2) pe_int (fun _ _ => rfl))))
  (pss_cons (ps_set (i := 5) sc_l_sum.nd (by rfl) (Or.inl rfl) (pe_op go_mod (pe_op go_add (pe_op go_div (pv 0) (pe_ix (go_ix (hu1 hr)) (pv 2) pe_int (fun _ _ => rfl))) (pe_op go_div (pv 1) (pe_ix (go_ix (hu1 hr)) (pv 2) pe_int (fun _ _ => rfl)))) (pe_ix (go_ix (hu1 hr)) (pv 2) pe_int (fun _ _ => rfl))))
  (pss_cons (ps_set (i := 6) sc_l_sum.nd (by rfl) (Or.inl rfl) (pe_op go_mod (pe_op go_add (pe_op go_div (pv 0) (pv 3)) (pe_op go_div (pv 1) (pv 3))) (pe_ix (go_ix (hu1 hr)) (pv 2) pe_int (fun _ _ => rfl))))
  (pss_one (ps_ret (pe_op go_add (pe_op go_add (pv 4) (pe_op go_mul (pe_ix (go_ix (hu1 hr)) (pv 2) pe_int (fun _ _ => rfl)) (pv 5))) (pe_op go_mul (pv 3) (pv 6)))))))))
theorem ok_l_rows (T : Tx K mg cls A) (G_l_sum : FnOk P w K mg base (L2.CX P w) 1 A.a_l_sum A.fd_l_sum ["_law_one", "_law_other", "_law_sizes_here"] (spOf ⟨K, cls⟩ T_l_sum)) : FnOk P w K mg base (L2.CX P w) 2 A.a_l_rows A.fd_l_rows ["_law_sizes_here", "_law_turn", "_law_end"] (spOf ⟨K, cls⟩ T_l_rows) := by
  refine T.F_l_rows.okX sc_l_rows (spOf_len (n := 3) (ar_l_rows)) (fun cdv A outer s H vs Q E hr h => ⟨t_l_rows ⟨K, cls⟩ (fun c d _ H => E c d H), ?_, spOf_run (N := ["_law_sizes_here", "_law_turn", "_law_end", "_law_calm", "_law_rows_here", "_law_led", "_law_i", "_law_one", "_law_row", "_law_j", "_law_other", "_law_place"]) (t := fun E => t_l_rows ⟨K, cls⟩ (fun c d _ H => E c d H)) (fun ss ok er hT => by rw [ar_l_rows ss ok er hT]; decide) (fun E ss ok er hT => w_l_rows ⟨K, cls⟩ _ ss ok er hT) vs H Q E h⟩)
  unfold t_l_rows
  exact (pss_cons (ps_set (i := 3) sc_l_rows.nd (by rfl) (Or.inl rfl) (pe_callB gc_len (by rfl) T.b_len (by decide +kernel) (pa_cons (pv 1) pa_nil)))
  (pss_cons (ps_set (i := 4) sc_l_rows.nd (by rfl) (Or.inl rfl) (pe_lst pa_nil))
  (pss_cons (ps_set (i := 5) sc_l_rows.nd (by rfl) (Or.inl rfl) (pe_listRg (by rfl) (by rfl) T.b_list (prg_1 (by rfl) T.b_range (pv 3))))
  (pss_cons (ps_for (passes_of rfl) (by rfl) (pi_range1 (by rfl) T.b_range (pa_cons (pe_ix (go_ix (hu1 hr)) (pv 0) pe_int (fun _ _ => rfl)) pa_nil)) (pg_name (i := 6) sc_l_rows.nd (by rfl) (Or.inl rfl))
  (pss_cons (ps_for (passes_of rfl) (by rfl) (pi_range1 (by rfl) T.b_range (pa_cons (pv 3) pa_nil)) (pg_name (i := 7) sc_l_rows.nd (by rfl) (Or.inl rfl))
  (pss_cons (ps_set (i := 8) sc_l_rows.nd (by rfl) (Or.inl rfl) (pe_lst pa_nil))
  (pss_cons (ps_for (passes_of rfl) (by rfl) (pi_range1 (by rfl) T.b_range (pa_cons (pe_ix (go_ix (hu1 hr)) (pv 0) pe_int (fun _ _ => rfl)) pa_nil)) (pg_name (i := 9) sc_l_rows.nd (by rfl) (Or.inl rfl))
  (pss_one (ps_for (passes_of rfl) (by rfl) (pi_range1 (by rfl) T.b_range (pa_cons (pv 3) pa_nil)) (pg_name (i := 10) sc_l_rows.nd (by rfl) (Or.inl rfl))
  (pss_cons (ps_set (i := 11) sc_l_rows.nd (by rfl) (Or.inl rfl) (pe_callSD G_l_sum (hr.mono (by decide)) (by rfl) T.g_l_sum T.k_l_sum T.b_l_sum .nil (fun σ => passAt (takes_of rfl rfl rfl rfl) σ) (pa_cons (pv 7) (pa_cons (pe_ix (go_ix (hu1 hr)) (pv 5) (pv 10) (fun _ _ => rfl)) (pa_cons (pv 0) pa_nil)))))
  (pss_cons (ps_if (pt_cmpR go_ge (pe_op go_add (pv 6) (pv 9)) (pe_ix (go_ix (hu1 hr)) (pv 0) pe_int (fun _ _ => rfl)) (nomark _))
  (pss_one (ps_set (i := 11) sc_l_rows.nd (by rfl) (Or.inl rfl) (pe_callSD G_l_sum (hr.mono (by decide)) (by rfl) T.g_l_sum T.k_l_sum T.b_l_sum .nil (fun σ => passAt (takes_of rfl rfl rfl rfl) σ) (pa_cons (pv 11) (pa_cons (pv 2) (pa_cons (pv 0) pa_nil))))))
  pss_nil)
  (pss_one (ps_expr (pe_bm PySem.F.plainAttrs_list PySem.F.slot_list_append PySem.F.type_list_append mt_append (pv 8) (pa_cons (pe_op go_add (pv 11) (pe_op go_mul (pv 3) (pe_op go_mod (pe_op go_add (pv 6) (pv 9)) (pe_ix (go_ix (hu1 hr)) (pv 0) pe_int (fun _ _ => rfl))))) pa_nil)))))))))
  (pss_one (ps_expr (pe_bm PySem.F.plainAttrs_list PySem.F.slot_list_append PySem.F.type_list_append mt_append (pv 4) (pa_cons (pv 8) pa_nil)))))))
  (pss_one (ps_setLc (i := 5) (by rfl) sc_l_rows.nd (by rfl) (by rfl) (sw_true rfl rfl rfl (by decide +kernel)) (pi_list (pv 5)) (blkOk_by (own := [("_law_place", 11)]) (by (show blkC ["_law_sizes_here", "_law_turn", "_law_end", "_law_calm", "_law_rows_here", "_law_led", "_law_i", "_law_one", "_law_row", "_law_j", "_law_other", "_law_place"] (defScope s_l_rows) _ _ = true); decide +kernel)) (fun _ _ _ _ _ => (pg_name (i := 11) sc_l_rows.nd (by rfl) (Or.inl rfl))) (fun _ _ _ _ _ => pts_nil) (fun _ _ _ _ _ => (pe_ix (go_ix (hu1 hr)) (pv 1) (pv 11) (fun _ _ => rfl)))))))
  (pss_one (ps_ret (pv 4)))))))
theorem ok_l_names (T : Tx K mg cls A) : FnOk P w K mg base (L2.CX P w) 1 A.a_l_names A.fd_l_names ["_law_many", "_law_number"] (spOf ⟨K, cls⟩ T_l_names) := by
  refine T.F_l_names.okX sc_l_names (spOf_len (n := 2) (ar_l_names)) (fun cdv A outer s H vs Q E hr h => ⟨t_l_names ⟨K, cls⟩ (fun c d _ H => E c d H), ?_, spOf_run (N := ["_law_many", "_law_number", "_law_names_here", "_law_k"]) (t := fun E => t_l_names ⟨K, cls⟩ (fun c d _ H => E c d H)) (fun ss ok er hT => by rw [ar_l_names ss ok er hT]; decide) (fun E ss ok er hT => w_l_names ⟨K, cls⟩ _ ss ok er hT) vs H Q E h⟩)
  unfold t_l_names
  exact (pss_cons (ps_set (i := 2) sc_l_names.nd (by rfl) (Or.inl rfl) (pe_lst pa_nil))
  (pss_cons (ps_for (passes_of rfl) (by rfl) (pi_range1 (by rfl) T.b_range (pa_cons (pv 0) pa_nil)) (pg_name (i := 3) sc_l_names.nd (by rfl) (Or.inl rfl))
  (pss_cons (ps_set (i := 1) sc_l_names.nd (by rfl) (Or.inl rfl) (pe_op go_mod (pe_op go_add (pe_op go_add (pe_op go_add (pe_op go_mul (pv 1) (pv 1)) (pe_op go_mul pe_int (pv 1))) (pv 3)) pe_int) pe_int))
  (pss_one (ps_expr (pe_bm PySem.F.plainAttrs_list PySem.F.slot_list_insert PySem.F.type_list_insert gm_insert (pv 2) (pa_cons (pe_op go_mod (pv 1) (pe_op go_add (pv 3) pe_int)) (pa_cons (pv 3) pa_nil)))))))
  (pss_one (ps_ret (pv 2)))))
theorem ok_l_group (T : Tx K mg cls A) (G_l_cell : FnOk P w K mg base (L2.CX P w) 1 A.a_l_cell A.fd_l_cell ["_law_script", "_law_k"] (spOf ⟨K, cls⟩ T_l_cell)) (G_l_sizes : FnOk P w K mg base (L2.CX P w) 1 A.a_l_sizes A.fd_l_sizes ["_law_one", "_law_two"] (spOf ⟨K, cls⟩ T_l_sizes)) (G_l_kind : FnOk P w K mg base (L2.CX P w) 1 A.a_l_kind A.fd_l_kind ["_law_sizes_here", "_law_number"] (spOf ⟨K, cls⟩ T_l_kind)) (G_l_unit : FnOk P w K mg base (L2.CX P w) 1 A.a_l_unit A.fd_l_unit ["_law_many", "_law_steps", "_law_number"] (spOf ⟨K, cls⟩ T_l_unit)) (G_l_turned : FnOk P w K mg base (L2.CX P w) 1 A.a_l_turned A.fd_l_turned ["_law_place", "_law_sizes_here", "_law_kind_here", "_law_units"] (spOf ⟨K, cls⟩ T_l_turned)) (G_l_rows : FnOk P w K mg base (L2.CX P w) 2 A.a_l_rows A.fd_l_rows ["_law_sizes_here", "_law_turn", "_law_end"] (spOf ⟨K, cls⟩ T_l_rows)) (G_l_names : FnOk P w K mg base (L2.CX P w) 1 A.a_l_names A.fd_l_names ["_law_many", "_law_number"] (spOf ⟨K, cls⟩ T_l_names)) : FnOk P w K mg base (L2.CX P w) 3 A.a_l_group A.fd_l_group ["_law_script", "_law_start"] (spOf ⟨K, cls⟩ T_l_group) := by
  refine T.F_l_group.okX sc_l_group (spOf_len (n := 2) (ar_l_group)) (fun cdv A outer s H vs Q E hr h => ⟨t_l_group ⟨K, cls⟩ (fun c d _ H => E c d H), ?_, spOf_run (N := ["_law_script", "_law_start", "_law_one", "_law_two", "_law_sizes_here", "_law_stirred", "_law_kind_here", "_law_units", "_law_k", "_law_calm", "_law_turn", "_law_end", "_law_rows_here", "_law_names_here", "_law_table", "_law_a", "_law_row", "_law_b", "_law_thing", "_law_place"]) (t := fun E => t_l_group ⟨K, cls⟩ (fun c d _ H => E c d H)) (fun ss ok er hT => by rw [ar_l_group ss ok er hT]; decide) (fun E ss ok er hT => w_l_group ⟨K, cls⟩ _ ss ok er hT) vs H Q E h⟩)
  unfold t_l_group
  exact (pss_cons (ps_set (i := 2) sc_l_group.nd (by rfl) (Or.inl rfl) (pe_callSD G_l_cell (hr.mono (by decide)) (by rfl) T.g_l_cell T.k_l_cell T.b_l_cell .nil (fun σ => passAt (takes_of rfl rfl rfl rfl) σ) (pa_cons (pv 0) (pa_cons (pv 1) pa_nil))))
  (pss_cons (ps_set (i := 3) sc_l_group.nd (by rfl) (Or.inl rfl) (pe_callSD G_l_cell (hr.mono (by decide)) (by rfl) T.g_l_cell T.k_l_cell T.b_l_cell .nil (fun σ => passAt (takes_of rfl rfl rfl rfl) σ) (pa_cons (pv 0) (pa_cons (pe_op go_add (pv 1) pe_int) pa_nil))))
  (pss_cons (ps_set (i := 4) sc_l_group.nd (by rfl) (Or.inr rfl) (pe_callSD G_l_sizes (hr.mono (by decide)) (by rfl) T.g_l_sizes T.k_l_sizes T.b_l_sizes .nil (fun σ => passAt (takes_of rfl rfl rfl rfl) σ) (pa_cons (pv 2) (pa_cons (pv 3) pa_nil))))
  (pss_cons (ps_set (i := 5) sc_l_group.nd (by rfl) (Or.inl rfl) (pe_op go_mod (pe_op go_mul (pe_op go_mul (pe_op go_add (pv 3) pe_int) (pe_op go_add (pv 3) pe_int)) pe_int) pe_int))
  (pss_cons (ps_set (i := 6) sc_l_group.nd (by rfl) (Or.inr rfl) (pe_callSD G_l_kind (hr.mono (by decide)) (by rfl) T.g_l_kind T.k_l_kind T.b_l_kind .nil (fun σ => passAt (takes_of rfl rfl rfl rfl) σ) (pa_cons (pv 4) (pa_cons (pv 5) pa_nil))))
  (pss_cons (ps_set (i := 7) sc_l_group.nd (by rfl) (Or.inr rfl) (pe_lst pa_nil))
  (pss_cons (ps_for (passes_of rfl) (by rfl) (pi_range1 (by rfl) T.b_range (pa_cons pe_int pa_nil)) (pg_name (i := 8) sc_l_group.nd (by rfl) (Or.inl rfl))
  (pss_one (ps_expr (pe_bm PySem.F.plainAttrs_list PySem.F.slot_list_append PySem.F.type_list_append mt_append (pv 7) (pa_cons (pe_callSD G_l_unit (hr.mono (by decide)) (by rfl) T.g_l_unit T.k_l_unit T.b_l_unit .nil (fun σ => passAt (takes_of rfl rfl rfl rfl) σ) (pa_cons (pe_ix (go_ix (hu1 hr)) (pv 4) (pv 8) (fun _ _ => rfl)) (pa_cons (pe_ix (go_ix (hu1 hr)) (pv 4) pe_int (fun _ _ => rfl)) (pa_cons (pe_op go_div (pv 5) (pe_ix (go_ix (hu1 hr)) (pe_lst (pa_cons pe_int (pa_cons pe_int (pa_cons pe_int pa_nil)))) (pv 8) (fun _ _ => rfl))) pa_nil)))) pa_nil)))))
  (pss_cons (ps_set (i := 9) sc_l_group.nd (by rfl) (Or.inl rfl) (pe_op go_mul (pe_op go_mul (pe_ix (go_ix (hu1 hr)) (pv 4) pe_int (fun _ _ => rfl)) (pe_ix (go_ix (hu1 hr)) (pv 4) pe_int (fun _ _ => rfl))) (pe_ix (go_ix (hu1 hr)) (pv 4) pe_int (fun _ _ => rfl))))
  (pss_cons (ps_setLc (i := 10) (by rfl) sc_l_group.nd (by rfl) (by rfl) (sw_true rfl rfl rfl (by decide +kernel)) (pi_range1 (by rfl) T.b_range (pa_cons (pv 9) pa_nil)) (blkOk_by (own := [("_law_place", 19)]) (by (show blkC ["_law_script", "_law_start", "_law_one", "_law_two", "_law_sizes_here", "_law_stirred", "_law_kind_here", "_law_units", "_law_k", "_law_calm", "_law_turn", "_law_end", "_law_rows_here", "_law_names_here", "_law_table", "_law_a", "_law_row", "_law_b", "_law_thing", "_law_place"] (defScope s_l_group) _ _ = true); decide +kernel)) (fun _ _ _ _ _ => (pg_name (i := 19) sc_l_group.nd (by rfl) (Or.inl rfl))) (fun _ _ _ _ _ => pts_nil) (fun _ _ _ _ _ => (pe_call G_l_turned (hr.mono (by decide)) (by rfl) T.g_l_turned T.k_l_turned T.b_l_turned .nil passL (pa_cons (pv 19) (pa_cons (pv 4) (pa_cons (pv 6) (pa_cons (pv 7) pa_nil)))))))
  (pss_cons (ps_set (i := 11) sc_l_group.nd (by rfl) (Or.inl rfl) (pe_op go_mod (pe_op go_mod (pe_op go_mul (pe_op go_mul (pe_op go_add (pv 2) pe_int) (pe_op go_add (pv 2) pe_int)) pe_int) pe_int) (pv 9)))
  (pss_cons (ps_if (pt_cmpR (go_ne (hu64 hr)) (pe_ix (go_ix (hu1 hr)) (pv 10) (pv 11) (fun _ _ => rfl)) (pv 11) (nomark _))
  (pss_one (ps_set (i := 11) sc_l_group.nd (by rfl) (Or.inl rfl) pe_int))
  pss_nil)
  (pss_cons (ps_set (i := 12) sc_l_group.nd (by rfl) (Or.inl rfl) (pe_callSD G_l_rows (hr.mono (by decide)) (by rfl) T.g_l_rows T.k_l_rows T.b_l_rows .nil (fun σ => passAt (takes_of rfl rfl rfl rfl) σ) (pa_cons (pv 4) (pa_cons (pv 10) (pa_cons (pv 11) pa_nil)))))
  (pss_cons (ps_set (i := 13) sc_l_group.nd (by rfl) (Or.inl rfl) (pe_callSD G_l_names (hr.mono (by decide)) (by rfl) T.g_l_names T.k_l_names T.b_l_names .nil (fun σ => passAt (takes_of rfl rfl rfl rfl) σ) (pa_cons (pe_callB gc_len (by rfl) T.b_len (by decide +kernel) (pa_cons (pv 12) pa_nil)) (pa_cons (pe_callSD G_l_cell (hr.mono (by decide)) (by rfl) T.g_l_cell T.k_l_cell T.b_l_cell .nil (fun σ => passAt (takes_of rfl rfl rfl rfl) σ) (pa_cons (pv 0) (pa_cons (pe_op go_add (pv 1) pe_int) pa_nil))) pa_nil))))
  (pss_cons (ps_setLc (i := 14) (by rfl) sc_l_group.nd (by rfl) (by rfl) (sw_true rfl rfl rfl (by decide +kernel)) (pi_list (pv 12)) (blkOk_by (own := [("_law_row", 16)]) (by (show blkC ["_law_script", "_law_start", "_law_one", "_law_two", "_law_sizes_here", "_law_stirred", "_law_kind_here", "_law_units", "_law_k", "_law_calm", "_law_turn", "_law_end", "_law_rows_here", "_law_names_here", "_law_table", "_law_a", "_law_row", "_law_b", "_law_thing", "_law_place"] (defScope s_l_group) _ _ = true); decide +kernel)) (fun _ _ _ _ _ => (pg_name (i := 16) sc_l_group.nd (by rfl) (Or.inl rfl))) (fun _ _ _ _ _ => pts_nil) (fun _ _ _ _ _ => (pe_callTy gc_list (by rfl) T.b_list (by decide +kernel) (pa_cons (pv 16) pa_nil))))
  (pss_cons (ps_for (passes_of rfl) (by rfl) (pi_enum (by rfl) T.b_enumerate (pa_cons (pv 12) pa_nil)) (pg_tup (by rfl) (pgs_cons (pg_name (i := 15) sc_l_group.nd (by rfl) (Or.inl rfl)) (pgs_cons (pg_name (i := 16) sc_l_group.nd (by rfl) (Or.inl rfl)) pgs_nil)))
  (pss_one (ps_for (passes_of rfl) (by rfl) (pi_enum (by rfl) T.b_enumerate (pa_cons (pv 16) pa_nil)) (pg_tup (by rfl) (pgs_cons (pg_name (i := 17) sc_l_group.nd (by rfl) (Or.inl rfl)) (pgs_cons (pg_name (i := 18) sc_l_group.nd (by rfl) (Or.inl rfl)) pgs_nil)))
  (pss_one (ps_asg (pe_ix (go_ix (hu1 hr)) (pv 13) (pv 18) (fun _ _ => rfl)) (pg_sub (pe_ix (go_ix (hu1 hr)) (pv 14) (pe_ix (go_ix (hu1 hr)) (pv 13) (pv 15) (fun _ _ => rfl)) (fun _ _ => rfl)) (pe_ix (go_ix (hu1 hr)) (pv 13) (pv 17) (fun _ _ => rfl)) (gs_set (hu1 hr))))))))
  (pss_one (ps_ret (pv 14))))))))))))))))))
theorem ok_l_raw (T : Tx K mg cls A) (G_l_cell : FnOk P w K mg base (L2.CX P w) 1 A.a_l_cell A.fd_l_cell ["_law_script", "_law_k"] (spOf ⟨K, cls⟩ T_l_cell)) : FnOk P w K mg base (L2.CX P w) 2 A.a_l_raw A.fd_l_raw ["_law_script", "_law_many"] (spOf ⟨K, cls⟩ T_l_raw) := by
  refine T.F_l_raw.okX sc_l_raw (spOf_len (n := 2) (ar_l_raw)) (fun cdv A outer s H vs Q E hr h => ⟨t_l_raw ⟨K, cls⟩ (fun c d _ H => E c d H), ?_, spOf_run (N := ["_law_script", "_law_many", "_law_table", "_law_a", "_law_b"]) (t := fun E => t_l_raw ⟨K, cls⟩ (fun c d _ H => E c d H)) (fun ss ok er hT => by rw [ar_l_raw ss ok er hT]; decide) (fun E ss ok er hT => w_l_raw ⟨K, cls⟩ _ ss ok er hT) vs H Q E h⟩)
  unfold t_l_raw
  exact (pss_cons (ps_set (i := 2) sc_l_raw.nd (by rfl) (Or.inl rfl) (pe_lst pa_nil))
  (pss_cons (ps_for (passes_of rfl) (by rfl) (pi_range1 (by rfl) T.b_range (pa_cons (pv 1) pa_nil)) (pg_name (i := 3) sc_l_raw.nd (by rfl) (Or.inr rfl))
  (pss_one (ps_expr (pe_bm PySem.F.plainAttrs_list PySem.F.slot_list_append PySem.F.type_list_append mt_append (pv 2) (pa_cons (pe_lc (by rfl) sc_l_raw.nd (pi_range1 (by rfl) T.b_range (pa_cons (pv 1) pa_nil)) (blkOk_by (own := [("_law_b", 4)]) (by (show blkC ["_law_script", "_law_many", "_law_table", "_law_a", "_law_b"] (defScope s_l_raw) _ _ = true); decide +kernel)) (fun _ _ _ _ _ => (pg_name (i := 4) sc_l_raw.nd (by rfl) (Or.inl rfl))) (fun _ _ _ _ _ => pts_nil) (fun _ _ _ _ _ => (pe_op go_mod (pe_call G_l_cell (hr.mono (by decide)) (by rfl) T.g_l_cell T.k_l_cell T.b_l_cell .nil passL (pa_cons (pv 0) (pa_cons (pe_op go_add (pe_op go_add pe_int (pe_op go_mul (pv 3) (pv 1))) (pv 4)) pa_nil))) (pv 1)))) pa_nil)))))
  (pss_one (ps_ret (pv 2)))))
theorem ok_l_with_unit (T : Tx K mg cls A) : FnOk P w K mg base (L2.CX P w) 1 A.a_l_with_unit A.fd_l_with_unit ["_law_table", "_law_unit_here"] (spMv ⟨K, cls⟩ T_l_with_unit) := by
  refine T.F_l_with_unit.okX sc_l_with_unit (spMv_len (n := 2) (ar_l_with_unit)) (fun cdv A outer s H vs Q E hr h => ⟨t_l_with_unit ⟨K, cls⟩ (fun c d _ H => E c d H), ?_, spMv_run (N := ["_law_table", "_law_unit_here", "_law_a"]) (t := fun E => t_l_with_unit ⟨K, cls⟩ (fun c d _ H => E c d H)) (fun ss ok er hT => by rw [ar_l_with_unit ss ok er hT]; decide) (fun E ss ok er hT => w_l_with_unit ⟨K, cls⟩ _ ss ok er hT) vs H Q E h⟩)
  unfold t_l_with_unit
  exact (pss_cons (ps_for (passes_of rfl) (by rfl) (pi_range1 (by rfl) T.b_range (pa_cons (pe_callB gc_len (by rfl) T.b_len (by decide +kernel) (pa_cons (pv 0) pa_nil)) pa_nil)) (pg_name (i := 2) sc_l_with_unit.nd (by rfl) (Or.inl rfl))
  (pss_cons (ps_asg (pv 2) (pg_sub (pe_ix (go_ix (hu1 hr)) (pv 0) (pv 1) (fun _ _ => rfl)) (pv 2) (gs_set (hu1 hr))))
  (pss_one (ps_asg (pv 2) (pg_sub (pe_ix (go_ix (hu1 hr)) (pv 0) (pv 2) (fun _ _ => rfl)) (pv 1) (gs_set (hu1 hr)))))))
  (pss_one (ps_ret (pv 0))))
theorem ok_l_with_backs (T : Tx K mg cls A) : FnOk P w K mg base (L2.CX P w) 1 A.a_l_with_backs A.fd_l_with_backs ["_law_table", "_law_unit_here", "_law_number"] (spMv ⟨K, cls⟩ T_l_with_backs) := by
  refine T.F_l_with_backs.okX sc_l_with_backs (spMv_len (n := 3) (ar_l_with_backs)) (fun cdv A outer s H vs Q E hr h => ⟨t_l_with_backs ⟨K, cls⟩ (fun c d _ H => E c d H), ?_, spMv_run (N := ["_law_table", "_law_unit_here", "_law_number", "_law_many", "_law_others", "_law_one", "_law_two", "_law_a"]) (t := fun E => t_l_with_backs ⟨K, cls⟩ (fun c d _ H => E c d H)) (fun ss ok er hT => by rw [ar_l_with_backs ss ok er hT]; decide) (fun E ss ok er hT => w_l_with_backs ⟨K, cls⟩ _ ss ok er hT) vs H Q E h⟩)
  unfold t_l_with_backs
  exact (pss_cons (ps_set (i := 3) sc_l_with_backs.nd (by rfl) (Or.inl rfl) (pe_callB gc_len (by rfl) T.b_len (by decide +kernel) (pa_cons (pv 0) pa_nil)))
  (pss_cons (ps_setLc (i := 4) (by rfl) sc_l_with_backs.nd (by rfl) (by rfl) (sw_true rfl rfl rfl (by decide +kernel)) (pi_range1 (by rfl) T.b_range (pa_cons (pv 3) pa_nil)) (blkOk_by (own := [("_law_a", 7)]) (by (show blkC ["_law_table", "_law_unit_here", "_law_number", "_law_many", "_law_others", "_law_one", "_law_two", "_law_a"] (defScope s_l_with_backs) _ _ = true); decide +kernel)) (fun _ _ _ _ _ => (pg_name (i := 7) sc_l_with_backs.nd (by rfl) (Or.inl rfl))) (fun _ _ _ _ _ => (pts_one (pt_cmpR (go_ne (hu64 hr)) (pv 7) (pv 1) (nomark _)))) (fun _ _ _ _ _ => (pv 7)))
  (pss_cons (ps_if (PW.pt (pw_and (pt_cmpR (go_eq (hu64 hr)) (pe_op go_mod (pv 2) pe_int) pe_int (nomark _)) (pw_and1 (pt_cmpR go_gt (pv 3) pe_int (nomark _)))))
  (pss_cons (ps_set (i := 5) sc_l_with_backs.nd (by rfl) (Or.inr rfl) (pe_ix (go_ix (hu1 hr)) (pv 4) (pe_op go_mod (pe_op go_div (pv 2) pe_int) (pe_op go_sub (pv 3) pe_int)) (fun _ _ => rfl)))
  (pss_cons (ps_set (i := 6) sc_l_with_backs.nd (by rfl) (Or.inr rfl) (pe_ix (go_ix (hu1 hr)) (pv 4) (pe_op go_mod (pe_op go_add (pe_op go_div (pv 2) pe_int) pe_int) (pe_op go_sub (pv 3) pe_int)) (fun _ _ => rfl)))
  (pss_cons (ps_asg (pv 1) (pg_sub (pe_ix (go_ix (hu1 hr)) (pv 0) (pv 5) (fun _ _ => rfl)) (pv 6) (gs_set (hu1 hr))))
  (pss_cons (ps_asg (pv 1) (pg_sub (pe_ix (go_ix (hu1 hr)) (pv 0) (pv 6) (fun _ _ => rfl)) (pv 5) (gs_set (hu1 hr))))
  (pss_one (ps_setLc (i := 4) (by rfl) sc_l_with_backs.nd (by rfl) (by rfl) (sw_true rfl rfl rfl (by decide +kernel)) (pi_list (pv 4)) (blkOk_by (own := [("_law_a", 7)]) (by (show blkC ["_law_table", "_law_unit_here", "_law_number", "_law_many", "_law_others", "_law_one", "_law_two", "_law_a"] (defScope s_l_with_backs) _ _ = true); decide +kernel)) (fun _ _ _ _ _ => (pg_name (i := 7) sc_l_with_backs.nd (by rfl) (Or.inl rfl))) (fun _ _ _ _ _ => (pts_one (PW.pt (pw_and (pt_cmpR (go_ne (hu64 hr)) (pv 7) (pv 5) (nomark _)) (pw_and1 (pt_cmpR (go_ne (hu64 hr)) (pv 7) (pv 6) (nomark _))))))) (fun _ _ _ _ _ => (pv 7))))))))
  pss_nil)
  (pss_cons (ps_for (passes_of rfl) (by rfl) (pi_list (pv 4)) (pg_name (i := 7) sc_l_with_backs.nd (by rfl) (Or.inl rfl))
  (pss_one (ps_asg (pv 1) (pg_sub (pe_ix (go_ix (hu1 hr)) (pv 0) (pv 7) (fun _ _ => rfl)) (pv 7) (gs_set (hu1 hr))))))
  (pss_one (ps_ret (pv 0)))))))
theorem ok_l_numbers (T : Tx K mg cls A) : FnOk P w K mg base (L2.CX P w) 1 A.a_l_numbers A.fd_l_numbers ["_law_many", "_law_way", "_law_names_here"] (spOf ⟨K, cls⟩ T_l_numbers) := by
  refine T.F_l_numbers.okX sc_l_numbers (spOf_len (n := 3) (ar_l_numbers)) (fun cdv A outer s H vs Q E hr h => ⟨t_l_numbers ⟨K, cls⟩ (fun c d _ H => E c d H), ?_, spOf_run (N := ["_law_many", "_law_way", "_law_names_here", "_law_table", "_law_a", "_law_b", "_law_found"]) (t := fun E => t_l_numbers ⟨K, cls⟩ (fun c d _ H => E c d H)) (fun ss ok er hT => by rw [ar_l_numbers ss ok er hT]; decide) (fun E ss ok er hT => w_l_numbers ⟨K, cls⟩ _ ss ok er hT) vs H Q E h⟩)
  unfold t_l_numbers
  exact (pss_cons (ps_setLc (i := 3) (by rfl) sc_l_numbers.nd (by rfl) (by rfl) (sw_true rfl rfl rfl (by decide +kernel)) (pi_range1 (by rfl) T.b_range (pa_cons (pv 0) pa_nil)) (blkOk_by (own := [("_law_a", 4)]) (by (show blkC ["_law_many", "_law_way", "_law_names_here", "_law_table", "_law_a", "_law_b", "_law_found"] (defScope s_l_numbers) _ _ = true); decide +kernel)) (fun _ _ _ _ _ => (pg_name (i := 4) sc_l_numbers.nd (by rfl) (Or.inl rfl))) (fun _ _ _ _ _ => pts_nil) (fun _ _ _ _ _ => (pe_lc (by rfl) sc_l_numbers.nd (pi_range1 (by rfl) T.b_range (pa_cons (pv 0) pa_nil)) (blkOk_by (own := [("_law_b", 5)]) (by first | kernel_rfl | rfl)) (fun _ _ _ _ _ => (pg_name (i := 5) sc_l_numbers.nd (by rfl) (Or.inl rfl))) (fun _ _ _ _ _ => pts_nil) (fun _ _ _ _ _ => pe_int))))
  (pss_cons (ps_for (passes_of rfl) (by rfl) (pi_range1 (by rfl) T.b_range (pa_cons (pv 0) pa_nil)) (pg_name (i := 4) sc_l_numbers.nd (by rfl) (Or.inl rfl))
  (pss_one (ps_for (passes_of rfl) (by rfl) (pi_range1 (by rfl) T.b_range (pa_cons (pv 0) pa_nil)) (pg_name (i := 5) sc_l_numbers.nd (by rfl) (Or.inl rfl))
  (pss_cons (ps_set (i := 6) sc_l_numbers.nd (by rfl) (Or.inl rfl) (pe_op go_mod (pe_op go_mul (pv 4) (pv 5)) (pv 0)))
  (pss_cons (ps_if (pt_cmpR (go_eq (hu64 hr)) (pv 1) pe_int (nomark _))
  (pss_one (ps_set (i := 6) sc_l_numbers.nd (by rfl) (Or.inl rfl) (pe_callB (gc_min (by rfl)) (by rfl) T.b_min (by decide +kernel) (pa_cons (pv 4) (pa_cons (pv 5) pa_nil)))))
  pss_nil)
  (pss_one (ps_asg (pe_ix (go_ix (hu1 hr)) (pv 2) (pv 6) (fun _ _ => rfl)) (pg_sub (pe_ix (go_ix (hu1 hr)) (pv 3) (pe_ix (go_ix (hu1 hr)) (pv 2) (pv 4) (fun _ _ => rfl)) (fun _ _ => rfl)) (pe_ix (go_ix (hu1 hr)) (pv 2) (pv 5) (fun _ _ => rfl)) (gs_set (hu1 hr))))))))))
  (pss_one (ps_ret (pv 3)))))
theorem ok_l_made (T : Tx K mg cls A) (G_l_cell : FnOk P w K mg base (L2.CX P w) 1 A.a_l_cell A.fd_l_cell ["_law_script", "_law_k"] (spOf ⟨K, cls⟩ T_l_cell)) (G_l_names : FnOk P w K mg base (L2.CX P w) 1 A.a_l_names A.fd_l_names ["_law_many", "_law_number"] (spOf ⟨K, cls⟩ T_l_names)) (G_l_group : FnOk P w K mg base (L2.CX P w) 3 A.a_l_group A.fd_l_group ["_law_script", "_law_start"] (spOf ⟨K, cls⟩ T_l_group)) (G_l_raw : FnOk P w K mg base (L2.CX P w) 2 A.a_l_raw A.fd_l_raw ["_law_script", "_law_many"] (spOf ⟨K, cls⟩ T_l_raw)) (G_l_with_unit : FnOk P w K mg base (L2.CX P w) 1 A.a_l_with_unit A.fd_l_with_unit ["_law_table", "_law_unit_here"] (spMv ⟨K, cls⟩ T_l_with_unit)) (G_l_with_backs : FnOk P w K mg base (L2.CX P w) 1 A.a_l_with_backs A.fd_l_with_backs ["_law_table", "_law_unit_here", "_law_number"] (spMv ⟨K, cls⟩ T_l_with_backs)) (G_l_numbers : FnOk P w K mg base (L2.CX P w) 1 A.a_l_numbers A.fd_l_numbers ["_law_many", "_law_way", "_law_names_here"] (spOf ⟨K, cls⟩ T_l_numbers)) : FnOk P w K mg base (L2.CX P w) 4 A.a_l_made A.fd_l_made ["_law_script"] (spOf ⟨K, cls⟩ T_l_made) := by
  refine T.F_l_made.okX sc_l_made (spOf_len (n := 1) (ar_l_made)) (fun cdv A outer s H vs Q E hr h => ⟨t_l_made ⟨K, cls⟩ (fun c d _ H => E c d H), ?_, spOf_run (N := ["_law_script", "_law_way", "_law_number", "_law_many", "_law_unit_here", "_law_table", "_law_cell_here", "_law_place"]) (t := fun E => t_l_made ⟨K, cls⟩ (fun c d _ H => E c d H)) (fun ss ok er hT => by rw [ar_l_made ss ok er hT]; decide) (fun E ss ok er hT => w_l_made ⟨K, cls⟩ _ ss ok er hT) vs H Q E h⟩)
  unfold t_l_made
  exact (pss_cons (ps_set (i := 1) sc_l_made.nd (by rfl) (Or.inl rfl) (pe_op go_mod (pe_callSD G_l_cell (hr.mono (by decide)) (by rfl) T.g_l_cell T.k_l_cell T.b_l_cell .nil (fun σ => passAt (takes_of rfl rfl rfl rfl) σ) (pa_cons (pv 0) (pa_cons pe_int pa_nil))) pe_int))
  (pss_cons (ps_set (i := 2) sc_l_made.nd (by rfl) (Or.inl rfl) (pe_callSD G_l_cell (hr.mono (by decide)) (by rfl) T.g_l_cell T.k_l_cell T.b_l_cell .nil (fun σ => passAt (takes_of rfl rfl rfl rfl) σ) (pa_cons (pv 0) (pa_cons pe_int pa_nil))))
  (pss_cons (ps_set (i := 3) sc_l_made.nd (by rfl) (Or.inl rfl) (pe_op go_add pe_int (pe_op go_mod (pv 2) pe_int)))
  (pss_cons (ps_set (i := 4) sc_l_made.nd (by rfl) (Or.inl rfl) (pe_op go_mod (pe_op go_div (pv 2) pe_int) (pv 3)))
  (pss_cons (ps_if (pt_cmpR (go_eq (hu64 hr)) (pv 1) pe_int (nomark _))
  (pss_one (ps_ret (pe_callSD G_l_raw (hr.mono (by decide)) (by rfl) T.g_l_raw T.k_l_raw T.b_l_raw .nil (fun σ => passAt (takes_of rfl rfl rfl rfl) σ) (pa_cons (pv 0) (pa_cons (pv 3) pa_nil)))))
  pss_nil)
  (pss_cons (ps_if (pt_cmpR (go_eq (hu64 hr)) (pv 1) pe_int (nomark _))
  (pss_one (ps_ret (pe_callSD G_l_with_unit (hr.mono (by decide)) (by rfl) T.g_l_with_unit T.k_l_with_unit T.b_l_with_unit .nil (fun σ => passAt (takes_of rfl rfl rfl rfl) σ) (pa_cons (pe_callSD G_l_raw (hr.mono (by decide)) (by rfl) T.g_l_raw T.k_l_raw T.b_l_raw .nil (fun σ => passAt (takes_of rfl rfl rfl rfl) σ) (pa_cons (pv 0) (pa_cons (pv 3) pa_nil))) (pa_cons (pv 4) pa_nil)))))
  pss_nil)
  (pss_cons (ps_if (pt_cmpR (go_eq (hu64 hr)) (pv 1) pe_int (nomark _))
  (pss_one (ps_ret (pe_callSD G_l_with_backs (hr.mono (by decide)) (by rfl) T.g_l_with_backs T.k_l_with_backs T.b_l_with_backs .nil (fun σ => passAt (takes_of rfl rfl rfl rfl) σ) (pa_cons (pe_callSD G_l_with_unit (hr.mono (by decide)) (by rfl) T.g_l_with_unit T.k_l_with_unit T.b_l_with_unit .nil (fun σ => passAt (takes_of rfl rfl rfl rfl) σ) (pa_cons (pe_callSD G_l_raw (hr.mono (by decide)) (by rfl) T.g_l_raw T.k_l_raw T.b_l_raw .nil (fun σ => passAt (takes_of rfl rfl rfl rfl) σ) (pa_cons (pv 0) (pa_cons (pv 3) pa_nil))) (pa_cons (pv 4) pa_nil))) (pa_cons (pv 4) (pa_cons (pe_op go_div (pv 2) pe_int) pa_nil))))))
  pss_nil)
  (pss_cons (ps_if (pt_cmpR (go_eq (hu64 hr)) (pv 1) pe_int (nomark _))
  (pss_cons (ps_set (i := 3) sc_l_made.nd (by rfl) (Or.inl rfl) (pe_op go_add pe_int (pe_op go_mod (pv 2) pe_int)))
  (pss_one (ps_ret (pe_callSD G_l_numbers (hr.mono (by decide)) (by rfl) T.g_l_numbers T.k_l_numbers T.b_l_numbers .nil (fun σ => passAt (takes_of rfl rfl rfl rfl) σ) (pa_cons (pv 3) (pa_cons (pe_op go_mod (pe_op go_div (pv 2) pe_int) pe_int) (pa_cons (pe_callSD G_l_names (hr.mono (by decide)) (by rfl) T.g_l_names T.k_l_names T.b_l_names .nil (fun σ => passAt (takes_of rfl rfl rfl rfl) σ) (pa_cons (pv 3) (pa_cons (pe_callSD G_l_cell (hr.mono (by decide)) (by rfl) T.g_l_cell T.k_l_cell T.b_l_cell .nil (fun σ => passAt (takes_of rfl rfl rfl rfl) σ) (pa_cons (pv 0) (pa_cons pe_int pa_nil))) pa_nil))) pa_nil)))))))
  pss_nil)
  (pss_cons (ps_set (i := 5) sc_l_made.nd (by rfl) (Or.inl rfl) (pe_callSD G_l_group (hr.mono (by decide)) (by rfl) T.g_l_group T.k_l_group T.b_l_group .nil (fun σ => passAt (takes_of rfl rfl rfl rfl) σ) (pa_cons (pv 0) (pa_cons pe_int pa_nil))))
  (pss_cons (ps_set (i := 3) sc_l_made.nd (by rfl) (Or.inl rfl) (pe_callB gc_len (by rfl) T.b_len (by decide +kernel) (pa_cons (pv 5) pa_nil)))
  (pss_cons (ps_if (pt_cmpR (go_eq (hu64 hr)) (pv 1) pe_int (nomark _))
  (pss_one (ps_for (passes_of rfl) (by rfl) (pi_list (pe_slice sl_list (pv 0) (po_some pe_int) (po_some pe_int))) (pg_name (i := 6) sc_l_made.nd (by rfl) (Or.inl rfl))
  (pss_cons (ps_set (i := 7) sc_l_made.nd (by rfl) (Or.inl rfl) (pe_op go_mod (pe_op go_mod (pv 6) pe_int) (pe_op go_mul (pv 3) (pv 3))))
  (pss_one (ps_asg (pe_op go_mod (pe_op go_mod (pe_op go_div (pv 6) pe_int) pe_int) (pv 3)) (pg_sub (pe_ix (go_ix (hu1 hr)) (pv 5) (pe_op go_div (pv 7) (pv 3)) (fun _ _ => rfl)) (pe_op go_mod (pv 7) (pv 3)) (gs_set (hu1 hr))))))))
  pss_nil)
  (pss_one (ps_ret (pv 5))))))))))))))
theorem ok_l_unit_of (T : Tx K mg cls A) : FnOk P w K mg base (L2.CX P w) 1 A.a_l_unit_of A.fd_l_unit_of ["_law_table"] (spOf ⟨K, cls⟩ T_l_unit_of) := by
  refine T.F_l_unit_of.okX sc_l_unit_of (spOf_len (n := 1) (ar_l_unit_of)) (fun cdv A outer s H vs Q E hr h => ⟨t_l_unit_of ⟨K, cls⟩ (fun c d _ H => E c d H), ?_, spOf_run (N := ["_law_table", "_law_e", "_law_row", "_law_column", "_law_other"]) (t := fun E => t_l_unit_of ⟨K, cls⟩ (fun c d _ H => E c d H)) (fun ss ok er hT => by rw [ar_l_unit_of ss ok er hT]; decide) (fun E ss ok er hT => w_l_unit_of ⟨K, cls⟩ _ ss ok er hT) vs H Q E h⟩)
  unfold t_l_unit_of
  exact (pss_cons (ps_for (passes_of rfl) (by rfl) (pi_enum (by rfl) T.b_enumerate (pa_cons (pv 0) pa_nil)) (pg_tup (by rfl) (pgs_cons (pg_name (i := 1) sc_l_unit_of.nd (by rfl) (Or.inr rfl)) (pgs_cons (pg_name (i := 2) sc_l_unit_of.nd (by rfl) (Or.inl rfl)) pgs_nil)))
  (pss_cons (ps_setLc (i := 3) (by rfl) sc_l_unit_of.nd (by rfl) (by rfl) (sw_true rfl rfl rfl (by decide +kernel)) (pi_list (pv 0)) (blkOk_by (own := [("_law_other", 4)]) (by (show blkC ["_law_table", "_law_e", "_law_row", "_law_column", "_law_other"] (defScope s_l_unit_of) _ _ = true); decide +kernel)) (fun _ _ _ _ _ => (pg_name (i := 4) sc_l_unit_of.nd (by rfl) (Or.inl rfl))) (fun _ _ _ _ _ => pts_nil) (fun _ _ _ _ _ => (pe_ix (go_ix (hu1 hr)) (pv 4) (pv 1) (fun _ _ => rfl))))
  (pss_one (ps_if (PW.pt (pw_and (pt_cmpR (go_eq (hu64 hr)) (pv 2) (pe_listRg (by rfl) (by rfl) T.b_list (prg_1 (by rfl) T.b_range (pe_callB gc_len (by rfl) T.b_len (by decide +kernel) (pa_cons (pv 0) pa_nil)))) (nomark _)) (pw_and1 (pt_cmpR (go_eq (hu64 hr)) (pv 3) (pv 2) (nomark _)))))
  (pss_one (ps_ret (pv 1)))
  pss_nil))))
  (pss_one (ps_ret (pe_un go_neg pe_int))))
theorem ok_l_backs (T : Tx K mg cls A) : FnOk P w K mg base (L2.CX P w) 1 A.a_l_backs A.fd_l_backs ["_law_table", "_law_unit_here"] (spOf ⟨K, cls⟩ T_l_backs) := by
  refine T.F_l_backs.okX sc_l_backs (spOf_len (n := 2) (ar_l_backs)) (fun cdv A outer s H vs Q E hr h => ⟨t_l_backs ⟨K, cls⟩ (fun c d _ H => E c d H), ?_, spOf_run (N := ["_law_table", "_law_unit_here", "_law_backs_here", "_law_a", "_law_some", "_law_b"]) (t := fun E => t_l_backs ⟨K, cls⟩ (fun c d _ H => E c d H)) (fun ss ok er hT => by rw [ar_l_backs ss ok er hT]; decide) (fun E ss ok er hT => w_l_backs ⟨K, cls⟩ _ ss ok er hT) vs H Q E h⟩)
  unfold t_l_backs
  exact (pss_cons (ps_set (i := 2) sc_l_backs.nd (by rfl) (Or.inl rfl) (pe_lst pa_nil))
  (pss_cons (ps_for (passes_of rfl) (by rfl) (pi_range1 (by rfl) T.b_range (pa_cons (pe_callB gc_len (by rfl) T.b_len (by decide +kernel) (pa_cons (pv 0) pa_nil)) pa_nil)) (pg_name (i := 3) sc_l_backs.nd (by rfl) (Or.inr rfl))
  (pss_cons (ps_setLc (i := 4) (by rfl) sc_l_backs.nd (by rfl) (by rfl) (sw_true rfl rfl rfl (by decide +kernel)) (pi_range1 (by rfl) T.b_range (pa_cons (pe_callB gc_len (by rfl) T.b_len (by decide +kernel) (pa_cons (pv 0) pa_nil)) pa_nil)) (blkOk_by (own := [("_law_b", 5)]) (by (show blkC ["_law_table", "_law_unit_here", "_law_backs_here", "_law_a", "_law_some", "_law_b"] (defScope s_l_backs) _ _ = true); decide +kernel)) (fun _ _ _ _ _ => (pg_name (i := 5) sc_l_backs.nd (by rfl) (Or.inl rfl))) (fun _ _ _ _ _ => (pts_one (pt_cmpR (go_eq (hu64 hr)) (pe_ix (go_ix (hu1 hr)) (pe_ix (go_ix (hu1 hr)) (pv 0) (pv 3) (fun _ _ => rfl)) (pv 5) (fun _ _ => rfl)) (pv 1) (nomark _)))) (fun _ _ _ _ _ => (pv 5)))
  (pss_cons (ps_setLc (i := 4) (by rfl) sc_l_backs.nd (by rfl) (by rfl) (sw_true rfl rfl rfl (by decide +kernel)) (pi_list (pv 4)) (blkOk_by (own := [("_law_b", 5)]) (by (show blkC ["_law_table", "_law_unit_here", "_law_backs_here", "_law_a", "_law_some", "_law_b"] (defScope s_l_backs) _ _ = true); decide +kernel)) (fun _ _ _ _ _ => (pg_name (i := 5) sc_l_backs.nd (by rfl) (Or.inl rfl))) (fun _ _ _ _ _ => (pts_one (pt_cmpR (go_eq (hu64 hr)) (pe_ix (go_ix (hu1 hr)) (pe_ix (go_ix (hu1 hr)) (pv 0) (pv 5) (fun _ _ => rfl)) (pv 3) (fun _ _ => rfl)) (pv 1) (nomark _)))) (fun _ _ _ _ _ => (pv 5)))
  (pss_cons (ps_if (pt_cmpR (go_eq (hu64 hr)) (pe_callB gc_len (by rfl) T.b_len (by decide +kernel) (pa_cons (pv 4) pa_nil)) pe_int (nomark _))
  (pss_one (ps_ret (pe_lst (pa_cons pe_str (pa_cons (pv 3) pa_nil)))))
  pss_nil)
  (pss_one (ps_expr (pe_bm PySem.F.plainAttrs_list PySem.F.slot_list_append PySem.F.type_list_append mt_append (pv 2) (pa_cons (pe_ix (go_ix (hu1 hr)) (pv 4) pe_int (fun _ _ => rfl)) pa_nil))))))))
  (pss_one (ps_ret (pv 2)))))
theorem ok_l_apart (T : Tx K mg cls A) : FnOk P w K mg base (L2.CX P w) 1 A.a_l_apart A.fd_l_apart ["_law_table"] (spOf ⟨K, cls⟩ T_l_apart) := by
  refine T.F_l_apart.okX sc_l_apart (spOf_len (n := 1) (ar_l_apart)) (fun cdv A outer s H vs Q E hr h => ⟨t_l_apart ⟨K, cls⟩ (fun c d _ H => E c d H), ?_, spOf_run (N := ["_law_table", "_law_many", "_law_a", "_law_b", "_law_c"]) (t := fun E => t_l_apart ⟨K, cls⟩ (fun c d _ H => E c d H)) (fun ss ok er hT => by rw [ar_l_apart ss ok er hT]; decide) (fun E ss ok er hT => w_l_apart ⟨K, cls⟩ _ ss ok er hT) vs H Q E h⟩)
  unfold t_l_apart
  exact (pss_cons (ps_set (i := 1) sc_l_apart.nd (by rfl) (Or.inl rfl) (pe_callB gc_len (by rfl) T.b_len (by decide +kernel) (pa_cons (pv 0) pa_nil)))
  (pss_cons (ps_for (passes_of rfl) (by rfl) (pi_range1 (by rfl) T.b_range (pa_cons (pv 1) pa_nil)) (pg_name (i := 2) sc_l_apart.nd (by rfl) (Or.inl rfl))
  (pss_one (ps_for (passes_of rfl) (by rfl) (pi_range1 (by rfl) T.b_range (pa_cons (pv 1) pa_nil)) (pg_name (i := 3) sc_l_apart.nd (by rfl) (Or.inl rfl))
  (pss_one (ps_for (passes_of rfl) (by rfl) (pi_range1 (by rfl) T.b_range (pa_cons (pv 1) pa_nil)) (pg_name (i := 4) sc_l_apart.nd (by rfl) (Or.inl rfl))
  (pss_one (ps_if (pt_cmpR (go_ne (hu64 hr)) (pe_ix (go_ix (hu1 hr)) (pe_ix (go_ix (hu1 hr)) (pv 0) (pe_ix (go_ix (hu1 hr)) (pe_ix (go_ix (hu1 hr)) (pv 0) (pv 2) (fun _ _ => rfl)) (pv 3) (fun _ _ => rfl)) (fun _ _ => rfl)) (pv 4) (fun _ _ => rfl)) (pe_ix (go_ix (hu1 hr)) (pe_ix (go_ix (hu1 hr)) (pv 0) (pv 2) (fun _ _ => rfl)) (pe_ix (go_ix (hu1 hr)) (pe_ix (go_ix (hu1 hr)) (pv 0) (pv 3) (fun _ _ => rfl)) (pv 4) (fun _ _ => rfl)) (fun _ _ => rfl)) (nomark _))
  (pss_one (ps_ret (pe_lst (pa_cons pe_str (pa_cons (pv 2) (pa_cons (pv 3) (pa_cons (pv 4) pa_nil)))))))
  pss_nil)))))))
  (pss_one (ps_ret (pe_lst pa_nil)))))
theorem ok_l_due (T : Tx K mg cls A) (G_l_unit_of : FnOk P w K mg base (L2.CX P w) 1 A.a_l_unit_of A.fd_l_unit_of ["_law_table"] (spOf ⟨K, cls⟩ T_l_unit_of)) (G_l_backs : FnOk P w K mg base (L2.CX P w) 1 A.a_l_backs A.fd_l_backs ["_law_table", "_law_unit_here"] (spOf ⟨K, cls⟩ T_l_backs)) (G_l_apart : FnOk P w K mg base (L2.CX P w) 1 A.a_l_apart A.fd_l_apart ["_law_table"] (spOf ⟨K, cls⟩ T_l_apart)) : FnOk P w K mg base (L2.CX P w) 2 A.a_l_due A.fd_l_due ["_law_table"] (spOf ⟨K, cls⟩ T_l_due) := by
  refine T.F_l_due.okX sc_l_due (spOf_len (n := 1) (ar_l_due)) (fun cdv A outer s H vs Q E hr h => ⟨t_l_due ⟨K, cls⟩ (fun c d _ H => E c d H), ?_, spOf_run (N := ["_law_table", "_law_unit_here", "_law_backs_here"]) (t := fun E => t_l_due ⟨K, cls⟩ (fun c d _ H => E c d H)) (fun ss ok er hT => by rw [ar_l_due ss ok er hT]; decide) (fun E ss ok er hT => w_l_due ⟨K, cls⟩ _ ss ok er hT) vs H Q E h⟩)
  unfold t_l_due
  exact (pss_cons (ps_set (i := 1) sc_l_due.nd (by rfl) (Or.inl rfl) (pe_callSD G_l_unit_of (hr.mono (by decide)) (by rfl) T.g_l_unit_of T.k_l_unit_of T.b_l_unit_of .nil (fun σ => passAt (takes_of rfl rfl rfl rfl) σ) (pa_cons (pv 0) pa_nil)))
  (pss_cons (ps_if (pt_cmpR go_lt (pv 1) pe_int (nomark _))
  (pss_one (ps_ret (pe_lst (pa_cons pe_str pa_nil))))
  pss_nil)
  (pss_cons (ps_set (i := 2) sc_l_due.nd (by rfl) (Or.inl rfl) (pe_callSD G_l_backs (hr.mono (by decide)) (by rfl) T.g_l_backs T.k_l_backs T.b_l_backs .nil (fun σ => passAt (takes_of rfl rfl rfl rfl) σ) (pa_cons (pv 0) (pa_cons (pv 1) pa_nil))))
  (pss_cons (ps_if (pt_cmpR (go_eq (hu64 hr)) (pe_ix (go_ix (hu1 hr)) (pv 2) pe_int (fun _ _ => rfl)) pe_str (nomark _))
  (pss_one (ps_ret (pv 2)))
  pss_nil)
  (pss_one (ps_ret (pe_callSD G_l_apart (hr.mono (by decide)) (by rfl) T.g_l_apart T.k_l_apart T.b_l_apart .nil (fun σ => passAt (takes_of rfl rfl rfl rfl) σ) (pa_cons (pv 0) pa_nil))))))))
theorem ok_l_told (T : Tx K mg cls A) (G_group_of : FnOk P w K mg base (L2.CX P w) 4 A.a_group_of A.fd_group_of ["table"] (spOf ⟨K, cls⟩ T_group_of)) : FnOk P w K mg base (L2.CX P w) 5 A.a_l_told A.fd_l_told ["_law_table"] (spOf ⟨K, cls⟩ T_l_told) := by
  refine T.F_l_told.okX sc_l_told (spOf_len (n := 1) (ar_l_told)) (fun cdv A outer s H vs Q E hr h => ⟨t_l_told ⟨K, cls⟩ (fun c d _ H => E c d H), ?_, spOf_run (N := ["_law_table", "_law_found", "_law_e", "_law_k"]) (t := fun E => t_l_told ⟨K, cls⟩ (fun c d _ H => E c d H)) (fun ss ok er hT => by rw [ar_l_told ss ok er hT]; decide) (fun E ss ok er hT => w_l_told T.exs (by decide) (by decide) (by decide) (by decide) _ ss ok er hT) vs H Q E h⟩)
  unfold t_l_told
  exact (pss_cons (ps_set (i := 1) sc_l_told.nd (by rfl) (Or.inl rfl) (pe_lst pa_nil))
  (pss_cons (ps_try rfl rfl rfl sc_l_told.nd (takes_of rfl rfl rfl rfl) (fun _ pn xe tkB ppB =>
  (pss_one (ps_expr (pe_callSD G_group_of (hr.mono (by decide)) (by rfl) T.g_group_of T.k_group_of T.b_group_of .nil (fun σ => passAt tkB σ) (pa_cons (pv 0) pa_nil)))))
  (HdlOk.plain ⟨rfl, by decide, .inl T.g_NoUnit⟩ (fun a_ oe cls_ d_ pn hz hf => (pss_one (ps_set (i := 1) sc_l_told.nd (by rfl) (Or.inl rfl) (pe_lst (pa_cons pe_str pa_nil)))))
  (HdlOk.named (i := 2) (by rfl) (by rfl) ⟨rfl, by decide, .inl T.g_NoBack⟩ (fun a_ oe cls_ d_ pn hz hf => (pss_one (ps_set (i := 1) sc_l_told.nd (by rfl) (Or.inl rfl) (pe_lst (pa_cons pe_str (pa_cons (pe_xf (T.exs.xf (D := .NoBack) (by decide)) T.n_NoBack_thing hz hf (pv 2)) pa_nil))))))
  (HdlOk.named (i := 2) (by rfl) (by rfl) ⟨rfl, by decide, .inl T.g_NotTogether⟩ (fun a_ oe cls_ d_ pn hz hf => (pss_one (ps_set (i := 1) sc_l_told.nd (by rfl) (Or.inl rfl) (pe_lst (pa_cons pe_str (pa_cons (pe_xf (T.exs.xf (D := .NotTogether) (by decide)) T.n_NotTogether_one hz hf (pv 2)) (pa_cons (pe_xf (T.exs.xf (D := .NotTogether) (by decide)) T.n_NotTogether_two hz hf (pv 2)) (pa_cons (pe_xf (T.exs.xf (D := .NotTogether) (by decide)) T.n_NotTogether_three hz hf (pv 2)) pa_nil))))))))
  (HdlOk.plain ⟨rfl, by decide, .inl T.g_BookError⟩ (fun a_ oe cls_ d_ pn hz hf => (pss_one (ps_set (i := 1) sc_l_told.nd (by rfl) (Or.inl rfl) (pe_lst (pa_cons pe_str pa_nil)))))
  HdlOk.nil)))))
  (pss_cons (ps_for (passes_of rfl) (by rfl) (pi_range2 (by rfl) T.b_range (pa_cons pe_int (pa_cons (pe_callB gc_len (by rfl) T.b_len (by decide +kernel) (pa_cons (pv 1) pa_nil)) pa_nil))) (pg_name (i := 3) sc_l_told.nd (by rfl) (Or.inl rfl))
  (pss_one (ps_if (PW.pt (pw_or (pt_not (pt_val (pe_callB call_isi (by rfl) T.b_isinstance (by decide +kernel) (pa_cons (pe_ix (go_ix (hu1 hr)) (pv 1) (pv 3) (fun _ _ => rfl)) (pa_cons (pe_bltn (v := .ty "int") (by rfl) T.b_int (by decide +kernel) rfl) pa_nil))))) (pw_or1 (pt_val (pe_callB call_isi (by rfl) T.b_isinstance (by decide +kernel) (pa_cons (pe_ix (go_ix (hu1 hr)) (pv 1) (pv 3) (fun _ _ => rfl)) (pa_cons (pe_bltn (v := .ty "bool") (by rfl) T.b_bool (by decide +kernel) rfl) pa_nil)))))))
  (pss_one (ps_ret (pe_lst (pa_cons pe_str pa_nil))))
  pss_nil)))
  (pss_one (ps_ret (pv 1))))))
theorem ok_l_called (T : Tx K mg cls A) : FnOk P w K mg base (L2.CX P w) 1 A.a_l_called A.fd_l_called ["_law_met"] (spOf ⟨K, cls⟩ T_l_called) := by
  refine T.F_l_called.okX sc_l_called (spOf_len (n := 1) (ar_l_called)) (fun cdv A outer s H vs Q E hr h => ⟨t_l_called ⟨K, cls⟩ (fun c d _ H => E c d H), ?_, spOf_run (N := ["_law_met", "_law_some", "_law_names_here", "_law_found", "_law_name", "_law_truth"]) (t := fun E => t_l_called ⟨K, cls⟩ (fun c d _ H => E c d H)) (fun ss ok er hT => by rw [ar_l_called ss ok er hT]; decide) (fun E ss ok er hT => w_l_called T.exs (by decide) _ ss ok er hT) vs H Q E h⟩)
  unfold t_l_called
  exact (pss_cons (ps_if (pt_cmpR go_is (pv 0) pe_non (nomark _))
  (pss_one (ps_ret (pe_lst pa_nil)))
  pss_nil)
  (pss_cons (ps_set (i := 1) sc_l_called.nd (by rfl) (Or.inl rfl) (pe_lst (pa_cons (pe_callB call_isX (by rfl) T.b_isinstance (by decide +kernel) (pa_cons (pv 0) (pa_cons (pe_glob (by rfl) T.g_BadSize rfl) pa_nil))) (pa_cons (pe_callB call_isX (by rfl) T.b_isinstance (by decide +kernel) (pa_cons (pv 0) (pa_cons (pe_glob (by rfl) T.g_Stranger rfl) pa_nil))) (pa_cons (pe_callB call_isX (by rfl) T.b_isinstance (by decide +kernel) (pa_cons (pv 0) (pa_cons (pe_glob (by rfl) T.g_NoUnit rfl) pa_nil))) (pa_cons (pe_callB call_isX (by rfl) T.b_isinstance (by decide +kernel) (pa_cons (pv 0) (pa_cons (pe_glob (by rfl) T.g_NoBack rfl) pa_nil))) pa_nil))))))
  (pss_cons (ps_set (i := 1) sc_l_called.nd (by rfl) (Or.inl rfl) (pe_op go_add (pv 1) (pe_lst (pa_cons (pe_callB call_isX (by rfl) T.b_isinstance (by decide +kernel) (pa_cons (pv 0) (pa_cons (pe_glob (by rfl) T.g_NotTogether rfl) pa_nil))) (pa_cons (pe_callB call_isX (by rfl) T.b_isinstance (by decide +kernel) (pa_cons (pv 0) (pa_cons (pe_glob (by rfl) T.g_NoPart rfl) pa_nil))) (pa_cons (pe_callB call_isX (by rfl) T.b_isinstance (by decide +kernel) (pa_cons (pv 0) (pa_cons (pe_glob (by rfl) T.g_NotSteady rfl) pa_nil))) pa_nil))))))
  (pss_cons (ps_set (i := 1) sc_l_called.nd (by rfl) (Or.inl rfl) (pe_op go_add (pv 1) (pe_lst (pa_cons (pe_callB call_isX (by rfl) T.b_isinstance (by decide +kernel) (pa_cons (pv 0) (pa_cons (pe_glob (by rfl) T.g_BadWheel rfl) pa_nil))) (pa_cons (pe_callB call_isX (by rfl) T.b_isinstance (by decide +kernel) (pa_cons (pv 0) (pa_cons (pe_glob (by rfl) T.g_NoMove rfl) pa_nil))) (pa_cons (pe_callB call_isX (by rfl) T.b_isinstance (by decide +kernel) (pa_cons (pv 0) (pa_cons (pe_glob (by rfl) T.g_BadMarks rfl) pa_nil))) pa_nil))))))
  (pss_cons (ps_set (i := 1) sc_l_called.nd (by rfl) (Or.inl rfl) (pe_op go_add (pv 1) (pe_lst (pa_cons (pe_callB call_isX (by rfl) T.b_isinstance (by decide +kernel) (pa_cons (pv 0) (pa_cons (pe_glob (by rfl) T.g_NoWay rfl) pa_nil))) (pa_cons (pe_callB call_isX (by rfl) T.b_isinstance (by decide +kernel) (pa_cons (pv 0) (pa_cons (pe_glob (by rfl) T.g_NotKept rfl) pa_nil))) (pa_cons (pe_callB call_isX (by rfl) T.b_isinstance (by decide +kernel) (pa_cons (pv 0) (pa_cons (pe_glob (by rfl) T.g_OtherGroup rfl) pa_nil))) pa_nil))))))
  (pss_cons (ps_set (i := 1) sc_l_called.nd (by rfl) (Or.inl rfl) (pe_op go_add (pv 1) (pe_lst (pa_cons (pe_callB call_isX (by rfl) T.b_isinstance (by decide +kernel) (pa_cons (pv 0) (pa_cons (pe_glob (by rfl) T.g_OtherWheel rfl) pa_nil))) (pa_cons (pe_callB call_isX (by rfl) T.b_isinstance (by decide +kernel) (pa_cons (pv 0) (pa_cons (pe_glob (by rfl) T.g_TooGreat rfl) pa_nil))) pa_nil)))))
  (pss_cons (ps_set (i := 2) sc_l_called.nd (by rfl) (Or.inl rfl) (pe_lst (pa_cons pe_str (pa_cons pe_str (pa_cons pe_str (pa_cons pe_str (pa_cons pe_str (pa_cons pe_str (pa_cons pe_str (pa_cons pe_str (pa_cons pe_str (pa_cons pe_str pa_nil))))))))))))
  (pss_cons (ps_set (i := 2) sc_l_called.nd (by rfl) (Or.inl rfl) (pe_op go_add (pv 2) (pe_lst (pa_cons pe_str (pa_cons pe_str (pa_cons pe_str (pa_cons pe_str (pa_cons pe_str pa_nil))))))))
  (pss_cons (ps_setLc (i := 3) (by rfl) sc_l_called.nd (by rfl) (by rfl) (sw_true rfl rfl rfl (by decide +kernel)) (pi_zip (by rfl) T.b_zip (pa_cons (pv 2) (pa_cons (pv 1) pa_nil))) (blkOk_by (own := [("_law_name", 4), ("_law_truth", 5)]) (by (show blkC ["_law_met", "_law_some", "_law_names_here", "_law_found", "_law_name", "_law_truth"] (defScope s_l_called) _ _ = true); decide +kernel)) (fun _ _ _ _ _ => (pg_tup (by rfl) (pgs_cons (pg_name (i := 4) sc_l_called.nd (by rfl) (Or.inl rfl)) (pgs_cons (pg_name (i := 5) sc_l_called.nd (by rfl) (Or.inl rfl)) pgs_nil)))) (fun _ _ _ _ _ => (pts_one (pt_val (pv 5)))) (fun _ _ _ _ _ => (pv 4)))
  (pss_cons (ps_if (pt_val (pe_callB call_isX (by rfl) T.b_isinstance (by decide +kernel) (pa_cons (pv 0) (pa_cons (pe_bltn (v := .ty "ValueError") (by rfl) T.b_ValueError (by decide +kernel) rfl) pa_nil))))
  (pss_one (ps_ret (pv 3)))
  pss_nil)
  (pss_one (ps_ret (pe_lst (pa_cons pe_str pa_nil))))))))))))))
theorem ok_l_flags (T : Tx K mg cls A) (G_group_of : FnOk P w K mg base (L2.CX P w) 4 A.a_group_of A.fd_group_of ["table"] (spOf ⟨K, cls⟩ T_group_of)) (G_l_called : FnOk P w K mg base (L2.CX P w) 1 A.a_l_called A.fd_l_called ["_law_met"] (spOf ⟨K, cls⟩ T_l_called)) : FnOk P w K mg base (L2.CX P w) 5 A.a_l_flags A.fd_l_flags ["_law_table"] (spOf ⟨K, cls⟩ T_l_flags) := by
  refine T.F_l_flags.okX sc_l_flags (spOf_len (n := 1) (ar_l_flags)) (fun cdv A outer s H vs Q E hr h => ⟨t_l_flags ⟨K, cls⟩ (fun c d _ H => E c d H), ?_, spOf_run (N := ["_law_table", "_law_met", "_law_e"]) (t := fun E => t_l_flags ⟨K, cls⟩ (fun c d _ H => E c d H)) (fun ss ok er hT => by rw [ar_l_flags ss ok er hT]; decide) (fun E ss ok er hT => w_l_flags T.exs (by decide) (by decide) (by decide) (by decide) _ ss ok er hT) vs H Q E h⟩)
  unfold t_l_flags
  exact (pss_cons (ps_set (i := 1) sc_l_flags.nd (by rfl) (Or.inl rfl) pe_non)
  (pss_cons (ps_try rfl rfl rfl sc_l_flags.nd (takes_of rfl rfl rfl rfl) (fun _ pn xe tkB ppB =>
  (pss_one (ps_expr (pe_callSD G_group_of (hr.mono (by decide)) (by rfl) T.g_group_of T.k_group_of T.b_group_of .nil (fun σ => passAt tkB σ) (pa_cons (pv 0) pa_nil)))))
  (HdlOk.named (i := 2) (by rfl) (by rfl) ⟨rfl, by decide, .inl T.g_BookError⟩ (fun a_ oe cls_ d_ pn hz hf => (pss_one (ps_set (i := 1) sc_l_flags.nd (by rfl) (Or.inl rfl) (pv 2))))
  HdlOk.nil))
  (pss_one (ps_ret (pe_callSD G_l_called (hr.mono (by decide)) (by rfl) T.g_l_called T.k_l_called T.b_l_called .nil (fun σ => passAt (takes_of rfl rfl rfl rfl) σ) (pa_cons (pv 1) pa_nil))))))
theorem ok_l_good (T : Tx K mg cls A) (G_group_of : FnOk P w K mg base (L2.CX P w) 4 A.a_group_of A.fd_group_of ["table"] (spOf ⟨K, cls⟩ T_group_of)) (G_l_unit_of : FnOk P w K mg base (L2.CX P w) 1 A.a_l_unit_of A.fd_l_unit_of ["_law_table"] (spOf ⟨K, cls⟩ T_l_unit_of)) (G_l_backs : FnOk P w K mg base (L2.CX P w) 1 A.a_l_backs A.fd_l_backs ["_law_table", "_law_unit_here"] (spOf ⟨K, cls⟩ T_l_backs)) : FnOk P w K mg base (L2.CX P w) 5 A.a_l_good A.fd_l_good ["_law_table"] (spOf ⟨K, cls⟩ T_l_good) := by
  refine T.F_l_good.okX sc_l_good (spOf_len (n := 1) (ar_l_good)) (fun cdv A outer s H vs Q E hr h => ⟨t_l_good ⟨K, cls⟩ (fun c d _ H => E c d H), ?_, spOf_run (N := ["_law_table", "_law_made_here", "_law_unit_here", "_law_row"]) (t := fun E => t_l_good ⟨K, cls⟩ (fun c d _ H => E c d H)) (fun ss ok er hT => by rw [ar_l_good ss ok er hT]; decide) (fun E ss ok er hT => w_l_good ⟨K, cls⟩ _ ss ok er hT) vs H Q E h⟩)
  unfold t_l_good
  exact (pss_cons (ps_set (i := 1) sc_l_good.nd (by rfl) (Or.inl rfl) (pe_callSD G_group_of (hr.mono (by decide)) (by rfl) T.g_group_of T.k_group_of T.b_group_of .nil (fun σ => passAt (takes_of rfl rfl rfl rfl) σ) (pa_cons (pe_lc (by rfl) sc_l_good.nd (pi_list (pv 0)) (blkOk_by (own := [("_law_row", 3)]) (by (show blkC ["_law_table", "_law_made_here", "_law_unit_here", "_law_row"] (defScope s_l_good) _ _ = true); decide +kernel)) (fun _ _ _ _ _ => (pg_name (i := 3) sc_l_good.nd (by rfl) (Or.inl rfl))) (fun _ _ _ _ _ => pts_nil) (fun _ _ _ _ _ => (pe_callTy gc_list (by rfl) T.b_list (by decide +kernel) (pa_cons (pv 3) pa_nil)))) pa_nil)))
  (pss_cons (ps_set (i := 2) sc_l_good.nd (by rfl) (Or.inl rfl) (pe_callSD G_l_unit_of (hr.mono (by decide)) (by rfl) T.g_l_unit_of T.k_l_unit_of T.b_l_unit_of .nil (fun σ => passAt (takes_of rfl rfl rfl rfl) σ) (pa_cons (pv 0) pa_nil)))
  (pss_cons (ps_if (PW.pt (pw_or (pt_not (pt_val (pe_callB call_isi (by rfl) T.b_isinstance (by decide +kernel) (pa_cons (pe_fld (pv 1) (by rfl)) (pa_cons (pe_bltn (v := .ty "int") (by rfl) T.b_int (by decide +kernel) rfl) pa_nil))))) (pw_or1 (pt_val (pe_callB call_isi (by rfl) T.b_isinstance (by decide +kernel) (pa_cons (pe_fld (pv 1) (by rfl)) (pa_cons (pe_bltn (v := .ty "bool") (by rfl) T.b_bool (by decide +kernel) rfl) pa_nil)))))))
  (pss_one (ps_ret pe_bl))
  pss_nil)
  (pss_cons (ps_if (PW.pt (pw_or (pt_cmpR (go_ne (hu64 hr)) (pe_fld (pv 1) (by rfl)) (pv 2) (nomark _)) (pw_or1 (pt_cmpR (go_ne (hu64 hr)) (pe_fld (pv 1) (by rfl)) (pe_callB gc_len (by rfl) T.b_len (by decide +kernel) (pa_cons (pv 0) pa_nil)) (nomark _)))))
  (pss_one (ps_ret pe_bl))
  pss_nil)
  (pss_one (ps_ret (pe_and (pe_cmpR (go_eq (hu64 hr)) (pe_fld (pv 1) (by rfl)) (pe_callSD G_l_backs (hr.mono (by decide)) (by rfl) T.g_l_backs T.k_l_backs T.b_l_backs .nil (fun σ => passAt (takes_of rfl rfl rfl rfl) σ) (pa_cons (pv 0) (pa_cons (pv 2) pa_nil))) (nomark _)) (pe_one (pe_cmpR (go_eq (hu64 hr)) (pe_fld (pv 1) (by rfl)) (pv 0) (nomark _))))))))))
theorem ok_law (T : Tx K mg cls A) (G_l_group : FnOk P w K mg base (L2.CX P w) 3 A.a_l_group A.fd_l_group ["_law_script", "_law_start"] (spOf ⟨K, cls⟩ T_l_group)) (G_l_made : FnOk P w K mg base (L2.CX P w) 4 A.a_l_made A.fd_l_made ["_law_script"] (spOf ⟨K, cls⟩ T_l_made)) (G_l_due : FnOk P w K mg base (L2.CX P w) 2 A.a_l_due A.fd_l_due ["_law_table"] (spOf ⟨K, cls⟩ T_l_due)) (G_l_told : FnOk P w K mg base (L2.CX P w) 5 A.a_l_told A.fd_l_told ["_law_table"] (spOf ⟨K, cls⟩ T_l_told)) (G_l_flags : FnOk P w K mg base (L2.CX P w) 5 A.a_l_flags A.fd_l_flags ["_law_table"] (spOf ⟨K, cls⟩ T_l_flags)) (G_l_good : FnOk P w K mg base (L2.CX P w) 5 A.a_l_good A.fd_l_good ["_law_table"] (spOf ⟨K, cls⟩ T_l_good)) : FnOk P w K mg base (L2.CX P w) 6 A.a_law A.fd_law ["_law_script"] (spOf ⟨K, cls⟩ T_law) := by
  refine T.F_law.okX sc_law (spOf_len (n := 1) (ar_law)) (fun cdv A outer s H vs Q E hr h => ⟨t_law ⟨K, cls⟩ (fun c d _ H => E c d H), ?_, spOf_run (N := ["_law_script", "_law_table", "_law_due_here", "_law_handed", "_law_row"]) (t := fun E => t_law ⟨K, cls⟩ (fun c d _ H => E c d H)) (fun ss ok er hT => by rw [ar_law ss ok er hT]; decide) (fun E ss ok er hT => w_law ⟨K, cls⟩ _ ss ok er hT) vs H Q E h⟩)
  unfold t_law
  exact (pss_cons (ps_set (i := 1) sc_law.nd (by rfl) (Or.inl rfl) (pe_callSD G_l_made (hr.mono (by decide)) (by rfl) T.g_l_made T.k_l_made T.b_l_made .nil (fun σ => passAt (takes_of rfl rfl rfl rfl) σ) (pa_cons (pv 0) pa_nil)))
  (pss_cons (ps_set (i := 2) sc_law.nd (by rfl) (Or.inl rfl) (pe_callSD G_l_due (hr.mono (by decide)) (by rfl) T.g_l_due T.k_l_due T.b_l_due .nil (fun σ => passAt (takes_of rfl rfl rfl rfl) σ) (pa_cons (pv 1) pa_nil)))
  (pss_cons (ps_setLc (i := 3) (by rfl) sc_law.nd (by rfl) (by rfl) (sw_true rfl rfl rfl (by decide +kernel)) (pi_list (pv 1)) (blkOk_by (own := [("_law_row", 4)]) (by (show blkC ["_law_script", "_law_table", "_law_due_here", "_law_handed", "_law_row"] (defScope s_law) _ _ = true); decide +kernel)) (fun _ _ _ _ _ => (pg_name (i := 4) sc_law.nd (by rfl) (Or.inl rfl))) (fun _ _ _ _ _ => pts_nil) (fun _ _ _ _ _ => (pe_callTy gc_list (by rfl) T.b_list (by decide +kernel) (pa_cons (pv 4) pa_nil))))
  (pss_cons (ps_if (PW.pt (pw_or (pt_cmpR (go_ne (hu64 hr)) (pe_callSD G_l_told (hr.mono (by decide)) (by rfl) T.g_l_told T.k_l_told T.b_l_told .nil (fun σ => passAt (takes_of rfl rfl rfl rfl) σ) (pa_cons (pv 3) pa_nil)) (pv 2) (nomark _)) (pw_or1 (pt_cmpR (go_ne (hu64 hr)) (pv 3) (pv 1) (nomark _)))))
  (pss_one (ps_ret pe_bl))
  pss_nil)
  (pss_cons (ps_if (pt_cmpR (go_eq (hu64 hr)) (pv 2) (pe_lst pa_nil) (nomark _))
  (pss_one (ps_if (pt_not (pt_val (pe_callSD G_l_good (hr.mono (by decide)) (by rfl) T.g_l_good T.k_l_good T.b_l_good .nil (fun σ => passAt (takes_of rfl rfl rfl rfl) σ) (pa_cons (pv 1) pa_nil))))
  (pss_one (ps_ret pe_bl))
  pss_nil))
  (pss_one (ps_if (pt_cmpR (go_ne (hu64 hr)) (pe_callSD G_l_flags (hr.mono (by decide)) (by rfl) T.g_l_flags T.k_l_flags T.b_l_flags .nil (fun σ => passAt (takes_of rfl rfl rfl rfl) σ) (pa_cons (pv 3) pa_nil)) (pe_slice sl_list (pv 2) po_none (po_some pe_int)) (nomark _))
  (pss_one (ps_ret pe_bl))
  pss_nil)))
  (pss_one (ps_ret (pe_and (pe_cmpR (go_eq (hu64 hr)) (pv 3) (pv 1) (nomark _)) (pe_one (pe_callSD G_l_good (hr.mono (by decide)) (by rfl) T.g_l_good T.k_l_good T.b_l_good .nil (fun σ => passAt (takes_of rfl rfl rfl rfl) σ) (pa_cons (pe_callSD G_l_group (hr.mono (by decide)) (by rfl) T.g_l_group T.k_l_group T.b_l_group .nil (fun σ => passAt (takes_of rfl rfl rfl rfl) σ) (pa_cons (pv 0) (pa_cons pe_int pa_nil))) pa_nil)))))))))))
end
set_option maxHeartbeats 0 in
theorem all_mk {l : PySem.W.OpenLaw} {w : World} {K : PySem.W.Frag} {h : Heap} {mg : Str → Option Value} {fa a_Stranger_init a_NoBack_init a_NotTogether_init a_Group_init a_look_at_size a_look_for_strangers a_unit_of a_back_of a_look_at_threes a_group_of a_l_cell a_l_sizes a_l_kind a_l_unit a_l_turned a_l_sum a_l_rows a_l_names a_l_group a_l_raw a_l_with_unit a_l_with_backs a_l_numbers a_l_made a_l_unit_of a_l_backs a_l_apart a_l_due a_l_told a_l_called a_l_flags a_l_good a_law c_BookError c_BadSize c_Stranger c_NoUnit c_NoBack c_NotTogether c_NoPart c_NotSteady c_BadWheel c_NoMove c_BadMarks c_NoWay c_NotKept c_OtherGroup c_OtherWheel c_TooGreat c_Group : Addr} (X : K.In h) (G : h.Ns mainGlobals mg) (hfa : mg "law" = some (.ref fa))
  {od_Stranger_init an_Stranger_init : Option Addr} {sl_Stranger_init : Array (Option Value)} {oc_Stranger_init kV_Stranger_init dc_Stranger_init pm_Stranger_init cd_Stranger_init ct_Stranger_init : Value}
  {od_NoBack_init an_NoBack_init : Option Addr} {sl_NoBack_init : Array (Option Value)} {oc_NoBack_init kV_NoBack_init dc_NoBack_init pm_NoBack_init cd_NoBack_init ct_NoBack_init : Value}
  {od_NotTogether_init an_NotTogether_init : Option Addr} {sl_NotTogether_init : Array (Option Value)} {oc_NotTogether_init kV_NotTogether_init dc_NotTogether_init pm_NotTogether_init cd_NotTogether_init ct_NotTogether_init : Value}
  {od_Group_init an_Group_init : Option Addr} {sl_Group_init : Array (Option Value)} {oc_Group_init kV_Group_init dc_Group_init pm_Group_init cd_Group_init ct_Group_init : Value}
  {od_look_at_size an_look_at_size : Option Addr} {sl_look_at_size : Array (Option Value)} {oc_look_at_size kV_look_at_size dc_look_at_size pm_look_at_size cd_look_at_size ct_look_at_size : Value}
  {od_look_for_strangers an_look_for_strangers : Option Addr} {sl_look_for_strangers : Array (Option Value)} {oc_look_for_strangers kV_look_for_strangers dc_look_for_strangers pm_look_for_strangers cd_look_for_strangers ct_look_for_strangers : Value}
  {od_unit_of an_unit_of : Option Addr} {sl_unit_of : Array (Option Value)} {oc_unit_of kV_unit_of dc_unit_of pm_unit_of cd_unit_of ct_unit_of : Value}
  {od_back_of an_back_of : Option Addr} {sl_back_of : Array (Option Value)} {oc_back_of kV_back_of dc_back_of pm_back_of cd_back_of ct_back_of : Value}
  {od_look_at_threes an_look_at_threes : Option Addr} {sl_look_at_threes : Array (Option Value)} {oc_look_at_threes kV_look_at_threes dc_look_at_threes pm_look_at_threes cd_look_at_threes ct_look_at_threes : Value}
  {od_group_of an_group_of : Option Addr} {sl_group_of : Array (Option Value)} {oc_group_of kV_group_of dc_group_of pm_group_of cd_group_of ct_group_of : Value}
  {od_l_cell an_l_cell : Option Addr} {sl_l_cell : Array (Option Value)} {oc_l_cell kV_l_cell dc_l_cell pm_l_cell cd_l_cell ct_l_cell : Value}
  {od_l_sizes an_l_sizes : Option Addr} {sl_l_sizes : Array (Option Value)} {oc_l_sizes kV_l_sizes dc_l_sizes pm_l_sizes cd_l_sizes ct_l_sizes : Value}
  {od_l_kind an_l_kind : Option Addr} {sl_l_kind : Array (Option Value)} {oc_l_kind kV_l_kind dc_l_kind pm_l_kind cd_l_kind ct_l_kind : Value}
  {od_l_unit an_l_unit : Option Addr} {sl_l_unit : Array (Option Value)} {oc_l_unit kV_l_unit dc_l_unit pm_l_unit cd_l_unit ct_l_unit : Value}
  {od_l_turned an_l_turned : Option Addr} {sl_l_turned : Array (Option Value)} {oc_l_turned kV_l_turned dc_l_turned pm_l_turned cd_l_turned ct_l_turned : Value}
  {od_l_sum an_l_sum : Option Addr} {sl_l_sum : Array (Option Value)} {oc_l_sum kV_l_sum dc_l_sum pm_l_sum cd_l_sum ct_l_sum : Value}
  {od_l_rows an_l_rows : Option Addr} {sl_l_rows : Array (Option Value)} {oc_l_rows kV_l_rows dc_l_rows pm_l_rows cd_l_rows ct_l_rows : Value}
  {od_l_names an_l_names : Option Addr} {sl_l_names : Array (Option Value)} {oc_l_names kV_l_names dc_l_names pm_l_names cd_l_names ct_l_names : Value}
  {od_l_group an_l_group : Option Addr} {sl_l_group : Array (Option Value)} {oc_l_group kV_l_group dc_l_group pm_l_group cd_l_group ct_l_group : Value}
  {od_l_raw an_l_raw : Option Addr} {sl_l_raw : Array (Option Value)} {oc_l_raw kV_l_raw dc_l_raw pm_l_raw cd_l_raw ct_l_raw : Value}
  {od_l_with_unit an_l_with_unit : Option Addr} {sl_l_with_unit : Array (Option Value)} {oc_l_with_unit kV_l_with_unit dc_l_with_unit pm_l_with_unit cd_l_with_unit ct_l_with_unit : Value}
  {od_l_with_backs an_l_with_backs : Option Addr} {sl_l_with_backs : Array (Option Value)} {oc_l_with_backs kV_l_with_backs dc_l_with_backs pm_l_with_backs cd_l_with_backs ct_l_with_backs : Value}
  {od_l_numbers an_l_numbers : Option Addr} {sl_l_numbers : Array (Option Value)} {oc_l_numbers kV_l_numbers dc_l_numbers pm_l_numbers cd_l_numbers ct_l_numbers : Value}
  {od_l_made an_l_made : Option Addr} {sl_l_made : Array (Option Value)} {oc_l_made kV_l_made dc_l_made pm_l_made cd_l_made ct_l_made : Value}
  {od_l_unit_of an_l_unit_of : Option Addr} {sl_l_unit_of : Array (Option Value)} {oc_l_unit_of kV_l_unit_of dc_l_unit_of pm_l_unit_of cd_l_unit_of ct_l_unit_of : Value}
  {od_l_backs an_l_backs : Option Addr} {sl_l_backs : Array (Option Value)} {oc_l_backs kV_l_backs dc_l_backs pm_l_backs cd_l_backs ct_l_backs : Value}
  {od_l_apart an_l_apart : Option Addr} {sl_l_apart : Array (Option Value)} {oc_l_apart kV_l_apart dc_l_apart pm_l_apart cd_l_apart ct_l_apart : Value}
  {od_l_due an_l_due : Option Addr} {sl_l_due : Array (Option Value)} {oc_l_due kV_l_due dc_l_due pm_l_due cd_l_due ct_l_due : Value}
  {od_l_told an_l_told : Option Addr} {sl_l_told : Array (Option Value)} {oc_l_told kV_l_told dc_l_told pm_l_told cd_l_told ct_l_told : Value}
  {od_l_called an_l_called : Option Addr} {sl_l_called : Array (Option Value)} {oc_l_called kV_l_called dc_l_called pm_l_called cd_l_called ct_l_called : Value}
  {od_l_flags an_l_flags : Option Addr} {sl_l_flags : Array (Option Value)} {oc_l_flags kV_l_flags dc_l_flags pm_l_flags cd_l_flags ct_l_flags : Value}
  {od_l_good an_l_good : Option Addr} {sl_l_good : Array (Option Value)} {oc_l_good kV_l_good dc_l_good pm_l_good cd_l_good ct_l_good : Value}
  {od_law an_law : Option Addr} {sl_law : Array (Option Value)} {oc_law kV_law dc_law pm_law cd_law ct_law : Value}
  {tok_MOST : Tok}
  {nm_NoBack q_NoBack : Str} {N_NoBack : Addr} {bs_NoBack bm_NoBack sub_NoBack : List Value} {sn_NoBack : List Str} {ab_NoBack : Bool} {col_NoBack : Option Bool} {dd_NoBack : Option Addr} {m0_NoBack m1_NoBack m2_NoBack m3_NoBack m5_NoBack : Option Value}
  {nm_NotTogether q_NotTogether : Str} {N_NotTogether : Addr} {bs_NotTogether bm_NotTogether sub_NotTogether : List Value} {sn_NotTogether : List Str} {ab_NotTogether : Bool} {col_NotTogether : Option Bool} {dd_NotTogether : Option Addr} {m0_NotTogether m1_NotTogether m2_NotTogether m3_NotTogether m5_NotTogether : Option Value}
  {nm_Stranger q_Stranger : Str} {N_Stranger : Addr} {bs_Stranger bm_Stranger sub_Stranger : List Value} {sn_Stranger : List Str} {ab_Stranger : Bool} {col_Stranger : Option Bool} {dd_Stranger : Option Addr} {m0_Stranger m1_Stranger m2_Stranger m3_Stranger m5_Stranger : Option Value}
  {cdX_BookError : ClassData}
  {cdX_BadSize : ClassData}
  {cdX_Stranger : ClassData}
  {cdX_NoUnit : ClassData}
  {cdX_NoBack : ClassData}
  {cdX_NotTogether : ClassData}
  {cdX_NoPart : ClassData}
  {cdX_NotSteady : ClassData}
  {cdX_BadWheel : ClassData}
  {cdX_NoMove : ClassData}
  {cdX_BadMarks : ClassData}
  {cdX_NoWay : ClassData}
  {cdX_NotKept : ClassData}
  {cdX_OtherGroup : ClassData}
  {cdX_OtherWheel : ClassData}
  {cdX_TooGreat : ClassData}
  (ac_BookError : PySem.W.nsIn K mainGlobals "BookError" = some (some (.ref c_BookError)))
  (ac_BadSize : PySem.W.nsIn K mainGlobals "BadSize" = some (some (.ref c_BadSize)))
  (ac_Stranger : PySem.W.nsIn K mainGlobals "Stranger" = some (some (.ref c_Stranger)))
  (ac_NoUnit : PySem.W.nsIn K mainGlobals "NoUnit" = some (some (.ref c_NoUnit)))
  (ac_NoBack : PySem.W.nsIn K mainGlobals "NoBack" = some (some (.ref c_NoBack)))
  (ac_NotTogether : PySem.W.nsIn K mainGlobals "NotTogether" = some (some (.ref c_NotTogether)))
  (ac_NoPart : PySem.W.nsIn K mainGlobals "NoPart" = some (some (.ref c_NoPart)))
  (ac_NotSteady : PySem.W.nsIn K mainGlobals "NotSteady" = some (some (.ref c_NotSteady)))
  (ac_BadWheel : PySem.W.nsIn K mainGlobals "BadWheel" = some (some (.ref c_BadWheel)))
  (ac_NoMove : PySem.W.nsIn K mainGlobals "NoMove" = some (some (.ref c_NoMove)))
  (ac_BadMarks : PySem.W.nsIn K mainGlobals "BadMarks" = some (some (.ref c_BadMarks)))
  (ac_NoWay : PySem.W.nsIn K mainGlobals "NoWay" = some (some (.ref c_NoWay)))
  (ac_NotKept : PySem.W.nsIn K mainGlobals "NotKept" = some (some (.ref c_NotKept)))
  (ac_OtherGroup : PySem.W.nsIn K mainGlobals "OtherGroup" = some (some (.ref c_OtherGroup)))
  (ac_OtherWheel : PySem.W.nsIn K mainGlobals "OtherWheel" = some (some (.ref c_OtherWheel)))
  (ac_TooGreat : PySem.W.nsIn K mainGlobals "TooGreat" = some (some (.ref c_TooGreat)))
  (ac_Group : PySem.W.nsIn K mainGlobals "Group" = some (some (.ref c_Group)))
  (a1_Stranger_init : PySem.W.findIn K (.ref c_Stranger) "__init__" = some (some (.ref a_Stranger_init)))
  (i1_Stranger_init : PySem.W.isFn K (.ref a_Stranger_init) = true)
  (l1_Stranger_init : K.lookup a_Stranger_init = some ⟨oc_Stranger_init, od_Stranger_init, .func (PySem.W.fnOf "__init__" "Stranger.__init__" (defArgs s_Stranger_init) (defBody s_Stranger_init) (defScope s_Stranger_init) .none kV_Stranger_init dc_Stranger_init pm_Stranger_init an_Stranger_init cd_Stranger_init ct_Stranger_init), sl_Stranger_init⟩)
  (c1_Stranger_init : PySem.W.codeIn K cd_Stranger_init "Stranger.__init__" = true)
  (k1_Stranger_init : PySem.W.keepIn K (.ref a_Stranger_init) = true)
  (a1_NoBack_init : PySem.W.findIn K (.ref c_NoBack) "__init__" = some (some (.ref a_NoBack_init)))
  (i1_NoBack_init : PySem.W.isFn K (.ref a_NoBack_init) = true)
  (l1_NoBack_init : K.lookup a_NoBack_init = some ⟨oc_NoBack_init, od_NoBack_init, .func (PySem.W.fnOf "__init__" "NoBack.__init__" (defArgs s_NoBack_init) (defBody s_NoBack_init) (defScope s_NoBack_init) .none kV_NoBack_init dc_NoBack_init pm_NoBack_init an_NoBack_init cd_NoBack_init ct_NoBack_init), sl_NoBack_init⟩)
  (c1_NoBack_init : PySem.W.codeIn K cd_NoBack_init "NoBack.__init__" = true)
  (k1_NoBack_init : PySem.W.keepIn K (.ref a_NoBack_init) = true)
  (a1_NotTogether_init : PySem.W.findIn K (.ref c_NotTogether) "__init__" = some (some (.ref a_NotTogether_init)))
  (i1_NotTogether_init : PySem.W.isFn K (.ref a_NotTogether_init) = true)
  (l1_NotTogether_init : K.lookup a_NotTogether_init = some ⟨oc_NotTogether_init, od_NotTogether_init, .func (PySem.W.fnOf "__init__" "NotTogether.__init__" (defArgs s_NotTogether_init) (defBody s_NotTogether_init) (defScope s_NotTogether_init) .none kV_NotTogether_init dc_NotTogether_init pm_NotTogether_init an_NotTogether_init cd_NotTogether_init ct_NotTogether_init), sl_NotTogether_init⟩)
  (c1_NotTogether_init : PySem.W.codeIn K cd_NotTogether_init "NotTogether.__init__" = true)
  (k1_NotTogether_init : PySem.W.keepIn K (.ref a_NotTogether_init) = true)
  (a1_Group_init : PySem.W.findIn K (.ref c_Group) "__init__" = some (some (.ref a_Group_init)))
  (i1_Group_init : PySem.W.isFn K (.ref a_Group_init) = true)
  (l1_Group_init : K.lookup a_Group_init = some ⟨oc_Group_init, od_Group_init, .func (PySem.W.fnOf "__init__" "Group.__init__" (defArgs s_Group_init) (defBody s_Group_init) (defScope s_Group_init) .none kV_Group_init dc_Group_init pm_Group_init an_Group_init cd_Group_init ct_Group_init), sl_Group_init⟩)
  (c1_Group_init : PySem.W.codeIn K cd_Group_init "Group.__init__" = true)
  (k1_Group_init : PySem.W.keepIn K (.ref a_Group_init) = true)
  (a1_look_at_size : PySem.W.nsIn K mainGlobals "look_at_size" = some (some (.ref a_look_at_size)))
  (l1_look_at_size : K.lookup a_look_at_size = some ⟨oc_look_at_size, od_look_at_size, .func (PySem.W.fnOf "look_at_size" "look_at_size" (defArgs s_look_at_size) (defBody s_look_at_size) (defScope s_look_at_size) .none kV_look_at_size dc_look_at_size pm_look_at_size an_look_at_size cd_look_at_size ct_look_at_size), sl_look_at_size⟩)
  (c1_look_at_size : PySem.W.codeIn K cd_look_at_size "look_at_size" = true)
  (k1_look_at_size : PySem.W.keepIn K (.ref a_look_at_size) = true)
  (a1_look_for_strangers : PySem.W.nsIn K mainGlobals "look_for_strangers" = some (some (.ref a_look_for_strangers)))
  (l1_look_for_strangers : K.lookup a_look_for_strangers = some ⟨oc_look_for_strangers, od_look_for_strangers, .func (PySem.W.fnOf "look_for_strangers" "look_for_strangers" (defArgs s_look_for_strangers) (defBody s_look_for_strangers) (defScope s_look_for_strangers) .none kV_look_for_strangers dc_look_for_strangers pm_look_for_strangers an_look_for_strangers cd_look_for_strangers ct_look_for_strangers), sl_look_for_strangers⟩)
  (c1_look_for_strangers : PySem.W.codeIn K cd_look_for_strangers "look_for_strangers" = true)
  (k1_look_for_strangers : PySem.W.keepIn K (.ref a_look_for_strangers) = true)
  (a1_unit_of : PySem.W.nsIn K mainGlobals "unit_of" = some (some (.ref a_unit_of)))
  (l1_unit_of : K.lookup a_unit_of = some ⟨oc_unit_of, od_unit_of, .func (PySem.W.fnOf "unit_of" "unit_of" (defArgs s_unit_of) (defBody s_unit_of) (defScope s_unit_of) .none kV_unit_of dc_unit_of pm_unit_of an_unit_of cd_unit_of ct_unit_of), sl_unit_of⟩)
  (c1_unit_of : PySem.W.codeIn K cd_unit_of "unit_of" = true)
  (k1_unit_of : PySem.W.keepIn K (.ref a_unit_of) = true)
  (a1_back_of : PySem.W.nsIn K mainGlobals "back_of" = some (some (.ref a_back_of)))
  (l1_back_of : K.lookup a_back_of = some ⟨oc_back_of, od_back_of, .func (PySem.W.fnOf "back_of" "back_of" (defArgs s_back_of) (defBody s_back_of) (defScope s_back_of) .none kV_back_of dc_back_of pm_back_of an_back_of cd_back_of ct_back_of), sl_back_of⟩)
  (c1_back_of : PySem.W.codeIn K cd_back_of "back_of" = true)
  (k1_back_of : PySem.W.keepIn K (.ref a_back_of) = true)
  (a1_look_at_threes : PySem.W.nsIn K mainGlobals "look_at_threes" = some (some (.ref a_look_at_threes)))
  (l1_look_at_threes : K.lookup a_look_at_threes = some ⟨oc_look_at_threes, od_look_at_threes, .func (PySem.W.fnOf "look_at_threes" "look_at_threes" (defArgs s_look_at_threes) (defBody s_look_at_threes) (defScope s_look_at_threes) .none kV_look_at_threes dc_look_at_threes pm_look_at_threes an_look_at_threes cd_look_at_threes ct_look_at_threes), sl_look_at_threes⟩)
  (c1_look_at_threes : PySem.W.codeIn K cd_look_at_threes "look_at_threes" = true)
  (k1_look_at_threes : PySem.W.keepIn K (.ref a_look_at_threes) = true)
  (a1_group_of : PySem.W.nsIn K mainGlobals "group_of" = some (some (.ref a_group_of)))
  (l1_group_of : K.lookup a_group_of = some ⟨oc_group_of, od_group_of, .func (PySem.W.fnOf "group_of" "group_of" (defArgs s_group_of) (defBody s_group_of) (defScope s_group_of) .none kV_group_of dc_group_of pm_group_of an_group_of cd_group_of ct_group_of), sl_group_of⟩)
  (c1_group_of : PySem.W.codeIn K cd_group_of "group_of" = true)
  (k1_group_of : PySem.W.keepIn K (.ref a_group_of) = true)
  (a1_l_cell : PySem.W.nsIn K mainGlobals "_law_cell" = some (some (.ref a_l_cell)))
  (l1_l_cell : K.lookup a_l_cell = some ⟨oc_l_cell, od_l_cell, .func (PySem.W.fnOf "_law_cell" "_law_cell" (defArgs s_l_cell) (defBody s_l_cell) (defScope s_l_cell) .none kV_l_cell dc_l_cell pm_l_cell an_l_cell cd_l_cell ct_l_cell), sl_l_cell⟩)
  (c1_l_cell : PySem.W.codeIn K cd_l_cell "_law_cell" = true)
  (k1_l_cell : PySem.W.keepIn K (.ref a_l_cell) = true)
  (a1_l_sizes : PySem.W.nsIn K mainGlobals "_law_sizes" = some (some (.ref a_l_sizes)))
  (l1_l_sizes : K.lookup a_l_sizes = some ⟨oc_l_sizes, od_l_sizes, .func (PySem.W.fnOf "_law_sizes" "_law_sizes" (defArgs s_l_sizes) (defBody s_l_sizes) (defScope s_l_sizes) .none kV_l_sizes dc_l_sizes pm_l_sizes an_l_sizes cd_l_sizes ct_l_sizes), sl_l_sizes⟩)
  (c1_l_sizes : PySem.W.codeIn K cd_l_sizes "_law_sizes" = true)
  (k1_l_sizes : PySem.W.keepIn K (.ref a_l_sizes) = true)
  (a1_l_kind : PySem.W.nsIn K mainGlobals "_law_kind" = some (some (.ref a_l_kind)))
  (l1_l_kind : K.lookup a_l_kind = some ⟨oc_l_kind, od_l_kind, .func (PySem.W.fnOf "_law_kind" "_law_kind" (defArgs s_l_kind) (defBody s_l_kind) (defScope s_l_kind) .none kV_l_kind dc_l_kind pm_l_kind an_l_kind cd_l_kind ct_l_kind), sl_l_kind⟩)
  (c1_l_kind : PySem.W.codeIn K cd_l_kind "_law_kind" = true)
  (k1_l_kind : PySem.W.keepIn K (.ref a_l_kind) = true)
  (a1_l_unit : PySem.W.nsIn K mainGlobals "_law_unit" = some (some (.ref a_l_unit)))
  (l1_l_unit : K.lookup a_l_unit = some ⟨oc_l_unit, od_l_unit, .func (PySem.W.fnOf "_law_unit" "_law_unit" (defArgs s_l_unit) (defBody s_l_unit) (defScope s_l_unit) .none kV_l_unit dc_l_unit pm_l_unit an_l_unit cd_l_unit ct_l_unit), sl_l_unit⟩)
  (c1_l_unit : PySem.W.codeIn K cd_l_unit "_law_unit" = true)
  (k1_l_unit : PySem.W.keepIn K (.ref a_l_unit) = true)
  (a1_l_turned : PySem.W.nsIn K mainGlobals "_law_turned" = some (some (.ref a_l_turned)))
  (l1_l_turned : K.lookup a_l_turned = some ⟨oc_l_turned, od_l_turned, .func (PySem.W.fnOf "_law_turned" "_law_turned" (defArgs s_l_turned) (defBody s_l_turned) (defScope s_l_turned) .none kV_l_turned dc_l_turned pm_l_turned an_l_turned cd_l_turned ct_l_turned), sl_l_turned⟩)
  (c1_l_turned : PySem.W.codeIn K cd_l_turned "_law_turned" = true)
  (k1_l_turned : PySem.W.keepIn K (.ref a_l_turned) = true)
  (a1_l_sum : PySem.W.nsIn K mainGlobals "_law_sum" = some (some (.ref a_l_sum)))
  (l1_l_sum : K.lookup a_l_sum = some ⟨oc_l_sum, od_l_sum, .func (PySem.W.fnOf "_law_sum" "_law_sum" (defArgs s_l_sum) (defBody s_l_sum) (defScope s_l_sum) .none kV_l_sum dc_l_sum pm_l_sum an_l_sum cd_l_sum ct_l_sum), sl_l_sum⟩)
  (c1_l_sum : PySem.W.codeIn K cd_l_sum "_law_sum" = true)
  (k1_l_sum : PySem.W.keepIn K (.ref a_l_sum) = true)
  (a1_l_rows : PySem.W.nsIn K mainGlobals "_law_rows" = some (some (.ref a_l_rows)))
  (l1_l_rows : K.lookup a_l_rows = some ⟨oc_l_rows, od_l_rows, .func (PySem.W.fnOf "_law_rows" "_law_rows" (defArgs s_l_rows) (defBody s_l_rows) (defScope s_l_rows) .none kV_l_rows dc_l_rows pm_l_rows an_l_rows cd_l_rows ct_l_rows), sl_l_rows⟩)
  (c1_l_rows : PySem.W.codeIn K cd_l_rows "_law_rows" = true)
  (k1_l_rows : PySem.W.keepIn K (.ref a_l_rows) = true)
  (a1_l_names : PySem.W.nsIn K mainGlobals "_law_names" = some (some (.ref a_l_names)))
  (l1_l_names : K.lookup a_l_names = some ⟨oc_l_names, od_l_names, .func (PySem.W.fnOf "_law_names" "_law_names" (defArgs s_l_names) (defBody s_l_names) (defScope s_l_names) .none kV_l_names dc_l_names pm_l_names an_l_names cd_l_names ct_l_names), sl_l_names⟩)
  (c1_l_names : PySem.W.codeIn K cd_l_names "_law_names" = true)
  (k1_l_names : PySem.W.keepIn K (.ref a_l_names) = true)
  (a1_l_group : PySem.W.nsIn K mainGlobals "_law_group" = some (some (.ref a_l_group)))
  (l1_l_group : K.lookup a_l_group = some ⟨oc_l_group, od_l_group, .func (PySem.W.fnOf "_law_group" "_law_group" (defArgs s_l_group) (defBody s_l_group) (defScope s_l_group) .none kV_l_group dc_l_group pm_l_group an_l_group cd_l_group ct_l_group), sl_l_group⟩)
  (c1_l_group : PySem.W.codeIn K cd_l_group "_law_group" = true)
  (k1_l_group : PySem.W.keepIn K (.ref a_l_group) = true)
  (a1_l_raw : PySem.W.nsIn K mainGlobals "_law_raw" = some (some (.ref a_l_raw)))
  (l1_l_raw : K.lookup a_l_raw = some ⟨oc_l_raw, od_l_raw, .func (PySem.W.fnOf "_law_raw" "_law_raw" (defArgs s_l_raw) (defBody s_l_raw) (defScope s_l_raw) .none kV_l_raw dc_l_raw pm_l_raw an_l_raw cd_l_raw ct_l_raw), sl_l_raw⟩)
  (c1_l_raw : PySem.W.codeIn K cd_l_raw "_law_raw" = true)
  (k1_l_raw : PySem.W.keepIn K (.ref a_l_raw) = true)
  (a1_l_with_unit : PySem.W.nsIn K mainGlobals "_law_with_unit" = some (some (.ref a_l_with_unit)))
  (l1_l_with_unit : K.lookup a_l_with_unit = some ⟨oc_l_with_unit, od_l_with_unit, .func (PySem.W.fnOf "_law_with_unit" "_law_with_unit" (defArgs s_l_with_unit) (defBody s_l_with_unit) (defScope s_l_with_unit) .none kV_l_with_unit dc_l_with_unit pm_l_with_unit an_l_with_unit cd_l_with_unit ct_l_with_unit), sl_l_with_unit⟩)
  (c1_l_with_unit : PySem.W.codeIn K cd_l_with_unit "_law_with_unit" = true)
  (k1_l_with_unit : PySem.W.keepIn K (.ref a_l_with_unit) = true)
  (a1_l_with_backs : PySem.W.nsIn K mainGlobals "_law_with_backs" = some (some (.ref a_l_with_backs)))
  (l1_l_with_backs : K.lookup a_l_with_backs = some ⟨oc_l_with_backs, od_l_with_backs, .func (PySem.W.fnOf "_law_with_backs" "_law_with_backs" (defArgs s_l_with_backs) (defBody s_l_with_backs) (defScope s_l_with_backs) .none kV_l_with_backs dc_l_with_backs pm_l_with_backs an_l_with_backs cd_l_with_backs ct_l_with_backs), sl_l_with_backs⟩)
  (c1_l_with_backs : PySem.W.codeIn K cd_l_with_backs "_law_with_backs" = true)
  (k1_l_with_backs : PySem.W.keepIn K (.ref a_l_with_backs) = true)
  (a1_l_numbers : PySem.W.nsIn K mainGlobals "_law_numbers" = some (some (.ref a_l_numbers)))
  (l1_l_numbers : K.lookup a_l_numbers = some ⟨oc_l_numbers, od_l_numbers, .func (PySem.W.fnOf "_law_numbers" "_law_numbers" (defArgs s_l_numbers) (defBody s_l_numbers) (defScope s_l_numbers) .none kV_l_numbers dc_l_numbers pm_l_numbers an_l_numbers cd_l_numbers ct_l_numbers), sl_l_numbers⟩)
  (c1_l_numbers : PySem.W.codeIn K cd_l_numbers "_law_numbers" = true)
  (k1_l_numbers : PySem.W.keepIn K (.ref a_l_numbers) = true)
  (a1_l_made : PySem.W.nsIn K mainGlobals "_law_made" = some (some (.ref a_l_made)))
  (l1_l_made : K.lookup a_l_made = some ⟨oc_l_made, od_l_made, .func (PySem.W.fnOf "_law_made" "_law_made" (defArgs s_l_made) (defBody s_l_made) (defScope s_l_made) .none kV_l_made dc_l_made pm_l_made an_l_made cd_l_made ct_l_made), sl_l_made⟩)
  (c1_l_made : PySem.W.codeIn K cd_l_made "_law_made" = true)
  (k1_l_made : PySem.W.keepIn K (.ref a_l_made) = true)
  (a1_l_unit_of : PySem.W.nsIn K mainGlobals "_law_unit_of" = some (some (.ref a_l_unit_of)))
  (l1_l_unit_of : K.lookup a_l_unit_of = some ⟨oc_l_unit_of, od_l_unit_of, .func (PySem.W.fnOf "_law_unit_of" "_law_unit_of" (defArgs s_l_unit_of) (defBody s_l_unit_of) (defScope s_l_unit_of) .none kV_l_unit_of dc_l_unit_of pm_l_unit_of an_l_unit_of cd_l_unit_of ct_l_unit_of), sl_l_unit_of⟩)
  (c1_l_unit_of : PySem.W.codeIn K cd_l_unit_of "_law_unit_of" = true)
  (k1_l_unit_of : PySem.W.keepIn K (.ref a_l_unit_of) = true)
  (a1_l_backs : PySem.W.nsIn K mainGlobals "_law_backs" = some (some (.ref a_l_backs)))
  (l1_l_backs : K.lookup a_l_backs = some ⟨oc_l_backs, od_l_backs, .func (PySem.W.fnOf "_law_backs" "_law_backs" (defArgs s_l_backs) (defBody s_l_backs) (defScope s_l_backs) .none kV_l_backs dc_l_backs pm_l_backs an_l_backs cd_l_backs ct_l_backs), sl_l_backs⟩)
  (c1_l_backs : PySem.W.codeIn K cd_l_backs "_law_backs" = true)
  (k1_l_backs : PySem.W.keepIn K (.ref a_l_backs) = true)
  (a1_l_apart : PySem.W.nsIn K mainGlobals "_law_apart" = some (some (.ref a_l_apart)))
  (l1_l_apart : K.lookup a_l_apart = some ⟨oc_l_apart, od_l_apart, .func (PySem.W.fnOf "_law_apart" "_law_apart" (defArgs s_l_apart) (defBody s_l_apart) (defScope s_l_apart) .none kV_l_apart dc_l_apart pm_l_apart an_l_apart cd_l_apart ct_l_apart), sl_l_apart⟩)
  (c1_l_apart : PySem.W.codeIn K cd_l_apart "_law_apart" = true)
  (k1_l_apart : PySem.W.keepIn K (.ref a_l_apart) = true)
  (a1_l_due : PySem.W.nsIn K mainGlobals "_law_due" = some (some (.ref a_l_due)))
  (l1_l_due : K.lookup a_l_due = some ⟨oc_l_due, od_l_due, .func (PySem.W.fnOf "_law_due" "_law_due" (defArgs s_l_due) (defBody s_l_due) (defScope s_l_due) .none kV_l_due dc_l_due pm_l_due an_l_due cd_l_due ct_l_due), sl_l_due⟩)
  (c1_l_due : PySem.W.codeIn K cd_l_due "_law_due" = true)
  (k1_l_due : PySem.W.keepIn K (.ref a_l_due) = true)
  (a1_l_told : PySem.W.nsIn K mainGlobals "_law_told" = some (some (.ref a_l_told)))
  (l1_l_told : K.lookup a_l_told = some ⟨oc_l_told, od_l_told, .func (PySem.W.fnOf "_law_told" "_law_told" (defArgs s_l_told) (defBody s_l_told) (defScope s_l_told) .none kV_l_told dc_l_told pm_l_told an_l_told cd_l_told ct_l_told), sl_l_told⟩)
  (c1_l_told : PySem.W.codeIn K cd_l_told "_law_told" = true)
  (k1_l_told : PySem.W.keepIn K (.ref a_l_told) = true)
  (a1_l_called : PySem.W.nsIn K mainGlobals "_law_called" = some (some (.ref a_l_called)))
  (l1_l_called : K.lookup a_l_called = some ⟨oc_l_called, od_l_called, .func (PySem.W.fnOf "_law_called" "_law_called" (defArgs s_l_called) (defBody s_l_called) (defScope s_l_called) .none kV_l_called dc_l_called pm_l_called an_l_called cd_l_called ct_l_called), sl_l_called⟩)
  (c1_l_called : PySem.W.codeIn K cd_l_called "_law_called" = true)
  (k1_l_called : PySem.W.keepIn K (.ref a_l_called) = true)
  (a1_l_flags : PySem.W.nsIn K mainGlobals "_law_flags" = some (some (.ref a_l_flags)))
  (l1_l_flags : K.lookup a_l_flags = some ⟨oc_l_flags, od_l_flags, .func (PySem.W.fnOf "_law_flags" "_law_flags" (defArgs s_l_flags) (defBody s_l_flags) (defScope s_l_flags) .none kV_l_flags dc_l_flags pm_l_flags an_l_flags cd_l_flags ct_l_flags), sl_l_flags⟩)
  (c1_l_flags : PySem.W.codeIn K cd_l_flags "_law_flags" = true)
  (k1_l_flags : PySem.W.keepIn K (.ref a_l_flags) = true)
  (a1_l_good : PySem.W.nsIn K mainGlobals "_law_good" = some (some (.ref a_l_good)))
  (l1_l_good : K.lookup a_l_good = some ⟨oc_l_good, od_l_good, .func (PySem.W.fnOf "_law_good" "_law_good" (defArgs s_l_good) (defBody s_l_good) (defScope s_l_good) .none kV_l_good dc_l_good pm_l_good an_l_good cd_l_good ct_l_good), sl_l_good⟩)
  (c1_l_good : PySem.W.codeIn K cd_l_good "_law_good" = true)
  (k1_l_good : PySem.W.keepIn K (.ref a_l_good) = true)
  (a1_law : PySem.W.nsIn K mainGlobals "law" = some (some (.ref a_law)))
  (l1_law : K.lookup a_law = some ⟨oc_law, od_law, .func (PySem.W.fnOf "law" "law" (defArgs s_law) (defBody s_law) (defScope s_law) .none kV_law dc_law pm_law an_law cd_law ct_law), sl_law⟩)
  (c1_law : PySem.W.codeIn K cd_law "law" = true)
  (k1_law : PySem.W.keepIn K (.ref a_law) = true)
  (z_ValueError : PySem.W.nsIn K mainGlobals "ValueError" = some none)
  (z_all : PySem.W.nsIn K mainGlobals "all" = some none)
  (z_bool : PySem.W.nsIn K mainGlobals "bool" = some none)
  (z_enumerate : PySem.W.nsIn K mainGlobals "enumerate" = some none)
  (z_int : PySem.W.nsIn K mainGlobals "int" = some none)
  (z_isinstance : PySem.W.nsIn K mainGlobals "isinstance" = some none)
  (z_len : PySem.W.nsIn K mainGlobals "len" = some none)
  (z_list : PySem.W.nsIn K mainGlobals "list" = some none)
  (z_min : PySem.W.nsIn K mainGlobals "min" = some none)
  (z_range : PySem.W.nsIn K mainGlobals "range" = some none)
  (z_zip : PySem.W.nsIn K mainGlobals "zip" = some none)
  (v_MOST : PySem.W.nsIn K mainGlobals "MOST" = some (some (.int 23 tok_MOST)))
  (mk_Group : PySem.W.makesIn K c_Group = true)
  (kc_Group : PySem.W.keepIn K (.ref c_Group) = true)
  (pg_Group : PySem.W.plainGet K c_Group Str.empty = true)
  (hd_Group : PySem.W.hasDictIn K c_Group = true)
  (po_Group : PySem.W.plainOver K c_Group = true)
  (sa_Group : PySem.W.findIn K (.ref c_Group) "__setattr__" = some (some (.builtin "object.__setattr__")))
  (nG_many : PySem.W.findIn K (.ref c_Group) "many" = some none)
  (nG_rows : PySem.W.findIn K (.ref c_Group) "rows" = some none)
  (nG_unit : PySem.W.findIn K (.ref c_Group) "unit" = some none)
  (nG_backs : PySem.W.findIn K (.ref c_Group) "backs" = some none)
  (x_BadSize : PySem.W.excIn K c_BadSize [.type "ValueError", .type "Exception", .type "BaseException", .type "object"] "ValueError.__new__" = true)
  (kx_BadSize : PySem.W.keepIn K (.ref c_BadSize) = true)
  (rx_BadSize : PySem.W.subIn K (.ref c_BadSize) (.type "BaseException") = some true)
  (rt_BadSize : PySem.W.typeIn K (.ref c_BadSize) = some (.type "type"))
  (x_NoUnit : PySem.W.excIn K c_NoUnit [.type "ValueError", .type "Exception", .type "BaseException", .type "object"] "ValueError.__new__" = true)
  (kx_NoUnit : PySem.W.keepIn K (.ref c_NoUnit) = true)
  (rx_NoUnit : PySem.W.subIn K (.ref c_NoUnit) (.type "BaseException") = some true)
  (rt_NoUnit : PySem.W.typeIn K (.ref c_NoUnit) = some (.type "type"))
  (xL_NoBack : K.lookup c_NoBack = some (excClassObj nm_NoBack q_NoBack c_NoBack N_NoBack bs_NoBack bm_NoBack true sn_NoBack sub_NoBack ab_NoBack col_NoBack dd_NoBack m0_NoBack m1_NoBack m2_NoBack m3_NoBack m5_NoBack "ValueError.__new__"))
  (bm_NoBack_ok : PySem.HandSPX.refsVE bm_NoBack = true)
  (sa_NoBack : PySem.W.findIn K (.ref c_NoBack) "__setattr__" = some (some (.builtin "object.__setattr__")))
  (rx_NoBack : PySem.W.subIn K (.ref c_NoBack) (.type "BaseException") = some true)
  (rt_NoBack : PySem.W.typeIn K (.ref c_NoBack) = some (.type "type"))
  (kx_NoBack : PySem.W.keepIn K (.ref c_NoBack) = true)
  (ti_NoBack : PySem.W.typeIn K (.ref a_NoBack_init) = some (.type "function"))
  (n_NoBack_thing : PySem.W.findIn K (.ref c_NoBack) "thing" = some none)
  (xL_NotTogether : K.lookup c_NotTogether = some (excClassObj nm_NotTogether q_NotTogether c_NotTogether N_NotTogether bs_NotTogether bm_NotTogether true sn_NotTogether sub_NotTogether ab_NotTogether col_NotTogether dd_NotTogether m0_NotTogether m1_NotTogether m2_NotTogether m3_NotTogether m5_NotTogether "ValueError.__new__"))
  (bm_NotTogether_ok : PySem.HandSPX.refsVE bm_NotTogether = true)
  (sa_NotTogether : PySem.W.findIn K (.ref c_NotTogether) "__setattr__" = some (some (.builtin "object.__setattr__")))
  (rx_NotTogether : PySem.W.subIn K (.ref c_NotTogether) (.type "BaseException") = some true)
  (rt_NotTogether : PySem.W.typeIn K (.ref c_NotTogether) = some (.type "type"))
  (kx_NotTogether : PySem.W.keepIn K (.ref c_NotTogether) = true)
  (ti_NotTogether : PySem.W.typeIn K (.ref a_NotTogether_init) = some (.type "function"))
  (n_NotTogether_one : PySem.W.findIn K (.ref c_NotTogether) "one" = some none)
  (n_NotTogether_two : PySem.W.findIn K (.ref c_NotTogether) "two" = some none)
  (n_NotTogether_three : PySem.W.findIn K (.ref c_NotTogether) "three" = some none)
  (xL_Stranger : K.lookup c_Stranger = some (excClassObj nm_Stranger q_Stranger c_Stranger N_Stranger bs_Stranger bm_Stranger true sn_Stranger sub_Stranger ab_Stranger col_Stranger dd_Stranger m0_Stranger m1_Stranger m2_Stranger m3_Stranger m5_Stranger "ValueError.__new__"))
  (bm_Stranger_ok : PySem.HandSPX.refsVE bm_Stranger = true)
  (sa_Stranger : PySem.W.findIn K (.ref c_Stranger) "__setattr__" = some (some (.builtin "object.__setattr__")))
  (rx_Stranger : PySem.W.subIn K (.ref c_Stranger) (.type "BaseException") = some true)
  (rt_Stranger : PySem.W.typeIn K (.ref c_Stranger) = some (.type "type"))
  (kx_Stranger : PySem.W.keepIn K (.ref c_Stranger) = true)
  (ti_Stranger : PySem.W.typeIn K (.ref a_Stranger_init) = some (.type "function"))
  (n_Stranger_row : PySem.W.findIn K (.ref c_Stranger) "row" = some none)
  (n_Stranger_column : PySem.W.findIn K (.ref c_Stranger) "column" = some none)
  (clX_BookError : PySem.W.clsIn K c_BookError = some cdX_BookError)
  (mroX_BookError : cdX_BookError.mro = [.ref c_BookError, .type "ValueError", .type "Exception", .type "BaseException", .type "object"])
  (tyX_BookError : PySem.W.typeIn K (.ref c_BookError) = some (.type "type"))
  (hdX_BookError : PySem.W.hasDictIn K c_BookError = true)
  (gaX_BookError : PySem.W.findIn K (.ref c_BookError) "__getattribute__" = some (some (.builtin "BaseException.__getattribute__")))
  (ggX_BookError : PySem.W.findIn K (.ref c_BookError) "__getattr__" = some none)
  (caX_BookError : PySem.W.findIn K (.ref c_BookError) "__class__" = some (some (.builtin "object.__class__")))
  (clX_BadSize : PySem.W.clsIn K c_BadSize = some cdX_BadSize)
  (mroX_BadSize : cdX_BadSize.mro = [.ref c_BadSize, .ref c_BookError, .type "ValueError", .type "Exception", .type "BaseException", .type "object"])
  (tyX_BadSize : PySem.W.typeIn K (.ref c_BadSize) = some (.type "type"))
  (hdX_BadSize : PySem.W.hasDictIn K c_BadSize = true)
  (gaX_BadSize : PySem.W.findIn K (.ref c_BadSize) "__getattribute__" = some (some (.builtin "BaseException.__getattribute__")))
  (ggX_BadSize : PySem.W.findIn K (.ref c_BadSize) "__getattr__" = some none)
  (caX_BadSize : PySem.W.findIn K (.ref c_BadSize) "__class__" = some (some (.builtin "object.__class__")))
  (clX_Stranger : PySem.W.clsIn K c_Stranger = some cdX_Stranger)
  (mroX_Stranger : cdX_Stranger.mro = [.ref c_Stranger, .ref c_BookError, .type "ValueError", .type "Exception", .type "BaseException", .type "object"])
  (tyX_Stranger : PySem.W.typeIn K (.ref c_Stranger) = some (.type "type"))
  (hdX_Stranger : PySem.W.hasDictIn K c_Stranger = true)
  (gaX_Stranger : PySem.W.findIn K (.ref c_Stranger) "__getattribute__" = some (some (.builtin "BaseException.__getattribute__")))
  (ggX_Stranger : PySem.W.findIn K (.ref c_Stranger) "__getattr__" = some none)
  (caX_Stranger : PySem.W.findIn K (.ref c_Stranger) "__class__" = some (some (.builtin "object.__class__")))
  (clX_NoUnit : PySem.W.clsIn K c_NoUnit = some cdX_NoUnit)
  (mroX_NoUnit : cdX_NoUnit.mro = [.ref c_NoUnit, .ref c_BookError, .type "ValueError", .type "Exception", .type "BaseException", .type "object"])
  (tyX_NoUnit : PySem.W.typeIn K (.ref c_NoUnit) = some (.type "type"))
  (hdX_NoUnit : PySem.W.hasDictIn K c_NoUnit = true)
  (gaX_NoUnit : PySem.W.findIn K (.ref c_NoUnit) "__getattribute__" = some (some (.builtin "BaseException.__getattribute__")))
  (ggX_NoUnit : PySem.W.findIn K (.ref c_NoUnit) "__getattr__" = some none)
  (caX_NoUnit : PySem.W.findIn K (.ref c_NoUnit) "__class__" = some (some (.builtin "object.__class__")))
  (clX_NoBack : PySem.W.clsIn K c_NoBack = some cdX_NoBack)
  (mroX_NoBack : cdX_NoBack.mro = [.ref c_NoBack, .ref c_BookError, .type "ValueError", .type "Exception", .type "BaseException", .type "object"])
  (tyX_NoBack : PySem.W.typeIn K (.ref c_NoBack) = some (.type "type"))
  (hdX_NoBack : PySem.W.hasDictIn K c_NoBack = true)
  (gaX_NoBack : PySem.W.findIn K (.ref c_NoBack) "__getattribute__" = some (some (.builtin "BaseException.__getattribute__")))
  (ggX_NoBack : PySem.W.findIn K (.ref c_NoBack) "__getattr__" = some none)
  (caX_NoBack : PySem.W.findIn K (.ref c_NoBack) "__class__" = some (some (.builtin "object.__class__")))
  (clX_NotTogether : PySem.W.clsIn K c_NotTogether = some cdX_NotTogether)
  (mroX_NotTogether : cdX_NotTogether.mro = [.ref c_NotTogether, .ref c_BookError, .type "ValueError", .type "Exception", .type "BaseException", .type "object"])
  (tyX_NotTogether : PySem.W.typeIn K (.ref c_NotTogether) = some (.type "type"))
  (hdX_NotTogether : PySem.W.hasDictIn K c_NotTogether = true)
  (gaX_NotTogether : PySem.W.findIn K (.ref c_NotTogether) "__getattribute__" = some (some (.builtin "BaseException.__getattribute__")))
  (ggX_NotTogether : PySem.W.findIn K (.ref c_NotTogether) "__getattr__" = some none)
  (caX_NotTogether : PySem.W.findIn K (.ref c_NotTogether) "__class__" = some (some (.builtin "object.__class__")))
  (clX_NoPart : PySem.W.clsIn K c_NoPart = some cdX_NoPart)
  (mroX_NoPart : cdX_NoPart.mro = [.ref c_NoPart, .ref c_BookError, .type "ValueError", .type "Exception", .type "BaseException", .type "object"])
  (tyX_NoPart : PySem.W.typeIn K (.ref c_NoPart) = some (.type "type"))
  (hdX_NoPart : PySem.W.hasDictIn K c_NoPart = true)
  (gaX_NoPart : PySem.W.findIn K (.ref c_NoPart) "__getattribute__" = some (some (.builtin "BaseException.__getattribute__")))
  (ggX_NoPart : PySem.W.findIn K (.ref c_NoPart) "__getattr__" = some none)
  (caX_NoPart : PySem.W.findIn K (.ref c_NoPart) "__class__" = some (some (.builtin "object.__class__")))
  (clX_NotSteady : PySem.W.clsIn K c_NotSteady = some cdX_NotSteady)
  (mroX_NotSteady : cdX_NotSteady.mro = [.ref c_NotSteady, .ref c_BookError, .type "ValueError", .type "Exception", .type "BaseException", .type "object"])
  (tyX_NotSteady : PySem.W.typeIn K (.ref c_NotSteady) = some (.type "type"))
  (hdX_NotSteady : PySem.W.hasDictIn K c_NotSteady = true)
  (gaX_NotSteady : PySem.W.findIn K (.ref c_NotSteady) "__getattribute__" = some (some (.builtin "BaseException.__getattribute__")))
  (ggX_NotSteady : PySem.W.findIn K (.ref c_NotSteady) "__getattr__" = some none)
  (caX_NotSteady : PySem.W.findIn K (.ref c_NotSteady) "__class__" = some (some (.builtin "object.__class__")))
  (clX_BadWheel : PySem.W.clsIn K c_BadWheel = some cdX_BadWheel)
  (mroX_BadWheel : cdX_BadWheel.mro = [.ref c_BadWheel, .ref c_BookError, .type "ValueError", .type "Exception", .type "BaseException", .type "object"])
  (tyX_BadWheel : PySem.W.typeIn K (.ref c_BadWheel) = some (.type "type"))
  (hdX_BadWheel : PySem.W.hasDictIn K c_BadWheel = true)
  (gaX_BadWheel : PySem.W.findIn K (.ref c_BadWheel) "__getattribute__" = some (some (.builtin "BaseException.__getattribute__")))
  (ggX_BadWheel : PySem.W.findIn K (.ref c_BadWheel) "__getattr__" = some none)
  (caX_BadWheel : PySem.W.findIn K (.ref c_BadWheel) "__class__" = some (some (.builtin "object.__class__")))
  (clX_NoMove : PySem.W.clsIn K c_NoMove = some cdX_NoMove)
  (mroX_NoMove : cdX_NoMove.mro = [.ref c_NoMove, .ref c_BookError, .type "ValueError", .type "Exception", .type "BaseException", .type "object"])
  (tyX_NoMove : PySem.W.typeIn K (.ref c_NoMove) = some (.type "type"))
  (hdX_NoMove : PySem.W.hasDictIn K c_NoMove = true)
  (gaX_NoMove : PySem.W.findIn K (.ref c_NoMove) "__getattribute__" = some (some (.builtin "BaseException.__getattribute__")))
  (ggX_NoMove : PySem.W.findIn K (.ref c_NoMove) "__getattr__" = some none)
  (caX_NoMove : PySem.W.findIn K (.ref c_NoMove) "__class__" = some (some (.builtin "object.__class__")))
  (clX_BadMarks : PySem.W.clsIn K c_BadMarks = some cdX_BadMarks)
  (mroX_BadMarks : cdX_BadMarks.mro = [.ref c_BadMarks, .ref c_BookError, .type "ValueError", .type "Exception", .type "BaseException", .type "object"])
  (tyX_BadMarks : PySem.W.typeIn K (.ref c_BadMarks) = some (.type "type"))
  (hdX_BadMarks : PySem.W.hasDictIn K c_BadMarks = true)
  (gaX_BadMarks : PySem.W.findIn K (.ref c_BadMarks) "__getattribute__" = some (some (.builtin "BaseException.__getattribute__")))
  (ggX_BadMarks : PySem.W.findIn K (.ref c_BadMarks) "__getattr__" = some none)
  (caX_BadMarks : PySem.W.findIn K (.ref c_BadMarks) "__class__" = some (some (.builtin "object.__class__")))
  (clX_NoWay : PySem.W.clsIn K c_NoWay = some cdX_NoWay)
  (mroX_NoWay : cdX_NoWay.mro = [.ref c_NoWay, .ref c_BookError, .type "ValueError", .type "Exception", .type "BaseException", .type "object"])
  (tyX_NoWay : PySem.W.typeIn K (.ref c_NoWay) = some (.type "type"))
  (hdX_NoWay : PySem.W.hasDictIn K c_NoWay = true)
  (gaX_NoWay : PySem.W.findIn K (.ref c_NoWay) "__getattribute__" = some (some (.builtin "BaseException.__getattribute__")))
  (ggX_NoWay : PySem.W.findIn K (.ref c_NoWay) "__getattr__" = some none)
  (caX_NoWay : PySem.W.findIn K (.ref c_NoWay) "__class__" = some (some (.builtin "object.__class__")))
  (clX_NotKept : PySem.W.clsIn K c_NotKept = some cdX_NotKept)
  (mroX_NotKept : cdX_NotKept.mro = [.ref c_NotKept, .ref c_BookError, .type "ValueError", .type "Exception", .type "BaseException", .type "object"])
  (tyX_NotKept : PySem.W.typeIn K (.ref c_NotKept) = some (.type "type"))
  (hdX_NotKept : PySem.W.hasDictIn K c_NotKept = true)
  (gaX_NotKept : PySem.W.findIn K (.ref c_NotKept) "__getattribute__" = some (some (.builtin "BaseException.__getattribute__")))
  (ggX_NotKept : PySem.W.findIn K (.ref c_NotKept) "__getattr__" = some none)
  (caX_NotKept : PySem.W.findIn K (.ref c_NotKept) "__class__" = some (some (.builtin "object.__class__")))
  (clX_OtherGroup : PySem.W.clsIn K c_OtherGroup = some cdX_OtherGroup)
  (mroX_OtherGroup : cdX_OtherGroup.mro = [.ref c_OtherGroup, .ref c_BookError, .type "ValueError", .type "Exception", .type "BaseException", .type "object"])
  (tyX_OtherGroup : PySem.W.typeIn K (.ref c_OtherGroup) = some (.type "type"))
  (hdX_OtherGroup : PySem.W.hasDictIn K c_OtherGroup = true)
  (gaX_OtherGroup : PySem.W.findIn K (.ref c_OtherGroup) "__getattribute__" = some (some (.builtin "BaseException.__getattribute__")))
  (ggX_OtherGroup : PySem.W.findIn K (.ref c_OtherGroup) "__getattr__" = some none)
  (caX_OtherGroup : PySem.W.findIn K (.ref c_OtherGroup) "__class__" = some (some (.builtin "object.__class__")))
  (clX_OtherWheel : PySem.W.clsIn K c_OtherWheel = some cdX_OtherWheel)
  (mroX_OtherWheel : cdX_OtherWheel.mro = [.ref c_OtherWheel, .ref c_BookError, .type "ValueError", .type "Exception", .type "BaseException", .type "object"])
  (tyX_OtherWheel : PySem.W.typeIn K (.ref c_OtherWheel) = some (.type "type"))
  (hdX_OtherWheel : PySem.W.hasDictIn K c_OtherWheel = true)
  (gaX_OtherWheel : PySem.W.findIn K (.ref c_OtherWheel) "__getattribute__" = some (some (.builtin "BaseException.__getattribute__")))
  (ggX_OtherWheel : PySem.W.findIn K (.ref c_OtherWheel) "__getattr__" = some none)
  (caX_OtherWheel : PySem.W.findIn K (.ref c_OtherWheel) "__class__" = some (some (.builtin "object.__class__")))
  (clX_TooGreat : PySem.W.clsIn K c_TooGreat = some cdX_TooGreat)
  (mroX_TooGreat : cdX_TooGreat.mro = [.ref c_TooGreat, .ref c_BookError, .type "ValueError", .type "Exception", .type "BaseException", .type "object"])
  (tyX_TooGreat : PySem.W.typeIn K (.ref c_TooGreat) = some (.type "type"))
  (hdX_TooGreat : PySem.W.hasDictIn K c_TooGreat = true)
  (gaX_TooGreat : PySem.W.findIn K (.ref c_TooGreat) "__getattribute__" = some (some (.builtin "BaseException.__getattribute__")))
  (ggX_TooGreat : PySem.W.findIn K (.ref c_TooGreat) "__getattr__" = some none)
  (caX_TooGreat : PySem.W.findIn K (.ref c_TooGreat) "__class__" = some (some (.builtin "object.__class__")))
  (xnd : [c_BookError, c_BadSize, c_Stranger, c_NoUnit, c_NoBack, c_NotTogether, c_NoPart, c_NotSteady, c_BadWheel, c_NoMove, c_BadMarks, c_NoWay, c_NotKept, c_OtherGroup, c_OtherWheel, c_TooGreat].Nodup)
  (xsg : PySem.W.specialIn K (.builtin "object.__class__") "__get__" = some (some (.builtin "getset_descriptor.__get__")))
  (xtk : PySem.W.takesIn K (.builtin "object.__class__") = some true)
  : ∃ fd : FuncData, (∀ (s : Shared) (v : Value), BindsTo s fd ⟨[v], []⟩ [("_law_script", v)]) ∧ ∀ base : Heap, K.In base → base.Ns mainGlobals mg → FnOk l.prog w K mg base (L2.CX l.prog w) 6 fa fd ["_law_script"] (spLaw K) := by
  have e := (PySem.W.mg_of X G a1_law).symm.trans hfa
  cases e
  obtain ⟨cls, e_BookError, e_BadSize, e_Stranger, e_NoUnit, e_NoBack, e_NotTogether, e_NoPart, e_NotSteady, e_BadWheel, e_NoMove, e_BadMarks, e_NoWay, e_NotKept, e_OtherGroup, e_OtherWheel, e_TooGreat, e_Group⟩ : ∃ cls : CN → Addr, cls .BookError = c_BookError ∧ cls .BadSize = c_BadSize ∧ cls .Stranger = c_Stranger ∧ cls .NoUnit = c_NoUnit ∧ cls .NoBack = c_NoBack ∧ cls .NotTogether = c_NotTogether ∧ cls .NoPart = c_NoPart ∧ cls .NotSteady = c_NotSteady ∧ cls .BadWheel = c_BadWheel ∧ cls .NoMove = c_NoMove ∧ cls .BadMarks = c_BadMarks ∧ cls .NoWay = c_NoWay ∧ cls .NotKept = c_NotKept ∧ cls .OtherGroup = c_OtherGroup ∧ cls .OtherWheel = c_OtherWheel ∧ cls .TooGreat = c_TooGreat ∧ cls .Group = c_Group := ⟨fun n => match n with | .BookError => c_BookError | .BadSize => c_BadSize | .Stranger => c_Stranger | .NoUnit => c_NoUnit | .NoBack => c_NoBack | .NotTogether => c_NotTogether | .NoPart => c_NoPart | .NotSteady => c_NotSteady | .BadWheel => c_BadWheel | .NoMove => c_NoMove | .BadMarks => c_BadMarks | .NoWay => c_NoWay | .NotKept => c_NotKept | .OtherGroup => c_OtherGroup | .OtherWheel => c_OtherWheel | .TooGreat => c_TooGreat | .Group => c_Group | _ => 0, rfl, rfl, rfl, rfl, rfl, rfl, rfl, rfl, rfl, rfl, rfl, rfl, rfl, rfl, rfl, rfl, rfl⟩
  subst e_BookError
  subst e_BadSize
  subst e_Stranger
  subst e_NoUnit
  subst e_NoBack
  subst e_NotTogether
  subst e_NoPart
  subst e_NotSteady
  subst e_BadWheel
  subst e_NoMove
  subst e_BadMarks
  subst e_NoWay
  subst e_NotKept
  subst e_OtherGroup
  subst e_OtherWheel
  subst e_TooGreat
  subst e_Group
  have F_Stranger_init := fun_mk (st := s_Stranger_init) l1_Stranger_init c1_Stranger_init k1_Stranger_init
  have b_Stranger_init := F_Stranger_init.binds (ps := ["self", "row", "column"]) fun _ _ _ _ _ _ us hl => match us, hl with | [_, _, _], _ => rfl
  have F_NoBack_init := fun_mk (st := s_NoBack_init) l1_NoBack_init c1_NoBack_init k1_NoBack_init
  have b_NoBack_init := F_NoBack_init.binds (ps := ["self", "thing"]) fun _ _ _ _ _ _ us hl => match us, hl with | [_, _], _ => rfl
  have F_NotTogether_init := fun_mk (st := s_NotTogether_init) l1_NotTogether_init c1_NotTogether_init k1_NotTogether_init
  have b_NotTogether_init := F_NotTogether_init.binds (ps := ["self", "one", "two", "three"]) fun _ _ _ _ _ _ us hl => match us, hl with | [_, _, _, _], _ => rfl
  have F_Group_init := fun_mk (st := s_Group_init) l1_Group_init c1_Group_init k1_Group_init
  have b_Group_init := F_Group_init.binds (ps := ["self", "rows", "unit", "backs"]) fun _ _ _ _ _ _ us hl => match us, hl with | [_, _, _, _], _ => rfl
  have F_look_at_size := fun_mk (st := s_look_at_size) l1_look_at_size c1_look_at_size k1_look_at_size
  have b_look_at_size := F_look_at_size.binds (ps := ["table"]) fun _ _ _ _ _ _ us hl => match us, hl with | [_], _ => rfl
  have F_look_for_strangers := fun_mk (st := s_look_for_strangers) l1_look_for_strangers c1_look_for_strangers k1_look_for_strangers
  have b_look_for_strangers := F_look_for_strangers.binds (ps := ["table"]) fun _ _ _ _ _ _ us hl => match us, hl with | [_], _ => rfl
  have F_unit_of := fun_mk (st := s_unit_of) l1_unit_of c1_unit_of k1_unit_of
  have b_unit_of := F_unit_of.binds (ps := ["table"]) fun _ _ _ _ _ _ us hl => match us, hl with | [_], _ => rfl
  have F_back_of := fun_mk (st := s_back_of) l1_back_of c1_back_of k1_back_of
  have b_back_of := F_back_of.binds (ps := ["table", "unit", "thing"]) fun _ _ _ _ _ _ us hl => match us, hl with | [_, _, _], _ => rfl
  have F_look_at_threes := fun_mk (st := s_look_at_threes) l1_look_at_threes c1_look_at_threes k1_look_at_threes
  have b_look_at_threes := F_look_at_threes.binds (ps := ["table"]) fun _ _ _ _ _ _ us hl => match us, hl with | [_], _ => rfl
  have F_group_of := fun_mk (st := s_group_of) l1_group_of c1_group_of k1_group_of
  have b_group_of := F_group_of.binds (ps := ["table"]) fun _ _ _ _ _ _ us hl => match us, hl with | [_], _ => rfl
  have F_l_cell := fun_mk (st := s_l_cell) l1_l_cell c1_l_cell k1_l_cell
  have b_l_cell := F_l_cell.binds (ps := ["_law_script", "_law_k"]) fun _ _ _ _ _ _ us hl => match us, hl with | [_, _], _ => rfl
  have F_l_sizes := fun_mk (st := s_l_sizes) l1_l_sizes c1_l_sizes k1_l_sizes
  have b_l_sizes := F_l_sizes.binds (ps := ["_law_one", "_law_two"]) fun _ _ _ _ _ _ us hl => match us, hl with | [_, _], _ => rfl
  have F_l_kind := fun_mk (st := s_l_kind) l1_l_kind c1_l_kind k1_l_kind
  have b_l_kind := F_l_kind.binds (ps := ["_law_sizes_here", "_law_number"]) fun _ _ _ _ _ _ us hl => match us, hl with | [_, _], _ => rfl
  have F_l_unit := fun_mk (st := s_l_unit) l1_l_unit c1_l_unit k1_l_unit
  have b_l_unit := F_l_unit.binds (ps := ["_law_many", "_law_steps", "_law_number"]) fun _ _ _ _ _ _ us hl => match us, hl with | [_, _, _], _ => rfl
  have F_l_turned := fun_mk (st := s_l_turned) l1_l_turned c1_l_turned k1_l_turned
  have b_l_turned := F_l_turned.binds (ps := ["_law_place", "_law_sizes_here", "_law_kind_here", "_law_units"]) fun _ _ _ _ _ _ us hl => match us, hl with | [_, _, _, _], _ => rfl
  have F_l_sum := fun_mk (st := s_l_sum) l1_l_sum c1_l_sum k1_l_sum
  have b_l_sum := F_l_sum.binds (ps := ["_law_one", "_law_other", "_law_sizes_here"]) fun _ _ _ _ _ _ us hl => match us, hl with | [_, _, _], _ => rfl
  have F_l_rows := fun_mk (st := s_l_rows) l1_l_rows c1_l_rows k1_l_rows
  have b_l_rows := F_l_rows.binds (ps := ["_law_sizes_here", "_law_turn", "_law_end"]) fun _ _ _ _ _ _ us hl => match us, hl with | [_, _, _], _ => rfl
  have F_l_names := fun_mk (st := s_l_names) l1_l_names c1_l_names k1_l_names
  have b_l_names := F_l_names.binds (ps := ["_law_many", "_law_number"]) fun _ _ _ _ _ _ us hl => match us, hl with | [_, _], _ => rfl
  have F_l_group := fun_mk (st := s_l_group) l1_l_group c1_l_group k1_l_group
  have b_l_group := F_l_group.binds (ps := ["_law_script", "_law_start"]) fun _ _ _ _ _ _ us hl => match us, hl with | [_, _], _ => rfl
  have F_l_raw := fun_mk (st := s_l_raw) l1_l_raw c1_l_raw k1_l_raw
  have b_l_raw := F_l_raw.binds (ps := ["_law_script", "_law_many"]) fun _ _ _ _ _ _ us hl => match us, hl with | [_, _], _ => rfl
  have F_l_with_unit := fun_mk (st := s_l_with_unit) l1_l_with_unit c1_l_with_unit k1_l_with_unit
  have b_l_with_unit := F_l_with_unit.binds (ps := ["_law_table", "_law_unit_here"]) fun _ _ _ _ _ _ us hl => match us, hl with | [_, _], _ => rfl
  have F_l_with_backs := fun_mk (st := s_l_with_backs) l1_l_with_backs c1_l_with_backs k1_l_with_backs
  have b_l_with_backs := F_l_with_backs.binds (ps := ["_law_table", "_law_unit_here", "_law_number"]) fun _ _ _ _ _ _ us hl => match us, hl with | [_, _, _], _ => rfl
  have F_l_numbers := fun_mk (st := s_l_numbers) l1_l_numbers c1_l_numbers k1_l_numbers
  have b_l_numbers := F_l_numbers.binds (ps := ["_law_many", "_law_way", "_law_names_here"]) fun _ _ _ _ _ _ us hl => match us, hl with | [_, _, _], _ => rfl
  have F_l_made := fun_mk (st := s_l_made) l1_l_made c1_l_made k1_l_made
  have b_l_made := F_l_made.binds (ps := ["_law_script"]) fun _ _ _ _ _ _ us hl => match us, hl with | [_], _ => rfl
  have F_l_unit_of := fun_mk (st := s_l_unit_of) l1_l_unit_of c1_l_unit_of k1_l_unit_of
  have b_l_unit_of := F_l_unit_of.binds (ps := ["_law_table"]) fun _ _ _ _ _ _ us hl => match us, hl with | [_], _ => rfl
  have F_l_backs := fun_mk (st := s_l_backs) l1_l_backs c1_l_backs k1_l_backs
  have b_l_backs := F_l_backs.binds (ps := ["_law_table", "_law_unit_here"]) fun _ _ _ _ _ _ us hl => match us, hl with | [_, _], _ => rfl
  have F_l_apart := fun_mk (st := s_l_apart) l1_l_apart c1_l_apart k1_l_apart
  have b_l_apart := F_l_apart.binds (ps := ["_law_table"]) fun _ _ _ _ _ _ us hl => match us, hl with | [_], _ => rfl
  have F_l_due := fun_mk (st := s_l_due) l1_l_due c1_l_due k1_l_due
  have b_l_due := F_l_due.binds (ps := ["_law_table"]) fun _ _ _ _ _ _ us hl => match us, hl with | [_], _ => rfl
  have F_l_told := fun_mk (st := s_l_told) l1_l_told c1_l_told k1_l_told
  have b_l_told := F_l_told.binds (ps := ["_law_table"]) fun _ _ _ _ _ _ us hl => match us, hl with | [_], _ => rfl
  have F_l_called := fun_mk (st := s_l_called) l1_l_called c1_l_called k1_l_called
  have b_l_called := F_l_called.binds (ps := ["_law_met"]) fun _ _ _ _ _ _ us hl => match us, hl with | [_], _ => rfl
  have F_l_flags := fun_mk (st := s_l_flags) l1_l_flags c1_l_flags k1_l_flags
  have b_l_flags := F_l_flags.binds (ps := ["_law_table"]) fun _ _ _ _ _ _ us hl => match us, hl with | [_], _ => rfl
  have F_l_good := fun_mk (st := s_l_good) l1_l_good c1_l_good k1_l_good
  have b_l_good := F_l_good.binds (ps := ["_law_table"]) fun _ _ _ _ _ _ us hl => match us, hl with | [_], _ => rfl
  have F_law := fun_mk (st := s_law) l1_law c1_law k1_law
  have b_law := F_law.binds (ps := ["_law_script"]) fun _ _ _ _ _ _ us hl => match us, hl with | [_], _ => rfl
  have T : Tx K mg cls (Ad.mk a_Stranger_init a_NoBack_init a_NotTogether_init a_Group_init a_look_at_size a_look_for_strangers a_unit_of a_back_of a_look_at_threes a_group_of a_l_cell a_l_sizes a_l_kind a_l_unit a_l_turned a_l_sum a_l_rows a_l_names a_l_group a_l_raw a_l_with_unit a_l_with_backs a_l_numbers a_l_made a_l_unit_of a_l_backs a_l_apart a_l_due a_l_told a_l_called a_l_flags a_l_good fa _ _ _ _ _ _ _ _ _ _ _ _ _ _ _ _ _ _ _ _ _ _ _ _ _ _ _ _ _ _ _ _ _) := {F_Stranger_init := F_Stranger_init, b_Stranger_init := b_Stranger_init, F_NoBack_init := F_NoBack_init, b_NoBack_init := b_NoBack_init, F_NotTogether_init := F_NotTogether_init, b_NotTogether_init := b_NotTogether_init, F_Group_init := F_Group_init, b_Group_init := b_Group_init, F_look_at_size := F_look_at_size, b_look_at_size := b_look_at_size, g_look_at_size := PySem.W.mg_of X G a1_look_at_size, k_look_at_size := k1_look_at_size, F_look_for_strangers := F_look_for_strangers, b_look_for_strangers := b_look_for_strangers, g_look_for_strangers := PySem.W.mg_of X G a1_look_for_strangers, k_look_for_strangers := k1_look_for_strangers, F_unit_of := F_unit_of, b_unit_of := b_unit_of, g_unit_of := PySem.W.mg_of X G a1_unit_of, k_unit_of := k1_unit_of, F_back_of := F_back_of, b_back_of := b_back_of, g_back_of := PySem.W.mg_of X G a1_back_of, k_back_of := k1_back_of, F_look_at_threes := F_look_at_threes, b_look_at_threes := b_look_at_threes, g_look_at_threes := PySem.W.mg_of X G a1_look_at_threes, k_look_at_threes := k1_look_at_threes, F_group_of := F_group_of, b_group_of := b_group_of, g_group_of := PySem.W.mg_of X G a1_group_of, k_group_of := k1_group_of, F_l_cell := F_l_cell, b_l_cell := b_l_cell, g_l_cell := PySem.W.mg_of X G a1_l_cell, k_l_cell := k1_l_cell, F_l_sizes := F_l_sizes, b_l_sizes := b_l_sizes, g_l_sizes := PySem.W.mg_of X G a1_l_sizes, k_l_sizes := k1_l_sizes, F_l_kind := F_l_kind, b_l_kind := b_l_kind, g_l_kind := PySem.W.mg_of X G a1_l_kind, k_l_kind := k1_l_kind, F_l_unit := F_l_unit, b_l_unit := b_l_unit, g_l_unit := PySem.W.mg_of X G a1_l_unit, k_l_unit := k1_l_unit, F_l_turned := F_l_turned, b_l_turned := b_l_turned, g_l_turned := PySem.W.mg_of X G a1_l_turned, k_l_turned := k1_l_turned, F_l_sum := F_l_sum, b_l_sum := b_l_sum, g_l_sum := PySem.W.mg_of X G a1_l_sum, k_l_sum := k1_l_sum, F_l_rows := F_l_rows, b_l_rows := b_l_rows, g_l_rows := PySem.W.mg_of X G a1_l_rows, k_l_rows := k1_l_rows, F_l_names := F_l_names, b_l_names := b_l_names, g_l_names := PySem.W.mg_of X G a1_l_names, k_l_names := k1_l_names, F_l_group := F_l_group, b_l_group := b_l_group, g_l_group := PySem.W.mg_of X G a1_l_group, k_l_group := k1_l_group, F_l_raw := F_l_raw, b_l_raw := b_l_raw, g_l_raw := PySem.W.mg_of X G a1_l_raw, k_l_raw := k1_l_raw, F_l_with_unit := F_l_with_unit, b_l_with_unit := b_l_with_unit, g_l_with_unit := PySem.W.mg_of X G a1_l_with_unit, k_l_with_unit := k1_l_with_unit, F_l_with_backs := F_l_with_backs, b_l_with_backs := b_l_with_backs, g_l_with_backs := PySem.W.mg_of X G a1_l_with_backs, k_l_with_backs := k1_l_with_backs, F_l_numbers := F_l_numbers, b_l_numbers := b_l_numbers, g_l_numbers := PySem.W.mg_of X G a1_l_numbers, k_l_numbers := k1_l_numbers, F_l_made := F_l_made, b_l_made := b_l_made, g_l_made := PySem.W.mg_of X G a1_l_made, k_l_made := k1_l_made, F_l_unit_of := F_l_unit_of, b_l_unit_of := b_l_unit_of, g_l_unit_of := PySem.W.mg_of X G a1_l_unit_of, k_l_unit_of := k1_l_unit_of, F_l_backs := F_l_backs, b_l_backs := b_l_backs, g_l_backs := PySem.W.mg_of X G a1_l_backs, k_l_backs := k1_l_backs, F_l_apart := F_l_apart, b_l_apart := b_l_apart, g_l_apart := PySem.W.mg_of X G a1_l_apart, k_l_apart := k1_l_apart, F_l_due := F_l_due, b_l_due := b_l_due, g_l_due := PySem.W.mg_of X G a1_l_due, k_l_due := k1_l_due, F_l_told := F_l_told, b_l_told := b_l_told, g_l_told := PySem.W.mg_of X G a1_l_told, k_l_told := k1_l_told, F_l_called := F_l_called, b_l_called := b_l_called, g_l_called := PySem.W.mg_of X G a1_l_called, k_l_called := k1_l_called, F_l_flags := F_l_flags, b_l_flags := b_l_flags, g_l_flags := PySem.W.mg_of X G a1_l_flags, k_l_flags := k1_l_flags, F_l_good := F_l_good, b_l_good := b_l_good, g_l_good := PySem.W.mg_of X G a1_l_good, k_l_good := k1_l_good, F_law := F_law, b_law := b_law, g_law := PySem.W.mg_of X G a1_law, k_law := k1_law, b_ValueError := PySem.W.mg_none_of X G z_ValueError, b_all := PySem.W.mg_none_of X G z_all, b_bool := PySem.W.mg_none_of X G z_bool, b_enumerate := PySem.W.mg_none_of X G z_enumerate, b_int := PySem.W.mg_none_of X G z_int, b_isinstance := PySem.W.mg_none_of X G z_isinstance, b_len := PySem.W.mg_none_of X G z_len, b_list := PySem.W.mg_none_of X G z_list, b_min := PySem.W.mg_none_of X G z_min, b_range := PySem.W.mg_none_of X G z_range, b_zip := PySem.W.mg_none_of X G z_zip, g_MOST := ⟨_, PySem.W.mg_of X G v_MOST⟩, g_BookError := PySem.W.mg_of X G ac_BookError, g_BadSize := PySem.W.mg_of X G ac_BadSize, g_Stranger := PySem.W.mg_of X G ac_Stranger, g_NoUnit := PySem.W.mg_of X G ac_NoUnit, g_NoBack := PySem.W.mg_of X G ac_NoBack, g_NotTogether := PySem.W.mg_of X G ac_NotTogether, g_NoPart := PySem.W.mg_of X G ac_NoPart, g_NotSteady := PySem.W.mg_of X G ac_NotSteady, g_BadWheel := PySem.W.mg_of X G ac_BadWheel, g_NoMove := PySem.W.mg_of X G ac_NoMove, g_BadMarks := PySem.W.mg_of X G ac_BadMarks, g_NoWay := PySem.W.mg_of X G ac_NoWay, g_NotKept := PySem.W.mg_of X G ac_NotKept, g_OtherGroup := PySem.W.mg_of X G ac_OtherGroup, g_OtherWheel := PySem.W.mg_of X G ac_OtherWheel, g_TooGreat := PySem.W.mg_of X G ac_TooGreat, g_Group := PySem.W.mg_of X G ac_Group, M_Group := ⟨mk_Group, a1_Group_init, i1_Group_init, kc_Group⟩, grpC := ⟨⟨pg_Group, hd_Group, po_Group, sa_Group⟩, nG_many, nG_rows, nG_unit, nG_backs⟩, exs := ⟨⟨⟨by rw [clX_BookError]; exact congrArg some mroX_BookError, tyX_BookError, hdX_BookError, gaX_BookError, ggX_BookError, caX_BookError⟩, ⟨by rw [clX_BadSize]; exact congrArg some mroX_BadSize, tyX_BadSize, hdX_BadSize, gaX_BadSize, ggX_BadSize, caX_BadSize⟩, ⟨by rw [clX_Stranger]; exact congrArg some mroX_Stranger, tyX_Stranger, hdX_Stranger, gaX_Stranger, ggX_Stranger, caX_Stranger⟩, ⟨by rw [clX_NoUnit]; exact congrArg some mroX_NoUnit, tyX_NoUnit, hdX_NoUnit, gaX_NoUnit, ggX_NoUnit, caX_NoUnit⟩, ⟨by rw [clX_NoBack]; exact congrArg some mroX_NoBack, tyX_NoBack, hdX_NoBack, gaX_NoBack, ggX_NoBack, caX_NoBack⟩, ⟨by rw [clX_NotTogether]; exact congrArg some mroX_NotTogether, tyX_NotTogether, hdX_NotTogether, gaX_NotTogether, ggX_NotTogether, caX_NotTogether⟩, ⟨by rw [clX_NoPart]; exact congrArg some mroX_NoPart, tyX_NoPart, hdX_NoPart, gaX_NoPart, ggX_NoPart, caX_NoPart⟩, ⟨by rw [clX_NotSteady]; exact congrArg some mroX_NotSteady, tyX_NotSteady, hdX_NotSteady, gaX_NotSteady, ggX_NotSteady, caX_NotSteady⟩, ⟨by rw [clX_BadWheel]; exact congrArg some mroX_BadWheel, tyX_BadWheel, hdX_BadWheel, gaX_BadWheel, ggX_BadWheel, caX_BadWheel⟩, ⟨by rw [clX_NoMove]; exact congrArg some mroX_NoMove, tyX_NoMove, hdX_NoMove, gaX_NoMove, ggX_NoMove, caX_NoMove⟩, ⟨by rw [clX_BadMarks]; exact congrArg some mroX_BadMarks, tyX_BadMarks, hdX_BadMarks, gaX_BadMarks, ggX_BadMarks, caX_BadMarks⟩, ⟨by rw [clX_NoWay]; exact congrArg some mroX_NoWay, tyX_NoWay, hdX_NoWay, gaX_NoWay, ggX_NoWay, caX_NoWay⟩, ⟨by rw [clX_NotKept]; exact congrArg some mroX_NotKept, tyX_NotKept, hdX_NotKept, gaX_NotKept, ggX_NotKept, caX_NotKept⟩, ⟨by rw [clX_OtherGroup]; exact congrArg some mroX_OtherGroup, tyX_OtherGroup, hdX_OtherGroup, gaX_OtherGroup, ggX_OtherGroup, caX_OtherGroup⟩, ⟨by rw [clX_OtherWheel]; exact congrArg some mroX_OtherWheel, tyX_OtherWheel, hdX_OtherWheel, gaX_OtherWheel, ggX_OtherWheel, caX_OtherWheel⟩, ⟨by rw [clX_TooGreat]; exact congrArg some mroX_TooGreat, tyX_TooGreat, hdX_TooGreat, gaX_TooGreat, ggX_TooGreat, caX_TooGreat⟩, trivial⟩, xnd, by decide, xsg, xtk⟩, x_BadSize := x_BadSize, k_BadSize := kx_BadSize, r_BadSize := rx_BadSize, rt_BadSize := rt_BadSize, x_NoUnit := x_NoUnit, k_NoUnit := kx_NoUnit, r_NoUnit := rx_NoUnit, rt_NoUnit := rt_NoUnit, O_NoBack := ⟨⟨_, _, _, _, _, _, _, _, _, _, _, _, _, _, _, xL_NoBack, bm_NoBack_ok⟩, sa_NoBack, rx_NoBack, rt_NoBack, kx_NoBack⟩, i_NoBack := a1_NoBack_init, ti_NoBack := ti_NoBack, n_NoBack_thing := n_NoBack_thing, O_NotTogether := ⟨⟨_, _, _, _, _, _, _, _, _, _, _, _, _, _, _, xL_NotTogether, bm_NotTogether_ok⟩, sa_NotTogether, rx_NotTogether, rt_NotTogether, kx_NotTogether⟩, i_NotTogether := a1_NotTogether_init, ti_NotTogether := ti_NotTogether, n_NotTogether_one := n_NotTogether_one, n_NotTogether_two := n_NotTogether_two, n_NotTogether_three := n_NotTogether_three, O_Stranger := ⟨⟨_, _, _, _, _, _, _, _, _, _, _, _, _, _, _, xL_Stranger, bm_Stranger_ok⟩, sa_Stranger, rx_Stranger, rt_Stranger, kx_Stranger⟩, i_Stranger := a1_Stranger_init, ti_Stranger := ti_Stranger, n_Stranger_row := n_Stranger_row, n_Stranger_column := n_Stranger_column}
  refine ⟨PySem.W.fnOf "law" "law" (defArgs s_law) (defBody s_law) (defScope s_law) .none kV_law dc_law pm_law an_law cd_law ct_law, fun s v => .of_eq rfl, fun base hb hn => ?_⟩
  have G_Stranger_init := ok_Stranger_init (P := l.prog) (w := w) (base := base) T 
  have G_NoBack_init := ok_NoBack_init (P := l.prog) (w := w) (base := base) T 
  have G_NotTogether_init := ok_NotTogether_init (P := l.prog) (w := w) (base := base) T 
  have G_Group_init := ok_Group_init (P := l.prog) (w := w) (base := base) T 
  have G_look_at_size := ok_look_at_size (P := l.prog) (w := w) (base := base) T 
  have G_look_for_strangers := ok_look_for_strangers (P := l.prog) (w := w) (base := base) T G_Stranger_init
  have G_unit_of := ok_unit_of (P := l.prog) (w := w) (base := base) T 
  have G_back_of := ok_back_of (P := l.prog) (w := w) (base := base) T G_NoBack_init
  have G_look_at_threes := ok_look_at_threes (P := l.prog) (w := w) (base := base) T G_NotTogether_init
  have G_group_of := ok_group_of (P := l.prog) (w := w) (base := base) T G_Group_init G_look_at_size G_look_for_strangers G_unit_of G_back_of G_look_at_threes
  have G_l_cell := ok_l_cell (P := l.prog) (w := w) (base := base) T 
  have G_l_sizes := ok_l_sizes (P := l.prog) (w := w) (base := base) T 
  have G_l_kind := ok_l_kind (P := l.prog) (w := w) (base := base) T 
  have G_l_unit := ok_l_unit (P := l.prog) (w := w) (base := base) T 
  have G_l_turned := ok_l_turned (P := l.prog) (w := w) (base := base) T 
  have G_l_sum := ok_l_sum (P := l.prog) (w := w) (base := base) T 
  have G_l_rows := ok_l_rows (P := l.prog) (w := w) (base := base) T G_l_sum
  have G_l_names := ok_l_names (P := l.prog) (w := w) (base := base) T 
  have G_l_group := ok_l_group (P := l.prog) (w := w) (base := base) T G_l_cell G_l_sizes G_l_kind G_l_unit G_l_turned G_l_rows G_l_names
  have G_l_raw := ok_l_raw (P := l.prog) (w := w) (base := base) T G_l_cell
  have G_l_with_unit := ok_l_with_unit (P := l.prog) (w := w) (base := base) T 
  have G_l_with_backs := ok_l_with_backs (P := l.prog) (w := w) (base := base) T 
  have G_l_numbers := ok_l_numbers (P := l.prog) (w := w) (base := base) T 
  have G_l_made := ok_l_made (P := l.prog) (w := w) (base := base) T G_l_cell G_l_names G_l_group G_l_raw G_l_with_unit G_l_with_backs G_l_numbers
  have G_l_unit_of := ok_l_unit_of (P := l.prog) (w := w) (base := base) T 
  have G_l_backs := ok_l_backs (P := l.prog) (w := w) (base := base) T 
  have G_l_apart := ok_l_apart (P := l.prog) (w := w) (base := base) T 
  have G_l_due := ok_l_due (P := l.prog) (w := w) (base := base) T G_l_unit_of G_l_backs G_l_apart
  have G_l_told := ok_l_told (P := l.prog) (w := w) (base := base) T G_group_of
  have G_l_called := ok_l_called (P := l.prog) (w := w) (base := base) T 
  have G_l_flags := ok_l_flags (P := l.prog) (w := w) (base := base) T G_group_of G_l_called
  have G_l_good := ok_l_good (P := l.prog) (w := w) (base := base) T G_group_of G_l_unit_of G_l_backs
  have G_law := ok_law (P := l.prog) (w := w) (base := base) T G_l_group G_l_made G_l_due G_l_told G_l_flags G_l_good
  exact G_law.imp fun vs H Q E h => law_imp h
theorem walk {l : PySem.W.OpenLaw} {q : Program} {loose : List Str} {XP : (Str → Option Value) → Heap → Prop} {YP : World → Heap → Prop} {d : DefRec} {K : Params → PySem.W.Frag} (hn : l.most = some 63) (hdf : d.params.defaults = [])
    (hY : ∀ (w : World) (h : Heap), YP w h → (K w.params).In h)
    (F : ∀ (w : World) (mg : Str → Option Value) (fa : Addr) (h : Heap), (K w.params).In h → h.Ns mainGlobals mg → mg d.name = some (.ref fa) →
      ∃ fd : FuncData, (∀ (s : Shared) (u : Value), BindsTo s fd ⟨[u], []⟩ [("_law_script", u)]) ∧ ∀ base : Heap, (K w.params).In base → base.Ns mainGlobals mg → FnOk l.prog w (K w.params) mg base (L2.CX l.prog w) 6 fa fd ["_law_script"] (spLaw (K w.params))) :
    PySem.W.WalkO q loose XP YP l.row.toRowW d [] (fun f vs => PySem.call f vs) :=
  L2.walk_of (n := 63) (k := 6) (x := "_law_script") (CX := fun w => L2.CX l.prog w) (sp := fun w => spLaw (K w.params)) hn (by decide) hdf ⟨rfl, by decide, by decide⟩ hY F (fun _ _ a ns hl _ hS => ⟨a, ns, rfl, hS, hl, fun _ => rfl⟩) fun _ _ _ _ _ z => by
    obtain ⟨_, _, _, _, _, _, _, _, _, _, _, _, z⟩ := z
    exact z.elim
end TB
open PySem PySem.W PyProof.Rows
set_option maxRecDepth 100000 in
set_option maxHeartbeats 0 in
theorem PySem.Challenge.cw_tracebook_k06_whole_a_group_or_what_show_holds : PySem.Challenge.rw_tracebook_k06_whole_a_group_or_what_show.Holds := by
  w_on; o_law; k_head; (case hw => w_witness2)
  k_fill
  refine TB.walk (l := PySem.Challenge.rw_tracebook_k06_whole_a_group_or_what_show) rfl rfl (fun w h Y => PySem.W.kIn_of Y) ?F
  case F =>
    intro w mg fa h KX G hmg
    refine' TB.all_mk KX G hmg ?ac_BookError ?ac_BadSize ?ac_Stranger ?ac_NoUnit ?ac_NoBack ?ac_NotTogether ?ac_NoPart ?ac_NotSteady ?ac_BadWheel ?ac_NoMove ?ac_BadMarks ?ac_NoWay ?ac_NotKept ?ac_OtherGroup ?ac_OtherWheel ?ac_TooGreat ?ac_Group ?a1_Stranger_init ?i1_Stranger_init ?l1_Stranger_init ?c1_Stranger_init ?k1_Stranger_init ?a1_NoBack_init ?i1_NoBack_init ?l1_NoBack_init ?c1_NoBack_init ?k1_NoBack_init ?a1_NotTogether_init ?i1_NotTogether_init ?l1_NotTogether_init ?c1_NotTogether_init ?k1_NotTogether_init ?a1_Group_init ?i1_Group_init ?l1_Group_init ?c1_Group_init ?k1_Group_init ?a1_look_at_size ?l1_look_at_size ?c1_look_at_size ?k1_look_at_size ?a1_look_for_strangers ?l1_look_for_strangers ?c1_look_for_strangers ?k1_look_for_strangers ?a1_unit_of ?l1_unit_of ?c1_unit_of ?k1_unit_of ?a1_back_of ?l1_back_of ?c1_back_of ?k1_back_of ?a1_look_at_threes ?l1_look_at_threes ?c1_look_at_threes ?k1_look_at_threes ?a1_group_of ?l1_group_of ?c1_group_of ?k1_group_of ?a1_l_cell ?l1_l_cell ?c1_l_cell ?k1_l_cell ?a1_l_sizes ?l1_l_sizes ?c1_l_sizes ?k1_l_sizes ?a1_l_kind ?l1_l_kind ?c1_l_kind ?k1_l_kind ?a1_l_unit ?l1_l_unit ?c1_l_unit ?k1_l_unit ?a1_l_turned ?l1_l_turned ?c1_l_turned ?k1_l_turned ?a1_l_sum ?l1_l_sum ?c1_l_sum ?k1_l_sum ?a1_l_rows ?l1_l_rows ?c1_l_rows ?k1_l_rows ?a1_l_names ?l1_l_names ?c1_l_names ?k1_l_names ?a1_l_group ?l1_l_group ?c1_l_group ?k1_l_group ?a1_l_raw ?l1_l_raw ?c1_l_raw ?k1_l_raw ?a1_l_with_unit ?l1_l_with_unit ?c1_l_with_unit ?k1_l_with_unit ?a1_l_with_backs ?l1_l_with_backs ?c1_l_with_backs ?k1_l_with_backs ?a1_l_numbers ?l1_l_numbers ?c1_l_numbers ?k1_l_numbers ?a1_l_made ?l1_l_made ?c1_l_made ?k1_l_made ?a1_l_unit_of ?l1_l_unit_of ?c1_l_unit_of ?k1_l_unit_of ?a1_l_backs ?l1_l_backs ?c1_l_backs ?k1_l_backs ?a1_l_apart ?l1_l_apart ?c1_l_apart ?k1_l_apart ?a1_l_due ?l1_l_due ?c1_l_due ?k1_l_due ?a1_l_told ?l1_l_told ?c1_l_told ?k1_l_told ?a1_l_called ?l1_l_called ?c1_l_called ?k1_l_called ?a1_l_flags ?l1_l_flags ?c1_l_flags ?k1_l_flags ?a1_l_good ?l1_l_good ?c1_l_good ?k1_l_good ?a1_law ?l1_law ?c1_law ?k1_law ?z_ValueError ?z_all ?z_bool ?z_enumerate ?z_int ?z_isinstance ?z_len ?z_list ?z_min ?z_range ?z_zip ?v_MOST ?mk_Group ?kc_Group ?pg_Group ?hd_Group ?po_Group ?sa_Group ?nG_many ?nG_rows ?nG_unit ?nG_backs ?x_BadSize ?kx_BadSize ?rx_BadSize ?rt_BadSize ?x_NoUnit ?kx_NoUnit ?rx_NoUnit ?rt_NoUnit ?xL_NoBack ?bm_NoBack_ok ?sa_NoBack ?rx_NoBack ?rt_NoBack ?kx_NoBack ?ti_NoBack ?n_NoBack_thing ?xL_NotTogether ?bm_NotTogether_ok ?sa_NotTogether ?rx_NotTogether ?rt_NotTogether ?kx_NotTogether ?ti_NotTogether ?n_NotTogether_one ?n_NotTogether_two ?n_NotTogether_three ?xL_Stranger ?bm_Stranger_ok ?sa_Stranger ?rx_Stranger ?rt_Stranger ?kx_Stranger ?ti_Stranger ?n_Stranger_row ?n_Stranger_column ?clX_BookError ?mroX_BookError ?tyX_BookError ?hdX_BookError ?gaX_BookError ?ggX_BookError ?caX_BookError ?clX_BadSize ?mroX_BadSize ?tyX_BadSize ?hdX_BadSize ?gaX_BadSize ?ggX_BadSize ?caX_BadSize ?clX_Stranger ?mroX_Stranger ?tyX_Stranger ?hdX_Stranger ?gaX_Stranger ?ggX_Stranger ?caX_Stranger ?clX_NoUnit ?mroX_NoUnit ?tyX_NoUnit ?hdX_NoUnit ?gaX_NoUnit ?ggX_NoUnit ?caX_NoUnit ?clX_NoBack ?mroX_NoBack ?tyX_NoBack ?hdX_NoBack ?gaX_NoBack ?ggX_NoBack ?caX_NoBack ?clX_NotTogether ?mroX_NotTogether ?tyX_NotTogether ?hdX_NotTogether ?gaX_NotTogether ?ggX_NotTogether ?caX_NotTogether ?clX_NoPart ?mroX_NoPart ?tyX_NoPart ?hdX_NoPart ?gaX_NoPart ?ggX_NoPart ?caX_NoPart ?clX_NotSteady ?mroX_NotSteady ?tyX_NotSteady ?hdX_NotSteady ?gaX_NotSteady ?ggX_NotSteady ?caX_NotSteady ?clX_BadWheel ?mroX_BadWheel ?tyX_BadWheel ?hdX_BadWheel ?gaX_BadWheel ?ggX_BadWheel ?caX_BadWheel ?clX_NoMove ?mroX_NoMove ?tyX_NoMove ?hdX_NoMove ?gaX_NoMove ?ggX_NoMove ?caX_NoMove ?clX_BadMarks ?mroX_BadMarks ?tyX_BadMarks ?hdX_BadMarks ?gaX_BadMarks ?ggX_BadMarks ?caX_BadMarks ?clX_NoWay ?mroX_NoWay ?tyX_NoWay ?hdX_NoWay ?gaX_NoWay ?ggX_NoWay ?caX_NoWay ?clX_NotKept ?mroX_NotKept ?tyX_NotKept ?hdX_NotKept ?gaX_NotKept ?ggX_NotKept ?caX_NotKept ?clX_OtherGroup ?mroX_OtherGroup ?tyX_OtherGroup ?hdX_OtherGroup ?gaX_OtherGroup ?ggX_OtherGroup ?caX_OtherGroup ?clX_OtherWheel ?mroX_OtherWheel ?tyX_OtherWheel ?hdX_OtherWheel ?gaX_OtherWheel ?ggX_OtherWheel ?caX_OtherWheel ?clX_TooGreat ?mroX_TooGreat ?tyX_TooGreat ?hdX_TooGreat ?gaX_TooGreat ?ggX_TooGreat ?caX_TooGreat ?xnd ?xsg ?xtk
    (case ac_BookError => k_is)
    (case ac_BadSize => k_is)
    (case ac_Stranger => k_is)
    (case ac_NoUnit => k_is)
    (case ac_NoBack => k_is)
    (case ac_NotTogether => k_is)
    (case ac_NoPart => k_is)
    (case ac_NotSteady => k_is)
    (case ac_BadWheel => k_is)
    (case ac_NoMove => k_is)
    (case ac_BadMarks => k_is)
    (case ac_NoWay => k_is)
    (case ac_NotKept => k_is)
    (case ac_OtherGroup => k_is)
    (case ac_OtherWheel => k_is)
    (case ac_TooGreat => k_is)
    (case ac_Group => k_is)
    (case a1_Stranger_init => k_is)
    (case i1_Stranger_init => k_is)
    (case l1_Stranger_init => k_is)
    (case c1_Stranger_init => k_is)
    (case k1_Stranger_init => k_is)
    (case a1_NoBack_init => k_is)
    (case i1_NoBack_init => k_is)
    (case l1_NoBack_init => k_is)
    (case c1_NoBack_init => k_is)
    (case k1_NoBack_init => k_is)
    (case a1_NotTogether_init => k_is)
    (case i1_NotTogether_init => k_is)
    (case l1_NotTogether_init => k_is)
    (case c1_NotTogether_init => k_is)
    (case k1_NotTogether_init => k_is)
    (case a1_Group_init => k_is)
    (case i1_Group_init => k_is)
    (case l1_Group_init => k_is)
    (case c1_Group_init => k_is)
    (case k1_Group_init => k_is)
    (case a1_look_at_size => k_is)
    (case l1_look_at_size => k_is)
    (case c1_look_at_size => k_is)
    (case k1_look_at_size => k_is)
    (case a1_look_for_strangers => k_is)
    (case l1_look_for_strangers => k_is)
    (case c1_look_for_strangers => k_is)
    (case k1_look_for_strangers => k_is)
    (case a1_unit_of => k_is)
    (case l1_unit_of => k_is)
    (case c1_unit_of => k_is)
    (case k1_unit_of => k_is)
    (case a1_back_of => k_is)
    (case l1_back_of => k_is)
    (case c1_back_of => k_is)
    (case k1_back_of => k_is)
    (case a1_look_at_threes => k_is)
    (case l1_look_at_threes => k_is)
    (case c1_look_at_threes => k_is)
    (case k1_look_at_threes => k_is)
    (case a1_group_of => k_is)
    (case l1_group_of => k_is)
    (case c1_group_of => k_is)
    (case k1_group_of => k_is)
    (case a1_l_cell => k_is)
    (case l1_l_cell => k_is)
    (case c1_l_cell => k_is)
    (case k1_l_cell => k_is)
    (case a1_l_sizes => k_is)
    (case l1_l_sizes => k_is)
    (case c1_l_sizes => k_is)
    (case k1_l_sizes => k_is)
    (case a1_l_kind => k_is)
    (case l1_l_kind => k_is)
    (case c1_l_kind => k_is)
    (case k1_l_kind => k_is)
    (case a1_l_unit => k_is)
    (case l1_l_unit => k_is)
    (case c1_l_unit => k_is)
    (case k1_l_unit => k_is)
    (case a1_l_turned => k_is)
    (case l1_l_turned => k_is)
    (case c1_l_turned => k_is)
    (case k1_l_turned => k_is)
    (case a1_l_sum => k_is)
    (case l1_l_sum => k_is)
    (case c1_l_sum => k_is)
    (case k1_l_sum => k_is)
    (case a1_l_rows => k_is)
    (case l1_l_rows => k_is)
    (case c1_l_rows => k_is)
    (case k1_l_rows => k_is)
    (case a1_l_names => k_is)
    (case l1_l_names => k_is)
    (case c1_l_names => k_is)
    (case k1_l_names => k_is)
    (case a1_l_group => k_is)
    (case l1_l_group => k_is)
    (case c1_l_group => k_is)
    (case k1_l_group => k_is)
    (case a1_l_raw => k_is)
    (case l1_l_raw => k_is)
    (case c1_l_raw => k_is)
    (case k1_l_raw => k_is)
    (case a1_l_with_unit => k_is)
    (case l1_l_with_unit => k_is)
    (case c1_l_with_unit => k_is)
    (case k1_l_with_unit => k_is)
    (case a1_l_with_backs => k_is)
    (case l1_l_with_backs => k_is)
    (case c1_l_with_backs => k_is)
    (case k1_l_with_backs => k_is)
    (case a1_l_numbers => k_is)
    (case l1_l_numbers => k_is)
    (case c1_l_numbers => k_is)
    (case k1_l_numbers => k_is)
    (case a1_l_made => k_is)
    (case l1_l_made => k_is)
    (case c1_l_made => k_is)
    (case k1_l_made => k_is)
    (case a1_l_unit_of => k_is)
    (case l1_l_unit_of => k_is)
    (case c1_l_unit_of => k_is)
    (case k1_l_unit_of => k_is)
    (case a1_l_backs => k_is)
    (case l1_l_backs => k_is)
    (case c1_l_backs => k_is)
    (case k1_l_backs => k_is)
    (case a1_l_apart => k_is)
    (case l1_l_apart => k_is)
    (case c1_l_apart => k_is)
    (case k1_l_apart => k_is)
    (case a1_l_due => k_is)
    (case l1_l_due => k_is)
    (case c1_l_due => k_is)
    (case k1_l_due => k_is)
    (case a1_l_told => k_is)
    (case l1_l_told => k_is)
    (case c1_l_told => k_is)
    (case k1_l_told => k_is)
    (case a1_l_called => k_is)
    (case l1_l_called => k_is)
    (case c1_l_called => k_is)
    (case k1_l_called => k_is)
    (case a1_l_flags => k_is)
    (case l1_l_flags => k_is)
    (case c1_l_flags => k_is)
    (case k1_l_flags => k_is)
    (case a1_l_good => k_is)
    (case l1_l_good => k_is)
    (case c1_l_good => k_is)
    (case k1_l_good => k_is)
    (case a1_law => k_is)
    (case l1_law => k_is)
    (case c1_law => k_is)
    (case k1_law => k_is)
    (case z_ValueError => k_is)
    (case z_all => k_is)
    (case z_bool => k_is)
    (case z_enumerate => k_is)
    (case z_int => k_is)
    (case z_isinstance => k_is)
    (case z_len => k_is)
    (case z_list => k_is)
    (case z_min => k_is)
    (case z_range => k_is)
    (case z_zip => k_is)
    (case v_MOST => k_is)
    (case mk_Group => k_is)
    (case kc_Group => k_is)
    (case pg_Group => k_is)
    (case hd_Group => k_is)
    (case po_Group => k_is)
    (case sa_Group => k_is)
    (case nG_many => k_is)
    (case nG_rows => k_is)
    (case nG_unit => k_is)
    (case nG_backs => k_is)
    (case x_BadSize => k_exc)
    (case kx_BadSize => k_is)
    (case rx_BadSize => k_is)
    (case rt_BadSize => k_is)
    (case x_NoUnit => k_exc)
    (case kx_NoUnit => k_is)
    (case rx_NoUnit => k_is)
    (case rt_NoUnit => k_is)
    (case xL_NoBack => k_is)
    (case bm_NoBack_ok => decide +kernel)
    (case sa_NoBack => k_is)
    (case rx_NoBack => k_is)
    (case rt_NoBack => k_is)
    (case kx_NoBack => k_is)
    (case ti_NoBack => k_is)
    (case n_NoBack_thing => k_is)
    (case xL_NotTogether => k_is)
    (case bm_NotTogether_ok => decide +kernel)
    (case sa_NotTogether => k_is)
    (case rx_NotTogether => k_is)
    (case rt_NotTogether => k_is)
    (case kx_NotTogether => k_is)
    (case ti_NotTogether => k_is)
    (case n_NotTogether_one => k_is)
    (case n_NotTogether_two => k_is)
    (case n_NotTogether_three => k_is)
    (case xL_Stranger => k_is)
    (case bm_Stranger_ok => decide +kernel)
    (case sa_Stranger => k_is)
    (case rx_Stranger => k_is)
    (case rt_Stranger => k_is)
    (case kx_Stranger => k_is)
    (case ti_Stranger => k_is)
    (case n_Stranger_row => k_is)
    (case n_Stranger_column => k_is)
    (case clX_BookError => k_is)
    (case mroX_BookError => rfl)
    (case tyX_BookError => k_is)
    (case hdX_BookError => k_is)
    (case gaX_BookError => k_is)
    (case ggX_BookError => k_is)
    (case caX_BookError => k_is)
    (case clX_BadSize => k_is)
    (case mroX_BadSize => rfl)
    (case tyX_BadSize => k_is)
    (case hdX_BadSize => k_is)
    (case gaX_BadSize => k_is)
    (case ggX_BadSize => k_is)
    (case caX_BadSize => k_is)
    (case clX_Stranger => k_is)
    (case mroX_Stranger => rfl)
    (case tyX_Stranger => k_is)
    (case hdX_Stranger => k_is)
    (case gaX_Stranger => k_is)
    (case ggX_Stranger => k_is)
    (case caX_Stranger => k_is)
    (case clX_NoUnit => k_is)
    (case mroX_NoUnit => rfl)
    (case tyX_NoUnit => k_is)
    (case hdX_NoUnit => k_is)
    (case gaX_NoUnit => k_is)
    (case ggX_NoUnit => k_is)
    (case caX_NoUnit => k_is)
    (case clX_NoBack => k_is)
    (case mroX_NoBack => rfl)
    (case tyX_NoBack => k_is)
    (case hdX_NoBack => k_is)
    (case gaX_NoBack => k_is)
    (case ggX_NoBack => k_is)
    (case caX_NoBack => k_is)
    (case clX_NotTogether => k_is)
    (case mroX_NotTogether => rfl)
    (case tyX_NotTogether => k_is)
    (case hdX_NotTogether => k_is)
    (case gaX_NotTogether => k_is)
    (case ggX_NotTogether => k_is)
    (case caX_NotTogether => k_is)
    (case clX_NoPart => k_is)
    (case mroX_NoPart => rfl)
    (case tyX_NoPart => k_is)
    (case hdX_NoPart => k_is)
    (case gaX_NoPart => k_is)
    (case ggX_NoPart => k_is)
    (case caX_NoPart => k_is)
    (case clX_NotSteady => k_is)
    (case mroX_NotSteady => rfl)
    (case tyX_NotSteady => k_is)
    (case hdX_NotSteady => k_is)
    (case gaX_NotSteady => k_is)
    (case ggX_NotSteady => k_is)
    (case caX_NotSteady => k_is)
    (case clX_BadWheel => k_is)
    (case mroX_BadWheel => rfl)
    (case tyX_BadWheel => k_is)
    (case hdX_BadWheel => k_is)
    (case gaX_BadWheel => k_is)
    (case ggX_BadWheel => k_is)
    (case caX_BadWheel => k_is)
    (case clX_NoMove => k_is)
    (case mroX_NoMove => rfl)
    (case tyX_NoMove => k_is)
    (case hdX_NoMove => k_is)
    (case gaX_NoMove => k_is)
    (case ggX_NoMove => k_is)
    (case caX_NoMove => k_is)
    (case clX_BadMarks => k_is)
    (case mroX_BadMarks => rfl)
    (case tyX_BadMarks => k_is)
    (case hdX_BadMarks => k_is)
    (case gaX_BadMarks => k_is)
    (case ggX_BadMarks => k_is)
    (case caX_BadMarks => k_is)
    (case clX_NoWay => k_is)
    (case mroX_NoWay => rfl)
    (case tyX_NoWay => k_is)
    (case hdX_NoWay => k_is)
    (case gaX_NoWay => k_is)
    (case ggX_NoWay => k_is)
    (case caX_NoWay => k_is)
    (case clX_NotKept => k_is)
    (case mroX_NotKept => rfl)
    (case tyX_NotKept => k_is)
    (case hdX_NotKept => k_is)
    (case gaX_NotKept => k_is)
    (case ggX_NotKept => k_is)
    (case caX_NotKept => k_is)
    (case clX_OtherGroup => k_is)
    (case mroX_OtherGroup => rfl)
    (case tyX_OtherGroup => k_is)
    (case hdX_OtherGroup => k_is)
    (case gaX_OtherGroup => k_is)
    (case ggX_OtherGroup => k_is)
    (case caX_OtherGroup => k_is)
    (case clX_OtherWheel => k_is)
    (case mroX_OtherWheel => rfl)
    (case tyX_OtherWheel => k_is)
    (case hdX_OtherWheel => k_is)
    (case gaX_OtherWheel => k_is)
    (case ggX_OtherWheel => k_is)
    (case caX_OtherWheel => k_is)
    (case clX_TooGreat => k_is)
    (case mroX_TooGreat => rfl)
    (case tyX_TooGreat => k_is)
    (case hdX_TooGreat => k_is)
    (case gaX_TooGreat => k_is)
    (case ggX_TooGreat => k_is)
    (case caX_TooGreat => k_is)
    (case xnd => decide)
    (case xsg => k_is)
    (case xtk => k_is)
#print axioms PySem.Challenge.cw_tracebook_k06_whole_a_group_or_what_show_holds
