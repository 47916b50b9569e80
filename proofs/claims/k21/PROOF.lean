import PyProof.Rows.All
import Wide.All
import OpenK.AllK
import Wide.FinOn
import HandS.ForMost
import HandS.Exc
import HandS.TryOnly
import HandS.ExcOwn
import HandS.WordsExc
import HandS.TupAny
import HandS.Wide
import HandS.SortInts
import HandS.Deep
import HandS.Flow
import HandS.CallSlots
import HandS.IsInst
import HandS.Star
import HandS.RaiseMore
import HandS.Style
import HandS.OwnEq
import HandS.Ends
import KE.GoesMore
import KE.GoesEnum
import HandS.Iter
import HandS.Defaults
import KE.RegKIsAll
import PySem.Challenge.RW_splittalk_k21_chances_of_talks
set_option Elab.async false
set_option linter.all false
set_option maxRecDepth 100000
set_option maxHeartbeats 4000000
/-! Layer D: data, stores, what holds between a store and the abstract heap. -/
namespace DL
open PySem PySem.Spec PyProof.Rows L2
abbrev St := L2.St

/-- data: what never changes -/
inductive D where
  | non | bl (b : Bool) | int (i : Int) | str (x : Str)
  | tup (l : List D) | lst (l : List D)
  | dic (ks : List Key) (l : List D)
  | obj (t : Nat) (ns : List Str) (l : List D)
  /-- the law's own argument -/
  | scr (l : List D)
/-- a value: data, or the k-th object of the store -/
inductive Wv where
  | d (x : D) | m (k : Nat)
/-- an object of the store -/
inductive MO where
  | lst (ws : List Wv) | ins (t : Nat) (ns : List Str) (ws : List Wv) | dic (ks : List Key) (ws : List Wv) | fz (x : D)
abbrev Sto := List MO
abbrev Ev := List (Option Wv)
structure Exn where
  t : Nat
  ns : List Str
  ws : List D
inductive Rs (α : Type) where
  | ok (a : α) (M : Sto) | ex (x : Exn) (M : Sto) | no
def Rs.bind {α β : Type} (r : Rs α) (f : α → Sto → Rs β) : Rs β := match r with
  | .ok a M => f a M
  | .ex x M => .ex x M
  | .no => .no
@[simp] theorem Rs.bind_ok {α β : Type} (a : α) (M : Sto) (f : α → Sto → Rs β) : (Rs.ok a M).bind f = f a M := rfl
@[simp] theorem Rs.bind_ex {α β : Type} (x : Exn) (M : Sto) (f : α → Sto → Rs β) : (Rs.ex x M : Rs α).bind f = .ex x M := rfl
@[simp] theorem Rs.bind_no {α β : Type} (f : α → Sto → Rs β) : (Rs.no : Rs α).bind f = .no := rfl

section
variable (K : PySem.W.Frag) (cA : Nat → Addr)
mutual
def Rep (F : Hp) : D → V → Prop
  | .non, v => v = .non
  | .bl b, v => v = .bl b
  | .int i, v => v = .int i
  | .str x, v => v = .str x
  | .tup l, v => ∃ a vs, v = .ref a ∧ SqT K F a vs ∧ vs.length ≤ sizeLine ∧ RepL F l vs
  | .lst l, v => ∃ a vs, v = .ref a ∧ F a = some (.lst vs) ∧ vs.length ≤ sizeLine ∧ RepL F l vs
  | .scr l, v => ∃ a vs, v = .ref a ∧ SqL K F a vs ∧ vs.length ≤ sizeLine ∧ RepL F l vs
  | .dic ks l, v => ∃ a vs, v = .ref a ∧ F a = some (.dK (ks.zip vs)) ∧ ks.length = vs.length ∧ RepL F l vs
  | .obj t ns l, v => ∃ a dx vs, v = .ref a ∧ F a = some (.ins (cA t) dx (ns.zip vs)) ∧ ns.length = vs.length ∧ RepL F l vs
def RepL (F : Hp) : List D → List V → Prop
  | [], vs => vs = []
  | x :: l, vs => ∃ v r, vs = v :: r ∧ Rep F x v ∧ RepL F l r
end
end
section
variable {K : PySem.W.Frag} {cA : Nat → Addr} {F F' H H' : Hp}
theorem _root_.L2.Same.seqT {K : PySem.W.Frag} {H H' : Hp} {a : Addr} {xs : List V} (e : Same H H') (h : SqT K H a xs) : SqT K H' a xs := by
  rcases h with (h | ⟨o, h⟩) | h
  · exact .inl (.inl (e _ _ h))
  · exact .inl (.inr ⟨o, e _ _ h⟩)
  · exact .inr h
mutual
theorem Rep.mono (s : L2.Same F F') : ∀ {x : D} {v : V}, Rep K cA F x v → Rep K cA F' x v
  | .non, _, h => h
  | .bl _, _, h => h
  | .int _, _, h => h
  | .str _, _, h => h
  | .tup l, _, h => by
    obtain ⟨a, vs, e, h1, h2, h3⟩ := h
    exact ⟨a, vs, e, s.seqT h1, h2, RepL.mono s h3⟩
  | .lst l, _, h => by
    obtain ⟨a, vs, e, h1, h2, h3⟩ := h
    exact ⟨a, vs, e, s _ _ h1, h2, RepL.mono s h3⟩
  | .scr l, _, h => by
    obtain ⟨a, vs, e, h1, h2, h3⟩ := h
    exact ⟨a, vs, e, s.seq h1, h2, RepL.mono s h3⟩
  | .dic ks l, _, h => by
    obtain ⟨a, vs, e, h1, h2, h3⟩ := h
    exact ⟨a, vs, e, s _ _ h1, h2, RepL.mono s h3⟩
  | .obj t ns l, _, h => by
    obtain ⟨a, dx, vs, e, h1, h2, h3⟩ := h
    exact ⟨a, dx, vs, e, s _ _ h1, h2, RepL.mono s h3⟩
theorem RepL.mono (s : L2.Same F F') : ∀ {l : List D} {vs : List V}, RepL K cA F l vs → RepL K cA F' l vs
  | [], _, h => h
  | x :: l, _, h => by
    obtain ⟨v, r, e, h1, h2⟩ := h
    exact ⟨v, r, e, Rep.mono s h1, RepL.mono s h2⟩
end
theorem RepL.length : ∀ {l : List D} {vs : List V}, RepL K cA F l vs → l.length = vs.length
  | [], _, h => by cases (show _ = [] from h); rfl
  | x :: l, _, h => by
    obtain ⟨v, r, e, _, h2⟩ := h
    rw [e, List.length_cons, List.length_cons, RepL.length h2]
theorem RepL.get : ∀ {l : List D} {vs : List V} {i : Nat} {x : D}, RepL K cA F l vs → l[i]? = some x → ∃ v, vs[i]? = some v ∧ Rep K cA F x v
  | [], _, _, _, _, e => by simp at e
  | y :: l, _, 0, x, h, e => by
    obtain ⟨v, r, rfl, h1, _⟩ := h
    have : y = x := by simpa using e
    subst this
    exact ⟨v, rfl, h1⟩
  | y :: l, _, i + 1, x, h, e => by
    obtain ⟨v, r, rfl, _, h2⟩ := h
    obtain ⟨u, q1, q2⟩ := RepL.get (i := i) h2 (by simpa using e)
    exact ⟨u, by simpa using q1, q2⟩
theorem RepL.paired : ∀ {l : List D} {vs : List V}, RepL K cA F l vs → Paired (Rep K cA F) l vs
  | [], _, h => by cases (show _ = [] from h); exact .nil
  | x :: l, _, h => by
    obtain ⟨v, r, rfl, h1, h2⟩ := h
    exact .cons h1 (RepL.paired h2)
theorem RepL.of_paired : ∀ {l : List D} {vs : List V}, Paired (Rep K cA F) l vs → RepL K cA F l vs
  | _, _, .nil => rfl
  | _, _, .cons h t => ⟨_, _, rfl, h, RepL.of_paired t⟩
theorem RepL.append : ∀ {l m : List D} {vs us : List V}, RepL K cA F l vs → RepL K cA F m us → RepL K cA F (l ++ m) (vs ++ us)
  | [], _, _, _, h, q => by cases (show _ = [] from h); exact q
  | x :: l, m, _, us, h, q => by
    obtain ⟨v, r, rfl, h1, h2⟩ := h
    exact ⟨v, r ++ us, rfl, h1, RepL.append h2 q⟩
theorem RepL.take : ∀ {l : List D} {vs : List V} (n : Nat), RepL K cA F l vs → RepL K cA F (l.take n) (vs.take n)
  | _, _, 0, _ => by simp; exact rfl
  | [], _, n + 1, h => by cases (show _ = [] from h); exact rfl
  | x :: l, _, n + 1, h => by
    obtain ⟨v, r, rfl, h1, h2⟩ := h
    exact ⟨v, r.take n, rfl, h1, RepL.take n h2⟩
theorem RepL.drop : ∀ {l : List D} {vs : List V} (n : Nat), RepL K cA F l vs → RepL K cA F (l.drop n) (vs.drop n)
  | _, _, 0, h => by simpa using h
  | [], _, n + 1, h => by cases (show _ = [] from h); exact rfl
  | x :: l, _, n + 1, h => by
    obtain ⟨v, r, rfl, h1, h2⟩ := h
    simpa using RepL.drop n h2
theorem RepL.reverse : ∀ {l : List D} {vs : List V}, RepL K cA F l vs → RepL K cA F l.reverse vs.reverse
  | [], _, h => by cases (show _ = [] from h); exact rfl
  | x :: l, _, h => by
    obtain ⟨v, r, rfl, h1, h2⟩ := h
    rw [List.reverse_cons, List.reverse_cons]
    exact RepL.append (RepL.reverse h2) ⟨v, [], rfl, h1, rfl⟩
end

/-- the hidden part: the frozen heap, where the store's objects stand -/
structure Gh where
  F : Hp
  ad : Nat → Addr
/-- how a def was entered -/
structure Z0 where
  H0 : Hp
  F0 : Hp
  ad0 : Nat → Addr
  n0 : Nat
section
variable (K : PySem.W.Frag) (cA : Nat → Addr)
def RW (g : Gh) (n : Nat) : Wv → V → Prop
  | .d x, v => Rep K cA g.F x v
  | .m k, v => k < n ∧ v = .ref (g.ad k)
def RM (g : Gh) (n : Nat) (H : Hp) (a : Addr) : MO → Prop
  | .lst ws => ∃ vs, H a = some (.lst vs) ∧ g.F a = none ∧ ws.length ≤ sizeLine ∧ Paired (RW K cA g n) ws vs
  | .ins t ns ws => ∃ dx vs, H a = some (.ins (cA t) dx (ns.zip vs)) ∧ g.F a = none ∧ ns.length = vs.length ∧ Paired (RW K cA g n) ws vs
  | .dic ks ws => ∃ vs, H a = some (.dK (ks.zip vs)) ∧ g.F a = none ∧ ks.length = vs.length ∧ Paired (RW K cA g n) ws vs
  | .fz x => Rep K cA g.F x (.ref a) ∧ ∃ o, g.F a = some o
structure Cf (z : Z0) (H : Hp) (M : Sto) (g : Gh) : Prop where
  sub : Same g.F H
  sto : ∀ k mo, M[k]? = some mo → RM K cA g M.length H (g.ad k) mo
  inj : ∀ j k, j < M.length → k < M.length → g.ad j = g.ad k → j = k
  f0 : Same z.F0 g.F
  fr : ∀ a o, z.H0 a = some o → (∀ k, k < z.n0 → a ≠ z.ad0 k) → H a = some o
  fs : ∀ a, g.F a ≠ none → z.F0 a ≠ none ∨ z.H0 a = none ∨ ∃ k, k < z.n0 ∧ a = z.ad0 k
  ad : ∀ k, k < z.n0 → g.ad k = z.ad0 k
  nw : ∀ k, z.n0 ≤ k → k < M.length → z.H0 (g.ad k) = none
  ln : z.n0 ≤ M.length
def Slots (g : Gh) (n : Nat) (env : Ev) (σ : St) : Prop := env.length = σ.length ∧ ∀ (i : Nat) (w : Wv), env[i]? = some (some w) → ∃ v, σ[i]? = some (some v) ∧ RW K cA g n w v
def RX (g : Gh) (x : Exn) (cls : Value) (d : Option Addr) : Prop :=
  cls = .ref (cA x.t) ∧ ((x.ns = [] ∧ x.ws = [] ∧ d = none) ∨ ∃ dd vs, d = some dd ∧ g.F dd = some (.xd (x.ns.zip vs)) ∧ x.ns.length = vs.length ∧ RepL K cA g.F x.ws vs)
end
structure Le (g : Gh) (n : Nat) (g' : Gh) (n' : Nat) : Prop where
  F : Same g.F g'.F
  ad : ∀ k, k < n → g'.ad k = g.ad k
  ln : n ≤ n'
theorem Le.refl {g : Gh} {n : Nat} : Le g n g n := ⟨Same.refl _, fun _ _ => rfl, Nat.le_refl _⟩
theorem Le.trans {g g1 g2 : Gh} {n n1 n2 : Nat} (a : Le g n g1 n1) (b : Le g1 n1 g2 n2) : Le g n g2 n2 :=
  ⟨a.F.trans b.F, fun k h => (b.ad k (Nat.lt_of_lt_of_le h a.ln)).trans (a.ad k h), Nat.le_trans a.ln b.ln⟩
section
variable {K : PySem.W.Frag} {cA : Nat → Addr} {z : Z0} {H H' : Hp} {M M' : Sto} {g g' : Gh} {n n' : Nat} {env : Ev} {σ : St}
theorem RW.mono (l : Le g n g' n') : ∀ {w : Wv} {v : V}, RW K cA g n w v → RW K cA g' n' w v
  | .d _, _, h => Rep.mono l.F h
  | .m k, _, h => ⟨Nat.lt_of_lt_of_le h.1 l.ln, by rw [l.ad k h.1]; exact h.2⟩
theorem Paired.imp' {α β : Type} {P Q : α → β → Prop} (i : ∀ a b, P a b → Q a b) : ∀ {l : List α} {r : List β}, Paired P l r → Paired Q l r
  | _, _, .nil => .nil
  | _, _, .cons h t => .cons (i _ _ h) (Paired.imp' i t)
theorem RWs.mono (l : Le g n g' n') {ws : List Wv} {vs : List V} (h : Paired (RW K cA g n) ws vs) : Paired (RW K cA g' n') ws vs := Paired.imp' (fun _ _ q => q.mono l) h
theorem Slots.mono (l : Le g n g' n') (h : Slots K cA g n env σ) : Slots K cA g' n' env σ :=
  ⟨h.1, fun i w e => let ⟨v, e1, r⟩ := h.2 i w e; ⟨v, e1, r.mono l⟩⟩
theorem Slots.set (h : Slots K cA g n env σ) {w : Wv} {v : V} (r : RW K cA g n w v) (i : Nat) : Slots K cA g n (env.set i (some w)) (σ.set i (some v)) := by
  refine ⟨by rw [List.length_set, List.length_set]; exact h.1, fun j u e => ?_⟩
  by_cases hj : i = j
  · subst hj
    by_cases hl : i < env.length
    · rw [List.getElem?_set_self hl] at e
      have : w = u := Option.some.inj (Option.some.inj e)
      subst this
      exact ⟨v, by rw [List.getElem?_set_self (by rw [← h.1]; exact hl)], r⟩
    · rw [List.getElem?_eq_none_iff.mpr (by rw [List.length_set]; omega)] at e
      cases e
  · rw [List.getElem?_set_ne hj] at e
    obtain ⟨v', e1, r1⟩ := h.2 j u e
    exact ⟨v', by rw [List.getElem?_set_ne hj]; exact e1, r1⟩
/-- forgetting a slot -/
theorem Slots.gone (h : Slots K cA g n env σ) (i : Nat) : Slots K cA g n (env.set i none) (σ.set i none) := by
  refine ⟨by rw [List.length_set, List.length_set]; exact h.1, fun j u e => ?_⟩
  by_cases hj : i = j
  · subst hj
    by_cases hl : i < env.length
    · rw [List.getElem?_set_self hl] at e
      cases e
    · rw [List.getElem?_eq_none_iff.mpr (by rw [List.length_set]; omega)] at e
      cases e
  · rw [List.getElem?_set_ne hj] at e
    obtain ⟨v', e1, r1⟩ := h.2 j u e
    exact ⟨v', by rw [List.getElem?_set_ne hj]; exact e1, r1⟩
theorem Paired.get' {α β : Type} {P : α → β → Prop} : ∀ {l : List α} {r : List β} {i : Nat} {a : α}, Paired P l r → l[i]? = some a → ∃ b, r[i]? = some b ∧ P a b
  | _, _, _, _, .nil, e => by simp at e
  | _, _, 0, _, .cons h _, e => by simp at e; subst e; exact ⟨_, rfl, h⟩
  | _, _, i + 1, a, .cons _ t, e => by
    obtain ⟨b, h1, h2⟩ := Paired.get' (i := i) t (by simpa using e)
    exact ⟨b, by simpa using h1, h2⟩
theorem Paired.append' {α β : Type} {P : α → β → Prop} : ∀ {l m : List α} {r s : List β}, Paired P l r → Paired P m s → Paired P (l ++ m) (r ++ s)
  | _, _, _, _, .nil, q => q
  | _, _, _, _, .cons h t, q => .cons h (Paired.append' t q)
theorem Paired.set' {α β : Type} {P : α → β → Prop} {a : α} {b : β} (h : P a b) : ∀ {l : List α} {r : List β} (i : Nat), Paired P l r → Paired P (l.set i a) (r.set i b)
  | _, _, _, .nil => .nil
  | _, _, 0, .cons _ t => .cons h t
  | _, _, i + 1, .cons q t => .cons q (Paired.set' h i t)
theorem Paired.length' {α β : Type} {P : α → β → Prop} : ∀ {l : List α} {r : List β}, Paired P l r → l.length = r.length
  | _, _, .nil => rfl
  | _, _, .cons _ t => by rw [List.length_cons, List.length_cons, Paired.length' t]
theorem Paired.take' {α β : Type} {P : α → β → Prop} : ∀ {l : List α} {r : List β} (n : Nat), Paired P l r → Paired P (l.take n) (r.take n)
  | _, _, 0, _ => .nil
  | _, _, _ + 1, .nil => .nil
  | _, _, n + 1, .cons h t => .cons h (Paired.take' n t)
theorem Paired.drop' {α β : Type} {P : α → β → Prop} : ∀ {l : List α} {r : List β} (n : Nat), Paired P l r → Paired P (l.drop n) (r.drop n)
  | _, _, 0, h => h
  | _, _, _ + 1, .nil => .nil
  | _, _, n + 1, .cons _ t => Paired.drop' n t
theorem Paired.eraseIdx' {α β : Type} {P : α → β → Prop} : ∀ {l : List α} {r : List β} (n : Nat), Paired P l r → Paired P (l.eraseIdx n) (r.eraseIdx n)
  | _, _, _, .nil => .nil
  | _, _, 0, .cons _ t => t
  | _, _, n + 1, .cons h t => .cons h (Paired.eraseIdx' n t)

theorem RM.some_ {a : Addr} (s : Same g.F H) : ∀ {mo : MO}, RM K cA g n H a mo → ∃ o, H a = some o
  | .lst _, h => let ⟨_, e, _⟩ := h; ⟨_, e⟩
  | .ins _ _ _, h => let ⟨_, _, e, _⟩ := h; ⟨_, e⟩
  | .dic _ _, h => let ⟨_, e, _⟩ := h; ⟨_, e⟩
  | .fz _, h => let ⟨_, o, e⟩ := h; ⟨o, s _ _ e⟩
theorem Cf.st (c : Cf K cA z H M g) {k : Nat} (h : k < M.length) : ∃ o, H (g.ad k) = some o :=
  (c.sto k M[k] (List.getElem?_eq_getElem h)).some_ c.sub
/-- a free address is not one that the def was entered with -/
theorem Cf.free0 (c : Cf K cA z H M g) {p : Addr} (hp : H p = none) : z.H0 p = none ∧ ∀ k, k < M.length → g.ad k ≠ p := by
  have h2 : ∀ k, k < M.length → g.ad k ≠ p := fun k hk e => by
    obtain ⟨o, q⟩ := c.st hk
    rw [e, hp] at q
    cases q
  refine ⟨?_, h2⟩
  cases e : z.H0 p with
  | none => rfl
  | some o =>
    have q := c.fr p o e fun k hk z1 => h2 k (Nat.lt_of_lt_of_le hk c.ln) (by rw [c.ad k hk]; exact z1.symm)
    rw [hp] at q
    cases q
theorem Same.upd' {H : Hp} {p : Addr} {o : HO} (h : H p = none) : Same H (upd H p o) := fun b x e => by
  rw [upd_ne (ne_of_none e h)]
  exact e
/-- other objects of the store stay when a is written -/
theorem RM.keep {b : Addr} (l : Le g n g' n') (h1 : H' b = H b) (h2 : g.F b = none → g'.F b = none) : ∀ {mo : MO}, RM K cA g n H b mo → RM K cA g' n' H' b mo
  | .lst ws, h => let ⟨vs, e, f, s, r⟩ := h; ⟨vs, h1.trans e, h2 f, s, RWs.mono l r⟩
  | .ins t ns ws, h => let ⟨dx, vs, e, f, s, r⟩ := h; ⟨dx, vs, h1.trans e, h2 f, s, RWs.mono l r⟩
  | .dic ks ws, h => let ⟨vs, e, f, s, r⟩ := h; ⟨vs, h1.trans e, h2 f, s, RWs.mono l r⟩
  | .fz x, h => let ⟨r, o, e⟩ := h; ⟨Rep.mono l.F r, o, l.F _ _ e⟩
/-- a new frozen object -/
theorem Cf.lay (c : Cf K cA z H M g) {p : Addr} {ho : HO} (hp : H p = none) : Cf K cA z (upd H p ho) M { g with F := upd g.F p ho } ∧ Le g M.length { g with F := upd g.F p ho } M.length := by
  have fp : g.F p = none := c.sub.free hp
  have l : Le g M.length { g with F := upd g.F p ho } M.length := ⟨Same.upd' fp, fun _ _ => rfl, Nat.le_refl _⟩
  obtain ⟨h0, hne⟩ := c.free0 hp
  refine ⟨⟨fun b o e => ?_, fun k mo e => ?_, c.inj, c.f0.trans (Same.upd' fp), fun a o e h => ?_, fun a h => ?_, c.ad, c.nw, c.ln⟩, l⟩
  · by_cases hb : b = p
    · subst hb
      have e' : upd g.F b ho b = some o := e
      rw [upd_same] at e'
      rw [upd_same]
      exact e'
    · rw [upd_ne hb]
      have e' : upd g.F p ho b = some o := e
      rw [upd_ne hb] at e'
      exact c.sub _ _ e'
  · have hk : k < M.length := by
      rcases List.getElem?_eq_some_iff.mp e with ⟨h, _⟩
      exact h
    have nb := hne k hk
    exact (c.sto k mo e).keep l (upd_ne nb) fun f => (upd_ne (H := g.F) (o := ho) nb).trans f
  · rw [upd_ne (ne_of_none (c.fr a o e h) hp)]
    exact c.fr a o e h
  · by_cases hb : a = p
    · subst hb
      exact .inr (.inl h0)
    · have h' : upd g.F p ho a ≠ none := h
      rw [upd_ne hb] at h'
      exact c.fs a h'
/-- a new object of the store -/
def Gh.add (g : Gh) (n : Nat) (p : Addr) : Gh := { F := g.F, ad := fun k => if k = n then p else g.ad k }
theorem Cf.new (c : Cf K cA z H M g) {p : Addr} {ho : HO} {mo : MO} (hp : H p = none) (hm : RM K cA (g.add M.length p) (M.length + 1) (upd H p ho) p mo) :
    Cf K cA z (upd H p ho) (M ++ [mo]) (g.add M.length p) ∧ Le g M.length (g.add M.length p) (M ++ [mo]).length := by
  have fp : g.F p = none := c.sub.free hp
  have hl : (M ++ [mo]).length = M.length + 1 := by rw [List.length_append]; rfl
  have adk : ∀ k, k < M.length → (g.add M.length p).ad k = g.ad k := fun k hk => if_neg (Nat.ne_of_lt hk)
  have adn : (g.add M.length p).ad M.length = p := if_pos rfl
  have l : Le g M.length (g.add M.length p) (M ++ [mo]).length := ⟨Same.refl _, adk, by rw [hl]; omega⟩
  obtain ⟨h0, hne⟩ := c.free0 hp
  refine ⟨⟨fun b o e => ?_, fun k m e => ?_, fun j k hj hk e => ?_, c.f0, fun a o e h => ?_, c.fs, fun k hk => ?_, fun k h1 h2 => ?_, by rw [hl]; exact Nat.le_succ_of_le c.ln⟩, l⟩
  · rw [upd_ne (ne_of_none (c.sub b o e) hp)]
    exact c.sub b o e
  · by_cases hk : k < M.length
    · rw [List.getElem?_append_left hk] at e
      rw [adk k hk]
      have nb := hne k hk
      exact (c.sto k m e).keep l (upd_ne nb) fun f => f
    · have hk2 : k = M.length := by
        rcases List.getElem?_eq_some_iff.mp e with ⟨h, _⟩
        rw [hl] at h
        omega
      subst hk2
      have : mo = m := by
        rw [List.getElem?_append_right (Nat.le_refl _), Nat.sub_self] at e
        simpa using e
      subst this
      rw [adn, hl]
      exact hm
  · rw [hl] at hj hk
    by_cases h1 : j < M.length
    · by_cases h2 : k < M.length
      · rw [adk j h1, adk k h2] at e
        exact c.inj j k h1 h2 e
      · have : k = M.length := by omega
        subst this
        rw [adk j h1, adn] at e
        exact absurd e (hne j h1)
    · have : j = M.length := by omega
      subst this
      by_cases h2 : k < M.length
      · rw [adk k h2, adn] at e
        exact absurd e.symm (hne k h2)
      · omega
  · rw [upd_ne (ne_of_none (c.fr a o e h) hp)]
    exact c.fr a o e h
  · rw [adk k (Nat.lt_of_lt_of_le hk c.ln)]
    exact c.ad k hk
  · rw [hl] at h2
    by_cases h3 : k < M.length
    · rw [adk k h3]
      exact c.nw k h1 h3
    · have : k = M.length := by omega
      subst this
      rw [adn]
      exact h0
/-- an object of the store is written -/
theorem Cf.put (c : Cf K cA z H M g) {k : Nat} {ho : HO} {mo : MO} (hk : k < M.length) (hf : g.F (g.ad k) = none) (hm : RM K cA g M.length (upd H (g.ad k) ho) (g.ad k) mo) :
    Cf K cA z (upd H (g.ad k) ho) (M.set k mo) g := by
  have hl : (M.set k mo).length = M.length := List.length_set
  refine ⟨fun b o e => ?_, fun j m e => ?_, fun j k' hj hk' e => ?_, c.f0, fun a o e h => ?_, c.fs, c.ad, fun j h1 h2 => ?_, by rw [hl]; exact c.ln⟩
  · have : b ≠ g.ad k := fun q => by
      rw [q, hf] at e
      cases e
    rw [upd_ne this]
    exact c.sub b o e
  · rw [hl]
    by_cases hj : k = j
    · subst hj
      rw [List.getElem?_set_self hk] at e
      have : mo = m := Option.some.inj e
      subst this
      exact hm
    · rw [List.getElem?_set_ne hj] at e
      have hjl : j < M.length := by
        rcases List.getElem?_eq_some_iff.mp e with ⟨h, _⟩
        exact h
      have nb : g.ad j ≠ g.ad k := fun q => hj (c.inj j k hjl hk q).symm
      exact (c.sto j m e).keep Le.refl (upd_ne nb) fun f => f
  · rw [hl] at hj hk'
    exact c.inj j k' hj hk' e
  · have : a ≠ g.ad k := fun q => by
      by_cases h3 : k < z.n0
      · exact h k h3 (by rw [q]; exact c.ad k h3)
      · have := c.nw k (by omega) hk
        rw [← q, e] at this
        cases this
    rw [upd_ne this]
    exact c.fr a o e h
  · rw [hl] at h2
    exact c.nw j h1 h2
end
end DL

/-! Layer D: judgements by functions. -/
namespace DL
open PySem PySem.Spec PyProof.Rows L2

abbrev ED := Ev → Sto → Rs Wv
abbrev TD := Ev → Sto → Rs Bool
abbrev AD := Ev → Sto → Rs (List Wv)
inductive Out where
  | nx (e : Ev) | rt (w : Wv) | bk (e : Ev) | ct (e : Ev) | xc (e : Ev) (x : Exn)
abbrev SD := Ev → Sto → Rs Out

section
variable (K : PySem.W.Frag) (cA : Nat → Addr)
/-- what is to hold behind a step -/
def Res {α : Type} (z : Z0) (g : Gh) (n : Nat) (E : Exn → Sto → Gh → Hp → Prop) (r : Rs α) (P : α → Sto → Gh → Hp → Prop) : Prop := match r with
  | .ok a M' => ∀ H' g', Cf K cA z H' M' g' → Le g n g' M'.length → P a M' g' H'
  | .ex x M' => ∀ H' g', Cf K cA z H' M' g' → Le g n g' M'.length → E x M' g' H'
  | .no => False
/-- an exception's wish -/
def EX (Wx : WX) (σ : St) : Exn → Sto → Gh → Hp → Prop := fun x _ g' H' => ∀ cls d, RX K cA g' x cls d → Wx cls d σ H'
def TED (Wx : WX) (m : ED) : TE := fun σ H Q => ∃ z env M g, Cf K cA z H M g ∧ Slots K cA g M.length env σ ∧ Res K cA z g M.length (EX K cA Wx σ) (m env M) fun w M' g' H' => ∀ v, RW K cA g' M'.length w v → Q v H'
def TTD (Wx : WX) (m : TD) : TT := fun σ H Q => ∃ z env M g, Cf K cA z H M g ∧ Slots K cA g M.length env σ ∧ Res K cA z g M.length (EX K cA Wx σ) (m env M) fun b M' g' H' => Q b H'
def TAD (Wx : WX) (m : AD) : TA := fun σ H Q => ∃ z env M g, Cf K cA z H M g ∧ Slots K cA g M.length env σ ∧ Res K cA z g M.length (EX K cA Wx σ) (m env M) fun ws M' g' H' => ∀ vs, Paired (RW K cA g' M'.length) ws vs → Q vs H'
def OutP (Wx : WX) (D : Ends) : Out → Sto → Gh → Hp → Prop := fun o M' g' H' => match o with
  | .nx e => ∀ σ', Slots K cA g' M'.length e σ' → D.nx σ' H'
  | .bk e => ∀ σ', Slots K cA g' M'.length e σ' → D.bk σ' H'
  | .ct e => ∀ σ', Slots K cA g' M'.length e σ' → D.ct σ' H'
  | .rt w => ∀ v, RW K cA g' M'.length w v → D.rt v H'
  | .xc e x => ∀ σ' cls d, Slots K cA g' M'.length e σ' → RX K cA g' x cls d → Wx cls d σ' H'
def TSD (Wx : WX) (m : SD) : TS := fun D σ H => ∃ z env M g, Cf K cA z H M g ∧ Slots K cA g M.length env σ ∧ Res K cA z g M.length (fun _ _ _ _ => False) (m env M) (OutP K cA Wx D)
end

section
variable {K : PySem.W.Frag} {cA : Nat → Addr} {z : Z0} {g g1 : Gh} {n n1 : Nat} {E : Exn → Sto → Gh → Hp → Prop} {α β : Type} {Wx : WX}
theorem Res.imp {r : Rs α} {P P' : α → Sto → Gh → Hp → Prop} (i : ∀ a M' g' H', Cf K cA z H' M' g' → Le g n g' M'.length → P a M' g' H' → P' a M' g' H') (h : Res K cA z g n E r P) : Res K cA z g n E r P' := by
  cases r with
  | ok a M' => exact fun H' g' c l => i a M' g' H' c l (h H' g' c l)
  | ex x M' => exact h
  | no => exact h
theorem Res.later {r : Rs α} {P : α → Sto → Gh → Hp → Prop} (l1 : Le g n g1 n1) (h : Res K cA z g n E r P) : Res K cA z g1 n1 E r P := by
  cases r with
  | ok a M' => exact fun H' g' c l => h H' g' c (l1.trans l)
  | ex x M' => exact fun H' g' c l => h H' g' c (l1.trans l)
  | no => exact h
theorem Res.of_bind {r : Rs α} {f : α → Sto → Rs β} {P : β → Sto → Gh → Hp → Prop} (h : Res K cA z g n E (r.bind f) P) :
    Res K cA z g n E r fun a M1 g1 _ => Res K cA z g1 M1.length E (f a M1) P := by
  cases r with
  | ok a M' =>
    intro H' g' c l
    have h' : Res K cA z g n E (f a M') P := h
    exact h'.later l
  | ex x M' => exact h
  | no => exact h
end
theorem PE.imp {X : Cx} {e : Expr} {t t' : TE} (h : PE X e t) (i : ∀ σ H Q, t' σ H Q → t σ H Q) : PE X e t' := ⟨fun pins s σ H Q I q => h.run pins s σ H Q I (i σ H Q q)⟩
theorem PT.imp {X : Cx} {e : Expr} {t t' : TT} (h : PT X e t) (i : ∀ σ H Q, t' σ H Q → t σ H Q) : PT X e t' := ⟨fun pins s σ H Q I q => h.run pins s σ H Q I (i σ H Q q)⟩
theorem PW.imp {X : Cx} {e : Expr} {t t' : TT} (h : PW X e t) (i : ∀ σ H Q, t' σ H Q → t σ H Q) : PW X e t' := ⟨fun wh pins s σ H Q I q => h.run wh pins s σ H Q I (i σ H Q q)⟩
theorem PA.imp {X : Cx} {e : List Expr} {t t' : TA} (h : PA X e t) (i : ∀ σ H Q, t' σ H Q → t σ H Q) : PA X e t' := ⟨fun p pins s σ H Q I q => h.run p pins s σ H Q I (i σ H Q q)⟩
theorem PS.imp {X : Cx} {e : Stmt} {t t' : TS} (h : PS X e t) (i : ∀ D σ H, t' D σ H → t D σ H) : PS X e t' := ⟨fun pins s σ H D I q => h.run pins s σ H D I (i D σ H q)⟩
theorem PSs.imp {X : Cx} {e : List Stmt} {t t' : TS} (h : PSs X e t) (i : ∀ D σ H, t' D σ H → t D σ H) : PSs X e t' := ⟨fun pins s σ H D I q => h.run pins s σ H D I (i D σ H q)⟩
theorem PI.imp {X : Cx} {tg e : Expr} {t t' : TI} (h : PI X tg e t) (i : ∀ σ H R, t' σ H R → t σ H R) : PI X tg e t' := ⟨fun pins s σ H R I q => h.run pins s σ H R I (i σ H R q)⟩

/-! ### data of a value -/
def nd (M : Sto) : Wv → Option D
  | .d x => some x
  | .m k => match M[k]? with
    | some (.fz x) => some x
    | _ => none
section
variable {K : PySem.W.Frag} {cA : Nat → Addr} {z : Z0} {g : Gh} {n : Nat} {H : Hp} {M : Sto}
theorem nd_rep (c : Cf K cA z H M g) : ∀ {w : Wv} {v : V} {x : D}, RW K cA g M.length w v → nd M w = some x → Rep K cA g.F x v
  | .d _, _, _, r, e => by cases (Option.some.inj e); exact r
  | .m k, v, x, r, e => by
    obtain ⟨hk, rfl⟩ := r
    cases q : M[k]? with
    | none => simp [nd, q] at e
    | some mo =>
      cases mo with
      | fz y =>
        have : y = x := by simpa [nd, q] using e
        subst this
        exact (c.sto k _ q).1
      | _ => simp [nd, q] at e
end
/-- a data step as a step -/
def rsd (M : Sto) : Option D → Rs Wv
  | some x => .ok (.d x) M
  | none => .no
@[simp] theorem rsd_some (M : Sto) (x : D) : rsd M (some x) = .ok (.d x) M := rfl
@[simp] theorem rsd_none (M : Sto) : rsd M none = .no := rfl
def pu1 (f : D → Option D) (w : Wv) (M : Sto) : Rs Wv := rsd M ((nd M w).bind f)
def pu2 (f : D → D → Option D) (w u : Wv) (M : Sto) : Rs Wv := rsd M ((nd M w).bind fun x => (nd M u).bind fun y => f x y)
@[simp] theorem nd_d (M : Sto) (x : D) : nd M (.d x) = some x := rfl
@[simp] theorem pu1_d (f : D → Option D) (x : D) (M : Sto) : pu1 f (.d x) M = rsd M (f x) := rfl
@[simp] theorem pu2_d (f : D → D → Option D) (x y : D) (M : Sto) : pu2 f (.d x) (.d y) M = rsd M (f x y) := rfl

/-! ### expressions -/
section
variable {X : Cx} {cA : Nat → Addr} {Wx : WX}
def eVar (i : Nat) : ED := fun env M => match env[i]? with
  | some (some w) => .ok w M
  | _ => .no
theorem d_var {e : Expr} (i : Nat) (h : PE X e (tVar i)) : PE X e (TED X.K cA Wx (eVar i)) := by
  refine PE.imp h fun σ H Q ⟨z, env, M, g, c, sl, r⟩ => ?_
  cases q : env[i]? with
  | none => simp [eVar, q, Res] at r
  | some o =>
    cases o with
    | none => simp [eVar, q, Res] at r
    | some w =>
      obtain ⟨v, e1, rw1⟩ := sl.2 i w q
      simp only [eVar, q] at r
      exact ⟨v, e1, r H g c Le.refl v rw1⟩
def eC (x : D) : ED := fun _ M => .ok (.d x) M
theorem d_c {e : Expr} {x : D} {v : V} (h : PE X e (tC v)) (r : ∀ F, Rep X.K cA F x v) : PE X e (TED X.K cA Wx (eC x)) :=
  PE.imp h fun σ H Q ⟨z, env, M, g, c, sl, q⟩ => q H g c Le.refl v (r _)
theorem d_int {i j pos} : PE X (.Constant (.int i) j pos) (TED X.K cA Wx (eC (.int i))) := d_c pe_int fun _ => rfl
theorem d_bl {b j pos} : PE X (.Constant (.bool b) j pos) (TED X.K cA Wx (eC (.bl b))) := d_c pe_bl fun _ => rfl
theorem d_non {j pos} : PE X (.Constant .none j pos) (TED X.K cA Wx (eC .non)) := d_c pe_non fun _ => rfl
theorem d_str {x j pos} : PE X (.Constant (.str x) j pos) (TED X.K cA Wx (eC (.str x))) := d_c pe_str fun _ => rfl

/-- two values -/
def e2 (f : Wv → Wv → Sto → Rs Wv) (a b : ED) : ED := fun env M => (a env M).bind fun wa M1 => (b env M1).bind fun wb M2 => f wa wb M2
def e1 (f : Wv → Sto → Rs Wv) (a : ED) : ED := fun env M => (a env M).bind fun wa M1 => f wa M1
/-- what a two-place rule has to show -/
def Ok2 (K : PySem.W.Frag) (cA : Nat → Addr) (f : Wv → Wv → Sto → Rs Wv) (r : R2) : Prop := ∀ (z : Z0) (g : Gh) (H : Hp) (M : Sto) (E : Exn → Sto → Gh → Hp → Prop) (wx wy : Wv) (x y : V) (Q : VK), Cf K cA z H M g → RW K cA g M.length wx x → RW K cA g M.length wy y →
  Res K cA z g M.length E (f wx wy M) (fun w M' g' H' => ∀ v, RW K cA g' M'.length w v → Q v H') → r x y H Q
def Ok1 (K : PySem.W.Frag) (cA : Nat → Addr) (f : Wv → Sto → Rs Wv) (r : V → Hp → VK → Prop) : Prop := ∀ (z : Z0) (g : Gh) (H : Hp) (M : Sto) (E : Exn → Sto → Gh → Hp → Prop) (wx : Wv) (x : V) (Q : VK), Cf K cA z H M g → RW K cA g M.length wx x →
  Res K cA z g M.length E (f wx M) (fun w M' g' H' => ∀ v, RW K cA g' M'.length w v → Q v H') → r x H Q
theorem ted2 {ma mb : ED} {f : Wv → Wv → Sto → Rs Wv} {r : R2} (k : Ok2 X.K cA f r) {σ : St} {H : Hp} {Q : VK} (h : TED X.K cA Wx (e2 f ma mb) σ H Q) : tOp r (TED X.K cA Wx ma) (TED X.K cA Wx mb) σ H Q := by
  obtain ⟨z, env, M, g, c, sl, q⟩ := h
  refine ⟨z, env, M, g, c, sl, Res.imp (fun wa M1 g1 H1 c1 l1 q1 x rx => ?_) q.of_bind⟩
  refine ⟨z, env, M1, g1, c1, sl.mono l1, Res.imp (fun wb M2 g2 H2 c2 l2 q2 y ry => ?_) q1.of_bind⟩
  exact k z g2 H2 M2 _ wa wb x y Q c2 (rx.mono l2) ry q2
theorem ted1 {ma : ED} {f : Wv → Sto → Rs Wv} {r : V → Hp → VK → Prop} (k : Ok1 X.K cA f r) {σ : St} {H : Hp} {Q : VK} (h : TED X.K cA Wx (e1 f ma) σ H Q) : tUn r (TED X.K cA Wx ma) σ H Q := by
  obtain ⟨z, env, M, g, c, sl, q⟩ := h
  refine ⟨z, env, M, g, c, sl, Res.imp (fun wa M1 g1 H1 c1 l1 q1 x rx => ?_) q.of_bind⟩
  exact k z g1 H1 M1 _ wa x Q c1 rx q1
/-- a pure two-place rule by data -/
theorem ok2_pure {K : PySem.W.Frag} {f : D → D → Option D} {r : R2} (k : ∀ F a b d x y H Q, Same F H → Rep K cA F a x → Rep K cA F b y → f a b = some d → (∀ v, Rep K cA F d v → Q v H) → r x y H Q) : Ok2 K cA (pu2 f) r := by
  intro z g H M E wx wy x y Q c rx ry q
  cases ea : nd M wx with
  | none => simp [pu2, ea, Res] at q
  | some a =>
    cases eb : nd M wy with
    | none => simp [pu2, ea, eb, Res] at q
    | some b =>
      cases ed : f a b with
      | none => simp [pu2, ea, eb, ed, Res] at q
      | some d =>
        simp only [pu2, ea, eb, ed, Option.bind_some, rsd_some] at q
        exact k g.F a b d x y H Q c.sub (nd_rep c rx ea) (nd_rep c ry eb) ed fun v r => q H g c Le.refl v r
theorem ok1_pure {K : PySem.W.Frag} {f : D → Option D} {r : V → Hp → VK → Prop} (k : ∀ F a d x H Q, Same F H → Rep K cA F a x → f a = some d → (∀ v, Rep K cA F d v → Q v H) → r x H Q) : Ok1 K cA (pu1 f) r := by
  intro z g H M E wx x Q c rx q
  cases ea : nd M wx with
  | none => simp [pu1, ea, Res] at q
  | some a =>
    cases ed : f a with
    | none => simp [pu1, ea, ed, Res] at q
    | some d =>
      simp only [pu1, ea, ed, Option.bind_some, rsd_some] at q
      exact k g.F a d x H Q c.sub (nd_rep c rx ea) ed fun v r => q H g c Le.refl v r
end
end DL

/-! Layer D: operators. -/
namespace DL
open PySem PySem.Spec PyProof.Rows L2

theorem opOr {X : Cx} {f : Value → Value → Sem Value} {r r' : R2} (h : OpR X f r) (h' : OpR X f r') : OpR X f (fun x y H Q => r x y H Q ∨ r' x y H Q) := by
  intro pins s σ H x y v u Q I rx ry q
  rcases q with q | q
  · exact h pins s σ H x y v u Q I rx ry q
  · exact h' pins s σ H x y v u Q I rx ry q
theorem callOr {X : Cx} {f : Value} {r r' : List V → Hp → VK → Prop} (h : CallR X f r) (h' : CallR X f r') : CallR X f (fun xs H Q => r xs H Q ∨ r' xs H Q) := by
  intro pins s σ H xs us Q I rs q
  rcases q with q | q
  · exact h pins s σ H xs us Q I rs q
  · exact h' pins s σ H xs us Q I rs q

/-! ### == -/
mutual
def D.toP : D → Option PyData
  | .non => some .none
  | .bl b => some (.bool b)
  | .int i => some (.int i)
  | .str x => some (.str x)
  | .tup l => (D.toPs l).map .tuple
  | .lst l => (D.toPs l).map .list
  | .scr l => (D.toPs l).map .list
  | .dic _ _ => none
  | .obj _ _ _ => none
def D.toPs : List D → Option (List PyData)
  | [] => some []
  | x :: l => match D.toP x, D.toPs l with
    | some p, some ps => some (p :: ps)
    | _, _ => none
end
section
variable {K : PySem.W.Frag} {cA : Nat → Addr} {F H : Hp}
mutual
theorem toP_dp (s : L2.Same F H) : ∀ {x : D} {v : V} {p : PyData}, Rep K cA F x v → x.toP = some p → Dp K H v p
  | .non, _, _, r, e => by cases (show _ = V.non from r); cases e; exact .non
  | .bl b, _, _, r, e => by cases (show _ = V.bl b from r); cases e; exact .bl b
  | .int b, _, _, r, e => by cases (show _ = V.int b from r); cases e; exact .int b
  | .str b, _, _, r, e => by cases (show _ = V.str b from r); cases e; exact .str b
  | .tup l, _, _, r, e => by
    obtain ⟨a, vs, rfl, h1, _, h3⟩ := r
    cases q : D.toPs l with
    | none => simp [D.toP, q] at e
    | some ps =>
      have : _ = some _ := e
      simp [D.toP, q] at e
      subst e
      exact .tup (s.seqT h1) (toPs_dp s h3 q)
  | .lst l, _, _, r, e => by
    obtain ⟨a, vs, rfl, h1, _, h3⟩ := r
    cases q : D.toPs l with
    | none => simp [D.toP, q] at e
    | some ps =>
      simp [D.toP, q] at e
      subst e
      exact .lst (SqL.of (s _ _ h1)) (toPs_dp s h3 q)
  | .scr l, _, _, r, e => by
    obtain ⟨a, vs, rfl, h1, _, h3⟩ := r
    cases q : D.toPs l with
    | none => simp [D.toP, q] at e
    | some ps =>
      simp [D.toP, q] at e
      subst e
      exact .lst (s.seq h1) (toPs_dp s h3 q)
  | .dic _ _, _, _, _, e => by simp [D.toP] at e
  | .obj _ _ _, _, _, _, e => by simp [D.toP] at e
theorem toPs_dp (s : L2.Same F H) : ∀ {l : List D} {vs : List V} {ps : List PyData}, RepL K cA F l vs → D.toPs l = some ps → DpAll K H vs ps
  | [], _, _, r, e => by cases (show _ = [] from r); cases e; exact .nil
  | x :: l, _, _, r, e => by
    obtain ⟨v, r', rfl, h1, h2⟩ := r
    cases q : D.toP x with
    | none => simp [D.toPs, q] at e
    | some p =>
      cases q2 : D.toPs l with
      | none => simp [D.toPs, q, q2] at e
      | some ps =>
        simp [D.toPs, q, q2] at e
        subst e
        exact .cons (toP_dp s h1 q) (toPs_dp s h2 q2)
end
end
def peq (a b : D) : Option Bool := match a.toP, b.toP with
  | some p, some q => if SeqAt.shaped p && SeqAt.shaped q then some (PyData.eqv p q) else none
  | _, _ => none
def dEq (a b : D) : Option D := (peq a b).map .bl
def dNe (a b : D) : Option D := (peq a b).map fun k => .bl (!k)
theorem peq_some {a b : D} {k : Bool} (h : peq a b = some k) : ∃ p q, a.toP = some p ∧ b.toP = some q ∧ SeqAt.shaped p = true ∧ SeqAt.shaped q = true ∧ k = PyData.eqv p q := by
  unfold peq at h
  split at h
  · rename_i p q e1 e2
    split at h
    · rename_i hs
      rw [Bool.and_eq_true] at hs
      exact ⟨p, q, e1, e2, hs.1, hs.2, (Option.some.inj h).symm⟩
    · cases h
  · cases h
section
variable {X : Cx} {cA : Nat → Addr} {Wx : WX} {a b c : Expr} {ma mb mc : ED} {pos : Pos}
theorem ok_eq {K : PySem.W.Frag} : Ok2 K cA (pu2 dEq) (rEqD K) := ok2_pure fun F a b d x y H Q s ra rb e q => by
  unfold dEq at e
  cases ek : peq a b with
  | none => simp [ek] at e
  | some k =>
    simp [ek] at e
    subst e
    obtain ⟨p, p', h1, h2, h3, h4, rfl⟩ := peq_some ek
    exact ⟨p, p', toP_dp s ra h1, toP_dp s rb h2, h3, h4, q _ rfl⟩
theorem ok_ne {K : PySem.W.Frag} : Ok2 K cA (pu2 dNe) (rNeD K) := ok2_pure fun F a b d x y H Q s ra rb e q => by
  unfold dNe at e
  cases ek : peq a b with
  | none => simp [ek] at e
  | some k =>
    simp [ek] at e
    subst e
    obtain ⟨p, p', h1, h2, h3, h4, rfl⟩ := peq_some ek
    exact ⟨p, p', toP_dp s ra h1, toP_dp s rb h2, h3, h4, q _ rfl⟩

/-! ### <, <=, >, >= of ints and of texts -/
def dLt : D → D → Option D
  | .int i, .int j => some (.bl (decide (i < j)))
  | .str i, .str j => some (.bl (decide (i.cps.toList < j.cps.toList)))
  | _, _ => none
def dLe : D → D → Option D
  | .int i, .int j => some (.bl (decide (i ≤ j)))
  | .str i, .str j => some (.bl (!decide (j.cps.toList < i.cps.toList)))
  | _, _ => none
def dGt : D → D → Option D
  | .int i, .int j => some (.bl (decide (j < i)))
  | .str i, .str j => some (.bl (decide (j.cps.toList < i.cps.toList)))
  | _, _ => none
def dGe : D → D → Option D
  | .int i, .int j => some (.bl (decide (j ≤ i)))
  | .str i, .str j => some (.bl (!decide (i.cps.toList < j.cps.toList)))
  | _, _ => none
def rLtD : R2 := fun x y H Q => rI0 (fun i j => .bl (decide (i < j))) x y H Q ∨ ∃ i j, x = .str i ∧ y = .str j ∧ Q (.bl (decide (i.cps.toList < j.cps.toList))) H
def rLeD : R2 := fun x y H Q => rI0 (fun i j => .bl (decide (i ≤ j))) x y H Q ∨ ∃ i j, x = .str i ∧ y = .str j ∧ Q (.bl (!decide (j.cps.toList < i.cps.toList))) H
def rGtD : R2 := fun x y H Q => rI0 (fun i j => .bl (decide (j < i))) x y H Q ∨ ∃ i j, x = .str i ∧ y = .str j ∧ Q (.bl (decide (j.cps.toList < i.cps.toList))) H
def rGeD : R2 := fun x y H Q => rI0 (fun i j => .bl (decide (j ≤ i))) x y H Q ∨ ∃ i j, x = .str i ∧ y = .str j ∧ Q (.bl (!decide (i.cps.toList < j.cps.toList))) H
theorem op_ltD : OpR X (compareOp .Lt) rLtD := opOr op_lt op_lt_str
theorem op_leD : OpR X (compareOp .LtE) rLeD := opOr op_le op_le_str
theorem op_gtD : OpR X (compareOp .Gt) rGtD := opOr op_gt op_gt_str
theorem op_geD : OpR X (compareOp .GtE) rGeD := opOr op_ge op_ge_str
theorem ok_cmpD {K : PySem.W.Frag} {f : D → D → Option D} {p : Int → Int → Bool} {q : Str → Str → Bool} (h : ∀ a b d, f a b = some d → (∃ i j, a = .int i ∧ b = .int j ∧ d = .bl (p i j)) ∨ ∃ i j, a = .str i ∧ b = .str j ∧ d = .bl (q i j)) :
    Ok2 K cA (pu2 f) (fun x y H Q => rI0 (fun i j => .bl (p i j)) x y H Q ∨ ∃ i j, x = .str i ∧ y = .str j ∧ Q (.bl (q i j)) H) := ok2_pure fun F a b d x y H Q s ra rb e k => by
  rcases h a b d e with ⟨i, j, rfl, rfl, rfl⟩ | ⟨i, j, rfl, rfl, rfl⟩
  · exact .inl ⟨i, j, ra, rb, k _ rfl⟩
  · exact .inr ⟨i, j, ra, rb, k _ rfl⟩
theorem ok_lt {K : PySem.W.Frag} : Ok2 K cA (pu2 dLt) rLtD := ok_cmpD fun a b d e => by
  cases a <;> cases b <;> simp only [dLt] at e <;> first | cases e | skip
  · exact .inl ⟨_, _, rfl, rfl, rfl⟩
  · exact .inr ⟨_, _, rfl, rfl, rfl⟩
theorem ok_le {K : PySem.W.Frag} : Ok2 K cA (pu2 dLe) rLeD := ok_cmpD fun a b d e => by
  cases a <;> cases b <;> simp only [dLe] at e <;> first | cases e | skip
  · exact .inl ⟨_, _, rfl, rfl, rfl⟩
  · exact .inr ⟨_, _, rfl, rfl, rfl⟩
theorem ok_gt {K : PySem.W.Frag} : Ok2 K cA (pu2 dGt) rGtD := ok_cmpD fun a b d e => by
  cases a <;> cases b <;> simp only [dGt] at e <;> first | cases e | skip
  · exact .inl ⟨_, _, rfl, rfl, rfl⟩
  · exact .inr ⟨_, _, rfl, rfl, rfl⟩
theorem ok_ge {K : PySem.W.Frag} : Ok2 K cA (pu2 dGe) rGeD := ok_cmpD fun a b d e => by
  cases a <;> cases b <;> simp only [dGe] at e <;> first | cases e | skip
  · exact .inl ⟨_, _, rfl, rfl, rfl⟩
  · exact .inr ⟨_, _, rfl, rfl, rfl⟩
/-- is None, is not None: of any value -/
def isNon : Wv → Bool
  | .d .non => true
  | _ => false
def isN (w u : Wv) (M : Sto) : Rs Wv := match u with
  | .d .non => .ok (.d (.bl (isNon w))) M
  | _ => .no
def notN (w u : Wv) (M : Sto) : Rs Wv := match u with
  | .d .non => .ok (.d (.bl (!isNon w))) M
  | _ => .no
theorem rw_none {K : PySem.W.Frag} {g : Gh} {n : Nat} {w : Wv} {v : V} (r : RW K cA g n w v) : decide (v = .non) = isNon w := by
  cases w with
  | m k =>
    obtain ⟨_, rfl⟩ := r
    rfl
  | d x =>
    have r' : Rep K cA g.F x v := r
    cases x with
    | non => cases (show v = .non from r'); rfl
    | bl _ => cases (show v = .bl _ from r'); rfl
    | int _ => cases (show v = .int _ from r'); rfl
    | str _ => cases (show v = .str _ from r'); rfl
    | tup _ => obtain ⟨a, vs, rfl, _⟩ := r'; rfl
    | lst _ => obtain ⟨a, vs, rfl, _⟩ := r'; rfl
    | scr _ => obtain ⟨a, vs, rfl, _⟩ := r'; rfl
    | dic _ _ => obtain ⟨a, vs, rfl, _⟩ := r'; rfl
    | obj _ _ _ => obtain ⟨a, dx, vs, rfl, _⟩ := r'; rfl
theorem ok_isN {K : PySem.W.Frag} : Ok2 K cA isN (fun x y H Q => y = .non ∧ Q (.bl (decide (x = .non))) H) := by
  intro z g H M E wx wy x y Q c rx ry q
  cases wy with
  | m k => exact q.elim
  | d u =>
    cases u with
    | non =>
      refine ⟨ry, ?_⟩
      rw [rw_none rx]
      exact q H g c Le.refl _ rfl
    | _ => exact q.elim
theorem ok_notN {K : PySem.W.Frag} : Ok2 K cA notN (fun x y H Q => y = .non ∧ Q (.bl (!decide (x = .non))) H) := by
  intro z g H M E wx wy x y Q c rx ry q
  cases wy with
  | m k => exact q.elim
  | d u =>
    cases u with
    | non =>
      refine ⟨ry, ?_⟩
      rw [rw_none rx]
      exact q H g c Le.refl _ rfl
    | _ => exact q.elim

/-! ### a comparison as an expression, as a test; a chain -/
theorem d_cmp {op : CmpOp} {r : R2} {f : Wv → Wv → Sto → Rs Wv} (ho : OpR X (compareOp op) r) (k : Ok2 X.K cA f r) (ha : PE X a (TED X.K cA Wx ma)) (hb : PE X b (TED X.K cA Wx mb)) (hm : behindInMarks op b = false := by first | exact nomark _ | rfl) :
    PE X (.Compare a [op] [b] pos) (TED X.K cA Wx (e2 f ma mb)) := PE.imp (pe_cmpR ho ha hb hm) fun σ H Q h => ted2 k h
/-- a value that is a bool -/
def tb (m : ED) : TD := fun env M => (m env M).bind fun w M1 => match w with
  | .d (.bl k) => .ok k M1
  | _ => .no
theorem ttd_of {m : ED} {t : TE} {σ : St} {H : Hp} {Q : Bool → Hp → Prop} (i : ∀ σ H Q, TED X.K cA Wx m σ H Q → t σ H Q) (h : TTD X.K cA Wx (tb m) σ H Q) : t σ H fun x H' => ∃ k, x = .bl k ∧ Q k H' := by
  obtain ⟨z, env, M, g, c, sl, q⟩ := h
  refine i _ _ _ ⟨z, env, M, g, c, sl, Res.imp (fun w M1 g1 H1 c1 l1 q1 v rv => ?_) q.of_bind⟩
  cases w with
  | m k => exact q1.elim
  | d x =>
    cases x with
    | bl k =>
      cases (show v = .bl k from rv)
      exact ⟨k, rfl, q1 H1 g1 c1 Le.refl⟩
    | _ => exact q1.elim
theorem t_cmp {op : CmpOp} {r : R2} {f : Wv → Wv → Sto → Rs Wv} (ho : OpR X (compareOp op) r) (k : Ok2 X.K cA f r) (ha : PE X a (TED X.K cA Wx ma)) (hb : PE X b (TED X.K cA Wx mb)) (hm : behindInMarks op b = false := by first | exact nomark _ | rfl) :
    PT X (.Compare a [op] [b] pos) (TTD X.K cA Wx (tb (e2 f ma mb))) := PT.imp (pt_cmpR ho ha hb hm) fun σ H Q h => ttd_of (fun _ _ _ q => ted2 k q) h
def eChain (f f' : Wv → Wv → Sto → Rs Wv) (a b c : ED) : ED := fun env M => (a env M).bind fun wa M1 => (b env M1).bind fun wb M2 => (f wa wb M2).bind fun k M3 => match k with
  | .d (.bl true) => (c env M3).bind fun wc M4 => f' wb wc M4
  | .d (.bl false) => .ok (.d (.bl false)) M3
  | _ => .no
theorem ted_chain {f f' : Wv → Wv → Sto → Rs Wv} {r r' : R2} (k : Ok2 X.K cA f r) (k' : Ok2 X.K cA f' r') {σ : St} {H : Hp} {Q : VK} (h : TED X.K cA Wx (eChain f f' ma mb mc) σ H Q) :
    tChain r r' (TED X.K cA Wx ma) (TED X.K cA Wx mb) (TED X.K cA Wx mc) σ H Q := by
  obtain ⟨z, env, M, g, c, sl, q⟩ := h
  refine ⟨z, env, M, g, c, sl, Res.imp (fun wa M1 g1 H1 c1 l1 q1 x rx => ?_) q.of_bind⟩
  refine ⟨z, env, M1, g1, c1, sl.mono l1, Res.imp (fun wb M2 g2 H2 c2 l2 q2 y ry => ?_) q1.of_bind⟩
  refine k z g2 H2 M2 _ wa wb x y _ c2 (rx.mono l2) ry (Res.imp (fun kk M3 g3 H3 c3 l3 q3 v rv => ?_) q2.of_bind)
  cases kk with
  | m _ => exact q3.elim
  | d x =>
    cases x with
    | bl kb =>
      cases (show v = .bl kb from rv)
      refine ⟨kb, rfl, ?_⟩
      cases kb with
      | true =>
        refine iteT ?_
        refine ⟨z, env, M3, g3, c3, (sl.mono l1).mono (l2.trans l3), Res.imp (fun wc M4 g4 H4 c4 l4 q4 u ru => ?_) q3.of_bind⟩
        exact k' z g4 H4 M4 _ wb wc y u Q c4 (ry.mono (l3.trans l4)) ru q4
      | false => exact iteF (q3 H3 g3 c3 Le.refl _ rfl)
    | _ => exact q3.elim
theorem d_chain {op op' : CmpOp} {r r' : R2} {f f' : Wv → Wv → Sto → Rs Wv} (ho : OpR X (compareOp op) r) (ho' : OpR X (compareOp op') r') (k : Ok2 X.K cA f r) (k' : Ok2 X.K cA f' r')
    (ha : PE X a (TED X.K cA Wx ma)) (hb : PE X b (TED X.K cA Wx mb)) (hc : PE X c (TED X.K cA Wx mc)) (hm : lastMarks [op, op'] [b, c] = false := by with_unfolding_all rfl) :
    PE X (.Compare a [op, op'] [b, c] pos) (TED X.K cA Wx (eChain f f' ma mb mc)) := PE.imp (pe_chain ho ho' ha hb hc hm) fun σ H Q h => ted_chain k k' h
theorem t_chain {op op' : CmpOp} {r r' : R2} {f f' : Wv → Wv → Sto → Rs Wv} (ho : OpR X (compareOp op) r) (ho' : OpR X (compareOp op') r') (k : Ok2 X.K cA f r) (k' : Ok2 X.K cA f' r')
    (ha : PE X a (TED X.K cA Wx ma)) (hb : PE X b (TED X.K cA Wx mb)) (hc : PE X c (TED X.K cA Wx mc)) (hm : lastMarks [op, op'] [b, c] = false := by with_unfolding_all rfl) :
    PT X (.Compare a [op, op'] [b, c] pos) (TTD X.K cA Wx (tb (eChain f f' ma mb mc))) := PT.imp (pt_chain ho ho' ha hb hc hm) fun σ H Q h => ttd_of (fun _ _ _ q => ted_chain k k' q) h

/-! ### arithmetic -/
def mulOk (i j : Int) : Bool := decide (-(2 ^ 64) < i ∧ i < 2 ^ 64) || decide (-(2 ^ 64) < j ∧ j < 2 ^ 64) || decide (i.natAbs.log2 + j.natAbs.log2 < 1000000)
def divOk (j : Int) : Bool := decide (0 < j) && decide (j.natAbs.log2 < 9000)
def dSub : D → D → Option D
  | .int i, .int j => some (.int (i - j))
  | _, _ => none
def dMul : D → D → Option D
  | .int i, .int j => if mulOk i j then some (.int (i * j)) else none
  | _, _ => none
def dMod : D → D → Option D
  | .int i, .int j => if decide (0 < j) then some (.int (i % j)) else none
  | _, _ => none
def dDiv : D → D → Option D
  | .int i, .int j => if divOk j then some (.int (i / j)) else none
  | _, _ => none
def dPow : D → D → Option D
  | .int i, .int j => if decide (0 ≤ j ∧ j ≤ 1000000 ∧ i.natAbs < 2 ^ 64) then some (.int (i ^ j.toNat)) else none
  | _, _ => none
def dAdd : D → D → Option D
  | .int i, .int j => some (.int (i + j))
  | .str i, .str j => if i.length + j.length ≤ sizeLine then some (.str (i ++ j)) else none
  | .lst i, .lst j => if i.length + j.length ≤ sizeLine then some (.lst (i ++ j)) else none
  | .tup i, .tup j => if i.length + j.length ≤ sizeLine then some (.tup (i ++ j)) else none
  | _, _ => none
def dNeg : D → Option D
  | .int i => some (.int (-i))
  | _ => none
def rAddD (K : PySem.W.Frag) : R2 := fun x y H Q => ((rI0 (fun i j => .int (i + j)) x y H Q ∨ ∃ i j, x = .str i ∧ y = .str j ∧ i.length + j.length ≤ sizeLine ∧ Q (.str (i ++ j)) H) ∨ rCat x y H Q) ∨ rCatA K x y H Q
theorem op_addD : OpR X (binaryOp .Add) (rAddD X.K) := opOr (opOr (opOr op_add op_add_str) op_cat) op_catA
def rMulD : R2 := fun x y H Q => rI CMul (fun i j => .int (i * j)) x y H Q ∨ rI CMulW (fun i j => .int (i * j)) x y H Q
theorem op_mulD : OpR X (binaryOp .Mult) rMulD := opOr op_mul op_mulW
theorem ok_sub {K : PySem.W.Frag} : Ok2 K cA (pu2 dSub) (rI0 fun i j => .int (i - j)) := ok2_pure fun F a b d x y H Q s ra rb e k => by
  cases a <;> cases b <;> simp only [dSub] at e <;> first | cases e | skip
  exact ⟨_, _, ra, rb, k _ rfl⟩
theorem ok_mul {K : PySem.W.Frag} : Ok2 K cA (pu2 dMul) rMulD := ok2_pure fun F a b d x y H Q s ra rb e k => by
  cases a <;> cases b <;> simp only [dMul] at e <;> first | cases e | skip
  rename_i i j
  by_cases hm : mulOk i j = true
  · rw [if_pos hm] at e
    cases e
    unfold mulOk at hm
    rw [Bool.or_eq_true, Bool.or_eq_true] at hm
    rcases hm with (h | h) | h
    · exact .inl ⟨i, j, ra, rb, .inl (of_decide_eq_true h), k _ rfl⟩
    · exact .inl ⟨i, j, ra, rb, .inr (of_decide_eq_true h), k _ rfl⟩
    · exact .inr ⟨i, j, ra, rb, (show i.natAbs.log2 + j.natAbs.log2 < 1000000 from of_decide_eq_true h), k _ rfl⟩
  · rw [if_neg hm] at e
    cases e
theorem ok_mod {K : PySem.W.Frag} : Ok2 K cA (pu2 dMod) (rI (fun _ j => 0 < j) fun i j => .int (i % j)) := ok2_pure fun F a b d x y H Q s ra rb e k => by
  cases a <;> cases b <;> simp only [dMod] at e <;> first | cases e | skip
  rename_i i j
  by_cases hm : decide (0 < j) = true
  · rw [if_pos hm] at e
    cases e
    exact ⟨i, j, ra, rb, of_decide_eq_true hm, k _ rfl⟩
  · rw [if_neg hm] at e
    cases e
theorem ok_div {K : PySem.W.Frag} : Ok2 K cA (pu2 dDiv) (rI CDivW fun i j => .int (i / j)) := ok2_pure fun F a b d x y H Q s ra rb e k => by
  cases a <;> cases b <;> simp only [dDiv] at e <;> first | cases e | skip
  rename_i i j
  by_cases hm : divOk j = true
  · rw [if_pos hm] at e
    cases e
    unfold divOk at hm
    rw [Bool.and_eq_true] at hm
    exact ⟨i, j, ra, rb, ⟨of_decide_eq_true hm.1, of_decide_eq_true hm.2⟩, k _ rfl⟩
  · rw [if_neg hm] at e
    cases e
theorem ok_pow {K : PySem.W.Frag} : Ok2 K cA (pu2 dPow) (rI CPow fun i j => .int (i ^ j.toNat)) := ok2_pure fun F a b d x y H Q s ra rb e k => by
  cases a <;> cases b <;> simp only [dPow] at e <;> first | cases e | skip
  rename_i i j
  by_cases hm : decide (0 ≤ j ∧ j ≤ 1000000 ∧ i.natAbs < 2 ^ 64) = true
  · rw [if_pos hm] at e
    cases e
    exact ⟨i, j, ra, rb, (show 0 ≤ j ∧ j ≤ 1000000 ∧ i.natAbs < 2 ^ 64 from of_decide_eq_true hm), k _ rfl⟩
  · rw [if_neg hm] at e
    cases e
theorem ok_neg {K : PySem.W.Frag} : Ok1 K cA (pu1 dNeg) (rU fun i => .int (-i)) := ok1_pure fun F a d x H Q s ra e k => by
  cases a <;> simp only [dNeg] at e <;> first | cases e | skip
  exact ⟨_, ra, k _ rfl⟩
/-- a new frozen object as the answer -/
theorem Cf.ans {K : PySem.W.Frag} {z : Z0} {g : Gh} {H : Hp} {M : Sto} {E : Exn → Sto → Gh → Hp → Prop} {d : D} {Q : VK} (c : Cf K cA z H M g) (q : Res K cA z g M.length E (.ok (.d d) M : Rs Wv) (fun w M' g' H' => ∀ v, RW K cA g' M'.length w v → Q v H')) {p : Addr} {ho : HO} (hp : H p = none)
    (r : Rep K cA (upd g.F p ho) d (.ref p)) : Q (.ref p) (upd H p ho) := by
  obtain ⟨c', l⟩ := c.lay hp (ho := ho)
  exact q _ _ c' l _ r
theorem ok_add {K : PySem.W.Frag} : Ok2 K cA (pu2 dAdd) (rAddD K) := by
  intro z g H M E wx wy x y Q c rx ry q
  cases ea : nd M wx with
  | none => simp [pu2, ea, Res] at q
  | some a =>
    cases eb : nd M wy with
    | none => simp [pu2, ea, eb, Res] at q
    | some b =>
      have ra := nd_rep c rx ea
      have rb := nd_rep c ry eb
      simp only [pu2, ea, eb, Option.bind_some] at q
      cases a <;> cases b <;> simp only [dAdd, rsd_none, rsd_some] at q <;> try exact q.elim
      · rename_i i j
        exact .inl (.inl (.inl ⟨i, j, ra, rb, q H g c Le.refl _ rfl⟩))
      · rename_i i j
        by_cases hz : i.length + j.length ≤ sizeLine
        · rw [if_pos hz] at q
          exact .inl (.inl (.inr ⟨i, j, ra, rb, hz, q H g c Le.refl _ rfl⟩))
        · rw [if_neg hz] at q
          exact q.elim
      · rename_i i j
        by_cases hz : i.length + j.length ≤ sizeLine
        · rw [if_pos hz] at q
          obtain ⟨p, vs, rfl, h1, h2, h3⟩ := ra
          obtain ⟨p', us, rfl, k1, k2, k3⟩ := rb
          have hz' : vs.length + us.length ≤ sizeLine := by rw [← h3.length, ← k3.length]; exact hz
          refine .inr ⟨p, p', vs, us, rfl, rfl, c.sub.seqT h1, c.sub.seqT k1, hz', fun e => ?_, fun e e' => ?_, fun e e' t ht => ?_⟩
          · have : i = [] := by
              have := h3.length
              rw [e] at this
              exact List.length_eq_zero_iff.mp this
            subst this
            exact q H g c Le.refl _ ⟨p', us, rfl, k1, k2, k3⟩
          · have : j = [] := by
              have := k3.length
              rw [e'] at this
              exact List.length_eq_zero_iff.mp this
            subst this
            rw [List.append_nil] at q
            exact q H g c Le.refl _ ⟨p, vs, rfl, h1, h2, h3⟩
          · refine c.ans q ht ⟨t, vs ++ us, rfl, SqT.of upd_same, by rw [List.length_append]; exact hz', ?_⟩
            have sm := Same.upd' (o := HO.tup (vs ++ us)) (c.sub.free ht)
            exact RepL.append (h3.mono sm) (k3.mono sm)
        · rw [if_neg hz] at q
          exact q.elim
      · rename_i i j
        by_cases hz : i.length + j.length ≤ sizeLine
        · rw [if_pos hz] at q
          obtain ⟨p, vs, rfl, h1, h2, h3⟩ := ra
          obtain ⟨p', us, rfl, k1, k2, k3⟩ := rb
          have hz' : vs.length + us.length ≤ sizeLine := by rw [← h3.length, ← k3.length]; exact hz
          refine .inl (.inr ⟨p, p', vs, us, rfl, rfl, c.sub _ _ h1, c.sub _ _ k1, hz', fun t ht => ?_⟩)
          refine c.ans q ht ⟨t, vs ++ us, rfl, upd_same, by rw [List.length_append]; exact hz', ?_⟩
          have sm := Same.upd' (o := HO.lst (vs ++ us)) (c.sub.free ht)
          exact RepL.append (h3.mono sm) (k3.mono sm)
        · rw [if_neg hz] at q
          exact q.elim
theorem d_op {op : Operator} {r : R2} {f : Wv → Wv → Sto → Rs Wv} (ho : OpR X (binaryOp op) r) (k : Ok2 X.K cA f r) (ha : PE X a (TED X.K cA Wx ma)) (hb : PE X b (TED X.K cA Wx mb)) :
    PE X (.BinOp a op b pos) (TED X.K cA Wx (e2 f ma mb)) := PE.imp (pe_op ho ha hb) fun σ H Q h => ted2 k h
theorem d_add (ha : PE X a (TED X.K cA Wx ma)) (hb : PE X b (TED X.K cA Wx mb)) : PE X (.BinOp a .Add b pos) (TED X.K cA Wx (e2 (pu2 dAdd) ma mb)) := d_op op_addD ok_add ha hb
theorem d_sub (ha : PE X a (TED X.K cA Wx ma)) (hb : PE X b (TED X.K cA Wx mb)) : PE X (.BinOp a .Sub b pos) (TED X.K cA Wx (e2 (pu2 dSub) ma mb)) := d_op op_sub ok_sub ha hb
theorem d_mul (ha : PE X a (TED X.K cA Wx ma)) (hb : PE X b (TED X.K cA Wx mb)) : PE X (.BinOp a .Mult b pos) (TED X.K cA Wx (e2 (pu2 dMul) ma mb)) := d_op op_mulD ok_mul ha hb
theorem d_mod (ha : PE X a (TED X.K cA Wx ma)) (hb : PE X b (TED X.K cA Wx mb)) : PE X (.BinOp a .Mod b pos) (TED X.K cA Wx (e2 (pu2 dMod) ma mb)) := d_op op_mod ok_mod ha hb
theorem d_div (ha : PE X a (TED X.K cA Wx ma)) (hb : PE X b (TED X.K cA Wx mb)) : PE X (.BinOp a .FloorDiv b pos) (TED X.K cA Wx (e2 (pu2 dDiv) ma mb)) := d_op op_fdivW ok_div ha hb
theorem d_pow (ha : PE X a (TED X.K cA Wx ma)) (hb : PE X b (TED X.K cA Wx mb)) : PE X (.BinOp a .Pow b pos) (TED X.K cA Wx (e2 (pu2 dPow) ma mb)) := d_op op_pow ok_pow ha hb
theorem d_neg (ha : PE X a (TED X.K cA Wx ma)) : PE X (.UnaryOp .USub a pos) (TED X.K cA Wx (e1 (pu1 dNeg) ma)) := PE.imp (pe_un un_neg ha) fun σ H Q h => ted1 ok_neg h
end
end DL

/-! Layer D: sequences, truth, displays, fields, built-ins. -/
namespace DL
open PySem PySem.Spec PyProof.Rows L2

/-- what a value reads as: the frozen ones as data -/
def nw (M : Sto) : Wv → Wv
  | .d x => .d x
  | .m k => match M[k]? with
    | some (.fz x) => .d x
    | _ => .m k
@[simp] theorem nw_d (M : Sto) (x : D) : nw M (.d x) = .d x := rfl
/-- a list's (true) or a tuple's items -/
def seqw (M : Sto) (w : Wv) : Option (Bool × List Wv) := match nw M w with
  | .d (.tup l) => some (false, l.map .d)
  | .d (.lst l) => some (true, l.map .d)
  | .d (.scr l) => some (true, l.map .d)
  | .d _ => none
  | .m k => match M[k]? with
    | some (.lst ws) => some (true, ws)
    | _ => none
@[simp] theorem seqw_tup (M : Sto) (l : List D) : seqw M (.d (.tup l)) = some (false, l.map .d) := rfl
@[simp] theorem seqw_lst (M : Sto) (l : List D) : seqw M (.d (.lst l)) = some (true, l.map .d) := rfl
@[simp] theorem seqw_scr (M : Sto) (l : List D) : seqw M (.d (.scr l)) = some (true, l.map .d) := rfl
section
variable {K : PySem.W.Frag} {cA : Nat → Addr} {z : Z0} {g : Gh} {n : Nat} {H : Hp} {M : Sto}
theorem rw_nw (c : Cf K cA z H M g) : ∀ {w : Wv} {v : V}, RW K cA g M.length w v → RW K cA g M.length (nw M w) v
  | .d _, _, r => r
  | .m k, v, r => by
    obtain ⟨hk, rfl⟩ := r
    have r0 : RW K cA g M.length (.m k) (.ref (g.ad k)) := ⟨hk, rfl⟩
    cases q : M[k]? with
    | none =>
      simp only [nw, q]
      exact r0
    | some mo =>
      cases mo with
      | fz x =>
        simp only [nw, q]
        exact (c.sto k _ q).1
      | _ =>
        simp only [nw, q]
        exact r0
theorem RepL.wd {F : Hp} {g : Gh} (hF : g.F = F) : ∀ {l : List D} {vs : List V}, RepL K cA F l vs → Paired (RW K cA g n) (l.map .d) vs
  | [], _, h => by cases (show _ = [] from h); exact .nil
  | x :: l, _, h => by
    obtain ⟨v, r, rfl, h1, h2⟩ := h
    subst hF
    exact .cons h1 (RepL.wd rfl h2)
theorem seqw_at (c : Cf K cA z H M g) {w : Wv} {v : V} {b : Bool} {ws : List Wv} (r : RW K cA g M.length w v) (e : seqw M w = some (b, ws)) :
    ∃ a vs, v = .ref a ∧ (if b = true then SqL K H a vs else SqT K H a vs) ∧ vs.length ≤ sizeLine ∧ Paired (RW K cA g M.length) ws vs := by
  have r' := rw_nw c r
  cases q : nw M w with
  | m k =>
    rw [q] at r'
    simp only [seqw, q] at e
    cases q2 : M[k]? with
    | none => simp [q2] at e
    | some mo =>
      cases mo with
      | lst us =>
        simp only [q2, Option.some.injEq, Prod.mk.injEq] at e
        obtain ⟨rfl, rfl⟩ := e
        obtain ⟨vs, h1, h2, h3, h4⟩ := c.sto k _ q2
        exact ⟨_, vs, r'.2, by simpa using SqL.of h1, by rw [← h4.length]; exact h3, h4⟩
      | _ => simp [q2] at e
  | d x =>
    rw [q] at r'
    simp only [seqw, q] at e
    cases x <;> simp only [Option.some.injEq, Prod.mk.injEq, reduceCtorEq] at e
    · obtain ⟨rfl, rfl⟩ := e
      obtain ⟨a, vs, rfl, h1, h2, h3⟩ := r'
      exact ⟨a, vs, rfl, by simpa using c.sub.seqT h1, h2, h3.wd rfl⟩
    · obtain ⟨rfl, rfl⟩ := e
      obtain ⟨a, vs, rfl, h1, h2, h3⟩ := r'
      exact ⟨a, vs, rfl, by simpa using SqL.of (c.sub _ _ h1), h2, h3.wd rfl⟩
    · obtain ⟨rfl, rfl⟩ := e
      obtain ⟨a, vs, rfl, h1, h2, h3⟩ := r'
      exact ⟨a, vs, rfl, by simpa using c.sub.seq h1, h2, h3.wd rfl⟩
theorem seqw_or (c : Cf K cA z H M g) {w : Wv} {v : V} {b : Bool} {ws : List Wv} (r : RW K cA g M.length w v) (e : seqw M w = some (b, ws)) :
    ∃ a vs, v = .ref a ∧ (SqL K H a vs ∨ SqT K H a vs) ∧ vs.length ≤ sizeLine ∧ Paired (RW K cA g M.length) ws vs := by
  obtain ⟨a, vs, rfl, h, h2, h3⟩ := seqw_at c r e
  refine ⟨a, vs, rfl, ?_, h2, h3⟩
  cases b with
  | true => exact .inl (by simpa using h)
  | false => exact .inr (by simpa using h)
end

/-! ### truth -/
def truw (M : Sto) (w : Wv) : Option Bool := match nw M w with
  | .d .non => some false
  | .d (.bl b) => some b
  | .d (.int i) => some (i != 0)
  | .d (.str x) => if x.length ≤ sizeLine then some ((x.length : Int) != 0) else none
  | .d (.tup l) => some (!l.isEmpty)
  | .d (.lst l) => some (!l.isEmpty)
  | .d (.scr l) => some (!l.isEmpty)
  | .d (.dic ks _) => some (!ks.isEmpty)
  | .d (.obj _ _ _) => none
  | .m k => match M[k]? with
    | some (.lst ws) => some (!ws.isEmpty)
    | some (.dic ks _) => some (!ks.isEmpty)
    | _ => none
section
variable {K : PySem.W.Frag} {cA : Nat → Addr} {z : Z0} {g : Gh} {n : Nat} {H : Hp} {M : Sto}
theorem empty_len {α β : Type} {l : List α} {r : List β} (h : l.length = r.length) : (!l.isEmpty) = !r.isEmpty := by
  cases l <;> cases r <;> simp_all
theorem zip_empty {α β : Type} {l : List α} {r : List β} (h : l.length = r.length) : (l.zip r).isEmpty = l.isEmpty := by
  cases l <;> cases r <;> simp_all
theorem truw_at (c : Cf K cA z H M g) {w : Wv} {v : V} {b : Bool} (r : RW K cA g M.length w v) (e : truw M w = some b) : TruV K v H b := by
  have r' := rw_nw c r
  cases q : nw M w with
  | m k =>
    rw [q] at r'
    obtain ⟨hk, rfl⟩ := r'
    simp only [truw, q] at e
    cases q2 : M[k]? with
    | none => simp [q2] at e
    | some mo =>
      cases mo with
      | lst us =>
        simp only [q2, Option.some.injEq] at e
        obtain ⟨vs, h1, h2, h3, h4⟩ := c.sto k _ q2
        exact .inl ⟨vs, SqL.of h1, by rw [← e]; exact empty_len h4.length⟩
      | dic ks us =>
        simp only [q2, Option.some.injEq] at e
        obtain ⟨vs, h1, h2, h3, h4⟩ := c.sto k _ q2
        exact .inr (.inr ⟨_, h1, by rw [← e, zip_empty h3]⟩)
      | _ => simp [q2] at e
  | d x =>
    rw [q] at r'
    simp only [truw, q] at e
    cases x with
    | non => cases (show v = .non from r'); exact (Option.some.inj e).symm
    | bl k => cases (show v = .bl k from r'); exact (Option.some.inj e).symm
    | int k => cases (show v = .int k from r'); exact (Option.some.inj e).symm
    | str k =>
      cases (show v = .str k from r')
      have e' : (if k.length ≤ sizeLine then some ((k.length : Int) != 0) else none) = some b := e
      by_cases hz : k.length ≤ sizeLine
      · rw [if_pos hz] at e'
        exact ⟨hz, (Option.some.inj e').symm⟩
      · rw [if_neg hz] at e'
        cases e'
    | tup l =>
      obtain ⟨a, vs, rfl, h1, h2, h3⟩ := r'
      exact .inr (.inl ⟨vs, c.sub.seqT h1, by rw [← Option.some.inj e]; exact empty_len h3.length⟩)
    | lst l =>
      obtain ⟨a, vs, rfl, h1, h2, h3⟩ := r'
      exact .inl ⟨vs, SqL.of (c.sub _ _ h1), by rw [← Option.some.inj e]; exact empty_len h3.length⟩
    | scr l =>
      obtain ⟨a, vs, rfl, h1, h2, h3⟩ := r'
      exact .inl ⟨vs, c.sub.seq h1, by rw [← Option.some.inj e]; exact empty_len h3.length⟩
    | dic ks l =>
      obtain ⟨a, vs, rfl, h1, h2, h3⟩ := r'
      exact .inr (.inr ⟨_, c.sub _ _ h1, by rw [← Option.some.inj e, zip_empty h2]⟩)
    | obj _ _ _ => cases e
end
section
variable {X : Cx} {cA : Nat → Addr} {Wx : WX} {a b c : Expr} {ma mb mc : ED} {ta tc : TD} {pos : Pos} {rest : List Expr}
def tTru (m : ED) : TD := fun env M => (m env M).bind fun w M1 => match truw M1 w with
  | some k => .ok k M1
  | none => .no
theorem ttd_tru {m : ED} {σ : St} {H : Hp} {Q : Bool → Hp → Prop} (h : TTD X.K cA Wx (tTru m) σ H Q) : TED X.K cA Wx m σ H fun x H' => ∃ k, TruV X.K x H' k ∧ Q k H' := by
  obtain ⟨z, env, M, g, c, sl, q⟩ := h
  refine ⟨z, env, M, g, c, sl, Res.imp (fun w M1 g1 H1 c1 l1 q1 v rv => ?_) q.of_bind⟩
  cases e : truw M1 w with
  | none => simp [e, Res] at q1
  | some k =>
    simp only [e] at q1
    exact ⟨k, truw_at c1 rv e, q1 H1 g1 c1 Le.refl⟩
/-- any expression as a test (no comparison, no and, or, not) -/
theorem t_tru (ha : PE X a (TED X.K cA Wx ma)) (he : ∀ whole, isTrue a X.env whole = (do let v ← whole; standAt a.pos; holding [v] (truthy v)) := by intro _; rfl) : PT X a (TTD X.K cA Wx (tTru ma)) :=
  PT.imp (pt_truth ha he) fun σ H Q h => ttd_tru h
def tNt (t : TD) : TD := fun env M => (t env M).bind fun k M1 => .ok (!k) M1
theorem t_not (ha : PT X a (TTD X.K cA Wx ta)) : PT X (.UnaryOp .Not a pos) (TTD X.K cA Wx (tNt ta)) := PT.imp (pt_not ha) fun σ H Q h => by
  obtain ⟨z, env, M, g, c, sl, q⟩ := h
  exact ⟨z, env, M, g, c, sl, Res.imp (fun k M1 g1 H1 c1 l1 q1 => q1 H1 g1 c1 Le.refl) q.of_bind⟩
def tAn (t u : TD) : TD := fun env M => (t env M).bind fun k M1 => if k = true then u env M1 else .ok false M1
def tO (t u : TD) : TD := fun env M => (t env M).bind fun k M1 => if k = true then .ok true M1 else u env M1
theorem w_and1 (ha : PT X a (TTD X.K cA Wx ta)) : PW X (.BoolOp .And [a] pos) (TTD X.K cA Wx ta) := pw_and1 ha
theorem w_or1 (ha : PT X a (TTD X.K cA Wx ta)) : PW X (.BoolOp .Or [a] pos) (TTD X.K cA Wx ta) := pw_or1 ha
theorem w_and (ha : PT X a (TTD X.K cA Wx ta)) (hb : PW X (.BoolOp .And (b :: rest) pos) (TTD X.K cA Wx tc)) : PW X (.BoolOp .And (a :: b :: rest) pos) (TTD X.K cA Wx (tAn ta tc)) := PW.imp (pw_and ha hb) fun σ H Q h => by
  obtain ⟨z, env, M, g, c, sl, q⟩ := h
  refine ⟨z, env, M, g, c, sl, Res.imp (fun k M1 g1 H1 c1 l1 q1 => ?_) q.of_bind⟩
  cases k with
  | true => exact iteT ⟨z, env, M1, g1, c1, sl.mono l1, q1⟩
  | false => exact iteF (q1 H1 g1 c1 Le.refl)
theorem w_or (ha : PT X a (TTD X.K cA Wx ta)) (hb : PW X (.BoolOp .Or (b :: rest) pos) (TTD X.K cA Wx tc)) : PW X (.BoolOp .Or (a :: b :: rest) pos) (TTD X.K cA Wx (tO ta tc)) := PW.imp (pw_or ha hb) fun σ H Q h => by
  obtain ⟨z, env, M, g, c, sl, q⟩ := h
  refine ⟨z, env, M, g, c, sl, Res.imp (fun k M1 g1 H1 c1 l1 q1 => ?_) q.of_bind⟩
  cases k with
  | true => exact iteT (q1 H1 g1 c1 Le.refl)
  | false => exact iteF ⟨z, env, M1, g1, c1, sl.mono l1, q1⟩
/-- and, or, not as values -/
def eAnd (a b : ED) : ED := fun env M => (a env M).bind fun w M1 => match truw M1 w with
  | some k => if k = true then b env M1 else .ok w M1
  | none => .no
def eOr (a b : ED) : ED := fun env M => (a env M).bind fun w M1 => match truw M1 w with
  | some k => if k = true then .ok w M1 else b env M1
  | none => .no
def eNot (a : ED) : ED := fun env M => (a env M).bind fun w M1 => match truw M1 w with
  | some k => .ok (.d (.bl (!k))) M1
  | none => .no
theorem d_one {op} (ha : PE X a (TED X.K cA Wx ma)) : PE X (.BoolOp op [a] pos) (TED X.K cA Wx ma) := pe_one ha
theorem d_and (ha : PE X a (TED X.K cA Wx ma)) (hb : PE X (.BoolOp .And (b :: rest) pos) (TED X.K cA Wx mb)) : PE X (.BoolOp .And (a :: b :: rest) pos) (TED X.K cA Wx (eAnd ma mb)) := PE.imp (pe_andT ha hb) fun σ H Q h => by
  obtain ⟨z, env, M, g, c, sl, q⟩ := h
  refine ⟨z, env, M, g, c, sl, Res.imp (fun w M1 g1 H1 c1 l1 q1 v rv => ?_) q.of_bind⟩
  cases e : truw M1 w with
  | none => simp [e, Res] at q1
  | some k =>
    simp only [e] at q1
    refine ⟨k, truw_at c1 rv e, ?_⟩
    cases k with
    | true => exact iteT ⟨z, env, M1, g1, c1, sl.mono l1, q1⟩
    | false => exact iteF (q1 H1 g1 c1 Le.refl v rv)
theorem d_or (ha : PE X a (TED X.K cA Wx ma)) (hb : PE X (.BoolOp .Or (b :: rest) pos) (TED X.K cA Wx mb)) : PE X (.BoolOp .Or (a :: b :: rest) pos) (TED X.K cA Wx (eOr ma mb)) := PE.imp (pe_orT ha hb) fun σ H Q h => by
  obtain ⟨z, env, M, g, c, sl, q⟩ := h
  refine ⟨z, env, M, g, c, sl, Res.imp (fun w M1 g1 H1 c1 l1 q1 v rv => ?_) q.of_bind⟩
  cases e : truw M1 w with
  | none => simp [e, Res] at q1
  | some k =>
    simp only [e] at q1
    refine ⟨k, truw_at c1 rv e, ?_⟩
    cases k with
    | true => exact iteT (q1 H1 g1 c1 Le.refl v rv)
    | false => exact iteF ⟨z, env, M1, g1, c1, sl.mono l1, q1⟩
theorem d_not (ha : PE X a (TED X.K cA Wx ma)) : PE X (.UnaryOp .Not a pos) (TED X.K cA Wx (eNot ma)) := PE.imp (pe_notT ha) fun σ H Q h => by
  obtain ⟨z, env, M, g, c, sl, q⟩ := h
  refine ⟨z, env, M, g, c, sl, Res.imp (fun w M1 g1 H1 c1 l1 q1 v rv => ?_) q.of_bind⟩
  cases e : truw M1 w with
  | none => simp [e, Res] at q1
  | some k =>
    simp only [e] at q1
    exact ⟨k, truw_at c1 rv e, q1 H1 g1 c1 Le.refl _ rfl⟩
def eIf (t : TD) (a b : ED) : ED := fun env M => (t env M).bind fun k M1 => if k = true then a env M1 else b env M1
theorem d_if {e : Expr} (ht : PT X e (TTD X.K cA Wx ta)) (ha : PE X a (TED X.K cA Wx ma)) (hb : PE X b (TED X.K cA Wx mb)) : PE X (.IfExp e a b pos) (TED X.K cA Wx (eIf ta ma mb)) := PE.imp (pe_ifExp ht ha hb) fun σ H Q h => by
  obtain ⟨z, env, M, g, c, sl, q⟩ := h
  refine ⟨z, env, M, g, c, sl, Res.imp (fun k M1 g1 H1 c1 l1 q1 => ?_) q.of_bind⟩
  cases k with
  | true => exact iteT ⟨z, env, M1, g1, c1, sl.mono l1, q1⟩
  | false => exact iteF ⟨z, env, M1, g1, c1, sl.mono l1, q1⟩

/-! ### argument lists, displays -/
def aNil : AD := fun _ M => .ok [] M
def aCons (a : ED) (r : AD) : AD := fun env M => (a env M).bind fun w M1 => (r env M1).bind fun ws M2 => .ok (w :: ws) M2
theorem a_nil : PA X [] (TAD X.K cA Wx aNil) := PA.imp pa_nil fun σ H Q ⟨z, env, M, g, c, sl, q⟩ => q H g c Le.refl [] .nil
theorem a_cons {es : List Expr} {mr : AD} (ha : PE X a (TED X.K cA Wx ma)) (hr : PA X es (TAD X.K cA Wx mr)) (hs : starEach (a :: es) X.env = (false, eval a X.env) :: starEach es X.env := by rfl) : PA X (a :: es) (TAD X.K cA Wx (aCons ma mr)) :=
  PA.imp (pa_cons ha hr hs) fun σ H Q ⟨z, env, M, g, c, sl, q⟩ => by
    refine ⟨z, env, M, g, c, sl, Res.imp (fun w M1 g1 H1 c1 l1 q1 v rv => ?_) q.of_bind⟩
    refine ⟨z, env, M1, g1, c1, sl.mono l1, Res.imp (fun ws M2 g2 H2 c2 l2 q2 vs rvs => ?_) q1.of_bind⟩
    exact q2 H2 g2 c2 Le.refl _ (.cons (rv.mono l2) rvs)
/-- all of them data -/
def nds (M : Sto) : List Wv → Option (List D)
  | [] => some []
  | w :: ws => match nd M w, nds M ws with
    | some x, some l => some (x :: l)
    | _, _ => none
@[simp] theorem nds_d (M : Sto) : ∀ l : List D, nds M (l.map .d) = some l
  | [] => rfl
  | x :: l => by
    rw [List.map_cons, nds, nds_d M l]
    rfl
theorem nds_rep {K : PySem.W.Frag} {z : Z0} {g : Gh} {H : Hp} {M : Sto} (c : Cf K cA z H M g) : ∀ {ws : List Wv} {vs : List V} {l : List D}, Paired (RW K cA g M.length) ws vs → nds M ws = some l → RepL K cA g.F l vs
  | [], _, _, .nil, e => by cases (Option.some.inj e); exact rfl
  | w :: ws, _, l, .cons r t, e => by
    cases q : nd M w with
    | none => simp [nds, q] at e
    | some x =>
      cases q2 : nds M ws with
      | none => simp [nds, q, q2] at e
      | some l' =>
        simp only [nds, q, q2, Option.some.injEq] at e
        subst e
        exact ⟨_, _, rfl, nd_rep c r q, nds_rep c t q2⟩
def eTup (a : AD) : ED := fun env M => (a env M).bind fun ws M1 => match nds M1 ws with
  | some l => if l.length ≤ sizeLine then .ok (.d (.tup l)) M1 else .no
  | none => .no
def eLst (a : AD) : ED := fun env M => (a env M).bind fun ws M1 => match nds M1 ws with
  | some l => if l.length ≤ sizeLine then .ok (.d (.lst l)) M1 else .no
  | none => .no
/-- a list that is to be changed -/
def eLstM (a : AD) : ED := fun env M => (a env M).bind fun ws M1 => if ws.length ≤ sizeLine then .ok (.m M1.length) (M1 ++ [.lst ws]) else .no
section
variable {es : List Expr} {mr : AD}
theorem d_tup {x1} (h : PA X es (TAD X.K cA Wx mr)) : PE X (.Tuple es x1 pos) (TED X.K cA Wx (eTup mr)) := PE.imp (pe_tup h) fun σ H Q ⟨z, env, M, g, c, sl, q⟩ => by
  refine ⟨z, env, M, g, c, sl, Res.imp (fun ws M1 g1 H1 c1 l1 q1 vs rvs => ?_) q.of_bind⟩
  cases e : nds M1 ws with
  | none => simp [e, Res] at q1
  | some l =>
    simp only [e] at q1
    have rl := nds_rep c1 rvs e
    by_cases hz : l.length ≤ sizeLine
    · rw [if_pos hz] at q1
      have hz' : vs.length ≤ sizeLine := by rw [← rl.length]; exact hz
      exact ⟨hz', fun p hp => c1.ans q1 hp ⟨p, vs, rfl, SqT.of upd_same, hz', rl.mono (Same.upd' (c1.sub.free hp))⟩⟩
    · rw [if_neg hz] at q1
      exact q1.elim
theorem d_lst (h : PA X es (TAD X.K cA Wx mr)) : PE X (.List es pos) (TED X.K cA Wx (eLst mr)) := PE.imp (pe_lst h) fun σ H Q ⟨z, env, M, g, c, sl, q⟩ => by
  refine ⟨z, env, M, g, c, sl, Res.imp (fun ws M1 g1 H1 c1 l1 q1 vs rvs => ?_) q.of_bind⟩
  cases e : nds M1 ws with
  | none => simp [e, Res] at q1
  | some l =>
    simp only [e] at q1
    have rl := nds_rep c1 rvs e
    by_cases hz : l.length ≤ sizeLine
    · rw [if_pos hz] at q1
      have hz' : vs.length ≤ sizeLine := by rw [← rl.length]; exact hz
      exact ⟨hz', fun p hp => c1.ans q1 hp ⟨p, vs, rfl, upd_same, hz', rl.mono (Same.upd' (c1.sub.free hp))⟩⟩
    · rw [if_neg hz] at q1
      exact q1.elim
theorem d_lstM (h : PA X es (TAD X.K cA Wx mr)) : PE X (.List es pos) (TED X.K cA Wx (eLstM mr)) := PE.imp (pe_lst h) fun σ H Q ⟨z, env, M, g, c, sl, q⟩ => by
  refine ⟨z, env, M, g, c, sl, Res.imp (fun ws M1 g1 H1 c1 l1 q1 vs rvs => ?_) q.of_bind⟩
  by_cases hz : ws.length ≤ sizeLine
  · rw [if_pos hz] at q1
    have hz' : vs.length ≤ sizeLine := by rw [← rvs.length]; exact hz
    refine ⟨hz', fun p hp => ?_⟩
    have fp : g1.F p = none := c1.sub.free hp
    have lad : ∀ k, k < M1.length → (g1.add M1.length p).ad k = g1.ad k := fun k hk => if_neg (Nat.ne_of_lt hk)
    obtain ⟨c2, l2⟩ := c1.new (mo := .lst ws) (ho := .lst vs) hp ⟨vs, upd_same, fp, hz, RWs.mono (show Le g1 M1.length (g1.add M1.length p) (M1.length + 1) from ⟨Same.refl g1.F, lad, Nat.le_succ _⟩) rvs⟩
    refine q1 _ _ c2 l2 _ ⟨by rw [List.length_append]; exact Nat.lt_succ_self _, ?_⟩
    show V.ref p = .ref ((g1.add M1.length p).ad M1.length)
    rw [show (g1.add M1.length p).ad M1.length = p from if_pos rfl]
  · rw [if_neg hz] at q1
    exact q1.elim
end

/-! ### subscripts, slices, len -/
def ixw (w u : Wv) (M : Sto) : Rs Wv := match u with
  | .d (.int i) => match seqw M w with
    | some (_, ws) => match atI ws i with
      | some x => .ok x M
      | none => .no
    | none => match nw M w with
      | .d (.str s) => if s.length ≤ sizeLine then match atI s.cps.toList i with
          | some c => .ok (.d (.str ⟨#[c]⟩)) M
          | none => .no
        else .no
      | _ => .no
  | _ => .no
theorem paired_atI {α β : Type} {P : α → β → Prop} {l : List α} {r : List β} {i : Int} {a : α} (p : Paired P l r) (e : atI l i = some a) : ∃ b, atI r i = some b ∧ P a b := by
  unfold atI at e ⊢
  rw [← p.length]
  cases q : ixN l.length i with
  | none => simp [q] at e
  | some j =>
    simp only [q, Option.bind_some] at e ⊢
    exact Paired.get' p e
theorem ok_ix {K : PySem.W.Frag} : Ok2 K cA ixw (fun x y H Q => (rIxL K x y H Q ∨ rIxT K x y H Q) ∨ rIxS x y H Q) := by
  intro z g H M E wx wy x y Q c rx ry q
  cases wy with
  | m k => exact q.elim
  | d u =>
    cases u with
    | int i =>
      cases (show y = .int i from ry)
      simp only [ixw] at q
      cases e : seqw M wx with
      | some p =>
        obtain ⟨b, ws⟩ := p
        simp only [e] at q
        cases e2 : atI ws i with
        | none => simp [e2, Res] at q
        | some w =>
          simp only [e2] at q
          obtain ⟨a, vs, rfl, h1, h2, h3⟩ := seqw_or c rx e
          obtain ⟨v, h4, h5⟩ := paired_atI h3 e2
          rcases h1 with h1 | h1
          · exact .inl (.inl ⟨a, vs, i, v, rfl, rfl, h1, h4, q H g c Le.refl v h5⟩)
          · exact .inl (.inr ⟨a, vs, i, v, rfl, rfl, h1, h4, q H g c Le.refl v h5⟩)
      | none =>
        simp only [e] at q
        have r' := rw_nw c rx
        cases e2 : nw M wx with
        | m k => simp [e2, Res] at q
        | d d =>
          rw [e2] at r'
          cases d with
          | str s =>
            simp only [e2] at q
            by_cases hz : s.length ≤ sizeLine
            · rw [if_pos hz] at q
              cases e3 : atI s.cps.toList i with
              | none => simp [e3, Res] at q
              | some ch =>
                simp only [e3] at q
                cases (show x = .str s from r')
                exact .inr ⟨s, i, ch, rfl, rfl, hz, e3, q H g c Le.refl _ rfl⟩
            · rw [if_neg hz] at q
              exact q.elim
          | _ => simp [e2, Res] at q
    | _ => exact q.elim
theorem d_ix (ha : PE X a (TED X.K cA Wx ma)) (hb : PE X b (TED X.K cA Wx mb)) (hs : PlainIx b := by intro _ _; rfl) : PE X (.Subscript a b pos) (TED X.K cA Wx (e2 ixw ma mb)) :=
  PE.imp (pe_ix (IxR.or (IxR.or ix_list ix_tup) ix_str) ha hb hs) fun σ H Q h => ted2 ok_ix h
/-- len, list, tuple .. of values -/
def Ok1L (K : PySem.W.Frag) (cA : Nat → Addr) (f : Wv → Sto → Rs Wv) (r : List V → Hp → VK → Prop) : Prop := Ok1 K cA f fun x H Q => r [x] H Q
theorem d_callB1 {x : Str} {id : String} {p : Pos} {f : Wv → Sto → Rs Wv} {r : List V → Hp → VK → Prop} (hc : CallR X (.builtin id) r) (k : Ok1L X.K cA f r) (hg : Gl X x) (hm : X.mg x = none) (hv : bootBuiltins x = some (.builtin id)) (ha : PE X a (TED X.K cA Wx ma))
    (hs : starEach (a :: []) X.env = (false, eval a X.env) :: starEach [] X.env := by rfl) (hx : PE X (.Call (.Name x p) [a] [] pos) (tCB r (tCons (TED X.K cA Wx ma) tNil))) : PE X (.Call (.Name x p) [a] [] pos) (TED X.K cA Wx (e1 f ma)) :=
  PE.imp hx fun σ H Q h => ted1 (r := fun x H Q => r [x] H Q) k h
end
end DL

/-! Layer D: calls of built-ins, fields, methods of built-in types, slices, in. -/
namespace DL
open PySem PySem.Spec PyProof.Rows L2

/-- what a call with one argument, with two arguments has to show -/
def OkL (K : PySem.W.Frag) (cA : Nat → Addr) (f : List Wv → Sto → Rs Wv) (r : List V → Hp → VK → Prop) : Prop := ∀ (z : Z0) (g : Gh) (H : Hp) (M : Sto) (E : Exn → Sto → Gh → Hp → Prop) (ws : List Wv) (vs : List V) (Q : VK), Cf K cA z H M g → Paired (RW K cA g M.length) ws vs →
  Res K cA z g M.length E (f ws M) (fun w M' g' H' => ∀ v, RW K cA g' M'.length w v → Q v H') → r vs H Q
def eL (f : List Wv → Sto → Rs Wv) (a : AD) : ED := fun env M => (a env M).bind fun ws M1 => f ws M1
section
variable {X : Cx} {cA : Nat → Addr} {Wx : WX} {a b c e : Expr} {es : List Expr} {ma mb mc : ED} {mr : AD} {ta tc : TD} {x : Str} {p pos apos : Pos} {id T : String} {r : List V → Hp → VK → Prop} {f : List Wv → Sto → Rs Wv}
theorem tedL (k : OkL X.K cA f r) {σ : St} {H : Hp} {Q : VK} (h : TED X.K cA Wx (eL f mr) σ H Q) : tCB r (TAD X.K cA Wx mr) σ H Q := by
  obtain ⟨z, env, M, g, c, sl, q⟩ := h
  refine ⟨z, env, M, g, c, sl, Res.imp (fun ws M1 g1 H1 c1 l1 q1 vs rv => ?_) q.of_bind⟩
  exact k z g1 H1 M1 _ ws vs Q c1 rv q1
theorem d_callB (k : OkL X.K cA f r) (hc : CallR X (.builtin id) r) (hm : X.mg x = none) (ha : PA X (e :: es) (TAD X.K cA Wx mr)) (hg : Gl X x := by rfl) (hv : bootBuiltins x = some (.builtin id) := by decide +kernel) (hn : x ≠ "__name__" := by decide) (hdb : (x == ("__debug__" : Str)) = false := by decide)
    (he : starEach (e :: es) X.env = (false, eval e X.env) :: starEach es X.env := by rfl) (hpl : (backTo pos (starEach es X.env)).any (·.1) = false := by rfl) : PE X (.Call (.Name x p) (e :: es) [] pos) (TED X.K cA Wx (eL f mr)) :=
  PE.imp (pe_callB hc hg hm hv ha hn hdb he hpl) fun σ H Q h => tedL k h
theorem d_callT (k : OkL X.K cA f r) (hc : CallR X (.type T) r) (hm : X.mg x = none) (ha : PA X (e :: es) (TAD X.K cA Wx mr)) (hg : Gl X x := by rfl) (hv : bootBuiltins x = some (.type T) := by decide +kernel) (hn : x ≠ "__name__" := by decide) (hdb : (x == ("__debug__" : Str)) = false := by decide)
    (he : starEach (e :: es) X.env = (false, eval e X.env) :: starEach es X.env := by rfl) (hpl : (backTo pos (starEach es X.env)).any (·.1) = false := by rfl) : PE X (.Call (.Name x p) (e :: es) [] pos) (TED X.K cA Wx (eL f mr)) :=
  PE.imp (pe_callTy hc hg hm hv ha hn hdb he hpl) fun σ H Q h => tedL k h
/-- one argument's function -/
def f1 (f : Wv → Sto → Rs Wv) : List Wv → Sto → Rs Wv := fun ws M => match ws with
  | [w] => f w M
  | _ => .no
def f2 (f : Wv → Wv → Sto → Rs Wv) : List Wv → Sto → Rs Wv := fun ws M => match ws with
  | [w, u] => f w u M
  | _ => .no
@[simp] theorem f1_one (f : Wv → Sto → Rs Wv) (w : Wv) (M : Sto) : f1 f [w] M = f w M := rfl
@[simp] theorem f2_two (f : Wv → Wv → Sto → Rs Wv) (w u : Wv) (M : Sto) : f2 f [w, u] M = f w u M := rfl
theorem okL1 {K : PySem.W.Frag} {f : Wv → Sto → Rs Wv} {r : List V → Hp → VK → Prop} (k : Ok1 K cA f fun x H Q => r [x] H Q) : OkL K cA (f1 f) r := by
  intro z g H M E ws vs Q c rv q
  match ws, rv, q with
  | [], _, q => exact q.elim
  | [w], .cons r1 .nil, q => exact k z g H M E w _ Q c r1 q
  | _ :: _ :: _, _, q => exact q.elim
theorem okL2 {K : PySem.W.Frag} {f : Wv → Wv → Sto → Rs Wv} {r : List V → Hp → VK → Prop} (k : Ok2 K cA f fun x y H Q => r [x, y] H Q) : OkL K cA (f2 f) r := by
  intro z g H M E ws vs Q c rv q
  match ws, rv, q with
  | [], _, q => exact q.elim
  | [w], _, q => exact q.elim
  | [w, u], .cons r1 (.cons r2 .nil), q => exact k z g H M E w u _ _ Q c r1 r2 q
  | _ :: _ :: _ :: _, _, q => exact q.elim

/-! ### len, list, tuple, abs, int, str, max, min, sum, any, all, sorted -/
def lenw (w : Wv) (M : Sto) : Rs Wv := match seqw M w with
  | some (_, ws) => .ok (.d (.int ws.length)) M
  | none => match nw M w with
    | .d (.str s) => if s.length ≤ sizeLine then .ok (.d (.int s.length)) M else .no
    | _ => .no
def rLenD (K : PySem.W.Frag) : List V → Hp → VK → Prop := fun xs H Q => (∃ p ys, xs = [.ref p] ∧ (SqL K H p ys ∨ SqT K H p ys) ∧ Q (.int ys.length) H) ∨ ∃ z, xs = [.str z] ∧ z.length ≤ sizeLine ∧ Q (.int z.length) H
theorem cr_lenD : CallR X (.builtin "len") (rLenD X.K) := callOr call_len_seq call_len_str
theorem ok_len {K : PySem.W.Frag} : OkL K cA (f1 lenw) (rLenD K) := okL1 fun z g H M E w x Q c rx q => by
  cases e : seqw M w with
  | some p =>
    obtain ⟨b, ws⟩ := p
    simp only [lenw, e] at q
    obtain ⟨a, vs, rfl, h1, h2, h3⟩ := seqw_or c rx e
    rw [show ws.length = vs.length from Paired.length h3] at q
    exact .inl ⟨a, vs, rfl, h1, q H g c Le.refl _ rfl⟩
  | none =>
    simp only [lenw, e] at q
    have r' := rw_nw c rx
    cases e2 : nw M w with
    | m k => simp [e2, Res] at q
    | d d =>
      rw [e2] at r'
      cases d with
      | str s =>
        simp only [e2] at q
        by_cases hz : s.length ≤ sizeLine
        · rw [if_pos hz] at q
          cases (show x = .str s from r')
          exact .inr ⟨s, rfl, hz, q H g c Le.refl _ rfl⟩
        · rw [if_neg hz] at q
          exact q.elim
      | _ => simp [e2, Res] at q
theorem d_len (hm : X.mg "len" = none) (ha : PA X (e :: es) (TAD X.K cA Wx mr)) (hg : Gl X "len" := by rfl) (he : starEach (e :: es) X.env = (false, eval e X.env) :: starEach es X.env := by rfl) (hpl : (backTo pos (starEach es X.env)).any (·.1) = false := by rfl) :
    PE X (.Call (.Name "len" p) (e :: es) [] pos) (TED X.K cA Wx (eL (f1 lenw) mr)) := d_callB ok_len cr_lenD hm ha hg (by decide +kernel) (by decide) (by decide) he hpl
/-- list(x), frozen; as a list to be changed -/
def listw (w : Wv) (M : Sto) : Rs Wv := match seqw M w with
  | some (_, ws) => match nds M ws with
    | some l => .ok (.d (.lst l)) M
    | none => .no
  | none => .no
def listwM (w : Wv) (M : Sto) : Rs Wv := match seqw M w with
  | some (_, ws) => .ok (.m M.length) (M ++ [.lst ws])
  | none => .no
def tupw (w : Wv) (M : Sto) : Rs Wv := match seqw M w with
  | some (_, ws) => match nds M ws with
    | some l => .ok (.d (.tup l)) M
    | none => .no
  | none => .no
def rListD (K : PySem.W.Frag) : List V → Hp → VK → Prop := fun xs H Q => ∃ p ys, xs = [.ref p] ∧ (SqL K H p ys ∨ SqT K H p ys) ∧ ∀ l, H l = none → Q (.ref l) (upd H l (.lst ys))
def rTupleD (K : PySem.W.Frag) : List V → Hp → VK → Prop := fun xs H Q => ∃ p ys, xs = [.ref p] ∧ ((SqL K H p ys ∧ ∀ l, H l = none → Q (.ref l) (upd H l (.tup ys))) ∨ (SqT K H p ys ∧ Q (.ref p) H))
theorem ok_list {K : PySem.W.Frag} : OkL K cA (f1 listw) (rListD K) := okL1 fun z g H M E w x Q c rx q => by
  cases e : seqw M w with
  | none => simp [listw, e, Res] at q
  | some p =>
    obtain ⟨b, ws⟩ := p
    cases e2 : nds M ws with
    | none => simp [listw, e, e2, Res] at q
    | some l =>
      simp only [listw, e, e2] at q
      obtain ⟨a, vs, rfl, h1, h2, h3⟩ := seqw_or c rx e
      have rl := nds_rep c h3 e2
      exact ⟨a, vs, rfl, h1, fun p hp => c.ans q hp ⟨p, vs, rfl, upd_same, h2, rl.mono (Same.upd' (c.sub.free hp))⟩⟩
/-- a new list of the store as the answer -/
theorem Cf.ansM {K : PySem.W.Frag} {z : Z0} {g : Gh} {H : Hp} {M : Sto} {E : Exn → Sto → Gh → Hp → Prop} {ws : List Wv} {vs : List V} {Q : VK} (c : Cf K cA z H M g) (rv : Paired (RW K cA g M.length) ws vs) (hz : ws.length ≤ sizeLine)
    (q : Res K cA z g M.length E (.ok (.m M.length) (M ++ [.lst ws]) : Rs Wv) (fun w M' g' H' => ∀ v, RW K cA g' M'.length w v → Q v H')) {p : Addr} (hp : H p = none) : Q (.ref p) (upd H p (.lst vs)) := by
  have fp : g.F p = none := c.sub.free hp
  have lad : ∀ k, k < M.length → (g.add M.length p).ad k = g.ad k := fun k hk => if_neg (Nat.ne_of_lt hk)
  obtain ⟨c2, l2⟩ := c.new (mo := .lst ws) (ho := .lst vs) hp ⟨vs, upd_same, fp, hz, RWs.mono (show Le g M.length (g.add M.length p) (M.length + 1) from ⟨Same.refl g.F, lad, Nat.le_succ _⟩) rv⟩
  refine q _ _ c2 l2 _ ⟨by rw [List.length_append]; exact Nat.lt_succ_self _, ?_⟩
  show V.ref p = .ref ((g.add M.length p).ad M.length)
  rw [show (g.add M.length p).ad M.length = p from if_pos rfl]
theorem ok_listM {K : PySem.W.Frag} : OkL K cA (f1 listwM) (rListD K) := okL1 fun z g H M E w x Q c rx q => by
  cases e : seqw M w with
  | none => simp [listwM, e, Res] at q
  | some p =>
    obtain ⟨b, ws⟩ := p
    simp only [listwM, e] at q
    obtain ⟨a, vs, rfl, h1, h2, h3⟩ := seqw_or c rx e
    exact ⟨a, vs, rfl, h1, fun p hp => c.ansM h3 (by rw [show ws.length = vs.length from Paired.length h3]; exact h2) q hp⟩
theorem ok_tuple {K : PySem.W.Frag} : OkL K cA (f1 tupw) (rTupleD K) := okL1 fun z g H M E w x Q c rx q => by
  cases e : seqw M w with
  | none => simp [tupw, e, Res] at q
  | some p =>
    obtain ⟨b, ws⟩ := p
    cases e2 : nds M ws with
    | none => simp [tupw, e, e2, Res] at q
    | some l =>
      simp only [tupw, e, e2] at q
      obtain ⟨a, vs, rfl, h1, h2, h3⟩ := seqw_at c rx e
      have rl := nds_rep c h3 e2
      refine ⟨a, vs, rfl, ?_⟩
      cases b with
      | true => exact .inl ⟨by simpa using h1, fun p hp => c.ans q hp ⟨p, vs, rfl, SqT.of upd_same, h2, rl.mono (Same.upd' (c.sub.free hp))⟩⟩
      | false =>
        refine .inr ⟨by simpa using h1, q H g c Le.refl _ ?_⟩
        -- the tuple itself: frozen
        have r' := rw_nw c rx
        cases e3 : nw M w with
        | m k =>
          simp only [seqw, e3] at e
          cases e4 : M[k]? with
          | none => simp [e4] at e
          | some mo => cases mo <;> simp [e4] at e
        | d d =>
          rw [e3] at r'
          simp only [seqw, e3] at e
          cases d with
          | tup l' =>
            simp only [Option.some.injEq, Prod.mk.injEq] at e
            obtain ⟨_, rfl⟩ := e
            rw [nds_d] at e2
            cases (Option.some.inj e2)
            exact r'
          | _ => simp at e
theorem d_list (hm : X.mg "list" = none) (ha : PA X (e :: es) (TAD X.K cA Wx mr)) (hg : Gl X "list" := by rfl) (he : starEach (e :: es) X.env = (false, eval e X.env) :: starEach es X.env := by rfl) (hpl : (backTo pos (starEach es X.env)).any (·.1) = false := by rfl) :
    PE X (.Call (.Name "list" p) (e :: es) [] pos) (TED X.K cA Wx (eL (f1 listw) mr)) := d_callT ok_list call_list_of hm ha hg (by decide +kernel) (by decide) (by decide) he hpl
theorem d_listM (hm : X.mg "list" = none) (ha : PA X (e :: es) (TAD X.K cA Wx mr)) (hg : Gl X "list" := by rfl) (he : starEach (e :: es) X.env = (false, eval e X.env) :: starEach es X.env := by rfl) (hpl : (backTo pos (starEach es X.env)).any (·.1) = false := by rfl) :
    PE X (.Call (.Name "list" p) (e :: es) [] pos) (TED X.K cA Wx (eL (f1 listwM) mr)) := d_callT ok_listM call_list_of hm ha hg (by decide +kernel) (by decide) (by decide) he hpl
theorem d_tuple (hm : X.mg "tuple" = none) (ha : PA X (e :: es) (TAD X.K cA Wx mr)) (hg : Gl X "tuple" := by rfl) (he : starEach (e :: es) X.env = (false, eval e X.env) :: starEach es X.env := by rfl) (hpl : (backTo pos (starEach es X.env)).any (·.1) = false := by rfl) :
    PE X (.Call (.Name "tuple" p) (e :: es) [] pos) (TED X.K cA Wx (eL (f1 tupw) mr)) := d_callT ok_tuple call_tuple_of hm ha hg (by decide +kernel) (by decide) (by decide) he hpl
def dAbs : D → Option D
  | .int i => some (.int (if i < 0 then -i else i))
  | _ => none
def dMax2 : D → D → Option D
  | .int i, .int j => some (.int (if j > i then j else i))
  | _, _ => none
def dMin2 : D → D → Option D
  | .int i, .int j => some (.int (if j < i then j else i))
  | _, _ => none
def dInt : D → Option D
  | .int i => some (.int i)
  | .bl k => some (.int (if k then 1 else 0))
  | .str a => if a.length ≤ 640 then (PySem.intText? a).map .int else none
  | _ => none
def dStr : D → Option D
  | .int i => if i.natAbs.log2 < 1920 then some (.str (toString i)) else none
  | .str a => some (.str a)
  | _ => none
theorem ok1_of {K : PySem.W.Frag} {f : D → Option D} {r : V → Hp → VK → Prop} (k : Ok1 K cA (pu1 f) r) : Ok1 K cA (pu1 f) r := k
theorem ok_abs {K : PySem.W.Frag} : OkL K cA (f1 (pu1 dAbs)) (fun xs H Q => ∃ i, xs = [.int i] ∧ Q (.int (if i < 0 then -i else i)) H) := okL1 (ok1_pure fun F a d x H Q s ra e k => by
  cases a <;> simp only [dAbs] at e <;> first | cases e | skip
  exact ⟨_, by rw [show x = V.int _ from ra], k _ rfl⟩)
theorem ok_max2 {K : PySem.W.Frag} : OkL K cA (f2 (pu2 dMax2)) (fun xs H Q => ∃ i j, xs = [.int i, .int j] ∧ Q (.int (if j > i then j else i)) H) := okL2 (ok2_pure fun F a b d x y H Q s ra rb e k => by
  cases a <;> cases b <;> simp only [dMax2] at e <;> first | cases e | skip
  exact ⟨_, _, by rw [show x = V.int _ from ra, show y = V.int _ from rb], k _ rfl⟩)
theorem ok_min2 {K : PySem.W.Frag} : OkL K cA (f2 (pu2 dMin2)) (fun xs H Q => ∃ i j, xs = [.int i, .int j] ∧ Q (.int (if j < i then j else i)) H) := okL2 (ok2_pure fun F a b d x y H Q s ra rb e k => by
  cases a <;> cases b <;> simp only [dMin2] at e <;> first | cases e | skip
  exact ⟨_, _, by rw [show x = V.int _ from ra, show y = V.int _ from rb], k _ rfl⟩)
def rIntD : List V → Hp → VK → Prop := fun xs H Q => ((∃ i, xs = [.int i] ∧ Q (.int i) H) ∨ ∃ k, xs = [.bl k] ∧ Q (.int (if k then 1 else 0)) H) ∨ ∃ a n, xs = [.str a] ∧ PySem.intText? a = some n ∧ a.length ≤ 640 ∧ Q (.int n) H
theorem cr_intD : CallR X (.type "int") rIntD := callOr call_int1 call_int_str
theorem ok_int {K : PySem.W.Frag} : OkL K cA (f1 (pu1 dInt)) rIntD := okL1 (ok1_pure fun F a d x H Q s ra e k => by
  cases a <;> simp only [dInt] at e <;> first | cases e | skip
  · exact .inl (.inr ⟨_, by rw [show x = V.bl _ from ra], k _ rfl⟩)
  · exact .inl (.inl ⟨_, by rw [show x = V.int _ from ra], k _ rfl⟩)
  · rename_i a
    by_cases hz : a.length ≤ 640
    · rw [if_pos hz] at e
      cases e2 : PySem.intText? a with
      | none => rw [e2] at e; cases e
      | some n =>
        rw [e2] at e
        cases e
        exact .inr ⟨a, n, by rw [show x = V.str a from ra], e2, hz, k _ rfl⟩
    · rw [if_neg hz] at e
      cases e)
theorem d_abs (hm : X.mg "abs" = none) (ha : PA X (e :: es) (TAD X.K cA Wx mr)) (hg : Gl X "abs" := by rfl) (he : starEach (e :: es) X.env = (false, eval e X.env) :: starEach es X.env := by rfl) (hpl : (backTo pos (starEach es X.env)).any (·.1) = false := by rfl) :
    PE X (.Call (.Name "abs" p) (e :: es) [] pos) (TED X.K cA Wx (eL (f1 (pu1 dAbs)) mr)) := d_callB ok_abs call_abs hm ha hg (by decide +kernel) (by decide) (by decide) he hpl
theorem d_toint (hm : X.mg "int" = none) (ha : PA X (e :: es) (TAD X.K cA Wx mr)) (hg : Gl X "int" := by rfl) (he : starEach (e :: es) X.env = (false, eval e X.env) :: starEach es X.env := by rfl) (hpl : (backTo pos (starEach es X.env)).any (·.1) = false := by rfl) :
    PE X (.Call (.Name "int" p) (e :: es) [] pos) (TED X.K cA Wx (eL (f1 (pu1 dInt)) mr)) := d_callT ok_int cr_intD hm ha hg (by decide +kernel) (by decide) (by decide) he hpl
/-- max(a, b), max(xs) -/
def maxL : List Int → Option Int
  | [] => none
  | x :: l => some (l.foldl (fun a b => if b > a then b else a) x)
def minL : List Int → Option Int
  | [] => none
  | x :: l => some (l.foldl (fun a b => if b < a then b else a) x)
theorem maxL_spec : ∀ {l : List Int} {m : Int}, maxL l = some m → m ∈ l ∧ ∀ y ∈ l, y ≤ m := by
  have key : ∀ (l : List Int) (x : Int), (l.foldl (fun a b => if b > a then b else a) x ∈ x :: l) ∧ ∀ y ∈ x :: l, y ≤ l.foldl (fun a b => if b > a then b else a) x := by
    intro l
    induction l with
    | nil => intro x; simp
    | cons b l ih =>
      intro x
      rw [List.foldl_cons]
      obtain ⟨h1, h2⟩ := ih (if b > x then b else x)
      by_cases hb : b > x
      · rw [if_pos hb] at h1 h2 ⊢
        refine ⟨(List.mem_cons.mp h1).elim (fun h => List.mem_cons_of_mem _ (List.mem_cons.mpr (.inl h))) (fun h => List.mem_cons_of_mem _ (List.mem_cons_of_mem _ h)), fun y hy => ?_⟩
        have := h2 b List.mem_cons_self
        simp at hy
        rcases hy with rfl | rfl | hy
        · omega
        · exact this
        · exact h2 y (List.mem_cons_of_mem _ hy)
      · rw [if_neg hb] at h1 h2 ⊢
        refine ⟨(List.mem_cons.mp h1).elim (fun h => List.mem_cons.mpr (.inl h)) (fun h => List.mem_cons_of_mem _ (List.mem_cons_of_mem _ h)), fun y hy => ?_⟩
        have := h2 x List.mem_cons_self
        simp at hy
        rcases hy with rfl | rfl | hy
        · exact this
        · omega
        · exact h2 y (List.mem_cons_of_mem _ hy)
  intro l m h
  cases l with
  | nil => cases h
  | cons x l =>
    have := key l x
    rw [← Option.some.inj h]
    exact this
theorem minL_spec : ∀ {l : List Int} {m : Int}, minL l = some m → m ∈ l ∧ ∀ y ∈ l, m ≤ y := by
  have key : ∀ (l : List Int) (x : Int), (l.foldl (fun a b => if b < a then b else a) x ∈ x :: l) ∧ ∀ y ∈ x :: l, l.foldl (fun a b => if b < a then b else a) x ≤ y := by
    intro l
    induction l with
    | nil => intro x; simp
    | cons b l ih =>
      intro x
      rw [List.foldl_cons]
      obtain ⟨h1, h2⟩ := ih (if b < x then b else x)
      by_cases hb : b < x
      · rw [if_pos hb] at h1 h2 ⊢
        refine ⟨(List.mem_cons.mp h1).elim (fun h => List.mem_cons_of_mem _ (List.mem_cons.mpr (.inl h))) (fun h => List.mem_cons_of_mem _ (List.mem_cons_of_mem _ h)), fun y hy => ?_⟩
        have := h2 b List.mem_cons_self
        simp at hy
        rcases hy with rfl | rfl | hy
        · omega
        · exact this
        · exact h2 y (List.mem_cons_of_mem _ hy)
      · rw [if_neg hb] at h1 h2 ⊢
        refine ⟨(List.mem_cons.mp h1).elim (fun h => List.mem_cons.mpr (.inl h)) (fun h => List.mem_cons_of_mem _ (List.mem_cons_of_mem _ h)), fun y hy => ?_⟩
        have := h2 x List.mem_cons_self
        simp at hy
        rcases hy with rfl | rfl | hy
        · exact this
        · omega
        · exact h2 y (List.mem_cons_of_mem _ hy)
  intro l m h
  cases l with
  | nil => cases h
  | cons x l =>
    have := key l x
    rw [← Option.some.inj h]
    exact this
/-- a list's ints, its truth values -/
def intsOf : List D → Option (List Int)
  | [] => some []
  | .int i :: l => (intsOf l).map (i :: ·)
  | _ :: _ => none
def blsOf : List D → Option (List Bool)
  | [] => some []
  | .bl i :: l => (blsOf l).map (i :: ·)
  | _ :: _ => none
def strsOf : List D → Option (List Str)
  | [] => some []
  | .str i :: l => (strsOf l).map (i :: ·)
  | _ :: _ => none
theorem intsOf_rep {K : PySem.W.Frag} {F : Hp} : ∀ {l : List D} {vs : List V} {ns : List Int}, RepL K cA F l vs → intsOf l = some ns → vs = ns.map V.int
  | [], _, _, r, e => by cases (show _ = [] from r); cases e; rfl
  | x :: l, _, _, r, e => by
    obtain ⟨v, r', rfl, h1, h2⟩ := r
    cases x <;> simp only [intsOf] at e <;> first | cases e | skip
    cases q : intsOf l with
    | none => rw [q] at e; cases e
    | some ns =>
      rw [q] at e
      cases e
      rw [intsOf_rep h2 q, show v = V.int _ from h1]
      rfl
theorem blsOf_rep {K : PySem.W.Frag} {F : Hp} : ∀ {l : List D} {vs : List V} {ns : List Bool}, RepL K cA F l vs → blsOf l = some ns → vs = ns.map V.bl
  | [], _, _, r, e => by cases (show _ = [] from r); cases e; rfl
  | x :: l, _, _, r, e => by
    obtain ⟨v, r', rfl, h1, h2⟩ := r
    cases x <;> simp only [blsOf] at e <;> first | cases e | skip
    cases q : blsOf l with
    | none => rw [q] at e; cases e
    | some ns =>
      rw [q] at e
      cases e
      rw [blsOf_rep h2 q, show v = V.bl _ from h1]
      rfl
theorem strsOf_rep {K : PySem.W.Frag} {F : Hp} : ∀ {l : List D} {vs : List V} {ns : List Str}, RepL K cA F l vs → strsOf l = some ns → vs = ns.map V.str
  | [], _, _, r, e => by cases (show _ = [] from r); cases e; rfl
  | x :: l, _, _, r, e => by
    obtain ⟨v, r', rfl, h1, h2⟩ := r
    cases x <;> simp only [strsOf] at e <;> first | cases e | skip
    cases q : strsOf l with
    | none => rw [q] at e; cases e
    | some ns =>
      rw [q] at e
      cases e
      rw [strsOf_rep h2 q, show v = V.str _ from h1]
      rfl
@[simp] theorem intsOf_map (ns : List Int) : intsOf (ns.map .int) = some ns := by
  induction ns with
  | nil => rfl
  | cons n ns ih => rw [List.map_cons, intsOf, ih]; rfl
@[simp] theorem blsOf_map (ns : List Bool) : blsOf (ns.map .bl) = some ns := by
  induction ns with
  | nil => rfl
  | cons n ns ih => rw [List.map_cons, blsOf, ih]; rfl
@[simp] theorem strsOf_map (ns : List Str) : strsOf (ns.map .str) = some ns := by
  induction ns with
  | nil => rfl
  | cons n ns ih => rw [List.map_cons, strsOf, ih]; rfl
/-- a function of a list of data -/
def fLst (f : List D → Option D) (w : Wv) (M : Sto) : Rs Wv := match seqw M w with
  | some (true, ws) => match nds M ws with
    | some l => rsd M (f l)
    | none => .no
  | _ => .no
theorem fLst_at {K : PySem.W.Frag} {z : Z0} {g : Gh} {H : Hp} {M : Sto} {E : Exn → Sto → Gh → Hp → Prop} {f : List D → Option D} {w : Wv} {x : V} {P : Wv → Sto → Gh → Hp → Prop} (c : Cf K cA z H M g) (rx : RW K cA g M.length w x)
    (q : Res K cA z g M.length E (fLst f w M) P) : ∃ a vs l d, x = .ref a ∧ SqL K H a vs ∧ RepL K cA g.F l vs ∧ f l = some d ∧ vs.length ≤ sizeLine ∧ Res K cA z g M.length E (.ok (.d d) M : Rs Wv) P := by
  cases e : seqw M w with
  | none => simp [fLst, e, Res] at q
  | some p =>
    obtain ⟨b, ws⟩ := p
    cases b with
    | false => simp [fLst, e, Res] at q
    | true =>
      cases e2 : nds M ws with
      | none => simp [fLst, e, e2, Res] at q
      | some l =>
        cases e3 : f l with
        | none => simp [fLst, e, e2, e3, Res] at q
        | some d =>
          simp only [fLst, e, e2, e3, rsd_some] at q
          obtain ⟨a, vs, rfl, h1, h2, h3⟩ := seqw_at c rx e
          exact ⟨a, vs, l, d, rfl, by simpa using h1, nds_rep c h3 e2, e3, h2, q⟩
def dMaxL (l : List D) : Option D := (intsOf l).bind fun ns => (maxL ns).map .int
def dMinL (l : List D) : Option D := (intsOf l).bind fun ns => (minL ns).map .int
def dSum (l : List D) : Option D := (intsOf l).map fun ns => .int ns.sum
def dAny (l : List D) : Option D := (blsOf l).map fun bs => .bl (bs.any _root_.id)
def dAll (l : List D) : Option D := (blsOf l).map fun bs => .bl (bs.all _root_.id)
theorem ok_any {K : PySem.W.Frag} : OkL K cA (f1 (fLst dAny)) (rAny K) := okL1 fun z g H M E w x Q c rx q => by
  obtain ⟨a, vs, l, d, rfl, h1, h2, h3, _, h4⟩ := fLst_at c rx q
  cases e : blsOf l with
  | none => rw [dAny, e] at h3; cases h3
  | some bs =>
    rw [dAny, e] at h3
    cases h3
    have ev := blsOf_rep h2 e
    subst ev
    exact ⟨a, bs, rfl, h1, h4 H g c Le.refl _ rfl⟩
theorem ok_all {K : PySem.W.Frag} : OkL K cA (f1 (fLst dAll)) (rAll K) := okL1 fun z g H M E w x Q c rx q => by
  obtain ⟨a, vs, l, d, rfl, h1, h2, h3, _, h4⟩ := fLst_at c rx q
  cases e : blsOf l with
  | none => rw [dAll, e] at h3; cases h3
  | some bs =>
    rw [dAll, e] at h3
    cases h3
    have ev := blsOf_rep h2 e
    subst ev
    exact ⟨a, bs, rfl, h1, h4 H g c Le.refl _ rfl⟩
theorem ok_sum {K : PySem.W.Frag} : OkL K cA (f1 (fLst dSum)) (rSum K) := okL1 fun z g H M E w x Q c rx q => by
  obtain ⟨a, vs, l, d, rfl, h1, h2, h3, _, h4⟩ := fLst_at c rx q
  cases e : intsOf l with
  | none => rw [dSum, e] at h3; cases h3
  | some bs =>
    rw [dSum, e] at h3
    cases h3
    have ev := intsOf_rep h2 e
    subst ev
    exact ⟨a, bs, rfl, h1, h4 H g c Le.refl _ rfl⟩
theorem ok_maxl {K : PySem.W.Frag} : OkL K cA (f1 (fLst dMaxL)) (rMax K) := okL1 fun z g H M E w x Q c rx q => by
  obtain ⟨a, vs, l, d, rfl, h1, h2, h3, _, h4⟩ := fLst_at c rx q
  cases e : intsOf l with
  | none => rw [dMaxL, e] at h3; cases h3
  | some bs =>
    rw [dMaxL, e] at h3
    cases e2 : maxL bs with
    | none => simp [e2] at h3
    | some m =>
      simp [e2] at h3
      subst h3
      have ev := intsOf_rep h2 e
      subst ev
      obtain ⟨m1, m2⟩ := maxL_spec e2
      refine ⟨a, bs, rfl, h1, List.length_pos_of_mem m1, fun m' k1 k2 => ?_⟩
      have : m' = m := Int.le_antisymm (m2 _ k1) (k2 _ m1)
      subst this
      exact h4 H g c Le.refl _ rfl
theorem ok_minl {K : PySem.W.Frag} : OkL K cA (f1 (fLst dMinL)) (rMin K) := okL1 fun z g H M E w x Q c rx q => by
  obtain ⟨a, vs, l, d, rfl, h1, h2, h3, _, h4⟩ := fLst_at c rx q
  cases e : intsOf l with
  | none => rw [dMinL, e] at h3; cases h3
  | some bs =>
    rw [dMinL, e] at h3
    cases e2 : minL bs with
    | none => simp [e2] at h3
    | some m =>
      simp [e2] at h3
      subst h3
      have ev := intsOf_rep h2 e
      subst ev
      obtain ⟨m1, m2⟩ := minL_spec e2
      refine ⟨a, bs, rfl, h1, List.length_pos_of_mem m1, fun m' k1 k2 => ?_⟩
      have : m' = m := Int.le_antisymm (k2 _ m1) (m2 _ k1)
      subst this
      exact h4 H g c Le.refl _ rfl
/-- insertion into a rising list -/
def ins1 (x : Int) : List Int → List Int
  | [] => [x]
  | y :: l => if x ≤ y then x :: y :: l else y :: ins1 x l
def sortI (l : List Int) : List Int := l.foldr ins1 []
def dSortI (l : List D) : Option D := (intsOf l).map fun ns => .lst ((sortI ns).map .int)
end
end DL

/-! Layer D: statements. -/
namespace DL
open PySem PySem.Spec PyProof.Rows L2

/-- an expression within a statement -/
def sx {α : Type} (env : Ev) (r : Rs α) (k : α → Sto → Rs Out) : Rs Out := match r with
  | .ok a M => k a M
  | .ex x M => .ok (.xc env x) M
  | .no => .no
@[simp] theorem sx_ok {α : Type} (env : Ev) (a : α) (M : Sto) (k : α → Sto → Rs Out) : sx env (.ok a M) k = k a M := rfl
@[simp] theorem sx_ex {α : Type} (env : Ev) (x : Exn) (M : Sto) (k : α → Sto → Rs Out) : sx env (.ex x M : Rs α) k = .ok (.xc env x) M := rfl
@[simp] theorem sx_no {α : Type} (env : Ev) (k : α → Sto → Rs Out) : sx env (.no : Rs α) k = .no := rfl
abbrev noE : Exn → Sto → Gh → Hp → Prop := fun _ _ _ _ => False
section
variable {K : PySem.W.Frag} {cA : Nat → Addr} {z : Z0} {g : Gh} {n : Nat} {α : Type} {Wx : WX} {env : Ev} {σ : St} {D : Ends}
theorem sx_of {r : Rs α} {k : α → Sto → Rs Out} (h : Res K cA z g n noE (sx env r k) (OutP K cA Wx D)) (sl : Slots K cA g n env σ) :
    Res K cA z g n (EX K cA Wx σ) r fun a M1 g1 _ => Res K cA z g1 M1.length noE (k a M1) (OutP K cA Wx D) := by
  cases r with
  | ok a M1 =>
    intro H' g' c l
    have h' : Res K cA z g n noE (k a M1) (OutP K cA Wx D) := h
    exact h'.later l
  | ex x M1 => exact fun H' g' c l cls d rx => h H' g' c l σ cls d (sl.mono l) rx
  | no => exact h
end
def sNext : SD := fun env M => .ok (.nx env) M
def sSeq (a b : SD) : SD := fun env M => (a env M).bind fun o M1 => match o with
  | .nx e => b e M1
  | .rt w => .ok (.rt w) M1
  | .bk e => .ok (.bk e) M1
  | .ct e => .ok (.ct e) M1
  | .xc e x => .ok (.xc e x) M1
def sExpr (m : ED) : SD := fun env M => sx env (m env M) fun _ M1 => .ok (.nx env) M1
def sRet (m : ED) : SD := fun env M => sx env (m env M) fun w M1 => .ok (.rt w) M1
def sRetN : SD := fun _ M => .ok (.rt (.d .non)) M
def sIf (t : TD) (a b : SD) : SD := fun env M => sx env (t env M) fun k M1 => if k = true then a env M1 else b env M1
def sNever : SD := fun _ _ => .no
def sBrk : SD := fun env M => .ok (.bk env) M
def sCnt : SD := fun env M => .ok (.ct env) M
/-- targets -/
abbrev GD := Wv → Ev → Sto → Rs Ev
def tgN (i : Nat) : GD := fun w env M => .ok (env.set i (some w)) M
def sAsg (g : GD) (m : ED) : SD := fun env M => sx env (m env M) fun w M1 => (g w env M1).bind fun e M2 => .ok (.nx e) M2
def TGD (K : PySem.W.Frag) (cA : Nat → Addr) (m : GD) : TG := fun v σ H Q => ∃ z env M g w, Cf K cA z H M g ∧ Slots K cA g M.length env σ ∧ RW K cA g M.length w v ∧ Res K cA z g M.length noE (m w env M) fun e M' g' H' => ∀ σ', Slots K cA g' M'.length e σ' → Q σ' H'
theorem PG.imp {X : Cx} {e : Expr} {t t' : TG} (h : PG X e t) (i : ∀ v σ H Q, t' v σ H Q → t v σ H Q) : PG X e t' := ⟨fun pins s σ H v u Q I r q => h.run pins s σ H v u Q I r (i _ _ _ _ q)⟩
section
variable {X : Cx} {cA : Nat → Addr} {Wx : WX} {a b c e : Expr} {ma mb mc : ED} {mr : AD} {ta tc : TD} {ms mt : SD} {st : Stmt} {sts sts2 : List Stmt} {p pos apos : Pos}
theorem s_nil : PSs X [] (TSD X.K cA Wx sNext) := PSs.imp pss_nil fun D σ H ⟨z, env, M, g, c, sl, q⟩ => q H g c Le.refl σ sl
theorem out_seq {K : PySem.W.Frag} {z : Z0} {g : Gh} {n : Nat} {D : Ends} {r : Rs Out} (h : Res K cA z g n noE (r.bind fun o M1 => match o with
      | .nx e => mt e M1
      | .rt w => .ok (.rt w) M1
      | .bk e => .ok (.bk e) M1
      | .ct e => .ok (.ct e) M1
      | .xc e x => .ok (.xc e x) M1) (OutP K cA Wx D)) : Res K cA z g n noE r (OutP K cA Wx { D with nx := TSD K cA Wx mt D }) := by
  refine Res.imp (fun o M1 g1 H1 c1 l1 q1 => ?_) h.of_bind
  cases o with
  | nx e => exact fun σ' sl' => ⟨z, e, M1, g1, c1, sl', q1⟩
  | rt w => exact q1 H1 g1 c1 Le.refl
  | bk e => exact q1 H1 g1 c1 Le.refl
  | ct e => exact q1 H1 g1 c1 Le.refl
  | xc e x => exact q1 H1 g1 c1 Le.refl
theorem s_cons (h1 : PS X st (TSD X.K cA Wx ms)) (h2 : PSs X sts (TSD X.K cA Wx mt)) : PSs X (st :: sts) (TSD X.K cA Wx (sSeq ms mt)) :=
  PSs.imp (pss_cons h1 h2) fun D σ H ⟨z, env, M, g, c, sl, q⟩ => ⟨z, env, M, g, c, sl, out_seq q⟩
theorem s_one (h1 : PS X st (TSD X.K cA Wx ms)) : PSs X [st] (TSD X.K cA Wx ms) := pss_one h1
theorem s_expr (ha : PE X a (TED X.K cA Wx ma)) (hs : swapsWith a none pos.line X.env = pure false := by rfl) : PS X (.Expr a pos) (TSD X.K cA Wx (sExpr ma)) :=
  PS.imp (ps_expr ha hs) fun D σ H ⟨z, env, M, g, c, sl, q⟩ => ⟨z, env, M, g, c, sl, Res.imp (fun w M1 g1 H1 c1 l1 q1 v rv => q1 H1 g1 c1 Le.refl σ (sl.mono l1)) (sx_of q sl)⟩
theorem s_ret (ha : PE X a (TED X.K cA Wx ma)) : PS X (.Return (some a) pos) (TSD X.K cA Wx (sRet ma)) :=
  PS.imp (ps_ret ha) fun D σ H ⟨z, env, M, g, c, sl, q⟩ => ⟨z, env, M, g, c, sl, Res.imp (fun w M1 g1 H1 c1 l1 q1 v rv => q1 H1 g1 c1 Le.refl v rv) (sx_of q sl)⟩
theorem s_retN : PS X (.Return none pos) (TSD X.K cA Wx sRetN) :=
  PS.imp ps_retN fun D σ H ⟨z, env, M, g, c, sl, q⟩ => q H g c Le.refl .non rfl
theorem s_if (ht : PT X a (TTD X.K cA Wx ta)) (h1 : PSs X sts (TSD X.K cA Wx ms)) (h2 : PSs X sts2 (TSD X.K cA Wx mt)) : PS X (.If a sts sts2 pos) (TSD X.K cA Wx (sIf ta ms mt)) :=
  PS.imp (ps_if ht h1 h2) fun D σ H ⟨z, env, M, g, c, sl, q⟩ => by
    refine ⟨z, env, M, g, c, sl, Res.imp (fun k M1 g1 H1 c1 l1 q1 => ?_) (sx_of q sl)⟩
    cases k with
    | true => exact iteT ⟨z, env, M1, g1, c1, sl.mono l1, q1⟩
    | false => exact iteF ⟨z, env, M1, g1, c1, sl.mono l1, q1⟩
theorem s_never : PS X st (TSD X.K cA Wx sNever) := PS.imp ps_never fun D σ H ⟨z, env, M, g, c, sl, q⟩ => q.elim
theorem ss_never : PSs X sts (TSD X.K cA Wx sNever) := PSs.imp pss_never fun D σ H ⟨z, env, M, g, c, sl, q⟩ => q.elim
theorem s_pass : PS X (.Pass pos) (TSD X.K cA Wx sNext) := PS.imp ps_pass fun D σ H ⟨z, env, M, g, c, sl, q⟩ => q H g c Le.refl σ sl
theorem s_brk : PS X (.Break pos) (TSD X.K cA Wx sBrk) := PS.imp ps_break fun D σ H ⟨z, env, M, g, c, sl, q⟩ => q H g c Le.refl σ sl
theorem s_cnt : PS X (.Continue pos) (TSD X.K cA Wx sCnt) := PS.imp ps_continue fun D σ H ⟨z, env, M, g, c, sl, q⟩ => q H g c Le.refl σ sl
theorem g_name {i : Nat} {x : Str} (hN : X.N.Nodup) (hi : X.N[i]? = some x := by rfl) (hx : Loc X.env.scope x := by first | exact .inl rfl | exact .inr rfl) (hf : X.fn x = true ∨ X.env.scope.names.lookup x = some .local := by first | exact .inl rfl | exact .inr rfl) :
    PG X (.Name x pos) (TGD X.K cA (tgN i)) := PG.imp (pg_name hN hi hx hf) fun v σ H Q ⟨z, env, M, g, w, c, sl, rw1, q⟩ => q H g c Le.refl _ (sl.set rw1 i)
theorem s_asg {tg e : Expr} {mg : GD} (he : PE X e (TED X.K cA Wx ma)) (hg : PG X tg (TGD X.K cA mg)) (hs : swapsWithSole [tg] e pos.line X.env = pure false := by rfl) (hw : swappedStores [tg] e X.env = pure none := by rfl) (h1 : List.map (fun x => x.snd) (assignEach [tg] X.env) = [assign tg X.env] := by rfl) :
    PS X (.Assign [tg] e pos) (TSD X.K cA Wx (sAsg mg ma)) := PS.imp (ps_asg he hg hs hw h1) fun D σ H ⟨z, env, M, g, c, sl, q⟩ => by
  refine ⟨z, env, M, g, c, sl, Res.imp (fun w M1 g1 H1 c1 l1 q1 v rv => ?_) (sx_of q sl)⟩
  refine ⟨z, env, M1, g1, w, c1, sl.mono l1, rv, Res.imp (fun e M2 g2 H2 c2 l2 q2 σ' sl' => ?_) q1.of_bind⟩
  exact q2 H2 g2 c2 Le.refl σ' sl'
theorem s_set {i : Nat} {x : Str} {e : Expr} {pos' : Pos} (hN : X.N.Nodup) (he : PE X e (TED X.K cA Wx ma)) (hi : X.N[i]? = some x := by rfl) (hx : Loc X.env.scope x := by first | exact .inl rfl | exact .inr rfl) (hs : swapsWith e (some (.Name x pos')) pos.line X.env = pure false := by rfl)
    (hf : X.fn x = true ∨ X.env.scope.names.lookup x = some .local := by first | exact .inl rfl | exact .inr rfl) : PS X (.Assign [.Name x pos'] e pos) (TSD X.K cA Wx (sAsg (tgN i) ma)) := PS.imp (ps_set hN hi hx he hs hf) fun D σ H ⟨z, env, M, g, c, sl, q⟩ => by
  refine ⟨z, env, M, g, c, sl, Res.imp (fun w M1 g1 H1 c1 l1 q1 v rv => ?_) (sx_of q sl)⟩
  exact q1 H1 g1 c1 Le.refl _ ((sl.mono l1).set rv i)
/-- a, b = e1, e2 -/
def sPar (i j : Nat) (a : AD) : SD := fun env M => sx env (a env M) fun ws M1 => match ws with
  | [w, u] => .ok (.nx ((env.set i (some w)).set j (some u))) M1
  | _ => .no
theorem s_par {i j : Nat} {x y : Str} {a b : Expr} {px py pt : Pos} {kt k2 pt2} (h : PS X (.Assign [.Tuple [.Name x px, .Name y py] kt pt] (.Tuple [a, b] k2 pt2) pos) (tPar i j (TAD X.K cA Wx mr))) :
    PS X (.Assign [.Tuple [.Name x px, .Name y py] kt pt] (.Tuple [a, b] k2 pt2) pos) (TSD X.K cA Wx (sPar i j mr)) := PS.imp h fun D σ H ⟨z, env, M, g, c, sl, q⟩ => by
  refine ⟨z, env, M, g, c, sl, Res.imp (fun ws M1 g1 H1 c1 l1 q1 vs rvs => ?_) (sx_of q sl)⟩
  match ws, rvs, q1 with
  | [w, u], .cons r1 (.cons r2 .nil), q1 => exact ⟨_, _, rfl, q1 H1 g1 c1 Le.refl _ (((sl.mono l1).set r1 i).set r2 j)⟩
  | [], _, q1 => exact q1.elim
  | [_], _, q1 => exact q1.elim
  | _ :: _ :: _ :: _, _, q1 => exact q1.elim
/-! ### tuple targets -/
abbrev GDs := List Wv → Ev → Sto → Rs Ev
def tgsN : GDs := fun ws env M => match ws with
  | [] => .ok env M
  | _ => .no
def tgsC (g : GD) (r : GDs) : GDs := fun ws env M => match ws with
  | w :: ws' => (g w env M).bind fun e M1 => r ws' e M1
  | [] => .no
def tgT (n : Nat) (r : GDs) : GD := fun w env M => match seqw M w with
  | some (false, ws) => if ws.length = n then r ws env M else .no
  | _ => .no
def TGsD (K : PySem.W.Frag) (cA : Nat → Addr) (m : GDs) : TGs := fun vs σ H Q => ∃ z env M g ws, Cf K cA z H M g ∧ Slots K cA g M.length env σ ∧ Paired (RW K cA g M.length) ws vs ∧ Res K cA z g M.length noE (m ws env M) fun e M' g' H' => ∀ σ', Slots K cA g' M'.length e σ' → Q σ' H'
theorem PGs.imp {X : Cx} {e : List Expr} {t t' : TGs} (h : PGs X e t) (i : ∀ v σ H Q, t' v σ H Q → t v σ H Q) : PGs X e t' := ⟨fun pins s σ H v u Q I r q => h.run pins s σ H v u Q I r (i _ _ _ _ q)⟩
theorem gs_nil : PGs X [] (TGsD X.K cA tgsN) := PGs.imp pgs_nil fun vs σ H Q ⟨z, env, M, g, ws, c, sl, rw1, q⟩ => by
  match ws, rw1, q with
  | [], .nil, q => exact ⟨rfl, q H g c Le.refl σ sl⟩
  | _ :: _, _, q => exact q.elim
theorem gs_cons {es : List Expr} {mg : GD} {mgs : GDs} (h1 : PG X e (TGD X.K cA mg)) (h2 : PGs X es (TGsD X.K cA mgs)) (h3 : PGs X (e :: es) (gCons (TGD X.K cA mg) (TGsD X.K cA mgs))) : PGs X (e :: es) (TGsD X.K cA (tgsC mg mgs)) :=
  PGs.imp h3 fun vs σ H Q ⟨z, env, M, g, ws, c, sl, rw1, q⟩ => by
    match ws, rw1, q with
    | [], _, q => exact q.elim
    | w :: ws', .cons r1 r2, q =>
      refine ⟨_, _, rfl, z, env, M, g, w, c, sl, r1, Res.imp (fun e M1 g1 H1 c1 l1 q1 σ' sl' => ?_) q.of_bind⟩
      exact ⟨z, e, M1, g1, ws', c1, sl', RWs.mono l1 r2, q1⟩
theorem g_tup {es : List Expr} {k : Nat} {mgs : GDs} {n : Nat} (h : PG X (.Tuple es k pos) (gTup X.K n (TGsD X.K cA mgs))) : PG X (.Tuple es k pos) (TGD X.K cA (tgT n mgs)) :=
  PG.imp h fun v σ H Q ⟨z, env, M, g, w, c, sl, rw1, q⟩ => by
    cases e : seqw M w with
    | none => simp [tgT, e, Res] at q
    | some p =>
      obtain ⟨b, ws⟩ := p
      cases b with
      | true => simp [tgT, e, Res] at q
      | false =>
        simp only [tgT, e] at q
        by_cases hn : ws.length = n
        · rw [if_pos hn] at q
          obtain ⟨a, vs, rfl, h1, h2, h3⟩ := seqw_at c rw1 e
          exact ⟨a, vs, rfl, by simpa using h1, by rw [← hn]; exact (Paired.length h3).symm, z, env, M, g, ws, c, sl, h3, q⟩
        · rw [if_neg hn] at q
          exact q.elim
end

/-! ### what a for walks -/
inductive Src where
  | its (l : List Wv) | live (k : Nat)
def Src.at (s : Src) (M : Sto) : Option (List Wv) := match s with
  | .its l => some l
  | .live k => match M[k]? with
    | some (.lst ws) => some ws
    | _ => none
@[simp] theorem Src.at_its (l : List Wv) (M : Sto) : (Src.its l).at M = some l := rfl
abbrev ID := Ev → Sto → Rs Src
def JOk (K : PySem.W.Frag) (cA : Nat → Addr) (z : Z0) (g : Gh) (n : Nat) (s : Src) (J : It) : Prop := ∀ (i : Nat) (H2 : Hp) (M2 : Sto) (g2 : Gh) (ws : List Wv), Cf K cA z H2 M2 g2 → Le g n g2 M2.length → s.at M2 = some ws →
  (∀ w, ws[i]? = some w → J.go i H2 ∧ ∀ x H3, J.yld i H2 x H3 → ∃ g3, Cf K cA z H3 M2 g3 ∧ Le g2 M2.length g3 M2.length ∧ RW K cA g3 M2.length w x) ∧ (ws.length ≤ i → J.stop i H2)
def TID (K : PySem.W.Frag) (cA : Nat → Addr) (Wx : WX) (m : ID) : TI := fun σ H R => ∃ z env M g, Cf K cA z H M g ∧ Slots K cA g M.length env σ ∧ Res K cA z g M.length (EX K cA Wx σ) (m env M) fun s M' g' H' => ∀ J, (∀ z, JOk K cA z g' M'.length s J) → R J H'
end DL

/-! Layer D: loops and comprehensions. -/
namespace DL
open PySem PySem.Spec PyProof.Rows L2

/-! ### a step within a step: entering and leaving -/
def ent (H : Hp) (M : Sto) (g : Gh) : Z0 := ⟨H, g.F, g.ad, M.length⟩
section
variable {K : PySem.W.Frag} {cA : Nat → Addr} {z : Z0} {H H' : Hp} {M M' : Sto} {g g' : Gh}
theorem Cf.enter (c : Cf K cA z H M g) : Cf K cA (ent H M g) H M g :=
  ⟨c.sub, c.sto, c.inj, Same.refl _, fun a o e _ => e, fun a h => .inl h, fun _ _ => rfl, fun k h1 h2 => absurd h2 (Nat.not_lt.mpr h1), Nat.le_refl _⟩
theorem Cf.ad0 (c : Cf K cA z H M g) {k : Nat} (hk : k < M.length) : (∃ j, j < z.n0 ∧ g.ad k = z.ad0 j) ∨ z.H0 (g.ad k) = none := by
  by_cases h : k < z.n0
  · exact .inl ⟨k, h, c.ad k h⟩
  · exact .inr (c.nw k (Nat.not_lt.mp h) hk)
theorem Cf.leave (c : Cf K cA z H M g) (d : Cf K cA (ent H M g) H' M' g') : Cf K cA z H' M' g' := by
  refine ⟨d.sub, d.sto, d.inj, c.f0.trans d.f0, fun a o e h => ?_, fun a h => ?_, fun k h => ?_, fun k h1 h2 => ?_, Nat.le_trans c.ln d.ln⟩
  · refine d.fr a o (c.fr a o e h) fun k hk q => ?_
    rcases c.ad0 hk with ⟨j, hj, e2⟩ | e2
    · exact h j hj (q.trans e2)
    · rw [← show a = g.ad k from q, e] at e2
      cases e2
  · rcases d.fs a h with q | q | ⟨k, hk, q⟩
    · exact c.fs a q
    · exact .inr (.inl (c.free0 q).1)
    · rcases c.ad0 hk with ⟨j, hj, e2⟩ | e2
      · exact .inr (.inr ⟨j, hj, q.trans e2⟩)
      · exact .inr (.inl (by rw [q]; exact e2))
  · exact (d.ad k (Nat.lt_of_lt_of_le h c.ln)).trans (c.ad k h)
  · by_cases hk : k < M.length
    · rw [d.ad k hk]
      exact c.nw k h1 hk
    · exact (c.free0 (d.nw k (Nat.not_lt.mp hk) h2)).1
/-- a cell that is neither frozen nor in the store -/
structure Loose (z : Z0) (M : Sto) (g : Gh) (a : Addr) : Prop where
  F : g.F a = none
  ad : ∀ k, k < M.length → g.ad k ≠ a
  H0 : z.H0 a = none
theorem Cf.scrib (c : Cf K cA z H M g) {a : Addr} {ho : HO} (l : Loose z M g a) : Cf K cA z (upd H a ho) M g := by
  refine ⟨fun b o e => ?_, fun k m e => ?_, c.inj, c.f0, fun b o e h => ?_, c.fs, c.ad, c.nw, c.ln⟩
  · rw [upd_ne (ne_of_none e l.F)]
    exact c.sub b o e
  · have hk : k < M.length := (List.getElem?_eq_some_iff.mp e).1
    exact (c.sto k m e).keep Le.refl (upd_ne (l.ad k hk)) fun f => f
  · rw [upd_ne (ne_of_none e l.H0)]
    exact c.fr b o e h
theorem Cf.adopt (c : Cf K cA z H M g) {a : Addr} {ho : HO} (l : Loose z M g a) (e : H a = some ho) : Cf K cA z H M { g with F := upd g.F a ho } ∧ Le g M.length { g with F := upd g.F a ho } M.length := by
  have le : Le g M.length { g with F := upd g.F a ho } M.length := ⟨Same.upd' l.F, fun _ _ => rfl, Nat.le_refl _⟩
  refine ⟨⟨fun b o q => ?_, fun k m q => ?_, c.inj, c.f0.trans (Same.upd' l.F), c.fr, fun b h => ?_, c.ad, c.nw, c.ln⟩, le⟩
  · have q' : upd g.F a ho b = some o := q
    by_cases hb : b = a
    · subst hb
      rw [upd_same] at q'
      rw [e, q']
    · rw [upd_ne hb] at q'
      exact c.sub _ _ q'
  · have hk : k < M.length := (List.getElem?_eq_some_iff.mp q).1
    exact (c.sto k m q).keep le rfl fun f => (upd_ne (H := g.F) (o := ho) (l.ad k hk)).trans f
  · by_cases hb : b = a
    · subst hb
      exact .inr (.inl l.H0)
    · have h' : upd g.F a ho b ≠ none := h
      rw [upd_ne hb] at h'
      exact c.fs b h'
theorem Cf.adoptM (c : Cf K cA z H M g) {a : Addr} {mo : MO} (l : Loose z M g a) (hm : RM K cA (g.add M.length a) (M.length + 1) H a mo) :
    Cf K cA z H (M ++ [mo]) (g.add M.length a) ∧ Le g M.length (g.add M.length a) (M ++ [mo]).length := by
  have hl : (M ++ [mo]).length = M.length + 1 := by rw [List.length_append]; rfl
  have adk : ∀ k, k < M.length → (g.add M.length a).ad k = g.ad k := fun k hk => if_neg (Nat.ne_of_lt hk)
  have adn : (g.add M.length a).ad M.length = a := if_pos rfl
  have le : Le g M.length (g.add M.length a) (M ++ [mo]).length := ⟨Same.refl _, adk, by rw [hl]; omega⟩
  refine ⟨⟨c.sub, fun k m e => ?_, fun j k hj hk e => ?_, c.f0, c.fr, c.fs, fun k hk => ?_, fun k h1 h2 => ?_, by rw [hl]; exact Nat.le_succ_of_le c.ln⟩, le⟩
  · by_cases hk : k < M.length
    · rw [List.getElem?_append_left hk] at e
      rw [adk k hk]
      exact (c.sto k m e).keep le rfl fun f => f
    · have hk2 : k = M.length := by
        have := (List.getElem?_eq_some_iff.mp e).1
        omega
      subst hk2
      have : mo = m := by
        rw [List.getElem?_append_right (Nat.le_refl _), Nat.sub_self] at e
        simpa using e
      subst this
      rw [adn, hl]
      exact hm
  · rw [hl] at hj hk
    by_cases h1 : j < M.length
    · by_cases h2 : k < M.length
      · rw [adk j h1, adk k h2] at e
        exact c.inj j k h1 h2 e
      · have : k = M.length := by omega
        subst this
        rw [adk j h1, adn] at e
        exact absurd e (l.ad j h1)
    · have : j = M.length := by omega
      subst this
      by_cases h2 : k < M.length
      · rw [adk k h2, adn] at e
        exact absurd e.symm (l.ad k h2)
      · omega
  · rw [adk k (Nat.lt_of_lt_of_le hk c.ln)]
    exact c.ad k hk
  · rw [hl] at h2
    by_cases h3 : k < M.length
    · rw [adk k h3]
      exact c.nw k h1 h3
    · have : k = M.length := by omega
      subst this
      rw [adn]
      exact l.H0
theorem Cf.fresh (c : Cf K cA z H M g) {a : Addr} (h : H a = none) : Loose z M g a := ⟨c.sub.free h, (c.free0 h).2, (c.free0 h).1⟩
/-- a step leaves a loose cell as it was, and loose -/
theorem Loose.step (l : Loose z M g a) {ho : HO} (e : H a = some ho) (d : Cf K cA (ent H M g) H' M' g') : H' a = some ho ∧ Loose z M' g' a := by
  refine ⟨d.fr a ho e fun k hk q => l.ad k hk q.symm, ?_, fun k hk q => ?_, l.H0⟩
  · cases q : g'.F a with
    | none => rfl
    | some o =>
      rcases d.fs a (by rw [q]; exact fun z => by cases z) with h | h | ⟨k, hk, h⟩
      · exact absurd l.F h
      · rw [show (ent H M g).H0 = H from rfl, e] at h
        cases h
      · exact absurd h.symm (l.ad k hk)
  · by_cases h : k < M.length
    · rw [d.ad k h] at q
      exact l.ad k h q
    · have := d.nw k (Nat.not_lt.mp h) hk
      rw [q, show (ent H M g).H0 = H from rfl, e] at this
      cases this
end

/-! ### iterables -/
def srcw (w : Wv) (M : Sto) : Rs Src := match nw M w with
  | .d (.tup l) => .ok (.its (l.map .d)) M
  | .d (.lst l) => .ok (.its (l.map .d)) M
  | .d (.scr l) => .ok (.its (l.map .d)) M
  | .d (.str s) => .ok (.its (s.cps.toList.map fun c => .d (.str ⟨#[c]⟩))) M
  | .m k => match M[k]? with
    | some (.lst _) => .ok (.live k) M
    | _ => .no
  | _ => .no
def iSeq (m : ED) : ID := fun env M => (m env M).bind fun w M1 => srcw w M1
def iAny (K : PySem.W.Frag) (tl : TE) : TI := fun σ H R => tl σ H fun x H1 => (∃ a, x = .ref a ∧ (∃ xs, SqL K H1 a xs) ∧ R (Itl K a) H1) ∨ (∃ a, x = .ref a ∧ (∃ xs, SqT K H1 a xs) ∧ R (Itt K a) H1) ∨ ∃ s, x = .str s ∧ R (Its s) H1
section
variable {X : Cx} {cA : Nat → Addr} {Wx : WX} {a b c e tg iter elt : Expr} {ma mb mc : ED} {mr : AD} {ta tc : TD} {ms mt : SD} {mi mi1 : ID} {mg mg1 : GD} {st : Stmt} {sts sts2 : List Stmt} {p pos apos : Pos}
theorem pi_any {l : Expr} {tl : TE} (hl : PE X l tl) : PI X tg l (iAny X.K tl) := by
  refine ⟨fun pins s σ H R I h => ?_⟩
  refine thn (hl.run pins s σ H _ I h) fun v s1 ⟨x, H1, I1, r1, q1⟩ => ?_
  have kx : PE X l (fun σ' H' Q => σ' = σ ∧ H' = H1 ∧ True → Q x H1) → True := fun _ => trivial
  rcases q1 with ⟨a, e, ⟨xs, hq⟩, q⟩ | ⟨a, e, ⟨xs, hq⟩, q⟩ | ⟨t, e, q⟩
  · subst e
    cases r1
    obtain ⟨its, rv, p, hz⟩ := I1.list hq
    refine wpAny_pyIter_list p.isList ?_
    refine ⟨s1.heap.objs.size, [s1.heap.objs.size], _, _, H1, rfl, I1.kept (t' := s1.toks) fun b o e => Heap.get?_push_of_some _ e, turn_list a _, ⟨_, Heap.get?_push_size _ rfl, rfl, rfl⟩, fun b hb => ?_, q⟩
    have e : b = s1.heap.objs.size := by simpa using hb
    subst e
    exact I1.fpOk (Nat.le_refl _) (I1.hok.fresh (Nat.le_refl _))
  · subst e
    cases r1
    obtain ⟨its, rv, p, hz⟩ := I1.tuple hq
    refine wpAny_pyIter_tuple (show s1.heap.IsTuple a its.toArray from p) ?_
    refine ⟨s1.heap.objs.size, [s1.heap.objs.size], _, _, H1, rfl, I1.kept (t' := s1.toks) fun b o e => Heap.get?_push_of_some _ e, turn_tuple a _, ⟨_, Heap.get?_push_size _ rfl, rfl, rfl⟩, fun b hb => ?_, q⟩
    have e : b = s1.heap.objs.size := by simpa using hb
    subst e
    exact I1.fpOk (Nat.le_refl _) (I1.hok.fresh (Nat.le_refl _))
  · subst e
    obtain ⟨tk, rfl⟩ := r1
    cases ha : t.cps.all (· < 128)
    · exact wpAny_pyIter_wide ha (pi_one (tk := s1.toks) I1 _ (turn_str _ t tk "str_iterator" (.inr rfl)) ⟨_, Heap.get?_push_size _ rfl, rfl, rfl⟩ q)
    · exact wpAny_pyIter_ascii ha (pi_one (tk := s1.toks) I1 _ (turn_str _ t tk "str_ascii_iterator" (.inl rfl)) ⟨_, Heap.get?_push_size _ rfl, rfl, rfl⟩ q)
theorem map_some {α β : Type} {f : α → β} {l : List α} {i : Nat} {b : β} (h : (l.map f)[i]? = some b) : ∃ a, l[i]? = some a ∧ f a = b := by
  rw [List.getElem?_map] at h
  cases e : l[i]? with
  | none => rw [e] at h; cases h
  | some a => rw [e] at h; exact ⟨a, rfl, Option.some.inj h⟩
theorem jok_list {K : PySem.W.Frag} {z : Z0} {g : Gh} {n : Nat} {H : Hp} {l : List D} {a : Addr} {vs : List V} (h1 : SqL K g.F a vs) (h2 : RepL K cA g.F l vs) : JOk K cA z g n (.its (l.map .d)) (Itl K a) := by
  intro i H2 M2 g2 ws c2 l2 e
  cases (Option.some.inj e)
  have hs : SqL K H2 a vs := c2.sub.seq (l2.F.seq h1)
  refine ⟨fun w hw => ?_, fun hi => ⟨vs, hs, by rw [← h2.length]; simpa using hi⟩⟩
  obtain ⟨d, hd, rfl⟩ := map_some hw
  obtain ⟨v, hv, rv⟩ := h2.get hd
  refine ⟨⟨vs, v, hs, hv⟩, fun x H3 ⟨e3, f3⟩ => ?_⟩
  subst e3
  have := f3 vs hs
  rw [hv] at this
  cases this
  exact ⟨g2, c2, Le.refl, rv.mono l2.F⟩
theorem jok_tup {K : PySem.W.Frag} {z : Z0} {g : Gh} {n : Nat} {H : Hp} {l : List D} {a : Addr} {vs : List V} (h1 : SqT K g.F a vs) (h2 : RepL K cA g.F l vs) : JOk K cA z g n (.its (l.map .d)) (Itt K a) := by
  intro i H2 M2 g2 ws c2 l2 e
  cases (Option.some.inj e)
  have hs : SqT K H2 a vs := c2.sub.seqT (l2.F.seqT h1)
  refine ⟨fun w hw => ?_, fun hi => ⟨vs, hs, by rw [← h2.length]; simpa using hi⟩⟩
  obtain ⟨d, hd, rfl⟩ := map_some hw
  obtain ⟨v, hv, rv⟩ := h2.get hd
  refine ⟨⟨vs, v, hs, hv⟩, fun x H3 ⟨e3, f3⟩ => ?_⟩
  subst e3
  have := f3 vs hs
  rw [hv] at this
  cases this
  exact ⟨g2, c2, Le.refl, rv.mono l2.F⟩
theorem i_seq (ha : PE X a (TED X.K cA Wx ma)) : PI X tg a (TID X.K cA Wx (iSeq ma)) := PI.imp (pi_any ha) fun σ H R ⟨z, env, M, g, c, sl, q⟩ => by
  refine ⟨z, env, M, g, c, sl, Res.imp (fun w M1 g1 H1 c1 l1 q1 v rv => ?_) q.of_bind⟩
  have r' := rw_nw c1 rv
  cases e : nw M1 w with
  | m k =>
    rw [e] at r'
    obtain ⟨hk, rfl⟩ := r'
    simp only [srcw, e] at q1
    cases e2 : M1[k]? with
    | none => simp [e2, Res] at q1
    | some mo =>
      cases mo with
      | lst us =>
        simp only [e2] at q1
        obtain ⟨vs, h1, h2, h3, h4⟩ := c1.sto k _ e2
        refine .inl ⟨g1.ad k, rfl, ⟨vs, SqL.of h1⟩, q1 H1 g1 c1 Le.refl _ fun z i H2 M2 g2 ws c2 l2 es => ?_⟩
        cases e3 : M2[k]? with
        | none => simp [Src.at, e3] at es
        | some mo2 =>
          cases mo2 with
          | lst ws2 =>
            simp only [Src.at, e3, Option.some.injEq] at es
            subst es
            obtain ⟨us2, k1, k2, k3, k4⟩ := c2.sto k _ e3
            rw [l2.ad k hk] at k1
            refine ⟨fun w hw => ?_, fun hi => ⟨us2, SqL.of k1, by rw [← k4.length]; exact hi⟩⟩
            obtain ⟨v2, hv, rv2⟩ := Paired.get' k4 hw
            refine ⟨⟨us2, v2, SqL.of k1, hv⟩, fun x H3 ⟨e4, f4⟩ => ?_⟩
            subst e4
            have := f4 us2 (SqL.of k1)
            rw [hv] at this
            cases this
            exact ⟨g2, c2, Le.refl, rv2⟩
          | _ => simp [Src.at, e3] at es
      | _ => simp [e2, Res] at q1
  | d d =>
    rw [e] at r'
    simp only [srcw, e] at q1
    cases d with
    | tup l =>
      obtain ⟨a', vs, rfl, h1, h2, h3⟩ := r'
      exact .inr (.inl ⟨a', rfl, ⟨vs, c1.sub.seqT h1⟩, q1 H1 g1 c1 Le.refl _ (fun _ => jok_tup (H := H1) h1 h3)⟩)
    | lst l =>
      obtain ⟨a', vs, rfl, h1, h2, h3⟩ := r'
      exact .inl ⟨a', rfl, ⟨vs, SqL.of (c1.sub _ _ h1)⟩, q1 H1 g1 c1 Le.refl _ (fun _ => jok_list (H := H1) (SqL.of h1) h3)⟩
    | scr l =>
      obtain ⟨a', vs, rfl, h1, h2, h3⟩ := r'
      exact .inl ⟨a', rfl, ⟨vs, c1.sub.seq h1⟩, q1 H1 g1 c1 Le.refl _ (fun _ => jok_list (H := H1) h1 h3)⟩
    | str s =>
      cases (show v = .str s from r')
      refine .inr (.inr ⟨s, rfl, q1 H1 g1 c1 Le.refl _ fun z i H2 M2 g2 ws c2 l2 es => ?_⟩)
      cases (Option.some.inj es)
      refine ⟨fun w hw => ?_, fun hi => (show s.cps.size ≤ i by simpa using hi)⟩
      obtain ⟨ch, hc, rfl⟩ := map_some hw
      have hi : i < s.cps.size := by
        have := (List.getElem?_eq_some_iff.mp hc).1
        simpa using this
      refine ⟨hi, fun x H3 ⟨e3, c3, e4, e5⟩ => ?_⟩
      subst e3
      subst e5
      rw [Array.getElem?_toList] at hc
      rw [hc] at e4
      cases e4
      exact ⟨g2, c2, Le.refl, rfl⟩
    | _ => exact q1.elim
/-- a truth value that is not opened unasked -/
def shut (n : Nat) (b : Bool) : Bool := if h : n = 0 then b else shut (n / 2) b
termination_by n
theorem shut_eq (b : Bool) : shut 1 b = b := by
  unfold shut
  rw [dif_neg (by decide)]
  unfold shut
  rw [dif_pos (by decide)]
/-- range -/
def rngw (lo hi : Int) (M : Sto) : Rs Src := if shut 1 (decide (-(2 ^ 62) ≤ lo ∧ lo < 2 ^ 62 ∧ -(2 ^ 62) ≤ hi ∧ hi < 2 ^ 62)) = true then .ok (.its ((List.range (hi - lo).toNat).map fun (i : Nat) => .d (.int (lo + i)))) M else .no
def iR1 (m : AD) : ID := fun env M => (m env M).bind fun ws M1 => match ws with
  | [.d (.int j)] => rngw 0 j M1
  | _ => .no
def iR2 (m : AD) : ID := fun env M => (m env M).bind fun ws M1 => match ws with
  | [.d (.int i), .d (.int j)] => rngw i j M1
  | _ => .no
theorem jok_rng {K : PySem.W.Frag} {z : Z0} {g : Gh} {n : Nat} {lo : Int} {k : Nat} : JOk K cA z g n (.its ((List.range k).map fun (i : Nat) => .d (.int (lo + i)))) (Itr lo k) := by
  intro i H2 M2 g2 ws c2 l2 e
  cases (Option.some.inj e)
  refine ⟨fun w hw => ?_, fun hi => (show k ≤ i by simpa using hi)⟩
  obtain ⟨j, hj, rfl⟩ := map_some hw
  obtain ⟨hi, e2⟩ := List.getElem?_eq_some_iff.mp hj
  rw [List.getElem_range] at e2
  subst e2
  refine ⟨(show i < k by simpa using hi), fun x H3 ⟨e3, e4⟩ => ?_⟩
  subst e3
  subst e4
  exact ⟨g2, c2, Le.refl, rfl⟩
theorem i_r1 (hm : X.mg "range" = none) (ha : PA X [a] (TAD X.K cA Wx mr)) (hg : Gl X "range" := by rfl) (hs : starEach [a] X.env = [(false, eval a X.env)] := by rfl) : PI X tg (.Call (.Name "range" p) [a] [] pos) (TID X.K cA Wx (iR1 mr)) :=
  PI.imp (pi_range1 hg hm ha hs) fun σ H R ⟨z, env, M, g, c, sl, q⟩ => by
    refine ⟨z, env, M, g, c, sl, Res.imp (fun ws M1 g1 H1 c1 l1 q1 vs rv => ?_) q.of_bind⟩
    match ws, rv, q1 with
    | [.d (.int j)], .cons r1 .nil, q1 =>
      simp only [rngw, shut_eq] at q1
      split at q1
      · rename_i hd
        obtain ⟨h1, h2, h3, h4⟩ := of_decide_eq_true hd
        refine ⟨j, by rw [show _ = V.int j from r1], h3, h4, ?_⟩
        have e0 : (j - 0).toNat = j.toNat := by rw [Int.sub_zero]
        rw [e0] at q1
        exact q1 H1 g1 c1 Le.refl _ (fun _ => jok_rng)
      · exact q1.elim
theorem i_r2 (hm : X.mg "range" = none) (ha : PA X [a, b] (TAD X.K cA Wx mr)) (hg : Gl X "range" := by rfl) (hs : starEach [a, b] X.env = [(false, eval a X.env), (false, eval b X.env)] := by rfl) (hs2 : starEach [b] X.env = [(false, eval b X.env)] := by rfl) :
    PI X tg (.Call (.Name "range" p) [a, b] [] pos) (TID X.K cA Wx (iR2 mr)) :=
  PI.imp (pi_range2 hg hm ha hs hs2) fun σ H R ⟨z, env, M, g, c, sl, q⟩ => by
    refine ⟨z, env, M, g, c, sl, Res.imp (fun ws M1 g1 H1 c1 l1 q1 vs rv => ?_) q.of_bind⟩
    match ws, rv, q1 with
    | [.d (.int i), .d (.int j)], .cons r1 (.cons r2 .nil), q1 =>
      simp only [rngw, shut_eq] at q1
      split at q1
      · rename_i hd
        obtain ⟨h1, h2, h3, h4⟩ := of_decide_eq_true hd
        exact ⟨i, j, by rw [show _ = V.int i from r1, show _ = V.int j from r2], ⟨h1, h2, h3, h4⟩, q1 H1 g1 c1 Le.refl _ (fun _ => jok_rng)⟩
      · exact q1.elim

/-! ### for -/
def forS (s : Src) (tg : GD) (body : SD) : Nat → Nat → SD
  | 0, i, env, M => match s.at M with
    | some ws => if ws.length ≤ i then .ok (.nx env) M else .no
    | none => .no
  | f + 1, i, env, M => match s.at M with
    | none => .no
    | some ws => match ws[i]? with
      | none => .ok (.nx env) M
      | some w => (tg w env M).bind fun e M1 => (body e M1).bind fun o M2 => match o with
        | .nx e2 => forS s tg body f (i + 1) e2 M2
        | .ct e2 => forS s tg body f (i + 1) e2 M2
        | .bk e2 => .ok (.nx e2) M2
        | .rt w => .ok (.rt w) M2
        | .xc e x => .ok (.xc e x) M2
def sFor (src : ID) (tg : GD) (body : SD) : SD := fun env M => sx env (src env M) fun s M1 => match s.at M1 with
  | some ws => forS s tg body ws.length 0 env M1
  | none => .no
theorem s_for {body : List Stmt} (hp : PassesOwn (model X.prog X.w) X.A X.env X.xe) (hc : X.calm = true) (hi : PI X tg iter (TID X.K cA Wx mi)) (hg : PG X tg (TGD X.K cA mg)) (hb : PSs X body (TSD X.K cA Wx ms)) (hs : ∀ x, foldedSetIterable iter X.env x = pure x := by intro _; rfl) :
    PS X (.For tg iter body [] pos) (TSD X.K cA Wx (sFor mi mg ms)) := PS.imp (ps_for hp hc hi hg hb hs) fun D σ H ⟨z, env, M, g, c, sl, q⟩ => by
  refine ⟨z, env, M, g, c, sl, Res.imp (fun s M1 g1 H1 c1 l1 q1 J hJ => ?_) (sx_of q sl)⟩
  cases es : s.at M1 with
  | none => simp [es, Res] at q1
  | some ws0 =>
    simp only [es] at q1
    refine ⟨fun i m σ H => ∃ env M g, Cf X.K cA z H M g ∧ Le g1 M1.length g M.length ∧ Slots X.K cA g M.length env σ ∧ Res X.K cA z g M.length noE (forS s mg ms m i env M) (OutP X.K cA Wx D),
      ⟨ws0.length, env, M1, g1, c1, Le.refl, sl.mono l1, q1⟩, fun i m σ H ⟨env, M, g, c, l, sl, q⟩ => ?_⟩
    cases m with
    | zero =>
      unfold forS at q
      cases es : s.at M with
      | none => simp [es, Res] at q
      | some ws =>
        simp only [es] at q
        by_cases hi : ws.length ≤ i
        · rw [if_pos hi] at q
          exact .inl ⟨(hJ z i H M g ws c l es).2 hi, q H g c Le.refl σ sl⟩
        · rw [if_neg hi] at q
          exact q.elim
    | succ m =>
      unfold forS at q
      cases es : s.at M with
      | none => simp [es, Res] at q
      | some ws =>
        simp only [es] at q
        cases ew : ws[i]? with
        | none =>
          simp only [ew] at q
          exact .inl ⟨(hJ z i H M g ws c l es).2 (List.getElem?_eq_none_iff.mp ew), q H g c Le.refl σ sl⟩
        | some w =>
          simp only [ew] at q
          obtain ⟨hgo, hy⟩ := (hJ z i H M g ws c l es).1 w ew
          refine .inr ⟨hgo, fun σ' H' => ∃ env M g, Cf X.K cA z H' M g ∧ Le g1 M1.length g M.length ∧ Slots X.K cA g M.length env σ' ∧ Res X.K cA z g M.length noE (forS s mg ms m (i + 1) env M) (OutP X.K cA Wx D),
            fun σ' H' h => ⟨m, Nat.lt_succ_self _, h⟩, fun x H' hx => ?_⟩
          obtain ⟨g3, c3, l3, r3⟩ := hy x H' hx
          refine ⟨z, env, M, g3, w, c3, sl.mono l3, r3, Res.imp (fun e M4 g4 H4 c4 l4 q4 σ4 sl4 => ?_) (q.later l3).of_bind⟩
          refine ⟨z, e, M4, g4, c4, sl4, Res.imp (fun o M5 g5 H5 c5 l5 q5 => ?_) q4.of_bind⟩
          have le5 : Le g1 M1.length g5 M5.length := ((l.trans l3).trans l4).trans l5
          cases o with
          | nx e2 => exact fun σ' sl' => ⟨e2, M5, g5, c5, le5, sl', q5⟩
          | ct e2 => exact fun σ' sl' => ⟨e2, M5, g5, c5, le5, sl', q5⟩
          | bk e2 => exact q5 H5 g5 c5 Le.refl
          | rt w => exact q5 H5 g5 c5 Le.refl
          | xc e x => exact q5 H5 g5 c5 Le.refl

/-! ### while -/
def whS (t : TD) (body : SD) : Nat → SD
  | 0, _, _ => .no
  | f + 1, env, M => sx env (t env M) fun k M1 => if k = true then (body env M1).bind fun o M2 => match o with
      | .nx e2 => whS t body f e2 M2
      | .ct e2 => whS t body f e2 M2
      | .bk e2 => .ok (.nx e2) M2
      | .rt w => .ok (.rt w) M2
      | .xc e x => .ok (.xc e x) M2
    else .ok (.nx env) M1
theorem s_while {body : List Stmt} (f : Nat) (hp : PassesOwn (model X.prog X.w) X.A X.env X.xe) (ht : PT X a (TTD X.K cA Wx ta)) (hb : PSs X body (TSD X.K cA Wx ms)) :
    PS X (.While a body [] pos) (TSD X.K cA Wx (whS ta ms f)) := PS.imp (ps_while hp ht hb) fun D σ H ⟨z, env, M, g, c, sl, q⟩ => by
  refine ⟨fun m σ H => ∃ env M g, Cf X.K cA z H M g ∧ Slots X.K cA g M.length env σ ∧ Res X.K cA z g M.length noE (whS ta ms m env M) (OutP X.K cA Wx D), ⟨f, env, M, g, c, sl, q⟩, fun m σ H ⟨env, M, g, c, sl, q⟩ => ?_⟩
  cases m with
  | zero => exact q.elim
  | succ m =>
    unfold whS at q
    refine ⟨z, env, M, g, c, sl, Res.imp (fun k M1 g1 H1 c1 l1 q1 => ?_) (sx_of q sl)⟩
    cases k with
    | false => exact iteF (q1 H1 g1 c1 Le.refl σ (sl.mono l1))
    | true =>
      refine iteT ⟨fun σ' H' => ∃ env M g, Cf X.K cA z H' M g ∧ Slots X.K cA g M.length env σ' ∧ Res X.K cA z g M.length noE (whS ta ms m env M) (OutP X.K cA Wx D), fun σ' H' h => ⟨m, Nat.lt_succ_self _, h⟩, ?_⟩
      have q1' : Res X.K cA z g1 M1.length noE ((ms env M1).bind fun o M2 => match o with
        | .nx e2 => whS ta ms m e2 M2
        | .ct e2 => whS ta ms m e2 M2
        | .bk e2 => .ok (.nx e2) M2
        | .rt w => .ok (.rt w) M2
        | .xc e x => .ok (.xc e x) M2) (OutP X.K cA Wx D) := q1
      refine ⟨z, env, M1, g1, c1, sl.mono l1, Res.imp (fun o M5 g5 H5 c5 l5 q5 => ?_) q1'.of_bind⟩
      cases o with
      | nx e2 => exact fun σ' sl' => ⟨e2, M5, g5, c5, sl', q5⟩
      | ct e2 => exact fun σ' sl' => ⟨e2, M5, g5, c5, sl', q5⟩
      | bk e2 => exact q5 H5 g5 c5 Le.refl
      | rt w => exact q5 H5 g5 c5 Le.refl
      | xc e x => exact q5 H5 g5 c5 Le.refl
end
end DL

/-! Layer D: comprehensions. -/
namespace DL
open PySem PySem.Spec PyProof.Rows L2

def nx {α : Type} (r : Rs α) : Rs α := match r with
  | .ok a M => .ok a M
  | _ => .no
@[simp] theorem nx_ok {α : Type} (a : α) (M : Sto) : nx (.ok a M) = .ok a M := rfl
@[simp] theorem nx_no {α : Type} : nx (.no : Rs α) = .no := rfl
abbrev W0 : WX := fun _ _ _ _ => False
section
variable {K : PySem.W.Frag} {cA : Nat → Addr} {z : Z0} {g : Gh} {n : Nat} {H : Hp} {M : Sto} {α : Type} {E E' : Exn → Sto → Gh → Hp → Prop} {r : Rs α} {P : α → Sto → Gh → Hp → Prop}
theorem Res.ent {g0 : Gh} (c : Cf K cA z H M g0) (h : Res K cA z g n E r P) : Res K cA (ent H M g0) g n E r P := by
  cases r with
  | ok a M' => exact fun H' g' c' l => h H' g' (c.leave c') l
  | ex x M' => exact fun H' g' c' l => h H' g' (c.leave c') l
  | no => exact h
theorem Res.nx' (h : Res K cA z g n E (nx r) P) : Res K cA z g n E' r P := by
  cases r with
  | ok a M' => exact h
  | ex x M' => exact h.elim
  | no => exact h
end

def wipeE (env : Ev) : List Nat → Ev
  | [] => env
  | v :: vs => (wipeE env vs).set v none
theorem Slots.wipe {K : PySem.W.Frag} {cA : Nat → Addr} {g : Gh} {n : Nat} {env : Ev} {σ : St} (h : Slots K cA g n env σ) : ∀ vs : List Nat, Slots K cA g n (wipeE env vs) (L2.wipe σ vs)
  | [] => h
  | v :: vs => (Slots.wipe h vs).gone v
theorem wipe_set {σ : St} {i : Nat} {x : Option V} : ∀ {vs : List Nat}, i ∈ vs → L2.wipe (σ.set i x) vs = L2.wipe σ vs
  | v :: vs, h => by
    unfold L2.wipe
    by_cases hi : i ∈ vs
    · rw [wipe_set hi]
    · have hv : i = v := by
        rcases List.mem_cons.mp h with e | e
        · exact e
        · exact absurd e hi
      subst hv
      apply List.ext_getElem?
      intro j
      by_cases hj : i = j
      · subst hj
        by_cases hl : i < σ.length
        · rw [List.getElem?_set_self (by rw [L2.wipe_length, List.length_set]; exact hl), List.getElem?_set_self (by rw [L2.wipe_length]; exact hl)]
        · rw [List.getElem?_eq_none_iff.mpr (by rw [List.length_set, L2.wipe_length, List.length_set]; omega), List.getElem?_eq_none_iff.mpr (by rw [List.length_set, L2.wipe_length]; omega)]
      · rw [List.getElem?_set_ne hj, List.getElem?_set_ne hj]
        have key : ∀ (ws : List Nat) (τ τ' : St), τ.length = τ'.length → τ[j]? = τ'[j]? → (L2.wipe τ ws)[j]? = (L2.wipe τ' ws)[j]? := by
          intro ws τ τ' hl e
          induction ws with
          | nil => exact e
          | cons u ws ih =>
            unfold L2.wipe
            by_cases hu : u = j
            · subst hu
              by_cases hz : u < τ.length
              · rw [List.getElem?_set_self (by rw [L2.wipe_length]; exact hz), List.getElem?_set_self (by rw [L2.wipe_length, ← hl]; exact hz)]
              · rw [List.getElem?_eq_none_iff.mpr (by rw [List.length_set, L2.wipe_length]; omega), List.getElem?_eq_none_iff.mpr (by rw [List.length_set, L2.wipe_length]; omega)]
            · rw [List.getElem?_set_ne hu, List.getElem?_set_ne hu]
              exact ih
        exact key vs _ _ List.length_set (by rw [List.getElem?_set_ne hj])
theorem wipe_wipe (σ : St) : ∀ vs : List Nat, L2.wipe (L2.wipe σ vs) vs = L2.wipe σ vs := by
  have key : ∀ (vs ws : List Nat), (∀ v ∈ vs, v ∈ ws) → L2.wipe (L2.wipe σ vs) ws = L2.wipe σ ws := by
    intro vs ws
    induction vs with
    | nil => intro _; rfl
    | cons v vs ih =>
      intro h
      rw [show L2.wipe σ (v :: vs) = (L2.wipe σ vs).set v none from rfl, wipe_set (h v List.mem_cons_self)]
      exact ih fun u hu => h u (List.mem_cons_of_mem _ hu)
  exact fun vs => key vs vs fun _ h => h
/-- targets of a comprehension: they write the block's own slots alone -/
def GOk (K : PySem.W.Frag) (cA : Nat → Addr) (g : TG) (mg : GD) (vs : List Nat) : Prop := ∀ (z : Z0) (env : Ev) (M : Sto) (gh : Gh) (w : Wv) (v : V) (σ : St) (H : Hp) (Q : St → Hp → Prop), Cf K cA z H M gh → Slots K cA gh M.length env σ → RW K cA gh M.length w v →
  Res K cA z gh M.length noE (mg w env M) (fun e M' g' H' => ∀ σ', Slots K cA g' M'.length e σ' → L2.wipe σ' vs = L2.wipe σ vs → Q σ' H') → g v σ H Q
def GsOk (K : PySem.W.Frag) (cA : Nat → Addr) (g : TGs) (mg : GDs) (vs : List Nat) : Prop := ∀ (z : Z0) (env : Ev) (M : Sto) (gh : Gh) (ws : List Wv) (us : List V) (σ : St) (H : Hp) (Q : St → Hp → Prop), Cf K cA z H M gh → Slots K cA gh M.length env σ → Paired (RW K cA gh M.length) ws us →
  Res K cA z gh M.length noE (mg ws env M) (fun e M' g' H' => ∀ σ', Slots K cA g' M'.length e σ' → L2.wipe σ' vs = L2.wipe σ vs → Q σ' H') → g us σ H Q
section
variable {K : PySem.W.Frag} {cA : Nat → Addr} {vs : List Nat} {g : TG} {gs : TGs} {mg : GD} {mgs : GDs}
theorem gok_name {i : Nat} (h : i ∈ vs) : GOk K cA (gName i) (tgN i) vs := fun z env M gh w v σ H Q c sl r q => q H gh c Le.refl _ (sl.set r i) (wipe_set h)
theorem gsok_nil : GsOk K cA gNil tgsN vs := fun z env M gh ws us σ H Q c sl r q => by
  match ws, r, q with
  | [], .nil, q => exact ⟨rfl, q H gh c Le.refl σ sl rfl⟩
  | _ :: _, _, q => exact q.elim
theorem gsok_cons (h1 : GOk K cA g mg vs) (h2 : GsOk K cA gs mgs vs) : GsOk K cA (gCons g gs) (tgsC mg mgs) vs := fun z env M gh ws us σ H Q c sl r q => by
  match ws, r, q with
  | [], _, q => exact q.elim
  | w :: ws', .cons r1 r2, q =>
    refine ⟨_, _, rfl, h1 z env M gh w _ σ H _ c sl r1 (Res.imp (fun e M1 g1 H1 c1 l1 q1 σ' sl' hw => ?_) q.of_bind)⟩
    exact h2 z e M1 g1 ws' _ σ' H1 Q c1 sl' (RWs.mono l1 r2) (Res.imp (fun e2 M2 g2 H2 c2 l2 q2 σ2 sl2 hw2 => q2 σ2 sl2 (hw2.trans hw)) q1)
theorem gok_tup {n : Nat} (h : GsOk K cA gs mgs vs) : GOk K cA (gTup K n gs) (tgT n mgs) vs := fun z env M gh w v σ H Q c sl r q => by
  cases e : seqw M w with
  | none => simp [tgT, e, Res] at q
  | some p =>
    obtain ⟨b, ws⟩ := p
    cases b with
    | true => simp [tgT, e, Res] at q
    | false =>
      simp only [tgT, e] at q
      by_cases hn : ws.length = n
      · rw [if_pos hn] at q
        obtain ⟨a, us, rfl, h1, h2, h3⟩ := seqw_at c r e
        exact ⟨a, us, rfl, by simpa using h1, by rw [← hn]; exact (Paired.length h3).symm, h z env M gh ws us σ H Q c sl h3 q⟩
      · rw [if_neg hn] at q
        exact q.elim
end

def compS (s : Src) (tg : GD) (tt : TD) (te : ED) : Nat → Nat → Nat → Ev → Sto → Rs (List Wv)
  | 0, i, _, _, M => match s.at M with
    | some ws => if ws.length ≤ i then .ok [] M else .no
    | none => .no
  | f + 1, i, cnt, env, M => match s.at M with
    | none => .no
    | some ws => match ws[i]? with
      | none => .ok [] M
      | some w => (nx (tg w env M)).bind fun e M1 => (nx (tt e M1)).bind fun k M2 =>
        if k = true then (nx (te e M2)).bind fun y M3 => if cnt < sizeLine then (compS s tg tt te f (i + 1) (cnt + 1) env M3).bind fun ys M4 => .ok (y :: ys) M4 else .no
        else compS s tg tt te f (i + 1) cnt env M2
/-- a comprehension's list, frozen, or to be changed -/
def finF (ws : List Wv) (M : Sto) : Rs Wv := match nds M ws with
  | some l => .ok (.d (.lst l)) M
  | none => .no
def finM (ws : List Wv) (M : Sto) : Rs Wv := .ok (.m M.length) (M ++ [.lst ws])
def eLc (fin : List Wv → Sto → Rs Wv) (src : ID) (tg : GD) (tt : TD) (te : ED) (vs : List Nat) : ED := fun env M => (src env M).bind fun s M1 => match s.at M1 with
  | some ws => (compS s tg tt te ws.length 0 0 (wipeE env vs) M1).bind fun ys M2 => fin ys M2
  | none => .no
/-- what the end of a comprehension asks -/
def FinOk (K : PySem.W.Frag) (cA : Nat → Addr) (fin : List Wv → Sto → Rs Wv) : Prop := ∀ (z : Z0) (H : Hp) (M : Sto) (g : Gh) (D : Addr) (acc : List Wv) (us : List V) (E : Exn → Sto → Gh → Hp → Prop) (Q : VK), Cf K cA z H M g → Loose z M g D → H D = some (.lst us) → Paired (RW K cA g M.length) acc us → acc.length ≤ sizeLine →
  Res K cA z g M.length E (fin acc M) (fun w M' g' H' => ∀ v, RW K cA g' M'.length w v → Q v H') → Q (.ref D) H
theorem finF_ok {K : PySem.W.Frag} {cA : Nat → Addr} : FinOk K cA finF := by
  intro z H M g D acc us E Q c lo e r hz q
  cases e2 : nds M acc with
  | none => simp [finF, e2, Res] at q
  | some l =>
    simp only [finF, e2] at q
    have rl := nds_rep c r e2
    obtain ⟨c', l'⟩ := c.adopt lo e
    exact q H _ c' l' _ ⟨D, us, rfl, upd_same, by rw [← r.length]; exact hz, rl.mono l'.F⟩
theorem finM_ok {K : PySem.W.Frag} {cA : Nat → Addr} : FinOk K cA finM := by
  intro z H M g D acc us E Q c lo e r hz q
  have lad : ∀ k, k < M.length → (g.add M.length D).ad k = g.ad k := fun k hk => if_neg (Nat.ne_of_lt hk)
  obtain ⟨c', l'⟩ := c.adoptM (mo := .lst acc) lo ⟨us, e, lo.F, hz, RWs.mono (show Le g M.length (g.add M.length D) (M.length + 1) from ⟨Same.refl g.F, lad, Nat.le_succ _⟩) r⟩
  refine q H _ c' l' _ ⟨by rw [List.length_append]; exact Nat.lt_succ_self _, ?_⟩
  show V.ref D = .ref ((g.add M.length D).ad M.length)
  rw [show (g.add M.length D).ad M.length = D from if_pos rfl]
section
variable {X : Cx} {cA : Nat → Addr} {Wx : WX} {a b c e tg iter elt : Expr} {fin : List Wv → Sto → Rs Wv} {ma mb me : ED} {mr : AD} {mt mt1 : TD} {mi mi1 : ID} {mg mg1 : GD} {g g1 : TG} {vs vs1 : List Nat} {p pos apos : Pos}
theorem ted_lc (hf : FinOk X.K cA fin) (hg : GOk X.K cA g mg vs) {σ : St} {H : Hp} {Q : VK} (h : TED X.K cA Wx (eLc fin mi mg mt me vs) σ H Q) : tLc (TID X.K cA Wx mi) g (TTD X.K cA W0 mt) (TED X.K cA W0 me) vs σ H Q := by
  obtain ⟨z, env, M, gh, c, sl, q⟩ := h
  refine ⟨z, env, M, gh, c, sl, Res.imp (fun s M1 g1 H1 c1 l1 q1 J hJ D hD => ?_) q.of_bind⟩
  cases es : s.at M1 with
  | none => simp [es, Res] at q1
  | some ws0 =>
    simp only [es] at q1
    have sl0 := (sl.mono l1).wipe vs
    refine ⟨fun i m H => ∃ M g acc us, Cf X.K cA z H M g ∧ Le g1 M1.length g M.length ∧ Loose z M g D ∧ H D = some (.lst us) ∧ Paired (RW X.K cA g M.length) acc us ∧ acc.length ≤ sizeLine ∧
        Res X.K cA z g M.length (EX X.K cA Wx σ) (compS s mg mt me m i acc.length (wipeE env vs) M) (fun ys M2 g2 H2 => Res X.K cA z g2 M2.length (EX X.K cA Wx σ) (fin (acc ++ ys) M2) fun w M' g' H' => ∀ v, RW X.K cA g' M'.length w v → Q v H'),
      ⟨ws0.length, M1, g1, [], [], c1.scrib (c1.fresh hD), Le.refl, c1.fresh hD, upd_same, .nil, Nat.zero_le _, q1.of_bind⟩, fun i m H ⟨M, g, acc, us, c, l, lo, eD, rv, hz, q⟩ => ?_⟩
    have stop : ∀ (q : Res X.K cA z g M.length (EX X.K cA Wx σ) (.ok [] M : Rs (List Wv)) (fun ys M2 g2 H2 => Res X.K cA z g2 M2.length (EX X.K cA Wx σ) (fin (acc ++ ys) M2) fun w M' g' H' => ∀ v, RW X.K cA g' M'.length w v → Q v H')), Q (.ref D) H := fun q => by
      have q2 := q H g c Le.refl
      simp only [List.append_nil] at q2
      exact hf z H M g D acc us _ Q c lo eD rv hz q2
    cases m with
    | zero =>
      unfold compS at q
      cases es : s.at M with
      | none => simp [es, Res] at q
      | some ws =>
        simp only [es] at q
        by_cases hi : ws.length ≤ i
        · rw [if_pos hi] at q
          exact .inl ⟨(hJ z i H M g ws c l es).2 hi, stop q⟩
        · rw [if_neg hi] at q
          exact q.elim
    | succ m =>
      unfold compS at q
      cases es : s.at M with
      | none => simp [es, Res] at q
      | some ws =>
        simp only [es] at q
        cases ew : ws[i]? with
        | none =>
          simp only [ew] at q
          exact .inl ⟨(hJ z i H M g ws c l es).2 (List.getElem?_eq_none_iff.mp ew), stop q⟩
        | some w =>
          simp only [ew] at q
          obtain ⟨hgo, hy⟩ := (hJ (ent H M g) i H M g ws c.enter l es).1 w ew
          refine .inr ⟨hgo, _, fun H' h => ⟨m, Nat.lt_succ_self _, h⟩, fun x H3 hx => ?_⟩
          obtain ⟨g3, c3, l3, r3⟩ := hy x H3 hx
          obtain ⟨eD3, lo3⟩ := lo.step eD c3
          have c3' := c.leave c3
          have q3 := (q.later l3).of_bind.ent c3'
          refine hg (ent H3 M g3) (wipeE env vs) M g3 w x (L2.wipe σ vs) H3 _ c3'.enter ((sl0.mono l).mono l3) r3 (Res.imp (fun e4 M4 g4 H4 c4 l4 q4 σ4 sl4 hw => ?_) q3.nx')
          refine ⟨hw.trans (wipe_wipe σ vs), ent H3 M g3, e4, M4, g4, c4, sl4, Res.imp (fun k M5 g5 H5 c5 l5 q5 => ?_) ((q4.of_bind.nx' (E' := EX X.K cA W0 σ4)).ent c3')⟩
          have c5' := c3'.leave c5
          cases k with
          | false =>
            refine iteF ?_
            obtain ⟨eD5, lo5⟩ := lo3.step eD3 c5
            exact ⟨M5, g5, acc, us, c5', ((l.trans l3).trans l4).trans l5, lo5, eD5, RWs.mono ((l3.trans l4).trans l5) rv, hz, q5⟩
          | true =>
            refine iteT ⟨ent H3 M g3, e4, M5, g5, c5, sl4.mono l5, ?_⟩
            have q5' := (Res.of_bind q5).nx' (E' := EX X.K cA W0 σ4)
            refine Res.imp (fun y M6 g6 H6 c6 l6 q7 v rv6 => ?_) (q5'.ent c3')
            obtain ⟨eD6, lo6⟩ := lo3.step eD3 c6
            have c6' := c3'.leave c6
            have le6 : Le g M.length g6 M6.length := ((l3.trans l4).trans l5).trans l6
            by_cases hn : acc.length < sizeLine
            · rw [if_pos hn] at q7
              refine ⟨us, eD6, by rw [← rv.length]; exact hn, M6, g6, acc ++ [y], us ++ [v], c6'.scrib lo6, l.trans le6, lo6, upd_same, Paired.append' (RWs.mono le6 rv) (.cons rv6 .nil), by rw [List.length_append]; exact hn, ?_⟩
              have q8 := Res.of_bind q7
              rw [show (acc ++ [y]).length = acc.length + 1 by rw [List.length_append]; rfl]
              refine Res.imp (fun ys M7 g7 H7 c7 l7 q9 => ?_) q8
              have q10 := q9 H7 g7 c7 Le.refl
              rw [List.append_assoc]
              exact q10
            · rw [if_neg hn] at q7
              exact q7.elim
def tYesD : TD := fun _ M => .ok true M
theorem ts_nil : PTs X [] (TTD X.K cA W0 tYesD) := ⟨fun pins s σ H Q I h => pts_nil.run pins s σ H Q I (by
  obtain ⟨z, env, M, g, c, sl, q⟩ := h
  exact q H g c Le.refl)⟩
theorem ts_one {c : Expr} {t : TD} (h : PT X c (TTD X.K cA W0 t)) : PTs X [c] (TTD X.K cA W0 t) := pts_one h
end
end DL

/-! Layer D: comprehensions of two clauses; the rules. -/
namespace DL
open PySem PySem.Spec PyProof.Rows L2

def compS2 (s : Src) (tg : GD) (tt : TD) (src1 : ID) (tg1 : GD) (tt1 : TD) (te : ED) (vs1 : List Nat) : Nat → Nat → Nat → Ev → Sto → Rs (List Wv)
  | 0, i, _, _, M => match s.at M with
    | some ws => if ws.length ≤ i then .ok [] M else .no
    | none => .no
  | f + 1, i, cnt, env, M => match s.at M with
    | none => .no
    | some ws => match ws[i]? with
      | none => .ok [] M
      | some w => (nx (tg w env M)).bind fun e M1 => (nx (tt e M1)).bind fun k M2 =>
        if k = true then (nx (src1 e M2)).bind fun s1 M3 => match s1.at M3 with
          | none => .no
          | some ws1 => (compS s1 tg1 tt1 te ws1.length 0 cnt (wipeE e vs1) M3).bind fun ys M4 => (compS2 s tg tt src1 tg1 tt1 te vs1 f (i + 1) (cnt + ys.length) env M4).bind fun zs M5 => .ok (ys ++ zs) M5
        else compS2 s tg tt src1 tg1 tt1 te vs1 f (i + 1) cnt env M2
def eLc2 (fin : List Wv → Sto → Rs Wv) (src : ID) (tg : GD) (tt : TD) (src1 : ID) (tg1 : GD) (tt1 : TD) (te : ED) (vs vs1 : List Nat) : ED := fun env M => (src env M).bind fun s M1 => match s.at M1 with
  | some ws => (compS2 s tg tt src1 tg1 tt1 te vs1 ws.length 0 0 (wipeE env vs) M1).bind fun ys M2 => fin ys M2
  | none => .no
section
variable {X : Cx} {cA : Nat → Addr} {Wx : WX} {a b c e tg iter elt tg1 iter1 : Expr} {fin : List Wv → Sto → Rs Wv} {ma mb me : ED} {mr : AD} {mt mt1 : TD} {mi mi1 : ID} {mg mg1 : GD} {g gg1 : TG} {vs vs1 : List Nat} {p pos apos : Pos}
theorem ted_lc2 (hf : FinOk X.K cA fin) (hg : GOk X.K cA g mg vs) (hg1 : GOk X.K cA gg1 mg1 vs1) {σ : St} {H : Hp} {Q : VK} (h : TED X.K cA Wx (eLc2 fin mi mg mt mi1 mg1 mt1 me vs vs1) σ H Q) :
    tLc2 (TID X.K cA Wx mi) g (TTD X.K cA W0 mt) (TID X.K cA W0 mi1) gg1 (TTD X.K cA W0 mt1) (TED X.K cA W0 me) vs vs1 σ H Q := by
  obtain ⟨z, env, M, gh, c, sl, q⟩ := h
  refine ⟨z, env, M, gh, c, sl, Res.imp (fun s M1 g1 H1 c1 l1 q1 J hJ D hD => ?_) q.of_bind⟩
  cases es : s.at M1 with
  | none => simp [es, Res] at q1
  | some ws0 =>
    simp only [es] at q1
    have sl0 := (sl.mono l1).wipe vs
    refine ⟨fun i m H => ∃ M g acc us, Cf X.K cA z H M g ∧ Le g1 M1.length g M.length ∧ Loose z M g D ∧ H D = some (.lst us) ∧ Paired (RW X.K cA g M.length) acc us ∧ acc.length ≤ sizeLine ∧
        Res X.K cA z g M.length (EX X.K cA Wx σ) (compS2 s mg mt mi1 mg1 mt1 me vs1 m i acc.length (wipeE env vs) M) (fun ys M2 g2 H2 => Res X.K cA z g2 M2.length (EX X.K cA Wx σ) (fin (acc ++ ys) M2) fun w M' g' H' => ∀ v, RW X.K cA g' M'.length w v → Q v H'),
      ⟨ws0.length, M1, g1, [], [], c1.scrib (c1.fresh hD), Le.refl, c1.fresh hD, upd_same, .nil, Nat.zero_le _, q1.of_bind⟩, fun i m H ⟨M, g, acc, us, c, l, lo, eD, rv, hz, q⟩ => ?_⟩
    have stop : ∀ (q : Res X.K cA z g M.length (EX X.K cA Wx σ) (.ok [] M : Rs (List Wv)) (fun ys M2 g2 H2 => Res X.K cA z g2 M2.length (EX X.K cA Wx σ) (fin (acc ++ ys) M2) fun w M' g' H' => ∀ v, RW X.K cA g' M'.length w v → Q v H')), Q (.ref D) H := fun q => by
      have q2 := q H g c Le.refl
      simp only [List.append_nil] at q2
      exact hf z H M g D acc us _ Q c lo eD rv hz q2
    cases m with
    | zero =>
      unfold compS2 at q
      cases es : s.at M with
      | none => simp [es, Res] at q
      | some ws =>
        simp only [es] at q
        by_cases hi : ws.length ≤ i
        · rw [if_pos hi] at q
          exact .inl ⟨(hJ z i H M g ws c l es).2 hi, stop q⟩
        · rw [if_neg hi] at q
          exact q.elim
    | succ m =>
      unfold compS2 at q
      cases es : s.at M with
      | none => simp [es, Res] at q
      | some ws =>
        simp only [es] at q
        cases ew : ws[i]? with
        | none =>
          simp only [ew] at q
          exact .inl ⟨(hJ z i H M g ws c l es).2 (List.getElem?_eq_none_iff.mp ew), stop q⟩
        | some w =>
          simp only [ew] at q
          obtain ⟨hgo, hy⟩ := (hJ (ent H M g) i H M g ws c.enter l es).1 w ew
          refine .inr ⟨hgo, _, fun H' h => ⟨m, Nat.lt_succ_self _, h⟩, fun x H3 hx => ?_⟩
          obtain ⟨g3, c3, l3, r3⟩ := hy x H3 hx
          obtain ⟨eD3, lo3⟩ := lo.step eD c3
          have c3' := c.leave c3
          have q3 := (q.later l3).of_bind.ent c3'
          refine hg (ent H3 M g3) (wipeE env vs) M g3 w x (L2.wipe σ vs) H3 _ c3'.enter ((sl0.mono l).mono l3) r3 (Res.imp (fun e4 M4 g4 H4 c4 l4 q4 σ4 sl4 hw => ?_) q3.nx')
          refine ⟨hw.trans (wipe_wipe σ vs), ent H3 M g3, e4, M4, g4, c4, sl4, Res.imp (fun k M5 g5 H5 c5 l5 q5 => ?_) ((q4.of_bind.nx' (E' := EX X.K cA W0 σ4)).ent c3')⟩
          have c5' := c3'.leave c5
          cases k with
          | false =>
            refine iteF ?_
            obtain ⟨eD5, lo5⟩ := lo3.step eD3 c5
            exact ⟨M5, g5, acc, us, c5', ((l.trans l3).trans l4).trans l5, lo5, eD5, RWs.mono ((l3.trans l4).trans l5) rv, hz, q5⟩
          | true =>
            refine iteT ⟨ent H3 M g3, e4, M5, g5, c5, sl4.mono l5, ?_⟩
            have q5' := (Res.of_bind q5).nx' (E' := EX X.K cA W0 σ4)
            refine Res.imp (fun s1 M6 g6 H6 c6 l6 q6 J1 hJ1 => ?_) (q5'.ent c3')
            obtain ⟨eD6, lo6⟩ := lo3.step eD3 c6
            have c6' := c3'.leave c6
            have le6 : Le g M.length g6 M6.length := ((l3.trans l4).trans l5).trans l6
            have sl6 := ((sl4.mono l5).mono l6).wipe vs1
            cases es1 : s1.at M6 with
            | none => simp [es1, Res] at q6
            | some ws1 =>
              simp only [es1] at q6
              refine ⟨fun j k H => ∃ M g acc us, Cf X.K cA z H M g ∧ Le g6 M6.length g M.length ∧ Loose z M g D ∧ H D = some (.lst us) ∧ Paired (RW X.K cA g M.length) acc us ∧ acc.length ≤ sizeLine ∧
                  Res X.K cA z g M.length (EX X.K cA Wx σ) (compS s1 mg1 mt1 me k j acc.length (wipeE e4 vs1) M) (fun ys M2 g2 H2 => Res X.K cA z g2 M2.length (EX X.K cA Wx σ) (compS2 s mg mt mi1 mg1 mt1 me vs1 m (i + 1) (acc ++ ys).length (wipeE env vs) M2)
                    fun zs M3 g3 H3 => Res X.K cA z g3 M3.length (EX X.K cA Wx σ) (fin ((acc ++ ys) ++ zs) M3) fun w M' g' H' => ∀ v, RW X.K cA g' M'.length w v → Q v H'),
                ⟨ws1.length, M6, g6, acc, us, c6', Le.refl, lo6, eD6, RWs.mono le6 rv, hz, Res.imp (fun ys M7 g7 H7 c7 l7 q7 => ?_) (Res.of_bind q6)⟩, fun j k H ⟨M, g, acc, us, c, l', lo, eD, rv, hz, q⟩ => ?_⟩
              · rw [List.length_append]
                refine Res.imp (fun zs M8 g8 H8 c8 l8 q8 => ?_) (Res.of_bind q7)
                have q9 := q8 H8 g8 c8 Le.refl
                rw [List.append_assoc]
                exact q9
              · have leA : Le g1 M1.length g M.length := (((((l.trans l3).trans l4).trans l5).trans l6)).trans l'
                have stop1 : ∀ (q : Res X.K cA z g M.length (EX X.K cA Wx σ) (.ok [] M : Rs (List Wv)) (fun ys M2 g2 H2 => Res X.K cA z g2 M2.length (EX X.K cA Wx σ) (compS2 s mg mt mi1 mg1 mt1 me vs1 m (i + 1) (acc ++ ys).length (wipeE env vs) M2)
                    fun zs M3 g3 H3 => Res X.K cA z g3 M3.length (EX X.K cA Wx σ) (fin ((acc ++ ys) ++ zs) M3) fun w M' g' H' => ∀ v, RW X.K cA g' M'.length w v → Q v H')), ∃ M g acc us, Cf X.K cA z H M g ∧ Le g1 M1.length g M.length ∧ Loose z M g D ∧ H D = some (.lst us) ∧ Paired (RW X.K cA g M.length) acc us ∧ acc.length ≤ sizeLine ∧ Res X.K cA z g M.length (EX X.K cA Wx σ) (compS2 s mg mt mi1 mg1 mt1 me vs1 m (i + 1) acc.length (wipeE env vs) M) (fun ys M2 g2 H2 => Res X.K cA z g2 M2.length (EX X.K cA Wx σ) (fin (acc ++ ys) M2) fun w M' g' H' => ∀ v, RW X.K cA g' M'.length w v → Q v H') := fun q => by
                  have q2 := q H g c Le.refl
                  simp only [List.append_nil] at q2
                  exact ⟨M, g, acc, us, c, leA, lo, eD, rv, hz, q2⟩
                cases k with
                | zero =>
                  unfold compS at q
                  cases es : s1.at M with
                  | none => simp [es, Res] at q
                  | some ws =>
                    simp only [es] at q
                    by_cases hi : ws.length ≤ j
                    · rw [if_pos hi] at q
                      exact .inl ⟨(hJ1 z j H M g ws c l' es).2 hi, stop1 q⟩
                    · rw [if_neg hi] at q
                      exact q.elim
                | succ k =>
                  unfold compS at q
                  cases es : s1.at M with
                  | none => simp [es, Res] at q
                  | some ws =>
                    simp only [es] at q
                    cases ew : ws[j]? with
                    | none =>
                      simp only [ew] at q
                      exact .inl ⟨(hJ1 z j H M g ws c l' es).2 (List.getElem?_eq_none_iff.mp ew), stop1 q⟩
                    | some w =>
                      simp only [ew] at q
                      obtain ⟨hgo, hy⟩ := (hJ1 (ent H M g) j H M g ws c.enter l' es).1 w ew
                      refine .inr ⟨hgo, _, fun H' h => ⟨k, Nat.lt_succ_self _, h⟩, fun x H3 hx => ?_⟩
                      obtain ⟨g3, c3, l3, r3⟩ := hy x H3 hx
                      obtain ⟨eD3, lo3⟩ := lo.step eD c3
                      have c3' := c.leave c3
                      have q3 := (q.later l3).of_bind.ent c3'
                      refine hg1 (ent H3 M g3) (wipeE e4 vs1) M g3 w x (L2.wipe σ4 vs1) H3 _ c3'.enter ((sl6.mono l').mono l3) r3 (Res.imp (fun e5 M4 g4 H4 c4 l4 q4 σ5 sl5 hw1 => ?_) q3.nx')
                      refine ⟨hw1.trans (wipe_wipe σ4 vs1), ent H3 M g3, e5, M4, g4, c4, sl5, Res.imp (fun kk M5 g5 H5 c5 l5 q5 => ?_) ((q4.of_bind.nx' (E' := EX X.K cA W0 σ5)).ent c3')⟩
                      have c5' := c3'.leave c5
                      cases kk with
                      | false =>
                        refine iteF ?_
                        obtain ⟨eD5, lo5⟩ := lo3.step eD3 c5
                        exact ⟨M5, g5, acc, us, c5', ((l'.trans l3).trans l4).trans l5, lo5, eD5, RWs.mono ((l3.trans l4).trans l5) rv, hz, q5⟩
                      | true =>
                        refine iteT ⟨ent H3 M g3, e5, M5, g5, c5, sl5.mono l5, ?_⟩
                        have q5' := (Res.of_bind q5).nx' (E' := EX X.K cA W0 σ5)
                        refine Res.imp (fun y M6 g6 H6 c6 l6 q7 v rv6 => ?_) (q5'.ent c3')
                        obtain ⟨eD6, lo6⟩ := lo3.step eD3 c6
                        have c6' := c3'.leave c6
                        have le6 : Le g M.length g6 M6.length := ((l3.trans l4).trans l5).trans l6
                        by_cases hn : acc.length < sizeLine
                        · rw [if_pos hn] at q7
                          refine ⟨us, eD6, by rw [← rv.length]; exact hn, M6, g6, acc ++ [y], us ++ [v], c6'.scrib lo6, l'.trans le6, lo6, upd_same, Paired.append' (RWs.mono le6 rv) (.cons rv6 .nil), by rw [List.length_append]; exact hn, ?_⟩
                          have q8 := Res.of_bind q7
                          rw [show (acc ++ [y]).length = acc.length + 1 by rw [List.length_append]; rfl]
                          refine Res.imp (fun ys M7 g7 H7 c7 l7 q9 => ?_) q8
                          have q10 := q9 H7 g7 c7 Le.refl
                          rw [show acc ++ [y] ++ ys = acc ++ (y :: ys) by rw [List.append_assoc]; rfl]
                          exact q10
                        · rw [if_neg hn] at q7
                          exact q7.elim
section
variable {scope : Scope} {own : List (Str × Nat)} {ifs ifs1 : List Expr} {i : Nat} {y : Str} {py spos : Pos}
abbrev BlkAll (X : Cx) (scope : Scope) (P : Cx → Prop) : Prop := ∀ (s : Shared) (H : Hp) (C : Addr) (cl : List (Str × Addr)) (fp : List Addr), P (X.blk s H scope (compEnvC scope cl C X.env) fp)
theorem d_lc (hc : X.calm = true) (hN : X.N.Nodup) (hi : PI X tg iter (TID X.K cA Wx mi)) (ok : BlkOk X.N X.env.scope scope own) (hf : FinOk X.K cA fin) (hgo : GOk X.K cA g mg (own.map (·.2)))
    (hg : BlkAll X scope fun Y => PG Y tg g) (ht : BlkAll X scope fun Y => PTs Y ifs (TTD X.K cA W0 mt)) (he : BlkAll X scope fun Y => PE Y elt (TED X.K cA W0 me)) (hs : ∀ x, foldedSetIterable iter X.env x = pure x := by intro _; rfl) :
    PE X (.ListComp elt [⟨tg, iter, ifs, 0⟩] scope pos) (TED X.K cA Wx (eLc fin mi mg mt me (own.map (·.2)))) := PE.imp (pe_lc hc hN hi ok hg ht he hs) fun σ H Q h => ted_lc hf hgo h
theorem s_setLc (hc : X.calm = true) (hN : X.N.Nodup) (hy : X.N[i]? = some y) (hyl : X.env.scope.names.lookup y = some .local) (hsw : swapsWith (.ListComp elt [⟨tg, iter, ifs, 0⟩] scope pos) (some (.Name y py)) spos.line X.env = pure true)
    (hi : PI X tg iter (TID X.K cA Wx mi)) (ok : BlkOk X.N X.env.scope scope own) (hf : FinOk X.K cA fin) (hgo : GOk X.K cA g mg (own.map (·.2)))
    (hg : BlkAll X scope fun Y => PG Y tg g) (ht : BlkAll X scope fun Y => PTs Y ifs (TTD X.K cA W0 mt)) (he : BlkAll X scope fun Y => PE Y elt (TED X.K cA W0 me)) (hs : ∀ x, foldedSetIterable iter X.env x = pure x := by intro _; rfl) :
    PS X (.Assign [.Name y py] (.ListComp elt [⟨tg, iter, ifs, 0⟩] scope pos) spos) (TSD X.K cA Wx (sAsg (tgN i) (eLc fin mi mg mt me (own.map (·.2))))) :=
  PS.imp (ps_setLc hc hN hy hyl hsw hi ok hg ht he hs) fun D σ H ⟨z, env, M, g, c, sl, q⟩ => ted_lc hf hgo ⟨z, env, M, g, c, sl, Res.imp (fun w M1 g1 H1 c1 l1 q1 v rv => q1 H1 g1 c1 Le.refl _ ((sl.mono l1).set rv i)) (sx_of q sl)⟩
theorem d_lc2 (hc : X.calm = true) (hN : X.N.Nodup) (hi : PI X tg iter (TID X.K cA Wx mi)) (ok : BlkOk X.N X.env.scope scope own) (hv : ∀ i ∈ vs1, i ∈ own.map (·.2)) (hf : FinOk X.K cA fin) (hgo : GOk X.K cA g mg (own.map (·.2))) (hgo1 : GOk X.K cA gg1 mg1 vs1)
    (hg : BlkAll X scope fun Y => PG Y tg g) (ht : BlkAll X scope fun Y => PTs Y ifs (TTD X.K cA W0 mt)) (hi1 : BlkAll X scope fun Y => PI Y tg1 iter1 (TID X.K cA W0 mi1)) (hg1 : BlkAll X scope fun Y => PG Y tg1 gg1) (ht1 : BlkAll X scope fun Y => PTs Y ifs1 (TTD X.K cA W0 mt1))
    (he : BlkAll X scope fun Y => PE Y elt (TED X.K cA W0 me)) (hs : ∀ x, foldedSetIterable iter X.env x = pure x := by intro _; rfl) (hs1 : ∀ env x, foldedSetIterable iter1 env x = pure x := by intro _ _; rfl) :
    PE X (.ListComp elt [⟨tg, iter, ifs, 0⟩, ⟨tg1, iter1, ifs1, 0⟩] scope pos) (TED X.K cA Wx (eLc2 fin mi mg mt mi1 mg1 mt1 me (own.map (·.2)) vs1)) := PE.imp (pe_lc2 hc hN hi ok hv hg ht hi1 hg1 ht1 he hs hs1) fun σ H Q h => ted_lc2 hf hgo hgo1 h
theorem s_setLc2 (hc : X.calm = true) (hN : X.N.Nodup) (hy : X.N[i]? = some y) (hyl : X.env.scope.names.lookup y = some .local) (hsw : swapsWith (.ListComp elt [⟨tg, iter, ifs, 0⟩, ⟨tg1, iter1, ifs1, 0⟩] scope pos) (some (.Name y py)) spos.line X.env = pure true)
    (hi : PI X tg iter (TID X.K cA Wx mi)) (ok : BlkOk X.N X.env.scope scope own) (hv : ∀ i ∈ vs1, i ∈ own.map (·.2)) (hf : FinOk X.K cA fin) (hgo : GOk X.K cA g mg (own.map (·.2))) (hgo1 : GOk X.K cA gg1 mg1 vs1)
    (hg : BlkAll X scope fun Y => PG Y tg g) (ht : BlkAll X scope fun Y => PTs Y ifs (TTD X.K cA W0 mt)) (hi1 : BlkAll X scope fun Y => PI Y tg1 iter1 (TID X.K cA W0 mi1)) (hg1 : BlkAll X scope fun Y => PG Y tg1 gg1) (ht1 : BlkAll X scope fun Y => PTs Y ifs1 (TTD X.K cA W0 mt1))
    (he : BlkAll X scope fun Y => PE Y elt (TED X.K cA W0 me)) (hs : ∀ x, foldedSetIterable iter X.env x = pure x := by intro _; rfl) (hs1 : ∀ env x, foldedSetIterable iter1 env x = pure x := by intro _ _; rfl) :
    PS X (.Assign [.Name y py] (.ListComp elt [⟨tg, iter, ifs, 0⟩, ⟨tg1, iter1, ifs1, 0⟩] scope pos) spos) (TSD X.K cA Wx (sAsg (tgN i) (eLc2 fin mi mg mt mi1 mg1 mt1 me (own.map (·.2)) vs1))) :=
  PS.imp (ps_setLc2 hc hN hy hyl hsw hi ok hv hg ht hi1 hg1 ht1 he hs hs1) fun D σ H ⟨z, env, M, g, c, sl, q⟩ => ted_lc2 hf hgo hgo1 ⟨z, env, M, g, c, sl, Res.imp (fun w M1 g1 H1 c1 l1 q1 v rv => q1 H1 g1 c1 Le.refl _ ((sl.mono l1).set rv i)) (sx_of q sl)⟩
end
end
end DL

/-! Layer D: defs and their calls. -/
namespace DL
open PySem PySem.Spec PyProof.Rows L2

def Wv.below (n : Nat) : Wv → Bool
  | .d _ => true
  | .m k => decide (k < n)
def MO.below (n : Nat) : MO → Bool
  | .lst ws => ws.all (Wv.below n)
  | .ins _ _ ws => ws.all (Wv.below n)
  | .dic _ ws => ws.all (Wv.below n)
  | .fz _ => true
section
variable {K : PySem.W.Frag} {cA : Nat → Addr} {z : Z0} {g g' : Gh} {n r : Nat} {H H' : Hp} {M M' : Sto}
theorem RW.cut {w : Wv} {v : V} (h : RW K cA g n w v) (b : w.below r = true) : RW K cA g r w v := by
  cases w with
  | d x => exact h
  | m k => exact ⟨of_decide_eq_true b, h.2⟩
theorem RWs.cut : ∀ {ws : List Wv} {vs : List V}, Paired (RW K cA g n) ws vs → ws.all (Wv.below r) = true → Paired (RW K cA g r) ws vs
  | _, _, .nil, _ => .nil
  | _, _, .cons h t, b => by
    rw [List.all_cons, Bool.and_eq_true] at b
    exact .cons (h.cut b.1) (RWs.cut t b.2)
theorem RM.cut {a : Addr} : ∀ {mo : MO}, RM K cA g n H a mo → mo.below r = true → RM K cA g r H a mo
  | .lst _, ⟨vs, e, f, s, p⟩, b => ⟨vs, e, f, s, RWs.cut p b⟩
  | .ins _ _ _, ⟨dx, vs, e, f, s, p⟩, b => ⟨dx, vs, e, f, s, RWs.cut p b⟩
  | .dic _ _, ⟨vs, e, f, s, p⟩, b => ⟨vs, e, f, s, RWs.cut p b⟩
  | .fz _, h, _ => h
theorem take_get {k : Nat} {mo : MO} (e : (M.take r)[k]? = some mo) : k < r ∧ M[k]? = some mo := by
  have hk : k < (M.take r).length := (List.getElem?_eq_some_iff.mp e).1
  rw [List.length_take] at hk
  rw [List.getElem?_take] at e
  have : k < r := by omega
  rw [if_pos this] at e
  exact ⟨this, e⟩
theorem Cf.cut (c : Cf K cA z H M g) (h0 : z.n0 ≤ r) (h1 : r ≤ M.length) (hb : (M.take r).all (MO.below r) = true) : Cf K cA z H (M.take r) g := by
  have hl : (M.take r).length = r := by rw [List.length_take]; omega
  refine ⟨c.sub, fun k mo e => ?_, fun j k hj hk e => ?_, c.f0, c.fr, c.fs, c.ad, fun k h2 h3 => ?_, by rw [hl]; exact h0⟩
  · obtain ⟨h2, h3⟩ := take_get e
    rw [hl]
    exact (c.sto k mo h3).cut (List.all_eq_true.mp hb mo (List.mem_of_getElem? e))
  · rw [hl] at hj hk
    exact c.inj j k (by omega) (by omega) e
  · rw [hl] at h3
    exact c.nw k h2 (by omega)
theorem take_all_below (M : Sto) (h : M.all (MO.below M.length) = true) : (M.take M.length).all (MO.below M.length) = true := by
  rw [List.take_length]
  exact h
/-- one object of the store frozen -/
theorem Cf.freeze (c : Cf K cA z H M g) {k : Nat} {x : D} {ho : HO} (hk : k < M.length) (e : H (g.ad k) = some ho) (hf : g.F (g.ad k) = none) (r : Rep K cA (upd g.F (g.ad k) ho) x (.ref (g.ad k))) :
    Cf K cA z H (M.set k (.fz x)) { g with F := upd g.F (g.ad k) ho } ∧ Le g M.length { g with F := upd g.F (g.ad k) ho } M.length := by
  have hl : (M.set k (.fz x)).length = M.length := List.length_set
  have le : Le g M.length { g with F := upd g.F (g.ad k) ho } M.length := ⟨Same.upd' hf, fun _ _ => rfl, Nat.le_refl _⟩
  refine ⟨⟨fun b o q => ?_, fun j m q => ?_, fun i j hi hj => ?_, c.f0.trans (Same.upd' hf), c.fr, fun b h => ?_, c.ad, fun j h1 h2 => ?_, by rw [hl]; exact c.ln⟩, le⟩
  · have q' : upd g.F (g.ad k) ho b = some o := q
    by_cases hb : b = g.ad k
    · subst hb
      rw [upd_same] at q'
      rw [e, q']
    · rw [upd_ne hb] at q'
      exact c.sub _ _ q'
  · rw [hl]
    by_cases hj : k = j
    · subst hj
      rw [List.getElem?_set_self hk] at q
      cases q
      exact ⟨r, ho, upd_same⟩
    · rw [List.getElem?_set_ne hj] at q
      have hjl : j < M.length := (List.getElem?_eq_some_iff.mp q).1
      have nb : g.ad j ≠ g.ad k := fun e => hj (c.inj j k hjl hk e).symm
      exact (c.sto j m q).keep le rfl fun f => (upd_ne (H := g.F) (o := ho) nb).trans f
  · rw [hl] at hi hj
    exact c.inj i j hi hj
  · by_cases hb : b = g.ad k
    · subst hb
      by_cases h3 : k < z.n0
      · exact .inr (.inr ⟨k, h3, c.ad k h3⟩)
      · exact .inr (.inl (c.nw k (Nat.not_lt.mp h3) hk))
    · have h' : upd g.F (g.ad k) ho b ≠ none := h
      rw [upd_ne hb] at h'
      exact c.fs b h'
  · rw [hl] at h2
    exact c.nw j h1 h2
end
/-- a value with all that hangs on it, frozen -/
def fz1 (k : Nat) (M : Sto) : Option (D × Sto) := match M[k]? with
  | some (.fz x) => some (x, M)
  | some (.lst ws) => (nds M ws).map fun l => (.lst l, M.set k (.fz (.lst l)))
  | some (.ins t ns ws) => (nds M ws).map fun l => (.obj t ns l, M.set k (.fz (.obj t ns l)))
  | some (.dic ks ws) => (nds M ws).map fun l => (.dic ks l, M.set k (.fz (.dic ks l)))
  | none => none
def sealL (f : Wv → Sto → Option (D × Sto)) : List Wv → Sto → Option Sto
  | [], M => some M
  | w :: ws, M => (f w M).bind fun p => sealL f ws p.2
def sealW : Nat → Wv → Sto → Option (D × Sto)
  | _, .d x, M => some (x, M)
  | 0, .m k, M => fz1 k M
  | f + 1, .m k, M => match M[k]? with
    | some (.lst ws) => (sealL (sealW f) ws M).bind fun M1 => fz1 k M1
    | some (.ins _ _ ws) => (sealL (sealW f) ws M).bind fun M1 => fz1 k M1
    | some (.dic _ ws) => (sealL (sealW f) ws M).bind fun M1 => fz1 k M1
    | _ => fz1 k M
@[simp] theorem sealW_d (f : Nat) (x : D) (M : Sto) : sealW f (.d x) M = some (x, M) := by cases f <;> rfl
section
variable {K : PySem.W.Frag} {cA : Nat → Addr} {z : Z0} {g g' : Gh} {n r : Nat} {H H' : Hp} {M M' : Sto}
def Sealed (K : PySem.W.Frag) (cA : Nat → Addr) (z : Z0) (H : Hp) (M' : Sto) (g : Gh) (n : Nat) : Prop := ∃ g', Cf K cA z H M' g' ∧ Le g n g' M'.length ∧ M'.length = n
theorem fz1_ok (c : Cf K cA z H M g) {k : Nat} {x : D} (hk : k < M.length) (e : fz1 k M = some (x, M')) : ∃ g', Cf K cA z H M' g' ∧ Le g M.length g' M'.length ∧ M'.length = M.length ∧ Rep K cA g'.F x (.ref (g'.ad k)) := by
  unfold fz1 at e
  cases q : M[k]? with
  | none => simp [q] at e
  | some mo =>
    have rm := c.sto k mo q
    cases mo with
    | fz y =>
      simp only [q, Option.some.injEq, Prod.mk.injEq] at e
      obtain ⟨rfl, rfl⟩ := e
      exact ⟨g, c, Le.refl, rfl, rm.1⟩
    | lst ws =>
      simp only [q] at e
      cases e2 : nds M ws with
      | none => simp [e2] at e
      | some l =>
        simp only [e2, Option.map_some, Option.some.injEq, Prod.mk.injEq] at e
        obtain ⟨rfl, rfl⟩ := e
        obtain ⟨vs, h1, h2, h3, h4⟩ := rm
        have rl := nds_rep c h4 e2
        have rr : Rep K cA (upd g.F (g.ad k) (.lst vs)) (.lst l) (.ref (g.ad k)) := ⟨_, vs, rfl, upd_same, by rw [← h4.length]; exact h3, rl.mono (Same.upd' h2)⟩
        obtain ⟨c', l'⟩ := c.freeze hk h1 h2 rr
        exact ⟨_, c', by rw [List.length_set]; exact l', List.length_set, rr⟩
    | ins t ns ws =>
      simp only [q] at e
      cases e2 : nds M ws with
      | none => simp [e2] at e
      | some l =>
        simp only [e2, Option.map_some, Option.some.injEq, Prod.mk.injEq] at e
        obtain ⟨rfl, rfl⟩ := e
        obtain ⟨dx, vs, h1, h2, h3, h4⟩ := rm
        have rl := nds_rep c h4 e2
        have rr : Rep K cA (upd g.F (g.ad k) (.ins (cA t) dx (ns.zip vs))) (.obj t ns l) (.ref (g.ad k)) := ⟨_, dx, vs, rfl, upd_same, h3, rl.mono (Same.upd' h2)⟩
        obtain ⟨c', l'⟩ := c.freeze hk h1 h2 rr
        exact ⟨_, c', by rw [List.length_set]; exact l', List.length_set, rr⟩
    | dic ks ws =>
      simp only [q] at e
      cases e2 : nds M ws with
      | none => simp [e2] at e
      | some l =>
        simp only [e2, Option.map_some, Option.some.injEq, Prod.mk.injEq] at e
        obtain ⟨rfl, rfl⟩ := e
        obtain ⟨vs, h1, h2, h3, h4⟩ := rm
        have rl := nds_rep c h4 e2
        have rr : Rep K cA (upd g.F (g.ad k) (.dK (ks.zip vs))) (.dic ks l) (.ref (g.ad k)) := ⟨_, vs, rfl, upd_same, h3, rl.mono (Same.upd' h2)⟩
        obtain ⟨c', l'⟩ := c.freeze hk h1 h2 rr
        exact ⟨_, c', by rw [List.length_set]; exact l', List.length_set, rr⟩
def SealOk (K : PySem.W.Frag) (cA : Nat → Addr) (f : Wv → Sto → Option (D × Sto)) : Prop := ∀ (z : Z0) (H : Hp) (M M' : Sto) (g : Gh) (w : Wv) (v : V) (x : D), Cf K cA z H M g → RW K cA g M.length w v → f w M = some (x, M') → ∃ g', Cf K cA z H M' g' ∧ Le g M.length g' M'.length ∧ M'.length = M.length ∧ Rep K cA g'.F x v
theorem sealL_ok {f : Wv → Sto → Option (D × Sto)} (hf : SealOk K cA f) {z : Z0} {H : Hp} : ∀ {ws : List Wv} {M M' : Sto} {g : Gh} {vs : List V}, Cf K cA z H M g → Paired (RW K cA g M.length) ws vs → sealL f ws M = some M' → ∃ g', Cf K cA z H M' g' ∧ Le g M.length g' M'.length ∧ M'.length = M.length
  | [], M, M', g, _, c, .nil, e => by
    cases (Option.some.inj e)
    exact ⟨g, c, Le.refl, rfl⟩
  | w :: ws, M, M', g, _, c, .cons r1 r2, e => by
    unfold sealL at e
    cases q : f w M with
    | none => simp [q] at e
    | some p =>
      obtain ⟨x, M1⟩ := p
      simp only [q, Option.bind_some] at e
      obtain ⟨g1, c1, l1, n1, _⟩ := hf z H M M1 g w _ x c r1 q
      obtain ⟨g2, c2, l2, n2⟩ := sealL_ok hf c1 (RWs.mono l1 r2) e
      exact ⟨g2, c2, l1.trans l2, n2.trans n1⟩
theorem sealW_ok : ∀ f : Nat, SealOk K cA (sealW f)
  | f, z, H, M, M', g, .d y, v, x, c, r, e => by
    rw [sealW_d] at e
    cases (Option.some.inj e)
    exact ⟨g, c, Le.refl, rfl, r⟩
  | 0, z, H, M, M', g, .m k, v, x, c, r, e => by
    obtain ⟨hk, rfl⟩ := r
    obtain ⟨g', c', l', n', rr⟩ := fz1_ok c hk e
    rw [l'.ad k hk] at rr
    exact ⟨g', c', l', n', rr⟩
  | f + 1, z, H, M, M', g, .m k, v, x, c, r, e => by
    obtain ⟨hk, rfl⟩ := r
    unfold sealW at e
    have go : ∀ (ws : List Wv) (vs : List V), Paired (RW K cA g M.length) ws vs → ((sealL (sealW f) ws M).bind fun M1 => fz1 k M1) = some (x, M') → ∃ g', Cf K cA z H M' g' ∧ Le g M.length g' M'.length ∧ M'.length = M.length ∧ Rep K cA g'.F x (.ref (g.ad k)) := fun ws vs rv e => by
      cases q : sealL (sealW f) ws M with
      | none => simp [q] at e
      | some M1 =>
        simp only [q, Option.bind_some] at e
        obtain ⟨g1, c1, l1, n1⟩ := sealL_ok (sealW_ok f) c rv q
        obtain ⟨g2, c2, l2, n2, rr⟩ := fz1_ok c1 (by rw [n1]; exact hk) e
        rw [(l1.trans l2).ad k hk] at rr
        exact ⟨g2, c2, l1.trans l2, n2.trans n1, rr⟩
    have go0 : fz1 k M = some (x, M') → ∃ g', Cf K cA z H M' g' ∧ Le g M.length g' M'.length ∧ M'.length = M.length ∧ Rep K cA g'.F x (.ref (g.ad k)) := fun e => by
      obtain ⟨g', c', l', n', rr⟩ := fz1_ok c hk e
      rw [l'.ad k hk] at rr
      exact ⟨g', c', l', n', rr⟩
    cases q : M[k]? with
    | none =>
      simp only [q] at e
      exact go0 e
    | some mo =>
      have rm := c.sto k mo q
      cases mo with
      | fz y =>
        simp only [q] at e
        exact go0 e
      | lst ws =>
        simp only [q] at e
        obtain ⟨vs, _, _, _, h4⟩ := rm
        exact go ws vs h4 e
      | ins t ns ws =>
        simp only [q] at e
        obtain ⟨_, vs, _, _, _, h4⟩ := rm
        exact go ws vs h4 e
      | dic ks ws =>
        simp only [q] at e
        obtain ⟨vs, _, _, _, h4⟩ := rm
        exact go ws vs h4 e
end
/-- for the outside: below r it stays, else it is frozen -/
def prep (r : Nat) (w : Wv) (M : Sto) : Option (Wv × Sto) := if w.below r = true then some (w, M) else (sealW 6 w M).map fun p => (.d p.1, p.2)
def preps (r : Nat) : List Wv → Sto → Option (List Wv × Sto)
  | [], M => some ([], M)
  | w :: ws, M => (prep r w M).bind fun p => (preps r ws p.2).map fun q => (p.1 :: q.1, q.2)
section
variable {K : PySem.W.Frag} {cA : Nat → Addr} {z : Z0} {g g' : Gh} {n r : Nat} {H H' : Hp} {M M' : Sto}
theorem prep_ok (c : Cf K cA z H M g) {w w' : Wv} {v : V} (r1 : RW K cA g M.length w v) (e : prep r w M = some (w', M')) : ∃ g', Cf K cA z H M' g' ∧ Le g M.length g' M'.length ∧ M'.length = M.length ∧ RW K cA g' r w' v ∧ w'.below r = true := by
  unfold prep at e
  by_cases hb : w.below r = true
  · rw [if_pos hb] at e
    cases (Option.some.inj e)
    exact ⟨g, c, Le.refl, rfl, r1.cut hb, hb⟩
  · rw [if_neg hb] at e
    cases q : sealW 6 w M with
    | none => simp [q] at e
    | some p =>
      obtain ⟨x, M1⟩ := p
      simp only [q, Option.map_some, Option.some.injEq, Prod.mk.injEq] at e
      obtain ⟨rfl, rfl⟩ := e
      obtain ⟨g', c', l', n', rr⟩ := sealW_ok 6 z H M M1 g w v x c r1 q
      exact ⟨g', c', l', n', rr, rfl⟩
theorem preps_ok : ∀ {ws ws' : List Wv} {vs : List V} {M M' : Sto} {g : Gh}, Cf K cA z H M g → Paired (RW K cA g M.length) ws vs → preps r ws M = some (ws', M') → ∃ g', Cf K cA z H M' g' ∧ Le g M.length g' M'.length ∧ M'.length = M.length ∧ (∀ r', r ≤ r' → Paired (RW K cA g' r') ws' vs) ∧ (r ≤ M.length → Paired (RW K cA g' r) ws' vs)
  | [], _, _, M, M', g, c, .nil, e => by
    cases (Option.some.inj e)
    exact ⟨g, c, Le.refl, rfl, fun _ _ => .nil, fun _ => .nil⟩
  | w :: ws, ws', _, M, M', g, c, .cons r1 r2, e => by
    unfold preps at e
    cases q : prep r w M with
    | none => simp [q] at e
    | some p =>
      obtain ⟨w1, M1⟩ := p
      simp only [q, Option.bind_some] at e
      cases q2 : preps r ws M1 with
      | none => simp [q2] at e
      | some p2 =>
        obtain ⟨ws1, M2⟩ := p2
        simp only [q2, Option.map_some, Option.some.injEq, Prod.mk.injEq] at e
        obtain ⟨rfl, rfl⟩ := e
        obtain ⟨g1, c1, l1, n1, k1, b1⟩ := prep_ok c r1 q
        obtain ⟨g2, c2, l2, n2, k2, k3⟩ := preps_ok c1 (RWs.mono l1 r2) q2
        have kk : ∀ r', r ≤ r' → r' ≤ M1.length → RW K cA g2 r' w1 _ := fun r' h h2 => by
          cases w1 with
          | d x => exact Rep.mono l2.F k1
          | m k => exact ⟨Nat.lt_of_lt_of_le k1.1 h, by rw [l2.ad k (Nat.lt_of_lt_of_le (Nat.lt_of_lt_of_le k1.1 h) h2)]; exact k1.2⟩
        have kk2 : ∀ r', r ≤ r' → RW K cA g2 r' w1 _ := fun r' h => by
          cases w1 with
          | d x => exact Rep.mono l2.F k1
          | m k =>
            have hk : k < M1.length := by
              unfold prep at q
              by_cases hb : w.below r = true
              · rw [if_pos hb] at q
                cases (Option.some.inj q)
                exact r1.1
              · rw [if_neg hb] at q
                cases q3 : sealW 6 w M with
                | none => simp [q3] at q
                | some p3 => simp [q3] at q
            exact ⟨Nat.lt_of_lt_of_le k1.1 h, by rw [l2.ad k hk]; exact k1.2⟩
        exact ⟨g2, c2, l1.trans l2, n2.trans n1, fun r' h => .cons (kk2 r' h) (k2 r' h), fun h => .cons (kk2 r (Nat.le_refl _)) (k3 (by rw [n1]; exact h))⟩
end

/-! ### what a def is worth -/
abbrev FD := List Wv → Sto → Rs Wv
def EXs (K : PySem.W.Frag) (cA : Nat → Addr) (E : XK) : Exn → Sto → Gh → Hp → Prop := fun x _ g' H' => ∀ cls d, RX K cA g' x cls d → E cls d H'
def spD (K : PySem.W.Frag) (cA : Nat → Addr) (m : Nat) (f : FD) : Sp := fun vs H Q E => vs.length = m ∧ ∃ z M g ws, Cf K cA z H M g ∧ Paired (RW K cA g M.length) ws vs ∧ Res K cA (ent H M g) g M.length (EXs K cA E) (f ws M) fun w M' g' H' => ∀ v, RW K cA g' M'.length w v → Q v H'
/-- a body as a function: n slots; what comes out is frozen, and the store cut -/
def outC (n : Nat) (w : Wv) (M : Sto) : Rs Wv := match prep n w M with
  | some (w', M') => if (M'.take n).all (MO.below n) = true then .ok w' (M'.take n) else .no
  | none => .no
def outX (n : Nat) (x : Exn) (M : Sto) : Rs Wv := if (M.take n).all (MO.below n) = true then .ex x (M.take n) else .no
def fnB (body : SD) (n : Nat) (out : Nat → Wv → Sto → Rs Wv) (outx : Nat → Exn → Sto → Rs Wv) : FD := fun ws M => match body (ws.map some ++ List.replicate (n - ws.length) none) M with
  | .ok (.nx _) M' => out M.length (.d .non) M'
  | .ok (.rt w) M' => out M.length w M'
  | .ok (.xc _ x) M' => outx M.length x M'
  | _ => .no
/-- the usual one -/
def fnD (body : SD) (n : Nat) : FD := fnB body n outC outX
/-- one that hands back new objects of the store -/
def fnM (body : SD) (n : Nat) : FD := fnB body n (fun _ w M => .ok w M) (fun _ x M => .ex x M)
def OutOk (K : PySem.W.Frag) (cA : Nat → Addr) (out : Nat → Wv → Sto → Rs Wv) : Prop := ∀ (z : Z0) (H H0 : Hp) (M M0 : Sto) (g g0 : Gh) (w : Wv) (v : V) (E : Exn → Sto → Gh → Hp → Prop) (Q : V → Hp → Prop), Cf K cA (ent H0 M0 g0) H M g → Le g0 M0.length g M.length → RW K cA g M.length w v →
  Res K cA (ent H0 M0 g0) g0 M0.length E (out M0.length w M) (fun w M' g' H' => ∀ v, RW K cA g' M'.length w v → Q v H') → Q v H
def OutxOk (K : PySem.W.Frag) (cA : Nat → Addr) (outx : Nat → Exn → Sto → Rs Wv) : Prop := ∀ (H H0 : Hp) (M M0 : Sto) (g g0 : Gh) (x : Exn) (cls : Value) (d : Option Addr) (E : XK) (P : Wv → Sto → Gh → Hp → Prop), Cf K cA (ent H0 M0 g0) H M g → Le g0 M0.length g M.length → RX K cA g x cls d →
  Res K cA (ent H0 M0 g0) g0 M0.length (EXs K cA E) (outx M0.length x M) P → E cls d H
section
variable {K : PySem.W.Frag} {cA : Nat → Addr}
theorem outC_ok : OutOk K cA outC := by
  intro z H H0 M M0 g g0 w v E Q c l r q
  unfold outC at q
  cases e : prep M0.length w M with
  | none => simp [e, Res] at q
  | some p =>
    obtain ⟨w', M'⟩ := p
    simp only [e] at q
    by_cases hb : (M'.take M0.length).all (MO.below M0.length) = true
    · rw [if_pos hb] at q
      obtain ⟨g', c', l', n', rr, b⟩ := prep_ok c r e
      have h1 : M0.length ≤ M'.length := by rw [n']; exact l.ln
      have hl : (M'.take M0.length).length = M0.length := by rw [List.length_take]; omega
      have c2 := c'.cut (Nat.le_refl _) h1 hb
      refine q H g' c2 ⟨(l.trans l').F, fun k hk => (l.trans l').ad k hk, by rw [hl]; exact Nat.le_refl _⟩ v ?_
      rw [hl]
      exact rr
    · rw [if_neg hb] at q
      exact q.elim
theorem outM_ok : OutOk K cA (fun _ w M => .ok w M) := fun z H H0 M M0 g g0 w v E Q c l r q => q H g c l v r
theorem outX_ok : OutxOk K cA outX := by
  intro H H0 M M0 g g0 x cls d E P c l r q
  unfold outX at q
  by_cases hb : (M.take M0.length).all (MO.below M0.length) = true
  · rw [if_pos hb] at q
    have hl : (M.take M0.length).length = M0.length := by rw [List.length_take]; have := l.ln; omega
    exact q H g (c.cut (Nat.le_refl _) l.ln hb) ⟨l.F, l.ad, by rw [hl]; exact Nat.le_refl _⟩ cls d r
  · rw [if_neg hb] at q
    exact q.elim
theorem outXM_ok : OutxOk K cA (fun _ x M => .ex x M) := fun H H0 M M0 g g0 x cls d E P c l r q => q H g c l cls d r
end
section
variable {P : Program} {w : World} {K : PySem.W.Frag} {mg : Str → Option Value} {base : Heap} {cA : Nat → Addr}
theorem start_slots {g : Gh} {n : Nat} {N : List Str} {ws : List Wv} {vs : List V} (r : Paired (RW K cA g n) ws vs) : Slots K cA g n (ws.map some ++ List.replicate (N.length - ws.length) none) (L2.start N vs) := by
  have hl : ws.length = vs.length := r.length
  refine ⟨by unfold L2.start; rw [List.length_append, List.length_append, List.length_map, List.length_map, List.length_replicate, List.length_replicate, hl], fun i u e => ?_⟩
  by_cases hi : i < ws.length
  · rw [List.getElem?_append_left (by rw [List.length_map]; exact hi), List.getElem?_map] at e
    cases q : ws[i]? with
    | none => rw [q] at e; cases e
    | some u' =>
      rw [q] at e
      cases e
      obtain ⟨v, h1, h2⟩ := Paired.get' r q
      refine ⟨v, ?_, h2⟩
      unfold L2.start
      rw [List.getElem?_append_left (by rw [List.length_map, ← hl]; exact hi), List.getElem?_map, h1]
      rfl
  · rw [List.getElem?_append_right (by rw [List.length_map]; omega), List.getElem?_replicate] at e
    split at e <;> cases e
/-- THE RULE for a def: its body's judgement, at every context of the body, gives its promise -/
theorem fnOk_of {x qual : Str} {st : Stmt} {f : Addr} {fd : FuncData} {N ps : List Str} {k : Nat} {out : Nat → Wv → Sto → Rs Wv} {outx : Nat → Exn → Sto → Rs Wv} {body : SD} (F : Fun K x qual st f fd) (S : FnScope N ps (defScope st)) (ho : OutOk K cA out) (hx : OutxOk K cA outx)
    (hbody : ∀ (cdv : Value) (A : Around) (outer : List Env) (s : Shared) (H : Hp) (E : XK), Room k (A.deeper (envOfC qual (defScope st) s.heap.objs.size f cdv)) →
      PSs (cxOf (L2.CX P w) P w K mg base N qual (defScope st) f cdv A outer s H E) (defBody st) (TSD K cA (fun cls d _ H' => E cls d H') body)) :
    FnOk P w K mg base (L2.CX P w) (k + 1) f fd ps (spD K cA ps.length (fnB body N.length out outx)) := by
  refine F.okX S (fun vs H Q E h => h.1) (fun cdv A outer s H vs Q E hr h => ⟨_, hbody cdv A outer s H E hr, ?_⟩)
  obtain ⟨hl, z, M, g, ws, c, r, q⟩ := h
  refine ⟨ent H M g, _, M, g, c.enter, start_slots (N := N) r, ?_⟩
  unfold fnB at q
  cases e : body (ws.map some ++ List.replicate (N.length - ws.length) none) M with
  | no => simp [e, Res] at q
  | ex x M' => simp [e, Res] at q
  | ok o M' =>
    simp only [e] at q
    cases o with
    | nx e1 => exact fun H' g' c' l' σ' sl' => ho z H' H M' M g' g (.d .non) .non _ Q c' l' rfl q
    | rt u => exact fun H' g' c' l' v rv => ho z H' H M' M g' g u v _ Q c' l' rv q
    | bk e1 => exact q.elim
    | ct e1 => exact q.elim
    | xc e1 x => exact fun H' g' c' l' σ' cls d sl' rx => hx H' H M' M g' g x cls d E _ c' l' rx q
end

/-! ### calls -/
/-- a call with all of the store; with its first r objects -/
def callA (m : Nat) (f : FD) : List Wv → Sto → Rs Wv := fun ws M => if ws.length = m then f ws M else .no
def callR (r m : Nat) (f : FD) : List Wv → Sto → Rs Wv := fun ws M => if ws.length = m then match preps r ws M with
  | none => .no
  | some (ws', M1) => if r ≤ M1.length ∧ (M1.take r).all (MO.below r) = true then match f ws' (M1.take r) with
      | .ok w M' => if w.below r = true ∧ M'.length = r ∧ M'.all (MO.below r) = true then .ok w (M' ++ M1.drop r) else .no
      | .ex x M' => if M'.length = r ∧ M'.all (MO.below r) = true then .ex x (M' ++ M1.drop r) else .no
      | .no => .no
    else .no
  else .no
section
variable {K : PySem.W.Frag} {cA : Nat → Addr} {z : Z0} {g g' : Gh} {r : Nat} {H H' : Hp} {M M' : Sto}
/-- a call of the first r objects is over -/
theorem Cf.glue (c : Cf K cA z H M g) (hr : r ≤ M.length) (hb : (M.take r).all (MO.below r) = true) (hl : M'.length = r) (hb' : M'.all (MO.below r) = true) (d : Cf K cA (ent H (M.take r) g) H' M' g') :
    Cf K cA z H' (M' ++ M.drop r) { F := g'.F, ad := g.ad } ∧ Le g M.length { F := g'.F, ad := g.ad } (M' ++ M.drop r).length ∧ ∀ k, k < r → g'.ad k = g.ad k := by
  have htl : (M.take r).length = r := by rw [List.length_take]; omega
  have hal : (M' ++ M.drop r).length = M.length := by rw [List.length_append, List.length_drop, hl]; omega
  have adr : ∀ k, k < r → g'.ad k = g.ad k := fun k hk => d.ad k (by show k < (M.take r).length; rw [htl]; exact hk)
  have le : Le g M.length { F := g'.F, ad := g.ad } (M' ++ M.drop r).length := ⟨d.f0, fun _ _ => rfl, by rw [hal]; exact Nat.le_refl _⟩
  have keep : ∀ k, r ≤ k → k < M.length → ∀ ho, H (g.ad k) = some ho → H' (g.ad k) = some ho := fun k h1 h2 ho e => d.fr _ _ e fun j hj q => by
    have hj' : j < r := by rw [← htl]; exact hj
    have := c.inj k j h2 (by omega) q
    omega
  have nofz : ∀ k, r ≤ k → k < M.length → g.F (g.ad k) = none → g'.F (g.ad k) = none := fun k h1 h2 e => by
    cases q : g'.F (g.ad k) with
    | none => rfl
    | some o =>
      rcases d.fs _ (by rw [q]; exact fun z => by cases z) with h | h | ⟨j, hj, h⟩
      · exact absurd e h
      · obtain ⟨ho, e2⟩ := c.st h2
        rw [show (ent H (M.take r) g).H0 = H from rfl, e2] at h
        cases h
      · have hj' : j < r := by rw [← htl]; exact hj
        have := c.inj k j h2 (by omega) h
        omega
  refine ⟨⟨d.sub, fun k mo e => ?_, fun i j hi hj => ?_, c.f0.trans d.f0, fun a o e h => ?_, fun a h => ?_, c.ad, fun k h1 h2 => ?_, by rw [hal]; exact c.ln⟩, le, adr⟩
  · by_cases hk : k < r
    · rw [List.getElem?_append_left (by rw [hl]; exact hk)] at e
      have rm := (d.sto k mo e).cut (List.all_eq_true.mp hb' mo (List.mem_of_getElem? e))
      rw [adr k hk] at rm
      have le2 : Le g' r { F := g'.F, ad := g.ad } (M' ++ M.drop r).length := ⟨Same.refl _, fun j hj => (adr j hj).symm, by rw [hal]; exact hr⟩
      exact rm.keep le2 rfl fun f => f
    · rw [List.getElem?_append_right (by rw [hl]; omega), List.getElem?_drop, hl, show r + (k - r) = k by omega] at e
      have hkl : k < M.length := (List.getElem?_eq_some_iff.mp e).1
      obtain ⟨ho, e2⟩ := c.st hkl
      exact (c.sto k mo e).keep le ((keep k (by omega) hkl ho e2).trans e2.symm) fun f => nofz k (by omega) hkl f
  · rw [hal] at hi hj
    exact c.inj i j hi hj
  · refine d.fr a o (c.fr a o e h) fun k hk q => ?_
    have hk' : k < r := by rw [← htl]; exact hk
    rcases c.ad0 (show k < M.length by omega) with ⟨j, hj, e2⟩ | e2
    · exact h j hj (q.trans e2)
    · rw [← show a = g.ad k from q, e] at e2
      cases e2
  · rcases d.fs a h with q | q | ⟨k, hk, q⟩
    · exact c.fs a q
    · exact .inr (.inl (c.free0 q).1)
    · have hk' : k < r := by rw [← htl]; exact hk
      rcases c.ad0 (show k < M.length by omega) with ⟨j, hj, e2⟩ | e2
      · exact .inr (.inr ⟨j, hj, q.trans e2⟩)
      · exact .inr (.inl (by rw [q]; exact e2))
  · rw [hal] at h2
    exact c.nw k h1 h2
/-- what a call asks: the callee's promise -/
theorem callA_sp {f : FD} {ws : List Wv} {vs : List V} {m : Nat} {E : XK} {Q : VK} (c : Cf K cA z H M g) (r : Paired (RW K cA g M.length) ws vs) (q : Res K cA z g M.length (EXs K cA E) (callA m f ws M) fun w M' g' H' => ∀ v, RW K cA g' M'.length w v → Q v H') : spD K cA m f vs H Q E := by
  unfold callA at q
  by_cases h : ws.length = m
  · rw [if_pos h] at q
    exact ⟨by rw [← r.length]; exact h, z, M, g, ws, c, r, q.ent c⟩
  · rw [if_neg h] at q
    exact q.elim
theorem callR_sp {f : FD} {ws : List Wv} {vs : List V} {m r : Nat} {E : XK} {Q : VK} (c : Cf K cA z H M g) (rv : Paired (RW K cA g M.length) ws vs) (q : Res K cA z g M.length (EXs K cA E) (callR r m f ws M) fun w M' g' H' => ∀ v, RW K cA g' M'.length w v → Q v H') : spD K cA m f vs H Q E := by
  unfold callR at q
  by_cases hm0 : ws.length = m
  case neg =>
    rw [if_neg hm0] at q
    exact q.elim
  rw [if_pos hm0] at q
  have hm : vs.length = m := by rw [← rv.length]; exact hm0
  cases e : preps r ws M with
  | none => simp [e, Res] at q
  | some p =>
    obtain ⟨ws', M1⟩ := p
    simp only [e] at q
    by_cases hc : r ≤ M1.length ∧ (M1.take r).all (MO.below r) = true
    · rw [if_pos hc] at q
      obtain ⟨hr, hb⟩ := hc
      obtain ⟨g1, c1, l1, n1, k1, _⟩ := preps_ok c rv e
      have htl : (M1.take r).length = r := by rw [List.length_take]; omega
      have c2 : Cf K cA (ent H (M1.take r) g1) H (M1.take r) g1 := by
        refine ⟨c1.sub, fun k mo e => ?_, fun i j hi hj => c1.inj i j (by rw [htl] at hi; omega) (by rw [htl] at hj; omega), Same.refl _, fun a o e _ => e, fun a h => .inl h, fun _ _ => rfl, fun k h1 h2 => absurd h2 (Nat.not_lt.mpr h1), Nat.le_refl _⟩
        obtain ⟨h2, h3⟩ := take_get e
        rw [htl]
        exact (c1.sto k mo h3).cut (List.all_eq_true.mp hb mo (List.mem_of_getElem? e))
      refine ⟨hm, _, M1.take r, g1, ws', c2, by rw [htl]; exact k1 r (Nat.le_refl _), ?_⟩
      cases ef : f ws' (M1.take r) with
      | no => simp [ef, Res] at q
      | ex x M' =>
        simp only [ef] at q
        by_cases h2 : M'.length = r ∧ M'.all (MO.below r) = true
        · rw [if_pos h2] at q
          intro H' g' c' l' cls d rx
          obtain ⟨c3, l3, a3⟩ := c1.glue hr hb h2.1 h2.2 c'
          exact q H' _ c3 (l1.trans l3) cls d rx
        · rw [if_neg h2] at q
          exact q.elim
      | ok w M' =>
        simp only [ef] at q
        by_cases h2 : w.below r = true ∧ M'.length = r ∧ M'.all (MO.below r) = true
        · rw [if_pos h2] at q
          intro H' g' c' l' v rv'
          obtain ⟨c3, l3, a3⟩ := c1.glue hr hb h2.2.1 h2.2.2 c'
          refine q H' _ c3 (l1.trans l3) v ?_
          cases w with
          | d x => exact rv'
          | m k =>
            have hk : k < r := of_decide_eq_true h2.1
            exact ⟨by have := l3.ln; omega, by rw [rv'.2, a3 k hk]⟩
        · rw [if_neg h2] at q
          exact q.elim
    · rw [if_neg hc] at q
      exact q.elim
end
end DL

/-! Layer D: the calls' rules, fields, new instances. -/
namespace DL
open PySem PySem.Spec PyProof.Rows L2

/-- defaults: data without the heap -/
def Flat (K : PySem.W.Frag) (cA : Nat → Addr) (ds : List D) (dvs : List V) : Prop := ∀ F, RepL K cA F ds dvs
theorem flat_nil {K : PySem.W.Frag} {cA : Nat → Addr} : Flat K cA [] [] := fun _ => rfl
theorem flat_int {K : PySem.W.Frag} {cA : Nat → Addr} {i : Int} {ds : List D} {dvs : List V} (h : Flat K cA ds dvs) : Flat K cA (.int i :: ds) (.int i :: dvs) := fun F => ⟨_, _, rfl, rfl, h F⟩
/-- a call's arguments with the defaults -/
def eCall (c : FD) (ds : List D) (a : AD) : ED := fun env M => (a env M).bind fun ws M1 => c (ws ++ ds.map .d) M1
/-- what the call of a promise asks -/
def CallOk (K : PySem.W.Frag) (cA : Nat → Addr) (m : Nat) (f c : FD) : Prop := ∀ (z : Z0) (H : Hp) (M : Sto) (g : Gh) (ws : List Wv) (vs : List V) (E : XK) (Q : VK), Cf K cA z H M g → Paired (RW K cA g M.length) ws vs →
  Res K cA z g M.length (EXs K cA E) (c ws M) (fun w M' g' H' => ∀ v, RW K cA g' M'.length w v → Q v H') → spD K cA m f vs H Q E
theorem cA_ok {K : PySem.W.Frag} {cA : Nat → Addr} {m : Nat} {f : FD} : CallOk K cA m f (callA m f) := fun z H M g ws vs E Q c r q => callA_sp c r q
theorem cR_ok {K : PySem.W.Frag} {cA : Nat → Addr} {m r : Nat} {f : FD} : CallOk K cA m f (callR r m f) := fun z H M g ws vs E Q c rv q => callR_sp c rv q
section
variable {X : Cx} {cA : Nat → Addr} {Wx : WX} {a b e o : Expr} {es : List Expr} {ma mb mo : ED} {mr : AD} {f c : FD} {x m : Str} {p pos apos : Pos} {k n : Nat} {fa C : Addr} {fd : FuncData} {ps : List Str} {ds : List D} {dvs : List V} {dus : List Value} {t : Nat}
theorem rwds {K : PySem.W.Frag} {g : Gh} {n : Nat} {ws : List Wv} {vs : List V} (r : Paired (RW K cA g n) ws vs) (h : Flat K cA ds dvs) : Paired (RW K cA g n) (ws ++ ds.map .d) (vs ++ dvs) := Paired.append' r ((h g.F).wd rfl)
/-- f(e, ..), f a def of the module -/
theorem d_call (F : FnOk X.prog X.w X.K X.mg X.base (L2.CX X.prog X.w) k fa fd ps (spD X.K cA n f)) (co : CallOk X.K cA n f c) (tk : Takes X Wx) (hr : Room k X.A) (hm : X.mg x = some (.ref fa)) (hk : PySem.W.keepIn X.K (.ref fa) = true) (hb : Binds X.K fd ps dus) (hd : Vals dvs dus) (hf : Flat X.K cA ds dvs)
    (ha : PA X (e :: es) (TAD X.K cA Wx mr)) (hg : Gl X x := by rfl) (hdb : (x == ("__debug__" : Str)) = false := by decide) (he : starEach (e :: es) X.env = (false, eval e X.env) :: starEach es X.env := by rfl) (hpl : (backTo pos (starEach es X.env)).any (·.1) = false := by rfl) :
    PE X (.Call (.Name x p) (e :: es) [] pos) (TED X.K cA Wx (eCall c ds mr)) := PE.imp (pe_callSD F hr hg hm hk hb hd (E := WE Wx) (fun σ => passAt tk σ) ha hdb he hpl) fun σ H Q ⟨z, env, M, g, cc, sl, q⟩ => by
  refine ⟨z, env, M, g, cc, sl, Res.imp (fun ws M1 g1 H1 c1 l1 q1 vs rv => ?_) q.of_bind⟩
  exact co z H1 M1 g1 _ _ _ Q c1 (rwds rv hf) q1
theorem pe_call0SD {sp : Sp} {E : St → XK} (F : FnOk X.prog X.w X.K X.mg X.base (L2.CX X.prog X.w) k fa fd ps sp) (hr : Room k X.A) (hg : Gl X x) (hm : X.mg x = some (.ref fa)) (hk : PySem.W.keepIn X.K (.ref fa) = true) (hb : Binds X.K fd ps dus) (hd : Vals dvs dus) (hx : ∀ σ, PassesAt (L2.CX X.prog X.w) X σ (E σ))
    (hdb : (x == ("__debug__" : Str)) = false := by decide) : PE X (.Call (.Name x p) [] [] pos) (tCallSD sp dvs E tNil) := by
  refine ⟨fun pins s σ H Q I h => ?_⟩
  refine wpAny_Call_Name_kw (ld_glob I hg hm ?_ hdb)
  exact PySem.W.callWith_K0 I.kIn hk (run_fnSD (us := []) F hr hb hd (hx σ) I .nil h)
/-- o.m(e, ..) -/
def tMethS (C : Addr) (m : Str) (sp : Sp) (dvs : List V) (E : St → XK) (ta : TE) (t : TA) : TE := fun σ H Q => ta σ H fun x H1 => ∃ a dx fs, x = .ref a ∧ H1 a = some (.ins C dx fs) ∧ fs.lookup m = none ∧
  t σ H1 fun vs H2 => sp (x :: (vs ++ dvs)) H2 Q (E σ)
theorem pe_methSD {pl : Sem Bool} {ta : TE} {tt : TA} {sp : Sp} {E : St → XK} (he : PE X o ta) (c : Cls X.K C) (hm : Meth X.K C m fa) (F : FnOk X.prog X.w X.K X.mg X.base (L2.CX X.prog X.w) k fa fd ps sp) (hr : Room k X.A) (hb : Binds X.K fd ps dus) (hd : Vals dvs dus) (hx : ∀ σ, PassesAt (L2.CX X.prog X.w) X σ (E σ)) (ha : PA X (e :: es) tt)
    (hst : starEach (e :: es) X.env = (false, eval e X.env) :: starEach es X.env := by rfl) (hpl : (backTo pos (starEach es X.env)).any (·.1) = false := by rfl)
    (ht : eval (.Call (.Attribute o m apos) (e :: es) [] pos) X.env = (do
      let ov ← eval o X.env
      standAt apos.atName
      let (f, first) ← holding [ov] (getMethod ov m pl)
      callWith pos f first (backTo pos (starEach (e :: es) X.env)) (backToKw pos (keywordEach [] X.env))) := by rfl) :
    PE X (.Call (.Attribute o m apos) (e :: es) [] pos) (tMethS C m sp dvs E ta tt) := by
  refine ⟨fun pins s σ H Q I h => ?_⟩
  refine PySem.W.methodCall_KW (pl := pl) (thn (he.run pins s σ H _ I h) fun u s1 ⟨x, H1, I1, rx, a, dx, fs, ex, ea, l, q⟩ => ?_) ht
  subst ex
  obtain rfl : u = Value.ref a := rx
  refine getmeth_ok I1 ea c hm l ?_
  refine PySem.W.callWith_K (first := [.ref a]) (h₀ := X.base) I.ok.mod.kin hm.kp (thn (ha.run pos pins s1 σ H1 _ I1 q) fun us s2 ⟨vs, H2, I2, r, q2⟩ => ⟨I2.kIn, ?_⟩) hst hpl
  exact run_fnSD (us := .ref a :: us) (vs := .ref a :: vs) F hr hb hd (hx σ) I2 (.cons rfl r) q2
theorem pe_meth0SD {pl : Sem Bool} {ta : TE} {sp : Sp} {E : St → XK} (he : PE X o ta) (c : Cls X.K C) (hm : Meth X.K C m fa) (F : FnOk X.prog X.w X.K X.mg X.base (L2.CX X.prog X.w) k fa fd ps sp) (hr : Room k X.A) (hb : Binds X.K fd ps dus) (hd : Vals dvs dus) (hx : ∀ σ, PassesAt (L2.CX X.prog X.w) X σ (E σ))
    (ht : eval (.Call (.Attribute o m apos) [] [] pos) X.env = (do
      let ov ← eval o X.env
      standAt apos.atName
      let (f, first) ← holding [ov] (getMethod ov m pl)
      callWith pos f first (backTo pos (starEach [] X.env)) (backToKw pos (keywordEach [] X.env))) := by rfl) :
    PE X (.Call (.Attribute o m apos) [] [] pos) (tMethS C m sp dvs E ta tNil) := by
  refine ⟨fun pins s σ H Q I h => ?_⟩
  refine PySem.W.methodCall_KW (pl := pl) (thn (he.run pins s σ H _ I h) fun u s1 ⟨x, H1, I1, rx, a, dx, fs, ex, ea, l, q⟩ => ?_) ht
  subst ex
  obtain rfl : u = Value.ref a := rx
  refine getmeth_ok I1 ea c hm l ?_
  exact PySem.W.callWith_K0 (first := [.ref a]) I1.kIn hm.kp (run_fnSD (us := [.ref a]) (vs := [.ref a]) F hr hb hd (hx σ) I1 (.cons rfl .nil) q)
/-- an instance of the class with the tag t, that has no field called m -/
def insw (t : Nat) (m : Str) (w : Wv) (M : Sto) : Bool := match nw M w with
  | .d (.obj t' ns _) => t' == t && !ns.contains m
  | .d _ => false
  | .m k => match M[k]? with
    | some (.ins t' ns _) => t' == t && !ns.contains m
    | _ => false
theorem lookup_zip_none {ns : List Str} {vs : List V} {m : Str} (h : ns.contains m = false) : (ns.zip vs).lookup m = none := by
  induction ns generalizing vs with
  | nil => rfl
  | cons n ns ih =>
    cases vs with
    | nil => rfl
    | cons v vs =>
      rw [List.contains_cons, Bool.or_eq_false_iff] at h
      rw [List.zip_cons_cons, List.lookup_cons, h.1]
      exact ih h.2
theorem insw_at {K : PySem.W.Frag} {z : Z0} {g : Gh} {H : Hp} {M : Sto} (c : Cf K cA z H M g) {w : Wv} {v : V} (r : RW K cA g M.length w v) (e : insw t m w M = true) : ∃ a dx fs, v = .ref a ∧ H a = some (.ins (cA t) dx fs) ∧ fs.lookup m = none := by
  have r' := rw_nw c r
  cases q : nw M w with
  | m k =>
    rw [q] at r'
    obtain ⟨hk, rfl⟩ := r'
    simp only [insw, q] at e
    cases q2 : M[k]? with
    | none => simp [q2] at e
    | some mo =>
      cases mo with
      | ins t' ns ws =>
        simp only [q2, Bool.and_eq_true, Bool.not_eq_true', beq_iff_eq] at e
        obtain ⟨rfl, e2⟩ := e
        obtain ⟨dx, vs, h1, _⟩ := c.sto k _ q2
        exact ⟨_, dx, _, rfl, h1, lookup_zip_none e2⟩
      | _ => simp [q2] at e
  | d d =>
    rw [q] at r'
    simp only [insw, q] at e
    cases d with
    | obj t' ns l =>
      simp only [Bool.and_eq_true, Bool.not_eq_true', beq_iff_eq] at e
      obtain ⟨rfl, e2⟩ := e
      obtain ⟨a, dx, vs, rfl, h1, _⟩ := r'
      exact ⟨a, dx, _, rfl, c.sub _ _ h1, lookup_zip_none e2⟩
    | _ => simp at e
def eMeth (t : Nat) (m : Str) (c : FD) (ds : List D) (o : ED) (a : AD) : ED := fun env M => (o env M).bind fun w M1 => if insw t m w M1 = true then (a env M1).bind fun ws M2 => c (w :: (ws ++ ds.map .d)) M2 else .no
theorem ted_meth (co : CallOk X.K cA n f c) (hf : Flat X.K cA ds dvs) {σ : St} {H : Hp} {Q : VK} (h : TED X.K cA Wx (eMeth t m c ds mo mr) σ H Q) : tMethS (cA t) m (spD X.K cA n f) dvs (WE Wx) (TED X.K cA Wx mo) (TAD X.K cA Wx mr) σ H Q := by
  obtain ⟨z, env, M, g, cc, sl, q⟩ := h
  refine ⟨z, env, M, g, cc, sl, Res.imp (fun w M1 g1 H1 c1 l1 q1 v rv => ?_) q.of_bind⟩
  by_cases hi : insw t m w M1 = true
  · rw [if_pos hi] at q1
    obtain ⟨a, dx, fs, e1, e2, e3⟩ := insw_at c1 rv hi
    refine ⟨a, dx, fs, e1, e2, e3, z, env, M1, g1, c1, sl.mono l1, Res.imp (fun ws M2 g2 H2 c2 l2 q2 vs rvs => ?_) q1.of_bind⟩
    exact co z H2 M2 g2 _ _ _ Q c2 (.cons (rv.mono l2) (rwds rvs hf)) q2
  · rw [if_neg hi] at q1
    exact q1.elim
theorem d_meth (ho : PE X o (TED X.K cA Wx mo)) (cl : Cls X.K (cA t)) (hm : Meth X.K (cA t) m fa) (F : FnOk X.prog X.w X.K X.mg X.base (L2.CX X.prog X.w) k fa fd ps (spD X.K cA n f)) (co : CallOk X.K cA n f c) (tk : Takes X Wx) (hr : Room k X.A) (hb : Binds X.K fd ps dus) (hd : Vals dvs dus) (hf : Flat X.K cA ds dvs) (ha : PA X (e :: es) (TAD X.K cA Wx mr))
    {pl : Sem Bool} (hst : starEach (e :: es) X.env = (false, eval e X.env) :: starEach es X.env := by rfl) (hpl : (backTo pos (starEach es X.env)).any (·.1) = false := by rfl)
    (ht : eval (.Call (.Attribute o m apos) (e :: es) [] pos) X.env = (do
      let ov ← eval o X.env
      standAt apos.atName
      let (f, first) ← holding [ov] (getMethod ov m pl)
      callWith pos f first (backTo pos (starEach (e :: es) X.env)) (backToKw pos (keywordEach [] X.env))) := by rfl) :
    PE X (.Call (.Attribute o m apos) (e :: es) [] pos) (TED X.K cA Wx (eMeth t m c ds mo mr)) := PE.imp (pe_methSD ho cl hm F hr hb hd (E := WE Wx) (fun σ => passAt tk σ) ha hst hpl ht) fun σ H Q h => ted_meth co hf h
theorem tad_nil {σ : St} {H : Hp} {Q : List V → Hp → Prop} (h : TAD X.K cA Wx aNil σ H Q) : tNil σ H Q := by
  obtain ⟨z, env, M, g, c, sl, q⟩ := h
  exact q H g c Le.refl [] .nil
theorem d_meth0 (ho : PE X o (TED X.K cA Wx mo)) (cl : Cls X.K (cA t)) (hm : Meth X.K (cA t) m fa) (F : FnOk X.prog X.w X.K X.mg X.base (L2.CX X.prog X.w) k fa fd ps (spD X.K cA n f)) (co : CallOk X.K cA n f c) (tk : Takes X Wx) (hr : Room k X.A) (hb : Binds X.K fd ps dus) (hd : Vals dvs dus) (hf : Flat X.K cA ds dvs)
    {pl : Sem Bool} (ht : eval (.Call (.Attribute o m apos) [] [] pos) X.env = (do
      let ov ← eval o X.env
      standAt apos.atName
      let (f, first) ← holding [ov] (getMethod ov m pl)
      callWith pos f first (backTo pos (starEach [] X.env)) (backToKw pos (keywordEach [] X.env))) := by rfl) :
    PE X (.Call (.Attribute o m apos) [] [] pos) (TED X.K cA Wx (eMeth t m c ds mo aNil)) := PE.imp (pe_meth0SD ho cl hm F hr hb hd (E := WE Wx) (fun σ => passAt tk σ) ht) fun σ H Q h => by
  have h2 := ted_meth co hf h
  obtain ⟨z, env, M, g, cc, sl, q⟩ := h2
  exact ⟨z, env, M, g, cc, sl, Res.imp (fun w M1 g1 H1 c1 l1 q1 v rv => let ⟨a, dx, fs, e1, e2, e3, q2⟩ := q1 v rv; ⟨a, dx, fs, e1, e2, e3, tad_nil q2⟩) q⟩
theorem d_call0 (F : FnOk X.prog X.w X.K X.mg X.base (L2.CX X.prog X.w) k fa fd ps (spD X.K cA n f)) (co : CallOk X.K cA n f c) (tk : Takes X Wx) (hr : Room k X.A) (hm : X.mg x = some (.ref fa)) (hk : PySem.W.keepIn X.K (.ref fa) = true) (hb : Binds X.K fd ps dus) (hd : Vals dvs dus) (hf : Flat X.K cA ds dvs)
    (hg : Gl X x := by rfl) (hdb : (x == ("__debug__" : Str)) = false := by decide) : PE X (.Call (.Name x p) [] [] pos) (TED X.K cA Wx (eCall c ds aNil)) := PE.imp (pe_call0SD F hr hg hm hk hb hd (E := WE Wx) (fun σ => passAt tk σ) hdb) fun σ H Q ⟨z, env, M, g, cc, sl, q⟩ => by
  have q' : Res X.K cA z g M.length (EX X.K cA Wx σ) (c (ds.map .d) M) _ := q
  exact co z H M g _ _ _ Q cc (rwds (ws := []) (vs := []) .nil hf) q'

/-! ### new instances -/
def tMakeS (C : Addr) (sp : Sp) (dvs : List V) (E : St → XK) (t : TA) : TE := fun σ H Q => t σ H fun vs H1 => ∀ x dx, H1 x = none → H1 dx = none → dx ≠ x →
  sp (.ref x :: (vs ++ dvs)) (upd (upd H1 dx (.own x)) x (.ins C dx [])) (fun v H2 => v = .non ∧ Q (.ref x) H2) (E σ)
theorem run_makeS {sp : Sp} {E : XK} {pins : List (Addr × Obj)} {σ : St} {H : Hp} {s : Shared} {Q : VK} {us : List Value} {vs : List V} (M : Mk X.K C fa) (F : FnOk X.prog X.w X.K X.mg X.base (L2.CX X.prog X.w) k fa fd ps sp) (hr : Room (k + 1) X.A) (hb : Binds X.K fd ps dus) (hd : Vals dvs dus)
    (hx : PassesAt (L2.CX X.prog X.w) X σ E) (I : Inv X pins σ H s) (r : Vals vs us)
    (h : ∀ x dx, H x = none → H dx = none → dx ≠ x → sp (.ref x :: (vs ++ dvs)) (upd (upd H dx (.own x)) x (.ins C dx [])) (fun v H2 => v = .non ∧ Q (.ref x) H2) E) :
    wpAny (model X.prog X.w) X.A (call (.ref C) us) (EP X pins σ Q) X.xe s := by
  have hq := h (s.heap.objs.size + 1) s.heap.objs.size (I.hok.fresh (Nat.le_succ _)) (I.hok.fresh (Nat.le_refl _)) (Nat.ne_of_lt (Nat.lt_succ_self _))
  have I2 := Inv.made (C := C) I
  have r2 : Vals (V.ref (s.heap.objs.size + 1) :: (vs ++ dvs)) (Value.ref (s.heap.objs.size + 1) :: (us ++ dus)) := .cons rfl (r.append hd)
  have hl : (Value.ref (s.heap.objs.size + 1) :: us ++ dus).length = ps.length := by
    have e := r2.length
    rw [F.len _ _ _ _ hq] at e
    exact e.symm
  refine wpAny_call (make_map (f := fa) I.kIn M.makes M.init (beq_iff_eq.mp M.fn) (codeAny_mono (F.run _ X.stack _ _ ⟨Value.ref (s.heap.objs.size + 1) :: us, []⟩ (Value.ref (s.heap.objs.size + 1) :: (us ++ dus)) _ _ E (hr.make C us [])
    (I2.env0.make C us []) (hb _ (Value.ref (s.heap.objs.size + 1) :: us) I2.kIn hl) r2 hq) fun r s' hq' => ?_))
  cases r with
  | error e => exact hx pins _ _ e s' I2 hq'
  | ok fl =>
    cases fl with
    | ret u =>
      obtain ⟨v, H', I3, rv, ev, q3⟩ := I2.after hq'
      subst ev
      exact ⟨rv, ⟨V.ref (s.heap.objs.size + 1), H', I3, rfl, q3⟩⟩
    | next => exact False.elim hq'
    | brk => exact False.elim hq'
    | cont => exact False.elim hq'
theorem pe_makeS {sp : Sp} {E : St → XK} {tt : TA} (M : Mk X.K C fa) (F : FnOk X.prog X.w X.K X.mg X.base (L2.CX X.prog X.w) k fa fd ps sp) (hr : Room (k + 1) X.A) (hg : Gl X x) (hm : X.mg x = some (.ref C)) (hb : Binds X.K fd ps dus) (hd : Vals dvs dus) (hx : ∀ σ, PassesAt (L2.CX X.prog X.w) X σ (E σ))
    (ha : PA X (e :: es) tt) (hdb : (x == ("__debug__" : Str)) = false := by decide) (he : starEach (e :: es) X.env = (false, eval e X.env) :: starEach es X.env := by rfl) (hpl : (backTo pos (starEach es X.env)).any (·.1) = false := by rfl) :
    PE X (.Call (.Name x p) (e :: es) [] pos) (tMakeS C sp dvs E tt) := by
  refine ⟨fun pins s σ H Q I h => ?_⟩
  refine wpAny_Call_Name_kw (ld_glob I hg hm ?_ hdb)
  refine PySem.W.callWith_K (h₀ := X.base) I.ok.mod.kin M.kp (thn (ha.run pos pins s σ H _ I h) fun us s1 ⟨vs, H1, I1, r, q⟩ => ⟨I1.kIn, ?_⟩) he hpl
  exact run_makeS M F hr hb hd (hx σ) I1 r q
/-- kept as an object of the store: __init__ sees all of it -/
def mkA (t m : Nat) (f : FD) : FD := fun ws M => if ws.length + 1 = m then match f (.m M.length :: ws) (M ++ [.ins t [] []]) with
    | .ok (.d .non) M' => .ok (.m M.length) M'
    | .ok _ _ => .no
    | .ex x M' => .ex x M'
    | .no => .no
  else .no
/-- frozen at once: __init__ sees the new object alone -/
def mkF (t m : Nat) (f : FD) : FD := fun ws M => if ws.length + 1 = m then match preps 0 ws M with
    | none => .no
    | some (ws', M1) => match f (.m 0 :: ws') [.ins t [] []] with
      | .ok (.d .non) [mo] => match fz1 0 [mo] with
        | some (x, _) => .ok (.d x) M1
        | none => .no
      | .ok _ _ => .no
      | .ex x M' => .ex x M1
      | .no => .no
  else .no
/-- what making an instance asks -/
def MakeOk (K : PySem.W.Frag) (cA : Nat → Addr) (t n : Nat) (f c : FD) : Prop := ∀ (z : Z0) (H : Hp) (M : Sto) (g : Gh) (ws : List Wv) (vs : List V) (E : XK) (Q : VK) (x dx : Addr), Cf K cA z H M g → Paired (RW K cA g M.length) ws vs → H x = none → H dx = none → dx ≠ x →
  Res K cA z g M.length (EXs K cA E) (c ws M) (fun w M' g' H' => ∀ v, RW K cA g' M'.length w v → Q v H') → spD K cA n f (.ref x :: vs) (upd (upd H dx (.own x)) x (.ins (cA t) dx [])) (fun v H2 => v = .non ∧ Q (.ref x) H2) E
theorem mkA_ok {K : PySem.W.Frag} : MakeOk K cA t n f (mkA t n f) := by
  intro z H M g ws vs E Q x dx c rv hx hdx hne q
  unfold mkA at q
  by_cases hn : ws.length + 1 = n
  case neg =>
    rw [if_neg hn] at q
    exact q.elim
  rw [if_pos hn] at q
  have c1 : Cf K cA z (upd H dx (.own x)) M g := c.scrib (c.fresh hdx)
  have hx1 : upd H dx (.own x) x = none := by rw [upd_ne (Ne.symm hne)]; exact hx
  have fx : g.F x = none := c1.sub.free hx1
  obtain ⟨c2, l2⟩ := c1.new (ho := .ins (cA t) dx []) (mo := .ins t [] []) hx1 ⟨dx, [], upd_same, fx, rfl, .nil⟩
  have hlen : (M ++ [MO.ins t [] []]).length = M.length + 1 := by rw [List.length_append]; rfl
  have adn : (g.add M.length x).ad M.length = x := if_pos rfl
  refine ⟨by rw [List.length_cons, ← rv.length]; exact hn, z, _, _, .m M.length :: ws, c2, .cons ⟨by rw [hlen]; exact Nat.lt_succ_self _, by rw [adn]⟩ (RWs.mono l2 rv), ?_⟩
  cases ef : f (.m M.length :: ws) (M ++ [.ins t [] []]) with
  | no => simp [ef, Res] at q
  | ex y M' =>
    simp only [ef] at q
    exact fun H' g' c' l' => q H' g' (c2.leave c') (l2.trans l')
  | ok w M' =>
    simp only [ef] at q
    cases w with
    | m j => exact q.elim
    | d d =>
      cases d with
      | non =>
        intro H' g' c' l' v rv'
        refine ⟨rv', q H' g' (c2.leave c') (l2.trans l') _ ⟨by have := l'.ln; rw [hlen] at this; omega, ?_⟩⟩
        show V.ref x = .ref (g'.ad M.length)
        rw [l'.ad M.length (by rw [hlen]; exact Nat.lt_succ_self _), adn]
      | _ => exact q.elim
/-- a step of a store apart: its only object, at x, is new -/
theorem Cf.apart {K : PySem.W.Frag} {z : Z0} {H H2 H' : Hp} {M M' : Sto} {g g' : Gh} {x : Addr} {mo : MO} (c : Cf K cA z H M g) (s : L2.Same H H2) (hx : H x = none) {gx : Gh} (ex : gx.F = g.F) (ea : gx.ad 0 = x) (d : Cf K cA (ent H2 [mo] gx) H' M' g') :
    Cf K cA z H' M { F := g'.F, ad := g.ad } ∧ Le g M.length { F := g'.F, ad := g.ad } M.length := by
  have sF : L2.Same g.F g'.F := by rw [← ex]; exact d.f0
  have keep : ∀ a ho, H a = some ho → H' a = some ho := fun a ho e => d.fr a ho (s _ _ e) fun k hk q => by
    have h0 : k = 0 := by
      have : k < 1 := hk
      omega
    subst h0
    rw [show a = gx.ad 0 from q, ea] at e
    rw [e] at hx
    cases hx
  have nofz : ∀ a ho, H a = some ho → g.F a = none → g'.F a = none := fun a ho e e2 => by
    cases q : g'.F a with
    | none => rfl
    | some o =>
      rcases d.fs a (by rw [q]; exact fun z => by cases z) with h | h | ⟨k, hk, h⟩
      · exact absurd (show gx.F a = none by rw [ex]; exact e2) h
      · rw [show (ent H2 [mo] gx).H0 = H2 from rfl, s _ _ e] at h
        cases h
      · have h0 : k = 0 := by
          have : k < 1 := hk
          omega
        subst h0
        rw [show a = gx.ad 0 from h, ea] at e
        rw [e] at hx
        cases hx
  have le : Le g M.length { F := g'.F, ad := g.ad } M.length := ⟨sF, fun _ _ => rfl, Nat.le_refl _⟩
  refine ⟨⟨d.sub, fun k m e => ?_, c.inj, c.f0.trans sF, fun a o e h => keep _ _ (c.fr a o e h), fun a h => ?_, c.ad, c.nw, c.ln⟩, le⟩
  · have hk : k < M.length := (List.getElem?_eq_some_iff.mp e).1
    obtain ⟨ho, e2⟩ := c.st hk
    exact (c.sto k m e).keep le ((keep _ _ e2).trans e2.symm) fun f => nofz _ _ e2 f
  · rcases d.fs a h with q | q | ⟨k, hk, q⟩
    · exact c.fs a (by rw [← ex]; exact q)
    · have : H a = none := by
        cases e : H a with
        | none => rfl
        | some o =>
          rw [show (ent H2 [mo] gx).H0 = H2 from rfl, s _ _ e] at q
          cases q
      exact .inr (.inl (c.free0 this).1)
    · have h0 : k = 0 := by
        have : k < 1 := hk
        omega
      subst h0
      rw [show a = gx.ad 0 from q, ea]
      exact .inr (.inl (c.free0 hx).1)
theorem mkF_ok {K : PySem.W.Frag} : MakeOk K cA t n f (mkF t n f) := by
  intro z H M g ws vs E Q x dx c rv hx hdx hne q
  unfold mkF at q
  by_cases hn : ws.length + 1 = n
  case neg =>
    rw [if_neg hn] at q
    exact q.elim
  rw [if_pos hn] at q
  cases ep : preps 0 ws M with
  | none => simp [ep, Res] at q
  | some pp =>
    obtain ⟨ws', M1⟩ := pp
    simp only [ep] at q
    obtain ⟨g1, c1, l1, n1, k1, _⟩ := preps_ok c rv ep
    have hx1 : upd H dx (.own x) x = none := by rw [upd_ne (Ne.symm hne)]; exact hx
    have sm : L2.Same H (upd (upd H dx (.own x)) x (.ins (cA t) dx [])) := (Same.upd' hdx).trans (Same.upd' hx1)
    have fx : g1.F x = none := c1.sub.free hx
    have cx : Cf K cA (ent (upd (upd H dx (.own x)) x (.ins (cA t) dx [])) [.ins t [] []] ⟨g1.F, fun _ => x⟩) (upd (upd H dx (.own x)) x (.ins (cA t) dx [])) [.ins t [] []] ⟨g1.F, fun _ => x⟩ := by
      refine ⟨c1.sub.trans sm, fun k mo e => ?_, fun i j hi hj _ => ?_, Same.refl _, fun a o e _ => e, fun a h => .inl h, fun _ _ => rfl, fun k h1 h2 => absurd h2 (Nat.not_lt.mpr h1), Nat.le_refl _⟩
      · have hk : k < 1 := (List.getElem?_eq_some_iff.mp e).1
        have h0 : k = 0 := by omega
        subst h0
        cases (Option.some.inj e)
        exact ⟨dx, [], upd_same, fx, rfl, .nil⟩
      · have hi' : i < 1 := hi
        have hj' : j < 1 := hj
        omega
    refine ⟨by rw [List.length_cons, ← rv.length]; exact hn, _, _, _, .m 0 :: ws', cx, .cons ⟨Nat.zero_lt_one, rfl⟩ ?_, ?_⟩
    · have := k1 1 (Nat.zero_le _)
      have k0 := k1 0 (Nat.le_refl _)
      refine Paired.imp' (fun w v r => ?_) k0
      cases w with
      | d d => exact r
      | m j => exact absurd r.1 (Nat.not_lt_zero _)
    · have cx' := cx
      cases ef : f (.m 0 :: ws') [.ins t [] []] with
      | no => simp [ef, Res] at q
      | ex y M' =>
        simp only [ef] at q
        intro H' g' c' l' cls d rx
        obtain ⟨c3, l3⟩ := c1.apart sm hx (gx := ⟨g1.F, fun _ => x⟩) rfl rfl c'
        have hM : M1.length = M.length := n1
        exact q H' _ c3 (l1.trans l3) cls d rx
      | ok w M' =>
        simp only [ef] at q
        cases w with
        | m j => exact q.elim
        | d d =>
          cases d with
          | non =>
            match M', q with
            | [], q => exact q.elim
            | _ :: _ :: _, q => exact q.elim
            | [mo], q =>
              simp only at q
              cases ez : fz1 0 [mo] with
              | none => simp [ez, Res] at q
              | some pz =>
                obtain ⟨xx, Mz⟩ := pz
                simp only [ez] at q
                intro H' g' c' l' v rv'
                obtain ⟨g2, c2, l2, n2, rr⟩ := fz1_ok c' (by exact Nat.zero_lt_one) ez
                obtain ⟨c3, l3⟩ := c1.apart sm hx (gx := ⟨g1.F, fun _ => x⟩) rfl rfl c2
                refine ⟨rv', q H' _ c3 (l1.trans l3) _ ?_⟩
                have e0 : g2.ad 0 = x := (l'.trans l2).ad 0 Nat.zero_lt_one
                rw [e0] at rr
                exact rr
          | _ => exact q.elim
theorem d_make (M : Mk X.K (cA t) fa) (F : FnOk X.prog X.w X.K X.mg X.base (L2.CX X.prog X.w) k fa fd ps (spD X.K cA n f)) (co : MakeOk X.K cA t n f c) (tk : Takes X Wx) (hr : Room (k + 1) X.A) (hm : X.mg x = some (.ref (cA t))) (hb : Binds X.K fd ps dus) (hd : Vals dvs dus) (hf : Flat X.K cA ds dvs)
    (ha : PA X (e :: es) (TAD X.K cA Wx mr)) (hg : Gl X x := by rfl) (hdb : (x == ("__debug__" : Str)) = false := by decide) (he : starEach (e :: es) X.env = (false, eval e X.env) :: starEach es X.env := by rfl) (hpl : (backTo pos (starEach es X.env)).any (·.1) = false := by rfl) :
    PE X (.Call (.Name x p) (e :: es) [] pos) (TED X.K cA Wx (eCall c ds mr)) := PE.imp (pe_makeS M F hr hg hm hb hd (E := WE Wx) (fun σ => passAt tk σ) ha hdb he hpl) fun σ H Q ⟨z, env, M, g, cc, sl, q⟩ => by
  refine ⟨z, env, M, g, cc, sl, Res.imp (fun ws M1 g1 H1 c1 l1 q1 vs rv y dy hy hdy hne => ?_) q.of_bind⟩
  exact co z H1 M1 g1 _ _ _ Q y dy c1 (rwds rv hf) hy hdy hne q1
end
end DL

/-! Layer D: fields, lists that change, texts, slices, in, isinstance, sorted. -/
namespace DL
open PySem PySem.Spec PyProof.Rows L2

/-! ### fields -/
def fldw (ts : List Nat) (f : Str) (w : Wv) (M : Sto) : Rs Wv := match nw M w with
  | .d (.obj t ns l) => if ts.contains t = true then match (ns.zip l).lookup f with
      | some x => .ok (.d x) M
      | none => .no
    else .no
  | .d _ => .no
  | .m k => match M[k]? with
    | some (.ins t ns ws) => if ts.contains t = true then match (ns.zip ws).lookup f with
        | some x => .ok x M
        | none => .no
      else .no
    | _ => .no
theorem lookup_zip {α β : Type} {P : α → β → Prop} {f : Str} {a : α} : ∀ {ns : List Str} {l : List α} {r : List β}, Paired P l r → (ns.zip l).lookup f = some a → ∃ b, (ns.zip r).lookup f = some b ∧ P a b
  | [], _, _, _, e => by simp at e
  | n :: ns, _, _, .nil, e => by simp at e
  | n :: ns, _, _, .cons h t, e => by
    rw [List.zip_cons_cons, List.lookup_cons] at e ⊢
    cases q : f == n with
    | true =>
      rw [q] at e
      exact ⟨_, rfl, by cases e; exact h⟩
    | false =>
      rw [q] at e
      exact lookup_zip t e
/-- what is asked of the classes with these tags -/
def ClsOk (K : PySem.W.Frag) (cA : Nat → Addr) (ts : List Nat) (f : Str) : Prop := ∀ t ∈ ts, Cls K (cA t) ∧ NoAttr K (cA t) f
theorem clsOk_nil {K : PySem.W.Frag} {cA : Nat → Addr} {f : Str} : ClsOk K cA [] f := fun _ h => by cases h
theorem clsOk_cons {K : PySem.W.Frag} {cA : Nat → Addr} {f : Str} {t : Nat} {ts : List Nat} (c : Cls K (cA t)) (n : NoAttr K (cA t) f) (h : ClsOk K cA ts f) : ClsOk K cA (t :: ts) f := fun u hu => by
  rcases List.mem_cons.mp hu with e | e
  · rw [e]; exact ⟨c, n⟩
  · exact h u e
section
variable {X : Cx} {cA : Nat → Addr} {Wx : WX} {a b c e o value : Expr} {es : List Expr} {ma mb mo mv : ED} {mr : AD} {ta : TD} {f x m : Str} {p pos apos tpos pos' : Pos} {ts : List Nat}
theorem fldw_at {K : PySem.W.Frag} {z : Z0} {g : Gh} {H : Hp} {M : Sto} {E : Exn → Sto → Gh → Hp → Prop} {P : Wv → Sto → Gh → Hp → Prop} (c : Cf K cA z H M g) {w : Wv} {v : V} (r : RW K cA g M.length w v) (q : Res K cA z g M.length E (fldw ts f w M) P) :
    ∃ t a dx fs u y, v = .ref a ∧ H a = some (.ins (cA t) dx fs) ∧ t ∈ ts ∧ fs.lookup f = some y ∧ RW K cA g M.length u y ∧ P u M g H := by
  have r' := rw_nw c r
  cases q0 : nw M w with
  | m k =>
    rw [q0] at r'
    obtain ⟨hk, rfl⟩ := r'
    simp only [fldw, q0] at q
    cases q2 : M[k]? with
    | none => simp [q2, Res] at q
    | some mo =>
      cases mo with
      | ins t ns ws =>
        simp only [q2] at q
        by_cases ht : ts.contains t = true
        · rw [if_pos ht] at q
          cases ql : (ns.zip ws).lookup f with
          | none => simp [ql, Res] at q
          | some u =>
            simp only [ql] at q
            obtain ⟨dx, vs, h1, h2, h3, h4⟩ := c.sto k _ q2
            obtain ⟨y, h5, h6⟩ := lookup_zip h4 ql
            exact ⟨t, _, dx, _, u, y, rfl, h1, by simpa using ht, h5, h6, q H g c Le.refl⟩
        · rw [if_neg ht] at q
          exact q.elim
      | _ => simp [q2, Res] at q
  | d d =>
    rw [q0] at r'
    simp only [fldw, q0] at q
    cases d with
    | obj t ns l =>
      simp only at q
      by_cases ht : ts.contains t = true
      · rw [if_pos ht] at q
        cases ql : (ns.zip l).lookup f with
        | none => simp [ql, Res] at q
        | some u =>
          simp only [ql] at q
          obtain ⟨a, dx, vs, rfl, h1, h2, h3⟩ := r'
          obtain ⟨y, h5, h6⟩ := lookup_zip h3.paired ql
          exact ⟨t, a, dx, _, .d u, y, rfl, c.sub _ _ h1, by simpa using ht, h5, h6, q H g c Le.refl⟩
      · rw [if_neg ht] at q
        exact q.elim
    | _ => exact q.elim
theorem d_fld (hc : ClsOk X.K cA ts f) (ha : PE X a (TED X.K cA Wx ma)) (hb : attributeBase a f X.env (eval a X.env) = eval a X.env := by rfl) : PE X (.Attribute a f pos) (TED X.K cA Wx (e1 (fldw ts f) ma)) := PE.imp (pe_fld ha hb) fun σ H Q ⟨z, env, M, g, c, sl, q⟩ => by
  refine ⟨z, env, M, g, c, sl, Res.imp (fun w M1 g1 H1 c1 l1 q1 v rv => ?_) q.of_bind⟩
  obtain ⟨t, a, dx, fs, u, y, h1, h2, h3, h4, h5, h6⟩ := fldw_at c1 rv q1
  exact ⟨a, cA t, dx, fs, y, h1, h2, (hc t h3).1, (hc t h3).2, h4, h6 y h5⟩
/-- a field stored -/
def putN (f : Str) : List Str → List Str
  | [] => [f]
  | n :: ns => if n = f then n :: ns else n :: putN f ns
def putW (f : Str) (w : Wv) : List Str → List Wv → List Wv
  | n :: ns, u :: us => if n = f then w :: us else u :: putW f w ns us
  | _, _ => [w]
theorem put_ok {K : PySem.W.Frag} {g : Gh} {n : Nat} {f : Str} {w : Wv} {y : V} (r : RW K cA g n w y) : ∀ {ns : List Str} {ws : List Wv} {vs : List V}, ns.length = vs.length → Paired (RW K cA g n) ws vs → ∃ us, putF f y (ns.zip vs) = (putN f ns).zip us ∧ (putN f ns).length = us.length ∧ Paired (RW K cA g n) (putW f w ns ws) us
  | [], _, _, hl, .nil => ⟨[y], rfl, rfl, .cons r .nil⟩
  | [], _, _, hl, .cons h t => by simp at hl
  | m :: ns, _, _, hl, .nil => by simp at hl
  | m :: ns, u :: ws, v :: vs, hl, .cons h t => by
    by_cases hm : m = f
    · refine ⟨y :: vs, ?_, ?_, ?_⟩
      · simp [putF, putN, hm]
      · simp [putN, hm]
        simpa using hl
      · simp only [putW, hm, if_true]
        exact .cons r t
    · obtain ⟨us, h1, h2, h3⟩ := put_ok (f := f) (w := w) (y := y) r (by simpa using hl : ns.length = vs.length) t
      refine ⟨v :: us, ?_, ?_, ?_⟩
      · simp [putF, putN, hm, h1]
      · simp [putN, hm, h2]
      · simp only [putW, hm, if_false]
        exact .cons h h3
def stow (t : Nat) (f : Str) (u w : Wv) (M : Sto) : Rs Unit := match w with
  | .m k => match M[k]? with
    | some (.ins t' ns ws) => if t' = t ∧ ns.length < 1000 then .ok () (M.set k (.ins t (putN f ns) (putW f u ns ws))) else .no
    | _ => .no
  | _ => .no
theorem stow_at {K : PySem.W.Frag} {z : Z0} {g : Gh} {H : Hp} {M : Sto} {E : Exn → Sto → Gh → Hp → Prop} {P : Unit → Sto → Gh → Hp → Prop} {t : Nat} (c : Cf K cA z H M g) {w u : Wv} {v y : V} (r : RW K cA g M.length w v) (ru : RW K cA g M.length u y) (q : Res K cA z g M.length E (stow t f u w M) P) :
    ∃ a dx fs M', v = .ref a ∧ H a = some (.ins (cA t) dx fs) ∧ fs.length < 1000 ∧ Cf K cA z (upd H a (.ins (cA t) dx (putF f y fs))) M' g ∧ M'.length = M.length ∧ P () M' g (upd H a (.ins (cA t) dx (putF f y fs))) := by
  cases w with
  | d _ => exact q.elim
  | m k =>
    obtain ⟨hk, rfl⟩ := r
    simp only [stow] at q
    cases q2 : M[k]? with
    | none => simp [q2, Res] at q
    | some mo =>
      cases mo with
      | ins t' ns ws =>
        simp only [q2] at q
        by_cases ht : t' = t ∧ ns.length < 1000
        · rw [if_pos ht] at q
          obtain ⟨rfl, hz⟩ := ht
          obtain ⟨dx, vs, h1, h2, h3, h4⟩ := c.sto k _ q2
          obtain ⟨us, h5, h6, h7⟩ := put_ok (f := f) ru h3 h4
          have c2 : Cf K cA z (upd H (g.ad k) (.ins (cA t') dx (putF f y (ns.zip vs)))) (M.set k (.ins t' (putN f ns) (putW f u ns ws))) g := c.put hk h2 ⟨dx, us, by rw [upd_same, h5], h2, h6, h7⟩
          exact ⟨_, dx, _, _, rfl, h1, by rw [List.length_zip]; omega, c2, List.length_set, q _ g c2 ⟨Same.refl _, fun _ _ => rfl, by rw [List.length_set]; exact Nat.le_refl _⟩⟩
        · rw [if_neg ht] at q
          exact q.elim
      | _ => simp [q2, Res] at q
def sFld (t : Nat) (f : Str) (o v : ED) : SD := fun env M => sx env (v env M) fun u M1 => sx env (o env M1) fun w M2 => sx env (stow t f u w M2) fun _ M3 => .ok (.nx env) M3
theorem s_fld {t : Nat} (cl : Cls X.K (cA t)) (na : NoAttr X.K (cA t) f) (ho : PE X o (TED X.K cA Wx mo)) (hv : PE X value (TED X.K cA Wx mv)) (hs : swapsWith value (some (.Attribute o f pos')) pos.line X.env = pure false := by rfl) :
    PS X (.Assign [.Attribute o f pos'] value pos) (TSD X.K cA Wx (sFld t f mo mv)) := PS.imp (ps_fld ho hv hs) fun D σ H ⟨z, env, M, g, c, sl, q⟩ => by
  refine ⟨z, env, M, g, c, sl, Res.imp (fun u M1 g1 H1 c1 l1 q1 y ru => ?_) (sx_of q sl)⟩
  refine ⟨z, env, M1, g1, c1, sl.mono l1, Res.imp (fun w M2 g2 H2 c2 l2 q2 v rv => ?_) (sx_of q1 (sl.mono l1))⟩
  obtain ⟨a, dx, fs, M3, h1, h2, h3, h4, h5, h6⟩ := stow_at c2 rv (ru.mono l2) (sx_of q2 ((sl.mono l1).mono l2))
  refine ⟨a, cA t, dx, fs, h1, h2, cl, na, h3, h6 _ g2 h4 Le.refl σ ?_⟩
  rw [h5]
  exact (sl.mono l1).mono l2
/-- o.f += e, -= -/
def sFldAug (op : D → D → Option D) (t : Nat) (f : Str) (o v : ED) : SD := fun env M => sx env (o env M) fun w M1 => sx env (fldw [t] f w M1) fun u M2 => sx env (v env M2) fun y M3 => sx env (pu2 op u y M3) fun n M4 => sx env (stow t f n w M4) fun _ M5 => .ok (.nx env) M5
def dAddI : D → D → Option D
  | .int i, .int j => some (.int (i + j))
  | _, _ => none
theorem s_fldaug {t : Nat} {op : Operator} {rd : R2} {dop : D → D → Option D} (hop : InOp X op rd) (k : Ok2 X.K cA (pu2 dop) rd) (cl : Cls X.K (cA t)) (na : NoAttr X.K (cA t) f) (ho : PE X o (TED X.K cA Wx mo)) (hv : PE X value (TED X.K cA Wx mv)) :
    PS X (.AugAssign (.Attribute o f tpos) op value pos) (TSD X.K cA Wx (sFldAug dop t f mo mv)) := PS.imp (ps_fldaug ho hv hop) fun D σ H ⟨z, env, M, g, c, sl, q⟩ => by
  refine ⟨z, env, M, g, c, sl, Res.imp (fun w M1 g1 H1 c1 l1 q1 v rv => ?_) (sx_of q sl)⟩
  have sl1 := sl.mono l1
  obtain ⟨t', a, dx, fs, u, y, h1, h2, h3, h4, h5, h6⟩ := fldw_at c1 rv (sx_of q1 sl1)
  have ht : t' = t := by simpa using h3
  subst ht
  refine ⟨a, cA t', dx, fs, y, h1, h2, cl, na, h4, z, env, M1, g1, c1, sl1, Res.imp (fun u2 M3 g3 H3 c3 l3 q3 v3 rv3 => ?_) (sx_of h6 sl1)⟩
  have sl3 := sl1.mono l3
  refine k z g3 H3 M3 _ u u2 y v3 _ c3 (h5.mono l3) rv3 (Res.imp (fun n M4 g4 H4 c4 l4 q4 v4 rv4 => ?_) (sx_of q3 sl3))
  have sl4 := sl3.mono l4
  obtain ⟨a2, dx2, fs2, M5, k1, k2, k3, k4, k5, k6⟩ := stow_at c4 (rv.mono (l3.trans l4)) rv4 (sx_of q4 sl4)
  rw [h1] at k1
  cases k1
  refine ⟨dx2, fs2, k2, k3, k6 _ g4 k4 Le.refl σ ?_⟩
  rw [k5]
  exact sl4
theorem ok_addI {K : PySem.W.Frag} : Ok2 K cA (pu2 dAddI) L2.rAdd := ok2_pure fun F a b d x y H Q s ra rb e k => by
  cases a <;> cases b <;> simp only [dAddI] at e <;> first | cases e | skip
  exact ⟨_, _, ra, rb, k _ rfl⟩
theorem ok_subI {K : PySem.W.Frag} : Ok2 K cA (pu2 dSub) L2.rSub := ok2_pure fun F a b d x y H Q s ra rb e k => by
  cases a <;> cases b <;> simp only [dSub] at e <;> first | cases e | skip
  exact ⟨_, _, ra, rb, k _ rfl⟩

/-! ### lists that change -/
/-- a list of the store, written -/
theorem Cf.lst {K : PySem.W.Frag} {z : Z0} {g : Gh} {H : Hp} {M : Sto} (c : Cf K cA z H M g) {k : Nat} {ws us : List Wv} {ys : List V} (e : M[k]? = some (.lst ws)) (r : Paired (RW K cA g M.length) us ys) (hz : us.length ≤ sizeLine) :
    Cf K cA z (upd H (g.ad k) (.lst ys)) (M.set k (.lst us)) g ∧ Le g M.length g (M.set k (.lst us)).length := by
  obtain ⟨vs, h1, h2, h3, h4⟩ := c.sto k _ e
  exact ⟨c.put (List.getElem?_eq_some_iff.mp e).1 h2 ⟨ys, upd_same, h2, hz, r⟩, ⟨Same.refl _, fun _ _ => rfl, by rw [List.length_set]; exact Nat.le_refl _⟩⟩
def lstAt (w : Wv) (M : Sto) : Option (Nat × List Wv) := match w with
  | .m k => match M[k]? with
    | some (.lst ws) => some (k, ws)
    | _ => none
  | _ => none
theorem lstAt_some {w : Wv} {M : Sto} {k : Nat} {ws : List Wv} (e : lstAt w M = some (k, ws)) : w = .m k ∧ M[k]? = some (.lst ws) := by
  cases w with
  | d _ => cases e
  | m j =>
    simp only [lstAt] at e
    cases q : M[j]? with
    | none => simp [q] at e
    | some mo =>
      cases mo with
      | lst us =>
        simp only [q, Option.some.injEq, Prod.mk.injEq] at e
        obtain ⟨rfl, rfl⟩ := e
        exact ⟨rfl, q⟩
      | _ => simp [q] at e
theorem lstAt_ty {K : PySem.W.Frag} {z : Z0} {g : Gh} {H : Hp} {M : Sto} (c : Cf K cA z H M g) {w : Wv} {v : V} {p : Nat × List Wv} (r : RW K cA g M.length w v) (e : lstAt w M = some p) : tyV K "list" v H := by
  obtain ⟨k, ws⟩ := p
  obtain ⟨rfl, h⟩ := lstAt_some e
  obtain ⟨hk, rfl⟩ := r
  obtain ⟨vs, h1, _⟩ := c.sto k _ h
  exact .inl ⟨rfl, _, SqL.of h1⟩
/-- a method of a list of the store -/
def eLM (f : List Wv → List Wv → Option (Wv × List Wv)) (o : ED) (a : AD) : ED := fun env M => (o env M).bind fun w M1 => match lstAt w M1 with
  | none => .no
  | some _ => (a env M1).bind fun us M2 => match lstAt w M2 with
    | none => .no
    | some (k, ws) => match f ws us with
      | some (r, ws') => if ws'.length ≤ sizeLine then .ok r (M2.set k (.lst ws')) else .no
      | none => .no
def LMok (K : PySem.W.Frag) (cA : Nat → Addr) (f : List Wv → List Wv → Option (Wv × List Wv)) (r : V → List V → Hp → VK → Prop) : Prop := ∀ (g : Gh) (n : Nat) (H : Hp) (Q : VK) (a : Addr) (ws us : List Wv) (vs xs : List V) (w : Wv) (ws' : List Wv), Paired (RW K cA g n) ws vs → Paired (RW K cA g n) us xs → H a = some (.lst vs) → f ws us = some (w, ws') → ws'.length ≤ sizeLine →
  (∀ v vs', RW K cA g n w v → Paired (RW K cA g n) ws' vs' → Q v (upd H a (.lst vs'))) → r (.ref a) xs H Q
theorem ted_lm {lf : List Wv → List Wv → Option (Wv × List Wv)} {r : V → List V → Hp → VK → Prop} (k : LMok X.K cA lf r) {σ : St} {H : Hp} {Q : VK} (h : TED X.K cA Wx (eLM lf mo mr) σ H Q) : tBM X.K "list" r (TED X.K cA Wx mo) (TAD X.K cA Wx mr) σ H Q := by
  obtain ⟨z, env, M, g, c, sl, q⟩ := h
  refine ⟨z, env, M, g, c, sl, Res.imp (fun w M1 g1 H1 c1 l1 q1 v rv => ?_) q.of_bind⟩
  cases e1 : lstAt w M1 with
  | none => simp [e1, Res] at q1
  | some p1 =>
    simp only [e1] at q1
    refine ⟨lstAt_ty c1 rv e1, z, env, M1, g1, c1, sl.mono l1, Res.imp (fun us M2 g2 H2 c2 l2 q2 xs rxs => ?_) q1.of_bind⟩
    cases e2 : lstAt w M2 with
    | none => simp [e2, Res] at q2
    | some p2 =>
      obtain ⟨kk, ws⟩ := p2
      simp only [e2] at q2
      cases e3 : lf ws us with
      | none => simp [e3, Res] at q2
      | some p3 =>
        obtain ⟨rr, ws'⟩ := p3
        simp only [e3] at q2
        by_cases hz : ws'.length ≤ sizeLine
        · rw [if_pos hz] at q2
          obtain ⟨rfl, hM⟩ := lstAt_some e2
          have rv2 := rv.mono l2
          obtain ⟨hk, rfl⟩ := rv2
          obtain ⟨vs, h1, h2, h3, h4⟩ := c2.sto kk _ hM
          refine k g2 M2.length H2 Q _ ws us vs xs rr ws' h4 rxs h1 e3 hz fun v vs' r1 r2 => ?_
          obtain ⟨c3, l3⟩ := c2.lst hM r2 hz
          exact q2 _ g2 c3 l3 v (r1.mono l3)
        · rw [if_neg hz] at q2
          exact q2.elim
def lApp : List Wv → List Wv → Option (Wv × List Wv) := fun ws us => match us with
  | [u] => some (.d .non, ws ++ [u])
  | _ => none
def lPop : List Wv → List Wv → Option (Wv × List Wv) := fun ws us => match us with
  | [] => (ws[ws.length - 1]?).map fun w => (w, ws.dropLast)
  | _ => none
def lPopAt : List Wv → List Wv → Option (Wv × List Wv) := fun ws us => match us with
  | [.d (.int i)] => if decide (-(2 ^ 63) ≤ i ∧ i < 2 ^ 63) = true then (seqIndex? i ws.length).bind fun k => (ws[k]?).map fun w => (w, ws.eraseIdx k) else none
  | _ => none
theorem dropLast_paired {α β : Type} {P : α → β → Prop} : ∀ {l : List α} {r : List β}, Paired P l r → Paired P l.dropLast r.dropLast
  | _, _, .nil => .nil
  | _, _, .cons _ .nil => .nil
  | _, _, .cons h (.cons h2 t) => by
    rw [List.dropLast_cons₂, List.dropLast_cons₂]
    exact .cons h (dropLast_paired (.cons h2 t))
theorem ok_append {K : PySem.W.Frag} : LMok K cA lApp rAppend := by
  intro g n H Q a ws us vs xs w ws' r1 r2 h e hz q
  match us, r2, e with
  | [u], .cons (b := y) ru .nil, e =>
    cases (Option.some.inj e)
    refine ⟨a, vs, _, rfl, rfl, h, ?_, q .non _ rfl (Paired.append' r1 (.cons ru .nil))⟩
    rw [List.length_append, List.length_singleton, show ws.length = vs.length from r1.length] at hz
    exact hz
theorem ok_pop {K : PySem.W.Frag} : LMok K cA lPop rPop := by
  intro g n H Q a ws us vs xs w ws' r1 r2 h e hz q
  match us, r2, e with
  | [], .nil, e =>
    simp only [lPop] at e
    cases q2 : ws[ws.length - 1]? with
    | none => simp [q2] at e
    | some u =>
      simp only [q2, Option.map_some, Option.some.injEq, Prod.mk.injEq] at e
      obtain ⟨rfl, rfl⟩ := e
      obtain ⟨y, h1, h2⟩ := Paired.get' r1 q2
      exact ⟨a, vs, y, rfl, rfl, h, by rw [← show ws.length = vs.length from r1.length]; exact h1, q y _ h2 (dropLast_paired r1)⟩
theorem ok_popAt {K : PySem.W.Frag} : LMok K cA lPopAt rPopAt := by
  intro g n H Q a ws us vs xs w ws' r1 r2 h e hz q
  match us, r2, e with
  | [.d (.int i)], .cons ri .nil, e =>
    simp only [lPopAt] at e
    by_cases hi : decide (-(2 ^ 63) ≤ i ∧ i < 2 ^ 63) = true
    · rw [if_pos hi] at e
      obtain ⟨b1, b2⟩ := of_decide_eq_true hi
      cases q1 : seqIndex? i ws.length with
      | none => simp [q1] at e
      | some k =>
        cases q2 : ws[k]? with
        | none => simp [q1, q2] at e
        | some u =>
          simp only [q1, q2, Option.bind_some, Option.map_some, Option.some.injEq, Prod.mk.injEq] at e
          obtain ⟨rfl, rfl⟩ := e
          obtain ⟨y, h1, h2⟩ := Paired.get' r1 q2
          exact ⟨a, vs, i, k, y, rfl, by rw [show _ = V.int i from ri], h, b1, b2, by rw [← show ws.length = vs.length from r1.length]; exact q1, h1, q y _ h2 (Paired.eraseIdx' k r1)⟩
    · rw [if_neg hi] at e
      cases e
theorem d_append (ho : PE X o (TED X.K cA Wx mo)) (ha : PA X (e :: es) (TAD X.K cA Wx mr)) (h : PE X (.Call (.Attribute o "append" apos) (e :: es) [] pos) (tBM X.K "list" rAppend (TED X.K cA Wx mo) (TAD X.K cA Wx mr))) :
    PE X (.Call (.Attribute o "append" apos) (e :: es) [] pos) (TED X.K cA Wx (eLM lApp mo mr)) := PE.imp h fun σ H Q q => ted_lm ok_append q
theorem d_popAt (h : PE X (.Call (.Attribute o "pop" apos) (e :: es) [] pos) (tBM X.K "list" rPopAt (TED X.K cA Wx mo) (TAD X.K cA Wx mr))) :
    PE X (.Call (.Attribute o "pop" apos) (e :: es) [] pos) (TED X.K cA Wx (eLM lPopAt mo mr)) := PE.imp h fun σ H Q q => ted_lm ok_popAt q
theorem d_pop (h : PE X (.Call (.Attribute o "pop" apos) [] [] pos) (tBM0 X.K "list" rPop (TED X.K cA Wx mo))) : PE X (.Call (.Attribute o "pop" apos) [] [] pos) (TED X.K cA Wx (eLM lPop mo aNil)) := PE.imp h fun σ H Q q => by
  have q2 := ted_lm (X := X) (Wx := Wx) ok_pop q
  obtain ⟨z, env, M, g, cc, sl, q⟩ := q2
  exact ⟨z, env, M, g, cc, sl, Res.imp (fun w M1 g1 H1 c1 l1 q1 v rv => ⟨(q1 v rv).1, tad_nil (σ := σ) (H := H1) (Q := fun xs H2 => rPop v xs H2 Q) (q1 v rv).2⟩) q⟩
/-- extend by a list -/
def eExt (o a : ED) : ED := fun env M => (o env M).bind fun w M1 => match lstAt w M1 with
  | none => .no
  | some _ => (a env M1).bind fun u M2 => match lstAt w M2, seqw M2 u with
    | some (k, ws), some (true, us) => if ws.length + us.length ≤ sizeLine then .ok (.d .non) (M2.set k (.lst (ws ++ us))) else .no
    | _, _ => .no
/-- a list, tracked -/
theorem seqw_lst_at {K : PySem.W.Frag} {z : Z0} {g : Gh} {H : Hp} {M : Sto} (c : Cf K cA z H M g) {w : Wv} {v : V} {us : List Wv} (r : RW K cA g M.length w v) (e : seqw M w = some (true, us)) (hs : ∀ l, nw M w ≠ .d (.scr l)) : ∃ a vs, v = .ref a ∧ H a = some (.lst vs) ∧ Paired (RW K cA g M.length) us vs := by
  have r' := rw_nw c r
  cases q : nw M w with
  | m k =>
    rw [q] at r'
    simp only [seqw, q] at e
    cases q2 : M[k]? with
    | none => simp [q2] at e
    | some mo =>
      cases mo with
      | lst ws =>
        simp only [q2, Option.some.injEq, Prod.mk.injEq] at e
        obtain ⟨_, rfl⟩ := e
        obtain ⟨vs, h1, h2, h3, h4⟩ := c.sto k _ q2
        exact ⟨_, vs, r'.2, h1, h4⟩
      | _ => simp [q2] at e
  | d x =>
    rw [q] at r'
    simp only [seqw, q] at e
    cases x <;> simp only [Option.some.injEq, Prod.mk.injEq, reduceCtorEq, Bool.false_eq_true, false_and, true_and] at e
    · subst e
      obtain ⟨a, vs, rfl, h1, h2, h3⟩ := r'
      exact ⟨a, vs, rfl, c.sub _ _ h1, h3.wd rfl⟩
    · exact absurd q (hs _)
/-- xs[i] = e -/
def tgS (o i : ED) : GD := fun w env M => (nx (o env M)).bind fun wo M1 => (nx (i env M1)).bind fun wi M2 => match wi with
  | .d (.int j) => match lstAt wo M2 with
    | some (k, ws) => match ixN ws.length j with
      | some n => .ok env (M2.set k (.lst (ws.set n w)))
      | none => .no
    | none => .no
  | _ => .no
theorem set_len {α : Type} (l : List α) (i : Nat) (a : α) : (l.set i a).length = l.length := List.length_set
theorem g_sub (h : ∀ {to ti : TE}, PE X o to → PE X a ti → PG X (.Subscript o a pos) (gSub to ti rSetL)) (ho : ∀ W, Takes X W → PE X o (TED X.K cA W mo)) (hi : ∀ W, Takes X W → PE X a (TED X.K cA W ma)) (h0 : Takes X W0) :
    PG X (.Subscript o a pos) (TGD X.K cA (tgS mo ma)) := PG.imp (h (ho W0 h0) (hi W0 h0)) fun v σ H Q ⟨z, env, M, g, w, c, sl, rw1, q⟩ => by
  refine ⟨z, env, M, g, c, sl, Res.imp (fun wo M1 g1 H1 c1 l1 q1 x rx => ?_) (q.of_bind.nx')⟩
  refine ⟨z, env, M1, g1, c1, sl.mono l1, Res.imp (fun wi M2 g2 H2 c2 l2 q2 y ry => ?_) (q1.of_bind.nx')⟩
  cases wi with
  | m _ => exact q2.elim
  | d d =>
    cases d with
    | int j =>
      cases (show y = .int j from ry)
      simp only at q2
      cases e : lstAt wo M2 with
      | none => simp [e, Res] at q2
      | some p =>
        obtain ⟨k, ws⟩ := p
        simp only [e] at q2
        cases e2 : ixN ws.length j with
        | none => simp [e2, Res] at q2
        | some n =>
          simp only [e2] at q2
          obtain ⟨rfl, hM⟩ := lstAt_some e
          have rx2 := rx.mono l2
          obtain ⟨hk, rfl⟩ := rx2
          obtain ⟨vs, h1, h2, h3, h4⟩ := c2.sto k _ hM
          obtain ⟨c3, l3⟩ := c2.lst (us := ws.set n w) (ys := vs.set n v) hM (Paired.set' (rw1.mono (l1.trans l2)) n h4) (by rw [List.length_set]; exact h3)
          exact ⟨_, vs, j, n, rfl, rfl, h1, by rw [← show ws.length = vs.length from h4.length]; exact e2, q2 _ g2 c3 l3 σ (((sl.mono l1).mono l2).mono l3)⟩
    | _ => exact q2.elim
end
end DL

/-! Layer D: texts, slices, in, isinstance, sorted, dicts. -/
namespace DL
open PySem PySem.Spec PyProof.Rows L2

theorem RepL.strs {K : PySem.W.Frag} {cA : Nat → Addr} {F : Hp} : ∀ l : List Str, RepL K cA F (l.map .str) (l.map V.str)
  | [] => rfl
  | x :: l => ⟨_, _, rfl, rfl, RepL.strs l⟩
theorem RepL.ints {K : PySem.W.Frag} {cA : Nat → Addr} {F : Hp} : ∀ l : List Int, RepL K cA F (l.map .int) (l.map V.int)
  | [] => rfl
  | x :: l => ⟨_, _, rfl, rfl, RepL.ints l⟩
section
variable {X : Cx} {cA : Nat → Addr} {Wx : WX} {a b c e o value : Expr} {es : List Expr} {ma mb mo mv : ED} {mr : AD} {ta : TD} {f x m : Str} {p pos apos tpos pos' p2 : Pos} {ts : List Nat}

/-! ### texts -/
theorem nd_str {K : PySem.W.Frag} {z : Z0} {g : Gh} {H : Hp} {M : Sto} (c : Cf K cA z H M g) {w : Wv} {v : V} {s : Str} (r : RW K cA g M.length w v) (e : nd M w = some (.str s)) : v = .str s := nd_rep c r e
/-- s.m(e), of a text -/
def eS1 (f : Str → Wv → Sto → Rs Wv) (o a : ED) : ED := fun env M => (o env M).bind fun w M1 => match nd M1 w with
  | some (.str s) => (a env M1).bind fun u M2 => f s u M2
  | _ => .no
def eS0 (f : Str → Option D) (o : ED) : ED := fun env M => (o env M).bind fun w M1 => match nd M1 w with
  | some (.str s) => rsd M1 (f s)
  | _ => .no
def S1ok (K : PySem.W.Frag) (cA : Nat → Addr) (f : Str → Wv → Sto → Rs Wv) (r : V → List V → Hp → VK → Prop) : Prop := ∀ s, Ok1 K cA (f s) fun y H Q => r (.str s) [y] H Q
theorem ted_s1 {f : Str → Wv → Sto → Rs Wv} {r : V → List V → Hp → VK → Prop} (k : S1ok X.K cA f r) {σ : St} {H : Hp} {Q : VK} (h : TED X.K cA Wx (eS1 f mo ma) σ H Q) : tM1 r (TED X.K cA Wx mo) (TED X.K cA Wx ma) σ H Q := by
  obtain ⟨z, env, M, g, c, sl, q⟩ := h
  refine ⟨z, env, M, g, c, sl, Res.imp (fun w M1 g1 H1 c1 l1 q1 v rv => ?_) q.of_bind⟩
  cases e1 : nd M1 w with
  | none => simp [e1, Res] at q1
  | some d =>
    cases d with
    | str s =>
      simp only [e1] at q1
      have ev := nd_str c1 rv e1
      subst ev
      exact ⟨⟨s, rfl⟩, z, env, M1, g1, c1, sl.mono l1, Res.imp (fun u M2 g2 H2 c2 l2 q2 y ry => k s z g2 H2 M2 _ u y Q c2 ry q2) q1.of_bind⟩
    | _ => simp [e1, Res] at q1
def splitw (a : Str) (u : Wv) (M : Sto) : Rs Wv := match nd M u with
  | some (.str b) => if (b.length == 0) = false ∧ a.length + 2 ≤ sizeLine ∧ (Txt.split a b).length ≤ sizeLine then .ok (.d (.lst ((Txt.split a b).map .str))) M else .no
  | _ => .no
theorem ok_split {K : PySem.W.Frag} : S1ok K cA splitw (fun x xs H Q => ∃ a b, x = .str a ∧ xs = [.str b] ∧ (b.length == 0) = false ∧ a.length + 2 ≤ sizeLine ∧ rNewStrs (Txt.split a b) H Q) := by
  intro s z g H M E wx x Q c rx q
  unfold splitw at q
  cases e : nd M wx with
  | none => simp [e, Res] at q
  | some d =>
    cases d with
    | str b =>
      simp only [e] at q
      by_cases hz : (b.length == 0) = false ∧ s.length + 2 ≤ sizeLine ∧ (Txt.split s b).length ≤ sizeLine
      · rw [if_pos hz] at q
        refine ⟨s, b, rfl, by rw [nd_str c rx e], hz.1, hz.2.1, fun p hp => ?_⟩
        exact c.ans q hp ⟨p, _, rfl, upd_same, by rw [List.length_map]; exact hz.2.2, RepL.strs _⟩
      · rw [if_neg hz] at q
        exact q.elim
    | _ => simp [e, Res] at q
theorem d_split (ho : PE X o (TED X.K cA Wx mo)) (he : PE X e (TED X.K cA Wx ma)) (hs : starEach [e] X.env = [(false, eval e X.env)] := by rfl) (hbase : attributeBase o "split" X.env (eval o X.env) = eval o X.env := by rfl) (hline : (apos.endLine == pos.line) = true := by rfl) :
    PE X (.Call (.Attribute o "split" apos) [e] [] pos) (TED X.K cA Wx (eS1 splitw mo ma)) := PE.imp (pe_split ho he hs hbase hline) fun σ H Q h => ted_s1 ok_split h
def joinw (a : Str) (u : Wv) (M : Sto) : Rs Wv := match seqw M u with
  | some (_, ws) => match (nds M ws).bind strsOf with
    | some ys => if (ys.map (·.length)).sum + ys.length * a.length ≤ 16777216 then .ok (.d (.str (Txt.join a ys))) M else .no
    | none => .no
  | none => .no
theorem ok_join {K : PySem.W.Frag} : S1ok K cA joinw (fun x xs H Q => ∃ a p, ∃ ys : List Str, x = .str a ∧ xs = [.ref p] ∧ (SqL K H p (ys.map V.str) ∨ SqT K H p (ys.map V.str)) ∧ (ys.map (·.length)).sum + ys.length * a.length ≤ 16777216 ∧ Q (.str (Txt.join a ys)) H) := by
  intro s z g H M E wx x Q c rx q
  unfold joinw at q
  cases e : seqw M wx with
  | none => simp [e, Res] at q
  | some pp =>
    obtain ⟨bb, ws⟩ := pp
    simp only [e] at q
    cases e2 : nds M ws with
    | none => simp [e2, Res] at q
    | some l =>
      cases e3 : strsOf l with
      | none => simp [e2, e3, Res] at q
      | some ys =>
        simp only [e2, e3, Option.bind_some] at q
        by_cases hz : (ys.map (·.length)).sum + ys.length * s.length ≤ 16777216
        · rw [if_pos hz] at q
          obtain ⟨a, vs, rfl, h1, h2, h3⟩ := seqw_or c rx e
          have ev := strsOf_rep (nds_rep c h3 e2) e3
          subst ev
          exact ⟨s, a, ys, rfl, rfl, h1, hz, q H g c Le.refl _ rfl⟩
        · rw [if_neg hz] at q
          exact q.elim
theorem d_join (ho : PE X o (TED X.K cA Wx mo)) (he : PE X e (TED X.K cA Wx ma)) (hs : starEach [e] X.env = [(false, eval e X.env)] := by rfl) (hbase : attributeBase o "join" X.env (eval o X.env) = eval o X.env := by rfl) (hline : (apos.endLine == pos.line) = true := by rfl) :
    PE X (.Call (.Attribute o "join" apos) [e] [] pos) (TED X.K cA Wx (eS1 joinw mo ma)) := PE.imp (pe_join ho he hs hbase hline) fun σ H Q h => ted_s1 ok_join h
def upperS (a : Str) : Option D := if a.length ≤ 5592405 then some (.str (Txt.upper a)) else none
theorem d_upper (ho : PE X o (TED X.K cA Wx mo)) (hbase : attributeBase o "upper" X.env (eval o X.env) = eval o X.env := by rfl) (hline : (apos.endLine == pos.line) = true := by rfl) :
    PE X (.Call (.Attribute o "upper" apos) [] [] pos) (TED X.K cA Wx (eS0 upperS mo)) := PE.imp (pe_upper ho hbase hline) fun σ H Q ⟨z, env, M, g, c, sl, q⟩ => by
  refine ⟨z, env, M, g, c, sl, Res.imp (fun w M1 g1 H1 c1 l1 q1 v rv => ?_) q.of_bind⟩
  cases e1 : nd M1 w with
  | none => simp [e1, Res] at q1
  | some d =>
    cases d with
    | str s =>
      simp only [e1, upperS] at q1
      have ev := nd_str c1 rv e1
      subst ev
      by_cases hz : s.length ≤ 5592405
      · rw [if_pos hz] at q1
        exact ⟨⟨s, rfl⟩, s, rfl, rfl, hz, q1 H1 g1 c1 Le.refl _ rfl⟩
      · rw [if_neg hz] at q1
        exact q1.elim
    | _ => simp [e1, Res] at q1
/-- str(x) -/
def rStrD : List V → Hp → VK → Prop := fun xs H Q => (∃ i, xs = [.int i] ∧ i.natAbs.log2 < 1920 ∧ Q (.str (toString i)) H) ∨ ∃ a, xs = [.str a] ∧ Q (.str a) H
theorem cr_strD : CallR X (.type "str") rStrD := callOr call_str_int SkE.call_str_str
theorem ok_str {K : PySem.W.Frag} : OkL K cA (f1 (pu1 dStr)) rStrD := okL1 (ok1_pure fun F a d x H Q s ra e k => by
  cases a <;> simp only [dStr] at e <;> first | cases e | skip
  · rename_i i
    by_cases hz : i.natAbs.log2 < 1920
    · rw [if_pos hz] at e
      cases e
      exact .inl ⟨i, by rw [show x = V.int _ from ra], hz, k _ rfl⟩
    · rw [if_neg hz] at e
      cases e
  · exact .inr ⟨_, by rw [show x = V.str _ from ra], k _ rfl⟩)
theorem d_tostr (hm : X.mg "str" = none) (ha : PA X (e :: es) (TAD X.K cA Wx mr)) (hg : Gl X "str" := by rfl) (he : starEach (e :: es) X.env = (false, eval e X.env) :: starEach es X.env := by rfl) (hpl : (backTo pos (starEach es X.env)).any (·.1) = false := by rfl) :
    PE X (.Call (.Name "str" p) (e :: es) [] pos) (TED X.K cA Wx (eL (f1 (pu1 dStr)) mr)) := d_callT ok_str cr_strD hm ha hg (by decide +kernel) (by decide) (by decide) he hpl

/-! ### a star in a display -/
def aStar (a : ED) (r : AD) : AD := fun env M => (a env M).bind fun w M1 => match seqw M1 w with
  | some (_, us) => (r env M1).bind fun ws M2 => .ok (us ++ ws) M2
  | none => .no
theorem a_star {sp : Pos} (ha : PE X a (TED X.K cA Wx ma)) (hr : PA X es (TAD X.K cA Wx mr)) (hs : starEach (.Starred a sp :: es) X.env = (true, eval a X.env) :: starEach es X.env := by rfl) : PA X (.Starred a sp :: es) (TAD X.K cA Wx (aStar ma mr)) :=
  PA.imp (StX.pa_star ha hr hs) fun σ H Q ⟨z, env, M, g, c, sl, q⟩ => by
    refine ⟨z, env, M, g, c, sl, Res.imp (fun w M1 g1 H1 c1 l1 q1 v rv => ?_) q.of_bind⟩
    cases e : seqw M1 w with
    | none => simp [e, Res] at q1
    | some pp =>
      obtain ⟨bb, us⟩ := pp
      simp only [e] at q1
      obtain ⟨a, vs, rfl, h1, h2, h3⟩ := seqw_or c1 rv e
      refine ⟨a, vs, rfl, h1.symm, z, env, M1, g1, c1, sl.mono l1, Res.imp (fun ws M2 g2 H2 c2 l2 q2 vs2 rvs => ?_) q1.of_bind⟩
      exact q2 H2 g2 c2 Le.refl _ (Paired.append' (RWs.mono l2 h3) rvs)

/-! ### slices -/
abbrev OD := Ev → Sto → Rs (Option Int)
def oNone : OD := fun _ M => .ok none M
def oSome (a : ED) : OD := fun env M => (a env M).bind fun w M1 => match w with
  | .d (.int i) => .ok (some i) M1
  | _ => .no
def TOD (K : PySem.W.Frag) (cA : Nat → Addr) (Wx : WX) (m : OD) : TO := fun σ H Q => ∃ z env M g, Cf K cA z H M g ∧ Slots K cA g M.length env σ ∧ Res K cA z g M.length (EX K cA Wx σ) (m env M) fun w M' g' H' => Q w H'
theorem PO.imp {X : Cx} {e : Option Expr} {t t' : TO} (h : PO X e t) (i : ∀ σ H Q, t' σ H Q → t σ H Q) : PO X e t' := ⟨fun pins s σ H Q I q => h.run pins s σ H Q I (i σ H Q q)⟩
theorem o_none : PO X none (TOD X.K cA Wx oNone) := PO.imp po_none fun σ H Q ⟨z, env, M, g, c, sl, q⟩ => q H g c Le.refl
theorem o_some (ha : PE X a (TED X.K cA Wx ma)) : PO X (some a) (TOD X.K cA Wx (oSome ma)) := PO.imp (po_some ha) fun σ H Q ⟨z, env, M, g, c, sl, q⟩ => by
  refine ⟨z, env, M, g, c, sl, Res.imp (fun w M1 g1 H1 c1 l1 q1 v rv => ?_) q.of_bind⟩
  cases w with
  | m _ => exact q1.elim
  | d d =>
    cases d with
    | int i => exact ⟨i, rv, q1 H1 g1 c1 Le.refl⟩
    | _ => exact q1.elim
def cutL {α : Type} (xs : List α) (lo hi : Option Int) : List α := (xs.drop (HT.sIx xs.length 0 lo)).take (HT.sIx xs.length xs.length hi - HT.sIx xs.length 0 lo)
/-- a slice, frozen; of a list as a list to be changed -/
def slw (fr : Bool) (w : Wv) (lo hi : Option Int) (M : Sto) : Rs Wv := match seqw M w with
  | some (true, ws) => if fr = true then match nds M (cutL ws lo hi) with
      | some l => .ok (.d (.lst l)) M
      | none => .no
    else .ok (.m M.length) (M ++ [.lst (cutL ws lo hi)])
  | some (false, ws) => match nds M (cutL ws lo hi) with
    | some l => .ok (.d (.tup l)) M
    | none => .no
  | none => match nd M w with
    | some (.str s) => if s.length ≤ sizeLine then .ok (.d (.str (cutS s lo hi))) M else .no
    | _ => .no
def eSl (fr : Bool) (a : ED) (l h : OD) : ED := fun env M => (a env M).bind fun w M1 => (l env M1).bind fun lo M2 => (h env M2).bind fun hi M3 => slw fr w lo hi M3
theorem cutL_len {α : Type} (xs : List α) (lo hi : Option Int) : (cutL xs lo hi).length ≤ xs.length := by
  unfold cutL
  rw [List.length_take, List.length_drop]
  omega
theorem cut_paired {α : Type} {P : α → V → Prop} {l : List α} {r : List V} (lo hi : Option Int) (h : Paired P l r) : Paired P (cutL l lo hi) (cutV r lo hi) := by
  unfold cutL cutV
  rw [show l.length = r.length from h.length]
  exact Paired.take' _ (Paired.drop' _ h)
theorem cut_whole {α : Type} {xs : List α} {lo hi : Option Int} (h : HT.sIx xs.length 0 lo = 0 ∧ HT.sIx xs.length xs.length hi = xs.length) : cutL xs lo hi = xs := by
  unfold cutL
  rw [h.1, h.2]
  simp
theorem d_sl {lo hi : Option Expr} {ml mh : OD} {fr : Bool} (ha : PE X a (TED X.K cA Wx ma)) (hl : PO X lo (TOD X.K cA Wx ml)) (hh : PO X hi (TOD X.K cA Wx mh)) : PE X (.Subscript a (.Slice lo hi none p2) pos) (TED X.K cA Wx (eSl fr ma ml mh)) :=
  PE.imp (pe_slice (SlR.or (SlR.or sl_list sl_tupA) sl_str) ha hl hh) fun σ H Q ⟨z, env, M, g, c, sl, q⟩ => by
    refine ⟨z, env, M, g, c, sl, Res.imp (fun w M1 g1 H1 c1 l1 q1 v rv => ?_) q.of_bind⟩
    refine ⟨z, env, M1, g1, c1, sl.mono l1, Res.imp (fun lo M2 g2 H2 c2 l2 q2 => ?_) q1.of_bind⟩
    refine ⟨z, env, M2, g2, c2, (sl.mono l1).mono l2, Res.imp (fun hi M3 g3 H3 c3 l3 q3 => ?_) q2.of_bind⟩
    have rv3 := rv.mono (l2.trans l3)
    unfold slw at q3
    cases e : seqw M3 w with
    | none =>
      simp only [e] at q3
      cases e2 : nd M3 w with
      | none => simp [e2, Res] at q3
      | some d =>
        cases d with
        | str s =>
          simp only [e2] at q3
          by_cases hz : s.length ≤ sizeLine
          · rw [if_pos hz] at q3
            exact .inr ⟨s, nd_str c3 rv3 e2, hz, q3 H3 g3 c3 Le.refl _ rfl⟩
          · rw [if_neg hz] at q3
            exact q3.elim
        | _ => simp [e2, Res] at q3
    | some pp =>
      obtain ⟨bb, ws⟩ := pp
      obtain ⟨a, vs, rfl, h1, h2, h3⟩ := seqw_at c3 rv3 e
      have hcp := cut_paired lo hi h3
      have hlen : (cutV vs lo hi).length ≤ sizeLine := Nat.le_trans (cutL_len vs lo hi) h2
      cases bb with
      | true =>
        simp only [e] at q3
        refine .inl (.inl ⟨a, vs, rfl, by simpa using h1, fun p hp => ?_⟩)
        cases fr with
        | true =>
          simp only [if_true] at q3
          cases e2 : nds M3 (cutL ws lo hi) with
          | none => simp [e2, Res] at q3
          | some l =>
            simp only [e2] at q3
            have rl := nds_rep c3 hcp e2
            exact c3.ans q3 hp ⟨p, _, rfl, upd_same, hlen, rl.mono (Same.upd' (c3.sub.free hp))⟩
        | false =>
          simp only [Bool.false_eq_true, if_false] at q3
          exact c3.ansM hcp (by rw [show (cutL ws lo hi).length = _ from hcp.length]; exact hlen) q3 hp
      | false =>
        simp only [e] at q3
        cases e2 : nds M3 (cutL ws lo hi) with
        | none => simp [e2, Res] at q3
        | some l =>
          simp only [e2] at q3
          have rl := nds_rep c3 hcp e2
          have h1' : SqT X.K H3 a vs := by simpa using h1
          refine .inl (.inr ⟨a, vs, rfl, h1', fun hw => ?_, fun _ p hp => c3.ans q3 hp ⟨p, _, rfl, SqT.of upd_same, hlen, rl.mono (Same.upd' (c3.sub.free hp))⟩⟩)
          have hw2 : cutL ws lo hi = ws := cut_whole (by rw [show ws.length = vs.length from h3.length]; exact hw)
          rw [hw2] at e2
          refine q3 H3 g3 c3 Le.refl _ ?_
          have r' := rw_nw c3 rv3
          cases e3 : nw M3 w with
          | m k =>
            simp only [seqw, e3] at e
            cases e4 : M3[k]? with
            | none => simp [e4] at e
            | some mo => cases mo <;> simp [e4] at e
          | d d =>
            rw [e3] at r'
            simp only [seqw, e3] at e
            cases d with
            | tup l' =>
              simp only [Option.some.injEq, Prod.mk.injEq] at e
              obtain ⟨_, rfl⟩ := e
              rw [nds_d] at e2
              cases (Option.some.inj e2)
              exact r'
            | _ => simp at e

/-! ### in, not in -/
def flatD : D → Bool
  | .non => true
  | .bl _ => true
  | .int _ => true
  | .str _ => true
  | _ => false
/-- == of flat data -/
def eqF : D → D → Bool
  | .non, .non => true
  | .bl a, .bl b => a == b
  | .bl a, .int b => (if a then 1 else 0) == b
  | .int a, .bl b => a == (if b then 1 else 0)
  | .int a, .int b => a == b
  | .str a, .str b => a == b
  | _, _ => false
/-- x in a list or a tuple -/
def inD (x : D) (b : Bool) (l : List D) : Option Bool := if (flatD x && l.all flatD) = true then some (l.any fun y => eqF y x)
  else if b = true then match x.toP, D.toPs l with
    | some d, some ds => if SeqAt.shaped d && SeqAt.shaped (.list ds) then some (ds.any fun z => PyData.eqv z d) else none
    | _, _ => none
  else none
def inStr (c s : Str) : Bool := match c.cps.toList with
  | [x] => decide (x ∈ s.cps.toList)
  | _ => !(Builtin.Str.occurrences s c 0 s.length 1).isEmpty
def inB (w u : Wv) (M : Sto) : Option Bool := match nd M w with
  | none => none
  | some x => match seqw M u with
    | some (b, us) => (nds M us).bind fun l => inD x b l
    | none => match x, nd M u with
      | .str c, some (.str s) => some (inStr c s)
      | _, _ => none
def inw (neg : Bool) (w u : Wv) (M : Sto) : Rs Wv := match inB w u M with
  | some k => .ok (.d (.bl (neg != k))) M
  | none => .no
theorem flat_rep {K : PySem.W.Frag} {F : Hp} {x : D} {v : V} (h : flatD x = true) (r : Rep K cA F x v) : flatV v = true := by
  cases x with
  | non => cases (show v = .non from r); rfl
  | bl _ => cases (show v = .bl _ from r); rfl
  | int _ => cases (show v = .int _ from r); rfl
  | str _ => cases (show v = .str _ from r); rfl
  | _ => cases h
theorem eqF_rep {K : PySem.W.Frag} {F : Hp} {x y : D} {v u : V} (hx : flatD x = true) (hy : flatD y = true) (r : Rep K cA F x v) (s : Rep K cA F y u) : eqV u v = eqF y x := by
  cases x <;> first | (cases hx; done) | skip
  all_goals cases y <;> first | (cases hy; done) | skip
  all_goals (first | cases (show v = .non from r) | cases (show v = .bl _ from r) | cases (show v = .int _ from r) | cases (show v = .str _ from r))
  all_goals (first | cases (show u = .non from s) | cases (show u = .bl _ from s) | cases (show u = .int _ from s) | cases (show u = .str _ from s))
  all_goals rfl
theorem flats_rep {K : PySem.W.Frag} {F : Hp} : ∀ {l : List D} {vs : List V}, RepL K cA F l vs → l.all flatD = true → vs.all flatV = true
  | [], _, h, _ => by cases (show _ = [] from h); rfl
  | x :: l, _, h, q => by
    obtain ⟨v, r, rfl, h1, h2⟩ := h
    rw [List.all_cons, Bool.and_eq_true] at q ⊢
    exact ⟨flat_rep q.1 h1, flats_rep h2 q.2⟩
theorem any_rep {K : PySem.W.Frag} {F : Hp} {x : D} {v : V} (hx : flatD x = true) (r : Rep K cA F x v) : ∀ {l : List D} {vs : List V}, RepL K cA F l vs → l.all flatD = true → inV v vs = l.any fun y => eqF y x
  | [], _, h, _ => by cases (show _ = [] from h); rfl
  | y :: l, _, h, q => by
    obtain ⟨u, us, rfl, h1, h2⟩ := h
    rw [List.all_cons, Bool.and_eq_true] at q
    show (eqV u v || inV v us) = _
    rw [List.any_cons, eqF_rep hx q.1 r h1, any_rep hx r h2 q.2]
def rInAll (K : PySem.W.Frag) (neg : Bool) : R2 := fun x y H Q => ((rIn K neg x y H Q ∨ ∃ d ds, Dp K H x d ∧ Dp K H y (.list ds) ∧ SeqAt.shaped d = true ∧ SeqAt.shaped (.list ds) = true ∧ Q (.bl (neg != ds.any fun z => PyData.eqv z d)) H) ∨
  ∃ (c : Nat) (z : Str), x = .str ⟨#[c]⟩ ∧ y = .str z ∧ Q (.bl (neg != decide (c ∈ z.cps.toList))) H) ∨ ∃ i j, x = .str i ∧ y = .str j ∧ Q (.bl (neg != !(Builtin.Str.occurrences j i 0 j.length 1).isEmpty)) H
theorem op_inAll (hu : X.A.units + 65 < cLine) : OpR X (compareOp .In) (rInAll X.K false) := by
  intro pins s σ H x y v u Q I rx ry h
  rcases h with ((h | ⟨d, ds, h1, h2, h3, h4, q⟩) | ⟨c, z, h1, h2, q⟩) | ⟨i, j, h1, h2, q⟩
  · exact op_in_seq pins s σ H x y v u Q I rx ry h
  · exact op_inD hu pins s σ H x y v u Q I rx ry ⟨d, ds, h1, h2, h3, h4, by simpa using q⟩
  · exact op_in_sign pins s σ H x y v u Q I rx ry ⟨c, z, h1, h2, by simpa using q⟩
  · exact op_in_str pins s σ H x y v u Q I rx ry ⟨i, j, h1, h2, by simpa using q⟩
theorem op_notInAll (hu : X.A.units + 65 < cLine) : OpR X (compareOp .NotIn) (rInAll X.K true) := by
  intro pins s σ H x y v u Q I rx ry h
  rcases h with ((h | ⟨d, ds, h1, h2, h3, h4, q⟩) | ⟨c, z, h1, h2, q⟩) | ⟨i, j, h1, h2, q⟩
  · exact op_notIn_seq pins s σ H x y v u Q I rx ry h
  · exact op_notInD hu pins s σ H x y v u Q I rx ry ⟨d, ds, h1, h2, h3, h4, by simpa using q⟩
  · exact op_notIn_sign pins s σ H x y v u Q I rx ry ⟨c, z, h1, h2, by simpa using q⟩
  · exact op_notin_str pins s σ H x y v u Q I rx ry ⟨i, j, h1, h2, by simpa using q⟩
theorem ok_in {K : PySem.W.Frag} {neg : Bool} : Ok2 K cA (inw neg) (rInAll K neg) := by
  intro z g H M E wx wy x y Q c rx ry q
  unfold inw inB at q
  cases e : nd M wx with
  | none => simp [e, Res] at q
  | some d =>
    have rd := nd_rep c rx e
    simp only [e] at q
    cases e2 : seqw M wy with
    | some pp =>
      obtain ⟨b, us⟩ := pp
      simp only [e2] at q
      cases e3 : nds M us with
      | none => simp [e3, Res] at q
      | some l =>
        simp only [e3, Option.bind_some] at q
        obtain ⟨a, vs, rfl, h1, h2, h3⟩ := seqw_at c ry e2
        have rl := nds_rep c h3 e3
        unfold inD at q
        by_cases hfl : (flatD d && l.all flatD) = true
        · simp only [hfl, if_true] at q
          rw [Bool.and_eq_true] at hfl
          refine .inl (.inl (.inl ⟨a, vs, rfl, ?_, flat_rep hfl.1 rd, flats_rep rl hfl.2, ?_⟩))
          · cases b with
            | true => exact .inl (by simpa using h1)
            | false => exact .inr (by simpa using h1)
          · rw [any_rep hfl.1 rd rl hfl.2]
            have q2 := q H g c Le.refl _ rfl
            cases neg with
            | true => simpa using q2
            | false => simpa using q2
        · simp only [hfl, if_false, Bool.false_eq_true] at q
          cases b with
          | false => simp [Res] at q
          | true =>
            simp only [if_true] at q
            cases e4 : d.toP with
            | none => simp [e4, Res] at q
            | some pd =>
              cases e5 : D.toPs l with
              | none => simp [e4, e5, Res] at q
              | some pl =>
                simp only [e4, e5] at q
                by_cases hs : (SeqAt.shaped pd && SeqAt.shaped (.list pl)) = true
                · simp only [hs, if_true] at q
                  rw [Bool.and_eq_true] at hs
                  exact .inl (.inl (.inr ⟨pd, pl, toP_dp c.sub rd e4, .lst (by simpa using h1) (toPs_dp c.sub rl e5), hs.1, hs.2, q H g c Le.refl _ rfl⟩))
                · simp only [hs, if_false, Bool.false_eq_true] at q
                  exact q.elim
    | none =>
      simp only [e2] at q
      cases d with
      | str ch =>
        cases e3 : nd M wy with
        | none => simp [e3, Res] at q
        | some dy =>
          cases dy with
          | str s =>
            simp only [e3, inStr] at q
            have ex := nd_str c rx e
            have ey := nd_str c ry e3
            subst ex
            subst ey
            cases e4 : ch.cps.toList with
            | nil =>
              simp only [e4] at q
              exact .inr ⟨ch, s, rfl, rfl, q H g c Le.refl _ rfl⟩
            | cons c0 r =>
              cases r with
              | nil =>
                simp only [e4] at q
                have ec : ch = ⟨#[c0]⟩ := by
                  obtain ⟨arr⟩ := ch
                  have : arr = #[c0] := by
                    have h5 : arr.toList = [c0] := e4
                    rw [← Array.toArray_toList (xs := arr), h5]
                  rw [this]
                exact .inl (.inr ⟨c0, s, by rw [ec], rfl, q H g c Le.refl _ rfl⟩)
              | cons c1 r =>
                simp only [e4] at q
                exact .inr ⟨ch, s, rfl, rfl, q H g c Le.refl _ rfl⟩
          | _ => simp [e3, Res] at q
      | _ => simp [Res] at q
end
end DL

/-! Layer D: isinstance, dicts, sorted. -/
namespace DL
open PySem PySem.Spec PyProof.Rows L2

/-! ### isinstance -/
def tyv (cA : Nat → Addr) : D → Value
  | .non => .type "NoneType" | .bl _ => .type "bool" | .int _ => .type "int" | .str _ => .type "str" | .tup _ => .type "tuple" | .lst _ => .type "list" | .scr _ => .type "list" | .dic _ _ => .type "dict" | .obj t _ _ => .ref (cA t)
structure InsF (K : PySem.W.Frag) (C : Addr) : Prop where
  cl : Cls K C
  ha : PySem.W.findIn K (.ref C) "__class__" = some (some (.builtin "object.__class__"))
  hn : PySem.W.specialIn K (.builtin "object.__class__") "__get__" = some (some (.builtin "getset_descriptor.__get__"))
  htk : PySem.W.takesIn K (.builtin "object.__class__") = some true
  hm : PySem.W.mroIn K C (.type "object") = some true
structure IsOk (K : PySem.W.Frag) (cA : Nat → Addr) (u : Value) (tab : D → Option Bool) : Prop where
  kit : ∀ x b, tab x = some b → PySem.W.kitOne K (tyv cA x) u = some b
  ins : ∀ t ns l b, tab (.obj t ns l) = some b → InsF K (cA t)
def kdw (M : Sto) (w : Wv) : Option D := match nw M w with
  | .d x => some x
  | .m k => match M[k]? with
    | some (.lst _) => some (.lst [])
    | some (.ins t ns _) => some (.obj t ns [])
    | some (.dic _ _) => some (.dic [] [])
    | _ => none
def isiw (tab : D → Option Bool) (w : Wv) (M : Sto) : Rs Wv := match (kdw M w).bind tab with
  | some b => .ok (.d (.bl b)) M
  | none => .no
section
variable {K : PySem.W.Frag} {cA : Nat → Addr} {z : Z0} {g : Gh} {H : Hp} {M : Sto} {u : Value} {tab : D → Option Bool}
theorem ty_rep {F : Hp} (s : L2.Same F H) (ins : ∀ t ns l, ∀ x : D, x = .obj t ns l → InsF K (cA t)) : ∀ {x : D} {v : V}, (∀ t ns l, x = .obj t ns l → InsF K (cA t)) → Rep K cA F x v → TyX K H v (tyv cA x)
  | .non, _, _, r => by cases (show _ = V.non from r); exact .base .non
  | .bl b, _, _, r => by cases (show _ = V.bl b from r); exact .base (.bl b)
  | .int b, _, _, r => by cases (show _ = V.int b from r); exact .base (.int b)
  | .str b, _, _, r => by cases (show _ = V.str b from r); exact .base (.str b)
  | .tup l, _, _, r => by
    obtain ⟨a, vs, rfl, h1, _, _⟩ := r
    rcases h1 with (h | ⟨o, h⟩) | ⟨o, its, n, h, hc, _⟩
    · exact .base (.tup (s _ _ h))
    · exact .fTuple (s _ _ h)
    · exact .kTuple h hc
  | .lst l, _, _, r => by
    obtain ⟨a, vs, rfl, h1, _, _⟩ := r
    exact .base (.lst (s _ _ h1))
  | .scr l, _, _, r => by
    obtain ⟨a, vs, rfl, h1, _, _⟩ := r
    rcases h1 with (h | ⟨o, h⟩) | ⟨o, its, n, h, hc, _⟩
    · exact .base (.lst (s _ _ h))
    · exact .base (.frz (s _ _ h))
    · exact .kList h hc
  | .dic ks l, _, _, r => by
    obtain ⟨a, vs, rfl, h1, _, _⟩ := r
    exact .base (.dK (s _ _ h1))
  | .obj t ns l, _, i, r => by
    obtain ⟨a, dx, vs, rfl, h1, _, _⟩ := r
    have f := i t ns l rfl
    exact .base (.ins (s _ _ h1) f.cl f.ha f.hn f.htk f.hm)
theorem kdw_ty (c : Cf K cA z H M g) {w : Wv} {v : V} {x : D} (r : RW K cA g M.length w v) (e : kdw M w = some x) (ins : ∀ t ns l, x = .obj t ns l → InsF K (cA t)) : TyX K H v (tyv cA x) := by
  have r' := rw_nw c r
  cases q : nw M w with
  | d d =>
    rw [q] at r'
    simp only [kdw, q, Option.some.injEq] at e
    subst e
    cases d with
    | obj t ns l =>
      obtain ⟨a, dx, vs, rfl, h1, _, _⟩ := r'
      have f := ins t ns l rfl
      exact .base (.ins (c.sub _ _ h1) f.cl f.ha f.hn f.htk f.hm)
    | non => cases (show v = V.non from r'); exact .base .non
    | bl b => cases (show v = V.bl b from r'); exact .base (.bl b)
    | int b => cases (show v = V.int b from r'); exact .base (.int b)
    | str b => cases (show v = V.str b from r'); exact .base (.str b)
    | tup l =>
      obtain ⟨a, vs, rfl, h1, _, _⟩ := r'
      rcases h1 with (h | ⟨o, h⟩) | ⟨o, its, n, h, hc, _⟩
      · exact .base (.tup (c.sub _ _ h))
      · exact .fTuple (c.sub _ _ h)
      · exact .kTuple h hc
    | lst l =>
      obtain ⟨a, vs, rfl, h1, _, _⟩ := r'
      exact .base (.lst (c.sub _ _ h1))
    | scr l =>
      obtain ⟨a, vs, rfl, h1, _, _⟩ := r'
      rcases h1 with (h | ⟨o, h⟩) | ⟨o, its, n, h, hc, _⟩
      · exact .base (.lst (c.sub _ _ h))
      · exact .base (.frz (c.sub _ _ h))
      · exact .kList h hc
    | dic ks l =>
      obtain ⟨a, vs, rfl, h1, _, _⟩ := r'
      exact .base (.dK (c.sub _ _ h1))
  | m k =>
    rw [q] at r'
    obtain ⟨hk, rfl⟩ := r'
    simp only [kdw, q] at e
    cases q2 : M[k]? with
    | none => simp [q2] at e
    | some mo =>
      cases mo with
      | lst ws =>
        simp only [q2, Option.some.injEq] at e
        subst e
        obtain ⟨vs, h1, _⟩ := c.sto k _ q2
        exact .base (.lst h1)
      | ins t ns ws =>
        simp only [q2, Option.some.injEq] at e
        subst e
        obtain ⟨dx, vs, h1, _⟩ := c.sto k _ q2
        have f := ins t ns [] rfl
        exact .base (.ins h1 f.cl f.ha f.hn f.htk f.hm)
      | dic ks ws =>
        simp only [q2, Option.some.injEq] at e
        subst e
        obtain ⟨vs, h1, _⟩ := c.sto k _ q2
        exact .base (.dK h1)
      | fz x => simp [q2] at e
end
section
variable {X : Cx} {cA : Nat → Addr} {Wx : WX} {a b c e o value : Expr} {es : List Expr} {ma mb mo mv : ED} {mr : AD} {ta : TD} {f x m : Str} {p pos apos tpos pos' p2 : Pos} {tab : D → Option Bool} {u : Value} {cv : V}
theorem d_isi (hm : X.mg "isinstance" = none) (ha : PE X a (TED X.K cA Wx ma)) (hc : PE X c (tC cv)) (k : ClsV cv u) (ok : IsOk X.K cA u tab) (hg : Gl X "isinstance" := by rfl)
    (h1 : starEach (a :: [c]) X.env = (false, eval a X.env) :: starEach [c] X.env := by rfl) (h2 : starEach (c :: []) X.env = (false, eval c X.env) :: starEach [] X.env := by rfl) (hpl : (backTo pos (starEach [c] X.env)).any (·.1) = false := by rfl) :
    PE X (.Call (.Name "isinstance" p) [a, c] [] pos) (TED X.K cA Wx (e1 (isiw tab) ma)) := PE.imp (pe_callB call_isi hg hm (by decide +kernel) (pa_cons ha (pa_cons hc pa_nil h2) h1) (by decide) (by decide) h1 hpl) fun σ H Q ⟨z, env, M, g, cc, sl, q⟩ => by
  refine ⟨z, env, M, g, cc, sl, Res.imp (fun w M1 g1 H1 c1 l1 q1 v rv => ?_) q.of_bind⟩
  unfold isiw at q1
  cases e : kdw M1 w with
  | none => simp [e, Res] at q1
  | some d =>
    cases e2 : tab d with
    | none => simp [e, e2, Res] at q1
    | some bb =>
      simp only [e, e2, Option.bind_some] at q1
      exact ⟨v, cv, tyv cA d, u, bb, rfl, k, kdw_ty c1 rv e (fun t ns l ed => ok.ins t ns l bb (by rw [← ed]; exact e2)), ok.kit d bb e2, q1 H1 g1 c1 Le.refl _ rfl⟩
/-- the tables: a built-in class; an own class. ts: the own classes of which it is known -/
def isTb (f : D → Bool) (ts : List Nat) : D → Option Bool
  | .obj t _ _ => if ts.contains t = true then some false else none
  | x => some (f x)
def kTup : D → Bool | .tup _ => true | _ => false
def kLst : D → Bool | .lst _ => true | .scr _ => true | _ => false
def kBl : D → Bool | .bl _ => true | _ => false
def kInt : D → Bool | .int _ => true | .bl _ => true | _ => false
def kStr : D → Bool | .str _ => true | _ => false
def isOw (t0 : Nat) (ts : List Nat) : D → Option Bool
  | .obj t _ _ => if t = t0 then some true else if ts.contains t = true then some false else none
  | _ => some false
/-- what an own class must have: no built-in class is above it but object -/
structure OwnF (K : PySem.W.Frag) (C : Addr) : Prop extends InsF K C where
  kt : PySem.W.kitOne K (.ref C) (.type "tuple") = some false
  kl : PySem.W.kitOne K (.ref C) (.type "list") = some false
  kb : PySem.W.kitOne K (.ref C) (.type "bool") = some false
  ki : PySem.W.kitOne K (.ref C) (.type "int") = some false
  ks : PySem.W.kitOne K (.ref C) (.type "str") = some false
def OwnsF (K : PySem.W.Frag) (cA : Nat → Addr) (ts : List Nat) : Prop := ∀ t ∈ ts, OwnF K (cA t)
theorem isTb_ok {K : PySem.W.Frag} {T : String} {f : D → Bool} {ts : List Nat} (h : OwnsF K cA ts) (hk : ∀ C, OwnF K C → PySem.W.kitOne K (.ref C) (.type T) = some false)
    (hb : ∀ x : D, (∀ t ns l, x ≠ .obj t ns l) → PySem.W.kitOne K (tyv cA x) (.type T) = some (f x)) : IsOk K cA (.type T) (isTb f ts) := by
  constructor
  · intro x b e
    cases x with
    | obj t ns l =>
      simp only [isTb] at e
      by_cases ht : ts.contains t = true
      · rw [if_pos ht] at e
        cases e
        exact hk _ (h t (by simpa using ht))
      · rw [if_neg ht] at e
        cases e
    | _ =>
      cases (Option.some.inj e)
      exact hb _ fun _ _ _ z => by cases z
  · intro t ns l b e
    simp only [isTb] at e
    by_cases ht : ts.contains t = true
    · exact (h t (by simpa using ht)).toInsF
    · rw [if_neg ht] at e
      cases e
theorem kitB_of {K : PySem.W.Frag} {a b : String} {r : Bool} (h : kitB a b = some r) : PySem.W.kitOne K (.type a) (.type b) = some r := h
theorem is_tup {K : PySem.W.Frag} {ts : List Nat} (h : OwnsF K cA ts) : IsOk K cA (.type "tuple") (isTb kTup ts) := isTb_ok h (fun _ o => o.kt) fun x hx => by
  cases x <;> first | exact absurd rfl (hx _ _ _) | exact kitB_of (show kitB _ _ = some false by decide +kernel) | exact kitB_of (show kitB _ _ = some true by decide +kernel)
theorem is_lst {K : PySem.W.Frag} {ts : List Nat} (h : OwnsF K cA ts) : IsOk K cA (.type "list") (isTb kLst ts) := isTb_ok h (fun _ o => o.kl) fun x hx => by
  cases x <;> first | exact absurd rfl (hx _ _ _) | exact kitB_of (show kitB _ _ = some false by decide +kernel) | exact kitB_of (show kitB _ _ = some true by decide +kernel)
theorem is_bl {K : PySem.W.Frag} {ts : List Nat} (h : OwnsF K cA ts) : IsOk K cA (.type "bool") (isTb kBl ts) := isTb_ok h (fun _ o => o.kb) fun x hx => by
  cases x <;> first | exact absurd rfl (hx _ _ _) | exact kitB_of (show kitB _ _ = some false by decide +kernel) | exact kitB_of (show kitB _ _ = some true by decide +kernel)
theorem is_int {K : PySem.W.Frag} {ts : List Nat} (h : OwnsF K cA ts) : IsOk K cA (.type "int") (isTb kInt ts) := isTb_ok h (fun _ o => o.ki) fun x hx => by
  cases x <;> first | exact absurd rfl (hx _ _ _) | exact kitB_of (show kitB _ _ = some false by decide +kernel) | exact kitB_of (show kitB _ _ = some true by decide +kernel)
theorem is_str {K : PySem.W.Frag} {ts : List Nat} (h : OwnsF K cA ts) : IsOk K cA (.type "str") (isTb kStr ts) := isTb_ok h (fun _ o => o.ks) fun x hx => by
  cases x <;> first | exact absurd rfl (hx _ _ _) | exact kitB_of (show kitB _ _ = some false by decide +kernel) | exact kitB_of (show kitB _ _ = some true by decide +kernel)
theorem owns_nil {K : PySem.W.Frag} : OwnsF K cA [] := fun _ h => by cases h
theorem owns_cons {K : PySem.W.Frag} {t : Nat} {ts : List Nat} (o : OwnF K (cA t)) (h : OwnsF K cA ts) : OwnsF K cA (t :: ts) := fun u hu => by
  rcases List.mem_cons.mp hu with e | e
  · rw [e]; exact o
  · exact h u e
/-- the class t0; no class of ts is under it -/
theorem is_own {K : PySem.W.Frag} {t0 : Nat} {ts : List Nat} (h0 : InsF K (cA t0)) (hb : ∀ x : D, (∀ t ns l, x ≠ .obj t ns l) → PySem.W.kitOne K (tyv cA x) (.ref (cA t0)) = some false) (hs : ∀ t ∈ ts, InsF K (cA t) ∧ PySem.W.kitOne K (.ref (cA t)) (.ref (cA t0)) = some false) :
    IsOk K cA (.ref (cA t0)) (isOw t0 ts) := by
  constructor
  · intro x b e
    cases x with
    | obj t ns l =>
      simp only [isOw] at e
      by_cases h1 : t = t0
      · rw [if_pos h1] at e
        cases e
        subst h1
        show PySem.W.kitOne K (.ref (cA t)) (.ref (cA t)) = some true
        unfold PySem.W.kitOne
        rw [if_pos (by simp)]
      · rw [if_neg h1] at e
        by_cases ht : ts.contains t = true
        · rw [if_pos ht] at e
          cases e
          exact (hs t (by simpa using ht)).2
        · rw [if_neg ht] at e
          cases e
    | _ =>
      cases (Option.some.inj e)
      exact hb _ fun _ _ _ z => by cases z
  · intro t ns l b e
    simp only [isOw] at e
    by_cases h1 : t = t0
    · rw [h1]
      exact h0
    · rw [if_neg h1] at e
      by_cases ht : ts.contains t = true
      · exact (hs t (by simpa using ht)).1
      · rw [if_neg ht] at e
        cases e

/-! ### dicts -/
def dicw (M : Sto) (w : Wv) : Option (List Key × List Wv) := match nw M w with
  | .d (.dic ks l) => some (ks, l.map .d)
  | .d _ => none
  | .m k => match M[k]? with
    | some (.dic ks ws) => some (ks, ws)
    | _ => none
def keyw (w : Wv) : Option Key := match w with
  | .d (.int i) => some (.inl i)
  | .d (.str s) => some (.inr s)
  | _ => none
def lookK {α : Type} (ks : List Key) (ws : List α) (k : Key) : Option α := match ks, ws with
  | k' :: ks, w :: ws => if k' = k then some w else lookK ks ws k
  | _, _ => none
theorem keyw_rep {K : PySem.W.Frag} {g : Gh} {n : Nat} {w : Wv} {v : V} {k : Key} (r : RW K cA g n w v) (e : keyw w = some k) : v = kV k := by
  cases w with
  | m _ => cases e
  | d d =>
    cases d <;> simp only [keyw] at e <;> first | cases e | skip
    · exact r
    · exact r
theorem lookK_val {α : Type} {P : α → V → Prop} {k : Key} : ∀ {ks : List Key} {ws : List α} {vs : List V}, ks.length = vs.length → Paired P ws vs → (match lookK ks ws k with
    | some w => ∃ v, valV (ks.zip vs) k = some v ∧ P w v
    | none => valV (ks.zip vs) k = none)
  | [], _, _, _, .nil => rfl
  | [], _, _, hl, .cons _ _ => by simp at hl
  | _ :: _, _, _, hl, .nil => by simp at hl
  | k' :: ks, w :: ws, v :: vs, hl, .cons h t => by
    by_cases hk : k' = k
    · subst hk
      simp only [lookK, if_true]
      exact ⟨v, by rw [List.zip_cons_cons]; exact valV_pos rfl, h⟩
    · simp only [lookK, hk, if_false]
      have ih := lookK_val (k := k) (by simpa using hl : ks.length = vs.length) t
      rw [List.zip_cons_cons, valV_neg hk]
      exact ih
theorem dicw_at {K : PySem.W.Frag} {z : Z0} {g : Gh} {H : Hp} {M : Sto} (c : Cf K cA z H M g) {w : Wv} {v : V} {ks : List Key} {ws : List Wv} (r : RW K cA g M.length w v) (e : dicw M w = some (ks, ws)) : ∃ a vs, v = .ref a ∧ H a = some (.dK (ks.zip vs)) ∧ ks.length = vs.length ∧ Paired (RW K cA g M.length) ws vs := by
  have r' := rw_nw c r
  cases q : nw M w with
  | d d =>
    rw [q] at r'
    simp only [dicw, q] at e
    cases d with
    | dic ks' l =>
      simp only [Option.some.injEq, Prod.mk.injEq] at e
      obtain ⟨rfl, rfl⟩ := e
      obtain ⟨a, vs, rfl, h1, h2, h3⟩ := r'
      exact ⟨a, vs, rfl, c.sub _ _ h1, h2, h3.wd rfl⟩
    | _ => simp at e
  | m k =>
    rw [q] at r'
    obtain ⟨hk, rfl⟩ := r'
    simp only [dicw, q] at e
    cases q2 : M[k]? with
    | none => simp [q2] at e
    | some mo =>
      cases mo with
      | dic ks' us =>
        simp only [q2, Option.some.injEq, Prod.mk.injEq] at e
        obtain ⟨rfl, rfl⟩ := e
        obtain ⟨vs, h1, h2, h3, h4⟩ := c.sto k _ q2
        exact ⟨_, vs, rfl, h1, h3, h4⟩
      | _ => simp [q2] at e
def dgetw (w u : Wv) (M : Sto) : Rs Wv := match dicw M w, keyw u with
  | some (ks, ws), some k => match lookK ks ws k with
    | some x => .ok x M
    | none => .no
  | _, _ => .no
theorem d_dget (hu : X.A.units + 1 < cLine) (ha : PE X a (TED X.K cA Wx ma)) (hb : PE X b (TED X.K cA Wx mb)) (hs : NoSl b := by intro _ _; rfl) : PE X (.Subscript a b pos) (TED X.K cA Wx (e2 dgetw ma mb)) := PE.imp (pe_dget hu ha hb hs) fun σ H Q ⟨z, env, M, g, c, sl, q⟩ => by
  refine ⟨z, env, M, g, c, sl, Res.imp (fun w M1 g1 H1 c1 l1 q1 v rv => ?_) q.of_bind⟩
  refine ⟨z, env, M1, g1, c1, sl.mono l1, Res.imp (fun u M2 g2 H2 c2 l2 q2 y ry => ?_) q1.of_bind⟩
  unfold dgetw at q2
  cases e1 : dicw M2 w with
  | none => simp [e1, Res] at q2
  | some pp =>
    obtain ⟨ks, ws⟩ := pp
    cases e2 : keyw u with
    | none => simp [e1, e2, Res] at q2
    | some k =>
      simp only [e1, e2] at q2
      obtain ⟨aa, vs, rfl, h1, h2, h3⟩ := dicw_at c2 (rv.mono l2) e1
      have hl := lookK_val (k := k) h2 h3
      cases e3 : lookK ks ws k with
      | none => simp [e3, Res] at q2
      | some x =>
        simp only [e3] at q2 hl
        obtain ⟨v, h4, h5⟩ := hl
        exact ⟨aa, v, rfl, by rw [keyw_rep ry e2, ← h4]; exact DGet.k h1, q2 H2 g2 c2 Le.refl v h5⟩
/-- {k: v, ..} with written keys -/
def evPairs : List (ED × ED) → Ev → Sto → Rs (List Wv × List Wv)
  | [], _, M => .ok ([], []) M
  | (mk, mv) :: r, env, M => (mk env M).bind fun k M1 => (mv env M1).bind fun v M2 => (evPairs r env M2).bind fun p M3 => .ok (k :: p.1, v :: p.2) M3
def keysw : List Wv → Option (List Key)
  | [] => some []
  | w :: ws => match keyw w, keysw ws with
    | some k, some l => some (k :: l)
    | _, _ => none
def eDisp (prs : List (ED × ED)) : ED := fun env M => (evPairs prs env M).bind fun p M1 => match keysw p.1, nds M1 p.2 with
  | some ks, some l => if ks.Nodup ∧ ks.length ≤ 15 ∧ ks.length = l.length then .ok (.d (.dic ks l)) M1 else .no
  | _, _ => .no
theorem ted_pairs {z : Z0} {σ : St} {env : Ev} : ∀ {prs : List (ED × ED)} {H : Hp} {M : Sto} {g : Gh} {P : List Wv × List Wv → Sto → Gh → Hp → Prop} {Q : List (V × V) → Hp → Prop}, Cf X.K cA z H M g → Slots X.K cA g M.length env σ → Res X.K cA z g M.length (EX X.K cA Wx σ) (evPairs prs env M) P →
    (∀ p M' g' H' ks vs, Cf X.K cA z H' M' g' → Le g M.length g' M'.length → P p M' g' H' → Paired (RW X.K cA g' M'.length) p.1 ks → Paired (RW X.K cA g' M'.length) p.2 vs → Q (ks.zip vs) H') → tPairs (prs.map fun p => (TED X.K cA Wx p.1, TED X.K cA Wx p.2)) σ H Q
  | [], H, M, g, P, Q, c, sl, q, k => k ([], []) M g H [] [] c Le.refl (q H g c Le.refl) .nil .nil
  | (mk, mv) :: r, H, M, g, P, Q, c, sl, q, k => by
    refine ⟨z, env, M, g, c, sl, Res.imp (fun wk M1 g1 H1 c1 l1 q1 vk rk => ?_) (Res.of_bind q)⟩
    refine ⟨z, env, M1, g1, c1, sl.mono l1, Res.imp (fun wv M2 g2 H2 c2 l2 q2 vv rv => ?_) q1.of_bind⟩
    refine ted_pairs c2 ((sl.mono l1).mono l2) q2.of_bind fun p M3 g3 H3 ks vs c3 l3 q3 r1 r2 => ?_
    exact k _ M3 g3 H3 (vk :: ks) (vv :: vs) c3 ((l1.trans l2).trans l3) (q3 H3 g3 c3 Le.refl) (.cons (rk.mono (l2.trans l3)) r1) (.cons (rv.mono l3) r2)
theorem keysw_rep {K : PySem.W.Frag} {g : Gh} {n : Nat} : ∀ {ws : List Wv} {vs : List V} {ks : List Key}, Paired (RW K cA g n) ws vs → keysw ws = some ks → vs = ks.map kV
  | [], _, _, .nil, e => by cases (Option.some.inj e); rfl
  | w :: ws, _, _, .cons r t, e => by
    cases e1 : keyw w with
    | none => simp [keysw, e1] at e
    | some k =>
      cases e2 : keysw ws with
      | none => simp [keysw, e1, e2] at e
      | some l =>
        simp only [keysw, e1, e2, Option.some.injEq] at e
        subst e
        rw [keyw_rep r e1, keysw_rep t e2]
        rfl
theorem putK_new {kvs : List (Key × V)} {k : Key} {v : V} (h : k ∉ kvs.map (·.1)) : putK kvs k v = kvs ++ [(k, v)] := by
  unfold putK
  rw [if_neg]
  intro hz
  obtain ⟨p, hp, hk⟩ := List.any_eq_true.mp hz
  exact h (List.mem_map.mpr ⟨p, hp, of_decide_eq_true hk⟩)
theorem mergeK_new : ∀ {more kvs : List (Key × V)}, ((kvs ++ more).map (·.1)).Nodup → mergeK kvs more = kvs ++ more
  | [], kvs, _ => by simp [mergeK]
  | (k, v) :: more, kvs, h => by
    have h1 : k ∉ kvs.map (·.1) := by
      rw [List.map_append, List.map_cons] at h
      have h2 := List.nodup_append.mp h
      exact fun hz => h2.2.2 k hz k List.mem_cons_self rfl
    show mergeK (putK kvs k v) more = _
    rw [putK_new h1, mergeK_new (by rw [List.append_assoc]; exact h), List.append_assoc]
    rfl
theorem d_disp {keys : List (Option Expr)} {values : List Expr} {prs : List (ED × ED)} (h : PPs X pos keys values (prs.map fun p => (TED X.K cA Wx p.1, TED X.K cA Wx p.2))) (hall : keys.all (·.isSome) = true := by rfl) (hl : keys.length = values.length := by rfl) (h0 : keys ≠ [] := by intro z; cases z) (h15 : keys.length ≤ 15 := by decide) :
    PE X (.Dict keys values pos) (TED X.K cA Wx (eDisp prs)) := PE.imp (pe_disp h hall hl h0 h15) fun σ H Q ⟨z, env, M, g, c, sl, q⟩ p hp => by
  have lo := c.fresh hp
  have c0 := c.scrib (ho := .dK []) lo
  have c1 := c0.enter
  refine ted_pairs (z := ent (upd H p (.dK [])) M g) c1 sl ((q.of_bind).ent c0) fun pr M1 g1 H1 ks vs c2 l2 q2 r1 r2 => ?_
  obtain ⟨eP, lo2⟩ := lo.step upd_same c2
  have c3 := c0.leave c2
  cases e1 : keysw pr.1 with
  | none => simp [e1, Res] at q2
  | some kl =>
    cases e2 : nds M1 pr.2 with
    | none => simp [e1, e2, Res] at q2
    | some l =>
      simp only [e1, e2] at q2
      by_cases hz : kl.Nodup ∧ kl.length ≤ 15 ∧ kl.length = l.length
      · rw [if_pos hz] at q2
        have ek := keysw_rep r1 e1
        have rl := nds_rep c3 r2 e2
        have hlen : kl.length = vs.length := by rw [hz.2.2]; exact rl.length
        have em : (kl.zip vs).map (·.1) = kl := by
          rw [List.map_fst_zip]
          omega
        refine ⟨eP, kl.zip vs, ?_, ?_, ?_⟩
        · rw [ek, List.zip_map_left]
          rfl
        · rw [List.length_zip]
          omega
        · rw [mergeK_new (kvs := []) (by rw [List.nil_append, em]; exact hz.1), List.nil_append]
          have c4 := c3.scrib (ho := .dK (kl.zip vs)) lo2
          obtain ⟨c5, l5⟩ := c4.adopt lo2 upd_same
          exact q2 _ _ c5 l5 _ ⟨p, vs, rfl, upd_same, hlen, rl.mono l5.F⟩
      · rw [if_neg hz] at q2
        exact q2.elim

/-! ### sorted: of ints -/
theorem sort_same {a b : List Int} (hp : a.Perm b) (ha : a.Pairwise (· ≤ ·)) (hb : b.Pairwise (· ≤ ·)) : a = b := by
  first
    | exact hp.eq_of_pairwise (fun x y _ _ h1 h2 => Int.le_antisymm h1 h2) ha hb
    | exact List.Perm.eq_of_pairwise (fun x y _ _ h1 h2 => Int.le_antisymm h1 h2) ha hb hp
theorem ins1_perm (x : Int) : ∀ l : List Int, (ins1 x l).Perm (x :: l)
  | [] => List.Perm.refl _
  | y :: l => by
    unfold ins1
    by_cases h : x ≤ y
    · rw [if_pos h]
    · rw [if_neg h]
      exact (List.Perm.cons y (ins1_perm x l)).trans (List.Perm.swap x y l)
theorem sortI_perm : ∀ l : List Int, (sortI l).Perm l
  | [] => List.Perm.refl _
  | x :: l => (ins1_perm x (sortI l)).trans (List.Perm.cons x (sortI_perm l))
theorem ins1_mem {x z : Int} {l : List Int} (h : z ∈ ins1 x l) : z = x ∨ z ∈ l := by
  have := (ins1_perm x l).mem_iff.mp h
  exact List.mem_cons.mp this
theorem ins1_rise (x : Int) : ∀ l : List Int, l.Pairwise (· ≤ ·) → (ins1 x l).Pairwise (· ≤ ·)
  | [], _ => List.pairwise_singleton _ _
  | y :: l, h => by
    unfold ins1
    obtain ⟨h1, h2⟩ := List.pairwise_cons.mp h
    by_cases hx : x ≤ y
    · rw [if_pos hx]
      refine List.pairwise_cons.mpr ⟨fun z hz => ?_, h⟩
      rcases List.mem_cons.mp hz with e | e
      · rw [e]; exact hx
      · exact Int.le_trans hx (h1 z e)
    · rw [if_neg hx]
      refine List.pairwise_cons.mpr ⟨fun z hz => ?_, ins1_rise x l h2⟩
      rcases ins1_mem hz with e | e
      · rw [e]; omega
      · exact h1 z e
theorem sortI_rise : ∀ l : List Int, (sortI l).Pairwise (· ≤ ·)
  | [] => List.Pairwise.nil
  | x :: l => ins1_rise x _ (sortI_rise l)
theorem ok_sortedI {K : PySem.W.Frag} : OkL K cA (f1 (fLst dSortI)) (rSortedI K) := okL1 fun z g H M E w x Q c rx q => by
  obtain ⟨a, vs, l, d, rfl, h1, h2, h3, hz, h4⟩ := fLst_at c rx q
  cases e : intsOf l with
  | none => rw [dSortI, e] at h3; cases h3
  | some bs =>
    rw [dSortI, e] at h3
    cases h3
    have ev := intsOf_rep h2 e
    subst ev
    refine ⟨a, bs, rfl, h1, fun ns' p hp hs hn => ?_⟩
    have en : ns' = sortI bs := sort_same (hp.trans (sortI_perm bs).symm) hs (sortI_rise bs)
    subst en
    refine c.ans h4 hn ⟨p, _, rfl, upd_same, ?_, RepL.ints _⟩
    rw [List.length_map, (sortI_perm bs).length_eq]
    rw [List.length_map] at hz
    exact hz
end
end DL

/-! Layer D: operators of own classes; the contexts of a def's body. -/
namespace DL
open PySem PySem.Spec PyProof.Rows L2

section
variable {P : Program} {w : World} {K : PySem.W.Frag} {mg : Str → Option Value} {base : Heap} {N : List Str} {qual : Str} {sc : Scope} {f : Addr} {cdv : Value} {A : Around} {outer : List Env} {s : Shared} {H : Hp} {E : XK}
theorem tk_of : Takes (cxOf (L2.CX P w) P w K mg base N qual sc f cdv A outer s H E) (fun cls d _ H' => E cls d H') := takes_of rfl rfl rfl rfl
theorem hp_of : PassesOwn (model (cxOf (L2.CX P w) P w K mg base N qual sc f cdv A outer s H E).prog (cxOf (L2.CX P w) P w K mg base N qual sc f cdv A outer s H E).w) (cxOf (L2.CX P w) P w K mg base N qual sc f cdv A outer s H E).A (cxOf (L2.CX P w) P w K mg base N qual sc f cdv A outer s H E).env (cxOf (L2.CX P w) P w K mg base N qual sc f cdv A outer s H E).xe := passes_of rfl
end
theorem fnOk_no {P : Program} {w : World} {K : PySem.W.Frag} {mg : Str → Option Value} {base : Heap} {CX : CXT} {k m : Nat} {f : Addr} {fd : FuncData} {ps : List Str} {cA : Nat → Addr} : FnOk P w K mg base CX k f fd ps (spD K cA m fun _ _ => .no) :=
  ⟨fun vs H Q E ⟨_, _, _, _, _, _, _, q⟩ => q.elim, fun A outer s H args us vs Q E hr e0 b r ⟨_, _, _, _, _, _, _, q⟩ => q.elim⟩
abbrev never : XK := fun _ _ _ => False
theorem passNever {X : Cx} {σ : St} : PassesAt (L2.CX X.prog X.w) X σ never := fun _ _ _ _ _ _ h => by
  obtain ⟨_, _, _, _, _, _, _, _, _, _, _, _, z⟩ := h
  exact z.elim
section
variable {X : Cx} {cA : Nat → Addr} {Wx : WX} {a b : Expr} {ma mb : ED} {pos : Pos} {k n t : Nat} {fa C : Addr} {fd : FuncData} {ps : List Str} {f c : FD} {sp : Sp}
def rOwn (C : Addr) (sp : Sp) : R2 := fun x y H Q => (∃ a dx fs, x = .ref a ∧ H a = some (.ins C dx fs)) ∧ (∃ b dy gs, y = .ref b ∧ H b = some (.ins C dy gs)) ∧ sp [x, y] H Q never
theorem cmpBack {pins : List (Addr × Obj)} {σ : St} {Q : VK} {u : Value} {s' : Shared} (h : EP X pins σ Q u s') : PySem.W.CmpBack (EP X pins σ Q) u s' := by
  obtain ⟨v, H', I, r, q⟩ := h
  cases v with
  | non => cases r; exact ⟨.non, H', I, rfl, q⟩
  | bl b => cases r; exact ⟨.bl b, H', I, rfl, q⟩
  | int i => obtain ⟨tk, rfl⟩ := r; exact ⟨.int i, H', I, ⟨tk, rfl⟩, q⟩
  | str i => obtain ⟨tk, rfl⟩ := r; exact ⟨.str i, H', I, ⟨tk, rfl⟩, q⟩
  | byt i => obtain ⟨tk, rfl⟩ := r; exact ⟨.byt i, H', I, ⟨tk, rfl⟩, q⟩
  | flt i => obtain ⟨tk, rfl⟩ := r; exact ⟨.flt i, H', I, ⟨tk, rfl⟩, q⟩
  | ref a => cases r; exact ⟨.ref a, H', I, rfl, q⟩
  | ty n => cases r; exact ⟨.ty n, H', I, rfl, q⟩
theorem op_ownCmp {op : CmpOp} (F : FnOk X.prog X.w X.K X.mg X.base (L2.CX X.prog X.w) k fa fd ps sp) (hr : Room k X.A) (hb : Binds X.K fd ps []) (hs : PySem.W.findIn X.K (.ref C) (cmpInfo op).2.1 = some (some (.ref fa))) (hf : PySem.W.isFn X.K (.ref fa) = true)
    (hop : ∀ v u, compareOp op v u = richCompare op v u) : OpR X (compareOp op) (rOwn C sp) := by
  intro pins s σ H x y v u Q I rx ry h
  obtain ⟨⟨a, dx, fs, rfl, ha⟩, ⟨b, dy, gs, rfl, hb'⟩, hsp⟩ := h
  cases rx
  cases ry
  obtain ⟨mA, J, _⟩ := ins_get I.hok ha
  obtain ⟨mB, J', _⟩ := ins_get I.hok hb'
  obtain ⟨od, J, _⟩ := J.look
  obtain ⟨od', J', _⟩ := J'.look
  obtain ⟨m, hF⟩ := I.fr
  rw [hop]
  refine PySem.W.cmp_K (op := op) (tb := .ref C) hr.units0 hF I.ok.mod.kin J J'.type (by simp [PySem.W.notFirst]) hs hf ?_
  refine wpAny_mono (run_fnS (us := [.ref a, .ref b]) (vs := [.ref a, .ref b]) (E := fun _ => never) F hr hb passNever I (.cons rfl (.cons rfl .nil)) hsp) (fun r s' q => cmpBack q) fun _ _ q => q
theorem op_ownBin {op : Operator} (F : FnOk X.prog X.w X.K X.mg X.base (L2.CX X.prog X.w) k fa fd ps sp) (hr : Room k X.A) (hb : Binds X.K fd ps []) (hs : PySem.W.findIn X.K (.ref C) (PySem.dunder op.info.2) = some (some (.ref fa))) (hf : PySem.W.isFn X.K (.ref fa) = true) (hc : PySem.W.selfFirst X.K C = true) :
    OpR X (binaryOp op) (rOwn C sp) := by
  intro pins s σ H x y v u Q I rx ry h
  obtain ⟨⟨a, dx, fs, rfl, ha⟩, ⟨b, dy, gs, rfl, hb'⟩, hsp⟩ := h
  cases rx
  cases ry
  obtain ⟨mA, J, _⟩ := ins_get I.hok ha
  obtain ⟨mB, J', _⟩ := ins_get I.hok hb'
  obtain ⟨od, J, _⟩ := J.look
  obtain ⟨od', J', _⟩ := J'.look
  obtain ⟨m, hF⟩ := I.fr
  refine PySem.W.binop_K (op := op) hF I.ok.mod.kin J J'.type hc hs hf ?_
  refine wpAny_mono (run_fnS (us := [.ref a, .ref b]) (vs := [.ref a, .ref b]) (E := fun _ => never) F hr hb passNever I (.cons rfl (.cons rfl .nil)) hsp) (fun r s' q => cmpBack q) fun _ _ q => q
def ownw (t : Nat) (c : FD) (w u : Wv) (M : Sto) : Rs Wv := if insw t "" w M = true ∧ insw t "" u M = true then nx (c [w, u] M) else .no
theorem ok_own (co : CallOk X.K cA n f c) : Ok2 X.K cA (ownw t c) (rOwn (cA t) (spD X.K cA n f)) := by
  intro z g H M E wx wy x y Q cc rx ry q
  unfold ownw at q
  by_cases hi : insw t "" wx M = true ∧ insw t "" wy M = true
  · rw [if_pos hi] at q
    obtain ⟨a, dx, fs, e1, e2, _⟩ := insw_at cc rx hi.1
    obtain ⟨b, dy, gs, e3, e4, _⟩ := insw_at cc ry hi.2
    exact ⟨⟨a, dx, fs, e1, e2⟩, ⟨b, dy, gs, e3, e4⟩, co z H M g [wx, wy] [x, y] never Q cc (.cons rx (.cons ry .nil)) q.nx'⟩
  · rw [if_neg hi] at q
    exact q.elim
end
/-- the names of a comprehension within a comprehension -/
def subScope (sc scope : Scope) : Scope := { scope with names := scope.names.map fun (n, k) => if k == .free && sc.kind == .function && sc.names.lookup n == some .cell then (n, .cell) else (n, k) }
theorem blkOk_in {N : List Str} {sc0 scope0 scope : Scope} {own : List (Str × Nat)} {cl : List (Str × Addr)} {C : Addr} {env : Env} (he : env.scope = sc0) (h : blkC N (subScope sc0 scope0) scope own = true) : BlkOk N (compEnvC scope0 cl C env).scope scope own := by
  have e : (compEnvC scope0 cl C env).scope = subScope sc0 scope0 := by
    subst he
    rfl
  rw [e]
  exact blkOk_by h
end DL

/-! Layer D: the end of a law. -/
namespace DL
open PySem PySem.Spec PyProof.Rows L2

section
variable {K : PySem.W.Frag} {cA : Nat → Addr}
/-- the law's promise -/
def spLaw (K : PySem.W.Frag) : Sp := fun vs H Q _ => ∃ (a : Addr) (ns : List Int), vs = [.ref a] ∧ ns.length ≤ 63 ∧ SqL K H a (ns.map V.int) ∧ ∀ H', Q (.bl true) H'
theorem repL_ints {F : Hp} : ∀ ns : List Int, RepL K cA F (ns.map .int) (ns.map V.int)
  | [] => rfl
  | _ :: ns => ⟨_, _, rfl, rfl, repL_ints ns⟩
theorem cf_all (H : Hp) : Cf K cA (ent H [] ⟨H, fun _ => 0⟩) H [] ⟨H, fun _ => 0⟩ :=
  ⟨Same.refl _, fun k mo e => by simp at e, fun j k hj _ _ => absurd hj (Nat.not_lt_zero _), Same.refl _, fun a o e _ => e, fun a h => .inl h, fun k hk => rfl, fun k _ h => absurd h (Nat.not_lt_zero _), Nat.le_refl _⟩
theorem law_end {P : Program} {w : World} {mg : Str → Option Value} {base : Heap} {k : Nat} {f : Addr} {fd : FuncData} {ps : List Str} {m : FD} (F : FnOk P w K mg base (L2.CX P w) k f fd ps (spD K cA 1 m))
    (h : ∀ ns : List Int, ns.length ≤ 63 → ∃ M, m [.d (.scr (ns.map .int))] [] = .ok (.d (.bl true)) M) : FnOk P w K mg base (L2.CX P w) k f fd ps (spLaw K) := F.imp fun vs H Q E ⟨a, ns, e, hl, hS, hQ⟩ => by
  subst e
  obtain ⟨M, hm⟩ := h ns hl
  refine ⟨rfl, _, [], ⟨H, fun _ => 0⟩, [.d (.scr (ns.map .int))], cf_all H, .cons ⟨a, ns.map V.int, rfl, hS, by rw [List.length_map]; exact Nat.le_trans hl (by decide), repL_ints ns⟩ .nil, ?_⟩
  rw [hm]
  intro H' g' _ _ v rv
  cases (show v = _ from rv)
  exact hQ H'
theorem cx_no {P : Program} {w : World} {H : Hp} {s : Shared} {e : Value} {s' : Shared} (h : L2.CX P w [] H s (fun _ _ _ => False) e s') : False := by
  obtain ⟨_, _, _, _, _, _, _, _, _, _, _, _, z⟩ := h
  exact z.elim
/-- a tuple of texts that the module has written -/
theorem rep_strs {n : Addr} {o : Obj} {its : Array Value} {m : Nat} {xs : List Str} (F : Hp) (h : K.lookup n = some o) (hc : o.cls = .type "tuple") (hd : o.data = .seq its m) (hs : xs.length ≤ sizeLine) (hv : Vals (xs.map V.str) its.toList) : Rep K cA F (.tup (xs.map .str)) (.ref n) := by
  have hl : its.size ≤ sizeLine := by
    have := hv.length
    rw [List.length_map] at this
    rw [← Array.length_toList, ← this]
    exact hs
  refine ⟨n, xs.map V.str, rfl, .inr ⟨o, its, m, h, hc, hd, hl, hv⟩, by rw [List.length_map]; exact hs, ?_⟩
  clear h hc hd hs hv hl
  induction xs with
  | nil => exact rfl
  | cons x xs ih => exact ⟨_, _, rfl, rfl, ih⟩
theorem is_own7 {t0 : Nat} (h0 : InsF K (cA t0)) (k1 : PySem.W.kitOne K (.type "NoneType") (.ref (cA t0)) = some false) (k2 : PySem.W.kitOne K (.type "bool") (.ref (cA t0)) = some false) (k3 : PySem.W.kitOne K (.type "int") (.ref (cA t0)) = some false)
    (k4 : PySem.W.kitOne K (.type "str") (.ref (cA t0)) = some false) (k5 : PySem.W.kitOne K (.type "tuple") (.ref (cA t0)) = some false) (k6 : PySem.W.kitOne K (.type "list") (.ref (cA t0)) = some false) (k7 : PySem.W.kitOne K (.type "dict") (.ref (cA t0)) = some false)
    {ts : List Nat} (hs : ∀ t ∈ ts, InsF K (cA t) ∧ PySem.W.kitOne K (.ref (cA t)) (.ref (cA t0)) = some false) : IsOk K cA (.ref (cA t0)) (isOw t0 ts) := is_own h0 (fun x hx => by
  cases x with
  | obj t ns l => exact absurd rfl (hx t ns l)
  | non => exact k1
  | bl _ => exact k2
  | int _ => exact k3
  | str _ => exact k4
  | tup _ => exact k5
  | lst _ => exact k6
  | scr _ => exact k6
  | dic _ _ => exact k7) hs
end
end DL

/-! Layer D: what a mirror answers: weakest preconditions. -/
namespace DL
open PySem PySem.Spec PyProof.Rows L2

def Rs.Is {α : Type} (r : Rs α) (P : α → Sto → Prop) (E : Exn → Sto → Prop) : Prop := match r with
  | .ok a M => P a M
  | .ex x M => E x M
  | .no => False
abbrev nox : Exn → Sto → Prop := fun _ _ => False
section
variable {α β : Type} {P Q : α → Sto → Prop} {P' : β → Sto → Prop} {E F : Exn → Sto → Prop}
theorem is_ok {a : α} {M : Sto} : (Rs.ok a M).Is P E = P a M := rfl
theorem is_ex {x : Exn} {M : Sto} : (Rs.ex x M : Rs α).Is P E = E x M := rfl
theorem is_no : (Rs.no : Rs α).Is P E = False := rfl
theorem is_bind {r : Rs α} {f : α → Sto → Rs β} : (r.bind f).Is P' E = r.Is (fun a M => (f a M).Is P' E) E := by cases r <;> rfl
theorem is_sx {r : Rs α} {env : Ev} {k : α → Sto → Rs Out} {P' : Out → Sto → Prop} : (sx env r k).Is P' E = r.Is (fun a M => (k a M).Is P' E) (fun x M => P' (.xc env x) M) := by cases r <;> rfl
theorem is_nx {r : Rs α} : (nx r).Is P E = r.Is P nox := by cases r <;> rfl
theorem Rs.Is.imp {r : Rs α} (h : r.Is P E) (i : ∀ a M, P a M → Q a M) (j : ∀ x M, E x M → F x M) : r.Is Q F := by
  cases r with
  | ok a M => exact i a M h
  | ex x M => exact j x M h
  | no => exact h
theorem Rs.Is.any {r : Rs α} (h : r.Is P nox) : r.Is P E := h.imp (fun _ _ q => q) fun _ _ q => q.elim
theorem Rs.Is.out {r : Rs α} (h : r.Is P nox) : ∃ a M, r = .ok a M ∧ P a M := by
  cases r with
  | ok a M => exact ⟨a, M, rfl, h⟩
  | ex x M => exact h.elim
  | no => exact h.elim
theorem is_of {r : Rs α} {a : α} {M : Sto} (e : r = .ok a M) (h : P a M) : r.Is P E := by rw [e]; exact h
end

/-! ### calls -/
section
variable {P : Wv → Sto → Prop} {E : Exn → Sto → Prop} {f : FD} {M : Sto} {m : Nat}
theorem preps_d (r : Nat) (xs : List D) (M : Sto) : preps r (xs.map .d) M = some (xs.map .d, M) := by
  induction xs with
  | nil => rfl
  | cons x xs ih =>
    rw [List.map_cons, preps]
    simp only [prep, Wv.below, if_true, Option.bind_some, ih, Option.map_some]
/-- a call by data alone, that answers data -/
theorem call0 {xs : List D} {y : D} (hl : xs.length = m) (h : f (xs.map .d) [] = .ok (.d y) []) : callR 0 m f (xs.map .d) M = .ok (.d y) M := by
  unfold callR
  rw [if_pos (by rw [List.length_map]; exact hl), preps_d]
  simp only [List.take_zero, List.drop_zero, h]
  rw [if_pos ⟨Nat.zero_le _, rfl⟩]
  simp only [h, Wv.below, List.length_nil, List.all_nil, List.nil_append]
  rfl
/-- a call by the pool and data -/
theorem call1 {xs : List D} {p : MO} (hl : xs.length + 1 = m) (hp : p.below 1 = true) (h : (f (.m 0 :: xs.map .d) [p]).Is (fun w M' => ∃ y p', w = .d y ∧ M' = [p'] ∧ p'.below 1 = true ∧ P w (p' :: M)) E) (hE : ∀ x M', E x M' → False) : (callR 1 m f (.m 0 :: xs.map .d) (p :: M)).Is P E := by
  have e : callR 1 m f (.m 0 :: xs.map .d) (p :: M) = match f (.m 0 :: xs.map .d) [p] with
      | .ok w M' => if w.below 1 = true ∧ M'.length = 1 ∧ M'.all (MO.below 1) = true then .ok w (M' ++ M) else .no
      | .ex x M' => if M'.length = 1 ∧ M'.all (MO.below 1) = true then .ex x (M' ++ M) else .no
      | .no => .no := by
    unfold callR
    rw [if_pos (by rw [List.length_cons, List.length_map]; exact hl), preps]
    simp only [prep, Wv.below, Nat.zero_lt_one, decide_true, if_true, Option.bind_some, preps_d, Option.map_some, List.take_succ_cons, List.take_zero, List.drop_succ_cons, List.drop_zero]
    rw [if_pos ⟨by rw [List.length_cons]; omega, by rw [List.all_cons, hp]; rfl⟩]
    generalize f (.m 0 :: xs.map .d) [p] = r
    cases r <;> rfl
  rw [e]
  obtain q | q := Classical.em (∃ w M', f (.m 0 :: xs.map .d) [p] = .ok w M')
  · obtain ⟨w, M', q⟩ := q
    rw [q] at h ⊢
    obtain ⟨y, p', rfl, rfl, hb, hP⟩ := h
    simp only [Wv.below, List.length_cons, List.length_nil, List.all_cons, List.all_nil, hb]
    exact hP
  · cases h2 : f (.m 0 :: xs.map .d) [p] with
    | ok w M' => exact absurd ⟨w, M', h2⟩ q
    | ex x M' => rw [h2] at h; exact (hE _ _ h).elim
    | no => rw [h2] at h; exact h.elim
/-- a body that answers data, with no object of its own left -/
theorem fnD_ok {body : SD} {n : Nat} {ws : List Wv} {y : D} {M M' : Sto} (h : body (ws.map some ++ List.replicate (n - ws.length) none) M = .ok (.rt (.d y)) M') (hl : (M'.take M.length).all (MO.below M.length) = true) : fnD body n ws M = .ok (.d y) (M'.take M.length) := by
  unfold fnD fnB
  rw [h]
  show outC _ _ _ = _
  unfold outC prep
  simp only [Wv.below, if_true]
  rw [if_pos hl]
end

/-! ### loops -/
section
variable {P : Out → Sto → Prop} {E : Exn → Sto → Prop} {tg : GD} {body : SD} {ws : List Wv}
theorem for_is (I : Nat → Ev → Sto → Prop) (hs : ∀ i w env M, ws[i]? = some w → I i env M → (tg w env M).Is (fun e M1 => (body e M1).Is (fun o M2 => match o with
      | .nx e2 => I (i + 1) e2 M2
      | .ct e2 => I (i + 1) e2 M2
      | .bk e2 => P (.nx e2) M2
      | .rt w => P (.rt w) M2
      | .xc e x => P (.xc e x) M2) E) E) (hd : ∀ env M, I ws.length env M → P (.nx env) M) : ∀ (f i : Nat) (env : Ev) (M : Sto), i + f = ws.length → I i env M → (forS (.its ws) tg body f i env M).Is P E
  | 0, i, env, M, hi, h => by
    have : i = ws.length := by omega
    subst this
    unfold forS
    simp only [Src.at_its, Nat.le_refl, if_true]
    exact hd _ _ h
  | f + 1, i, env, M, hi, h => by
    have hlt : i < ws.length := by omega
    unfold forS
    simp only [Src.at_its, List.getElem?_eq_getElem hlt]
    rw [is_bind]
    refine (hs i _ env M (List.getElem?_eq_getElem hlt) h).imp (fun e M1 q => ?_) fun _ _ q => q
    rw [is_bind]
    refine q.imp (fun o M2 q2 => ?_) fun _ _ q => q
    cases o with
    | nx e2 => exact for_is I hs hd f (i + 1) e2 M2 (by omega) q2
    | ct e2 => exact for_is I hs hd f (i + 1) e2 M2 (by omega) q2
    | bk e2 => exact q2
    | rt w => exact q2
    | xc e x => exact q2
end
section
variable {tg : GD} {tt : TD} {te : ED} {M : Sto}
/-- a comprehension without a test whose items leave the store alone -/
theorem comp_map {α : Type} (g : α → Wv) (v : α → D) {env : Ev} : ∀ (as : List α) (f i cnt : Nat) (pre : List α), (∀ a ∈ as, ∃ e, tg (g a) env M = .ok e M ∧ te e M = .ok (.d (v a)) M) → f = as.length → i = pre.length → cnt + as.length ≤ sizeLine →
    compS (.its ((pre ++ as).map g)) tg tYesD te f i cnt env M = .ok (as.map fun a => .d (v a)) M
  | [], f, i, cnt, pre, h, hf, hi, hc => by
    subst hf hi
    unfold compS
    simp
  | a :: as, f, i, cnt, pre, h, hf, hi, hc => by
    subst hf hi
    obtain ⟨e, h1, h2⟩ := h a (List.mem_cons_self ..)
    rw [List.length_cons] at hc ⊢
    unfold compS
    have e1 : ((pre ++ a :: as).map g)[pre.length]? = some (g a) := by
      rw [List.getElem?_map, List.getElem?_append_right (Nat.le_refl _), Nat.sub_self]
      rfl
    simp only [Src.at_its, e1, h1, nx_ok, Rs.bind_ok, tYesD, if_true, h2]
    rw [if_pos (by omega)]
    have e2 : pre ++ a :: as = (pre ++ [a]) ++ as := by rw [List.append_assoc]; rfl
    rw [e2, comp_map g v as as.length (pre.length + 1) (cnt + 1) (pre ++ [a]) (fun b hb => h b (List.mem_cons_of_mem _ hb)) rfl (by rw [List.length_append]; rfl) (by omega)]
    rfl
theorem eLc_map {α : Type} {src : ID} {vs : List Nat} {env : Ev} {M1 : Sto} (g : α → Wv) (v : α → D) (as : List α) (hs : src env M1 = .ok (.its (as.map g)) M) (h : ∀ a ∈ as, ∃ e, tg (g a) (wipeE env vs) M = .ok e M ∧ te e M = .ok (.d (v a)) M) (hl : as.length ≤ sizeLine) :
    eLc finF src tg tYesD te vs env M1 = .ok (.d (.lst (as.map v))) M := by
  have e : (as.map fun a => Wv.d (v a)) = (as.map v).map .d := by rw [List.map_map]; rfl
  unfold eLc
  simp only [hs, Rs.bind_ok, Src.at_its]
  have := comp_map (tg := tg) (te := te) (M := M) g v (env := wipeE env vs) as (as.map g).length 0 0 [] h (by rw [List.length_map]) rfl (by omega)
  rw [List.nil_append] at this
  rw [this, Rs.bind_ok, finF, e, nds_d]
end
end DL

/-! Layer D: the evaluator: one row a construct, continuations as words (no lambda). -/
namespace DL
open PySem PySem.Spec PyProof.Rows L2

abbrev PV := Wv → Sto → Prop
abbrev PO := Out → Sto → Prop
abbrev PB := Bool → Sto → Prop
abbrev PL := List Wv → Sto → Prop
abbrev PX := Exn → Sto → Prop
def oo {α : Type} (o : Option α) (P : α → Sto → Prop) (M : Sto) : Prop := match o with
  | some x => P x M
  | none => False
def kD (P : PV) : D → Sto → Prop := fun x M => P (.d x) M
def kX (env : Ev) (P : PO) : PX := fun x M => P (.xc env x) M
section
variable {α β : Type} {P : α → Sto → Prop} {x : α} {M : Sto}
theorem oo_some : oo (some x) P M = P x M := rfl
theorem oo_none : oo (none : Option α) P M = False := rfl
theorem kD_ap {P : PV} {d : D} : kD P d M = P (.d d) M := rfl
theorem kX_ap {P : PO} {e : Ev} {y : Exn} : kX e P y M = P (.xc e y) M := rfl
end
/-! ### statements -/
def kSeq (b : SD) (P : PO) (E : PX) : PO := fun o M => match o with
  | .nx e => (b e M).Is P E
  | .rt w => P (.rt w) M
  | .bk e => P (.bk e) M
  | .ct e => P (.ct e) M
  | .xc e x => P (.xc e x) M
def kExpr (env : Ev) (P : PO) : PV := fun _ M => P (.nx env) M
def kRet (P : PO) : PV := fun w M => P (.rt w) M
def kIf (a b : SD) (env : Ev) (P : PO) (E : PX) : PB := fun k M => if k = true then (a env M).Is P E else (b env M).Is P E
def kAsg (g : GD) (env : Ev) (P : PO) (E : PX) : PV := fun w M => (g w env M).Is (fun e M1 => P (.nx e) M1) E
def kNx (P : PO) : Ev → Sto → Prop := fun e M => P (.nx e) M
def kPar (i j : Nat) (env : Ev) (P : PO) : PL := fun ws M => match ws with
  | [w, u] => P (.nx ((env.set i (some w)).set j (some u))) M
  | _ => False
def kFor (tg : GD) (body : SD) (env : Ev) (P : PO) (E : PX) : Src → Sto → Prop := fun s M => match s.at M with
  | some ws => (forS s tg body ws.length 0 env M).Is P E
  | none => False
section
variable {P : PO} {E : PX} {a b m : SD} {env e : Ev} {M : Sto} {me mo : ED} {t : TD} {w u : Wv} {g : GD} {x : Exn} {ml : AD} {i j : Nat}
theorem y_next : (sNext env M).Is P E = P (.nx env) M := rfl
theorem y_seq : (sSeq a b env M).Is P E = (a env M).Is (kSeq b P E) E := by
  unfold sSeq
  rw [is_bind]
  congr
  funext o M1
  cases o <;> rfl
theorem kSeq_nx : kSeq b P E (.nx e) M = (b e M).Is P E := rfl
theorem kSeq_rt : kSeq b P E (.rt w) M = P (.rt w) M := rfl
theorem kSeq_bk : kSeq b P E (.bk e) M = P (.bk e) M := rfl
theorem kSeq_ct : kSeq b P E (.ct e) M = P (.ct e) M := rfl
theorem kSeq_xc : kSeq b P E (.xc e x) M = P (.xc e x) M := rfl
theorem y_expr : (sExpr me env M).Is P E = (me env M).Is (kExpr env P) (kX env P) := is_sx
theorem kExpr_ap : kExpr env P w M = P (.nx env) M := rfl
theorem y_ret : (sRet me env M).Is P E = (me env M).Is (kRet P) (kX env P) := is_sx
theorem kRet_ap : kRet P w M = P (.rt w) M := rfl
theorem y_retN : (sRetN env M).Is P E = P (.rt (.d .non)) M := rfl
theorem y_if : (sIf t a b env M).Is P E = (t env M).Is (kIf a b env P E) (kX env P) := by
  unfold sIf
  rw [is_sx]
  congr
  funext k M1
  cases k <;> rfl
theorem kIf_t : kIf a b env P E true M = (a env M).Is P E := rfl
theorem kIf_f : kIf a b env P E false M = (b env M).Is P E := rfl
theorem y_never : (sNever env M).Is P E = False := rfl
theorem y_brk : (sBrk env M).Is P E = P (.bk env) M := rfl
theorem y_cnt : (sCnt env M).Is P E = P (.ct env) M := rfl
theorem y_asg {i : Nat} : (sAsg (tgN i) me env M).Is P E = (me env M).Is (kAsg (tgN i) env P E) (kX env P) := by
  unfold sAsg
  rw [is_sx]
  rfl
theorem y_asgG : (sAsg g me env M).Is P E = (me env M).Is (kAsg g env P E) (kX env P) := by
  unfold sAsg
  rw [is_sx]
  congr
  funext w M1
  rw [is_bind]
  rfl
theorem kAsg_n {i : Nat} : kAsg (tgN i) env P E w M = P (.nx (env.set i (some w))) M := rfl
theorem kAsg_g : kAsg g env P E w M = (g w env M).Is (kNx P) E := rfl
theorem kNx_ap : kNx P e M = P (.nx e) M := rfl
theorem y_par : (sPar i j ml env M).Is P E = (ml env M).Is (kPar i j env P) (kX env P) := by
  unfold sPar
  rw [is_sx]
  congr
  funext ws M1
  match ws with
  | [] => rfl
  | [_] => rfl
  | [_, _] => rfl
  | _ :: _ :: _ :: _ => rfl
theorem kPar_ap : kPar i j env P [w, u] M = P (.nx ((env.set i (some w)).set j (some u))) M := rfl
theorem y_for {src : ID} : (sFor src g m env M).Is P E = (src env M).Is (kFor g m env P E) (kX env P) := by
  unfold sFor
  rw [is_sx]
  congr
  funext s M1
  unfold kFor
  cases s.at M1 <;> rfl
theorem kFor_its {ws : List Wv} : kFor g m env P E (.its ws) M = (forS (.its ws) g m ws.length 0 env M).Is P E := rfl
end
/-! ### targets -/
section
variable {Q : Ev → Sto → Prop} {E : PX} {env : Ev} {M : Sto} {w : Wv} {i n : Nat} {g : GD} {r : GDs} {ws : List Wv} {o ie : ED}
def kGc (r : GDs) (ws : List Wv) (Q : Ev → Sto → Prop) (E : PX) : Ev → Sto → Prop := fun e M => (r ws e M).Is Q E
theorem y_tgN : (tgN i w env M).Is Q E = Q (env.set i (some w)) M := rfl
theorem y_tgT {l : List D} : (tgT n r (.d (.tup l)) env M).Is Q E = if l.length = n then (r (l.map .d) env M).Is Q E else False := by
  unfold tgT
  simp only [seqw_tup, List.length_map]
  by_cases h : l.length = n
  · rw [if_pos h, if_pos h]
  · rw [if_neg h, if_neg h]
    rfl
theorem y_tgsC : (tgsC g r (w :: ws) env M).Is Q E = (g w env M).Is (kGc r ws Q E) E := by
  show (Rs.bind _ _).Is Q E = _
  rw [is_bind]
  rfl
theorem kGc_ap : kGc r ws Q E env M = (r ws env M).Is Q E := rfl
theorem y_tgsN : (tgsN [] env M).Is Q E = Q env M := rfl
def kTs1 (ie : ED) (w : Wv) (env : Ev) (Q : Ev → Sto → Prop) : PV := fun wo M => (ie env M).Is (fun wi M2 => match wi with
  | .d (.int j) => match lstAt wo M2 with
    | some (k, ws) => oo (ixN ws.length j) (fun n M2 => Q env (M2.set k (.lst (ws.set n w)))) M2
    | none => False
  | _ => False) nox
def kTs2 (wo w : Wv) (env : Ev) (Q : Ev → Sto → Prop) : PV := fun wi M2 => match wi with
  | .d (.int j) => match lstAt wo M2 with
    | some (k, ws) => oo (ixN ws.length j) (fun n M2 => Q env (M2.set k (.lst (ws.set n w)))) M2
    | none => False
  | _ => False
def kTs3 (l : Option (Nat × List Wv)) (j : Int) (w : Wv) (env : Ev) (Q : Ev → Sto → Prop) (M : Sto) : Prop := match l with
  | some (k, ws) => oo (ixN ws.length j) (fun n M2 => Q env (M2.set k (.lst (ws.set n w)))) M
  | none => False
theorem y_tgS : (tgS o ie w env M).Is Q E = (o env M).Is (kTs1 ie w env Q) nox := by
  unfold tgS
  rw [is_bind, is_nx]
  congr
  funext wo M1
  rw [is_bind, is_nx]
  unfold kTs1
  congr
  funext wi M2
  cases wi with
  | m k => rfl
  | d x =>
    cases x with
    | int j =>
      simp only []
      cases lstAt wo M2 with
      | none => rfl
      | some p =>
        obtain ⟨k, ws⟩ := p
        simp only []
        cases ixN ws.length j <;> rfl
    | _ => rfl
theorem kTs1_ap {wo : Wv} : kTs1 ie w env Q wo M = (ie env M).Is (kTs2 wo w env Q) nox := rfl
theorem kTs2_ap {wo : Wv} {j : Int} : kTs2 wo w env Q (.d (.int j)) M = kTs3 (lstAt wo M) j w env Q M := rfl
def kTs4 (k : Nat) (ws : List Wv) (w : Wv) (env : Ev) (Q : Ev → Sto → Prop) : Nat → Sto → Prop := fun n M2 => Q env (M2.set k (.lst (ws.set n w)))
theorem kTs3_some {k : Nat} {j : Int} : kTs3 (some (k, ws)) j w env Q M = oo (ixN ws.length j) (kTs4 k ws w env Q) M := rfl
theorem kTs4_ap {k n : Nat} : kTs4 k ws w env Q n M = Q env (M.set k (.lst (ws.set n w))) := rfl
end
/-! ### tests -/
def kTb (P : PB) : PV := fun w M => match w with
  | .d (.bl k) => P k M
  | _ => False
def kTru (P : PB) : PV := fun w M => oo (truw M w) P M
def kNt (P : PB) : PB := fun k M => P (!k) M
def kAn (u : TD) (env : Ev) (P : PB) (E : PX) : PB := fun k M => if k = true then (u env M).Is P E else P false M
def kO (u : TD) (env : Ev) (P : PB) (E : PX) : PB := fun k M => if k = true then P true M else (u env M).Is P E
section
variable {P : PB} {E : PX} {me : ED} {env : Ev} {M : Sto} {t u : TD} {k : Bool} {w : Wv}
theorem y_tb : (tb me env M).Is P E = (me env M).Is (kTb P) E := by
  unfold tb
  rw [is_bind]
  congr
  funext w M1
  cases w with
  | m k => rfl
  | d x => cases x <;> rfl
theorem kTb_ap : kTb P (.d (.bl k)) M = P k M := rfl
theorem y_tru : (tTru me env M).Is P E = (me env M).Is (kTru P) E := by
  unfold tTru
  rw [is_bind]
  congr
  funext w M1
  unfold kTru
  cases truw M1 w <;> rfl
theorem kTru_ap : kTru P w M = oo (truw M w) P M := rfl
theorem truw_non : truw M (.d .non) = some false := rfl
theorem truw_bl : truw M (.d (.bl k)) = some k := rfl
theorem truw_int {i : Int} : truw M (.d (.int i)) = some (i != 0) := rfl
theorem truw_tup {l : List D} : truw M (.d (.tup l)) = some (!l.isEmpty) := rfl
theorem truw_lst {l : List D} : truw M (.d (.lst l)) = some (!l.isEmpty) := rfl
theorem truw_str {x : Str} (h : x.length ≤ sizeLine) : truw M (.d (.str x)) = some ((x.length : Int) != 0) := by
  show (if x.length ≤ sizeLine then some ((x.length : Int) != 0) else none) = _
  rw [if_pos h]
theorem y_nt : (tNt t env M).Is P E = (t env M).Is (kNt P) E := by
  unfold tNt
  rw [is_bind]
  rfl
theorem kNt_ap : kNt P k M = P (!k) M := rfl
theorem y_an : (tAn t u env M).Is P E = (t env M).Is (kAn u env P E) E := by
  unfold tAn
  rw [is_bind]
  congr
  funext k M1
  cases k <;> rfl
theorem kAn_t : kAn u env P E true M = (u env M).Is P E := rfl
theorem kAn_f : kAn u env P E false M = P false M := rfl
theorem y_o : (tO t u env M).Is P E = (t env M).Is (kO u env P E) E := by
  unfold tO
  rw [is_bind]
  congr
  funext k M1
  cases k <;> rfl
theorem kO_t : kO u env P E true M = P true M := rfl
theorem kO_f : kO u env P E false M = (u env M).Is P E := rfl
theorem y_yes : (tYesD env M).Is P E = P true M := rfl
end
/-! ### expressions -/
def kAnd (b : ED) (env : Ev) (P : PV) (E : PX) : PV := fun w M => match truw M w with
  | some k => if k = true then (b env M).Is P E else P w M
  | none => False
def kOr (b : ED) (env : Ev) (P : PV) (E : PX) : PV := fun w M => match truw M w with
  | some k => if k = true then P w M else (b env M).Is P E
  | none => False
def kNot (P : PV) : PV := fun w M => match truw M w with
  | some k => P (.d (.bl (!k))) M
  | none => False
def kEif (a b : ED) (env : Ev) (P : PV) (E : PX) : PB := fun k M => if k = true then (a env M).Is P E else (b env M).Is P E
def kC1 (r : AD) (env : Ev) (P : PL) (E : PX) : PV := fun w M => (r env M).Is (fun ws M2 => P (w :: ws) M2) E
def kC2 (w : Wv) (P : PL) : PL := fun ws M => P (w :: ws) M
def kS1 (r : AD) (env : Ev) (P : PL) (E : PX) : PV := fun w M => oo (seqw M w) (fun p M1 => (r env M1).Is (fun ws M2 => P (p.2 ++ ws) M2) E) M
def kS2 (r : AD) (env : Ev) (P : PL) (E : PX) : Bool × List Wv → Sto → Prop := fun p M1 => (r env M1).Is (fun ws M2 => P (p.2 ++ ws) M2) E
def kS3 (us : List Wv) (P : PL) : PL := fun ws M => P (us ++ ws) M
def kTupl (P : PV) : PL := fun ws M => oo (nds M ws) (fun l M => l.length ≤ sizeLine ∧ P (.d (.tup l)) M) M
def kTup2 (P : PV) : List D → Sto → Prop := fun l M => l.length ≤ sizeLine ∧ P (.d (.tup l)) M
def kLstl (P : PV) : PL := fun ws M => oo (nds M ws) (fun l M => l.length ≤ sizeLine ∧ P (.d (.lst l)) M) M
def kLst2 (P : PV) : List D → Sto → Prop := fun l M => l.length ≤ sizeLine ∧ P (.d (.lst l)) M
def kLstM (P : PV) : PL := fun ws M => ws.length ≤ sizeLine ∧ P (.m M.length) (M ++ [.lst ws])
def kE1 (f : Wv → Sto → Rs Wv) (P : PV) (E : PX) : PV := fun w M => (f w M).Is P E
def kE2 (f : Wv → Wv → Sto → Rs Wv) (b : ED) (env : Ev) (P : PV) (E : PX) : PV := fun w M => (b env M).Is (fun u M2 => (f w u M2).Is P E) E
def kE3 (f : Wv → Wv → Sto → Rs Wv) (w : Wv) (P : PV) (E : PX) : PV := fun u M => (f w u M).Is P E
def kL (f : List Wv → Sto → Rs Wv) (P : PV) (E : PX) : PL := fun ws M => (f ws M).Is P E
def kCall (c : FD) (ds : List D) (P : PV) (E : PX) : PL := fun ws M => (c (ws ++ ds.map .d) M).Is P E
def kMe1 (t : Nat) (m : Str) (c : FD) (ds : List D) (a : AD) (env : Ev) (P : PV) (E : PX) : PV := fun w M => insw t m w M = true ∧ (a env M).Is (fun ws M2 => (c (w :: (ws ++ ds.map .d)) M2).Is P E) E
def kMe2 (c : FD) (ds : List D) (w : Wv) (P : PV) (E : PX) : PL := fun ws M => (c (w :: (ws ++ ds.map .d)) M).Is P E
def kCh1 (f f' : Wv → Wv → Sto → Rs Wv) (b c : ED) (env : Ev) (P : PV) (E : PX) : PV := fun wa M => (b env M).Is (fun wb M2 => (f wa wb M2).Is (fun k M3 => match k with
  | .d (.bl true) => (c env M3).Is (fun wc M4 => (f' wb wc M4).Is P E) E
  | .d (.bl false) => P (.d (.bl false)) M3
  | _ => False) E) E
def kCh2 (f f' : Wv → Wv → Sto → Rs Wv) (c : ED) (env : Ev) (wa : Wv) (P : PV) (E : PX) : PV := fun wb M2 => (f wa wb M2).Is (fun k M3 => match k with
  | .d (.bl true) => (c env M3).Is (fun wc M4 => (f' wb wc M4).Is P E) E
  | .d (.bl false) => P (.d (.bl false)) M3
  | _ => False) E
def kCh3 (f' : Wv → Wv → Sto → Rs Wv) (c : ED) (env : Ev) (wb : Wv) (P : PV) (E : PX) : PV := fun k M3 => match k with
  | .d (.bl true) => (c env M3).Is (fun wc M4 => (f' wb wc M4).Is P E) E
  | .d (.bl false) => P (.d (.bl false)) M3
  | _ => False
section
variable {P : PV} {Q : PL} {E : PX} {a b c o me : ED} {env : Ev} {M : Sto} {t : TD} {k : Bool} {w u : Wv} {f f' : Wv → Wv → Sto → Rs Wv} {g : Wv → Sto → Rs Wv} {lf : List Wv → Sto → Rs Wv} {r ml : AD} {x y : D} {ws us : List Wv} {fd : FD} {ds : List D} {n : Nat} {m : Str} {i j : Int}
theorem y_c : (eC x env M).Is P E = P (.d x) M := rfl
theorem y_var0 {e : Ev} : (eVar 0 (some w :: e) M).Is P E = P w M := rfl
theorem y_varS {e : Ev} {q : Option Wv} : (eVar (n + 1) (q :: e) M).Is P E = (eVar n e M).Is P E := rfl
theorem y_and : (eAnd a b env M).Is P E = (a env M).Is (kAnd b env P E) E := by
  unfold eAnd
  rw [is_bind]
  congr
  funext w M1
  unfold kAnd
  cases truw M1 w with
  | none => rfl
  | some k => cases k <;> rfl
theorem kAnd_t : kAnd b env P E (.d (.bl true)) M = (b env M).Is P E := rfl
theorem kAnd_f : kAnd b env P E (.d (.bl false)) M = P (.d (.bl false)) M := rfl
theorem y_or : (eOr a b env M).Is P E = (a env M).Is (kOr b env P E) E := by
  unfold eOr
  rw [is_bind]
  congr
  funext w M1
  unfold kOr
  cases truw M1 w with
  | none => rfl
  | some k => cases k <;> rfl
theorem kOr_t : kOr b env P E (.d (.bl true)) M = P (.d (.bl true)) M := rfl
theorem kOr_f : kOr b env P E (.d (.bl false)) M = (b env M).Is P E := rfl
theorem y_not : (eNot a env M).Is P E = (a env M).Is (kNot P) E := by
  unfold eNot
  rw [is_bind]
  congr
  funext w M1
  unfold kNot
  cases truw M1 w <;> rfl
theorem kNot_bl : kNot P (.d (.bl k)) M = P (.d (.bl (!k))) M := rfl
theorem y_eif : (eIf t a b env M).Is P E = (t env M).Is (kEif a b env P E) E := by
  unfold eIf
  rw [is_bind]
  congr
  funext k M1
  cases k <;> rfl
theorem kEif_t : kEif a b env P E true M = (a env M).Is P E := rfl
theorem kEif_f : kEif a b env P E false M = (b env M).Is P E := rfl
theorem y_aNil : (aNil env M).Is Q E = Q [] M := rfl
theorem y_aCons : (aCons a r env M).Is Q E = (a env M).Is (kC1 r env Q E) E := by
  unfold aCons
  rw [is_bind]
  congr
  funext w M1
  rw [is_bind]
  rfl
theorem kC1_ap : kC1 r env Q E w M = (r env M).Is (kC2 w Q) E := rfl
theorem kC2_ap : kC2 w Q ws M = Q (w :: ws) M := rfl
theorem y_aStar : (aStar a r env M).Is Q E = (a env M).Is (kS1 r env Q E) E := by
  unfold aStar
  rw [is_bind]
  congr
  funext w M1
  unfold kS1
  cases seqw M1 w with
  | none => rfl
  | some p =>
    show (Rs.bind _ _).Is Q E = _
    rw [is_bind]
    rfl
theorem kS1_ap : kS1 r env Q E w M = oo (seqw M w) (kS2 r env Q E) M := rfl
theorem kS2_ap : kS2 r env Q E (k, us) M = (r env M).Is (kS3 us Q) E := rfl
theorem kS3_ap : kS3 us Q ws M = Q (us ++ ws) M := rfl
theorem y_tup : (eTup ml env M).Is P E = (ml env M).Is (kTupl P) E := by
  unfold eTup
  rw [is_bind]
  congr
  funext ws M1
  unfold kTupl
  cases nds M1 ws with
  | none => rfl
  | some l =>
    by_cases h : l.length ≤ sizeLine
    · show (if l.length ≤ sizeLine then _ else _ : Rs Wv).Is P E = _
      rw [if_pos h]
      simp only [is_ok, oo_some, h, true_and]
    · show (if l.length ≤ sizeLine then _ else _ : Rs Wv).Is P E = _
      rw [if_neg h]
      simp only [is_no, oo_some, h, false_and]
theorem kTupl_ap : kTupl P ws M = oo (nds M ws) (kTup2 P) M := rfl
theorem kTup2_ap {l : List D} : kTup2 P l M = (l.length ≤ sizeLine ∧ P (.d (.tup l)) M) := rfl
theorem y_lst : (eLst ml env M).Is P E = (ml env M).Is (kLstl P) E := by
  unfold eLst
  rw [is_bind]
  congr
  funext ws M1
  unfold kLstl
  cases nds M1 ws with
  | none => rfl
  | some l =>
    by_cases h : l.length ≤ sizeLine
    · show (if l.length ≤ sizeLine then _ else _ : Rs Wv).Is P E = _
      rw [if_pos h]
      simp only [is_ok, oo_some, h, true_and]
    · show (if l.length ≤ sizeLine then _ else _ : Rs Wv).Is P E = _
      rw [if_neg h]
      simp only [is_no, oo_some, h, false_and]
theorem kLstl_ap : kLstl P ws M = oo (nds M ws) (kLst2 P) M := rfl
theorem kLst2_ap {l : List D} : kLst2 P l M = (l.length ≤ sizeLine ∧ P (.d (.lst l)) M) := rfl
theorem y_lstM : (eLstM ml env M).Is P E = (ml env M).Is (kLstM P) E := by
  unfold eLstM
  rw [is_bind]
  congr
  funext ws M1
  unfold kLstM
  by_cases h : ws.length ≤ sizeLine
  · rw [if_pos h]
    simp only [is_ok, h, true_and]
  · rw [if_neg h]
    simp only [is_no, h, false_and]
theorem kLstM_ap : kLstM P ws M = (ws.length ≤ sizeLine ∧ P (.m M.length) (M ++ [.lst ws])) := rfl
theorem y_e1 : (e1 g a env M).Is P E = (a env M).Is (kE1 g P E) E := is_bind
theorem kE1_ap : kE1 g P E w M = (g w M).Is P E := rfl
theorem y_e2 : (e2 f a b env M).Is P E = (a env M).Is (kE2 f b env P E) E := by
  unfold e2
  rw [is_bind]
  congr
  funext w M1
  rw [is_bind]
  rfl
theorem kE2_ap : kE2 f b env P E w M = (b env M).Is (kE3 f w P E) E := rfl
theorem kE3_ap : kE3 f w P E u M = (f w u M).Is P E := rfl
theorem y_eL : (eL lf ml env M).Is P E = (ml env M).Is (kL lf P E) E := is_bind
theorem kL_f1 : kL (f1 g) P E [w] M = (g w M).Is P E := rfl
theorem kL_f2 : kL (f2 f) P E [w, u] M = (f w u M).Is P E := rfl
theorem y_call : (eCall fd ds ml env M).Is P E = (ml env M).Is (kCall fd ds P E) E := is_bind
theorem kCall_ap : kCall fd [] P E ws M = (fd ws M).Is P E := by
  show (fd (ws ++ [].map .d) M).Is P E = _
  rw [List.map_nil, List.append_nil]
theorem kCall_ds : kCall fd ds P E ws M = (fd (ws ++ ds.map .d) M).Is P E := rfl
theorem y_meth : (eMeth n m fd ds o ml env M).Is P E = (o env M).Is (kMe1 n m fd ds ml env P E) E := by
  unfold eMeth
  rw [is_bind]
  congr
  funext w M1
  unfold kMe1
  by_cases h : insw n m w M1 = true
  · rw [if_pos h, is_bind]
    simp only [h, true_and]
  · rw [if_neg h, is_no]
    exact (eq_false fun z => h z.1).symm
theorem kMe1_ap : kMe1 n m fd ds ml env P E w M = (insw n m w M = true ∧ (ml env M).Is (kMe2 fd ds w P E) E) := rfl
theorem kMe2_ap : kMe2 fd [] w P E ws M = (fd (w :: ws) M).Is P E := by
  show (fd (w :: (ws ++ [].map .d)) M).Is P E = _
  rw [List.map_nil, List.append_nil]
theorem y_chain : (eChain f f' a b c env M).Is P E = (a env M).Is (kCh1 f f' b c env P E) E := by
  unfold eChain
  rw [is_bind]
  congr
  funext wa M1
  rw [is_bind]
  unfold kCh1
  congr
  funext wb M2
  rw [is_bind]
  congr
  funext k M3
  cases k with
  | m _ => rfl
  | d x =>
    cases x with
    | bl q =>
      cases q with
      | true => show (Rs.bind _ _).Is P E = _; rw [is_bind]
      | false => rfl
    | _ => rfl
theorem kCh1_ap : kCh1 f f' b c env P E w M = (b env M).Is (kCh2 f f' c env w P E) E := rfl
theorem kCh2_ap : kCh2 f f' c env w P E u M = (f w u M).Is (kCh3 f' c env u P E) E := rfl
theorem kCh3_t : kCh3 f' c env u P E (.d (.bl true)) M = (c env M).Is (kE3 f' u P E) E := rfl
theorem kCh3_f : kCh3 f' c env u P E (.d (.bl false)) M = P (.d (.bl false)) M := rfl
/-! data steps -/
theorem y_pu1 {h : D → Option D} : (pu1 h (.d x) M).Is P E = oo (h x) (kD P) M := by
  rw [pu1_d]
  cases h x <;> rfl
theorem y_pu2 {h : D → D → Option D} : (pu2 h (.d x) (.d y) M).Is P E = oo (h x y) (kD P) M := by
  rw [pu2_d]
  cases h x y <;> rfl
theorem add_int : dAdd (.int i) (.int j) = some (.int (i + j)) := rfl
theorem addI_int : dAddI (.int i) (.int j) = some (.int (i + j)) := rfl
theorem sub_int : dSub (.int i) (.int j) = some (.int (i - j)) := rfl
theorem neg_int : dNeg (.int i) = some (.int (-i)) := rfl
theorem mul_int (h : mulOk i j = true) : dMul (.int i) (.int j) = some (.int (i * j)) := by
  show (if mulOk i j = true then _ else _) = _
  rw [if_pos h]
theorem mod_int (h : 0 < j) : dMod (.int i) (.int j) = some (.int (i % j)) := by
  show (if decide (0 < j) = true then _ else _) = _
  rw [if_pos (decide_eq_true h)]
theorem div_int (h : divOk j = true) : dDiv (.int i) (.int j) = some (.int (i / j)) := by
  show (if divOk j = true then _ else _) = _
  rw [if_pos h]
theorem lt_int : dLt (.int i) (.int j) = some (.bl (decide (i < j))) := rfl
theorem le_int : dLe (.int i) (.int j) = some (.bl (decide (i ≤ j))) := rfl
theorem gt_int : dGt (.int i) (.int j) = some (.bl (decide (j < i))) := rfl
theorem ge_int : dGe (.int i) (.int j) = some (.bl (decide (j ≤ i))) := rfl
theorem eq_int : dEq (.int i) (.int j) = some (.bl (decide (i = j))) := by
  show some (D.bl (PyData.eqv (.int i) (.int j))) = _
  rw [show PyData.eqv (.int i) (.int j) = (i == j) from rfl]
  congr 2
theorem ne_int : dNe (.int i) (.int j) = some (.bl (!decide (i = j))) := by
  have h := eq_int (i := i) (j := j)
  unfold dEq at h
  unfold dNe
  cases q : peq (.int i) (.int j) with
  | none => rw [q] at h; cases h
  | some k =>
    rw [q] at h
    simp only [Option.map_some, Option.some.injEq, D.bl.injEq] at h ⊢
    rw [h]
theorem toint_int : dInt (.int i) = some (.int i) := rfl
theorem toint_bl : dInt (.bl k) = some (.int (if k then 1 else 0)) := rfl
theorem tostr_str {z : Str} : dStr (.str z) = some (.str z) := rfl
theorem y_isN : (isN w (.d .non) M).Is P E = P (.d (.bl (isNon w))) M := rfl
theorem y_notN : (notN w (.d .non) M).Is P E = P (.d (.bl (!isNon w))) M := rfl
/-! subscripts, len -/
def kIx (s : Option (Bool × List Wv)) (w : Wv) (i : Int) (P : PV) (E : PX) (M : Sto) : Prop := match s with
  | some (_, ws) => oo (atI ws i) P M
  | none => (ixw w (.d (.int i)) M).Is P E
theorem y_ixL {l : List D} : (ixw (.d (.lst l)) (.d (.int i)) M).Is P E = oo (atI (l.map .d) i) P M := by
  unfold ixw
  simp only [seqw_lst]
  cases atI (l.map Wv.d) i <;> rfl
theorem y_ixT {l : List D} : (ixw (.d (.tup l)) (.d (.int i)) M).Is P E = oo (atI (l.map .d) i) P M := by
  unfold ixw
  simp only [seqw_tup]
  cases atI (l.map Wv.d) i <;> rfl
theorem y_ixSc {l : List D} : (ixw (.d (.scr l)) (.d (.int i)) M).Is P E = oo (atI (l.map .d) i) P M := by
  unfold ixw
  simp only [seqw_scr]
  cases atI (l.map Wv.d) i <;> rfl
theorem y_ixM0 : (ixw (.m 0) (.d (.int i)) (.lst ws :: M)).Is P E = oo (atI ws i) P (.lst ws :: M) := by
  unfold ixw
  simp only [seqw, nw, List.getElem?_cons_zero]
  cases atI ws i <;> rfl
theorem y_lenL {l : List D} : (lenw (.d (.lst l)) M).Is P E = P (.d (.int l.length)) M := by
  unfold lenw
  simp only [seqw_lst, List.length_map]
  rfl
theorem y_lenT {l : List D} : (lenw (.d (.tup l)) M).Is P E = P (.d (.int l.length)) M := by
  unfold lenw
  simp only [seqw_tup, List.length_map]
  rfl
theorem y_lenSc {l : List D} : (lenw (.d (.scr l)) M).Is P E = P (.d (.int l.length)) M := by
  unfold lenw
  simp only [seqw_scr, List.length_map]
  rfl
theorem y_lenS {z : Str} (h : z.length ≤ sizeLine) : (lenw (.d (.str z)) M).Is P E = P (.d (.int z.length)) M := by
  unfold lenw
  show (if z.length ≤ sizeLine then _ else _ : Rs Wv).Is P E = _
  rw [if_pos h]
  rfl
theorem y_listL {l : List D} : (listw (.d (.lst l)) M).Is P E = P (.d (.lst l)) M := by
  unfold listw
  simp only [seqw_lst, nds_d]
  rfl
theorem y_listT {l : List D} : (listw (.d (.tup l)) M).Is P E = P (.d (.lst l)) M := by
  unfold listw
  simp only [seqw_tup, nds_d]
  rfl
theorem y_listSc {l : List D} : (listw (.d (.scr l)) M).Is P E = P (.d (.lst l)) M := by
  unfold listw
  simp only [seqw_scr, nds_d]
  rfl
theorem y_tupL {l : List D} : (tupw (.d (.lst l)) M).Is P E = P (.d (.tup l)) M := by
  unfold tupw
  simp only [seqw_lst, nds_d]
  rfl
theorem y_tupT {l : List D} : (tupw (.d (.tup l)) M).Is P E = P (.d (.tup l)) M := by
  unfold tupw
  simp only [seqw_tup, nds_d]
  rfl
theorem nds_cons : nds M (.d x :: ws) = (nds M ws).map (x :: ·) := by
  rw [nds, nd_d]
  cases nds M ws <;> rfl
theorem nds_nil : nds M [] = some [] := rfl
end
section
variable {α : Type} {a b c d e f : α} {l : List α}
theorem atI_n {k : Nat} (h : k < l.length) : atI l (k : Int) = some l[k] := by
  unfold atI ixN
  rw [if_pos (Int.natCast_nonneg k), if_pos (by omega)]
  simp only [Int.toNat_natCast, Option.bind_some]
  exact List.getElem?_eq_getElem h
theorem at0 : atI (a :: l) 0 = some a := atI_n (k := 0) (l := a :: l) (by simp)
theorem at1 : atI (a :: b :: l) 1 = some b := atI_n (k := 1) (l := a :: b :: l) (by simp)
theorem at2 : atI (a :: b :: c :: l) 2 = some c := atI_n (k := 2) (l := a :: b :: c :: l) (by simp)
theorem at3 : atI (a :: b :: c :: d :: l) 3 = some d := atI_n (k := 3) (l := a :: b :: c :: d :: l) (by simp)
theorem at4 : atI (a :: b :: c :: d :: e :: l) 4 = some e := atI_n (k := 4) (l := a :: b :: c :: d :: e :: l) (by simp)
theorem at5 : atI (a :: b :: c :: d :: e :: f :: l) 5 = some f := atI_n (k := 5) (l := a :: b :: c :: d :: e :: f :: l) (by simp)
theorem atM1 : atI [a] (-1) = some a := rfl
theorem atM2 : atI [a, b] (-1) = some b := rfl
theorem atM3 : atI [a, b, c] (-1) = some c := rfl
theorem atI_last (h : l ≠ []) : atI l (-1) = some (l.getLast h) := by
  have hl : 0 < l.length := List.length_pos_iff.mpr h
  unfold atI ixN
  rw [if_neg (by decide), if_pos (by omega)]
  simp only [Option.bind_some]
  have e : ((-1 : Int) + (l.length : Int)).toNat = l.length - 1 := by omega
  rw [e, List.getLast_eq_getElem, List.getElem?_eq_getElem]
end
/-! ### a def -/
def kFn (n : Nat) (P : PV) (E : PX) : PO := fun o M => match o with
  | .nx _ => (outC n (.d .non) M).Is P E
  | .rt w => (outC n w M).Is P E
  | .xc _ x => (outX n x M).Is P E
  | _ => False
def kFnM (P : PV) (E : PX) : PO := fun o M => match o with
  | .nx _ => P (.d .non) M
  | .rt w => P w M
  | .xc _ x => E x M
  | _ => False
section
variable {P : PV} {E : PX} {body : SD} {n : Nat} {ws : List Wv} {M : Sto} {e : Ev} {w : Wv} {x : Exn} {d : D}
theorem y_fnD : (fnD body n ws M).Is P E = (body (ws.map some ++ List.replicate (n - ws.length) none) M).Is (kFn M.length P E) nox := by
  unfold fnD fnB
  cases body (ws.map some ++ List.replicate (n - ws.length) none) M with
  | ok o M' => cases o <;> rfl
  | ex x M' => rfl
  | no => rfl
theorem kFn_nx : kFn n P E (.nx e) M = (outC n (.d .non) M).Is P E := rfl
theorem kFn_rt : kFn n P E (.rt w) M = (outC n w M).Is P E := rfl
theorem kFn_xc : kFn n P E (.xc e x) M = (outX n x M).Is P E := rfl
theorem y_fnM : (fnM body n ws M).Is P E = (body (ws.map some ++ List.replicate (n - ws.length) none) M).Is (kFnM P E) nox := by
  unfold fnM fnB
  cases body (ws.map some ++ List.replicate (n - ws.length) none) M with
  | ok o M' => cases o <;> rfl
  | ex x M' => rfl
  | no => rfl
theorem kFnM_nx : kFnM P E (.nx e) M = P (.d .non) M := rfl
theorem kFnM_rt : kFnM P E (.rt w) M = P w M := rfl
theorem kFnM_xc : kFnM P E (.xc e x) M = E x M := rfl
theorem y_outC : (outC n (.d d) M).Is P E = ((M.take n).all (MO.below n) = true ∧ P (.d d) (M.take n)) := by
  unfold outC prep
  simp only [Wv.below, if_true]
  by_cases h : (M.take n).all (MO.below n) = true
  · rw [if_pos h]
    simp only [h, true_and, is_ok]
  · rw [if_neg h, is_no]
    exact (eq_false fun z => h z.1).symm
theorem y_outC0 : (outC 0 (.d d) M).Is P E = P (.d d) [] := by
  rw [y_outC]
  simp only [List.take_zero, List.all_nil, true_and]
theorem y_callA {m : Nat} {f : FD} (h : ws.length = m) : (callA m f ws M).Is P E = (f ws M).Is P E := by
  unfold callA
  rw [if_pos h]
end
end DL

/-! Layer D: the defs that stand in every law: the pool, a draw, _law_same. -/
namespace DL
open PySem
theorem zsz {n : Nat} (h : n ≤ 100) : (n ≤ PySem.sizeLine) = True := eq_true (Nat.le_trans h (by decide))
def g_pool : FD := fnM (sRet (eLstM (aCons (eL (f1 listw) (aCons (eVar 0) aNil)) (aCons (eC (.int 0)) (aCons (eC (.int 0)) (aCons (eC (.int 1)) (aCons (eC (.int 0)) (aCons (eVar 1) aNil)))))))) 2
def poolO (l : List Int) (i a b c d : Int) : MO := .lst [.d (.lst (l.map .int)), .d (.int i), .d (.int a), .d (.int b), .d (.int c), .d (.int d)]
def PoolIs (p : MO) : Prop := ∃ l i a b c d, 0 ≤ i ∧ p = poolO l i a b c d
theorem PoolIs.below {p : MO} (h : PoolIs p) : p.below 1 = true := by
  obtain ⟨l, i, a, b, c, d, _, rfl⟩ := h
  rfl
theorem pool_is {l : List Int} {b : Int} {P : PV} {E : PX} (h : ∀ p, PoolIs p → P (.m 0) [p]) : (g_pool [.d (.scr (l.map .int)), .d (.int b)] []).Is P E := by
  unfold g_pool
  simp only [DL.oo_some, DL.oo_none, DL.kD_ap, DL.kX_ap, DL.y_next, DL.y_seq, DL.kSeq_nx, DL.kSeq_rt, DL.kSeq_bk, DL.kSeq_ct, DL.kSeq_xc, DL.y_expr, DL.kExpr_ap, DL.y_ret, DL.kRet_ap, DL.y_retN, DL.y_if, DL.kIf_t, DL.kIf_f, DL.y_never, DL.y_brk, DL.y_cnt, DL.y_asg, DL.kAsg_n, DL.kNx_ap, DL.y_par, DL.kPar_ap, DL.y_for, DL.kFor_its, DL.y_tgN, DL.y_tgT, DL.y_tgsC, DL.kGc_ap, DL.y_tgsN, DL.y_tb, DL.kTb_ap, DL.y_tru, DL.kTru_ap, DL.truw_non, DL.truw_bl, DL.truw_int, DL.truw_tup, DL.truw_lst, DL.truw_str, DL.y_nt, DL.kNt_ap, DL.y_an, DL.kAn_t, DL.kAn_f, DL.y_o, DL.kO_t, DL.kO_f, DL.y_yes, DL.y_c, DL.y_var0, DL.y_varS, DL.y_and, DL.kAnd_t, DL.kAnd_f, DL.y_or, DL.kOr_t, DL.kOr_f, DL.y_not, DL.kNot_bl, DL.y_eif, DL.kEif_t, DL.kEif_f, DL.y_aNil, DL.y_aCons, DL.kC1_ap, DL.kC2_ap, DL.y_aStar, DL.kS1_ap, DL.kS2_ap, DL.kS3_ap, DL.y_tup, DL.kTupl_ap, DL.kTup2_ap, DL.y_lst, DL.kLstl_ap, DL.kLst2_ap, DL.y_lstM, DL.kLstM_ap, DL.y_e1, DL.kE1_ap, DL.y_e2, DL.kE2_ap, DL.kE3_ap, DL.y_eL, DL.kL_f1, DL.kL_f2, DL.y_call, DL.kCall_ap, DL.y_meth, DL.kMe1_ap, DL.kMe2_ap, DL.y_chain, DL.kCh1_ap, DL.kCh2_ap, DL.kCh3_t, DL.kCh3_f, DL.y_pu1, DL.y_pu2, DL.add_int, DL.addI_int, DL.sub_int, DL.neg_int, DL.mul_int, DL.mod_int, DL.div_int, DL.lt_int, DL.le_int, DL.gt_int, DL.ge_int, DL.eq_int, DL.ne_int, DL.toint_int, DL.toint_bl, DL.tostr_str, DL.y_isN, DL.y_notN, DL.y_ixL, DL.y_ixT, DL.y_ixSc, DL.y_ixM0, DL.y_lenL, DL.y_lenT, DL.y_lenSc, DL.y_lenS, DL.y_listL, DL.y_listT, DL.y_listSc, DL.y_tupL, DL.y_tupT, DL.nds_cons, DL.nds_nil, DL.at0, DL.at1, DL.at2, DL.at3, DL.at4, DL.at5, DL.atM1, DL.atM2, DL.atM3, DL.y_fnD, DL.kFn_nx, DL.kFn_rt, DL.kFn_xc, DL.y_fnM, DL.kFnM_nx, DL.kFnM_rt, DL.kFnM_xc, DL.y_outC, DL.y_outC0, DL.y_callA, DL.is_ok, DL.is_bind, DL.is_sx, DL.is_nx, DL.nds_d, DL.seqw_tup, DL.seqw_lst, DL.seqw_scr, List.map_cons, List.map_nil, List.cons_append, List.nil_append, List.length_cons, List.length_nil, List.replicate_succ, List.replicate_zero, List.set_cons_zero, List.set_cons_succ, Nat.reduceSub, Nat.reduceAdd, DL.nd_d, DL.isNon, Bool.not_true, Bool.not_false, Option.map_some, Option.bind_some, List.isEmpty_cons, List.isEmpty_nil, decide_true, decide_false, if_true, if_false, ite_true, ite_false, true_and, Bool.false_eq_true, List.length_map, List.take_zero, List.all_nil, List.take_succ_cons, List.all_cons, Bool.and_true, and_true, and_self, Nat.reduceLeDiff, Int.reduceLT, Int.reduceLE, Int.reduceSub, Int.reduceAdd, Int.cast_ofNat_Int, Bool.false_bne, Bool.true_bne, DL.zsz, Nat.reduceLeDiff]
  exact h _ ⟨l, 0, 0, 1, 0, b, Int.le_refl _, rfl⟩
theorem poolA_is {l : List Int} {b : Int} {P : PV} {E : PX} (h : ∀ p, PoolIs p → P (.m 0) [p]) : (callA 2 g_pool [.d (.scr (l.map .int)), .d (.int b)] []).Is P E := by
  rw [y_callA (m := 2) (ws := [.d (.scr (l.map .int)), .d (.int b)]) rfl]
  exact pool_is h
def b_draw : SD := (sSeq (sIf (tAn (tb (e2 (pu2 dLe) (e2 ixw (eVar 0) (eC (.int 2))) (eC (.int 0)))) (tAn (tb (e2 (pu2 dLe) (e2 ixw (eVar 0) (eC (.int 4))) (eC (.int 0)))) (tb (e2 (pu2 dLt) (e2 ixw (eVar 0) (eC (.int 1))) (eL (f1 lenw) (aCons (e2 ixw (eVar 0) (eC (.int 0))) aNil)))))) (sSeq (sAsg (tgN 2) (e2 ixw (e2 ixw (eVar 0) (eC (.int 0))) (e2 ixw (eVar 0) (eC (.int 1)))))
    (sSeq (sAsg (tgS (eVar 0) (eC (.int 1))) (e2 (pu2 dAdd) (e2 ixw (eVar 0) (eC (.int 1))) (eC (.int 1))))
    (sSeq (sAsg (tgS (eVar 0) (eC (.int 3))) (e2 (pu2 dMod) (eL (f1 (pu1 dInt)) (aCons (e2 (pu2 dAdd) (e2 (pu2 dMul) (e2 ixw (eVar 0) (eC (.int 3))) (eC (.int 31))) (eVar 2)) aNil)) (eC (.int 2147483647))))
    (sSeq (sAsg (tgS (eVar 0) (eC (.int 4))) (eC (.int 7)))
    (sIf (tb (e2 (pu2 dGe) (eVar 2) (e2 (pu2 dPow) (eC (.int 10)) (eC (.int 18))))) (sAsg (tgS (eVar 0) (eC (.int 2))) (eVar 2)) sNext))))) sNext)
    (sSeq (sIf (tb (e2 (pu2 dGt) (e2 ixw (eVar 0) (eC (.int 2))) (eC (.int 0)))) (sSeq (sAsg (tgN 3) (e2 (pu2 dMod) (eL (f1 (pu1 dInt)) (aCons (e2 ixw (eVar 0) (eC (.int 2))) aNil)) (eVar 1)))
    (sSeq (sAsg (tgS (eVar 0) (eC (.int 2))) (e2 (pu2 dDiv) (e2 ixw (eVar 0) (eC (.int 2))) (eVar 1)))
    (sSeq (sAsg (tgS (eVar 0) (eC (.int 4))) (eC (.int 0)))
    (sRet (eVar 3))))) sNext)
    (sSeq (sAsg (tgS (eVar 0) (eC (.int 4))) (e2 (pu2 dSub) (e2 ixw (eVar 0) (eC (.int 4))) (eC (.int 1))))
    (sSeq (sAsg (tgS (eVar 0) (eC (.int 3))) (e2 (pu2 dMod) (eL (f1 (pu1 dInt)) (aCons (e2 (pu2 dAdd) (e2 (pu2 dMul) (e2 ixw (eVar 0) (eC (.int 3))) (eC (.int 48271))) (eC (.int 12345))) aNil)) (eC (.int 2147483647))))
    (sRet (e2 (pu2 dMod) (e2 (pu2 dMod) (eL (f1 (pu1 dInt)) (aCons (e2 (pu2 dAdd) (e2 (pu2 dMul) (e2 ixw (eVar 0) (eC (.int 3))) (eC (.int 69621))) (eC (.int 7919))) aNil)) (eC (.int 2147483647))) (eVar 1)))))))
def g_draw : FD := fnD b_draw 4
theorem mul_small {i j : Int} (h : -(2 ^ 64) < j ∧ j < 2 ^ 64) : dMul (.int i) (.int j) = some (.int (i * j)) := mul_int (by
  unfold mulOk
  rw [decide_eq_true h]
  simp)
theorem pow_18 : dPow (.int 10) (.int 18) = some (.int 1000000000000000000) := by
  show (if decide ((0 : Int) ≤ 18 ∧ (18 : Int) ≤ 1000000 ∧ (10 : Int).natAbs < 2 ^ 64) = true then some (D.int (10 ^ (18 : Int).toNat)) else none) = _
  rw [if_pos (by decide)]
  rfl
theorem lst0 {ws : List Wv} {M : Sto} : lstAt (.m 0) (.lst ws :: M) = some (0, ws) := rfl
section
variable {a b c d e f w : Wv} {env : Ev} {M : Sto} {Q : Ev → Sto → Prop} {E : PX}
theorem tg1 : (tgS (eVar 0) (eC (.int 1)) w (some (.m 0) :: env) (.lst [a, b, c, d, e, f] :: M)).Is Q E = Q (some (.m 0) :: env) (.lst [a, w, c, d, e, f] :: M) := rfl
theorem tg2 : (tgS (eVar 0) (eC (.int 2)) w (some (.m 0) :: env) (.lst [a, b, c, d, e, f] :: M)).Is Q E = Q (some (.m 0) :: env) (.lst [a, b, w, d, e, f] :: M) := rfl
theorem tg3 : (tgS (eVar 0) (eC (.int 3)) w (some (.m 0) :: env) (.lst [a, b, c, d, e, f] :: M)).Is Q E = Q (some (.m 0) :: env) (.lst [a, b, c, w, e, f] :: M) := rfl
theorem tg4 : (tgS (eVar 0) (eC (.int 4)) w (some (.m 0) :: env) (.lst [a, b, c, d, e, f] :: M)).Is Q E = Q (some (.m 0) :: env) (.lst [a, b, c, d, w, f] :: M) := rfl
end
section
variable {s : Int} {P : PV} {E : PX}
/-- what stands ahead of a draw's second half -/
theorem draw2 {l : List Int} {i a b c d : Int} {w2 w3 : Option Wv} (h0 : 0 < s) (hs : divOk s = true) (hi : 0 ≤ i) (hP : ∀ v p', 0 ≤ v → v < s → PoolIs p' → P (.d (.int v)) [p']) :
    ((sSeq (sIf (tb (e2 (pu2 dGt) (e2 ixw (eVar 0) (eC (.int 2))) (eC (.int 0)))) (sSeq (sAsg (tgN 3) (e2 (pu2 dMod) (eL (f1 (pu1 dInt)) (aCons (e2 ixw (eVar 0) (eC (.int 2))) aNil)) (eVar 1)))
    (sSeq (sAsg (tgS (eVar 0) (eC (.int 2))) (e2 (pu2 dDiv) (e2 ixw (eVar 0) (eC (.int 2))) (eVar 1)))
    (sSeq (sAsg (tgS (eVar 0) (eC (.int 4))) (eC (.int 0)))
    (sRet (eVar 3))))) sNext)
    (sSeq (sAsg (tgS (eVar 0) (eC (.int 4))) (e2 (pu2 dSub) (e2 ixw (eVar 0) (eC (.int 4))) (eC (.int 1))))
    (sSeq (sAsg (tgS (eVar 0) (eC (.int 3))) (e2 (pu2 dMod) (eL (f1 (pu1 dInt)) (aCons (e2 (pu2 dAdd) (e2 (pu2 dMul) (e2 ixw (eVar 0) (eC (.int 3))) (eC (.int 48271))) (eC (.int 12345))) aNil)) (eC (.int 2147483647))))
    (sRet (e2 (pu2 dMod) (e2 (pu2 dMod) (eL (f1 (pu1 dInt)) (aCons (e2 (pu2 dAdd) (e2 (pu2 dMul) (e2 ixw (eVar 0) (eC (.int 3))) (eC (.int 69621))) (eC (.int 7919))) aNil)) (eC (.int 2147483647))) (eVar 1)))))) [some (.m 0), some (.d (.int s)), w2, w3] [poolO l i a b c d]).Is (kFn 1 P E) nox := by
  unfold poolO
  by_cases ha : 0 < a
  · simp only [DL.oo_some, DL.oo_none, DL.kD_ap, DL.kX_ap, DL.y_next, DL.y_seq, DL.kSeq_nx, DL.kSeq_rt, DL.kSeq_bk, DL.kSeq_ct, DL.kSeq_xc, DL.y_expr, DL.kExpr_ap, DL.y_ret, DL.kRet_ap, DL.y_retN, DL.y_if, DL.kIf_t, DL.kIf_f, DL.y_never, DL.y_brk, DL.y_cnt, DL.y_asg, DL.kAsg_n, DL.kNx_ap, DL.y_par, DL.kPar_ap, DL.y_for, DL.kFor_its, DL.y_tgN, DL.y_tgT, DL.y_tgsC, DL.kGc_ap, DL.y_tgsN, DL.y_tb, DL.kTb_ap, DL.y_tru, DL.kTru_ap, DL.truw_non, DL.truw_bl, DL.truw_int, DL.truw_tup, DL.truw_lst, DL.truw_str, DL.y_nt, DL.kNt_ap, DL.y_an, DL.kAn_t, DL.kAn_f, DL.y_o, DL.kO_t, DL.kO_f, DL.y_yes, DL.y_c, DL.y_var0, DL.y_varS, DL.y_and, DL.kAnd_t, DL.kAnd_f, DL.y_or, DL.kOr_t, DL.kOr_f, DL.y_not, DL.kNot_bl, DL.y_eif, DL.kEif_t, DL.kEif_f, DL.y_aNil, DL.y_aCons, DL.kC1_ap, DL.kC2_ap, DL.y_aStar, DL.kS1_ap, DL.kS2_ap, DL.kS3_ap, DL.y_tup, DL.kTupl_ap, DL.kTup2_ap, DL.y_lst, DL.kLstl_ap, DL.kLst2_ap, DL.y_lstM, DL.kLstM_ap, DL.y_e1, DL.kE1_ap, DL.y_e2, DL.kE2_ap, DL.kE3_ap, DL.y_eL, DL.kL_f1, DL.kL_f2, DL.y_call, DL.kCall_ap, DL.y_meth, DL.kMe1_ap, DL.kMe2_ap, DL.y_chain, DL.kCh1_ap, DL.kCh2_ap, DL.kCh3_t, DL.kCh3_f, DL.y_pu1, DL.y_pu2, DL.add_int, DL.addI_int, DL.sub_int, DL.neg_int, DL.mul_int, DL.mod_int, DL.div_int, DL.lt_int, DL.le_int, DL.gt_int, DL.ge_int, DL.eq_int, DL.ne_int, DL.toint_int, DL.toint_bl, DL.tostr_str, DL.y_isN, DL.y_notN, DL.y_ixL, DL.y_ixT, DL.y_ixSc, DL.y_ixM0, DL.y_lenL, DL.y_lenT, DL.y_lenSc, DL.y_lenS, DL.y_listL, DL.y_listT, DL.y_listSc, DL.y_tupL, DL.y_tupT, DL.nds_cons, DL.nds_nil, DL.at0, DL.at1, DL.at2, DL.at3, DL.at4, DL.at5, DL.atM1, DL.atM2, DL.atM3, DL.y_fnD, DL.kFn_nx, DL.kFn_rt, DL.kFn_xc, DL.y_fnM, DL.kFnM_nx, DL.kFnM_rt, DL.kFnM_xc, DL.y_outC, DL.y_outC0, DL.y_callA, DL.is_ok, DL.is_bind, DL.is_sx, DL.is_nx, DL.nds_d, DL.seqw_tup, DL.seqw_lst, DL.seqw_scr, List.map_cons, List.map_nil, List.cons_append, List.nil_append, List.length_cons, List.length_nil, List.replicate_succ, List.replicate_zero, List.set_cons_zero, List.set_cons_succ, Nat.reduceSub, Nat.reduceAdd, DL.nd_d, DL.isNon, Bool.not_true, Bool.not_false, Option.map_some, Option.bind_some, List.isEmpty_cons, List.isEmpty_nil, decide_true, decide_false, if_true, if_false, ite_true, ite_false, true_and, Bool.false_eq_true, List.length_map, List.take_zero, List.all_nil, List.take_succ_cons, List.all_cons, Bool.and_true, and_true, and_self, Nat.reduceLeDiff, Int.reduceLT, Int.reduceLE, Int.reduceSub, Int.reduceAdd, Int.cast_ofNat_Int, Bool.false_bne, Bool.true_bne, DL.zsz, y_asgG, kAsg_g, ha, h0, hs, tg2, tg4, List.take_succ_cons, List.take_zero, List.all_cons, List.all_nil, Bool.and_true]
    exact ⟨rfl, hP _ _ (Int.emod_nonneg _ (by omega)) (Int.emod_lt_of_pos _ h0) ⟨l, i, _, b, 0, d, hi, rfl⟩⟩
  · simp only [DL.oo_some, DL.oo_none, DL.kD_ap, DL.kX_ap, DL.y_next, DL.y_seq, DL.kSeq_nx, DL.kSeq_rt, DL.kSeq_bk, DL.kSeq_ct, DL.kSeq_xc, DL.y_expr, DL.kExpr_ap, DL.y_ret, DL.kRet_ap, DL.y_retN, DL.y_if, DL.kIf_t, DL.kIf_f, DL.y_never, DL.y_brk, DL.y_cnt, DL.y_asg, DL.kAsg_n, DL.kNx_ap, DL.y_par, DL.kPar_ap, DL.y_for, DL.kFor_its, DL.y_tgN, DL.y_tgT, DL.y_tgsC, DL.kGc_ap, DL.y_tgsN, DL.y_tb, DL.kTb_ap, DL.y_tru, DL.kTru_ap, DL.truw_non, DL.truw_bl, DL.truw_int, DL.truw_tup, DL.truw_lst, DL.truw_str, DL.y_nt, DL.kNt_ap, DL.y_an, DL.kAn_t, DL.kAn_f, DL.y_o, DL.kO_t, DL.kO_f, DL.y_yes, DL.y_c, DL.y_var0, DL.y_varS, DL.y_and, DL.kAnd_t, DL.kAnd_f, DL.y_or, DL.kOr_t, DL.kOr_f, DL.y_not, DL.kNot_bl, DL.y_eif, DL.kEif_t, DL.kEif_f, DL.y_aNil, DL.y_aCons, DL.kC1_ap, DL.kC2_ap, DL.y_aStar, DL.kS1_ap, DL.kS2_ap, DL.kS3_ap, DL.y_tup, DL.kTupl_ap, DL.kTup2_ap, DL.y_lst, DL.kLstl_ap, DL.kLst2_ap, DL.y_lstM, DL.kLstM_ap, DL.y_e1, DL.kE1_ap, DL.y_e2, DL.kE2_ap, DL.kE3_ap, DL.y_eL, DL.kL_f1, DL.kL_f2, DL.y_call, DL.kCall_ap, DL.y_meth, DL.kMe1_ap, DL.kMe2_ap, DL.y_chain, DL.kCh1_ap, DL.kCh2_ap, DL.kCh3_t, DL.kCh3_f, DL.y_pu1, DL.y_pu2, DL.add_int, DL.addI_int, DL.sub_int, DL.neg_int, DL.mul_int, DL.mod_int, DL.div_int, DL.lt_int, DL.le_int, DL.gt_int, DL.ge_int, DL.eq_int, DL.ne_int, DL.toint_int, DL.toint_bl, DL.tostr_str, DL.y_isN, DL.y_notN, DL.y_ixL, DL.y_ixT, DL.y_ixSc, DL.y_ixM0, DL.y_lenL, DL.y_lenT, DL.y_lenSc, DL.y_lenS, DL.y_listL, DL.y_listT, DL.y_listSc, DL.y_tupL, DL.y_tupT, DL.nds_cons, DL.nds_nil, DL.at0, DL.at1, DL.at2, DL.at3, DL.at4, DL.at5, DL.atM1, DL.atM2, DL.atM3, DL.y_fnD, DL.kFn_nx, DL.kFn_rt, DL.kFn_xc, DL.y_fnM, DL.kFnM_nx, DL.kFnM_rt, DL.kFnM_xc, DL.y_outC, DL.y_outC0, DL.y_callA, DL.is_ok, DL.is_bind, DL.is_sx, DL.is_nx, DL.nds_d, DL.seqw_tup, DL.seqw_lst, DL.seqw_scr, List.map_cons, List.map_nil, List.cons_append, List.nil_append, List.length_cons, List.length_nil, List.replicate_succ, List.replicate_zero, List.set_cons_zero, List.set_cons_succ, Nat.reduceSub, Nat.reduceAdd, DL.nd_d, DL.isNon, Bool.not_true, Bool.not_false, Option.map_some, Option.bind_some, List.isEmpty_cons, List.isEmpty_nil, decide_true, decide_false, if_true, if_false, ite_true, ite_false, true_and, Bool.false_eq_true, List.length_map, List.take_zero, List.all_nil, List.take_succ_cons, List.all_cons, Bool.and_true, and_true, and_self, Nat.reduceLeDiff, Int.reduceLT, Int.reduceLE, Int.reduceSub, Int.reduceAdd, Int.cast_ofNat_Int, Bool.false_bne, Bool.true_bne, DL.zsz, y_asgG, kAsg_g, ha, h0, hs, tg3, tg4, mul_small (i := b) (j := 48271) (by decide), mul_small (j := 69621) (by decide), Int.reduceLT]
    exact ⟨rfl, hP _ _ (Int.emod_nonneg _ (by omega)) (Int.emod_lt_of_pos _ h0) ⟨l, i, _, _, _, d, hi, rfl⟩⟩
theorem draw_is {p : MO} (h0 : 0 < s) (hs : divOk s = true) (hp : PoolIs p) (hP : ∀ v p', 0 ≤ v → v < s → PoolIs p' → P (.d (.int v)) [p']) : (g_draw [.m 0, .d (.int s)] [p]).Is P E := by
  obtain ⟨l, i, a, b, c, d, hi, rfl⟩ := hp
  have k := fun {i' a' b' c' : Int} {w2 w3 : Option Wv} (hi' : 0 ≤ i') => draw2 (E := E) (l := l) (i := i') (a := a') (b := b') (c := c') (d := d) (w2 := w2) (w3 := w3) h0 hs hi' hP
  unfold poolO at k
  unfold g_draw b_draw poolO
  rw [y_fnD]
  by_cases h1 : a ≤ 0
  · by_cases h2 : c ≤ 0
    · by_cases h3 : i < l.length
      · have hx : L2.atI (List.map Wv.d (l.map D.int)) i = some (.d (.int l[i.toNat])) := by
          have e := atI_n (l := List.map Wv.d (l.map D.int)) (k := i.toNat) (by rw [List.length_map, List.length_map]; omega)
          rw [Int.toNat_of_nonneg hi] at e
          rw [e]
          simp only [List.getElem_map]
        rw [y_seq]
        generalize hk : kSeq _ _ _ = R
        by_cases h4 : (1000000000000000000 : Int) ≤ l[i.toNat]
        · simp only [DL.oo_some, DL.oo_none, DL.kD_ap, DL.kX_ap, DL.y_next, DL.y_seq, DL.kSeq_nx, DL.kSeq_rt, DL.kSeq_bk, DL.kSeq_ct, DL.kSeq_xc, DL.y_expr, DL.kExpr_ap, DL.y_ret, DL.kRet_ap, DL.y_retN, DL.y_if, DL.kIf_t, DL.kIf_f, DL.y_never, DL.y_brk, DL.y_cnt, DL.y_asg, DL.kAsg_n, DL.kNx_ap, DL.y_par, DL.kPar_ap, DL.y_for, DL.kFor_its, DL.y_tgN, DL.y_tgT, DL.y_tgsC, DL.kGc_ap, DL.y_tgsN, DL.y_tb, DL.kTb_ap, DL.y_tru, DL.kTru_ap, DL.truw_non, DL.truw_bl, DL.truw_int, DL.truw_tup, DL.truw_lst, DL.truw_str, DL.y_nt, DL.kNt_ap, DL.y_an, DL.kAn_t, DL.kAn_f, DL.y_o, DL.kO_t, DL.kO_f, DL.y_yes, DL.y_c, DL.y_var0, DL.y_varS, DL.y_and, DL.kAnd_t, DL.kAnd_f, DL.y_or, DL.kOr_t, DL.kOr_f, DL.y_not, DL.kNot_bl, DL.y_eif, DL.kEif_t, DL.kEif_f, DL.y_aNil, DL.y_aCons, DL.kC1_ap, DL.kC2_ap, DL.y_aStar, DL.kS1_ap, DL.kS2_ap, DL.kS3_ap, DL.y_tup, DL.kTupl_ap, DL.kTup2_ap, DL.y_lst, DL.kLstl_ap, DL.kLst2_ap, DL.y_lstM, DL.kLstM_ap, DL.y_e1, DL.kE1_ap, DL.y_e2, DL.kE2_ap, DL.kE3_ap, DL.y_eL, DL.kL_f1, DL.kL_f2, DL.y_call, DL.kCall_ap, DL.y_meth, DL.kMe1_ap, DL.kMe2_ap, DL.y_chain, DL.kCh1_ap, DL.kCh2_ap, DL.kCh3_t, DL.kCh3_f, DL.y_pu1, DL.y_pu2, DL.add_int, DL.addI_int, DL.sub_int, DL.neg_int, DL.mul_int, DL.mod_int, DL.div_int, DL.lt_int, DL.le_int, DL.gt_int, DL.ge_int, DL.eq_int, DL.ne_int, DL.toint_int, DL.toint_bl, DL.tostr_str, DL.y_isN, DL.y_notN, DL.y_ixL, DL.y_ixT, DL.y_ixSc, DL.y_ixM0, DL.y_lenL, DL.y_lenT, DL.y_lenSc, DL.y_lenS, DL.y_listL, DL.y_listT, DL.y_listSc, DL.y_tupL, DL.y_tupT, DL.nds_cons, DL.nds_nil, DL.at0, DL.at1, DL.at2, DL.at3, DL.at4, DL.at5, DL.atM1, DL.atM2, DL.atM3, DL.y_fnD, DL.kFn_nx, DL.kFn_rt, DL.kFn_xc, DL.y_fnM, DL.kFnM_nx, DL.kFnM_rt, DL.kFnM_xc, DL.y_outC, DL.y_outC0, DL.y_callA, DL.is_ok, DL.is_bind, DL.is_sx, DL.is_nx, DL.nds_d, DL.seqw_tup, DL.seqw_lst, DL.seqw_scr, List.map_cons, List.map_nil, List.cons_append, List.nil_append, List.length_cons, List.length_nil, List.replicate_succ, List.replicate_zero, List.set_cons_zero, List.set_cons_succ, Nat.reduceSub, Nat.reduceAdd, DL.nd_d, DL.isNon, Bool.not_true, Bool.not_false, Option.map_some, Option.bind_some, List.isEmpty_cons, List.isEmpty_nil, decide_true, decide_false, if_true, if_false, ite_true, ite_false, true_and, Bool.false_eq_true, List.length_map, List.take_zero, List.all_nil, List.take_succ_cons, List.all_cons, Bool.and_true, and_true, and_self, Nat.reduceLeDiff, Int.reduceLT, Int.reduceLE, Int.reduceSub, Int.reduceAdd, Int.cast_ofNat_Int, Bool.false_bne, Bool.true_bne, DL.zsz, y_asgG, kAsg_g, h1, h2, h3, h4, hx, tg1, tg2, tg3, tg4, mul_small (j := 31) (by decide), Int.reduceLT, pow_18]
          rw [← hk]
          exact k (by omega)
        · simp only [DL.oo_some, DL.oo_none, DL.kD_ap, DL.kX_ap, DL.y_next, DL.y_seq, DL.kSeq_nx, DL.kSeq_rt, DL.kSeq_bk, DL.kSeq_ct, DL.kSeq_xc, DL.y_expr, DL.kExpr_ap, DL.y_ret, DL.kRet_ap, DL.y_retN, DL.y_if, DL.kIf_t, DL.kIf_f, DL.y_never, DL.y_brk, DL.y_cnt, DL.y_asg, DL.kAsg_n, DL.kNx_ap, DL.y_par, DL.kPar_ap, DL.y_for, DL.kFor_its, DL.y_tgN, DL.y_tgT, DL.y_tgsC, DL.kGc_ap, DL.y_tgsN, DL.y_tb, DL.kTb_ap, DL.y_tru, DL.kTru_ap, DL.truw_non, DL.truw_bl, DL.truw_int, DL.truw_tup, DL.truw_lst, DL.truw_str, DL.y_nt, DL.kNt_ap, DL.y_an, DL.kAn_t, DL.kAn_f, DL.y_o, DL.kO_t, DL.kO_f, DL.y_yes, DL.y_c, DL.y_var0, DL.y_varS, DL.y_and, DL.kAnd_t, DL.kAnd_f, DL.y_or, DL.kOr_t, DL.kOr_f, DL.y_not, DL.kNot_bl, DL.y_eif, DL.kEif_t, DL.kEif_f, DL.y_aNil, DL.y_aCons, DL.kC1_ap, DL.kC2_ap, DL.y_aStar, DL.kS1_ap, DL.kS2_ap, DL.kS3_ap, DL.y_tup, DL.kTupl_ap, DL.kTup2_ap, DL.y_lst, DL.kLstl_ap, DL.kLst2_ap, DL.y_lstM, DL.kLstM_ap, DL.y_e1, DL.kE1_ap, DL.y_e2, DL.kE2_ap, DL.kE3_ap, DL.y_eL, DL.kL_f1, DL.kL_f2, DL.y_call, DL.kCall_ap, DL.y_meth, DL.kMe1_ap, DL.kMe2_ap, DL.y_chain, DL.kCh1_ap, DL.kCh2_ap, DL.kCh3_t, DL.kCh3_f, DL.y_pu1, DL.y_pu2, DL.add_int, DL.addI_int, DL.sub_int, DL.neg_int, DL.mul_int, DL.mod_int, DL.div_int, DL.lt_int, DL.le_int, DL.gt_int, DL.ge_int, DL.eq_int, DL.ne_int, DL.toint_int, DL.toint_bl, DL.tostr_str, DL.y_isN, DL.y_notN, DL.y_ixL, DL.y_ixT, DL.y_ixSc, DL.y_ixM0, DL.y_lenL, DL.y_lenT, DL.y_lenSc, DL.y_lenS, DL.y_listL, DL.y_listT, DL.y_listSc, DL.y_tupL, DL.y_tupT, DL.nds_cons, DL.nds_nil, DL.at0, DL.at1, DL.at2, DL.at3, DL.at4, DL.at5, DL.atM1, DL.atM2, DL.atM3, DL.y_fnD, DL.kFn_nx, DL.kFn_rt, DL.kFn_xc, DL.y_fnM, DL.kFnM_nx, DL.kFnM_rt, DL.kFnM_xc, DL.y_outC, DL.y_outC0, DL.y_callA, DL.is_ok, DL.is_bind, DL.is_sx, DL.is_nx, DL.nds_d, DL.seqw_tup, DL.seqw_lst, DL.seqw_scr, List.map_cons, List.map_nil, List.cons_append, List.nil_append, List.length_cons, List.length_nil, List.replicate_succ, List.replicate_zero, List.set_cons_zero, List.set_cons_succ, Nat.reduceSub, Nat.reduceAdd, DL.nd_d, DL.isNon, Bool.not_true, Bool.not_false, Option.map_some, Option.bind_some, List.isEmpty_cons, List.isEmpty_nil, decide_true, decide_false, if_true, if_false, ite_true, ite_false, true_and, Bool.false_eq_true, List.length_map, List.take_zero, List.all_nil, List.take_succ_cons, List.all_cons, Bool.and_true, and_true, and_self, Nat.reduceLeDiff, Int.reduceLT, Int.reduceLE, Int.reduceSub, Int.reduceAdd, Int.cast_ofNat_Int, Bool.false_bne, Bool.true_bne, DL.zsz, y_asgG, kAsg_g, h1, h2, h3, h4, hx, tg1, tg2, tg3, tg4, mul_small (j := 31) (by decide), Int.reduceLT, pow_18]
          rw [← hk]
          exact k (by omega)
      · rw [y_seq]
        generalize hk : kSeq _ _ _ = R
        simp only [DL.oo_some, DL.oo_none, DL.kD_ap, DL.kX_ap, DL.y_next, DL.y_seq, DL.kSeq_nx, DL.kSeq_rt, DL.kSeq_bk, DL.kSeq_ct, DL.kSeq_xc, DL.y_expr, DL.kExpr_ap, DL.y_ret, DL.kRet_ap, DL.y_retN, DL.y_if, DL.kIf_t, DL.kIf_f, DL.y_never, DL.y_brk, DL.y_cnt, DL.y_asg, DL.kAsg_n, DL.kNx_ap, DL.y_par, DL.kPar_ap, DL.y_for, DL.kFor_its, DL.y_tgN, DL.y_tgT, DL.y_tgsC, DL.kGc_ap, DL.y_tgsN, DL.y_tb, DL.kTb_ap, DL.y_tru, DL.kTru_ap, DL.truw_non, DL.truw_bl, DL.truw_int, DL.truw_tup, DL.truw_lst, DL.truw_str, DL.y_nt, DL.kNt_ap, DL.y_an, DL.kAn_t, DL.kAn_f, DL.y_o, DL.kO_t, DL.kO_f, DL.y_yes, DL.y_c, DL.y_var0, DL.y_varS, DL.y_and, DL.kAnd_t, DL.kAnd_f, DL.y_or, DL.kOr_t, DL.kOr_f, DL.y_not, DL.kNot_bl, DL.y_eif, DL.kEif_t, DL.kEif_f, DL.y_aNil, DL.y_aCons, DL.kC1_ap, DL.kC2_ap, DL.y_aStar, DL.kS1_ap, DL.kS2_ap, DL.kS3_ap, DL.y_tup, DL.kTupl_ap, DL.kTup2_ap, DL.y_lst, DL.kLstl_ap, DL.kLst2_ap, DL.y_lstM, DL.kLstM_ap, DL.y_e1, DL.kE1_ap, DL.y_e2, DL.kE2_ap, DL.kE3_ap, DL.y_eL, DL.kL_f1, DL.kL_f2, DL.y_call, DL.kCall_ap, DL.y_meth, DL.kMe1_ap, DL.kMe2_ap, DL.y_chain, DL.kCh1_ap, DL.kCh2_ap, DL.kCh3_t, DL.kCh3_f, DL.y_pu1, DL.y_pu2, DL.add_int, DL.addI_int, DL.sub_int, DL.neg_int, DL.mul_int, DL.mod_int, DL.div_int, DL.lt_int, DL.le_int, DL.gt_int, DL.ge_int, DL.eq_int, DL.ne_int, DL.toint_int, DL.toint_bl, DL.tostr_str, DL.y_isN, DL.y_notN, DL.y_ixL, DL.y_ixT, DL.y_ixSc, DL.y_ixM0, DL.y_lenL, DL.y_lenT, DL.y_lenSc, DL.y_lenS, DL.y_listL, DL.y_listT, DL.y_listSc, DL.y_tupL, DL.y_tupT, DL.nds_cons, DL.nds_nil, DL.at0, DL.at1, DL.at2, DL.at3, DL.at4, DL.at5, DL.atM1, DL.atM2, DL.atM3, DL.y_fnD, DL.kFn_nx, DL.kFn_rt, DL.kFn_xc, DL.y_fnM, DL.kFnM_nx, DL.kFnM_rt, DL.kFnM_xc, DL.y_outC, DL.y_outC0, DL.y_callA, DL.is_ok, DL.is_bind, DL.is_sx, DL.is_nx, DL.nds_d, DL.seqw_tup, DL.seqw_lst, DL.seqw_scr, List.map_cons, List.map_nil, List.cons_append, List.nil_append, List.length_cons, List.length_nil, List.replicate_succ, List.replicate_zero, List.set_cons_zero, List.set_cons_succ, Nat.reduceSub, Nat.reduceAdd, DL.nd_d, DL.isNon, Bool.not_true, Bool.not_false, Option.map_some, Option.bind_some, List.isEmpty_cons, List.isEmpty_nil, decide_true, decide_false, if_true, if_false, ite_true, ite_false, true_and, Bool.false_eq_true, List.length_map, List.take_zero, List.all_nil, List.take_succ_cons, List.all_cons, Bool.and_true, and_true, and_self, Nat.reduceLeDiff, Int.reduceLT, Int.reduceLE, Int.reduceSub, Int.reduceAdd, Int.cast_ofNat_Int, Bool.false_bne, Bool.true_bne, DL.zsz, h1, h2, h3]
        rw [← hk]
        exact k hi
    · rw [y_seq]
      generalize hk : kSeq _ _ _ = R
      simp only [DL.oo_some, DL.oo_none, DL.kD_ap, DL.kX_ap, DL.y_next, DL.y_seq, DL.kSeq_nx, DL.kSeq_rt, DL.kSeq_bk, DL.kSeq_ct, DL.kSeq_xc, DL.y_expr, DL.kExpr_ap, DL.y_ret, DL.kRet_ap, DL.y_retN, DL.y_if, DL.kIf_t, DL.kIf_f, DL.y_never, DL.y_brk, DL.y_cnt, DL.y_asg, DL.kAsg_n, DL.kNx_ap, DL.y_par, DL.kPar_ap, DL.y_for, DL.kFor_its, DL.y_tgN, DL.y_tgT, DL.y_tgsC, DL.kGc_ap, DL.y_tgsN, DL.y_tb, DL.kTb_ap, DL.y_tru, DL.kTru_ap, DL.truw_non, DL.truw_bl, DL.truw_int, DL.truw_tup, DL.truw_lst, DL.truw_str, DL.y_nt, DL.kNt_ap, DL.y_an, DL.kAn_t, DL.kAn_f, DL.y_o, DL.kO_t, DL.kO_f, DL.y_yes, DL.y_c, DL.y_var0, DL.y_varS, DL.y_and, DL.kAnd_t, DL.kAnd_f, DL.y_or, DL.kOr_t, DL.kOr_f, DL.y_not, DL.kNot_bl, DL.y_eif, DL.kEif_t, DL.kEif_f, DL.y_aNil, DL.y_aCons, DL.kC1_ap, DL.kC2_ap, DL.y_aStar, DL.kS1_ap, DL.kS2_ap, DL.kS3_ap, DL.y_tup, DL.kTupl_ap, DL.kTup2_ap, DL.y_lst, DL.kLstl_ap, DL.kLst2_ap, DL.y_lstM, DL.kLstM_ap, DL.y_e1, DL.kE1_ap, DL.y_e2, DL.kE2_ap, DL.kE3_ap, DL.y_eL, DL.kL_f1, DL.kL_f2, DL.y_call, DL.kCall_ap, DL.y_meth, DL.kMe1_ap, DL.kMe2_ap, DL.y_chain, DL.kCh1_ap, DL.kCh2_ap, DL.kCh3_t, DL.kCh3_f, DL.y_pu1, DL.y_pu2, DL.add_int, DL.addI_int, DL.sub_int, DL.neg_int, DL.mul_int, DL.mod_int, DL.div_int, DL.lt_int, DL.le_int, DL.gt_int, DL.ge_int, DL.eq_int, DL.ne_int, DL.toint_int, DL.toint_bl, DL.tostr_str, DL.y_isN, DL.y_notN, DL.y_ixL, DL.y_ixT, DL.y_ixSc, DL.y_ixM0, DL.y_lenL, DL.y_lenT, DL.y_lenSc, DL.y_lenS, DL.y_listL, DL.y_listT, DL.y_listSc, DL.y_tupL, DL.y_tupT, DL.nds_cons, DL.nds_nil, DL.at0, DL.at1, DL.at2, DL.at3, DL.at4, DL.at5, DL.atM1, DL.atM2, DL.atM3, DL.y_fnD, DL.kFn_nx, DL.kFn_rt, DL.kFn_xc, DL.y_fnM, DL.kFnM_nx, DL.kFnM_rt, DL.kFnM_xc, DL.y_outC, DL.y_outC0, DL.y_callA, DL.is_ok, DL.is_bind, DL.is_sx, DL.is_nx, DL.nds_d, DL.seqw_tup, DL.seqw_lst, DL.seqw_scr, List.map_cons, List.map_nil, List.cons_append, List.nil_append, List.length_cons, List.length_nil, List.replicate_succ, List.replicate_zero, List.set_cons_zero, List.set_cons_succ, Nat.reduceSub, Nat.reduceAdd, DL.nd_d, DL.isNon, Bool.not_true, Bool.not_false, Option.map_some, Option.bind_some, List.isEmpty_cons, List.isEmpty_nil, decide_true, decide_false, if_true, if_false, ite_true, ite_false, true_and, Bool.false_eq_true, List.length_map, List.take_zero, List.all_nil, List.take_succ_cons, List.all_cons, Bool.and_true, and_true, and_self, Nat.reduceLeDiff, Int.reduceLT, Int.reduceLE, Int.reduceSub, Int.reduceAdd, Int.cast_ofNat_Int, Bool.false_bne, Bool.true_bne, DL.zsz, h1, h2]
      rw [← hk]
      exact k hi
  · rw [y_seq]
    generalize hk : kSeq _ _ _ = R
    simp only [DL.oo_some, DL.oo_none, DL.kD_ap, DL.kX_ap, DL.y_next, DL.y_seq, DL.kSeq_nx, DL.kSeq_rt, DL.kSeq_bk, DL.kSeq_ct, DL.kSeq_xc, DL.y_expr, DL.kExpr_ap, DL.y_ret, DL.kRet_ap, DL.y_retN, DL.y_if, DL.kIf_t, DL.kIf_f, DL.y_never, DL.y_brk, DL.y_cnt, DL.y_asg, DL.kAsg_n, DL.kNx_ap, DL.y_par, DL.kPar_ap, DL.y_for, DL.kFor_its, DL.y_tgN, DL.y_tgT, DL.y_tgsC, DL.kGc_ap, DL.y_tgsN, DL.y_tb, DL.kTb_ap, DL.y_tru, DL.kTru_ap, DL.truw_non, DL.truw_bl, DL.truw_int, DL.truw_tup, DL.truw_lst, DL.truw_str, DL.y_nt, DL.kNt_ap, DL.y_an, DL.kAn_t, DL.kAn_f, DL.y_o, DL.kO_t, DL.kO_f, DL.y_yes, DL.y_c, DL.y_var0, DL.y_varS, DL.y_and, DL.kAnd_t, DL.kAnd_f, DL.y_or, DL.kOr_t, DL.kOr_f, DL.y_not, DL.kNot_bl, DL.y_eif, DL.kEif_t, DL.kEif_f, DL.y_aNil, DL.y_aCons, DL.kC1_ap, DL.kC2_ap, DL.y_aStar, DL.kS1_ap, DL.kS2_ap, DL.kS3_ap, DL.y_tup, DL.kTupl_ap, DL.kTup2_ap, DL.y_lst, DL.kLstl_ap, DL.kLst2_ap, DL.y_lstM, DL.kLstM_ap, DL.y_e1, DL.kE1_ap, DL.y_e2, DL.kE2_ap, DL.kE3_ap, DL.y_eL, DL.kL_f1, DL.kL_f2, DL.y_call, DL.kCall_ap, DL.y_meth, DL.kMe1_ap, DL.kMe2_ap, DL.y_chain, DL.kCh1_ap, DL.kCh2_ap, DL.kCh3_t, DL.kCh3_f, DL.y_pu1, DL.y_pu2, DL.add_int, DL.addI_int, DL.sub_int, DL.neg_int, DL.mul_int, DL.mod_int, DL.div_int, DL.lt_int, DL.le_int, DL.gt_int, DL.ge_int, DL.eq_int, DL.ne_int, DL.toint_int, DL.toint_bl, DL.tostr_str, DL.y_isN, DL.y_notN, DL.y_ixL, DL.y_ixT, DL.y_ixSc, DL.y_ixM0, DL.y_lenL, DL.y_lenT, DL.y_lenSc, DL.y_lenS, DL.y_listL, DL.y_listT, DL.y_listSc, DL.y_tupL, DL.y_tupT, DL.nds_cons, DL.nds_nil, DL.at0, DL.at1, DL.at2, DL.at3, DL.at4, DL.at5, DL.atM1, DL.atM2, DL.atM3, DL.y_fnD, DL.kFn_nx, DL.kFn_rt, DL.kFn_xc, DL.y_fnM, DL.kFnM_nx, DL.kFnM_rt, DL.kFnM_xc, DL.y_outC, DL.y_outC0, DL.y_callA, DL.is_ok, DL.is_bind, DL.is_sx, DL.is_nx, DL.nds_d, DL.seqw_tup, DL.seqw_lst, DL.seqw_scr, List.map_cons, List.map_nil, List.cons_append, List.nil_append, List.length_cons, List.length_nil, List.replicate_succ, List.replicate_zero, List.set_cons_zero, List.set_cons_succ, Nat.reduceSub, Nat.reduceAdd, DL.nd_d, DL.isNon, Bool.not_true, Bool.not_false, Option.map_some, Option.bind_some, List.isEmpty_cons, List.isEmpty_nil, decide_true, decide_false, if_true, if_false, ite_true, ite_false, true_and, Bool.false_eq_true, List.length_map, List.take_zero, List.all_nil, List.take_succ_cons, List.all_cons, Bool.and_true, and_true, and_self, Nat.reduceLeDiff, Int.reduceLT, Int.reduceLE, Int.reduceSub, Int.reduceAdd, Int.cast_ofNat_Int, Bool.false_bne, Bool.true_bne, DL.zsz, h1]
    rw [← hk]
    exact k hi
theorem divOk_small (h0 : 0 < s) (h : s < 2 ^ 63) : divOk s = true := by
  unfold divOk
  rw [decide_eq_true h0, Bool.true_and]
  refine decide_eq_true ?_
  have : s.natAbs < 2 ^ 63 := by omega
  exact Nat.lt_of_lt_of_le ((Nat.log2_lt (by omega)).mpr this) (by decide)
/-- a draw from a def that holds the pool -/
theorem draw1 {p : MO} {M : Sto} (h0 : 0 < s) (h1 : s < 2 ^ 63) (hp : PoolIs p) (hP : ∀ v p', 0 ≤ v → v < s → PoolIs p' → P (.d (.int v)) (p' :: M)) : (callR 1 2 g_draw [.m 0, .d (.int s)] (p :: M)).Is P E :=
  Rs.Is.any <| call1 (xs := [.int s]) rfl hp.below (draw_is h0 (divOk_small h0 h1) hp fun v p' g1 g2 g3 => ⟨_, p', rfl, rfl, g3.below, hP v p' g1 g2 g3⟩) fun _ _ z => z
end
end DL

/-! Layer D: texts; _law_same. -/
namespace DL
open PySem
local macro_rules
  | `(tactic| simp! [$xs,*]) => `(tactic| simp (config := {implicitDefEqProofs := false}) only [DL.oo_some, DL.oo_none, DL.kD_ap, DL.kX_ap, DL.y_next, DL.y_seq, DL.kSeq_nx, DL.kSeq_rt, DL.kSeq_bk, DL.kSeq_ct, DL.kSeq_xc, DL.y_expr, DL.kExpr_ap, DL.y_ret, DL.kRet_ap, DL.y_retN, DL.y_if, DL.kIf_t, DL.kIf_f, DL.y_never, DL.y_brk, DL.y_cnt, DL.y_asg, DL.kAsg_n, DL.kNx_ap, DL.y_par, DL.kPar_ap, DL.y_for, DL.kFor_its, DL.y_tgN, DL.y_tgT, DL.y_tgsC, DL.kGc_ap, DL.y_tgsN, DL.y_tb, DL.kTb_ap, DL.y_tru, DL.kTru_ap, DL.truw_non, DL.truw_bl, DL.truw_int, DL.truw_tup, DL.truw_lst, DL.truw_str, DL.y_nt, DL.kNt_ap, DL.y_an, DL.kAn_t, DL.kAn_f, DL.y_o, DL.kO_t, DL.kO_f, DL.y_yes, DL.y_c, DL.y_var0, DL.y_varS, DL.y_and, DL.kAnd_t, DL.kAnd_f, DL.y_or, DL.kOr_t, DL.kOr_f, DL.y_not, DL.kNot_bl, DL.y_eif, DL.kEif_t, DL.kEif_f, DL.y_aNil, DL.y_aCons, DL.kC1_ap, DL.kC2_ap, DL.y_aStar, DL.kS1_ap, DL.kS2_ap, DL.kS3_ap, DL.y_tup, DL.kTupl_ap, DL.kTup2_ap, DL.y_lst, DL.kLstl_ap, DL.kLst2_ap, DL.y_lstM, DL.kLstM_ap, DL.y_e1, DL.kE1_ap, DL.y_e2, DL.kE2_ap, DL.kE3_ap, DL.y_eL, DL.kL_f1, DL.kL_f2, DL.y_call, DL.kCall_ap, DL.y_meth, DL.kMe1_ap, DL.kMe2_ap, DL.y_chain, DL.kCh1_ap, DL.kCh2_ap, DL.kCh3_t, DL.kCh3_f, DL.y_pu1, DL.y_pu2, DL.add_int, DL.addI_int, DL.sub_int, DL.neg_int, DL.mul_int, DL.mod_int, DL.div_int, DL.lt_int, DL.le_int, DL.gt_int, DL.ge_int, DL.eq_int, DL.ne_int, DL.toint_int, DL.toint_bl, DL.tostr_str, DL.y_isN, DL.y_notN, DL.y_ixL, DL.y_ixT, DL.y_ixSc, DL.y_ixM0, DL.y_lenL, DL.y_lenT, DL.y_lenSc, DL.y_lenS, DL.y_listL, DL.y_listT, DL.y_listSc, DL.y_tupL, DL.y_tupT, DL.nds_cons, DL.nds_nil, DL.at0, DL.at1, DL.at2, DL.at3, DL.at4, DL.at5, DL.atM1, DL.atM2, DL.atM3, DL.y_fnD, DL.kFn_nx, DL.kFn_rt, DL.kFn_xc, DL.y_fnM, DL.kFnM_nx, DL.kFnM_rt, DL.kFnM_xc, DL.y_outC, DL.y_outC0, DL.y_callA, DL.is_ok, DL.is_bind, DL.is_sx, DL.is_nx, DL.nds_d, DL.seqw_tup, DL.seqw_lst, DL.seqw_scr, List.map_cons, List.map_nil, List.cons_append, List.nil_append, List.length_cons, List.length_nil, List.replicate_succ, List.replicate_zero, List.set_cons_zero, List.set_cons_succ, Nat.reduceSub, Nat.reduceAdd, DL.nd_d, DL.isNon, Bool.not_true, Bool.not_false, Option.map_some, Option.bind_some, List.isEmpty_cons, List.isEmpty_nil, decide_true, decide_false, if_true, if_false, ite_true, ite_false, true_and, Bool.false_eq_true, List.length_map, List.take_zero, List.all_nil, List.take_succ_cons, List.all_cons, Bool.and_true, and_true, and_self, Nat.reduceLeDiff, Int.reduceLT, Int.reduceLE, Int.reduceSub, Int.reduceAdd, Int.cast_ofNat_Int, Bool.false_bne, Bool.true_bne, DL.zsz, $xs,*])
section
variable {a b : Str} {M : Sto} {P : PV} {E : PX}
theorem eq_str (ha : PyData.strOk a = true) (hb : PyData.strOk b = true) : dEq (.str a) (.str b) = some (.bl (decide (a = b))) := by
  have e1 : SeqAt.shaped (.str a) = true := by
    show (PyData.strOk a && decide (PyData.depth (.str a) ≤ 64)) = true
    rw [ha]; rfl
  have e2 : SeqAt.shaped (.str b) = true := by
    show (PyData.strOk b && decide (PyData.depth (.str b) ≤ 64)) = true
    rw [hb]; rfl
  show (if (SeqAt.shaped (.str a) && SeqAt.shaped (.str b)) = true then some (PyData.eqv (.str a) (.str b)) else none).map D.bl = _
  rw [e1, e2, if_pos (by rfl)]
  show some (D.bl (a == b)) = _
  congr 2
theorem add_lst {i j : List D} (h : i.length + j.length ≤ sizeLine) : dAdd (.lst i) (.lst j) = some (.lst (i ++ j)) := by
  show (if i.length + j.length ≤ sizeLine then some (D.lst (i ++ j)) else none) = _
  rw [if_pos h]
theorem ne_of_eq {x y : D} {k : Bool} (h : dEq x y = some (.bl k)) : dNe x y = some (.bl (!k)) := by
  unfold dEq at h
  unfold dNe
  cases q : peq x y with
  | none => rw [q] at h; cases h
  | some k' =>
    rw [q] at h
    simp only [Option.map_some, Option.some.injEq, D.bl.injEq] at h ⊢
    rw [h]
theorem ne_str (ha : PyData.strOk a = true) (hb : PyData.strOk b = true) : dNe (.str a) (.str b) = some (.bl (!decide (a = b))) := ne_of_eq (eq_str ha hb)
theorem eq_bl {a b : Bool} : dEq (.bl a) (.bl b) = some (.bl (decide (a = b))) := by
  cases a <;> cases b <;> rfl
theorem ne_bl {a b : Bool} : dNe (.bl a) (.bl b) = some (.bl (!decide (a = b))) := ne_of_eq eq_bl
theorem eq_non : dEq .non .non = some (.bl true) := rfl
/-- data that is equal to itself -/
theorem eqv_refl' : (∀ p : PyData, p.canLay0 = true → PyData.eqv p p = true) ∧ (∀ ps : List PyData, PyData.canLayAll0 ps = true → PyData.eqvAll ps ps = true) := by
  refine ⟨fun p => ?_, fun ps => ?_⟩
  · exact PyData.rec (motive_1 := fun p => p.canLay0 = true → PyData.eqv p p = true) (motive_2 := fun ps => PyData.canLayAll0 ps = true → PyData.eqvAll ps ps = true) (motive_3 := fun _ => True) (motive_4 := fun _ => True)
      (fun _ => rfl) (fun b _ => by show (b == b) = true; simp) (fun i _ => by show (i == i) = true; simp) (fun x _ => by show (x == x) = true; simp) (fun l ih h => ih h) (fun l ih h => ih h) (fun kvs _ h => by cases h)
      (fun _ => rfl) (fun x xs h1 h2 h => by
        have h' : (x.canLay0 && PyData.canLayAll0 xs) = true := h
        rw [Bool.and_eq_true] at h'
        show (PyData.eqv x x && PyData.eqvAll xs xs) = true
        rw [h1 h'.1, h2 h'.2]; rfl) trivial (fun _ _ _ _ => trivial) (fun _ _ _ _ => trivial) p
  · exact PyData.rec_1 (motive_1 := fun p => p.canLay0 = true → PyData.eqv p p = true) (motive_2 := fun ps => PyData.canLayAll0 ps = true → PyData.eqvAll ps ps = true) (motive_3 := fun _ => True) (motive_4 := fun _ => True)
      (fun _ => rfl) (fun b _ => by show (b == b) = true; simp) (fun i _ => by show (i == i) = true; simp) (fun x _ => by show (x == x) = true; simp) (fun l ih h => ih h) (fun l ih h => ih h) (fun kvs _ h => by cases h)
      (fun _ => rfl) (fun x xs h1 h2 h => by
        have h' : (x.canLay0 && PyData.canLayAll0 xs) = true := h
        rw [Bool.and_eq_true] at h'
        show (PyData.eqv x x && PyData.eqvAll xs xs) = true
        rw [h1 h'.1, h2 h'.2]; rfl) trivial (fun _ _ _ _ => trivial) (fun _ _ _ _ => trivial) ps
theorem eq_refl {x : D} {p : PyData} (h : x.toP = some p) (hs : SeqAt.shaped p = true) : dEq x x = some (.bl true) := by
  unfold dEq peq
  rw [h]
  simp only [hs, Bool.and_self, if_true]
  have : p.canLay0 = true := SeqAt.canLay_of_shaped hs
  rw [eqv_refl'.1 p this]
  rfl
theorem y_inT {neg : Bool} {w : Str} {xs : List Str} : (inw neg (.d (.str w)) (.d (.tup (xs.map .str))) M).Is P E = P (.d (.bl (neg != decide (w ∈ xs)))) M := by
  have h : inB (.d (.str w)) (.d (.tup (xs.map .str))) M = some (decide (w ∈ xs)) := by
    unfold inB
    simp only [nd_d, seqw_tup, nds_d, Option.bind_some]
    unfold inD
    have hf : (xs.map D.str).all flatD = true := by
      rw [List.all_map]
      exact List.all_eq_true.mpr fun _ _ => rfl
    rw [if_pos (by rw [hf]; rfl)]
    congr 1
    rw [List.any_map]
    show xs.any (fun y => y == w) = _
    rw [Bool.eq_iff_iff]
    simp
  unfold inw
  rw [h]
  rfl
theorem in2 {neg : Bool} {w a b : Str} : (inw neg (.d (.str w)) (.d (.tup [.str a, .str b])) M).Is P E = P (.d (.bl (neg != decide (w ∈ [a, b])))) M := y_inT (xs := [a, b])
theorem y_in0 {neg : Bool} {w : Str} : (inw neg (.d (.str w)) (.d (.tup [])) M).Is P E = P (.d (.bl (neg != false))) M := y_inT (xs := [])
theorem y_inC {neg : Bool} {c : Nat} {s : Str} : (inw neg (.d (.str ⟨#[c]⟩)) (.d (.str s)) M).Is P E = P (.d (.bl (neg != decide (c ∈ s.cps.toList)))) M := rfl
end
/-! ### _law_same -/
section
variable (ts : List Nat)
def b_same (r : FD) : SD :=
    (sSeq (sIf (tO (tTru (e1 (isiw (isTb kTup ts)) (eVar 1))) (tTru (e1 (isiw (isTb kLst ts)) (eVar 1)))) (sSeq (sIf (tO (tb (e2 (pu2 dNe) (e1 (isiw (isTb kTup ts)) (eVar 1)) (e1 (isiw (isTb kTup ts)) (eVar 0)))) (tb (e2 (pu2 dNe) (e1 (isiw (isTb kLst ts)) (eVar 1)) (e1 (isiw (isTb kLst ts)) (eVar 0))))) (sRet (eC (.bl false))) sNext)
    (sSeq (sIf (tb (e2 (pu2 dNe) (eL (f1 lenw) (aCons (eVar 0) aNil)) (eL (f1 lenw) (aCons (eVar 1) aNil)))) (sRet (eC (.bl false))) sNext)
    (sSeq (sFor (iR1 (aCons (eL (f1 lenw) (aCons (eVar 1) aNil)) aNil)) (tgN 2) (sIf (tNt (tTru (eCall (callR 0 2 r) [] (aCons (e2 ixw (eVar 0) (eVar 2)) (aCons (e2 ixw (eVar 1) (eVar 2)) aNil))))) (sRet (eC (.bl false))) sNext))
    (sRet (eC (.bl true)))))) sNext)
    (sSeq (sIf (tO (tb (e2 (isN) (eVar 1) (eC .non))) (tTru (e1 (isiw (isTb kBl ts)) (eVar 1)))) (sRet (eAnd (e2 (pu2 dEq) (e2 (isN) (eVar 0) (eC .non)) (e2 (isN) (eVar 1) (eC .non))) (eAnd (eOr (e2 (isN) (eVar 1) (eC .non)) (e1 (isiw (isTb kBl ts)) (eVar 0))) (e2 (pu2 dEq) (eVar 0) (eVar 1))))) sNext)
    (sSeq (sIf (tTru (e1 (isiw (isTb kInt ts)) (eVar 1))) (sRet (eAnd (e1 (isiw (isTb kInt ts)) (eVar 0)) (eAnd (eNot (e1 (isiw (isTb kBl ts)) (eVar 0))) (e2 (pu2 dEq) (eVar 0) (eVar 1))))) sNext)
    (sRet (eAnd (e1 (isiw (isTb kStr ts)) (eVar 0)) (e2 (pu2 dEq) (eVar 0) (eVar 1)))))))
def g_same : Nat → FD
  | 0 => fun _ _ => .no
  | n + 1 => fnD (b_same ts (g_same n)) 3
end
/-- plain data, n deep: _law_same says True of it and itself -/
def plain : Nat → D → Prop
  | _, .non => True
  | _, .bl _ => True
  | _, .int _ => True
  | _, .str a => PyData.strOk a = true
  | n + 1, .tup l => l.length ≤ sizeLine ∧ ∀ x ∈ l, plain n x
  | n + 1, .lst l => l.length ≤ sizeLine ∧ ∀ x ∈ l, plain n x
  | _, _ => False
section
variable {ts : List Nat} {M : Sto} {P : PV} {E : PX}
theorem y_isi {f : D → Bool} {x : D} (h : (∃ t ns l, x = .obj t ns l) → False) : (isiw (isTb f ts) (.d x) M).Is P E = P (.d (.bl (f x))) M := by
  cases x with
  | obj t ns l => exact (h ⟨t, ns, l, rfl⟩).elim
  | _ => rfl
theorem yi_tup {f : D → Bool} {l : List D} : (isiw (isTb f ts) (.d (.tup l)) M).Is P E = P (.d (.bl (f (.tup l)))) M := rfl
theorem yi_lst {f : D → Bool} {l : List D} : (isiw (isTb f ts) (.d (.lst l)) M).Is P E = P (.d (.bl (f (.lst l)))) M := rfl
theorem yi_int {f : D → Bool} {i : Int} : (isiw (isTb f ts) (.d (.int i)) M).Is P E = P (.d (.bl (f (.int i)))) M := rfl
theorem yi_str {f : D → Bool} {i : Str} : (isiw (isTb f ts) (.d (.str i)) M).Is P E = P (.d (.bl (f (.str i)))) M := rfl
theorem yi_bl {f : D → Bool} {i : Bool} : (isiw (isTb f ts) (.d (.bl i)) M).Is P E = P (.d (.bl (f (.bl i)))) M := rfl
theorem yi_non {f : D → Bool} : (isiw (isTb f ts) (.d .non) M).Is P E = P (.d (.bl (f .non))) M := rfl
/-! ranges -/
def kR1 (P : Src → Sto → Prop) (E : PX) : PL := fun ws M => match ws with
  | [.d (.int j)] => (rngw 0 j M).Is P E
  | _ => False
def kR2 (P : Src → Sto → Prop) (E : PX) : PL := fun ws M => match ws with
  | [.d (.int i), .d (.int j)] => (rngw i j M).Is P E
  | _ => False
theorem y_r1 {me : AD} {env : Ev} {P : Src → Sto → Prop} : (iR1 me env M).Is P E = (me env M).Is (kR1 P E) E := by
  unfold iR1
  rw [is_bind]
  congr
  funext ws M1
  unfold kR1
  split <;> (try split) <;> simp_all [is_no]
theorem kR1_ap {j : Int} {P : Src → Sto → Prop} : kR1 P E [.d (.int j)] M = (rngw 0 j M).Is P E := rfl
theorem y_r2 {me : AD} {env : Ev} {P : Src → Sto → Prop} : (iR2 me env M).Is P E = (me env M).Is (kR2 P E) E := by
  unfold iR2
  rw [is_bind]
  congr
  funext ws M1
  unfold kR2
  split <;> (try split) <;> simp_all [is_no]
theorem kR2_ap {i j : Int} {P : Src → Sto → Prop} : kR2 P E [.d (.int i), .d (.int j)] M = (rngw i j M).Is P E := rfl
def rngL (lo : Int) (n : Nat) : List Wv := (List.range n).map fun (i : Nat) => .d (.int (lo + i))
theorem rngL_len {lo : Int} {n : Nat} : (rngL lo n).length = n := by rw [rngL, List.length_map, List.length_range]
theorem rngL_get {lo : Int} {n i : Nat} (h : i < n) : (rngL lo n)[i]? = some (.d (.int (lo + i))) := by
  rw [rngL, List.getElem?_map, List.getElem?_range h]
  rfl
theorem rng_is {i j : Int} {P : Src → Sto → Prop} (h1 : -(2 ^ 62) ≤ i ∧ i < 2 ^ 62) (h2 : -(2 ^ 62) ≤ j ∧ j < 2 ^ 62) : (rngw i j M).Is P E = P (.its (rngL i (j - i).toNat)) M := by
  unfold rngw
  rw [shut_eq, if_pos (decide_eq_true ⟨h1.1, h1.2, h2.1, h2.2⟩)]
  rfl
theorem rng0_is {n : Nat} {P : Src → Sto → Prop} (h : n ≤ sizeLine) : (rngw 0 (n : Int) M).Is P E = P (.its (rngL 0 n)) M := by
  have : n < 2 ^ 62 := Nat.lt_of_le_of_lt h (by decide)
  rw [rng_is (by decide) ⟨by omega, by omega⟩]
  have e : ((n : Int) - 0).toNat = n := by omega
  rw [e]
def sameC (ts : List Nat) (n : Nat) (x : D) : Prop := g_same ts n [.d x, .d x] [] = .ok (.d (.bl true)) []
theorem same_of {n : Nat} {x : D} (h : (g_same ts n [.d x, .d x] []).Is (fun w M => w = .d (.bl true) ∧ M = []) nox) : sameC ts n x := by
  obtain ⟨w, M, e, rfl, rfl⟩ := h.out
  exact e
theorem same_loop {n : Nat} {l : List D} (hl : l.length ≤ sizeLine) (ih : ∀ x ∈ l, sameC ts n x) (x : D) (hx : x = .tup l ∨ x = .lst l) : sameC ts (n + 1) x := by
  have hlen : ∀ (P : PV) (E : PX), (lenw (.d x) []).Is P E = P (.d (.int l.length)) [] := fun P E => by
    rcases hx with rfl | rfl
    · exact y_lenT
    · exact y_lenL
  have hix : ∀ (P : PV) (E : PX) (i : Int), (ixw (.d x) (.d (.int i)) []).Is P E = oo (L2.atI (l.map .d) i) P [] := fun P E i => by
    rcases hx with rfl | rfl
    · exact y_ixT
    · exact y_ixL
  have hit : ∀ (P : PV) (E : PX) (M : Sto) (f : D → Bool), (isiw (isTb f ts) (.d x) M).Is P E = P (.d (.bl (f x))) M := fun P E M f => by
    rcases hx with rfl | rfl <;> rfl
  have fin : ∀ P : PO, P (.nx [some (.d x), some (.d x), none]) [] → (∀ w, P (.nx [some (.d x), some (.d x), some w]) []) →
      (forS (.its (rngL 0 l.length)) (tgN 2) (sIf (tNt (tTru (eCall (callR 0 2 (g_same ts n)) [] (aCons (e2 ixw (eVar 0) (eVar 2)) (aCons (e2 ixw (eVar 1) (eVar 2)) aNil))))) (sRet (eC (.bl false))) sNext) (rngL 0 l.length).length 0 [some (.d x), some (.d x), none] []).Is P nox := fun P h0 h1 => by
    refine for_is (fun _ env M => M = [] ∧ ∃ o, env = [some (.d x), some (.d x), o]) (fun i w env M hw h => ?_) (fun env M h => ?_) _ _ _ _ (Nat.zero_add _) ⟨rfl, _, rfl⟩
    · obtain ⟨rfl, o, rfl⟩ := h
      have hi : i < l.length := by
        have := (List.getElem?_eq_some_iff.mp hw).1
        rw [rngL_len] at this
        exact this
      rw [rngL_get hi] at hw
      cases hw
      have hat : L2.atI (l.map Wv.d) (0 + (i : Int)) = some (.d l[i]) := by
        rw [Int.zero_add, atI_n (l := l.map Wv.d) (by rw [List.length_map]; exact hi), List.getElem_map]
      have hc : callR 0 2 (g_same ts n) [.d l[i], .d l[i]] [] = .ok (.d (.bl true)) [] := call0 (xs := [l[i], l[i]]) rfl (ih _ (List.getElem_mem hi))
      simp only [DL.oo_some, DL.oo_none, DL.kD_ap, DL.kX_ap, DL.y_next, DL.y_seq, DL.kSeq_nx, DL.kSeq_rt, DL.kSeq_bk, DL.kSeq_ct, DL.kSeq_xc, DL.y_expr, DL.kExpr_ap, DL.y_ret, DL.kRet_ap, DL.y_retN, DL.y_if, DL.kIf_t, DL.kIf_f, DL.y_never, DL.y_brk, DL.y_cnt, DL.y_asg, DL.kAsg_n, DL.kNx_ap, DL.y_par, DL.kPar_ap, DL.y_for, DL.kFor_its, DL.y_tgN, DL.y_tgT, DL.y_tgsC, DL.kGc_ap, DL.y_tgsN, DL.y_tb, DL.kTb_ap, DL.y_tru, DL.kTru_ap, DL.truw_non, DL.truw_bl, DL.truw_int, DL.truw_tup, DL.truw_lst, DL.truw_str, DL.y_nt, DL.kNt_ap, DL.y_an, DL.kAn_t, DL.kAn_f, DL.y_o, DL.kO_t, DL.kO_f, DL.y_yes, DL.y_c, DL.y_var0, DL.y_varS, DL.y_and, DL.kAnd_t, DL.kAnd_f, DL.y_or, DL.kOr_t, DL.kOr_f, DL.y_not, DL.kNot_bl, DL.y_eif, DL.kEif_t, DL.kEif_f, DL.y_aNil, DL.y_aCons, DL.kC1_ap, DL.kC2_ap, DL.y_aStar, DL.kS1_ap, DL.kS2_ap, DL.kS3_ap, DL.y_tup, DL.kTupl_ap, DL.kTup2_ap, DL.y_lst, DL.kLstl_ap, DL.kLst2_ap, DL.y_lstM, DL.kLstM_ap, DL.y_e1, DL.kE1_ap, DL.y_e2, DL.kE2_ap, DL.kE3_ap, DL.y_eL, DL.kL_f1, DL.kL_f2, DL.y_call, DL.kCall_ap, DL.y_meth, DL.kMe1_ap, DL.kMe2_ap, DL.y_chain, DL.kCh1_ap, DL.kCh2_ap, DL.kCh3_t, DL.kCh3_f, DL.y_pu1, DL.y_pu2, DL.add_int, DL.addI_int, DL.sub_int, DL.neg_int, DL.mul_int, DL.mod_int, DL.div_int, DL.lt_int, DL.le_int, DL.gt_int, DL.ge_int, DL.eq_int, DL.ne_int, DL.toint_int, DL.toint_bl, DL.tostr_str, DL.y_isN, DL.y_notN, DL.y_ixL, DL.y_ixT, DL.y_ixSc, DL.y_ixM0, DL.y_lenL, DL.y_lenT, DL.y_lenSc, DL.y_lenS, DL.y_listL, DL.y_listT, DL.y_listSc, DL.y_tupL, DL.y_tupT, DL.nds_cons, DL.nds_nil, DL.at0, DL.at1, DL.at2, DL.at3, DL.at4, DL.at5, DL.atM1, DL.atM2, DL.atM3, DL.y_fnD, DL.kFn_nx, DL.kFn_rt, DL.kFn_xc, DL.y_fnM, DL.kFnM_nx, DL.kFnM_rt, DL.kFnM_xc, DL.y_outC, DL.y_outC0, DL.y_callA, DL.is_ok, DL.is_bind, DL.is_sx, DL.is_nx, DL.nds_d, DL.seqw_tup, DL.seqw_lst, DL.seqw_scr, List.map_cons, List.map_nil, List.cons_append, List.nil_append, List.length_cons, List.length_nil, List.replicate_succ, List.replicate_zero, List.set_cons_zero, List.set_cons_succ, Nat.reduceSub, Nat.reduceAdd, DL.nd_d, DL.isNon, Bool.not_true, Bool.not_false, Option.map_some, Option.bind_some, List.isEmpty_cons, List.isEmpty_nil, decide_true, decide_false, if_true, if_false, ite_true, ite_false, true_and, Bool.false_eq_true, List.length_map, List.take_zero, List.all_nil, List.take_succ_cons, List.all_cons, Bool.and_true, and_true, and_self, Nat.reduceLeDiff, Int.reduceLT, Int.reduceLE, Int.reduceSub, Int.reduceAdd, Int.cast_ofNat_Int, Bool.false_bne, Bool.true_bne, DL.zsz, y_tgN, hix, hat, hc]
      exact ⟨_, rfl⟩
    · obtain ⟨rfl, o, rfl⟩ := h
      cases o with
      | none => exact h0
      | some w => exact h1 w
  refine same_of ?_
  rw [g_same, y_fnD, b_same]
  rcases hx with rfl | rfl
  · simp! [y_r1, kR1_ap, hlen, hix, hit, rng0_is hl, kTup, kLst, ne_bl, ne_int]
    refine fin _ ?_ fun w => ?_ <;> simp! [DL.is_ok]
  · simp! [y_r1, kR1_ap, hlen, hix, hit, rng0_is hl, kTup, kLst, ne_bl, ne_int]
    refine fin _ ?_ fun w => ?_ <;> simp! [DL.is_ok]
theorem same_plain : ∀ (n : Nat) (x : D), plain n x → ∀ k, n < k → sameC ts k x
  | n, x, h, k + 1, hk => by
    cases x with
    | non =>
      refine same_of ?_
      rw [g_same, y_fnD, b_same]
      simp only [DL.oo_some, DL.oo_none, DL.kD_ap, DL.kX_ap, DL.y_next, DL.y_seq, DL.kSeq_nx, DL.kSeq_rt, DL.kSeq_bk, DL.kSeq_ct, DL.kSeq_xc, DL.y_expr, DL.kExpr_ap, DL.y_ret, DL.kRet_ap, DL.y_retN, DL.y_if, DL.kIf_t, DL.kIf_f, DL.y_never, DL.y_brk, DL.y_cnt, DL.y_asg, DL.kAsg_n, DL.kNx_ap, DL.y_par, DL.kPar_ap, DL.y_for, DL.kFor_its, DL.y_tgN, DL.y_tgT, DL.y_tgsC, DL.kGc_ap, DL.y_tgsN, DL.y_tb, DL.kTb_ap, DL.y_tru, DL.kTru_ap, DL.truw_non, DL.truw_bl, DL.truw_int, DL.truw_tup, DL.truw_lst, DL.truw_str, DL.y_nt, DL.kNt_ap, DL.y_an, DL.kAn_t, DL.kAn_f, DL.y_o, DL.kO_t, DL.kO_f, DL.y_yes, DL.y_c, DL.y_var0, DL.y_varS, DL.y_and, DL.kAnd_t, DL.kAnd_f, DL.y_or, DL.kOr_t, DL.kOr_f, DL.y_not, DL.kNot_bl, DL.y_eif, DL.kEif_t, DL.kEif_f, DL.y_aNil, DL.y_aCons, DL.kC1_ap, DL.kC2_ap, DL.y_aStar, DL.kS1_ap, DL.kS2_ap, DL.kS3_ap, DL.y_tup, DL.kTupl_ap, DL.kTup2_ap, DL.y_lst, DL.kLstl_ap, DL.kLst2_ap, DL.y_lstM, DL.kLstM_ap, DL.y_e1, DL.kE1_ap, DL.y_e2, DL.kE2_ap, DL.kE3_ap, DL.y_eL, DL.kL_f1, DL.kL_f2, DL.y_call, DL.kCall_ap, DL.y_meth, DL.kMe1_ap, DL.kMe2_ap, DL.y_chain, DL.kCh1_ap, DL.kCh2_ap, DL.kCh3_t, DL.kCh3_f, DL.y_pu1, DL.y_pu2, DL.add_int, DL.addI_int, DL.sub_int, DL.neg_int, DL.mul_int, DL.mod_int, DL.div_int, DL.lt_int, DL.le_int, DL.gt_int, DL.ge_int, DL.eq_int, DL.ne_int, DL.toint_int, DL.toint_bl, DL.tostr_str, DL.y_isN, DL.y_notN, DL.y_ixL, DL.y_ixT, DL.y_ixSc, DL.y_ixM0, DL.y_lenL, DL.y_lenT, DL.y_lenSc, DL.y_lenS, DL.y_listL, DL.y_listT, DL.y_listSc, DL.y_tupL, DL.y_tupT, DL.nds_cons, DL.nds_nil, DL.at0, DL.at1, DL.at2, DL.at3, DL.at4, DL.at5, DL.atM1, DL.atM2, DL.atM3, DL.y_fnD, DL.kFn_nx, DL.kFn_rt, DL.kFn_xc, DL.y_fnM, DL.kFnM_nx, DL.kFnM_rt, DL.kFnM_xc, DL.y_outC, DL.y_outC0, DL.y_callA, DL.is_ok, DL.is_bind, DL.is_sx, DL.is_nx, DL.nds_d, DL.seqw_tup, DL.seqw_lst, DL.seqw_scr, List.map_cons, List.map_nil, List.cons_append, List.nil_append, List.length_cons, List.length_nil, List.replicate_succ, List.replicate_zero, List.set_cons_zero, List.set_cons_succ, Nat.reduceSub, Nat.reduceAdd, DL.nd_d, DL.isNon, Bool.not_true, Bool.not_false, Option.map_some, Option.bind_some, List.isEmpty_cons, List.isEmpty_nil, decide_true, decide_false, if_true, if_false, ite_true, ite_false, true_and, Bool.false_eq_true, List.length_map, List.take_zero, List.all_nil, List.take_succ_cons, List.all_cons, Bool.and_true, and_true, and_self, Nat.reduceLeDiff, Int.reduceLT, Int.reduceLE, Int.reduceSub, Int.reduceAdd, Int.cast_ofNat_Int, Bool.false_bne, Bool.true_bne, DL.zsz, yi_non, kTup, kLst, kBl, kInt, kStr, eq_bl, eq_non]
    | bl b =>
      refine same_of ?_
      rw [g_same, y_fnD, b_same]
      simp only [DL.oo_some, DL.oo_none, DL.kD_ap, DL.kX_ap, DL.y_next, DL.y_seq, DL.kSeq_nx, DL.kSeq_rt, DL.kSeq_bk, DL.kSeq_ct, DL.kSeq_xc, DL.y_expr, DL.kExpr_ap, DL.y_ret, DL.kRet_ap, DL.y_retN, DL.y_if, DL.kIf_t, DL.kIf_f, DL.y_never, DL.y_brk, DL.y_cnt, DL.y_asg, DL.kAsg_n, DL.kNx_ap, DL.y_par, DL.kPar_ap, DL.y_for, DL.kFor_its, DL.y_tgN, DL.y_tgT, DL.y_tgsC, DL.kGc_ap, DL.y_tgsN, DL.y_tb, DL.kTb_ap, DL.y_tru, DL.kTru_ap, DL.truw_non, DL.truw_bl, DL.truw_int, DL.truw_tup, DL.truw_lst, DL.truw_str, DL.y_nt, DL.kNt_ap, DL.y_an, DL.kAn_t, DL.kAn_f, DL.y_o, DL.kO_t, DL.kO_f, DL.y_yes, DL.y_c, DL.y_var0, DL.y_varS, DL.y_and, DL.kAnd_t, DL.kAnd_f, DL.y_or, DL.kOr_t, DL.kOr_f, DL.y_not, DL.kNot_bl, DL.y_eif, DL.kEif_t, DL.kEif_f, DL.y_aNil, DL.y_aCons, DL.kC1_ap, DL.kC2_ap, DL.y_aStar, DL.kS1_ap, DL.kS2_ap, DL.kS3_ap, DL.y_tup, DL.kTupl_ap, DL.kTup2_ap, DL.y_lst, DL.kLstl_ap, DL.kLst2_ap, DL.y_lstM, DL.kLstM_ap, DL.y_e1, DL.kE1_ap, DL.y_e2, DL.kE2_ap, DL.kE3_ap, DL.y_eL, DL.kL_f1, DL.kL_f2, DL.y_call, DL.kCall_ap, DL.y_meth, DL.kMe1_ap, DL.kMe2_ap, DL.y_chain, DL.kCh1_ap, DL.kCh2_ap, DL.kCh3_t, DL.kCh3_f, DL.y_pu1, DL.y_pu2, DL.add_int, DL.addI_int, DL.sub_int, DL.neg_int, DL.mul_int, DL.mod_int, DL.div_int, DL.lt_int, DL.le_int, DL.gt_int, DL.ge_int, DL.eq_int, DL.ne_int, DL.toint_int, DL.toint_bl, DL.tostr_str, DL.y_isN, DL.y_notN, DL.y_ixL, DL.y_ixT, DL.y_ixSc, DL.y_ixM0, DL.y_lenL, DL.y_lenT, DL.y_lenSc, DL.y_lenS, DL.y_listL, DL.y_listT, DL.y_listSc, DL.y_tupL, DL.y_tupT, DL.nds_cons, DL.nds_nil, DL.at0, DL.at1, DL.at2, DL.at3, DL.at4, DL.at5, DL.atM1, DL.atM2, DL.atM3, DL.y_fnD, DL.kFn_nx, DL.kFn_rt, DL.kFn_xc, DL.y_fnM, DL.kFnM_nx, DL.kFnM_rt, DL.kFnM_xc, DL.y_outC, DL.y_outC0, DL.y_callA, DL.is_ok, DL.is_bind, DL.is_sx, DL.is_nx, DL.nds_d, DL.seqw_tup, DL.seqw_lst, DL.seqw_scr, List.map_cons, List.map_nil, List.cons_append, List.nil_append, List.length_cons, List.length_nil, List.replicate_succ, List.replicate_zero, List.set_cons_zero, List.set_cons_succ, Nat.reduceSub, Nat.reduceAdd, DL.nd_d, DL.isNon, Bool.not_true, Bool.not_false, Option.map_some, Option.bind_some, List.isEmpty_cons, List.isEmpty_nil, decide_true, decide_false, if_true, if_false, ite_true, ite_false, true_and, Bool.false_eq_true, List.length_map, List.take_zero, List.all_nil, List.take_succ_cons, List.all_cons, Bool.and_true, and_true, and_self, Nat.reduceLeDiff, Int.reduceLT, Int.reduceLE, Int.reduceSub, Int.reduceAdd, Int.cast_ofNat_Int, Bool.false_bne, Bool.true_bne, DL.zsz, yi_bl, kTup, kLst, kBl, kInt, kStr, eq_bl, eq_non]
    | int i =>
      refine same_of ?_
      rw [g_same, y_fnD, b_same]
      simp only [DL.oo_some, DL.oo_none, DL.kD_ap, DL.kX_ap, DL.y_next, DL.y_seq, DL.kSeq_nx, DL.kSeq_rt, DL.kSeq_bk, DL.kSeq_ct, DL.kSeq_xc, DL.y_expr, DL.kExpr_ap, DL.y_ret, DL.kRet_ap, DL.y_retN, DL.y_if, DL.kIf_t, DL.kIf_f, DL.y_never, DL.y_brk, DL.y_cnt, DL.y_asg, DL.kAsg_n, DL.kNx_ap, DL.y_par, DL.kPar_ap, DL.y_for, DL.kFor_its, DL.y_tgN, DL.y_tgT, DL.y_tgsC, DL.kGc_ap, DL.y_tgsN, DL.y_tb, DL.kTb_ap, DL.y_tru, DL.kTru_ap, DL.truw_non, DL.truw_bl, DL.truw_int, DL.truw_tup, DL.truw_lst, DL.truw_str, DL.y_nt, DL.kNt_ap, DL.y_an, DL.kAn_t, DL.kAn_f, DL.y_o, DL.kO_t, DL.kO_f, DL.y_yes, DL.y_c, DL.y_var0, DL.y_varS, DL.y_and, DL.kAnd_t, DL.kAnd_f, DL.y_or, DL.kOr_t, DL.kOr_f, DL.y_not, DL.kNot_bl, DL.y_eif, DL.kEif_t, DL.kEif_f, DL.y_aNil, DL.y_aCons, DL.kC1_ap, DL.kC2_ap, DL.y_aStar, DL.kS1_ap, DL.kS2_ap, DL.kS3_ap, DL.y_tup, DL.kTupl_ap, DL.kTup2_ap, DL.y_lst, DL.kLstl_ap, DL.kLst2_ap, DL.y_lstM, DL.kLstM_ap, DL.y_e1, DL.kE1_ap, DL.y_e2, DL.kE2_ap, DL.kE3_ap, DL.y_eL, DL.kL_f1, DL.kL_f2, DL.y_call, DL.kCall_ap, DL.y_meth, DL.kMe1_ap, DL.kMe2_ap, DL.y_chain, DL.kCh1_ap, DL.kCh2_ap, DL.kCh3_t, DL.kCh3_f, DL.y_pu1, DL.y_pu2, DL.add_int, DL.addI_int, DL.sub_int, DL.neg_int, DL.mul_int, DL.mod_int, DL.div_int, DL.lt_int, DL.le_int, DL.gt_int, DL.ge_int, DL.eq_int, DL.ne_int, DL.toint_int, DL.toint_bl, DL.tostr_str, DL.y_isN, DL.y_notN, DL.y_ixL, DL.y_ixT, DL.y_ixSc, DL.y_ixM0, DL.y_lenL, DL.y_lenT, DL.y_lenSc, DL.y_lenS, DL.y_listL, DL.y_listT, DL.y_listSc, DL.y_tupL, DL.y_tupT, DL.nds_cons, DL.nds_nil, DL.at0, DL.at1, DL.at2, DL.at3, DL.at4, DL.at5, DL.atM1, DL.atM2, DL.atM3, DL.y_fnD, DL.kFn_nx, DL.kFn_rt, DL.kFn_xc, DL.y_fnM, DL.kFnM_nx, DL.kFnM_rt, DL.kFnM_xc, DL.y_outC, DL.y_outC0, DL.y_callA, DL.is_ok, DL.is_bind, DL.is_sx, DL.is_nx, DL.nds_d, DL.seqw_tup, DL.seqw_lst, DL.seqw_scr, List.map_cons, List.map_nil, List.cons_append, List.nil_append, List.length_cons, List.length_nil, List.replicate_succ, List.replicate_zero, List.set_cons_zero, List.set_cons_succ, Nat.reduceSub, Nat.reduceAdd, DL.nd_d, DL.isNon, Bool.not_true, Bool.not_false, Option.map_some, Option.bind_some, List.isEmpty_cons, List.isEmpty_nil, decide_true, decide_false, if_true, if_false, ite_true, ite_false, true_and, Bool.false_eq_true, List.length_map, List.take_zero, List.all_nil, List.take_succ_cons, List.all_cons, Bool.and_true, and_true, and_self, Nat.reduceLeDiff, Int.reduceLT, Int.reduceLE, Int.reduceSub, Int.reduceAdd, Int.cast_ofNat_Int, Bool.false_bne, Bool.true_bne, DL.zsz, yi_int, kTup, kLst, kBl, kInt, kStr, eq_bl, eq_int]
    | str a =>
      refine same_of ?_
      have ha : PyData.strOk a = true := by cases n <;> exact h
      rw [g_same, y_fnD, b_same]
      simp only [DL.oo_some, DL.oo_none, DL.kD_ap, DL.kX_ap, DL.y_next, DL.y_seq, DL.kSeq_nx, DL.kSeq_rt, DL.kSeq_bk, DL.kSeq_ct, DL.kSeq_xc, DL.y_expr, DL.kExpr_ap, DL.y_ret, DL.kRet_ap, DL.y_retN, DL.y_if, DL.kIf_t, DL.kIf_f, DL.y_never, DL.y_brk, DL.y_cnt, DL.y_asg, DL.kAsg_n, DL.kNx_ap, DL.y_par, DL.kPar_ap, DL.y_for, DL.kFor_its, DL.y_tgN, DL.y_tgT, DL.y_tgsC, DL.kGc_ap, DL.y_tgsN, DL.y_tb, DL.kTb_ap, DL.y_tru, DL.kTru_ap, DL.truw_non, DL.truw_bl, DL.truw_int, DL.truw_tup, DL.truw_lst, DL.truw_str, DL.y_nt, DL.kNt_ap, DL.y_an, DL.kAn_t, DL.kAn_f, DL.y_o, DL.kO_t, DL.kO_f, DL.y_yes, DL.y_c, DL.y_var0, DL.y_varS, DL.y_and, DL.kAnd_t, DL.kAnd_f, DL.y_or, DL.kOr_t, DL.kOr_f, DL.y_not, DL.kNot_bl, DL.y_eif, DL.kEif_t, DL.kEif_f, DL.y_aNil, DL.y_aCons, DL.kC1_ap, DL.kC2_ap, DL.y_aStar, DL.kS1_ap, DL.kS2_ap, DL.kS3_ap, DL.y_tup, DL.kTupl_ap, DL.kTup2_ap, DL.y_lst, DL.kLstl_ap, DL.kLst2_ap, DL.y_lstM, DL.kLstM_ap, DL.y_e1, DL.kE1_ap, DL.y_e2, DL.kE2_ap, DL.kE3_ap, DL.y_eL, DL.kL_f1, DL.kL_f2, DL.y_call, DL.kCall_ap, DL.y_meth, DL.kMe1_ap, DL.kMe2_ap, DL.y_chain, DL.kCh1_ap, DL.kCh2_ap, DL.kCh3_t, DL.kCh3_f, DL.y_pu1, DL.y_pu2, DL.add_int, DL.addI_int, DL.sub_int, DL.neg_int, DL.mul_int, DL.mod_int, DL.div_int, DL.lt_int, DL.le_int, DL.gt_int, DL.ge_int, DL.eq_int, DL.ne_int, DL.toint_int, DL.toint_bl, DL.tostr_str, DL.y_isN, DL.y_notN, DL.y_ixL, DL.y_ixT, DL.y_ixSc, DL.y_ixM0, DL.y_lenL, DL.y_lenT, DL.y_lenSc, DL.y_lenS, DL.y_listL, DL.y_listT, DL.y_listSc, DL.y_tupL, DL.y_tupT, DL.nds_cons, DL.nds_nil, DL.at0, DL.at1, DL.at2, DL.at3, DL.at4, DL.at5, DL.atM1, DL.atM2, DL.atM3, DL.y_fnD, DL.kFn_nx, DL.kFn_rt, DL.kFn_xc, DL.y_fnM, DL.kFnM_nx, DL.kFnM_rt, DL.kFnM_xc, DL.y_outC, DL.y_outC0, DL.y_callA, DL.is_ok, DL.is_bind, DL.is_sx, DL.is_nx, DL.nds_d, DL.seqw_tup, DL.seqw_lst, DL.seqw_scr, List.map_cons, List.map_nil, List.cons_append, List.nil_append, List.length_cons, List.length_nil, List.replicate_succ, List.replicate_zero, List.set_cons_zero, List.set_cons_succ, Nat.reduceSub, Nat.reduceAdd, DL.nd_d, DL.isNon, Bool.not_true, Bool.not_false, Option.map_some, Option.bind_some, List.isEmpty_cons, List.isEmpty_nil, decide_true, decide_false, if_true, if_false, ite_true, ite_false, true_and, Bool.false_eq_true, List.length_map, List.take_zero, List.all_nil, List.take_succ_cons, List.all_cons, Bool.and_true, and_true, and_self, Nat.reduceLeDiff, Int.reduceLT, Int.reduceLE, Int.reduceSub, Int.reduceAdd, Int.cast_ofNat_Int, Bool.false_bne, Bool.true_bne, DL.zsz, yi_str, kTup, kLst, kBl, kInt, kStr, eq_bl, eq_str ha ha]
    | tup l =>
      match n, h with
      | n + 1, h => exact same_loop h.1 (fun x hx => same_plain n x (h.2 x hx) k (by omega)) _ (.inl rfl)
    | lst l =>
      match n, h with
      | n + 1, h => exact same_loop h.1 (fun x hx => same_plain n x (h.2 x hx) k (by omega)) _ (.inr rfl)
    | dic _ _ => cases n <;> exact h.elim
    | obj _ _ _ => cases n <;> exact h.elim
    | scr _ => cases n <;> exact h.elim
/-- a call of _law_same by the same data twice -/
theorem same_call {n k : Nat} {x : D} (h : plain n x) (hk : n < k) : callR 0 2 (g_same ts k) [.d x, .d x] M = .ok (.d (.bl true)) M := call0 (xs := [x, x]) rfl (same_plain n x h k hk)
end
end DL

/-! Layer D: numbers as texts: digits_of. -/
namespace DL
open PySem
local macro_rules
  | `(tactic| simp! [$xs,*]) => `(tactic| simp (config := {implicitDefEqProofs := false}) only [DL.oo_some, DL.oo_none, DL.kD_ap, DL.kX_ap, DL.y_next, DL.y_seq, DL.kSeq_nx, DL.kSeq_rt, DL.kSeq_bk, DL.kSeq_ct, DL.kSeq_xc, DL.y_expr, DL.kExpr_ap, DL.y_ret, DL.kRet_ap, DL.y_retN, DL.y_if, DL.kIf_t, DL.kIf_f, DL.y_never, DL.y_brk, DL.y_cnt, DL.y_asg, DL.kAsg_n, DL.kNx_ap, DL.y_par, DL.kPar_ap, DL.y_for, DL.kFor_its, DL.y_tgN, DL.y_tgT, DL.y_tgsC, DL.kGc_ap, DL.y_tgsN, DL.y_tb, DL.kTb_ap, DL.y_tru, DL.kTru_ap, DL.truw_non, DL.truw_bl, DL.truw_int, DL.truw_tup, DL.truw_lst, DL.truw_str, DL.y_nt, DL.kNt_ap, DL.y_an, DL.kAn_t, DL.kAn_f, DL.y_o, DL.kO_t, DL.kO_f, DL.y_yes, DL.y_c, DL.y_var0, DL.y_varS, DL.y_and, DL.kAnd_t, DL.kAnd_f, DL.y_or, DL.kOr_t, DL.kOr_f, DL.y_not, DL.kNot_bl, DL.y_eif, DL.kEif_t, DL.kEif_f, DL.y_aNil, DL.y_aCons, DL.kC1_ap, DL.kC2_ap, DL.y_aStar, DL.kS1_ap, DL.kS2_ap, DL.kS3_ap, DL.y_tup, DL.kTupl_ap, DL.kTup2_ap, DL.y_lst, DL.kLstl_ap, DL.kLst2_ap, DL.y_lstM, DL.kLstM_ap, DL.y_e1, DL.kE1_ap, DL.y_e2, DL.kE2_ap, DL.kE3_ap, DL.y_eL, DL.kL_f1, DL.kL_f2, DL.y_call, DL.kCall_ap, DL.y_meth, DL.kMe1_ap, DL.kMe2_ap, DL.y_chain, DL.kCh1_ap, DL.kCh2_ap, DL.kCh3_t, DL.kCh3_f, DL.y_pu1, DL.y_pu2, DL.add_int, DL.addI_int, DL.sub_int, DL.neg_int, DL.mul_int, DL.mod_int, DL.div_int, DL.lt_int, DL.le_int, DL.gt_int, DL.ge_int, DL.eq_int, DL.ne_int, DL.toint_int, DL.toint_bl, DL.tostr_str, DL.y_isN, DL.y_notN, DL.y_ixL, DL.y_ixT, DL.y_ixSc, DL.y_ixM0, DL.y_lenL, DL.y_lenT, DL.y_lenSc, DL.y_lenS, DL.y_listL, DL.y_listT, DL.y_listSc, DL.y_tupL, DL.y_tupT, DL.nds_cons, DL.nds_nil, DL.at0, DL.at1, DL.at2, DL.at3, DL.at4, DL.at5, DL.atM1, DL.atM2, DL.atM3, DL.y_fnD, DL.kFn_nx, DL.kFn_rt, DL.kFn_xc, DL.y_fnM, DL.kFnM_nx, DL.kFnM_rt, DL.kFnM_xc, DL.y_outC, DL.y_outC0, DL.y_callA, DL.eq_bl, DL.ne_bl, DL.eq_non, DL.y_inT, DL.y_in0, DL.y_inC, DL.yi_tup, DL.yi_lst, DL.yi_int, DL.yi_str, DL.yi_bl, DL.yi_non, DL.y_r1, DL.kR1_ap, DL.y_r2, DL.kR2_ap, DL.is_ok, DL.is_bind, DL.is_sx, DL.is_nx, DL.nds_d, DL.seqw_tup, DL.seqw_lst, DL.seqw_scr, List.map_cons, List.map_nil, List.cons_append, List.nil_append, List.length_cons, List.length_nil, List.replicate_succ, List.replicate_zero, List.set_cons_zero, List.set_cons_succ, Nat.reduceSub, Nat.reduceAdd, DL.nd_d, DL.isNon, Bool.not_true, Bool.not_false, Option.map_some, Option.bind_some, List.isEmpty_cons, List.isEmpty_nil, decide_true, decide_false, if_true, if_false, ite_true, ite_false, true_and, Bool.false_eq_true, List.length_map, List.take_zero, List.all_nil, List.take_succ_cons, List.all_cons, Bool.and_true, and_true, and_self, Nat.reduceLeDiff, Int.reduceLT, Int.reduceLE, Int.reduceSub, Int.reduceAdd, Int.cast_ofNat_Int, Bool.false_bne, Bool.true_bne, DL.zsz, DL.kTup, DL.kLst, DL.kBl, DL.kInt, DL.kStr, $xs,*])
abbrev tl (x : Str) : List Nat := TL.tl x
abbrev numL (n : Nat) : List Nat := TL.numL n
/-- str(n) -/
def W (n : Nat) : Str := Str.ofString (toString ((n : Nat) : Int))
theorem tl_W (n : Nat) : tl (W n) = numL n := TL.tl_num n
theorem W_len (n : Nat) : (W n).length = (numL n).length := by rw [← tl_W]; exact TL.len_tl _
theorem W_ok (n : Nat) : PyData.strOk (W n) = true := by
  unfold PyData.strOk
  rw [← Array.all_toList]
  refine List.all_eq_true.mpr fun c hc => ?_
  have := TL.numL_digits n c (by show c ∈ numL n; rw [← tl_W]; exact hc)
  exact decide_eq_true (by omega)
theorem numL_pos (n : Nat) : 0 < (numL n).length := List.length_pos_iff.mpr (TL.numL_ne n)
theorem numL_head : ∀ n : Nat, 0 < n → ∃ c r, numL n = c :: r ∧ c ≠ 48 := by
  intro n
  induction n using Nat.strongRecOn with
  | _ n ih =>
    intro h
    by_cases h2 : n < 10
    · exact ⟨48 + n, [], TL.numL_lt h2, by omega⟩
    · obtain ⟨c, r, e, q⟩ := ih (n / 10) (by omega) (by omega)
      refine ⟨c, r ++ [48 + n % 10], ?_, q⟩
      show TL.numL n = _
      rw [TL.numL_step (by omega)]
      show numL (n / 10) ++ _ = _
      rw [e]
      rfl
theorem tostr_nat {n : Nat} (h : n < 2 ^ 1000) : dStr (.int (n : Int)) = some (.str (W n)) := by
  have : ((n : Int)).natAbs.log2 < 1920 := by
    rw [Int.natAbs_natCast]
    by_cases h0 : n = 0
    · subst h0; decide
    · exact Nat.lt_of_lt_of_le ((Nat.log2_lt h0).mpr h) (by decide)
  show (if ((n : Int)).natAbs.log2 < 1920 then some (D.str (toString (n : Int))) else none) = _
  rw [if_pos this]
  rfl
theorem toint_str {n : Nat} (h : n < 10 ^ 600) : dInt (.str (W n)) = some (.int (n : Int)) := by
  have hl : (numL n).length ≤ 600 := TL.numL_len (by decide) h
  show (if (W n).length ≤ 640 then (PySem.intText? (W n)).map D.int else none) = _
  rw [if_pos (by rw [W_len]; omega)]
  have : PySem.intText? (W n) = some (n : Int) := TL.int_num (by show (numL n).length ≤ 4300; omega)
  rw [this]
  rfl
section
variable {M : Sto} {P : PV} {E : PX} {s : Str}
theorem y_ixS {i : Int} (h : s.length ≤ sizeLine) : (ixw (.d (.str s)) (.d (.int i)) M).Is P E = oo (L2.atI s.cps.toList i) (fun c M => P (.d (.str ⟨#[c]⟩)) M) M := by
  unfold ixw
  show (match (none : Option (Bool × List Wv)) with
    | some (_, ws) => match L2.atI ws i with
      | some x => .ok x M
      | none => .no
    | none => if s.length ≤ sizeLine then match L2.atI s.cps.toList i with
          | some c => .ok (.d (.str ⟨#[c]⟩)) M
          | none => .no
        else .no : Rs Wv).Is P E = _
  simp only []
  rw [if_pos h]
  cases L2.atI s.cps.toList i <;> rfl
/-- all([char in TEXT for char in s]) -/
theorem chars_in {env : Ev} {me : ED} {j : Nat} {te : ED} {z : Str} (hz : ∀ c ∈ s.cps.toList, c ∈ z.cps.toList) (hl : s.length ≤ sizeLine) (hm : me env M = .ok (.d (.str s)) M)
    (ht : ∀ c, te ((wipeE env [j]).set j (some (.d (.str ⟨#[c]⟩)))) M = .ok (.d (.bl (decide (c ∈ z.cps.toList)))) M) :
    eLc finF (iSeq me) (tgN j) tYesD te [j] env M = .ok (.d (.lst ((s.cps.toList.map fun _ => true).map .bl))) M := by
  have := eLc_map (tg := tgN j) (te := te) (src := iSeq me) (vs := [j]) (env := env) (M := M) (M1 := M) (fun c => .d (.str ⟨#[c]⟩)) (fun c => .bl (decide (c ∈ z.cps.toList))) s.cps.toList (by
    unfold iSeq
    rw [hm]
    rfl) (fun c _ => ⟨_, rfl, ht c⟩) (by rw [show s.cps.toList.length = s.length from (TL.len_tl s).symm]; exact hl)
  rw [this]
  have e : s.cps.toList.map (fun c => D.bl (decide (c ∈ z.cps.toList))) = (s.cps.toList.map fun _ => true).map .bl := by
    rw [List.map_map]
    refine List.map_congr_left fun c hc => ?_
    show D.bl _ = D.bl true
    rw [decide_eq_true (hz c hc)]
  rw [e]
theorem all_true (α : Type) (l : List α) : dAll ((l.map fun _ => true).map .bl) = some (.bl true) := by
  unfold dAll
  rw [blsOf_map]
  show some (D.bl ((l.map fun _ => true).all _root_.id)) = _
  congr 2
  rw [List.all_map]
  exact List.all_eq_true.mpr fun _ _ => rfl
theorem y_fLst {f : List D → Option D} {l : List D} : (fLst f (.d (.lst l)) M).Is P E = oo (f l) (kD P) M := by
  unfold fLst
  simp only [seqw_lst, nds_d]
  cases f l <;> rfl
end
def b_digits : SD :=
    (sSeq (sIf (tO (tNt (tb (eChain (pu2 dLt) (pu2 dLe) (eC (.int 0)) (eL (f1 lenw) (aCons (eVar 0) aNil)) (eVar 1)))) (tNt (tTru (eL (f1 (fLst dAll)) (aCons (eLc finF (iSeq (eVar 0)) (tgN 2) tYesD (e2 (inw false) (eVar 2) (eC (.str "0123456789"))) [2]) aNil))))) (sRet (eC .non)) sNext)
    (sSeq (sIf (tAn (tb (e2 (pu2 dEq) (e2 ixw (eVar 0) (eC (.int 0))) (eC (.str "0")))) (tb (e2 (pu2 dNe) (eVar 0) (eC (.str "0"))))) (sRet (eC .non)) sNext)
    (sRet (eL (f1 (pu1 dInt)) (aCons (eVar 0) aNil)))))
def g_digits : FD := fnD b_digits 3
theorem digs : ("0123456789" : Str).cps.toList = [48, 49, 50, 51, 52, 53, 54, 55, 56, 57] := by decide +kernel
theorem zero_str : ("0" : Str) = ⟨#[48]⟩ := by decide +kernel
theorem str1 {c : Nat} {s : Str} (h : tl s = [c]) : s = ⟨#[c]⟩ := TL.ext_tl h
theorem digits_is {n : Nat} {k : Nat} (hk : 0 < k) (hk2 : k ≤ 600) (h : n < 10 ^ k) : g_digits [.d (.str (W n)), .d (.int (k : Int))] [] = .ok (.d (.int (n : Int))) [] := by
  have hl : (numL n).length ≤ k := TL.numL_len hk h
  have hp := numL_pos n
  have hsz : (W n).length ≤ sizeLine := by rw [W_len]; exact Nat.le_trans hl (Nat.le_trans hk2 (by decide))
  have hc := fun (E : List (Option Wv)) (hE : E = [some (.d (.str (W n))), some (.d (.int (k : Int))), none]) => chars_in (s := W n) (M := []) (z := "0123456789") (me := eVar 0) (j := 2) (env := E) (te := e2 (inw false) (eVar 2) (eC (.str "0123456789"))) (fun c hc => by
    have := TL.numL_digits n c (by show c ∈ numL n; rw [← tl_W]; exact hc)
    rw [digs]
    have h1 : 48 ≤ c := this.1
    have h2 : c ≤ 57 := this.2
    have : c = 48 ∨ c = 49 ∨ c = 50 ∨ c = 51 ∨ c = 52 ∨ c = 53 ∨ c = 54 ∨ c = 55 ∨ c = 56 ∨ c = 57 := by omega
    simp only [List.mem_cons, List.not_mem_nil, or_false]
    exact this) hsz (by rw [hE]; rfl) (fun c => by
    rw [hE]
    show (inw false (.d (.str ⟨#[c]⟩)) (.d (.str "0123456789")) [] : Rs Wv) = _
    show (.ok (.d (.bl (false != decide (c ∈ ("0123456789" : Str).cps.toList)))) [] : Rs Wv) = _
    rw [Bool.false_bne])
  have hc' := hc _ rfl
  have hint := toint_str (n := n) (Nat.lt_of_lt_of_le h (Nat.pow_le_pow_right (by decide) hk2))
  have hlen : ∀ (P : PV) (E : PX), (lenw (.d (.str (W n))) []).Is P E = P (.d (.int ((numL n).length : Int))) [] := fun P E => by rw [y_lenS hsz, W_len]
  have h1 : (0 : Int) < ((numL n).length : Int) := by omega
  have h2 : ((numL n).length : Int) ≤ (k : Int) := by omega
  have fin : ∀ P : PV, P (.d (.int (n : Int))) [] → (g_digits [.d (.str (W n)), .d (.int (k : Int))] []).Is P nox := fun P hP => by
    unfold g_digits b_digits
    obtain ⟨c, r, e⟩ : ∃ c r, numL n = c :: r := by
      cases q : numL n with
      | nil => rw [q] at hp; exact absurd hp (by decide)
      | cons c r => exact ⟨c, r, rfl⟩
    have hat : L2.atI (W n).cps.toList 0 = some c := by
      rw [show (W n).cps.toList = c :: r from (tl_W n).trans e]
      exact at0
    have ok1 : PyData.strOk ⟨#[c]⟩ = true := by
      have := TL.numL_digits n c (by show c ∈ numL n; rw [e]; exact List.mem_cons_self ..)
      show (#[c].all fun c => decide (c < 0x110000)) = true
      have h3 : c ≤ 57 := this.2
      simp
      omega
    have ok0 : PyData.strOk ("0" : Str) = true := by decide +kernel
    by_cases hz : n = 0
    · subst hz
      have hint : dInt (.str (W 0)) = some (.int 0) := hint
      have hP : P (.d (.int 0)) [] := hP
      have e0 : (W 0 = ("0" : Str)) = True := eq_true (by decide +kernel)
      by_cases hz : (⟨#[c]⟩ : Str) = "0"
      · simp! [hlen, h1, h2, hc', y_fLst, all_true, y_ixS hsz, hat, hint, eq_str ok1 ok0, ne_str (W_ok 0) ok0, e0, eq_true hz, hP]
      · simp! [hlen, h1, h2, hc', y_fLst, all_true, y_ixS hsz, hat, hint, eq_str ok1 ok0, ne_str (W_ok 0) ok0, e0, hz, hP]
    · obtain ⟨c', r', e', hne⟩ := numL_head n (by omega)
      have hcc : c = c' := by
        rw [e] at e'
        injection e'
      subst hcc
      have hn0 : ¬ ((⟨#[c]⟩ : Str) = "0") := by
        rw [zero_str]
        intro h
        injection h with h
        have := congrArg Array.toList h
        simp at this
        exact hne this
      simp! [hlen, h1, h2, hc', y_fLst, all_true, y_ixS hsz, hat, hint, eq_str ok1 ok0, hn0, hP]
  obtain ⟨w, M, e, rfl, rfl⟩ := (fin (fun w M => w = .d (.int (n : Int)) ∧ M = []) ⟨rfl, rfl⟩).out
  exact e
theorem at_map {α β : Type} (l : List α) (f : α → β) {v : Int} (h0 : 0 ≤ v) (h1 : v < l.length) : ∃ x, x ∈ l ∧ L2.atI (l.map f) v = some (f x) := by
  have e := atI_n (l := l.map f) (k := v.toNat) (by rw [List.length_map]; omega)
  rw [Int.toNat_of_nonneg h0, List.getElem_map] at e
  exact ⟨_, List.getElem_mem _, e⟩
theorem at_dmap (l : List Str) {v : Int} (h0 : 0 ≤ v) (h1 : v < l.length) : ∃ x, x ∈ l ∧ L2.atI ((l.map D.str).map Wv.d) v = some (.d (.str x)) := by
  rw [List.map_map]
  exact at_map l _ h0 h1
/-! ### words, joined and split -/
/-- a word of a text: short, no blank in it -/
structure WordOk (w : Str) : Prop where
  pos : 0 < w.length
  le : w.length ≤ 640
  ok : PyData.strOk w = true
  sp : 32 ∉ tl w
theorem strOk_iff {x : Str} : PyData.strOk x = true ↔ ∀ c ∈ tl x, c < 0x110000 := by
  unfold PyData.strOk
  rw [← Array.all_toList, List.all_eq_true]
  exact ⟨fun h c hc => of_decide_eq_true (h c hc), fun h c hc => decide_eq_true (h c hc)⟩
theorem wordOk_W {n : Nat} (h : n < 10 ^ 600) : WordOk (W n) := by
  refine ⟨by rw [W_len]; exact numL_pos n, ?_, W_ok n, ?_⟩
  · rw [W_len]
    exact Nat.le_trans (TL.numL_len (by decide) h) (by decide)
  · rw [tl_W]
    exact TL.numL_free (.inl (by decide))
theorem join_mem {y : Str} {c : Nat} : ∀ {ys : List Str}, c ∈ tl (Str.join y ys) → c ∈ tl y ∨ ∃ w ∈ ys, c ∈ tl w
  | [], h => by cases h
  | [x], h => .inr ⟨x, List.mem_singleton.mpr rfl, h⟩
  | x :: z :: r, h => by
    have h' : c ∈ tl (x ++ y ++ Str.join y (z :: r)) := h
    rw [show tl (x ++ y ++ Str.join y (z :: r)) = tl x ++ tl y ++ tl (Str.join y (z :: r)) by rw [tl, TL.tl_append, TL.tl_append]] at h'
    rcases List.mem_append.mp h' with h1 | h1
    · rcases List.mem_append.mp h1 with h2 | h2
      · exact .inr ⟨x, List.mem_cons_self .., h2⟩
      · exact .inl h2
    · rcases join_mem h1 with h2 | ⟨w, hw, h2⟩
      · exact .inl h2
      · exact .inr ⟨w, List.mem_cons_of_mem _ hw, h2⟩
theorem join_ok {ys : List Str} (h : ∀ w ∈ ys, WordOk w) : PyData.strOk (Txt.join " " ys) = true := by
  rw [TL.join_eq, strOk_iff]
  intro c hc
  rcases join_mem hc with h1 | ⟨w, hw, h1⟩
  · exact strOk_iff.mp (by decide +kernel : PyData.strOk (" " : Str) = true) c h1
  · exact strOk_iff.mp (h w hw).ok c h1
theorem sum_le {ys : List Str} {c : Nat} (h : ∀ w ∈ ys, w.length ≤ c) : (ys.map (·.length)).sum ≤ ys.length * c := by
  induction ys with
  | nil => exact Nat.zero_le _
  | cons y ys ih =>
    rw [List.map_cons, List.sum_cons, List.length_cons, Nat.add_mul, Nat.one_mul]
    have h1 := h y (List.mem_cons_self ..)
    have h2 := ih fun w hw => h w (List.mem_cons_of_mem _ hw)
    omega
theorem blank_len : (" " : Str).length = 1 := by decide +kernel
theorem join_len {ys : List Str} (h : ∀ w ∈ ys, WordOk w) : (Txt.join " " ys).length ≤ ys.length * 641 := by
  rw [TL.join_eq]
  have h1 := StrLaws.join_length_le " " ys
  have h2 := sum_le (ys := ys) (c := 640) fun w hw => (h w hw).le
  rw [blank_len] at h1
  omega
theorem join_pos {ys : List Str} (h : ∀ w ∈ ys, WordOk w) (hne : ys ≠ []) : 0 < (Txt.join " " ys).length := by
  rw [TL.join_eq]
  match ys, h, hne with
  | [x], h, _ => exact (h x (List.mem_singleton.mpr rfl)).pos
  | x :: z :: r, h, _ =>
    have := (h x (List.mem_cons_self ..)).pos
    show 0 < (x ++ " " ++ Str.join " " (z :: r)).length
    rw [TL.len_tl, TL.tl_append, TL.tl_append, List.length_append, List.length_append, ← TL.len_tl x]
    omega
theorem split_join {ys : List Str} (h : ∀ w ∈ ys, WordOk w) (hne : ys ≠ []) : Txt.split (Txt.join " " ys) " " = ys :=
  TL.split_join (s := 32) (S := []) (by decide +kernel) (by decide +kernel) hne fun p hp => (h p hp).sp
def kSt1 (f : Str → Wv → Sto → Rs Wv) (a : ED) (env : Ev) (P : PV) (E : PX) : PV := fun w M => match nd M w with
  | some (.str s) => (a env M).Is (fun u M2 => (f s u M2).Is P E) E
  | _ => False
def kSt2 (f : Str → Wv → Sto → Rs Wv) (s : Str) (P : PV) (E : PX) : PV := fun u M2 => (f s u M2).Is P E
section
variable {M : Sto} {P : PV} {E : PX} {f : Str → Wv → Sto → Rs Wv} {o a : ED} {env : Ev} {s : Str} {u : Wv} {ys : List Str}
theorem y_s1 : (eS1 f o a env M).Is P E = (o env M).Is (kSt1 f a env P E) E := by
  unfold eS1
  rw [is_bind]
  congr
  funext w M1
  unfold kSt1
  cases nd M1 w with
  | none => rfl
  | some x =>
    cases x with
    | str s => show (Rs.bind _ _).Is P E = _; rw [is_bind]
    | _ => rfl
theorem kSt1_ap : kSt1 f a env P E (.d (.str s)) M = (a env M).Is (kSt2 f s P E) E := rfl
theorem kSt2_ap : kSt2 f s P E u M = (f s u M).Is P E := rfl
theorem join_is (h : ∀ w ∈ ys, WordOk w) (hl : ys.length ≤ 20000) : (joinw " " (.d (.lst (ys.map .str))) M).Is P E = P (.d (.str (Txt.join " " ys))) M := by
  have hs : (ys.map (·.length)).sum + ys.length * (" " : Str).length ≤ 16777216 := by
    have h2 := sum_le (ys := ys) (c := 640) fun w hw => (h w hw).le
    rw [blank_len]
    omega
  unfold joinw
  simp only [seqw_lst, nds_d, Option.bind_some, strsOf_map]
  rw [if_pos hs]
  rfl
theorem split_is (h : ∀ w ∈ ys, WordOk w) (hne : ys ≠ []) (hl : ys.length ≤ 20000) : (splitw (Txt.join " " ys) (.d (.str " ")) M).Is P E = P (.d (.lst (ys.map .str))) M := by
  have e := split_join h hne
  have h1 := join_len h
  unfold splitw
  simp only [nd_d, e]
  have h2 : 20000 * 641 + 2 ≤ sizeLine := by decide
  have h3 : ((" " : Str).length == 0) = false := by rw [blank_len]; rfl
  have h4 : (Txt.join " " ys).length + 2 ≤ sizeLine := by
    have : ys.length * 641 ≤ 20000 * 641 := Nat.mul_le_mul_right _ hl
    omega
  have h5 : ys.length ≤ sizeLine := Nat.le_trans hl (by decide)
  rw [if_pos ⟨h3, h4, h5⟩]
  rfl
theorem truw_join (h : ∀ w ∈ ys, WordOk w) (hne : ys ≠ []) (hl : ys.length ≤ 20000) : truw M (.d (.str (Txt.join " " ys))) = some true := by
  have h1 := join_len h
  have h2 := join_pos h hne
  have h3 : 20000 * 641 ≤ sizeLine := by decide
  have h4 : ys.length * 641 ≤ 20000 * 641 := Nat.mul_le_mul_right _ hl
  rw [truw_str (by omega)]
  congr 1
  rw [bne_iff_ne]
  omega
end
end DL

/-! Layer D: the evaluator: fields, list methods, new instances, comprehensions by their items. -/
namespace DL
open PySem
section
variable {P : PO} {E : PX} {env : Ev} {M : Sto} {o v : ED} {t : Nat} {f : Str} {op : D → D → Option D} {w u y n : Wv}
def kG5 (env : Ev) (P : PO) : Unit → Sto → Prop := fun _ M => P (.nx env) M
def kG4 (t : Nat) (f : Str) (w : Wv) (env : Ev) (P : PO) : PV := fun n M => (stow t f n w M).Is (kG5 env P) (kX env P)
def kG3 (op : D → D → Option D) (t : Nat) (f : Str) (w u : Wv) (env : Ev) (P : PO) : PV := fun y M => (pu2 op u y M).Is (kG4 t f w env P) (kX env P)
def kG2 (op : D → D → Option D) (t : Nat) (f : Str) (v : ED) (w : Wv) (env : Ev) (P : PO) : PV := fun u M => (v env M).Is (kG3 op t f w u env P) (kX env P)
def kG1 (op : D → D → Option D) (t : Nat) (f : Str) (v : ED) (env : Ev) (P : PO) : PV := fun w M => (fldw [t] f w M).Is (kG2 op t f v w env P) (kX env P)
theorem y_fldaug : (sFldAug op t f o v env M).Is P E = (o env M).Is (kG1 op t f v env P) (kX env P) := by
  unfold sFldAug
  rw [is_sx]
  congr
  funext w M1
  rw [is_sx]
  unfold kG1
  congr
  funext u M2
  rw [is_sx]
  unfold kG2
  congr
  funext y M3
  rw [is_sx]
  unfold kG3
  congr
  funext n M4
  rw [is_sx]
  rfl
theorem kG1_ap : kG1 op t f v env P w M = (fldw [t] f w M).Is (kG2 op t f v w env P) (kX env P) := rfl
theorem kG2_ap : kG2 op t f v w env P u M = (v env M).Is (kG3 op t f w u env P) (kX env P) := rfl
theorem kG3_ap : kG3 op t f w u env P y M = (pu2 op u y M).Is (kG4 t f w env P) (kX env P) := rfl
theorem kG4_ap : kG4 t f w env P n M = (stow t f n w M).Is (kG5 env P) (kX env P) := rfl
theorem kG5_ap {x : Unit} : kG5 env P x M = P (.nx env) M := rfl
def kF1 (t : Nat) (f : Str) (o : ED) (env : Ev) (P : PO) : PV := fun u M => (o env M).Is (fun w M2 => (stow t f u w M2).Is (kG5 env P) (kX env P)) (kX env P)
def kF2 (t : Nat) (f : Str) (u : Wv) (env : Ev) (P : PO) : PV := fun w M => (stow t f u w M).Is (kG5 env P) (kX env P)
theorem y_fld : (sFld t f o v env M).Is P E = (v env M).Is (kF1 t f o env P) (kX env P) := by
  unfold sFld
  rw [is_sx]
  congr
  funext u M1
  rw [is_sx]
  unfold kF1
  congr
  funext w M2
  rw [is_sx]
  rfl
theorem kF1_ap : kF1 t f o env P u M = (o env M).Is (kF2 t f u env P) (kX env P) := rfl
theorem kF2_ap : kF2 t f u env P w M = (stow t f u w M).Is (kG5 env P) (kX env P) := rfl
end
section
variable {P : PV} {E : PX} {env : Ev} {M : Sto} {o : ED} {a : AD} {f : List Wv → List Wv → Option (Wv × List Wv)} {w r : Wv} {ws us : List Wv} {k : Nat}
def kLM1 (f : List Wv → List Wv → Option (Wv × List Wv)) (a : AD) (env : Ev) (P : PV) (E : PX) : PV := fun w M => (lstAt w M).isSome = true ∧ (a env M).Is (fun us M2 => oo (lstAt w M2) (fun p M3 => oo (f p.2 us) (fun q M4 => q.2.length ≤ sizeLine ∧ P q.1 (M4.set p.1 (.lst q.2))) M3) M2) E
def kLM4 (k : Nat) (P : PV) : Wv × List Wv → Sto → Prop := fun q M4 => q.2.length ≤ sizeLine ∧ P q.1 (M4.set k (.lst q.2))
def kLM3 (f : List Wv → List Wv → Option (Wv × List Wv)) (us : List Wv) (P : PV) : Nat × List Wv → Sto → Prop := fun p M3 => oo (f p.2 us) (kLM4 p.1 P) M3
def kLM2 (f : List Wv → List Wv → Option (Wv × List Wv)) (w : Wv) (P : PV) : PL := fun us M2 => oo (lstAt w M2) (kLM3 f us P) M2
theorem y_lm : (eLM f o a env M).Is P E = (o env M).Is (kLM1 f a env P E) E := by
  unfold eLM
  rw [is_bind]
  congr
  funext w M1
  unfold kLM1
  cases lstAt w M1 with
  | none => simp [is_no]
  | some p =>
    simp only [Option.isSome_some, true_and]
    rw [is_bind]
    congr
    funext us M2
    cases lstAt w M2 with
    | none => rfl
    | some p =>
      obtain ⟨k, ws⟩ := p
      simp only [oo_some]
      cases f ws us with
      | none => rfl
      | some q =>
        obtain ⟨r, ws'⟩ := q
        simp only [oo_some]
        by_cases h : ws'.length ≤ sizeLine
        · rw [if_pos h]
          simp only [is_ok, h, true_and]
        · rw [if_neg h]
          simp only [is_no, h, false_and]
theorem kLM1_ap : kLM1 f a env P E w M = ((lstAt w M).isSome = true ∧ (a env M).Is (kLM2 f w P) E) := rfl
theorem kLM2_ap : kLM2 f w P us M = oo (lstAt w M) (kLM3 f us P) M := rfl
theorem kLM3_ap : kLM3 f us P (k, ws) M = oo (f ws us) (kLM4 k P) M := rfl
theorem kLM4_ap : kLM4 k P (r, ws) M = (ws.length ≤ sizeLine ∧ P r (M.set k (.lst ws))) := rfl
theorem lApp_one {u : Wv} : lApp ws [u] = some (.d .non, ws ++ [u]) := rfl
theorem lstAt0 : lstAt (.m 0) (.lst ws :: M) = some (0, ws) := rfl
theorem lstAt1 {x : MO} : lstAt (.m 1) (x :: .lst ws :: M) = some (1, ws) := rfl
theorem mkA_is {t m : Nat} {g : FD} (hm : ws.length + 1 = m) (h : (g (.m M.length :: ws) (M ++ [.ins t [] []])).Is (fun w M' => w = .d .non ∧ P (.m M.length) M') E) : (mkA t m g ws M).Is P E := by
  unfold mkA
  rw [if_pos hm]
  cases q : g (.m M.length :: ws) (M ++ [.ins t [] []]) with
  | no => rw [q] at h; exact h
  | ex x M' => rw [q] at h; exact h
  | ok w M' =>
    rw [q] at h
    obtain ⟨rfl, h⟩ := h
    exact h
theorem mkF_is {t m : Nat} {g : FD} {xs : List D} (hm : xs.length + 1 = m) (h : (g (.m 0 :: xs.map .d) [.ins t [] []]).Is (fun w M' => w = .d .non ∧ ∃ mo x M'', M' = [mo] ∧ fz1 0 [mo] = some (x, M'') ∧ P (.d x) M) nox) : (mkF t m g (xs.map .d) M).Is P E := by
  unfold mkF
  rw [if_pos (by rw [List.length_map]; exact hm), preps_d]
  simp only []
  obtain ⟨w, M', q, rfl, mo, x, M'', rfl, hz, hP⟩ := h.out
  rw [q]
  simp only [hz]
  exact hP
end
/-- a comprehension of pure items, by the values of its items -/
theorem eLc_d {src : ID} {tg : GD} {te : ED} {vs : List Nat} {env : Ev} {M : Sto} {as bs : List D} (hs : src env M = .ok (.its (as.map .d)) M) (hn : as.length = bs.length) (hl : as.length ≤ sizeLine)
    (h : ∀ (i : Nat) (h1 : i < as.length) (h2 : i < bs.length), ∃ e, tg (.d as[i]) (wipeE env vs) M = .ok e M ∧ te e M = .ok (.d bs[i]) M) : eLc finF src tg tYesD te vs env M = .ok (.d (.lst bs)) M := by
  have e1 : as.map Wv.d = (as.zip bs).map fun p => Wv.d p.1 := by
    rw [← List.map_fst_zip (l₁ := as) (l₂ := bs) (by omega), List.map_map, List.map_fst_zip (l₁ := as) (l₂ := bs) (by omega)]
    rfl
  have e2 : (as.zip bs).map (fun p => p.2) = bs := List.map_snd_zip (by omega)
  rw [e1] at hs
  have := eLc_map (tg := tg) (te := te) (vs := vs) (fun p : D × D => Wv.d p.1) (fun p => p.2) (as.zip bs) hs (fun p hp => by
    obtain ⟨i, hi, e⟩ := List.mem_iff_getElem.mp hp
    have hi' : i < as.length ∧ i < bs.length := by rw [List.length_zip] at hi; omega
    rw [List.getElem_zip] at e
    subst e
    exact h i hi'.1 hi'.2) (by rw [List.length_zip]; omega)
  rw [this, e2]
theorem iR1_ap {me : AD} {env : Ev} {M M' : Sto} {j : Int} (h : me env M = .ok [.d (.int j)] M') : iR1 me env M = rngw 0 j M' := by
  unfold iR1
  rw [h]
  rfl
theorem rngL_d {n : Nat} : rngL 0 n = ((List.range n).map fun (i : Nat) => D.int i).map .d := by
  rw [rngL, List.map_map]
  refine List.map_congr_left fun i _ => ?_
  show Wv.d (.int (0 + (i : Int))) = Wv.d (.int i)
  rw [Int.zero_add]
theorem rngw_ok {M : Sto} {n : Nat} (hn : n ≤ sizeLine) : rngw 0 (n : Int) M = .ok (.its (rngL 0 n)) M := by
  have h : (rngw 0 (n : Int) M).Is (fun s M' => s = .its (rngL 0 n) ∧ M' = M) nox := by
    rw [rng0_is hn]
    exact ⟨rfl, rfl⟩
  obtain ⟨s, M', e, rfl, rfl⟩ := h.out
  exact e
theorem rng_src {me : AD} {env : Ev} {M : Sto} {n : Nat} (h : me env M = .ok [.d (.int (n : Int))] M) (hn : n ≤ sizeLine) : iR1 me env M = .ok (.its (((List.range n).map fun (i : Nat) => D.int i).map .d)) M := by
  rw [iR1_ap h, rngw_ok hn, rngL_d]
end DL

/-! Layer D: double comprehensions; the class Table. -/
namespace DL
open PySem
local macro_rules
  | `(tactic| simp! [$xs,*]) => `(tactic| simp (config := {implicitDefEqProofs := false}) only [DL.oo_some, DL.oo_none, DL.kD_ap, DL.kX_ap, DL.y_next, DL.y_seq, DL.kSeq_nx, DL.kSeq_rt, DL.kSeq_bk, DL.kSeq_ct, DL.kSeq_xc, DL.y_expr, DL.kExpr_ap, DL.y_ret, DL.kRet_ap, DL.y_retN, DL.y_if, DL.kIf_t, DL.kIf_f, DL.y_never, DL.y_brk, DL.y_cnt, DL.y_asg, DL.kAsg_n, DL.kNx_ap, DL.y_par, DL.kPar_ap, DL.y_for, DL.kFor_its, DL.y_tgN, DL.y_tgT, DL.y_tgsC, DL.kGc_ap, DL.y_tgsN, DL.y_tb, DL.kTb_ap, DL.y_tru, DL.kTru_ap, DL.truw_non, DL.truw_bl, DL.truw_int, DL.truw_tup, DL.truw_lst, DL.truw_str, DL.y_nt, DL.kNt_ap, DL.y_an, DL.kAn_t, DL.kAn_f, DL.y_o, DL.kO_t, DL.kO_f, DL.y_yes, DL.y_c, DL.y_var0, DL.y_varS, DL.y_and, DL.kAnd_t, DL.kAnd_f, DL.y_or, DL.kOr_t, DL.kOr_f, DL.y_not, DL.kNot_bl, DL.y_eif, DL.kEif_t, DL.kEif_f, DL.y_aNil, DL.y_aCons, DL.kC1_ap, DL.kC2_ap, DL.y_aStar, DL.kS1_ap, DL.kS2_ap, DL.kS3_ap, DL.y_tup, DL.kTupl_ap, DL.kTup2_ap, DL.y_lst, DL.kLstl_ap, DL.kLst2_ap, DL.y_lstM, DL.kLstM_ap, DL.y_e1, DL.kE1_ap, DL.y_e2, DL.kE2_ap, DL.kE3_ap, DL.y_eL, DL.kL_f1, DL.kL_f2, DL.y_call, DL.kCall_ap, DL.y_meth, DL.kMe1_ap, DL.kMe2_ap, DL.y_chain, DL.kCh1_ap, DL.kCh2_ap, DL.kCh3_t, DL.kCh3_f, DL.y_pu1, DL.y_pu2, DL.add_int, DL.addI_int, DL.sub_int, DL.neg_int, DL.mul_int, DL.mod_int, DL.div_int, DL.lt_int, DL.le_int, DL.gt_int, DL.ge_int, DL.eq_int, DL.ne_int, DL.toint_int, DL.toint_bl, DL.tostr_str, DL.y_isN, DL.y_notN, DL.y_ixL, DL.y_ixT, DL.y_ixSc, DL.y_ixM0, DL.y_lenL, DL.y_lenT, DL.y_lenSc, DL.y_lenS, DL.y_listL, DL.y_listT, DL.y_listSc, DL.y_tupL, DL.y_tupT, DL.nds_cons, DL.nds_nil, DL.at0, DL.at1, DL.at2, DL.at3, DL.at4, DL.at5, DL.atM1, DL.atM2, DL.atM3, DL.y_fnD, DL.kFn_nx, DL.kFn_rt, DL.kFn_xc, DL.y_fnM, DL.kFnM_nx, DL.kFnM_rt, DL.kFnM_xc, DL.y_outC, DL.y_outC0, DL.y_callA, DL.eq_bl, DL.ne_bl, DL.eq_non, DL.y_inT, DL.y_in0, DL.y_inC, DL.yi_tup, DL.yi_lst, DL.yi_int, DL.yi_str, DL.yi_bl, DL.yi_non, DL.y_r1, DL.kR1_ap, DL.y_r2, DL.kR2_ap, DL.y_s1, DL.kSt1_ap, DL.kSt2_ap, DL.y_fLst, DL.y_fldaug, DL.kG1_ap, DL.kG2_ap, DL.kG3_ap, DL.kG4_ap, DL.kG5_ap, DL.y_fld, DL.kF1_ap, DL.kF2_ap, DL.y_lm, DL.kLM1_ap, DL.kLM2_ap, DL.kLM3_ap, DL.kLM4_ap, DL.lApp_one, DL.lstAt0, DL.lstAt1, DL.is_ok, DL.is_bind, DL.is_sx, DL.is_nx, DL.nds_d, DL.seqw_tup, DL.seqw_lst, DL.seqw_scr, List.map_cons, List.map_nil, List.cons_append, List.nil_append, List.length_cons, List.length_nil, List.replicate_succ, List.replicate_zero, List.set_cons_zero, List.set_cons_succ, Nat.reduceSub, Nat.reduceAdd, DL.nd_d, DL.isNon, Bool.not_true, Bool.not_false, Option.map_some, Option.bind_some, List.isEmpty_cons, List.isEmpty_nil, decide_true, decide_false, if_true, if_false, ite_true, ite_false, true_and, Bool.false_eq_true, List.length_map, List.take_zero, List.all_nil, List.take_succ_cons, List.all_cons, Bool.and_true, and_true, and_self, Nat.reduceLeDiff, Int.reduceLT, Int.reduceLE, Int.reduceSub, Int.reduceAdd, Int.cast_ofNat_Int, Bool.false_bne, Bool.true_bne, DL.zsz, DL.kTup, DL.kLst, DL.kBl, DL.kInt, DL.kStr, $xs,*])
section
variable {tg tg1 : GD} {te : ED} {src1 : ID} {vs1 : List Nat} {M : Sto}
/-- a double comprehension without tests, that leaves the store alone -/
theorem comp2_map {α : Type} (g : α → Wv) (F : α → List D) {env : Ev} : ∀ (as : List α) (f i cnt : Nat) (pre : List α), (∀ a ∈ as, ∃ e l, tg (g a) env M = .ok e M ∧ src1 e M = .ok (.its l) M ∧ ∀ cnt, cnt + (F a).length ≤ sizeLine → compS (.its l) tg1 tYesD te l.length 0 cnt (wipeE e vs1) M = .ok ((F a).map .d) M) → f = as.length → i = pre.length → cnt + (as.flatMap F).length ≤ sizeLine →
    compS2 (.its ((pre ++ as).map g)) tg tYesD src1 tg1 tYesD te vs1 f i cnt env M = .ok ((as.flatMap F).map .d) M
  | [], f, i, cnt, pre, h, hf, hi, hc => by
    subst hf hi
    unfold compS2
    simp
  | a :: as, f, i, cnt, pre, h, hf, hi, hc => by
    subst hf hi
    obtain ⟨e, l, h1, h2, h3⟩ := h a (List.mem_cons_self ..)
    rw [List.flatMap_cons, List.length_append] at hc
    have h3' := h3 cnt (by omega)
    rw [List.length_cons]
    unfold compS2
    have e1 : ((pre ++ a :: as).map g)[pre.length]? = some (g a) := by
      rw [List.getElem?_map, List.getElem?_append_right (Nat.le_refl _), Nat.sub_self]
      rfl
    simp only [Src.at_its, e1, h1, nx_ok, Rs.bind_ok, tYesD, if_true, h2]
    rw [h3']
    simp only [Rs.bind_ok]
    have e2 : pre ++ a :: as = (pre ++ [a]) ++ as := by rw [List.append_assoc]; rfl
    have := comp2_map g F (env := env) as as.length (pre.length + 1) (cnt + (F a).length) (pre ++ [a]) (fun b hb => h b (List.mem_cons_of_mem _ hb)) rfl (by rw [List.length_append]; rfl) (by omega)
    rw [← e2] at this
    rw [List.length_map, this]
    simp only [Rs.bind_ok, List.flatMap_cons, List.map_append]
theorem eLc2_map {α : Type} {src : ID} {vs : List Nat} {env : Ev} {M1 : Sto} (g : α → Wv) (F : α → List D) (as : List α) (hs : src env M1 = .ok (.its (as.map g)) M)
    (h : ∀ a ∈ as, ∃ e l, tg (g a) (wipeE env vs) M = .ok e M ∧ src1 e M = .ok (.its l) M ∧ ∀ cnt, cnt + (F a).length ≤ sizeLine → compS (.its l) tg1 tYesD te l.length 0 cnt (wipeE e vs1) M = .ok ((F a).map .d) M) (hl : (as.flatMap F).length ≤ sizeLine) :
    eLc2 finF src tg tYesD src1 tg1 tYesD te vs vs1 env M1 = .ok (.d (.lst (as.flatMap F))) M := by
  unfold eLc2
  simp only [hs, Rs.bind_ok, Src.at_its]
  have := comp2_map (tg := tg) (tg1 := tg1) (te := te) (src1 := src1) (vs1 := vs1) (M := M) g F (env := wipeE env vs) as (as.map g).length 0 0 [] h (by rw [List.length_map]) rfl (by omega)
  rw [List.nil_append] at this
  rw [this, Rs.bind_ok, finF, nds_d]
end
theorem any_false {α : Type} (l : List α) : dAny (l.map fun _ => D.bl false) = some (.bl false) := by
  have : (l.map fun _ => D.bl false) = (l.map fun _ => false).map .bl := by rw [List.map_map]; rfl
  rw [this]
  unfold dAny
  rw [blsOf_map]
  show some (D.bl ((l.map fun _ => false).any _root_.id)) = _
  congr 2
  rw [List.any_map]
  exact List.any_eq_false.mpr fun _ _ => by simp
/-! ### Table -/
def g_tableInit (t : Nat) : FD := fnM
    (sSeq (sIf (tNt (tb (eChain (pu2 dLt) (pu2 dLe) (eC (.int 0)) (eL (f1 lenw) (aCons (eVar 1) aNil)) (eC (.int 8))))) sNever sNext)
    (sSeq (sAsg (tgN 2) (eL (f1 lenw) (aCons (e2 ixw (eVar 1) (eC (.int 0))) aNil)))
    (sSeq (sIf (tO (tNt (tb (eChain (pu2 dLt) (pu2 dLe) (eC (.int 0)) (eVar 2) (eC (.int 8))))) (tTru (eL (f1 (fLst dAny)) (aCons (eLc finF (iSeq (eVar 1)) (tgN 3) tYesD (e2 (pu2 dNe) (eL (f1 lenw) (aCons (eVar 3) aNil)) (eVar 2)) [3]) aNil)))) sNever sNext)
    (sSeq (sIf (tTru (eL (f1 (fLst dAny)) (aCons (eLc2 finF (iSeq (eVar 1)) (tgN 3) tYesD (iSeq (eVar 3)) (tgN 4) tYesD (eNot (eChain (pu2 dLe) (pu2 dLe) (eC (.int 0)) (eVar 4) (eC (.int 65535)))) [3, 4] [4]) aNil))) sNever sNext)
    (sFld t "rows" (eVar 0) (eL (f1 tupw) (aCons (eLc finF (iSeq (eVar 1)) (tgN 3) tYesD (eL (f1 tupw) (aCons (eVar 3) aNil)) [3]) aNil))))))) 5
/-- rows that make a table -/
structure RowsOk (R : List (List Int)) : Prop where
  pos : 0 < R.length
  le : R.length ≤ 8
  wid : ∃ w, 0 < w ∧ w ≤ 8 ∧ ∀ r ∈ R, r.length = w
  val : ∀ r ∈ R, ∀ x ∈ r, 0 ≤ x ∧ x ≤ 65535
def rowsT (R : List (List Int)) : D := .tup (R.map fun r => .tup (r.map .int))
def tabO (t : Nat) (R : List (List Int)) : MO := .ins t ["rows"] [.d (rowsT R)]
def tabD (t : Nat) (R : List (List Int)) : D := .obj t ["rows"] [rowsT R]
theorem y_mkD_len {mk : List D → D} (hm : mk = .lst ∨ mk = .tup) {l : List D} {M : Sto} {P : PV} {E : PX} : (lenw (.d (mk l)) M).Is P E = P (.d (.int l.length)) M := by
  rcases hm with rfl | rfl
  · exact y_lenL
  · exact y_lenT
theorem mk_src {mk : List D → D} (hm : mk = .lst ∨ mk = .tup) {l : List D} {M : Sto} : srcw (.d (mk l)) M = .ok (.its (l.map .d)) M := by
  rcases hm with rfl | rfl <;> rfl
theorem mk_tup {mk : List D → D} (hm : mk = .lst ∨ mk = .tup) {l : List D} {M : Sto} : tupw (.d (mk l)) M = .ok (.d (.tup l)) M := by
  rcases hm with rfl | rfl
  · unfold tupw; simp only [seqw_lst, nds_d]
  · unfold tupw; simp only [seqw_tup, nds_d]
theorem mk_len {mk : List D → D} (hm : mk = .lst ∨ mk = .tup) {l : List D} {M : Sto} : lenw (.d (mk l)) M = .ok (.d (.int l.length)) M := by
  rcases hm with rfl | rfl
  · unfold lenw; simp only [seqw_lst, List.length_map]
  · unfold lenw; simp only [seqw_tup, List.length_map]
theorem is_eq {α : Type} {r : Rs α} {a : α} {M : Sto} (h : r.Is (fun w M' => w = a ∧ M' = M) nox) : r = .ok a M := by
  obtain ⟨w, M', e, rfl, rfl⟩ := h.out
  exact e
theorem stow0 {t : Nat} {f : Str} {u : Wv} {M : Sto} {P : Unit → Sto → Prop} {E : PX} : (stow t f u (.m 0) (.ins t [] [] :: M)).Is P E = P () (.ins t [f] [u] :: M) := by
  show (if t = t ∧ ([] : List Str).length < 1000 then _ else _ : Rs Unit).Is P E = _
  rw [if_pos ⟨rfl, by decide⟩]
  rfl
theorem tableInit_is {t : Nat} {mk : List D → D} (hm : mk = .lst ∨ mk = .tup) {mk2 : List D → D} (hm2 : mk2 = .lst ∨ mk2 = .tup) {R : List (List Int)} (ok : RowsOk R) : g_tableInit t [.m 0, .d (mk2 (R.map fun r => mk (r.map .int)))] [.ins t [] []] = .ok (.d .non) [tabO t R] := by
  obtain ⟨w, hw0, hw8, hw⟩ := ok.wid
  have hp := ok.pos
  have hl := ok.le
  have sz8 : 8 ≤ sizeLine := by decide
  have h1 : (0 : Int) < (R.length : Int) := by omega
  have h2 : (R.length : Int) ≤ 8 := by omega
  have h3 : (0 : Int) < (w : Int) := by omega
  have h4 : (w : Int) ≤ 8 := by omega
  obtain ⟨r0, R', rfl⟩ : ∃ r0 R', R = r0 :: R' := by
    cases R with
    | nil => exact absurd hp (by decide)
    | cons a b => exact ⟨a, b, rfl⟩
  have hr0 : r0.length = w := hw r0 (List.mem_cons_self ..)
  have hix : ∀ (P : PV) (E : PX) (M : Sto), (ixw (.d (mk2 ((r0 :: R').map fun r => mk (r.map .int)))) (.d (.int 0)) M).Is P E = P (.d (mk (r0.map .int))) M := fun P E M => by
    rcases hm2 with rfl | rfl
    · rw [y_ixL, List.map_cons, List.map_cons, at0]; rfl
    · rw [y_ixT, List.map_cons, List.map_cons, at0]; rfl
  have src : ∀ (env : Ev) (M : Sto), eVar 1 env M = .ok (.d (mk2 ((r0 :: R').map fun r => mk (r.map .int)))) M → iSeq (eVar 1) env M = .ok (.its ((r0 :: R').map fun r => Wv.d (mk (r.map .int)))) M := fun env M h => by
    unfold iSeq
    rw [h, Rs.bind_ok, mk_src hm2, List.map_map]
    rfl
  generalize hRR : r0 :: R' = RR at *
  have c1 : ∀ (M : Sto) (x0 x2 x3 x4 : Option Wv), x2 = some (.d (.int (w : Int))) → eLc finF (iSeq (eVar 1)) (tgN 3) tYesD (e2 (pu2 dNe) (eL (f1 lenw) (aCons (eVar 3) aNil)) (eVar 2)) [3] [x0, some (.d (mk2 (RR.map fun r => mk (r.map .int)))), x2, x3, x4] M = .ok (.d (.lst (RR.map fun _ => .bl false))) M := fun M x0 x2 x3 x4 e => by
    subst e
    refine eLc_map (fun r => Wv.d (mk (r.map .int))) (fun _ => .bl false) RR (src _ _ rfl) (fun r hr => ⟨_, rfl, ?_⟩) (by omega)
    refine is_eq ?_
    have hrw := hw r hr
    show (e2 (pu2 dNe) (eL (f1 lenw) (aCons (eVar 3) aNil)) (eVar 2) [x0, some (.d (mk2 (RR.map fun r => mk (r.map .int)))), some (.d (.int (w : Int))), some (.d (mk (r.map .int))), x4] M).Is _ _
    simp! [y_mkD_len hm, hrw]
  have c2 : ∀ (M : Sto) (x0 x2 x3 x4 : Option Wv), eLc2 finF (iSeq (eVar 1)) (tgN 3) tYesD (iSeq (eVar 3)) (tgN 4) tYesD (eNot (eChain (pu2 dLe) (pu2 dLe) (eC (.int 0)) (eVar 4) (eC (.int 65535)))) [3, 4] [4] [x0, some (.d (mk2 (RR.map fun r => mk (r.map .int)))), x2, x3, x4] M = .ok (.d (.lst ((RR.flatMap fun r => r).map fun _ => .bl false))) M := fun M x0 x2 x3 x4 => by
    have key := eLc2_map (tg := tgN 3) (tg1 := tgN 4) (te := eNot (eChain (pu2 dLe) (pu2 dLe) (eC (.int 0)) (eVar 4) (eC (.int 65535)))) (src := iSeq (eVar 1)) (src1 := iSeq (eVar 3)) (vs := [3, 4]) (vs1 := [4]) (M := M) (M1 := M) (env := [x0, some (.d (mk2 (RR.map fun r => mk (r.map .int)))), x2, x3, x4])
      (fun r => Wv.d (mk (r.map .int))) (fun r : List Int => r.map fun _ => D.bl false) RR (src _ _ rfl) (fun r hr => ⟨_, (r.map D.int).map .d, rfl, by
        unfold iSeq
        show (eVar 3 [x0, some (.d (mk2 (RR.map fun r => mk (r.map .int)))), x2, some (.d (mk (r.map .int))), none] M).bind _ = _
        show srcw (.d (mk (r.map .int))) M = _
        rw [mk_src hm], fun cnt hc => by
        have := comp_map (tg := tgN 4) (te := eNot (eChain (pu2 dLe) (pu2 dLe) (eC (.int 0)) (eVar 4) (eC (.int 65535)))) (M := M) (env := [x0, some (.d (mk2 (RR.map fun r => mk (r.map .int)))), x2, some (.d (mk (r.map .int))), none]) (fun i : Int => Wv.d (.int i)) (fun _ => D.bl false) r r.length 0 cnt [] (fun i hi => ⟨_, rfl, is_eq (by
          have hv := ok.val r hr i hi
          show (eNot (eChain (pu2 dLe) (pu2 dLe) (eC (.int 0)) (eVar 4) (eC (.int 65535))) [x0, some (.d (mk2 (RR.map fun r => mk (r.map .int)))), x2, some (.d (mk (r.map .int))), some (.d (.int i))] M).Is _ _
          simp! [hv.1, hv.2])⟩) rfl rfl (by rw [List.length_map] at hc; omega)
        rw [List.nil_append] at this
        rw [List.length_map, List.length_map, List.map_map, List.map_map]
        exact this⟩) (by
        have : ∀ Q : List (List Int), Q.length ≤ 8 → (∀ r ∈ Q, r.length = w) → (Q.flatMap fun r : List Int => r.map fun _ => D.bl false).length ≤ Q.length * 8 := by
          intro Q
          induction Q with
          | nil => intro _ _; exact Nat.zero_le _
          | cons q Q ih =>
            intro hq hq2
            rw [List.length_cons] at hq
            have := ih (by omega) fun r hr => hq2 r (List.mem_cons_of_mem _ hr)
            have e := hq2 q (List.mem_cons_self ..)
            rw [List.flatMap_cons, List.length_append, List.length_map, List.length_cons]
            omega
        exact Nat.le_trans (this RR hl hw) (Nat.le_trans (by omega : _ ≤ 64) (by decide)))
    rw [key]
    congr 3
    rw [List.map_flatMap]
  have c3 : ∀ (M : Sto) (x0 x2 x3 x4 : Option Wv), eLc finF (iSeq (eVar 1)) (tgN 3) tYesD (eL (f1 tupw) (aCons (eVar 3) aNil)) [3] [x0, some (.d (mk2 (RR.map fun r => mk (r.map .int)))), x2, x3, x4] M = .ok (.d (.lst (RR.map fun r => .tup (r.map .int)))) M := fun M x0 x2 x3 x4 => by
    refine eLc_map (tg := tgN 3) (te := eL (f1 tupw) (aCons (eVar 3) aNil)) (src := iSeq (eVar 1)) (vs := [3]) (M := M) (M1 := M) (env := [x0, some (.d (mk2 (RR.map fun r => mk (r.map .int)))), x2, x3, x4]) (fun r => Wv.d (mk (r.map .int))) (fun r => D.tup (r.map .int)) RR (src _ _ rfl) (fun r hr => ⟨_, rfl, ?_⟩) (by omega)
    show (eL (f1 tupw) (aCons (eVar 3) aNil) [x0, some (.d (mk2 (RR.map fun r => mk (r.map .int)))), x2, some (.d (mk (r.map .int))), x4] M) = _
    show tupw (.d (mk (r.map .int))) M = _
    exact mk_tup hm
  refine is_eq ?_
  rw [g_tableInit, y_fnM]
  simp! [y_mkD_len hm2, y_mkD_len hm, h1, h2, h3, h4, hix, hr0, c1 _ _ _ _ _ rfl, c2, c3, y_fLst, any_false, stow0]
  rfl
theorem rng_src' {me : AD} {env : Ev} {M : Sto} {n : Nat} (h : me env M = .ok [.d (.int (n : Int))] M) (hn : n ≤ sizeLine) : iR1 me env M = .ok (.its ((List.range n).map fun (i : Nat) => Wv.d (.int (i : Int)))) M := by
  rw [rng_src h hn, List.map_map]
  rfl
theorem mkF_d {t m : Nat} {g : FD} {xs : List D} {mo : MO} {x : D} {M'' : Sto} {M : Sto} (hm : xs.length + 1 = m) (h : g (.m 0 :: xs.map .d) [.ins t [] []] = .ok (.d .non) [mo]) (hz : fz1 0 [mo] = some (x, M'')) : mkF t m g (xs.map .d) M = .ok (.d x) M :=
  is_eq (mkF_is hm (by rw [h]; exact ⟨rfl, mo, x, M'', rfl, hz, rfl, rfl⟩))
theorem sealL_d {f : Nat} : ∀ (l : List D) (M : Sto), sealL (sealW f) (l.map .d) M = some M
  | [], M => rfl
  | x :: l, M => by
    rw [List.map_cons, sealL, sealW_d]
    exact sealL_d l M
/-- a list of data, the store's last, handed over: it is frozen -/
theorem mkF_m1 {t : Nat} {g : FD} {l : List D} {mo p : MO} {x : D} {M'' : Sto} (h : g [.m 0, .d (.lst l)] [.ins t [] []] = .ok (.d .non) [mo]) (hz : fz1 0 [mo] = some (x, M'')) : mkF t 2 g [.m 1] [p, .lst (l.map .d)] = .ok (.d x) [p, .fz (.lst l)] := by
  have hs : sealW 6 (.m 1) [p, .lst (l.map .d)] = some (.lst l, [p, .fz (.lst l)]) := by
    show ((sealL (sealW 5) (l.map .d) [p, .lst (l.map .d)]).bind fun M1 => fz1 1 M1) = _
    rw [sealL_d]
    show (nds [p, .lst (l.map .d)] (l.map .d)).map _ = _
    rw [nds_d]
    rfl
  have hp : preps 0 [.m 1] [p, .lst (l.map .d)] = some ([.d (.lst l)], [p, .fz (.lst l)]) := by
    show ((prep 0 (.m 1) [p, .lst (l.map .d)]).bind fun q => (preps 0 [] q.2).map fun r => (q.1 :: r.1, r.2)) = _
    have : prep 0 (.m 1) [p, .lst (l.map .d)] = some (.d (.lst l), [p, .fz (.lst l)]) := by
      unfold prep
      rw [if_neg (by decide), hs]
      rfl
    rw [this]
    rfl
  unfold mkF
  rw [if_pos (show [Wv.m 1].length + 1 = 2 from rfl), hp]
  simp only [h, hz]
theorem tab_fz {t : Nat} {R : List (List Int)} : fz1 0 [tabO t R] = some (tabD t R, [.fz (tabD t R)]) := rfl
theorem toPs_of {n : Nat} : ∀ {l : List D}, (∀ x ∈ l, ∃ p : PyData, x.toP = some p ∧ p.canLay0 = true ∧ p.depth ≤ n) → ∃ ps, D.toPs l = some ps ∧ PyData.canLayAll0 ps = true ∧ PyData.depthAll ps ≤ n
  | [], _ => ⟨[], rfl, rfl, Nat.zero_le _⟩
  | x :: l, h => by
    obtain ⟨p, h1, h2, h3⟩ := h x (List.mem_cons_self ..)
    obtain ⟨ps, g1, g2, g3⟩ := toPs_of fun y hy => h y (List.mem_cons_of_mem _ hy)
    refine ⟨p :: ps, ?_, ?_, ?_⟩
    · unfold D.toPs
      rw [h1, g1]
    · show (p.canLay0 && PyData.canLayAll0 ps) = true
      rw [h2, g2]; rfl
    · show max p.depth (PyData.depthAll ps) ≤ n
      exact Nat.max_le.mpr ⟨h3, g3⟩
theorem plain_toP : ∀ (n : Nat) (x : D), plain n x → ∃ p : PyData, x.toP = some p ∧ p.canLay0 = true ∧ p.depth ≤ n
  | n, .non, _ => ⟨.none, rfl, rfl, Nat.zero_le _⟩
  | n, .bl b, _ => ⟨.bool b, rfl, rfl, Nat.zero_le _⟩
  | n, .int i, _ => ⟨.int i, rfl, rfl, Nat.zero_le _⟩
  | n, .str a, h => ⟨.str a, rfl, (by cases n <;> exact h), Nat.zero_le _⟩
  | n + 1, .tup l, h => by
    obtain ⟨ps, g1, g2, g3⟩ := toPs_of (n := n) fun x hx => plain_toP n x (h.2 x hx)
    refine ⟨.tuple ps, ?_, g2, Nat.succ_le_succ g3⟩
    unfold D.toP
    rw [g1]
    rfl
  | n + 1, .lst l, h => by
    obtain ⟨ps, g1, g2, g3⟩ := toPs_of (n := n) fun x hx => plain_toP n x (h.2 x hx)
    refine ⟨.list ps, ?_, g2, Nat.succ_le_succ g3⟩
    unfold D.toP
    rw [g1]
    rfl
  | 0, .tup _, h => h.elim
  | 0, .lst _, h => h.elim
  | 0, .dic _ _, h => h.elim
  | _ + 1, .dic _ _, h => h.elim
  | 0, .obj _ _ _, h => h.elim
  | _ + 1, .obj _ _ _, h => h.elim
  | 0, .scr _, h => h.elim
  | _ + 1, .scr _, h => h.elim
theorem plain_eq {n : Nat} {x : D} (h : plain n x) (hn : n ≤ 64) : dEq x x = some (.bl true) := by
  obtain ⟨p, h1, h2, h3⟩ := plain_toP n x h
  exact eq_refl h1 (by
    show (p.canLay0 && decide (p.depth ≤ 64)) = true
    rw [h2, decide_eq_true (Nat.le_trans h3 hn)]; rfl)
theorem plain_rows {R : List (List Int)} (h : R.length ≤ sizeLine) (hr : ∀ r ∈ R, r.length ≤ sizeLine) : plain 2 (rowsT R) :=
  ⟨by rw [List.length_map]; exact h, fun x hx => by
    obtain ⟨r, h1, rfl⟩ := List.mem_map.mp hx
    exact ⟨by rw [List.length_map]; exact hr r h1, fun y hy => by
      obtain ⟨i, _, rfl⟩ := List.mem_map.mp hy
      exact trivial⟩⟩
end DL

/-! Layer D: more of the code: list * n. -/
namespace DL
open PySem PySem.Spec PyProof.Rows L2

/-- a list, not the script -/
def lstw (M : Sto) (w : Wv) : Option (List Wv) := match nw M w with
  | .d (.scr _) => none
  | _ => match seqw M w with
    | some (true, us) => some us
    | _ => none
theorem lstw_at {K : PySem.W.Frag} {cA : Nat → Addr} {z : Z0} {g : Gh} {H : Hp} {M : Sto} (c : Cf K cA z H M g) {w : Wv} {v : V} {us : List Wv} (r : RW K cA g M.length w v) (e : lstw M w = some us) : ∃ a vs, v = .ref a ∧ H a = some (.lst vs) ∧ Paired (RW K cA g M.length) us vs := by
  unfold lstw at e
  split at e
  · cases e
  · rename_i hs
    split at e
    · rename_i q
      cases (Option.some.inj e)
      exact seqw_lst_at c r q fun l hl => hs l hl
    · cases e
def repL {α : Type} (k : Int) (us : List α) : List α := (List.replicate k.toNat us).flatten
/-- list * n: frozen (true), or to be changed -/
def repw (fr : Bool) (w u : Wv) (M : Sto) : Rs Wv := match u with
  | .d (.int k) => if shut 1 (decide (-(2 ^ 63) ≤ k ∧ k < 2 ^ 63)) = true then match lstw M w with
      | some us => if us.length * k.toNat ≤ sizeLine then (if fr = true then match nds M (repL k us) with
          | some l => .ok (.d (.lst l)) M
          | none => .no
        else .ok (.m M.length) (M ++ [.lst (repL k us)])) else .no
      | none => .no
    else .no
  | _ => .no
theorem repL_paired {α β : Type} {P : α → β → Prop} {us : List α} {vs : List β} (h : Paired P us vs) : ∀ n : Nat, Paired P (List.replicate n us).flatten (List.replicate n vs).flatten
  | 0 => .nil
  | n + 1 => by
    rw [List.replicate_succ, List.replicate_succ, List.flatten_cons, List.flatten_cons]
    exact Paired.append' h (repL_paired h n)
theorem repL_len {α : Type} (us : List α) : ∀ n : Nat, (List.replicate n us).flatten.length = us.length * n
  | 0 => by simp
  | n + 1 => by
    rw [List.replicate_succ, List.flatten_cons, List.length_append, repL_len us n, Nat.mul_succ]
    omega
section
variable {X : Cx} {cA : Nat → Addr} {Wx : WX} {a b : Expr} {ma mb : ED} {pos : Pos}
theorem ok_rep {K : PySem.W.Frag} {fr : Bool} : Ok2 K cA (repw fr) rRep := by
  intro z g H M E wx wy x y Q c rx ry q
  unfold repw at q
  split at q
  · rename_i k
    cases (show y = V.int k from ry)
    rw [shut_eq] at q
    by_cases hk : decide (-(2 ^ 63) ≤ k ∧ k < 2 ^ 63) = true
    · rw [if_pos hk] at q
      have hk' := of_decide_eq_true hk
      cases e : lstw M wx with
      | none => simp [e, Res] at q
      | some us =>
        simp only [e] at q
        obtain ⟨l, vs, rfl, h1, h2⟩ := lstw_at c rx e
        have hlen : us.length = vs.length := h2.length
        by_cases hz : us.length * k.toNat ≤ sizeLine
        · rw [if_pos hz] at q
          have rp := repL_paired h2 k.toNat
          refine ⟨l, k, vs, rfl, rfl, h1, hk'.1, hk'.2, by rw [← hlen]; exact hz, fun p hp => ?_⟩
          cases fr with
          | true =>
            rw [if_pos rfl] at q
            cases e2 : nds M (repL k us) with
            | none => simp [e2, Res] at q
            | some dl =>
              simp only [e2] at q
              have rl := nds_rep c (show Paired _ (repL k us) _ from rp) e2
              exact c.ans q hp ⟨p, _, rfl, upd_same, by rw [repL_len, ← hlen]; exact hz, rl.mono (Same.upd' (c.sub.free hp))⟩
          | false =>
            rw [if_neg (by decide)] at q
            exact c.ansM (show Paired _ (repL k us) _ from rp) (by rw [show (repL k us).length = us.length * k.toNat from repL_len us _]; exact hz) q hp
        · rw [if_neg hz] at q
          exact q.elim
    · rw [if_neg hk] at q
      exact q.elim
  · exact q.elim
theorem d_rep {fr : Bool} (ha : PE X a (TED X.K cA Wx ma)) (hb : PE X b (TED X.K cA Wx mb)) : PE X (.BinOp a .Mult b pos) (TED X.K cA Wx (e2 (repw fr) ma mb)) := d_op op_rep ok_rep ha hb
end
/-! ### an instance of a class that has no __init__ of its own -/
structure Mk0 (K : PySem.W.Frag) (C : Addr) : Prop where
  made : PySem.W.makesIn K C = true
  oi : PySem.W.findIn K (.ref C) "__init__" = some (some (.builtin "object.__init__"))
  kp : PySem.W.keepIn K (.ref C) = true
def tMake0 (C : Addr) : TE := fun _ H Q => ∀ x dx, H x = none → H dx = none → dx ≠ x → Q (.ref x) (upd (upd H dx (.own x)) x (.ins C dx []))
section
variable {X : Cx} {C : Addr} {cA : Nat → Addr} {Wx : WX} {x : Str} {p pos : Pos} {t : Nat}
theorem run_make0S {pins : List (Addr × Obj)} {σ : St} {H : Hp} {s : Shared} {Q : VK} (m : Mk0 X.K C) (I : Inv X pins σ H s) (h : tMake0 C σ H Q) : wpAny (model X.prog X.w) X.A (call (.ref C) []) (EP X pins σ Q) X.xe s := by
  have done := h (s.heap.objs.size + 1) s.heap.objs.size (I.hok.fresh (Nat.le_succ _)) (I.hok.fresh (Nat.le_refl _)) (Nat.ne_of_lt (Nat.lt_succ_self _))
  have I2 := Inv.made (C := C) I
  obtain ⟨mA, J, _⟩ := ins_get I2.hok upd_same
  have ty : PySem.W.Looks (model X.prog X.w) ((s.heap.push PySem.W.emptyDict).push (PySem.W.instObj C s.heap.objs.size)) (typeOf (.ref (s.heap.objs.size + 1))) (.ref C) := (PySem.W.Looks.ld J.obj).andThen .now
  have top := (PySem.W.makes_of (M := model X.prog X.w) I2.kIn m.made).top
  refine wpAny_call (make_map0 I.kIn m.made m.oi (fun self => PySem.W.Looks.of_pure (PySem.W.oi_bind self)) ?_)
  refine codeAny_call_builtin PySem.W.oi_plain PySem.W.entry_oi (@PySem.W.check_slot (model X.prog X.w) _ _ _ "object.__init__" "object" "__init__" (.ref (s.heap.objs.size + 1)) [] [] _ PySem.W.oi_kind PySem.W.oi_split (ty.andThen top) (PySem.W.oi_args _) ?_)
  rw [PySem.W.oi_run]
  exact wpAny_pure ⟨rfl, V.ref (s.heap.objs.size + 1), _, I2, rfl, done⟩
theorem pe_make0S (m : Mk0 X.K C) (hm : X.mg x = some (.ref C)) (hg : Gl X x := by rfl) (hdb : (x == ("__debug__" : Str)) = false := by decide) : PE X (.Call (.Name x p) [] [] pos) (tMake0 C) :=
  ⟨fun pins s σ H Q I h => wpAny_Call_Name_kw (ld_glob I hg hm (PySem.W.callWith_K0 I.kIn m.kp (run_make0S m I h)) hdb)⟩
def eMk0 (t : Nat) : ED := fun _ M => .ok (.d (.obj t [] [])) M
theorem d_make0 (m : Mk0 X.K (cA t)) (hm : X.mg x = some (.ref (cA t))) (hg : Gl X x := by rfl) (hdb : (x == ("__debug__" : Str)) = false := by decide) : PE X (.Call (.Name x p) [] [] pos) (TED X.K cA Wx (eMk0 t)) :=
  PE.imp (pe_make0S m hm hg hdb) fun σ H Q ⟨z, env, M, g, c, sl, q⟩ => fun y dy hy hdy hne => by
    have c1 : Cf X.K cA z (upd H dy (.own y)) M g := c.scrib (c.fresh hdy)
    have hy1 : upd H dy (.own y) y = none := by rw [upd_ne (Ne.symm hne)]; exact hy
    obtain ⟨c2, l2⟩ := c1.lay (ho := .ins (cA t) dy []) hy1
    exact q _ _ c2 l2 (.ref y) ⟨y, dy, [], rfl, upd_same, rfl, rfl⟩
end
end DL

/-! Layer D: enumerate(tuple). -/
namespace PySem
open Sem (wp)
set_option maxHeartbeats 1000000 in
theorem meets_enum1 {v : Value} {ob : Obj} {Hs : Heap → Prop} (B : Begins v ob Hs) :
    Meets (Builtin.«enumerate.__new__» ⟨[.type "enumerate", v], []⟩) (fun _ R s => Hs s.heap ∧
      R (.ok (.ret (.ref (s.heap.push ob).objs.size))) { s with heap := (s.heap.push ob).push { cls := .type "enumerate", data := .fields #[.none, .bool false, .ref s.heap.objs.size, rawInt 0, .none, .none] } }) :=
  .of_wp fun prog w A R s hh => by
    obtain ⟨hp, gs, dr, tk, os⟩ := s
    obtain ⟨hv, hr⟩ := hh
    have hsub := sub_enumerate
    have begin1 : ∀ {A' : Around} {E : Value → Shared → Prop} {Q : Value → Shared → Prop}, Q (.ref hp.objs.size) ⟨hp.push ob, gs, dr, tk, os⟩ → wpAny (model prog w) A' (pyIter v) Q E ⟨hp, gs, dr, tk, os⟩ := fun q => B.iter prog w _ _ ⟨hp, gs, dr, tk, os⟩ _ hv q
    wp_walk using begin1
    refine wpAny_stack_any fun st => wpAny_pure ?_
    split
    · rename_i c _ _ _ _ _
      cases (c == Value.type "enumerate")
      · wp_walk using begin1
        exact ⟨_, rfl, hr⟩
      · wp_walk using begin1
        exact ⟨_, rfl, hr⟩
    · wp_walk using begin1
      exact ⟨_, rfl, hr⟩
end PySem
namespace PySem
section
variable {prog : Program} {w : World} {A : Around} {E : Value → Shared → Prop} {s : Shared}
/-- enumerate(v): two new cells -/
theorem enum1_begins {v : Value} {ob : Obj} {Hs : Heap → Prop} {Q : Value → Shared → Prop} (B : Begins v ob Hs) (hv : Hs s.heap)
    (hQ : ∀ h', IsEnum h' (s.heap.objs.size + 1) s.heap.objs.size 0 .none → h'.get? s.heap.objs.size = some ob → (∀ b y, s.heap.get? b = some y → h'.get? b = some y) → Q (.ref (s.heap.objs.size + 1)) { s with heap := h' }) :
    wpAny (model prog w) A (call (.type "enumerate") [v]) Q E s := by
  refine callType_new F.called_enumerate (by decide) (F.typeCall_enumerate_1 _) (F.newCall_enumerate_1 _) (fun o2 => F.args_object_init_2 o2 _) F.entry_enumerate_new (meets_enum1 B) ⟨hv, ?_⟩
  have size1 : (s.heap.push ob).objs.size = s.heap.objs.size + 1 := Heap.size_push ..
  show _ ∧ _
  rw [size1]
  have at1 : IsEnum ((s.heap.push ob).push { cls := .type "enumerate", data := .fields #[.none, .bool false, .ref s.heap.objs.size, rawInt 0, .none, .none] }) (s.heap.objs.size + 1) s.heap.objs.size 0 .none := by
    have z := Heap.get?_push_size (s.heap.push ob) (o := { cls := .type "enumerate", data := .fields #[.none, .bool false, .ref s.heap.objs.size, rawInt 0, .none, .none] }) rfl
    rw [size1] at z
    exact z
  exact ⟨⟨_, at1, rfl⟩, hQ _ at1 (Heap.get?_push_of_some _ (Heap.get?_push_size _ B.free)) fun b y z => Heap.get?_push_of_some _ (Heap.get?_push_of_some _ z)⟩
end
end PySem
namespace DL
open PySem PySem.Spec PyProof.Rows L2
/-- the tuple at a, each item in a new pair with its place -/
def IteT (K : PySem.W.Frag) (a : Addr) : It :=
  ⟨fun i H => ∃ (xs : List V) (x : V), SqT K H a xs ∧ xs[i]? = some x, fun i H v H' => ∃ T x, v = .ref T ∧ H T = none ∧ H' = upd H T (.tup [.int (i : Nat), x]) ∧ ∀ xs, SqT K H a xs → xs[i]? = some x, fun i H => ∃ xs : List V, SqT K H a xs ∧ xs.length ≤ i⟩
theorem turn_enumT {P : Program} {w : World} {K : PySem.W.Frag} {elts : List Expr} {kk : Nat} {tpos : Pos} (a e it : Addr) :
    Turn P w K (.Tuple elts kk tpos) (IteT K a) [e, it] e (fun i h => (∃ old, IsEnum h e it ((i : Nat) : Int) old) ∧ h.IsTupleIter it a i ∧ e ≠ it) where
  mem := List.mem_cons_self ..
  obj := fun i h st b hb => by
    obtain ⟨⟨old, he⟩, ⟨o2, g2, _, d2⟩, _⟩ := st
    rcases List.mem_cons.mp hb with rfl | hb
    · exact ⟨_, he, fun v q => nomatch q⟩
    · rw [List.mem_singleton.mp hb]
      exact ⟨o2, g2, fun v q => by rw [d2] at q; cases q⟩
  keep := fun i h h' st k => ⟨st.1.imp fun _ he => k e (List.mem_cons_self ..) _ he, st.2.1.at fun o q => k it (List.mem_cons_of_mem _ (List.mem_singleton.mpr rfl)) o q, st.2.2⟩
  item := by
    intro X hP hw hK hc i pins s σ H E I hf st hg
    cases hP
    cases hw
    cases hK
    obtain ⟨⟨old, he⟩, hit, hne⟩ := st
    obtain ⟨xs, x, hq, hx⟩ := hg
    obtain ⟨its, rv, tup, _⟩ := I.tuple hq
    obtain ⟨u, hu, ru⟩ := rv.get hx
    have itup : s.heap.IsTuple a its.toArray := tup
    have ha1 : a ≠ it := fun z => by
      obtain ⟨o1, g1, c1, _⟩ := itup
      obtain ⟨o2, g2, c2, _⟩ := hit
      rw [z, g2] at g1
      cases g1
      rw [c1] at c2
      exact absurd c2 (by decide)
    have ha2 : e ≠ a := fun z => by
      obtain ⟨o1, g1, c1, _⟩ := itup
      have g2 : s.heap.get? e = some _ := he
      rw [z, g1] at g2
      cases g2
      exact absurd c1 (show ¬ (Value.type "enumerate" = Value.type "tuple") by decide)
    have le1 : e < s.heap.objs.size := Heap.lt_size he
    have le2 : it < s.heap.objs.size := by
      obtain ⟨_, q, _⟩ := hit
      exact Heap.lt_size q
    have hlt : i < its.toArray.size := by
      have := (List.getElem?_eq_some_iff.mp hu).1
      simpa using this
    have D := Draws.tuple (prog := X.prog) (w := X.w) (A := X.A.in1) (I.ok.hd hc) it a ha1 its.toArray
    refine wpAny_pyNext_enum_itemD D he ⟨hit, itup⟩ hlt hne (fun z => ?_) fun y h1 tk hy out st1 hT hsz hk => ?_
    · rcases List.mem_cons.mp z with z | z
      · exact hne z
      · exact ha2 (List.mem_singleton.mp z)
    · have ey : y = u := by
        have q : its.toArray[i]? = some y := hy
        rw [List.getElem?_toArray, hu] at q
        exact (Option.some.inj q).symm
      subst ey
      refine ⟨_, rfl, wpAny_letOwnedTupleGo_enum (s := { s with heap := h1, toks := tk + 1 }) out fun h2 he2 sb => ?_⟩
      have gT : h2.get? s.heap.objs.size = some { cls := .type "tuple", data := .seq #[.int i tk, y] } := (sb.2 _ (Nat.ne_of_gt le1)).trans hT
      have okT : ObjOk X.prog X.w (upd H s.heap.objs.size (.tup [.int (i : Nat), x])) h2 s.heap.objs.size (.tup [.int (i : Nat), x]) :=
        ⟨(by decide : 2 ≤ sizeLine), [.int i tk, y], .cons ⟨_, rfl⟩ (.cons ru .nil), ⟨_, gT, rfl, _, rfl⟩⟩
      have I2 : Inv X pins σ (upd H s.heap.objs.size (.tup [.int (i : Nat), x])) { s with heap := h2, toks := tk + 1 } :=
        I.turnedNew (ch := [e, it]) (fun b ob hb q => (sb.2 b fun z => hb (by rw [z]; exact List.mem_cons_self ..)).trans (hk b ob (fun z => hb (by rw [z]; exact List.mem_cons_self ..)) (fun z => hb (by rw [z]; exact List.mem_cons_of_mem _ (List.mem_singleton.mpr rfl))) q)) hf (Nat.le_refl _) okT
      refine ⟨.ref s.heap.objs.size, _, I2, rfl, ⟨_, x, rfl, I.hok.fresh (Nat.le_refl _), rfl, fun ys hy => by rw [I.tuple_inj hy hq]; exact hx⟩, ⟨⟨y, ?_⟩, st1.1.at fun o q => (sb.2 it (Ne.symm hne)).trans q, hne⟩, fun b hb => ?_⟩
      · rw [show ((i + 1 : Nat) : Int) = (i : Int) + 1 by omega]
        exact he2
      · have hb2 : b < s.heap.objs.size := by
          rcases List.mem_cons.mp hb with z | z
          · rw [z]; exact le1
          · rw [List.mem_singleton.mp z]; exact le2
        rw [upd_ne (Nat.ne_of_lt hb2)]
        exact (hf b hb).1
  done := by
    intro X hP hw hK hc i pins s σ H E I hf st hg
    cases hP
    cases hw
    cases hK
    obtain ⟨⟨old, he⟩, hit, hne⟩ := st
    obtain ⟨xs, hq, hx⟩ := hg
    obtain ⟨its, rv, tup, _⟩ := I.tuple hq
    obtain ⟨f0, f1, f2, f3, f4, f5⟩ := hf it (List.mem_cons_of_mem _ (List.mem_singleton.mpr rfl))
    have hl := rv.length
    have itup : s.heap.IsTuple a its.toArray := tup
    have none1 : its.toArray[i]? = none := by
      rw [List.getElem?_toArray, List.getElem?_eq_none_iff]
      omega
    have D : Draws X.prog X.w X.A.in1 it [it, a] i (fun _ _ => True) (fun j h => j = i ∧ h.IsTupleIter it a j ∧ h.IsTuple a its.toArray) :=
      { live := fun _ _ st => st.2.1.imp fun _ q => q.1
        frame := fun _ _ _ st hk => ⟨st.1, st.2.1.at fun o q => hk it (List.mem_cons_self ..) o q, st.2.2.at fun o q => hk a (List.mem_cons_of_mem _ (List.mem_singleton.mpr rfl)) o q⟩
        item := fun j s Q E hj st _ => absurd hj (by rw [st.1]; exact Nat.lt_irrefl _)
        done := fun s Q E st hE => wpAny_nextOf_tuple_end (I.ok.hd hc) st.2.1 st.2.2 none1 hE }
    exact wpAny_pyNext_enum_endD D he ⟨rfl, hit, itup⟩ fun h' eb => ⟨rfl, I.turned (t' := s.toks) (fun b o hb q => eb b o hb q) f0 f1 f3 f4 f5⟩
  self := fun A i s Q E st h => wpAny_pyIter_enum st.1.choose_spec h
/-- enumerate of a tuple or a list -/
def iEnumA (K : PySem.W.Frag) (ta : TA) : TI := fun σ H R => ta σ H fun vs H1 => (∃ a, vs = [.ref a] ∧ (∃ xs, SqT K H1 a xs) ∧ R (IteT K a) H1) ∨ ∃ a, vs = [.ref a] ∧ (∃ xs, SqL K H1 a xs) ∧ R (Ite K a) H1
section
variable {X : Cx} {cA : Nat → Addr} {Wx : WX} {e : Expr} {mr : AD} {ta : TA} {p pos tpos : Pos} {elts : List Expr} {kk : Nat}
theorem two_new {s : Shared} {H : Hp} {pins : List (Addr × Obj)} {σ : St} {h' : Heap} (I : Inv X pins σ H s) {b : Addr} (hb : b ∈ [s.heap.objs.size + 1, s.heap.objs.size]) : FpOk X pins H b := by
  have le : s.heap.objs.size ≤ b := by
    rcases List.mem_cons.mp hb with z | z
    · rw [z]; exact Nat.le_succ _
    · rw [List.mem_singleton.mp z]; exact Nat.le_refl _
  exact I.fpOk le (I.hok.fresh le)
theorem pi_enumA (hg : Gl X "enumerate") (hm : X.mg "enumerate" = none) (ha : PA X [e] ta) (hs : starEach [e] X.env = [(false, eval e X.env)] := by rfl) : PI X (.Tuple elts kk tpos) (.Call (.Name "enumerate" p) [e] [] pos) (iEnumA X.K ta) := by
  constructor
  intro pins s σ H R I h
  refine Call_ (ld_blt I hg hm boot_enumerate (PyProof.Rows.callWith_type1 (thn (ha.run pos pins s σ H _ I h) fun us s1 ⟨vs, H1, I1, r1, q1⟩ => ?_) hs rfl))
  rcases q1 with ⟨a, ev, ⟨xs, hq⟩, q⟩ | ⟨a, ev, ⟨xs, hq⟩, q⟩
  · subst ev
    cases r1 with
    | cons r rr =>
      cases rr
      cases r
      obtain ⟨its, rv, tup, _⟩ := I1.tuple hq
      refine enum1_begins (begins_tuple a its.toArray) (show s1.heap.IsTuple a its.toArray from tup) fun h1 he hit hk => wpAny_pyIter_enum he ?_
      exact ⟨_, _, _, _, H1, rfl, I1.kept (t' := s1.toks) hk, turn_enumT a (s1.heap.objs.size + 1) s1.heap.objs.size, ⟨⟨.none, he⟩, ⟨_, hit, rfl, rfl⟩, Nat.succ_ne_self _⟩, fun b hb => two_new (h' := h1) I1 hb, q⟩
  · subst ev
    cases r1 with
    | cons r rr =>
      cases rr
      cases r
      obtain ⟨its, rv, lst, _⟩ := I1.list hq
      refine enum1_begins (begins_list a its.toArray) lst.isList fun h1 he hit hk => wpAny_pyIter_enum he ?_
      exact ⟨_, _, _, _, H1, rfl, I1.kept (t' := s1.toks) hk, turn_enum a (s1.heap.objs.size + 1) s1.heap.objs.size, ⟨⟨.none, he⟩, ⟨_, hit, rfl, rfl⟩, Nat.succ_ne_self _⟩, fun b hb => two_new (h' := h1) I1 hb, q⟩
/-- the pairs of enumerate -/
def pairsFrom : Nat → List D → List D
  | _, [] => []
  | n, x :: l => .tup [.int (n : Int), x] :: pairsFrom (n + 1) l
theorem pairs_get : ∀ {l : List D} {n i : Nat} {p : D}, (pairsFrom n l)[i]? = some p → ∃ x, l[i]? = some x ∧ p = .tup [.int ((n + i : Nat) : Int), x]
  | [], _, _, _, h => by simp [pairsFrom] at h
  | x :: l, n, 0, p, h => ⟨x, rfl, by simpa [pairsFrom] using h.symm⟩
  | x :: l, n, i + 1, p, h => by
    obtain ⟨y, h1, h2⟩ := pairs_get (l := l) (n := n + 1) (i := i) (by simpa [pairsFrom] using h)
    exact ⟨y, by simpa using h1, by rw [h2]; congr 4; omega⟩
theorem pairs_len : ∀ (l : List D) (n : Nat), (pairsFrom n l).length = l.length
  | [], _ => rfl
  | x :: l, n => by rw [pairsFrom, List.length_cons, List.length_cons, pairs_len l]
def iEnum (me : AD) : ID := fun env M => (me env M).bind fun ws M1 => match ws with
  | [w] => match nw M1 w with
    | .d (.tup l) => .ok (.its ((pairsFrom 0 l).map .d)) M1
    | .d (.lst l) => .ok (.its ((pairsFrom 0 l).map .d)) M1
    | _ => .no
  | _ => .no
theorem pair_new {K : PySem.W.Frag} {z : Z0} {g : Gh} {H : Hp} {M : Sto} (c : Cf K cA z H M g) {T : Addr} (hT : H T = none) {i : Nat} {d : D} {v : V} (r : Rep K cA g.F d v) :
    ∃ g3, Cf K cA z (upd H T (.tup [.int (i : Int), v])) M g3 ∧ Le g M.length g3 M.length ∧ RW K cA g3 M.length (.d (.tup [.int (i : Int), d])) (.ref T) := by
  obtain ⟨c2, l2⟩ := c.lay (ho := .tup [.int (i : Int), v]) hT
  exact ⟨_, c2, l2, T, [.int (i : Int), v], rfl, SqT.of upd_same, (by decide : 2 ≤ sizeLine), _, _, rfl, rfl, _, _, rfl, r.mono l2.F, rfl⟩
theorem jok_enumT {K : PySem.W.Frag} {z : Z0} {g : Gh} {n : Nat} {l : List D} {a : Addr} {vs : List V} (h1 : SqT K g.F a vs) (h2 : RepL K cA g.F l vs) : JOk K cA z g n (.its ((pairsFrom 0 l).map .d)) (IteT K a) := by
  intro i H2 M2 g2 ws c2 l2 e
  cases (Option.some.inj e)
  have hs : SqT K H2 a vs := c2.sub.seqT (l2.F.seqT h1)
  refine ⟨fun w hw => ?_, fun hi => ⟨vs, hs, by rw [← h2.length]; rw [List.length_map, pairs_len] at hi; exact hi⟩⟩
  obtain ⟨d, hd, rfl⟩ := map_some hw
  obtain ⟨x, hx, rfl⟩ := pairs_get hd
  obtain ⟨v, hv, rv⟩ := h2.get hx
  refine ⟨⟨vs, v, hs, hv⟩, fun y H3 ⟨T, v', ey, hT, eH, f3⟩ => ?_⟩
  subst ey
  subst eH
  have e4 : v' = v := by
    have := f3 vs hs
    rw [hv] at this
    exact (Option.some.inj this).symm
  subst e4
  rw [Nat.zero_add]
  exact pair_new c2 hT (rv.mono l2.F)
theorem jok_enumL {K : PySem.W.Frag} {z : Z0} {g : Gh} {n : Nat} {l : List D} {a : Addr} {vs : List V} (h1 : SqL K g.F a vs) (h2 : RepL K cA g.F l vs) : JOk K cA z g n (.its ((pairsFrom 0 l).map .d)) (Ite K a) := by
  intro i H2 M2 g2 ws c2 l2 e
  cases (Option.some.inj e)
  have hs : SqL K H2 a vs := c2.sub.seq (l2.F.seq h1)
  refine ⟨fun w hw => ?_, fun hi => ⟨vs, hs, by rw [← h2.length]; rw [List.length_map, pairs_len] at hi; exact hi⟩⟩
  obtain ⟨d, hd, rfl⟩ := map_some hw
  obtain ⟨x, hx, rfl⟩ := pairs_get hd
  obtain ⟨v, hv, rv⟩ := h2.get hx
  refine ⟨⟨vs, v, hs, hv⟩, fun y H3 ⟨T, v', ey, hT, eH, f3⟩ => ?_⟩
  subst ey
  subst eH
  have e4 : v' = v := by
    have := f3 vs hs
    rw [hv] at this
    exact (Option.some.inj this).symm
  subst e4
  rw [Nat.zero_add]
  exact pair_new c2 hT (rv.mono l2.F)
theorem i_enum (hm : X.mg "enumerate" = none) (ha : PA X [e] (TAD X.K cA Wx mr)) (hg : Gl X "enumerate" := by rfl) (hs : starEach [e] X.env = [(false, eval e X.env)] := by rfl) : PI X (.Tuple elts kk tpos) (.Call (.Name "enumerate" p) [e] [] pos) (TID X.K cA Wx (iEnum mr)) :=
  PI.imp (pi_enumA hg hm ha hs) fun σ H R ⟨z, env, M, g, c, sl, q⟩ => by
    refine ⟨z, env, M, g, c, sl, Res.imp (fun ws M1 g1 H1 c1 l1 q1 vs rv => ?_) q.of_bind⟩
    match ws, rv, q1 with
    | [w], .cons r1 .nil, q1 =>
      simp only at q1
      have r2 := rw_nw c1 r1
      split at q1
      · rename_i l hl
        rw [hl] at r2
        obtain ⟨a, us, rfl, h1, h2, h3⟩ := r2
        exact .inl ⟨a, rfl, ⟨us, c1.sub.seqT h1⟩, q1 H1 g1 c1 Le.refl _ fun _ => jok_enumT h1 h3⟩
      · rename_i l hl
        rw [hl] at r2
        obtain ⟨a, us, rfl, h1, h2, h3⟩ := r2
        exact .inr ⟨a, rfl, ⟨us, c1.sub.seq (SqL.of h1)⟩, q1 H1 g1 c1 Le.refl _ fun _ => jok_enumL (SqL.of h1) h3⟩
      · exact q1.elim
end
end DL

/-! Layer D: defs with defaults. -/
namespace DL
open PySem PySem.Spec PyProof.Rows L2
section
variable {P : Program} {w : World} {K : PySem.W.Frag} {mg : Str → Option Value} {base : Heap} {cA : Nat → Addr}
theorem fnOk_ofD {x qual : Str} {st : Stmt} {f : Addr} {fd : FuncData} {N ps : List Str} {k : Nat} {out : Nat → Wv → Sto → Rs Wv} {outx : Nat → Exn → Sto → Rs Wv} {body : SD} {dvs : List V} {kws : List (Str × V)} (F : FunD K x qual (defArgs st) (defBody st) (defScope st) dvs kws f fd) (S : FnScope N ps (defScope st)) (ho : OutOk K cA out) (hx : OutxOk K cA outx)
    (hbody : ∀ (cdv : Value) (A : Around) (outer : List Env) (s : Shared) (H : Hp) (E : XK), Room k (A.deeper (envOfC qual (defScope st) s.heap.objs.size f cdv)) →
      PSs (cxOf (L2.CX P w) P w K mg base N qual (defScope st) f cdv A outer s H E) (defBody st) (TSD K cA (fun cls d _ H' => E cls d H') body)) :
    FnOk P w K mg base (L2.CX P w) (k + 1) f fd ps (spD K cA ps.length (fnB body N.length out outx)) := by
  refine F.ok S (fun vs H Q E h => h.1) fun cdv A outer s H vs Q E hr h => ⟨_, hbody cdv A outer s H E hr, ?_⟩
  obtain ⟨_, z, M, g, ws, c, r, q⟩ := h
  refine ⟨ent H M g, _, M, g, c.enter, start_slots (N := N) r, ?_⟩
  unfold fnB at q
  cases e : body (ws.map some ++ List.replicate (N.length - ws.length) none) M with
  | no => simp [e, Res] at q
  | ex x M' => simp [e, Res] at q
  | ok o M' =>
    simp only [e] at q
    cases o with
    | nx e1 => exact fun H' g' c' l' σ' sl' => ho z H' H M' M g' g (.d .non) .non _ Q c' l' rfl q
    | rt u => exact fun H' g' c' l' v rv => ho z H' H M' M g' g u v _ Q c' l' rv q
    | bk e1 => exact q.elim
    | ct e1 => exact q.elim
    | xc e1 x => exact fun H' g' c' l' σ' cls d sl' rx => hx H' H M' M g' g x cls d E _ c' l' rx q
/-- a def whose defaults are one whole number: as K holds it -/
theorem funD1 {x qual : Str} {st : Stmt} {f T : Addr} {oc : Value} {od an : Option Addr} {osl : Array (Option Value)} {kV doc pm cdv ct : Value} {i : Int} {tk : Tok} {dT : Option Addr} {nT : Nat} {sT : Array (Option Value)}
    (l : K.lookup f = some ⟨oc, od, .func (PySem.W.fnOf x qual (defArgs st) (defBody st) (defScope st) (.ref T) kV doc pm an cdv ct), osl⟩) (c : PySem.W.codeIn K cdv qual = true) (k : PySem.W.keepIn K (.ref f) = true)
    (lT : K.lookup T = some ⟨.type "tuple", dT, .seq #[.int i tk] nT, sT⟩) : FunD K x qual (defArgs st) (defBody st) (defScope st) [.int i] [] f (PySem.W.fnOf x qual (defArgs st) (defBody st) (defScope st) (.ref T) kV doc pm an cdv ct) :=
  ⟨⟨oc, od, .ref T, kV, doc, pm, an, cdv, ct, osl, rfl, l, c, .inr ⟨List.cons_ne_nil _ _, T, _, [.int i tk], nT, rfl, lT, rfl, .cons ⟨_, rfl⟩ .nil⟩, .inl rfl⟩, k⟩
end
end DL

/-! Layer D: the evaluator: list * n, instances without __init__, enumerate; slices. -/
namespace DL
open PySem
section
variable {M : Sto} {P : PV} {E : PX} {t : Nat} {env : Ev}
theorem y_mk0 : (eMk0 t env M).Is P E = P (.d (.obj t [] [])) M := rfl
theorem y_rep {l : List D} {n : Nat} (h : l.length * n ≤ sizeLine) (hn : n < 2 ^ 62) : (repw true (.d (.lst l)) (.d (.int (n : Int))) M).Is P E = P (.d (.lst (List.replicate n l).flatten)) M := by
  unfold repw
  have h1 : decide (-(2 ^ 63) ≤ (n : Int) ∧ (n : Int) < 2 ^ 63) = true := decide_eq_true ⟨by omega, by omega⟩
  have h2 : (l.map Wv.d).length * (n : Int).toNat ≤ sizeLine := by rw [List.length_map, Int.toNat_natCast]; exact h
  have h3 : repL (n : Int) (l.map Wv.d) = ((List.replicate n l).flatten).map .d := by
    rw [repL, Int.toNat_natCast, List.map_flatten, List.map_replicate]
  simp only [lstw, nw_d, seqw_lst]
  rw [shut_eq, if_pos h1, if_pos h2, if_pos trivial, h3, nds_d]
  rfl
theorem y_repM {l : List D} {n : Nat} (h : l.length * n ≤ sizeLine) (hn : n < 2 ^ 62) : (repw false (.d (.lst l)) (.d (.int (n : Int))) M).Is P E = P (.m M.length) (M ++ [.lst (((List.replicate n l).flatten).map .d)]) := by
  unfold repw
  have h1 : decide (-(2 ^ 63) ≤ (n : Int) ∧ (n : Int) < 2 ^ 63) = true := decide_eq_true ⟨by omega, by omega⟩
  have h2 : (l.map Wv.d).length * (n : Int).toNat ≤ sizeLine := by rw [List.length_map, Int.toNat_natCast]; exact h
  have h3 : repL (n : Int) (l.map Wv.d) = ((List.replicate n l).flatten).map .d := by
    rw [repL, Int.toNat_natCast, List.map_flatten, List.map_replicate]
  simp only [lstw, nw_d, seqw_lst]
  rw [shut_eq, if_pos h1, if_pos h2, h3]
  rfl
def kEn (P : Src → Sto → Prop) : PL := fun ws M => match ws with
  | [w] => match nw M w with
    | .d (.tup l) => P (.its ((pairsFrom 0 l).map .d)) M
    | .d (.lst l) => P (.its ((pairsFrom 0 l).map .d)) M
    | _ => False
  | _ => False
theorem y_enum {me : AD} {P : Src → Sto → Prop} : (iEnum me env M).Is P E = (me env M).Is (kEn P) E := by
  unfold iEnum
  rw [is_bind]
  congr
  funext ws M1
  match ws with
  | [] => rfl
  | _ :: _ :: _ => rfl
  | [w] =>
    show (match nw M1 w with
      | .d (.tup l) => .ok (.its ((pairsFrom 0 l).map .d)) M1
      | .d (.lst l) => .ok (.its ((pairsFrom 0 l).map .d)) M1
      | _ => .no : Rs Src).Is P E = kEn P [w] M1
    unfold kEn
    simp only
    cases nw M1 w with
    | m k => rfl
    | d x => cases x <;> rfl
theorem kEn_tup {l : List D} {P : Src → Sto → Prop} : kEn P [.d (.tup l)] M = P (.its ((pairsFrom 0 l).map .d)) M := rfl
end
end DL

/-! Layer D: Euclid's way: Ratio and the laws' own fractions. -/
namespace DL
open PySem
local macro_rules
  | `(tactic| simp! [$xs,*]) => `(tactic| simp (config := {implicitDefEqProofs := false}) only [DL.oo_some, DL.oo_none, DL.kD_ap, DL.kX_ap, DL.y_next, DL.y_seq, DL.kSeq_nx, DL.kSeq_rt, DL.kSeq_bk, DL.kSeq_ct, DL.kSeq_xc, DL.y_expr, DL.kExpr_ap, DL.y_ret, DL.kRet_ap, DL.y_retN, DL.y_if, DL.kIf_t, DL.kIf_f, DL.y_never, DL.y_brk, DL.y_cnt, DL.y_asg, DL.kAsg_n, DL.kNx_ap, DL.y_par, DL.kPar_ap, DL.y_for, DL.kFor_its, DL.y_tgN, DL.y_tgT, DL.y_tgsC, DL.kGc_ap, DL.y_tgsN, DL.y_tb, DL.kTb_ap, DL.y_tru, DL.kTru_ap, DL.truw_non, DL.truw_bl, DL.truw_int, DL.truw_tup, DL.truw_lst, DL.truw_str, DL.y_nt, DL.kNt_ap, DL.y_an, DL.kAn_t, DL.kAn_f, DL.y_o, DL.kO_t, DL.kO_f, DL.y_yes, DL.y_c, DL.y_var0, DL.y_varS, DL.y_and, DL.kAnd_t, DL.kAnd_f, DL.y_or, DL.kOr_t, DL.kOr_f, DL.y_not, DL.kNot_bl, DL.y_eif, DL.kEif_t, DL.kEif_f, DL.y_aNil, DL.y_aCons, DL.kC1_ap, DL.kC2_ap, DL.y_aStar, DL.kS1_ap, DL.kS2_ap, DL.kS3_ap, DL.y_tup, DL.kTupl_ap, DL.kTup2_ap, DL.y_lst, DL.kLstl_ap, DL.kLst2_ap, DL.y_lstM, DL.kLstM_ap, DL.y_e1, DL.kE1_ap, DL.y_e2, DL.kE2_ap, DL.kE3_ap, DL.y_eL, DL.kL_f1, DL.kL_f2, DL.y_call, DL.kCall_ap, DL.y_meth, DL.kMe1_ap, DL.kMe2_ap, DL.y_chain, DL.kCh1_ap, DL.kCh2_ap, DL.kCh3_t, DL.kCh3_f, DL.y_pu1, DL.y_pu2, DL.add_int, DL.addI_int, DL.sub_int, DL.neg_int, DL.mul_int, DL.mod_int, DL.div_int, DL.lt_int, DL.le_int, DL.gt_int, DL.ge_int, DL.eq_int, DL.ne_int, DL.toint_int, DL.toint_bl, DL.tostr_str, DL.y_isN, DL.y_notN, DL.y_ixL, DL.y_ixT, DL.y_ixSc, DL.y_ixM0, DL.y_lenL, DL.y_lenT, DL.y_lenSc, DL.y_lenS, DL.y_listL, DL.y_listT, DL.y_listSc, DL.y_tupL, DL.y_tupT, DL.nds_cons, DL.nds_nil, DL.at0, DL.at1, DL.at2, DL.at3, DL.at4, DL.at5, DL.atM1, DL.atM2, DL.atM3, DL.y_fnD, DL.kFn_nx, DL.kFn_rt, DL.kFn_xc, DL.y_fnM, DL.kFnM_nx, DL.kFnM_rt, DL.kFnM_xc, DL.y_outC, DL.y_outC0, DL.y_callA, DL.eq_bl, DL.ne_bl, DL.eq_non, DL.y_inT, DL.y_in0, DL.y_inC, DL.yi_tup, DL.yi_lst, DL.yi_int, DL.yi_str, DL.yi_bl, DL.yi_non, DL.y_r1, DL.kR1_ap, DL.y_r2, DL.kR2_ap, DL.y_s1, DL.kSt1_ap, DL.kSt2_ap, DL.y_fLst, DL.y_fldaug, DL.kG1_ap, DL.kG2_ap, DL.kG3_ap, DL.kG4_ap, DL.kG5_ap, DL.y_fld, DL.kF1_ap, DL.kF2_ap, DL.y_lm, DL.kLM1_ap, DL.kLM2_ap, DL.kLM3_ap, DL.kLM4_ap, DL.lApp_one, DL.lstAt0, DL.lstAt1, DL.y_mk0, DL.y_rep, DL.y_repM, DL.y_enum, DL.kEn_tup, DL.is_ok, DL.is_bind, DL.is_sx, DL.is_nx, DL.nds_d, DL.seqw_tup, DL.seqw_lst, DL.seqw_scr, List.map_cons, List.map_nil, List.cons_append, List.nil_append, List.length_cons, List.length_nil, List.replicate_succ, List.replicate_zero, List.set_cons_zero, List.set_cons_succ, Nat.reduceSub, Nat.reduceAdd, DL.nd_d, DL.isNon, Bool.not_true, Bool.not_false, Option.map_some, Option.bind_some, List.isEmpty_cons, List.isEmpty_nil, decide_true, decide_false, if_true, if_false, ite_true, ite_false, true_and, Bool.false_eq_true, List.length_map, List.take_zero, List.all_nil, List.take_succ_cons, List.all_cons, Bool.and_true, and_true, and_self, Nat.reduceLeDiff, Int.reduceLT, Int.reduceLE, Int.reduceSub, Int.reduceAdd, Int.cast_ofNat_Int, Bool.false_bne, Bool.true_bne, DL.zsz, DL.kTup, DL.kLst, DL.kBl, DL.kInt, DL.kStr, $xs,*])
/-- the turns that Euclid's way takes -/
def eSteps (a b : Nat) : Nat := if h : b = 0 then 0 else eSteps b (a % b) + 1
termination_by b
decreasing_by exact Nat.mod_lt _ (Nat.pos_of_ne_zero h)
theorem eSteps_zero (a : Nat) : eSteps a 0 = 0 := by rw [eSteps, dif_pos rfl]
theorem eSteps_succ {a b : Nat} (h : b ≠ 0) : eSteps a b = eSteps b (a % b) + 1 := by rw [eSteps, dif_neg h]
theorem mod_half {b c : Nat} (hc : 0 < c) (h : c < b) : b % c < b / 2 + 1 ∧ 2 * (b % c) < b := by
  have h1 := Nat.mod_lt b hc
  have h2 := Nat.div_add_mod b c
  have h3 : 1 ≤ b / c := (Nat.one_le_div_iff hc).mpr (Nat.le_of_lt h)
  have h4 : c ≤ c * (b / c) := by
    have := Nat.mul_le_mul_left c h3
    omega
  omega
theorem eSteps_le : ∀ (k a b : Nat), b < 2 ^ k → eSteps a b ≤ 2 * k + 1
  | 0, a, b, h => by
    have : b = 0 := by
      have : (2 : Nat) ^ 0 = 1 := rfl
      omega
    rw [this, eSteps_zero]
    omega
  | k + 1, a, b, h => by
    by_cases h0 : b = 0
    · rw [h0, eSteps_zero]; omega
    · rw [eSteps_succ h0]
      by_cases h1 : a % b = 0
      · rw [h1, eSteps_zero]; omega
      · rw [eSteps_succ h1]
        have hl := Nat.mod_lt a (Nat.pos_of_ne_zero h0)
        have hh := (mod_half (Nat.pos_of_ne_zero h1) hl).2
        have : b % (a % b) < 2 ^ k := by
          have : (2 : Nat) ^ (k + 1) = 2 * 2 ^ k := by rw [Nat.pow_succ, Nat.mul_comm]
          omega
        have := eSteps_le k (a % b) (b % (a % b)) this
        omega
def kWh2 (t : TD) (body : SD) (f : Nat) (P : PO) (E : PX) : PO := fun o M => match o with
  | .nx e => (whS t body f e M).Is P E
  | .ct e => (whS t body f e M).Is P E
  | .bk e => P (.nx e) M
  | .rt w => P (.rt w) M
  | .xc e x => P (.xc e x) M
def kWh (t : TD) (body : SD) (f : Nat) (env : Ev) (P : PO) (E : PX) : PB := fun k M => if k = true then (body env M).Is (kWh2 t body f P E) E else P (.nx env) M
section
variable {t : TD} {body : SD} {f : Nat} {env e : Ev} {P : PO} {E : PX} {M : Sto} {w : Wv} {x : Exn}
theorem y_wh : (whS t body (f + 1) env M).Is P E = (t env M).Is (kWh t body f env P E) (kX env P) := by
  show (sx env (t env M) _).Is P E = _
  rw [is_sx]
  congr
  funext k M1
  cases k with
  | false => rfl
  | true =>
    show (Rs.bind _ _).Is P E = _
    rw [is_bind]
    unfold kWh
    rw [if_pos rfl]
    congr
    funext o M2
    cases o <;> rfl
theorem kWh_t : kWh t body f env P E true M = (body env M).Is (kWh2 t body f P E) E := rfl
theorem kWh_f : kWh t body f env P E false M = P (.nx env) M := rfl
theorem kWh2_nx : kWh2 t body f P E (.nx e) M = (whS t body f e M).Is P E := rfl
end
/-- the program's way -/
theorem gcd_while {w0 w1 w2 : Option Wv} {P : PO} {E : PX} {M : Sto} : ∀ (f a b : Nat), eSteps a b < f → P (.nx [w0, w1, w2, some (.d (.int ((Nat.gcd a b : Nat) : Int))), some (.d (.int 0))]) M →
    (whS (tTru (eVar 4)) (sPar 3 4 (aCons (eVar 4) (aCons (e2 (pu2 dMod) (eVar 3) (eVar 4)) aNil))) f [w0, w1, w2, some (.d (.int (a : Int))), some (.d (.int (b : Int)))] M).Is P E
  | 0, _, _, h, _ => absurd h (Nat.not_lt_zero _)
  | f + 1, a, b, h, hP => by
    by_cases h0 : b = 0
    · subst h0
      rw [Nat.gcd_zero_right] at hP
      have e0 : (((0 : Nat) : Int) != 0) = false := rfl
      simp! [y_wh, kWh_t, kWh_f, kWh2_nx, e0]
      exact hP
    · rw [eSteps_succ h0] at h
      have hb : (((b : Nat) : Int) != 0) = true := by
        rw [bne_iff_ne]
        omega
      have hp : (0 : Int) < (b : Int) := by omega
      have em : (a : Int) % (b : Int) = ((a % b : Nat) : Int) := rfl
      simp! [y_wh, kWh_t, kWh_f, kWh2_nx, hb, hp, em]
      refine gcd_while f b (a % b) (by omega) ?_
      rw [Nat.gcd_comm b, ← Nat.gcd_rec, Nat.gcd_comm] 
      exact hP
theorem stow1 {t : Nat} {f g : Str} {u v : Wv} {M : Sto} {P : Unit → Sto → Prop} {E : PX} (h : (g = f) = False) : (stow t f u (.m 0) (.ins t [g] [v] :: M)).Is P E = P () (.ins t [g, f] [v, u] :: M) := by
  show (if t = t ∧ [g].length < 1000 then (.ok () (MO.ins t (putN f [g]) (putW f u [g] [v]) :: M) : Rs Unit) else .no : Rs Unit).Is P E = _
  rw [if_pos ⟨rfl, by show 1 < 1000; decide⟩]
  have h1 : putN f [g] = [g, f] := by
    show (if g = f then _ else _) = _
    rw [if_neg (by rw [h]; exact fun z => z)]
    rfl
  have h2 : putW f u [g] [v] = [v, u] := by
    show (if g = f then _ else _) = _
    rw [if_neg (by rw [h]; exact fun z => z)]
    rfl
  rw [h1, h2]
  rfl
/-- Ratio.__init__ -/
def g_ratioInit (t : Nat) : FD := fnM
    (sSeq (sIf (tb (e2 (pu2 dLe) (eVar 2) (eC (.int 0)))) sNever sNext)
    (sSeq (sAsg (tgN 3) (eL (f1 (pu1 dAbs)) (aCons (eVar 1) aNil)))
    (sSeq (sAsg (tgN 4) (eVar 2))
    (sSeq (whS (tTru (eVar 4)) (sPar 3 4 (aCons (eVar 4) (aCons (e2 (pu2 dMod) (eVar 3) (eVar 4)) aNil))) 100000)
    (sSeq (sFld t "num" (eVar 0) (e2 (pu2 dDiv) (eVar 1) (eVar 3)))
    (sFld t "den" (eVar 0) (e2 (pu2 dDiv) (eVar 2) (eVar 3)))))))) 5
def gcdI (n : Int) (d : Nat) : Nat := Nat.gcd n.natAbs d
def ratD (t : Nat) (n : Int) (d : Nat) : D := .obj t ["num", "den"] [.int (n / (gcdI n d : Int)), .int ((d : Int) / (gcdI n d : Int))]
theorem gcdI_pos {n : Int} {d : Nat} (h : 0 < d) : 0 < gcdI n d := Nat.gcd_pos_of_pos_right _ h
theorem gcdI_le {n : Int} {d : Nat} (h : 0 < d) : gcdI n d ≤ d := Nat.gcd_le_right _ h
theorem divOk_nat {g : Nat} (h0 : 0 < g) (h : g < 2 ^ 8000) : divOk (g : Int) = true := by
  unfold divOk
  rw [decide_eq_true (by omega : (0 : Int) < (g : Int)), Bool.true_and, Int.natAbs_natCast]
  exact decide_eq_true (Nat.lt_of_lt_of_le ((Nat.log2_lt (by omega)).mpr h) (by decide))
theorem abs_int {n : Int} : dAbs (.int n) = some (.int (n.natAbs : Int)) := by
  show some (D.int (if n < 0 then -n else n)) = _
  congr 2
  split <;> omega
theorem ratioInit_is {t : Nat} {n : Int} {d : Nat} (h0 : 0 < d) (h : d < 2 ^ 8000) : g_ratioInit t [.m 0, .d (.int n), .d (.int (d : Int))] [.ins t [] []] = .ok (.d .non) [.ins t ["num", "den"] [.d (.int (n / (gcdI n d : Int))), .d (.int ((d : Int) / (gcdI n d : Int)))]] := by
  refine is_eq ?_
  have hs : eSteps n.natAbs d < 100000 := Nat.lt_of_le_of_lt (eSteps_le 8000 n.natAbs d h) (by decide)
  have hd : ¬ (d : Int) ≤ 0 := by omega
  have ok := divOk_nat (gcdI_pos (n := n) h0) (Nat.lt_of_le_of_lt (gcdI_le h0) h)
  have hn : (("num" : Str) = "den") = False := eq_false (by decide +kernel)
  rw [g_ratioInit, y_fnM]
  simp! [hd, abs_int]
  refine gcd_while 100000 _ _ hs ?_
  have e : ((Nat.gcd n.natAbs d : Nat) : Int) = (gcdI n d : Int) := rfl
  rw [e]
  simp! [div_int ok, stow0, stow1 hn]
/-- a law's own lowest terms -/
def g_less : FD := fnD
    (sSeq (sAsg (tgN 2) (eL (f1 (pu1 dAbs)) (aCons (eVar 0) aNil)))
    (sSeq (sAsg (tgN 3) (eVar 1))
    (sSeq (sFor (iR1 (aCons (eC (.int 4000)) aNil)) (tgN 4) (sSeq (sIf (tb (e2 (pu2 dEq) (eVar 3) (eC (.int 0)))) sBrk sNext)
    (sPar 2 3 (aCons (eVar 3) (aCons (e2 (pu2 dMod) (eL (f1 (pu1 dInt)) (aCons (eVar 2) aNil)) (eVar 3)) aNil)))))
    (sRet (eTup (aCons (e2 (pu2 dDiv) (eVar 0) (eVar 2)) (aCons (e2 (pu2 dDiv) (eVar 1) (eVar 2)) aNil))))))) 5
/-- n / d in lowest terms, as a pair -/
def lowP (n : Int) (d : Nat) : D := .tup [.int (n / (gcdI n d : Int)), .int ((d : Int) / (gcdI n d : Int))]
theorem less_is {n : Int} {d : Nat} (h0 : 0 < d) (h : d < 2 ^ 1900) : g_less [.d (.int n), .d (.int (d : Int))] [] = .ok (.d (lowP n d)) [] := by
  refine is_eq ?_
  have hs : eSteps n.natAbs d < 4000 := Nat.lt_of_le_of_lt (eSteps_le 1900 n.natAbs d h) (by decide)
  have ok := divOk_nat (gcdI_pos (n := n) h0) (Nat.lt_of_le_of_lt (gcdI_le h0) (Nat.lt_of_lt_of_le h (Nat.pow_le_pow_right (by decide) (by decide))))
  have r4 : 4000 ≤ sizeLine := by decide
  have e4 : (4000 : Int) = ((4000 : Nat) : Int) := rfl
  rw [g_less, y_fnD]
  simp! [abs_int, y_r1, kR1_ap]
  rw [e4, rng0_is r4]
  simp! [DL.is_ok]
  refine for_is (fun i env M => M = [] ∧ ∃ (a b : Nat) (o : Option Wv), env = [some (.d (.int n)), some (.d (.int (d : Int))), some (.d (.int (a : Int))), some (.d (.int (b : Int))), o] ∧ Nat.gcd a b = gcdI n d ∧ eSteps a b + i < 4000) (fun i w env M hw hI => ?_) (fun env M hI => ?_) _ _ _ _ (Nat.zero_add _) ⟨rfl, n.natAbs, d, none, rfl, rfl, by omega⟩
  · obtain ⟨rfl, a, b, o, rfl, hg, hi⟩ := hI
    by_cases hb : b = 0
    · subst hb
      rw [Nat.gcd_zero_right] at hg
      subst hg
      simp! [y_tgN, div_int ok, Int.natCast_zero, lowP]
    · have hb1 : ¬ (b : Int) = 0 := by omega
      have hb2 : (0 : Int) < (b : Int) := by omega
      have em : (a : Int) % (b : Int) = ((a % b : Nat) : Int) := rfl
      rw [eSteps_succ hb] at hi
      simp! [y_tgN, hb1, hb2, em]
      refine ⟨b, a % b, _, rfl, ?_, by omega⟩
      rw [Nat.gcd_comm b, ← Nat.gcd_rec, Nat.gcd_comm]
      exact hg
  · obtain ⟨_, a, b, o, _, _, hi⟩ := hI
    rw [rngL_len] at hi
    omega
end DL

/-! Layer D: fractions in lowest terms; Ratio's operators. -/
namespace DL
open PySem
abbrev Fr := Int × Nat
def low (n : Int) (d : Nat) : Fr := (n / (gcdI n d : Int), d / gcdI n d)
def frP (q : Fr) : D := .tup [.int q.1, .int (q.2 : Int)]
def frR (t : Nat) (q : Fr) : D := .obj t ["num", "den"] [.int q.1, .int (q.2 : Int)]
theorem lowP_eq (n : Int) (d : Nat) : lowP n d = frP (low n d) := by
  show D.tup [.int (n / (gcdI n d : Int)), .int ((d : Int) / (gcdI n d : Int))] = _
  rw [← Int.natCast_ediv]
  rfl
theorem ratD_eq (t : Nat) (n : Int) (d : Nat) : ratD t n d = frR t (low n d) := by
  show D.obj t ["num", "den"] [.int (n / (gcdI n d : Int)), .int ((d : Int) / (gcdI n d : Int))] = _
  rw [← Int.natCast_ediv]
  rfl
/-- in lowest terms -/
def Low (q : Fr) : Prop := 0 < q.2 ∧ Nat.Coprime q.1.natAbs q.2
theorem low_mul {n : Int} {d : Nat} (h : 0 < d) : (low n d).1 * (gcdI n d : Int) = n ∧ (low n d).2 * gcdI n d = d := by
  have h1 : (gcdI n d : Int) ∣ n := Int.ofNat_dvd_left.mpr (Nat.gcd_dvd_left _ _)
  have h2 : gcdI n d ∣ d := Nat.gcd_dvd_right _ _
  exact ⟨Int.ediv_mul_cancel h1, Nat.div_mul_cancel h2⟩
theorem low_low {n : Int} {d : Nat} (h : 0 < d) : Low (low n d) := by
  have g0 := gcdI_pos (n := n) h
  obtain ⟨h1, h2⟩ := low_mul (n := n) h
  refine ⟨Nat.div_pos (gcdI_le h) g0, ?_⟩
  have e : (low n d).1.natAbs = n.natAbs / gcdI n d := by
    have : (low n d).1.natAbs * gcdI n d = n.natAbs := by
      have := congrArg Int.natAbs h1
      rw [Int.natAbs_mul, Int.natAbs_natCast] at this
      exact this
    rw [← this, Nat.mul_div_cancel _ g0]
  rw [e]
  exact Nat.coprime_div_gcd_div_gcd g0
theorem low_le {n : Int} {d : Nat} : (low n d).2 ≤ d := Nat.div_le_self _ _
/-- fractions of one value have the same lowest terms -/
theorem Low.uniq {p q : Fr} (hp : Low p) (hq : Low q) (h : p.1 * (q.2 : Int) = q.1 * (p.2 : Int)) : p = q := by
  have ha : p.1.natAbs * q.2 = q.1.natAbs * p.2 := by
    have := congrArg Int.natAbs h
    rw [Int.natAbs_mul, Int.natAbs_mul, Int.natAbs_natCast, Int.natAbs_natCast] at this
    exact this
  have d1 : p.2 ∣ q.2 := hp.2.symm.dvd_of_dvd_mul_left (ha ▸ Nat.dvd_mul_left p.2 q.1.natAbs)
  have d2 : q.2 ∣ p.2 := hq.2.symm.dvd_of_dvd_mul_left (ha ▸ Nat.dvd_mul_left q.2 p.1.natAbs)
  have e : p.2 = q.2 := Nat.dvd_antisymm d1 d2
  rw [← e] at h
  have hp2 : (p.2 : Int) ≠ 0 := by have := hp.1; omega
  have e1 : p.1 = q.1 := Int.eq_of_mul_eq_mul_right hp2 h
  exact Prod.ext e1 e
theorem low_eq {n n' : Int} {d d' : Nat} (h : 0 < d) (h' : 0 < d') (e : n * (d' : Int) = n' * (d : Int)) : low n d = low n' d' := by
  refine Low.uniq (low_low h) (low_low h') ?_
  obtain ⟨h1, h2⟩ := low_mul (n := n) h
  obtain ⟨h3, h4⟩ := low_mul (n := n') h'
  have g0 : (gcdI n d : Int) ≠ 0 := by have := gcdI_pos (n := n) h; omega
  have g1 : (gcdI n' d' : Int) ≠ 0 := by have := gcdI_pos (n := n') h'; omega
  have h2' : ((low n d).2 : Int) * (gcdI n d : Int) = (d : Int) := by rw [← Int.natCast_mul, h2]
  have h4' : ((low n' d').2 : Int) * (gcdI n' d' : Int) = (d' : Int) := by rw [← Int.natCast_mul, h4]
  refine Int.eq_of_mul_eq_mul_right g0 (Int.eq_of_mul_eq_mul_right g1 ?_)
  have e2 : (low n d).1 * ((low n' d').2 : Int) * (gcdI n d : Int) * (gcdI n' d' : Int) = ((low n d).1 * (gcdI n d : Int)) * (((low n' d').2 : Int) * (gcdI n' d' : Int)) := by
    rw [Int.mul_assoc, Int.mul_assoc, Int.mul_assoc, Int.mul_left_comm ((low n' d').2 : Int)]
  have e3 : (low n' d').1 * ((low n d).2 : Int) * (gcdI n d : Int) * (gcdI n' d' : Int) = ((low n' d').1 * (gcdI n' d' : Int)) * (((low n d).2 : Int) * (gcdI n d : Int)) := by
    rw [Int.mul_assoc ((low n' d').1), Int.mul_assoc ((low n' d').1), Int.mul_assoc ((low n' d').1), Int.mul_comm (gcdI n' d' : Int)]
  rw [e2, e3, h1, h2', h3, h4', e]
theorem low_self {q : Fr} (h : Low q) : low q.1 q.2 = q := by
  obtain ⟨h1, h2⟩ := low_mul (n := q.1) h.1
  refine Low.uniq (low_low h.1) h ?_
  have g0 : (gcdI q.1 q.2 : Int) ≠ 0 := by have := gcdI_pos (n := q.1) h.1; omega
  refine Int.eq_of_mul_eq_mul_right g0 ?_
  have h2' : ((low q.1 q.2).2 : Int) * (gcdI q.1 q.2 : Int) = (q.2 : Int) := by rw [← Int.natCast_mul, h2]
  rw [Int.mul_right_comm, h1, Int.mul_assoc, h2']
end DL

/-! Layer D: Ratio's operators. -/
namespace DL
open PySem
local macro_rules
  | `(tactic| simp! [$xs,*]) => `(tactic| simp (config := {implicitDefEqProofs := false}) only [DL.oo_some, DL.oo_none, DL.kD_ap, DL.kX_ap, DL.y_next, DL.y_seq, DL.kSeq_nx, DL.kSeq_rt, DL.kSeq_bk, DL.kSeq_ct, DL.kSeq_xc, DL.y_expr, DL.kExpr_ap, DL.y_ret, DL.kRet_ap, DL.y_retN, DL.y_if, DL.kIf_t, DL.kIf_f, DL.y_never, DL.y_brk, DL.y_cnt, DL.y_asg, DL.kAsg_n, DL.kNx_ap, DL.y_par, DL.kPar_ap, DL.y_for, DL.kFor_its, DL.y_tgN, DL.y_tgT, DL.y_tgsC, DL.kGc_ap, DL.y_tgsN, DL.y_tb, DL.kTb_ap, DL.y_tru, DL.kTru_ap, DL.truw_non, DL.truw_bl, DL.truw_int, DL.truw_tup, DL.truw_lst, DL.truw_str, DL.y_nt, DL.kNt_ap, DL.y_an, DL.kAn_t, DL.kAn_f, DL.y_o, DL.kO_t, DL.kO_f, DL.y_yes, DL.y_c, DL.y_var0, DL.y_varS, DL.y_and, DL.kAnd_t, DL.kAnd_f, DL.y_or, DL.kOr_t, DL.kOr_f, DL.y_not, DL.kNot_bl, DL.y_eif, DL.kEif_t, DL.kEif_f, DL.y_aNil, DL.y_aCons, DL.kC1_ap, DL.kC2_ap, DL.y_aStar, DL.kS1_ap, DL.kS2_ap, DL.kS3_ap, DL.y_tup, DL.kTupl_ap, DL.kTup2_ap, DL.y_lst, DL.kLstl_ap, DL.kLst2_ap, DL.y_lstM, DL.kLstM_ap, DL.y_e1, DL.kE1_ap, DL.y_e2, DL.kE2_ap, DL.kE3_ap, DL.y_eL, DL.kL_f1, DL.kL_f2, DL.y_call, DL.kCall_ap, DL.y_meth, DL.kMe1_ap, DL.kMe2_ap, DL.y_chain, DL.kCh1_ap, DL.kCh2_ap, DL.kCh3_t, DL.kCh3_f, DL.y_pu1, DL.y_pu2, DL.add_int, DL.addI_int, DL.sub_int, DL.neg_int, DL.mul_int, DL.mod_int, DL.div_int, DL.lt_int, DL.le_int, DL.gt_int, DL.ge_int, DL.eq_int, DL.ne_int, DL.toint_int, DL.toint_bl, DL.tostr_str, DL.y_isN, DL.y_notN, DL.y_ixL, DL.y_ixT, DL.y_ixSc, DL.y_ixM0, DL.y_lenL, DL.y_lenT, DL.y_lenSc, DL.y_lenS, DL.y_listL, DL.y_listT, DL.y_listSc, DL.y_tupL, DL.y_tupT, DL.nds_cons, DL.nds_nil, DL.at0, DL.at1, DL.at2, DL.at3, DL.at4, DL.at5, DL.atM1, DL.atM2, DL.atM3, DL.y_fnD, DL.kFn_nx, DL.kFn_rt, DL.kFn_xc, DL.y_fnM, DL.kFnM_nx, DL.kFnM_rt, DL.kFnM_xc, DL.y_outC, DL.y_outC0, DL.y_callA, DL.eq_bl, DL.ne_bl, DL.eq_non, DL.y_inT, DL.y_in0, DL.y_inC, DL.yi_tup, DL.yi_lst, DL.yi_int, DL.yi_str, DL.yi_bl, DL.yi_non, DL.y_r1, DL.kR1_ap, DL.y_r2, DL.kR2_ap, DL.y_s1, DL.kSt1_ap, DL.kSt2_ap, DL.y_fLst, DL.y_fldaug, DL.kG1_ap, DL.kG2_ap, DL.kG3_ap, DL.kG4_ap, DL.kG5_ap, DL.y_fld, DL.kF1_ap, DL.kF2_ap, DL.y_lm, DL.kLM1_ap, DL.kLM2_ap, DL.kLM3_ap, DL.kLM4_ap, DL.lApp_one, DL.lstAt0, DL.lstAt1, DL.y_mk0, DL.y_rep, DL.y_repM, DL.y_enum, DL.kEn_tup, DL.is_ok, DL.is_bind, DL.is_sx, DL.is_nx, DL.nds_d, DL.seqw_tup, DL.seqw_lst, DL.seqw_scr, List.map_cons, List.map_nil, List.cons_append, List.nil_append, List.length_cons, List.length_nil, List.replicate_succ, List.replicate_zero, List.set_cons_zero, List.set_cons_succ, Nat.reduceSub, Nat.reduceAdd, DL.nd_d, DL.isNon, Bool.not_true, Bool.not_false, Option.map_some, Option.bind_some, List.isEmpty_cons, List.isEmpty_nil, decide_true, decide_false, if_true, if_false, ite_true, ite_false, true_and, Bool.false_eq_true, List.length_map, List.take_zero, List.all_nil, List.take_succ_cons, List.all_cons, Bool.and_true, and_true, and_self, Nat.reduceLeDiff, Int.reduceLT, Int.reduceLE, Int.reduceSub, Int.reduceAdd, Int.cast_ofNat_Int, Bool.false_bne, Bool.true_bne, DL.zsz, DL.kTup, DL.kLst, DL.kBl, DL.kInt, DL.kStr, $xs,*])
/-- a fraction whose parts are not too long -/
structure FrOk (k : Nat) (q : Fr) : Prop where
  pos : 0 < q.2
  den : q.2 < 2 ^ k
  num : q.1.natAbs < 2 ^ k
theorem mul_len {i j : Int} (hi : i.natAbs < 2 ^ 20000) (hj : j.natAbs < 2 ^ 20000) : mulOk i j = true := by
  have lg : ∀ x : Nat, x < 2 ^ 20000 → x.log2 < 20000 := fun x hx => by
    by_cases h : x = 0
    · subst h; decide
    · exact (Nat.log2_lt h).mpr hx
  unfold mulOk
  have := lg _ hi
  have := lg _ hj
  rw [Bool.or_eq_true]
  exact .inr (decide_eq_true (by omega))
theorem pow_mul_lt {a b j k : Nat} (ha : a < 2 ^ j) (hb : b < 2 ^ k) : a * b < 2 ^ (j + k) := by
  rw [Nat.pow_add]
  exact Nat.mul_lt_mul'' ha hb
section
variable (t : Nat)
def frAdd (p q : Fr) : Fr := low (p.1 * (q.2 : Int) + q.1 * (p.2 : Int)) (p.2 * q.2)
def frSub (p q : Fr) : Fr := low (p.1 * (q.2 : Int) - q.1 * (p.2 : Int)) (p.2 * q.2)
def frMul (p q : Fr) : Fr := low (p.1 * q.1) (p.2 * q.2)
def g_mk : FD := mkF t 3 (g_ratioInit t)
def g_add : FD := fnD
    (sRet (eCall (mkF t 3 (g_ratioInit t)) [] (aCons (e2 (pu2 dAdd) (e2 (pu2 dMul) (e1 (fldw [t] "num") (eVar 0)) (e1 (fldw [t] "den") (eVar 1))) (e2 (pu2 dMul) (e1 (fldw [t] "num") (eVar 1)) (e1 (fldw [t] "den") (eVar 0)))) (aCons (e2 (pu2 dMul) (e1 (fldw [t] "den") (eVar 0)) (e1 (fldw [t] "den") (eVar 1))) aNil)))) 2
def g_rsub : FD := fnD
    (sRet (eCall (mkF t 3 (g_ratioInit t)) [] (aCons (e2 (pu2 dSub) (e2 (pu2 dMul) (e1 (fldw [t] "num") (eVar 0)) (e1 (fldw [t] "den") (eVar 1))) (e2 (pu2 dMul) (e1 (fldw [t] "num") (eVar 1)) (e1 (fldw [t] "den") (eVar 0)))) (aCons (e2 (pu2 dMul) (e1 (fldw [t] "den") (eVar 0)) (e1 (fldw [t] "den") (eVar 1))) aNil)))) 2
def g_mul : FD := fnD
    (sRet (eCall (mkF t 3 (g_ratioInit t)) [] (aCons (e2 (pu2 dMul) (e1 (fldw [t] "num") (eVar 0)) (e1 (fldw [t] "num") (eVar 1))) (aCons (e2 (pu2 dMul) (e1 (fldw [t] "den") (eVar 0)) (e1 (fldw [t] "den") (eVar 1))) aNil)))) 2
def g_req : FD := fnD
    (sRet (eAnd (e1 (isiw (isOw t [])) (eVar 1)) (eAnd (e2 (pu2 dEq) (e1 (fldw [t] "num") (eVar 0)) (e1 (fldw [t] "num") (eVar 1))) (e2 (pu2 dEq) (e1 (fldw [t] "den") (eVar 0)) (e1 (fldw [t] "den") (eVar 1)))))) 2
end
section
variable {t : Nat} {p q : Fr} {M : Sto} {P : PV} {E : PX}
theorem mk_is {n : Int} {d : Nat} (h0 : 0 < d) (h : d < 2 ^ 8000) : mkF t 3 (g_ratioInit t) [.d (.int n), .d (.int (d : Int))] M = .ok (.d (frR t (low n d))) M := by
  have hr := ratioInit_is (t := t) (n := n) h0 h
  have hx : frR t (low n d) = .obj t ["num", "den"] [.int (n / (gcdI n d : Int)), .int ((d : Int) / (gcdI n d : Int))] := (ratD_eq t n d).symm
  rw [hx]
  exact mkF_d (xs := [.int n, .int (d : Int)]) rfl hr rfl
theorem f_num : (fldw [t] "num" (.d (frR t q)) M).Is P E = P (.d (.int q.1)) M := by
  show (if [t].contains t = true then match (["num", "den"].zip [D.int q.1, .int (q.2 : Int)]).lookup "num" with
      | some x => .ok (.d x) M
      | none => .no
    else .no : Rs Wv).Is P E = _
  rw [if_pos (by simp)]
  rfl
theorem f_den : (fldw [t] "den" (.d (frR t q)) M).Is P E = P (.d (.int (q.2 : Int))) M := by
  show (if [t].contains t = true then match (["num", "den"].zip [D.int q.1, .int (q.2 : Int)]).lookup "den" with
      | some x => .ok (.d x) M
      | none => .no
    else .no : Rs Wv).Is P E = _
  rw [if_pos (by simp)]
  rfl
theorem i_own {l : List D} {ns : List Str} : (isiw (isOw t []) (.d (.obj t ns l)) M).Is P E = P (.d (.bl true)) M := by
  show (match (isOw t [] (.obj t ns [])) with | some b => .ok (.d (.bl b)) M | none => .no : Rs Wv).Is P E = _
  have : isOw t [] (.obj t ns []) = some true := if_pos rfl
  rw [this]
  rfl
theorem den_mul (p q : Fr) : (p.2 : Int) * (q.2 : Int) = ((p.2 * q.2 : Nat) : Int) := (Int.natCast_mul _ _).symm
theorem den_len {k : Nat} (h : FrOk k q) (hk : k ≤ 4000) : ((q.2 : Nat) : Int).natAbs < 2 ^ 20000 := by
  rw [Int.natAbs_natCast]
  exact Nat.lt_of_lt_of_le h.den (Nat.pow_le_pow_right (by decide) (by omega))
theorem num_len {k : Nat} (h : FrOk k q) (hk : k ≤ 4000) : q.1.natAbs < 2 ^ 20000 := Nat.lt_of_lt_of_le h.num (Nat.pow_le_pow_right (by decide) (by omega))
theorem dd {k : Nat} (hp : FrOk k p) (hq : FrOk k q) (hk : k ≤ 4000) : p.2 * q.2 < 2 ^ 8000 := Nat.lt_of_lt_of_le (pow_mul_lt hp.den hq.den) (Nat.pow_le_pow_right (by decide) (by omega))
theorem add_own {k : Nat} (hp : FrOk k p) (hq : FrOk k q) (hk : k ≤ 4000) : ownw t (callR 0 2 (g_add t)) (.d (frR t p)) (.d (frR t q)) M = .ok (.d (frR t (frAdd p q))) M := by
  have hc : callR 0 2 (g_add t) [.d (frR t p), .d (frR t q)] M = .ok (.d (frR t (frAdd p q))) M := by
    refine call0 (xs := [frR t p, frR t q]) rfl (is_eq ?_)
    have hm := fun M => mk_is (t := t) (n := p.1 * (q.2 : Int) + q.1 * (p.2 : Int)) (d := p.2 * q.2) (M := M) (Nat.mul_pos hp.pos hq.pos) (dd hp hq hk)
    rw [g_add, y_fnD]
    simp! [f_num, f_den, mul_len (num_len hp hk) (den_len hq hk), mul_len (num_len hq hk) (den_len hp hk), mul_len (den_len hp hk) (den_len hq hk), den_mul, hm, frAdd]
  unfold ownw
  rw [if_pos ⟨by show (t == t && !(["num", "den"] : List Str).contains "") = true; rw [beq_self_eq_true]; rfl, by show (t == t && !(["num", "den"] : List Str).contains "") = true; rw [beq_self_eq_true]; rfl⟩, hc]
  rfl
theorem mul_own {k : Nat} (hp : FrOk k p) (hq : FrOk k q) (hk : k ≤ 4000) : ownw t (callR 0 2 (g_mul t)) (.d (frR t p)) (.d (frR t q)) M = .ok (.d (frR t (frMul p q))) M := by
  have hc : callR 0 2 (g_mul t) [.d (frR t p), .d (frR t q)] M = .ok (.d (frR t (frMul p q))) M := by
    refine call0 (xs := [frR t p, frR t q]) rfl (is_eq ?_)
    have hm := fun M => mk_is (t := t) (n := p.1 * q.1) (d := p.2 * q.2) (M := M) (Nat.mul_pos hp.pos hq.pos) (dd hp hq hk)
    rw [g_mul, y_fnD]
    simp! [f_num, f_den, mul_len (num_len hp hk) (num_len hq hk), mul_len (den_len hp hk) (den_len hq hk), den_mul, hm, frMul]
  unfold ownw
  rw [if_pos ⟨by show (t == t && !(["num", "den"] : List Str).contains "") = true; rw [beq_self_eq_true]; rfl, by show (t == t && !(["num", "den"] : List Str).contains "") = true; rw [beq_self_eq_true]; rfl⟩, hc]
  rfl
theorem req_own : ownw t (callR 0 2 (g_req t)) (.d (frR t p)) (.d (frR t q)) M = .ok (.d (.bl (decide (p = q)))) M := by
  have hc : callR 0 2 (g_req t) [.d (frR t p), .d (frR t q)] M = .ok (.d (.bl (decide (p = q)))) M := by
    refine call0 (xs := [frR t p, frR t q]) rfl (is_eq ?_)
    have hi : ∀ (P : PV) (E : PX) (M : Sto), (isiw (isOw t []) (.d (frR t q)) M).Is P E = P (.d (.bl true)) M := fun _ _ _ => i_own
    rw [g_req, y_fnD]
    by_cases h1 : p.1 = q.1
    · by_cases h2 : p.2 = q.2
      · have h3 : p = q := Prod.ext h1 h2
        subst h3
        simp! [f_num, f_den, hi]
      · have h3 : ¬ p = q := fun e => h2 (by rw [e])
        have h4 : ¬ (p.2 : Int) = (q.2 : Int) := by omega
        simp! [f_num, f_den, hi, eq_true h1, h4, h3]
    · have h3 : ¬ p = q := fun e => h1 (by rw [e])
      simp! [f_num, f_den, hi, h1, h3]
  unfold ownw
  rw [if_pos ⟨by show (t == t && !(["num", "den"] : List Str).contains "") = true; rw [beq_self_eq_true]; rfl, by show (t == t && !(["num", "den"] : List Str).contains "") = true; rw [beq_self_eq_true]; rfl⟩, hc]
  rfl
end
end DL

/-! Layer D: comprehensions by an invariant; lots. -/
namespace DL
open PySem
section
variable {tg : GD} {tt : TD} {te : ED} {ws : List Wv} {env : Ev}
/-- a comprehension, by an invariant over the places, what was gathered and the store -/
theorem compS_is (I : Nat → List Wv → Sto → Prop) (hl : ws.length ≤ sizeLine)
    (hs : ∀ i w acc M, ws[i]? = some w → I i acc M → (tg w env M).Is (fun e M1 => (tt e M1).Is (fun k M2 => if k = true then (te e M2).Is (fun y M3 => I (i + 1) (acc ++ [y]) M3) nox else I (i + 1) acc M2) nox) nox) :
    ∀ (f i cnt : Nat) (acc : List Wv) (M : Sto), i + f = ws.length → cnt ≤ i → I i acc M → (compS (.its ws) tg tt te f i cnt env M).Is (fun ys M' => I ws.length (acc ++ ys) M') nox
  | 0, i, cnt, acc, M, hi, _, h => by
    have : i = ws.length := by omega
    subst this
    unfold compS
    simp only [Src.at_its, Nat.le_refl, if_true, is_ok, List.append_nil]
    exact h
  | f + 1, i, cnt, acc, M, hi, hc, h => by
    have hlt : i < ws.length := by omega
    unfold compS
    simp only [Src.at_its, List.getElem?_eq_getElem hlt]
    rw [is_bind, is_nx]
    refine (hs i _ acc M (List.getElem?_eq_getElem hlt) h).imp (fun e M1 q => ?_) fun _ _ q => q
    rw [is_bind, is_nx]
    refine q.imp (fun k M2 q2 => ?_) fun _ _ q => q
    cases k with
    | false => exact compS_is I hl hs f (i + 1) cnt acc M2 (by omega) (by omega) q2
    | true =>
      rw [if_pos rfl] at q2
      rw [if_pos rfl, is_bind, is_nx]
      refine q2.imp (fun y M3 q3 => ?_) fun _ _ q => q
      rw [if_pos (by omega), is_bind]
      refine (compS_is I hl hs f (i + 1) (cnt + 1) (acc ++ [y]) M3 (by omega) (by omega) q3).imp (fun ys M4 q4 => ?_) fun _ _ q => q
      rw [is_ok]
      rw [List.append_assoc] at q4
      exact q4
theorem eLc_is {fin : List Wv → Sto → Rs Wv} {src : ID} {vs : List Nat} {M1 M : Sto} {P : PV} {E : PX} (I : Nat → List Wv → Sto → Prop) (hsrc : src env M1 = .ok (.its ws) M) (hl : ws.length ≤ sizeLine) (h0 : I 0 [] M)
    (hs : ∀ i w acc M, ws[i]? = some w → I i acc M → (tg w (wipeE env vs) M).Is (fun e M1 => (tt e M1).Is (fun k M2 => if k = true then (te e M2).Is (fun y M3 => I (i + 1) (acc ++ [y]) M3) nox else I (i + 1) acc M2) nox) nox)
    (hd : ∀ acc M, I ws.length acc M → (fin acc M).Is P E) : (eLc fin src tg tt te vs env M1).Is P E := by
  unfold eLc
  simp only [hsrc, Rs.bind_ok, Src.at_its]
  rw [is_bind]
  refine Rs.Is.any ((compS_is I hl hs ws.length 0 0 [] M (Nat.zero_add _) (Nat.le_refl _) h0).imp (fun ys M' q => ?_) fun _ _ q => q)
  exact hd _ _ q
end
section
variable {P : PV} {E : PX} {M : Sto} {ws : List Wv} {l : List D}
/-- a goal that is not to be opened unasked -/
structure Go (p : Prop) : Prop where
  go : p
theorem y_go {p : Prop} : Go p = p := propext ⟨Go.go, Go.mk⟩
theorem y_finF : (finF (l.map .d) M).Is P E = P (.d (.lst l)) M := by
  unfold finF
  rw [nds_d]
  rfl
theorem y_finM : (finM ws M).Is P E = P (.m M.length) (M ++ [.lst ws]) := rfl
theorem finF_is (h : P (.d (.lst l)) M) : (finF (l.map .d) M).Is P E := by
  unfold finF
  rw [nds_d]
  exact h
theorem finM_is (h : P (.m M.length) (M ++ [.lst ws])) : (finM ws M).Is P E := h
end
/-! ### lots -/
def lotsQ (ws : List Nat) : List Fr := ws.map fun (w : Nat) => low (w : Int) ws.sum
structure WOk (ws : List Nat) : Prop where
  pos : 0 < ws.sum
  few : ws.length ≤ 8
  sm : ws.sum < 2 ^ 30
theorem sum_bound {c : Nat} : ∀ {ws : List Nat}, (∀ w ∈ ws, w ≤ c) → ws.sum ≤ ws.length * c
  | [], _ => Nat.zero_le _
  | w :: ws, h => by
    rw [List.sum_cons, List.length_cons, Nat.add_mul, Nat.one_mul]
    have := h w (List.mem_cons_self ..)
    have := sum_bound (ws := ws) fun x hx => h x (List.mem_cons_of_mem _ hx)
    omega
theorem mem_le_sum : ∀ {ws : List Nat} {w : Nat}, w ∈ ws → w ≤ ws.sum
  | x :: ws, w, h => by
    rw [List.sum_cons]
    rcases List.mem_cons.mp h with rfl | h
    · omega
    · have := mem_le_sum h
      omega
theorem low_num_le {n : Int} {d : Nat} (h : 0 < d) : (low n d).1.natAbs ≤ n.natAbs := by
  obtain ⟨h1, _⟩ := low_mul (n := n) h
  have h2 := congrArg Int.natAbs h1
  rw [Int.natAbs_mul, Int.natAbs_natCast] at h2
  have g0 := gcdI_pos (n := n) h
  rw [← h2]
  exact Nat.le_mul_of_pos_right _ g0
theorem lot_ok {ws : List Nat} (h : WOk ws) {q : Fr} (hq : q ∈ lotsQ ws) : FrOk 30 q ∧ Low q ∧ 0 ≤ q.1 := by
  obtain ⟨w, hw, rfl⟩ := List.mem_map.mp hq
  have h1 := h.sm
  have h2 := mem_le_sum hw
  refine ⟨⟨(low_low h.pos).1, Nat.lt_of_le_of_lt low_le h1, Nat.lt_of_le_of_lt (low_num_le h.pos) ?_⟩, low_low h.pos, ?_⟩
  · rw [Int.natAbs_natCast]
    omega
  · exact Int.ediv_nonneg (by omega) (by omega)
end DL

/-! Layer D: drawn lots. -/
namespace DL
open PySem
local macro_rules
  | `(tactic| simp! [$xs,*]) => `(tactic| simp (config := {implicitDefEqProofs := false}) only [DL.oo_some, DL.oo_none, DL.kD_ap, DL.kX_ap, DL.y_next, DL.y_seq, DL.kSeq_nx, DL.kSeq_rt, DL.kSeq_bk, DL.kSeq_ct, DL.kSeq_xc, DL.y_expr, DL.kExpr_ap, DL.y_ret, DL.kRet_ap, DL.y_retN, DL.y_if, DL.kIf_t, DL.kIf_f, DL.y_never, DL.y_brk, DL.y_cnt, DL.y_asg, DL.kAsg_n, DL.kNx_ap, DL.y_par, DL.kPar_ap, DL.y_for, DL.kFor_its, DL.y_tgN, DL.y_tgT, DL.y_tgsC, DL.kGc_ap, DL.y_tgsN, DL.y_tb, DL.kTb_ap, DL.y_tru, DL.kTru_ap, DL.truw_non, DL.truw_bl, DL.truw_int, DL.truw_tup, DL.truw_lst, DL.truw_str, DL.y_nt, DL.kNt_ap, DL.y_an, DL.kAn_t, DL.kAn_f, DL.y_o, DL.kO_t, DL.kO_f, DL.y_yes, DL.y_c, DL.y_var0, DL.y_varS, DL.y_and, DL.kAnd_t, DL.kAnd_f, DL.y_or, DL.kOr_t, DL.kOr_f, DL.y_not, DL.kNot_bl, DL.y_eif, DL.kEif_t, DL.kEif_f, DL.y_aNil, DL.y_aCons, DL.kC1_ap, DL.kC2_ap, DL.y_aStar, DL.kS1_ap, DL.kS2_ap, DL.kS3_ap, DL.y_tup, DL.kTupl_ap, DL.kTup2_ap, DL.y_lst, DL.kLstl_ap, DL.kLst2_ap, DL.y_lstM, DL.kLstM_ap, DL.y_e1, DL.kE1_ap, DL.y_e2, DL.kE2_ap, DL.kE3_ap, DL.y_eL, DL.kL_f1, DL.kL_f2, DL.y_call, DL.kCall_ap, DL.y_meth, DL.kMe1_ap, DL.kMe2_ap, DL.y_chain, DL.kCh1_ap, DL.kCh2_ap, DL.kCh3_t, DL.kCh3_f, DL.y_pu1, DL.y_pu2, DL.add_int, DL.addI_int, DL.sub_int, DL.neg_int, DL.mul_int, DL.mod_int, DL.div_int, DL.lt_int, DL.le_int, DL.gt_int, DL.ge_int, DL.eq_int, DL.ne_int, DL.toint_int, DL.toint_bl, DL.tostr_str, DL.y_isN, DL.y_notN, DL.y_ixL, DL.y_ixT, DL.y_ixSc, DL.y_ixM0, DL.y_lenL, DL.y_lenT, DL.y_lenSc, DL.y_lenS, DL.y_listL, DL.y_listT, DL.y_listSc, DL.y_tupL, DL.y_tupT, DL.nds_cons, DL.nds_nil, DL.at0, DL.at1, DL.at2, DL.at3, DL.at4, DL.at5, DL.atM1, DL.atM2, DL.atM3, DL.y_fnD, DL.kFn_nx, DL.kFn_rt, DL.kFn_xc, DL.y_fnM, DL.kFnM_nx, DL.kFnM_rt, DL.kFnM_xc, DL.y_outC, DL.y_outC0, DL.y_callA, DL.eq_bl, DL.ne_bl, DL.eq_non, DL.y_inT, DL.y_in0, DL.y_inC, DL.yi_tup, DL.yi_lst, DL.yi_int, DL.yi_str, DL.yi_bl, DL.yi_non, DL.y_r1, DL.kR1_ap, DL.y_r2, DL.kR2_ap, DL.y_s1, DL.kSt1_ap, DL.kSt2_ap, DL.y_fLst, DL.y_fldaug, DL.kG1_ap, DL.kG2_ap, DL.kG3_ap, DL.kG4_ap, DL.kG5_ap, DL.y_fld, DL.kF1_ap, DL.kF2_ap, DL.y_lm, DL.kLM1_ap, DL.kLM2_ap, DL.kLM3_ap, DL.kLM4_ap, DL.lApp_one, DL.lstAt0, DL.lstAt1, DL.y_mk0, DL.y_rep, DL.y_repM, DL.y_enum, DL.kEn_tup, DL.y_go, DL.y_finF, DL.y_finM, DL.is_ok, DL.is_bind, DL.is_sx, DL.is_nx, DL.nds_d, DL.seqw_tup, DL.seqw_lst, DL.seqw_scr, List.map_cons, List.map_nil, List.cons_append, List.nil_append, List.length_cons, List.length_nil, List.replicate_succ, List.replicate_zero, List.set_cons_zero, List.set_cons_succ, Nat.reduceSub, Nat.reduceAdd, DL.nd_d, DL.isNon, Bool.not_true, Bool.not_false, Option.map_some, Option.bind_some, List.isEmpty_cons, List.isEmpty_nil, decide_true, decide_false, if_true, if_false, ite_true, ite_false, true_and, Bool.false_eq_true, List.length_map, List.take_zero, List.all_nil, List.take_succ_cons, List.all_cons, Bool.and_true, and_true, and_self, Nat.reduceLeDiff, Int.reduceLT, Int.reduceLE, Int.reduceSub, Int.reduceAdd, Int.cast_ofNat_Int, Bool.false_bne, Bool.true_bne, DL.zsz, DL.kTup, DL.kLst, DL.kBl, DL.kInt, DL.kStr, $xs,*])
def b_lots : SD :=
    (sSeq (sAsg (tgN 2) (eLc finM (iR1 (aCons (eVar 1) aNil)) (tgN 3) tYesD (eCall (callR 1 2 g_draw) [] (aCons (eVar 0) (aCons (eC (.int 4)) aNil))) [3]))
    (sSeq (sIf (tb (e2 (pu2 dEq) (eCall (callR 1 2 g_draw) [] (aCons (eVar 0) (aCons (eC (.int 3)) aNil))) (eC (.int 0)))) (sAsg (tgN 2) (e2 (repw false) (eLst (aCons (eC (.int 0)) aNil)) (eVar 1))) sNext)
    (sSeq (sIf (tb (e2 (pu2 dEq) (eL (f1 (fLst dSum)) (aCons (eVar 2) aNil)) (eC (.int 0)))) (sAsg (tgS (eVar 2) (eCall (callR 1 2 g_draw) [] (aCons (eVar 0) (aCons (eVar 1) aNil)))) (eC (.int 1))) sNext)
    (sSeq (sIf (tb (e2 (pu2 dEq) (eCall (callR 1 2 g_draw) [] (aCons (eVar 0) (aCons (eC (.int 6)) aNil))) (eC (.int 0)))) (sAsg (tgS (eVar 2) (eCall (callR 1 2 g_draw) [] (aCons (eVar 0) (aCons (eVar 1) aNil)))) (e2 ixw (eTup (aCons (eC (.int 100)) (aCons (eC (.int 10007)) (aCons (e2 (pu2 dPow) (eC (.int 10)) (eC (.int 7))) (aCons (e2 (pu2 dPow) (eC (.int 10)) (eC (.int 9))) aNil))))) (eCall (callR 1 2 g_draw) [] (aCons (eVar 0) (aCons (eC (.int 4)) aNil))))) sNext)
    (sRet (eLc finF (iSeq (eVar 2)) (tgN 4) tYesD (eCall (callR 0 2 g_less) [] (aCons (eVar 4) (aCons (eL (f1 (fLst dSum)) (aCons (eVar 2) aNil)) aNil))) [4]))))))
def g_lots : FD := fnD b_lots 5
def natW (ws : List Nat) : List Wv := ws.map fun (w : Nat) => Wv.d (.int (w : Int))
theorem natW_d (ws : List Nat) : natW ws = (ws.map fun (w : Nat) => D.int (w : Int)).map .d := by rw [natW, List.map_map]; rfl
theorem sum_ints (ws : List Nat) : dSum (ws.map fun (w : Nat) => D.int (w : Int)) = some (.int (ws.sum : Int)) := by
  have e : (ws.map fun (w : Nat) => D.int (w : Int)) = (ws.map fun (w : Nat) => (w : Int)).map .int := by rw [List.map_map]; rfl
  rw [e, dSum, intsOf_map]
  show some (D.int (ws.map fun (w : Nat) => (w : Int)).sum) = _
  congr 2
  induction ws with
  | nil => rfl
  | cons w ws ih =>
    rw [List.map_cons, List.sum_cons, List.sum_cons, ih (by rw [List.map_map]; rfl)]
    omega
/-- the list at the store's end, where k objects stand ahead -/
theorem sum_at {p p2 : MO} {ws : List Nat} {k : Nat} {P : PV} {E : PX} {M : Sto} (h : M[k]? = some (.lst (natW ws))) : (fLst dSum (.m k) M).Is P E = P (.d (.int (ws.sum : Int))) M := by
  unfold fLst
  simp only [seqw, nw, h]
  rw [natW_d, nds_d]
  simp only [sum_ints]
  rfl
theorem pow_7 : dPow (.int 10) (.int 7) = some (.int 10000000) := by
  show (if decide ((0 : Int) ≤ 7 ∧ (7 : Int) ≤ 1000000 ∧ (10 : Int).natAbs < 2 ^ 64) = true then some (D.int (10 ^ (7 : Int).toNat)) else none) = _
  rw [if_pos (by decide)]
  rfl
theorem pow_9 : dPow (.int 10) (.int 9) = some (.int 1000000000) := by
  show (if decide ((0 : Int) ≤ 9 ∧ (9 : Int) ≤ 1000000 ∧ (10 : Int).natAbs < 2 ^ 64) = true then some (D.int (10 ^ (9 : Int).toNat)) else none) = _
  rw [if_pos (by decide)]
  rfl
/-- xs[i] = w, xs the store's object k -/
theorem tgS_at {i k : Nat} {ie : ED} {w : Wv} {env : Ev} {M : Sto} {Q : Ev → Sto → Prop} {E : PX} (hv : env[i]? = some (some (.m k))) (hi : (ie env M).Is (fun x M2 => ∃ (j : Nat) (ws : List Wv), x = .d (.int (j : Int)) ∧ M2[k]? = some (.lst ws) ∧ j < ws.length ∧ Q env (M2.set k (.lst (ws.set j w)))) nox) : (tgS (eVar i) ie w env M).Is Q E := by
  have e : eVar i env M = .ok (.m k) M := by unfold eVar; rw [hv]
  rw [y_tgS, e, is_ok]
  unfold kTs1
  refine hi.imp (fun x M2 h => ?_) fun _ _ z => z
  obtain ⟨j, ws, rfl, h1, h2, h3⟩ := h
  have h4 : lstAt (.m k) M2 = some (k, ws) := by unfold lstAt; simp only [h1]
  simp only [h4]
  have h5 : L2.ixN ws.length (j : Int) = some j := by
    unfold L2.ixN
    rw [if_pos (Int.natCast_nonneg j), if_pos (by omega), Int.toNat_natCast]
  rw [h5]
  exact h3
section
variable {tg : GD} {te : ED} {M : Sto}
theorem comp_mapS {α : Type} (s : Src) (g : α → Wv) (v : α → D) {env : Ev} : ∀ (as : List α) (f i cnt : Nat) (pre : List α), s.at M = some ((pre ++ as).map g) → (∀ a ∈ as, ∃ e, tg (g a) env M = .ok e M ∧ te e M = .ok (.d (v a)) M) → f = as.length → i = pre.length → cnt + as.length ≤ sizeLine →
    compS s tg tYesD te f i cnt env M = .ok (as.map fun a => .d (v a)) M
  | [], f, i, cnt, pre, hat, h, hf, hi, hc => by
    subst hf hi
    unfold compS
    simp [hat]
  | a :: as, f, i, cnt, pre, hat, h, hf, hi, hc => by
    subst hf hi
    obtain ⟨e, h1, h2⟩ := h a (List.mem_cons_self ..)
    rw [List.length_cons] at hc ⊢
    unfold compS
    have e1 : ((pre ++ a :: as).map g)[pre.length]? = some (g a) := by
      rw [List.getElem?_map, List.getElem?_append_right (Nat.le_refl _), Nat.sub_self]
      rfl
    simp only [hat, e1, h1, nx_ok, Rs.bind_ok, tYesD, if_true, h2]
    rw [if_pos (by omega)]
    have e2 : pre ++ a :: as = (pre ++ [a]) ++ as := by rw [List.append_assoc]; rfl
    rw [e2] at hat
    rw [comp_mapS s g v as as.length (pre.length + 1) (cnt + 1) (pre ++ [a]) hat (fun b hb => h b (List.mem_cons_of_mem _ hb)) rfl (by rw [List.length_append]; rfl) (by omega)]
    rfl
theorem eLc_mapS {α : Type} {src : ID} {vs : List Nat} {env : Ev} {M1 : Sto} {s : Src} (g : α → Wv) (v : α → D) (as : List α) (hs : src env M1 = .ok s M) (hat : s.at M = some (as.map g)) (h : ∀ a ∈ as, ∃ e, tg (g a) (wipeE env vs) M = .ok e M ∧ te e M = .ok (.d (v a)) M) (hl : as.length ≤ sizeLine) :
    eLc finF src tg tYesD te vs env M1 = .ok (.d (.lst (as.map v))) M := by
  have e : (as.map fun a => Wv.d (v a)) = (as.map v).map .d := by rw [List.map_map]; rfl
  unfold eLc
  simp only [hs, Rs.bind_ok, hat]
  have := comp_mapS (tg := tg) (te := te) (M := M) s g v (env := wipeE env vs) as (as.map g).length 0 0 [] hat h (by rw [List.length_map]) rfl (by omega)
  rw [this, Rs.bind_ok, finF, e, nds_d]
end
theorem sum_set {ws : List Nat} {j x : Nat} (hj : j < ws.length) (hx : 0 < x) : 0 < (ws.set j x).sum := by
  have : x ≤ (ws.set j x).sum := mem_le_sum (List.mem_iff_getElem.mpr ⟨j, by rw [List.length_set]; exact hj, List.getElem_set_self _⟩)
  omega
theorem sum_set_le : ∀ (ws : List Nat) (j x : Nat), (ws.set j x).sum ≤ ws.sum + x
  | [], j, x => by simp
  | w :: ws, 0, x => by
    rw [List.set_cons_zero, List.sum_cons, List.sum_cons]
    omega
  | w :: ws, j + 1, x => by
    rw [List.set_cons_succ, List.sum_cons, List.sum_cons]
    have := sum_set_le ws j x
    omega
theorem natW_set (ws : List Nat) (j x : Nat) : (natW ws).set j (.d (.int (x : Int))) = natW (ws.set j x) := by
  rw [natW, natW, List.map_set]
theorem natW_len (ws : List Nat) : (natW ws).length = ws.length := by rw [natW, List.length_map]
theorem set_le {ws : List Nat} {j x c : Nat} (h : ∀ w ∈ ws, w ≤ c) (hx : x ≤ c) : ∀ w ∈ ws.set j x, w ≤ c := fun w hw => by
  rcases List.mem_or_eq_of_mem_set hw with h1 | h1
  · exact h w h1
  · rw [h1]; exact hx
/-- the last part: the weights as fractions -/
theorem lots_end {ws : List Nat} (hw : WOk ws) {j : Nat} {env : Ev} {p : MO} {rest : List MO} (he : ∀ w, eVar 2 ((wipeE env [4]).set 4 w) (p :: rest) = .ok (.m (j + 1)) (p :: rest)) (he0 : eVar 2 env (p :: rest) = .ok (.m (j + 1)) (p :: rest)) (he4 : ∀ w : Wv, eVar 4 ((wipeE env [4]).set 4 (some w)) (p :: rest) = .ok w (p :: rest)) (hr : rest[j]? = some (.lst (natW ws))) :
    eLc finF (iSeq (eVar 2)) (tgN 4) tYesD (eCall (callR 0 2 g_less) [] (aCons (eVar 4) (aCons (eL (f1 (fLst dSum)) (aCons (eVar 2) aNil)) aNil))) [4] env (p :: rest) = .ok (.d (.lst ((lotsQ ws).map frP))) (p :: rest) := by
  have hM : (p :: rest)[j + 1]? = some (.lst (natW ws)) := by rw [List.getElem?_cons_succ]; exact hr
  have hs : iSeq (eVar 2) env (p :: rest) = .ok (.live (j + 1)) (p :: rest) := by
    unfold iSeq
    rw [he0, Rs.bind_ok]
    unfold srcw
    simp only [nw, hM]
  have e1 : (lotsQ ws).map frP = ws.map fun (w : Nat) => frP (low (w : Int) ws.sum) := by rw [lotsQ, List.map_map]; rfl
  rw [e1]
  refine eLc_mapS (fun (w : Nat) => Wv.d (.int (w : Int))) (fun (w : Nat) => frP (low (w : Int) ws.sum)) ws hs (by
    show (match (p :: rest)[j + 1]? with
      | some (.lst us) => some us
      | _ => none) = _
    rw [hM]
    rfl) (fun w hw1 => ⟨_, rfl, ?_⟩) (Nat.le_trans hw.few (by decide))
  have hc : callR 0 2 g_less [.d (.int (w : Int)), .d (.int (ws.sum : Int))] (p :: rest) = .ok (.d (frP (low (w : Int) ws.sum))) (p :: rest) := by
    rw [← lowP_eq]
    exact call0 (xs := [.int (w : Int), .int (ws.sum : Int)]) rfl (less_is hw.pos (Nat.lt_of_lt_of_le hw.sm (Nat.pow_le_pow_right (by decide) (by decide))))
  refine is_eq ?_
  simp! [he, he4, sum_at (p := p) (p2 := p) hM, hc]
theorem get_set {rest : List MO} {j : Nat} {x y : MO} (h : rest[j]? = some x) : (rest.set j y)[j]? = some y := List.getElem?_set_self (List.getElem?_eq_some_iff.mp h).1
/-- from the fourth statement on -/
theorem lots4 {ws : List Nat} {c j : Nat} {p : MO} {rest : List MO} {P : PV} {x3 x4 : Option Wv} (hl : ws.length = c) (c2 : c ≤ 8) (c1 : 0 < c) (h3 : ∀ w ∈ ws, w ≤ 3) (h0 : 0 < ws.sum) (hp : PoolIs p) (hr : rest[j]? = some (.lst (natW ws)))
    (h : ∀ ws p', ws.length = c → WOk ws → PoolIs p' → P (.d (.lst ((lotsQ ws).map frP))) [p']) :
    ((sSeq (sIf (tb (e2 (pu2 dEq) (eCall (callR 1 2 g_draw) [] (aCons (eVar 0) (aCons (eC (.int 6)) aNil))) (eC (.int 0)))) (sAsg (tgS (eVar 2) (eCall (callR 1 2 g_draw) [] (aCons (eVar 0) (aCons (eVar 1) aNil)))) (e2 ixw (eTup (aCons (eC (.int 100)) (aCons (eC (.int 10007)) (aCons (e2 (pu2 dPow) (eC (.int 10)) (eC (.int 7))) (aCons (e2 (pu2 dPow) (eC (.int 10)) (eC (.int 9))) aNil))))) (eCall (callR 1 2 g_draw) [] (aCons (eVar 0) (aCons (eC (.int 4)) aNil))))) sNext)
    (sRet (eLc finF (iSeq (eVar 2)) (tgN 4) tYesD (eCall (callR 0 2 g_less) [] (aCons (eVar 4) (aCons (eL (f1 (fLst dSum)) (aCons (eVar 2) aNil)) aNil))) [4]))) [some (.m 0), some (.d (.int (c : Int))), some (.m (j + 1)), x3, x4] (p :: rest)).Is (kFn 1 P nox) nox := by
  have fin : ∀ (us : List Nat) (p' : MO) (rest' : List MO), WOk us → rest'[j]? = some (.lst (natW us)) →
      eLc finF (iSeq (eVar 2)) (tgN 4) tYesD (eCall (callR 0 2 g_less) [] (aCons (eVar 4) (aCons (eL (f1 (fLst dSum)) (aCons (eVar 2) aNil)) aNil))) [4] [some (.m 0), some (.d (.int (c : Int))), some (.m (j + 1)), x3, x4] (p' :: rest') = .ok (.d (.lst ((lotsQ us).map frP))) (p' :: rest') := fun us p' rest' g2 g4 =>
    lots_end g2 (j := j) (env := [some (.m 0), some (.d (.int (c : Int))), some (.m (j + 1)), x3, x4]) (p := p') (rest := rest') (fun _ => rfl) rfl (fun _ => rfl) g4
  have ci : (c : Int) < 2 ^ 63 := by omega
  have ci0 : (0 : Int) < (c : Int) := by omega
  simp! [DL.is_ok]
  refine draw1 (s := 6) (by decide) (by decide) hp fun v p1 v0 v1 hp1 => ?_
  by_cases hv : v = 0
  · subst hv
    simp! [pow_7, pow_9, y_asgG]
    refine draw1 (s := 4) (by decide) (by decide) hp1 fun u p2 u0 u1 hp2 => ?_
    obtain ⟨x, hx, ex⟩ := at_map ([100, 10007, 10000000, 1000000000] : List Nat) (fun (w : Nat) => Wv.d (.int (w : Int))) u0 u1
    have ex' : L2.atI [Wv.d (.int 100), .d (.int 10007), .d (.int 10000000), .d (.int 1000000000)] u = some (.d (.int (x : Int))) := ex
    have hx' : 0 < x ∧ x ≤ 1000000000 := by
      simp only [List.mem_cons, List.not_mem_nil, or_false] at hx
      omega
    simp! [ex', kAsg_g]
    refine tgS_at rfl ?_
    simp! [DL.is_ok]
    refine draw1 (s := (c : Int)) ci0 ci hp2 fun i p3 i0 i1 hp3 => ?_
    refine ⟨i.toNat, natW ws, by rw [Int.toNat_of_nonneg i0], by rw [List.getElem?_cons_succ]; exact hr, by rw [natW_len]; omega, ?_⟩
    rw [natW_set, List.set_cons_succ]
    have g2 : WOk (ws.set i.toNat x) := ⟨sum_set (by omega) hx'.1, by rw [List.length_set]; omega, by
      have b1 := sum_set_le ws i.toNat x
      have b2 := sum_bound h3
      have b3 : ws.length * 3 ≤ 24 := by omega
      omega⟩
    simp! [kNx_ap, fin _ p3 _ g2 (get_set hr)]
    exact ⟨hp3.below, h _ p3 (by rw [List.length_set]; exact hl) g2 hp3⟩
  · have g2 : WOk ws := ⟨h0, by omega, by
      have b2 := sum_bound h3
      have b3 : ws.length * 3 ≤ 24 := by omega
      omega⟩
    simp! [hv, fin _ p1 _ g2 hr]
    exact ⟨hp1.below, h ws p1 hl g2 hp1⟩
section
variable {α β : Type} {M M1 : Sto} {P : PV} {E : PX} {env : Ev} {src : ID} {tg : GD} {tt : TD} {te : ED} {vs : List Nat}
theorem src_eq {r : Rs Src} {s : Src} (h : r.Is (fun s' M' => s' = s ∧ M' = M) nox) : r = .ok s M := by
  obtain ⟨w, M', e, rfl, rfl⟩ := h.out
  exact e
theorem lcRA {fin : List Wv → Sto → Rs Wv} (n : Nat) (enc : β → D) (Q : β → Prop) {p : MO} {rest : Sto} (hl : n ≤ sizeLine) (hp : PoolIs p) (hs : Go ((src env M1).Is (fun s M' => s = .its (rngL 0 n) ∧ M' = p :: rest) nox))
    (h : ∀ i < n, ∀ p, PoolIs p → Go ((tg (.d (.int (i : Int))) (wipeE env vs) (p :: rest)).Is (fun e M' => M' = p :: rest ∧ (te e (p :: rest)).Is (fun w M'' => ∃ b p', w = .d (enc b) ∧ M'' = p' :: rest ∧ Q b ∧ PoolIs p') nox) nox))
    (k : ∀ (l : List β) (p : MO), l.length = n → (∀ b ∈ l, Q b) → PoolIs p → Go ((fin ((l.map enc).map .d) (p :: rest)).Is P E)) :
    (eLc fin src tg tYesD te vs env M1).Is P E := by
  refine eLc_is (fun i acc M => ∃ (l : List β) (p : MO), acc = (l.map enc).map .d ∧ l.length = i ∧ (∀ b ∈ l, Q b) ∧ PoolIs p ∧ M = p :: rest) (src_eq hs.go) (by rw [rngL_len]; exact hl) ⟨[], p, rfl, rfl, fun _ h => (List.not_mem_nil h).elim, hp, rfl⟩ (fun i w acc M hw hI => ?_) fun acc M hI => ?_
  · obtain ⟨l, p, rfl, hli, hQ, hp, rfl⟩ := hI
    have hi : i < n := by
      have := (List.getElem?_eq_some_iff.mp hw).1
      rw [rngL_len] at this
      exact this
    rw [rngL_get hi, Int.zero_add] at hw
    cases hw
    refine (h i hi p hp).go.imp (fun e M' q => ?_) fun _ _ z => z
    obtain ⟨rfl, q⟩ := q
    show (Rs.ok true (p :: rest)).Is _ _
    rw [is_ok, if_pos rfl]
    refine q.imp (fun w M'' q2 => ?_) fun _ _ z => z
    obtain ⟨b, p', rfl, rfl, hb, hp'⟩ := q2
    refine ⟨l ++ [b], p', ?_, by rw [List.length_append, hli]; rfl, fun c hc => ?_, hp', rfl⟩
    · rw [List.map_append, List.map_append]; rfl
    · rcases List.mem_append.mp hc with hc | hc
      · exact hQ c hc
      · rw [List.mem_singleton.mp hc]; exact hb
  · obtain ⟨l, p, rfl, hli, hQ, hp, rfl⟩ := hI
    rw [rngL_len] at hli
    exact (k l p hli hQ hp).go
end
/-- a list of drawn weights, its object at the store's end -/
theorem lots_is {c : Nat} {p : MO} {P : PV} (c1 : 0 < c) (c2 : c ≤ 8) (hp : PoolIs p) (h : ∀ ws p', ws.length = c → WOk ws → PoolIs p' → P (.d (.lst ((lotsQ ws).map frP))) [p']) :
    (g_lots [.m 0, .d (.int (c : Int))] [p]).Is P nox := by
  have ci : (c : Int) < 2 ^ 63 := by omega
  have ci0 : (0 : Int) < (c : Int) := by omega
  have cs : c ≤ sizeLine := Nat.le_trans c2 (by decide)
  rw [g_lots, y_fnD, b_lots]
  simp! [DL.is_ok]
  refine lcRA (rest := []) c (fun w : Nat => D.int (w : Int)) (fun w => w ≤ 3) cs hp ?_ (fun i hi p hp => ?_) fun ws p1 hl hw hp1 => ?_
  · simp! [y_r1, kR1_ap, rng0_is cs]
  · simp! [y_tgN]
    refine draw1 (s := 4) (by decide) (by decide) hp fun v p' v0 v1 hp' => ?_
    exact ⟨v.toNat, p', by rw [Int.toNat_of_nonneg v0], rfl, by omega, hp'⟩
  have hM : ∀ us : List Nat, ((us.map fun w : Nat => D.int (w : Int)).map Wv.d) = natW us := fun us => (natW_d us).symm
  simp! [hM]
  refine draw1 (s := 3) (by decide) (by decide) hp1 fun v p2 v0 v1 hp2 => ?_
  -- from the third statement on
  have third : ∀ (us : List Nat) (j : Nat) (rest : List MO) (p : MO) (x3 x4 : Option Wv), PoolIs p → us.length = c → (∀ w ∈ us, w ≤ 3) → rest[j]? = some (.lst (natW us)) →
      ((sSeq (sIf (tb (e2 (pu2 dEq) (eL (f1 (fLst dSum)) (aCons (eVar 2) aNil)) (eC (.int 0)))) (sAsg (tgS (eVar 2) (eCall (callR 1 2 g_draw) [] (aCons (eVar 0) (aCons (eVar 1) aNil)))) (eC (.int 1))) sNext)
    (sSeq (sIf (tb (e2 (pu2 dEq) (eCall (callR 1 2 g_draw) [] (aCons (eVar 0) (aCons (eC (.int 6)) aNil))) (eC (.int 0)))) (sAsg (tgS (eVar 2) (eCall (callR 1 2 g_draw) [] (aCons (eVar 0) (aCons (eVar 1) aNil)))) (e2 ixw (eTup (aCons (eC (.int 100)) (aCons (eC (.int 10007)) (aCons (e2 (pu2 dPow) (eC (.int 10)) (eC (.int 7))) (aCons (e2 (pu2 dPow) (eC (.int 10)) (eC (.int 9))) aNil))))) (eCall (callR 1 2 g_draw) [] (aCons (eVar 0) (aCons (eC (.int 4)) aNil))))) sNext)
    (sRet (eLc finF (iSeq (eVar 2)) (tgN 4) tYesD (eCall (callR 0 2 g_less) [] (aCons (eVar 4) (aCons (eL (f1 (fLst dSum)) (aCons (eVar 2) aNil)) aNil))) [4])))) [some (.m 0), some (.d (.int (c : Int))), some (.m (j + 1)), x3, x4] (p :: rest)).Is (kFn 1 P nox) nox := by
    intro us j rest p x3 x4 hp hl h3 hr
    have hM1 : (p :: rest)[j + 1]? = some (.lst (natW us)) := by rw [List.getElem?_cons_succ]; exact hr
    have hs := fun {P : PV} {E : PX} => sum_at (p := p) (p2 := p) (P := P) (E := E) hM1
    rw [y_seq]
    generalize hk : kSeq _ _ _ = R
    by_cases h0 : us.sum = 0
    · simp! [hs, h0, Int.natCast_zero, y_asgG, kAsg_g]
      refine tgS_at rfl ?_
      simp! [DL.is_ok]
      refine draw1 (s := (c : Int)) ci0 ci hp fun i p' i0 i1 hp' => ?_
      refine ⟨i.toNat, natW us, by rw [Int.toNat_of_nonneg i0], by rw [List.getElem?_cons_succ]; exact hr, by rw [natW_len]; omega, ?_⟩
      have e1 : (natW us).set i.toNat (.d (.int 1)) = natW (us.set i.toNat 1) := natW_set us i.toNat 1
      rw [List.set_cons_succ, e1, ← hk]
      exact lots4 (by rw [List.length_set]; exact hl) c2 c1 (set_le h3 (by decide)) (sum_set (by omega) (by decide)) hp' (get_set hr) h
    · have h0' : ¬ (us.sum : Int) = 0 := by omega
      simp! [hs, h0']
      rw [← hk]
      exact lots4 hl c2 c1 h3 (by omega) hp hr h
  generalize hk : kSeq _ _ _ = R
  by_cases hv : v = 0
  · subst hv
    have hrep : ∀ (P : PV) (E : PX) (M : Sto), (repw false (.d (.lst [.int 0])) (.d (.int (c : Int))) M).Is P E = P (.m M.length) (M ++ [.lst (natW (List.replicate c 0))]) := fun P E M => by
      rw [y_repM (by rw [List.length_singleton]; omega) (by omega), natW_d]
      congr 4
      have : ∀ n : Nat, (List.replicate n [D.int 0]).flatten = (List.replicate n 0).map fun (w : Nat) => D.int (w : Int) := fun n => by
        induction n with
        | zero => rfl
        | succ n ih => rw [List.replicate_succ, List.replicate_succ, List.flatten_cons, List.map_cons, ih]; rfl
      rw [this c]
    simp! [hrep]
    rw [← hk]
    refine third (List.replicate c 0) 1 _ p2 _ _ hp2 (List.length_replicate ..) (fun w hw => by rw [List.eq_of_mem_replicate hw]; decide) ?_
    rfl
  · simp! [hv]
    rw [← hk]
    refine third ws 0 _ p2 _ _ hp2 hl hw ?_
    rfl
end DL

/-! Layer D: comprehensions met within a goal; slices; sources. -/
namespace DL
open PySem
section
variable {α β : Type} {M M1 : Sto} {P : PV} {E : PX} {env : Ev} {src : ID} {tg : GD} {tt : TD} {te : ED} {vs : List Nat} {l : List D} {w : Wv}
def kSq (P : Src → Sto → Prop) (E : PX) : PV := fun w M => (srcw w M).Is P E
theorem y_iseq {me : ED} {P : Src → Sto → Prop} : (iSeq me env M).Is P E = (me env M).Is (kSq P E) E := is_bind
theorem kSq_lst {P : Src → Sto → Prop} : kSq P E (.d (.lst l)) M = P (.its (l.map .d)) M := rfl
theorem kSq_tup {P : Src → Sto → Prop} : kSq P E (.d (.tup l)) M = P (.its (l.map .d)) M := rfl
theorem kSq_m {P : Src → Sto → Prop} {k : Nat} {ws : List Wv} (h : M[k]? = some (.lst ws)) : kSq P E (.m k) M = P (.live k) M := by
  show (srcw (.m k) M).Is P E = _
  unfold srcw
  simp only [nw, h]
  rfl
/-- a comprehension, its source worked out -/
def kLc (fin : List Wv → Sto → Rs Wv) (tg : GD) (tt : TD) (te : ED) (vs : List Nat) (env : Ev) (P : PV) (E : PX) : Src → Sto → Prop := fun s M => (eLc fin (fun _ M => .ok s M) tg tt te vs env M).Is P E
theorem y_lc {fin : List Wv → Sto → Rs Wv} : (eLc fin src tg tt te vs env M).Is P E = (src env M).Is (kLc fin tg tt te vs env P E) E := by
  unfold eLc
  rw [is_bind]
  rfl
/-- … over data -/
theorem kcD (as : List α) (f v : α → D) (hl : as.length ≤ sizeLine)
    (h : ∀ a ∈ as, Go ((tg (.d (f a)) (wipeE env vs) M).Is (fun e M' => M' = M ∧ (te e M).Is (fun w M'' => w = .d (v a) ∧ M'' = M) nox) nox)) (k : Go (P (.d (.lst (as.map v))) M)) :
    kLc finF tg tYesD te vs env P E (.its ((as.map f).map .d)) M := by
  refine is_of (eLc_map (M1 := M) (fun a => .d (f a)) v as (by rw [List.map_map]; rfl) (fun a ha => ?_) hl) k.go
  obtain ⟨e, M', h1, rfl, h2⟩ := (h a ha).go.out
  exact ⟨e, h1, is_eq h2⟩
/-- … over a range -/
theorem kcR (n : Nat) (v : Nat → D) (hl : n ≤ sizeLine)
    (h : ∀ i < n, Go ((tg (.d (.int (i : Int))) (wipeE env vs) M).Is (fun e M' => M' = M ∧ (te e M).Is (fun w M'' => w = .d (v i) ∧ M'' = M) nox) nox)) (k : Go (P (.d (.lst ((List.range n).map v))) M)) :
    kLc finF tg tYesD te vs env P E (.its (rngL 0 n)) M := by
  rw [rngL_d]
  exact kcD (List.range n) (fun i => .int (i : Int)) v (by rw [List.length_range]; exact hl) (fun i hi => h i (List.mem_range.mp hi)) k
/-- … over a list of the store -/
theorem kcM (as : List α) (f v : α → D) (j : Nat) (hl : as.length ≤ sizeLine) (hj : M[j]? = some (.lst ((as.map f).map .d)))
    (h : ∀ a ∈ as, Go ((tg (.d (f a)) (wipeE env vs) M).Is (fun e M' => M' = M ∧ (te e M).Is (fun w M'' => w = .d (v a) ∧ M'' = M) nox) nox)) (k : Go (P (.d (.lst (as.map v))) M)) :
    kLc finF tg tYesD te vs env P E (.live j) M := by
  refine is_of (eLc_mapS (M1 := M) (s := .live j) (fun a => .d (f a)) v as rfl (by
    show (match M[j]? with
      | some (.lst us) => some us
      | _ => none) = _
    rw [hj, List.map_map]
    rfl) (fun a ha => ?_) hl) k.go
  obtain ⟨e, M', h1, rfl, h2⟩ := (h a ha).go.out
  exact ⟨e, h1, is_eq h2⟩
/-- … over a range, that draws -/
theorem kcRP {fin : List Wv → Sto → Rs Wv} (n : Nat) (enc : β → D) (Q : β → Prop) {p : MO} {rest : Sto} (hl : n ≤ sizeLine) (hp : PoolIs p)
    (h : ∀ i < n, ∀ p, PoolIs p → Go ((tg (.d (.int (i : Int))) (wipeE env vs) (p :: rest)).Is (fun e M' => M' = p :: rest ∧ (te e (p :: rest)).Is (fun w M'' => ∃ b p', w = .d (enc b) ∧ M'' = p' :: rest ∧ Q b ∧ PoolIs p') nox) nox))
    (k : ∀ (l : List β) (p : MO), l.length = n → (∀ b ∈ l, Q b) → PoolIs p → Go ((fin ((l.map enc).map .d) (p :: rest)).Is P E)) :
    kLc fin tg tYesD te vs env P E (.its (rngL 0 n)) (p :: rest) :=
  lcRA n enc Q hl hp ⟨⟨rfl, rfl⟩⟩ h k
theorem y_wipeN : wipeE env [] = env := rfl
theorem y_wipeC {i : Nat} {r : List Nat} : wipeE env (i :: r) = (wipeE env r).set i none := rfl
/-! slices -/
def kSl3 (lo : Option Int) (w : Wv) (P : PV) (E : PX) : Option Int → Sto → Prop := fun hi M => (slw true w lo hi M).Is P E
def kSl2 (h : OD) (w : Wv) (env : Ev) (P : PV) (E : PX) : Option Int → Sto → Prop := fun lo M => (h env M).Is (kSl3 lo w P E) E
def kSl1 (l h : OD) (env : Ev) (P : PV) (E : PX) : PV := fun w M => (l env M).Is (kSl2 h w env P E) E
def kOs (P : Option Int → Sto → Prop) : PV := fun w M => match w with
  | .d (.int i) => P (some i) M
  | _ => False
theorem y_sl {a : ED} {lo hi : OD} : (eSl true a lo hi env M).Is P E = (a env M).Is (kSl1 lo hi env P E) E := by
  unfold eSl
  rw [is_bind]
  congr
  funext w M1
  rw [is_bind]
  unfold kSl1
  congr
  funext x M2
  rw [is_bind]
  rfl
theorem kSl1_ap {lo hi : OD} : kSl1 lo hi env P E w M = (lo env M).Is (kSl2 hi w env P E) E := rfl
theorem kSl2_ap {hi : OD} {x : Option Int} : kSl2 hi w env P E x M = (hi env M).Is (kSl3 x w P E) E := rfl
theorem kSl3_ap {x y : Option Int} : kSl3 x w P E y M = (slw true w x y M).Is P E := rfl
theorem y_oNone {P : Option Int → Sto → Prop} : (oNone env M).Is P E = P none M := rfl
theorem y_oSome {a : ED} {P : Option Int → Sto → Prop} : (oSome a env M).Is P E = (a env M).Is (kOs P) E := by
  unfold oSome
  rw [is_bind]
  congr
  funext w M1
  cases w with
  | m _ => rfl
  | d x => cases x <;> rfl
theorem kOs_int {i : Int} {P : Option Int → Sto → Prop} : kOs P (.d (.int i)) M = P (some i) M := rfl
theorem cutL_map {γ : Type} (f : α → γ) (xs : List α) (lo hi : Option Int) : cutL (xs.map f) lo hi = (cutL xs lo hi).map f := by
  unfold cutL
  rw [List.length_map, List.map_take, List.map_drop]
theorem y_slL {lo hi : Option Int} : (slw true (.d (.lst l)) lo hi M).Is P E = P (.d (.lst (cutL l lo hi))) M := by
  unfold slw
  simp only [seqw_lst, cutL_map, nds_d, if_true]
  rfl
theorem y_slT {lo hi : Option Int} : (slw true (.d (.tup l)) lo hi M).Is P E = P (.d (.tup (cutL l lo hi))) M := by
  unfold slw
  simp only [seqw_tup, cutL_map, nds_d, if_true]
  rfl
theorem cut_to {xs : List α} {i : Nat} (h : i ≤ xs.length) : cutL xs none (some (i : Int)) = xs.take i := by
  have e1 : HT.sIx xs.length 0 none = 0 := rfl
  have e2 : HT.sIx xs.length xs.length (some (i : Int)) = i := by
    unfold HT.sIx
    simp only
    split <;> omega
  unfold cutL
  rw [e1, e2, List.drop_zero, Nat.sub_zero]
theorem cut_from {xs : List α} {i : Nat} (h : i ≤ xs.length) : cutL xs (some (i : Int)) none = xs.drop i := by
  have e1 : HT.sIx xs.length 0 (some (i : Int)) = i := by
    unfold HT.sIx
    simp only
    split <;> omega
  have e2 : HT.sIx xs.length xs.length none = xs.length := rfl
  unfold cutL
  rw [e1, e2]
  exact List.take_of_length_le (by rw [List.length_drop]; exact Nat.le_refl _)
/-! all, any, in -/
theorem all_map (as : List α) (f : α → Bool) : dAll (as.map fun a => D.bl (f a)) = some (.bl (as.all f)) := by
  have e : (as.map fun a => D.bl (f a)) = (as.map f).map .bl := by rw [List.map_map]; rfl
  rw [e, dAll, blsOf_map]
  show some (D.bl ((as.map f).all _root_.id)) = _
  rw [List.all_map]
  rfl
theorem any_map (as : List α) (f : α → Bool) : dAny (as.map fun a => D.bl (f a)) = some (.bl (as.any f)) := by
  have e : (as.map fun a => D.bl (f a)) = (as.map f).map .bl := by rw [List.map_map]; rfl
  rw [e, dAny, blsOf_map]
  show some (D.bl ((as.map f).any _root_.id)) = _
  rw [List.any_map]
  rfl
/-- b in a list of truth values -/
theorem in_bls {neg b : Bool} {as : List α} {f : α → Bool} : (inw neg (.d (.bl b)) (.d (.lst (as.map fun a => .bl (f a)))) M).Is P E = P (.d (.bl (neg != as.any fun a => f a == b))) M := by
  have h : inB (.d (.bl b)) (.d (.lst (as.map fun a => .bl (f a)))) M = some (as.any fun a => f a == b) := by
    unfold inB
    simp only [nd_d, seqw_lst, nds_d, Option.bind_some]
    unfold inD
    have hf : (as.map fun a => D.bl (f a)).all flatD = true := by
      rw [List.all_map]
      exact List.all_eq_true.mpr fun _ _ => rfl
    rw [if_pos (by rw [hf]; rfl)]
    congr 1
    rw [List.any_map]
    rfl
  unfold inw
  rw [h]
  rfl
theorem not_in_false {as : List α} {f : α → Bool} : (inw true (.d (.bl false)) (.d (.lst (as.map fun a => .bl (f a)))) M).Is P E = P (.d (.bl (as.all f))) M := by
  rw [in_bls]
  congr 3
  induction as with
  | nil => rfl
  | cons a as ih =>
    rw [List.any_cons, List.all_cons, ← ih]
    cases f a <;> simp
theorem in_false {as : List α} {f : α → Bool} : (inw false (.d (.bl false)) (.d (.lst (as.map fun a => .bl (f a)))) M).Is P E = P (.d (.bl (!as.all f))) M := by
  rw [in_bls]
  congr 3
  induction as with
  | nil => rfl
  | cons a as ih =>
    rw [List.any_cons, List.all_cons]
    cases f a <;> simp_all
end
/-! objects of the store that hold data alone -/
def Dat (mo : MO) : Prop := ∃ l : List D, mo = .lst (l.map .d)
theorem Dat.below {mo : MO} (h : Dat mo) (n : Nat) : mo.below n = true := by
  obtain ⟨l, rfl⟩ := h
  show (l.map Wv.d).all (Wv.below n) = true
  rw [List.all_map]
  exact List.all_eq_true.mpr fun _ _ => rfl
theorem PoolIs.dat {p : MO} (h : PoolIs p) : Dat p := by
  obtain ⟨l, i, a, b, c, d, _, rfl⟩ := h
  exact ⟨[.lst (l.map .int), .int i, .int a, .int b, .int c, .int d], rfl⟩
theorem dats_below {M : Sto} (h : ∀ mo ∈ M, Dat mo) (n k : Nat) : (M.take k).all (MO.below n) = true :=
  List.all_eq_true.mpr fun mo hm => (h mo (List.mem_of_mem_take hm)).below n
theorem dats_set {M : Sto} (h : ∀ mo ∈ M, Dat mo) {mo : MO} (hm : Dat mo) (j : Nat) : ∀ x ∈ M.set j mo, Dat x := fun x hx => by
  rcases List.mem_or_eq_of_mem_set hx with h1 | h1
  · exact h x h1
  · rw [h1]; exact hm
theorem dats_add {M : Sto} (h : ∀ mo ∈ M, Dat mo) {mo : MO} (hm : Dat mo) : ∀ x ∈ M ++ [mo], Dat x := fun x hx => by
  rcases List.mem_append.mp hx with h1 | h1
  · exact h x h1
  · rw [List.mem_singleton.mp h1]; exact hm
/-- a body that answers data, all objects of the store data -/
theorem y_outCd {n : Nat} {M : Sto} {x : D} {P : PV} {E : PX} (h : ∀ mo ∈ M, Dat mo) (hn : M.length = n) : (outC n (.d x) M).Is P E = P (.d x) M := by
  rw [y_outC, List.take_of_length_le (by omega)]
  have := dats_below h n M.length
  rw [List.take_length] at this
  simp only [this, true_and]
end DL

namespace K21
open PySem PySem.Spec PyProof.Rows L2 DL
/-! ### the text -/
def topS (i : Nat) : Stmt := PySem.Challenge.pw_splittalk_k21_chances_of_talks.main.body.getD i (.Pass ⟨0, 0, 0, 0⟩)
abbrev s__law_pool : Stmt := topS 22
abbrev s__law_talk : Stmt := topS 28
abbrev s__law_draw : Stmt := topS 23
abbrev s__law_lots : Stmt := topS 27
abbrev s__law_less : Stmt := topS 25
abbrev s__law_made : Stmt := topS 29
abbrev s_SayU_initU : Stmt := inClass (topS 12) 0
abbrev s_are_lots : Stmt := topS 9
abbrev s_RatioU_eqU : Stmt := inClass (topS 7) 1
abbrev s_total : Stmt := topS 8
abbrev s_RatioU_initU : Stmt := inClass (topS 7) 0
abbrev s_RatioU_addU : Stmt := inClass (topS 7) 2
abbrev s__law_chain : Stmt := topS 33
abbrev s__law_same : Stmt := topS 24
abbrev s__law_uneven : Stmt := topS 34
abbrev s_TableU_initU : Stmt := inClass (topS 20) 0
abbrev s_fits : Stmt := topS 13
abbrev s__law_fits : Stmt := topS 32
abbrev s_chances : Stmt := topS 15
abbrev s_spread : Stmt := topS 16
abbrev s_RatioU_mulU : Stmt := inClass (topS 7) 4
abbrev s_longest : Stmt := topS 14
abbrev s__law_longest : Stmt := topS 31
abbrev s__law_chances : Stmt := topS 30
abbrev s__law_times : Stmt := topS 26
abbrev s_law : Stmt := topS 35
theorem sc__law_pool : FnScope ["_law_script", "_law_budget"] ["_law_script", "_law_budget"] (defScope s__law_pool) := ⟨rfl, rfl, rfl, by decide +kernel, rfl, by decide +kernel, by decide +kernel⟩
theorem sc__law_talk : FnScope ["_law_pool_here", "_law_sizes", "_law_deep", "_law_person", "_law_count", "_law_lots_here", "_law_value", "_law_k"] ["_law_pool_here", "_law_sizes", "_law_deep"] (defScope s__law_talk) := ⟨rfl, rfl, rfl, by decide +kernel, rfl, by decide +kernel, by decide +kernel⟩
theorem sc__law_draw : FnScope ["_law_pool_here", "_law_size", "_law_cell", "_law_value"] ["_law_pool_here", "_law_size"] (defScope s__law_draw) := ⟨rfl, rfl, rfl, by decide +kernel, rfl, by decide +kernel, by decide +kernel⟩
theorem sc__law_lots : FnScope ["_law_pool_here", "_law_count", "_law_weights", "_law_k", "_law_weight"] ["_law_pool_here", "_law_count"] (defScope s__law_lots) := ⟨rfl, rfl, rfl, by decide +kernel, rfl, by decide +kernel, by decide +kernel⟩
theorem sc__law_less : FnScope ["_law_num", "_law_den", "_law_a", "_law_b", "_law_k"] ["_law_num", "_law_den"] (defScope s__law_less) := ⟨rfl, rfl, rfl, by decide +kernel, rfl, by decide +kernel, by decide +kernel⟩
theorem sc__law_made : FnScope ["_law_talk_here", "_law_lots_here", "_law_row", "_law_num", "_law_den", "_law_part"] ["_law_talk_here"] (defScope s__law_made) := ⟨rfl, rfl, rfl, by decide +kernel, rfl, by decide +kernel, by decide +kernel⟩
theorem sc_SayU_initU : FnScope ["self", "person", "lots", "parts", "row"] ["self", "person", "lots", "parts"] (defScope s_SayU_initU) := ⟨rfl, rfl, rfl, by decide +kernel, rfl, by decide +kernel, by decide +kernel⟩
theorem sc_are_lots : FnScope ["ratios", "count", "ratio"] ["ratios", "count"] (defScope s_are_lots) := ⟨rfl, rfl, rfl, by decide +kernel, rfl, by decide +kernel, by decide +kernel⟩
theorem sc_RatioU_eqU : FnScope ["self", "other"] ["self", "other"] (defScope s_RatioU_eqU) := ⟨rfl, rfl, rfl, by decide +kernel, rfl, by decide +kernel, by decide +kernel⟩
theorem sc_total : FnScope ["ratios", "result", "ratio"] ["ratios"] (defScope s_total) := ⟨rfl, rfl, rfl, by decide +kernel, rfl, by decide +kernel, by decide +kernel⟩
theorem sc_RatioU_initU : FnScope ["self", "num", "den", "one", "other"] ["self", "num", "den"] (defScope s_RatioU_initU) := ⟨rfl, rfl, rfl, by decide +kernel, rfl, by decide +kernel, by decide +kernel⟩
theorem sc_RatioU_addU : FnScope ["self", "other"] ["self", "other"] (defScope s_RatioU_addU) := ⟨rfl, rfl, rfl, by decide +kernel, rfl, by decide +kernel, by decide +kernel⟩
theorem sc__law_chain : FnScope ["_law_pool_here", "_law_sizes", "_law_talk_here", "_law_k", "_law_person", "_law_count", "_law_lots_here", "_law_value"] ["_law_pool_here", "_law_sizes"] (defScope s__law_chain) := ⟨rfl, rfl, rfl, by decide +kernel, rfl, by decide +kernel, by decide +kernel⟩
theorem sc__law_same : FnScope ["_law_actual", "_law_due", "_law_k"] ["_law_actual", "_law_due"] (defScope s__law_same) := ⟨rfl, rfl, rfl, by decide +kernel, rfl, by decide +kernel, by decide +kernel⟩
theorem sc__law_uneven : FnScope ["_law_pool_here", "_law_sizes", "_law_talk_here", "_law_person", "_law_right", "_law_count", "_law_table", "_law_ends", "_law_ahead", "_law_behind", "_law_one", "_law_row"] ["_law_pool_here", "_law_sizes", "_law_talk_here"] (defScope s__law_uneven) := ⟨rfl, rfl, rfl, by decide +kernel, rfl, by decide +kernel, by decide +kernel⟩
theorem sc_TableU_initU : FnScope ["self", "rows", "width", "row", "result"] ["self", "rows"] (defScope s_TableU_initU) := ⟨rfl, rfl, rfl, by decide +kernel, rfl, by decide +kernel, by decide +kernel⟩
theorem sc_fits : FnScope ["table", "talk", "count", "part"] ["table", "talk"] (defScope s_fits) := ⟨rfl, rfl, rfl, by decide +kernel, rfl, by decide +kernel, by decide +kernel⟩
theorem sc__law_fits : FnScope ["_law_talk_here", "_law_sizes", "_law_part"] ["_law_talk_here", "_law_sizes"] (defScope s__law_fits) := ⟨rfl, rfl, rfl, by decide +kernel, rfl, by decide +kernel, by decide +kernel⟩
theorem sc_chances : FnScope ["talk", "row", "column", "found"] ["talk", "row", "column"] (defScope s_chances) := ⟨rfl, rfl, rfl, by decide +kernel, rfl, by decide +kernel, by decide +kernel⟩
theorem sc_spread : FnScope ["talk", "values", "way", "chance", "found", "lots", "message", "part"] ["talk", "values", "way", "chance", "found"] (defScope s_spread) := ⟨rfl, rfl, rfl, by decide +kernel, rfl, by decide +kernel, by decide +kernel⟩
theorem sc_RatioU_mulU : FnScope ["self", "other"] ["self", "other"] (defScope s_RatioU_mulU) := ⟨rfl, rfl, rfl, by decide +kernel, rfl, by decide +kernel, by decide +kernel⟩
theorem sc_longest : FnScope ["talk", "part"] ["talk"] (defScope s_longest) := ⟨rfl, rfl, rfl, by decide +kernel, rfl, by decide +kernel, by decide +kernel⟩
theorem sc__law_longest : FnScope ["_law_talk_here", "_law_part"] ["_law_talk_here"] (defScope s__law_longest) := ⟨rfl, rfl, rfl, by decide +kernel, rfl, by decide +kernel, by decide +kernel⟩
theorem sc__law_chances : FnScope ["_law_talk_here", "_law_values", "_law_way", "_law_chance", "_law_found", "_law_lots_here", "_law_k"] ["_law_talk_here", "_law_values", "_law_way", "_law_chance"] (defScope s__law_chances) := ⟨rfl, rfl, rfl, by decide +kernel, rfl, by decide +kernel, by decide +kernel⟩
theorem sc__law_times : FnScope ["_law_one", "_law_other"] ["_law_one", "_law_other"] (defScope s__law_times) := ⟨rfl, rfl, rfl, by decide +kernel, rfl, by decide +kernel, by decide +kernel⟩
theorem sc_law : FnScope ["_law_script", "_law_pool_here", "_law_sizes", "_law_talk_here", "_law_made_here", "_law_row", "_law_more", "_law_long", "_law_inner", "_law_place", "_law_uneven_here", "_law_column", "_law_own", "_law_table", "_law_found", "_law_way", "_law_chance", "_law_pair"] ["_law_script"] (defScope s_law) := ⟨rfl, rfl, rfl, by decide +kernel, rfl, by decide +kernel, by decide +kernel⟩
/-! ### tags, constants -/
abbrev tRatio : Nat := 1
abbrev tEnd : Nat := 2
abbrev tSay : Nat := 3
abbrev tTable : Nat := 4
abbrev tsOwn : List Nat := []
def k_GREATEST : D := .int 65535
def k_MOST_VALUES : D := .int 8
/-! ### the mirror -/
def b__law_pool  : SD :=
    (sRet (eLstM (aCons (eL (f1 listw) (aCons (eVar 0) aNil)) (aCons (eC (.int 0)) (aCons (eC (.int 0)) (aCons (eC (.int 1)) (aCons (eC (.int 0)) (aCons (eVar 1) aNil))))))))
def m__law_pool : FD := fnM b__law_pool 2
def b__law_draw  : SD :=
    (sSeq (sIf (tAn (tb (e2 (pu2 dLe) (e2 ixw (eVar 0) (eC (.int 2))) (eC (.int 0)))) (tAn (tb (e2 (pu2 dLe) (e2 ixw (eVar 0) (eC (.int 4))) (eC (.int 0)))) (tb (e2 (pu2 dLt) (e2 ixw (eVar 0) (eC (.int 1))) (eL (f1 lenw) (aCons (e2 ixw (eVar 0) (eC (.int 0))) aNil)))))) (sSeq (sAsg (tgN 2) (e2 ixw (e2 ixw (eVar 0) (eC (.int 0))) (e2 ixw (eVar 0) (eC (.int 1)))))
    (sSeq (sAsg (tgS (eVar 0) (eC (.int 1))) (e2 (pu2 dAdd) (e2 ixw (eVar 0) (eC (.int 1))) (eC (.int 1))))
    (sSeq (sAsg (tgS (eVar 0) (eC (.int 3))) (e2 (pu2 dMod) (eL (f1 (pu1 dInt)) (aCons (e2 (pu2 dAdd) (e2 (pu2 dMul) (e2 ixw (eVar 0) (eC (.int 3))) (eC (.int 31))) (eVar 2)) aNil)) (eC (.int 2147483647))))
    (sSeq (sAsg (tgS (eVar 0) (eC (.int 4))) (eC (.int 7)))
    (sIf (tb (e2 (pu2 dGe) (eVar 2) (e2 (pu2 dPow) (eC (.int 10)) (eC (.int 18))))) (sAsg (tgS (eVar 0) (eC (.int 2))) (eVar 2)) sNext))))) sNext)
    (sSeq (sIf (tb (e2 (pu2 dGt) (e2 ixw (eVar 0) (eC (.int 2))) (eC (.int 0)))) (sSeq (sAsg (tgN 3) (e2 (pu2 dMod) (eL (f1 (pu1 dInt)) (aCons (e2 ixw (eVar 0) (eC (.int 2))) aNil)) (eVar 1)))
    (sSeq (sAsg (tgS (eVar 0) (eC (.int 2))) (e2 (pu2 dDiv) (e2 ixw (eVar 0) (eC (.int 2))) (eVar 1)))
    (sSeq (sAsg (tgS (eVar 0) (eC (.int 4))) (eC (.int 0)))
    (sRet (eVar 3))))) sNext)
    (sSeq (sAsg (tgS (eVar 0) (eC (.int 4))) (e2 (pu2 dSub) (e2 ixw (eVar 0) (eC (.int 4))) (eC (.int 1))))
    (sSeq (sAsg (tgS (eVar 0) (eC (.int 3))) (e2 (pu2 dMod) (eL (f1 (pu1 dInt)) (aCons (e2 (pu2 dAdd) (e2 (pu2 dMul) (e2 ixw (eVar 0) (eC (.int 3))) (eC (.int 48271))) (eC (.int 12345))) aNil)) (eC (.int 2147483647))))
    (sRet (e2 (pu2 dMod) (e2 (pu2 dMod) (eL (f1 (pu1 dInt)) (aCons (e2 (pu2 dAdd) (e2 (pu2 dMul) (e2 ixw (eVar 0) (eC (.int 3))) (eC (.int 69621))) (eC (.int 7919))) aNil)) (eC (.int 2147483647))) (eVar 1)))))))
def m__law_draw : FD := fnD b__law_draw 4
def b__law_less  : SD :=
    (sSeq (sAsg (tgN 2) (eL (f1 (pu1 dAbs)) (aCons (eVar 0) aNil)))
    (sSeq (sAsg (tgN 3) (eVar 1))
    (sSeq (sFor (iR1 (aCons (eC (.int 4000)) aNil)) (tgN 4) (sSeq (sIf (tb (e2 (pu2 dEq) (eVar 3) (eC (.int 0)))) sBrk sNext)
    (sPar 2 3 (aCons (eVar 3) (aCons (e2 (pu2 dMod) (eL (f1 (pu1 dInt)) (aCons (eVar 2) aNil)) (eVar 3)) aNil)))))
    (sRet (eTup (aCons (e2 (pu2 dDiv) (eVar 0) (eVar 2)) (aCons (e2 (pu2 dDiv) (eVar 1) (eVar 2)) aNil)))))))
def m__law_less : FD := fnD b__law_less 5
def b_RatioU_eqU  : SD :=
    (sRet (eAnd (e1 (isiw (isOw tRatio [])) (eVar 1)) (eAnd (e2 (pu2 dEq) (e1 (fldw [tRatio] "num") (eVar 0)) (e1 (fldw [tRatio] "num") (eVar 1))) (e2 (pu2 dEq) (e1 (fldw [tRatio] "den") (eVar 0)) (e1 (fldw [tRatio] "den") (eVar 1))))))
def m_RatioU_eqU : FD := fnD b_RatioU_eqU 2
def b_RatioU_initU  : SD :=
    (sSeq (sIf (tb (e2 (pu2 dLe) (eVar 2) (eC (.int 0)))) sNever sNext)
    (sSeq (sAsg (tgN 3) (eL (f1 (pu1 dAbs)) (aCons (eVar 1) aNil)))
    (sSeq (sAsg (tgN 4) (eVar 2))
    (sSeq (whS (tTru (eVar 4)) (sPar 3 4 (aCons (eVar 4) (aCons (e2 (pu2 dMod) (eVar 3) (eVar 4)) aNil))) 100000)
    (sSeq (sFld tRatio "num" (eVar 0) (e2 (pu2 dDiv) (eVar 1) (eVar 3)))
    (sFld tRatio "den" (eVar 0) (e2 (pu2 dDiv) (eVar 2) (eVar 3))))))))
def m_RatioU_initU : FD := fnM b_RatioU_initU 5
def b_RatioU_addU  : SD :=
    (sRet (eCall (mkF tRatio 3 m_RatioU_initU) [] (aCons (e2 (pu2 dAdd) (e2 (pu2 dMul) (e1 (fldw [tRatio] "num") (eVar 0)) (e1 (fldw [tRatio] "den") (eVar 1))) (e2 (pu2 dMul) (e1 (fldw [tRatio] "num") (eVar 1)) (e1 (fldw [tRatio] "den") (eVar 0)))) (aCons (e2 (pu2 dMul) (e1 (fldw [tRatio] "den") (eVar 0)) (e1 (fldw [tRatio] "den") (eVar 1))) aNil))))
def m_RatioU_addU : FD := fnD b_RatioU_addU 2
def b__law_same (r__law_same : FD) : SD :=
    (sSeq (sIf (tO (tTru (e1 (isiw (isTb kTup tsOwn)) (eVar 1))) (tTru (e1 (isiw (isTb kLst tsOwn)) (eVar 1)))) (sSeq (sIf (tO (tb (e2 (pu2 dNe) (e1 (isiw (isTb kTup tsOwn)) (eVar 1)) (e1 (isiw (isTb kTup tsOwn)) (eVar 0)))) (tb (e2 (pu2 dNe) (e1 (isiw (isTb kLst tsOwn)) (eVar 1)) (e1 (isiw (isTb kLst tsOwn)) (eVar 0))))) (sRet (eC (.bl false))) sNext)
    (sSeq (sIf (tb (e2 (pu2 dNe) (eL (f1 lenw) (aCons (eVar 0) aNil)) (eL (f1 lenw) (aCons (eVar 1) aNil)))) (sRet (eC (.bl false))) sNext)
    (sSeq (sFor (iR1 (aCons (eL (f1 lenw) (aCons (eVar 1) aNil)) aNil)) (tgN 2) (sIf (tNt (tTru (eCall (callR 0 2 r__law_same) [] (aCons (e2 ixw (eVar 0) (eVar 2)) (aCons (e2 ixw (eVar 1) (eVar 2)) aNil))))) (sRet (eC (.bl false))) sNext))
    (sRet (eC (.bl true)))))) sNext)
    (sSeq (sIf (tO (tb (e2 (isN) (eVar 1) (eC .non))) (tTru (e1 (isiw (isTb kBl tsOwn)) (eVar 1)))) (sRet (eAnd (e2 (pu2 dEq) (e2 (isN) (eVar 0) (eC .non)) (e2 (isN) (eVar 1) (eC .non))) (eAnd (eOr (e2 (isN) (eVar 1) (eC .non)) (e1 (isiw (isTb kBl tsOwn)) (eVar 0))) (e2 (pu2 dEq) (eVar 0) (eVar 1))))) sNext)
    (sSeq (sIf (tTru (e1 (isiw (isTb kInt tsOwn)) (eVar 1))) (sRet (eAnd (e1 (isiw (isTb kInt tsOwn)) (eVar 0)) (eAnd (eNot (e1 (isiw (isTb kBl tsOwn)) (eVar 0))) (e2 (pu2 dEq) (eVar 0) (eVar 1))))) sNext)
    (sRet (eAnd (e1 (isiw (isTb kStr tsOwn)) (eVar 0)) (e2 (pu2 dEq) (eVar 0) (eVar 1)))))))
def m__law_same : Nat → FD
  | 0 => fun _ _ => .no
  | n + 1 => fnD (b__law_same (m__law_same n)) 3
def b_TableU_initU  : SD :=
    (sSeq (sIf (tNt (tb (eChain (pu2 dLt) (pu2 dLe) (eC (.int 0)) (eL (f1 lenw) (aCons (eVar 1) aNil)) (eC k_MOST_VALUES)))) sNever sNext)
    (sSeq (sAsg (tgN 2) (eL (f1 lenw) (aCons (e2 ixw (eVar 1) (eC (.int 0))) aNil)))
    (sSeq (sIf (tO (tNt (tb (eChain (pu2 dLt) (pu2 dLe) (eC (.int 0)) (eVar 2) (eC k_MOST_VALUES)))) (tTru (eL (f1 (fLst dAny)) (aCons (eLc finF (iSeq (eVar 1)) (tgN 3) tYesD (e2 (pu2 dNe) (eL (f1 lenw) (aCons (eVar 3) aNil)) (eVar 2)) [3]) aNil)))) sNever sNext)
    (sSeq (sIf (tTru (eL (f1 (fLst dAny)) (aCons (eLc2 finF (iSeq (eVar 1)) (tgN 3) tYesD (iSeq (eVar 3)) (tgN 4) tYesD (eNot (eChain (pu2 dLe) (pu2 dLe) (eC (.int 0)) (eVar 4) (eC k_GREATEST))) [3, 4] [4]) aNil))) sNever sNext)
    (sFld tTable "rows" (eVar 0) (eL (f1 tupw) (aCons (eLc finF (iSeq (eVar 1)) (tgN 3) tYesD (eL (f1 tupw) (aCons (eVar 3) aNil)) [3]) aNil)))))))
def m_TableU_initU : FD := fnM b_TableU_initU 5
def b_fits (r_fits : FD) : SD :=
    (sSeq (sIf (tTru (e1 (isiw (isOw tEnd [tSay])) (eVar 1))) (sRet (eC (.bl true))) sNext)
    (sSeq (sAsg (tgN 2) (e2 ixw (eTup (aCons (eL (f1 lenw) (aCons (e1 (fldw [tTable] "rows") (eVar 0)) aNil)) (aCons (eL (f1 lenw) (aCons (e2 ixw (e1 (fldw [tTable] "rows") (eVar 0)) (eC (.int 0))) aNil)) aNil))) (e2 (pu2 dSub) (e1 (fldw [tSay] "person") (eVar 1)) (eC (.int 1)))))
    (sRet (eAnd (e2 (pu2 dEq) (eL (f1 lenw) (aCons (e1 (fldw [tSay] "lots") (eVar 1)) aNil)) (eVar 2)) (eL (f1 (fLst dAll)) (aCons (eLc finF (iSeq (e1 (fldw [tSay] "parts") (eVar 1))) (tgN 3) tYesD (eCall (callR 0 2 r_fits) [] (aCons (eVar 0) (aCons (eVar 3) aNil))) [3]) aNil))))))
def m_fits : Nat → FD
  | 0 => fun _ _ => .no
  | n + 1 => fnD (b_fits (m_fits n)) 4
def b__law_fits (r__law_fits : FD) : SD :=
    (sSeq (sIf (tb (e2 (pu2 dEq) (e2 ixw (eVar 0) (eC (.int 0))) (eC (.str "end")))) (sRet (eC (.bl true))) sNext)
    (sRet (eAnd (e2 (pu2 dEq) (eL (f1 lenw) (aCons (e2 ixw (eVar 0) (eC (.int 2))) aNil)) (e2 ixw (eVar 1) (e2 (pu2 dSub) (e2 ixw (eVar 0) (eC (.int 1))) (eC (.int 1))))) (e2 (inw true) (eC (.bl false)) (eLc finF (iSeq (e2 ixw (eVar 0) (eC (.int 3)))) (tgN 2) tYesD (eCall (callR 0 2 r__law_fits) [] (aCons (eVar 2) (aCons (eVar 1) aNil))) [2])))))
def m__law_fits : Nat → FD
  | 0 => fun _ _ => .no
  | n + 1 => fnD (b__law_fits (m__law_fits n)) 3
def b_RatioU_mulU  : SD :=
    (sRet (eCall (mkF tRatio 3 m_RatioU_initU) [] (aCons (e2 (pu2 dMul) (e1 (fldw [tRatio] "num") (eVar 0)) (e1 (fldw [tRatio] "num") (eVar 1))) (aCons (e2 (pu2 dMul) (e1 (fldw [tRatio] "den") (eVar 0)) (e1 (fldw [tRatio] "den") (eVar 1))) aNil))))
def m_RatioU_mulU : FD := fnD b_RatioU_mulU 2
def b_longest (r_longest : FD) : SD :=
    (sSeq (sIf (tTru (e1 (isiw (isOw tEnd [tSay])) (eVar 0))) (sRet (eC (.int 0))) sNext)
    (sRet (e2 (pu2 dAdd) (eC (.int 1)) (eL (f1 (fLst dMaxL)) (aCons (eLc finF (iSeq (e1 (fldw [tSay] "parts") (eVar 0))) (tgN 1) tYesD (eCall (callR 0 1 r_longest) [] (aCons (eVar 1) aNil)) [1]) aNil)))))
def m_longest : Nat → FD
  | 0 => fun _ _ => .no
  | n + 1 => fnD (b_longest (m_longest n)) 2
def b__law_longest (r__law_longest : FD) : SD :=
    (sSeq (sIf (tb (e2 (pu2 dEq) (e2 ixw (eVar 0) (eC (.int 0))) (eC (.str "end")))) (sRet (eC (.int 0))) sNext)
    (sRet (e2 (pu2 dAdd) (eC (.int 1)) (eL (f1 (fLst dMaxL)) (aCons (eLc finF (iSeq (e2 ixw (eVar 0) (eC (.int 3)))) (tgN 1) tYesD (eCall (callR 0 1 r__law_longest) [] (aCons (eVar 1) aNil)) [1]) aNil)))))
def m__law_longest : Nat → FD
  | 0 => fun _ _ => .no
  | n + 1 => fnD (b__law_longest (m__law_longest n)) 2
def b__law_times  : SD :=
    (sRet (eCall (callR 0 2 m__law_less) [] (aCons (e2 (pu2 dMul) (e2 ixw (eVar 0) (eC (.int 0))) (e2 ixw (eVar 1) (eC (.int 0)))) (aCons (e2 (pu2 dMul) (e2 ixw (eVar 0) (eC (.int 1))) (e2 ixw (eVar 1) (eC (.int 1)))) aNil))))
def m__law_times : FD := fnD b__law_times 2
def b__law_lots  : SD :=
    (sSeq (sAsg (tgN 2) (eLc finM (iR1 (aCons (eVar 1) aNil)) (tgN 3) tYesD (eCall (callR 1 2 m__law_draw) [] (aCons (eVar 0) (aCons (eC (.int 4)) aNil))) [3]))
    (sSeq (sIf (tb (e2 (pu2 dEq) (eCall (callR 1 2 m__law_draw) [] (aCons (eVar 0) (aCons (eC (.int 3)) aNil))) (eC (.int 0)))) (sAsg (tgN 2) (e2 (repw false) (eLst (aCons (eC (.int 0)) aNil)) (eVar 1))) sNext)
    (sSeq (sIf (tb (e2 (pu2 dEq) (eL (f1 (fLst dSum)) (aCons (eVar 2) aNil)) (eC (.int 0)))) (sAsg (tgS (eVar 2) (eCall (callR 1 2 m__law_draw) [] (aCons (eVar 0) (aCons (eVar 1) aNil)))) (eC (.int 1))) sNext)
    (sSeq (sIf (tb (e2 (pu2 dEq) (eCall (callR 1 2 m__law_draw) [] (aCons (eVar 0) (aCons (eC (.int 6)) aNil))) (eC (.int 0)))) (sAsg (tgS (eVar 2) (eCall (callR 1 2 m__law_draw) [] (aCons (eVar 0) (aCons (eVar 1) aNil)))) (e2 ixw (eTup (aCons (eC (.int 100)) (aCons (eC (.int 10007)) (aCons (e2 (pu2 dPow) (eC (.int 10)) (eC (.int 7))) (aCons (e2 (pu2 dPow) (eC (.int 10)) (eC (.int 9))) aNil))))) (eCall (callR 1 2 m__law_draw) [] (aCons (eVar 0) (aCons (eC (.int 4)) aNil))))) sNext)
    (sRet (eLc finF (iSeq (eVar 2)) (tgN 4) tYesD (eCall (callR 0 2 m__law_less) [] (aCons (eVar 4) (aCons (eL (f1 (fLst dSum)) (aCons (eVar 2) aNil)) aNil))) [4]))))))
def m__law_lots : FD := fnD b__law_lots 5
def b_total  : SD :=
    (sSeq (sAsg (tgN 1) (eCall (mkF tRatio 3 m_RatioU_initU) [.int 1] (aCons (eC (.int 0)) aNil)))
    (sSeq (sFor (iSeq (eVar 0)) (tgN 2) (sAsg (tgN 1) (e2 (ownw tRatio (callR 0 2 m_RatioU_addU)) (eVar 1) (eVar 2))))
    (sRet (eVar 1))))
def m_total : FD := fnD b_total 3
def b__law_chain  : SD :=
    (sSeq (sAsg (tgN 2) (eTup (aCons (eC (.str "end")) aNil)))
    (sSeq (sFor (iR1 (aCons (eCall (callR 1 2 m__law_draw) [] (aCons (eVar 0) (aCons (eC (.int 61)) aNil))) aNil)) (tgN 3) (sSeq (sAsg (tgN 4) (e2 (pu2 dAdd) (eC (.int 1)) (eCall (callR 1 2 m__law_draw) [] (aCons (eVar 0) (aCons (eC (.int 2)) aNil)))))
    (sSeq (sAsg (tgN 5) (e2 (pu2 dAdd) (eC (.int 1)) (eL (f1 (pu1 dInt)) (aCons (e2 (pu2 dEq) (eCall (callR 1 2 m__law_draw) [] (aCons (eVar 0) (aCons (eC (.int 20)) aNil))) (eC (.int 0))) aNil))))
    (sSeq (sAsg (tgN 6) (eLc finF (iR1 (aCons (e2 ixw (eVar 1) (e2 (pu2 dSub) (eVar 4) (eC (.int 1)))) aNil)) (tgN 7) tYesD (eCall (callR 1 2 m__law_lots) [] (aCons (eVar 0) (aCons (eVar 5) aNil))) [7]))
    (sAsg (tgN 2) (eTup (aCons (eC (.str "say")) (aCons (eVar 4) (aCons (eVar 6) (aCons (e2 (pu2 dAdd) (eLst (aCons (eVar 2) aNil)) (e2 (repw true) (eLst (aCons (eTup (aCons (eC (.str "end")) aNil)) aNil)) (e2 (pu2 dSub) (eVar 5) (eC (.int 1))))) aNil))))))))))
    (sRet (eVar 2))))
def m__law_chain : FD := fnD b__law_chain 8
def b_spread (r_spread : FD) : SD :=
    (sSeq (sIf (tTru (e1 (isiw (isOw tEnd [tSay])) (eVar 0))) (sSeq (sExpr (eLM lApp (eVar 4) (aCons (eTup (aCons (eVar 2) (aCons (eVar 3) aNil))) aNil)))
    sRetN) sNext)
    (sSeq (sAsg (tgN 5) (e2 ixw (e1 (fldw [tSay] "lots") (eVar 0)) (e2 ixw (eVar 1) (e2 (pu2 dSub) (e1 (fldw [tSay] "person") (eVar 0)) (eC (.int 1))))))
    (sFor (iEnum (aCons (e1 (fldw [tSay] "parts") (eVar 0)) aNil)) (tgT 2 (tgsC (tgN 6) (tgsC (tgN 7) tgsN))) (sExpr (eCall (callA 5 r_spread) [] (aCons (eVar 7) (aCons (eVar 1) (aCons (e2 (pu2 dAdd) (eVar 2) (eTup (aCons (eVar 6) aNil))) (aCons (e2 (ownw tRatio (callR 0 2 m_RatioU_mulU)) (eVar 3) (e2 ixw (eVar 5) (eVar 6))) (aCons (eVar 4) aNil))))))))))
def m_spread : Nat → FD
  | 0 => fun _ _ => .no
  | n + 1 => fnD (b_spread (m_spread n)) 8
def b__law_chances (r__law_chances : FD) : SD :=
    (sSeq (sIf (tb (e2 (pu2 dEq) (e2 ixw (eVar 0) (eC (.int 0))) (eC (.str "end")))) (sRet (eLst (aCons (eTup (aCons (eVar 2) (aCons (eVar 3) aNil))) aNil))) sNext)
    (sSeq (sAsg (tgN 4) (eLst aNil))
    (sSeq (sAsg (tgN 5) (e2 ixw (e2 ixw (eVar 0) (eC (.int 2))) (e2 ixw (eVar 1) (e2 (pu2 dSub) (e2 ixw (eVar 0) (eC (.int 1))) (eC (.int 1))))))
    (sSeq (sFor (iR1 (aCons (eL (f1 lenw) (aCons (eVar 5) aNil)) aNil)) (tgN 6) (sAsg (tgN 4) (e2 (pu2 dAdd) (eVar 4) (eCall (callR 0 4 r__law_chances) [] (aCons (e2 ixw (e2 ixw (eVar 0) (eC (.int 3))) (eVar 6)) (aCons (eVar 1) (aCons (e2 (pu2 dAdd) (eVar 2) (eTup (aCons (eVar 6) aNil))) (aCons (eCall (callR 0 2 m__law_times) [] (aCons (eVar 3) (aCons (e2 ixw (eVar 5) (eVar 6)) aNil))) aNil))))))))
    (sRet (eVar 4))))))
def m__law_chances : Nat → FD
  | 0 => fun _ _ => .no
  | n + 1 => fnD (b__law_chances (m__law_chances n)) 7
def b__law_talk (r__law_talk : FD) : SD :=
    (sSeq (sIf (tO (tb (e2 (pu2 dEq) (eVar 2) (eC (.int 0)))) (tb (e2 (pu2 dEq) (eCall (callR 1 2 m__law_draw) [] (aCons (eVar 0) (aCons (eC (.int 4)) aNil))) (eC (.int 0))))) (sRet (eTup (aCons (eC (.str "end")) aNil))) sNext)
    (sSeq (sAsg (tgN 3) (e2 (pu2 dAdd) (eC (.int 1)) (eCall (callR 1 2 m__law_draw) [] (aCons (eVar 0) (aCons (eC (.int 2)) aNil)))))
    (sSeq (sAsg (tgN 4) (e2 (pu2 dAdd) (eC (.int 1)) (eCall (callR 1 2 m__law_draw) [] (aCons (eVar 0) (aCons (eC (.int 3)) aNil)))))
    (sSeq (sAsg (tgN 5) (eLc finF (iR1 (aCons (e2 ixw (eVar 1) (e2 (pu2 dSub) (eVar 3) (eC (.int 1)))) aNil)) (tgN 6) tYesD (eCall (callR 1 2 m__law_lots) [] (aCons (eVar 0) (aCons (eVar 4) aNil))) [6]))
    (sSeq (sIf (tb (e2 (pu2 dEq) (eCall (callR 1 2 m__law_draw) [] (aCons (eVar 0) (aCons (eC (.int 3)) aNil))) (eC (.int 0)))) (sAsg (tgN 5) (e2 (repw true) (eLst (aCons (e2 ixw (eVar 5) (eC (.int 0))) aNil)) (eL (f1 lenw) (aCons (eVar 5) aNil)))) sNext)
    (sRet (eTup (aCons (eC (.str "say")) (aCons (eVar 3) (aCons (eVar 5) (aCons (eLc finF (iR1 (aCons (eVar 4) aNil)) (tgN 7) tYesD (eCall (callR 1 3 r__law_talk) [] (aCons (eVar 0) (aCons (eVar 1) (aCons (e2 (pu2 dSub) (eVar 2) (eC (.int 1))) aNil)))) [7]) aNil)))))))))))
def m__law_talk : Nat → FD
  | 0 => fun _ _ => .no
  | n + 1 => fnD (b__law_talk (m__law_talk n)) 8
def b_are_lots  : SD :=
    (sRet (eAnd (e2 (pu2 dEq) (eL (f1 lenw) (aCons (eVar 0) aNil)) (eVar 1)) (eAnd (eNot (eL (f1 (fLst dAny)) (aCons (eLc finF (iSeq (eVar 0)) (tgN 2) tYesD (e2 (pu2 dLt) (e1 (fldw [tRatio] "num") (eVar 2)) (eC (.int 0))) [2]) aNil))) (e2 (ownw tRatio (callR 0 2 m_RatioU_eqU)) (eCall (callR 0 1 m_total) [] (aCons (eVar 0) aNil)) (eCall (mkF tRatio 3 m_RatioU_initU) [.int 1] (aCons (eC (.int 1)) aNil))))))
def m_are_lots : FD := fnD b_are_lots 3
def b_chances  : SD :=
    (sSeq (sAsg (tgN 3) (eLstM aNil))
    (sSeq (sExpr (eCall (callA 5 (m_spread 80)) [] (aCons (eVar 0) (aCons (eTup (aCons (eVar 1) (aCons (eVar 2) aNil))) (aCons (eTup aNil) (aCons (eCall (mkF tRatio 3 m_RatioU_initU) [.int 1] (aCons (eC (.int 1)) aNil)) (aCons (eVar 3) aNil)))))))
    (sRet (eVar 3))))
def m_chances : FD := fnM b_chances 4
def b_SayU_initU  : SD :=
    (sSeq (sIf (tb (e2 (inw true) (eVar 1) (eTup (aCons (eC (.int 1)) (aCons (eC (.int 2)) aNil))))) sNever sNext)
    (sSeq (sIf (tNt (tTru (eVar 3))) sNever sNext)
    (sSeq (sIf (tO (tNt (tTru (eVar 2))) (tNt (tTru (eL (f1 (fLst dAll)) (aCons (eLc finF (iSeq (eVar 2)) (tgN 4) tYesD (eCall (callR 0 2 m_are_lots) [] (aCons (eVar 4) (aCons (eL (f1 lenw) (aCons (eVar 3) aNil)) aNil))) [4]) aNil))))) sNever sNext)
    (sSeq (sFld tSay "person" (eVar 0) (eVar 1))
    (sSeq (sFld tSay "lots" (eVar 0) (eL (f1 tupw) (aCons (eLc finF (iSeq (eVar 2)) (tgN 4) tYesD (eL (f1 tupw) (aCons (eVar 4) aNil)) [4]) aNil)))
    (sFld tSay "parts" (eVar 0) (eL (f1 tupw) (aCons (eVar 3) aNil))))))))
def m_SayU_initU : FD := fnM b_SayU_initU 5
def b__law_made (r__law_made : FD) : SD :=
    (sSeq (sIf (tb (e2 (pu2 dEq) (e2 ixw (eVar 0) (eC (.int 0))) (eC (.str "end")))) (sRet (eMk0 tEnd)) sNext)
    (sSeq (sAsg (tgN 1) (eLc finF (iSeq (e2 ixw (eVar 0) (eC (.int 2)))) (tgN 2) tYesD (eLc finF (iSeq (eVar 2)) (tgT 2 (tgsC (tgN 3) (tgsC (tgN 4) tgsN))) tYesD (eCall (mkF tRatio 3 m_RatioU_initU) [] (aCons (eVar 3) (aCons (eVar 4) aNil))) [3, 4]) [2]))
    (sRet (eCall (mkF tSay 4 m_SayU_initU) [] (aCons (e2 ixw (eVar 0) (eC (.int 1))) (aCons (eVar 1) (aCons (eLc finF (iSeq (e2 ixw (eVar 0) (eC (.int 3)))) (tgN 5) tYesD (eCall (callR 0 1 r__law_made) [] (aCons (eVar 5) aNil)) [5]) aNil)))))))
def m__law_made : Nat → FD
  | 0 => fun _ _ => .no
  | n + 1 => fnD (b__law_made (m__law_made n)) 6
def b__law_uneven  : SD :=
    (sSeq (sAsg (tgN 3) (e2 (pu2 dAdd) (eC (.int 1)) (eCall (callR 1 2 m__law_draw) [] (aCons (eVar 0) (aCons (eC (.int 2)) aNil)))))
    (sSeq (sAsg (tgN 4) (e2 ixw (eVar 1) (e2 (pu2 dSub) (eVar 3) (eC (.int 1)))))
    (sSeq (sAsg (tgN 5) (eL (f2 (pu2 dMax2)) (aCons (eC (.int 1)) (aCons (e2 (pu2 dAdd) (eVar 4) (e2 ixw (eTup (aCons (eC (.int 1)) (aCons (e1 (pu1 dNeg) (eC (.int 1))) aNil))) (eCall (callR 1 2 m__law_draw) [] (aCons (eVar 0) (aCons (eC (.int 2)) aNil))))) aNil))))
    (sSeq (sAsg (tgN 6) (eCall (mkF tTable 2 m_TableU_initU) [] (aCons (eLc finF (iR1 (aCons (e2 ixw (eVar 1) (eC (.int 0))) aNil)) (tgN 11) tYesD (e2 (repw true) (eLst (aCons (eC (.int 0)) aNil)) (e2 ixw (eVar 1) (eC (.int 1)))) [11]) aNil)))
    (sSeq (sAsg (tgN 7) (eTup (aCons (eC (.str "say")) (aCons (eVar 3) (aCons (e2 (repw true) (eLst (aCons (eLst (aCons (eTup (aCons (eC (.int 1)) (aCons (eC (.int 1)) aNil))) aNil)) aNil)) (eVar 5)) (aCons (eLst (aCons (eTup (aCons (eC (.str "end")) aNil)) aNil)) aNil))))))
    (sSeq (sAsg (tgN 8) (eTup (aCons (eC (.str "say")) (aCons (eVar 3) (aCons (e2 (repw true) (eLst (aCons (eLst (aCons (eTup (aCons (eC (.int 1)) (aCons (eC (.int 1)) aNil))) aNil)) aNil)) (eVar 5)) (aCons (eLst (aCons (eVar 2) aNil)) aNil))))))
    (sSeq (sAsg (tgN 9) (eTup (aCons (eC (.str "say")) (aCons (eVar 3) (aCons (e2 (repw true) (eLst (aCons (eLst (aCons (eTup (aCons (eC (.int 1)) (aCons (eC (.int 1)) aNil))) aNil)) aNil)) (eVar 4)) (aCons (eLst (aCons (eTup (aCons (eC (.str "say")) (aCons (e2 (pu2 dSub) (eC (.int 3)) (eVar 3)) (aCons (e2 (repw true) (eLst (aCons (eLst (aCons (eTup (aCons (eC (.int 1)) (aCons (eC (.int 1)) aNil))) aNil)) aNil)) (e2 ixw (eVar 1) (e2 (pu2 dSub) (eC (.int 2)) (eVar 3)))) (aCons (eLst (aCons (eVar 7) aNil)) aNil))))) aNil)) aNil))))))
    (sSeq (sFor (iSeq (eTup (aCons (eVar 8) (aCons (eVar 9) (aCons (eVar 2) (aCons (eVar 9) aNil)))))) (tgN 10) (sIf (tNt (tTru (eCall (callR 0 2 (m__law_same 40)) [] (aCons (eCall (callR 0 2 (m_fits 80)) [] (aCons (eVar 6) (aCons (eCall (callR 0 1 (m__law_made 80)) [] (aCons (eVar 10) aNil)) aNil))) (aCons (eCall (callR 0 2 (m__law_fits 80)) [] (aCons (eVar 10) (aCons (eVar 1) aNil))) aNil))))) (sRet (eC (.bl false))) sNext))
    (sRet (eC (.bl true)))))))))))
def m__law_uneven : FD := fnD b__law_uneven 12
def b_law  : SD :=
    (sSeq (sAsg (tgN 1) (eCall (callA 2 m__law_pool) [] (aCons (eVar 0) (aCons (eC (.int 0)) aNil))))
    (sSeq (sAsg (tgN 2) (eTup (aCons (e2 (pu2 dAdd) (eC (.int 1)) (eCall (callR 1 2 m__law_draw) [] (aCons (eVar 1) (aCons (eC (.int 5)) aNil)))) (aCons (e2 (pu2 dAdd) (eC (.int 1)) (eCall (callR 1 2 m__law_draw) [] (aCons (eVar 1) (aCons (eC (.int 5)) aNil)))) aNil))))
    (sSeq (sAsg (tgN 3) (eCall (callR 1 3 (m__law_talk 20)) [] (aCons (eVar 1) (aCons (eVar 2) (aCons (eCall (callR 1 2 m__law_draw) [] (aCons (eVar 1) (aCons (eC (.int 5)) aNil))) aNil)))))
    (sSeq (sIf (tNt (tTru (eCall (callR 1 3 m__law_uneven) [] (aCons (eVar 1) (aCons (eVar 2) (aCons (eVar 3) aNil)))))) (sRet (eC (.bl false))) sNext)
    (sSeq (sIf (tAn (tb (e2 (pu2 dEq) (e2 ixw (eVar 3) (eC (.int 0))) (eC (.str "say")))) (tb (e2 (pu2 dEq) (eCall (callR 1 2 m__law_draw) [] (aCons (eVar 1) (aCons (eC (.int 3)) aNil))) (eC (.int 0))))) (sSeq (sAsg (tgN 8) (eTup (aCons (eC (.str "say")) (aCons (e2 ixw (eVar 3) (eC (.int 1))) (aCons (e2 (pu2 dAdd) (e2 ixw (eVar 3) (eC (.int 2))) (eSl true (e2 ixw (eVar 3) (eC (.int 2))) oNone (oSome (eC (.int 1))))) (aCons (e2 (repw true) (eLst (aCons (eTup (aCons (eC (.str "end")) aNil)) aNil)) (eL (f1 lenw) (aCons (e2 ixw (eVar 3) (eC (.int 3))) aNil))) aNil))))))
    (sSeq (sAsg (tgN 9) (eCall (callR 1 2 m__law_draw) [] (aCons (eVar 1) (aCons (eL (f1 lenw) (aCons (e2 ixw (eVar 3) (eC (.int 3))) aNil)) aNil))))
    (sSeq (sAsg (tgN 10) (e2 (pu2 dAdd) (eSl true (eVar 3) oNone (oSome (eC (.int 3)))) (eTup (aCons (e2 (pu2 dAdd) (e2 (pu2 dAdd) (eSl true (e2 ixw (eVar 3) (eC (.int 3))) oNone (oSome (eVar 9))) (eLst (aCons (eVar 8) aNil))) (eSl true (e2 ixw (eVar 3) (eC (.int 3))) (oSome (e2 (pu2 dAdd) (eVar 9) (eC (.int 1)))) oNone)) aNil))))
    (sIf (tNt (tTru (eCall (callR 0 2 (m__law_same 40)) [] (aCons (eCall (callR 0 2 (m_fits 80)) [] (aCons (eCall (mkF tTable 2 m_TableU_initU) [] (aCons (eLc finF (iR1 (aCons (e2 ixw (eVar 2) (eC (.int 0))) aNil)) (tgN 5) tYesD (e2 (repw true) (eLst (aCons (eC (.int 0)) aNil)) (e2 ixw (eVar 2) (eC (.int 1)))) [5]) aNil)) (aCons (eCall (callR 0 1 (m__law_made 80)) [] (aCons (eVar 10) aNil)) aNil))) (aCons (eC (.bl false)) aNil))))) (sRet (eC (.bl false))) sNext)))) sNext)
    (sSeq (sAsg (tgN 4) (eCall (callR 0 1 (m__law_made 80)) [] (aCons (eVar 3) aNil)))
    (sSeq (sFor (iR1 (aCons (e2 ixw (eVar 2) (eC (.int 0))) aNil)) (tgN 5) (sFor (iR1 (aCons (e2 ixw (eVar 2) (eC (.int 1))) aNil)) (tgN 11) (sSeq (sAsg (tgN 14) (eCall (callA 3 m_chances) [] (aCons (eVar 4) (aCons (eVar 5) (aCons (eVar 11) aNil)))))
    (sSeq (sExpr (eLM lApp (eVar 14) (aCons (eC (.int 7)) aNil)))
    (sSeq (sAsg (tgN 14) (eCall (callA 3 m_chances) [] (aCons (eVar 4) (aCons (eVar 5) (aCons (eVar 11) aNil)))))
    (sSeq (sIf (tO (tNt (tTru (e1 (isiw (isTb kLst tsOwn)) (eVar 14)))) (tb (e2 (inw false) (eC (.bl false)) (eLc finF (iSeq (eVar 14)) (tgN 17) tYesD (eAnd (e1 (isiw (isTb kTup tsOwn)) (eVar 17)) (e1 (isiw (isOw tRatio [])) (e2 ixw (eVar 17) (eC (.int 1))))) [17])))) (sRet (eC (.bl false))) sNext)
    (sIf (tb (e2 (pu2 dNe) (eLc finF (iSeq (eVar 14)) (tgT 2 (tgsC (tgN 15) (tgsC (tgN 16) tgsN))) tYesD (eTup (aCons (eVar 15) (aCons (eTup (aCons (e1 (fldw [tRatio] "num") (eVar 16)) (aCons (e1 (fldw [tRatio] "den") (eVar 16)) aNil))) aNil))) [15, 16]) (eCall (callR 0 4 (m__law_chances 80)) [] (aCons (eVar 3) (aCons (eTup (aCons (eVar 5) (aCons (eVar 11) aNil))) (aCons (eTup aNil) (aCons (eTup (aCons (eC (.int 1)) (aCons (eC (.int 1)) aNil))) aNil))))))) (sRet (eC (.bl false))) sNext)))))))
    (sSeq (sFor (iSeq (eTup (aCons (eTup (aCons (eC (.int 0)) (aCons (eC (.int 0)) aNil))) (aCons (eTup (aCons (eC (.int 1)) (aCons (eC (.int 0)) aNil))) (aCons (eTup (aCons (eC (.int 0)) (aCons (eC (.int 1)) aNil))) (aCons (eTup (aCons (e1 (pu1 dNeg) (eC (.int 1))) (aCons (eC (.int 0)) aNil))) (aCons (eTup (aCons (eC (.int 0)) (aCons (e1 (pu1 dNeg) (eC (.int 1))) aNil))) aNil))))))) (tgN 6) (sSeq (sAsg (tgN 12) (eTup (aCons (eL (f2 (pu2 dMax2)) (aCons (eC (.int 1)) (aCons (e2 (pu2 dAdd) (e2 ixw (eVar 2) (eC (.int 0))) (e2 ixw (eVar 6) (eC (.int 0)))) aNil))) (aCons (eL (f2 (pu2 dMax2)) (aCons (eC (.int 1)) (aCons (e2 (pu2 dAdd) (e2 ixw (eVar 2) (eC (.int 1))) (e2 ixw (eVar 6) (eC (.int 1)))) aNil))) aNil))))
    (sSeq (sAsg (tgN 13) (eCall (mkF tTable 2 m_TableU_initU) [] (aCons (eLc finF (iR1 (aCons (e2 ixw (eVar 12) (eC (.int 0))) aNil)) (tgN 5) tYesD (e2 (repw true) (eLst (aCons (eC (.int 0)) aNil)) (e2 ixw (eVar 12) (eC (.int 1)))) [5]) aNil)))
    (sIf (tNt (tTru (eCall (callR 0 2 (m__law_same 40)) [] (aCons (eCall (callR 0 2 (m_fits 80)) [] (aCons (eVar 13) (aCons (eVar 4) aNil))) (aCons (eCall (callR 0 2 (m__law_fits 80)) [] (aCons (eVar 3) (aCons (eVar 12) aNil))) aNil))))) (sRet (eC (.bl false))) sNext))))
    (sSeq (sAsg (tgN 7) (eCall (callR 1 2 m__law_chain) [] (aCons (eVar 1) (aCons (eVar 2) aNil))))
    (sSeq (sIf (tNt (tTru (eCall (callR 0 2 (m__law_same 40)) [] (aCons (eCall (callR 0 1 (m_longest 80)) [] (aCons (eCall (callR 0 1 (m__law_made 80)) [] (aCons (eVar 7) aNil)) aNil)) (aCons (eCall (callR 0 1 (m__law_longest 80)) [] (aCons (eVar 7) aNil)) aNil))))) (sRet (eC (.bl false))) sNext)
    (sSeq (sFor (iR1 (aCons (e2 ixw (eVar 2) (eC (.int 0))) aNil)) (tgN 5) (sSeq (sAsg (tgN 14) (eCall (callA 3 m_chances) [] (aCons (eCall (callR 0 1 (m__law_made 80)) [] (aCons (eVar 7) aNil)) (aCons (eVar 5) (aCons (eC (.int 0)) aNil)))))
    (sIf (tb (e2 (pu2 dNe) (eLc finF (iSeq (eVar 14)) (tgT 2 (tgsC (tgN 15) (tgsC (tgN 16) tgsN))) tYesD (eTup (aCons (eVar 15) (aCons (eTup (aCons (e1 (fldw [tRatio] "num") (eVar 16)) (aCons (e1 (fldw [tRatio] "den") (eVar 16)) aNil))) aNil))) [15, 16]) (eCall (callR 0 4 (m__law_chances 80)) [] (aCons (eVar 7) (aCons (eTup (aCons (eVar 5) (aCons (eC (.int 0)) aNil))) (aCons (eTup aNil) (aCons (eTup (aCons (eC (.int 1)) (aCons (eC (.int 1)) aNil))) aNil))))))) (sRet (eC (.bl false))) sNext)))
    (sRet (eCall (callR 0 2 (m__law_same 40)) [] (aCons (eCall (callR 0 1 (m_longest 80)) [] (aCons (eVar 4) aNil)) (aCons (eCall (callR 0 1 (m__law_longest 80)) [] (aCons (eVar 3) aNil)) aNil)))))))))))))))
def m_law : FD := fnD b_law 18
/-! ### what the top has written -/
structure Ad where
  c_Ratio : Addr
  c_End : Addr
  c_Say : Addr
  c_Table : Addr
  a__law_pool : Addr
  fd__law_pool : FuncData
  a__law_talk : Addr
  fd__law_talk : FuncData
  a__law_draw : Addr
  fd__law_draw : FuncData
  a__law_lots : Addr
  fd__law_lots : FuncData
  a__law_less : Addr
  fd__law_less : FuncData
  a__law_made : Addr
  fd__law_made : FuncData
  a_SayU_initU : Addr
  fd_SayU_initU : FuncData
  a_are_lots : Addr
  fd_are_lots : FuncData
  a_RatioU_eqU : Addr
  fd_RatioU_eqU : FuncData
  a_total : Addr
  fd_total : FuncData
  a_RatioU_initU : Addr
  fd_RatioU_initU : FuncData
  ds_RatioU_initU : List Value
  a_RatioU_addU : Addr
  fd_RatioU_addU : FuncData
  a__law_chain : Addr
  fd__law_chain : FuncData
  a__law_same : Addr
  fd__law_same : FuncData
  a__law_uneven : Addr
  fd__law_uneven : FuncData
  a_TableU_initU : Addr
  fd_TableU_initU : FuncData
  a_fits : Addr
  fd_fits : FuncData
  a__law_fits : Addr
  fd__law_fits : FuncData
  a_chances : Addr
  fd_chances : FuncData
  a_spread : Addr
  fd_spread : FuncData
  a_RatioU_mulU : Addr
  fd_RatioU_mulU : FuncData
  a_longest : Addr
  fd_longest : FuncData
  a__law_longest : Addr
  fd__law_longest : FuncData
  a__law_chances : Addr
  fd__law_chances : FuncData
  a__law_times : Addr
  fd__law_times : FuncData
  a_law : Addr
  fd_law : FuncData
  v_GREATEST : V
  u_GREATEST : Value
  v_MOST_VALUES : V
  u_MOST_VALUES : Value
def Ad.cA (A : Ad) : Nat → Addr := fun n => match n with
  | 1 => A.c_Ratio
  | 2 => A.c_End
  | 3 => A.c_Say
  | 4 => A.c_Table
  | _ => 0
structure Txt (K : PySem.W.Frag) (mg : Str → Option Value) (A : Ad) : Prop where
  f__law_pool : Fun K "_law_pool" "_law_pool" s__law_pool A.a__law_pool A.fd__law_pool
  b__law_pool : Binds K A.fd__law_pool ["_law_script", "_law_budget"] []
  k__law_pool : PySem.W.keepIn K (.ref A.a__law_pool) = true
  g__law_pool : mg "_law_pool" = some (.ref A.a__law_pool)
  f__law_talk : Fun K "_law_talk" "_law_talk" s__law_talk A.a__law_talk A.fd__law_talk
  b__law_talk : Binds K A.fd__law_talk ["_law_pool_here", "_law_sizes", "_law_deep"] []
  k__law_talk : PySem.W.keepIn K (.ref A.a__law_talk) = true
  g__law_talk : mg "_law_talk" = some (.ref A.a__law_talk)
  f__law_draw : Fun K "_law_draw" "_law_draw" s__law_draw A.a__law_draw A.fd__law_draw
  b__law_draw : Binds K A.fd__law_draw ["_law_pool_here", "_law_size"] []
  k__law_draw : PySem.W.keepIn K (.ref A.a__law_draw) = true
  g__law_draw : mg "_law_draw" = some (.ref A.a__law_draw)
  f__law_lots : Fun K "_law_lots" "_law_lots" s__law_lots A.a__law_lots A.fd__law_lots
  b__law_lots : Binds K A.fd__law_lots ["_law_pool_here", "_law_count"] []
  k__law_lots : PySem.W.keepIn K (.ref A.a__law_lots) = true
  g__law_lots : mg "_law_lots" = some (.ref A.a__law_lots)
  f__law_less : Fun K "_law_less" "_law_less" s__law_less A.a__law_less A.fd__law_less
  b__law_less : Binds K A.fd__law_less ["_law_num", "_law_den"] []
  k__law_less : PySem.W.keepIn K (.ref A.a__law_less) = true
  g__law_less : mg "_law_less" = some (.ref A.a__law_less)
  f__law_made : Fun K "_law_made" "_law_made" s__law_made A.a__law_made A.fd__law_made
  b__law_made : Binds K A.fd__law_made ["_law_talk_here"] []
  k__law_made : PySem.W.keepIn K (.ref A.a__law_made) = true
  g__law_made : mg "_law_made" = some (.ref A.a__law_made)
  f_SayU_initU : Fun K "__init__" "Say.__init__" s_SayU_initU A.a_SayU_initU A.fd_SayU_initU
  b_SayU_initU : Binds K A.fd_SayU_initU ["self", "person", "lots", "parts"] []
  k_SayU_initU : PySem.W.keepIn K (.ref A.a_SayU_initU) = true
  mk_Say : Mk K (A.cA tSay) A.a_SayU_initU
  f_are_lots : Fun K "are_lots" "are_lots" s_are_lots A.a_are_lots A.fd_are_lots
  b_are_lots : Binds K A.fd_are_lots ["ratios", "count"] []
  k_are_lots : PySem.W.keepIn K (.ref A.a_are_lots) = true
  g_are_lots : mg "are_lots" = some (.ref A.a_are_lots)
  f_RatioU_eqU : Fun K "__eq__" "Ratio.__eq__" s_RatioU_eqU A.a_RatioU_eqU A.fd_RatioU_eqU
  b_RatioU_eqU : Binds K A.fd_RatioU_eqU ["self", "other"] []
  k_RatioU_eqU : PySem.W.keepIn K (.ref A.a_RatioU_eqU) = true
  h_RatioU_eqU : Meth K (A.cA tRatio) "__eq__" A.a_RatioU_eqU
  f_total : Fun K "total" "total" s_total A.a_total A.fd_total
  b_total : Binds K A.fd_total ["ratios"] []
  k_total : PySem.W.keepIn K (.ref A.a_total) = true
  g_total : mg "total" = some (.ref A.a_total)
  f_RatioU_initU : FunD K "__init__" "Ratio.__init__" (defArgs s_RatioU_initU) (defBody s_RatioU_initU) (defScope s_RatioU_initU) [.int 1] [] A.a_RatioU_initU A.fd_RatioU_initU
  b1_RatioU_initU : Binds K A.fd_RatioU_initU ["self", "num", "den"] A.ds_RatioU_initU
  d_RatioU_initU : Vals [.int 1] A.ds_RatioU_initU
  b_RatioU_initU : Binds K A.fd_RatioU_initU ["self", "num", "den"] []
  k_RatioU_initU : PySem.W.keepIn K (.ref A.a_RatioU_initU) = true
  mk_Ratio : Mk K (A.cA tRatio) A.a_RatioU_initU
  f_RatioU_addU : Fun K "__add__" "Ratio.__add__" s_RatioU_addU A.a_RatioU_addU A.fd_RatioU_addU
  b_RatioU_addU : Binds K A.fd_RatioU_addU ["self", "other"] []
  k_RatioU_addU : PySem.W.keepIn K (.ref A.a_RatioU_addU) = true
  h_RatioU_addU : Meth K (A.cA tRatio) "__add__" A.a_RatioU_addU
  f__law_chain : Fun K "_law_chain" "_law_chain" s__law_chain A.a__law_chain A.fd__law_chain
  b__law_chain : Binds K A.fd__law_chain ["_law_pool_here", "_law_sizes"] []
  k__law_chain : PySem.W.keepIn K (.ref A.a__law_chain) = true
  g__law_chain : mg "_law_chain" = some (.ref A.a__law_chain)
  f__law_same : Fun K "_law_same" "_law_same" s__law_same A.a__law_same A.fd__law_same
  b__law_same : Binds K A.fd__law_same ["_law_actual", "_law_due"] []
  k__law_same : PySem.W.keepIn K (.ref A.a__law_same) = true
  g__law_same : mg "_law_same" = some (.ref A.a__law_same)
  f__law_uneven : Fun K "_law_uneven" "_law_uneven" s__law_uneven A.a__law_uneven A.fd__law_uneven
  b__law_uneven : Binds K A.fd__law_uneven ["_law_pool_here", "_law_sizes", "_law_talk_here"] []
  k__law_uneven : PySem.W.keepIn K (.ref A.a__law_uneven) = true
  g__law_uneven : mg "_law_uneven" = some (.ref A.a__law_uneven)
  f_TableU_initU : Fun K "__init__" "Table.__init__" s_TableU_initU A.a_TableU_initU A.fd_TableU_initU
  b_TableU_initU : Binds K A.fd_TableU_initU ["self", "rows"] []
  k_TableU_initU : PySem.W.keepIn K (.ref A.a_TableU_initU) = true
  mk_Table : Mk K (A.cA tTable) A.a_TableU_initU
  f_fits : Fun K "fits" "fits" s_fits A.a_fits A.fd_fits
  b_fits : Binds K A.fd_fits ["table", "talk"] []
  k_fits : PySem.W.keepIn K (.ref A.a_fits) = true
  g_fits : mg "fits" = some (.ref A.a_fits)
  f__law_fits : Fun K "_law_fits" "_law_fits" s__law_fits A.a__law_fits A.fd__law_fits
  b__law_fits : Binds K A.fd__law_fits ["_law_talk_here", "_law_sizes"] []
  k__law_fits : PySem.W.keepIn K (.ref A.a__law_fits) = true
  g__law_fits : mg "_law_fits" = some (.ref A.a__law_fits)
  f_chances : Fun K "chances" "chances" s_chances A.a_chances A.fd_chances
  b_chances : Binds K A.fd_chances ["talk", "row", "column"] []
  k_chances : PySem.W.keepIn K (.ref A.a_chances) = true
  g_chances : mg "chances" = some (.ref A.a_chances)
  f_spread : Fun K "spread" "spread" s_spread A.a_spread A.fd_spread
  b_spread : Binds K A.fd_spread ["talk", "values", "way", "chance", "found"] []
  k_spread : PySem.W.keepIn K (.ref A.a_spread) = true
  g_spread : mg "spread" = some (.ref A.a_spread)
  f_RatioU_mulU : Fun K "__mul__" "Ratio.__mul__" s_RatioU_mulU A.a_RatioU_mulU A.fd_RatioU_mulU
  b_RatioU_mulU : Binds K A.fd_RatioU_mulU ["self", "other"] []
  k_RatioU_mulU : PySem.W.keepIn K (.ref A.a_RatioU_mulU) = true
  h_RatioU_mulU : Meth K (A.cA tRatio) "__mul__" A.a_RatioU_mulU
  f_longest : Fun K "longest" "longest" s_longest A.a_longest A.fd_longest
  b_longest : Binds K A.fd_longest ["talk"] []
  k_longest : PySem.W.keepIn K (.ref A.a_longest) = true
  g_longest : mg "longest" = some (.ref A.a_longest)
  f__law_longest : Fun K "_law_longest" "_law_longest" s__law_longest A.a__law_longest A.fd__law_longest
  b__law_longest : Binds K A.fd__law_longest ["_law_talk_here"] []
  k__law_longest : PySem.W.keepIn K (.ref A.a__law_longest) = true
  g__law_longest : mg "_law_longest" = some (.ref A.a__law_longest)
  f__law_chances : Fun K "_law_chances" "_law_chances" s__law_chances A.a__law_chances A.fd__law_chances
  b__law_chances : Binds K A.fd__law_chances ["_law_talk_here", "_law_values", "_law_way", "_law_chance"] []
  k__law_chances : PySem.W.keepIn K (.ref A.a__law_chances) = true
  g__law_chances : mg "_law_chances" = some (.ref A.a__law_chances)
  f__law_times : Fun K "_law_times" "_law_times" s__law_times A.a__law_times A.fd__law_times
  b__law_times : Binds K A.fd__law_times ["_law_one", "_law_other"] []
  k__law_times : PySem.W.keepIn K (.ref A.a__law_times) = true
  g__law_times : mg "_law_times" = some (.ref A.a__law_times)
  f_law : Fun K "law" "law" s_law A.a_law A.fd_law
  b_law : Binds K A.fd_law ["_law_script"] []
  k_law : PySem.W.keepIn K (.ref A.a_law) = true
  g_law : mg "law" = some (.ref A.a_law)
  mz_End : Mk0 K (A.cA tEnd)
  g_Ratio : mg "Ratio" = some (.ref (A.cA tRatio))
  i_Ratio : InsF K (A.cA tRatio)
  g_End : mg "End" = some (.ref (A.cA tEnd))
  i_End : InsF K (A.cA tEnd)
  g_Say : mg "Say" = some (.ref (A.cA tSay))
  i_Say : InsF K (A.cA tSay)
  g_Table : mg "Table" = some (.ref (A.cA tTable))
  i_Table : InsF K (A.cA tTable)
  n_Ratio_den : NoAttr K (A.cA tRatio) "den"
  n_Ratio_num : NoAttr K (A.cA tRatio) "num"
  n_Say_lots : NoAttr K (A.cA tSay) "lots"
  n_Say_parts : NoAttr K (A.cA tSay) "parts"
  n_Say_person : NoAttr K (A.cA tSay) "person"
  n_Table_rows : NoAttr K (A.cA tTable) "rows"
  o_End : IsOk K A.cA (.ref (A.cA tEnd)) (isOw tEnd [tSay])
  o_Ratio : IsOk K A.cA (.ref (A.cA tRatio)) (isOw tRatio [])
  sf_Ratio : PySem.W.selfFirst K (A.cA tRatio) = true
  owns : OwnsF K A.cA tsOwn
  z_abs : mg "abs" = none
  z_all : mg "all" = none
  z_any : mg "any" = none
  z_bool : mg "bool" = none
  z_enumerate : mg "enumerate" = none
  z_int : mg "int" = none
  z_isinstance : mg "isinstance" = none
  z_len : mg "len" = none
  z_list : mg "list" = none
  z_max : mg "max" = none
  z_range : mg "range" = none
  z_str : mg "str" = none
  z_sum : mg "sum" = none
  z_tuple : mg "tuple" = none
  g_GREATEST : mg "GREATEST" = some A.u_GREATEST
  r_GREATEST : RelV A.v_GREATEST A.u_GREATEST
  p_GREATEST : ∀ F, Rep K A.cA F k_GREATEST A.v_GREATEST
  g_MOST_VALUES : mg "MOST_VALUES" = some A.u_MOST_VALUES
  r_MOST_VALUES : RelV A.v_MOST_VALUES A.u_MOST_VALUES
  p_MOST_VALUES : ∀ F, Rep K A.cA F k_MOST_VALUES A.v_MOST_VALUES
section
variable {P : Program} {w : World} {K : PySem.W.Frag} {mg : Str → Option Value} {base : Heap} {A : Ad}
theorem ok__law_pool (T : Txt K mg A)  : FnOk P w K mg base (L2.CX P w) 2 A.a__law_pool A.fd__law_pool ["_law_script", "_law_budget"] (spD K A.cA 2 m__law_pool) :=
  fnOk_of T.f__law_pool sc__law_pool outM_ok outXM_ok fun cdv A0 outer s H E hr => by
    have nd := sc__law_pool.nd
    have hu1 := hu_of hr
    have hu64 := hr.units
    have hu65 : (A0.deeper (envOfC "_law_pool" (defScope s__law_pool) s.heap.objs.size A.a__law_pool cdv)).units + 65 < cLine := by
      have := hr.un
      omega
    have tk := tk_of (P := P) (w := w) (K := K) (mg := mg) (base := base) (N := ["_law_script", "_law_budget"]) (qual := "_law_pool") (sc := defScope s__law_pool) (f := A.a__law_pool) (cdv := cdv) (A := A0) (outer := outer) (s := s) (H := H) (E := E)
    have hp := hp_of (P := P) (w := w) (K := K) (mg := mg) (base := base) (N := ["_law_script", "_law_budget"]) (qual := "_law_pool") (sc := defScope s__law_pool) (f := A.a__law_pool) (cdv := cdv) (A := A0) (outer := outer) (s := s) (H := H) (E := E)
    exact (s_one (s_ret (d_lstM (a_cons (d_list T.z_list (a_cons (d_var 0 (pv 0)) a_nil)) (a_cons d_int (a_cons d_int (a_cons d_int (a_cons d_int (a_cons (d_var 1 (pv 1)) a_nil)))))))))
theorem ok__law_draw (T : Txt K mg A)  : FnOk P w K mg base (L2.CX P w) 2 A.a__law_draw A.fd__law_draw ["_law_pool_here", "_law_size"] (spD K A.cA 2 m__law_draw) :=
  fnOk_of T.f__law_draw sc__law_draw outC_ok outX_ok fun cdv A0 outer s H E hr => by
    have nd := sc__law_draw.nd
    have hu1 := hu_of hr
    have hu64 := hr.units
    have hu65 : (A0.deeper (envOfC "_law_draw" (defScope s__law_draw) s.heap.objs.size A.a__law_draw cdv)).units + 65 < cLine := by
      have := hr.un
      omega
    have tk := tk_of (P := P) (w := w) (K := K) (mg := mg) (base := base) (N := ["_law_pool_here", "_law_size", "_law_cell", "_law_value"]) (qual := "_law_draw") (sc := defScope s__law_draw) (f := A.a__law_draw) (cdv := cdv) (A := A0) (outer := outer) (s := s) (H := H) (E := E)
    have hp := hp_of (P := P) (w := w) (K := K) (mg := mg) (base := base) (N := ["_law_pool_here", "_law_size", "_law_cell", "_law_value"]) (qual := "_law_draw") (sc := defScope s__law_draw) (f := A.a__law_draw) (cdv := cdv) (A := A0) (outer := outer) (s := s) (H := H) (E := E)
    exact (s_cons (s_if (PW.pt (w_and (t_cmp op_leD ok_le (d_ix (d_var 0 (pv 0)) d_int) d_int) (w_and (t_cmp op_leD ok_le (d_ix (d_var 0 (pv 0)) d_int) d_int) (w_and1 (t_cmp op_ltD ok_lt (d_ix (d_var 0 (pv 0)) d_int) (d_len T.z_len (a_cons (d_ix (d_var 0 (pv 0)) d_int) a_nil))))))) (s_cons (s_set (i := 2) nd (d_ix (d_ix (d_var 0 (pv 0)) d_int) (d_ix (d_var 0 (pv 0)) d_int)))
    (s_cons (s_asg (d_add (d_ix (d_var 0 (pv 0)) d_int) d_int) (g_sub (fun ho hi => pg_sub ho hi set_list) (fun W takes0 => (d_var 0 (pv 0))) (fun W takes0 => d_int) takes0))
    (s_cons (s_asg (d_mod (d_toint T.z_int (a_cons (d_add (d_mul (d_ix (d_var 0 (pv 0)) d_int) d_int) (d_var 2 (pv 2))) a_nil)) d_int) (g_sub (fun ho hi => pg_sub ho hi set_list) (fun W takes0 => (d_var 0 (pv 0))) (fun W takes0 => d_int) takes0))
    (s_cons (s_asg d_int (g_sub (fun ho hi => pg_sub ho hi set_list) (fun W takes0 => (d_var 0 (pv 0))) (fun W takes0 => d_int) takes0))
    (s_one (s_if (t_cmp op_geD ok_ge (d_var 2 (pv 2)) (d_pow d_int d_int)) (s_one (s_asg (d_var 2 (pv 2)) (g_sub (fun ho hi => pg_sub ho hi set_list) (fun W takes0 => (d_var 0 (pv 0))) (fun W takes0 => d_int) takes0))) s_nil)))))) s_nil)
    (s_cons (s_if (t_cmp op_gtD ok_gt (d_ix (d_var 0 (pv 0)) d_int) d_int) (s_cons (s_set (i := 3) nd (d_mod (d_toint T.z_int (a_cons (d_ix (d_var 0 (pv 0)) d_int) a_nil)) (d_var 1 (pv 1))))
    (s_cons (s_asg (d_div (d_ix (d_var 0 (pv 0)) d_int) (d_var 1 (pv 1))) (g_sub (fun ho hi => pg_sub ho hi set_list) (fun W takes0 => (d_var 0 (pv 0))) (fun W takes0 => d_int) takes0))
    (s_cons (s_asg d_int (g_sub (fun ho hi => pg_sub ho hi set_list) (fun W takes0 => (d_var 0 (pv 0))) (fun W takes0 => d_int) takes0))
    (s_one (s_ret (d_var 3 (pv 3))))))) s_nil)
    (s_cons (s_asg (d_sub (d_ix (d_var 0 (pv 0)) d_int) d_int) (g_sub (fun ho hi => pg_sub ho hi set_list) (fun W takes0 => (d_var 0 (pv 0))) (fun W takes0 => d_int) takes0))
    (s_cons (s_asg (d_mod (d_toint T.z_int (a_cons (d_add (d_mul (d_ix (d_var 0 (pv 0)) d_int) d_int) d_int) a_nil)) d_int) (g_sub (fun ho hi => pg_sub ho hi set_list) (fun W takes0 => (d_var 0 (pv 0))) (fun W takes0 => d_int) takes0))
    (s_one (s_ret (d_mod (d_mod (d_toint T.z_int (a_cons (d_add (d_mul (d_ix (d_var 0 (pv 0)) d_int) d_int) d_int) a_nil)) d_int) (d_var 1 (pv 1)))))))))
theorem ok__law_less (T : Txt K mg A)  : FnOk P w K mg base (L2.CX P w) 2 A.a__law_less A.fd__law_less ["_law_num", "_law_den"] (spD K A.cA 2 m__law_less) :=
  fnOk_of T.f__law_less sc__law_less outC_ok outX_ok fun cdv A0 outer s H E hr => by
    have nd := sc__law_less.nd
    have hu1 := hu_of hr
    have hu64 := hr.units
    have hu65 : (A0.deeper (envOfC "_law_less" (defScope s__law_less) s.heap.objs.size A.a__law_less cdv)).units + 65 < cLine := by
      have := hr.un
      omega
    have tk := tk_of (P := P) (w := w) (K := K) (mg := mg) (base := base) (N := ["_law_num", "_law_den", "_law_a", "_law_b", "_law_k"]) (qual := "_law_less") (sc := defScope s__law_less) (f := A.a__law_less) (cdv := cdv) (A := A0) (outer := outer) (s := s) (H := H) (E := E)
    have hp := hp_of (P := P) (w := w) (K := K) (mg := mg) (base := base) (N := ["_law_num", "_law_den", "_law_a", "_law_b", "_law_k"]) (qual := "_law_less") (sc := defScope s__law_less) (f := A.a__law_less) (cdv := cdv) (A := A0) (outer := outer) (s := s) (H := H) (E := E)
    exact (s_cons (s_set (i := 2) nd (d_abs T.z_abs (a_cons (d_var 0 (pv 0)) a_nil)))
    (s_cons (s_set (i := 3) nd (d_var 1 (pv 1)))
    (s_cons (s_for hp rfl (i_r1 T.z_range (a_cons d_int a_nil)) (g_name (i := 4) nd) (s_cons (s_if (t_cmp (op_eqD hu64) ok_eq (d_var 3 (pv 3)) d_int) (s_one s_brk) s_nil)
    (s_one (s_par (ps_par (i := 2) (j := 3) rfl nd rfl rfl (by decide) rfl rfl (a_cons (d_var 3 (pv 3)) (a_cons (d_mod (d_toint T.z_int (a_cons (d_var 2 (pv 2)) a_nil)) (d_var 3 (pv 3))) a_nil)) rfl)))))
    (s_one (s_ret (d_tup (a_cons (d_div (d_var 0 (pv 0)) (d_var 2 (pv 2))) (a_cons (d_div (d_var 1 (pv 1)) (d_var 2 (pv 2))) a_nil))))))))
theorem ok_RatioU_eqU (T : Txt K mg A)  : FnOk P w K mg base (L2.CX P w) 2 A.a_RatioU_eqU A.fd_RatioU_eqU ["self", "other"] (spD K A.cA 2 m_RatioU_eqU) :=
  fnOk_of T.f_RatioU_eqU sc_RatioU_eqU outC_ok outX_ok fun cdv A0 outer s H E hr => by
    have nd := sc_RatioU_eqU.nd
    have hu1 := hu_of hr
    have hu64 := hr.units
    have hu65 : (A0.deeper (envOfC "Ratio.__eq__" (defScope s_RatioU_eqU) s.heap.objs.size A.a_RatioU_eqU cdv)).units + 65 < cLine := by
      have := hr.un
      omega
    have tk := tk_of (P := P) (w := w) (K := K) (mg := mg) (base := base) (N := ["self", "other"]) (qual := "Ratio.__eq__") (sc := defScope s_RatioU_eqU) (f := A.a_RatioU_eqU) (cdv := cdv) (A := A0) (outer := outer) (s := s) (H := H) (E := E)
    have hp := hp_of (P := P) (w := w) (K := K) (mg := mg) (base := base) (N := ["self", "other"]) (qual := "Ratio.__eq__") (sc := defScope s_RatioU_eqU) (f := A.a_RatioU_eqU) (cdv := cdv) (A := A0) (outer := outer) (s := s) (H := H) (E := E)
    exact (s_one (s_ret (d_and (d_isi T.z_isinstance (d_var 1 (pv 1)) (pe_glob (v := .ref (A.cA tRatio)) (by rfl) T.g_Ratio rfl) (.own _) T.o_Ratio) (d_and (d_cmp (op_eqD hu64) ok_eq (d_fld (clsOk_cons T.i_Ratio.cl T.n_Ratio_num clsOk_nil) (d_var 0 (pv 0))) (d_fld (clsOk_cons T.i_Ratio.cl T.n_Ratio_num clsOk_nil) (d_var 1 (pv 1)))) (d_one (d_cmp (op_eqD hu64) ok_eq (d_fld (clsOk_cons T.i_Ratio.cl T.n_Ratio_den clsOk_nil) (d_var 0 (pv 0))) (d_fld (clsOk_cons T.i_Ratio.cl T.n_Ratio_den clsOk_nil) (d_var 1 (pv 1)))))))))
theorem ok_RatioU_initU (T : Txt K mg A)  : FnOk P w K mg base (L2.CX P w) 2 A.a_RatioU_initU A.fd_RatioU_initU ["self", "num", "den"] (spD K A.cA 3 m_RatioU_initU) :=
  fnOk_ofD T.f_RatioU_initU sc_RatioU_initU outM_ok outXM_ok fun cdv A0 outer s H E hr => by
    have nd := sc_RatioU_initU.nd
    have hu1 := hu_of hr
    have hu64 := hr.units
    have hu65 : (A0.deeper (envOfC "Ratio.__init__" (defScope s_RatioU_initU) s.heap.objs.size A.a_RatioU_initU cdv)).units + 65 < cLine := by
      have := hr.un
      omega
    have tk := tk_of (P := P) (w := w) (K := K) (mg := mg) (base := base) (N := ["self", "num", "den", "one", "other"]) (qual := "Ratio.__init__") (sc := defScope s_RatioU_initU) (f := A.a_RatioU_initU) (cdv := cdv) (A := A0) (outer := outer) (s := s) (H := H) (E := E)
    have hp := hp_of (P := P) (w := w) (K := K) (mg := mg) (base := base) (N := ["self", "num", "den", "one", "other"]) (qual := "Ratio.__init__") (sc := defScope s_RatioU_initU) (f := A.a_RatioU_initU) (cdv := cdv) (A := A0) (outer := outer) (s := s) (H := H) (E := E)
    exact (s_cons (s_if (t_cmp op_leD ok_le (d_var 2 (pv 2)) d_int) (s_one s_never) s_nil)
    (s_cons (s_set (i := 3) nd (d_abs T.z_abs (a_cons (d_var 1 (pv 1)) a_nil)))
    (s_cons (s_set (i := 4) nd (d_var 2 (pv 2)))
    (s_cons (s_while 100000 hp (t_tru (d_var 4 (pv 4))) (s_one (s_par (ps_par (i := 3) (j := 4) rfl nd rfl rfl (by decide) rfl rfl (a_cons (d_var 4 (pv 4)) (a_cons (d_mod (d_var 3 (pv 3)) (d_var 4 (pv 4))) a_nil)) rfl))))
    (s_cons (s_fld (t := tRatio) T.i_Ratio.cl T.n_Ratio_num (d_var 0 (pv 0)) (d_div (d_var 1 (pv 1)) (d_var 3 (pv 3))))
    (s_one (s_fld (t := tRatio) T.i_Ratio.cl T.n_Ratio_den (d_var 0 (pv 0)) (d_div (d_var 2 (pv 2)) (d_var 3 (pv 3))))))))))
theorem ok_RatioU_addU (T : Txt K mg A) (F_RatioU_initU : FnOk P w K mg base (L2.CX P w) 2 A.a_RatioU_initU A.fd_RatioU_initU ["self", "num", "den"] (spD K A.cA 3 m_RatioU_initU)) : FnOk P w K mg base (L2.CX P w) 4 A.a_RatioU_addU A.fd_RatioU_addU ["self", "other"] (spD K A.cA 2 m_RatioU_addU) :=
  fnOk_of T.f_RatioU_addU sc_RatioU_addU outC_ok outX_ok fun cdv A0 outer s H E hr => by
    have nd := sc_RatioU_addU.nd
    have hu1 := hu_of hr
    have hu64 := hr.units
    have hu65 : (A0.deeper (envOfC "Ratio.__add__" (defScope s_RatioU_addU) s.heap.objs.size A.a_RatioU_addU cdv)).units + 65 < cLine := by
      have := hr.un
      omega
    have tk := tk_of (P := P) (w := w) (K := K) (mg := mg) (base := base) (N := ["self", "other"]) (qual := "Ratio.__add__") (sc := defScope s_RatioU_addU) (f := A.a_RatioU_addU) (cdv := cdv) (A := A0) (outer := outer) (s := s) (H := H) (E := E)
    have hp := hp_of (P := P) (w := w) (K := K) (mg := mg) (base := base) (N := ["self", "other"]) (qual := "Ratio.__add__") (sc := defScope s_RatioU_addU) (f := A.a_RatioU_addU) (cdv := cdv) (A := A0) (outer := outer) (s := s) (H := H) (E := E)
    exact (s_one (s_ret (d_make T.mk_Ratio F_RatioU_initU mkF_ok tk (hr.mono (by omega)) T.g_Ratio T.b_RatioU_initU .nil flat_nil (a_cons (d_add (d_mul (d_fld (clsOk_cons T.i_Ratio.cl T.n_Ratio_num clsOk_nil) (d_var 0 (pv 0))) (d_fld (clsOk_cons T.i_Ratio.cl T.n_Ratio_den clsOk_nil) (d_var 1 (pv 1)))) (d_mul (d_fld (clsOk_cons T.i_Ratio.cl T.n_Ratio_num clsOk_nil) (d_var 1 (pv 1))) (d_fld (clsOk_cons T.i_Ratio.cl T.n_Ratio_den clsOk_nil) (d_var 0 (pv 0))))) (a_cons (d_mul (d_fld (clsOk_cons T.i_Ratio.cl T.n_Ratio_den clsOk_nil) (d_var 0 (pv 0))) (d_fld (clsOk_cons T.i_Ratio.cl T.n_Ratio_den clsOk_nil) (d_var 1 (pv 1)))) a_nil)))))
theorem ok__law_same (T : Txt K mg A)  : ∀ n, FnOk P w K mg base (L2.CX P w) (1 + n) A.a__law_same A.fd__law_same ["_law_actual", "_law_due"] (spD K A.cA 2 (m__law_same n))
  | 0 => fnOk_no
  | n + 1 => by
    have F__law_same := ok__law_same T  n
    exact fnOk_of T.f__law_same sc__law_same outC_ok outX_ok fun cdv A0 outer s H E hr => by
      have hr : Room (1 + n) _ := hr
      have nd := sc__law_same.nd
      have hu1 := hu_of hr
      have hu64 := hr.units
      have hu65 : (A0.deeper (envOfC "_law_same" (defScope s__law_same) s.heap.objs.size A.a__law_same cdv)).units + 65 < cLine := by
        have := hr.un
        omega
      have tk := tk_of (P := P) (w := w) (K := K) (mg := mg) (base := base) (N := ["_law_actual", "_law_due", "_law_k"]) (qual := "_law_same") (sc := defScope s__law_same) (f := A.a__law_same) (cdv := cdv) (A := A0) (outer := outer) (s := s) (H := H) (E := E)
      have hp := hp_of (P := P) (w := w) (K := K) (mg := mg) (base := base) (N := ["_law_actual", "_law_due", "_law_k"]) (qual := "_law_same") (sc := defScope s__law_same) (f := A.a__law_same) (cdv := cdv) (A := A0) (outer := outer) (s := s) (H := H) (E := E)
      exact (s_cons (s_if (PW.pt (w_or (t_tru (d_isi T.z_isinstance (d_var 1 (pv 1)) (pe_bltn (v := .ty "tuple") (by rfl) T.z_tuple (by decide +kernel) rfl) (.ty "tuple") (is_tup T.owns))) (w_or1 (t_tru (d_isi T.z_isinstance (d_var 1 (pv 1)) (pe_bltn (v := .ty "list") (by rfl) T.z_list (by decide +kernel) rfl) (.ty "list") (is_lst T.owns)))))) (s_cons (s_if (PW.pt (w_or (t_cmp (op_neD hu64) ok_ne (d_isi T.z_isinstance (d_var 1 (pv 1)) (pe_bltn (v := .ty "tuple") (by rfl) T.z_tuple (by decide +kernel) rfl) (.ty "tuple") (is_tup T.owns)) (d_isi T.z_isinstance (d_var 0 (pv 0)) (pe_bltn (v := .ty "tuple") (by rfl) T.z_tuple (by decide +kernel) rfl) (.ty "tuple") (is_tup T.owns))) (w_or1 (t_cmp (op_neD hu64) ok_ne (d_isi T.z_isinstance (d_var 1 (pv 1)) (pe_bltn (v := .ty "list") (by rfl) T.z_list (by decide +kernel) rfl) (.ty "list") (is_lst T.owns)) (d_isi T.z_isinstance (d_var 0 (pv 0)) (pe_bltn (v := .ty "list") (by rfl) T.z_list (by decide +kernel) rfl) (.ty "list") (is_lst T.owns)))))) (s_one (s_ret d_bl)) s_nil)
      (s_cons (s_if (t_cmp (op_neD hu64) ok_ne (d_len T.z_len (a_cons (d_var 0 (pv 0)) a_nil)) (d_len T.z_len (a_cons (d_var 1 (pv 1)) a_nil))) (s_one (s_ret d_bl)) s_nil)
      (s_cons (s_for hp rfl (i_r1 T.z_range (a_cons (d_len T.z_len (a_cons (d_var 1 (pv 1)) a_nil)) a_nil)) (g_name (i := 2) nd) (s_one (s_if (t_not (t_tru (d_call F__law_same cR_ok tk (hr.mono (by omega)) T.g__law_same T.k__law_same T.b__law_same .nil flat_nil (a_cons (d_ix (d_var 0 (pv 0)) (d_var 2 (pv 2))) (a_cons (d_ix (d_var 1 (pv 1)) (d_var 2 (pv 2))) a_nil))))) (s_one (s_ret d_bl)) s_nil)))
      (s_one (s_ret d_bl))))) s_nil)
      (s_cons (s_if (PW.pt (w_or (t_cmp op_isN ok_isN (d_var 1 (pv 1)) d_non) (w_or1 (t_tru (d_isi T.z_isinstance (d_var 1 (pv 1)) (pe_bltn (v := .ty "bool") (by rfl) T.z_bool (by decide +kernel) rfl) (.ty "bool") (is_bl T.owns)))))) (s_one (s_ret (d_and (d_cmp (op_eqD hu64) ok_eq (d_cmp op_isN ok_isN (d_var 0 (pv 0)) d_non) (d_cmp op_isN ok_isN (d_var 1 (pv 1)) d_non)) (d_and (d_or (d_cmp op_isN ok_isN (d_var 1 (pv 1)) d_non) (d_one (d_isi T.z_isinstance (d_var 0 (pv 0)) (pe_bltn (v := .ty "bool") (by rfl) T.z_bool (by decide +kernel) rfl) (.ty "bool") (is_bl T.owns)))) (d_one (d_cmp (op_eqD hu64) ok_eq (d_var 0 (pv 0)) (d_var 1 (pv 1)))))))) s_nil)
      (s_cons (s_if (t_tru (d_isi T.z_isinstance (d_var 1 (pv 1)) (pe_bltn (v := .ty "int") (by rfl) T.z_int (by decide +kernel) rfl) (.ty "int") (is_int T.owns))) (s_one (s_ret (d_and (d_isi T.z_isinstance (d_var 0 (pv 0)) (pe_bltn (v := .ty "int") (by rfl) T.z_int (by decide +kernel) rfl) (.ty "int") (is_int T.owns)) (d_and (d_not (d_isi T.z_isinstance (d_var 0 (pv 0)) (pe_bltn (v := .ty "bool") (by rfl) T.z_bool (by decide +kernel) rfl) (.ty "bool") (is_bl T.owns))) (d_one (d_cmp (op_eqD hu64) ok_eq (d_var 0 (pv 0)) (d_var 1 (pv 1)))))))) s_nil)
      (s_one (s_ret (d_and (d_isi T.z_isinstance (d_var 0 (pv 0)) (pe_bltn (v := .ty "str") (by rfl) T.z_str (by decide +kernel) rfl) (.ty "str") (is_str T.owns)) (d_one (d_cmp (op_eqD hu64) ok_eq (d_var 0 (pv 0)) (d_var 1 (pv 1))))))))))
theorem ok_TableU_initU (T : Txt K mg A)  : FnOk P w K mg base (L2.CX P w) 2 A.a_TableU_initU A.fd_TableU_initU ["self", "rows"] (spD K A.cA 2 m_TableU_initU) :=
  fnOk_of T.f_TableU_initU sc_TableU_initU outM_ok outXM_ok fun cdv A0 outer s H E hr => by
    have nd := sc_TableU_initU.nd
    have hu1 := hu_of hr
    have hu64 := hr.units
    have hu65 : (A0.deeper (envOfC "Table.__init__" (defScope s_TableU_initU) s.heap.objs.size A.a_TableU_initU cdv)).units + 65 < cLine := by
      have := hr.un
      omega
    have tk := tk_of (P := P) (w := w) (K := K) (mg := mg) (base := base) (N := ["self", "rows", "width", "row", "result"]) (qual := "Table.__init__") (sc := defScope s_TableU_initU) (f := A.a_TableU_initU) (cdv := cdv) (A := A0) (outer := outer) (s := s) (H := H) (E := E)
    have hp := hp_of (P := P) (w := w) (K := K) (mg := mg) (base := base) (N := ["self", "rows", "width", "row", "result"]) (qual := "Table.__init__") (sc := defScope s_TableU_initU) (f := A.a_TableU_initU) (cdv := cdv) (A := A0) (outer := outer) (s := s) (H := H) (E := E)
    exact (s_cons (s_if (t_not (t_chain op_ltD op_leD ok_lt ok_le d_int (d_len T.z_len (a_cons (d_var 1 (pv 1)) a_nil)) (d_c (pe_glob (by rfl) T.g_MOST_VALUES T.r_MOST_VALUES) T.p_MOST_VALUES))) (s_one s_never) s_nil)
    (s_cons (s_set (i := 2) nd (d_len T.z_len (a_cons (d_ix (d_var 1 (pv 1)) d_int) a_nil)))
    (s_cons (s_if (PW.pt (w_or (t_not (t_chain op_ltD op_leD ok_lt ok_le d_int (d_var 2 (pv 2)) (d_c (pe_glob (by rfl) T.g_MOST_VALUES T.r_MOST_VALUES) T.p_MOST_VALUES))) (w_or1 (t_tru (d_callB ok_any (cr_any rfl) T.z_any (a_cons (d_lc rfl nd (i_seq (d_var 1 (pv 1))) (own := [("row", 3)]) (by exact blkOk_by (N := ["self", "rows", "width", "row", "result"]) (sc := (defScope s_TableU_initU)) (by decide +kernel)) finF_ok (gok_name (by decide)) (g := (gName 3)) (fun _ _ _ _ _ => (pg_name (i := 3) nd rfl (by first | exact Or.inl rfl | exact Or.inr rfl))) (fun _ _ _ _ _ => ts_nil) (fun _ _ _ _ _ => (d_cmp (op_neD hu64) ok_ne (d_len T.z_len (a_cons (d_var 3 (pv 3)) a_nil)) (d_var 2 (pv 2))))) a_nil)))))) (s_one s_never) s_nil)
    (s_cons (s_if (t_tru (d_callB ok_any (cr_any rfl) T.z_any (a_cons (d_lc2 rfl nd (i_seq (d_var 1 (pv 1))) (own := [("row", 3), ("result", 4)]) (by exact blkOk_by (N := ["self", "rows", "width", "row", "result"]) (sc := (defScope s_TableU_initU)) (by decide +kernel)) (vs1 := [4]) (by decide) finF_ok (gok_name (by decide)) (gok_name (by decide)) (g := (gName 3)) (gg1 := (gName 4)) (fun _ _ _ _ _ => (pg_name (i := 3) nd rfl (by first | exact Or.inl rfl | exact Or.inr rfl))) (fun _ _ _ _ _ => ts_nil) (fun _ _ _ _ _ => (i_seq (d_var 3 (pv 3)))) (fun _ _ _ _ _ => (pg_name (i := 4) nd rfl (by first | exact Or.inl rfl | exact Or.inr rfl))) (fun _ _ _ _ _ => ts_nil) (fun _ _ _ _ _ => (d_not (d_chain op_leD op_leD ok_le ok_le d_int (d_var 4 (pv 4)) (d_c (pe_glob (by rfl) T.g_GREATEST T.r_GREATEST) T.p_GREATEST))))) a_nil))) (s_one s_never) s_nil)
    (s_one (s_fld (t := tTable) T.i_Table.cl T.n_Table_rows (d_var 0 (pv 0)) (d_tuple T.z_tuple (a_cons (d_lc rfl nd (i_seq (d_var 1 (pv 1))) (own := [("row", 3)]) (by exact blkOk_by (N := ["self", "rows", "width", "row", "result"]) (sc := (defScope s_TableU_initU)) (by decide +kernel)) finF_ok (gok_name (by decide)) (g := (gName 3)) (fun _ _ _ _ _ => (pg_name (i := 3) nd rfl (by first | exact Or.inl rfl | exact Or.inr rfl))) (fun _ _ _ _ _ => ts_nil) (fun _ _ _ _ _ => (d_tuple T.z_tuple (a_cons (d_var 3 (pv 3)) a_nil)))) a_nil))))))))
theorem ok_fits (T : Txt K mg A)  : ∀ n, FnOk P w K mg base (L2.CX P w) (1 + n) A.a_fits A.fd_fits ["table", "talk"] (spD K A.cA 2 (m_fits n))
  | 0 => fnOk_no
  | n + 1 => by
    have F_fits := ok_fits T  n
    exact fnOk_of T.f_fits sc_fits outC_ok outX_ok fun cdv A0 outer s H E hr => by
      have hr : Room (1 + n) _ := hr
      have nd := sc_fits.nd
      have hu1 := hu_of hr
      have hu64 := hr.units
      have hu65 : (A0.deeper (envOfC "fits" (defScope s_fits) s.heap.objs.size A.a_fits cdv)).units + 65 < cLine := by
        have := hr.un
        omega
      have tk := tk_of (P := P) (w := w) (K := K) (mg := mg) (base := base) (N := ["table", "talk", "count", "part"]) (qual := "fits") (sc := defScope s_fits) (f := A.a_fits) (cdv := cdv) (A := A0) (outer := outer) (s := s) (H := H) (E := E)
      have hp := hp_of (P := P) (w := w) (K := K) (mg := mg) (base := base) (N := ["table", "talk", "count", "part"]) (qual := "fits") (sc := defScope s_fits) (f := A.a_fits) (cdv := cdv) (A := A0) (outer := outer) (s := s) (H := H) (E := E)
      exact (s_cons (s_if (t_tru (d_isi T.z_isinstance (d_var 1 (pv 1)) (pe_glob (v := .ref (A.cA tEnd)) (by rfl) T.g_End rfl) (.own _) T.o_End)) (s_one (s_ret d_bl)) s_nil)
      (s_cons (s_set (i := 2) nd (d_ix (d_tup (a_cons (d_len T.z_len (a_cons (d_fld (clsOk_cons T.i_Table.cl T.n_Table_rows clsOk_nil) (d_var 0 (pv 0))) a_nil)) (a_cons (d_len T.z_len (a_cons (d_ix (d_fld (clsOk_cons T.i_Table.cl T.n_Table_rows clsOk_nil) (d_var 0 (pv 0))) d_int) a_nil)) a_nil))) (d_sub (d_fld (clsOk_cons T.i_Say.cl T.n_Say_person clsOk_nil) (d_var 1 (pv 1))) d_int)))
      (s_one (s_ret (d_and (d_cmp (op_eqD hu64) ok_eq (d_len T.z_len (a_cons (d_fld (clsOk_cons T.i_Say.cl T.n_Say_lots clsOk_nil) (d_var 1 (pv 1))) a_nil)) (d_var 2 (pv 2))) (d_one (d_callB ok_all (cr_all rfl) T.z_all (a_cons (d_lc rfl nd (i_seq (d_fld (clsOk_cons T.i_Say.cl T.n_Say_parts clsOk_nil) (d_var 1 (pv 1)))) (own := [("part", 3)]) (by exact blkOk_by (N := ["table", "talk", "count", "part"]) (sc := (defScope s_fits)) (by decide +kernel)) finF_ok (gok_name (by decide)) (g := (gName 3)) (fun _ _ _ _ _ => (pg_name (i := 3) nd rfl (by first | exact Or.inl rfl | exact Or.inr rfl))) (fun _ _ _ _ _ => ts_nil) (fun _ _ _ _ _ => (d_call F_fits cR_ok takes0 (hr.mono (by omega)) T.g_fits T.k_fits T.b_fits .nil flat_nil (a_cons (d_var 0 (pv 0)) (a_cons (d_var 3 (pv 3)) a_nil))))) a_nil))))))))
theorem ok__law_fits (T : Txt K mg A)  : ∀ n, FnOk P w K mg base (L2.CX P w) (1 + n) A.a__law_fits A.fd__law_fits ["_law_talk_here", "_law_sizes"] (spD K A.cA 2 (m__law_fits n))
  | 0 => fnOk_no
  | n + 1 => by
    have F__law_fits := ok__law_fits T  n
    exact fnOk_of T.f__law_fits sc__law_fits outC_ok outX_ok fun cdv A0 outer s H E hr => by
      have hr : Room (1 + n) _ := hr
      have nd := sc__law_fits.nd
      have hu1 := hu_of hr
      have hu64 := hr.units
      have hu65 : (A0.deeper (envOfC "_law_fits" (defScope s__law_fits) s.heap.objs.size A.a__law_fits cdv)).units + 65 < cLine := by
        have := hr.un
        omega
      have tk := tk_of (P := P) (w := w) (K := K) (mg := mg) (base := base) (N := ["_law_talk_here", "_law_sizes", "_law_part"]) (qual := "_law_fits") (sc := defScope s__law_fits) (f := A.a__law_fits) (cdv := cdv) (A := A0) (outer := outer) (s := s) (H := H) (E := E)
      have hp := hp_of (P := P) (w := w) (K := K) (mg := mg) (base := base) (N := ["_law_talk_here", "_law_sizes", "_law_part"]) (qual := "_law_fits") (sc := defScope s__law_fits) (f := A.a__law_fits) (cdv := cdv) (A := A0) (outer := outer) (s := s) (H := H) (E := E)
      exact (s_cons (s_if (t_cmp (op_eqD hu64) ok_eq (d_ix (d_var 0 (pv 0)) d_int) d_str) (s_one (s_ret d_bl)) s_nil)
      (s_one (s_ret (d_and (d_cmp (op_eqD hu64) ok_eq (d_len T.z_len (a_cons (d_ix (d_var 0 (pv 0)) d_int) a_nil)) (d_ix (d_var 1 (pv 1)) (d_sub (d_ix (d_var 0 (pv 0)) d_int) d_int))) (d_one (d_cmp (op_notInAll hu65) ok_in d_bl (d_lc rfl nd (i_seq (d_ix (d_var 0 (pv 0)) d_int)) (own := [("_law_part", 2)]) (by exact blkOk_by (N := ["_law_talk_here", "_law_sizes", "_law_part"]) (sc := (defScope s__law_fits)) (by decide +kernel)) finF_ok (gok_name (by decide)) (g := (gName 2)) (fun _ _ _ _ _ => (pg_name (i := 2) nd rfl (by first | exact Or.inl rfl | exact Or.inr rfl))) (fun _ _ _ _ _ => ts_nil) (fun _ _ _ _ _ => (d_call F__law_fits cR_ok takes0 (hr.mono (by omega)) T.g__law_fits T.k__law_fits T.b__law_fits .nil flat_nil (a_cons (d_var 2 (pv 2)) (a_cons (d_var 1 (pv 1)) a_nil)))))))))))
theorem ok_RatioU_mulU (T : Txt K mg A) (F_RatioU_initU : FnOk P w K mg base (L2.CX P w) 2 A.a_RatioU_initU A.fd_RatioU_initU ["self", "num", "den"] (spD K A.cA 3 m_RatioU_initU)) : FnOk P w K mg base (L2.CX P w) 4 A.a_RatioU_mulU A.fd_RatioU_mulU ["self", "other"] (spD K A.cA 2 m_RatioU_mulU) :=
  fnOk_of T.f_RatioU_mulU sc_RatioU_mulU outC_ok outX_ok fun cdv A0 outer s H E hr => by
    have nd := sc_RatioU_mulU.nd
    have hu1 := hu_of hr
    have hu64 := hr.units
    have hu65 : (A0.deeper (envOfC "Ratio.__mul__" (defScope s_RatioU_mulU) s.heap.objs.size A.a_RatioU_mulU cdv)).units + 65 < cLine := by
      have := hr.un
      omega
    have tk := tk_of (P := P) (w := w) (K := K) (mg := mg) (base := base) (N := ["self", "other"]) (qual := "Ratio.__mul__") (sc := defScope s_RatioU_mulU) (f := A.a_RatioU_mulU) (cdv := cdv) (A := A0) (outer := outer) (s := s) (H := H) (E := E)
    have hp := hp_of (P := P) (w := w) (K := K) (mg := mg) (base := base) (N := ["self", "other"]) (qual := "Ratio.__mul__") (sc := defScope s_RatioU_mulU) (f := A.a_RatioU_mulU) (cdv := cdv) (A := A0) (outer := outer) (s := s) (H := H) (E := E)
    exact (s_one (s_ret (d_make T.mk_Ratio F_RatioU_initU mkF_ok tk (hr.mono (by omega)) T.g_Ratio T.b_RatioU_initU .nil flat_nil (a_cons (d_mul (d_fld (clsOk_cons T.i_Ratio.cl T.n_Ratio_num clsOk_nil) (d_var 0 (pv 0))) (d_fld (clsOk_cons T.i_Ratio.cl T.n_Ratio_num clsOk_nil) (d_var 1 (pv 1)))) (a_cons (d_mul (d_fld (clsOk_cons T.i_Ratio.cl T.n_Ratio_den clsOk_nil) (d_var 0 (pv 0))) (d_fld (clsOk_cons T.i_Ratio.cl T.n_Ratio_den clsOk_nil) (d_var 1 (pv 1)))) a_nil)))))
theorem ok_longest (T : Txt K mg A)  : ∀ n, FnOk P w K mg base (L2.CX P w) (1 + n) A.a_longest A.fd_longest ["talk"] (spD K A.cA 1 (m_longest n))
  | 0 => fnOk_no
  | n + 1 => by
    have F_longest := ok_longest T  n
    exact fnOk_of T.f_longest sc_longest outC_ok outX_ok fun cdv A0 outer s H E hr => by
      have hr : Room (1 + n) _ := hr
      have nd := sc_longest.nd
      have hu1 := hu_of hr
      have hu64 := hr.units
      have hu65 : (A0.deeper (envOfC "longest" (defScope s_longest) s.heap.objs.size A.a_longest cdv)).units + 65 < cLine := by
        have := hr.un
        omega
      have tk := tk_of (P := P) (w := w) (K := K) (mg := mg) (base := base) (N := ["talk", "part"]) (qual := "longest") (sc := defScope s_longest) (f := A.a_longest) (cdv := cdv) (A := A0) (outer := outer) (s := s) (H := H) (E := E)
      have hp := hp_of (P := P) (w := w) (K := K) (mg := mg) (base := base) (N := ["talk", "part"]) (qual := "longest") (sc := defScope s_longest) (f := A.a_longest) (cdv := cdv) (A := A0) (outer := outer) (s := s) (H := H) (E := E)
      exact (s_cons (s_if (t_tru (d_isi T.z_isinstance (d_var 0 (pv 0)) (pe_glob (v := .ref (A.cA tEnd)) (by rfl) T.g_End rfl) (.own _) T.o_End)) (s_one (s_ret d_int)) s_nil)
      (s_one (s_ret (d_add d_int (d_callB ok_maxl (cr_max rfl) T.z_max (a_cons (d_lc rfl nd (i_seq (d_fld (clsOk_cons T.i_Say.cl T.n_Say_parts clsOk_nil) (d_var 0 (pv 0)))) (own := [("part", 1)]) (by exact blkOk_by (N := ["talk", "part"]) (sc := (defScope s_longest)) (by decide +kernel)) finF_ok (gok_name (by decide)) (g := (gName 1)) (fun _ _ _ _ _ => (pg_name (i := 1) nd rfl (by first | exact Or.inl rfl | exact Or.inr rfl))) (fun _ _ _ _ _ => ts_nil) (fun _ _ _ _ _ => (d_call F_longest cR_ok takes0 (hr.mono (by omega)) T.g_longest T.k_longest T.b_longest .nil flat_nil (a_cons (d_var 1 (pv 1)) a_nil)))) a_nil))))))
theorem ok__law_longest (T : Txt K mg A)  : ∀ n, FnOk P w K mg base (L2.CX P w) (1 + n) A.a__law_longest A.fd__law_longest ["_law_talk_here"] (spD K A.cA 1 (m__law_longest n))
  | 0 => fnOk_no
  | n + 1 => by
    have F__law_longest := ok__law_longest T  n
    exact fnOk_of T.f__law_longest sc__law_longest outC_ok outX_ok fun cdv A0 outer s H E hr => by
      have hr : Room (1 + n) _ := hr
      have nd := sc__law_longest.nd
      have hu1 := hu_of hr
      have hu64 := hr.units
      have hu65 : (A0.deeper (envOfC "_law_longest" (defScope s__law_longest) s.heap.objs.size A.a__law_longest cdv)).units + 65 < cLine := by
        have := hr.un
        omega
      have tk := tk_of (P := P) (w := w) (K := K) (mg := mg) (base := base) (N := ["_law_talk_here", "_law_part"]) (qual := "_law_longest") (sc := defScope s__law_longest) (f := A.a__law_longest) (cdv := cdv) (A := A0) (outer := outer) (s := s) (H := H) (E := E)
      have hp := hp_of (P := P) (w := w) (K := K) (mg := mg) (base := base) (N := ["_law_talk_here", "_law_part"]) (qual := "_law_longest") (sc := defScope s__law_longest) (f := A.a__law_longest) (cdv := cdv) (A := A0) (outer := outer) (s := s) (H := H) (E := E)
      exact (s_cons (s_if (t_cmp (op_eqD hu64) ok_eq (d_ix (d_var 0 (pv 0)) d_int) d_str) (s_one (s_ret d_int)) s_nil)
      (s_one (s_ret (d_add d_int (d_callB ok_maxl (cr_max rfl) T.z_max (a_cons (d_lc rfl nd (i_seq (d_ix (d_var 0 (pv 0)) d_int)) (own := [("_law_part", 1)]) (by exact blkOk_by (N := ["_law_talk_here", "_law_part"]) (sc := (defScope s__law_longest)) (by decide +kernel)) finF_ok (gok_name (by decide)) (g := (gName 1)) (fun _ _ _ _ _ => (pg_name (i := 1) nd rfl (by first | exact Or.inl rfl | exact Or.inr rfl))) (fun _ _ _ _ _ => ts_nil) (fun _ _ _ _ _ => (d_call F__law_longest cR_ok takes0 (hr.mono (by omega)) T.g__law_longest T.k__law_longest T.b__law_longest .nil flat_nil (a_cons (d_var 1 (pv 1)) a_nil)))) a_nil))))))
theorem ok__law_times (T : Txt K mg A) (F__law_less : FnOk P w K mg base (L2.CX P w) 2 A.a__law_less A.fd__law_less ["_law_num", "_law_den"] (spD K A.cA 2 m__law_less)) : FnOk P w K mg base (L2.CX P w) 3 A.a__law_times A.fd__law_times ["_law_one", "_law_other"] (spD K A.cA 2 m__law_times) :=
  fnOk_of T.f__law_times sc__law_times outC_ok outX_ok fun cdv A0 outer s H E hr => by
    have nd := sc__law_times.nd
    have hu1 := hu_of hr
    have hu64 := hr.units
    have hu65 : (A0.deeper (envOfC "_law_times" (defScope s__law_times) s.heap.objs.size A.a__law_times cdv)).units + 65 < cLine := by
      have := hr.un
      omega
    have tk := tk_of (P := P) (w := w) (K := K) (mg := mg) (base := base) (N := ["_law_one", "_law_other"]) (qual := "_law_times") (sc := defScope s__law_times) (f := A.a__law_times) (cdv := cdv) (A := A0) (outer := outer) (s := s) (H := H) (E := E)
    have hp := hp_of (P := P) (w := w) (K := K) (mg := mg) (base := base) (N := ["_law_one", "_law_other"]) (qual := "_law_times") (sc := defScope s__law_times) (f := A.a__law_times) (cdv := cdv) (A := A0) (outer := outer) (s := s) (H := H) (E := E)
    exact (s_one (s_ret (d_call F__law_less cR_ok tk (hr.mono (by omega)) T.g__law_less T.k__law_less T.b__law_less .nil flat_nil (a_cons (d_mul (d_ix (d_var 0 (pv 0)) d_int) (d_ix (d_var 1 (pv 1)) d_int)) (a_cons (d_mul (d_ix (d_var 0 (pv 0)) d_int) (d_ix (d_var 1 (pv 1)) d_int)) a_nil)))))
theorem ok__law_lots (T : Txt K mg A) (F__law_draw : FnOk P w K mg base (L2.CX P w) 2 A.a__law_draw A.fd__law_draw ["_law_pool_here", "_law_size"] (spD K A.cA 2 m__law_draw)) (F__law_less : FnOk P w K mg base (L2.CX P w) 2 A.a__law_less A.fd__law_less ["_law_num", "_law_den"] (spD K A.cA 2 m__law_less)) : FnOk P w K mg base (L2.CX P w) 3 A.a__law_lots A.fd__law_lots ["_law_pool_here", "_law_count"] (spD K A.cA 2 m__law_lots) :=
  fnOk_of T.f__law_lots sc__law_lots outC_ok outX_ok fun cdv A0 outer s H E hr => by
    have nd := sc__law_lots.nd
    have hu1 := hu_of hr
    have hu64 := hr.units
    have hu65 : (A0.deeper (envOfC "_law_lots" (defScope s__law_lots) s.heap.objs.size A.a__law_lots cdv)).units + 65 < cLine := by
      have := hr.un
      omega
    have tk := tk_of (P := P) (w := w) (K := K) (mg := mg) (base := base) (N := ["_law_pool_here", "_law_count", "_law_weights", "_law_k", "_law_weight"]) (qual := "_law_lots") (sc := defScope s__law_lots) (f := A.a__law_lots) (cdv := cdv) (A := A0) (outer := outer) (s := s) (H := H) (E := E)
    have hp := hp_of (P := P) (w := w) (K := K) (mg := mg) (base := base) (N := ["_law_pool_here", "_law_count", "_law_weights", "_law_k", "_law_weight"]) (qual := "_law_lots") (sc := defScope s__law_lots) (f := A.a__law_lots) (cdv := cdv) (A := A0) (outer := outer) (s := s) (H := H) (E := E)
    exact (s_cons (s_set (i := 2) nd (d_lc rfl nd (i_r1 T.z_range (a_cons (d_var 1 (pv 1)) a_nil)) (own := [("_law_k", 3)]) (by exact blkOk_by (N := ["_law_pool_here", "_law_count", "_law_weights", "_law_k", "_law_weight"]) (sc := (defScope s__law_lots)) (by decide +kernel)) finM_ok (gok_name (by decide)) (g := (gName 3)) (fun _ _ _ _ _ => (pg_name (i := 3) nd rfl (by first | exact Or.inl rfl | exact Or.inr rfl))) (fun _ _ _ _ _ => ts_nil) (fun _ _ _ _ _ => (d_call F__law_draw cR_ok takes0 (hr.mono (by omega)) T.g__law_draw T.k__law_draw T.b__law_draw .nil flat_nil (a_cons (d_var 0 (pv 0)) (a_cons d_int a_nil))))))
    (s_cons (s_if (t_cmp (op_eqD hu64) ok_eq (d_call F__law_draw cR_ok tk (hr.mono (by omega)) T.g__law_draw T.k__law_draw T.b__law_draw .nil flat_nil (a_cons (d_var 0 (pv 0)) (a_cons d_int a_nil))) d_int) (s_one (s_set (i := 2) nd (d_rep (fr := false) (d_lst (a_cons d_int a_nil)) (d_var 1 (pv 1))))) s_nil)
    (s_cons (s_if (t_cmp (op_eqD hu64) ok_eq (d_callB ok_sum (cr_sum rfl) T.z_sum (a_cons (d_var 2 (pv 2)) a_nil)) d_int) (s_one (s_asg d_int (g_sub (fun ho hi => pg_sub ho hi set_list) (fun W takes0 => (d_var 2 (pv 2))) (fun W takes0 => (d_call F__law_draw cR_ok takes0 (hr.mono (by omega)) T.g__law_draw T.k__law_draw T.b__law_draw .nil flat_nil (a_cons (d_var 0 (pv 0)) (a_cons (d_var 1 (pv 1)) a_nil)))) takes0))) s_nil)
    (s_cons (s_if (t_cmp (op_eqD hu64) ok_eq (d_call F__law_draw cR_ok tk (hr.mono (by omega)) T.g__law_draw T.k__law_draw T.b__law_draw .nil flat_nil (a_cons (d_var 0 (pv 0)) (a_cons d_int a_nil))) d_int) (s_one (s_asg (d_ix (d_tup (a_cons d_int (a_cons d_int (a_cons (d_pow d_int d_int) (a_cons (d_pow d_int d_int) a_nil))))) (d_call F__law_draw cR_ok tk (hr.mono (by omega)) T.g__law_draw T.k__law_draw T.b__law_draw .nil flat_nil (a_cons (d_var 0 (pv 0)) (a_cons d_int a_nil)))) (g_sub (fun ho hi => pg_sub ho hi set_list) (fun W takes0 => (d_var 2 (pv 2))) (fun W takes0 => (d_call F__law_draw cR_ok takes0 (hr.mono (by omega)) T.g__law_draw T.k__law_draw T.b__law_draw .nil flat_nil (a_cons (d_var 0 (pv 0)) (a_cons (d_var 1 (pv 1)) a_nil)))) takes0))) s_nil)
    (s_one (s_ret (d_lc rfl nd (i_seq (d_var 2 (pv 2))) (own := [("_law_weight", 4)]) (by exact blkOk_by (N := ["_law_pool_here", "_law_count", "_law_weights", "_law_k", "_law_weight"]) (sc := (defScope s__law_lots)) (by decide +kernel)) finF_ok (gok_name (by decide)) (g := (gName 4)) (fun _ _ _ _ _ => (pg_name (i := 4) nd rfl (by first | exact Or.inl rfl | exact Or.inr rfl))) (fun _ _ _ _ _ => ts_nil) (fun _ _ _ _ _ => (d_call F__law_less cR_ok takes0 (hr.mono (by omega)) T.g__law_less T.k__law_less T.b__law_less .nil flat_nil (a_cons (d_var 4 (pv 4)) (a_cons (d_callB ok_sum (cr_sum rfl) T.z_sum (a_cons (d_var 2 (pv 2)) a_nil)) a_nil)))))))))))
theorem ok_total (T : Txt K mg A) (F_RatioU_initU : FnOk P w K mg base (L2.CX P w) 2 A.a_RatioU_initU A.fd_RatioU_initU ["self", "num", "den"] (spD K A.cA 3 m_RatioU_initU)) (F_RatioU_addU : FnOk P w K mg base (L2.CX P w) 4 A.a_RatioU_addU A.fd_RatioU_addU ["self", "other"] (spD K A.cA 2 m_RatioU_addU)) : FnOk P w K mg base (L2.CX P w) 5 A.a_total A.fd_total ["ratios"] (spD K A.cA 1 m_total) :=
  fnOk_of T.f_total sc_total outC_ok outX_ok fun cdv A0 outer s H E hr => by
    have nd := sc_total.nd
    have hu1 := hu_of hr
    have hu64 := hr.units
    have hu65 : (A0.deeper (envOfC "total" (defScope s_total) s.heap.objs.size A.a_total cdv)).units + 65 < cLine := by
      have := hr.un
      omega
    have tk := tk_of (P := P) (w := w) (K := K) (mg := mg) (base := base) (N := ["ratios", "result", "ratio"]) (qual := "total") (sc := defScope s_total) (f := A.a_total) (cdv := cdv) (A := A0) (outer := outer) (s := s) (H := H) (E := E)
    have hp := hp_of (P := P) (w := w) (K := K) (mg := mg) (base := base) (N := ["ratios", "result", "ratio"]) (qual := "total") (sc := defScope s_total) (f := A.a_total) (cdv := cdv) (A := A0) (outer := outer) (s := s) (H := H) (E := E)
    exact (s_cons (s_set (i := 1) nd (d_make T.mk_Ratio F_RatioU_initU mkF_ok tk (hr.mono (by omega)) T.g_Ratio T.b1_RatioU_initU T.d_RatioU_initU (flat_int flat_nil) (a_cons d_int a_nil)))
    (s_cons (s_for hp rfl (i_seq (d_var 0 (pv 0))) (g_name (i := 2) nd) (s_one (s_set (i := 1) nd (d_op (op_ownBin (op := .Add) F_RatioU_addU (hr.mono (by omega)) T.b_RatioU_addU T.h_RatioU_addU.at_ T.h_RatioU_addU.fn T.sf_Ratio) (ok_own cR_ok) (d_var 1 (pv 1)) (d_var 2 (pv 2))))))
    (s_one (s_ret (d_var 1 (pv 1))))))
theorem ok__law_chain (T : Txt K mg A) (F__law_draw : FnOk P w K mg base (L2.CX P w) 2 A.a__law_draw A.fd__law_draw ["_law_pool_here", "_law_size"] (spD K A.cA 2 m__law_draw)) (F__law_lots : FnOk P w K mg base (L2.CX P w) 3 A.a__law_lots A.fd__law_lots ["_law_pool_here", "_law_count"] (spD K A.cA 2 m__law_lots)) : FnOk P w K mg base (L2.CX P w) 4 A.a__law_chain A.fd__law_chain ["_law_pool_here", "_law_sizes"] (spD K A.cA 2 m__law_chain) :=
  fnOk_of T.f__law_chain sc__law_chain outC_ok outX_ok fun cdv A0 outer s H E hr => by
    have nd := sc__law_chain.nd
    have hu1 := hu_of hr
    have hu64 := hr.units
    have hu65 : (A0.deeper (envOfC "_law_chain" (defScope s__law_chain) s.heap.objs.size A.a__law_chain cdv)).units + 65 < cLine := by
      have := hr.un
      omega
    have tk := tk_of (P := P) (w := w) (K := K) (mg := mg) (base := base) (N := ["_law_pool_here", "_law_sizes", "_law_talk_here", "_law_k", "_law_person", "_law_count", "_law_lots_here", "_law_value"]) (qual := "_law_chain") (sc := defScope s__law_chain) (f := A.a__law_chain) (cdv := cdv) (A := A0) (outer := outer) (s := s) (H := H) (E := E)
    have hp := hp_of (P := P) (w := w) (K := K) (mg := mg) (base := base) (N := ["_law_pool_here", "_law_sizes", "_law_talk_here", "_law_k", "_law_person", "_law_count", "_law_lots_here", "_law_value"]) (qual := "_law_chain") (sc := defScope s__law_chain) (f := A.a__law_chain) (cdv := cdv) (A := A0) (outer := outer) (s := s) (H := H) (E := E)
    exact (s_cons (s_set (i := 2) nd (d_tup (a_cons d_str a_nil)))
    (s_cons (s_for hp rfl (i_r1 T.z_range (a_cons (d_call F__law_draw cR_ok tk (hr.mono (by omega)) T.g__law_draw T.k__law_draw T.b__law_draw .nil flat_nil (a_cons (d_var 0 (pv 0)) (a_cons d_int a_nil))) a_nil)) (g_name (i := 3) nd) (s_cons (s_set (i := 4) nd (d_add d_int (d_call F__law_draw cR_ok tk (hr.mono (by omega)) T.g__law_draw T.k__law_draw T.b__law_draw .nil flat_nil (a_cons (d_var 0 (pv 0)) (a_cons d_int a_nil)))))
    (s_cons (s_set (i := 5) nd (d_add d_int (d_toint T.z_int (a_cons (d_cmp (op_eqD hu64) ok_eq (d_call F__law_draw cR_ok tk (hr.mono (by omega)) T.g__law_draw T.k__law_draw T.b__law_draw .nil flat_nil (a_cons (d_var 0 (pv 0)) (a_cons d_int a_nil))) d_int) a_nil))))
    (s_cons (s_setLc (i := 6) rfl nd rfl rfl (sw_true rfl rfl rfl (by decide +kernel)) (i_r1 T.z_range (a_cons (d_ix (d_var 1 (pv 1)) (d_sub (d_var 4 (pv 4)) d_int)) a_nil)) (own := [("_law_value", 7)]) (by exact blkOk_by (N := ["_law_pool_here", "_law_sizes", "_law_talk_here", "_law_k", "_law_person", "_law_count", "_law_lots_here", "_law_value"]) (sc := (defScope s__law_chain)) (by decide +kernel)) finF_ok (gok_name (by decide)) (g := (gName 7)) (fun _ _ _ _ _ => (pg_name (i := 7) nd rfl (by first | exact Or.inl rfl | exact Or.inr rfl))) (fun _ _ _ _ _ => ts_nil) (fun _ _ _ _ _ => (d_call F__law_lots cR_ok takes0 (hr.mono (by omega)) T.g__law_lots T.k__law_lots T.b__law_lots .nil flat_nil (a_cons (d_var 0 (pv 0)) (a_cons (d_var 5 (pv 5)) a_nil)))))
    (s_one (s_set (i := 2) nd (d_tup (a_cons d_str (a_cons (d_var 4 (pv 4)) (a_cons (d_var 6 (pv 6)) (a_cons (d_add (d_lst (a_cons (d_var 2 (pv 2)) a_nil)) (d_rep (fr := true) (d_lst (a_cons (d_tup (a_cons d_str a_nil)) a_nil)) (d_sub (d_var 5 (pv 5)) d_int))) a_nil)))))))))))
    (s_one (s_ret (d_var 2 (pv 2))))))
theorem ok_spread (T : Txt K mg A) (F_RatioU_mulU : FnOk P w K mg base (L2.CX P w) 4 A.a_RatioU_mulU A.fd_RatioU_mulU ["self", "other"] (spD K A.cA 2 m_RatioU_mulU)) : ∀ n, FnOk P w K mg base (L2.CX P w) (4 + n) A.a_spread A.fd_spread ["talk", "values", "way", "chance", "found"] (spD K A.cA 5 (m_spread n))
  | 0 => fnOk_no
  | n + 1 => by
    have F_spread := ok_spread T F_RatioU_mulU n
    exact fnOk_of T.f_spread sc_spread outC_ok outX_ok fun cdv A0 outer s H E hr => by
      have hr : Room (4 + n) _ := hr
      have nd := sc_spread.nd
      have hu1 := hu_of hr
      have hu64 := hr.units
      have hu65 : (A0.deeper (envOfC "spread" (defScope s_spread) s.heap.objs.size A.a_spread cdv)).units + 65 < cLine := by
        have := hr.un
        omega
      have tk := tk_of (P := P) (w := w) (K := K) (mg := mg) (base := base) (N := ["talk", "values", "way", "chance", "found", "lots", "message", "part"]) (qual := "spread") (sc := defScope s_spread) (f := A.a_spread) (cdv := cdv) (A := A0) (outer := outer) (s := s) (H := H) (E := E)
      have hp := hp_of (P := P) (w := w) (K := K) (mg := mg) (base := base) (N := ["talk", "values", "way", "chance", "found", "lots", "message", "part"]) (qual := "spread") (sc := defScope s_spread) (f := A.a_spread) (cdv := cdv) (A := A0) (outer := outer) (s := s) (H := H) (E := E)
      exact (s_cons (s_if (t_tru (d_isi T.z_isinstance (d_var 0 (pv 0)) (pe_glob (v := .ref (A.cA tEnd)) (by rfl) T.g_End rfl) (.own _) T.o_End)) (s_cons (s_expr (d_append (d_var 4 (pv 4)) (a_cons (d_tup (a_cons (d_var 2 (pv 2)) (a_cons (d_var 3 (pv 3)) a_nil))) a_nil) (pe_bm PySem.F.plainAttrs_list PySem.F.slot_list_append PySem.F.type_list_append mt_append (d_var 4 (pv 4)) (a_cons (d_tup (a_cons (d_var 2 (pv 2)) (a_cons (d_var 3 (pv 3)) a_nil))) a_nil))))
      (s_one s_retN)) s_nil)
      (s_cons (s_set (i := 5) nd (d_ix (d_fld (clsOk_cons T.i_Say.cl T.n_Say_lots clsOk_nil) (d_var 0 (pv 0))) (d_ix (d_var 1 (pv 1)) (d_sub (d_fld (clsOk_cons T.i_Say.cl T.n_Say_person clsOk_nil) (d_var 0 (pv 0))) d_int))))
      (s_one (s_for hp rfl (i_enum T.z_enumerate (a_cons (d_fld (clsOk_cons T.i_Say.cl T.n_Say_parts clsOk_nil) (d_var 0 (pv 0))) a_nil)) (g_tup (pg_tup rfl (gs_cons (g_name (i := 6) nd) (gs_cons (g_name (i := 7) nd) gs_nil (pgs_cons (g_name (i := 7) nd) gs_nil)) (pgs_cons (g_name (i := 6) nd) (gs_cons (g_name (i := 7) nd) gs_nil (pgs_cons (g_name (i := 7) nd) gs_nil)))))) (s_one (s_expr (d_call F_spread cA_ok tk (hr.mono (by omega)) T.g_spread T.k_spread T.b_spread .nil flat_nil (a_cons (d_var 7 (pv 7)) (a_cons (d_var 1 (pv 1)) (a_cons (d_add (d_var 2 (pv 2)) (d_tup (a_cons (d_var 6 (pv 6)) a_nil))) (a_cons (d_op (op_ownBin (op := .Mult) F_RatioU_mulU (hr.mono (by omega)) T.b_RatioU_mulU T.h_RatioU_mulU.at_ T.h_RatioU_mulU.fn T.sf_Ratio) (ok_own cR_ok) (d_var 3 (pv 3)) (d_ix (d_var 5 (pv 5)) (d_var 6 (pv 6)))) (a_cons (d_var 4 (pv 4)) a_nil))))))))))))
theorem ok__law_chances (T : Txt K mg A) (F__law_times : FnOk P w K mg base (L2.CX P w) 3 A.a__law_times A.fd__law_times ["_law_one", "_law_other"] (spD K A.cA 2 m__law_times)) : ∀ n, FnOk P w K mg base (L2.CX P w) (3 + n) A.a__law_chances A.fd__law_chances ["_law_talk_here", "_law_values", "_law_way", "_law_chance"] (spD K A.cA 4 (m__law_chances n))
  | 0 => fnOk_no
  | n + 1 => by
    have F__law_chances := ok__law_chances T F__law_times n
    exact fnOk_of T.f__law_chances sc__law_chances outC_ok outX_ok fun cdv A0 outer s H E hr => by
      have hr : Room (3 + n) _ := hr
      have nd := sc__law_chances.nd
      have hu1 := hu_of hr
      have hu64 := hr.units
      have hu65 : (A0.deeper (envOfC "_law_chances" (defScope s__law_chances) s.heap.objs.size A.a__law_chances cdv)).units + 65 < cLine := by
        have := hr.un
        omega
      have tk := tk_of (P := P) (w := w) (K := K) (mg := mg) (base := base) (N := ["_law_talk_here", "_law_values", "_law_way", "_law_chance", "_law_found", "_law_lots_here", "_law_k"]) (qual := "_law_chances") (sc := defScope s__law_chances) (f := A.a__law_chances) (cdv := cdv) (A := A0) (outer := outer) (s := s) (H := H) (E := E)
      have hp := hp_of (P := P) (w := w) (K := K) (mg := mg) (base := base) (N := ["_law_talk_here", "_law_values", "_law_way", "_law_chance", "_law_found", "_law_lots_here", "_law_k"]) (qual := "_law_chances") (sc := defScope s__law_chances) (f := A.a__law_chances) (cdv := cdv) (A := A0) (outer := outer) (s := s) (H := H) (E := E)
      exact (s_cons (s_if (t_cmp (op_eqD hu64) ok_eq (d_ix (d_var 0 (pv 0)) d_int) d_str) (s_one (s_ret (d_lst (a_cons (d_tup (a_cons (d_var 2 (pv 2)) (a_cons (d_var 3 (pv 3)) a_nil))) a_nil)))) s_nil)
      (s_cons (s_set (i := 4) nd (d_lst a_nil))
      (s_cons (s_set (i := 5) nd (d_ix (d_ix (d_var 0 (pv 0)) d_int) (d_ix (d_var 1 (pv 1)) (d_sub (d_ix (d_var 0 (pv 0)) d_int) d_int))))
      (s_cons (s_for hp rfl (i_r1 T.z_range (a_cons (d_len T.z_len (a_cons (d_var 5 (pv 5)) a_nil)) a_nil)) (g_name (i := 6) nd) (s_one (s_set (i := 4) nd (d_add (d_var 4 (pv 4)) (d_call F__law_chances cR_ok tk (hr.mono (by omega)) T.g__law_chances T.k__law_chances T.b__law_chances .nil flat_nil (a_cons (d_ix (d_ix (d_var 0 (pv 0)) d_int) (d_var 6 (pv 6))) (a_cons (d_var 1 (pv 1)) (a_cons (d_add (d_var 2 (pv 2)) (d_tup (a_cons (d_var 6 (pv 6)) a_nil))) (a_cons (d_call F__law_times cR_ok tk (hr.mono (by omega)) T.g__law_times T.k__law_times T.b__law_times .nil flat_nil (a_cons (d_var 3 (pv 3)) (a_cons (d_ix (d_var 5 (pv 5)) (d_var 6 (pv 6))) a_nil))) a_nil)))))))))
      (s_one (s_ret (d_var 4 (pv 4))))))))
theorem ok__law_talk (T : Txt K mg A) (F__law_draw : FnOk P w K mg base (L2.CX P w) 2 A.a__law_draw A.fd__law_draw ["_law_pool_here", "_law_size"] (spD K A.cA 2 m__law_draw)) (F__law_lots : FnOk P w K mg base (L2.CX P w) 3 A.a__law_lots A.fd__law_lots ["_law_pool_here", "_law_count"] (spD K A.cA 2 m__law_lots)) : ∀ n, FnOk P w K mg base (L2.CX P w) (3 + n) A.a__law_talk A.fd__law_talk ["_law_pool_here", "_law_sizes", "_law_deep"] (spD K A.cA 3 (m__law_talk n))
  | 0 => fnOk_no
  | n + 1 => by
    have F__law_talk := ok__law_talk T F__law_draw F__law_lots n
    exact fnOk_of T.f__law_talk sc__law_talk outC_ok outX_ok fun cdv A0 outer s H E hr => by
      have hr : Room (3 + n) _ := hr
      have nd := sc__law_talk.nd
      have hu1 := hu_of hr
      have hu64 := hr.units
      have hu65 : (A0.deeper (envOfC "_law_talk" (defScope s__law_talk) s.heap.objs.size A.a__law_talk cdv)).units + 65 < cLine := by
        have := hr.un
        omega
      have tk := tk_of (P := P) (w := w) (K := K) (mg := mg) (base := base) (N := ["_law_pool_here", "_law_sizes", "_law_deep", "_law_person", "_law_count", "_law_lots_here", "_law_value", "_law_k"]) (qual := "_law_talk") (sc := defScope s__law_talk) (f := A.a__law_talk) (cdv := cdv) (A := A0) (outer := outer) (s := s) (H := H) (E := E)
      have hp := hp_of (P := P) (w := w) (K := K) (mg := mg) (base := base) (N := ["_law_pool_here", "_law_sizes", "_law_deep", "_law_person", "_law_count", "_law_lots_here", "_law_value", "_law_k"]) (qual := "_law_talk") (sc := defScope s__law_talk) (f := A.a__law_talk) (cdv := cdv) (A := A0) (outer := outer) (s := s) (H := H) (E := E)
      exact (s_cons (s_if (PW.pt (w_or (t_cmp (op_eqD hu64) ok_eq (d_var 2 (pv 2)) d_int) (w_or1 (t_cmp (op_eqD hu64) ok_eq (d_call F__law_draw cR_ok tk (hr.mono (by omega)) T.g__law_draw T.k__law_draw T.b__law_draw .nil flat_nil (a_cons (d_var 0 (pv 0)) (a_cons d_int a_nil))) d_int)))) (s_one (s_ret (d_tup (a_cons d_str a_nil)))) s_nil)
      (s_cons (s_set (i := 3) nd (d_add d_int (d_call F__law_draw cR_ok tk (hr.mono (by omega)) T.g__law_draw T.k__law_draw T.b__law_draw .nil flat_nil (a_cons (d_var 0 (pv 0)) (a_cons d_int a_nil)))))
      (s_cons (s_set (i := 4) nd (d_add d_int (d_call F__law_draw cR_ok tk (hr.mono (by omega)) T.g__law_draw T.k__law_draw T.b__law_draw .nil flat_nil (a_cons (d_var 0 (pv 0)) (a_cons d_int a_nil)))))
      (s_cons (s_setLc (i := 5) rfl nd rfl rfl (sw_true rfl rfl rfl (by decide +kernel)) (i_r1 T.z_range (a_cons (d_ix (d_var 1 (pv 1)) (d_sub (d_var 3 (pv 3)) d_int)) a_nil)) (own := [("_law_value", 6)]) (by exact blkOk_by (N := ["_law_pool_here", "_law_sizes", "_law_deep", "_law_person", "_law_count", "_law_lots_here", "_law_value", "_law_k"]) (sc := (defScope s__law_talk)) (by decide +kernel)) finF_ok (gok_name (by decide)) (g := (gName 6)) (fun _ _ _ _ _ => (pg_name (i := 6) nd rfl (by first | exact Or.inl rfl | exact Or.inr rfl))) (fun _ _ _ _ _ => ts_nil) (fun _ _ _ _ _ => (d_call F__law_lots cR_ok takes0 (hr.mono (by omega)) T.g__law_lots T.k__law_lots T.b__law_lots .nil flat_nil (a_cons (d_var 0 (pv 0)) (a_cons (d_var 4 (pv 4)) a_nil)))))
      (s_cons (s_if (t_cmp (op_eqD hu64) ok_eq (d_call F__law_draw cR_ok tk (hr.mono (by omega)) T.g__law_draw T.k__law_draw T.b__law_draw .nil flat_nil (a_cons (d_var 0 (pv 0)) (a_cons d_int a_nil))) d_int) (s_one (s_set (i := 5) nd (d_rep (fr := true) (d_lst (a_cons (d_ix (d_var 5 (pv 5)) d_int) a_nil)) (d_len T.z_len (a_cons (d_var 5 (pv 5)) a_nil))))) s_nil)
      (s_one (s_ret (d_tup (a_cons d_str (a_cons (d_var 3 (pv 3)) (a_cons (d_var 5 (pv 5)) (a_cons (d_lc rfl nd (i_r1 T.z_range (a_cons (d_var 4 (pv 4)) a_nil)) (own := [("_law_k", 7)]) (by exact blkOk_by (N := ["_law_pool_here", "_law_sizes", "_law_deep", "_law_person", "_law_count", "_law_lots_here", "_law_value", "_law_k"]) (sc := (defScope s__law_talk)) (by decide +kernel)) finF_ok (gok_name (by decide)) (g := (gName 7)) (fun _ _ _ _ _ => (pg_name (i := 7) nd rfl (by first | exact Or.inl rfl | exact Or.inr rfl))) (fun _ _ _ _ _ => ts_nil) (fun _ _ _ _ _ => (d_call F__law_talk cR_ok takes0 (hr.mono (by omega)) T.g__law_talk T.k__law_talk T.b__law_talk .nil flat_nil (a_cons (d_var 0 (pv 0)) (a_cons (d_var 1 (pv 1)) (a_cons (d_sub (d_var 2 (pv 2)) d_int) a_nil)))))) a_nil))))))))))))
theorem ok_are_lots (T : Txt K mg A) (F_total : FnOk P w K mg base (L2.CX P w) 5 A.a_total A.fd_total ["ratios"] (spD K A.cA 1 m_total)) (F_RatioU_initU : FnOk P w K mg base (L2.CX P w) 2 A.a_RatioU_initU A.fd_RatioU_initU ["self", "num", "den"] (spD K A.cA 3 m_RatioU_initU)) (F_RatioU_eqU : FnOk P w K mg base (L2.CX P w) 2 A.a_RatioU_eqU A.fd_RatioU_eqU ["self", "other"] (spD K A.cA 2 m_RatioU_eqU)) : FnOk P w K mg base (L2.CX P w) 6 A.a_are_lots A.fd_are_lots ["ratios", "count"] (spD K A.cA 2 m_are_lots) :=
  fnOk_of T.f_are_lots sc_are_lots outC_ok outX_ok fun cdv A0 outer s H E hr => by
    have nd := sc_are_lots.nd
    have hu1 := hu_of hr
    have hu64 := hr.units
    have hu65 : (A0.deeper (envOfC "are_lots" (defScope s_are_lots) s.heap.objs.size A.a_are_lots cdv)).units + 65 < cLine := by
      have := hr.un
      omega
    have tk := tk_of (P := P) (w := w) (K := K) (mg := mg) (base := base) (N := ["ratios", "count", "ratio"]) (qual := "are_lots") (sc := defScope s_are_lots) (f := A.a_are_lots) (cdv := cdv) (A := A0) (outer := outer) (s := s) (H := H) (E := E)
    have hp := hp_of (P := P) (w := w) (K := K) (mg := mg) (base := base) (N := ["ratios", "count", "ratio"]) (qual := "are_lots") (sc := defScope s_are_lots) (f := A.a_are_lots) (cdv := cdv) (A := A0) (outer := outer) (s := s) (H := H) (E := E)
    exact (s_one (s_ret (d_and (d_cmp (op_eqD hu64) ok_eq (d_len T.z_len (a_cons (d_var 0 (pv 0)) a_nil)) (d_var 1 (pv 1))) (d_and (d_not (d_callB ok_any (cr_any rfl) T.z_any (a_cons (d_lc rfl nd (i_seq (d_var 0 (pv 0))) (own := [("ratio", 2)]) (by exact blkOk_by (N := ["ratios", "count", "ratio"]) (sc := (defScope s_are_lots)) (by decide +kernel)) finF_ok (gok_name (by decide)) (g := (gName 2)) (fun _ _ _ _ _ => (pg_name (i := 2) nd rfl (by first | exact Or.inl rfl | exact Or.inr rfl))) (fun _ _ _ _ _ => ts_nil) (fun _ _ _ _ _ => (d_cmp op_ltD ok_lt (d_fld (clsOk_cons T.i_Ratio.cl T.n_Ratio_num clsOk_nil) (d_var 2 (pv 2))) d_int))) a_nil))) (d_one (d_cmp (op_ownCmp (op := .Eq) F_RatioU_eqU (hr.mono (by omega)) T.b_RatioU_eqU T.h_RatioU_eqU.at_ T.h_RatioU_eqU.fn (fun _ _ => rfl)) (ok_own cR_ok) (d_call F_total cR_ok tk (hr.mono (by omega)) T.g_total T.k_total T.b_total .nil flat_nil (a_cons (d_var 0 (pv 0)) a_nil)) (d_make T.mk_Ratio F_RatioU_initU mkF_ok tk (hr.mono (by omega)) T.g_Ratio T.b1_RatioU_initU T.d_RatioU_initU (flat_int flat_nil) (a_cons d_int a_nil))))))))
theorem ok_chances (T : Txt K mg A) (F_spread : FnOk P w K mg base (L2.CX P w) (4 + 80) A.a_spread A.fd_spread ["talk", "values", "way", "chance", "found"] (spD K A.cA 5 (m_spread 80))) (F_RatioU_initU : FnOk P w K mg base (L2.CX P w) 2 A.a_RatioU_initU A.fd_RatioU_initU ["self", "num", "den"] (spD K A.cA 3 m_RatioU_initU)) : FnOk P w K mg base (L2.CX P w) 85 A.a_chances A.fd_chances ["talk", "row", "column"] (spD K A.cA 3 m_chances) :=
  fnOk_of T.f_chances sc_chances outM_ok outXM_ok fun cdv A0 outer s H E hr => by
    have nd := sc_chances.nd
    have hu1 := hu_of hr
    have hu64 := hr.units
    have hu65 : (A0.deeper (envOfC "chances" (defScope s_chances) s.heap.objs.size A.a_chances cdv)).units + 65 < cLine := by
      have := hr.un
      omega
    have tk := tk_of (P := P) (w := w) (K := K) (mg := mg) (base := base) (N := ["talk", "row", "column", "found"]) (qual := "chances") (sc := defScope s_chances) (f := A.a_chances) (cdv := cdv) (A := A0) (outer := outer) (s := s) (H := H) (E := E)
    have hp := hp_of (P := P) (w := w) (K := K) (mg := mg) (base := base) (N := ["talk", "row", "column", "found"]) (qual := "chances") (sc := defScope s_chances) (f := A.a_chances) (cdv := cdv) (A := A0) (outer := outer) (s := s) (H := H) (E := E)
    exact (s_cons (s_set (i := 3) nd (d_lstM a_nil))
    (s_cons (s_expr (d_call F_spread cA_ok tk (hr.mono (by omega)) T.g_spread T.k_spread T.b_spread .nil flat_nil (a_cons (d_var 0 (pv 0)) (a_cons (d_tup (a_cons (d_var 1 (pv 1)) (a_cons (d_var 2 (pv 2)) a_nil))) (a_cons (d_tup a_nil) (a_cons (d_make T.mk_Ratio F_RatioU_initU mkF_ok tk (hr.mono (by omega)) T.g_Ratio T.b1_RatioU_initU T.d_RatioU_initU (flat_int flat_nil) (a_cons d_int a_nil)) (a_cons (d_var 3 (pv 3)) a_nil)))))))
    (s_one (s_ret (d_var 3 (pv 3))))))
theorem ok_SayU_initU (T : Txt K mg A) (F_are_lots : FnOk P w K mg base (L2.CX P w) 6 A.a_are_lots A.fd_are_lots ["ratios", "count"] (spD K A.cA 2 m_are_lots)) : FnOk P w K mg base (L2.CX P w) 7 A.a_SayU_initU A.fd_SayU_initU ["self", "person", "lots", "parts"] (spD K A.cA 4 m_SayU_initU) :=
  fnOk_of T.f_SayU_initU sc_SayU_initU outM_ok outXM_ok fun cdv A0 outer s H E hr => by
    have nd := sc_SayU_initU.nd
    have hu1 := hu_of hr
    have hu64 := hr.units
    have hu65 : (A0.deeper (envOfC "Say.__init__" (defScope s_SayU_initU) s.heap.objs.size A.a_SayU_initU cdv)).units + 65 < cLine := by
      have := hr.un
      omega
    have tk := tk_of (P := P) (w := w) (K := K) (mg := mg) (base := base) (N := ["self", "person", "lots", "parts", "row"]) (qual := "Say.__init__") (sc := defScope s_SayU_initU) (f := A.a_SayU_initU) (cdv := cdv) (A := A0) (outer := outer) (s := s) (H := H) (E := E)
    have hp := hp_of (P := P) (w := w) (K := K) (mg := mg) (base := base) (N := ["self", "person", "lots", "parts", "row"]) (qual := "Say.__init__") (sc := defScope s_SayU_initU) (f := A.a_SayU_initU) (cdv := cdv) (A := A0) (outer := outer) (s := s) (H := H) (E := E)
    exact (s_cons (s_if (t_cmp (op_notInAll hu65) ok_in (d_var 1 (pv 1)) (d_tup (a_cons d_int (a_cons d_int a_nil)))) (s_one s_never) s_nil)
    (s_cons (s_if (t_not (t_tru (d_var 3 (pv 3)))) (s_one s_never) s_nil)
    (s_cons (s_if (PW.pt (w_or (t_not (t_tru (d_var 2 (pv 2)))) (w_or1 (t_not (t_tru (d_callB ok_all (cr_all rfl) T.z_all (a_cons (d_lc rfl nd (i_seq (d_var 2 (pv 2))) (own := [("row", 4)]) (by exact blkOk_by (N := ["self", "person", "lots", "parts", "row"]) (sc := (defScope s_SayU_initU)) (by decide +kernel)) finF_ok (gok_name (by decide)) (g := (gName 4)) (fun _ _ _ _ _ => (pg_name (i := 4) nd rfl (by first | exact Or.inl rfl | exact Or.inr rfl))) (fun _ _ _ _ _ => ts_nil) (fun _ _ _ _ _ => (d_call F_are_lots cR_ok takes0 (hr.mono (by omega)) T.g_are_lots T.k_are_lots T.b_are_lots .nil flat_nil (a_cons (d_var 4 (pv 4)) (a_cons (d_len T.z_len (a_cons (d_var 3 (pv 3)) a_nil)) a_nil))))) a_nil))))))) (s_one s_never) s_nil)
    (s_cons (s_fld (t := tSay) T.i_Say.cl T.n_Say_person (d_var 0 (pv 0)) (d_var 1 (pv 1)))
    (s_cons (s_fld (t := tSay) T.i_Say.cl T.n_Say_lots (d_var 0 (pv 0)) (d_tuple T.z_tuple (a_cons (d_lc rfl nd (i_seq (d_var 2 (pv 2))) (own := [("row", 4)]) (by exact blkOk_by (N := ["self", "person", "lots", "parts", "row"]) (sc := (defScope s_SayU_initU)) (by decide +kernel)) finF_ok (gok_name (by decide)) (g := (gName 4)) (fun _ _ _ _ _ => (pg_name (i := 4) nd rfl (by first | exact Or.inl rfl | exact Or.inr rfl))) (fun _ _ _ _ _ => ts_nil) (fun _ _ _ _ _ => (d_tuple T.z_tuple (a_cons (d_var 4 (pv 4)) a_nil)))) a_nil)))
    (s_one (s_fld (t := tSay) T.i_Say.cl T.n_Say_parts (d_var 0 (pv 0)) (d_tuple T.z_tuple (a_cons (d_var 3 (pv 3)) a_nil)))))))))
theorem ok__law_made (T : Txt K mg A) (F_RatioU_initU : FnOk P w K mg base (L2.CX P w) 2 A.a_RatioU_initU A.fd_RatioU_initU ["self", "num", "den"] (spD K A.cA 3 m_RatioU_initU)) (F_SayU_initU : FnOk P w K mg base (L2.CX P w) 7 A.a_SayU_initU A.fd_SayU_initU ["self", "person", "lots", "parts"] (spD K A.cA 4 m_SayU_initU)) : ∀ n, FnOk P w K mg base (L2.CX P w) (8 + n) A.a__law_made A.fd__law_made ["_law_talk_here"] (spD K A.cA 1 (m__law_made n))
  | 0 => fnOk_no
  | n + 1 => by
    have F__law_made := ok__law_made T F_RatioU_initU F_SayU_initU n
    exact fnOk_of T.f__law_made sc__law_made outC_ok outX_ok fun cdv A0 outer s H E hr => by
      have hr : Room (8 + n) _ := hr
      have nd := sc__law_made.nd
      have hu1 := hu_of hr
      have hu64 := hr.units
      have hu65 : (A0.deeper (envOfC "_law_made" (defScope s__law_made) s.heap.objs.size A.a__law_made cdv)).units + 65 < cLine := by
        have := hr.un
        omega
      have tk := tk_of (P := P) (w := w) (K := K) (mg := mg) (base := base) (N := ["_law_talk_here", "_law_lots_here", "_law_row", "_law_num", "_law_den", "_law_part"]) (qual := "_law_made") (sc := defScope s__law_made) (f := A.a__law_made) (cdv := cdv) (A := A0) (outer := outer) (s := s) (H := H) (E := E)
      have hp := hp_of (P := P) (w := w) (K := K) (mg := mg) (base := base) (N := ["_law_talk_here", "_law_lots_here", "_law_row", "_law_num", "_law_den", "_law_part"]) (qual := "_law_made") (sc := defScope s__law_made) (f := A.a__law_made) (cdv := cdv) (A := A0) (outer := outer) (s := s) (H := H) (E := E)
      exact (s_cons (s_if (t_cmp (op_eqD hu64) ok_eq (d_ix (d_var 0 (pv 0)) d_int) d_str) (s_one (s_ret (d_make0 T.mz_End T.g_End))) s_nil)
      (s_cons (s_setLc (i := 1) rfl nd rfl rfl (sw_true rfl rfl rfl (by decide +kernel)) (i_seq (d_ix (d_var 0 (pv 0)) d_int)) (own := [("_law_row", 2)]) (by exact blkOk_by (N := ["_law_talk_here", "_law_lots_here", "_law_row", "_law_num", "_law_den", "_law_part"]) (sc := (defScope s__law_made)) (by decide +kernel)) finF_ok (gok_name (by decide)) (g := (gName 2)) (fun _ _ _ _ _ => (pg_name (i := 2) nd rfl (by first | exact Or.inl rfl | exact Or.inr rfl))) (fun _ _ _ _ _ => ts_nil) (fun _ _ _ _ _ => (d_lc rfl nd (i_seq (d_var 2 (pv 2))) (own := [("_law_num", 3), ("_law_den", 4)]) (by exact blkOk_in (N := ["_law_talk_here", "_law_lots_here", "_law_row", "_law_num", "_law_den", "_law_part"]) (sc0 := (defScope s__law_made)) rfl (by decide +kernel)) finF_ok (gok_tup (gsok_cons (gok_name (by decide)) (gsok_cons (gok_name (by decide)) gsok_nil))) (g := (gTup _ 2 (gCons (gName 3) (gCons (gName 4) gNil)))) (fun _ _ _ _ _ => (pg_tup rfl (pgs_cons (pg_name (i := 3) nd rfl (by first | exact Or.inl rfl | exact Or.inr rfl)) (pgs_cons (pg_name (i := 4) nd rfl (by first | exact Or.inl rfl | exact Or.inr rfl)) pgs_nil)))) (fun _ _ _ _ _ => ts_nil) (fun _ _ _ _ _ => (d_make T.mk_Ratio F_RatioU_initU mkF_ok takes0 (hr.mono (by omega)) T.g_Ratio T.b_RatioU_initU .nil flat_nil (a_cons (d_var 3 (pv 3)) (a_cons (d_var 4 (pv 4)) a_nil)))))))
      (s_one (s_ret (d_make T.mk_Say F_SayU_initU mkF_ok tk (hr.mono (by omega)) T.g_Say T.b_SayU_initU .nil flat_nil (a_cons (d_ix (d_var 0 (pv 0)) d_int) (a_cons (d_var 1 (pv 1)) (a_cons (d_lc rfl nd (i_seq (d_ix (d_var 0 (pv 0)) d_int)) (own := [("_law_part", 5)]) (by exact blkOk_by (N := ["_law_talk_here", "_law_lots_here", "_law_row", "_law_num", "_law_den", "_law_part"]) (sc := (defScope s__law_made)) (by decide +kernel)) finF_ok (gok_name (by decide)) (g := (gName 5)) (fun _ _ _ _ _ => (pg_name (i := 5) nd rfl (by first | exact Or.inl rfl | exact Or.inr rfl))) (fun _ _ _ _ _ => ts_nil) (fun _ _ _ _ _ => (d_call F__law_made cR_ok takes0 (hr.mono (by omega)) T.g__law_made T.k__law_made T.b__law_made .nil flat_nil (a_cons (d_var 5 (pv 5)) a_nil)))) a_nil))))))))
theorem ok__law_uneven (T : Txt K mg A) (F__law_draw : FnOk P w K mg base (L2.CX P w) 2 A.a__law_draw A.fd__law_draw ["_law_pool_here", "_law_size"] (spD K A.cA 2 m__law_draw)) (F_TableU_initU : FnOk P w K mg base (L2.CX P w) 2 A.a_TableU_initU A.fd_TableU_initU ["self", "rows"] (spD K A.cA 2 m_TableU_initU)) (F__law_same : FnOk P w K mg base (L2.CX P w) (1 + 40) A.a__law_same A.fd__law_same ["_law_actual", "_law_due"] (spD K A.cA 2 (m__law_same 40))) (F_fits : FnOk P w K mg base (L2.CX P w) (1 + 80) A.a_fits A.fd_fits ["table", "talk"] (spD K A.cA 2 (m_fits 80))) (F__law_made : FnOk P w K mg base (L2.CX P w) (8 + 80) A.a__law_made A.fd__law_made ["_law_talk_here"] (spD K A.cA 1 (m__law_made 80))) (F__law_fits : FnOk P w K mg base (L2.CX P w) (1 + 80) A.a__law_fits A.fd__law_fits ["_law_talk_here", "_law_sizes"] (spD K A.cA 2 (m__law_fits 80))) : FnOk P w K mg base (L2.CX P w) 89 A.a__law_uneven A.fd__law_uneven ["_law_pool_here", "_law_sizes", "_law_talk_here"] (spD K A.cA 3 m__law_uneven) :=
  fnOk_of T.f__law_uneven sc__law_uneven outC_ok outX_ok fun cdv A0 outer s H E hr => by
    have nd := sc__law_uneven.nd
    have hu1 := hu_of hr
    have hu64 := hr.units
    have hu65 : (A0.deeper (envOfC "_law_uneven" (defScope s__law_uneven) s.heap.objs.size A.a__law_uneven cdv)).units + 65 < cLine := by
      have := hr.un
      omega
    have tk := tk_of (P := P) (w := w) (K := K) (mg := mg) (base := base) (N := ["_law_pool_here", "_law_sizes", "_law_talk_here", "_law_person", "_law_right", "_law_count", "_law_table", "_law_ends", "_law_ahead", "_law_behind", "_law_one", "_law_row"]) (qual := "_law_uneven") (sc := defScope s__law_uneven) (f := A.a__law_uneven) (cdv := cdv) (A := A0) (outer := outer) (s := s) (H := H) (E := E)
    have hp := hp_of (P := P) (w := w) (K := K) (mg := mg) (base := base) (N := ["_law_pool_here", "_law_sizes", "_law_talk_here", "_law_person", "_law_right", "_law_count", "_law_table", "_law_ends", "_law_ahead", "_law_behind", "_law_one", "_law_row"]) (qual := "_law_uneven") (sc := defScope s__law_uneven) (f := A.a__law_uneven) (cdv := cdv) (A := A0) (outer := outer) (s := s) (H := H) (E := E)
    exact (s_cons (s_set (i := 3) nd (d_add d_int (d_call F__law_draw cR_ok tk (hr.mono (by omega)) T.g__law_draw T.k__law_draw T.b__law_draw .nil flat_nil (a_cons (d_var 0 (pv 0)) (a_cons d_int a_nil)))))
    (s_cons (s_set (i := 4) nd (d_ix (d_var 1 (pv 1)) (d_sub (d_var 3 (pv 3)) d_int)))
    (s_cons (s_set (i := 5) nd (d_callB ok_max2 (call_max2 rfl) T.z_max (a_cons d_int (a_cons (d_add (d_var 4 (pv 4)) (d_ix (d_tup (a_cons d_int (a_cons (d_neg d_int) a_nil))) (d_call F__law_draw cR_ok tk (hr.mono (by omega)) T.g__law_draw T.k__law_draw T.b__law_draw .nil flat_nil (a_cons (d_var 0 (pv 0)) (a_cons d_int a_nil))))) a_nil))))
    (s_cons (s_set (i := 6) nd (d_make T.mk_Table F_TableU_initU mkF_ok tk (hr.mono (by omega)) T.g_Table T.b_TableU_initU .nil flat_nil (a_cons (d_lc rfl nd (i_r1 T.z_range (a_cons (d_ix (d_var 1 (pv 1)) d_int) a_nil)) (own := [("_law_row", 11)]) (by exact blkOk_by (N := ["_law_pool_here", "_law_sizes", "_law_talk_here", "_law_person", "_law_right", "_law_count", "_law_table", "_law_ends", "_law_ahead", "_law_behind", "_law_one", "_law_row"]) (sc := (defScope s__law_uneven)) (by decide +kernel)) finF_ok (gok_name (by decide)) (g := (gName 11)) (fun _ _ _ _ _ => (pg_name (i := 11) nd rfl (by first | exact Or.inl rfl | exact Or.inr rfl))) (fun _ _ _ _ _ => ts_nil) (fun _ _ _ _ _ => (d_rep (fr := true) (d_lst (a_cons d_int a_nil)) (d_ix (d_var 1 (pv 1)) d_int)))) a_nil)))
    (s_cons (s_set (i := 7) nd (d_tup (a_cons d_str (a_cons (d_var 3 (pv 3)) (a_cons (d_rep (fr := true) (d_lst (a_cons (d_lst (a_cons (d_tup (a_cons d_int (a_cons d_int a_nil))) a_nil)) a_nil)) (d_var 5 (pv 5))) (a_cons (d_lst (a_cons (d_tup (a_cons d_str a_nil)) a_nil)) a_nil))))))
    (s_cons (s_set (i := 8) nd (d_tup (a_cons d_str (a_cons (d_var 3 (pv 3)) (a_cons (d_rep (fr := true) (d_lst (a_cons (d_lst (a_cons (d_tup (a_cons d_int (a_cons d_int a_nil))) a_nil)) a_nil)) (d_var 5 (pv 5))) (a_cons (d_lst (a_cons (d_var 2 (pv 2)) a_nil)) a_nil))))))
    (s_cons (s_set (i := 9) nd (d_tup (a_cons d_str (a_cons (d_var 3 (pv 3)) (a_cons (d_rep (fr := true) (d_lst (a_cons (d_lst (a_cons (d_tup (a_cons d_int (a_cons d_int a_nil))) a_nil)) a_nil)) (d_var 4 (pv 4))) (a_cons (d_lst (a_cons (d_tup (a_cons d_str (a_cons (d_sub d_int (d_var 3 (pv 3))) (a_cons (d_rep (fr := true) (d_lst (a_cons (d_lst (a_cons (d_tup (a_cons d_int (a_cons d_int a_nil))) a_nil)) a_nil)) (d_ix (d_var 1 (pv 1)) (d_sub d_int (d_var 3 (pv 3))))) (a_cons (d_lst (a_cons (d_var 7 (pv 7)) a_nil)) a_nil))))) a_nil)) a_nil))))))
    (s_cons (s_for hp rfl (i_seq (d_tup (a_cons (d_var 8 (pv 8)) (a_cons (d_var 9 (pv 9)) (a_cons (d_var 2 (pv 2)) (a_cons (d_var 9 (pv 9)) a_nil)))))) (g_name (i := 10) nd) (s_one (s_if (t_not (t_tru (d_call F__law_same cR_ok tk (hr.mono (by omega)) T.g__law_same T.k__law_same T.b__law_same .nil flat_nil (a_cons (d_call F_fits cR_ok tk (hr.mono (by omega)) T.g_fits T.k_fits T.b_fits .nil flat_nil (a_cons (d_var 6 (pv 6)) (a_cons (d_call F__law_made cR_ok tk (hr.mono (by omega)) T.g__law_made T.k__law_made T.b__law_made .nil flat_nil (a_cons (d_var 10 (pv 10)) a_nil)) a_nil))) (a_cons (d_call F__law_fits cR_ok tk (hr.mono (by omega)) T.g__law_fits T.k__law_fits T.b__law_fits .nil flat_nil (a_cons (d_var 10 (pv 10)) (a_cons (d_var 1 (pv 1)) a_nil))) a_nil))))) (s_one (s_ret d_bl)) s_nil)))
    (s_one (s_ret d_bl))))))))))
theorem ok_law (T : Txt K mg A) (F__law_pool : FnOk P w K mg base (L2.CX P w) 2 A.a__law_pool A.fd__law_pool ["_law_script", "_law_budget"] (spD K A.cA 2 m__law_pool)) (F__law_draw : FnOk P w K mg base (L2.CX P w) 2 A.a__law_draw A.fd__law_draw ["_law_pool_here", "_law_size"] (spD K A.cA 2 m__law_draw)) (F__law_talk : FnOk P w K mg base (L2.CX P w) (3 + 20) A.a__law_talk A.fd__law_talk ["_law_pool_here", "_law_sizes", "_law_deep"] (spD K A.cA 3 (m__law_talk 20))) (F__law_uneven : FnOk P w K mg base (L2.CX P w) 89 A.a__law_uneven A.fd__law_uneven ["_law_pool_here", "_law_sizes", "_law_talk_here"] (spD K A.cA 3 m__law_uneven)) (F__law_same : FnOk P w K mg base (L2.CX P w) (1 + 40) A.a__law_same A.fd__law_same ["_law_actual", "_law_due"] (spD K A.cA 2 (m__law_same 40))) (F_fits : FnOk P w K mg base (L2.CX P w) (1 + 80) A.a_fits A.fd_fits ["table", "talk"] (spD K A.cA 2 (m_fits 80))) (F_TableU_initU : FnOk P w K mg base (L2.CX P w) 2 A.a_TableU_initU A.fd_TableU_initU ["self", "rows"] (spD K A.cA 2 m_TableU_initU)) (F__law_made : FnOk P w K mg base (L2.CX P w) (8 + 80) A.a__law_made A.fd__law_made ["_law_talk_here"] (spD K A.cA 1 (m__law_made 80))) (F_chances : FnOk P w K mg base (L2.CX P w) 85 A.a_chances A.fd_chances ["talk", "row", "column"] (spD K A.cA 3 m_chances)) (F__law_chances : FnOk P w K mg base (L2.CX P w) (3 + 80) A.a__law_chances A.fd__law_chances ["_law_talk_here", "_law_values", "_law_way", "_law_chance"] (spD K A.cA 4 (m__law_chances 80))) (F__law_fits : FnOk P w K mg base (L2.CX P w) (1 + 80) A.a__law_fits A.fd__law_fits ["_law_talk_here", "_law_sizes"] (spD K A.cA 2 (m__law_fits 80))) (F__law_chain : FnOk P w K mg base (L2.CX P w) 4 A.a__law_chain A.fd__law_chain ["_law_pool_here", "_law_sizes"] (spD K A.cA 2 m__law_chain)) (F_longest : FnOk P w K mg base (L2.CX P w) (1 + 80) A.a_longest A.fd_longest ["talk"] (spD K A.cA 1 (m_longest 80))) (F__law_longest : FnOk P w K mg base (L2.CX P w) (1 + 80) A.a__law_longest A.fd__law_longest ["_law_talk_here"] (spD K A.cA 1 (m__law_longest 80))) : FnOk P w K mg base (L2.CX P w) 90 A.a_law A.fd_law ["_law_script"] (spD K A.cA 1 m_law) :=
  fnOk_of T.f_law sc_law outC_ok outX_ok fun cdv A0 outer s H E hr => by
    have nd := sc_law.nd
    have hu1 := hu_of hr
    have hu64 := hr.units
    have hu65 : (A0.deeper (envOfC "law" (defScope s_law) s.heap.objs.size A.a_law cdv)).units + 65 < cLine := by
      have := hr.un
      omega
    have tk := tk_of (P := P) (w := w) (K := K) (mg := mg) (base := base) (N := ["_law_script", "_law_pool_here", "_law_sizes", "_law_talk_here", "_law_made_here", "_law_row", "_law_more", "_law_long", "_law_inner", "_law_place", "_law_uneven_here", "_law_column", "_law_own", "_law_table", "_law_found", "_law_way", "_law_chance", "_law_pair"]) (qual := "law") (sc := defScope s_law) (f := A.a_law) (cdv := cdv) (A := A0) (outer := outer) (s := s) (H := H) (E := E)
    have hp := hp_of (P := P) (w := w) (K := K) (mg := mg) (base := base) (N := ["_law_script", "_law_pool_here", "_law_sizes", "_law_talk_here", "_law_made_here", "_law_row", "_law_more", "_law_long", "_law_inner", "_law_place", "_law_uneven_here", "_law_column", "_law_own", "_law_table", "_law_found", "_law_way", "_law_chance", "_law_pair"]) (qual := "law") (sc := defScope s_law) (f := A.a_law) (cdv := cdv) (A := A0) (outer := outer) (s := s) (H := H) (E := E)
    exact (s_cons (s_set (i := 1) nd (d_call F__law_pool cA_ok tk (hr.mono (by omega)) T.g__law_pool T.k__law_pool T.b__law_pool .nil flat_nil (a_cons (d_var 0 (pv 0)) (a_cons d_int a_nil))))
    (s_cons (s_set (i := 2) nd (d_tup (a_cons (d_add d_int (d_call F__law_draw cR_ok tk (hr.mono (by omega)) T.g__law_draw T.k__law_draw T.b__law_draw .nil flat_nil (a_cons (d_var 1 (pv 1)) (a_cons d_int a_nil)))) (a_cons (d_add d_int (d_call F__law_draw cR_ok tk (hr.mono (by omega)) T.g__law_draw T.k__law_draw T.b__law_draw .nil flat_nil (a_cons (d_var 1 (pv 1)) (a_cons d_int a_nil)))) a_nil))))
    (s_cons (s_set (i := 3) nd (d_call F__law_talk cR_ok tk (hr.mono (by omega)) T.g__law_talk T.k__law_talk T.b__law_talk .nil flat_nil (a_cons (d_var 1 (pv 1)) (a_cons (d_var 2 (pv 2)) (a_cons (d_call F__law_draw cR_ok tk (hr.mono (by omega)) T.g__law_draw T.k__law_draw T.b__law_draw .nil flat_nil (a_cons (d_var 1 (pv 1)) (a_cons d_int a_nil))) a_nil)))))
    (s_cons (s_if (t_not (t_tru (d_call F__law_uneven cR_ok tk (hr.mono (by omega)) T.g__law_uneven T.k__law_uneven T.b__law_uneven .nil flat_nil (a_cons (d_var 1 (pv 1)) (a_cons (d_var 2 (pv 2)) (a_cons (d_var 3 (pv 3)) a_nil)))))) (s_one (s_ret d_bl)) s_nil)
    (s_cons (s_if (PW.pt (w_and (t_cmp (op_eqD hu64) ok_eq (d_ix (d_var 3 (pv 3)) d_int) d_str) (w_and1 (t_cmp (op_eqD hu64) ok_eq (d_call F__law_draw cR_ok tk (hr.mono (by omega)) T.g__law_draw T.k__law_draw T.b__law_draw .nil flat_nil (a_cons (d_var 1 (pv 1)) (a_cons d_int a_nil))) d_int)))) (s_cons (s_set (i := 8) nd (d_tup (a_cons d_str (a_cons (d_ix (d_var 3 (pv 3)) d_int) (a_cons (d_add (d_ix (d_var 3 (pv 3)) d_int) (d_sl (d_ix (d_var 3 (pv 3)) d_int) o_none (o_some d_int))) (a_cons (d_rep (fr := true) (d_lst (a_cons (d_tup (a_cons d_str a_nil)) a_nil)) (d_len T.z_len (a_cons (d_ix (d_var 3 (pv 3)) d_int) a_nil))) a_nil))))))
    (s_cons (s_set (i := 9) nd (d_call F__law_draw cR_ok tk (hr.mono (by omega)) T.g__law_draw T.k__law_draw T.b__law_draw .nil flat_nil (a_cons (d_var 1 (pv 1)) (a_cons (d_len T.z_len (a_cons (d_ix (d_var 3 (pv 3)) d_int) a_nil)) a_nil))))
    (s_cons (s_set (i := 10) nd (d_add (d_sl (d_var 3 (pv 3)) o_none (o_some d_int)) (d_tup (a_cons (d_add (d_add (d_sl (d_ix (d_var 3 (pv 3)) d_int) o_none (o_some (d_var 9 (pv 9)))) (d_lst (a_cons (d_var 8 (pv 8)) a_nil))) (d_sl (d_ix (d_var 3 (pv 3)) d_int) (o_some (d_add (d_var 9 (pv 9)) d_int)) o_none)) a_nil))))
    (s_one (s_if (t_not (t_tru (d_call F__law_same cR_ok tk (hr.mono (by omega)) T.g__law_same T.k__law_same T.b__law_same .nil flat_nil (a_cons (d_call F_fits cR_ok tk (hr.mono (by omega)) T.g_fits T.k_fits T.b_fits .nil flat_nil (a_cons (d_make T.mk_Table F_TableU_initU mkF_ok tk (hr.mono (by omega)) T.g_Table T.b_TableU_initU .nil flat_nil (a_cons (d_lc rfl nd (i_r1 T.z_range (a_cons (d_ix (d_var 2 (pv 2)) d_int) a_nil)) (own := [("_law_row", 5)]) (by exact blkOk_by (N := ["_law_script", "_law_pool_here", "_law_sizes", "_law_talk_here", "_law_made_here", "_law_row", "_law_more", "_law_long", "_law_inner", "_law_place", "_law_uneven_here", "_law_column", "_law_own", "_law_table", "_law_found", "_law_way", "_law_chance", "_law_pair"]) (sc := (defScope s_law)) (by decide +kernel)) finF_ok (gok_name (by decide)) (g := (gName 5)) (fun _ _ _ _ _ => (pg_name (i := 5) nd rfl (by first | exact Or.inl rfl | exact Or.inr rfl))) (fun _ _ _ _ _ => ts_nil) (fun _ _ _ _ _ => (d_rep (fr := true) (d_lst (a_cons d_int a_nil)) (d_ix (d_var 2 (pv 2)) d_int)))) a_nil)) (a_cons (d_call F__law_made cR_ok tk (hr.mono (by omega)) T.g__law_made T.k__law_made T.b__law_made .nil flat_nil (a_cons (d_var 10 (pv 10)) a_nil)) a_nil))) (a_cons d_bl a_nil))))) (s_one (s_ret d_bl)) s_nil))))) s_nil)
    (s_cons (s_set (i := 4) nd (d_call F__law_made cR_ok tk (hr.mono (by omega)) T.g__law_made T.k__law_made T.b__law_made .nil flat_nil (a_cons (d_var 3 (pv 3)) a_nil)))
    (s_cons (s_for hp rfl (i_r1 T.z_range (a_cons (d_ix (d_var 2 (pv 2)) d_int) a_nil)) (g_name (i := 5) nd) (s_one (s_for hp rfl (i_r1 T.z_range (a_cons (d_ix (d_var 2 (pv 2)) d_int) a_nil)) (g_name (i := 11) nd) (s_cons (s_set (i := 14) nd (d_call F_chances cA_ok tk (hr.mono (by omega)) T.g_chances T.k_chances T.b_chances .nil flat_nil (a_cons (d_var 4 (pv 4)) (a_cons (d_var 5 (pv 5)) (a_cons (d_var 11 (pv 11)) a_nil)))))
    (s_cons (s_expr (d_append (d_var 14 (pv 14)) (a_cons d_int a_nil) (pe_bm PySem.F.plainAttrs_list PySem.F.slot_list_append PySem.F.type_list_append mt_append (d_var 14 (pv 14)) (a_cons d_int a_nil))))
    (s_cons (s_set (i := 14) nd (d_call F_chances cA_ok tk (hr.mono (by omega)) T.g_chances T.k_chances T.b_chances .nil flat_nil (a_cons (d_var 4 (pv 4)) (a_cons (d_var 5 (pv 5)) (a_cons (d_var 11 (pv 11)) a_nil)))))
    (s_cons (s_if (PW.pt (w_or (t_not (t_tru (d_isi T.z_isinstance (d_var 14 (pv 14)) (pe_bltn (v := .ty "list") (by rfl) T.z_list (by decide +kernel) rfl) (.ty "list") (is_lst T.owns)))) (w_or1 (t_cmp (op_inAll hu65) ok_in d_bl (d_lc rfl nd (i_seq (d_var 14 (pv 14))) (own := [("_law_pair", 17)]) (by exact blkOk_by (N := ["_law_script", "_law_pool_here", "_law_sizes", "_law_talk_here", "_law_made_here", "_law_row", "_law_more", "_law_long", "_law_inner", "_law_place", "_law_uneven_here", "_law_column", "_law_own", "_law_table", "_law_found", "_law_way", "_law_chance", "_law_pair"]) (sc := (defScope s_law)) (by decide +kernel)) finF_ok (gok_name (by decide)) (g := (gName 17)) (fun _ _ _ _ _ => (pg_name (i := 17) nd rfl (by first | exact Or.inl rfl | exact Or.inr rfl))) (fun _ _ _ _ _ => ts_nil) (fun _ _ _ _ _ => (d_and (d_isi T.z_isinstance (d_var 17 (pv 17)) (pe_bltn (v := .ty "tuple") (by rfl) T.z_tuple (by decide +kernel) rfl) (.ty "tuple") (is_tup T.owns)) (d_one (d_isi T.z_isinstance (d_ix (d_var 17 (pv 17)) d_int) (pe_glob (v := .ref (A.cA tRatio)) (by rfl) T.g_Ratio rfl) (.own _) T.o_Ratio))))))))) (s_one (s_ret d_bl)) s_nil)
    (s_one (s_if (t_cmp (op_neD hu64) ok_ne (d_lc rfl nd (i_seq (d_var 14 (pv 14))) (own := [("_law_way", 15), ("_law_chance", 16)]) (by exact blkOk_by (N := ["_law_script", "_law_pool_here", "_law_sizes", "_law_talk_here", "_law_made_here", "_law_row", "_law_more", "_law_long", "_law_inner", "_law_place", "_law_uneven_here", "_law_column", "_law_own", "_law_table", "_law_found", "_law_way", "_law_chance", "_law_pair"]) (sc := (defScope s_law)) (by decide +kernel)) finF_ok (gok_tup (gsok_cons (gok_name (by decide)) (gsok_cons (gok_name (by decide)) gsok_nil))) (g := (gTup _ 2 (gCons (gName 15) (gCons (gName 16) gNil)))) (fun _ _ _ _ _ => (pg_tup rfl (pgs_cons (pg_name (i := 15) nd rfl (by first | exact Or.inl rfl | exact Or.inr rfl)) (pgs_cons (pg_name (i := 16) nd rfl (by first | exact Or.inl rfl | exact Or.inr rfl)) pgs_nil)))) (fun _ _ _ _ _ => ts_nil) (fun _ _ _ _ _ => (d_tup (a_cons (d_var 15 (pv 15)) (a_cons (d_tup (a_cons (d_fld (clsOk_cons T.i_Ratio.cl T.n_Ratio_num clsOk_nil) (d_var 16 (pv 16))) (a_cons (d_fld (clsOk_cons T.i_Ratio.cl T.n_Ratio_den clsOk_nil) (d_var 16 (pv 16))) a_nil))) a_nil))))) (d_call F__law_chances cR_ok tk (hr.mono (by omega)) T.g__law_chances T.k__law_chances T.b__law_chances .nil flat_nil (a_cons (d_var 3 (pv 3)) (a_cons (d_tup (a_cons (d_var 5 (pv 5)) (a_cons (d_var 11 (pv 11)) a_nil))) (a_cons (d_tup a_nil) (a_cons (d_tup (a_cons d_int (a_cons d_int a_nil))) a_nil)))))) (s_one (s_ret d_bl)) s_nil)))))))))
    (s_cons (s_for hp rfl (i_seq (d_tup (a_cons (d_tup (a_cons d_int (a_cons d_int a_nil))) (a_cons (d_tup (a_cons d_int (a_cons d_int a_nil))) (a_cons (d_tup (a_cons d_int (a_cons d_int a_nil))) (a_cons (d_tup (a_cons (d_neg d_int) (a_cons d_int a_nil))) (a_cons (d_tup (a_cons d_int (a_cons (d_neg d_int) a_nil))) a_nil))))))) (g_name (i := 6) nd) (s_cons (s_set (i := 12) nd (d_tup (a_cons (d_callB ok_max2 (call_max2 rfl) T.z_max (a_cons d_int (a_cons (d_add (d_ix (d_var 2 (pv 2)) d_int) (d_ix (d_var 6 (pv 6)) d_int)) a_nil))) (a_cons (d_callB ok_max2 (call_max2 rfl) T.z_max (a_cons d_int (a_cons (d_add (d_ix (d_var 2 (pv 2)) d_int) (d_ix (d_var 6 (pv 6)) d_int)) a_nil))) a_nil))))
    (s_cons (s_set (i := 13) nd (d_make T.mk_Table F_TableU_initU mkF_ok tk (hr.mono (by omega)) T.g_Table T.b_TableU_initU .nil flat_nil (a_cons (d_lc rfl nd (i_r1 T.z_range (a_cons (d_ix (d_var 12 (pv 12)) d_int) a_nil)) (own := [("_law_row", 5)]) (by exact blkOk_by (N := ["_law_script", "_law_pool_here", "_law_sizes", "_law_talk_here", "_law_made_here", "_law_row", "_law_more", "_law_long", "_law_inner", "_law_place", "_law_uneven_here", "_law_column", "_law_own", "_law_table", "_law_found", "_law_way", "_law_chance", "_law_pair"]) (sc := (defScope s_law)) (by decide +kernel)) finF_ok (gok_name (by decide)) (g := (gName 5)) (fun _ _ _ _ _ => (pg_name (i := 5) nd rfl (by first | exact Or.inl rfl | exact Or.inr rfl))) (fun _ _ _ _ _ => ts_nil) (fun _ _ _ _ _ => (d_rep (fr := true) (d_lst (a_cons d_int a_nil)) (d_ix (d_var 12 (pv 12)) d_int)))) a_nil)))
    (s_one (s_if (t_not (t_tru (d_call F__law_same cR_ok tk (hr.mono (by omega)) T.g__law_same T.k__law_same T.b__law_same .nil flat_nil (a_cons (d_call F_fits cR_ok tk (hr.mono (by omega)) T.g_fits T.k_fits T.b_fits .nil flat_nil (a_cons (d_var 13 (pv 13)) (a_cons (d_var 4 (pv 4)) a_nil))) (a_cons (d_call F__law_fits cR_ok tk (hr.mono (by omega)) T.g__law_fits T.k__law_fits T.b__law_fits .nil flat_nil (a_cons (d_var 3 (pv 3)) (a_cons (d_var 12 (pv 12)) a_nil))) a_nil))))) (s_one (s_ret d_bl)) s_nil)))))
    (s_cons (s_set (i := 7) nd (d_call F__law_chain cR_ok tk (hr.mono (by omega)) T.g__law_chain T.k__law_chain T.b__law_chain .nil flat_nil (a_cons (d_var 1 (pv 1)) (a_cons (d_var 2 (pv 2)) a_nil))))
    (s_cons (s_if (t_not (t_tru (d_call F__law_same cR_ok tk (hr.mono (by omega)) T.g__law_same T.k__law_same T.b__law_same .nil flat_nil (a_cons (d_call F_longest cR_ok tk (hr.mono (by omega)) T.g_longest T.k_longest T.b_longest .nil flat_nil (a_cons (d_call F__law_made cR_ok tk (hr.mono (by omega)) T.g__law_made T.k__law_made T.b__law_made .nil flat_nil (a_cons (d_var 7 (pv 7)) a_nil)) a_nil)) (a_cons (d_call F__law_longest cR_ok tk (hr.mono (by omega)) T.g__law_longest T.k__law_longest T.b__law_longest .nil flat_nil (a_cons (d_var 7 (pv 7)) a_nil)) a_nil))))) (s_one (s_ret d_bl)) s_nil)
    (s_cons (s_for hp rfl (i_r1 T.z_range (a_cons (d_ix (d_var 2 (pv 2)) d_int) a_nil)) (g_name (i := 5) nd) (s_cons (s_set (i := 14) nd (d_call F_chances cA_ok tk (hr.mono (by omega)) T.g_chances T.k_chances T.b_chances .nil flat_nil (a_cons (d_call F__law_made cR_ok tk (hr.mono (by omega)) T.g__law_made T.k__law_made T.b__law_made .nil flat_nil (a_cons (d_var 7 (pv 7)) a_nil)) (a_cons (d_var 5 (pv 5)) (a_cons d_int a_nil)))))
    (s_one (s_if (t_cmp (op_neD hu64) ok_ne (d_lc rfl nd (i_seq (d_var 14 (pv 14))) (own := [("_law_way", 15), ("_law_chance", 16)]) (by exact blkOk_by (N := ["_law_script", "_law_pool_here", "_law_sizes", "_law_talk_here", "_law_made_here", "_law_row", "_law_more", "_law_long", "_law_inner", "_law_place", "_law_uneven_here", "_law_column", "_law_own", "_law_table", "_law_found", "_law_way", "_law_chance", "_law_pair"]) (sc := (defScope s_law)) (by decide +kernel)) finF_ok (gok_tup (gsok_cons (gok_name (by decide)) (gsok_cons (gok_name (by decide)) gsok_nil))) (g := (gTup _ 2 (gCons (gName 15) (gCons (gName 16) gNil)))) (fun _ _ _ _ _ => (pg_tup rfl (pgs_cons (pg_name (i := 15) nd rfl (by first | exact Or.inl rfl | exact Or.inr rfl)) (pgs_cons (pg_name (i := 16) nd rfl (by first | exact Or.inl rfl | exact Or.inr rfl)) pgs_nil)))) (fun _ _ _ _ _ => ts_nil) (fun _ _ _ _ _ => (d_tup (a_cons (d_var 15 (pv 15)) (a_cons (d_tup (a_cons (d_fld (clsOk_cons T.i_Ratio.cl T.n_Ratio_num clsOk_nil) (d_var 16 (pv 16))) (a_cons (d_fld (clsOk_cons T.i_Ratio.cl T.n_Ratio_den clsOk_nil) (d_var 16 (pv 16))) a_nil))) a_nil))))) (d_call F__law_chances cR_ok tk (hr.mono (by omega)) T.g__law_chances T.k__law_chances T.b__law_chances .nil flat_nil (a_cons (d_var 7 (pv 7)) (a_cons (d_tup (a_cons (d_var 5 (pv 5)) (a_cons d_int a_nil))) (a_cons (d_tup a_nil) (a_cons (d_tup (a_cons d_int (a_cons d_int a_nil))) a_nil)))))) (s_one (s_ret d_bl)) s_nil))))
    (s_one (s_ret (d_call F__law_same cR_ok tk (hr.mono (by omega)) T.g__law_same T.k__law_same T.b__law_same .nil flat_nil (a_cons (d_call F_longest cR_ok tk (hr.mono (by omega)) T.g_longest T.k_longest T.b_longest .nil flat_nil (a_cons (d_var 4 (pv 4)) a_nil)) (a_cons (d_call F__law_longest cR_ok tk (hr.mono (by omega)) T.g__law_longest T.k__law_longest T.b__law_longest .nil flat_nil (a_cons (d_var 3 (pv 3)) a_nil)) a_nil))))))))))))))))
end
theorem all_mk {P : Program} {w : World} {K : PySem.W.Frag} {h : Heap} {mg : Str → Option Value} {fa : Addr} (X : K.In h) (G : h.Ns mainGlobals mg) (hfa : mg "law" = some (.ref fa))
    {c_Ratio : Addr}
    {c_End : Addr}
    {c_Say : Addr}
    {c_Table : Addr}
    {a__law_pool : Addr} {od__law_pool an__law_pool : Option Addr} {sl__law_pool : Array (Option Value)} {oc__law_pool kv__law_pool dc__law_pool pm__law_pool cd__law_pool ct__law_pool : Value}
    {a__law_talk : Addr} {od__law_talk an__law_talk : Option Addr} {sl__law_talk : Array (Option Value)} {oc__law_talk kv__law_talk dc__law_talk pm__law_talk cd__law_talk ct__law_talk : Value}
    {a__law_draw : Addr} {od__law_draw an__law_draw : Option Addr} {sl__law_draw : Array (Option Value)} {oc__law_draw kv__law_draw dc__law_draw pm__law_draw cd__law_draw ct__law_draw : Value}
    {a__law_lots : Addr} {od__law_lots an__law_lots : Option Addr} {sl__law_lots : Array (Option Value)} {oc__law_lots kv__law_lots dc__law_lots pm__law_lots cd__law_lots ct__law_lots : Value}
    {a__law_less : Addr} {od__law_less an__law_less : Option Addr} {sl__law_less : Array (Option Value)} {oc__law_less kv__law_less dc__law_less pm__law_less cd__law_less ct__law_less : Value}
    {a__law_made : Addr} {od__law_made an__law_made : Option Addr} {sl__law_made : Array (Option Value)} {oc__law_made kv__law_made dc__law_made pm__law_made cd__law_made ct__law_made : Value}
    {a_SayU_initU : Addr} {od_SayU_initU an_SayU_initU : Option Addr} {sl_SayU_initU : Array (Option Value)} {oc_SayU_initU kv_SayU_initU dc_SayU_initU pm_SayU_initU cd_SayU_initU ct_SayU_initU : Value}
    {a_are_lots : Addr} {od_are_lots an_are_lots : Option Addr} {sl_are_lots : Array (Option Value)} {oc_are_lots kv_are_lots dc_are_lots pm_are_lots cd_are_lots ct_are_lots : Value}
    {a_RatioU_eqU : Addr} {od_RatioU_eqU an_RatioU_eqU : Option Addr} {sl_RatioU_eqU : Array (Option Value)} {oc_RatioU_eqU kv_RatioU_eqU dc_RatioU_eqU pm_RatioU_eqU cd_RatioU_eqU ct_RatioU_eqU : Value}
    {a_total : Addr} {od_total an_total : Option Addr} {sl_total : Array (Option Value)} {oc_total kv_total dc_total pm_total cd_total ct_total : Value}
    {a_RatioU_initU : Addr} {od_RatioU_initU an_RatioU_initU : Option Addr} {sl_RatioU_initU : Array (Option Value)} {oc_RatioU_initU kv_RatioU_initU dc_RatioU_initU pm_RatioU_initU cd_RatioU_initU ct_RatioU_initU : Value}
    {ta_RatioU_initU : Addr} {tb_RatioU_initU : Tok} {td_RatioU_initU : Option Addr} {tn_RatioU_initU : Nat} {ts_RatioU_initU : Array (Option Value)}
    {a_RatioU_addU : Addr} {od_RatioU_addU an_RatioU_addU : Option Addr} {sl_RatioU_addU : Array (Option Value)} {oc_RatioU_addU kv_RatioU_addU dc_RatioU_addU pm_RatioU_addU cd_RatioU_addU ct_RatioU_addU : Value}
    {a__law_chain : Addr} {od__law_chain an__law_chain : Option Addr} {sl__law_chain : Array (Option Value)} {oc__law_chain kv__law_chain dc__law_chain pm__law_chain cd__law_chain ct__law_chain : Value}
    {a__law_same : Addr} {od__law_same an__law_same : Option Addr} {sl__law_same : Array (Option Value)} {oc__law_same kv__law_same dc__law_same pm__law_same cd__law_same ct__law_same : Value}
    {a__law_uneven : Addr} {od__law_uneven an__law_uneven : Option Addr} {sl__law_uneven : Array (Option Value)} {oc__law_uneven kv__law_uneven dc__law_uneven pm__law_uneven cd__law_uneven ct__law_uneven : Value}
    {a_TableU_initU : Addr} {od_TableU_initU an_TableU_initU : Option Addr} {sl_TableU_initU : Array (Option Value)} {oc_TableU_initU kv_TableU_initU dc_TableU_initU pm_TableU_initU cd_TableU_initU ct_TableU_initU : Value}
    {a_fits : Addr} {od_fits an_fits : Option Addr} {sl_fits : Array (Option Value)} {oc_fits kv_fits dc_fits pm_fits cd_fits ct_fits : Value}
    {a__law_fits : Addr} {od__law_fits an__law_fits : Option Addr} {sl__law_fits : Array (Option Value)} {oc__law_fits kv__law_fits dc__law_fits pm__law_fits cd__law_fits ct__law_fits : Value}
    {a_chances : Addr} {od_chances an_chances : Option Addr} {sl_chances : Array (Option Value)} {oc_chances kv_chances dc_chances pm_chances cd_chances ct_chances : Value}
    {a_spread : Addr} {od_spread an_spread : Option Addr} {sl_spread : Array (Option Value)} {oc_spread kv_spread dc_spread pm_spread cd_spread ct_spread : Value}
    {a_RatioU_mulU : Addr} {od_RatioU_mulU an_RatioU_mulU : Option Addr} {sl_RatioU_mulU : Array (Option Value)} {oc_RatioU_mulU kv_RatioU_mulU dc_RatioU_mulU pm_RatioU_mulU cd_RatioU_mulU ct_RatioU_mulU : Value}
    {a_longest : Addr} {od_longest an_longest : Option Addr} {sl_longest : Array (Option Value)} {oc_longest kv_longest dc_longest pm_longest cd_longest ct_longest : Value}
    {a__law_longest : Addr} {od__law_longest an__law_longest : Option Addr} {sl__law_longest : Array (Option Value)} {oc__law_longest kv__law_longest dc__law_longest pm__law_longest cd__law_longest ct__law_longest : Value}
    {a__law_chances : Addr} {od__law_chances an__law_chances : Option Addr} {sl__law_chances : Array (Option Value)} {oc__law_chances kv__law_chances dc__law_chances pm__law_chances cd__law_chances ct__law_chances : Value}
    {a__law_times : Addr} {od__law_times an__law_times : Option Addr} {sl__law_times : Array (Option Value)} {oc__law_times kv__law_times dc__law_times pm__law_times cd__law_times ct__law_times : Value}
    {a_law : Addr} {od_law an_law : Option Addr} {sl_law : Array (Option Value)} {oc_law kv_law dc_law pm_law cd_law ct_law : Value}
    {w_GREATEST : Tok}
    {w_MOST_VALUES : Tok}
    (g_Ratio : PySem.W.nsIn K mainGlobals "Ratio" = some (some (.ref c_Ratio)))
    (pg_Ratio : PySem.W.plainGet K c_Ratio Str.empty = true)
    (hd_Ratio : PySem.W.hasDictIn K c_Ratio = true)
    (po_Ratio : PySem.W.plainOver K c_Ratio = true)
    (sa_Ratio : PySem.W.findIn K (.ref c_Ratio) "__setattr__" = some (some (.builtin "object.__setattr__")))
    (ha_Ratio : PySem.W.findIn K (.ref c_Ratio) "__class__" = some (some (.builtin "object.__class__")))
    (hm_Ratio : PySem.W.mroIn K c_Ratio (.type "object") = some true)
    (g_End : PySem.W.nsIn K mainGlobals "End" = some (some (.ref c_End)))
    (pg_End : PySem.W.plainGet K c_End Str.empty = true)
    (hd_End : PySem.W.hasDictIn K c_End = true)
    (po_End : PySem.W.plainOver K c_End = true)
    (sa_End : PySem.W.findIn K (.ref c_End) "__setattr__" = some (some (.builtin "object.__setattr__")))
    (ha_End : PySem.W.findIn K (.ref c_End) "__class__" = some (some (.builtin "object.__class__")))
    (hm_End : PySem.W.mroIn K c_End (.type "object") = some true)
    (g_Say : PySem.W.nsIn K mainGlobals "Say" = some (some (.ref c_Say)))
    (pg_Say : PySem.W.plainGet K c_Say Str.empty = true)
    (hd_Say : PySem.W.hasDictIn K c_Say = true)
    (po_Say : PySem.W.plainOver K c_Say = true)
    (sa_Say : PySem.W.findIn K (.ref c_Say) "__setattr__" = some (some (.builtin "object.__setattr__")))
    (ha_Say : PySem.W.findIn K (.ref c_Say) "__class__" = some (some (.builtin "object.__class__")))
    (hm_Say : PySem.W.mroIn K c_Say (.type "object") = some true)
    (g_Table : PySem.W.nsIn K mainGlobals "Table" = some (some (.ref c_Table)))
    (pg_Table : PySem.W.plainGet K c_Table Str.empty = true)
    (hd_Table : PySem.W.hasDictIn K c_Table = true)
    (po_Table : PySem.W.plainOver K c_Table = true)
    (sa_Table : PySem.W.findIn K (.ref c_Table) "__setattr__" = some (some (.builtin "object.__setattr__")))
    (ha_Table : PySem.W.findIn K (.ref c_Table) "__class__" = some (some (.builtin "object.__class__")))
    (hm_Table : PySem.W.mroIn K c_Table (.type "object") = some true)
    (hn0 : PySem.W.specialIn K (.builtin "object.__class__") "__get__" = some (some (.builtin "getset_descriptor.__get__")))
    (htk0 : PySem.W.takesIn K (.builtin "object.__class__") = some true)
    (g__law_pool : PySem.W.nsIn K mainGlobals "_law_pool" = some (some (.ref a__law_pool)))
    (l__law_pool : K.lookup a__law_pool = some ⟨oc__law_pool, od__law_pool, .func (PySem.W.fnOf "_law_pool" "_law_pool" (defArgs s__law_pool) (defBody s__law_pool) (defScope s__law_pool) .none kv__law_pool dc__law_pool pm__law_pool an__law_pool cd__law_pool ct__law_pool), sl__law_pool⟩)
    (cd1__law_pool : PySem.W.codeIn K cd__law_pool "_law_pool" = true)
    (k__law_pool : PySem.W.keepIn K (.ref a__law_pool) = true)
    (g__law_talk : PySem.W.nsIn K mainGlobals "_law_talk" = some (some (.ref a__law_talk)))
    (l__law_talk : K.lookup a__law_talk = some ⟨oc__law_talk, od__law_talk, .func (PySem.W.fnOf "_law_talk" "_law_talk" (defArgs s__law_talk) (defBody s__law_talk) (defScope s__law_talk) .none kv__law_talk dc__law_talk pm__law_talk an__law_talk cd__law_talk ct__law_talk), sl__law_talk⟩)
    (cd1__law_talk : PySem.W.codeIn K cd__law_talk "_law_talk" = true)
    (k__law_talk : PySem.W.keepIn K (.ref a__law_talk) = true)
    (g__law_draw : PySem.W.nsIn K mainGlobals "_law_draw" = some (some (.ref a__law_draw)))
    (l__law_draw : K.lookup a__law_draw = some ⟨oc__law_draw, od__law_draw, .func (PySem.W.fnOf "_law_draw" "_law_draw" (defArgs s__law_draw) (defBody s__law_draw) (defScope s__law_draw) .none kv__law_draw dc__law_draw pm__law_draw an__law_draw cd__law_draw ct__law_draw), sl__law_draw⟩)
    (cd1__law_draw : PySem.W.codeIn K cd__law_draw "_law_draw" = true)
    (k__law_draw : PySem.W.keepIn K (.ref a__law_draw) = true)
    (g__law_lots : PySem.W.nsIn K mainGlobals "_law_lots" = some (some (.ref a__law_lots)))
    (l__law_lots : K.lookup a__law_lots = some ⟨oc__law_lots, od__law_lots, .func (PySem.W.fnOf "_law_lots" "_law_lots" (defArgs s__law_lots) (defBody s__law_lots) (defScope s__law_lots) .none kv__law_lots dc__law_lots pm__law_lots an__law_lots cd__law_lots ct__law_lots), sl__law_lots⟩)
    (cd1__law_lots : PySem.W.codeIn K cd__law_lots "_law_lots" = true)
    (k__law_lots : PySem.W.keepIn K (.ref a__law_lots) = true)
    (g__law_less : PySem.W.nsIn K mainGlobals "_law_less" = some (some (.ref a__law_less)))
    (l__law_less : K.lookup a__law_less = some ⟨oc__law_less, od__law_less, .func (PySem.W.fnOf "_law_less" "_law_less" (defArgs s__law_less) (defBody s__law_less) (defScope s__law_less) .none kv__law_less dc__law_less pm__law_less an__law_less cd__law_less ct__law_less), sl__law_less⟩)
    (cd1__law_less : PySem.W.codeIn K cd__law_less "_law_less" = true)
    (k__law_less : PySem.W.keepIn K (.ref a__law_less) = true)
    (g__law_made : PySem.W.nsIn K mainGlobals "_law_made" = some (some (.ref a__law_made)))
    (l__law_made : K.lookup a__law_made = some ⟨oc__law_made, od__law_made, .func (PySem.W.fnOf "_law_made" "_law_made" (defArgs s__law_made) (defBody s__law_made) (defScope s__law_made) .none kv__law_made dc__law_made pm__law_made an__law_made cd__law_made ct__law_made), sl__law_made⟩)
    (cd1__law_made : PySem.W.codeIn K cd__law_made "_law_made" = true)
    (k__law_made : PySem.W.keepIn K (.ref a__law_made) = true)
    (g_SayU_initU : PySem.W.findIn K (.ref c_Say) "__init__" = some (some (.ref a_SayU_initU)))
    (i_SayU_initU : PySem.W.isFn K (.ref a_SayU_initU) = true)
    (m_SayU_initU : PySem.W.makesIn K c_Say = true)
    (kp_Say : PySem.W.keepIn K (.ref c_Say) = true)
    (l_SayU_initU : K.lookup a_SayU_initU = some ⟨oc_SayU_initU, od_SayU_initU, .func (PySem.W.fnOf "__init__" "Say.__init__" (defArgs s_SayU_initU) (defBody s_SayU_initU) (defScope s_SayU_initU) .none kv_SayU_initU dc_SayU_initU pm_SayU_initU an_SayU_initU cd_SayU_initU ct_SayU_initU), sl_SayU_initU⟩)
    (cd1_SayU_initU : PySem.W.codeIn K cd_SayU_initU "Say.__init__" = true)
    (k_SayU_initU : PySem.W.keepIn K (.ref a_SayU_initU) = true)
    (g_are_lots : PySem.W.nsIn K mainGlobals "are_lots" = some (some (.ref a_are_lots)))
    (l_are_lots : K.lookup a_are_lots = some ⟨oc_are_lots, od_are_lots, .func (PySem.W.fnOf "are_lots" "are_lots" (defArgs s_are_lots) (defBody s_are_lots) (defScope s_are_lots) .none kv_are_lots dc_are_lots pm_are_lots an_are_lots cd_are_lots ct_are_lots), sl_are_lots⟩)
    (cd1_are_lots : PySem.W.codeIn K cd_are_lots "are_lots" = true)
    (k_are_lots : PySem.W.keepIn K (.ref a_are_lots) = true)
    (g_RatioU_eqU : PySem.W.findIn K (.ref c_Ratio) "__eq__" = some (some (.ref a_RatioU_eqU)))
    (i_RatioU_eqU : PySem.W.isFn K (.ref a_RatioU_eqU) = true)
    (l_RatioU_eqU : K.lookup a_RatioU_eqU = some ⟨oc_RatioU_eqU, od_RatioU_eqU, .func (PySem.W.fnOf "__eq__" "Ratio.__eq__" (defArgs s_RatioU_eqU) (defBody s_RatioU_eqU) (defScope s_RatioU_eqU) .none kv_RatioU_eqU dc_RatioU_eqU pm_RatioU_eqU an_RatioU_eqU cd_RatioU_eqU ct_RatioU_eqU), sl_RatioU_eqU⟩)
    (cd1_RatioU_eqU : PySem.W.codeIn K cd_RatioU_eqU "Ratio.__eq__" = true)
    (k_RatioU_eqU : PySem.W.keepIn K (.ref a_RatioU_eqU) = true)
    (g_total : PySem.W.nsIn K mainGlobals "total" = some (some (.ref a_total)))
    (l_total : K.lookup a_total = some ⟨oc_total, od_total, .func (PySem.W.fnOf "total" "total" (defArgs s_total) (defBody s_total) (defScope s_total) .none kv_total dc_total pm_total an_total cd_total ct_total), sl_total⟩)
    (cd1_total : PySem.W.codeIn K cd_total "total" = true)
    (k_total : PySem.W.keepIn K (.ref a_total) = true)
    (g_RatioU_initU : PySem.W.findIn K (.ref c_Ratio) "__init__" = some (some (.ref a_RatioU_initU)))
    (i_RatioU_initU : PySem.W.isFn K (.ref a_RatioU_initU) = true)
    (m_RatioU_initU : PySem.W.makesIn K c_Ratio = true)
    (kp_Ratio : PySem.W.keepIn K (.ref c_Ratio) = true)
    (l_RatioU_initU : K.lookup a_RatioU_initU = some ⟨oc_RatioU_initU, od_RatioU_initU, .func (PySem.W.fnOf "__init__" "Ratio.__init__" (defArgs s_RatioU_initU) (defBody s_RatioU_initU) (defScope s_RatioU_initU) (.ref ta_RatioU_initU) kv_RatioU_initU dc_RatioU_initU pm_RatioU_initU an_RatioU_initU cd_RatioU_initU ct_RatioU_initU), sl_RatioU_initU⟩)
    (cd1_RatioU_initU : PySem.W.codeIn K cd_RatioU_initU "Ratio.__init__" = true)
    (k_RatioU_initU : PySem.W.keepIn K (.ref a_RatioU_initU) = true)
    (lt_RatioU_initU : K.lookup ta_RatioU_initU = some ⟨.type "tuple", td_RatioU_initU, .seq #[.int 1 tb_RatioU_initU] tn_RatioU_initU, ts_RatioU_initU⟩)
    (g_RatioU_addU : PySem.W.findIn K (.ref c_Ratio) "__add__" = some (some (.ref a_RatioU_addU)))
    (i_RatioU_addU : PySem.W.isFn K (.ref a_RatioU_addU) = true)
    (l_RatioU_addU : K.lookup a_RatioU_addU = some ⟨oc_RatioU_addU, od_RatioU_addU, .func (PySem.W.fnOf "__add__" "Ratio.__add__" (defArgs s_RatioU_addU) (defBody s_RatioU_addU) (defScope s_RatioU_addU) .none kv_RatioU_addU dc_RatioU_addU pm_RatioU_addU an_RatioU_addU cd_RatioU_addU ct_RatioU_addU), sl_RatioU_addU⟩)
    (cd1_RatioU_addU : PySem.W.codeIn K cd_RatioU_addU "Ratio.__add__" = true)
    (k_RatioU_addU : PySem.W.keepIn K (.ref a_RatioU_addU) = true)
    (g__law_chain : PySem.W.nsIn K mainGlobals "_law_chain" = some (some (.ref a__law_chain)))
    (l__law_chain : K.lookup a__law_chain = some ⟨oc__law_chain, od__law_chain, .func (PySem.W.fnOf "_law_chain" "_law_chain" (defArgs s__law_chain) (defBody s__law_chain) (defScope s__law_chain) .none kv__law_chain dc__law_chain pm__law_chain an__law_chain cd__law_chain ct__law_chain), sl__law_chain⟩)
    (cd1__law_chain : PySem.W.codeIn K cd__law_chain "_law_chain" = true)
    (k__law_chain : PySem.W.keepIn K (.ref a__law_chain) = true)
    (g__law_same : PySem.W.nsIn K mainGlobals "_law_same" = some (some (.ref a__law_same)))
    (l__law_same : K.lookup a__law_same = some ⟨oc__law_same, od__law_same, .func (PySem.W.fnOf "_law_same" "_law_same" (defArgs s__law_same) (defBody s__law_same) (defScope s__law_same) .none kv__law_same dc__law_same pm__law_same an__law_same cd__law_same ct__law_same), sl__law_same⟩)
    (cd1__law_same : PySem.W.codeIn K cd__law_same "_law_same" = true)
    (k__law_same : PySem.W.keepIn K (.ref a__law_same) = true)
    (g__law_uneven : PySem.W.nsIn K mainGlobals "_law_uneven" = some (some (.ref a__law_uneven)))
    (l__law_uneven : K.lookup a__law_uneven = some ⟨oc__law_uneven, od__law_uneven, .func (PySem.W.fnOf "_law_uneven" "_law_uneven" (defArgs s__law_uneven) (defBody s__law_uneven) (defScope s__law_uneven) .none kv__law_uneven dc__law_uneven pm__law_uneven an__law_uneven cd__law_uneven ct__law_uneven), sl__law_uneven⟩)
    (cd1__law_uneven : PySem.W.codeIn K cd__law_uneven "_law_uneven" = true)
    (k__law_uneven : PySem.W.keepIn K (.ref a__law_uneven) = true)
    (g_TableU_initU : PySem.W.findIn K (.ref c_Table) "__init__" = some (some (.ref a_TableU_initU)))
    (i_TableU_initU : PySem.W.isFn K (.ref a_TableU_initU) = true)
    (m_TableU_initU : PySem.W.makesIn K c_Table = true)
    (kp_Table : PySem.W.keepIn K (.ref c_Table) = true)
    (l_TableU_initU : K.lookup a_TableU_initU = some ⟨oc_TableU_initU, od_TableU_initU, .func (PySem.W.fnOf "__init__" "Table.__init__" (defArgs s_TableU_initU) (defBody s_TableU_initU) (defScope s_TableU_initU) .none kv_TableU_initU dc_TableU_initU pm_TableU_initU an_TableU_initU cd_TableU_initU ct_TableU_initU), sl_TableU_initU⟩)
    (cd1_TableU_initU : PySem.W.codeIn K cd_TableU_initU "Table.__init__" = true)
    (k_TableU_initU : PySem.W.keepIn K (.ref a_TableU_initU) = true)
    (g_fits : PySem.W.nsIn K mainGlobals "fits" = some (some (.ref a_fits)))
    (l_fits : K.lookup a_fits = some ⟨oc_fits, od_fits, .func (PySem.W.fnOf "fits" "fits" (defArgs s_fits) (defBody s_fits) (defScope s_fits) .none kv_fits dc_fits pm_fits an_fits cd_fits ct_fits), sl_fits⟩)
    (cd1_fits : PySem.W.codeIn K cd_fits "fits" = true)
    (k_fits : PySem.W.keepIn K (.ref a_fits) = true)
    (g__law_fits : PySem.W.nsIn K mainGlobals "_law_fits" = some (some (.ref a__law_fits)))
    (l__law_fits : K.lookup a__law_fits = some ⟨oc__law_fits, od__law_fits, .func (PySem.W.fnOf "_law_fits" "_law_fits" (defArgs s__law_fits) (defBody s__law_fits) (defScope s__law_fits) .none kv__law_fits dc__law_fits pm__law_fits an__law_fits cd__law_fits ct__law_fits), sl__law_fits⟩)
    (cd1__law_fits : PySem.W.codeIn K cd__law_fits "_law_fits" = true)
    (k__law_fits : PySem.W.keepIn K (.ref a__law_fits) = true)
    (g_chances : PySem.W.nsIn K mainGlobals "chances" = some (some (.ref a_chances)))
    (l_chances : K.lookup a_chances = some ⟨oc_chances, od_chances, .func (PySem.W.fnOf "chances" "chances" (defArgs s_chances) (defBody s_chances) (defScope s_chances) .none kv_chances dc_chances pm_chances an_chances cd_chances ct_chances), sl_chances⟩)
    (cd1_chances : PySem.W.codeIn K cd_chances "chances" = true)
    (k_chances : PySem.W.keepIn K (.ref a_chances) = true)
    (g_spread : PySem.W.nsIn K mainGlobals "spread" = some (some (.ref a_spread)))
    (l_spread : K.lookup a_spread = some ⟨oc_spread, od_spread, .func (PySem.W.fnOf "spread" "spread" (defArgs s_spread) (defBody s_spread) (defScope s_spread) .none kv_spread dc_spread pm_spread an_spread cd_spread ct_spread), sl_spread⟩)
    (cd1_spread : PySem.W.codeIn K cd_spread "spread" = true)
    (k_spread : PySem.W.keepIn K (.ref a_spread) = true)
    (g_RatioU_mulU : PySem.W.findIn K (.ref c_Ratio) "__mul__" = some (some (.ref a_RatioU_mulU)))
    (i_RatioU_mulU : PySem.W.isFn K (.ref a_RatioU_mulU) = true)
    (l_RatioU_mulU : K.lookup a_RatioU_mulU = some ⟨oc_RatioU_mulU, od_RatioU_mulU, .func (PySem.W.fnOf "__mul__" "Ratio.__mul__" (defArgs s_RatioU_mulU) (defBody s_RatioU_mulU) (defScope s_RatioU_mulU) .none kv_RatioU_mulU dc_RatioU_mulU pm_RatioU_mulU an_RatioU_mulU cd_RatioU_mulU ct_RatioU_mulU), sl_RatioU_mulU⟩)
    (cd1_RatioU_mulU : PySem.W.codeIn K cd_RatioU_mulU "Ratio.__mul__" = true)
    (k_RatioU_mulU : PySem.W.keepIn K (.ref a_RatioU_mulU) = true)
    (g_longest : PySem.W.nsIn K mainGlobals "longest" = some (some (.ref a_longest)))
    (l_longest : K.lookup a_longest = some ⟨oc_longest, od_longest, .func (PySem.W.fnOf "longest" "longest" (defArgs s_longest) (defBody s_longest) (defScope s_longest) .none kv_longest dc_longest pm_longest an_longest cd_longest ct_longest), sl_longest⟩)
    (cd1_longest : PySem.W.codeIn K cd_longest "longest" = true)
    (k_longest : PySem.W.keepIn K (.ref a_longest) = true)
    (g__law_longest : PySem.W.nsIn K mainGlobals "_law_longest" = some (some (.ref a__law_longest)))
    (l__law_longest : K.lookup a__law_longest = some ⟨oc__law_longest, od__law_longest, .func (PySem.W.fnOf "_law_longest" "_law_longest" (defArgs s__law_longest) (defBody s__law_longest) (defScope s__law_longest) .none kv__law_longest dc__law_longest pm__law_longest an__law_longest cd__law_longest ct__law_longest), sl__law_longest⟩)
    (cd1__law_longest : PySem.W.codeIn K cd__law_longest "_law_longest" = true)
    (k__law_longest : PySem.W.keepIn K (.ref a__law_longest) = true)
    (g__law_chances : PySem.W.nsIn K mainGlobals "_law_chances" = some (some (.ref a__law_chances)))
    (l__law_chances : K.lookup a__law_chances = some ⟨oc__law_chances, od__law_chances, .func (PySem.W.fnOf "_law_chances" "_law_chances" (defArgs s__law_chances) (defBody s__law_chances) (defScope s__law_chances) .none kv__law_chances dc__law_chances pm__law_chances an__law_chances cd__law_chances ct__law_chances), sl__law_chances⟩)
    (cd1__law_chances : PySem.W.codeIn K cd__law_chances "_law_chances" = true)
    (k__law_chances : PySem.W.keepIn K (.ref a__law_chances) = true)
    (g__law_times : PySem.W.nsIn K mainGlobals "_law_times" = some (some (.ref a__law_times)))
    (l__law_times : K.lookup a__law_times = some ⟨oc__law_times, od__law_times, .func (PySem.W.fnOf "_law_times" "_law_times" (defArgs s__law_times) (defBody s__law_times) (defScope s__law_times) .none kv__law_times dc__law_times pm__law_times an__law_times cd__law_times ct__law_times), sl__law_times⟩)
    (cd1__law_times : PySem.W.codeIn K cd__law_times "_law_times" = true)
    (k__law_times : PySem.W.keepIn K (.ref a__law_times) = true)
    (g_law : PySem.W.nsIn K mainGlobals "law" = some (some (.ref a_law)))
    (l_law : K.lookup a_law = some ⟨oc_law, od_law, .func (PySem.W.fnOf "law" "law" (defArgs s_law) (defBody s_law) (defScope s_law) .none kv_law dc_law pm_law an_law cd_law ct_law), sl_law⟩)
    (cd1_law : PySem.W.codeIn K cd_law "law" = true)
    (k_law : PySem.W.keepIn K (.ref a_law) = true)
    (n_Ratio_den : PySem.W.findIn K (.ref c_Ratio) "den" = some none)
    (n_Ratio_num : PySem.W.findIn K (.ref c_Ratio) "num" = some none)
    (n_Say_lots : PySem.W.findIn K (.ref c_Say) "lots" = some none)
    (n_Say_parts : PySem.W.findIn K (.ref c_Say) "parts" = some none)
    (n_Say_person : PySem.W.findIn K (.ref c_Say) "person" = some none)
    (n_Table_rows : PySem.W.findIn K (.ref c_Table) "rows" = some none)
    (q0_End : PySem.W.kitOne K (.type "NoneType") (.ref c_End) = some false)
    (q1_End : PySem.W.kitOne K (.type "bool") (.ref c_End) = some false)
    (q2_End : PySem.W.kitOne K (.type "int") (.ref c_End) = some false)
    (q3_End : PySem.W.kitOne K (.type "str") (.ref c_End) = some false)
    (q4_End : PySem.W.kitOne K (.type "tuple") (.ref c_End) = some false)
    (q5_End : PySem.W.kitOne K (.type "list") (.ref c_End) = some false)
    (q6_End : PySem.W.kitOne K (.type "dict") (.ref c_End) = some false)
    (qx_Say_End : PySem.W.kitOne K (.ref c_Say) (.ref c_End) = some false)
    (q0_Ratio : PySem.W.kitOne K (.type "NoneType") (.ref c_Ratio) = some false)
    (q1_Ratio : PySem.W.kitOne K (.type "bool") (.ref c_Ratio) = some false)
    (q2_Ratio : PySem.W.kitOne K (.type "int") (.ref c_Ratio) = some false)
    (q3_Ratio : PySem.W.kitOne K (.type "str") (.ref c_Ratio) = some false)
    (q4_Ratio : PySem.W.kitOne K (.type "tuple") (.ref c_Ratio) = some false)
    (q5_Ratio : PySem.W.kitOne K (.type "list") (.ref c_Ratio) = some false)
    (q6_Ratio : PySem.W.kitOne K (.type "dict") (.ref c_Ratio) = some false)
    (mz1_End : PySem.W.makesIn K c_End = true)
    (mz2_End : PySem.W.findIn K (.ref c_End) "__init__" = some (some (.builtin "object.__init__")))
    (mz3_End : PySem.W.keepIn K (.ref c_End) = true)
    (sf_Ratio : PySem.W.selfFirst K c_Ratio = true)
    (z_abs : PySem.W.nsIn K mainGlobals "abs" = some none)
    (z_all : PySem.W.nsIn K mainGlobals "all" = some none)
    (z_any : PySem.W.nsIn K mainGlobals "any" = some none)
    (z_bool : PySem.W.nsIn K mainGlobals "bool" = some none)
    (z_enumerate : PySem.W.nsIn K mainGlobals "enumerate" = some none)
    (z_int : PySem.W.nsIn K mainGlobals "int" = some none)
    (z_isinstance : PySem.W.nsIn K mainGlobals "isinstance" = some none)
    (z_len : PySem.W.nsIn K mainGlobals "len" = some none)
    (z_list : PySem.W.nsIn K mainGlobals "list" = some none)
    (z_max : PySem.W.nsIn K mainGlobals "max" = some none)
    (z_range : PySem.W.nsIn K mainGlobals "range" = some none)
    (z_str : PySem.W.nsIn K mainGlobals "str" = some none)
    (z_sum : PySem.W.nsIn K mainGlobals "sum" = some none)
    (z_tuple : PySem.W.nsIn K mainGlobals "tuple" = some none)
    (g_GREATEST : PySem.W.nsIn K mainGlobals "GREATEST" = some (some (.int 65535 w_GREATEST)))
    (g_MOST_VALUES : PySem.W.nsIn K mainGlobals "MOST_VALUES" = some (some (.int 8 w_MOST_VALUES)))
    (math : ∀ ns : List Int, ns.length ≤ 63 → ∃ M, m_law [.d (.scr (ns.map .int))] [] = .ok (.d (.bl true)) M) :
    ∃ fd : FuncData, (∀ (s : Shared) (v : Value), BindsTo s fd ⟨[v], []⟩ [("_law_script", v)]) ∧ ∀ base : Heap, K.In base → base.Ns mainGlobals mg → FnOk P w K mg base (L2.CX P w) 90 fa fd ["_law_script"] (spLaw K) := by
  have e := (PySem.W.mg_of X G g_law).symm.trans hfa
  cases e
  have i_Ratio : InsF K c_Ratio := ⟨⟨pg_Ratio, hd_Ratio, po_Ratio, sa_Ratio⟩, ha_Ratio, hn0, htk0, hm_Ratio⟩
  have i_End : InsF K c_End := ⟨⟨pg_End, hd_End, po_End, sa_End⟩, ha_End, hn0, htk0, hm_End⟩
  have i_Say : InsF K c_Say := ⟨⟨pg_Say, hd_Say, po_Say, sa_Say⟩, ha_Say, hn0, htk0, hm_Say⟩
  have i_Table : InsF K c_Table := ⟨⟨pg_Table, hd_Table, po_Table, sa_Table⟩, ha_Table, hn0, htk0, hm_Table⟩
  have F__law_pool := fun_mk (st := s__law_pool) l__law_pool cd1__law_pool k__law_pool
  have b__law_pool := F__law_pool.binds (ps := ["_law_script", "_law_budget"]) fun _ _ _ _ _ _ us hl => match us, hl with | [_, _], _ => rfl
  have F__law_talk := fun_mk (st := s__law_talk) l__law_talk cd1__law_talk k__law_talk
  have b__law_talk := F__law_talk.binds (ps := ["_law_pool_here", "_law_sizes", "_law_deep"]) fun _ _ _ _ _ _ us hl => match us, hl with | [_, _, _], _ => rfl
  have F__law_draw := fun_mk (st := s__law_draw) l__law_draw cd1__law_draw k__law_draw
  have b__law_draw := F__law_draw.binds (ps := ["_law_pool_here", "_law_size"]) fun _ _ _ _ _ _ us hl => match us, hl with | [_, _], _ => rfl
  have F__law_lots := fun_mk (st := s__law_lots) l__law_lots cd1__law_lots k__law_lots
  have b__law_lots := F__law_lots.binds (ps := ["_law_pool_here", "_law_count"]) fun _ _ _ _ _ _ us hl => match us, hl with | [_, _], _ => rfl
  have F__law_less := fun_mk (st := s__law_less) l__law_less cd1__law_less k__law_less
  have b__law_less := F__law_less.binds (ps := ["_law_num", "_law_den"]) fun _ _ _ _ _ _ us hl => match us, hl with | [_, _], _ => rfl
  have F__law_made := fun_mk (st := s__law_made) l__law_made cd1__law_made k__law_made
  have b__law_made := F__law_made.binds (ps := ["_law_talk_here"]) fun _ _ _ _ _ _ us hl => match us, hl with | [_], _ => rfl
  have F_SayU_initU := fun_mk (st := s_SayU_initU) l_SayU_initU cd1_SayU_initU k_SayU_initU
  have b_SayU_initU := F_SayU_initU.binds (ps := ["self", "person", "lots", "parts"]) fun _ _ _ _ _ _ us hl => match us, hl with | [_, _, _, _], _ => rfl
  have F_are_lots := fun_mk (st := s_are_lots) l_are_lots cd1_are_lots k_are_lots
  have b_are_lots := F_are_lots.binds (ps := ["ratios", "count"]) fun _ _ _ _ _ _ us hl => match us, hl with | [_, _], _ => rfl
  have F_RatioU_eqU := fun_mk (st := s_RatioU_eqU) l_RatioU_eqU cd1_RatioU_eqU k_RatioU_eqU
  have b_RatioU_eqU := F_RatioU_eqU.binds (ps := ["self", "other"]) fun _ _ _ _ _ _ us hl => match us, hl with | [_, _], _ => rfl
  have F_total := fun_mk (st := s_total) l_total cd1_total k_total
  have b_total := F_total.binds (ps := ["ratios"]) fun _ _ _ _ _ _ us hl => match us, hl with | [_], _ => rfl
  have F_RatioU_initU := funD1 (st := s_RatioU_initU) l_RatioU_initU cd1_RatioU_initU k_RatioU_initU lt_RatioU_initU
  obtain ⟨dz_RatioU_initU, hz_RatioU_initU, b_RatioU_initU⟩ := FunD.binds1 (ps := ["self", "num", "den"]) F_RatioU_initU 3 1 (List.cons_ne_nil _ _) rfl fun T kV doc pm an cdv ct us its h1 h2 => match us, its, h1, h2 with | [_, _, _], [_], _, _ => ⟨_, rfl, rfl⟩
  cases hz_RatioU_initU
  obtain ⟨ds_RatioU_initU, d_RatioU_initU, b1_RatioU_initU⟩ := FunD.binds1 (ps := ["self", "num", "den"]) F_RatioU_initU 2 0 (List.cons_ne_nil _ _) rfl fun T kV doc pm an cdv ct us its h1 h2 => match us, its, h1, h2 with | [_, _], [_], _, _ => ⟨_, rfl, rfl⟩
  have F_RatioU_addU := fun_mk (st := s_RatioU_addU) l_RatioU_addU cd1_RatioU_addU k_RatioU_addU
  have b_RatioU_addU := F_RatioU_addU.binds (ps := ["self", "other"]) fun _ _ _ _ _ _ us hl => match us, hl with | [_, _], _ => rfl
  have F__law_chain := fun_mk (st := s__law_chain) l__law_chain cd1__law_chain k__law_chain
  have b__law_chain := F__law_chain.binds (ps := ["_law_pool_here", "_law_sizes"]) fun _ _ _ _ _ _ us hl => match us, hl with | [_, _], _ => rfl
  have F__law_same := fun_mk (st := s__law_same) l__law_same cd1__law_same k__law_same
  have b__law_same := F__law_same.binds (ps := ["_law_actual", "_law_due"]) fun _ _ _ _ _ _ us hl => match us, hl with | [_, _], _ => rfl
  have F__law_uneven := fun_mk (st := s__law_uneven) l__law_uneven cd1__law_uneven k__law_uneven
  have b__law_uneven := F__law_uneven.binds (ps := ["_law_pool_here", "_law_sizes", "_law_talk_here"]) fun _ _ _ _ _ _ us hl => match us, hl with | [_, _, _], _ => rfl
  have F_TableU_initU := fun_mk (st := s_TableU_initU) l_TableU_initU cd1_TableU_initU k_TableU_initU
  have b_TableU_initU := F_TableU_initU.binds (ps := ["self", "rows"]) fun _ _ _ _ _ _ us hl => match us, hl with | [_, _], _ => rfl
  have F_fits := fun_mk (st := s_fits) l_fits cd1_fits k_fits
  have b_fits := F_fits.binds (ps := ["table", "talk"]) fun _ _ _ _ _ _ us hl => match us, hl with | [_, _], _ => rfl
  have F__law_fits := fun_mk (st := s__law_fits) l__law_fits cd1__law_fits k__law_fits
  have b__law_fits := F__law_fits.binds (ps := ["_law_talk_here", "_law_sizes"]) fun _ _ _ _ _ _ us hl => match us, hl with | [_, _], _ => rfl
  have F_chances := fun_mk (st := s_chances) l_chances cd1_chances k_chances
  have b_chances := F_chances.binds (ps := ["talk", "row", "column"]) fun _ _ _ _ _ _ us hl => match us, hl with | [_, _, _], _ => rfl
  have F_spread := fun_mk (st := s_spread) l_spread cd1_spread k_spread
  have b_spread := F_spread.binds (ps := ["talk", "values", "way", "chance", "found"]) fun _ _ _ _ _ _ us hl => match us, hl with | [_, _, _, _, _], _ => rfl
  have F_RatioU_mulU := fun_mk (st := s_RatioU_mulU) l_RatioU_mulU cd1_RatioU_mulU k_RatioU_mulU
  have b_RatioU_mulU := F_RatioU_mulU.binds (ps := ["self", "other"]) fun _ _ _ _ _ _ us hl => match us, hl with | [_, _], _ => rfl
  have F_longest := fun_mk (st := s_longest) l_longest cd1_longest k_longest
  have b_longest := F_longest.binds (ps := ["talk"]) fun _ _ _ _ _ _ us hl => match us, hl with | [_], _ => rfl
  have F__law_longest := fun_mk (st := s__law_longest) l__law_longest cd1__law_longest k__law_longest
  have b__law_longest := F__law_longest.binds (ps := ["_law_talk_here"]) fun _ _ _ _ _ _ us hl => match us, hl with | [_], _ => rfl
  have F__law_chances := fun_mk (st := s__law_chances) l__law_chances cd1__law_chances k__law_chances
  have b__law_chances := F__law_chances.binds (ps := ["_law_talk_here", "_law_values", "_law_way", "_law_chance"]) fun _ _ _ _ _ _ us hl => match us, hl with | [_, _, _, _], _ => rfl
  have F__law_times := fun_mk (st := s__law_times) l__law_times cd1__law_times k__law_times
  have b__law_times := F__law_times.binds (ps := ["_law_one", "_law_other"]) fun _ _ _ _ _ _ us hl => match us, hl with | [_, _], _ => rfl
  have F_law := fun_mk (st := s_law) l_law cd1_law k_law
  have b_law := F_law.binds (ps := ["_law_script"]) fun _ _ _ _ _ _ us hl => match us, hl with | [_], _ => rfl
  let A : Ad := ⟨c_Ratio, c_End, c_Say, c_Table, a__law_pool, (PySem.W.fnOf "_law_pool" "_law_pool" (defArgs s__law_pool) (defBody s__law_pool) (defScope s__law_pool) .none kv__law_pool dc__law_pool pm__law_pool an__law_pool cd__law_pool ct__law_pool), a__law_talk, (PySem.W.fnOf "_law_talk" "_law_talk" (defArgs s__law_talk) (defBody s__law_talk) (defScope s__law_talk) .none kv__law_talk dc__law_talk pm__law_talk an__law_talk cd__law_talk ct__law_talk), a__law_draw, (PySem.W.fnOf "_law_draw" "_law_draw" (defArgs s__law_draw) (defBody s__law_draw) (defScope s__law_draw) .none kv__law_draw dc__law_draw pm__law_draw an__law_draw cd__law_draw ct__law_draw), a__law_lots, (PySem.W.fnOf "_law_lots" "_law_lots" (defArgs s__law_lots) (defBody s__law_lots) (defScope s__law_lots) .none kv__law_lots dc__law_lots pm__law_lots an__law_lots cd__law_lots ct__law_lots), a__law_less, (PySem.W.fnOf "_law_less" "_law_less" (defArgs s__law_less) (defBody s__law_less) (defScope s__law_less) .none kv__law_less dc__law_less pm__law_less an__law_less cd__law_less ct__law_less), a__law_made, (PySem.W.fnOf "_law_made" "_law_made" (defArgs s__law_made) (defBody s__law_made) (defScope s__law_made) .none kv__law_made dc__law_made pm__law_made an__law_made cd__law_made ct__law_made), a_SayU_initU, (PySem.W.fnOf "__init__" "Say.__init__" (defArgs s_SayU_initU) (defBody s_SayU_initU) (defScope s_SayU_initU) .none kv_SayU_initU dc_SayU_initU pm_SayU_initU an_SayU_initU cd_SayU_initU ct_SayU_initU), a_are_lots, (PySem.W.fnOf "are_lots" "are_lots" (defArgs s_are_lots) (defBody s_are_lots) (defScope s_are_lots) .none kv_are_lots dc_are_lots pm_are_lots an_are_lots cd_are_lots ct_are_lots), a_RatioU_eqU, (PySem.W.fnOf "__eq__" "Ratio.__eq__" (defArgs s_RatioU_eqU) (defBody s_RatioU_eqU) (defScope s_RatioU_eqU) .none kv_RatioU_eqU dc_RatioU_eqU pm_RatioU_eqU an_RatioU_eqU cd_RatioU_eqU ct_RatioU_eqU), a_total, (PySem.W.fnOf "total" "total" (defArgs s_total) (defBody s_total) (defScope s_total) .none kv_total dc_total pm_total an_total cd_total ct_total), a_RatioU_initU, (PySem.W.fnOf "__init__" "Ratio.__init__" (defArgs s_RatioU_initU) (defBody s_RatioU_initU) (defScope s_RatioU_initU) (.ref ta_RatioU_initU) kv_RatioU_initU dc_RatioU_initU pm_RatioU_initU an_RatioU_initU cd_RatioU_initU ct_RatioU_initU), ds_RatioU_initU, a_RatioU_addU, (PySem.W.fnOf "__add__" "Ratio.__add__" (defArgs s_RatioU_addU) (defBody s_RatioU_addU) (defScope s_RatioU_addU) .none kv_RatioU_addU dc_RatioU_addU pm_RatioU_addU an_RatioU_addU cd_RatioU_addU ct_RatioU_addU), a__law_chain, (PySem.W.fnOf "_law_chain" "_law_chain" (defArgs s__law_chain) (defBody s__law_chain) (defScope s__law_chain) .none kv__law_chain dc__law_chain pm__law_chain an__law_chain cd__law_chain ct__law_chain), a__law_same, (PySem.W.fnOf "_law_same" "_law_same" (defArgs s__law_same) (defBody s__law_same) (defScope s__law_same) .none kv__law_same dc__law_same pm__law_same an__law_same cd__law_same ct__law_same), a__law_uneven, (PySem.W.fnOf "_law_uneven" "_law_uneven" (defArgs s__law_uneven) (defBody s__law_uneven) (defScope s__law_uneven) .none kv__law_uneven dc__law_uneven pm__law_uneven an__law_uneven cd__law_uneven ct__law_uneven), a_TableU_initU, (PySem.W.fnOf "__init__" "Table.__init__" (defArgs s_TableU_initU) (defBody s_TableU_initU) (defScope s_TableU_initU) .none kv_TableU_initU dc_TableU_initU pm_TableU_initU an_TableU_initU cd_TableU_initU ct_TableU_initU), a_fits, (PySem.W.fnOf "fits" "fits" (defArgs s_fits) (defBody s_fits) (defScope s_fits) .none kv_fits dc_fits pm_fits an_fits cd_fits ct_fits), a__law_fits, (PySem.W.fnOf "_law_fits" "_law_fits" (defArgs s__law_fits) (defBody s__law_fits) (defScope s__law_fits) .none kv__law_fits dc__law_fits pm__law_fits an__law_fits cd__law_fits ct__law_fits), a_chances, (PySem.W.fnOf "chances" "chances" (defArgs s_chances) (defBody s_chances) (defScope s_chances) .none kv_chances dc_chances pm_chances an_chances cd_chances ct_chances), a_spread, (PySem.W.fnOf "spread" "spread" (defArgs s_spread) (defBody s_spread) (defScope s_spread) .none kv_spread dc_spread pm_spread an_spread cd_spread ct_spread), a_RatioU_mulU, (PySem.W.fnOf "__mul__" "Ratio.__mul__" (defArgs s_RatioU_mulU) (defBody s_RatioU_mulU) (defScope s_RatioU_mulU) .none kv_RatioU_mulU dc_RatioU_mulU pm_RatioU_mulU an_RatioU_mulU cd_RatioU_mulU ct_RatioU_mulU), a_longest, (PySem.W.fnOf "longest" "longest" (defArgs s_longest) (defBody s_longest) (defScope s_longest) .none kv_longest dc_longest pm_longest an_longest cd_longest ct_longest), a__law_longest, (PySem.W.fnOf "_law_longest" "_law_longest" (defArgs s__law_longest) (defBody s__law_longest) (defScope s__law_longest) .none kv__law_longest dc__law_longest pm__law_longest an__law_longest cd__law_longest ct__law_longest), a__law_chances, (PySem.W.fnOf "_law_chances" "_law_chances" (defArgs s__law_chances) (defBody s__law_chances) (defScope s__law_chances) .none kv__law_chances dc__law_chances pm__law_chances an__law_chances cd__law_chances ct__law_chances), a__law_times, (PySem.W.fnOf "_law_times" "_law_times" (defArgs s__law_times) (defBody s__law_times) (defScope s__law_times) .none kv__law_times dc__law_times pm__law_times an__law_times cd__law_times ct__law_times), fa, (PySem.W.fnOf "law" "law" (defArgs s_law) (defBody s_law) (defScope s_law) .none kv_law dc_law pm_law an_law cd_law ct_law), (.int 65535), (.int 65535 w_GREATEST), (.int 8), (.int 8 w_MOST_VALUES)⟩
  have T : Txt K mg A := {
    g_Ratio := PySem.W.mg_of X G g_Ratio,
    i_Ratio := i_Ratio,
    g_End := PySem.W.mg_of X G g_End,
    i_End := i_End,
    g_Say := PySem.W.mg_of X G g_Say,
    i_Say := i_Say,
    g_Table := PySem.W.mg_of X G g_Table,
    i_Table := i_Table,
    g__law_pool := PySem.W.mg_of X G g__law_pool,
    f__law_pool := F__law_pool,
    b__law_pool := b__law_pool,
    k__law_pool := k__law_pool,
    g__law_talk := PySem.W.mg_of X G g__law_talk,
    f__law_talk := F__law_talk,
    b__law_talk := b__law_talk,
    k__law_talk := k__law_talk,
    g__law_draw := PySem.W.mg_of X G g__law_draw,
    f__law_draw := F__law_draw,
    b__law_draw := b__law_draw,
    k__law_draw := k__law_draw,
    g__law_lots := PySem.W.mg_of X G g__law_lots,
    f__law_lots := F__law_lots,
    b__law_lots := b__law_lots,
    k__law_lots := k__law_lots,
    g__law_less := PySem.W.mg_of X G g__law_less,
    f__law_less := F__law_less,
    b__law_less := b__law_less,
    k__law_less := k__law_less,
    g__law_made := PySem.W.mg_of X G g__law_made,
    f__law_made := F__law_made,
    b__law_made := b__law_made,
    k__law_made := k__law_made,
    mk_Say := ⟨m_SayU_initU, g_SayU_initU, i_SayU_initU, kp_Say⟩,
    f_SayU_initU := F_SayU_initU,
    b_SayU_initU := b_SayU_initU,
    k_SayU_initU := k_SayU_initU,
    g_are_lots := PySem.W.mg_of X G g_are_lots,
    f_are_lots := F_are_lots,
    b_are_lots := b_are_lots,
    k_are_lots := k_are_lots,
    h_RatioU_eqU := ⟨g_RatioU_eqU, i_RatioU_eqU, k_RatioU_eqU⟩,
    f_RatioU_eqU := F_RatioU_eqU,
    b_RatioU_eqU := b_RatioU_eqU,
    k_RatioU_eqU := k_RatioU_eqU,
    g_total := PySem.W.mg_of X G g_total,
    f_total := F_total,
    b_total := b_total,
    k_total := k_total,
    mk_Ratio := ⟨m_RatioU_initU, g_RatioU_initU, i_RatioU_initU, kp_Ratio⟩,
    b1_RatioU_initU := b1_RatioU_initU,
    d_RatioU_initU := d_RatioU_initU,
    f_RatioU_initU := F_RatioU_initU,
    b_RatioU_initU := b_RatioU_initU,
    k_RatioU_initU := k_RatioU_initU,
    h_RatioU_addU := ⟨g_RatioU_addU, i_RatioU_addU, k_RatioU_addU⟩,
    f_RatioU_addU := F_RatioU_addU,
    b_RatioU_addU := b_RatioU_addU,
    k_RatioU_addU := k_RatioU_addU,
    g__law_chain := PySem.W.mg_of X G g__law_chain,
    f__law_chain := F__law_chain,
    b__law_chain := b__law_chain,
    k__law_chain := k__law_chain,
    g__law_same := PySem.W.mg_of X G g__law_same,
    f__law_same := F__law_same,
    b__law_same := b__law_same,
    k__law_same := k__law_same,
    g__law_uneven := PySem.W.mg_of X G g__law_uneven,
    f__law_uneven := F__law_uneven,
    b__law_uneven := b__law_uneven,
    k__law_uneven := k__law_uneven,
    mk_Table := ⟨m_TableU_initU, g_TableU_initU, i_TableU_initU, kp_Table⟩,
    f_TableU_initU := F_TableU_initU,
    b_TableU_initU := b_TableU_initU,
    k_TableU_initU := k_TableU_initU,
    g_fits := PySem.W.mg_of X G g_fits,
    f_fits := F_fits,
    b_fits := b_fits,
    k_fits := k_fits,
    g__law_fits := PySem.W.mg_of X G g__law_fits,
    f__law_fits := F__law_fits,
    b__law_fits := b__law_fits,
    k__law_fits := k__law_fits,
    g_chances := PySem.W.mg_of X G g_chances,
    f_chances := F_chances,
    b_chances := b_chances,
    k_chances := k_chances,
    g_spread := PySem.W.mg_of X G g_spread,
    f_spread := F_spread,
    b_spread := b_spread,
    k_spread := k_spread,
    h_RatioU_mulU := ⟨g_RatioU_mulU, i_RatioU_mulU, k_RatioU_mulU⟩,
    f_RatioU_mulU := F_RatioU_mulU,
    b_RatioU_mulU := b_RatioU_mulU,
    k_RatioU_mulU := k_RatioU_mulU,
    g_longest := PySem.W.mg_of X G g_longest,
    f_longest := F_longest,
    b_longest := b_longest,
    k_longest := k_longest,
    g__law_longest := PySem.W.mg_of X G g__law_longest,
    f__law_longest := F__law_longest,
    b__law_longest := b__law_longest,
    k__law_longest := k__law_longest,
    g__law_chances := PySem.W.mg_of X G g__law_chances,
    f__law_chances := F__law_chances,
    b__law_chances := b__law_chances,
    k__law_chances := k__law_chances,
    g__law_times := PySem.W.mg_of X G g__law_times,
    f__law_times := F__law_times,
    b__law_times := b__law_times,
    k__law_times := k__law_times,
    g_law := PySem.W.mg_of X G g_law,
    f_law := F_law,
    b_law := b_law,
    k_law := k_law,
    n_Ratio_den := n_Ratio_den,
    n_Ratio_num := n_Ratio_num,
    n_Say_lots := n_Say_lots,
    n_Say_parts := n_Say_parts,
    n_Say_person := n_Say_person,
    n_Table_rows := n_Table_rows,
    o_End := is_own7 i_End q0_End q1_End q2_End q3_End q4_End q5_End q6_End (List.forall_mem_cons.mpr ⟨⟨i_Say, qx_Say_End⟩, (fun _ h => nomatch h)⟩),
    o_Ratio := is_own7 i_Ratio q0_Ratio q1_Ratio q2_Ratio q3_Ratio q4_Ratio q5_Ratio q6_Ratio (fun _ h => nomatch h),
    mz_End := ⟨mz1_End, mz2_End, mz3_End⟩,
    sf_Ratio := sf_Ratio,
    owns := owns_nil,
    z_abs := PySem.W.mg_none_of X G z_abs,
    z_all := PySem.W.mg_none_of X G z_all,
    z_any := PySem.W.mg_none_of X G z_any,
    z_bool := PySem.W.mg_none_of X G z_bool,
    z_enumerate := PySem.W.mg_none_of X G z_enumerate,
    z_int := PySem.W.mg_none_of X G z_int,
    z_isinstance := PySem.W.mg_none_of X G z_isinstance,
    z_len := PySem.W.mg_none_of X G z_len,
    z_list := PySem.W.mg_none_of X G z_list,
    z_max := PySem.W.mg_none_of X G z_max,
    z_range := PySem.W.mg_none_of X G z_range,
    z_str := PySem.W.mg_none_of X G z_str,
    z_sum := PySem.W.mg_none_of X G z_sum,
    z_tuple := PySem.W.mg_none_of X G z_tuple,
    g_GREATEST := PySem.W.mg_of X G g_GREATEST,
    r_GREATEST := ⟨_, rfl⟩,
    p_GREATEST := fun _ => rfl,
    g_MOST_VALUES := PySem.W.mg_of X G g_MOST_VALUES,
    r_MOST_VALUES := ⟨_, rfl⟩,
    p_MOST_VALUES := fun _ => rfl }
  refine ⟨A.fd_law, fun s v => .of_eq rfl, fun base _ _ => ?_⟩
  have O__law_pool := ok__law_pool (P := P) (w := w) (base := base) T 
  have O__law_draw := ok__law_draw (P := P) (w := w) (base := base) T 
  have O__law_less := ok__law_less (P := P) (w := w) (base := base) T 
  have O_RatioU_eqU := ok_RatioU_eqU (P := P) (w := w) (base := base) T 
  have O_RatioU_initU := ok_RatioU_initU (P := P) (w := w) (base := base) T 
  have O_RatioU_addU := ok_RatioU_addU (P := P) (w := w) (base := base) T (O_RatioU_initU)
  have O__law_same := ok__law_same (P := P) (w := w) (base := base) T 
  have O_TableU_initU := ok_TableU_initU (P := P) (w := w) (base := base) T 
  have O_fits := ok_fits (P := P) (w := w) (base := base) T 
  have O__law_fits := ok__law_fits (P := P) (w := w) (base := base) T 
  have O_RatioU_mulU := ok_RatioU_mulU (P := P) (w := w) (base := base) T (O_RatioU_initU)
  have O_longest := ok_longest (P := P) (w := w) (base := base) T 
  have O__law_longest := ok__law_longest (P := P) (w := w) (base := base) T 
  have O__law_times := ok__law_times (P := P) (w := w) (base := base) T (O__law_less)
  have O__law_lots := ok__law_lots (P := P) (w := w) (base := base) T (O__law_draw) (O__law_less)
  have O_total := ok_total (P := P) (w := w) (base := base) T (O_RatioU_initU) (O_RatioU_addU)
  have O__law_chain := ok__law_chain (P := P) (w := w) (base := base) T (O__law_draw) (O__law_lots)
  have O_spread := ok_spread (P := P) (w := w) (base := base) T (O_RatioU_mulU)
  have O__law_chances := ok__law_chances (P := P) (w := w) (base := base) T (O__law_times)
  have O__law_talk := ok__law_talk (P := P) (w := w) (base := base) T (O__law_draw) (O__law_lots)
  have O_are_lots := ok_are_lots (P := P) (w := w) (base := base) T (O_total) (O_RatioU_initU) (O_RatioU_eqU)
  have O_chances := ok_chances (P := P) (w := w) (base := base) T (O_spread 80) (O_RatioU_initU)
  have O_SayU_initU := ok_SayU_initU (P := P) (w := w) (base := base) T (O_are_lots)
  have O__law_made := ok__law_made (P := P) (w := w) (base := base) T (O_RatioU_initU) (O_SayU_initU)
  have O__law_uneven := ok__law_uneven (P := P) (w := w) (base := base) T (O__law_draw) (O_TableU_initU) (O__law_same 40) (O_fits 80) (O__law_made 80) (O__law_fits 80)
  have O_law := ok_law (P := P) (w := w) (base := base) T (O__law_pool) (O__law_draw) (O__law_talk 20) (O__law_uneven) (O__law_same 40) (O_fits 80) (O_TableU_initU) (O__law_made 80) (O_chances) (O__law_chances 80) (O__law_fits 80) (O__law_chain) (O_longest 80) (O__law_longest 80)
  exact law_end O_law math
end K21

namespace K21
open PySem DL
local macro_rules
  | `(tactic| simp! [$xs,*]) => `(tactic| simp (config := {implicitDefEqProofs := false}) only [DL.oo_some, DL.oo_none, DL.kD_ap, DL.kX_ap, DL.y_next, DL.y_seq, DL.kSeq_nx, DL.kSeq_rt, DL.kSeq_bk, DL.kSeq_ct, DL.kSeq_xc, DL.y_expr, DL.kExpr_ap, DL.y_ret, DL.kRet_ap, DL.y_retN, DL.y_if, DL.kIf_t, DL.kIf_f, DL.y_never, DL.y_brk, DL.y_cnt, DL.y_asg, DL.kAsg_n, DL.kNx_ap, DL.y_par, DL.kPar_ap, DL.y_for, DL.kFor_its, DL.y_tgN, DL.y_tgT, DL.y_tgsC, DL.kGc_ap, DL.y_tgsN, DL.y_tb, DL.kTb_ap, DL.y_tru, DL.kTru_ap, DL.truw_non, DL.truw_bl, DL.truw_int, DL.truw_tup, DL.truw_lst, DL.truw_str, DL.y_nt, DL.kNt_ap, DL.y_an, DL.kAn_t, DL.kAn_f, DL.y_o, DL.kO_t, DL.kO_f, DL.y_yes, DL.y_c, DL.y_var0, DL.y_varS, DL.y_and, DL.kAnd_t, DL.kAnd_f, DL.y_or, DL.kOr_t, DL.kOr_f, DL.y_not, DL.kNot_bl, DL.y_eif, DL.kEif_t, DL.kEif_f, DL.y_aNil, DL.y_aCons, DL.kC1_ap, DL.kC2_ap, DL.y_aStar, DL.kS1_ap, DL.kS2_ap, DL.kS3_ap, DL.y_tup, DL.kTupl_ap, DL.kTup2_ap, DL.y_lst, DL.kLstl_ap, DL.kLst2_ap, DL.y_lstM, DL.kLstM_ap, DL.y_e1, DL.kE1_ap, DL.y_e2, DL.kE2_ap, DL.kE3_ap, DL.y_eL, DL.kL_f1, DL.kL_f2, DL.y_call, DL.kCall_ap, DL.y_meth, DL.kMe1_ap, DL.kMe2_ap, DL.y_chain, DL.kCh1_ap, DL.kCh2_ap, DL.kCh3_t, DL.kCh3_f, DL.y_pu1, DL.y_pu2, DL.add_int, DL.addI_int, DL.sub_int, DL.neg_int, DL.mul_int, DL.mod_int, DL.div_int, DL.lt_int, DL.le_int, DL.gt_int, DL.ge_int, DL.eq_int, DL.ne_int, DL.toint_int, DL.toint_bl, DL.tostr_str, DL.y_isN, DL.y_notN, DL.y_ixL, DL.y_ixT, DL.y_ixSc, DL.y_ixM0, DL.y_lenL, DL.y_lenT, DL.y_lenSc, DL.y_lenS, DL.y_listL, DL.y_listT, DL.y_listSc, DL.y_tupL, DL.y_tupT, DL.nds_cons, DL.nds_nil, DL.at0, DL.at1, DL.at2, DL.at3, DL.at4, DL.at5, DL.atM1, DL.atM2, DL.atM3, DL.y_fnD, DL.kFn_nx, DL.kFn_rt, DL.kFn_xc, DL.y_fnM, DL.kFnM_nx, DL.kFnM_rt, DL.kFnM_xc, DL.y_outC, DL.y_outC0, DL.y_callA, DL.eq_bl, DL.ne_bl, DL.eq_non, DL.y_inT, DL.y_in0, DL.y_inC, DL.yi_tup, DL.yi_lst, DL.yi_int, DL.yi_str, DL.yi_bl, DL.yi_non, DL.y_r1, DL.kR1_ap, DL.y_r2, DL.kR2_ap, DL.y_s1, DL.kSt1_ap, DL.kSt2_ap, DL.y_fLst, DL.y_fldaug, DL.kG1_ap, DL.kG2_ap, DL.kG3_ap, DL.kG4_ap, DL.kG5_ap, DL.y_fld, DL.kF1_ap, DL.kF2_ap, DL.y_lm, DL.kLM1_ap, DL.kLM2_ap, DL.kLM3_ap, DL.kLM4_ap, DL.lApp_one, DL.lstAt0, DL.lstAt1, DL.y_mk0, DL.y_rep, DL.y_repM, DL.y_enum, DL.kEn_tup, DL.y_go, DL.y_finF, DL.y_finM, DL.y_iseq, DL.kSq_lst, DL.kSq_tup, DL.y_lc, DL.y_wipeN, DL.y_wipeC, DL.y_sl, DL.kSl1_ap, DL.kSl2_ap, DL.kSl3_ap, DL.y_oNone, DL.y_oSome, DL.kOs_int, DL.y_slL, DL.y_slT, DL.is_ok, DL.is_bind, DL.is_sx, DL.is_nx, DL.nds_d, DL.seqw_tup, DL.seqw_lst, DL.seqw_scr, List.map_cons, List.map_nil, List.cons_append, List.nil_append, List.length_cons, List.length_nil, List.replicate_succ, List.replicate_zero, List.set_cons_zero, List.set_cons_succ, Nat.reduceSub, Nat.reduceAdd, DL.nd_d, DL.isNon, Bool.not_true, Bool.not_false, Option.map_some, Option.bind_some, List.isEmpty_cons, List.isEmpty_nil, decide_true, decide_false, if_true, if_false, ite_true, ite_false, true_and, Bool.false_eq_true, List.length_map, List.take_zero, List.all_nil, List.take_succ_cons, List.all_cons, Bool.and_true, and_true, and_self, Nat.reduceLeDiff, Int.reduceLT, Int.reduceLE, Int.reduceSub, Int.reduceAdd, Int.cast_ofNat_Int, Bool.false_bne, Bool.true_bne, DL.zsz, DL.kTup, DL.kLst, DL.kBl, DL.kInt, DL.kStr, $xs,*])
/-! ### talks -/
inductive Tk where
  | fin
  | say (p : Nat) (lots : List (List Nat)) (parts : List Tk)
def endD : D := .tup [.str "end"]
mutual
def Tk.l : Tk → D
  | .fin => endD
  | .say p lots parts => .tup [.str "say", .int (p : Int), .lst (lots.map fun ws => .lst ((lotsQ ws).map frP)), .lst (Tk.ls parts)]
def Tk.ls : List Tk → List D
  | [] => []
  | t :: r => t.l :: Tk.ls r
end
mutual
def Tk.o : Tk → D
  | .fin => .obj tEnd [] []
  | .say p lots parts => .obj tSay ["person", "lots", "parts"] [.int (p : Int), .tup (lots.map fun ws => .tup ((lotsQ ws).map (frR tRatio))), .tup (Tk.os parts)]
def Tk.os : List Tk → List D
  | [] => []
  | t :: r => t.o :: Tk.os r
end
theorem Tk.ls_eq : ∀ l, Tk.ls l = l.map Tk.l
  | [] => rfl
  | t :: r => by rw [Tk.ls, Tk.ls_eq r]; rfl
theorem Tk.os_eq : ∀ l, Tk.os l = l.map Tk.o
  | [] => rfl
  | t :: r => by rw [Tk.os, Tk.os_eq r]; rfl
theorem Tk.l_say (p : Nat) (lots : List (List Nat)) (parts : List Tk) : (Tk.say p lots parts).l = .tup [.str "say", .int (p : Int), .lst (lots.map fun ws => .lst ((lotsQ ws).map frP)), .lst (parts.map Tk.l)] := by rw [Tk.l, Tk.ls_eq]
theorem Tk.l_fin : Tk.fin.l = .tup [.str "end"] := rfl
def sayO (p : Nat) (lots : List (List Nat)) (parts : List D) : D := .obj tSay ["person", "lots", "parts"] [.int (p : Int), .tup (lots.map fun ws => .tup ((lotsQ ws).map (frR tRatio))), .tup parts]
theorem Tk.o_say (p : Nat) (lots : List (List Nat)) (parts : List Tk) : (Tk.say p lots parts).o = sayO p lots (parts.map Tk.o) := by rw [Tk.o, Tk.os_eq]; rfl
theorem Tk.o_fin : Tk.fin.o = .obj tEnd [] [] := rfl
/-- a talk whose messages are not refused -/
def TkOk : Nat → Tk → Prop
  | _, .fin => True
  | 0, .say _ _ _ => False
  | n + 1, .say p lots parts => (p = 1 ∨ p = 2) ∧ 0 < parts.length ∧ parts.length ≤ 8 ∧ 0 < lots.length ∧ lots.length ≤ 9 ∧ (∀ ws ∈ lots, WOk ws ∧ ws.length = parts.length) ∧ ∀ t ∈ parts, TkOk n t
theorem e_less : m__law_less = g_less := rfl
theorem e_rinit : m_RatioU_initU = g_ratioInit tRatio := rfl
theorem e_radd : m_RatioU_addU = g_add tRatio := rfl
theorem e_req : m_RatioU_eqU = g_req tRatio := rfl
theorem okEnd : PyData.strOk ("end" : Str) = true := by decide +kernel
theorem okSay : PyData.strOk ("say" : Str) = true := by decide +kernel
theorem neSE : (("say" : Str) = "end") = False := eq_false (by decide +kernel)
theorem lotsQ_len (ws : List Nat) : (lotsQ ws).length = ws.length := by rw [lotsQ, List.length_map]
theorem ratio0 : low 0 1 = (0, 1) := by decide
theorem ratio1 : low 1 1 = (1, 1) := by decide
theorem mk_rat {n : Int} {d : Nat} {M : Sto} (h0 : 0 < d) (h : d < 2 ^ 8000) : mkF tRatio 3 (g_ratioInit tRatio) [.d (.int n), .d (.int (d : Int))] M = .ok (.d (frR tRatio (low n d))) M := mk_is h0 h
theorem mk_rat1 {n : Int} {M : Sto} : mkF tRatio 3 (g_ratioInit tRatio) [.d (.int n), .d (.int 1)] M = .ok (.d (frR tRatio (low n 1))) M := mk_is (d := 1) (by decide) (by decide +kernel)
theorem lt_pow {a : Nat} {j k : Nat} (h : a < 2 ^ j) (hk : j ≤ k) : a < 2 ^ k := Nat.lt_of_lt_of_le h (Nat.pow_le_pow_right (by decide) hk)
theorem mk_self {q : Fr} {M : Sto} (h : Low q) (hk : FrOk 30 q) : mkF tRatio 3 (g_ratioInit tRatio) [.d (.int q.1), .d (.int (q.2 : Int))] M = .ok (.d (frR tRatio q)) M := by
  rw [mk_rat h.1 (lt_pow hk.den (by decide)), low_self h]
/-! ### sums -/
theorem low_cross {n : Int} {d : Nat} (h : 0 < d) : (low n d).1 * (d : Int) = n * ((low n d).2 : Int) := by
  obtain ⟨h1, h2⟩ := low_mul (n := n) h
  have h2' : ((low n d).2 : Int) * (gcdI n d : Int) = (d : Int) := by rw [← Int.natCast_mul, h2]
  rw [← h2', ← Int.mul_assoc, Int.mul_right_comm, h1]
theorem frAdd_low {a b : Int} {S : Nat} (h : 0 < S) : frAdd (low a S) (low b S) = low (a + b) S := by
  have ha := low_cross (n := a) h
  have hb := low_cross (n := b) h
  refine low_eq (Nat.mul_pos (low_low h).1 (low_low h).1) h ?_
  rw [Int.natCast_mul]
  generalize (low a S).1 = x at *
  generalize ((low a S).2 : Int) = y at *
  generalize (low b S).1 = u at *
  generalize ((low b S).2 : Int) = v at *
  generalize (S : Int) = s at *
  have e : (x * v + u * y) * s = (x * s) * v + (u * s) * y := by grind
  rw [e, ha, hb]
  grind
theorem low_frok {n S : Nat} (h : 0 < S) (h1 : n ≤ S) (h2 : S < 2 ^ 30) : FrOk 30 (low (n : Int) S) :=
  ⟨(low_low h).1, Nat.lt_of_le_of_lt low_le h2, Nat.lt_of_le_of_lt (low_num_le h) (by rw [Int.natAbs_natCast]; omega)⟩
theorem take_sum_le (ws : List Nat) (i : Nat) : (ws.take i).sum ≤ ws.sum := by
  have : (ws.take i).sum + (ws.drop i).sum = ws.sum := by rw [← List.sum_append, List.take_append_drop]
  omega
theorem take_sum_succ {ws : List Nat} {i : Nat} (h : i < ws.length) : (ws.take (i + 1)).sum = (ws.take i).sum + ws[i] := by
  rw [List.take_succ_eq_append_getElem h, List.sum_append]
  simp
theorem total_is {ws : List Nat} (hw : WOk ws) {mk : List D → D} (hm : mk = .lst ∨ mk = .tup) : m_total [.d (mk ((lotsQ ws).map (frR tRatio)))] [] = .ok (.d (frR tRatio (1, 1))) [] := by
  have hl : (lotsQ ws).length ≤ sizeLine := by rw [lotsQ_len]; exact Nat.le_trans hw.few (by decide)
  have hsrc : ∀ (P : Src → Sto → Prop) (E : PX) (M : Sto), kSq P E (.d (mk ((lotsQ ws).map (frR tRatio)))) M = P (.its (((lotsQ ws).map (frR tRatio)).map .d)) M := fun P E M => by
    rcases hm with rfl | rfl
    · exact kSq_lst
    · exact kSq_tup
  refine is_eq ?_
  rw [m_total, y_fnD, b_total]
  simp! [kCall_ds, e_rinit, mk_rat1, hsrc]
  refine for_is (fun i env M => M = [] ∧ ∃ o, env = [some (.d (mk ((lotsQ ws).map (frR tRatio)))), some (.d (frR tRatio (low ((ws.take i).sum : Int) ws.sum))), o]) (fun i w env M hw1 h => ?_) (fun env M h => ?_) _ _ _ _ (by simp only [Nat.zero_add, List.length_map]) ⟨rfl, none, ?_⟩
  · obtain ⟨rfl, o, rfl⟩ := h
    have hi : i < ws.length := by
      have := (List.getElem?_eq_some_iff.mp hw1).1
      rw [List.length_map, List.length_map, lotsQ_len] at this
      exact this
    have he : w = .d (frR tRatio (low (ws[i] : Int) ws.sum)) := by
      rw [List.getElem?_map, List.getElem?_map, lotsQ, List.getElem?_map, List.getElem?_eq_getElem hi] at hw1
      exact (Option.some.inj hw1).symm
    subst he
    have f1 := low_frok (n := (ws.take i).sum) hw.pos (take_sum_le ws i) hw.sm
    have f2 := low_frok (n := ws[i]) hw.pos (mem_le_sum (List.getElem_mem hi)) hw.sm
    simp! [y_tgN, e_radd, add_own f1 f2 (by decide)]
    rw [frAdd_low hw.pos, take_sum_succ hi, Int.natCast_add]
    exact ⟨_, rfl⟩
  · obtain ⟨rfl, o, rfl⟩ := h
    rw [List.length_map, List.length_map, lotsQ_len, List.take_length]
    have e1 : low (ws.sum : Int) ws.sum = (1, 1) := by
      rw [low_eq (n := (ws.sum : Int)) (d := ws.sum) (n' := 1) (d' := 1) hw.pos (by decide) (by omega), ratio1]
    simp! [e1]
  · have e0 : low (((ws.take 0).sum : Nat) : Int) ws.sum = low 0 1 := low_eq hw.pos (by decide) (by simp)
    rw [e0]
theorem lots_neg {ws : List Nat} (hw : WOk ws) {q : Fr} (hq : q ∈ lotsQ ws) : ¬ q.1 < 0 := by
  have := (lot_ok hw hq).2.2
  omega
theorem any_no {α : Type} (as : List α) : dAny (as.map fun _ => D.bl false) = some (.bl false) := any_false as
theorem arelots_is {ws : List Nat} (hw : WOk ws) {M : Sto} : callR 0 2 m_are_lots [.d (.lst ((lotsQ ws).map (frR tRatio))), .d (.int (ws.length : Int))] M = .ok (.d (.bl true)) M := by
  refine call0 (xs := [.lst ((lotsQ ws).map (frR tRatio)), .int (ws.length : Int)]) rfl (is_eq ?_)
  have ht : ∀ M, callR 0 1 m_total [.d (.lst ((lotsQ ws).map (frR tRatio)))] M = .ok (.d (frR tRatio (1, 1))) M := fun M => call0 (xs := [.lst ((lotsQ ws).map (frR tRatio))]) rfl (total_is hw (.inl rfl))
  rw [m_are_lots, y_fnD, b_are_lots]
  simp! [lotsQ_len]
  refine kcD (lotsQ ws) (frR tRatio) (fun _ => .bl false) (by rw [lotsQ_len]; exact Nat.le_trans hw.few (by decide)) (fun q hq => ?_) ?_
  · simp! [y_tgN, f_num, lots_neg hw hq]
  simp! [any_no, ht, kCall_ds, e_rinit, mk_rat1, ratio1, e_req, req_own]
/-! ### a message is made -/
theorem in12 {p : Nat} (h : p = 1 ∨ p = 2) {M : Sto} {P : PV} {E : PX} : (inw true (.d (.int (p : Int))) (.d (.tup [.int 1, .int 2])) M).Is P E = P (.d (.bl false)) M := by
  rcases h with rfl | rfl <;> rfl
theorem stow2 {t : Nat} {f g h : Str} {u v x : Wv} {M : Sto} {P : Unit → Sto → Prop} {E : PX} (h1 : (g = f) = False) (h2 : (h = f) = False) : (stow t f u (.m 0) (.ins t [g, h] [v, x] :: M)).Is P E = P () (.ins t [g, h, f] [v, x, u] :: M) := by
  show (if t = t ∧ [g, h].length < 1000 then (.ok () (MO.ins t (putN f [g, h]) (putW f u [g, h] [v, x]) :: M) : Rs Unit) else .no : Rs Unit).Is P E = _
  rw [if_pos ⟨rfl, by show 2 < 1000; decide⟩]
  have e1 : putN f [g, h] = [g, h, f] := by
    show (if g = f then _ else _ :: (if h = f then _ else _)) = _
    rw [if_neg (by rw [h1]; exact fun z => z), if_neg (by rw [h2]; exact fun z => z)]
    rfl
  have e2 : putW f u [g, h] [v, x] = [v, x, u] := by
    show (if g = f then _ else _ :: (if h = f then _ else _)) = _
    rw [if_neg (by rw [h1]; exact fun z => z), if_neg (by rw [h2]; exact fun z => z)]
    rfl
  rw [e1, e2]
  rfl
theorem say_mk {p : Nat} {lots : List (List Nat)} {parts : List D} {M : Sto} (hp : p = 1 ∨ p = 2) (h0 : 0 < parts.length) (h1 : parts.length ≤ 8) (h2 : 0 < lots.length) (h3 : lots.length ≤ 9) (hw : ∀ ws ∈ lots, WOk ws ∧ ws.length = parts.length) :
    mkF tSay 4 m_SayU_initU [.d (.int (p : Int)), .d (.lst (lots.map fun ws => .lst ((lotsQ ws).map (frR tRatio)))), .d (.lst parts)] M = .ok (.d (sayO p lots parts)) M := by
  refine mkF_d (xs := [.int (p : Int), .lst (lots.map fun ws => .lst ((lotsQ ws).map (frR tRatio))), .lst parts]) (mo := .ins tSay ["person", "lots", "parts"] [.d (.int (p : Int)), .d (.tup (lots.map fun ws => .tup ((lotsQ ws).map (frR tRatio)))), .d (.tup parts)]) (M'' := [.fz (sayO p lots parts)]) rfl ?_ rfl
  have n1 : (("person" : Str) = "lots") = False := eq_false (by decide +kernel)
  have n2 : (("person" : Str) = "parts") = False := eq_false (by decide +kernel)
  have n3 : (("lots" : Str) = "parts") = False := eq_false (by decide +kernel)
  have ep : parts.isEmpty = false := by cases parts with
    | nil => exact absurd h0 (by decide)
    | cons a b => rfl
  have el : (lots.map fun ws => D.lst ((lotsQ ws).map (frR tRatio))).isEmpty = false := by cases lots with
    | nil => exact absurd h2 (by decide)
    | cons a b => rfl
  have hl : lots.length ≤ sizeLine := Nat.le_trans h3 (by decide)
  refine is_eq ?_
  rw [m_SayU_initU, y_fnM, b_SayU_initU]
  simp! [in12 hp, ep, el]
  refine kcD lots (fun ws => .lst ((lotsQ ws).map (frR tRatio))) (fun _ => .bl true) hl (fun ws hws => ?_) ?_
  · have e1 : (parts.length : Int) = (ws.length : Int) := by rw [(hw ws hws).2]
    simp! [y_tgN, e1, arelots_is (hw ws hws).1]
  have ha : dAll (lots.map fun _ => D.bl true) = some (.bl true) := by
    rw [all_map lots fun _ => true]
    simp
  simp! [ha, stow0]
  refine kcD lots (fun ws => .lst ((lotsQ ws).map (frR tRatio))) (fun ws => .tup ((lotsQ ws).map (frR tRatio))) hl (fun ws hws => ?_) ?_
  · simp! [y_tgN]
  simp! [stow1 n1, stow2 n2 n3]
theorem made_is : ∀ (n k : Nat) (t : Tk), TkOk k t → k < n → m__law_made n [.d t.l] [] = .ok (.d t.o) []
  | n + 1, k, t, ht, hk => by
    refine is_eq ?_
    rw [m__law_made, y_fnD, b__law_made]
    cases t with
    | fin => simp! [Tk.l_fin, Tk.o_fin, eq_str okEnd okEnd, y_mk0]
    | say p lots parts =>
      match k, ht with
      | k + 1, ⟨hp, a1, a2, a3, a4, hw, hq⟩ =>
        have l1 : lots.length ≤ sizeLine := Nat.le_trans a4 (by decide)
        have l2 : parts.length ≤ sizeLine := Nat.le_trans a2 (by decide)
        simp! [Tk.l_say, Tk.o_say, eq_str okSay okEnd, neSE]
        refine kcD lots (fun ws => .lst ((lotsQ ws).map frP)) (fun ws => .lst ((lotsQ ws).map (frR tRatio))) l1 (fun ws hws => ?_) ?_
        · simp! [y_tgN]
          refine kcD (lotsQ ws) frP (frR tRatio) (by rw [lotsQ_len]; exact Nat.le_trans (hw ws hws).1.few (by decide)) (fun q hq => ?_) ?_
          · obtain ⟨f1, f2, _⟩ := lot_ok (hw ws hws).1 hq
            simp! [frP, e_rinit, mk_self f2 f1]
          simp! [DL.is_ok]
        simp! [DL.is_ok]
        refine kcD parts Tk.l Tk.o l2 (fun t ht => ?_) ?_
        · have hc : ∀ M, callR 0 1 (m__law_made n) [.d t.l] M = .ok (.d t.o) M := fun M => call0 (xs := [t.l]) rfl (made_is n k t (hq t ht) (by omega))
          simp! [y_tgN, hc]
        have hs : ∀ M, mkF tSay 4 m_SayU_initU [.d (.int (p : Int)), .d (.lst (lots.map fun ws => .lst ((lotsQ ws).map (frR tRatio)))), .d (.lst (parts.map Tk.o))] M = .ok (.d (sayO p lots (parts.map Tk.o))) M := fun M =>
          say_mk hp (by rw [List.length_map]; exact a1) (by rw [List.length_map]; exact a2) a3 a4 (fun ws h => by rw [List.length_map]; exact hw ws h)
        simp! [hs]
/-! ### fits, longest -/
mutual
def fitsT (r c : Nat) : Tk → Bool
  | .fin => true
  | .say p lots parts => decide (lots.length = if p = 1 then r else c) && fitsTs r c parts
def fitsTs (r c : Nat) : List Tk → Bool
  | [] => true
  | t :: ts => fitsT r c t && fitsTs r c ts
end
theorem fitsTs_eq (r c : Nat) : ∀ l, fitsTs r c l = l.all (fitsT r c)
  | [] => rfl
  | t :: ts => by rw [fitsTs, fitsTs_eq r c ts]; rfl
theorem fitsT_say (r c p : Nat) (lots : List (List Nat)) (parts : List Tk) : fitsT r c (.say p lots parts) = (decide (lots.length = if p = 1 then r else c) && parts.all (fitsT r c)) := by rw [fitsT, fitsTs_eq]
theorem at12 {p : Nat} (h : p = 1 ∨ p = 2) (r c : Nat) : L2.atI [Wv.d (.int (r : Int)), .d (.int (c : Int))] ((p : Int) - 1) = some (.d (.int ((if p = 1 then r else c : Nat) : Int))) := by
  rcases h with rfl | rfl <;> rfl
section
variable {p : Nat} {lots : List (List Nat)} {parts : List D} {M : Sto} {P : PV} {E : PX}
theorem f_person : (fldw [tSay] "person" (.d (sayO p lots parts)) M).Is P E = P (.d (.int (p : Int))) M := rfl
theorem f_lots : (fldw [tSay] "lots" (.d (sayO p lots parts)) M).Is P E = P (.d (.tup (lots.map fun ws => .tup ((lotsQ ws).map (frR tRatio))))) M := rfl
theorem f_parts : (fldw [tSay] "parts" (.d (sayO p lots parts)) M).Is P E = P (.d (.tup parts)) M := rfl
theorem i_say : (isiw (isOw tEnd [tSay]) (.d (sayO p lots parts)) M).Is P E = P (.d (.bl false)) M := rfl
theorem i_fin : (isiw (isOw tEnd [tSay]) (.d (.obj tEnd [] [])) M).Is P E = P (.d (.bl true)) M := rfl
theorem f_rows {R : List (List Int)} : (fldw [tTable] "rows" (.d (tabD tTable R)) M).Is P E = P (.d (rowsT R)) M := rfl
end
/-- the rows and columns of a table -/
structure Dim (R : List (List Int)) (r c : Nat) : Prop where
  rows : R.length = r
  cols : ∀ x ∈ R, x.length = c
  r0 : 0 < r
  r8 : r ≤ 8
  c0 : 0 < c
  c8 : c ≤ 8
theorem len_rows {R : List (List Int)} {r c : Nat} (d : Dim R r c) {M : Sto} {P : PV} {E : PX} : (lenw (.d (rowsT R)) M).Is P E = P (.d (.int (r : Int))) M := by
  rw [rowsT, y_lenT, List.length_map, d.rows]
theorem ix_rows0 {R : List (List Int)} {r c : Nat} (d : Dim R r c) {M : Sto} {P : PV} {E : PX} : (ixw (.d (rowsT R)) (.d (.int 0)) M).Is P E = P (.d (.tup ((R.headD []).map .int))) M := by
  cases R with
  | nil => have := d.rows; have := d.r0; simp at *; omega
  | cons a b => rw [rowsT, y_ixT, List.map_cons, List.map_cons, at0]; rfl
theorem len_row0 {R : List (List Int)} {r c : Nat} (d : Dim R r c) : (R.headD []).length = c := by
  cases R with
  | nil => have := d.rows; have := d.r0; simp at *; omega
  | cons a b => exact d.cols a (List.mem_cons_self ..)
theorem fits_is {R : List (List Int)} {r c : Nat} (d : Dim R r c) : ∀ (n k : Nat) (t : Tk), TkOk k t → k < n → m_fits n [.d (tabD tTable R), .d t.o] [] = .ok (.d (.bl (fitsT r c t))) []
  | n + 1, k, t, ht, hk => by
    refine is_eq ?_
    rw [m_fits, y_fnD, b_fits]
    cases t with
    | fin => simp! [Tk.o_fin, i_fin, fitsT]
    | say p lots parts =>
      match k, ht with
      | k + 1, ⟨hp, a1, a2, a3, a4, hw, hq⟩ =>
        have l2 : parts.length ≤ sizeLine := Nat.le_trans a2 (by decide)
        have h12 := at12 hp r c
        rw [fitsT_say]
        generalize hs : (if p = 1 then r else c) = sz at *
        by_cases h : lots.length = sz
        · have h' : (lots.length : Int) = (sz : Int) := by omega
          simp! [Tk.o_say, i_say, f_rows, len_rows d, ix_rows0 d, len_row0 d, f_person, f_lots, f_parts, h12, h']
          refine kcD parts Tk.o (fun t => .bl (fitsT r c t)) l2 (fun t ht => ?_) ?_
          · have hc : ∀ M, callR 0 2 (m_fits n) [.d (tabD tTable R), .d t.o] M = .ok (.d (.bl (fitsT r c t))) M := fun M => call0 (xs := [tabD tTable R, t.o]) rfl (fits_is d n k t (hq t ht) (by omega))
            simp! [y_tgN, hc]
          simp! [all_map, eq_true h, Bool.true_and]
        · have h' : ¬ (lots.length : Int) = (sz : Int) := by omega
          simp! [Tk.o_say, i_say, f_rows, len_rows d, ix_rows0 d, len_row0 d, f_person, f_lots, f_parts, h12, h', h, Bool.false_and]
theorem lfits_is {r c : Nat} : ∀ (n k : Nat) (t : Tk), TkOk k t → k < n → m__law_fits n [.d t.l, .d (.tup [.int (r : Int), .int (c : Int)])] [] = .ok (.d (.bl (fitsT r c t))) []
  | n + 1, k, t, ht, hk => by
    refine is_eq ?_
    rw [m__law_fits, y_fnD, b__law_fits]
    cases t with
    | fin => simp! [Tk.l_fin, eq_str okEnd okEnd, fitsT]
    | say p lots parts =>
      match k, ht with
      | k + 1, ⟨hp, a1, a2, a3, a4, hw, hq⟩ =>
        have l2 : parts.length ≤ sizeLine := Nat.le_trans a2 (by decide)
        have h12 := at12 hp r c
        rw [fitsT_say]
        generalize hs : (if p = 1 then r else c) = sz at *
        by_cases h : lots.length = sz
        · have h' : (lots.length : Int) = (sz : Int) := by omega
          simp! [Tk.l_say, eq_str okSay okEnd, neSE, h12, h']
          refine kcD parts Tk.l (fun t => .bl (fitsT r c t)) l2 (fun t ht => ?_) ?_
          · have hc : ∀ M, callR 0 2 (m__law_fits n) [.d t.l, .d (.tup [.int (r : Int), .int (c : Int)])] M = .ok (.d (.bl (fitsT r c t))) M := fun M => call0 (xs := [t.l, .tup [.int (r : Int), .int (c : Int)]]) rfl (lfits_is n k t (hq t ht) (by omega))
            simp! [y_tgN, hc]
          simp! [not_in_false, eq_true h, Bool.true_and]
        · have h' : ¬ (lots.length : Int) = (sz : Int) := by omega
          simp! [Tk.l_say, eq_str okSay okEnd, neSE, h12, h', h, Bool.false_and]
def mxI : List Int → Int
  | [] => 0
  | x :: l => l.foldl (fun a b => if b > a then b else a) x
mutual
def longT : Tk → Int
  | .fin => 0
  | .say _ _ parts => 1 + mxI (longTs parts)
def longTs : List Tk → List Int
  | [] => []
  | t :: ts => longT t :: longTs ts
end
theorem longTs_eq : ∀ l, longTs l = l.map longT
  | [] => rfl
  | t :: ts => by rw [longTs, longTs_eq ts]; rfl
theorem longT_say (p : Nat) (lots : List (List Nat)) (parts : List Tk) : longT (.say p lots parts) = 1 + mxI (parts.map longT) := by rw [longT, longTs_eq]
theorem max_map {α : Type} {as : List α} (f : α → Int) (h : 0 < as.length) : dMaxL (as.map fun a => D.int (f a)) = some (.int (mxI (as.map f))) := by
  have e : (as.map fun a => D.int (f a)) = (as.map f).map .int := by rw [List.map_map]; rfl
  rw [e, dMaxL, intsOf_map]
  cases as with
  | nil => exact absurd h (by simp)
  | cons a b => rfl
theorem long_is : ∀ (n k : Nat) (t : Tk), TkOk k t → k < n → m_longest n [.d t.o] [] = .ok (.d (.int (longT t))) []
  | n + 1, k, t, ht, hk => by
    refine is_eq ?_
    rw [m_longest, y_fnD, b_longest]
    cases t with
    | fin => simp! [Tk.o_fin, i_fin, longT]
    | say p lots parts =>
      match k, ht with
      | k + 1, ⟨hp, a1, a2, a3, a4, hw, hq⟩ =>
        have l2 : parts.length ≤ sizeLine := Nat.le_trans a2 (by decide)
        simp! [Tk.o_say, i_say]
        refine kcD parts Tk.o (fun t => .int (longT t)) l2 (fun t ht => ?_) ?_
        · have hc : ∀ M, callR 0 1 (m_longest n) [.d t.o] M = .ok (.d (.int (longT t))) M := fun M => call0 (xs := [t.o]) rfl (long_is n k t (hq t ht) (by omega))
          simp! [y_tgN, hc]
        simp! [max_map longT a1, longT_say]
theorem llong_is : ∀ (n k : Nat) (t : Tk), TkOk k t → k < n → m__law_longest n [.d t.l] [] = .ok (.d (.int (longT t))) []
  | n + 1, k, t, ht, hk => by
    refine is_eq ?_
    rw [m__law_longest, y_fnD, b__law_longest]
    cases t with
    | fin => simp! [Tk.l_fin, eq_str okEnd okEnd, longT]
    | say p lots parts =>
      match k, ht with
      | k + 1, ⟨hp, a1, a2, a3, a4, hw, hq⟩ =>
        have l2 : parts.length ≤ sizeLine := Nat.le_trans a2 (by decide)
        simp! [Tk.l_say, eq_str okSay okEnd, neSE]
        refine kcD parts Tk.l (fun t => .int (longT t)) l2 (fun t ht => ?_) ?_
        · have hc : ∀ M, callR 0 1 (m__law_longest n) [.d t.l] M = .ok (.d (.int (longT t))) M := fun M => call0 (xs := [t.l]) rfl (llong_is n k t (hq t ht) (by omega))
          simp! [y_tgN, hc]
        simp! [max_map longT a1, longT_say]
/-! ### chances -/
mutual
def chT (r c : Nat) : List Nat → Fr → Tk → List (List Nat × Fr)
  | way, q, .fin => [(way, q)]
  | way, q, .say p lots parts => chTs r c way q (lotsQ (lots.getD (if p = 1 then r else c) [])) 0 parts
def chTs (r c : Nat) : List Nat → Fr → List Fr → Nat → List Tk → List (List Nat × Fr)
  | _, _, _, _, [] => []
  | way, q, row, i, t :: ts => chT r c (way ++ [i]) (frMul q (row.getD i (0, 1))) t ++ chTs r c way q row (i + 1) ts
end
mutual
def endsT : Tk → Nat
  | .fin => 1
  | .say _ _ parts => endsTs parts
def endsTs : List Tk → Nat
  | [] => 0
  | t :: ts => endsT t + endsTs ts
end
theorem chTs_snoc (r c : Nat) (way : List Nat) (q : Fr) (row : List Fr) : ∀ (ts : List Tk) (i : Nat) (t : Tk), chTs r c way q row i (ts ++ [t]) = chTs r c way q row i ts ++ chT r c (way ++ [i + ts.length]) (frMul q (row.getD (i + ts.length) (0, 1))) t
  | [], i, t => by simp [chTs]
  | a :: ts, i, t => by
    rw [List.cons_append, chTs, chTs, chTs_snoc r c way q row ts (i + 1) t, List.append_assoc, List.length_cons]
    have e : i + 1 + ts.length = i + (ts.length + 1) := by omega
    rw [e]
mutual
theorem chT_len (r c : Nat) : ∀ (way : List Nat) (q : Fr) (t : Tk), (chT r c way q t).length = endsT t
  | _, _, .fin => rfl
  | way, q, .say p lots parts => by rw [chT, endsT]; exact chTs_len r c way q _ 0 parts
theorem chTs_len (r c : Nat) : ∀ (way : List Nat) (q : Fr) (row : List Fr) (i : Nat) (ts : List Tk), (chTs r c way q row i ts).length = endsTs ts
  | _, _, _, _, [] => rfl
  | way, q, row, i, t :: ts => by rw [chTs, List.length_append, endsTs, chT_len r c _ _ t, chTs_len r c way q row (i + 1) ts]
end
theorem endsTs_append : ∀ (a b : List Tk), endsTs (a ++ b) = endsTs a + endsTs b
  | [], b => by rw [List.nil_append, endsTs, Nat.zero_add]
  | t :: a, b => by rw [List.cons_append, endsTs, endsTs, endsTs_append a b, Nat.add_assoc]
theorem endsTs_at {parts : List Tk} {i : Nat} (h : i < parts.length) : endsTs (parts.take i) + endsT parts[i] ≤ endsTs parts := by
  have e : parts = parts.take i ++ (parts[i] :: parts.drop (i + 1)) := by
    rw [List.getElem_cons_drop, List.take_append_drop]
  have := congrArg endsTs e
  rw [endsTs_append, endsTs] at this
  omega
def natD (way : List Nat) : D := .tup (way.map fun (i : Nat) => .int (i : Int))
def encO (x : List Nat × Fr) : D := .tup [natD x.1, frR tRatio x.2]
def encL (x : List Nat × Fr) : D := .tup [natD x.1, frP x.2]
theorem add_tup {i j : List D} (h : i.length + j.length ≤ sizeLine) : dAdd (.tup i) (.tup j) = some (.tup (i ++ j)) := by
  show (if i.length + j.length ≤ sizeLine then some (D.tup (i ++ j)) else none) = _
  rw [if_pos h]
theorem way_add {way : List Nat} {i : Nat} (h : way.length ≤ 1000) : dAdd (natD way) (.tup [.int (i : Int)]) = some (natD (way ++ [i])) := by
  rw [natD, add_tup (by rw [List.length_map]; exact Nat.le_trans (Nat.add_le_add_right h _) (by show 1000 + 1 ≤ sizeLine; decide)), natD, List.map_append]
  rfl
theorem frMul_ok {k : Nat} {p q : Fr} (hp : FrOk k p) (hq : FrOk 30 q) : FrOk (k + 30) (frMul p q) :=
  ⟨(low_low (Nat.mul_pos hp.pos hq.pos)).1, Nat.lt_of_le_of_lt low_le (pow_mul_lt hp.den hq.den), Nat.lt_of_le_of_lt (low_num_le (Nat.mul_pos hp.pos hq.pos)) (by rw [Int.natAbs_mul]; exact pow_mul_lt hp.num hq.num)⟩
theorem _root_.DL.FrOk.le {j k : Nat} {q : Fr} (h : FrOk j q) (hk : j ≤ k) : FrOk k q := ⟨h.pos, lt_pow h.den hk, lt_pow h.num hk⟩
theorem e_rmul : m_RatioU_mulU = g_mul tRatio := rfl
theorem atI_map {α β : Type} {l : List α} {f : α → β} {i : Nat} (h : i < l.length) : L2.atI (l.map f) (i : Int) = some (f l[i]) := by
  rw [atI_n (by rw [List.length_map]; exact h), List.getElem_map]
theorem lots_at {lots : List (List Nat)} {g : List Nat → D} {v : Nat} (h : v < lots.length) : L2.atI ((lots.map g).map Wv.d) (v : Int) = some (.d (g (lots.getD v []))) := by
  rw [List.map_map, atI_map h, List.getD_eq_getElem?_getD, List.getElem?_eq_getElem h]
  rfl
theorem row_at {row : List Fr} {g : Fr → D} {v : Nat} (h : v < row.length) : L2.atI ((row.map g).map Wv.d) (v : Int) = some (.d (g (row.getD v (0, 1)))) := by
  rw [List.map_map, atI_map h, List.getD_eq_getElem?_getD, List.getElem?_eq_getElem h]
  rfl
theorem getD_mem {α : Type} {l : List α} {i : Nat} {d : α} (h : i < l.length) : l.getD i d ∈ l := by
  rw [List.getD_eq_getElem?_getD, List.getElem?_eq_getElem h]
  exact List.getElem_mem h
theorem pairs_at {l : List D} {i : Nat} (h : i < l.length) : (pairsFrom 0 l)[i]? = some (.tup [.int (i : Int), l[i]]) := by
  have hl : ∀ (l : List D) (n : Nat), (pairsFrom n l).length = l.length := fun l => by
    induction l with
    | nil => intro n; rfl
    | cons a l ih => intro n; rw [pairsFrom, List.length_cons, List.length_cons, ih]
  have h1 : i < (pairsFrom 0 l).length := by rw [hl]; exact h
  have e := List.getElem?_eq_getElem h1
  obtain ⟨x, h2, h3⟩ := pairs_get e
  rw [e, h3]
  rw [List.getElem?_eq_getElem h] at h2
  cases h2
  rw [Nat.zero_add]
theorem pairs_len : ∀ (l : List D) (n : Nat), (pairsFrom n l).length = l.length
  | [], _ => rfl
  | a :: l, n => by rw [pairsFrom, List.length_cons, List.length_cons, pairs_len l]
theorem set_same {α : Type} {x : α} : ∀ {l : List α} {j : Nat}, l[j]? = some x → l.set j x = l
  | [], _, h => by simp at h
  | a :: l, 0, h => by
    rw [List.getElem?_cons_zero] at h
    rw [List.set_cons_zero, Option.some.inj h]
  | a :: l, j + 1, h => by
    rw [List.getElem?_cons_succ] at h
    rw [List.set_cons_succ, set_same h]
theorem spread_is {R C r c : Nat} (hr : r < R) (hc : c < C) : ∀ (n k : Nat) (t : Tk) (K : Nat) (way : List Nat) (q : Fr) (M : Sto) (j : Nat) (acc : List (List Nat × Fr)), TkOk k t → k < n → fitsT R C t = true → FrOk K q → K + 30 * k ≤ 4000 → way.length + k ≤ 1000 → acc.length + endsT t ≤ 1000000 → (∀ mo ∈ M, Dat mo) → M[j]? = some (.lst ((acc.map encO).map .d)) →
    m_spread n [.d t.o, .d (.tup [.int (r : Int), .int (c : Int)]), .d (natD way), .d (frR tRatio q), .m j] M = .ok (.d .non) (M.set j (.lst (((acc ++ chT r c way q t).map encO).map .d)))
  | n + 1, k, t, K, way, q, M, j, acc, ht, hk, hf, hq, hK, hway, hacc, hM, hj => by
    refine is_eq ?_
    have jl : j < M.length := (List.getElem?_eq_some_iff.mp hj).1
    have hout : ∀ (L : List (List Nat × Fr)), (outC M.length (.d .non) (M.set j (.lst ((L.map encO).map .d)))).Is (fun w M' => w = .d .non ∧ M' = M.set j (.lst ((L.map encO).map .d))) nox := fun L => by
      rw [y_outCd (dats_set hM ⟨L.map encO, rfl⟩ j) (by rw [List.length_set])]
      exact ⟨rfl, rfl⟩
    rw [m_spread, y_fnD, b_spread]
    cases t with
    | fin =>
      have hla : lstAt (.m j) M = some (j, (acc.map encO).map .d) := by unfold lstAt; simp only [hj]
      have hlen : ((acc.map encO).map Wv.d ++ [Wv.d (.tup [natD way, frR tRatio q])]).length ≤ sizeLine := by
        rw [List.length_append, List.length_map, List.length_map]
        rw [endsT] at hacc
        exact Nat.le_trans (by simpa using hacc) (by decide : 1000000 ≤ sizeLine)
      simp! [Tk.o_fin, i_fin, hla, Option.isSome_some, hlen, -DL.y_outC]
      have e : (acc.map encO).map Wv.d ++ [Wv.d (.tup [natD way, frR tRatio q])] = ((acc ++ chT r c way q .fin).map encO).map .d := by
        rw [chT, List.map_append, List.map_append]
        rfl
      rw [e]
      exact hout _
    | say p lots parts =>
      match k, ht with
      | k + 1, ⟨hp, a1, a2, a3, a4, hw, hqs⟩ =>
        rw [fitsT_say, Bool.and_eq_true, decide_eq_true_eq] at hf
        obtain ⟨hf1, hf2⟩ := hf
        have h12 := at12 hp r c
        rw [chT]
        generalize hv : (if p = 1 then r else c) = v at *
        have hvl : v < lots.length := by
          rw [hf1, ← hv]
          split <;> omega
        have hrow := lots_at (g := fun ws => .tup ((lotsQ ws).map (frR tRatio))) hvl
        obtain ⟨w1, w2⟩ := hw _ (getD_mem (d := []) hvl)
        generalize lots.getD v [] = ws at *
        rw [endsT] at hacc
        simp! [Tk.o_say, i_say, f_lots, f_person, h12, hrow, f_parts]
        refine for_is (fun i env M' => M' = M.set j (.lst (((acc ++ chTs r c way q (lotsQ ws) 0 (parts.take i)).map encO).map .d)) ∧ ∃ o6 o7, env = [some (.d (sayO p lots (parts.map Tk.o))), some (.d (.tup [.int (r : Int), .int (c : Int)])), some (.d (natD way)), some (.d (frR tRatio q)), some (.m j), some (.d (.tup ((lotsQ ws).map (frR tRatio)))), o6, o7])
          (fun i w env M' hw' h => ?_) (fun env M' h => ?_) _ _ _ _ (by simp only [Nat.zero_add, List.length_map]) ⟨?_, none, none, rfl⟩
        · obtain ⟨rfl, o6, o7, rfl⟩ := h
          have hi : i < parts.length := by
            have := (List.getElem?_eq_some_iff.mp hw').1
            rw [List.length_map, pairs_len, List.length_map] at this
            exact this
          rw [List.getElem?_map, pairs_at (by rw [List.length_map]; exact hi), List.getElem_map] at hw'
          cases (Option.some.inj hw')
          have hil : i < (lotsQ ws).length := by rw [lotsQ_len, w2]; exact hi
          have hat := row_at (g := frR tRatio) hil
          obtain ⟨q1, q2, _⟩ := lot_ok w1 (getD_mem (d := (0, 1)) hil)
          have hmul := fun M => mul_own (t := tRatio) (M := M) (hq.le (by omega : K ≤ 4000)) (q1.le (by decide : 30 ≤ 4000)) (Nat.le_refl _)
          have hqf := frMul_ok hq q1
          have hsn := chTs_snoc r c way q (lotsQ ws) (parts.take i) 0 parts[i]
          rw [← List.take_succ_eq_append_getElem hi, List.length_take, Nat.min_eq_left (Nat.le_of_lt hi), Nat.zero_add] at hsn
          generalize (lotsQ ws).getD i (0, 1) = lot at *
          have hends := endsTs_at hi
          have hrec := spread_is hr hc n k parts[i] (K + 30) (way ++ [i]) (frMul q lot) (M.set j (.lst (((acc ++ chTs r c way q (lotsQ ws) 0 (parts.take i)).map encO).map .d))) j (acc ++ chTs r c way q (lotsQ ws) 0 (parts.take i)) (hqs _ (List.getElem_mem hi)) (by omega) (List.all_eq_true.mp hf2 _ (List.getElem_mem hi)) hqf (by omega) (by rw [List.length_append, List.length_singleton]; omega) (by rw [List.length_append, chTs_len]; omega) (dats_set hM ⟨_, rfl⟩ j) (List.getElem?_set_self jl)
          rw [List.set_set, List.append_assoc, ← hsn] at hrec
          simp! [way_add (by omega : way.length ≤ 1000), hat, e_rmul, hmul, y_callA, hrec]
          exact ⟨_, _, rfl⟩
        · obtain ⟨rfl, o6, o7, rfl⟩ := h
          rw [List.length_map, pairs_len, List.length_map, List.take_length]
          simp! [-DL.y_outC]
          exact hout _
        · rw [List.take_zero, chTs, List.append_nil]
          exact (set_same hj).symm
theorem e_times {p q : Fr} {j k : Nat} {M : Sto} (hp : FrOk j p) (hq : FrOk k q) (h : j + k ≤ 1900) : callR 0 2 m__law_times [.d (frP p), .d (frP q)] M = .ok (.d (frP (frMul p q))) M := by
  refine call0 (xs := [frP p, frP q]) rfl (is_eq ?_)
  have hc : ∀ M, callR 0 2 g_less [.d (.int (p.1 * q.1)), .d (.int ((p.2 * q.2 : Nat) : Int))] M = .ok (.d (frP (frMul p q))) M := fun M => by
    have := call0 (M := M) (xs := [.int (p.1 * q.1), .int ((p.2 * q.2 : Nat) : Int)]) (f := g_less) rfl (less_is (n := p.1 * q.1) (Nat.mul_pos hp.pos hq.pos) (lt_pow (pow_mul_lt hp.den hq.den) h))
    rw [lowP_eq] at this
    exact this
  have hp' := hp.le (by omega : j ≤ 4000)
  have hq' := hq.le (by omega : k ≤ 4000)
  rw [m__law_times, y_fnD, b__law_times]
  simp! [frP, mul_len (num_len hp' (Nat.le_refl _)) (num_len hq' (Nat.le_refl _)), mul_len (den_len hp' (Nat.le_refl _)) (den_len hq' (Nat.le_refl _)), den_mul, e_less]
  exact is_of (hc _) (by exact ⟨rfl, rfl⟩)
theorem lch_is {R C r c : Nat} (hr : r < R) (hc : c < C) : ∀ (n k : Nat) (t : Tk) (K : Nat) (way : List Nat) (q : Fr), TkOk k t → k < n → fitsT R C t = true → FrOk K q → K + 30 * k ≤ 1900 → way.length + k ≤ 1000 → endsT t ≤ 1000000 →
    m__law_chances n [.d t.l, .d (.tup [.int (r : Int), .int (c : Int)]), .d (natD way), .d (frP q)] [] = .ok (.d (.lst ((chT r c way q t).map encL))) []
  | n + 1, k, t, K, way, q, ht, hk, hf, hq, hK, hway, hacc => by
    refine is_eq ?_
    rw [m__law_chances, y_fnD, b__law_chances]
    cases t with
    | fin => simp! [Tk.l_fin, eq_str okEnd okEnd, chT, encL]
    | say p lots parts =>
      match k, ht with
      | k + 1, ⟨hp, a1, a2, a3, a4, hw, hqs⟩ =>
        rw [fitsT_say, Bool.and_eq_true, decide_eq_true_eq] at hf
        obtain ⟨hf1, hf2⟩ := hf
        have h12 := at12 hp r c
        rw [chT]
        generalize hv : (if p = 1 then r else c) = v at *
        have hvl : v < lots.length := by
          rw [hf1, ← hv]
          split <;> omega
        have hrow := lots_at (g := fun ws => .lst ((lotsQ ws).map frP)) hvl
        obtain ⟨w1, w2⟩ := hw _ (getD_mem (d := []) hvl)
        generalize lots.getD v [] = ws at *
        rw [endsT] at hacc
        have hsz : parts.length ≤ sizeLine := Nat.le_trans a2 (by decide)
        simp! [Tk.l_say, eq_str okSay okEnd, neSE, h12, hrow, y_r1, kR1_ap, lotsQ_len, w2, rng0_is hsz]
        refine for_is (fun i env M' => M' = [] ∧ ∃ o6, env = [some (.d (.tup [.str "say", .int (p : Int), .lst (lots.map fun ws => .lst ((lotsQ ws).map frP)), .lst (parts.map Tk.l)])), some (.d (.tup [.int (r : Int), .int (c : Int)])), some (.d (natD way)), some (.d (frP q)), some (.d (.lst ((chTs r c way q (lotsQ ws) 0 (parts.take i)).map encL))), some (.d (.lst ((lotsQ ws).map frP))), o6])
          (fun i w env M' hw' h => ?_) (fun env M' h => ?_) _ _ _ _ (Nat.zero_add _) ⟨rfl, none, rfl⟩
        · obtain ⟨rfl, o6, rfl⟩ := h
          have hi : i < parts.length := by
            have := (List.getElem?_eq_some_iff.mp hw').1
            rw [rngL_len] at this
            exact this
          rw [rngL_get hi, Int.zero_add] at hw'
          cases hw'
          have hil : i < (lotsQ ws).length := by rw [lotsQ_len, w2]; exact hi
          have hat := row_at (g := frP) hil
          have hpt : L2.atI ((parts.map Tk.l).map Wv.d) (i : Int) = some (.d parts[i].l) := by rw [List.map_map, atI_map hi]; rfl
          obtain ⟨q1, q2, _⟩ := lot_ok w1 (getD_mem (d := (0, 1)) hil)
          have hqf := frMul_ok hq q1
          have hmul := fun M => e_times (M := M) hq q1 (by omega)
          have hsn := chTs_snoc r c way q (lotsQ ws) (parts.take i) 0 parts[i]
          rw [← List.take_succ_eq_append_getElem hi, List.length_take, Nat.min_eq_left (Nat.le_of_lt hi), Nat.zero_add] at hsn
          generalize (lotsQ ws).getD i (0, 1) = lot at *
          have hends := endsTs_at hi
          have hrec : ∀ M, callR 0 4 (m__law_chances n) [.d parts[i].l, .d (.tup [.int (r : Int), .int (c : Int)]), .d (natD (way ++ [i])), .d (frP (frMul q lot))] M = .ok (.d (.lst ((chT r c (way ++ [i]) (frMul q lot) parts[i]).map encL))) M := fun M =>
            call0 (xs := [parts[i].l, .tup [.int (r : Int), .int (c : Int)], natD (way ++ [i]), frP (frMul q lot)]) rfl (lch_is hr hc n k parts[i] (K + 30) (way ++ [i]) (frMul q lot) (hqs _ (List.getElem_mem hi)) (by omega) (List.all_eq_true.mp hf2 _ (List.getElem_mem hi)) hqf (by omega) (by rw [List.length_append, List.length_singleton]; omega) (by omega))
          have hadd : dAdd (.lst ((chTs r c way q (lotsQ ws) 0 (parts.take i)).map encL)) (.lst ((chT r c (way ++ [i]) (frMul q lot) parts[i]).map encL)) = some (.lst ((chTs r c way q (lotsQ ws) 0 (parts.take (i + 1))).map encL)) := by
            rw [add_lst (by rw [List.length_map, List.length_map, chT_len, chTs_len]; exact Nat.le_trans (by omega : _ ≤ 1000000) (by decide)), ← List.map_append, ← hsn]
          simp! [y_tgN, way_add (by omega : way.length ≤ 1000), hat, hpt, hmul, hrec, hadd]
          exact ⟨_, rfl⟩
        · obtain ⟨rfl, o6, rfl⟩ := h
          rw [rngL_len, List.take_length]
          simp! [DL.is_ok]
/-! ### drawn talks -/
theorem e_lots : m__law_lots = g_lots := rfl
theorem e_draw : m__law_draw = g_draw := rfl
theorem e_pool : m__law_pool = g_pool := rfl
theorem e_same : m__law_same = g_same tsOwn := by
  funext n
  induction n with
  | zero => rfl
  | succ n ih => rw [m__law_same, g_same, ih]; rfl
theorem e_table : m_TableU_initU = g_tableInit tTable := rfl
def rowD (ws : List Nat) : D := .lst ((lotsQ ws).map frP)
theorem lots_call {c : Nat} {p : MO} {rest : Sto} {P : PV} {E : PX} (c1 : 0 < c) (c2 : c ≤ 8) (hp : PoolIs p) (h : ∀ ws p', ws.length = c → WOk ws → PoolIs p' → P (.d (rowD ws)) (p' :: rest)) : (callR 1 2 g_lots [.m 0, .d (.int (c : Int))] (p :: rest)).Is P E :=
  Rs.Is.any <| call1 (xs := [.int (c : Int)]) rfl hp.below (lots_is c1 c2 hp fun ws p' h1 h2 h3 => ⟨_, p', rfl, rfl, h3.below, h ws p' h1 h2 h3⟩) fun _ _ z => z
theorem flat1 {x : D} : ∀ n : Nat, (List.replicate n [x]).flatten = List.replicate n x
  | 0 => rfl
  | n + 1 => by rw [List.replicate_succ, List.replicate_succ, List.flatten_cons, flat1 n]; rfl
theorem rep1 {x : D} {n : Nat} (h : n ≤ 1000) {M : Sto} {P : PV} {E : PX} : (repw true (.d (.lst [x])) (.d (.int (n : Int))) M).Is P E = P (.d (.lst (List.replicate n x))) M := by
  rw [y_rep (by rw [List.length_singleton, Nat.one_mul]; exact Nat.le_trans h (by decide)) (by omega), flat1]
theorem nat_of {i : Int} (h : 0 ≤ i) : ∃ n : Nat, i = (n : Int) := ⟨i.toNat, (Int.toNat_of_nonneg h).symm⟩
theorem endsTs_le {b : Nat} : ∀ {ts : List Tk}, (∀ t ∈ ts, endsT t ≤ b) → endsTs ts ≤ ts.length * b
  | [], _ => Nat.zero_le _
  | t :: ts, h => by
    rw [endsTs, List.length_cons, Nat.add_mul, Nat.one_mul]
    have := h t (List.mem_cons_self ..)
    have := endsTs_le (ts := ts) fun x hx => h x (List.mem_cons_of_mem _ hx)
    omega
def szD (r c : Nat) : D := .tup [.int (r : Int), .int (c : Int)]
theorem sz_at {p : Nat} (h : p = 1 ∨ p = 2) (r c : Nat) {M : Sto} {P : PV} {E : PX} : (ixw (.d (szD r c)) (.d (.int ((p : Int) - 1))) M).Is P E = P (.d (.int ((if p = 1 then r else c : Nat) : Int))) M := by
  rw [szD, y_ixT]
  show oo (L2.atI [Wv.d (.int (r : Int)), .d (.int (c : Int))] ((p : Int) - 1)) P M = _
  rw [at12 h]
  rfl
theorem lotsD_eq (lots : List (List Nat)) : (lots.map fun ws => D.lst ((lotsQ ws).map frP)) = lots.map rowD := rfl
theorem talk_is {r c : Nat} (r0 : 0 < r) (r8 : r ≤ 8) (c0 : 0 < c) (c8 : c ≤ 8) : ∀ (n k : Nat) (p : MO) (P : PV), k < n → PoolIs p → (∀ t p', TkOk k t → fitsT r c t = true → endsT t ≤ 3 ^ k → PoolIs p' → P (.d t.l) [p']) → (m__law_talk n [.m 0, .d (szD r c), .d (.int (k : Int))] [p]).Is P nox
  | n + 1, k, p, P, hk, hp, h => by
    rw [m__law_talk, y_fnD, b__law_talk]
    match k with
    | 0 =>
      simp! [Int.natCast_zero]
      exact ⟨hp.below, h .fin p trivial rfl (by decide) hp⟩
    | k + 1 =>
      have hk0 : ¬ ((k + 1 : Nat) : Int) = 0 := by omega
      simp! [hk0, e_draw]
      refine draw1 (s := 4) (by decide) (by decide) hp fun v p1 v0 v1 hp1 => ?_
      by_cases hv : v = 0
      · subst hv
        simp! [DL.is_ok]
        exact ⟨hp1.below, h .fin p1 trivial rfl (Nat.pow_pos (by decide)) hp1⟩
      simp! [hv, e_draw]
      refine draw1 (s := 2) (by decide) (by decide) hp1 fun v2 p2 w0 w1 hp2 => ?_
      obtain ⟨q, hq⟩ := nat_of (by omega : 0 ≤ 1 + v2)
      have hq12 : q = 1 ∨ q = 2 := by omega
      simp! [hq, e_draw]
      refine draw1 (s := 3) (by decide) (by decide) hp2 fun v3 p3 w2 w3 hp3 => ?_
      obtain ⟨m, hm⟩ := nat_of (by omega : 0 ≤ 1 + v3)
      have m0 : 0 < m := by omega
      have m3 : m ≤ 3 := by omega
      have hszz : (if q = 1 then r else c) ≤ 8 ∧ 0 < (if q = 1 then r else c) := by split <;> exact ⟨by omega, by omega⟩
      have hsz := fun {M : Sto} {P : PV} {E : PX} => sz_at hq12 r c (M := M) (P := P) (E := E)
      generalize hgs : (if q = 1 then r else c) = sz at *
      obtain ⟨sz8, sz0⟩ := hszz
      have szl : sz ≤ sizeLine := Nat.le_trans sz8 (by decide)
      have ml : m ≤ sizeLine := Nat.le_trans m3 (by decide)
      simp! [hm, hsz, rng0_is szl]
      refine kcRP sz rowD (fun ws => WOk ws ∧ ws.length = m) szl hp3 (fun i hi p hp => ?_) fun lots p4 hl hlots hp4 => ?_
      · simp! [y_tgN, e_lots]
        refine lots_call m0 (by omega) hp fun ws p' h1 h2 h3 => ?_
        exact ⟨ws, p', rfl, rfl, ⟨h2, h1⟩, h3⟩
      have fin : ∀ (lots : List (List Nat)) (p4 : MO) (x6 : Option Wv), lots.length = sz → (∀ ws ∈ lots, WOk ws ∧ ws.length = m) → PoolIs p4 →
        (sRet (eTup (aCons (eC (.str "say")) (aCons (eVar 3) (aCons (eVar 5) (aCons (eLc finF (iR1 (aCons (eVar 4) aNil)) (tgN 7) tYesD (eCall (callR 1 3 (m__law_talk n)) [] (aCons (eVar 0) (aCons (eVar 1) (aCons (e2 (pu2 dSub) (eVar 2) (eC (.int 1))) aNil)))) [7]) aNil))))) [some (.m 0), some (.d (szD r c)), some (.d (.int ((k + 1 : Nat) : Int))), some (.d (.int (q : Int))), some (.d (.int (m : Int))), some (.d (.lst (lots.map rowD))), x6, none] [p4]).Is (kFn 1 P nox) nox := by
        intro lots p4 x6 hl hlots hp4
        simp! [rng0_is ml]
        refine kcRP m Tk.l (fun t => TkOk k t ∧ fitsT r c t = true ∧ endsT t ≤ 3 ^ k) ml hp4 (fun i hi p hp => ?_) fun parts p5 hl2 hparts hp5 => ?_
        · have ek : ((k + 1 : Nat) : Int) - 1 = (k : Int) := by omega
          simp! [y_tgN, ek]
          refine Rs.Is.any <| call1 (xs := [szD r c, .int (k : Int)]) rfl hp.below (talk_is r0 r8 c0 c8 n k p _ (by omega) hp fun t p' h1 h2 h3 h4 => ⟨_, p', rfl, rfl, h4.below, t, p', rfl, rfl, ⟨h1, h2, h3⟩, h4⟩) fun _ _ z => z
        simp! [DL.is_ok]
        have e := Tk.l_say q lots parts
        rw [lotsD_eq] at e
        rw [← e]
        refine ⟨hp5.below, h _ p5 ⟨hq12, by omega, by omega, by omega, by omega, fun ws hws => by rw [hl2]; exact hlots ws hws, fun t ht => (hparts t ht).1⟩ ?_ ?_ hp5⟩
        · rw [fitsT_say, hgs, hl, decide_eq_true rfl, Bool.true_and]
          exact List.all_eq_true.mpr fun t ht => (hparts t ht).2.1
        · rw [endsT]
          refine Nat.le_trans (endsTs_le fun t ht => (hparts t ht).2.2) ?_
          rw [hl2, Nat.pow_succ, Nat.mul_comm]
          exact Nat.mul_le_mul_left _ m3
      simp! [e_draw]
      refine draw1 (s := 3) (by decide) (by decide) hp4 fun v4 p5 w4 w5 hp5 => ?_
      generalize hkk : kSeq _ _ _ = R
      by_cases hv4 : v4 = 0
      · subst hv4
        have l0 : 0 < lots.length := by omega
        have ha : L2.atI ((lots.map rowD).map Wv.d) 0 = some (.d (rowD (lots.getD 0 []))) := lots_at (v := 0) l0
        have hr1 := fun {P : PV} {E : PX} {M : Sto} => rep1 (x := rowD (lots.getD 0 [])) (n := lots.length) (by omega) (P := P) (E := E) (M := M)
        have hfin := fin (List.replicate lots.length (lots.getD 0 [])) p5 none (by rw [List.length_replicate]; exact hl) (fun ws hws => by rw [List.eq_of_mem_replicate hws]; exact hlots _ (getD_mem l0)) hp5
        rw [List.map_replicate] at hfin
        simp! [ha, hr1]
        rw [← hkk]
        exact hfin
      · simp! [hv4]
        rw [← hkk]
        exact fin lots p5 none hl hlots hp5
theorem talk_call {r c : Nat} (r0 : 0 < r) (r8 : r ≤ 8) (c0 : 0 < c) (c8 : c ≤ 8) {n k : Nat} {p : MO} {rest : Sto} {P : PV} {E : PX} (hk : k < n) (hp : PoolIs p) (h : ∀ t p', TkOk k t → fitsT r c t = true → endsT t ≤ 3 ^ k → PoolIs p' → P (.d t.l) (p' :: rest)) : (callR 1 3 (m__law_talk n) [.m 0, .d (szD r c), .d (.int (k : Int))] (p :: rest)).Is P E :=
  Rs.Is.any <| call1 (xs := [szD r c, .int (k : Int)]) rfl hp.below (talk_is r0 r8 c0 c8 n k p _ hk hp fun t p' h1 h2 h3 h4 => ⟨_, p', rfl, rfl, h4.below, h t p' h1 h2 h3 h4⟩) fun _ _ z => z
/-! ### k21: chains, uneven talks -/
theorem TkOk.mono : ∀ {n : Nat} {t : Tk}, TkOk n t → ∀ {m : Nat}, n ≤ m → TkOk m t
  | _, .fin, _, 0, _ => trivial
  | _, .fin, _, _ + 1, _ => trivial
  | n + 1, .say p lots parts, ⟨h1, h2, h3, h4, h5, h6, h7⟩, m, hm => by
    obtain ⟨m, rfl⟩ : ∃ j, m = j + 1 := ⟨m - 1, by omega⟩
    exact ⟨h1, h2, h3, h4, h5, h6, fun t ht => (h7 t ht).mono (by omega)⟩
  | 0, .say _ _ _, h, _, _ => h.elim
theorem fin_ok : ∀ n : Nat, TkOk n .fin
  | 0 => trivial
  | _ + 1 => trivial
theorem chain_is {r c : Nat} (r0 : 0 < r) (r8 : r ≤ 8) (c0 : 0 < c) (c8 : c ≤ 8) {p : MO} {P : PV} (hp : PoolIs p) (h : ∀ t p', TkOk 60 t → fitsT r c t = true → endsT t ≤ 61 → PoolIs p' → P (.d t.l) [p']) : (m__law_chain [.m 0, .d (szD r c)] [p]).Is P nox := by
  rw [m__law_chain, y_fnD, b__law_chain]
  simp! [e_draw]
  refine draw1 (s := 61) (by decide) (by decide) hp fun v p1 v0 v1 hp1 => ?_
  obtain ⟨N, hN⟩ := nat_of v0
  have hN1 : N ≤ 60 := by omega
  have hNs : N ≤ sizeLine := Nat.le_trans hN1 (by decide)
  simp! [y_r1, kR1_ap, hN, rng0_is hNs]
  refine for_is (fun i env M => ∃ (t : Tk) (p : MO) (o3 o4 o5 o6 o7 : Option Wv), M = [p] ∧ PoolIs p ∧ env = [some (.m 0), some (.d (szD r c)), some (.d t.l), o3, o4, o5, o6, o7] ∧ TkOk i t ∧ fitsT r c t = true ∧ endsT t ≤ i + 1)
    (fun i w env M hw h => ?_) (fun env M h => ?_) _ _ _ _ (Nat.zero_add _) ⟨.fin, p1, _, _, _, _, _, rfl, hp1, rfl, trivial, rfl, by decide⟩
  · obtain ⟨t, p, o3, o4, o5, o6, o7, rfl, hp, rfl, t1, t2, t3⟩ := h
    simp! [y_tgN, e_draw]
    refine draw1 (s := 2) (by decide) (by decide) hp fun v2 p2 w0 w1 hp2 => ?_
    obtain ⟨q, hq⟩ := nat_of (by omega : 0 ≤ 1 + v2)
    have hq12 : q = 1 ∨ q = 2 := by omega
    simp! [hq, e_draw]
    refine draw1 (s := 20) (by decide) (by decide) hp2 fun v3 p3 w2 w3 hp3 => ?_
    have step : ∀ m : Nat, m = 1 ∨ m = 2 → ∀ (P : PO),
      (∀ (t : Tk) (p : MO) (o3 o4 o5 o6 o7 : Option Wv), PoolIs p → TkOk (i + 1) t → fitsT r c t = true → endsT t ≤ i + 1 + 1 → P (.nx [some (.m 0), some (.d (szD r c)), some (.d t.l), o3, o4, o5, o6, o7]) [p]) →
      ((sSeq (sAsg (tgN 6) (eLc finF (iR1 (aCons (e2 ixw (eVar 1) (e2 (pu2 dSub) (eVar 4) (eC (.int 1)))) aNil)) (tgN 7) tYesD (eCall (callR 1 2 m__law_lots) [] (aCons (eVar 0) (aCons (eVar 5) aNil))) [7]))
    (sAsg (tgN 2) (eTup (aCons (eC (.str "say")) (aCons (eVar 4) (aCons (eVar 6) (aCons (e2 (pu2 dAdd) (eLst (aCons (eVar 2) aNil)) (e2 (repw true) (eLst (aCons (eTup (aCons (eC (.str "end")) aNil)) aNil)) (e2 (pu2 dSub) (eVar 5) (eC (.int 1))))) aNil))))))) [some (.m 0), some (.d (szD r c)), some (.d t.l), some w, some (.d (.int (q : Int))), some (.d (.int (m : Int))), o6, o7] [p3]).Is P nox := by
      intro m hm P hP
      have hszz : (if q = 1 then r else c) ≤ 8 ∧ 0 < (if q = 1 then r else c) := by split <;> exact ⟨by omega, by omega⟩
      have hsz := fun {M : Sto} {P : PV} {E : PX} => sz_at hq12 r c (M := M) (P := P) (E := E)
      generalize hgs : (if q = 1 then r else c) = sz at *
      obtain ⟨sz8, sz0⟩ := hszz
      have szl : sz ≤ sizeLine := Nat.le_trans sz8 (by decide)
      simp! [hsz, rng0_is szl]
      refine kcRP sz rowD (fun ws => WOk ws ∧ ws.length = m) szl hp3 (fun j hj p hp => ?_) fun lots p4 hl hlots hp4 => ?_
      · simp! [y_tgN, e_lots]
        refine lots_call (by omega) (by omega) hp fun ws p' h1 h2 h3 => ?_
        exact ⟨ws, p', rfl, rfl, ⟨h2, h1⟩, h3⟩
      have em : (m : Int) - 1 = ((m - 1 : Nat) : Int) := by omega
      have ha : dAdd (.lst [t.l]) (.lst (List.replicate (m - 1) (.tup [.str "end"]))) = some (.lst ((t :: List.replicate (m - 1) Tk.fin).map Tk.l)) := by
        rw [add_lst (by rw [List.length_replicate, List.length_singleton]; exact Nat.le_trans (by omega : _ ≤ 10) (by decide)), List.map_cons, List.map_replicate]
        rfl
      have hr1 := fun {P : PV} {E : PX} {M : Sto} => rep1 (x := .tup [.str "end"]) (n := m - 1) (by omega) (P := P) (E := E) (M := M)
      simp! [em, hr1, ha]
      have e := Tk.l_say q lots (t :: List.replicate (m - 1) Tk.fin)
      rw [lotsD_eq, List.map_cons] at e
      rw [← e]
      have hall : ∀ x ∈ t :: List.replicate (m - 1) Tk.fin, x = t ∨ x = .fin := fun x hx => by
        rcases List.mem_cons.mp hx with h | h
        · exact .inl h
        · exact .inr (List.eq_of_mem_replicate h)
      refine hP (.say q lots (t :: List.replicate (m - 1) Tk.fin)) p4 _ _ _ _ _ hp4 ⟨hq12, by simp, by rw [List.length_cons, List.length_replicate]; omega, by omega, by omega, fun ws hws => ⟨(hlots ws hws).1, by rw [(hlots ws hws).2, List.length_cons, List.length_replicate]; omega⟩, fun x hx => ?_⟩ ?_ ?_
      · rcases hall x hx with rfl | rfl
        · exact t1
        · exact fin_ok _
      · rw [fitsT_say, hgs, hl, decide_eq_true rfl, Bool.true_and]
        refine List.all_eq_true.mpr fun x hx => ?_
        rcases hall x hx with rfl | rfl
        · exact t2
        · rfl
      · rw [endsT, endsTs]
        have := endsTs_le (ts := List.replicate (m - 1) Tk.fin) (b := 1) fun x hx => by rw [List.eq_of_mem_replicate hx]; exact Nat.le_refl _
        rw [List.length_replicate] at this
        omega
    generalize hk : sSeq (sAsg (tgN 6) _) _ = S at *
    by_cases hv : v3 = 0
    · subst hv
      have := step 2 (.inr rfl)
      simp! [if_true]
      refine this _ fun t p o3 o4 o5 o6 o7 h1 h2 h3 h4 => ?_
      exact ⟨t, p, _, _, _, _, _, rfl, h1, rfl, h2, h3, h4⟩
    · have := step 1 (.inl rfl)
      simp! [hv, Int.add_zero]
      refine this _ fun t p o3 o4 o5 o6 o7 h1 h2 h3 h4 => ?_
      exact ⟨t, p, _, _, _, _, _, rfl, h1, rfl, h2, h3, h4⟩
  · obtain ⟨t, p, o3, o4, o5, o6, o7, rfl, hp, rfl, t1, t2, t3⟩ := h
    rw [rngL_len] at t1 t3
    simp! [DL.is_ok]
    exact ⟨hp.below, h t p (t1.mono hN1) t2 (by omega) hp⟩
def zeros (r c : Nat) : List (List Int) := (List.range r).map fun _ => List.replicate c 0
theorem zeros_dim {r c : Nat} (r0 : 0 < r) (r8 : r ≤ 8) (c0 : 0 < c) (c8 : c ≤ 8) : Dim (zeros r c) r c :=
  ⟨by rw [zeros, List.length_map, List.length_range], fun x hx => by obtain ⟨_, _, rfl⟩ := List.mem_map.mp hx; rw [List.length_replicate], r0, r8, c0, c8⟩
theorem zeros_mk {r c : Nat} (r0 : 0 < r) (r8 : r ≤ 8) (c0 : 0 < c) (c8 : c ≤ 8) {M : Sto} : mkF tTable 2 (g_tableInit tTable) [.d (.lst ((List.range r).map fun _ => .lst (List.replicate c (.int 0))))] M = .ok (.d (tabD tTable (zeros r c))) M := by
  have d := zeros_dim r0 r8 c0 c8
  have e : ((List.range r).map fun _ => D.lst (List.replicate c (.int 0))) = (zeros r c).map fun r => .lst (r.map .int) := by
    rw [zeros, List.map_map]
    refine List.map_congr_left fun i _ => ?_
    show _ = D.lst ((List.replicate c 0).map .int)
    rw [List.map_replicate]
  rw [e]
  exact mkF_d (xs := [.lst ((zeros r c).map fun r => .lst (r.map .int))]) rfl (tableInit_is (.inl rfl) (.inl rfl) ⟨by rw [d.rows]; exact r0, by rw [d.rows]; exact r8, ⟨c, c0, c8, d.cols⟩, fun x hx y hy => by
    obtain ⟨_, _, rfl⟩ := List.mem_map.mp hx
    rw [List.eq_of_mem_replicate hy]
    decide⟩) tab_fz
theorem one_ok : WOk [1] := ⟨by decide, by decide, by decide⟩
theorem ones_eq (n : Nat) : List.replicate n (D.lst [.tup [.int 1, .int 1]]) = (List.replicate n [1]).map rowD := by
  rw [List.map_replicate]
  rfl
theorem say1_ok {p n k : Nat} {t : Tk} (hp : p = 1 ∨ p = 2) (h0 : 0 < n) (h9 : n ≤ 9) (ht : TkOk k t) : TkOk (k + 1) (.say p (List.replicate n [1]) [t]) :=
  ⟨hp, Nat.zero_lt_one, (by show 1 ≤ 8; decide), by rw [List.length_replicate]; exact h0, by rw [List.length_replicate]; exact h9, fun ws hws => by rw [List.eq_of_mem_replicate hws]; exact ⟨one_ok, rfl⟩, fun x hx => by rw [List.mem_singleton.mp hx]; exact ht⟩
theorem say1_l (p n : Nat) (t : Tk) : (Tk.say p (List.replicate n [1]) [t]).l = .tup [.str "say", .int (p : Int), .lst (List.replicate n (.lst [.tup [.int 1, .int 1]])), .lst [t.l]] := by
  rw [Tk.l_say, lotsD_eq, ones_eq]
  rfl
theorem max2 {i j : Int} : dMax2 (.int i) (.int j) = some (.int (if j > i then j else i)) := rfl
theorem same_bl {b : Bool} {M : Sto} : callR 0 2 (g_same tsOwn 40) [.d (.bl b), .d (.bl b)] M = .ok (.d (.bl true)) M := same_call (n := 0) (x := .bl b) trivial (by decide)
theorem same_int {b : Int} {M : Sto} : callR 0 2 (g_same tsOwn 40) [.d (.int b), .d (.int b)] M = .ok (.d (.bl true)) M := same_call (n := 0) (x := .int b) trivial (by decide)
theorem made_call {k : Nat} {t : Tk} (ht : TkOk k t) (hk : k < 80) {M : Sto} : callR 0 1 (m__law_made 80) [.d t.l] M = .ok (.d t.o) M := call0 (xs := [t.l]) rfl (made_is 80 k t ht hk)
theorem fits_call {R : List (List Int)} {r c k : Nat} (d : Dim R r c) {t : Tk} (ht : TkOk k t) (hk : k < 80) {M : Sto} : callR 0 2 (m_fits 80) [.d (tabD tTable R), .d t.o] M = .ok (.d (.bl (fitsT r c t))) M := call0 (xs := [tabD tTable R, t.o]) rfl (fits_is d 80 k t ht hk)
theorem lfits_call {r c k : Nat} {t : Tk} (ht : TkOk k t) (hk : k < 80) {M : Sto} : callR 0 2 (m__law_fits 80) [.d t.l, .d (szD r c)] M = .ok (.d (.bl (fitsT r c t))) M := call0 (xs := [t.l, szD r c]) rfl (lfits_is 80 k t ht hk)
theorem long_call {k : Nat} {t : Tk} (ht : TkOk k t) (hk : k < 80) {M : Sto} : callR 0 1 (m_longest 80) [.d t.o] M = .ok (.d (.int (longT t))) M := call0 (xs := [t.o]) rfl (long_is 80 k t ht hk)
theorem llong_call {k : Nat} {t : Tk} (ht : TkOk k t) (hk : k < 80) {M : Sto} : callR 0 1 (m__law_longest 80) [.d t.l] M = .ok (.d (.int (longT t))) M := call0 (xs := [t.l]) rfl (llong_is 80 k t ht hk)
theorem uneven_is {r c k : Nat} {t : Tk} (r0 : 0 < r) (r8 : r ≤ 8) (c0 : 0 < c) (c8 : c ≤ 8) (ht : TkOk k t) (hk : k < 60) {p : MO} {P : PV} (hp : PoolIs p) (h : ∀ p', PoolIs p' → P (.d (.bl true)) [p']) : (m__law_uneven [.m 0, .d (szD r c), .d t.l] [p]).Is P nox := by
  rw [m__law_uneven, y_fnD, b__law_uneven]
  simp! [e_draw]
  refine draw1 (s := 2) (by decide) (by decide) hp fun v p1 v0 v1 hp1 => ?_
  obtain ⟨q, hq⟩ := nat_of (by omega : 0 ≤ 1 + v)
  have hq12 : q = 1 ∨ q = 2 := by omega
  have hszz : (if q = 1 then r else c) ≤ 8 ∧ 0 < (if q = 1 then r else c) := by split <;> exact ⟨by omega, by omega⟩
  have hsz := fun {M : Sto} {P : PV} {E : PX} => sz_at hq12 r c (M := M) (P := P) (E := E)
  generalize hgs : (if q = 1 then r else c) = sz at *
  obtain ⟨sz8, sz0⟩ := hszz
  simp! [hq, hsz, e_draw]
  refine draw1 (s := 2) (by decide) (by decide) hp1 fun v2 p2 w0 w1 hp2 => ?_
  obtain ⟨x, hx, ex⟩ := at_map ([1, -1] : List Int) (fun i => Wv.d (.int i)) w0 w1
  have ex' : L2.atI [Wv.d (.int 1), .d (.int (-1))] v2 = some (.d (.int x)) := ex
  have hx' : x = 1 ∨ x = -1 := by simpa using hx
  obtain ⟨m, hm⟩ : ∃ m : Nat, (if (sz : Int) + x > 1 then (sz : Int) + x else 1) = (m : Int) := nat_of (by split <;> omega)
  have hm1 : 0 < m ∧ m ≤ 9 := by
    split at hm <;> omega
  have q3 : q ≤ 3 := by omega
  have hq' : (3 - q) = 1 ∨ (3 - q) = 2 := by omega
  have e3 : (3 : Int) - (q : Int) = ((3 - q : Nat) : Int) := by omega
  have e2 : (2 : Int) - (q : Int) = ((3 - q : Nat) : Int) - 1 := by omega
  have hszz2 : (if 3 - q = 1 then r else c) ≤ 8 ∧ 0 < (if 3 - q = 1 then r else c) := by split <;> exact ⟨by omega, by omega⟩
  have hsz2 := fun {M : Sto} {P : PV} {E : PX} => sz_at hq' r c (M := M) (P := P) (E := E)
  generalize hgs2 : (if 3 - q = 1 then r else c) = sz2 at *
  have at0 : ∀ {P : PV} {E : PX} {M : Sto}, (ixw (.d (szD r c)) (.d (.int 0)) M).Is P E = P (.d (.int (r : Int))) M := fun {P E M} => by rw [szD, y_ixT]; rfl
  have at1 : ∀ {P : PV} {E : PX} {M : Sto}, (ixw (.d (szD r c)) (.d (.int 1)) M).Is P E = P (.d (.int (c : Int))) M := fun {P E M} => by rw [szD, y_ixT]; rfl
  have rl : r ≤ sizeLine := Nat.le_trans r8 (by decide)
  have hr0 := fun {P : PV} {E : PX} {M : Sto} => rep1 (x := .int 0) (n := c) (by omega) (P := P) (E := E) (M := M)
  simp! [ex', neg_int, max2, hm, at0, rng0_is rl]
  refine kcR r (fun _ => .lst (List.replicate c (.int 0))) rl (fun i hi => ?_) ?_
  · simp! [y_tgN, at1, hr0]
  have hr1 := fun {P : PV} {E : PX} {M : Sto} => rep1 (x := .lst [.tup [.int 1, .int 1]]) (n := m) (by omega) (P := P) (E := E) (M := M)
  have hr2 := fun {P : PV} {E : PX} {M : Sto} => rep1 (x := .lst [.tup [.int 1, .int 1]]) (n := sz) (by omega) (P := P) (E := E) (M := M)
  have hr3 := fun {P : PV} {E : PX} {M : Sto} => rep1 (x := .lst [.tup [.int 1, .int 1]]) (n := sz2) (by omega) (P := P) (E := E) (M := M)
  simp! [e_table, zeros_mk r0 r8 c0 c8, hr1, hr2, hr3, e3, e2, hsz2]
  have s1 : TkOk 1 (.say q (List.replicate m [1]) [.fin]) := say1_ok hq12 hm1.1 hm1.2 (fin_ok 0)
  have s2 : TkOk (k + 1) (.say q (List.replicate m [1]) [t]) := say1_ok hq12 hm1.1 hm1.2 ht
  have s3 : TkOk 3 (.say q (List.replicate sz [1]) [.say (3 - q) (List.replicate sz2 [1]) [.say q (List.replicate m [1]) [.fin]]]) := say1_ok hq12 sz0 (by omega) (say1_ok hq' hszz2.2 (by omega) s1)
  have l1 := say1_l q m .fin
  have l2 := say1_l q m t
  have l3 := say1_l q sz (.say (3 - q) (List.replicate sz2 [1]) [.say q (List.replicate m [1]) [.fin]])
  rw [say1_l (3 - q), l1] at l3
  rw [Tk.l_fin] at l3
  rw [← l3, ← l2]
  have hl : ∃ ts : List Tk, ts = [.say q (List.replicate m [1]) [t], .say q (List.replicate sz [1]) [.say (3 - q) (List.replicate sz2 [1]) [.say q (List.replicate m [1]) [.fin]]], t, .say q (List.replicate sz [1]) [.say (3 - q) (List.replicate sz2 [1]) [.say q (List.replicate m [1]) [.fin]]]] ∧ ∀ x ∈ ts, ∃ j, TkOk j x ∧ j < 80 := ⟨_, rfl, fun x hx => by
    simp only [List.mem_cons, List.not_mem_nil, or_false] at hx
    rcases hx with rfl | rfl | rfl | rfl
    · exact ⟨_, s2, by omega⟩
    · exact ⟨_, s3, by omega⟩
    · exact ⟨_, ht, by omega⟩
    · exact ⟨_, s3, by omega⟩⟩
  obtain ⟨ts, hts, hts2⟩ := hl
  have hsrc : [Wv.d (Tk.say q (List.replicate m [1]) [t]).l, .d (Tk.say q (List.replicate sz [1]) [.say (3 - q) (List.replicate sz2 [1]) [.say q (List.replicate m [1]) [.fin]]]).l, .d t.l, .d (Tk.say q (List.replicate sz [1]) [.say (3 - q) (List.replicate sz2 [1]) [.say q (List.replicate m [1]) [.fin]]]).l] = (ts.map Tk.l).map .d := by rw [hts]; rfl
  rw [hsrc]
  generalize (Tk.say q (List.replicate sz [1]) [.say (3 - q) (List.replicate sz2 [1]) [.say q (List.replicate m [1]) [.fin]]]).l = D1
  generalize (Tk.say q (List.replicate m [1]) [t]).l = D2
  refine for_is (fun i env M => M = [p2] ∧ ∃ o7 o8 o9 o10 o11, env = [some (.m 0), some (.d (szD r c)), some (.d t.l), some (.d (.int (q : Int))), some (.d (.int (sz : Int))), some (.d (.int (m : Int))), some (.d (tabD tTable (zeros r c))), o7, o8, o9, o10, o11]) (fun i w env M hw hI => ?_) (fun env M hI => ?_) _ _ _ _ (by rw [List.length_map, List.length_map, hts]; rfl) ⟨rfl, _, _, _, _, _, rfl⟩
  · obtain ⟨rfl, o7, o8, o9, o10, o11, rfl⟩ := hI
    rw [List.map_map, List.getElem?_map] at hw
    obtain ⟨x, hx, rfl⟩ := Option.map_eq_some_iff.mp hw
    obtain ⟨j, j1, j2⟩ := hts2 x (List.mem_of_getElem? hx)
    show (tgN 10 (.d x.l) _ _).Is _ _
    simp! [y_tgN, made_call j1 j2, fits_call (zeros_dim r0 r8 c0 c8) j1 j2, lfits_call j1 j2, e_same, same_bl]
    exact ⟨_, _, _, _, _, rfl⟩
  · obtain ⟨rfl, o7, o8, o9, o10, o11, rfl⟩ := hI
    simp! [DL.is_ok]
    exact ⟨hp2.below, h p2 hp2⟩
/-! ### the law -/
theorem chances_is {R C r c k : Nat} (hr : r < R) (hc : c < C) {t : Tk} (ht : TkOk k t) (hk : k < 80) (hf : fitsT R C t = true) (hk2 : k ≤ 60) (he : endsT t ≤ 1000000) {M : Sto} (hM : ∀ mo ∈ M, Dat mo) {P : PV} {E : PX} (h : P (.m M.length) (M ++ [.lst (((chT r c [] (1, 1) t).map encO).map .d)])) :
    (callA 3 m_chances [.d t.o, .d (.int (r : Int)), .d (.int (c : Int))] M).Is P E := by
  rw [y_callA (m := 3) (ws := [.d t.o, .d (.int (r : Int)), .d (.int (c : Int))]) rfl, m_chances, y_fnM, b_chances]
  have hs := spread_is (R := R) (C := C) hr hc 80 k t 1 [] (1, 1) (M ++ [.lst []]) M.length [] ht hk hf ⟨by decide, by decide, by decide⟩ (by omega) (by simp; omega) (by simpa using he) (dats_add hM ⟨[], rfl⟩) (by rw [List.getElem?_append_right (Nat.le_refl _), Nat.sub_self]; rfl)
  rw [List.nil_append] at hs
  have e : (M ++ [MO.lst []]).set M.length (.lst (((chT r c [] (1, 1) t).map encO).map .d)) = M ++ [.lst (((chT r c [] (1, 1) t).map encO).map .d)] := by
    rw [List.set_append_right _ _ (Nat.le_refl _), Nat.sub_self]
    rfl
  rw [e] at hs
  have hn : D.tup [] = natD [] := rfl
  simp! [kCall_ds, e_rinit, mk_rat1, ratio1, y_callA, hn, hs]
  exact h
theorem plain_frP (q : Fr) : plain 1 (frP q) := ⟨by show 2 ≤ sizeLine; decide, fun x hx => by
  rcases List.mem_cons.mp hx with rfl | hx
  · exact trivial
  · rcases List.mem_cons.mp hx with rfl | hx
    · exact trivial
    · cases hx⟩
theorem plain_natD {way : List Nat} (h : way.length ≤ 10000) : plain 1 (natD way) := ⟨by rw [List.length_map]; exact Nat.le_trans h (by decide), fun x hx => by
  obtain ⟨i, _, rfl⟩ := List.mem_map.mp hx
  exact trivial⟩
theorem plain_up {n : Nat} : ∀ {x : D}, plain n x → plain (n + 1) x := by
  induction n with
  | zero =>
    intro x h
    cases x <;> first | exact trivial | exact h | exact h.elim
  | succ n ih =>
    intro x h
    cases x with
    | tup l => exact ⟨h.1, fun y hy => ih (h.2 y hy)⟩
    | lst l => exact ⟨h.1, fun y hy => ih (h.2 y hy)⟩
    | non => exact trivial
    | bl _ => exact trivial
    | int _ => exact trivial
    | str _ => exact h
    | dic _ _ => exact h.elim
    | obj _ _ _ => exact h.elim
    | scr _ => exact h.elim
mutual
theorem chT_way (r c : Nat) : ∀ (k : Nat) (way : List Nat) (q : Fr) (t : Tk), TkOk k t → ∀ x ∈ chT r c way q t, x.1.length ≤ way.length + k
  | k, way, q, .fin, _, x, hx => by
    rw [chT, List.mem_singleton] at hx
    subst hx
    exact Nat.le_add_right _ _
  | 0, way, q, .say p lots parts, h, _, _ => h.elim
  | k + 1, way, q, .say p lots parts, h, x, hx => by
    rw [chT] at hx
    have := chTs_way r c k way q _ 0 parts h.2.2.2.2.2.2 x hx
    omega
theorem chTs_way (r c : Nat) : ∀ (k : Nat) (way : List Nat) (q : Fr) (row : List Fr) (i : Nat) (ts : List Tk), (∀ t ∈ ts, TkOk k t) → ∀ x ∈ chTs r c way q row i ts, x.1.length ≤ way.length + 1 + k
  | _, _, _, _, _, [], _, x, hx => by rw [chTs] at hx; cases hx
  | k, way, q, row, i, t :: ts, h, x, hx => by
    rw [chTs, List.mem_append] at hx
    rcases hx with hx | hx
    · have := chT_way r c k _ _ t (h t (List.mem_cons_self ..)) x hx
      rw [List.length_append, List.length_singleton] at this
      exact this
    · exact chTs_way r c k way q row (i + 1) ts (fun u hu => h u (List.mem_cons_of_mem _ hu)) x hx
end
theorem plain_ch {r c k : Nat} {t : Tk} (ht : TkOk k t) (hk : k ≤ 60) (he : endsT t ≤ 1000000) : plain 3 (.lst ((chT r c [] (1, 1) t).map encL)) := ⟨by rw [List.length_map, chT_len]; exact Nat.le_trans he (by decide), fun y hy => by
  obtain ⟨x, hx, rfl⟩ := List.mem_map.mp hy
  have := chT_way r c k [] (1, 1) t ht x hx
  refine ⟨by show 2 ≤ sizeLine; decide, fun z hz => ?_⟩
  rcases List.mem_cons.mp hz with rfl | hz
  · exact plain_natD (by rw [List.length_nil] at this; omega)
  · rcases List.mem_cons.mp hz with rfl | hz
    · exact plain_frP _
    · cases hz⟩
theorem lch_call {R C r c k : Nat} (hr : r < R) (hc : c < C) {t : Tk} (ht : TkOk k t) (hk : k ≤ 60) (hf : fitsT R C t = true) (he : endsT t ≤ 1000000) {M : Sto} : callR 0 4 (m__law_chances 80) [.d t.l, .d (.tup [.int (r : Int), .int (c : Int)]), .d (.tup []), .d (.tup [.int 1, .int 1])] M = .ok (.d (.lst ((chT r c [] (1, 1) t).map encL))) M :=
  call0 (xs := [t.l, .tup [.int (r : Int), .int (c : Int)], .tup [], .tup [.int 1, .int 1]]) rfl (lch_is hr hc 80 k t 1 [] (1, 1) ht (by omega) hf ⟨by decide, by decide, by decide⟩ (by omega) (by simp; omega) he)
theorem szD_0 {r c : Nat} {M : Sto} {P : PV} {E : PX} : (ixw (.d (szD r c)) (.d (.int 0)) M).Is P E = P (.d (.int (r : Int))) M := by rw [szD, y_ixT]; rfl
theorem szD_1 {r c : Nat} {M : Sto} {P : PV} {E : PX} : (ixw (.d (szD r c)) (.d (.int 1)) M).Is P E = P (.d (.int (c : Int))) M := by rw [szD, y_ixT]; rfl
theorem pool_below {p : MO} (h : PoolIs p) : p.below 1 = true := h.below
theorem live_m {k : Nat} {M : Sto} {ws : List Wv} {P : Src → Sto → Prop} {E : PX} (h : M[k]? = some (.lst ws)) : kSq P E (.m k) M = P (.live k) M := kSq_m h
theorem isi_m {k : Nat} {M : Sto} {ws : List Wv} {ts : List Nat} {P : PV} {E : PX} (h : M[k]? = some (.lst ws)) : (isiw (isTb kLst ts) (.m k) M).Is P E = P (.d (.bl true)) M := by
  unfold isiw kdw
  have : nw M (.m k) = .m k := by unfold nw; simp only [h]
  simp only [this, h]
  rfl
theorem end_get {p x : MO} {junk : Sto} : (p :: (junk ++ [x]))[junk.length + 1]? = some x := by
  rw [List.getElem?_cons_succ, List.getElem?_append_right (Nat.le_refl _), Nat.sub_self]
  rfl
theorem end_set {x y : MO} {junk : Sto} : (junk ++ [x]).set junk.length y = junk ++ [y] := by
  rw [List.set_append_right _ _ (Nat.le_refl _), Nat.sub_self]
  rfl
theorem end_lst {p : MO} {ws : List Wv} {junk : Sto} : lstAt (.m (junk.length + 1)) (p :: (junk ++ [.lst ws])) = some (junk.length + 1, ws) := by
  unfold lstAt
  simp only [end_get]
theorem say_i0 {q : Nat} {lots : List (List Nat)} {parts : List Tk} {M : Sto} {P : PV} {E : PX} : (ixw (.d (Tk.say q lots parts).l) (.d (.int 0)) M).Is P E = P (.d (.str "say")) M := by rw [Tk.l_say, y_ixT]; rfl
theorem say_i1 {q : Nat} {lots : List (List Nat)} {parts : List Tk} {M : Sto} {P : PV} {E : PX} : (ixw (.d (Tk.say q lots parts).l) (.d (.int 1)) M).Is P E = P (.d (.int (q : Int))) M := by rw [Tk.l_say, y_ixT]; rfl
theorem say_i2 {q : Nat} {lots : List (List Nat)} {parts : List Tk} {M : Sto} {P : PV} {E : PX} : (ixw (.d (Tk.say q lots parts).l) (.d (.int 2)) M).Is P E = P (.d (.lst (lots.map rowD))) M := by rw [Tk.l_say, y_ixT]; rfl
theorem say_i3 {q : Nat} {lots : List (List Nat)} {parts : List Tk} {M : Sto} {P : PV} {E : PX} : (ixw (.d (Tk.say q lots parts).l) (.d (.int 3)) M).Is P E = P (.d (.lst (parts.map Tk.l))) M := by rw [Tk.l_say, y_ixT]; rfl
theorem say_sl3 {q : Nat} {lots : List (List Nat)} {parts : List Tk} {M : Sto} {P : PV} {E : PX} : (slw true (.d (Tk.say q lots parts).l) none (some 3) M).Is P E = P (.d (.tup [.str "say", .int (q : Int), .lst (lots.map rowD)])) M := by rw [Tk.l_say, y_slT]; rfl
theorem fin_i0 {M : Sto} {P : PV} {E : PX} : (ixw (.d Tk.fin.l) (.d (.int 0)) M).Is P E = P (.d (.str "end")) M := by rw [Tk.l_fin, y_ixT]; rfl
theorem neES : (("end" : Str) = "say") = False := eq_false (by decide +kernel)
theorem chain_call {r c : Nat} (r0 : 0 < r) (r8 : r ≤ 8) (c0 : 0 < c) (c8 : c ≤ 8) {p : MO} {rest : Sto} {P : PV} {E : PX} (hp : PoolIs p) (h : ∀ t p', TkOk 60 t → fitsT r c t = true → endsT t ≤ 61 → PoolIs p' → P (.d t.l) (p' :: rest)) : (callR 1 2 m__law_chain [.m 0, .d (szD r c)] (p :: rest)).Is P E :=
  Rs.Is.any <| call1 (xs := [szD r c]) rfl hp.below (chain_is r0 r8 c0 c8 hp fun t p' h1 h2 h3 h4 => ⟨_, p', rfl, rfl, h4.below, h t p' h1 h2 h3 h4⟩) fun _ _ z => z
theorem uneven_call {r c k : Nat} {t : Tk} (r0 : 0 < r) (r8 : r ≤ 8) (c0 : 0 < c) (c8 : c ≤ 8) (ht : TkOk k t) (hk : k < 60) {p : MO} {rest : Sto} {P : PV} {E : PX} (hp : PoolIs p) (h : ∀ p', PoolIs p' → P (.d (.bl true)) (p' :: rest)) : (callR 1 3 m__law_uneven [.m 0, .d (szD r c), .d t.l] (p :: rest)).Is P E :=
  Rs.Is.any <| call1 (xs := [szD r c, t.l]) rfl hp.below (uneven_is r0 r8 c0 c8 ht hk hp fun p' h4 => ⟨_, p', rfl, rfl, h4.below, h p' h4⟩) fun _ _ z => z
def BRANCH : SD := (sSeq (sAsg (tgN 8) (eTup (aCons (eC (.str "say")) (aCons (e2 ixw (eVar 3) (eC (.int 1))) (aCons (e2 (pu2 dAdd) (e2 ixw (eVar 3) (eC (.int 2))) (eSl true (e2 ixw (eVar 3) (eC (.int 2))) oNone (oSome (eC (.int 1))))) (aCons (e2 (repw true) (eLst (aCons (eTup (aCons (eC (.str "end")) aNil)) aNil)) (eL (f1 lenw) (aCons (e2 ixw (eVar 3) (eC (.int 3))) aNil))) aNil))))))
    (sSeq (sAsg (tgN 9) (eCall (callR 1 2 m__law_draw) [] (aCons (eVar 1) (aCons (eL (f1 lenw) (aCons (e2 ixw (eVar 3) (eC (.int 3))) aNil)) aNil))))
    (sSeq (sAsg (tgN 10) (e2 (pu2 dAdd) (eSl true (eVar 3) oNone (oSome (eC (.int 3)))) (eTup (aCons (e2 (pu2 dAdd) (e2 (pu2 dAdd) (eSl true (e2 ixw (eVar 3) (eC (.int 3))) oNone (oSome (eVar 9))) (eLst (aCons (eVar 8) aNil))) (eSl true (e2 ixw (eVar 3) (eC (.int 3))) (oSome (e2 (pu2 dAdd) (eVar 9) (eC (.int 1)))) oNone)) aNil))))
    (sIf (tNt (tTru (eCall (callR 0 2 (m__law_same 40)) [] (aCons (eCall (callR 0 2 (m_fits 80)) [] (aCons (eCall (mkF tTable 2 m_TableU_initU) [] (aCons (eLc finF (iR1 (aCons (e2 ixw (eVar 2) (eC (.int 0))) aNil)) (tgN 5) tYesD (e2 (repw true) (eLst (aCons (eC (.int 0)) aNil)) (e2 ixw (eVar 2) (eC (.int 1)))) [5]) aNil)) (aCons (eCall (callR 0 1 (m__law_made 80)) [] (aCons (eVar 10) aNil)) aNil))) (aCons (eC (.bl false)) aNil))))) (sRet (eC (.bl false))) sNext))))
/-- the branch with an uneven talk within -/
theorem branch_is {r c k q : Nat} {lots : List (List Nat)} {parts : List Tk} {p : MO} {sc : D} {P : PO} (r0 : 0 < r) (r8 : r ≤ 8) (c0 : 0 < c) (c8 : c ≤ 8) (ht : TkOk k (.say q lots parts)) (hk : k < 60) (hf : fitsT r c (.say q lots parts) = true) (hp : PoolIs p)
    (h : ∀ (p : MO) (o5 o8 o9 o10 : Option Wv), PoolIs p → P (.nx [some (.d sc), some (.m 0), some (.d (szD r c)), some (.d (Tk.say q lots parts).l), none, o5, none, none, o8, o9, o10, none, none, none, none, none, none, none]) [p]) :
    (BRANCH [some (.d sc), some (.m 0), some (.d (szD r c)), some (.d (Tk.say q lots parts).l), none, none, none, none, none, none, none, none, none, none, none, none, none, none] [p]).Is P nox := by
  obtain ⟨k, rfl⟩ : ∃ j, k = j + 1 := by
    cases k with
    | zero => exact ht.elim
    | succ k => exact ⟨k, rfl⟩
  obtain ⟨hq, a1, a2, a3, a4, hw, hqs⟩ := ht
  rw [fitsT_say, Bool.and_eq_true, decide_eq_true_eq] at hf
  have hszz : (if q = 1 then r else c) ≤ 8 := by split <;> omega
  have hc1 : cutL (lots.map rowD) none (some 1) = (lots.take 1).map rowD := by
    rw [cutL_map]
    exact congrArg _ (cut_to (i := 1) a3)
  have hadd1 : dAdd (.lst (lots.map rowD)) (.lst ((lots.take 1).map rowD)) = some (.lst ((lots ++ lots.take 1).map rowD)) := by
    rw [add_lst (by rw [List.length_map, List.length_map, List.length_take]; exact Nat.le_trans (by omega : _ ≤ 20) (by decide)), List.map_append]
  have hr1 := fun {P : PV} {E : PX} {M : Sto} => rep1 (x := .tup [.str "end"]) (n := parts.length) (by omega) (P := P) (E := E) (M := M)
  have pl0 : (0 : Int) < (parts.length : Int) := by omega
  unfold BRANCH
  simp! [say_i1, say_i2, say_i3, hc1, hadd1, hr1, e_draw]
  refine draw1 pl0 (by omega) hp fun v p1 v0 v1 hp1 => ?_
  obtain ⟨pl, hpl⟩ := nat_of v0
  have pll : pl < parts.length := by omega
  have ein : (Tk.say q (lots ++ lots.take 1) (List.replicate parts.length .fin)).l = .tup [.str "say", .int (q : Int), .lst ((lots ++ lots.take 1).map rowD), .lst (List.replicate parts.length (.tup [.str "end"]))] := by
    rw [Tk.l_say, lotsD_eq, List.map_replicate]
    rfl
  have hin : TkOk (k + 1) (Tk.say q (lots ++ lots.take 1) (List.replicate parts.length .fin)) := ⟨hq, by rw [List.length_replicate]; exact a1, by rw [List.length_replicate]; exact a2, by rw [List.length_append]; omega, by rw [List.length_append, List.length_take]; omega, fun ws hws => by
    rw [List.length_replicate]
    rcases List.mem_append.mp hws with h | h
    · exact hw ws h
    · exact hw ws (List.mem_of_mem_take h), fun t ht => by rw [List.eq_of_mem_replicate ht]; exact fin_ok _⟩
  have hinf : fitsT r c (Tk.say q (lots ++ lots.take 1) (List.replicate parts.length .fin)) = false := by
    rw [fitsT_say, ← hf.1, decide_eq_false, Bool.false_and]
    rw [List.length_append, List.length_take]
    omega
  generalize Tk.say q (lots ++ lots.take 1) (List.replicate parts.length .fin) = inn at *
  have hc2 : cutL (parts.map Tk.l) none (some (pl : Int)) = (parts.take pl).map Tk.l := by
    rw [cutL_map, cut_to (Nat.le_of_lt pll)]
  have hc3 : cutL (parts.map Tk.l) (some ((pl : Int) + 1)) none = (parts.drop (pl + 1)).map Tk.l := by
    rw [cutL_map]
    exact congrArg _ (cut_from (i := pl + 1) pll)
  have hadd2 : dAdd (.lst ((parts.take pl).map Tk.l)) (.lst [inn.l]) = some (.lst ((parts.take pl ++ [inn]).map Tk.l)) := by
    rw [add_lst (by rw [List.length_map, List.length_take, List.length_singleton]; exact Nat.le_trans (by omega : _ ≤ 20) (by decide)), List.map_append]
    rfl
  have hadd3 : dAdd (.lst ((parts.take pl ++ [inn]).map Tk.l)) (.lst ((parts.drop (pl + 1)).map Tk.l)) = some (.lst ((parts.take pl ++ [inn] ++ parts.drop (pl + 1)).map Tk.l)) := by
    rw [add_lst (by rw [List.length_map, List.length_map, List.length_append, List.length_take, List.length_singleton, List.length_drop]; exact Nat.le_trans (by omega : _ ≤ 20) (by decide)), List.map_append (l₁ := parts.take pl ++ [inn])]
  have hadd4 : dAdd (.tup [.str "say", .int (q : Int), .lst (lots.map rowD)]) (.tup [.lst ((parts.take pl ++ [inn] ++ parts.drop (pl + 1)).map Tk.l)]) = some (Tk.say q lots (parts.take pl ++ [inn] ++ parts.drop (pl + 1))).l := by
    rw [add_tup (by show 3 + 1 ≤ sizeLine; decide), Tk.l_say]
    rfl
  have rl : r ≤ sizeLine := Nat.le_trans r8 (by decide)
  have hr0 := fun {P : PV} {E : PX} {M : Sto} => rep1 (x := .int 0) (n := c) (by omega) (P := P) (E := E) (M := M)
  have hlen : (parts.take pl ++ [inn] ++ parts.drop (pl + 1)).length = parts.length := by
    rw [List.length_append, List.length_append, List.length_take, List.length_drop, List.length_singleton]
    omega
  have hU : TkOk (k + 2) (Tk.say q lots (parts.take pl ++ [inn] ++ parts.drop (pl + 1))) := ⟨hq, by rw [hlen]; exact a1, by rw [hlen]; exact a2, a3, a4, fun ws hws => by rw [hlen]; exact hw ws hws, fun t ht => by
    rcases List.mem_append.mp ht with h1 | h1
    · rcases List.mem_append.mp h1 with h2 | h2
      · exact (hqs t (List.mem_of_mem_take h2)).mono (by omega)
      · rw [List.mem_singleton.mp h2]; exact hin
    · exact (hqs t (List.mem_of_mem_drop h1)).mono (by omega)⟩
  have hUf : fitsT r c (Tk.say q lots (parts.take pl ++ [inn] ++ parts.drop (pl + 1))) = false := by
    rw [fitsT_say, Bool.and_eq_false_iff]
    refine .inr (List.all_eq_false.mpr ⟨inn, ?_, by rw [hinf]; decide⟩)
    rw [List.append_assoc]
    exact List.mem_append_right _ (List.mem_cons_self ..)
  generalize Tk.say q lots (parts.take pl ++ [inn] ++ parts.drop (pl + 1)) = U at *
  simp! [hpl, ← ein, say_i3, hc2, hc3, hadd2, hadd3, say_sl3, hadd4, szD_0, rng0_is rl]
  refine kcR r (fun _ => .lst (List.replicate c (.int 0))) rl (fun i hi => ?_) ?_
  · simp! [y_tgN, szD_1, hr0]
  simp! [e_table, zeros_mk r0 r8 c0 c8, made_call hU (by omega), fits_call (zeros_dim r0 r8 c0 c8) hU (by omega), hUf, e_same, same_bl]
  exact h _ _ _ _ _ hp1
theorem i_own' {q : Fr} {M : Sto} {P : PV} {E : PX} : (isiw (isOw tRatio []) (.d (frR tRatio q)) M).Is P E = P (.d (.bl true)) M := rfl
theorem cons_app {p x : MO} {junk : Sto} : (p :: junk) ++ [x] = p :: (junk ++ [x]) := rfl
theorem law_math : ∀ ns : List Int, ns.length ≤ 63 → ∃ M, m_law [.d (.scr (ns.map .int))] [] = .ok (.d (.bl true)) M := by
  intro ns _
  have key : (m_law [.d (.scr (ns.map .int))] []).Is (fun w _ => w = .d (.bl true)) nox := by
    rw [m_law, y_fnD, b_law]
    simp! [e_pool]
    refine poolA_is fun p hp => ?_
    generalize D.scr (ns.map .int) = sc
    simp! [e_draw]
    refine draw1 (s := 5) (by decide) (by decide) hp fun v p1 v0 v1 hp1 => ?_
    obtain ⟨r, hr⟩ := nat_of (by omega : 0 ≤ 1 + v)
    simp! [hr, e_draw]
    refine draw1 (s := 5) (by decide) (by decide) hp1 fun v2 p2 w0 w1 hp2 => ?_
    obtain ⟨c, hc⟩ := nat_of (by omega : 0 ≤ 1 + v2)
    have r0 : 0 < r := by omega
    have r8 : r ≤ 8 := by omega
    have c0 : 0 < c := by omega
    have c8 : c ≤ 8 := by omega
    have hfold : D.tup [.int (r : Int), .int (c : Int)] = szD r c := rfl
    simp! [hc, hfold, e_draw]
    refine draw1 (s := 5) (by decide) (by decide) hp2 fun v3 p3 w2 w3 hp3 => ?_
    obtain ⟨k, hk⟩ := nat_of w2
    have k4 : k ≤ 4 := by omega
    have k3 : 3 ^ k ≤ 81 := Nat.le_trans (Nat.pow_le_pow_right (by decide) k4) (by decide)
    simp! [hk]
    refine talk_call r0 r8 c0 c8 (by omega) hp3 fun t p4 t1 t2 t3 hp4 => ?_
    simp! [DL.is_ok]
    refine uneven_call r0 r8 c0 c8 t1 (by omega) hp4 fun p5 hp5 => ?_
    simp! [DL.is_ok]
    generalize hR : kSeq _ _ _ = R
    have rest : ∀ (p : MO) (o5 o8 o9 o10 : Option Wv), PoolIs p → R (.nx [some (.d sc), some (.m 0), some (.d (szD r c)), some (.d t.l), none, o5, none, none, o8, o9, o10, none, none, none, none, none, none, none]) [p] := by
      intro p o5 o8 o9 o10 hp
      rw [← hR]
      have rl : r ≤ sizeLine := Nat.le_trans r8 (by decide)
      have cl : c ≤ sizeLine := Nat.le_trans c8 (by decide)
      have hsz : (chT r c [] (1, 1) t).length ≤ sizeLine := by rw [chT_len]; exact Nat.le_trans t3 (Nat.le_trans k3 (by decide))
      have hends : endsT t ≤ 1000000 := by omega
      simp! [made_call t1 (by omega : k < 80), szD_0, rng0_is rl]
      refine for_is (fun i env M => ∃ (p : MO) (junk : Sto) (o5 o8 o9 o10 o11 o14 o15 o16 o17 : Option Wv), M = p :: junk ∧ PoolIs p ∧ (∀ mo ∈ junk, Dat mo) ∧ env = [some (.d sc), some (.m 0), some (.d (szD r c)), some (.d t.l), some (.d t.o), o5, none, none, o8, o9, o10, o11, none, none, o14, o15, o16, o17]) (fun i w env M hw h => ?_) (fun env M h => ?_) _ _ _ _ (Nat.zero_add _) ⟨p, [], _, _, _, _, _, _, _, _, _, rfl, hp, (fun _ h => nomatch h), rfl⟩
      · obtain ⟨p, junk, o5, o8, o9, o10, o11, o14, o15, o16, o17, rfl, hp, hj, rfl⟩ := h
        have hi : i < r := by
          have := (List.getElem?_eq_some_iff.mp hw).1
          rw [rngL_len] at this
          exact this
        rw [rngL_get hi, Int.zero_add] at hw
        cases hw
        simp! [y_tgN, szD_1, rng0_is cl]
        refine for_is (fun j env M => ∃ (p : MO) (junk : Sto) (o8 o9 o10 o11 o14 o15 o16 o17 : Option Wv), M = p :: junk ∧ PoolIs p ∧ (∀ mo ∈ junk, Dat mo) ∧ env = [some (.d sc), some (.m 0), some (.d (szD r c)), some (.d t.l), some (.d t.o), some (.d (.int (i : Int))), none, none, o8, o9, o10, o11, none, none, o14, o15, o16, o17]) (fun j w env M hw h => ?_) (fun env M h => ?_) _ _ _ _ (Nat.zero_add _) ⟨p, junk, _, _, _, _, _, _, _, _, rfl, hp, hj, rfl⟩
        · obtain ⟨p, junk, o8, o9, o10, o11, o14, o15, o16, o17, rfl, hp, hj, rfl⟩ := h
          have hjc : j < c := by
            have := (List.getElem?_eq_some_iff.mp hw).1
            rw [rngL_len] at this
            exact this
          rw [rngL_get hjc, Int.zero_add] at hw
          cases hw
          have hd : ∀ mo ∈ p :: junk, Dat mo := fun mo hm => by
            rcases List.mem_cons.mp hm with rfl | hm
            · exact hp.dat
            · exact hj mo hm
          simp! [y_tgN]
          refine chances_is hi hjc t1 (by omega) t2 (by omega) hends hd ?_
          rw [List.length_cons, cons_app]
          have hl1 : (((chT i j [] (1, 1) t).map encO).map Wv.d ++ [Wv.d (.int 7)]).length ≤ sizeLine := by
            rw [List.length_append, List.length_map, List.length_map, chT_len]
            exact Nat.le_trans (Nat.add_le_add_right hends 1) (by decide)
          simp! [end_lst, Option.isSome_some, hl1, end_set]
          have hd2 : ∀ mo ∈ p :: (junk ++ [.lst (((chT i j [] (1, 1) t).map encO).map Wv.d ++ [Wv.d (.int 7)])]), Dat mo := dats_add hd ⟨(chT i j [] (1, 1) t).map encO ++ [.int 7], by rw [List.map_append]; rfl⟩
          have hj2 : ∀ mo ∈ junk ++ [.lst (((chT i j [] (1, 1) t).map encO).map Wv.d ++ [Wv.d (.int 7)])], Dat mo := fun mo hm => hd2 mo (List.mem_cons_of_mem _ hm)
          generalize junk ++ [MO.lst (((chT i j [] (1, 1) t).map encO).map Wv.d ++ [Wv.d (.int 7)])] = junk2 at *
          refine chances_is hi hjc t1 (by omega) t2 (by omega) hends hd2 ?_
          rw [List.length_cons, cons_app]
          have hsz' : (chT i j [] (1, 1) t).length ≤ sizeLine := by rw [chT_len]; exact Nat.le_trans hends (by decide)
          simp! [isi_m end_get, live_m end_get]
          refine kcM (chT i j [] (1, 1) t) encO (fun _ => .bl true) _ hsz' end_get (fun x _ => ?_) ?_
          · simp! [y_tgN, encO, yi_tup, i_own']
          simp! [in_bls, live_m end_get]
          have hno : ((chT i j [] (1, 1) t).any fun a => true == false) = false := by
            rw [List.any_eq_false]
            intro _ _
            decide
          simp! [hno, live_m end_get]
          refine kcM (chT i j [] (1, 1) t) encO encL _ hsz' end_get (fun x _ => ?_) ?_
          · simp! [encO, encL, f_num, f_den, frP]
          simp! [lch_call hi hjc t1 (by omega) t2 hends, ne_of_eq (plain_eq (plain_ch (r := i) (c := j) t1 (by omega) hends) (by decide))]
          exact ⟨_, _, _, _, _, _, _, _, _, _, rfl, hp, fun mo hm => dats_add hj2 ⟨_, rfl⟩ mo hm, rfl⟩
        · obtain ⟨p, junk, o8, o9, o10, o11, o14, o15, o16, o17, rfl, hp, hj, rfl⟩ := h
          simp! [DL.is_ok]
          exact ⟨_, _, _, _, _, _, _, _, _, _, _, rfl, hp, hj, rfl⟩
      · obtain ⟨p, junk, o5, o8, o9, o10, o11, o14, o15, o16, o17, rfl, hp, hj, rfl⟩ := h
        simp! [neg_int]
        generalize hL : [Wv.d (D.tup [D.int 0, D.int 0]), _, _, _, _] = L
        have hLl : L.length = 5 := by rw [← hL]; rfl
        have hLm : ∀ w ∈ L, ∃ a b : Int, w = .d (.tup [.int a, .int b]) ∧ -1 ≤ a ∧ a ≤ 1 ∧ -1 ≤ b ∧ b ≤ 1 := fun w hw => by
          rw [← hL] at hw
          simp only [List.mem_cons, List.not_mem_nil, or_false] at hw
          rcases hw with rfl | rfl | rfl | rfl | rfl <;> exact ⟨_, _, rfl, by decide, by decide, by decide, by decide⟩
        refine for_is (fun i env M => M = p :: junk ∧ ∃ o5 o6 o8 o9 o10 o11 o12 o13 o14 o15 o16 o17, env = [some (.d sc), some (.m 0), some (.d (szD r c)), some (.d t.l), some (.d t.o), o5, o6, none, o8, o9, o10, o11, o12, o13, o14, o15, o16, o17]) (fun i w env M hw h => ?_) (fun env M h => ?_) _ _ _ _ (by rw [hLl]) ⟨rfl, _, _, _, _, _, _, _, _, _, _, _, _, rfl⟩
        · obtain ⟨rfl, o5, o6, o8, o9, o10, o11, o12, o13, o14, o15, o16, o17, rfl⟩ := h
          obtain ⟨a, b, rfl, a1, a2, b1, b2⟩ := hLm w (List.mem_of_getElem? hw)
          obtain ⟨r2, hr2⟩ : ∃ m : Nat, (if (r : Int) + a > 1 then (r : Int) + a else 1) = (m : Int) := nat_of (by split <;> omega)
          obtain ⟨c2, hc2⟩ : ∃ m : Nat, (if (c : Int) + b > 1 then (c : Int) + b else 1) = (m : Int) := nat_of (by split <;> omega)
          have r20 : 0 < r2 ∧ r2 ≤ 8 := by split at hr2 <;> omega
          have c20 : 0 < c2 ∧ c2 ≤ 8 := by split at hc2 <;> omega
          have r2l : r2 ≤ sizeLine := Nat.le_trans r20.2 (by decide)
          have hfold2 : D.tup [.int (r2 : Int), .int (c2 : Int)] = szD r2 c2 := rfl
          have hr0 := fun {P : PV} {E : PX} {M : Sto} => rep1 (x := .int 0) (n := c2) (by omega) (P := P) (E := E) (M := M)
          simp! [y_tgN, szD_0, szD_1, max2, hr2, hc2, hfold2, rng0_is r2l]
          refine kcR r2 (fun _ => .lst (List.replicate c2 (.int 0))) r2l (fun i hi => ?_) ?_
          · simp! [y_tgN, szD_1, hr0]
          simp! [e_table, zeros_mk r20.1 r20.2 c20.1 c20.2, fits_call (zeros_dim r20.1 r20.2 c20.1 c20.2) t1 (by omega : k < 80), lfits_call t1 (by omega : k < 80), e_same, same_bl]
          exact ⟨_, _, _, _, _, _, _, _, _, _, _, _, rfl⟩
        · obtain ⟨rfl, o5, o6, o8, o9, o10, o11, o12, o13, o14, o15, o16, o17, rfl⟩ := h
          simp! [DL.is_ok]
          refine chain_call r0 r8 c0 c8 hp fun u p6 u1 u2 u3 hp6 => ?_
          simp! [made_call u1 (by decide : 60 < 80), long_call u1 (by decide : 60 < 80), llong_call u1 (by decide : 60 < 80), e_same, same_int, szD_0, rng0_is rl]
          have hends2 : endsT u ≤ 1000000 := by omega
          refine for_is (fun i env M => ∃ (p : MO) (junk : Sto) (o5 o6 o8 o9 o10 o11 o12 o13 o14 o15 o16 o17 : Option Wv), M = p :: junk ∧ PoolIs p ∧ (∀ mo ∈ junk, Dat mo) ∧ env = [some (.d sc), some (.m 0), some (.d (szD r c)), some (.d t.l), some (.d t.o), o5, o6, some (.d u.l), o8, o9, o10, o11, o12, o13, o14, o15, o16, o17]) (fun i w env M hw h => ?_) (fun env M h => ?_) _ _ _ _ (Nat.zero_add _) ⟨p6, junk, _, _, _, _, _, _, _, _, _, _, _, _, rfl, hp6, hj, rfl⟩
          · obtain ⟨p, junk, o5, o6, o8, o9, o10, o11, o12, o13, o14, o15, o16, o17, rfl, hp, hj, rfl⟩ := h
            have hi : i < r := by
              have := (List.getElem?_eq_some_iff.mp hw).1
              rw [rngL_len] at this
              exact this
            rw [rngL_get hi, Int.zero_add] at hw
            cases hw
            have hd : ∀ mo ∈ p :: junk, Dat mo := fun mo hm => by
              rcases List.mem_cons.mp hm with rfl | hm
              · exact hp.dat
              · exact hj mo hm
            have hsz' : (chT i 0 [] (1, 1) u).length ≤ sizeLine := by rw [chT_len]; exact Nat.le_trans hends2 (by decide)
            simp! [y_tgN, made_call u1 (by decide : 60 < 80)]
            refine chances_is (c := 0) hi c0 u1 (by decide) u2 (by decide) hends2 hd ?_
            rw [List.length_cons, cons_app]
            simp! [live_m end_get]
            refine kcM (chT i 0 [] (1, 1) u) encO encL _ hsz' end_get (fun x _ => ?_) ?_
            · simp! [encO, encL, f_num, f_den, frP]
            have hlc : ∀ M, callR 0 4 (m__law_chances 80) [.d u.l, .d (.tup [.int (i : Int), .int 0]), .d (.tup []), .d (.tup [.int 1, .int 1])] M = .ok (.d (.lst ((chT i 0 [] (1, 1) u).map encL))) M := fun M => lch_call (M := M) (c := 0) hi c0 u1 (by decide) u2 hends2
            simp! [hlc, ne_of_eq (plain_eq (plain_ch (r := i) (c := 0) u1 (by decide) hends2) (by decide))]
            exact ⟨_, _, _, _, _, _, _, _, _, _, _, _, _, _, rfl, hp, fun mo hm => dats_add hj ⟨_, rfl⟩ mo hm, rfl⟩
          · obtain ⟨p, junk, o5, o6, o8, o9, o10, o11, o12, o13, o14, o15, o16, o17, rfl, hp, hj, rfl⟩ := h
            simp! [long_call t1 (by omega : k < 80), llong_call t1 (by omega : k < 80), e_same, same_int]
    cases t with
    | fin =>
      simp! [fin_i0, eq_str okEnd okSay, neES]
      exact rest _ _ _ _ _ hp5
    | say q lots parts =>
      simp! [say_i0, eq_str okSay okSay, e_draw]
      refine draw1 (s := 3) (by decide) (by decide) hp5 fun v p6 v0 v1 hp6 => ?_
      by_cases hv : v = 0
      · subst hv
        generalize hS : sSeq (sAsg (tgN 8) _) _ = S
        simp! [DL.is_ok]
        rw [← hS]
        exact branch_is r0 r8 c0 c8 t1 (by omega) t2 hp6 fun p o5 o8 o9 o10 h => rest _ _ _ _ _ h
      · simp! [hv]
        exact rest _ _ _ _ _ hp6
  obtain ⟨w, M, e, rfl⟩ := key.out
  exact ⟨M, e⟩
end K21

set_option maxHeartbeats 0
open PySem PySem.W PyProof.Rows
open_top hd for PySem.Challenge.rw_splittalk_k21_chances_of_talks
set_option maxRecDepth 100000 in
set_option maxHeartbeats 0 in
theorem PySem.Challenge.cw_splittalk_k21_chances_of_talks_holds : PySem.Challenge.rw_splittalk_k21_chances_of_talks.Holds := by
  refine hd ?_
  k_fill
  refine L2.walk_of (l := PySem.Challenge.rw_splittalk_k21_chances_of_talks) (n := 63) (k := 90) (x := "_law_script") (CX := fun w => L2.CX (PySem.Challenge.rw_splittalk_k21_chances_of_talks).prog w) (sp := fun w => DL.spLaw _) rfl (by decide) rfl ⟨rfl, by decide, by decide⟩ (fun w h Y => PySem.W.kIn_of Y) ?F (fun _ _ a ns hl _ hS => ⟨a, ns, rfl, hl, hS, fun _ => rfl⟩) (fun w H s e s' h => DL.cx_no h)
  case F =>
    intro w mg fa h KX G hmg
    refine' K21.all_mk KX G hmg ?g_Ratio ?pg_Ratio ?hd_Ratio ?po_Ratio ?sa_Ratio ?ha_Ratio ?hm_Ratio ?g_End ?pg_End ?hd_End ?po_End ?sa_End ?ha_End ?hm_End ?g_Say ?pg_Say ?hd_Say ?po_Say ?sa_Say ?ha_Say ?hm_Say ?g_Table ?pg_Table ?hd_Table ?po_Table ?sa_Table ?ha_Table ?hm_Table ?hn0 ?htk0 ?g__law_pool ?l__law_pool ?cd1__law_pool ?k__law_pool ?g__law_talk ?l__law_talk ?cd1__law_talk ?k__law_talk ?g__law_draw ?l__law_draw ?cd1__law_draw ?k__law_draw ?g__law_lots ?l__law_lots ?cd1__law_lots ?k__law_lots ?g__law_less ?l__law_less ?cd1__law_less ?k__law_less ?g__law_made ?l__law_made ?cd1__law_made ?k__law_made ?g_SayU_initU ?i_SayU_initU ?m_SayU_initU ?kp_Say ?l_SayU_initU ?cd1_SayU_initU ?k_SayU_initU ?g_are_lots ?l_are_lots ?cd1_are_lots ?k_are_lots ?g_RatioU_eqU ?i_RatioU_eqU ?l_RatioU_eqU ?cd1_RatioU_eqU ?k_RatioU_eqU ?g_total ?l_total ?cd1_total ?k_total ?g_RatioU_initU ?i_RatioU_initU ?m_RatioU_initU ?kp_Ratio ?l_RatioU_initU ?cd1_RatioU_initU ?k_RatioU_initU ?lt_RatioU_initU ?g_RatioU_addU ?i_RatioU_addU ?l_RatioU_addU ?cd1_RatioU_addU ?k_RatioU_addU ?g__law_chain ?l__law_chain ?cd1__law_chain ?k__law_chain ?g__law_same ?l__law_same ?cd1__law_same ?k__law_same ?g__law_uneven ?l__law_uneven ?cd1__law_uneven ?k__law_uneven ?g_TableU_initU ?i_TableU_initU ?m_TableU_initU ?kp_Table ?l_TableU_initU ?cd1_TableU_initU ?k_TableU_initU ?g_fits ?l_fits ?cd1_fits ?k_fits ?g__law_fits ?l__law_fits ?cd1__law_fits ?k__law_fits ?g_chances ?l_chances ?cd1_chances ?k_chances ?g_spread ?l_spread ?cd1_spread ?k_spread ?g_RatioU_mulU ?i_RatioU_mulU ?l_RatioU_mulU ?cd1_RatioU_mulU ?k_RatioU_mulU ?g_longest ?l_longest ?cd1_longest ?k_longest ?g__law_longest ?l__law_longest ?cd1__law_longest ?k__law_longest ?g__law_chances ?l__law_chances ?cd1__law_chances ?k__law_chances ?g__law_times ?l__law_times ?cd1__law_times ?k__law_times ?g_law ?l_law ?cd1_law ?k_law ?n_Ratio_den ?n_Ratio_num ?n_Say_lots ?n_Say_parts ?n_Say_person ?n_Table_rows ?q0_End ?q1_End ?q2_End ?q3_End ?q4_End ?q5_End ?q6_End ?qx_Say_End ?q0_Ratio ?q1_Ratio ?q2_Ratio ?q3_Ratio ?q4_Ratio ?q5_Ratio ?q6_Ratio ?mz1_End ?mz2_End ?mz3_End ?sf_Ratio ?z_abs ?z_all ?z_any ?z_bool ?z_enumerate ?z_int ?z_isinstance ?z_len ?z_list ?z_max ?z_range ?z_str ?z_sum ?z_tuple ?g_GREATEST ?g_MOST_VALUES K21.law_math
    (case g_Ratio => k_is)
    (case pg_Ratio => k_is)
    (case hd_Ratio => k_is)
    (case po_Ratio => k_is)
    (case sa_Ratio => k_is)
    (case ha_Ratio => k_is)
    (case hm_Ratio => k_is)
    (case g_End => k_is)
    (case pg_End => k_is)
    (case hd_End => k_is)
    (case po_End => k_is)
    (case sa_End => k_is)
    (case ha_End => k_is)
    (case hm_End => k_is)
    (case g_Say => k_is)
    (case pg_Say => k_is)
    (case hd_Say => k_is)
    (case po_Say => k_is)
    (case sa_Say => k_is)
    (case ha_Say => k_is)
    (case hm_Say => k_is)
    (case g_Table => k_is)
    (case pg_Table => k_is)
    (case hd_Table => k_is)
    (case po_Table => k_is)
    (case sa_Table => k_is)
    (case ha_Table => k_is)
    (case hm_Table => k_is)
    (case hn0 => k_is)
    (case htk0 => k_is)
    (case g__law_pool => k_is)
    (case l__law_pool => k_is)
    (case cd1__law_pool => k_is)
    (case k__law_pool => k_is)
    (case g__law_talk => k_is)
    (case l__law_talk => k_is)
    (case cd1__law_talk => k_is)
    (case k__law_talk => k_is)
    (case g__law_draw => k_is)
    (case l__law_draw => k_is)
    (case cd1__law_draw => k_is)
    (case k__law_draw => k_is)
    (case g__law_lots => k_is)
    (case l__law_lots => k_is)
    (case cd1__law_lots => k_is)
    (case k__law_lots => k_is)
    (case g__law_less => k_is)
    (case l__law_less => k_is)
    (case cd1__law_less => k_is)
    (case k__law_less => k_is)
    (case g__law_made => k_is)
    (case l__law_made => k_is)
    (case cd1__law_made => k_is)
    (case k__law_made => k_is)
    (case g_SayU_initU => k_is)
    (case i_SayU_initU => k_is)
    (case m_SayU_initU => k_is)
    (case kp_Say => k_is)
    (case l_SayU_initU => k_is)
    (case cd1_SayU_initU => k_is)
    (case k_SayU_initU => k_is)
    (case g_are_lots => k_is)
    (case l_are_lots => k_is)
    (case cd1_are_lots => k_is)
    (case k_are_lots => k_is)
    (case g_RatioU_eqU => k_is)
    (case i_RatioU_eqU => k_is)
    (case l_RatioU_eqU => k_is)
    (case cd1_RatioU_eqU => k_is)
    (case k_RatioU_eqU => k_is)
    (case g_total => k_is)
    (case l_total => k_is)
    (case cd1_total => k_is)
    (case k_total => k_is)
    (case g_RatioU_initU => k_is)
    (case i_RatioU_initU => k_is)
    (case m_RatioU_initU => k_is)
    (case kp_Ratio => k_is)
    (case l_RatioU_initU => k_is)
    (case cd1_RatioU_initU => k_is)
    (case k_RatioU_initU => k_is)
    (case lt_RatioU_initU => k_is)
    (case g_RatioU_addU => k_is)
    (case i_RatioU_addU => k_is)
    (case l_RatioU_addU => k_is)
    (case cd1_RatioU_addU => k_is)
    (case k_RatioU_addU => k_is)
    (case g__law_chain => k_is)
    (case l__law_chain => k_is)
    (case cd1__law_chain => k_is)
    (case k__law_chain => k_is)
    (case g__law_same => k_is)
    (case l__law_same => k_is)
    (case cd1__law_same => k_is)
    (case k__law_same => k_is)
    (case g__law_uneven => k_is)
    (case l__law_uneven => k_is)
    (case cd1__law_uneven => k_is)
    (case k__law_uneven => k_is)
    (case g_TableU_initU => k_is)
    (case i_TableU_initU => k_is)
    (case m_TableU_initU => k_is)
    (case kp_Table => k_is)
    (case l_TableU_initU => k_is)
    (case cd1_TableU_initU => k_is)
    (case k_TableU_initU => k_is)
    (case g_fits => k_is)
    (case l_fits => k_is)
    (case cd1_fits => k_is)
    (case k_fits => k_is)
    (case g__law_fits => k_is)
    (case l__law_fits => k_is)
    (case cd1__law_fits => k_is)
    (case k__law_fits => k_is)
    (case g_chances => k_is)
    (case l_chances => k_is)
    (case cd1_chances => k_is)
    (case k_chances => k_is)
    (case g_spread => k_is)
    (case l_spread => k_is)
    (case cd1_spread => k_is)
    (case k_spread => k_is)
    (case g_RatioU_mulU => k_is)
    (case i_RatioU_mulU => k_is)
    (case l_RatioU_mulU => k_is)
    (case cd1_RatioU_mulU => k_is)
    (case k_RatioU_mulU => k_is)
    (case g_longest => k_is)
    (case l_longest => k_is)
    (case cd1_longest => k_is)
    (case k_longest => k_is)
    (case g__law_longest => k_is)
    (case l__law_longest => k_is)
    (case cd1__law_longest => k_is)
    (case k__law_longest => k_is)
    (case g__law_chances => k_is)
    (case l__law_chances => k_is)
    (case cd1__law_chances => k_is)
    (case k__law_chances => k_is)
    (case g__law_times => k_is)
    (case l__law_times => k_is)
    (case cd1__law_times => k_is)
    (case k__law_times => k_is)
    (case g_law => k_is)
    (case l_law => k_is)
    (case cd1_law => k_is)
    (case k_law => k_is)
    (case n_Ratio_den => k_is)
    (case n_Ratio_num => k_is)
    (case n_Say_lots => k_is)
    (case n_Say_parts => k_is)
    (case n_Say_person => k_is)
    (case n_Table_rows => k_is)
    (case q0_End => kit_is)
    (case q1_End => kit_is)
    (case q2_End => kit_is)
    (case q3_End => kit_is)
    (case q4_End => kit_is)
    (case q5_End => kit_is)
    (case q6_End => kit_is)
    (case qx_Say_End => kit_is)
    (case q0_Ratio => kit_is)
    (case q1_Ratio => kit_is)
    (case q2_Ratio => kit_is)
    (case q3_Ratio => kit_is)
    (case q4_Ratio => kit_is)
    (case q5_Ratio => kit_is)
    (case q6_Ratio => kit_is)
    (case mz1_End => k_is)
    (case mz2_End => k_is)
    (case mz3_End => k_is)
    (case sf_Ratio => k_is)
    (case z_abs => k_is)
    (case z_all => k_is)
    (case z_any => k_is)
    (case z_bool => k_is)
    (case z_enumerate => k_is)
    (case z_int => k_is)
    (case z_isinstance => k_is)
    (case z_len => k_is)
    (case z_list => k_is)
    (case z_max => k_is)
    (case z_range => k_is)
    (case z_str => k_is)
    (case z_sum => k_is)
    (case z_tuple => k_is)
    (case g_GREATEST => k_is)
    (case g_MOST_VALUES => k_is)
