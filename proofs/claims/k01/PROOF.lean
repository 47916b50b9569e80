import PyProof.Rows.All
import Wide.All
import OpenK.AllK
import Wide.FinOn
import HandS.ForMost
import HandS.Exc
import HandS.TryOnly
import HandS.ExcOwn
import HandS.WordsExc
import HandS.NestedK
import HandS.TupAny
import HandS.Wide
import HandS.SortInts
import HandS.Deep
import HandS.Flow
import HandS.CallSlots
import HandS.IsInst
import HandS.Star
import HandS.RaiseMore
import HandS.Style
import HandS.OwnEq
import HandS.Ends
import KE.GoesMore
import KE.GoesEnum
import HandS.Iter
import HandS.Defaults
import HandS.SetFor
import HandS.Strs
import HandS.Zip
import HandS.Conv
import PyProof.InstNe
import HandS.ExcInit
import HandS.ExcField
import HandS.ExcIs
import HandS.Nested
import KE.KExcIs
import KE.KExcSuper
import HandS.FStr
import HandS.MakeKwOnly
import HandS.MakeKw
import KE.KCallOwn
import HandS.Small
import HandS.TupMul
import KE.KRevSl
import KE.RegKIsAll
import PySem.Challenge.RW_splittalk_k01_tables_that_are_none
set_option Elab.async false
set_option linter.all false
set_option maxRecDepth 100000
set_option maxHeartbeats 4000000
/-! Layer D: data, stores, what holds between a store and the abstract heap. -/
namespace DL
open PySem PySem.Spec PyProof.Rows L2
abbrev St := L2.St

/-- data: what never changes -/
inductive D where
  | non | bl (b : Bool) | int (i : Int) | str (x : Str)
  | tup (l : List D) | lst (l : List D)
  | dic (ks : List Key) (l : List D)
  | obj (t : Nat) (ns : List Str) (l : List D)
  /-- a function made by a def within a def, with what it captured -/
  | fn (t : Nat) (l : List D)
  /-- the law's own argument -/
  | scr (l : List D)
/-- a value: data, or the k-th object of the store -/
inductive Wv where
  | d (x : D) | m (k : Nat)
/-- an object of the store -/
inductive MO where
  | lst (ws : List Wv) | tup (ws : List Wv) | ins (t : Nat) (ns : List Str) (ws : List Wv) | dic (ks : List Key) (ws : List Wv) | fz (x : D)
abbrev Sto := List MO
abbrev Ev := List (Option Wv)
structure Exn where
  t : Nat
  ns : List Str
  ws : List D
inductive Rs (α : Type) where
  | ok (a : α) (M : Sto) | ex (x : Exn) (M : Sto) | no
def Rs.bind {α β : Type} (r : Rs α) (f : α → Sto → Rs β) : Rs β := match r with
  | .ok a M => f a M
  | .ex x M => .ex x M
  | .no => .no
@[simp] theorem Rs.bind_ok {α β : Type} (a : α) (M : Sto) (f : α → Sto → Rs β) : (Rs.ok a M).bind f = f a M := rfl
@[simp] theorem Rs.bind_ex {α β : Type} (x : Exn) (M : Sto) (f : α → Sto → Rs β) : (Rs.ex x M : Rs α).bind f = .ex x M := rfl
@[simp] theorem Rs.bind_no {α β : Type} (f : α → Sto → Rs β) : (Rs.no : Rs α).bind f = .no := rfl

/-- the words of a def within a def; what it captures -/
structure FW where
  name : Str
  qual : Str
  params : Arguments
  body : List Stmt
  scope : Scope
  fr : List Str
structure FwIs (w : FW) (N : NdefX.NF) : Prop where
  name : N.name = w.name
  qual : N.qual = w.qual
  params : N.params = w.params
  body : N.body = w.body
  scope : N.scope = w.scope
/-- classes by tag; the tables of code objects that may grow; the defs within defs by tag -/
structure CA where
  cl : Nat → Addr
  T : List NdefX.NTab
  fw : Nat → Option FW
instance : CoeFun CA fun _ => Nat → Addr := ⟨CA.cl⟩
/-- a cell that is lent: it holds v -/
def CellO (c : Addr) (v : V) : HO := .ext fun h => ∃ o u, h.get? c = some o ∧ o.data = .cell (some u) ∧ L2.RelV v u
structure CellsF (F : Hp) (cl : List (Str × Addr)) (fr : List Str) (vs : List V) : Prop where
  len : fr.length = vs.length
  mem : ∀ y c, cl.lookup y = some c → y ∈ fr
  inj : ∀ x y c, cl.lookup x = some c → cl.lookup y = some c → x = y
  all : ∀ (i : Nat) (y : Str) (v : V), fr[i]? = some y → vs[i]? = some v → ∃ c, cl.lookup y = some c ∧ F c = some (CellO c v)
theorem CellsF.mono {F F' : Hp} {cl : List (Str × Addr)} {fr : List Str} {vs : List V} (s : L2.Same F F') (h : CellsF F cl fr vs) : CellsF F' cl fr vs :=
  ⟨h.len, h.mem, h.inj, fun i y v h1 h2 => let ⟨c, e1, e2⟩ := h.all i y v h1 h2; ⟨c, e1, s _ _ e2⟩⟩
section
variable (K : PySem.W.Frag) (cA : CA)
mutual
def Rep (F : Hp) : D → V → Prop
  | .non, v => v = .non
  | .bl b, v => v = .bl b
  | .int i, v => v = .int i
  | .str x, v => v = .str x
  | .tup l, v => ∃ a vs, v = .ref a ∧ SqT K F a vs ∧ vs.length ≤ sizeLine ∧ RepL F l vs
  | .lst l, v => ∃ a vs, v = .ref a ∧ F a = some (.lst vs) ∧ vs.length ≤ sizeLine ∧ RepL F l vs
  | .scr l, v => ∃ a vs, v = .ref a ∧ SqL K F a vs ∧ vs.length ≤ sizeLine ∧ RepL F l vs
  | .dic ks l, v => ∃ a vs, v = .ref a ∧ F a = some (.dK (ks.zip vs)) ∧ ks.length = vs.length ∧ RepL F l vs
  | .obj t ns l, v => ∃ a dx vs, v = .ref a ∧ F a = some (.ins (cA t) dx (ns.zip vs)) ∧ ns.length = vs.length ∧ RepL F l vs
  | .fn t l, v => ∃ (f : Addr) (N : NdefX.NF) (w : FW) (vs : List V), v = .ref f ∧ F f = some (NdefX.FnO f N) ∧ cA.fw t = some w ∧ FwIs w N ∧ F N.c = some (LamX.CodeO N.c N.qual) ∧ CellsF F N.cl w.fr vs ∧ RepL F l vs
def RepL (F : Hp) : List D → List V → Prop
  | [], vs => vs = []
  | x :: l, vs => ∃ v r, vs = v :: r ∧ Rep F x v ∧ RepL F l r
end
end
section
variable {K : PySem.W.Frag} {cA : CA} {F F' H H' : Hp}
theorem _root_.L2.Same.seqT {K : PySem.W.Frag} {H H' : Hp} {a : Addr} {xs : List V} (e : Same H H') (h : SqT K H a xs) : SqT K H' a xs := by
  rcases h with (h | ⟨o, h⟩) | h
  · exact .inl (.inl (e _ _ h))
  · exact .inl (.inr ⟨o, e _ _ h⟩)
  · exact .inr h
mutual
theorem Rep.mono (s : L2.Same F F') : ∀ {x : D} {v : V}, Rep K cA F x v → Rep K cA F' x v
  | .non, _, h => h
  | .bl _, _, h => h
  | .int _, _, h => h
  | .str _, _, h => h
  | .tup l, _, h => by
    obtain ⟨a, vs, e, h1, h2, h3⟩ := h
    exact ⟨a, vs, e, s.seqT h1, h2, RepL.mono s h3⟩
  | .lst l, _, h => by
    obtain ⟨a, vs, e, h1, h2, h3⟩ := h
    exact ⟨a, vs, e, s _ _ h1, h2, RepL.mono s h3⟩
  | .scr l, _, h => by
    obtain ⟨a, vs, e, h1, h2, h3⟩ := h
    exact ⟨a, vs, e, s.seq h1, h2, RepL.mono s h3⟩
  | .dic ks l, _, h => by
    obtain ⟨a, vs, e, h1, h2, h3⟩ := h
    exact ⟨a, vs, e, s _ _ h1, h2, RepL.mono s h3⟩
  | .obj t ns l, _, h => by
    obtain ⟨a, dx, vs, e, h1, h2, h3⟩ := h
    exact ⟨a, dx, vs, e, s _ _ h1, h2, RepL.mono s h3⟩
  | .fn t l, _, h => by
    obtain ⟨f, N, w, vs, e, h1, h0, h2, h3, h4, h5⟩ := h
    exact ⟨f, N, w, vs, e, s _ _ h1, h0, h2, s _ _ h3, h4.mono s, RepL.mono s h5⟩
theorem RepL.mono (s : L2.Same F F') : ∀ {l : List D} {vs : List V}, RepL K cA F l vs → RepL K cA F' l vs
  | [], _, h => h
  | x :: l, _, h => by
    obtain ⟨v, r, e, h1, h2⟩ := h
    exact ⟨v, r, e, Rep.mono s h1, RepL.mono s h2⟩
end
theorem RepL.length : ∀ {l : List D} {vs : List V}, RepL K cA F l vs → l.length = vs.length
  | [], _, h => by cases (show _ = [] from h); rfl
  | x :: l, _, h => by
    obtain ⟨v, r, e, _, h2⟩ := h
    rw [e, List.length_cons, List.length_cons, RepL.length h2]
theorem RepL.get : ∀ {l : List D} {vs : List V} {i : Nat} {x : D}, RepL K cA F l vs → l[i]? = some x → ∃ v, vs[i]? = some v ∧ Rep K cA F x v
  | [], _, _, _, _, e => by simp at e
  | y :: l, _, 0, x, h, e => by
    obtain ⟨v, r, rfl, h1, _⟩ := h
    have : y = x := by simpa using e
    subst this
    exact ⟨v, rfl, h1⟩
  | y :: l, _, i + 1, x, h, e => by
    obtain ⟨v, r, rfl, _, h2⟩ := h
    obtain ⟨u, q1, q2⟩ := RepL.get (i := i) h2 (by simpa using e)
    exact ⟨u, by simpa using q1, q2⟩
theorem RepL.paired : ∀ {l : List D} {vs : List V}, RepL K cA F l vs → Paired (Rep K cA F) l vs
  | [], _, h => by cases (show _ = [] from h); exact .nil
  | x :: l, _, h => by
    obtain ⟨v, r, rfl, h1, h2⟩ := h
    exact .cons h1 (RepL.paired h2)
theorem RepL.of_paired : ∀ {l : List D} {vs : List V}, Paired (Rep K cA F) l vs → RepL K cA F l vs
  | _, _, .nil => rfl
  | _, _, .cons h t => ⟨_, _, rfl, h, RepL.of_paired t⟩
theorem RepL.append : ∀ {l m : List D} {vs us : List V}, RepL K cA F l vs → RepL K cA F m us → RepL K cA F (l ++ m) (vs ++ us)
  | [], _, _, _, h, q => by cases (show _ = [] from h); exact q
  | x :: l, m, _, us, h, q => by
    obtain ⟨v, r, rfl, h1, h2⟩ := h
    exact ⟨v, r ++ us, rfl, h1, RepL.append h2 q⟩
theorem RepL.take : ∀ {l : List D} {vs : List V} (n : Nat), RepL K cA F l vs → RepL K cA F (l.take n) (vs.take n)
  | _, _, 0, _ => by simp; exact rfl
  | [], _, n + 1, h => by cases (show _ = [] from h); exact rfl
  | x :: l, _, n + 1, h => by
    obtain ⟨v, r, rfl, h1, h2⟩ := h
    exact ⟨v, r.take n, rfl, h1, RepL.take n h2⟩
theorem RepL.drop : ∀ {l : List D} {vs : List V} (n : Nat), RepL K cA F l vs → RepL K cA F (l.drop n) (vs.drop n)
  | _, _, 0, h => by simpa using h
  | [], _, n + 1, h => by cases (show _ = [] from h); exact rfl
  | x :: l, _, n + 1, h => by
    obtain ⟨v, r, rfl, h1, h2⟩ := h
    simpa using RepL.drop n h2
theorem RepL.reverse : ∀ {l : List D} {vs : List V}, RepL K cA F l vs → RepL K cA F l.reverse vs.reverse
  | [], _, h => by cases (show _ = [] from h); exact rfl
  | x :: l, _, h => by
    obtain ⟨v, r, rfl, h1, h2⟩ := h
    rw [List.reverse_cons, List.reverse_cons]
    exact RepL.append (RepL.reverse h2) ⟨v, [], rfl, h1, rfl⟩
end

/-- the hidden part: the frozen heap, where the store's objects stand -/
structure Gh where
  F : Hp
  ad : Nat → Addr
/-- how a def was entered -/
structure Z0 where
  H0 : Hp
  F0 : Hp
  ad0 : Nat → Addr
  n0 : Nat
section
variable (K : PySem.W.Frag) (cA : CA)
def RW (g : Gh) (n : Nat) : Wv → V → Prop
  | .d x, v => Rep K cA g.F x v
  | .m k, v => k < n ∧ v = .ref (g.ad k)
def RM (g : Gh) (n : Nat) (H : Hp) (a : Addr) : MO → Prop
  | .lst ws => ∃ vs, H a = some (.lst vs) ∧ g.F a = none ∧ ws.length ≤ sizeLine ∧ Paired (RW K cA g n) ws vs
  | .tup ws => ∃ vs, H a = some (.tup vs) ∧ g.F a = none ∧ ws.length ≤ sizeLine ∧ Paired (RW K cA g n) ws vs
  | .ins t ns ws => ∃ dx vs, H a = some (.ins (cA t) dx (ns.zip vs)) ∧ g.F a = none ∧ ns.length = vs.length ∧ Paired (RW K cA g n) ws vs
  | .dic ks ws => ∃ vs, H a = some (.dK (ks.zip vs)) ∧ g.F a = none ∧ ks.length = vs.length ∧ Paired (RW K cA g n) ws vs
  | .fz x => Rep K cA g.F x (.ref a) ∧ ∃ o, g.F a = some o
structure Cf (z : Z0) (H : Hp) (M : Sto) (g : Gh) : Prop where
  sub : Same g.F H
  sto : ∀ k mo, M[k]? = some mo → RM K cA g M.length H (g.ad k) mo
  inj : ∀ j k, j < M.length → k < M.length → g.ad j = g.ad k → j = k
  f0 : Same z.F0 g.F
  fr : ∀ a o, z.H0 a = some o → (∀ k, k < z.n0 → a ≠ z.ad0 k) → (∀ p ∈ cA.T, a ≠ p.1) → H a = some o
  fs : ∀ a, g.F a ≠ none → z.F0 a ≠ none ∨ z.H0 a = none ∨ ∃ k, k < z.n0 ∧ a = z.ad0 k
  ad : ∀ k, k < z.n0 → g.ad k = z.ad0 k
  nw : ∀ k, z.n0 ≤ k → k < M.length → z.H0 (g.ad k) = none
  ln : z.n0 ≤ M.length
  tb : NdefX.TabsN cA.T H
  ft : ∀ p ∈ cA.T, g.F p.1 = none
def Slots (g : Gh) (n : Nat) (env : Ev) (σ : St) : Prop := env.length = σ.length ∧ ∀ (i : Nat) (w : Wv), env[i]? = some (some w) → ∃ v, σ[i]? = some (some v) ∧ RW K cA g n w v
def RX (g : Gh) (x : Exn) (cls : Value) (d : Option Addr) : Prop :=
  cls = .ref (cA x.t) ∧ ((x.ns = [] ∧ x.ws = [] ∧ d = none) ∨ ∃ dd vs, d = some dd ∧ g.F dd = some (.xd (x.ns.zip vs)) ∧ x.ns.length = vs.length ∧ RepL K cA g.F x.ws vs)
end
structure Le (g : Gh) (n : Nat) (g' : Gh) (n' : Nat) : Prop where
  F : Same g.F g'.F
  ad : ∀ k, k < n → g'.ad k = g.ad k
  ln : n ≤ n'
theorem Le.refl {g : Gh} {n : Nat} : Le g n g n := ⟨Same.refl _, fun _ _ => rfl, Nat.le_refl _⟩
theorem Le.trans {g g1 g2 : Gh} {n n1 n2 : Nat} (a : Le g n g1 n1) (b : Le g1 n1 g2 n2) : Le g n g2 n2 :=
  ⟨a.F.trans b.F, fun k h => (b.ad k (Nat.lt_of_lt_of_le h a.ln)).trans (a.ad k h), Nat.le_trans a.ln b.ln⟩
section
variable {K : PySem.W.Frag} {cA : CA} {z : Z0} {H H' : Hp} {M M' : Sto} {g g' : Gh} {n n' : Nat} {env : Ev} {σ : St}
theorem RW.mono (l : Le g n g' n') : ∀ {w : Wv} {v : V}, RW K cA g n w v → RW K cA g' n' w v
  | .d _, _, h => Rep.mono l.F h
  | .m k, _, h => ⟨Nat.lt_of_lt_of_le h.1 l.ln, by rw [l.ad k h.1]; exact h.2⟩
theorem Paired.imp' {α β : Type} {P Q : α → β → Prop} (i : ∀ a b, P a b → Q a b) : ∀ {l : List α} {r : List β}, Paired P l r → Paired Q l r
  | _, _, .nil => .nil
  | _, _, .cons h t => .cons (i _ _ h) (Paired.imp' i t)
theorem RWs.mono (l : Le g n g' n') {ws : List Wv} {vs : List V} (h : Paired (RW K cA g n) ws vs) : Paired (RW K cA g' n') ws vs := Paired.imp' (fun _ _ q => q.mono l) h
theorem Slots.mono (l : Le g n g' n') (h : Slots K cA g n env σ) : Slots K cA g' n' env σ :=
  ⟨h.1, fun i w e => let ⟨v, e1, r⟩ := h.2 i w e; ⟨v, e1, r.mono l⟩⟩
theorem Slots.set (h : Slots K cA g n env σ) {w : Wv} {v : V} (r : RW K cA g n w v) (i : Nat) : Slots K cA g n (env.set i (some w)) (σ.set i (some v)) := by
  refine ⟨by rw [List.length_set, List.length_set]; exact h.1, fun j u e => ?_⟩
  by_cases hj : i = j
  · subst hj
    by_cases hl : i < env.length
    · rw [List.getElem?_set_self hl] at e
      have : w = u := Option.some.inj (Option.some.inj e)
      subst this
      exact ⟨v, by rw [List.getElem?_set_self (by rw [← h.1]; exact hl)], r⟩
    · rw [List.getElem?_eq_none_iff.mpr (by rw [List.length_set]; omega)] at e
      cases e
  · rw [List.getElem?_set_ne hj] at e
    obtain ⟨v', e1, r1⟩ := h.2 j u e
    exact ⟨v', by rw [List.getElem?_set_ne hj]; exact e1, r1⟩
/-- forgetting a slot -/
theorem Slots.gone (h : Slots K cA g n env σ) (i : Nat) : Slots K cA g n (env.set i none) (σ.set i none) := by
  refine ⟨by rw [List.length_set, List.length_set]; exact h.1, fun j u e => ?_⟩
  by_cases hj : i = j
  · subst hj
    by_cases hl : i < env.length
    · rw [List.getElem?_set_self hl] at e
      cases e
    · rw [List.getElem?_eq_none_iff.mpr (by rw [List.length_set]; omega)] at e
      cases e
  · rw [List.getElem?_set_ne hj] at e
    obtain ⟨v', e1, r1⟩ := h.2 j u e
    exact ⟨v', by rw [List.getElem?_set_ne hj]; exact e1, r1⟩
theorem Paired.get' {α β : Type} {P : α → β → Prop} : ∀ {l : List α} {r : List β} {i : Nat} {a : α}, Paired P l r → l[i]? = some a → ∃ b, r[i]? = some b ∧ P a b
  | _, _, _, _, .nil, e => by simp at e
  | _, _, 0, _, .cons h _, e => by simp at e; subst e; exact ⟨_, rfl, h⟩
  | _, _, i + 1, a, .cons _ t, e => by
    obtain ⟨b, h1, h2⟩ := Paired.get' (i := i) t (by simpa using e)
    exact ⟨b, by simpa using h1, h2⟩
theorem Paired.append' {α β : Type} {P : α → β → Prop} : ∀ {l m : List α} {r s : List β}, Paired P l r → Paired P m s → Paired P (l ++ m) (r ++ s)
  | _, _, _, _, .nil, q => q
  | _, _, _, _, .cons h t, q => .cons h (Paired.append' t q)
theorem Paired.set' {α β : Type} {P : α → β → Prop} {a : α} {b : β} (h : P a b) : ∀ {l : List α} {r : List β} (i : Nat), Paired P l r → Paired P (l.set i a) (r.set i b)
  | _, _, _, .nil => .nil
  | _, _, 0, .cons _ t => .cons h t
  | _, _, i + 1, .cons q t => .cons q (Paired.set' h i t)
theorem Paired.length' {α β : Type} {P : α → β → Prop} : ∀ {l : List α} {r : List β}, Paired P l r → l.length = r.length
  | _, _, .nil => rfl
  | _, _, .cons _ t => by rw [List.length_cons, List.length_cons, Paired.length' t]
theorem Paired.take' {α β : Type} {P : α → β → Prop} : ∀ {l : List α} {r : List β} (n : Nat), Paired P l r → Paired P (l.take n) (r.take n)
  | _, _, 0, _ => .nil
  | _, _, _ + 1, .nil => .nil
  | _, _, n + 1, .cons h t => .cons h (Paired.take' n t)
theorem Paired.drop' {α β : Type} {P : α → β → Prop} : ∀ {l : List α} {r : List β} (n : Nat), Paired P l r → Paired P (l.drop n) (r.drop n)
  | _, _, 0, h => h
  | _, _, _ + 1, .nil => .nil
  | _, _, n + 1, .cons _ t => Paired.drop' n t
theorem Paired.eraseIdx' {α β : Type} {P : α → β → Prop} : ∀ {l : List α} {r : List β} (n : Nat), Paired P l r → Paired P (l.eraseIdx n) (r.eraseIdx n)
  | _, _, _, .nil => .nil
  | _, _, 0, .cons _ t => t
  | _, _, n + 1, .cons h t => .cons h (Paired.eraseIdx' n t)

theorem RM.some_ {a : Addr} (s : Same g.F H) : ∀ {mo : MO}, RM K cA g n H a mo → ∃ o, H a = some o
  | .lst _, h => let ⟨_, e, _⟩ := h; ⟨_, e⟩
  | .tup _, h => let ⟨_, e, _⟩ := h; ⟨_, e⟩
  | .ins _ _ _, h => let ⟨_, _, e, _⟩ := h; ⟨_, e⟩
  | .dic _ _, h => let ⟨_, e, _⟩ := h; ⟨_, e⟩
  | .fz _, h => let ⟨_, o, e⟩ := h; ⟨o, s _ _ e⟩
theorem tabs_nil {T : List NdefX.NTab} (h : T = []) {H : Hp} : NdefX.TabsN T H := by
  subst h
  exact fun p hp => absurd hp List.not_mem_nil
theorem ft_nil {T : List NdefX.NTab} (h : T = []) {F : Hp} : ∀ p ∈ T, F p.1 = none := by
  subst h
  exact fun p hp => absurd hp List.not_mem_nil
theorem tabs_no {T : List NdefX.NTab} {H : Hp} (t : NdefX.TabsN T H) {p : Addr} (hp : H p = none) : ∀ q ∈ T, p ≠ q.1 := fun q hq e => by
  obtain ⟨ps, h, _⟩ := t q hq
  rw [← e, hp] at h
  cases h
theorem tabs_lay {T : List NdefX.NTab} {H : Hp} (t : NdefX.TabsN T H) {p : Addr} {ho : HO} (hp : H p = none) : NdefX.TabsN T (upd H p ho) := t.ext fun b o e => (upd_ne (ne_of_none e hp)).trans e
/-- what may be written: no table, nothing told by a property -/
def Plain : HO → Prop
  | .tbl _ => False
  | .ext _ => False
  | _ => True
theorem tabs_put {T : List NdefX.NTab} {H : Hp} (t : NdefX.TabsN T H) {a : Addr} {o ho : HO} (ha : H a = some o) (hp : Plain o) : NdefX.TabsN T (upd H a ho) := fun q hq => by
  obtain ⟨ps, h1, h2, h3⟩ := t q hq
  have n1 : q.1 ≠ a := fun e => by
    rw [e, ha] at h1
    rw [Option.some.inj h1] at hp
    exact hp
  refine ⟨ps, by rw [upd_ne n1]; exact h1, h2, fun pos cv hc => ?_⟩
  obtain ⟨c, e1, e2⟩ := h3 pos cv hc
  have n2 : c ≠ a := fun e => by
    rw [e, ha] at e2
    rw [Option.some.inj e2] at hp
    exact hp
  exact ⟨c, e1, by rw [upd_ne n2]; exact e2⟩
theorem tabs_ne {T : List NdefX.NTab} {H : Hp} (t : NdefX.TabsN T H) {a : Addr} {o : HO} (ha : H a = some o) (hp : Plain o) : ∀ q ∈ T, a ≠ q.1 := fun q hq e => by
  obtain ⟨ps, h1, _⟩ := t q hq
  rw [← e, ha] at h1
  rw [Option.some.inj h1] at hp
  exact hp
theorem RM.plain {a : Addr} (hf : g.F a = none) : ∀ {mo : MO}, RM K cA g n H a mo → ∃ o, H a = some o ∧ Plain o
  | .lst _, h => let ⟨_, e, _⟩ := h; ⟨_, e, trivial⟩
  | .tup _, h => let ⟨_, e, _⟩ := h; ⟨_, e, trivial⟩
  | .ins _ _ _, h => let ⟨_, _, e, _⟩ := h; ⟨_, e, trivial⟩
  | .dic _ _, h => let ⟨_, e, _⟩ := h; ⟨_, e, trivial⟩
  | .fz _, h => by
    obtain ⟨_, o, e⟩ := h
    rw [hf] at e
    cases e
theorem Cf.st (c : Cf K cA z H M g) {k : Nat} (h : k < M.length) : ∃ o, H (g.ad k) = some o :=
  (c.sto k M[k] (List.getElem?_eq_getElem h)).some_ c.sub
/-- a free address is not one that the def was entered with -/
theorem Cf.free0 (c : Cf K cA z H M g) {p : Addr} (hp : H p = none) : z.H0 p = none ∧ ∀ k, k < M.length → g.ad k ≠ p := by
  have h2 : ∀ k, k < M.length → g.ad k ≠ p := fun k hk e => by
    obtain ⟨o, q⟩ := c.st hk
    rw [e, hp] at q
    cases q
  refine ⟨?_, h2⟩
  cases e : z.H0 p with
  | none => rfl
  | some o =>
    have q := c.fr p o e (fun k hk z1 => h2 k (Nat.lt_of_lt_of_le hk c.ln) (by rw [c.ad k hk]; exact z1.symm)) (tabs_no c.tb hp)
    rw [hp] at q
    cases q
theorem Same.upd' {H : Hp} {p : Addr} {o : HO} (h : H p = none) : Same H (upd H p o) := fun b x e => by
  rw [upd_ne (ne_of_none e h)]
  exact e
/-- other objects of the store stay when a is written -/
theorem RM.keep {b : Addr} (l : Le g n g' n') (h1 : H' b = H b) (h2 : g.F b = none → g'.F b = none) : ∀ {mo : MO}, RM K cA g n H b mo → RM K cA g' n' H' b mo
  | .lst ws, h => let ⟨vs, e, f, s, r⟩ := h; ⟨vs, h1.trans e, h2 f, s, RWs.mono l r⟩
  | .tup ws, h => let ⟨vs, e, f, s, r⟩ := h; ⟨vs, h1.trans e, h2 f, s, RWs.mono l r⟩
  | .ins t ns ws, h => let ⟨dx, vs, e, f, s, r⟩ := h; ⟨dx, vs, h1.trans e, h2 f, s, RWs.mono l r⟩
  | .dic ks ws, h => let ⟨vs, e, f, s, r⟩ := h; ⟨vs, h1.trans e, h2 f, s, RWs.mono l r⟩
  | .fz x, h => let ⟨r, o, e⟩ := h; ⟨Rep.mono l.F r, o, l.F _ _ e⟩
/-- a new frozen object -/
theorem Cf.lay (c : Cf K cA z H M g) {p : Addr} {ho : HO} (hp : H p = none) : Cf K cA z (upd H p ho) M { g with F := upd g.F p ho } ∧ Le g M.length { g with F := upd g.F p ho } M.length := by
  have fp : g.F p = none := c.sub.free hp
  have l : Le g M.length { g with F := upd g.F p ho } M.length := ⟨Same.upd' fp, fun _ _ => rfl, Nat.le_refl _⟩
  obtain ⟨h0, hne⟩ := c.free0 hp
  refine ⟨⟨fun b o e => ?_, fun k mo e => ?_, c.inj, c.f0.trans (Same.upd' fp), fun a o e h h9 => ?_, fun a h => ?_, c.ad, c.nw, c.ln, tabs_lay c.tb hp, fun q hq => (upd_ne (H := g.F) (o := ho) (fun e => tabs_no c.tb hp q hq e.symm)).trans (c.ft q hq)⟩, l⟩
  · by_cases hb : b = p
    · subst hb
      have e' : upd g.F b ho b = some o := e
      rw [upd_same] at e'
      rw [upd_same]
      exact e'
    · rw [upd_ne hb]
      have e' : upd g.F p ho b = some o := e
      rw [upd_ne hb] at e'
      exact c.sub _ _ e'
  · have hk : k < M.length := by
      rcases List.getElem?_eq_some_iff.mp e with ⟨h, _⟩
      exact h
    have nb := hne k hk
    exact (c.sto k mo e).keep l (upd_ne nb) fun f => (upd_ne (H := g.F) (o := ho) nb).trans f
  · rw [upd_ne (ne_of_none (c.fr a o e h h9) hp)]
    exact c.fr a o e h h9
  · by_cases hb : a = p
    · subst hb
      exact .inr (.inl h0)
    · have h' : upd g.F p ho a ≠ none := h
      rw [upd_ne hb] at h'
      exact c.fs a h'
/-- a new object of the store -/
def Gh.add (g : Gh) (n : Nat) (p : Addr) : Gh := { F := g.F, ad := fun k => if k = n then p else g.ad k }
theorem Cf.new (c : Cf K cA z H M g) {p : Addr} {ho : HO} {mo : MO} (hp : H p = none) (hm : RM K cA (g.add M.length p) (M.length + 1) (upd H p ho) p mo) :
    Cf K cA z (upd H p ho) (M ++ [mo]) (g.add M.length p) ∧ Le g M.length (g.add M.length p) (M ++ [mo]).length := by
  have fp : g.F p = none := c.sub.free hp
  have hl : (M ++ [mo]).length = M.length + 1 := by rw [List.length_append]; rfl
  have adk : ∀ k, k < M.length → (g.add M.length p).ad k = g.ad k := fun k hk => if_neg (Nat.ne_of_lt hk)
  have adn : (g.add M.length p).ad M.length = p := if_pos rfl
  have l : Le g M.length (g.add M.length p) (M ++ [mo]).length := ⟨Same.refl _, adk, by rw [hl]; omega⟩
  obtain ⟨h0, hne⟩ := c.free0 hp
  refine ⟨⟨fun b o e => ?_, fun k m e => ?_, fun j k hj hk e => ?_, c.f0, fun a o e h h9 => ?_, c.fs, fun k hk => ?_, fun k h1 h2 => ?_, by rw [hl]; exact Nat.le_succ_of_le c.ln, tabs_lay c.tb hp, c.ft⟩, l⟩
  · rw [upd_ne (ne_of_none (c.sub b o e) hp)]
    exact c.sub b o e
  · by_cases hk : k < M.length
    · rw [List.getElem?_append_left hk] at e
      rw [adk k hk]
      have nb := hne k hk
      exact (c.sto k m e).keep l (upd_ne nb) fun f => f
    · have hk2 : k = M.length := by
        rcases List.getElem?_eq_some_iff.mp e with ⟨h, _⟩
        rw [hl] at h
        omega
      subst hk2
      have : mo = m := by
        rw [List.getElem?_append_right (Nat.le_refl _), Nat.sub_self] at e
        simpa using e
      subst this
      rw [adn, hl]
      exact hm
  · rw [hl] at hj hk
    by_cases h1 : j < M.length
    · by_cases h2 : k < M.length
      · rw [adk j h1, adk k h2] at e
        exact c.inj j k h1 h2 e
      · have : k = M.length := by omega
        subst this
        rw [adk j h1, adn] at e
        exact absurd e (hne j h1)
    · have : j = M.length := by omega
      subst this
      by_cases h2 : k < M.length
      · rw [adk k h2, adn] at e
        exact absurd e.symm (hne k h2)
      · omega
  · rw [upd_ne (ne_of_none (c.fr a o e h h9) hp)]
    exact c.fr a o e h h9
  · rw [adk k (Nat.lt_of_lt_of_le hk c.ln)]
    exact c.ad k hk
  · rw [hl] at h2
    by_cases h3 : k < M.length
    · rw [adk k h3]
      exact c.nw k h1 h3
    · have : k = M.length := by omega
      subst this
      rw [adn]
      exact h0
/-- an object of the store is written -/
theorem Cf.put (c : Cf K cA z H M g) {k : Nat} {ho : HO} {mo : MO} (hk : k < M.length) (hf : g.F (g.ad k) = none) (hm : RM K cA g M.length (upd H (g.ad k) ho) (g.ad k) mo) :
    Cf K cA z (upd H (g.ad k) ho) (M.set k mo) g := by
  have hl : (M.set k mo).length = M.length := List.length_set
  obtain ⟨o0, ho0, hp0⟩ := RM.plain hf (c.sto k M[k] (List.getElem?_eq_getElem hk))
  refine ⟨fun b o e => ?_, fun j m e => ?_, fun j k' hj hk' e => ?_, c.f0, fun a o e h h9 => ?_, c.fs, c.ad, fun j h1 h2 => ?_, by rw [hl]; exact c.ln, tabs_put c.tb ho0 hp0, c.ft⟩
  · have : b ≠ g.ad k := fun q => by
      rw [q, hf] at e
      cases e
    rw [upd_ne this]
    exact c.sub b o e
  · rw [hl]
    by_cases hj : k = j
    · subst hj
      rw [List.getElem?_set_self hk] at e
      have : mo = m := Option.some.inj e
      subst this
      exact hm
    · rw [List.getElem?_set_ne hj] at e
      have hjl : j < M.length := by
        rcases List.getElem?_eq_some_iff.mp e with ⟨h, _⟩
        exact h
      have nb : g.ad j ≠ g.ad k := fun q => hj (c.inj j k hjl hk q).symm
      exact (c.sto j m e).keep Le.refl (upd_ne nb) fun f => f
  · rw [hl] at hj hk'
    exact c.inj j k' hj hk' e
  · have : a ≠ g.ad k := fun q => by
      by_cases h3 : k < z.n0
      · exact h k h3 (by rw [q]; exact c.ad k h3)
      · have := c.nw k (by omega) hk
        rw [← q, e] at this
        cases this
    rw [upd_ne this]
    exact c.fr a o e h h9
  · rw [hl] at h2
    exact c.nw j h1 h2
end
end DL

/-! Layer D: judgements by functions. -/
namespace DL
open PySem PySem.Spec PyProof.Rows L2

abbrev ED := Ev → Sto → Rs Wv
abbrev TD := Ev → Sto → Rs Bool
abbrev AD := Ev → Sto → Rs (List Wv)
inductive Out where
  | nx (e : Ev) | rt (w : Wv) | bk (e : Ev) | ct (e : Ev) | xc (e : Ev) (x : Exn)
abbrev SD := Ev → Sto → Rs Out

section
variable (K : PySem.W.Frag) (cA : CA)
/-- what is to hold behind a step -/
def Res {α : Type} (z : Z0) (g : Gh) (n : Nat) (E : Exn → Sto → Gh → Hp → Prop) (r : Rs α) (P : α → Sto → Gh → Hp → Prop) : Prop := match r with
  | .ok a M' => ∀ H' g', Cf K cA z H' M' g' → Le g n g' M'.length → P a M' g' H'
  | .ex x M' => ∀ H' g', Cf K cA z H' M' g' → Le g n g' M'.length → E x M' g' H'
  | .no => False
/-- an exception's wish -/
def EX (Wx : WX) (σ : St) : Exn → Sto → Gh → Hp → Prop := fun x _ g' H' => ∀ cls d, RX K cA g' x cls d → Wx cls d σ H'
def TED (Wx : WX) (m : ED) : TE := fun σ H Q => ∃ z env M g, Cf K cA z H M g ∧ Slots K cA g M.length env σ ∧ Res K cA z g M.length (EX K cA Wx σ) (m env M) fun w M' g' H' => ∀ v, RW K cA g' M'.length w v → Q v H'
def TTD (Wx : WX) (m : TD) : TT := fun σ H Q => ∃ z env M g, Cf K cA z H M g ∧ Slots K cA g M.length env σ ∧ Res K cA z g M.length (EX K cA Wx σ) (m env M) fun b M' g' H' => Q b H'
def TAD (Wx : WX) (m : AD) : TA := fun σ H Q => ∃ z env M g, Cf K cA z H M g ∧ Slots K cA g M.length env σ ∧ Res K cA z g M.length (EX K cA Wx σ) (m env M) fun ws M' g' H' => ∀ vs, Paired (RW K cA g' M'.length) ws vs → Q vs H'
def OutP (Wx : WX) (D : Ends) : Out → Sto → Gh → Hp → Prop := fun o M' g' H' => match o with
  | .nx e => ∀ σ', Slots K cA g' M'.length e σ' → D.nx σ' H'
  | .bk e => ∀ σ', Slots K cA g' M'.length e σ' → D.bk σ' H'
  | .ct e => ∀ σ', Slots K cA g' M'.length e σ' → D.ct σ' H'
  | .rt w => ∀ v, RW K cA g' M'.length w v → D.rt v H'
  | .xc e x => ∀ σ' cls d, Slots K cA g' M'.length e σ' → RX K cA g' x cls d → Wx cls d σ' H'
def TSD (Wx : WX) (m : SD) : TS := fun D σ H => ∃ z env M g, Cf K cA z H M g ∧ Slots K cA g M.length env σ ∧ Res K cA z g M.length (fun _ _ _ _ => False) (m env M) (OutP K cA Wx D)
end

section
variable {K : PySem.W.Frag} {cA : CA} {z : Z0} {g g1 : Gh} {n n1 : Nat} {E : Exn → Sto → Gh → Hp → Prop} {α β : Type} {Wx : WX}
theorem Res.imp {r : Rs α} {P P' : α → Sto → Gh → Hp → Prop} (i : ∀ a M' g' H', Cf K cA z H' M' g' → Le g n g' M'.length → P a M' g' H' → P' a M' g' H') (h : Res K cA z g n E r P) : Res K cA z g n E r P' := by
  cases r with
  | ok a M' => exact fun H' g' c l => i a M' g' H' c l (h H' g' c l)
  | ex x M' => exact h
  | no => exact h
theorem Res.later {r : Rs α} {P : α → Sto → Gh → Hp → Prop} (l1 : Le g n g1 n1) (h : Res K cA z g n E r P) : Res K cA z g1 n1 E r P := by
  cases r with
  | ok a M' => exact fun H' g' c l => h H' g' c (l1.trans l)
  | ex x M' => exact fun H' g' c l => h H' g' c (l1.trans l)
  | no => exact h
theorem Res.of_bind {r : Rs α} {f : α → Sto → Rs β} {P : β → Sto → Gh → Hp → Prop} (h : Res K cA z g n E (r.bind f) P) :
    Res K cA z g n E r fun a M1 g1 _ => Res K cA z g1 M1.length E (f a M1) P := by
  cases r with
  | ok a M' =>
    intro H' g' c l
    have h' : Res K cA z g n E (f a M') P := h
    exact h'.later l
  | ex x M' => exact h
  | no => exact h
end
theorem PE.imp {X : Cx} {e : Expr} {t t' : TE} (h : PE X e t) (i : ∀ σ H Q, t' σ H Q → t σ H Q) : PE X e t' := ⟨fun pins s σ H Q I q => h.run pins s σ H Q I (i σ H Q q)⟩
theorem PT.imp {X : Cx} {e : Expr} {t t' : TT} (h : PT X e t) (i : ∀ σ H Q, t' σ H Q → t σ H Q) : PT X e t' := ⟨fun pins s σ H Q I q => h.run pins s σ H Q I (i σ H Q q)⟩
theorem PW.imp {X : Cx} {e : Expr} {t t' : TT} (h : PW X e t) (i : ∀ σ H Q, t' σ H Q → t σ H Q) : PW X e t' := ⟨fun wh pins s σ H Q I q => h.run wh pins s σ H Q I (i σ H Q q)⟩
theorem PA.imp {X : Cx} {e : List Expr} {t t' : TA} (h : PA X e t) (i : ∀ σ H Q, t' σ H Q → t σ H Q) : PA X e t' := ⟨fun p pins s σ H Q I q => h.run p pins s σ H Q I (i σ H Q q)⟩
theorem PS.imp {X : Cx} {e : Stmt} {t t' : TS} (h : PS X e t) (i : ∀ D σ H, t' D σ H → t D σ H) : PS X e t' := ⟨fun pins s σ H D I q => h.run pins s σ H D I (i D σ H q)⟩
theorem PSs.imp {X : Cx} {e : List Stmt} {t t' : TS} (h : PSs X e t) (i : ∀ D σ H, t' D σ H → t D σ H) : PSs X e t' := ⟨fun pins s σ H D I q => h.run pins s σ H D I (i D σ H q)⟩
theorem PI.imp {X : Cx} {tg e : Expr} {t t' : TI} (h : PI X tg e t) (i : ∀ σ H R, t' σ H R → t σ H R) : PI X tg e t' := ⟨fun pins s σ H R I q => h.run pins s σ H R I (i σ H R q)⟩

/-! ### data of a value -/
def nd (M : Sto) : Wv → Option D
  | .d x => some x
  | .m k => match M[k]? with
    | some (.fz x) => some x
    | _ => none
section
variable {K : PySem.W.Frag} {cA : CA} {z : Z0} {g : Gh} {n : Nat} {H : Hp} {M : Sto}
theorem nd_rep (c : Cf K cA z H M g) : ∀ {w : Wv} {v : V} {x : D}, RW K cA g M.length w v → nd M w = some x → Rep K cA g.F x v
  | .d _, _, _, r, e => by cases (Option.some.inj e); exact r
  | .m k, v, x, r, e => by
    obtain ⟨hk, rfl⟩ := r
    cases q : M[k]? with
    | none => simp [nd, q] at e
    | some mo =>
      cases mo with
      | fz y =>
        have : y = x := by simpa [nd, q] using e
        subst this
        exact (c.sto k _ q).1
      | _ => simp [nd, q] at e
end
/-- a data step as a step -/
def rsd (M : Sto) : Option D → Rs Wv
  | some x => .ok (.d x) M
  | none => .no
@[simp] theorem rsd_some (M : Sto) (x : D) : rsd M (some x) = .ok (.d x) M := rfl
@[simp] theorem rsd_none (M : Sto) : rsd M none = .no := rfl
def pu1 (f : D → Option D) (w : Wv) (M : Sto) : Rs Wv := rsd M ((nd M w).bind f)
def pu2 (f : D → D → Option D) (w u : Wv) (M : Sto) : Rs Wv := rsd M ((nd M w).bind fun x => (nd M u).bind fun y => f x y)
@[simp] theorem nd_d (M : Sto) (x : D) : nd M (.d x) = some x := rfl
@[simp] theorem pu1_d (f : D → Option D) (x : D) (M : Sto) : pu1 f (.d x) M = rsd M (f x) := rfl
@[simp] theorem pu2_d (f : D → D → Option D) (x y : D) (M : Sto) : pu2 f (.d x) (.d y) M = rsd M (f x y) := rfl

/-! ### expressions -/
section
variable {X : Cx} {cA : CA} {Wx : WX}
def eVar (i : Nat) : ED := fun env M => match env[i]? with
  | some (some w) => .ok w M
  | _ => .no
theorem d_var {e : Expr} (i : Nat) (h : PE X e (tVar i)) : PE X e (TED X.K cA Wx (eVar i)) := by
  refine PE.imp h fun σ H Q ⟨z, env, M, g, c, sl, r⟩ => ?_
  cases q : env[i]? with
  | none => simp [eVar, q, Res] at r
  | some o =>
    cases o with
    | none => simp [eVar, q, Res] at r
    | some w =>
      obtain ⟨v, e1, rw1⟩ := sl.2 i w q
      simp only [eVar, q] at r
      exact ⟨v, e1, r H g c Le.refl v rw1⟩
def eC (x : D) : ED := fun _ M => .ok (.d x) M
theorem d_c {e : Expr} {x : D} {v : V} (h : PE X e (tC v)) (r : ∀ F, Rep X.K cA F x v) : PE X e (TED X.K cA Wx (eC x)) :=
  PE.imp h fun σ H Q ⟨z, env, M, g, c, sl, q⟩ => q H g c Le.refl v (r _)
theorem d_int {i j pos} : PE X (.Constant (.int i) j pos) (TED X.K cA Wx (eC (.int i))) := d_c pe_int fun _ => rfl
theorem d_bl {b j pos} : PE X (.Constant (.bool b) j pos) (TED X.K cA Wx (eC (.bl b))) := d_c pe_bl fun _ => rfl
theorem d_non {j pos} : PE X (.Constant .none j pos) (TED X.K cA Wx (eC .non)) := d_c pe_non fun _ => rfl
theorem d_str {x j pos} : PE X (.Constant (.str x) j pos) (TED X.K cA Wx (eC (.str x))) := d_c pe_str fun _ => rfl

/-- two values -/
def e2 (f : Wv → Wv → Sto → Rs Wv) (a b : ED) : ED := fun env M => (a env M).bind fun wa M1 => (b env M1).bind fun wb M2 => f wa wb M2
def e1 (f : Wv → Sto → Rs Wv) (a : ED) : ED := fun env M => (a env M).bind fun wa M1 => f wa M1
/-- what a two-place rule has to show -/
def Ok2 (K : PySem.W.Frag) (cA : CA) (f : Wv → Wv → Sto → Rs Wv) (r : R2) : Prop := ∀ (z : Z0) (g : Gh) (H : Hp) (M : Sto) (E : Exn → Sto → Gh → Hp → Prop) (wx wy : Wv) (x y : V) (Q : VK), Cf K cA z H M g → RW K cA g M.length wx x → RW K cA g M.length wy y →
  Res K cA z g M.length E (f wx wy M) (fun w M' g' H' => ∀ v, RW K cA g' M'.length w v → Q v H') → r x y H Q
def Ok1 (K : PySem.W.Frag) (cA : CA) (f : Wv → Sto → Rs Wv) (r : V → Hp → VK → Prop) : Prop := ∀ (z : Z0) (g : Gh) (H : Hp) (M : Sto) (E : Exn → Sto → Gh → Hp → Prop) (wx : Wv) (x : V) (Q : VK), Cf K cA z H M g → RW K cA g M.length wx x →
  Res K cA z g M.length E (f wx M) (fun w M' g' H' => ∀ v, RW K cA g' M'.length w v → Q v H') → r x H Q
theorem ted2 {ma mb : ED} {f : Wv → Wv → Sto → Rs Wv} {r : R2} (k : Ok2 X.K cA f r) {σ : St} {H : Hp} {Q : VK} (h : TED X.K cA Wx (e2 f ma mb) σ H Q) : tOp r (TED X.K cA Wx ma) (TED X.K cA Wx mb) σ H Q := by
  obtain ⟨z, env, M, g, c, sl, q⟩ := h
  refine ⟨z, env, M, g, c, sl, Res.imp (fun wa M1 g1 H1 c1 l1 q1 x rx => ?_) q.of_bind⟩
  refine ⟨z, env, M1, g1, c1, sl.mono l1, Res.imp (fun wb M2 g2 H2 c2 l2 q2 y ry => ?_) q1.of_bind⟩
  exact k z g2 H2 M2 _ wa wb x y Q c2 (rx.mono l2) ry q2
theorem ted1 {ma : ED} {f : Wv → Sto → Rs Wv} {r : V → Hp → VK → Prop} (k : Ok1 X.K cA f r) {σ : St} {H : Hp} {Q : VK} (h : TED X.K cA Wx (e1 f ma) σ H Q) : tUn r (TED X.K cA Wx ma) σ H Q := by
  obtain ⟨z, env, M, g, c, sl, q⟩ := h
  refine ⟨z, env, M, g, c, sl, Res.imp (fun wa M1 g1 H1 c1 l1 q1 x rx => ?_) q.of_bind⟩
  exact k z g1 H1 M1 _ wa x Q c1 rx q1
/-- a pure two-place rule by data -/
theorem ok2_pure {K : PySem.W.Frag} {f : D → D → Option D} {r : R2} (k : ∀ F a b d x y H Q, Same F H → Rep K cA F a x → Rep K cA F b y → f a b = some d → (∀ v, Rep K cA F d v → Q v H) → r x y H Q) : Ok2 K cA (pu2 f) r := by
  intro z g H M E wx wy x y Q c rx ry q
  cases ea : nd M wx with
  | none => simp [pu2, ea, Res] at q
  | some a =>
    cases eb : nd M wy with
    | none => simp [pu2, ea, eb, Res] at q
    | some b =>
      cases ed : f a b with
      | none => simp [pu2, ea, eb, ed, Res] at q
      | some d =>
        simp only [pu2, ea, eb, ed, Option.bind_some, rsd_some] at q
        exact k g.F a b d x y H Q c.sub (nd_rep c rx ea) (nd_rep c ry eb) ed fun v r => q H g c Le.refl v r
theorem ok1_pure {K : PySem.W.Frag} {f : D → Option D} {r : V → Hp → VK → Prop} (k : ∀ F a d x H Q, Same F H → Rep K cA F a x → f a = some d → (∀ v, Rep K cA F d v → Q v H) → r x H Q) : Ok1 K cA (pu1 f) r := by
  intro z g H M E wx x Q c rx q
  cases ea : nd M wx with
  | none => simp [pu1, ea, Res] at q
  | some a =>
    cases ed : f a with
    | none => simp [pu1, ea, ed, Res] at q
    | some d =>
      simp only [pu1, ea, ed, Option.bind_some, rsd_some] at q
      exact k g.F a d x H Q c.sub (nd_rep c rx ea) ed fun v r => q H g c Le.refl v r
end
end DL

/-! Layer D: operators. -/
namespace DL
open PySem PySem.Spec PyProof.Rows L2

theorem opOr {X : Cx} {f : Value → Value → Sem Value} {r r' : R2} (h : OpR X f r) (h' : OpR X f r') : OpR X f (fun x y H Q => r x y H Q ∨ r' x y H Q) := by
  intro pins s σ H x y v u Q I rx ry q
  rcases q with q | q
  · exact h pins s σ H x y v u Q I rx ry q
  · exact h' pins s σ H x y v u Q I rx ry q
theorem callOr {X : Cx} {f : Value} {r r' : List V → Hp → VK → Prop} (h : CallR X f r) (h' : CallR X f r') : CallR X f (fun xs H Q => r xs H Q ∨ r' xs H Q) := by
  intro pins s σ H xs us Q I rs q
  rcases q with q | q
  · exact h pins s σ H xs us Q I rs q
  · exact h' pins s σ H xs us Q I rs q

/-! ### == -/
mutual
def D.toP : D → Option PyData
  | .non => some .none
  | .bl b => some (.bool b)
  | .int i => some (.int i)
  | .str x => some (.str x)
  | .tup l => (D.toPs l).map .tuple
  | .lst l => (D.toPs l).map .list
  | .scr l => (D.toPs l).map .list
  | .dic _ _ => none
  | .obj _ _ _ => none
  | .fn _ _ => none
def D.toPs : List D → Option (List PyData)
  | [] => some []
  | x :: l => match D.toP x, D.toPs l with
    | some p, some ps => some (p :: ps)
    | _, _ => none
end
section
variable {K : PySem.W.Frag} {cA : CA} {F H : Hp}
mutual
theorem toP_dp (s : L2.Same F H) : ∀ {x : D} {v : V} {p : PyData}, Rep K cA F x v → x.toP = some p → Dp K H v p
  | .non, _, _, r, e => by cases (show _ = V.non from r); cases e; exact .non
  | .bl b, _, _, r, e => by cases (show _ = V.bl b from r); cases e; exact .bl b
  | .int b, _, _, r, e => by cases (show _ = V.int b from r); cases e; exact .int b
  | .str b, _, _, r, e => by cases (show _ = V.str b from r); cases e; exact .str b
  | .tup l, _, _, r, e => by
    obtain ⟨a, vs, rfl, h1, _, h3⟩ := r
    cases q : D.toPs l with
    | none => simp [D.toP, q] at e
    | some ps =>
      have : _ = some _ := e
      simp [D.toP, q] at e
      subst e
      exact .tup (s.seqT h1) (toPs_dp s h3 q)
  | .lst l, _, _, r, e => by
    obtain ⟨a, vs, rfl, h1, _, h3⟩ := r
    cases q : D.toPs l with
    | none => simp [D.toP, q] at e
    | some ps =>
      simp [D.toP, q] at e
      subst e
      exact .lst (SqL.of (s _ _ h1)) (toPs_dp s h3 q)
  | .scr l, _, _, r, e => by
    obtain ⟨a, vs, rfl, h1, _, h3⟩ := r
    cases q : D.toPs l with
    | none => simp [D.toP, q] at e
    | some ps =>
      simp [D.toP, q] at e
      subst e
      exact .lst (s.seq h1) (toPs_dp s h3 q)
  | .dic _ _, _, _, _, e => by simp [D.toP] at e
  | .obj _ _ _, _, _, _, e => by simp [D.toP] at e
  | .fn _ _, _, _, _, e => by simp [D.toP] at e
theorem toPs_dp (s : L2.Same F H) : ∀ {l : List D} {vs : List V} {ps : List PyData}, RepL K cA F l vs → D.toPs l = some ps → DpAll K H vs ps
  | [], _, _, r, e => by cases (show _ = [] from r); cases e; exact .nil
  | x :: l, _, _, r, e => by
    obtain ⟨v, r', rfl, h1, h2⟩ := r
    cases q : D.toP x with
    | none => simp [D.toPs, q] at e
    | some p =>
      cases q2 : D.toPs l with
      | none => simp [D.toPs, q, q2] at e
      | some ps =>
        simp [D.toPs, q, q2] at e
        subst e
        exact .cons (toP_dp s h1 q) (toPs_dp s h2 q2)
end
end
def peq (a b : D) : Option Bool := match a.toP, b.toP with
  | some p, some q => if SeqAt.shaped p && SeqAt.shaped q then some (PyData.eqv p q) else none
  | _, _ => none
def dEq (a b : D) : Option D := (peq a b).map .bl
def dNe (a b : D) : Option D := (peq a b).map fun k => .bl (!k)
theorem peq_some {a b : D} {k : Bool} (h : peq a b = some k) : ∃ p q, a.toP = some p ∧ b.toP = some q ∧ SeqAt.shaped p = true ∧ SeqAt.shaped q = true ∧ k = PyData.eqv p q := by
  unfold peq at h
  split at h
  · rename_i p q e1 e2
    split at h
    · rename_i hs
      rw [Bool.and_eq_true] at hs
      exact ⟨p, q, e1, e2, hs.1, hs.2, (Option.some.inj h).symm⟩
    · cases h
  · cases h
section
variable {X : Cx} {cA : CA} {Wx : WX} {a b c : Expr} {ma mb mc : ED} {pos : Pos}
theorem ok_eq {K : PySem.W.Frag} : Ok2 K cA (pu2 dEq) (rEqD K) := ok2_pure fun F a b d x y H Q s ra rb e q => by
  unfold dEq at e
  cases ek : peq a b with
  | none => simp [ek] at e
  | some k =>
    simp [ek] at e
    subst e
    obtain ⟨p, p', h1, h2, h3, h4, rfl⟩ := peq_some ek
    exact ⟨p, p', toP_dp s ra h1, toP_dp s rb h2, h3, h4, q _ rfl⟩
theorem ok_ne {K : PySem.W.Frag} : Ok2 K cA (pu2 dNe) (rNeD K) := ok2_pure fun F a b d x y H Q s ra rb e q => by
  unfold dNe at e
  cases ek : peq a b with
  | none => simp [ek] at e
  | some k =>
    simp [ek] at e
    subst e
    obtain ⟨p, p', h1, h2, h3, h4, rfl⟩ := peq_some ek
    exact ⟨p, p', toP_dp s ra h1, toP_dp s rb h2, h3, h4, q _ rfl⟩

/-! ### <, <=, >, >= of ints and of texts -/
def dLt : D → D → Option D
  | .int i, .int j => some (.bl (decide (i < j)))
  | .str i, .str j => some (.bl (decide (i.cps.toList < j.cps.toList)))
  | _, _ => none
def dLe : D → D → Option D
  | .int i, .int j => some (.bl (decide (i ≤ j)))
  | .str i, .str j => some (.bl (!decide (j.cps.toList < i.cps.toList)))
  | _, _ => none
def dGt : D → D → Option D
  | .int i, .int j => some (.bl (decide (j < i)))
  | .str i, .str j => some (.bl (decide (j.cps.toList < i.cps.toList)))
  | _, _ => none
def dGe : D → D → Option D
  | .int i, .int j => some (.bl (decide (j ≤ i)))
  | .str i, .str j => some (.bl (!decide (i.cps.toList < j.cps.toList)))
  | _, _ => none
def rLtD : R2 := fun x y H Q => rI0 (fun i j => .bl (decide (i < j))) x y H Q ∨ ∃ i j, x = .str i ∧ y = .str j ∧ Q (.bl (decide (i.cps.toList < j.cps.toList))) H
def rLeD : R2 := fun x y H Q => rI0 (fun i j => .bl (decide (i ≤ j))) x y H Q ∨ ∃ i j, x = .str i ∧ y = .str j ∧ Q (.bl (!decide (j.cps.toList < i.cps.toList))) H
def rGtD : R2 := fun x y H Q => rI0 (fun i j => .bl (decide (j < i))) x y H Q ∨ ∃ i j, x = .str i ∧ y = .str j ∧ Q (.bl (decide (j.cps.toList < i.cps.toList))) H
def rGeD : R2 := fun x y H Q => rI0 (fun i j => .bl (decide (j ≤ i))) x y H Q ∨ ∃ i j, x = .str i ∧ y = .str j ∧ Q (.bl (!decide (i.cps.toList < j.cps.toList))) H
theorem op_ltD : OpR X (compareOp .Lt) rLtD := opOr op_lt op_lt_str
theorem op_leD : OpR X (compareOp .LtE) rLeD := opOr op_le op_le_str
theorem op_gtD : OpR X (compareOp .Gt) rGtD := opOr op_gt op_gt_str
theorem op_geD : OpR X (compareOp .GtE) rGeD := opOr op_ge op_ge_str
theorem ok_cmpD {K : PySem.W.Frag} {f : D → D → Option D} {p : Int → Int → Bool} {q : Str → Str → Bool} (h : ∀ a b d, f a b = some d → (∃ i j, a = .int i ∧ b = .int j ∧ d = .bl (p i j)) ∨ ∃ i j, a = .str i ∧ b = .str j ∧ d = .bl (q i j)) :
    Ok2 K cA (pu2 f) (fun x y H Q => rI0 (fun i j => .bl (p i j)) x y H Q ∨ ∃ i j, x = .str i ∧ y = .str j ∧ Q (.bl (q i j)) H) := ok2_pure fun F a b d x y H Q s ra rb e k => by
  rcases h a b d e with ⟨i, j, rfl, rfl, rfl⟩ | ⟨i, j, rfl, rfl, rfl⟩
  · exact .inl ⟨i, j, ra, rb, k _ rfl⟩
  · exact .inr ⟨i, j, ra, rb, k _ rfl⟩
theorem ok_lt {K : PySem.W.Frag} : Ok2 K cA (pu2 dLt) rLtD := ok_cmpD fun a b d e => by
  cases a <;> cases b <;> simp only [dLt] at e <;> first | cases e | skip
  · exact .inl ⟨_, _, rfl, rfl, rfl⟩
  · exact .inr ⟨_, _, rfl, rfl, rfl⟩
theorem ok_le {K : PySem.W.Frag} : Ok2 K cA (pu2 dLe) rLeD := ok_cmpD fun a b d e => by
  cases a <;> cases b <;> simp only [dLe] at e <;> first | cases e | skip
  · exact .inl ⟨_, _, rfl, rfl, rfl⟩
  · exact .inr ⟨_, _, rfl, rfl, rfl⟩
theorem ok_gt {K : PySem.W.Frag} : Ok2 K cA (pu2 dGt) rGtD := ok_cmpD fun a b d e => by
  cases a <;> cases b <;> simp only [dGt] at e <;> first | cases e | skip
  · exact .inl ⟨_, _, rfl, rfl, rfl⟩
  · exact .inr ⟨_, _, rfl, rfl, rfl⟩
theorem ok_ge {K : PySem.W.Frag} : Ok2 K cA (pu2 dGe) rGeD := ok_cmpD fun a b d e => by
  cases a <;> cases b <;> simp only [dGe] at e <;> first | cases e | skip
  · exact .inl ⟨_, _, rfl, rfl, rfl⟩
  · exact .inr ⟨_, _, rfl, rfl, rfl⟩
/-- is None, is not None: of any value -/
def isNon : Wv → Bool
  | .d .non => true
  | _ => false
def isN (w u : Wv) (M : Sto) : Rs Wv := match u with
  | .d .non => .ok (.d (.bl (isNon w))) M
  | _ => .no
def notN (w u : Wv) (M : Sto) : Rs Wv := match u with
  | .d .non => .ok (.d (.bl (!isNon w))) M
  | _ => .no
theorem rw_none {K : PySem.W.Frag} {g : Gh} {n : Nat} {w : Wv} {v : V} (r : RW K cA g n w v) : decide (v = .non) = isNon w := by
  cases w with
  | m k =>
    obtain ⟨_, rfl⟩ := r
    rfl
  | d x =>
    have r' : Rep K cA g.F x v := r
    cases x with
    | non => cases (show v = .non from r'); rfl
    | bl _ => cases (show v = .bl _ from r'); rfl
    | int _ => cases (show v = .int _ from r'); rfl
    | str _ => cases (show v = .str _ from r'); rfl
    | tup _ => obtain ⟨a, vs, rfl, _⟩ := r'; rfl
    | lst _ => obtain ⟨a, vs, rfl, _⟩ := r'; rfl
    | scr _ => obtain ⟨a, vs, rfl, _⟩ := r'; rfl
    | dic _ _ => obtain ⟨a, vs, rfl, _⟩ := r'; rfl
    | obj _ _ _ => obtain ⟨a, dx, vs, rfl, _⟩ := r'; rfl
    | fn _ _ => obtain ⟨f, N, w, vs, rfl, _⟩ := r'; rfl
theorem ok_isN {K : PySem.W.Frag} : Ok2 K cA isN (fun x y H Q => y = .non ∧ Q (.bl (decide (x = .non))) H) := by
  intro z g H M E wx wy x y Q c rx ry q
  cases wy with
  | m k => exact q.elim
  | d u =>
    cases u with
    | non =>
      refine ⟨ry, ?_⟩
      rw [rw_none rx]
      exact q H g c Le.refl _ rfl
    | _ => exact q.elim
theorem ok_notN {K : PySem.W.Frag} : Ok2 K cA notN (fun x y H Q => y = .non ∧ Q (.bl (!decide (x = .non))) H) := by
  intro z g H M E wx wy x y Q c rx ry q
  cases wy with
  | m k => exact q.elim
  | d u =>
    cases u with
    | non =>
      refine ⟨ry, ?_⟩
      rw [rw_none rx]
      exact q H g c Le.refl _ rfl
    | _ => exact q.elim

/-! ### a comparison as an expression, as a test; a chain -/
theorem d_cmp {op : CmpOp} {r : R2} {f : Wv → Wv → Sto → Rs Wv} (ho : OpR X (compareOp op) r) (k : Ok2 X.K cA f r) (ha : PE X a (TED X.K cA Wx ma)) (hb : PE X b (TED X.K cA Wx mb)) (hm : behindInMarks op b = false := by first | exact nomark _ | rfl) :
    PE X (.Compare a [op] [b] pos) (TED X.K cA Wx (e2 f ma mb)) := PE.imp (pe_cmpR ho ha hb hm) fun σ H Q h => ted2 k h
/-- a value that is a bool -/
def tb (m : ED) : TD := fun env M => (m env M).bind fun w M1 => match w with
  | .d (.bl k) => .ok k M1
  | _ => .no
theorem ttd_of {m : ED} {t : TE} {σ : St} {H : Hp} {Q : Bool → Hp → Prop} (i : ∀ σ H Q, TED X.K cA Wx m σ H Q → t σ H Q) (h : TTD X.K cA Wx (tb m) σ H Q) : t σ H fun x H' => ∃ k, x = .bl k ∧ Q k H' := by
  obtain ⟨z, env, M, g, c, sl, q⟩ := h
  refine i _ _ _ ⟨z, env, M, g, c, sl, Res.imp (fun w M1 g1 H1 c1 l1 q1 v rv => ?_) q.of_bind⟩
  cases w with
  | m k => exact q1.elim
  | d x =>
    cases x with
    | bl k =>
      cases (show v = .bl k from rv)
      exact ⟨k, rfl, q1 H1 g1 c1 Le.refl⟩
    | _ => exact q1.elim
theorem t_cmp {op : CmpOp} {r : R2} {f : Wv → Wv → Sto → Rs Wv} (ho : OpR X (compareOp op) r) (k : Ok2 X.K cA f r) (ha : PE X a (TED X.K cA Wx ma)) (hb : PE X b (TED X.K cA Wx mb)) (hm : behindInMarks op b = false := by first | exact nomark _ | rfl) :
    PT X (.Compare a [op] [b] pos) (TTD X.K cA Wx (tb (e2 f ma mb))) := PT.imp (pt_cmpR ho ha hb hm) fun σ H Q h => ttd_of (fun _ _ _ q => ted2 k q) h
def eChain (f f' : Wv → Wv → Sto → Rs Wv) (a b c : ED) : ED := fun env M => (a env M).bind fun wa M1 => (b env M1).bind fun wb M2 => (f wa wb M2).bind fun k M3 => match k with
  | .d (.bl true) => (c env M3).bind fun wc M4 => f' wb wc M4
  | .d (.bl false) => .ok (.d (.bl false)) M3
  | _ => .no
theorem ted_chain {f f' : Wv → Wv → Sto → Rs Wv} {r r' : R2} (k : Ok2 X.K cA f r) (k' : Ok2 X.K cA f' r') {σ : St} {H : Hp} {Q : VK} (h : TED X.K cA Wx (eChain f f' ma mb mc) σ H Q) :
    tChain r r' (TED X.K cA Wx ma) (TED X.K cA Wx mb) (TED X.K cA Wx mc) σ H Q := by
  obtain ⟨z, env, M, g, c, sl, q⟩ := h
  refine ⟨z, env, M, g, c, sl, Res.imp (fun wa M1 g1 H1 c1 l1 q1 x rx => ?_) q.of_bind⟩
  refine ⟨z, env, M1, g1, c1, sl.mono l1, Res.imp (fun wb M2 g2 H2 c2 l2 q2 y ry => ?_) q1.of_bind⟩
  refine k z g2 H2 M2 _ wa wb x y _ c2 (rx.mono l2) ry (Res.imp (fun kk M3 g3 H3 c3 l3 q3 v rv => ?_) q2.of_bind)
  cases kk with
  | m _ => exact q3.elim
  | d x =>
    cases x with
    | bl kb =>
      cases (show v = .bl kb from rv)
      refine ⟨kb, rfl, ?_⟩
      cases kb with
      | true =>
        refine iteT ?_
        refine ⟨z, env, M3, g3, c3, (sl.mono l1).mono (l2.trans l3), Res.imp (fun wc M4 g4 H4 c4 l4 q4 u ru => ?_) q3.of_bind⟩
        exact k' z g4 H4 M4 _ wb wc y u Q c4 (ry.mono (l3.trans l4)) ru q4
      | false => exact iteF (q3 H3 g3 c3 Le.refl _ rfl)
    | _ => exact q3.elim
theorem d_chain {op op' : CmpOp} {r r' : R2} {f f' : Wv → Wv → Sto → Rs Wv} (ho : OpR X (compareOp op) r) (ho' : OpR X (compareOp op') r') (k : Ok2 X.K cA f r) (k' : Ok2 X.K cA f' r')
    (ha : PE X a (TED X.K cA Wx ma)) (hb : PE X b (TED X.K cA Wx mb)) (hc : PE X c (TED X.K cA Wx mc)) (hm : lastMarks [op, op'] [b, c] = false := by with_unfolding_all rfl) :
    PE X (.Compare a [op, op'] [b, c] pos) (TED X.K cA Wx (eChain f f' ma mb mc)) := PE.imp (pe_chain ho ho' ha hb hc hm) fun σ H Q h => ted_chain k k' h
theorem t_chain {op op' : CmpOp} {r r' : R2} {f f' : Wv → Wv → Sto → Rs Wv} (ho : OpR X (compareOp op) r) (ho' : OpR X (compareOp op') r') (k : Ok2 X.K cA f r) (k' : Ok2 X.K cA f' r')
    (ha : PE X a (TED X.K cA Wx ma)) (hb : PE X b (TED X.K cA Wx mb)) (hc : PE X c (TED X.K cA Wx mc)) (hm : lastMarks [op, op'] [b, c] = false := by with_unfolding_all rfl) :
    PT X (.Compare a [op, op'] [b, c] pos) (TTD X.K cA Wx (tb (eChain f f' ma mb mc))) := PT.imp (pt_chain ho ho' ha hb hc hm) fun σ H Q h => ttd_of (fun _ _ _ q => ted_chain k k' q) h

/-! ### arithmetic -/
def mulOk (i j : Int) : Bool := decide (-(2 ^ 64) < i ∧ i < 2 ^ 64) || decide (-(2 ^ 64) < j ∧ j < 2 ^ 64) || decide (i.natAbs.log2 + j.natAbs.log2 < 1000000)
def divOk (j : Int) : Bool := decide (0 < j) && decide (j.natAbs.log2 < 9000)
def dSub : D → D → Option D
  | .int i, .int j => some (.int (i - j))
  | _, _ => none
def dMul : D → D → Option D
  | .int i, .int j => if mulOk i j then some (.int (i * j)) else none
  | _, _ => none
def dMod : D → D → Option D
  | .int i, .int j => if decide (0 < j) then some (.int (i % j)) else none
  | _, _ => none
def dDiv : D → D → Option D
  | .int i, .int j => if divOk j then some (.int (i / j)) else none
  | _, _ => none
def dPow : D → D → Option D
  | .int i, .int j => if decide (0 ≤ j ∧ j ≤ 1000000 ∧ i.natAbs < 2 ^ 64) then some (.int (i ^ j.toNat)) else none
  | _, _ => none
def dAdd : D → D → Option D
  | .int i, .int j => some (.int (i + j))
  | .str i, .str j => if i.length + j.length ≤ sizeLine then some (.str (i ++ j)) else none
  | .lst i, .lst j => if i.length + j.length ≤ sizeLine then some (.lst (i ++ j)) else none
  | .tup i, .tup j => if i.length + j.length ≤ sizeLine then some (.tup (i ++ j)) else none
  | _, _ => none
def dNeg : D → Option D
  | .int i => some (.int (-i))
  | _ => none
def rAddD (K : PySem.W.Frag) : R2 := fun x y H Q => ((rI0 (fun i j => .int (i + j)) x y H Q ∨ ∃ i j, x = .str i ∧ y = .str j ∧ i.length + j.length ≤ sizeLine ∧ Q (.str (i ++ j)) H) ∨ rCat x y H Q) ∨ rCatA K x y H Q
theorem op_addD : OpR X (binaryOp .Add) (rAddD X.K) := opOr (opOr (opOr op_add op_add_str) op_cat) op_catA
def rMulD : R2 := fun x y H Q => rI CMul (fun i j => .int (i * j)) x y H Q ∨ rI CMulW (fun i j => .int (i * j)) x y H Q
theorem op_mulD : OpR X (binaryOp .Mult) rMulD := opOr op_mul op_mulW
theorem ok_sub {K : PySem.W.Frag} : Ok2 K cA (pu2 dSub) (rI0 fun i j => .int (i - j)) := ok2_pure fun F a b d x y H Q s ra rb e k => by
  cases a <;> cases b <;> simp only [dSub] at e <;> first | cases e | skip
  exact ⟨_, _, ra, rb, k _ rfl⟩
theorem ok_mul {K : PySem.W.Frag} : Ok2 K cA (pu2 dMul) rMulD := ok2_pure fun F a b d x y H Q s ra rb e k => by
  cases a <;> cases b <;> simp only [dMul] at e <;> first | cases e | skip
  rename_i i j
  by_cases hm : mulOk i j = true
  · rw [if_pos hm] at e
    cases e
    unfold mulOk at hm
    rw [Bool.or_eq_true, Bool.or_eq_true] at hm
    rcases hm with (h | h) | h
    · exact .inl ⟨i, j, ra, rb, .inl (of_decide_eq_true h), k _ rfl⟩
    · exact .inl ⟨i, j, ra, rb, .inr (of_decide_eq_true h), k _ rfl⟩
    · exact .inr ⟨i, j, ra, rb, (show i.natAbs.log2 + j.natAbs.log2 < 1000000 from of_decide_eq_true h), k _ rfl⟩
  · rw [if_neg hm] at e
    cases e
theorem ok_mod {K : PySem.W.Frag} : Ok2 K cA (pu2 dMod) (rI (fun _ j => 0 < j) fun i j => .int (i % j)) := ok2_pure fun F a b d x y H Q s ra rb e k => by
  cases a <;> cases b <;> simp only [dMod] at e <;> first | cases e | skip
  rename_i i j
  by_cases hm : decide (0 < j) = true
  · rw [if_pos hm] at e
    cases e
    exact ⟨i, j, ra, rb, of_decide_eq_true hm, k _ rfl⟩
  · rw [if_neg hm] at e
    cases e
theorem ok_div {K : PySem.W.Frag} : Ok2 K cA (pu2 dDiv) (rI CDivW fun i j => .int (i / j)) := ok2_pure fun F a b d x y H Q s ra rb e k => by
  cases a <;> cases b <;> simp only [dDiv] at e <;> first | cases e | skip
  rename_i i j
  by_cases hm : divOk j = true
  · rw [if_pos hm] at e
    cases e
    unfold divOk at hm
    rw [Bool.and_eq_true] at hm
    exact ⟨i, j, ra, rb, ⟨of_decide_eq_true hm.1, of_decide_eq_true hm.2⟩, k _ rfl⟩
  · rw [if_neg hm] at e
    cases e
theorem ok_pow {K : PySem.W.Frag} : Ok2 K cA (pu2 dPow) (rI CPow fun i j => .int (i ^ j.toNat)) := ok2_pure fun F a b d x y H Q s ra rb e k => by
  cases a <;> cases b <;> simp only [dPow] at e <;> first | cases e | skip
  rename_i i j
  by_cases hm : decide (0 ≤ j ∧ j ≤ 1000000 ∧ i.natAbs < 2 ^ 64) = true
  · rw [if_pos hm] at e
    cases e
    exact ⟨i, j, ra, rb, (show 0 ≤ j ∧ j ≤ 1000000 ∧ i.natAbs < 2 ^ 64 from of_decide_eq_true hm), k _ rfl⟩
  · rw [if_neg hm] at e
    cases e
theorem ok_neg {K : PySem.W.Frag} : Ok1 K cA (pu1 dNeg) (rU fun i => .int (-i)) := ok1_pure fun F a d x H Q s ra e k => by
  cases a <;> simp only [dNeg] at e <;> first | cases e | skip
  exact ⟨_, ra, k _ rfl⟩
/-- a new frozen object as the answer -/
theorem Cf.ans {K : PySem.W.Frag} {z : Z0} {g : Gh} {H : Hp} {M : Sto} {E : Exn → Sto → Gh → Hp → Prop} {d : D} {Q : VK} (c : Cf K cA z H M g) (q : Res K cA z g M.length E (.ok (.d d) M : Rs Wv) (fun w M' g' H' => ∀ v, RW K cA g' M'.length w v → Q v H')) {p : Addr} {ho : HO} (hp : H p = none)
    (r : Rep K cA (upd g.F p ho) d (.ref p)) : Q (.ref p) (upd H p ho) := by
  obtain ⟨c', l⟩ := c.lay hp (ho := ho)
  exact q _ _ c' l _ r
theorem ok_add {K : PySem.W.Frag} : Ok2 K cA (pu2 dAdd) (rAddD K) := by
  intro z g H M E wx wy x y Q c rx ry q
  cases ea : nd M wx with
  | none => simp [pu2, ea, Res] at q
  | some a =>
    cases eb : nd M wy with
    | none => simp [pu2, ea, eb, Res] at q
    | some b =>
      have ra := nd_rep c rx ea
      have rb := nd_rep c ry eb
      simp only [pu2, ea, eb, Option.bind_some] at q
      cases a <;> cases b <;> simp only [dAdd, rsd_none, rsd_some] at q <;> try exact q.elim
      · rename_i i j
        exact .inl (.inl (.inl ⟨i, j, ra, rb, q H g c Le.refl _ rfl⟩))
      · rename_i i j
        by_cases hz : i.length + j.length ≤ sizeLine
        · rw [if_pos hz] at q
          exact .inl (.inl (.inr ⟨i, j, ra, rb, hz, q H g c Le.refl _ rfl⟩))
        · rw [if_neg hz] at q
          exact q.elim
      · rename_i i j
        by_cases hz : i.length + j.length ≤ sizeLine
        · rw [if_pos hz] at q
          obtain ⟨p, vs, rfl, h1, h2, h3⟩ := ra
          obtain ⟨p', us, rfl, k1, k2, k3⟩ := rb
          have hz' : vs.length + us.length ≤ sizeLine := by rw [← h3.length, ← k3.length]; exact hz
          refine .inr ⟨p, p', vs, us, rfl, rfl, c.sub.seqT h1, c.sub.seqT k1, hz', fun e => ?_, fun e e' => ?_, fun e e' t ht => ?_⟩
          · have : i = [] := by
              have := h3.length
              rw [e] at this
              exact List.length_eq_zero_iff.mp this
            subst this
            exact q H g c Le.refl _ ⟨p', us, rfl, k1, k2, k3⟩
          · have : j = [] := by
              have := k3.length
              rw [e'] at this
              exact List.length_eq_zero_iff.mp this
            subst this
            rw [List.append_nil] at q
            exact q H g c Le.refl _ ⟨p, vs, rfl, h1, h2, h3⟩
          · refine c.ans q ht ⟨t, vs ++ us, rfl, SqT.of upd_same, by rw [List.length_append]; exact hz', ?_⟩
            have sm := Same.upd' (o := HO.tup (vs ++ us)) (c.sub.free ht)
            exact RepL.append (h3.mono sm) (k3.mono sm)
        · rw [if_neg hz] at q
          exact q.elim
      · rename_i i j
        by_cases hz : i.length + j.length ≤ sizeLine
        · rw [if_pos hz] at q
          obtain ⟨p, vs, rfl, h1, h2, h3⟩ := ra
          obtain ⟨p', us, rfl, k1, k2, k3⟩ := rb
          have hz' : vs.length + us.length ≤ sizeLine := by rw [← h3.length, ← k3.length]; exact hz
          refine .inl (.inr ⟨p, p', vs, us, rfl, rfl, c.sub _ _ h1, c.sub _ _ k1, hz', fun t ht => ?_⟩)
          refine c.ans q ht ⟨t, vs ++ us, rfl, upd_same, by rw [List.length_append]; exact hz', ?_⟩
          have sm := Same.upd' (o := HO.lst (vs ++ us)) (c.sub.free ht)
          exact RepL.append (h3.mono sm) (k3.mono sm)
        · rw [if_neg hz] at q
          exact q.elim
theorem d_op {op : Operator} {r : R2} {f : Wv → Wv → Sto → Rs Wv} (ho : OpR X (binaryOp op) r) (k : Ok2 X.K cA f r) (ha : PE X a (TED X.K cA Wx ma)) (hb : PE X b (TED X.K cA Wx mb)) :
    PE X (.BinOp a op b pos) (TED X.K cA Wx (e2 f ma mb)) := PE.imp (pe_op ho ha hb) fun σ H Q h => ted2 k h
theorem d_add (ha : PE X a (TED X.K cA Wx ma)) (hb : PE X b (TED X.K cA Wx mb)) : PE X (.BinOp a .Add b pos) (TED X.K cA Wx (e2 (pu2 dAdd) ma mb)) := d_op op_addD ok_add ha hb
theorem d_sub (ha : PE X a (TED X.K cA Wx ma)) (hb : PE X b (TED X.K cA Wx mb)) : PE X (.BinOp a .Sub b pos) (TED X.K cA Wx (e2 (pu2 dSub) ma mb)) := d_op op_sub ok_sub ha hb
theorem d_mul (ha : PE X a (TED X.K cA Wx ma)) (hb : PE X b (TED X.K cA Wx mb)) : PE X (.BinOp a .Mult b pos) (TED X.K cA Wx (e2 (pu2 dMul) ma mb)) := d_op op_mulD ok_mul ha hb
theorem d_mod (ha : PE X a (TED X.K cA Wx ma)) (hb : PE X b (TED X.K cA Wx mb)) : PE X (.BinOp a .Mod b pos) (TED X.K cA Wx (e2 (pu2 dMod) ma mb)) := d_op op_mod ok_mod ha hb
theorem d_div (ha : PE X a (TED X.K cA Wx ma)) (hb : PE X b (TED X.K cA Wx mb)) : PE X (.BinOp a .FloorDiv b pos) (TED X.K cA Wx (e2 (pu2 dDiv) ma mb)) := d_op op_fdivW ok_div ha hb
theorem d_pow (ha : PE X a (TED X.K cA Wx ma)) (hb : PE X b (TED X.K cA Wx mb)) : PE X (.BinOp a .Pow b pos) (TED X.K cA Wx (e2 (pu2 dPow) ma mb)) := d_op op_pow ok_pow ha hb
theorem d_neg (ha : PE X a (TED X.K cA Wx ma)) : PE X (.UnaryOp .USub a pos) (TED X.K cA Wx (e1 (pu1 dNeg) ma)) := PE.imp (pe_un un_neg ha) fun σ H Q h => ted1 ok_neg h
end
end DL

/-! Layer D: sequences, truth, displays, fields, built-ins. -/
namespace DL
open PySem PySem.Spec PyProof.Rows L2

/-- what a value reads as: the frozen ones as data -/
def nw (M : Sto) : Wv → Wv
  | .d x => .d x
  | .m k => match M[k]? with
    | some (.fz x) => .d x
    | _ => .m k
@[simp] theorem nw_d (M : Sto) (x : D) : nw M (.d x) = .d x := rfl
/-- a list's (true) or a tuple's items -/
def seqw (M : Sto) (w : Wv) : Option (Bool × List Wv) := match nw M w with
  | .d (.tup l) => some (false, l.map .d)
  | .d (.lst l) => some (true, l.map .d)
  | .d (.scr l) => some (true, l.map .d)
  | .d _ => none
  | .m k => match M[k]? with
    | some (.lst ws) => some (true, ws)
    | some (.tup ws) => some (false, ws)
    | _ => none
@[simp] theorem seqw_tup (M : Sto) (l : List D) : seqw M (.d (.tup l)) = some (false, l.map .d) := rfl
@[simp] theorem seqw_lst (M : Sto) (l : List D) : seqw M (.d (.lst l)) = some (true, l.map .d) := rfl
@[simp] theorem seqw_scr (M : Sto) (l : List D) : seqw M (.d (.scr l)) = some (true, l.map .d) := rfl
section
variable {K : PySem.W.Frag} {cA : CA} {z : Z0} {g : Gh} {n : Nat} {H : Hp} {M : Sto}
theorem rw_nw (c : Cf K cA z H M g) : ∀ {w : Wv} {v : V}, RW K cA g M.length w v → RW K cA g M.length (nw M w) v
  | .d _, _, r => r
  | .m k, v, r => by
    obtain ⟨hk, rfl⟩ := r
    have r0 : RW K cA g M.length (.m k) (.ref (g.ad k)) := ⟨hk, rfl⟩
    cases q : M[k]? with
    | none =>
      simp only [nw, q]
      exact r0
    | some mo =>
      cases mo with
      | fz x =>
        simp only [nw, q]
        exact (c.sto k _ q).1
      | _ =>
        simp only [nw, q]
        exact r0
theorem RepL.wd {F : Hp} {g : Gh} (hF : g.F = F) : ∀ {l : List D} {vs : List V}, RepL K cA F l vs → Paired (RW K cA g n) (l.map .d) vs
  | [], _, h => by cases (show _ = [] from h); exact .nil
  | x :: l, _, h => by
    obtain ⟨v, r, rfl, h1, h2⟩ := h
    subst hF
    exact .cons h1 (RepL.wd rfl h2)
theorem seqw_at (c : Cf K cA z H M g) {w : Wv} {v : V} {b : Bool} {ws : List Wv} (r : RW K cA g M.length w v) (e : seqw M w = some (b, ws)) :
    ∃ a vs, v = .ref a ∧ (if b = true then SqL K H a vs else SqT K H a vs) ∧ vs.length ≤ sizeLine ∧ Paired (RW K cA g M.length) ws vs := by
  have r' := rw_nw c r
  cases q : nw M w with
  | m k =>
    rw [q] at r'
    simp only [seqw, q] at e
    cases q2 : M[k]? with
    | none => simp [q2] at e
    | some mo =>
      cases mo with
      | lst us =>
        simp only [q2, Option.some.injEq, Prod.mk.injEq] at e
        obtain ⟨rfl, rfl⟩ := e
        obtain ⟨vs, h1, h2, h3, h4⟩ := c.sto k _ q2
        exact ⟨_, vs, r'.2, by simpa using SqL.of h1, by rw [← h4.length]; exact h3, h4⟩
      | tup us =>
        simp only [q2, Option.some.injEq, Prod.mk.injEq] at e
        obtain ⟨rfl, rfl⟩ := e
        obtain ⟨vs, h1, h2, h3, h4⟩ := c.sto k _ q2
        exact ⟨_, vs, r'.2, by simpa using SqT.of h1, by rw [← h4.length]; exact h3, h4⟩
      | _ => simp [q2] at e
  | d x =>
    rw [q] at r'
    simp only [seqw, q] at e
    cases x <;> simp only [Option.some.injEq, Prod.mk.injEq, reduceCtorEq] at e
    · obtain ⟨rfl, rfl⟩ := e
      obtain ⟨a, vs, rfl, h1, h2, h3⟩ := r'
      exact ⟨a, vs, rfl, by simpa using c.sub.seqT h1, h2, h3.wd rfl⟩
    · obtain ⟨rfl, rfl⟩ := e
      obtain ⟨a, vs, rfl, h1, h2, h3⟩ := r'
      exact ⟨a, vs, rfl, by simpa using SqL.of (c.sub _ _ h1), h2, h3.wd rfl⟩
    · obtain ⟨rfl, rfl⟩ := e
      obtain ⟨a, vs, rfl, h1, h2, h3⟩ := r'
      exact ⟨a, vs, rfl, by simpa using c.sub.seq h1, h2, h3.wd rfl⟩
theorem seqw_or (c : Cf K cA z H M g) {w : Wv} {v : V} {b : Bool} {ws : List Wv} (r : RW K cA g M.length w v) (e : seqw M w = some (b, ws)) :
    ∃ a vs, v = .ref a ∧ (SqL K H a vs ∨ SqT K H a vs) ∧ vs.length ≤ sizeLine ∧ Paired (RW K cA g M.length) ws vs := by
  obtain ⟨a, vs, rfl, h, h2, h3⟩ := seqw_at c r e
  refine ⟨a, vs, rfl, ?_, h2, h3⟩
  cases b with
  | true => exact .inl (by simpa using h)
  | false => exact .inr (by simpa using h)
end

/-! ### truth -/
def truw (M : Sto) (w : Wv) : Option Bool := match nw M w with
  | .d .non => some false
  | .d (.bl b) => some b
  | .d (.int i) => some (i != 0)
  | .d (.str x) => if x.length ≤ sizeLine then some ((x.length : Int) != 0) else none
  | .d (.tup l) => some (!l.isEmpty)
  | .d (.lst l) => some (!l.isEmpty)
  | .d (.scr l) => some (!l.isEmpty)
  | .d (.dic ks _) => some (!ks.isEmpty)
  | .d (.obj _ _ _) => none
  | .d (.fn _ _) => none
  | .m k => match M[k]? with
    | some (.lst ws) => some (!ws.isEmpty)
    | some (.tup ws) => some (!ws.isEmpty)
    | some (.dic ks _) => some (!ks.isEmpty)
    | _ => none
section
variable {K : PySem.W.Frag} {cA : CA} {z : Z0} {g : Gh} {n : Nat} {H : Hp} {M : Sto}
theorem empty_len {α β : Type} {l : List α} {r : List β} (h : l.length = r.length) : (!l.isEmpty) = !r.isEmpty := by
  cases l <;> cases r <;> simp_all
theorem zip_empty {α β : Type} {l : List α} {r : List β} (h : l.length = r.length) : (l.zip r).isEmpty = l.isEmpty := by
  cases l <;> cases r <;> simp_all
theorem truw_at (c : Cf K cA z H M g) {w : Wv} {v : V} {b : Bool} (r : RW K cA g M.length w v) (e : truw M w = some b) : TruV K v H b := by
  have r' := rw_nw c r
  cases q : nw M w with
  | m k =>
    rw [q] at r'
    obtain ⟨hk, rfl⟩ := r'
    simp only [truw, q] at e
    cases q2 : M[k]? with
    | none => simp [q2] at e
    | some mo =>
      cases mo with
      | lst us =>
        simp only [q2, Option.some.injEq] at e
        obtain ⟨vs, h1, h2, h3, h4⟩ := c.sto k _ q2
        exact .inl ⟨vs, SqL.of h1, by rw [← e]; exact empty_len h4.length⟩
      | tup us =>
        simp only [q2, Option.some.injEq] at e
        obtain ⟨vs, h1, h2, h3, h4⟩ := c.sto k _ q2
        exact .inr (.inl ⟨vs, SqT.of h1, by rw [← e]; exact empty_len h4.length⟩)
      | dic ks us =>
        simp only [q2, Option.some.injEq] at e
        obtain ⟨vs, h1, h2, h3, h4⟩ := c.sto k _ q2
        exact .inr (.inr ⟨_, h1, by rw [← e, zip_empty h3]⟩)
      | _ => simp [q2] at e
  | d x =>
    rw [q] at r'
    simp only [truw, q] at e
    cases x with
    | non => cases (show v = .non from r'); exact (Option.some.inj e).symm
    | bl k => cases (show v = .bl k from r'); exact (Option.some.inj e).symm
    | int k => cases (show v = .int k from r'); exact (Option.some.inj e).symm
    | str k =>
      cases (show v = .str k from r')
      have e' : (if k.length ≤ sizeLine then some ((k.length : Int) != 0) else none) = some b := e
      by_cases hz : k.length ≤ sizeLine
      · rw [if_pos hz] at e'
        exact ⟨hz, (Option.some.inj e').symm⟩
      · rw [if_neg hz] at e'
        cases e'
    | tup l =>
      obtain ⟨a, vs, rfl, h1, h2, h3⟩ := r'
      exact .inr (.inl ⟨vs, c.sub.seqT h1, by rw [← Option.some.inj e]; exact empty_len h3.length⟩)
    | lst l =>
      obtain ⟨a, vs, rfl, h1, h2, h3⟩ := r'
      exact .inl ⟨vs, SqL.of (c.sub _ _ h1), by rw [← Option.some.inj e]; exact empty_len h3.length⟩
    | scr l =>
      obtain ⟨a, vs, rfl, h1, h2, h3⟩ := r'
      exact .inl ⟨vs, c.sub.seq h1, by rw [← Option.some.inj e]; exact empty_len h3.length⟩
    | dic ks l =>
      obtain ⟨a, vs, rfl, h1, h2, h3⟩ := r'
      exact .inr (.inr ⟨_, c.sub _ _ h1, by rw [← Option.some.inj e, zip_empty h2]⟩)
    | obj _ _ _ => cases e
    | fn _ _ => cases e
end
section
variable {X : Cx} {cA : CA} {Wx : WX} {a b c : Expr} {ma mb mc : ED} {ta tc : TD} {pos : Pos} {rest : List Expr}
def tTru (m : ED) : TD := fun env M => (m env M).bind fun w M1 => match truw M1 w with
  | some k => .ok k M1
  | none => .no
theorem ttd_tru {m : ED} {σ : St} {H : Hp} {Q : Bool → Hp → Prop} (h : TTD X.K cA Wx (tTru m) σ H Q) : TED X.K cA Wx m σ H fun x H' => ∃ k, TruV X.K x H' k ∧ Q k H' := by
  obtain ⟨z, env, M, g, c, sl, q⟩ := h
  refine ⟨z, env, M, g, c, sl, Res.imp (fun w M1 g1 H1 c1 l1 q1 v rv => ?_) q.of_bind⟩
  cases e : truw M1 w with
  | none => simp [e, Res] at q1
  | some k =>
    simp only [e] at q1
    exact ⟨k, truw_at c1 rv e, q1 H1 g1 c1 Le.refl⟩
/-- any expression as a test (no comparison, no and, or, not) -/
theorem t_tru (ha : PE X a (TED X.K cA Wx ma)) (he : ∀ whole, isTrue a X.env whole = (do let v ← whole; standAt a.pos; holding [v] (truthy v)) := by intro _; rfl) : PT X a (TTD X.K cA Wx (tTru ma)) :=
  PT.imp (pt_truth ha he) fun σ H Q h => ttd_tru h
def tNt (t : TD) : TD := fun env M => (t env M).bind fun k M1 => .ok (!k) M1
theorem t_not (ha : PT X a (TTD X.K cA Wx ta)) : PT X (.UnaryOp .Not a pos) (TTD X.K cA Wx (tNt ta)) := PT.imp (pt_not ha) fun σ H Q h => by
  obtain ⟨z, env, M, g, c, sl, q⟩ := h
  exact ⟨z, env, M, g, c, sl, Res.imp (fun k M1 g1 H1 c1 l1 q1 => q1 H1 g1 c1 Le.refl) q.of_bind⟩
def tAn (t u : TD) : TD := fun env M => (t env M).bind fun k M1 => if k = true then u env M1 else .ok false M1
def tO (t u : TD) : TD := fun env M => (t env M).bind fun k M1 => if k = true then .ok true M1 else u env M1
theorem w_and1 (ha : PT X a (TTD X.K cA Wx ta)) : PW X (.BoolOp .And [a] pos) (TTD X.K cA Wx ta) := pw_and1 ha
theorem w_or1 (ha : PT X a (TTD X.K cA Wx ta)) : PW X (.BoolOp .Or [a] pos) (TTD X.K cA Wx ta) := pw_or1 ha
theorem w_and (ha : PT X a (TTD X.K cA Wx ta)) (hb : PW X (.BoolOp .And (b :: rest) pos) (TTD X.K cA Wx tc)) : PW X (.BoolOp .And (a :: b :: rest) pos) (TTD X.K cA Wx (tAn ta tc)) := PW.imp (pw_and ha hb) fun σ H Q h => by
  obtain ⟨z, env, M, g, c, sl, q⟩ := h
  refine ⟨z, env, M, g, c, sl, Res.imp (fun k M1 g1 H1 c1 l1 q1 => ?_) q.of_bind⟩
  cases k with
  | true => exact iteT ⟨z, env, M1, g1, c1, sl.mono l1, q1⟩
  | false => exact iteF (q1 H1 g1 c1 Le.refl)
theorem w_or (ha : PT X a (TTD X.K cA Wx ta)) (hb : PW X (.BoolOp .Or (b :: rest) pos) (TTD X.K cA Wx tc)) : PW X (.BoolOp .Or (a :: b :: rest) pos) (TTD X.K cA Wx (tO ta tc)) := PW.imp (pw_or ha hb) fun σ H Q h => by
  obtain ⟨z, env, M, g, c, sl, q⟩ := h
  refine ⟨z, env, M, g, c, sl, Res.imp (fun k M1 g1 H1 c1 l1 q1 => ?_) q.of_bind⟩
  cases k with
  | true => exact iteT (q1 H1 g1 c1 Le.refl)
  | false => exact iteF ⟨z, env, M1, g1, c1, sl.mono l1, q1⟩
/-- and, or, not as values -/
def eAnd (a b : ED) : ED := fun env M => (a env M).bind fun w M1 => match truw M1 w with
  | some k => if k = true then b env M1 else .ok w M1
  | none => .no
def eOr (a b : ED) : ED := fun env M => (a env M).bind fun w M1 => match truw M1 w with
  | some k => if k = true then .ok w M1 else b env M1
  | none => .no
def eNot (a : ED) : ED := fun env M => (a env M).bind fun w M1 => match truw M1 w with
  | some k => .ok (.d (.bl (!k))) M1
  | none => .no
theorem d_one {op} (ha : PE X a (TED X.K cA Wx ma)) : PE X (.BoolOp op [a] pos) (TED X.K cA Wx ma) := pe_one ha
theorem d_and (ha : PE X a (TED X.K cA Wx ma)) (hb : PE X (.BoolOp .And (b :: rest) pos) (TED X.K cA Wx mb)) : PE X (.BoolOp .And (a :: b :: rest) pos) (TED X.K cA Wx (eAnd ma mb)) := PE.imp (pe_andT ha hb) fun σ H Q h => by
  obtain ⟨z, env, M, g, c, sl, q⟩ := h
  refine ⟨z, env, M, g, c, sl, Res.imp (fun w M1 g1 H1 c1 l1 q1 v rv => ?_) q.of_bind⟩
  cases e : truw M1 w with
  | none => simp [e, Res] at q1
  | some k =>
    simp only [e] at q1
    refine ⟨k, truw_at c1 rv e, ?_⟩
    cases k with
    | true => exact iteT ⟨z, env, M1, g1, c1, sl.mono l1, q1⟩
    | false => exact iteF (q1 H1 g1 c1 Le.refl v rv)
theorem d_or (ha : PE X a (TED X.K cA Wx ma)) (hb : PE X (.BoolOp .Or (b :: rest) pos) (TED X.K cA Wx mb)) : PE X (.BoolOp .Or (a :: b :: rest) pos) (TED X.K cA Wx (eOr ma mb)) := PE.imp (pe_orT ha hb) fun σ H Q h => by
  obtain ⟨z, env, M, g, c, sl, q⟩ := h
  refine ⟨z, env, M, g, c, sl, Res.imp (fun w M1 g1 H1 c1 l1 q1 v rv => ?_) q.of_bind⟩
  cases e : truw M1 w with
  | none => simp [e, Res] at q1
  | some k =>
    simp only [e] at q1
    refine ⟨k, truw_at c1 rv e, ?_⟩
    cases k with
    | true => exact iteT (q1 H1 g1 c1 Le.refl v rv)
    | false => exact iteF ⟨z, env, M1, g1, c1, sl.mono l1, q1⟩
theorem d_not (ha : PE X a (TED X.K cA Wx ma)) : PE X (.UnaryOp .Not a pos) (TED X.K cA Wx (eNot ma)) := PE.imp (pe_notT ha) fun σ H Q h => by
  obtain ⟨z, env, M, g, c, sl, q⟩ := h
  refine ⟨z, env, M, g, c, sl, Res.imp (fun w M1 g1 H1 c1 l1 q1 v rv => ?_) q.of_bind⟩
  cases e : truw M1 w with
  | none => simp [e, Res] at q1
  | some k =>
    simp only [e] at q1
    exact ⟨k, truw_at c1 rv e, q1 H1 g1 c1 Le.refl _ rfl⟩
def eIf (t : TD) (a b : ED) : ED := fun env M => (t env M).bind fun k M1 => if k = true then a env M1 else b env M1
theorem d_if {e : Expr} (ht : PT X e (TTD X.K cA Wx ta)) (ha : PE X a (TED X.K cA Wx ma)) (hb : PE X b (TED X.K cA Wx mb)) : PE X (.IfExp e a b pos) (TED X.K cA Wx (eIf ta ma mb)) := PE.imp (pe_ifExp ht ha hb) fun σ H Q h => by
  obtain ⟨z, env, M, g, c, sl, q⟩ := h
  refine ⟨z, env, M, g, c, sl, Res.imp (fun k M1 g1 H1 c1 l1 q1 => ?_) q.of_bind⟩
  cases k with
  | true => exact iteT ⟨z, env, M1, g1, c1, sl.mono l1, q1⟩
  | false => exact iteF ⟨z, env, M1, g1, c1, sl.mono l1, q1⟩

/-! ### argument lists, displays -/
def aNil : AD := fun _ M => .ok [] M
def aCons (a : ED) (r : AD) : AD := fun env M => (a env M).bind fun w M1 => (r env M1).bind fun ws M2 => .ok (w :: ws) M2
theorem a_nil : PA X [] (TAD X.K cA Wx aNil) := PA.imp pa_nil fun σ H Q ⟨z, env, M, g, c, sl, q⟩ => q H g c Le.refl [] .nil
theorem a_cons {es : List Expr} {mr : AD} (ha : PE X a (TED X.K cA Wx ma)) (hr : PA X es (TAD X.K cA Wx mr)) (hs : starEach (a :: es) X.env = (false, eval a X.env) :: starEach es X.env := by rfl) : PA X (a :: es) (TAD X.K cA Wx (aCons ma mr)) :=
  PA.imp (pa_cons ha hr hs) fun σ H Q ⟨z, env, M, g, c, sl, q⟩ => by
    refine ⟨z, env, M, g, c, sl, Res.imp (fun w M1 g1 H1 c1 l1 q1 v rv => ?_) q.of_bind⟩
    refine ⟨z, env, M1, g1, c1, sl.mono l1, Res.imp (fun ws M2 g2 H2 c2 l2 q2 vs rvs => ?_) q1.of_bind⟩
    exact q2 H2 g2 c2 Le.refl _ (.cons (rv.mono l2) rvs)
/-- all of them data -/
def nds (M : Sto) : List Wv → Option (List D)
  | [] => some []
  | w :: ws => match nd M w, nds M ws with
    | some x, some l => some (x :: l)
    | _, _ => none
@[simp] theorem nds_d (M : Sto) : ∀ l : List D, nds M (l.map .d) = some l
  | [] => rfl
  | x :: l => by
    rw [List.map_cons, nds, nds_d M l]
    rfl
theorem nds_rep {K : PySem.W.Frag} {z : Z0} {g : Gh} {H : Hp} {M : Sto} (c : Cf K cA z H M g) : ∀ {ws : List Wv} {vs : List V} {l : List D}, Paired (RW K cA g M.length) ws vs → nds M ws = some l → RepL K cA g.F l vs
  | [], _, _, .nil, e => by cases (Option.some.inj e); exact rfl
  | w :: ws, _, l, .cons r t, e => by
    cases q : nd M w with
    | none => simp [nds, q] at e
    | some x =>
      cases q2 : nds M ws with
      | none => simp [nds, q, q2] at e
      | some l' =>
        simp only [nds, q, q2, Option.some.injEq] at e
        subst e
        exact ⟨_, _, rfl, nd_rep c r q, nds_rep c t q2⟩
def eTup (a : AD) : ED := fun env M => (a env M).bind fun ws M1 => match nds M1 ws with
  | some l => if l.length ≤ sizeLine then .ok (.d (.tup l)) M1 else .no
  | none => .no
def eLst (a : AD) : ED := fun env M => (a env M).bind fun ws M1 => match nds M1 ws with
  | some l => if l.length ≤ sizeLine then .ok (.d (.lst l)) M1 else .no
  | none => .no
/-- a list that is to be changed -/
def eLstM (a : AD) : ED := fun env M => (a env M).bind fun ws M1 => if ws.length ≤ sizeLine then .ok (.m M1.length) (M1 ++ [.lst ws]) else .no
section
variable {es : List Expr} {mr : AD}
theorem d_tup {x1} (h : PA X es (TAD X.K cA Wx mr)) : PE X (.Tuple es x1 pos) (TED X.K cA Wx (eTup mr)) := PE.imp (pe_tup h) fun σ H Q ⟨z, env, M, g, c, sl, q⟩ => by
  refine ⟨z, env, M, g, c, sl, Res.imp (fun ws M1 g1 H1 c1 l1 q1 vs rvs => ?_) q.of_bind⟩
  cases e : nds M1 ws with
  | none => simp [e, Res] at q1
  | some l =>
    simp only [e] at q1
    have rl := nds_rep c1 rvs e
    by_cases hz : l.length ≤ sizeLine
    · rw [if_pos hz] at q1
      have hz' : vs.length ≤ sizeLine := by rw [← rl.length]; exact hz
      exact ⟨hz', fun p hp => c1.ans q1 hp ⟨p, vs, rfl, SqT.of upd_same, hz', rl.mono (Same.upd' (c1.sub.free hp))⟩⟩
    · rw [if_neg hz] at q1
      exact q1.elim
theorem d_lst (h : PA X es (TAD X.K cA Wx mr)) : PE X (.List es pos) (TED X.K cA Wx (eLst mr)) := PE.imp (pe_lst h) fun σ H Q ⟨z, env, M, g, c, sl, q⟩ => by
  refine ⟨z, env, M, g, c, sl, Res.imp (fun ws M1 g1 H1 c1 l1 q1 vs rvs => ?_) q.of_bind⟩
  cases e : nds M1 ws with
  | none => simp [e, Res] at q1
  | some l =>
    simp only [e] at q1
    have rl := nds_rep c1 rvs e
    by_cases hz : l.length ≤ sizeLine
    · rw [if_pos hz] at q1
      have hz' : vs.length ≤ sizeLine := by rw [← rl.length]; exact hz
      exact ⟨hz', fun p hp => c1.ans q1 hp ⟨p, vs, rfl, upd_same, hz', rl.mono (Same.upd' (c1.sub.free hp))⟩⟩
    · rw [if_neg hz] at q1
      exact q1.elim
theorem d_lstM (h : PA X es (TAD X.K cA Wx mr)) : PE X (.List es pos) (TED X.K cA Wx (eLstM mr)) := PE.imp (pe_lst h) fun σ H Q ⟨z, env, M, g, c, sl, q⟩ => by
  refine ⟨z, env, M, g, c, sl, Res.imp (fun ws M1 g1 H1 c1 l1 q1 vs rvs => ?_) q.of_bind⟩
  by_cases hz : ws.length ≤ sizeLine
  · rw [if_pos hz] at q1
    have hz' : vs.length ≤ sizeLine := by rw [← rvs.length]; exact hz
    refine ⟨hz', fun p hp => ?_⟩
    have fp : g1.F p = none := c1.sub.free hp
    have lad : ∀ k, k < M1.length → (g1.add M1.length p).ad k = g1.ad k := fun k hk => if_neg (Nat.ne_of_lt hk)
    obtain ⟨c2, l2⟩ := c1.new (mo := .lst ws) (ho := .lst vs) hp ⟨vs, upd_same, fp, hz, RWs.mono (show Le g1 M1.length (g1.add M1.length p) (M1.length + 1) from ⟨Same.refl g1.F, lad, Nat.le_succ _⟩) rvs⟩
    refine q1 _ _ c2 l2 _ ⟨by rw [List.length_append]; exact Nat.lt_succ_self _, ?_⟩
    show V.ref p = .ref ((g1.add M1.length p).ad M1.length)
    rw [show (g1.add M1.length p).ad M1.length = p from if_pos rfl]
  · rw [if_neg hz] at q1
    exact q1.elim
end

/-! ### subscripts, slices, len -/
def ixw (w u : Wv) (M : Sto) : Rs Wv := match u with
  | .d (.int i) => match seqw M w with
    | some (_, ws) => match atI ws i with
      | some x => .ok x M
      | none => .no
    | none => match nw M w with
      | .d (.str s) => if s.length ≤ sizeLine then match atI s.cps.toList i with
          | some c => .ok (.d (.str ⟨#[c]⟩)) M
          | none => .no
        else .no
      | _ => .no
  | _ => .no
theorem paired_atI {α β : Type} {P : α → β → Prop} {l : List α} {r : List β} {i : Int} {a : α} (p : Paired P l r) (e : atI l i = some a) : ∃ b, atI r i = some b ∧ P a b := by
  unfold atI at e ⊢
  rw [← p.length]
  cases q : ixN l.length i with
  | none => simp [q] at e
  | some j =>
    simp only [q, Option.bind_some] at e ⊢
    exact Paired.get' p e
theorem ok_ix {K : PySem.W.Frag} : Ok2 K cA ixw (fun x y H Q => (rIxL K x y H Q ∨ rIxT K x y H Q) ∨ rIxS x y H Q) := by
  intro z g H M E wx wy x y Q c rx ry q
  cases wy with
  | m k => exact q.elim
  | d u =>
    cases u with
    | int i =>
      cases (show y = .int i from ry)
      simp only [ixw] at q
      cases e : seqw M wx with
      | some p =>
        obtain ⟨b, ws⟩ := p
        simp only [e] at q
        cases e2 : atI ws i with
        | none => simp [e2, Res] at q
        | some w =>
          simp only [e2] at q
          obtain ⟨a, vs, rfl, h1, h2, h3⟩ := seqw_or c rx e
          obtain ⟨v, h4, h5⟩ := paired_atI h3 e2
          rcases h1 with h1 | h1
          · exact .inl (.inl ⟨a, vs, i, v, rfl, rfl, h1, h4, q H g c Le.refl v h5⟩)
          · exact .inl (.inr ⟨a, vs, i, v, rfl, rfl, h1, h4, q H g c Le.refl v h5⟩)
      | none =>
        simp only [e] at q
        have r' := rw_nw c rx
        cases e2 : nw M wx with
        | m k => simp [e2, Res] at q
        | d d =>
          rw [e2] at r'
          cases d with
          | str s =>
            simp only [e2] at q
            by_cases hz : s.length ≤ sizeLine
            · rw [if_pos hz] at q
              cases e3 : atI s.cps.toList i with
              | none => simp [e3, Res] at q
              | some ch =>
                simp only [e3] at q
                cases (show x = .str s from r')
                exact .inr ⟨s, i, ch, rfl, rfl, hz, e3, q H g c Le.refl _ rfl⟩
            · rw [if_neg hz] at q
              exact q.elim
          | _ => simp [e2, Res] at q
    | _ => exact q.elim
theorem d_ix (ha : PE X a (TED X.K cA Wx ma)) (hb : PE X b (TED X.K cA Wx mb)) (hs : PlainIx b := by intro _ _; rfl) : PE X (.Subscript a b pos) (TED X.K cA Wx (e2 ixw ma mb)) :=
  PE.imp (pe_ix (IxR.or (IxR.or ix_list ix_tup) ix_str) ha hb hs) fun σ H Q h => ted2 ok_ix h
/-- len, list, tuple .. of values -/
def Ok1L (K : PySem.W.Frag) (cA : CA) (f : Wv → Sto → Rs Wv) (r : List V → Hp → VK → Prop) : Prop := Ok1 K cA f fun x H Q => r [x] H Q
theorem d_callB1 {x : Str} {id : String} {p : Pos} {f : Wv → Sto → Rs Wv} {r : List V → Hp → VK → Prop} (hc : CallR X (.builtin id) r) (k : Ok1L X.K cA f r) (hg : Gl X x) (hm : X.mg x = none) (hv : bootBuiltins x = some (.builtin id)) (ha : PE X a (TED X.K cA Wx ma))
    (hs : starEach (a :: []) X.env = (false, eval a X.env) :: starEach [] X.env := by rfl) (hx : PE X (.Call (.Name x p) [a] [] pos) (tCB r (tCons (TED X.K cA Wx ma) tNil))) : PE X (.Call (.Name x p) [a] [] pos) (TED X.K cA Wx (e1 f ma)) :=
  PE.imp hx fun σ H Q h => ted1 (r := fun x H Q => r [x] H Q) k h
end
end DL

/-! Layer D: calls of built-ins, fields, methods of built-in types, slices, in. -/
namespace DL
open PySem PySem.Spec PyProof.Rows L2

/-- what a call with one argument, with two arguments has to show -/
def OkL (K : PySem.W.Frag) (cA : CA) (f : List Wv → Sto → Rs Wv) (r : List V → Hp → VK → Prop) : Prop := ∀ (z : Z0) (g : Gh) (H : Hp) (M : Sto) (E : Exn → Sto → Gh → Hp → Prop) (ws : List Wv) (vs : List V) (Q : VK), Cf K cA z H M g → Paired (RW K cA g M.length) ws vs →
  Res K cA z g M.length E (f ws M) (fun w M' g' H' => ∀ v, RW K cA g' M'.length w v → Q v H') → r vs H Q
def eL (f : List Wv → Sto → Rs Wv) (a : AD) : ED := fun env M => (a env M).bind fun ws M1 => f ws M1
section
variable {X : Cx} {cA : CA} {Wx : WX} {a b c e : Expr} {es : List Expr} {ma mb mc : ED} {mr : AD} {ta tc : TD} {x : Str} {p pos apos : Pos} {id T : String} {r : List V → Hp → VK → Prop} {f : List Wv → Sto → Rs Wv}
theorem tedL (k : OkL X.K cA f r) {σ : St} {H : Hp} {Q : VK} (h : TED X.K cA Wx (eL f mr) σ H Q) : tCB r (TAD X.K cA Wx mr) σ H Q := by
  obtain ⟨z, env, M, g, c, sl, q⟩ := h
  refine ⟨z, env, M, g, c, sl, Res.imp (fun ws M1 g1 H1 c1 l1 q1 vs rv => ?_) q.of_bind⟩
  exact k z g1 H1 M1 _ ws vs Q c1 rv q1
theorem d_callB (k : OkL X.K cA f r) (hc : CallR X (.builtin id) r) (hm : X.mg x = none) (ha : PA X (e :: es) (TAD X.K cA Wx mr)) (hg : Gl X x := by rfl) (hv : bootBuiltins x = some (.builtin id) := by decide +kernel) (hn : x ≠ "__name__" := by decide) (hdb : (x == ("__debug__" : Str)) = false := by decide)
    (he : starEach (e :: es) X.env = (false, eval e X.env) :: starEach es X.env := by rfl) (hpl : (backTo pos (starEach es X.env)).any (·.1) = false := by rfl) : PE X (.Call (.Name x p) (e :: es) [] pos) (TED X.K cA Wx (eL f mr)) :=
  PE.imp (pe_callB hc hg hm hv ha hn hdb he hpl) fun σ H Q h => tedL k h
theorem d_callT (k : OkL X.K cA f r) (hc : CallR X (.type T) r) (hm : X.mg x = none) (ha : PA X (e :: es) (TAD X.K cA Wx mr)) (hg : Gl X x := by rfl) (hv : bootBuiltins x = some (.type T) := by decide +kernel) (hn : x ≠ "__name__" := by decide) (hdb : (x == ("__debug__" : Str)) = false := by decide)
    (he : starEach (e :: es) X.env = (false, eval e X.env) :: starEach es X.env := by rfl) (hpl : (backTo pos (starEach es X.env)).any (·.1) = false := by rfl) : PE X (.Call (.Name x p) (e :: es) [] pos) (TED X.K cA Wx (eL f mr)) :=
  PE.imp (pe_callTy hc hg hm hv ha hn hdb he hpl) fun σ H Q h => tedL k h
/-- one argument's function -/
def f1 (f : Wv → Sto → Rs Wv) : List Wv → Sto → Rs Wv := fun ws M => match ws with
  | [w] => f w M
  | _ => .no
def f2 (f : Wv → Wv → Sto → Rs Wv) : List Wv → Sto → Rs Wv := fun ws M => match ws with
  | [w, u] => f w u M
  | _ => .no
@[simp] theorem f1_one (f : Wv → Sto → Rs Wv) (w : Wv) (M : Sto) : f1 f [w] M = f w M := rfl
@[simp] theorem f2_two (f : Wv → Wv → Sto → Rs Wv) (w u : Wv) (M : Sto) : f2 f [w, u] M = f w u M := rfl
theorem okL1 {K : PySem.W.Frag} {f : Wv → Sto → Rs Wv} {r : List V → Hp → VK → Prop} (k : Ok1 K cA f fun x H Q => r [x] H Q) : OkL K cA (f1 f) r := by
  intro z g H M E ws vs Q c rv q
  match ws, rv, q with
  | [], _, q => exact q.elim
  | [w], .cons r1 .nil, q => exact k z g H M E w _ Q c r1 q
  | _ :: _ :: _, _, q => exact q.elim
theorem okL2 {K : PySem.W.Frag} {f : Wv → Wv → Sto → Rs Wv} {r : List V → Hp → VK → Prop} (k : Ok2 K cA f fun x y H Q => r [x, y] H Q) : OkL K cA (f2 f) r := by
  intro z g H M E ws vs Q c rv q
  match ws, rv, q with
  | [], _, q => exact q.elim
  | [w], _, q => exact q.elim
  | [w, u], .cons r1 (.cons r2 .nil), q => exact k z g H M E w u _ _ Q c r1 r2 q
  | _ :: _ :: _ :: _, _, q => exact q.elim

/-! ### len, list, tuple, abs, int, str, max, min, sum, any, all, sorted -/
def lenw (w : Wv) (M : Sto) : Rs Wv := match seqw M w with
  | some (_, ws) => .ok (.d (.int ws.length)) M
  | none => match nw M w with
    | .d (.str s) => if s.length ≤ sizeLine then .ok (.d (.int s.length)) M else .no
    | _ => .no
def rLenD (K : PySem.W.Frag) : List V → Hp → VK → Prop := fun xs H Q => (∃ p ys, xs = [.ref p] ∧ (SqL K H p ys ∨ SqT K H p ys) ∧ Q (.int ys.length) H) ∨ ∃ z, xs = [.str z] ∧ z.length ≤ sizeLine ∧ Q (.int z.length) H
theorem cr_lenD : CallR X (.builtin "len") (rLenD X.K) := callOr call_len_seq call_len_str
theorem ok_len {K : PySem.W.Frag} : OkL K cA (f1 lenw) (rLenD K) := okL1 fun z g H M E w x Q c rx q => by
  cases e : seqw M w with
  | some p =>
    obtain ⟨b, ws⟩ := p
    simp only [lenw, e] at q
    obtain ⟨a, vs, rfl, h1, h2, h3⟩ := seqw_or c rx e
    rw [show ws.length = vs.length from Paired.length h3] at q
    exact .inl ⟨a, vs, rfl, h1, q H g c Le.refl _ rfl⟩
  | none =>
    simp only [lenw, e] at q
    have r' := rw_nw c rx
    cases e2 : nw M w with
    | m k => simp [e2, Res] at q
    | d d =>
      rw [e2] at r'
      cases d with
      | str s =>
        simp only [e2] at q
        by_cases hz : s.length ≤ sizeLine
        · rw [if_pos hz] at q
          cases (show x = .str s from r')
          exact .inr ⟨s, rfl, hz, q H g c Le.refl _ rfl⟩
        · rw [if_neg hz] at q
          exact q.elim
      | _ => simp [e2, Res] at q
theorem d_len (hm : X.mg "len" = none) (ha : PA X (e :: es) (TAD X.K cA Wx mr)) (hg : Gl X "len" := by rfl) (he : starEach (e :: es) X.env = (false, eval e X.env) :: starEach es X.env := by rfl) (hpl : (backTo pos (starEach es X.env)).any (·.1) = false := by rfl) :
    PE X (.Call (.Name "len" p) (e :: es) [] pos) (TED X.K cA Wx (eL (f1 lenw) mr)) := d_callB ok_len cr_lenD hm ha hg (by decide +kernel) (by decide) (by decide) he hpl
/-- list(x), frozen; as a list to be changed -/
def listw (w : Wv) (M : Sto) : Rs Wv := match seqw M w with
  | some (_, ws) => match nds M ws with
    | some l => .ok (.d (.lst l)) M
    | none => .no
  | none => .no
def listwM (w : Wv) (M : Sto) : Rs Wv := match seqw M w with
  | some (_, ws) => .ok (.m M.length) (M ++ [.lst ws])
  | none => .no
def tupw (w : Wv) (M : Sto) : Rs Wv := match seqw M w with
  | some (true, ws) => match nds M ws with
    | some l => .ok (.d (.tup l)) M
    | none => .no
  | some (false, _) => .ok (nw M w) M
  | none => .no
def rListD (K : PySem.W.Frag) : List V → Hp → VK → Prop := fun xs H Q => ∃ p ys, xs = [.ref p] ∧ (SqL K H p ys ∨ SqT K H p ys) ∧ ∀ l, H l = none → Q (.ref l) (upd H l (.lst ys))
def rTupleD (K : PySem.W.Frag) : List V → Hp → VK → Prop := fun xs H Q => ∃ p ys, xs = [.ref p] ∧ ((SqL K H p ys ∧ ∀ l, H l = none → Q (.ref l) (upd H l (.tup ys))) ∨ (SqT K H p ys ∧ Q (.ref p) H))
theorem ok_list {K : PySem.W.Frag} : OkL K cA (f1 listw) (rListD K) := okL1 fun z g H M E w x Q c rx q => by
  cases e : seqw M w with
  | none => simp [listw, e, Res] at q
  | some p =>
    obtain ⟨b, ws⟩ := p
    cases e2 : nds M ws with
    | none => simp [listw, e, e2, Res] at q
    | some l =>
      simp only [listw, e, e2] at q
      obtain ⟨a, vs, rfl, h1, h2, h3⟩ := seqw_or c rx e
      have rl := nds_rep c h3 e2
      exact ⟨a, vs, rfl, h1, fun p hp => c.ans q hp ⟨p, vs, rfl, upd_same, h2, rl.mono (Same.upd' (c.sub.free hp))⟩⟩
/-- a new list of the store as the answer -/
theorem Cf.ansM {K : PySem.W.Frag} {z : Z0} {g : Gh} {H : Hp} {M : Sto} {E : Exn → Sto → Gh → Hp → Prop} {ws : List Wv} {vs : List V} {Q : VK} (c : Cf K cA z H M g) (rv : Paired (RW K cA g M.length) ws vs) (hz : ws.length ≤ sizeLine)
    (q : Res K cA z g M.length E (.ok (.m M.length) (M ++ [.lst ws]) : Rs Wv) (fun w M' g' H' => ∀ v, RW K cA g' M'.length w v → Q v H')) {p : Addr} (hp : H p = none) : Q (.ref p) (upd H p (.lst vs)) := by
  have fp : g.F p = none := c.sub.free hp
  have lad : ∀ k, k < M.length → (g.add M.length p).ad k = g.ad k := fun k hk => if_neg (Nat.ne_of_lt hk)
  obtain ⟨c2, l2⟩ := c.new (mo := .lst ws) (ho := .lst vs) hp ⟨vs, upd_same, fp, hz, RWs.mono (show Le g M.length (g.add M.length p) (M.length + 1) from ⟨Same.refl g.F, lad, Nat.le_succ _⟩) rv⟩
  refine q _ _ c2 l2 _ ⟨by rw [List.length_append]; exact Nat.lt_succ_self _, ?_⟩
  show V.ref p = .ref ((g.add M.length p).ad M.length)
  rw [show (g.add M.length p).ad M.length = p from if_pos rfl]
theorem ok_listM {K : PySem.W.Frag} : OkL K cA (f1 listwM) (rListD K) := okL1 fun z g H M E w x Q c rx q => by
  cases e : seqw M w with
  | none => simp [listwM, e, Res] at q
  | some p =>
    obtain ⟨b, ws⟩ := p
    simp only [listwM, e] at q
    obtain ⟨a, vs, rfl, h1, h2, h3⟩ := seqw_or c rx e
    exact ⟨a, vs, rfl, h1, fun p hp => c.ansM h3 (by rw [show ws.length = vs.length from Paired.length h3]; exact h2) q hp⟩
theorem ok_tuple {K : PySem.W.Frag} : OkL K cA (f1 tupw) (rTupleD K) := okL1 fun z g H M E w x Q c rx q => by
  cases e : seqw M w with
  | none => simp [tupw, e, Res] at q
  | some p =>
    obtain ⟨b, ws⟩ := p
    obtain ⟨a, vs, rfl, h1, h2, h3⟩ := seqw_at c rx e
    cases b with
    | true =>
      cases e2 : nds M ws with
      | none => simp [tupw, e, e2, Res] at q
      | some l =>
        simp only [tupw, e, e2] at q
        have rl := nds_rep c h3 e2
        exact ⟨a, vs, rfl, .inl ⟨by simpa using h1, fun p hp => c.ans q hp ⟨p, vs, rfl, SqT.of upd_same, h2, rl.mono (Same.upd' (c.sub.free hp))⟩⟩⟩
    | false =>
      simp only [tupw, e] at q
      exact ⟨a, vs, rfl, .inr ⟨by simpa using h1, q H g c Le.refl _ (rw_nw c rx)⟩⟩
theorem d_list (hm : X.mg "list" = none) (ha : PA X (e :: es) (TAD X.K cA Wx mr)) (hg : Gl X "list" := by rfl) (he : starEach (e :: es) X.env = (false, eval e X.env) :: starEach es X.env := by rfl) (hpl : (backTo pos (starEach es X.env)).any (·.1) = false := by rfl) :
    PE X (.Call (.Name "list" p) (e :: es) [] pos) (TED X.K cA Wx (eL (f1 listw) mr)) := d_callT ok_list call_list_of hm ha hg (by decide +kernel) (by decide) (by decide) he hpl
theorem d_listM (hm : X.mg "list" = none) (ha : PA X (e :: es) (TAD X.K cA Wx mr)) (hg : Gl X "list" := by rfl) (he : starEach (e :: es) X.env = (false, eval e X.env) :: starEach es X.env := by rfl) (hpl : (backTo pos (starEach es X.env)).any (·.1) = false := by rfl) :
    PE X (.Call (.Name "list" p) (e :: es) [] pos) (TED X.K cA Wx (eL (f1 listwM) mr)) := d_callT ok_listM call_list_of hm ha hg (by decide +kernel) (by decide) (by decide) he hpl
theorem d_tuple (hm : X.mg "tuple" = none) (ha : PA X (e :: es) (TAD X.K cA Wx mr)) (hg : Gl X "tuple" := by rfl) (he : starEach (e :: es) X.env = (false, eval e X.env) :: starEach es X.env := by rfl) (hpl : (backTo pos (starEach es X.env)).any (·.1) = false := by rfl) :
    PE X (.Call (.Name "tuple" p) (e :: es) [] pos) (TED X.K cA Wx (eL (f1 tupw) mr)) := d_callT ok_tuple call_tuple_of hm ha hg (by decide +kernel) (by decide) (by decide) he hpl
def dAbs : D → Option D
  | .int i => some (.int (if i < 0 then -i else i))
  | _ => none
def dMax2 : D → D → Option D
  | .int i, .int j => some (.int (if j > i then j else i))
  | _, _ => none
def dMin2 : D → D → Option D
  | .int i, .int j => some (.int (if j < i then j else i))
  | _, _ => none
def dInt : D → Option D
  | .int i => some (.int i)
  | .bl k => some (.int (if k then 1 else 0))
  | .str a => if a.length ≤ 640 then (PySem.intText? a).map .int else none
  | _ => none
def dStr : D → Option D
  | .int i => if i.natAbs.log2 < 1920 then some (.str (toString i)) else none
  | .str a => some (.str a)
  | _ => none
theorem ok1_of {K : PySem.W.Frag} {f : D → Option D} {r : V → Hp → VK → Prop} (k : Ok1 K cA (pu1 f) r) : Ok1 K cA (pu1 f) r := k
theorem ok_abs {K : PySem.W.Frag} : OkL K cA (f1 (pu1 dAbs)) (fun xs H Q => ∃ i, xs = [.int i] ∧ Q (.int (if i < 0 then -i else i)) H) := okL1 (ok1_pure fun F a d x H Q s ra e k => by
  cases a <;> simp only [dAbs] at e <;> first | cases e | skip
  exact ⟨_, by rw [show x = V.int _ from ra], k _ rfl⟩)
theorem ok_max2 {K : PySem.W.Frag} : OkL K cA (f2 (pu2 dMax2)) (fun xs H Q => ∃ i j, xs = [.int i, .int j] ∧ Q (.int (if j > i then j else i)) H) := okL2 (ok2_pure fun F a b d x y H Q s ra rb e k => by
  cases a <;> cases b <;> simp only [dMax2] at e <;> first | cases e | skip
  exact ⟨_, _, by rw [show x = V.int _ from ra, show y = V.int _ from rb], k _ rfl⟩)
theorem ok_min2 {K : PySem.W.Frag} : OkL K cA (f2 (pu2 dMin2)) (fun xs H Q => ∃ i j, xs = [.int i, .int j] ∧ Q (.int (if j < i then j else i)) H) := okL2 (ok2_pure fun F a b d x y H Q s ra rb e k => by
  cases a <;> cases b <;> simp only [dMin2] at e <;> first | cases e | skip
  exact ⟨_, _, by rw [show x = V.int _ from ra, show y = V.int _ from rb], k _ rfl⟩)
def rIntD : List V → Hp → VK → Prop := fun xs H Q => ((∃ i, xs = [.int i] ∧ Q (.int i) H) ∨ ∃ k, xs = [.bl k] ∧ Q (.int (if k then 1 else 0)) H) ∨ ∃ a n, xs = [.str a] ∧ PySem.intText? a = some n ∧ a.length ≤ 640 ∧ Q (.int n) H
theorem cr_intD : CallR X (.type "int") rIntD := callOr call_int1 call_int_str
theorem ok_int {K : PySem.W.Frag} : OkL K cA (f1 (pu1 dInt)) rIntD := okL1 (ok1_pure fun F a d x H Q s ra e k => by
  cases a <;> simp only [dInt] at e <;> first | cases e | skip
  · exact .inl (.inr ⟨_, by rw [show x = V.bl _ from ra], k _ rfl⟩)
  · exact .inl (.inl ⟨_, by rw [show x = V.int _ from ra], k _ rfl⟩)
  · rename_i a
    by_cases hz : a.length ≤ 640
    · rw [if_pos hz] at e
      cases e2 : PySem.intText? a with
      | none => rw [e2] at e; cases e
      | some n =>
        rw [e2] at e
        cases e
        exact .inr ⟨a, n, by rw [show x = V.str a from ra], e2, hz, k _ rfl⟩
    · rw [if_neg hz] at e
      cases e)
theorem d_abs (hm : X.mg "abs" = none) (ha : PA X (e :: es) (TAD X.K cA Wx mr)) (hg : Gl X "abs" := by rfl) (he : starEach (e :: es) X.env = (false, eval e X.env) :: starEach es X.env := by rfl) (hpl : (backTo pos (starEach es X.env)).any (·.1) = false := by rfl) :
    PE X (.Call (.Name "abs" p) (e :: es) [] pos) (TED X.K cA Wx (eL (f1 (pu1 dAbs)) mr)) := d_callB ok_abs call_abs hm ha hg (by decide +kernel) (by decide) (by decide) he hpl
theorem d_toint (hm : X.mg "int" = none) (ha : PA X (e :: es) (TAD X.K cA Wx mr)) (hg : Gl X "int" := by rfl) (he : starEach (e :: es) X.env = (false, eval e X.env) :: starEach es X.env := by rfl) (hpl : (backTo pos (starEach es X.env)).any (·.1) = false := by rfl) :
    PE X (.Call (.Name "int" p) (e :: es) [] pos) (TED X.K cA Wx (eL (f1 (pu1 dInt)) mr)) := d_callT ok_int cr_intD hm ha hg (by decide +kernel) (by decide) (by decide) he hpl
/-- max(a, b), max(xs) -/
def maxL : List Int → Option Int
  | [] => none
  | x :: l => some (l.foldl (fun a b => if b > a then b else a) x)
def minL : List Int → Option Int
  | [] => none
  | x :: l => some (l.foldl (fun a b => if b < a then b else a) x)
theorem maxL_spec : ∀ {l : List Int} {m : Int}, maxL l = some m → m ∈ l ∧ ∀ y ∈ l, y ≤ m := by
  have key : ∀ (l : List Int) (x : Int), (l.foldl (fun a b => if b > a then b else a) x ∈ x :: l) ∧ ∀ y ∈ x :: l, y ≤ l.foldl (fun a b => if b > a then b else a) x := by
    intro l
    induction l with
    | nil => intro x; simp
    | cons b l ih =>
      intro x
      rw [List.foldl_cons]
      obtain ⟨h1, h2⟩ := ih (if b > x then b else x)
      by_cases hb : b > x
      · rw [if_pos hb] at h1 h2 ⊢
        refine ⟨(List.mem_cons.mp h1).elim (fun h => List.mem_cons_of_mem _ (List.mem_cons.mpr (.inl h))) (fun h => List.mem_cons_of_mem _ (List.mem_cons_of_mem _ h)), fun y hy => ?_⟩
        have := h2 b List.mem_cons_self
        simp at hy
        rcases hy with rfl | rfl | hy
        · omega
        · exact this
        · exact h2 y (List.mem_cons_of_mem _ hy)
      · rw [if_neg hb] at h1 h2 ⊢
        refine ⟨(List.mem_cons.mp h1).elim (fun h => List.mem_cons.mpr (.inl h)) (fun h => List.mem_cons_of_mem _ (List.mem_cons_of_mem _ h)), fun y hy => ?_⟩
        have := h2 x List.mem_cons_self
        simp at hy
        rcases hy with rfl | rfl | hy
        · exact this
        · omega
        · exact h2 y (List.mem_cons_of_mem _ hy)
  intro l m h
  cases l with
  | nil => cases h
  | cons x l =>
    have := key l x
    rw [← Option.some.inj h]
    exact this
theorem minL_spec : ∀ {l : List Int} {m : Int}, minL l = some m → m ∈ l ∧ ∀ y ∈ l, m ≤ y := by
  have key : ∀ (l : List Int) (x : Int), (l.foldl (fun a b => if b < a then b else a) x ∈ x :: l) ∧ ∀ y ∈ x :: l, l.foldl (fun a b => if b < a then b else a) x ≤ y := by
    intro l
    induction l with
    | nil => intro x; simp
    | cons b l ih =>
      intro x
      rw [List.foldl_cons]
      obtain ⟨h1, h2⟩ := ih (if b < x then b else x)
      by_cases hb : b < x
      · rw [if_pos hb] at h1 h2 ⊢
        refine ⟨(List.mem_cons.mp h1).elim (fun h => List.mem_cons_of_mem _ (List.mem_cons.mpr (.inl h))) (fun h => List.mem_cons_of_mem _ (List.mem_cons_of_mem _ h)), fun y hy => ?_⟩
        have := h2 b List.mem_cons_self
        simp at hy
        rcases hy with rfl | rfl | hy
        · omega
        · exact this
        · exact h2 y (List.mem_cons_of_mem _ hy)
      · rw [if_neg hb] at h1 h2 ⊢
        refine ⟨(List.mem_cons.mp h1).elim (fun h => List.mem_cons.mpr (.inl h)) (fun h => List.mem_cons_of_mem _ (List.mem_cons_of_mem _ h)), fun y hy => ?_⟩
        have := h2 x List.mem_cons_self
        simp at hy
        rcases hy with rfl | rfl | hy
        · exact this
        · omega
        · exact h2 y (List.mem_cons_of_mem _ hy)
  intro l m h
  cases l with
  | nil => cases h
  | cons x l =>
    have := key l x
    rw [← Option.some.inj h]
    exact this
/-- a list's ints, its truth values -/
def intsOf : List D → Option (List Int)
  | [] => some []
  | .int i :: l => (intsOf l).map (i :: ·)
  | _ :: _ => none
def blsOf : List D → Option (List Bool)
  | [] => some []
  | .bl i :: l => (blsOf l).map (i :: ·)
  | _ :: _ => none
def strsOf : List D → Option (List Str)
  | [] => some []
  | .str i :: l => (strsOf l).map (i :: ·)
  | _ :: _ => none
theorem intsOf_rep {K : PySem.W.Frag} {F : Hp} : ∀ {l : List D} {vs : List V} {ns : List Int}, RepL K cA F l vs → intsOf l = some ns → vs = ns.map V.int
  | [], _, _, r, e => by cases (show _ = [] from r); cases e; rfl
  | x :: l, _, _, r, e => by
    obtain ⟨v, r', rfl, h1, h2⟩ := r
    cases x <;> simp only [intsOf] at e <;> first | cases e | skip
    cases q : intsOf l with
    | none => rw [q] at e; cases e
    | some ns =>
      rw [q] at e
      cases e
      rw [intsOf_rep h2 q, show v = V.int _ from h1]
      rfl
theorem blsOf_rep {K : PySem.W.Frag} {F : Hp} : ∀ {l : List D} {vs : List V} {ns : List Bool}, RepL K cA F l vs → blsOf l = some ns → vs = ns.map V.bl
  | [], _, _, r, e => by cases (show _ = [] from r); cases e; rfl
  | x :: l, _, _, r, e => by
    obtain ⟨v, r', rfl, h1, h2⟩ := r
    cases x <;> simp only [blsOf] at e <;> first | cases e | skip
    cases q : blsOf l with
    | none => rw [q] at e; cases e
    | some ns =>
      rw [q] at e
      cases e
      rw [blsOf_rep h2 q, show v = V.bl _ from h1]
      rfl
theorem strsOf_rep {K : PySem.W.Frag} {F : Hp} : ∀ {l : List D} {vs : List V} {ns : List Str}, RepL K cA F l vs → strsOf l = some ns → vs = ns.map V.str
  | [], _, _, r, e => by cases (show _ = [] from r); cases e; rfl
  | x :: l, _, _, r, e => by
    obtain ⟨v, r', rfl, h1, h2⟩ := r
    cases x <;> simp only [strsOf] at e <;> first | cases e | skip
    cases q : strsOf l with
    | none => rw [q] at e; cases e
    | some ns =>
      rw [q] at e
      cases e
      rw [strsOf_rep h2 q, show v = V.str _ from h1]
      rfl
@[simp] theorem intsOf_map (ns : List Int) : intsOf (ns.map .int) = some ns := by
  induction ns with
  | nil => rfl
  | cons n ns ih => rw [List.map_cons, intsOf, ih]; rfl
@[simp] theorem blsOf_map (ns : List Bool) : blsOf (ns.map .bl) = some ns := by
  induction ns with
  | nil => rfl
  | cons n ns ih => rw [List.map_cons, blsOf, ih]; rfl
@[simp] theorem strsOf_map (ns : List Str) : strsOf (ns.map .str) = some ns := by
  induction ns with
  | nil => rfl
  | cons n ns ih => rw [List.map_cons, strsOf, ih]; rfl
/-- a function of a list of data -/
def fLst (f : List D → Option D) (w : Wv) (M : Sto) : Rs Wv := match seqw M w with
  | some (true, ws) => match nds M ws with
    | some l => rsd M (f l)
    | none => .no
  | _ => .no
theorem fLst_at {K : PySem.W.Frag} {z : Z0} {g : Gh} {H : Hp} {M : Sto} {E : Exn → Sto → Gh → Hp → Prop} {f : List D → Option D} {w : Wv} {x : V} {P : Wv → Sto → Gh → Hp → Prop} (c : Cf K cA z H M g) (rx : RW K cA g M.length w x)
    (q : Res K cA z g M.length E (fLst f w M) P) : ∃ a vs l d, x = .ref a ∧ SqL K H a vs ∧ RepL K cA g.F l vs ∧ f l = some d ∧ vs.length ≤ sizeLine ∧ Res K cA z g M.length E (.ok (.d d) M : Rs Wv) P := by
  cases e : seqw M w with
  | none => simp [fLst, e, Res] at q
  | some p =>
    obtain ⟨b, ws⟩ := p
    cases b with
    | false => simp [fLst, e, Res] at q
    | true =>
      cases e2 : nds M ws with
      | none => simp [fLst, e, e2, Res] at q
      | some l =>
        cases e3 : f l with
        | none => simp [fLst, e, e2, e3, Res] at q
        | some d =>
          simp only [fLst, e, e2, e3, rsd_some] at q
          obtain ⟨a, vs, rfl, h1, h2, h3⟩ := seqw_at c rx e
          exact ⟨a, vs, l, d, rfl, by simpa using h1, nds_rep c h3 e2, e3, h2, q⟩
def dMaxL (l : List D) : Option D := (intsOf l).bind fun ns => (maxL ns).map .int
def dMinL (l : List D) : Option D := (intsOf l).bind fun ns => (minL ns).map .int
def dSum (l : List D) : Option D := (intsOf l).map fun ns => .int ns.sum
def dAny (l : List D) : Option D := (blsOf l).map fun bs => .bl (bs.any _root_.id)
def dAll (l : List D) : Option D := (blsOf l).map fun bs => .bl (bs.all _root_.id)
theorem ok_any {K : PySem.W.Frag} : OkL K cA (f1 (fLst dAny)) (rAny K) := okL1 fun z g H M E w x Q c rx q => by
  obtain ⟨a, vs, l, d, rfl, h1, h2, h3, _, h4⟩ := fLst_at c rx q
  cases e : blsOf l with
  | none => rw [dAny, e] at h3; cases h3
  | some bs =>
    rw [dAny, e] at h3
    cases h3
    have ev := blsOf_rep h2 e
    subst ev
    exact ⟨a, bs, rfl, h1, h4 H g c Le.refl _ rfl⟩
theorem ok_all {K : PySem.W.Frag} : OkL K cA (f1 (fLst dAll)) (rAll K) := okL1 fun z g H M E w x Q c rx q => by
  obtain ⟨a, vs, l, d, rfl, h1, h2, h3, _, h4⟩ := fLst_at c rx q
  cases e : blsOf l with
  | none => rw [dAll, e] at h3; cases h3
  | some bs =>
    rw [dAll, e] at h3
    cases h3
    have ev := blsOf_rep h2 e
    subst ev
    exact ⟨a, bs, rfl, h1, h4 H g c Le.refl _ rfl⟩
theorem ok_sum {K : PySem.W.Frag} : OkL K cA (f1 (fLst dSum)) (rSum K) := okL1 fun z g H M E w x Q c rx q => by
  obtain ⟨a, vs, l, d, rfl, h1, h2, h3, _, h4⟩ := fLst_at c rx q
  cases e : intsOf l with
  | none => rw [dSum, e] at h3; cases h3
  | some bs =>
    rw [dSum, e] at h3
    cases h3
    have ev := intsOf_rep h2 e
    subst ev
    exact ⟨a, bs, rfl, h1, h4 H g c Le.refl _ rfl⟩
theorem ok_maxl {K : PySem.W.Frag} : OkL K cA (f1 (fLst dMaxL)) (rMax K) := okL1 fun z g H M E w x Q c rx q => by
  obtain ⟨a, vs, l, d, rfl, h1, h2, h3, _, h4⟩ := fLst_at c rx q
  cases e : intsOf l with
  | none => rw [dMaxL, e] at h3; cases h3
  | some bs =>
    rw [dMaxL, e] at h3
    cases e2 : maxL bs with
    | none => simp [e2] at h3
    | some m =>
      simp [e2] at h3
      subst h3
      have ev := intsOf_rep h2 e
      subst ev
      obtain ⟨m1, m2⟩ := maxL_spec e2
      refine ⟨a, bs, rfl, h1, List.length_pos_of_mem m1, fun m' k1 k2 => ?_⟩
      have : m' = m := Int.le_antisymm (m2 _ k1) (k2 _ m1)
      subst this
      exact h4 H g c Le.refl _ rfl
theorem ok_minl {K : PySem.W.Frag} : OkL K cA (f1 (fLst dMinL)) (rMin K) := okL1 fun z g H M E w x Q c rx q => by
  obtain ⟨a, vs, l, d, rfl, h1, h2, h3, _, h4⟩ := fLst_at c rx q
  cases e : intsOf l with
  | none => rw [dMinL, e] at h3; cases h3
  | some bs =>
    rw [dMinL, e] at h3
    cases e2 : minL bs with
    | none => simp [e2] at h3
    | some m =>
      simp [e2] at h3
      subst h3
      have ev := intsOf_rep h2 e
      subst ev
      obtain ⟨m1, m2⟩ := minL_spec e2
      refine ⟨a, bs, rfl, h1, List.length_pos_of_mem m1, fun m' k1 k2 => ?_⟩
      have : m' = m := Int.le_antisymm (k2 _ m1) (m2 _ k1)
      subst this
      exact h4 H g c Le.refl _ rfl
/-- insertion into a rising list -/
def ins1 (x : Int) : List Int → List Int
  | [] => [x]
  | y :: l => if x ≤ y then x :: y :: l else y :: ins1 x l
def sortI (l : List Int) : List Int := l.foldr ins1 []
def dSortI (l : List D) : Option D := (intsOf l).map fun ns => .lst ((sortI ns).map .int)
end
end DL

/-! Layer D: statements. -/
namespace DL
open PySem PySem.Spec PyProof.Rows L2

/-- an expression within a statement -/
def sx {α : Type} (env : Ev) (r : Rs α) (k : α → Sto → Rs Out) : Rs Out := match r with
  | .ok a M => k a M
  | .ex x M => .ok (.xc env x) M
  | .no => .no
@[simp] theorem sx_ok {α : Type} (env : Ev) (a : α) (M : Sto) (k : α → Sto → Rs Out) : sx env (.ok a M) k = k a M := rfl
@[simp] theorem sx_ex {α : Type} (env : Ev) (x : Exn) (M : Sto) (k : α → Sto → Rs Out) : sx env (.ex x M : Rs α) k = .ok (.xc env x) M := rfl
@[simp] theorem sx_no {α : Type} (env : Ev) (k : α → Sto → Rs Out) : sx env (.no : Rs α) k = .no := rfl
abbrev noE : Exn → Sto → Gh → Hp → Prop := fun _ _ _ _ => False
section
variable {K : PySem.W.Frag} {cA : CA} {z : Z0} {g : Gh} {n : Nat} {α : Type} {Wx : WX} {env : Ev} {σ : St} {D : Ends}
theorem sx_of {r : Rs α} {k : α → Sto → Rs Out} (h : Res K cA z g n noE (sx env r k) (OutP K cA Wx D)) (sl : Slots K cA g n env σ) :
    Res K cA z g n (EX K cA Wx σ) r fun a M1 g1 _ => Res K cA z g1 M1.length noE (k a M1) (OutP K cA Wx D) := by
  cases r with
  | ok a M1 =>
    intro H' g' c l
    have h' : Res K cA z g n noE (k a M1) (OutP K cA Wx D) := h
    exact h'.later l
  | ex x M1 => exact fun H' g' c l cls d rx => h H' g' c l σ cls d (sl.mono l) rx
  | no => exact h
end
def sNext : SD := fun env M => .ok (.nx env) M
def sSeq (a b : SD) : SD := fun env M => (a env M).bind fun o M1 => match o with
  | .nx e => b e M1
  | .rt w => .ok (.rt w) M1
  | .bk e => .ok (.bk e) M1
  | .ct e => .ok (.ct e) M1
  | .xc e x => .ok (.xc e x) M1
def sExpr (m : ED) : SD := fun env M => sx env (m env M) fun _ M1 => .ok (.nx env) M1
def sRet (m : ED) : SD := fun env M => sx env (m env M) fun w M1 => .ok (.rt w) M1
def sRetN : SD := fun _ M => .ok (.rt (.d .non)) M
def sIf (t : TD) (a b : SD) : SD := fun env M => sx env (t env M) fun k M1 => if k = true then a env M1 else b env M1
def sNever : SD := fun _ _ => .no
def sBrk : SD := fun env M => .ok (.bk env) M
def sCnt : SD := fun env M => .ok (.ct env) M
/-- targets -/
abbrev GD := Wv → Ev → Sto → Rs Ev
def tgN (i : Nat) : GD := fun w env M => .ok (env.set i (some w)) M
def sAsg (g : GD) (m : ED) : SD := fun env M => sx env (m env M) fun w M1 => (g w env M1).bind fun e M2 => .ok (.nx e) M2
def TGD (K : PySem.W.Frag) (cA : CA) (m : GD) : TG := fun v σ H Q => ∃ z env M g w, Cf K cA z H M g ∧ Slots K cA g M.length env σ ∧ RW K cA g M.length w v ∧ Res K cA z g M.length noE (m w env M) fun e M' g' H' => ∀ σ', Slots K cA g' M'.length e σ' → Q σ' H'
theorem PG.imp {X : Cx} {e : Expr} {t t' : TG} (h : PG X e t) (i : ∀ v σ H Q, t' v σ H Q → t v σ H Q) : PG X e t' := ⟨fun pins s σ H v u Q I r q => h.run pins s σ H v u Q I r (i _ _ _ _ q)⟩
section
variable {X : Cx} {cA : CA} {Wx : WX} {a b c e : Expr} {ma mb mc : ED} {mr : AD} {ta tc : TD} {ms mt : SD} {st : Stmt} {sts sts2 : List Stmt} {p pos apos : Pos}
theorem s_nil : PSs X [] (TSD X.K cA Wx sNext) := PSs.imp pss_nil fun D σ H ⟨z, env, M, g, c, sl, q⟩ => q H g c Le.refl σ sl
theorem out_seq {K : PySem.W.Frag} {z : Z0} {g : Gh} {n : Nat} {D : Ends} {r : Rs Out} (h : Res K cA z g n noE (r.bind fun o M1 => match o with
      | .nx e => mt e M1
      | .rt w => .ok (.rt w) M1
      | .bk e => .ok (.bk e) M1
      | .ct e => .ok (.ct e) M1
      | .xc e x => .ok (.xc e x) M1) (OutP K cA Wx D)) : Res K cA z g n noE r (OutP K cA Wx { D with nx := TSD K cA Wx mt D }) := by
  refine Res.imp (fun o M1 g1 H1 c1 l1 q1 => ?_) h.of_bind
  cases o with
  | nx e => exact fun σ' sl' => ⟨z, e, M1, g1, c1, sl', q1⟩
  | rt w => exact q1 H1 g1 c1 Le.refl
  | bk e => exact q1 H1 g1 c1 Le.refl
  | ct e => exact q1 H1 g1 c1 Le.refl
  | xc e x => exact q1 H1 g1 c1 Le.refl
theorem s_cons (h1 : PS X st (TSD X.K cA Wx ms)) (h2 : PSs X sts (TSD X.K cA Wx mt)) : PSs X (st :: sts) (TSD X.K cA Wx (sSeq ms mt)) :=
  PSs.imp (pss_cons h1 h2) fun D σ H ⟨z, env, M, g, c, sl, q⟩ => ⟨z, env, M, g, c, sl, out_seq q⟩
theorem s_one (h1 : PS X st (TSD X.K cA Wx ms)) : PSs X [st] (TSD X.K cA Wx ms) := pss_one h1
theorem s_expr (ha : PE X a (TED X.K cA Wx ma)) (hs : swapsWith a none pos.line X.env = pure false := by rfl) : PS X (.Expr a pos) (TSD X.K cA Wx (sExpr ma)) :=
  PS.imp (ps_expr ha hs) fun D σ H ⟨z, env, M, g, c, sl, q⟩ => ⟨z, env, M, g, c, sl, Res.imp (fun w M1 g1 H1 c1 l1 q1 v rv => q1 H1 g1 c1 Le.refl σ (sl.mono l1)) (sx_of q sl)⟩
theorem s_ret (ha : PE X a (TED X.K cA Wx ma)) : PS X (.Return (some a) pos) (TSD X.K cA Wx (sRet ma)) :=
  PS.imp (ps_ret ha) fun D σ H ⟨z, env, M, g, c, sl, q⟩ => ⟨z, env, M, g, c, sl, Res.imp (fun w M1 g1 H1 c1 l1 q1 v rv => q1 H1 g1 c1 Le.refl v rv) (sx_of q sl)⟩
theorem s_retN : PS X (.Return none pos) (TSD X.K cA Wx sRetN) :=
  PS.imp ps_retN fun D σ H ⟨z, env, M, g, c, sl, q⟩ => q H g c Le.refl .non rfl
theorem s_if (ht : PT X a (TTD X.K cA Wx ta)) (h1 : PSs X sts (TSD X.K cA Wx ms)) (h2 : PSs X sts2 (TSD X.K cA Wx mt)) : PS X (.If a sts sts2 pos) (TSD X.K cA Wx (sIf ta ms mt)) :=
  PS.imp (ps_if ht h1 h2) fun D σ H ⟨z, env, M, g, c, sl, q⟩ => by
    refine ⟨z, env, M, g, c, sl, Res.imp (fun k M1 g1 H1 c1 l1 q1 => ?_) (sx_of q sl)⟩
    cases k with
    | true => exact iteT ⟨z, env, M1, g1, c1, sl.mono l1, q1⟩
    | false => exact iteF ⟨z, env, M1, g1, c1, sl.mono l1, q1⟩
theorem s_never : PS X st (TSD X.K cA Wx sNever) := PS.imp ps_never fun D σ H ⟨z, env, M, g, c, sl, q⟩ => q.elim
theorem ss_never : PSs X sts (TSD X.K cA Wx sNever) := PSs.imp pss_never fun D σ H ⟨z, env, M, g, c, sl, q⟩ => q.elim
theorem s_pass : PS X (.Pass pos) (TSD X.K cA Wx sNext) := PS.imp ps_pass fun D σ H ⟨z, env, M, g, c, sl, q⟩ => q H g c Le.refl σ sl
theorem s_brk : PS X (.Break pos) (TSD X.K cA Wx sBrk) := PS.imp ps_break fun D σ H ⟨z, env, M, g, c, sl, q⟩ => q H g c Le.refl σ sl
theorem s_cnt : PS X (.Continue pos) (TSD X.K cA Wx sCnt) := PS.imp ps_continue fun D σ H ⟨z, env, M, g, c, sl, q⟩ => q H g c Le.refl σ sl
theorem g_name {i : Nat} {x : Str} (hN : X.N.Nodup) (hi : X.N[i]? = some x := by rfl) (hx : Loc X.env.scope x := by first | exact .inl rfl | exact .inr rfl) (hf : X.fn x = true ∨ X.env.scope.names.lookup x = some .local := by first | exact .inl rfl | exact .inr rfl) :
    PG X (.Name x pos) (TGD X.K cA (tgN i)) := PG.imp (pg_name hN hi hx hf) fun v σ H Q ⟨z, env, M, g, w, c, sl, rw1, q⟩ => q H g c Le.refl _ (sl.set rw1 i)
theorem s_asg {tg e : Expr} {mg : GD} (he : PE X e (TED X.K cA Wx ma)) (hg : PG X tg (TGD X.K cA mg)) (hs : swapsWithSole [tg] e pos.line X.env = pure false := by rfl) (hw : swappedStores [tg] e X.env = pure none := by rfl) (h1 : List.map (fun x => x.snd) (assignEach [tg] X.env) = [assign tg X.env] := by rfl) :
    PS X (.Assign [tg] e pos) (TSD X.K cA Wx (sAsg mg ma)) := PS.imp (ps_asg he hg hs hw h1) fun D σ H ⟨z, env, M, g, c, sl, q⟩ => by
  refine ⟨z, env, M, g, c, sl, Res.imp (fun w M1 g1 H1 c1 l1 q1 v rv => ?_) (sx_of q sl)⟩
  refine ⟨z, env, M1, g1, w, c1, sl.mono l1, rv, Res.imp (fun e M2 g2 H2 c2 l2 q2 σ' sl' => ?_) q1.of_bind⟩
  exact q2 H2 g2 c2 Le.refl σ' sl'
theorem s_set {i : Nat} {x : Str} {e : Expr} {pos' : Pos} (hN : X.N.Nodup) (he : PE X e (TED X.K cA Wx ma)) (hi : X.N[i]? = some x := by rfl) (hx : Loc X.env.scope x := by first | exact .inl rfl | exact .inr rfl) (hs : swapsWith e (some (.Name x pos')) pos.line X.env = pure false := by rfl)
    (hf : X.fn x = true ∨ X.env.scope.names.lookup x = some .local := by first | exact .inl rfl | exact .inr rfl) : PS X (.Assign [.Name x pos'] e pos) (TSD X.K cA Wx (sAsg (tgN i) ma)) := PS.imp (ps_set hN hi hx he hs hf) fun D σ H ⟨z, env, M, g, c, sl, q⟩ => by
  refine ⟨z, env, M, g, c, sl, Res.imp (fun w M1 g1 H1 c1 l1 q1 v rv => ?_) (sx_of q sl)⟩
  exact q1 H1 g1 c1 Le.refl _ ((sl.mono l1).set rv i)
/-- a, b = e1, e2 -/
def sPar (i j : Nat) (a : AD) : SD := fun env M => sx env (a env M) fun ws M1 => match ws with
  | [w, u] => .ok (.nx ((env.set i (some w)).set j (some u))) M1
  | _ => .no
theorem s_par {i j : Nat} {x y : Str} {a b : Expr} {px py pt : Pos} {kt k2 pt2} (h : PS X (.Assign [.Tuple [.Name x px, .Name y py] kt pt] (.Tuple [a, b] k2 pt2) pos) (tPar i j (TAD X.K cA Wx mr))) :
    PS X (.Assign [.Tuple [.Name x px, .Name y py] kt pt] (.Tuple [a, b] k2 pt2) pos) (TSD X.K cA Wx (sPar i j mr)) := PS.imp h fun D σ H ⟨z, env, M, g, c, sl, q⟩ => by
  refine ⟨z, env, M, g, c, sl, Res.imp (fun ws M1 g1 H1 c1 l1 q1 vs rvs => ?_) (sx_of q sl)⟩
  match ws, rvs, q1 with
  | [w, u], .cons r1 (.cons r2 .nil), q1 => exact ⟨_, _, rfl, q1 H1 g1 c1 Le.refl _ (((sl.mono l1).set r1 i).set r2 j)⟩
  | [], _, q1 => exact q1.elim
  | [_], _, q1 => exact q1.elim
  | _ :: _ :: _ :: _, _, q1 => exact q1.elim
/-! ### tuple targets -/
abbrev GDs := List Wv → Ev → Sto → Rs Ev
def tgsN : GDs := fun ws env M => match ws with
  | [] => .ok env M
  | _ => .no
def tgsC (g : GD) (r : GDs) : GDs := fun ws env M => match ws with
  | w :: ws' => (g w env M).bind fun e M1 => r ws' e M1
  | [] => .no
def tgT (n : Nat) (r : GDs) : GD := fun w env M => match seqw M w with
  | some (false, ws) => if ws.length = n then r ws env M else .no
  | _ => .no
def TGsD (K : PySem.W.Frag) (cA : CA) (m : GDs) : TGs := fun vs σ H Q => ∃ z env M g ws, Cf K cA z H M g ∧ Slots K cA g M.length env σ ∧ Paired (RW K cA g M.length) ws vs ∧ Res K cA z g M.length noE (m ws env M) fun e M' g' H' => ∀ σ', Slots K cA g' M'.length e σ' → Q σ' H'
theorem PGs.imp {X : Cx} {e : List Expr} {t t' : TGs} (h : PGs X e t) (i : ∀ v σ H Q, t' v σ H Q → t v σ H Q) : PGs X e t' := ⟨fun pins s σ H v u Q I r q => h.run pins s σ H v u Q I r (i _ _ _ _ q)⟩
theorem gs_nil : PGs X [] (TGsD X.K cA tgsN) := PGs.imp pgs_nil fun vs σ H Q ⟨z, env, M, g, ws, c, sl, rw1, q⟩ => by
  match ws, rw1, q with
  | [], .nil, q => exact ⟨rfl, q H g c Le.refl σ sl⟩
  | _ :: _, _, q => exact q.elim
theorem gs_cons {es : List Expr} {mg : GD} {mgs : GDs} (h1 : PG X e (TGD X.K cA mg)) (h2 : PGs X es (TGsD X.K cA mgs)) (h3 : PGs X (e :: es) (gCons (TGD X.K cA mg) (TGsD X.K cA mgs))) : PGs X (e :: es) (TGsD X.K cA (tgsC mg mgs)) :=
  PGs.imp h3 fun vs σ H Q ⟨z, env, M, g, ws, c, sl, rw1, q⟩ => by
    match ws, rw1, q with
    | [], _, q => exact q.elim
    | w :: ws', .cons r1 r2, q =>
      refine ⟨_, _, rfl, z, env, M, g, w, c, sl, r1, Res.imp (fun e M1 g1 H1 c1 l1 q1 σ' sl' => ?_) q.of_bind⟩
      exact ⟨z, e, M1, g1, ws', c1, sl', RWs.mono l1 r2, q1⟩
theorem g_tup {es : List Expr} {k : Nat} {mgs : GDs} {n : Nat} (h : PG X (.Tuple es k pos) (gTup X.K n (TGsD X.K cA mgs))) : PG X (.Tuple es k pos) (TGD X.K cA (tgT n mgs)) :=
  PG.imp h fun v σ H Q ⟨z, env, M, g, w, c, sl, rw1, q⟩ => by
    cases e : seqw M w with
    | none => simp [tgT, e, Res] at q
    | some p =>
      obtain ⟨b, ws⟩ := p
      cases b with
      | true => simp [tgT, e, Res] at q
      | false =>
        simp only [tgT, e] at q
        by_cases hn : ws.length = n
        · rw [if_pos hn] at q
          obtain ⟨a, vs, rfl, h1, h2, h3⟩ := seqw_at c rw1 e
          exact ⟨a, vs, rfl, by simpa using h1, by rw [← hn]; exact (Paired.length h3).symm, z, env, M, g, ws, c, sl, h3, q⟩
        · rw [if_neg hn] at q
          exact q.elim
end

/-! ### what a for walks -/
inductive Src where
  | its (l : List Wv) | live (k : Nat) | liveT (k : Nat)
def Src.at (s : Src) (M : Sto) : Option (List Wv) := match s with
  | .its l => some l
  | .live k => match M[k]? with
    | some (.lst ws) => some ws
    | _ => none
  | .liveT k => match M[k]? with
    | some (.tup ws) => some ws
    | _ => none
@[simp] theorem Src.at_its (l : List Wv) (M : Sto) : (Src.its l).at M = some l := rfl
abbrev ID := Ev → Sto → Rs Src
def JOk (K : PySem.W.Frag) (cA : CA) (z : Z0) (g : Gh) (n : Nat) (s : Src) (J : It) : Prop := ∀ (i : Nat) (H2 : Hp) (M2 : Sto) (g2 : Gh) (ws : List Wv), Cf K cA z H2 M2 g2 → Le g n g2 M2.length → s.at M2 = some ws →
  (∀ w, ws[i]? = some w → J.go i H2 ∧ ∀ x H3, J.yld i H2 x H3 → ∃ g3, Cf K cA z H3 M2 g3 ∧ Le g2 M2.length g3 M2.length ∧ RW K cA g3 M2.length w x) ∧ (ws.length ≤ i → J.stop i H2)
def TID (K : PySem.W.Frag) (cA : CA) (Wx : WX) (m : ID) : TI := fun σ H R => ∃ z env M g, Cf K cA z H M g ∧ Slots K cA g M.length env σ ∧ Res K cA z g M.length (EX K cA Wx σ) (m env M) fun s M' g' H' => ∀ J, (∀ z, JOk K cA z g' M'.length s J) → R J H'
end DL

/-! Layer D: loops and comprehensions. -/
namespace DL
open PySem PySem.Spec PyProof.Rows L2

/-! ### a step within a step: entering and leaving -/
def ent (H : Hp) (M : Sto) (g : Gh) : Z0 := ⟨H, g.F, g.ad, M.length⟩
section
variable {K : PySem.W.Frag} {cA : CA} {z : Z0} {H H' : Hp} {M M' : Sto} {g g' : Gh}
theorem Cf.enter (c : Cf K cA z H M g) : Cf K cA (ent H M g) H M g :=
  ⟨c.sub, c.sto, c.inj, Same.refl _, fun a o e _ _ => e, fun a h => .inl h, fun _ _ => rfl, fun k h1 h2 => absurd h2 (Nat.not_lt.mpr h1), Nat.le_refl _, c.tb, c.ft⟩
theorem Cf.ad0 (c : Cf K cA z H M g) {k : Nat} (hk : k < M.length) : (∃ j, j < z.n0 ∧ g.ad k = z.ad0 j) ∨ z.H0 (g.ad k) = none := by
  by_cases h : k < z.n0
  · exact .inl ⟨k, h, c.ad k h⟩
  · exact .inr (c.nw k (Nat.not_lt.mp h) hk)
theorem Cf.leave (c : Cf K cA z H M g) (d : Cf K cA (ent H M g) H' M' g') : Cf K cA z H' M' g' := by
  refine ⟨d.sub, d.sto, d.inj, c.f0.trans d.f0, fun a o e h h9 => ?_, fun a h => ?_, fun k h => ?_, fun k h1 h2 => ?_, Nat.le_trans c.ln d.ln, d.tb, d.ft⟩
  · refine d.fr a o (c.fr a o e h h9) (fun k hk q => ?_) h9
    rcases c.ad0 hk with ⟨j, hj, e2⟩ | e2
    · exact h j hj (q.trans e2)
    · rw [← show a = g.ad k from q, e] at e2
      cases e2
  · rcases d.fs a h with q | q | ⟨k, hk, q⟩
    · exact c.fs a q
    · exact .inr (.inl (c.free0 q).1)
    · rcases c.ad0 hk with ⟨j, hj, e2⟩ | e2
      · exact .inr (.inr ⟨j, hj, q.trans e2⟩)
      · exact .inr (.inl (by rw [q]; exact e2))
  · exact (d.ad k (Nat.lt_of_lt_of_le h c.ln)).trans (c.ad k h)
  · by_cases hk : k < M.length
    · rw [d.ad k hk]
      exact c.nw k h1 hk
    · exact (c.free0 (d.nw k (Nat.not_lt.mp hk) h2)).1
/-- a cell that is neither frozen nor in the store -/
structure Loose (cA : CA) (z : Z0) (M : Sto) (g : Gh) (a : Addr) : Prop where
  F : g.F a = none
  ad : ∀ k, k < M.length → g.ad k ≠ a
  H0 : z.H0 a = none
  tb : ∀ p ∈ cA.T, a ≠ p.1
theorem tabs_scr {T : List NdefX.NTab} {H : Hp} (t : NdefX.TabsN T H) {a : Addr} {ho : HO} (h : ∀ o, H a = some o → Plain o) : NdefX.TabsN T (upd H a ho) := by
  cases e : H a with
  | none => exact tabs_lay t e
  | some o => exact tabs_put t e (h o e)
theorem Cf.scrib (c : Cf K cA z H M g) {a : Addr} {ho : HO} (l : Loose cA z M g a) (hp : ∀ o, H a = some o → Plain o) : Cf K cA z (upd H a ho) M g := by
  refine ⟨fun b o e => ?_, fun k m e => ?_, c.inj, c.f0, fun b o e h h9 => ?_, c.fs, c.ad, c.nw, c.ln, tabs_scr c.tb hp, c.ft⟩
  · rw [upd_ne (ne_of_none e l.F)]
    exact c.sub b o e
  · have hk : k < M.length := (List.getElem?_eq_some_iff.mp e).1
    exact (c.sto k m e).keep Le.refl (upd_ne (l.ad k hk)) fun f => f
  · rw [upd_ne (ne_of_none e l.H0)]
    exact c.fr b o e h h9
theorem Cf.adopt (c : Cf K cA z H M g) {a : Addr} {ho : HO} (l : Loose cA z M g a) (e : H a = some ho) : Cf K cA z H M { g with F := upd g.F a ho } ∧ Le g M.length { g with F := upd g.F a ho } M.length := by
  have le : Le g M.length { g with F := upd g.F a ho } M.length := ⟨Same.upd' l.F, fun _ _ => rfl, Nat.le_refl _⟩
  refine ⟨⟨fun b o q => ?_, fun k m q => ?_, c.inj, c.f0.trans (Same.upd' l.F), c.fr, fun b h => ?_, c.ad, c.nw, c.ln, c.tb, fun p hp => (upd_ne (H := g.F) (o := ho) (fun e => l.tb p hp e.symm)).trans (c.ft p hp)⟩, le⟩
  · have q' : upd g.F a ho b = some o := q
    by_cases hb : b = a
    · subst hb
      rw [upd_same] at q'
      rw [e, q']
    · rw [upd_ne hb] at q'
      exact c.sub _ _ q'
  · have hk : k < M.length := (List.getElem?_eq_some_iff.mp q).1
    exact (c.sto k m q).keep le rfl fun f => (upd_ne (H := g.F) (o := ho) (l.ad k hk)).trans f
  · by_cases hb : b = a
    · subst hb
      exact .inr (.inl l.H0)
    · have h' : upd g.F a ho b ≠ none := h
      rw [upd_ne hb] at h'
      exact c.fs b h'
theorem Cf.adoptM (c : Cf K cA z H M g) {a : Addr} {mo : MO} (l : Loose cA z M g a) (hm : RM K cA (g.add M.length a) (M.length + 1) H a mo) :
    Cf K cA z H (M ++ [mo]) (g.add M.length a) ∧ Le g M.length (g.add M.length a) (M ++ [mo]).length := by
  have hl : (M ++ [mo]).length = M.length + 1 := by rw [List.length_append]; rfl
  have adk : ∀ k, k < M.length → (g.add M.length a).ad k = g.ad k := fun k hk => if_neg (Nat.ne_of_lt hk)
  have adn : (g.add M.length a).ad M.length = a := if_pos rfl
  have le : Le g M.length (g.add M.length a) (M ++ [mo]).length := ⟨Same.refl _, adk, by rw [hl]; omega⟩
  refine ⟨⟨c.sub, fun k m e => ?_, fun j k hj hk e => ?_, c.f0, c.fr, c.fs, fun k hk => ?_, fun k h1 h2 => ?_, by rw [hl]; exact Nat.le_succ_of_le c.ln, c.tb, c.ft⟩, le⟩
  · by_cases hk : k < M.length
    · rw [List.getElem?_append_left hk] at e
      rw [adk k hk]
      exact (c.sto k m e).keep le rfl fun f => f
    · have hk2 : k = M.length := by
        have := (List.getElem?_eq_some_iff.mp e).1
        omega
      subst hk2
      have : mo = m := by
        rw [List.getElem?_append_right (Nat.le_refl _), Nat.sub_self] at e
        simpa using e
      subst this
      rw [adn, hl]
      exact hm
  · rw [hl] at hj hk
    by_cases h1 : j < M.length
    · by_cases h2 : k < M.length
      · rw [adk j h1, adk k h2] at e
        exact c.inj j k h1 h2 e
      · have : k = M.length := by omega
        subst this
        rw [adk j h1, adn] at e
        exact absurd e (l.ad j h1)
    · have : j = M.length := by omega
      subst this
      by_cases h2 : k < M.length
      · rw [adk k h2, adn] at e
        exact absurd e.symm (l.ad k h2)
      · omega
  · rw [adk k (Nat.lt_of_lt_of_le hk c.ln)]
    exact c.ad k hk
  · rw [hl] at h2
    by_cases h3 : k < M.length
    · rw [adk k h3]
      exact c.nw k h1 h3
    · have : k = M.length := by omega
      subst this
      rw [adn]
      exact l.H0
theorem Cf.fresh (c : Cf K cA z H M g) {a : Addr} (h : H a = none) : Loose cA z M g a := ⟨c.sub.free h, (c.free0 h).2, (c.free0 h).1, tabs_no c.tb h⟩
theorem plain_no {H : Hp} {a : Addr} (h : H a = none) : ∀ o, H a = some o → Plain o := fun o e => by rw [h] at e; cases e
theorem plain_of {H : Hp} {a : Addr} {o : HO} (h : H a = some o) (p : Plain o) : ∀ o, H a = some o → Plain o := fun o e => by rw [h] at e; cases e; exact p
/-- a step leaves a loose cell as it was, and loose -/
theorem Loose.step (l : Loose cA z M g a) {ho : HO} (e : H a = some ho) (d : Cf K cA (ent H M g) H' M' g') : H' a = some ho ∧ Loose cA z M' g' a := by
  refine ⟨d.fr a ho e (fun k hk q => l.ad k hk q.symm) l.tb, ?_, fun k hk q => ?_, l.H0, l.tb⟩
  · cases q : g'.F a with
    | none => rfl
    | some o =>
      rcases d.fs a (by rw [q]; exact fun z => by cases z) with h | h | ⟨k, hk, h⟩
      · exact absurd l.F h
      · rw [show (ent H M g).H0 = H from rfl, e] at h
        cases h
      · exact absurd h.symm (l.ad k hk)
  · by_cases h : k < M.length
    · rw [d.ad k h] at q
      exact l.ad k h q
    · have := d.nw k (Nat.not_lt.mp h) hk
      rw [q, show (ent H M g).H0 = H from rfl, e] at this
      cases this
end

/-! ### iterables -/
def srcw (w : Wv) (M : Sto) : Rs Src := match nw M w with
  | .d (.tup l) => .ok (.its (l.map .d)) M
  | .d (.lst l) => .ok (.its (l.map .d)) M
  | .d (.scr l) => .ok (.its (l.map .d)) M
  | .d (.str s) => .ok (.its (s.cps.toList.map fun c => .d (.str ⟨#[c]⟩))) M
  | .m k => match M[k]? with
    | some (.lst _) => .ok (.live k) M
    | some (.tup _) => .ok (.liveT k) M
    | _ => .no
  | _ => .no
def iSeq (m : ED) : ID := fun env M => (m env M).bind fun w M1 => srcw w M1
def iAny (K : PySem.W.Frag) (tl : TE) : TI := fun σ H R => tl σ H fun x H1 => (∃ a, x = .ref a ∧ (∃ xs, SqL K H1 a xs) ∧ R (Itl K a) H1) ∨ (∃ a, x = .ref a ∧ (∃ xs, SqT K H1 a xs) ∧ R (Itt K a) H1) ∨ ∃ s, x = .str s ∧ R (Its s) H1
section
variable {X : Cx} {cA : CA} {Wx : WX} {a b c e tg iter elt : Expr} {ma mb mc : ED} {mr : AD} {ta tc : TD} {ms mt : SD} {mi mi1 : ID} {mg mg1 : GD} {st : Stmt} {sts sts2 : List Stmt} {p pos apos : Pos}
theorem pi_any {l : Expr} {tl : TE} (hl : PE X l tl) : PI X tg l (iAny X.K tl) := by
  refine ⟨fun pins s σ H R I h => ?_⟩
  refine thn (hl.run pins s σ H _ I h) fun v s1 ⟨x, H1, I1, r1, q1⟩ => ?_
  have kx : PE X l (fun σ' H' Q => σ' = σ ∧ H' = H1 ∧ True → Q x H1) → True := fun _ => trivial
  rcases q1 with ⟨a, e, ⟨xs, hq⟩, q⟩ | ⟨a, e, ⟨xs, hq⟩, q⟩ | ⟨t, e, q⟩
  · subst e
    cases r1
    obtain ⟨its, rv, p, hz⟩ := I1.list hq
    refine wpAny_pyIter_list p.isList ?_
    refine ⟨s1.heap.objs.size, [s1.heap.objs.size], _, _, H1, rfl, I1.kept (t' := s1.toks) fun b o e => Heap.get?_push_of_some _ e, turn_list a _, ⟨_, Heap.get?_push_size _ rfl, rfl, rfl⟩, fun b hb => ?_, q⟩
    have e : b = s1.heap.objs.size := by simpa using hb
    subst e
    exact I1.fpOk (Nat.le_refl _) (I1.hok.fresh (Nat.le_refl _))
  · subst e
    cases r1
    obtain ⟨its, rv, p, hz⟩ := I1.tuple hq
    refine wpAny_pyIter_tuple (show s1.heap.IsTuple a its.toArray from p) ?_
    refine ⟨s1.heap.objs.size, [s1.heap.objs.size], _, _, H1, rfl, I1.kept (t' := s1.toks) fun b o e => Heap.get?_push_of_some _ e, turn_tuple a _, ⟨_, Heap.get?_push_size _ rfl, rfl, rfl⟩, fun b hb => ?_, q⟩
    have e : b = s1.heap.objs.size := by simpa using hb
    subst e
    exact I1.fpOk (Nat.le_refl _) (I1.hok.fresh (Nat.le_refl _))
  · subst e
    obtain ⟨tk, rfl⟩ := r1
    cases ha : t.cps.all (· < 128)
    · exact wpAny_pyIter_wide ha (pi_one (tk := s1.toks) I1 _ (turn_str _ t tk "str_iterator" (.inr rfl)) ⟨_, Heap.get?_push_size _ rfl, rfl, rfl⟩ q)
    · exact wpAny_pyIter_ascii ha (pi_one (tk := s1.toks) I1 _ (turn_str _ t tk "str_ascii_iterator" (.inl rfl)) ⟨_, Heap.get?_push_size _ rfl, rfl, rfl⟩ q)
theorem map_some {α β : Type} {f : α → β} {l : List α} {i : Nat} {b : β} (h : (l.map f)[i]? = some b) : ∃ a, l[i]? = some a ∧ f a = b := by
  rw [List.getElem?_map] at h
  cases e : l[i]? with
  | none => rw [e] at h; cases h
  | some a => rw [e] at h; exact ⟨a, rfl, Option.some.inj h⟩
theorem jok_list {K : PySem.W.Frag} {z : Z0} {g : Gh} {n : Nat} {H : Hp} {l : List D} {a : Addr} {vs : List V} (h1 : SqL K g.F a vs) (h2 : RepL K cA g.F l vs) : JOk K cA z g n (.its (l.map .d)) (Itl K a) := by
  intro i H2 M2 g2 ws c2 l2 e
  cases (Option.some.inj e)
  have hs : SqL K H2 a vs := c2.sub.seq (l2.F.seq h1)
  refine ⟨fun w hw => ?_, fun hi => ⟨vs, hs, by rw [← h2.length]; simpa using hi⟩⟩
  obtain ⟨d, hd, rfl⟩ := map_some hw
  obtain ⟨v, hv, rv⟩ := h2.get hd
  refine ⟨⟨vs, v, hs, hv⟩, fun x H3 ⟨e3, f3⟩ => ?_⟩
  subst e3
  have := f3 vs hs
  rw [hv] at this
  cases this
  exact ⟨g2, c2, Le.refl, rv.mono l2.F⟩
theorem jok_tup {K : PySem.W.Frag} {z : Z0} {g : Gh} {n : Nat} {H : Hp} {l : List D} {a : Addr} {vs : List V} (h1 : SqT K g.F a vs) (h2 : RepL K cA g.F l vs) : JOk K cA z g n (.its (l.map .d)) (Itt K a) := by
  intro i H2 M2 g2 ws c2 l2 e
  cases (Option.some.inj e)
  have hs : SqT K H2 a vs := c2.sub.seqT (l2.F.seqT h1)
  refine ⟨fun w hw => ?_, fun hi => ⟨vs, hs, by rw [← h2.length]; simpa using hi⟩⟩
  obtain ⟨d, hd, rfl⟩ := map_some hw
  obtain ⟨v, hv, rv⟩ := h2.get hd
  refine ⟨⟨vs, v, hs, hv⟩, fun x H3 ⟨e3, f3⟩ => ?_⟩
  subst e3
  have := f3 vs hs
  rw [hv] at this
  cases this
  exact ⟨g2, c2, Le.refl, rv.mono l2.F⟩
theorem i_seq (ha : PE X a (TED X.K cA Wx ma)) : PI X tg a (TID X.K cA Wx (iSeq ma)) := PI.imp (pi_any ha) fun σ H R ⟨z, env, M, g, c, sl, q⟩ => by
  refine ⟨z, env, M, g, c, sl, Res.imp (fun w M1 g1 H1 c1 l1 q1 v rv => ?_) q.of_bind⟩
  have r' := rw_nw c1 rv
  cases e : nw M1 w with
  | m k =>
    rw [e] at r'
    obtain ⟨hk, rfl⟩ := r'
    simp only [srcw, e] at q1
    cases e2 : M1[k]? with
    | none => simp [e2, Res] at q1
    | some mo =>
      cases mo with
      | lst us =>
        simp only [e2] at q1
        obtain ⟨vs, h1, h2, h3, h4⟩ := c1.sto k _ e2
        refine .inl ⟨g1.ad k, rfl, ⟨vs, SqL.of h1⟩, q1 H1 g1 c1 Le.refl _ fun z i H2 M2 g2 ws c2 l2 es => ?_⟩
        cases e3 : M2[k]? with
        | none => simp [Src.at, e3] at es
        | some mo2 =>
          cases mo2 with
          | lst ws2 =>
            simp only [Src.at, e3, Option.some.injEq] at es
            subst es
            obtain ⟨us2, k1, k2, k3, k4⟩ := c2.sto k _ e3
            rw [l2.ad k hk] at k1
            refine ⟨fun w hw => ?_, fun hi => ⟨us2, SqL.of k1, by rw [← k4.length]; exact hi⟩⟩
            obtain ⟨v2, hv, rv2⟩ := Paired.get' k4 hw
            refine ⟨⟨us2, v2, SqL.of k1, hv⟩, fun x H3 ⟨e4, f4⟩ => ?_⟩
            subst e4
            have := f4 us2 (SqL.of k1)
            rw [hv] at this
            cases this
            exact ⟨g2, c2, Le.refl, rv2⟩
          | _ => simp [Src.at, e3] at es
      | tup us =>
        simp only [e2] at q1
        obtain ⟨vs, h1, h2, h3, h4⟩ := c1.sto k _ e2
        refine .inr (.inl ⟨g1.ad k, rfl, ⟨vs, SqT.of h1⟩, q1 H1 g1 c1 Le.refl _ fun z i H2 M2 g2 ws c2 l2 es => ?_⟩)
        cases e3 : M2[k]? with
        | none => simp [Src.at, e3] at es
        | some mo2 =>
          cases mo2 with
          | tup ws2 =>
            simp only [Src.at, e3, Option.some.injEq] at es
            subst es
            obtain ⟨us2, k1, k2, k3, k4⟩ := c2.sto k _ e3
            rw [l2.ad k hk] at k1
            refine ⟨fun w hw => ?_, fun hi => ⟨us2, SqT.of k1, by rw [← k4.length]; exact hi⟩⟩
            obtain ⟨v2, hv, rv2⟩ := Paired.get' k4 hw
            refine ⟨⟨us2, v2, SqT.of k1, hv⟩, fun x H3 ⟨e4, f4⟩ => ?_⟩
            subst e4
            have := f4 us2 (SqT.of k1)
            rw [hv] at this
            cases this
            exact ⟨g2, c2, Le.refl, rv2⟩
          | _ => simp [Src.at, e3] at es
      | _ => simp [e2, Res] at q1
  | d d =>
    rw [e] at r'
    simp only [srcw, e] at q1
    cases d with
    | tup l =>
      obtain ⟨a', vs, rfl, h1, h2, h3⟩ := r'
      exact .inr (.inl ⟨a', rfl, ⟨vs, c1.sub.seqT h1⟩, q1 H1 g1 c1 Le.refl _ (fun _ => jok_tup (H := H1) h1 h3)⟩)
    | lst l =>
      obtain ⟨a', vs, rfl, h1, h2, h3⟩ := r'
      exact .inl ⟨a', rfl, ⟨vs, SqL.of (c1.sub _ _ h1)⟩, q1 H1 g1 c1 Le.refl _ (fun _ => jok_list (H := H1) (SqL.of h1) h3)⟩
    | scr l =>
      obtain ⟨a', vs, rfl, h1, h2, h3⟩ := r'
      exact .inl ⟨a', rfl, ⟨vs, c1.sub.seq h1⟩, q1 H1 g1 c1 Le.refl _ (fun _ => jok_list (H := H1) h1 h3)⟩
    | str s =>
      cases (show v = .str s from r')
      refine .inr (.inr ⟨s, rfl, q1 H1 g1 c1 Le.refl _ fun z i H2 M2 g2 ws c2 l2 es => ?_⟩)
      cases (Option.some.inj es)
      refine ⟨fun w hw => ?_, fun hi => (show s.cps.size ≤ i by simpa using hi)⟩
      obtain ⟨ch, hc, rfl⟩ := map_some hw
      have hi : i < s.cps.size := by
        have := (List.getElem?_eq_some_iff.mp hc).1
        simpa using this
      refine ⟨hi, fun x H3 ⟨e3, c3, e4, e5⟩ => ?_⟩
      subst e3
      subst e5
      rw [Array.getElem?_toList] at hc
      rw [hc] at e4
      cases e4
      exact ⟨g2, c2, Le.refl, rfl⟩
    | _ => exact q1.elim
/-- a truth value that is not opened unasked -/
def shut (n : Nat) (b : Bool) : Bool := if h : n = 0 then b else shut (n / 2) b
termination_by n
theorem shut_eq (b : Bool) : shut 1 b = b := by
  unfold shut
  rw [dif_neg (by decide)]
  unfold shut
  rw [dif_pos (by decide)]
/-- range -/
def rngw (lo hi : Int) (M : Sto) : Rs Src := if shut 1 (decide (-(2 ^ 62) ≤ lo ∧ lo < 2 ^ 62 ∧ -(2 ^ 62) ≤ hi ∧ hi < 2 ^ 62)) = true then .ok (.its ((List.range (hi - lo).toNat).map fun (i : Nat) => .d (.int (lo + i)))) M else .no
def iR1 (m : AD) : ID := fun env M => (m env M).bind fun ws M1 => match ws with
  | [.d (.int j)] => rngw 0 j M1
  | _ => .no
def iR2 (m : AD) : ID := fun env M => (m env M).bind fun ws M1 => match ws with
  | [.d (.int i), .d (.int j)] => rngw i j M1
  | _ => .no
theorem jok_rng {K : PySem.W.Frag} {z : Z0} {g : Gh} {n : Nat} {lo : Int} {k : Nat} : JOk K cA z g n (.its ((List.range k).map fun (i : Nat) => .d (.int (lo + i)))) (Itr lo k) := by
  intro i H2 M2 g2 ws c2 l2 e
  cases (Option.some.inj e)
  refine ⟨fun w hw => ?_, fun hi => (show k ≤ i by simpa using hi)⟩
  obtain ⟨j, hj, rfl⟩ := map_some hw
  obtain ⟨hi, e2⟩ := List.getElem?_eq_some_iff.mp hj
  rw [List.getElem_range] at e2
  subst e2
  refine ⟨(show i < k by simpa using hi), fun x H3 ⟨e3, e4⟩ => ?_⟩
  subst e3
  subst e4
  exact ⟨g2, c2, Le.refl, rfl⟩
theorem i_r1 (hm : X.mg "range" = none) (ha : PA X [a] (TAD X.K cA Wx mr)) (hg : Gl X "range" := by rfl) (hs : starEach [a] X.env = [(false, eval a X.env)] := by rfl) : PI X tg (.Call (.Name "range" p) [a] [] pos) (TID X.K cA Wx (iR1 mr)) :=
  PI.imp (pi_range1 hg hm ha hs) fun σ H R ⟨z, env, M, g, c, sl, q⟩ => by
    refine ⟨z, env, M, g, c, sl, Res.imp (fun ws M1 g1 H1 c1 l1 q1 vs rv => ?_) q.of_bind⟩
    match ws, rv, q1 with
    | [.d (.int j)], .cons r1 .nil, q1 =>
      simp only [rngw, shut_eq] at q1
      split at q1
      · rename_i hd
        obtain ⟨h1, h2, h3, h4⟩ := of_decide_eq_true hd
        refine ⟨j, by rw [show _ = V.int j from r1], h3, h4, ?_⟩
        have e0 : (j - 0).toNat = j.toNat := by rw [Int.sub_zero]
        rw [e0] at q1
        exact q1 H1 g1 c1 Le.refl _ (fun _ => jok_rng)
      · exact q1.elim
theorem i_r2 (hm : X.mg "range" = none) (ha : PA X [a, b] (TAD X.K cA Wx mr)) (hg : Gl X "range" := by rfl) (hs : starEach [a, b] X.env = [(false, eval a X.env), (false, eval b X.env)] := by rfl) (hs2 : starEach [b] X.env = [(false, eval b X.env)] := by rfl) :
    PI X tg (.Call (.Name "range" p) [a, b] [] pos) (TID X.K cA Wx (iR2 mr)) :=
  PI.imp (pi_range2 hg hm ha hs hs2) fun σ H R ⟨z, env, M, g, c, sl, q⟩ => by
    refine ⟨z, env, M, g, c, sl, Res.imp (fun ws M1 g1 H1 c1 l1 q1 vs rv => ?_) q.of_bind⟩
    match ws, rv, q1 with
    | [.d (.int i), .d (.int j)], .cons r1 (.cons r2 .nil), q1 =>
      simp only [rngw, shut_eq] at q1
      split at q1
      · rename_i hd
        obtain ⟨h1, h2, h3, h4⟩ := of_decide_eq_true hd
        exact ⟨i, j, by rw [show _ = V.int i from r1, show _ = V.int j from r2], ⟨h1, h2, h3, h4⟩, q1 H1 g1 c1 Le.refl _ (fun _ => jok_rng)⟩
      · exact q1.elim

/-! ### for -/
def forS (s : Src) (tg : GD) (body : SD) : Nat → Nat → SD
  | 0, i, env, M => match s.at M with
    | some ws => if ws.length ≤ i then .ok (.nx env) M else .no
    | none => .no
  | f + 1, i, env, M => match s.at M with
    | none => .no
    | some ws => match ws[i]? with
      | none => .ok (.nx env) M
      | some w => (tg w env M).bind fun e M1 => (body e M1).bind fun o M2 => match o with
        | .nx e2 => forS s tg body f (i + 1) e2 M2
        | .ct e2 => forS s tg body f (i + 1) e2 M2
        | .bk e2 => .ok (.nx e2) M2
        | .rt w => .ok (.rt w) M2
        | .xc e x => .ok (.xc e x) M2
def sFor (src : ID) (tg : GD) (body : SD) : SD := fun env M => sx env (src env M) fun s M1 => match s.at M1 with
  | some ws => forS s tg body ws.length 0 env M1
  | none => .no
theorem s_for {body : List Stmt} (hp : PassesOwn (model X.prog X.w) X.A X.env X.xe) (hc : X.calm = true) (hi : PI X tg iter (TID X.K cA Wx mi)) (hg : PG X tg (TGD X.K cA mg)) (hb : PSs X body (TSD X.K cA Wx ms)) (hs : ∀ x, foldedSetIterable iter X.env x = pure x := by intro _; rfl) :
    PS X (.For tg iter body [] pos) (TSD X.K cA Wx (sFor mi mg ms)) := PS.imp (ps_for hp hc hi hg hb hs) fun D σ H ⟨z, env, M, g, c, sl, q⟩ => by
  refine ⟨z, env, M, g, c, sl, Res.imp (fun s M1 g1 H1 c1 l1 q1 J hJ => ?_) (sx_of q sl)⟩
  cases es : s.at M1 with
  | none => simp [es, Res] at q1
  | some ws0 =>
    simp only [es] at q1
    refine ⟨fun i m σ H => ∃ env M g, Cf X.K cA z H M g ∧ Le g1 M1.length g M.length ∧ Slots X.K cA g M.length env σ ∧ Res X.K cA z g M.length noE (forS s mg ms m i env M) (OutP X.K cA Wx D),
      ⟨ws0.length, env, M1, g1, c1, Le.refl, sl.mono l1, q1⟩, fun i m σ H ⟨env, M, g, c, l, sl, q⟩ => ?_⟩
    cases m with
    | zero =>
      unfold forS at q
      cases es : s.at M with
      | none => simp [es, Res] at q
      | some ws =>
        simp only [es] at q
        by_cases hi : ws.length ≤ i
        · rw [if_pos hi] at q
          exact .inl ⟨(hJ z i H M g ws c l es).2 hi, q H g c Le.refl σ sl⟩
        · rw [if_neg hi] at q
          exact q.elim
    | succ m =>
      unfold forS at q
      cases es : s.at M with
      | none => simp [es, Res] at q
      | some ws =>
        simp only [es] at q
        cases ew : ws[i]? with
        | none =>
          simp only [ew] at q
          exact .inl ⟨(hJ z i H M g ws c l es).2 (List.getElem?_eq_none_iff.mp ew), q H g c Le.refl σ sl⟩
        | some w =>
          simp only [ew] at q
          obtain ⟨hgo, hy⟩ := (hJ z i H M g ws c l es).1 w ew
          refine .inr ⟨hgo, fun σ' H' => ∃ env M g, Cf X.K cA z H' M g ∧ Le g1 M1.length g M.length ∧ Slots X.K cA g M.length env σ' ∧ Res X.K cA z g M.length noE (forS s mg ms m (i + 1) env M) (OutP X.K cA Wx D),
            fun σ' H' h => ⟨m, Nat.lt_succ_self _, h⟩, fun x H' hx => ?_⟩
          obtain ⟨g3, c3, l3, r3⟩ := hy x H' hx
          refine ⟨z, env, M, g3, w, c3, sl.mono l3, r3, Res.imp (fun e M4 g4 H4 c4 l4 q4 σ4 sl4 => ?_) (q.later l3).of_bind⟩
          refine ⟨z, e, M4, g4, c4, sl4, Res.imp (fun o M5 g5 H5 c5 l5 q5 => ?_) q4.of_bind⟩
          have le5 : Le g1 M1.length g5 M5.length := ((l.trans l3).trans l4).trans l5
          cases o with
          | nx e2 => exact fun σ' sl' => ⟨e2, M5, g5, c5, le5, sl', q5⟩
          | ct e2 => exact fun σ' sl' => ⟨e2, M5, g5, c5, le5, sl', q5⟩
          | bk e2 => exact q5 H5 g5 c5 Le.refl
          | rt w => exact q5 H5 g5 c5 Le.refl
          | xc e x => exact q5 H5 g5 c5 Le.refl

/-! ### while -/
def whS (t : TD) (body : SD) : Nat → SD
  | 0, _, _ => .no
  | f + 1, env, M => sx env (t env M) fun k M1 => if k = true then (body env M1).bind fun o M2 => match o with
      | .nx e2 => whS t body f e2 M2
      | .ct e2 => whS t body f e2 M2
      | .bk e2 => .ok (.nx e2) M2
      | .rt w => .ok (.rt w) M2
      | .xc e x => .ok (.xc e x) M2
    else .ok (.nx env) M1
theorem s_while {body : List Stmt} (f : Nat) (hp : PassesOwn (model X.prog X.w) X.A X.env X.xe) (ht : PT X a (TTD X.K cA Wx ta)) (hb : PSs X body (TSD X.K cA Wx ms)) :
    PS X (.While a body [] pos) (TSD X.K cA Wx (whS ta ms f)) := PS.imp (ps_while hp ht hb) fun D σ H ⟨z, env, M, g, c, sl, q⟩ => by
  refine ⟨fun m σ H => ∃ env M g, Cf X.K cA z H M g ∧ Slots X.K cA g M.length env σ ∧ Res X.K cA z g M.length noE (whS ta ms m env M) (OutP X.K cA Wx D), ⟨f, env, M, g, c, sl, q⟩, fun m σ H ⟨env, M, g, c, sl, q⟩ => ?_⟩
  cases m with
  | zero => exact q.elim
  | succ m =>
    unfold whS at q
    refine ⟨z, env, M, g, c, sl, Res.imp (fun k M1 g1 H1 c1 l1 q1 => ?_) (sx_of q sl)⟩
    cases k with
    | false => exact iteF (q1 H1 g1 c1 Le.refl σ (sl.mono l1))
    | true =>
      refine iteT ⟨fun σ' H' => ∃ env M g, Cf X.K cA z H' M g ∧ Slots X.K cA g M.length env σ' ∧ Res X.K cA z g M.length noE (whS ta ms m env M) (OutP X.K cA Wx D), fun σ' H' h => ⟨m, Nat.lt_succ_self _, h⟩, ?_⟩
      have q1' : Res X.K cA z g1 M1.length noE ((ms env M1).bind fun o M2 => match o with
        | .nx e2 => whS ta ms m e2 M2
        | .ct e2 => whS ta ms m e2 M2
        | .bk e2 => .ok (.nx e2) M2
        | .rt w => .ok (.rt w) M2
        | .xc e x => .ok (.xc e x) M2) (OutP X.K cA Wx D) := q1
      refine ⟨z, env, M1, g1, c1, sl.mono l1, Res.imp (fun o M5 g5 H5 c5 l5 q5 => ?_) q1'.of_bind⟩
      cases o with
      | nx e2 => exact fun σ' sl' => ⟨e2, M5, g5, c5, sl', q5⟩
      | ct e2 => exact fun σ' sl' => ⟨e2, M5, g5, c5, sl', q5⟩
      | bk e2 => exact q5 H5 g5 c5 Le.refl
      | rt w => exact q5 H5 g5 c5 Le.refl
      | xc e x => exact q5 H5 g5 c5 Le.refl
end
end DL

/-! Layer D: comprehensions. -/
namespace DL
open PySem PySem.Spec PyProof.Rows L2

def nx {α : Type} (r : Rs α) : Rs α := match r with
  | .ok a M => .ok a M
  | _ => .no
@[simp] theorem nx_ok {α : Type} (a : α) (M : Sto) : nx (.ok a M) = .ok a M := rfl
@[simp] theorem nx_no {α : Type} : nx (.no : Rs α) = .no := rfl
abbrev W0 : WX := fun _ _ _ _ => False
section
variable {K : PySem.W.Frag} {cA : CA} {z : Z0} {g : Gh} {n : Nat} {H : Hp} {M : Sto} {α : Type} {E E' : Exn → Sto → Gh → Hp → Prop} {r : Rs α} {P : α → Sto → Gh → Hp → Prop}
theorem Res.ent {g0 : Gh} (c : Cf K cA z H M g0) (h : Res K cA z g n E r P) : Res K cA (ent H M g0) g n E r P := by
  cases r with
  | ok a M' => exact fun H' g' c' l => h H' g' (c.leave c') l
  | ex x M' => exact fun H' g' c' l => h H' g' (c.leave c') l
  | no => exact h
theorem Res.nx' (h : Res K cA z g n E (nx r) P) : Res K cA z g n E' r P := by
  cases r with
  | ok a M' => exact h
  | ex x M' => exact h.elim
  | no => exact h
end

def wipeE (env : Ev) : List Nat → Ev
  | [] => env
  | v :: vs => (wipeE env vs).set v none
theorem Slots.wipe {K : PySem.W.Frag} {cA : CA} {g : Gh} {n : Nat} {env : Ev} {σ : St} (h : Slots K cA g n env σ) : ∀ vs : List Nat, Slots K cA g n (wipeE env vs) (L2.wipe σ vs)
  | [] => h
  | v :: vs => (Slots.wipe h vs).gone v
theorem wipe_set {σ : St} {i : Nat} {x : Option V} : ∀ {vs : List Nat}, i ∈ vs → L2.wipe (σ.set i x) vs = L2.wipe σ vs
  | v :: vs, h => by
    unfold L2.wipe
    by_cases hi : i ∈ vs
    · rw [wipe_set hi]
    · have hv : i = v := by
        rcases List.mem_cons.mp h with e | e
        · exact e
        · exact absurd e hi
      subst hv
      apply List.ext_getElem?
      intro j
      by_cases hj : i = j
      · subst hj
        by_cases hl : i < σ.length
        · rw [List.getElem?_set_self (by rw [L2.wipe_length, List.length_set]; exact hl), List.getElem?_set_self (by rw [L2.wipe_length]; exact hl)]
        · rw [List.getElem?_eq_none_iff.mpr (by rw [List.length_set, L2.wipe_length, List.length_set]; omega), List.getElem?_eq_none_iff.mpr (by rw [List.length_set, L2.wipe_length]; omega)]
      · rw [List.getElem?_set_ne hj, List.getElem?_set_ne hj]
        have key : ∀ (ws : List Nat) (τ τ' : St), τ.length = τ'.length → τ[j]? = τ'[j]? → (L2.wipe τ ws)[j]? = (L2.wipe τ' ws)[j]? := by
          intro ws τ τ' hl e
          induction ws with
          | nil => exact e
          | cons u ws ih =>
            unfold L2.wipe
            by_cases hu : u = j
            · subst hu
              by_cases hz : u < τ.length
              · rw [List.getElem?_set_self (by rw [L2.wipe_length]; exact hz), List.getElem?_set_self (by rw [L2.wipe_length, ← hl]; exact hz)]
              · rw [List.getElem?_eq_none_iff.mpr (by rw [List.length_set, L2.wipe_length]; omega), List.getElem?_eq_none_iff.mpr (by rw [List.length_set, L2.wipe_length]; omega)]
            · rw [List.getElem?_set_ne hu, List.getElem?_set_ne hu]
              exact ih
        exact key vs _ _ List.length_set (by rw [List.getElem?_set_ne hj])
theorem wipe_wipe (σ : St) : ∀ vs : List Nat, L2.wipe (L2.wipe σ vs) vs = L2.wipe σ vs := by
  have key : ∀ (vs ws : List Nat), (∀ v ∈ vs, v ∈ ws) → L2.wipe (L2.wipe σ vs) ws = L2.wipe σ ws := by
    intro vs ws
    induction vs with
    | nil => intro _; rfl
    | cons v vs ih =>
      intro h
      rw [show L2.wipe σ (v :: vs) = (L2.wipe σ vs).set v none from rfl, wipe_set (h v List.mem_cons_self)]
      exact ih fun u hu => h u (List.mem_cons_of_mem _ hu)
  exact fun vs => key vs vs fun _ h => h
/-- targets of a comprehension: they write the block's own slots alone -/
def GOk (K : PySem.W.Frag) (cA : CA) (g : TG) (mg : GD) (vs : List Nat) : Prop := ∀ (z : Z0) (env : Ev) (M : Sto) (gh : Gh) (w : Wv) (v : V) (σ : St) (H : Hp) (Q : St → Hp → Prop), Cf K cA z H M gh → Slots K cA gh M.length env σ → RW K cA gh M.length w v →
  Res K cA z gh M.length noE (mg w env M) (fun e M' g' H' => ∀ σ', Slots K cA g' M'.length e σ' → L2.wipe σ' vs = L2.wipe σ vs → Q σ' H') → g v σ H Q
def GsOk (K : PySem.W.Frag) (cA : CA) (g : TGs) (mg : GDs) (vs : List Nat) : Prop := ∀ (z : Z0) (env : Ev) (M : Sto) (gh : Gh) (ws : List Wv) (us : List V) (σ : St) (H : Hp) (Q : St → Hp → Prop), Cf K cA z H M gh → Slots K cA gh M.length env σ → Paired (RW K cA gh M.length) ws us →
  Res K cA z gh M.length noE (mg ws env M) (fun e M' g' H' => ∀ σ', Slots K cA g' M'.length e σ' → L2.wipe σ' vs = L2.wipe σ vs → Q σ' H') → g us σ H Q
section
variable {K : PySem.W.Frag} {cA : CA} {vs : List Nat} {g : TG} {gs : TGs} {mg : GD} {mgs : GDs}
theorem gok_name {i : Nat} (h : i ∈ vs) : GOk K cA (gName i) (tgN i) vs := fun z env M gh w v σ H Q c sl r q => q H gh c Le.refl _ (sl.set r i) (wipe_set h)
theorem gsok_nil : GsOk K cA gNil tgsN vs := fun z env M gh ws us σ H Q c sl r q => by
  match ws, r, q with
  | [], .nil, q => exact ⟨rfl, q H gh c Le.refl σ sl rfl⟩
  | _ :: _, _, q => exact q.elim
theorem gsok_cons (h1 : GOk K cA g mg vs) (h2 : GsOk K cA gs mgs vs) : GsOk K cA (gCons g gs) (tgsC mg mgs) vs := fun z env M gh ws us σ H Q c sl r q => by
  match ws, r, q with
  | [], _, q => exact q.elim
  | w :: ws', .cons r1 r2, q =>
    refine ⟨_, _, rfl, h1 z env M gh w _ σ H _ c sl r1 (Res.imp (fun e M1 g1 H1 c1 l1 q1 σ' sl' hw => ?_) q.of_bind)⟩
    exact h2 z e M1 g1 ws' _ σ' H1 Q c1 sl' (RWs.mono l1 r2) (Res.imp (fun e2 M2 g2 H2 c2 l2 q2 σ2 sl2 hw2 => q2 σ2 sl2 (hw2.trans hw)) q1)
theorem gok_tup {n : Nat} (h : GsOk K cA gs mgs vs) : GOk K cA (gTup K n gs) (tgT n mgs) vs := fun z env M gh w v σ H Q c sl r q => by
  cases e : seqw M w with
  | none => simp [tgT, e, Res] at q
  | some p =>
    obtain ⟨b, ws⟩ := p
    cases b with
    | true => simp [tgT, e, Res] at q
    | false =>
      simp only [tgT, e] at q
      by_cases hn : ws.length = n
      · rw [if_pos hn] at q
        obtain ⟨a, us, rfl, h1, h2, h3⟩ := seqw_at c r e
        exact ⟨a, us, rfl, by simpa using h1, by rw [← hn]; exact (Paired.length h3).symm, h z env M gh ws us σ H Q c sl h3 q⟩
      · rw [if_neg hn] at q
        exact q.elim
end

def compS (s : Src) (tg : GD) (tt : TD) (te : ED) : Nat → Nat → Nat → Ev → Sto → Rs (List Wv)
  | 0, i, _, _, M => match s.at M with
    | some ws => if ws.length ≤ i then .ok [] M else .no
    | none => .no
  | f + 1, i, cnt, env, M => match s.at M with
    | none => .no
    | some ws => match ws[i]? with
      | none => .ok [] M
      | some w => (nx (tg w env M)).bind fun e M1 => (nx (tt e M1)).bind fun k M2 =>
        if k = true then (nx (te e M2)).bind fun y M3 => if cnt < sizeLine then (compS s tg tt te f (i + 1) (cnt + 1) env M3).bind fun ys M4 => .ok (y :: ys) M4 else .no
        else compS s tg tt te f (i + 1) cnt env M2
/-- a comprehension's list, frozen, or to be changed -/
def finF (ws : List Wv) (M : Sto) : Rs Wv := match nds M ws with
  | some l => .ok (.d (.lst l)) M
  | none => .no
def finM (ws : List Wv) (M : Sto) : Rs Wv := .ok (.m M.length) (M ++ [.lst ws])
def eLc (fin : List Wv → Sto → Rs Wv) (src : ID) (tg : GD) (tt : TD) (te : ED) (vs : List Nat) : ED := fun env M => (src env M).bind fun s M1 => match s.at M1 with
  | some ws => (compS s tg tt te ws.length 0 0 (wipeE env vs) M1).bind fun ys M2 => fin ys M2
  | none => .no
/-- what the end of a comprehension asks -/
def FinOk (K : PySem.W.Frag) (cA : CA) (fin : List Wv → Sto → Rs Wv) : Prop := ∀ (z : Z0) (H : Hp) (M : Sto) (g : Gh) (D : Addr) (acc : List Wv) (us : List V) (E : Exn → Sto → Gh → Hp → Prop) (Q : VK), Cf K cA z H M g → Loose cA z M g D → H D = some (.lst us) → Paired (RW K cA g M.length) acc us → acc.length ≤ sizeLine →
  Res K cA z g M.length E (fin acc M) (fun w M' g' H' => ∀ v, RW K cA g' M'.length w v → Q v H') → Q (.ref D) H
theorem finF_ok {K : PySem.W.Frag} {cA : CA} : FinOk K cA finF := by
  intro z H M g D acc us E Q c lo e r hz q
  cases e2 : nds M acc with
  | none => simp [finF, e2, Res] at q
  | some l =>
    simp only [finF, e2] at q
    have rl := nds_rep c r e2
    obtain ⟨c', l'⟩ := c.adopt lo e
    exact q H _ c' l' _ ⟨D, us, rfl, upd_same, by rw [← r.length]; exact hz, rl.mono l'.F⟩
theorem finM_ok {K : PySem.W.Frag} {cA : CA} : FinOk K cA finM := by
  intro z H M g D acc us E Q c lo e r hz q
  have lad : ∀ k, k < M.length → (g.add M.length D).ad k = g.ad k := fun k hk => if_neg (Nat.ne_of_lt hk)
  obtain ⟨c', l'⟩ := c.adoptM (mo := .lst acc) lo ⟨us, e, lo.F, hz, RWs.mono (show Le g M.length (g.add M.length D) (M.length + 1) from ⟨Same.refl g.F, lad, Nat.le_succ _⟩) r⟩
  refine q H _ c' l' _ ⟨by rw [List.length_append]; exact Nat.lt_succ_self _, ?_⟩
  show V.ref D = .ref ((g.add M.length D).ad M.length)
  rw [show (g.add M.length D).ad M.length = D from if_pos rfl]
section
variable {X : Cx} {cA : CA} {Wx : WX} {a b c e tg iter elt : Expr} {fin : List Wv → Sto → Rs Wv} {ma mb me : ED} {mr : AD} {mt mt1 : TD} {mi mi1 : ID} {mg mg1 : GD} {g g1 : TG} {vs vs1 : List Nat} {p pos apos : Pos}
theorem ted_lc (hf : FinOk X.K cA fin) (hg : GOk X.K cA g mg vs) {σ : St} {H : Hp} {Q : VK} (h : TED X.K cA Wx (eLc fin mi mg mt me vs) σ H Q) : tLc (TID X.K cA Wx mi) g (TTD X.K cA W0 mt) (TED X.K cA W0 me) vs σ H Q := by
  obtain ⟨z, env, M, gh, c, sl, q⟩ := h
  refine ⟨z, env, M, gh, c, sl, Res.imp (fun s M1 g1 H1 c1 l1 q1 J hJ D hD => ?_) q.of_bind⟩
  cases es : s.at M1 with
  | none => simp [es, Res] at q1
  | some ws0 =>
    simp only [es] at q1
    have sl0 := (sl.mono l1).wipe vs
    refine ⟨fun i m H => ∃ M g acc us, Cf X.K cA z H M g ∧ Le g1 M1.length g M.length ∧ Loose cA z M g D ∧ H D = some (.lst us) ∧ Paired (RW X.K cA g M.length) acc us ∧ acc.length ≤ sizeLine ∧
        Res X.K cA z g M.length (EX X.K cA Wx σ) (compS s mg mt me m i acc.length (wipeE env vs) M) (fun ys M2 g2 H2 => Res X.K cA z g2 M2.length (EX X.K cA Wx σ) (fin (acc ++ ys) M2) fun w M' g' H' => ∀ v, RW X.K cA g' M'.length w v → Q v H'),
      ⟨ws0.length, M1, g1, [], [], c1.scrib (c1.fresh hD) (plain_no hD), Le.refl, c1.fresh hD, upd_same, .nil, Nat.zero_le _, q1.of_bind⟩, fun i m H ⟨M, g, acc, us, c, l, lo, eD, rv, hz, q⟩ => ?_⟩
    have stop : ∀ (q : Res X.K cA z g M.length (EX X.K cA Wx σ) (.ok [] M : Rs (List Wv)) (fun ys M2 g2 H2 => Res X.K cA z g2 M2.length (EX X.K cA Wx σ) (fin (acc ++ ys) M2) fun w M' g' H' => ∀ v, RW X.K cA g' M'.length w v → Q v H')), Q (.ref D) H := fun q => by
      have q2 := q H g c Le.refl
      simp only [List.append_nil] at q2
      exact hf z H M g D acc us _ Q c lo eD rv hz q2
    cases m with
    | zero =>
      unfold compS at q
      cases es : s.at M with
      | none => simp [es, Res] at q
      | some ws =>
        simp only [es] at q
        by_cases hi : ws.length ≤ i
        · rw [if_pos hi] at q
          exact .inl ⟨(hJ z i H M g ws c l es).2 hi, stop q⟩
        · rw [if_neg hi] at q
          exact q.elim
    | succ m =>
      unfold compS at q
      cases es : s.at M with
      | none => simp [es, Res] at q
      | some ws =>
        simp only [es] at q
        cases ew : ws[i]? with
        | none =>
          simp only [ew] at q
          exact .inl ⟨(hJ z i H M g ws c l es).2 (List.getElem?_eq_none_iff.mp ew), stop q⟩
        | some w =>
          simp only [ew] at q
          obtain ⟨hgo, hy⟩ := (hJ (ent H M g) i H M g ws c.enter l es).1 w ew
          refine .inr ⟨hgo, _, fun H' h => ⟨m, Nat.lt_succ_self _, h⟩, fun x H3 hx => ?_⟩
          obtain ⟨g3, c3, l3, r3⟩ := hy x H3 hx
          obtain ⟨eD3, lo3⟩ := lo.step eD c3
          have c3' := c.leave c3
          have q3 := (q.later l3).of_bind.ent c3'
          refine hg (ent H3 M g3) (wipeE env vs) M g3 w x (L2.wipe σ vs) H3 _ c3'.enter ((sl0.mono l).mono l3) r3 (Res.imp (fun e4 M4 g4 H4 c4 l4 q4 σ4 sl4 hw => ?_) q3.nx')
          refine ⟨hw.trans (wipe_wipe σ vs), ent H3 M g3, e4, M4, g4, c4, sl4, Res.imp (fun k M5 g5 H5 c5 l5 q5 => ?_) ((q4.of_bind.nx' (E' := EX X.K cA W0 σ4)).ent c3')⟩
          have c5' := c3'.leave c5
          cases k with
          | false =>
            refine iteF ?_
            obtain ⟨eD5, lo5⟩ := lo3.step eD3 c5
            exact ⟨M5, g5, acc, us, c5', ((l.trans l3).trans l4).trans l5, lo5, eD5, RWs.mono ((l3.trans l4).trans l5) rv, hz, q5⟩
          | true =>
            refine iteT ⟨ent H3 M g3, e4, M5, g5, c5, sl4.mono l5, ?_⟩
            have q5' := (Res.of_bind q5).nx' (E' := EX X.K cA W0 σ4)
            refine Res.imp (fun y M6 g6 H6 c6 l6 q7 v rv6 => ?_) (q5'.ent c3')
            obtain ⟨eD6, lo6⟩ := lo3.step eD3 c6
            have c6' := c3'.leave c6
            have le6 : Le g M.length g6 M6.length := ((l3.trans l4).trans l5).trans l6
            by_cases hn : acc.length < sizeLine
            · rw [if_pos hn] at q7
              refine ⟨us, eD6, by rw [← rv.length]; exact hn, M6, g6, acc ++ [y], us ++ [v], c6'.scrib lo6 (plain_of eD6 trivial), l.trans le6, lo6, upd_same, Paired.append' (RWs.mono le6 rv) (.cons rv6 .nil), by rw [List.length_append]; exact hn, ?_⟩
              have q8 := Res.of_bind q7
              rw [show (acc ++ [y]).length = acc.length + 1 by rw [List.length_append]; rfl]
              refine Res.imp (fun ys M7 g7 H7 c7 l7 q9 => ?_) q8
              have q10 := q9 H7 g7 c7 Le.refl
              rw [List.append_assoc]
              exact q10
            · rw [if_neg hn] at q7
              exact q7.elim
def tYesD : TD := fun _ M => .ok true M
theorem ts_nil : PTs X [] (TTD X.K cA W0 tYesD) := ⟨fun pins s σ H Q I h => pts_nil.run pins s σ H Q I (by
  obtain ⟨z, env, M, g, c, sl, q⟩ := h
  exact q H g c Le.refl)⟩
theorem ts_one {c : Expr} {t : TD} (h : PT X c (TTD X.K cA W0 t)) : PTs X [c] (TTD X.K cA W0 t) := pts_one h
end
end DL

/-! Layer D: comprehensions of two clauses; the rules. -/
namespace DL
open PySem PySem.Spec PyProof.Rows L2

def compS2 (s : Src) (tg : GD) (tt : TD) (src1 : ID) (tg1 : GD) (tt1 : TD) (te : ED) (vs1 : List Nat) : Nat → Nat → Nat → Ev → Sto → Rs (List Wv)
  | 0, i, _, _, M => match s.at M with
    | some ws => if ws.length ≤ i then .ok [] M else .no
    | none => .no
  | f + 1, i, cnt, env, M => match s.at M with
    | none => .no
    | some ws => match ws[i]? with
      | none => .ok [] M
      | some w => (nx (tg w env M)).bind fun e M1 => (nx (tt e M1)).bind fun k M2 =>
        if k = true then (nx (src1 e M2)).bind fun s1 M3 => match s1.at M3 with
          | none => .no
          | some ws1 => (compS s1 tg1 tt1 te ws1.length 0 cnt (wipeE e vs1) M3).bind fun ys M4 => (compS2 s tg tt src1 tg1 tt1 te vs1 f (i + 1) (cnt + ys.length) env M4).bind fun zs M5 => .ok (ys ++ zs) M5
        else compS2 s tg tt src1 tg1 tt1 te vs1 f (i + 1) cnt env M2
def eLc2 (fin : List Wv → Sto → Rs Wv) (src : ID) (tg : GD) (tt : TD) (src1 : ID) (tg1 : GD) (tt1 : TD) (te : ED) (vs vs1 : List Nat) : ED := fun env M => (src env M).bind fun s M1 => match s.at M1 with
  | some ws => (compS2 s tg tt src1 tg1 tt1 te vs1 ws.length 0 0 (wipeE env vs) M1).bind fun ys M2 => fin ys M2
  | none => .no
section
variable {X : Cx} {cA : CA} {Wx : WX} {a b c e tg iter elt tg1 iter1 : Expr} {fin : List Wv → Sto → Rs Wv} {ma mb me : ED} {mr : AD} {mt mt1 : TD} {mi mi1 : ID} {mg mg1 : GD} {g gg1 : TG} {vs vs1 : List Nat} {p pos apos : Pos}
theorem ted_lc2 (hf : FinOk X.K cA fin) (hg : GOk X.K cA g mg vs) (hg1 : GOk X.K cA gg1 mg1 vs1) {σ : St} {H : Hp} {Q : VK} (h : TED X.K cA Wx (eLc2 fin mi mg mt mi1 mg1 mt1 me vs vs1) σ H Q) :
    tLc2 (TID X.K cA Wx mi) g (TTD X.K cA W0 mt) (TID X.K cA W0 mi1) gg1 (TTD X.K cA W0 mt1) (TED X.K cA W0 me) vs vs1 σ H Q := by
  obtain ⟨z, env, M, gh, c, sl, q⟩ := h
  refine ⟨z, env, M, gh, c, sl, Res.imp (fun s M1 g1 H1 c1 l1 q1 J hJ D hD => ?_) q.of_bind⟩
  cases es : s.at M1 with
  | none => simp [es, Res] at q1
  | some ws0 =>
    simp only [es] at q1
    have sl0 := (sl.mono l1).wipe vs
    refine ⟨fun i m H => ∃ M g acc us, Cf X.K cA z H M g ∧ Le g1 M1.length g M.length ∧ Loose cA z M g D ∧ H D = some (.lst us) ∧ Paired (RW X.K cA g M.length) acc us ∧ acc.length ≤ sizeLine ∧
        Res X.K cA z g M.length (EX X.K cA Wx σ) (compS2 s mg mt mi1 mg1 mt1 me vs1 m i acc.length (wipeE env vs) M) (fun ys M2 g2 H2 => Res X.K cA z g2 M2.length (EX X.K cA Wx σ) (fin (acc ++ ys) M2) fun w M' g' H' => ∀ v, RW X.K cA g' M'.length w v → Q v H'),
      ⟨ws0.length, M1, g1, [], [], c1.scrib (c1.fresh hD) (plain_no hD), Le.refl, c1.fresh hD, upd_same, .nil, Nat.zero_le _, q1.of_bind⟩, fun i m H ⟨M, g, acc, us, c, l, lo, eD, rv, hz, q⟩ => ?_⟩
    have stop : ∀ (q : Res X.K cA z g M.length (EX X.K cA Wx σ) (.ok [] M : Rs (List Wv)) (fun ys M2 g2 H2 => Res X.K cA z g2 M2.length (EX X.K cA Wx σ) (fin (acc ++ ys) M2) fun w M' g' H' => ∀ v, RW X.K cA g' M'.length w v → Q v H')), Q (.ref D) H := fun q => by
      have q2 := q H g c Le.refl
      simp only [List.append_nil] at q2
      exact hf z H M g D acc us _ Q c lo eD rv hz q2
    cases m with
    | zero =>
      unfold compS2 at q
      cases es : s.at M with
      | none => simp [es, Res] at q
      | some ws =>
        simp only [es] at q
        by_cases hi : ws.length ≤ i
        · rw [if_pos hi] at q
          exact .inl ⟨(hJ z i H M g ws c l es).2 hi, stop q⟩
        · rw [if_neg hi] at q
          exact q.elim
    | succ m =>
      unfold compS2 at q
      cases es : s.at M with
      | none => simp [es, Res] at q
      | some ws =>
        simp only [es] at q
        cases ew : ws[i]? with
        | none =>
          simp only [ew] at q
          exact .inl ⟨(hJ z i H M g ws c l es).2 (List.getElem?_eq_none_iff.mp ew), stop q⟩
        | some w =>
          simp only [ew] at q
          obtain ⟨hgo, hy⟩ := (hJ (ent H M g) i H M g ws c.enter l es).1 w ew
          refine .inr ⟨hgo, _, fun H' h => ⟨m, Nat.lt_succ_self _, h⟩, fun x H3 hx => ?_⟩
          obtain ⟨g3, c3, l3, r3⟩ := hy x H3 hx
          obtain ⟨eD3, lo3⟩ := lo.step eD c3
          have c3' := c.leave c3
          have q3 := (q.later l3).of_bind.ent c3'
          refine hg (ent H3 M g3) (wipeE env vs) M g3 w x (L2.wipe σ vs) H3 _ c3'.enter ((sl0.mono l).mono l3) r3 (Res.imp (fun e4 M4 g4 H4 c4 l4 q4 σ4 sl4 hw => ?_) q3.nx')
          refine ⟨hw.trans (wipe_wipe σ vs), ent H3 M g3, e4, M4, g4, c4, sl4, Res.imp (fun k M5 g5 H5 c5 l5 q5 => ?_) ((q4.of_bind.nx' (E' := EX X.K cA W0 σ4)).ent c3')⟩
          have c5' := c3'.leave c5
          cases k with
          | false =>
            refine iteF ?_
            obtain ⟨eD5, lo5⟩ := lo3.step eD3 c5
            exact ⟨M5, g5, acc, us, c5', ((l.trans l3).trans l4).trans l5, lo5, eD5, RWs.mono ((l3.trans l4).trans l5) rv, hz, q5⟩
          | true =>
            refine iteT ⟨ent H3 M g3, e4, M5, g5, c5, sl4.mono l5, ?_⟩
            have q5' := (Res.of_bind q5).nx' (E' := EX X.K cA W0 σ4)
            refine Res.imp (fun s1 M6 g6 H6 c6 l6 q6 J1 hJ1 => ?_) (q5'.ent c3')
            obtain ⟨eD6, lo6⟩ := lo3.step eD3 c6
            have c6' := c3'.leave c6
            have le6 : Le g M.length g6 M6.length := ((l3.trans l4).trans l5).trans l6
            have sl6 := ((sl4.mono l5).mono l6).wipe vs1
            cases es1 : s1.at M6 with
            | none => simp [es1, Res] at q6
            | some ws1 =>
              simp only [es1] at q6
              refine ⟨fun j k H => ∃ M g acc us, Cf X.K cA z H M g ∧ Le g6 M6.length g M.length ∧ Loose cA z M g D ∧ H D = some (.lst us) ∧ Paired (RW X.K cA g M.length) acc us ∧ acc.length ≤ sizeLine ∧
                  Res X.K cA z g M.length (EX X.K cA Wx σ) (compS s1 mg1 mt1 me k j acc.length (wipeE e4 vs1) M) (fun ys M2 g2 H2 => Res X.K cA z g2 M2.length (EX X.K cA Wx σ) (compS2 s mg mt mi1 mg1 mt1 me vs1 m (i + 1) (acc ++ ys).length (wipeE env vs) M2)
                    fun zs M3 g3 H3 => Res X.K cA z g3 M3.length (EX X.K cA Wx σ) (fin ((acc ++ ys) ++ zs) M3) fun w M' g' H' => ∀ v, RW X.K cA g' M'.length w v → Q v H'),
                ⟨ws1.length, M6, g6, acc, us, c6', Le.refl, lo6, eD6, RWs.mono le6 rv, hz, Res.imp (fun ys M7 g7 H7 c7 l7 q7 => ?_) (Res.of_bind q6)⟩, fun j k H ⟨M, g, acc, us, c, l', lo, eD, rv, hz, q⟩ => ?_⟩
              · rw [List.length_append]
                refine Res.imp (fun zs M8 g8 H8 c8 l8 q8 => ?_) (Res.of_bind q7)
                have q9 := q8 H8 g8 c8 Le.refl
                rw [List.append_assoc]
                exact q9
              · have leA : Le g1 M1.length g M.length := (((((l.trans l3).trans l4).trans l5).trans l6)).trans l'
                have stop1 : ∀ (q : Res X.K cA z g M.length (EX X.K cA Wx σ) (.ok [] M : Rs (List Wv)) (fun ys M2 g2 H2 => Res X.K cA z g2 M2.length (EX X.K cA Wx σ) (compS2 s mg mt mi1 mg1 mt1 me vs1 m (i + 1) (acc ++ ys).length (wipeE env vs) M2)
                    fun zs M3 g3 H3 => Res X.K cA z g3 M3.length (EX X.K cA Wx σ) (fin ((acc ++ ys) ++ zs) M3) fun w M' g' H' => ∀ v, RW X.K cA g' M'.length w v → Q v H')), ∃ M g acc us, Cf X.K cA z H M g ∧ Le g1 M1.length g M.length ∧ Loose cA z M g D ∧ H D = some (.lst us) ∧ Paired (RW X.K cA g M.length) acc us ∧ acc.length ≤ sizeLine ∧ Res X.K cA z g M.length (EX X.K cA Wx σ) (compS2 s mg mt mi1 mg1 mt1 me vs1 m (i + 1) acc.length (wipeE env vs) M) (fun ys M2 g2 H2 => Res X.K cA z g2 M2.length (EX X.K cA Wx σ) (fin (acc ++ ys) M2) fun w M' g' H' => ∀ v, RW X.K cA g' M'.length w v → Q v H') := fun q => by
                  have q2 := q H g c Le.refl
                  simp only [List.append_nil] at q2
                  exact ⟨M, g, acc, us, c, leA, lo, eD, rv, hz, q2⟩
                cases k with
                | zero =>
                  unfold compS at q
                  cases es : s1.at M with
                  | none => simp [es, Res] at q
                  | some ws =>
                    simp only [es] at q
                    by_cases hi : ws.length ≤ j
                    · rw [if_pos hi] at q
                      exact .inl ⟨(hJ1 z j H M g ws c l' es).2 hi, stop1 q⟩
                    · rw [if_neg hi] at q
                      exact q.elim
                | succ k =>
                  unfold compS at q
                  cases es : s1.at M with
                  | none => simp [es, Res] at q
                  | some ws =>
                    simp only [es] at q
                    cases ew : ws[j]? with
                    | none =>
                      simp only [ew] at q
                      exact .inl ⟨(hJ1 z j H M g ws c l' es).2 (List.getElem?_eq_none_iff.mp ew), stop1 q⟩
                    | some w =>
                      simp only [ew] at q
                      obtain ⟨hgo, hy⟩ := (hJ1 (ent H M g) j H M g ws c.enter l' es).1 w ew
                      refine .inr ⟨hgo, _, fun H' h => ⟨k, Nat.lt_succ_self _, h⟩, fun x H3 hx => ?_⟩
                      obtain ⟨g3, c3, l3, r3⟩ := hy x H3 hx
                      obtain ⟨eD3, lo3⟩ := lo.step eD c3
                      have c3' := c.leave c3
                      have q3 := (q.later l3).of_bind.ent c3'
                      refine hg1 (ent H3 M g3) (wipeE e4 vs1) M g3 w x (L2.wipe σ4 vs1) H3 _ c3'.enter ((sl6.mono l').mono l3) r3 (Res.imp (fun e5 M4 g4 H4 c4 l4 q4 σ5 sl5 hw1 => ?_) q3.nx')
                      refine ⟨hw1.trans (wipe_wipe σ4 vs1), ent H3 M g3, e5, M4, g4, c4, sl5, Res.imp (fun kk M5 g5 H5 c5 l5 q5 => ?_) ((q4.of_bind.nx' (E' := EX X.K cA W0 σ5)).ent c3')⟩
                      have c5' := c3'.leave c5
                      cases kk with
                      | false =>
                        refine iteF ?_
                        obtain ⟨eD5, lo5⟩ := lo3.step eD3 c5
                        exact ⟨M5, g5, acc, us, c5', ((l'.trans l3).trans l4).trans l5, lo5, eD5, RWs.mono ((l3.trans l4).trans l5) rv, hz, q5⟩
                      | true =>
                        refine iteT ⟨ent H3 M g3, e5, M5, g5, c5, sl5.mono l5, ?_⟩
                        have q5' := (Res.of_bind q5).nx' (E' := EX X.K cA W0 σ5)
                        refine Res.imp (fun y M6 g6 H6 c6 l6 q7 v rv6 => ?_) (q5'.ent c3')
                        obtain ⟨eD6, lo6⟩ := lo3.step eD3 c6
                        have c6' := c3'.leave c6
                        have le6 : Le g M.length g6 M6.length := ((l3.trans l4).trans l5).trans l6
                        by_cases hn : acc.length < sizeLine
                        · rw [if_pos hn] at q7
                          refine ⟨us, eD6, by rw [← rv.length]; exact hn, M6, g6, acc ++ [y], us ++ [v], c6'.scrib lo6 (plain_of eD6 trivial), l'.trans le6, lo6, upd_same, Paired.append' (RWs.mono le6 rv) (.cons rv6 .nil), by rw [List.length_append]; exact hn, ?_⟩
                          have q8 := Res.of_bind q7
                          rw [show (acc ++ [y]).length = acc.length + 1 by rw [List.length_append]; rfl]
                          refine Res.imp (fun ys M7 g7 H7 c7 l7 q9 => ?_) q8
                          have q10 := q9 H7 g7 c7 Le.refl
                          rw [show acc ++ [y] ++ ys = acc ++ (y :: ys) by rw [List.append_assoc]; rfl]
                          exact q10
                        · rw [if_neg hn] at q7
                          exact q7.elim
section
variable {scope : Scope} {own : List (Str × Nat)} {ifs ifs1 : List Expr} {i : Nat} {y : Str} {py spos : Pos}
abbrev BlkAll (X : Cx) (scope : Scope) (P : Cx → Prop) : Prop := ∀ (s : Shared) (H : Hp) (C : Addr) (cl : List (Str × Addr)) (fp : List Addr), P (X.blk s H scope (compEnvC scope cl C X.env) fp)
theorem d_lc (hc : X.calm = true) (hN : X.N.Nodup) (hi : PI X tg iter (TID X.K cA Wx mi)) (ok : BlkOk X.N X.env.scope scope own) (hf : FinOk X.K cA fin) (hgo : GOk X.K cA g mg (own.map (·.2)))
    (hg : BlkAll X scope fun Y => PG Y tg g) (ht : BlkAll X scope fun Y => PTs Y ifs (TTD X.K cA W0 mt)) (he : BlkAll X scope fun Y => PE Y elt (TED X.K cA W0 me)) (hs : ∀ x, foldedSetIterable iter X.env x = pure x := by intro _; rfl) :
    PE X (.ListComp elt [⟨tg, iter, ifs, 0⟩] scope pos) (TED X.K cA Wx (eLc fin mi mg mt me (own.map (·.2)))) := PE.imp (pe_lc hc hN hi ok hg ht he hs) fun σ H Q h => ted_lc hf hgo h
theorem s_setLc (hc : X.calm = true) (hN : X.N.Nodup) (hy : X.N[i]? = some y) (hyl : X.env.scope.names.lookup y = some .local) (hsw : swapsWith (.ListComp elt [⟨tg, iter, ifs, 0⟩] scope pos) (some (.Name y py)) spos.line X.env = pure true)
    (hi : PI X tg iter (TID X.K cA Wx mi)) (ok : BlkOk X.N X.env.scope scope own) (hf : FinOk X.K cA fin) (hgo : GOk X.K cA g mg (own.map (·.2)))
    (hg : BlkAll X scope fun Y => PG Y tg g) (ht : BlkAll X scope fun Y => PTs Y ifs (TTD X.K cA W0 mt)) (he : BlkAll X scope fun Y => PE Y elt (TED X.K cA W0 me)) (hs : ∀ x, foldedSetIterable iter X.env x = pure x := by intro _; rfl) :
    PS X (.Assign [.Name y py] (.ListComp elt [⟨tg, iter, ifs, 0⟩] scope pos) spos) (TSD X.K cA Wx (sAsg (tgN i) (eLc fin mi mg mt me (own.map (·.2))))) :=
  PS.imp (ps_setLc hc hN hy hyl hsw hi ok hg ht he hs) fun D σ H ⟨z, env, M, g, c, sl, q⟩ => ted_lc hf hgo ⟨z, env, M, g, c, sl, Res.imp (fun w M1 g1 H1 c1 l1 q1 v rv => q1 H1 g1 c1 Le.refl _ ((sl.mono l1).set rv i)) (sx_of q sl)⟩
theorem d_lc2 (hc : X.calm = true) (hN : X.N.Nodup) (hi : PI X tg iter (TID X.K cA Wx mi)) (ok : BlkOk X.N X.env.scope scope own) (hv : ∀ i ∈ vs1, i ∈ own.map (·.2)) (hf : FinOk X.K cA fin) (hgo : GOk X.K cA g mg (own.map (·.2))) (hgo1 : GOk X.K cA gg1 mg1 vs1)
    (hg : BlkAll X scope fun Y => PG Y tg g) (ht : BlkAll X scope fun Y => PTs Y ifs (TTD X.K cA W0 mt)) (hi1 : BlkAll X scope fun Y => PI Y tg1 iter1 (TID X.K cA W0 mi1)) (hg1 : BlkAll X scope fun Y => PG Y tg1 gg1) (ht1 : BlkAll X scope fun Y => PTs Y ifs1 (TTD X.K cA W0 mt1))
    (he : BlkAll X scope fun Y => PE Y elt (TED X.K cA W0 me)) (hs : ∀ x, foldedSetIterable iter X.env x = pure x := by intro _; rfl) (hs1 : ∀ env x, foldedSetIterable iter1 env x = pure x := by intro _ _; rfl) :
    PE X (.ListComp elt [⟨tg, iter, ifs, 0⟩, ⟨tg1, iter1, ifs1, 0⟩] scope pos) (TED X.K cA Wx (eLc2 fin mi mg mt mi1 mg1 mt1 me (own.map (·.2)) vs1)) := PE.imp (pe_lc2 hc hN hi ok hv hg ht hi1 hg1 ht1 he hs hs1) fun σ H Q h => ted_lc2 hf hgo hgo1 h
theorem s_setLc2 (hc : X.calm = true) (hN : X.N.Nodup) (hy : X.N[i]? = some y) (hyl : X.env.scope.names.lookup y = some .local) (hsw : swapsWith (.ListComp elt [⟨tg, iter, ifs, 0⟩, ⟨tg1, iter1, ifs1, 0⟩] scope pos) (some (.Name y py)) spos.line X.env = pure true)
    (hi : PI X tg iter (TID X.K cA Wx mi)) (ok : BlkOk X.N X.env.scope scope own) (hv : ∀ i ∈ vs1, i ∈ own.map (·.2)) (hf : FinOk X.K cA fin) (hgo : GOk X.K cA g mg (own.map (·.2))) (hgo1 : GOk X.K cA gg1 mg1 vs1)
    (hg : BlkAll X scope fun Y => PG Y tg g) (ht : BlkAll X scope fun Y => PTs Y ifs (TTD X.K cA W0 mt)) (hi1 : BlkAll X scope fun Y => PI Y tg1 iter1 (TID X.K cA W0 mi1)) (hg1 : BlkAll X scope fun Y => PG Y tg1 gg1) (ht1 : BlkAll X scope fun Y => PTs Y ifs1 (TTD X.K cA W0 mt1))
    (he : BlkAll X scope fun Y => PE Y elt (TED X.K cA W0 me)) (hs : ∀ x, foldedSetIterable iter X.env x = pure x := by intro _; rfl) (hs1 : ∀ env x, foldedSetIterable iter1 env x = pure x := by intro _ _; rfl) :
    PS X (.Assign [.Name y py] (.ListComp elt [⟨tg, iter, ifs, 0⟩, ⟨tg1, iter1, ifs1, 0⟩] scope pos) spos) (TSD X.K cA Wx (sAsg (tgN i) (eLc2 fin mi mg mt mi1 mg1 mt1 me (own.map (·.2)) vs1))) :=
  PS.imp (ps_setLc2 hc hN hy hyl hsw hi ok hv hg ht hi1 hg1 ht1 he hs hs1) fun D σ H ⟨z, env, M, g, c, sl, q⟩ => ted_lc2 hf hgo hgo1 ⟨z, env, M, g, c, sl, Res.imp (fun w M1 g1 H1 c1 l1 q1 v rv => q1 H1 g1 c1 Le.refl _ ((sl.mono l1).set rv i)) (sx_of q sl)⟩
end
end
end DL

/-! Layer D: defs and their calls. -/
namespace DL
open PySem PySem.Spec PyProof.Rows L2

def Wv.below (n : Nat) : Wv → Bool
  | .d _ => true
  | .m k => decide (k < n)
def MO.below (n : Nat) : MO → Bool
  | .lst ws => ws.all (Wv.below n)
  | .tup ws => ws.all (Wv.below n)
  | .ins _ _ ws => ws.all (Wv.below n)
  | .dic _ ws => ws.all (Wv.below n)
  | .fz _ => true
section
variable {K : PySem.W.Frag} {cA : CA} {z : Z0} {g g' : Gh} {n r : Nat} {H H' : Hp} {M M' : Sto}
theorem RW.cut {w : Wv} {v : V} (h : RW K cA g n w v) (b : w.below r = true) : RW K cA g r w v := by
  cases w with
  | d x => exact h
  | m k => exact ⟨of_decide_eq_true b, h.2⟩
theorem RWs.cut : ∀ {ws : List Wv} {vs : List V}, Paired (RW K cA g n) ws vs → ws.all (Wv.below r) = true → Paired (RW K cA g r) ws vs
  | _, _, .nil, _ => .nil
  | _, _, .cons h t, b => by
    rw [List.all_cons, Bool.and_eq_true] at b
    exact .cons (h.cut b.1) (RWs.cut t b.2)
theorem RM.cut {a : Addr} : ∀ {mo : MO}, RM K cA g n H a mo → mo.below r = true → RM K cA g r H a mo
  | .lst _, ⟨vs, e, f, s, p⟩, b => ⟨vs, e, f, s, RWs.cut p b⟩
  | .tup _, ⟨vs, e, f, s, p⟩, b => ⟨vs, e, f, s, RWs.cut p b⟩
  | .ins _ _ _, ⟨dx, vs, e, f, s, p⟩, b => ⟨dx, vs, e, f, s, RWs.cut p b⟩
  | .dic _ _, ⟨vs, e, f, s, p⟩, b => ⟨vs, e, f, s, RWs.cut p b⟩
  | .fz _, h, _ => h
theorem take_get {k : Nat} {mo : MO} (e : (M.take r)[k]? = some mo) : k < r ∧ M[k]? = some mo := by
  have hk : k < (M.take r).length := (List.getElem?_eq_some_iff.mp e).1
  rw [List.length_take] at hk
  rw [List.getElem?_take] at e
  have : k < r := by omega
  rw [if_pos this] at e
  exact ⟨this, e⟩
theorem Cf.cut (c : Cf K cA z H M g) (h0 : z.n0 ≤ r) (h1 : r ≤ M.length) (hb : (M.take r).all (MO.below r) = true) : Cf K cA z H (M.take r) g := by
  have hl : (M.take r).length = r := by rw [List.length_take]; omega
  refine ⟨c.sub, fun k mo e => ?_, fun j k hj hk e => ?_, c.f0, c.fr, c.fs, c.ad, fun k h2 h3 => ?_, by rw [hl]; exact h0, c.tb, c.ft⟩
  · obtain ⟨h2, h3⟩ := take_get e
    rw [hl]
    exact (c.sto k mo h3).cut (List.all_eq_true.mp hb mo (List.mem_of_getElem? e))
  · rw [hl] at hj hk
    exact c.inj j k (by omega) (by omega) e
  · rw [hl] at h3
    exact c.nw k h2 (by omega)
theorem take_all_below (M : Sto) (h : M.all (MO.below M.length) = true) : (M.take M.length).all (MO.below M.length) = true := by
  rw [List.take_length]
  exact h
/-- the store's objects are no tables -/
theorem Cf.adt (c : Cf K cA z H M g) {k : Nat} (hk : k < M.length) : ∀ p ∈ cA.T, g.ad k ≠ p.1 := fun p hp e => by
  have rm := c.sto k M[k] (List.getElem?_eq_getElem hk)
  have hf : g.F (g.ad k) = none := by rw [e]; exact c.ft p hp
  obtain ⟨o, h1, h2⟩ := RM.plain hf rm
  exact tabs_ne c.tb h1 h2 p hp e
/-- one object of the store frozen -/
theorem Cf.freeze (c : Cf K cA z H M g) {k : Nat} {x : D} {ho : HO} (hk : k < M.length) (e : H (g.ad k) = some ho) (hf : g.F (g.ad k) = none) (r : Rep K cA (upd g.F (g.ad k) ho) x (.ref (g.ad k))) :
    Cf K cA z H (M.set k (.fz x)) { g with F := upd g.F (g.ad k) ho } ∧ Le g M.length { g with F := upd g.F (g.ad k) ho } M.length := by
  have hl : (M.set k (.fz x)).length = M.length := List.length_set
  have le : Le g M.length { g with F := upd g.F (g.ad k) ho } M.length := ⟨Same.upd' hf, fun _ _ => rfl, Nat.le_refl _⟩
  refine ⟨⟨fun b o q => ?_, fun j m q => ?_, fun i j hi hj => ?_, c.f0.trans (Same.upd' hf), c.fr, fun b h => ?_, c.ad, fun j h1 h2 => ?_, by rw [hl]; exact c.ln, c.tb, fun p hp => (upd_ne (H := g.F) (o := ho) (fun q => c.adt hk p hp q.symm)).trans (c.ft p hp)⟩, le⟩
  · have q' : upd g.F (g.ad k) ho b = some o := q
    by_cases hb : b = g.ad k
    · subst hb
      rw [upd_same] at q'
      rw [e, q']
    · rw [upd_ne hb] at q'
      exact c.sub _ _ q'
  · rw [hl]
    by_cases hj : k = j
    · subst hj
      rw [List.getElem?_set_self hk] at q
      cases q
      exact ⟨r, ho, upd_same⟩
    · rw [List.getElem?_set_ne hj] at q
      have hjl : j < M.length := (List.getElem?_eq_some_iff.mp q).1
      have nb : g.ad j ≠ g.ad k := fun e => hj (c.inj j k hjl hk e).symm
      exact (c.sto j m q).keep le rfl fun f => (upd_ne (H := g.F) (o := ho) nb).trans f
  · rw [hl] at hi hj
    exact c.inj i j hi hj
  · by_cases hb : b = g.ad k
    · subst hb
      by_cases h3 : k < z.n0
      · exact .inr (.inr ⟨k, h3, c.ad k h3⟩)
      · exact .inr (.inl (c.nw k (Nat.not_lt.mp h3) hk))
    · have h' : upd g.F (g.ad k) ho b ≠ none := h
      rw [upd_ne hb] at h'
      exact c.fs b h'
  · rw [hl] at h2
    exact c.nw j h1 h2
end
/-- a value with all that hangs on it, frozen -/
def fz1 (k : Nat) (M : Sto) : Option (D × Sto) := match M[k]? with
  | some (.fz x) => some (x, M)
  | some (.lst ws) => (nds M ws).map fun l => (.lst l, M.set k (.fz (.lst l)))
  | some (.tup ws) => (nds M ws).map fun l => (.tup l, M.set k (.fz (.tup l)))
  | some (.ins t ns ws) => (nds M ws).map fun l => (.obj t ns l, M.set k (.fz (.obj t ns l)))
  | some (.dic ks ws) => (nds M ws).map fun l => (.dic ks l, M.set k (.fz (.dic ks l)))
  | none => none
def sealL (f : Wv → Sto → Option (D × Sto)) : List Wv → Sto → Option Sto
  | [], M => some M
  | w :: ws, M => (f w M).bind fun p => sealL f ws p.2
def sealW : Nat → Wv → Sto → Option (D × Sto)
  | _, .d x, M => some (x, M)
  | 0, .m k, M => fz1 k M
  | f + 1, .m k, M => match M[k]? with
    | some (.lst ws) => (sealL (sealW f) ws M).bind fun M1 => fz1 k M1
    | some (.tup ws) => (sealL (sealW f) ws M).bind fun M1 => fz1 k M1
    | some (.ins _ _ ws) => (sealL (sealW f) ws M).bind fun M1 => fz1 k M1
    | some (.dic _ ws) => (sealL (sealW f) ws M).bind fun M1 => fz1 k M1
    | _ => fz1 k M
@[simp] theorem sealW_d (f : Nat) (x : D) (M : Sto) : sealW f (.d x) M = some (x, M) := by cases f <;> rfl
section
variable {K : PySem.W.Frag} {cA : CA} {z : Z0} {g g' : Gh} {n r : Nat} {H H' : Hp} {M M' : Sto}
def Sealed (K : PySem.W.Frag) (cA : CA) (z : Z0) (H : Hp) (M' : Sto) (g : Gh) (n : Nat) : Prop := ∃ g', Cf K cA z H M' g' ∧ Le g n g' M'.length ∧ M'.length = n
theorem fz1_ok (c : Cf K cA z H M g) {k : Nat} {x : D} (hk : k < M.length) (e : fz1 k M = some (x, M')) : ∃ g', Cf K cA z H M' g' ∧ Le g M.length g' M'.length ∧ M'.length = M.length ∧ Rep K cA g'.F x (.ref (g'.ad k)) := by
  unfold fz1 at e
  cases q : M[k]? with
  | none => simp [q] at e
  | some mo =>
    have rm := c.sto k mo q
    cases mo with
    | fz y =>
      simp only [q, Option.some.injEq, Prod.mk.injEq] at e
      obtain ⟨rfl, rfl⟩ := e
      exact ⟨g, c, Le.refl, rfl, rm.1⟩
    | lst ws =>
      simp only [q] at e
      cases e2 : nds M ws with
      | none => simp [e2] at e
      | some l =>
        simp only [e2, Option.map_some, Option.some.injEq, Prod.mk.injEq] at e
        obtain ⟨rfl, rfl⟩ := e
        obtain ⟨vs, h1, h2, h3, h4⟩ := rm
        have rl := nds_rep c h4 e2
        have rr : Rep K cA (upd g.F (g.ad k) (.lst vs)) (.lst l) (.ref (g.ad k)) := ⟨_, vs, rfl, upd_same, by rw [← h4.length]; exact h3, rl.mono (Same.upd' h2)⟩
        obtain ⟨c', l'⟩ := c.freeze hk h1 h2 rr
        exact ⟨_, c', by rw [List.length_set]; exact l', List.length_set, rr⟩
    | tup ws =>
      simp only [q] at e
      cases e2 : nds M ws with
      | none => simp [e2] at e
      | some l =>
        simp only [e2, Option.map_some, Option.some.injEq, Prod.mk.injEq] at e
        obtain ⟨rfl, rfl⟩ := e
        obtain ⟨vs, h1, h2, h3, h4⟩ := rm
        have rl := nds_rep c h4 e2
        have rr : Rep K cA (upd g.F (g.ad k) (.tup vs)) (.tup l) (.ref (g.ad k)) := ⟨_, vs, rfl, SqT.of upd_same, by rw [← h4.length]; exact h3, rl.mono (Same.upd' h2)⟩
        obtain ⟨c', l'⟩ := c.freeze hk h1 h2 rr
        exact ⟨_, c', by rw [List.length_set]; exact l', List.length_set, rr⟩
    | ins t ns ws =>
      simp only [q] at e
      cases e2 : nds M ws with
      | none => simp [e2] at e
      | some l =>
        simp only [e2, Option.map_some, Option.some.injEq, Prod.mk.injEq] at e
        obtain ⟨rfl, rfl⟩ := e
        obtain ⟨dx, vs, h1, h2, h3, h4⟩ := rm
        have rl := nds_rep c h4 e2
        have rr : Rep K cA (upd g.F (g.ad k) (.ins (cA t) dx (ns.zip vs))) (.obj t ns l) (.ref (g.ad k)) := ⟨_, dx, vs, rfl, upd_same, h3, rl.mono (Same.upd' h2)⟩
        obtain ⟨c', l'⟩ := c.freeze hk h1 h2 rr
        exact ⟨_, c', by rw [List.length_set]; exact l', List.length_set, rr⟩
    | dic ks ws =>
      simp only [q] at e
      cases e2 : nds M ws with
      | none => simp [e2] at e
      | some l =>
        simp only [e2, Option.map_some, Option.some.injEq, Prod.mk.injEq] at e
        obtain ⟨rfl, rfl⟩ := e
        obtain ⟨vs, h1, h2, h3, h4⟩ := rm
        have rl := nds_rep c h4 e2
        have rr : Rep K cA (upd g.F (g.ad k) (.dK (ks.zip vs))) (.dic ks l) (.ref (g.ad k)) := ⟨_, vs, rfl, upd_same, h3, rl.mono (Same.upd' h2)⟩
        obtain ⟨c', l'⟩ := c.freeze hk h1 h2 rr
        exact ⟨_, c', by rw [List.length_set]; exact l', List.length_set, rr⟩
def SealOk (K : PySem.W.Frag) (cA : CA) (f : Wv → Sto → Option (D × Sto)) : Prop := ∀ (z : Z0) (H : Hp) (M M' : Sto) (g : Gh) (w : Wv) (v : V) (x : D), Cf K cA z H M g → RW K cA g M.length w v → f w M = some (x, M') → ∃ g', Cf K cA z H M' g' ∧ Le g M.length g' M'.length ∧ M'.length = M.length ∧ Rep K cA g'.F x v
theorem sealL_ok {f : Wv → Sto → Option (D × Sto)} (hf : SealOk K cA f) {z : Z0} {H : Hp} : ∀ {ws : List Wv} {M M' : Sto} {g : Gh} {vs : List V}, Cf K cA z H M g → Paired (RW K cA g M.length) ws vs → sealL f ws M = some M' → ∃ g', Cf K cA z H M' g' ∧ Le g M.length g' M'.length ∧ M'.length = M.length
  | [], M, M', g, _, c, .nil, e => by
    cases (Option.some.inj e)
    exact ⟨g, c, Le.refl, rfl⟩
  | w :: ws, M, M', g, _, c, .cons r1 r2, e => by
    unfold sealL at e
    cases q : f w M with
    | none => simp [q] at e
    | some p =>
      obtain ⟨x, M1⟩ := p
      simp only [q, Option.bind_some] at e
      obtain ⟨g1, c1, l1, n1, _⟩ := hf z H M M1 g w _ x c r1 q
      obtain ⟨g2, c2, l2, n2⟩ := sealL_ok hf c1 (RWs.mono l1 r2) e
      exact ⟨g2, c2, l1.trans l2, n2.trans n1⟩
theorem sealW_ok : ∀ f : Nat, SealOk K cA (sealW f)
  | f, z, H, M, M', g, .d y, v, x, c, r, e => by
    rw [sealW_d] at e
    cases (Option.some.inj e)
    exact ⟨g, c, Le.refl, rfl, r⟩
  | 0, z, H, M, M', g, .m k, v, x, c, r, e => by
    obtain ⟨hk, rfl⟩ := r
    obtain ⟨g', c', l', n', rr⟩ := fz1_ok c hk e
    rw [l'.ad k hk] at rr
    exact ⟨g', c', l', n', rr⟩
  | f + 1, z, H, M, M', g, .m k, v, x, c, r, e => by
    obtain ⟨hk, rfl⟩ := r
    unfold sealW at e
    have go : ∀ (ws : List Wv) (vs : List V), Paired (RW K cA g M.length) ws vs → ((sealL (sealW f) ws M).bind fun M1 => fz1 k M1) = some (x, M') → ∃ g', Cf K cA z H M' g' ∧ Le g M.length g' M'.length ∧ M'.length = M.length ∧ Rep K cA g'.F x (.ref (g.ad k)) := fun ws vs rv e => by
      cases q : sealL (sealW f) ws M with
      | none => simp [q] at e
      | some M1 =>
        simp only [q, Option.bind_some] at e
        obtain ⟨g1, c1, l1, n1⟩ := sealL_ok (sealW_ok f) c rv q
        obtain ⟨g2, c2, l2, n2, rr⟩ := fz1_ok c1 (by rw [n1]; exact hk) e
        rw [(l1.trans l2).ad k hk] at rr
        exact ⟨g2, c2, l1.trans l2, n2.trans n1, rr⟩
    have go0 : fz1 k M = some (x, M') → ∃ g', Cf K cA z H M' g' ∧ Le g M.length g' M'.length ∧ M'.length = M.length ∧ Rep K cA g'.F x (.ref (g.ad k)) := fun e => by
      obtain ⟨g', c', l', n', rr⟩ := fz1_ok c hk e
      rw [l'.ad k hk] at rr
      exact ⟨g', c', l', n', rr⟩
    cases q : M[k]? with
    | none =>
      simp only [q] at e
      exact go0 e
    | some mo =>
      have rm := c.sto k mo q
      cases mo with
      | fz y =>
        simp only [q] at e
        exact go0 e
      | lst ws =>
        simp only [q] at e
        obtain ⟨vs, _, _, _, h4⟩ := rm
        exact go ws vs h4 e
      | tup ws =>
        simp only [q] at e
        obtain ⟨vs, _, _, _, h4⟩ := rm
        exact go ws vs h4 e
      | ins t ns ws =>
        simp only [q] at e
        obtain ⟨_, vs, _, _, _, h4⟩ := rm
        exact go ws vs h4 e
      | dic ks ws =>
        simp only [q] at e
        obtain ⟨vs, _, _, _, h4⟩ := rm
        exact go ws vs h4 e
end
/-- for the outside: below r it stays, else it is frozen -/
def prep (r : Nat) (w : Wv) (M : Sto) : Option (Wv × Sto) := if w.below r = true then some (w, M) else (sealW 6 w M).map fun p => (.d p.1, p.2)
def preps (r : Nat) : List Wv → Sto → Option (List Wv × Sto)
  | [], M => some ([], M)
  | w :: ws, M => (prep r w M).bind fun p => (preps r ws p.2).map fun q => (p.1 :: q.1, q.2)
section
variable {K : PySem.W.Frag} {cA : CA} {z : Z0} {g g' : Gh} {n r : Nat} {H H' : Hp} {M M' : Sto}
theorem prep_ok (c : Cf K cA z H M g) {w w' : Wv} {v : V} (r1 : RW K cA g M.length w v) (e : prep r w M = some (w', M')) : ∃ g', Cf K cA z H M' g' ∧ Le g M.length g' M'.length ∧ M'.length = M.length ∧ RW K cA g' r w' v ∧ w'.below r = true := by
  unfold prep at e
  by_cases hb : w.below r = true
  · rw [if_pos hb] at e
    cases (Option.some.inj e)
    exact ⟨g, c, Le.refl, rfl, r1.cut hb, hb⟩
  · rw [if_neg hb] at e
    cases q : sealW 6 w M with
    | none => simp [q] at e
    | some p =>
      obtain ⟨x, M1⟩ := p
      simp only [q, Option.map_some, Option.some.injEq, Prod.mk.injEq] at e
      obtain ⟨rfl, rfl⟩ := e
      obtain ⟨g', c', l', n', rr⟩ := sealW_ok 6 z H M M1 g w v x c r1 q
      exact ⟨g', c', l', n', rr, rfl⟩
theorem preps_ok : ∀ {ws ws' : List Wv} {vs : List V} {M M' : Sto} {g : Gh}, Cf K cA z H M g → Paired (RW K cA g M.length) ws vs → preps r ws M = some (ws', M') → ∃ g', Cf K cA z H M' g' ∧ Le g M.length g' M'.length ∧ M'.length = M.length ∧ (∀ r', r ≤ r' → Paired (RW K cA g' r') ws' vs) ∧ (r ≤ M.length → Paired (RW K cA g' r) ws' vs)
  | [], _, _, M, M', g, c, .nil, e => by
    cases (Option.some.inj e)
    exact ⟨g, c, Le.refl, rfl, fun _ _ => .nil, fun _ => .nil⟩
  | w :: ws, ws', _, M, M', g, c, .cons r1 r2, e => by
    unfold preps at e
    cases q : prep r w M with
    | none => simp [q] at e
    | some p =>
      obtain ⟨w1, M1⟩ := p
      simp only [q, Option.bind_some] at e
      cases q2 : preps r ws M1 with
      | none => simp [q2] at e
      | some p2 =>
        obtain ⟨ws1, M2⟩ := p2
        simp only [q2, Option.map_some, Option.some.injEq, Prod.mk.injEq] at e
        obtain ⟨rfl, rfl⟩ := e
        obtain ⟨g1, c1, l1, n1, k1, b1⟩ := prep_ok c r1 q
        obtain ⟨g2, c2, l2, n2, k2, k3⟩ := preps_ok c1 (RWs.mono l1 r2) q2
        have kk : ∀ r', r ≤ r' → r' ≤ M1.length → RW K cA g2 r' w1 _ := fun r' h h2 => by
          cases w1 with
          | d x => exact Rep.mono l2.F k1
          | m k => exact ⟨Nat.lt_of_lt_of_le k1.1 h, by rw [l2.ad k (Nat.lt_of_lt_of_le (Nat.lt_of_lt_of_le k1.1 h) h2)]; exact k1.2⟩
        have kk2 : ∀ r', r ≤ r' → RW K cA g2 r' w1 _ := fun r' h => by
          cases w1 with
          | d x => exact Rep.mono l2.F k1
          | m k =>
            have hk : k < M1.length := by
              unfold prep at q
              by_cases hb : w.below r = true
              · rw [if_pos hb] at q
                cases (Option.some.inj q)
                exact r1.1
              · rw [if_neg hb] at q
                cases q3 : sealW 6 w M with
                | none => simp [q3] at q
                | some p3 => simp [q3] at q
            exact ⟨Nat.lt_of_lt_of_le k1.1 h, by rw [l2.ad k hk]; exact k1.2⟩
        exact ⟨g2, c2, l1.trans l2, n2.trans n1, fun r' h => .cons (kk2 r' h) (k2 r' h), fun h => .cons (kk2 r (Nat.le_refl _)) (k3 (by rw [n1]; exact h))⟩
end

/-! ### what a def is worth -/
abbrev FD := List Wv → Sto → Rs Wv
def EXs (K : PySem.W.Frag) (cA : CA) (E : XK) : Exn → Sto → Gh → Hp → Prop := fun x _ g' H' => ∀ cls d, RX K cA g' x cls d → E cls d H'
def spD (K : PySem.W.Frag) (cA : CA) (m : Nat) (f : FD) : Sp := fun vs H Q E => vs.length = m ∧ ∃ z M g ws, Cf K cA z H M g ∧ Paired (RW K cA g M.length) ws vs ∧ Res K cA (ent H M g) g M.length (EXs K cA E) (f ws M) fun w M' g' H' => ∀ v, RW K cA g' M'.length w v → Q v H'
/-- a body as a function: n slots; what comes out is frozen, and the store cut -/
def outC (n : Nat) (w : Wv) (M : Sto) : Rs Wv := match prep n w M with
  | some (w', M') => if (M'.take n).all (MO.below n) = true then .ok w' (M'.take n) else .no
  | none => .no
def outX (n : Nat) (x : Exn) (M : Sto) : Rs Wv := if (M.take n).all (MO.below n) = true then .ex x (M.take n) else .no
def fnB (body : SD) (n : Nat) (out : Nat → Wv → Sto → Rs Wv) (outx : Nat → Exn → Sto → Rs Wv) : FD := fun ws M => match body (ws.map some ++ List.replicate (n - ws.length) none) M with
  | .ok (.nx _) M' => out M.length (.d .non) M'
  | .ok (.rt w) M' => out M.length w M'
  | .ok (.xc _ x) M' => outx M.length x M'
  | _ => .no
/-- the usual one -/
def fnD (body : SD) (n : Nat) : FD := fnB body n outC outX
/-- one that hands back new objects of the store -/
def fnM (body : SD) (n : Nat) : FD := fnB body n (fun _ w M => .ok w M) (fun _ x M => .ex x M)
def OutOk (K : PySem.W.Frag) (cA : CA) (out : Nat → Wv → Sto → Rs Wv) : Prop := ∀ (z : Z0) (H H0 : Hp) (M M0 : Sto) (g g0 : Gh) (w : Wv) (v : V) (E : Exn → Sto → Gh → Hp → Prop) (Q : V → Hp → Prop), Cf K cA (ent H0 M0 g0) H M g → Le g0 M0.length g M.length → RW K cA g M.length w v →
  Res K cA (ent H0 M0 g0) g0 M0.length E (out M0.length w M) (fun w M' g' H' => ∀ v, RW K cA g' M'.length w v → Q v H') → Q v H
def OutxOk (K : PySem.W.Frag) (cA : CA) (outx : Nat → Exn → Sto → Rs Wv) : Prop := ∀ (H H0 : Hp) (M M0 : Sto) (g g0 : Gh) (x : Exn) (cls : Value) (d : Option Addr) (E : XK) (P : Wv → Sto → Gh → Hp → Prop), Cf K cA (ent H0 M0 g0) H M g → Le g0 M0.length g M.length → RX K cA g x cls d →
  Res K cA (ent H0 M0 g0) g0 M0.length (EXs K cA E) (outx M0.length x M) P → E cls d H
section
variable {K : PySem.W.Frag} {cA : CA}
theorem outC_ok : OutOk K cA outC := by
  intro z H H0 M M0 g g0 w v E Q c l r q
  unfold outC at q
  cases e : prep M0.length w M with
  | none => simp [e, Res] at q
  | some p =>
    obtain ⟨w', M'⟩ := p
    simp only [e] at q
    by_cases hb : (M'.take M0.length).all (MO.below M0.length) = true
    · rw [if_pos hb] at q
      obtain ⟨g', c', l', n', rr, b⟩ := prep_ok c r e
      have h1 : M0.length ≤ M'.length := by rw [n']; exact l.ln
      have hl : (M'.take M0.length).length = M0.length := by rw [List.length_take]; omega
      have c2 := c'.cut (Nat.le_refl _) h1 hb
      refine q H g' c2 ⟨(l.trans l').F, fun k hk => (l.trans l').ad k hk, by rw [hl]; exact Nat.le_refl _⟩ v ?_
      rw [hl]
      exact rr
    · rw [if_neg hb] at q
      exact q.elim
theorem outM_ok : OutOk K cA (fun _ w M => .ok w M) := fun z H H0 M M0 g g0 w v E Q c l r q => q H g c l v r
theorem outX_ok : OutxOk K cA outX := by
  intro H H0 M M0 g g0 x cls d E P c l r q
  unfold outX at q
  by_cases hb : (M.take M0.length).all (MO.below M0.length) = true
  · rw [if_pos hb] at q
    have hl : (M.take M0.length).length = M0.length := by rw [List.length_take]; have := l.ln; omega
    exact q H g (c.cut (Nat.le_refl _) l.ln hb) ⟨l.F, l.ad, by rw [hl]; exact Nat.le_refl _⟩ cls d r
  · rw [if_neg hb] at q
    exact q.elim
theorem outXM_ok : OutxOk K cA (fun _ x M => .ex x M) := fun H H0 M M0 g g0 x cls d E P c l r q => q H g c l cls d r
end
section
variable {P : Program} {w : World} {K : PySem.W.Frag} {mg : Str → Option Value} {base : Heap} {cA : CA}
theorem start_slots {g : Gh} {n : Nat} {N : List Str} {ws : List Wv} {vs : List V} (r : Paired (RW K cA g n) ws vs) : Slots K cA g n (ws.map some ++ List.replicate (N.length - ws.length) none) (L2.start N vs) := by
  have hl : ws.length = vs.length := r.length
  refine ⟨by unfold L2.start; rw [List.length_append, List.length_append, List.length_map, List.length_map, List.length_replicate, List.length_replicate, hl], fun i u e => ?_⟩
  by_cases hi : i < ws.length
  · rw [List.getElem?_append_left (by rw [List.length_map]; exact hi), List.getElem?_map] at e
    cases q : ws[i]? with
    | none => rw [q] at e; cases e
    | some u' =>
      rw [q] at e
      cases e
      obtain ⟨v, h1, h2⟩ := Paired.get' r q
      refine ⟨v, ?_, h2⟩
      unfold L2.start
      rw [List.getElem?_append_left (by rw [List.length_map, ← hl]; exact hi), List.getElem?_map, h1]
      rfl
  · rw [List.getElem?_append_right (by rw [List.length_map]; omega), List.getElem?_replicate] at e
    split at e <;> cases e
/-- THE RULE for a def: its body's judgement, at every context of the body, gives its promise -/
theorem fnOk_of {x qual : Str} {st : Stmt} {f : Addr} {fd : FuncData} {N ps : List Str} {k : Nat} {out : Nat → Wv → Sto → Rs Wv} {outx : Nat → Exn → Sto → Rs Wv} {body : SD} (F : Fun K x qual st f fd) (S : FnScope N ps (defScope st)) (ho : OutOk K cA out) (hx : OutxOk K cA outx)
    (hbody : ∀ (cdv : Value) (A : Around) (outer : List Env) (s : Shared) (H : Hp) (E : XK), Room k (A.deeper (envOfC qual (defScope st) s.heap.objs.size f cdv)) →
      PSs (cxOf (L2.CX P w) P w K mg base N qual (defScope st) f cdv A outer s H E) (defBody st) (TSD K cA (fun cls d _ H' => E cls d H') body)) :
    FnOk P w K mg base (L2.CX P w) (k + 1) f fd ps (spD K cA ps.length (fnB body N.length out outx)) := by
  refine F.okX S (fun vs H Q E h => h.1) (fun cdv A outer s H vs Q E hr h => ⟨_, hbody cdv A outer s H E hr, ?_⟩)
  obtain ⟨hl, z, M, g, ws, c, r, q⟩ := h
  refine ⟨ent H M g, _, M, g, c.enter, start_slots (N := N) r, ?_⟩
  unfold fnB at q
  cases e : body (ws.map some ++ List.replicate (N.length - ws.length) none) M with
  | no => simp [e, Res] at q
  | ex x M' => simp [e, Res] at q
  | ok o M' =>
    simp only [e] at q
    cases o with
    | nx e1 => exact fun H' g' c' l' σ' sl' => ho z H' H M' M g' g (.d .non) .non _ Q c' l' rfl q
    | rt u => exact fun H' g' c' l' v rv => ho z H' H M' M g' g u v _ Q c' l' rv q
    | bk e1 => exact q.elim
    | ct e1 => exact q.elim
    | xc e1 x => exact fun H' g' c' l' σ' cls d sl' rx => hx H' H M' M g' g x cls d E _ c' l' rx q
end

/-! ### calls -/
/-- a call with all of the store; with its first r objects -/
def callA (m : Nat) (f : FD) : List Wv → Sto → Rs Wv := fun ws M => if ws.length = m then f ws M else .no
def callR (r m : Nat) (f : FD) : List Wv → Sto → Rs Wv := fun ws M => if ws.length = m then match preps r ws M with
  | none => .no
  | some (ws', M1) => if r ≤ M1.length ∧ (M1.take r).all (MO.below r) = true then match f ws' (M1.take r) with
      | .ok w M' => if w.below r = true ∧ M'.length = r ∧ M'.all (MO.below r) = true then .ok w (M' ++ M1.drop r) else .no
      | .ex x M' => if M'.length = r ∧ M'.all (MO.below r) = true then .ex x (M' ++ M1.drop r) else .no
      | .no => .no
    else .no
  else .no
section
variable {K : PySem.W.Frag} {cA : CA} {z : Z0} {g g' : Gh} {r : Nat} {H H' : Hp} {M M' : Sto}
/-- a call of the first r objects is over -/
theorem Cf.glue (c : Cf K cA z H M g) (hr : r ≤ M.length) (hb : (M.take r).all (MO.below r) = true) (hl : M'.length = r) (hb' : M'.all (MO.below r) = true) (d : Cf K cA (ent H (M.take r) g) H' M' g') :
    Cf K cA z H' (M' ++ M.drop r) { F := g'.F, ad := g.ad } ∧ Le g M.length { F := g'.F, ad := g.ad } (M' ++ M.drop r).length ∧ ∀ k, k < r → g'.ad k = g.ad k := by
  have htl : (M.take r).length = r := by rw [List.length_take]; omega
  have hal : (M' ++ M.drop r).length = M.length := by rw [List.length_append, List.length_drop, hl]; omega
  have adr : ∀ k, k < r → g'.ad k = g.ad k := fun k hk => d.ad k (by show k < (M.take r).length; rw [htl]; exact hk)
  have le : Le g M.length { F := g'.F, ad := g.ad } (M' ++ M.drop r).length := ⟨d.f0, fun _ _ => rfl, by rw [hal]; exact Nat.le_refl _⟩
  have keep : ∀ k, r ≤ k → k < M.length → ∀ ho, H (g.ad k) = some ho → H' (g.ad k) = some ho := fun k h1 h2 ho e => d.fr _ _ e (fun j hj q => by
    have hj' : j < r := by rw [← htl]; exact hj
    have := c.inj k j h2 (by omega) q
    omega) (c.adt h2)
  have nofz : ∀ k, r ≤ k → k < M.length → g.F (g.ad k) = none → g'.F (g.ad k) = none := fun k h1 h2 e => by
    cases q : g'.F (g.ad k) with
    | none => rfl
    | some o =>
      rcases d.fs _ (by rw [q]; exact fun z => by cases z) with h | h | ⟨j, hj, h⟩
      · exact absurd e h
      · obtain ⟨ho, e2⟩ := c.st h2
        rw [show (ent H (M.take r) g).H0 = H from rfl, e2] at h
        cases h
      · have hj' : j < r := by rw [← htl]; exact hj
        have := c.inj k j h2 (by omega) h
        omega
  refine ⟨⟨d.sub, fun k mo e => ?_, fun i j hi hj => ?_, c.f0.trans d.f0, fun a o e h h9 => ?_, fun a h => ?_, c.ad, fun k h1 h2 => ?_, by rw [hal]; exact c.ln, d.tb, d.ft⟩, le, adr⟩
  · by_cases hk : k < r
    · rw [List.getElem?_append_left (by rw [hl]; exact hk)] at e
      have rm := (d.sto k mo e).cut (List.all_eq_true.mp hb' mo (List.mem_of_getElem? e))
      rw [adr k hk] at rm
      have le2 : Le g' r { F := g'.F, ad := g.ad } (M' ++ M.drop r).length := ⟨Same.refl _, fun j hj => (adr j hj).symm, by rw [hal]; exact hr⟩
      exact rm.keep le2 rfl fun f => f
    · rw [List.getElem?_append_right (by rw [hl]; omega), List.getElem?_drop, hl, show r + (k - r) = k by omega] at e
      have hkl : k < M.length := (List.getElem?_eq_some_iff.mp e).1
      obtain ⟨ho, e2⟩ := c.st hkl
      exact (c.sto k mo e).keep le ((keep k (by omega) hkl ho e2).trans e2.symm) fun f => nofz k (by omega) hkl f
  · rw [hal] at hi hj
    exact c.inj i j hi hj
  · refine d.fr a o (c.fr a o e h h9) (fun k hk q => ?_) h9
    have hk' : k < r := by rw [← htl]; exact hk
    rcases c.ad0 (show k < M.length by omega) with ⟨j, hj, e2⟩ | e2
    · exact h j hj (q.trans e2)
    · rw [← show a = g.ad k from q, e] at e2
      cases e2
  · rcases d.fs a h with q | q | ⟨k, hk, q⟩
    · exact c.fs a q
    · exact .inr (.inl (c.free0 q).1)
    · have hk' : k < r := by rw [← htl]; exact hk
      rcases c.ad0 (show k < M.length by omega) with ⟨j, hj, e2⟩ | e2
      · exact .inr (.inr ⟨j, hj, q.trans e2⟩)
      · exact .inr (.inl (by rw [q]; exact e2))
  · rw [hal] at h2
    exact c.nw k h1 h2
/-- what a call asks: the callee's promise -/
theorem callA_sp {f : FD} {ws : List Wv} {vs : List V} {m : Nat} {E : XK} {Q : VK} (c : Cf K cA z H M g) (r : Paired (RW K cA g M.length) ws vs) (q : Res K cA z g M.length (EXs K cA E) (callA m f ws M) fun w M' g' H' => ∀ v, RW K cA g' M'.length w v → Q v H') : spD K cA m f vs H Q E := by
  unfold callA at q
  by_cases h : ws.length = m
  · rw [if_pos h] at q
    exact ⟨by rw [← r.length]; exact h, z, M, g, ws, c, r, q.ent c⟩
  · rw [if_neg h] at q
    exact q.elim
theorem callR_sp {f : FD} {ws : List Wv} {vs : List V} {m r : Nat} {E : XK} {Q : VK} (c : Cf K cA z H M g) (rv : Paired (RW K cA g M.length) ws vs) (q : Res K cA z g M.length (EXs K cA E) (callR r m f ws M) fun w M' g' H' => ∀ v, RW K cA g' M'.length w v → Q v H') : spD K cA m f vs H Q E := by
  unfold callR at q
  by_cases hm0 : ws.length = m
  case neg =>
    rw [if_neg hm0] at q
    exact q.elim
  rw [if_pos hm0] at q
  have hm : vs.length = m := by rw [← rv.length]; exact hm0
  cases e : preps r ws M with
  | none => simp [e, Res] at q
  | some p =>
    obtain ⟨ws', M1⟩ := p
    simp only [e] at q
    by_cases hc : r ≤ M1.length ∧ (M1.take r).all (MO.below r) = true
    · rw [if_pos hc] at q
      obtain ⟨hr, hb⟩ := hc
      obtain ⟨g1, c1, l1, n1, k1, _⟩ := preps_ok c rv e
      have htl : (M1.take r).length = r := by rw [List.length_take]; omega
      have c2 : Cf K cA (ent H (M1.take r) g1) H (M1.take r) g1 := by
        refine ⟨c1.sub, fun k mo e => ?_, fun i j hi hj => c1.inj i j (by rw [htl] at hi; omega) (by rw [htl] at hj; omega), Same.refl _, fun a o e _ _ => e, fun a h => .inl h, fun _ _ => rfl, fun k h1 h2 => absurd h2 (Nat.not_lt.mpr h1), Nat.le_refl _, c1.tb, c1.ft⟩
        obtain ⟨h2, h3⟩ := take_get e
        rw [htl]
        exact (c1.sto k mo h3).cut (List.all_eq_true.mp hb mo (List.mem_of_getElem? e))
      refine ⟨hm, _, M1.take r, g1, ws', c2, by rw [htl]; exact k1 r (Nat.le_refl _), ?_⟩
      cases ef : f ws' (M1.take r) with
      | no => simp [ef, Res] at q
      | ex x M' =>
        simp only [ef] at q
        by_cases h2 : M'.length = r ∧ M'.all (MO.below r) = true
        · rw [if_pos h2] at q
          intro H' g' c' l' cls d rx
          obtain ⟨c3, l3, a3⟩ := c1.glue hr hb h2.1 h2.2 c'
          exact q H' _ c3 (l1.trans l3) cls d rx
        · rw [if_neg h2] at q
          exact q.elim
      | ok w M' =>
        simp only [ef] at q
        by_cases h2 : w.below r = true ∧ M'.length = r ∧ M'.all (MO.below r) = true
        · rw [if_pos h2] at q
          intro H' g' c' l' v rv'
          obtain ⟨c3, l3, a3⟩ := c1.glue hr hb h2.2.1 h2.2.2 c'
          refine q H' _ c3 (l1.trans l3) v ?_
          cases w with
          | d x => exact rv'
          | m k =>
            have hk : k < r := of_decide_eq_true h2.1
            exact ⟨by have := l3.ln; omega, by rw [rv'.2, a3 k hk]⟩
        · rw [if_neg h2] at q
          exact q.elim
    · rw [if_neg hc] at q
      exact q.elim
end
end DL

/-! Layer D: the calls' rules, fields, new instances. -/
namespace DL
open PySem PySem.Spec PyProof.Rows L2

/-- defaults: data without the heap -/
def Flat (K : PySem.W.Frag) (cA : CA) (ds : List D) (dvs : List V) : Prop := ∀ F, RepL K cA F ds dvs
theorem flat_nil {K : PySem.W.Frag} {cA : CA} : Flat K cA [] [] := fun _ => rfl
theorem flat_int {K : PySem.W.Frag} {cA : CA} {i : Int} {ds : List D} {dvs : List V} (h : Flat K cA ds dvs) : Flat K cA (.int i :: ds) (.int i :: dvs) := fun F => ⟨_, _, rfl, rfl, h F⟩
/-- a call's arguments with the defaults -/
def eCall (c : FD) (ds : List D) (a : AD) : ED := fun env M => (a env M).bind fun ws M1 => c (ws ++ ds.map .d) M1
/-- what the call of a promise asks -/
def CallOk (K : PySem.W.Frag) (cA : CA) (m : Nat) (f c : FD) : Prop := ∀ (z : Z0) (H : Hp) (M : Sto) (g : Gh) (ws : List Wv) (vs : List V) (E : XK) (Q : VK), Cf K cA z H M g → Paired (RW K cA g M.length) ws vs →
  Res K cA z g M.length (EXs K cA E) (c ws M) (fun w M' g' H' => ∀ v, RW K cA g' M'.length w v → Q v H') → spD K cA m f vs H Q E
theorem cA_ok {K : PySem.W.Frag} {cA : CA} {m : Nat} {f : FD} : CallOk K cA m f (callA m f) := fun z H M g ws vs E Q c r q => callA_sp c r q
theorem cR_ok {K : PySem.W.Frag} {cA : CA} {m r : Nat} {f : FD} : CallOk K cA m f (callR r m f) := fun z H M g ws vs E Q c rv q => callR_sp c rv q
section
variable {X : Cx} {cA : CA} {Wx : WX} {a b e o : Expr} {es : List Expr} {ma mb mo : ED} {mr : AD} {f c : FD} {x m : Str} {p pos apos : Pos} {k n : Nat} {fa C : Addr} {fd : FuncData} {ps : List Str} {ds : List D} {dvs : List V} {dus : List Value} {t : Nat}
theorem rwds {K : PySem.W.Frag} {g : Gh} {n : Nat} {ws : List Wv} {vs : List V} (r : Paired (RW K cA g n) ws vs) (h : Flat K cA ds dvs) : Paired (RW K cA g n) (ws ++ ds.map .d) (vs ++ dvs) := Paired.append' r ((h g.F).wd rfl)
/-- f(e, ..), f a def of the module -/
theorem d_call (F : FnOk X.prog X.w X.K X.mg X.base (L2.CX X.prog X.w) k fa fd ps (spD X.K cA n f)) (co : CallOk X.K cA n f c) (tk : Takes X Wx) (hr : Room k X.A) (hm : X.mg x = some (.ref fa)) (hk : PySem.W.keepIn X.K (.ref fa) = true) (hb : Binds X.K fd ps dus) (hd : Vals dvs dus) (hf : Flat X.K cA ds dvs)
    (ha : PA X (e :: es) (TAD X.K cA Wx mr)) (hg : Gl X x := by rfl) (hdb : (x == ("__debug__" : Str)) = false := by decide) (he : starEach (e :: es) X.env = (false, eval e X.env) :: starEach es X.env := by rfl) (hpl : (backTo pos (starEach es X.env)).any (·.1) = false := by rfl) :
    PE X (.Call (.Name x p) (e :: es) [] pos) (TED X.K cA Wx (eCall c ds mr)) := PE.imp (pe_callSD F hr hg hm hk hb hd (E := WE Wx) (fun σ => passAt tk σ) ha hdb he hpl) fun σ H Q ⟨z, env, M, g, cc, sl, q⟩ => by
  refine ⟨z, env, M, g, cc, sl, Res.imp (fun ws M1 g1 H1 c1 l1 q1 vs rv => ?_) q.of_bind⟩
  exact co z H1 M1 g1 _ _ _ Q c1 (rwds rv hf) q1
theorem pe_call0SD {sp : Sp} {E : St → XK} (F : FnOk X.prog X.w X.K X.mg X.base (L2.CX X.prog X.w) k fa fd ps sp) (hr : Room k X.A) (hg : Gl X x) (hm : X.mg x = some (.ref fa)) (hk : PySem.W.keepIn X.K (.ref fa) = true) (hb : Binds X.K fd ps dus) (hd : Vals dvs dus) (hx : ∀ σ, PassesAt (L2.CX X.prog X.w) X σ (E σ))
    (hdb : (x == ("__debug__" : Str)) = false := by decide) : PE X (.Call (.Name x p) [] [] pos) (tCallSD sp dvs E tNil) := by
  refine ⟨fun pins s σ H Q I h => ?_⟩
  refine wpAny_Call_Name_kw (ld_glob I hg hm ?_ hdb)
  exact PySem.W.callWith_K0 I.kIn hk (run_fnSD (us := []) F hr hb hd (hx σ) I .nil h)
/-- o.m(e, ..) -/
def tMethS (C : Addr) (m : Str) (sp : Sp) (dvs : List V) (E : St → XK) (ta : TE) (t : TA) : TE := fun σ H Q => ta σ H fun x H1 => ∃ a dx fs, x = .ref a ∧ H1 a = some (.ins C dx fs) ∧ fs.lookup m = none ∧
  t σ H1 fun vs H2 => sp (x :: (vs ++ dvs)) H2 Q (E σ)
theorem pe_methSD {pl : Sem Bool} {ta : TE} {tt : TA} {sp : Sp} {E : St → XK} (he : PE X o ta) (c : Cls X.K C) (hm : Meth X.K C m fa) (F : FnOk X.prog X.w X.K X.mg X.base (L2.CX X.prog X.w) k fa fd ps sp) (hr : Room k X.A) (hb : Binds X.K fd ps dus) (hd : Vals dvs dus) (hx : ∀ σ, PassesAt (L2.CX X.prog X.w) X σ (E σ)) (ha : PA X (e :: es) tt)
    (hst : starEach (e :: es) X.env = (false, eval e X.env) :: starEach es X.env := by rfl) (hpl : (backTo pos (starEach es X.env)).any (·.1) = false := by rfl)
    (ht : eval (.Call (.Attribute o m apos) (e :: es) [] pos) X.env = (do
      let ov ← eval o X.env
      standAt apos.atName
      let (f, first) ← holding [ov] (getMethod ov m pl)
      callWith pos f first (backTo pos (starEach (e :: es) X.env)) (backToKw pos (keywordEach [] X.env))) := by rfl) :
    PE X (.Call (.Attribute o m apos) (e :: es) [] pos) (tMethS C m sp dvs E ta tt) := by
  refine ⟨fun pins s σ H Q I h => ?_⟩
  refine PySem.W.methodCall_KW (pl := pl) (thn (he.run pins s σ H _ I h) fun u s1 ⟨x, H1, I1, rx, a, dx, fs, ex, ea, l, q⟩ => ?_) ht
  subst ex
  obtain rfl : u = Value.ref a := rx
  refine getmeth_ok I1 ea c hm l ?_
  refine PySem.W.callWith_K (first := [.ref a]) (h₀ := X.base) I.ok.mod.kin hm.kp (thn (ha.run pos pins s1 σ H1 _ I1 q) fun us s2 ⟨vs, H2, I2, r, q2⟩ => ⟨I2.kIn, ?_⟩) hst hpl
  exact run_fnSD (us := .ref a :: us) (vs := .ref a :: vs) F hr hb hd (hx σ) I2 (.cons rfl r) q2
theorem pe_meth0SD {pl : Sem Bool} {ta : TE} {sp : Sp} {E : St → XK} (he : PE X o ta) (c : Cls X.K C) (hm : Meth X.K C m fa) (F : FnOk X.prog X.w X.K X.mg X.base (L2.CX X.prog X.w) k fa fd ps sp) (hr : Room k X.A) (hb : Binds X.K fd ps dus) (hd : Vals dvs dus) (hx : ∀ σ, PassesAt (L2.CX X.prog X.w) X σ (E σ))
    (ht : eval (.Call (.Attribute o m apos) [] [] pos) X.env = (do
      let ov ← eval o X.env
      standAt apos.atName
      let (f, first) ← holding [ov] (getMethod ov m pl)
      callWith pos f first (backTo pos (starEach [] X.env)) (backToKw pos (keywordEach [] X.env))) := by rfl) :
    PE X (.Call (.Attribute o m apos) [] [] pos) (tMethS C m sp dvs E ta tNil) := by
  refine ⟨fun pins s σ H Q I h => ?_⟩
  refine PySem.W.methodCall_KW (pl := pl) (thn (he.run pins s σ H _ I h) fun u s1 ⟨x, H1, I1, rx, a, dx, fs, ex, ea, l, q⟩ => ?_) ht
  subst ex
  obtain rfl : u = Value.ref a := rx
  refine getmeth_ok I1 ea c hm l ?_
  exact PySem.W.callWith_K0 (first := [.ref a]) I1.kIn hm.kp (run_fnSD (us := [.ref a]) (vs := [.ref a]) F hr hb hd (hx σ) I1 (.cons rfl .nil) q)
/-- an instance of the class with the tag t, that has no field called m -/
def insw (t : Nat) (m : Str) (w : Wv) (M : Sto) : Bool := match nw M w with
  | .d (.obj t' ns _) => t' == t && !ns.contains m
  | .d _ => false
  | .m k => match M[k]? with
    | some (.ins t' ns _) => t' == t && !ns.contains m
    | _ => false
theorem lookup_zip_none {ns : List Str} {vs : List V} {m : Str} (h : ns.contains m = false) : (ns.zip vs).lookup m = none := by
  induction ns generalizing vs with
  | nil => rfl
  | cons n ns ih =>
    cases vs with
    | nil => rfl
    | cons v vs =>
      rw [List.contains_cons, Bool.or_eq_false_iff] at h
      rw [List.zip_cons_cons, List.lookup_cons, h.1]
      exact ih h.2
theorem insw_at {K : PySem.W.Frag} {z : Z0} {g : Gh} {H : Hp} {M : Sto} (c : Cf K cA z H M g) {w : Wv} {v : V} (r : RW K cA g M.length w v) (e : insw t m w M = true) : ∃ a dx fs, v = .ref a ∧ H a = some (.ins (cA t) dx fs) ∧ fs.lookup m = none := by
  have r' := rw_nw c r
  cases q : nw M w with
  | m k =>
    rw [q] at r'
    obtain ⟨hk, rfl⟩ := r'
    simp only [insw, q] at e
    cases q2 : M[k]? with
    | none => simp [q2] at e
    | some mo =>
      cases mo with
      | ins t' ns ws =>
        simp only [q2, Bool.and_eq_true, Bool.not_eq_true', beq_iff_eq] at e
        obtain ⟨rfl, e2⟩ := e
        obtain ⟨dx, vs, h1, _⟩ := c.sto k _ q2
        exact ⟨_, dx, _, rfl, h1, lookup_zip_none e2⟩
      | _ => simp [q2] at e
  | d d =>
    rw [q] at r'
    simp only [insw, q] at e
    cases d with
    | obj t' ns l =>
      simp only [Bool.and_eq_true, Bool.not_eq_true', beq_iff_eq] at e
      obtain ⟨rfl, e2⟩ := e
      obtain ⟨a, dx, vs, rfl, h1, _⟩ := r'
      exact ⟨a, dx, _, rfl, c.sub _ _ h1, lookup_zip_none e2⟩
    | _ => simp at e
def eMeth (t : Nat) (m : Str) (c : FD) (ds : List D) (o : ED) (a : AD) : ED := fun env M => (o env M).bind fun w M1 => if insw t m w M1 = true then (a env M1).bind fun ws M2 => c (w :: (ws ++ ds.map .d)) M2 else .no
theorem ted_meth (co : CallOk X.K cA n f c) (hf : Flat X.K cA ds dvs) {σ : St} {H : Hp} {Q : VK} (h : TED X.K cA Wx (eMeth t m c ds mo mr) σ H Q) : tMethS (cA t) m (spD X.K cA n f) dvs (WE Wx) (TED X.K cA Wx mo) (TAD X.K cA Wx mr) σ H Q := by
  obtain ⟨z, env, M, g, cc, sl, q⟩ := h
  refine ⟨z, env, M, g, cc, sl, Res.imp (fun w M1 g1 H1 c1 l1 q1 v rv => ?_) q.of_bind⟩
  by_cases hi : insw t m w M1 = true
  · rw [if_pos hi] at q1
    obtain ⟨a, dx, fs, e1, e2, e3⟩ := insw_at c1 rv hi
    refine ⟨a, dx, fs, e1, e2, e3, z, env, M1, g1, c1, sl.mono l1, Res.imp (fun ws M2 g2 H2 c2 l2 q2 vs rvs => ?_) q1.of_bind⟩
    exact co z H2 M2 g2 _ _ _ Q c2 (.cons (rv.mono l2) (rwds rvs hf)) q2
  · rw [if_neg hi] at q1
    exact q1.elim
theorem d_meth (ho : PE X o (TED X.K cA Wx mo)) (cl : Cls X.K (cA t)) (hm : Meth X.K (cA t) m fa) (F : FnOk X.prog X.w X.K X.mg X.base (L2.CX X.prog X.w) k fa fd ps (spD X.K cA n f)) (co : CallOk X.K cA n f c) (tk : Takes X Wx) (hr : Room k X.A) (hb : Binds X.K fd ps dus) (hd : Vals dvs dus) (hf : Flat X.K cA ds dvs) (ha : PA X (e :: es) (TAD X.K cA Wx mr))
    {pl : Sem Bool} (hst : starEach (e :: es) X.env = (false, eval e X.env) :: starEach es X.env := by rfl) (hpl : (backTo pos (starEach es X.env)).any (·.1) = false := by rfl)
    (ht : eval (.Call (.Attribute o m apos) (e :: es) [] pos) X.env = (do
      let ov ← eval o X.env
      standAt apos.atName
      let (f, first) ← holding [ov] (getMethod ov m pl)
      callWith pos f first (backTo pos (starEach (e :: es) X.env)) (backToKw pos (keywordEach [] X.env))) := by rfl) :
    PE X (.Call (.Attribute o m apos) (e :: es) [] pos) (TED X.K cA Wx (eMeth t m c ds mo mr)) := PE.imp (pe_methSD ho cl hm F hr hb hd (E := WE Wx) (fun σ => passAt tk σ) ha hst hpl ht) fun σ H Q h => ted_meth co hf h
theorem tad_nil {σ : St} {H : Hp} {Q : List V → Hp → Prop} (h : TAD X.K cA Wx aNil σ H Q) : tNil σ H Q := by
  obtain ⟨z, env, M, g, c, sl, q⟩ := h
  exact q H g c Le.refl [] .nil
theorem d_meth0 (ho : PE X o (TED X.K cA Wx mo)) (cl : Cls X.K (cA t)) (hm : Meth X.K (cA t) m fa) (F : FnOk X.prog X.w X.K X.mg X.base (L2.CX X.prog X.w) k fa fd ps (spD X.K cA n f)) (co : CallOk X.K cA n f c) (tk : Takes X Wx) (hr : Room k X.A) (hb : Binds X.K fd ps dus) (hd : Vals dvs dus) (hf : Flat X.K cA ds dvs)
    {pl : Sem Bool} (ht : eval (.Call (.Attribute o m apos) [] [] pos) X.env = (do
      let ov ← eval o X.env
      standAt apos.atName
      let (f, first) ← holding [ov] (getMethod ov m pl)
      callWith pos f first (backTo pos (starEach [] X.env)) (backToKw pos (keywordEach [] X.env))) := by rfl) :
    PE X (.Call (.Attribute o m apos) [] [] pos) (TED X.K cA Wx (eMeth t m c ds mo aNil)) := PE.imp (pe_meth0SD ho cl hm F hr hb hd (E := WE Wx) (fun σ => passAt tk σ) ht) fun σ H Q h => by
  have h2 := ted_meth co hf h
  obtain ⟨z, env, M, g, cc, sl, q⟩ := h2
  exact ⟨z, env, M, g, cc, sl, Res.imp (fun w M1 g1 H1 c1 l1 q1 v rv => let ⟨a, dx, fs, e1, e2, e3, q2⟩ := q1 v rv; ⟨a, dx, fs, e1, e2, e3, tad_nil q2⟩) q⟩
theorem d_call0 (F : FnOk X.prog X.w X.K X.mg X.base (L2.CX X.prog X.w) k fa fd ps (spD X.K cA n f)) (co : CallOk X.K cA n f c) (tk : Takes X Wx) (hr : Room k X.A) (hm : X.mg x = some (.ref fa)) (hk : PySem.W.keepIn X.K (.ref fa) = true) (hb : Binds X.K fd ps dus) (hd : Vals dvs dus) (hf : Flat X.K cA ds dvs)
    (hg : Gl X x := by rfl) (hdb : (x == ("__debug__" : Str)) = false := by decide) : PE X (.Call (.Name x p) [] [] pos) (TED X.K cA Wx (eCall c ds aNil)) := PE.imp (pe_call0SD F hr hg hm hk hb hd (E := WE Wx) (fun σ => passAt tk σ) hdb) fun σ H Q ⟨z, env, M, g, cc, sl, q⟩ => by
  have q' : Res X.K cA z g M.length (EX X.K cA Wx σ) (c (ds.map .d) M) _ := q
  exact co z H M g _ _ _ Q cc (rwds (ws := []) (vs := []) .nil hf) q'

/-! ### new instances -/
def tMakeS (C : Addr) (sp : Sp) (dvs : List V) (E : St → XK) (t : TA) : TE := fun σ H Q => t σ H fun vs H1 => ∀ x dx, H1 x = none → H1 dx = none → dx ≠ x →
  sp (.ref x :: (vs ++ dvs)) (upd (upd H1 dx (.own x)) x (.ins C dx [])) (fun v H2 => v = .non ∧ Q (.ref x) H2) (E σ)
theorem run_makeS {sp : Sp} {E : XK} {pins : List (Addr × Obj)} {σ : St} {H : Hp} {s : Shared} {Q : VK} {us : List Value} {vs : List V} (M : Mk X.K C fa) (F : FnOk X.prog X.w X.K X.mg X.base (L2.CX X.prog X.w) k fa fd ps sp) (hr : Room (k + 1) X.A) (hb : Binds X.K fd ps dus) (hd : Vals dvs dus)
    (hx : PassesAt (L2.CX X.prog X.w) X σ E) (I : Inv X pins σ H s) (r : Vals vs us)
    (h : ∀ x dx, H x = none → H dx = none → dx ≠ x → sp (.ref x :: (vs ++ dvs)) (upd (upd H dx (.own x)) x (.ins C dx [])) (fun v H2 => v = .non ∧ Q (.ref x) H2) E) :
    wpAny (model X.prog X.w) X.A (call (.ref C) us) (EP X pins σ Q) X.xe s := by
  have hq := h (s.heap.objs.size + 1) s.heap.objs.size (I.hok.fresh (Nat.le_succ _)) (I.hok.fresh (Nat.le_refl _)) (Nat.ne_of_lt (Nat.lt_succ_self _))
  have I2 := Inv.made (C := C) I
  have r2 : Vals (V.ref (s.heap.objs.size + 1) :: (vs ++ dvs)) (Value.ref (s.heap.objs.size + 1) :: (us ++ dus)) := .cons rfl (r.append hd)
  have hl : (Value.ref (s.heap.objs.size + 1) :: us ++ dus).length = ps.length := by
    have e := r2.length
    rw [F.len _ _ _ _ hq] at e
    exact e.symm
  refine wpAny_call (make_map (f := fa) I.kIn M.makes M.init (beq_iff_eq.mp M.fn) (codeAny_mono (F.run _ X.stack _ _ ⟨Value.ref (s.heap.objs.size + 1) :: us, []⟩ (Value.ref (s.heap.objs.size + 1) :: (us ++ dus)) _ _ E (hr.make C us [])
    (I2.env0.make C us []) (hb _ (Value.ref (s.heap.objs.size + 1) :: us) I2.kIn hl) r2 hq) fun r s' hq' => ?_))
  cases r with
  | error e => exact hx pins _ _ e s' I2 hq'
  | ok fl =>
    cases fl with
    | ret u =>
      obtain ⟨v, H', I3, rv, ev, q3⟩ := I2.after hq'
      subst ev
      exact ⟨rv, ⟨V.ref (s.heap.objs.size + 1), H', I3, rfl, q3⟩⟩
    | next => exact False.elim hq'
    | brk => exact False.elim hq'
    | cont => exact False.elim hq'
theorem pe_makeS {sp : Sp} {E : St → XK} {tt : TA} (M : Mk X.K C fa) (F : FnOk X.prog X.w X.K X.mg X.base (L2.CX X.prog X.w) k fa fd ps sp) (hr : Room (k + 1) X.A) (hg : Gl X x) (hm : X.mg x = some (.ref C)) (hb : Binds X.K fd ps dus) (hd : Vals dvs dus) (hx : ∀ σ, PassesAt (L2.CX X.prog X.w) X σ (E σ))
    (ha : PA X (e :: es) tt) (hdb : (x == ("__debug__" : Str)) = false := by decide) (he : starEach (e :: es) X.env = (false, eval e X.env) :: starEach es X.env := by rfl) (hpl : (backTo pos (starEach es X.env)).any (·.1) = false := by rfl) :
    PE X (.Call (.Name x p) (e :: es) [] pos) (tMakeS C sp dvs E tt) := by
  refine ⟨fun pins s σ H Q I h => ?_⟩
  refine wpAny_Call_Name_kw (ld_glob I hg hm ?_ hdb)
  refine PySem.W.callWith_K (h₀ := X.base) I.ok.mod.kin M.kp (thn (ha.run pos pins s σ H _ I h) fun us s1 ⟨vs, H1, I1, r, q⟩ => ⟨I1.kIn, ?_⟩) he hpl
  exact run_makeS M F hr hb hd (hx σ) I1 r q
/-- kept as an object of the store: __init__ sees all of it -/
def mkA (t m : Nat) (f : FD) : FD := fun ws M => if ws.length + 1 = m then match f (.m M.length :: ws) (M ++ [.ins t [] []]) with
    | .ok (.d .non) M' => .ok (.m M.length) M'
    | .ok _ _ => .no
    | .ex x M' => .ex x M'
    | .no => .no
  else .no
/-- frozen at once: __init__ sees the new object alone -/
def mkF (t m : Nat) (f : FD) : FD := fun ws M => if ws.length + 1 = m then match preps 0 ws M with
    | none => .no
    | some (ws', M1) => match f (.m 0 :: ws') [.ins t [] []] with
      | .ok (.d .non) [mo] => match fz1 0 [mo] with
        | some (x, _) => .ok (.d x) M1
        | none => .no
      | .ok _ _ => .no
      | .ex x M' => .ex x M1
      | .no => .no
  else .no
/-- what making an instance asks -/
def MakeOk (K : PySem.W.Frag) (cA : CA) (t n : Nat) (f c : FD) : Prop := ∀ (z : Z0) (H : Hp) (M : Sto) (g : Gh) (ws : List Wv) (vs : List V) (E : XK) (Q : VK) (x dx : Addr), Cf K cA z H M g → Paired (RW K cA g M.length) ws vs → H x = none → H dx = none → dx ≠ x →
  Res K cA z g M.length (EXs K cA E) (c ws M) (fun w M' g' H' => ∀ v, RW K cA g' M'.length w v → Q v H') → spD K cA n f (.ref x :: vs) (upd (upd H dx (.own x)) x (.ins (cA t) dx [])) (fun v H2 => v = .non ∧ Q (.ref x) H2) E
theorem mkA_ok {K : PySem.W.Frag} : MakeOk K cA t n f (mkA t n f) := by
  intro z H M g ws vs E Q x dx c rv hx hdx hne q
  unfold mkA at q
  by_cases hn : ws.length + 1 = n
  case neg =>
    rw [if_neg hn] at q
    exact q.elim
  rw [if_pos hn] at q
  have c1 : Cf K cA z (upd H dx (.own x)) M g := c.scrib (c.fresh hdx) (plain_no hdx)
  have hx1 : upd H dx (.own x) x = none := by rw [upd_ne (Ne.symm hne)]; exact hx
  have fx : g.F x = none := c1.sub.free hx1
  obtain ⟨c2, l2⟩ := c1.new (ho := .ins (cA t) dx []) (mo := .ins t [] []) hx1 ⟨dx, [], upd_same, fx, rfl, .nil⟩
  have hlen : (M ++ [MO.ins t [] []]).length = M.length + 1 := by rw [List.length_append]; rfl
  have adn : (g.add M.length x).ad M.length = x := if_pos rfl
  refine ⟨by rw [List.length_cons, ← rv.length]; exact hn, z, _, _, .m M.length :: ws, c2, .cons ⟨by rw [hlen]; exact Nat.lt_succ_self _, by rw [adn]⟩ (RWs.mono l2 rv), ?_⟩
  cases ef : f (.m M.length :: ws) (M ++ [.ins t [] []]) with
  | no => simp [ef, Res] at q
  | ex y M' =>
    simp only [ef] at q
    exact fun H' g' c' l' => q H' g' (c2.leave c') (l2.trans l')
  | ok w M' =>
    simp only [ef] at q
    cases w with
    | m j => exact q.elim
    | d d =>
      cases d with
      | non =>
        intro H' g' c' l' v rv'
        refine ⟨rv', q H' g' (c2.leave c') (l2.trans l') _ ⟨by have := l'.ln; rw [hlen] at this; omega, ?_⟩⟩
        show V.ref x = .ref (g'.ad M.length)
        rw [l'.ad M.length (by rw [hlen]; exact Nat.lt_succ_self _), adn]
      | _ => exact q.elim
/-- a step of a store apart: its only object, at x, is new -/
theorem Cf.apart {K : PySem.W.Frag} {z : Z0} {H H2 H' : Hp} {M M' : Sto} {g g' : Gh} {x : Addr} {mo : MO} (c : Cf K cA z H M g) (s : L2.Same H H2) (hx : H x = none) {gx : Gh} (ex : gx.F = g.F) (ea : gx.ad 0 = x) (d : Cf K cA (ent H2 [mo] gx) H' M' g') :
    Cf K cA z H' M { F := g'.F, ad := g.ad } ∧ Le g M.length { F := g'.F, ad := g.ad } M.length := by
  have sF : L2.Same g.F g'.F := by rw [← ex]; exact d.f0
  have keep : ∀ a ho, H a = some ho → (∀ p ∈ cA.T, a ≠ p.1) → H' a = some ho := fun a ho e h9 => d.fr a ho (s _ _ e) (fun k hk q => by
    have h0 : k = 0 := by
      have : k < 1 := hk
      omega
    subst h0
    rw [show a = gx.ad 0 from q, ea] at e
    rw [e] at hx
    cases hx) h9
  have nofz : ∀ a ho, H a = some ho → g.F a = none → g'.F a = none := fun a ho e e2 => by
    cases q : g'.F a with
    | none => rfl
    | some o =>
      rcases d.fs a (by rw [q]; exact fun z => by cases z) with h | h | ⟨k, hk, h⟩
      · exact absurd (show gx.F a = none by rw [ex]; exact e2) h
      · rw [show (ent H2 [mo] gx).H0 = H2 from rfl, s _ _ e] at h
        cases h
      · have h0 : k = 0 := by
          have : k < 1 := hk
          omega
        subst h0
        rw [show a = gx.ad 0 from h, ea] at e
        rw [e] at hx
        cases hx
  have le : Le g M.length { F := g'.F, ad := g.ad } M.length := ⟨sF, fun _ _ => rfl, Nat.le_refl _⟩
  refine ⟨⟨d.sub, fun k m e => ?_, c.inj, c.f0.trans sF, fun a o e h h9 => keep _ _ (c.fr a o e h h9) h9, fun a h => ?_, c.ad, c.nw, c.ln, d.tb, d.ft⟩, le⟩
  · have hk : k < M.length := (List.getElem?_eq_some_iff.mp e).1
    obtain ⟨ho, e2⟩ := c.st hk
    exact (c.sto k m e).keep le ((keep _ _ e2 (c.adt hk)).trans e2.symm) fun f => nofz _ _ e2 f
  · rcases d.fs a h with q | q | ⟨k, hk, q⟩
    · exact c.fs a (by rw [← ex]; exact q)
    · have : H a = none := by
        cases e : H a with
        | none => rfl
        | some o =>
          rw [show (ent H2 [mo] gx).H0 = H2 from rfl, s _ _ e] at q
          cases q
      exact .inr (.inl (c.free0 this).1)
    · have h0 : k = 0 := by
        have : k < 1 := hk
        omega
      subst h0
      rw [show a = gx.ad 0 from q, ea]
      exact .inr (.inl (c.free0 hx).1)
theorem mkF_ok {K : PySem.W.Frag} : MakeOk K cA t n f (mkF t n f) := by
  intro z H M g ws vs E Q x dx c rv hx hdx hne q
  unfold mkF at q
  by_cases hn : ws.length + 1 = n
  case neg =>
    rw [if_neg hn] at q
    exact q.elim
  rw [if_pos hn] at q
  cases ep : preps 0 ws M with
  | none => simp [ep, Res] at q
  | some pp =>
    obtain ⟨ws', M1⟩ := pp
    simp only [ep] at q
    obtain ⟨g1, c1, l1, n1, k1, _⟩ := preps_ok c rv ep
    have hx1 : upd H dx (.own x) x = none := by rw [upd_ne (Ne.symm hne)]; exact hx
    have sm : L2.Same H (upd (upd H dx (.own x)) x (.ins (cA t) dx [])) := (Same.upd' hdx).trans (Same.upd' hx1)
    have fx : g1.F x = none := c1.sub.free hx
    have cx : Cf K cA (ent (upd (upd H dx (.own x)) x (.ins (cA t) dx [])) [.ins t [] []] ⟨g1.F, fun _ => x⟩) (upd (upd H dx (.own x)) x (.ins (cA t) dx [])) [.ins t [] []] ⟨g1.F, fun _ => x⟩ := by
      refine ⟨c1.sub.trans sm, fun k mo e => ?_, fun i j hi hj _ => ?_, Same.refl _, fun a o e _ _ => e, fun a h => .inl h, fun _ _ => rfl, fun k h1 h2 => absurd h2 (Nat.not_lt.mpr h1), Nat.le_refl _, tabs_lay (tabs_lay c1.tb hdx) hx1, c1.ft⟩
      · have hk : k < 1 := (List.getElem?_eq_some_iff.mp e).1
        have h0 : k = 0 := by omega
        subst h0
        cases (Option.some.inj e)
        exact ⟨dx, [], upd_same, fx, rfl, .nil⟩
      · have hi' : i < 1 := hi
        have hj' : j < 1 := hj
        omega
    refine ⟨by rw [List.length_cons, ← rv.length]; exact hn, _, _, _, .m 0 :: ws', cx, .cons ⟨Nat.zero_lt_one, rfl⟩ ?_, ?_⟩
    · have := k1 1 (Nat.zero_le _)
      have k0 := k1 0 (Nat.le_refl _)
      refine Paired.imp' (fun w v r => ?_) k0
      cases w with
      | d d => exact r
      | m j => exact absurd r.1 (Nat.not_lt_zero _)
    · have cx' := cx
      cases ef : f (.m 0 :: ws') [.ins t [] []] with
      | no => simp [ef, Res] at q
      | ex y M' =>
        simp only [ef] at q
        intro H' g' c' l' cls d rx
        obtain ⟨c3, l3⟩ := c1.apart sm hx (gx := ⟨g1.F, fun _ => x⟩) rfl rfl c'
        have hM : M1.length = M.length := n1
        exact q H' _ c3 (l1.trans l3) cls d rx
      | ok w M' =>
        simp only [ef] at q
        cases w with
        | m j => exact q.elim
        | d d =>
          cases d with
          | non =>
            match M', q with
            | [], q => exact q.elim
            | _ :: _ :: _, q => exact q.elim
            | [mo], q =>
              simp only at q
              cases ez : fz1 0 [mo] with
              | none => simp [ez, Res] at q
              | some pz =>
                obtain ⟨xx, Mz⟩ := pz
                simp only [ez] at q
                intro H' g' c' l' v rv'
                obtain ⟨g2, c2, l2, n2, rr⟩ := fz1_ok c' (by exact Nat.zero_lt_one) ez
                obtain ⟨c3, l3⟩ := c1.apart sm hx (gx := ⟨g1.F, fun _ => x⟩) rfl rfl c2
                refine ⟨rv', q H' _ c3 (l1.trans l3) _ ?_⟩
                have e0 : g2.ad 0 = x := (l'.trans l2).ad 0 Nat.zero_lt_one
                rw [e0] at rr
                exact rr
          | _ => exact q.elim
theorem d_make (M : Mk X.K (cA t) fa) (F : FnOk X.prog X.w X.K X.mg X.base (L2.CX X.prog X.w) k fa fd ps (spD X.K cA n f)) (co : MakeOk X.K cA t n f c) (tk : Takes X Wx) (hr : Room (k + 1) X.A) (hm : X.mg x = some (.ref (cA t))) (hb : Binds X.K fd ps dus) (hd : Vals dvs dus) (hf : Flat X.K cA ds dvs)
    (ha : PA X (e :: es) (TAD X.K cA Wx mr)) (hg : Gl X x := by rfl) (hdb : (x == ("__debug__" : Str)) = false := by decide) (he : starEach (e :: es) X.env = (false, eval e X.env) :: starEach es X.env := by rfl) (hpl : (backTo pos (starEach es X.env)).any (·.1) = false := by rfl) :
    PE X (.Call (.Name x p) (e :: es) [] pos) (TED X.K cA Wx (eCall c ds mr)) := PE.imp (pe_makeS M F hr hg hm hb hd (E := WE Wx) (fun σ => passAt tk σ) ha hdb he hpl) fun σ H Q ⟨z, env, M, g, cc, sl, q⟩ => by
  refine ⟨z, env, M, g, cc, sl, Res.imp (fun ws M1 g1 H1 c1 l1 q1 vs rv y dy hy hdy hne => ?_) q.of_bind⟩
  exact co z H1 M1 g1 _ _ _ Q y dy c1 (rwds rv hf) hy hdy hne q1
end
end DL

/-! Layer D: fields, lists that change, texts, slices, in, isinstance, sorted. -/
namespace DL
open PySem PySem.Spec PyProof.Rows L2

/-! ### fields -/
def fldw (ts : List Nat) (f : Str) (w : Wv) (M : Sto) : Rs Wv := match nw M w with
  | .d (.obj t ns l) => if ts.contains t = true then match (ns.zip l).lookup f with
      | some x => .ok (.d x) M
      | none => .no
    else .no
  | .d _ => .no
  | .m k => match M[k]? with
    | some (.ins t ns ws) => if ts.contains t = true then match (ns.zip ws).lookup f with
        | some x => .ok x M
        | none => .no
      else .no
    | _ => .no
theorem lookup_zip {α β : Type} {P : α → β → Prop} {f : Str} {a : α} : ∀ {ns : List Str} {l : List α} {r : List β}, Paired P l r → (ns.zip l).lookup f = some a → ∃ b, (ns.zip r).lookup f = some b ∧ P a b
  | [], _, _, _, e => by simp at e
  | n :: ns, _, _, .nil, e => by simp at e
  | n :: ns, _, _, .cons h t, e => by
    rw [List.zip_cons_cons, List.lookup_cons] at e ⊢
    cases q : f == n with
    | true =>
      rw [q] at e
      exact ⟨_, rfl, by cases e; exact h⟩
    | false =>
      rw [q] at e
      exact lookup_zip t e
/-- what is asked of the classes with these tags -/
def ClsOk (K : PySem.W.Frag) (cA : CA) (ts : List Nat) (f : Str) : Prop := ∀ t ∈ ts, Cls K (cA t) ∧ NoAttr K (cA t) f
theorem clsOk_nil {K : PySem.W.Frag} {cA : CA} {f : Str} : ClsOk K cA [] f := fun _ h => by cases h
theorem clsOk_cons {K : PySem.W.Frag} {cA : CA} {f : Str} {t : Nat} {ts : List Nat} (c : Cls K (cA t)) (n : NoAttr K (cA t) f) (h : ClsOk K cA ts f) : ClsOk K cA (t :: ts) f := fun u hu => by
  rcases List.mem_cons.mp hu with e | e
  · rw [e]; exact ⟨c, n⟩
  · exact h u e
section
variable {X : Cx} {cA : CA} {Wx : WX} {a b c e o value : Expr} {es : List Expr} {ma mb mo mv : ED} {mr : AD} {ta : TD} {f x m : Str} {p pos apos tpos pos' : Pos} {ts : List Nat}
theorem fldw_at {K : PySem.W.Frag} {z : Z0} {g : Gh} {H : Hp} {M : Sto} {E : Exn → Sto → Gh → Hp → Prop} {P : Wv → Sto → Gh → Hp → Prop} (c : Cf K cA z H M g) {w : Wv} {v : V} (r : RW K cA g M.length w v) (q : Res K cA z g M.length E (fldw ts f w M) P) :
    ∃ t a dx fs u y, v = .ref a ∧ H a = some (.ins (cA t) dx fs) ∧ t ∈ ts ∧ fs.lookup f = some y ∧ RW K cA g M.length u y ∧ P u M g H := by
  have r' := rw_nw c r
  cases q0 : nw M w with
  | m k =>
    rw [q0] at r'
    obtain ⟨hk, rfl⟩ := r'
    simp only [fldw, q0] at q
    cases q2 : M[k]? with
    | none => simp [q2, Res] at q
    | some mo =>
      cases mo with
      | ins t ns ws =>
        simp only [q2] at q
        by_cases ht : ts.contains t = true
        · rw [if_pos ht] at q
          cases ql : (ns.zip ws).lookup f with
          | none => simp [ql, Res] at q
          | some u =>
            simp only [ql] at q
            obtain ⟨dx, vs, h1, h2, h3, h4⟩ := c.sto k _ q2
            obtain ⟨y, h5, h6⟩ := lookup_zip h4 ql
            exact ⟨t, _, dx, _, u, y, rfl, h1, by simpa using ht, h5, h6, q H g c Le.refl⟩
        · rw [if_neg ht] at q
          exact q.elim
      | _ => simp [q2, Res] at q
  | d d =>
    rw [q0] at r'
    simp only [fldw, q0] at q
    cases d with
    | obj t ns l =>
      simp only at q
      by_cases ht : ts.contains t = true
      · rw [if_pos ht] at q
        cases ql : (ns.zip l).lookup f with
        | none => simp [ql, Res] at q
        | some u =>
          simp only [ql] at q
          obtain ⟨a, dx, vs, rfl, h1, h2, h3⟩ := r'
          obtain ⟨y, h5, h6⟩ := lookup_zip h3.paired ql
          exact ⟨t, a, dx, _, .d u, y, rfl, c.sub _ _ h1, by simpa using ht, h5, h6, q H g c Le.refl⟩
      · rw [if_neg ht] at q
        exact q.elim
    | _ => exact q.elim
theorem d_fld (hc : ClsOk X.K cA ts f) (ha : PE X a (TED X.K cA Wx ma)) (hb : attributeBase a f X.env (eval a X.env) = eval a X.env := by rfl) : PE X (.Attribute a f pos) (TED X.K cA Wx (e1 (fldw ts f) ma)) := PE.imp (pe_fld ha hb) fun σ H Q ⟨z, env, M, g, c, sl, q⟩ => by
  refine ⟨z, env, M, g, c, sl, Res.imp (fun w M1 g1 H1 c1 l1 q1 v rv => ?_) q.of_bind⟩
  obtain ⟨t, a, dx, fs, u, y, h1, h2, h3, h4, h5, h6⟩ := fldw_at c1 rv q1
  exact ⟨a, cA t, dx, fs, y, h1, h2, (hc t h3).1, (hc t h3).2, h4, h6 y h5⟩
/-- a field stored -/
def putN (f : Str) : List Str → List Str
  | [] => [f]
  | n :: ns => if n = f then n :: ns else n :: putN f ns
def putW (f : Str) (w : Wv) : List Str → List Wv → List Wv
  | n :: ns, u :: us => if n = f then w :: us else u :: putW f w ns us
  | _, _ => [w]
theorem put_ok {K : PySem.W.Frag} {g : Gh} {n : Nat} {f : Str} {w : Wv} {y : V} (r : RW K cA g n w y) : ∀ {ns : List Str} {ws : List Wv} {vs : List V}, ns.length = vs.length → Paired (RW K cA g n) ws vs → ∃ us, putF f y (ns.zip vs) = (putN f ns).zip us ∧ (putN f ns).length = us.length ∧ Paired (RW K cA g n) (putW f w ns ws) us
  | [], _, _, hl, .nil => ⟨[y], rfl, rfl, .cons r .nil⟩
  | [], _, _, hl, .cons h t => by simp at hl
  | m :: ns, _, _, hl, .nil => by simp at hl
  | m :: ns, u :: ws, v :: vs, hl, .cons h t => by
    by_cases hm : m = f
    · refine ⟨y :: vs, ?_, ?_, ?_⟩
      · simp [putF, putN, hm]
      · simp [putN, hm]
        simpa using hl
      · simp only [putW, hm, if_true]
        exact .cons r t
    · obtain ⟨us, h1, h2, h3⟩ := put_ok (f := f) (w := w) (y := y) r (by simpa using hl : ns.length = vs.length) t
      refine ⟨v :: us, ?_, ?_, ?_⟩
      · simp [putF, putN, hm, h1]
      · simp [putN, hm, h2]
      · simp only [putW, hm, if_false]
        exact .cons h h3
def stow (t : Nat) (f : Str) (u w : Wv) (M : Sto) : Rs Unit := match w with
  | .m k => match M[k]? with
    | some (.ins t' ns ws) => if t' = t ∧ ns.length < 1000 then .ok () (M.set k (.ins t (putN f ns) (putW f u ns ws))) else .no
    | _ => .no
  | _ => .no
theorem stow_at {K : PySem.W.Frag} {z : Z0} {g : Gh} {H : Hp} {M : Sto} {E : Exn → Sto → Gh → Hp → Prop} {P : Unit → Sto → Gh → Hp → Prop} {t : Nat} (c : Cf K cA z H M g) {w u : Wv} {v y : V} (r : RW K cA g M.length w v) (ru : RW K cA g M.length u y) (q : Res K cA z g M.length E (stow t f u w M) P) :
    ∃ a dx fs M', v = .ref a ∧ H a = some (.ins (cA t) dx fs) ∧ fs.length < 1000 ∧ Cf K cA z (upd H a (.ins (cA t) dx (putF f y fs))) M' g ∧ M'.length = M.length ∧ P () M' g (upd H a (.ins (cA t) dx (putF f y fs))) := by
  cases w with
  | d _ => exact q.elim
  | m k =>
    obtain ⟨hk, rfl⟩ := r
    simp only [stow] at q
    cases q2 : M[k]? with
    | none => simp [q2, Res] at q
    | some mo =>
      cases mo with
      | ins t' ns ws =>
        simp only [q2] at q
        by_cases ht : t' = t ∧ ns.length < 1000
        · rw [if_pos ht] at q
          obtain ⟨rfl, hz⟩ := ht
          obtain ⟨dx, vs, h1, h2, h3, h4⟩ := c.sto k _ q2
          obtain ⟨us, h5, h6, h7⟩ := put_ok (f := f) ru h3 h4
          have c2 : Cf K cA z (upd H (g.ad k) (.ins (cA t') dx (putF f y (ns.zip vs)))) (M.set k (.ins t' (putN f ns) (putW f u ns ws))) g := c.put hk h2 ⟨dx, us, by rw [upd_same, h5], h2, h6, h7⟩
          exact ⟨_, dx, _, _, rfl, h1, by rw [List.length_zip]; omega, c2, List.length_set, q _ g c2 ⟨Same.refl _, fun _ _ => rfl, by rw [List.length_set]; exact Nat.le_refl _⟩⟩
        · rw [if_neg ht] at q
          exact q.elim
      | _ => simp [q2, Res] at q
def sFld (t : Nat) (f : Str) (o v : ED) : SD := fun env M => sx env (v env M) fun u M1 => sx env (o env M1) fun w M2 => sx env (stow t f u w M2) fun _ M3 => .ok (.nx env) M3
theorem s_fld {t : Nat} (cl : Cls X.K (cA t)) (na : NoAttr X.K (cA t) f) (ho : PE X o (TED X.K cA Wx mo)) (hv : PE X value (TED X.K cA Wx mv)) (hs : swapsWith value (some (.Attribute o f pos')) pos.line X.env = pure false := by rfl) :
    PS X (.Assign [.Attribute o f pos'] value pos) (TSD X.K cA Wx (sFld t f mo mv)) := PS.imp (ps_fld ho hv hs) fun D σ H ⟨z, env, M, g, c, sl, q⟩ => by
  refine ⟨z, env, M, g, c, sl, Res.imp (fun u M1 g1 H1 c1 l1 q1 y ru => ?_) (sx_of q sl)⟩
  refine ⟨z, env, M1, g1, c1, sl.mono l1, Res.imp (fun w M2 g2 H2 c2 l2 q2 v rv => ?_) (sx_of q1 (sl.mono l1))⟩
  obtain ⟨a, dx, fs, M3, h1, h2, h3, h4, h5, h6⟩ := stow_at c2 rv (ru.mono l2) (sx_of q2 ((sl.mono l1).mono l2))
  refine ⟨a, cA t, dx, fs, h1, h2, cl, na, h3, h6 _ g2 h4 Le.refl σ ?_⟩
  rw [h5]
  exact (sl.mono l1).mono l2
/-- o.f += e, -= -/
def sFldAug (op : D → D → Option D) (t : Nat) (f : Str) (o v : ED) : SD := fun env M => sx env (o env M) fun w M1 => sx env (fldw [t] f w M1) fun u M2 => sx env (v env M2) fun y M3 => sx env (pu2 op u y M3) fun n M4 => sx env (stow t f n w M4) fun _ M5 => .ok (.nx env) M5
def dAddI : D → D → Option D
  | .int i, .int j => some (.int (i + j))
  | _, _ => none
theorem s_fldaug {t : Nat} {op : Operator} {rd : R2} {dop : D → D → Option D} (hop : InOp X op rd) (k : Ok2 X.K cA (pu2 dop) rd) (cl : Cls X.K (cA t)) (na : NoAttr X.K (cA t) f) (ho : PE X o (TED X.K cA Wx mo)) (hv : PE X value (TED X.K cA Wx mv)) :
    PS X (.AugAssign (.Attribute o f tpos) op value pos) (TSD X.K cA Wx (sFldAug dop t f mo mv)) := PS.imp (ps_fldaug ho hv hop) fun D σ H ⟨z, env, M, g, c, sl, q⟩ => by
  refine ⟨z, env, M, g, c, sl, Res.imp (fun w M1 g1 H1 c1 l1 q1 v rv => ?_) (sx_of q sl)⟩
  have sl1 := sl.mono l1
  obtain ⟨t', a, dx, fs, u, y, h1, h2, h3, h4, h5, h6⟩ := fldw_at c1 rv (sx_of q1 sl1)
  have ht : t' = t := by simpa using h3
  subst ht
  refine ⟨a, cA t', dx, fs, y, h1, h2, cl, na, h4, z, env, M1, g1, c1, sl1, Res.imp (fun u2 M3 g3 H3 c3 l3 q3 v3 rv3 => ?_) (sx_of h6 sl1)⟩
  have sl3 := sl1.mono l3
  refine k z g3 H3 M3 _ u u2 y v3 _ c3 (h5.mono l3) rv3 (Res.imp (fun n M4 g4 H4 c4 l4 q4 v4 rv4 => ?_) (sx_of q3 sl3))
  have sl4 := sl3.mono l4
  obtain ⟨a2, dx2, fs2, M5, k1, k2, k3, k4, k5, k6⟩ := stow_at c4 (rv.mono (l3.trans l4)) rv4 (sx_of q4 sl4)
  rw [h1] at k1
  cases k1
  refine ⟨dx2, fs2, k2, k3, k6 _ g4 k4 Le.refl σ ?_⟩
  rw [k5]
  exact sl4
theorem ok_addI {K : PySem.W.Frag} : Ok2 K cA (pu2 dAddI) L2.rAdd := ok2_pure fun F a b d x y H Q s ra rb e k => by
  cases a <;> cases b <;> simp only [dAddI] at e <;> first | cases e | skip
  exact ⟨_, _, ra, rb, k _ rfl⟩
theorem ok_subI {K : PySem.W.Frag} : Ok2 K cA (pu2 dSub) L2.rSub := ok2_pure fun F a b d x y H Q s ra rb e k => by
  cases a <;> cases b <;> simp only [dSub] at e <;> first | cases e | skip
  exact ⟨_, _, ra, rb, k _ rfl⟩

/-! ### lists that change -/
/-- a list of the store, written -/
theorem Cf.lst {K : PySem.W.Frag} {z : Z0} {g : Gh} {H : Hp} {M : Sto} (c : Cf K cA z H M g) {k : Nat} {ws us : List Wv} {ys : List V} (e : M[k]? = some (.lst ws)) (r : Paired (RW K cA g M.length) us ys) (hz : us.length ≤ sizeLine) :
    Cf K cA z (upd H (g.ad k) (.lst ys)) (M.set k (.lst us)) g ∧ Le g M.length g (M.set k (.lst us)).length := by
  obtain ⟨vs, h1, h2, h3, h4⟩ := c.sto k _ e
  exact ⟨c.put (List.getElem?_eq_some_iff.mp e).1 h2 ⟨ys, upd_same, h2, hz, r⟩, ⟨Same.refl _, fun _ _ => rfl, by rw [List.length_set]; exact Nat.le_refl _⟩⟩
def lstAt (w : Wv) (M : Sto) : Option (Nat × List Wv) := match w with
  | .m k => match M[k]? with
    | some (.lst ws) => some (k, ws)
    | _ => none
  | _ => none
theorem lstAt_some {w : Wv} {M : Sto} {k : Nat} {ws : List Wv} (e : lstAt w M = some (k, ws)) : w = .m k ∧ M[k]? = some (.lst ws) := by
  cases w with
  | d _ => cases e
  | m j =>
    simp only [lstAt] at e
    cases q : M[j]? with
    | none => simp [q] at e
    | some mo =>
      cases mo with
      | lst us =>
        simp only [q, Option.some.injEq, Prod.mk.injEq] at e
        obtain ⟨rfl, rfl⟩ := e
        exact ⟨rfl, q⟩
      | _ => simp [q] at e
theorem lstAt_ty {K : PySem.W.Frag} {z : Z0} {g : Gh} {H : Hp} {M : Sto} (c : Cf K cA z H M g) {w : Wv} {v : V} {p : Nat × List Wv} (r : RW K cA g M.length w v) (e : lstAt w M = some p) : tyV K "list" v H := by
  obtain ⟨k, ws⟩ := p
  obtain ⟨rfl, h⟩ := lstAt_some e
  obtain ⟨hk, rfl⟩ := r
  obtain ⟨vs, h1, _⟩ := c.sto k _ h
  exact .inl ⟨rfl, _, SqL.of h1⟩
/-- a method of a list of the store -/
def eLM (f : List Wv → List Wv → Option (Wv × List Wv)) (o : ED) (a : AD) : ED := fun env M => (o env M).bind fun w M1 => match lstAt w M1 with
  | none => .no
  | some _ => (a env M1).bind fun us M2 => match lstAt w M2 with
    | none => .no
    | some (k, ws) => match f ws us with
      | some (r, ws') => if ws'.length ≤ sizeLine then .ok r (M2.set k (.lst ws')) else .no
      | none => .no
def LMok (K : PySem.W.Frag) (cA : CA) (f : List Wv → List Wv → Option (Wv × List Wv)) (r : V → List V → Hp → VK → Prop) : Prop := ∀ (g : Gh) (n : Nat) (H : Hp) (Q : VK) (a : Addr) (ws us : List Wv) (vs xs : List V) (w : Wv) (ws' : List Wv), Paired (RW K cA g n) ws vs → Paired (RW K cA g n) us xs → H a = some (.lst vs) → f ws us = some (w, ws') → ws'.length ≤ sizeLine →
  (∀ v vs', RW K cA g n w v → Paired (RW K cA g n) ws' vs' → Q v (upd H a (.lst vs'))) → r (.ref a) xs H Q
theorem ted_lm {lf : List Wv → List Wv → Option (Wv × List Wv)} {r : V → List V → Hp → VK → Prop} (k : LMok X.K cA lf r) {σ : St} {H : Hp} {Q : VK} (h : TED X.K cA Wx (eLM lf mo mr) σ H Q) : tBM X.K "list" r (TED X.K cA Wx mo) (TAD X.K cA Wx mr) σ H Q := by
  obtain ⟨z, env, M, g, c, sl, q⟩ := h
  refine ⟨z, env, M, g, c, sl, Res.imp (fun w M1 g1 H1 c1 l1 q1 v rv => ?_) q.of_bind⟩
  cases e1 : lstAt w M1 with
  | none => simp [e1, Res] at q1
  | some p1 =>
    simp only [e1] at q1
    refine ⟨lstAt_ty c1 rv e1, z, env, M1, g1, c1, sl.mono l1, Res.imp (fun us M2 g2 H2 c2 l2 q2 xs rxs => ?_) q1.of_bind⟩
    cases e2 : lstAt w M2 with
    | none => simp [e2, Res] at q2
    | some p2 =>
      obtain ⟨kk, ws⟩ := p2
      simp only [e2] at q2
      cases e3 : lf ws us with
      | none => simp [e3, Res] at q2
      | some p3 =>
        obtain ⟨rr, ws'⟩ := p3
        simp only [e3] at q2
        by_cases hz : ws'.length ≤ sizeLine
        · rw [if_pos hz] at q2
          obtain ⟨rfl, hM⟩ := lstAt_some e2
          have rv2 := rv.mono l2
          obtain ⟨hk, rfl⟩ := rv2
          obtain ⟨vs, h1, h2, h3, h4⟩ := c2.sto kk _ hM
          refine k g2 M2.length H2 Q _ ws us vs xs rr ws' h4 rxs h1 e3 hz fun v vs' r1 r2 => ?_
          obtain ⟨c3, l3⟩ := c2.lst hM r2 hz
          exact q2 _ g2 c3 l3 v (r1.mono l3)
        · rw [if_neg hz] at q2
          exact q2.elim
def lApp : List Wv → List Wv → Option (Wv × List Wv) := fun ws us => match us with
  | [u] => some (.d .non, ws ++ [u])
  | _ => none
def lPop : List Wv → List Wv → Option (Wv × List Wv) := fun ws us => match us with
  | [] => (ws[ws.length - 1]?).map fun w => (w, ws.dropLast)
  | _ => none
def lPopAt : List Wv → List Wv → Option (Wv × List Wv) := fun ws us => match us with
  | [.d (.int i)] => if shut 1 (decide (-(2 ^ 63) ≤ i ∧ i < 2 ^ 63)) = true then (seqIndex? i ws.length).bind fun k => (ws[k]?).map fun w => (w, ws.eraseIdx k) else none
  | _ => none
theorem dropLast_paired {α β : Type} {P : α → β → Prop} : ∀ {l : List α} {r : List β}, Paired P l r → Paired P l.dropLast r.dropLast
  | _, _, .nil => .nil
  | _, _, .cons _ .nil => .nil
  | _, _, .cons h (.cons h2 t) => by
    rw [List.dropLast_cons₂, List.dropLast_cons₂]
    exact .cons h (dropLast_paired (.cons h2 t))
theorem ok_append {K : PySem.W.Frag} : LMok K cA lApp rAppend := by
  intro g n H Q a ws us vs xs w ws' r1 r2 h e hz q
  match us, r2, e with
  | [u], .cons (b := y) ru .nil, e =>
    cases (Option.some.inj e)
    refine ⟨a, vs, _, rfl, rfl, h, ?_, q .non _ rfl (Paired.append' r1 (.cons ru .nil))⟩
    rw [List.length_append, List.length_singleton, show ws.length = vs.length from r1.length] at hz
    exact hz
theorem ok_pop {K : PySem.W.Frag} : LMok K cA lPop rPop := by
  intro g n H Q a ws us vs xs w ws' r1 r2 h e hz q
  match us, r2, e with
  | [], .nil, e =>
    simp only [lPop] at e
    cases q2 : ws[ws.length - 1]? with
    | none => simp [q2] at e
    | some u =>
      simp only [q2, Option.map_some, Option.some.injEq, Prod.mk.injEq] at e
      obtain ⟨rfl, rfl⟩ := e
      obtain ⟨y, h1, h2⟩ := Paired.get' r1 q2
      exact ⟨a, vs, y, rfl, rfl, h, by rw [← show ws.length = vs.length from r1.length]; exact h1, q y _ h2 (dropLast_paired r1)⟩
theorem ok_popAt {K : PySem.W.Frag} : LMok K cA lPopAt rPopAt := by
  intro g n H Q a ws us vs xs w ws' r1 r2 h e hz q
  match us, r2, e with
  | [.d (.int i)], .cons ri .nil, e =>
    simp only [lPopAt, shut_eq] at e
    by_cases hi : decide (-(2 ^ 63) ≤ i ∧ i < 2 ^ 63) = true
    · rw [if_pos hi] at e
      obtain ⟨b1, b2⟩ := of_decide_eq_true hi
      cases q1 : seqIndex? i ws.length with
      | none => simp [q1] at e
      | some k =>
        cases q2 : ws[k]? with
        | none => simp [q1, q2] at e
        | some u =>
          simp only [q1, q2, Option.bind_some, Option.map_some, Option.some.injEq, Prod.mk.injEq] at e
          obtain ⟨rfl, rfl⟩ := e
          obtain ⟨y, h1, h2⟩ := Paired.get' r1 q2
          exact ⟨a, vs, i, k, y, rfl, by rw [show _ = V.int i from ri], h, b1, b2, by rw [← show ws.length = vs.length from r1.length]; exact q1, h1, q y _ h2 (Paired.eraseIdx' k r1)⟩
    · rw [if_neg hi] at e
      cases e
theorem d_append (ho : PE X o (TED X.K cA Wx mo)) (ha : PA X (e :: es) (TAD X.K cA Wx mr)) (h : PE X (.Call (.Attribute o "append" apos) (e :: es) [] pos) (tBM X.K "list" rAppend (TED X.K cA Wx mo) (TAD X.K cA Wx mr))) :
    PE X (.Call (.Attribute o "append" apos) (e :: es) [] pos) (TED X.K cA Wx (eLM lApp mo mr)) := PE.imp h fun σ H Q q => ted_lm ok_append q
theorem d_popAt (h : PE X (.Call (.Attribute o "pop" apos) (e :: es) [] pos) (tBM X.K "list" rPopAt (TED X.K cA Wx mo) (TAD X.K cA Wx mr))) :
    PE X (.Call (.Attribute o "pop" apos) (e :: es) [] pos) (TED X.K cA Wx (eLM lPopAt mo mr)) := PE.imp h fun σ H Q q => ted_lm ok_popAt q
theorem d_pop (h : PE X (.Call (.Attribute o "pop" apos) [] [] pos) (tBM0 X.K "list" rPop (TED X.K cA Wx mo))) : PE X (.Call (.Attribute o "pop" apos) [] [] pos) (TED X.K cA Wx (eLM lPop mo aNil)) := PE.imp h fun σ H Q q => by
  have q2 := ted_lm (X := X) (Wx := Wx) ok_pop q
  obtain ⟨z, env, M, g, cc, sl, q⟩ := q2
  exact ⟨z, env, M, g, cc, sl, Res.imp (fun w M1 g1 H1 c1 l1 q1 v rv => ⟨(q1 v rv).1, tad_nil (σ := σ) (H := H1) (Q := fun xs H2 => rPop v xs H2 Q) (q1 v rv).2⟩) q⟩
/-- extend by a list -/
def eExt (o a : ED) : ED := fun env M => (o env M).bind fun w M1 => match lstAt w M1 with
  | none => .no
  | some _ => (a env M1).bind fun u M2 => match lstAt w M2, seqw M2 u with
    | some (k, ws), some (true, us) => if ws.length + us.length ≤ sizeLine then .ok (.d .non) (M2.set k (.lst (ws ++ us))) else .no
    | _, _ => .no
/-- a list, tracked -/
theorem seqw_lst_at {K : PySem.W.Frag} {z : Z0} {g : Gh} {H : Hp} {M : Sto} (c : Cf K cA z H M g) {w : Wv} {v : V} {us : List Wv} (r : RW K cA g M.length w v) (e : seqw M w = some (true, us)) (hs : ∀ l, nw M w ≠ .d (.scr l)) : ∃ a vs, v = .ref a ∧ H a = some (.lst vs) ∧ Paired (RW K cA g M.length) us vs := by
  have r' := rw_nw c r
  cases q : nw M w with
  | m k =>
    rw [q] at r'
    simp only [seqw, q] at e
    cases q2 : M[k]? with
    | none => simp [q2] at e
    | some mo =>
      cases mo with
      | lst ws =>
        simp only [q2, Option.some.injEq, Prod.mk.injEq] at e
        obtain ⟨_, rfl⟩ := e
        obtain ⟨vs, h1, h2, h3, h4⟩ := c.sto k _ q2
        exact ⟨_, vs, r'.2, h1, h4⟩
      | _ => simp [q2] at e
  | d x =>
    rw [q] at r'
    simp only [seqw, q] at e
    cases x <;> simp only [Option.some.injEq, Prod.mk.injEq, reduceCtorEq, Bool.false_eq_true, false_and, true_and] at e
    · subst e
      obtain ⟨a, vs, rfl, h1, h2, h3⟩ := r'
      exact ⟨a, vs, rfl, c.sub _ _ h1, h3.wd rfl⟩
    · exact absurd q (hs _)
/-- xs[i] = e -/
def tgS (o i : ED) : GD := fun w env M => (nx (o env M)).bind fun wo M1 => (nx (i env M1)).bind fun wi M2 => match wi with
  | .d (.int j) => match lstAt wo M2 with
    | some (k, ws) => match ixN ws.length j with
      | some n => .ok env (M2.set k (.lst (ws.set n w)))
      | none => .no
    | none => .no
  | _ => .no
theorem set_len {α : Type} (l : List α) (i : Nat) (a : α) : (l.set i a).length = l.length := List.length_set
theorem g_sub (h : ∀ {to ti : TE}, PE X o to → PE X a ti → PG X (.Subscript o a pos) (gSub to ti rSetL)) (ho : ∀ W, Takes X W → PE X o (TED X.K cA W mo)) (hi : ∀ W, Takes X W → PE X a (TED X.K cA W ma)) (h0 : Takes X W0) :
    PG X (.Subscript o a pos) (TGD X.K cA (tgS mo ma)) := PG.imp (h (ho W0 h0) (hi W0 h0)) fun v σ H Q ⟨z, env, M, g, w, c, sl, rw1, q⟩ => by
  refine ⟨z, env, M, g, c, sl, Res.imp (fun wo M1 g1 H1 c1 l1 q1 x rx => ?_) (q.of_bind.nx')⟩
  refine ⟨z, env, M1, g1, c1, sl.mono l1, Res.imp (fun wi M2 g2 H2 c2 l2 q2 y ry => ?_) (q1.of_bind.nx')⟩
  cases wi with
  | m _ => exact q2.elim
  | d d =>
    cases d with
    | int j =>
      cases (show y = .int j from ry)
      simp only at q2
      cases e : lstAt wo M2 with
      | none => simp [e, Res] at q2
      | some p =>
        obtain ⟨k, ws⟩ := p
        simp only [e] at q2
        cases e2 : ixN ws.length j with
        | none => simp [e2, Res] at q2
        | some n =>
          simp only [e2] at q2
          obtain ⟨rfl, hM⟩ := lstAt_some e
          have rx2 := rx.mono l2
          obtain ⟨hk, rfl⟩ := rx2
          obtain ⟨vs, h1, h2, h3, h4⟩ := c2.sto k _ hM
          obtain ⟨c3, l3⟩ := c2.lst (us := ws.set n w) (ys := vs.set n v) hM (Paired.set' (rw1.mono (l1.trans l2)) n h4) (by rw [List.length_set]; exact h3)
          exact ⟨_, vs, j, n, rfl, rfl, h1, by rw [← show ws.length = vs.length from h4.length]; exact e2, q2 _ g2 c3 l3 σ (((sl.mono l1).mono l2).mono l3)⟩
    | _ => exact q2.elim
end
end DL

/-! Layer D: texts, slices, in, isinstance, sorted, dicts. -/
namespace DL
open PySem PySem.Spec PyProof.Rows L2

theorem RepL.strs {K : PySem.W.Frag} {cA : CA} {F : Hp} : ∀ l : List Str, RepL K cA F (l.map .str) (l.map V.str)
  | [] => rfl
  | x :: l => ⟨_, _, rfl, rfl, RepL.strs l⟩
theorem RepL.ints {K : PySem.W.Frag} {cA : CA} {F : Hp} : ∀ l : List Int, RepL K cA F (l.map .int) (l.map V.int)
  | [] => rfl
  | x :: l => ⟨_, _, rfl, rfl, RepL.ints l⟩
section
variable {X : Cx} {cA : CA} {Wx : WX} {a b c e o value : Expr} {es : List Expr} {ma mb mo mv : ED} {mr : AD} {ta : TD} {f x m : Str} {p pos apos tpos pos' p2 : Pos} {ts : List Nat}

/-! ### texts -/
theorem nd_str {K : PySem.W.Frag} {z : Z0} {g : Gh} {H : Hp} {M : Sto} (c : Cf K cA z H M g) {w : Wv} {v : V} {s : Str} (r : RW K cA g M.length w v) (e : nd M w = some (.str s)) : v = .str s := nd_rep c r e
/-- s.m(e), of a text -/
def eS1 (f : Str → Wv → Sto → Rs Wv) (o a : ED) : ED := fun env M => (o env M).bind fun w M1 => match nd M1 w with
  | some (.str s) => (a env M1).bind fun u M2 => f s u M2
  | _ => .no
def eS0 (f : Str → Option D) (o : ED) : ED := fun env M => (o env M).bind fun w M1 => match nd M1 w with
  | some (.str s) => rsd M1 (f s)
  | _ => .no
def S1ok (K : PySem.W.Frag) (cA : CA) (f : Str → Wv → Sto → Rs Wv) (r : V → List V → Hp → VK → Prop) : Prop := ∀ s, Ok1 K cA (f s) fun y H Q => r (.str s) [y] H Q
theorem ted_s1 {f : Str → Wv → Sto → Rs Wv} {r : V → List V → Hp → VK → Prop} (k : S1ok X.K cA f r) {σ : St} {H : Hp} {Q : VK} (h : TED X.K cA Wx (eS1 f mo ma) σ H Q) : tM1 r (TED X.K cA Wx mo) (TED X.K cA Wx ma) σ H Q := by
  obtain ⟨z, env, M, g, c, sl, q⟩ := h
  refine ⟨z, env, M, g, c, sl, Res.imp (fun w M1 g1 H1 c1 l1 q1 v rv => ?_) q.of_bind⟩
  cases e1 : nd M1 w with
  | none => simp [e1, Res] at q1
  | some d =>
    cases d with
    | str s =>
      simp only [e1] at q1
      have ev := nd_str c1 rv e1
      subst ev
      exact ⟨⟨s, rfl⟩, z, env, M1, g1, c1, sl.mono l1, Res.imp (fun u M2 g2 H2 c2 l2 q2 y ry => k s z g2 H2 M2 _ u y Q c2 ry q2) q1.of_bind⟩
    | _ => simp [e1, Res] at q1
def splitw (a : Str) (u : Wv) (M : Sto) : Rs Wv := match nd M u with
  | some (.str b) => if (b.length == 0) = false ∧ a.length + 2 ≤ sizeLine ∧ (Txt.split a b).length ≤ sizeLine then .ok (.d (.lst ((Txt.split a b).map .str))) M else .no
  | _ => .no
theorem ok_split {K : PySem.W.Frag} : S1ok K cA splitw (fun x xs H Q => ∃ a b, x = .str a ∧ xs = [.str b] ∧ (b.length == 0) = false ∧ a.length + 2 ≤ sizeLine ∧ rNewStrs (Txt.split a b) H Q) := by
  intro s z g H M E wx x Q c rx q
  unfold splitw at q
  cases e : nd M wx with
  | none => simp [e, Res] at q
  | some d =>
    cases d with
    | str b =>
      simp only [e] at q
      by_cases hz : (b.length == 0) = false ∧ s.length + 2 ≤ sizeLine ∧ (Txt.split s b).length ≤ sizeLine
      · rw [if_pos hz] at q
        refine ⟨s, b, rfl, by rw [nd_str c rx e], hz.1, hz.2.1, fun p hp => ?_⟩
        exact c.ans q hp ⟨p, _, rfl, upd_same, by rw [List.length_map]; exact hz.2.2, RepL.strs _⟩
      · rw [if_neg hz] at q
        exact q.elim
    | _ => simp [e, Res] at q
theorem d_split (ho : PE X o (TED X.K cA Wx mo)) (he : PE X e (TED X.K cA Wx ma)) (hs : starEach [e] X.env = [(false, eval e X.env)] := by rfl) (hbase : attributeBase o "split" X.env (eval o X.env) = eval o X.env := by rfl) (hline : (apos.endLine == pos.line) = true := by rfl) :
    PE X (.Call (.Attribute o "split" apos) [e] [] pos) (TED X.K cA Wx (eS1 splitw mo ma)) := PE.imp (pe_split ho he hs hbase hline) fun σ H Q h => ted_s1 ok_split h
def joinw (a : Str) (u : Wv) (M : Sto) : Rs Wv := match seqw M u with
  | some (_, ws) => match (nds M ws).bind strsOf with
    | some ys => if (ys.map (·.length)).sum + ys.length * a.length ≤ 16777216 then .ok (.d (.str (Txt.join a ys))) M else .no
    | none => .no
  | none => .no
theorem ok_join {K : PySem.W.Frag} : S1ok K cA joinw (fun x xs H Q => ∃ a p, ∃ ys : List Str, x = .str a ∧ xs = [.ref p] ∧ (SqL K H p (ys.map V.str) ∨ SqT K H p (ys.map V.str)) ∧ (ys.map (·.length)).sum + ys.length * a.length ≤ 16777216 ∧ Q (.str (Txt.join a ys)) H) := by
  intro s z g H M E wx x Q c rx q
  unfold joinw at q
  cases e : seqw M wx with
  | none => simp [e, Res] at q
  | some pp =>
    obtain ⟨bb, ws⟩ := pp
    simp only [e] at q
    cases e2 : nds M ws with
    | none => simp [e2, Res] at q
    | some l =>
      cases e3 : strsOf l with
      | none => simp [e2, e3, Res] at q
      | some ys =>
        simp only [e2, e3, Option.bind_some] at q
        by_cases hz : (ys.map (·.length)).sum + ys.length * s.length ≤ 16777216
        · rw [if_pos hz] at q
          obtain ⟨a, vs, rfl, h1, h2, h3⟩ := seqw_or c rx e
          have ev := strsOf_rep (nds_rep c h3 e2) e3
          subst ev
          exact ⟨s, a, ys, rfl, rfl, h1, hz, q H g c Le.refl _ rfl⟩
        · rw [if_neg hz] at q
          exact q.elim
theorem d_join (ho : PE X o (TED X.K cA Wx mo)) (he : PE X e (TED X.K cA Wx ma)) (hs : starEach [e] X.env = [(false, eval e X.env)] := by rfl) (hbase : attributeBase o "join" X.env (eval o X.env) = eval o X.env := by rfl) (hline : (apos.endLine == pos.line) = true := by rfl) :
    PE X (.Call (.Attribute o "join" apos) [e] [] pos) (TED X.K cA Wx (eS1 joinw mo ma)) := PE.imp (pe_join ho he hs hbase hline) fun σ H Q h => ted_s1 ok_join h
def upperS (a : Str) : Option D := if a.length ≤ 5592405 then some (.str (Txt.upper a)) else none
theorem d_upper (ho : PE X o (TED X.K cA Wx mo)) (hbase : attributeBase o "upper" X.env (eval o X.env) = eval o X.env := by rfl) (hline : (apos.endLine == pos.line) = true := by rfl) :
    PE X (.Call (.Attribute o "upper" apos) [] [] pos) (TED X.K cA Wx (eS0 upperS mo)) := PE.imp (pe_upper ho hbase hline) fun σ H Q ⟨z, env, M, g, c, sl, q⟩ => by
  refine ⟨z, env, M, g, c, sl, Res.imp (fun w M1 g1 H1 c1 l1 q1 v rv => ?_) q.of_bind⟩
  cases e1 : nd M1 w with
  | none => simp [e1, Res] at q1
  | some d =>
    cases d with
    | str s =>
      simp only [e1, upperS] at q1
      have ev := nd_str c1 rv e1
      subst ev
      by_cases hz : s.length ≤ 5592405
      · rw [if_pos hz] at q1
        exact ⟨⟨s, rfl⟩, s, rfl, rfl, hz, q1 H1 g1 c1 Le.refl _ rfl⟩
      · rw [if_neg hz] at q1
        exact q1.elim
    | _ => simp [e1, Res] at q1
/-- str(x) -/
def rStrD : List V → Hp → VK → Prop := fun xs H Q => (∃ i, xs = [.int i] ∧ i.natAbs.log2 < 1920 ∧ Q (.str (toString i)) H) ∨ ∃ a, xs = [.str a] ∧ Q (.str a) H
theorem cr_strD : CallR X (.type "str") rStrD := callOr call_str_int SkE.call_str_str
theorem ok_str {K : PySem.W.Frag} : OkL K cA (f1 (pu1 dStr)) rStrD := okL1 (ok1_pure fun F a d x H Q s ra e k => by
  cases a <;> simp only [dStr] at e <;> first | cases e | skip
  · rename_i i
    by_cases hz : i.natAbs.log2 < 1920
    · rw [if_pos hz] at e
      cases e
      exact .inl ⟨i, by rw [show x = V.int _ from ra], hz, k _ rfl⟩
    · rw [if_neg hz] at e
      cases e
  · exact .inr ⟨_, by rw [show x = V.str _ from ra], k _ rfl⟩)
theorem d_tostr (hm : X.mg "str" = none) (ha : PA X (e :: es) (TAD X.K cA Wx mr)) (hg : Gl X "str" := by rfl) (he : starEach (e :: es) X.env = (false, eval e X.env) :: starEach es X.env := by rfl) (hpl : (backTo pos (starEach es X.env)).any (·.1) = false := by rfl) :
    PE X (.Call (.Name "str" p) (e :: es) [] pos) (TED X.K cA Wx (eL (f1 (pu1 dStr)) mr)) := d_callT ok_str cr_strD hm ha hg (by decide +kernel) (by decide) (by decide) he hpl

/-! ### a star in a display -/
def aStar (a : ED) (r : AD) : AD := fun env M => (a env M).bind fun w M1 => match seqw M1 w with
  | some (_, us) => (r env M1).bind fun ws M2 => .ok (us ++ ws) M2
  | none => .no
theorem a_star {sp : Pos} (ha : PE X a (TED X.K cA Wx ma)) (hr : PA X es (TAD X.K cA Wx mr)) (hs : starEach (.Starred a sp :: es) X.env = (true, eval a X.env) :: starEach es X.env := by rfl) : PA X (.Starred a sp :: es) (TAD X.K cA Wx (aStar ma mr)) :=
  PA.imp (StX.pa_star ha hr hs) fun σ H Q ⟨z, env, M, g, c, sl, q⟩ => by
    refine ⟨z, env, M, g, c, sl, Res.imp (fun w M1 g1 H1 c1 l1 q1 v rv => ?_) q.of_bind⟩
    cases e : seqw M1 w with
    | none => simp [e, Res] at q1
    | some pp =>
      obtain ⟨bb, us⟩ := pp
      simp only [e] at q1
      obtain ⟨a, vs, rfl, h1, h2, h3⟩ := seqw_or c1 rv e
      refine ⟨a, vs, rfl, h1.symm, z, env, M1, g1, c1, sl.mono l1, Res.imp (fun ws M2 g2 H2 c2 l2 q2 vs2 rvs => ?_) q1.of_bind⟩
      exact q2 H2 g2 c2 Le.refl _ (Paired.append' (RWs.mono l2 h3) rvs)

/-! ### slices -/
abbrev OD := Ev → Sto → Rs (Option Int)
def oNone : OD := fun _ M => .ok none M
def oSome (a : ED) : OD := fun env M => (a env M).bind fun w M1 => match w with
  | .d (.int i) => .ok (some i) M1
  | _ => .no
def TOD (K : PySem.W.Frag) (cA : CA) (Wx : WX) (m : OD) : TO := fun σ H Q => ∃ z env M g, Cf K cA z H M g ∧ Slots K cA g M.length env σ ∧ Res K cA z g M.length (EX K cA Wx σ) (m env M) fun w M' g' H' => Q w H'
theorem PO.imp {X : Cx} {e : Option Expr} {t t' : TO} (h : PO X e t) (i : ∀ σ H Q, t' σ H Q → t σ H Q) : PO X e t' := ⟨fun pins s σ H Q I q => h.run pins s σ H Q I (i σ H Q q)⟩
theorem o_none : PO X none (TOD X.K cA Wx oNone) := PO.imp po_none fun σ H Q ⟨z, env, M, g, c, sl, q⟩ => q H g c Le.refl
theorem o_some (ha : PE X a (TED X.K cA Wx ma)) : PO X (some a) (TOD X.K cA Wx (oSome ma)) := PO.imp (po_some ha) fun σ H Q ⟨z, env, M, g, c, sl, q⟩ => by
  refine ⟨z, env, M, g, c, sl, Res.imp (fun w M1 g1 H1 c1 l1 q1 v rv => ?_) q.of_bind⟩
  cases w with
  | m _ => exact q1.elim
  | d d =>
    cases d with
    | int i => exact ⟨i, rv, q1 H1 g1 c1 Le.refl⟩
    | _ => exact q1.elim
def cutL {α : Type} (xs : List α) (lo hi : Option Int) : List α := (xs.drop (HT.sIx xs.length 0 lo)).take (HT.sIx xs.length xs.length hi - HT.sIx xs.length 0 lo)
/-- a slice, frozen; of a list as a list to be changed -/
def slw (fr : Bool) (w : Wv) (lo hi : Option Int) (M : Sto) : Rs Wv := match seqw M w with
  | some (true, ws) => if fr = true then match nds M (cutL ws lo hi) with
      | some l => .ok (.d (.lst l)) M
      | none => .no
    else .ok (.m M.length) (M ++ [.lst (cutL ws lo hi)])
  | some (false, ws) => match nw M w, nds M (cutL ws lo hi) with
    | .d _, some l => .ok (.d (.tup l)) M
    | _, _ => .no
  | none => match nd M w with
    | some (.str s) => if s.length ≤ sizeLine then .ok (.d (.str (cutS s lo hi))) M else .no
    | _ => .no
def eSl (fr : Bool) (a : ED) (l h : OD) : ED := fun env M => (a env M).bind fun w M1 => (l env M1).bind fun lo M2 => (h env M2).bind fun hi M3 => slw fr w lo hi M3
theorem cutL_len {α : Type} (xs : List α) (lo hi : Option Int) : (cutL xs lo hi).length ≤ xs.length := by
  unfold cutL
  rw [List.length_take, List.length_drop]
  omega
theorem cut_paired {α : Type} {P : α → V → Prop} {l : List α} {r : List V} (lo hi : Option Int) (h : Paired P l r) : Paired P (cutL l lo hi) (cutV r lo hi) := by
  unfold cutL cutV
  rw [show l.length = r.length from h.length]
  exact Paired.take' _ (Paired.drop' _ h)
theorem cut_whole {α : Type} {xs : List α} {lo hi : Option Int} (h : HT.sIx xs.length 0 lo = 0 ∧ HT.sIx xs.length xs.length hi = xs.length) : cutL xs lo hi = xs := by
  unfold cutL
  rw [h.1, h.2]
  simp
theorem d_sl {lo hi : Option Expr} {ml mh : OD} {fr : Bool} (ha : PE X a (TED X.K cA Wx ma)) (hl : PO X lo (TOD X.K cA Wx ml)) (hh : PO X hi (TOD X.K cA Wx mh)) : PE X (.Subscript a (.Slice lo hi none p2) pos) (TED X.K cA Wx (eSl fr ma ml mh)) :=
  PE.imp (pe_slice (SlR.or (SlR.or sl_list sl_tupA) sl_str) ha hl hh) fun σ H Q ⟨z, env, M, g, c, sl, q⟩ => by
    refine ⟨z, env, M, g, c, sl, Res.imp (fun w M1 g1 H1 c1 l1 q1 v rv => ?_) q.of_bind⟩
    refine ⟨z, env, M1, g1, c1, sl.mono l1, Res.imp (fun lo M2 g2 H2 c2 l2 q2 => ?_) q1.of_bind⟩
    refine ⟨z, env, M2, g2, c2, (sl.mono l1).mono l2, Res.imp (fun hi M3 g3 H3 c3 l3 q3 => ?_) q2.of_bind⟩
    have rv3 := rv.mono (l2.trans l3)
    unfold slw at q3
    cases e : seqw M3 w with
    | none =>
      simp only [e] at q3
      cases e2 : nd M3 w with
      | none => simp [e2, Res] at q3
      | some d =>
        cases d with
        | str s =>
          simp only [e2] at q3
          by_cases hz : s.length ≤ sizeLine
          · rw [if_pos hz] at q3
            exact .inr ⟨s, nd_str c3 rv3 e2, hz, q3 H3 g3 c3 Le.refl _ rfl⟩
          · rw [if_neg hz] at q3
            exact q3.elim
        | _ => simp [e2, Res] at q3
    | some pp =>
      obtain ⟨bb, ws⟩ := pp
      obtain ⟨a, vs, rfl, h1, h2, h3⟩ := seqw_at c3 rv3 e
      have hcp := cut_paired lo hi h3
      have hlen : (cutV vs lo hi).length ≤ sizeLine := Nat.le_trans (cutL_len vs lo hi) h2
      cases bb with
      | true =>
        simp only [e] at q3
        refine .inl (.inl ⟨a, vs, rfl, by simpa using h1, fun p hp => ?_⟩)
        cases fr with
        | true =>
          simp only [if_true] at q3
          cases e2 : nds M3 (cutL ws lo hi) with
          | none => simp [e2, Res] at q3
          | some l =>
            simp only [e2] at q3
            have rl := nds_rep c3 hcp e2
            exact c3.ans q3 hp ⟨p, _, rfl, upd_same, hlen, rl.mono (Same.upd' (c3.sub.free hp))⟩
        | false =>
          simp only [Bool.false_eq_true, if_false] at q3
          exact c3.ansM hcp (by rw [show (cutL ws lo hi).length = _ from hcp.length]; exact hlen) q3 hp
      | false =>
        simp only [e] at q3
        cases e2 : nds M3 (cutL ws lo hi) with
        | none => simp [e2, Res] at q3
        | some l =>
          have rl := nds_rep c3 hcp e2
          have h1' : SqT X.K H3 a vs := by simpa using h1
          have r' := rw_nw c3 rv3
          cases e3 : nw M3 w with
          | m k => simp [e2, e3, Res] at q3
          | d d =>
            rw [e3] at r'
            simp only [e2, e3] at q3
            refine .inl (.inr ⟨a, vs, rfl, h1', fun hw => ?_, fun _ p hp => c3.ans q3 hp ⟨p, _, rfl, SqT.of upd_same, hlen, rl.mono (Same.upd' (c3.sub.free hp))⟩⟩)
            have hw2 : cutL ws lo hi = ws := cut_whole (by rw [show ws.length = vs.length from h3.length]; exact hw)
            rw [hw2] at e2
            refine q3 H3 g3 c3 Le.refl _ ?_
            simp only [seqw, e3] at e
            cases d with
            | tup l' =>
              simp only [Option.some.injEq, Prod.mk.injEq] at e
              obtain ⟨_, rfl⟩ := e
              rw [nds_d] at e2
              cases (Option.some.inj e2)
              exact r'
            | _ => simp at e

/-! ### in, not in -/
def flatD : D → Bool
  | .non => true
  | .bl _ => true
  | .int _ => true
  | .str _ => true
  | _ => false
/-- == of flat data -/
def eqF : D → D → Bool
  | .non, .non => true
  | .bl a, .bl b => a == b
  | .bl a, .int b => (if a then 1 else 0) == b
  | .int a, .bl b => a == (if b then 1 else 0)
  | .int a, .int b => a == b
  | .str a, .str b => a == b
  | _, _ => false
/-- x in a list or a tuple -/
def inD (x : D) (b : Bool) (l : List D) : Option Bool := if (flatD x && l.all flatD) = true then some (l.any fun y => eqF y x)
  else if b = true then match x.toP, D.toPs l with
    | some d, some ds => if SeqAt.shaped d && SeqAt.shaped (.list ds) then some (ds.any fun z => PyData.eqv z d) else none
    | _, _ => none
  else none
def inStr (c s : Str) : Bool := match c.cps.toList with
  | [x] => decide (x ∈ s.cps.toList)
  | _ => !(Builtin.Str.occurrences s c 0 s.length 1).isEmpty
def inB (w u : Wv) (M : Sto) : Option Bool := match nd M w with
  | none => none
  | some x => match seqw M u with
    | some (b, us) => (nds M us).bind fun l => inD x b l
    | none => match x, nd M u with
      | .str c, some (.str s) => some (inStr c s)
      | _, _ => none
def inw (neg : Bool) (w u : Wv) (M : Sto) : Rs Wv := match inB w u M with
  | some k => .ok (.d (.bl (neg != k))) M
  | none => .no
theorem flat_rep {K : PySem.W.Frag} {F : Hp} {x : D} {v : V} (h : flatD x = true) (r : Rep K cA F x v) : flatV v = true := by
  cases x with
  | non => cases (show v = .non from r); rfl
  | bl _ => cases (show v = .bl _ from r); rfl
  | int _ => cases (show v = .int _ from r); rfl
  | str _ => cases (show v = .str _ from r); rfl
  | _ => cases h
theorem eqF_rep {K : PySem.W.Frag} {F : Hp} {x y : D} {v u : V} (hx : flatD x = true) (hy : flatD y = true) (r : Rep K cA F x v) (s : Rep K cA F y u) : eqV u v = eqF y x := by
  cases x <;> first | (cases hx; done) | skip
  all_goals cases y <;> first | (cases hy; done) | skip
  all_goals (first | cases (show v = .non from r) | cases (show v = .bl _ from r) | cases (show v = .int _ from r) | cases (show v = .str _ from r))
  all_goals (first | cases (show u = .non from s) | cases (show u = .bl _ from s) | cases (show u = .int _ from s) | cases (show u = .str _ from s))
  all_goals rfl
theorem flats_rep {K : PySem.W.Frag} {F : Hp} : ∀ {l : List D} {vs : List V}, RepL K cA F l vs → l.all flatD = true → vs.all flatV = true
  | [], _, h, _ => by cases (show _ = [] from h); rfl
  | x :: l, _, h, q => by
    obtain ⟨v, r, rfl, h1, h2⟩ := h
    rw [List.all_cons, Bool.and_eq_true] at q ⊢
    exact ⟨flat_rep q.1 h1, flats_rep h2 q.2⟩
theorem any_rep {K : PySem.W.Frag} {F : Hp} {x : D} {v : V} (hx : flatD x = true) (r : Rep K cA F x v) : ∀ {l : List D} {vs : List V}, RepL K cA F l vs → l.all flatD = true → inV v vs = l.any fun y => eqF y x
  | [], _, h, _ => by cases (show _ = [] from h); rfl
  | y :: l, _, h, q => by
    obtain ⟨u, us, rfl, h1, h2⟩ := h
    rw [List.all_cons, Bool.and_eq_true] at q
    show (eqV u v || inV v us) = _
    rw [List.any_cons, eqF_rep hx q.1 r h1, any_rep hx r h2 q.2]
def rInAll (K : PySem.W.Frag) (neg : Bool) : R2 := fun x y H Q => ((rIn K neg x y H Q ∨ ∃ d ds, Dp K H x d ∧ Dp K H y (.list ds) ∧ SeqAt.shaped d = true ∧ SeqAt.shaped (.list ds) = true ∧ Q (.bl (neg != ds.any fun z => PyData.eqv z d)) H) ∨
  ∃ (c : Nat) (z : Str), x = .str ⟨#[c]⟩ ∧ y = .str z ∧ Q (.bl (neg != decide (c ∈ z.cps.toList))) H) ∨ ∃ i j, x = .str i ∧ y = .str j ∧ Q (.bl (neg != !(Builtin.Str.occurrences j i 0 j.length 1).isEmpty)) H
theorem op_inAll (hu : X.A.units + 65 < cLine) : OpR X (compareOp .In) (rInAll X.K false) := by
  intro pins s σ H x y v u Q I rx ry h
  rcases h with ((h | ⟨d, ds, h1, h2, h3, h4, q⟩) | ⟨c, z, h1, h2, q⟩) | ⟨i, j, h1, h2, q⟩
  · exact op_in_seq pins s σ H x y v u Q I rx ry h
  · exact op_inD hu pins s σ H x y v u Q I rx ry ⟨d, ds, h1, h2, h3, h4, by simpa using q⟩
  · exact op_in_sign pins s σ H x y v u Q I rx ry ⟨c, z, h1, h2, by simpa using q⟩
  · exact op_in_str pins s σ H x y v u Q I rx ry ⟨i, j, h1, h2, by simpa using q⟩
theorem op_notInAll (hu : X.A.units + 65 < cLine) : OpR X (compareOp .NotIn) (rInAll X.K true) := by
  intro pins s σ H x y v u Q I rx ry h
  rcases h with ((h | ⟨d, ds, h1, h2, h3, h4, q⟩) | ⟨c, z, h1, h2, q⟩) | ⟨i, j, h1, h2, q⟩
  · exact op_notIn_seq pins s σ H x y v u Q I rx ry h
  · exact op_notInD hu pins s σ H x y v u Q I rx ry ⟨d, ds, h1, h2, h3, h4, by simpa using q⟩
  · exact op_notIn_sign pins s σ H x y v u Q I rx ry ⟨c, z, h1, h2, by simpa using q⟩
  · exact op_notin_str pins s σ H x y v u Q I rx ry ⟨i, j, h1, h2, by simpa using q⟩
theorem ok_in {K : PySem.W.Frag} {neg : Bool} : Ok2 K cA (inw neg) (rInAll K neg) := by
  intro z g H M E wx wy x y Q c rx ry q
  unfold inw inB at q
  cases e : nd M wx with
  | none => simp [e, Res] at q
  | some d =>
    have rd := nd_rep c rx e
    simp only [e] at q
    cases e2 : seqw M wy with
    | some pp =>
      obtain ⟨b, us⟩ := pp
      simp only [e2] at q
      cases e3 : nds M us with
      | none => simp [e3, Res] at q
      | some l =>
        simp only [e3, Option.bind_some] at q
        obtain ⟨a, vs, rfl, h1, h2, h3⟩ := seqw_at c ry e2
        have rl := nds_rep c h3 e3
        unfold inD at q
        by_cases hfl : (flatD d && l.all flatD) = true
        · simp only [hfl, if_true] at q
          rw [Bool.and_eq_true] at hfl
          refine .inl (.inl (.inl ⟨a, vs, rfl, ?_, flat_rep hfl.1 rd, flats_rep rl hfl.2, ?_⟩))
          · cases b with
            | true => exact .inl (by simpa using h1)
            | false => exact .inr (by simpa using h1)
          · rw [any_rep hfl.1 rd rl hfl.2]
            have q2 := q H g c Le.refl _ rfl
            cases neg with
            | true => simpa using q2
            | false => simpa using q2
        · simp only [hfl, if_false, Bool.false_eq_true] at q
          cases b with
          | false => simp [Res] at q
          | true =>
            simp only [if_true] at q
            cases e4 : d.toP with
            | none => simp [e4, Res] at q
            | some pd =>
              cases e5 : D.toPs l with
              | none => simp [e4, e5, Res] at q
              | some pl =>
                simp only [e4, e5] at q
                by_cases hs : (SeqAt.shaped pd && SeqAt.shaped (.list pl)) = true
                · simp only [hs, if_true] at q
                  rw [Bool.and_eq_true] at hs
                  exact .inl (.inl (.inr ⟨pd, pl, toP_dp c.sub rd e4, .lst (by simpa using h1) (toPs_dp c.sub rl e5), hs.1, hs.2, q H g c Le.refl _ rfl⟩))
                · simp only [hs, if_false, Bool.false_eq_true] at q
                  exact q.elim
    | none =>
      simp only [e2] at q
      cases d with
      | str ch =>
        cases e3 : nd M wy with
        | none => simp [e3, Res] at q
        | some dy =>
          cases dy with
          | str s =>
            simp only [e3, inStr] at q
            have ex := nd_str c rx e
            have ey := nd_str c ry e3
            subst ex
            subst ey
            cases e4 : ch.cps.toList with
            | nil =>
              simp only [e4] at q
              exact .inr ⟨ch, s, rfl, rfl, q H g c Le.refl _ rfl⟩
            | cons c0 r =>
              cases r with
              | nil =>
                simp only [e4] at q
                have ec : ch = ⟨#[c0]⟩ := by
                  obtain ⟨arr⟩ := ch
                  have : arr = #[c0] := by
                    have h5 : arr.toList = [c0] := e4
                    rw [← Array.toArray_toList (xs := arr), h5]
                  rw [this]
                exact .inl (.inr ⟨c0, s, by rw [ec], rfl, q H g c Le.refl _ rfl⟩)
              | cons c1 r =>
                simp only [e4] at q
                exact .inr ⟨ch, s, rfl, rfl, q H g c Le.refl _ rfl⟩
          | _ => simp [e3, Res] at q
      | _ => simp [Res] at q
end
end DL

/-! Layer D: isinstance, dicts, sorted. -/
namespace DL
open PySem PySem.Spec PyProof.Rows L2

/-! ### isinstance -/
def tyv (cA : CA) : D → Value
  | .non => .type "NoneType" | .bl _ => .type "bool" | .int _ => .type "int" | .str _ => .type "str" | .tup _ => .type "tuple" | .lst _ => .type "list" | .scr _ => .type "list" | .dic _ _ => .type "dict" | .obj t _ _ => .ref (cA t) | .fn _ _ => .type "function"
structure InsF (K : PySem.W.Frag) (C : Addr) : Prop where
  cl : Cls K C
  ha : PySem.W.findIn K (.ref C) "__class__" = some (some (.builtin "object.__class__"))
  hn : PySem.W.specialIn K (.builtin "object.__class__") "__get__" = some (some (.builtin "getset_descriptor.__get__"))
  htk : PySem.W.takesIn K (.builtin "object.__class__") = some true
  hm : PySem.W.mroIn K C (.type "object") = some true
structure IsOk (K : PySem.W.Frag) (cA : CA) (u : Value) (tab : D → Option Bool) : Prop where
  kit : ∀ x b, tab x = some b → PySem.W.kitOne K (tyv cA x) u = some b
  ins : ∀ t ns l b, tab (.obj t ns l) = some b → InsF K (cA t)
def kdw (M : Sto) (w : Wv) : Option D := match nw M w with
  | .d (.fn _ _) => none
  | .d x => some x
  | .m k => match M[k]? with
    | some (.lst _) => some (.lst [])
    | some (.tup _) => some (.tup [])
    | some (.ins t ns _) => some (.obj t ns [])
    | some (.dic _ _) => some (.dic [] [])
    | _ => none
def isiw (tab : D → Option Bool) (w : Wv) (M : Sto) : Rs Wv := match (kdw M w).bind tab with
  | some b => .ok (.d (.bl b)) M
  | none => .no
section
variable {K : PySem.W.Frag} {cA : CA} {z : Z0} {g : Gh} {H : Hp} {M : Sto} {u : Value} {tab : D → Option Bool}
theorem kdw_ty (c : Cf K cA z H M g) {w : Wv} {v : V} {x : D} (r : RW K cA g M.length w v) (e : kdw M w = some x) (ins : ∀ t ns l, x = .obj t ns l → InsF K (cA t)) : TyX K H v (tyv cA x) := by
  have r' := rw_nw c r
  cases q : nw M w with
  | d d =>
    rw [q] at r'
    have e' : x = d := by
      cases d <;> (simp only [kdw, q, Option.some.injEq, reduceCtorEq] at e) <;> exact e.symm
    subst e'
    cases x with
    | fn t l => simp [kdw, q] at e
    | obj t ns l =>
      obtain ⟨a, dx, vs, rfl, h1, _, _⟩ := r'
      have f := ins t ns l rfl
      exact .base (.ins (c.sub _ _ h1) f.cl f.ha f.hn f.htk f.hm)
    | non => cases (show v = V.non from r'); exact .base .non
    | bl b => cases (show v = V.bl b from r'); exact .base (.bl b)
    | int b => cases (show v = V.int b from r'); exact .base (.int b)
    | str b => cases (show v = V.str b from r'); exact .base (.str b)
    | tup l =>
      obtain ⟨a, vs, rfl, h1, _, _⟩ := r'
      rcases h1 with (h | ⟨o, h⟩) | ⟨o, its, n, h, hc, _⟩
      · exact .base (.tup (c.sub _ _ h))
      · exact .fTuple (c.sub _ _ h)
      · exact .kTuple h hc
    | lst l =>
      obtain ⟨a, vs, rfl, h1, _, _⟩ := r'
      exact .base (.lst (c.sub _ _ h1))
    | scr l =>
      obtain ⟨a, vs, rfl, h1, _, _⟩ := r'
      rcases h1 with (h | ⟨o, h⟩) | ⟨o, its, n, h, hc, _⟩
      · exact .base (.lst (c.sub _ _ h))
      · exact .base (.frz (c.sub _ _ h))
      · exact .kList h hc
    | dic ks l =>
      obtain ⟨a, vs, rfl, h1, _, _⟩ := r'
      exact .base (.dK (c.sub _ _ h1))
  | m k =>
    rw [q] at r'
    obtain ⟨hk, rfl⟩ := r'
    simp only [kdw, q] at e
    cases q2 : M[k]? with
    | none => simp [q2] at e
    | some mo =>
      cases mo with
      | lst ws =>
        simp only [q2, Option.some.injEq] at e
        subst e
        obtain ⟨vs, h1, _⟩ := c.sto k _ q2
        exact .base (.lst h1)
      | tup ws =>
        simp only [q2, Option.some.injEq] at e
        subst e
        obtain ⟨vs, h1, _⟩ := c.sto k _ q2
        exact .base (.tup h1)
      | ins t ns ws =>
        simp only [q2, Option.some.injEq] at e
        subst e
        obtain ⟨dx, vs, h1, _⟩ := c.sto k _ q2
        have f := ins t ns [] rfl
        exact .base (.ins h1 f.cl f.ha f.hn f.htk f.hm)
      | dic ks ws =>
        simp only [q2, Option.some.injEq] at e
        subst e
        obtain ⟨vs, h1, _⟩ := c.sto k _ q2
        exact .base (.dK h1)
      | fz x => simp [q2] at e
end
section
variable {X : Cx} {cA : CA} {Wx : WX} {a b c e o value : Expr} {es : List Expr} {ma mb mo mv : ED} {mr : AD} {ta : TD} {f x m : Str} {p pos apos tpos pos' p2 : Pos} {tab : D → Option Bool} {u : Value} {cv : V}
theorem d_isi (hm : X.mg "isinstance" = none) (ha : PE X a (TED X.K cA Wx ma)) (hc : PE X c (tC cv)) (k : ClsV cv u) (ok : IsOk X.K cA u tab) (hg : Gl X "isinstance" := by rfl)
    (h1 : starEach (a :: [c]) X.env = (false, eval a X.env) :: starEach [c] X.env := by rfl) (h2 : starEach (c :: []) X.env = (false, eval c X.env) :: starEach [] X.env := by rfl) (hpl : (backTo pos (starEach [c] X.env)).any (·.1) = false := by rfl) :
    PE X (.Call (.Name "isinstance" p) [a, c] [] pos) (TED X.K cA Wx (e1 (isiw tab) ma)) := PE.imp (pe_callB call_isi hg hm (by decide +kernel) (pa_cons ha (pa_cons hc pa_nil h2) h1) (by decide) (by decide) h1 hpl) fun σ H Q ⟨z, env, M, g, cc, sl, q⟩ => by
  refine ⟨z, env, M, g, cc, sl, Res.imp (fun w M1 g1 H1 c1 l1 q1 v rv => ?_) q.of_bind⟩
  unfold isiw at q1
  cases e : kdw M1 w with
  | none => simp [e, Res] at q1
  | some d =>
    cases e2 : tab d with
    | none => simp [e, e2, Res] at q1
    | some bb =>
      simp only [e, e2, Option.bind_some] at q1
      exact ⟨v, cv, tyv cA d, u, bb, rfl, k, kdw_ty c1 rv e (fun t ns l ed => ok.ins t ns l bb (by rw [← ed]; exact e2)), ok.kit d bb e2, q1 H1 g1 c1 Le.refl _ rfl⟩
/-- the tables: a built-in class; an own class. ts: the own classes of which it is known -/
def isTb (f : D → Bool) (ts : List Nat) : D → Option Bool
  | .obj t _ _ => if ts.contains t = true then some false else none
  | x => some (f x)
def kTup : D → Bool | .tup _ => true | _ => false
def kLst : D → Bool | .lst _ => true | .scr _ => true | _ => false
def kBl : D → Bool | .bl _ => true | _ => false
def kInt : D → Bool | .int _ => true | .bl _ => true | _ => false
def kStr : D → Bool | .str _ => true | _ => false
def isOw (t0 : Nat) (ts : List Nat) : D → Option Bool
  | .obj t _ _ => if t = t0 then some true else if ts.contains t = true then some false else none
  | _ => some false
/-- what an own class must have: no built-in class is above it but object -/
structure OwnF (K : PySem.W.Frag) (C : Addr) : Prop extends InsF K C where
  kt : PySem.W.kitOne K (.ref C) (.type "tuple") = some false
  kl : PySem.W.kitOne K (.ref C) (.type "list") = some false
  kb : PySem.W.kitOne K (.ref C) (.type "bool") = some false
  ki : PySem.W.kitOne K (.ref C) (.type "int") = some false
  ks : PySem.W.kitOne K (.ref C) (.type "str") = some false
def OwnsF (K : PySem.W.Frag) (cA : CA) (ts : List Nat) : Prop := ∀ t ∈ ts, OwnF K (cA t)
theorem isTb_ok {K : PySem.W.Frag} {T : String} {f : D → Bool} {ts : List Nat} (h : OwnsF K cA ts) (hk : ∀ C, OwnF K C → PySem.W.kitOne K (.ref C) (.type T) = some false)
    (hb : ∀ x : D, (∀ t ns l, x ≠ .obj t ns l) → PySem.W.kitOne K (tyv cA x) (.type T) = some (f x)) : IsOk K cA (.type T) (isTb f ts) := by
  constructor
  · intro x b e
    cases x with
    | obj t ns l =>
      simp only [isTb] at e
      by_cases ht : ts.contains t = true
      · rw [if_pos ht] at e
        cases e
        exact hk _ (h t (by simpa using ht))
      · rw [if_neg ht] at e
        cases e
    | _ =>
      cases (Option.some.inj e)
      exact hb _ fun _ _ _ z => by cases z
  · intro t ns l b e
    simp only [isTb] at e
    by_cases ht : ts.contains t = true
    · exact (h t (by simpa using ht)).toInsF
    · rw [if_neg ht] at e
      cases e
theorem kitB_of {K : PySem.W.Frag} {a b : String} {r : Bool} (h : kitB a b = some r) : PySem.W.kitOne K (.type a) (.type b) = some r := h
theorem is_tup {K : PySem.W.Frag} {ts : List Nat} (h : OwnsF K cA ts) : IsOk K cA (.type "tuple") (isTb kTup ts) := isTb_ok h (fun _ o => o.kt) fun x hx => by
  cases x <;> first | exact absurd rfl (hx _ _ _) | exact kitB_of (show kitB _ _ = some false by decide +kernel) | exact kitB_of (show kitB _ _ = some true by decide +kernel)
theorem is_lst {K : PySem.W.Frag} {ts : List Nat} (h : OwnsF K cA ts) : IsOk K cA (.type "list") (isTb kLst ts) := isTb_ok h (fun _ o => o.kl) fun x hx => by
  cases x <;> first | exact absurd rfl (hx _ _ _) | exact kitB_of (show kitB _ _ = some false by decide +kernel) | exact kitB_of (show kitB _ _ = some true by decide +kernel)
theorem is_bl {K : PySem.W.Frag} {ts : List Nat} (h : OwnsF K cA ts) : IsOk K cA (.type "bool") (isTb kBl ts) := isTb_ok h (fun _ o => o.kb) fun x hx => by
  cases x <;> first | exact absurd rfl (hx _ _ _) | exact kitB_of (show kitB _ _ = some false by decide +kernel) | exact kitB_of (show kitB _ _ = some true by decide +kernel)
theorem is_int {K : PySem.W.Frag} {ts : List Nat} (h : OwnsF K cA ts) : IsOk K cA (.type "int") (isTb kInt ts) := isTb_ok h (fun _ o => o.ki) fun x hx => by
  cases x <;> first | exact absurd rfl (hx _ _ _) | exact kitB_of (show kitB _ _ = some false by decide +kernel) | exact kitB_of (show kitB _ _ = some true by decide +kernel)
theorem is_str {K : PySem.W.Frag} {ts : List Nat} (h : OwnsF K cA ts) : IsOk K cA (.type "str") (isTb kStr ts) := isTb_ok h (fun _ o => o.ks) fun x hx => by
  cases x <;> first | exact absurd rfl (hx _ _ _) | exact kitB_of (show kitB _ _ = some false by decide +kernel) | exact kitB_of (show kitB _ _ = some true by decide +kernel)
theorem owns_nil {K : PySem.W.Frag} : OwnsF K cA [] := fun _ h => by cases h
theorem owns_cons {K : PySem.W.Frag} {t : Nat} {ts : List Nat} (o : OwnF K (cA t)) (h : OwnsF K cA ts) : OwnsF K cA (t :: ts) := fun u hu => by
  rcases List.mem_cons.mp hu with e | e
  · rw [e]; exact o
  · exact h u e
/-- the class t0; no class of ts is under it -/
theorem is_own {K : PySem.W.Frag} {t0 : Nat} {ts : List Nat} (h0 : InsF K (cA t0)) (hb : ∀ x : D, (∀ t ns l, x ≠ .obj t ns l) → PySem.W.kitOne K (tyv cA x) (.ref (cA t0)) = some false) (hs : ∀ t ∈ ts, InsF K (cA t) ∧ PySem.W.kitOne K (.ref (cA t)) (.ref (cA t0)) = some false) :
    IsOk K cA (.ref (cA t0)) (isOw t0 ts) := by
  constructor
  · intro x b e
    cases x with
    | obj t ns l =>
      simp only [isOw] at e
      by_cases h1 : t = t0
      · rw [if_pos h1] at e
        cases e
        subst h1
        show PySem.W.kitOne K (.ref (cA t)) (.ref (cA t)) = some true
        unfold PySem.W.kitOne
        rw [if_pos (by simp)]
      · rw [if_neg h1] at e
        by_cases ht : ts.contains t = true
        · rw [if_pos ht] at e
          cases e
          exact (hs t (by simpa using ht)).2
        · rw [if_neg ht] at e
          cases e
    | _ =>
      cases (Option.some.inj e)
      exact hb _ fun _ _ _ z => by cases z
  · intro t ns l b e
    simp only [isOw] at e
    by_cases h1 : t = t0
    · rw [h1]
      exact h0
    · rw [if_neg h1] at e
      by_cases ht : ts.contains t = true
      · exact (hs t (by simpa using ht)).1
      · rw [if_neg ht] at e
        cases e

/-! ### dicts -/
def dicw (M : Sto) (w : Wv) : Option (List Key × List Wv) := match nw M w with
  | .d (.dic ks l) => some (ks, l.map .d)
  | .d _ => none
  | .m k => match M[k]? with
    | some (.dic ks ws) => some (ks, ws)
    | _ => none
def keyw (w : Wv) : Option Key := match w with
  | .d (.int i) => some (.inl i)
  | .d (.str s) => some (.inr s)
  | _ => none
def lookK {α : Type} (ks : List Key) (ws : List α) (k : Key) : Option α := match ks, ws with
  | k' :: ks, w :: ws => if k' = k then some w else lookK ks ws k
  | _, _ => none
theorem keyw_rep {K : PySem.W.Frag} {g : Gh} {n : Nat} {w : Wv} {v : V} {k : Key} (r : RW K cA g n w v) (e : keyw w = some k) : v = kV k := by
  cases w with
  | m _ => cases e
  | d d =>
    cases d <;> simp only [keyw] at e <;> first | cases e | skip
    · exact r
    · exact r
theorem lookK_val {α : Type} {P : α → V → Prop} {k : Key} : ∀ {ks : List Key} {ws : List α} {vs : List V}, ks.length = vs.length → Paired P ws vs → (match lookK ks ws k with
    | some w => ∃ v, valV (ks.zip vs) k = some v ∧ P w v
    | none => valV (ks.zip vs) k = none)
  | [], _, _, _, .nil => rfl
  | [], _, _, hl, .cons _ _ => by simp at hl
  | _ :: _, _, _, hl, .nil => by simp at hl
  | k' :: ks, w :: ws, v :: vs, hl, .cons h t => by
    by_cases hk : k' = k
    · subst hk
      simp only [lookK, if_true]
      exact ⟨v, by rw [List.zip_cons_cons]; exact valV_pos rfl, h⟩
    · simp only [lookK, hk, if_false]
      have ih := lookK_val (k := k) (by simpa using hl : ks.length = vs.length) t
      rw [List.zip_cons_cons, valV_neg hk]
      exact ih
theorem dicw_at {K : PySem.W.Frag} {z : Z0} {g : Gh} {H : Hp} {M : Sto} (c : Cf K cA z H M g) {w : Wv} {v : V} {ks : List Key} {ws : List Wv} (r : RW K cA g M.length w v) (e : dicw M w = some (ks, ws)) : ∃ a vs, v = .ref a ∧ H a = some (.dK (ks.zip vs)) ∧ ks.length = vs.length ∧ Paired (RW K cA g M.length) ws vs := by
  have r' := rw_nw c r
  cases q : nw M w with
  | d d =>
    rw [q] at r'
    simp only [dicw, q] at e
    cases d with
    | dic ks' l =>
      simp only [Option.some.injEq, Prod.mk.injEq] at e
      obtain ⟨rfl, rfl⟩ := e
      obtain ⟨a, vs, rfl, h1, h2, h3⟩ := r'
      exact ⟨a, vs, rfl, c.sub _ _ h1, h2, h3.wd rfl⟩
    | _ => simp at e
  | m k =>
    rw [q] at r'
    obtain ⟨hk, rfl⟩ := r'
    simp only [dicw, q] at e
    cases q2 : M[k]? with
    | none => simp [q2] at e
    | some mo =>
      cases mo with
      | dic ks' us =>
        simp only [q2, Option.some.injEq, Prod.mk.injEq] at e
        obtain ⟨rfl, rfl⟩ := e
        obtain ⟨vs, h1, h2, h3, h4⟩ := c.sto k _ q2
        exact ⟨_, vs, rfl, h1, h3, h4⟩
      | _ => simp [q2] at e
def dgetw (w u : Wv) (M : Sto) : Rs Wv := match dicw M w, keyw u with
  | some (ks, ws), some k => match lookK ks ws k with
    | some x => .ok x M
    | none => .no
  | _, _ => .no
theorem d_dget (hu : X.A.units + 1 < cLine) (ha : PE X a (TED X.K cA Wx ma)) (hb : PE X b (TED X.K cA Wx mb)) (hs : NoSl b := by intro _ _; rfl) : PE X (.Subscript a b pos) (TED X.K cA Wx (e2 dgetw ma mb)) := PE.imp (pe_dget hu ha hb hs) fun σ H Q ⟨z, env, M, g, c, sl, q⟩ => by
  refine ⟨z, env, M, g, c, sl, Res.imp (fun w M1 g1 H1 c1 l1 q1 v rv => ?_) q.of_bind⟩
  refine ⟨z, env, M1, g1, c1, sl.mono l1, Res.imp (fun u M2 g2 H2 c2 l2 q2 y ry => ?_) q1.of_bind⟩
  unfold dgetw at q2
  cases e1 : dicw M2 w with
  | none => simp [e1, Res] at q2
  | some pp =>
    obtain ⟨ks, ws⟩ := pp
    cases e2 : keyw u with
    | none => simp [e1, e2, Res] at q2
    | some k =>
      simp only [e1, e2] at q2
      obtain ⟨aa, vs, rfl, h1, h2, h3⟩ := dicw_at c2 (rv.mono l2) e1
      have hl := lookK_val (k := k) h2 h3
      cases e3 : lookK ks ws k with
      | none => simp [e3, Res] at q2
      | some x =>
        simp only [e3] at q2 hl
        obtain ⟨v, h4, h5⟩ := hl
        exact ⟨aa, v, rfl, by rw [keyw_rep ry e2, ← h4]; exact DGet.k h1, q2 H2 g2 c2 Le.refl v h5⟩
/-- {k: v, ..} with written keys -/
def evPairs : List (ED × ED) → Ev → Sto → Rs (List Wv × List Wv)
  | [], _, M => .ok ([], []) M
  | (mk, mv) :: r, env, M => (mk env M).bind fun k M1 => (mv env M1).bind fun v M2 => (evPairs r env M2).bind fun p M3 => .ok (k :: p.1, v :: p.2) M3
def keysw : List Wv → Option (List Key)
  | [] => some []
  | w :: ws => match keyw w, keysw ws with
    | some k, some l => some (k :: l)
    | _, _ => none
def eDisp (prs : List (ED × ED)) : ED := fun env M => (evPairs prs env M).bind fun p M1 => match keysw p.1, nds M1 p.2 with
  | some ks, some l => if ks.Nodup ∧ ks.length ≤ 15 ∧ ks.length = l.length then .ok (.d (.dic ks l)) M1 else .no
  | _, _ => .no
theorem ted_pairs {z : Z0} {σ : St} {env : Ev} : ∀ {prs : List (ED × ED)} {H : Hp} {M : Sto} {g : Gh} {P : List Wv × List Wv → Sto → Gh → Hp → Prop} {Q : List (V × V) → Hp → Prop}, Cf X.K cA z H M g → Slots X.K cA g M.length env σ → Res X.K cA z g M.length (EX X.K cA Wx σ) (evPairs prs env M) P →
    (∀ p M' g' H' ks vs, Cf X.K cA z H' M' g' → Le g M.length g' M'.length → P p M' g' H' → Paired (RW X.K cA g' M'.length) p.1 ks → Paired (RW X.K cA g' M'.length) p.2 vs → Q (ks.zip vs) H') → tPairs (prs.map fun p => (TED X.K cA Wx p.1, TED X.K cA Wx p.2)) σ H Q
  | [], H, M, g, P, Q, c, sl, q, k => k ([], []) M g H [] [] c Le.refl (q H g c Le.refl) .nil .nil
  | (mk, mv) :: r, H, M, g, P, Q, c, sl, q, k => by
    refine ⟨z, env, M, g, c, sl, Res.imp (fun wk M1 g1 H1 c1 l1 q1 vk rk => ?_) (Res.of_bind q)⟩
    refine ⟨z, env, M1, g1, c1, sl.mono l1, Res.imp (fun wv M2 g2 H2 c2 l2 q2 vv rv => ?_) q1.of_bind⟩
    refine ted_pairs c2 ((sl.mono l1).mono l2) q2.of_bind fun p M3 g3 H3 ks vs c3 l3 q3 r1 r2 => ?_
    exact k _ M3 g3 H3 (vk :: ks) (vv :: vs) c3 ((l1.trans l2).trans l3) (q3 H3 g3 c3 Le.refl) (.cons (rk.mono (l2.trans l3)) r1) (.cons (rv.mono l3) r2)
theorem keysw_rep {K : PySem.W.Frag} {g : Gh} {n : Nat} : ∀ {ws : List Wv} {vs : List V} {ks : List Key}, Paired (RW K cA g n) ws vs → keysw ws = some ks → vs = ks.map kV
  | [], _, _, .nil, e => by cases (Option.some.inj e); rfl
  | w :: ws, _, _, .cons r t, e => by
    cases e1 : keyw w with
    | none => simp [keysw, e1] at e
    | some k =>
      cases e2 : keysw ws with
      | none => simp [keysw, e1, e2] at e
      | some l =>
        simp only [keysw, e1, e2, Option.some.injEq] at e
        subst e
        rw [keyw_rep r e1, keysw_rep t e2]
        rfl
theorem putK_new {kvs : List (Key × V)} {k : Key} {v : V} (h : k ∉ kvs.map (·.1)) : putK kvs k v = kvs ++ [(k, v)] := by
  unfold putK
  rw [if_neg]
  intro hz
  obtain ⟨p, hp, hk⟩ := List.any_eq_true.mp hz
  exact h (List.mem_map.mpr ⟨p, hp, of_decide_eq_true hk⟩)
theorem mergeK_new : ∀ {more kvs : List (Key × V)}, ((kvs ++ more).map (·.1)).Nodup → mergeK kvs more = kvs ++ more
  | [], kvs, _ => by simp [mergeK]
  | (k, v) :: more, kvs, h => by
    have h1 : k ∉ kvs.map (·.1) := by
      rw [List.map_append, List.map_cons] at h
      have h2 := List.nodup_append.mp h
      exact fun hz => h2.2.2 k hz k List.mem_cons_self rfl
    show mergeK (putK kvs k v) more = _
    rw [putK_new h1, mergeK_new (by rw [List.append_assoc]; exact h), List.append_assoc]
    rfl
theorem d_disp {keys : List (Option Expr)} {values : List Expr} {prs : List (ED × ED)} (h : PPs X pos keys values (prs.map fun p => (TED X.K cA Wx p.1, TED X.K cA Wx p.2))) (hall : keys.all (·.isSome) = true := by rfl) (hl : keys.length = values.length := by rfl) (h0 : keys ≠ [] := by intro z; cases z) (h15 : keys.length ≤ 15 := by decide) :
    PE X (.Dict keys values pos) (TED X.K cA Wx (eDisp prs)) := PE.imp (pe_disp h hall hl h0 h15) fun σ H Q ⟨z, env, M, g, c, sl, q⟩ p hp => by
  have lo := c.fresh hp
  have c0 := c.scrib (ho := .dK []) lo (plain_no hp)
  have c1 := c0.enter
  refine ted_pairs (z := ent (upd H p (.dK [])) M g) c1 sl ((q.of_bind).ent c0) fun pr M1 g1 H1 ks vs c2 l2 q2 r1 r2 => ?_
  obtain ⟨eP, lo2⟩ := lo.step upd_same c2
  have c3 := c0.leave c2
  cases e1 : keysw pr.1 with
  | none => simp [e1, Res] at q2
  | some kl =>
    cases e2 : nds M1 pr.2 with
    | none => simp [e1, e2, Res] at q2
    | some l =>
      simp only [e1, e2] at q2
      by_cases hz : kl.Nodup ∧ kl.length ≤ 15 ∧ kl.length = l.length
      · rw [if_pos hz] at q2
        have ek := keysw_rep r1 e1
        have rl := nds_rep c3 r2 e2
        have hlen : kl.length = vs.length := by rw [hz.2.2]; exact rl.length
        have em : (kl.zip vs).map (·.1) = kl := by
          rw [List.map_fst_zip]
          omega
        refine ⟨eP, kl.zip vs, ?_, ?_, ?_⟩
        · rw [ek, List.zip_map_left]
          rfl
        · rw [List.length_zip]
          omega
        · rw [mergeK_new (kvs := []) (by rw [List.nil_append, em]; exact hz.1), List.nil_append]
          have c4 := c3.scrib (ho := .dK (kl.zip vs)) lo2 (plain_of eP trivial)
          obtain ⟨c5, l5⟩ := c4.adopt lo2 upd_same
          exact q2 _ _ c5 l5 _ ⟨p, vs, rfl, upd_same, hlen, rl.mono l5.F⟩
      · rw [if_neg hz] at q2
        exact q2.elim

/-! ### sorted: of ints -/
theorem sort_same {a b : List Int} (hp : a.Perm b) (ha : a.Pairwise (· ≤ ·)) (hb : b.Pairwise (· ≤ ·)) : a = b := by
  first
    | exact hp.eq_of_pairwise (fun x y _ _ h1 h2 => Int.le_antisymm h1 h2) ha hb
    | exact List.Perm.eq_of_pairwise (fun x y _ _ h1 h2 => Int.le_antisymm h1 h2) ha hb hp
theorem ins1_perm (x : Int) : ∀ l : List Int, (ins1 x l).Perm (x :: l)
  | [] => List.Perm.refl _
  | y :: l => by
    unfold ins1
    by_cases h : x ≤ y
    · rw [if_pos h]
    · rw [if_neg h]
      exact (List.Perm.cons y (ins1_perm x l)).trans (List.Perm.swap x y l)
theorem sortI_perm : ∀ l : List Int, (sortI l).Perm l
  | [] => List.Perm.refl _
  | x :: l => (ins1_perm x (sortI l)).trans (List.Perm.cons x (sortI_perm l))
theorem ins1_mem {x z : Int} {l : List Int} (h : z ∈ ins1 x l) : z = x ∨ z ∈ l := by
  have := (ins1_perm x l).mem_iff.mp h
  exact List.mem_cons.mp this
theorem ins1_rise (x : Int) : ∀ l : List Int, l.Pairwise (· ≤ ·) → (ins1 x l).Pairwise (· ≤ ·)
  | [], _ => List.pairwise_singleton _ _
  | y :: l, h => by
    unfold ins1
    obtain ⟨h1, h2⟩ := List.pairwise_cons.mp h
    by_cases hx : x ≤ y
    · rw [if_pos hx]
      refine List.pairwise_cons.mpr ⟨fun z hz => ?_, h⟩
      rcases List.mem_cons.mp hz with e | e
      · rw [e]; exact hx
      · exact Int.le_trans hx (h1 z e)
    · rw [if_neg hx]
      refine List.pairwise_cons.mpr ⟨fun z hz => ?_, ins1_rise x l h2⟩
      rcases ins1_mem hz with e | e
      · rw [e]; omega
      · exact h1 z e
theorem sortI_rise : ∀ l : List Int, (sortI l).Pairwise (· ≤ ·)
  | [] => List.Pairwise.nil
  | x :: l => ins1_rise x _ (sortI_rise l)
theorem ok_sortedI {K : PySem.W.Frag} : OkL K cA (f1 (fLst dSortI)) (rSortedI K) := okL1 fun z g H M E w x Q c rx q => by
  obtain ⟨a, vs, l, d, rfl, h1, h2, h3, hz, h4⟩ := fLst_at c rx q
  cases e : intsOf l with
  | none => rw [dSortI, e] at h3; cases h3
  | some bs =>
    rw [dSortI, e] at h3
    cases h3
    have ev := intsOf_rep h2 e
    subst ev
    refine ⟨a, bs, rfl, h1, fun ns' p hp hs hn => ?_⟩
    have en : ns' = sortI bs := sort_same (hp.trans (sortI_perm bs).symm) hs (sortI_rise bs)
    subst en
    refine c.ans h4 hn ⟨p, _, rfl, upd_same, ?_, RepL.ints _⟩
    rw [List.length_map, (sortI_perm bs).length_eq]
    rw [List.length_map] at hz
    exact hz
end
end DL

/-! Layer D: operators of own classes; the contexts of a def's body. -/
namespace DL
open PySem PySem.Spec PyProof.Rows L2

section
variable {P : Program} {w : World} {K : PySem.W.Frag} {mg : Str → Option Value} {base : Heap} {N : List Str} {qual : Str} {sc : Scope} {f : Addr} {cdv : Value} {A : Around} {outer : List Env} {s : Shared} {H : Hp} {E : XK}
theorem tk_of : Takes (cxOf (L2.CX P w) P w K mg base N qual sc f cdv A outer s H E) (fun cls d _ H' => E cls d H') := takes_of rfl rfl rfl rfl
theorem hp_of : PassesOwn (model (cxOf (L2.CX P w) P w K mg base N qual sc f cdv A outer s H E).prog (cxOf (L2.CX P w) P w K mg base N qual sc f cdv A outer s H E).w) (cxOf (L2.CX P w) P w K mg base N qual sc f cdv A outer s H E).A (cxOf (L2.CX P w) P w K mg base N qual sc f cdv A outer s H E).env (cxOf (L2.CX P w) P w K mg base N qual sc f cdv A outer s H E).xe := passes_of rfl
end
theorem fnOk_no {P : Program} {w : World} {K : PySem.W.Frag} {mg : Str → Option Value} {base : Heap} {CX : CXT} {k m : Nat} {f : Addr} {fd : FuncData} {ps : List Str} {cA : CA} : FnOk P w K mg base CX k f fd ps (spD K cA m fun _ _ => .no) :=
  ⟨fun vs H Q E ⟨_, _, _, _, _, _, _, q⟩ => q.elim, fun A outer s H args us vs Q E hr e0 b r ⟨_, _, _, _, _, _, _, q⟩ => q.elim⟩
abbrev never : XK := fun _ _ _ => False
theorem passNever {X : Cx} {σ : St} : PassesAt (L2.CX X.prog X.w) X σ never := fun _ _ _ _ _ _ h => by
  obtain ⟨_, _, _, _, _, _, _, _, _, _, _, _, z⟩ := h
  exact z.elim
section
variable {X : Cx} {cA : CA} {Wx : WX} {a b : Expr} {ma mb : ED} {pos : Pos} {k n t : Nat} {fa C : Addr} {fd : FuncData} {ps : List Str} {f c : FD} {sp : Sp}
def rOwn (C : Addr) (sp : Sp) : R2 := fun x y H Q => (∃ a dx fs, x = .ref a ∧ H a = some (.ins C dx fs)) ∧ (∃ b dy gs, y = .ref b ∧ H b = some (.ins C dy gs)) ∧ sp [x, y] H Q never
theorem cmpBack {pins : List (Addr × Obj)} {σ : St} {Q : VK} {u : Value} {s' : Shared} (h : EP X pins σ Q u s') : PySem.W.CmpBack (EP X pins σ Q) u s' := by
  obtain ⟨v, H', I, r, q⟩ := h
  cases v with
  | non => cases r; exact ⟨.non, H', I, rfl, q⟩
  | bl b => cases r; exact ⟨.bl b, H', I, rfl, q⟩
  | int i => obtain ⟨tk, rfl⟩ := r; exact ⟨.int i, H', I, ⟨tk, rfl⟩, q⟩
  | str i => obtain ⟨tk, rfl⟩ := r; exact ⟨.str i, H', I, ⟨tk, rfl⟩, q⟩
  | byt i => obtain ⟨tk, rfl⟩ := r; exact ⟨.byt i, H', I, ⟨tk, rfl⟩, q⟩
  | flt i => obtain ⟨tk, rfl⟩ := r; exact ⟨.flt i, H', I, ⟨tk, rfl⟩, q⟩
  | ref a => cases r; exact ⟨.ref a, H', I, rfl, q⟩
  | ty n => cases r; exact ⟨.ty n, H', I, rfl, q⟩
theorem op_ownCmp {op : CmpOp} (F : FnOk X.prog X.w X.K X.mg X.base (L2.CX X.prog X.w) k fa fd ps sp) (hr : Room k X.A) (hb : Binds X.K fd ps []) (hs : PySem.W.findIn X.K (.ref C) (cmpInfo op).2.1 = some (some (.ref fa))) (hf : PySem.W.isFn X.K (.ref fa) = true)
    (hop : ∀ v u, compareOp op v u = richCompare op v u) : OpR X (compareOp op) (rOwn C sp) := by
  intro pins s σ H x y v u Q I rx ry h
  obtain ⟨⟨a, dx, fs, rfl, ha⟩, ⟨b, dy, gs, rfl, hb'⟩, hsp⟩ := h
  cases rx
  cases ry
  obtain ⟨mA, J, _⟩ := ins_get I.hok ha
  obtain ⟨mB, J', _⟩ := ins_get I.hok hb'
  obtain ⟨od, J, _⟩ := J.look
  obtain ⟨od', J', _⟩ := J'.look
  obtain ⟨m, hF⟩ := I.fr
  rw [hop]
  refine PySem.W.cmp_K (op := op) (tb := .ref C) hr.units0 hF I.ok.mod.kin J J'.type (by simp [PySem.W.notFirst]) hs hf ?_
  refine wpAny_mono (run_fnS (us := [.ref a, .ref b]) (vs := [.ref a, .ref b]) (E := fun _ => never) F hr hb passNever I (.cons rfl (.cons rfl .nil)) hsp) (fun r s' q => cmpBack q) fun _ _ q => q
theorem op_ownBin {op : Operator} (F : FnOk X.prog X.w X.K X.mg X.base (L2.CX X.prog X.w) k fa fd ps sp) (hr : Room k X.A) (hb : Binds X.K fd ps []) (hs : PySem.W.findIn X.K (.ref C) (PySem.dunder op.info.2) = some (some (.ref fa))) (hf : PySem.W.isFn X.K (.ref fa) = true) (hc : PySem.W.selfFirst X.K C = true) :
    OpR X (binaryOp op) (rOwn C sp) := by
  intro pins s σ H x y v u Q I rx ry h
  obtain ⟨⟨a, dx, fs, rfl, ha⟩, ⟨b, dy, gs, rfl, hb'⟩, hsp⟩ := h
  cases rx
  cases ry
  obtain ⟨mA, J, _⟩ := ins_get I.hok ha
  obtain ⟨mB, J', _⟩ := ins_get I.hok hb'
  obtain ⟨od, J, _⟩ := J.look
  obtain ⟨od', J', _⟩ := J'.look
  obtain ⟨m, hF⟩ := I.fr
  refine PySem.W.binop_K (op := op) hF I.ok.mod.kin J J'.type hc hs hf ?_
  refine wpAny_mono (run_fnS (us := [.ref a, .ref b]) (vs := [.ref a, .ref b]) (E := fun _ => never) F hr hb passNever I (.cons rfl (.cons rfl .nil)) hsp) (fun r s' q => cmpBack q) fun _ _ q => q
def ownw (t : Nat) (c : FD) (w u : Wv) (M : Sto) : Rs Wv := if insw t "" w M = true ∧ insw t "" u M = true then nx (c [w, u] M) else .no
theorem ok_own (co : CallOk X.K cA n f c) : Ok2 X.K cA (ownw t c) (rOwn (cA t) (spD X.K cA n f)) := by
  intro z g H M E wx wy x y Q cc rx ry q
  unfold ownw at q
  by_cases hi : insw t "" wx M = true ∧ insw t "" wy M = true
  · rw [if_pos hi] at q
    obtain ⟨a, dx, fs, e1, e2, _⟩ := insw_at cc rx hi.1
    obtain ⟨b, dy, gs, e3, e4, _⟩ := insw_at cc ry hi.2
    exact ⟨⟨a, dx, fs, e1, e2⟩, ⟨b, dy, gs, e3, e4⟩, co z H M g [wx, wy] [x, y] never Q cc (.cons rx (.cons ry .nil)) q.nx'⟩
  · rw [if_neg hi] at q
    exact q.elim
end
/-- the names of a comprehension within a comprehension -/
def subScope (sc scope : Scope) : Scope := { scope with names := scope.names.map fun (n, k) => if k == .free && sc.kind == .function && sc.names.lookup n == some .cell then (n, .cell) else (n, k) }
theorem blkOk_in {N : List Str} {sc0 scope0 scope : Scope} {own : List (Str × Nat)} {cl : List (Str × Addr)} {C : Addr} {env : Env} (he : env.scope = sc0) (h : blkC N (subScope sc0 scope0) scope own = true) : BlkOk N (compEnvC scope0 cl C env).scope scope own := by
  have e : (compEnvC scope0 cl C env).scope = subScope sc0 scope0 := by
    subst he
    rfl
  rw [e]
  exact blkOk_by h
end DL

/-! Layer D: the end of a law. -/
namespace DL
open PySem PySem.Spec PyProof.Rows L2

section
variable {K : PySem.W.Frag} {cA : CA}
/-- the law's promise -/
def spLaw (K : PySem.W.Frag) : Sp := fun vs H Q _ => ∃ (a : Addr) (ns : List Int), vs = [.ref a] ∧ ns.length ≤ 63 ∧ SqL K H a (ns.map V.int) ∧ ∀ H', Q (.bl true) H'
theorem repL_ints {F : Hp} : ∀ ns : List Int, RepL K cA F (ns.map .int) (ns.map V.int)
  | [] => rfl
  | _ :: ns => ⟨_, _, rfl, rfl, repL_ints ns⟩
theorem cf_all (hT : cA.T = []) (H : Hp) : Cf K cA (ent H [] ⟨H, fun _ => 0⟩) H [] ⟨H, fun _ => 0⟩ :=
  ⟨Same.refl _, fun k mo e => by simp at e, fun j k hj _ _ => absurd hj (Nat.not_lt_zero _), Same.refl _, fun a o e _ _ => e, fun a h => .inl h, fun k hk => rfl, fun k _ h => absurd h (Nat.not_lt_zero _), Nat.le_refl _, tabs_nil hT, ft_nil hT⟩
theorem law_end {P : Program} {w : World} {mg : Str → Option Value} {base : Heap} {k : Nat} {f : Addr} {fd : FuncData} {ps : List Str} {m : FD} (F : FnOk P w K mg base (L2.CX P w) k f fd ps (spD K cA 1 m)) (hT : cA.T = [])
    (h : ∀ ns : List Int, ns.length ≤ 63 → ∃ M, m [.d (.scr (ns.map .int))] [] = .ok (.d (.bl true)) M) : FnOk P w K mg base (L2.CX P w) k f fd ps (spLaw K) := F.imp fun vs H Q E ⟨a, ns, e, hl, hS, hQ⟩ => by
  subst e
  obtain ⟨M, hm⟩ := h ns hl
  refine ⟨rfl, _, [], ⟨H, fun _ => 0⟩, [.d (.scr (ns.map .int))], cf_all hT H, .cons ⟨a, ns.map V.int, rfl, hS, by rw [List.length_map]; exact Nat.le_trans hl (by decide), repL_ints ns⟩ .nil, ?_⟩
  rw [hm]
  intro H' g' _ _ v rv
  cases (show v = _ from rv)
  exact hQ H'
theorem cx_no {P : Program} {w : World} {H : Hp} {s : Shared} {e : Value} {s' : Shared} (h : L2.CX P w [] H s (fun _ _ _ => False) e s') : False := by
  obtain ⟨_, _, _, _, _, _, _, _, _, _, _, _, z⟩ := h
  exact z.elim
/-- a tuple of texts that the module has written -/
theorem rep_strs {n : Addr} {o : Obj} {its : Array Value} {m : Nat} {xs : List Str} (F : Hp) (h : K.lookup n = some o) (hc : o.cls = .type "tuple") (hd : o.data = .seq its m) (hs : xs.length ≤ sizeLine) (hv : Vals (xs.map V.str) its.toList) : Rep K cA F (.tup (xs.map .str)) (.ref n) := by
  have hl : its.size ≤ sizeLine := by
    have := hv.length
    rw [List.length_map] at this
    rw [← Array.length_toList, ← this]
    exact hs
  refine ⟨n, xs.map V.str, rfl, .inr ⟨o, its, m, h, hc, hd, hl, hv⟩, by rw [List.length_map]; exact hs, ?_⟩
  clear h hc hd hs hv hl
  induction xs with
  | nil => exact rfl
  | cons x xs ih => exact ⟨_, _, rfl, rfl, ih⟩
theorem is_own7 {t0 : Nat} (h0 : InsF K (cA t0)) (k1 : PySem.W.kitOne K (.type "NoneType") (.ref (cA t0)) = some false) (k2 : PySem.W.kitOne K (.type "bool") (.ref (cA t0)) = some false) (k3 : PySem.W.kitOne K (.type "int") (.ref (cA t0)) = some false)
    (k4 : PySem.W.kitOne K (.type "str") (.ref (cA t0)) = some false) (k5 : PySem.W.kitOne K (.type "tuple") (.ref (cA t0)) = some false) (k6 : PySem.W.kitOne K (.type "list") (.ref (cA t0)) = some false) (k7 : PySem.W.kitOne K (.type "dict") (.ref (cA t0)) = some false) (k8 : PySem.W.kitOne K (.type "function") (.ref (cA t0)) = some false)
    {ts : List Nat} (hs : ∀ t ∈ ts, InsF K (cA t) ∧ PySem.W.kitOne K (.ref (cA t)) (.ref (cA t0)) = some false) : IsOk K cA (.ref (cA t0)) (isOw t0 ts) := is_own h0 (fun x hx => by
  cases x with
  | obj t ns l => exact absurd rfl (hx t ns l)
  | non => exact k1
  | bl _ => exact k2
  | int _ => exact k3
  | str _ => exact k4
  | tup _ => exact k5
  | lst _ => exact k6
  | scr _ => exact k6
  | dic _ _ => exact k7
  | fn _ _ => exact k8) hs
end
end DL

/-! Layer D: what a mirror answers: weakest preconditions. -/
namespace DL
open PySem PySem.Spec PyProof.Rows L2

def Rs.Is {α : Type} (r : Rs α) (P : α → Sto → Prop) (E : Exn → Sto → Prop) : Prop := match r with
  | .ok a M => P a M
  | .ex x M => E x M
  | .no => False
abbrev nox : Exn → Sto → Prop := fun _ _ => False
section
variable {α β : Type} {P Q : α → Sto → Prop} {P' : β → Sto → Prop} {E F : Exn → Sto → Prop}
theorem is_ok {a : α} {M : Sto} : (Rs.ok a M).Is P E = P a M := rfl
theorem is_ex {x : Exn} {M : Sto} : (Rs.ex x M : Rs α).Is P E = E x M := rfl
theorem is_no : (Rs.no : Rs α).Is P E = False := rfl
theorem is_bind {r : Rs α} {f : α → Sto → Rs β} : (r.bind f).Is P' E = r.Is (fun a M => (f a M).Is P' E) E := by cases r <;> rfl
theorem is_sx {r : Rs α} {env : Ev} {k : α → Sto → Rs Out} {P' : Out → Sto → Prop} : (sx env r k).Is P' E = r.Is (fun a M => (k a M).Is P' E) (fun x M => P' (.xc env x) M) := by cases r <;> rfl
theorem is_nx {r : Rs α} : (nx r).Is P E = r.Is P nox := by cases r <;> rfl
theorem Rs.Is.imp {r : Rs α} (h : r.Is P E) (i : ∀ a M, P a M → Q a M) (j : ∀ x M, E x M → F x M) : r.Is Q F := by
  cases r with
  | ok a M => exact i a M h
  | ex x M => exact j x M h
  | no => exact h
theorem Rs.Is.any {r : Rs α} (h : r.Is P nox) : r.Is P E := h.imp (fun _ _ q => q) fun _ _ q => q.elim
theorem Rs.Is.out {r : Rs α} (h : r.Is P nox) : ∃ a M, r = .ok a M ∧ P a M := by
  cases r with
  | ok a M => exact ⟨a, M, rfl, h⟩
  | ex x M => exact h.elim
  | no => exact h.elim
theorem is_of {r : Rs α} {a : α} {M : Sto} (e : r = .ok a M) (h : P a M) : r.Is P E := by rw [e]; exact h
end

/-! ### calls -/
section
variable {P : Wv → Sto → Prop} {E : Exn → Sto → Prop} {f : FD} {M : Sto} {m : Nat}
theorem preps_d (r : Nat) (xs : List D) (M : Sto) : preps r (xs.map .d) M = some (xs.map .d, M) := by
  induction xs with
  | nil => rfl
  | cons x xs ih =>
    rw [List.map_cons, preps]
    simp only [prep, Wv.below, if_true, Option.bind_some, ih, Option.map_some]
/-- a call by data alone, that answers data -/
theorem call0 {xs : List D} {y : D} (hl : xs.length = m) (h : f (xs.map .d) [] = .ok (.d y) []) : callR 0 m f (xs.map .d) M = .ok (.d y) M := by
  unfold callR
  rw [if_pos (by rw [List.length_map]; exact hl), preps_d]
  simp only [List.take_zero, List.drop_zero, h]
  rw [if_pos ⟨Nat.zero_le _, rfl⟩]
  simp only [h, Wv.below, List.length_nil, List.all_nil, List.nil_append]
  rfl
/-- a call by the pool and data -/
theorem call1 {xs : List D} {p : MO} (hl : xs.length + 1 = m) (hp : p.below 1 = true) (h : (f (.m 0 :: xs.map .d) [p]).Is (fun w M' => ∃ y p', w = .d y ∧ M' = [p'] ∧ p'.below 1 = true ∧ P w (p' :: M)) E) (hE : ∀ x M', E x M' → False) : (callR 1 m f (.m 0 :: xs.map .d) (p :: M)).Is P E := by
  have e : callR 1 m f (.m 0 :: xs.map .d) (p :: M) = match f (.m 0 :: xs.map .d) [p] with
      | .ok w M' => if w.below 1 = true ∧ M'.length = 1 ∧ M'.all (MO.below 1) = true then .ok w (M' ++ M) else .no
      | .ex x M' => if M'.length = 1 ∧ M'.all (MO.below 1) = true then .ex x (M' ++ M) else .no
      | .no => .no := by
    unfold callR
    rw [if_pos (by rw [List.length_cons, List.length_map]; exact hl), preps]
    simp only [prep, Wv.below, Nat.zero_lt_one, decide_true, if_true, Option.bind_some, preps_d, Option.map_some, List.take_succ_cons, List.take_zero, List.drop_succ_cons, List.drop_zero]
    rw [if_pos ⟨by rw [List.length_cons]; omega, by rw [List.all_cons, hp]; rfl⟩]
    generalize f (.m 0 :: xs.map .d) [p] = r
    cases r <;> rfl
  rw [e]
  obtain q | q := Classical.em (∃ w M', f (.m 0 :: xs.map .d) [p] = .ok w M')
  · obtain ⟨w, M', q⟩ := q
    rw [q] at h ⊢
    obtain ⟨y, p', rfl, rfl, hb, hP⟩ := h
    simp only [Wv.below, List.length_cons, List.length_nil, List.all_cons, List.all_nil, hb]
    exact hP
  · cases h2 : f (.m 0 :: xs.map .d) [p] with
    | ok w M' => exact absurd ⟨w, M', h2⟩ q
    | ex x M' => rw [h2] at h; exact (hE _ _ h).elim
    | no => rw [h2] at h; exact h.elim
/-- a body that answers data, with no object of its own left -/
theorem fnD_ok {body : SD} {n : Nat} {ws : List Wv} {y : D} {M M' : Sto} (h : body (ws.map some ++ List.replicate (n - ws.length) none) M = .ok (.rt (.d y)) M') (hl : (M'.take M.length).all (MO.below M.length) = true) : fnD body n ws M = .ok (.d y) (M'.take M.length) := by
  unfold fnD fnB
  rw [h]
  show outC _ _ _ = _
  unfold outC prep
  simp only [Wv.below, if_true]
  rw [if_pos hl]
end

/-! ### loops -/
section
variable {P : Out → Sto → Prop} {E : Exn → Sto → Prop} {tg : GD} {body : SD} {ws : List Wv}
theorem for_is (I : Nat → Ev → Sto → Prop) (hs : ∀ i w env M, ws[i]? = some w → I i env M → (tg w env M).Is (fun e M1 => (body e M1).Is (fun o M2 => match o with
      | .nx e2 => I (i + 1) e2 M2
      | .ct e2 => I (i + 1) e2 M2
      | .bk e2 => P (.nx e2) M2
      | .rt w => P (.rt w) M2
      | .xc e x => P (.xc e x) M2) E) E) (hd : ∀ env M, I ws.length env M → P (.nx env) M) : ∀ (f i : Nat) (env : Ev) (M : Sto), i + f = ws.length → I i env M → (forS (.its ws) tg body f i env M).Is P E
  | 0, i, env, M, hi, h => by
    have : i = ws.length := by omega
    subst this
    unfold forS
    simp only [Src.at_its, Nat.le_refl, if_true]
    exact hd _ _ h
  | f + 1, i, env, M, hi, h => by
    have hlt : i < ws.length := by omega
    unfold forS
    simp only [Src.at_its, List.getElem?_eq_getElem hlt]
    rw [is_bind]
    refine (hs i _ env M (List.getElem?_eq_getElem hlt) h).imp (fun e M1 q => ?_) fun _ _ q => q
    rw [is_bind]
    refine q.imp (fun o M2 q2 => ?_) fun _ _ q => q
    cases o with
    | nx e2 => exact for_is I hs hd f (i + 1) e2 M2 (by omega) q2
    | ct e2 => exact for_is I hs hd f (i + 1) e2 M2 (by omega) q2
    | bk e2 => exact q2
    | rt w => exact q2
    | xc e x => exact q2
end
section
variable {tg : GD} {tt : TD} {te : ED} {M : Sto}
/-- a comprehension without a test whose items leave the store alone -/
theorem comp_map {α : Type} (g : α → Wv) (v : α → D) {env : Ev} : ∀ (as : List α) (f i cnt : Nat) (pre : List α), (∀ a ∈ as, ∃ e, tg (g a) env M = .ok e M ∧ te e M = .ok (.d (v a)) M) → f = as.length → i = pre.length → cnt + as.length ≤ sizeLine →
    compS (.its ((pre ++ as).map g)) tg tYesD te f i cnt env M = .ok (as.map fun a => .d (v a)) M
  | [], f, i, cnt, pre, h, hf, hi, hc => by
    subst hf hi
    unfold compS
    simp
  | a :: as, f, i, cnt, pre, h, hf, hi, hc => by
    subst hf hi
    obtain ⟨e, h1, h2⟩ := h a (List.mem_cons_self ..)
    rw [List.length_cons] at hc ⊢
    unfold compS
    have e1 : ((pre ++ a :: as).map g)[pre.length]? = some (g a) := by
      rw [List.getElem?_map, List.getElem?_append_right (Nat.le_refl _), Nat.sub_self]
      rfl
    simp only [Src.at_its, e1, h1, nx_ok, Rs.bind_ok, tYesD, if_true, h2]
    rw [if_pos (by omega)]
    have e2 : pre ++ a :: as = (pre ++ [a]) ++ as := by rw [List.append_assoc]; rfl
    rw [e2, comp_map g v as as.length (pre.length + 1) (cnt + 1) (pre ++ [a]) (fun b hb => h b (List.mem_cons_of_mem _ hb)) rfl (by rw [List.length_append]; rfl) (by omega)]
    rfl
theorem eLc_map {α : Type} {src : ID} {vs : List Nat} {env : Ev} {M1 : Sto} (g : α → Wv) (v : α → D) (as : List α) (hs : src env M1 = .ok (.its (as.map g)) M) (h : ∀ a ∈ as, ∃ e, tg (g a) (wipeE env vs) M = .ok e M ∧ te e M = .ok (.d (v a)) M) (hl : as.length ≤ sizeLine) :
    eLc finF src tg tYesD te vs env M1 = .ok (.d (.lst (as.map v))) M := by
  have e : (as.map fun a => Wv.d (v a)) = (as.map v).map .d := by rw [List.map_map]; rfl
  unfold eLc
  simp only [hs, Rs.bind_ok, Src.at_its]
  have := comp_map (tg := tg) (te := te) (M := M) g v (env := wipeE env vs) as (as.map g).length 0 0 [] h (by rw [List.length_map]) rfl (by omega)
  rw [List.nil_append] at this
  rw [this, Rs.bind_ok, finF, e, nds_d]
end
end DL

/-! Layer D: the evaluator: one row a construct, continuations as words (no lambda). -/
namespace DL
open PySem PySem.Spec PyProof.Rows L2

abbrev PV := Wv → Sto → Prop
abbrev PO := Out → Sto → Prop
abbrev PB := Bool → Sto → Prop
abbrev PL := List Wv → Sto → Prop
abbrev PX := Exn → Sto → Prop
def oo {α : Type} (o : Option α) (P : α → Sto → Prop) (M : Sto) : Prop := match o with
  | some x => P x M
  | none => False
def kD (P : PV) : D → Sto → Prop := fun x M => P (.d x) M
def kX (env : Ev) (P : PO) : PX := fun x M => P (.xc env x) M
section
variable {α β : Type} {P : α → Sto → Prop} {x : α} {M : Sto}
theorem oo_some : oo (some x) P M = P x M := rfl
theorem oo_none : oo (none : Option α) P M = False := rfl
theorem kD_ap {P : PV} {d : D} : kD P d M = P (.d d) M := rfl
theorem kX_ap {P : PO} {e : Ev} {y : Exn} : kX e P y M = P (.xc e y) M := rfl
end
/-! ### statements -/
def kSeq (b : SD) (P : PO) (E : PX) : PO := fun o M => match o with
  | .nx e => (b e M).Is P E
  | .rt w => P (.rt w) M
  | .bk e => P (.bk e) M
  | .ct e => P (.ct e) M
  | .xc e x => P (.xc e x) M
def kExpr (env : Ev) (P : PO) : PV := fun _ M => P (.nx env) M
def kRet (P : PO) : PV := fun w M => P (.rt w) M
def kIf (a b : SD) (env : Ev) (P : PO) (E : PX) : PB := fun k M => if k = true then (a env M).Is P E else (b env M).Is P E
def kAsg (g : GD) (env : Ev) (P : PO) (E : PX) : PV := fun w M => (g w env M).Is (fun e M1 => P (.nx e) M1) E
def kNx (P : PO) : Ev → Sto → Prop := fun e M => P (.nx e) M
def kPar (i j : Nat) (env : Ev) (P : PO) : PL := fun ws M => match ws with
  | [w, u] => P (.nx ((env.set i (some w)).set j (some u))) M
  | _ => False
def kFor (tg : GD) (body : SD) (env : Ev) (P : PO) (E : PX) : Src → Sto → Prop := fun s M => match s.at M with
  | some ws => (forS s tg body ws.length 0 env M).Is P E
  | none => False
section
variable {P : PO} {E : PX} {a b m : SD} {env e : Ev} {M : Sto} {me mo : ED} {t : TD} {w u : Wv} {g : GD} {x : Exn} {ml : AD} {i j : Nat}
theorem y_next : (sNext env M).Is P E = P (.nx env) M := rfl
theorem y_seq : (sSeq a b env M).Is P E = (a env M).Is (kSeq b P E) E := by
  unfold sSeq
  rw [is_bind]
  congr
  funext o M1
  cases o <;> rfl
theorem kSeq_nx : kSeq b P E (.nx e) M = (b e M).Is P E := rfl
theorem kSeq_rt : kSeq b P E (.rt w) M = P (.rt w) M := rfl
theorem kSeq_bk : kSeq b P E (.bk e) M = P (.bk e) M := rfl
theorem kSeq_ct : kSeq b P E (.ct e) M = P (.ct e) M := rfl
theorem kSeq_xc : kSeq b P E (.xc e x) M = P (.xc e x) M := rfl
theorem y_expr : (sExpr me env M).Is P E = (me env M).Is (kExpr env P) (kX env P) := is_sx
theorem kExpr_ap : kExpr env P w M = P (.nx env) M := rfl
theorem y_ret : (sRet me env M).Is P E = (me env M).Is (kRet P) (kX env P) := is_sx
theorem kRet_ap : kRet P w M = P (.rt w) M := rfl
theorem y_retN : (sRetN env M).Is P E = P (.rt (.d .non)) M := rfl
theorem y_if : (sIf t a b env M).Is P E = (t env M).Is (kIf a b env P E) (kX env P) := by
  unfold sIf
  rw [is_sx]
  congr
  funext k M1
  cases k <;> rfl
theorem kIf_t : kIf a b env P E true M = (a env M).Is P E := rfl
theorem kIf_f : kIf a b env P E false M = (b env M).Is P E := rfl
theorem y_never : (sNever env M).Is P E = False := rfl
theorem y_brk : (sBrk env M).Is P E = P (.bk env) M := rfl
theorem y_cnt : (sCnt env M).Is P E = P (.ct env) M := rfl
theorem y_asg {i : Nat} : (sAsg (tgN i) me env M).Is P E = (me env M).Is (kAsg (tgN i) env P E) (kX env P) := by
  unfold sAsg
  rw [is_sx]
  rfl
theorem y_asgG : (sAsg g me env M).Is P E = (me env M).Is (kAsg g env P E) (kX env P) := by
  unfold sAsg
  rw [is_sx]
  congr
  funext w M1
  rw [is_bind]
  rfl
theorem kAsg_n {i : Nat} : kAsg (tgN i) env P E w M = P (.nx (env.set i (some w))) M := rfl
theorem kAsg_g : kAsg g env P E w M = (g w env M).Is (kNx P) E := rfl
theorem kNx_ap : kNx P e M = P (.nx e) M := rfl
theorem y_par : (sPar i j ml env M).Is P E = (ml env M).Is (kPar i j env P) (kX env P) := by
  unfold sPar
  rw [is_sx]
  congr
  funext ws M1
  match ws with
  | [] => rfl
  | [_] => rfl
  | [_, _] => rfl
  | _ :: _ :: _ :: _ => rfl
theorem kPar_ap : kPar i j env P [w, u] M = P (.nx ((env.set i (some w)).set j (some u))) M := rfl
theorem y_for {src : ID} : (sFor src g m env M).Is P E = (src env M).Is (kFor g m env P E) (kX env P) := by
  unfold sFor
  rw [is_sx]
  congr
  funext s M1
  unfold kFor
  cases s.at M1 <;> rfl
theorem kFor_its {ws : List Wv} : kFor g m env P E (.its ws) M = (forS (.its ws) g m ws.length 0 env M).Is P E := rfl
end
/-! ### targets -/
section
variable {Q : Ev → Sto → Prop} {E : PX} {env : Ev} {M : Sto} {w : Wv} {i n : Nat} {g : GD} {r : GDs} {ws : List Wv} {o ie : ED}
def kGc (r : GDs) (ws : List Wv) (Q : Ev → Sto → Prop) (E : PX) : Ev → Sto → Prop := fun e M => (r ws e M).Is Q E
theorem y_tgN : (tgN i w env M).Is Q E = Q (env.set i (some w)) M := rfl
theorem y_tgT {l : List D} : (tgT n r (.d (.tup l)) env M).Is Q E = if l.length = n then (r (l.map .d) env M).Is Q E else False := by
  unfold tgT
  simp only [seqw_tup, List.length_map]
  by_cases h : l.length = n
  · rw [if_pos h, if_pos h]
  · rw [if_neg h, if_neg h]
    rfl
theorem y_tgsC : (tgsC g r (w :: ws) env M).Is Q E = (g w env M).Is (kGc r ws Q E) E := by
  show (Rs.bind _ _).Is Q E = _
  rw [is_bind]
  rfl
theorem kGc_ap : kGc r ws Q E env M = (r ws env M).Is Q E := rfl
theorem y_tgsN : (tgsN [] env M).Is Q E = Q env M := rfl
def kTs1 (ie : ED) (w : Wv) (env : Ev) (Q : Ev → Sto → Prop) : PV := fun wo M => (ie env M).Is (fun wi M2 => match wi with
  | .d (.int j) => match lstAt wo M2 with
    | some (k, ws) => oo (ixN ws.length j) (fun n M2 => Q env (M2.set k (.lst (ws.set n w)))) M2
    | none => False
  | _ => False) nox
def kTs2 (wo w : Wv) (env : Ev) (Q : Ev → Sto → Prop) : PV := fun wi M2 => match wi with
  | .d (.int j) => match lstAt wo M2 with
    | some (k, ws) => oo (ixN ws.length j) (fun n M2 => Q env (M2.set k (.lst (ws.set n w)))) M2
    | none => False
  | _ => False
def kTs3 (l : Option (Nat × List Wv)) (j : Int) (w : Wv) (env : Ev) (Q : Ev → Sto → Prop) (M : Sto) : Prop := match l with
  | some (k, ws) => oo (ixN ws.length j) (fun n M2 => Q env (M2.set k (.lst (ws.set n w)))) M
  | none => False
theorem y_tgS : (tgS o ie w env M).Is Q E = (o env M).Is (kTs1 ie w env Q) nox := by
  unfold tgS
  rw [is_bind, is_nx]
  congr
  funext wo M1
  rw [is_bind, is_nx]
  unfold kTs1
  congr
  funext wi M2
  cases wi with
  | m k => rfl
  | d x =>
    cases x with
    | int j =>
      simp only []
      cases lstAt wo M2 with
      | none => rfl
      | some p =>
        obtain ⟨k, ws⟩ := p
        simp only []
        cases ixN ws.length j <;> rfl
    | _ => rfl
theorem kTs1_ap {wo : Wv} : kTs1 ie w env Q wo M = (ie env M).Is (kTs2 wo w env Q) nox := rfl
theorem kTs2_ap {wo : Wv} {j : Int} : kTs2 wo w env Q (.d (.int j)) M = kTs3 (lstAt wo M) j w env Q M := rfl
def kTs4 (k : Nat) (ws : List Wv) (w : Wv) (env : Ev) (Q : Ev → Sto → Prop) : Nat → Sto → Prop := fun n M2 => Q env (M2.set k (.lst (ws.set n w)))
theorem kTs3_some {k : Nat} {j : Int} : kTs3 (some (k, ws)) j w env Q M = oo (ixN ws.length j) (kTs4 k ws w env Q) M := rfl
theorem kTs4_ap {k n : Nat} : kTs4 k ws w env Q n M = Q env (M.set k (.lst (ws.set n w))) := rfl
end
/-! ### tests -/
def kTb (P : PB) : PV := fun w M => match w with
  | .d (.bl k) => P k M
  | _ => False
def kTru (P : PB) : PV := fun w M => oo (truw M w) P M
def kNt (P : PB) : PB := fun k M => P (!k) M
def kAn (u : TD) (env : Ev) (P : PB) (E : PX) : PB := fun k M => if k = true then (u env M).Is P E else P false M
def kO (u : TD) (env : Ev) (P : PB) (E : PX) : PB := fun k M => if k = true then P true M else (u env M).Is P E
section
variable {P : PB} {E : PX} {me : ED} {env : Ev} {M : Sto} {t u : TD} {k : Bool} {w : Wv}
theorem y_tb : (tb me env M).Is P E = (me env M).Is (kTb P) E := by
  unfold tb
  rw [is_bind]
  congr
  funext w M1
  cases w with
  | m k => rfl
  | d x => cases x <;> rfl
theorem kTb_ap : kTb P (.d (.bl k)) M = P k M := rfl
theorem y_tru : (tTru me env M).Is P E = (me env M).Is (kTru P) E := by
  unfold tTru
  rw [is_bind]
  congr
  funext w M1
  unfold kTru
  cases truw M1 w <;> rfl
theorem kTru_ap : kTru P w M = oo (truw M w) P M := rfl
theorem truw_non : truw M (.d .non) = some false := rfl
theorem truw_bl : truw M (.d (.bl k)) = some k := rfl
theorem truw_int {i : Int} : truw M (.d (.int i)) = some (i != 0) := rfl
theorem truw_tup {l : List D} : truw M (.d (.tup l)) = some (!l.isEmpty) := rfl
theorem truw_lst {l : List D} : truw M (.d (.lst l)) = some (!l.isEmpty) := rfl
theorem truw_str {x : Str} (h : x.length ≤ sizeLine) : truw M (.d (.str x)) = some ((x.length : Int) != 0) := by
  show (if x.length ≤ sizeLine then some ((x.length : Int) != 0) else none) = _
  rw [if_pos h]
theorem y_nt : (tNt t env M).Is P E = (t env M).Is (kNt P) E := by
  unfold tNt
  rw [is_bind]
  rfl
theorem kNt_ap : kNt P k M = P (!k) M := rfl
theorem y_an : (tAn t u env M).Is P E = (t env M).Is (kAn u env P E) E := by
  unfold tAn
  rw [is_bind]
  congr
  funext k M1
  cases k <;> rfl
theorem kAn_t : kAn u env P E true M = (u env M).Is P E := rfl
theorem kAn_f : kAn u env P E false M = P false M := rfl
theorem y_o : (tO t u env M).Is P E = (t env M).Is (kO u env P E) E := by
  unfold tO
  rw [is_bind]
  congr
  funext k M1
  cases k <;> rfl
theorem kO_t : kO u env P E true M = P true M := rfl
theorem kO_f : kO u env P E false M = (u env M).Is P E := rfl
theorem y_yes : (tYesD env M).Is P E = P true M := rfl
end
/-! ### expressions -/
def kAnd (b : ED) (env : Ev) (P : PV) (E : PX) : PV := fun w M => match truw M w with
  | some k => if k = true then (b env M).Is P E else P w M
  | none => False
def kOr (b : ED) (env : Ev) (P : PV) (E : PX) : PV := fun w M => match truw M w with
  | some k => if k = true then P w M else (b env M).Is P E
  | none => False
def kNot (P : PV) : PV := fun w M => match truw M w with
  | some k => P (.d (.bl (!k))) M
  | none => False
def kEif (a b : ED) (env : Ev) (P : PV) (E : PX) : PB := fun k M => if k = true then (a env M).Is P E else (b env M).Is P E
def kC1 (r : AD) (env : Ev) (P : PL) (E : PX) : PV := fun w M => (r env M).Is (fun ws M2 => P (w :: ws) M2) E
def kC2 (w : Wv) (P : PL) : PL := fun ws M => P (w :: ws) M
def kS1 (r : AD) (env : Ev) (P : PL) (E : PX) : PV := fun w M => oo (seqw M w) (fun p M1 => (r env M1).Is (fun ws M2 => P (p.2 ++ ws) M2) E) M
def kS2 (r : AD) (env : Ev) (P : PL) (E : PX) : Bool × List Wv → Sto → Prop := fun p M1 => (r env M1).Is (fun ws M2 => P (p.2 ++ ws) M2) E
def kS3 (us : List Wv) (P : PL) : PL := fun ws M => P (us ++ ws) M
def kTupl (P : PV) : PL := fun ws M => oo (nds M ws) (fun l M => l.length ≤ sizeLine ∧ P (.d (.tup l)) M) M
def kTup2 (P : PV) : List D → Sto → Prop := fun l M => l.length ≤ sizeLine ∧ P (.d (.tup l)) M
def kLstl (P : PV) : PL := fun ws M => oo (nds M ws) (fun l M => l.length ≤ sizeLine ∧ P (.d (.lst l)) M) M
def kLst2 (P : PV) : List D → Sto → Prop := fun l M => l.length ≤ sizeLine ∧ P (.d (.lst l)) M
def kLstM (P : PV) : PL := fun ws M => ws.length ≤ sizeLine ∧ P (.m M.length) (M ++ [.lst ws])
def kE1 (f : Wv → Sto → Rs Wv) (P : PV) (E : PX) : PV := fun w M => (f w M).Is P E
def kE2 (f : Wv → Wv → Sto → Rs Wv) (b : ED) (env : Ev) (P : PV) (E : PX) : PV := fun w M => (b env M).Is (fun u M2 => (f w u M2).Is P E) E
def kE3 (f : Wv → Wv → Sto → Rs Wv) (w : Wv) (P : PV) (E : PX) : PV := fun u M => (f w u M).Is P E
def kL (f : List Wv → Sto → Rs Wv) (P : PV) (E : PX) : PL := fun ws M => (f ws M).Is P E
def kCall (c : FD) (ds : List D) (P : PV) (E : PX) : PL := fun ws M => (c (ws ++ ds.map .d) M).Is P E
def kMe1 (t : Nat) (m : Str) (c : FD) (ds : List D) (a : AD) (env : Ev) (P : PV) (E : PX) : PV := fun w M => insw t m w M = true ∧ (a env M).Is (fun ws M2 => (c (w :: (ws ++ ds.map .d)) M2).Is P E) E
def kMe2 (c : FD) (ds : List D) (w : Wv) (P : PV) (E : PX) : PL := fun ws M => (c (w :: (ws ++ ds.map .d)) M).Is P E
def kCh1 (f f' : Wv → Wv → Sto → Rs Wv) (b c : ED) (env : Ev) (P : PV) (E : PX) : PV := fun wa M => (b env M).Is (fun wb M2 => (f wa wb M2).Is (fun k M3 => match k with
  | .d (.bl true) => (c env M3).Is (fun wc M4 => (f' wb wc M4).Is P E) E
  | .d (.bl false) => P (.d (.bl false)) M3
  | _ => False) E) E
def kCh2 (f f' : Wv → Wv → Sto → Rs Wv) (c : ED) (env : Ev) (wa : Wv) (P : PV) (E : PX) : PV := fun wb M2 => (f wa wb M2).Is (fun k M3 => match k with
  | .d (.bl true) => (c env M3).Is (fun wc M4 => (f' wb wc M4).Is P E) E
  | .d (.bl false) => P (.d (.bl false)) M3
  | _ => False) E
def kCh3 (f' : Wv → Wv → Sto → Rs Wv) (c : ED) (env : Ev) (wb : Wv) (P : PV) (E : PX) : PV := fun k M3 => match k with
  | .d (.bl true) => (c env M3).Is (fun wc M4 => (f' wb wc M4).Is P E) E
  | .d (.bl false) => P (.d (.bl false)) M3
  | _ => False
section
variable {P : PV} {Q : PL} {E : PX} {a b c o me : ED} {env : Ev} {M : Sto} {t : TD} {k : Bool} {w u : Wv} {f f' : Wv → Wv → Sto → Rs Wv} {g : Wv → Sto → Rs Wv} {lf : List Wv → Sto → Rs Wv} {r ml : AD} {x y : D} {ws us : List Wv} {fd : FD} {ds : List D} {n : Nat} {m : Str} {i j : Int}
theorem y_c : (eC x env M).Is P E = P (.d x) M := rfl
theorem y_var0 {e : Ev} : (eVar 0 (some w :: e) M).Is P E = P w M := rfl
theorem y_varS {e : Ev} {q : Option Wv} : (eVar (n + 1) (q :: e) M).Is P E = (eVar n e M).Is P E := rfl
theorem y_and : (eAnd a b env M).Is P E = (a env M).Is (kAnd b env P E) E := by
  unfold eAnd
  rw [is_bind]
  congr
  funext w M1
  unfold kAnd
  cases truw M1 w with
  | none => rfl
  | some k => cases k <;> rfl
theorem kAnd_t : kAnd b env P E (.d (.bl true)) M = (b env M).Is P E := rfl
theorem kAnd_f : kAnd b env P E (.d (.bl false)) M = P (.d (.bl false)) M := rfl
theorem y_or : (eOr a b env M).Is P E = (a env M).Is (kOr b env P E) E := by
  unfold eOr
  rw [is_bind]
  congr
  funext w M1
  unfold kOr
  cases truw M1 w with
  | none => rfl
  | some k => cases k <;> rfl
theorem kOr_t : kOr b env P E (.d (.bl true)) M = P (.d (.bl true)) M := rfl
theorem kOr_f : kOr b env P E (.d (.bl false)) M = (b env M).Is P E := rfl
theorem y_not : (eNot a env M).Is P E = (a env M).Is (kNot P) E := by
  unfold eNot
  rw [is_bind]
  congr
  funext w M1
  unfold kNot
  cases truw M1 w <;> rfl
theorem kNot_bl : kNot P (.d (.bl k)) M = P (.d (.bl (!k))) M := rfl
theorem y_eif : (eIf t a b env M).Is P E = (t env M).Is (kEif a b env P E) E := by
  unfold eIf
  rw [is_bind]
  congr
  funext k M1
  cases k <;> rfl
theorem kEif_t : kEif a b env P E true M = (a env M).Is P E := rfl
theorem kEif_f : kEif a b env P E false M = (b env M).Is P E := rfl
theorem y_aNil : (aNil env M).Is Q E = Q [] M := rfl
theorem y_aCons : (aCons a r env M).Is Q E = (a env M).Is (kC1 r env Q E) E := by
  unfold aCons
  rw [is_bind]
  congr
  funext w M1
  rw [is_bind]
  rfl
theorem kC1_ap : kC1 r env Q E w M = (r env M).Is (kC2 w Q) E := rfl
theorem kC2_ap : kC2 w Q ws M = Q (w :: ws) M := rfl
theorem y_aStar : (aStar a r env M).Is Q E = (a env M).Is (kS1 r env Q E) E := by
  unfold aStar
  rw [is_bind]
  congr
  funext w M1
  unfold kS1
  cases seqw M1 w with
  | none => rfl
  | some p =>
    show (Rs.bind _ _).Is Q E = _
    rw [is_bind]
    rfl
theorem kS1_ap : kS1 r env Q E w M = oo (seqw M w) (kS2 r env Q E) M := rfl
theorem kS2_ap : kS2 r env Q E (k, us) M = (r env M).Is (kS3 us Q) E := rfl
theorem kS3_ap : kS3 us Q ws M = Q (us ++ ws) M := rfl
theorem y_tup : (eTup ml env M).Is P E = (ml env M).Is (kTupl P) E := by
  unfold eTup
  rw [is_bind]
  congr
  funext ws M1
  unfold kTupl
  cases nds M1 ws with
  | none => rfl
  | some l =>
    by_cases h : l.length ≤ sizeLine
    · show (if l.length ≤ sizeLine then _ else _ : Rs Wv).Is P E = _
      rw [if_pos h]
      simp only [is_ok, oo_some, h, true_and]
    · show (if l.length ≤ sizeLine then _ else _ : Rs Wv).Is P E = _
      rw [if_neg h]
      simp only [is_no, oo_some, h, false_and]
theorem kTupl_ap : kTupl P ws M = oo (nds M ws) (kTup2 P) M := rfl
theorem kTup2_ap {l : List D} : kTup2 P l M = (l.length ≤ sizeLine ∧ P (.d (.tup l)) M) := rfl
theorem y_lst : (eLst ml env M).Is P E = (ml env M).Is (kLstl P) E := by
  unfold eLst
  rw [is_bind]
  congr
  funext ws M1
  unfold kLstl
  cases nds M1 ws with
  | none => rfl
  | some l =>
    by_cases h : l.length ≤ sizeLine
    · show (if l.length ≤ sizeLine then _ else _ : Rs Wv).Is P E = _
      rw [if_pos h]
      simp only [is_ok, oo_some, h, true_and]
    · show (if l.length ≤ sizeLine then _ else _ : Rs Wv).Is P E = _
      rw [if_neg h]
      simp only [is_no, oo_some, h, false_and]
theorem kLstl_ap : kLstl P ws M = oo (nds M ws) (kLst2 P) M := rfl
theorem kLst2_ap {l : List D} : kLst2 P l M = (l.length ≤ sizeLine ∧ P (.d (.lst l)) M) := rfl
theorem y_lstM : (eLstM ml env M).Is P E = (ml env M).Is (kLstM P) E := by
  unfold eLstM
  rw [is_bind]
  congr
  funext ws M1
  unfold kLstM
  by_cases h : ws.length ≤ sizeLine
  · rw [if_pos h]
    simp only [is_ok, h, true_and]
  · rw [if_neg h]
    simp only [is_no, h, false_and]
theorem kLstM_ap : kLstM P ws M = (ws.length ≤ sizeLine ∧ P (.m M.length) (M ++ [.lst ws])) := rfl
theorem y_e1 : (e1 g a env M).Is P E = (a env M).Is (kE1 g P E) E := is_bind
theorem kE1_ap : kE1 g P E w M = (g w M).Is P E := rfl
theorem y_e2 : (e2 f a b env M).Is P E = (a env M).Is (kE2 f b env P E) E := by
  unfold e2
  rw [is_bind]
  congr
  funext w M1
  rw [is_bind]
  rfl
theorem kE2_ap : kE2 f b env P E w M = (b env M).Is (kE3 f w P E) E := rfl
theorem kE3_ap : kE3 f w P E u M = (f w u M).Is P E := rfl
theorem y_eL : (eL lf ml env M).Is P E = (ml env M).Is (kL lf P E) E := is_bind
theorem kL_f1 : kL (f1 g) P E [w] M = (g w M).Is P E := rfl
theorem kL_f2 : kL (f2 f) P E [w, u] M = (f w u M).Is P E := rfl
theorem y_call : (eCall fd ds ml env M).Is P E = (ml env M).Is (kCall fd ds P E) E := is_bind
theorem kCall_ap : kCall fd [] P E ws M = (fd ws M).Is P E := by
  show (fd (ws ++ [].map .d) M).Is P E = _
  rw [List.map_nil, List.append_nil]
theorem kCall_ds : kCall fd ds P E ws M = (fd (ws ++ ds.map .d) M).Is P E := rfl
theorem y_meth : (eMeth n m fd ds o ml env M).Is P E = (o env M).Is (kMe1 n m fd ds ml env P E) E := by
  unfold eMeth
  rw [is_bind]
  congr
  funext w M1
  unfold kMe1
  by_cases h : insw n m w M1 = true
  · rw [if_pos h, is_bind]
    simp only [h, true_and]
  · rw [if_neg h, is_no]
    exact (eq_false fun z => h z.1).symm
theorem kMe1_ap : kMe1 n m fd ds ml env P E w M = (insw n m w M = true ∧ (ml env M).Is (kMe2 fd ds w P E) E) := rfl
theorem kMe2_ap : kMe2 fd [] w P E ws M = (fd (w :: ws) M).Is P E := by
  show (fd (w :: (ws ++ [].map .d)) M).Is P E = _
  rw [List.map_nil, List.append_nil]
theorem y_chain : (eChain f f' a b c env M).Is P E = (a env M).Is (kCh1 f f' b c env P E) E := by
  unfold eChain
  rw [is_bind]
  congr
  funext wa M1
  rw [is_bind]
  unfold kCh1
  congr
  funext wb M2
  rw [is_bind]
  congr
  funext k M3
  cases k with
  | m _ => rfl
  | d x =>
    cases x with
    | bl q =>
      cases q with
      | true => show (Rs.bind _ _).Is P E = _; rw [is_bind]
      | false => rfl
    | _ => rfl
theorem kCh1_ap : kCh1 f f' b c env P E w M = (b env M).Is (kCh2 f f' c env w P E) E := rfl
theorem kCh2_ap : kCh2 f f' c env w P E u M = (f w u M).Is (kCh3 f' c env u P E) E := rfl
theorem kCh3_t : kCh3 f' c env u P E (.d (.bl true)) M = (c env M).Is (kE3 f' u P E) E := rfl
theorem kCh3_f : kCh3 f' c env u P E (.d (.bl false)) M = P (.d (.bl false)) M := rfl
/-! data steps -/
theorem y_pu1 {h : D → Option D} : (pu1 h (.d x) M).Is P E = oo (h x) (kD P) M := by
  rw [pu1_d]
  cases h x <;> rfl
theorem y_pu2 {h : D → D → Option D} : (pu2 h (.d x) (.d y) M).Is P E = oo (h x y) (kD P) M := by
  rw [pu2_d]
  cases h x y <;> rfl
theorem add_int : dAdd (.int i) (.int j) = some (.int (i + j)) := rfl
theorem addI_int : dAddI (.int i) (.int j) = some (.int (i + j)) := rfl
theorem sub_int : dSub (.int i) (.int j) = some (.int (i - j)) := rfl
theorem neg_int : dNeg (.int i) = some (.int (-i)) := rfl
theorem mul_int (h : mulOk i j = true) : dMul (.int i) (.int j) = some (.int (i * j)) := by
  show (if mulOk i j = true then _ else _) = _
  rw [if_pos h]
theorem mod_int (h : 0 < j) : dMod (.int i) (.int j) = some (.int (i % j)) := by
  show (if decide (0 < j) = true then _ else _) = _
  rw [if_pos (decide_eq_true h)]
theorem div_int (h : divOk j = true) : dDiv (.int i) (.int j) = some (.int (i / j)) := by
  show (if divOk j = true then _ else _) = _
  rw [if_pos h]
theorem lt_int : dLt (.int i) (.int j) = some (.bl (decide (i < j))) := rfl
theorem le_int : dLe (.int i) (.int j) = some (.bl (decide (i ≤ j))) := rfl
theorem gt_int : dGt (.int i) (.int j) = some (.bl (decide (j < i))) := rfl
theorem ge_int : dGe (.int i) (.int j) = some (.bl (decide (j ≤ i))) := rfl
theorem eq_int : dEq (.int i) (.int j) = some (.bl (decide (i = j))) := by
  show some (D.bl (PyData.eqv (.int i) (.int j))) = _
  rw [show PyData.eqv (.int i) (.int j) = (i == j) from rfl]
  congr 2
theorem ne_int : dNe (.int i) (.int j) = some (.bl (!decide (i = j))) := by
  have h := eq_int (i := i) (j := j)
  unfold dEq at h
  unfold dNe
  cases q : peq (.int i) (.int j) with
  | none => rw [q] at h; cases h
  | some k =>
    rw [q] at h
    simp only [Option.map_some, Option.some.injEq, D.bl.injEq] at h ⊢
    rw [h]
theorem toint_int : dInt (.int i) = some (.int i) := rfl
theorem toint_bl : dInt (.bl k) = some (.int (if k then 1 else 0)) := rfl
theorem tostr_str {z : Str} : dStr (.str z) = some (.str z) := rfl
theorem y_isN : (isN w (.d .non) M).Is P E = P (.d (.bl (isNon w))) M := rfl
theorem y_notN : (notN w (.d .non) M).Is P E = P (.d (.bl (!isNon w))) M := rfl
/-! subscripts, len -/
def kIx (s : Option (Bool × List Wv)) (w : Wv) (i : Int) (P : PV) (E : PX) (M : Sto) : Prop := match s with
  | some (_, ws) => oo (atI ws i) P M
  | none => (ixw w (.d (.int i)) M).Is P E
theorem y_ixL {l : List D} : (ixw (.d (.lst l)) (.d (.int i)) M).Is P E = oo (atI (l.map .d) i) P M := by
  unfold ixw
  simp only [seqw_lst]
  cases atI (l.map Wv.d) i <;> rfl
theorem y_ixT {l : List D} : (ixw (.d (.tup l)) (.d (.int i)) M).Is P E = oo (atI (l.map .d) i) P M := by
  unfold ixw
  simp only [seqw_tup]
  cases atI (l.map Wv.d) i <;> rfl
theorem y_ixSc {l : List D} : (ixw (.d (.scr l)) (.d (.int i)) M).Is P E = oo (atI (l.map .d) i) P M := by
  unfold ixw
  simp only [seqw_scr]
  cases atI (l.map Wv.d) i <;> rfl
theorem y_ixM0 : (ixw (.m 0) (.d (.int i)) (.lst ws :: M)).Is P E = oo (atI ws i) P (.lst ws :: M) := by
  unfold ixw
  simp only [seqw, nw, List.getElem?_cons_zero]
  cases atI ws i <;> rfl
theorem y_lenL {l : List D} : (lenw (.d (.lst l)) M).Is P E = P (.d (.int l.length)) M := by
  unfold lenw
  simp only [seqw_lst, List.length_map]
  rfl
theorem y_lenT {l : List D} : (lenw (.d (.tup l)) M).Is P E = P (.d (.int l.length)) M := by
  unfold lenw
  simp only [seqw_tup, List.length_map]
  rfl
theorem y_lenSc {l : List D} : (lenw (.d (.scr l)) M).Is P E = P (.d (.int l.length)) M := by
  unfold lenw
  simp only [seqw_scr, List.length_map]
  rfl
theorem y_lenS {z : Str} (h : z.length ≤ sizeLine) : (lenw (.d (.str z)) M).Is P E = P (.d (.int z.length)) M := by
  unfold lenw
  show (if z.length ≤ sizeLine then _ else _ : Rs Wv).Is P E = _
  rw [if_pos h]
  rfl
theorem y_listL {l : List D} : (listw (.d (.lst l)) M).Is P E = P (.d (.lst l)) M := by
  unfold listw
  simp only [seqw_lst, nds_d]
  rfl
theorem y_listT {l : List D} : (listw (.d (.tup l)) M).Is P E = P (.d (.lst l)) M := by
  unfold listw
  simp only [seqw_tup, nds_d]
  rfl
theorem y_listSc {l : List D} : (listw (.d (.scr l)) M).Is P E = P (.d (.lst l)) M := by
  unfold listw
  simp only [seqw_scr, nds_d]
  rfl
theorem y_tupL {l : List D} : (tupw (.d (.lst l)) M).Is P E = P (.d (.tup l)) M := by
  unfold tupw
  simp only [seqw_lst, nds_d]
  rfl
theorem y_tupT {l : List D} : (tupw (.d (.tup l)) M).Is P E = P (.d (.tup l)) M := by
  unfold tupw
  simp only [seqw_tup, nds_d]
  rfl
theorem nds_cons : nds M (.d x :: ws) = (nds M ws).map (x :: ·) := by
  rw [nds, nd_d]
  cases nds M ws <;> rfl
theorem nds_nil : nds M [] = some [] := rfl
end
section
variable {α : Type} {a b c d e f : α} {l : List α}
theorem atI_n {k : Nat} (h : k < l.length) : atI l (k : Int) = some l[k] := by
  unfold atI ixN
  rw [if_pos (Int.natCast_nonneg k), if_pos (by omega)]
  simp only [Int.toNat_natCast, Option.bind_some]
  exact List.getElem?_eq_getElem h
theorem at0 : atI (a :: l) 0 = some a := atI_n (k := 0) (l := a :: l) (by simp)
theorem at1 : atI (a :: b :: l) 1 = some b := atI_n (k := 1) (l := a :: b :: l) (by simp)
theorem at2 : atI (a :: b :: c :: l) 2 = some c := atI_n (k := 2) (l := a :: b :: c :: l) (by simp)
theorem at3 : atI (a :: b :: c :: d :: l) 3 = some d := atI_n (k := 3) (l := a :: b :: c :: d :: l) (by simp)
theorem at4 : atI (a :: b :: c :: d :: e :: l) 4 = some e := atI_n (k := 4) (l := a :: b :: c :: d :: e :: l) (by simp)
theorem at5 : atI (a :: b :: c :: d :: e :: f :: l) 5 = some f := atI_n (k := 5) (l := a :: b :: c :: d :: e :: f :: l) (by simp)
theorem atM1 : atI [a] (-1) = some a := rfl
theorem atM2 : atI [a, b] (-1) = some b := rfl
theorem atM3 : atI [a, b, c] (-1) = some c := rfl
theorem atI_last (h : l ≠ []) : atI l (-1) = some (l.getLast h) := by
  have hl : 0 < l.length := List.length_pos_iff.mpr h
  unfold atI ixN
  rw [if_neg (by decide), if_pos (by omega)]
  simp only [Option.bind_some]
  have e : ((-1 : Int) + (l.length : Int)).toNat = l.length - 1 := by omega
  rw [e, List.getLast_eq_getElem, List.getElem?_eq_getElem]
end
/-! ### a def -/
def kFn (n : Nat) (P : PV) (E : PX) : PO := fun o M => match o with
  | .nx _ => (outC n (.d .non) M).Is P E
  | .rt w => (outC n w M).Is P E
  | .xc _ x => (outX n x M).Is P E
  | _ => False
def kFnM (P : PV) (E : PX) : PO := fun o M => match o with
  | .nx _ => P (.d .non) M
  | .rt w => P w M
  | .xc _ x => E x M
  | _ => False
section
variable {P : PV} {E : PX} {body : SD} {n : Nat} {ws : List Wv} {M : Sto} {e : Ev} {w : Wv} {x : Exn} {d : D}
theorem y_fnD : (fnD body n ws M).Is P E = (body (ws.map some ++ List.replicate (n - ws.length) none) M).Is (kFn M.length P E) nox := by
  unfold fnD fnB
  cases body (ws.map some ++ List.replicate (n - ws.length) none) M with
  | ok o M' => cases o <;> rfl
  | ex x M' => rfl
  | no => rfl
theorem kFn_nx : kFn n P E (.nx e) M = (outC n (.d .non) M).Is P E := rfl
theorem kFn_rt : kFn n P E (.rt w) M = (outC n w M).Is P E := rfl
theorem kFn_xc : kFn n P E (.xc e x) M = (outX n x M).Is P E := rfl
theorem y_fnM : (fnM body n ws M).Is P E = (body (ws.map some ++ List.replicate (n - ws.length) none) M).Is (kFnM P E) nox := by
  unfold fnM fnB
  cases body (ws.map some ++ List.replicate (n - ws.length) none) M with
  | ok o M' => cases o <;> rfl
  | ex x M' => rfl
  | no => rfl
theorem kFnM_nx : kFnM P E (.nx e) M = P (.d .non) M := rfl
theorem kFnM_rt : kFnM P E (.rt w) M = P w M := rfl
theorem kFnM_xc : kFnM P E (.xc e x) M = E x M := rfl
theorem y_outC : (outC n (.d d) M).Is P E = ((M.take n).all (MO.below n) = true ∧ P (.d d) (M.take n)) := by
  unfold outC prep
  simp only [Wv.below, if_true]
  by_cases h : (M.take n).all (MO.below n) = true
  · rw [if_pos h]
    simp only [h, true_and, is_ok]
  · rw [if_neg h, is_no]
    exact (eq_false fun z => h z.1).symm
theorem y_outC0 : (outC 0 (.d d) M).Is P E = P (.d d) [] := by
  rw [y_outC]
  simp only [List.take_zero, List.all_nil, true_and]
theorem y_callA {m : Nat} {f : FD} (h : ws.length = m) : (callA m f ws M).Is P E = (f ws M).Is P E := by
  unfold callA
  rw [if_pos h]
end
end DL

/-! Layer D: the defs that stand in every law: the pool, a draw, _law_same. -/
namespace DL
open PySem
theorem zsz {n : Nat} (h : n ≤ 100) : (n ≤ PySem.sizeLine) = True := eq_true (Nat.le_trans h (by decide))
def g_pool : FD := fnM (sRet (eLstM (aCons (eL (f1 listw) (aCons (eVar 0) aNil)) (aCons (eC (.int 0)) (aCons (eC (.int 0)) (aCons (eC (.int 1)) (aCons (eC (.int 0)) (aCons (eVar 1) aNil)))))))) 2
def poolO (l : List Int) (i a b c d : Int) : MO := .lst [.d (.lst (l.map .int)), .d (.int i), .d (.int a), .d (.int b), .d (.int c), .d (.int d)]
def PoolIs (p : MO) : Prop := ∃ l i a b c d, 0 ≤ i ∧ p = poolO l i a b c d
theorem PoolIs.below {p : MO} (h : PoolIs p) : p.below 1 = true := by
  obtain ⟨l, i, a, b, c, d, _, rfl⟩ := h
  rfl
theorem pool_is {l : List Int} {b : Int} {P : PV} {E : PX} (h : ∀ p, PoolIs p → P (.m 0) [p]) : (g_pool [.d (.scr (l.map .int)), .d (.int b)] []).Is P E := by
  unfold g_pool
  simp only [DL.oo_some, DL.oo_none, DL.kD_ap, DL.kX_ap, DL.y_next, DL.y_seq, DL.kSeq_nx, DL.kSeq_rt, DL.kSeq_bk, DL.kSeq_ct, DL.kSeq_xc, DL.y_expr, DL.kExpr_ap, DL.y_ret, DL.kRet_ap, DL.y_retN, DL.y_if, DL.kIf_t, DL.kIf_f, DL.y_never, DL.y_brk, DL.y_cnt, DL.y_asg, DL.kAsg_n, DL.kNx_ap, DL.y_par, DL.kPar_ap, DL.y_for, DL.kFor_its, DL.y_tgN, DL.y_tgT, DL.y_tgsC, DL.kGc_ap, DL.y_tgsN, DL.y_tb, DL.kTb_ap, DL.y_tru, DL.kTru_ap, DL.truw_non, DL.truw_bl, DL.truw_int, DL.truw_tup, DL.truw_lst, DL.truw_str, DL.y_nt, DL.kNt_ap, DL.y_an, DL.kAn_t, DL.kAn_f, DL.y_o, DL.kO_t, DL.kO_f, DL.y_yes, DL.y_c, DL.y_var0, DL.y_varS, DL.y_and, DL.kAnd_t, DL.kAnd_f, DL.y_or, DL.kOr_t, DL.kOr_f, DL.y_not, DL.kNot_bl, DL.y_eif, DL.kEif_t, DL.kEif_f, DL.y_aNil, DL.y_aCons, DL.kC1_ap, DL.kC2_ap, DL.y_aStar, DL.kS1_ap, DL.kS2_ap, DL.kS3_ap, DL.y_tup, DL.kTupl_ap, DL.kTup2_ap, DL.y_lst, DL.kLstl_ap, DL.kLst2_ap, DL.y_lstM, DL.kLstM_ap, DL.y_e1, DL.kE1_ap, DL.y_e2, DL.kE2_ap, DL.kE3_ap, DL.y_eL, DL.kL_f1, DL.kL_f2, DL.y_call, DL.kCall_ap, DL.y_meth, DL.kMe1_ap, DL.kMe2_ap, DL.y_chain, DL.kCh1_ap, DL.kCh2_ap, DL.kCh3_t, DL.kCh3_f, DL.y_pu1, DL.y_pu2, DL.add_int, DL.addI_int, DL.sub_int, DL.neg_int, DL.mul_int, DL.mod_int, DL.div_int, DL.lt_int, DL.le_int, DL.gt_int, DL.ge_int, DL.eq_int, DL.ne_int, DL.toint_int, DL.toint_bl, DL.tostr_str, DL.y_isN, DL.y_notN, DL.y_ixL, DL.y_ixT, DL.y_ixSc, DL.y_ixM0, DL.y_lenL, DL.y_lenT, DL.y_lenSc, DL.y_lenS, DL.y_listL, DL.y_listT, DL.y_listSc, DL.y_tupL, DL.y_tupT, DL.nds_cons, DL.nds_nil, DL.at0, DL.at1, DL.at2, DL.at3, DL.at4, DL.at5, DL.atM1, DL.atM2, DL.atM3, DL.y_fnD, DL.kFn_nx, DL.kFn_rt, DL.kFn_xc, DL.y_fnM, DL.kFnM_nx, DL.kFnM_rt, DL.kFnM_xc, DL.y_outC, DL.y_outC0, DL.y_callA, DL.is_ok, DL.is_bind, DL.is_sx, DL.is_nx, DL.nds_d, DL.seqw_tup, DL.seqw_lst, DL.seqw_scr, List.map_cons, List.map_nil, List.cons_append, List.nil_append, List.length_cons, List.length_nil, List.replicate_succ, List.replicate_zero, List.set_cons_zero, List.set_cons_succ, Nat.reduceSub, Nat.reduceAdd, DL.nd_d, DL.isNon, Bool.not_true, Bool.not_false, Option.map_some, Option.bind_some, List.isEmpty_cons, List.isEmpty_nil, decide_true, decide_false, if_true, if_false, ite_true, ite_false, true_and, Bool.false_eq_true, List.length_map, List.take_zero, List.all_nil, List.take_succ_cons, List.all_cons, Bool.and_true, and_true, and_self, Nat.reduceLeDiff, Int.reduceLT, Int.reduceLE, Int.reduceSub, Int.reduceAdd, Int.cast_ofNat_Int, Bool.false_bne, Bool.true_bne, DL.zsz, Nat.reduceLeDiff]
  exact h _ ⟨l, 0, 0, 1, 0, b, Int.le_refl _, rfl⟩
theorem poolA_is {l : List Int} {b : Int} {P : PV} {E : PX} (h : ∀ p, PoolIs p → P (.m 0) [p]) : (callA 2 g_pool [.d (.scr (l.map .int)), .d (.int b)] []).Is P E := by
  rw [y_callA (m := 2) (ws := [.d (.scr (l.map .int)), .d (.int b)]) rfl]
  exact pool_is h
def b_draw : SD := (sSeq (sIf (tAn (tb (e2 (pu2 dLe) (e2 ixw (eVar 0) (eC (.int 2))) (eC (.int 0)))) (tAn (tb (e2 (pu2 dLe) (e2 ixw (eVar 0) (eC (.int 4))) (eC (.int 0)))) (tb (e2 (pu2 dLt) (e2 ixw (eVar 0) (eC (.int 1))) (eL (f1 lenw) (aCons (e2 ixw (eVar 0) (eC (.int 0))) aNil)))))) (sSeq (sAsg (tgN 2) (e2 ixw (e2 ixw (eVar 0) (eC (.int 0))) (e2 ixw (eVar 0) (eC (.int 1)))))
    (sSeq (sAsg (tgS (eVar 0) (eC (.int 1))) (e2 (pu2 dAdd) (e2 ixw (eVar 0) (eC (.int 1))) (eC (.int 1))))
    (sSeq (sAsg (tgS (eVar 0) (eC (.int 3))) (e2 (pu2 dMod) (eL (f1 (pu1 dInt)) (aCons (e2 (pu2 dAdd) (e2 (pu2 dMul) (e2 ixw (eVar 0) (eC (.int 3))) (eC (.int 31))) (eVar 2)) aNil)) (eC (.int 2147483647))))
    (sSeq (sAsg (tgS (eVar 0) (eC (.int 4))) (eC (.int 7)))
    (sIf (tb (e2 (pu2 dGe) (eVar 2) (e2 (pu2 dPow) (eC (.int 10)) (eC (.int 18))))) (sAsg (tgS (eVar 0) (eC (.int 2))) (eVar 2)) sNext))))) sNext)
    (sSeq (sIf (tb (e2 (pu2 dGt) (e2 ixw (eVar 0) (eC (.int 2))) (eC (.int 0)))) (sSeq (sAsg (tgN 3) (e2 (pu2 dMod) (eL (f1 (pu1 dInt)) (aCons (e2 ixw (eVar 0) (eC (.int 2))) aNil)) (eVar 1)))
    (sSeq (sAsg (tgS (eVar 0) (eC (.int 2))) (e2 (pu2 dDiv) (e2 ixw (eVar 0) (eC (.int 2))) (eVar 1)))
    (sSeq (sAsg (tgS (eVar 0) (eC (.int 4))) (eC (.int 0)))
    (sRet (eVar 3))))) sNext)
    (sSeq (sAsg (tgS (eVar 0) (eC (.int 4))) (e2 (pu2 dSub) (e2 ixw (eVar 0) (eC (.int 4))) (eC (.int 1))))
    (sSeq (sAsg (tgS (eVar 0) (eC (.int 3))) (e2 (pu2 dMod) (eL (f1 (pu1 dInt)) (aCons (e2 (pu2 dAdd) (e2 (pu2 dMul) (e2 ixw (eVar 0) (eC (.int 3))) (eC (.int 48271))) (eC (.int 12345))) aNil)) (eC (.int 2147483647))))
    (sRet (e2 (pu2 dMod) (e2 (pu2 dMod) (eL (f1 (pu1 dInt)) (aCons (e2 (pu2 dAdd) (e2 (pu2 dMul) (e2 ixw (eVar 0) (eC (.int 3))) (eC (.int 69621))) (eC (.int 7919))) aNil)) (eC (.int 2147483647))) (eVar 1)))))))
def g_draw : FD := fnD b_draw 4
theorem mul_small {i j : Int} (h : -(2 ^ 64) < j ∧ j < 2 ^ 64) : dMul (.int i) (.int j) = some (.int (i * j)) := mul_int (by
  unfold mulOk
  rw [decide_eq_true h]
  simp)
theorem pow_18 : dPow (.int 10) (.int 18) = some (.int 1000000000000000000) := by
  show (if decide ((0 : Int) ≤ 18 ∧ (18 : Int) ≤ 1000000 ∧ (10 : Int).natAbs < 2 ^ 64) = true then some (D.int (10 ^ (18 : Int).toNat)) else none) = _
  rw [if_pos (by decide)]
  rfl
theorem lst0 {ws : List Wv} {M : Sto} : lstAt (.m 0) (.lst ws :: M) = some (0, ws) := rfl
section
variable {a b c d e f w : Wv} {env : Ev} {M : Sto} {Q : Ev → Sto → Prop} {E : PX}
theorem tg1 : (tgS (eVar 0) (eC (.int 1)) w (some (.m 0) :: env) (.lst [a, b, c, d, e, f] :: M)).Is Q E = Q (some (.m 0) :: env) (.lst [a, w, c, d, e, f] :: M) := rfl
theorem tg2 : (tgS (eVar 0) (eC (.int 2)) w (some (.m 0) :: env) (.lst [a, b, c, d, e, f] :: M)).Is Q E = Q (some (.m 0) :: env) (.lst [a, b, w, d, e, f] :: M) := rfl
theorem tg3 : (tgS (eVar 0) (eC (.int 3)) w (some (.m 0) :: env) (.lst [a, b, c, d, e, f] :: M)).Is Q E = Q (some (.m 0) :: env) (.lst [a, b, c, w, e, f] :: M) := rfl
theorem tg4 : (tgS (eVar 0) (eC (.int 4)) w (some (.m 0) :: env) (.lst [a, b, c, d, e, f] :: M)).Is Q E = Q (some (.m 0) :: env) (.lst [a, b, c, d, w, f] :: M) := rfl
end
section
variable {s : Int} {P : PV} {E : PX}
/-- what stands ahead of a draw's second half -/
theorem draw2 {l : List Int} {i a b c d : Int} {w2 w3 : Option Wv} (h0 : 0 < s) (hs : divOk s = true) (hi : 0 ≤ i) (hP : ∀ v p', 0 ≤ v → v < s → PoolIs p' → P (.d (.int v)) [p']) :
    ((sSeq (sIf (tb (e2 (pu2 dGt) (e2 ixw (eVar 0) (eC (.int 2))) (eC (.int 0)))) (sSeq (sAsg (tgN 3) (e2 (pu2 dMod) (eL (f1 (pu1 dInt)) (aCons (e2 ixw (eVar 0) (eC (.int 2))) aNil)) (eVar 1)))
    (sSeq (sAsg (tgS (eVar 0) (eC (.int 2))) (e2 (pu2 dDiv) (e2 ixw (eVar 0) (eC (.int 2))) (eVar 1)))
    (sSeq (sAsg (tgS (eVar 0) (eC (.int 4))) (eC (.int 0)))
    (sRet (eVar 3))))) sNext)
    (sSeq (sAsg (tgS (eVar 0) (eC (.int 4))) (e2 (pu2 dSub) (e2 ixw (eVar 0) (eC (.int 4))) (eC (.int 1))))
    (sSeq (sAsg (tgS (eVar 0) (eC (.int 3))) (e2 (pu2 dMod) (eL (f1 (pu1 dInt)) (aCons (e2 (pu2 dAdd) (e2 (pu2 dMul) (e2 ixw (eVar 0) (eC (.int 3))) (eC (.int 48271))) (eC (.int 12345))) aNil)) (eC (.int 2147483647))))
    (sRet (e2 (pu2 dMod) (e2 (pu2 dMod) (eL (f1 (pu1 dInt)) (aCons (e2 (pu2 dAdd) (e2 (pu2 dMul) (e2 ixw (eVar 0) (eC (.int 3))) (eC (.int 69621))) (eC (.int 7919))) aNil)) (eC (.int 2147483647))) (eVar 1)))))) [some (.m 0), some (.d (.int s)), w2, w3] [poolO l i a b c d]).Is (kFn 1 P E) nox := by
  unfold poolO
  by_cases ha : 0 < a
  · simp only [DL.oo_some, DL.oo_none, DL.kD_ap, DL.kX_ap, DL.y_next, DL.y_seq, DL.kSeq_nx, DL.kSeq_rt, DL.kSeq_bk, DL.kSeq_ct, DL.kSeq_xc, DL.y_expr, DL.kExpr_ap, DL.y_ret, DL.kRet_ap, DL.y_retN, DL.y_if, DL.kIf_t, DL.kIf_f, DL.y_never, DL.y_brk, DL.y_cnt, DL.y_asg, DL.kAsg_n, DL.kNx_ap, DL.y_par, DL.kPar_ap, DL.y_for, DL.kFor_its, DL.y_tgN, DL.y_tgT, DL.y_tgsC, DL.kGc_ap, DL.y_tgsN, DL.y_tb, DL.kTb_ap, DL.y_tru, DL.kTru_ap, DL.truw_non, DL.truw_bl, DL.truw_int, DL.truw_tup, DL.truw_lst, DL.truw_str, DL.y_nt, DL.kNt_ap, DL.y_an, DL.kAn_t, DL.kAn_f, DL.y_o, DL.kO_t, DL.kO_f, DL.y_yes, DL.y_c, DL.y_var0, DL.y_varS, DL.y_and, DL.kAnd_t, DL.kAnd_f, DL.y_or, DL.kOr_t, DL.kOr_f, DL.y_not, DL.kNot_bl, DL.y_eif, DL.kEif_t, DL.kEif_f, DL.y_aNil, DL.y_aCons, DL.kC1_ap, DL.kC2_ap, DL.y_aStar, DL.kS1_ap, DL.kS2_ap, DL.kS3_ap, DL.y_tup, DL.kTupl_ap, DL.kTup2_ap, DL.y_lst, DL.kLstl_ap, DL.kLst2_ap, DL.y_lstM, DL.kLstM_ap, DL.y_e1, DL.kE1_ap, DL.y_e2, DL.kE2_ap, DL.kE3_ap, DL.y_eL, DL.kL_f1, DL.kL_f2, DL.y_call, DL.kCall_ap, DL.y_meth, DL.kMe1_ap, DL.kMe2_ap, DL.y_chain, DL.kCh1_ap, DL.kCh2_ap, DL.kCh3_t, DL.kCh3_f, DL.y_pu1, DL.y_pu2, DL.add_int, DL.addI_int, DL.sub_int, DL.neg_int, DL.mul_int, DL.mod_int, DL.div_int, DL.lt_int, DL.le_int, DL.gt_int, DL.ge_int, DL.eq_int, DL.ne_int, DL.toint_int, DL.toint_bl, DL.tostr_str, DL.y_isN, DL.y_notN, DL.y_ixL, DL.y_ixT, DL.y_ixSc, DL.y_ixM0, DL.y_lenL, DL.y_lenT, DL.y_lenSc, DL.y_lenS, DL.y_listL, DL.y_listT, DL.y_listSc, DL.y_tupL, DL.y_tupT, DL.nds_cons, DL.nds_nil, DL.at0, DL.at1, DL.at2, DL.at3, DL.at4, DL.at5, DL.atM1, DL.atM2, DL.atM3, DL.y_fnD, DL.kFn_nx, DL.kFn_rt, DL.kFn_xc, DL.y_fnM, DL.kFnM_nx, DL.kFnM_rt, DL.kFnM_xc, DL.y_outC, DL.y_outC0, DL.y_callA, DL.is_ok, DL.is_bind, DL.is_sx, DL.is_nx, DL.nds_d, DL.seqw_tup, DL.seqw_lst, DL.seqw_scr, List.map_cons, List.map_nil, List.cons_append, List.nil_append, List.length_cons, List.length_nil, List.replicate_succ, List.replicate_zero, List.set_cons_zero, List.set_cons_succ, Nat.reduceSub, Nat.reduceAdd, DL.nd_d, DL.isNon, Bool.not_true, Bool.not_false, Option.map_some, Option.bind_some, List.isEmpty_cons, List.isEmpty_nil, decide_true, decide_false, if_true, if_false, ite_true, ite_false, true_and, Bool.false_eq_true, List.length_map, List.take_zero, List.all_nil, List.take_succ_cons, List.all_cons, Bool.and_true, and_true, and_self, Nat.reduceLeDiff, Int.reduceLT, Int.reduceLE, Int.reduceSub, Int.reduceAdd, Int.cast_ofNat_Int, Bool.false_bne, Bool.true_bne, DL.zsz, y_asgG, kAsg_g, ha, h0, hs, tg2, tg4, List.take_succ_cons, List.take_zero, List.all_cons, List.all_nil, Bool.and_true]
    exact ⟨rfl, hP _ _ (Int.emod_nonneg _ (by omega)) (Int.emod_lt_of_pos _ h0) ⟨l, i, _, b, 0, d, hi, rfl⟩⟩
  · simp only [DL.oo_some, DL.oo_none, DL.kD_ap, DL.kX_ap, DL.y_next, DL.y_seq, DL.kSeq_nx, DL.kSeq_rt, DL.kSeq_bk, DL.kSeq_ct, DL.kSeq_xc, DL.y_expr, DL.kExpr_ap, DL.y_ret, DL.kRet_ap, DL.y_retN, DL.y_if, DL.kIf_t, DL.kIf_f, DL.y_never, DL.y_brk, DL.y_cnt, DL.y_asg, DL.kAsg_n, DL.kNx_ap, DL.y_par, DL.kPar_ap, DL.y_for, DL.kFor_its, DL.y_tgN, DL.y_tgT, DL.y_tgsC, DL.kGc_ap, DL.y_tgsN, DL.y_tb, DL.kTb_ap, DL.y_tru, DL.kTru_ap, DL.truw_non, DL.truw_bl, DL.truw_int, DL.truw_tup, DL.truw_lst, DL.truw_str, DL.y_nt, DL.kNt_ap, DL.y_an, DL.kAn_t, DL.kAn_f, DL.y_o, DL.kO_t, DL.kO_f, DL.y_yes, DL.y_c, DL.y_var0, DL.y_varS, DL.y_and, DL.kAnd_t, DL.kAnd_f, DL.y_or, DL.kOr_t, DL.kOr_f, DL.y_not, DL.kNot_bl, DL.y_eif, DL.kEif_t, DL.kEif_f, DL.y_aNil, DL.y_aCons, DL.kC1_ap, DL.kC2_ap, DL.y_aStar, DL.kS1_ap, DL.kS2_ap, DL.kS3_ap, DL.y_tup, DL.kTupl_ap, DL.kTup2_ap, DL.y_lst, DL.kLstl_ap, DL.kLst2_ap, DL.y_lstM, DL.kLstM_ap, DL.y_e1, DL.kE1_ap, DL.y_e2, DL.kE2_ap, DL.kE3_ap, DL.y_eL, DL.kL_f1, DL.kL_f2, DL.y_call, DL.kCall_ap, DL.y_meth, DL.kMe1_ap, DL.kMe2_ap, DL.y_chain, DL.kCh1_ap, DL.kCh2_ap, DL.kCh3_t, DL.kCh3_f, DL.y_pu1, DL.y_pu2, DL.add_int, DL.addI_int, DL.sub_int, DL.neg_int, DL.mul_int, DL.mod_int, DL.div_int, DL.lt_int, DL.le_int, DL.gt_int, DL.ge_int, DL.eq_int, DL.ne_int, DL.toint_int, DL.toint_bl, DL.tostr_str, DL.y_isN, DL.y_notN, DL.y_ixL, DL.y_ixT, DL.y_ixSc, DL.y_ixM0, DL.y_lenL, DL.y_lenT, DL.y_lenSc, DL.y_lenS, DL.y_listL, DL.y_listT, DL.y_listSc, DL.y_tupL, DL.y_tupT, DL.nds_cons, DL.nds_nil, DL.at0, DL.at1, DL.at2, DL.at3, DL.at4, DL.at5, DL.atM1, DL.atM2, DL.atM3, DL.y_fnD, DL.kFn_nx, DL.kFn_rt, DL.kFn_xc, DL.y_fnM, DL.kFnM_nx, DL.kFnM_rt, DL.kFnM_xc, DL.y_outC, DL.y_outC0, DL.y_callA, DL.is_ok, DL.is_bind, DL.is_sx, DL.is_nx, DL.nds_d, DL.seqw_tup, DL.seqw_lst, DL.seqw_scr, List.map_cons, List.map_nil, List.cons_append, List.nil_append, List.length_cons, List.length_nil, List.replicate_succ, List.replicate_zero, List.set_cons_zero, List.set_cons_succ, Nat.reduceSub, Nat.reduceAdd, DL.nd_d, DL.isNon, Bool.not_true, Bool.not_false, Option.map_some, Option.bind_some, List.isEmpty_cons, List.isEmpty_nil, decide_true, decide_false, if_true, if_false, ite_true, ite_false, true_and, Bool.false_eq_true, List.length_map, List.take_zero, List.all_nil, List.take_succ_cons, List.all_cons, Bool.and_true, and_true, and_self, Nat.reduceLeDiff, Int.reduceLT, Int.reduceLE, Int.reduceSub, Int.reduceAdd, Int.cast_ofNat_Int, Bool.false_bne, Bool.true_bne, DL.zsz, y_asgG, kAsg_g, ha, h0, hs, tg3, tg4, mul_small (i := b) (j := 48271) (by decide), mul_small (j := 69621) (by decide), Int.reduceLT]
    exact ⟨rfl, hP _ _ (Int.emod_nonneg _ (by omega)) (Int.emod_lt_of_pos _ h0) ⟨l, i, _, _, _, d, hi, rfl⟩⟩
theorem draw_is {p : MO} (h0 : 0 < s) (hs : divOk s = true) (hp : PoolIs p) (hP : ∀ v p', 0 ≤ v → v < s → PoolIs p' → P (.d (.int v)) [p']) : (g_draw [.m 0, .d (.int s)] [p]).Is P E := by
  obtain ⟨l, i, a, b, c, d, hi, rfl⟩ := hp
  have k := fun {i' a' b' c' : Int} {w2 w3 : Option Wv} (hi' : 0 ≤ i') => draw2 (E := E) (l := l) (i := i') (a := a') (b := b') (c := c') (d := d) (w2 := w2) (w3 := w3) h0 hs hi' hP
  unfold poolO at k
  unfold g_draw b_draw poolO
  rw [y_fnD]
  by_cases h1 : a ≤ 0
  · by_cases h2 : c ≤ 0
    · by_cases h3 : i < l.length
      · have hx : L2.atI (List.map Wv.d (l.map D.int)) i = some (.d (.int l[i.toNat])) := by
          have e := atI_n (l := List.map Wv.d (l.map D.int)) (k := i.toNat) (by rw [List.length_map, List.length_map]; omega)
          rw [Int.toNat_of_nonneg hi] at e
          rw [e]
          simp only [List.getElem_map]
        rw [y_seq]
        generalize hk : kSeq _ _ _ = R
        by_cases h4 : (1000000000000000000 : Int) ≤ l[i.toNat]
        · simp only [DL.oo_some, DL.oo_none, DL.kD_ap, DL.kX_ap, DL.y_next, DL.y_seq, DL.kSeq_nx, DL.kSeq_rt, DL.kSeq_bk, DL.kSeq_ct, DL.kSeq_xc, DL.y_expr, DL.kExpr_ap, DL.y_ret, DL.kRet_ap, DL.y_retN, DL.y_if, DL.kIf_t, DL.kIf_f, DL.y_never, DL.y_brk, DL.y_cnt, DL.y_asg, DL.kAsg_n, DL.kNx_ap, DL.y_par, DL.kPar_ap, DL.y_for, DL.kFor_its, DL.y_tgN, DL.y_tgT, DL.y_tgsC, DL.kGc_ap, DL.y_tgsN, DL.y_tb, DL.kTb_ap, DL.y_tru, DL.kTru_ap, DL.truw_non, DL.truw_bl, DL.truw_int, DL.truw_tup, DL.truw_lst, DL.truw_str, DL.y_nt, DL.kNt_ap, DL.y_an, DL.kAn_t, DL.kAn_f, DL.y_o, DL.kO_t, DL.kO_f, DL.y_yes, DL.y_c, DL.y_var0, DL.y_varS, DL.y_and, DL.kAnd_t, DL.kAnd_f, DL.y_or, DL.kOr_t, DL.kOr_f, DL.y_not, DL.kNot_bl, DL.y_eif, DL.kEif_t, DL.kEif_f, DL.y_aNil, DL.y_aCons, DL.kC1_ap, DL.kC2_ap, DL.y_aStar, DL.kS1_ap, DL.kS2_ap, DL.kS3_ap, DL.y_tup, DL.kTupl_ap, DL.kTup2_ap, DL.y_lst, DL.kLstl_ap, DL.kLst2_ap, DL.y_lstM, DL.kLstM_ap, DL.y_e1, DL.kE1_ap, DL.y_e2, DL.kE2_ap, DL.kE3_ap, DL.y_eL, DL.kL_f1, DL.kL_f2, DL.y_call, DL.kCall_ap, DL.y_meth, DL.kMe1_ap, DL.kMe2_ap, DL.y_chain, DL.kCh1_ap, DL.kCh2_ap, DL.kCh3_t, DL.kCh3_f, DL.y_pu1, DL.y_pu2, DL.add_int, DL.addI_int, DL.sub_int, DL.neg_int, DL.mul_int, DL.mod_int, DL.div_int, DL.lt_int, DL.le_int, DL.gt_int, DL.ge_int, DL.eq_int, DL.ne_int, DL.toint_int, DL.toint_bl, DL.tostr_str, DL.y_isN, DL.y_notN, DL.y_ixL, DL.y_ixT, DL.y_ixSc, DL.y_ixM0, DL.y_lenL, DL.y_lenT, DL.y_lenSc, DL.y_lenS, DL.y_listL, DL.y_listT, DL.y_listSc, DL.y_tupL, DL.y_tupT, DL.nds_cons, DL.nds_nil, DL.at0, DL.at1, DL.at2, DL.at3, DL.at4, DL.at5, DL.atM1, DL.atM2, DL.atM3, DL.y_fnD, DL.kFn_nx, DL.kFn_rt, DL.kFn_xc, DL.y_fnM, DL.kFnM_nx, DL.kFnM_rt, DL.kFnM_xc, DL.y_outC, DL.y_outC0, DL.y_callA, DL.is_ok, DL.is_bind, DL.is_sx, DL.is_nx, DL.nds_d, DL.seqw_tup, DL.seqw_lst, DL.seqw_scr, List.map_cons, List.map_nil, List.cons_append, List.nil_append, List.length_cons, List.length_nil, List.replicate_succ, List.replicate_zero, List.set_cons_zero, List.set_cons_succ, Nat.reduceSub, Nat.reduceAdd, DL.nd_d, DL.isNon, Bool.not_true, Bool.not_false, Option.map_some, Option.bind_some, List.isEmpty_cons, List.isEmpty_nil, decide_true, decide_false, if_true, if_false, ite_true, ite_false, true_and, Bool.false_eq_true, List.length_map, List.take_zero, List.all_nil, List.take_succ_cons, List.all_cons, Bool.and_true, and_true, and_self, Nat.reduceLeDiff, Int.reduceLT, Int.reduceLE, Int.reduceSub, Int.reduceAdd, Int.cast_ofNat_Int, Bool.false_bne, Bool.true_bne, DL.zsz, y_asgG, kAsg_g, h1, h2, h3, h4, hx, tg1, tg2, tg3, tg4, mul_small (j := 31) (by decide), Int.reduceLT, pow_18]
          rw [← hk]
          exact k (by omega)
        · simp only [DL.oo_some, DL.oo_none, DL.kD_ap, DL.kX_ap, DL.y_next, DL.y_seq, DL.kSeq_nx, DL.kSeq_rt, DL.kSeq_bk, DL.kSeq_ct, DL.kSeq_xc, DL.y_expr, DL.kExpr_ap, DL.y_ret, DL.kRet_ap, DL.y_retN, DL.y_if, DL.kIf_t, DL.kIf_f, DL.y_never, DL.y_brk, DL.y_cnt, DL.y_asg, DL.kAsg_n, DL.kNx_ap, DL.y_par, DL.kPar_ap, DL.y_for, DL.kFor_its, DL.y_tgN, DL.y_tgT, DL.y_tgsC, DL.kGc_ap, DL.y_tgsN, DL.y_tb, DL.kTb_ap, DL.y_tru, DL.kTru_ap, DL.truw_non, DL.truw_bl, DL.truw_int, DL.truw_tup, DL.truw_lst, DL.truw_str, DL.y_nt, DL.kNt_ap, DL.y_an, DL.kAn_t, DL.kAn_f, DL.y_o, DL.kO_t, DL.kO_f, DL.y_yes, DL.y_c, DL.y_var0, DL.y_varS, DL.y_and, DL.kAnd_t, DL.kAnd_f, DL.y_or, DL.kOr_t, DL.kOr_f, DL.y_not, DL.kNot_bl, DL.y_eif, DL.kEif_t, DL.kEif_f, DL.y_aNil, DL.y_aCons, DL.kC1_ap, DL.kC2_ap, DL.y_aStar, DL.kS1_ap, DL.kS2_ap, DL.kS3_ap, DL.y_tup, DL.kTupl_ap, DL.kTup2_ap, DL.y_lst, DL.kLstl_ap, DL.kLst2_ap, DL.y_lstM, DL.kLstM_ap, DL.y_e1, DL.kE1_ap, DL.y_e2, DL.kE2_ap, DL.kE3_ap, DL.y_eL, DL.kL_f1, DL.kL_f2, DL.y_call, DL.kCall_ap, DL.y_meth, DL.kMe1_ap, DL.kMe2_ap, DL.y_chain, DL.kCh1_ap, DL.kCh2_ap, DL.kCh3_t, DL.kCh3_f, DL.y_pu1, DL.y_pu2, DL.add_int, DL.addI_int, DL.sub_int, DL.neg_int, DL.mul_int, DL.mod_int, DL.div_int, DL.lt_int, DL.le_int, DL.gt_int, DL.ge_int, DL.eq_int, DL.ne_int, DL.toint_int, DL.toint_bl, DL.tostr_str, DL.y_isN, DL.y_notN, DL.y_ixL, DL.y_ixT, DL.y_ixSc, DL.y_ixM0, DL.y_lenL, DL.y_lenT, DL.y_lenSc, DL.y_lenS, DL.y_listL, DL.y_listT, DL.y_listSc, DL.y_tupL, DL.y_tupT, DL.nds_cons, DL.nds_nil, DL.at0, DL.at1, DL.at2, DL.at3, DL.at4, DL.at5, DL.atM1, DL.atM2, DL.atM3, DL.y_fnD, DL.kFn_nx, DL.kFn_rt, DL.kFn_xc, DL.y_fnM, DL.kFnM_nx, DL.kFnM_rt, DL.kFnM_xc, DL.y_outC, DL.y_outC0, DL.y_callA, DL.is_ok, DL.is_bind, DL.is_sx, DL.is_nx, DL.nds_d, DL.seqw_tup, DL.seqw_lst, DL.seqw_scr, List.map_cons, List.map_nil, List.cons_append, List.nil_append, List.length_cons, List.length_nil, List.replicate_succ, List.replicate_zero, List.set_cons_zero, List.set_cons_succ, Nat.reduceSub, Nat.reduceAdd, DL.nd_d, DL.isNon, Bool.not_true, Bool.not_false, Option.map_some, Option.bind_some, List.isEmpty_cons, List.isEmpty_nil, decide_true, decide_false, if_true, if_false, ite_true, ite_false, true_and, Bool.false_eq_true, List.length_map, List.take_zero, List.all_nil, List.take_succ_cons, List.all_cons, Bool.and_true, and_true, and_self, Nat.reduceLeDiff, Int.reduceLT, Int.reduceLE, Int.reduceSub, Int.reduceAdd, Int.cast_ofNat_Int, Bool.false_bne, Bool.true_bne, DL.zsz, y_asgG, kAsg_g, h1, h2, h3, h4, hx, tg1, tg2, tg3, tg4, mul_small (j := 31) (by decide), Int.reduceLT, pow_18]
          rw [← hk]
          exact k (by omega)
      · rw [y_seq]
        generalize hk : kSeq _ _ _ = R
        simp only [DL.oo_some, DL.oo_none, DL.kD_ap, DL.kX_ap, DL.y_next, DL.y_seq, DL.kSeq_nx, DL.kSeq_rt, DL.kSeq_bk, DL.kSeq_ct, DL.kSeq_xc, DL.y_expr, DL.kExpr_ap, DL.y_ret, DL.kRet_ap, DL.y_retN, DL.y_if, DL.kIf_t, DL.kIf_f, DL.y_never, DL.y_brk, DL.y_cnt, DL.y_asg, DL.kAsg_n, DL.kNx_ap, DL.y_par, DL.kPar_ap, DL.y_for, DL.kFor_its, DL.y_tgN, DL.y_tgT, DL.y_tgsC, DL.kGc_ap, DL.y_tgsN, DL.y_tb, DL.kTb_ap, DL.y_tru, DL.kTru_ap, DL.truw_non, DL.truw_bl, DL.truw_int, DL.truw_tup, DL.truw_lst, DL.truw_str, DL.y_nt, DL.kNt_ap, DL.y_an, DL.kAn_t, DL.kAn_f, DL.y_o, DL.kO_t, DL.kO_f, DL.y_yes, DL.y_c, DL.y_var0, DL.y_varS, DL.y_and, DL.kAnd_t, DL.kAnd_f, DL.y_or, DL.kOr_t, DL.kOr_f, DL.y_not, DL.kNot_bl, DL.y_eif, DL.kEif_t, DL.kEif_f, DL.y_aNil, DL.y_aCons, DL.kC1_ap, DL.kC2_ap, DL.y_aStar, DL.kS1_ap, DL.kS2_ap, DL.kS3_ap, DL.y_tup, DL.kTupl_ap, DL.kTup2_ap, DL.y_lst, DL.kLstl_ap, DL.kLst2_ap, DL.y_lstM, DL.kLstM_ap, DL.y_e1, DL.kE1_ap, DL.y_e2, DL.kE2_ap, DL.kE3_ap, DL.y_eL, DL.kL_f1, DL.kL_f2, DL.y_call, DL.kCall_ap, DL.y_meth, DL.kMe1_ap, DL.kMe2_ap, DL.y_chain, DL.kCh1_ap, DL.kCh2_ap, DL.kCh3_t, DL.kCh3_f, DL.y_pu1, DL.y_pu2, DL.add_int, DL.addI_int, DL.sub_int, DL.neg_int, DL.mul_int, DL.mod_int, DL.div_int, DL.lt_int, DL.le_int, DL.gt_int, DL.ge_int, DL.eq_int, DL.ne_int, DL.toint_int, DL.toint_bl, DL.tostr_str, DL.y_isN, DL.y_notN, DL.y_ixL, DL.y_ixT, DL.y_ixSc, DL.y_ixM0, DL.y_lenL, DL.y_lenT, DL.y_lenSc, DL.y_lenS, DL.y_listL, DL.y_listT, DL.y_listSc, DL.y_tupL, DL.y_tupT, DL.nds_cons, DL.nds_nil, DL.at0, DL.at1, DL.at2, DL.at3, DL.at4, DL.at5, DL.atM1, DL.atM2, DL.atM3, DL.y_fnD, DL.kFn_nx, DL.kFn_rt, DL.kFn_xc, DL.y_fnM, DL.kFnM_nx, DL.kFnM_rt, DL.kFnM_xc, DL.y_outC, DL.y_outC0, DL.y_callA, DL.is_ok, DL.is_bind, DL.is_sx, DL.is_nx, DL.nds_d, DL.seqw_tup, DL.seqw_lst, DL.seqw_scr, List.map_cons, List.map_nil, List.cons_append, List.nil_append, List.length_cons, List.length_nil, List.replicate_succ, List.replicate_zero, List.set_cons_zero, List.set_cons_succ, Nat.reduceSub, Nat.reduceAdd, DL.nd_d, DL.isNon, Bool.not_true, Bool.not_false, Option.map_some, Option.bind_some, List.isEmpty_cons, List.isEmpty_nil, decide_true, decide_false, if_true, if_false, ite_true, ite_false, true_and, Bool.false_eq_true, List.length_map, List.take_zero, List.all_nil, List.take_succ_cons, List.all_cons, Bool.and_true, and_true, and_self, Nat.reduceLeDiff, Int.reduceLT, Int.reduceLE, Int.reduceSub, Int.reduceAdd, Int.cast_ofNat_Int, Bool.false_bne, Bool.true_bne, DL.zsz, h1, h2, h3]
        rw [← hk]
        exact k hi
    · rw [y_seq]
      generalize hk : kSeq _ _ _ = R
      simp only [DL.oo_some, DL.oo_none, DL.kD_ap, DL.kX_ap, DL.y_next, DL.y_seq, DL.kSeq_nx, DL.kSeq_rt, DL.kSeq_bk, DL.kSeq_ct, DL.kSeq_xc, DL.y_expr, DL.kExpr_ap, DL.y_ret, DL.kRet_ap, DL.y_retN, DL.y_if, DL.kIf_t, DL.kIf_f, DL.y_never, DL.y_brk, DL.y_cnt, DL.y_asg, DL.kAsg_n, DL.kNx_ap, DL.y_par, DL.kPar_ap, DL.y_for, DL.kFor_its, DL.y_tgN, DL.y_tgT, DL.y_tgsC, DL.kGc_ap, DL.y_tgsN, DL.y_tb, DL.kTb_ap, DL.y_tru, DL.kTru_ap, DL.truw_non, DL.truw_bl, DL.truw_int, DL.truw_tup, DL.truw_lst, DL.truw_str, DL.y_nt, DL.kNt_ap, DL.y_an, DL.kAn_t, DL.kAn_f, DL.y_o, DL.kO_t, DL.kO_f, DL.y_yes, DL.y_c, DL.y_var0, DL.y_varS, DL.y_and, DL.kAnd_t, DL.kAnd_f, DL.y_or, DL.kOr_t, DL.kOr_f, DL.y_not, DL.kNot_bl, DL.y_eif, DL.kEif_t, DL.kEif_f, DL.y_aNil, DL.y_aCons, DL.kC1_ap, DL.kC2_ap, DL.y_aStar, DL.kS1_ap, DL.kS2_ap, DL.kS3_ap, DL.y_tup, DL.kTupl_ap, DL.kTup2_ap, DL.y_lst, DL.kLstl_ap, DL.kLst2_ap, DL.y_lstM, DL.kLstM_ap, DL.y_e1, DL.kE1_ap, DL.y_e2, DL.kE2_ap, DL.kE3_ap, DL.y_eL, DL.kL_f1, DL.kL_f2, DL.y_call, DL.kCall_ap, DL.y_meth, DL.kMe1_ap, DL.kMe2_ap, DL.y_chain, DL.kCh1_ap, DL.kCh2_ap, DL.kCh3_t, DL.kCh3_f, DL.y_pu1, DL.y_pu2, DL.add_int, DL.addI_int, DL.sub_int, DL.neg_int, DL.mul_int, DL.mod_int, DL.div_int, DL.lt_int, DL.le_int, DL.gt_int, DL.ge_int, DL.eq_int, DL.ne_int, DL.toint_int, DL.toint_bl, DL.tostr_str, DL.y_isN, DL.y_notN, DL.y_ixL, DL.y_ixT, DL.y_ixSc, DL.y_ixM0, DL.y_lenL, DL.y_lenT, DL.y_lenSc, DL.y_lenS, DL.y_listL, DL.y_listT, DL.y_listSc, DL.y_tupL, DL.y_tupT, DL.nds_cons, DL.nds_nil, DL.at0, DL.at1, DL.at2, DL.at3, DL.at4, DL.at5, DL.atM1, DL.atM2, DL.atM3, DL.y_fnD, DL.kFn_nx, DL.kFn_rt, DL.kFn_xc, DL.y_fnM, DL.kFnM_nx, DL.kFnM_rt, DL.kFnM_xc, DL.y_outC, DL.y_outC0, DL.y_callA, DL.is_ok, DL.is_bind, DL.is_sx, DL.is_nx, DL.nds_d, DL.seqw_tup, DL.seqw_lst, DL.seqw_scr, List.map_cons, List.map_nil, List.cons_append, List.nil_append, List.length_cons, List.length_nil, List.replicate_succ, List.replicate_zero, List.set_cons_zero, List.set_cons_succ, Nat.reduceSub, Nat.reduceAdd, DL.nd_d, DL.isNon, Bool.not_true, Bool.not_false, Option.map_some, Option.bind_some, List.isEmpty_cons, List.isEmpty_nil, decide_true, decide_false, if_true, if_false, ite_true, ite_false, true_and, Bool.false_eq_true, List.length_map, List.take_zero, List.all_nil, List.take_succ_cons, List.all_cons, Bool.and_true, and_true, and_self, Nat.reduceLeDiff, Int.reduceLT, Int.reduceLE, Int.reduceSub, Int.reduceAdd, Int.cast_ofNat_Int, Bool.false_bne, Bool.true_bne, DL.zsz, h1, h2]
      rw [← hk]
      exact k hi
  · rw [y_seq]
    generalize hk : kSeq _ _ _ = R
    simp only [DL.oo_some, DL.oo_none, DL.kD_ap, DL.kX_ap, DL.y_next, DL.y_seq, DL.kSeq_nx, DL.kSeq_rt, DL.kSeq_bk, DL.kSeq_ct, DL.kSeq_xc, DL.y_expr, DL.kExpr_ap, DL.y_ret, DL.kRet_ap, DL.y_retN, DL.y_if, DL.kIf_t, DL.kIf_f, DL.y_never, DL.y_brk, DL.y_cnt, DL.y_asg, DL.kAsg_n, DL.kNx_ap, DL.y_par, DL.kPar_ap, DL.y_for, DL.kFor_its, DL.y_tgN, DL.y_tgT, DL.y_tgsC, DL.kGc_ap, DL.y_tgsN, DL.y_tb, DL.kTb_ap, DL.y_tru, DL.kTru_ap, DL.truw_non, DL.truw_bl, DL.truw_int, DL.truw_tup, DL.truw_lst, DL.truw_str, DL.y_nt, DL.kNt_ap, DL.y_an, DL.kAn_t, DL.kAn_f, DL.y_o, DL.kO_t, DL.kO_f, DL.y_yes, DL.y_c, DL.y_var0, DL.y_varS, DL.y_and, DL.kAnd_t, DL.kAnd_f, DL.y_or, DL.kOr_t, DL.kOr_f, DL.y_not, DL.kNot_bl, DL.y_eif, DL.kEif_t, DL.kEif_f, DL.y_aNil, DL.y_aCons, DL.kC1_ap, DL.kC2_ap, DL.y_aStar, DL.kS1_ap, DL.kS2_ap, DL.kS3_ap, DL.y_tup, DL.kTupl_ap, DL.kTup2_ap, DL.y_lst, DL.kLstl_ap, DL.kLst2_ap, DL.y_lstM, DL.kLstM_ap, DL.y_e1, DL.kE1_ap, DL.y_e2, DL.kE2_ap, DL.kE3_ap, DL.y_eL, DL.kL_f1, DL.kL_f2, DL.y_call, DL.kCall_ap, DL.y_meth, DL.kMe1_ap, DL.kMe2_ap, DL.y_chain, DL.kCh1_ap, DL.kCh2_ap, DL.kCh3_t, DL.kCh3_f, DL.y_pu1, DL.y_pu2, DL.add_int, DL.addI_int, DL.sub_int, DL.neg_int, DL.mul_int, DL.mod_int, DL.div_int, DL.lt_int, DL.le_int, DL.gt_int, DL.ge_int, DL.eq_int, DL.ne_int, DL.toint_int, DL.toint_bl, DL.tostr_str, DL.y_isN, DL.y_notN, DL.y_ixL, DL.y_ixT, DL.y_ixSc, DL.y_ixM0, DL.y_lenL, DL.y_lenT, DL.y_lenSc, DL.y_lenS, DL.y_listL, DL.y_listT, DL.y_listSc, DL.y_tupL, DL.y_tupT, DL.nds_cons, DL.nds_nil, DL.at0, DL.at1, DL.at2, DL.at3, DL.at4, DL.at5, DL.atM1, DL.atM2, DL.atM3, DL.y_fnD, DL.kFn_nx, DL.kFn_rt, DL.kFn_xc, DL.y_fnM, DL.kFnM_nx, DL.kFnM_rt, DL.kFnM_xc, DL.y_outC, DL.y_outC0, DL.y_callA, DL.is_ok, DL.is_bind, DL.is_sx, DL.is_nx, DL.nds_d, DL.seqw_tup, DL.seqw_lst, DL.seqw_scr, List.map_cons, List.map_nil, List.cons_append, List.nil_append, List.length_cons, List.length_nil, List.replicate_succ, List.replicate_zero, List.set_cons_zero, List.set_cons_succ, Nat.reduceSub, Nat.reduceAdd, DL.nd_d, DL.isNon, Bool.not_true, Bool.not_false, Option.map_some, Option.bind_some, List.isEmpty_cons, List.isEmpty_nil, decide_true, decide_false, if_true, if_false, ite_true, ite_false, true_and, Bool.false_eq_true, List.length_map, List.take_zero, List.all_nil, List.take_succ_cons, List.all_cons, Bool.and_true, and_true, and_self, Nat.reduceLeDiff, Int.reduceLT, Int.reduceLE, Int.reduceSub, Int.reduceAdd, Int.cast_ofNat_Int, Bool.false_bne, Bool.true_bne, DL.zsz, h1]
    rw [← hk]
    exact k hi
theorem divOk_small (h0 : 0 < s) (h : s < 2 ^ 63) : divOk s = true := by
  unfold divOk
  rw [decide_eq_true h0, Bool.true_and]
  refine decide_eq_true ?_
  have : s.natAbs < 2 ^ 63 := by omega
  exact Nat.lt_of_lt_of_le ((Nat.log2_lt (by omega)).mpr this) (by decide)
/-- a draw from a def that holds the pool -/
theorem draw1 {p : MO} {M : Sto} (h0 : 0 < s) (h1 : s < 2 ^ 63) (hp : PoolIs p) (hP : ∀ v p', 0 ≤ v → v < s → PoolIs p' → P (.d (.int v)) (p' :: M)) : (callR 1 2 g_draw [.m 0, .d (.int s)] (p :: M)).Is P E :=
  Rs.Is.any <| call1 (xs := [.int s]) rfl hp.below (draw_is h0 (divOk_small h0 h1) hp fun v p' g1 g2 g3 => ⟨_, p', rfl, rfl, g3.below, hP v p' g1 g2 g3⟩) fun _ _ z => z
end
end DL

/-! Layer D: texts; _law_same. -/
namespace DL
open PySem
local macro_rules
  | `(tactic| simp! [$xs,*]) => `(tactic| simp (config := {implicitDefEqProofs := false}) only [DL.oo_some, DL.oo_none, DL.kD_ap, DL.kX_ap, DL.y_next, DL.y_seq, DL.kSeq_nx, DL.kSeq_rt, DL.kSeq_bk, DL.kSeq_ct, DL.kSeq_xc, DL.y_expr, DL.kExpr_ap, DL.y_ret, DL.kRet_ap, DL.y_retN, DL.y_if, DL.kIf_t, DL.kIf_f, DL.y_never, DL.y_brk, DL.y_cnt, DL.y_asg, DL.kAsg_n, DL.kNx_ap, DL.y_par, DL.kPar_ap, DL.y_for, DL.kFor_its, DL.y_tgN, DL.y_tgT, DL.y_tgsC, DL.kGc_ap, DL.y_tgsN, DL.y_tb, DL.kTb_ap, DL.y_tru, DL.kTru_ap, DL.truw_non, DL.truw_bl, DL.truw_int, DL.truw_tup, DL.truw_lst, DL.truw_str, DL.y_nt, DL.kNt_ap, DL.y_an, DL.kAn_t, DL.kAn_f, DL.y_o, DL.kO_t, DL.kO_f, DL.y_yes, DL.y_c, DL.y_var0, DL.y_varS, DL.y_and, DL.kAnd_t, DL.kAnd_f, DL.y_or, DL.kOr_t, DL.kOr_f, DL.y_not, DL.kNot_bl, DL.y_eif, DL.kEif_t, DL.kEif_f, DL.y_aNil, DL.y_aCons, DL.kC1_ap, DL.kC2_ap, DL.y_aStar, DL.kS1_ap, DL.kS2_ap, DL.kS3_ap, DL.y_tup, DL.kTupl_ap, DL.kTup2_ap, DL.y_lst, DL.kLstl_ap, DL.kLst2_ap, DL.y_lstM, DL.kLstM_ap, DL.y_e1, DL.kE1_ap, DL.y_e2, DL.kE2_ap, DL.kE3_ap, DL.y_eL, DL.kL_f1, DL.kL_f2, DL.y_call, DL.kCall_ap, DL.y_meth, DL.kMe1_ap, DL.kMe2_ap, DL.y_chain, DL.kCh1_ap, DL.kCh2_ap, DL.kCh3_t, DL.kCh3_f, DL.y_pu1, DL.y_pu2, DL.add_int, DL.addI_int, DL.sub_int, DL.neg_int, DL.mul_int, DL.mod_int, DL.div_int, DL.lt_int, DL.le_int, DL.gt_int, DL.ge_int, DL.eq_int, DL.ne_int, DL.toint_int, DL.toint_bl, DL.tostr_str, DL.y_isN, DL.y_notN, DL.y_ixL, DL.y_ixT, DL.y_ixSc, DL.y_ixM0, DL.y_lenL, DL.y_lenT, DL.y_lenSc, DL.y_lenS, DL.y_listL, DL.y_listT, DL.y_listSc, DL.y_tupL, DL.y_tupT, DL.nds_cons, DL.nds_nil, DL.at0, DL.at1, DL.at2, DL.at3, DL.at4, DL.at5, DL.atM1, DL.atM2, DL.atM3, DL.y_fnD, DL.kFn_nx, DL.kFn_rt, DL.kFn_xc, DL.y_fnM, DL.kFnM_nx, DL.kFnM_rt, DL.kFnM_xc, DL.y_outC, DL.y_outC0, DL.y_callA, DL.is_ok, DL.is_bind, DL.is_sx, DL.is_nx, DL.nds_d, DL.seqw_tup, DL.seqw_lst, DL.seqw_scr, List.map_cons, List.map_nil, List.cons_append, List.nil_append, List.length_cons, List.length_nil, List.replicate_succ, List.replicate_zero, List.set_cons_zero, List.set_cons_succ, Nat.reduceSub, Nat.reduceAdd, DL.nd_d, DL.isNon, Bool.not_true, Bool.not_false, Option.map_some, Option.bind_some, List.isEmpty_cons, List.isEmpty_nil, decide_true, decide_false, if_true, if_false, ite_true, ite_false, true_and, Bool.false_eq_true, List.length_map, List.take_zero, List.all_nil, List.take_succ_cons, List.all_cons, Bool.and_true, and_true, and_self, Nat.reduceLeDiff, Int.reduceLT, Int.reduceLE, Int.reduceSub, Int.reduceAdd, Int.cast_ofNat_Int, Bool.false_bne, Bool.true_bne, DL.zsz, $xs,*])
section
variable {a b : Str} {M : Sto} {P : PV} {E : PX}
theorem eq_str (ha : PyData.strOk a = true) (hb : PyData.strOk b = true) : dEq (.str a) (.str b) = some (.bl (decide (a = b))) := by
  have e1 : SeqAt.shaped (.str a) = true := by
    show (PyData.strOk a && decide (PyData.depth (.str a) ≤ 64)) = true
    rw [ha]; rfl
  have e2 : SeqAt.shaped (.str b) = true := by
    show (PyData.strOk b && decide (PyData.depth (.str b) ≤ 64)) = true
    rw [hb]; rfl
  show (if (SeqAt.shaped (.str a) && SeqAt.shaped (.str b)) = true then some (PyData.eqv (.str a) (.str b)) else none).map D.bl = _
  rw [e1, e2, if_pos (by rfl)]
  show some (D.bl (a == b)) = _
  congr 2
theorem add_lst {i j : List D} (h : i.length + j.length ≤ sizeLine) : dAdd (.lst i) (.lst j) = some (.lst (i ++ j)) := by
  show (if i.length + j.length ≤ sizeLine then some (D.lst (i ++ j)) else none) = _
  rw [if_pos h]
theorem ne_of_eq {x y : D} {k : Bool} (h : dEq x y = some (.bl k)) : dNe x y = some (.bl (!k)) := by
  unfold dEq at h
  unfold dNe
  cases q : peq x y with
  | none => rw [q] at h; cases h
  | some k' =>
    rw [q] at h
    simp only [Option.map_some, Option.some.injEq, D.bl.injEq] at h ⊢
    rw [h]
theorem ne_str (ha : PyData.strOk a = true) (hb : PyData.strOk b = true) : dNe (.str a) (.str b) = some (.bl (!decide (a = b))) := ne_of_eq (eq_str ha hb)
theorem eq_bl {a b : Bool} : dEq (.bl a) (.bl b) = some (.bl (decide (a = b))) := by
  cases a <;> cases b <;> rfl
theorem ne_bl {a b : Bool} : dNe (.bl a) (.bl b) = some (.bl (!decide (a = b))) := ne_of_eq eq_bl
theorem eq_non : dEq .non .non = some (.bl true) := rfl
/-- data that is equal to itself -/
theorem eqv_refl' : (∀ p : PyData, p.canLay0 = true → PyData.eqv p p = true) ∧ (∀ ps : List PyData, PyData.canLayAll0 ps = true → PyData.eqvAll ps ps = true) := by
  refine ⟨fun p => ?_, fun ps => ?_⟩
  · exact PyData.rec (motive_1 := fun p => p.canLay0 = true → PyData.eqv p p = true) (motive_2 := fun ps => PyData.canLayAll0 ps = true → PyData.eqvAll ps ps = true) (motive_3 := fun _ => True) (motive_4 := fun _ => True)
      (fun _ => rfl) (fun b _ => by show (b == b) = true; simp) (fun i _ => by show (i == i) = true; simp) (fun x _ => by show (x == x) = true; simp) (fun l ih h => ih h) (fun l ih h => ih h) (fun kvs _ h => by cases h)
      (fun _ => rfl) (fun x xs h1 h2 h => by
        have h' : (x.canLay0 && PyData.canLayAll0 xs) = true := h
        rw [Bool.and_eq_true] at h'
        show (PyData.eqv x x && PyData.eqvAll xs xs) = true
        rw [h1 h'.1, h2 h'.2]; rfl) trivial (fun _ _ _ _ => trivial) (fun _ _ _ _ => trivial) p
  · exact PyData.rec_1 (motive_1 := fun p => p.canLay0 = true → PyData.eqv p p = true) (motive_2 := fun ps => PyData.canLayAll0 ps = true → PyData.eqvAll ps ps = true) (motive_3 := fun _ => True) (motive_4 := fun _ => True)
      (fun _ => rfl) (fun b _ => by show (b == b) = true; simp) (fun i _ => by show (i == i) = true; simp) (fun x _ => by show (x == x) = true; simp) (fun l ih h => ih h) (fun l ih h => ih h) (fun kvs _ h => by cases h)
      (fun _ => rfl) (fun x xs h1 h2 h => by
        have h' : (x.canLay0 && PyData.canLayAll0 xs) = true := h
        rw [Bool.and_eq_true] at h'
        show (PyData.eqv x x && PyData.eqvAll xs xs) = true
        rw [h1 h'.1, h2 h'.2]; rfl) trivial (fun _ _ _ _ => trivial) (fun _ _ _ _ => trivial) ps
theorem eq_refl {x : D} {p : PyData} (h : x.toP = some p) (hs : SeqAt.shaped p = true) : dEq x x = some (.bl true) := by
  unfold dEq peq
  rw [h]
  simp only [hs, Bool.and_self, if_true]
  have : p.canLay0 = true := SeqAt.canLay_of_shaped hs
  rw [eqv_refl'.1 p this]
  rfl
theorem y_inT {neg : Bool} {w : Str} {xs : List Str} : (inw neg (.d (.str w)) (.d (.tup (xs.map .str))) M).Is P E = P (.d (.bl (neg != decide (w ∈ xs)))) M := by
  have h : inB (.d (.str w)) (.d (.tup (xs.map .str))) M = some (decide (w ∈ xs)) := by
    unfold inB
    simp only [nd_d, seqw_tup, nds_d, Option.bind_some]
    unfold inD
    have hf : (xs.map D.str).all flatD = true := by
      rw [List.all_map]
      exact List.all_eq_true.mpr fun _ _ => rfl
    rw [if_pos (by rw [hf]; rfl)]
    congr 1
    rw [List.any_map]
    show xs.any (fun y => y == w) = _
    rw [Bool.eq_iff_iff]
    simp
  unfold inw
  rw [h]
  rfl
theorem in2 {neg : Bool} {w a b : Str} : (inw neg (.d (.str w)) (.d (.tup [.str a, .str b])) M).Is P E = P (.d (.bl (neg != decide (w ∈ [a, b])))) M := y_inT (xs := [a, b])
theorem y_in0 {neg : Bool} {w : Str} : (inw neg (.d (.str w)) (.d (.tup [])) M).Is P E = P (.d (.bl (neg != false))) M := y_inT (xs := [])
theorem y_inC {neg : Bool} {c : Nat} {s : Str} : (inw neg (.d (.str ⟨#[c]⟩)) (.d (.str s)) M).Is P E = P (.d (.bl (neg != decide (c ∈ s.cps.toList)))) M := rfl
end
/-! ### _law_same -/
section
variable (ts : List Nat)
def b_same (r : FD) : SD :=
    (sSeq (sIf (tO (tTru (e1 (isiw (isTb kTup ts)) (eVar 1))) (tTru (e1 (isiw (isTb kLst ts)) (eVar 1)))) (sSeq (sIf (tO (tb (e2 (pu2 dNe) (e1 (isiw (isTb kTup ts)) (eVar 1)) (e1 (isiw (isTb kTup ts)) (eVar 0)))) (tb (e2 (pu2 dNe) (e1 (isiw (isTb kLst ts)) (eVar 1)) (e1 (isiw (isTb kLst ts)) (eVar 0))))) (sRet (eC (.bl false))) sNext)
    (sSeq (sIf (tb (e2 (pu2 dNe) (eL (f1 lenw) (aCons (eVar 0) aNil)) (eL (f1 lenw) (aCons (eVar 1) aNil)))) (sRet (eC (.bl false))) sNext)
    (sSeq (sFor (iR1 (aCons (eL (f1 lenw) (aCons (eVar 1) aNil)) aNil)) (tgN 2) (sIf (tNt (tTru (eCall (callR 0 2 r) [] (aCons (e2 ixw (eVar 0) (eVar 2)) (aCons (e2 ixw (eVar 1) (eVar 2)) aNil))))) (sRet (eC (.bl false))) sNext))
    (sRet (eC (.bl true)))))) sNext)
    (sSeq (sIf (tO (tb (e2 (isN) (eVar 1) (eC .non))) (tTru (e1 (isiw (isTb kBl ts)) (eVar 1)))) (sRet (eAnd (e2 (pu2 dEq) (e2 (isN) (eVar 0) (eC .non)) (e2 (isN) (eVar 1) (eC .non))) (eAnd (eOr (e2 (isN) (eVar 1) (eC .non)) (e1 (isiw (isTb kBl ts)) (eVar 0))) (e2 (pu2 dEq) (eVar 0) (eVar 1))))) sNext)
    (sSeq (sIf (tTru (e1 (isiw (isTb kInt ts)) (eVar 1))) (sRet (eAnd (e1 (isiw (isTb kInt ts)) (eVar 0)) (eAnd (eNot (e1 (isiw (isTb kBl ts)) (eVar 0))) (e2 (pu2 dEq) (eVar 0) (eVar 1))))) sNext)
    (sRet (eAnd (e1 (isiw (isTb kStr ts)) (eVar 0)) (e2 (pu2 dEq) (eVar 0) (eVar 1)))))))
def g_same : Nat → FD
  | 0 => fun _ _ => .no
  | n + 1 => fnD (b_same ts (g_same n)) 3
end
/-- plain data, n deep: _law_same says True of it and itself -/
def plain : Nat → D → Prop
  | _, .non => True
  | _, .bl _ => True
  | _, .int _ => True
  | _, .str a => PyData.strOk a = true
  | n + 1, .tup l => l.length ≤ sizeLine ∧ ∀ x ∈ l, plain n x
  | n + 1, .lst l => l.length ≤ sizeLine ∧ ∀ x ∈ l, plain n x
  | _, _ => False
section
variable {ts : List Nat} {M : Sto} {P : PV} {E : PX}
theorem y_isi {f : D → Bool} {x : D} (h : (∃ t ns l, x = .obj t ns l) → False) (h2 : (∃ t l, x = .fn t l) → False := by intro ⟨_, _, z⟩; cases z) : (isiw (isTb f ts) (.d x) M).Is P E = P (.d (.bl (f x))) M := by
  cases x with
  | obj t ns l => exact (h ⟨t, ns, l, rfl⟩).elim
  | fn t l => exact (h2 ⟨t, l, rfl⟩).elim
  | _ => rfl
theorem yi_tup {f : D → Bool} {l : List D} : (isiw (isTb f ts) (.d (.tup l)) M).Is P E = P (.d (.bl (f (.tup l)))) M := rfl
theorem yi_lst {f : D → Bool} {l : List D} : (isiw (isTb f ts) (.d (.lst l)) M).Is P E = P (.d (.bl (f (.lst l)))) M := rfl
theorem yi_int {f : D → Bool} {i : Int} : (isiw (isTb f ts) (.d (.int i)) M).Is P E = P (.d (.bl (f (.int i)))) M := rfl
theorem yi_str {f : D → Bool} {i : Str} : (isiw (isTb f ts) (.d (.str i)) M).Is P E = P (.d (.bl (f (.str i)))) M := rfl
theorem yi_bl {f : D → Bool} {i : Bool} : (isiw (isTb f ts) (.d (.bl i)) M).Is P E = P (.d (.bl (f (.bl i)))) M := rfl
theorem yi_non {f : D → Bool} : (isiw (isTb f ts) (.d .non) M).Is P E = P (.d (.bl (f .non))) M := rfl
/-! ranges -/
def kR1 (P : Src → Sto → Prop) (E : PX) : PL := fun ws M => match ws with
  | [.d (.int j)] => (rngw 0 j M).Is P E
  | _ => False
def kR2 (P : Src → Sto → Prop) (E : PX) : PL := fun ws M => match ws with
  | [.d (.int i), .d (.int j)] => (rngw i j M).Is P E
  | _ => False
theorem y_r1 {me : AD} {env : Ev} {P : Src → Sto → Prop} : (iR1 me env M).Is P E = (me env M).Is (kR1 P E) E := by
  unfold iR1
  rw [is_bind]
  congr
  funext ws M1
  unfold kR1
  split <;> (try split) <;> simp_all [is_no]
theorem kR1_ap {j : Int} {P : Src → Sto → Prop} : kR1 P E [.d (.int j)] M = (rngw 0 j M).Is P E := rfl
theorem y_r2 {me : AD} {env : Ev} {P : Src → Sto → Prop} : (iR2 me env M).Is P E = (me env M).Is (kR2 P E) E := by
  unfold iR2
  rw [is_bind]
  congr
  funext ws M1
  unfold kR2
  split <;> (try split) <;> simp_all [is_no]
theorem kR2_ap {i j : Int} {P : Src → Sto → Prop} : kR2 P E [.d (.int i), .d (.int j)] M = (rngw i j M).Is P E := rfl
def rngL (lo : Int) (n : Nat) : List Wv := (List.range n).map fun (i : Nat) => .d (.int (lo + i))
theorem rngL_len {lo : Int} {n : Nat} : (rngL lo n).length = n := by rw [rngL, List.length_map, List.length_range]
theorem rngL_get {lo : Int} {n i : Nat} (h : i < n) : (rngL lo n)[i]? = some (.d (.int (lo + i))) := by
  rw [rngL, List.getElem?_map, List.getElem?_range h]
  rfl
theorem rng_is {i j : Int} {P : Src → Sto → Prop} (h1 : -(2 ^ 62) ≤ i ∧ i < 2 ^ 62) (h2 : -(2 ^ 62) ≤ j ∧ j < 2 ^ 62) : (rngw i j M).Is P E = P (.its (rngL i (j - i).toNat)) M := by
  unfold rngw
  rw [shut_eq, if_pos (decide_eq_true ⟨h1.1, h1.2, h2.1, h2.2⟩)]
  rfl
theorem rng0_is {n : Nat} {P : Src → Sto → Prop} (h : n ≤ sizeLine) : (rngw 0 (n : Int) M).Is P E = P (.its (rngL 0 n)) M := by
  have : n < 2 ^ 62 := Nat.lt_of_le_of_lt h (by decide)
  rw [rng_is (by decide) ⟨by omega, by omega⟩]
  have e : ((n : Int) - 0).toNat = n := by omega
  rw [e]
def sameC (ts : List Nat) (n : Nat) (x : D) : Prop := g_same ts n [.d x, .d x] [] = .ok (.d (.bl true)) []
theorem same_of {n : Nat} {x : D} (h : (g_same ts n [.d x, .d x] []).Is (fun w M => w = .d (.bl true) ∧ M = []) nox) : sameC ts n x := by
  obtain ⟨w, M, e, rfl, rfl⟩ := h.out
  exact e
theorem same_loop {n : Nat} {l : List D} (hl : l.length ≤ sizeLine) (ih : ∀ x ∈ l, sameC ts n x) (x : D) (hx : x = .tup l ∨ x = .lst l) : sameC ts (n + 1) x := by
  have hlen : ∀ (P : PV) (E : PX), (lenw (.d x) []).Is P E = P (.d (.int l.length)) [] := fun P E => by
    rcases hx with rfl | rfl
    · exact y_lenT
    · exact y_lenL
  have hix : ∀ (P : PV) (E : PX) (i : Int), (ixw (.d x) (.d (.int i)) []).Is P E = oo (L2.atI (l.map .d) i) P [] := fun P E i => by
    rcases hx with rfl | rfl
    · exact y_ixT
    · exact y_ixL
  have hit : ∀ (P : PV) (E : PX) (M : Sto) (f : D → Bool), (isiw (isTb f ts) (.d x) M).Is P E = P (.d (.bl (f x))) M := fun P E M f => by
    rcases hx with rfl | rfl <;> rfl
  have fin : ∀ P : PO, P (.nx [some (.d x), some (.d x), none]) [] → (∀ w, P (.nx [some (.d x), some (.d x), some w]) []) →
      (forS (.its (rngL 0 l.length)) (tgN 2) (sIf (tNt (tTru (eCall (callR 0 2 (g_same ts n)) [] (aCons (e2 ixw (eVar 0) (eVar 2)) (aCons (e2 ixw (eVar 1) (eVar 2)) aNil))))) (sRet (eC (.bl false))) sNext) (rngL 0 l.length).length 0 [some (.d x), some (.d x), none] []).Is P nox := fun P h0 h1 => by
    refine for_is (fun _ env M => M = [] ∧ ∃ o, env = [some (.d x), some (.d x), o]) (fun i w env M hw h => ?_) (fun env M h => ?_) _ _ _ _ (Nat.zero_add _) ⟨rfl, _, rfl⟩
    · obtain ⟨rfl, o, rfl⟩ := h
      have hi : i < l.length := by
        have := (List.getElem?_eq_some_iff.mp hw).1
        rw [rngL_len] at this
        exact this
      rw [rngL_get hi] at hw
      cases hw
      have hat : L2.atI (l.map Wv.d) (0 + (i : Int)) = some (.d l[i]) := by
        rw [Int.zero_add, atI_n (l := l.map Wv.d) (by rw [List.length_map]; exact hi), List.getElem_map]
      have hc : callR 0 2 (g_same ts n) [.d l[i], .d l[i]] [] = .ok (.d (.bl true)) [] := call0 (xs := [l[i], l[i]]) rfl (ih _ (List.getElem_mem hi))
      simp only [DL.oo_some, DL.oo_none, DL.kD_ap, DL.kX_ap, DL.y_next, DL.y_seq, DL.kSeq_nx, DL.kSeq_rt, DL.kSeq_bk, DL.kSeq_ct, DL.kSeq_xc, DL.y_expr, DL.kExpr_ap, DL.y_ret, DL.kRet_ap, DL.y_retN, DL.y_if, DL.kIf_t, DL.kIf_f, DL.y_never, DL.y_brk, DL.y_cnt, DL.y_asg, DL.kAsg_n, DL.kNx_ap, DL.y_par, DL.kPar_ap, DL.y_for, DL.kFor_its, DL.y_tgN, DL.y_tgT, DL.y_tgsC, DL.kGc_ap, DL.y_tgsN, DL.y_tb, DL.kTb_ap, DL.y_tru, DL.kTru_ap, DL.truw_non, DL.truw_bl, DL.truw_int, DL.truw_tup, DL.truw_lst, DL.truw_str, DL.y_nt, DL.kNt_ap, DL.y_an, DL.kAn_t, DL.kAn_f, DL.y_o, DL.kO_t, DL.kO_f, DL.y_yes, DL.y_c, DL.y_var0, DL.y_varS, DL.y_and, DL.kAnd_t, DL.kAnd_f, DL.y_or, DL.kOr_t, DL.kOr_f, DL.y_not, DL.kNot_bl, DL.y_eif, DL.kEif_t, DL.kEif_f, DL.y_aNil, DL.y_aCons, DL.kC1_ap, DL.kC2_ap, DL.y_aStar, DL.kS1_ap, DL.kS2_ap, DL.kS3_ap, DL.y_tup, DL.kTupl_ap, DL.kTup2_ap, DL.y_lst, DL.kLstl_ap, DL.kLst2_ap, DL.y_lstM, DL.kLstM_ap, DL.y_e1, DL.kE1_ap, DL.y_e2, DL.kE2_ap, DL.kE3_ap, DL.y_eL, DL.kL_f1, DL.kL_f2, DL.y_call, DL.kCall_ap, DL.y_meth, DL.kMe1_ap, DL.kMe2_ap, DL.y_chain, DL.kCh1_ap, DL.kCh2_ap, DL.kCh3_t, DL.kCh3_f, DL.y_pu1, DL.y_pu2, DL.add_int, DL.addI_int, DL.sub_int, DL.neg_int, DL.mul_int, DL.mod_int, DL.div_int, DL.lt_int, DL.le_int, DL.gt_int, DL.ge_int, DL.eq_int, DL.ne_int, DL.toint_int, DL.toint_bl, DL.tostr_str, DL.y_isN, DL.y_notN, DL.y_ixL, DL.y_ixT, DL.y_ixSc, DL.y_ixM0, DL.y_lenL, DL.y_lenT, DL.y_lenSc, DL.y_lenS, DL.y_listL, DL.y_listT, DL.y_listSc, DL.y_tupL, DL.y_tupT, DL.nds_cons, DL.nds_nil, DL.at0, DL.at1, DL.at2, DL.at3, DL.at4, DL.at5, DL.atM1, DL.atM2, DL.atM3, DL.y_fnD, DL.kFn_nx, DL.kFn_rt, DL.kFn_xc, DL.y_fnM, DL.kFnM_nx, DL.kFnM_rt, DL.kFnM_xc, DL.y_outC, DL.y_outC0, DL.y_callA, DL.is_ok, DL.is_bind, DL.is_sx, DL.is_nx, DL.nds_d, DL.seqw_tup, DL.seqw_lst, DL.seqw_scr, List.map_cons, List.map_nil, List.cons_append, List.nil_append, List.length_cons, List.length_nil, List.replicate_succ, List.replicate_zero, List.set_cons_zero, List.set_cons_succ, Nat.reduceSub, Nat.reduceAdd, DL.nd_d, DL.isNon, Bool.not_true, Bool.not_false, Option.map_some, Option.bind_some, List.isEmpty_cons, List.isEmpty_nil, decide_true, decide_false, if_true, if_false, ite_true, ite_false, true_and, Bool.false_eq_true, List.length_map, List.take_zero, List.all_nil, List.take_succ_cons, List.all_cons, Bool.and_true, and_true, and_self, Nat.reduceLeDiff, Int.reduceLT, Int.reduceLE, Int.reduceSub, Int.reduceAdd, Int.cast_ofNat_Int, Bool.false_bne, Bool.true_bne, DL.zsz, y_tgN, hix, hat, hc]
      exact ⟨_, rfl⟩
    · obtain ⟨rfl, o, rfl⟩ := h
      cases o with
      | none => exact h0
      | some w => exact h1 w
  refine same_of ?_
  rw [g_same, y_fnD, b_same]
  rcases hx with rfl | rfl
  · simp! [y_r1, kR1_ap, hlen, hix, hit, rng0_is hl, kTup, kLst, ne_bl, ne_int]
    refine fin _ ?_ fun w => ?_ <;> simp! [DL.is_ok]
  · simp! [y_r1, kR1_ap, hlen, hix, hit, rng0_is hl, kTup, kLst, ne_bl, ne_int]
    refine fin _ ?_ fun w => ?_ <;> simp! [DL.is_ok]
theorem same_plain : ∀ (n : Nat) (x : D), plain n x → ∀ k, n < k → sameC ts k x
  | n, x, h, k + 1, hk => by
    cases x with
    | non =>
      refine same_of ?_
      rw [g_same, y_fnD, b_same]
      simp only [DL.oo_some, DL.oo_none, DL.kD_ap, DL.kX_ap, DL.y_next, DL.y_seq, DL.kSeq_nx, DL.kSeq_rt, DL.kSeq_bk, DL.kSeq_ct, DL.kSeq_xc, DL.y_expr, DL.kExpr_ap, DL.y_ret, DL.kRet_ap, DL.y_retN, DL.y_if, DL.kIf_t, DL.kIf_f, DL.y_never, DL.y_brk, DL.y_cnt, DL.y_asg, DL.kAsg_n, DL.kNx_ap, DL.y_par, DL.kPar_ap, DL.y_for, DL.kFor_its, DL.y_tgN, DL.y_tgT, DL.y_tgsC, DL.kGc_ap, DL.y_tgsN, DL.y_tb, DL.kTb_ap, DL.y_tru, DL.kTru_ap, DL.truw_non, DL.truw_bl, DL.truw_int, DL.truw_tup, DL.truw_lst, DL.truw_str, DL.y_nt, DL.kNt_ap, DL.y_an, DL.kAn_t, DL.kAn_f, DL.y_o, DL.kO_t, DL.kO_f, DL.y_yes, DL.y_c, DL.y_var0, DL.y_varS, DL.y_and, DL.kAnd_t, DL.kAnd_f, DL.y_or, DL.kOr_t, DL.kOr_f, DL.y_not, DL.kNot_bl, DL.y_eif, DL.kEif_t, DL.kEif_f, DL.y_aNil, DL.y_aCons, DL.kC1_ap, DL.kC2_ap, DL.y_aStar, DL.kS1_ap, DL.kS2_ap, DL.kS3_ap, DL.y_tup, DL.kTupl_ap, DL.kTup2_ap, DL.y_lst, DL.kLstl_ap, DL.kLst2_ap, DL.y_lstM, DL.kLstM_ap, DL.y_e1, DL.kE1_ap, DL.y_e2, DL.kE2_ap, DL.kE3_ap, DL.y_eL, DL.kL_f1, DL.kL_f2, DL.y_call, DL.kCall_ap, DL.y_meth, DL.kMe1_ap, DL.kMe2_ap, DL.y_chain, DL.kCh1_ap, DL.kCh2_ap, DL.kCh3_t, DL.kCh3_f, DL.y_pu1, DL.y_pu2, DL.add_int, DL.addI_int, DL.sub_int, DL.neg_int, DL.mul_int, DL.mod_int, DL.div_int, DL.lt_int, DL.le_int, DL.gt_int, DL.ge_int, DL.eq_int, DL.ne_int, DL.toint_int, DL.toint_bl, DL.tostr_str, DL.y_isN, DL.y_notN, DL.y_ixL, DL.y_ixT, DL.y_ixSc, DL.y_ixM0, DL.y_lenL, DL.y_lenT, DL.y_lenSc, DL.y_lenS, DL.y_listL, DL.y_listT, DL.y_listSc, DL.y_tupL, DL.y_tupT, DL.nds_cons, DL.nds_nil, DL.at0, DL.at1, DL.at2, DL.at3, DL.at4, DL.at5, DL.atM1, DL.atM2, DL.atM3, DL.y_fnD, DL.kFn_nx, DL.kFn_rt, DL.kFn_xc, DL.y_fnM, DL.kFnM_nx, DL.kFnM_rt, DL.kFnM_xc, DL.y_outC, DL.y_outC0, DL.y_callA, DL.is_ok, DL.is_bind, DL.is_sx, DL.is_nx, DL.nds_d, DL.seqw_tup, DL.seqw_lst, DL.seqw_scr, List.map_cons, List.map_nil, List.cons_append, List.nil_append, List.length_cons, List.length_nil, List.replicate_succ, List.replicate_zero, List.set_cons_zero, List.set_cons_succ, Nat.reduceSub, Nat.reduceAdd, DL.nd_d, DL.isNon, Bool.not_true, Bool.not_false, Option.map_some, Option.bind_some, List.isEmpty_cons, List.isEmpty_nil, decide_true, decide_false, if_true, if_false, ite_true, ite_false, true_and, Bool.false_eq_true, List.length_map, List.take_zero, List.all_nil, List.take_succ_cons, List.all_cons, Bool.and_true, and_true, and_self, Nat.reduceLeDiff, Int.reduceLT, Int.reduceLE, Int.reduceSub, Int.reduceAdd, Int.cast_ofNat_Int, Bool.false_bne, Bool.true_bne, DL.zsz, yi_non, kTup, kLst, kBl, kInt, kStr, eq_bl, eq_non]
    | bl b =>
      refine same_of ?_
      rw [g_same, y_fnD, b_same]
      simp only [DL.oo_some, DL.oo_none, DL.kD_ap, DL.kX_ap, DL.y_next, DL.y_seq, DL.kSeq_nx, DL.kSeq_rt, DL.kSeq_bk, DL.kSeq_ct, DL.kSeq_xc, DL.y_expr, DL.kExpr_ap, DL.y_ret, DL.kRet_ap, DL.y_retN, DL.y_if, DL.kIf_t, DL.kIf_f, DL.y_never, DL.y_brk, DL.y_cnt, DL.y_asg, DL.kAsg_n, DL.kNx_ap, DL.y_par, DL.kPar_ap, DL.y_for, DL.kFor_its, DL.y_tgN, DL.y_tgT, DL.y_tgsC, DL.kGc_ap, DL.y_tgsN, DL.y_tb, DL.kTb_ap, DL.y_tru, DL.kTru_ap, DL.truw_non, DL.truw_bl, DL.truw_int, DL.truw_tup, DL.truw_lst, DL.truw_str, DL.y_nt, DL.kNt_ap, DL.y_an, DL.kAn_t, DL.kAn_f, DL.y_o, DL.kO_t, DL.kO_f, DL.y_yes, DL.y_c, DL.y_var0, DL.y_varS, DL.y_and, DL.kAnd_t, DL.kAnd_f, DL.y_or, DL.kOr_t, DL.kOr_f, DL.y_not, DL.kNot_bl, DL.y_eif, DL.kEif_t, DL.kEif_f, DL.y_aNil, DL.y_aCons, DL.kC1_ap, DL.kC2_ap, DL.y_aStar, DL.kS1_ap, DL.kS2_ap, DL.kS3_ap, DL.y_tup, DL.kTupl_ap, DL.kTup2_ap, DL.y_lst, DL.kLstl_ap, DL.kLst2_ap, DL.y_lstM, DL.kLstM_ap, DL.y_e1, DL.kE1_ap, DL.y_e2, DL.kE2_ap, DL.kE3_ap, DL.y_eL, DL.kL_f1, DL.kL_f2, DL.y_call, DL.kCall_ap, DL.y_meth, DL.kMe1_ap, DL.kMe2_ap, DL.y_chain, DL.kCh1_ap, DL.kCh2_ap, DL.kCh3_t, DL.kCh3_f, DL.y_pu1, DL.y_pu2, DL.add_int, DL.addI_int, DL.sub_int, DL.neg_int, DL.mul_int, DL.mod_int, DL.div_int, DL.lt_int, DL.le_int, DL.gt_int, DL.ge_int, DL.eq_int, DL.ne_int, DL.toint_int, DL.toint_bl, DL.tostr_str, DL.y_isN, DL.y_notN, DL.y_ixL, DL.y_ixT, DL.y_ixSc, DL.y_ixM0, DL.y_lenL, DL.y_lenT, DL.y_lenSc, DL.y_lenS, DL.y_listL, DL.y_listT, DL.y_listSc, DL.y_tupL, DL.y_tupT, DL.nds_cons, DL.nds_nil, DL.at0, DL.at1, DL.at2, DL.at3, DL.at4, DL.at5, DL.atM1, DL.atM2, DL.atM3, DL.y_fnD, DL.kFn_nx, DL.kFn_rt, DL.kFn_xc, DL.y_fnM, DL.kFnM_nx, DL.kFnM_rt, DL.kFnM_xc, DL.y_outC, DL.y_outC0, DL.y_callA, DL.is_ok, DL.is_bind, DL.is_sx, DL.is_nx, DL.nds_d, DL.seqw_tup, DL.seqw_lst, DL.seqw_scr, List.map_cons, List.map_nil, List.cons_append, List.nil_append, List.length_cons, List.length_nil, List.replicate_succ, List.replicate_zero, List.set_cons_zero, List.set_cons_succ, Nat.reduceSub, Nat.reduceAdd, DL.nd_d, DL.isNon, Bool.not_true, Bool.not_false, Option.map_some, Option.bind_some, List.isEmpty_cons, List.isEmpty_nil, decide_true, decide_false, if_true, if_false, ite_true, ite_false, true_and, Bool.false_eq_true, List.length_map, List.take_zero, List.all_nil, List.take_succ_cons, List.all_cons, Bool.and_true, and_true, and_self, Nat.reduceLeDiff, Int.reduceLT, Int.reduceLE, Int.reduceSub, Int.reduceAdd, Int.cast_ofNat_Int, Bool.false_bne, Bool.true_bne, DL.zsz, yi_bl, kTup, kLst, kBl, kInt, kStr, eq_bl, eq_non]
    | int i =>
      refine same_of ?_
      rw [g_same, y_fnD, b_same]
      simp only [DL.oo_some, DL.oo_none, DL.kD_ap, DL.kX_ap, DL.y_next, DL.y_seq, DL.kSeq_nx, DL.kSeq_rt, DL.kSeq_bk, DL.kSeq_ct, DL.kSeq_xc, DL.y_expr, DL.kExpr_ap, DL.y_ret, DL.kRet_ap, DL.y_retN, DL.y_if, DL.kIf_t, DL.kIf_f, DL.y_never, DL.y_brk, DL.y_cnt, DL.y_asg, DL.kAsg_n, DL.kNx_ap, DL.y_par, DL.kPar_ap, DL.y_for, DL.kFor_its, DL.y_tgN, DL.y_tgT, DL.y_tgsC, DL.kGc_ap, DL.y_tgsN, DL.y_tb, DL.kTb_ap, DL.y_tru, DL.kTru_ap, DL.truw_non, DL.truw_bl, DL.truw_int, DL.truw_tup, DL.truw_lst, DL.truw_str, DL.y_nt, DL.kNt_ap, DL.y_an, DL.kAn_t, DL.kAn_f, DL.y_o, DL.kO_t, DL.kO_f, DL.y_yes, DL.y_c, DL.y_var0, DL.y_varS, DL.y_and, DL.kAnd_t, DL.kAnd_f, DL.y_or, DL.kOr_t, DL.kOr_f, DL.y_not, DL.kNot_bl, DL.y_eif, DL.kEif_t, DL.kEif_f, DL.y_aNil, DL.y_aCons, DL.kC1_ap, DL.kC2_ap, DL.y_aStar, DL.kS1_ap, DL.kS2_ap, DL.kS3_ap, DL.y_tup, DL.kTupl_ap, DL.kTup2_ap, DL.y_lst, DL.kLstl_ap, DL.kLst2_ap, DL.y_lstM, DL.kLstM_ap, DL.y_e1, DL.kE1_ap, DL.y_e2, DL.kE2_ap, DL.kE3_ap, DL.y_eL, DL.kL_f1, DL.kL_f2, DL.y_call, DL.kCall_ap, DL.y_meth, DL.kMe1_ap, DL.kMe2_ap, DL.y_chain, DL.kCh1_ap, DL.kCh2_ap, DL.kCh3_t, DL.kCh3_f, DL.y_pu1, DL.y_pu2, DL.add_int, DL.addI_int, DL.sub_int, DL.neg_int, DL.mul_int, DL.mod_int, DL.div_int, DL.lt_int, DL.le_int, DL.gt_int, DL.ge_int, DL.eq_int, DL.ne_int, DL.toint_int, DL.toint_bl, DL.tostr_str, DL.y_isN, DL.y_notN, DL.y_ixL, DL.y_ixT, DL.y_ixSc, DL.y_ixM0, DL.y_lenL, DL.y_lenT, DL.y_lenSc, DL.y_lenS, DL.y_listL, DL.y_listT, DL.y_listSc, DL.y_tupL, DL.y_tupT, DL.nds_cons, DL.nds_nil, DL.at0, DL.at1, DL.at2, DL.at3, DL.at4, DL.at5, DL.atM1, DL.atM2, DL.atM3, DL.y_fnD, DL.kFn_nx, DL.kFn_rt, DL.kFn_xc, DL.y_fnM, DL.kFnM_nx, DL.kFnM_rt, DL.kFnM_xc, DL.y_outC, DL.y_outC0, DL.y_callA, DL.is_ok, DL.is_bind, DL.is_sx, DL.is_nx, DL.nds_d, DL.seqw_tup, DL.seqw_lst, DL.seqw_scr, List.map_cons, List.map_nil, List.cons_append, List.nil_append, List.length_cons, List.length_nil, List.replicate_succ, List.replicate_zero, List.set_cons_zero, List.set_cons_succ, Nat.reduceSub, Nat.reduceAdd, DL.nd_d, DL.isNon, Bool.not_true, Bool.not_false, Option.map_some, Option.bind_some, List.isEmpty_cons, List.isEmpty_nil, decide_true, decide_false, if_true, if_false, ite_true, ite_false, true_and, Bool.false_eq_true, List.length_map, List.take_zero, List.all_nil, List.take_succ_cons, List.all_cons, Bool.and_true, and_true, and_self, Nat.reduceLeDiff, Int.reduceLT, Int.reduceLE, Int.reduceSub, Int.reduceAdd, Int.cast_ofNat_Int, Bool.false_bne, Bool.true_bne, DL.zsz, yi_int, kTup, kLst, kBl, kInt, kStr, eq_bl, eq_int]
    | str a =>
      refine same_of ?_
      have ha : PyData.strOk a = true := by cases n <;> exact h
      rw [g_same, y_fnD, b_same]
      simp only [DL.oo_some, DL.oo_none, DL.kD_ap, DL.kX_ap, DL.y_next, DL.y_seq, DL.kSeq_nx, DL.kSeq_rt, DL.kSeq_bk, DL.kSeq_ct, DL.kSeq_xc, DL.y_expr, DL.kExpr_ap, DL.y_ret, DL.kRet_ap, DL.y_retN, DL.y_if, DL.kIf_t, DL.kIf_f, DL.y_never, DL.y_brk, DL.y_cnt, DL.y_asg, DL.kAsg_n, DL.kNx_ap, DL.y_par, DL.kPar_ap, DL.y_for, DL.kFor_its, DL.y_tgN, DL.y_tgT, DL.y_tgsC, DL.kGc_ap, DL.y_tgsN, DL.y_tb, DL.kTb_ap, DL.y_tru, DL.kTru_ap, DL.truw_non, DL.truw_bl, DL.truw_int, DL.truw_tup, DL.truw_lst, DL.truw_str, DL.y_nt, DL.kNt_ap, DL.y_an, DL.kAn_t, DL.kAn_f, DL.y_o, DL.kO_t, DL.kO_f, DL.y_yes, DL.y_c, DL.y_var0, DL.y_varS, DL.y_and, DL.kAnd_t, DL.kAnd_f, DL.y_or, DL.kOr_t, DL.kOr_f, DL.y_not, DL.kNot_bl, DL.y_eif, DL.kEif_t, DL.kEif_f, DL.y_aNil, DL.y_aCons, DL.kC1_ap, DL.kC2_ap, DL.y_aStar, DL.kS1_ap, DL.kS2_ap, DL.kS3_ap, DL.y_tup, DL.kTupl_ap, DL.kTup2_ap, DL.y_lst, DL.kLstl_ap, DL.kLst2_ap, DL.y_lstM, DL.kLstM_ap, DL.y_e1, DL.kE1_ap, DL.y_e2, DL.kE2_ap, DL.kE3_ap, DL.y_eL, DL.kL_f1, DL.kL_f2, DL.y_call, DL.kCall_ap, DL.y_meth, DL.kMe1_ap, DL.kMe2_ap, DL.y_chain, DL.kCh1_ap, DL.kCh2_ap, DL.kCh3_t, DL.kCh3_f, DL.y_pu1, DL.y_pu2, DL.add_int, DL.addI_int, DL.sub_int, DL.neg_int, DL.mul_int, DL.mod_int, DL.div_int, DL.lt_int, DL.le_int, DL.gt_int, DL.ge_int, DL.eq_int, DL.ne_int, DL.toint_int, DL.toint_bl, DL.tostr_str, DL.y_isN, DL.y_notN, DL.y_ixL, DL.y_ixT, DL.y_ixSc, DL.y_ixM0, DL.y_lenL, DL.y_lenT, DL.y_lenSc, DL.y_lenS, DL.y_listL, DL.y_listT, DL.y_listSc, DL.y_tupL, DL.y_tupT, DL.nds_cons, DL.nds_nil, DL.at0, DL.at1, DL.at2, DL.at3, DL.at4, DL.at5, DL.atM1, DL.atM2, DL.atM3, DL.y_fnD, DL.kFn_nx, DL.kFn_rt, DL.kFn_xc, DL.y_fnM, DL.kFnM_nx, DL.kFnM_rt, DL.kFnM_xc, DL.y_outC, DL.y_outC0, DL.y_callA, DL.is_ok, DL.is_bind, DL.is_sx, DL.is_nx, DL.nds_d, DL.seqw_tup, DL.seqw_lst, DL.seqw_scr, List.map_cons, List.map_nil, List.cons_append, List.nil_append, List.length_cons, List.length_nil, List.replicate_succ, List.replicate_zero, List.set_cons_zero, List.set_cons_succ, Nat.reduceSub, Nat.reduceAdd, DL.nd_d, DL.isNon, Bool.not_true, Bool.not_false, Option.map_some, Option.bind_some, List.isEmpty_cons, List.isEmpty_nil, decide_true, decide_false, if_true, if_false, ite_true, ite_false, true_and, Bool.false_eq_true, List.length_map, List.take_zero, List.all_nil, List.take_succ_cons, List.all_cons, Bool.and_true, and_true, and_self, Nat.reduceLeDiff, Int.reduceLT, Int.reduceLE, Int.reduceSub, Int.reduceAdd, Int.cast_ofNat_Int, Bool.false_bne, Bool.true_bne, DL.zsz, yi_str, kTup, kLst, kBl, kInt, kStr, eq_bl, eq_str ha ha]
    | tup l =>
      match n, h with
      | n + 1, h => exact same_loop h.1 (fun x hx => same_plain n x (h.2 x hx) k (by omega)) _ (.inl rfl)
    | lst l =>
      match n, h with
      | n + 1, h => exact same_loop h.1 (fun x hx => same_plain n x (h.2 x hx) k (by omega)) _ (.inr rfl)
    | dic _ _ => cases n <;> exact h.elim
    | obj _ _ _ => cases n <;> exact h.elim
    | fn _ _ => cases n <;> exact h.elim
    | scr _ => cases n <;> exact h.elim
/-- a call of _law_same by the same data twice -/
theorem same_call {n k : Nat} {x : D} (h : plain n x) (hk : n < k) : callR 0 2 (g_same ts k) [.d x, .d x] M = .ok (.d (.bl true)) M := call0 (xs := [x, x]) rfl (same_plain n x h k hk)
end
end DL

/-! Layer D: numbers as texts: digits_of. -/
namespace DL
open PySem
local macro_rules
  | `(tactic| simp! [$xs,*]) => `(tactic| simp (config := {implicitDefEqProofs := false}) only [DL.oo_some, DL.oo_none, DL.kD_ap, DL.kX_ap, DL.y_next, DL.y_seq, DL.kSeq_nx, DL.kSeq_rt, DL.kSeq_bk, DL.kSeq_ct, DL.kSeq_xc, DL.y_expr, DL.kExpr_ap, DL.y_ret, DL.kRet_ap, DL.y_retN, DL.y_if, DL.kIf_t, DL.kIf_f, DL.y_never, DL.y_brk, DL.y_cnt, DL.y_asg, DL.kAsg_n, DL.kNx_ap, DL.y_par, DL.kPar_ap, DL.y_for, DL.kFor_its, DL.y_tgN, DL.y_tgT, DL.y_tgsC, DL.kGc_ap, DL.y_tgsN, DL.y_tb, DL.kTb_ap, DL.y_tru, DL.kTru_ap, DL.truw_non, DL.truw_bl, DL.truw_int, DL.truw_tup, DL.truw_lst, DL.truw_str, DL.y_nt, DL.kNt_ap, DL.y_an, DL.kAn_t, DL.kAn_f, DL.y_o, DL.kO_t, DL.kO_f, DL.y_yes, DL.y_c, DL.y_var0, DL.y_varS, DL.y_and, DL.kAnd_t, DL.kAnd_f, DL.y_or, DL.kOr_t, DL.kOr_f, DL.y_not, DL.kNot_bl, DL.y_eif, DL.kEif_t, DL.kEif_f, DL.y_aNil, DL.y_aCons, DL.kC1_ap, DL.kC2_ap, DL.y_aStar, DL.kS1_ap, DL.kS2_ap, DL.kS3_ap, DL.y_tup, DL.kTupl_ap, DL.kTup2_ap, DL.y_lst, DL.kLstl_ap, DL.kLst2_ap, DL.y_lstM, DL.kLstM_ap, DL.y_e1, DL.kE1_ap, DL.y_e2, DL.kE2_ap, DL.kE3_ap, DL.y_eL, DL.kL_f1, DL.kL_f2, DL.y_call, DL.kCall_ap, DL.y_meth, DL.kMe1_ap, DL.kMe2_ap, DL.y_chain, DL.kCh1_ap, DL.kCh2_ap, DL.kCh3_t, DL.kCh3_f, DL.y_pu1, DL.y_pu2, DL.add_int, DL.addI_int, DL.sub_int, DL.neg_int, DL.mul_int, DL.mod_int, DL.div_int, DL.lt_int, DL.le_int, DL.gt_int, DL.ge_int, DL.eq_int, DL.ne_int, DL.toint_int, DL.toint_bl, DL.tostr_str, DL.y_isN, DL.y_notN, DL.y_ixL, DL.y_ixT, DL.y_ixSc, DL.y_ixM0, DL.y_lenL, DL.y_lenT, DL.y_lenSc, DL.y_lenS, DL.y_listL, DL.y_listT, DL.y_listSc, DL.y_tupL, DL.y_tupT, DL.nds_cons, DL.nds_nil, DL.at0, DL.at1, DL.at2, DL.at3, DL.at4, DL.at5, DL.atM1, DL.atM2, DL.atM3, DL.y_fnD, DL.kFn_nx, DL.kFn_rt, DL.kFn_xc, DL.y_fnM, DL.kFnM_nx, DL.kFnM_rt, DL.kFnM_xc, DL.y_outC, DL.y_outC0, DL.y_callA, DL.eq_bl, DL.ne_bl, DL.eq_non, DL.y_inT, DL.y_in0, DL.y_inC, DL.yi_tup, DL.yi_lst, DL.yi_int, DL.yi_str, DL.yi_bl, DL.yi_non, DL.y_r1, DL.kR1_ap, DL.y_r2, DL.kR2_ap, DL.is_ok, DL.is_bind, DL.is_sx, DL.is_nx, DL.nds_d, DL.seqw_tup, DL.seqw_lst, DL.seqw_scr, List.map_cons, List.map_nil, List.cons_append, List.nil_append, List.length_cons, List.length_nil, List.replicate_succ, List.replicate_zero, List.set_cons_zero, List.set_cons_succ, Nat.reduceSub, Nat.reduceAdd, DL.nd_d, DL.isNon, Bool.not_true, Bool.not_false, Option.map_some, Option.bind_some, List.isEmpty_cons, List.isEmpty_nil, decide_true, decide_false, if_true, if_false, ite_true, ite_false, true_and, Bool.false_eq_true, List.length_map, List.take_zero, List.all_nil, List.take_succ_cons, List.all_cons, Bool.and_true, and_true, and_self, Nat.reduceLeDiff, Int.reduceLT, Int.reduceLE, Int.reduceSub, Int.reduceAdd, Int.cast_ofNat_Int, Bool.false_bne, Bool.true_bne, DL.zsz, DL.kTup, DL.kLst, DL.kBl, DL.kInt, DL.kStr, $xs,*])
abbrev tl (x : Str) : List Nat := TL.tl x
abbrev numL (n : Nat) : List Nat := TL.numL n
/-- str(n) -/
def W (n : Nat) : Str := Str.ofString (toString ((n : Nat) : Int))
theorem tl_W (n : Nat) : tl (W n) = numL n := TL.tl_num n
theorem W_len (n : Nat) : (W n).length = (numL n).length := by rw [← tl_W]; exact TL.len_tl _
theorem W_ok (n : Nat) : PyData.strOk (W n) = true := by
  unfold PyData.strOk
  rw [← Array.all_toList]
  refine List.all_eq_true.mpr fun c hc => ?_
  have := TL.numL_digits n c (by show c ∈ numL n; rw [← tl_W]; exact hc)
  exact decide_eq_true (by omega)
theorem numL_pos (n : Nat) : 0 < (numL n).length := List.length_pos_iff.mpr (TL.numL_ne n)
theorem numL_head : ∀ n : Nat, 0 < n → ∃ c r, numL n = c :: r ∧ c ≠ 48 := by
  intro n
  induction n using Nat.strongRecOn with
  | _ n ih =>
    intro h
    by_cases h2 : n < 10
    · exact ⟨48 + n, [], TL.numL_lt h2, by omega⟩
    · obtain ⟨c, r, e, q⟩ := ih (n / 10) (by omega) (by omega)
      refine ⟨c, r ++ [48 + n % 10], ?_, q⟩
      show TL.numL n = _
      rw [TL.numL_step (by omega)]
      show numL (n / 10) ++ _ = _
      rw [e]
      rfl
theorem tostr_nat {n : Nat} (h : n < 2 ^ 1000) : dStr (.int (n : Int)) = some (.str (W n)) := by
  have : ((n : Int)).natAbs.log2 < 1920 := by
    rw [Int.natAbs_natCast]
    by_cases h0 : n = 0
    · subst h0; decide
    · exact Nat.lt_of_lt_of_le ((Nat.log2_lt h0).mpr h) (by decide)
  show (if ((n : Int)).natAbs.log2 < 1920 then some (D.str (toString (n : Int))) else none) = _
  rw [if_pos this]
  rfl
theorem toint_str {n : Nat} (h : n < 10 ^ 600) : dInt (.str (W n)) = some (.int (n : Int)) := by
  have hl : (numL n).length ≤ 600 := TL.numL_len (by decide) h
  show (if (W n).length ≤ 640 then (PySem.intText? (W n)).map D.int else none) = _
  rw [if_pos (by rw [W_len]; omega)]
  have : PySem.intText? (W n) = some (n : Int) := TL.int_num (by show (numL n).length ≤ 4300; omega)
  rw [this]
  rfl
section
variable {M : Sto} {P : PV} {E : PX} {s : Str}
theorem y_ixS {i : Int} (h : s.length ≤ sizeLine) : (ixw (.d (.str s)) (.d (.int i)) M).Is P E = oo (L2.atI s.cps.toList i) (fun c M => P (.d (.str ⟨#[c]⟩)) M) M := by
  unfold ixw
  show (match (none : Option (Bool × List Wv)) with
    | some (_, ws) => match L2.atI ws i with
      | some x => .ok x M
      | none => .no
    | none => if s.length ≤ sizeLine then match L2.atI s.cps.toList i with
          | some c => .ok (.d (.str ⟨#[c]⟩)) M
          | none => .no
        else .no : Rs Wv).Is P E = _
  simp only []
  rw [if_pos h]
  cases L2.atI s.cps.toList i <;> rfl
/-- all([char in TEXT for char in s]) -/
theorem chars_in {env : Ev} {me : ED} {j : Nat} {te : ED} {z : Str} (hz : ∀ c ∈ s.cps.toList, c ∈ z.cps.toList) (hl : s.length ≤ sizeLine) (hm : me env M = .ok (.d (.str s)) M)
    (ht : ∀ c, te ((wipeE env [j]).set j (some (.d (.str ⟨#[c]⟩)))) M = .ok (.d (.bl (decide (c ∈ z.cps.toList)))) M) :
    eLc finF (iSeq me) (tgN j) tYesD te [j] env M = .ok (.d (.lst ((s.cps.toList.map fun _ => true).map .bl))) M := by
  have := eLc_map (tg := tgN j) (te := te) (src := iSeq me) (vs := [j]) (env := env) (M := M) (M1 := M) (fun c => .d (.str ⟨#[c]⟩)) (fun c => .bl (decide (c ∈ z.cps.toList))) s.cps.toList (by
    unfold iSeq
    rw [hm]
    rfl) (fun c _ => ⟨_, rfl, ht c⟩) (by rw [show s.cps.toList.length = s.length from (TL.len_tl s).symm]; exact hl)
  rw [this]
  have e : s.cps.toList.map (fun c => D.bl (decide (c ∈ z.cps.toList))) = (s.cps.toList.map fun _ => true).map .bl := by
    rw [List.map_map]
    refine List.map_congr_left fun c hc => ?_
    show D.bl _ = D.bl true
    rw [decide_eq_true (hz c hc)]
  rw [e]
theorem all_true (α : Type) (l : List α) : dAll ((l.map fun _ => true).map .bl) = some (.bl true) := by
  unfold dAll
  rw [blsOf_map]
  show some (D.bl ((l.map fun _ => true).all _root_.id)) = _
  congr 2
  rw [List.all_map]
  exact List.all_eq_true.mpr fun _ _ => rfl
theorem y_fLst {f : List D → Option D} {l : List D} : (fLst f (.d (.lst l)) M).Is P E = oo (f l) (kD P) M := by
  unfold fLst
  simp only [seqw_lst, nds_d]
  cases f l <;> rfl
end
def b_digits : SD :=
    (sSeq (sIf (tO (tNt (tb (eChain (pu2 dLt) (pu2 dLe) (eC (.int 0)) (eL (f1 lenw) (aCons (eVar 0) aNil)) (eVar 1)))) (tNt (tTru (eL (f1 (fLst dAll)) (aCons (eLc finF (iSeq (eVar 0)) (tgN 2) tYesD (e2 (inw false) (eVar 2) (eC (.str "0123456789"))) [2]) aNil))))) (sRet (eC .non)) sNext)
    (sSeq (sIf (tAn (tb (e2 (pu2 dEq) (e2 ixw (eVar 0) (eC (.int 0))) (eC (.str "0")))) (tb (e2 (pu2 dNe) (eVar 0) (eC (.str "0"))))) (sRet (eC .non)) sNext)
    (sRet (eL (f1 (pu1 dInt)) (aCons (eVar 0) aNil)))))
def g_digits : FD := fnD b_digits 3
theorem digs : ("0123456789" : Str).cps.toList = [48, 49, 50, 51, 52, 53, 54, 55, 56, 57] := by decide +kernel
theorem zero_str : ("0" : Str) = ⟨#[48]⟩ := by decide +kernel
theorem str1 {c : Nat} {s : Str} (h : tl s = [c]) : s = ⟨#[c]⟩ := TL.ext_tl h
theorem digits_is {n : Nat} {k : Nat} (hk : 0 < k) (hk2 : k ≤ 600) (h : n < 10 ^ k) : g_digits [.d (.str (W n)), .d (.int (k : Int))] [] = .ok (.d (.int (n : Int))) [] := by
  have hl : (numL n).length ≤ k := TL.numL_len hk h
  have hp := numL_pos n
  have hsz : (W n).length ≤ sizeLine := by rw [W_len]; exact Nat.le_trans hl (Nat.le_trans hk2 (by decide))
  have hc := fun (E : List (Option Wv)) (hE : E = [some (.d (.str (W n))), some (.d (.int (k : Int))), none]) => chars_in (s := W n) (M := []) (z := "0123456789") (me := eVar 0) (j := 2) (env := E) (te := e2 (inw false) (eVar 2) (eC (.str "0123456789"))) (fun c hc => by
    have := TL.numL_digits n c (by show c ∈ numL n; rw [← tl_W]; exact hc)
    rw [digs]
    have h1 : 48 ≤ c := this.1
    have h2 : c ≤ 57 := this.2
    have : c = 48 ∨ c = 49 ∨ c = 50 ∨ c = 51 ∨ c = 52 ∨ c = 53 ∨ c = 54 ∨ c = 55 ∨ c = 56 ∨ c = 57 := by omega
    simp only [List.mem_cons, List.not_mem_nil, or_false]
    exact this) hsz (by rw [hE]; rfl) (fun c => by
    rw [hE]
    show (inw false (.d (.str ⟨#[c]⟩)) (.d (.str "0123456789")) [] : Rs Wv) = _
    show (.ok (.d (.bl (false != decide (c ∈ ("0123456789" : Str).cps.toList)))) [] : Rs Wv) = _
    rw [Bool.false_bne])
  have hc' := hc _ rfl
  have hint := toint_str (n := n) (Nat.lt_of_lt_of_le h (Nat.pow_le_pow_right (by decide) hk2))
  have hlen : ∀ (P : PV) (E : PX), (lenw (.d (.str (W n))) []).Is P E = P (.d (.int ((numL n).length : Int))) [] := fun P E => by rw [y_lenS hsz, W_len]
  have h1 : (0 : Int) < ((numL n).length : Int) := by omega
  have h2 : ((numL n).length : Int) ≤ (k : Int) := by omega
  have fin : ∀ P : PV, P (.d (.int (n : Int))) [] → (g_digits [.d (.str (W n)), .d (.int (k : Int))] []).Is P nox := fun P hP => by
    unfold g_digits b_digits
    obtain ⟨c, r, e⟩ : ∃ c r, numL n = c :: r := by
      cases q : numL n with
      | nil => rw [q] at hp; exact absurd hp (by decide)
      | cons c r => exact ⟨c, r, rfl⟩
    have hat : L2.atI (W n).cps.toList 0 = some c := by
      rw [show (W n).cps.toList = c :: r from (tl_W n).trans e]
      exact at0
    have ok1 : PyData.strOk ⟨#[c]⟩ = true := by
      have := TL.numL_digits n c (by show c ∈ numL n; rw [e]; exact List.mem_cons_self ..)
      show (#[c].all fun c => decide (c < 0x110000)) = true
      have h3 : c ≤ 57 := this.2
      simp
      omega
    have ok0 : PyData.strOk ("0" : Str) = true := by decide +kernel
    by_cases hz : n = 0
    · subst hz
      have hint : dInt (.str (W 0)) = some (.int 0) := hint
      have hP : P (.d (.int 0)) [] := hP
      have e0 : (W 0 = ("0" : Str)) = True := eq_true (by decide +kernel)
      by_cases hz : (⟨#[c]⟩ : Str) = "0"
      · simp! [hlen, h1, h2, hc', y_fLst, all_true, y_ixS hsz, hat, hint, eq_str ok1 ok0, ne_str (W_ok 0) ok0, e0, eq_true hz, hP]
      · simp! [hlen, h1, h2, hc', y_fLst, all_true, y_ixS hsz, hat, hint, eq_str ok1 ok0, ne_str (W_ok 0) ok0, e0, hz, hP]
    · obtain ⟨c', r', e', hne⟩ := numL_head n (by omega)
      have hcc : c = c' := by
        rw [e] at e'
        injection e'
      subst hcc
      have hn0 : ¬ ((⟨#[c]⟩ : Str) = "0") := by
        rw [zero_str]
        intro h
        injection h with h
        have := congrArg Array.toList h
        simp at this
        exact hne this
      simp! [hlen, h1, h2, hc', y_fLst, all_true, y_ixS hsz, hat, hint, eq_str ok1 ok0, hn0, hP]
  obtain ⟨w, M, e, rfl, rfl⟩ := (fin (fun w M => w = .d (.int (n : Int)) ∧ M = []) ⟨rfl, rfl⟩).out
  exact e
theorem at_map {α β : Type} (l : List α) (f : α → β) {v : Int} (h0 : 0 ≤ v) (h1 : v < l.length) : ∃ x, x ∈ l ∧ L2.atI (l.map f) v = some (f x) := by
  have e := atI_n (l := l.map f) (k := v.toNat) (by rw [List.length_map]; omega)
  rw [Int.toNat_of_nonneg h0, List.getElem_map] at e
  exact ⟨_, List.getElem_mem _, e⟩
theorem at_dmap (l : List Str) {v : Int} (h0 : 0 ≤ v) (h1 : v < l.length) : ∃ x, x ∈ l ∧ L2.atI ((l.map D.str).map Wv.d) v = some (.d (.str x)) := by
  rw [List.map_map]
  exact at_map l _ h0 h1
/-! ### words, joined and split -/
/-- a word of a text: short, no blank in it -/
structure WordOk (w : Str) : Prop where
  pos : 0 < w.length
  le : w.length ≤ 640
  ok : PyData.strOk w = true
  sp : 32 ∉ tl w
theorem strOk_iff {x : Str} : PyData.strOk x = true ↔ ∀ c ∈ tl x, c < 0x110000 := by
  unfold PyData.strOk
  rw [← Array.all_toList, List.all_eq_true]
  exact ⟨fun h c hc => of_decide_eq_true (h c hc), fun h c hc => decide_eq_true (h c hc)⟩
theorem wordOk_W {n : Nat} (h : n < 10 ^ 600) : WordOk (W n) := by
  refine ⟨by rw [W_len]; exact numL_pos n, ?_, W_ok n, ?_⟩
  · rw [W_len]
    exact Nat.le_trans (TL.numL_len (by decide) h) (by decide)
  · rw [tl_W]
    exact TL.numL_free (.inl (by decide))
theorem join_mem {y : Str} {c : Nat} : ∀ {ys : List Str}, c ∈ tl (Str.join y ys) → c ∈ tl y ∨ ∃ w ∈ ys, c ∈ tl w
  | [], h => by cases h
  | [x], h => .inr ⟨x, List.mem_singleton.mpr rfl, h⟩
  | x :: z :: r, h => by
    have h' : c ∈ tl (x ++ y ++ Str.join y (z :: r)) := h
    rw [show tl (x ++ y ++ Str.join y (z :: r)) = tl x ++ tl y ++ tl (Str.join y (z :: r)) by rw [tl, TL.tl_append, TL.tl_append]] at h'
    rcases List.mem_append.mp h' with h1 | h1
    · rcases List.mem_append.mp h1 with h2 | h2
      · exact .inr ⟨x, List.mem_cons_self .., h2⟩
      · exact .inl h2
    · rcases join_mem h1 with h2 | ⟨w, hw, h2⟩
      · exact .inl h2
      · exact .inr ⟨w, List.mem_cons_of_mem _ hw, h2⟩
theorem join_ok {ys : List Str} (h : ∀ w ∈ ys, WordOk w) : PyData.strOk (Txt.join " " ys) = true := by
  rw [TL.join_eq, strOk_iff]
  intro c hc
  rcases join_mem hc with h1 | ⟨w, hw, h1⟩
  · exact strOk_iff.mp (by decide +kernel : PyData.strOk (" " : Str) = true) c h1
  · exact strOk_iff.mp (h w hw).ok c h1
theorem sum_le {ys : List Str} {c : Nat} (h : ∀ w ∈ ys, w.length ≤ c) : (ys.map (·.length)).sum ≤ ys.length * c := by
  induction ys with
  | nil => exact Nat.zero_le _
  | cons y ys ih =>
    rw [List.map_cons, List.sum_cons, List.length_cons, Nat.add_mul, Nat.one_mul]
    have h1 := h y (List.mem_cons_self ..)
    have h2 := ih fun w hw => h w (List.mem_cons_of_mem _ hw)
    omega
theorem blank_len : (" " : Str).length = 1 := by decide +kernel
theorem join_len {ys : List Str} (h : ∀ w ∈ ys, WordOk w) : (Txt.join " " ys).length ≤ ys.length * 641 := by
  rw [TL.join_eq]
  have h1 := StrLaws.join_length_le " " ys
  have h2 := sum_le (ys := ys) (c := 640) fun w hw => (h w hw).le
  rw [blank_len] at h1
  omega
theorem join_pos {ys : List Str} (h : ∀ w ∈ ys, WordOk w) (hne : ys ≠ []) : 0 < (Txt.join " " ys).length := by
  rw [TL.join_eq]
  match ys, h, hne with
  | [x], h, _ => exact (h x (List.mem_singleton.mpr rfl)).pos
  | x :: z :: r, h, _ =>
    have := (h x (List.mem_cons_self ..)).pos
    show 0 < (x ++ " " ++ Str.join " " (z :: r)).length
    rw [TL.len_tl, TL.tl_append, TL.tl_append, List.length_append, List.length_append, ← TL.len_tl x]
    omega
theorem split_join {ys : List Str} (h : ∀ w ∈ ys, WordOk w) (hne : ys ≠ []) : Txt.split (Txt.join " " ys) " " = ys :=
  TL.split_join (s := 32) (S := []) (by decide +kernel) (by decide +kernel) hne fun p hp => (h p hp).sp
def kSt1 (f : Str → Wv → Sto → Rs Wv) (a : ED) (env : Ev) (P : PV) (E : PX) : PV := fun w M => match nd M w with
  | some (.str s) => (a env M).Is (fun u M2 => (f s u M2).Is P E) E
  | _ => False
def kSt2 (f : Str → Wv → Sto → Rs Wv) (s : Str) (P : PV) (E : PX) : PV := fun u M2 => (f s u M2).Is P E
section
variable {M : Sto} {P : PV} {E : PX} {f : Str → Wv → Sto → Rs Wv} {o a : ED} {env : Ev} {s : Str} {u : Wv} {ys : List Str}
theorem y_s1 : (eS1 f o a env M).Is P E = (o env M).Is (kSt1 f a env P E) E := by
  unfold eS1
  rw [is_bind]
  congr
  funext w M1
  unfold kSt1
  cases nd M1 w with
  | none => rfl
  | some x =>
    cases x with
    | str s => show (Rs.bind _ _).Is P E = _; rw [is_bind]
    | _ => rfl
theorem kSt1_ap : kSt1 f a env P E (.d (.str s)) M = (a env M).Is (kSt2 f s P E) E := rfl
theorem kSt2_ap : kSt2 f s P E u M = (f s u M).Is P E := rfl
theorem join_is (h : ∀ w ∈ ys, WordOk w) (hl : ys.length ≤ 20000) : (joinw " " (.d (.lst (ys.map .str))) M).Is P E = P (.d (.str (Txt.join " " ys))) M := by
  have hs : (ys.map (·.length)).sum + ys.length * (" " : Str).length ≤ 16777216 := by
    have h2 := sum_le (ys := ys) (c := 640) fun w hw => (h w hw).le
    rw [blank_len]
    omega
  unfold joinw
  simp only [seqw_lst, nds_d, Option.bind_some, strsOf_map]
  rw [if_pos hs]
  rfl
theorem split_is (h : ∀ w ∈ ys, WordOk w) (hne : ys ≠ []) (hl : ys.length ≤ 20000) : (splitw (Txt.join " " ys) (.d (.str " ")) M).Is P E = P (.d (.lst (ys.map .str))) M := by
  have e := split_join h hne
  have h1 := join_len h
  unfold splitw
  simp only [nd_d, e]
  have h2 : 20000 * 641 + 2 ≤ sizeLine := by decide
  have h3 : ((" " : Str).length == 0) = false := by rw [blank_len]; rfl
  have h4 : (Txt.join " " ys).length + 2 ≤ sizeLine := by
    have : ys.length * 641 ≤ 20000 * 641 := Nat.mul_le_mul_right _ hl
    omega
  have h5 : ys.length ≤ sizeLine := Nat.le_trans hl (by decide)
  rw [if_pos ⟨h3, h4, h5⟩]
  rfl
theorem truw_join (h : ∀ w ∈ ys, WordOk w) (hne : ys ≠ []) (hl : ys.length ≤ 20000) : truw M (.d (.str (Txt.join " " ys))) = some true := by
  have h1 := join_len h
  have h2 := join_pos h hne
  have h3 : 20000 * 641 ≤ sizeLine := by decide
  have h4 : ys.length * 641 ≤ 20000 * 641 := Nat.mul_le_mul_right _ hl
  rw [truw_str (by omega)]
  congr 1
  rw [bne_iff_ne]
  omega
end
end DL

/-! Layer D: the evaluator: fields, list methods, new instances, comprehensions by their items. -/
namespace DL
open PySem
section
variable {P : PO} {E : PX} {env : Ev} {M : Sto} {o v : ED} {t : Nat} {f : Str} {op : D → D → Option D} {w u y n : Wv}
def kG5 (env : Ev) (P : PO) : Unit → Sto → Prop := fun _ M => P (.nx env) M
def kG4 (t : Nat) (f : Str) (w : Wv) (env : Ev) (P : PO) : PV := fun n M => (stow t f n w M).Is (kG5 env P) (kX env P)
def kG3 (op : D → D → Option D) (t : Nat) (f : Str) (w u : Wv) (env : Ev) (P : PO) : PV := fun y M => (pu2 op u y M).Is (kG4 t f w env P) (kX env P)
def kG2 (op : D → D → Option D) (t : Nat) (f : Str) (v : ED) (w : Wv) (env : Ev) (P : PO) : PV := fun u M => (v env M).Is (kG3 op t f w u env P) (kX env P)
def kG1 (op : D → D → Option D) (t : Nat) (f : Str) (v : ED) (env : Ev) (P : PO) : PV := fun w M => (fldw [t] f w M).Is (kG2 op t f v w env P) (kX env P)
theorem y_fldaug : (sFldAug op t f o v env M).Is P E = (o env M).Is (kG1 op t f v env P) (kX env P) := by
  unfold sFldAug
  rw [is_sx]
  congr
  funext w M1
  rw [is_sx]
  unfold kG1
  congr
  funext u M2
  rw [is_sx]
  unfold kG2
  congr
  funext y M3
  rw [is_sx]
  unfold kG3
  congr
  funext n M4
  rw [is_sx]
  rfl
theorem kG1_ap : kG1 op t f v env P w M = (fldw [t] f w M).Is (kG2 op t f v w env P) (kX env P) := rfl
theorem kG2_ap : kG2 op t f v w env P u M = (v env M).Is (kG3 op t f w u env P) (kX env P) := rfl
theorem kG3_ap : kG3 op t f w u env P y M = (pu2 op u y M).Is (kG4 t f w env P) (kX env P) := rfl
theorem kG4_ap : kG4 t f w env P n M = (stow t f n w M).Is (kG5 env P) (kX env P) := rfl
theorem kG5_ap {x : Unit} : kG5 env P x M = P (.nx env) M := rfl
def kF1 (t : Nat) (f : Str) (o : ED) (env : Ev) (P : PO) : PV := fun u M => (o env M).Is (fun w M2 => (stow t f u w M2).Is (kG5 env P) (kX env P)) (kX env P)
def kF2 (t : Nat) (f : Str) (u : Wv) (env : Ev) (P : PO) : PV := fun w M => (stow t f u w M).Is (kG5 env P) (kX env P)
theorem y_fld : (sFld t f o v env M).Is P E = (v env M).Is (kF1 t f o env P) (kX env P) := by
  unfold sFld
  rw [is_sx]
  congr
  funext u M1
  rw [is_sx]
  unfold kF1
  congr
  funext w M2
  rw [is_sx]
  rfl
theorem kF1_ap : kF1 t f o env P u M = (o env M).Is (kF2 t f u env P) (kX env P) := rfl
theorem kF2_ap : kF2 t f u env P w M = (stow t f u w M).Is (kG5 env P) (kX env P) := rfl
end
section
variable {P : PV} {E : PX} {env : Ev} {M : Sto} {o : ED} {a : AD} {f : List Wv → List Wv → Option (Wv × List Wv)} {w r : Wv} {ws us : List Wv} {k : Nat}
def kLM1 (f : List Wv → List Wv → Option (Wv × List Wv)) (a : AD) (env : Ev) (P : PV) (E : PX) : PV := fun w M => (lstAt w M).isSome = true ∧ (a env M).Is (fun us M2 => oo (lstAt w M2) (fun p M3 => oo (f p.2 us) (fun q M4 => q.2.length ≤ sizeLine ∧ P q.1 (M4.set p.1 (.lst q.2))) M3) M2) E
def kLM4 (k : Nat) (P : PV) : Wv × List Wv → Sto → Prop := fun q M4 => q.2.length ≤ sizeLine ∧ P q.1 (M4.set k (.lst q.2))
def kLM3 (f : List Wv → List Wv → Option (Wv × List Wv)) (us : List Wv) (P : PV) : Nat × List Wv → Sto → Prop := fun p M3 => oo (f p.2 us) (kLM4 p.1 P) M3
def kLM2 (f : List Wv → List Wv → Option (Wv × List Wv)) (w : Wv) (P : PV) : PL := fun us M2 => oo (lstAt w M2) (kLM3 f us P) M2
theorem y_lm : (eLM f o a env M).Is P E = (o env M).Is (kLM1 f a env P E) E := by
  unfold eLM
  rw [is_bind]
  congr
  funext w M1
  unfold kLM1
  cases lstAt w M1 with
  | none => simp [is_no]
  | some p =>
    simp only [Option.isSome_some, true_and]
    rw [is_bind]
    congr
    funext us M2
    cases lstAt w M2 with
    | none => rfl
    | some p =>
      obtain ⟨k, ws⟩ := p
      simp only [oo_some]
      cases f ws us with
      | none => rfl
      | some q =>
        obtain ⟨r, ws'⟩ := q
        simp only [oo_some]
        by_cases h : ws'.length ≤ sizeLine
        · rw [if_pos h]
          simp only [is_ok, h, true_and]
        · rw [if_neg h]
          simp only [is_no, h, false_and]
theorem kLM1_ap : kLM1 f a env P E w M = ((lstAt w M).isSome = true ∧ (a env M).Is (kLM2 f w P) E) := rfl
theorem kLM2_ap : kLM2 f w P us M = oo (lstAt w M) (kLM3 f us P) M := rfl
theorem kLM3_ap : kLM3 f us P (k, ws) M = oo (f ws us) (kLM4 k P) M := rfl
theorem kLM4_ap : kLM4 k P (r, ws) M = (ws.length ≤ sizeLine ∧ P r (M.set k (.lst ws))) := rfl
theorem lApp_one {u : Wv} : lApp ws [u] = some (.d .non, ws ++ [u]) := rfl
theorem lstAt0 : lstAt (.m 0) (.lst ws :: M) = some (0, ws) := rfl
theorem lstAt1 {x : MO} : lstAt (.m 1) (x :: .lst ws :: M) = some (1, ws) := rfl
theorem mkA_is {t m : Nat} {g : FD} (hm : ws.length + 1 = m) (h : (g (.m M.length :: ws) (M ++ [.ins t [] []])).Is (fun w M' => w = .d .non ∧ P (.m M.length) M') E) : (mkA t m g ws M).Is P E := by
  unfold mkA
  rw [if_pos hm]
  cases q : g (.m M.length :: ws) (M ++ [.ins t [] []]) with
  | no => rw [q] at h; exact h
  | ex x M' => rw [q] at h; exact h
  | ok w M' =>
    rw [q] at h
    obtain ⟨rfl, h⟩ := h
    exact h
theorem mkF_is {t m : Nat} {g : FD} {xs : List D} (hm : xs.length + 1 = m) (h : (g (.m 0 :: xs.map .d) [.ins t [] []]).Is (fun w M' => w = .d .non ∧ ∃ mo x M'', M' = [mo] ∧ fz1 0 [mo] = some (x, M'') ∧ P (.d x) M) nox) : (mkF t m g (xs.map .d) M).Is P E := by
  unfold mkF
  rw [if_pos (by rw [List.length_map]; exact hm), preps_d]
  simp only []
  obtain ⟨w, M', q, rfl, mo, x, M'', rfl, hz, hP⟩ := h.out
  rw [q]
  simp only [hz]
  exact hP
end
/-- a comprehension of pure items, by the values of its items -/
theorem eLc_d {src : ID} {tg : GD} {te : ED} {vs : List Nat} {env : Ev} {M : Sto} {as bs : List D} (hs : src env M = .ok (.its (as.map .d)) M) (hn : as.length = bs.length) (hl : as.length ≤ sizeLine)
    (h : ∀ (i : Nat) (h1 : i < as.length) (h2 : i < bs.length), ∃ e, tg (.d as[i]) (wipeE env vs) M = .ok e M ∧ te e M = .ok (.d bs[i]) M) : eLc finF src tg tYesD te vs env M = .ok (.d (.lst bs)) M := by
  have e1 : as.map Wv.d = (as.zip bs).map fun p => Wv.d p.1 := by
    rw [← List.map_fst_zip (l₁ := as) (l₂ := bs) (by omega), List.map_map, List.map_fst_zip (l₁ := as) (l₂ := bs) (by omega)]
    rfl
  have e2 : (as.zip bs).map (fun p => p.2) = bs := List.map_snd_zip (by omega)
  rw [e1] at hs
  have := eLc_map (tg := tg) (te := te) (vs := vs) (fun p : D × D => Wv.d p.1) (fun p => p.2) (as.zip bs) hs (fun p hp => by
    obtain ⟨i, hi, e⟩ := List.mem_iff_getElem.mp hp
    have hi' : i < as.length ∧ i < bs.length := by rw [List.length_zip] at hi; omega
    rw [List.getElem_zip] at e
    subst e
    exact h i hi'.1 hi'.2) (by rw [List.length_zip]; omega)
  rw [this, e2]
theorem iR1_ap {me : AD} {env : Ev} {M M' : Sto} {j : Int} (h : me env M = .ok [.d (.int j)] M') : iR1 me env M = rngw 0 j M' := by
  unfold iR1
  rw [h]
  rfl
theorem rngL_d {n : Nat} : rngL 0 n = ((List.range n).map fun (i : Nat) => D.int i).map .d := by
  rw [rngL, List.map_map]
  refine List.map_congr_left fun i _ => ?_
  show Wv.d (.int (0 + (i : Int))) = Wv.d (.int i)
  rw [Int.zero_add]
theorem rngw_ok {M : Sto} {n : Nat} (hn : n ≤ sizeLine) : rngw 0 (n : Int) M = .ok (.its (rngL 0 n)) M := by
  have h : (rngw 0 (n : Int) M).Is (fun s M' => s = .its (rngL 0 n) ∧ M' = M) nox := by
    rw [rng0_is hn]
    exact ⟨rfl, rfl⟩
  obtain ⟨s, M', e, rfl, rfl⟩ := h.out
  exact e
theorem rng_src {me : AD} {env : Ev} {M : Sto} {n : Nat} (h : me env M = .ok [.d (.int (n : Int))] M) (hn : n ≤ sizeLine) : iR1 me env M = .ok (.its (((List.range n).map fun (i : Nat) => D.int i).map .d)) M := by
  rw [iR1_ap h, rngw_ok hn, rngL_d]
end DL

/-! Layer D: double comprehensions; the class Table. -/
namespace DL
open PySem
local macro_rules
  | `(tactic| simp! [$xs,*]) => `(tactic| simp (config := {implicitDefEqProofs := false}) only [DL.oo_some, DL.oo_none, DL.kD_ap, DL.kX_ap, DL.y_next, DL.y_seq, DL.kSeq_nx, DL.kSeq_rt, DL.kSeq_bk, DL.kSeq_ct, DL.kSeq_xc, DL.y_expr, DL.kExpr_ap, DL.y_ret, DL.kRet_ap, DL.y_retN, DL.y_if, DL.kIf_t, DL.kIf_f, DL.y_never, DL.y_brk, DL.y_cnt, DL.y_asg, DL.kAsg_n, DL.kNx_ap, DL.y_par, DL.kPar_ap, DL.y_for, DL.kFor_its, DL.y_tgN, DL.y_tgT, DL.y_tgsC, DL.kGc_ap, DL.y_tgsN, DL.y_tb, DL.kTb_ap, DL.y_tru, DL.kTru_ap, DL.truw_non, DL.truw_bl, DL.truw_int, DL.truw_tup, DL.truw_lst, DL.truw_str, DL.y_nt, DL.kNt_ap, DL.y_an, DL.kAn_t, DL.kAn_f, DL.y_o, DL.kO_t, DL.kO_f, DL.y_yes, DL.y_c, DL.y_var0, DL.y_varS, DL.y_and, DL.kAnd_t, DL.kAnd_f, DL.y_or, DL.kOr_t, DL.kOr_f, DL.y_not, DL.kNot_bl, DL.y_eif, DL.kEif_t, DL.kEif_f, DL.y_aNil, DL.y_aCons, DL.kC1_ap, DL.kC2_ap, DL.y_aStar, DL.kS1_ap, DL.kS2_ap, DL.kS3_ap, DL.y_tup, DL.kTupl_ap, DL.kTup2_ap, DL.y_lst, DL.kLstl_ap, DL.kLst2_ap, DL.y_lstM, DL.kLstM_ap, DL.y_e1, DL.kE1_ap, DL.y_e2, DL.kE2_ap, DL.kE3_ap, DL.y_eL, DL.kL_f1, DL.kL_f2, DL.y_call, DL.kCall_ap, DL.y_meth, DL.kMe1_ap, DL.kMe2_ap, DL.y_chain, DL.kCh1_ap, DL.kCh2_ap, DL.kCh3_t, DL.kCh3_f, DL.y_pu1, DL.y_pu2, DL.add_int, DL.addI_int, DL.sub_int, DL.neg_int, DL.mul_int, DL.mod_int, DL.div_int, DL.lt_int, DL.le_int, DL.gt_int, DL.ge_int, DL.eq_int, DL.ne_int, DL.toint_int, DL.toint_bl, DL.tostr_str, DL.y_isN, DL.y_notN, DL.y_ixL, DL.y_ixT, DL.y_ixSc, DL.y_ixM0, DL.y_lenL, DL.y_lenT, DL.y_lenSc, DL.y_lenS, DL.y_listL, DL.y_listT, DL.y_listSc, DL.y_tupL, DL.y_tupT, DL.nds_cons, DL.nds_nil, DL.at0, DL.at1, DL.at2, DL.at3, DL.at4, DL.at5, DL.atM1, DL.atM2, DL.atM3, DL.y_fnD, DL.kFn_nx, DL.kFn_rt, DL.kFn_xc, DL.y_fnM, DL.kFnM_nx, DL.kFnM_rt, DL.kFnM_xc, DL.y_outC, DL.y_outC0, DL.y_callA, DL.eq_bl, DL.ne_bl, DL.eq_non, DL.y_inT, DL.y_in0, DL.y_inC, DL.yi_tup, DL.yi_lst, DL.yi_int, DL.yi_str, DL.yi_bl, DL.yi_non, DL.y_r1, DL.kR1_ap, DL.y_r2, DL.kR2_ap, DL.y_s1, DL.kSt1_ap, DL.kSt2_ap, DL.y_fLst, DL.y_fldaug, DL.kG1_ap, DL.kG2_ap, DL.kG3_ap, DL.kG4_ap, DL.kG5_ap, DL.y_fld, DL.kF1_ap, DL.kF2_ap, DL.y_lm, DL.kLM1_ap, DL.kLM2_ap, DL.kLM3_ap, DL.kLM4_ap, DL.lApp_one, DL.lstAt0, DL.lstAt1, DL.is_ok, DL.is_bind, DL.is_sx, DL.is_nx, DL.nds_d, DL.seqw_tup, DL.seqw_lst, DL.seqw_scr, List.map_cons, List.map_nil, List.cons_append, List.nil_append, List.length_cons, List.length_nil, List.replicate_succ, List.replicate_zero, List.set_cons_zero, List.set_cons_succ, Nat.reduceSub, Nat.reduceAdd, DL.nd_d, DL.isNon, Bool.not_true, Bool.not_false, Option.map_some, Option.bind_some, List.isEmpty_cons, List.isEmpty_nil, decide_true, decide_false, if_true, if_false, ite_true, ite_false, true_and, Bool.false_eq_true, List.length_map, List.take_zero, List.all_nil, List.take_succ_cons, List.all_cons, Bool.and_true, and_true, and_self, Nat.reduceLeDiff, Int.reduceLT, Int.reduceLE, Int.reduceSub, Int.reduceAdd, Int.cast_ofNat_Int, Bool.false_bne, Bool.true_bne, DL.zsz, DL.kTup, DL.kLst, DL.kBl, DL.kInt, DL.kStr, $xs,*])
section
variable {tg tg1 : GD} {te : ED} {src1 : ID} {vs1 : List Nat} {M : Sto}
/-- a double comprehension without tests, that leaves the store alone -/
theorem comp2_map {α : Type} (g : α → Wv) (F : α → List D) {env : Ev} : ∀ (as : List α) (f i cnt : Nat) (pre : List α), (∀ a ∈ as, ∃ e l, tg (g a) env M = .ok e M ∧ src1 e M = .ok (.its l) M ∧ ∀ cnt, cnt + (F a).length ≤ sizeLine → compS (.its l) tg1 tYesD te l.length 0 cnt (wipeE e vs1) M = .ok ((F a).map .d) M) → f = as.length → i = pre.length → cnt + (as.flatMap F).length ≤ sizeLine →
    compS2 (.its ((pre ++ as).map g)) tg tYesD src1 tg1 tYesD te vs1 f i cnt env M = .ok ((as.flatMap F).map .d) M
  | [], f, i, cnt, pre, h, hf, hi, hc => by
    subst hf hi
    unfold compS2
    simp
  | a :: as, f, i, cnt, pre, h, hf, hi, hc => by
    subst hf hi
    obtain ⟨e, l, h1, h2, h3⟩ := h a (List.mem_cons_self ..)
    rw [List.flatMap_cons, List.length_append] at hc
    have h3' := h3 cnt (by omega)
    rw [List.length_cons]
    unfold compS2
    have e1 : ((pre ++ a :: as).map g)[pre.length]? = some (g a) := by
      rw [List.getElem?_map, List.getElem?_append_right (Nat.le_refl _), Nat.sub_self]
      rfl
    simp only [Src.at_its, e1, h1, nx_ok, Rs.bind_ok, tYesD, if_true, h2]
    rw [h3']
    simp only [Rs.bind_ok]
    have e2 : pre ++ a :: as = (pre ++ [a]) ++ as := by rw [List.append_assoc]; rfl
    have := comp2_map g F (env := env) as as.length (pre.length + 1) (cnt + (F a).length) (pre ++ [a]) (fun b hb => h b (List.mem_cons_of_mem _ hb)) rfl (by rw [List.length_append]; rfl) (by omega)
    rw [← e2] at this
    rw [List.length_map, this]
    simp only [Rs.bind_ok, List.flatMap_cons, List.map_append]
theorem eLc2_map {α : Type} {src : ID} {vs : List Nat} {env : Ev} {M1 : Sto} (g : α → Wv) (F : α → List D) (as : List α) (hs : src env M1 = .ok (.its (as.map g)) M)
    (h : ∀ a ∈ as, ∃ e l, tg (g a) (wipeE env vs) M = .ok e M ∧ src1 e M = .ok (.its l) M ∧ ∀ cnt, cnt + (F a).length ≤ sizeLine → compS (.its l) tg1 tYesD te l.length 0 cnt (wipeE e vs1) M = .ok ((F a).map .d) M) (hl : (as.flatMap F).length ≤ sizeLine) :
    eLc2 finF src tg tYesD src1 tg1 tYesD te vs vs1 env M1 = .ok (.d (.lst (as.flatMap F))) M := by
  unfold eLc2
  simp only [hs, Rs.bind_ok, Src.at_its]
  have := comp2_map (tg := tg) (tg1 := tg1) (te := te) (src1 := src1) (vs1 := vs1) (M := M) g F (env := wipeE env vs) as (as.map g).length 0 0 [] h (by rw [List.length_map]) rfl (by omega)
  rw [List.nil_append] at this
  rw [this, Rs.bind_ok, finF, nds_d]
end
theorem any_false {α : Type} (l : List α) : dAny (l.map fun _ => D.bl false) = some (.bl false) := by
  have : (l.map fun _ => D.bl false) = (l.map fun _ => false).map .bl := by rw [List.map_map]; rfl
  rw [this]
  unfold dAny
  rw [blsOf_map]
  show some (D.bl ((l.map fun _ => false).any _root_.id)) = _
  congr 2
  rw [List.any_map]
  exact List.any_eq_false.mpr fun _ _ => by simp
/-! ### Table -/
def g_tableInit (t : Nat) : FD := fnM
    (sSeq (sIf (tNt (tb (eChain (pu2 dLt) (pu2 dLe) (eC (.int 0)) (eL (f1 lenw) (aCons (eVar 1) aNil)) (eC (.int 8))))) sNever sNext)
    (sSeq (sAsg (tgN 2) (eL (f1 lenw) (aCons (e2 ixw (eVar 1) (eC (.int 0))) aNil)))
    (sSeq (sIf (tO (tNt (tb (eChain (pu2 dLt) (pu2 dLe) (eC (.int 0)) (eVar 2) (eC (.int 8))))) (tTru (eL (f1 (fLst dAny)) (aCons (eLc finF (iSeq (eVar 1)) (tgN 3) tYesD (e2 (pu2 dNe) (eL (f1 lenw) (aCons (eVar 3) aNil)) (eVar 2)) [3]) aNil)))) sNever sNext)
    (sSeq (sIf (tTru (eL (f1 (fLst dAny)) (aCons (eLc2 finF (iSeq (eVar 1)) (tgN 3) tYesD (iSeq (eVar 3)) (tgN 4) tYesD (eNot (eChain (pu2 dLe) (pu2 dLe) (eC (.int 0)) (eVar 4) (eC (.int 65535)))) [3, 4] [4]) aNil))) sNever sNext)
    (sFld t "rows" (eVar 0) (eL (f1 tupw) (aCons (eLc finF (iSeq (eVar 1)) (tgN 3) tYesD (eL (f1 tupw) (aCons (eVar 3) aNil)) [3]) aNil))))))) 5
/-- rows that make a table -/
structure RowsOk (R : List (List Int)) : Prop where
  pos : 0 < R.length
  le : R.length ≤ 8
  wid : ∃ w, 0 < w ∧ w ≤ 8 ∧ ∀ r ∈ R, r.length = w
  val : ∀ r ∈ R, ∀ x ∈ r, 0 ≤ x ∧ x ≤ 65535
def rowsT (R : List (List Int)) : D := .tup (R.map fun r => .tup (r.map .int))
def tabO (t : Nat) (R : List (List Int)) : MO := .ins t ["rows"] [.d (rowsT R)]
def tabD (t : Nat) (R : List (List Int)) : D := .obj t ["rows"] [rowsT R]
theorem y_mkD_len {mk : List D → D} (hm : mk = .lst ∨ mk = .tup) {l : List D} {M : Sto} {P : PV} {E : PX} : (lenw (.d (mk l)) M).Is P E = P (.d (.int l.length)) M := by
  rcases hm with rfl | rfl
  · exact y_lenL
  · exact y_lenT
theorem mk_src {mk : List D → D} (hm : mk = .lst ∨ mk = .tup) {l : List D} {M : Sto} : srcw (.d (mk l)) M = .ok (.its (l.map .d)) M := by
  rcases hm with rfl | rfl <;> rfl
theorem mk_tup {mk : List D → D} (hm : mk = .lst ∨ mk = .tup) {l : List D} {M : Sto} : tupw (.d (mk l)) M = .ok (.d (.tup l)) M := by
  rcases hm with rfl | rfl
  · unfold tupw; simp only [seqw_lst, nds_d]
  · unfold tupw; simp only [seqw_tup, nw_d]
theorem mk_len {mk : List D → D} (hm : mk = .lst ∨ mk = .tup) {l : List D} {M : Sto} : lenw (.d (mk l)) M = .ok (.d (.int l.length)) M := by
  rcases hm with rfl | rfl
  · unfold lenw; simp only [seqw_lst, List.length_map]
  · unfold lenw; simp only [seqw_tup, List.length_map]
theorem is_eq {α : Type} {r : Rs α} {a : α} {M : Sto} (h : r.Is (fun w M' => w = a ∧ M' = M) nox) : r = .ok a M := by
  obtain ⟨w, M', e, rfl, rfl⟩ := h.out
  exact e
theorem stow0 {t : Nat} {f : Str} {u : Wv} {M : Sto} {P : Unit → Sto → Prop} {E : PX} : (stow t f u (.m 0) (.ins t [] [] :: M)).Is P E = P () (.ins t [f] [u] :: M) := by
  show (if t = t ∧ ([] : List Str).length < 1000 then _ else _ : Rs Unit).Is P E = _
  rw [if_pos ⟨rfl, by decide⟩]
  rfl
theorem tableInit_is {t : Nat} {mk : List D → D} (hm : mk = .lst ∨ mk = .tup) {mk2 : List D → D} (hm2 : mk2 = .lst ∨ mk2 = .tup) {R : List (List Int)} (ok : RowsOk R) : g_tableInit t [.m 0, .d (mk2 (R.map fun r => mk (r.map .int)))] [.ins t [] []] = .ok (.d .non) [tabO t R] := by
  obtain ⟨w, hw0, hw8, hw⟩ := ok.wid
  have hp := ok.pos
  have hl := ok.le
  have sz8 : 8 ≤ sizeLine := by decide
  have h1 : (0 : Int) < (R.length : Int) := by omega
  have h2 : (R.length : Int) ≤ 8 := by omega
  have h3 : (0 : Int) < (w : Int) := by omega
  have h4 : (w : Int) ≤ 8 := by omega
  obtain ⟨r0, R', rfl⟩ : ∃ r0 R', R = r0 :: R' := by
    cases R with
    | nil => exact absurd hp (by decide)
    | cons a b => exact ⟨a, b, rfl⟩
  have hr0 : r0.length = w := hw r0 (List.mem_cons_self ..)
  have hix : ∀ (P : PV) (E : PX) (M : Sto), (ixw (.d (mk2 ((r0 :: R').map fun r => mk (r.map .int)))) (.d (.int 0)) M).Is P E = P (.d (mk (r0.map .int))) M := fun P E M => by
    rcases hm2 with rfl | rfl
    · rw [y_ixL, List.map_cons, List.map_cons, at0]; rfl
    · rw [y_ixT, List.map_cons, List.map_cons, at0]; rfl
  have src : ∀ (env : Ev) (M : Sto), eVar 1 env M = .ok (.d (mk2 ((r0 :: R').map fun r => mk (r.map .int)))) M → iSeq (eVar 1) env M = .ok (.its ((r0 :: R').map fun r => Wv.d (mk (r.map .int)))) M := fun env M h => by
    unfold iSeq
    rw [h, Rs.bind_ok, mk_src hm2, List.map_map]
    rfl
  generalize hRR : r0 :: R' = RR at *
  have c1 : ∀ (M : Sto) (x0 x2 x3 x4 : Option Wv), x2 = some (.d (.int (w : Int))) → eLc finF (iSeq (eVar 1)) (tgN 3) tYesD (e2 (pu2 dNe) (eL (f1 lenw) (aCons (eVar 3) aNil)) (eVar 2)) [3] [x0, some (.d (mk2 (RR.map fun r => mk (r.map .int)))), x2, x3, x4] M = .ok (.d (.lst (RR.map fun _ => .bl false))) M := fun M x0 x2 x3 x4 e => by
    subst e
    refine eLc_map (fun r => Wv.d (mk (r.map .int))) (fun _ => .bl false) RR (src _ _ rfl) (fun r hr => ⟨_, rfl, ?_⟩) (by omega)
    refine is_eq ?_
    have hrw := hw r hr
    show (e2 (pu2 dNe) (eL (f1 lenw) (aCons (eVar 3) aNil)) (eVar 2) [x0, some (.d (mk2 (RR.map fun r => mk (r.map .int)))), some (.d (.int (w : Int))), some (.d (mk (r.map .int))), x4] M).Is _ _
    simp! [y_mkD_len hm, hrw]
  have c2 : ∀ (M : Sto) (x0 x2 x3 x4 : Option Wv), eLc2 finF (iSeq (eVar 1)) (tgN 3) tYesD (iSeq (eVar 3)) (tgN 4) tYesD (eNot (eChain (pu2 dLe) (pu2 dLe) (eC (.int 0)) (eVar 4) (eC (.int 65535)))) [3, 4] [4] [x0, some (.d (mk2 (RR.map fun r => mk (r.map .int)))), x2, x3, x4] M = .ok (.d (.lst ((RR.flatMap fun r => r).map fun _ => .bl false))) M := fun M x0 x2 x3 x4 => by
    have key := eLc2_map (tg := tgN 3) (tg1 := tgN 4) (te := eNot (eChain (pu2 dLe) (pu2 dLe) (eC (.int 0)) (eVar 4) (eC (.int 65535)))) (src := iSeq (eVar 1)) (src1 := iSeq (eVar 3)) (vs := [3, 4]) (vs1 := [4]) (M := M) (M1 := M) (env := [x0, some (.d (mk2 (RR.map fun r => mk (r.map .int)))), x2, x3, x4])
      (fun r => Wv.d (mk (r.map .int))) (fun r : List Int => r.map fun _ => D.bl false) RR (src _ _ rfl) (fun r hr => ⟨_, (r.map D.int).map .d, rfl, by
        unfold iSeq
        show (eVar 3 [x0, some (.d (mk2 (RR.map fun r => mk (r.map .int)))), x2, some (.d (mk (r.map .int))), none] M).bind _ = _
        show srcw (.d (mk (r.map .int))) M = _
        rw [mk_src hm], fun cnt hc => by
        have := comp_map (tg := tgN 4) (te := eNot (eChain (pu2 dLe) (pu2 dLe) (eC (.int 0)) (eVar 4) (eC (.int 65535)))) (M := M) (env := [x0, some (.d (mk2 (RR.map fun r => mk (r.map .int)))), x2, some (.d (mk (r.map .int))), none]) (fun i : Int => Wv.d (.int i)) (fun _ => D.bl false) r r.length 0 cnt [] (fun i hi => ⟨_, rfl, is_eq (by
          have hv := ok.val r hr i hi
          show (eNot (eChain (pu2 dLe) (pu2 dLe) (eC (.int 0)) (eVar 4) (eC (.int 65535))) [x0, some (.d (mk2 (RR.map fun r => mk (r.map .int)))), x2, some (.d (mk (r.map .int))), some (.d (.int i))] M).Is _ _
          simp! [hv.1, hv.2])⟩) rfl rfl (by rw [List.length_map] at hc; omega)
        rw [List.nil_append] at this
        rw [List.length_map, List.length_map, List.map_map, List.map_map]
        exact this⟩) (by
        have : ∀ Q : List (List Int), Q.length ≤ 8 → (∀ r ∈ Q, r.length = w) → (Q.flatMap fun r : List Int => r.map fun _ => D.bl false).length ≤ Q.length * 8 := by
          intro Q
          induction Q with
          | nil => intro _ _; exact Nat.zero_le _
          | cons q Q ih =>
            intro hq hq2
            rw [List.length_cons] at hq
            have := ih (by omega) fun r hr => hq2 r (List.mem_cons_of_mem _ hr)
            have e := hq2 q (List.mem_cons_self ..)
            rw [List.flatMap_cons, List.length_append, List.length_map, List.length_cons]
            omega
        exact Nat.le_trans (this RR hl hw) (Nat.le_trans (by omega : _ ≤ 64) (by decide)))
    rw [key]
    congr 3
    rw [List.map_flatMap]
  have c3 : ∀ (M : Sto) (x0 x2 x3 x4 : Option Wv), eLc finF (iSeq (eVar 1)) (tgN 3) tYesD (eL (f1 tupw) (aCons (eVar 3) aNil)) [3] [x0, some (.d (mk2 (RR.map fun r => mk (r.map .int)))), x2, x3, x4] M = .ok (.d (.lst (RR.map fun r => .tup (r.map .int)))) M := fun M x0 x2 x3 x4 => by
    refine eLc_map (tg := tgN 3) (te := eL (f1 tupw) (aCons (eVar 3) aNil)) (src := iSeq (eVar 1)) (vs := [3]) (M := M) (M1 := M) (env := [x0, some (.d (mk2 (RR.map fun r => mk (r.map .int)))), x2, x3, x4]) (fun r => Wv.d (mk (r.map .int))) (fun r => D.tup (r.map .int)) RR (src _ _ rfl) (fun r hr => ⟨_, rfl, ?_⟩) (by omega)
    show (eL (f1 tupw) (aCons (eVar 3) aNil) [x0, some (.d (mk2 (RR.map fun r => mk (r.map .int)))), x2, some (.d (mk (r.map .int))), x4] M) = _
    show tupw (.d (mk (r.map .int))) M = _
    exact mk_tup hm
  refine is_eq ?_
  rw [g_tableInit, y_fnM]
  simp! [y_mkD_len hm2, y_mkD_len hm, h1, h2, h3, h4, hix, hr0, c1 _ _ _ _ _ rfl, c2, c3, y_fLst, any_false, stow0]
  rfl
theorem rng_src' {me : AD} {env : Ev} {M : Sto} {n : Nat} (h : me env M = .ok [.d (.int (n : Int))] M) (hn : n ≤ sizeLine) : iR1 me env M = .ok (.its ((List.range n).map fun (i : Nat) => Wv.d (.int (i : Int)))) M := by
  rw [rng_src h hn, List.map_map]
  rfl
theorem mkF_d {t m : Nat} {g : FD} {xs : List D} {mo : MO} {x : D} {M'' : Sto} {M : Sto} (hm : xs.length + 1 = m) (h : g (.m 0 :: xs.map .d) [.ins t [] []] = .ok (.d .non) [mo]) (hz : fz1 0 [mo] = some (x, M'')) : mkF t m g (xs.map .d) M = .ok (.d x) M :=
  is_eq (mkF_is hm (by rw [h]; exact ⟨rfl, mo, x, M'', rfl, hz, rfl, rfl⟩))
theorem sealL_d {f : Nat} : ∀ (l : List D) (M : Sto), sealL (sealW f) (l.map .d) M = some M
  | [], M => rfl
  | x :: l, M => by
    rw [List.map_cons, sealL, sealW_d]
    exact sealL_d l M
/-- a list of data, the store's last, handed over: it is frozen -/
theorem mkF_m1 {t : Nat} {g : FD} {l : List D} {mo p : MO} {x : D} {M'' : Sto} (h : g [.m 0, .d (.lst l)] [.ins t [] []] = .ok (.d .non) [mo]) (hz : fz1 0 [mo] = some (x, M'')) : mkF t 2 g [.m 1] [p, .lst (l.map .d)] = .ok (.d x) [p, .fz (.lst l)] := by
  have hs : sealW 6 (.m 1) [p, .lst (l.map .d)] = some (.lst l, [p, .fz (.lst l)]) := by
    show ((sealL (sealW 5) (l.map .d) [p, .lst (l.map .d)]).bind fun M1 => fz1 1 M1) = _
    rw [sealL_d]
    show (nds [p, .lst (l.map .d)] (l.map .d)).map _ = _
    rw [nds_d]
    rfl
  have hp : preps 0 [.m 1] [p, .lst (l.map .d)] = some ([.d (.lst l)], [p, .fz (.lst l)]) := by
    show ((prep 0 (.m 1) [p, .lst (l.map .d)]).bind fun q => (preps 0 [] q.2).map fun r => (q.1 :: r.1, r.2)) = _
    have : prep 0 (.m 1) [p, .lst (l.map .d)] = some (.d (.lst l), [p, .fz (.lst l)]) := by
      unfold prep
      rw [if_neg (by decide), hs]
      rfl
    rw [this]
    rfl
  unfold mkF
  rw [if_pos (show [Wv.m 1].length + 1 = 2 from rfl), hp]
  simp only [h, hz]
theorem tab_fz {t : Nat} {R : List (List Int)} : fz1 0 [tabO t R] = some (tabD t R, [.fz (tabD t R)]) := rfl
theorem toPs_of {n : Nat} : ∀ {l : List D}, (∀ x ∈ l, ∃ p : PyData, x.toP = some p ∧ p.canLay0 = true ∧ p.depth ≤ n) → ∃ ps, D.toPs l = some ps ∧ PyData.canLayAll0 ps = true ∧ PyData.depthAll ps ≤ n
  | [], _ => ⟨[], rfl, rfl, Nat.zero_le _⟩
  | x :: l, h => by
    obtain ⟨p, h1, h2, h3⟩ := h x (List.mem_cons_self ..)
    obtain ⟨ps, g1, g2, g3⟩ := toPs_of fun y hy => h y (List.mem_cons_of_mem _ hy)
    refine ⟨p :: ps, ?_, ?_, ?_⟩
    · unfold D.toPs
      rw [h1, g1]
    · show (p.canLay0 && PyData.canLayAll0 ps) = true
      rw [h2, g2]; rfl
    · show max p.depth (PyData.depthAll ps) ≤ n
      exact Nat.max_le.mpr ⟨h3, g3⟩
theorem plain_toP : ∀ (n : Nat) (x : D), plain n x → ∃ p : PyData, x.toP = some p ∧ p.canLay0 = true ∧ p.depth ≤ n
  | n, .non, _ => ⟨.none, rfl, rfl, Nat.zero_le _⟩
  | n, .bl b, _ => ⟨.bool b, rfl, rfl, Nat.zero_le _⟩
  | n, .int i, _ => ⟨.int i, rfl, rfl, Nat.zero_le _⟩
  | n, .str a, h => ⟨.str a, rfl, (by cases n <;> exact h), Nat.zero_le _⟩
  | n + 1, .tup l, h => by
    obtain ⟨ps, g1, g2, g3⟩ := toPs_of (n := n) fun x hx => plain_toP n x (h.2 x hx)
    refine ⟨.tuple ps, ?_, g2, Nat.succ_le_succ g3⟩
    unfold D.toP
    rw [g1]
    rfl
  | n + 1, .lst l, h => by
    obtain ⟨ps, g1, g2, g3⟩ := toPs_of (n := n) fun x hx => plain_toP n x (h.2 x hx)
    refine ⟨.list ps, ?_, g2, Nat.succ_le_succ g3⟩
    unfold D.toP
    rw [g1]
    rfl
  | 0, .tup _, h => h.elim
  | 0, .lst _, h => h.elim
  | 0, .dic _ _, h => h.elim
  | _ + 1, .dic _ _, h => h.elim
  | 0, .obj _ _ _, h => h.elim
  | _ + 1, .obj _ _ _, h => h.elim
  | 0, .fn _ _, h => h.elim
  | _ + 1, .fn _ _, h => h.elim
  | 0, .scr _, h => h.elim
  | _ + 1, .scr _, h => h.elim
theorem plain_eq {n : Nat} {x : D} (h : plain n x) (hn : n ≤ 64) : dEq x x = some (.bl true) := by
  obtain ⟨p, h1, h2, h3⟩ := plain_toP n x h
  exact eq_refl h1 (by
    show (p.canLay0 && decide (p.depth ≤ 64)) = true
    rw [h2, decide_eq_true (Nat.le_trans h3 hn)]; rfl)
theorem plain_rows {R : List (List Int)} (h : R.length ≤ sizeLine) (hr : ∀ r ∈ R, r.length ≤ sizeLine) : plain 2 (rowsT R) :=
  ⟨by rw [List.length_map]; exact h, fun x hx => by
    obtain ⟨r, h1, rfl⟩ := List.mem_map.mp hx
    exact ⟨by rw [List.length_map]; exact hr r h1, fun y hy => by
      obtain ⟨i, _, rfl⟩ := List.mem_map.mp hy
      exact trivial⟩⟩
end DL

/-! Layer D: more of the code: list * n. -/
namespace DL
open PySem PySem.Spec PyProof.Rows L2

/-- a list, not the script -/
def lstw (M : Sto) (w : Wv) : Option (List Wv) := match nw M w with
  | .d (.scr _) => none
  | _ => match seqw M w with
    | some (true, us) => some us
    | _ => none
theorem lstw_at {K : PySem.W.Frag} {cA : CA} {z : Z0} {g : Gh} {H : Hp} {M : Sto} (c : Cf K cA z H M g) {w : Wv} {v : V} {us : List Wv} (r : RW K cA g M.length w v) (e : lstw M w = some us) : ∃ a vs, v = .ref a ∧ H a = some (.lst vs) ∧ Paired (RW K cA g M.length) us vs := by
  unfold lstw at e
  split at e
  · cases e
  · rename_i hs
    split at e
    · rename_i q
      cases (Option.some.inj e)
      exact seqw_lst_at c r q fun l hl => hs l hl
    · cases e
def repL {α : Type} (k : Int) (us : List α) : List α := (List.replicate k.toNat us).flatten
/-- list * n: frozen (true), or to be changed -/
def repw (fr : Bool) (w u : Wv) (M : Sto) : Rs Wv := match u with
  | .d (.int k) => if shut 1 (decide (-(2 ^ 63) ≤ k ∧ k < 2 ^ 63)) = true then match lstw M w with
      | some us => if us.length * k.toNat ≤ sizeLine then (if fr = true then match nds M (repL k us) with
          | some l => .ok (.d (.lst l)) M
          | none => .no
        else .ok (.m M.length) (M ++ [.lst (repL k us)])) else .no
      | none => .no
    else .no
  | _ => .no
theorem repL_paired {α β : Type} {P : α → β → Prop} {us : List α} {vs : List β} (h : Paired P us vs) : ∀ n : Nat, Paired P (List.replicate n us).flatten (List.replicate n vs).flatten
  | 0 => .nil
  | n + 1 => by
    rw [List.replicate_succ, List.replicate_succ, List.flatten_cons, List.flatten_cons]
    exact Paired.append' h (repL_paired h n)
theorem repL_len {α : Type} (us : List α) : ∀ n : Nat, (List.replicate n us).flatten.length = us.length * n
  | 0 => by simp
  | n + 1 => by
    rw [List.replicate_succ, List.flatten_cons, List.length_append, repL_len us n, Nat.mul_succ]
    omega
section
variable {X : Cx} {cA : CA} {Wx : WX} {a b : Expr} {ma mb : ED} {pos : Pos}
theorem ok_rep {K : PySem.W.Frag} {fr : Bool} : Ok2 K cA (repw fr) rRep := by
  intro z g H M E wx wy x y Q c rx ry q
  unfold repw at q
  split at q
  · rename_i k
    cases (show y = V.int k from ry)
    rw [shut_eq] at q
    by_cases hk : decide (-(2 ^ 63) ≤ k ∧ k < 2 ^ 63) = true
    · rw [if_pos hk] at q
      have hk' := of_decide_eq_true hk
      cases e : lstw M wx with
      | none => simp [e, Res] at q
      | some us =>
        simp only [e] at q
        obtain ⟨l, vs, rfl, h1, h2⟩ := lstw_at c rx e
        have hlen : us.length = vs.length := h2.length
        by_cases hz : us.length * k.toNat ≤ sizeLine
        · rw [if_pos hz] at q
          have rp := repL_paired h2 k.toNat
          refine ⟨l, k, vs, rfl, rfl, h1, hk'.1, hk'.2, by rw [← hlen]; exact hz, fun p hp => ?_⟩
          cases fr with
          | true =>
            rw [if_pos rfl] at q
            cases e2 : nds M (repL k us) with
            | none => simp [e2, Res] at q
            | some dl =>
              simp only [e2] at q
              have rl := nds_rep c (show Paired _ (repL k us) _ from rp) e2
              exact c.ans q hp ⟨p, _, rfl, upd_same, by rw [repL_len, ← hlen]; exact hz, rl.mono (Same.upd' (c.sub.free hp))⟩
          | false =>
            rw [if_neg (by decide)] at q
            exact c.ansM (show Paired _ (repL k us) _ from rp) (by rw [show (repL k us).length = us.length * k.toNat from repL_len us _]; exact hz) q hp
        · rw [if_neg hz] at q
          exact q.elim
    · rw [if_neg hk] at q
      exact q.elim
  · exact q.elim
theorem d_rep {fr : Bool} (ha : PE X a (TED X.K cA Wx ma)) (hb : PE X b (TED X.K cA Wx mb)) : PE X (.BinOp a .Mult b pos) (TED X.K cA Wx (e2 (repw fr) ma mb)) := d_op op_rep ok_rep ha hb
end
/-! ### an instance of a class that has no __init__ of its own -/
structure Mk0 (K : PySem.W.Frag) (C : Addr) : Prop where
  made : PySem.W.makesIn K C = true
  oi : PySem.W.findIn K (.ref C) "__init__" = some (some (.builtin "object.__init__"))
  kp : PySem.W.keepIn K (.ref C) = true
def tMake0 (C : Addr) : TE := fun _ H Q => ∀ x dx, H x = none → H dx = none → dx ≠ x → Q (.ref x) (upd (upd H dx (.own x)) x (.ins C dx []))
section
variable {X : Cx} {C : Addr} {cA : CA} {Wx : WX} {x : Str} {p pos : Pos} {t : Nat}
theorem run_make0S {pins : List (Addr × Obj)} {σ : St} {H : Hp} {s : Shared} {Q : VK} (m : Mk0 X.K C) (I : Inv X pins σ H s) (h : tMake0 C σ H Q) : wpAny (model X.prog X.w) X.A (call (.ref C) []) (EP X pins σ Q) X.xe s := by
  have done := h (s.heap.objs.size + 1) s.heap.objs.size (I.hok.fresh (Nat.le_succ _)) (I.hok.fresh (Nat.le_refl _)) (Nat.ne_of_lt (Nat.lt_succ_self _))
  have I2 := Inv.made (C := C) I
  obtain ⟨mA, J, _⟩ := ins_get I2.hok upd_same
  have ty : PySem.W.Looks (model X.prog X.w) ((s.heap.push PySem.W.emptyDict).push (PySem.W.instObj C s.heap.objs.size)) (typeOf (.ref (s.heap.objs.size + 1))) (.ref C) := (PySem.W.Looks.ld J.obj).andThen .now
  have top := (PySem.W.makes_of (M := model X.prog X.w) I2.kIn m.made).top
  refine wpAny_call (make_map0 I.kIn m.made m.oi (fun self => PySem.W.Looks.of_pure (PySem.W.oi_bind self)) ?_)
  refine codeAny_call_builtin PySem.W.oi_plain PySem.W.entry_oi (@PySem.W.check_slot (model X.prog X.w) _ _ _ "object.__init__" "object" "__init__" (.ref (s.heap.objs.size + 1)) [] [] _ PySem.W.oi_kind PySem.W.oi_split (ty.andThen top) (PySem.W.oi_args _) ?_)
  rw [PySem.W.oi_run]
  exact wpAny_pure ⟨rfl, V.ref (s.heap.objs.size + 1), _, I2, rfl, done⟩
theorem pe_make0S (m : Mk0 X.K C) (hm : X.mg x = some (.ref C)) (hg : Gl X x := by rfl) (hdb : (x == ("__debug__" : Str)) = false := by decide) : PE X (.Call (.Name x p) [] [] pos) (tMake0 C) :=
  ⟨fun pins s σ H Q I h => wpAny_Call_Name_kw (ld_glob I hg hm (PySem.W.callWith_K0 I.kIn m.kp (run_make0S m I h)) hdb)⟩
def eMk0 (t : Nat) : ED := fun _ M => .ok (.d (.obj t [] [])) M
theorem d_make0 (m : Mk0 X.K (cA t)) (hm : X.mg x = some (.ref (cA t))) (hg : Gl X x := by rfl) (hdb : (x == ("__debug__" : Str)) = false := by decide) : PE X (.Call (.Name x p) [] [] pos) (TED X.K cA Wx (eMk0 t)) :=
  PE.imp (pe_make0S m hm hg hdb) fun σ H Q ⟨z, env, M, g, c, sl, q⟩ => fun y dy hy hdy hne => by
    have c1 : Cf X.K cA z (upd H dy (.own y)) M g := c.scrib (c.fresh hdy) (plain_no hdy)
    have hy1 : upd H dy (.own y) y = none := by rw [upd_ne (Ne.symm hne)]; exact hy
    obtain ⟨c2, l2⟩ := c1.lay (ho := .ins (cA t) dy []) hy1
    exact q _ _ c2 l2 (.ref y) ⟨y, dy, [], rfl, upd_same, rfl, rfl⟩
end
end DL

/-! Layer D: enumerate(tuple). -/
namespace PySem
open Sem (wp)
set_option maxHeartbeats 1000000 in
theorem meets_enum1 {v : Value} {ob : Obj} {Hs : Heap → Prop} (B : Begins v ob Hs) :
    Meets (Builtin.«enumerate.__new__» ⟨[.type "enumerate", v], []⟩) (fun _ R s => Hs s.heap ∧
      R (.ok (.ret (.ref (s.heap.push ob).objs.size))) { s with heap := (s.heap.push ob).push { cls := .type "enumerate", data := .fields #[.none, .bool false, .ref s.heap.objs.size, rawInt 0, .none, .none] } }) :=
  .of_wp fun prog w A R s hh => by
    obtain ⟨hp, gs, dr, tk, os⟩ := s
    obtain ⟨hv, hr⟩ := hh
    have hsub := sub_enumerate
    have begin1 : ∀ {A' : Around} {E : Value → Shared → Prop} {Q : Value → Shared → Prop}, Q (.ref hp.objs.size) ⟨hp.push ob, gs, dr, tk, os⟩ → wpAny (model prog w) A' (pyIter v) Q E ⟨hp, gs, dr, tk, os⟩ := fun q => B.iter prog w _ _ ⟨hp, gs, dr, tk, os⟩ _ hv q
    wp_walk using begin1
    refine wpAny_stack_any fun st => wpAny_pure ?_
    split
    · rename_i c _ _ _ _ _
      cases (c == Value.type "enumerate")
      · wp_walk using begin1
        exact ⟨_, rfl, hr⟩
      · wp_walk using begin1
        exact ⟨_, rfl, hr⟩
    · wp_walk using begin1
      exact ⟨_, rfl, hr⟩
end PySem
namespace PySem
section
variable {prog : Program} {w : World} {A : Around} {E : Value → Shared → Prop} {s : Shared}
/-- enumerate(v): two new cells -/
theorem enum1_begins {v : Value} {ob : Obj} {Hs : Heap → Prop} {Q : Value → Shared → Prop} (B : Begins v ob Hs) (hv : Hs s.heap)
    (hQ : ∀ h', IsEnum h' (s.heap.objs.size + 1) s.heap.objs.size 0 .none → h'.get? s.heap.objs.size = some ob → (∀ b y, s.heap.get? b = some y → h'.get? b = some y) → Q (.ref (s.heap.objs.size + 1)) { s with heap := h' }) :
    wpAny (model prog w) A (call (.type "enumerate") [v]) Q E s := by
  refine callType_new F.called_enumerate (by decide) (F.typeCall_enumerate_1 _) (F.newCall_enumerate_1 _) (fun o2 => F.args_object_init_2 o2 _) F.entry_enumerate_new (meets_enum1 B) ⟨hv, ?_⟩
  have size1 : (s.heap.push ob).objs.size = s.heap.objs.size + 1 := Heap.size_push ..
  show _ ∧ _
  rw [size1]
  have at1 : IsEnum ((s.heap.push ob).push { cls := .type "enumerate", data := .fields #[.none, .bool false, .ref s.heap.objs.size, rawInt 0, .none, .none] }) (s.heap.objs.size + 1) s.heap.objs.size 0 .none := by
    have z := Heap.get?_push_size (s.heap.push ob) (o := { cls := .type "enumerate", data := .fields #[.none, .bool false, .ref s.heap.objs.size, rawInt 0, .none, .none] }) rfl
    rw [size1] at z
    exact z
  exact ⟨⟨_, at1, rfl⟩, hQ _ at1 (Heap.get?_push_of_some _ (Heap.get?_push_size _ B.free)) fun b y z => Heap.get?_push_of_some _ (Heap.get?_push_of_some _ z)⟩
end
end PySem
namespace DL
open PySem PySem.Spec PyProof.Rows L2
/-- the tuple at a, each item in a new pair with its place -/
def IteT (K : PySem.W.Frag) (a : Addr) : It :=
  ⟨fun i H => ∃ (xs : List V) (x : V), SqT K H a xs ∧ xs[i]? = some x, fun i H v H' => ∃ T x, v = .ref T ∧ H T = none ∧ H' = upd H T (.tup [.int (i : Nat), x]) ∧ ∀ xs, SqT K H a xs → xs[i]? = some x, fun i H => ∃ xs : List V, SqT K H a xs ∧ xs.length ≤ i⟩
theorem turn_enumT {P : Program} {w : World} {K : PySem.W.Frag} {elts : List Expr} {kk : Nat} {tpos : Pos} (a e it : Addr) :
    Turn P w K (.Tuple elts kk tpos) (IteT K a) [e, it] e (fun i h => (∃ old, IsEnum h e it ((i : Nat) : Int) old) ∧ h.IsTupleIter it a i ∧ e ≠ it) where
  mem := List.mem_cons_self ..
  obj := fun i h st b hb => by
    obtain ⟨⟨old, he⟩, ⟨o2, g2, _, d2⟩, _⟩ := st
    rcases List.mem_cons.mp hb with rfl | hb
    · exact ⟨_, he, fun v q => nomatch q⟩
    · rw [List.mem_singleton.mp hb]
      exact ⟨o2, g2, fun v q => by rw [d2] at q; cases q⟩
  keep := fun i h h' st k => ⟨st.1.imp fun _ he => k e (List.mem_cons_self ..) _ he, st.2.1.at fun o q => k it (List.mem_cons_of_mem _ (List.mem_singleton.mpr rfl)) o q, st.2.2⟩
  item := by
    intro X hP hw hK hc i pins s σ H E I hf st hg
    cases hP
    cases hw
    cases hK
    obtain ⟨⟨old, he⟩, hit, hne⟩ := st
    obtain ⟨xs, x, hq, hx⟩ := hg
    obtain ⟨its, rv, tup, _⟩ := I.tuple hq
    obtain ⟨u, hu, ru⟩ := rv.get hx
    have itup : s.heap.IsTuple a its.toArray := tup
    have ha1 : a ≠ it := fun z => by
      obtain ⟨o1, g1, c1, _⟩ := itup
      obtain ⟨o2, g2, c2, _⟩ := hit
      rw [z, g2] at g1
      cases g1
      rw [c1] at c2
      exact absurd c2 (by decide)
    have ha2 : e ≠ a := fun z => by
      obtain ⟨o1, g1, c1, _⟩ := itup
      have g2 : s.heap.get? e = some _ := he
      rw [z, g1] at g2
      cases g2
      exact absurd c1 (show ¬ (Value.type "enumerate" = Value.type "tuple") by decide)
    have le1 : e < s.heap.objs.size := Heap.lt_size he
    have le2 : it < s.heap.objs.size := by
      obtain ⟨_, q, _⟩ := hit
      exact Heap.lt_size q
    have hlt : i < its.toArray.size := by
      have := (List.getElem?_eq_some_iff.mp hu).1
      simpa using this
    have D := Draws.tuple (prog := X.prog) (w := X.w) (A := X.A.in1) (I.ok.hd hc) it a ha1 its.toArray
    refine wpAny_pyNext_enum_itemD D he ⟨hit, itup⟩ hlt hne (fun z => ?_) fun y h1 tk hy out st1 hT hsz hk => ?_
    · rcases List.mem_cons.mp z with z | z
      · exact hne z
      · exact ha2 (List.mem_singleton.mp z)
    · have ey : y = u := by
        have q : its.toArray[i]? = some y := hy
        rw [List.getElem?_toArray, hu] at q
        exact (Option.some.inj q).symm
      subst ey
      refine ⟨_, rfl, wpAny_letOwnedTupleGo_enum (s := { s with heap := h1, toks := tk + 1 }) out fun h2 he2 sb => ?_⟩
      have gT : h2.get? s.heap.objs.size = some { cls := .type "tuple", data := .seq #[.int i tk, y] } := (sb.2 _ (Nat.ne_of_gt le1)).trans hT
      have okT : ObjOk X.prog X.w (upd H s.heap.objs.size (.tup [.int (i : Nat), x])) h2 s.heap.objs.size (.tup [.int (i : Nat), x]) :=
        ⟨(by decide : 2 ≤ sizeLine), [.int i tk, y], .cons ⟨_, rfl⟩ (.cons ru .nil), ⟨_, gT, rfl, _, rfl⟩⟩
      have I2 : Inv X pins σ (upd H s.heap.objs.size (.tup [.int (i : Nat), x])) { s with heap := h2, toks := tk + 1 } :=
        I.turnedNew (ch := [e, it]) (fun b ob hb q => (sb.2 b fun z => hb (by rw [z]; exact List.mem_cons_self ..)).trans (hk b ob (fun z => hb (by rw [z]; exact List.mem_cons_self ..)) (fun z => hb (by rw [z]; exact List.mem_cons_of_mem _ (List.mem_singleton.mpr rfl))) q)) hf (Nat.le_refl _) okT
      refine ⟨.ref s.heap.objs.size, _, I2, rfl, ⟨_, x, rfl, I.hok.fresh (Nat.le_refl _), rfl, fun ys hy => by rw [I.tuple_inj hy hq]; exact hx⟩, ⟨⟨y, ?_⟩, st1.1.at fun o q => (sb.2 it (Ne.symm hne)).trans q, hne⟩, fun b hb => ?_⟩
      · rw [show ((i + 1 : Nat) : Int) = (i : Int) + 1 by omega]
        exact he2
      · have hb2 : b < s.heap.objs.size := by
          rcases List.mem_cons.mp hb with z | z
          · rw [z]; exact le1
          · rw [List.mem_singleton.mp z]; exact le2
        rw [upd_ne (Nat.ne_of_lt hb2)]
        exact (hf b hb).1
  done := by
    intro X hP hw hK hc i pins s σ H E I hf st hg
    cases hP
    cases hw
    cases hK
    obtain ⟨⟨old, he⟩, hit, hne⟩ := st
    obtain ⟨xs, hq, hx⟩ := hg
    obtain ⟨its, rv, tup, _⟩ := I.tuple hq
    obtain ⟨f0, f1, f2, f3, f4, f5⟩ := hf it (List.mem_cons_of_mem _ (List.mem_singleton.mpr rfl))
    have hl := rv.length
    have itup : s.heap.IsTuple a its.toArray := tup
    have none1 : its.toArray[i]? = none := by
      rw [List.getElem?_toArray, List.getElem?_eq_none_iff]
      omega
    have D : Draws X.prog X.w X.A.in1 it [it, a] i (fun _ _ => True) (fun j h => j = i ∧ h.IsTupleIter it a j ∧ h.IsTuple a its.toArray) :=
      { live := fun _ _ st => st.2.1.imp fun _ q => q.1
        frame := fun _ _ _ st hk => ⟨st.1, st.2.1.at fun o q => hk it (List.mem_cons_self ..) o q, st.2.2.at fun o q => hk a (List.mem_cons_of_mem _ (List.mem_singleton.mpr rfl)) o q⟩
        item := fun j s Q E hj st _ => absurd hj (by rw [st.1]; exact Nat.lt_irrefl _)
        done := fun s Q E st hE => wpAny_nextOf_tuple_end (I.ok.hd hc) st.2.1 st.2.2 none1 hE }
    exact wpAny_pyNext_enum_endD D he ⟨rfl, hit, itup⟩ fun h' eb => ⟨rfl, I.turned (t' := s.toks) (fun b o hb q => eb b o hb q) f0 f1 f3 f4 f5⟩
  self := fun A i s Q E st h => wpAny_pyIter_enum st.1.choose_spec h
/-- enumerate of a tuple or a list -/
def iEnumA (K : PySem.W.Frag) (ta : TA) : TI := fun σ H R => ta σ H fun vs H1 => (∃ a, vs = [.ref a] ∧ (∃ xs, SqT K H1 a xs) ∧ R (IteT K a) H1) ∨ ∃ a, vs = [.ref a] ∧ (∃ xs, SqL K H1 a xs) ∧ R (Ite K a) H1
section
variable {X : Cx} {cA : CA} {Wx : WX} {e : Expr} {mr : AD} {ta : TA} {p pos tpos : Pos} {elts : List Expr} {kk : Nat}
theorem two_new {s : Shared} {H : Hp} {pins : List (Addr × Obj)} {σ : St} {h' : Heap} (I : Inv X pins σ H s) {b : Addr} (hb : b ∈ [s.heap.objs.size + 1, s.heap.objs.size]) : FpOk X pins H b := by
  have le : s.heap.objs.size ≤ b := by
    rcases List.mem_cons.mp hb with z | z
    · rw [z]; exact Nat.le_succ _
    · rw [List.mem_singleton.mp z]; exact Nat.le_refl _
  exact I.fpOk le (I.hok.fresh le)
theorem pi_enumA (hg : Gl X "enumerate") (hm : X.mg "enumerate" = none) (ha : PA X [e] ta) (hs : starEach [e] X.env = [(false, eval e X.env)] := by rfl) : PI X (.Tuple elts kk tpos) (.Call (.Name "enumerate" p) [e] [] pos) (iEnumA X.K ta) := by
  constructor
  intro pins s σ H R I h
  refine Call_ (ld_blt I hg hm boot_enumerate (PyProof.Rows.callWith_type1 (thn (ha.run pos pins s σ H _ I h) fun us s1 ⟨vs, H1, I1, r1, q1⟩ => ?_) hs rfl))
  rcases q1 with ⟨a, ev, ⟨xs, hq⟩, q⟩ | ⟨a, ev, ⟨xs, hq⟩, q⟩
  · subst ev
    cases r1 with
    | cons r rr =>
      cases rr
      cases r
      obtain ⟨its, rv, tup, _⟩ := I1.tuple hq
      refine enum1_begins (begins_tuple a its.toArray) (show s1.heap.IsTuple a its.toArray from tup) fun h1 he hit hk => wpAny_pyIter_enum he ?_
      exact ⟨_, _, _, _, H1, rfl, I1.kept (t' := s1.toks) hk, turn_enumT a (s1.heap.objs.size + 1) s1.heap.objs.size, ⟨⟨.none, he⟩, ⟨_, hit, rfl, rfl⟩, Nat.succ_ne_self _⟩, fun b hb => two_new (h' := h1) I1 hb, q⟩
  · subst ev
    cases r1 with
    | cons r rr =>
      cases rr
      cases r
      obtain ⟨its, rv, lst, _⟩ := I1.list hq
      refine enum1_begins (begins_list a its.toArray) lst.isList fun h1 he hit hk => wpAny_pyIter_enum he ?_
      exact ⟨_, _, _, _, H1, rfl, I1.kept (t' := s1.toks) hk, turn_enum a (s1.heap.objs.size + 1) s1.heap.objs.size, ⟨⟨.none, he⟩, ⟨_, hit, rfl, rfl⟩, Nat.succ_ne_self _⟩, fun b hb => two_new (h' := h1) I1 hb, q⟩
/-- the pairs of enumerate -/
def pairsFrom : Nat → List D → List D
  | _, [] => []
  | n, x :: l => .tup [.int (n : Int), x] :: pairsFrom (n + 1) l
theorem pairs_get : ∀ {l : List D} {n i : Nat} {p : D}, (pairsFrom n l)[i]? = some p → ∃ x, l[i]? = some x ∧ p = .tup [.int ((n + i : Nat) : Int), x]
  | [], _, _, _, h => by simp [pairsFrom] at h
  | x :: l, n, 0, p, h => ⟨x, rfl, by simpa [pairsFrom] using h.symm⟩
  | x :: l, n, i + 1, p, h => by
    obtain ⟨y, h1, h2⟩ := pairs_get (l := l) (n := n + 1) (i := i) (by simpa [pairsFrom] using h)
    exact ⟨y, by simpa using h1, by rw [h2]; congr 4; omega⟩
theorem pairs_len : ∀ (l : List D) (n : Nat), (pairsFrom n l).length = l.length
  | [], _ => rfl
  | x :: l, n => by rw [pairsFrom, List.length_cons, List.length_cons, pairs_len l]
def iEnum (me : AD) : ID := fun env M => (me env M).bind fun ws M1 => match ws with
  | [w] => match nw M1 w with
    | .d (.tup l) => .ok (.its ((pairsFrom 0 l).map .d)) M1
    | .d (.lst l) => .ok (.its ((pairsFrom 0 l).map .d)) M1
    | _ => .no
  | _ => .no
theorem pair_new {K : PySem.W.Frag} {z : Z0} {g : Gh} {H : Hp} {M : Sto} (c : Cf K cA z H M g) {T : Addr} (hT : H T = none) {i : Nat} {d : D} {v : V} (r : Rep K cA g.F d v) :
    ∃ g3, Cf K cA z (upd H T (.tup [.int (i : Int), v])) M g3 ∧ Le g M.length g3 M.length ∧ RW K cA g3 M.length (.d (.tup [.int (i : Int), d])) (.ref T) := by
  obtain ⟨c2, l2⟩ := c.lay (ho := .tup [.int (i : Int), v]) hT
  exact ⟨_, c2, l2, T, [.int (i : Int), v], rfl, SqT.of upd_same, (by decide : 2 ≤ sizeLine), _, _, rfl, rfl, _, _, rfl, r.mono l2.F, rfl⟩
theorem jok_enumT {K : PySem.W.Frag} {z : Z0} {g : Gh} {n : Nat} {l : List D} {a : Addr} {vs : List V} (h1 : SqT K g.F a vs) (h2 : RepL K cA g.F l vs) : JOk K cA z g n (.its ((pairsFrom 0 l).map .d)) (IteT K a) := by
  intro i H2 M2 g2 ws c2 l2 e
  cases (Option.some.inj e)
  have hs : SqT K H2 a vs := c2.sub.seqT (l2.F.seqT h1)
  refine ⟨fun w hw => ?_, fun hi => ⟨vs, hs, by rw [← h2.length]; rw [List.length_map, pairs_len] at hi; exact hi⟩⟩
  obtain ⟨d, hd, rfl⟩ := map_some hw
  obtain ⟨x, hx, rfl⟩ := pairs_get hd
  obtain ⟨v, hv, rv⟩ := h2.get hx
  refine ⟨⟨vs, v, hs, hv⟩, fun y H3 ⟨T, v', ey, hT, eH, f3⟩ => ?_⟩
  subst ey
  subst eH
  have e4 : v' = v := by
    have := f3 vs hs
    rw [hv] at this
    exact (Option.some.inj this).symm
  subst e4
  rw [Nat.zero_add]
  exact pair_new c2 hT (rv.mono l2.F)
theorem jok_enumL {K : PySem.W.Frag} {z : Z0} {g : Gh} {n : Nat} {l : List D} {a : Addr} {vs : List V} (h1 : SqL K g.F a vs) (h2 : RepL K cA g.F l vs) : JOk K cA z g n (.its ((pairsFrom 0 l).map .d)) (Ite K a) := by
  intro i H2 M2 g2 ws c2 l2 e
  cases (Option.some.inj e)
  have hs : SqL K H2 a vs := c2.sub.seq (l2.F.seq h1)
  refine ⟨fun w hw => ?_, fun hi => ⟨vs, hs, by rw [← h2.length]; rw [List.length_map, pairs_len] at hi; exact hi⟩⟩
  obtain ⟨d, hd, rfl⟩ := map_some hw
  obtain ⟨x, hx, rfl⟩ := pairs_get hd
  obtain ⟨v, hv, rv⟩ := h2.get hx
  refine ⟨⟨vs, v, hs, hv⟩, fun y H3 ⟨T, v', ey, hT, eH, f3⟩ => ?_⟩
  subst ey
  subst eH
  have e4 : v' = v := by
    have := f3 vs hs
    rw [hv] at this
    exact (Option.some.inj this).symm
  subst e4
  rw [Nat.zero_add]
  exact pair_new c2 hT (rv.mono l2.F)
theorem i_enum (hm : X.mg "enumerate" = none) (ha : PA X [e] (TAD X.K cA Wx mr)) (hg : Gl X "enumerate" := by rfl) (hs : starEach [e] X.env = [(false, eval e X.env)] := by rfl) : PI X (.Tuple elts kk tpos) (.Call (.Name "enumerate" p) [e] [] pos) (TID X.K cA Wx (iEnum mr)) :=
  PI.imp (pi_enumA hg hm ha hs) fun σ H R ⟨z, env, M, g, c, sl, q⟩ => by
    refine ⟨z, env, M, g, c, sl, Res.imp (fun ws M1 g1 H1 c1 l1 q1 vs rv => ?_) q.of_bind⟩
    match ws, rv, q1 with
    | [w], .cons r1 .nil, q1 =>
      simp only at q1
      have r2 := rw_nw c1 r1
      split at q1
      · rename_i l hl
        rw [hl] at r2
        obtain ⟨a, us, rfl, h1, h2, h3⟩ := r2
        exact .inl ⟨a, rfl, ⟨us, c1.sub.seqT h1⟩, q1 H1 g1 c1 Le.refl _ fun _ => jok_enumT h1 h3⟩
      · rename_i l hl
        rw [hl] at r2
        obtain ⟨a, us, rfl, h1, h2, h3⟩ := r2
        exact .inr ⟨a, rfl, ⟨us, c1.sub.seq (SqL.of h1)⟩, q1 H1 g1 c1 Le.refl _ fun _ => jok_enumL (SqL.of h1) h3⟩
      · exact q1.elim
end
end DL

/-! Layer D: defs with defaults. -/
namespace DL
open PySem PySem.Spec PyProof.Rows L2
section
variable {P : Program} {w : World} {K : PySem.W.Frag} {mg : Str → Option Value} {base : Heap} {cA : CA}
theorem fnOk_ofD {x qual : Str} {st : Stmt} {f : Addr} {fd : FuncData} {N ps : List Str} {k : Nat} {out : Nat → Wv → Sto → Rs Wv} {outx : Nat → Exn → Sto → Rs Wv} {body : SD} {dvs : List V} {kws : List (Str × V)} (F : FunD K x qual (defArgs st) (defBody st) (defScope st) dvs kws f fd) (S : FnScope N ps (defScope st)) (ho : OutOk K cA out) (hx : OutxOk K cA outx)
    (hbody : ∀ (cdv : Value) (A : Around) (outer : List Env) (s : Shared) (H : Hp) (E : XK), Room k (A.deeper (envOfC qual (defScope st) s.heap.objs.size f cdv)) →
      PSs (cxOf (L2.CX P w) P w K mg base N qual (defScope st) f cdv A outer s H E) (defBody st) (TSD K cA (fun cls d _ H' => E cls d H') body)) :
    FnOk P w K mg base (L2.CX P w) (k + 1) f fd ps (spD K cA ps.length (fnB body N.length out outx)) := by
  refine F.ok S (fun vs H Q E h => h.1) fun cdv A outer s H vs Q E hr h => ⟨_, hbody cdv A outer s H E hr, ?_⟩
  obtain ⟨_, z, M, g, ws, c, r, q⟩ := h
  refine ⟨ent H M g, _, M, g, c.enter, start_slots (N := N) r, ?_⟩
  unfold fnB at q
  cases e : body (ws.map some ++ List.replicate (N.length - ws.length) none) M with
  | no => simp [e, Res] at q
  | ex x M' => simp [e, Res] at q
  | ok o M' =>
    simp only [e] at q
    cases o with
    | nx e1 => exact fun H' g' c' l' σ' sl' => ho z H' H M' M g' g (.d .non) .non _ Q c' l' rfl q
    | rt u => exact fun H' g' c' l' v rv => ho z H' H M' M g' g u v _ Q c' l' rv q
    | bk e1 => exact q.elim
    | ct e1 => exact q.elim
    | xc e1 x => exact fun H' g' c' l' σ' cls d sl' rx => hx H' H M' M g' g x cls d E _ c' l' rx q
/-- a def whose defaults are one whole number: as K holds it -/
theorem funD1 {x qual : Str} {st : Stmt} {f T : Addr} {oc : Value} {od an : Option Addr} {osl : Array (Option Value)} {kV doc pm cdv ct : Value} {i : Int} {tk : Tok} {dT : Option Addr} {nT : Nat} {sT : Array (Option Value)}
    (l : K.lookup f = some ⟨oc, od, .func (PySem.W.fnOf x qual (defArgs st) (defBody st) (defScope st) (.ref T) kV doc pm an cdv ct), osl⟩) (c : PySem.W.codeIn K cdv qual = true) (k : PySem.W.keepIn K (.ref f) = true)
    (lT : K.lookup T = some ⟨.type "tuple", dT, .seq #[.int i tk] nT, sT⟩) : FunD K x qual (defArgs st) (defBody st) (defScope st) [.int i] [] f (PySem.W.fnOf x qual (defArgs st) (defBody st) (defScope st) (.ref T) kV doc pm an cdv ct) :=
  ⟨⟨oc, od, .ref T, kV, doc, pm, an, cdv, ct, osl, rfl, l, c, .inr ⟨List.cons_ne_nil _ _, T, _, [.int i tk], nT, rfl, lT, rfl, .cons ⟨_, rfl⟩ .nil⟩, .inl rfl⟩, k⟩
end
end DL

/-! Layer D: the evaluator: list * n, instances without __init__, enumerate; slices. -/
namespace DL
open PySem
section
variable {M : Sto} {P : PV} {E : PX} {t : Nat} {env : Ev}
theorem y_mk0 : (eMk0 t env M).Is P E = P (.d (.obj t [] [])) M := rfl
theorem y_rep {l : List D} {n : Nat} (h : l.length * n ≤ sizeLine) (hn : n < 2 ^ 62) : (repw true (.d (.lst l)) (.d (.int (n : Int))) M).Is P E = P (.d (.lst (List.replicate n l).flatten)) M := by
  unfold repw
  have h1 : decide (-(2 ^ 63) ≤ (n : Int) ∧ (n : Int) < 2 ^ 63) = true := decide_eq_true ⟨by omega, by omega⟩
  have h2 : (l.map Wv.d).length * (n : Int).toNat ≤ sizeLine := by rw [List.length_map, Int.toNat_natCast]; exact h
  have h3 : repL (n : Int) (l.map Wv.d) = ((List.replicate n l).flatten).map .d := by
    rw [repL, Int.toNat_natCast, List.map_flatten, List.map_replicate]
  simp only [lstw, nw_d, seqw_lst]
  rw [shut_eq, if_pos h1, if_pos h2, if_pos trivial, h3, nds_d]
  rfl
theorem y_repM {l : List D} {n : Nat} (h : l.length * n ≤ sizeLine) (hn : n < 2 ^ 62) : (repw false (.d (.lst l)) (.d (.int (n : Int))) M).Is P E = P (.m M.length) (M ++ [.lst (((List.replicate n l).flatten).map .d)]) := by
  unfold repw
  have h1 : decide (-(2 ^ 63) ≤ (n : Int) ∧ (n : Int) < 2 ^ 63) = true := decide_eq_true ⟨by omega, by omega⟩
  have h2 : (l.map Wv.d).length * (n : Int).toNat ≤ sizeLine := by rw [List.length_map, Int.toNat_natCast]; exact h
  have h3 : repL (n : Int) (l.map Wv.d) = ((List.replicate n l).flatten).map .d := by
    rw [repL, Int.toNat_natCast, List.map_flatten, List.map_replicate]
  simp only [lstw, nw_d, seqw_lst]
  rw [shut_eq, if_pos h1, if_pos h2, h3]
  rfl
def kEn (P : Src → Sto → Prop) : PL := fun ws M => match ws with
  | [w] => match nw M w with
    | .d (.tup l) => P (.its ((pairsFrom 0 l).map .d)) M
    | .d (.lst l) => P (.its ((pairsFrom 0 l).map .d)) M
    | _ => False
  | _ => False
theorem y_enum {me : AD} {P : Src → Sto → Prop} : (iEnum me env M).Is P E = (me env M).Is (kEn P) E := by
  unfold iEnum
  rw [is_bind]
  congr
  funext ws M1
  match ws with
  | [] => rfl
  | _ :: _ :: _ => rfl
  | [w] =>
    show (match nw M1 w with
      | .d (.tup l) => .ok (.its ((pairsFrom 0 l).map .d)) M1
      | .d (.lst l) => .ok (.its ((pairsFrom 0 l).map .d)) M1
      | _ => .no : Rs Src).Is P E = kEn P [w] M1
    unfold kEn
    simp only
    cases nw M1 w with
    | m k => rfl
    | d x => cases x <;> rfl
theorem kEn_tup {l : List D} {P : Src → Sto → Prop} : kEn P [.d (.tup l)] M = P (.its ((pairsFrom 0 l).map .d)) M := rfl
end
end DL

/-! Layer D: Euclid's way: Ratio and the laws' own fractions. -/
namespace DL
open PySem
local macro_rules
  | `(tactic| simp! [$xs,*]) => `(tactic| simp (config := {implicitDefEqProofs := false}) only [DL.oo_some, DL.oo_none, DL.kD_ap, DL.kX_ap, DL.y_next, DL.y_seq, DL.kSeq_nx, DL.kSeq_rt, DL.kSeq_bk, DL.kSeq_ct, DL.kSeq_xc, DL.y_expr, DL.kExpr_ap, DL.y_ret, DL.kRet_ap, DL.y_retN, DL.y_if, DL.kIf_t, DL.kIf_f, DL.y_never, DL.y_brk, DL.y_cnt, DL.y_asg, DL.kAsg_n, DL.kNx_ap, DL.y_par, DL.kPar_ap, DL.y_for, DL.kFor_its, DL.y_tgN, DL.y_tgT, DL.y_tgsC, DL.kGc_ap, DL.y_tgsN, DL.y_tb, DL.kTb_ap, DL.y_tru, DL.kTru_ap, DL.truw_non, DL.truw_bl, DL.truw_int, DL.truw_tup, DL.truw_lst, DL.truw_str, DL.y_nt, DL.kNt_ap, DL.y_an, DL.kAn_t, DL.kAn_f, DL.y_o, DL.kO_t, DL.kO_f, DL.y_yes, DL.y_c, DL.y_var0, DL.y_varS, DL.y_and, DL.kAnd_t, DL.kAnd_f, DL.y_or, DL.kOr_t, DL.kOr_f, DL.y_not, DL.kNot_bl, DL.y_eif, DL.kEif_t, DL.kEif_f, DL.y_aNil, DL.y_aCons, DL.kC1_ap, DL.kC2_ap, DL.y_aStar, DL.kS1_ap, DL.kS2_ap, DL.kS3_ap, DL.y_tup, DL.kTupl_ap, DL.kTup2_ap, DL.y_lst, DL.kLstl_ap, DL.kLst2_ap, DL.y_lstM, DL.kLstM_ap, DL.y_e1, DL.kE1_ap, DL.y_e2, DL.kE2_ap, DL.kE3_ap, DL.y_eL, DL.kL_f1, DL.kL_f2, DL.y_call, DL.kCall_ap, DL.y_meth, DL.kMe1_ap, DL.kMe2_ap, DL.y_chain, DL.kCh1_ap, DL.kCh2_ap, DL.kCh3_t, DL.kCh3_f, DL.y_pu1, DL.y_pu2, DL.add_int, DL.addI_int, DL.sub_int, DL.neg_int, DL.mul_int, DL.mod_int, DL.div_int, DL.lt_int, DL.le_int, DL.gt_int, DL.ge_int, DL.eq_int, DL.ne_int, DL.toint_int, DL.toint_bl, DL.tostr_str, DL.y_isN, DL.y_notN, DL.y_ixL, DL.y_ixT, DL.y_ixSc, DL.y_ixM0, DL.y_lenL, DL.y_lenT, DL.y_lenSc, DL.y_lenS, DL.y_listL, DL.y_listT, DL.y_listSc, DL.y_tupL, DL.y_tupT, DL.nds_cons, DL.nds_nil, DL.at0, DL.at1, DL.at2, DL.at3, DL.at4, DL.at5, DL.atM1, DL.atM2, DL.atM3, DL.y_fnD, DL.kFn_nx, DL.kFn_rt, DL.kFn_xc, DL.y_fnM, DL.kFnM_nx, DL.kFnM_rt, DL.kFnM_xc, DL.y_outC, DL.y_outC0, DL.y_callA, DL.eq_bl, DL.ne_bl, DL.eq_non, DL.y_inT, DL.y_in0, DL.y_inC, DL.yi_tup, DL.yi_lst, DL.yi_int, DL.yi_str, DL.yi_bl, DL.yi_non, DL.y_r1, DL.kR1_ap, DL.y_r2, DL.kR2_ap, DL.y_s1, DL.kSt1_ap, DL.kSt2_ap, DL.y_fLst, DL.y_fldaug, DL.kG1_ap, DL.kG2_ap, DL.kG3_ap, DL.kG4_ap, DL.kG5_ap, DL.y_fld, DL.kF1_ap, DL.kF2_ap, DL.y_lm, DL.kLM1_ap, DL.kLM2_ap, DL.kLM3_ap, DL.kLM4_ap, DL.lApp_one, DL.lstAt0, DL.lstAt1, DL.y_mk0, DL.y_rep, DL.y_repM, DL.y_enum, DL.kEn_tup, DL.is_ok, DL.is_bind, DL.is_sx, DL.is_nx, DL.nds_d, DL.seqw_tup, DL.seqw_lst, DL.seqw_scr, List.map_cons, List.map_nil, List.cons_append, List.nil_append, List.length_cons, List.length_nil, List.replicate_succ, List.replicate_zero, List.set_cons_zero, List.set_cons_succ, Nat.reduceSub, Nat.reduceAdd, DL.nd_d, DL.isNon, Bool.not_true, Bool.not_false, Option.map_some, Option.bind_some, List.isEmpty_cons, List.isEmpty_nil, decide_true, decide_false, if_true, if_false, ite_true, ite_false, true_and, Bool.false_eq_true, List.length_map, List.take_zero, List.all_nil, List.take_succ_cons, List.all_cons, Bool.and_true, and_true, and_self, Nat.reduceLeDiff, Int.reduceLT, Int.reduceLE, Int.reduceSub, Int.reduceAdd, Int.cast_ofNat_Int, Bool.false_bne, Bool.true_bne, DL.zsz, DL.kTup, DL.kLst, DL.kBl, DL.kInt, DL.kStr, $xs,*])
/-- the turns that Euclid's way takes -/
def eSteps (a b : Nat) : Nat := if h : b = 0 then 0 else eSteps b (a % b) + 1
termination_by b
decreasing_by exact Nat.mod_lt _ (Nat.pos_of_ne_zero h)
theorem eSteps_zero (a : Nat) : eSteps a 0 = 0 := by rw [eSteps, dif_pos rfl]
theorem eSteps_succ {a b : Nat} (h : b ≠ 0) : eSteps a b = eSteps b (a % b) + 1 := by rw [eSteps, dif_neg h]
theorem mod_half {b c : Nat} (hc : 0 < c) (h : c < b) : b % c < b / 2 + 1 ∧ 2 * (b % c) < b := by
  have h1 := Nat.mod_lt b hc
  have h2 := Nat.div_add_mod b c
  have h3 : 1 ≤ b / c := (Nat.one_le_div_iff hc).mpr (Nat.le_of_lt h)
  have h4 : c ≤ c * (b / c) := by
    have := Nat.mul_le_mul_left c h3
    omega
  omega
theorem eSteps_le : ∀ (k a b : Nat), b < 2 ^ k → eSteps a b ≤ 2 * k + 1
  | 0, a, b, h => by
    have : b = 0 := by
      have : (2 : Nat) ^ 0 = 1 := rfl
      omega
    rw [this, eSteps_zero]
    omega
  | k + 1, a, b, h => by
    by_cases h0 : b = 0
    · rw [h0, eSteps_zero]; omega
    · rw [eSteps_succ h0]
      by_cases h1 : a % b = 0
      · rw [h1, eSteps_zero]; omega
      · rw [eSteps_succ h1]
        have hl := Nat.mod_lt a (Nat.pos_of_ne_zero h0)
        have hh := (mod_half (Nat.pos_of_ne_zero h1) hl).2
        have : b % (a % b) < 2 ^ k := by
          have : (2 : Nat) ^ (k + 1) = 2 * 2 ^ k := by rw [Nat.pow_succ, Nat.mul_comm]
          omega
        have := eSteps_le k (a % b) (b % (a % b)) this
        omega
def kWh2 (t : TD) (body : SD) (f : Nat) (P : PO) (E : PX) : PO := fun o M => match o with
  | .nx e => (whS t body f e M).Is P E
  | .ct e => (whS t body f e M).Is P E
  | .bk e => P (.nx e) M
  | .rt w => P (.rt w) M
  | .xc e x => P (.xc e x) M
def kWh (t : TD) (body : SD) (f : Nat) (env : Ev) (P : PO) (E : PX) : PB := fun k M => if k = true then (body env M).Is (kWh2 t body f P E) E else P (.nx env) M
section
variable {t : TD} {body : SD} {f : Nat} {env e : Ev} {P : PO} {E : PX} {M : Sto} {w : Wv} {x : Exn}
theorem y_wh : (whS t body (f + 1) env M).Is P E = (t env M).Is (kWh t body f env P E) (kX env P) := by
  show (sx env (t env M) _).Is P E = _
  rw [is_sx]
  congr
  funext k M1
  cases k with
  | false => rfl
  | true =>
    show (Rs.bind _ _).Is P E = _
    rw [is_bind]
    unfold kWh
    rw [if_pos rfl]
    congr
    funext o M2
    cases o <;> rfl
theorem kWh_t : kWh t body f env P E true M = (body env M).Is (kWh2 t body f P E) E := rfl
theorem kWh_f : kWh t body f env P E false M = P (.nx env) M := rfl
theorem kWh2_nx : kWh2 t body f P E (.nx e) M = (whS t body f e M).Is P E := rfl
end
/-- the program's way -/
theorem gcd_while {w0 w1 w2 : Option Wv} {P : PO} {E : PX} {M : Sto} : ∀ (f a b : Nat), eSteps a b < f → P (.nx [w0, w1, w2, some (.d (.int ((Nat.gcd a b : Nat) : Int))), some (.d (.int 0))]) M →
    (whS (tTru (eVar 4)) (sPar 3 4 (aCons (eVar 4) (aCons (e2 (pu2 dMod) (eVar 3) (eVar 4)) aNil))) f [w0, w1, w2, some (.d (.int (a : Int))), some (.d (.int (b : Int)))] M).Is P E
  | 0, _, _, h, _ => absurd h (Nat.not_lt_zero _)
  | f + 1, a, b, h, hP => by
    by_cases h0 : b = 0
    · subst h0
      rw [Nat.gcd_zero_right] at hP
      have e0 : (((0 : Nat) : Int) != 0) = false := rfl
      simp! [y_wh, kWh_t, kWh_f, kWh2_nx, e0]
      exact hP
    · rw [eSteps_succ h0] at h
      have hb : (((b : Nat) : Int) != 0) = true := by
        rw [bne_iff_ne]
        omega
      have hp : (0 : Int) < (b : Int) := by omega
      have em : (a : Int) % (b : Int) = ((a % b : Nat) : Int) := rfl
      simp! [y_wh, kWh_t, kWh_f, kWh2_nx, hb, hp, em]
      refine gcd_while f b (a % b) (by omega) ?_
      rw [Nat.gcd_comm b, ← Nat.gcd_rec, Nat.gcd_comm] 
      exact hP
theorem stow1 {t : Nat} {f g : Str} {u v : Wv} {M : Sto} {P : Unit → Sto → Prop} {E : PX} (h : (g = f) = False) : (stow t f u (.m 0) (.ins t [g] [v] :: M)).Is P E = P () (.ins t [g, f] [v, u] :: M) := by
  show (if t = t ∧ [g].length < 1000 then (.ok () (MO.ins t (putN f [g]) (putW f u [g] [v]) :: M) : Rs Unit) else .no : Rs Unit).Is P E = _
  rw [if_pos ⟨rfl, by show 1 < 1000; decide⟩]
  have h1 : putN f [g] = [g, f] := by
    show (if g = f then _ else _) = _
    rw [if_neg (by rw [h]; exact fun z => z)]
    rfl
  have h2 : putW f u [g] [v] = [v, u] := by
    show (if g = f then _ else _) = _
    rw [if_neg (by rw [h]; exact fun z => z)]
    rfl
  rw [h1, h2]
  rfl
/-- Ratio.__init__ -/
def g_ratioInit (t : Nat) : FD := fnM
    (sSeq (sIf (tb (e2 (pu2 dLe) (eVar 2) (eC (.int 0)))) sNever sNext)
    (sSeq (sAsg (tgN 3) (eL (f1 (pu1 dAbs)) (aCons (eVar 1) aNil)))
    (sSeq (sAsg (tgN 4) (eVar 2))
    (sSeq (whS (tTru (eVar 4)) (sPar 3 4 (aCons (eVar 4) (aCons (e2 (pu2 dMod) (eVar 3) (eVar 4)) aNil))) 100000)
    (sSeq (sFld t "num" (eVar 0) (e2 (pu2 dDiv) (eVar 1) (eVar 3)))
    (sFld t "den" (eVar 0) (e2 (pu2 dDiv) (eVar 2) (eVar 3)))))))) 5
def gcdI (n : Int) (d : Nat) : Nat := Nat.gcd n.natAbs d
def ratD (t : Nat) (n : Int) (d : Nat) : D := .obj t ["num", "den"] [.int (n / (gcdI n d : Int)), .int ((d : Int) / (gcdI n d : Int))]
theorem gcdI_pos {n : Int} {d : Nat} (h : 0 < d) : 0 < gcdI n d := Nat.gcd_pos_of_pos_right _ h
theorem gcdI_le {n : Int} {d : Nat} (h : 0 < d) : gcdI n d ≤ d := Nat.gcd_le_right _ h
theorem divOk_nat {g : Nat} (h0 : 0 < g) (h : g < 2 ^ 8000) : divOk (g : Int) = true := by
  unfold divOk
  rw [decide_eq_true (by omega : (0 : Int) < (g : Int)), Bool.true_and, Int.natAbs_natCast]
  exact decide_eq_true (Nat.lt_of_lt_of_le ((Nat.log2_lt (by omega)).mpr h) (by decide))
theorem abs_int {n : Int} : dAbs (.int n) = some (.int (n.natAbs : Int)) := by
  show some (D.int (if n < 0 then -n else n)) = _
  congr 2
  split <;> omega
theorem ratioInit_is {t : Nat} {n : Int} {d : Nat} (h0 : 0 < d) (h : d < 2 ^ 8000) : g_ratioInit t [.m 0, .d (.int n), .d (.int (d : Int))] [.ins t [] []] = .ok (.d .non) [.ins t ["num", "den"] [.d (.int (n / (gcdI n d : Int))), .d (.int ((d : Int) / (gcdI n d : Int)))]] := by
  refine is_eq ?_
  have hs : eSteps n.natAbs d < 100000 := Nat.lt_of_le_of_lt (eSteps_le 8000 n.natAbs d h) (by decide)
  have hd : ¬ (d : Int) ≤ 0 := by omega
  have ok := divOk_nat (gcdI_pos (n := n) h0) (Nat.lt_of_le_of_lt (gcdI_le h0) h)
  have hn : (("num" : Str) = "den") = False := eq_false (by decide +kernel)
  rw [g_ratioInit, y_fnM]
  simp! [hd, abs_int]
  refine gcd_while 100000 _ _ hs ?_
  have e : ((Nat.gcd n.natAbs d : Nat) : Int) = (gcdI n d : Int) := rfl
  rw [e]
  simp! [div_int ok, stow0, stow1 hn]
/-- a law's own lowest terms -/
def g_less : FD := fnD
    (sSeq (sAsg (tgN 2) (eL (f1 (pu1 dAbs)) (aCons (eVar 0) aNil)))
    (sSeq (sAsg (tgN 3) (eVar 1))
    (sSeq (sFor (iR1 (aCons (eC (.int 4000)) aNil)) (tgN 4) (sSeq (sIf (tb (e2 (pu2 dEq) (eVar 3) (eC (.int 0)))) sBrk sNext)
    (sPar 2 3 (aCons (eVar 3) (aCons (e2 (pu2 dMod) (eL (f1 (pu1 dInt)) (aCons (eVar 2) aNil)) (eVar 3)) aNil)))))
    (sRet (eTup (aCons (e2 (pu2 dDiv) (eVar 0) (eVar 2)) (aCons (e2 (pu2 dDiv) (eVar 1) (eVar 2)) aNil))))))) 5
/-- n / d in lowest terms, as a pair -/
def lowP (n : Int) (d : Nat) : D := .tup [.int (n / (gcdI n d : Int)), .int ((d : Int) / (gcdI n d : Int))]
theorem less_is {n : Int} {d : Nat} (h0 : 0 < d) (h : d < 2 ^ 1900) : g_less [.d (.int n), .d (.int (d : Int))] [] = .ok (.d (lowP n d)) [] := by
  refine is_eq ?_
  have hs : eSteps n.natAbs d < 4000 := Nat.lt_of_le_of_lt (eSteps_le 1900 n.natAbs d h) (by decide)
  have ok := divOk_nat (gcdI_pos (n := n) h0) (Nat.lt_of_le_of_lt (gcdI_le h0) (Nat.lt_of_lt_of_le h (Nat.pow_le_pow_right (by decide) (by decide))))
  have r4 : 4000 ≤ sizeLine := by decide
  have e4 : (4000 : Int) = ((4000 : Nat) : Int) := rfl
  rw [g_less, y_fnD]
  simp! [abs_int, y_r1, kR1_ap]
  rw [e4, rng0_is r4]
  simp! [DL.is_ok]
  refine for_is (fun i env M => M = [] ∧ ∃ (a b : Nat) (o : Option Wv), env = [some (.d (.int n)), some (.d (.int (d : Int))), some (.d (.int (a : Int))), some (.d (.int (b : Int))), o] ∧ Nat.gcd a b = gcdI n d ∧ eSteps a b + i < 4000) (fun i w env M hw hI => ?_) (fun env M hI => ?_) _ _ _ _ (Nat.zero_add _) ⟨rfl, n.natAbs, d, none, rfl, rfl, by omega⟩
  · obtain ⟨rfl, a, b, o, rfl, hg, hi⟩ := hI
    by_cases hb : b = 0
    · subst hb
      rw [Nat.gcd_zero_right] at hg
      subst hg
      simp! [y_tgN, div_int ok, Int.natCast_zero, lowP]
    · have hb1 : ¬ (b : Int) = 0 := by omega
      have hb2 : (0 : Int) < (b : Int) := by omega
      have em : (a : Int) % (b : Int) = ((a % b : Nat) : Int) := rfl
      rw [eSteps_succ hb] at hi
      simp! [y_tgN, hb1, hb2, em]
      refine ⟨b, a % b, _, rfl, ?_, by omega⟩
      rw [Nat.gcd_comm b, ← Nat.gcd_rec, Nat.gcd_comm]
      exact hg
  · obtain ⟨_, a, b, o, _, _, hi⟩ := hI
    rw [rngL_len] at hi
    omega
end DL

/-! Layer D: fractions in lowest terms; Ratio's operators. -/
namespace DL
open PySem
abbrev Fr := Int × Nat
def low (n : Int) (d : Nat) : Fr := (n / (gcdI n d : Int), d / gcdI n d)
def frP (q : Fr) : D := .tup [.int q.1, .int (q.2 : Int)]
def frR (t : Nat) (q : Fr) : D := .obj t ["num", "den"] [.int q.1, .int (q.2 : Int)]
theorem lowP_eq (n : Int) (d : Nat) : lowP n d = frP (low n d) := by
  show D.tup [.int (n / (gcdI n d : Int)), .int ((d : Int) / (gcdI n d : Int))] = _
  rw [← Int.natCast_ediv]
  rfl
theorem ratD_eq (t : Nat) (n : Int) (d : Nat) : ratD t n d = frR t (low n d) := by
  show D.obj t ["num", "den"] [.int (n / (gcdI n d : Int)), .int ((d : Int) / (gcdI n d : Int))] = _
  rw [← Int.natCast_ediv]
  rfl
/-- in lowest terms -/
def Low (q : Fr) : Prop := 0 < q.2 ∧ Nat.Coprime q.1.natAbs q.2
theorem low_mul {n : Int} {d : Nat} (h : 0 < d) : (low n d).1 * (gcdI n d : Int) = n ∧ (low n d).2 * gcdI n d = d := by
  have h1 : (gcdI n d : Int) ∣ n := Int.ofNat_dvd_left.mpr (Nat.gcd_dvd_left _ _)
  have h2 : gcdI n d ∣ d := Nat.gcd_dvd_right _ _
  exact ⟨Int.ediv_mul_cancel h1, Nat.div_mul_cancel h2⟩
theorem low_low {n : Int} {d : Nat} (h : 0 < d) : Low (low n d) := by
  have g0 := gcdI_pos (n := n) h
  obtain ⟨h1, h2⟩ := low_mul (n := n) h
  refine ⟨Nat.div_pos (gcdI_le h) g0, ?_⟩
  have e : (low n d).1.natAbs = n.natAbs / gcdI n d := by
    have : (low n d).1.natAbs * gcdI n d = n.natAbs := by
      have := congrArg Int.natAbs h1
      rw [Int.natAbs_mul, Int.natAbs_natCast] at this
      exact this
    rw [← this, Nat.mul_div_cancel _ g0]
  rw [e]
  exact Nat.coprime_div_gcd_div_gcd g0
theorem low_le {n : Int} {d : Nat} : (low n d).2 ≤ d := Nat.div_le_self _ _
/-- fractions of one value have the same lowest terms -/
theorem Low.uniq {p q : Fr} (hp : Low p) (hq : Low q) (h : p.1 * (q.2 : Int) = q.1 * (p.2 : Int)) : p = q := by
  have ha : p.1.natAbs * q.2 = q.1.natAbs * p.2 := by
    have := congrArg Int.natAbs h
    rw [Int.natAbs_mul, Int.natAbs_mul, Int.natAbs_natCast, Int.natAbs_natCast] at this
    exact this
  have d1 : p.2 ∣ q.2 := hp.2.symm.dvd_of_dvd_mul_left (ha ▸ Nat.dvd_mul_left p.2 q.1.natAbs)
  have d2 : q.2 ∣ p.2 := hq.2.symm.dvd_of_dvd_mul_left (ha ▸ Nat.dvd_mul_left q.2 p.1.natAbs)
  have e : p.2 = q.2 := Nat.dvd_antisymm d1 d2
  rw [← e] at h
  have hp2 : (p.2 : Int) ≠ 0 := by have := hp.1; omega
  have e1 : p.1 = q.1 := Int.eq_of_mul_eq_mul_right hp2 h
  exact Prod.ext e1 e
theorem low_eq {n n' : Int} {d d' : Nat} (h : 0 < d) (h' : 0 < d') (e : n * (d' : Int) = n' * (d : Int)) : low n d = low n' d' := by
  refine Low.uniq (low_low h) (low_low h') ?_
  obtain ⟨h1, h2⟩ := low_mul (n := n) h
  obtain ⟨h3, h4⟩ := low_mul (n := n') h'
  have g0 : (gcdI n d : Int) ≠ 0 := by have := gcdI_pos (n := n) h; omega
  have g1 : (gcdI n' d' : Int) ≠ 0 := by have := gcdI_pos (n := n') h'; omega
  have h2' : ((low n d).2 : Int) * (gcdI n d : Int) = (d : Int) := by rw [← Int.natCast_mul, h2]
  have h4' : ((low n' d').2 : Int) * (gcdI n' d' : Int) = (d' : Int) := by rw [← Int.natCast_mul, h4]
  refine Int.eq_of_mul_eq_mul_right g0 (Int.eq_of_mul_eq_mul_right g1 ?_)
  have e2 : (low n d).1 * ((low n' d').2 : Int) * (gcdI n d : Int) * (gcdI n' d' : Int) = ((low n d).1 * (gcdI n d : Int)) * (((low n' d').2 : Int) * (gcdI n' d' : Int)) := by
    rw [Int.mul_assoc, Int.mul_assoc, Int.mul_assoc, Int.mul_left_comm ((low n' d').2 : Int)]
  have e3 : (low n' d').1 * ((low n d).2 : Int) * (gcdI n d : Int) * (gcdI n' d' : Int) = ((low n' d').1 * (gcdI n' d' : Int)) * (((low n d).2 : Int) * (gcdI n d : Int)) := by
    rw [Int.mul_assoc ((low n' d').1), Int.mul_assoc ((low n' d').1), Int.mul_assoc ((low n' d').1), Int.mul_comm (gcdI n' d' : Int)]
  rw [e2, e3, h1, h2', h3, h4', e]
theorem low_self {q : Fr} (h : Low q) : low q.1 q.2 = q := by
  obtain ⟨h1, h2⟩ := low_mul (n := q.1) h.1
  refine Low.uniq (low_low h.1) h ?_
  have g0 : (gcdI q.1 q.2 : Int) ≠ 0 := by have := gcdI_pos (n := q.1) h.1; omega
  refine Int.eq_of_mul_eq_mul_right g0 ?_
  have h2' : ((low q.1 q.2).2 : Int) * (gcdI q.1 q.2 : Int) = (q.2 : Int) := by rw [← Int.natCast_mul, h2]
  rw [Int.mul_right_comm, h1, Int.mul_assoc, h2']
end DL

/-! Layer D: Ratio's operators. -/
namespace DL
open PySem
local macro_rules
  | `(tactic| simp! [$xs,*]) => `(tactic| simp (config := {implicitDefEqProofs := false}) only [DL.oo_some, DL.oo_none, DL.kD_ap, DL.kX_ap, DL.y_next, DL.y_seq, DL.kSeq_nx, DL.kSeq_rt, DL.kSeq_bk, DL.kSeq_ct, DL.kSeq_xc, DL.y_expr, DL.kExpr_ap, DL.y_ret, DL.kRet_ap, DL.y_retN, DL.y_if, DL.kIf_t, DL.kIf_f, DL.y_never, DL.y_brk, DL.y_cnt, DL.y_asg, DL.kAsg_n, DL.kNx_ap, DL.y_par, DL.kPar_ap, DL.y_for, DL.kFor_its, DL.y_tgN, DL.y_tgT, DL.y_tgsC, DL.kGc_ap, DL.y_tgsN, DL.y_tb, DL.kTb_ap, DL.y_tru, DL.kTru_ap, DL.truw_non, DL.truw_bl, DL.truw_int, DL.truw_tup, DL.truw_lst, DL.truw_str, DL.y_nt, DL.kNt_ap, DL.y_an, DL.kAn_t, DL.kAn_f, DL.y_o, DL.kO_t, DL.kO_f, DL.y_yes, DL.y_c, DL.y_var0, DL.y_varS, DL.y_and, DL.kAnd_t, DL.kAnd_f, DL.y_or, DL.kOr_t, DL.kOr_f, DL.y_not, DL.kNot_bl, DL.y_eif, DL.kEif_t, DL.kEif_f, DL.y_aNil, DL.y_aCons, DL.kC1_ap, DL.kC2_ap, DL.y_aStar, DL.kS1_ap, DL.kS2_ap, DL.kS3_ap, DL.y_tup, DL.kTupl_ap, DL.kTup2_ap, DL.y_lst, DL.kLstl_ap, DL.kLst2_ap, DL.y_lstM, DL.kLstM_ap, DL.y_e1, DL.kE1_ap, DL.y_e2, DL.kE2_ap, DL.kE3_ap, DL.y_eL, DL.kL_f1, DL.kL_f2, DL.y_call, DL.kCall_ap, DL.y_meth, DL.kMe1_ap, DL.kMe2_ap, DL.y_chain, DL.kCh1_ap, DL.kCh2_ap, DL.kCh3_t, DL.kCh3_f, DL.y_pu1, DL.y_pu2, DL.add_int, DL.addI_int, DL.sub_int, DL.neg_int, DL.mul_int, DL.mod_int, DL.div_int, DL.lt_int, DL.le_int, DL.gt_int, DL.ge_int, DL.eq_int, DL.ne_int, DL.toint_int, DL.toint_bl, DL.tostr_str, DL.y_isN, DL.y_notN, DL.y_ixL, DL.y_ixT, DL.y_ixSc, DL.y_ixM0, DL.y_lenL, DL.y_lenT, DL.y_lenSc, DL.y_lenS, DL.y_listL, DL.y_listT, DL.y_listSc, DL.y_tupL, DL.y_tupT, DL.nds_cons, DL.nds_nil, DL.at0, DL.at1, DL.at2, DL.at3, DL.at4, DL.at5, DL.atM1, DL.atM2, DL.atM3, DL.y_fnD, DL.kFn_nx, DL.kFn_rt, DL.kFn_xc, DL.y_fnM, DL.kFnM_nx, DL.kFnM_rt, DL.kFnM_xc, DL.y_outC, DL.y_outC0, DL.y_callA, DL.eq_bl, DL.ne_bl, DL.eq_non, DL.y_inT, DL.y_in0, DL.y_inC, DL.yi_tup, DL.yi_lst, DL.yi_int, DL.yi_str, DL.yi_bl, DL.yi_non, DL.y_r1, DL.kR1_ap, DL.y_r2, DL.kR2_ap, DL.y_s1, DL.kSt1_ap, DL.kSt2_ap, DL.y_fLst, DL.y_fldaug, DL.kG1_ap, DL.kG2_ap, DL.kG3_ap, DL.kG4_ap, DL.kG5_ap, DL.y_fld, DL.kF1_ap, DL.kF2_ap, DL.y_lm, DL.kLM1_ap, DL.kLM2_ap, DL.kLM3_ap, DL.kLM4_ap, DL.lApp_one, DL.lstAt0, DL.lstAt1, DL.y_mk0, DL.y_rep, DL.y_repM, DL.y_enum, DL.kEn_tup, DL.is_ok, DL.is_bind, DL.is_sx, DL.is_nx, DL.nds_d, DL.seqw_tup, DL.seqw_lst, DL.seqw_scr, List.map_cons, List.map_nil, List.cons_append, List.nil_append, List.length_cons, List.length_nil, List.replicate_succ, List.replicate_zero, List.set_cons_zero, List.set_cons_succ, Nat.reduceSub, Nat.reduceAdd, DL.nd_d, DL.isNon, Bool.not_true, Bool.not_false, Option.map_some, Option.bind_some, List.isEmpty_cons, List.isEmpty_nil, decide_true, decide_false, if_true, if_false, ite_true, ite_false, true_and, Bool.false_eq_true, List.length_map, List.take_zero, List.all_nil, List.take_succ_cons, List.all_cons, Bool.and_true, and_true, and_self, Nat.reduceLeDiff, Int.reduceLT, Int.reduceLE, Int.reduceSub, Int.reduceAdd, Int.cast_ofNat_Int, Bool.false_bne, Bool.true_bne, DL.zsz, DL.kTup, DL.kLst, DL.kBl, DL.kInt, DL.kStr, $xs,*])
/-- a fraction whose parts are not too long -/
structure FrOk (k : Nat) (q : Fr) : Prop where
  pos : 0 < q.2
  den : q.2 < 2 ^ k
  num : q.1.natAbs < 2 ^ k
theorem mul_len {i j : Int} (hi : i.natAbs < 2 ^ 20000) (hj : j.natAbs < 2 ^ 20000) : mulOk i j = true := by
  have lg : ∀ x : Nat, x < 2 ^ 20000 → x.log2 < 20000 := fun x hx => by
    by_cases h : x = 0
    · subst h; decide
    · exact (Nat.log2_lt h).mpr hx
  unfold mulOk
  have := lg _ hi
  have := lg _ hj
  rw [Bool.or_eq_true]
  exact .inr (decide_eq_true (by omega))
theorem pow_mul_lt {a b j k : Nat} (ha : a < 2 ^ j) (hb : b < 2 ^ k) : a * b < 2 ^ (j + k) := by
  rw [Nat.pow_add]
  exact Nat.mul_lt_mul'' ha hb
section
variable (t : Nat)
def frAdd (p q : Fr) : Fr := low (p.1 * (q.2 : Int) + q.1 * (p.2 : Int)) (p.2 * q.2)
def frSub (p q : Fr) : Fr := low (p.1 * (q.2 : Int) - q.1 * (p.2 : Int)) (p.2 * q.2)
def frMul (p q : Fr) : Fr := low (p.1 * q.1) (p.2 * q.2)
def g_mk : FD := mkF t 3 (g_ratioInit t)
def g_add : FD := fnD
    (sRet (eCall (mkF t 3 (g_ratioInit t)) [] (aCons (e2 (pu2 dAdd) (e2 (pu2 dMul) (e1 (fldw [t] "num") (eVar 0)) (e1 (fldw [t] "den") (eVar 1))) (e2 (pu2 dMul) (e1 (fldw [t] "num") (eVar 1)) (e1 (fldw [t] "den") (eVar 0)))) (aCons (e2 (pu2 dMul) (e1 (fldw [t] "den") (eVar 0)) (e1 (fldw [t] "den") (eVar 1))) aNil)))) 2
def g_rsub : FD := fnD
    (sRet (eCall (mkF t 3 (g_ratioInit t)) [] (aCons (e2 (pu2 dSub) (e2 (pu2 dMul) (e1 (fldw [t] "num") (eVar 0)) (e1 (fldw [t] "den") (eVar 1))) (e2 (pu2 dMul) (e1 (fldw [t] "num") (eVar 1)) (e1 (fldw [t] "den") (eVar 0)))) (aCons (e2 (pu2 dMul) (e1 (fldw [t] "den") (eVar 0)) (e1 (fldw [t] "den") (eVar 1))) aNil)))) 2
def g_mul : FD := fnD
    (sRet (eCall (mkF t 3 (g_ratioInit t)) [] (aCons (e2 (pu2 dMul) (e1 (fldw [t] "num") (eVar 0)) (e1 (fldw [t] "num") (eVar 1))) (aCons (e2 (pu2 dMul) (e1 (fldw [t] "den") (eVar 0)) (e1 (fldw [t] "den") (eVar 1))) aNil)))) 2
def g_req : FD := fnD
    (sRet (eAnd (e1 (isiw (isOw t [])) (eVar 1)) (eAnd (e2 (pu2 dEq) (e1 (fldw [t] "num") (eVar 0)) (e1 (fldw [t] "num") (eVar 1))) (e2 (pu2 dEq) (e1 (fldw [t] "den") (eVar 0)) (e1 (fldw [t] "den") (eVar 1)))))) 2
end
section
variable {t : Nat} {p q : Fr} {M : Sto} {P : PV} {E : PX}
theorem mk_is {n : Int} {d : Nat} (h0 : 0 < d) (h : d < 2 ^ 8000) : mkF t 3 (g_ratioInit t) [.d (.int n), .d (.int (d : Int))] M = .ok (.d (frR t (low n d))) M := by
  have hr := ratioInit_is (t := t) (n := n) h0 h
  have hx : frR t (low n d) = .obj t ["num", "den"] [.int (n / (gcdI n d : Int)), .int ((d : Int) / (gcdI n d : Int))] := (ratD_eq t n d).symm
  rw [hx]
  exact mkF_d (xs := [.int n, .int (d : Int)]) rfl hr rfl
theorem f_num : (fldw [t] "num" (.d (frR t q)) M).Is P E = P (.d (.int q.1)) M := by
  show (if [t].contains t = true then match (["num", "den"].zip [D.int q.1, .int (q.2 : Int)]).lookup "num" with
      | some x => .ok (.d x) M
      | none => .no
    else .no : Rs Wv).Is P E = _
  rw [if_pos (by simp)]
  rfl
theorem f_den : (fldw [t] "den" (.d (frR t q)) M).Is P E = P (.d (.int (q.2 : Int))) M := by
  show (if [t].contains t = true then match (["num", "den"].zip [D.int q.1, .int (q.2 : Int)]).lookup "den" with
      | some x => .ok (.d x) M
      | none => .no
    else .no : Rs Wv).Is P E = _
  rw [if_pos (by simp)]
  rfl
theorem i_own {l : List D} {ns : List Str} : (isiw (isOw t []) (.d (.obj t ns l)) M).Is P E = P (.d (.bl true)) M := by
  show (match (isOw t [] (.obj t ns [])) with | some b => .ok (.d (.bl b)) M | none => .no : Rs Wv).Is P E = _
  have : isOw t [] (.obj t ns []) = some true := if_pos rfl
  rw [this]
  rfl
theorem den_mul (p q : Fr) : (p.2 : Int) * (q.2 : Int) = ((p.2 * q.2 : Nat) : Int) := (Int.natCast_mul _ _).symm
theorem den_len {k : Nat} (h : FrOk k q) (hk : k ≤ 4000) : ((q.2 : Nat) : Int).natAbs < 2 ^ 20000 := by
  rw [Int.natAbs_natCast]
  exact Nat.lt_of_lt_of_le h.den (Nat.pow_le_pow_right (by decide) (by omega))
theorem num_len {k : Nat} (h : FrOk k q) (hk : k ≤ 4000) : q.1.natAbs < 2 ^ 20000 := Nat.lt_of_lt_of_le h.num (Nat.pow_le_pow_right (by decide) (by omega))
theorem dd {k : Nat} (hp : FrOk k p) (hq : FrOk k q) (hk : k ≤ 4000) : p.2 * q.2 < 2 ^ 8000 := Nat.lt_of_lt_of_le (pow_mul_lt hp.den hq.den) (Nat.pow_le_pow_right (by decide) (by omega))
theorem add_own {k : Nat} (hp : FrOk k p) (hq : FrOk k q) (hk : k ≤ 4000) : ownw t (callR 0 2 (g_add t)) (.d (frR t p)) (.d (frR t q)) M = .ok (.d (frR t (frAdd p q))) M := by
  have hc : callR 0 2 (g_add t) [.d (frR t p), .d (frR t q)] M = .ok (.d (frR t (frAdd p q))) M := by
    refine call0 (xs := [frR t p, frR t q]) rfl (is_eq ?_)
    have hm := fun M => mk_is (t := t) (n := p.1 * (q.2 : Int) + q.1 * (p.2 : Int)) (d := p.2 * q.2) (M := M) (Nat.mul_pos hp.pos hq.pos) (dd hp hq hk)
    rw [g_add, y_fnD]
    simp! [f_num, f_den, mul_len (num_len hp hk) (den_len hq hk), mul_len (num_len hq hk) (den_len hp hk), mul_len (den_len hp hk) (den_len hq hk), den_mul, hm, frAdd]
  unfold ownw
  rw [if_pos ⟨by show (t == t && !(["num", "den"] : List Str).contains "") = true; rw [beq_self_eq_true]; rfl, by show (t == t && !(["num", "den"] : List Str).contains "") = true; rw [beq_self_eq_true]; rfl⟩, hc]
  rfl
theorem mul_own {k : Nat} (hp : FrOk k p) (hq : FrOk k q) (hk : k ≤ 4000) : ownw t (callR 0 2 (g_mul t)) (.d (frR t p)) (.d (frR t q)) M = .ok (.d (frR t (frMul p q))) M := by
  have hc : callR 0 2 (g_mul t) [.d (frR t p), .d (frR t q)] M = .ok (.d (frR t (frMul p q))) M := by
    refine call0 (xs := [frR t p, frR t q]) rfl (is_eq ?_)
    have hm := fun M => mk_is (t := t) (n := p.1 * q.1) (d := p.2 * q.2) (M := M) (Nat.mul_pos hp.pos hq.pos) (dd hp hq hk)
    rw [g_mul, y_fnD]
    simp! [f_num, f_den, mul_len (num_len hp hk) (num_len hq hk), mul_len (den_len hp hk) (den_len hq hk), den_mul, hm, frMul]
  unfold ownw
  rw [if_pos ⟨by show (t == t && !(["num", "den"] : List Str).contains "") = true; rw [beq_self_eq_true]; rfl, by show (t == t && !(["num", "den"] : List Str).contains "") = true; rw [beq_self_eq_true]; rfl⟩, hc]
  rfl
theorem req_own : ownw t (callR 0 2 (g_req t)) (.d (frR t p)) (.d (frR t q)) M = .ok (.d (.bl (decide (p = q)))) M := by
  have hc : callR 0 2 (g_req t) [.d (frR t p), .d (frR t q)] M = .ok (.d (.bl (decide (p = q)))) M := by
    refine call0 (xs := [frR t p, frR t q]) rfl (is_eq ?_)
    have hi : ∀ (P : PV) (E : PX) (M : Sto), (isiw (isOw t []) (.d (frR t q)) M).Is P E = P (.d (.bl true)) M := fun _ _ _ => i_own
    rw [g_req, y_fnD]
    by_cases h1 : p.1 = q.1
    · by_cases h2 : p.2 = q.2
      · have h3 : p = q := Prod.ext h1 h2
        subst h3
        simp! [f_num, f_den, hi]
      · have h3 : ¬ p = q := fun e => h2 (by rw [e])
        have h4 : ¬ (p.2 : Int) = (q.2 : Int) := by omega
        simp! [f_num, f_den, hi, eq_true h1, h4, h3]
    · have h3 : ¬ p = q := fun e => h1 (by rw [e])
      simp! [f_num, f_den, hi, h1, h3]
  unfold ownw
  rw [if_pos ⟨by show (t == t && !(["num", "den"] : List Str).contains "") = true; rw [beq_self_eq_true]; rfl, by show (t == t && !(["num", "den"] : List Str).contains "") = true; rw [beq_self_eq_true]; rfl⟩, hc]
  rfl
end
end DL

/-! Layer D: comprehensions by an invariant; lots. -/
namespace DL
open PySem
section
variable {tg : GD} {tt : TD} {te : ED} {ws : List Wv} {env : Ev}
/-- a comprehension, by an invariant over the places, what was gathered and the store -/
theorem compS_is (I : Nat → List Wv → Sto → Prop) (hl : ws.length ≤ sizeLine)
    (hs : ∀ i w acc M, ws[i]? = some w → I i acc M → (tg w env M).Is (fun e M1 => (tt e M1).Is (fun k M2 => if k = true then (te e M2).Is (fun y M3 => I (i + 1) (acc ++ [y]) M3) nox else I (i + 1) acc M2) nox) nox) :
    ∀ (f i cnt : Nat) (acc : List Wv) (M : Sto), i + f = ws.length → cnt ≤ i → I i acc M → (compS (.its ws) tg tt te f i cnt env M).Is (fun ys M' => I ws.length (acc ++ ys) M') nox
  | 0, i, cnt, acc, M, hi, _, h => by
    have : i = ws.length := by omega
    subst this
    unfold compS
    simp only [Src.at_its, Nat.le_refl, if_true, is_ok, List.append_nil]
    exact h
  | f + 1, i, cnt, acc, M, hi, hc, h => by
    have hlt : i < ws.length := by omega
    unfold compS
    simp only [Src.at_its, List.getElem?_eq_getElem hlt]
    rw [is_bind, is_nx]
    refine (hs i _ acc M (List.getElem?_eq_getElem hlt) h).imp (fun e M1 q => ?_) fun _ _ q => q
    rw [is_bind, is_nx]
    refine q.imp (fun k M2 q2 => ?_) fun _ _ q => q
    cases k with
    | false => exact compS_is I hl hs f (i + 1) cnt acc M2 (by omega) (by omega) q2
    | true =>
      rw [if_pos rfl] at q2
      rw [if_pos rfl, is_bind, is_nx]
      refine q2.imp (fun y M3 q3 => ?_) fun _ _ q => q
      rw [if_pos (by omega), is_bind]
      refine (compS_is I hl hs f (i + 1) (cnt + 1) (acc ++ [y]) M3 (by omega) (by omega) q3).imp (fun ys M4 q4 => ?_) fun _ _ q => q
      rw [is_ok]
      rw [List.append_assoc] at q4
      exact q4
theorem eLc_is {fin : List Wv → Sto → Rs Wv} {src : ID} {vs : List Nat} {M1 M : Sto} {P : PV} {E : PX} (I : Nat → List Wv → Sto → Prop) (hsrc : src env M1 = .ok (.its ws) M) (hl : ws.length ≤ sizeLine) (h0 : I 0 [] M)
    (hs : ∀ i w acc M, ws[i]? = some w → I i acc M → (tg w (wipeE env vs) M).Is (fun e M1 => (tt e M1).Is (fun k M2 => if k = true then (te e M2).Is (fun y M3 => I (i + 1) (acc ++ [y]) M3) nox else I (i + 1) acc M2) nox) nox)
    (hd : ∀ acc M, I ws.length acc M → (fin acc M).Is P E) : (eLc fin src tg tt te vs env M1).Is P E := by
  unfold eLc
  simp only [hsrc, Rs.bind_ok, Src.at_its]
  rw [is_bind]
  refine Rs.Is.any ((compS_is I hl hs ws.length 0 0 [] M (Nat.zero_add _) (Nat.le_refl _) h0).imp (fun ys M' q => ?_) fun _ _ q => q)
  exact hd _ _ q
end
section
variable {P : PV} {E : PX} {M : Sto} {ws : List Wv} {l : List D}
/-- a goal that is not to be opened unasked -/
structure Go (p : Prop) : Prop where
  go : p
theorem y_go {p : Prop} : Go p = p := propext ⟨Go.go, Go.mk⟩
theorem y_finF : (finF (l.map .d) M).Is P E = P (.d (.lst l)) M := by
  unfold finF
  rw [nds_d]
  rfl
theorem y_finM : (finM ws M).Is P E = P (.m M.length) (M ++ [.lst ws]) := rfl
theorem finF_is (h : P (.d (.lst l)) M) : (finF (l.map .d) M).Is P E := by
  unfold finF
  rw [nds_d]
  exact h
theorem finM_is (h : P (.m M.length) (M ++ [.lst ws])) : (finM ws M).Is P E := h
end
/-! ### lots -/
def lotsQ (ws : List Nat) : List Fr := ws.map fun (w : Nat) => low (w : Int) ws.sum
structure WOk (ws : List Nat) : Prop where
  pos : 0 < ws.sum
  few : ws.length ≤ 100
  sm : ws.sum < 2 ^ 30
theorem sum_bound {c : Nat} : ∀ {ws : List Nat}, (∀ w ∈ ws, w ≤ c) → ws.sum ≤ ws.length * c
  | [], _ => Nat.zero_le _
  | w :: ws, h => by
    rw [List.sum_cons, List.length_cons, Nat.add_mul, Nat.one_mul]
    have := h w (List.mem_cons_self ..)
    have := sum_bound (ws := ws) fun x hx => h x (List.mem_cons_of_mem _ hx)
    omega
theorem mem_le_sum : ∀ {ws : List Nat} {w : Nat}, w ∈ ws → w ≤ ws.sum
  | x :: ws, w, h => by
    rw [List.sum_cons]
    rcases List.mem_cons.mp h with rfl | h
    · omega
    · have := mem_le_sum h
      omega
theorem low_num_le {n : Int} {d : Nat} (h : 0 < d) : (low n d).1.natAbs ≤ n.natAbs := by
  obtain ⟨h1, _⟩ := low_mul (n := n) h
  have h2 := congrArg Int.natAbs h1
  rw [Int.natAbs_mul, Int.natAbs_natCast] at h2
  have g0 := gcdI_pos (n := n) h
  rw [← h2]
  exact Nat.le_mul_of_pos_right _ g0
theorem lot_ok {ws : List Nat} (h : WOk ws) {q : Fr} (hq : q ∈ lotsQ ws) : FrOk 30 q ∧ Low q ∧ 0 ≤ q.1 := by
  obtain ⟨w, hw, rfl⟩ := List.mem_map.mp hq
  have h1 := h.sm
  have h2 := mem_le_sum hw
  refine ⟨⟨(low_low h.pos).1, Nat.lt_of_le_of_lt low_le h1, Nat.lt_of_le_of_lt (low_num_le h.pos) ?_⟩, low_low h.pos, ?_⟩
  · rw [Int.natAbs_natCast]
    omega
  · exact Int.ediv_nonneg (by omega) (by omega)
end DL

/-! Layer D: drawn lots. -/
namespace DL
open PySem
local macro_rules
  | `(tactic| simp! [$xs,*]) => `(tactic| simp (config := {implicitDefEqProofs := false}) only [DL.oo_some, DL.oo_none, DL.kD_ap, DL.kX_ap, DL.y_next, DL.y_seq, DL.kSeq_nx, DL.kSeq_rt, DL.kSeq_bk, DL.kSeq_ct, DL.kSeq_xc, DL.y_expr, DL.kExpr_ap, DL.y_ret, DL.kRet_ap, DL.y_retN, DL.y_if, DL.kIf_t, DL.kIf_f, DL.y_never, DL.y_brk, DL.y_cnt, DL.y_asg, DL.kAsg_n, DL.kNx_ap, DL.y_par, DL.kPar_ap, DL.y_for, DL.kFor_its, DL.y_tgN, DL.y_tgT, DL.y_tgsC, DL.kGc_ap, DL.y_tgsN, DL.y_tb, DL.kTb_ap, DL.y_tru, DL.kTru_ap, DL.truw_non, DL.truw_bl, DL.truw_int, DL.truw_tup, DL.truw_lst, DL.truw_str, DL.y_nt, DL.kNt_ap, DL.y_an, DL.kAn_t, DL.kAn_f, DL.y_o, DL.kO_t, DL.kO_f, DL.y_yes, DL.y_c, DL.y_var0, DL.y_varS, DL.y_and, DL.kAnd_t, DL.kAnd_f, DL.y_or, DL.kOr_t, DL.kOr_f, DL.y_not, DL.kNot_bl, DL.y_eif, DL.kEif_t, DL.kEif_f, DL.y_aNil, DL.y_aCons, DL.kC1_ap, DL.kC2_ap, DL.y_aStar, DL.kS1_ap, DL.kS2_ap, DL.kS3_ap, DL.y_tup, DL.kTupl_ap, DL.kTup2_ap, DL.y_lst, DL.kLstl_ap, DL.kLst2_ap, DL.y_lstM, DL.kLstM_ap, DL.y_e1, DL.kE1_ap, DL.y_e2, DL.kE2_ap, DL.kE3_ap, DL.y_eL, DL.kL_f1, DL.kL_f2, DL.y_call, DL.kCall_ap, DL.y_meth, DL.kMe1_ap, DL.kMe2_ap, DL.y_chain, DL.kCh1_ap, DL.kCh2_ap, DL.kCh3_t, DL.kCh3_f, DL.y_pu1, DL.y_pu2, DL.add_int, DL.addI_int, DL.sub_int, DL.neg_int, DL.mul_int, DL.mod_int, DL.div_int, DL.lt_int, DL.le_int, DL.gt_int, DL.ge_int, DL.eq_int, DL.ne_int, DL.toint_int, DL.toint_bl, DL.tostr_str, DL.y_isN, DL.y_notN, DL.y_ixL, DL.y_ixT, DL.y_ixSc, DL.y_ixM0, DL.y_lenL, DL.y_lenT, DL.y_lenSc, DL.y_lenS, DL.y_listL, DL.y_listT, DL.y_listSc, DL.y_tupL, DL.y_tupT, DL.nds_cons, DL.nds_nil, DL.at0, DL.at1, DL.at2, DL.at3, DL.at4, DL.at5, DL.atM1, DL.atM2, DL.atM3, DL.y_fnD, DL.kFn_nx, DL.kFn_rt, DL.kFn_xc, DL.y_fnM, DL.kFnM_nx, DL.kFnM_rt, DL.kFnM_xc, DL.y_outC, DL.y_outC0, DL.y_callA, DL.eq_bl, DL.ne_bl, DL.eq_non, DL.y_inT, DL.y_in0, DL.y_inC, DL.yi_tup, DL.yi_lst, DL.yi_int, DL.yi_str, DL.yi_bl, DL.yi_non, DL.y_r1, DL.kR1_ap, DL.y_r2, DL.kR2_ap, DL.y_s1, DL.kSt1_ap, DL.kSt2_ap, DL.y_fLst, DL.y_fldaug, DL.kG1_ap, DL.kG2_ap, DL.kG3_ap, DL.kG4_ap, DL.kG5_ap, DL.y_fld, DL.kF1_ap, DL.kF2_ap, DL.y_lm, DL.kLM1_ap, DL.kLM2_ap, DL.kLM3_ap, DL.kLM4_ap, DL.lApp_one, DL.lstAt0, DL.lstAt1, DL.y_mk0, DL.y_rep, DL.y_repM, DL.y_enum, DL.kEn_tup, DL.y_go, DL.y_finF, DL.y_finM, DL.is_ok, DL.is_bind, DL.is_sx, DL.is_nx, DL.nds_d, DL.seqw_tup, DL.seqw_lst, DL.seqw_scr, List.map_cons, List.map_nil, List.cons_append, List.nil_append, List.length_cons, List.length_nil, List.replicate_succ, List.replicate_zero, List.set_cons_zero, List.set_cons_succ, Nat.reduceSub, Nat.reduceAdd, DL.nd_d, DL.isNon, Bool.not_true, Bool.not_false, Option.map_some, Option.bind_some, List.isEmpty_cons, List.isEmpty_nil, decide_true, decide_false, if_true, if_false, ite_true, ite_false, true_and, Bool.false_eq_true, List.length_map, List.take_zero, List.all_nil, List.take_succ_cons, List.all_cons, Bool.and_true, and_true, and_self, Nat.reduceLeDiff, Int.reduceLT, Int.reduceLE, Int.reduceSub, Int.reduceAdd, Int.cast_ofNat_Int, Bool.false_bne, Bool.true_bne, DL.zsz, DL.kTup, DL.kLst, DL.kBl, DL.kInt, DL.kStr, $xs,*])
def b_lots : SD :=
    (sSeq (sAsg (tgN 2) (eLc finM (iR1 (aCons (eVar 1) aNil)) (tgN 3) tYesD (eCall (callR 1 2 g_draw) [] (aCons (eVar 0) (aCons (eC (.int 4)) aNil))) [3]))
    (sSeq (sIf (tb (e2 (pu2 dEq) (eCall (callR 1 2 g_draw) [] (aCons (eVar 0) (aCons (eC (.int 3)) aNil))) (eC (.int 0)))) (sAsg (tgN 2) (e2 (repw false) (eLst (aCons (eC (.int 0)) aNil)) (eVar 1))) sNext)
    (sSeq (sIf (tb (e2 (pu2 dEq) (eL (f1 (fLst dSum)) (aCons (eVar 2) aNil)) (eC (.int 0)))) (sAsg (tgS (eVar 2) (eCall (callR 1 2 g_draw) [] (aCons (eVar 0) (aCons (eVar 1) aNil)))) (eC (.int 1))) sNext)
    (sSeq (sIf (tb (e2 (pu2 dEq) (eCall (callR 1 2 g_draw) [] (aCons (eVar 0) (aCons (eC (.int 6)) aNil))) (eC (.int 0)))) (sAsg (tgS (eVar 2) (eCall (callR 1 2 g_draw) [] (aCons (eVar 0) (aCons (eVar 1) aNil)))) (e2 ixw (eTup (aCons (eC (.int 100)) (aCons (eC (.int 10007)) (aCons (e2 (pu2 dPow) (eC (.int 10)) (eC (.int 7))) (aCons (e2 (pu2 dPow) (eC (.int 10)) (eC (.int 9))) aNil))))) (eCall (callR 1 2 g_draw) [] (aCons (eVar 0) (aCons (eC (.int 4)) aNil))))) sNext)
    (sRet (eLc finF (iSeq (eVar 2)) (tgN 4) tYesD (eCall (callR 0 2 g_less) [] (aCons (eVar 4) (aCons (eL (f1 (fLst dSum)) (aCons (eVar 2) aNil)) aNil))) [4]))))))
def g_lots : FD := fnD b_lots 5
def natW (ws : List Nat) : List Wv := ws.map fun (w : Nat) => Wv.d (.int (w : Int))
theorem natW_d (ws : List Nat) : natW ws = (ws.map fun (w : Nat) => D.int (w : Int)).map .d := by rw [natW, List.map_map]; rfl
theorem sum_ints (ws : List Nat) : dSum (ws.map fun (w : Nat) => D.int (w : Int)) = some (.int (ws.sum : Int)) := by
  have e : (ws.map fun (w : Nat) => D.int (w : Int)) = (ws.map fun (w : Nat) => (w : Int)).map .int := by rw [List.map_map]; rfl
  rw [e, dSum, intsOf_map]
  show some (D.int (ws.map fun (w : Nat) => (w : Int)).sum) = _
  congr 2
  induction ws with
  | nil => rfl
  | cons w ws ih =>
    rw [List.map_cons, List.sum_cons, List.sum_cons, ih (by rw [List.map_map]; rfl)]
    omega
/-- the list at the store's end, where k objects stand ahead -/
theorem sum_at {p p2 : MO} {ws : List Nat} {k : Nat} {P : PV} {E : PX} {M : Sto} (h : M[k]? = some (.lst (natW ws))) : (fLst dSum (.m k) M).Is P E = P (.d (.int (ws.sum : Int))) M := by
  unfold fLst
  simp only [seqw, nw, h]
  rw [natW_d, nds_d]
  simp only [sum_ints]
  rfl
theorem pow_7 : dPow (.int 10) (.int 7) = some (.int 10000000) := by
  show (if decide ((0 : Int) ≤ 7 ∧ (7 : Int) ≤ 1000000 ∧ (10 : Int).natAbs < 2 ^ 64) = true then some (D.int (10 ^ (7 : Int).toNat)) else none) = _
  rw [if_pos (by decide)]
  rfl
theorem pow_9 : dPow (.int 10) (.int 9) = some (.int 1000000000) := by
  show (if decide ((0 : Int) ≤ 9 ∧ (9 : Int) ≤ 1000000 ∧ (10 : Int).natAbs < 2 ^ 64) = true then some (D.int (10 ^ (9 : Int).toNat)) else none) = _
  rw [if_pos (by decide)]
  rfl
/-- xs[i] = w, xs the store's object k -/
theorem tgS_at {i k : Nat} {ie : ED} {w : Wv} {env : Ev} {M : Sto} {Q : Ev → Sto → Prop} {E : PX} (hv : env[i]? = some (some (.m k))) (hi : (ie env M).Is (fun x M2 => ∃ (j : Nat) (ws : List Wv), x = .d (.int (j : Int)) ∧ M2[k]? = some (.lst ws) ∧ j < ws.length ∧ Q env (M2.set k (.lst (ws.set j w)))) nox) : (tgS (eVar i) ie w env M).Is Q E := by
  have e : eVar i env M = .ok (.m k) M := by unfold eVar; rw [hv]
  rw [y_tgS, e, is_ok]
  unfold kTs1
  refine hi.imp (fun x M2 h => ?_) fun _ _ z => z
  obtain ⟨j, ws, rfl, h1, h2, h3⟩ := h
  have h4 : lstAt (.m k) M2 = some (k, ws) := by unfold lstAt; simp only [h1]
  simp only [h4]
  have h5 : L2.ixN ws.length (j : Int) = some j := by
    unfold L2.ixN
    rw [if_pos (Int.natCast_nonneg j), if_pos (by omega), Int.toNat_natCast]
  rw [h5]
  exact h3
section
variable {tg : GD} {te : ED} {M : Sto}
theorem comp_mapS {α : Type} (s : Src) (g : α → Wv) (v : α → D) {env : Ev} : ∀ (as : List α) (f i cnt : Nat) (pre : List α), s.at M = some ((pre ++ as).map g) → (∀ a ∈ as, ∃ e, tg (g a) env M = .ok e M ∧ te e M = .ok (.d (v a)) M) → f = as.length → i = pre.length → cnt + as.length ≤ sizeLine →
    compS s tg tYesD te f i cnt env M = .ok (as.map fun a => .d (v a)) M
  | [], f, i, cnt, pre, hat, h, hf, hi, hc => by
    subst hf hi
    unfold compS
    simp [hat]
  | a :: as, f, i, cnt, pre, hat, h, hf, hi, hc => by
    subst hf hi
    obtain ⟨e, h1, h2⟩ := h a (List.mem_cons_self ..)
    rw [List.length_cons] at hc ⊢
    unfold compS
    have e1 : ((pre ++ a :: as).map g)[pre.length]? = some (g a) := by
      rw [List.getElem?_map, List.getElem?_append_right (Nat.le_refl _), Nat.sub_self]
      rfl
    simp only [hat, e1, h1, nx_ok, Rs.bind_ok, tYesD, if_true, h2]
    rw [if_pos (by omega)]
    have e2 : pre ++ a :: as = (pre ++ [a]) ++ as := by rw [List.append_assoc]; rfl
    rw [e2] at hat
    rw [comp_mapS s g v as as.length (pre.length + 1) (cnt + 1) (pre ++ [a]) hat (fun b hb => h b (List.mem_cons_of_mem _ hb)) rfl (by rw [List.length_append]; rfl) (by omega)]
    rfl
theorem eLc_mapS {α : Type} {src : ID} {vs : List Nat} {env : Ev} {M1 : Sto} {s : Src} (g : α → Wv) (v : α → D) (as : List α) (hs : src env M1 = .ok s M) (hat : s.at M = some (as.map g)) (h : ∀ a ∈ as, ∃ e, tg (g a) (wipeE env vs) M = .ok e M ∧ te e M = .ok (.d (v a)) M) (hl : as.length ≤ sizeLine) :
    eLc finF src tg tYesD te vs env M1 = .ok (.d (.lst (as.map v))) M := by
  have e : (as.map fun a => Wv.d (v a)) = (as.map v).map .d := by rw [List.map_map]; rfl
  unfold eLc
  simp only [hs, Rs.bind_ok, hat]
  have := comp_mapS (tg := tg) (te := te) (M := M) s g v (env := wipeE env vs) as (as.map g).length 0 0 [] hat h (by rw [List.length_map]) rfl (by omega)
  rw [this, Rs.bind_ok, finF, e, nds_d]
end
theorem sum_set {ws : List Nat} {j x : Nat} (hj : j < ws.length) (hx : 0 < x) : 0 < (ws.set j x).sum := by
  have : x ≤ (ws.set j x).sum := mem_le_sum (List.mem_iff_getElem.mpr ⟨j, by rw [List.length_set]; exact hj, List.getElem_set_self _⟩)
  omega
theorem sum_set_le : ∀ (ws : List Nat) (j x : Nat), (ws.set j x).sum ≤ ws.sum + x
  | [], j, x => by simp
  | w :: ws, 0, x => by
    rw [List.set_cons_zero, List.sum_cons, List.sum_cons]
    omega
  | w :: ws, j + 1, x => by
    rw [List.set_cons_succ, List.sum_cons, List.sum_cons]
    have := sum_set_le ws j x
    omega
theorem natW_set (ws : List Nat) (j x : Nat) : (natW ws).set j (.d (.int (x : Int))) = natW (ws.set j x) := by
  rw [natW, natW, List.map_set]
theorem natW_len (ws : List Nat) : (natW ws).length = ws.length := by rw [natW, List.length_map]
theorem set_le {ws : List Nat} {j x c : Nat} (h : ∀ w ∈ ws, w ≤ c) (hx : x ≤ c) : ∀ w ∈ ws.set j x, w ≤ c := fun w hw => by
  rcases List.mem_or_eq_of_mem_set hw with h1 | h1
  · exact h w h1
  · rw [h1]; exact hx
/-- the last part: the weights as fractions -/
theorem lots_end {ws : List Nat} (hw : WOk ws) {j : Nat} {env : Ev} {p : MO} {rest : List MO} (he : ∀ w, eVar 2 ((wipeE env [4]).set 4 w) (p :: rest) = .ok (.m (j + 1)) (p :: rest)) (he0 : eVar 2 env (p :: rest) = .ok (.m (j + 1)) (p :: rest)) (he4 : ∀ w : Wv, eVar 4 ((wipeE env [4]).set 4 (some w)) (p :: rest) = .ok w (p :: rest)) (hr : rest[j]? = some (.lst (natW ws))) :
    eLc finF (iSeq (eVar 2)) (tgN 4) tYesD (eCall (callR 0 2 g_less) [] (aCons (eVar 4) (aCons (eL (f1 (fLst dSum)) (aCons (eVar 2) aNil)) aNil))) [4] env (p :: rest) = .ok (.d (.lst ((lotsQ ws).map frP))) (p :: rest) := by
  have hM : (p :: rest)[j + 1]? = some (.lst (natW ws)) := by rw [List.getElem?_cons_succ]; exact hr
  have hs : iSeq (eVar 2) env (p :: rest) = .ok (.live (j + 1)) (p :: rest) := by
    unfold iSeq
    rw [he0, Rs.bind_ok]
    unfold srcw
    simp only [nw, hM]
  have e1 : (lotsQ ws).map frP = ws.map fun (w : Nat) => frP (low (w : Int) ws.sum) := by rw [lotsQ, List.map_map]; rfl
  rw [e1]
  refine eLc_mapS (fun (w : Nat) => Wv.d (.int (w : Int))) (fun (w : Nat) => frP (low (w : Int) ws.sum)) ws hs (by
    show (match (p :: rest)[j + 1]? with
      | some (.lst us) => some us
      | _ => none) = _
    rw [hM]
    rfl) (fun w hw1 => ⟨_, rfl, ?_⟩) (Nat.le_trans hw.few (by decide))
  have hc : callR 0 2 g_less [.d (.int (w : Int)), .d (.int (ws.sum : Int))] (p :: rest) = .ok (.d (frP (low (w : Int) ws.sum))) (p :: rest) := by
    rw [← lowP_eq]
    exact call0 (xs := [.int (w : Int), .int (ws.sum : Int)]) rfl (less_is hw.pos (Nat.lt_of_lt_of_le hw.sm (Nat.pow_le_pow_right (by decide) (by decide))))
  refine is_eq ?_
  simp! [he, he4, sum_at (p := p) (p2 := p) hM, hc]
theorem get_set {rest : List MO} {j : Nat} {x y : MO} (h : rest[j]? = some x) : (rest.set j y)[j]? = some y := List.getElem?_set_self (List.getElem?_eq_some_iff.mp h).1
/-- from the fourth statement on -/
theorem lots4 {ws : List Nat} {c j : Nat} {p : MO} {rest : List MO} {P : PV} {x3 x4 : Option Wv} (hl : ws.length = c) (c2 : c ≤ 8) (c1 : 0 < c) (h3 : ∀ w ∈ ws, w ≤ 3) (h0 : 0 < ws.sum) (hp : PoolIs p) (hr : rest[j]? = some (.lst (natW ws)))
    (h : ∀ ws p', ws.length = c → WOk ws → PoolIs p' → P (.d (.lst ((lotsQ ws).map frP))) [p']) :
    ((sSeq (sIf (tb (e2 (pu2 dEq) (eCall (callR 1 2 g_draw) [] (aCons (eVar 0) (aCons (eC (.int 6)) aNil))) (eC (.int 0)))) (sAsg (tgS (eVar 2) (eCall (callR 1 2 g_draw) [] (aCons (eVar 0) (aCons (eVar 1) aNil)))) (e2 ixw (eTup (aCons (eC (.int 100)) (aCons (eC (.int 10007)) (aCons (e2 (pu2 dPow) (eC (.int 10)) (eC (.int 7))) (aCons (e2 (pu2 dPow) (eC (.int 10)) (eC (.int 9))) aNil))))) (eCall (callR 1 2 g_draw) [] (aCons (eVar 0) (aCons (eC (.int 4)) aNil))))) sNext)
    (sRet (eLc finF (iSeq (eVar 2)) (tgN 4) tYesD (eCall (callR 0 2 g_less) [] (aCons (eVar 4) (aCons (eL (f1 (fLst dSum)) (aCons (eVar 2) aNil)) aNil))) [4]))) [some (.m 0), some (.d (.int (c : Int))), some (.m (j + 1)), x3, x4] (p :: rest)).Is (kFn 1 P nox) nox := by
  have fin : ∀ (us : List Nat) (p' : MO) (rest' : List MO), WOk us → rest'[j]? = some (.lst (natW us)) →
      eLc finF (iSeq (eVar 2)) (tgN 4) tYesD (eCall (callR 0 2 g_less) [] (aCons (eVar 4) (aCons (eL (f1 (fLst dSum)) (aCons (eVar 2) aNil)) aNil))) [4] [some (.m 0), some (.d (.int (c : Int))), some (.m (j + 1)), x3, x4] (p' :: rest') = .ok (.d (.lst ((lotsQ us).map frP))) (p' :: rest') := fun us p' rest' g2 g4 =>
    lots_end g2 (j := j) (env := [some (.m 0), some (.d (.int (c : Int))), some (.m (j + 1)), x3, x4]) (p := p') (rest := rest') (fun _ => rfl) rfl (fun _ => rfl) g4
  have ci : (c : Int) < 2 ^ 63 := by omega
  have ci0 : (0 : Int) < (c : Int) := by omega
  simp! [DL.is_ok]
  refine draw1 (s := 6) (by decide) (by decide) hp fun v p1 v0 v1 hp1 => ?_
  by_cases hv : v = 0
  · subst hv
    simp! [pow_7, pow_9, y_asgG]
    refine draw1 (s := 4) (by decide) (by decide) hp1 fun u p2 u0 u1 hp2 => ?_
    obtain ⟨x, hx, ex⟩ := at_map ([100, 10007, 10000000, 1000000000] : List Nat) (fun (w : Nat) => Wv.d (.int (w : Int))) u0 u1
    have ex' : L2.atI [Wv.d (.int 100), .d (.int 10007), .d (.int 10000000), .d (.int 1000000000)] u = some (.d (.int (x : Int))) := ex
    have hx' : 0 < x ∧ x ≤ 1000000000 := by
      simp only [List.mem_cons, List.not_mem_nil, or_false] at hx
      omega
    simp! [ex', kAsg_g]
    refine tgS_at rfl ?_
    simp! [DL.is_ok]
    refine draw1 (s := (c : Int)) ci0 ci hp2 fun i p3 i0 i1 hp3 => ?_
    refine ⟨i.toNat, natW ws, by rw [Int.toNat_of_nonneg i0], by rw [List.getElem?_cons_succ]; exact hr, by rw [natW_len]; omega, ?_⟩
    rw [natW_set, List.set_cons_succ]
    have g2 : WOk (ws.set i.toNat x) := ⟨sum_set (by omega) hx'.1, by rw [List.length_set]; omega, by
      have b1 := sum_set_le ws i.toNat x
      have b2 := sum_bound h3
      have b3 : ws.length * 3 ≤ 24 := by omega
      omega⟩
    simp! [kNx_ap, fin _ p3 _ g2 (get_set hr)]
    exact ⟨hp3.below, h _ p3 (by rw [List.length_set]; exact hl) g2 hp3⟩
  · have g2 : WOk ws := ⟨h0, by omega, by
      have b2 := sum_bound h3
      have b3 : ws.length * 3 ≤ 24 := by omega
      omega⟩
    simp! [hv, fin _ p1 _ g2 hr]
    exact ⟨hp1.below, h ws p1 hl g2 hp1⟩
section
variable {α β : Type} {M M1 : Sto} {P : PV} {E : PX} {env : Ev} {src : ID} {tg : GD} {tt : TD} {te : ED} {vs : List Nat}
theorem src_eq {r : Rs Src} {s : Src} (h : r.Is (fun s' M' => s' = s ∧ M' = M) nox) : r = .ok s M := by
  obtain ⟨w, M', e, rfl, rfl⟩ := h.out
  exact e
theorem lcRA {fin : List Wv → Sto → Rs Wv} (n : Nat) (enc : β → D) (Q : β → Prop) {p : MO} {rest : Sto} (hl : n ≤ sizeLine) (hp : PoolIs p) (hs : Go ((src env M1).Is (fun s M' => s = .its (rngL 0 n) ∧ M' = p :: rest) nox))
    (h : ∀ i < n, ∀ p, PoolIs p → Go ((tg (.d (.int (i : Int))) (wipeE env vs) (p :: rest)).Is (fun e M' => M' = p :: rest ∧ (te e (p :: rest)).Is (fun w M'' => ∃ b p', w = .d (enc b) ∧ M'' = p' :: rest ∧ Q b ∧ PoolIs p') nox) nox))
    (k : ∀ (l : List β) (p : MO), l.length = n → (∀ b ∈ l, Q b) → PoolIs p → Go ((fin ((l.map enc).map .d) (p :: rest)).Is P E)) :
    (eLc fin src tg tYesD te vs env M1).Is P E := by
  refine eLc_is (fun i acc M => ∃ (l : List β) (p : MO), acc = (l.map enc).map .d ∧ l.length = i ∧ (∀ b ∈ l, Q b) ∧ PoolIs p ∧ M = p :: rest) (src_eq hs.go) (by rw [rngL_len]; exact hl) ⟨[], p, rfl, rfl, fun _ h => (List.not_mem_nil h).elim, hp, rfl⟩ (fun i w acc M hw hI => ?_) fun acc M hI => ?_
  · obtain ⟨l, p, rfl, hli, hQ, hp, rfl⟩ := hI
    have hi : i < n := by
      have := (List.getElem?_eq_some_iff.mp hw).1
      rw [rngL_len] at this
      exact this
    rw [rngL_get hi, Int.zero_add] at hw
    cases hw
    refine (h i hi p hp).go.imp (fun e M' q => ?_) fun _ _ z => z
    obtain ⟨rfl, q⟩ := q
    show (Rs.ok true (p :: rest)).Is _ _
    rw [is_ok, if_pos rfl]
    refine q.imp (fun w M'' q2 => ?_) fun _ _ z => z
    obtain ⟨b, p', rfl, rfl, hb, hp'⟩ := q2
    refine ⟨l ++ [b], p', ?_, by rw [List.length_append, hli]; rfl, fun c hc => ?_, hp', rfl⟩
    · rw [List.map_append, List.map_append]; rfl
    · rcases List.mem_append.mp hc with hc | hc
      · exact hQ c hc
      · rw [List.mem_singleton.mp hc]; exact hb
  · obtain ⟨l, p, rfl, hli, hQ, hp, rfl⟩ := hI
    rw [rngL_len] at hli
    exact (k l p hli hQ hp).go
end
/-- a list of drawn weights, its object at the store's end -/
theorem lots_is {c : Nat} {p : MO} {P : PV} (c1 : 0 < c) (c2 : c ≤ 8) (hp : PoolIs p) (h : ∀ ws p', ws.length = c → WOk ws → PoolIs p' → P (.d (.lst ((lotsQ ws).map frP))) [p']) :
    (g_lots [.m 0, .d (.int (c : Int))] [p]).Is P nox := by
  have ci : (c : Int) < 2 ^ 63 := by omega
  have ci0 : (0 : Int) < (c : Int) := by omega
  have cs : c ≤ sizeLine := Nat.le_trans c2 (by decide)
  rw [g_lots, y_fnD, b_lots]
  simp! [DL.is_ok]
  refine lcRA (rest := []) c (fun w : Nat => D.int (w : Int)) (fun w => w ≤ 3) cs hp ?_ (fun i hi p hp => ?_) fun ws p1 hl hw hp1 => ?_
  · simp! [y_r1, kR1_ap, rng0_is cs]
  · simp! [y_tgN]
    refine draw1 (s := 4) (by decide) (by decide) hp fun v p' v0 v1 hp' => ?_
    exact ⟨v.toNat, p', by rw [Int.toNat_of_nonneg v0], rfl, by omega, hp'⟩
  have hM : ∀ us : List Nat, ((us.map fun w : Nat => D.int (w : Int)).map Wv.d) = natW us := fun us => (natW_d us).symm
  simp! [hM]
  refine draw1 (s := 3) (by decide) (by decide) hp1 fun v p2 v0 v1 hp2 => ?_
  -- from the third statement on
  have third : ∀ (us : List Nat) (j : Nat) (rest : List MO) (p : MO) (x3 x4 : Option Wv), PoolIs p → us.length = c → (∀ w ∈ us, w ≤ 3) → rest[j]? = some (.lst (natW us)) →
      ((sSeq (sIf (tb (e2 (pu2 dEq) (eL (f1 (fLst dSum)) (aCons (eVar 2) aNil)) (eC (.int 0)))) (sAsg (tgS (eVar 2) (eCall (callR 1 2 g_draw) [] (aCons (eVar 0) (aCons (eVar 1) aNil)))) (eC (.int 1))) sNext)
    (sSeq (sIf (tb (e2 (pu2 dEq) (eCall (callR 1 2 g_draw) [] (aCons (eVar 0) (aCons (eC (.int 6)) aNil))) (eC (.int 0)))) (sAsg (tgS (eVar 2) (eCall (callR 1 2 g_draw) [] (aCons (eVar 0) (aCons (eVar 1) aNil)))) (e2 ixw (eTup (aCons (eC (.int 100)) (aCons (eC (.int 10007)) (aCons (e2 (pu2 dPow) (eC (.int 10)) (eC (.int 7))) (aCons (e2 (pu2 dPow) (eC (.int 10)) (eC (.int 9))) aNil))))) (eCall (callR 1 2 g_draw) [] (aCons (eVar 0) (aCons (eC (.int 4)) aNil))))) sNext)
    (sRet (eLc finF (iSeq (eVar 2)) (tgN 4) tYesD (eCall (callR 0 2 g_less) [] (aCons (eVar 4) (aCons (eL (f1 (fLst dSum)) (aCons (eVar 2) aNil)) aNil))) [4])))) [some (.m 0), some (.d (.int (c : Int))), some (.m (j + 1)), x3, x4] (p :: rest)).Is (kFn 1 P nox) nox := by
    intro us j rest p x3 x4 hp hl h3 hr
    have hM1 : (p :: rest)[j + 1]? = some (.lst (natW us)) := by rw [List.getElem?_cons_succ]; exact hr
    have hs := fun {P : PV} {E : PX} => sum_at (p := p) (p2 := p) (P := P) (E := E) hM1
    rw [y_seq]
    generalize hk : kSeq _ _ _ = R
    by_cases h0 : us.sum = 0
    · simp! [hs, h0, Int.natCast_zero, y_asgG, kAsg_g]
      refine tgS_at rfl ?_
      simp! [DL.is_ok]
      refine draw1 (s := (c : Int)) ci0 ci hp fun i p' i0 i1 hp' => ?_
      refine ⟨i.toNat, natW us, by rw [Int.toNat_of_nonneg i0], by rw [List.getElem?_cons_succ]; exact hr, by rw [natW_len]; omega, ?_⟩
      have e1 : (natW us).set i.toNat (.d (.int 1)) = natW (us.set i.toNat 1) := natW_set us i.toNat 1
      rw [List.set_cons_succ, e1, ← hk]
      exact lots4 (by rw [List.length_set]; exact hl) c2 c1 (set_le h3 (by decide)) (sum_set (by omega) (by decide)) hp' (get_set hr) h
    · have h0' : ¬ (us.sum : Int) = 0 := by omega
      simp! [hs, h0']
      rw [← hk]
      exact lots4 hl c2 c1 h3 (by omega) hp hr h
  generalize hk : kSeq _ _ _ = R
  by_cases hv : v = 0
  · subst hv
    have hrep : ∀ (P : PV) (E : PX) (M : Sto), (repw false (.d (.lst [.int 0])) (.d (.int (c : Int))) M).Is P E = P (.m M.length) (M ++ [.lst (natW (List.replicate c 0))]) := fun P E M => by
      rw [y_repM (by rw [List.length_singleton]; omega) (by omega), natW_d]
      congr 4
      have : ∀ n : Nat, (List.replicate n [D.int 0]).flatten = (List.replicate n 0).map fun (w : Nat) => D.int (w : Int) := fun n => by
        induction n with
        | zero => rfl
        | succ n ih => rw [List.replicate_succ, List.replicate_succ, List.flatten_cons, List.map_cons, ih]; rfl
      rw [this c]
    simp! [hrep]
    rw [← hk]
    refine third (List.replicate c 0) 1 _ p2 _ _ hp2 (List.length_replicate ..) (fun w hw => by rw [List.eq_of_mem_replicate hw]; decide) ?_
    rfl
  · simp! [hv]
    rw [← hk]
    refine third ws 0 _ p2 _ _ hp2 hl hw ?_
    rfl
end DL

/-! Layer D: comprehensions met within a goal; slices; sources. -/
namespace DL
open PySem
section
variable {α β : Type} {M M1 : Sto} {P : PV} {E : PX} {env : Ev} {src : ID} {tg : GD} {tt : TD} {te : ED} {vs : List Nat} {l : List D} {w : Wv}
def kSq (P : Src → Sto → Prop) (E : PX) : PV := fun w M => (srcw w M).Is P E
theorem y_iseq {me : ED} {P : Src → Sto → Prop} : (iSeq me env M).Is P E = (me env M).Is (kSq P E) E := is_bind
theorem kSq_lst {P : Src → Sto → Prop} : kSq P E (.d (.lst l)) M = P (.its (l.map .d)) M := rfl
theorem kSq_tup {P : Src → Sto → Prop} : kSq P E (.d (.tup l)) M = P (.its (l.map .d)) M := rfl
theorem kSq_m {P : Src → Sto → Prop} {k : Nat} {ws : List Wv} (h : M[k]? = some (.lst ws)) : kSq P E (.m k) M = P (.live k) M := by
  show (srcw (.m k) M).Is P E = _
  unfold srcw
  simp only [nw, h]
  rfl
/-- a comprehension, its source worked out -/
def kLc (fin : List Wv → Sto → Rs Wv) (tg : GD) (tt : TD) (te : ED) (vs : List Nat) (env : Ev) (P : PV) (E : PX) : Src → Sto → Prop := fun s M => (eLc fin (fun _ M => .ok s M) tg tt te vs env M).Is P E
theorem y_lc {fin : List Wv → Sto → Rs Wv} : (eLc fin src tg tt te vs env M).Is P E = (src env M).Is (kLc fin tg tt te vs env P E) E := by
  unfold eLc
  rw [is_bind]
  rfl
/-- … over data -/
theorem kcD (as : List α) (f v : α → D) (hl : as.length ≤ sizeLine)
    (h : ∀ a ∈ as, Go ((tg (.d (f a)) (wipeE env vs) M).Is (fun e M' => M' = M ∧ (te e M).Is (fun w M'' => w = .d (v a) ∧ M'' = M) nox) nox)) (k : Go (P (.d (.lst (as.map v))) M)) :
    kLc finF tg tYesD te vs env P E (.its ((as.map f).map .d)) M := by
  refine is_of (eLc_map (M1 := M) (fun a => .d (f a)) v as (by rw [List.map_map]; rfl) (fun a ha => ?_) hl) k.go
  obtain ⟨e, M', h1, rfl, h2⟩ := (h a ha).go.out
  exact ⟨e, h1, is_eq h2⟩
/-- … over a range -/
theorem kcR (n : Nat) (v : Nat → D) (hl : n ≤ sizeLine)
    (h : ∀ i < n, Go ((tg (.d (.int (i : Int))) (wipeE env vs) M).Is (fun e M' => M' = M ∧ (te e M).Is (fun w M'' => w = .d (v i) ∧ M'' = M) nox) nox)) (k : Go (P (.d (.lst ((List.range n).map v))) M)) :
    kLc finF tg tYesD te vs env P E (.its (rngL 0 n)) M := by
  rw [rngL_d]
  exact kcD (List.range n) (fun i => .int (i : Int)) v (by rw [List.length_range]; exact hl) (fun i hi => h i (List.mem_range.mp hi)) k
/-- … over a list of the store -/
theorem kcM (as : List α) (f v : α → D) (j : Nat) (hl : as.length ≤ sizeLine) (hj : M[j]? = some (.lst ((as.map f).map .d)))
    (h : ∀ a ∈ as, Go ((tg (.d (f a)) (wipeE env vs) M).Is (fun e M' => M' = M ∧ (te e M).Is (fun w M'' => w = .d (v a) ∧ M'' = M) nox) nox)) (k : Go (P (.d (.lst (as.map v))) M)) :
    kLc finF tg tYesD te vs env P E (.live j) M := by
  refine is_of (eLc_mapS (M1 := M) (s := .live j) (fun a => .d (f a)) v as rfl (by
    show (match M[j]? with
      | some (.lst us) => some us
      | _ => none) = _
    rw [hj, List.map_map]
    rfl) (fun a ha => ?_) hl) k.go
  obtain ⟨e, M', h1, rfl, h2⟩ := (h a ha).go.out
  exact ⟨e, h1, is_eq h2⟩
/-- … over a range, that draws -/
theorem kcRP {fin : List Wv → Sto → Rs Wv} (n : Nat) (enc : β → D) (Q : β → Prop) {p : MO} {rest : Sto} (hl : n ≤ sizeLine) (hp : PoolIs p)
    (h : ∀ i < n, ∀ p, PoolIs p → Go ((tg (.d (.int (i : Int))) (wipeE env vs) (p :: rest)).Is (fun e M' => M' = p :: rest ∧ (te e (p :: rest)).Is (fun w M'' => ∃ b p', w = .d (enc b) ∧ M'' = p' :: rest ∧ Q b ∧ PoolIs p') nox) nox))
    (k : ∀ (l : List β) (p : MO), l.length = n → (∀ b ∈ l, Q b) → PoolIs p → Go ((fin ((l.map enc).map .d) (p :: rest)).Is P E)) :
    kLc fin tg tYesD te vs env P E (.its (rngL 0 n)) (p :: rest) :=
  lcRA n enc Q hl hp ⟨⟨rfl, rfl⟩⟩ h k
theorem y_wipeN : wipeE env [] = env := rfl
theorem y_wipeC {i : Nat} {r : List Nat} : wipeE env (i :: r) = (wipeE env r).set i none := rfl
/-! slices -/
def kSl3 (lo : Option Int) (w : Wv) (P : PV) (E : PX) : Option Int → Sto → Prop := fun hi M => (slw true w lo hi M).Is P E
def kSl2 (h : OD) (w : Wv) (env : Ev) (P : PV) (E : PX) : Option Int → Sto → Prop := fun lo M => (h env M).Is (kSl3 lo w P E) E
def kSl1 (l h : OD) (env : Ev) (P : PV) (E : PX) : PV := fun w M => (l env M).Is (kSl2 h w env P E) E
def kOs (P : Option Int → Sto → Prop) : PV := fun w M => match w with
  | .d (.int i) => P (some i) M
  | _ => False
theorem y_sl {a : ED} {lo hi : OD} : (eSl true a lo hi env M).Is P E = (a env M).Is (kSl1 lo hi env P E) E := by
  unfold eSl
  rw [is_bind]
  congr
  funext w M1
  rw [is_bind]
  unfold kSl1
  congr
  funext x M2
  rw [is_bind]
  rfl
theorem kSl1_ap {lo hi : OD} : kSl1 lo hi env P E w M = (lo env M).Is (kSl2 hi w env P E) E := rfl
theorem kSl2_ap {hi : OD} {x : Option Int} : kSl2 hi w env P E x M = (hi env M).Is (kSl3 x w P E) E := rfl
theorem kSl3_ap {x y : Option Int} : kSl3 x w P E y M = (slw true w x y M).Is P E := rfl
theorem y_oNone {P : Option Int → Sto → Prop} : (oNone env M).Is P E = P none M := rfl
theorem y_oSome {a : ED} {P : Option Int → Sto → Prop} : (oSome a env M).Is P E = (a env M).Is (kOs P) E := by
  unfold oSome
  rw [is_bind]
  congr
  funext w M1
  cases w with
  | m _ => rfl
  | d x => cases x <;> rfl
theorem kOs_int {i : Int} {P : Option Int → Sto → Prop} : kOs P (.d (.int i)) M = P (some i) M := rfl
theorem cutL_map {γ : Type} (f : α → γ) (xs : List α) (lo hi : Option Int) : cutL (xs.map f) lo hi = (cutL xs lo hi).map f := by
  unfold cutL
  rw [List.length_map, List.map_take, List.map_drop]
theorem y_slL {lo hi : Option Int} : (slw true (.d (.lst l)) lo hi M).Is P E = P (.d (.lst (cutL l lo hi))) M := by
  unfold slw
  simp only [seqw_lst, cutL_map, nds_d, if_true]
  rfl
theorem y_slT {lo hi : Option Int} : (slw true (.d (.tup l)) lo hi M).Is P E = P (.d (.tup (cutL l lo hi))) M := by
  unfold slw
  simp only [seqw_tup, cutL_map, nds_d, if_true]
  rfl
theorem cut_to {xs : List α} {i : Nat} (h : i ≤ xs.length) : cutL xs none (some (i : Int)) = xs.take i := by
  have e1 : HT.sIx xs.length 0 none = 0 := rfl
  have e2 : HT.sIx xs.length xs.length (some (i : Int)) = i := by
    unfold HT.sIx
    simp only
    split <;> omega
  unfold cutL
  rw [e1, e2, List.drop_zero, Nat.sub_zero]
theorem cut_from {xs : List α} {i : Nat} (h : i ≤ xs.length) : cutL xs (some (i : Int)) none = xs.drop i := by
  have e1 : HT.sIx xs.length 0 (some (i : Int)) = i := by
    unfold HT.sIx
    simp only
    split <;> omega
  have e2 : HT.sIx xs.length xs.length none = xs.length := rfl
  unfold cutL
  rw [e1, e2]
  exact List.take_of_length_le (by rw [List.length_drop]; exact Nat.le_refl _)
/-! all, any, in -/
theorem all_map (as : List α) (f : α → Bool) : dAll (as.map fun a => D.bl (f a)) = some (.bl (as.all f)) := by
  have e : (as.map fun a => D.bl (f a)) = (as.map f).map .bl := by rw [List.map_map]; rfl
  rw [e, dAll, blsOf_map]
  show some (D.bl ((as.map f).all _root_.id)) = _
  rw [List.all_map]
  rfl
theorem any_map (as : List α) (f : α → Bool) : dAny (as.map fun a => D.bl (f a)) = some (.bl (as.any f)) := by
  have e : (as.map fun a => D.bl (f a)) = (as.map f).map .bl := by rw [List.map_map]; rfl
  rw [e, dAny, blsOf_map]
  show some (D.bl ((as.map f).any _root_.id)) = _
  rw [List.any_map]
  rfl
/-- b in a list of truth values -/
theorem in_bls {neg b : Bool} {as : List α} {f : α → Bool} : (inw neg (.d (.bl b)) (.d (.lst (as.map fun a => .bl (f a)))) M).Is P E = P (.d (.bl (neg != as.any fun a => f a == b))) M := by
  have h : inB (.d (.bl b)) (.d (.lst (as.map fun a => .bl (f a)))) M = some (as.any fun a => f a == b) := by
    unfold inB
    simp only [nd_d, seqw_lst, nds_d, Option.bind_some]
    unfold inD
    have hf : (as.map fun a => D.bl (f a)).all flatD = true := by
      rw [List.all_map]
      exact List.all_eq_true.mpr fun _ _ => rfl
    rw [if_pos (by rw [hf]; rfl)]
    congr 1
    rw [List.any_map]
    rfl
  unfold inw
  rw [h]
  rfl
theorem not_in_false {as : List α} {f : α → Bool} : (inw true (.d (.bl false)) (.d (.lst (as.map fun a => .bl (f a)))) M).Is P E = P (.d (.bl (as.all f))) M := by
  rw [in_bls]
  congr 3
  induction as with
  | nil => rfl
  | cons a as ih =>
    rw [List.any_cons, List.all_cons, ← ih]
    cases f a <;> simp
theorem in_false {as : List α} {f : α → Bool} : (inw false (.d (.bl false)) (.d (.lst (as.map fun a => .bl (f a)))) M).Is P E = P (.d (.bl (!as.all f))) M := by
  rw [in_bls]
  congr 3
  induction as with
  | nil => rfl
  | cons a as ih =>
    rw [List.any_cons, List.all_cons]
    cases f a <;> simp_all
end
/-! objects of the store that hold data alone -/
def Dat (mo : MO) : Prop := ∃ l : List D, mo = .lst (l.map .d)
theorem Dat.below {mo : MO} (h : Dat mo) (n : Nat) : mo.below n = true := by
  obtain ⟨l, rfl⟩ := h
  show (l.map Wv.d).all (Wv.below n) = true
  rw [List.all_map]
  exact List.all_eq_true.mpr fun _ _ => rfl
theorem PoolIs.dat {p : MO} (h : PoolIs p) : Dat p := by
  obtain ⟨l, i, a, b, c, d, _, rfl⟩ := h
  exact ⟨[.lst (l.map .int), .int i, .int a, .int b, .int c, .int d], rfl⟩
theorem dats_below {M : Sto} (h : ∀ mo ∈ M, Dat mo) (n k : Nat) : (M.take k).all (MO.below n) = true :=
  List.all_eq_true.mpr fun mo hm => (h mo (List.mem_of_mem_take hm)).below n
theorem dats_set {M : Sto} (h : ∀ mo ∈ M, Dat mo) {mo : MO} (hm : Dat mo) (j : Nat) : ∀ x ∈ M.set j mo, Dat x := fun x hx => by
  rcases List.mem_or_eq_of_mem_set hx with h1 | h1
  · exact h x h1
  · rw [h1]; exact hm
theorem dats_add {M : Sto} (h : ∀ mo ∈ M, Dat mo) {mo : MO} (hm : Dat mo) : ∀ x ∈ M ++ [mo], Dat x := fun x hx => by
  rcases List.mem_append.mp hx with h1 | h1
  · exact h x h1
  · rw [List.mem_singleton.mp h1]; exact hm
/-- a body that answers data, all objects of the store data -/
theorem y_outCd {n : Nat} {M : Sto} {x : D} {P : PV} {E : PX} (h : ∀ mo ∈ M, Dat mo) (hn : M.length = n) : (outC n (.d x) M).Is P E = P (.d x) M := by
  rw [y_outC, List.take_of_length_le (by omega)]
  have := dats_below h n M.length
  rw [List.take_length] at this
  simp only [this, true_and]
end DL

/-! Layer D: more of the code: sealing, sets of ints, index, zip. -/
namespace DL
open PySem PySem.Spec PyProof.Rows L2
/-! ### set(xs), xs a list of ints -/
abbrev newSet (w : World) : Obj := { cls := .type "set", dict := none, data := .set #[] 0 (.fresh 0 0 (!w.params.followText "set-order")) }
section
variable {P : Program} {w : World} {A : Around} {E : Value → Shared → Prop} {s : Shared}
/-- what is to hold when set.__init__ is through -/
abbrev SetDone (w : World) (s : Shared) (ns : List Int) : Value → Shared → Prop := fun r s2 => r = .none ∧ ∃ h2 tk2 c, s2 = { s with heap := h2, toks := tk2 } ∧ SetR w h2 s.heap.objs.size (fun j => decide (j ∈ ns)) c ∧ c ≤ ns.length ∧ ∀ b o, s.heap.get? b = some o → h2.get? b = some o
set_option maxRecDepth 100000 in
set_option maxHeartbeats 3200000 in
theorem set_init_list {l : Addr} {items : Array Value} (ns : List Int) (hA : A.handled = none) (hl : s.heap.IsList l items) (hit : IntsAre items.toList ns) (hb : ns.length + 1 < scanBound) :
    codeAny (model P w) A (.call (.builtin "set.__init__") ⟨[.ref s.heap.objs.size, .ref l], []⟩) (wants (SetDone w s ns) E) { s with heap := s.heap.push (newSet w) } := by
  have at0 : (s.heap.push (newSet w)).get? s.heap.objs.size = some (newSet w) := Heap.get?_push_size _ rfl
  have ty0 : Shared.TypeIs { s with heap := s.heap.push (newSet w) } (.ref s.heap.objs.size) "set" := ⟨_, at0, rfl⟩
  have size1 : (s.heap.push (newSet w)).objs.size = s.heap.objs.size + 1 := Heap.size_push ..
  have ilen : items.size = ns.length := (Array.length_toList (xs := items)).symm.trans (IntsAre.length hit)
  refine codeAny_call_builtin (R := wants (SetDone w s ns) E) F.called_set.init.plain F.entry_set_init (check_set_init_1 ty0 ?_)
  have lists : (s.heap.push (newSet w)).IsList l items := hl.push _
  obtain ⟨ol, gl, cl, nl, dl⟩ := lists
  obtain ⟨ocls, odict, odata, oslots⟩ := ol
  simp only at cl dl
  subst cl dl
  have sub1 := F.sub_list_set
  have sub2 := F.sub_list_frozenset
  have noDict : (Value.type "list" == Value.type "dict") = false := by decide
  have lists : (s.heap.push (newSet w)).IsList l items := ⟨_, gl, rfl, nl, rfl⟩
  unfold Builtin.«set.__init__» noKeywords Builtin.Frozenset.updateFrom
  generalize hP : pyIter = PI
  wp_walk
  subst hP
  refine wpAny_pyIter_list lists (wpAny_bind (wpAny_runValue ?_))
  have lA : l < s.heap.objs.size := by
    obtain ⟨o, e, _⟩ := hl
    exact Heap.lt_size e
  have hin : A.in1.in1.handled = none := by simp [hA]
  have apart1 : l ≠ (s.heap.push (newSet w)).objs.size := by
    rw [size1]
    exact Nat.ne_of_lt (Nat.lt_succ_of_lt lA)
  have apart2 : s.heap.objs.size ∉ [(s.heap.push (newSet w)).objs.size, l] := by
    rw [size1]
    intro hm
    rcases List.mem_cons.mp hm with h | h
    · exact Nat.ne_of_lt (Nat.lt_succ_self _) h
    · exact Nat.ne_of_gt lA (List.mem_singleton.mp h)
  have vals : ∀ (i : Nat) (v : Value), items[i]? = some v → ∃ k t, ns[i]? = some k ∧ v = .int k t := fun i v hv => by
    have hi : i < ns.length := by
      have := (Array.getElem?_eq_some_iff.mp hv).1
      omega
    obtain ⟨t, e⟩ := IntsAre.int_at hit i v (by rw [Array.getElem?_toList]; exact hv)
    refine ⟨ns[i], t, List.getElem?_eq_getElem hi, ?_⟩
    rw [e, List.getD_eq_getElem?_getD, List.getElem?_eq_getElem hi]
    rfl
  refine set_update_ints ((Walks.list hin _ l apart1 items).toS) s.heap.objs.size apart2 ns ilen hb vals (items.size - 0) 0 _ (by omega) (Nat.zero_le _) ?_ ⟨0, Nat.le_refl 0, ?_⟩ ?_
  · exact ⟨⟨_, Heap.get?_push_size _ rfl, rfl, rfl⟩, lists.push _⟩
  · exact setR_new_at (Heap.get?_push_of_some _ at0)
  intro s2 c mv hc R2
  obtain ⟨h2, g2, d2, tk2, os2⟩ := s2
  have e1 : g2 = s.gens := mv.gens
  have e2 : d2 = s.drawn := mv.drawn
  have e3 : os2 = s.os := mv.os
  subst e1 e2 e3
  show wpAny _ _ _ _ _ _
  refine wpAny_pure ?_
  show wpAny _ _ (ret Value.none) _ _ _
  refine wpAny_pure ⟨rfl, h2, tk2, c, rfl, R2, by rw [← ilen]; exact hc, fun b o e => ?_⟩
  have lb := Heap.lt_size e
  refine mv.heap b o (fun hm => ?_) (Heap.get?_push_of_some _ (Heap.get?_push_of_some _ e))
  rw [size1] at hm
  rcases List.mem_cons.mp hm with h | h
  · exact Nat.ne_of_lt lb h
  · exact Nat.ne_of_lt (Nat.lt_succ_of_lt lb) (List.mem_singleton.mp h)
set_option maxRecDepth 100000 in
set_option maxHeartbeats 3200000 in
theorem set_of_list {l : Addr} {items : Array Value} (ns : List Int) {Q : Value → Shared → Prop} (hA : A.handled = none) (hl : s.heap.IsList l items) (hit : IntsAre items.toList ns) (hb : ns.length + 1 < scanBound)
    (h : ∀ (h2 : Heap) (tk2 c : Nat), SetR w h2 s.heap.objs.size (fun j => decide (j ∈ ns)) c → c ≤ ns.length → (∀ b o, s.heap.get? b = some o → h2.get? b = some o) → Q (.ref s.heap.objs.size) { s with heap := h2, toks := tk2 }) :
    wpAny (model P w) A (call (.type "set") [.ref l]) Q E s := by
  obtain ⟨cm, tm, mro1⟩ := F.called_set.mro
  have m1 := F.called_set.made
  have m2 := F.called_set.sub
  have m3 := F.called_set.notType
  have m4 := F.called_set.canCreate
  have m5 := F.typeCall_set_1 (.ref l)
  refine wpAny_call (codeAny_of_tree ?_)
  show wpAny _ _ (callAny (.type "set") _) _ _ _
  refine wpAny_pure ⟨Code.quiet_builtin _ (by decide +kernel), codeAny_builtin F.entry_type_call ?_⟩
  rw [Around.under_plain (weight_type_call_type "set" [.ref l] []) rfl]
  repeat (any_goals (first | assumption | wp_step))
  refine codeAny_mono (code_set_led1 (.ref l) (E := E) (Q₁ := fun v s1 => v = .ref s.heap.objs.size ∧ s1 = { s with heap := s.heap.push (newSet w) }) ⟨rfl, rfl⟩) fun r s1 hr => ?_
  match r, hr with
  | .error e, hr => exact hr
  | .ok (.ret v), hr =>
    obtain ⟨rfl, rfl⟩ := hr
    have i1 := F.called_set.init.lookup
    have i2 := F.called_set.init.bind (.ref s.heap.objs.size)
    have ty0 : Shared.TypeIs { s with heap := s.heap.push (newSet w) } (.ref s.heap.objs.size) "set" := ⟨_, Heap.get?_push_size _ rfl, rfl⟩
    repeat (any_goals (first | assumption | wp_step))
    refine codeAny_mono (set_init_list (P := P) (w := w) (E := E) ns ?_ hl hit hb) fun r2 s2 hr2 => ?_
    · simp [hA]
    · match r2, hr2 with
      | .error e, hr2 => exact hr2
      | .ok (.ret v2), hr2 =>
        obtain ⟨rfl, h2, tk2, c, rfl, R2, hc, keep⟩ := hr2
        repeat (any_goals (first | assumption | wp_step))
        exact h _ _ _ R2 hc keep
      | .ok .next, hr2 => exact hr2.elim
      | .ok .brk, hr2 => exact hr2.elim
      | .ok .cont, hr2 => exact hr2.elim
  | .ok .next, hr => exact hr.elim
  | .ok .brk, hr => exact hr.elim
  | .ok .cont, hr => exact hr.elim
end
/-! ### sorted(set), len(set) -/
theorem rising_of {l : List Int} (h : l.Pairwise (· ≤ ·)) (d : l.Nodup) : l.Pairwise (· < ·) := by
  induction l with
  | nil => exact .nil
  | cons x l ih =>
    obtain ⟨h1, h2⟩ := List.pairwise_cons.mp h
    obtain ⟨d1, d2⟩ := List.nodup_cons.mp d
    refine List.pairwise_cons.mpr ⟨fun y hy => ?_, ih h2 d2⟩
    have a := h1 y hy
    have b : x ≠ y := fun z => d1 (z ▸ hy)
    omega
section
variable {P : Program} {w : World} {A : Around} {E : Value → Shared → Prop} {s : Shared} {a : Addr}
theorem sorted_any_set {S : Int → Bool} {n : Nat} {Q : Value → Shared → Prop} (R : SetR w s.heap a S n) (hA : A.handled = none) (hn : n ≤ sizeLine)
    (hQ : ∀ s2 p (out : Array Value) (c : Nat) (ns : List Int), (∀ b o, s.heap.get? b = some o → s2.heap.get? b = some o) → s2.gens = s.gens → s2.os = s.os → s.heap.objs.size ≤ p →
      s2.heap.get? p = some (seqObj "list" out c) → IntsAre out.toList ns → ns.Pairwise (· < ·) → (∀ k, k ∈ ns ↔ S k = true) → ns.length = n → Q (.ref p) s2) :
    wpAny (model P w) A (call (.builtin "sorted") [.ref a]) Q E s := by
  obtain ⟨o, es, ep, t, e1, e2, e3, good, nodup, mem, few, fit, size, ris, led⟩ := R
  refine Calls.call_function_entry kind_sorted plain_sorted entry_sorted (args_sorted1 _) ?_
  unfold Builtin.«sorted»
  refine wpAny_bind (m := checkCount "sorted" 1 1 _) (wpAny_pure (wpAny_bind (collect_set (A := A.in1) hA ⟨o, e1, e2.1, e3⟩ fit few ris led fun s1 vs keep big g1 o1 perm => ?_)))
  have len1 : vs.length = n := by rw [perm.length_eq, List.length_map, Array.length_toList, size]
  have areI : IntsAre vs (vs.map Builtin.Re.reRawOf) := ints_of vs fun v hv => by
    obtain ⟨e, he, q⟩ := List.mem_map.mp (perm.mem_iff.mp hv)
    obtain ⟨k, tk, h1, _⟩ := good e he
    exact ⟨k, tk, q ▸ h1⟩
  have pkey : (vs.map Builtin.Re.reRawOf).Perm (es.toList.map keyOf) := by
    have q := perm.map Builtin.Re.reRawOf
    rwa [List.map_map] at q
  refine wpAny_bind (wpAny_newList ?_ (by rw [len1]; exact hn))
  have at1 : (s1.heap.push (seqObj "list" vs.toArray 0)).get? s1.heap.objs.size = some (seqObj "list" vs.toArray 0) := Heap.get?_push_size _ rfl
  refine wpAny_bind (wpAny_holding (wpAny_call_entry slot_list_sort ⟨_, at1, rfl⟩ entry_list_sort (SrtO.list_sort_ord SrtO.swo_int at1 (by rw [len1]; exact hn) (fun h2 => SrtO.ints_sortable areI h2) fun out k1 k2 => ⟨_, rfl, ?_⟩) (args_list_sort _)))
  obtain ⟨i1, i2, i3⟩ := SrtO.ints_out areI k1 k2
  obtain ⟨c, hc⟩ := sortedHeap_at (vs := vs) (out := out.toArray) at1
  have pall : (out.map SrtO.iv).Perm (es.toList.map keyOf) := i2.trans pkey
  refine wpAny_pure ⟨_, rfl, hQ _ s1.heap.objs.size out.toArray c (out.map SrtO.iv) (fun b u e => ?_) g1 o1 big hc i1 (rising_of i3 (pall.nodup_iff.mpr nodup)) (fun k => (pall.mem_iff).trans (mem k).symm) ?_⟩
  · have old := keep b u e
    have lt1 := Heap.lt_size old
    show (sortedHeap (s1.heap.push (seqObj "list" vs.toArray 0)) s1.heap.objs.size vs out.toArray).get? b = some u
    rw [sortedHeap_old (Nat.ne_of_lt lt1) (by rw [size_push']; exact Nat.lt_succ_of_lt lt1)]
    exact Heap.get?_push_of_some _ old
  · rw [pall.length_eq, List.length_map, Array.length_toList, size]
end
/-- insertion into a strictly rising list -/
def insU (x : Int) : List Int → List Int
  | [] => [x]
  | y :: l => if x < y then x :: y :: l else if x = y then y :: l else y :: insU x l
def setI (l : List Int) : List Int := l.foldr insU []
theorem mem_insU {x k : Int} : ∀ {l : List Int}, k ∈ insU x l ↔ k = x ∨ k ∈ l
  | [] => by simp [insU]
  | y :: l => by
    unfold insU
    split
    · simp
    · split
      · rename_i _ h
        subst h
        simp
      · rw [List.mem_cons, mem_insU, List.mem_cons]
        constructor
        · rintro (h | h | h)
          · exact .inr (.inl h)
          · exact .inl h
          · exact .inr (.inr h)
        · rintro (h | h | h)
          · exact .inr (.inl h)
          · exact .inl h
          · exact .inr (.inr h)
theorem mem_setI {k : Int} : ∀ {l : List Int}, k ∈ setI l ↔ k ∈ l
  | [] => by simp [setI]
  | x :: l => by
    show k ∈ insU x (setI l) ↔ _
    rw [mem_insU, mem_setI, List.mem_cons]
theorem rising_insU {x : Int} : ∀ {l : List Int}, l.Pairwise (· < ·) → (insU x l).Pairwise (· < ·)
  | [], _ => List.pairwise_singleton ..
  | y :: l, h => by
    obtain ⟨h1, h2⟩ := List.pairwise_cons.mp h
    unfold insU
    split
    · rename_i c
      refine List.pairwise_cons.mpr ⟨fun z hz => ?_, h⟩
      rcases List.mem_cons.mp hz with rfl | hz
      · exact c
      · exact Int.lt_trans c (h1 z hz)
    · split
      · exact h
      · rename_i c1 c2
        refine List.pairwise_cons.mpr ⟨fun z hz => ?_, rising_insU h2⟩
        rcases mem_insU.mp hz with rfl | hz
        · omega
        · exact h1 z hz
theorem rising_setI : ∀ l : List Int, (setI l).Pairwise (· < ·)
  | [] => .nil
  | x :: l => rising_insU (rising_setI l)
theorem rising_ext : ∀ {l m : List Int}, l.Pairwise (· < ·) → m.Pairwise (· < ·) → (∀ k, k ∈ l ↔ k ∈ m) → l = m
  | [], [], _, _, _ => rfl
  | [], y :: m, _, _, h => absurd ((h y).mpr (List.mem_cons_self ..)) (List.not_mem_nil)
  | x :: l, [], _, _, h => absurd ((h x).mp (List.mem_cons_self ..)) (List.not_mem_nil)
  | x :: l, y :: m, hl, hm, h => by
    obtain ⟨a1, a2⟩ := List.pairwise_cons.mp hl
    obtain ⟨b1, b2⟩ := List.pairwise_cons.mp hm
    have e : x = y := by
      rcases List.mem_cons.mp ((h x).mp (List.mem_cons_self ..)) with q | q
      · exact q
      · rcases List.mem_cons.mp ((h y).mpr (List.mem_cons_self ..)) with q2 | q2
        · exact q2.symm
        · have := a1 y q2
          have := b1 x q
          omega
    subst e
    rw [rising_ext a2 b2 fun k => ?_]
    have hk := h k
    rw [List.mem_cons, List.mem_cons] at hk
    constructor
    · intro q
      rcases hk.mp (.inr q) with rfl | q2
      · exact absurd (a1 _ q) (Int.lt_irrefl _)
      · exact q2
    · intro q
      rcases hk.mpr (.inr q) with rfl | q2
      · exact absurd (b1 _ q) (Int.lt_irrefl _)
      · exact q2
section
variable {X : Cx}
/-- set(xs), ints, a list or a tuple -/
def rSetOfI (K : PySem.W.Frag) (w : World) : List V → Hp → VK → Prop := fun vs H Q => ∃ (a : Addr) (ns : List Int), vs = [V.ref a] ∧ (SqL K H a (ns.map V.int) ∨ SqT K H a (ns.map V.int)) ∧ ns.length ≤ 1000 ∧
  ∀ (p : Addr) (c : Nat), c ≤ ns.length → H p = none → Q (.ref p) (upd H p (SetO w p (fun k => decide (k ∈ ns)) c))
theorem cr_setOfI (hc : X.calm = true) : CallR X (.type "set") (rSetOfI X.K X.w) := by
  intro pins s σ H vs us Q I r h
  obtain ⟨a, ns, rfl, hs, hl, q⟩ := h
  have free : H s.heap.objs.size = none := I.hok.fresh (Nat.le_refl _)
  have few : ns.length + 1 < scanBound := by unfold scanBound; omega
  rw [Vals.ref1 r]
  have go : ∀ (h2 : Heap) (tk2 c : Nat), SetR X.w h2 s.heap.objs.size (fun j => decide (j ∈ ns)) c → c ≤ ns.length → (∀ b o, s.heap.get? b = some o → h2.get? b = some o) → EP X pins σ Q (.ref s.heap.objs.size) { s with heap := h2, toks := tk2 } := fun h2 tk2 c R hcl keep =>
    ⟨.ref s.heap.objs.size, upd H s.heap.objs.size (SetO X.w s.heap.objs.size (fun k => decide (k ∈ ns)) c), I.laid (t' := tk2) keep (Nat.le_refl _) (setO_new R), rfl, q _ c hcl free⟩
  rcases hs with hs | hs
  · obtain ⟨its, rv, pl, _⟩ := I.list hs
    exact set_of_list (P := X.prog) (w := X.w) ns (I.ok.hd hc) pl.isList (by simpa using rv.ints) few go
  · obtain ⟨its, rv, pl, _⟩ := I.tuple hs
    exact call_set_tupI (P := X.prog) (w := X.w) ns (I.ok.hd hc) (show s.heap.IsTuple a its.toArray from pl) (by simpa using rv.ints) few go
/-- sorted(set), len(set) of a set of ints -/
def rSortedSet2 (w : World) : List V → Hp → VK → Prop := fun vs H Q => ∃ (a : Addr) (S : Int → Bool) (n : Nat), vs = [V.ref a] ∧ H a = some (SetO w a S n) ∧ n ≤ 1000 ∧
  ∀ (ns : List Int) (p : Addr), ns.Pairwise (· < ·) → (∀ k : Int, k ∈ ns ↔ S k = true) → H p = none → Q (.ref p) (upd H p (.lst (ns.map V.int)))
theorem cr_sortedSet2 (hc : X.calm = true) : CallR X (.builtin "sorted") (rSortedSet2 X.w) := by
  intro pins s σ H vs us Q I r h
  obtain ⟨a, S, n, rfl, ha, hn, q⟩ := h
  have R := setO_get I ha
  rw [Vals.ref1 r]
  have nl : n ≤ sizeLine := Nat.le_trans hn (by decide)
  refine sorted_any_set R (I.ok.hd hc) nl fun s2 p out c ns keep g o hp hg hi up mem len => ?_
  have free : H p = none := I.hok.fresh hp
  have es : s2 = { s with heap := s2.heap, gens := s2.gens, drawn := s2.drawn, toks := s2.toks } := by
    cases s2
    cases s
    cases o
    rfl
  have J : Inv X pins σ (upd H p (.lst (ns.map V.int))) { s with heap := s2.heap, gens := s2.gens, drawn := s2.drawn, toks := s2.toks } :=
    I.call (ch := []) (Un.laid keep hp free) (I.hok.laid keep hp ⟨by rw [List.length_map, len]; exact nl, out.toList, c, vals_of_ints hi, hg⟩) (by rw [g]; exact I.bare) (fun _ z => nomatch z)
  rw [es]
  exact ⟨.ref p, _, J, rfl, q ns p up mem free⟩
def rLenSet2 (w : World) : List V → Hp → VK → Prop := fun vs H Q => ∃ (a : Addr) (S : Int → Bool) (n : Nat) (ns : List Int), vs = [V.ref a] ∧ H a = some (SetO w a S n) ∧ n ≤ 1000 ∧ ns.Pairwise (· < ·) ∧ (∀ k : Int, k ∈ ns ↔ S k = true) ∧ Q (.int (ns.length : Nat)) H
theorem cr_lenSet2 : CallR X (.builtin "len") (rLenSet2 X.w) := by
  intro pins s σ H vs us Q I r h
  obtain ⟨a, S, n, ns, rfl, ha, hn, up, mem, q⟩ := h
  obtain ⟨o, es, ep, t, e1, e2, e3, good, nodup, mem2, few, fit, size, ris, led⟩ := setO_get I ha
  rw [Vals.ref1 r]
  have len : es.size = ns.length := by
    have pm : ns.Perm (es.toList.map keyOf) := (List.perm_ext_iff_of_nodup (up.imp fun {x y} h => Int.ne_of_lt h) nodup).mpr fun k => (mem k).trans (mem2 k)
    rw [pm.length_eq, List.length_map, Array.length_toList]
  exact call_len_set e1 e2 e3 fit (by omega) ⟨.int ns.length, H, I.tok _, ⟨_, by rw [len]⟩, q⟩
end
/-! ### as steps of the layer -/
/-- a function of a list's or a tuple's data -/
def fSeq (f : List D → Option D) (w : Wv) (M : Sto) : Rs Wv := match seqw M w with
  | some (_, ws) => match nds M ws with
    | some l => rsd M (f l)
    | none => .no
  | _ => .no
def dSetI (l : List D) : Option D := (intsOf l).bind fun ns => if ns.length ≤ 1000 then some (.lst ((setI ns).map .int)) else none
def dLenSetI (l : List D) : Option D := (intsOf l).bind fun ns => if ns.length ≤ 1000 then some (.int ((setI ns).length : Int)) else none
section
variable {X : Cx} {cA : CA} {Wx : WX} {a b e o value : Expr} {es : List Expr} {ma mb mo : ED} {mr : AD} {p q p2 pos apos tpos : Pos} {elts : List Expr} {kk : Nat}
theorem ok_setI {K : PySem.W.Frag} {w : World} : Ok1 K cA (fSeq dSetI) fun x H Q => rSetOfI K w [x] H fun y H2 => rSortedSet2 w [y] H2 Q := by
  intro z g H M E wx x Q c rx q
  unfold fSeq at q
  cases e1 : seqw M wx with
  | none => simp [e1, Res] at q
  | some pp =>
    obtain ⟨bb, ws⟩ := pp
    simp only [e1] at q
    cases e2 : nds M ws with
    | none => simp [e2, Res] at q
    | some l =>
      simp only [e2, dSetI] at q
      cases e3 : intsOf l with
      | none => simp [e3, Res] at q
      | some ns =>
        simp only [e3, Option.bind_some] at q
        by_cases hl : ns.length ≤ 1000
        · rw [if_pos hl] at q
          obtain ⟨a, vs, rfl, h1, h2, h3⟩ := seqw_or c rx e1
          have ev := intsOf_rep (nds_rep c h3 e2) e3
          subst ev
          refine ⟨a, ns, rfl, h1, hl, fun p cnt hc hp => ⟨p, _, cnt, rfl, upd_same, Nat.le_trans hc hl, fun ms p2 up mem hp2 => ?_⟩⟩
          have em : ms = setI ns := rising_ext up (rising_setI ns) fun k => by rw [mem, decide_eq_true_eq, mem_setI]
          subst em
          obtain ⟨c2, l2⟩ := c.lay (ho := SetO w p (fun k => decide (k ∈ ns)) cnt) hp
          have hsz : ((setI ns).map V.int).length ≤ sizeLine := by
            rw [List.length_map]
            have : (setI ns).length ≤ ns.length := by
              have : ∀ l : List Int, (setI l).length ≤ l.length := fun l => by
                induction l with
                | nil => exact Nat.le_refl _
                | cons x l ih =>
                  show (insU x (setI l)).length ≤ _
                  have : ∀ m : List Int, (insU x m).length ≤ m.length + 1 := fun m => by
                    induction m with
                    | nil => exact Nat.le_refl _
                    | cons y m ih =>
                      unfold insU
                      split
                      · exact Nat.le_refl _
                      · split
                        · exact Nat.le_succ _
                        · exact Nat.succ_le_succ ih
                  exact Nat.le_trans (this _) (Nat.succ_le_succ ih)
              exact this ns
            exact Nat.le_trans (Nat.le_trans this hl) (by decide)
          have q' : Res K cA z { g with F := upd g.F p (SetO w p (fun k => decide (k ∈ ns)) cnt) } M.length E (rsd M (some (D.lst ((setI ns).map .int)))) (fun w M' g' H' => ∀ v, RW K cA g' M'.length w v → Q v H') := q.later l2
          exact c2.ans q' hp2 ⟨p2, _, rfl, upd_same, hsz, RepL.ints _⟩
        · rw [if_neg hl] at q
          exact q.elim
theorem ok_lenSetI {K : PySem.W.Frag} {w : World} : Ok1 K cA (fSeq dLenSetI) fun x H Q => rSetOfI K w [x] H fun y H2 => rLenSet2 w [y] H2 Q := by
  intro z g H M E wx x Q c rx q
  unfold fSeq at q
  cases e1 : seqw M wx with
  | none => simp [e1, Res] at q
  | some pp =>
    obtain ⟨bb, ws⟩ := pp
    simp only [e1] at q
    cases e2 : nds M ws with
    | none => simp [e2, Res] at q
    | some l =>
      simp only [e2, dLenSetI] at q
      cases e3 : intsOf l with
      | none => simp [e3, Res] at q
      | some ns =>
        simp only [e3, Option.bind_some] at q
        by_cases hl : ns.length ≤ 1000
        · rw [if_pos hl] at q
          obtain ⟨a, vs, rfl, h1, h2, h3⟩ := seqw_or c rx e1
          have ev := intsOf_rep (nds_rep c h3 e2) e3
          subst ev
          refine ⟨a, ns, rfl, h1, hl, fun p cnt hc hp => ⟨p, _, cnt, setI ns, rfl, upd_same, Nat.le_trans hc hl, rising_setI ns, fun k => by rw [mem_setI, decide_eq_true_eq], ?_⟩⟩
          obtain ⟨c2, l2⟩ := c.lay (ho := SetO w p (fun k => decide (k ∈ ns)) cnt) hp
          exact (show Res K cA z g M.length E (.ok (.d (.int ((setI ns).length : Int))) M : Rs Wv) _ from q) _ _ c2 l2 _ rfl
        · rw [if_neg hl] at q
          exact q.elim
theorem d_setI (hm : X.mg "sorted" = none) (hm2 : X.mg "set" = none) (ha : PE X a (TED X.K cA Wx ma)) (hc : X.calm = true := by rfl) (hg : Gl X "sorted" := by rfl) (hg2 : Gl X "set" := by rfl) (na : starEach [a] X.env = (false, eval a X.env) :: starEach [] X.env := by rfl) :
    PE X (.Call (.Name "sorted" p) [.Call (.Name "set" p2) [a] [] q] [] pos) (TED X.K cA Wx (e1 (fSeq dSetI) ma)) :=
  PE.imp (pe_callB (cr_sortedSet2 hc) hg hm (by decide +kernel) (pa_cons (pe_callTy (cr_setOfI hc) hg2 hm2 (by decide +kernel) (pa_cons ha pa_nil na) (by decide) (by decide) na rfl) pa_nil) (by decide) (by decide) rfl rfl) fun σ H Q h => ted1 ok_setI h
theorem d_lenSetI (hm : X.mg "len" = none) (hm2 : X.mg "set" = none) (ha : PE X a (TED X.K cA Wx ma)) (hc : X.calm = true := by rfl) (hg : Gl X "len" := by rfl) (hg2 : Gl X "set" := by rfl) (na : starEach [a] X.env = (false, eval a X.env) :: starEach [] X.env := by rfl) :
    PE X (.Call (.Name "len" p) [.Call (.Name "set" p2) [a] [] q] [] pos) (TED X.K cA Wx (e1 (fSeq dLenSetI) ma)) :=
  PE.imp (pe_callB cr_lenSet2 hg hm (by decide +kernel) (pa_cons (pe_callTy (cr_setOfI hc) hg2 hm2 (by decide +kernel) (pa_cons ha pa_nil na) (by decide) (by decide) na rfl) pa_nil) (by decide) (by decide) rfl rfl) fun σ H Q h => ted1 ok_lenSetI h
/-! ### a value sealed: from here on data -/
def eSeal (m : ED) : ED := fun env M => (m env M).bind fun w M1 => match sealW 6 w M1 with
  | some (x, M2) => .ok (.d x) M2
  | none => .no
theorem d_seal (h : PE X e (TED X.K cA Wx ma)) : PE X e (TED X.K cA Wx (eSeal ma)) := PE.imp h fun σ H Q ⟨z, env, M, g, c, sl, q⟩ => by
  refine ⟨z, env, M, g, c, sl, Res.imp (fun w M1 g1 H1 c1 l1 q1 v rv => ?_) q.of_bind⟩
  cases e1 : sealW 6 w M1 with
  | none => simp [e1, Res] at q1
  | some pp =>
    obtain ⟨x, M2⟩ := pp
    simp only [e1] at q1
    obtain ⟨g2, c2, l2, n2, rr⟩ := sealW_ok 6 z H1 M1 M2 g1 w v x c1 rv e1
    exact q1 H1 g2 c2 l2 v rr
/-! ### xs.index(y) -/
/-- the first place of an equal item -/
def placeF (y : D) : List D → Nat → Option Nat
  | [], _ => none
  | x :: l, n => if eqF x y = true then some n else placeF y l (n + 1)
def dIndexF (l : List D) (y : D) : Option D := if (flatD y && l.all flatD) = true then (placeF y l 0).map fun n => .int (n : Int) else none
def idxw (w u : Wv) (M : Sto) : Rs Wv := match seqw M w with
  | some (true, ws) => match nds M ws, nd M u with
    | some l, some y => rsd M (dIndexF l y)
    | _, _ => .no
  | _ => .no
theorem placeF_spec {y : D} : ∀ {l : List D} {n j : Nat}, placeF y l n = some j → ∃ i x, j = n + i ∧ l[i]? = some x ∧ eqF x y = true ∧ ∀ m x', m < i → l[m]? = some x' → eqF x' y = false
  | [], _, _, h => by cases h
  | x :: l, n, j, h => by
    unfold placeF at h
    by_cases e : eqF x y = true
    · rw [if_pos e] at h
      cases h
      exact ⟨0, x, rfl, rfl, e, fun m x' hm => absurd hm (Nat.not_lt_zero _)⟩
    · rw [if_neg e] at h
      obtain ⟨i, z, e1, e2, e3, e4⟩ := placeF_spec h
      refine ⟨i + 1, z, by omega, e2, e3, fun m x' hm hx => ?_⟩
      cases m with
      | zero =>
        rw [List.getElem?_cons_zero] at hx
        cases hx
        exact Bool.not_eq_true _ ▸ e
      | succ m => exact e4 m x' (by omega) hx
theorem ok_index {K : PySem.W.Frag} : Ok2 K cA idxw fun x y H Q => rIndex K x [y] H Q := by
  intro z g H M E wx wy x y Q c rx ry q
  unfold idxw at q
  cases e1 : seqw M wx with
  | none => simp [e1, Res] at q
  | some pp =>
    obtain ⟨bb, ws⟩ := pp
    cases bb with
    | false => simp [e1, Res] at q
    | true =>
      simp only [e1] at q
      cases e2 : nds M ws with
      | none => simp [e2, Res] at q
      | some l =>
        cases e3 : nd M wy with
        | none => simp [e2, e3, Res] at q
        | some d =>
          simp only [e2, e3, dIndexF] at q
          by_cases hf : (flatD d && l.all flatD) = true
          · rw [if_pos hf] at q
            rw [Bool.and_eq_true] at hf
            cases e4 : placeF d l 0 with
            | none => simp [e4, Res] at q
            | some j =>
              simp only [e4, Option.map_some, rsd_some] at q
              obtain ⟨a, vs, rfl, h1, h2, h3⟩ := seqw_at c rx e1
              have rl := nds_rep c h3 e2
              have rd := nd_rep c ry e3
              obtain ⟨i, xi, rfl, hi, he, hno⟩ := placeF_spec e4
              obtain ⟨v, hv, rv⟩ := rl.get hi
              have fi : flatD xi = true := List.all_eq_true.mp hf.2 _ (List.mem_of_getElem? hi)
              refine ⟨a, vs, y, i, v, rfl, rfl, by simpa using h1, flat_rep hf.1 rd, flats_rep rl hf.2, hv, by rw [eqF_rep hf.1 fi rd rv]; exact he, fun m z' hm hz => ?_, ?_⟩
              · have hml : m < l.length := by
                  rw [rl.length]
                  exact (List.getElem?_eq_some_iff.mp hz).1
                obtain ⟨v2, hv2, rv2⟩ := rl.get (List.getElem?_eq_getElem hml)
                rw [hz] at hv2
                cases hv2
                rw [eqF_rep hf.1 (List.all_eq_true.mp hf.2 _ (List.getElem_mem hml)) rd rv2]
                exact hno m _ hm (List.getElem?_eq_getElem hml)
              · have q2 := q H g c Le.refl _ rfl
                rwa [Nat.zero_add] at q2
          · rw [if_neg hf] at q
            exact q.elim
def eIdx (o : ED) (a : AD) : ED := fun env M => (o env M).bind fun w M1 => match seqw M1 w with
  | some (true, _) => (a env M1).bind fun us M2 => match us with
    | [u] => idxw w u M2
    | _ => .no
  | _ => .no
theorem d_index (h : PE X (.Call (.Attribute o "index" apos) (e :: es) [] pos) (tBM X.K "list" (rIndex X.K) (TED X.K cA Wx mo) (TAD X.K cA Wx mr))) : PE X (.Call (.Attribute o "index" apos) (e :: es) [] pos) (TED X.K cA Wx (eIdx mo mr)) :=
  PE.imp h fun σ H Q ⟨z, env, M, g, c, sl, q⟩ => by
    refine ⟨z, env, M, g, c, sl, Res.imp (fun w M1 g1 H1 c1 l1 q1 v rv => ?_) q.of_bind⟩
    split at q1
    · rename_i ws hs
      obtain ⟨a, vs, rfl, h1, h2, h3⟩ := seqw_at c1 rv hs
      refine ⟨.inl ⟨rfl, vs, by simpa using h1⟩, z, env, M1, g1, c1, sl.mono l1, Res.imp (fun us M2 g2 H2 c2 l2 q2 ys rys => ?_) q1.of_bind⟩
      match us, rys, q2 with
      | [], _, q2 => exact q2.elim
      | [u], .cons ru .nil, q2 => exact ok_index z g2 H2 M2 _ w u _ _ Q c2 (rv.mono l2) ru q2
      | _ :: _ :: _, _, q2 => exact q2.elim
    · exact q1.elim
/-! ### zip of two lists, of two tuples -/
def pairsZ (l m : List D) : List D := List.zipWith (fun x y => .tup [x, y]) l m
def iZip (me : AD) : ID := fun env M => (me env M).bind fun ws M1 => match ws with
  | [w, u] => match nw M1 w, nw M1 u with
    | .d (.lst l), .d (.lst m) => .ok (.its ((pairsZ l m).map .d)) M1
    | .d (.tup l), .d (.tup m) => .ok (.its ((pairsZ l m).map .d)) M1
    | _, _ => .no
  | _ => .no
theorem pairsZ_get {l m : List D} {i : Nat} {d : D} (h : (pairsZ l m)[i]? = some d) : ∃ x y, l[i]? = some x ∧ m[i]? = some y ∧ d = .tup [x, y] := by
  unfold pairsZ at h
  rw [List.getElem?_zipWith] at h
  cases e1 : l[i]? with
  | none => simp [e1] at h
  | some x =>
    cases e2 : m[i]? with
    | none => simp [e1, e2] at h
    | some y =>
      simp [e1, e2] at h
      exact ⟨x, y, rfl, rfl, h.symm⟩
theorem pairsZ_len (l m : List D) : (pairsZ l m).length = min l.length m.length := by
  unfold pairsZ
  rw [List.length_zipWith]
theorem two_laid {K : PySem.W.Frag} {z : Z0} {g : Gh} {H : Hp} {M : Sto} (c : Cf K cA z H M g) {T : Addr} (hT : H T = none) {d1 d2 : D} {v1 v2 : V} (r1 : Rep K cA g.F d1 v1) (r2 : Rep K cA g.F d2 v2) :
    ∃ g3, Cf K cA z (upd H T (.tup [v1, v2])) M g3 ∧ Le g M.length g3 M.length ∧ RW K cA g3 M.length (.d (.tup [d1, d2])) (.ref T) := by
  obtain ⟨c2, l2⟩ := c.lay (ho := .tup [v1, v2]) hT
  exact ⟨_, c2, l2, T, [v1, v2], rfl, SqT.of upd_same, (by decide : 2 ≤ sizeLine), _, _, rfl, r1.mono l2.F, _, _, rfl, r2.mono l2.F, rfl⟩
theorem jok_zipL {K : PySem.W.Frag} {z : Z0} {g : Gh} {n : Nat} {l m : List D} {a b : Addr} {vs us : List V} (h1 : SqL K g.F a vs) (h2 : RepL K cA g.F l vs) (k1 : SqL K g.F b us) (k2 : RepL K cA g.F m us) : JOk K cA z g n (.its ((pairsZ l m).map .d)) (Itz K a b) := by
  intro i H2 M2 g2 ws c2 l2 e
  cases (Option.some.inj e)
  have s1 : SqL K H2 a vs := c2.sub.seq (l2.F.seq h1)
  have s2 : SqL K H2 b us := c2.sub.seq (l2.F.seq k1)
  refine ⟨fun w hw => ?_, fun hi => ⟨vs, us, s1, s2, ?_⟩⟩
  · obtain ⟨d, hd, rfl⟩ := map_some hw
    obtain ⟨x, y, hx, hy, rfl⟩ := pairsZ_get hd
    obtain ⟨v, hv, rv⟩ := h2.get hx
    obtain ⟨u, hu, ru⟩ := k2.get hy
    refine ⟨⟨vs, us, v, u, s1, s2, hv, hu⟩, fun t H3 ⟨T, v', u', et, hT, eH, f3, f4⟩ => ?_⟩
    subst et
    subst eH
    have e5 : v' = v := by
      have := f3 vs s1
      rw [hv] at this
      exact (Option.some.inj this).symm
    have e6 : u' = u := by
      have := f4 us s2
      rw [hu] at this
      exact (Option.some.inj this).symm
    subst e5
    subst e6
    exact two_laid c2 hT (rv.mono l2.F) (ru.mono l2.F)
  · rw [List.length_map, pairsZ_len, h2.length, k2.length] at hi
    omega
theorem jok_zipT {K : PySem.W.Frag} {z : Z0} {g : Gh} {n : Nat} {l m : List D} {a b : Addr} {vs us : List V} (h1 : SqT K g.F a vs) (h2 : RepL K cA g.F l vs) (k1 : SqT K g.F b us) (k2 : RepL K cA g.F m us) : JOk K cA z g n (.its ((pairsZ l m).map .d)) (RZ.ItzT K a b) := by
  intro i H2 M2 g2 ws c2 l2 e
  cases (Option.some.inj e)
  have s1 : SqT K H2 a vs := c2.sub.seqT (l2.F.seqT h1)
  have s2 : SqT K H2 b us := c2.sub.seqT (l2.F.seqT k1)
  refine ⟨fun w hw => ?_, fun hi => ⟨vs, us, s1, s2, ?_⟩⟩
  · obtain ⟨d, hd, rfl⟩ := map_some hw
    obtain ⟨x, y, hx, hy, rfl⟩ := pairsZ_get hd
    obtain ⟨v, hv, rv⟩ := h2.get hx
    obtain ⟨u, hu, ru⟩ := k2.get hy
    refine ⟨⟨vs, us, v, u, s1, s2, hv, hu⟩, fun t H3 ⟨T, v', u', et, hT, eH, f3, f4⟩ => ?_⟩
    subst et
    subst eH
    have e5 : v' = v := by
      have := f3 vs s1
      rw [hv] at this
      exact (Option.some.inj this).symm
    have e6 : u' = u := by
      have := f4 us s2
      rw [hu] at this
      exact (Option.some.inj this).symm
    subst e5
    subst e6
    exact two_laid c2 hT (rv.mono l2.F) (ru.mono l2.F)
  · rw [List.length_map, pairsZ_len, h2.length, k2.length] at hi
    omega
theorem i_zip (hm : X.mg "zip" = none) (ha : PA X [a, b] (TAD X.K cA Wx mr)) (hg : Gl X "zip" := by rfl) (hs : starEach [a, b] X.env = (false, eval a X.env) :: starEach [b] X.env := by rfl) (hpl : (backTo pos (starEach [b] X.env)).any (·.1) = false := by rfl) :
    PI X (.Tuple elts kk tpos) (.Call (.Name "zip" p) [a, b] [] pos) (TID X.K cA Wx (iZip mr)) :=
  PI.imp (RZ.pi_zipA hg hm ha hs hpl) fun σ H R ⟨z, env, M, g, c, sl, q⟩ => by
    refine ⟨z, env, M, g, c, sl, Res.imp (fun ws M1 g1 H1 c1 l1 q1 vs rv => ?_) q.of_bind⟩
    match ws, rv, q1 with
    | [], _, q1 => exact q1.elim
    | [_], _, q1 => exact q1.elim
    | _ :: _ :: _ :: _, _, q1 => exact q1.elim
    | [w, u], .cons r1 (.cons r2 .nil), q1 =>
      simp only at q1
      have t1 := rw_nw c1 r1
      have t2 := rw_nw c1 r2
      split at q1
      · rename_i l m hl hm
        rw [hl] at t1
        rw [hm] at t2
        obtain ⟨a, us, rfl, h1, h2, h3⟩ := t1
        obtain ⟨b, ts, rfl, k1, k2, k3⟩ := t2
        exact ⟨a, b, us, ts, rfl, .inl ⟨c1.sub.seq (SqL.of h1), c1.sub.seq (SqL.of k1), q1 H1 g1 c1 Le.refl _ fun _ => jok_zipL (SqL.of h1) h3 (SqL.of k1) k3⟩⟩
      · rename_i l m hl hm
        rw [hl] at t1
        rw [hm] at t2
        obtain ⟨a, us, rfl, h1, h2, h3⟩ := t1
        obtain ⟨b, ts, rfl, k1, k2, k3⟩ := t2
        exact ⟨a, b, us, ts, rfl, .inr ⟨c1.sub.seqT h1, c1.sub.seqT k1, q1 H1 g1 c1 Le.refl _ fun _ => jok_zipT h1 h3 k1 k3⟩⟩
      · exact q1.elim
/-! ### list(range(n)), tuple(range(n)) -/
def ints0 (n : Nat) : List D := (List.range n).map fun (i : Nat) => .int (i : Int)
/-- of one whole number, not too great -/
def dRgL : D → Option D
  | .int j => if shut 1 (decide (-1000 ≤ j ∧ j ≤ 1000)) = true then some (.lst (ints0 j.toNat)) else none
  | _ => none
def dRgT : D → Option D
  | .int j => if shut 1 (decide (-1000 ≤ j ∧ j ≤ 1000)) = true then some (.tup (ints0 j.toNat)) else none
  | _ => none
theorem rg_rep {K : PySem.W.Frag} {F : Hp} (n : Nat) : RepL K cA F (ints0 n) ((List.range n).map fun (i : Nat) => V.int ((0 : Int) + (i : Nat))) := by
  unfold ints0
  induction List.range n with
  | nil => exact rfl
  | cons x l ih => exact ⟨_, _, rfl, (by show V.int _ = V.int _; rw [Int.zero_add]), ih⟩
theorem rg_ok {j : Int} (h : -1000 ≤ j ∧ j ≤ 1000) : RgOk 0 j := ⟨by omega, by omega, by omega, by omega, by omega⟩
theorem rg_len (j : Int) : (rgV 0 j) = (List.range j.toNat).map fun (i : Nat) => V.int ((0 : Int) + (i : Nat)) := by
  unfold rgV
  rw [Int.sub_zero]
theorem d_listRg (hm : X.mg "list" = none) (hm2 : X.mg "range" = none) (ha : PE X a (TED X.K cA Wx ma)) (hc : X.calm = true := by rfl) (hg : Gl X "list" := by rfl) (hg2 : Gl X "range" := by rfl) (na : starEach [a] X.env = (false, eval a X.env) :: starEach [] X.env := by rfl) :
    PE X (.Call (.Name "list" p) [.Call (.Name "range" p2) [a] [] q] [] pos) (TED X.K cA Wx (e1 (pu1 dRgL) ma)) :=
  PE.imp (pe_listRg hc hg hm (prg_1 hg2 hm2 ha na)) fun σ H Q ⟨z, env, M, g, c, sl, q⟩ => by
    refine ⟨z, env, M, g, c, sl, Res.imp (fun w M1 g1 H1 c1 l1 q1 v rv => ?_) q.of_bind⟩
    cases e1 : nd M1 w with
    | none => simp [pu1, e1, Res] at q1
    | some d =>
      have rd := nd_rep c1 rv e1
      cases d with
      | int j =>
        simp only [pu1, e1, Option.bind_some, dRgL, shut_eq] at q1
        by_cases hj : decide (-1000 ≤ j ∧ j ≤ 1000) = true
        · rw [if_pos hj] at q1
          have hj' := of_decide_eq_true hj
          refine ⟨j, rd, rg_ok hj', fun p hp => ?_⟩
          rw [rg_len]
          exact c1.ans q1 hp ⟨p, _, rfl, upd_same, by rw [List.length_map, List.length_range]; exact Nat.le_trans (by omega : _ ≤ 1000) (by decide), rg_rep _⟩
        · rw [if_neg hj] at q1
          exact q1.elim
      | _ => simp [pu1, e1, dRgL, Res] at q1
theorem d_tupRg (hm : X.mg "tuple" = none) (hm2 : X.mg "range" = none) (ha : PE X a (TED X.K cA Wx ma)) (hc : X.calm = true := by rfl) (hg : Gl X "tuple" := by rfl) (hg2 : Gl X "range" := by rfl) (na : starEach [a] X.env = (false, eval a X.env) :: starEach [] X.env := by rfl) :
    PE X (.Call (.Name "tuple" p) [.Call (.Name "range" p2) [a] [] q] [] pos) (TED X.K cA Wx (e1 (pu1 dRgT) ma)) :=
  PE.imp (pe_tupRg hc hg hm (prg_1 hg2 hm2 ha na)) fun σ H Q ⟨z, env, M, g, c, sl, q⟩ => by
    refine ⟨z, env, M, g, c, sl, Res.imp (fun w M1 g1 H1 c1 l1 q1 v rv => ?_) q.of_bind⟩
    cases e1 : nd M1 w with
    | none => simp [pu1, e1, Res] at q1
    | some d =>
      have rd := nd_rep c1 rv e1
      cases d with
      | int j =>
        simp only [pu1, e1, Option.bind_some, dRgT, shut_eq] at q1
        by_cases hj : decide (-1000 ≤ j ∧ j ≤ 1000) = true
        · rw [if_pos hj] at q1
          have hj' := of_decide_eq_true hj
          refine ⟨j, rd, rg_ok hj', fun p hp => ?_⟩
          rw [rg_len]
          exact c1.ans q1 hp ⟨p, _, rfl, SqT.of upd_same, by rw [List.length_map, List.length_range]; exact Nat.le_trans (by omega : _ ≤ 1000) (by decide), rg_rep _⟩
        · rw [if_neg hj] at q1
          exact q1.elim
      | _ => simp [pu1, e1, dRgT, Res] at q1
end
end DL

/-! Layer D: the evaluator: lists of the store, sealing, sets of ints, filters. -/
namespace DL
open PySem
section
variable {α β : Type} {M M1 M2 : Sto} {P : PV} {E : PX} {env : Ev} {src : ID} {tg : GD} {tt : TD} {te me o : ED} {vs : List Nat} {l : List D} {w u : Wv} {k : Nat} {ws us : List Wv} {a : AD} {x y : D}
theorem nw_m (h : M[k]? = some (.lst ws)) : nw M (.m k) = .m k := by unfold nw; simp only [h]
theorem seqw_m (h : M[k]? = some (.lst ws)) : seqw M (.m k) = some (true, ws) := by unfold seqw; simp only [nw_m h, h]
theorem ix_m (h : M[k]? = some (.lst ws)) {i : Int} (hi : L2.atI ws i = some w) : (ixw (.m k) (.d (.int i)) M).Is P E = P w M := by
  unfold ixw
  simp only [seqw_m h, hi]
  rfl
theorem len_m (h : M[k]? = some (.lst ws)) : (lenw (.m k) M).Is P E = P (.d (.int ws.length)) M := by
  unfold lenw
  simp only [seqw_m h]
  rfl
theorem lst_m (h : M[k]? = some (.lst ws)) : lstAt (.m k) M = some (k, ws) := by unfold lstAt; simp only [h]
theorem ixN_n {n i : Nat} (h : i < n) : L2.ixN n (i : Int) = some i := by
  unfold L2.ixN
  rw [if_pos (Int.natCast_nonneg i), if_pos (by omega), Int.toNat_natCast]
/-! sealing -/
def kSeal (P : PV) : PV := fun w M => match sealW 6 w M with
  | some (x, M2) => P (.d x) M2
  | none => False
theorem y_seal : (eSeal me env M).Is P E = (me env M).Is (kSeal P) E := by
  unfold eSeal
  rw [is_bind]
  congr
  funext w M1
  unfold kSeal
  cases sealW 6 w M1 with
  | none => rfl
  | some p => rfl
theorem kSeal_d : kSeal P (.d x) M = P (.d x) M := by
  unfold kSeal
  simp only [sealW_d]
theorem seal_to (h : sealW 6 (.m k) M = some (x, M2)) : kSeal P (.m k) M = P (.d x) M2 := by
  unfold kSeal
  simp only [h]
theorem outC_to {n : Nat} (hk : n ≤ k) (h : sealW 6 (.m k) M = some (x, M2)) : (outC n (.m k) M).Is P E = ((M2.take n).all (MO.below n) = true ∧ P (.d x) (M2.take n)) := by
  unfold outC prep
  rw [if_neg (by show ¬ decide (k < n) = true; rw [decide_eq_true_eq]; omega), h]
  simp only [Option.map_some]
  by_cases hb : (M2.take n).all (MO.below n) = true
  · rw [if_pos hb]
    simp only [hb, true_and, is_ok]
  · rw [if_neg hb, is_no]
    exact (eq_false fun z => hb z.1).symm
/-- a list of data -/
theorem seal_data {f : Nat} (h : M[k]? = some (.lst (l.map .d))) : sealW (f + 1) (.m k) M = some (.lst l, M.set k (.fz (.lst l))) := by
  show (match M[k]? with
    | some (.lst ws) => (sealL (sealW f) ws M).bind fun M1 => fz1 k M1
    | some (.tup ws) => (sealL (sealW f) ws M).bind fun M1 => fz1 k M1
    | some (.ins _ _ ws) => (sealL (sealW f) ws M).bind fun M1 => fz1 k M1
    | some (.dic _ ws) => (sealL (sealW f) ws M).bind fun M1 => fz1 k M1
    | _ => fz1 k M) = _
  simp only [h, sealL_d, Option.bind_some]
  unfold fz1
  simp only [h, nds_d]
  rfl
/-- a list of lists of data, the inner ones at o, o + 1, … -/
theorem seal_rows {T : List (List D)} {o : Nat} (hk : k < o ∨ o + T.length ≤ k) (hr : ∀ i (h : i < T.length), M[o + i]? = some (.lst (T[i].map .d))) (ht : M[k]? = some (.lst ((List.range T.length).map fun i => .m (o + i)))) :
    ∃ M2, sealW 6 (.m k) M = some (.lst (T.map .lst), M2) ∧ ∀ j, j < o → j ≠ k → M2[j]? = M[j]? := by
  have go : ∀ (n i : Nat) (N : Sto), i + n = T.length → (∀ j, j < o ∨ o + T.length ≤ j → N[j]? = M[j]?) → (∀ j (h : j < T.length), j < i → N[o + j]? = some (.fz (.lst T[j]))) → (∀ j (h : j < T.length), i ≤ j → N[o + j]? = some (.lst (T[j].map .d))) →
      ∃ N2, sealL (sealW 5) ((List.range' i n).map fun j => .m (o + j)) N = some N2 ∧ (∀ j, j < o ∨ o + T.length ≤ j → N2[j]? = M[j]?) ∧ ∀ j (h : j < T.length), N2[o + j]? = some (.fz (.lst T[j])) := by
    intro n
    induction n with
    | zero =>
      intro i N hi h1 h2 h3
      exact ⟨N, rfl, h1, fun j hj => h2 j hj (by omega)⟩
    | succ n ih =>
      intro i N hi h1 h2 h3
      have hil : i < T.length := by omega
      have s1 := seal_data (f := 4) (h3 i hil (Nat.le_refl _))
      have hN : o + i < N.length := (List.getElem?_eq_some_iff.mp (h3 i hil (Nat.le_refl _))).1
      obtain ⟨N2, q1, q2, q3⟩ := ih (i + 1) (N.set (o + i) (.fz (.lst T[i]))) (by omega) (fun j hj => by rw [List.getElem?_set_ne (by omega)]; exact h1 j hj) (fun j hj hji => by
        by_cases e : j = i
        · subst e
          rw [List.getElem?_set_self hN]
        · rw [List.getElem?_set_ne (by omega)]
          exact h2 j hj (by omega)) (fun j hj hji => by rw [List.getElem?_set_ne (by omega)]; exact h3 j hj (by omega))
      refine ⟨N2, ?_, q2, q3⟩
      rw [List.range'_succ, List.map_cons, sealL, s1]
      exact q1
  obtain ⟨N2, q1, q2, q3⟩ := go T.length 0 M (Nat.zero_add _) (fun _ _ => rfl) (fun _ _ h => absurd h (Nat.not_lt_zero _)) (fun j h _ => hr j h)
  have hk2 : N2[k]? = some (.lst ((List.range T.length).map fun i => .m (o + i))) := by rw [q2 k hk]; exact ht
  have hn : nds N2 ((List.range T.length).map fun i => .m (o + i)) = some (T.map .lst) := by
    have : ∀ (n i : Nat), i + n = T.length → nds N2 ((List.range' i n).map fun j => .m (o + j)) = some ((T.drop i).map .lst) := by
      intro n
      induction n with
      | zero => intro i hi; rw [List.drop_of_length_le (by omega)]; rfl
      | succ n ih =>
        intro i hi
        have hil : i < T.length := by omega
        rw [List.range'_succ, List.map_cons, nds, List.drop_eq_getElem_cons hil, List.map_cons]
        have e1 : nd N2 (.m (o + i)) = some (.lst T[i]) := by unfold nd; simp only [q3 i hil]
        rw [e1, ih (i + 1) (by omega)]
    have := this T.length 0 (Nat.zero_add _)
    rw [List.drop_zero] at this
    rw [List.range_eq_range']
    exact this
  refine ⟨N2.set k (.fz (.lst (T.map .lst))), ?_, fun j hj hjk => by rw [List.getElem?_set_ne (Ne.symm hjk)]; exact q2 j (.inl hj)⟩
  show (match M[k]? with
    | some (.lst ws) => (sealL (sealW 5) ws M).bind fun M1 => fz1 k M1
    | some (.tup ws) => (sealL (sealW 5) ws M).bind fun M1 => fz1 k M1
    | some (.ins _ _ ws) => (sealL (sealW 5) ws M).bind fun M1 => fz1 k M1
    | some (.dic _ ws) => (sealL (sealW 5) ws M).bind fun M1 => fz1 k M1
    | _ => fz1 k M) = _
  simp only [ht]
  rw [List.range_eq_range', q1]
  simp only [Option.bind_some]
  unfold fz1
  simp only [hk2, hn]
  rfl
/-! sets of ints, index, ranges -/
theorem y_fSeqL {f : List D → Option D} : (fSeq f (.d (.lst l)) M).Is P E = oo (f l) (kD P) M := by
  unfold fSeq
  simp only [seqw_lst, nds_d]
  cases f l <;> rfl
theorem y_fSeqT {f : List D → Option D} : (fSeq f (.d (.tup l)) M).Is P E = oo (f l) (kD P) M := by
  unfold fSeq
  simp only [seqw_tup, nds_d]
  cases f l <;> rfl
theorem set_ints {ns : List Int} (h : ns.length ≤ 1000) : dSetI (ns.map .int) = some (.lst ((setI ns).map .int)) := by
  unfold dSetI
  rw [intsOf_map, Option.bind_some, if_pos h]
theorem lenset_ints {ns : List Int} (h : ns.length ≤ 1000) : dLenSetI (ns.map .int) = some (.int ((setI ns).length : Int)) := by
  unfold dLenSetI
  rw [intsOf_map, Option.bind_some, if_pos h]
def kIdx2 (w : Wv) (P : PV) (E : PX) : PL := fun us M => match us with
  | [u] => (idxw w u M).Is P E
  | _ => False
def kIdx1 (a : AD) (env : Ev) (P : PV) (E : PX) : PV := fun w M => match seqw M w with
  | some (true, _) => (a env M).Is (kIdx2 w P E) E
  | _ => False
theorem y_idx : (eIdx o a env M).Is P E = (o env M).Is (kIdx1 a env P E) E := by
  unfold eIdx
  rw [is_bind]
  congr
  funext w M1
  unfold kIdx1
  cases seqw M1 w with
  | none => rfl
  | some p =>
    obtain ⟨b, ws⟩ := p
    cases b with
    | false => rfl
    | true =>
      show (Rs.bind _ _).Is P E = _
      rw [is_bind]
      show _ = (a env M1).Is (kIdx2 w P E) E
      congr
      funext us M2
      match us with
      | [] => rfl
      | [_] => rfl
      | _ :: _ :: _ => rfl
theorem kIdx1_lst : kIdx1 a env P E (.d (.lst l)) M = (a env M).Is (kIdx2 (.d (.lst l)) P E) E := by
  unfold kIdx1
  simp only [seqw_lst]
theorem kIdx2_ap : kIdx2 w P E [u] M = (idxw w u M).Is P E := rfl
/-- the place of a number -/
def plc (x : Int) (ns : List Int) : Nat := (placeF (.int x) (ns.map .int) 0).getD 0
theorem placeF_ints {x : Int} : ∀ {ns : List Int} {n : Nat}, x ∈ ns → ∃ j, placeF (.int x) (ns.map .int) n = some (n + j) ∧ ns[j]? = some x
  | [], _, h => by cases h
  | y :: ns, n, h => by
    have ee : eqF (.int y) (.int x) = (y == x) := rfl
    rw [List.map_cons, placeF, ee]
    by_cases e : y = x
    · subst e
      rw [if_pos (beq_self_eq_true y)]
      exact ⟨0, rfl, rfl⟩
    · rw [if_neg (by rw [beq_iff_eq]; exact e)]
      rcases List.mem_cons.mp h with h | h
      · exact absurd h.symm e
      · obtain ⟨j, h1, h2⟩ := placeF_ints (n := n + 1) h
        exact ⟨j + 1, by rw [h1]; congr 1; omega, h2⟩
theorem plc_get {x : Int} {ns : List Int} (h : x ∈ ns) : ns[plc x ns]? = some x := by
  obtain ⟨j, h1, h2⟩ := placeF_ints (n := 0) h
  unfold plc
  rw [h1, Option.getD_some, Nat.zero_add]
  exact h2
theorem plc_lt {x : Int} {ns : List Int} (h : x ∈ ns) : plc x ns < ns.length := (List.getElem?_eq_some_iff.mp (plc_get h)).1
theorem idx_ints {x : Int} {ns : List Int} (h : x ∈ ns) : (idxw (.d (.lst (ns.map .int))) (.d (.int x)) M).Is P E = P (.d (.int (plc x ns : Nat))) M := by
  obtain ⟨j, h1, _⟩ := placeF_ints (n := 0) h
  have e : plc x ns = j := by unfold plc; rw [h1, Option.getD_some, Nat.zero_add]
  have hf : (flatD (.int x) && (ns.map D.int).all flatD) = true := by
    rw [List.all_map]
    exact List.all_eq_true.mpr fun _ _ => rfl
  unfold idxw dIndexF
  simp only [seqw_lst, nds_d, nd_d]
  rw [if_pos hf, h1, e, Nat.zero_add]
  rfl
theorem rgL_nat {n : Nat} (h : n ≤ 1000) : dRgL (.int (n : Int)) = some (.lst (ints0 n)) := by
  show (if shut 1 (decide (-1000 ≤ (n : Int) ∧ (n : Int) ≤ 1000)) = true then some (D.lst (ints0 (n : Int).toNat)) else none) = _
  rw [shut_eq, if_pos (decide_eq_true ⟨by omega, by omega⟩), Int.toNat_natCast]
theorem rgT_nat {n : Nat} (h : n ≤ 1000) : dRgT (.int (n : Int)) = some (.tup (ints0 n)) := by
  show (if shut 1 (decide (-1000 ≤ (n : Int) ∧ (n : Int) ≤ 1000)) = true then some (D.tup (ints0 (n : Int).toNat)) else none) = _
  rw [shut_eq, if_pos (decide_eq_true ⟨by omega, by omega⟩), Int.toNat_natCast]
/-! comprehensions, more -/
/-- with a test, over data -/
theorem kcDF (as : List α) (f v : α → D) (p : α → Bool) (hl : as.length ≤ sizeLine)
    (h : ∀ a ∈ as, Go ((tg (.d (f a)) (wipeE env vs) M).Is (fun e M' => M' = M ∧ (tt e M).Is (fun b M' => b = p a ∧ M' = M) nox ∧ (p a = true → (te e M).Is (fun w M'' => w = .d (v a) ∧ M'' = M) nox)) nox)) (k : Go (P (.d (.lst ((as.filter p).map v))) M)) :
    kLc finF tg tt te vs env P E (.its ((as.map f).map .d)) M := by
  refine eLc_is (M := M) (fun i acc M' => M' = M ∧ acc = (((as.take i).filter p).map v).map .d) rfl (by rw [List.length_map, List.length_map]; exact hl) ⟨rfl, rfl⟩ (fun i w acc M' hw hI => ?_) fun acc M' hI => ?_
  · obtain ⟨rfl, rfl⟩ := hI
    have hi : i < as.length := by
      have := (List.getElem?_eq_some_iff.mp hw).1
      rw [List.length_map, List.length_map] at this
      exact this
    rw [List.getElem?_map, List.getElem?_map, List.getElem?_eq_getElem hi] at hw
    cases (Option.some.inj hw)
    refine (h as[i] (List.getElem_mem hi)).go.imp (fun e M1 q => ?_) fun _ _ z => z
    obtain ⟨rfl, q1, q2⟩ := q
    refine q1.imp (fun b M2 q => ?_) fun _ _ z => z
    obtain ⟨rfl, rfl⟩ := q
    rw [List.take_succ_eq_append_getElem hi, List.filter_append]
    by_cases hp : p as[i] = true
    · rw [if_pos hp]
      refine (q2 hp).imp (fun w M3 q => ?_) fun _ _ z => z
      obtain ⟨rfl, rfl⟩ := q
      refine ⟨rfl, ?_⟩
      rw [List.filter_cons_of_pos hp, List.filter_nil, List.map_append, List.map_append]
      rfl
    · rw [if_neg hp]
      refine ⟨rfl, ?_⟩
      rw [List.filter_cons_of_neg hp, List.filter_nil, List.append_nil]
  · obtain ⟨rfl, rfl⟩ := hI
    rw [List.length_map, List.length_map, List.take_length, y_finF]
    exact k.go
/-- over a list of the store, any items -/
theorem kcMg (as : List α) (g : α → Wv) (v : α → D) (j : Nat) (hl : as.length ≤ sizeLine) (hj : M[j]? = some (.lst (as.map g)))
    (h : ∀ a ∈ as, Go ((tg (g a) (wipeE env vs) M).Is (fun e M' => M' = M ∧ (te e M).Is (fun w M'' => w = .d (v a) ∧ M'' = M) nox) nox)) (k : Go (P (.d (.lst (as.map v))) M)) :
    kLc finF tg tYesD te vs env P E (.live j) M := by
  refine is_of (eLc_mapS (M1 := M) (s := .live j) g v as rfl (by
    show (match M[j]? with
      | some (.lst us) => some us
      | _ => none) = _
    rw [hj]) (fun a ha => ?_) hl) k.go
  obtain ⟨e, M', h1, rfl, h2⟩ := (h a ha).go.out
  exact ⟨e, h1, is_eq h2⟩
/-- over data, that draws -/
theorem kcDP {fin : List Wv → Sto → Rs Wv} (as : List α) (f : α → D) (enc : β → D) (Q : α → β → Prop) {p : MO} {rest : Sto} (hl : as.length ≤ sizeLine) (hp : PoolIs p)
    (h : ∀ a ∈ as, ∀ p, PoolIs p → Go ((tg (.d (f a)) (wipeE env vs) (p :: rest)).Is (fun e M' => M' = p :: rest ∧ (te e (p :: rest)).Is (fun w M'' => ∃ b p', w = .d (enc b) ∧ M'' = p' :: rest ∧ Q a b ∧ PoolIs p') nox) nox))
    (k : ∀ (l : List β) (p : MO), l.length = as.length → (∀ i (h1 : i < as.length) (h2 : i < l.length), Q as[i] l[i]) → PoolIs p → Go ((fin ((l.map enc).map .d) (p :: rest)).Is P E)) :
    kLc fin tg tYesD te vs env P E (.its ((as.map f).map .d)) (p :: rest) := by
  refine eLc_is (M := p :: rest) (fun i acc M' => ∃ (l : List β) (p : MO), acc = (l.map enc).map .d ∧ l.length = i ∧ (∀ i (h1 : i < as.length) (h2 : i < l.length), Q as[i] l[i]) ∧ PoolIs p ∧ M' = p :: rest) rfl (by rw [List.length_map, List.length_map]; exact hl) ⟨[], p, rfl, rfl, fun i _ h => absurd h (Nat.not_lt_zero _), hp, rfl⟩ (fun i w acc M' hw hI => ?_) fun acc M' hI => ?_
  · obtain ⟨l, p, rfl, hli, hQ, hp, rfl⟩ := hI
    have hi : i < as.length := by
      have := (List.getElem?_eq_some_iff.mp hw).1
      rw [List.length_map, List.length_map] at this
      exact this
    rw [List.getElem?_map, List.getElem?_map, List.getElem?_eq_getElem hi] at hw
    cases (Option.some.inj hw)
    refine (h as[i] (List.getElem_mem hi) p hp).go.imp (fun e M' q => ?_) fun _ _ z => z
    obtain ⟨rfl, q⟩ := q
    show (Rs.ok true (p :: rest)).Is _ _
    rw [is_ok, if_pos rfl]
    refine q.imp (fun w M'' q2 => ?_) fun _ _ z => z
    obtain ⟨b, p', rfl, rfl, hb, hp'⟩ := q2
    refine ⟨l ++ [b], p', by rw [List.map_append, List.map_append]; rfl, by rw [List.length_append, hli]; rfl, fun j h1 h2 => ?_, hp', rfl⟩
    rw [List.length_append, List.length_singleton] at h2
    by_cases hjl : j < l.length
    · rw [List.getElem_append_left hjl]
      exact hQ j h1 hjl
    · have : j = i := by omega
      subst this
      have e : (l ++ [b])[j] = b := by
        rw [List.getElem_append_right (by omega)]
        simp
      rw [e]
      exact hb
  · obtain ⟨l, p, rfl, hli, hQ, hp, rfl⟩ := hI
    rw [List.length_map, List.length_map] at hli
    exact (k l p hli hQ hp).go
theorem kEn_lst {l : List D} {P : Src → Sto → Prop} : kEn P [.d (.lst l)] M = P (.its ((pairsFrom 0 l).map .d)) M := rfl
def kZp (P : Src → Sto → Prop) : PL := fun ws M => match ws with
  | [w, u] => match nw M w, nw M u with
    | .d (.lst l), .d (.lst m) => P (.its ((pairsZ l m).map .d)) M
    | .d (.tup l), .d (.tup m) => P (.its ((pairsZ l m).map .d)) M
    | _, _ => False
  | _ => False
theorem y_zip {me : AD} {P : Src → Sto → Prop} : (iZip me env M).Is P E = (me env M).Is (kZp P) E := by
  unfold iZip
  rw [is_bind]
  congr
  funext ws M1
  match ws with
  | [] => rfl
  | [_] => rfl
  | _ :: _ :: _ :: _ => rfl
  | [w, u] =>
    show (match nw M1 w, nw M1 u with
      | .d (.lst l), .d (.lst m) => .ok (.its ((pairsZ l m).map .d)) M1
      | .d (.tup l), .d (.tup m) => .ok (.its ((pairsZ l m).map .d)) M1
      | _, _ => .no : Rs Src).Is P E = kZp P [w, u] M1
    unfold kZp
    simp only
    cases nw M1 w with
    | m k => rfl
    | d x => cases nw M1 u with
      | m k => cases x <;> rfl
      | d y => cases x <;> cases y <;> rfl
theorem kZp_lst {l m : List D} {P : Src → Sto → Prop} : kZp P [.d (.lst l), .d (.lst m)] M = P (.its ((pairsZ l m).map .d)) M := rfl
theorem kZp_tup {l m : List D} {P : Src → Sto → Prop} : kZp P [.d (.tup l), .d (.tup m)] M = P (.its ((pairsZ l m).map .d)) M := rfl
/-- a call with a list of the store, that is sealed -/
theorem callR0_m {f : FD} {l : List D} {y : D} {k : Nat} (h : M[k]? = some (.lst (l.map .d))) (hf : f [.d (.lst l)] [] = .ok (.d y) []) : callR 0 1 f [.m k] M = .ok (.d y) (M.set k (.fz (.lst l))) := by
  have e : preps 0 [.m k] M = some ([.d (.lst l)], M.set k (.fz (.lst l))) := by
    unfold preps prep
    rw [if_neg (by show ¬ decide (k < 0) = true; simp), seal_data (f := 5) h]
    rfl
  unfold callR
  rw [if_pos (show [Wv.m k].length = 1 from rfl), e]
  simp only [List.take_zero, Nat.zero_le, true_and, List.all_nil, if_true, hf]
  rfl
/-! with a test, over a list of the store -/
theorem comp_filtS (s : Src) (g : α → Wv) (v : α → D) (p : α → Bool) {env : Ev} : ∀ (as : List α) (f i cnt : Nat) (pre : List α), s.at M = some ((pre ++ as).map g) → (∀ a ∈ as, ∃ e, tg (g a) env M = .ok e M ∧ tt e M = .ok (p a) M ∧ (p a = true → te e M = .ok (.d (v a)) M)) → f = as.length → i = pre.length → cnt + as.length ≤ sizeLine →
    compS s tg tt te f i cnt env M = .ok ((as.filter p).map fun a => .d (v a)) M
  | [], f, i, cnt, pre, hat, h, hf, hi, hc => by
    subst hf hi
    unfold compS
    simp [hat]
  | a :: as, f, i, cnt, pre, hat, h, hf, hi, hc => by
    subst hf hi
    obtain ⟨e, h1, h2, h3⟩ := h a (List.mem_cons_self ..)
    rw [List.length_cons] at hc ⊢
    unfold compS
    have e1 : ((pre ++ a :: as).map g)[pre.length]? = some (g a) := by
      rw [List.getElem?_map, List.getElem?_append_right (Nat.le_refl _), Nat.sub_self]
      rfl
    have e2 : pre ++ a :: as = (pre ++ [a]) ++ as := by rw [List.append_assoc]; rfl
    have hat2 := hat
    rw [e2] at hat2
    simp only [hat, e1, h1, nx_ok, Rs.bind_ok, h2]
    by_cases hp : p a = true
    · rw [if_pos hp]
      simp only [h3 hp, nx_ok, Rs.bind_ok]
      rw [if_pos (by omega)]
      rw [comp_filtS s g v p as as.length (pre.length + 1) (cnt + 1) (pre ++ [a]) hat2 (fun b hb => h b (List.mem_cons_of_mem _ hb)) rfl (by rw [List.length_append]; rfl) (by omega), List.filter_cons_of_pos hp]
      rfl
    · rw [if_neg hp, List.filter_cons_of_neg hp]
      exact comp_filtS s g v p as as.length (pre.length + 1) cnt (pre ++ [a]) hat2 (fun b hb => h b (List.mem_cons_of_mem _ hb)) rfl (by rw [List.length_append]; rfl) (by omega)
theorem kcMF (as : List α) (f v : α → D) (p : α → Bool) (j : Nat) (hl : as.length ≤ sizeLine) (hj : M[j]? = some (.lst ((as.map f).map .d)))
    (h : ∀ a ∈ as, Go ((tg (.d (f a)) (wipeE env vs) M).Is (fun e M' => M' = M ∧ (tt e M).Is (fun b M' => b = p a ∧ M' = M) nox ∧ (p a = true → (te e M).Is (fun w M'' => w = .d (v a) ∧ M'' = M) nox)) nox)) (k : Go (P (.d (.lst ((as.filter p).map v))) M)) :
    kLc finF tg tt te vs env P E (.live j) M := by
  have hat : (Src.live j).at M = some ((as.map f).map .d) := by
    show (match M[j]? with
      | some (.lst us) => some us
      | _ => none) = _
    rw [hj]
  have e : eLc finF (fun _ M => .ok (Src.live j) M) tg tt te vs env M = .ok (.d (.lst ((as.filter p).map v))) M := by
    unfold eLc
    simp only [Rs.bind_ok, hat]
    have := comp_filtS (tg := tg) (tt := tt) (te := te) (M := M) (Src.live j) (fun a => Wv.d (f a)) v p (env := wipeE env vs) as ((as.map f).map Wv.d).length 0 0 [] (by rw [hat, List.map_map]; rfl) (fun a ha => by
      obtain ⟨e, M', h1, rfl, h2, h3⟩ := (h a ha).go.out
      obtain ⟨b, M'', h4, rfl, rfl⟩ := h2.out
      exact ⟨e, h1, h4, fun hp => is_eq (h3 hp)⟩) (by rw [List.length_map, List.length_map]) rfl (by omega)
    rw [this, Rs.bind_ok, finF]
    have e : ((as.filter p).map fun a => Wv.d (v a)) = ((as.filter p).map v).map .d := by rw [List.map_map]; rfl
    rw [e, nds_d]
  exact is_of e k.go
/-! double comprehensions -/
def kLc2 (fin : List Wv → Sto → Rs Wv) (tg : GD) (tt : TD) (src1 : ID) (tg1 : GD) (tt1 : TD) (te : ED) (vs vs1 : List Nat) (env : Ev) (P : PV) (E : PX) : Src → Sto → Prop := fun s M => (eLc2 fin (fun _ M => .ok s M) tg tt src1 tg1 tt1 te vs vs1 env M).Is P E
theorem y_lc2 {fin : List Wv → Sto → Rs Wv} {src1 : ID} {tg1 : GD} {tt1 : TD} {vs1 : List Nat} : (eLc2 fin src tg tt src1 tg1 tt1 te vs vs1 env M).Is P E = (src env M).Is (kLc2 fin tg tt src1 tg1 tt1 te vs vs1 env P E) E := by
  unfold eLc2
  rw [is_bind]
  rfl
theorem kcD2 {src1 : ID} {tg1 : GD} {vs1 : List Nat} (as : List α) (f : α → D) (bs : α → List β) (g v : α → β → D) (hl : (as.flatMap fun a => (bs a).map (v a)).length ≤ sizeLine)
    (h : ∀ a ∈ as, Go ((tg (.d (f a)) (wipeE env vs) M).Is (fun e M' => M' = M ∧ (src1 e M).Is (fun s M' => M' = M ∧ s = .its (((bs a).map (g a)).map .d) ∧ ∀ b ∈ bs a, (tg1 (.d (g a b)) (wipeE e vs1) M).Is (fun e M' => M' = M ∧ (te e M).Is (fun w M' => w = .d (v a b) ∧ M' = M) nox) nox) nox) nox))
    (k : Go (P (.d (.lst (as.flatMap fun a => (bs a).map (v a)))) M)) : kLc2 finF tg tYesD src1 tg1 tYesD te vs vs1 env P E (.its ((as.map f).map .d)) M := by
  refine is_of (eLc2_map (M1 := M) (fun a => .d (f a)) (fun a => (bs a).map (v a)) as (by rw [List.map_map]; rfl) (fun a ha => ?_) hl) k.go
  obtain ⟨e, M', h1, rfl, h2⟩ := (h a ha).go.out
  obtain ⟨s, M'', h3, rfl, rfl, h4⟩ := h2.out
  refine ⟨e, _, h1, h3, fun cnt hc => ?_⟩
  rw [List.length_map] at hc
  have := comp_map (tg := tg1) (te := te) (M := M'') (fun b => Wv.d (g a b)) (v a) (env := wipeE e vs1) (bs a) (bs a).length 0 cnt [] (fun b hb => by
    obtain ⟨e2, M2, q1, rfl, q2⟩ := (h4 b hb).out
    exact ⟨e2, q1, is_eq q2⟩) rfl rfl hc
  rw [List.nil_append] at this
  rw [List.map_map, List.length_map, List.map_map]
  exact this
end
end DL

/-! Layer D: == of data in which instances of own classes stand. -/
namespace DL
open PySem PySem.Spec PyProof.Rows L2
section
open AutoSeq1 (wpAny_loadPart')
open MeetsSeq MeetsSeq2 MeetsSeq3 SeqRoads2 PySem.SeqAt
variable {prog : Program} {w : World} {A : Around} {R : Result → Shared → Prop}
/-- tuples: I while the items are equal, J once two are not -/
theorem tup_run (l b : Addr) (xs ys : Array Value) (n n2 : Nat) (dd dd2 : Option Addr) (sl sl2 : Array (Option Value)) (I : Nat → Shared → Prop) (J : Shared → Prop)
    (turn : ∀ i (h1 : i < xs.size) (h2 : i < ys.size) s, I i s → wpAny (model prog w) A.in1 (eqBool xs[i] ys[i]) (fun r s' => (r = true ∧ I (i + 1) s') ∨ (r = false ∧ J s')) (fun e s' => R (.error e) s') s)
    (fin : ∀ s, I (min xs.size ys.size) s → R (.ok (.ret (.bool (xs.size == ys.size)))) s) (out : ∀ s, J s → R (.ok (.ret (.bool false))) s)
    {s : Shared} (g1 : s.heap.get? l = some { cls := .type "tuple", dict := dd, data := .seq xs n, slots := sl }) (g2 : s.heap.get? b = some { cls := .type "tuple", dict := dd2, data := .seq ys n2, slots := sl2 }) (h : I 0 s) :
    wpAny (model prog w) A.in1 (Builtin.«tuple.__eq__» ⟨[.ref l, .ref b], []⟩) (GQ.FinOf prog w A R) (fun e s' => R (.error e) s') s := by
  have sub2 := AutoSeq1.sub_tuple_tuple
  have zl : (xs.toList.zip ys.toList).length = min xs.size ys.size := by simp
  have h0 := h
  obtain ⟨hp, g, d, tk, os⟩ := s
  wp_walk using wpAny_loadPart' g1, wpAny_loadPart' g2, wpAny_forIn_list _ (fun rest b s' => b.1 = none ∧ ∃ i, rest = (xs.toList.zip ys.toList).drop i ∧ i ≤ min xs.size ys.size ∧ I i s') _
  case turn =>
    rintro ⟨y, x⟩ rest b s' ⟨hb', i, hz, hi, hI⟩
    have lt : i < (xs.toList.zip ys.toList).length := by
      rcases Nat.lt_or_ge i (xs.toList.zip ys.toList).length with q | q
      · exact q
      · rw [List.drop_of_length_le q] at hz; cases hz
    have k1 : i < xs.size := by omega
    have k2 : i < ys.size := by omega
    rw [List.drop_eq_getElem_cons lt] at hz
    injection hz with e1 e2
    have ex : y = xs[i] := by have := congrArg Prod.fst e1; simpa using this
    have ey : x = ys[i] := by have := congrArg Prod.snd e1; simpa using this
    subst ex ey
    refine wpAny_bind (wpAny_mono (turn i k1 k2 s' hI) (fun r s2 q2 => ?_) fun _ _ x => x)
    rcases q2 with ⟨rfl, q2⟩ | ⟨rfl, q2⟩
    · wp_walk
      exact ⟨rfl, i + 1, e2, by omega, q2⟩
    · have hR := out s2 q2
      wp_walk
      exact hR
  case fin =>
    rintro ⟨b1, b2⟩ s' ⟨hb', i, hz, hi, hI⟩
    simp only at hb'
    subst hb'
    have ge : (xs.toList.zip ys.toList).length ≤ i := by
      rcases Nat.lt_or_ge i (xs.toList.zip ys.toList).length with q | q
      · rw [List.drop_eq_getElem_cons q] at hz; cases hz
      · exact q
    have ei : i = min xs.size ys.size := by omega
    have hR := fin s' (ei ▸ hI)
    wp_walk
    simpa [Builtin.Tuple.tupleCompareSizes] using hR
  case h =>
    exact ⟨rfl, 0, rfl, Nat.zero_le _, h0⟩
end
section
variable {prog : Program} {w : World} {A : Around} {E : Value → Shared → Prop} {s : Shared}
theorem tup_rich {l b : Addr} {xs ys : Array Value} {Q : Value → Shared → Prop} (hu : A.units < cLine) (I : Nat → Shared → Prop) (J : Shared → Prop) (hl : s.heap.IsTuple l xs) (hb : s.heap.IsTuple b ys)
    (turn : ∀ i (h1 : i < xs.size) (h2 : i < ys.size) s, I i s → wpAny (model prog w) A.in1 (eqBool xs[i] ys[i]) (fun r s' => (r = true ∧ I (i + 1) s') ∨ (r = false ∧ J s')) E s)
    (fin : ∀ s, I (min xs.size ys.size) s → Q (.bool (xs.size == ys.size)) s) (out : ∀ s, J s → Q (.bool false) s) (h : I 0 s) : wpAny (model prog w) A (richCompare .Eq (.ref l) (.ref b)) Q E s := by
  obtain ⟨⟨c1, dd, t1, sl⟩, g1, hc, n, hd⟩ := id hl
  obtain ⟨⟨c2, dd2, t2, sl2⟩, g2, hc2, n2, hd2⟩ := id hb
  simp only at hc hd hc2 hd2
  subst hc hd hc2 hd2
  refine wpAny_richCompare_same_room (op := .Eq) ⟨_, g1, rfl⟩ ⟨_, g2, rfl⟩ F.slot_tuple_eq (GQ.call_here F.slot_tuple_eq ⟨_, g1, rfl⟩ F.entry_tuple_eq (F.args_tuple_eq_2 _ _) ?_) hu
  exact tup_run (R := wants (fun v s' => v ≠ .notImplemented ∧ Q v s') E) l b xs ys n n2 dd dd2 sl sl2 I J turn (fun s' q => ⟨(fun x => nomatch x), fin s' q⟩) (fun s' q => ⟨(fun x => nomatch x), out s' q⟩) g1 g2 h
end
/-! ### by the abstract heap -/
abbrev EqvB := V → V → Bool → Hp → Prop
def MonB (D : EqvB) : Prop := ∀ x y b H H', Ext H H' → D x y b H → D x y b H'
def EqB (X : Cx) (n : Nat) (D : EqvB) : Prop :=
  ∀ (A : Around) (pins : List (Addr × Obj)) (s : Shared) (σ : St) (H : Hp) (x y : V) (b : Bool) (u v : Value), Sub X n A → Inv X pins σ H s → RelV x u → RelV y v → D x y b H →
    wpAny (model X.prog X.w) A (eqBool u v) (fun r s' => r = b ∧ ∃ H', Inv X pins σ H' s' ∧ Ext H H') X.xe s
def RcB (X : Cx) (n : Nat) (D : EqvB) : Prop :=
  ∀ (A : Around) (pins : List (Addr × Obj)) (s : Shared) (σ : St) (H : Hp) (x y : V) (b : Bool) (u v : Value), Sub X n A → Inv X pins σ H s → RelV x u → RelV y v → D x y b H →
    wpAny (model X.prog X.w) A (richCompare .Eq u v) (fun r s' => r = .bool b ∧ ∃ H', Inv X pins σ H' s' ∧ Ext H H') X.xe s
/-- item by item, up to the first two that differ -/
inductive PrsB (D : EqvB) (H : Hp) : List V → List V → Bool → Prop
  | nil : PrsB D H [] [] true
  | left {x xs} : PrsB D H (x :: xs) [] false
  | right {y ys} : PrsB D H [] (y :: ys) false
  | stop {x xs y ys} : D x y false H → PrsB D H (x :: xs) (y :: ys) false
  | go {x xs y ys b} : D x y true H → PrsB D H xs ys b → PrsB D H (x :: xs) (y :: ys) b
def DTupB (K : PySem.W.Frag) (D : EqvB) : EqvB := fun x y b H => ∃ a c xs ys, x = .ref a ∧ y = .ref c ∧ SqT K H a xs ∧ SqT K H c ys ∧ PrsB D H xs ys b
section
variable {X : Cx} {n : Nat} {D : EqvB}
theorem prsB_end {H : Hp} : ∀ {xs ys : List V} {b : Bool}, PrsB D H xs ys b → xs.length ≤ 0 ∨ ys.length ≤ 0 → b = (xs.length == ys.length)
  | _, _, _, .nil, _ => rfl
  | _, _, _, .left, _ => rfl
  | _, _, _, .right, _ => rfl
  | _, _, _, .stop _, h => by simp at h
  | _, _, _, .go _ _, h => by simp at h
theorem rcB_tup (hD : MonB D) (h : EqB X n D) : RcB X (n + 1) (DTupB X.K D) := by
  intro A pins s σ H x y b u v sb I rx ry d
  obtain ⟨a, c, xs, ys, rfl, rfl, ha, hb, p⟩ := d
  cases rx
  cases ry
  obtain ⟨its, r, e, z⟩ := I.tuple ha
  obtain ⟨its2, r2, e2, z2⟩ := I.tuple hb
  have l1 : its.toArray.size = xs.length := by rw [List.size_toArray, ← r.length]
  have l2 : its2.toArray.size = ys.length := by rw [List.size_toArray, ← r2.length]
  refine tup_rich sb.room.units0 (fun i s' => LoopI X pins σ H s' ∧ PrsB D H (xs.drop i) (ys.drop i) b) (fun s' => LoopI X pins σ H s' ∧ b = false) e e2 (fun i h1 h2 s' q => ?_) (fun s' q => ?_) (fun s' q => ?_) ⟨⟨H, I, Ext.rfl'⟩, by rw [List.drop_zero, List.drop_zero]; exact p⟩
  · obtain ⟨⟨H1, I1, x1⟩, q⟩ := q
    have k1 : i < xs.length := by omega
    have k2 : i < ys.length := by omega
    rw [List.drop_eq_getElem_cons k1, List.drop_eq_getElem_cons k2] at q
    obtain ⟨uu, hu, ru⟩ := r.get (List.getElem?_eq_getElem k1)
    obtain ⟨vv, hv, rv⟩ := r2.get (List.getElem?_eq_getElem k2)
    have f1 : its[i]? = some its.toArray[i] := by
      have q1 : i < its.length := by simpa using h1
      rw [List.getElem?_eq_getElem q1]
      simp
    have f2 : its2[i]? = some its2.toArray[i] := by
      have q1 : i < its2.length := by simpa using h2
      rw [List.getElem?_eq_getElem q1]
      simp
    rw [f1] at hu
    rw [f2] at hv
    rw [Option.some.inj hu, Option.some.inj hv]
    cases q with
    | stop q =>
      refine wpAny_mono (h A.in1 pins s' σ H1 _ _ _ uu vv sb.in1 I1 ru rv (hD _ _ _ _ _ x1 q)) (fun t s2 q2 => ?_) fun _ _ z => z
      obtain ⟨rfl, H2, I2, x2⟩ := q2
      exact .inr ⟨rfl, ⟨H2, I2, x1.trans x2⟩, rfl⟩
    | go q1 q2 =>
      refine wpAny_mono (h A.in1 pins s' σ H1 _ _ _ uu vv sb.in1 I1 ru rv (hD _ _ _ _ _ x1 q1)) (fun t s2 q3 => ?_) fun _ _ z => z
      obtain ⟨rfl, H2, I2, x2⟩ := q3
      exact .inl ⟨rfl, ⟨H2, I2, x1.trans x2⟩, q2⟩
  · obtain ⟨q1, q2⟩ := q
    have := prsB_end q2 (by rw [List.length_drop, List.length_drop]; omega)
    rw [List.length_drop, List.length_drop] at this
    refine ⟨?_, q1⟩
    rw [this, l1, l2]
    congr 1
    rw [Bool.eq_iff_iff, beq_iff_eq, beq_iff_eq]
    omega
  · obtain ⟨q1, q2⟩ := q
    exact ⟨by rw [q2], q1⟩
/-- == inside a tuple: the same object is equal to itself -/
theorem RcB.eqB (h : RcB X n D) (hr : ∀ x y b H, D x y b H → ∃ a c, x = .ref a ∧ y = .ref c) (hs : ∀ (pins : List (Addr × Obj)) (s : Shared) (σ : St) (H : Hp) (a : Addr) (b : Bool), Inv X pins σ H s → D (.ref a) (.ref a) b H → b = true) : EqB X n D := by
  intro A pins s σ H x y b u v sb I rx ry d
  obtain ⟨a, c, rfl, rfl⟩ := hr _ _ _ _ d
  cases rx
  cases ry
  by_cases hab : a = c
  · subst hab
    have eb := hs pins s σ H a b I d
    subst eb
    exact SeqAt.EqAt.same (A := A) (s := s) (.ref a) X.prog X.w X.xe _ ⟨rfl, H, I, Ext.rfl'⟩
  · refine GQ.eqBool_refG hab (wpAny_mono (h A pins s σ H (.ref a) (.ref c) b _ _ sb I rfl rfl d) (fun t s' q => ?_) fun _ _ z => z)
    obtain ⟨rfl, q⟩ := q
    exact ⟨b, rfl, rfl, q⟩
end
/-! ### data with instances of own classes -/
mutual
def tgok (ts : List Nat) : D → Bool
  | .tup l => tgokL ts l
  | .obj t _ l => ts.contains t && tgokL ts l
  | .lst _ => false
  | .scr _ => false
  | .dic _ _ => false
  | .fn _ _ => false
  | _ => true
def tgokL (ts : List Nat) : List D → Bool
  | [] => true
  | x :: l => tgok ts x && tgokL ts l
end
def eqOL (f : D → D → Option Bool) : List D → List D → Option Bool
  | [], [] => some true
  | _ :: _, [] => some false
  | [], _ :: _ => some false
  | x :: l, y :: m => match f x y with
    | some true => eqOL f l m
    | some false => some false
    | none => none
open Classical in
noncomputable def eqObj (eqs : Nat → FD) (t : Nat) (x y : D) : Option Bool := match eqs t [.d x, .d y] [] with
  | .ok (.d (.bl b)) [] => if x = y ∧ b = false then none else some b
  | _ => none
noncomputable def eqO (eqs : Nat → FD) : Nat → D → D → Option Bool
  | 0, x, y => if (flatD x && flatD y) = true then some (eqF x y) else none
  | n + 1, x, y => if (flatD x && flatD y) = true then some (eqF x y) else match x, y with
    | .tup l, .tup m => eqOL (eqO eqs n) l m
    | .obj t ns l, .obj t' ns' l' => eqObj eqs t (.obj t ns l) (.obj t' ns' l')
    | _, _ => none
theorem eqF_refl : ∀ {x : D}, flatD x = true → eqF x x = true
  | .non, _ => rfl
  | .bl b, _ => by show (b == b) = true; simp
  | .int i, _ => by show (i == i) = true; simp
  | .str s, _ => by show (s == s) = true; simp
theorem eqOL_refl {f : D → D → Option Bool} (hf : ∀ x b, f x x = some b → b = true) : ∀ {l : List D} {b : Bool}, eqOL f l l = some b → b = true
  | [], b, h => (Option.some.inj h).symm
  | x :: l, b, h => by
    unfold eqOL at h
    cases e : f x x with
    | none => simp [e] at h
    | some c =>
      have hc := hf x c e
      subst hc
      simp only [e] at h
      exact eqOL_refl hf h
theorem eqO_refl {eqs : Nat → FD} : ∀ (n : Nat) {x : D} {b : Bool}, eqO eqs n x x = some b → b = true := by
  intro n
  induction n with
  | zero =>
    intro x b h
    unfold eqO at h
    by_cases hf : (flatD x && flatD x) = true
    · rw [if_pos hf] at h
      rw [Bool.and_self] at hf
      rw [← Option.some.inj h, eqF_refl hf]
    · rw [if_neg hf] at h
      cases h
  | succ n ih =>
    intro x b h
    unfold eqO at h
    by_cases hf : (flatD x && flatD x) = true
    · rw [if_pos hf] at h
      rw [Bool.and_self] at hf
      rw [← Option.some.inj h, eqF_refl hf]
    · rw [if_neg hf] at h
      cases x with
      | tup l => exact eqOL_refl (fun x b => ih (x := x) (b := b)) h
      | obj t ns l =>
        simp only [eqObj] at h
        split at h
        · rename_i c _
          cases c with
          | true => simpa using h.symm
          | false => simp at h
        · cases h
      | _ => cases h
section
variable {X : Cx} {cA : CA} {ts : List Nat} {F H : Hp} {pins : List (Addr × Obj)} {s : Shared} {σ : St}
theorem tup_no_ins (I : Inv X pins σ H s) {a C dx : Addr} {vs : List V} {fs : List (Str × V)} (h1 : SqT X.K H a vs) (h2 : H a = some (.ins C dx fs)) : False := by
  obtain ⟨its, _, ⟨o, e, hc, _⟩, _⟩ := I.tuple h1
  obtain ⟨mA, J, _⟩ := ins_get I.hok h2
  obtain ⟨od, J, _⟩ := J.look
  obtain ⟨g2, gc, _⟩ := J
  rw [e] at g2
  cases g2
  rw [gc] at hc
  cases hc
def valF : D → V
  | .bl b => .bl b
  | .int i => .int i
  | .str s => .str s
  | _ => .non
theorem rep_flat {K : PySem.W.Frag} {x : D} {v : V} (h : flatD x = true) (r : Rep K cA F x v) : v = valF x := by
  cases x <;> first | exact r | cases h
theorem rep_ref {K : PySem.W.Frag} {x : D} {v : V} (h : flatD x = false) (r : Rep K cA F x v) : ∃ a, v = .ref a := by
  cases x with
  | tup l => obtain ⟨a, _, e, _⟩ := r; exact ⟨a, e⟩
  | lst l => obtain ⟨a, _, e, _⟩ := r; exact ⟨a, e⟩
  | scr l => obtain ⟨a, _, e, _⟩ := r; exact ⟨a, e⟩
  | dic k l => obtain ⟨a, _, e, _⟩ := r; exact ⟨a, e⟩
  | obj t k l => obtain ⟨a, _, _, e, _⟩ := r; exact ⟨a, e⟩
  | fn t l => obtain ⟨a, _, _, _, e, _⟩ := r; exact ⟨a, e⟩
  | _ => cases h
theorem flat_one {K : PySem.W.Frag} {x y : D} {v : V} (h : flatD x = true) (r1 : Rep K cA F x v) (r2 : Rep K cA F y v) : x = y := by
  by_cases hy : flatD y = true
  · have e1 := rep_flat h r1
    have e2 := rep_flat hy r2
    rw [e1] at e2
    cases x <;> first | cases h | skip
    all_goals cases y <;> first | cases hy | skip
    all_goals first | rfl | cases e2 | skip
    all_goals rfl
  · obtain ⟨a, e⟩ := rep_ref (by simpa using hy) r2
    have e1 := rep_flat h r1
    rw [e] at e1
    have ne : ∀ z : D, V.ref a ≠ valF z := fun z q => by cases z <;> cases q
    exact absurd e1 (ne x)
/-- one value, one data -/
theorem rep_fun_n (I : Inv X pins σ H s) (sm : Same F H) (inj : ∀ s t, s ∈ ts → t ∈ ts → cA s = cA t → s = t) : ∀ n : Nat,
    (∀ (d e : D) (v : V), sizeOf d < n → Rep X.K cA F d v → Rep X.K cA F e v → tgok ts d = true → tgok ts e = true → d = e) ∧
    (∀ (l m : List D) (vs : List V), sizeOf l < n → RepL X.K cA F l vs → RepL X.K cA F m vs → tgokL ts l = true → tgokL ts m = true → l = m) := by
  intro n
  induction n with
  | zero => exact ⟨fun _ _ _ h => absurd h (Nat.not_lt_zero _), fun _ _ _ h => absurd h (Nat.not_lt_zero _)⟩
  | succ n ih =>
    obtain ⟨ih1, ih2⟩ := ih
    refine ⟨fun d e v hs r1 r2 k1 k2 => ?_, fun l m vs hs r1 r2 k1 k2 => ?_⟩
    · by_cases hd : flatD d = true
      · exact flat_one hd r1 r2
      by_cases he : flatD e = true
      · exact (flat_one he r2 r1).symm
      cases d with
      | tup l =>
        obtain ⟨a, vs, rfl, h1, _, h3⟩ := r1
        have hs2 : sizeOf l < n := by
          have := D.tup.sizeOf_spec l
          omega
        cases e with
        | tup m =>
          obtain ⟨a', us, e1, g1, _, g3⟩ := r2
          have ea : a = a' := V.ref.inj e1
          subst ea
          have eu := I.tuple_inj (sm.seqT h1) (sm.seqT g1)
          subst eu
          rw [ih2 l m vs hs2 h3 g3 k1 k2]
        | obj t ns m =>
          obtain ⟨a', dx, us, e1, g1, _, _⟩ := r2
          have ea : a = a' := V.ref.inj e1
          subst ea
          exact (tup_no_ins I (sm.seqT h1) (sm _ _ g1)).elim
        | lst _ => exact Bool.noConfusion (show false = true from k2)
        | scr _ => exact Bool.noConfusion (show false = true from k2)
        | dic _ _ => exact Bool.noConfusion (show false = true from k2)
        | fn _ _ => exact Bool.noConfusion (show false = true from k2)
        | _ => exact absurd rfl he
      | obj t ns l =>
        obtain ⟨a, dx, vs, rfl, h1, hl, h3⟩ := r1
        have hs2 : sizeOf l < n := by
          have := D.obj.sizeOf_spec t ns l
          omega
        cases e with
        | tup m =>
          obtain ⟨a', us, e1, g1, _, g3⟩ := r2
          have ea : a = a' := V.ref.inj e1
          subst ea
          exact (tup_no_ins I (sm.seqT g1) (sm _ _ h1)).elim
        | obj t' ns' m =>
          obtain ⟨a', dx', us, e1, g1, gl, g3⟩ := r2
          have ea : a = a' := V.ref.inj e1
          subst ea
          rw [h1] at g1
          obtain ⟨e2, _, e4⟩ := HO.ins.inj (Option.some.inj g1)
          have q1 : (ts.contains t && tgokL ts l) = true := k1
          have q2 : (ts.contains t' && tgokL ts m) = true := k2
          rw [Bool.and_eq_true] at q1 q2
          have e3 : t = t' := inj _ _ (List.contains_iff_mem.mp q1.1) (List.contains_iff_mem.mp q2.1) e2
          have e5 : ns = ns' := by
            have := congrArg (List.map Prod.fst) e4
            rwa [List.map_fst_zip (by omega), List.map_fst_zip (by omega)] at this
          have e6 : vs = us := by
            have := congrArg (List.map Prod.snd) e4
            rwa [List.map_snd_zip (by omega), List.map_snd_zip (by omega)] at this
          subst e3 e5 e6
          rw [ih2 l m vs hs2 h3 g3 q1.2 q2.2]
        | lst _ => exact Bool.noConfusion (show false = true from k2)
        | scr _ => exact Bool.noConfusion (show false = true from k2)
        | dic _ _ => exact Bool.noConfusion (show false = true from k2)
        | fn _ _ => exact Bool.noConfusion (show false = true from k2)
        | _ => exact absurd rfl he
      | lst _ => exact Bool.noConfusion (show false = true from k1)
      | scr _ => exact Bool.noConfusion (show false = true from k1)
      | dic _ _ => exact Bool.noConfusion (show false = true from k1)
      | fn _ _ => exact Bool.noConfusion (show false = true from k1)
      | _ => exact absurd rfl hd
    · cases l with
      | nil =>
        cases m with
        | nil => rfl
        | cons y m =>
          obtain ⟨v, r, e, _, _⟩ := r2
          have : vs = [] := r1
          rw [this] at e
          cases e
      | cons x l =>
        obtain ⟨v, r, ev, h1, h2⟩ := r1
        cases m with
        | nil =>
          have : vs = [] := r2
          rw [this] at ev
          cases ev
        | cons y m =>
          obtain ⟨v', r', e, g1, g2⟩ := r2
          rw [ev] at e
          obtain ⟨rfl, rfl⟩ := List.cons.inj e
          have q1 : (tgok ts x && tgokL ts l) = true := k1
          have q2 : (tgok ts y && tgokL ts m) = true := k2
          rw [Bool.and_eq_true] at q1 q2
          have hs1 := List.cons.sizeOf_spec x l
          rw [ih1 x y v (by omega) h1 g1 q1.1 q2.1, ih2 l m r (by omega) h2 g2 q1.2 q2.2]
theorem rep_fun (I : Inv X pins σ H s) (sm : Same F H) (inj : ∀ s t, s ∈ ts → t ∈ ts → cA s = cA t → s = t) {d e : D} {v : V} (r1 : Rep X.K cA F d v) (r2 : Rep X.K cA F e v) (k1 : tgok ts d = true) (k2 : tgok ts e = true) : d = e :=
  (rep_fun_n I sm inj (sizeOf d + 1)).1 d e v (Nat.lt_succ_self _) r1 r2 k1 k2
end
/-- the own classes' == -/
structure OwnEqs (X : Cx) (cA : CA) (k : Nat) (eqs : Nat → FD) (ts : List Nat) : Prop where
  noT : cA.T = []
  inj : ∀ s t, s ∈ ts → t ∈ ts → cA s = cA t → s = t
  nf : ∀ s t, s ∈ ts → t ∈ ts → PySem.W.notFirst X.K (cA s) (.ref (cA t)) = true
  fn : ∀ t ∈ ts, ∃ fa fd ps, FnOk X.prog X.w X.K X.mg X.base (L2.CX X.prog X.w) k fa fd ps (spD X.K cA 2 (eqs t)) ∧ PySem.W.findIn X.K (.ref (cA t)) "__eq__" = some (some (.ref fa)) ∧ PySem.W.isFn X.K (.ref fa) = true ∧ Binds X.K fd ps []
def DDat (K : PySem.W.Frag) (cA : CA) (eqs : Nat → FD) (ts : List Nat) (n : Nat) : EqvB := fun x y b H => ∃ F d e, Same F H ∧ Rep K cA F d x ∧ Rep K cA F e y ∧ tgok ts d = true ∧ tgok ts e = true ∧ eqO eqs n d e = some b
theorem mon_dat {K : PySem.W.Frag} {cA : CA} {eqs : Nat → FD} {ts : List Nat} {n : Nat} : MonB (DDat K cA eqs ts n) := fun x y b H H' ex ⟨F, d, e, sm, h⟩ => ⟨F, d, e, fun a o q => ex a o (sm a o q), h⟩
section
variable {X : Cx} {cA : CA} {k : Nat} {eqs : Nat → FD} {ts : List Nat}
/-- a body entered without objects of the store -/
theorem cf_bare {K : PySem.W.Frag} {F H : Hp} (noT : cA.T = []) (sm : Same F H) (ad : Nat → Addr) : Cf K cA ⟨H, F, ad, 0⟩ H [] ⟨F, ad⟩ :=
  ⟨sm, fun k mo h => by simp at h, fun j k h => absurd h (Nat.not_lt_zero _), Same.refl _, fun a o h _ _ => h, fun a h => .inl h, fun k h => absurd h (Nat.not_lt_zero _), fun k _ h => absurd h (Nat.not_lt_zero _), Nat.le_refl _, tabs_nil noT, ft_nil noT⟩
theorem rcB_own (O : OwnEqs X cA k eqs ts) {A : Around} {pins : List (Addr × Obj)} {s : Shared} {σ : St} {H F : Hp} {t t' : Nat} {ns ns' : List Str} {l l' : List D} {x y : V} {b : Bool} {u v : Value} (sb : Sub X k A) (I : Inv X pins σ H s) (rx : RelV x u) (ry : RelV y v)
    (sm : Same F H) (r1 : Rep X.K cA F (.obj t ns l) x) (r2 : Rep X.K cA F (.obj t' ns' l') y) (k1 : t ∈ ts) (k2 : t' ∈ ts) (e : eqs t [.d (.obj t ns l), .d (.obj t' ns' l')] [] = .ok (.d (.bl b)) []) :
    wpAny (model X.prog X.w) A (richCompare .Eq u v) (fun r s' => r = .bool b ∧ ∃ H', Inv X pins σ H' s' ∧ Ext H H') X.xe s := by
  have q1 := r1
  have q2 := r2
  obtain ⟨a, dx, vs, rfl, h1, _, _⟩ := q1
  obtain ⟨c, dy, us, rfl, h2, _, _⟩ := q2
  cases rx
  cases ry
  obtain ⟨fa, fd, ps, FO, hs, hf, hb⟩ := O.fn t k1
  obtain ⟨mA, J, _⟩ := ins_get I.hok (sm _ _ h1)
  obtain ⟨mB, J', _⟩ := ins_get I.hok (sm _ _ h2)
  obtain ⟨od, J, _⟩ := J.look
  obtain ⟨od', J', _⟩ := J'.look
  obtain ⟨m, hF⟩ := I.fr
  have spec : spD X.K cA 2 (eqs t) [.ref a, .ref c] H (fun v H' => v = .bl b ∧ Ext H H') never := by
    refine ⟨rfl, ⟨H, F, fun _ => 0, 0⟩, [], ⟨F, fun _ => 0⟩, [.d (.obj t ns l), .d (.obj t' ns' l')], cf_bare O.noT sm _, .cons r1 (.cons r2 .nil), ?_⟩
    rw [e]
    exact fun H' g' c' l' v rv => ⟨rv, fun p o hp => c'.fr p o hp (fun k hk => absurd hk (Nat.not_lt_zero _)) fun p hp => by rw [O.noT] at hp; cases hp⟩
  have len := FO.len _ _ _ _ spec
  have env : Env0 X.prog X.w X.K X.mg X.base A X.stack s H := by
    have q := I.env0
    exact ⟨by rw [sb.fr]; exact q.frames, q.mod, q.bs, q.bsz, q.funs, q.frf, q.hok, q.bare⟩
  have bind : BindsTo s fd ⟨[.ref a, .ref c], []⟩ (ps.zip [.ref a, .ref c]) := by
    have q := hb s [.ref a, .ref c] I.kIn (by simpa using len)
    simpa using q
  refine PySem.W.cmp_K (op := .Eq) (tb := .ref (cA t')) sb.room.units0 hF I.ok.mod.kin J J'.type (O.nf _ _ k1 k2) hs hf (wpAny_call (codeAny_mono (FO.run A X.stack s H ⟨[.ref a, .ref c], []⟩ [.ref a, .ref c] [.ref a, .ref c] _ never sb.room env bind (.cons rfl (.cons rfl .nil)) spec) fun r s' hq => ?_))
  match r, hq with
  | .error z, hq => exact passNever (σ := σ) pins H s z s' I hq
  | .ok (.ret w), hq =>
    obtain ⟨z, H', I', rz, ez, ex⟩ := I.after hq
    subst ez
    cases rz
    exact ⟨rfl, H', I', ex⟩
  | .ok .next, hq => exact False.elim hq
  | .ok .brk, hq => exact False.elim hq
  | .ok .cont, hq => exact False.elim hq
theorem prsB_dat {K : PySem.W.Frag} {n : Nat} {F H : Hp} (sm : Same F H) : ∀ {l m : List D} {xs ys : List V} {b : Bool}, RepL K cA F l xs → RepL K cA F m ys → tgokL ts l = true → tgokL ts m = true → eqOL (eqO eqs n) l m = some b → PrsB (DDat K cA eqs ts n) H xs ys b
  | [], [], _, _, b, r1, r2, _, _, e => by
    cases (show _ = [] from r1)
    cases (show _ = [] from r2)
    cases e
    exact .nil
  | x :: l, [], _, _, b, r1, r2, _, _, e => by
    obtain ⟨v, r, rfl, _, _⟩ := r1
    cases (show _ = [] from r2)
    cases e
    exact .left
  | [], y :: m, _, _, b, r1, r2, _, _, e => by
    obtain ⟨v, r, rfl, _, _⟩ := r2
    cases (show _ = [] from r1)
    cases e
    exact .right
  | x :: l, y :: m, _, _, b, r1, r2, k1, k2, e => by
    obtain ⟨v, r, rfl, h1, h2⟩ := r1
    obtain ⟨v', r', rfl, g1, g2⟩ := r2
    have q1 : (tgok ts x && tgokL ts l) = true := k1
    have q2 : (tgok ts y && tgokL ts m) = true := k2
    rw [Bool.and_eq_true] at q1 q2
    unfold eqOL at e
    cases e1 : eqO eqs n x y with
    | none => simp [e1] at e
    | some c =>
      cases c with
      | true =>
        simp only [e1] at e
        exact .go ⟨F, x, y, sm, h1, g1, q1.1, q2.1, e1⟩ (prsB_dat sm h2 g2 q1.2 q2.2 e)
      | false =>
        simp only [e1] at e
        cases (Option.some.inj e)
        exact .stop ⟨F, x, y, sm, h1, g1, q1.1, q2.1, e1⟩
/-- == within a tuple, and of two such things themselves -/
theorem eqB_dat (O : OwnEqs X cA k eqs ts) : ∀ n : Nat, EqB X (k + n) (DDat X.K cA eqs ts n) := by
  have flat : ∀ (n : Nat) (A : Around) (pins : List (Addr × Obj)) (s : Shared) (σ : St) (H F : Hp) (d e : D) (x y : V) (u v : Value), Inv X pins σ H s → RelV x u → RelV y v → Same F H → Rep X.K cA F d x → Rep X.K cA F e y → (flatD d && flatD e) = true →
      wpAny (model X.prog X.w) A (eqBool u v) (fun r s' => r = eqF d e ∧ ∃ H', Inv X pins σ H' s' ∧ Ext H H') X.xe s := by
    intro n A pins s σ H F d e x y u v I rx ry sm r1 r2 hf
    rw [Bool.and_eq_true] at hf
    have q := eqAt_V (A := A) (s := s) rx ry (flat_rep hf.1 r1) (flat_rep hf.2 r2)
    rw [eqF_rep hf.2 hf.1 r2 r1] at q
    exact q X.prog X.w X.xe _ ⟨rfl, H, I, Ext.rfl'⟩
  intro n
  induction n with
  | zero =>
    intro A pins s σ H x y b u v sb I rx ry ⟨F, d, e, sm, r1, r2, k1, k2, h⟩
    unfold eqO at h
    by_cases hf : (flatD d && flatD e) = true
    · rw [if_pos hf] at h
      rw [← Option.some.inj h]
      exact flat 0 A pins s σ H F d e x y u v I rx ry sm r1 r2 hf
    · rw [if_neg hf] at h
      cases h
  | succ n ih =>
    intro A pins s σ H x y b u v sb I rx ry ⟨F, d, e, sm, r1, r2, k1, k2, h⟩
    have h0 := h
    unfold eqO at h
    by_cases hf : (flatD d && flatD e) = true
    · rw [if_pos hf] at h
      rw [← Option.some.inj h]
      exact flat 0 A pins s σ H F d e x y u v I rx ry sm r1 r2 hf
    · rw [if_neg hf] at h
      have same : ∀ a, x = .ref a → y = .ref a → b = true := fun a ex ey => by
        have : d = e := rep_fun I sm O.inj r1 (by rw [ey] at r2; rw [ex]; exact r2) k1 k2
        subst this
        exact eqO_refl (n + 1) h0
      have fin : ∀ (a c : Addr), x = .ref a → y = .ref c → wpAny (model X.prog X.w) A (richCompare .Eq u v) (fun r s' => r = .bool b ∧ ∃ H', Inv X pins σ H' s' ∧ Ext H H') X.xe s →
          wpAny (model X.prog X.w) A (eqBool u v) (fun r s' => r = b ∧ ∃ H', Inv X pins σ H' s' ∧ Ext H H') X.xe s := fun a c ex ey hw => by
        subst ex ey
        cases rx
        cases ry
        by_cases hac : a = c
        · subst hac
          rw [same a rfl rfl]
          exact SeqAt.EqAt.same (A := A) (s := s) (.ref a) X.prog X.w X.xe _ ⟨rfl, H, I, Ext.rfl'⟩
        · refine GQ.eqBool_refG hac (wpAny_mono hw (fun r s' q => ?_) fun _ _ z => z)
          obtain ⟨rfl, q⟩ := q
          exact ⟨b, rfl, rfl, q⟩
      cases d with
      | tup l =>
        cases e with
        | tup m =>
          obtain ⟨a, vs, ex, g1, _, g3⟩ := r1
          obtain ⟨c, us, ey, j1, _, j3⟩ := r2
          refine fin a c ex ey (rcB_tup mon_dat ih A pins s σ H x y b u v sb I rx ry ⟨a, c, vs, us, ex, ey, sm.seqT g1, sm.seqT j1, prsB_dat sm g3 j3 k1 k2 h⟩)
        | _ => cases h
      | obj t ns l =>
        cases e with
        | obj t' ns' l' =>
          have q1 := r1
          have q2 := r2
          obtain ⟨a, _, _, ex, _⟩ := q1
          obtain ⟨c, _, _, ey, _⟩ := q2
          have g1 : (ts.contains t && tgokL ts l) = true := k1
          have g2 : (ts.contains t' && tgokL ts l') = true := k2
          rw [Bool.and_eq_true] at g1 g2
          simp only [eqObj] at h
          split at h
          · rename_i bb he
            split at h
            · cases h
            · cases (Option.some.inj h)
              exact fin a c ex ey (rcB_own O (sb.mono (by omega)) I rx ry sm r1 r2 (List.contains_iff_mem.mp g1.1) (List.contains_iff_mem.mp g2.1) he)
          · cases h
        | _ => cases h
      | _ => cases e <;> cases h
/-- what the operator asks -/
def rDat (K : PySem.W.Frag) (cA : CA) (eqs : Nat → FD) (ts : List Nat) (n : Nat) : R2 := fun x y H Q => ∃ F d e b, Same F H ∧ Rep K cA F d x ∧ Rep K cA F e y ∧ tgok ts d = true ∧ tgok ts e = true ∧ (flatD d && flatD e) = false ∧ eqO eqs n d e = some b ∧ ∀ H', Ext H H' → Q (.bl b) H'
theorem op_dat {n : Nat} (O : OwnEqs X cA k eqs ts) (hr : Room (k + n) X.A) : OpR X (compareOp .Eq) (rDat X.K cA eqs ts n) := by
  intro pins s σ H x y v u Q I rx ry ⟨F, d, e, b, sm, r1, r2, k1, k2, hf, h, q⟩
  have sb : Sub X (k + n) X.A := ⟨hr, rfl⟩
  have fin : wpAny (model X.prog X.w) X.A (richCompare .Eq v u) (fun r s' => r = .bool b ∧ ∃ H', Inv X pins σ H' s' ∧ Ext H H') X.xe s → wpAny (model X.prog X.w) X.A (compareOp .Eq v u) (EP X pins σ Q) X.xe s := fun hw => by
    show wpAny (model X.prog X.w) X.A (richCompare .Eq v u) (EP X pins σ Q) X.xe s
    refine wpAny_mono hw (fun r s' z => ?_) fun _ _ z => z
    obtain ⟨rfl, H', I', ex⟩ := z
    exact ⟨.bl b, H', I', rfl, q H' ex⟩
  cases n with
  | zero =>
    unfold eqO at h
    rw [hf] at h
    cases h
  | succ n =>
    unfold eqO at h
    rw [hf] at h
    simp only [Bool.false_eq_true, if_false] at h
    cases d with
    | tup l =>
      cases e with
      | tup m =>
        obtain ⟨a, vs, ex, g1, _, g3⟩ := r1
        obtain ⟨c, us, ey, j1, _, j3⟩ := r2
        exact fin (rcB_tup mon_dat (eqB_dat O n) X.A pins s σ H x y b v u sb I rx ry ⟨a, c, vs, us, ex, ey, sm.seqT g1, sm.seqT j1, prsB_dat sm g3 j3 k1 k2 h⟩)
      | _ => cases h
    | obj t ns l =>
      cases e with
      | obj t' ns' l' =>
        have g1 : (ts.contains t && tgokL ts l) = true := k1
        have g2 : (ts.contains t' && tgokL ts l') = true := k2
        rw [Bool.and_eq_true] at g1 g2
        simp only [eqObj] at h
        split at h
        · rename_i bb he
          split at h
          · cases h
          · cases (Option.some.inj h)
            exact fin (rcB_own O (sb.mono (by omega)) I rx ry sm r1 r2 (List.contains_iff_mem.mp g1.1) (List.contains_iff_mem.mp g2.1) he)
        · cases h
      | _ => cases h
    | _ => cases e <;> cases h
end
/-- new objects that nobody here knows -/
theorem Cf.ext {K : PySem.W.Frag} {cA : CA} {z : Z0} {H H' : Hp} {M : Sto} {g : Gh} (c : Cf K cA z H M g) (ex : Ext H H') : Cf K cA z H' M g :=
  ⟨fun a o e => ex _ _ (c.sub a o e), fun k mo e => by
    have hk : k < M.length := (List.getElem?_eq_some_iff.mp e).1
    obtain ⟨o, q⟩ := c.st hk
    exact (c.sto k mo e).keep Le.refl (by rw [q]; exact ex _ _ q) (fun f => f), c.inj, c.f0, fun a o e h h9 => ex _ _ (c.fr a o e h h9), c.fs, c.ad, c.nw, c.ln, c.tb.ext ex, c.ft⟩
/-- == of data with own classes -/
noncomputable def dEqO (eqs : Nat → FD) (ts : List Nat) (n : Nat) (x y : D) : Option D := if (tgok ts x && tgok ts y && !(flatD x && flatD y)) = true then (eqO eqs n x y).map .bl else none
theorem ok_dat {K : PySem.W.Frag} {cA : CA} {eqs : Nat → FD} {ts : List Nat} {n : Nat} : Ok2 K cA (pu2 (dEqO eqs ts n)) (rDat K cA eqs ts n) := by
  intro z g H M E wx wy x y Q c rx ry q
  cases ea : nd M wx with
  | none => simp [pu2, ea, Res] at q
  | some d =>
    cases eb : nd M wy with
    | none => simp [pu2, ea, eb, Res] at q
    | some e =>
      simp only [pu2, ea, eb, Option.bind_some, dEqO] at q
      by_cases hk : (tgok ts d && tgok ts e && !(flatD d && flatD e)) = true
      · rw [if_pos hk] at q
        rw [Bool.and_eq_true, Bool.and_eq_true, Bool.not_eq_true'] at hk
        cases ec : eqO eqs n d e with
        | none => simp [ec, Res] at q
        | some b =>
          simp only [ec, Option.map_some, rsd_some] at q
          refine ⟨g.F, d, e, b, c.sub, nd_rep c rx ea, nd_rep c ry eb, hk.1.1, hk.1.2, hk.2, ec, fun H' ex => ?_⟩
          exact q H' g (c.ext ex) Le.refl (.bl b) rfl
      · rw [if_neg hk] at q
        exact q.elim
end DL

/-! Layer D: != of an own class that has == alone. -/
namespace DL
open PySem PySem.Spec PyProof.Rows L2
section
open PySem.W
theorem ne_bind (self : Value) : bindSpecial (.builtin "object.__ne__") self = pure (.builtin "object.__ne__", [self]) :=
  (Slot.of (T := "object") (name := "__ne__") (owner := "object") (n := "__ne__") (by rw [typeLookup_type, builtinLookup_eq_fast]; kernel_rfl) (by decide +kernel) (by decide +kernel) (by decide +kernel)
    (.inl (by decide +kernel)) (by rw [isSubtype_type]; kernel_rfl)).bind self
variable {prog : Program} {w : World} {A : Around} {E : Value → Shared → Prop} {s : Shared} {K : Frag} {x y C L f : Addr} {h₀ : Heap} {m : Str → Option Value} {ox : Obj} {od : Option Obj}
theorem objNe_K (X : K.In s.heap) (I : InstAt s.heap x ox C od) (he : findIn K (.ref C) "__eq__" = some (some (.ref f))) (hf : isFn K (.ref f) = true) (hu : A.units < cLine) {Q : Fin → Shared → Prop}
    (hcall : wpAny (model prog w) A (call (.ref f) [.ref x, .ref y]) (fun v s' => ∃ b, v = .bool b ∧ Q (.done (.ret (.bool (!b)))) s') E s) :
    wpAny (model prog w) A (Builtin.«object.__ne__» ⟨[.ref x, .ref y], []⟩) Q E s := by
  unfold Builtin.«object.__ne__»
  repeat (first
    | with_reducible refine wpAny_cRoomFor hu ?_
    | (refine wpAny_bind (m := callSpecialIfBound? (.ref x) (Str.ofString "__eq__") [.ref y])
        (ifBound_K X I he hf (wpAny_mono hcall (fun r s' hr => by
          obtain ⟨b, rfl, hq⟩ := hr
          repeat (first | exact hq | exact wpAny_pure hq | exact wpAny_truthy_bool hq | (refine wpAny_bind (m := truthy (.bool _)) (wpAny_truthy_bool ?_)) | wp_step)) fun _ _ e => e)))
    | wp_step)
theorem ne_K {Q : Value → Shared → Prop} (hu : A.units + 1 < cLine) (FF : PyProof.Rows.Fr h₀ L s.heap m) (X₀ : K.In h₀) (I : InstAt s.heap x ox C od) (hb : Looks (model prog w) s.heap (typeOf (.ref y)) (.ref C))
    (hne : findIn K (.ref C) "__ne__" = some (some (.builtin "object.__ne__"))) (he : findIn K (.ref C) "__eq__" = some (some (.ref f))) (hf : isFn K (.ref f) = true) (hm : mroIn K C (.type "object") = some true)
    (h : wpAny (model prog w) A.in1 (call (.ref f) [.ref x, .ref y]) (fun v s' => ∃ b, v = .bool b ∧ Q (.bool (!b)) s') E s) : wpAny (model prog w) A (richCompare .NotEq (.ref x) (.ref y)) Q E s := by
  have X := X₀.keeps FF.keep
  have hcl : wpAny (model prog w) A (call (.builtin "object.__ne__") [.ref x, .ref y]) (fun v s' => ∃ b, v = .bool b ∧ Q (.bool b) s') E s := by
    refine wpAny_call (codeAny_call_builtin (by decide +kernel) PySem.F.cmpEntry_ne (check_slot PySem.F.cmpKind_ne PySem.F.cmpSplit_ne (I.type.andThen (looks_subIn X hm)) (PySem.F.cmpArgs_ne _ _) (objNe_K (A := A.in1) X I he hf hu (wpAny_mono h (fun v s' hv => ?_) fun _ _ e => e))))
    obtain ⟨b, rfl, hq⟩ := hv
    first | exact ⟨b, rfl, _, rfl, hq⟩ | exact ⟨b, rfl, wpAny_pure ⟨_, rfl, hq⟩⟩
  have one : wpAny (model prog w) A (tryCompare (.ref x) (cmpInfo .NotEq).2.1 (.ref y)) (fun r s' => ∃ v, r = some v ∧ Q v s') E s := by
    rw [cmpInfo_NotEq]
    unfold tryCompare
    have fin : wpAny (model prog w) A (call (.builtin "object.__ne__") ([.ref x] ++ [.ref y]) >>= fun v => pure (some v)) (fun r s' => ∃ b, r = some (.bool b) ∧ Q (.bool b) s') E s :=
      wpAny_bind (wpAny_mono hcl (fun v s' h' => by obtain ⟨b, rfl, q⟩ := h'; exact wpAny_pure ⟨b, rfl, q⟩) fun _ _ h' => h')
    refine wpAny_bind (wpAny_mono (Q := fun r s' => ∃ b, r = some (.bool b) ∧ Q (.bool b) s') ?_ (fun r s' hv => ?_) fun _ _ e => e)
    · simp only [callSpecialIfBound?, bindSpecialIfBound?]
      refine wpAny_holding (wpAny_bind (wpAny_bind (wpAny_bind (I.type.here ((looks_findIn X hne).here ?_)))))
      simp only [ne_bind]
      refine wpAny_bind (wpAny_askSetting (wpAny_ite ?_))
      split
      · exact wpAny_bind (wpAny_pure (wpAny_pure fin))
      · exact wpAny_tryCatch (wpAny_bind (wpAny_pure (wpAny_pure fin)))
    · obtain ⟨b, rfl, q⟩ := hv
      exact wpAny_pure ⟨_, rfl, q⟩
  unfold richCompare
  simp only [oneThing_ref]
  refine wpAny_holding (wpAny_bind (wpAny_cRoomFor (Nat.lt_of_succ_lt hu) ?_))
  refine wpAny_bind (I.type.here (wpAny_bind (hb.here ?_)))
  split
  · rename_i q
    simp at q
  · refine wpAny_bind (wpAny_pure ?_)
    simp only [Bool.false_eq_true, if_false]
    refine wpAny_bind (wpAny_mono one (fun r s' z => ?_) fun _ _ e => e)
    obtain ⟨v, rfl, hq⟩ := z
    exact wpAny_pure hq
end
section
variable {X : Cx} {cA : CA} {k n t : Nat} {fa C : Addr} {fd : FuncData} {ps : List Str} {f c : FD} {sp : Sp}
def rOwnNe (C : Addr) (sp : Sp) : R2 := fun x y H Q => (∃ a dx fs, x = .ref a ∧ H a = some (.ins C dx fs)) ∧ (∃ b dy gs, y = .ref b ∧ H b = some (.ins C dy gs)) ∧ sp [x, y] H (fun v H' => ∃ b, v = .bl b ∧ Q (.bl (!b)) H') never
theorem op_ownNe (F : FnOk X.prog X.w X.K X.mg X.base (L2.CX X.prog X.w) k fa fd ps sp) (hr : Room (k + 1) X.A) (hb : Binds X.K fd ps []) (hs : PySem.W.findIn X.K (.ref C) "__eq__" = some (some (.ref fa))) (hf : PySem.W.isFn X.K (.ref fa) = true)
    (hne : PySem.W.findIn X.K (.ref C) "__ne__" = some (some (.builtin "object.__ne__"))) (hm : PySem.W.mroIn X.K C (.type "object") = some true) : OpR X (compareOp .NotEq) (rOwnNe C sp) := by
  intro pins s σ H x y v u Q I rx ry h
  obtain ⟨⟨a, dx, fs, rfl, ha⟩, ⟨b, dy, gs, rfl, hb'⟩, hsp⟩ := h
  cases rx
  cases ry
  obtain ⟨mA, J, _⟩ := ins_get I.hok ha
  obtain ⟨mB, J', _⟩ := ins_get I.hok hb'
  obtain ⟨od, J, _⟩ := J.look
  obtain ⟨od', J', _⟩ := J'.look
  obtain ⟨m, hF⟩ := I.fr
  have sb : Sub X k X.A.in1 := (⟨hr, rfl⟩ : Sub X (k + 1) X.A).in1
  have len := F.len _ _ _ _ hsp
  have env : Env0 X.prog X.w X.K X.mg X.base X.A.in1 X.stack s H := by
    have q := I.env0
    exact ⟨by rw [sb.fr]; exact q.frames, q.mod, q.bs, q.bsz, q.funs, q.frf, q.hok, q.bare⟩
  have bind : BindsTo s fd ⟨[.ref a, .ref b], []⟩ (ps.zip [.ref a, .ref b]) := by
    have q := hb s [.ref a, .ref b] I.kIn (by simpa using len)
    simpa using q
  have hu : X.A.units + 1 < cLine := by
    have := hr.un
    omega
  show wpAny (model X.prog X.w) X.A (richCompare .NotEq (.ref a) (.ref b)) _ _ _
  refine ne_K hu hF I.ok.mod.kin J J'.type hne hs hf hm (wpAny_call (codeAny_mono (F.run X.A.in1 X.stack s H ⟨[.ref a, .ref b], []⟩ [.ref a, .ref b] [.ref a, .ref b] _ never sb.room env bind (.cons rfl (.cons rfl .nil)) hsp) fun r s' hq => ?_))
  match r, hq with
  | .error z, hq => exact passNever (σ := σ) pins H s z s' I hq
  | .ok (.ret w), hq =>
    obtain ⟨z, H', I', rz, d, ez, q⟩ := I.after hq
    subst ez
    cases rz
    exact ⟨d, rfl, .bl (!d), H', I', rfl, q⟩
  | .ok .next, hq => exact False.elim hq
  | .ok .brk, hq => exact False.elim hq
  | .ok .cont, hq => exact False.elim hq
def ownNe (t : Nat) (c : FD) (w u : Wv) (M : Sto) : Rs Wv := (ownw t c w u M).bind fun r M' => match r with
  | .d (.bl b) => .ok (.d (.bl (!b))) M'
  | _ => .no
theorem ok_ownNe (co : CallOk X.K cA n f c) : Ok2 X.K cA (ownNe t c) (rOwnNe (cA t) (spD X.K cA n f)) := by
  intro z g H M E wx wy x y Q cc rx ry q
  unfold ownNe ownw at q
  by_cases hi : insw t "" wx M = true ∧ insw t "" wy M = true
  · rw [if_pos hi] at q
    obtain ⟨a, dx, fs, e1, e2, _⟩ := insw_at cc rx hi.1
    obtain ⟨b, dy, gs, e3, e4, _⟩ := insw_at cc ry hi.2
    refine ⟨⟨a, dx, fs, e1, e2⟩, ⟨b, dy, gs, e3, e4⟩, co z H M g [wx, wy] [x, y] never (fun v H' => ∃ b, v = .bl b ∧ Q (.bl (!b)) H') cc (.cons rx (.cons ry .nil)) ?_⟩
    cases hc : c [wx, wy] M with
    | no => rw [hc] at q; exact q.elim
    | ex e M' => rw [hc] at q; exact q.elim
    | ok w M' =>
      rw [hc] at q
      match w, q with
      | .d (.bl b), q => exact fun H' g' c' l' v rv => ⟨b, rv, q H' g' c' l' _ rfl⟩
      | .d .non, q => exact q.elim
      | .d (.int _), q => exact q.elim
      | .d (.str _), q => exact q.elim
      | .d (.tup _), q => exact q.elim
      | .d (.lst _), q => exact q.elim
      | .d (.scr _), q => exact q.elim
      | .d (.dic _ _), q => exact q.elim
      | .d (.obj _ _ _), q => exact q.elim
      | .m _, q => exact q.elim
  · rw [if_neg hi] at q
    exact q.elim
end
end DL

/-! Layer D: own exception classes over ValueError: how one is made (super().__init__ within its own __init__). -/
namespace DL
open PySem PySem.Spec PyProof.Rows L2 NdefX

/-! ### ValueError.__init__ bound to a made exception -/
section
variable {prog : Program} {w : World} {A : Around} {E : Value → Shared → Prop} {h : Heap} {g : Array GenState} {d : Drawn} {t : Nat} {os : OsState}
variable {nm q : Str} {C N : Addr} {bs bm : List Value} {hdct : Bool} {sn : List Str} {sub : List Value} {ab : Bool} {col : Option Bool} {dd : Option Addr} {k0 k1 k2 k3 k5 : Option Value}
abbrev mwV (x : Addr) : Obj := PySem.W.kxs_mw "ValueError.__init__" x
theorem mw_run {u e t0 : Addr} {us : List Value} {Q : Value → Shared → Prop} (hC : h.get? C = some (excClassObj nm q C N bs bm hdct sn sub ab col dd k0 k1 k2 k3 k5 "ValueError.__new__")) (he : h.get? e = some (HandSPX.excO C t0)) (hu : h.get? u = some (mwV e)) (hz : us.length ≤ sizeLine)
    (hq : ∀ h' t1, (∀ b o, b ≠ e → h.get? b = some o → h'.get? b = some o) → h'.get? e = some (HandSPX.excO C t1) → Q .none ⟨h', g, d, t, os⟩) : wpAny (model prog w) A (call (.ref u) us) Q E ⟨h, g, d, t, os⟩ := by
  refine wpAny_call (codeAny_of_tree (show wpAny _ A.in1 (callAny (.ref u) ⟨us, []⟩) _ _ _ from ?_))
  have e1 : (Value.type "method-wrapper" == Value.type "method" || Value.type "method-wrapper" == Value.type "builtin_function_or_method" || Value.type "method-wrapper" == Value.type "method-wrapper") = true := by decide
  simp only [callAny]
  refine wpAny_bind (wpAny_load hu ?_)
  simp only [mwV, PySem.W.kxs_mw, e1, if_true]
  refine PySem.W.KFB.if_so (by decide) (wpAny_bind (PySem.W.check_bound_init F.excBase_ValueError.toExcCallFacts hC he rfl (wpAny_bind (wpAny_pure (wpAny_pure ?_)))))
  refine ⟨Code.quiet_builtin _ (by decide +kernel), codeAny_builtin F.excBase_ValueError.initEntry ?_⟩
  rw [Around.under_plainId F.excBase_ValueError.init.plain _]
  wp_walk
  refine hq _ h.objs.size (fun b o hb ho => ?_) ?_
  · exact (Heap.get?_update_other _ _ (Ne.symm hb)).trans (Heap.get?_push_of_some _ ho)
  · rw [Heap.get?_update_self _ (Heap.get?_push_of_some _ he) rfl] <;> rfl
end

/-- what the written part says of an own exception class at C and its __init__ at f (words F, code at F.c, the cell of __class__ at cc) -/
structure XFn (K : PySem.W.Frag) (P : Program) (mg : Str → Option Value) (C f cc : Addr) (F : NF) (fd : FuncData) : Prop where
  oex : OexC K C
  lk : ∃ oc od kV doc pm an ct osl, fd = PySem.W.fnX F.name F.qual F.params F.body F.scope F.cl .none kV doc pm an (.ref F.c) ct ∧ K.lookup f = some ⟨oc, od, .func fd, osl⟩
  cl : F.cl = [(("__class__" : Str), cc)]
  code : PySem.W.codeIn K (.ref F.c) F.qual = true
  file : ∃ ccl cdd vs ccs fl tf, K.lookup F.c = some ⟨ccl, cdd, .fields vs, ccs⟩ ∧ vs[2]? = some (.str fl tf) ∧ ((P.main.file : Str) == fl) = true
  cell : ∃ c1 c2 c3, K.lookup cc = some ⟨c1, c2, .cell (some (.ref C)), c3⟩
  sub : PySem.W.mroIn K C (.ref C) = some true
  ini : PySem.W.ks_superIn K C C "__init__" = some (some (.builtin "ValueError.__init__"))
  subV : PySem.W.subIn K (.ref C) (.type "ValueError") = some true
  sup : mg "super" = none
  tp : PySem.W.nsIn K cStatics "thirdparty.any" = some none
  top : (P.main.scope.names.lookup ("super" : Str)).isSome = false

theorem ne_cls {K : PySem.W.Frag} {h : Heap} {x C : Addr} {ox : Obj} {cd : ClassData} (X : K.In h) (I : PySem.W.InstAt h x ox C none) (hc : PySem.W.clsIn K C = some cd) : x ≠ C := PySem.W.ks_ne X I hc

section
variable {X : Cx} {K : PySem.W.Frag} {C f cc a : Addr} {F : NF} {fd : FuncData} {pins : List (Addr × Obj)} {σ : L2.St} {H : Hp} {s : Shared} {E : Value → Shared → Prop}
theorem clsIn_oex (T : OexC K C) : ∃ cd, PySem.W.clsIn K C = some cd := by
  obtain ⟨nm, q, N, bs, bm, sn, sub, ab, col, dd, k0, k1, k2, k3, k5, hC, _⟩ := T.cls
  unfold PySem.W.clsIn
  rw [hC]
  exact ⟨_, rfl⟩
/-- super() within __init__: the super object is new, nothing else is -/
theorem super_at {L : Addr} {arg : Str} {j : Nat} {p0 p1 : Pos} {whole : Sem Value} {body : List Stmt} {Q : Value → Shared → Prop} {ar : Arg} (W : XFn X.K X.prog X.mg C f cc F fd) (hE : X.env = envF F f L) (I : Inv X pins σ H s)
    (hp : (F.params.posonlyargs ++ F.params.args).head? = some ar) (hj : X.N[j]? = some ar.arg) (hs : σ[j]? = some (some (.ref a))) (ea : H a = some (exo a C none))
    (hks : F.scope.names.lookup ("super" : Str) = some .globalImplicit) (hkc : F.scope.names.lookup ("__class__" : Str) = some .free) (hka : F.scope.names.lookup ar.arg = some .local)
    (h : ∀ h', (∀ b o, s.heap.get? b = some o → h'.get? b = some o) → h'.get? s.heap.objs.size = some (PySem.W.ks_superObj C a C) → Q (.ref s.heap.objs.size) { s with heap := h' }) :
    PySem.wpAt (model X.prog X.w) X.A (.func body X.env) (attributeBase (.Call (.Name "super" p0) [] [] p1) "__init__" X.env whole) Q E s := by
  obtain ⟨oc, od, kV, doc, pm, an, ct, osl, e0, lk⟩ := W.lk
  obtain ⟨ccl, cdd, vs, ccs, fl, tf, lc, l2, l3⟩ := W.file
  obtain ⟨c1, c2, c3, lcell⟩ := W.cell
  obtain ⟨cd, hcd⟩ := clsIn_oex W.oex
  obtain ⟨nm, q, N, bs, bm, sn, sub, ab, col, dd, k0, k1, k2, k3, k5, hC, hbm⟩ := W.oex.cls
  obtain ⟨t1, ho⟩ := exo_at I.hok ea
  have KX := I.kIn
  obtain ⟨m, hn, hl⟩ := id I.loc
  have hkind := I.ok.kind
  obtain ⟨u, ru, lo⟩ := hl j ar.arg (.ref a) hj hs (.inl (by rw [hE]; exact hka))
  obtain rfl : u = Value.ref a := ru
  have hm : m ar.arg = some (.ref a) := by
    rcases lo with ⟨_, z⟩ | ⟨z, _⟩
    · exact z
    · have z' : F.scope.names.lookup ar.arg = some .cell ∨ F.scope.names.lookup ar.arg = some .free := by
        rw [hE] at z
        exact z
      rcases z' with z' | z' <;> rw [hka] at z' <;> cases z'
  obtain ⟨mb, hb1, hb2⟩ := I.mod.blt
  have hcl : X.env.cells = [(("__class__" : Str), cc)] := by rw [hE]; exact W.cl
  have hkE : ∀ y, X.env.kindOf y = F.scope.names.lookup y := fun y => by rw [hE] <;> rfl
  refine ks_wpAt_super_base (env := X.env) (f := f) (cc := F.c) (fd := fd) (ar := ar) ((hkE _).trans hks) ((hkE _).trans hkc) (by decide) (by rw [hE]) (KX _ _ lk) rfl (by rw [e0]; exact hp) (by rw [hE]) (KX _ _ lc) rfl l2 l3 W.top ?_
  refine PySem.W.ks_loadName_global hkind ((hkE _).trans hks) (Calls.loadGlobal_builtin (by rw [I.ok.glob]; exact I.mod.glob.keeps I.bk) W.sup (by rw [I.ok.blt]; exact hb1.keeps I.bk) ((hb2 _ (by decide)).trans (by decide +kernel)) ⟨rfl, ?_⟩)
  refine wpAny_loadName_free hkind ((hkE _).trans hkc) (by rw [hcl]; rfl) ⟨_, KX _ _ lcell, rfl⟩ ?_
  refine wpAny_loadName_local hkind ((hkE _).trans hka) hn hm ?_
  obtain ⟨hp0, g0, d0, tk0, os0⟩ := s
  have hD : hp0.get? C = some _ := KX _ _ hC
  refine ks_wpAny_isType_cls hD rfl ⟨rfl, ?_⟩
  exact ks_wpAny_call_super hD rfl ho rfl (fun c e => by cases e) (PySem.W.looks_mroIn KX W.sub) fun h' e k => h h' k e
end
/-- an own exception's __init__: super().__init__(e), then the rest -/
theorem xinit_ok {P : Program} {w : World} {K : PySem.W.Frag} {mg : Str → Option Value} {base : Heap} {N ps : List Str} {F : NF} {f C cc : Addr} {fd : FuncData} {k : Nat} {sp : Sp} {e : Expr} {rest : List Stmt} {ar : Arg} {p0 p1 p2 p3 p4 : Pos} {pl : Sem Bool} (W : XFn K P mg C f cc F fd)
    (S : NScope N ps ["__class__"] F.scope) (hp : (F.params.posonlyargs ++ F.params.args).head? = some ar) (hj : N[0]? = some ar.arg)
    (hks : F.scope.names.lookup ("super" : Str) = some .globalImplicit) (hka : F.scope.names.lookup ar.arg = some .local) (len : ∀ vs H Q E, sp vs H Q E → vs.length = ps.length)
    (hbody : F.body = .Expr (.Call (.Attribute (.Call (.Name "super" p0) [] [] p1) "__init__" p2) [e] [] p3) p4 :: rest)
    (hrun : ∀ (A : Around) (outer : List Env) (s : Shared) (H : Hp) (vs : List V) (Q : VK) (E : XK), sp vs H Q E → ∃ a vr ta t, vs = .ref a :: vr ∧ H a = some (exo a C none) ∧ PA (ncx (L2.CX P w) P w K mg base N F f A outer s H E) [e] ta ∧ PSs (ncx (L2.CX P w) P w K mg base N F f A outer s H E) rest t ∧
      ta (startF N vs [none]) H fun ws H1 => ws.length ≤ sizeLine ∧ H1 a = some (exo a C none) ∧ t { nx := fun _ H' => Q .non H', rt := Q } (startF N vs [none]) H1)
    (he : ∀ L, eval (.Call (.Attribute (.Call (.Name "super" p0) [] [] p1) "__init__" p2) [e] [] p3) (envF F f L) = (do
      let ov ← attributeBase (.Call (.Name "super" p0) [] [] p1) "__init__" (envF F f L) (eval (.Call (.Name "super" p0) [] [] p1) (envF F f L))
      standAt p2.atName
      let (f', first) ← holding [ov] (getMethod ov "__init__" pl)
      callWith p3 f' first (backTo p3 (starEach [e] (envF F f L))) []))
    (hi : ∀ L, interactive (envF F f L) = false) (hs : ∀ L, swapsWith (.Call (.Attribute (.Call (.Name "super" p0) [] [] p1) "__init__" p2) [e] [] p3) none p4.line (envF F f L) = pure false)
    (hst : ∀ L, starEach [e] (envF F f L) = (false, eval e (envF F f L)) :: starEach [] (envF F f L)) (hpl : ∀ L, (backTo p3 (starEach [] (envF F f L))).any (·.1) = false) :
    FnOk P w K mg base (L2.CX P w) (k + 1) f fd ps sp := by
  obtain ⟨oc, od, kV, doc, pm, an, ct, osl, ef, lk⟩ := id W.lk
  refine ⟨len, fun A outer s H args us vs Q E hr e0 hb r hsp => ?_⟩
  have hl := len _ _ _ _ hsp
  have K0 : K.In s.heap := e0.mod.kin.keeps fun b o z => (e0.bs b o z).1
  have lim : s.heap.NoLimit := e0.mod.nolimit.keeps fun b o z => (e0.bs b o z).1
  have lk' := K0 _ _ lk
  subst ef
  refine codeAny_call_function hr.depth lk' rfl S.co S.gen rfl (PySem.W.codeRec_of K0 W.code) (hb _ _ _ _ (wpAny_newFunctionEnv S.nocell (fun ⟨n, _⟩ hy => S.par n (List.of_mem_zip hy).1) (fun h₁ hns hsb => ⟨lim.fresh _ hsb, ?_⟩) S.kind))
  show codeAny _ _ (.func F.body (envF F f s.heap.objs.size)) _ _
  refine ks_codeAny_funcAt ?_
  have kp : ∀ b o, s.heap.get? b = some o → h₁.get? b = some o := fun b o z => hsb.extBut b o (Nat.ne_of_lt (Heap.lt_size z)) (Heap.get?_push_of_some _ z)
  obtain ⟨c1, c2, c3, lcell⟩ := W.cell
  have CC : CellsAt F.cl ["__class__"] [none] s.heap H := by
    have z0 := W.cl
    refine ⟨rfl, fun y c z => ?_, fun x y c z z2 => ?_, fun i y z => ?_⟩
    · rw [z0] at z
      have e2 : y = "__class__" ∧ c = cc := by
        rw [List.lookup_cons] at z
        cases q : (y == ("__class__" : Str)) with
        | true => rw [q] at z; exact ⟨beq_iff_eq.mp q, (Option.some.inj z).symm⟩
        | false => rw [q] at z; cases z
      rw [e2.2]
      exact ⟨(e0.bs _ _ (e0.mod.kin _ _ lcell)).2, _, _, K0 _ _ lcell, rfl⟩
    · rw [z0] at z z2
      have k1 : ∀ {y : Str}, List.lookup y [(("__class__" : Str), cc)] = some c → y = "__class__" := fun {y} z => by
        rw [List.lookup_cons] at z
        cases q : (y == ("__class__" : Str)) with
        | true => exact beq_iff_eq.mp q
        | false => rw [q] at z; cases z
      rw [k1 z, k1 z2]
    · match i, z with
      | 0, z => cases (Option.some.inj z); exact ⟨cc, by rw [z0]; rfl, fun v ev => by cases (Option.some.inj ev)⟩
      | i + 1, z => simp at z
  have I : Inv (ncx (L2.CX P w) P w K mg base N F f A outer s H E) [] (startF N vs [none]) H { s with heap := h₁, toks := s.toks + (ps.zip us).length } := inv_startN S hr.hd e0 hl r CC hns kp
  obtain ⟨a, vr, ta, t, ev, ea, hA, hR, hq⟩ := hrun A outer s H vs Q E hsp
  rw [hbody]
  have hs0 : (startF N vs [none])[0]? = some (some (.ref a)) := by rw [ev]; rfl
  refine ks_wpAt_execs_cons (ks_wpAt_Expr_any (ks_wpAt_MethodCall (pl := pl) (super_at (X := ncx (L2.CX P w) P w K mg base N F f A outer s H E) (L := s.heap.objs.size) (arg := ar.arg) W rfl I hp hj hs0 ea hks (S.frk _ (List.mem_singleton.mpr rfl)) hka fun h' k' hso => ?_) (he _)) (hi _) (hs _))
  have I1 := I.kept (t' := s.toks + (ps.zip us).length) k'
  obtain ⟨t0, ho⟩ := exo_at I1.hok ea
  obtain ⟨cd, hcd⟩ := clsIn_oex W.oex
  have IA : PySem.W.InstAt h' a (HandSPX.excO C t0) C none := ⟨ho, rfl, rfl, True.intro⟩
  have ini := W.ini
  unfold PySem.W.ks_superIn at ini
  rw [hcd, Option.bind_some] at ini
  refine PySem.W.kxs_getMethod PySem.W.kxs_ValueError hso (PySem.W.looks_opaque I1.kIn W.tp) ((PySem.W.looks_clsIn I1.kIn hcd).andThen .now) rfl I1.kIn ini (IA.type.andThen (PySem.W.looks_subIn I1.kIn W.subV)) (PySem.W.ks_ne I1.kIn IA hcd) (by decide) ?_
  have I2 := I1.kept (t' := s.toks + (ps.zip us).length + 1) (h' := h'.push (mwV a)) fun b o z => Heap.get?_push_of_some _ z
  have nu : H h'.objs.size = none := I1.hok.fresh (Nat.le_refl _)
  have eu : (h'.push (mwV a)).get? h'.objs.size = some (mwV a) := Heap.get?_push_size _ rfl
  have I3 := I2.pins_of (pins' := [(h'.objs.size, mwV a)]) fun p hp => by
    have := List.mem_singleton.mp hp
    subst this
    exact ⟨eu, nu, Nat.ne_of_gt I1.lt, I1.nofs (Nat.le_refl _), fun v z => by cases z⟩
  have hfin := hA.run p3 [(h'.objs.size, mwV a)] _ _ _ _ I3 hq
  have hst' : starEach [e] (ncx (L2.CX P w) P w K mg base N F f A outer s H E).env = (false, eval e (envF F f s.heap.objs.size)) :: starEach [] (envF F f s.heap.objs.size) := hst _
  rw [hst'] at hfin
  have hpl1 : (backTo p3 (starEach [e] (envF F f s.heap.objs.size))).any (·.1) = false := by
    rw [hst]
    show (false || (backTo p3 (starEach [] (envF F f s.heap.objs.size))).any (·.1)) = false
    rw [hpl] <;> rfl
  refine PySem.W.kxs_callWith (i := "ValueError.__init__") (x := a) hpl1 ?_
  rw [hst]
  refine Calls.evalArgs_plain (x := eval e (envF F f s.heap.objs.size)) (rest := backTo p3 (starEach [] (envF F f s.heap.objs.size))) (wpAny_mono hfin (fun us1 s2 hs2 => ?_) fun _ _ z => z)
  obtain ⟨ws, H1, I4, rv, hz, ea4, q4⟩ := hs2
  have hu := (I4.pin (h'.objs.size, mwV a) (List.mem_append_right _ (List.mem_singleton.mpr rfl))).1
  refine ⟨hu, ?_⟩
  obtain ⟨nm, q, N1, bs, bm, sn, sub, ab, col, dd, k0, k1, k2, k3, k5, hC, hbm⟩ := W.oex.cls
  obtain ⟨t4, he4⟩ := exo_at I4.hok ea4
  have hC4 := I4.kIn _ _ hC
  obtain ⟨hp4, g4, d4, tk4, os4⟩ := s2
  refine mw_run (us := us1) hC4 he4 hu (by rw [← rv.length]; exact hz) fun h5 t5 k5' hx5 => ?_
  have I5 := I4.write (t' := tk4) (x := a) (e := a) (o := exo a C none) (by rw [ea4]; exact True.intro) (.inl rfl) k5' ⟨_, hx5⟩ (exo_ok hx5)
  have eH : upd H1 a (exo a C none) = H1 := by
    funext b
    by_cases hb : b = a
    · rw [hb, upd_same, ea4]
    · rw [upd_ne hb]
  rw [eH] at I5
  refine wpAt_of_wpAny (wpAny_mono (hR.run _ _ _ H1 _ I5 q4) (fun fl s6 hs6 => ?_) fun er s6 z => z)
  have fin : ∀ {σ' : L2.St} {H' : Hp} {v : V} {u : Value}, Inv (ncx (L2.CX P w) P w K mg base N F f A outer s H E) [(h'.objs.size, mwV a)] σ' H' s6 → L2.RelV v u → Q v H' → CE outer P w H s Q u s6 := fun {σ' H' v u} J rv q => ⟨v, H', J.os, J.bare, J.base, J.hok, rv, q⟩
  cases fl with
  | ret u => obtain ⟨v, σ', H', J, rv, q⟩ := hs6; exact fin J rv q
  | next => obtain ⟨σ', H', J, q⟩ := hs6; exact fin (v := V.non) (u := Value.none) J rfl q
  | brk => obtain ⟨_, _, _, q⟩ := hs6; exact q.elim
  | cont => obtain ⟨_, _, _, q⟩ := hs6; exact q.elim

/-! ### what such an __init__ promises -/
/-- one parameter, that becomes the field fl -/
def spX1 (C : Addr) (fl : Str) : Sp := fun vs H Q _ => ∃ a x, vs = [.ref a, x] ∧ H a = some (exo a C none) ∧ ∀ dx, H dx = none → dx ≠ a → Q .non (upd (upd H dx (exd dx [(fl, x)])) a (exo a C (some dx)))
/-- no parameter, no field -/
def spX0 (C : Addr) : Sp := fun vs H Q _ => ∃ a, vs = [.ref a] ∧ H a = some (exo a C none) ∧ Q .non H
theorem spX1_len {C : Addr} {fl p0 p1 : Str} : ∀ vs H Q E, spX1 C fl vs H Q E → vs.length = [p0, p1].length := fun vs H Q E ⟨a, x, e, _⟩ => by rw [e]; rfl
theorem spX0_len {C : Addr} {p0 : Str} : ∀ vs H Q E, spX0 C vs H Q E → vs.length = [p0].length := fun vs H Q E ⟨a, e, _⟩ => by rw [e]; rfl
theorem ost_run {K : PySem.W.Frag} {C a : Addr} {fl : Str} {x : V} {D : Ends} {σ : L2.St} {H : Hp} (T : OexC K C) (hno : PySem.W.findIn K (.ref C) fl = some none) (h0 : σ[0]? = some (some (.ref a))) (h1 : σ[1]? = some (some x)) (ea : H a = some (exo a C none))
    (q : ∀ dx, H dx = none → dx ≠ a → D.nx σ (upd (upd H dx (exd dx [(fl, x)])) a (exo a C (some dx)))) : tOst K fl (tVar 0) (tVar 1) D σ H := ⟨x, h1, .ref a, h0, a, C, rfl, T, hno, .inl ⟨ea, q⟩⟩

/-! ### C() without a parameter -/
section
variable {X : Cx} {pins : List (Addr × Obj)} {σ : L2.St} {H1 : Hp}
theorem mk_none {hp hp2 h2 : Heap} {g1 g2 : Array GenState} {d1 d2 : Drawn} {t1 t2 : Nat} {os1 os2 : OsState} {a C : Addr} (I1 : Inv X pins σ H1 ⟨hp, g1, d1, t1, os1⟩) (ha : hp.objs.size ≤ a) (k : ∀ b o, hp.get? b = some o → hp2.get? b = some o)
    (un : Un (frs X.stack) [] (upd H1 a (exo a C none)) (upd H1 a (exo a C none)) hp2 h2) (hok : HOk X.prog X.w (upd H1 a (exo a C none)) h2) (ho : os2 = os1) (hb : AllBare g2) :
    ∃ (t0 : Addr) (G : Heap), Inv X pins σ H1 ⟨G, g2, d2, t2, os2⟩ ∧ (∀ b o, G.get? b = some o → h2.get? b = some o) ∧ G.get? a = none ∧ h2.get? a = some ({ cls := .ref C, dict := none, data := .fields #[.ref t0, .none, .none, .none, .bool false, .none] } : Obj) ∧ H1 a = none := by
  have hn : H1 a = none := I1.hok.fresh ha
  obtain ⟨t0, hoe⟩ := exo_at hok (upd_same (H := H1) (a := a) (o := exo a C none))
  obtain ⟨G, q1, q2⟩ := restrict h2 fun b => decide (b ≠ a)
  have gk : ∀ b, b ≠ a → G.get? b = h2.get? b := fun b hb => q1 b (decide_eq_true hb)
  have ge : G.get? a = none := q2 a (by simp)
  have nha : ∀ {b : Addr} {o : Obj}, hp.get? b = some o → b ≠ a := fun {b o} z => Nat.ne_of_lt (Nat.lt_of_lt_of_le (Heap.lt_size z) ha)
  have up : ∀ {b : Addr}, b ≠ a → H1 b = none → upd H1 a (exo a C none) b = none := fun {b} hb n => (upd_ne hb).trans n
  have U : Un (frs X.stack) [] H1 H1 hp G := ⟨fun b o z n hf hx => (gk b (nha z)).trans (un.keep b o (k b o z) (up (nha z) n) hf hx), fun b o z n hf hx => by
      rw [gk b (nha z)]
      exact un.slot b o (k b o z) (up (nha z) n) hf hx, fun _ _ _ n _ => n, fun b o z hx => by
      rw [gk b (nha z)]
      exact un.there b o (k b o z) hx, fun _ _ z => z, fun _ _ _ z => z, fun b ps z => ⟨#[], by rw [z]; simp⟩⟩
  have hok3 : HOk X.prog X.w H1 G := fun b o z => by
    have hba : b ≠ a := fun e => by rw [e, hn] at z; cases z
    refine (hok b o ((upd_ne hba).trans z)).stay (fun c v hc y => (gk c ?_).trans y) (fun c hc => ?_) fun c xs hc => ?_
    · rcases hc with hc | hc
      · rw [hc]; exact hba
      · intro e
        rw [e, upd_same] at hc
        exact exo_own (Option.some.inj hc)
    · by_cases e : c = a
      · rw [e, upd_same] at hc
        exact absurd (Option.some.inj hc) exo_own
      · exact (upd_ne e).symm.trans hc
    · by_cases e : c = a
      · rw [e, upd_same] at hc
        exact absurd (Option.some.inj hc) exo_tup
      · exact (upd_ne e).symm.trans hc
  exact ⟨t0, G, I1.call' (ch := []) ho U hok3 hb (fun b z => absurd z (by simp)), fun b o z => by
    by_cases hba : b = a
    · rw [hba, ge] at z; cases z
    · exact (gk b hba).symm.trans z, ge, hoe, hn⟩
theorem pmk_x0 {x : Str} {C fI : Addr} {k : Nat} {fd : FuncData} {ps : List Str} {p pos : Pos} (T : OexC X.K C) (iC : PySem.W.findIn X.K (.ref C) "__init__" = some (some (.ref fI))) (tI : PySem.W.typeIn X.K (.ref fI) = some (.type "function"))
    (F1 : FnOk X.prog X.w X.K X.mg X.base (L2.CX X.prog X.w) k fI fd ps (spX0 C)) (hr : Room (k + 1) X.A) (hb : Binds X.K fd ps []) (hg : Gl X x) (hm : X.mg x = some (.ref C)) (hdb : (x == ("__debug__" : Str)) = false := by decide) :
    PMk X (.Call (.Name x p) [] [] pos) (fun _ H Q => Q (.ref C) none H) := by
  intro pins s σ H Q I h
  obtain ⟨nm, q, N, bs, bm, sn, sub, ab, col, dd, k0, k1, k2, k3, k5, hC, hbm⟩ := T.cls
  refine wpAny_Call_Name_kw (ld_glob I hg hm (PySem.W.callWith_K0 (first := []) I.kIn T.kC ?_) hdb)
  obtain ⟨hp, g, dr, tk, os⟩ := s
  have hsz : hp.objs.size ≤ hp.objs.size + 1 := Nat.le_succ _
  have hget : ((hp.push (PySem.W.kdv_tup [])).push (PySem.HandSPX.excO C hp.objs.size)).get? (hp.objs.size + 1) = some (PySem.HandSPX.excO C hp.objs.size) := by heap_get
  have kk : ∀ b o, hp.get? b = some o → ((hp.push (PySem.W.kdv_tup [])).push (PySem.HandSPX.excO C hp.objs.size)).get? b = some o := fun b o z => Heap.get?_push_of_some _ (Heap.get?_push_of_some _ z)
  have I2 := I.laid (t' := tk) (a := hp.objs.size + 1) (o := exo (hp.objs.size + 1) C none) kk hsz (exo_ok hget)
  have hq : spX0 C [.ref (hp.objs.size + 1)] (upd H (hp.objs.size + 1) (exo (hp.objs.size + 1) C none)) (fun v H2 => v = .non ∧ H2 = upd H (hp.objs.size + 1) (exo (hp.objs.size + 1) C none)) (fun _ _ _ => False) := ⟨_, rfl, upd_same, rfl, rfl⟩
  have hl : ([Value.ref (hp.objs.size + 1)] ++ []).length = ps.length := F1.len _ _ _ _ hq
  refine wpAny_call (PySem.HandSPX.call_own F.excBase_ValueError (fun Y => PySem.HandSPX.refsVE_contains Y bm hbm) (I.kIn _ _ hC) (PySem.W.looks_findIn I.kIn iC) (fun self => PySem.W.bind_fn I.kIn self tI) (by decide)
    (codeAny_mono (F1.run _ X.stack _ _ ⟨[Value.ref (hp.objs.size + 1)], []⟩ ([Value.ref (hp.objs.size + 1)] ++ []) [V.ref (hp.objs.size + 1)] _ (fun _ _ _ => False) (hr.make C [] []) (I2.env0.make C [] []) (hb _ [Value.ref (hp.objs.size + 1)] I2.kIn hl) (.cons rfl .nil) hq) fun r s' hq' => ?_))
  cases r with
  | error er => exact passL pins σ _ _ er s' I2 hq'
  | ok fl =>
    cases fl with
    | ret u =>
      obtain ⟨v, H2, os2, bare2, un2, hok2, rv, ev, eH⟩ := hq'
      subst ev eH
      obtain ⟨h2, g2, d2, t2, os'⟩ := s'
      obtain ⟨t0, G, J, kG, ge, hoe, na⟩ := mk_none (d2 := d2) (t2 := t2) I hsz kk un2 hok2 os2 bare2
      exact ⟨rv, ⟨_, _, _, ⟨G, g2, d2, t2, os'⟩, _, .ref C, none, rfl, J, kG, ge, hoe, ⟨rfl, rfl⟩, rfl, rfl, na, rfl, bare2, raises_own T.exC T.tyC, h⟩⟩
    | next => exact False.elim hq'
    | brk => exact False.elim hq'
    | cont => exact False.elim hq'
end

/-! ### raise -/
def sRaise (t : Nat) (fs : List Str) (a : AD) : SD := fun env M => sx env (a env M) fun ws M1 => match nds M1 ws with
  | some xs => if xs.length = fs.length then .ok (.xc env ⟨t, fs, xs⟩) M1 else .no
  | none => .no
section
variable {X : Cx} {cA : CA} {Wx : WX} {e : Expr} {mr : AD} {x fl : Str} {t k : Nat} {fI : Addr} {fd : FuncData} {ps : List Str} {p pos pos2 : Pos}
theorem s_raise1 (hc : X.calm = true) (tk : Takes X Wx) (T : OexC X.K (cA t)) (iC : PySem.W.findIn X.K (.ref (cA t)) "__init__" = some (some (.ref fI))) (tI : PySem.W.typeIn X.K (.ref fI) = some (.type "function")) (F1 : FnOk X.prog X.w X.K X.mg X.base (L2.CX X.prog X.w) k fI fd ps (spX1 (cA t) fl))
    (hr : Room (k + 1) X.A) (hb : Binds X.K fd ps []) (hm : X.mg x = some (.ref (cA t))) (ha : PA X [e] (TAD X.K cA Wx mr)) (hg : Gl X x := by rfl) (hdb : (x == ("__debug__" : Str)) = false := by decide)
    (he : starEach (e :: []) X.env = (false, eval e X.env) :: starEach [] X.env := by rfl) (hpl : (backTo pos (starEach [] X.env)).any (·.1) = false := by rfl) :
    PS X (.Raise (some (.Call (.Name x p) [e] [] pos)) none pos2) (TSD X.K cA Wx (sRaise t [fl] mr)) :=
  PS.imp (ps_raise hc tk (pmk_oex T iC tI F1 hr hb .nil passL hg hm ha hdb he hpl)) fun D σ H ⟨z, env, M, g, c, sl, q⟩ => by
    refine ⟨z, env, M, g, c, sl, Res.imp (fun ws M1 g1 H1 c1 l1 q1 vs rv => ?_) (sx_of q sl)⟩
    cases en : nds M1 ws with
    | none => simp [en, Res] at q1
    | some xs =>
      simp only [en] at q1
      by_cases hl : xs.length = [fl].length
      case neg => rw [if_neg hl] at q1; exact q1.elim
      rw [if_pos hl] at q1
      have rl := nds_rep c1 rv en
      match xs, hl, rl, q1 with
      | [y], _, rl, q1 =>
        obtain ⟨v, r, rfl, ry, er⟩ := rl
        cases (show r = [] from er)
        refine ⟨(by decide : 1 ≤ 1000), fun a na => ⟨a, v, rfl, upd_same, fun dx hdx hne => ⟨rfl, dx, [(fl, v)], upd_same, by rw [upd_ne hne, upd_same], (upd_ne hne).symm.trans hdx, ?_⟩⟩⟩
        have hd1 : H1 dx = none := (upd_ne hne).symm.trans hdx
        have eH : upd (del (upd (upd (upd H1 a (exo a (cA t) none)) dx (exd dx [(fl, v)])) a (exo a (cA t) (some dx))) a) dx (.xd [(fl, v)]) = upd H1 dx (.xd [(fl, v)]) := by
          funext b
          by_cases h1 : b = dx
          · rw [h1, upd_same, upd_same]
          · rw [upd_ne h1, upd_ne h1]
            by_cases h2 : b = a
            · rw [h2, del_same, na]
            · rw [del_ne h2, upd_ne h2, upd_ne h1, upd_ne h2]
        rw [eH]
        obtain ⟨c2, l2⟩ := c1.lay (p := dx) (ho := .xd [(fl, v)]) hd1
        refine q1 _ _ c2 l2 σ (.ref (cA t)) (some dx) ((sl.mono l1).mono l2) ⟨rfl, .inr ⟨dx, [v], rfl, upd_same, rfl, v, [], rfl, Rep.mono l2.F ry, rfl⟩⟩
theorem s_raise0 (hc : X.calm = true) (tk : Takes X Wx) (T : OexC X.K (cA t)) (iC : PySem.W.findIn X.K (.ref (cA t)) "__init__" = some (some (.ref fI))) (tI : PySem.W.typeIn X.K (.ref fI) = some (.type "function")) (F1 : FnOk X.prog X.w X.K X.mg X.base (L2.CX X.prog X.w) k fI fd ps (spX0 (cA t)))
    (hr : Room (k + 1) X.A) (hb : Binds X.K fd ps []) (hm : X.mg x = some (.ref (cA t))) (hg : Gl X x := by rfl) (hdb : (x == ("__debug__" : Str)) = false := by decide) :
    PS X (.Raise (some (.Call (.Name x p) [] [] pos)) none pos2) (TSD X.K cA Wx (sRaise t [] aNil)) :=
  PS.imp (ps_raise hc tk (pmk_x0 T iC tI F1 hr hb hg hm hdb)) fun D σ H ⟨z, env, M, g, c, sl, q⟩ => q H g c Le.refl σ (.ref (cA t)) none sl ⟨rfl, .inl ⟨rfl, rfl, rfl⟩⟩
end
end DL

/-! Layer D: try .. except X as e; what stands in such a suite. -/
namespace DL
open PySem PySem.Spec PyProof.Rows L2

/-! ### defs that may be called in a suite -/
structure RoomU (k : Nat) (A : Around) : Prop where
  dp : A.depth + 3 * k + 5 < recursionLimit
  un : A.units + 16 * k + 200 < cLine
theorem roomU {k : Nat} {A : Around} (r : Room k A) (h : Option Value) : RoomU k (A.mark h) := ⟨r.dp, r.un⟩
theorem RoomU.mono {j k : Nat} {A : Around} (r : RoomU k A) (h : j ≤ k) : RoomU j A := ⟨by have := r.dp; omega, by have := r.un; omega⟩
structure FnU (P : Program) (w : World) (K : PySem.W.Frag) (mg : Str → Option Value) (base : Heap) (k : Nat) (f : Addr) (fd : FuncData) (ps : List Str) (sp : Sp) : Prop where
  len : ∀ vs H Q, sp vs H Q E0 → vs.length = ps.length
  run : ∀ (A : Around) (outer : List Env) (s : Shared) (H : Hp) (args : Args) (us : List Value) (vs : List V) (Q : VK), RoomU k A → Env0 P w K mg base A outer s H → BindsTo s fd args (ps.zip us) → Vals vs us → sp vs H Q E0 → codeAny (model P w) A (.call (.ref f) args) (CR (L2.CX P w) outer P w H s Q E0) s
/-- the context of its body -/
def cxU (P : Program) (w : World) (K : PySem.W.Frag) (mg : Str → Option Value) (base : Heap) (N : List Str) (qual : Str) (sc : Scope) (f : Addr) (cd : Value) (A : Around) (outer : List Env) (s : Shared) (H : Hp) : Cx :=
  { cxOf (L2.CX P w) P w K mg base N qual sc f cd A outer s H E0 with calm := false }
section
variable {P : Program} {w : World} {K : PySem.W.Frag} {mg : Str → Option Value} {base : Heap} {cA : CA}
theorem fnU_of {x qual : Str} {st : Stmt} {f : Addr} {fd : FuncData} {N ps : List Str} {k : Nat} {body : SD} (F : Fun K x qual st f fd) (S : FnScope N ps (defScope st))
    (hbody : ∀ (cdv : Value) (A : Around) (outer : List Env) (s : Shared) (H : Hp), RoomU k (A.deeper (envOfC qual (defScope st) s.heap.objs.size f cdv)) → PSs (cxU P w K mg base N qual (defScope st) f cdv A outer s H) (defBody st) (TSD K cA (fun _ _ _ _ => False) body)) :
    FnU P w K mg base (k + 1) f fd ps (spD K cA ps.length (fnD body N.length)) := by
  obtain ⟨oc, od, kV, doc, pm, an, cdv, ct, osl, rfl, lk, hcd⟩ := F.ex
  refine ⟨fun vs H Q h => h.1, fun A outer s H args us vs Q hr e0 hb r hsp => ?_⟩
  obtain ⟨hl, z, M, g, ws, c, rw1, q⟩ := hsp
  have K0 : K.In s.heap := e0.mod.kin.keeps fun b o y => (e0.bs b o y).1
  have lim : s.heap.NoLimit := e0.mod.nolimit.keeps fun b o y => (e0.bs b o y).1
  have hkind : ∀ y ∈ ps.zip us, (defScope st).names.lookup y.1 = some .local ∨ ((defScope st).names.lookup y.1 = some .cell ∧ ((cellsFrom (s.heap.objs.size + 1) (defScope st).names []).lookup y.1).isSome = true) := fun ⟨n, v⟩ hy =>
    (S.par n (List.of_mem_zip hy).1).elim .inl fun z => .inr ⟨z, PySem.W.cellsFrom_some _ _ _ (.inl z)⟩
  refine codeAny_call_function (by have := hr.dp; omega) (K0 _ _ lk) rfl S.co S.gen rfl (PySem.W.codeRec_of K0 hcd) (hb _ _ _ _ (wpAny_newFunctionEnv_cells S.kind hkind fun env he s1 x => ?_))
  subst he
  refine ⟨lim.keeps x.toInCall.keep, codeAny_func ?_⟩
  have e1 : Env0 P w K mg base { A with handled := none } outer s H := ⟨e0.frames, e0.mod, e0.bs, e0.bsz, e0.funs, e0.frf, e0.hok, e0.bare⟩
  have J := inv_start (CX := L2.CX P w) (cd := cdv) (qual := qual) (f := f) (E := E0) S rfl e1 hl r x
  have I : Inv (cxU P w K mg base N qual (defScope st) f cdv A outer s H) [] (L2.start N vs) H s1 :=
    ⟨⟨J.ok.mod, J.ok.kind, J.ok.glob, J.ok.blt, J.ok.above, J.ok.inj, J.ok.has, J.ok.cab, (fun z => Bool.noConfusion (show false = true from z)), Around.frames_deeper e0.frames, J.ok.stk, J.ok.exf, J.ok.bs, J.ok.bsz, J.ok.noex, J.ok.exfs, J.ok.funs, J.ok.frf⟩,
      J.os, J.bare, J.base, J.loc, J.cell, J.free, J.freeC, J.pin, J.hok, J.len⟩
  have hr2 : RoomU k (A.deeper (envOfC qual (defScope st) s.heap.objs.size f cdv)) := ⟨by have := hr.dp; show A.depth + 1 + 3 * k + 5 < _; omega, by have := hr.un; show A.units + 3 + 16 * k + 200 < _; omega⟩
  have hq : TSD K cA (fun _ _ _ _ => False) body { nx := fun _ H' => Q .non H', rt := Q } (L2.start N vs) H := by
    refine ⟨ent H M g, _, M, g, c.enter, start_slots (N := N) rw1, ?_⟩
    unfold fnD fnB at q
    cases e : body (ws.map some ++ List.replicate (N.length - ws.length) none) M with
    | no => simp [e, Res] at q
    | ex x M' => simp [e, Res] at q
    | ok o M' =>
      simp only [e] at q
      cases o with
      | nx e1 => exact fun H' g' c' l' σ' sl' => outC_ok z H' H M' M g' g (.d .non) .non _ Q c' l' rfl q
      | rt u => exact fun H' g' c' l' v rv => outC_ok z H' H M' M g' g u v _ Q c' l' rv q
      | bk e1 => exact q.elim
      | ct e1 => exact q.elim
      | xc e1 x => exact fun H' g' c' l' σ' cls d sl' rx => outX_ok H' H M' M g' g x cls d E0 _ c' l' rx q
  refine wpAny_mono ((hbody cdv A outer s H hr2).run [] s1 (L2.start N vs) H _ I hq) (fun fl s' hs => ?_) fun e s' hs => hs
  have fin : ∀ {σ' : St} {H' : Hp} {v : V} {u : Value}, Inv (cxU P w K mg base N qual (defScope st) f cdv A outer s H) [] σ' H' s' → RelV v u → Q v H' → CE outer P w H s Q u s' := fun {σ' H' v u} J rv q => ⟨v, H', J.os, J.bare, J.base, J.hok, rv, q⟩
  cases fl with
  | ret u => obtain ⟨v, σ', H', J, rv, q⟩ := hs; exact fin J rv q
  | next => obtain ⟨σ', H', J, q⟩ := hs; exact fin (v := V.non) (u := Value.none) J rfl q
  | brk => obtain ⟨_, _, _, q⟩ := hs; exact q.elim
  | cont => obtain ⟨_, _, _, q⟩ := hs; exact q.elim
end
section
variable {X : Cx} {k : Nat} {f : Addr} {fd : FuncData} {ps : List Str} {sp : Sp} {x : Str} {p pos : Pos} {e : Expr} {es : List Expr} {t : TA}
def tCallU (sp : Sp) (t : TA) : TE := fun σ H Q => t σ H fun vs H1 => sp vs H1 Q E0
theorem pe_callU (F : FnU X.prog X.w X.K X.mg X.base k f fd ps sp) (hr : RoomU k X.A) (hg : Gl X x) (hm : X.mg x = some (.ref f)) (hk : PySem.W.keepIn X.K (.ref f) = true) (hb : Binds X.K fd ps []) (ha : PA X (e :: es) t)
    (hdb : (x == ("__debug__" : Str)) = false := by decide) (he : starEach (e :: es) X.env = (false, eval e X.env) :: starEach es X.env := by rfl) (hpl : (backTo pos (starEach es X.env)).any (·.1) = false := by rfl) :
    PE X (.Call (.Name x p) (e :: es) [] pos) (tCallU sp t) := by
  refine ⟨fun pins s σ H Q I h => ?_⟩
  refine wpAny_Call_Name_kw (ld_glob I hg hm (PySem.W.callWith_K (h₀ := X.base) I.ok.mod.kin hk (thn (ha.run pos pins s σ H _ I h) fun us s1 ⟨vs, H1, I1, r, q⟩ => ⟨I1.kIn, ?_⟩) he hpl) hdb)
  have hl : us.length = ps.length := by rw [← r.length]; exact F.len _ _ _ q
  have b := hb s1 us I1.kIn (by rw [List.append_nil]; exact hl)
  rw [List.append_nil] at b
  show wpAny _ _ (call (.ref f) us) _ _ _
  refine wpAny_call (codeAny_mono (F.run X.A X.stack s1 H1 ⟨us, []⟩ us vs Q hr I1.env0 b r q) fun r s' hq => ?_)
  cases r with
  | error e => exact passL pins σ H1 s1 e s' I1 hq
  | ok fl =>
    cases fl with
    | ret u => exact I1.after hq
    | next => exact False.elim hq
    | brk => exact False.elim hq
    | cont => exact False.elim hq
end

/-! ### a suite's judgements: e stands in slot i -/
theorem Res.none {K : PySem.W.Frag} {cA : CA} {z : Z0} {g : Gh} {n : Nat} {α : Type} {E : Exn → Sto → Gh → Hp → Prop} {r : Rs α} {P : α → Sto → Gh → Hp → Prop} (h : Res K cA z g n noE r P) : Res K cA z g n E r P := by
  cases r with
  | ok a M => exact h
  | ex x M => exact fun H' g' c l => (h H' g' c l).elim
  | no => exact h
structure XSt (K : PySem.W.Frag) (cA : CA) (i : Nat) (a : Addr) (cls : Value) (d : Option Addr) (x : Exn) (z : Z0) (env : Ev) (M : Sto) (g : Gh) (σ : St) (H : Hp) : Prop where
  c : Cf K cA z H M g
  sl : Slots K cA g M.length env σ
  at_ : σ[i]? = some (some (.ref a))
  rx : RX K cA g x cls d
section
variable {K : PySem.W.Frag} {cA : CA} {i : Nat} {a : Addr} {cls : Value} {d : Option Addr} {x : Exn} {z : Z0} {env : Ev} {M M1 : Sto} {g g1 : Gh} {σ : St} {H H1 : Hp}
theorem RX.mono {n n' : Nat} (l : Le g n g1 n') (r : RX K cA g x cls d) : RX K cA g1 x cls d := ⟨r.1, r.2.elim .inl fun ⟨dd, vs, e, e1, e2, e3⟩ => .inr ⟨dd, vs, e, l.F _ _ e1, e2, RepL.mono l.F e3⟩⟩
theorem XSt.step (s : XSt K cA i a cls d x z env M g σ H) (c : Cf K cA z H1 M1 g1) (l : Le g M.length g1 M1.length) : XSt K cA i a cls d x z env M1 g1 σ H1 := ⟨c, s.sl.mono l, s.at_, s.rx.mono l⟩
variable (K cA i a cls d)
def TXE (m : Exn → ED) : TE := fun σ H Q => ∃ x z env M g, XSt K cA i a cls d x z env M g σ H ∧ Res K cA z g M.length (EX K cA W0 σ) (m x env M) fun w M' g' H' => ∀ v, RW K cA g' M'.length w v → Q v H'
def TXA (m : Exn → AD) : TA := fun σ H Q => ∃ x z env M g, XSt K cA i a cls d x z env M g σ H ∧ Res K cA z g M.length (EX K cA W0 σ) (m x env M) fun ws M' g' H' => ∀ vs, Paired (RW K cA g' M'.length) ws vs → Q vs H'
def TXT (m : Exn → TD) : TT := fun σ H Q => ∃ x z env M g, XSt K cA i a cls d x z env M g σ H ∧ Res K cA z g M.length (EX K cA W0 σ) (m x env M) fun b M' g' H' => Q b H'
def TXS (m : Exn → SD) : TS := fun D σ H => ∃ x z env M g, XSt K cA i a cls d x z env M g σ H ∧ Res K cA z g M.length noE (m x env M) (OutP K cA (fun _ _ _ _ => False) D)
end
section
variable {X : Cx} {cA : CA} {i : Nat} {a : Addr} {cls : Value} {d : Option Addr} {e b : Expr} {rest es : List Expr} {m : ED} {ma mb : Exn → ED} {ta tb : Exn → TD} {mr : Exn → AD} {ms mt : Exn → SD} {m2 : AD} {t2 : TD} {pos : Pos} {st : Stmt} {sts sts2 : List Stmt}
theorem x_lift (h : PE X e (TED X.K cA W0 m)) : PE X e (TXE X.K cA i a cls d fun _ => m) := PE.imp h fun σ H Q ⟨x, z, env, M, g, s, q⟩ => ⟨z, env, M, g, s.c, s.sl, q⟩
theorem xt_lift (h : PT X e (TTD X.K cA W0 t2)) : PT X e (TXT X.K cA i a cls d fun _ => t2) := PT.imp h fun σ H Q ⟨x, z, env, M, g, s, q⟩ => ⟨z, env, M, g, s.c, s.sl, q⟩
theorem x_one {op} (h : PE X e (TXE X.K cA i a cls d ma)) : PE X (.BoolOp op [e] pos) (TXE X.K cA i a cls d ma) := pe_one h
theorem x_and (ha : PE X e (TXE X.K cA i a cls d ma)) (hb : PE X (.BoolOp .And (b :: rest) pos) (TXE X.K cA i a cls d mb)) : PE X (.BoolOp .And (e :: b :: rest) pos) (TXE X.K cA i a cls d fun x => eAnd (ma x) (mb x)) := PE.imp (pe_andT ha hb) fun σ H Q ⟨x, z, env, M, g, s, q⟩ => by
  refine ⟨x, z, env, M, g, s, Res.imp (fun w M1 g1 H1 c1 l1 q1 v rv => ?_) q.of_bind⟩
  cases ek : truw M1 w with
  | none => simp [ek, Res] at q1
  | some k =>
    simp only [ek] at q1
    refine ⟨k, truw_at c1 rv ek, ?_⟩
    cases k with
    | true => exact iteT ⟨x, z, env, M1, g1, s.step c1 l1, q1⟩
    | false => exact iteF (q1 H1 g1 c1 Le.refl v rv)
theorem x_or (ha : PE X e (TXE X.K cA i a cls d ma)) (hb : PE X (.BoolOp .Or (b :: rest) pos) (TXE X.K cA i a cls d mb)) : PE X (.BoolOp .Or (e :: b :: rest) pos) (TXE X.K cA i a cls d fun x => eOr (ma x) (mb x)) := PE.imp (pe_orT ha hb) fun σ H Q ⟨x, z, env, M, g, s, q⟩ => by
  refine ⟨x, z, env, M, g, s, Res.imp (fun w M1 g1 H1 c1 l1 q1 v rv => ?_) q.of_bind⟩
  cases ek : truw M1 w with
  | none => simp [ek, Res] at q1
  | some k =>
    simp only [ek] at q1
    refine ⟨k, truw_at c1 rv ek, ?_⟩
    cases k with
    | true => exact iteT (q1 H1 g1 c1 Le.refl v rv)
    | false => exact iteF ⟨x, z, env, M1, g1, s.step c1 l1, q1⟩
theorem x_not (ha : PE X e (TXE X.K cA i a cls d ma)) : PE X (.UnaryOp .Not e pos) (TXE X.K cA i a cls d fun x => eNot (ma x)) := PE.imp (pe_notT ha) fun σ H Q ⟨x, z, env, M, g, s, q⟩ => by
  refine ⟨x, z, env, M, g, s, Res.imp (fun w M1 g1 H1 c1 l1 q1 v rv => ?_) q.of_bind⟩
  cases ek : truw M1 w with
  | none => simp [ek, Res] at q1
  | some k =>
    simp only [ek] at q1
    exact ⟨k, truw_at c1 rv ek, q1 H1 g1 c1 Le.refl _ rfl⟩
theorem xt_tru (ha : PE X e (TXE X.K cA i a cls d ma)) (he : ∀ whole, isTrue e X.env whole = (do let v ← whole; standAt e.pos; holding [v] (truthy v)) := by intro _; rfl) : PT X e (TXT X.K cA i a cls d fun x => tTru (ma x)) := PT.imp (pt_truth ha he) fun σ H Q ⟨x, z, env, M, g, s, q⟩ => by
  refine ⟨x, z, env, M, g, s, Res.imp (fun w M1 g1 H1 c1 l1 q1 v rv => ?_) q.of_bind⟩
  cases ek : truw M1 w with
  | none => simp [ek, Res] at q1
  | some k =>
    simp only [ek] at q1
    exact ⟨k, truw_at c1 rv ek, q1 H1 g1 c1 Le.refl⟩
theorem xt_not (ha : PT X e (TXT X.K cA i a cls d ta)) : PT X (.UnaryOp .Not e pos) (TXT X.K cA i a cls d fun x => tNt (ta x)) := PT.imp (pt_not ha) fun σ H Q ⟨x, z, env, M, g, s, q⟩ =>
  ⟨x, z, env, M, g, s, Res.imp (fun k M1 g1 H1 c1 l1 q1 => q1 H1 g1 c1 Le.refl) q.of_bind⟩
theorem xw_and1 (ha : PT X e (TXT X.K cA i a cls d ta)) : PW X (.BoolOp .And [e] pos) (TXT X.K cA i a cls d ta) := pw_and1 ha
theorem xw_or1 (ha : PT X e (TXT X.K cA i a cls d ta)) : PW X (.BoolOp .Or [e] pos) (TXT X.K cA i a cls d ta) := pw_or1 ha
theorem xw_and (ha : PT X e (TXT X.K cA i a cls d ta)) (hb : PW X (.BoolOp .And (b :: rest) pos) (TXT X.K cA i a cls d tb)) : PW X (.BoolOp .And (e :: b :: rest) pos) (TXT X.K cA i a cls d fun x => tAn (ta x) (tb x)) := PW.imp (pw_and ha hb) fun σ H Q ⟨x, z, env, M, g, s, q⟩ => by
  refine ⟨x, z, env, M, g, s, Res.imp (fun k M1 g1 H1 c1 l1 q1 => ?_) q.of_bind⟩
  cases k with
  | true => exact iteT ⟨x, z, env, M1, g1, s.step c1 l1, q1⟩
  | false => exact iteF (q1 H1 g1 c1 Le.refl)
theorem xw_or (ha : PT X e (TXT X.K cA i a cls d ta)) (hb : PW X (.BoolOp .Or (b :: rest) pos) (TXT X.K cA i a cls d tb)) : PW X (.BoolOp .Or (e :: b :: rest) pos) (TXT X.K cA i a cls d fun x => tO (ta x) (tb x)) := PW.imp (pw_or ha hb) fun σ H Q ⟨x, z, env, M, g, s, q⟩ => by
  refine ⟨x, z, env, M, g, s, Res.imp (fun k M1 g1 H1 c1 l1 q1 => ?_) q.of_bind⟩
  cases k with
  | true => exact iteT (q1 H1 g1 c1 Le.refl)
  | false => exact iteF ⟨x, z, env, M1, g1, s.step c1 l1, q1⟩
theorem xa_nil : PA X [] (TXA X.K cA i a cls d fun _ => aNil) := PA.imp pa_nil fun σ H Q ⟨x, z, env, M, g, s, q⟩ => q H g s.c Le.refl [] .nil
theorem xa_cons (ha : PE X e (TXE X.K cA i a cls d ma)) (hr : PA X es (TXA X.K cA i a cls d mr)) (hs : starEach (e :: es) X.env = (false, eval e X.env) :: starEach es X.env := by rfl) : PA X (e :: es) (TXA X.K cA i a cls d fun x => aCons (ma x) (mr x)) :=
  PA.imp (pa_cons ha hr hs) fun σ H Q ⟨x, z, env, M, g, s, q⟩ => by
    refine ⟨x, z, env, M, g, s, Res.imp (fun w M1 g1 H1 c1 l1 q1 v rv => ?_) q.of_bind⟩
    refine ⟨x, z, env, M1, g1, s.step c1 l1, Res.imp (fun ws M2 g2 H2 c2 l2 q2 vs rvs => ?_) q1.of_bind⟩
    exact q2 H2 g2 c2 Le.refl _ (.cons (rv.mono l2) rvs)
/-- f(..) of a def that may be called here -/
theorem x_call {k n : Nat} {f : Addr} {fd : FuncData} {ps : List Str} {m c : FD} {x : Str} {p : Pos} (F : FnU X.prog X.w X.K X.mg X.base k f fd ps (spD X.K cA n m)) (co : CallOk X.K cA n m c) (hr : RoomU k X.A) (hm : X.mg x = some (.ref f)) (hk : PySem.W.keepIn X.K (.ref f) = true) (hb : Binds X.K fd ps [])
    (ha : PA X (e :: es) (TXA X.K cA i a cls d mr)) (hg : Gl X x := by rfl) (hdb : (x == ("__debug__" : Str)) = false := by decide) (he : starEach (e :: es) X.env = (false, eval e X.env) :: starEach es X.env := by rfl) (hpl : (backTo pos (starEach es X.env)).any (·.1) = false := by rfl) :
    PE X (.Call (.Name x p) (e :: es) [] pos) (TXE X.K cA i a cls d fun x => eCall c [] (mr x)) := PE.imp (pe_callU F hr hg hm hk hb ha hdb he hpl) fun σ H Q ⟨x, z, env, M, g, s, q⟩ => by
  refine ⟨x, z, env, M, g, s, Res.imp (fun ws M1 g1 H1 c1 l1 q1 vs rv => ?_) q.of_bind⟩
  rw [List.map_nil, List.append_nil] at q1
  exact co z H1 M1 g1 _ _ _ Q c1 rv q1
/-! statements -/
theorem x_ret (ha : PE X e (TXE X.K cA i a cls d ma)) : PS X (.Return (some e) pos) (TXS X.K cA i a cls d fun x => sRet (ma x)) := PS.imp (ps_ret ha) fun D σ H ⟨x, z, env, M, g, s, q⟩ =>
  ⟨x, z, env, M, g, s, Res.imp (fun w M1 g1 H1 c1 l1 q1 v rv => q1 H1 g1 c1 Le.refl v rv) (sx_of q s.sl)⟩
theorem x_nil : PSs X [] (TXS X.K cA i a cls d fun _ => sNext) := PSs.imp pss_nil fun D σ H ⟨x, z, env, M, g, s, q⟩ => q H g s.c Le.refl σ s.sl
theorem x_if (ht : PT X e (TXT X.K cA i a cls d ta)) (h1 : PSs X sts (TXS X.K cA i a cls d ms)) (h2 : PSs X sts2 (TXS X.K cA i a cls d mt)) : PS X (.If e sts sts2 pos) (TXS X.K cA i a cls d fun x => sIf (ta x) (ms x) (mt x)) :=
  PS.imp (ps_if ht h1 h2) fun D σ H ⟨x, z, env, M, g, s, q⟩ => by
    refine ⟨x, z, env, M, g, s, Res.imp (fun k M1 g1 H1 c1 l1 q1 => ?_) (sx_of q s.sl)⟩
    cases k with
    | true => exact iteT ⟨x, z, env, M1, g1, s.step c1 l1, q1⟩
    | false => exact iteF ⟨x, z, env, M1, g1, s.step c1 l1, q1⟩
theorem x_last (h : PS X st (TXS X.K cA i a cls d ms)) : PSs X [st] (TXS X.K cA i a cls d ms) := pss_one h
/-- a statement that returns or goes on with the slots as they were -/
def sStay (a b : SD) : SD := fun env M => (a env M).bind fun o M1 => match o with
  | .nx _ => b env M1
  | .rt w => .ok (.rt w) M1
  | _ => .no
/-- if test: return .., then the rest -/
theorem x_ifRet {e2 : Expr} {p2 : Pos} (ht : PT X e (TXT X.K cA i a cls d ta)) (h1 : PE X e2 (TXE X.K cA i a cls d ma)) (h2 : PSs X sts (TXS X.K cA i a cls d mt)) : PSs X (.If e [.Return (some e2) p2] [] pos :: sts) (TXS X.K cA i a cls d fun x => sIf (ta x) (sRet (ma x)) (mt x)) :=
  PSs.imp (pss_cons (ps_if ht (pss_one (ps_ret h1)) pss_nil) h2) fun D σ H ⟨x, z, env, M, g, s, q⟩ => by
    refine ⟨x, z, env, M, g, s, Res.imp (fun k M1 g1 H1 c1 l1 q1 => ?_) (sx_of q s.sl)⟩
    cases k with
    | true => exact iteT ⟨x, z, env, M1, g1, s.step c1 l1, Res.imp (fun w M2 g2 H2 c2 l2 q2 v rv => q2 H2 g2 c2 Le.refl v rv) (sx_of q1 (s.sl.mono l1))⟩
    | false => exact iteF ⟨x, z, env, M1, g1, s.step c1 l1, q1⟩
end

/-! ### isinstance(e, ..), e.f -/
/-- an own exception class: what isinstance and the reading of a field ask -/
structure XC (K : PySem.W.Frag) (C : Addr) : Prop where
  hcl : (PySem.W.clsIn K C).isSome = true
  ga : PySem.W.findIn K (.ref C) "__getattribute__" = some (some (.builtin "BaseException.__getattribute__"))
  gg : PySem.W.findIn K (.ref C) "__getattr__" = some none
  sb : PySem.W.subIn K (.ref C) (.type "BaseException") = some true
  ha : PySem.W.findIn K (.ref C) "__class__" = some (some (.builtin "object.__class__"))
  hn : PySem.W.specialIn K (.builtin "object.__class__") "__get__" = some (some (.builtin "getset_descriptor.__get__"))
  htk : PySem.W.takesIn K (.builtin "object.__class__") = some true
  hm : PySem.W.mroIn K C (.type "object") = some true
  hd : PySem.W.hasDictIn K C = true
/-- the exception's dict, where it has one -/
def XdAt (d : Option Addr) (H : Hp) : Prop := d = none ∨ ∃ dd fs, d = some dd ∧ H dd = some (.xd fs)
theorem RX.xd {K : PySem.W.Frag} {cA : CA} {g : Gh} {x : Exn} {cls : Value} {d : Option Addr} {H : Hp} (r : RX K cA g x cls d) (s : L2.Same g.F H) : XdAt d H := r.2.elim (fun h => .inl h.2.2) fun ⟨dd, vs, e, e1, _⟩ => .inr ⟨dd, _, e, s _ _ e1⟩
def rIsX (K : PySem.W.Frag) (a : Addr) (cls : Value) (d : Option Addr) : List V → Hp → VK → Prop := fun xs H Q => ∃ C, cls = .ref C ∧ XC K C ∧ XdAt d H ∧
  ((∃ c u b, xs = [.ref a, c] ∧ ClsV c u ∧ PySem.W.kitOne K (.ref C) u = some b ∧ Q (.bl b) H) ∨ ∃ tp cs us b, xs = [.ref a, .ref tp] ∧ H tp = some (.tup cs) ∧ Paired ClsV cs us ∧ PySem.W.kitAny K (.ref C) us = some b ∧ Q (.bl b) H)
section
variable {X : Cx} {cA : CA} {i : Nat} {a : Addr} {oe : Obj} {cls : Value} {d : Option Addr} {pn : List (Addr × Obj)} {n : Str} {c : Expr} {cv : V} {u : Value} {us : List Value} {cs : List V} {es : List Expr} {tab : Nat → Option Bool} {p p' p2 pos : Pos} {k2 : Nat}
theorem inst_at {pins : List (Addr × Obj)} {σ : St} {H : Hp} {s : Shared} {C : Addr} (I : Inv (X.suite a ((a, oe) :: pn)) pins σ H s) (hz : Zc (.ref C) d oe) (hf : ∃ vs, oe.data = .fields vs) (hx : XdAt d H) : ∃ od, PySem.W.InstAt s.heap a oe C od := by
  obtain ⟨hget, _⟩ := I.pin (a, oe) (List.mem_append_left _ List.mem_cons_self)
  obtain ⟨vs, hv⟩ := hf
  obtain ⟨oc, od0, dt, sl⟩ := oe
  obtain ⟨h1, h2⟩ := hz
  dsimp only at h1 h2 hv
  subst h1 h2 hv
  rcases hx with rfl | ⟨dd, fs, rfl, e⟩
  · exact ⟨none, hget, rfl, rfl, trivial⟩
  · obtain ⟨mA, hns, _⟩ := (show ObjOk X.prog X.w H s.heap dd (.xd fs) from I.hok dd _ e)
    obtain ⟨od, ho, _⟩ := lookIn_ns hns
    exact ⟨some od, hget, rfl, rfl, ho⟩
theorem call_isX (hz : Zc cls d oe) (hf : ∃ vs, oe.data = .fields vs) : CallR (X.suite a ((a, oe) :: pn)) (.builtin "isinstance") (rIsX X.K a cls d) := by
  intro pins s σ H xs vs Q I r h
  obtain ⟨C, rfl, T, hx, h⟩ := h
  obtain ⟨od, J⟩ := inst_at I hz hf hx
  have Z := PySem.W.kitx_exc (x := a) (ox := oe) (od := od) T.hcl T.ga T.gg T.sb T.ha T.hn T.htk T.hm
  rcases h with ⟨c, u, b, rfl, hc, e, q⟩ | ⟨tp, cs, us, b, rfl, hT, hc, e, q⟩
  · obtain ⟨u1, u2, rfl, r1, r2⟩ := vals2 r
    have e2 := hc.eq r2
    subst e2
    cases (show u1 = Value.ref a from r1)
    exact PySem.W.kia_one Z I.kIn J e (fun z => nomatch z) fun tk => ⟨.bl b, H, I.tok tk, rfl, q⟩
  · obtain ⟨u1, u2, rfl, r1, r2⟩ := vals2 r
    cases (show u1 = Value.ref a from r1)
    cases (show u2 = Value.ref tp from r2)
    obtain ⟨_, its, rv, o, h1, h2, m, h3⟩ := (show ObjOk X.prog X.w H s.heap tp (.tup cs) from I.hok tp _ hT)
    have e3 := ClsV.all hc rv
    subst e3
    obtain ⟨oc, od1, dt, sl⟩ := o
    dsimp only at h2 h3
    subst h2 h3
    exact PySem.W.kia_tup Z I.kIn J h1 e (fun z => nomatch z) fun tk => ⟨.bl b, H, I.tok tk, rfl, q⟩
def eTabX (tab : Nat → Option Bool) (x : Exn) : ED := fun _ M => match tab x.t with
  | some b => .ok (.d (.bl b)) M
  | none => .no
theorem x_isE (hz : Zc cls d oe) (hf : ∃ vs, oe.data = .fields vs) (hm : X.mg "isinstance" = none) (hN : X.N[i]? = some n) (hv : Vis X.env.scope n) (hc : PE (X.suite a ((a, oe) :: pn)) c (tC cv)) (kc : ClsV cv u)
    (ht : ∀ t b, tab t = some b → PySem.W.kitOne X.K (.ref (cA t)) u = some b ∧ XC X.K (cA t)) (hg : Gl X "isinstance" := by rfl) (hd : (n == ("__debug__" : Str)) = false := by decide) (hcd : (n == ("__classdict__" : Str)) = false := by decide)
    (h1 : starEach (.Name n p' :: [c]) X.env = (false, eval (.Name n p') X.env) :: starEach [c] X.env := by rfl) (h2 : starEach (c :: []) X.env = (false, eval c X.env) :: starEach [] X.env := by rfl) (hpl : (backTo pos (starEach [c] X.env)).any (·.1) = false := by rfl) :
    PE (X.suite a ((a, oe) :: pn)) (.Call (.Name "isinstance" p) [.Name n p', c] [] pos) (TXE X.K cA i a cls d fun x => eTabX tab x) :=
  PE.imp (pe_callB (X := X.suite a ((a, oe) :: pn)) (call_isX hz hf) hg hm (by decide +kernel) (pa_cons (pe_var (X := X.suite a ((a, oe) :: pn)) hN hv hd hcd) (pa_cons hc pa_nil h2) h1) (by decide) (by decide) h1 hpl) fun σ H Q ⟨x, z, env, M, g, s, q⟩ => by
    unfold eTabX at q
    cases e : tab x.t with
    | none => simp [e, Res] at q
    | some b =>
      simp only [e] at q
      obtain ⟨k1, k2⟩ := ht _ _ e
      exact ⟨.ref a, s.at_, _, s.rx.1, k2, s.rx.xd s.c.sub, .inl ⟨cv, u, b, rfl, kc, k1, q H g s.c Le.refl _ rfl⟩⟩
theorem x_isT (hz : Zc cls d oe) (hf : ∃ vs, oe.data = .fields vs) (hm : X.mg "isinstance" = none) (hN : X.N[i]? = some n) (hv : Vis X.env.scope n) (hc : PA (X.suite a ((a, oe) :: pn)) es (fun _ H Q => Q cs H)) (hl : cs.length ≤ sizeLine) (kc : Paired ClsV cs us)
    (ht : ∀ t b, tab t = some b → PySem.W.kitAny X.K (.ref (cA t)) us = some b ∧ XC X.K (cA t)) (hg : Gl X "isinstance" := by rfl) (hd : (n == ("__debug__" : Str)) = false := by decide) (hcd : (n == ("__classdict__" : Str)) = false := by decide)
    (h1 : starEach (.Name n p' :: [.Tuple es k2 p2]) X.env = (false, eval (.Name n p') X.env) :: starEach [.Tuple es k2 p2] X.env := by rfl) (h2 : starEach (.Tuple es k2 p2 :: []) X.env = (false, eval (.Tuple es k2 p2) X.env) :: starEach [] X.env := by rfl) (hpl : (backTo pos (starEach [.Tuple es k2 p2] X.env)).any (·.1) = false := by rfl) :
    PE (X.suite a ((a, oe) :: pn)) (.Call (.Name "isinstance" p) [.Name n p', .Tuple es k2 p2] [] pos) (TXE X.K cA i a cls d fun x => eTabX tab x) :=
  PE.imp (pe_callB (X := X.suite a ((a, oe) :: pn)) (call_isX hz hf) hg hm (by decide +kernel) (pa_cons (pe_var (X := X.suite a ((a, oe) :: pn)) hN hv hd hcd) (pa_cons (pe_tup hc) pa_nil h2) h1) (by decide) (by decide) h1 hpl) fun σ H Q ⟨x, z, env, M, g, s, q⟩ => by
    unfold eTabX at q
    cases e : tab x.t with
    | none => simp [e, Res] at q
    | some b =>
      simp only [e] at q
      obtain ⟨k1, k2⟩ := ht _ _ e
      refine ⟨.ref a, s.at_, hl, fun tp hp => ⟨_, s.rx.1, k2, ?_, .inr ⟨tp, cs, us, b, rfl, upd_same, kc, k1, ?_⟩⟩⟩
      · exact (s.rx.xd s.c.sub).elim .inl fun ⟨dd, fs, e1, e2⟩ => .inr ⟨dd, fs, e1, (upd_ne (ne_of_none e2 hp)).trans e2⟩
      · exact q _ g (s.c.scrib (s.c.fresh hp) (plain_no hp)) Le.refl _ rfl
/-- the field f of an exception of the class with the tag t -/
def eFldX (t : Nat) (f : Str) (x : Exn) : ED := fun _ M => if x.t = t then (match (x.ns.zip x.ws).lookup f with
  | some y => .ok (.d y) M
  | none => .no) else .no
theorem zip_rep {K : PySem.W.Frag} {F : Hp} {f : Str} {y : D} : ∀ {ns : List Str} {l : List D} {vs : List V}, RepL K cA F l vs → (ns.zip l).lookup f = some y → ∃ v, (ns.zip vs).lookup f = some v ∧ Rep K cA F y v
  | [], _, _, _, e => by cases e
  | m :: ns, [], _, _, e => by cases e
  | m :: ns, z :: l, _, r, e => by
    obtain ⟨v, vs, rfl, r1, r2⟩ := r
    rw [List.zip_cons_cons, List.lookup_cons] at e ⊢
    cases q : (f == m) with
    | true =>
      rw [q] at e
      cases (Option.some.inj e)
      exact ⟨v, rfl, r1⟩
    | false =>
      rw [q] at e
      exact zip_rep r2 e
theorem x_fld {t : Nat} {f : Str} (hz : Zc cls d oe) (hf : ∃ vs, oe.data = .fields vs) (T : XC X.K (cA t)) (hno : PySem.W.findIn X.K (.ref (cA t)) f = some none) (hN : X.N[i]? = some n) (hv : Vis X.env.scope n) (hd : (n == ("__debug__" : Str)) = false := by decide) (hcd : (n == ("__classdict__" : Str)) = false := by decide)
    (hb : attributeBase (.Name n p') f X.env (eval (.Name n p') X.env) = eval (.Name n p') X.env := by rfl) : PE (X.suite a ((a, oe) :: pn)) (.Attribute (.Name n p') f pos) (TXE X.K cA i a cls d fun x => eFldX t f x) :=
  PE.imp (pe_xf (X := X) (C := cA t) ⟨T.ga, T.gg, T.sb, T.hd⟩ hno hz hf (pe_var (X := X.suite a ((a, oe) :: pn)) hN hv hd hcd) hb) fun σ H Q ⟨x, z, env, M, g, s, q⟩ => by
    dsimp only [eFldX] at q
    by_cases ht : x.t = t
    case neg => rw [if_neg ht] at q; exact q.elim
    rw [if_pos ht] at q
    cases e : (x.ns.zip x.ws).lookup f with
    | none => simp [e, Res] at q
    | some y =>
      simp only [e] at q
      obtain ⟨e1, e2⟩ := s.rx
      rcases e2 with ⟨h1, h2, _⟩ | ⟨dd, vs, h1, h2, h3, h4⟩
      · rw [h1] at e; cases e
      · obtain ⟨v, l, rv⟩ := zip_rep h4 e
        exact ⟨.ref a, s.at_, rfl, by rw [e1, ht], dd, _, v, h1, s.c.sub _ _ h2, l, q H g s.c Le.refl v rv⟩
end

/-! ### tables by tags -/
def xTab (t0 t1 : List Nat) (t : Nat) : Option Bool := if t0.contains t = true then some true else if t1.contains t = true then some false else none
theorem xTab_of {R : Nat → Bool → Prop} {t0 t1 : List Nat} (h0 : ∀ t ∈ t0, R t true) (h1 : ∀ t ∈ t1, R t false) : ∀ t b, xTab t0 t1 t = some b → R t b := fun t b e => by
  unfold xTab at e
  by_cases q : t0.contains t = true
  · rw [if_pos q] at e
    cases e
    exact h0 t (List.contains_iff_mem.mp q)
  · rw [if_neg q] at e
    by_cases q1 : t1.contains t = true
    · rw [if_pos q1] at e
      cases e
      exact h1 t (List.contains_iff_mem.mp q1)
    · rw [if_neg q1] at e
      cases e
section
variable {K : PySem.W.Frag} {cA : CA} {t0 t1 : List Nat} {c u : Value} {us : List Value}
theorem xTab_exm (h0 : ∀ t ∈ t0, PySem.W.exmOne K (.ref (cA t)) c = some true) (h1 : ∀ t ∈ t1, PySem.W.exmOne K (.ref (cA t)) c = some false) : ∀ t b, xTab t0 t1 t = some b → PySem.W.exmOne K (.ref (cA t)) c = some b := xTab_of (R := fun t b => PySem.W.exmOne K (.ref (cA t)) c = some b) h0 h1
theorem xTab_one (h0 : ∀ t ∈ t0, PySem.W.kitOne K (.ref (cA t)) u = some true ∧ XC K (cA t)) (h1 : ∀ t ∈ t1, PySem.W.kitOne K (.ref (cA t)) u = some false ∧ XC K (cA t)) : ∀ t b, xTab t0 t1 t = some b → PySem.W.kitOne K (.ref (cA t)) u = some b ∧ XC K (cA t) := xTab_of (R := fun t b => PySem.W.kitOne K (.ref (cA t)) u = some b ∧ XC K (cA t)) h0 h1
theorem xTab_any (h0 : ∀ t ∈ t0, PySem.W.kitAny K (.ref (cA t)) us = some true ∧ XC K (cA t)) (h1 : ∀ t ∈ t1, PySem.W.kitAny K (.ref (cA t)) us = some false ∧ XC K (cA t)) : ∀ t b, xTab t0 t1 t = some b → PySem.W.kitAny K (.ref (cA t)) us = some b ∧ XC K (cA t) := xTab_of (R := fun t b => PySem.W.kitAny K (.ref (cA t)) us = some b ∧ XC K (cA t)) h0 h1
end

/-! ### try -/
def sTry (body : SD) (i : Nat) (tab : Nat → Option Bool) (suite : Exn → SD) : SD := fun env M => (body env M).bind fun o M1 => match o with
  | .nx e => .ok (.nx e) M1
  | .rt w => .ok (.rt w) M1
  | .bk e => .ok (.bk e) M1
  | .ct e => .ok (.ct e) M1
  | .xc e x => if i < e.length then (match tab x.t with
    | some true => (suite x (e.set i none) M1).bind fun o2 M2 => (match o2 with
      | .nx e2 => .ok (.nx (e2.set i none)) M2
      | .rt w => .ok (.rt w) M2
      | .bk e2 => .ok (.bk (e2.set i none)) M2
      | .ct e2 => .ok (.ct (e2.set i none)) M2
      | .xc _ _ => .no)
    | some false => .ok (.xc e x) M1
    | none => .no) else .no
theorem Slots.mask {K : PySem.W.Frag} {cA : CA} {g : Gh} {n : Nat} {env : Ev} {σ : St} (h : Slots K cA g n env σ) (i : Nat) (o : Option V) : Slots K cA g n (env.set i none) (σ.set i o) := by
  refine ⟨by rw [List.length_set, List.length_set]; exact h.1, fun j u e => ?_⟩
  by_cases hj : i = j
  · subst hj
    by_cases hl : i < env.length
    · rw [List.getElem?_set_self hl] at e; cases e
    · rw [List.getElem?_eq_none_iff.mpr (by rw [List.length_set]; omega)] at e; cases e
  · rw [List.getElem?_set_ne hj] at e ⊢
    exact h.2 j u e
section
variable {X : Cx} {cA : CA} {Wx : WX} {i : Nat} {n x : Str} {c : Value} {tab : Nat → Option Bool} {body suite : List Stmt} {b₀ : Stmt} {mb : SD} {ms : Exn → SD} {np pos pos' : Pos}
theorem s_try (hs : X.stack = X.env :: X.outer) (hf : X.env.frame = some X.env.locals) (hN : X.N.Nodup) (tk : Takes X Wx) (hc : Names X x c) (htab : ∀ t b, tab t = some b → PySem.W.exmOne X.K (.ref (cA t)) c = some b)
    (hb : ∀ (W : WX) (pn : List (Addr × Obj)) (xe : Value → Shared → Prop), Takes (X.tr pn xe) W → PassesOwn (model X.prog X.w) X.A X.env xe → PSs (X.tr pn xe) body (TSD X.K cA W mb))
    (hsu : ∀ (a : Addr) (oe : Obj) (cls : Value) (d : Option Addr) (pn : List (Addr × Obj)), Zc cls d oe → (∃ vs, oe.data = .fields vs) → PSs (X.suite a ((a, oe) :: pn)) (b₀ :: suite) (TXS X.K cA i a cls d ms))
    (hi : X.N[i]? = some n := by rfl) (hln : X.env.kindOf n = some .local := by rfl) :
    PS X (.Try body [.ExceptHandler (some (.Name x np)) (some n) (b₀ :: suite) pos'] [] [] pos) (TSD X.K cA Wx (sTry mb i tab ms)) :=
  PS.imp (ps_try_as (tb := fun W => TSD X.K cA W mb) (ts := fun a cls d => TXS X.K cA i a cls d ms) hs hf hN hi hln hc tk hb hsu) fun D σ H ⟨z, env, M, g, c0, sl, q⟩ => by
    refine ⟨z, env, M, g, c0, sl, Res.imp (fun o M1 g1 H1 c1 l1 q1 => ?_) q.of_bind⟩
    cases o with
    | nx e => exact fun σ' sl' => q1 H1 g1 c1 Le.refl σ' sl'
    | rt w => exact fun v rv => q1 H1 g1 c1 Le.refl v rv
    | bk e => exact fun σ' sl' => q1 H1 g1 c1 Le.refl σ' sl'
    | ct e => exact fun σ' sl' => q1 H1 g1 c1 Le.refl σ' sl'
    | xc e x =>
      intro σ' cls d sl' rx
      by_cases hl : i < e.length
      case neg => simp only [if_neg hl] at q1; exact q1.elim
      simp only [if_pos hl] at q1
      cases et : tab x.t with
      | none => simp [et, Res] at q1
      | some b =>
        refine ⟨b, by rw [rx.1]; exact htab _ _ et, ?_, ?_⟩
        · intro hbt a na
          subst hbt
          simp only [et] at q1
          refine ⟨x, z, e.set i none, M1, g1, ⟨c1, sl'.mask i _, List.getElem?_set_self (by rw [← sl'.1]; exact hl), rx⟩, Res.imp (fun o2 M2 g2 H2 c2 l2 q2 => ?_) q1.of_bind⟩
          cases o2 with
          | nx e2 => exact fun σ2 sl2 => q2 H2 g2 c2 Le.refl _ (sl2.gone i)
          | rt w => exact fun v rv => q2 H2 g2 c2 Le.refl v rv
          | bk e2 => exact fun σ2 sl2 => q2 H2 g2 c2 Le.refl _ (sl2.gone i)
          | ct e2 => exact fun σ2 sl2 => q2 H2 g2 c2 Le.refl _ (sl2.gone i)
          | xc e2 x2 => exact q2.elim
        · intro hbf
          subst hbf
          simp only [et] at q1
          exact q1 H1 g1 c1 Le.refl σ' cls d sl' rx
end
end DL

/-! Layer D: f-strings, str(x) of an own class, C(k = v, ..). -/
namespace DL
open PySem PySem.Spec PyProof.Rows L2

/-! ### f-strings -/
def dFmt : D → Option D
  | .int i => if i.natAbs.log2 < 1920 then some (.str (toString i)) else none
  | .str y => if y.length ≤ sizeLine then some (.str y) else none
  | _ => none
/-- the texts one behind the other -/
def eJs : List ED → Str → ED
  | [], acc => fun _ M => .ok (.d (.str acc)) M
  | m :: ms, acc => fun env M => (m env M).bind fun w M1 => match w with
    | .d (.str y) => if (acc ++ y).length ≤ sizeLine then eJs ms (acc ++ y) env M1 else .no
    | _ => .no
inductive PDs (X : Cx) (cA : CA) (Wx : WX) : List Expr → List ED → Prop where
  | nil : PDs X cA Wx [] []
  | cons {e : Expr} {m : ED} {es : List Expr} {ms : List ED} (h : PE X e (TED X.K cA Wx m)) (r : PDs X cA Wx es ms) : PDs X cA Wx (e :: es) (m :: ms)
section
variable {X : Cx} {cA : CA} {Wx : WX} {e e1 e2 : Expr} {es : List Expr} {m : ED} {ms : List ED} {pos : Pos}
theorem d_fmt (h : PE X e (TED X.K cA Wx m)) : PE X (.FormattedValue e (-1) none pos) (TED X.K cA Wx (DL.e1 (pu1 dFmt) m)) := PE.imp (pe_fmt h) fun σ H Q ⟨z, env, M, g, c, sl, q⟩ => by
  refine ⟨z, env, M, g, c, sl, Res.imp (fun w M1 g1 H1 c1 l1 q1 v rv => ?_) q.of_bind⟩
  unfold pu1 at q1
  cases ed : nd M1 w with
  | none => simp [ed, Res] at q1
  | some x =>
    have rx := nd_rep c1 rv ed
    simp only [ed, Option.bind_some] at q1
    cases x with
    | int i =>
      cases (show v = V.int i from rx)
      simp only [dFmt] at q1
      by_cases h : i.natAbs.log2 < 1920
      · rw [if_pos h] at q1
        exact .inr ⟨i, rfl, h, q1 H1 g1 c1 Le.refl _ rfl⟩
      · rw [if_neg h] at q1; exact q1.elim
    | str y =>
      cases (show v = V.str y from rx)
      simp only [dFmt] at q1
      by_cases h : y.length ≤ sizeLine
      · rw [if_pos h] at q1
        exact .inl ⟨y, rfl, h, q1 H1 g1 c1 Le.refl _ rfl⟩
      · rw [if_neg h] at q1; exact q1.elim
    | _ => exact q1.elim
theorem pds_pj (h : PDs X cA Wx es ms) : PJ X es (ms.map (TED X.K cA Wx)) := by
  induction h with
  | nil => exact .nil
  | cons h r ih => exact .cons h ih
theorem js_run {σ : St} {z : Z0} {env : Ev} {Q : VK} : ∀ {ms : List ED} {acc : Str} {M : Sto} {g : Gh} {H : Hp}, Cf X.K cA z H M g → Slots X.K cA g M.length env σ → Res X.K cA z g M.length (EX X.K cA Wx σ) (eJs ms acc env M) (fun w M' g' H' => ∀ v, RW X.K cA g' M'.length w v → Q v H') →
    tJs (ms.map (TED X.K cA Wx)) acc σ H fun out H1 => Q (.str out) H1
  | [], acc, M, g, H, c, sl, q => q H g c Le.refl _ rfl
  | m :: ms, acc, M, g, H, c, sl, q => by
    refine ⟨z, env, M, g, c, sl, Res.imp (fun w M1 g1 H1 c1 l1 q1 v rv => ?_) q.of_bind⟩
    cases w with
    | m k => exact q1.elim
    | d x =>
      cases x with
      | str y =>
        cases (show v = V.str y from rv)
        dsimp only at q1
        by_cases h : (acc ++ y).length ≤ sizeLine
        · rw [if_pos h] at q1
          exact ⟨y, rfl, h, js_run c1 (sl.mono l1) q1⟩
        · rw [if_neg h] at q1; exact q1.elim
      | _ => exact q1.elim
theorem d_fstr (h : PDs X cA Wx (e1 :: e2 :: es) ms) : PE X (.JoinedStr (e1 :: e2 :: es) pos) (TED X.K cA Wx (eJs ms Str.empty)) := PE.imp (pe_joined (pds_pj h)) fun σ H Q ⟨z, env, M, g, c, sl, q⟩ => js_run c sl q
end

/-! ### str(x), x an instance of an own class with __str__ -/
section
variable {X : Cx} {cA : CA} {Wx : WX} {k n t : Nat} {fa C : Addr} {fd : FuncData} {ps : List Str} {f c : FD} {sp : Sp} {e : Expr} {m : ED} {p pos : Pos}
def rStrO (C : Addr) (sp : Sp) : List V → Hp → VK → Prop := fun xs H Q => ∃ a dx fs, xs = [.ref a] ∧ H a = some (.ins C dx fs) ∧ sp [.ref a] H (fun v H' => ∃ y, v = .str y ∧ Q (.str y) H') never
theorem call_strO (F : FnOk X.prog X.w X.K X.mg X.base (L2.CX X.prog X.w) k fa fd ps sp) (hr : Room (k + 1 + 1) X.A) (hb : Binds X.K fd ps []) (hs : PySem.W.findIn X.K (.ref C) "__str__" = some (some (.ref fa))) (hf : PySem.W.isFn X.K (.ref fa) = true) : CallR X (.type "str") (rStrO C sp) := by
  intro pins s σ H xs us Q I r h
  obtain ⟨a, dx, fs, rfl, ha, hsp⟩ := h
  cases r with
  | cons r1 r2 =>
    cases r2
    cases (show _ = Value.ref a from r1)
    obtain ⟨mA, J, _⟩ := ins_get I.hok ha
    obtain ⟨od, J, _⟩ := J.look
    have len := F.len _ _ _ _ hsp
    have bind : BindsTo s fd ⟨[.ref a], []⟩ (ps.zip [.ref a]) := by
      have q := hb s [.ref a] I.kIn (by simpa using len)
      simpa using q
    refine PySem.W.kso_call hr.in1.in1.units0 I.kIn J hs hf (wpAny_call (codeAny_mono (F.run X.A.in1.in1 X.stack s H ⟨[.ref a], []⟩ [.ref a] [.ref a] _ never hr.in1.in1 I.env0.in1.in1 bind (.cons rfl .nil) hsp) fun r s' hq => ?_))
    match r, hq with
    | .error z, hq => exact passNever (σ := σ) pins H s z s' I hq
    | .ok (.ret w), hq =>
      obtain ⟨z, H', I', rz, y, ez, q⟩ := I.after hq
      subst ez
      obtain ⟨tk, rfl⟩ := rz
      exact ⟨.str y, H', I', ⟨tk, rfl⟩, q⟩
    | .ok .next, hq => exact False.elim hq
    | .ok .brk, hq => exact False.elim hq
    | .ok .cont, hq => exact False.elim hq
def strOw (t : Nat) (c : FD) (w : Wv) (M : Sto) : Rs Wv := if insw t "" w M = true then (nx (c [w] M)).bind fun r M' => (match r with
  | .d (.str y) => .ok (.d (.str y)) M'
  | _ => .no) else .no
theorem d_strO (F : FnOk X.prog X.w X.K X.mg X.base (L2.CX X.prog X.w) k fa fd ps (spD X.K cA n f)) (co : CallOk X.K cA n f c) (hr : Room (k + 1 + 1) X.A) (hb : Binds X.K fd ps []) (hs : PySem.W.findIn X.K (.ref (cA t)) "__str__" = some (some (.ref fa))) (hf : PySem.W.isFn X.K (.ref fa) = true)
    (hm : X.mg "str" = none) (ha : PE X e (TED X.K cA Wx m)) (hg : Gl X "str" := by rfl) (he : starEach (e :: []) X.env = (false, eval e X.env) :: starEach [] X.env := by rfl) (hpl : (backTo pos (starEach [] X.env)).any (·.1) = false := by rfl) :
    PE X (.Call (.Name "str" p) [e] [] pos) (TED X.K cA Wx (DL.e1 (strOw t c) m)) := PE.imp (pe_callTy (call_strO F hr hb hs hf) hg hm (by decide +kernel) (pa_cons ha pa_nil he) (by decide) (by decide) he hpl) fun σ H Q ⟨z, env, M, g, cc, sl, q⟩ => by
  refine ⟨z, env, M, g, cc, sl, Res.imp (fun w M1 g1 H1 c1 l1 q1 v rv => ?_) q.of_bind⟩
  unfold strOw at q1
  by_cases hi : insw t "" w M1 = true
  case neg => rw [if_neg hi] at q1; exact q1.elim
  rw [if_pos hi] at q1
  obtain ⟨a, dx, fs, rfl, e2, _⟩ := insw_at c1 rv hi
  refine ⟨a, dx, fs, rfl, e2, co z H1 M1 g1 [w] [.ref a] never (fun v H' => ∃ y, v = .str y ∧ Q (.str y) H') c1 (.cons rv .nil) ?_⟩
  cases hc : c [w] M1 with
  | no => rw [hc] at q1; exact q1.elim
  | ex e M' => rw [hc] at q1; exact q1.elim
  | ok u M' =>
    rw [hc] at q1
    cases u with
    | m j => exact q1.elim
    | d x =>
      cases x with
      | str y => exact fun H' g' c' l' v rv => ⟨y, rv, q1 H' g' c' l' _ rfl⟩
      | _ => exact q1.elim
end

/-! ### C(k = v, ..): all parameters told by name -/
section
variable {X : Cx} {cA : CA} {Wx : WX} {e : Expr} {kws : List Keyword} {m : ED} {mr : AD} {nm : Option Str} {kpos p pos : Pos} {t k n : Nat} {fa : Addr} {fd : FuncData} {ps ks : List Str} {f c : FD} {x : Str} {gs : List Value → List Value → List Value}
theorem k_nil : PK X [] (TAD X.K cA Wx aNil) := ⟨fun pos pins s σ H Q I ⟨z, env, M, g, c, sl, q⟩ => pk_nil.run pos pins s σ H Q I (q H g c Le.refl [] .nil)⟩
theorem k_cons (ha : PE X e (TED X.K cA Wx m)) (hr : PK X kws (TAD X.K cA Wx mr)) : PK X (⟨nm, e, kpos⟩ :: kws) (TAD X.K cA Wx (aCons m mr)) :=
  ⟨fun pos pins s σ H Q I ⟨z, env, M, g, c, sl, q⟩ => (pk_cons ha hr).run pos pins s σ H Q I (by
    refine ⟨z, env, M, g, c, sl, Res.imp (fun w M1 g1 H1 c1 l1 q1 v rv => ?_) q.of_bind⟩
    refine ⟨z, env, M1, g1, c1, sl.mono l1, Res.imp (fun ws M2 g2 H2 c2 l2 q2 vs rvs => ?_) q1.of_bind⟩
    exact q2 H2 g2 c2 Le.refl _ (.cons (rv.mono l2) rvs))⟩
def eCallN (n : Nat) (c : FD) (a : AD) : ED := fun env M => (a env M).bind fun ws M1 => if ws.length = n then nx (c ws M1) else .no
theorem d_makeK {n1 : Nat} (M : Mk X.K (cA t) fa) (F : FnOk X.prog X.w X.K X.mg X.base (L2.CX X.prog X.w) k fa fd ps (spD X.K cA n f)) (co : MakeOk X.K cA t n f c) (hr : Room (k + 1) X.A) (hm : X.mg x = some (.ref (cA t))) (hb : KBn X.K fd ps 1 ks gs (fun vs zs => vs ++ zs))
    (hk : PK X kws (TAD X.K cA Wx mr)) (hn1 : ks.length = n1 := by rfl) (hg : Gl X x := by rfl) (hall : (backToKw pos (keywordEach kws X.env)).all (·.1.isSome) = true := by rfl) (hks : (backToKw pos (keywordEach kws X.env)).filterMap (·.1) = ks := by rfl) (hdb : (x == ("__debug__" : Str)) = false := by decide)
    (hpl : ((backTo pos (starEach [] X.env)).any (·.1) || (backToKw pos (keywordEach kws X.env)).any (·.1.isNone)) = false := by rfl) :
    PE X (.Call (.Name x p) [] kws pos) (TED X.K cA Wx (eCallN n1 c mr)) := PE.imp (pe_makeK0 (E := never) M F hr hg hm hb passL hk hall hks hdb hpl) fun σ H Q ⟨z, env, M, g, cc, sl, q⟩ => by
  refine ⟨z, env, M, g, cc, sl, Res.imp (fun ws M1 g1 H1 c1 l1 q1 vs rv => ?_) q.of_bind⟩
  subst hn1
  by_cases hl : ws.length = ks.length
  case neg => rw [if_neg hl] at q1; exact q1.elim
  rw [if_pos hl] at q1
  exact ⟨rfl, by rw [← rv.length]; exact hl, fun y dy hy hdy hne => co z H1 M1 g1 ws vs never Q y dy c1 rv hy hdy hne q1.nx'⟩
end
end DL

/-! Layer D: the evaluator: exceptions, f-strings. -/
namespace DL
open PySem
section
variable {P : PO} {Q : PV} {E : PX} {env e : Ev} {M : Sto} {a b : SD} {m : ED} {ma : AD} {t i : Nat} {fs : List Str} {x : Exn} {w : Wv} {tab : Nat → Option Bool} {su : Exn → SD} {f : Str} {k : Bool} {y : D}
def kRaise (t : Nat) (fs : List Str) (env : Ev) (P : PO) : PL := fun ws M => match nds M ws with
  | some xs => xs.length = fs.length ∧ P (.xc env ⟨t, fs, xs⟩) M
  | none => False
theorem y_raise : (sRaise t fs ma env M).Is P E = (ma env M).Is (kRaise t fs env P) (kX env P) := by
  unfold sRaise
  rw [is_sx]
  congr
  funext ws M1
  unfold kRaise
  cases nds M1 ws with
  | none => rfl
  | some xs =>
    by_cases h : xs.length = fs.length
    · show (if xs.length = fs.length then _ else _ : Rs Out).Is P E = _
      rw [if_pos h]
      simp only [is_ok, h, true_and]
    · show (if xs.length = fs.length then _ else _ : Rs Out).Is P E = _
      rw [if_neg h, is_no]
      exact (eq_false fun z => h z.1).symm
theorem kRaise_0 : kRaise t [] env P [] M = P (.xc env ⟨t, [], []⟩) M := by
  exact propext ⟨fun h => h.2, fun h => ⟨rfl, h⟩⟩
theorem kRaise_1 : kRaise t [f] env P [.d y] M = P (.xc env ⟨t, [f], [y]⟩) M := by
  exact propext ⟨fun h => h.2, fun h => ⟨rfl, h⟩⟩
def kTry2 (i : Nat) (P : PO) : PO := fun o M => match o with
  | .nx e => P (.nx (e.set i none)) M
  | .rt w => P (.rt w) M
  | .bk e => P (.bk (e.set i none)) M
  | .ct e => P (.ct (e.set i none)) M
  | .xc _ _ => False
def kTry (i : Nat) (tab : Nat → Option Bool) (su : Exn → SD) (P : PO) (E : PX) : PO := fun o M => match o with
  | .nx e => P (.nx e) M
  | .rt w => P (.rt w) M
  | .bk e => P (.bk e) M
  | .ct e => P (.ct e) M
  | .xc e x => i < e.length ∧ match tab x.t with
    | some true => (su x (e.set i none) M).Is (kTry2 i P) E
    | some false => P (.xc e x) M
    | none => False
theorem y_try : (sTry a i tab su env M).Is P E = (a env M).Is (kTry i tab su P E) E := by
  unfold sTry
  rw [is_bind]
  congr
  funext o M1
  cases o with
  | xc e x =>
    unfold kTry
    by_cases h : i < e.length
    · simp only [h, if_true, true_and]
      cases tab x.t with
      | none => rfl
      | some k =>
        cases k with
        | false => rfl
        | true =>
          show (Rs.bind _ _).Is P E = _
          rw [is_bind]
          congr
          funext o2 M2
          cases o2 <;> rfl
    · simp only [h, if_false, false_and, is_no]
  | _ => rfl
theorem kTry_nx : kTry i tab su P E (.nx e) M = P (.nx e) M := rfl
theorem kTry_rt : kTry i tab su P E (.rt w) M = P (.rt w) M := rfl
theorem kTry2_rt : kTry2 i P (.rt w) M = P (.rt w) M := rfl
theorem kTry2_nx : kTry2 i P (.nx e) M = P (.nx (e.set i none)) M := rfl
theorem try_xc {ns : List Str} {ws : List D} (h : tab t = some true) (hi : i < e.length) : kTry i tab su P E (.xc e ⟨t, ns, ws⟩) M = (su ⟨t, ns, ws⟩ (e.set i none) M).Is (kTry2 i P) E := by
  show (i < e.length ∧ match tab t with
    | some true => (su ⟨t, ns, ws⟩ (e.set i none) M).Is (kTry2 i P) E
    | some false => P (.xc e ⟨t, ns, ws⟩) M
    | none => False) = _
  rw [h]
  simp only [hi, true_and]
theorem tabX_is {ns : List Str} {ws : List D} (h : tab t = some k) : (eTabX tab ⟨t, ns, ws⟩ env M).Is Q E = Q (.d (.bl k)) M := by
  show (match tab t with
  | some b => .ok (.d (.bl b)) M
  | none => .no : Rs Wv).Is Q E = _
  rw [h]
  rfl
theorem fldX_is {ns : List Str} {ws : List D} (h : (ns.zip ws).lookup f = some y) : (eFldX t f ⟨t, ns, ws⟩ env M).Is Q E = Q (.d y) M := by
  show (if t = t then (match (ns.zip ws).lookup f with
  | some y => .ok (.d y) M
  | none => .no) else .no : Rs Wv).Is Q E = _
  rw [if_pos rfl, h]
  rfl
theorem fldX1 : (eFldX t f ⟨t, [f], [y]⟩ env M).Is Q E = Q (.d y) M := fldX_is (by
  show ([(f, y)] : List (Str × D)).lookup f = _
  rw [List.lookup_cons, beq_self_eq_true])
/-! f-strings -/
def kJs (ms : List ED) (acc : Str) (env : Ev) (P : PV) (E : PX) : PV := fun w M => match w with
  | .d (.str y) => (acc ++ y).length ≤ sizeLine ∧ (eJs ms (acc ++ y) env M).Is P E
  | _ => False
theorem y_js0 {acc : Str} : (eJs [] acc env M).Is Q E = Q (.d (.str acc)) M := rfl
theorem y_jsC {ms : List ED} {acc : Str} : (eJs (m :: ms) acc env M).Is Q E = (m env M).Is (kJs ms acc env Q E) E := by
  show (Rs.bind _ _).Is Q E = _
  rw [is_bind]
  congr
  funext w M1
  unfold kJs
  cases w with
  | m k => rfl
  | d x =>
    cases x with
    | str z =>
      by_cases h : (acc ++ z).length ≤ sizeLine
      · simp only [h, if_true, true_and]
      · simp only [h, if_false, false_and, is_no]
    | _ => rfl
theorem js_str {ms : List ED} {acc z : Str} (h : (acc ++ z).length ≤ sizeLine) : kJs ms acc env Q E (.d (.str z)) M = (eJs ms (acc ++ z) env M).Is Q E := by
  show ((acc ++ z).length ≤ sizeLine ∧ _) = _
  simp only [h, true_and]
theorem fmt_int {j : Int} (h : j.natAbs.log2 < 1920) : dFmt (.int j) = some (.str (toString j)) := by
  show (if j.natAbs.log2 < 1920 then _ else _) = _
  rw [if_pos h]
/-! C(k = v), str(x) -/
def kCN (n : Nat) (c : FD) (P : PV) : PL := fun ws M => ws.length = n ∧ (c ws M).Is P nox
theorem y_callN {n : Nat} {c : FD} : (eCallN n c ma env M).Is Q E = (ma env M).Is (kCN n c Q) E := by
  unfold eCallN
  rw [is_bind]
  congr
  funext ws M1
  unfold kCN
  by_cases h : ws.length = n
  · rw [if_pos h, is_nx]
    simp only [h, true_and]
  · rw [if_neg h, is_no]
    exact (eq_false fun z => h z.1).symm
theorem kCN_2 {c : FD} {u v : Wv} : kCN 2 c Q [u, v] M = (c [u, v] M).Is Q nox := by
  show ([u, v].length = 2 ∧ _) = _
  simp only [List.length_cons, List.length_nil, true_and]
theorem strO_is {c : FD} {z : Str} (h : insw t "" w M = true) (hc : c [w] M = .ok (.d (.str z)) M) : (strOw t c w M).Is Q E = Q (.d (.str z)) M := by
  unfold strOw
  rw [if_pos h, hc]
  rfl
theorem ex_eq {α : Type} {r : Rs α} {x0 : Exn} {M0 : Sto} (h : r.Is (fun _ _ => False) fun x M => x = x0 ∧ M = M0) : r = .ex x0 M0 := by
  cases r with
  | ok a M => exact h.elim
  | no => exact h.elim
  | ex x M => obtain ⟨rfl, rfl⟩ := h; rfl
theorem mkF_x {n : Nat} {fd : FD} {ws : List D} {M' : Sto} (hl : ws.length + 1 = n) (h : fd (.m 0 :: ws.map .d) [.ins t [] []] = .ex x M') : mkF t n fd (ws.map .d) M = .ex x M := by
  unfold mkF
  rw [if_pos (by rw [List.length_map]; exact hl), preps_d]
  simp only [h]
end
end DL

/-! layer D, part AP: extend, sums of lists of the store, and what the parsers need -/
namespace DL
open PySem PySem.Spec PyProof.Rows L2
section
variable {X : Cx} {cA : CA} {Wx : WX}
variable {a b o e value : Expr} {es : List Expr} {f : Str} {pos pos' apos : Pos} {mo ma mb ml : ED} {mr : AD} {ts : List Nat}
/-- a list's items (a frozen one or one of the store) -/
def seqL (M : Sto) (w : Wv) : Option (List Wv) := match nw M w with
  | .d (.lst l) => some (l.map .d)
  | .d _ => none
  | .m k => match M[k]? with
    | some (.lst ws) => some ws
    | _ => none
theorem seqL_at {K : PySem.W.Frag} {z : Z0} {g : Gh} {H : Hp} {M : Sto} (c : Cf K cA z H M g) {w : Wv} {v : V} {us : List Wv} (r : RW K cA g M.length w v) (e : seqL M w = some us) : ∃ a vs, v = .ref a ∧ H a = some (.lst vs) ∧ vs.length ≤ sizeLine ∧ Paired (RW K cA g M.length) us vs := by
  have r' := rw_nw c r
  cases q : nw M w with
  | m k =>
    rw [q] at r'
    simp only [seqL, q] at e
    cases q2 : M[k]? with
    | none => simp [q2] at e
    | some mo =>
      cases mo with
      | lst ws =>
        simp only [q2, Option.some.injEq] at e
        subst e
        obtain ⟨vs, h1, h2, h3, h4⟩ := c.sto k _ q2
        exact ⟨_, vs, r'.2, h1, by rw [← show ws.length = vs.length from h4.length]; exact h3, h4⟩
      | _ => simp [q2] at e
  | d x =>
    rw [q] at r'
    simp only [seqL, q] at e
    cases x <;> simp only [Option.some.injEq, reduceCtorEq] at e
    subst e
    obtain ⟨a, vs, rfl, h1, h2, h3⟩ := r'
    exact ⟨a, vs, rfl, c.sub _ _ h1, h2, h3.wd rfl⟩
/-- l + m of lists, at least one of the store -/
def addM (w u : Wv) (M : Sto) : Rs Wv := match seqL M w, seqL M u with
  | some ws, some us => match nds M ws, nds M us with
    | some l, some m => if l.length + m.length ≤ sizeLine then .ok (.d (.lst (l ++ m))) M else .no
    | _, _ => .no
  | _, _ => .no
theorem ok_addM {K : PySem.W.Frag} : Ok2 K cA addM (rAddD K) := by
  intro z g H M E wx wy x y Q c rx ry q
  cases e1 : seqL M wx with
  | none => simp [addM, e1, Res] at q
  | some ws =>
    cases e2 : seqL M wy with
    | none => simp [addM, e1, e2, Res] at q
    | some us =>
      cases e3 : nds M ws with
      | none => simp [addM, e1, e2, e3, Res] at q
      | some l =>
        cases e4 : nds M us with
        | none => simp [addM, e1, e2, e3, e4, Res] at q
        | some m =>
          simp only [addM, e1, e2, e3, e4] at q
          by_cases hz : l.length + m.length ≤ sizeLine
          · rw [if_pos hz] at q
            obtain ⟨p, vs, rfl, h1, _, h3⟩ := seqL_at c rx e1
            obtain ⟨p', us', rfl, k1, _, k3⟩ := seqL_at c ry e2
            have rl := nds_rep c h3 e3
            have rm := nds_rep c k3 e4
            have hz' : vs.length + us'.length ≤ sizeLine := by rw [← rl.length, ← rm.length]; exact hz
            refine .inl (.inr ⟨p, p', vs, us', rfl, rfl, h1, k1, hz', fun t ht => ?_⟩)
            refine c.ans q ht ⟨t, vs ++ us', rfl, upd_same, by rw [List.length_append]; exact hz', ?_⟩
            have sm := Same.upd' (o := HO.lst (vs ++ us')) (c.sub.free ht)
            exact RepL.append (rl.mono sm) (rm.mono sm)
          · rw [if_neg hz] at q
            exact q.elim
theorem d_addM (ha : PE X a (TED X.K cA Wx ma)) (hb : PE X b (TED X.K cA Wx mb)) : PE X (.BinOp a .Add b pos) (TED X.K cA Wx (e2 addM ma mb)) := d_op op_addD ok_addM ha hb
/-- l.extend(m) -/
def eExtA (o : ED) (a : AD) : ED := fun env M => (o env M).bind fun w M1 => match lstAt w M1 with
  | none => .no
  | some _ => (a env M1).bind fun us M2 => match us with
    | [u] => match lstAt w M2, seqL M2 u with
        | some (k, ws), some us => if ws.length + us.length ≤ sizeLine then .ok (.d .non) (M2.set k (.lst (ws ++ us))) else .no
        | _, _ => .no
    | _ => .no
theorem ted_ext {σ : St} {H : Hp} {Q : VK} (h : TED X.K cA Wx (eExtA mo mr) σ H Q) : tBM X.K "list" rExtend (TED X.K cA Wx mo) (TAD X.K cA Wx mr) σ H Q := by
  obtain ⟨z, env, M, g, c, sl, q⟩ := h
  refine ⟨z, env, M, g, c, sl, Res.imp (fun w M1 g1 H1 c1 l1 q1 v rv => ?_) q.of_bind⟩
  cases e1 : lstAt w M1 with
  | none => simp [e1, Res] at q1
  | some p1 =>
    simp only [e1] at q1
    refine ⟨lstAt_ty c1 rv e1, z, env, M1, g1, c1, sl.mono l1, Res.imp (fun us M2 g2 H2 c2 l2 q2 xs rxs => ?_) q1.of_bind⟩
    match us, rxs, q2 with
    | [], .nil, q3 => exact q3.elim
    | _ :: _ :: _, .cons _ (.cons _ _), q3 => exact q3.elim
    | [u], .cons (b := y) ru .nil, q3 =>
      clear q2
      simp only at q3
      cases e2 : lstAt w M2 with
      | none => simp [e2, Res] at q3
      | some p2 =>
        obtain ⟨kk, ws⟩ := p2
        cases e3 : seqL M2 u with
        | none => simp [e2, e3, Res] at q3
        | some us =>
          simp only [e2, e3] at q3
          by_cases hz : ws.length + us.length ≤ sizeLine
          · rw [if_pos hz] at q3
            obtain ⟨rfl, hM⟩ := lstAt_some e2
            have rv2 := rv.mono l2
            obtain ⟨hk, rfl⟩ := rv2
            obtain ⟨vs, h1, h2, h3, h4⟩ := c2.sto kk _ hM
            obtain ⟨ab, zs, rfl, hb, _, rz⟩ := seqL_at c2 ru e3
            obtain ⟨c3, l3⟩ := c2.lst hM (Paired.append' h4 rz) (by rw [List.length_append]; exact hz)
            refine ⟨_, ab, vs, zs, rfl, rfl, h1, hb, ?_, q3 _ g2 c3 l3 .non rfl⟩
            rw [← show ws.length = vs.length from h4.length, ← show us.length = zs.length from rz.length]
            exact hz
          · rw [if_neg hz] at q3
            exact q3.elim
theorem d_extend (h : PE X (.Call (.Attribute o "extend" apos) (e :: es) [] pos) (tBM X.K "list" rExtend (TED X.K cA Wx mo) (TAD X.K cA Wx mr))) :
    PE X (.Call (.Attribute o "extend" apos) (e :: es) [] pos) (TED X.K cA Wx (eExtA mo mr)) := PE.imp h fun σ H Q q => ted_ext q
end
end DL

/-! Layer D: the evaluator: texts' methods and slices, extend, sums of lists of the store. -/
namespace DL
open PySem
section
variable {M : Sto} {P : PV} {E : PX} {env : Ev} {o : ED} {f : Str → Option D} {s : Str}
def kS0 (f : Str → Option D) (P : PV) : PV := fun w M => match w with
  | .d (.str s) => oo (f s) (kD P) M
  | _ => (match nd M w with
    | some (.str s) => rsd M (f s)
    | _ => .no : Rs Wv).Is P nox
theorem y_s0 : (eS0 f o env M).Is P E = (o env M).Is (kS0 f P) E := by
  unfold eS0
  rw [is_bind]
  congr
  funext w M1
  unfold kS0
  have hr : ∀ (q : Option D), (rsd M1 q : Rs Wv).Is P E = oo q (kD P) M1 := fun q => by cases q <;> rfl
  have hr2 : ∀ (q : Option D), (rsd M1 q : Rs Wv).Is P nox = oo q (kD P) M1 := fun q => by cases q <;> rfl
  cases w with
  | d x =>
    cases x with
    | str s => exact hr _
    | _ => rfl
  | m k =>
    simp only
    cases nd M1 (.m k) with
    | none => rfl
    | some x =>
      cases x with
      | str s => rw [hr, hr2]
      | _ => rfl
theorem kS0_ap : kS0 f P (.d (.str s)) M = oo (f s) (kD P) M := rfl
theorem y_slS {lo hi : Option Int} (h : s.length ≤ sizeLine) : (slw true (.d (.str s)) lo hi M).Is P E = P (.d (.str (L2.cutS s lo hi))) M := by
  show (if s.length ≤ sizeLine then .ok (.d (.str (L2.cutS s lo hi))) M else .no : Rs Wv).Is P E = _
  rw [if_pos h]
  rfl
end
section
variable {M : Sto} {P : PV} {E : PX} {env : Ev} {o : ED} {a : AD} {w u : Wv} {k : Nat} {us ws : List Wv} {l : List D}
theorem y_seqL : seqL M (.d (.lst l)) = some (l.map .d) := rfl
theorem seqL_m (h : M[k]? = some (.lst ws)) : seqL M (.m k) = some ws := by
  unfold seqL
  have e : nw M (.m k) = .m k := by
    unfold nw
    simp only [h]
  simp only [e, h]
theorem seqL_m0 {ws : List Wv} {M : Sto} : seqL (.lst ws :: M) (.m 0) = some ws := seqL_m rfl
def kExt4 (P : PV) (k : Nat) (ws : List Wv) : List Wv → Sto → Prop := fun us M => ws.length + us.length ≤ sizeLine ∧ P (.d .non) (M.set k (.lst (ws ++ us)))
def kExt3 (o : Option (List Wv)) (P : PV) : Nat × List Wv → Sto → Prop := fun p M => oo o (kExt4 P p.1 p.2) M
def kExt2 (w : Wv) (P : PV) : PL := fun us M => match us with
  | [u] => oo (lstAt w M) (kExt3 (seqL M u) P) M
  | _ => False
def kExt1 (a : AD) (env : Ev) (P : PV) (E : PX) : PV := fun w M => (lstAt w M).isSome = true ∧ (a env M).Is (kExt2 w P) E
theorem y_ext : (eExtA o a env M).Is P E = (o env M).Is (kExt1 a env P E) E := by
  unfold eExtA
  rw [is_bind]
  congr
  funext w M1
  unfold kExt1
  cases lstAt w M1 with
  | none => simp [is_no]
  | some p =>
    simp only [Option.isSome_some, true_and]
    rw [is_bind]
    congr
    funext us M2
    match us with
    | [] => rfl
    | _ :: _ :: _ => rfl
    | [u] =>
      show _ = oo (lstAt w M2) (kExt3 (seqL M2 u) P) M2
      try simp only []
      cases lstAt w M2 with
      | none => rfl
      | some p =>
        obtain ⟨k, ws⟩ := p
        show _ = oo (seqL M2 u) (kExt4 P k ws) M2
        try simp only []
        cases seqL M2 u with
        | none => rfl
        | some us =>
          show _ = (ws.length + us.length ≤ sizeLine ∧ P (.d .non) (M2.set k (.lst (ws ++ us))))
          try simp only []
          by_cases h : ws.length + us.length ≤ sizeLine
          · rw [if_pos h]
            simp only [is_ok, h, true_and]
          · rw [if_neg h]
            simp only [is_no, h, false_and]
theorem kExt1_ap : kExt1 a env P E w M = ((lstAt w M).isSome = true ∧ (a env M).Is (kExt2 w P) E) := rfl
theorem kExt2_1 : kExt2 w P [u] M = oo (lstAt w M) (kExt3 (seqL M u) P) M := rfl
theorem kExt3_some : kExt3 (some us) P (k, ws) M = (ws.length + us.length ≤ sizeLine ∧ P (.d .non) (M.set k (.lst (ws ++ us)))) := rfl
/-- sums of lists, one of the store -/
theorem addM_is {ls ms : List D} (h1 : seqL M w = some (ls.map .d)) (h2 : seqL M u = some (ms.map .d)) (h : ls.length + ms.length ≤ sizeLine) : (addM w u M).Is P E = P (.d (.lst (ls ++ ms))) M := by
  unfold addM
  simp only [h1, h2, nds_d]
  rw [if_pos h]
  rfl
end
end DL

/-! layer D, part AR: dicts of the store -/
namespace DL
open PySem PySem.Spec PyProof.Rows L2
section
variable {X : Cx} {cA : CA} {Wx W0 : WX}
variable {a b o e value : Expr} {pos pos' : Pos} {mo ma mb : ED}
/-- {k: v, ..}, a dict that is to be changed -/
def eDispM (prs : List (ED × ED)) : ED := fun env M => (evPairs prs env M).bind fun p M1 => match keysw p.1 with
  | some ks => if ks.Nodup ∧ ks.length ≤ 15 ∧ ks.length = p.2.length then .ok (.m M1.length) (M1 ++ [.dic ks p.2]) else .no
  | none => .no
theorem d_dispM {keys : List (Option Expr)} {values : List Expr} {prs : List (ED × ED)} (h : PPs X pos keys values (prs.map fun p => (TED X.K cA Wx p.1, TED X.K cA Wx p.2))) (hall : keys.all (·.isSome) = true := by rfl) (hl : keys.length = values.length := by rfl) (h0 : keys ≠ [] := by intro z; cases z) (h15 : keys.length ≤ 15 := by decide) :
    PE X (.Dict keys values pos) (TED X.K cA Wx (eDispM prs)) := PE.imp (pe_disp h hall hl h0 h15) fun σ H Q ⟨z, env, M, g, c, sl, q⟩ p hp => by
  have lo := c.fresh hp
  have c0 := c.scrib (ho := .dK []) lo (plain_no hp)
  have c1 := c0.enter
  refine ted_pairs (z := ent (upd H p (.dK [])) M g) c1 sl ((q.of_bind).ent c0) fun pr M1 g1 H1 ks vs c2 l2 q2 r1 r2 => ?_
  obtain ⟨eP, lo2⟩ := lo.step upd_same c2
  have c3 := c0.leave c2
  cases e1 : keysw pr.1 with
  | none => simp [e1, Res] at q2
  | some kl =>
    simp only [e1] at q2
    by_cases hz : kl.Nodup ∧ kl.length ≤ 15 ∧ kl.length = pr.2.length
    · rw [if_pos hz] at q2
      have ek := keysw_rep r1 e1
      have hlen : kl.length = vs.length := by rw [hz.2.2]; exact r2.length
      have em : (kl.zip vs).map (·.1) = kl := by
        rw [List.map_fst_zip]
        omega
      refine ⟨eP, kl.zip vs, ?_, ?_, ?_⟩
      · rw [ek, List.zip_map_left]
        rfl
      · rw [List.length_zip]
        omega
      · rw [mergeK_new (kvs := []) (by rw [List.nil_append, em]; exact hz.1), List.nil_append]
        have c4 := c3.scrib (ho := .dK (kl.zip vs)) lo2 (plain_of eP trivial)
        have lad : ∀ k, k < M1.length → (g1.add M1.length p).ad k = g1.ad k := fun k hk => if_neg (Nat.ne_of_lt hk)
        obtain ⟨c5, l5⟩ := c4.adoptM (mo := .dic kl pr.2) lo2 ⟨vs, upd_same, lo2.F, hlen, RWs.mono (show Le g1 M1.length (g1.add M1.length p) (M1.length + 1) from ⟨Same.refl g1.F, lad, Nat.le_succ _⟩) r2⟩
        refine q2 _ _ c5 l5 _ ⟨by rw [List.length_append]; exact Nat.lt_succ_self _, ?_⟩
        show V.ref p = .ref ((g1.add M1.length p).ad M1.length)
        rw [show (g1.add M1.length p).ad M1.length = p from if_pos rfl]
    · rw [if_neg hz] at q2
      exact q2.elim
/-- the values of a dict with one of them changed -/
def setK {α : Type} (k : Key) (w : α) : List Key → List α → Option (List α)
  | k' :: ks, u :: us => if k' = k then some (w :: us) else (setK k w ks us).map (u :: ·)
  | _, _ => none
theorem setK_put {P : Wv → V → Prop} {k : Key} {w : Wv} {v : V} (rv : P w v) : ∀ {ks : List Key} {ws us : List Wv} {vs : List V}, ks.Nodup → ks.length = vs.length → Paired P ws vs → setK k w ks ws = some us → ∃ xs, putK (ks.zip vs) k v = ks.zip xs ∧ ks.length = xs.length ∧ Paired P us xs ∧ k ∈ ks
  | [], ws, us, vs, _, _, _, e => by cases ws <;> cases e
  | k' :: ks, [], us, vs, _, _, _, e => by cases e
  | k' :: ks, u :: ws, us, [], _, hl, _, e => by cases hl
  | k' :: ks, u :: ws, us, y :: vs, hd, hl, .cons r t, e => by
    have hd' := List.nodup_cons.mp hd
    by_cases c : k' = k
    · subst c
      have e' : some (w :: ws) = some us := by rw [← e]; show _ = (if k' = k' then some (w :: ws) else _); rw [if_pos rfl]
      cases e'
      refine ⟨v :: vs, ?_, hl, .cons rv t, List.mem_cons_self ..⟩
      have hrest : (ks.zip vs).map (fun kv => if kv.1 = k' then (kv.1, v) else kv) = ks.zip vs := by
        refine (List.map_congr_left fun p hp => ?_).trans (List.map_id _)
        have : p.1 ∈ ks := (List.of_mem_zip (show (p.1, p.2) ∈ ks.zip vs from hp)).1
        rw [if_neg (fun z => hd'.1 (by rw [← z]; exact this))]
        rfl
      unfold putK
      rw [if_pos (by simp), List.zip_cons_cons, List.map_cons, hrest]
      simp
    · have e' : (setK k w ks ws).map (u :: ·) = some us := by rw [← e]; show _ = (if k' = k then _ else (setK k w ks ws).map (u :: ·)); rw [if_neg c]
      cases q : setK k w ks ws with
      | none => rw [q] at e'; cases e'
      | some us' =>
        rw [q] at e'
        cases e'
        obtain ⟨xs, h1, h2, h3, h4⟩ := setK_put rv hd'.2 (by simpa using hl) t q
        refine ⟨y :: xs, ?_, by simp [h2], .cons r h3, List.mem_cons_of_mem _ h4⟩
        have ha : ((ks.zip vs).any fun kv => decide (kv.1 = k)) = true := by
          cases hq : ((ks.zip vs).any fun kv => decide (kv.1 = k)) with
          | true => rfl
          | false =>
            have hl' : ks.length = vs.length := by simpa using hl
            obtain ⟨i, hi, ei⟩ := List.mem_iff_getElem.mp h4
            have hm : (ks[i], vs[i]) ∈ ks.zip vs := by
              have : (ks.zip vs)[i]'(by rw [List.length_zip]; omega) = (ks[i], vs[i]) := List.getElem_zip
              rw [← this]
              exact List.getElem_mem _
            have := List.any_eq_false.mp hq _ hm
            simp [ei] at this
        unfold putK at h1 ⊢
        rw [if_pos ha] at h1
        rw [if_pos (by rw [List.zip_cons_cons, List.any_cons, ha, Bool.or_true]), List.zip_cons_cons, List.map_cons, h1, if_neg c]
        rfl
/-- d[k] = v, k in d -/
def tgK (o i : ED) : GD := fun w env M => (nx (o env M)).bind fun wo M1 => (nx (i env M1)).bind fun wi M2 => match wo, keyw wi with
  | .m j, some k => match M2[j]? with
    | some (.dic ks ws) => if ks.Nodup ∧ ks.length < 1000 then match setK k w ks ws with
        | some us => .ok env (M2.set j (.dic ks us))
        | none => .no
      else .no
    | _ => .no
  | _, _ => .no
theorem g_subK (h : ∀ {to ti : TE}, PE X o to → PE X a ti → PG X (.Subscript o a pos) (gSub to ti rSetD)) (ho : ∀ W, Takes X W → PE X o (TED X.K cA W mo)) (hi : ∀ W, Takes X W → PE X a (TED X.K cA W ma)) (h0 : Takes X W0) :
    PG X (.Subscript o a pos) (TGD X.K cA (tgK mo ma)) := PG.imp (h (ho W0 h0) (hi W0 h0)) fun v σ H Q ⟨z, env, M, g, w, c, sl, rw1, q⟩ => by
  refine ⟨z, env, M, g, c, sl, Res.imp (fun wo M1 g1 H1 c1 l1 q1 x rx => ?_) (q.of_bind.nx')⟩
  refine ⟨z, env, M1, g1, c1, sl.mono l1, Res.imp (fun wi M2 g2 H2 c2 l2 q2 y ry => ?_) (q1.of_bind.nx')⟩
  cases wo with
  | d _ => exact q2.elim
  | m j =>
    cases e1 : keyw wi with
    | none => simp [e1, Res] at q2
    | some k =>
      simp only [e1] at q2
      cases e2 : M2[j]? with
      | none => simp [e2, Res] at q2
      | some mo =>
        cases mo with
        | dic ks ws =>
          simp only [e2] at q2
          by_cases hz : ks.Nodup ∧ ks.length < 1000
          · rw [if_pos hz] at q2
            cases e3 : setK k w ks ws with
            | none => simp [e3, Res] at q2
            | some us =>
              simp only [e3] at q2
              have rx2 := rx.mono l2
              obtain ⟨hk, rfl⟩ := rx2
              obtain ⟨vs, h1, h2, h3, h4⟩ := c2.sto j _ e2
              obtain ⟨xs, p1, p2, p3, p4⟩ := setK_put (rw1.mono (l1.trans l2)) hz.1 h3 h4 e3
              have c3 := c2.put (k := j) (ho := .dK (ks.zip xs)) (mo := .dic ks us) (List.getElem?_eq_some_iff.mp e2).1 h2 ⟨xs, upd_same, h2, p2, p3⟩
              have l3 : Le g2 M2.length g2 (M2.set j (.dic ks us)).length := ⟨Same.refl _, fun _ _ => rfl, by rw [List.length_set]; exact Nat.le_refl _⟩
              unfold rSetD
              refine ⟨_, _, rfl, by rw [keyw_rep ry e1]; exact DPut.k h1 (by rw [List.length_zip]; exact Nat.lt_of_le_of_lt (Nat.min_le_left _ _) (Nat.lt_of_lt_of_le hz.2 (by decide))), ?_⟩
              rw [p1]
              exact q2 _ g2 c3 l3 σ (((sl.mono l1).mono l2).mono l3)
          · rw [if_neg hz] at q2
            exact q2.elim
        | _ => simp [e2, Res] at q2
/-- l + m of lists, as a list that is to be changed -/
def addN (w u : Wv) (M : Sto) : Rs Wv := match seqL M w, seqL M u with
  | some ws, some us => if (ws ++ us).length ≤ sizeLine then .ok (.m M.length) (M ++ [.lst (ws ++ us)]) else .no
  | _, _ => .no
theorem ok_addN {K : PySem.W.Frag} : Ok2 K cA addN (rAddD K) := by
  intro z g H M E wx wy x y Q c rx ry q
  cases e1 : seqL M wx with
  | none => simp [addN, e1, Res] at q
  | some ws =>
    cases e2 : seqL M wy with
    | none => simp [addN, e1, e2, Res] at q
    | some us =>
      simp only [addN, e1, e2] at q
      by_cases hz : (ws ++ us).length ≤ sizeLine
      · rw [if_pos hz] at q
        obtain ⟨p, vs, rfl, h1, _, h3⟩ := seqL_at c rx e1
        obtain ⟨p', us', rfl, k1, _, k3⟩ := seqL_at c ry e2
        have hz' : vs.length + us'.length ≤ sizeLine := by
          rw [List.length_append] at hz
          rw [← show ws.length = vs.length from h3.length, ← show us.length = us'.length from k3.length]
          exact hz
        exact .inl (.inr ⟨p, p', vs, us', rfl, rfl, h1, k1, hz', fun t ht => c.ansM (Paired.append' h3 k3) hz q ht⟩)
      · rw [if_neg hz] at q
        exact q.elim
theorem d_addN (ha : PE X a (TED X.K cA Wx ma)) (hb : PE X b (TED X.K cA Wx mb)) : PE X (.BinOp a .Add b pos) (TED X.K cA Wx (e2 addN ma mb)) := d_op op_addD ok_addN ha hb
end
end DL

/-! layer D, part AS: tuple * int -/
namespace L2
open PySem PySem.Spec PyProof.Rows
theorem tuple_mulZ (l : Addr) (items : Array Value) (n : Nat) (sl : Array (Option Value)) (dd : Option Addr) (u : Tok) (hne : items.isEmpty = false) :
    Meets (Builtin.«tuple.__mul__» ⟨[.ref l, .int 0 u], []⟩) (fun _ R s => s.heap.get? l = some { cls := .type "tuple", dict := dd, data := .seq items n, slots := sl } ∧
      R (.ok (.ret (Value.ref s.heap.objs.size))) { s with heap := s.heap.push { cls := Value.type "tuple", data := Data.seq #[] }, toks := s.toks }) :=
  .of_wp fun prog w A R s h => by
    obtain ⟨hp, g, d, tk, os⟩ := s
    obtain ⟨hl, h⟩ := h
    have f1 := AutoSeq1.idx_int
    have c0 : (decide ((0 : Int) < -(2 ^ 63)) || decide ((0 : Int) ≥ 2 ^ 63)) = false := by decide
    have c1 : (items.isEmpty || (0 : Int) == 1) = false := by rw [hne]; rfl
    have c2 : (decide ((0 : Int) ≤ 0) || items.isEmpty) = true := by simp
    wp_walk using wpAny_loadPart' hl
    repeat (first
      | (refine wpAny_ite_false (decide_eq_false (by rw [c0]; exact Bool.false_ne_true)) ?_; wp_walk using wpAny_loadPart' hl)
      | (refine wpAny_ite_false (decide_eq_false (by rw [c1]; exact Bool.false_ne_true)) ?_; wp_walk using wpAny_loadPart' hl)
      | (refine wpAny_ite_true (decide_eq_true c2) ?_; wp_walk using wpAny_loadPart' hl))
    exact ⟨_, rfl, h⟩
theorem tuple_mulI (l : Addr) (items : Array Value) (n : Nat) (sl : Array (Option Value)) (dd : Option Addr) (u : Tok) :
    Meets (Builtin.«tuple.__mul__» ⟨[.ref l, .int 1 u], []⟩) (fun _ R s => s.heap.get? l = some { cls := .type "tuple", dict := dd, data := .seq items n, slots := sl } ∧
      R (.ok (.ret (Value.ref l))) s) :=
  .of_wp fun prog w A R s h => by
    obtain ⟨hp, g, d, tk, os⟩ := s
    obtain ⟨hl, h⟩ := h
    have f1 := AutoSeq1.idx_int
    have c0 : (decide ((1 : Int) < -(2 ^ 63)) || decide ((1 : Int) ≥ 2 ^ 63)) = false := by decide
    have c1 : (items.isEmpty || (1 : Int) == 1) = true := by simp
    wp_walk using wpAny_loadPart' hl
    repeat (first
      | (refine wpAny_ite_false (decide_eq_false (by rw [c0]; exact Bool.false_ne_true)) ?_; wp_walk using wpAny_loadPart' hl)
      | (refine wpAny_ite_true (decide_eq_true c1) ?_; wp_walk using wpAny_loadPart' hl))
    exact ⟨_, rfl, h⟩
def rRepT0 (K : PySem.W.Frag) : R2 := fun x y H Q => ∃ l xs, x = .ref l ∧ y = .int 0 ∧ SqT K H l xs ∧ xs ≠ [] ∧ ∀ p, H p = none → Q (.ref p) (upd H p (.tup []))
def rRepT1 (K : PySem.W.Frag) : R2 := fun x y H Q => ∃ l xs, x = .ref l ∧ y = .int 1 ∧ SqT K H l xs ∧ Q (.ref l) H
section
variable {X : Cx}
theorem op_repT0 : OpR X (binaryOp .Mult) (rRepT0 X.K) := by
  intro pins s σ H x y v u Q I rx ry h
  obtain ⟨l, xs, rfl, rfl, hT, hne, q⟩ := h
  cases rx
  obtain ⟨t, rfl⟩ := ry
  obtain ⟨its, r, ⟨⟨cls, dd, data, sl⟩, ho, hc, n, hd⟩, hs⟩ := I.tuple hT
  simp only at hc hd
  subst hc hd
  have hle : its.length = xs.length := r.length.symm
  have hi : its.toArray.isEmpty = false := by
    cases its with
    | nil => exact absurd (List.eq_nil_of_length_eq_zero hle.symm) hne
    | cons a b => rfl
  refine wpAny_binaryOp_repeat_ref (T := "tuple") (U := "int") (by decide) ⟨_, ho, rfl⟩ (fun s' => typeIs_int s' 0 t) noFill_tuple_mul F.fills_int_mul F.slot_int_rmul repeat_tuple F.slot_int_index.lookup
    (call_meets F.slot_int_rmul (typeIs_int s 0 t) F.entry_int_rmul (F.args_int_rmul_2 _ _) (int_rmul_tuple 0 t l its.toArray n dd sl)
      ⟨ho, rfl, ⟨_, ho, rfl⟩, call_meets F.slot_tuple_mul ⟨_, ho, rfl⟩ F.entry_tuple_mul (F.args_tuple_mul_2 _ _) (tuple_mulZ l its.toArray n sl dd t hi) ⟨ho, ?_⟩⟩)
  refine ⟨.ref s.heap.objs.size, _, I.laid (t' := s.toks) (o := .tup []) (fun b ob q => Heap.get?_push_of_some _ q) (Nat.le_refl _) ?_, rfl, q _ (I.hok.fresh (Nat.le_refl _))⟩
  exact ⟨Nat.zero_le _, [], .nil, IsTup.new _ _⟩
theorem op_repT1 : OpR X (binaryOp .Mult) (rRepT1 X.K) := by
  intro pins s σ H x y v u Q I rx ry h
  obtain ⟨l, xs, rfl, rfl, hT, q⟩ := h
  cases rx
  obtain ⟨t, rfl⟩ := ry
  obtain ⟨its, r, ⟨⟨cls, dd, data, sl⟩, ho, hc, n, hd⟩, hs⟩ := I.tuple hT
  simp only at hc hd
  subst hc hd
  refine wpAny_binaryOp_repeat_ref (T := "tuple") (U := "int") (by decide) ⟨_, ho, rfl⟩ (fun s' => typeIs_int s' 1 t) noFill_tuple_mul F.fills_int_mul F.slot_int_rmul repeat_tuple F.slot_int_index.lookup
    (call_meets F.slot_int_rmul (typeIs_int s 1 t) F.entry_int_rmul (F.args_int_rmul_2 _ _) (int_rmul_tuple 1 t l its.toArray n dd sl)
      ⟨ho, rfl, ⟨_, ho, rfl⟩, call_meets F.slot_tuple_mul ⟨_, ho, rfl⟩ F.entry_tuple_mul (F.args_tuple_mul_2 _ _) (tuple_mulI l its.toArray n sl dd t) ⟨ho, ?_⟩⟩)
  exact ⟨.ref l, H, I, rfl, q⟩
end
end L2
namespace DL
open PySem PySem.Spec PyProof.Rows L2
def rRepTA (K : PySem.W.Frag) : R2 := fun x y H Q => (rRepT K x y H Q ∨ rRepT0 K x y H Q) ∨ rRepT1 K x y H Q
theorem op_repTA {X : Cx} : OpR X (binaryOp .Mult) (rRepTA X.K) := opOr (opOr op_repT op_repT0) op_repT1
def dMulT : D → D → Option D
  | .tup l, .int k => if 0 < l.length ∧ l.length ≤ 1000 ∧ 0 ≤ k ∧ k ≤ 1000 then some (.tup (List.replicate k.toNat l).flatten) else none
  | _, _ => none
section
variable {X : Cx} {cA : CA} {Wx : WX} {a b : Expr} {ma mb : ED} {pos : Pos}
theorem RepL.reps {K : PySem.W.Frag} {F : Hp} {l : List D} {vs : List V} (h : RepL K cA F l vs) : ∀ n : Nat, RepL K cA F (List.replicate n l).flatten (List.replicate n vs).flatten
  | 0 => rfl
  | n + 1 => by
    rw [List.replicate_succ, List.replicate_succ, List.flatten_cons, List.flatten_cons]
    exact RepL.append h (RepL.reps h n)
theorem ok_repT {K : PySem.W.Frag} : Ok2 K cA (pu2 dMulT) (rRepTA K) := by
  intro z g H M E wx wy x y Q c rx ry q
  cases ea : nd M wx with
  | none => simp [pu2, ea, Res] at q
  | some a =>
    cases eb : nd M wy with
    | none => simp [pu2, ea, eb, Res] at q
    | some b =>
      have ra := nd_rep c rx ea
      have rb := nd_rep c ry eb
      simp only [pu2, ea, eb, Option.bind_some] at q
      cases a <;> cases b <;> simp only [dMulT, rsd_none, rsd_some] at q <;> try exact q.elim
      rename_i l k
      by_cases hz : 0 < l.length ∧ l.length ≤ 1000 ∧ 0 ≤ k ∧ k ≤ 1000
      · rw [if_pos hz] at q
        obtain ⟨hz1, hz2, hz3, hz4⟩ := hz
        obtain ⟨p, vs, rfl, h1, h2, h3⟩ := ra
        cases (show y = V.int k from rb)
        have hlen := h3.length
        have hne : vs ≠ [] := fun e => by rw [e] at hlen; simp at hlen; rw [hlen] at hz1; exact absurd hz1 (by decide)
        by_cases k0 : k = 0
        · subst k0
          refine .inl (.inr ⟨p, vs, rfl, rfl, c.sub.seqT h1, hne, fun t ht => ?_⟩)
          exact c.ans q ht ⟨t, [], rfl, SqT.of upd_same, Nat.zero_le _, rfl⟩
        · by_cases k1 : k = 1
          · subst k1
            refine .inr ⟨p, vs, rfl, rfl, c.sub.seqT h1, q H g c Le.refl _ ⟨p, vs, rfl, h1, h2, ?_⟩⟩
            show RepL K cA g.F (List.replicate 1 l).flatten vs
            rw [show (List.replicate 1 l).flatten = l by simp]
            exact h3
          · refine .inl (.inl ⟨p, k, vs, rfl, rfl, c.sub.seqT h1, hne, by omega, hz4, by omega, fun t ht => ?_⟩)
            have sm := Same.upd' (o := HO.tup (List.replicate k.toNat vs).flatten) (c.sub.free ht)
            refine c.ans q ht ⟨t, _, rfl, SqT.of upd_same, ?_, (h3.reps k.toNat).mono sm⟩
            rw [repL_len]
            have a1 : vs.length * k.toNat ≤ 1000 * 1000 := Nat.mul_le_mul (by omega) (by omega)
            exact Nat.le_trans a1 (by decide)
      · rw [if_neg hz] at q
        exact q.elim
theorem d_repT (ha : PE X a (TED X.K cA Wx ma)) (hb : PE X b (TED X.K cA Wx mb)) : PE X (.BinOp a .Mult b pos) (TED X.K cA Wx (e2 (pu2 dMulT) ma mb)) := d_op op_repTA ok_repT ha hb
end
end DL

/-! layer D, part AT: tuples of the store, xs[::-1], sorted(set(..)) to be changed -/
namespace DL
open PySem PySem.Spec PyProof.Rows L2
section
variable {X : Cx} {cA : CA} {Wx : WX} {a b e k : Expr} {es : List Expr} {ma mb mk : ED} {mr : AD} {p q p2 pos : Pos}
/-- a new tuple of the store as the answer -/
theorem Cf.ansT {K : PySem.W.Frag} {z : Z0} {g : Gh} {H : Hp} {M : Sto} {E : Exn → Sto → Gh → Hp → Prop} {ws : List Wv} {vs : List V} {Q : VK} (c : Cf K cA z H M g) (rv : Paired (RW K cA g M.length) ws vs) (hz : ws.length ≤ sizeLine)
    (q : Res K cA z g M.length E (.ok (.m M.length) (M ++ [.tup ws]) : Rs Wv) (fun w M' g' H' => ∀ v, RW K cA g' M'.length w v → Q v H')) {p : Addr} (hp : H p = none) : Q (.ref p) (upd H p (.tup vs)) := by
  have fp : g.F p = none := c.sub.free hp
  have lad : ∀ k, k < M.length → (g.add M.length p).ad k = g.ad k := fun k hk => if_neg (Nat.ne_of_lt hk)
  obtain ⟨c2, l2⟩ := c.new (mo := .tup ws) (ho := .tup vs) hp ⟨vs, upd_same, fp, hz, RWs.mono (show Le g M.length (g.add M.length p) (M.length + 1) from ⟨Same.refl g.F, lad, Nat.le_succ _⟩) rv⟩
  refine q _ _ c2 l2 _ ⟨by rw [List.length_append]; exact Nat.lt_succ_self _, ?_⟩
  show V.ref p = .ref ((g.add M.length p).ad M.length)
  rw [show (g.add M.length p).ad M.length = p from if_pos rfl]
/-- a display of a tuple in which objects of the store may stand -/
def eTupM (ml : AD) : ED := fun env M => (ml env M).bind fun ws M1 => if ws.length ≤ sizeLine then .ok (.m M1.length) (M1 ++ [.tup ws]) else .no
theorem d_tupM {x1} (h : PA X es (TAD X.K cA Wx mr)) : PE X (.Tuple es x1 pos) (TED X.K cA Wx (eTupM mr)) := PE.imp (pe_tup h) fun σ H Q ⟨z, env, M, g, c, sl, q⟩ => by
  refine ⟨z, env, M, g, c, sl, Res.imp (fun ws M1 g1 H1 c1 l1 q1 vs rv => ?_) q.of_bind⟩
  by_cases hz : ws.length ≤ sizeLine
  · rw [if_pos hz] at q1
    exact ⟨by rw [← rv.length]; exact hz, fun p hp => c1.ansT rv hz q1 hp⟩
  · rw [if_neg hz] at q1
    exact q1.elim
/-- tuple(xs), objects of the store in it -/
def tupwM (w : Wv) (M : Sto) : Rs Wv := match seqw M w with
  | some (true, ws) => .ok (.m M.length) (M ++ [.tup ws])
  | some (false, _) => .ok (nw M w) M
  | none => .no
theorem ok_tupleM {K : PySem.W.Frag} : OkL K cA (f1 tupwM) (rTupleD K) := okL1 fun z g H M E w x Q c rx q => by
  cases e : seqw M w with
  | none => simp [tupwM, e, Res] at q
  | some p =>
    obtain ⟨b, ws⟩ := p
    obtain ⟨a, vs, rfl, h1, h2, h3⟩ := seqw_at c rx e
    cases b with
    | true =>
      simp only [tupwM, e] at q
      exact ⟨a, vs, rfl, .inl ⟨by simpa using h1, fun p hp => c.ansT h3 (by rw [show ws.length = vs.length from Paired.length h3]; exact h2) q hp⟩⟩
    | false =>
      simp only [tupwM, e] at q
      exact ⟨a, vs, rfl, .inr ⟨by simpa using h1, q H g c Le.refl _ (rw_nw c rx)⟩⟩
theorem d_tupleM (hm : X.mg "tuple" = none) (ha : PA X (e :: es) (TAD X.K cA Wx mr)) (hg : Gl X "tuple" := by rfl) (he : starEach (e :: es) X.env = (false, eval e X.env) :: starEach es X.env := by rfl) (hpl : (backTo pos (starEach es X.env)).any (·.1) = false := by rfl) :
    PE X (.Call (.Name "tuple" p) (e :: es) [] pos) (TED X.K cA Wx (eL (f1 tupwM) mr)) := d_callT ok_tupleM call_tuple_of hm ha hg (by decide +kernel) (by decide) (by decide) he hpl
/-! ### sorted(set(..)), a list to be changed -/
def setMw (w : Wv) (M : Sto) : Rs Wv := match seqw M w with
  | some (_, ws) => match (nds M ws).bind intsOf with
    | some ns => if ns.length ≤ 1000 then .ok (.m M.length) (M ++ [.lst (((setI ns).map D.int).map .d)]) else .no
    | none => .no
  | _ => .no
theorem setI_len : ∀ l : List Int, (setI l).length ≤ l.length
  | [] => Nat.le_refl _
  | x :: l => by
    have ins : ∀ m : List Int, (insU x m).length ≤ m.length + 1 := fun m => by
      induction m with
      | nil => exact Nat.le_refl _
      | cons y m ih =>
        unfold insU
        split
        · exact Nat.le_refl _
        · split
          · exact Nat.le_succ _
          · exact Nat.succ_le_succ ih
    show (insU x (setI l)).length ≤ _
    exact Nat.le_trans (ins _) (Nat.succ_le_succ (setI_len l))
theorem paired_ints {K : PySem.W.Frag} {g : Gh} {n : Nat} : ∀ ns : List Int, Paired (RW K cA g n) ((ns.map D.int).map .d) (ns.map V.int)
  | [] => .nil
  | _ :: ns => .cons rfl (paired_ints ns)
theorem ok_setIM {K : PySem.W.Frag} {w : World} : Ok1 K cA setMw fun x H Q => rSetOfI K w [x] H fun y H2 => rSortedSet2 w [y] H2 Q := by
  intro z g H M E wx x Q c rx q
  unfold setMw at q
  cases e1 : seqw M wx with
  | none => simp [e1, Res] at q
  | some pp =>
    obtain ⟨bb, ws⟩ := pp
    simp only [e1] at q
    cases e2 : nds M ws with
    | none => simp [e2, Res] at q
    | some l =>
      simp only [e2, Option.bind_some] at q
      cases e3 : intsOf l with
      | none => simp [e3, Res] at q
      | some ns =>
        simp only [e3] at q
        by_cases hl : ns.length ≤ 1000
        · rw [if_pos hl] at q
          obtain ⟨a, vs, rfl, h1, h2, h3⟩ := seqw_or c rx e1
          have ev := intsOf_rep (nds_rep c h3 e2) e3
          subst ev
          refine ⟨a, ns, rfl, h1, hl, fun p cnt hc hp => ⟨p, _, cnt, rfl, upd_same, Nat.le_trans hc hl, fun ms p2 up mem hp2 => ?_⟩⟩
          have em : ms = setI ns := rising_ext up (rising_setI ns) fun k => by rw [mem, decide_eq_true_eq, mem_setI]
          subst em
          obtain ⟨c2, l2⟩ := c.lay (ho := SetO w p (fun k => decide (k ∈ ns)) cnt) hp
          have hsz : (((setI ns).map D.int).map Wv.d).length ≤ sizeLine := by
            rw [List.length_map, List.length_map]
            exact Nat.le_trans (Nat.le_trans (setI_len ns) hl) (by decide)
          have q' := q.later l2
          exact c2.ansM (paired_ints _) hsz q' hp2
        · rw [if_neg hl] at q
          exact q.elim
theorem d_setIM (hm : X.mg "sorted" = none) (hm2 : X.mg "set" = none) (ha : PE X a (TED X.K cA Wx ma)) (hc : X.calm = true := by rfl) (hg : Gl X "sorted" := by rfl) (hg2 : Gl X "set" := by rfl) (na : starEach [a] X.env = (false, eval a X.env) :: starEach [] X.env := by rfl) :
    PE X (.Call (.Name "sorted" p) [.Call (.Name "set" p2) [a] [] q] [] pos) (TED X.K cA Wx (e1 setMw ma)) :=
  PE.imp (pe_callB (cr_sortedSet2 hc) hg hm (by decide +kernel) (pa_cons (pe_callTy (cr_setOfI hc) hg2 hm2 (by decide +kernel) (pa_cons ha pa_nil na) (by decide) (by decide) na rfl) pa_nil) (by decide) (by decide) rfl rfl) fun σ H Q h => ted1 ok_setIM h
/-! ### xs[::-1] -/
def tRev (te tk : TE) (K : PySem.W.Frag) : TE := fun σ H Q => te σ H fun x H1 => tk σ H1 fun y H2 => y = .int (-1) ∧ ∃ a xs, x = .ref a ∧ SqL K H2 a xs ∧ ∀ p, H2 p = none → Q (.ref p) (upd H2 p (.lst xs.reverse))
theorem vals_rev : ∀ {xs : List V} {its : List Value}, Vals xs its → Vals xs.reverse its.reverse
  | _, _, .nil => .nil
  | _, _, .cons h t => by
    rw [List.reverse_cons, List.reverse_cons]
    exact (vals_rev t).append (.cons h .nil)
theorem pe_rev {te tk : TE} (he : PE X e te) (hk : PE X k tk) : PE X (.Subscript e (.Slice none none (some k) p2) pos) (tRev te tk X.K) := by
  refine ⟨fun pins s σ H Q I h => ?_⟩
  refine Subscript_ (thn (he.run pins s σ H _ I h) fun v s1 ⟨x, H1, I1, r1, q1⟩ => ?_)
  refine wpAny_Slice ?_
  rw [evalPart_none]
  refine wpAny_pure (wpAny_pure ?_)
  rw [evalPart_some]
  refine thn (hk.run pins s1 σ H1 _ I1 q1) fun u s2 ⟨y, H2, I2, r2, q2⟩ => ?_
  obtain ⟨rfl, a, xs, rfl, hx, q3⟩ := q2
  obtain ⟨t, rfl⟩ := r2
  cases r1
  have I3 : Inv X pins σ H2 { s2 with heap := s2.heap.push { cls := .type "slice", data := .fields #[.none, .none, .int (-1) t] } } := I2.kept (t' := s2.toks) fun b ob q => Heap.get?_push_of_some _ q
  obtain ⟨its, r, ht, hz⟩ := I3.list hx
  have hlen := r.length
  show wpAny (model X.prog X.w) X.A (subscriptTail e (.Slice none none (some k) p2) (.ref a) (.ref s2.heap.objs.size)) (EP X pins σ Q) X.xe { s2 with heap := s2.heap.push { cls := .type "slice", data := .fields #[.none, .none, .int (-1) t] } }
  refine tail_any (ops := [.ref a, .ref s2.heap.objs.size]) ht.isList.typeIs slot_list_getitem.lookup ?_ (by with_unfolding_all rfl)
  refine wpAny_getItem_list_slice ht.isList (Heap.IsSliceOf.new ..) .none .none (.int (-1) t) (by decide) ?_ (by rw [List.size_toArray] <;> omega)
  rw [PySem.W.krv_pick]
  refine ⟨.ref (s2.heap.push { cls := .type "slice", data := .fields #[.none, .none, .int (-1) t] }).objs.size, _, I3.laid (t' := s2.toks) (o := .lst xs.reverse) (fun b ob q => Heap.get?_push_of_some _ q) (Nat.le_refl _) ?_, rfl, q3 _ (I3.hok.fresh (Nat.le_refl _))⟩
  exact ⟨by rw [List.length_reverse]; exact hz, its.reverse, 0, vals_rev r, Heap.get?_push_size _ rfl⟩
def revw (fr : Bool) (w u : Wv) (M : Sto) : Rs Wv := match u with
  | .d (.int (.negSucc 0)) => match seqw M w with
    | some (true, ws) => if fr = true then match nds M ws.reverse with
        | some l => .ok (.d (.lst l)) M
        | none => .no
      else .ok (.m M.length) (M ++ [.lst ws.reverse])
    | _ => .no
  | _ => .no
theorem paired_rev {α β : Type} {P : α → β → Prop} : ∀ {l : List α} {r : List β}, Paired P l r → Paired P l.reverse r.reverse
  | _, _, .nil => .nil
  | _, _, .cons h t => by
    rw [List.reverse_cons, List.reverse_cons]
    exact Paired.append' (paired_rev t) (.cons h .nil)
theorem d_rev {fr : Bool} (ha : PE X e (TED X.K cA Wx ma)) (hb : PE X k (TED X.K cA Wx mk)) : PE X (.Subscript e (.Slice none none (some k) p2) pos) (TED X.K cA Wx (e2 (revw fr) ma mk)) := PE.imp (pe_rev ha hb) fun σ H Q ⟨z, env, M, g, c, sl, q⟩ => by
  refine ⟨z, env, M, g, c, sl, Res.imp (fun w M1 g1 H1 c1 l1 q1 x rx => ?_) q.of_bind⟩
  refine ⟨z, env, M1, g1, c1, sl.mono l1, Res.imp (fun u M2 g2 H2 c2 l2 q2 y ry => ?_) q1.of_bind⟩
  have rx2 := rx.mono l2
  unfold revw at q2
  split at q2
  · refine ⟨ry, ?_⟩
    cases e1 : seqw M2 w with
    | none => simp [e1, Res] at q2
    | some pp =>
      obtain ⟨bb, ws⟩ := pp
      cases bb with
      | false => simp [e1, Res] at q2
      | true =>
        simp only [e1] at q2
        obtain ⟨a, vs, rfl, h1, h2, h3⟩ := seqw_at c2 rx2 e1
        have rr := paired_rev h3
        have hlen : ws.reverse.length ≤ sizeLine := by rw [List.length_reverse, show ws.length = vs.length from h3.length]; exact h2
        refine ⟨a, vs, rfl, by simpa using h1, fun p hp => ?_⟩
        cases fr with
        | true =>
          rw [if_pos rfl] at q2
          cases e2 : nds M2 ws.reverse with
          | none => simp [e2, Res] at q2
          | some l =>
            simp only [e2] at q2
            have rl := nds_rep c2 rr e2
            exact c2.ans q2 hp ⟨p, vs.reverse, rfl, upd_same, by rw [List.length_reverse]; exact h2, rl.mono (Same.upd' (c2.sub.free hp))⟩
        | false =>
          rw [if_neg (by decide)] at q2
          exact c2.ansM rr hlen q2 hp
  · exact q2.elim
end
end DL

namespace K01
open PySem PySem.Spec PyProof.Rows L2 DL
/-! ### the text -/
def topS (i : Nat) : Stmt := PySem.Challenge.pw_splittalk_k01_tables_that_are_none.main.body.getD i (.Pass ⟨0, 0, 0, 0⟩)
abbrev s__law_pool : Stmt := topS 15
abbrev s__law_bad : Stmt := topS 18
abbrev s__law_draw : Stmt := topS 16
abbrev s_results : Stmt := topS 13
abbrev s_TableU_initU : Stmt := inClass (topS 11) 0
abbrev s_BadTableU_initU : Stmt := inClass (topS 4) 0
abbrev s__law_same : Stmt := topS 17
abbrev s__law_exchanged : Stmt := topS 19
abbrev s_TableU_eqU : Stmt := inClass (topS 11) 1
abbrev s_whole : Stmt := topS 12
abbrev s_law : Stmt := topS 20
theorem sc__law_pool : FnScope ["_law_script", "_law_budget"] ["_law_script", "_law_budget"] (defScope s__law_pool) := ⟨rfl, rfl, rfl, by decide +kernel, rfl, by decide +kernel, by decide +kernel⟩
theorem sc__law_bad : FnScope ["_law_rows", "_law_row"] ["_law_rows"] (defScope s__law_bad) := ⟨rfl, rfl, rfl, by decide +kernel, rfl, by decide +kernel, by decide +kernel⟩
theorem sc__law_draw : FnScope ["_law_pool_here", "_law_size", "_law_cell", "_law_value"] ["_law_pool_here", "_law_size"] (defScope s__law_draw) := ⟨rfl, rfl, rfl, by decide +kernel, rfl, by decide +kernel, by decide +kernel⟩
theorem sc_results : FnScope ["table", "part", "row", "column"] ["table", "part"] (defScope s_results) := ⟨rfl, rfl, rfl, by decide +kernel, rfl, by decide +kernel, by decide +kernel⟩
theorem sc_TableU_initU : FnScope ["self", "rows", "width", "row", "result"] ["self", "rows"] (defScope s_TableU_initU) := ⟨rfl, rfl, rfl, by decide +kernel, rfl, by decide +kernel, by decide +kernel⟩
theorem sc_BadTableU_initU : NdefX.NScope ["self", "what", "__class__"] ["self", "what"] ["__class__"] (defScope s_BadTableU_initU) := NdefX.nscope_by (by decide +kernel)
theorem sc__law_same : FnScope ["_law_actual", "_law_due", "_law_k"] ["_law_actual", "_law_due"] (defScope s__law_same) := ⟨rfl, rfl, rfl, by decide +kernel, rfl, by decide +kernel, by decide +kernel⟩
theorem sc__law_exchanged : FnScope ["_law_pool_here", "_law_table", "_law_rows", "_law_place", "_law_at", "_law_exchanged_here", "_law_turned", "_law_first", "_law_last", "_law_kept", "_law_other", "_law_row"] ["_law_pool_here", "_law_table", "_law_rows"] (defScope s__law_exchanged) := ⟨rfl, rfl, rfl, by decide +kernel, rfl, by decide +kernel, by decide +kernel⟩
theorem sc_TableU_eqU : FnScope ["self", "other"] ["self", "other"] (defScope s_TableU_eqU) := ⟨rfl, rfl, rfl, by decide +kernel, rfl, by decide +kernel, by decide +kernel⟩
theorem sc_whole : FnScope ["table"] ["table"] (defScope s_whole) := ⟨rfl, rfl, rfl, by decide +kernel, rfl, by decide +kernel, by decide +kernel⟩
theorem sc_law : FnScope ["_law_script", "_law_pool_here", "_law_count", "_law_width", "_law_rows", "_law_k", "_law_due", "_law_passed", "_law_row", "_law_other", "_law_place", "_law_at", "_law_line", "_law_unlike", "_law_told", "_law_part", "_law_own", "_law_found", "_law_turn", "_law_table", "e", "_law_wide", "_law_result"] ["_law_script"] (defScope s_law) := ⟨rfl, rfl, rfl, by decide +kernel, rfl, by decide +kernel, by decide +kernel⟩
/-! ### tags, constants -/
abbrev tTable : Nat := 1
abbrev tBadPaper : Nat := 4
abbrev tBadRatio : Nat := 8
abbrev tBadTable : Nat := 5
abbrev tBadTalk : Nat := 6
abbrev tBadText : Nat := 3
abbrev tTalkError : Nat := 2
abbrev tTooLarge : Nat := 7
abbrev tsOwn : List Nat := [tTable]
def k_GREATEST : D := .int 65535
def k_MOST_VALUES : D := .int 8
/-! ### the mirror -/
noncomputable section
def bU__law_same : SD :=
    (sSeq (sIf (tO (tTru (e1 (isiw (isTb kTup tsOwn)) (eVar 1))) (tTru (e1 (isiw (isTb kLst tsOwn)) (eVar 1)))) sNever sNext)
    (sSeq (sIf (tO (tb (e2 (isN) (eVar 1) (eC .non))) (tTru (e1 (isiw (isTb kBl tsOwn)) (eVar 1)))) (sRet (eAnd (e2 (pu2 dEq) (e2 (isN) (eVar 0) (eC .non)) (e2 (isN) (eVar 1) (eC .non))) (eAnd (eOr (e2 (isN) (eVar 1) (eC .non)) (e1 (isiw (isTb kBl tsOwn)) (eVar 0))) (e2 (pu2 dEq) (eVar 0) (eVar 1))))) sNext)
    (sSeq (sIf (tTru (e1 (isiw (isTb kInt tsOwn)) (eVar 1))) (sRet (eAnd (e1 (isiw (isTb kInt tsOwn)) (eVar 0)) (eAnd (eNot (e1 (isiw (isTb kBl tsOwn)) (eVar 0))) (e2 (pu2 dEq) (eVar 0) (eVar 1))))) sNext)
    (sRet (eAnd (e1 (isiw (isTb kStr tsOwn)) (eVar 0)) (e2 (pu2 dEq) (eVar 0) (eVar 1)))))))
def mU__law_same : FD := fnD bU__law_same 3
def b__law_pool  : SD :=
    (sRet (eLstM (aCons (eL (f1 listw) (aCons (eVar 0) aNil)) (aCons (eC (.int 0)) (aCons (eC (.int 0)) (aCons (eC (.int 1)) (aCons (eC (.int 0)) (aCons (eVar 1) aNil))))))))
def m__law_pool : FD := fnM b__law_pool 2
def b__law_bad  : SD :=
    (sSeq (sIf (tNt (tb (eChain (pu2 dLt) (pu2 dLt) (eC (.int 0)) (eL (f1 lenw) (aCons (eVar 0) aNil)) (eC (.int 9))))) (sRet (eC (.str "rows"))) sNext)
    (sSeq (sFor (iSeq (eVar 0)) (tgN 1) (sIf (tO (tb (e2 (pu2 dNe) (eL (f1 lenw) (aCons (eVar 1) aNil)) (eL (f1 lenw) (aCons (e2 ixw (eVar 0) (eC (.int 0))) aNil)))) (tNt (tb (eChain (pu2 dLt) (pu2 dLt) (eC (.int 0)) (eL (f1 lenw) (aCons (eVar 1) aNil)) (eC (.int 9)))))) (sRet (eC (.str "columns"))) sNext))
    (sSeq (sFor (iSeq (eVar 0)) (tgN 1) (sIf (tO (tb (e2 (pu2 dLt) (eL (f1 (fLst dMinL)) (aCons (eVar 1) aNil)) (eC (.int 0)))) (tb (e2 (pu2 dGt) (eL (f1 (fLst dMaxL)) (aCons (eVar 1) aNil)) (eC (.int 65535))))) (sRet (eC (.str "results"))) sNext))
    (sRet (eC .non)))))
def m__law_bad : FD := fnD b__law_bad 2
def b__law_draw  : SD :=
    (sSeq (sIf (tAn (tb (e2 (pu2 dLe) (e2 ixw (eVar 0) (eC (.int 2))) (eC (.int 0)))) (tAn (tb (e2 (pu2 dLe) (e2 ixw (eVar 0) (eC (.int 4))) (eC (.int 0)))) (tb (e2 (pu2 dLt) (e2 ixw (eVar 0) (eC (.int 1))) (eL (f1 lenw) (aCons (e2 ixw (eVar 0) (eC (.int 0))) aNil)))))) (sSeq (sAsg (tgN 2) (e2 ixw (e2 ixw (eVar 0) (eC (.int 0))) (e2 ixw (eVar 0) (eC (.int 1)))))
    (sSeq (sAsg (tgS (eVar 0) (eC (.int 1))) (e2 (pu2 dAdd) (e2 ixw (eVar 0) (eC (.int 1))) (eC (.int 1))))
    (sSeq (sAsg (tgS (eVar 0) (eC (.int 3))) (e2 (pu2 dMod) (eL (f1 (pu1 dInt)) (aCons (e2 (pu2 dAdd) (e2 (pu2 dMul) (e2 ixw (eVar 0) (eC (.int 3))) (eC (.int 31))) (eVar 2)) aNil)) (eC (.int 2147483647))))
    (sSeq (sAsg (tgS (eVar 0) (eC (.int 4))) (eC (.int 7)))
    (sIf (tb (e2 (pu2 dGe) (eVar 2) (e2 (pu2 dPow) (eC (.int 10)) (eC (.int 18))))) (sAsg (tgS (eVar 0) (eC (.int 2))) (eVar 2)) sNext))))) sNext)
    (sSeq (sIf (tb (e2 (pu2 dGt) (e2 ixw (eVar 0) (eC (.int 2))) (eC (.int 0)))) (sSeq (sAsg (tgN 3) (e2 (pu2 dMod) (eL (f1 (pu1 dInt)) (aCons (e2 ixw (eVar 0) (eC (.int 2))) aNil)) (eVar 1)))
    (sSeq (sAsg (tgS (eVar 0) (eC (.int 2))) (e2 (pu2 dDiv) (e2 ixw (eVar 0) (eC (.int 2))) (eVar 1)))
    (sSeq (sAsg (tgS (eVar 0) (eC (.int 4))) (eC (.int 0)))
    (sRet (eVar 3))))) sNext)
    (sSeq (sAsg (tgS (eVar 0) (eC (.int 4))) (e2 (pu2 dSub) (e2 ixw (eVar 0) (eC (.int 4))) (eC (.int 1))))
    (sSeq (sAsg (tgS (eVar 0) (eC (.int 3))) (e2 (pu2 dMod) (eL (f1 (pu1 dInt)) (aCons (e2 (pu2 dAdd) (e2 (pu2 dMul) (e2 ixw (eVar 0) (eC (.int 3))) (eC (.int 48271))) (eC (.int 12345))) aNil)) (eC (.int 2147483647))))
    (sRet (e2 (pu2 dMod) (e2 (pu2 dMod) (eL (f1 (pu1 dInt)) (aCons (e2 (pu2 dAdd) (e2 (pu2 dMul) (e2 ixw (eVar 0) (eC (.int 3))) (eC (.int 69621))) (eC (.int 7919))) aNil)) (eC (.int 2147483647))) (eVar 1)))))))
def m__law_draw : FD := fnD b__law_draw 4
def b_results  : SD :=
    (sRet (e1 setMw (eLc2 finF (iSeq (e2 ixw (eVar 1) (eC (.int 0)))) (tgN 2) tYesD (iSeq (e2 ixw (eVar 1) (eC (.int 1)))) (tgN 3) tYesD (e2 ixw (e2 ixw (e1 (fldw [tTable] "rows") (eVar 0)) (eVar 2)) (eVar 3)) [2, 3] [3])))
def m_results : FD := fnM b_results 4
def b__law_same (r__law_same : FD) : SD :=
    (sSeq (sIf (tO (tTru (e1 (isiw (isTb kTup tsOwn)) (eVar 1))) (tTru (e1 (isiw (isTb kLst tsOwn)) (eVar 1)))) (sSeq (sIf (tO (tb (e2 (pu2 dNe) (e1 (isiw (isTb kTup tsOwn)) (eVar 1)) (e1 (isiw (isTb kTup tsOwn)) (eVar 0)))) (tb (e2 (pu2 dNe) (e1 (isiw (isTb kLst tsOwn)) (eVar 1)) (e1 (isiw (isTb kLst tsOwn)) (eVar 0))))) (sRet (eC (.bl false))) sNext)
    (sSeq (sIf (tb (e2 (pu2 dNe) (eL (f1 lenw) (aCons (eVar 0) aNil)) (eL (f1 lenw) (aCons (eVar 1) aNil)))) (sRet (eC (.bl false))) sNext)
    (sSeq (sFor (iR1 (aCons (eL (f1 lenw) (aCons (eVar 1) aNil)) aNil)) (tgN 2) (sIf (tNt (tTru (eCall (callR 0 2 r__law_same) [] (aCons (e2 ixw (eVar 0) (eVar 2)) (aCons (e2 ixw (eVar 1) (eVar 2)) aNil))))) (sRet (eC (.bl false))) sNext))
    (sRet (eC (.bl true)))))) sNext)
    (sSeq (sIf (tO (tb (e2 (isN) (eVar 1) (eC .non))) (tTru (e1 (isiw (isTb kBl tsOwn)) (eVar 1)))) (sRet (eAnd (e2 (pu2 dEq) (e2 (isN) (eVar 0) (eC .non)) (e2 (isN) (eVar 1) (eC .non))) (eAnd (eOr (e2 (isN) (eVar 1) (eC .non)) (e1 (isiw (isTb kBl tsOwn)) (eVar 0))) (e2 (pu2 dEq) (eVar 0) (eVar 1))))) sNext)
    (sSeq (sIf (tTru (e1 (isiw (isTb kInt tsOwn)) (eVar 1))) (sRet (eAnd (e1 (isiw (isTb kInt tsOwn)) (eVar 0)) (eAnd (eNot (e1 (isiw (isTb kBl tsOwn)) (eVar 0))) (e2 (pu2 dEq) (eVar 0) (eVar 1))))) sNext)
    (sRet (eAnd (e1 (isiw (isTb kStr tsOwn)) (eVar 0)) (e2 (pu2 dEq) (eVar 0) (eVar 1)))))))
def m__law_same : Nat → FD
  | 0 => fun _ _ => .no
  | n + 1 => fnD (b__law_same (m__law_same n)) 3
def b_TableU_eqU  : SD :=
    (sRet (eAnd (e1 (isiw (isOw tTable [])) (eVar 1)) (e2 (pu2 dEq) (e1 (fldw [tTable] "rows") (eVar 0)) (e1 (fldw [tTable] "rows") (eVar 1)))))
def m_TableU_eqU : FD := fnD b_TableU_eqU 2
def b_whole  : SD :=
    (sRet (eTup (aCons (e1 (pu1 dRgT) (eL (f1 lenw) (aCons (e1 (fldw [tTable] "rows") (eVar 0)) aNil))) (aCons (e1 (pu1 dRgT) (eL (f1 lenw) (aCons (e2 ixw (e1 (fldw [tTable] "rows") (eVar 0)) (eC (.int 0))) aNil))) aNil))))
def m_whole : FD := fnD b_whole 1
def b_TableU_initU  : SD :=
    (sSeq (sIf (tNt (tb (eChain (pu2 dLt) (pu2 dLe) (eC (.int 0)) (eL (f1 lenw) (aCons (eVar 1) aNil)) (eC k_MOST_VALUES)))) (sRaise tBadTable ["what"] (aCons (eC (.str "rows")) aNil)) sNext)
    (sSeq (sAsg (tgN 2) (eL (f1 lenw) (aCons (e2 ixw (eVar 1) (eC (.int 0))) aNil)))
    (sSeq (sIf (tO (tNt (tb (eChain (pu2 dLt) (pu2 dLe) (eC (.int 0)) (eVar 2) (eC k_MOST_VALUES)))) (tTru (eL (f1 (fLst dAny)) (aCons (eLc finF (iSeq (eVar 1)) (tgN 3) tYesD (e2 (pu2 dNe) (eL (f1 lenw) (aCons (eVar 3) aNil)) (eVar 2)) [3]) aNil)))) (sRaise tBadTable ["what"] (aCons (eC (.str "columns")) aNil)) sNext)
    (sSeq (sIf (tTru (eL (f1 (fLst dAny)) (aCons (eLc2 finF (iSeq (eVar 1)) (tgN 3) tYesD (iSeq (eVar 3)) (tgN 4) tYesD (eNot (eChain (pu2 dLe) (pu2 dLe) (eC (.int 0)) (eVar 4) (eC k_GREATEST))) [3, 4] [4]) aNil))) (sRaise tBadTable ["what"] (aCons (eC (.str "results")) aNil)) sNext)
    (sFld tTable "rows" (eVar 0) (eL (f1 tupw) (aCons (eLc finF (iSeq (eVar 1)) (tgN 3) tYesD (eL (f1 tupw) (aCons (eVar 3) aNil)) [3]) aNil)))))))
def m_TableU_initU : FD := fnM b_TableU_initU 5
def b__law_exchanged  : SD :=
    (sSeq (sAsg (tgN 3) (eCall (callR 1 2 m__law_draw) [] (aCons (eVar 0) (aCons (eL (f1 lenw) (aCons (eVar 2) aNil)) aNil))))
    (sSeq (sAsg (tgN 4) (eCall (callR 1 2 m__law_draw) [] (aCons (eVar 0) (aCons (eL (f1 lenw) (aCons (e2 ixw (eVar 2) (eC (.int 0))) aNil)) aNil))))
    (sSeq (sAsg (tgN 5) (eLst (aCons (eLc finF (iSeq (eVar 2)) (tgN 11) tYesD (e2 (revw true) (eVar 11) (e1 (pu1 dNeg) (eC (.int 1)))) [11]) (aCons (e2 (revw true) (eVar 2) (e1 (pu1 dNeg) (eC (.int 1)))) (aCons (e2 (pu2 dAdd) (eSl true (eVar 2) (oSome (eC (.int 1))) oNone) (eSl true (eVar 2) oNone (oSome (eC (.int 1))))) (aCons (eLc finF (iSeq (eVar 2)) (tgN 11) tYesD (e2 (pu2 dAdd) (eSl true (eVar 11) (oSome (eC (.int 1))) oNone) (eSl true (eVar 11) oNone (oSome (eC (.int 1))))) [11]) aNil))))))
    (sSeq (sAsg (tgN 6) (eLc finM (iSeq (eVar 2)) (tgN 11) tYesD (eL (f1 listwM) (aCons (eVar 11) aNil)) [11]))
    (sSeq (sAsg (tgN 7) (e2 ixw (eVar 6) (eC (.int 0))))
    (sSeq (sAsg (tgN 8) (e2 ixw (eVar 6) (eVar 3)))
    (sSeq (sAsg (tgN 9) (e2 ixw (eVar 7) (eC (.int 0))))
    (sSeq (sAsg (tgS (eVar 7) (eC (.int 0))) (e2 ixw (eVar 8) (eVar 4)))
    (sSeq (sAsg (tgS (eVar 8) (eVar 4)) (eVar 9))
    (sSeq (sFor (iSeq (e2 (pu2 dAdd) (eVar 5) (eLst (aCons (eSeal (eVar 6)) aNil)))) (tgN 10) (sIf (tNt (tTru (eCall (callR 0 2 (m__law_same 40)) [] (aCons (eLst (aCons (e2 (ownw tTable (callR 0 2 m_TableU_eqU)) (eVar 1) (eCall (mkF tTable 2 m_TableU_initU) [] (aCons (eVar 10) aNil))) (aCons (e2 (ownw tTable (callR 0 2 m_TableU_eqU)) (eCall (mkF tTable 2 m_TableU_initU) [] (aCons (eVar 10) aNil)) (eVar 1)) aNil))) (aCons (eLst (aCons (e2 (pu2 dEq) (eVar 10) (eVar 2)) (aCons (e2 (pu2 dEq) (eVar 10) (eVar 2)) aNil))) aNil))))) (sRet (eC (.bl false))) sNext))
    (sRet (eC (.bl true)))))))))))))
def m__law_exchanged : FD := fnD b__law_exchanged 12
def b_law  : SD :=
    (sSeq (sAsg (tgN 1) (eCall (callA 2 m__law_pool) [] (aCons (eVar 0) (aCons (eC (.int 0)) aNil))))
    (sSeq (sAsg (tgN 2) (e2 ixw (eTup (aCons (e2 (pu2 dAdd) (eC (.int 1)) (eCall (callR 1 2 m__law_draw) [] (aCons (eVar 1) (aCons (eC (.int 8)) aNil)))) (aCons (eCall (callR 1 2 m__law_draw) [] (aCons (eVar 1) (aCons (eC (.int 11)) aNil))) aNil))) (eL (f1 (pu1 dInt)) (aCons (e2 (pu2 dEq) (eCall (callR 1 2 m__law_draw) [] (aCons (eVar 1) (aCons (eC (.int 4)) aNil))) (eC (.int 0))) aNil))))
    (sSeq (sAsg (tgN 3) (e2 ixw (eTup (aCons (e2 (pu2 dAdd) (eC (.int 1)) (eCall (callR 1 2 m__law_draw) [] (aCons (eVar 1) (aCons (eC (.int 8)) aNil)))) (aCons (eCall (callR 1 2 m__law_draw) [] (aCons (eVar 1) (aCons (eC (.int 11)) aNil))) aNil))) (eL (f1 (pu1 dInt)) (aCons (e2 (pu2 dEq) (eCall (callR 1 2 m__law_draw) [] (aCons (eVar 1) (aCons (eC (.int 4)) aNil))) (eC (.int 0))) aNil))))
    (sSeq (sAsg (tgN 4) (eLstM aNil))
    (sSeq (sFor (iR1 (aCons (eVar 2) aNil)) (tgN 5) (sSeq (sAsg (tgN 16) (e2 (pu2 dAdd) (eVar 3) (e2 (pu2 dMul) (e2 (pu2 dSub) (eCall (callR 1 2 m__law_draw) [] (aCons (eVar 1) (aCons (eC (.int 3)) aNil))) (eC (.int 1))) (eL (f1 (pu1 dInt)) (aCons (e2 (pu2 dEq) (eCall (callR 1 2 m__law_draw) [] (aCons (eVar 1) (aCons (eC (.int 20)) aNil))) (eC (.int 0))) aNil)))))
    (sExpr (eLM lApp (eVar 4) (aCons (eLc finM (iR1 (aCons (eL (f2 (pu2 dMax2)) (aCons (eC (.int 0)) (aCons (eVar 16) aNil))) aNil)) (tgN 18) tYesD (e2 ixw (eTup (aCons (eCall (callR 1 2 m__law_draw) [] (aCons (eVar 1) (aCons (eC (.int 4)) aNil))) (aCons (eCall (callR 1 2 m__law_draw) [] (aCons (eVar 1) (aCons (eC (.int 65536)) aNil))) aNil))) (eCall (callR 1 2 m__law_draw) [] (aCons (eVar 1) (aCons (eC (.int 2)) aNil)))) [18]) aNil)))))
    (sSeq (sIf (tAn (tb (e2 (pu2 dEq) (eCall (callR 1 2 m__law_draw) [] (aCons (eVar 1) (aCons (eC (.int 4)) aNil))) (eC (.int 0)))) (tAn (tb (e2 (pu2 dGt) (eVar 2) (eC (.int 0)))) (tAn (tb (e2 (pu2 dGt) (eVar 3) (eC (.int 0)))) (tb (e2 (pu2 dGt) (eL (f1 lenw) (aCons (e2 ixw (eVar 4) (e1 (pu1 dNeg) (eC (.int 1)))) aNil)) (eC (.int 0))))))) (sFor (iR1 (aCons (e2 (pu2 dAdd) (eC (.int 1)) (eCall (callR 1 2 m__law_draw) [] (aCons (eVar 1) (aCons (eC (.int 2)) aNil)))) aNil)) (tgN 18) (sSeq (sAsg (tgN 8) (e2 ixw (eVar 4) (eCall (callR 1 2 m__law_draw) [] (aCons (eVar 1) (aCons (eL (f1 lenw) (aCons (eVar 4) aNil)) aNil)))))
    (sSeq (sAsg (tgN 21) (eTup (aCons (eC (.int 65535)) (aCons (e2 (pu2 dAdd) (eC (.int 65536)) (eCall (callR 1 2 m__law_draw) [] (aCons (eVar 1) (aCons (eC (.int 3)) aNil)))) (aCons (e2 (pu2 dAdd) (eC (.int 65536)) (eCall (callR 1 2 m__law_draw) [] (aCons (eVar 1) (aCons (e2 (pu2 dPow) (eC (.int 10)) (eC (.int 9))) aNil)))) (aCons (e2 (pu2 dSub) (e1 (pu1 dNeg) (eC (.int 1))) (eCall (callR 1 2 m__law_draw) [] (aCons (eVar 1) (aCons (eC (.int 3)) aNil)))) (aCons (e2 (pu2 dSub) (e1 (pu1 dNeg) (eC (.int 1))) (eCall (callR 1 2 m__law_draw) [] (aCons (eVar 1) (aCons (eC (.int 70000)) aNil)))) aNil)))))))
    (sIf (tb (e2 (pu2 dGt) (eL (f1 lenw) (aCons (eVar 8) aNil)) (eC (.int 0)))) (sAsg (tgS (eVar 8) (eCall (callR 1 2 m__law_draw) [] (aCons (eVar 1) (aCons (eL (f1 lenw) (aCons (eVar 8) aNil)) aNil)))) (e2 ixw (eVar 21) (eCall (callR 1 2 m__law_draw) [] (aCons (eVar 1) (aCons (eC (.int 5)) aNil))))) sNext)))) sNext)
    (sSeq (sAsg (tgN 6) (eCall (callR 0 1 m__law_bad) [] (aCons (eVar 4) aNil)))
    (sSeq (sAsg (tgN 7) (eLc finM (iSeq (eVar 4)) (tgN 8) tYesD (e2 ixw (eTupM (aCons (eL (f1 listwM) (aCons (eVar 8) aNil)) (aCons (eL (f1 tupw) (aCons (eVar 8) aNil)) aNil))) (eCall (callR 1 2 m__law_draw) [] (aCons (eVar 1) (aCons (eC (.int 2)) aNil)))) [8]))
    (sSeq (sIf (tb (e2 (pu2 dEq) (eCall (callR 1 2 m__law_draw) [] (aCons (eVar 1) (aCons (eC (.int 2)) aNil))) (eC (.int 0)))) (sAsg (tgN 7) (eL (f1 tupwM) (aCons (eVar 7) aNil))) sNext)
    (sSeq (sTry (sAsg (tgN 19) (eSeal (eCall (mkA tTable 2 m_TableU_initU) [] (aCons (eVar 7) aNil)))) 20 (xTab [tBadTable] []) fun x => (sRet (eAnd (eTabX (xTab [tBadTable] []) x) (eAnd (eNot (eTabX (xTab [] [tBadTable]) x)) (eAnd (e2 (notN) (eVar 6) (eC .non)) (eCall (callR 0 2 mU__law_same) [] (aCons (eFldX tBadTable "what" x) (aCons (eVar 6) aNil))))))))
    (sSeq (sIf (tO (tb (e2 (notN) (eVar 6) (eC .non))) (tb (e2 (pu2 dNe) (eLc finF (iSeq (eVar 7)) (tgN 8) tYesD (eL (f1 listw) (aCons (eVar 8) aNil)) [8]) (eVar 4)))) (sRet (eC (.bl false))) sNext)
    (sSeq (sFor (iSeq (eVar 7)) (tgN 8) (sIf (tTru (e1 (isiw (isTb kLst tsOwn)) (eVar 8))) (sExpr (eLM lApp (eVar 8) (aCons (eC (.int 7)) aNil))) sNext))
    (sSeq (sIf (tTru (e1 (isiw (isTb kLst tsOwn)) (eVar 7))) (sExpr (eLM lApp (eVar 7) (aCons (eLst (aCons (eC (.int 7)) aNil)) aNil))) sNext)
    (sSeq (sIf (tO (tNt (tTru (eCall (callR 0 2 (m__law_same 40)) [] (aCons (e1 (fldw [tTable] "rows") (eVar 19)) (aCons (eL (f1 tupw) (aCons (eLc finF (iSeq (eVar 4)) (tgN 8) tYesD (eL (f1 tupw) (aCons (eVar 8) aNil)) [8]) aNil)) aNil))))) (tNt (tTru (eCall (callR 0 2 (m__law_same 40)) [] (aCons (e2 (ownw tTable (callR 0 2 m_TableU_eqU)) (eVar 19) (eCall (mkF tTable 2 m_TableU_initU) [] (aCons (eVar 4) aNil))) (aCons (eC (.bl true)) aNil)))))) (sRet (eC (.bl false))) sNext)
    (sSeq (sAsg (tgN 9) (eLc finM (iSeq (eVar 4)) (tgN 8) tYesD (eL (f1 listwM) (aCons (eVar 8) aNil)) [8]))
    (sSeq (sAsg (tgN 10) (eCall (callR 1 2 m__law_draw) [] (aCons (eVar 1) (aCons (eL (f1 lenw) (aCons (eVar 4) aNil)) aNil))))
    (sSeq (sAsg (tgN 11) (eCall (callR 1 2 m__law_draw) [] (aCons (eVar 1) (aCons (eL (f1 lenw) (aCons (e2 ixw (eVar 4) (eC (.int 0))) aNil)) aNil))))
    (sSeq (sAsg (tgS (e2 ixw (eVar 9) (eVar 10)) (eVar 11)) (e2 (pu2 dMod) (eL (f1 (pu1 dInt)) (aCons (e2 (pu2 dAdd) (e2 ixw (e2 ixw (eVar 9) (eVar 10)) (eVar 11)) (eC (.int 1))) aNil)) (eC (.int 65536))))
    (sSeq (sIf (tNt (tTru (eCall (callR 0 2 (m__law_same 40)) [] (aCons (e2 (ownw tTable (callR 0 2 m_TableU_eqU)) (eVar 19) (eCall (mkF tTable 2 m_TableU_initU) [] (aCons (eVar 9) aNil))) (aCons (eC (.bl false)) aNil))))) (sRet (eC (.bl false))) sNext)
    (sSeq (sIf (tNt (tTru (eCall (callR 1 3 m__law_exchanged) [] (aCons (eVar 1) (aCons (eVar 19) (aCons (eVar 4) aNil)))))) (sRet (eC (.bl false))) sNext)
    (sSeq (sAsg (tgN 12) (eLst aNil))
    (sSeq (sFor (iSeq (eVar 4)) (tgN 8) (sAsg (tgN 12) (e2 (pu2 dAdd) (eVar 12) (eVar 8))))
    (sSeq (sAsg (tgN 13) (eLst (aCons (eLst (aCons (eVar 12) aNil)) (aCons (eLc finF (iSeq (eVar 12)) (tgN 22) tYesD (eLst (aCons (eVar 22) aNil)) [22]) (aCons (eSl true (eVar 4) (oSome (eC (.int 1))) oNone) (aCons (e2 (pu2 dAdd) (eVar 4) (eSl true (eVar 4) oNone (oSome (eC (.int 1))))) (aCons (eLc finF (iSeq (eVar 4)) (tgN 8) tYesD (eSl true (eVar 8) (oSome (eC (.int 1))) oNone) [8]) (aCons (eLc finF (iSeq (eVar 4)) (tgN 8) tYesD (e2 (pu2 dAdd) (eVar 8) (eSl true (eVar 8) oNone (oSome (eC (.int 1))))) [8]) aNil))))))))
    (sSeq (sFor (iSeq (eVar 13)) (tgN 9) (sIf (tAn (tb (eChain (pu2 dLt) (pu2 dLt) (eC (.int 0)) (eL (f1 lenw) (aCons (eVar 9) aNil)) (eC (.int 9)))) (tAn (tb (eChain (pu2 dLt) (pu2 dLt) (eC (.int 0)) (eL (f1 lenw) (aCons (e2 ixw (eVar 9) (eC (.int 0))) aNil)) (eC (.int 9)))) (tb (e2 (pu2 dNe) (eVar 9) (eVar 4))))) (sIf (tNt (tTru (eCall (callR 0 2 (m__law_same 40)) [] (aCons (e2 (ownw tTable (callR 0 2 m_TableU_eqU)) (eVar 19) (eCall (mkF tTable 2 m_TableU_initU) [] (aCons (eVar 9) aNil))) (aCons (eC (.bl false)) aNil))))) (sRet (eC (.bl false))) sNext) sNext))
    (sSeq (sAsg (tgN 14) (eCall (callA 2 m_results) [] (aCons (eVar 19) (aCons (eCall (callR 0 1 m_whole) [] (aCons (eVar 19) aNil)) aNil))))
    (sSeq (sExpr (eLM lApp (eVar 14) (aCons (eC (.int 7)) aNil)))
    (sSeq (sAsg (tgN 15) (eTup (aCons (eL (f1 tupw) (aCons (eLc finF (iR1 (aCons (eL (f1 lenw) (aCons (eVar 4) aNil)) aNil)) (tgN 5) tYesD (eVar 5) [5]) aNil)) (aCons (eL (f1 tupw) (aCons (eLc finF (iR1 (aCons (eL (f1 lenw) (aCons (e2 ixw (eVar 4) (eC (.int 0))) aNil)) aNil)) (tgN 5) tYesD (eVar 5) [5]) aNil)) aNil))))
    (sSeq (sAsg (tgN 16) (eTup (aCons (eTup (aCons (eVar 10) aNil)) (aCons (e2 ixw (eVar 15) (eC (.int 1))) aNil))))
    (sSeq (sAsg (tgN 14) (eLstM (aCons (eCall (callA 2 m_results) [] (aCons (eVar 19) (aCons (eVar 15) aNil))) (aCons (eCall (callA 2 m_results) [] (aCons (eVar 19) (aCons (eVar 16) aNil))) aNil))))
    (sSeq (sAsg (tgN 17) (eLst aNil))
    (sSeq (sFor (iSeq (eVar 4)) (tgN 8) (sAsg (tgN 17) (e2 (pu2 dAdd) (eVar 17) (eVar 8))))
    (sRet (eAnd (eCall (callR 0 2 (m__law_same 40)) [] (aCons (eCall (callR 0 1 m_whole) [] (aCons (eVar 19) aNil)) (aCons (eVar 15) aNil))) (eCall (callR 0 2 (m__law_same 40)) [] (aCons (eVar 14) (aCons (eLst (aCons (e1 (fSeq dSetI) (eVar 17)) (aCons (e1 (fSeq dSetI) (e2 ixw (eVar 4) (eVar 10))) aNil))) aNil))))))))))))))))))))))))))))))))))))
def m_law : FD := fnD b_law 23
end
/-! ### what the top has written -/
structure Ad where
  c_Table : Addr
  c_BadPaper : Addr
  c_BadRatio : Addr
  c_BadTable : Addr
  c_BadTalk : Addr
  c_BadText : Addr
  c_TalkError : Addr
  c_TooLarge : Addr
  cc_BadTableU_initU : Addr
  cd_BadTableU_initU : Addr
  a__law_pool : Addr
  fd__law_pool : FuncData
  a__law_bad : Addr
  fd__law_bad : FuncData
  a__law_draw : Addr
  fd__law_draw : FuncData
  a_results : Addr
  fd_results : FuncData
  a_TableU_initU : Addr
  fd_TableU_initU : FuncData
  a_BadTableU_initU : Addr
  fd_BadTableU_initU : FuncData
  a__law_same : Addr
  fd__law_same : FuncData
  a__law_exchanged : Addr
  fd__law_exchanged : FuncData
  a_TableU_eqU : Addr
  fd_TableU_eqU : FuncData
  a_whole : Addr
  fd_whole : FuncData
  a_law : Addr
  fd_law : FuncData
  v_GREATEST : V
  u_GREATEST : Value
  v_MOST_VALUES : V
  u_MOST_VALUES : Value
def Ad.cl (A : Ad) : Nat → Addr := fun n => match n with
  | 1 => A.c_Table
  | 4 => A.c_BadPaper
  | 8 => A.c_BadRatio
  | 5 => A.c_BadTable
  | 6 => A.c_BadTalk
  | 3 => A.c_BadText
  | 2 => A.c_TalkError
  | 7 => A.c_TooLarge
  | _ => 0
def Ad.cA (A : Ad) : CA := ⟨A.cl, [], fun _ => none⟩
abbrev Ad.nf_BadTableU_initU (A : Ad) : NdefX.NF := ⟨"__init__", "BadTable.__init__", defArgs s_BadTableU_initU, defBody s_BadTableU_initU, defScope s_BadTableU_initU, [(("__class__" : Str), A.cc_BadTableU_initU)], A.cd_BadTableU_initU⟩
structure Txt (K : PySem.W.Frag) (mg : Str → Option Value) (A : Ad) : Prop where
  f__law_pool : Fun K "_law_pool" "_law_pool" s__law_pool A.a__law_pool A.fd__law_pool
  b__law_pool : Binds K A.fd__law_pool ["_law_script", "_law_budget"] []
  k__law_pool : PySem.W.keepIn K (.ref A.a__law_pool) = true
  g__law_pool : mg "_law_pool" = some (.ref A.a__law_pool)
  f__law_bad : Fun K "_law_bad" "_law_bad" s__law_bad A.a__law_bad A.fd__law_bad
  b__law_bad : Binds K A.fd__law_bad ["_law_rows"] []
  k__law_bad : PySem.W.keepIn K (.ref A.a__law_bad) = true
  g__law_bad : mg "_law_bad" = some (.ref A.a__law_bad)
  f__law_draw : Fun K "_law_draw" "_law_draw" s__law_draw A.a__law_draw A.fd__law_draw
  b__law_draw : Binds K A.fd__law_draw ["_law_pool_here", "_law_size"] []
  k__law_draw : PySem.W.keepIn K (.ref A.a__law_draw) = true
  g__law_draw : mg "_law_draw" = some (.ref A.a__law_draw)
  f_results : Fun K "results" "results" s_results A.a_results A.fd_results
  b_results : Binds K A.fd_results ["table", "part"] []
  k_results : PySem.W.keepIn K (.ref A.a_results) = true
  g_results : mg "results" = some (.ref A.a_results)
  f_TableU_initU : Fun K "__init__" "Table.__init__" s_TableU_initU A.a_TableU_initU A.fd_TableU_initU
  b_TableU_initU : Binds K A.fd_TableU_initU ["self", "rows"] []
  k_TableU_initU : PySem.W.keepIn K (.ref A.a_TableU_initU) = true
  mk_Table : Mk K (A.cA tTable) A.a_TableU_initU
  b_BadTableU_initU : Binds K A.fd_BadTableU_initU ["self", "what"] []
  xo_BadTable : OexC K (A.cA tBadTable)
  xi_BadTable : PySem.W.findIn K (.ref (A.cA tBadTable)) "__init__" = some (some (.ref A.a_BadTableU_initU))
  xt_BadTable : PySem.W.typeIn K (.ref A.a_BadTableU_initU) = some (.type "function")
  xc_BadTable : XC K (A.cA tBadTable)
  f__law_same : Fun K "_law_same" "_law_same" s__law_same A.a__law_same A.fd__law_same
  b__law_same : Binds K A.fd__law_same ["_law_actual", "_law_due"] []
  k__law_same : PySem.W.keepIn K (.ref A.a__law_same) = true
  g__law_same : mg "_law_same" = some (.ref A.a__law_same)
  f__law_exchanged : Fun K "_law_exchanged" "_law_exchanged" s__law_exchanged A.a__law_exchanged A.fd__law_exchanged
  b__law_exchanged : Binds K A.fd__law_exchanged ["_law_pool_here", "_law_table", "_law_rows"] []
  k__law_exchanged : PySem.W.keepIn K (.ref A.a__law_exchanged) = true
  g__law_exchanged : mg "_law_exchanged" = some (.ref A.a__law_exchanged)
  f_TableU_eqU : Fun K "__eq__" "Table.__eq__" s_TableU_eqU A.a_TableU_eqU A.fd_TableU_eqU
  b_TableU_eqU : Binds K A.fd_TableU_eqU ["self", "other"] []
  k_TableU_eqU : PySem.W.keepIn K (.ref A.a_TableU_eqU) = true
  h_TableU_eqU : Meth K (A.cA tTable) "__eq__" A.a_TableU_eqU
  f_whole : Fun K "whole" "whole" s_whole A.a_whole A.fd_whole
  b_whole : Binds K A.fd_whole ["table"] []
  k_whole : PySem.W.keepIn K (.ref A.a_whole) = true
  g_whole : mg "whole" = some (.ref A.a_whole)
  f_law : Fun K "law" "law" s_law A.a_law A.fd_law
  b_law : Binds K A.fd_law ["_law_script"] []
  k_law : PySem.W.keepIn K (.ref A.a_law) = true
  g_law : mg "law" = some (.ref A.a_law)
  g_Table : mg "Table" = some (.ref (A.cA tTable))
  i_Table : InsF K (A.cA tTable)
  n_BadTable_what : NoAttr K (A.cA tBadTable) "what"
  n_Table_rows : NoAttr K (A.cA tTable) "rows"
  o_Table : IsOk K A.cA (.ref (A.cA tTable)) (isOw tTable [])
  g_BadPaper : mg "BadPaper" = some (.ref (A.cA tBadPaper))
  g_BadRatio : mg "BadRatio" = some (.ref (A.cA tBadRatio))
  g_BadTable : mg "BadTable" = some (.ref (A.cA tBadTable))
  g_BadTalk : mg "BadTalk" = some (.ref (A.cA tBadTalk))
  g_BadText : mg "BadText" = some (.ref (A.cA tBadText))
  g_TalkError : mg "TalkError" = some (.ref (A.cA tTalkError))
  g_TooLarge : mg "TooLarge" = some (.ref (A.cA tTooLarge))
  xm_TalkError : ∀ t b, xTab [tBadTable] [] t = some b → PySem.W.exmOne K (.ref (A.cA t)) (.ref (A.cA tTalkError)) = some b
  xq_BadPaper_BadRatio_BadTalk_BadText_TooLarge : ∀ t b, xTab [] [tBadTable] t = some b → PySem.W.kitAny K (.ref (A.cA t)) [.ref (A.cA tBadPaper), .ref (A.cA tBadRatio), .ref (A.cA tBadTalk), .ref (A.cA tBadText), .ref (A.cA tTooLarge)] = some b ∧ XC K (A.cA t)
  xq_BadTable : ∀ t b, xTab [tBadTable] [] t = some b → PySem.W.kitOne K (.ref (A.cA t)) (.ref (A.cA tBadTable)) = some b ∧ XC K (A.cA t)
  owns : OwnsF K A.cA tsOwn
  z_any : mg "any" = none
  z_bool : mg "bool" = none
  z_int : mg "int" = none
  z_isinstance : mg "isinstance" = none
  z_len : mg "len" = none
  z_list : mg "list" = none
  z_max : mg "max" = none
  z_min : mg "min" = none
  z_range : mg "range" = none
  z_set : mg "set" = none
  z_sorted : mg "sorted" = none
  z_str : mg "str" = none
  z_tuple : mg "tuple" = none
  g_GREATEST : mg "GREATEST" = some A.u_GREATEST
  r_GREATEST : RelV A.v_GREATEST A.u_GREATEST
  p_GREATEST : ∀ F, Rep K A.cA F k_GREATEST A.v_GREATEST
  g_MOST_VALUES : mg "MOST_VALUES" = some A.u_MOST_VALUES
  r_MOST_VALUES : RelV A.v_MOST_VALUES A.u_MOST_VALUES
  p_MOST_VALUES : ∀ F, Rep K A.cA F k_MOST_VALUES A.v_MOST_VALUES
structure TxtX (P : Program) (K : PySem.W.Frag) (mg : Str → Option Value) (A : Ad) : Prop where
  xf_BadTableU_initU : XFn K P mg (A.cA tBadTable) A.a_BadTableU_initU A.cc_BadTableU_initU A.nf_BadTableU_initU A.fd_BadTableU_initU
section
variable {P : Program} {w : World} {K : PySem.W.Frag} {mg : Str → Option Value} {base : Heap} {A : Ad}
theorem ok_BadTableU_initU (TX : TxtX P K mg A) (T : Txt K mg A) : FnOk P w K mg base (L2.CX P w) 1 A.a_BadTableU_initU A.fd_BadTableU_initU ["self", "what"] (spX1 (A.cA tBadTable) "what") :=
  xinit_ok (k := 0) (F := A.nf_BadTableU_initU) TX.xf_BadTableU_initU sc_BadTableU_initU rfl rfl rfl rfl spX1_len rfl (fun A0 outer s H vs Q E ⟨a, x, ev, ea, q⟩ => by
    subst ev
    exact ⟨a, [x], _, _, rfl, ea, pa_cons (pe_var (i := 1) rfl (by first | exact Or.inl rfl | exact Or.inr (Or.inl rfl) | exact Or.inr (Or.inr rfl))) pa_nil, pss_one (ps_ost (pe_var (i := 0) rfl (by first | exact Or.inl rfl | exact Or.inr (Or.inl rfl) | exact Or.inr (Or.inr rfl))) (pe_var (i := 1) rfl (by first | exact Or.inl rfl | exact Or.inr (Or.inl rfl) | exact Or.inr (Or.inr rfl)))), ⟨x, rfl, ⟨(by show 1 ≤ sizeLine; decide), ea, ost_run TX.xf_BadTableU_initU.oex T.n_BadTable_what rfl rfl ea q⟩⟩⟩)
    (fun _ => rfl) (fun _ => rfl) (fun _ => rfl) (fun _ => rfl) (fun _ => rfl)
theorem okU__law_same (T : Txt K mg A) : FnU P w K mg base 1 A.a__law_same A.fd__law_same ["_law_actual", "_law_due"] (spD K A.cA 2 mU__law_same) :=
  fnU_of (k := 0) T.f__law_same sc__law_same fun cdv A0 outer s H hr => by
    have nd := sc__law_same.nd
    have hu64 : (A0.deeper (envOfC "_law_same" (defScope s__law_same) s.heap.objs.size A.a__law_same cdv)).units + 64 < cLine := by
      have := hr.un
      omega
    have hu65 : (A0.deeper (envOfC "_law_same" (defScope s__law_same) s.heap.objs.size A.a__law_same cdv)).units + 65 < cLine := by
      have := hr.un
      omega
    exact (s_cons (s_if (PW.pt (w_or (t_tru (d_isi T.z_isinstance (d_var 1 (pv 1)) (pe_bltn (v := .ty "tuple") (by rfl) T.z_tuple (by decide +kernel) rfl) (.ty "tuple") (is_tup T.owns))) (w_or1 (t_tru (d_isi T.z_isinstance (d_var 1 (pv 1)) (pe_bltn (v := .ty "list") (by rfl) T.z_list (by decide +kernel) rfl) (.ty "list") (is_lst T.owns)))))) ss_never s_nil)
    (s_cons (s_if (PW.pt (w_or (t_cmp op_isN ok_isN (d_var 1 (pv 1)) d_non) (w_or1 (t_tru (d_isi T.z_isinstance (d_var 1 (pv 1)) (pe_bltn (v := .ty "bool") (by rfl) T.z_bool (by decide +kernel) rfl) (.ty "bool") (is_bl T.owns)))))) (s_one (s_ret (d_and (d_cmp (op_eqD hu64) ok_eq (d_cmp op_isN ok_isN (d_var 0 (pv 0)) d_non) (d_cmp op_isN ok_isN (d_var 1 (pv 1)) d_non)) (d_and (d_or (d_cmp op_isN ok_isN (d_var 1 (pv 1)) d_non) (d_one (d_isi T.z_isinstance (d_var 0 (pv 0)) (pe_bltn (v := .ty "bool") (by rfl) T.z_bool (by decide +kernel) rfl) (.ty "bool") (is_bl T.owns)))) (d_one (d_cmp (op_eqD hu64) ok_eq (d_var 0 (pv 0)) (d_var 1 (pv 1)))))))) s_nil)
    (s_cons (s_if (t_tru (d_isi T.z_isinstance (d_var 1 (pv 1)) (pe_bltn (v := .ty "int") (by rfl) T.z_int (by decide +kernel) rfl) (.ty "int") (is_int T.owns))) (s_one (s_ret (d_and (d_isi T.z_isinstance (d_var 0 (pv 0)) (pe_bltn (v := .ty "int") (by rfl) T.z_int (by decide +kernel) rfl) (.ty "int") (is_int T.owns)) (d_and (d_not (d_isi T.z_isinstance (d_var 0 (pv 0)) (pe_bltn (v := .ty "bool") (by rfl) T.z_bool (by decide +kernel) rfl) (.ty "bool") (is_bl T.owns))) (d_one (d_cmp (op_eqD hu64) ok_eq (d_var 0 (pv 0)) (d_var 1 (pv 1)))))))) s_nil)
    (s_one (s_ret (d_and (d_isi T.z_isinstance (d_var 0 (pv 0)) (pe_bltn (v := .ty "str") (by rfl) T.z_str (by decide +kernel) rfl) (.ty "str") (is_str T.owns)) (d_one (d_cmp (op_eqD hu64) ok_eq (d_var 0 (pv 0)) (d_var 1 (pv 1))))))))))
theorem ok__law_pool (T : Txt K mg A)  : FnOk P w K mg base (L2.CX P w) 2 A.a__law_pool A.fd__law_pool ["_law_script", "_law_budget"] (spD K A.cA 2 m__law_pool) :=
  fnOk_of T.f__law_pool sc__law_pool outM_ok outXM_ok fun cdv A0 outer s H E hr => by
    have nd := sc__law_pool.nd
    have hu1 := hu_of hr
    have hu64 := hr.units
    have hu65 : (A0.deeper (envOfC "_law_pool" (defScope s__law_pool) s.heap.objs.size A.a__law_pool cdv)).units + 65 < cLine := by
      have := hr.un
      omega
    have tk := tk_of (P := P) (w := w) (K := K) (mg := mg) (base := base) (N := ["_law_script", "_law_budget"]) (qual := "_law_pool") (sc := defScope s__law_pool) (f := A.a__law_pool) (cdv := cdv) (A := A0) (outer := outer) (s := s) (H := H) (E := E)
    have hp := hp_of (P := P) (w := w) (K := K) (mg := mg) (base := base) (N := ["_law_script", "_law_budget"]) (qual := "_law_pool") (sc := defScope s__law_pool) (f := A.a__law_pool) (cdv := cdv) (A := A0) (outer := outer) (s := s) (H := H) (E := E)
    exact (s_one (s_ret (d_lstM (a_cons (d_list T.z_list (a_cons (d_var 0 (pv 0)) a_nil)) (a_cons d_int (a_cons d_int (a_cons d_int (a_cons d_int (a_cons (d_var 1 (pv 1)) a_nil)))))))))
theorem ok__law_bad (T : Txt K mg A)  : FnOk P w K mg base (L2.CX P w) 2 A.a__law_bad A.fd__law_bad ["_law_rows"] (spD K A.cA 1 m__law_bad) :=
  fnOk_of T.f__law_bad sc__law_bad outC_ok outX_ok fun cdv A0 outer s H E hr => by
    have nd := sc__law_bad.nd
    have hu1 := hu_of hr
    have hu64 := hr.units
    have hu65 : (A0.deeper (envOfC "_law_bad" (defScope s__law_bad) s.heap.objs.size A.a__law_bad cdv)).units + 65 < cLine := by
      have := hr.un
      omega
    have tk := tk_of (P := P) (w := w) (K := K) (mg := mg) (base := base) (N := ["_law_rows", "_law_row"]) (qual := "_law_bad") (sc := defScope s__law_bad) (f := A.a__law_bad) (cdv := cdv) (A := A0) (outer := outer) (s := s) (H := H) (E := E)
    have hp := hp_of (P := P) (w := w) (K := K) (mg := mg) (base := base) (N := ["_law_rows", "_law_row"]) (qual := "_law_bad") (sc := defScope s__law_bad) (f := A.a__law_bad) (cdv := cdv) (A := A0) (outer := outer) (s := s) (H := H) (E := E)
    exact (s_cons (s_if (t_not (t_chain op_ltD op_ltD ok_lt ok_lt d_int (d_len T.z_len (a_cons (d_var 0 (pv 0)) a_nil)) d_int)) (s_one (s_ret d_str)) s_nil)
    (s_cons (s_for hp rfl (i_seq (d_var 0 (pv 0))) (g_name (i := 1) nd) (s_one (s_if (PW.pt (w_or (t_cmp (op_neD hu64) ok_ne (d_len T.z_len (a_cons (d_var 1 (pv 1)) a_nil)) (d_len T.z_len (a_cons (d_ix (d_var 0 (pv 0)) d_int) a_nil))) (w_or1 (t_not (t_chain op_ltD op_ltD ok_lt ok_lt d_int (d_len T.z_len (a_cons (d_var 1 (pv 1)) a_nil)) d_int))))) (s_one (s_ret d_str)) s_nil)))
    (s_cons (s_for hp rfl (i_seq (d_var 0 (pv 0))) (g_name (i := 1) nd) (s_one (s_if (PW.pt (w_or (t_cmp op_ltD ok_lt (d_callB ok_minl (cr_min rfl) T.z_min (a_cons (d_var 1 (pv 1)) a_nil)) d_int) (w_or1 (t_cmp op_gtD ok_gt (d_callB ok_maxl (cr_max rfl) T.z_max (a_cons (d_var 1 (pv 1)) a_nil)) d_int)))) (s_one (s_ret d_str)) s_nil)))
    (s_one (s_ret d_non)))))
theorem ok__law_draw (T : Txt K mg A)  : FnOk P w K mg base (L2.CX P w) 2 A.a__law_draw A.fd__law_draw ["_law_pool_here", "_law_size"] (spD K A.cA 2 m__law_draw) :=
  fnOk_of T.f__law_draw sc__law_draw outC_ok outX_ok fun cdv A0 outer s H E hr => by
    have nd := sc__law_draw.nd
    have hu1 := hu_of hr
    have hu64 := hr.units
    have hu65 : (A0.deeper (envOfC "_law_draw" (defScope s__law_draw) s.heap.objs.size A.a__law_draw cdv)).units + 65 < cLine := by
      have := hr.un
      omega
    have tk := tk_of (P := P) (w := w) (K := K) (mg := mg) (base := base) (N := ["_law_pool_here", "_law_size", "_law_cell", "_law_value"]) (qual := "_law_draw") (sc := defScope s__law_draw) (f := A.a__law_draw) (cdv := cdv) (A := A0) (outer := outer) (s := s) (H := H) (E := E)
    have hp := hp_of (P := P) (w := w) (K := K) (mg := mg) (base := base) (N := ["_law_pool_here", "_law_size", "_law_cell", "_law_value"]) (qual := "_law_draw") (sc := defScope s__law_draw) (f := A.a__law_draw) (cdv := cdv) (A := A0) (outer := outer) (s := s) (H := H) (E := E)
    exact (s_cons (s_if (PW.pt (w_and (t_cmp op_leD ok_le (d_ix (d_var 0 (pv 0)) d_int) d_int) (w_and (t_cmp op_leD ok_le (d_ix (d_var 0 (pv 0)) d_int) d_int) (w_and1 (t_cmp op_ltD ok_lt (d_ix (d_var 0 (pv 0)) d_int) (d_len T.z_len (a_cons (d_ix (d_var 0 (pv 0)) d_int) a_nil))))))) (s_cons (s_set (i := 2) nd (d_ix (d_ix (d_var 0 (pv 0)) d_int) (d_ix (d_var 0 (pv 0)) d_int)))
    (s_cons (s_asg (d_add (d_ix (d_var 0 (pv 0)) d_int) d_int) (g_sub (fun ho hi => pg_sub ho hi set_list) (fun W takes0 => (d_var 0 (pv 0))) (fun W takes0 => d_int) takes0))
    (s_cons (s_asg (d_mod (d_toint T.z_int (a_cons (d_add (d_mul (d_ix (d_var 0 (pv 0)) d_int) d_int) (d_var 2 (pv 2))) a_nil)) d_int) (g_sub (fun ho hi => pg_sub ho hi set_list) (fun W takes0 => (d_var 0 (pv 0))) (fun W takes0 => d_int) takes0))
    (s_cons (s_asg d_int (g_sub (fun ho hi => pg_sub ho hi set_list) (fun W takes0 => (d_var 0 (pv 0))) (fun W takes0 => d_int) takes0))
    (s_one (s_if (t_cmp op_geD ok_ge (d_var 2 (pv 2)) (d_pow d_int d_int)) (s_one (s_asg (d_var 2 (pv 2)) (g_sub (fun ho hi => pg_sub ho hi set_list) (fun W takes0 => (d_var 0 (pv 0))) (fun W takes0 => d_int) takes0))) s_nil)))))) s_nil)
    (s_cons (s_if (t_cmp op_gtD ok_gt (d_ix (d_var 0 (pv 0)) d_int) d_int) (s_cons (s_set (i := 3) nd (d_mod (d_toint T.z_int (a_cons (d_ix (d_var 0 (pv 0)) d_int) a_nil)) (d_var 1 (pv 1))))
    (s_cons (s_asg (d_div (d_ix (d_var 0 (pv 0)) d_int) (d_var 1 (pv 1))) (g_sub (fun ho hi => pg_sub ho hi set_list) (fun W takes0 => (d_var 0 (pv 0))) (fun W takes0 => d_int) takes0))
    (s_cons (s_asg d_int (g_sub (fun ho hi => pg_sub ho hi set_list) (fun W takes0 => (d_var 0 (pv 0))) (fun W takes0 => d_int) takes0))
    (s_one (s_ret (d_var 3 (pv 3))))))) s_nil)
    (s_cons (s_asg (d_sub (d_ix (d_var 0 (pv 0)) d_int) d_int) (g_sub (fun ho hi => pg_sub ho hi set_list) (fun W takes0 => (d_var 0 (pv 0))) (fun W takes0 => d_int) takes0))
    (s_cons (s_asg (d_mod (d_toint T.z_int (a_cons (d_add (d_mul (d_ix (d_var 0 (pv 0)) d_int) d_int) d_int) a_nil)) d_int) (g_sub (fun ho hi => pg_sub ho hi set_list) (fun W takes0 => (d_var 0 (pv 0))) (fun W takes0 => d_int) takes0))
    (s_one (s_ret (d_mod (d_mod (d_toint T.z_int (a_cons (d_add (d_mul (d_ix (d_var 0 (pv 0)) d_int) d_int) d_int) a_nil)) d_int) (d_var 1 (pv 1)))))))))
theorem ok_results (T : Txt K mg A)  : FnOk P w K mg base (L2.CX P w) 2 A.a_results A.fd_results ["table", "part"] (spD K A.cA 2 m_results) :=
  fnOk_of T.f_results sc_results outM_ok outXM_ok fun cdv A0 outer s H E hr => by
    have nd := sc_results.nd
    have hu1 := hu_of hr
    have hu64 := hr.units
    have hu65 : (A0.deeper (envOfC "results" (defScope s_results) s.heap.objs.size A.a_results cdv)).units + 65 < cLine := by
      have := hr.un
      omega
    have tk := tk_of (P := P) (w := w) (K := K) (mg := mg) (base := base) (N := ["table", "part", "row", "column"]) (qual := "results") (sc := defScope s_results) (f := A.a_results) (cdv := cdv) (A := A0) (outer := outer) (s := s) (H := H) (E := E)
    have hp := hp_of (P := P) (w := w) (K := K) (mg := mg) (base := base) (N := ["table", "part", "row", "column"]) (qual := "results") (sc := defScope s_results) (f := A.a_results) (cdv := cdv) (A := A0) (outer := outer) (s := s) (H := H) (E := E)
    exact (s_one (s_ret (d_setIM T.z_sorted T.z_set (d_lc2 rfl nd (i_seq (d_ix (d_var 1 (pv 1)) d_int)) (own := [("row", 2), ("column", 3)]) (by exact blkOk_by (N := ["table", "part", "row", "column"]) (sc := (defScope s_results)) (by decide +kernel)) (vs1 := [3]) (by decide) finF_ok (gok_name (by decide)) (gok_name (by decide)) (g := (gName 2)) (gg1 := (gName 3)) (fun _ _ _ _ _ => (pg_name (i := 2) nd rfl (by first | exact Or.inl rfl | exact Or.inr rfl))) (fun _ _ _ _ _ => ts_nil) (fun _ _ _ _ _ => (i_seq (d_ix (d_var 1 (pv 1)) d_int))) (fun _ _ _ _ _ => (pg_name (i := 3) nd rfl (by first | exact Or.inl rfl | exact Or.inr rfl))) (fun _ _ _ _ _ => ts_nil) (fun _ _ _ _ _ => (d_ix (d_ix (d_fld (clsOk_cons T.i_Table.cl T.n_Table_rows clsOk_nil) (d_var 0 (pv 0))) (d_var 2 (pv 2))) (d_var 3 (pv 3))))))))
theorem ok__law_same (T : Txt K mg A)  : ∀ n, FnOk P w K mg base (L2.CX P w) (1 + n) A.a__law_same A.fd__law_same ["_law_actual", "_law_due"] (spD K A.cA 2 (m__law_same n))
  | 0 => fnOk_no
  | n + 1 => by
    have F__law_same := ok__law_same T  n
    exact fnOk_of T.f__law_same sc__law_same outC_ok outX_ok fun cdv A0 outer s H E hr => by
      have hr : Room (1 + n) _ := hr
      have nd := sc__law_same.nd
      have hu1 := hu_of hr
      have hu64 := hr.units
      have hu65 : (A0.deeper (envOfC "_law_same" (defScope s__law_same) s.heap.objs.size A.a__law_same cdv)).units + 65 < cLine := by
        have := hr.un
        omega
      have tk := tk_of (P := P) (w := w) (K := K) (mg := mg) (base := base) (N := ["_law_actual", "_law_due", "_law_k"]) (qual := "_law_same") (sc := defScope s__law_same) (f := A.a__law_same) (cdv := cdv) (A := A0) (outer := outer) (s := s) (H := H) (E := E)
      have hp := hp_of (P := P) (w := w) (K := K) (mg := mg) (base := base) (N := ["_law_actual", "_law_due", "_law_k"]) (qual := "_law_same") (sc := defScope s__law_same) (f := A.a__law_same) (cdv := cdv) (A := A0) (outer := outer) (s := s) (H := H) (E := E)
      exact (s_cons (s_if (PW.pt (w_or (t_tru (d_isi T.z_isinstance (d_var 1 (pv 1)) (pe_bltn (v := .ty "tuple") (by rfl) T.z_tuple (by decide +kernel) rfl) (.ty "tuple") (is_tup T.owns))) (w_or1 (t_tru (d_isi T.z_isinstance (d_var 1 (pv 1)) (pe_bltn (v := .ty "list") (by rfl) T.z_list (by decide +kernel) rfl) (.ty "list") (is_lst T.owns)))))) (s_cons (s_if (PW.pt (w_or (t_cmp (op_neD hu64) ok_ne (d_isi T.z_isinstance (d_var 1 (pv 1)) (pe_bltn (v := .ty "tuple") (by rfl) T.z_tuple (by decide +kernel) rfl) (.ty "tuple") (is_tup T.owns)) (d_isi T.z_isinstance (d_var 0 (pv 0)) (pe_bltn (v := .ty "tuple") (by rfl) T.z_tuple (by decide +kernel) rfl) (.ty "tuple") (is_tup T.owns))) (w_or1 (t_cmp (op_neD hu64) ok_ne (d_isi T.z_isinstance (d_var 1 (pv 1)) (pe_bltn (v := .ty "list") (by rfl) T.z_list (by decide +kernel) rfl) (.ty "list") (is_lst T.owns)) (d_isi T.z_isinstance (d_var 0 (pv 0)) (pe_bltn (v := .ty "list") (by rfl) T.z_list (by decide +kernel) rfl) (.ty "list") (is_lst T.owns)))))) (s_one (s_ret d_bl)) s_nil)
      (s_cons (s_if (t_cmp (op_neD hu64) ok_ne (d_len T.z_len (a_cons (d_var 0 (pv 0)) a_nil)) (d_len T.z_len (a_cons (d_var 1 (pv 1)) a_nil))) (s_one (s_ret d_bl)) s_nil)
      (s_cons (s_for hp rfl (i_r1 T.z_range (a_cons (d_len T.z_len (a_cons (d_var 1 (pv 1)) a_nil)) a_nil)) (g_name (i := 2) nd) (s_one (s_if (t_not (t_tru (d_call F__law_same cR_ok tk (hr.mono (by omega)) T.g__law_same T.k__law_same T.b__law_same .nil flat_nil (a_cons (d_ix (d_var 0 (pv 0)) (d_var 2 (pv 2))) (a_cons (d_ix (d_var 1 (pv 1)) (d_var 2 (pv 2))) a_nil))))) (s_one (s_ret d_bl)) s_nil)))
      (s_one (s_ret d_bl))))) s_nil)
      (s_cons (s_if (PW.pt (w_or (t_cmp op_isN ok_isN (d_var 1 (pv 1)) d_non) (w_or1 (t_tru (d_isi T.z_isinstance (d_var 1 (pv 1)) (pe_bltn (v := .ty "bool") (by rfl) T.z_bool (by decide +kernel) rfl) (.ty "bool") (is_bl T.owns)))))) (s_one (s_ret (d_and (d_cmp (op_eqD hu64) ok_eq (d_cmp op_isN ok_isN (d_var 0 (pv 0)) d_non) (d_cmp op_isN ok_isN (d_var 1 (pv 1)) d_non)) (d_and (d_or (d_cmp op_isN ok_isN (d_var 1 (pv 1)) d_non) (d_one (d_isi T.z_isinstance (d_var 0 (pv 0)) (pe_bltn (v := .ty "bool") (by rfl) T.z_bool (by decide +kernel) rfl) (.ty "bool") (is_bl T.owns)))) (d_one (d_cmp (op_eqD hu64) ok_eq (d_var 0 (pv 0)) (d_var 1 (pv 1)))))))) s_nil)
      (s_cons (s_if (t_tru (d_isi T.z_isinstance (d_var 1 (pv 1)) (pe_bltn (v := .ty "int") (by rfl) T.z_int (by decide +kernel) rfl) (.ty "int") (is_int T.owns))) (s_one (s_ret (d_and (d_isi T.z_isinstance (d_var 0 (pv 0)) (pe_bltn (v := .ty "int") (by rfl) T.z_int (by decide +kernel) rfl) (.ty "int") (is_int T.owns)) (d_and (d_not (d_isi T.z_isinstance (d_var 0 (pv 0)) (pe_bltn (v := .ty "bool") (by rfl) T.z_bool (by decide +kernel) rfl) (.ty "bool") (is_bl T.owns))) (d_one (d_cmp (op_eqD hu64) ok_eq (d_var 0 (pv 0)) (d_var 1 (pv 1)))))))) s_nil)
      (s_one (s_ret (d_and (d_isi T.z_isinstance (d_var 0 (pv 0)) (pe_bltn (v := .ty "str") (by rfl) T.z_str (by decide +kernel) rfl) (.ty "str") (is_str T.owns)) (d_one (d_cmp (op_eqD hu64) ok_eq (d_var 0 (pv 0)) (d_var 1 (pv 1))))))))))
theorem ok_TableU_eqU (T : Txt K mg A)  : FnOk P w K mg base (L2.CX P w) 2 A.a_TableU_eqU A.fd_TableU_eqU ["self", "other"] (spD K A.cA 2 m_TableU_eqU) :=
  fnOk_of T.f_TableU_eqU sc_TableU_eqU outC_ok outX_ok fun cdv A0 outer s H E hr => by
    have nd := sc_TableU_eqU.nd
    have hu1 := hu_of hr
    have hu64 := hr.units
    have hu65 : (A0.deeper (envOfC "Table.__eq__" (defScope s_TableU_eqU) s.heap.objs.size A.a_TableU_eqU cdv)).units + 65 < cLine := by
      have := hr.un
      omega
    have tk := tk_of (P := P) (w := w) (K := K) (mg := mg) (base := base) (N := ["self", "other"]) (qual := "Table.__eq__") (sc := defScope s_TableU_eqU) (f := A.a_TableU_eqU) (cdv := cdv) (A := A0) (outer := outer) (s := s) (H := H) (E := E)
    have hp := hp_of (P := P) (w := w) (K := K) (mg := mg) (base := base) (N := ["self", "other"]) (qual := "Table.__eq__") (sc := defScope s_TableU_eqU) (f := A.a_TableU_eqU) (cdv := cdv) (A := A0) (outer := outer) (s := s) (H := H) (E := E)
    exact (s_one (s_ret (d_and (d_isi T.z_isinstance (d_var 1 (pv 1)) (pe_glob (v := .ref (A.cA tTable)) (by rfl) T.g_Table rfl) (.own _) T.o_Table) (d_one (d_cmp (op_eqD hu64) ok_eq (d_fld (clsOk_cons T.i_Table.cl T.n_Table_rows clsOk_nil) (d_var 0 (pv 0))) (d_fld (clsOk_cons T.i_Table.cl T.n_Table_rows clsOk_nil) (d_var 1 (pv 1))))))))
theorem ok_whole (T : Txt K mg A)  : FnOk P w K mg base (L2.CX P w) 2 A.a_whole A.fd_whole ["table"] (spD K A.cA 1 m_whole) :=
  fnOk_of T.f_whole sc_whole outC_ok outX_ok fun cdv A0 outer s H E hr => by
    have nd := sc_whole.nd
    have hu1 := hu_of hr
    have hu64 := hr.units
    have hu65 : (A0.deeper (envOfC "whole" (defScope s_whole) s.heap.objs.size A.a_whole cdv)).units + 65 < cLine := by
      have := hr.un
      omega
    have tk := tk_of (P := P) (w := w) (K := K) (mg := mg) (base := base) (N := ["table"]) (qual := "whole") (sc := defScope s_whole) (f := A.a_whole) (cdv := cdv) (A := A0) (outer := outer) (s := s) (H := H) (E := E)
    have hp := hp_of (P := P) (w := w) (K := K) (mg := mg) (base := base) (N := ["table"]) (qual := "whole") (sc := defScope s_whole) (f := A.a_whole) (cdv := cdv) (A := A0) (outer := outer) (s := s) (H := H) (E := E)
    exact (s_one (s_ret (d_tup (a_cons (d_tupRg T.z_tuple T.z_range (d_len T.z_len (a_cons (d_fld (clsOk_cons T.i_Table.cl T.n_Table_rows clsOk_nil) (d_var 0 (pv 0))) a_nil))) (a_cons (d_tupRg T.z_tuple T.z_range (d_len T.z_len (a_cons (d_ix (d_fld (clsOk_cons T.i_Table.cl T.n_Table_rows clsOk_nil) (d_var 0 (pv 0))) d_int) a_nil))) a_nil)))))
theorem ok_TableU_initU (T : Txt K mg A) (F_BadTableU_initU : FnOk P w K mg base (L2.CX P w) 1 A.a_BadTableU_initU A.fd_BadTableU_initU ["self", "what"] (spX1 (A.cA tBadTable) "what")) : FnOk P w K mg base (L2.CX P w) 4 A.a_TableU_initU A.fd_TableU_initU ["self", "rows"] (spD K A.cA 2 m_TableU_initU) :=
  fnOk_of T.f_TableU_initU sc_TableU_initU outM_ok outXM_ok fun cdv A0 outer s H E hr => by
    have nd := sc_TableU_initU.nd
    have hu1 := hu_of hr
    have hu64 := hr.units
    have hu65 : (A0.deeper (envOfC "Table.__init__" (defScope s_TableU_initU) s.heap.objs.size A.a_TableU_initU cdv)).units + 65 < cLine := by
      have := hr.un
      omega
    have tk := tk_of (P := P) (w := w) (K := K) (mg := mg) (base := base) (N := ["self", "rows", "width", "row", "result"]) (qual := "Table.__init__") (sc := defScope s_TableU_initU) (f := A.a_TableU_initU) (cdv := cdv) (A := A0) (outer := outer) (s := s) (H := H) (E := E)
    have hp := hp_of (P := P) (w := w) (K := K) (mg := mg) (base := base) (N := ["self", "rows", "width", "row", "result"]) (qual := "Table.__init__") (sc := defScope s_TableU_initU) (f := A.a_TableU_initU) (cdv := cdv) (A := A0) (outer := outer) (s := s) (H := H) (E := E)
    exact (s_cons (s_if (t_not (t_chain op_ltD op_leD ok_lt ok_le d_int (d_len T.z_len (a_cons (d_var 1 (pv 1)) a_nil)) (d_c (pe_glob (by rfl) T.g_MOST_VALUES T.r_MOST_VALUES) T.p_MOST_VALUES))) (s_one (s_raise1 rfl tk T.xo_BadTable T.xi_BadTable T.xt_BadTable F_BadTableU_initU (hr.mono (by omega)) T.b_BadTableU_initU T.g_BadTable (a_cons d_str a_nil))) s_nil)
    (s_cons (s_set (i := 2) nd (d_len T.z_len (a_cons (d_ix (d_var 1 (pv 1)) d_int) a_nil)))
    (s_cons (s_if (PW.pt (w_or (t_not (t_chain op_ltD op_leD ok_lt ok_le d_int (d_var 2 (pv 2)) (d_c (pe_glob (by rfl) T.g_MOST_VALUES T.r_MOST_VALUES) T.p_MOST_VALUES))) (w_or1 (t_tru (d_callB ok_any (cr_any rfl) T.z_any (a_cons (d_lc rfl nd (i_seq (d_var 1 (pv 1))) (own := [("row", 3)]) (by exact blkOk_by (N := ["self", "rows", "width", "row", "result"]) (sc := (defScope s_TableU_initU)) (by decide +kernel)) finF_ok (gok_name (by decide)) (g := (gName 3)) (fun _ _ _ _ _ => (pg_name (i := 3) nd rfl (by first | exact Or.inl rfl | exact Or.inr rfl))) (fun _ _ _ _ _ => ts_nil) (fun _ _ _ _ _ => (d_cmp (op_neD hu64) ok_ne (d_len T.z_len (a_cons (d_var 3 (pv 3)) a_nil)) (d_var 2 (pv 2))))) a_nil)))))) (s_one (s_raise1 rfl tk T.xo_BadTable T.xi_BadTable T.xt_BadTable F_BadTableU_initU (hr.mono (by omega)) T.b_BadTableU_initU T.g_BadTable (a_cons d_str a_nil))) s_nil)
    (s_cons (s_if (t_tru (d_callB ok_any (cr_any rfl) T.z_any (a_cons (d_lc2 rfl nd (i_seq (d_var 1 (pv 1))) (own := [("row", 3), ("result", 4)]) (by exact blkOk_by (N := ["self", "rows", "width", "row", "result"]) (sc := (defScope s_TableU_initU)) (by decide +kernel)) (vs1 := [4]) (by decide) finF_ok (gok_name (by decide)) (gok_name (by decide)) (g := (gName 3)) (gg1 := (gName 4)) (fun _ _ _ _ _ => (pg_name (i := 3) nd rfl (by first | exact Or.inl rfl | exact Or.inr rfl))) (fun _ _ _ _ _ => ts_nil) (fun _ _ _ _ _ => (i_seq (d_var 3 (pv 3)))) (fun _ _ _ _ _ => (pg_name (i := 4) nd rfl (by first | exact Or.inl rfl | exact Or.inr rfl))) (fun _ _ _ _ _ => ts_nil) (fun _ _ _ _ _ => (d_not (d_chain op_leD op_leD ok_le ok_le d_int (d_var 4 (pv 4)) (d_c (pe_glob (by rfl) T.g_GREATEST T.r_GREATEST) T.p_GREATEST))))) a_nil))) (s_one (s_raise1 rfl tk T.xo_BadTable T.xi_BadTable T.xt_BadTable F_BadTableU_initU (hr.mono (by omega)) T.b_BadTableU_initU T.g_BadTable (a_cons d_str a_nil))) s_nil)
    (s_one (s_fld (t := tTable) T.i_Table.cl T.n_Table_rows (d_var 0 (pv 0)) (d_tuple T.z_tuple (a_cons (d_lc rfl nd (i_seq (d_var 1 (pv 1))) (own := [("row", 3)]) (by exact blkOk_by (N := ["self", "rows", "width", "row", "result"]) (sc := (defScope s_TableU_initU)) (by decide +kernel)) finF_ok (gok_name (by decide)) (g := (gName 3)) (fun _ _ _ _ _ => (pg_name (i := 3) nd rfl (by first | exact Or.inl rfl | exact Or.inr rfl))) (fun _ _ _ _ _ => ts_nil) (fun _ _ _ _ _ => (d_tuple T.z_tuple (a_cons (d_var 3 (pv 3)) a_nil)))) a_nil))))))))
theorem ok__law_exchanged (T : Txt K mg A) (F__law_draw : FnOk P w K mg base (L2.CX P w) 2 A.a__law_draw A.fd__law_draw ["_law_pool_here", "_law_size"] (spD K A.cA 2 m__law_draw)) (F__law_same : FnOk P w K mg base (L2.CX P w) (1 + 40) A.a__law_same A.fd__law_same ["_law_actual", "_law_due"] (spD K A.cA 2 (m__law_same 40))) (F_TableU_initU : FnOk P w K mg base (L2.CX P w) 4 A.a_TableU_initU A.fd_TableU_initU ["self", "rows"] (spD K A.cA 2 m_TableU_initU)) (F_TableU_eqU : FnOk P w K mg base (L2.CX P w) 2 A.a_TableU_eqU A.fd_TableU_eqU ["self", "other"] (spD K A.cA 2 m_TableU_eqU)) : FnOk P w K mg base (L2.CX P w) 42 A.a__law_exchanged A.fd__law_exchanged ["_law_pool_here", "_law_table", "_law_rows"] (spD K A.cA 3 m__law_exchanged) :=
  fnOk_of T.f__law_exchanged sc__law_exchanged outC_ok outX_ok fun cdv A0 outer s H E hr => by
    have nd := sc__law_exchanged.nd
    have hu1 := hu_of hr
    have hu64 := hr.units
    have hu65 : (A0.deeper (envOfC "_law_exchanged" (defScope s__law_exchanged) s.heap.objs.size A.a__law_exchanged cdv)).units + 65 < cLine := by
      have := hr.un
      omega
    have tk := tk_of (P := P) (w := w) (K := K) (mg := mg) (base := base) (N := ["_law_pool_here", "_law_table", "_law_rows", "_law_place", "_law_at", "_law_exchanged_here", "_law_turned", "_law_first", "_law_last", "_law_kept", "_law_other", "_law_row"]) (qual := "_law_exchanged") (sc := defScope s__law_exchanged) (f := A.a__law_exchanged) (cdv := cdv) (A := A0) (outer := outer) (s := s) (H := H) (E := E)
    have hp := hp_of (P := P) (w := w) (K := K) (mg := mg) (base := base) (N := ["_law_pool_here", "_law_table", "_law_rows", "_law_place", "_law_at", "_law_exchanged_here", "_law_turned", "_law_first", "_law_last", "_law_kept", "_law_other", "_law_row"]) (qual := "_law_exchanged") (sc := defScope s__law_exchanged) (f := A.a__law_exchanged) (cdv := cdv) (A := A0) (outer := outer) (s := s) (H := H) (E := E)
    exact (s_cons (s_set (i := 3) nd (d_call F__law_draw cR_ok tk (hr.mono (by omega)) T.g__law_draw T.k__law_draw T.b__law_draw .nil flat_nil (a_cons (d_var 0 (pv 0)) (a_cons (d_len T.z_len (a_cons (d_var 2 (pv 2)) a_nil)) a_nil))))
    (s_cons (s_set (i := 4) nd (d_call F__law_draw cR_ok tk (hr.mono (by omega)) T.g__law_draw T.k__law_draw T.b__law_draw .nil flat_nil (a_cons (d_var 0 (pv 0)) (a_cons (d_len T.z_len (a_cons (d_ix (d_var 2 (pv 2)) d_int) a_nil)) a_nil))))
    (s_cons (s_set (i := 5) nd (d_lst (a_cons (d_lc rfl nd (i_seq (d_var 2 (pv 2))) (own := [("_law_row", 11)]) (by exact blkOk_by (N := ["_law_pool_here", "_law_table", "_law_rows", "_law_place", "_law_at", "_law_exchanged_here", "_law_turned", "_law_first", "_law_last", "_law_kept", "_law_other", "_law_row"]) (sc := (defScope s__law_exchanged)) (by decide +kernel)) finF_ok (gok_name (by decide)) (g := (gName 11)) (fun _ _ _ _ _ => (pg_name (i := 11) nd rfl (by first | exact Or.inl rfl | exact Or.inr rfl))) (fun _ _ _ _ _ => ts_nil) (fun _ _ _ _ _ => (d_rev (fr := true) (d_var 11 (pv 11)) (d_neg d_int)))) (a_cons (d_rev (fr := true) (d_var 2 (pv 2)) (d_neg d_int)) (a_cons (d_add (d_sl (d_var 2 (pv 2)) (o_some d_int) o_none) (d_sl (d_var 2 (pv 2)) o_none (o_some d_int))) (a_cons (d_lc rfl nd (i_seq (d_var 2 (pv 2))) (own := [("_law_row", 11)]) (by exact blkOk_by (N := ["_law_pool_here", "_law_table", "_law_rows", "_law_place", "_law_at", "_law_exchanged_here", "_law_turned", "_law_first", "_law_last", "_law_kept", "_law_other", "_law_row"]) (sc := (defScope s__law_exchanged)) (by decide +kernel)) finF_ok (gok_name (by decide)) (g := (gName 11)) (fun _ _ _ _ _ => (pg_name (i := 11) nd rfl (by first | exact Or.inl rfl | exact Or.inr rfl))) (fun _ _ _ _ _ => ts_nil) (fun _ _ _ _ _ => (d_add (d_sl (d_var 11 (pv 11)) (o_some d_int) o_none) (d_sl (d_var 11 (pv 11)) o_none (o_some d_int))))) a_nil))))))
    (s_cons (s_setLc (i := 6) rfl nd rfl rfl (sw_true rfl rfl rfl (by decide +kernel)) (i_seq (d_var 2 (pv 2))) (own := [("_law_row", 11)]) (by exact blkOk_by (N := ["_law_pool_here", "_law_table", "_law_rows", "_law_place", "_law_at", "_law_exchanged_here", "_law_turned", "_law_first", "_law_last", "_law_kept", "_law_other", "_law_row"]) (sc := (defScope s__law_exchanged)) (by decide +kernel)) finM_ok (gok_name (by decide)) (g := (gName 11)) (fun _ _ _ _ _ => (pg_name (i := 11) nd rfl (by first | exact Or.inl rfl | exact Or.inr rfl))) (fun _ _ _ _ _ => ts_nil) (fun _ _ _ _ _ => (d_listM T.z_list (a_cons (d_var 11 (pv 11)) a_nil))))
    (s_cons (s_set (i := 7) nd (d_ix (d_var 6 (pv 6)) d_int))
    (s_cons (s_set (i := 8) nd (d_ix (d_var 6 (pv 6)) (d_var 3 (pv 3))))
    (s_cons (s_set (i := 9) nd (d_ix (d_var 7 (pv 7)) d_int))
    (s_cons (s_asg (d_ix (d_var 8 (pv 8)) (d_var 4 (pv 4))) (g_sub (fun ho hi => pg_sub ho hi set_list) (fun W takes0 => (d_var 7 (pv 7))) (fun W takes0 => d_int) takes0))
    (s_cons (s_asg (d_var 9 (pv 9)) (g_sub (fun ho hi => pg_sub ho hi set_list) (fun W takes0 => (d_var 8 (pv 8))) (fun W takes0 => (d_var 4 (pv 4))) takes0))
    (s_cons (s_for hp rfl (i_seq (d_add (d_var 5 (pv 5)) (d_lst (a_cons (d_seal (d_var 6 (pv 6))) a_nil)))) (g_name (i := 10) nd) (s_one (s_if (t_not (t_tru (d_call F__law_same cR_ok tk (hr.mono (by omega)) T.g__law_same T.k__law_same T.b__law_same .nil flat_nil (a_cons (d_lst (a_cons (d_cmp (op_ownCmp (op := .Eq) F_TableU_eqU (hr.mono (by omega)) T.b_TableU_eqU T.h_TableU_eqU.at_ T.h_TableU_eqU.fn (fun _ _ => rfl)) (ok_own cR_ok) (d_var 1 (pv 1)) (d_make T.mk_Table F_TableU_initU mkF_ok tk (hr.mono (by omega)) T.g_Table T.b_TableU_initU .nil flat_nil (a_cons (d_var 10 (pv 10)) a_nil))) (a_cons (d_cmp (op_ownCmp (op := .Eq) F_TableU_eqU (hr.mono (by omega)) T.b_TableU_eqU T.h_TableU_eqU.at_ T.h_TableU_eqU.fn (fun _ _ => rfl)) (ok_own cR_ok) (d_make T.mk_Table F_TableU_initU mkF_ok tk (hr.mono (by omega)) T.g_Table T.b_TableU_initU .nil flat_nil (a_cons (d_var 10 (pv 10)) a_nil)) (d_var 1 (pv 1))) a_nil))) (a_cons (d_lst (a_cons (d_cmp (op_eqD hu64) ok_eq (d_var 10 (pv 10)) (d_var 2 (pv 2))) (a_cons (d_cmp (op_eqD hu64) ok_eq (d_var 10 (pv 10)) (d_var 2 (pv 2))) a_nil))) a_nil))))) (s_one (s_ret d_bl)) s_nil)))
    (s_one (s_ret d_bl))))))))))))
theorem ok_law (T : Txt K mg A) (F__law_pool : FnOk P w K mg base (L2.CX P w) 2 A.a__law_pool A.fd__law_pool ["_law_script", "_law_budget"] (spD K A.cA 2 m__law_pool)) (F__law_draw : FnOk P w K mg base (L2.CX P w) 2 A.a__law_draw A.fd__law_draw ["_law_pool_here", "_law_size"] (spD K A.cA 2 m__law_draw)) (F__law_bad : FnOk P w K mg base (L2.CX P w) 2 A.a__law_bad A.fd__law_bad ["_law_rows"] (spD K A.cA 1 m__law_bad)) (F_TableU_initU : FnOk P w K mg base (L2.CX P w) 4 A.a_TableU_initU A.fd_TableU_initU ["self", "rows"] (spD K A.cA 2 m_TableU_initU)) (F__law_same : FnOk P w K mg base (L2.CX P w) (1 + 40) A.a__law_same A.fd__law_same ["_law_actual", "_law_due"] (spD K A.cA 2 (m__law_same 40))) (F_TableU_eqU : FnOk P w K mg base (L2.CX P w) 2 A.a_TableU_eqU A.fd_TableU_eqU ["self", "other"] (spD K A.cA 2 m_TableU_eqU)) (F__law_exchanged : FnOk P w K mg base (L2.CX P w) 42 A.a__law_exchanged A.fd__law_exchanged ["_law_pool_here", "_law_table", "_law_rows"] (spD K A.cA 3 m__law_exchanged)) (F_results : FnOk P w K mg base (L2.CX P w) 2 A.a_results A.fd_results ["table", "part"] (spD K A.cA 2 m_results)) (F_whole : FnOk P w K mg base (L2.CX P w) 2 A.a_whole A.fd_whole ["table"] (spD K A.cA 1 m_whole)) (FU__law_same : FnU P w K mg base 1 A.a__law_same A.fd__law_same ["_law_actual", "_law_due"] (spD K A.cA 2 mU__law_same)) : FnOk P w K mg base (L2.CX P w) 43 A.a_law A.fd_law ["_law_script"] (spD K A.cA 1 m_law) :=
  fnOk_of T.f_law sc_law outC_ok outX_ok fun cdv A0 outer s H E hr => by
    have nd := sc_law.nd
    have hu1 := hu_of hr
    have hu64 := hr.units
    have hu65 : (A0.deeper (envOfC "law" (defScope s_law) s.heap.objs.size A.a_law cdv)).units + 65 < cLine := by
      have := hr.un
      omega
    have tk := tk_of (P := P) (w := w) (K := K) (mg := mg) (base := base) (N := ["_law_script", "_law_pool_here", "_law_count", "_law_width", "_law_rows", "_law_k", "_law_due", "_law_passed", "_law_row", "_law_other", "_law_place", "_law_at", "_law_line", "_law_unlike", "_law_told", "_law_part", "_law_own", "_law_found", "_law_turn", "_law_table", "e", "_law_wide", "_law_result"]) (qual := "law") (sc := defScope s_law) (f := A.a_law) (cdv := cdv) (A := A0) (outer := outer) (s := s) (H := H) (E := E)
    have hp := hp_of (P := P) (w := w) (K := K) (mg := mg) (base := base) (N := ["_law_script", "_law_pool_here", "_law_count", "_law_width", "_law_rows", "_law_k", "_law_due", "_law_passed", "_law_row", "_law_other", "_law_place", "_law_at", "_law_line", "_law_unlike", "_law_told", "_law_part", "_law_own", "_law_found", "_law_turn", "_law_table", "e", "_law_wide", "_law_result"]) (qual := "law") (sc := defScope s_law) (f := A.a_law) (cdv := cdv) (A := A0) (outer := outer) (s := s) (H := H) (E := E)
    exact (s_cons (s_set (i := 1) nd (d_call F__law_pool cA_ok tk (hr.mono (by omega)) T.g__law_pool T.k__law_pool T.b__law_pool .nil flat_nil (a_cons (d_var 0 (pv 0)) (a_cons d_int a_nil))))
    (s_cons (s_set (i := 2) nd (d_ix (d_tup (a_cons (d_add d_int (d_call F__law_draw cR_ok tk (hr.mono (by omega)) T.g__law_draw T.k__law_draw T.b__law_draw .nil flat_nil (a_cons (d_var 1 (pv 1)) (a_cons d_int a_nil)))) (a_cons (d_call F__law_draw cR_ok tk (hr.mono (by omega)) T.g__law_draw T.k__law_draw T.b__law_draw .nil flat_nil (a_cons (d_var 1 (pv 1)) (a_cons d_int a_nil))) a_nil))) (d_toint T.z_int (a_cons (d_cmp (op_eqD hu64) ok_eq (d_call F__law_draw cR_ok tk (hr.mono (by omega)) T.g__law_draw T.k__law_draw T.b__law_draw .nil flat_nil (a_cons (d_var 1 (pv 1)) (a_cons d_int a_nil))) d_int) a_nil))))
    (s_cons (s_set (i := 3) nd (d_ix (d_tup (a_cons (d_add d_int (d_call F__law_draw cR_ok tk (hr.mono (by omega)) T.g__law_draw T.k__law_draw T.b__law_draw .nil flat_nil (a_cons (d_var 1 (pv 1)) (a_cons d_int a_nil)))) (a_cons (d_call F__law_draw cR_ok tk (hr.mono (by omega)) T.g__law_draw T.k__law_draw T.b__law_draw .nil flat_nil (a_cons (d_var 1 (pv 1)) (a_cons d_int a_nil))) a_nil))) (d_toint T.z_int (a_cons (d_cmp (op_eqD hu64) ok_eq (d_call F__law_draw cR_ok tk (hr.mono (by omega)) T.g__law_draw T.k__law_draw T.b__law_draw .nil flat_nil (a_cons (d_var 1 (pv 1)) (a_cons d_int a_nil))) d_int) a_nil))))
    (s_cons (s_set (i := 4) nd (d_lstM a_nil))
    (s_cons (s_for hp rfl (i_r1 T.z_range (a_cons (d_var 2 (pv 2)) a_nil)) (g_name (i := 5) nd) (s_cons (s_set (i := 16) nd (d_add (d_var 3 (pv 3)) (d_mul (d_sub (d_call F__law_draw cR_ok tk (hr.mono (by omega)) T.g__law_draw T.k__law_draw T.b__law_draw .nil flat_nil (a_cons (d_var 1 (pv 1)) (a_cons d_int a_nil))) d_int) (d_toint T.z_int (a_cons (d_cmp (op_eqD hu64) ok_eq (d_call F__law_draw cR_ok tk (hr.mono (by omega)) T.g__law_draw T.k__law_draw T.b__law_draw .nil flat_nil (a_cons (d_var 1 (pv 1)) (a_cons d_int a_nil))) d_int) a_nil)))))
    (s_one (s_expr (d_append (d_var 4 (pv 4)) (a_cons (d_lc rfl nd (i_r1 T.z_range (a_cons (d_callB ok_max2 (call_max2 rfl) T.z_max (a_cons d_int (a_cons (d_var 16 (pv 16)) a_nil))) a_nil)) (own := [("_law_turn", 18)]) (by exact blkOk_by (N := ["_law_script", "_law_pool_here", "_law_count", "_law_width", "_law_rows", "_law_k", "_law_due", "_law_passed", "_law_row", "_law_other", "_law_place", "_law_at", "_law_line", "_law_unlike", "_law_told", "_law_part", "_law_own", "_law_found", "_law_turn", "_law_table", "e", "_law_wide", "_law_result"]) (sc := (defScope s_law)) (by decide +kernel)) finM_ok (gok_name (by decide)) (g := (gName 18)) (fun _ _ _ _ _ => (pg_name (i := 18) nd rfl (by first | exact Or.inl rfl | exact Or.inr rfl))) (fun _ _ _ _ _ => ts_nil) (fun _ _ _ _ _ => (d_ix (d_tup (a_cons (d_call F__law_draw cR_ok takes0 (hr.mono (by omega)) T.g__law_draw T.k__law_draw T.b__law_draw .nil flat_nil (a_cons (d_var 1 (pv 1)) (a_cons d_int a_nil))) (a_cons (d_call F__law_draw cR_ok takes0 (hr.mono (by omega)) T.g__law_draw T.k__law_draw T.b__law_draw .nil flat_nil (a_cons (d_var 1 (pv 1)) (a_cons d_int a_nil))) a_nil))) (d_call F__law_draw cR_ok takes0 (hr.mono (by omega)) T.g__law_draw T.k__law_draw T.b__law_draw .nil flat_nil (a_cons (d_var 1 (pv 1)) (a_cons d_int a_nil)))))) a_nil) (pe_bm PySem.F.plainAttrs_list PySem.F.slot_list_append PySem.F.type_list_append mt_append (d_var 4 (pv 4)) (a_cons (d_lc rfl nd (i_r1 T.z_range (a_cons (d_callB ok_max2 (call_max2 rfl) T.z_max (a_cons d_int (a_cons (d_var 16 (pv 16)) a_nil))) a_nil)) (own := [("_law_turn", 18)]) (by exact blkOk_by (N := ["_law_script", "_law_pool_here", "_law_count", "_law_width", "_law_rows", "_law_k", "_law_due", "_law_passed", "_law_row", "_law_other", "_law_place", "_law_at", "_law_line", "_law_unlike", "_law_told", "_law_part", "_law_own", "_law_found", "_law_turn", "_law_table", "e", "_law_wide", "_law_result"]) (sc := (defScope s_law)) (by decide +kernel)) finM_ok (gok_name (by decide)) (g := (gName 18)) (fun _ _ _ _ _ => (pg_name (i := 18) nd rfl (by first | exact Or.inl rfl | exact Or.inr rfl))) (fun _ _ _ _ _ => ts_nil) (fun _ _ _ _ _ => (d_ix (d_tup (a_cons (d_call F__law_draw cR_ok takes0 (hr.mono (by omega)) T.g__law_draw T.k__law_draw T.b__law_draw .nil flat_nil (a_cons (d_var 1 (pv 1)) (a_cons d_int a_nil))) (a_cons (d_call F__law_draw cR_ok takes0 (hr.mono (by omega)) T.g__law_draw T.k__law_draw T.b__law_draw .nil flat_nil (a_cons (d_var 1 (pv 1)) (a_cons d_int a_nil))) a_nil))) (d_call F__law_draw cR_ok takes0 (hr.mono (by omega)) T.g__law_draw T.k__law_draw T.b__law_draw .nil flat_nil (a_cons (d_var 1 (pv 1)) (a_cons d_int a_nil)))))) a_nil)))))))
    (s_cons (s_if (PW.pt (w_and (t_cmp (op_eqD hu64) ok_eq (d_call F__law_draw cR_ok tk (hr.mono (by omega)) T.g__law_draw T.k__law_draw T.b__law_draw .nil flat_nil (a_cons (d_var 1 (pv 1)) (a_cons d_int a_nil))) d_int) (w_and (t_cmp op_gtD ok_gt (d_var 2 (pv 2)) d_int) (w_and (t_cmp op_gtD ok_gt (d_var 3 (pv 3)) d_int) (w_and1 (t_cmp op_gtD ok_gt (d_len T.z_len (a_cons (d_ix (d_var 4 (pv 4)) (d_neg d_int)) a_nil)) d_int)))))) (s_one (s_for hp rfl (i_r1 T.z_range (a_cons (d_add d_int (d_call F__law_draw cR_ok tk (hr.mono (by omega)) T.g__law_draw T.k__law_draw T.b__law_draw .nil flat_nil (a_cons (d_var 1 (pv 1)) (a_cons d_int a_nil)))) a_nil)) (g_name (i := 18) nd) (s_cons (s_set (i := 8) nd (d_ix (d_var 4 (pv 4)) (d_call F__law_draw cR_ok tk (hr.mono (by omega)) T.g__law_draw T.k__law_draw T.b__law_draw .nil flat_nil (a_cons (d_var 1 (pv 1)) (a_cons (d_len T.z_len (a_cons (d_var 4 (pv 4)) a_nil)) a_nil)))))
    (s_cons (s_set (i := 21) nd (d_tup (a_cons d_int (a_cons (d_add d_int (d_call F__law_draw cR_ok tk (hr.mono (by omega)) T.g__law_draw T.k__law_draw T.b__law_draw .nil flat_nil (a_cons (d_var 1 (pv 1)) (a_cons d_int a_nil)))) (a_cons (d_add d_int (d_call F__law_draw cR_ok tk (hr.mono (by omega)) T.g__law_draw T.k__law_draw T.b__law_draw .nil flat_nil (a_cons (d_var 1 (pv 1)) (a_cons (d_pow d_int d_int) a_nil)))) (a_cons (d_sub (d_neg d_int) (d_call F__law_draw cR_ok tk (hr.mono (by omega)) T.g__law_draw T.k__law_draw T.b__law_draw .nil flat_nil (a_cons (d_var 1 (pv 1)) (a_cons d_int a_nil)))) (a_cons (d_sub (d_neg d_int) (d_call F__law_draw cR_ok tk (hr.mono (by omega)) T.g__law_draw T.k__law_draw T.b__law_draw .nil flat_nil (a_cons (d_var 1 (pv 1)) (a_cons d_int a_nil)))) a_nil)))))))
    (s_one (s_if (t_cmp op_gtD ok_gt (d_len T.z_len (a_cons (d_var 8 (pv 8)) a_nil)) d_int) (s_one (s_asg (d_ix (d_var 21 (pv 21)) (d_call F__law_draw cR_ok tk (hr.mono (by omega)) T.g__law_draw T.k__law_draw T.b__law_draw .nil flat_nil (a_cons (d_var 1 (pv 1)) (a_cons d_int a_nil)))) (g_sub (fun ho hi => pg_sub ho hi set_list) (fun W takes0 => (d_var 8 (pv 8))) (fun W takes0 => (d_call F__law_draw cR_ok takes0 (hr.mono (by omega)) T.g__law_draw T.k__law_draw T.b__law_draw .nil flat_nil (a_cons (d_var 1 (pv 1)) (a_cons (d_len T.z_len (a_cons (d_var 8 (pv 8)) a_nil)) a_nil)))) takes0))) s_nil)))))) s_nil)
    (s_cons (s_set (i := 6) nd (d_call F__law_bad cR_ok tk (hr.mono (by omega)) T.g__law_bad T.k__law_bad T.b__law_bad .nil flat_nil (a_cons (d_var 4 (pv 4)) a_nil)))
    (s_cons (s_setLc (i := 7) rfl nd rfl rfl (sw_true rfl rfl rfl (by decide +kernel)) (i_seq (d_var 4 (pv 4))) (own := [("_law_row", 8)]) (by exact blkOk_by (N := ["_law_script", "_law_pool_here", "_law_count", "_law_width", "_law_rows", "_law_k", "_law_due", "_law_passed", "_law_row", "_law_other", "_law_place", "_law_at", "_law_line", "_law_unlike", "_law_told", "_law_part", "_law_own", "_law_found", "_law_turn", "_law_table", "e", "_law_wide", "_law_result"]) (sc := (defScope s_law)) (by decide +kernel)) finM_ok (gok_name (by decide)) (g := (gName 8)) (fun _ _ _ _ _ => (pg_name (i := 8) nd rfl (by first | exact Or.inl rfl | exact Or.inr rfl))) (fun _ _ _ _ _ => ts_nil) (fun _ _ _ _ _ => (d_ix (d_tupM (a_cons (d_listM T.z_list (a_cons (d_var 8 (pv 8)) a_nil)) (a_cons (d_tuple T.z_tuple (a_cons (d_var 8 (pv 8)) a_nil)) a_nil))) (d_call F__law_draw cR_ok takes0 (hr.mono (by omega)) T.g__law_draw T.k__law_draw T.b__law_draw .nil flat_nil (a_cons (d_var 1 (pv 1)) (a_cons d_int a_nil))))))
    (s_cons (s_if (t_cmp (op_eqD hu64) ok_eq (d_call F__law_draw cR_ok tk (hr.mono (by omega)) T.g__law_draw T.k__law_draw T.b__law_draw .nil flat_nil (a_cons (d_var 1 (pv 1)) (a_cons d_int a_nil))) d_int) (s_one (s_set (i := 7) nd (d_tupleM T.z_tuple (a_cons (d_var 7 (pv 7)) a_nil)))) s_nil)
    (s_cons (s_try (c := .ref (A.cA tTalkError)) rfl rfl nd tk ⟨rfl, by decide, .inl T.g_TalkError⟩ T.xm_TalkError (fun W pn xe tk hp => (s_one (s_set (i := 19) nd (d_seal (d_make T.mk_Table F_TableU_initU mkA_ok tk (hr.mono (by omega)) T.g_Table T.b_TableU_initU .nil flat_nil (a_cons (d_var 7 (pv 7)) a_nil)))))) (fun a oe cls d pn hz hf => (x_last (x_ret (x_and (x_isE hz hf T.z_isinstance rfl (by first | exact Or.inl rfl | exact Or.inr (Or.inl rfl) | exact Or.inr (Or.inr rfl)) (pe_glob (v := .ref (A.cA tBadTable)) (by rfl) T.g_BadTable rfl) (.own _) T.xq_BadTable) (x_and (x_not (x_isT (cs := [V.ref (A.cA tBadPaper), V.ref (A.cA tBadRatio), V.ref (A.cA tBadTalk), V.ref (A.cA tBadText), V.ref (A.cA tTooLarge)]) hz hf T.z_isinstance rfl (by first | exact Or.inl rfl | exact Or.inr (Or.inl rfl) | exact Or.inr (Or.inr rfl)) (pa_cons (pe_glob (v := .ref (A.cA tBadPaper)) (by rfl) T.g_BadPaper rfl) (pa_cons (pe_glob (v := .ref (A.cA tBadRatio)) (by rfl) T.g_BadRatio rfl) (pa_cons (pe_glob (v := .ref (A.cA tBadTalk)) (by rfl) T.g_BadTalk rfl) (pa_cons (pe_glob (v := .ref (A.cA tBadText)) (by rfl) T.g_BadText rfl) (pa_cons (pe_glob (v := .ref (A.cA tTooLarge)) (by rfl) T.g_TooLarge rfl) pa_nil))))) (show 5 ≤ sizeLine from by decide) (.cons (.own _) (.cons (.own _) (.cons (.own _) (.cons (.own _) (.cons (.own _) .nil))))) T.xq_BadPaper_BadRatio_BadTalk_BadText_TooLarge)) (x_and (x_lift (d_cmp op_notN ok_notN (d_var 6 (pv 6)) d_non)) (x_one (x_call FU__law_same cR_ok ((roomU hr _).mono (by omega)) T.g__law_same T.k__law_same T.b__law_same (xa_cons (x_fld hz hf T.xc_BadTable T.n_BadTable_what rfl (by first | exact Or.inl rfl | exact Or.inr (Or.inl rfl) | exact Or.inr (Or.inr rfl))) (xa_cons (x_lift (d_var 6 (pv 6))) xa_nil)))))))))))
    (s_cons (s_if (PW.pt (w_or (t_cmp op_notN ok_notN (d_var 6 (pv 6)) d_non) (w_or1 (t_cmp (op_neD hu64) ok_ne (d_lc rfl nd (i_seq (d_var 7 (pv 7))) (own := [("_law_row", 8)]) (by exact blkOk_by (N := ["_law_script", "_law_pool_here", "_law_count", "_law_width", "_law_rows", "_law_k", "_law_due", "_law_passed", "_law_row", "_law_other", "_law_place", "_law_at", "_law_line", "_law_unlike", "_law_told", "_law_part", "_law_own", "_law_found", "_law_turn", "_law_table", "e", "_law_wide", "_law_result"]) (sc := (defScope s_law)) (by decide +kernel)) finF_ok (gok_name (by decide)) (g := (gName 8)) (fun _ _ _ _ _ => (pg_name (i := 8) nd rfl (by first | exact Or.inl rfl | exact Or.inr rfl))) (fun _ _ _ _ _ => ts_nil) (fun _ _ _ _ _ => (d_list T.z_list (a_cons (d_var 8 (pv 8)) a_nil)))) (d_var 4 (pv 4)))))) (s_one (s_ret d_bl)) s_nil)
    (s_cons (s_for hp rfl (i_seq (d_var 7 (pv 7))) (g_name (i := 8) nd) (s_one (s_if (t_tru (d_isi T.z_isinstance (d_var 8 (pv 8)) (pe_bltn (v := .ty "list") (by rfl) T.z_list (by decide +kernel) rfl) (.ty "list") (is_lst T.owns))) (s_one (s_expr (d_append (d_var 8 (pv 8)) (a_cons d_int a_nil) (pe_bm PySem.F.plainAttrs_list PySem.F.slot_list_append PySem.F.type_list_append mt_append (d_var 8 (pv 8)) (a_cons d_int a_nil))))) s_nil)))
    (s_cons (s_if (t_tru (d_isi T.z_isinstance (d_var 7 (pv 7)) (pe_bltn (v := .ty "list") (by rfl) T.z_list (by decide +kernel) rfl) (.ty "list") (is_lst T.owns))) (s_one (s_expr (d_append (d_var 7 (pv 7)) (a_cons (d_lst (a_cons d_int a_nil)) a_nil) (pe_bm PySem.F.plainAttrs_list PySem.F.slot_list_append PySem.F.type_list_append mt_append (d_var 7 (pv 7)) (a_cons (d_lst (a_cons d_int a_nil)) a_nil))))) s_nil)
    (s_cons (s_if (PW.pt (w_or (t_not (t_tru (d_call F__law_same cR_ok tk (hr.mono (by omega)) T.g__law_same T.k__law_same T.b__law_same .nil flat_nil (a_cons (d_fld (clsOk_cons T.i_Table.cl T.n_Table_rows clsOk_nil) (d_var 19 (pv 19))) (a_cons (d_tuple T.z_tuple (a_cons (d_lc rfl nd (i_seq (d_var 4 (pv 4))) (own := [("_law_row", 8)]) (by exact blkOk_by (N := ["_law_script", "_law_pool_here", "_law_count", "_law_width", "_law_rows", "_law_k", "_law_due", "_law_passed", "_law_row", "_law_other", "_law_place", "_law_at", "_law_line", "_law_unlike", "_law_told", "_law_part", "_law_own", "_law_found", "_law_turn", "_law_table", "e", "_law_wide", "_law_result"]) (sc := (defScope s_law)) (by decide +kernel)) finF_ok (gok_name (by decide)) (g := (gName 8)) (fun _ _ _ _ _ => (pg_name (i := 8) nd rfl (by first | exact Or.inl rfl | exact Or.inr rfl))) (fun _ _ _ _ _ => ts_nil) (fun _ _ _ _ _ => (d_tuple T.z_tuple (a_cons (d_var 8 (pv 8)) a_nil)))) a_nil)) a_nil))))) (w_or1 (t_not (t_tru (d_call F__law_same cR_ok tk (hr.mono (by omega)) T.g__law_same T.k__law_same T.b__law_same .nil flat_nil (a_cons (d_cmp (op_ownCmp (op := .Eq) F_TableU_eqU (hr.mono (by omega)) T.b_TableU_eqU T.h_TableU_eqU.at_ T.h_TableU_eqU.fn (fun _ _ => rfl)) (ok_own cR_ok) (d_var 19 (pv 19)) (d_make T.mk_Table F_TableU_initU mkF_ok tk (hr.mono (by omega)) T.g_Table T.b_TableU_initU .nil flat_nil (a_cons (d_var 4 (pv 4)) a_nil))) (a_cons d_bl a_nil)))))))) (s_one (s_ret d_bl)) s_nil)
    (s_cons (s_setLc (i := 9) rfl nd rfl rfl (sw_true rfl rfl rfl (by decide +kernel)) (i_seq (d_var 4 (pv 4))) (own := [("_law_row", 8)]) (by exact blkOk_by (N := ["_law_script", "_law_pool_here", "_law_count", "_law_width", "_law_rows", "_law_k", "_law_due", "_law_passed", "_law_row", "_law_other", "_law_place", "_law_at", "_law_line", "_law_unlike", "_law_told", "_law_part", "_law_own", "_law_found", "_law_turn", "_law_table", "e", "_law_wide", "_law_result"]) (sc := (defScope s_law)) (by decide +kernel)) finM_ok (gok_name (by decide)) (g := (gName 8)) (fun _ _ _ _ _ => (pg_name (i := 8) nd rfl (by first | exact Or.inl rfl | exact Or.inr rfl))) (fun _ _ _ _ _ => ts_nil) (fun _ _ _ _ _ => (d_listM T.z_list (a_cons (d_var 8 (pv 8)) a_nil))))
    (s_cons (s_set (i := 10) nd (d_call F__law_draw cR_ok tk (hr.mono (by omega)) T.g__law_draw T.k__law_draw T.b__law_draw .nil flat_nil (a_cons (d_var 1 (pv 1)) (a_cons (d_len T.z_len (a_cons (d_var 4 (pv 4)) a_nil)) a_nil))))
    (s_cons (s_set (i := 11) nd (d_call F__law_draw cR_ok tk (hr.mono (by omega)) T.g__law_draw T.k__law_draw T.b__law_draw .nil flat_nil (a_cons (d_var 1 (pv 1)) (a_cons (d_len T.z_len (a_cons (d_ix (d_var 4 (pv 4)) d_int) a_nil)) a_nil))))
    (s_cons (s_asg (d_mod (d_toint T.z_int (a_cons (d_add (d_ix (d_ix (d_var 9 (pv 9)) (d_var 10 (pv 10))) (d_var 11 (pv 11))) d_int) a_nil)) d_int) (g_sub (fun ho hi => pg_sub ho hi set_list) (fun W takes0 => (d_ix (d_var 9 (pv 9)) (d_var 10 (pv 10)))) (fun W takes0 => (d_var 11 (pv 11))) takes0))
    (s_cons (s_if (t_not (t_tru (d_call F__law_same cR_ok tk (hr.mono (by omega)) T.g__law_same T.k__law_same T.b__law_same .nil flat_nil (a_cons (d_cmp (op_ownCmp (op := .Eq) F_TableU_eqU (hr.mono (by omega)) T.b_TableU_eqU T.h_TableU_eqU.at_ T.h_TableU_eqU.fn (fun _ _ => rfl)) (ok_own cR_ok) (d_var 19 (pv 19)) (d_make T.mk_Table F_TableU_initU mkF_ok tk (hr.mono (by omega)) T.g_Table T.b_TableU_initU .nil flat_nil (a_cons (d_var 9 (pv 9)) a_nil))) (a_cons d_bl a_nil))))) (s_one (s_ret d_bl)) s_nil)
    (s_cons (s_if (t_not (t_tru (d_call F__law_exchanged cR_ok tk (hr.mono (by omega)) T.g__law_exchanged T.k__law_exchanged T.b__law_exchanged .nil flat_nil (a_cons (d_var 1 (pv 1)) (a_cons (d_var 19 (pv 19)) (a_cons (d_var 4 (pv 4)) a_nil)))))) (s_one (s_ret d_bl)) s_nil)
    (s_cons (s_set (i := 12) nd (d_lst a_nil))
    (s_cons (s_for hp rfl (i_seq (d_var 4 (pv 4))) (g_name (i := 8) nd) (s_one (s_set (i := 12) nd (d_add (d_var 12 (pv 12)) (d_var 8 (pv 8))))))
    (s_cons (s_set (i := 13) nd (d_lst (a_cons (d_lst (a_cons (d_var 12 (pv 12)) a_nil)) (a_cons (d_lc rfl nd (i_seq (d_var 12 (pv 12))) (own := [("_law_result", 22)]) (by exact blkOk_by (N := ["_law_script", "_law_pool_here", "_law_count", "_law_width", "_law_rows", "_law_k", "_law_due", "_law_passed", "_law_row", "_law_other", "_law_place", "_law_at", "_law_line", "_law_unlike", "_law_told", "_law_part", "_law_own", "_law_found", "_law_turn", "_law_table", "e", "_law_wide", "_law_result"]) (sc := (defScope s_law)) (by decide +kernel)) finF_ok (gok_name (by decide)) (g := (gName 22)) (fun _ _ _ _ _ => (pg_name (i := 22) nd rfl (by first | exact Or.inl rfl | exact Or.inr rfl))) (fun _ _ _ _ _ => ts_nil) (fun _ _ _ _ _ => (d_lst (a_cons (d_var 22 (pv 22)) a_nil)))) (a_cons (d_sl (d_var 4 (pv 4)) (o_some d_int) o_none) (a_cons (d_add (d_var 4 (pv 4)) (d_sl (d_var 4 (pv 4)) o_none (o_some d_int))) (a_cons (d_lc rfl nd (i_seq (d_var 4 (pv 4))) (own := [("_law_row", 8)]) (by exact blkOk_by (N := ["_law_script", "_law_pool_here", "_law_count", "_law_width", "_law_rows", "_law_k", "_law_due", "_law_passed", "_law_row", "_law_other", "_law_place", "_law_at", "_law_line", "_law_unlike", "_law_told", "_law_part", "_law_own", "_law_found", "_law_turn", "_law_table", "e", "_law_wide", "_law_result"]) (sc := (defScope s_law)) (by decide +kernel)) finF_ok (gok_name (by decide)) (g := (gName 8)) (fun _ _ _ _ _ => (pg_name (i := 8) nd rfl (by first | exact Or.inl rfl | exact Or.inr rfl))) (fun _ _ _ _ _ => ts_nil) (fun _ _ _ _ _ => (d_sl (d_var 8 (pv 8)) (o_some d_int) o_none))) (a_cons (d_lc rfl nd (i_seq (d_var 4 (pv 4))) (own := [("_law_row", 8)]) (by exact blkOk_by (N := ["_law_script", "_law_pool_here", "_law_count", "_law_width", "_law_rows", "_law_k", "_law_due", "_law_passed", "_law_row", "_law_other", "_law_place", "_law_at", "_law_line", "_law_unlike", "_law_told", "_law_part", "_law_own", "_law_found", "_law_turn", "_law_table", "e", "_law_wide", "_law_result"]) (sc := (defScope s_law)) (by decide +kernel)) finF_ok (gok_name (by decide)) (g := (gName 8)) (fun _ _ _ _ _ => (pg_name (i := 8) nd rfl (by first | exact Or.inl rfl | exact Or.inr rfl))) (fun _ _ _ _ _ => ts_nil) (fun _ _ _ _ _ => (d_add (d_var 8 (pv 8)) (d_sl (d_var 8 (pv 8)) o_none (o_some d_int))))) a_nil))))))))
    (s_cons (s_for hp rfl (i_seq (d_var 13 (pv 13))) (g_name (i := 9) nd) (s_one (s_if (PW.pt (w_and (t_chain op_ltD op_ltD ok_lt ok_lt d_int (d_len T.z_len (a_cons (d_var 9 (pv 9)) a_nil)) d_int) (w_and (t_chain op_ltD op_ltD ok_lt ok_lt d_int (d_len T.z_len (a_cons (d_ix (d_var 9 (pv 9)) d_int) a_nil)) d_int) (w_and1 (t_cmp (op_neD hu64) ok_ne (d_var 9 (pv 9)) (d_var 4 (pv 4))))))) (s_one (s_if (t_not (t_tru (d_call F__law_same cR_ok tk (hr.mono (by omega)) T.g__law_same T.k__law_same T.b__law_same .nil flat_nil (a_cons (d_cmp (op_ownCmp (op := .Eq) F_TableU_eqU (hr.mono (by omega)) T.b_TableU_eqU T.h_TableU_eqU.at_ T.h_TableU_eqU.fn (fun _ _ => rfl)) (ok_own cR_ok) (d_var 19 (pv 19)) (d_make T.mk_Table F_TableU_initU mkF_ok tk (hr.mono (by omega)) T.g_Table T.b_TableU_initU .nil flat_nil (a_cons (d_var 9 (pv 9)) a_nil))) (a_cons d_bl a_nil))))) (s_one (s_ret d_bl)) s_nil)) s_nil)))
    (s_cons (s_set (i := 14) nd (d_call F_results cA_ok tk (hr.mono (by omega)) T.g_results T.k_results T.b_results .nil flat_nil (a_cons (d_var 19 (pv 19)) (a_cons (d_call F_whole cR_ok tk (hr.mono (by omega)) T.g_whole T.k_whole T.b_whole .nil flat_nil (a_cons (d_var 19 (pv 19)) a_nil)) a_nil))))
    (s_cons (s_expr (d_append (d_var 14 (pv 14)) (a_cons d_int a_nil) (pe_bm PySem.F.plainAttrs_list PySem.F.slot_list_append PySem.F.type_list_append mt_append (d_var 14 (pv 14)) (a_cons d_int a_nil))))
    (s_cons (s_set (i := 15) nd (d_tup (a_cons (d_tuple T.z_tuple (a_cons (d_lc rfl nd (i_r1 T.z_range (a_cons (d_len T.z_len (a_cons (d_var 4 (pv 4)) a_nil)) a_nil)) (own := [("_law_k", 5)]) (by exact blkOk_by (N := ["_law_script", "_law_pool_here", "_law_count", "_law_width", "_law_rows", "_law_k", "_law_due", "_law_passed", "_law_row", "_law_other", "_law_place", "_law_at", "_law_line", "_law_unlike", "_law_told", "_law_part", "_law_own", "_law_found", "_law_turn", "_law_table", "e", "_law_wide", "_law_result"]) (sc := (defScope s_law)) (by decide +kernel)) finF_ok (gok_name (by decide)) (g := (gName 5)) (fun _ _ _ _ _ => (pg_name (i := 5) nd rfl (by first | exact Or.inl rfl | exact Or.inr rfl))) (fun _ _ _ _ _ => ts_nil) (fun _ _ _ _ _ => (d_var 5 (pv 5)))) a_nil)) (a_cons (d_tuple T.z_tuple (a_cons (d_lc rfl nd (i_r1 T.z_range (a_cons (d_len T.z_len (a_cons (d_ix (d_var 4 (pv 4)) d_int) a_nil)) a_nil)) (own := [("_law_k", 5)]) (by exact blkOk_by (N := ["_law_script", "_law_pool_here", "_law_count", "_law_width", "_law_rows", "_law_k", "_law_due", "_law_passed", "_law_row", "_law_other", "_law_place", "_law_at", "_law_line", "_law_unlike", "_law_told", "_law_part", "_law_own", "_law_found", "_law_turn", "_law_table", "e", "_law_wide", "_law_result"]) (sc := (defScope s_law)) (by decide +kernel)) finF_ok (gok_name (by decide)) (g := (gName 5)) (fun _ _ _ _ _ => (pg_name (i := 5) nd rfl (by first | exact Or.inl rfl | exact Or.inr rfl))) (fun _ _ _ _ _ => ts_nil) (fun _ _ _ _ _ => (d_var 5 (pv 5)))) a_nil)) a_nil))))
    (s_cons (s_set (i := 16) nd (d_tup (a_cons (d_tup (a_cons (d_var 10 (pv 10)) a_nil)) (a_cons (d_ix (d_var 15 (pv 15)) d_int) a_nil))))
    (s_cons (s_set (i := 14) nd (d_lstM (a_cons (d_call F_results cA_ok tk (hr.mono (by omega)) T.g_results T.k_results T.b_results .nil flat_nil (a_cons (d_var 19 (pv 19)) (a_cons (d_var 15 (pv 15)) a_nil))) (a_cons (d_call F_results cA_ok tk (hr.mono (by omega)) T.g_results T.k_results T.b_results .nil flat_nil (a_cons (d_var 19 (pv 19)) (a_cons (d_var 16 (pv 16)) a_nil))) a_nil))))
    (s_cons (s_set (i := 17) nd (d_lst a_nil))
    (s_cons (s_for hp rfl (i_seq (d_var 4 (pv 4))) (g_name (i := 8) nd) (s_one (s_set (i := 17) nd (d_add (d_var 17 (pv 17)) (d_var 8 (pv 8))))))
    (s_one (s_ret (d_and (d_call F__law_same cR_ok tk (hr.mono (by omega)) T.g__law_same T.k__law_same T.b__law_same .nil flat_nil (a_cons (d_call F_whole cR_ok tk (hr.mono (by omega)) T.g_whole T.k_whole T.b_whole .nil flat_nil (a_cons (d_var 19 (pv 19)) a_nil)) (a_cons (d_var 15 (pv 15)) a_nil))) (d_one (d_call F__law_same cR_ok tk (hr.mono (by omega)) T.g__law_same T.k__law_same T.b__law_same .nil flat_nil (a_cons (d_var 14 (pv 14)) (a_cons (d_lst (a_cons (d_setI T.z_sorted T.z_set (d_var 17 (pv 17))) (a_cons (d_setI T.z_sorted T.z_set (d_ix (d_var 4 (pv 4)) (d_var 10 (pv 10)))) a_nil))) a_nil))))))))))))))))))))))))))))))))))))))
end
theorem all_mk {P : Program} {w : World} {K : PySem.W.Frag} {h : Heap} {mg : Str → Option Value} {fa : Addr} (X : K.In h) (G : h.Ns mainGlobals mg) (hfa : mg "law" = some (.ref fa))
    {c_Table : Addr}
    {c_BadPaper : Addr}
    {c_BadRatio : Addr}
    {c_BadTable : Addr}
    {c_BadTalk : Addr}
    {c_BadText : Addr}
    {c_TalkError : Addr}
    {c_TooLarge : Addr}
    {xn_BadTable xq_BadTable : Str} {xN_BadTable : Addr} {xb_BadTable : List Value} {xs_BadTable : List Str} {xu_BadTable : List Value} {xa_BadTable : Bool} {xcl_BadTable : Option Bool} {xd_BadTable : Option Addr} {xk0_BadTable xk1_BadTable xk2_BadTable xk3_BadTable xk5_BadTable : Option Value}
    {a_BadTableU_initU cc_BadTableU_initU cd_BadTableU_initU : Addr} {od_BadTableU_initU an_BadTableU_initU : Option Addr} {sl_BadTableU_initU : Array (Option Value)} {oc_BadTableU_initU kv_BadTableU_initU dc_BadTableU_initU pm_BadTableU_initU ct_BadTableU_initU : Value}
    {e1_BadTableU_initU : Value} {e2_BadTableU_initU : Option Addr} {e3_BadTableU_initU : Array Value} {e4_BadTableU_initU : Array (Option Value)} {e5_BadTableU_initU : Str} {e6_BadTableU_initU : Tok} {h1_BadTableU_initU : Value} {h2_BadTableU_initU : Option Addr} {h3_BadTableU_initU : Array (Option Value)}
    {a__law_pool : Addr} {od__law_pool an__law_pool : Option Addr} {sl__law_pool : Array (Option Value)} {oc__law_pool kv__law_pool dc__law_pool pm__law_pool cd__law_pool ct__law_pool : Value}
    {a__law_bad : Addr} {od__law_bad an__law_bad : Option Addr} {sl__law_bad : Array (Option Value)} {oc__law_bad kv__law_bad dc__law_bad pm__law_bad cd__law_bad ct__law_bad : Value}
    {a__law_draw : Addr} {od__law_draw an__law_draw : Option Addr} {sl__law_draw : Array (Option Value)} {oc__law_draw kv__law_draw dc__law_draw pm__law_draw cd__law_draw ct__law_draw : Value}
    {a_results : Addr} {od_results an_results : Option Addr} {sl_results : Array (Option Value)} {oc_results kv_results dc_results pm_results cd_results ct_results : Value}
    {a_TableU_initU : Addr} {od_TableU_initU an_TableU_initU : Option Addr} {sl_TableU_initU : Array (Option Value)} {oc_TableU_initU kv_TableU_initU dc_TableU_initU pm_TableU_initU cd_TableU_initU ct_TableU_initU : Value}
    {a__law_same : Addr} {od__law_same an__law_same : Option Addr} {sl__law_same : Array (Option Value)} {oc__law_same kv__law_same dc__law_same pm__law_same cd__law_same ct__law_same : Value}
    {a__law_exchanged : Addr} {od__law_exchanged an__law_exchanged : Option Addr} {sl__law_exchanged : Array (Option Value)} {oc__law_exchanged kv__law_exchanged dc__law_exchanged pm__law_exchanged cd__law_exchanged ct__law_exchanged : Value}
    {a_TableU_eqU : Addr} {od_TableU_eqU an_TableU_eqU : Option Addr} {sl_TableU_eqU : Array (Option Value)} {oc_TableU_eqU kv_TableU_eqU dc_TableU_eqU pm_TableU_eqU cd_TableU_eqU ct_TableU_eqU : Value}
    {a_whole : Addr} {od_whole an_whole : Option Addr} {sl_whole : Array (Option Value)} {oc_whole kv_whole dc_whole pm_whole cd_whole ct_whole : Value}
    {a_law : Addr} {od_law an_law : Option Addr} {sl_law : Array (Option Value)} {oc_law kv_law dc_law pm_law cd_law ct_law : Value}
    {w_GREATEST : Tok}
    {w_MOST_VALUES : Tok}
    (g_Table : PySem.W.nsIn K mainGlobals "Table" = some (some (.ref c_Table)))
    (pg_Table : PySem.W.plainGet K c_Table Str.empty = true)
    (hd_Table : PySem.W.hasDictIn K c_Table = true)
    (po_Table : PySem.W.plainOver K c_Table = true)
    (sa_Table : PySem.W.findIn K (.ref c_Table) "__setattr__" = some (some (.builtin "object.__setattr__")))
    (ha_Table : PySem.W.findIn K (.ref c_Table) "__class__" = some (some (.builtin "object.__class__")))
    (hm_Table : PySem.W.mroIn K c_Table (.type "object") = some true)
    (hn0 : PySem.W.specialIn K (.builtin "object.__class__") "__get__" = some (some (.builtin "getset_descriptor.__get__")))
    (htk0 : PySem.W.takesIn K (.builtin "object.__class__") = some true)
    (g_BadPaper : PySem.W.nsIn K mainGlobals "BadPaper" = some (some (.ref c_BadPaper)))
    (g_BadRatio : PySem.W.nsIn K mainGlobals "BadRatio" = some (some (.ref c_BadRatio)))
    (g_BadTable : PySem.W.nsIn K mainGlobals "BadTable" = some (some (.ref c_BadTable)))
    (g_BadTalk : PySem.W.nsIn K mainGlobals "BadTalk" = some (some (.ref c_BadTalk)))
    (g_BadText : PySem.W.nsIn K mainGlobals "BadText" = some (some (.ref c_BadText)))
    (g_TalkError : PySem.W.nsIn K mainGlobals "TalkError" = some (some (.ref c_TalkError)))
    (g_TooLarge : PySem.W.nsIn K mainGlobals "TooLarge" = some (some (.ref c_TooLarge)))
    (xL_BadTable : K.lookup c_BadTable = some (excClassObj xn_BadTable xq_BadTable c_BadTable xN_BadTable xb_BadTable [.ref c_TalkError, .type "ValueError", .type "Exception", .type "BaseException", .type "object"] true xs_BadTable xu_BadTable xa_BadTable xcl_BadTable xd_BadTable xk0_BadTable xk1_BadTable xk2_BadTable xk3_BadTable xk5_BadTable "ValueError.__new__"))
    (xS_BadTable : PySem.W.findIn K (.ref c_BadTable) "__setattr__" = some (some (.builtin "object.__setattr__")))
    (xE_BadTable : PySem.W.subIn K (.ref c_BadTable) (.type "BaseException") = some true)
    (xT_BadTable : PySem.W.typeIn K (.ref c_BadTable) = some (.type "type"))
    (xK_BadTable : PySem.W.keepIn K (.ref c_BadTable) = true)
    (xG_BadTable : PySem.W.findIn K (.ref c_BadTable) "__getattribute__" = some (some (.builtin "BaseException.__getattribute__")))
    (xH_BadTable : PySem.W.findIn K (.ref c_BadTable) "__getattr__" = some none)
    (xC_BadTable : PySem.W.findIn K (.ref c_BadTable) "__class__" = some (some (.builtin "object.__class__")))
    (xM_BadTable : PySem.W.mroIn K c_BadTable (.type "object") = some true)
    (xD_BadTable : PySem.W.hasDictIn K c_BadTable = true)
    (xi_BadTable : PySem.W.findIn K (.ref c_BadTable) "__init__" = some (some (.ref a_BadTableU_initU)))
    (xt_BadTable : PySem.W.typeIn K (.ref a_BadTableU_initU) = some (.type "function"))
    (l_BadTableU_initU : K.lookup a_BadTableU_initU = some ⟨oc_BadTableU_initU, od_BadTableU_initU, .func (PySem.W.fnX "__init__" "BadTable.__init__" (defArgs s_BadTableU_initU) (defBody s_BadTableU_initU) (defScope s_BadTableU_initU) [(("__class__" : Str), cc_BadTableU_initU)] .none kv_BadTableU_initU dc_BadTableU_initU pm_BadTableU_initU an_BadTableU_initU (.ref cd_BadTableU_initU) ct_BadTableU_initU), sl_BadTableU_initU⟩)
    (cd1_BadTableU_initU : PySem.W.codeIn K (.ref cd_BadTableU_initU) "BadTable.__init__" = true)
    (lc_BadTableU_initU : K.lookup cd_BadTableU_initU = some ⟨e1_BadTableU_initU, e2_BadTableU_initU, .fields e3_BadTableU_initU, e4_BadTableU_initU⟩)
    (fv_BadTableU_initU : e3_BadTableU_initU[2]? = some (.str e5_BadTableU_initU e6_BadTableU_initU))
    (ff_BadTableU_initU : ((P.main.file : Str) == e5_BadTableU_initU) = true)
    (cl_BadTableU_initU : K.lookup cc_BadTableU_initU = some ⟨h1_BadTableU_initU, h2_BadTableU_initU, .cell (some (.ref c_BadTable)), h3_BadTableU_initU⟩)
    (su_BadTableU_initU : PySem.W.mroIn K c_BadTable (.ref c_BadTable) = some true)
    (ks_BadTableU_initU : PySem.W.ks_superIn K c_BadTable c_BadTable "__init__" = some (some (.builtin "ValueError.__init__")))
    (sv_BadTableU_initU : PySem.W.subIn K (.ref c_BadTable) (.type "ValueError") = some true)
    (tp0 : PySem.W.nsIn K cStatics "thirdparty.any" = some none)
    (top0 : (P.main.scope.names.lookup ("super" : Str)).isSome = false)
    (z_super : PySem.W.nsIn K mainGlobals "super" = some none)
    (g__law_pool : PySem.W.nsIn K mainGlobals "_law_pool" = some (some (.ref a__law_pool)))
    (l__law_pool : K.lookup a__law_pool = some ⟨oc__law_pool, od__law_pool, .func (PySem.W.fnOf "_law_pool" "_law_pool" (defArgs s__law_pool) (defBody s__law_pool) (defScope s__law_pool) .none kv__law_pool dc__law_pool pm__law_pool an__law_pool cd__law_pool ct__law_pool), sl__law_pool⟩)
    (cd1__law_pool : PySem.W.codeIn K cd__law_pool "_law_pool" = true)
    (k__law_pool : PySem.W.keepIn K (.ref a__law_pool) = true)
    (g__law_bad : PySem.W.nsIn K mainGlobals "_law_bad" = some (some (.ref a__law_bad)))
    (l__law_bad : K.lookup a__law_bad = some ⟨oc__law_bad, od__law_bad, .func (PySem.W.fnOf "_law_bad" "_law_bad" (defArgs s__law_bad) (defBody s__law_bad) (defScope s__law_bad) .none kv__law_bad dc__law_bad pm__law_bad an__law_bad cd__law_bad ct__law_bad), sl__law_bad⟩)
    (cd1__law_bad : PySem.W.codeIn K cd__law_bad "_law_bad" = true)
    (k__law_bad : PySem.W.keepIn K (.ref a__law_bad) = true)
    (g__law_draw : PySem.W.nsIn K mainGlobals "_law_draw" = some (some (.ref a__law_draw)))
    (l__law_draw : K.lookup a__law_draw = some ⟨oc__law_draw, od__law_draw, .func (PySem.W.fnOf "_law_draw" "_law_draw" (defArgs s__law_draw) (defBody s__law_draw) (defScope s__law_draw) .none kv__law_draw dc__law_draw pm__law_draw an__law_draw cd__law_draw ct__law_draw), sl__law_draw⟩)
    (cd1__law_draw : PySem.W.codeIn K cd__law_draw "_law_draw" = true)
    (k__law_draw : PySem.W.keepIn K (.ref a__law_draw) = true)
    (g_results : PySem.W.nsIn K mainGlobals "results" = some (some (.ref a_results)))
    (l_results : K.lookup a_results = some ⟨oc_results, od_results, .func (PySem.W.fnOf "results" "results" (defArgs s_results) (defBody s_results) (defScope s_results) .none kv_results dc_results pm_results an_results cd_results ct_results), sl_results⟩)
    (cd1_results : PySem.W.codeIn K cd_results "results" = true)
    (k_results : PySem.W.keepIn K (.ref a_results) = true)
    (g_TableU_initU : PySem.W.findIn K (.ref c_Table) "__init__" = some (some (.ref a_TableU_initU)))
    (i_TableU_initU : PySem.W.isFn K (.ref a_TableU_initU) = true)
    (m_TableU_initU : PySem.W.makesIn K c_Table = true)
    (kp_Table : PySem.W.keepIn K (.ref c_Table) = true)
    (l_TableU_initU : K.lookup a_TableU_initU = some ⟨oc_TableU_initU, od_TableU_initU, .func (PySem.W.fnOf "__init__" "Table.__init__" (defArgs s_TableU_initU) (defBody s_TableU_initU) (defScope s_TableU_initU) .none kv_TableU_initU dc_TableU_initU pm_TableU_initU an_TableU_initU cd_TableU_initU ct_TableU_initU), sl_TableU_initU⟩)
    (cd1_TableU_initU : PySem.W.codeIn K cd_TableU_initU "Table.__init__" = true)
    (k_TableU_initU : PySem.W.keepIn K (.ref a_TableU_initU) = true)
    (g__law_same : PySem.W.nsIn K mainGlobals "_law_same" = some (some (.ref a__law_same)))
    (l__law_same : K.lookup a__law_same = some ⟨oc__law_same, od__law_same, .func (PySem.W.fnOf "_law_same" "_law_same" (defArgs s__law_same) (defBody s__law_same) (defScope s__law_same) .none kv__law_same dc__law_same pm__law_same an__law_same cd__law_same ct__law_same), sl__law_same⟩)
    (cd1__law_same : PySem.W.codeIn K cd__law_same "_law_same" = true)
    (k__law_same : PySem.W.keepIn K (.ref a__law_same) = true)
    (g__law_exchanged : PySem.W.nsIn K mainGlobals "_law_exchanged" = some (some (.ref a__law_exchanged)))
    (l__law_exchanged : K.lookup a__law_exchanged = some ⟨oc__law_exchanged, od__law_exchanged, .func (PySem.W.fnOf "_law_exchanged" "_law_exchanged" (defArgs s__law_exchanged) (defBody s__law_exchanged) (defScope s__law_exchanged) .none kv__law_exchanged dc__law_exchanged pm__law_exchanged an__law_exchanged cd__law_exchanged ct__law_exchanged), sl__law_exchanged⟩)
    (cd1__law_exchanged : PySem.W.codeIn K cd__law_exchanged "_law_exchanged" = true)
    (k__law_exchanged : PySem.W.keepIn K (.ref a__law_exchanged) = true)
    (g_TableU_eqU : PySem.W.findIn K (.ref c_Table) "__eq__" = some (some (.ref a_TableU_eqU)))
    (i_TableU_eqU : PySem.W.isFn K (.ref a_TableU_eqU) = true)
    (l_TableU_eqU : K.lookup a_TableU_eqU = some ⟨oc_TableU_eqU, od_TableU_eqU, .func (PySem.W.fnOf "__eq__" "Table.__eq__" (defArgs s_TableU_eqU) (defBody s_TableU_eqU) (defScope s_TableU_eqU) .none kv_TableU_eqU dc_TableU_eqU pm_TableU_eqU an_TableU_eqU cd_TableU_eqU ct_TableU_eqU), sl_TableU_eqU⟩)
    (cd1_TableU_eqU : PySem.W.codeIn K cd_TableU_eqU "Table.__eq__" = true)
    (k_TableU_eqU : PySem.W.keepIn K (.ref a_TableU_eqU) = true)
    (g_whole : PySem.W.nsIn K mainGlobals "whole" = some (some (.ref a_whole)))
    (l_whole : K.lookup a_whole = some ⟨oc_whole, od_whole, .func (PySem.W.fnOf "whole" "whole" (defArgs s_whole) (defBody s_whole) (defScope s_whole) .none kv_whole dc_whole pm_whole an_whole cd_whole ct_whole), sl_whole⟩)
    (cd1_whole : PySem.W.codeIn K cd_whole "whole" = true)
    (k_whole : PySem.W.keepIn K (.ref a_whole) = true)
    (g_law : PySem.W.nsIn K mainGlobals "law" = some (some (.ref a_law)))
    (l_law : K.lookup a_law = some ⟨oc_law, od_law, .func (PySem.W.fnOf "law" "law" (defArgs s_law) (defBody s_law) (defScope s_law) .none kv_law dc_law pm_law an_law cd_law ct_law), sl_law⟩)
    (cd1_law : PySem.W.codeIn K cd_law "law" = true)
    (k_law : PySem.W.keepIn K (.ref a_law) = true)
    (n_BadTable_what : PySem.W.findIn K (.ref c_BadTable) "what" = some none)
    (n_Table_rows : PySem.W.findIn K (.ref c_Table) "rows" = some none)
    (q0_Table : PySem.W.kitOne K (.type "NoneType") (.ref c_Table) = some false)
    (q1_Table : PySem.W.kitOne K (.type "bool") (.ref c_Table) = some false)
    (q2_Table : PySem.W.kitOne K (.type "int") (.ref c_Table) = some false)
    (q3_Table : PySem.W.kitOne K (.type "str") (.ref c_Table) = some false)
    (q4_Table : PySem.W.kitOne K (.type "tuple") (.ref c_Table) = some false)
    (q5_Table : PySem.W.kitOne K (.type "list") (.ref c_Table) = some false)
    (q6_Table : PySem.W.kitOne K (.type "dict") (.ref c_Table) = some false)
    (q7_Table : PySem.W.kitOne K (.type "function") (.ref c_Table) = some false)
    (xz_BadTable_TalkError : PySem.W.subIn K (.ref c_BadTable) (.ref c_TalkError) = some true)
    (xE_TalkError : PySem.W.subIn K (.ref c_TalkError) (.type "BaseException") = some true)
    (xT_TalkError : PySem.W.typeIn K (.ref c_TalkError) = some (.type "type"))
    (xD_TalkError : PySem.W.hasDictIn K c_TalkError = true)
    (xo_BadTable_BadPaper : PySem.W.kitOne K (.ref c_BadTable) (.ref c_BadPaper) = some false)
    (xo_BadTable_BadRatio : PySem.W.kitOne K (.ref c_BadTable) (.ref c_BadRatio) = some false)
    (xo_BadTable_BadTalk : PySem.W.kitOne K (.ref c_BadTable) (.ref c_BadTalk) = some false)
    (xo_BadTable_BadText : PySem.W.kitOne K (.ref c_BadTable) (.ref c_BadText) = some false)
    (xo_BadTable_TooLarge : PySem.W.kitOne K (.ref c_BadTable) (.ref c_TooLarge) = some false)
    (xo_BadTable_BadTable : PySem.W.kitOne K (.ref c_BadTable) (.ref c_BadTable) = some true)
    (w0_Table : PySem.W.kitOne K (.ref c_Table) (.type "tuple") = some false)
    (w1_Table : PySem.W.kitOne K (.ref c_Table) (.type "list") = some false)
    (w2_Table : PySem.W.kitOne K (.ref c_Table) (.type "bool") = some false)
    (w3_Table : PySem.W.kitOne K (.ref c_Table) (.type "int") = some false)
    (w4_Table : PySem.W.kitOne K (.ref c_Table) (.type "str") = some false)
    (z_any : PySem.W.nsIn K mainGlobals "any" = some none)
    (z_bool : PySem.W.nsIn K mainGlobals "bool" = some none)
    (z_int : PySem.W.nsIn K mainGlobals "int" = some none)
    (z_isinstance : PySem.W.nsIn K mainGlobals "isinstance" = some none)
    (z_len : PySem.W.nsIn K mainGlobals "len" = some none)
    (z_list : PySem.W.nsIn K mainGlobals "list" = some none)
    (z_max : PySem.W.nsIn K mainGlobals "max" = some none)
    (z_min : PySem.W.nsIn K mainGlobals "min" = some none)
    (z_range : PySem.W.nsIn K mainGlobals "range" = some none)
    (z_set : PySem.W.nsIn K mainGlobals "set" = some none)
    (z_sorted : PySem.W.nsIn K mainGlobals "sorted" = some none)
    (z_str : PySem.W.nsIn K mainGlobals "str" = some none)
    (z_tuple : PySem.W.nsIn K mainGlobals "tuple" = some none)
    (g_GREATEST : PySem.W.nsIn K mainGlobals "GREATEST" = some (some (.int 65535 w_GREATEST)))
    (g_MOST_VALUES : PySem.W.nsIn K mainGlobals "MOST_VALUES" = some (some (.int 8 w_MOST_VALUES)))
    (math : ∀ ns : List Int, ns.length ≤ 63 → ∃ M, m_law [.d (.scr (ns.map .int))] [] = .ok (.d (.bl true)) M) :
    ∃ fd : FuncData, (∀ (s : Shared) (v : Value), BindsTo s fd ⟨[v], []⟩ [("_law_script", v)]) ∧ ∀ base : Heap, K.In base → base.Ns mainGlobals mg → FnOk P w K mg base (L2.CX P w) 43 fa fd ["_law_script"] (spLaw K) := by
  have e := (PySem.W.mg_of X G g_law).symm.trans hfa
  cases e
  have i_Table : InsF K c_Table := ⟨⟨pg_Table, hd_Table, po_Table, sa_Table⟩, ha_Table, hn0, htk0, hm_Table⟩
  have xo_BadTable : OexC K c_BadTable := ⟨⟨_, _, _, _, _, _, _, _, _, _, _, _, _, _, _, xL_BadTable, by rfl⟩, xS_BadTable, xE_BadTable, xT_BadTable, xK_BadTable⟩
  have xc_BadTable : XC K c_BadTable := ⟨by unfold PySem.W.clsIn; rw [xL_BadTable]; rfl, xG_BadTable, xH_BadTable, xE_BadTable, xC_BadTable, hn0, htk0, xM_BadTable, xD_BadTable⟩
  have b_BadTableU_initU : Binds K (PySem.W.fnX "__init__" "BadTable.__init__" (defArgs s_BadTableU_initU) (defBody s_BadTableU_initU) (defScope s_BadTableU_initU) [(("__class__" : Str), cc_BadTableU_initU)] .none kv_BadTableU_initU dc_BadTableU_initU pm_BadTableU_initU an_BadTableU_initU (.ref cd_BadTableU_initU) ct_BadTableU_initU) ["self", "what"] [] := Binds.all fun us hl => match us, hl with | [_, _], _ => rfl
  have F__law_pool := fun_mk (st := s__law_pool) l__law_pool cd1__law_pool k__law_pool
  have b__law_pool := F__law_pool.binds (ps := ["_law_script", "_law_budget"]) fun _ _ _ _ _ _ us hl => match us, hl with | [_, _], _ => rfl
  have F__law_bad := fun_mk (st := s__law_bad) l__law_bad cd1__law_bad k__law_bad
  have b__law_bad := F__law_bad.binds (ps := ["_law_rows"]) fun _ _ _ _ _ _ us hl => match us, hl with | [_], _ => rfl
  have F__law_draw := fun_mk (st := s__law_draw) l__law_draw cd1__law_draw k__law_draw
  have b__law_draw := F__law_draw.binds (ps := ["_law_pool_here", "_law_size"]) fun _ _ _ _ _ _ us hl => match us, hl with | [_, _], _ => rfl
  have F_results := fun_mk (st := s_results) l_results cd1_results k_results
  have b_results := F_results.binds (ps := ["table", "part"]) fun _ _ _ _ _ _ us hl => match us, hl with | [_, _], _ => rfl
  have F_TableU_initU := fun_mk (st := s_TableU_initU) l_TableU_initU cd1_TableU_initU k_TableU_initU
  have b_TableU_initU := F_TableU_initU.binds (ps := ["self", "rows"]) fun _ _ _ _ _ _ us hl => match us, hl with | [_, _], _ => rfl
  have F__law_same := fun_mk (st := s__law_same) l__law_same cd1__law_same k__law_same
  have b__law_same := F__law_same.binds (ps := ["_law_actual", "_law_due"]) fun _ _ _ _ _ _ us hl => match us, hl with | [_, _], _ => rfl
  have F__law_exchanged := fun_mk (st := s__law_exchanged) l__law_exchanged cd1__law_exchanged k__law_exchanged
  have b__law_exchanged := F__law_exchanged.binds (ps := ["_law_pool_here", "_law_table", "_law_rows"]) fun _ _ _ _ _ _ us hl => match us, hl with | [_, _, _], _ => rfl
  have F_TableU_eqU := fun_mk (st := s_TableU_eqU) l_TableU_eqU cd1_TableU_eqU k_TableU_eqU
  have b_TableU_eqU := F_TableU_eqU.binds (ps := ["self", "other"]) fun _ _ _ _ _ _ us hl => match us, hl with | [_, _], _ => rfl
  have F_whole := fun_mk (st := s_whole) l_whole cd1_whole k_whole
  have b_whole := F_whole.binds (ps := ["table"]) fun _ _ _ _ _ _ us hl => match us, hl with | [_], _ => rfl
  have F_law := fun_mk (st := s_law) l_law cd1_law k_law
  have b_law := F_law.binds (ps := ["_law_script"]) fun _ _ _ _ _ _ us hl => match us, hl with | [_], _ => rfl
  let A : Ad := ⟨c_Table, c_BadPaper, c_BadRatio, c_BadTable, c_BadTalk, c_BadText, c_TalkError, c_TooLarge, cc_BadTableU_initU, cd_BadTableU_initU, a__law_pool, (PySem.W.fnOf "_law_pool" "_law_pool" (defArgs s__law_pool) (defBody s__law_pool) (defScope s__law_pool) .none kv__law_pool dc__law_pool pm__law_pool an__law_pool cd__law_pool ct__law_pool), a__law_bad, (PySem.W.fnOf "_law_bad" "_law_bad" (defArgs s__law_bad) (defBody s__law_bad) (defScope s__law_bad) .none kv__law_bad dc__law_bad pm__law_bad an__law_bad cd__law_bad ct__law_bad), a__law_draw, (PySem.W.fnOf "_law_draw" "_law_draw" (defArgs s__law_draw) (defBody s__law_draw) (defScope s__law_draw) .none kv__law_draw dc__law_draw pm__law_draw an__law_draw cd__law_draw ct__law_draw), a_results, (PySem.W.fnOf "results" "results" (defArgs s_results) (defBody s_results) (defScope s_results) .none kv_results dc_results pm_results an_results cd_results ct_results), a_TableU_initU, (PySem.W.fnOf "__init__" "Table.__init__" (defArgs s_TableU_initU) (defBody s_TableU_initU) (defScope s_TableU_initU) .none kv_TableU_initU dc_TableU_initU pm_TableU_initU an_TableU_initU cd_TableU_initU ct_TableU_initU), a_BadTableU_initU, (PySem.W.fnX "__init__" "BadTable.__init__" (defArgs s_BadTableU_initU) (defBody s_BadTableU_initU) (defScope s_BadTableU_initU) [(("__class__" : Str), cc_BadTableU_initU)] .none kv_BadTableU_initU dc_BadTableU_initU pm_BadTableU_initU an_BadTableU_initU (.ref cd_BadTableU_initU) ct_BadTableU_initU), a__law_same, (PySem.W.fnOf "_law_same" "_law_same" (defArgs s__law_same) (defBody s__law_same) (defScope s__law_same) .none kv__law_same dc__law_same pm__law_same an__law_same cd__law_same ct__law_same), a__law_exchanged, (PySem.W.fnOf "_law_exchanged" "_law_exchanged" (defArgs s__law_exchanged) (defBody s__law_exchanged) (defScope s__law_exchanged) .none kv__law_exchanged dc__law_exchanged pm__law_exchanged an__law_exchanged cd__law_exchanged ct__law_exchanged), a_TableU_eqU, (PySem.W.fnOf "__eq__" "Table.__eq__" (defArgs s_TableU_eqU) (defBody s_TableU_eqU) (defScope s_TableU_eqU) .none kv_TableU_eqU dc_TableU_eqU pm_TableU_eqU an_TableU_eqU cd_TableU_eqU ct_TableU_eqU), a_whole, (PySem.W.fnOf "whole" "whole" (defArgs s_whole) (defBody s_whole) (defScope s_whole) .none kv_whole dc_whole pm_whole an_whole cd_whole ct_whole), fa, (PySem.W.fnOf "law" "law" (defArgs s_law) (defBody s_law) (defScope s_law) .none kv_law dc_law pm_law an_law cd_law ct_law), (.int 65535), (.int 65535 w_GREATEST), (.int 8), (.int 8 w_MOST_VALUES)⟩
  have T : Txt K mg A := {
    g_Table := PySem.W.mg_of X G g_Table,
    i_Table := i_Table,
    g_BadPaper := PySem.W.mg_of X G g_BadPaper,
    g_BadRatio := PySem.W.mg_of X G g_BadRatio,
    g_BadTable := PySem.W.mg_of X G g_BadTable,
    g_BadTalk := PySem.W.mg_of X G g_BadTalk,
    g_BadText := PySem.W.mg_of X G g_BadText,
    g_TalkError := PySem.W.mg_of X G g_TalkError,
    g_TooLarge := PySem.W.mg_of X G g_TooLarge,
    xo_BadTable := xo_BadTable,
    xc_BadTable := xc_BadTable,
    xi_BadTable := xi_BadTable,
    xt_BadTable := xt_BadTable,
    b_BadTableU_initU := b_BadTableU_initU,
    g__law_pool := PySem.W.mg_of X G g__law_pool,
    f__law_pool := F__law_pool,
    b__law_pool := b__law_pool,
    k__law_pool := k__law_pool,
    g__law_bad := PySem.W.mg_of X G g__law_bad,
    f__law_bad := F__law_bad,
    b__law_bad := b__law_bad,
    k__law_bad := k__law_bad,
    g__law_draw := PySem.W.mg_of X G g__law_draw,
    f__law_draw := F__law_draw,
    b__law_draw := b__law_draw,
    k__law_draw := k__law_draw,
    g_results := PySem.W.mg_of X G g_results,
    f_results := F_results,
    b_results := b_results,
    k_results := k_results,
    mk_Table := ⟨m_TableU_initU, g_TableU_initU, i_TableU_initU, kp_Table⟩,
    f_TableU_initU := F_TableU_initU,
    b_TableU_initU := b_TableU_initU,
    k_TableU_initU := k_TableU_initU,
    g__law_same := PySem.W.mg_of X G g__law_same,
    f__law_same := F__law_same,
    b__law_same := b__law_same,
    k__law_same := k__law_same,
    g__law_exchanged := PySem.W.mg_of X G g__law_exchanged,
    f__law_exchanged := F__law_exchanged,
    b__law_exchanged := b__law_exchanged,
    k__law_exchanged := k__law_exchanged,
    h_TableU_eqU := ⟨g_TableU_eqU, i_TableU_eqU, k_TableU_eqU⟩,
    f_TableU_eqU := F_TableU_eqU,
    b_TableU_eqU := b_TableU_eqU,
    k_TableU_eqU := k_TableU_eqU,
    g_whole := PySem.W.mg_of X G g_whole,
    f_whole := F_whole,
    b_whole := b_whole,
    k_whole := k_whole,
    g_law := PySem.W.mg_of X G g_law,
    f_law := F_law,
    b_law := b_law,
    k_law := k_law,
    n_BadTable_what := n_BadTable_what,
    n_Table_rows := n_Table_rows,
    o_Table := is_own7 i_Table q0_Table q1_Table q2_Table q3_Table q4_Table q5_Table q6_Table q7_Table (fun _ h => nomatch h),
    xm_TalkError := xTab_exm (List.forall_mem_cons.mpr ⟨PySem.W.exm_ref xE_TalkError xD_TalkError xT_TalkError xz_BadTable_TalkError, (fun _ h => nomatch h)⟩) (fun _ h => nomatch h),
    xq_BadPaper_BadRatio_BadTalk_BadText_TooLarge := xTab_any (fun _ h => nomatch h) (List.forall_mem_cons.mpr ⟨⟨(kitAny_cons xo_BadTable_BadPaper (fun h => (kitAny_cons xo_BadTable_BadRatio (fun h => (kitAny_cons xo_BadTable_BadTalk (fun h => (kitAny_cons xo_BadTable_BadText (fun h => (kitAny_cons xo_BadTable_TooLarge (fun h => rfl) (fun h => nomatch h))) (fun h => nomatch h))) (fun h => nomatch h))) (fun h => nomatch h))) (fun h => nomatch h)), xc_BadTable⟩, (fun _ h => nomatch h)⟩),
    xq_BadTable := xTab_one (List.forall_mem_cons.mpr ⟨⟨xo_BadTable_BadTable, xc_BadTable⟩, (fun _ h => nomatch h)⟩) (fun _ h => nomatch h),
    owns := (owns_cons ⟨i_Table, w0_Table, w1_Table, w2_Table, w3_Table, w4_Table⟩ owns_nil),
    z_any := PySem.W.mg_none_of X G z_any,
    z_bool := PySem.W.mg_none_of X G z_bool,
    z_int := PySem.W.mg_none_of X G z_int,
    z_isinstance := PySem.W.mg_none_of X G z_isinstance,
    z_len := PySem.W.mg_none_of X G z_len,
    z_list := PySem.W.mg_none_of X G z_list,
    z_max := PySem.W.mg_none_of X G z_max,
    z_min := PySem.W.mg_none_of X G z_min,
    z_range := PySem.W.mg_none_of X G z_range,
    z_set := PySem.W.mg_none_of X G z_set,
    z_sorted := PySem.W.mg_none_of X G z_sorted,
    z_str := PySem.W.mg_none_of X G z_str,
    z_tuple := PySem.W.mg_none_of X G z_tuple,
    g_GREATEST := PySem.W.mg_of X G g_GREATEST,
    r_GREATEST := ⟨_, rfl⟩,
    p_GREATEST := fun _ => rfl,
    g_MOST_VALUES := PySem.W.mg_of X G g_MOST_VALUES,
    r_MOST_VALUES := ⟨_, rfl⟩,
    p_MOST_VALUES := fun _ => rfl }
  have TX : TxtX P K mg A := {
    xf_BadTableU_initU := ⟨xo_BadTable, ⟨_, _, _, _, _, _, _, _, rfl, l_BadTableU_initU⟩, rfl, cd1_BadTableU_initU, ⟨_, _, _, _, _, _, lc_BadTableU_initU, fv_BadTableU_initU, ff_BadTableU_initU⟩, ⟨_, _, _, cl_BadTableU_initU⟩, su_BadTableU_initU, ks_BadTableU_initU, sv_BadTableU_initU, PySem.W.mg_none_of X G z_super, tp0, top0⟩ }
  refine ⟨A.fd_law, fun s v => .of_eq rfl, fun base _ _ => ?_⟩
  have OU__law_same := okU__law_same (P := P) (w := w) (base := base) T
  have O__law_pool := ok__law_pool (P := P) (w := w) (base := base) T 
  have O__law_bad := ok__law_bad (P := P) (w := w) (base := base) T 
  have O__law_draw := ok__law_draw (P := P) (w := w) (base := base) T 
  have O_results := ok_results (P := P) (w := w) (base := base) T 
  have O_BadTableU_initU := ok_BadTableU_initU (P := P) (w := w) (base := base) TX T
  have O__law_same := ok__law_same (P := P) (w := w) (base := base) T 
  have O_TableU_eqU := ok_TableU_eqU (P := P) (w := w) (base := base) T 
  have O_whole := ok_whole (P := P) (w := w) (base := base) T 
  have O_TableU_initU := ok_TableU_initU (P := P) (w := w) (base := base) T (O_BadTableU_initU)
  have O__law_exchanged := ok__law_exchanged (P := P) (w := w) (base := base) T (O__law_draw) (O__law_same 40) (O_TableU_initU) (O_TableU_eqU)
  have O_law := ok_law (P := P) (w := w) (base := base) T (O__law_pool) (O__law_draw) (O__law_bad) (O_TableU_initU) (O__law_same 40) (O_TableU_eqU) (O__law_exchanged) (O_results) (O_whole) OU__law_same
  exact law_end O_law rfl math
end K01

namespace K01
open PySem DL
local macro_rules
  | `(tactic| simp! [$xs,*]) => `(tactic| simp (config := {implicitDefEqProofs := false}) only [DL.oo_some, DL.oo_none, DL.kD_ap, DL.kX_ap, DL.y_next, DL.y_seq, DL.kSeq_nx, DL.kSeq_rt, DL.kSeq_bk, DL.kSeq_ct, DL.kSeq_xc, DL.y_expr, DL.kExpr_ap, DL.y_ret, DL.kRet_ap, DL.y_retN, DL.y_if, DL.kIf_t, DL.kIf_f, DL.y_never, DL.y_brk, DL.y_cnt, DL.y_asg, DL.kAsg_n, DL.kNx_ap, DL.y_par, DL.kPar_ap, DL.y_for, DL.kFor_its, DL.y_tgN, DL.y_tgT, DL.y_tgsC, DL.kGc_ap, DL.y_tgsN, DL.y_tb, DL.kTb_ap, DL.y_tru, DL.kTru_ap, DL.truw_non, DL.truw_bl, DL.truw_int, DL.truw_tup, DL.truw_lst, DL.truw_str, DL.y_nt, DL.kNt_ap, DL.y_an, DL.kAn_t, DL.kAn_f, DL.y_o, DL.kO_t, DL.kO_f, DL.y_yes, DL.y_c, DL.y_var0, DL.y_varS, DL.y_and, DL.kAnd_t, DL.kAnd_f, DL.y_or, DL.kOr_t, DL.kOr_f, DL.y_not, DL.kNot_bl, DL.y_eif, DL.kEif_t, DL.kEif_f, DL.y_aNil, DL.y_aCons, DL.kC1_ap, DL.kC2_ap, DL.y_aStar, DL.kS1_ap, DL.kS2_ap, DL.kS3_ap, DL.y_tup, DL.kTupl_ap, DL.kTup2_ap, DL.y_lst, DL.kLstl_ap, DL.kLst2_ap, DL.y_lstM, DL.kLstM_ap, DL.y_e1, DL.kE1_ap, DL.y_e2, DL.kE2_ap, DL.kE3_ap, DL.y_eL, DL.kL_f1, DL.kL_f2, DL.y_call, DL.kCall_ap, DL.y_meth, DL.kMe1_ap, DL.kMe2_ap, DL.y_chain, DL.kCh1_ap, DL.kCh2_ap, DL.kCh3_t, DL.kCh3_f, DL.y_pu1, DL.y_pu2, DL.add_int, DL.addI_int, DL.sub_int, DL.neg_int, DL.mul_int, DL.mod_int, DL.div_int, DL.lt_int, DL.le_int, DL.gt_int, DL.ge_int, DL.eq_int, DL.ne_int, DL.toint_int, DL.toint_bl, DL.tostr_str, DL.y_isN, DL.y_notN, DL.y_ixL, DL.y_ixT, DL.y_ixSc, DL.y_ixM0, DL.y_lenL, DL.y_lenT, DL.y_lenSc, DL.y_lenS, DL.y_listL, DL.y_listT, DL.y_listSc, DL.y_tupL, DL.y_tupT, DL.nds_cons, DL.nds_nil, DL.at0, DL.at1, DL.at2, DL.at3, DL.at4, DL.at5, DL.atM1, DL.atM2, DL.atM3, DL.y_fnD, DL.kFn_nx, DL.kFn_rt, DL.kFn_xc, DL.y_fnM, DL.kFnM_nx, DL.kFnM_rt, DL.kFnM_xc, DL.y_outC, DL.y_outC0, DL.y_callA, DL.eq_bl, DL.ne_bl, DL.eq_non, DL.y_inT, DL.y_in0, DL.y_inC, DL.yi_tup, DL.yi_lst, DL.yi_int, DL.yi_str, DL.yi_bl, DL.yi_non, DL.y_r1, DL.kR1_ap, DL.y_r2, DL.kR2_ap, DL.y_s1, DL.kSt1_ap, DL.kSt2_ap, DL.y_fLst, DL.y_fldaug, DL.kG1_ap, DL.kG2_ap, DL.kG3_ap, DL.kG4_ap, DL.kG5_ap, DL.y_fld, DL.kF1_ap, DL.kF2_ap, DL.y_lm, DL.kLM1_ap, DL.kLM2_ap, DL.kLM3_ap, DL.kLM4_ap, DL.lApp_one, DL.lstAt0, DL.lstAt1, DL.y_mk0, DL.y_rep, DL.y_repM, DL.y_enum, DL.kEn_tup, DL.y_go, DL.y_finF, DL.y_finM, DL.y_iseq, DL.kSq_lst, DL.kSq_tup, DL.y_lc, DL.y_wipeN, DL.y_wipeC, DL.y_sl, DL.kSl1_ap, DL.kSl2_ap, DL.kSl3_ap, DL.y_oNone, DL.y_oSome, DL.kOs_int, DL.y_slL, DL.y_slT, DL.y_seal, DL.kSeal_d, DL.y_fSeqL, DL.y_fSeqT, DL.y_idx, DL.kIdx1_lst, DL.kIdx2_ap, DL.kEn_lst, DL.y_zip, DL.kZp_lst, DL.kZp_tup, DL.y_lc2, DL.y_raise, DL.kRaise_0, DL.kRaise_1, DL.y_try, DL.kTry_nx, DL.kTry_rt, DL.kTry2_rt, DL.kTry2_nx, DL.y_js0, DL.y_jsC, DL.y_callN, DL.kCN_2, DL.is_ex, DL.y_s0, DL.kS0_ap, DL.y_slS, DL.y_seqL, DL.y_ext, DL.kExt1_ap, DL.kExt2_1, DL.kExt3_some, DL.is_ok, DL.is_bind, DL.is_sx, DL.is_nx, DL.nds_d, DL.seqw_tup, DL.seqw_lst, DL.seqw_scr, List.map_cons, List.map_nil, List.cons_append, List.nil_append, List.length_cons, List.length_nil, List.replicate_succ, List.replicate_zero, List.set_cons_zero, List.set_cons_succ, Nat.reduceSub, Nat.reduceAdd, DL.nd_d, DL.isNon, Bool.not_true, Bool.not_false, Option.map_some, Option.bind_some, List.isEmpty_cons, List.isEmpty_nil, decide_true, decide_false, if_true, if_false, ite_true, ite_false, true_and, Bool.false_eq_true, List.length_map, List.take_zero, List.all_nil, List.take_succ_cons, List.all_cons, Bool.and_true, and_true, and_self, Nat.reduceLeDiff, Int.reduceLT, Int.reduceLE, Int.reduceSub, Int.reduceAdd, Int.cast_ofNat_Int, Bool.false_bne, Bool.true_bne, DL.zsz, DL.kTup, DL.kLst, DL.kBl, DL.kInt, DL.kStr, $xs,*])
/-! ### rows for the objects of the store: lists, tuples, frozen ones; by what is read -/
section
variable {M : Sto} {w u : Wv} {ws : List Wv} {b : Bool} {k : Nat} {P : PV} {E : PX} {x : D} {l : List D}
theorem nw_fz (h : M[k]? = some (.fz x)) : nw M (.m k) = .d x := by unfold nw; simp only [h]
theorem nd_fz (h : M[k]? = some (.fz x)) : nd M (.m k) = some x := by unfold nd; simp only [h]
theorem seqw_fz (h : M[k]? = some (.fz (.lst l))) : seqw M (.m k) = some (true, l.map .d) := by unfold seqw; rw [nw_fz h]
theorem nw_t (h : M[k]? = some (.tup ws)) : nw M (.m k) = .m k := by unfold nw; simp only [h]
theorem seqw_t (h : M[k]? = some (.tup ws)) : seqw M (.m k) = some (false, ws) := by unfold seqw; rw [nw_t h]; simp only [h]
theorem len_q (h : seqw M w = some (b, ws)) : (lenw w M).Is P E = P (.d (.int ws.length)) M := by
  unfold lenw
  simp only [h]
  rfl
theorem ix_q (h : seqw M w = some (b, ws)) {i : Int} (hi : L2.atI ws i = some u) : (ixw w (.d (.int i)) M).Is P E = P u M := by
  unfold ixw
  simp only [h, hi]
  rfl
theorem src_q (h : seqw M w = some (b, ws)) : ∃ s, srcw w M = .ok s M ∧ s.at M = some ws := by
  unfold seqw at h
  unfold srcw
  cases e : nw M w with
  | d y =>
    rw [e] at h
    cases y with
    | tup l => exact ⟨_, rfl, by cases h; rfl⟩
    | lst l => exact ⟨_, rfl, by cases h; rfl⟩
    | scr l => exact ⟨_, rfl, by cases h; rfl⟩
    | _ => exact absurd h (by simp)
  | m j =>
    rw [e] at h
    simp only [] at h ⊢
    cases q : M[j]? with
    | none => rw [q] at h; exact absurd h (by simp)
    | some mo =>
      rw [q] at h
      cases mo with
      | lst us => exact ⟨_, rfl, by cases h; simp [Src.at, q]⟩
      | tup us => exact ⟨_, rfl, by cases h; simp [Src.at, q]⟩
      | _ => exact absurd h (by simp)
theorem list_q (h : seqw M w = some (b, l.map .d)) : (listw w M).Is P E = P (.d (.lst l)) M := by
  unfold listw
  simp only [h, nds_d]
  rfl
theorem listM_q (h : seqw M w = some (b, ws)) : (listwM w M).Is P E = P (.m M.length) (M ++ [.lst ws]) := by
  unfold listwM
  simp only [h]
  rfl
theorem tup_q (h : seqw M w = some (b, l.map .d)) (hb : b = false → nw M w = .d (.tup l)) : (tupw w M).Is P E = P (.d (.tup l)) M := by
  unfold tupw
  cases b with
  | true =>
    simp only [h, nds_d]
    rfl
  | false =>
    simp only [h]
    rw [hb rfl]
    rfl
theorem tupM_q (h : seqw M w = some (true, ws)) : (tupwM w M).Is P E = P (.m M.length) (M ++ [.tup ws]) := by
  unfold tupwM
  simp only [h]
  rfl
theorem fLst_q {f : List D → Option D} (h : seqw M w = some (true, l.map .d)) : (fLst f w M).Is P E = oo (f l) (kD P) M := by
  unfold fLst
  simp only [h, nds_d]
  cases f l <;> rfl
theorem seq_q {f : List D → Option D} (h : seqw M w = some (b, l.map .d)) : (fSeq f w M).Is P E = oo (f l) (kD P) M := by
  unfold fSeq
  simp only [h, nds_d]
  cases f l <;> rfl
theorem sl_q {lo hi : Option Int} (h : seqw M w = some (true, l.map .d)) : (slw true w lo hi M).Is P E = P (.d (.lst (cutL l lo hi))) M := by
  unfold slw
  simp only [h, if_true]
  rw [cutL_map, nds_d]
  rfl
theorem rev_q (h : seqw M w = some (true, l.map .d)) : (revw true w (.d (.int (.negSucc 0))) M).Is P E = P (.d (.lst l.reverse)) M := by
  unfold revw
  simp only [h, if_true]
  rw [← List.map_reverse, nds_d]
  rfl
def kTupM (P : PV) : PL := fun ws M => ws.length ≤ sizeLine ∧ P (.m M.length) (M ++ [.tup ws])
theorem y_tupM {ml : AD} {env : Ev} : (eTupM ml env M).Is P E = (ml env M).Is (kTupM P) E := by
  unfold eTupM
  rw [is_bind]
  congr
  funext ws M1
  unfold kTupM
  by_cases h : ws.length ≤ sizeLine
  · rw [if_pos h]
    simp only [is_ok, h, true_and]
  · rw [if_neg h]
    simp only [is_no, h, false_and]
theorem kTupM_ap : kTupM P ws M = (ws.length ≤ sizeLine ∧ P (.m M.length) (M ++ [.tup ws])) := rfl
theorem setM_q {ns : List Int} (h : seqw M w = some (b, (ns.map .int).map .d)) (hn : ns.length ≤ 1000) : (setMw w M).Is P E = P (.m M.length) (M ++ [.lst (((setI ns).map D.int).map .d)]) := by
  unfold setMw
  simp only [h, nds_d, Option.bind_some]
  rw [intsOf_map]
  simp only [hn, if_true]
  rfl
theorem kd_fz (h : M[k]? = some (.fz (.lst l))) : kdw M (.m k) = some (.lst l) := by
  unfold kdw
  rw [nw_fz h]
theorem isi_k {tab : D → Option Bool} {r : Bool} (h : kdw M w = some x) (ht : tab x = some r) : (isiw tab w M).Is P E = P (.d (.bl r)) M := by
  unfold isiw
  rw [h, Option.bind_some, ht]
  rfl
end
section
variable {s : Src} {ws : List Wv} {tg tg1 : GD} {te : ED} {src1 : ID} {env : Ev} {M : Sto} {vs1 : List Nat}
theorem compS_q (hat : s.at M = some ws) (ds : List D) (hn : ws.length = ds.length) (h : ∀ (i : Nat) (w : Wv) (d : D), ws[i]? = some w → ds[i]? = some d → ∃ e, tg w env M = .ok e M ∧ te e M = .ok (.d d) M) : ∀ (f i cnt : Nat), i + f = ws.length → cnt + f ≤ sizeLine → compS s tg tYesD te f i cnt env M = .ok ((ds.drop i).map .d) M
  | 0, i, cnt, hi, _ => by
    unfold compS
    simp only [hat]
    rw [if_pos (by omega), List.drop_of_length_le (by omega)]
    rfl
  | f + 1, i, cnt, hi, hc => by
    have h1 : i < ws.length := by omega
    have h2 : i < ds.length := by omega
    obtain ⟨e, q1, q2⟩ := h i ws[i] ds[i] (List.getElem?_eq_getElem h1) (List.getElem?_eq_getElem h2)
    unfold compS
    simp only [hat, List.getElem?_eq_getElem h1, q1, nx_ok, Rs.bind_ok, tYesD, if_true, q2]
    rw [if_pos (by omega), compS_q hat ds hn h f (i + 1) (cnt + 1) (by omega) (by omega), List.drop_eq_getElem_cons h2]
    rfl
theorem compS2_q (hat : s.at M = some ws) (F : List (List D)) (hn : ws.length = F.length) (h : ∀ (i : Nat) (w : Wv) (ds : List D), ws[i]? = some w → F[i]? = some ds → ∃ e s1 ws1, tg w env M = .ok e M ∧ src1 e M = .ok s1 M ∧ s1.at M = some ws1 ∧ ws1.length = ds.length ∧ ∀ (j : Nat) (w : Wv) (d : D), ws1[j]? = some w → ds[j]? = some d → ∃ e1, tg1 w (wipeE e vs1) M = .ok e1 M ∧ te e1 M = .ok (.d d) M) : ∀ (f i cnt : Nat), i + f = ws.length → cnt + (F.drop i).flatten.length ≤ sizeLine → compS2 s tg tYesD src1 tg1 tYesD te vs1 f i cnt env M = .ok ((F.drop i).flatten.map .d) M
  | 0, i, cnt, hi, _ => by
    unfold compS2
    simp only [hat]
    rw [if_pos (by omega), List.drop_of_length_le (by omega)]
    rfl
  | f + 1, i, cnt, hi, hc => by
    have h1 : i < ws.length := by omega
    have h2 : i < F.length := by omega
    obtain ⟨e, s1, ws1, q1, q2, q3, q4, q5⟩ := h i ws[i] F[i] (List.getElem?_eq_getElem h1) (List.getElem?_eq_getElem h2)
    rw [List.drop_eq_getElem_cons h2, List.flatten_cons, List.length_append] at hc
    have c1 := compS_q (te := te) (tg := tg1) (env := wipeE e vs1) q3 F[i] q4 q5 ws1.length 0 cnt (Nat.zero_add _) (by omega)
    rw [List.drop_zero] at c1
    unfold compS2
    simp only [hat, List.getElem?_eq_getElem h1, q1, nx_ok, Rs.bind_ok, tYesD, if_true, q2, q3, c1]
    rw [compS2_q hat F hn h f (i + 1) (cnt + (F[i].map Wv.d).length) (by omega) (by rw [List.length_map]; omega), List.drop_eq_getElem_cons h2, List.flatten_cons, List.map_append]
    rfl
end
section
variable {s : Src} {ws : List Wv} {tg tg1 : GD} {te : ED} {src1 : ID} {env : Ev} {M : Sto} {vs vs1 : List Nat} {P : PV} {E : PX}
/-- over anything that is read, the store left alone -/
theorem kcQ (hat : s.at M = some ws) (ds : List D) (hn : ws.length = ds.length) (hl : ws.length ≤ sizeLine) (h : ∀ (i : Nat) (w : Wv) (d : D), ws[i]? = some w → ds[i]? = some d → Go ((tg w (wipeE env vs) M).Is (fun e M' => M' = M ∧ (te e M).Is (fun y M'' => y = .d d ∧ M'' = M) nox) nox)) (k : Go (P (.d (.lst ds)) M)) : kLc finF tg tYesD te vs env P E s M := by
  have c1 := compS_q (te := te) (tg := tg) (env := wipeE env vs) hat ds hn (fun i w d h1 h2 => by
    obtain ⟨e, M', q1, rfl, q2⟩ := (h i w d h1 h2).go.out
    exact ⟨e, q1, is_eq q2⟩) ws.length 0 0 (Nat.zero_add _) (by omega)
  rw [List.drop_zero] at c1
  show (eLc finF (fun _ M => .ok s M) tg tYesD te vs env M).Is P E
  unfold eLc
  simp only [Rs.bind_ok, hat, c1]
  unfold finF
  rw [nds_d]
  exact k.go
theorem kcQ2 (hat : s.at M = some ws) (F : List (List D)) (hn : ws.length = F.length) (hl : F.flatten.length ≤ sizeLine) (h : ∀ (i : Nat) (w : Wv) (ds : List D), ws[i]? = some w → F[i]? = some ds → Go ((tg w (wipeE env vs) M).Is (fun e M' => M' = M ∧ (src1 e M).Is (fun s1 M' => M' = M ∧ ∃ ws1, s1.at M = some ws1 ∧ ws1.length = ds.length ∧ ∀ (j : Nat) (w : Wv) (d : D), ws1[j]? = some w → ds[j]? = some d → Go ((tg1 w (wipeE e vs1) M).Is (fun e1 M' => M' = M ∧ (te e1 M).Is (fun y M'' => y = .d d ∧ M'' = M) nox) nox)) nox) nox)) (k : Go (P (.d (.lst F.flatten)) M)) : kLc2 finF tg tYesD src1 tg1 tYesD te vs vs1 env P E s M := by
  have c1 := compS2_q (te := te) (tg := tg) (tg1 := tg1) (src1 := src1) (vs1 := vs1) (env := wipeE env vs) hat F hn (fun i w ds h1 h2 => by
    obtain ⟨e, M', q1, rfl, q2⟩ := (h i w ds h1 h2).go.out
    obtain ⟨s1, M', q3, rfl, ws1, q4, q5, q6⟩ := q2.out
    exact ⟨e, s1, ws1, q1, q3, q4, q5, fun j w d h3 h4 => by
      obtain ⟨e1, M', r1, rfl, r2⟩ := (q6 j w d h3 h4).go.out
      exact ⟨e1, r1, is_eq r2⟩⟩) ws.length 0 0 (Nat.zero_add _) (by rw [List.drop_zero]; omega)
  rw [List.drop_zero] at c1
  show (eLc2 finF (fun _ M => .ok s M) tg tYesD src1 tg1 tYesD te vs vs1 env M).Is P E
  unfold eLc2
  simp only [Rs.bind_ok, hat, c1]
  unfold finF
  rw [nds_d]
  exact k.go
end
section
variable {ws : List Wv} {M0 : Sto} {s : Src} {tg : GD} {body : SD} {P : PO} {E : PX}
/-- a loop over anything that is read, as long as it reads the same -/
theorem forS_is (I : Nat → Ev → Sto → Prop) (hat : ∀ i env M, I i env M → s.at M = some ws) (hs : ∀ i w env M, ws[i]? = some w → I i env M → (tg w env M).Is (fun e M1 => (body e M1).Is (fun o M2 => match o with
      | .nx e2 => I (i + 1) e2 M2
      | .ct e2 => I (i + 1) e2 M2
      | .bk e2 => P (.nx e2) M2
      | .rt w => P (.rt w) M2
      | .xc e x => P (.xc e x) M2) E) E) (hd : ∀ env M, I ws.length env M → P (.nx env) M) : ∀ (f i : Nat) (env : Ev) (M : Sto), i + f = ws.length → I i env M → (forS s tg body f i env M).Is P E
  | 0, i, env, M, hi, h => by
    have : i = ws.length := by omega
    subst this
    unfold forS
    simp only [hat _ _ _ h, Nat.le_refl, if_true]
    exact hd _ _ h
  | f + 1, i, env, M, hi, h => by
    have hlt : i < ws.length := by omega
    unfold forS
    simp only [hat _ _ _ h, List.getElem?_eq_getElem hlt]
    rw [is_bind]
    refine (hs i _ env M (List.getElem?_eq_getElem hlt) h).imp (fun e M1 q => ?_) fun _ _ q => q
    rw [is_bind]
    refine q.imp (fun o M2 q2 => ?_) fun _ _ q => q
    cases o with
    | nx e2 => exact forS_is I hat hs hd f (i + 1) e2 M2 (by omega) q2
    | ct e2 => exact forS_is I hat hs hd f (i + 1) e2 M2 (by omega) q2
    | bk e2 => exact q2
    | rt w => exact q2
    | xc e x => exact q2
theorem kFor_q {env : Ev} {M : Sto} (h : s.at M = some ws) : kFor tg body env P E s M = (forS s tg body ws.length 0 env M).Is P E := by
  unfold kFor
  rw [h]
theorem kSq_q {w : Wv} {b : Bool} {M : Sto} {P : Src → Sto → Prop} (h : seqw M w = some (b, ws)) : kSq P E w M = ∃ s, s.at M = some ws ∧ srcw w M = .ok s M ∧ P s M := by
  obtain ⟨s, h1, h2⟩ := src_q h
  have e : kSq P E w M = (srcw w M).Is P E := rfl
  rw [e, h1]
  refine propext ⟨fun q => ⟨s, h2, rfl, q⟩, fun ⟨s', _, h3, q⟩ => ?_⟩
  cases h3
  exact q
/-- a comprehension over anything that is read, that changes the store -/
theorem kcS {fin : List Wv → Sto → Rs Wv} {tt : TD} {te : ED} {vs : List Nat} {env : Ev} {M : Sto} {P : PV} (I : Nat → List Wv → Sto → Prop) (hat : ∀ i acc M, I i acc M → s.at M = some ws) (hl : ws.length ≤ sizeLine) (h0 : I 0 [] M)
    (hs : ∀ i w acc M, ws[i]? = some w → I i acc M → Go ((tg w (wipeE env vs) M).Is (fun e M1 => (tt e M1).Is (fun k M2 => if k = true then (te e M2).Is (fun y M3 => I (i + 1) (acc ++ [y]) M3) nox else I (i + 1) acc M2) nox) nox))
    (hd : ∀ acc M, I ws.length acc M → Go ((fin acc M).Is P E)) : kLc fin tg tt te vs env P E s M := by
  have go : ∀ (f i cnt : Nat) (acc : List Wv) (M : Sto), i + f = ws.length → cnt ≤ i → I i acc M → (compS s tg tt te f i cnt (wipeE env vs) M).Is (fun ys M' => I ws.length (acc ++ ys) M') nox := by
    intro f
    induction f with
    | zero =>
      intro i cnt acc M hi hc h
      have : i = ws.length := by omega
      subst this
      unfold compS
      simp only [hat _ _ _ h, Nat.le_refl, if_true]
      show I _ (acc ++ []) M
      rw [List.append_nil]
      exact h
    | succ f ih =>
      intro i cnt acc M hi hc h
      have hlt : i < ws.length := by omega
      unfold compS
      simp only [hat _ _ _ h, List.getElem?_eq_getElem hlt]
      rw [is_bind, is_nx]
      refine (hs i _ acc M (List.getElem?_eq_getElem hlt) h).go.imp (fun e M1 q => ?_) fun _ _ q => q
      rw [is_bind, is_nx]
      refine q.imp (fun k M2 q2 => ?_) fun _ _ q => q
      by_cases hk : k = true
      · rw [if_pos hk] at q2 ⊢
        rw [is_bind, is_nx]
        refine q2.imp (fun y M3 q3 => ?_) fun _ _ q => q
        rw [if_pos (by omega), is_bind]
        refine (ih (i + 1) (cnt + 1) (acc ++ [y]) M3 (by omega) (by omega) q3).imp (fun ys M4 q4 => ?_) fun _ _ q => q
        rw [List.append_assoc] at q4
        exact q4
      · rw [if_neg hk] at q2 ⊢
        exact ih (i + 1) cnt acc M2 (by omega) (by omega) q2
  show (eLc fin (fun _ M => .ok s M) tg tt te vs env M).Is P E
  unfold eLc
  simp only [Rs.bind_ok, hat _ _ _ h0]
  rw [is_bind]
  refine Rs.Is.any ((go ws.length 0 0 [] M (Nat.zero_add _) (Nat.le_refl _) h0).imp (fun ys M' q => ?_) fun _ _ q => q)
  exact (hd _ _ q).go
end
/-! ### tables that may be none -/
def rowsL (R : List (List Int)) : D := .lst (R.map fun r => .lst (r.map .int))
def badC (R : List (List Int)) : Bool := R.any fun r => decide (r.length ≠ (R.headD []).length) || !decide (0 < r.length ∧ r.length < 9)
def badV (R : List (List Int)) : Bool := R.any fun r => r.any fun v => !decide (0 ≤ v ∧ v ≤ 65535)
def bad (R : List (List Int)) : Option Str := if ¬ (0 < R.length ∧ R.length < 9) then some "rows" else if badC R = true then some "columns" else if badV R = true then some "results" else none
/-- a row that reads as these numbers -/
def RowW (M : Sto) (r : List Int) (w : Wv) : Prop := ∃ b, seqw M w = some (b, (r.map D.int).map .d) ∧ (b = false → nw M w = .d (.tup (r.map .int)))
def RowsW (M : Sto) (R : List (List Int)) (ws : List Wv) : Prop := ws.length = R.length ∧ ∀ (i : Nat) (w : Wv) (r : List Int), ws[i]? = some w → R[i]? = some r → RowW M r w
theorem flat_anyV (R : List (List Int)) (f : Int → Bool) : ((R.map fun r => r.map fun v => D.bl (f v)).flatten) = (R.flatten.map f).map .bl := by
  induction R with
  | nil => rfl
  | cons r R ih => rw [List.map_cons, List.flatten_cons, ih, List.flatten_cons, List.map_append, List.map_append, List.map_map, List.map_map]; rfl
theorem any_flat (R : List (List Int)) (f : Int → Bool) : R.flatten.any f = R.any fun r => r.any f := by
  induction R with
  | nil => rfl
  | cons r R ih => rw [List.flatten_cons, List.any_append, ih, List.any_cons]
theorem flat_le (R : List (List Int)) (h : ∀ r ∈ R, r.length ≤ 100) : R.flatten.length ≤ R.length * 100 := by
  induction R with
  | nil => exact Nat.le_refl _
  | cons r R ih =>
    have h1 := h r (List.mem_cons_self ..)
    have h2 := ih fun x hx => h x (List.mem_cons_of_mem _ hx)
    rw [List.flatten_cons, List.length_append, List.length_cons]
    omega
theorem seqw_lst1 {M : Sto} {l : List D} : seqw M (.d (.lst l)) = some (true, l.map .d) := rfl
theorem put_new {f : Str} {u : Wv} : ∀ {ns : List Str} {ws : List Wv}, f ∉ ns → ns.length = ws.length → putN f ns = ns ++ [f] ∧ putW f u ns ws = ws ++ [u]
  | [], [], _, _ => ⟨rfl, rfl⟩
  | n :: ns, w :: ws, h, hl => by
    have h1 : ¬ n = f := fun e => h (by rw [e]; exact List.mem_cons_self ..)
    have ih := put_new (u := u) (ns := ns) (ws := ws) (fun z => h (List.mem_cons_of_mem _ z)) (by simpa using hl)
    exact ⟨by show (if n = f then _ else n :: putN f ns) = _; rw [if_neg h1, ih.1]; rfl, by show (if n = f then _ else w :: putW f u ns ws) = _; rw [if_neg h1, ih.2]; rfl⟩
theorem stowN {t : Nat} {f : Str} {u : Wv} {ns : List Str} {ws : List Wv} {M : Sto} {k : Nat} {P : Unit → Sto → Prop} {E : PX} (hk : M[k]? = some (.ins t ns ws)) (h : f ∉ ns) (hl : ns.length = ws.length) (hn : ns.length < 1000) :
    (stow t f u (.m k) M).Is P E = P () (M.set k (.ins t (ns ++ [f]) (ws ++ [u]))) := by
  unfold stow
  simp only [hk]
  rw [if_pos ⟨trivial, hn⟩, (put_new (u := u) h hl).1, (put_new (u := u) h hl).2]
  rfl
section
variable {M : Sto} {w : Wv} {b : Bool} {ws : List Wv} {R : List (List Int)} {k : Nat}
theorem tinit_is (hw : seqw M w = some (b, ws)) (hr : RowsW M R ws) (h1 : R.length ≤ 100) (hc : ∀ r ∈ R, r.length ≤ 100) (hk : M[k]? = some (.ins tTable [] [])) (P : PV) (E : PX)
    (hb : ∀ s, bad R = some s → E ⟨tBadTable, ["what"], [.str s]⟩ M) (hg : bad R = none → P (.d .non) (M.set k (tabO tTable R))) : (m_TableU_initU [.m k, w] M).Is P E := by
  rw [m_TableU_initU, y_fnM, b_TableU_initU]
  have z100 : 10000 ≤ sizeLine := by decide
  have kg : k_GREATEST = .int 65535 := rfl
  have km : k_MOST_VALUES = .int 8 := rfl
  obtain ⟨hn, hr⟩ := hr
  obtain ⟨n, hN⟩ : ∃ n, R.length = n := ⟨_, rfl⟩
  have lenR : ∀ (P : PV) (E : PX), (lenw w M).Is P E = P (.d (.int (n : Int))) M := fun P E => by rw [len_q hw, hn, hN]
  obtain ⟨s, hs1, hs2⟩ := src_q hw
  have src : ∀ (P : Src → Sto → Prop) (E : PX), kSq P E w M = P s M := fun P E => by
    show (srcw w M).Is P E = _
    rw [hs1]
    rfl
  by_cases c1 : 0 < n
  · have a1 : (0 : Int) < (n : Int) := by omega
    by_cases c2 : n < 9
    · have a2 : (n : Int) ≤ 8 := by omega
      have hbad : bad R = if badC R = true then some ("columns" : Str) else if badV R = true then some ("results" : Str) else none := by
        unfold bad
        rw [hN, if_neg (fun z => z ⟨c1, c2⟩)]
      obtain ⟨r0, hr0, hd⟩ : ∃ r0, R[0]? = some r0 ∧ R.headD [] = r0 := by
        cases R with
        | nil => rw [← hN] at c1; exact absurd c1 (by decide)
        | cons a b => exact ⟨a, rfl, rfl⟩
      have hr0m : r0 ∈ R := List.mem_of_getElem? hr0
      obtain ⟨w0, hw0, hat⟩ : ∃ w0, ws[0]? = some w0 ∧ L2.atI ws 0 = some w0 := by
        cases ws with
        | nil => rw [← hN, ← hn] at c1; exact absurd c1 (by decide)
        | cons a b => exact ⟨a, rfl, at0⟩
      obtain ⟨b0, q1, q2⟩ := hr 0 w0 r0 hw0 hr0
      obtain ⟨c, hC⟩ : ∃ c, r0.length = c := ⟨_, rfl⟩
      have ix0 : ∀ (P : PV) (E : PX), (ixw w (.d (.int 0)) M).Is P E = P w0 M := fun P E => ix_q hw hat
      have len0 : ∀ (P : PV) (E : PX), (lenw w0 M).Is P E = P (.d (.int (c : Int))) M := fun P E => by rw [len_q q1, List.length_map, List.length_map, hC]
      have raiseC : badC R = true → E ⟨tBadTable, ["what"], [.str "columns"]⟩ M := fun z => hb _ (by rw [hbad, if_pos z])
      by_cases c3 : 0 < c ∧ c < 9
      · have a3 : (0 : Int) < (c : Int) := by omega
        have a4 : (c : Int) ≤ 8 := by omega
        have hbc : badC R = R.any fun r => !decide ((r.length : Int) = (c : Int)) := by
          unfold badC
          rw [hd, hC]
          congr 1
          funext r
          by_cases e : r.length = c
          · have e2 : (r.length : Int) = (c : Int) := by rw [e]
            rw [e, decide_eq_true (show (c : Int) = (c : Int) from rfl), decide_eq_false (show ¬ c ≠ c from fun z => z rfl), decide_eq_true c3]
            rfl
          · have e2 : ¬ (r.length : Int) = (c : Int) := by omega
            rw [decide_eq_false e2, decide_eq_true e, Bool.true_or]
            rfl
        simp! [lenR, a1, a2, km, kg, ix0, len0, a3, a4, src]
        refine kcQ hs2 (R.map fun r => .bl (!decide ((r.length : Int) = (c : Int)))) (by rw [List.length_map, hn]) (by omega) (fun i u d h3 h4 => ?_) ?_
        · obtain ⟨r, hr3, rfl⟩ : ∃ r, R[i]? = some r ∧ d = .bl (!decide ((r.length : Int) = (c : Int))) := by
            rw [List.getElem?_map] at h4
            cases e : R[i]? with
            | none => rw [e] at h4; cases h4
            | some r => rw [e] at h4; cases h4; exact ⟨r, rfl, rfl⟩
          obtain ⟨b1, q3, q4⟩ := hr i u r h3 hr3
          have l1 : ∀ (P : PV) (E : PX), (lenw u M).Is P E = P (.d (.int (r.length : Int))) M := fun P E => by rw [len_q q3, List.length_map, List.length_map]
          simp! [y_tgN, l1]
        · have ha : dAny (R.map fun r => D.bl (!decide ((r.length : Int) = (c : Int)))) = some (.bl (badC R)) := by rw [any_map, hbc]
          simp! [ha]
          by_cases hB : badC R = true
          · rw [hB]
            simp! [DL.is_ok]
            exact raiseC hB
          · have hB' : badC R = false := by cases h : badC R <;> simp_all
            have hbad2 : bad R = if badV R = true then some ("results" : Str) else none := by rw [hbad, if_neg hB]
            rw [hB']
            simp! [kg, src]
            refine kcQ2 hs2 (R.map fun r => r.map fun v => .bl (!decide (0 ≤ v ∧ v ≤ 65535))) (by rw [List.length_map, hn]) ?_ (fun i u ds h3 h4 => ?_) ?_
            · rw [flat_anyV, List.length_map, List.length_map]
              have := flat_le R hc
              omega
            · obtain ⟨r, hr3, rfl⟩ : ∃ r, R[i]? = some r ∧ ds = r.map fun v => .bl (!decide (0 ≤ v ∧ v ≤ 65535)) := by
                rw [List.getElem?_map] at h4
                cases e : R[i]? with
                | none => rw [e] at h4; cases h4
                | some r => rw [e] at h4; cases h4; exact ⟨r, rfl, rfl⟩
              obtain ⟨b1, q3, q4⟩ := hr i u r h3 hr3
              obtain ⟨s1, hs3, hs4⟩ := src_q q3
              have src1 : ∀ (P : Src → Sto → Prop) (E : PX), kSq P E u M = P s1 M := fun P E => by
                show (srcw u M).Is P E = _
                rw [hs3]
                rfl
              simp! [y_tgN, src1]
              refine ⟨_, hs4, by rw [List.length_map, List.length_map], fun j y d h5 h6 => ?_⟩
              rw [List.getElem?_map, List.getElem?_map] at h5
              rw [List.getElem?_map] at h6
              cases e : r[j]? with
              | none => rw [e] at h5; cases h5
              | some v =>
                rw [e] at h5 h6
                cases h5
                cases h6
                by_cases v0 : 0 ≤ v
                · by_cases v1 : v ≤ 65535
                  · simp! [y_tgN, v0, v1]
                  · simp! [y_tgN, v0, v1, and_false]
                · simp! [y_tgN, v0, false_and]
            · have ha : dAny ((R.map fun r => r.map fun v => D.bl (!decide (0 ≤ v ∧ v ≤ 65535))).flatten) = some (.bl (badV R)) := by
                rw [flat_anyV, List.map_map]
                show dAny (R.flatten.map fun v => D.bl (!decide (0 ≤ v ∧ v ≤ 65535))) = _
                rw [any_map, any_flat]
                rfl
              simp! [ha]
              by_cases hV : badV R = true
              · rw [hV]
                simp! [DL.is_ok]
                exact hb _ (by rw [hbad2, if_pos hV])
              · have hV' : badV R = false := by cases h : badV R <;> simp_all
                rw [hV']
                simp! [src]
                refine kcQ hs2 (R.map fun r => .tup (r.map .int)) (by rw [List.length_map, hn]) (by omega) (fun i u d h3 h4 => ?_) ?_
                · obtain ⟨r, hr3, rfl⟩ : ∃ r, R[i]? = some r ∧ d = .tup (r.map .int) := by
                    rw [List.getElem?_map] at h4
                    cases e : R[i]? with
                    | none => rw [e] at h4; cases h4
                    | some r => rw [e] at h4; cases h4; exact ⟨r, rfl, rfl⟩
                  obtain ⟨b1, q3, q4⟩ := hr i u r h3 hr3
                  have t1 : ∀ (P : PV) (E : PX), (tupw u M).Is P E = P (.d (.tup (r.map .int))) M := fun P E => tup_q q3 q4
                  simp! [y_tgN, t1]
                · have t2 : ∀ (P : PV) (E : PX), (tupw (.d (.lst (R.map fun r => .tup (r.map .int)))) M).Is P E = P (.d (rowsT R)) M := fun P E => tup_q (b := true) seqw_lst1 (fun z => by cases z)
                  have s1 : ∀ (u : Wv) (P : Unit → Sto → Prop) (E : PX), (stow tTable "rows" u (.m k) M).Is P E = P () (M.set k (.ins tTable ["rows"] [u])) := fun u P E => stowN (ns := []) (ws := []) hk List.not_mem_nil rfl (by decide)
                  simp! [t2, s1]
                  exact hg (by rw [hbad2, if_neg hV])
      · have hbc : badC R = true := by
          unfold badC
          rw [hd, hC]
          refine List.any_eq_true.mpr ⟨r0, hr0m, ?_⟩
          rw [hC, decide_eq_false c3, Bool.not_false, Bool.or_true]
        by_cases c4 : 0 < c
        · have a3 : (0 : Int) < (c : Int) := by omega
          have a4 : ¬ (c : Int) ≤ 8 := by omega
          simp! [lenR, a1, a2, km, kg, ix0, len0, a3, a4]
          exact raiseC hbc
        · have a3 : ¬ (0 : Int) < (c : Int) := by omega
          simp! [lenR, a1, a2, km, kg, ix0, len0, a3]
          exact raiseC hbc
    · have a2 : ¬ (n : Int) ≤ 8 := by omega
      simp! [lenR, a1, a2, km]
      exact hb _ (by unfold bad; rw [hN, if_pos (fun z => c2 z.2)])
  · have a1 : ¬ (0 : Int) < (n : Int) := by omega
    simp! [lenR, a1]
    exact hb _ (by unfold bad; rw [hN, if_pos (fun z => c1 z.1)])
end
/-! ### plain data without bools: == tells whether they are the same -/
def dat : Nat → D → Prop
  | _, .non => True
  | _, .int _ => True
  | _, .str a => PyData.strOk a = true
  | n + 1, .tup l => l.length ≤ sizeLine ∧ ∀ x ∈ l, dat n x
  | n + 1, .lst l => l.length ≤ sizeLine ∧ ∀ x ∈ l, dat n x
  | _, _ => False
theorem dat_plain : ∀ {n : Nat} {x : D}, dat n x → plain n x
  | 0, .non, _ => trivial
  | 0, .int _, _ => trivial
  | 0, .str _, h => h
  | n + 1, .non, _ => trivial
  | n + 1, .int _, _ => trivial
  | n + 1, .str _, h => h
  | n + 1, .tup l, h => ⟨h.1, fun x hx => dat_plain (h.2 x hx)⟩
  | n + 1, .lst l, h => ⟨h.1, fun x hx => dat_plain (h.2 x hx)⟩
  | 0, .tup _, h => h.elim
  | 0, .lst _, h => h.elim
  | 0, .bl _, h => h.elim
  | _ + 1, .bl _, h => h.elim
  | 0, .dic _ _, h => h.elim
  | _ + 1, .dic _ _, h => h.elim
  | 0, .obj _ _ _, h => h.elim
  | _ + 1, .obj _ _ _, h => h.elim
  | 0, .scr _, h => h.elim
  | _ + 1, .scr _, h => h.elim
theorem dat_up : ∀ {n m : Nat} {x : D}, n ≤ m → dat n x → dat m x
  | 0, 0, x, _, h => h
  | 0, m + 1, .non, _, _ => trivial
  | 0, m + 1, .int _, _, _ => trivial
  | 0, m + 1, .str _, _, h => h
  | n + 1, m + 1, .non, _, _ => trivial
  | n + 1, m + 1, .int _, _, _ => trivial
  | n + 1, m + 1, .str _, _, h => h
  | n + 1, m + 1, .tup l, hm, h => ⟨h.1, fun x hx => dat_up (by omega) (h.2 x hx)⟩
  | n + 1, m + 1, .lst l, hm, h => ⟨h.1, fun x hx => dat_up (by omega) (h.2 x hx)⟩
  | 0, _ + 1, .tup _, _, h => h.elim
  | 0, _ + 1, .lst _, _, h => h.elim
  | 0, _ + 1, .bl _, _, h => h.elim
  | _ + 1, _ + 1, .bl _, _, h => h.elim
  | 0, _ + 1, .dic _ _, _, h => h.elim
  | _ + 1, _ + 1, .dic _ _, _, h => h.elim
  | 0, _ + 1, .obj _ _ _, _, h => h.elim
  | _ + 1, _ + 1, .obj _ _ _, _, h => h.elim
  | 0, _ + 1, .scr _, _, h => h.elim
  | _ + 1, _ + 1, .scr _, _, h => h.elim
theorem dats_eqv {n : Nat} (ih : ∀ x y, dat n x → dat n y → ∃ p q, D.toP x = some p ∧ D.toP y = some q ∧ (PyData.eqv p q = true ↔ x = y)) : ∀ l m : List D, (∀ x ∈ l, dat n x) → (∀ x ∈ m, dat n x) → ∃ ps qs, D.toPs l = some ps ∧ D.toPs m = some qs ∧ (PyData.eqvAll ps qs = true ↔ l = m)
  | [], [], _, _ => ⟨[], [], rfl, rfl, by simp [PyData.eqvAll]⟩
  | [], y :: m, _, hm => by
    obtain ⟨_, q, _, h2, _⟩ := ih y y (hm y (List.mem_cons_self ..)) (hm y (List.mem_cons_self ..))
    obtain ⟨_, qs, _, h4, _⟩ := dats_eqv ih [] m (fun x hx => by cases hx) fun x hx => hm x (List.mem_cons_of_mem _ hx)
    exact ⟨[], q :: qs, rfl, by unfold D.toPs; rw [h2, h4], by simp [PyData.eqvAll]⟩
  | x :: l, [], hl, _ => by
    obtain ⟨p, _, h1, _, _⟩ := ih x x (hl x (List.mem_cons_self ..)) (hl x (List.mem_cons_self ..))
    obtain ⟨ps, _, h3, _, _⟩ := dats_eqv ih l [] (fun x hx => hl x (List.mem_cons_of_mem _ hx)) fun x hx => by cases hx
    exact ⟨p :: ps, [], by unfold D.toPs; rw [h1, h3], rfl, by simp [PyData.eqvAll]⟩
  | x :: l, y :: m, hl, hm => by
    obtain ⟨p, q, h1, h2, h3⟩ := ih x y (hl x (List.mem_cons_self ..)) (hm y (List.mem_cons_self ..))
    obtain ⟨ps, qs, h4, h5, h6⟩ := dats_eqv ih l m (fun x hx => hl x (List.mem_cons_of_mem _ hx)) fun x hx => hm x (List.mem_cons_of_mem _ hx)
    refine ⟨p :: ps, q :: qs, by unfold D.toPs; rw [h1, h4], by unfold D.toPs; rw [h2, h5], ?_⟩
    unfold PyData.eqvAll
    rw [Bool.and_eq_true, h3, h6, List.cons.injEq]
theorem dat_eqv : ∀ (n : Nat) (x y : D), dat n x → dat n y → ∃ p q, D.toP x = some p ∧ D.toP y = some q ∧ (PyData.eqv p q = true ↔ x = y) := by
  intro n
  induction n with
  | zero =>
    intro x y hx hy
    cases x <;> first | exact hx.elim | (cases y <;> first | exact hy.elim | exact ⟨_, _, rfl, rfl, by simp [PyData.eqv]⟩)
  | succ n ih =>
    intro x y hx hy
    have L := dats_eqv ih
    have S : ∀ l : List D, (∀ x ∈ l, dat n x) → ∃ ps, D.toPs l = some ps := fun l hl => by
      obtain ⟨ps, _, h, _⟩ := L l l hl hl
      exact ⟨ps, h⟩
    cases x <;> first | exact hx.elim | (cases y <;> first | exact hy.elim | exact ⟨_, _, rfl, rfl, by simp [PyData.eqv]⟩ | skip)
    all_goals first
      | (rename_i l m
         obtain ⟨ps, qs, h1, h2, h3⟩ := L l m hx.2 hy.2
         exact ⟨_, _, by unfold D.toP; rw [h1]; rfl, by unfold D.toP; rw [h2]; rfl, by unfold PyData.eqv; rw [h3]; simp⟩)
      | (rename_i l m
         obtain ⟨ps, h1⟩ := S l hx.2
         obtain ⟨qs, h2⟩ := S m hy.2
         exact ⟨_, _, by unfold D.toP; rw [h1]; rfl, by unfold D.toP; rw [h2]; rfl, by simp [PyData.eqv]⟩)
      | (rename_i l
         obtain ⟨ps, h1⟩ := S l hx.2
         exact ⟨_, _, by unfold D.toP; rw [h1]; rfl, rfl, by simp [PyData.eqv]⟩)
      | (rename_i l
         obtain ⟨ps, h1⟩ := S l hy.2
         exact ⟨_, _, rfl, by unfold D.toP; rw [h1]; rfl, by simp [PyData.eqv]⟩)
      | (rename_i l m
         obtain ⟨ps, h1⟩ := S l hx.2
         exact ⟨_, _, by unfold D.toP; rw [h1]; rfl, rfl, by simp [PyData.eqv]⟩)
      | (rename_i l m
         obtain ⟨ps, h1⟩ := S m hy.2
         exact ⟨_, _, rfl, by unfold D.toP; rw [h1]; rfl, by simp [PyData.eqv]⟩)
theorem dat_peq {n : Nat} {x y : D} (hx : dat n x) (hy : dat n y) (hn : n ≤ 64) : ∃ k, peq x y = some k ∧ (k = true ↔ x = y) := by
  obtain ⟨p, q, h1, h2, h3⟩ := dat_eqv n x y hx hy
  obtain ⟨p', a1, a2, a3⟩ := plain_toP n x (dat_plain hx)
  obtain ⟨q', b1, b2, b3⟩ := plain_toP n y (dat_plain hy)
  rw [h1] at a1
  rw [h2] at b1
  cases a1
  cases b1
  have s1 : SeqAt.shaped p = true := by
    show (p.canLay0 && decide (p.depth ≤ 64)) = true
    rw [a2, decide_eq_true (Nat.le_trans a3 hn)]; rfl
  have s2 : SeqAt.shaped q = true := by
    show (q.canLay0 && decide (q.depth ≤ 64)) = true
    rw [b2, decide_eq_true (Nat.le_trans b3 hn)]; rfl
  refine ⟨PyData.eqv p q, ?_, h3⟩
  unfold peq
  rw [h1, h2]
  simp only [s1, s2, Bool.and_self, if_true]
theorem dat_same {n : Nat} {x y : D} (hx : dat n x) (hy : dat n y) (hn : n ≤ 64) (h : x = y) : dEq x y = some (.bl true) := by
  obtain ⟨k, h1, h2⟩ := dat_peq hx hy hn
  unfold dEq
  rw [h1, h2.mpr h]
  rfl
theorem dat_diff {n : Nat} {x y : D} (hx : dat n x) (hy : dat n y) (hn : n ≤ 64) (h : x ≠ y) : dEq x y = some (.bl false) := by
  obtain ⟨k, h1, h2⟩ := dat_peq hx hy hn
  unfold dEq
  cases k with
  | true => exact absurd (h2.mp rfl) h
  | false => rw [h1]; rfl
theorem dat_nesame {n : Nat} {x y : D} (hx : dat n x) (hy : dat n y) (hn : n ≤ 64) (h : x = y) : dNe x y = some (.bl false) := by
  obtain ⟨k, h1, h2⟩ := dat_peq hx hy hn
  unfold dNe
  rw [h1, h2.mpr h]
  rfl
theorem dat_nediff {n : Nat} {x y : D} (hx : dat n x) (hy : dat n y) (hn : n ≤ 64) (h : x ≠ y) : dNe x y = some (.bl true) := by
  obtain ⟨k, h1, h2⟩ := dat_peq hx hy hn
  unfold dNe
  cases k with
  | true => exact absurd (h2.mp rfl) h
  | false => rw [h1]; rfl
/-! ### loops that look for the first -/
def StepF (I : Ev → Sto → Prop) (x : Option D) : Out → Sto → Prop := fun o M => match x with
  | some d => o = .rt (.d d)
  | none => ∃ env, (o = .nx env ∨ o = .ct env) ∧ I env M
theorem step_some {I : Ev → Sto → Prop} {d : D} {M : Sto} : StepF I (some d) (.rt (.d d)) M := rfl
theorem step_none {I : Ev → Sto → Prop} {env : Ev} {M : Sto} (h : I env M) : StepF I none (.nx env) M := ⟨env, .inl rfl, h⟩
theorem for_find {α : Type} (as : List α) (enc : α → D) (F : α → Option D) (I : Ev → Sto → Prop) {tg : GD} {body : SD} {env : Ev} {M : Sto} {P : PO}
    (hs : ∀ a ∈ as, ∀ env M, I env M → Go ((tg (.d (enc a)) env M).Is (fun e M1 => (body e M1).Is (StepF I (F a)) nox) nox)) (h0 : I env M)
    (hd : as.findSome? F = none → ∀ env M, I env M → P (.nx env) M) (hr : ∀ d, as.findSome? F = some d → ∀ M, P (.rt (.d d)) M) {n : Nat} (hn : n = as.length) :
    (forS (.its ((as.map enc).map .d)) tg body n 0 env M).Is P nox := by
  refine for_is (fun i env M => I env M ∧ (as.take i).findSome? F = none) (fun i w env M hw hI => ?_) (fun env M hI => ?_) _ _ _ _ (by rw [Nat.zero_add, List.length_map, List.length_map]; exact hn) ⟨h0, rfl⟩
  · have hi : i < as.length := by
      have := (List.getElem?_eq_some_iff.mp hw).1
      rw [List.length_map, List.length_map] at this
      exact this
    rw [List.getElem?_map, List.getElem?_map, List.getElem?_eq_getElem hi] at hw
    cases (Option.some.inj hw)
    refine (hs _ (List.getElem_mem hi) env M hI.1).go.imp (fun e M1 q => ?_) fun _ _ z => z
    refine q.imp (fun o M2 q2 => ?_) fun _ _ z => z
    have et : (as.take (i + 1)).findSome? F = F as[i] := by
      rw [List.take_succ_eq_append_getElem hi, List.findSome?_append, hI.2]
      simp [List.findSome?_cons]
      cases F as[i] <;> rfl
    have ea : ∀ d, F as[i] = some d → as.findSome? F = some d := fun d hd => by
      rw [← List.take_append_drop (i + 1) as, List.findSome?_append, et, hd]
      rfl
    cases hF : F as[i] with
    | some d =>
      rw [hF] at q2
      cases q2
      exact hr d (ea d hF) M2
    | none =>
      rw [hF] at q2 et
      obtain ⟨env', h1, h2⟩ := q2
      rcases h1 with rfl | rfl
      · exact ⟨h2, et⟩
      · exact ⟨h2, et⟩
  · refine hd ?_ env M hI.1
    have := hI.2
    rw [List.length_map, List.length_map, List.take_length] at this
    exact this
theorem find_if {α : Type} (as : List α) (c : α → Bool) (d : D) : as.findSome? (fun a => if c a = true then some d else none) = if as.any c = true then some d else none := by
  induction as with
  | nil => rfl
  | cons a as ih =>
    rw [List.findSome?_cons, List.any_cons]
    by_cases h : c a = true
    · rw [if_pos h, h, Bool.true_or, if_pos rfl]
    · have h' : c a = false := by cases q : c a <;> simp_all
      rw [if_neg h, h', Bool.false_or]
      exact ih
/-! ### tables, made and compared; what is bad -/
def few (R : List (List Int)) : Prop := R.length ≤ 100 ∧ ∀ r ∈ R, r.length ≤ 100
theorem rowsW_L {M : Sto} {R : List (List Int)} : RowsW M R ((R.map fun r => D.lst (r.map .int)).map .d) := by
  refine ⟨by rw [List.length_map, List.length_map], fun i w r h1 h2 => ?_⟩
  rw [List.getElem?_map, List.getElem?_map, h2] at h1
  cases h1
  exact ⟨true, rfl, fun z => by cases z⟩
theorem mk01 {R : List (List Int)} {M : Sto} (hf : few R) (hb : bad R = none) : mkF tTable 2 m_TableU_initU [.d (rowsL R)] M = .ok (.d (tabD tTable R)) M := by
  refine mkF_d (xs := [rowsL R]) rfl (mo := tabO tTable R) ?_ tab_fz
  refine is_eq (tinit_is (M := [.ins tTable [] []]) (w := .d (rowsL R)) (b := true) rfl rowsW_L hf.1 hf.2 rfl _ _ (fun s h => by rw [hb] at h; cases h) fun _ => ⟨rfl, rfl⟩)
theorem mkA01 {R : List (List Int)} {M : Sto} {w : Wv} {b : Bool} {ws : List Wv} {P : PV} {E : PX} (hf : few R) (hw : seqw (M ++ [.ins tTable [] []]) w = some (b, ws)) (hr : RowsW (M ++ [.ins tTable [] []]) R ws)
    (hb : ∀ s, bad R = some s → E ⟨tBadTable, ["what"], [.str s]⟩ (M ++ [.ins tTable [] []])) (hg : bad R = none → P (.m M.length) (M ++ [tabO tTable R])) : (mkA tTable 2 m_TableU_initU [w] M).Is P E := by
  have hk : (M ++ [MO.ins tTable [] []])[M.length]? = some (.ins tTable [] []) := by
    rw [List.getElem?_append_right (Nat.le_refl _), Nat.sub_self]
    rfl
  refine mkA_is rfl (tinit_is hw hr hf.1 hf.2 hk _ _ hb fun h => ⟨rfl, ?_⟩)
  rw [List.set_append_right _ _ (Nat.le_refl _), Nat.sub_self]
  exact hg h
theorem seal_tab {R : List (List Int)} {M : Sto} : sealW 6 (.m M.length) (M ++ [tabO tTable R]) = some (tabD tTable R, M ++ [.fz (tabD tTable R)]) := by
  have h : (M ++ [tabO tTable R])[M.length]? = some (.ins tTable ["rows"] [.d (rowsT R)]) := by
    rw [List.getElem?_append_right (Nat.le_refl _), Nat.sub_self]
    rfl
  show (match (M ++ [tabO tTable R])[M.length]? with
    | some (.lst ws) => (sealL (sealW 5) ws (M ++ [tabO tTable R])).bind fun M1 => fz1 M.length M1
    | some (.tup ws) => (sealL (sealW 5) ws (M ++ [tabO tTable R])).bind fun M1 => fz1 M.length M1
    | some (.ins _ _ ws) => (sealL (sealW 5) ws (M ++ [tabO tTable R])).bind fun M1 => fz1 M.length M1
    | some (.dic _ ws) => (sealL (sealW 5) ws (M ++ [tabO tTable R])).bind fun M1 => fz1 M.length M1
    | _ => fz1 M.length (M ++ [tabO tTable R])) = _
  simp only [h]
  rw [sealL, sealW_d, Option.bind_some, sealL, Option.bind_some]
  unfold fz1
  simp only [h]
  show (nds _ [Wv.d (rowsT R)]).map _ = _
  rw [nds, nd_d, nds]
  simp only [Option.map_some]
  rw [List.set_append_right _ _ (Nat.le_refl _), Nat.sub_self]
  rfl
section
variable {R S : List (List Int)} {M : Sto} {P : PV} {E : PX}
theorem dat_row {r : List Int} (h : r.length ≤ 100) : dat 1 (.tup (r.map .int)) ∧ dat 1 (.lst (r.map .int)) := by
  have z : 100 ≤ sizeLine := by decide
  exact ⟨⟨by rw [List.length_map]; omega, fun x hx => by obtain ⟨i, _, rfl⟩ := List.mem_map.mp hx; exact trivial⟩, ⟨by rw [List.length_map]; omega, fun x hx => by obtain ⟨i, _, rfl⟩ := List.mem_map.mp hx; exact trivial⟩⟩
theorem datT (h : few R) : dat 2 (rowsT R) := by
  have z : 100 ≤ sizeLine := by decide
  have := h.1
  exact ⟨by rw [List.length_map]; omega, fun x hx => by obtain ⟨r, hr, rfl⟩ := List.mem_map.mp hx; exact (dat_row (h.2 r hr)).1⟩
theorem datL (h : few R) : dat 2 (rowsL R) := by
  have z : 100 ≤ sizeLine := by decide
  have := h.1
  exact ⟨by rw [List.length_map]; omega, fun x hx => by obtain ⟨r, hr, rfl⟩ := List.mem_map.mp hx; exact (dat_row (h.2 r hr)).2⟩
theorem map_int_inj {r s : List Int} (h : r.map D.int = s.map D.int) : r = s := by
  induction r generalizing s with
  | nil => cases s with
    | nil => rfl
    | cons => cases h
  | cons a r ih => cases s with
    | nil => cases h
    | cons b s =>
      simp only [List.map_cons, List.cons.injEq, D.int.injEq] at h
      rw [h.1, ih h.2]
theorem rowsT_inj (h : rowsT R = rowsT S) : R = S := by
  have h := D.tup.inj h
  induction R generalizing S with
  | nil => cases S with
    | nil => rfl
    | cons => cases h
  | cons a r ih => cases S with
    | nil => cases h
    | cons b s =>
      simp only [List.map_cons, List.cons.injEq, D.tup.injEq] at h
      rw [map_int_inj h.1, ih (congrArg D.tup h.2) h.2]
theorem rowsL_inj (h : rowsL R = rowsL S) : R = S := by
  have h := D.lst.inj h
  induction R generalizing S with
  | nil => cases S with
    | nil => rfl
    | cons => cases h
  | cons a r ih => cases S with
    | nil => cases h
    | cons b s =>
      simp only [List.map_cons, List.cons.injEq, D.lst.injEq] at h
      rw [map_int_inj h.1, ih (congrArg D.lst h.2) h.2]
theorem eqT (h1 : few R) (h2 : few S) : dEq (rowsT R) (rowsT S) = some (.bl (decide (R = S))) := by
  by_cases e : R = S
  · rw [dat_same (datT h1) (datT h2) (by decide) (by rw [e]), decide_eq_true e]
  · rw [dat_diff (datT h1) (datT h2) (by decide) (fun z => e (rowsT_inj z)), decide_eq_false e]
theorem eqL (h1 : few R) (h2 : few S) : dEq (rowsL R) (rowsL S) = some (.bl (decide (R = S))) := by
  by_cases e : R = S
  · rw [dat_same (datL h1) (datL h2) (by decide) (by rw [e]), decide_eq_true e]
  · rw [dat_diff (datL h1) (datL h2) (by decide) (fun z => e (rowsL_inj z)), decide_eq_false e]
theorem neL (h1 : few R) (h2 : few S) : dNe (rowsL R) (rowsL S) = some (.bl (!decide (R = S))) := by
  by_cases e : R = S
  · rw [dat_nesame (datL h1) (datL h2) (by decide) (by rw [e]), decide_eq_true e]
    rfl
  · rw [dat_nediff (datL h1) (datL h2) (by decide) (fun z => e (rowsL_inj z)), decide_eq_false e]
    rfl
theorem tab_isO : (isiw (isOw tTable []) (.d (tabD tTable R)) M).Is P E = P (.d (.bl true)) M := rfl
theorem tab_rows : (fldw [tTable] "rows" (.d (tabD tTable R)) M).Is P E = P (.d (rowsT R)) M := rfl
theorem tab_eq (h1 : few R) (h2 : few S) : ownw tTable (callR 0 2 m_TableU_eqU) (.d (tabD tTable R)) (.d (tabD tTable S)) M = .ok (.d (.bl (decide (R = S)))) M := by
  have key : m_TableU_eqU [.d (tabD tTable R), .d (tabD tTable S)] [] = .ok (.d (.bl (decide (R = S)))) [] := by
    refine is_eq ?_
    rw [m_TableU_eqU, y_fnD, b_TableU_eqU]
    simp! [tab_isO, tab_rows, eqT h1 h2]
  have hc : callR 0 2 m_TableU_eqU [.d (tabD tTable R), .d (tabD tTable S)] M = .ok (.d (.bl (decide (R = S)))) M := call0 (xs := [tabD tTable R, tabD tTable S]) rfl key
  unfold ownw
  rw [if_pos ⟨rfl, rfl⟩, hc]
  rfl
end
theorem y_outCd0 {M : Sto} {x : D} {P : PV} {E : PX} : (outC 0 (.d x) M).Is P E = P (.d x) [] := by
  unfold outC prep
  simp only [Wv.below, if_true, List.take_zero, List.all_nil, is_ok]
/-! what the law's file says of them -/
theorem minmax {r : List Int} (h : 0 < r.length) : ∃ a b, dMinL (r.map .int) = some (.int a) ∧ dMaxL (r.map .int) = some (.int b) ∧ ((a < 0 ∨ 65535 < b) ↔ (r.any fun v => !decide (0 ≤ v ∧ v ≤ 65535)) = true) := by
  obtain ⟨a, ha⟩ : ∃ a, minL r = some a := by
    cases r with
    | nil => exact absurd h (by decide)
    | cons x l => exact ⟨_, rfl⟩
  obtain ⟨b, hb⟩ : ∃ b, maxL r = some b := by
    cases r with
    | nil => exact absurd h (by decide)
    | cons x l => exact ⟨_, rfl⟩
  refine ⟨a, b, by rw [dMinL, intsOf_map, Option.bind_some, ha]; rfl, by rw [dMaxL, intsOf_map, Option.bind_some, hb]; rfl, ?_⟩
  obtain ⟨a1, a2⟩ := minL_spec ha
  obtain ⟨b1, b2⟩ := maxL_spec hb
  rw [List.any_eq_true]
  constructor
  · rintro (z | z)
    · exact ⟨a, a1, by rw [decide_eq_false (fun q => by omega)]; rfl⟩
    · exact ⟨b, b1, by rw [decide_eq_false (fun q => by omega)]; rfl⟩
  · rintro ⟨v, hv, z⟩
    have h1 := a2 v hv
    have h2 := b2 v hv
    by_cases q : 0 ≤ v ∧ v ≤ 65535
    · rw [decide_eq_true q] at z
      cases z
    · omega
def optD : Option Str → D
  | none => .non
  | some s => .str s
theorem lawbad {R : List (List Int)} (hf : few R) : m__law_bad [.d (rowsL R)] [] = .ok (.d (optD (bad R))) [] := by
  refine is_eq ?_
  rw [m__law_bad, y_fnD, b__law_bad]
  have z100 : 10000 ≤ sizeLine := by decide
  obtain ⟨n, hN⟩ : ∃ n, R.length = n := ⟨_, rfl⟩
  have lenR : ∀ (P : PV) (E : PX) (M : Sto), (lenw (.d (rowsL R)) M).Is P E = P (.d (.int (n : Int))) M := fun P E M => by rw [rowsL, y_lenL, List.length_map, hN]
  by_cases c1 : 0 < n
  · have a1 : (0 : Int) < (n : Int) := by omega
    by_cases c2 : n < 9
    · have a2 : (n : Int) < 9 := by omega
      have hbad : bad R = if badC R = true then some ("columns" : Str) else if badV R = true then some ("results" : Str) else none := by
        unfold bad
        rw [hN, if_neg (fun z => z ⟨c1, c2⟩)]
      obtain ⟨r0, hr0, hd⟩ : ∃ r0, R[0]? = some r0 ∧ R.headD [] = r0 := by
        cases R with
        | nil => rw [← hN] at c1; exact absurd c1 (by decide)
        | cons a b => exact ⟨a, rfl, rfl⟩
      have ix0 : ∀ (P : PV) (E : PX) (M : Sto), (ixw (.d (rowsL R)) (.d (.int 0)) M).Is P E = P (.d (.lst (r0.map .int))) M := fun P E M => by
        cases R with
        | nil => rw [← hN] at c1; exact absurd c1 (by decide)
        | cons a b => cases hr0; rw [rowsL, y_ixL, List.map_cons, List.map_cons, at0]; rfl
      have lenr : ∀ (r : List Int) (P : PV) (E : PX) (M : Sto), (lenw (.d (.lst (r.map .int))) M).Is P E = P (.d (.int (r.length : Int))) M := fun r P E M => by rw [y_lenL, List.length_map]
      have src : ∀ (P : Src → Sto → Prop) (E : PX) (M : Sto), kSq P E (.d (rowsL R)) M = P (.its ((R.map fun r => D.lst (r.map .int)).map .d)) M := fun P E M => rfl
      have hC2 : ∀ (r : List Int), (!decide (0 < r.length ∧ r.length < 9)) = (!(decide ((0 : Int) < (r.length : Int)) && decide ((r.length : Int) < 9))) := fun r => by
        rw [← Bool.decide_and]
        congr 1
        exact decide_eq_decide.mpr (by omega)
      simp! [lenR, a1, a2, src]
      refine for_find R (fun r => .lst (r.map .int)) (fun r => if (decide (r.length ≠ (R.headD []).length) || !decide (0 < r.length ∧ r.length < 9)) = true then some (.str "columns") else none) (fun env M => ∃ x1, M = [] ∧ env = [some (.d (rowsL R)), x1]) (fun r hr env M hI => ?_) ⟨_, rfl, rfl⟩ (fun hn env M hI => ?_) (fun d hd2 M => ?_) rfl
      · obtain ⟨x1, rfl, rfl⟩ := hI
        rw [hd]
        obtain ⟨c, hc⟩ : ∃ c, r.length = c := ⟨_, rfl⟩
        obtain ⟨c0, hc0⟩ : ∃ c, r0.length = c := ⟨_, rfl⟩
        rw [hc, hc0]
        by_cases e1 : c = c0
        · have e2 : (c : Int) = (c0 : Int) := by rw [e1]
          by_cases e3 : 0 < c
          · have e4 : (0 : Int) < (c : Int) := by omega
            by_cases e5 : c < 9
            · have e6 : (c : Int) < 9 := by omega
              simp! [y_tgN, lenr, ix0, hc, hc0, decide_eq_true e2, e4, e6]
              rw [decide_eq_false (fun z => z e1), decide_eq_true (And.intro e3 e5)]
              exact step_none ⟨_, rfl, rfl⟩
            · have e6 : ¬ (c : Int) < 9 := by omega
              simp! [y_tgN, lenr, ix0, hc, hc0, decide_eq_true e2, e4, e6]
              rw [decide_eq_false (fun (z : 0 < c ∧ c < 9) => e5 z.2), Bool.not_false, Bool.or_true]
              rfl
          · have e4 : ¬ (0 : Int) < (c : Int) := by omega
            simp! [y_tgN, lenr, ix0, hc, hc0, decide_eq_true e2, e4]
            rw [decide_eq_false (fun (z : 0 < c ∧ c < 9) => e3 z.1), Bool.not_false, Bool.or_true]
            rfl
        · have e2 : ¬ (c : Int) = (c0 : Int) := by omega
          simp! [y_tgN, lenr, ix0, hc, hc0, decide_eq_false e2]
          rw [decide_eq_true e1, Bool.true_or]
          rfl
      · obtain ⟨x1, rfl, rfl⟩ := hI
        rw [find_if] at hn
        have hB : ¬ badC R = true := fun z => by
          rw [badC] at z
          rw [if_pos z] at hn
          cases hn
        have hbad2 : bad R = if badV R = true then some ("results" : Str) else none := by rw [hbad, if_neg hB]
        have hpos : ∀ r ∈ R, 0 < r.length := fun r hr => by
          refine Classical.byContradiction fun z => hB ?_
          unfold badC
          refine List.any_eq_true.mpr ⟨r, hr, ?_⟩
          rw [decide_eq_false (fun (q : 0 < r.length ∧ r.length < 9) => z q.1), Bool.not_false, Bool.or_true]
        simp! [src]
        refine for_find R (fun r => .lst (r.map .int)) (fun r => if (r.any fun v => !decide (0 ≤ v ∧ v ≤ 65535)) = true then some (.str "results") else none) (fun env M => ∃ x1, M = [] ∧ env = [some (.d (rowsL R)), x1]) (fun r hr env M hI => ?_) ⟨_, rfl, rfl⟩ (fun hn env M hI => ?_) (fun d hd2 M => ?_) rfl
        · obtain ⟨x1, rfl, rfl⟩ := hI
          obtain ⟨a, b, m1, m2, m3⟩ := minmax (hpos r hr)
          by_cases z1 : a < 0
          · simp! [y_tgN, m1, m2, z1]
            rw [if_pos (m3.mp (.inl z1))]
            rfl
          · by_cases z2 : 65535 < b
            · simp! [y_tgN, m1, m2, z1, z2]
              rw [if_pos (m3.mp (.inr z2))]
              rfl
            · simp! [y_tgN, m1, m2, z1, z2]
              rw [if_neg (fun q => (m3.mpr q).elim z1 z2)]
              exact step_none ⟨_, rfl, rfl⟩
        · obtain ⟨x1, rfl, rfl⟩ := hI
          rw [find_if] at hn
          have hV : ¬ badV R = true := fun z => by
            rw [badV] at z
            rw [if_pos z] at hn
            cases hn
          simp! [DL.is_ok]
          rw [hbad2, if_neg hV]
          rfl
        · rw [find_if] at hd2
          have hV : badV R = true := Classical.byContradiction fun z => by
            rw [badV] at z
            rw [if_neg z] at hd2
            cases hd2
          rw [badV] at hV
          rw [if_pos hV] at hd2
          cases hd2
          rw [hbad2, badV, if_pos hV]
          simp! [y_outCd0]
          rfl
      · rw [find_if] at hd2
        have hV : badC R = true := Classical.byContradiction fun z => by
          rw [badC] at z
          rw [if_neg z] at hd2
          cases hd2
        rw [badC] at hV
        rw [if_pos hV] at hd2
        cases hd2
        rw [hbad, badC, if_pos hV]
        simp! [y_outCd0]
        rfl
    · have a2 : ¬ (n : Int) < 9 := by omega
      simp! [lenR, a1, a2]
      unfold bad
      rw [hN, if_pos (fun z => c2 z.2)]
      trivial
  · have a1 : ¬ (0 : Int) < (n : Int) := by omega
    simp! [lenR, a1]
    unfold bad
    rw [hN, if_pos (fun z => c1 z.1)]
    trivial
def law5 : SD := (sSeq (sAsg (tgN 14) (eCall (callA 2 m_results) [] (aCons (eVar 19) (aCons (eCall (callR 0 1 m_whole) [] (aCons (eVar 19) aNil)) aNil))))
    (sSeq (sExpr (eLM lApp (eVar 14) (aCons (eC (.int 7)) aNil)))
    (sSeq (sAsg (tgN 15) (eTup (aCons (eL (f1 tupw) (aCons (eLc finF (iR1 (aCons (eL (f1 lenw) (aCons (eVar 4) aNil)) aNil)) (tgN 5) tYesD (eVar 5) [5]) aNil)) (aCons (eL (f1 tupw) (aCons (eLc finF (iR1 (aCons (eL (f1 lenw) (aCons (e2 ixw (eVar 4) (eC (.int 0))) aNil)) aNil)) (tgN 5) tYesD (eVar 5) [5]) aNil)) aNil))))
    (sSeq (sAsg (tgN 16) (eTup (aCons (eTup (aCons (eVar 10) aNil)) (aCons (e2 ixw (eVar 15) (eC (.int 1))) aNil))))
    (sSeq (sAsg (tgN 14) (eLstM (aCons (eCall (callA 2 m_results) [] (aCons (eVar 19) (aCons (eVar 15) aNil))) (aCons (eCall (callA 2 m_results) [] (aCons (eVar 19) (aCons (eVar 16) aNil))) aNil))))
    (sSeq (sAsg (tgN 17) (eLst aNil))
    (sSeq (sFor (iSeq (eVar 4)) (tgN 8) (sAsg (tgN 17) (e2 (pu2 dAdd) (eVar 17) (eVar 8))))
    (sRet (eAnd (eCall (callR 0 2 (m__law_same 40)) [] (aCons (eCall (callR 0 1 m_whole) [] (aCons (eVar 19) aNil)) (aCons (eVar 15) aNil))) (eCall (callR 0 2 (m__law_same 40)) [] (aCons (eVar 14) (aCons (eLst (aCons (e1 (fSeq dSetI) (eVar 17)) (aCons (e1 (fSeq dSetI) (e2 ixw (eVar 4) (eVar 10))) aNil))) aNil))))))))))))
def law4 : SD := (sSeq (sAsg (tgN 12) (eLst aNil))
    (sSeq (sFor (iSeq (eVar 4)) (tgN 8) (sAsg (tgN 12) (e2 (pu2 dAdd) (eVar 12) (eVar 8))))
    (sSeq (sAsg (tgN 13) (eLst (aCons (eLst (aCons (eVar 12) aNil)) (aCons (eLc finF (iSeq (eVar 12)) (tgN 22) tYesD (eLst (aCons (eVar 22) aNil)) [22]) (aCons (eSl true (eVar 4) (oSome (eC (.int 1))) oNone) (aCons (e2 (pu2 dAdd) (eVar 4) (eSl true (eVar 4) oNone (oSome (eC (.int 1))))) (aCons (eLc finF (iSeq (eVar 4)) (tgN 8) tYesD (eSl true (eVar 8) (oSome (eC (.int 1))) oNone) [8]) (aCons (eLc finF (iSeq (eVar 4)) (tgN 8) tYesD (e2 (pu2 dAdd) (eVar 8) (eSl true (eVar 8) oNone (oSome (eC (.int 1))))) [8]) aNil))))))))
    (sSeq (sFor (iSeq (eVar 13)) (tgN 9) (sIf (tAn (tb (eChain (pu2 dLt) (pu2 dLt) (eC (.int 0)) (eL (f1 lenw) (aCons (eVar 9) aNil)) (eC (.int 9)))) (tAn (tb (eChain (pu2 dLt) (pu2 dLt) (eC (.int 0)) (eL (f1 lenw) (aCons (e2 ixw (eVar 9) (eC (.int 0))) aNil)) (eC (.int 9)))) (tb (e2 (pu2 dNe) (eVar 9) (eVar 4))))) (sIf (tNt (tTru (eCall (callR 0 2 (m__law_same 40)) [] (aCons (e2 (ownw tTable (callR 0 2 m_TableU_eqU)) (eVar 19) (eCall (mkF tTable 2 m_TableU_initU) [] (aCons (eVar 9) aNil))) (aCons (eC (.bl false)) aNil))))) (sRet (eC (.bl false))) sNext) sNext))
    law5))))
def law3 : SD := (sSeq (sIf (tO (tNt (tTru (eCall (callR 0 2 (m__law_same 40)) [] (aCons (e1 (fldw [tTable] "rows") (eVar 19)) (aCons (eL (f1 tupw) (aCons (eLc finF (iSeq (eVar 4)) (tgN 8) tYesD (eL (f1 tupw) (aCons (eVar 8) aNil)) [8]) aNil)) aNil))))) (tNt (tTru (eCall (callR 0 2 (m__law_same 40)) [] (aCons (e2 (ownw tTable (callR 0 2 m_TableU_eqU)) (eVar 19) (eCall (mkF tTable 2 m_TableU_initU) [] (aCons (eVar 4) aNil))) (aCons (eC (.bl true)) aNil)))))) (sRet (eC (.bl false))) sNext)
    (sSeq (sAsg (tgN 9) (eLc finM (iSeq (eVar 4)) (tgN 8) tYesD (eL (f1 listwM) (aCons (eVar 8) aNil)) [8]))
    (sSeq (sAsg (tgN 10) (eCall (callR 1 2 m__law_draw) [] (aCons (eVar 1) (aCons (eL (f1 lenw) (aCons (eVar 4) aNil)) aNil))))
    (sSeq (sAsg (tgN 11) (eCall (callR 1 2 m__law_draw) [] (aCons (eVar 1) (aCons (eL (f1 lenw) (aCons (e2 ixw (eVar 4) (eC (.int 0))) aNil)) aNil))))
    (sSeq (sAsg (tgS (e2 ixw (eVar 9) (eVar 10)) (eVar 11)) (e2 (pu2 dMod) (eL (f1 (pu1 dInt)) (aCons (e2 (pu2 dAdd) (e2 ixw (e2 ixw (eVar 9) (eVar 10)) (eVar 11)) (eC (.int 1))) aNil)) (eC (.int 65536))))
    (sSeq (sIf (tNt (tTru (eCall (callR 0 2 (m__law_same 40)) [] (aCons (e2 (ownw tTable (callR 0 2 m_TableU_eqU)) (eVar 19) (eCall (mkF tTable 2 m_TableU_initU) [] (aCons (eVar 9) aNil))) (aCons (eC (.bl false)) aNil))))) (sRet (eC (.bl false))) sNext)
    (sSeq (sIf (tNt (tTru (eCall (callR 1 3 m__law_exchanged) [] (aCons (eVar 1) (aCons (eVar 19) (aCons (eVar 4) aNil)))))) (sRet (eC (.bl false))) sNext)
    law4)))))))
def law2b : SD := (sSeq (sTry (sAsg (tgN 19) (eSeal (eCall (mkA tTable 2 m_TableU_initU) [] (aCons (eVar 7) aNil)))) 20 (xTab [tBadTable] []) fun x => (sRet (eAnd (eTabX (xTab [tBadTable] []) x) (eAnd (eNot (eTabX (xTab [] [tBadTable]) x)) (eAnd (e2 (notN) (eVar 6) (eC .non)) (eCall (callR 0 2 mU__law_same) [] (aCons (eFldX tBadTable "what" x) (aCons (eVar 6) aNil))))))))
    (sSeq (sIf (tO (tb (e2 (notN) (eVar 6) (eC .non))) (tb (e2 (pu2 dNe) (eLc finF (iSeq (eVar 7)) (tgN 8) tYesD (eL (f1 listw) (aCons (eVar 8) aNil)) [8]) (eVar 4)))) (sRet (eC (.bl false))) sNext)
    (sSeq (sFor (iSeq (eVar 7)) (tgN 8) (sIf (tTru (e1 (isiw (isTb kLst tsOwn)) (eVar 8))) (sExpr (eLM lApp (eVar 8) (aCons (eC (.int 7)) aNil))) sNext))
    (sSeq (sIf (tTru (e1 (isiw (isTb kLst tsOwn)) (eVar 7))) (sExpr (eLM lApp (eVar 7) (aCons (eLst (aCons (eC (.int 7)) aNil)) aNil))) sNext)
    law3))))
def law2 : SD := (sSeq (sAsg (tgN 6) (eCall (callR 0 1 m__law_bad) [] (aCons (eVar 4) aNil)))
    (sSeq (sAsg (tgN 7) (eLc finM (iSeq (eVar 4)) (tgN 8) tYesD (e2 ixw (eTupM (aCons (eL (f1 listwM) (aCons (eVar 8) aNil)) (aCons (eL (f1 tupw) (aCons (eVar 8) aNil)) aNil))) (eCall (callR 1 2 m__law_draw) [] (aCons (eVar 1) (aCons (eC (.int 2)) aNil)))) [8]))
    (sSeq (sIf (tb (e2 (pu2 dEq) (eCall (callR 1 2 m__law_draw) [] (aCons (eVar 1) (aCons (eC (.int 2)) aNil))) (eC (.int 0)))) (sAsg (tgN 7) (eL (f1 tupwM) (aCons (eVar 7) aNil))) sNext)
    law2b)))
/-! ### the law: rows drawn in the store -/
theorem e_draw : m__law_draw = g_draw := rfl
theorem e_pool : m__law_pool = g_pool := rfl
theorem nat_of {i : Int} (h : 0 ≤ i) : ∃ n : Nat, i = (n : Int) := ⟨i.toNat, (Int.toNat_of_nonneg h).symm⟩
theorem max2 {i j : Int} : dMax2 (.int i) (.int j) = some (.int (if j > i then j else i)) := rfl
def rowO (x : List Int) : MO := .lst ((x.map D.int).map .d)
def rowF (x : List Int) : MO := .fz (.lst (x.map .int))
def refs (o n : Nat) : List Wv := (List.range n).map fun i => .m (o + i)
def stR (p : MO) (R : List (List Int)) : Sto := p :: .lst (refs 2 R.length) :: R.map rowO
def stF (p : MO) (R : List (List Int)) : Sto := p :: .fz (rowsL R) :: R.map rowF
theorem refs_len {o n : Nat} : (refs o n).length = n := by rw [refs, List.length_map, List.length_range]
theorem refs_get {o n i : Nat} (h : i < n) : (refs o n)[i]? = some (.m (o + i)) := by rw [refs, List.getElem?_map, List.getElem?_range h]; rfl
theorem refs_succ {o n : Nat} : refs o (n + 1) = refs o n ++ [.m (o + n)] := by rw [refs, List.range_succ, List.map_append]; rfl
theorem atI_get {α : Type} {l : List α} {i : Nat} {x : α} (h : l[i]? = some x) : L2.atI l (i : Int) = some x := by
  have hi : i < l.length := (List.getElem?_eq_some_iff.mp h).1
  unfold L2.atI
  rw [ixN_n hi, Option.bind_some, h]
theorem atI_last {α : Type} {l : List α} {n : Nat} {x : α} (hn : l.length = n + 1) (h : l[n]? = some x) : L2.atI l (-1) = some x := by
  unfold L2.atI L2.ixN
  rw [hn, if_neg (by decide), if_pos (by omega), Option.bind_some]
  have e : ((-1 : Int) + ((n + 1 : Nat) : Int)).toNat = n := by omega
  rw [e, h]
section
variable {p : MO} {R : List (List Int)} {i : Nat}
theorem st_row (h : i < R.length) : (stR p R)[2 + i]? = some (rowO R[i]) := by
  unfold stR
  rw [Nat.add_comm, List.getElem?_cons_succ, List.getElem?_cons_succ, List.getElem?_map, List.getElem?_eq_getElem h]
  rfl
theorem st_tbl : (stR p R)[1]? = some (.lst (refs 2 R.length)) := rfl
theorem st_set {x : List Int} : (stR p R).set (2 + i) (rowO x) = stR p (R.set i x) := by
  unfold stR
  rw [Nat.add_comm, List.set_cons_succ, List.set_cons_succ, List.length_set, List.map_set]
theorem st_app {x : List Int} : (stR p R ++ [rowO x]).set 1 (.lst (refs 2 R.length ++ [.m (2 + R.length)])) = stR p (R ++ [x]) := by
  unfold stR
  rw [List.cons_append, List.cons_append, List.set_cons_succ, List.set_cons_zero, List.length_append, List.length_singleton, refs_succ, List.map_append]
  rfl
theorem st_len : (stR p R).length = 2 + R.length := by
  unfold stR
  rw [List.length_cons, List.length_cons, List.length_map]
  omega
end
def LawEnd : PO := fun o _ => o = .rt (.d (.bl true))
def RowsB (R : List (List Int)) : Prop := R.length ≤ 10 ∧ ∀ r ∈ R, r.length ≤ 11
theorem RowsB.few {R : List (List Int)} (h : RowsB R) : few R := ⟨by have := h.1; omega, fun r hr => by have := h.2 r hr; omega⟩
theorem pick2 {α : Type} {a b : α} {v : Int} : L2.atI [a, b] (if decide (v = 0) = true then 1 else 0) = some (if v = 0 then b else a) := by
  by_cases h : v = 0
  · rw [decide_eq_true h, if_pos rfl, if_pos h]; rfl
  · rw [decide_eq_false h, if_neg (by decide), if_neg h]; rfl
/-! ### the rows sealed; what is passed -/
theorem refs_r {o n : Nat} : refs o n = (List.range' o n).map Wv.m := by
  have e : List.range' o n = (List.range n).map (o + ·) := by rw [List.range_eq_range', List.map_add_range', Nat.add_zero]
  rw [refs, e, List.map_map]
  rfl
theorem sealL_rows : ∀ (T : List (List Int)) (pre post : Sto) (o : Nat), pre.length = o → sealL (sealW 5) ((List.range' o T.length).map Wv.m) (pre ++ (T.map rowO ++ post)) = some (pre ++ (T.map rowF ++ post))
  | [], pre, post, o, h => rfl
  | r :: T, pre, post, o, h => by
    have hk : (pre ++ ((r :: T).map rowO ++ post))[o]? = some (.lst ((r.map D.int).map .d)) := by
      rw [List.getElem?_append_right (by omega), h, Nat.sub_self]
      rfl
    rw [List.length_cons, List.range'_succ, List.map_cons, sealL, seal_data hk, Option.bind_some]
    have e : (pre ++ ((r :: T).map rowO ++ post)).set o (.fz (.lst (r.map .int))) = (pre ++ [rowF r]) ++ (T.map rowO ++ post) := by
      rw [List.set_append_right _ _ (by omega), h, Nat.sub_self, List.append_assoc]
      rfl
    rw [e, sealL_rows T (pre ++ [rowF r]) post (o + 1) (by rw [List.length_append, h]; rfl), List.append_assoc]
    rfl
theorem nds_rows : ∀ (T : List (List Int)) (pre post : Sto) (o : Nat), pre.length = o → nds (pre ++ (T.map rowF ++ post)) ((List.range' o T.length).map Wv.m) = some (T.map fun r => .lst (r.map .int))
  | [], pre, post, o, h => rfl
  | r :: T, pre, post, o, h => by
    have hk : (pre ++ ((r :: T).map rowF ++ post))[o]? = some (rowF r) := by
      rw [List.getElem?_append_right (by omega), h, Nat.sub_self]
      rfl
    have ih := nds_rows T (pre ++ [rowF r]) post (o + 1) (by rw [List.length_append, h]; rfl)
    have e : (pre ++ [rowF r]) ++ (T.map rowF ++ post) = pre ++ ((r :: T).map rowF ++ post) := by rw [List.append_assoc]; rfl
    rw [e] at ih
    generalize hG : pre ++ ((r :: T).map rowF ++ post) = G at ih hk ⊢
    rw [List.length_cons, List.range'_succ, List.map_cons]
    show (match nd _ (Wv.m o), nds _ ((List.range' (o + 1) T.length).map Wv.m) with
      | some x, some l => some (x :: l)
      | _, _ => none) = _
    rw [ih, nd_fz hk]
    rfl
theorem seal_at {k : Nat} {M N : Sto} {ws : List Wv} {l : List D} (h : M[k]? = some (.lst ws)) (h1 : sealL (sealW 5) ws M = some N) (h2 : N[k]? = some (.lst ws)) (h3 : nds N ws = some l) : sealW 6 (.m k) M = some (.lst l, N.set k (.fz (.lst l))) := by
  show (match M[k]? with
    | some (.lst ws) => (sealL (sealW 5) ws M).bind fun M1 => fz1 k M1
    | some (.tup ws) => (sealL (sealW 5) ws M).bind fun M1 => fz1 k M1
    | some (.ins _ _ ws) => (sealL (sealW 5) ws M).bind fun M1 => fz1 k M1
    | some (.dic _ ws) => (sealL (sealW 5) ws M).bind fun M1 => fz1 k M1
    | _ => fz1 k M) = _
  simp only [h, h1, Option.bind_some]
  unfold fz1
  simp only [h2, h3]
  rfl
/-- rows that lie one behind the other, their list behind them -/
theorem seal_up {A : Sto} {R : List (List Int)} : sealW 6 (.m (A.length + R.length)) (A ++ (R.map rowO ++ [.lst (refs A.length R.length)])) = some (rowsL R, A ++ (R.map rowF ++ [.fz (rowsL R)])) := by
  have hk : ∀ f : List Int → MO, (A ++ (R.map f ++ [.lst (refs A.length R.length)]))[A.length + R.length]? = some (.lst (refs A.length R.length)) := fun f => by
    rw [List.getElem?_append_right (by omega), List.getElem?_append_right (by rw [List.length_map]; omega), List.length_map]
    rw [show A.length + R.length - A.length - R.length = 0 by omega]
    rfl
  rw [seal_at (hk rowO) (by rw [refs_r]; exact sealL_rows R A _ _ rfl) (hk rowF) (by rw [refs_r]; exact nds_rows R A _ _ rfl)]
  rw [List.set_append_right _ _ (by omega), List.set_append_right _ _ (by rw [List.length_map]; omega), List.length_map]
  rw [show A.length + R.length - A.length - R.length = 0 by omega]
  rfl
section
variable {p : MO} {R : List (List Int)} {rest : Sto}
theorem seal_tbl : sealW 6 (.m 1) (stR p R) = some (rowsL R, stF p R) := by
  have e : ∀ f : List Int → MO, [p, .lst (refs 2 R.length)] ++ (R.map f ++ []) = p :: .lst (refs 2 R.length) :: R.map f := fun f => by rw [List.append_nil]; rfl
  have h1 := sealL_rows R [p, .lst (refs 2 R.length)] [] 2 rfl
  have h2 := nds_rows R [p, .lst (refs 2 R.length)] [] 2 rfl
  rw [e, e, ← refs_r] at h1
  rw [e, ← refs_r] at h2
  exact seal_at (k := 1) (M := stR p R) (N := p :: .lst (refs 2 R.length) :: R.map rowF) rfl h1 rfl h2
theorem bad_call (h : few R) {P : PV} {E : PX} : (callR 0 1 m__law_bad [.m 1] (stR p R)).Is P E = P (.d (optD (bad R))) (stF p R) := by
  have e : preps 0 [.m 1] (stR p R) = some ([.d (rowsL R)], stF p R) := by
    unfold preps prep
    rw [if_neg (by show ¬ decide (1 < 0) = true; simp), seal_tbl]
    rfl
  unfold callR
  rw [if_pos (show [Wv.m 1].length = 1 from rfl), e]
  simp only [List.take_zero, Nat.zero_le, true_and, List.all_nil, if_true, lawbad h]
  rfl
theorem kSq_fz {k : Nat} {M : Sto} {l : List D} {P : Src → Sto → Prop} {E : PX} (h : M[k]? = some (.fz (.lst l))) : kSq P E (.m k) M = P (.its (l.map .d)) M := by
  show (srcw (.m k) M).Is P E = _
  unfold srcw
  rw [nw_fz h]
  rfl
end
/-- a row as it is passed: a list of the store or a tuple -/
def RowP (rest : Sto) (r : List Int) (w : Wv) : Prop := w = .d (.tup (r.map .int)) ∨ ∃ k, w = .m (2 + k) ∧ rest[k]? = some (rowO r)
theorem get2 {a b : MO} {rest : Sto} {k : Nat} : (a :: b :: rest)[2 + k]? = rest[k]? := by
  rw [Nat.add_comm, List.getElem?_cons_succ, List.getElem?_cons_succ]
theorem RowP.app {rest x : Sto} {r : List Int} {w : Wv} (h : RowP rest r w) : RowP (rest ++ x) r w := by
  rcases h with h | ⟨k, h1, h2⟩
  · exact .inl h
  · exact .inr ⟨k, h1, by rw [List.getElem?_append_left (List.getElem?_eq_some_iff.mp h2).1]; exact h2⟩
theorem RowP.row {a b : MO} {rest : Sto} {r : List Int} {w : Wv} (h : RowP rest r w) : RowW (a :: b :: rest) r w := by
  rcases h with rfl | ⟨k, rfl, h2⟩
  · exact ⟨false, rfl, fun _ => rfl⟩
  · exact ⟨true, seqw_m (by rw [get2]; exact h2), fun z => by cases z⟩
theorem law2_is (L2b : ∀ (q : MO) (R : List (List Int)) (rest : Sto) (kp : Nat) (b : Bool) (ws : List Wv) (sc : D) (c w : Int) (x5 x8 x16 x18 x21 : Option Wv), PoolIs q → RowsB R → rest[kp]? = some (if b = true then .lst ws else .tup ws) → ws.length = R.length →
    (∀ (i : Nat) (w : Wv) (r : List Int), ws[i]? = some w → R[i]? = some r → RowP rest r w ∧ w ≠ .m (2 + kp)) →
    (law2b [some (.d sc), some (.m 0), some (.d (.int c)), some (.d (.int w)), some (.m 1), x5, some (.d (optD (bad R))), some (.m (2 + kp)), x8, none, none, none, none, none, none, none, x16, none, x18, none, none, x21, none] (q :: .fz (rowsL R) :: rest)).Is LawEnd nox) :
    ∀ (p : MO) (R : List (List Int)) (sc : D) (c w : Int) (x5 x8 x16 x18 x21 : Option Wv), PoolIs p → RowsB R →
    (law2 [some (.d sc), some (.m 0), some (.d (.int c)), some (.d (.int w)), some (.m 1), x5, none, none, x8, none, none, none, none, none, none, none, x16, none, x18, none, none, x21, none] (stR p R)).Is LawEnd nox := by
  intro p R sc c w x5 x8 x16 x18 x21 hp hB
  have src : ∀ (P : Src → Sto → Prop) (E : PX), kSq P E (.m 1) (stF p R) = P (.its ((R.map fun r => D.lst (r.map .int)).map .d)) (stF p R) := fun P E => kSq_fz rfl
  have size : 1000 ≤ sizeLine := by decide
  have h10 := hB.1
  rw [law2]
  simp! [bad_call hB.few, src]
  refine kcS (ws := (R.map fun r => D.lst (r.map .int)).map .d) (fun i acc M => ∃ q rest, PoolIs q ∧ M = q :: .fz (rowsL R) :: rest ∧ acc.length = i ∧ ∀ (j : Nat) (w : Wv) (r : List Int), acc[j]? = some w → R[j]? = some r → RowP rest r w) (fun _ _ _ _ => rfl) (by rw [List.length_map, List.length_map]; omega) ⟨p, R.map rowF, hp, rfl, rfl, fun j w r h => by cases h⟩ (fun i u acc M hu hI => ?_) fun acc M hI => ?_
  · obtain ⟨q, rest, hq, rfl, hl, hA⟩ := hI
    obtain ⟨r, hr, rfl⟩ : ∃ r, R[i]? = some r ∧ u = .d (.lst (r.map .int)) := by
      rw [List.getElem?_map, List.getElem?_map] at hu
      cases e : R[i]? with
      | none => rw [e] at hu; cases hu
      | some r => rw [e] at hu; cases hu; exact ⟨r, rfl, rfl⟩
    have lm : ∀ (M : Sto) (P : PV) (E : PX), (listwM (.d (.lst (r.map .int))) M).Is P E = P (.m M.length) (M ++ [rowO r]) := fun M P E => listM_q seqw_lst1
    have z2 : 2 ≤ sizeLine := by omega
    simp! [y_tgN, y_tupM, kTupM_ap, lm, e_draw, z2]
    refine draw1 (s := 2) (by decide) (by decide) hq fun v q1 v0 v1 hq1 => ?_
    have step : ∀ w, RowP ((rest ++ [rowO r]) ++ [MO.tup [.m (rest.length + 1 + 1), .d (.tup (r.map .int))]]) r w → ∃ q2 rest2, PoolIs q2 ∧ q1 :: MO.fz (rowsL R) :: ((rest ++ [rowO r]) ++ [MO.tup [.m (rest.length + 1 + 1), .d (.tup (r.map .int))]]) = q2 :: .fz (rowsL R) :: rest2 ∧ (acc ++ [w]).length = i + 1 ∧ ∀ (j : Nat) (w' : Wv) (r : List Int), (acc ++ [w])[j]? = some w' → R[j]? = some r → RowP rest2 r w' := fun w hw => by
      refine ⟨q1, _, hq1, rfl, by rw [List.length_append, hl]; rfl, fun j w' r' h1 h2 => ?_⟩
      by_cases hj : j < acc.length
      · rw [List.getElem?_append_left hj] at h1
        exact ((hA j w' r' h1 h2).app).app
      · have : j = acc.length := by
          have := (List.getElem?_eq_some_iff.mp h1).1
          rw [List.length_append, List.length_singleton] at this
          omega
        subst this
        rw [List.getElem?_append_right (Nat.le_refl _), Nat.sub_self] at h1
        cases h1
        rw [hl, hr] at h2
        cases h2
        exact hw
    have hget : (q1 :: MO.fz (rowsL R) :: ((rest ++ [rowO r]) ++ [MO.tup [.m (rest.length + 1 + 1), .d (.tup (r.map .int))]]))[(rest ++ [rowO r]).length + 1 + 1]? = some (.tup [.m (rest.length + 1 + 1), .d (.tup (r.map .int))]) := by
      rw [List.getElem?_cons_succ, List.getElem?_cons_succ, List.getElem?_append_right (Nat.le_refl _), Nat.sub_self]
      rfl
    rcases (by omega : v = 0 ∨ v = 1) with rfl | rfl
    · rw [kE3_ap, ix_q (seqw_t hget) at0]
      refine step _ (.inr ⟨rest.length, by rw [Nat.add_comm 2], ?_⟩)
      rw [List.append_assoc, List.getElem?_append_right (Nat.le_refl _), Nat.sub_self]
      rfl
    · rw [kE3_ap, ix_q (seqw_t hget) at1]
      exact step _ (.inl rfl)
  · obtain ⟨q, rest, hq, rfl, hl, hA⟩ := hI
    rw [List.length_map, List.length_map] at hl
    simp! [e_draw]
    refine draw1 (s := 2) (by decide) (by decide) hq fun v q1 v0 v1 hq1 => ?_
    have e1 : rest.length + 1 + 1 = 2 + rest.length := by omega
    have hg : (q1 :: MO.fz (rowsL R) :: (rest ++ [MO.lst acc]))[2 + rest.length]? = some (.lst acc) := by
      rw [get2, List.getElem?_append_right (Nat.le_refl _), Nat.sub_self]
      rfl
    have hlt : ∀ k (x : MO), rest[k]? = some x → k < rest.length := fun k x h => (List.getElem?_eq_some_iff.mp h).1
    have fin0 := fun x8 => L2b q1 R (rest ++ [.lst acc]) rest.length true acc sc c w x5 x8 x16 x18 x21 hq1 hB (by rw [List.getElem?_append_right (Nat.le_refl _), Nat.sub_self]; rfl) hl (fun i w r h1 h2 => ⟨(hA i w r h1 h2).app, fun z => by
      rcases hA i w r h1 h2 with h | ⟨k, h, h3⟩
      · rw [h] at z; cases z
      · rw [h] at z
        have := hlt k _ h3
        have := Wv.m.inj z
        omega⟩)
    have fin1 := fun x8 => L2b q1 R ((rest ++ [.lst acc]) ++ [.tup acc]) (rest ++ [MO.lst acc]).length false acc sc c w x5 x8 x16 x18 x21 hq1 hB (by rw [List.getElem?_append_right (Nat.le_refl _), Nat.sub_self]; rfl) hl (fun i w r h1 h2 => ⟨((hA i w r h1 h2).app).app, fun z => by
      rcases hA i w r h1 h2 with h | ⟨k, h, h3⟩
      · rw [h] at z; cases z
      · rw [h] at z
        have := hlt k _ h3
        have := Wv.m.inj z
        rw [List.length_append, List.length_singleton] at this
        omega⟩)
    have e2 : (rest ++ [MO.lst acc]).length + 1 + 1 = 2 + (rest ++ [MO.lst acc]).length := by omega
    by_cases hv : v = 0
    · simp! [e1, decide_eq_true hv, tupM_q (seqw_m hg), e2]
      exact fin1 _
    · simp! [e1, decide_eq_false hv]
      exact fin0 _
theorem sameU_str {s : Str} (h : PyData.strOk s = true) {M : Sto} : callR 0 2 mU__law_same [.d (.str s), .d (.str s)] M = .ok (.d (.bl true)) M := by
  refine call0 (xs := [.str s, .str s]) rfl ?_
  refine is_eq ?_
  rw [mU__law_same, y_fnD, bU__law_same]
  simp! [eq_str h h]
theorem bad_ok {R : List (List Int)} {s : Str} (h : bad R = some s) : PyData.strOk s = true := by
  unfold bad at h
  split at h
  · cases h; decide +kernel
  · split at h
    · cases h; decide +kernel
    · split at h
      · cases h; decide +kernel
      · cases h
def seqO (b : Bool) (ws : List Wv) : MO := if b = true then .lst ws else .tup ws
def seqS (b : Bool) (k : Nat) : Src := if b = true then .live k else .liveT k
section
variable {M : Sto} {k : Nat} {b : Bool} {ws : List Wv}
theorem seqw_b (h : M[k]? = some (seqO b ws)) : seqw M (.m k) = some (b, ws) := by
  cases b with
  | true => exact seqw_m h
  | false => exact seqw_t h
theorem at_b (h : M[k]? = some (seqO b ws)) : (seqS b k).at M = some ws := by
  cases b with
  | true => show (match M[k]? with | some (.lst us) => some us | _ => none) = _; rw [h]; rfl
  | false => show (match M[k]? with | some (.tup us) => some us | _ => none) = _; rw [h]; rfl
theorem kSq_b {P : Src → Sto → Prop} {E : PX} (h : M[k]? = some (seqO b ws)) : kSq P E (.m k) M = P (seqS b k) M := by
  cases b with
  | true => exact kSq_m h
  | false =>
    show (srcw (.m k) M).Is P E = _
    unfold srcw
    rw [nw_t h]
    simp only [h, seqO]
    rfl
theorem isL_b {P : PV} {E : PX} (h : M[k]? = some (seqO b ws)) : (isiw (isTb kLst tsOwn) (.m k) M).Is P E = P (.d (.bl b)) M := by
  cases b with
  | true => exact isi_k (x := .lst []) (by unfold kdw; rw [nw_m h]; simp only [h, seqO]; rfl) rfl
  | false => exact isi_k (x := .tup []) (by unfold kdw; rw [nw_t h]; simp only [h, seqO]; rfl) rfl
end
theorem set2 {a b x : MO} {rest : Sto} {k : Nat} : (a :: b :: rest).set (2 + k) x = a :: b :: rest.set k x := by
  rw [Nat.add_comm, List.set_cons_succ, List.set_cons_succ]
theorem law2b_is (L3 : ∀ (q : MO) (R : List (List Int)) (rest : Sto) (kp : Nat) (sc : D) (c w : Int) (x5 x8 x16 x18 x21 : Option Wv), PoolIs q → RowsB R → bad R = none →
    (law3 [some (.d sc), some (.m 0), some (.d (.int c)), some (.d (.int w)), some (.m 1), x5, some (.d .non), some (.m (2 + kp)), x8, none, none, none, none, none, none, none, x16, none, x18, some (.d (tabD tTable R)), none, x21, none] (q :: .fz (rowsL R) :: rest)).Is LawEnd nox) :
    ∀ (q : MO) (R : List (List Int)) (rest : Sto) (kp : Nat) (b : Bool) (ws : List Wv) (sc : D) (c w : Int) (x5 x8 x16 x18 x21 : Option Wv), PoolIs q → RowsB R → rest[kp]? = some (if b = true then .lst ws else .tup ws) → ws.length = R.length →
    (∀ (i : Nat) (w : Wv) (r : List Int), ws[i]? = some w → R[i]? = some r → RowP rest r w ∧ w ≠ .m (2 + kp)) →
    (law2b [some (.d sc), some (.m 0), some (.d (.int c)), some (.d (.int w)), some (.m 1), x5, some (.d (optD (bad R))), some (.m (2 + kp)), x8, none, none, none, none, none, none, none, x16, none, x18, none, none, x21, none] (q :: .fz (rowsL R) :: rest)).Is LawEnd nox := by
  intro q R rest kp b ws sc c w x5 x8 x16 x18 x21 hq hB hkp hn hP
  have hkp : rest[kp]? = some (seqO b ws) := hkp
  have size : 1000 ≤ sizeLine := by decide
  have h10 := hB.1
  have happ : ∀ x : MO, (rest ++ [x])[kp]? = some (seqO b ws) := fun x => by rw [List.getElem?_append_left (List.getElem?_eq_some_iff.mp hkp).1]; exact hkp
  rw [law2b]
  simp! [DL.is_ok]
  refine mkA01 hB.few (seqw_b (ws := ws) (b := b) (by rw [List.cons_append, List.cons_append, get2]; exact happ _)) ⟨hn, fun i w r h1 h2 => ((hP i w r h1 h2).1.app).row⟩ (fun s hs => ?_) fun hs => ?_
  · have t1 : xTab [tBadTable] [] tBadTable = some true := by decide
    have t2 : xTab [] [tBadTable] tBadTable = some false := by decide
    simp! [DL.is_ok]
    rw [try_xc (by exact t1) (show 20 < 23 from by decide)]
    simp! [tabX_is (k := true) t1, tabX_is (k := false) t2, fldX1, hs, optD, sameU_str (bad_ok hs)]
    rfl
  · rw [hs]
    generalize hM : q :: MO.fz (rowsL R) :: rest = M at *
    have hMx : M ++ [MO.fz (tabD tTable R)] = q :: MO.fz (rowsL R) :: (rest ++ [MO.fz (tabD tTable R)]) := by rw [← hM]; rfl
    rw [seal_to seal_tab, hMx]
    have hk0 : (q :: MO.fz (rowsL R) :: (rest ++ [MO.fz (tabD tTable R)]))[2 + kp]? = some (seqO b ws) := by rw [get2]; exact happ _
    have src : ∀ (P : Src → Sto → Prop) (E : PX), kSq P E (.m (2 + kp)) (q :: MO.fz (rowsL R) :: (rest ++ [MO.fz (tabD tTable R)])) = P (seqS b (2 + kp)) (q :: MO.fz (rowsL R) :: (rest ++ [MO.fz (tabD tTable R)])) := fun P E => kSq_b hk0
    simp! [optD, src]
    refine kcQ (at_b hk0) (R.map fun r => .lst (r.map .int)) (by rw [List.length_map, hn]) (by omega) (fun i u d h3 h4 => ?_) ?_
    · obtain ⟨r, hr3, rfl⟩ : ∃ r, R[i]? = some r ∧ d = .lst (r.map .int) := by
        rw [List.getElem?_map] at h4
        cases e : R[i]? with
        | none => rw [e] at h4; cases h4
        | some r => rw [e] at h4; cases h4; exact ⟨r, rfl, rfl⟩
      obtain ⟨b1, q3, q4⟩ := ((hP i u r h3 hr3).1.app (x := [MO.fz (tabD tTable R)])).row (a := q) (b := .fz (rowsL R))
      have t1 : ∀ (P : PV) (E : PX), (listw u (q :: MO.fz (rowsL R) :: (rest ++ [MO.fz (tabD tTable R)]))).Is P E = P (.d (.lst (r.map .int))) (q :: MO.fz (rowsL R) :: (rest ++ [MO.fz (tabD tTable R)])) := fun P E => list_q q3
      simp! [y_tgN, t1]
    · have ne1 : ∀ (P : PV) (E : PX), (pu2 dNe (.d (.lst (R.map fun r => .lst (r.map .int)))) (.m 1) (q :: MO.fz (rowsL R) :: (rest ++ [MO.fz (tabD tTable R)]))).Is P E = P (.d (.bl false)) (q :: MO.fz (rowsL R) :: (rest ++ [MO.fz (tabD tTable R)])) := fun P E => by
        have e1 : nd (q :: MO.fz (rowsL R) :: (rest ++ [MO.fz (tabD tTable R)])) (.m 1) = some (rowsL R) := rfl
        have e2 := neL hB.few hB.few
        rw [decide_eq_true rfl] at e2
        unfold pu2
        rw [nd_d, e1, Option.bind_some, Option.bind_some]
        show (rsd _ (dNe (rowsL R) (rowsL R))).Is P E = _
        rw [e2]
        rfl
      simp! [ne1, src, kFor_q (at_b hk0)]
      refine forS_is (fun i env M => ∃ rest' x8, M = q :: .fz (rowsL R) :: rest' ∧ rest'[kp]? = some (seqO b ws) ∧ (∀ (j : Nat) (w : Wv), ws[j]? = some w → (∃ l, w = .d (.tup l)) ∨ ∃ k l, w = .m (2 + k) ∧ k ≠ kp ∧ rest'[k]? = some (.lst l) ∧ l.length ≤ 100 + i) ∧
        env = [some (.d sc), some (.m 0), some (.d (.int c)), some (.d (.int w)), some (.m 1), x5, some (.d .non), some (.m (2 + kp)), x8, none, none, none, none, none, none, none, x16, none, x18, some (.d (tabD tTable R)), none, x21, none]) (fun i env M hI => ?_) (fun i u env M hu hI => ?_) (fun env M hI => ?_) _ _ _ _ (by rw [Nat.zero_add]) ⟨_, x8, rfl, happ _, fun j u hu => ?_, rfl⟩
      · obtain ⟨rest', x8, rfl, h1, _, _⟩ := hI
        exact at_b (by rw [get2]; exact h1)
      · obtain ⟨rest', x8, rfl, h1, h2, rfl⟩ := hI
        have hi : i < 20 := by
          have := (List.getElem?_eq_some_iff.mp hu).1
          omega
        rcases h2 i u hu with ⟨l, rfl⟩ | ⟨k, l, rfl, hk, hl, hz⟩
        · have t1 : ∀ (P : PV) (E : PX) (M : Sto), (isiw (isTb kLst tsOwn) (.d (.tup l)) M).Is P E = P (.d (.bl false)) M := fun P E M => rfl
          simp! [y_tgN, t1]
          exact ⟨rest', _, rfl, h1, fun j w hw => (h2 j w hw).imp (fun z => z) (fun ⟨k, l, a1, a2, a3, a4⟩ => ⟨k, l, a1, a2, a3, by omega⟩), rfl⟩
        · have hg : (q :: MO.fz (rowsL R) :: rest')[2 + k]? = some (.lst l) := by rw [get2]; exact hl
          have t1 : ∀ (P : PV) (E : PX), (isiw (isTb kLst tsOwn) (.m (2 + k)) (q :: MO.fz (rowsL R) :: rest')).Is P E = P (.d (.bl true)) (q :: MO.fz (rowsL R) :: rest') := fun P E => isL_b (b := true) hg
          have zl : (l ++ [Wv.d (.int 7)]).length ≤ sizeLine := by rw [List.length_append, List.length_singleton]; omega
          simp! [y_tgN, t1, lst_m hg, Option.isSome_some, zl, set2]
          refine ⟨_, _, rfl, by rw [List.getElem?_set_ne hk]; exact h1, fun j w hw => ?_, rfl⟩
          rcases h2 j w hw with z | ⟨k2, l2, a1, a2, a3, a4⟩
          · exact .inl z
          · refine .inr ?_
            by_cases e : k2 = k
            · subst e
              rw [hl] at a3
              cases a3
              exact ⟨k2, _, a1, a2, List.getElem?_set_self (List.getElem?_eq_some_iff.mp hl).1, by rw [List.length_append, List.length_singleton]; omega⟩
            · exact ⟨k2, l2, a1, a2, by rw [List.getElem?_set_ne (Ne.symm e)]; exact a3, by omega⟩
      · obtain ⟨rest', x8, rfl, h1, h2, rfl⟩ := hI
        have hg : (q :: MO.fz (rowsL R) :: rest')[2 + kp]? = some (seqO b ws) := by rw [get2]; exact h1
        have t1 : ∀ (P : PV) (E : PX), (isiw (isTb kLst tsOwn) (.m (2 + kp)) (q :: MO.fz (rowsL R) :: rest')).Is P E = P (.d (.bl b)) (q :: MO.fz (rowsL R) :: rest') := fun P E => isL_b hg
        cases b with
        | true =>
          have zl : (ws ++ [Wv.d (.lst [.int 7])]).length ≤ sizeLine := by rw [List.length_append, List.length_singleton]; omega
          have z1 : 1 ≤ sizeLine := by omega
          simp! [t1, lst_m (ws := ws) hg, Option.isSome_some, zl, z1, set2]
          exact L3 q R _ kp sc c w x5 x8 x16 x18 x21 hq hB hs
        | false =>
          simp! [t1]
          exact L3 q R _ kp sc c w x5 x8 x16 x18 x21 hq hB hs
      · have hj : j < R.length := by
          have := (List.getElem?_eq_some_iff.mp hu).1
          omega
        obtain ⟨h1, h2⟩ := hP j u R[j] hu (List.getElem?_eq_getElem hj)
        have h3 := hB.2 _ (List.getElem_mem hj)
        rcases h1 with z | ⟨k, z1, z2⟩
        · exact .inl ⟨_, z⟩
        · exact .inr ⟨k, _, z1, fun z => h2 (by rw [z1, z]), by rw [List.getElem?_append_left (List.getElem?_eq_some_iff.mp z2).1]; exact z2, by rw [List.length_map, List.length_map]; omega⟩
theorem e_same : m__law_same = g_same tsOwn := by
  funext n
  induction n with
  | zero => rfl
  | succ n ih => rw [m__law_same, g_same, ih]; rfl
/-! ### good rows -/
structure Good (S : List (List Int)) : Prop where
  pos : 0 < S.length
  lt : S.length < 9
  wid : ∃ c, 0 < c ∧ c < 9 ∧ ∀ r ∈ S, r.length = c
  val : ∀ r ∈ S, ∀ v ∈ r, 0 ≤ v ∧ v ≤ 65535
theorem Good.few {S : List (List Int)} (h : Good S) : few S := by
  obtain ⟨c, _, h2, h3⟩ := h.wid
  exact ⟨by have := h.lt; omega, fun r hr => by rw [h3 r hr]; omega⟩
theorem good_of {S : List (List Int)} (h : bad S = none) : Good S := by
  unfold bad at h
  split at h
  · cases h
  · rename_i h1
    have h1 : 0 < S.length ∧ S.length < 9 := Classical.byContradiction h1
    split at h
    · cases h
    · rename_i h2
      split at h
      · cases h
      · rename_i h3
        obtain ⟨r0, T, rfl⟩ : ∃ r0 T, S = r0 :: T := by
          cases S with
          | nil => exact absurd h1.1 (by decide)
          | cons a b => exact ⟨a, b, rfl⟩
        have h4 : ∀ r ∈ r0 :: T, r.length = r0.length ∧ 0 < r.length ∧ r.length < 9 := fun r hr => by
          refine Classical.byContradiction fun z => h2 (List.any_eq_true.mpr ⟨r, hr, ?_⟩)
          by_cases e : r.length = r0.length
          · rw [decide_eq_false (fun (q : 0 < r.length ∧ r.length < 9) => z ⟨e, q⟩), Bool.not_false, Bool.or_true]
          · rw [decide_eq_true (show r.length ≠ ((r0 :: T).headD []).length from e), Bool.true_or]
        refine ⟨h1.1, h1.2, ⟨r0.length, (h4 r0 (List.mem_cons_self ..)).2.1, (h4 r0 (List.mem_cons_self ..)).2.2, fun r hr => (h4 r hr).1⟩, fun r hr v hv => Classical.byContradiction fun z => h3 (List.any_eq_true.mpr ⟨r, hr, List.any_eq_true.mpr ⟨v, hv, ?_⟩⟩)⟩
        rw [decide_eq_false z]
        rfl
theorem Good.ok {S : List (List Int)} (h : Good S) : bad S = none := by
  obtain ⟨c, c1, c2, c3⟩ := h.wid
  unfold bad
  rw [if_neg (fun z => z ⟨h.pos, h.lt⟩)]
  have hh : S.headD [] ∈ S := by
    cases S with
    | nil => exact absurd h.pos (by decide)
    | cons a b => exact List.mem_cons_self ..
  rw [if_neg (fun z => ?_), if_neg (fun z => ?_)]
  · obtain ⟨r, hr, z⟩ := List.any_eq_true.mp z
    obtain ⟨v, hv, z⟩ := List.any_eq_true.mp z
    rw [decide_eq_true (h.val r hr v hv)] at z
    cases z
  · obtain ⟨r, hr, z⟩ := List.any_eq_true.mp z
    rw [c3 r hr, c3 _ hh, decide_eq_true (And.intro c1 c2), decide_eq_false (fun (q : c ≠ c) => q rfl)] at z
    cases z
theorem Good.set {S : List (List Int)} (h : Good S) {i j : Nat} {v : Int} (hi : i < S.length) (h0 : 0 ≤ v ∧ v ≤ 65535) : Good (S.set i (S[i].set j v)) := by
  obtain ⟨c, c1, c2, c3⟩ := h.wid
  refine ⟨by rw [List.length_set]; exact h.pos, by rw [List.length_set]; exact h.lt, ⟨c, c1, c2, fun r hr => ?_⟩, fun r hr x hx => ?_⟩
  · rcases List.mem_or_eq_of_mem_set hr with h2 | h2
    · exact c3 r h2
    · rw [h2, List.length_set]; exact c3 _ (List.getElem_mem hi)
  · rcases List.mem_or_eq_of_mem_set hr with h2 | h2
    · exact h.val r h2 x hx
    · rw [h2] at hx
      rcases List.mem_or_eq_of_mem_set hx with h3 | h3
      · exact h.val _ (List.getElem_mem hi) x h3
      · rw [h3]; exact h0
/-! calls with frozen lists -/
theorem seal_fz {k : Nat} {M : Sto} {x : D} {f : Nat} (h : M[k]? = some (.fz x)) : sealW (f + 1) (.m k) M = some (x, M) := by
  show (match M[k]? with
    | some (.lst ws) => (sealL (sealW f) ws M).bind fun M1 => fz1 k M1
    | some (.tup ws) => (sealL (sealW f) ws M).bind fun M1 => fz1 k M1
    | some (.ins _ _ ws) => (sealL (sealW f) ws M).bind fun M1 => fz1 k M1
    | some (.dic _ ws) => (sealL (sealW f) ws M).bind fun M1 => fz1 k M1
    | _ => fz1 k M) = _
  simp only [h]
  unfold fz1
  simp only [h]
theorem mkF_pre {t m k : Nat} {f : FD} {x : D} {M M2 : Sto} (h : sealW 6 (.m k) M = some (x, M2)) : mkF t m f [.m k] M = mkF t m f [.d x] M2 := by
  have e1 : preps 0 [.m k] M = some ([.d x], M2) := by
    unfold preps prep
    rw [if_neg (by show ¬ decide (k < 0) = true; simp), h]
    rfl
  have e2 : preps 0 [.d x] M2 = some ([.d x], M2) := preps_d 0 [x] M2
  unfold mkF
  rw [e1, e2]
  rfl
theorem mkm {R : List (List Int)} {k : Nat} {M M2 : Sto} (hg : Good R) (h : sealW 6 (.m k) M = some (rowsL R, M2)) : mkF tTable 2 m_TableU_initU [.m k] M = .ok (.d (tabD tTable R)) M2 := by
  rw [mkF_pre h]
  exact mk01 hg.few hg.ok
theorem ix_fz {k : Nat} {M : Sto} {l : List D} {i : Nat} {d : D} {P : PV} {E : PX} (h : M[k]? = some (.fz (.lst l))) (hi : l[i]? = some d) : (ixw (.m k) (.d (.int (i : Int))) M).Is P E = P (.d d) M :=
  ix_q (seqw_fz h) (atI_get (by rw [List.getElem?_map, hi]; rfl))
theorem kTs2_at {k j : Nat} {w : Wv} {ws : List Wv} {env : Ev} {Q : Ev → Sto → Prop} {M : Sto} (h : M[k]? = some (.lst ws)) (hj : j < ws.length) : kTs2 (.m k) w env Q (.d (.int (j : Int))) M = Q env (M.set k (.lst (ws.set j w))) := by
  rw [kTs2_ap, lst_m h, kTs3_some, ixN_n hj, oo_some, kTs4_ap]
/-! rows behind others -/
def stX (q z : MO) (rest : Sto) (S : List (List Int)) : Sto := q :: z :: (rest ++ (S.map rowO ++ [.lst (refs (2 + rest.length) S.length)]))
section
variable {q z : MO} {rest : Sto} {S : List (List Int)} {i : Nat}
theorem x_row (h : i < S.length) : (stX q z rest S)[2 + (rest.length + i)]? = some (rowO S[i]) := by
  unfold stX
  rw [get2, List.getElem?_append_right (by omega), List.getElem?_append_left (by rw [List.length_map]; omega), List.getElem?_map]
  rw [show rest.length + i - rest.length = i by omega, List.getElem?_eq_getElem h]
  rfl
theorem x_tbl : (stX q z rest S)[2 + (rest.length + S.length)]? = some (.lst (refs (2 + rest.length) S.length)) := by
  unfold stX
  rw [get2, List.getElem?_append_right (by omega), List.getElem?_append_right (by rw [List.length_map]; omega), List.length_map]
  rw [show rest.length + S.length - rest.length - S.length = 0 by omega]
  rfl
theorem x_set {r : List Int} (h : i < S.length) : (stX q z rest S).set (2 + (rest.length + i)) (rowO r) = stX q z rest (S.set i r) := by
  unfold stX
  rw [set2, List.set_append_right _ _ (by omega), List.set_append_left _ _ (by rw [List.length_map]; omega), List.length_set, List.map_set]
  rw [show rest.length + i - rest.length = i by omega]
theorem x_seal : sealW 6 (.m (2 + (rest.length + S.length))) (stX q z rest S) = some (rowsL S, q :: z :: (rest ++ (S.map rowF ++ [.fz (rowsL S)]))) := by
  have h := seal_up (A := q :: z :: rest) (R := S)
  have e : (q :: z :: rest).length + S.length = 2 + (rest.length + S.length) := by rw [List.length_cons, List.length_cons]; omega
  have e2 : (q :: z :: rest).length = 2 + rest.length := by rw [List.length_cons, List.length_cons]; omega
  rw [e, e2] at h
  exact h
end
theorem same_d {n : Nat} {x : D} {M : Sto} (h : dat n x) (hn : n < 40) : callR 0 2 (g_same tsOwn 40) [.d x, .d x] M = .ok (.d (.bl true)) M := same_call (dat_plain h) hn
theorem same_b {b : Bool} {M : Sto} : callR 0 2 (g_same tsOwn 40) [.d (.bl b), .d (.bl b)] M = .ok (.d (.bl true)) M := same_call (n := 0) trivial (by decide)
theorem law3_is (EX : ∀ (q : MO) (R : List (List Int)) (rest : Sto) (P : PV) (E : PX), PoolIs q → Good R → (∀ q', PoolIs q' → P (.d (.bl true)) (q' :: .fz (rowsL R) :: rest)) → (callR 1 3 m__law_exchanged [.m 0, .d (tabD tTable R), .m 1] (q :: .fz (rowsL R) :: rest)).Is P E)
    (L4 : ∀ (q : MO) (R : List (List Int)) (rest : Sto) (pl : Nat) (sc : D) (c w : Int) (x5 x7 x8 x9 x11 x16 x18 x21 : Option Wv), PoolIs q → Good R → pl < R.length →
    (law4 [some (.d sc), some (.m 0), some (.d (.int c)), some (.d (.int w)), some (.m 1), x5, some (.d .non), x7, x8, x9, some (.d (.int (pl : Int))), x11, none, none, none, none, x16, none, x18, some (.d (tabD tTable R)), none, x21, none] (q :: .fz (rowsL R) :: rest)).Is LawEnd nox) :
    ∀ (q : MO) (R : List (List Int)) (rest : Sto) (kp : Nat) (sc : D) (c w : Int) (x5 x8 x16 x18 x21 : Option Wv), PoolIs q → RowsB R → bad R = none →
    (law3 [some (.d sc), some (.m 0), some (.d (.int c)), some (.d (.int w)), some (.m 1), x5, some (.d .non), some (.m (2 + kp)), x8, none, none, none, none, none, none, none, x16, none, x18, some (.d (tabD tTable R)), none, x21, none] (q :: .fz (rowsL R) :: rest)).Is LawEnd nox := by
  intro q R rest kp sc c w x5 x8 x16 x18 x21 hq _ hbad
  have hG := good_of hbad
  have size : 1000 ≤ sizeLine := by decide
  have h9 := hG.lt
  have h0 := hG.pos
  obtain ⟨cw, cw1, cw2, cw3⟩ := hG.wid
  obtain ⟨n, hN⟩ : ∃ n, R.length = n := ⟨_, rfl⟩
  have src : ∀ (q : MO) (rest : Sto) (P : Src → Sto → Prop) (E : PX), kSq P E (.m 1) (q :: .fz (rowsL R) :: rest) = P (.its ((R.map fun r => D.lst (r.map .int)).map .d)) (q :: .fz (rowsL R) :: rest) := fun q rest P E => kSq_fz rfl
  have mk1 : ∀ (q : MO) (rest : Sto), mkF tTable 2 m_TableU_initU [.m 1] (q :: .fz (rowsL R) :: rest) = .ok (.d (tabD tTable R)) (q :: .fz (rowsL R) :: rest) := fun q rest => mkm hG (seal_fz rfl)
  have lenR : ∀ (q : MO) (rest : Sto) (P : PV) (E : PX), (lenw (.m 1) (q :: .fz (rowsL R) :: rest)).Is P E = P (.d (.int (n : Int))) (q :: .fz (rowsL R) :: rest) := fun q rest P E => by rw [len_q (seqw_fz rfl), List.length_map, List.length_map, hN]
  obtain ⟨r0, hr0⟩ : ∃ r0, R[0]? = some r0 := ⟨_, List.getElem?_eq_getElem hG.pos⟩
  have hr0l : r0.length = cw := cw3 _ (List.mem_of_getElem? hr0)
  have ix0 : ∀ (q : MO) (rest : Sto) (P : PV) (E : PX), (ixw (.m 1) (.d (.int 0)) (q :: .fz (rowsL R) :: rest)).Is P E = P (.d (.lst (r0.map .int))) (q :: .fz (rowsL R) :: rest) := fun q rest P E => ix_fz (i := 0) (l := R.map fun r => D.lst (r.map .int)) rfl (by rw [List.getElem?_map, hr0]; rfl)
  rw [law3]
  have c1 : ∀ (M : Sto) (P : PV) (E : PX), (tupw (.d (.lst (R.map fun r => .tup (r.map .int)))) M).Is P E = P (.d (rowsT R)) M := fun M P E => tup_q seqw_lst1 (fun z => by cases z)
  simp! [tab_rows, src]
  refine kcD R (fun r => .lst (r.map .int)) (fun r => .tup (r.map .int)) (by omega) (fun r hr => ?_) ?_
  · simp! [y_tgN]
  have te : ∀ M, ownw tTable (callR 0 2 m_TableU_eqU) (.d (tabD tTable R)) (.d (tabD tTable R)) M = .ok (.d (.bl true)) M := fun M => by rw [tab_eq hG.few hG.few, decide_eq_true rfl]
  simp! [c1, e_same, same_d (datT hG.few) (by decide), mk1, te, same_b, src]
  refine kcS (ws := (R.map fun r => D.lst (r.map .int)).map .d) (fun i acc M => M = q :: .fz (rowsL R) :: (rest ++ (R.take i).map rowO) ∧ acc = refs (2 + rest.length) i) (fun _ _ _ _ => rfl) (by rw [List.length_map, List.length_map]; omega) ⟨by rw [List.take_zero, List.map_nil, List.append_nil], rfl⟩ (fun i u acc M hu hI => ?_) fun acc M hI => ?_
  · obtain ⟨rfl, rfl⟩ := hI
    obtain ⟨r, hr, rfl⟩ : ∃ r, R[i]? = some r ∧ u = .d (.lst (r.map .int)) := by
      rw [List.getElem?_map, List.getElem?_map] at hu
      cases e : R[i]? with
      | none => rw [e] at hu; cases hu
      | some r => rw [e] at hu; cases hu; exact ⟨r, rfl, rfl⟩
    have lm : ∀ (M : Sto) (P : PV) (E : PX), (listwM (.d (.lst (r.map .int))) M).Is P E = P (.m M.length) (M ++ [rowO r]) := fun M P E => listM_q seqw_lst1
    have hi := (List.getElem?_eq_some_iff.mp hr).1
    simp! [y_tgN, lm]
    refine ⟨?_, ?_⟩
    · rw [List.take_succ_eq_append_getElem hi, List.map_append, List.append_assoc, (List.getElem?_eq_some_iff.mp hr).2]
      rfl
    · rw [refs_succ, List.length_append, List.length_map, List.length_take, Nat.min_eq_left (by omega)]
      congr 3
      omega
  obtain ⟨rfl, rfl⟩ := hI
  rw [List.length_map, List.length_map, List.take_length]
  have stE : ∀ q, (q :: MO.fz (rowsL R) :: (rest ++ R.map rowO)) ++ [MO.lst (refs (2 + rest.length) R.length)] = stX q (.fz (rowsL R)) rest R := fun q => by
    unfold stX
    rw [List.cons_append, List.cons_append, List.append_assoc]
  have lenE : (q :: MO.fz (rowsL R) :: (rest ++ R.map rowO)).length = 2 + (rest.length + R.length) := by
    rw [List.length_cons, List.length_cons, List.length_append, List.length_map]
    omega
  rw [y_finM, stE, lenE]
  have draw_x : ∀ (q : MO) (S : List (List Int)) (s : Int) (P : PV) (E : PX), 0 < s → s < 2 ^ 63 → PoolIs q → (∀ v q', 0 ≤ v → v < s → PoolIs q' → P (.d (.int v)) (stX q' (.fz (rowsL R)) rest S)) → (callR 1 2 g_draw [.m 0, .d (.int s)] (stX q (.fz (rowsL R)) rest S)).Is P E := fun q S s P E h0 h1 hq hP => draw1 h0 h1 hq hP
  have lenX : ∀ (q : MO) (S : List (List Int)) (P : PV) (E : PX), (lenw (.m 1) (stX q (.fz (rowsL R)) rest S)).Is P E = P (.d (.int (n : Int))) (stX q (.fz (rowsL R)) rest S) := fun q S P E => lenR q _ P E
  have ix0X : ∀ (q : MO) (S : List (List Int)) (P : PV) (E : PX), (ixw (.m 1) (.d (.int 0)) (stX q (.fz (rowsL R)) rest S)).Is P E = P (.d (.lst (r0.map .int))) (stX q (.fz (rowsL R)) rest S) := fun q S P E => ix0 q _ P E
  have len0 : ∀ (M : Sto) (P : PV) (E : PX), (lenw (.d (.lst (r0.map .int))) M).Is P E = P (.d (.int (cw : Int))) M := fun M P E => by rw [y_lenL, List.length_map, hr0l]
  simp! [lenX, e_draw]
  refine draw_x _ _ _ _ _ (by omega) (by omega) hq fun v1 q1 v10 v11 hq1 => ?_
  obtain ⟨pl, rfl⟩ := nat_of v10
  simp! [ix0X, len0, e_draw]
  refine draw_x _ _ _ _ _ (by omega) (by omega) hq1 fun v2 q2 v20 v21 hq2 => ?_
  obtain ⟨at_, rfl⟩ := nat_of v20
  have hpl : pl < R.length := by omega
  have hrow := cw3 _ (List.getElem_mem hpl)
  have hat : at_ < R[pl].length := by omega
  have ixP : ∀ (P : PV) (E : PX), (ixw (.m (2 + (rest.length + R.length))) (.d (.int (pl : Int))) (stX q2 (.fz (rowsL R)) rest R)).Is P E = P (.m (2 + (rest.length + pl))) (stX q2 (.fz (rowsL R)) rest R) := fun P E => ix_m x_tbl (atI_get (by rw [refs_get hpl, Nat.add_assoc]))
  have ixA : ∀ (P : PV) (E : PX), (ixw (.m (2 + (rest.length + pl))) (.d (.int (at_ : Int))) (stX q2 (.fz (rowsL R)) rest R)).Is P E = P (.d (.int R[pl][at_])) (stX q2 (.fz (rowsL R)) rest R) := fun P E => ix_m (x_row hpl) (atI_get (by rw [List.getElem?_map, List.getElem?_map, List.getElem?_eq_getElem hat]; rfl))
  have m1 : (0 : Int) < 65536 := by decide
  simp! [DL.is_ok]
  rw [y_asgG]
  simp! [ixP, ixA, mod_int m1]
  rw [kAsg_g, y_tgS]
  simp! [ixP, kTs1_ap]
  rw [kTs2_at (x_row hpl) (by rw [List.length_map, List.length_map]; exact hat)]
  have hv := hG.val _ (List.getElem_mem hpl) _ (List.getElem_mem hat)
  obtain ⟨x, hx⟩ : ∃ x, (R[pl][at_] + 1) % 65536 = x := ⟨_, rfl⟩
  have hx1 : x ≠ R[pl][at_] := by omega
  have hx2 : 0 ≤ x ∧ x ≤ 65535 := by omega
  rw [hx]
  have hset : List.set (stX q2 (.fz (rowsL R)) rest R) (2 + (rest.length + pl)) (.lst (((R[pl].map D.int).map Wv.d).set at_ (.d (.int x)))) = stX q2 (.fz (rowsL R)) rest (R.set pl (R[pl].set at_ x)) := by
    rw [← List.map_set, ← List.map_set]
    exact x_set hpl
  rw [hset]
  have hG2 := hG.set (i := pl) (j := at_) hpl hx2
  have hne : ¬ R = R.set pl (R[pl].set at_ x) := fun e => by
    have e1 : R[pl]? = some (R[pl].set at_ x) := by
      have e2 : (R.set pl (R[pl].set at_ x))[pl]? = some (R[pl].set at_ x) := List.getElem?_set_self hpl
      rw [← e] at e2
      exact e2
    rw [List.getElem?_eq_getElem hpl] at e1
    have e3 := Option.some.inj e1
    have e4 : (R[pl].set at_ x)[at_]? = some x := List.getElem?_set_self hat
    rw [← e3, List.getElem?_eq_getElem hat] at e4
    exact hx1 (Option.some.inj e4).symm
  have mk2 := mkm hG2 (x_seal (q := q2) (z := .fz (rowsL R)) (rest := rest) (S := R.set pl (R[pl].set at_ x)))
  have tf : ∀ M, ownw tTable (callR 0 2 m_TableU_eqU) (.d (tabD tTable R)) (.d (tabD tTable (R.set pl (R[pl].set at_ x)))) M = .ok (.d (.bl false)) M := fun M => by rw [tab_eq hG.few hG2.few, decide_eq_false hne]
  rw [List.length_set] at mk2
  simp! [mk2, tf, same_b]
  refine EX q2 R _ _ _ hq2 hG fun q3 hq3 => ?_
  simp! [DL.is_ok]
  exact L4 q3 R _ pl sc c w x5 _ x8 _ _ x16 x18 x21 hq3 hG hpl
theorem cut1_from {α : Type} {xs : List α} (h : 1 ≤ xs.length) : cutL xs (some 1) none = xs.drop 1 := cut_from (i := 1) h
theorem cut1_to {α : Type} {xs : List α} (h : 1 ≤ xs.length) : cutL xs none (some 1) = xs.take 1 := cut_to (i := 1) h
theorem addL {l m : List D} (h : l.length + m.length ≤ sizeLine) : dAdd (.lst l) (.lst m) = some (.lst (l ++ m)) := by
  show (if l.length + m.length ≤ sizeLine then _ else _) = _
  rw [if_pos h]
theorem flat_len {R : List (List Int)} {c : Nat} (h : ∀ r ∈ R, r.length ≤ c) : R.flatten.length ≤ R.length * c := by
  induction R with
  | nil => exact Nat.zero_le _
  | cons r R ih =>
    have h1 := h r (List.mem_cons_self ..)
    have h2 := ih fun x hx => h x (List.mem_cons_of_mem _ hx)
    rw [List.flatten_cons, List.length_append, List.length_cons, Nat.add_mul, Nat.one_mul]
    omega
theorem flat_take {R : List (List Int)} {i : Nat} (h : i < R.length) : (R.take (i + 1)).flatten = (R.take i).flatten ++ R[i] := by
  rw [List.take_succ_eq_append_getElem h, List.flatten_append, List.flatten_cons, List.flatten_nil, List.append_nil]
theorem flat_take_len {R : List (List Int)} (hG : Good R) (i : Nat) : (R.take i).flatten.length ≤ 64 := by
  obtain ⟨c, c1, c2, c3⟩ := hG.wid
  have h1 := hG.lt
  have h2 := flat_len (R := R.take i) (c := 8) fun r hr => by rw [c3 r (List.mem_of_mem_take hr)]; omega
  have h3 : (R.take i).length ≤ R.length := by rw [List.length_take]; exact Nat.min_le_right _ _
  have h4 : (R.take i).length * 8 ≤ 8 * 8 := Nat.mul_le_mul_right 8 (by omega)
  omega
theorem flat_all {R : List (List Int)} (hG : Good R) : R.flatten.length ≤ 64 := by
  have := flat_take_len hG R.length
  rwa [List.take_length] at this
theorem unl {R : List (List Int)} (hG : Good R) : ∀ S ∈ [[R.flatten], R.flatten.map fun v => [v], R.drop 1, R ++ R.take 1, R.map fun r => r.drop 1, R.map fun r => r ++ r.take 1], few S ∧ (0 < S.length → S.length < 9 → ∀ s0, S[0]? = some s0 → 0 < s0.length → s0.length < 9 → Good S) := by
  obtain ⟨c, c1, c2, c3⟩ := hG.wid
  have hf := flat_all hG
  have hl := hG.lt
  have h0 := hG.pos
  have vF : ∀ v ∈ R.flatten, 0 ≤ v ∧ v ≤ 65535 := fun v hv => by
    obtain ⟨r, hr, h⟩ := List.mem_flatten.mp hv
    exact hG.val r hr v h
  intro S hS
  simp only [List.mem_cons, List.not_mem_nil, or_false] at hS
  rcases hS with rfl | rfl | rfl | rfl | rfl | rfl
  · refine ⟨⟨by rw [List.length_singleton]; omega, fun r hr => by rw [List.mem_singleton.mp hr]; omega⟩, fun a b s0 h1 h2 h3 => ?_⟩
    cases h1
    exact ⟨a, b, ⟨_, h2, h3, fun r hr => by rw [List.mem_singleton.mp hr]⟩, fun r hr v hv => by rw [List.mem_singleton.mp hr] at hv; exact vF v hv⟩
  · refine ⟨⟨by rw [List.length_map]; omega, fun r hr => by obtain ⟨v, _, rfl⟩ := List.mem_map.mp hr; rw [List.length_singleton]; omega⟩, fun a b s0 h1 h2 h3 => ?_⟩
    exact ⟨a, b, ⟨1, by decide, by decide, fun r hr => by obtain ⟨v, _, rfl⟩ := List.mem_map.mp hr; rfl⟩, fun r hr v hv => by
      obtain ⟨u, hu, rfl⟩ := List.mem_map.mp hr
      rw [List.mem_singleton.mp hv]
      exact vF u hu⟩
  · refine ⟨⟨by rw [List.length_drop]; omega, fun r hr => by rw [c3 r (List.mem_of_mem_drop hr)]; omega⟩, fun a b s0 h1 h2 h3 => ?_⟩
    exact ⟨a, b, ⟨c, c1, c2, fun r hr => c3 r (List.mem_of_mem_drop hr)⟩, fun r hr => hG.val r (List.mem_of_mem_drop hr)⟩
  · have hm : ∀ r ∈ R ++ R.take 1, r ∈ R := fun r hr => by
      rcases List.mem_append.mp hr with h | h
      · exact h
      · exact List.mem_of_mem_take h
    refine ⟨⟨by rw [List.length_append, List.length_take]; omega, fun r hr => by rw [c3 r (hm r hr)]; omega⟩, fun a b s0 h1 h2 h3 => ?_⟩
    exact ⟨a, b, ⟨c, c1, c2, fun r hr => c3 r (hm r hr)⟩, fun r hr => hG.val r (hm r hr)⟩
  · refine ⟨⟨by rw [List.length_map]; omega, fun r hr => by obtain ⟨x, hx, rfl⟩ := List.mem_map.mp hr; rw [List.length_drop, c3 x hx]; omega⟩, fun a b s0 h1 h2 h3 => ?_⟩
    have hs : ∀ r ∈ R.map (fun r => r.drop 1), r.length = c - 1 := fun r hr => by obtain ⟨x, hx, rfl⟩ := List.mem_map.mp hr; rw [List.length_drop, c3 x hx]
    have h4 := hs s0 (List.mem_of_getElem? h1)
    exact ⟨a, b, ⟨c - 1, by omega, by omega, hs⟩, fun r hr v hv => by
      obtain ⟨x, hx, rfl⟩ := List.mem_map.mp hr
      exact hG.val x hx v (List.mem_of_mem_drop hv)⟩
  · have hs : ∀ r ∈ R.map (fun r => r ++ r.take 1), r.length = c + 1 := fun r hr => by
      obtain ⟨x, hx, rfl⟩ := List.mem_map.mp hr
      rw [List.length_append, List.length_take, c3 x hx]
      omega
    refine ⟨⟨by rw [List.length_map]; omega, fun r hr => by rw [hs r hr]; omega⟩, fun a b s0 h1 h2 h3 => ?_⟩
    have h4 := hs s0 (List.mem_of_getElem? h1)
    exact ⟨a, b, ⟨c + 1, by omega, by omega, hs⟩, fun r hr v hv => by
      obtain ⟨x, hx, rfl⟩ := List.mem_map.mp hr
      rcases List.mem_append.mp hv with h | h
      · exact hG.val x hx v h
      · exact hG.val x hx v (List.mem_of_mem_take h)⟩
section
variable {R : List (List Int)} {q : MO} {rest : Sto}
theorem m_src (P : Src → Sto → Prop) (E : PX) : kSq P E (.m 1) (q :: .fz (rowsL R) :: rest) = P (.its ((R.map fun r => D.lst (r.map .int)).map .d)) (q :: .fz (rowsL R) :: rest) := kSq_fz rfl
theorem m_ne {S : List (List Int)} (h1 : few S) (h2 : few R) (P : PV) (E : PX) : (pu2 dNe (.d (rowsL S)) (.m 1) (q :: .fz (rowsL R) :: rest)).Is P E = P (.d (.bl (!decide (S = R)))) (q :: .fz (rowsL R) :: rest) := by
  unfold pu2
  rw [nd_d, nd_fz (k := 1) (x := rowsL R) rfl, Option.bind_some, Option.bind_some, neL h1 h2]
  rfl
theorem row_items {u : Wv} {i : Nat} (hu : ((R.map fun r => D.lst (r.map .int)).map Wv.d)[i]? = some u) : ∃ h : i < R.length, u = .d (.lst (R[i].map .int)) := by
  rw [List.getElem?_map, List.getElem?_map] at hu
  cases e : R[i]? with
  | none => rw [e] at hu; cases hu
  | some r =>
    obtain ⟨h, rfl⟩ := List.getElem?_eq_some_iff.mp e
    rw [e] at hu
    cases hu
    exact ⟨h, rfl⟩
end
theorem law4_is (L5 : ∀ (q : MO) (R : List (List Int)) (rest : Sto) (pl : Nat) (sc : D) (c w : Int) (x5 x7 x8 x9 x11 x12 x13 x16 x18 x21 x22 : Option Wv), PoolIs q → Good R → pl < R.length →
    (law5 [some (.d sc), some (.m 0), some (.d (.int c)), some (.d (.int w)), some (.m 1), x5, some (.d .non), x7, x8, x9, some (.d (.int (pl : Int))), x11, x12, x13, none, none, x16, none, x18, some (.d (tabD tTable R)), none, x21, x22] (q :: .fz (rowsL R) :: rest)).Is LawEnd nox) :
    ∀ (q : MO) (R : List (List Int)) (rest : Sto) (pl : Nat) (sc : D) (c w : Int) (x5 x7 x8 x9 x11 x16 x18 x21 : Option Wv), PoolIs q → Good R → pl < R.length →
    (law4 [some (.d sc), some (.m 0), some (.d (.int c)), some (.d (.int w)), some (.m 1), x5, some (.d .non), x7, x8, x9, some (.d (.int (pl : Int))), x11, none, none, none, none, x16, none, x18, some (.d (tabD tTable R)), none, x21, none] (q :: .fz (rowsL R) :: rest)).Is LawEnd nox := by
  intro q R rest pl sc c w x5 x7 x8 x9 x11 x16 x18 x21 hq hG hpl
  have size : 1000 ≤ sizeLine := by decide
  have h9 := hG.lt
  have h0 := hG.pos
  obtain ⟨cw, cw1, cw2, cw3⟩ := hG.wid
  have hf := flat_all hG
  have z0 : 0 ≤ sizeLine := Nat.zero_le _
  rw [law4]
  simp! [m_src, z0]
  refine for_is (fun i env M => ∃ x8, M = q :: .fz (rowsL R) :: rest ∧ env = [some (.d sc), some (.m 0), some (.d (.int c)), some (.d (.int w)), some (.m 1), x5, some (.d .non), x7, x8, x9, some (.d (.int (pl : Int))), x11, some (.d (.lst ((R.take i).flatten.map .int))), none, none, none, x16, none, x18, some (.d (tabD tTable R)), none, x21, none]) (fun i u env M hu hI => ?_) (fun env M hI => ?_) _ _ _ _ (by rw [Nat.zero_add, List.length_map, List.length_map]) ⟨x8, rfl, rfl⟩
  · obtain ⟨x8, rfl, rfl⟩ := hI
    obtain ⟨hi, rfl⟩ := row_items hu
    have h1 := flat_take_len hG i
    have h2 := cw3 _ (List.getElem_mem hi)
    have ha : dAdd (.lst ((R.take i).flatten.map .int)) (.lst (R[i].map .int)) = some (.lst ((R.take (i + 1)).flatten.map .int)) := by
      rw [addL (by rw [List.length_map, List.length_map]; omega), flat_take hi, List.map_append]
    simp! [y_tgN, ha]
    exact ⟨_, rfl⟩
  · obtain ⟨x8, rfl, rfl⟩ := hI
    rw [List.length_map, List.length_map, List.take_length]
    have z1 : 1 ≤ sizeLine := by omega
    have z6 : 6 ≤ sizeLine := by omega
    have sl1 : ∀ (P : PV) (E : PX), (slw true (.m 1) (some 1) none (q :: MO.fz (rowsL R) :: rest)).Is P E = P (.d (rowsL (R.drop 1))) (q :: MO.fz (rowsL R) :: rest) := fun P E => by
      rw [sl_q (seqw_fz rfl), cutL_map, cut1_from (by omega)]
      rfl
    have sl2 : ∀ (P : PV) (E : PX), (slw true (.m 1) none (some 1) (q :: MO.fz (rowsL R) :: rest)).Is P E = P (.d (rowsL (R.take 1))) (q :: MO.fz (rowsL R) :: rest) := fun P E => by
      rw [sl_q (seqw_fz rfl), cutL_map, cut1_to (by omega)]
      rfl
    have add4 : ∀ (P : PV) (E : PX), (pu2 dAdd (.m 1) (.d (rowsL (R.take 1))) (q :: MO.fz (rowsL R) :: rest)).Is P E = P (.d (rowsL (R ++ R.take 1))) (q :: MO.fz (rowsL R) :: rest) := fun P E => by
      unfold pu2
      rw [nd_d, nd_fz (k := 1) (x := rowsL R) rfl, Option.bind_some, Option.bind_some]
      show (rsd _ (dAdd (.lst (R.map _)) (.lst ((R.take 1).map _)))).Is P E = _
      rw [addL (by rw [List.length_map, List.length_map, List.length_take]; omega), ← List.map_append]
      rfl
    have r1 : ∀ (r : List Int) (M : Sto) (P : PV) (E : PX), r.length = cw → (slw true (.d (.lst (r.map .int))) (some 1) none M).Is P E = P (.d (.lst ((r.drop 1).map .int))) M := fun r M P E h => by
      rw [y_slL, cutL_map, cut1_from (by omega)]
    have r2 : ∀ (r : List Int) (M : Sto) (P : PV) (E : PX), r.length = cw → (slw true (.d (.lst (r.map .int))) none (some 1) M).Is P E = P (.d (.lst ((r.take 1).map .int))) M := fun r M P E h => by
      rw [y_slL, cutL_map, cut1_to (by omega)]
    have r3 : ∀ (r : List Int), r.length = cw → dAdd (.lst (r.map .int)) (.lst ((r.take 1).map .int)) = some (.lst ((r ++ r.take 1).map .int)) := fun r h => by
      rw [addL (by rw [List.length_map, List.length_map, List.length_take]; omega), ← List.map_append]
    have e2 : D.lst (R.flatten.map fun v => .lst [.int v]) = rowsL (R.flatten.map fun v => [v]) := by rw [rowsL, List.map_map]; rfl
    have e5 : D.lst (R.map fun r => .lst ((r.drop 1).map .int)) = rowsL (R.map fun r => r.drop 1) := by rw [rowsL, List.map_map]; rfl
    have e6 : D.lst (R.map fun r => .lst ((r ++ r.take 1).map .int)) = rowsL (R.map fun r => r ++ r.take 1) := by rw [rowsL, List.map_map]; rfl
    simp! [z1]
    refine kcD R.flatten .int (fun v => .lst [.int v]) (by omega) (fun v hv => ?_) ?_
    · simp! [y_tgN, z1]
    rw [e2]
    simp! [sl1, sl2, add4, m_src]
    refine kcD R (fun r => .lst (r.map .int)) (fun r => .lst ((r.drop 1).map .int)) (by omega) (fun r hr => ?_) ?_
    · have h := cw3 r hr
      have h1 := fun M P E => r1 r M P E h
      simp! [y_tgN, h1]
    rw [e5]
    simp! [m_src]
    refine kcD R (fun r => .lst (r.map .int)) (fun r => .lst ((r ++ r.take 1).map .int)) (by omega) (fun r hr => ?_) ?_
    · have h := cw3 r hr
      have h1 := fun M P E => r2 r M P E h
      simp! [y_tgN, h1, r3 r h]
    rw [e6]
    simp! [z6]
    have hU := unl hG
    generalize hUU : [[R.flatten], R.flatten.map fun v => [v], R.drop 1, R ++ R.take 1, R.map fun r => r.drop 1, R.map fun r => r ++ r.take 1] = U at hU
    have hUe : ((U.map rowsL).map Wv.d) = [Wv.d (.lst [.lst (R.flatten.map .int)]), .d (rowsL (R.flatten.map fun v => [v])), .d (rowsL (R.drop 1)), .d (rowsL (R ++ R.take 1)), .d (rowsL (R.map fun r => r.drop 1)), .d (rowsL (R.map fun r => r ++ r.take 1))] := by rw [← hUU]; rfl
    rw [← hUe]
    refine for_is (fun i env M => ∃ x9, M = q :: .fz (rowsL R) :: rest ∧ env = [some (.d sc), some (.m 0), some (.d (.int c)), some (.d (.int w)), some (.m 1), x5, some (.d .non), x7, x8, x9, some (.d (.int (pl : Int))), x11, some (.d (.lst (R.flatten.map .int))), some (.d (.lst (U.map rowsL))), none, none, x16, none, x18, some (.d (tabD tTable R)), none, x21, none]) (fun i u env M hu hI => ?_) (fun env M hI => ?_) _ _ _ _ ?_ ⟨x9, rfl, ?_⟩
    · obtain ⟨x9, rfl, rfl⟩ := hI
      obtain ⟨S, hS, rfl⟩ : ∃ S ∈ U, u = .d (rowsL S) := by
        rw [List.getElem?_map, List.getElem?_map] at hu
        cases e : U[i]? with
        | none => rw [e] at hu; cases hu
        | some S => rw [e] at hu; cases hu; exact ⟨S, List.mem_of_getElem? e, rfl⟩
      obtain ⟨f1, f2⟩ := hU S hS
      obtain ⟨n, hN⟩ : ∃ n, S.length = n := ⟨_, rfl⟩
      have lenS : ∀ (P : PV) (E : PX) (M : Sto), (lenw (.d (rowsL S)) M).Is P E = P (.d (.int (n : Int))) M := fun P E M => by rw [rowsL, y_lenL, List.length_map, hN]
      by_cases c1 : 0 < n
      · have a1 : (0 : Int) < (n : Int) := by omega
        by_cases c2 : n < 9
        · have a2 : (n : Int) < 9 := by omega
          obtain ⟨s0, hs0⟩ : ∃ s0, S[0]? = some s0 := ⟨_, List.getElem?_eq_getElem (by omega)⟩
          have ixS : ∀ (P : PV) (E : PX) (M : Sto), (ixw (.d (rowsL S)) (.d (.int 0)) M).Is P E = P (.d (.lst (s0.map .int))) M := fun P E M => ix_q (b := true) (ws := (S.map fun r => D.lst (r.map .int)).map .d) rfl (atI_get (i := 0) (by rw [List.getElem?_map, List.getElem?_map, hs0]; rfl))
          obtain ⟨m, hm⟩ : ∃ m, s0.length = m := ⟨_, rfl⟩
          have lens : ∀ (P : PV) (E : PX) (M : Sto), (lenw (.d (.lst (s0.map .int))) M).Is P E = P (.d (.int (m : Int))) M := fun P E M => by rw [y_lenL, List.length_map, hm]
          by_cases c3 : 0 < m
          · have a3 : (0 : Int) < (m : Int) := by omega
            by_cases c4 : m < 9
            · have a4 : (m : Int) < 9 := by omega
              have hS2 := f2 (by omega) (by omega) s0 hs0 (by omega) (by omega)
              by_cases c5 : S = R
              · have ne := fun P E => m_ne (q := q) (rest := rest) f1 hG.few P E
                rw [decide_eq_true c5] at ne
                simp! [y_tgN, lenS, a1, a2, ixS, lens, a3, a4, ne]
                exact ⟨_, rfl⟩
              · have ne := fun P E => m_ne (q := q) (rest := rest) f1 hG.few P E
                rw [decide_eq_false c5] at ne
                have tf : ∀ M, ownw tTable (callR 0 2 m_TableU_eqU) (.d (tabD tTable R)) (.d (tabD tTable S)) M = .ok (.d (.bl false)) M := fun M => by rw [tab_eq hG.few f1, decide_eq_false (fun z => c5 z.symm)]
                have mk := fun M => mk01 (M := M) f1 hS2.ok
                simp! [y_tgN, lenS, a1, a2, ixS, lens, a3, a4, ne, mk, tf, e_same, same_b]
                exact ⟨_, rfl⟩
            · have a4 : ¬ (m : Int) < 9 := by omega
              simp! [y_tgN, lenS, a1, a2, ixS, lens, a3, a4]
              exact ⟨_, rfl⟩
          · have a3 : ¬ (0 : Int) < (m : Int) := by omega
            simp! [y_tgN, lenS, a1, a2, ixS, lens, a3]
            exact ⟨_, rfl⟩
        · have a2 : ¬ (n : Int) < 9 := by omega
          simp! [y_tgN, lenS, a1, a2]
          exact ⟨_, rfl⟩
      · have a1 : ¬ (0 : Int) < (n : Int) := by omega
        simp! [y_tgN, lenS, a1]
        exact ⟨_, rfl⟩
    · obtain ⟨x9, rfl, rfl⟩ := hI
      rw [kSeq_nx]
      exact L5 q R rest pl sc c w x5 x7 x8 x9 x11 _ _ x16 x18 x21 none hq hG hpl
    · rw [hUe]
      rfl
    · rw [← hUU]
      rfl
def natT (a : List Nat) : D := .tup (a.map fun (i : Nat) => .int (i : Int))
def cell (R : List (List Int)) (i j : Nat) : Int := (R.getD i []).getD j 0
def cells (R : List (List Int)) (a b : List Nat) : List Int := a.flatMap fun i => b.map fun j => cell R i j
theorem cell_at {R : List (List Int)} {i j : Nat} (hi : i < R.length) (hj : j < R[i].length) : cell R i j = R[i][j] := by
  unfold cell
  rw [List.getD_eq_getElem?_getD, List.getD_eq_getElem?_getD, List.getElem?_eq_getElem hi]
  show (R[i])[j]?.getD 0 = _
  rw [List.getElem?_eq_getElem hj]
  rfl
theorem res_call {R : List (List Int)} {a b : List Nat} {M : Sto} {P : PV} {E : PX} (ha : ∀ i ∈ a, ∃ h : i < R.length, ∀ j ∈ b, j < R[i].length) (l1 : a.length ≤ 8) (l2 : b.length ≤ 8) (h : P (.m M.length) (M ++ [rowO (setI (cells R a b))])) : (callA 2 m_results [.d (tabD tTable R), .d (.tup [natT a, natT b])] M).Is P E := by
  have size : 1000 ≤ sizeLine := by decide
  have e1 : (a.flatMap fun i => b.map fun j => D.int (cell R i j)) = (cells R a b).map .int := by
    unfold cells
    rw [List.map_flatMap]
    congr 1
    funext i
    rw [List.map_map]
    rfl
  have l3 : (cells R a b).length ≤ 64 := by
    have : ∀ a : List Nat, (cells R a b).length = a.length * b.length := fun a => by
      induction a with
      | nil => rw [List.length_nil, Nat.zero_mul]; rfl
      | cons x a ih =>
        show ((b.map _) ++ cells R a b).length = _
        rw [List.length_append, List.length_map, ih, List.length_cons, Nat.add_mul, Nat.one_mul, Nat.add_comm]
    rw [this a]
    exact Nat.mul_le_mul l1 l2
  unfold callA
  rw [if_pos (show [Wv.d (tabD tTable R), Wv.d (.tup [natT a, natT b])].length = 2 from rfl), m_results, y_fnM, b_results]
  have i0 : ∀ (P : PV) (E : PX) (M : Sto), (ixw (.d (.tup [natT a, natT b])) (.d (.int 0)) M).Is P E = P (.d (natT a)) M := fun P E M => by rw [y_ixT]; rfl
  have i1 : ∀ (P : PV) (E : PX) (M : Sto), (ixw (.d (.tup [natT a, natT b])) (.d (.int 1)) M).Is P E = P (.d (natT b)) M := fun P E M => by rw [y_ixT]; rfl
  have s0 : ∀ (x : List Nat) (P : Src → Sto → Prop) (E : PX) (M : Sto), kSq P E (.d (natT x)) M = P (.its ((x.map fun (i : Nat) => D.int (i : Int)).map .d)) M := fun x P E M => rfl
  have rI : ∀ (i : Nat) (h : i < R.length) (P : PV) (E : PX) (M : Sto), (ixw (.d (rowsT R)) (.d (.int (i : Int))) M).Is P E = P (.d (.tup (R[i].map .int))) M := fun i h P E M => ix_q (b := false) (ws := (R.map fun r => D.tup (r.map .int)).map .d) rfl (atI_get (by rw [List.getElem?_map, List.getElem?_map, List.getElem?_eq_getElem h]; rfl))
  have rJ : ∀ (r : List Int) (j : Nat) (h : j < r.length) (P : PV) (E : PX) (M : Sto), (ixw (.d (.tup (r.map .int))) (.d (.int (j : Int))) M).Is P E = P (.d (.int r[j])) M := fun r j h P E M => ix_q (b := false) (ws := (r.map D.int).map .d) rfl (atI_get (by rw [List.getElem?_map, List.getElem?_map, List.getElem?_eq_getElem h]; rfl))
  simp! [i0, i1, s0]
  refine kcD2 a (fun (i : Nat) => .int (i : Int)) (fun _ => b) (fun _ (j : Nat) => .int (j : Int)) (fun i j => .int (cell R i j)) (by rw [e1, List.length_map]; omega) (fun i hi => ?_) ?_
  · obtain ⟨hi1, hj1⟩ := ha i hi
    simp! [y_tgN, i1, s0]
    intro j hj
    simp! [tab_rows, rI i hi1, rJ _ j (hj1 j hj), cell_at hi1 (hj1 j hj)]
  · rw [e1]
    have hs : ∀ (P : PV) (E : PX), (setMw (.d (.lst ((cells R a b).map .int))) M).Is P E = P (.m M.length) (M ++ [rowO (setI (cells R a b))]) := fun P E => setM_q (b := true) seqw_lst1 (by omega)
    simp! [hs]
    exact h
section
variable {R : List (List Int)} {c : Nat}
theorem cells_all (h : ∀ r ∈ R, r.length = c) : cells R (List.range R.length) (List.range c) = R.flatten := by
  unfold cells
  rw [List.flatMap_def]
  congr 1
  refine List.ext_getElem (by rw [List.length_map, List.length_range]) fun i h1 h2 => ?_
  rw [List.getElem_map, List.getElem_range]
  have hr := h _ (List.getElem_mem h2)
  refine List.ext_getElem (by rw [List.length_map, List.length_range, hr]) fun j h3 h4 => ?_
  rw [List.getElem_map, List.getElem_range, cell_at h2 h4]
theorem cells_one (h : ∀ r ∈ R, r.length = c) {i : Nat} (hi : i < R.length) : cells R [i] (List.range c) = R[i] := by
  show ((List.range c).map _) ++ [] = _
  rw [List.append_nil]
  have hr := h _ (List.getElem_mem hi)
  refine List.ext_getElem (by rw [List.length_map, List.length_range, hr]) fun j h3 h4 => ?_
  rw [List.getElem_map, List.getElem_range, cell_at hi h4]
theorem whole_call (hG : Good R) (h : ∀ r ∈ R, r.length = c) (hc : c < 9) {M : Sto} : callR 0 1 m_whole [.d (tabD tTable R)] M = .ok (.d (.tup [natT (List.range R.length), natT (List.range c)])) M := by
  refine call0 (xs := [tabD tTable R]) rfl ?_
  refine is_eq ?_
  have size : 1000 ≤ sizeLine := by decide
  have h9 := hG.lt
  obtain ⟨n, hN⟩ : ∃ n, R.length = n := ⟨_, rfl⟩
  obtain ⟨r0, hr0⟩ : ∃ r0, R[0]? = some r0 := ⟨_, List.getElem?_eq_getElem hG.pos⟩
  have hr := h _ (List.mem_of_getElem? hr0)
  have l1 : ∀ (P : PV) (E : PX) (M : Sto), (lenw (.d (rowsT R)) M).Is P E = P (.d (.int (n : Int))) M := fun P E M => by rw [rowsT, y_lenT, List.length_map, hN]
  have l2 : ∀ (P : PV) (E : PX) (M : Sto), (lenw (.d (.tup (r0.map .int))) M).Is P E = P (.d (.int (c : Int))) M := fun P E M => by rw [y_lenT, List.length_map, hr]
  have i0 : ∀ (P : PV) (E : PX) (M : Sto), (ixw (.d (rowsT R)) (.d (.int 0)) M).Is P E = P (.d (.tup (r0.map .int))) M := fun P E M => ix_q (b := false) (ws := (R.map fun r => D.tup (r.map .int)).map .d) rfl (atI_get (i := 0) (by rw [List.getElem?_map, List.getElem?_map, hr0]; rfl))
  have z2 : 2 ≤ sizeLine := by omega
  have g1 : n ≤ 1000 := by omega
  have g2 : c ≤ 1000 := by omega
  rw [m_whole, y_fnD, b_whole, hN]
  simp! [tab_rows, l1, l2, i0, rgT_nat g1, rgT_nat g2, z2]
  rfl
end
theorem callR02_m {f : FD} {k : Nat} {x y : D} {M M2 : Sto} (h : sealW 6 (.m k) M = some (x, M2)) (hf : f [.d x, .d x] [] = .ok (.d y) []) : callR 0 2 f [.m k, .d x] M = .ok (.d y) M2 := by
  have e : preps 0 [.m k, .d x] M = some ([.d x, .d x], M2) := by
    have h2 : preps 0 [.d x] M2 = some ([.d x], M2) := preps_d 0 [x] M2
    unfold preps prep
    rw [if_neg (by show ¬ decide (k < 0) = true; simp), h]
    simp only [Option.map_some, Option.bind_some]
    rw [h2]
    rfl
  unfold callR
  rw [if_pos (show [Wv.m k, .d x].length = 2 from rfl), e]
  simp only [List.take_zero, Nat.zero_le, true_and, List.all_nil, if_true, hf]
  rfl
theorem law5_is : ∀ (q : MO) (R : List (List Int)) (rest : Sto) (pl : Nat) (sc : D) (c w : Int) (x5 x7 x8 x9 x11 x12 x13 x16 x18 x21 x22 : Option Wv), PoolIs q → Good R → pl < R.length →
    (law5 [some (.d sc), some (.m 0), some (.d (.int c)), some (.d (.int w)), some (.m 1), x5, some (.d .non), x7, x8, x9, some (.d (.int (pl : Int))), x11, x12, x13, none, none, x16, none, x18, some (.d (tabD tTable R)), none, x21, x22] (q :: .fz (rowsL R) :: rest)).Is LawEnd nox := by
  intro q R rest pl sc c w x5 x7 x8 x9 x11 x12 x13 x16 x18 x21 x22 hq hG hpl
  have size : 1000 ≤ sizeLine := by decide
  have h9 := hG.lt
  have h0 := hG.pos
  obtain ⟨cw, cw1, cw2, cw3⟩ := hG.wid
  have hf := flat_all hG
  obtain ⟨n, hN⟩ : ∃ n, R.length = n := ⟨_, rfl⟩
  have wc := fun M => whole_call (M := M) hG cw3 cw2
  rw [law5]
  simp! [wc]
  refine res_call (fun i hi => ?_) (by rw [List.length_range]; omega) (by rw [List.length_range]; omega) ?_
  · have hi := List.mem_range.mp hi
    exact ⟨hi, fun j hj => by rw [cw3 _ (List.getElem_mem hi)]; exact List.mem_range.mp hj⟩
  rw [cells_all cw3]
  have lA := Nat.le_trans (setI_len R.flatten) hf
  have lB := Nat.le_trans (setI_len R[pl]) (show R[pl].length ≤ 64 by rw [cw3 _ (List.getElem_mem hpl)]; omega)
  generalize hA : setI R.flatten = A at *
  generalize hB : setI R[pl] = B at *
  have hg : (q :: MO.fz (rowsL R) :: (rest ++ [rowO A]))[rest.length + 1 + 1]? = some (.lst ((A.map D.int).map .d)) := by
    rw [List.getElem?_cons_succ, List.getElem?_cons_succ, List.getElem?_append_right (Nat.le_refl _), Nat.sub_self]
    rfl
  have hset : ∀ (x y : MO), (rest ++ [x]).set rest.length y = rest ++ [y] := fun x y => by
    rw [List.set_append_right _ _ (Nat.le_refl _), Nat.sub_self]
    rfl
  have zA : ((A.map D.int).map Wv.d ++ [Wv.d (.int 7)]).length ≤ sizeLine := by
    rw [List.length_append, List.length_map, List.length_map, List.length_singleton]
    omega
  have lenR : ∀ (q : MO) (rest : Sto) (P : PV) (E : PX), (lenw (.m 1) (q :: .fz (rowsL R) :: rest)).Is P E = P (.d (.int (n : Int))) (q :: .fz (rowsL R) :: rest) := fun q rest P E => by rw [len_q (seqw_fz rfl), List.length_map, List.length_map, hN]
  have nl : n ≤ sizeLine := by omega
  have cl : cw ≤ sizeLine := by omega
  simp! [lst_m hg, Option.isSome_some, zA, hset, lenR, rng0_is nl]
  generalize rest ++ [MO.lst ((A.map D.int).map Wv.d ++ [Wv.d (.int 7)])] = rest1
  refine kcR n (fun i => .int (i : Int)) nl (fun i hi => ?_) ?_
  · simp! [y_tgN]
  obtain ⟨r0, hr0⟩ : ∃ r0, R[0]? = some r0 := ⟨_, List.getElem?_eq_getElem hG.pos⟩
  have hr0l : r0.length = cw := cw3 _ (List.mem_of_getElem? hr0)
  have ix0 : ∀ (q : MO) (rest : Sto) (P : PV) (E : PX), (ixw (.m 1) (.d (.int 0)) (q :: .fz (rowsL R) :: rest)).Is P E = P (.d (.lst (r0.map .int))) (q :: .fz (rowsL R) :: rest) := fun q rest P E => ix_fz (i := 0) (l := R.map fun r => D.lst (r.map .int)) rfl (by rw [List.getElem?_map, hr0]; rfl)
  have len0 : ∀ (M : Sto) (P : PV) (E : PX), (lenw (.d (.lst (r0.map .int))) M).Is P E = P (.d (.int (cw : Int))) M := fun M P E => by rw [y_lenL, List.length_map, hr0l]
  simp! [ix0, len0, rng0_is cl]
  refine kcR cw (fun i => .int (i : Int)) cl (fun i hi => ?_) ?_
  · simp! [y_tgN]
  have z2 : 2 ≤ sizeLine := by omega
  have z1 : 1 ≤ sizeLine := by omega
  have z0 : 0 ≤ sizeLine := by omega
  have eP : ∀ n : Nat, D.tup ((List.range n).map fun (i : Nat) => D.int (i : Int)) = natT (List.range n) := fun n => rfl
  have eP1 : D.tup [D.int (pl : Int)] = natT [pl] := rfl
  simp! [z1, z2, eP, eP1]
  refine res_call (a := List.range n) (b := List.range cw) (fun i hi => ?_) (by rw [List.length_range]; omega) (by rw [List.length_range]; omega) ?_
  · have hi := List.mem_range.mp hi
    exact ⟨by omega, fun j hj => by rw [cw3 _ (List.getElem_mem _)]; exact List.mem_range.mp hj⟩
  simp! [DL.is_ok]
  refine res_call (a := [pl]) (b := List.range cw) (fun i hi => ?_) (by rw [List.length_singleton]; omega) (by rw [List.length_range]; omega) ?_
  · rw [List.mem_singleton.mp hi]
    exact ⟨hpl, fun j hj => by rw [cw3 _ (List.getElem_mem _)]; exact List.mem_range.mp hj⟩
  rw [cells_one cw3 hpl, ← hN, cells_all cw3, hA, hB]
  simp! [z2, z0]
  have lenE : (rest1 ++ [rowO A] ++ [rowO B]).length + 1 + 1 = 2 + (rest1.length + [A, B].length) := by
    rw [List.length_append, List.length_append, List.length_singleton, List.length_singleton]
    show _ = 2 + (rest1.length + 2)
    omega
  have hst : q :: MO.fz (rowsL R) :: (rest1 ++ [rowO A] ++ [rowO B] ++ [MO.lst [Wv.m (rest1.length + 1 + 1), Wv.m ((rest1 ++ [rowO A]).length + 1 + 1)]]) = stX q (.fz (rowsL R)) rest1 [A, B] := by
    unfold stX
    rw [List.append_assoc, List.append_assoc, List.length_append, List.length_singleton]
    have e1 : 2 + rest1.length + 0 = rest1.length + 1 + 1 := by omega
    have e2 : 2 + rest1.length + 1 = rest1.length + 1 + 1 + 1 := by omega
    have e3 : refs (2 + rest1.length) [A, B].length = [.m (2 + rest1.length + 0), .m (2 + rest1.length + 1)] := rfl
    rw [e3, e1, e2]
    rfl
  have fin := x_seal (q := q) (z := .fz (rowsL R)) (rest := rest1) (S := [A, B])
  rw [← hst, ← lenE] at fin
  have fAB : few [A, B] := ⟨by show 2 ≤ 100; decide, fun r hr => by
    simp only [List.mem_cons, List.not_mem_nil, or_false] at hr
    rcases hr with rfl | rfl <;> omega⟩
  have hsame : ∀ M, m__law_same 40 [.d (rowsL [A, B]), .d (rowsL [A, B])] [] = .ok (.d (.bl true)) M → True := fun _ _ => trivial
  have fin2 := callR02_m (f := m__law_same 40) (y := .bl true) fin (by rw [e_same]; exact same_plain _ _ (dat_plain (datL fAB)) 40 (by decide))
  generalize (rest1 ++ [rowO A] ++ [rowO B]).length + 1 + 1 = kk at *
  generalize rest1 ++ [rowO A] ++ [rowO B] ++ [MO.lst [Wv.m (rest1.length + 1 + 1), Wv.m ((rest1 ++ [rowO A]).length + 1 + 1)]] = rest2 at *
  simp! [m_src]
  refine for_is (fun i env M => ∃ x8, M = q :: .fz (rowsL R) :: rest2 ∧ env = [some (.d sc), some (.m 0), some (.d (.int c)), some (.d (.int w)), some (.m 1), x5, some (.d .non), x7, x8, x9, some (.d (.int (pl : Int))), x11, x12, x13, some (.m kk), some (.d (.tup [natT (List.range R.length), natT (List.range cw)])), some (.d (.tup [natT [pl], natT (List.range cw)])), some (.d (.lst ((R.take i).flatten.map .int))), x18, some (.d (tabD tTable R)), none, x21, x22]) (fun i u env M hu hI => ?_) (fun env M hI => ?_) _ _ _ _ (by rw [Nat.zero_add, List.length_map, List.length_map]) ⟨x8, rfl, rfl⟩
  · obtain ⟨x8, rfl, rfl⟩ := hI
    obtain ⟨hi, rfl⟩ := row_items hu
    have h1 := flat_take_len hG i
    have h2 := cw3 _ (List.getElem_mem hi)
    have ha : dAdd (.lst ((R.take i).flatten.map .int)) (.lst (R[i].map .int)) = some (.lst ((R.take (i + 1)).flatten.map .int)) := by
      rw [addL (by rw [List.length_map, List.length_map]; omega), flat_take hi, List.map_append]
    simp! [y_tgN, ha]
    exact ⟨_, rfl⟩
  · obtain ⟨x8, rfl, rfl⟩ := hI
    rw [List.length_map, List.length_map, List.take_length]
    have hR : ∀ (P : PV) (E : PX), (ixw (.m 1) (.d (.int (pl : Int))) (q :: .fz (rowsL R) :: rest2)).Is P E = P (.d (.lst (R[pl].map .int))) (q :: .fz (rowsL R) :: rest2) := fun P E => ix_fz (l := R.map fun r => D.lst (r.map .int)) rfl (by rw [List.getElem?_map, List.getElem?_eq_getElem hpl]; rfl)
    have hs1 : dSetI (R.flatten.map .int) = some (.lst (A.map .int)) := by rw [set_ints (by omega), hA]
    have hs2 : dSetI (R[pl].map .int) = some (.lst (B.map .int)) := by rw [set_ints (by rw [cw3 _ (List.getElem_mem hpl)]; omega), hB]
    have dW : dat 2 (.tup [natT (List.range R.length), natT (List.range cw)]) := by
      refine ⟨by show 2 ≤ sizeLine; omega, fun x hx => ?_⟩
      simp only [List.mem_cons, List.not_mem_nil, or_false] at hx
      rcases hx with rfl | rfl
      · exact ⟨by rw [List.length_map, List.length_range]; omega, fun y hy => by obtain ⟨i, _, rfl⟩ := List.mem_map.mp hy; exact trivial⟩
      · exact ⟨by rw [List.length_map, List.length_range]; omega, fun y hy => by obtain ⟨i, _, rfl⟩ := List.mem_map.mp hy; exact trivial⟩
    rw [kSeq_nx]
    have e3 : D.lst [.lst (A.map .int), .lst (B.map .int)] = rowsL [A, B] := rfl
    have fin3 := fin2
    rw [e_same] at fin3
    simp! [wc, e_same, same_d dW (by decide), y_fSeqL, hs1, hR, hs2, z2, e3, fin3]
    rfl
/-! ### rows, columns or two cells exchanged -/
theorem rev_1 {M : Sto} {l : List D} {P : PV} {E : PX} : (revw true (.d (.lst l)) (.d (.int (-1))) M).Is P E = P (.d (.lst l.reverse)) M := rev_q (w := .d (.lst l)) rfl
def stY (p : MO) (S : List (List Int)) : Sto := p :: (S.map rowO ++ [.lst (refs 1 S.length)])
section
variable {p : MO} {S : List (List Int)} {i : Nat}
theorem get1 {a : MO} {rest : Sto} {k : Nat} : (a :: rest)[1 + k]? = rest[k]? := by rw [Nat.add_comm, List.getElem?_cons_succ]
theorem yy_row (h : i < S.length) : (stY p S)[1 + i]? = some (rowO S[i]) := by
  unfold stY
  rw [get1, List.getElem?_append_left (by rw [List.length_map]; omega), List.getElem?_map, List.getElem?_eq_getElem h]
  rfl
theorem yy_tbl : (stY p S)[1 + S.length]? = some (.lst (refs 1 S.length)) := by
  unfold stY
  rw [get1, List.getElem?_append_right (by rw [List.length_map]; omega), List.length_map, Nat.sub_self]
  rfl
theorem yy_set {r : List Int} (h : i < S.length) : (stY p S).set (1 + i) (rowO r) = stY p (S.set i r) := by
  unfold stY
  rw [Nat.add_comm, List.set_cons_succ, List.set_append_left _ _ (by rw [List.length_map]; omega), List.length_set, List.map_set]
theorem yy_seal : sealW 6 (.m (1 + S.length)) (stY p S) = some (rowsL S, p :: (S.map rowF ++ [.fz (rowsL S)])) := seal_up (A := [p]) (R := S)
end
theorem exl {R : List (List Int)} (hG : Good R) : ∀ S ∈ [R.map fun r => r.reverse, R.reverse, R.drop 1 ++ R.take 1, R.map fun r => r.drop 1 ++ r.take 1], Good S := by
  obtain ⟨c, c1, c2, c3⟩ := hG.wid
  have hl := hG.lt
  have h0 := hG.pos
  intro S hS
  simp only [List.mem_cons, List.not_mem_nil, or_false] at hS
  rcases hS with rfl | rfl | rfl | rfl
  · exact ⟨by rw [List.length_map]; exact h0, by rw [List.length_map]; exact hl, ⟨c, c1, c2, fun r hr => by obtain ⟨x, hx, rfl⟩ := List.mem_map.mp hr; rw [List.length_reverse]; exact c3 x hx⟩, fun r hr v hv => by
      obtain ⟨x, hx, rfl⟩ := List.mem_map.mp hr
      exact hG.val x hx v (List.mem_reverse.mp hv)⟩
  · exact ⟨by rw [List.length_reverse]; exact h0, by rw [List.length_reverse]; exact hl, ⟨c, c1, c2, fun r hr => c3 r (List.mem_reverse.mp hr)⟩, fun r hr => hG.val r (List.mem_reverse.mp hr)⟩
  · have hm : ∀ r ∈ R.drop 1 ++ R.take 1, r ∈ R := fun r hr => by
      rcases List.mem_append.mp hr with h | h
      · exact List.mem_of_mem_drop h
      · exact List.mem_of_mem_take h
    have hlen : (R.drop 1 ++ R.take 1).length = R.length := by rw [List.length_append, List.length_drop, List.length_take]; omega
    exact ⟨by rw [hlen]; exact h0, by rw [hlen]; exact hl, ⟨c, c1, c2, fun r hr => c3 r (hm r hr)⟩, fun r hr => hG.val r (hm r hr)⟩
  · exact ⟨by rw [List.length_map]; exact h0, by rw [List.length_map]; exact hl, ⟨c, c1, c2, fun r hr => by obtain ⟨x, hx, rfl⟩ := List.mem_map.mp hr; rw [List.length_append, List.length_drop, List.length_take, c3 x hx]; omega⟩, fun r hr v hv => by
      obtain ⟨x, hx, rfl⟩ := List.mem_map.mp hr
      rcases List.mem_append.mp hv with h | h
      · exact hG.val x hx v (List.mem_of_mem_drop h)
      · exact hG.val x hx v (List.mem_of_mem_take h)⟩
theorem exch_is {R : List (List Int)} {p : MO} (hp : PoolIs p) (hG : Good R) : (m__law_exchanged [.m 0, .d (tabD tTable R), .d (rowsL R)] [p]).Is (fun w M' => ∃ p', w = .d (.bl true) ∧ M' = [p'] ∧ PoolIs p') nox := by
  have size : 1000 ≤ sizeLine := by decide
  have h9 := hG.lt
  have h0 := hG.pos
  obtain ⟨cw, cw1, cw2, cw3⟩ := hG.wid
  obtain ⟨n, hN⟩ : ∃ n, R.length = n := ⟨_, rfl⟩
  have lenR : ∀ (P : PV) (E : PX) (M : Sto), (lenw (.d (rowsL R)) M).Is P E = P (.d (.int (n : Int))) M := fun P E M => by rw [rowsL, y_lenL, List.length_map, hN]
  obtain ⟨r0, hr0⟩ : ∃ r0, R[0]? = some r0 := ⟨_, List.getElem?_eq_getElem hG.pos⟩
  have hr0l : r0.length = cw := cw3 _ (List.mem_of_getElem? hr0)
  have ix0 : ∀ (P : PV) (E : PX) (M : Sto), (ixw (.d (rowsL R)) (.d (.int 0)) M).Is P E = P (.d (.lst (r0.map .int))) M := fun P E M => ix_q (b := true) (ws := (R.map fun r => D.lst (r.map .int)).map .d) rfl (atI_get (i := 0) (by rw [List.getElem?_map, List.getElem?_map, hr0]; rfl))
  have len0 : ∀ (P : PV) (E : PX) (M : Sto), (lenw (.d (.lst (r0.map .int))) M).Is P E = P (.d (.int (cw : Int))) M := fun P E M => by rw [y_lenL, List.length_map, hr0l]
  have src : ∀ (P : Src → Sto → Prop) (E : PX) (M : Sto), kSq P E (.d (rowsL R)) M = P (.its ((R.map fun r => D.lst (r.map .int)).map .d)) M := fun P E M => rfl
  rw [m__law_exchanged, y_fnD, b__law_exchanged]
  simp! [lenR, e_draw]
  refine draw1 (s := (n : Int)) (by omega) (by omega) hp fun v1 p1 v10 v11 hp1 => ?_
  obtain ⟨pl, rfl⟩ := nat_of v10
  simp! [ix0, len0, e_draw]
  refine draw1 (s := (cw : Int)) (by omega) (by omega) hp1 fun v2 p2 v20 v21 hp2 => ?_
  obtain ⟨at_, rfl⟩ := nat_of v20
  have hpl : pl < R.length := by omega
  have hrow := cw3 _ (List.getElem_mem hpl)
  have hat : at_ < R[pl].length := by omega
  have e1 : D.lst (R.map fun r => .lst (r.reverse.map .int)) = rowsL (R.map fun r => r.reverse) := by rw [rowsL, List.map_map]; rfl
  have rv : ∀ (r : List Int) (P : PV) (E : PX) (M : Sto), (revw true (.d (.lst (r.map .int))) (.d (.int (-1))) M).Is P E = P (.d (.lst (r.reverse.map .int))) M := fun r P E M => by rw [rev_1, List.map_reverse]
  have rvR : ∀ (P : PV) (E : PX) (M : Sto), (revw true (.d (rowsL R)) (.d (.int (-1))) M).Is P E = P (.d (rowsL R.reverse)) M := fun P E M => by rw [rowsL, rev_1, rowsL, List.map_reverse]
  have sl1 : ∀ (P : PV) (E : PX) (M : Sto), (slw true (.d (rowsL R)) (some 1) none M).Is P E = P (.d (rowsL (R.drop 1))) M := fun P E M => by
    rw [rowsL, y_slL, cutL_map, cut1_from (by omega)]
    rfl
  have sl2 : ∀ (P : PV) (E : PX) (M : Sto), (slw true (.d (rowsL R)) none (some 1) M).Is P E = P (.d (rowsL (R.take 1))) M := fun P E M => by
    rw [rowsL, y_slL, cutL_map, cut1_to (by omega)]
    rfl
  have ad3 : dAdd (rowsL (R.drop 1)) (rowsL (R.take 1)) = some (rowsL (R.drop 1 ++ R.take 1)) := by
    rw [rowsL, rowsL, addL (by rw [List.length_map, List.length_map, List.length_drop, List.length_take]; omega), ← List.map_append]
    rfl
  have r1 : ∀ (r : List Int) (P : PV) (E : PX) (M : Sto), r.length = cw → (slw true (.d (.lst (r.map .int))) (some 1) none M).Is P E = P (.d (.lst ((r.drop 1).map .int))) M := fun r P E M h => by
    rw [y_slL, cutL_map, cut1_from (by omega)]
  have r2 : ∀ (r : List Int) (P : PV) (E : PX) (M : Sto), r.length = cw → (slw true (.d (.lst (r.map .int))) none (some 1) M).Is P E = P (.d (.lst ((r.take 1).map .int))) M := fun r P E M h => by
    rw [y_slL, cutL_map, cut1_to (by omega)]
  have r3 : ∀ (r : List Int), r.length = cw → dAdd (.lst ((r.drop 1).map .int)) (.lst ((r.take 1).map .int)) = some (.lst ((r.drop 1 ++ r.take 1).map .int)) := fun r h => by
    rw [addL (by rw [List.length_map, List.length_map, List.length_drop, List.length_take]; omega), ← List.map_append]
  have e4 : D.lst (R.map fun r => .lst ((r.drop 1 ++ r.take 1).map .int)) = rowsL (R.map fun r => r.drop 1 ++ r.take 1) := by rw [rowsL, List.map_map]; rfl
  simp! [src]
  refine kcD R (fun r => .lst (r.map .int)) (fun r => .lst (r.reverse.map .int)) (by omega) (fun r hr => ?_) ?_
  · simp! [y_tgN, rv]
  rw [e1]
  simp! [rvR, sl1, sl2, ad3, src]
  refine kcD R (fun r => .lst (r.map .int)) (fun r => .lst ((r.drop 1 ++ r.take 1).map .int)) (by omega) (fun r hr => ?_) ?_
  · have h := cw3 r hr
    have h1 := fun P E M => r1 r P E M h
    have h2 := fun P E M => r2 r P E M h
    simp! [y_tgN, h1, h2, r3 r h]
  rw [e4]
  have z4 : 4 ≤ sizeLine := by omega
  have z1 : 1 ≤ sizeLine := by omega
  simp! [z4, src]
  generalize hUU : D.lst [rowsL (R.map fun r => r.reverse), rowsL R.reverse, rowsL (R.drop 1 ++ R.take 1), rowsL (R.map fun r => r.drop 1 ++ r.take 1)] = UU
  refine kcS (ws := (R.map fun r => D.lst (r.map .int)).map .d) (fun i acc M => M = p2 :: (R.take i).map rowO ∧ acc = refs 1 i) (fun _ _ _ _ => rfl) (by rw [List.length_map, List.length_map]; omega) ⟨rfl, rfl⟩ (fun i u acc M hu hI => ?_) fun acc M hI => ?_
  · obtain ⟨rfl, rfl⟩ := hI
    obtain ⟨hi, rfl⟩ := row_items hu
    have lm : ∀ (M : Sto) (P : PV) (E : PX), (listwM (.d (.lst (R[i].map .int))) M).Is P E = P (.m M.length) (M ++ [rowO R[i]]) := fun M P E => listM_q seqw_lst1
    simp! [y_tgN, lm]
    refine ⟨?_, ?_⟩
    · rw [List.take_succ_eq_append_getElem hi, List.map_append]
      rfl
    · rw [refs_succ, List.length_take, Nat.min_eq_left (by omega), Nat.add_comm 1]
  obtain ⟨rfl, rfl⟩ := hI
  rw [List.length_map, List.length_map, List.take_length]
  have lenE : (p2 :: R.map rowO).length = 1 + R.length := by
    rw [List.length_cons, List.length_map]
    omega
  have stE : (p2 :: R.map rowO) ++ [MO.lst (refs 1 R.length)] = stY p2 R := rfl
  rw [y_finM, lenE, stE]
  have hr0' : R[0] = r0 := by
    rw [List.getElem?_eq_getElem h0] at hr0
    exact Option.some.inj hr0
  have h00 : 0 < R[0].length := by rw [hr0', hr0l]; exact cw1
  have ixT0 : ∀ (P : PV) (E : PX), (ixw (.m (1 + R.length)) (.d (.int 0)) (stY p2 R)).Is P E = P (.m (1 + 0)) (stY p2 R) := fun P E => ix_m yy_tbl (atI_get (i := 0) (refs_get h0))
  have ixTp : ∀ (P : PV) (E : PX), (ixw (.m (1 + R.length)) (.d (.int (pl : Int))) (stY p2 R)).Is P E = P (.m (1 + pl)) (stY p2 R) := fun P E => ix_m yy_tbl (atI_get (refs_get hpl))
  have ixA : ∀ (P : PV) (E : PX), (ixw (.m (1 + 0)) (.d (.int 0)) (stY p2 R)).Is P E = P (.d (.int R[0][0])) (stY p2 R) := fun P E => ix_m (yy_row h0) (atI_get (i := 0) (by rw [List.getElem?_map, List.getElem?_map, List.getElem?_eq_getElem h00]; rfl))
  have ixB : ∀ (P : PV) (E : PX), (ixw (.m (1 + pl)) (.d (.int (at_ : Int))) (stY p2 R)).Is P E = P (.d (.int R[pl][at_])) (stY p2 R) := fun P E => ix_m (yy_row hpl) (atI_get (by rw [List.getElem?_map, List.getElem?_map, List.getElem?_eq_getElem hat]; rfl))
  generalize hx0 : (1 + 0 : Nat) = m1 at *
  simp! [ixT0, ixTp, ixA]
  rw [y_asgG]
  simp! [ixB]
  rw [kAsg_g]
  refine tgS_at (i := 7) (k := m1) rfl ?_
  have g1 := hG.set (i := 0) (j := 0) h0 (hG.val _ (List.getElem_mem hpl) _ (List.getElem_mem hat))
  obtain ⟨R1, hR1⟩ : ∃ R1, R.set 0 (R[0].set 0 R[pl][at_]) = R1 := ⟨_, rfl⟩
  have hset1 : (stY p2 R).set m1 (.lst (((R[0].map D.int).map Wv.d).set 0 (.d (.int R[pl][at_])))) = stY p2 R1 := by
    rw [← List.map_set, ← List.map_set, ← hx0, ← hR1]
    exact yy_set h0
  rw [y_c]
  refine ⟨0, (R[0].map D.int).map .d, rfl, by rw [← hx0]; exact yy_row h0, by rw [List.length_map, List.length_map]; exact h00, ?_⟩
  rw [hset1]
  rw [hR1] at g1
  have hl1 : R1.length = R.length := by rw [← hR1, List.length_set]
  have hpl1 : pl < R1.length := by omega
  have hrow1 : R1[pl].length = R[pl].length := by
    obtain ⟨c, _, _, c3⟩ := g1.wid
    have a1 := c3 _ (List.getElem_mem hpl1)
    have a2 : R1[0]'(by omega) = R[0].set 0 R[pl][at_] := by
      simp only [← hR1, List.getElem_set_self]
    have a3 := c3 _ (List.getElem_mem (show 0 < R1.length by omega))
    rw [a2, List.length_set, cw3 _ (List.getElem_mem h0)] at a3
    omega
  rw [kNx_ap]
  simp! [DL.is_ok]
  rw [y_asgG]
  simp! [DL.is_ok]
  rw [kAsg_g]
  refine tgS_at (i := 8) (k := 1 + pl) rfl ?_
  simp! [DL.is_ok]
  have g2 := g1.set (i := pl) (j := at_) hpl1 (hG.val _ (List.getElem_mem h0) _ (List.getElem_mem h00))
  obtain ⟨R2, hR2⟩ : ∃ R2, R1.set pl (R1[pl].set at_ R[0][0]) = R2 := ⟨_, rfl⟩
  have hset2 : (stY p2 R1).set (1 + pl) (.lst (((R1[pl].map D.int).map Wv.d).set at_ (.d (.int R[0][0])))) = stY p2 R2 := by
    rw [← List.map_set, ← List.map_set, ← hR2]
    exact yy_set hpl1
  rw [hR2] at g2
  have hl2 : R2.length = R.length := by rw [← hR2, List.length_set, hl1]
  refine ⟨at_, (R1[pl].map D.int).map .d, rfl, yy_row hpl1, by rw [List.length_map, List.length_map, hrow1]; exact hat, ?_⟩
  rw [hset2, ← hl2, seal_to yy_seal]
  have ad5 : dAdd UU (.lst [rowsL R2]) = some (.lst ([R.map fun r => r.reverse, R.reverse, R.drop 1 ++ R.take 1, R.map fun r => r.drop 1 ++ r.take 1, R2].map rowsL)) := by
    rw [← hUU, addL (by show 5 ≤ sizeLine; omega)]
    rfl
  have hU : ∀ S ∈ [R.map fun r => r.reverse, R.reverse, R.drop 1 ++ R.take 1, R.map fun r => r.drop 1 ++ r.take 1, R2], Good S := fun S hS => by
    have he := exl hG
    simp only [List.mem_cons, List.not_mem_nil, or_false] at hS he
    rcases hS with h | h | h | h | h
    · exact he S (.inl h)
    · exact he S (.inr (.inl h))
    · exact he S (.inr (.inr (.inl h)))
    · exact he S (.inr (.inr (.inr h)))
    · rw [h]; exact g2
  generalize [R.map fun r => r.reverse, R.reverse, R.drop 1 ++ R.take 1, R.map fun r => r.drop 1 ++ r.take 1, R2] = U at ad5 hU
  have srcU : ∀ (P : Src → Sto → Prop) (E : PX) (M : Sto), kSq P E (.d (.lst (U.map rowsL))) M = P (.its ((U.map rowsL).map .d)) M := fun P E M => rfl
  have z5 : 2 ≤ sizeLine := by omega
  generalize R2.map rowF ++ [MO.fz (rowsL R2)] = rest3
  simp! [z1]
  rw [ad5]
  simp! [srcU]
  refine for_is (fun i env M => ∃ x10, M = p2 :: rest3 ∧ env = [some (.m 0), some (.d (tabD tTable R)), some (.d (rowsL R)), some (.d (.int (pl : Int))), some (.d (.int (at_ : Int))), some (.d UU), some (.m (1 + R2.length)), some (.m m1), some (.m (1 + pl)), some (.d (.int R[0][0])), x10, none]) (fun i u env M hu hI => ?_) (fun env M hI => ?_) _ _ _ _ ?_ ⟨none, rfl, rfl⟩
  · obtain ⟨x10, rfl, rfl⟩ := hI
    obtain ⟨S, hS, rfl⟩ : ∃ S ∈ U, u = .d (rowsL S) := by
      rw [List.getElem?_map, List.getElem?_map] at hu
      cases e : U[i]? with
      | none => rw [e] at hu; cases hu
      | some S => rw [e] at hu; cases hu; exact ⟨S, List.mem_of_getElem? e, rfl⟩
    have gS := hU S hS
    have mk := fun M => mk01 (M := M) gS.few gS.ok
    have t1 : ∀ M, ownw tTable (callR 0 2 m_TableU_eqU) (.d (tabD tTable R)) (.d (tabD tTable S)) M = .ok (.d (.bl (decide (S = R)))) M := fun M => by
      rw [tab_eq hG.few gS.few]
      congr 3
      exact decide_eq_decide.mpr ⟨fun z => z.symm, fun z => z.symm⟩
    have t2 : ∀ M, ownw tTable (callR 0 2 m_TableU_eqU) (.d (tabD tTable S)) (.d (tabD tTable R)) M = .ok (.d (.bl (decide (S = R)))) M := fun M => tab_eq gS.few hG.few
    have sm : ∀ (b : Bool) (M : Sto), callR 0 2 (g_same tsOwn 40) [.d (.lst [.bl b, .bl b]), .d (.lst [.bl b, .bl b])] M = .ok (.d (.bl true)) M := fun b M => same_call (n := 1) ⟨z5, fun x hx => by
      simp only [List.mem_cons, List.not_mem_nil, or_false] at hx
      rcases hx with rfl | rfl <;> exact trivial⟩ (by decide)
    simp! [y_tgN, mk, t1, t2, eqL gS.few hG.few, z5, e_same, sm]
    exact ⟨_, rfl⟩
  · obtain ⟨x10, rfl, rfl⟩ := hI
    simp! [DL.is_ok]
    exact ⟨hp2.below, p2, rfl, hp2⟩
  · rw [Nat.zero_add, List.length_map, List.length_map]
theorem exch_call : ∀ (q : MO) (R : List (List Int)) (rest : Sto) (P : PV) (E : PX), PoolIs q → Good R → (∀ q', PoolIs q' → P (.d (.bl true)) (q' :: .fz (rowsL R) :: rest)) → (callR 1 3 m__law_exchanged [.m 0, .d (tabD tTable R), .m 1] (q :: .fz (rowsL R) :: rest)).Is P E := by
  intro q R rest P E hq hG hP
  have e1 : preps 1 [.m 0, .d (tabD tTable R), .m 1] (q :: .fz (rowsL R) :: rest) = some ([.m 0, .d (tabD tTable R), .d (rowsL R)], q :: .fz (rowsL R) :: rest) := by
    have hs : sealW 6 (.m 1) (q :: .fz (rowsL R) :: rest) = some (rowsL R, q :: .fz (rowsL R) :: rest) := seal_fz rfl
    show ((prep 1 (.m 0) _).bind fun p => (preps 1 [.d (tabD tTable R), .m 1] p.2).map fun r => (p.1 :: r.1, r.2)) = _
    have hp : prep 1 (.m 1) (q :: .fz (rowsL R) :: rest) = some (.d (rowsL R), q :: .fz (rowsL R) :: rest) := by
      unfold prep
      rw [if_neg (by decide), hs]
      rfl
    have hp0 : prep 1 (.m 0) (q :: .fz (rowsL R) :: rest) = some (.m 0, q :: .fz (rowsL R) :: rest) := rfl
    have hpd : prep 1 (.d (tabD tTable R)) (q :: .fz (rowsL R) :: rest) = some (.d (tabD tTable R), q :: .fz (rowsL R) :: rest) := rfl
    rw [hp0, Option.bind_some, preps, hpd]
    simp only [Option.bind_some, preps, hp, Option.map_some]
  have e2 : preps 1 [.m 0, .d (tabD tTable R), .d (rowsL R)] (q :: .fz (rowsL R) :: rest) = some ([.m 0, .d (tabD tTable R), .d (rowsL R)], q :: .fz (rowsL R) :: rest) := rfl
  have e3 : callR 1 3 m__law_exchanged [.m 0, .d (tabD tTable R), .m 1] (q :: .fz (rowsL R) :: rest) = callR 1 3 m__law_exchanged [.m 0, .d (tabD tTable R), .d (rowsL R)] (q :: .fz (rowsL R) :: rest) := by
    unfold callR
    rw [e1, e2]
    rfl
  rw [e3]
  refine Rs.Is.any <| call1 (xs := [tabD tTable R, rowsL R]) rfl hq.below ((exch_is hq hG).imp (fun w M' h => ?_) fun _ _ z => z) fun _ _ z => z
  obtain ⟨p', rfl, rfl, hp'⟩ := h
  exact ⟨_, p', rfl, rfl, hp'.below, hP p' hp'⟩
theorem law_math0 (L2 : ∀ (p : MO) (R : List (List Int)) (sc : D) (c w : Int) (x5 x8 x16 x18 x21 : Option Wv), PoolIs p → RowsB R →
    (law2 [some (.d sc), some (.m 0), some (.d (.int c)), some (.d (.int w)), some (.m 1), x5, none, none, x8, none, none, none, none, none, none, none, x16, none, x18, none, none, x21, none] (stR p R)).Is LawEnd nox) : ∀ ns : List Int, ns.length ≤ 63 → ∃ M, m_law [.d (.scr (ns.map .int))] [] = .ok (.d (.bl true)) M := by
  intro ns hns
  have h : (m_law [.d (.scr (ns.map .int))] []).Is (fun w _ => w = .d (.bl true)) nox := by
    rw [m_law, y_fnD, b_law]
    have size : 1000 ≤ sizeLine := by decide
    simp! [e_pool]
    refine poolA_is fun p hp => ?_
    generalize D.scr (ns.map .int) = sc at *
    simp! [e_draw]
    refine draw1 (s := 8) (by decide) (by decide) hp fun v1 p1 v10 v11 hp1 => ?_
    simp! [e_draw]
    refine draw1 (s := 11) (by decide) (by decide) hp1 fun v2 p2 v20 v21 hp2 => ?_
    simp! [e_draw]
    refine draw1 (s := 4) (by decide) (by decide) hp2 fun v3 p3 v30 v31 hp3 => ?_
    obtain ⟨n, hn, n10⟩ : ∃ n : Nat, (if v3 = 0 then Wv.d (.int v2) else .d (.int (1 + v1))) = .d (.int (n : Int)) ∧ n ≤ 10 := by
      by_cases h : v3 = 0
      · exact ⟨v2.toNat, by rw [if_pos h, Int.toNat_of_nonneg v20], by omega⟩
      · exact ⟨(1 + v1).toNat, by rw [if_neg h, Int.toNat_of_nonneg (by omega)], by omega⟩
    simp! [pick2, hn, e_draw]
    refine draw1 (s := 8) (by decide) (by decide) hp3 fun v4 p4 v40 v41 hp4 => ?_
    simp! [e_draw]
    refine draw1 (s := 11) (by decide) (by decide) hp4 fun v5 p5 v50 v51 hp5 => ?_
    simp! [e_draw]
    refine draw1 (s := 4) (by decide) (by decide) hp5 fun v6 p6 v60 v61 hp6 => ?_
    obtain ⟨w, hw, w10⟩ : ∃ n : Nat, (if v6 = 0 then Wv.d (.int v5) else .d (.int (1 + v4))) = .d (.int (n : Int)) ∧ n ≤ 10 := by
      by_cases h : v6 = 0
      · exact ⟨v5.toNat, by rw [if_pos h, Int.toNat_of_nonneg v50], by omega⟩
      · exact ⟨(1 + v4).toNat, by rw [if_neg h, Int.toNat_of_nonneg (by omega)], by omega⟩
    have nl : n ≤ sizeLine := by omega
    have z0 : 0 ≤ sizeLine := Nat.zero_le _
    simp! [pick2, hw, rng0_is nl, z0]
    generalize hRR : kSeq _ _ _ = RR
    refine for_is (fun i env M => ∃ (q : MO) (R : List (List Int)) (x5 x16 : Option Wv), PoolIs q ∧ M = stR q R ∧ R.length = i ∧ (∀ r ∈ R, r.length ≤ 11) ∧ env = [some (.d sc), some (.m 0), some (.d (.int (n : Int))), some (.d (.int (w : Int))), some (.m 1), x5, none, none, none, none, none, none, none, none, none, none, x16, none, none, none, none, none, none]) (fun i u env M hu hI => ?_) (fun env M hI => ?_) _ _ _ _ (by rw [Nat.zero_add]) ⟨p6, [], none, none, hp6, rfl, rfl, (fun r hr => by cases hr), rfl⟩
    · clear hRR L2
      obtain ⟨q, R, x5, x16, hq, rfl, hR, hb, rfl⟩ := hI
      have hi : i < n := by
        have := (List.getElem?_eq_some_iff.mp hu).1
        rw [rngL_len] at this
        exact this
      unfold stR
      simp! [y_tgN, e_draw]
      refine draw1 (s := 3) (by decide) (by decide) hq fun v7 p7 v70 v71 hp7 => ?_
      simp! [e_draw]
      refine draw1 (s := 20) (by decide) (by decide) hp7 fun v8 p8 v80 v81 hp8 => ?_
      obtain ⟨k, hk, hk1⟩ : ∃ k : Int, (v7 - 1) * (if decide (v8 = 0) = true then 1 else 0) = k ∧ k ≤ 1 := by
        by_cases h : v8 = 0
        · rw [decide_eq_true h, if_pos rfl]
          exact ⟨_, rfl, by omega⟩
        · rw [decide_eq_false h, if_neg (by decide)]
          exact ⟨_, rfl, by omega⟩
      have hmul : dMul (.int (v7 - 1)) (.int (if decide (v8 = 0) = true then 1 else 0)) = some (.int k) := by
        rw [mul_small (by cases decide (v8 = 0) <;> decide), hk]
      obtain ⟨m, hm, m11⟩ : ∃ m : Nat, (if (w : Int) + k > 0 then (w : Int) + k else 0) = (m : Int) ∧ m ≤ 11 := by
        by_cases h : (w : Int) + k > 0
        · exact ⟨((w : Int) + k).toNat, by rw [if_pos h, Int.toNat_of_nonneg (by omega)], by omega⟩
        · exact ⟨0, by rw [if_neg h]; rfl, by omega⟩
      have ml : m ≤ sizeLine := by omega
      simp! [hmul, max2, hm, rng0_is ml, Option.isSome_some]
      refine kcRP (rest := .lst (refs 2 R.length) :: R.map rowO) m D.int (fun _ => True) ml hp8 (fun i hi p hp => ?_) fun x p9 hl _ hp9 => ?_
      · simp! [y_tgN, e_draw]
        refine draw1 (s := 4) (by decide) (by decide) hp fun u1 q1 u10 u11 hq1 => ?_
        simp! [e_draw]
        refine draw1 (s := 65536) (by decide) (by decide) hq1 fun u2 q2 u20 u21 hq2 => ?_
        simp! [e_draw]
        refine draw1 (s := 2) (by decide) (by decide) hq2 fun u3 q3 u30 u31 hq3 => ?_
        rcases (by omega : u3 = 0 ∨ u3 = 1) with rfl | rfl
        · simp! [DL.is_ok]
          exact ⟨_, _, rfl, rfl, hq3⟩
        · simp! [DL.is_ok]
          exact ⟨_, _, rfl, rfl, hq3⟩
      · have rl : (refs 2 R.length ++ [Wv.m (R.length + 1 + 1)]).length ≤ sizeLine := by
          rw [List.length_append, refs_len, List.length_singleton]
          omega
        simp! [Option.isSome_some]
        refine ⟨rl, p9, R ++ [x], some u, _, hp9, ?_, ?_, fun r hr => ?_, rfl⟩
        · rw [List.length_append, List.length_singleton, refs_succ, List.map_append, Nat.add_comm 2]
          rfl
        · rw [List.length_append, hR]
          rfl
        · rcases List.mem_append.mp hr with h | h
          · exact hb r h
          · rw [List.mem_singleton.mp h, hl]
            exact m11
    · obtain ⟨q, R, x5, x16, hq, rfl, hR, hb, rfl⟩ := hI
      rw [rngL_len] at hR
      rw [← hRR]
      have hB : RowsB R := ⟨by omega, hb⟩
      unfold stR
      simp! [e_draw]
      refine draw1 (s := 4) (by decide) (by decide) hq fun v7 p7 v70 v71 hp7 => ?_
      have hq7 : ∀ x8 x18 x21 R p, PoolIs p → RowsB R → (law2 [some (.d sc), some (.m 0), some (.d (.int (n : Int))), some (.d (.int (w : Int))), some (.m 1), x5, none, none, x8, none, none, none, none, none, none, none, x16, none, x18, none, none, x21, none] (stR p R)).Is LawEnd nox := fun x8 x18 x21 R p hp hB => L2 p R sc _ _ x5 x8 x16 x18 x21 hp hB
      generalize hKK : kSeq _ _ _ = KK
      have done : ∀ x8 x18 x21 R p, PoolIs p → RowsB R → KK (.nx [some (.d sc), some (.m 0), some (.d (.int (n : Int))), some (.d (.int (w : Int))), some (.m 1), x5, none, none, x8, none, none, none, none, none, none, none, x16, none, x18, none, none, x21, none]) (stR p R) := by
        intro x8 x18 x21 R p hp hB
        rw [← hKK, kSeq_nx]
        refine (hq7 x8 x18 x21 R p hp hB).imp (fun o M h => ?_) fun _ _ z => z
        rw [LawEnd] at h
        rw [h]
        simp! [y_outCd0]
      clear hKK hRR hq7 L2
      by_cases h0 : v7 = 0
      rotate_left
      · simp! [decide_eq_false h0]
        exact done none none none R p7 hp7 hB
      by_cases hn0 : 0 < n
      rotate_left
      · have hn1 : ¬ (0 : Int) < (n : Int) := by omega
        simp! [decide_eq_true h0, decide_eq_false hn1]
        exact done none none none R p7 hp7 hB
      have hn1 : (0 : Int) < (n : Int) := by omega
      by_cases hw0 : 0 < w
      rotate_left
      · have hw1 : ¬ (0 : Int) < (w : Int) := by omega
        simp! [decide_eq_true h0, decide_eq_true hn1, decide_eq_false hw1]
        exact done none none none R p7 hp7 hB
      have hw1 : (0 : Int) < (w : Int) := by omega
      have hlast : ∀ (p : MO) (R : List (List Int)) (P : PV) (E : PX), R.length = n → (ixw (.m 1) (.d (.int (-1))) (p :: .lst (refs 2 R.length) :: R.map rowO)).Is P E = P (.m (2 + (n - 1))) (p :: .lst (refs 2 R.length) :: R.map rowO) := fun p R P E hR => ix_m (ws := refs 2 R.length) rfl (atI_last (n := n - 1) (by rw [refs_len]; omega) (refs_get (by omega)))
      have hlen : ∀ (p : MO) (R : List (List Int)) (i : Nat) (h : i < R.length) (P : PV) (E : PX), (lenw (.m (2 + i)) (p :: .lst (refs 2 R.length) :: R.map rowO)).Is P E = P (.d (.int (R[i].length : Int))) (p :: .lst (refs 2 R.length) :: R.map rowO) := fun p R i h P E => by
        have hq : (p :: MO.lst (refs 2 R.length) :: R.map rowO)[2 + i]? = some (.lst ((R[i].map D.int).map .d)) := st_row (p := p) h
        rw [len_m hq, List.length_map, List.length_map]
      have hin : n - 1 < R.length := by omega
      by_cases hl0 : (0 : Int) < (R[n - 1].length : Int)
      rotate_left
      · simp! [decide_eq_true h0, decide_eq_true hn1, decide_eq_true hw1, hlast p7 R _ _ hR, hlen p7 R _ hin, decide_eq_false hl0]
        exact done none none none R p7 hp7 hB
      simp! [decide_eq_true h0, decide_eq_true hn1, decide_eq_true hw1, hlast p7 R _ _ hR, hlen p7 R _ hin, decide_eq_true hl0, e_draw]
      refine draw1 (s := 2) (by decide) (by decide) hp7 fun v8 p8 v80 v81 hp8 => ?_
      obtain ⟨t, ht, t2⟩ : ∃ t : Nat, 1 + v8 = (t : Int) ∧ t ≤ 2 := ⟨(1 + v8).toNat, by omega, by omega⟩
      have tl : t ≤ sizeLine := by omega
      simp! [ht, rng0_is tl]
      refine for_is (fun i env M => ∃ (q : MO) (R : List (List Int)) (x8 x18 x21 : Option Wv), PoolIs q ∧ M = stR q R ∧ R.length = n ∧ (∀ r ∈ R, r.length ≤ 11) ∧ env = [some (.d sc), some (.m 0), some (.d (.int (n : Int))), some (.d (.int (w : Int))), some (.m 1), x5, none, none, x8, none, none, none, none, none, none, none, x16, none, x18, none, none, x21, none]) (fun i u env M hu hI => ?_) (fun env M hI => ?_) _ _ _ _ (by rw [Nat.zero_add]) ⟨p8, R, none, none, none, hp8, rfl, hR, hb, rfl⟩
      · obtain ⟨q, R, x8, x18, x21, hq, rfl, hR, hb, rfl⟩ := hI
        unfold stR
        have hlenR : ∀ (p : MO) (P : PV) (E : PX), (lenw (.m 1) (p :: .lst (refs 2 R.length) :: R.map rowO)).Is P E = P (.d (.int (n : Int))) (p :: .lst (refs 2 R.length) :: R.map rowO) := fun p P E => by
          rw [len_m (ws := refs 2 R.length) rfl, refs_len, hR]
        simp! [y_tgN, e_draw, hlenR]
        refine draw1 (s := (n : Int)) hn1 (by omega) hq fun v9 p9 v90 v91 hp9 => ?_
        obtain ⟨j, rfl⟩ := nat_of v90
        have hj : j < R.length := by omega
        have hix : ∀ (p : MO) (P : PV) (E : PX), (ixw (.m 1) (.d (.int (j : Int))) (p :: .lst (refs 2 R.length) :: R.map rowO)).Is P E = P (.m (2 + j)) (p :: .lst (refs 2 R.length) :: R.map rowO) := fun p P E => ix_m (ws := refs 2 R.length) rfl (atI_get (refs_get hj))
        simp! [hix, e_draw]
        refine draw1 (s := 3) (by decide) (by decide) hp9 fun u1 q1 u10 u11 hq1 => ?_
        simp! [pow_9, e_draw]
        refine draw1 (s := 1000000000) (by decide) (by decide) hq1 fun u2 q2 u20 u21 hq2 => ?_
        simp! [e_draw]
        refine draw1 (s := 3) (by decide) (by decide) hq2 fun u3 q3 u30 u31 hq3 => ?_
        simp! [e_draw]
        refine draw1 (s := 70000) (by decide) (by decide) hq3 fun u4 q4 u40 u41 hq4 => ?_
        have hlenj := fun p => hlen p R j hj
        obtain ⟨L, hL⟩ : ∃ L, R[j].length = L := ⟨_, rfl⟩
        rw [hL] at hlenj
        by_cases L0 : (0 : Int) < (L : Int)
        · simp! [hlenj, decide_eq_true L0, e_draw]
          rw [y_asgG]
          simp! [e_draw]
          refine draw1 (s := 5) (by decide) (by decide) hq4 fun u5 q5 u50 u51 hq5 => ?_
          obtain ⟨x, hx⟩ : ∃ x : Int, L2.atI [Wv.d (.int 65535), .d (.int (65536 + u1)), .d (.int (65536 + u2)), .d (.int (-1 - u3)), .d (.int (-1 - u4))] u5 = some (.d (.int x)) := by
            rcases (by omega : u5 = 0 ∨ u5 = 1 ∨ u5 = 2 ∨ u5 = 3 ∨ u5 = 4) with rfl | rfl | rfl | rfl | rfl
            · exact ⟨_, rfl⟩
            · exact ⟨_, rfl⟩
            · exact ⟨_, rfl⟩
            · exact ⟨_, rfl⟩
            · exact ⟨_, rfl⟩
          simp! [hx]
          rw [kAsg_g]
          refine tgS_at (i := 8) (k := 2 + j) rfl ?_
          simp! [hlenj, e_draw]
          refine draw1 (s := (L : Int)) L0 (by have := hb _ (List.getElem_mem hj); omega) hq5 fun u6 q6 u60 u61 hq6 => ?_
          obtain ⟨i2, rfl⟩ := nat_of u60
          refine ⟨i2, (R[j].map D.int).map .d, rfl, st_row (p := q6) hj, by rw [List.length_map, List.length_map]; omega, ?_⟩
          have hset : (q6 :: MO.lst (refs 2 R.length) :: R.map rowO).set (2 + j) (.lst (((R[j].map D.int).map Wv.d).set i2 (.d (.int x)))) = stR q6 (R.set j (R[j].set i2 x)) := by
            rw [← List.map_set, ← List.map_set]
            exact st_set
          refine ⟨q6, R.set j (R[j].set i2 x), _, _, _, hq6, hset, by rw [List.length_set]; exact hR, fun r hr => ?_, rfl⟩
          rcases List.mem_or_eq_of_mem_set hr with h | h
          · exact hb r h
          · rw [h, List.length_set]
            exact hb _ (List.getElem_mem hj)
        · simp! [hlenj, decide_eq_false L0]
          exact ⟨q4, R, _, _, _, hq4, rfl, hR, hb, rfl⟩
      · obtain ⟨q, R, x8, x18, x21, hq, rfl, hR, hb, rfl⟩ := hI
        exact done x8 x18 x21 R q hq ⟨by omega, hb⟩
  obtain ⟨w, M, e, rfl⟩ := h.out
  exact ⟨M, e⟩
theorem law_math : ∀ ns : List Int, ns.length ≤ 63 → ∃ M, m_law [.d (.scr (ns.map .int))] [] = .ok (.d (.bl true)) M :=
  law_math0 (law2_is (law2b_is (law3_is exch_call (law4_is law5_is))))
end K01

set_option maxHeartbeats 0
open PySem PySem.W PyProof.Rows
open_top hd for PySem.Challenge.rw_splittalk_k01_tables_that_are_none
set_option maxRecDepth 100000 in
set_option maxHeartbeats 0 in
theorem PySem.Challenge.cw_splittalk_k01_tables_that_are_none_holds : PySem.Challenge.rw_splittalk_k01_tables_that_are_none.Holds := by
  refine hd ?_
  k_fill
  refine L2.walk_of (l := PySem.Challenge.rw_splittalk_k01_tables_that_are_none) (n := 63) (k := 43) (x := "_law_script") (CX := fun w => L2.CX (PySem.Challenge.rw_splittalk_k01_tables_that_are_none).prog w) (sp := fun w => DL.spLaw _) rfl (by decide) rfl ⟨rfl, by decide, by decide⟩ (fun w h Y => PySem.W.kIn_of Y) ?F (fun _ _ a ns hl _ hS => ⟨a, ns, rfl, hl, hS, fun _ => rfl⟩) (fun w H s e s' h => DL.cx_no h)
  case F =>
    intro w mg fa h KX G hmg
    refine' K01.all_mk KX G hmg ?g_Table ?pg_Table ?hd_Table ?po_Table ?sa_Table ?ha_Table ?hm_Table ?hn0 ?htk0 ?g_BadPaper ?g_BadRatio ?g_BadTable ?g_BadTalk ?g_BadText ?g_TalkError ?g_TooLarge ?xL_BadTable ?xS_BadTable ?xE_BadTable ?xT_BadTable ?xK_BadTable ?xG_BadTable ?xH_BadTable ?xC_BadTable ?xM_BadTable ?xD_BadTable ?xi_BadTable ?xt_BadTable ?l_BadTableU_initU ?cd1_BadTableU_initU ?lc_BadTableU_initU ?fv_BadTableU_initU ?ff_BadTableU_initU ?cl_BadTableU_initU ?su_BadTableU_initU ?ks_BadTableU_initU ?sv_BadTableU_initU ?tp0 ?top0 ?z_super ?g__law_pool ?l__law_pool ?cd1__law_pool ?k__law_pool ?g__law_bad ?l__law_bad ?cd1__law_bad ?k__law_bad ?g__law_draw ?l__law_draw ?cd1__law_draw ?k__law_draw ?g_results ?l_results ?cd1_results ?k_results ?g_TableU_initU ?i_TableU_initU ?m_TableU_initU ?kp_Table ?l_TableU_initU ?cd1_TableU_initU ?k_TableU_initU ?g__law_same ?l__law_same ?cd1__law_same ?k__law_same ?g__law_exchanged ?l__law_exchanged ?cd1__law_exchanged ?k__law_exchanged ?g_TableU_eqU ?i_TableU_eqU ?l_TableU_eqU ?cd1_TableU_eqU ?k_TableU_eqU ?g_whole ?l_whole ?cd1_whole ?k_whole ?g_law ?l_law ?cd1_law ?k_law ?n_BadTable_what ?n_Table_rows ?q0_Table ?q1_Table ?q2_Table ?q3_Table ?q4_Table ?q5_Table ?q6_Table ?q7_Table ?xz_BadTable_TalkError ?xE_TalkError ?xT_TalkError ?xD_TalkError ?xo_BadTable_BadPaper ?xo_BadTable_BadRatio ?xo_BadTable_BadTalk ?xo_BadTable_BadText ?xo_BadTable_TooLarge ?xo_BadTable_BadTable ?w0_Table ?w1_Table ?w2_Table ?w3_Table ?w4_Table ?z_any ?z_bool ?z_int ?z_isinstance ?z_len ?z_list ?z_max ?z_min ?z_range ?z_set ?z_sorted ?z_str ?z_tuple ?g_GREATEST ?g_MOST_VALUES K01.law_math
    (case g_Table => k_is)
    (case pg_Table => k_is)
    (case hd_Table => k_is)
    (case po_Table => k_is)
    (case sa_Table => k_is)
    (case ha_Table => k_is)
    (case hm_Table => k_is)
    (case hn0 => k_is)
    (case htk0 => k_is)
    (case g_BadPaper => k_is)
    (case g_BadRatio => k_is)
    (case g_BadTable => k_is)
    (case g_BadTalk => k_is)
    (case g_BadText => k_is)
    (case g_TalkError => k_is)
    (case g_TooLarge => k_is)
    (case xL_BadTable => k_is)
    (case xS_BadTable => k_is)
    (case xE_BadTable => k_is)
    (case xT_BadTable => k_is)
    (case xK_BadTable => k_is)
    (case xG_BadTable => k_is)
    (case xH_BadTable => k_is)
    (case xC_BadTable => k_is)
    (case xM_BadTable => k_is)
    (case xD_BadTable => k_is)
    (case xi_BadTable => k_is)
    (case xt_BadTable => k_is)
    (case l_BadTableU_initU => k_is)
    (case cd1_BadTableU_initU => k_is)
    (case lc_BadTableU_initU => k_is)
    (case fv_BadTableU_initU => rfl)
    (case ff_BadTableU_initU => decide +kernel)
    (case cl_BadTableU_initU => k_is)
    (case su_BadTableU_initU => k_is)
    (case ks_BadTableU_initU => ks_is)
    (case sv_BadTableU_initU => k_is)
    (case tp0 => k_is)
    (case top0 => decide +kernel)
    (case z_super => k_is)
    (case g__law_pool => k_is)
    (case l__law_pool => k_is)
    (case cd1__law_pool => k_is)
    (case k__law_pool => k_is)
    (case g__law_bad => k_is)
    (case l__law_bad => k_is)
    (case cd1__law_bad => k_is)
    (case k__law_bad => k_is)
    (case g__law_draw => k_is)
    (case l__law_draw => k_is)
    (case cd1__law_draw => k_is)
    (case k__law_draw => k_is)
    (case g_results => k_is)
    (case l_results => k_is)
    (case cd1_results => k_is)
    (case k_results => k_is)
    (case g_TableU_initU => k_is)
    (case i_TableU_initU => k_is)
    (case m_TableU_initU => k_is)
    (case kp_Table => k_is)
    (case l_TableU_initU => k_is)
    (case cd1_TableU_initU => k_is)
    (case k_TableU_initU => k_is)
    (case g__law_same => k_is)
    (case l__law_same => k_is)
    (case cd1__law_same => k_is)
    (case k__law_same => k_is)
    (case g__law_exchanged => k_is)
    (case l__law_exchanged => k_is)
    (case cd1__law_exchanged => k_is)
    (case k__law_exchanged => k_is)
    (case g_TableU_eqU => k_is)
    (case i_TableU_eqU => k_is)
    (case l_TableU_eqU => k_is)
    (case cd1_TableU_eqU => k_is)
    (case k_TableU_eqU => k_is)
    (case g_whole => k_is)
    (case l_whole => k_is)
    (case cd1_whole => k_is)
    (case k_whole => k_is)
    (case g_law => k_is)
    (case l_law => k_is)
    (case cd1_law => k_is)
    (case k_law => k_is)
    (case n_BadTable_what => k_is)
    (case n_Table_rows => k_is)
    (case q0_Table => kit_is)
    (case q1_Table => kit_is)
    (case q2_Table => kit_is)
    (case q3_Table => kit_is)
    (case q4_Table => kit_is)
    (case q5_Table => kit_is)
    (case q6_Table => kit_is)
    (case q7_Table => kit_is)
    (case xz_BadTable_TalkError => k_is)
    (case xE_TalkError => k_is)
    (case xT_TalkError => k_is)
    (case xD_TalkError => k_is)
    (case xo_BadTable_BadPaper => kit_is)
    (case xo_BadTable_BadRatio => kit_is)
    (case xo_BadTable_BadTalk => kit_is)
    (case xo_BadTable_BadText => kit_is)
    (case xo_BadTable_TooLarge => kit_is)
    (case xo_BadTable_BadTable => kit_is)
    (case w0_Table => kit_is)
    (case w1_Table => kit_is)
    (case w2_Table => kit_is)
    (case w3_Table => kit_is)
    (case w4_Table => kit_is)
    (case z_any => k_is)
    (case z_bool => k_is)
    (case z_int => k_is)
    (case z_isinstance => k_is)
    (case z_len => k_is)
    (case z_list => k_is)
    (case z_max => k_is)
    (case z_min => k_is)
    (case z_range => k_is)
    (case z_set => k_is)
    (case z_sorted => k_is)
    (case z_str => k_is)
    (case z_tuple => k_is)
    (case g_GREATEST => k_is)
    (case g_MOST_VALUES => k_is)
