import PyProof.Rows.All
import Wide.All
import OpenK.AllK
import Wide.FinOn
import HandS.ForMost
import HandS.ForExc
import HandS.Gcd
import HandS.IsInst
import HandS.Wide
import HandS.WideBits
import HandS.HeadHook1
import HandS.HeadHook2
import HandS.HeadHook3
import HandS.TupAny
import HandS.RaiseMore
import HandS.Defaults
import HandS.Zip
import HandS.Comp
import HandS.TryOnly
import HandS.ExcIs
import HandS.Conv
import PyProof.StrBlock2
import HandS.Head0
import HandS.Head1
import HandS.Head2
import HandS.Head3
import HandS.HeadEnd
import HandS.HeadHook4
import KE.KMathGC
import HandS.List
import HandS.Deep
import HandS.More
import KE.SortData
import KE.DataMinMax
import HandS.TupMul
import PyProof.P3Eq
import PySem.Challenge.RW_leadersets_k01_points_and_directions
set_option Elab.async false
set_option linter.all false
set_option maxRecDepth 100000
set_option maxHeartbeats 4000000
/-! FL1: typed readings: mirrors, representations, worlds, environments, expressions. -/
namespace FL
open PySem L2

/-! ### mirrors -/
/-- what a mirror gives: a value; an exception of the class named c with its fields; nothing (beyond what is covered) -/
inductive Xc (α : Type) where
  | ok (a : α)
  | er (c : Str) (fs : List (Str × V))
  | no
def Xc.bind {α β : Type} (m : Xc α) (k : α → Xc β) : Xc β := match m with
  | .ok a => k a
  | .er c fs => .er c fs
  | .no => .no
instance : Monad Xc where
  pure := .ok
  bind := Xc.bind
theorem bind_ok {α β : Type} (a : α) (k : α → Xc β) : Xc.bind (.ok a) k = k a := rfl
theorem bind_er {α β : Type} (c fs) (k : α → Xc β) : Xc.bind (.er c fs) k = .er c fs := rfl
theorem bind_no {α β : Type} (k : α → Xc β) : Xc.bind .no k = .no := rfl
theorem bind_assoc {α β γ : Type} (m : Xc α) (k : α → Xc β) (l : β → Xc γ) : (m.bind k).bind l = m.bind fun a => (k a).bind l := by cases m <;> rfl
theorem bind_pure {α : Type} (m : Xc α) : (m.bind fun a => .ok a) = m := by cases m <;> rfl
theorem mbind {α β : Type} (m : Xc α) (k : α → Xc β) : (m >>= k) = m.bind k := rfl
theorem mpure {α : Type} (a : α) : (pure a : Xc α) = .ok a := rfl
theorem bind_eq_ok {α β : Type} {m : Xc α} {k : α → Xc β} {b : β} : m.bind k = .ok b ↔ ∃ a, m = .ok a ∧ k a = .ok b := by
  cases m with
  | ok a =>
    constructor
    · intro h; exact ⟨a, rfl, h⟩
    · rintro ⟨_, e, h⟩; cases e; exact h
  | er c fs =>
    constructor
    · intro h; cases h
    · rintro ⟨_, e, _⟩; cases e
  | no =>
    constructor
    · intro h; cases h
    · rintro ⟨_, e, _⟩; cases e

/-! ### representations: a Lean value stands at a Python value, in the frozen heap F -/
class Rp (α : Type) where
  is : PySem.W.Frag → Hp → V → α → Prop
  mono : ∀ {K F F' v a}, Same F F' → is K F v a → is K F' v a
theorem Same.seqT {K : PySem.W.Frag} {H H' : Hp} {a : Addr} {xs : List V} (e : Same H H') (h : SqT K H a xs) : SqT K H' a xs := by
  rcases h with (h | ⟨o, h⟩) | h
  · exact .inl (.inl (e _ _ h))
  · exact .inl (.inr ⟨o, e _ _ h⟩)
  · exact .inr h
instance : Rp Int := ⟨fun _ _ v a => v = .int a, fun _ h => h⟩
instance : Rp Bool := ⟨fun _ _ v a => v = .bl a, fun _ h => h⟩
instance : Rp Str := ⟨fun _ _ v a => v = .str a ∧ a.length ≤ sizeLine, fun _ h => h⟩
instance : Rp Unit := ⟨fun _ _ v _ => v = .non, fun _ h => h⟩
instance {α : Type} [Rp α] : Rp (Option α) := ⟨fun K F v a => match a with
  | none => v = .non
  | some a => v ≠ .non ∧ Rp.is K F v a, fun {K F F' v a} s h => by
    cases a with
    | none => exact h
    | some a => exact ⟨h.1, Rp.mono s h.2⟩⟩
/-- all of a list -/
inductive Al {α : Type} [Rp α] (K : PySem.W.Frag) (F : Hp) : List V → List α → Prop where
  | nil : Al K F [] []
  | cons {v vs a as} : Rp.is K F v a → Al K F vs as → Al K F (v :: vs) (a :: as)
section
variable {α β γ : Type} [Rp α] [Rp β] {K : PySem.W.Frag} {F F' : Hp}
theorem Al.mono (s : Same F F') {vs : List V} {as : List α} (h : Al K F vs as) : Al K F' vs as := by
  induction h with
  | nil => exact .nil
  | cons h _ ih => exact .cons (Rp.mono s h) ih
theorem Al.len {vs : List V} {as : List α} (h : Al K F vs as) : vs.length = as.length := by
  induction h with
  | nil => rfl
  | cons _ _ ih => simp [ih]
theorem Al.get {vs : List V} {as : List α} (h : Al K F vs as) : ∀ {i : Nat} {v : V}, vs[i]? = some v → ∃ a, as[i]? = some a ∧ Rp.is K F v a := by
  induction h with
  | nil => intro i v e; simp at e
  | cons h _ ih =>
    intro i v e
    cases i with
    | zero => simp at e; subst e; exact ⟨_, rfl, h⟩
    | succ i => simp at e; obtain ⟨a, e2, r⟩ := ih e; exact ⟨a, by simpa using e2, r⟩
theorem Al.get' {vs : List V} {as : List α} (h : Al K F vs as) : ∀ {i : Nat} {a : α}, as[i]? = some a → ∃ v, vs[i]? = some v ∧ Rp.is K F v a := by
  induction h with
  | nil => intro i v e; simp at e
  | cons h _ ih =>
    intro i v e
    cases i with
    | zero => simp at e; subst e; exact ⟨_, rfl, h⟩
    | succ i => simp at e; obtain ⟨a, e2, r⟩ := ih e; exact ⟨a, by simpa using e2, r⟩
theorem Al.app {vs ws : List V} {as bs : List α} (h : Al K F vs as) (h' : Al K F ws bs) : Al K F (vs ++ ws) (as ++ bs) := by
  induction h with
  | nil => exact h'
  | cons h _ ih => exact .cons h ih
theorem Al.snoc {vs : List V} {as : List α} {v : V} {a : α} (h : Al K F vs as) (h' : Rp.is K F v a) : Al K F (vs ++ [v]) (as ++ [a]) := h.app (.cons h' .nil)
theorem Al.take {vs : List V} {as : List α} (h : Al K F vs as) : ∀ n, Al K F (vs.take n) (as.take n) := by
  induction h with
  | nil => intro n; simp; exact .nil
  | cons h _ ih => intro n; cases n with
    | zero => exact .nil
    | succ n => exact .cons h (ih n)
theorem Al.drop {vs : List V} {as : List α} (h : Al K F vs as) : ∀ n, Al K F (vs.drop n) (as.drop n) := by
  induction h with
  | nil => intro n; simp; exact .nil
  | cons h t ih => intro n; cases n with
    | zero => exact .cons h t
    | succ n => exact ih n
theorem Al.set {vs : List V} {as : List α} {v : V} {a : α} (h : Al K F vs as) (r : Rp.is K F v a) : ∀ n, Al K F (vs.set n v) (as.set n a) := by
  induction h with
  | nil => intro n; exact .nil
  | cons h t ih => intro n; cases n with
    | zero => exact .cons r t
    | succ n => exact .cons h (ih n)
theorem Al.repl {v : V} {a : α} (r : Rp.is K F v a) : ∀ n, Al K F (List.replicate n v) (List.replicate n a)
  | 0 => .nil
  | n + 1 => .cons r (Al.repl r n)
end
/-- a Python list -/
instance {α : Type} [Rp α] : Rp (List α) := ⟨fun K F v l => ∃ p xs, v = .ref p ∧ SqL K F p xs ∧ l.length ≤ sizeLine ∧ Al K F xs l, fun s ⟨p, xs, e, h, z, r⟩ => ⟨p, xs, e, Same.seq s h, z, r.mono s⟩⟩
/-- a Python tuple of any length, its items alike -/
def Tu (α : Type) : Type := List α
def Tu.l {α : Type} (t : Tu α) : List α := t
def tu {α : Type} (l : List α) : Tu α := l
instance {α : Type} [Rp α] : Rp (Tu α) := ⟨fun K F v l => ∃ p xs, v = .ref p ∧ SqT K F p xs ∧ (Tu.l l).length ≤ sizeLine ∧ Al K F xs (Tu.l l), fun s ⟨p, xs, e, h, z, r⟩ => ⟨p, xs, e, Same.seqT s h, z, r.mono s⟩⟩
/-- a pair -/
instance {α β : Type} [Rp α] [Rp β] : Rp (α × β) := ⟨fun K F v a => ∃ p x y, v = .ref p ∧ SqT K F p [x, y] ∧ Rp.is K F x a.1 ∧ Rp.is K F y a.2, fun s ⟨p, x, y, e, h, r1, r2⟩ => ⟨p, x, y, e, Same.seqT s h, Rp.mono s r1, Rp.mono s r2⟩⟩
/-- a tuple of three, of four -/
def T3 (α β γ : Type) : Type := α × β × γ
def T4 (α β γ δ : Type) : Type := α × β × γ × δ
def T3.mk {α β γ : Type} (a : α) (b : β) (c : γ) : T3 α β γ := (a, b, c)
def T4.mk {α β γ δ : Type} (a : α) (b : β) (c : γ) (d : δ) : T4 α β γ δ := (a, b, c, d)
def T3.a {α β γ : Type} (t : T3 α β γ) : α := Prod.fst t
def T3.b {α β γ : Type} (t : T3 α β γ) : β := (Prod.snd t).1
def T3.c {α β γ : Type} (t : T3 α β γ) : γ := (Prod.snd t).2
def T4.a {α β γ δ : Type} (t : T4 α β γ δ) : α := Prod.fst t
def T4.b {α β γ δ : Type} (t : T4 α β γ δ) : β := (Prod.snd t).1
def T4.c {α β γ δ : Type} (t : T4 α β γ δ) : γ := (Prod.snd t).2.1
def T4.d {α β γ δ : Type} (t : T4 α β γ δ) : δ := (Prod.snd t).2.2
instance {α β γ : Type} [Rp α] [Rp β] [Rp γ] : Rp (T3 α β γ) := ⟨fun K F v t => ∃ p x y z, v = .ref p ∧ SqT K F p [x, y, z] ∧ Rp.is K F x t.a ∧ Rp.is K F y t.b ∧ Rp.is K F z t.c,
  fun s ⟨p, x, y, z, e, h, r1, r2, r3⟩ => ⟨p, x, y, z, e, Same.seqT s h, Rp.mono s r1, Rp.mono s r2, Rp.mono s r3⟩⟩
instance {α β γ δ : Type} [Rp α] [Rp β] [Rp γ] [Rp δ] : Rp (T4 α β γ δ) := ⟨fun K F v t => ∃ p x y z u, v = .ref p ∧ SqT K F p [x, y, z, u] ∧ Rp.is K F x t.a ∧ Rp.is K F y t.b ∧ Rp.is K F z t.c ∧ Rp.is K F u t.d,
  fun s ⟨p, x, y, z, u, e, h, r1, r2, r3, r4⟩ => ⟨p, x, y, z, u, e, Same.seqT s h, Rp.mono s r1, Rp.mono s r2, Rp.mono s r3, Rp.mono s r4⟩⟩
mutual
theorem dp_mono {K : PySem.W.Frag} {F F' : Hp} (s : Same F F') : ∀ {v : V} {d : PyData}, Dp K F v d → Dp K F' v d
  | _, _, .non => .non
  | _, _, .bl b => .bl b
  | _, _, .int i => .int i
  | _, _, .str x => .str x
  | _, _, .lst h r => .lst (Same.seq s h) (dpa_mono s r)
  | _, _, .tup h r => .tup (Same.seqT s h) (dpa_mono s r)
theorem dpa_mono {K : PySem.W.Frag} {F F' : Hp} (s : Same F F') : ∀ {vs : List V} {ds : List PyData}, DpAll K F vs ds → DpAll K F' vs ds
  | _, _, .nil => .nil
  | _, _, .cons h r => .cons (dp_mono s h) (dpa_mono s r)
end
/-- data of any kind -/
instance : Rp PyData := ⟨fun K F v d => Dp K F v d ∧ SeqAt.shaped d = true, fun s h => ⟨dp_mono s h.1, h.2⟩⟩

/-! ### worlds: the frozen heap F within the heap H; what comes to it is new -/
structure Wd (F H F' H' : Hp) : Prop where
  f : Same F F'
  h : Same H H'
  s : Same F' H'
  n : ∀ a, F' a ≠ none → F a = none → H a = none
theorem Wd.refl {F H : Hp} (s : Same F H) : Wd F H F H := ⟨Same.refl _, Same.refl _, s, fun _ h e => absurd e h⟩
theorem Wd.trans {F H F1 H1 F2 H2 : Hp} (a : Wd F H F1 H1) (b : Wd F1 H1 F2 H2) : Wd F H F2 H2 :=
  ⟨a.f.trans b.f, a.h.trans b.h, b.s, fun p h e => by
    cases q : F1 p with
    | none => exact a.h.free (b.n p h q)
    | some o => exact a.n p (by rw [q]; exact fun z => nomatch z) e⟩
theorem Wd.s0 {F H F' H' : Hp} (a : Wd F H F' H') (b : Same F H) : Same F H' := a.f.trans a.s
theorem Wd.own {F H F' H' : Hp} (w : Wd F H F' H') {p : Addr} {o : HO} (f : F p = none) (h : H p = some o) : F' p = none := by
  cases y : F' p with
  | none => rfl
  | some u =>
    have q := w.n p (by rw [y]; exact fun z => nomatch z) f
    rw [h] at q
    cases q
theorem same_upd {F H : Hp} {p : Addr} {o : HO} (s : Same F H) : Same (upd F p o) (upd H p o) := fun b u e => by
  by_cases q : b = p
  · subst q; rw [upd_same] at e ⊢; exact e
  · rw [upd_ne q] at e ⊢; exact s b u e
theorem same_new {H : Hp} {p : Addr} {o : HO} (h : H p = none) : Same H (upd H p o) := fun b u e => by
  rw [upd_ne (ne_of_none e h)]; exact e
/-- a new frozen object -/
theorem Wd.new {F H : Hp} {p : Addr} {o : HO} (s : Same F H) (h : H p = none) : Wd F H (upd F p o) (upd H p o) :=
  ⟨same_new (s.free h), same_new h, same_upd s, fun b h' e => by
    by_cases q : b = p
    · subst q; exact h
    · rw [upd_ne q] at h'; exact absurd e h'⟩
/-- a new object that is not frozen -/
theorem Wd.newO {F H : Hp} {p : Addr} {o : HO} (s : Same F H) (h : H p = none) : Wd F H F (upd H p o) :=
  ⟨Same.refl _, same_new h, fun b u e => same_new h b u (s b u e), fun b h' e => absurd e h'⟩

/-! ### environments -/
structure EnvT (γ : Type) where
  rel : PySem.W.Frag → Hp → Hp → Hp → St → γ → Prop
  own : St → List Addr
  mono : ∀ {K H0 F H F' H' σ g}, rel K H0 F H σ g → Wd F H F' H' → rel K H0 F' H' σ g
  mu : ∀ {K H0 F H σ g p o}, rel K H0 F H σ g → p ∉ own σ → rel K H0 F (upd H p o) σ g
  al : ∀ {K H0 F H σ g p}, rel K H0 F H σ g → p ∈ own σ → H0 p = none ∧ F p = none ∧ ∃ xs, H p = some (HO.lst xs)
def nl : EnvT Unit := ⟨fun _ _ _ _ _ _ => True, fun _ => [], fun h _ => h, fun h _ => h, fun _ h => by cases h⟩
/-- a slot with a value -/
def va (α : Type) {γ : Type} [Rp α] (G : EnvT γ) : EnvT (α × γ) where
  rel := fun K H0 F H σ g => ∃ v σ', σ = some v :: σ' ∧ Rp.is K F v g.1 ∧ G.rel K H0 F H σ' g.2
  own := fun σ => G.own σ.tail
  mono := fun ⟨v, σ', e, r, h⟩ w => ⟨v, σ', e, Rp.mono w.f r, G.mono h w⟩
  mu := fun ⟨v, σ', e, r, h⟩ n => ⟨v, σ', e, r, G.mu h (by subst e; exact n)⟩
  al := fun ⟨v, σ', e, r, h⟩ n => G.al h (by subst e; exact n)
/-- a slot that does not matter -/
def un {γ : Type} (G : EnvT γ) : EnvT γ where
  rel := fun K H0 F H σ g => ∃ v σ', σ = v :: σ' ∧ G.rel K H0 F H σ' g
  own := fun σ => G.own σ.tail
  mono := fun ⟨v, σ', e, h⟩ w => ⟨v, σ', e, G.mono h w⟩
  mu := fun ⟨v, σ', e, h⟩ n => ⟨v, σ', e, G.mu h (by subst e; exact n)⟩
  al := fun ⟨v, σ', e, h⟩ n => G.al h (by subst e; exact n)
def adr : St → List Addr
  | some (.ref p) :: _ => [p]
  | _ => []
/-- a slot with a list of one's own -/
def ow (α : Type) {γ : Type} [Rp α] (G : EnvT γ) : EnvT (List α × γ) where
  rel := fun K H0 F H σ g => ∃ p σ' xs, σ = some (.ref p) :: σ' ∧ H0 p = none ∧ F p = none ∧ H p = some (HO.lst xs) ∧ g.1.length ≤ sizeLine ∧ Al K F xs g.1 ∧ p ∉ G.own σ' ∧ G.rel K H0 F H σ' g.2
  own := fun σ => adr σ ++ G.own σ.tail
  mono := fun ⟨p, σ', xs, e, h0, f, h, z, r, n, q⟩ w => ⟨p, σ', xs, e, h0, w.own f h, w.h _ _ h, z, r.mono w.f, n, G.mono q w⟩
  mu := fun {K H0 F H σ g b o} ⟨p, σ', xs, e, h0, f, h, z, r, n, q⟩ m => by
    subst e
    have m2 : b ≠ p ∧ b ∉ G.own σ' := by
      constructor
      · intro q; exact m (by simp [adr, q])
      · intro q; exact m (by simp [q])
    exact ⟨p, σ', xs, rfl, h0, f, by rw [upd_ne (Ne.symm m2.1)]; exact h, z, r, n, G.mu q m2.2⟩
  al := fun {K H0 F H σ g b} ⟨p, σ', xs, e, h0, f, h, z, r, n, q⟩ m => by
    subst e
    rcases List.mem_append.mp m with m | m
    · have e : b = p := by simpa [adr] using m
      subst e
      exact ⟨h0, f, xs, h⟩
    · exact G.al q m

/-- the slot i holds π g -/
class At {γ : Type} (G : EnvT γ) (i : Nat) (α : outParam Type) (r : outParam (Rp α)) (π : outParam (γ → α)) : Prop where
  get : ∀ {K H0 F H σ g}, G.rel K H0 F H σ g → ∃ v, σ[i]? = some (some v) ∧ r.is K F v (π g)
instance {α γ : Type} [r : Rp α] (G : EnvT γ) : At (va α G) 0 α r (fun g => g.1) := ⟨fun ⟨v, σ', e, q, _⟩ => ⟨v, by subst e; rfl, q⟩⟩
instance {α β γ : Type} [Rp β] [r : Rp α] (G : EnvT γ) (i : Nat) (π : γ → α) [a : At G i α r π] : At (va β G) (i + 1) α r (fun g => π g.2) := ⟨fun ⟨v, σ', e, _, q⟩ => by
  obtain ⟨u, e2, q2⟩ := a.get q
  exact ⟨u, by subst e; exact e2, q2⟩⟩
instance {α γ : Type} [r : Rp α] (G : EnvT γ) (i : Nat) (π : γ → α) [a : At G i α r π] : At (un G) (i + 1) α r (fun g => π g) := ⟨fun ⟨v, σ', e, q⟩ => by
  obtain ⟨u, e2, q2⟩ := a.get q
  exact ⟨u, by subst e; exact e2, q2⟩⟩
instance {α β γ : Type} [Rp β] [r : Rp α] (G : EnvT γ) (i : Nat) (π : γ → α) [a : At G i α r π] : At (ow β G) (i + 1) α r (fun g => π g.2) := ⟨fun ⟨p, σ', xs, e, _, _, _, _, _, _, q⟩ => by
  obtain ⟨u, e2, q2⟩ := a.get q
  exact ⟨u, by subst e; exact e2, q2⟩⟩

/-- a store into the slot i -/
class Put {γ : Type} (G : EnvT γ) (i : Nat) (α : Type) [Rp α] {δ : outParam Type} (G' : outParam (EnvT δ)) (ψ : outParam (γ → α → δ)) : Prop where
  put : ∀ {K H0 F H σ g v a}, G.rel K H0 F H σ g → Rp.is K F v a → G'.rel K H0 F H (σ.set i (some v)) (ψ g a)
  own : ∀ {K H0 F H σ g p} {v : V}, G.rel K H0 F H σ g → p ∈ G'.own (σ.set i (some v)) → p ∈ G.own σ
instance {α β γ : Type} [Rp α] [Rp β] (G : EnvT γ) : Put (va β G) 0 α (va α G) (fun g a => (a, g.2)) := ⟨fun ⟨v, σ', e, _, q⟩ r => ⟨_, σ', by subst e; rfl, r, q⟩, fun ⟨v, σ', e, _, q⟩ h => by subst e; exact h⟩
instance {α γ : Type} [Rp α] (G : EnvT γ) : Put (un G) 0 α (va α G) (fun g a => (a, g)) := ⟨fun ⟨v, σ', e, q⟩ r => ⟨_, σ', by subst e; rfl, r, q⟩, fun ⟨v, σ', e, q⟩ h => by subst e; exact h⟩
instance {α β γ : Type} [Rp α] [Rp β] (G : EnvT γ) : Put (ow β G) 0 α (va α G) (fun g a => (a, g.2)) := ⟨fun ⟨p, σ', xs, e, _, _, _, _, _, _, q⟩ r => ⟨_, σ', by subst e; rfl, r, q⟩, fun ⟨p, σ', xs, e, _, _, _, _, _, _, q⟩ h => by subst e; exact List.mem_append_right _ h⟩
instance {α β γ δ : Type} [Rp α] [Rp β] (G : EnvT γ) (i : Nat) (G' : EnvT δ) (ψ : γ → α → δ) [P : Put G i α G' ψ] : Put (va β G) (i + 1) α (va β G') (fun g a => (g.1, ψ g.2 a)) :=
  ⟨fun ⟨v, σ', e, w, q⟩ r => ⟨v, σ'.set i _, by subst e; rfl, w, P.put q r⟩, fun ⟨v, σ', e, w, q⟩ h => by subst e; exact P.own q h⟩
instance {α γ δ : Type} [Rp α] (G : EnvT γ) (i : Nat) (G' : EnvT δ) (ψ : γ → α → δ) [P : Put G i α G' ψ] : Put (un G) (i + 1) α (un G') (fun g a => ψ g a) :=
  ⟨fun ⟨v, σ', e, q⟩ r => ⟨v, σ'.set i _, by subst e; rfl, P.put q r⟩, fun ⟨v, σ', e, q⟩ h => by subst e; exact P.own q h⟩
instance {α β γ δ : Type} [Rp α] [Rp β] (G : EnvT γ) (i : Nat) (G' : EnvT δ) (ψ : γ → α → δ) [P : Put G i α G' ψ] : Put (ow β G) (i + 1) α (ow β G') (fun g a => (g.1, ψ g.2 a)) :=
  ⟨fun ⟨p, σ', xs, e, h0, f, h, z, w, n, q⟩ r => ⟨p, σ'.set i _, xs, by subst e; rfl, h0, f, h, z, w, fun m => n (P.own q m), P.put q r⟩, fun ⟨p, σ', xs, e, _, _, _, _, _, _, q⟩ h => by
    subst e
    rcases List.mem_append.mp h with h | h
    · exact List.mem_append_left _ h
    · exact List.mem_append_right _ (P.own q h)⟩

/-! ### readings of expressions -/
/-- what a body's code stands in: the frozen heap and the heap at the def's entry, the wish of exceptions -/
structure C0 where
  F0 : Hp
  H0 : Hp
  W : WX
/-- an exception is wished -/
def ErP (K : PySem.W.Frag) (F H : Hp) (E : XK) (c : Str) (fs : List (Str × V)) : Prop := match fs with
  | [] => ∀ F' H', Wd F H F' H' → E (.ref (He.ga K c)) none H'
  | fs => ∀ F' H' d, Wd F H F' H' → H' d = none → E (.ref (He.ga K c)) (some d) (upd H' d (.xd fs))
theorem ErP.on {K : PySem.W.Frag} {F H F' H' : Hp} {E : XK} {c : Str} {fs : List (Str × V)} (h : ErP K F H E c fs) (w : Wd F H F' H') : ErP K F' H' E c fs := by
  cases fs with
  | nil => exact fun F2 H2 w2 => h F2 H2 (w.trans w2)
  | cons f fs => exact fun F2 H2 d w2 => h F2 H2 d (w.trans w2)
def Po {α : Type} [Rp α] (K : PySem.W.Frag) (F H : Hp) (Q : VK) (E : XK) (m : Xc α) : Prop := match m with
  | .ok a => ∀ v F' H', Wd F H F' H' → Rp.is K F' v a → Q v H'
  | .er c fs => ErP K F H E c fs
  | .no => False
def PoB (K : PySem.W.Frag) (F H : Hp) (Q : Bool → Hp → Prop) (E : XK) (m : Xc Bool) : Prop := match m with
  | .ok b => ∀ F' H', Wd F H F' H' → Q b H'
  | .er c fs => ErP K F H E c fs
  | .no => False
theorem Po.on {α : Type} [Rp α] {K : PySem.W.Frag} {F H F' H' : Hp} {Q : VK} {E : XK} {m : Xc α} (h : Po K F H Q E m) (w : Wd F H F' H') : Po K F' H' Q E m := by
  cases m with
  | ok a => exact fun v F2 H2 w2 r => h v F2 H2 (w.trans w2) r
  | er c fs => exact ErP.on h w
  | no => exact h
theorem PoB.on {K : PySem.W.Frag} {F H F' H' : Hp} {Q : Bool → Hp → Prop} {E : XK} {m : Xc Bool} (h : PoB K F H Q E m) (w : Wd F H F' H') : PoB K F' H' Q E m := by
  cases m with
  | ok a => exact fun F2 H2 w2 => h F2 H2 (w.trans w2)
  | er c fs => exact ErP.on h w
  | no => exact h
/-- from the mirror's first part on -/
theorem Po.bind {α β : Type} [Rp α] [Rp β] {K : PySem.W.Frag} {F H : Hp} {Q : VK} {E : XK} {m : Xc α} {k : α → Xc β} (h : Po K F H Q E (m.bind k)) : Po K F H (fun v H1 => ∃ a F1, m = .ok a ∧ Wd F H F1 H1 ∧ Rp.is K F1 v a ∧ Po K F1 H1 Q E (k a)) E m := by
  cases m with
  | ok a => exact fun v F1 H1 w r => ⟨a, F1, rfl, w, r, Po.on (show Po K F H Q E (k a) from h) w⟩
  | er c fs => exact h
  | no => exact h
theorem Po.bindB {α : Type} [Rp α] {K : PySem.W.Frag} {F H : Hp} {Q : Bool → Hp → Prop} {E : XK} {m : Xc α} {k : α → Xc Bool} (h : PoB K F H Q E (m.bind k)) : Po K F H (fun v H1 => ∃ a F1, m = .ok a ∧ Wd F H F1 H1 ∧ Rp.is K F1 v a ∧ PoB K F1 H1 Q E (k a)) E m := by
  cases m with
  | ok a => exact fun v F1 H1 w r => ⟨a, F1, rfl, w, r, PoB.on (show PoB K F H Q E (k a) from h) w⟩
  | er c fs => exact h
  | no => exact h
theorem PoB.bind {β : Type} [Rp β] {K : PySem.W.Frag} {F H : Hp} {Q : VK} {E : XK} {m : Xc Bool} {k : Bool → Xc β} (h : Po K F H Q E (m.bind k)) : PoB K F H (fun b H1 => ∃ F1, m = .ok b ∧ Wd F H F1 H1 ∧ Po K F1 H1 Q E (k b)) E m := by
  cases m with
  | ok a => exact fun F1 H1 w => ⟨F1, rfl, w, Po.on (show Po K F H Q E (k a) from h) w⟩
  | er c fs => exact h
  | no => exact h
theorem PoB.bindB {K : PySem.W.Frag} {F H : Hp} {Q : Bool → Hp → Prop} {E : XK} {m : Xc Bool} {k : Bool → Xc Bool} (h : PoB K F H Q E (m.bind k)) : PoB K F H (fun b H1 => ∃ F1, m = .ok b ∧ Wd F H F1 H1 ∧ PoB K F1 H1 Q E (k b)) E m := by
  cases m with
  | ok a => exact fun F1 H1 w => ⟨F1, rfl, w, PoB.on (show PoB K F H Q E (k a) from h) w⟩
  | er c fs => exact h
  | no => exact h
theorem Po.ret {α : Type} [Rp α] {K : PySem.W.Frag} {F H : Hp} {Q : VK} {E : XK} {v : V} {a : α} (h : Po K F H Q E (.ok a)) (s : Same F H) (r : Rp.is K F v a) : Q v H := h v F H (Wd.refl s) r
theorem PoB.ret {K : PySem.W.Frag} {F H : Hp} {Q : Bool → Hp → Prop} {E : XK} {b : Bool} (h : PoB K F H Q E (.ok b)) (s : Same F H) : Q b H := h F H (Wd.refl s)

section
variable {X : Cx} {c : C0} {γ α β ρ : Type} {G : EnvT γ} [Rp α] [Rp β] [Rp ρ]
def tF (K : PySem.W.Frag) (c : C0) (G : EnvT γ) (f : γ → Xc α) : TE := fun σ H Q => ∃ F g, Wd c.F0 c.H0 F H ∧ G.rel K c.H0 F H σ g ∧ Po K F H Q (WE c.W σ) (f g)
def tT (K : PySem.W.Frag) (c : C0) (G : EnvT γ) (f : γ → Xc Bool) : TT := fun σ H Q => ∃ F g, Wd c.F0 c.H0 F H ∧ G.rel K c.H0 F H σ g ∧ PoB K F H Q (WE c.W σ) (f g)
/-- the expression e computes f of what the slots hold -/
def FE (X : Cx) (c : C0) (G : EnvT γ) (e : Expr) (f : γ → Xc α) : Prop := PE X e (tF X.K c G f)
def FT (X : Cx) (c : C0) (G : EnvT γ) (e : Expr) (f : γ → Xc Bool) : Prop := PT X e (tT X.K c G f)
theorem PE.imp {e : Expr} {t t' : TE} (h : PE X e t) (i : ∀ σ H Q, t' σ H Q → t σ H Q) : PE X e t' := ⟨fun pins s σ H Q I q => h.run pins s σ H Q I (i σ H Q q)⟩
theorem PT.imp {e : Expr} {t t' : TT} (h : PT X e t) (i : ∀ σ H Q, t' σ H Q → t σ H Q) : PT X e t' := ⟨fun pins s σ H Q I q => h.run pins s σ H Q I (i σ H Q q)⟩
theorem FE.cast {e : Expr} {f f' : γ → Xc α} (h : FE X c G e f) (i : ∀ g, f' g = f g) : FE X c G e f' := by
  rw [show f' = f from funext i]; exact h
theorem FT.cast {e : Expr} {f f' : γ → Xc Bool} (h : FT X c G e f) (i : ∀ g, f' g = f g) : FT X c G e f' := by
  rw [show f' = f from funext i]; exact h

/-! names, constants -/
theorem fe_var {τ : Type} (i : Nat) {x : Str} {pos : Pos} {π : γ → τ} {r : Rp τ} [a : At G i τ r π] (hN : X.N[i]? = some x := by rfl) (hv : Vis X.env.scope x := by first | exact Or.inl rfl | exact Or.inr (Or.inl rfl) | exact Or.inr (Or.inr rfl))
    (hd : (x == ("__debug__" : Str)) = false := by decide) (hcd : (x == ("__classdict__" : Str)) = false := by decide) : FE X c G (.Name x pos) (fun g => Xc.ok (π g)) :=
  PE.imp (pe_var hN hv hd hcd) fun σ H Q ⟨F, g, w, q, h⟩ => by
    obtain ⟨v, e, z⟩ := a.get q
    exact ⟨v, e, h v F H (Wd.refl w.s) z⟩
theorem fe_int {i : Int} {j pos} : FE X c G (.Constant (.int i) j pos) (fun _ => .ok i) := PE.imp pe_int fun σ H Q ⟨F, g, w, q, h⟩ => h.ret w.s rfl
theorem fe_bl {b : Bool} {j pos} : FE X c G (.Constant (.bool b) j pos) (fun _ => .ok b) := PE.imp pe_bl fun σ H Q ⟨F, g, w, q, h⟩ => h.ret w.s rfl
theorem fe_str {x : Str} {j pos} (hx : x.length ≤ sizeLine := by decide +kernel) : FE X c G (.Constant (.str x) j pos) (fun _ => .ok x) := PE.imp pe_str fun σ H Q ⟨F, g, w, q, h⟩ => h.ret w.s ⟨rfl, hx⟩
theorem fe_none {j pos} : FE X c G (.Constant .none j pos) (fun _ => .ok ()) := PE.imp pe_non fun σ H Q ⟨F, g, w, q, h⟩ => h.ret w.s rfl
/-- a module's constant -/
theorem fe_gint {x : Str} {i : Int} {pos : Pos} (hm : ∃ t, X.mg x = some (.int i t)) (hg : Gl X x := by rfl) (hd : (x == ("__debug__" : Str)) = false := by decide) : FE X c G (.Name x pos) (fun _ => .ok i) := by
  obtain ⟨t, hm⟩ := hm
  exact PE.imp (pe_glob (v := .int i) hg hm ⟨t, rfl⟩ hd) fun σ H Q ⟨F, g, w, q, h⟩ => h.ret w.s rfl
theorem fe_gstr {x z : Str} {pos : Pos} (hm : ∃ t, X.mg x = some (.str z t)) (hz : z.length ≤ sizeLine := by decide +kernel) (hg : Gl X x := by rfl) (hd : (x == ("__debug__" : Str)) = false := by decide) : FE X c G (.Name x pos) (fun _ => .ok z) := by
  obtain ⟨t, hm⟩ := hm
  exact PE.imp (pe_glob (v := .str z) hg hm ⟨t, rfl⟩ hd) fun σ H Q ⟨F, g, w, q, h⟩ => h.ret w.s ⟨rfl, hz⟩

/-! two parts -/
theorem two {a b : Expr} {fa : γ → Xc α} {fb : γ → Xc β} {op : α → β → Xc ρ} {r : R2} {e : Expr} (h : ∀ {ta tb : TE}, PE X a ta → PE X b tb → PE X e (tOp r ta tb)) (ha : FE X c G a fa) (hb : FE X c G b fb)
    (hop : ∀ {F H x y i j Q E}, Same F H → Rp.is X.K F x i → Rp.is X.K F y j → Po X.K F H Q E (op i j) → r x y H Q) : FE X c G e (fun g => (fa g).bind fun i => (fb g).bind fun j => op i j) :=
  PE.imp (h ha hb) fun σ H Q ⟨F, g, w, q, p⟩ => by
    refine ⟨F, g, w, q, ?_⟩
    have p1 := Po.bind p
    revert p1
    cases e1 : fa g with
    | ok i =>
      intro p1 v F1 H1 w1 r1
      obtain ⟨i', _, e2, w1', r1', p2⟩ := p1 v F1 H1 w1 r1
      cases e2
      have p2 : Po X.K F H Q (WE c.W σ) ((fb g).bind fun j => op i j) := by simp only [e1] at p; exact p
      refine ⟨F1, g, w.trans w1, G.mono q w1, ?_⟩
      have p3 := Po.bind (p2.on w1)
      revert p3
      cases e3 : fb g with
      | ok j =>
        intro p3 u F2 H2 w2 r2
        obtain ⟨j', F2', e4, w2', r2', p4⟩ := p3 u F2 H2 w2 r2
        cases e4
        have p5 : Po X.K F H Q (WE c.W σ) (op i j) := by rw [e3] at p2; exact p2
        exact hop w2.s (Rp.mono w2.f r1) r2 (p5.on (w1.trans w2))
      | er c fs => exact fun p3 => p3
      | no => exact fun p3 => p3
    | er c fs => exact fun p1 => p1
    | no => exact fun p1 => p1
theorem twoT {a b : Expr} {fa : γ → Xc α} {fb : γ → Xc β} {op : α → β → Xc Bool} {r : R2} {e : Expr} (h : ∀ {ta tb : TE}, PE X a ta → PE X b tb → PT X e (tTest (tOp r ta tb))) (ha : FE X c G a fa) (hb : FE X c G b fb)
    (hop : ∀ {F H x y i j Q E}, Same F H → Rp.is X.K F x i → Rp.is X.K F y j → PoB X.K F H Q E (op i j) → r x y H (fun v H' => ∃ k, v = .bl k ∧ Q k H')) : FT X c G e (fun g => (fa g).bind fun i => (fb g).bind fun j => op i j) :=
  PT.imp (h ha hb) fun σ H Q ⟨F, g, w, q, p⟩ => by
    refine ⟨F, g, w, q, ?_⟩
    cases e1 : fa g with
    | ok i =>
      intro v F1 H1 w1 r1
      have p2 : PoB X.K F H Q (WE c.W σ) ((fb g).bind fun j => op i j) := by simp only [e1] at p; exact p
      refine ⟨F1, g, w.trans w1, G.mono q w1, ?_⟩
      cases e3 : fb g with
      | ok j =>
        intro u F2 H2 w2 r2
        have p5 : PoB X.K F H Q (WE c.W σ) (op i j) := by rw [e3] at p2; exact p2
        exact hop w2.s (Rp.mono w2.f r1) r2 (p5.on (w1.trans w2))
      | er c' fs => rw [e3] at p2; exact ErP.on (show ErP X.K F H (WE c.W σ) c' fs from p2) w1
      | no => rw [e3] at p2; exact p2
    | er c' fs => simp only [e1] at p; exact p
    | no => simp only [e1] at p; exact p
/-- one part -/
theorem one {a e : Expr} {fa : γ → Xc α} {op : α → Xc ρ} {r : V → Hp → VK → Prop} (h : ∀ {ta : TE}, PE X a ta → PE X e (tUn r ta)) (ha : FE X c G a fa)
    (hop : ∀ {F H x i Q E}, Same F H → Rp.is X.K F x i → Po X.K F H Q E (op i) → r x H Q) : FE X c G e (fun g => (fa g).bind fun i => op i) :=
  PE.imp (h ha) fun σ H Q ⟨F, g, w, q, p⟩ => by
    refine ⟨F, g, w, q, ?_⟩
    cases e1 : fa g with
    | ok i =>
      intro v F1 H1 w1 r1
      have p2 : Po X.K F H Q (WE c.W σ) (op i) := by simp only [e1] at p; exact p
      exact hop w1.s r1 (p2.on w1)
    | er c' fs => simp only [e1] at p; exact p
    | no => simp only [e1] at p; exact p
end
end FL

/-! FL2: operators, comparisons, tests, displays, subscripts, texts, built-in calls. -/
namespace FL
open PySem L2
/-! ### ints -/
def MulC (i j : Int) : Prop := i.natAbs < 2 ^ 64 ∨ j.natAbs < 2 ^ 64 ∨ i.natAbs.log2 + j.natAbs.log2 < 1000000
instance (i j : Int) : Decidable (MulC i j) := by unfold MulC; infer_instance
theorem MulC.ok {i j : Int} (h : MulC i j) : PySem.IntMulOk i j := by
  rcases h with h | h | h
  · exact CMul.ok (.inl (by omega))
  · exact CMul.ok (.inr (by omega))
  · exact CMulW.ok h
theorem op_mulZ {X : Cx} : OpR X (binaryOp .Mult) (rI MulC fun i j => .int (i * j)) := opI fun _ _ _ _ _ _ _ hc q => PyProof.Rows.mul_int q hc.ok
@[irreducible] def mulX (i j : Int) : Xc Int := if MulC i j then .ok (i * j) else .no
@[irreducible] def fdvX (i j : Int) : Xc Int := if j ≠ 0 ∧ j.natAbs.log2 < 9000 then .ok (i.fdiv j) else .no
@[irreducible] def modX (i j : Int) : Xc Int := if j ≠ 0 then .ok (i.fmod j) else .no
@[irreducible] def powX (i j : Int) : Xc Int := if 0 ≤ j ∧ j ≤ 1000000 ∧ i.natAbs < 2 ^ 64 then .ok (i ^ j.toNat) else .no
theorem op_fdivZ {X : Cx} : OpR X (binaryOp .FloorDiv) (rI (fun _ j => j ≠ 0 ∧ j.natAbs.log2 < 9000) fun i j => .int (i.fdiv j)) := opI fun i j _ _ _ _ _ hc q =>
  PyProof.Rows.floordiv_int hc.1 q (.inl (PyProof.noPylong_of_log2 hc.2))
section
variable {X : Cx} {c : C0} {γ α β ρ : Type} {G : EnvT γ} [Rp α] [Rp β] [Rp ρ] {a b e : Expr} {pos : Pos} {fi fj : γ → Xc Int}
theorem fe_add (ha : FE X c G a fi) (hb : FE X c G b fj) : FE X c G (.BinOp a .Add b pos) (fun g => (fi g).bind fun i => (fj g).bind fun j => Xc.ok (i + j)) :=
  two (fun h1 h2 => pe_op op_add h1 h2) ha hb fun s r1 r2 p => ⟨_, _, r1, r2, p.ret s rfl⟩
theorem fe_sub (ha : FE X c G a fi) (hb : FE X c G b fj) : FE X c G (.BinOp a .Sub b pos) (fun g => (fi g).bind fun i => (fj g).bind fun j => Xc.ok (i - j)) :=
  two (fun h1 h2 => pe_op op_sub h1 h2) ha hb fun s r1 r2 p => ⟨_, _, r1, r2, p.ret s rfl⟩
theorem fe_mul (ha : FE X c G a fi) (hb : FE X c G b fj) : FE X c G (.BinOp a .Mult b pos) (fun g => (fi g).bind fun i => (fj g).bind fun j => mulX i j) :=
  two (fun h1 h2 => pe_op op_mulZ h1 h2) ha hb fun {F H x y i j Q E} s r1 r2 p => by
    unfold mulX at p
    by_cases h : MulC i j
    · rw [if_pos h] at p; exact ⟨_, _, r1, r2, h, p.ret s rfl⟩
    · rw [if_neg h] at p; exact p.elim
theorem fe_fdv (ha : FE X c G a fi) (hb : FE X c G b fj) : FE X c G (.BinOp a .FloorDiv b pos) (fun g => (fi g).bind fun i => (fj g).bind fun j => fdvX i j) :=
  two (fun h1 h2 => pe_op op_fdivZ h1 h2) ha hb fun {F H x y i j Q E} s r1 r2 p => by
    unfold fdvX at p
    by_cases h : j ≠ 0 ∧ j.natAbs.log2 < 9000
    · rw [if_pos h] at p; exact ⟨_, _, r1, r2, h, p.ret s rfl⟩
    · rw [if_neg h] at p; exact p.elim
theorem fe_mod (ha : FE X c G a fi) (hb : FE X c G b fj) : FE X c G (.BinOp a .Mod b pos) (fun g => (fi g).bind fun i => (fj g).bind fun j => modX i j) :=
  two (fun h1 h2 => pe_op op_modN h1 h2) ha hb fun {F H x y i j Q E} s r1 r2 p => by
    unfold modX at p
    by_cases h : j ≠ 0
    · rw [if_pos h] at p; exact ⟨_, _, r1, r2, h, p.ret s rfl⟩
    · rw [if_neg h] at p; exact p.elim
theorem fe_pow (ha : FE X c G a fi) (hb : FE X c G b fj) : FE X c G (.BinOp a .Pow b pos) (fun g => (fi g).bind fun i => (fj g).bind fun j => powX i j) :=
  two (fun h1 h2 => pe_op op_pow h1 h2) ha hb fun {F H x y i j Q E} s r1 r2 p => by
    unfold powX at p
    by_cases h : 0 ≤ j ∧ j ≤ 1000000 ∧ i.natAbs < 2 ^ 64
    · rw [if_pos h] at p; exact ⟨_, _, r1, r2, h, p.ret s rfl⟩
    · rw [if_neg h] at p; exact p.elim
theorem fe_neg (ha : FE X c G a fi) : FE X c G (.UnaryOp .USub a pos) (fun g => (fi g).bind fun i => Xc.ok (-i)) :=
  one (fun h => pe_un un_neg h) ha fun s r p => ⟨_, r, p.ret s rfl⟩

/-! comparisons of ints -/
theorem fe_lt (ha : FE X c G a fi) (hb : FE X c G b fj) : FE X c G (.Compare a [.Lt] [b] pos) (fun g => (fi g).bind fun i => (fj g).bind fun j => Xc.ok (decide (i < j))) :=
  two (fun h1 h2 => pe_cmpR op_lt h1 h2 (nomark _)) ha hb fun s r1 r2 p => ⟨_, _, r1, r2, p.ret s rfl⟩
theorem fe_le (ha : FE X c G a fi) (hb : FE X c G b fj) : FE X c G (.Compare a [.LtE] [b] pos) (fun g => (fi g).bind fun i => (fj g).bind fun j => Xc.ok (decide (i ≤ j))) :=
  two (fun h1 h2 => pe_cmpR op_le h1 h2 (nomark _)) ha hb fun s r1 r2 p => ⟨_, _, r1, r2, p.ret s rfl⟩
theorem fe_gt (ha : FE X c G a fi) (hb : FE X c G b fj) : FE X c G (.Compare a [.Gt] [b] pos) (fun g => (fi g).bind fun i => (fj g).bind fun j => Xc.ok (decide (j < i))) :=
  two (fun h1 h2 => pe_cmpR op_gt h1 h2 (nomark _)) ha hb fun s r1 r2 p => ⟨_, _, r1, r2, p.ret s rfl⟩
theorem fe_ge (ha : FE X c G a fi) (hb : FE X c G b fj) : FE X c G (.Compare a [.GtE] [b] pos) (fun g => (fi g).bind fun i => (fj g).bind fun j => Xc.ok (decide (j ≤ i))) :=
  two (fun h1 h2 => pe_cmpR op_ge h1 h2 (nomark _)) ha hb fun s r1 r2 p => ⟨_, _, r1, r2, p.ret s rfl⟩
theorem ft_lt (ha : FE X c G a fi) (hb : FE X c G b fj) : FT X c G (.Compare a [.Lt] [b] pos) (fun g => (fi g).bind fun i => (fj g).bind fun j => Xc.ok (decide (i < j))) :=
  twoT (fun h1 h2 => pt_cmpR op_lt h1 h2 (nomark _)) ha hb fun s r1 r2 p => ⟨_, _, r1, r2, _, rfl, p.ret s⟩
theorem ft_le (ha : FE X c G a fi) (hb : FE X c G b fj) : FT X c G (.Compare a [.LtE] [b] pos) (fun g => (fi g).bind fun i => (fj g).bind fun j => Xc.ok (decide (i ≤ j))) :=
  twoT (fun h1 h2 => pt_cmpR op_le h1 h2 (nomark _)) ha hb fun s r1 r2 p => ⟨_, _, r1, r2, _, rfl, p.ret s⟩
theorem ft_gt (ha : FE X c G a fi) (hb : FE X c G b fj) : FT X c G (.Compare a [.Gt] [b] pos) (fun g => (fi g).bind fun i => (fj g).bind fun j => Xc.ok (decide (j < i))) :=
  twoT (fun h1 h2 => pt_cmpR op_gt h1 h2 (nomark _)) ha hb fun s r1 r2 p => ⟨_, _, r1, r2, _, rfl, p.ret s⟩
theorem ft_ge (ha : FE X c G a fi) (hb : FE X c G b fj) : FT X c G (.Compare a [.GtE] [b] pos) (fun g => (fi g).bind fun i => (fj g).bind fun j => Xc.ok (decide (j ≤ i))) :=
  twoT (fun h1 h2 => pt_cmpR op_ge h1 h2 (nomark _)) ha hb fun s r1 r2 p => ⟨_, _, r1, r2, _, rfl, p.ret s⟩
end

/-! ### equality of scalars -/
class ScalR (α : Type) [Rp α] where
  dec : DecidableEq α
  toV : α → V
  eq : ∀ {K F v} {a : α}, Rp.is K F v a → v = toV a
  sc : ∀ a b : α, scal (toV a) (toV b) = true
  inj : ∀ a b : α, toV a = toV b → a = b
instance : ScalR Int := ⟨inferInstance, .int, fun h => h, fun _ _ => rfl, fun _ _ h => V.int.inj h⟩
instance : ScalR Bool := ⟨inferInstance, .bl, fun h => h, fun _ _ => rfl, fun _ _ h => V.bl.inj h⟩
instance : ScalR Str := ⟨inferInstance, .str, fun h => h.1, fun _ _ => rfl, fun _ _ h => V.str.inj h⟩
instance instDecScal {α : Type} [Rp α] [s : ScalR α] : DecidableEq α := s.dec
section
variable {X : Cx} {c : C0} {γ α β ρ : Type} {G : EnvT γ} [Rp α] [Rp β] [Rp ρ] {a b e : Expr} {pos : Pos}
theorem dec_scal [s : ScalR α] (a b : α) : decide (ScalR.toV a = ScalR.toV b) = (@decide (a = b) (s.dec a b)) := by
  by_cases h : a = b
  · subst h; simp
  · have h2 : ¬ ScalR.toV a = ScalR.toV b := fun e => h (ScalR.inj _ _ e)
    rw [decide_eq_false h2, decide_eq_false h]
theorem fe_eq [s : ScalR α] {fa fb : γ → Xc α} (ha : FE X c G a fa) (hb : FE X c G b fb) : FE X c G (.Compare a [.Eq] [b] pos) (fun g => (fa g).bind fun i => (fb g).bind fun j => Xc.ok (@decide (i = j) (s.dec i j))) :=
  two (fun h1 h2 => pe_cmpR op_eq h1 h2 (nomark _)) ha hb fun {F H x y i j Q E} z r1 r2 p => by
    rw [ScalR.eq r1, ScalR.eq r2]
    exact ⟨ScalR.sc i j, by rw [dec_scal]; exact p.ret z rfl⟩
theorem fe_ne [s : ScalR α] {fa fb : γ → Xc α} (ha : FE X c G a fa) (hb : FE X c G b fb) : FE X c G (.Compare a [.NotEq] [b] pos) (fun g => (fa g).bind fun i => (fb g).bind fun j => Xc.ok (!@decide (i = j) (s.dec i j))) :=
  two (fun h1 h2 => pe_cmpR op_ne h1 h2 (nomark _)) ha hb fun {F H x y i j Q E} z r1 r2 p => by
    rw [ScalR.eq r1, ScalR.eq r2]
    exact ⟨ScalR.sc i j, by rw [dec_scal]; exact p.ret z rfl⟩
theorem ft_eq [s : ScalR α] {fa fb : γ → Xc α} (ha : FE X c G a fa) (hb : FE X c G b fb) : FT X c G (.Compare a [.Eq] [b] pos) (fun g => (fa g).bind fun i => (fb g).bind fun j => Xc.ok (@decide (i = j) (s.dec i j))) :=
  twoT (fun h1 h2 => pt_cmpR op_eq h1 h2 (nomark _)) ha hb fun {F H x y i j Q E} z r1 r2 p => by
    rw [ScalR.eq r1, ScalR.eq r2]
    exact ⟨ScalR.sc i j, _, rfl, by rw [dec_scal]; exact p.ret z⟩
theorem ft_ne [s : ScalR α] {fa fb : γ → Xc α} (ha : FE X c G a fa) (hb : FE X c G b fb) : FT X c G (.Compare a [.NotEq] [b] pos) (fun g => (fa g).bind fun i => (fb g).bind fun j => Xc.ok (!@decide (i = j) (s.dec i j))) :=
  twoT (fun h1 h2 => pt_cmpR op_ne h1 h2 (nomark _)) ha hb fun {F H x y i j Q E} z r1 r2 p => by
    rw [ScalR.eq r1, ScalR.eq r2]
    exact ⟨ScalR.sc i j, _, rfl, by rw [dec_scal]; exact p.ret z⟩

/-! ### None -/
theorem opt_non {K : PySem.W.Frag} {F : Hp} {v : V} {o : Option α} (h : Rp.is K F v o) : decide (v = .non) = o.isNone := by
  cases o with
  | none => have h : v = .non := h; subst h; rfl
  | some a => have h : v ≠ .non := h.1; simp [h]
theorem fe_isN {fa : γ → Xc (Option α)} {j p} (ha : FE X c G a fa) : FE X c G (.Compare a [.Is] [.Constant .none j p] pos) (fun g => (fa g).bind fun i => Xc.ok i.isNone) :=
  PE.imp (pe_cmpR op_isN ha pe_non (nomark _)) fun σ H Q ⟨F, g, w, q, h⟩ => by
    refine ⟨F, g, w, q, ?_⟩
    cases e1 : fa g with
    | ok i => intro v F1 H1 w1 r1; simp only [e1] at h; exact ⟨rfl, by rw [opt_non r1]; exact (Po.on h w1).ret w1.s rfl⟩
    | er c' fs => simp only [e1] at h; exact h
    | no => simp only [e1] at h; exact h
theorem fe_notN {fa : γ → Xc (Option α)} {j p} (ha : FE X c G a fa) : FE X c G (.Compare a [.IsNot] [.Constant .none j p] pos) (fun g => (fa g).bind fun i => Xc.ok (!i.isNone)) :=
  PE.imp (pe_cmpR op_notN ha pe_non (nomark _)) fun σ H Q ⟨F, g, w, q, h⟩ => by
    refine ⟨F, g, w, q, ?_⟩
    cases e1 : fa g with
    | ok i => intro v F1 H1 w1 r1; simp only [e1] at h; exact ⟨rfl, by rw [opt_non r1]; exact (Po.on h w1).ret w1.s rfl⟩
    | er c' fs => simp only [e1] at h; exact h
    | no => simp only [e1] at h; exact h
theorem ft_isN {fa : γ → Xc (Option α)} {j p} (ha : FE X c G a fa) : FT X c G (.Compare a [.Is] [.Constant .none j p] pos) (fun g => (fa g).bind fun i => Xc.ok i.isNone) :=
  PT.imp (pt_cmpR op_isN ha pe_non (nomark _)) fun σ H Q ⟨F, g, w, q, h⟩ => by
    refine ⟨F, g, w, q, ?_⟩
    cases e1 : fa g with
    | ok i => intro v F1 H1 w1 r1; simp only [e1] at h; exact ⟨rfl, _, rfl, by rw [opt_non r1]; exact (PoB.on h w1).ret w1.s⟩
    | er c' fs => simp only [e1] at h; exact h
    | no => simp only [e1] at h; exact h
theorem ft_notN {fa : γ → Xc (Option α)} {j p} (ha : FE X c G a fa) : FT X c G (.Compare a [.IsNot] [.Constant .none j p] pos) (fun g => (fa g).bind fun i => Xc.ok (!i.isNone)) :=
  PT.imp (pt_cmpR op_notN ha pe_non (nomark _)) fun σ H Q ⟨F, g, w, q, h⟩ => by
    refine ⟨F, g, w, q, ?_⟩
    cases e1 : fa g with
    | ok i => intro v F1 H1 w1 r1; simp only [e1] at h; exact ⟨rfl, _, rfl, by rw [opt_non r1]; exact (PoB.on h w1).ret w1.s⟩
    | er c' fs => simp only [e1] at h; exact h
    | no => simp only [e1] at h; exact h
/-- a value known to be there -/
def someX {α : Type} (o : Option α) : Xc α := match o with
  | some a => .ok a
  | none => .no
theorem fe_some {fa : γ → Xc (Option α)} (ha : FE X c G a fa) : FE X c G a (fun g => (fa g).bind someX) :=
  PE.imp ha fun σ H Q ⟨F, g, w, q, h⟩ => by
    refine ⟨F, g, w, q, ?_⟩
    cases e1 : fa g with
    | ok i =>
      simp only [e1] at h
      cases i with
      | none => exact h.elim
      | some i => intro v F1 H1 w1 r1; exact h v F1 H1 w1 r1.2
    | er c' fs => simp only [e1] at h; exact h
    | no => simp only [e1] at h; exact h
/-- a value as one that may be there -/
class NotNone (α : Type) [Rp α] : Prop where
  ne : ∀ {K F v} {a : α}, Rp.is K F v a → v ≠ .non
instance : NotNone Int := ⟨fun h => by have h : _ = V.int _ := h; subst h; intro z; cases z⟩
instance : NotNone Bool := ⟨fun h => by have h : _ = V.bl _ := h; subst h; intro z; cases z⟩
instance : NotNone Str := ⟨fun h => by have h : _ = V.str _ := h.1; subst h; intro z; cases z⟩
instance {α : Type} [Rp α] : NotNone (List α) := ⟨fun ⟨p, xs, h, _⟩ => by subst h; intro z; cases z⟩
instance {α : Type} [Rp α] : NotNone (Tu α) := ⟨fun ⟨p, xs, h, _⟩ => by subst h; intro z; cases z⟩
instance {α β : Type} [Rp α] [Rp β] : NotNone (α × β) := ⟨fun ⟨p, x, y, h, _⟩ => by subst h; intro z; cases z⟩
instance {α β γ : Type} [Rp α] [Rp β] [Rp γ] : NotNone (T3 α β γ) := ⟨fun ⟨p, x, y, _, h, _⟩ => by subst h; intro z; cases z⟩
instance {α β γ δ : Type} [Rp α] [Rp β] [Rp γ] [Rp δ] : NotNone (T4 α β γ δ) := ⟨fun ⟨p, x, y, _, _, h, _⟩ => by subst h; intro z; cases z⟩
theorem fe_opt [NotNone α] {fa : γ → Xc α} (ha : FE X c G a fa) : FE X c G a (fun g => (fa g).bind fun i => Xc.ok (some i)) :=
  PE.imp ha fun σ H Q ⟨F, g, w, q, h⟩ => by
    refine ⟨F, g, w, q, ?_⟩
    cases e1 : fa g with
    | ok i => simp only [e1] at h; exact fun v F1 H1 w1 r1 => h v F1 H1 w1 ⟨NotNone.ne r1, r1⟩
    | er c' fs => simp only [e1] at h; exact h
    | no => simp only [e1] at h; exact h
theorem fe_nopt {fa : γ → Xc Unit} (ha : FE X c G a fa) : FE X c G a (fun g => (fa g).bind fun _ => Xc.ok (none : Option α)) :=
  PE.imp ha fun σ H Q ⟨F, g, w, q, h⟩ => by
    refine ⟨F, g, w, q, ?_⟩
    cases e1 : fa g with
    | ok i => simp only [e1] at h; exact fun v F1 H1 w1 r1 => h v F1 H1 w1 r1
    | er c' fs => simp only [e1] at h; exact h
    | no => simp only [e1] at h; exact h

/-! ### tests -/
variable {rest : List Expr} {fa fb : γ → Xc Bool}
theorem ft_val (ha : FE X c G a fa) (he : ∀ whole, isTrue a X.env whole = (do let v ← whole; standAt a.pos; holding [v] (truthy v)) := by intro _; rfl) : FT X c G a fa :=
  PT.imp (pt_val ha he) fun σ H Q ⟨F, g, w, q, h⟩ => by
    refine ⟨F, g, w, q, ?_⟩
    cases e1 : fa g with
    | ok i => intro v F1 H1 w1 r1; rw [e1] at h; exact ⟨i, r1, h F1 H1 w1⟩
    | er c' fs => rw [e1] at h; exact h
    | no => rw [e1] at h; exact h
theorem ft_not (ha : FT X c G a fa) : FT X c G (.UnaryOp .Not a pos) (fun g => (fa g).bind fun i => Xc.ok (!i)) :=
  PT.imp (pt_not ha) fun σ H Q ⟨F, g, w, q, h⟩ => by
    refine ⟨F, g, w, q, ?_⟩
    cases e1 : fa g with
    | ok i => intro F1 H1 w1; simp only [e1] at h; exact h F1 H1 w1
    | er c' fs => simp only [e1] at h; exact h
    | no => simp only [e1] at h; exact h
/-- a test in a chain of and, or -/
def FW (X : Cx) (c : C0) (G : EnvT γ) (e : Expr) (f : γ → Xc Bool) : Prop := PW X e (tT X.K c G f)
theorem ft_w (h : FW X c G e fa) : FT X c G e fa := PW.pt h
theorem fw_and1 (ha : FT X c G a fa) : FW X c G (.BoolOp .And [a] pos) fa := pw_and1 ha
theorem fw_or1 (ha : FT X c G a fa) : FW X c G (.BoolOp .Or [a] pos) fa := pw_or1 ha
theorem PW.imp {e : Expr} {t t' : TT} (h : PW X e t) (i : ∀ σ H Q, t' σ H Q → t σ H Q) : PW X e t' := ⟨fun wh pins s σ H Q I q => h.run wh pins s σ H Q I (i σ H Q q)⟩
theorem fw_and (ha : FT X c G a fa) (hb : FW X c G (.BoolOp .And (b :: rest) pos) fb) : FW X c G (.BoolOp .And (a :: b :: rest) pos) (fun g => (fa g).bind fun i => if i = true then fb g else Xc.ok false) :=
  PW.imp (pw_and ha hb) fun σ H Q ⟨F, g, w, q, h⟩ => by
    refine ⟨F, g, w, q, ?_⟩
    cases e1 : fa g with
    | ok i =>
      intro F1 H1 w1
      simp only [e1] at h
      cases i with
      | true => exact iteT ⟨F1, g, w.trans w1, G.mono q w1, PoB.on h w1⟩
      | false => exact iteF ((PoB.on h w1).ret w1.s)
    | er c' fs => simp only [e1] at h; exact h
    | no => simp only [e1] at h; exact h
theorem fw_or (ha : FT X c G a fa) (hb : FW X c G (.BoolOp .Or (b :: rest) pos) fb) : FW X c G (.BoolOp .Or (a :: b :: rest) pos) (fun g => (fa g).bind fun i => if i = true then Xc.ok true else fb g) :=
  PW.imp (pw_or ha hb) fun σ H Q ⟨F, g, w, q, h⟩ => by
    refine ⟨F, g, w, q, ?_⟩
    cases e1 : fa g with
    | ok i =>
      intro F1 H1 w1
      simp only [e1] at h
      cases i with
      | true => exact iteT ((PoB.on h w1).ret w1.s)
      | false => exact iteF ⟨F1, g, w.trans w1, G.mono q w1, PoB.on h w1⟩
    | er c' fs => simp only [e1] at h; exact h
    | no => simp only [e1] at h; exact h
/-- .. as values -/
theorem fe_one {op} (h : FE X c G a fa) : FE X c G (.BoolOp op [a] pos) fa := pe_one h
theorem fe_and (ha : FE X c G a fa) (hb : FE X c G (.BoolOp .And (b :: rest) pos) fb) : FE X c G (.BoolOp .And (a :: b :: rest) pos) (fun g => (fa g).bind fun i => if i = true then fb g else Xc.ok false) :=
  PE.imp (pe_and ha hb) fun σ H Q ⟨F, g, w, q, h⟩ => by
    refine ⟨F, g, w, q, ?_⟩
    cases e1 : fa g with
    | ok i =>
      intro v F1 H1 w1 r1
      simp only [e1] at h
      refine ⟨i, r1, ?_⟩
      cases i with
      | true => exact iteT ⟨F1, g, w.trans w1, G.mono q w1, Po.on h w1⟩
      | false => exact iteF ((Po.on h w1).ret w1.s rfl)
    | er c' fs => simp only [e1] at h; exact h
    | no => simp only [e1] at h; exact h
theorem fe_or (ha : FE X c G a fa) (hb : FE X c G (.BoolOp .Or (b :: rest) pos) fb) : FE X c G (.BoolOp .Or (a :: b :: rest) pos) (fun g => (fa g).bind fun i => if i = true then Xc.ok true else fb g) :=
  PE.imp (pe_or ha hb) fun σ H Q ⟨F, g, w, q, h⟩ => by
    refine ⟨F, g, w, q, ?_⟩
    cases e1 : fa g with
    | ok i =>
      intro v F1 H1 w1 r1
      simp only [e1] at h
      refine ⟨i, r1, ?_⟩
      cases i with
      | true => exact iteT ((Po.on h w1).ret w1.s rfl)
      | false => exact iteF ⟨F1, g, w.trans w1, G.mono q w1, Po.on h w1⟩
    | er c' fs => simp only [e1] at h; exact h
    | no => simp only [e1] at h; exact h
theorem fe_not (ha : FE X c G a fa) : FE X c G (.UnaryOp .Not a pos) (fun g => (fa g).bind fun i => Xc.ok (!i)) :=
  PE.imp (pe_not ha) fun σ H Q ⟨F, g, w, q, h⟩ => by
    refine ⟨F, g, w, q, ?_⟩
    cases e1 : fa g with
    | ok i => intro v F1 H1 w1 r1; simp only [e1] at h; exact ⟨i, r1, (Po.on h w1).ret w1.s rfl⟩
    | er c' fs => simp only [e1] at h; exact h
    | no => simp only [e1] at h; exact h
theorem fe_if {t : Expr} {ft : γ → Xc Bool} {f1 f2 : γ → Xc α} (ht : FT X c G t ft) (ha : FE X c G a f1) (hb : FE X c G b f2) : FE X c G (.IfExp t a b pos) (fun g => (ft g).bind fun i => if i = true then f1 g else f2 g) :=
  PE.imp (pe_ifExp ht ha hb) fun σ H Q ⟨F, g, w, q, h⟩ => by
    refine ⟨F, g, w, q, ?_⟩
    cases e1 : ft g with
    | ok i =>
      intro F1 H1 w1
      simp only [e1] at h
      cases i with
      | true => exact iteT ⟨F1, g, w.trans w1, G.mono q w1, Po.on h w1⟩
      | false => exact iteF ⟨F1, g, w.trans w1, G.mono q w1, Po.on h w1⟩
    | er c' fs => simp only [e1] at h; exact h
    | no => simp only [e1] at h; exact h
end
end FL

/-! FL3: arguments, displays, lists of one's own, subscripts, slices, texts, built-in calls. -/
namespace FL
open PySem L2
/-! ### arguments -/
class Rps (αs : Type) where
  isL : PySem.W.Frag → Hp → List V → αs → Prop
  mono : ∀ {K F F' vs as}, Same F F' → isL K F vs as → isL K F' vs as
instance : Rps Unit := ⟨fun _ _ vs _ => vs = [], fun _ h => h⟩
instance {α αs : Type} [Rp α] [Rps αs] : Rps (α × αs) := ⟨fun K F vs a => ∃ v r, vs = v :: r ∧ Rp.is K F v a.1 ∧ Rps.isL K F r a.2, fun s ⟨v, r, e, h, t⟩ => ⟨v, r, e, Rp.mono s h, Rps.mono s t⟩⟩
def PoA {αs : Type} [Rps αs] (K : PySem.W.Frag) (F H : Hp) (Q : List V → Hp → Prop) (E : XK) (m : Xc αs) : Prop := match m with
  | .ok a => ∀ vs F' H', Wd F H F' H' → Rps.isL K F' vs a → Q vs H'
  | .er c fs => ErP K F H E c fs
  | .no => False
theorem PoA.on {αs : Type} [Rps αs] {K : PySem.W.Frag} {F H F' H' : Hp} {Q : List V → Hp → Prop} {E : XK} {m : Xc αs} (h : PoA K F H Q E m) (w : Wd F H F' H') : PoA K F' H' Q E m := by
  cases m with
  | ok a => exact fun v F2 H2 w2 r => h v F2 H2 (w.trans w2) r
  | er c fs => exact ErP.on h w
  | no => exact h
/-- what a list of one's own gives: a new list, not frozen -/
def PoO {α : Type} [Rp α] (K : PySem.W.Frag) (F H : Hp) (Q : VK) (E : XK) (m : Xc (List α)) : Prop := match m with
  | .ok l => ∀ p xs F' H', Wd F H F' H' → H p = none → F' p = none → H' p = some (.lst xs) → l.length ≤ sizeLine → Al K F' xs l → Q (.ref p) H'
  | .er c fs => ErP K F H E c fs
  | .no => False
theorem PoO.on {α : Type} [Rp α] {K : PySem.W.Frag} {F H F' H' : Hp} {Q : VK} {E : XK} {m : Xc (List α)} (h : PoO K F H Q E m) (w : Wd F H F' H') : PoO K F' H' Q E m := by
  cases m with
  | ok a => exact fun p xs F2 H2 w2 n => h p xs F2 H2 (w.trans w2) (w.h.free n)
  | er c fs => exact ErP.on h w
  | no => exact h
/-- to freeze a list -/
theorem Wd.fz {F H F' H' : Hp} {p : Addr} {xs : List V} (w : Wd F H F' H') (n : H p = none) (f : F' p = none) (h : H' p = some (.lst xs)) : Wd F H (upd F' p (.lst xs)) H' :=
  ⟨w.f.trans (same_new f), w.h, fun b u e => by
    by_cases q : b = p
    · subst q; rw [upd_same] at e; rw [h]; exact e
    · rw [upd_ne q] at e; exact w.s b u e, fun b h' e => by
    by_cases q : b = p
    · subst q; exact n
    · rw [upd_ne q] at h'; exact w.n b h' e⟩
theorem Wd.ns {F H F' H' : Hp} (w : Wd F H F' H') (s : Same F H) {p : Addr} (n : H p = none) : F p = none := s.free n
section
variable {X : Cx} {c : C0} {γ α β δ αs : Type} {G : EnvT γ} [Rp α] [Rp β] [Rp δ] [Rps αs] {a b e : Expr} {pos : Pos} {es : List Expr}
def tA (K : PySem.W.Frag) (c : C0) (G : EnvT γ) (f : γ → Xc αs) : TA := fun σ H Q => ∃ F g, Wd c.F0 c.H0 F H ∧ G.rel K c.H0 F H σ g ∧ PoA K F H Q (WE c.W σ) (f g)
def FA (X : Cx) (c : C0) (G : EnvT γ) (es : List Expr) (f : γ → Xc αs) : Prop := PA X es (tA X.K c G f)
def tO (K : PySem.W.Frag) (c : C0) (G : EnvT γ) (f : γ → Xc (List α)) : TE := fun σ H Q => ∃ F g, Wd c.F0 c.H0 F H ∧ G.rel K c.H0 F H σ g ∧ PoO K F H Q (WE c.W σ) (f g)
/-- e computes a list that is new and one's own -/
def FO (X : Cx) (c : C0) (G : EnvT γ) (e : Expr) (f : γ → Xc (List α)) : Prop := PE X e (tO X.K c G f)
theorem PA.imp {t t' : TA} (h : PA X es t) (i : ∀ σ H Q, t' σ H Q → t σ H Q) : PA X es t' := ⟨fun pos pins s σ H Q I q => h.run pos pins s σ H Q I (i σ H Q q)⟩
theorem fa_nil : FA X c G [] (fun _ => Xc.ok ()) := PA.imp pa_nil fun σ H Q ⟨F, g, w, q, h⟩ => h [] F H (Wd.refl w.s) rfl
theorem fa_cons {f : γ → Xc α} {fs : γ → Xc αs} (ha : FE X c G e f) (hr : FA X c G es fs) (hs : starEach (e :: es) X.env = (false, eval e X.env) :: starEach es X.env := by rfl) :
    FA X c G (e :: es) (fun g => (f g).bind fun i => (fs g).bind fun r => Xc.ok (i, r)) :=
  PA.imp (pa_cons ha hr hs) fun σ H Q ⟨F, g, w, q, h⟩ => by
    refine ⟨F, g, w, q, ?_⟩
    cases e1 : f g with
    | ok i =>
      intro v F1 H1 w1 r1
      simp only [e1] at h
      have h : PoA X.K F H Q (WE c.W σ) ((fs g).bind fun r => Xc.ok (i, r)) := h
      refine ⟨F1, g, w.trans w1, G.mono q w1, ?_⟩
      cases e2 : fs g with
      | ok r =>
        intro vs F2 H2 w2 r2
        simp only [e2] at h
        exact h (v :: vs) F2 H2 (w1.trans w2) ⟨v, vs, rfl, Rp.mono w2.f r1, r2⟩
      | er c' fs => simp only [e2] at h; exact ErP.on h w1
      | no => simp only [e2] at h; exact h
    | er c' fs => simp only [e1] at h; exact h
    | no => simp only [e1] at h; exact h
/-- an own list as a frozen one -/
theorem fe_fz {f : γ → Xc (List α)} (h : FO X c G e f) : FE X c G e f :=
  PE.imp h fun σ H Q ⟨F, g, w, q, p⟩ => by
    refine ⟨F, g, w, q, ?_⟩
    cases e1 : f g with
    | ok l =>
      intro p1 xs F1 H1 w1 n f1 h1 hl r
      rw [e1] at p
      exact p (.ref p1) _ H1 (w1.fz n f1 h1) ⟨p1, xs, rfl, SqL.of upd_same, hl, r.mono (same_new f1)⟩
    | er c' fs => rw [e1] at p; exact p
    | no => rw [e1] at p; exact p
theorem FO.cast {f f' : γ → Xc (List α)} (h : FO X c G e f) (i : ∀ g, f' g = f g) : FO X c G e f' := by
  rw [show f' = f from funext i]; exact h
end

/-! ### displays -/
def PoH {α : Type} [Rp α] (K : PySem.W.Frag) (F H : Hp) (Q : List V → Hp → Prop) (E : XK) (m : Xc (List α)) : Prop := match m with
  | .ok a => ∀ vs F' H', Wd F H F' H' → Al K F' vs a → Q vs H'
  | .er c fs => ErP K F H E c fs
  | .no => False
theorem PoH.on {α : Type} [Rp α] {K : PySem.W.Frag} {F H F' H' : Hp} {Q : List V → Hp → Prop} {E : XK} {m : Xc (List α)} (h : PoH K F H Q E m) (w : Wd F H F' H') : PoH K F' H' Q E m := by
  cases m with
  | ok a => exact fun v F2 H2 w2 r => h v F2 H2 (w.trans w2) r
  | er c fs => exact ErP.on h w
  | no => exact h
section
variable {X : Cx} {c : C0} {γ α β δ ε : Type} {G : EnvT γ} [Rp α] [Rp β] [Rp δ] [Rp ε] {a b e d e' : Expr} {pos : Pos} {es : List Expr}
def tH (K : PySem.W.Frag) (c : C0) (G : EnvT γ) (f : γ → Xc (List α)) : TA := fun σ H Q => ∃ F g, Wd c.F0 c.H0 F H ∧ G.rel K c.H0 F H σ g ∧ PoH K F H Q (WE c.W σ) (f g)
/-- expressions in a row, all of one kind -/
def FH (X : Cx) (c : C0) (G : EnvT γ) (es : List Expr) (f : γ → Xc (List α)) : Prop := PA X es (tH X.K c G f)
theorem fh_nil : FH X c G [] (fun _ => Xc.ok ([] : List α)) := PA.imp pa_nil fun σ H Q ⟨F, g, w, q, h⟩ => h [] F H (Wd.refl w.s) .nil
theorem fh_cons {f : γ → Xc α} {fs : γ → Xc (List α)} (ha : FE X c G e f) (hr : FH X c G es fs) (hs : starEach (e :: es) X.env = (false, eval e X.env) :: starEach es X.env := by rfl) :
    FH X c G (e :: es) (fun g => (f g).bind fun i => (fs g).bind fun r => Xc.ok (i :: r)) :=
  PA.imp (pa_cons ha hr hs) fun σ H Q ⟨F, g, w, q, h⟩ => by
    refine ⟨F, g, w, q, ?_⟩
    cases e1 : f g with
    | ok i =>
      intro v F1 H1 w1 r1
      simp only [e1] at h
      have h : PoH X.K F H Q (WE c.W σ) ((fs g).bind fun r => Xc.ok (i :: r)) := h
      refine ⟨F1, g, w.trans w1, G.mono q w1, ?_⟩
      cases e2 : fs g with
      | ok r =>
        intro vs F2 H2 w2 r2
        simp only [e2] at h
        exact h (v :: vs) F2 H2 (w1.trans w2) (.cons (Rp.mono w2.f r1) r2)
      | er c' fs => simp only [e2] at h; exact ErP.on h w1
      | no => simp only [e2] at h; exact h
    | er c' fs => simp only [e1] at h; exact h
    | no => simp only [e1] at h; exact h
theorem small_line {n : Nat} (h : n ≤ 1000) : n ≤ sizeLine := Nat.le_trans h (by rw [sizeLine_eq]; decide)
@[irreducible] def szX {α : Type} (l : List α) : Xc (List α) := if l.length ≤ sizeLine then .ok l else .no
theorem fe_tup2 {x1} {fa : γ → Xc α} {fb : γ → Xc β} (ha : FE X c G a fa) (hb : FE X c G b fb) (hs : starEach [a, b] X.env = (false, eval a X.env) :: starEach [b] X.env := by rfl) (hs2 : starEach [b] X.env = (false, eval b X.env) :: starEach [] X.env := by rfl) :
    FE X c G (.Tuple [a, b] x1 pos) (fun g => (fa g).bind fun i => (fb g).bind fun j => Xc.ok (i, j)) :=
  PE.imp (pe_tup (fa_cons ha (fa_cons hb fa_nil hs2) hs)) fun σ H Q ⟨F, g, w, q, p⟩ => by
    refine ⟨F, g, w, q, ?_⟩
    cases e1 : fa g with
    | ok i =>
      cases e2 : fb g with
      | ok j =>
        simp only [e1, e2] at p ⊢
        intro vs F1 H1 w1 r1
        obtain ⟨v, r, e3, q1, ⟨u, r2, e4, q2, e5⟩⟩ := r1
        subst e5 e4 e3
        refine ⟨small_line (by decide : 2 ≤ 1000), fun l hl => ?_⟩
        have w2 := Wd.new (o := .tup [v, u]) w1.s hl
        exact p (.ref l) _ _ (w1.trans w2) ⟨l, v, u, rfl, SqT.of upd_same, Rp.mono w2.f q1, Rp.mono w2.f q2⟩
      | er c' fs => simp only [e1, e2] at p ⊢; exact p
      | no => simp only [e1, e2] at p ⊢; exact p
    | er c' fs => simp only [e1] at p ⊢; exact p
    | no => simp only [e1] at p ⊢; exact p
theorem fe_tup3 {x1} {fa : γ → Xc α} {fb : γ → Xc β} {fd : γ → Xc δ} (ha : FE X c G a fa) (hb : FE X c G b fb) (hd : FE X c G d fd) (hs : starEach [a, b, d] X.env = (false, eval a X.env) :: starEach [b, d] X.env := by rfl)
    (hs2 : starEach [b, d] X.env = (false, eval b X.env) :: starEach [d] X.env := by rfl) (hs3 : starEach [d] X.env = (false, eval d X.env) :: starEach [] X.env := by rfl) :
    FE X c G (.Tuple [a, b, d] x1 pos) (fun g => (fa g).bind fun i => (fb g).bind fun j => (fd g).bind fun m => Xc.ok (T3.mk i j m)) :=
  PE.imp (pe_tup (fa_cons ha (fa_cons hb (fa_cons hd fa_nil hs3) hs2) hs)) fun σ H Q ⟨F, g, w, q, p⟩ => by
    refine ⟨F, g, w, q, ?_⟩
    cases e1 : fa g with
    | ok i =>
      cases e2 : fb g with
      | ok j =>
        cases e3 : fd g with
        | ok m =>
          simp only [e1, e2, e3] at p ⊢
          intro vs F1 H1 w1 r1
          obtain ⟨v, r, y1, q1, ⟨u, r2, y2, q2, ⟨z, r3, y3, q3, y4⟩⟩⟩ := r1
          subst y4 y3 y2 y1
          refine ⟨small_line (by decide : 3 ≤ 1000), fun l hl => ?_⟩
          have w2 := Wd.new (o := .tup [v, u, z]) w1.s hl
          exact p (.ref l) _ _ (w1.trans w2) ⟨l, v, u, z, rfl, SqT.of upd_same, Rp.mono w2.f q1, Rp.mono w2.f q2, Rp.mono w2.f q3⟩
        | er c' fs => simp only [e1, e2, e3] at p ⊢; exact p
        | no => simp only [e1, e2, e3] at p ⊢; exact p
      | er c' fs => simp only [e1, e2] at p ⊢; exact p
      | no => simp only [e1, e2] at p ⊢; exact p
    | er c' fs => simp only [e1] at p ⊢; exact p
    | no => simp only [e1] at p ⊢; exact p
theorem fe_tup4 {x1} {fa : γ → Xc α} {fb : γ → Xc β} {fd : γ → Xc δ} {fe : γ → Xc ε} (ha : FE X c G a fa) (hb : FE X c G b fb) (hd : FE X c G d fd) (he : FE X c G e' fe) (hs : starEach [a, b, d, e'] X.env = (false, eval a X.env) :: starEach [b, d, e'] X.env := by rfl)
    (hs2 : starEach [b, d, e'] X.env = (false, eval b X.env) :: starEach [d, e'] X.env := by rfl) (hs3 : starEach [d, e'] X.env = (false, eval d X.env) :: starEach [e'] X.env := by rfl) (hs4 : starEach [e'] X.env = (false, eval e' X.env) :: starEach [] X.env := by rfl) :
    FE X c G (.Tuple [a, b, d, e'] x1 pos) (fun g => (fa g).bind fun i => (fb g).bind fun j => (fd g).bind fun m => (fe g).bind fun n => Xc.ok (T4.mk i j m n)) :=
  PE.imp (pe_tup (fa_cons ha (fa_cons hb (fa_cons hd (fa_cons he fa_nil hs4) hs3) hs2) hs)) fun σ H Q ⟨F, g, w, q, p⟩ => by
    refine ⟨F, g, w, q, ?_⟩
    cases e1 : fa g with
    | ok i =>
      cases e2 : fb g with
      | ok j =>
        cases e3 : fd g with
        | ok m =>
          cases e4 : fe g with
          | ok n =>
            simp only [e1, e2, e3, e4] at p ⊢
            intro vs F1 H1 w1 r1
            obtain ⟨v, r, y1, q1, ⟨u, r2, y2, q2, ⟨z, r3, y3, q3, ⟨t, r4, y4, q4, y5⟩⟩⟩⟩ := r1
            subst y5 y4 y3 y2 y1
            refine ⟨small_line (by decide : 4 ≤ 1000), fun l hl => ?_⟩
            have w2 := Wd.new (o := .tup [v, u, z, t]) w1.s hl
            exact p (.ref l) _ _ (w1.trans w2) ⟨l, v, u, z, t, rfl, SqT.of upd_same, Rp.mono w2.f q1, Rp.mono w2.f q2, Rp.mono w2.f q3, Rp.mono w2.f q4⟩
          | er c' fs => simp only [e1, e2, e3, e4] at p ⊢; exact p
          | no => simp only [e1, e2, e3, e4] at p ⊢; exact p
        | er c' fs => simp only [e1, e2, e3] at p ⊢; exact p
        | no => simp only [e1, e2, e3] at p ⊢; exact p
      | er c' fs => simp only [e1, e2] at p ⊢; exact p
      | no => simp only [e1, e2] at p ⊢; exact p
    | er c' fs => simp only [e1] at p ⊢; exact p
    | no => simp only [e1] at p ⊢; exact p
/-- a tuple of items of one kind -/
theorem fe_tupU {x1} {fs : γ → Xc (List α)} (h : FH X c G es fs) : FE X c G (.Tuple es x1 pos) (fun g => (fs g).bind fun l => (szX l).bind fun l => Xc.ok (tu l)) :=
  PE.imp (pe_tup h) fun σ H Q ⟨F, g, w, q, p⟩ => by
    refine ⟨F, g, w, q, ?_⟩
    cases e1 : fs g with
    | ok l =>
      intro vs F1 H1 w1 r1
      simp only [e1] at p
      have p : Po X.K F H Q (WE c.W σ) ((szX l).bind fun l => Xc.ok (tu l)) := p
      unfold szX at p
      by_cases hz : l.length ≤ sizeLine
      · rw [if_pos hz] at p
        refine ⟨by rw [r1.len]; exact hz, fun t ht => ?_⟩
        have w2 := Wd.new (o := .tup vs) w1.s ht
        exact p (.ref t) _ _ (w1.trans w2) ⟨t, vs, rfl, SqT.of upd_same, hz, r1.mono w2.f⟩
      · rw [if_neg hz] at p; exact p.elim
    | er c' fs => simp only [e1] at p; exact p
    | no => simp only [e1] at p; exact p
theorem fo_lst {fs : γ → Xc (List α)} (h : FH X c G es fs) : FO X c G (.List es pos) (fun g => (fs g).bind szX) :=
  PE.imp (pe_lst h) fun σ H Q ⟨F, g, w, q, p⟩ => by
    refine ⟨F, g, w, q, ?_⟩
    cases e1 : fs g with
    | ok l =>
      intro vs F1 H1 w1 r1
      simp only [e1] at p
      have p : PoO X.K F H Q (WE c.W σ) (szX l) := p
      unfold szX at p
      by_cases hz : l.length ≤ sizeLine
      · rw [if_pos hz] at p
        refine ⟨by rw [r1.len]; exact hz, fun t ht => ?_⟩
        exact p t vs F1 _ (w1.trans (Wd.newO w1.s ht)) (w1.h.free ht) (w1.s.free ht) upd_same hz r1
      · rw [if_neg hz] at p; exact p.elim
    | er c' fs => simp only [e1] at p; exact p
    | no => simp only [e1] at p; exact p
theorem fo_nil : FO X c G (.List [] pos) (fun _ => Xc.ok ([] : List α)) :=
  PE.imp (pe_lst pa_nil) fun σ H Q ⟨F, g, w, q, p⟩ => by
    refine ⟨Nat.zero_le _, fun l hl => ?_⟩
    exact p l [] F _ (Wd.newO w.s hl) hl (w.s.free hl) upd_same (Nat.zero_le _) .nil
end

/-! ### subscripts -/
@[irreducible] def getX {α : Type} (l : List α) (i : Int) : Xc α := match atI l i with
  | some a => .ok a
  | none => .no
theorem atI_al {α : Type} [Rp α] {K : PySem.W.Frag} {F : Hp} {xs : List V} {l : List α} {i : Int} {a : α} (r : Al K F xs l) (h : atI l i = some a) : ∃ v, atI xs i = some v ∧ Rp.is K F v a := by
  unfold atI at h ⊢
  rw [r.len]
  cases e : ixN l.length i with
  | none => rw [e] at h; cases h
  | some j =>
    rw [e] at h
    exact r.get' (show l[j]? = some a from h)
@[irreducible] def chX (z : Str) (i : Int) : Xc Str := match atI z.cps.toList i with
  | some k => .ok ⟨#[k]⟩
  | none => .no
theorem one_le_line : 1 ≤ sizeLine := by rw [sizeLine_eq]; decide
section
variable {X : Cx} {c : C0} {γ α β δ τ : Type} {G : EnvT γ} [Rp α] [Rp β] [Rp δ] {a b e : Expr} {pos : Pos} {es : List Expr}
theorem fe_ixL {fa : γ → Xc (List α)} {fi : γ → Xc Int} (ha : FE X c G a fa) (hb : FE X c G b fi) (hs : PlainIx b := by exact fun _ _ => rfl) : FE X c G (.Subscript a b pos) (fun g => (fa g).bind fun l => (fi g).bind fun i => getX l i) :=
  two (fun h1 h2 => pe_ix ix_list h1 h2 hs) ha hb fun {F H x y l i Q E} s r1 r2 p => by
    obtain ⟨q, xs, e, hq, z, r⟩ := r1
    unfold getX at p
    cases h : atI l i with
    | none => rw [h] at p; exact p.elim
    | some v =>
      rw [h] at p
      obtain ⟨u, hu, ru⟩ := atI_al r h
      exact ⟨q, xs, i, u, e, r2, Same.seq s hq, hu, p.ret s ru⟩
theorem fe_ixU {fa : γ → Xc (Tu α)} {fi : γ → Xc Int} (ha : FE X c G a fa) (hb : FE X c G b fi) (hs : PlainIx b := by exact fun _ _ => rfl) : FE X c G (.Subscript a b pos) (fun g => (fa g).bind fun l => (fi g).bind fun i => getX (Tu.l l) i) :=
  two (fun h1 h2 => pe_ix ix_tup h1 h2 hs) ha hb fun {F H x y l i Q E} s r1 r2 p => by
    obtain ⟨q, xs, e, hq, z, r⟩ := r1
    unfold getX at p
    cases h : atI (Tu.l l) i with
    | none => rw [h] at p; exact p.elim
    | some v =>
      rw [h] at p
      obtain ⟨u, hu, ru⟩ := atI_al r h
      exact ⟨q, xs, i, u, e, r2, Same.seqT s hq, hu, p.ret s ru⟩
theorem fe_ixS {fa : γ → Xc Str} {fi : γ → Xc Int} (ha : FE X c G a fa) (hb : FE X c G b fi) (hs : PlainIx b := by exact fun _ _ => rfl) : FE X c G (.Subscript a b pos) (fun g => (fa g).bind fun l => (fi g).bind fun i => chX l i) :=
  two (fun h1 h2 => pe_ix ix_str h1 h2 hs) ha hb fun {F H x y l i Q E} s r1 r2 p => by
    unfold chX at p
    cases h : atI l.cps.toList i with
    | none => rw [h] at p; exact p.elim
    | some v =>
      rw [h] at p
      exact ⟨l, i, v, r1.1, r2, r1.2, h, p.ret s ⟨rfl, one_le_line⟩⟩
/-- t[k] of a written place -/
theorem fe_itm {fa : γ → Xc τ} [Rp τ] {π : τ → α} {k : Int} {j p} (hπ : ∀ {K F v} {t : τ}, Rp.is K F v t → ∃ q xs u, v = .ref q ∧ SqT K F q xs ∧ atI xs k = some u ∧ Rp.is K F u (π t)) (ha : FE X c G a fa) :
    FE X c G (.Subscript a (.Constant (.int k) j p) pos) (fun g => (fa g).bind fun t => Xc.ok (π t)) :=
  PE.imp (pe_ix ix_tup ha pe_int (fun _ _ => rfl)) fun σ H Q ⟨F, g, w, q, h⟩ => by
    refine ⟨F, g, w, q, ?_⟩
    cases e1 : fa g with
    | ok t =>
      intro v F1 H1 w1 r1
      simp only [e1] at h
      obtain ⟨q, xs, u, e, hq, hu, r⟩ := hπ r1
      exact ⟨q, xs, k, u, e, rfl, Same.seqT w1.s hq, hu, (Po.on h w1).ret w1.s r⟩
    | er c' fs => simp only [e1] at h; exact h
    | no => simp only [e1] at h; exact h
variable {ε ζ : Type} [Rp ε] [Rp ζ] {j : Nat} {p : Pos}
theorem fe_p0 {fa : γ → Xc (α × β)} (ha : FE X c G a fa) : FE X c G (.Subscript a (.Constant (.int 0) j p) pos) (fun g => (fa g).bind fun t => Xc.ok t.1) :=
  fe_itm (fun h => by obtain ⟨q, x, y, e, h, r1, r2⟩ := h; exact ⟨q, _, x, e, h, atI_nat (j := 0) rfl, r1⟩) ha
theorem fe_p1 {fa : γ → Xc (α × β)} (ha : FE X c G a fa) : FE X c G (.Subscript a (.Constant (.int 1) j p) pos) (fun g => (fa g).bind fun t => Xc.ok t.2) :=
  fe_itm (fun h => by obtain ⟨q, x, y, e, h, r1, r2⟩ := h; exact ⟨q, _, y, e, h, atI_nat (j := 1) rfl, r2⟩) ha
theorem fe_t0 {fa : γ → Xc (T3 α β ε)} (ha : FE X c G a fa) : FE X c G (.Subscript a (.Constant (.int 0) j p) pos) (fun g => (fa g).bind fun t => Xc.ok t.a) :=
  fe_itm (fun h => by obtain ⟨q, x, y, z, e, h, r1, r2, r3⟩ := h; exact ⟨q, _, x, e, h, atI_nat (j := 0) rfl, r1⟩) ha
theorem fe_t1 {fa : γ → Xc (T3 α β ε)} (ha : FE X c G a fa) : FE X c G (.Subscript a (.Constant (.int 1) j p) pos) (fun g => (fa g).bind fun t => Xc.ok t.b) :=
  fe_itm (fun h => by obtain ⟨q, x, y, z, e, h, r1, r2, r3⟩ := h; exact ⟨q, _, y, e, h, atI_nat (j := 1) rfl, r2⟩) ha
theorem fe_t2 {fa : γ → Xc (T3 α β ε)} (ha : FE X c G a fa) : FE X c G (.Subscript a (.Constant (.int 2) j p) pos) (fun g => (fa g).bind fun t => Xc.ok t.c) :=
  fe_itm (fun h => by obtain ⟨q, x, y, z, e, h, r1, r2, r3⟩ := h; exact ⟨q, _, z, e, h, atI_nat (j := 2) rfl, r3⟩) ha
theorem fe_q0 {fa : γ → Xc (T4 α β ε ζ)} (ha : FE X c G a fa) : FE X c G (.Subscript a (.Constant (.int 0) j p) pos) (fun g => (fa g).bind fun t => Xc.ok t.a) :=
  fe_itm (fun h => by obtain ⟨q, x, y, z, u, e, h, r1, r2, r3, r4⟩ := h; exact ⟨q, _, x, e, h, atI_nat (j := 0) rfl, r1⟩) ha
theorem fe_q1 {fa : γ → Xc (T4 α β ε ζ)} (ha : FE X c G a fa) : FE X c G (.Subscript a (.Constant (.int 1) j p) pos) (fun g => (fa g).bind fun t => Xc.ok t.b) :=
  fe_itm (fun h => by obtain ⟨q, x, y, z, u, e, h, r1, r2, r3, r4⟩ := h; exact ⟨q, _, y, e, h, atI_nat (j := 1) rfl, r2⟩) ha
theorem fe_q2 {fa : γ → Xc (T4 α β ε ζ)} (ha : FE X c G a fa) : FE X c G (.Subscript a (.Constant (.int 2) j p) pos) (fun g => (fa g).bind fun t => Xc.ok t.c) :=
  fe_itm (fun h => by obtain ⟨q, x, y, z, u, e, h, r1, r2, r3, r4⟩ := h; exact ⟨q, _, z, e, h, atI_nat (j := 2) rfl, r3⟩) ha
theorem fe_q3 {fa : γ → Xc (T4 α β ε ζ)} (ha : FE X c G a fa) : FE X c G (.Subscript a (.Constant (.int 3) j p) pos) (fun g => (fa g).bind fun t => Xc.ok t.d) :=
  fe_itm (fun h => by obtain ⟨q, x, y, z, u, e, h, r1, r2, r3, r4⟩ := h; exact ⟨q, _, u, e, h, atI_nat (j := 3) rfl, r4⟩) ha
end

/-! ### slices -/
section
variable {X : Cx} {c : C0} {γ α β δ τ : Type} {G : EnvT γ} [Rp α] [Rp β] [Rp δ] {a b e : Expr} {pos p2 : Pos} {lo hi : Option Expr}
/-- a part of a slice -/
def PoP (K : PySem.W.Frag) (F H : Hp) (Q : Option Int → Hp → Prop) (E : XK) (m : Xc (Option Int)) : Prop := match m with
  | .ok b => ∀ F' H', Wd F H F' H' → Q b H'
  | .er c fs => ErP K F H E c fs
  | .no => False
def FP (X : Cx) (c : C0) (G : EnvT γ) (e : Option Expr) (f : γ → Xc (Option Int)) : Prop := PO X e (fun σ H Q => ∃ F g, Wd c.F0 c.H0 F H ∧ G.rel X.K c.H0 F H σ g ∧ PoP X.K F H Q (WE c.W σ) (f g))
theorem fp_none : FP X c G none (fun _ => Xc.ok none) := ⟨fun pins s σ H Q I ⟨F, g, w, q, h⟩ => po_none.run pins s σ H Q I (h F H (Wd.refl w.s))⟩
theorem fp_some {f : γ → Xc Int} (h : FE X c G e f) : FP X c G (some e) (fun g => (f g).bind fun i => Xc.ok (some i)) := ⟨fun pins s σ H Q I ⟨F, g, w, q, p⟩ => (po_some h).run pins s σ H Q I (by
  refine ⟨F, g, w, q, ?_⟩
  cases e1 : f g with
  | ok i => intro v F1 H1 w1 r1; simp only [e1] at p; exact ⟨i, r1, p F1 H1 w1⟩
  | er c' fs => simp only [e1] at p; exact p
  | no => simp only [e1] at p; exact p)⟩
theorem slc {f : γ → Xc α} {fl fh : γ → Xc (Option Int)} {op : α → Option Int → Option Int → Xc β} {r : V → Option Int → Option Int → Hp → VK → Prop} (hr : SlR X r)
    (hop : ∀ {F H x i l u Q E}, Same F H → Rp.is X.K F x i → Po X.K F H Q E (op i l u) → r x l u H Q) (ha : FE X c G a f) (hl : FP X c G lo fl) (hu : FP X c G hi fh) :
    FE X c G (.Subscript a (.Slice lo hi none p2) pos) (fun g => (f g).bind fun i => (fl g).bind fun l => (fh g).bind fun u => op i l u) :=
  PE.imp (pe_slice hr ha hl hu) fun σ H Q ⟨F, g, w, q, p⟩ => by
    refine ⟨F, g, w, q, ?_⟩
    cases e1 : f g with
    | ok i =>
      intro v F1 H1 w1 r1
      simp only [e1] at p
      have p : Po X.K F H Q (WE c.W σ) ((fl g).bind fun l => (fh g).bind fun u => op i l u) := p
      refine ⟨F1, g, w.trans w1, G.mono q w1, ?_⟩
      cases e2 : fl g with
      | ok l =>
        intro F2 H2 w2
        simp only [e2] at p
        have p : Po X.K F H Q (WE c.W σ) ((fh g).bind fun u => op i l u) := p
        refine ⟨F2, g, (w.trans w1).trans w2, G.mono (G.mono q w1) w2, ?_⟩
        cases e3 : fh g with
        | ok u =>
          intro F3 H3 w3
          simp only [e3] at p
          exact hop w3.s (Rp.mono (w2.trans w3).f r1) (Po.on (show Po X.K F H Q (WE c.W σ) (op i l u) from p) ((w1.trans w2).trans w3))
        | er c' fs => simp only [e3] at p; exact ErP.on (show ErP X.K F H (WE c.W σ) c' fs from p) (w1.trans w2)
        | no => simp only [e3] at p; exact p
      | er c' fs => simp only [e2] at p; exact ErP.on (show ErP X.K F H (WE c.W σ) c' fs from p) w1
      | no => simp only [e2] at p; exact p
    | er c' fs => simp only [e1] at p; exact p
    | no => simp only [e1] at p; exact p
/-- xs[l:u] of any list -/
@[irreducible] def cutL {α : Type} (xs : List α) (lo hi : Option Int) : List α := (xs.drop (HT.sIx xs.length 0 lo)).take (HT.sIx xs.length xs.length hi - HT.sIx xs.length 0 lo)
theorem cutL_al {K : PySem.W.Frag} {F : Hp} {xs : List V} {l : List α} {lo hi : Option Int} (r : Al K F xs l) : Al K F (cutV xs lo hi) (cutL l lo hi) := by
  unfold cutV cutL
  rw [r.len]
  exact (r.drop _).take _
theorem cutL_len (l : List α) (lo hi : Option Int) : (cutL l lo hi).length ≤ l.length := by
  unfold cutL
  rw [List.length_take, List.length_drop]
  omega
theorem fe_slS {f : γ → Xc Str} {fl fh : γ → Xc (Option Int)} (ha : FE X c G a f) (hl : FP X c G lo fl) (hu : FP X c G hi fh) :
    FE X c G (.Subscript a (.Slice lo hi none p2) pos) (fun g => (f g).bind fun i => (fl g).bind fun l => (fh g).bind fun u => Xc.ok (cutS i l u)) :=
  slc sl_str (fun {F H x i l u Q E} s r p => by exact ⟨i, r.1, r.2, p.ret s ⟨rfl, Nat.le_trans (cutS_length _ _ _) r.2⟩⟩) ha hl hu
theorem fe_slL {f : γ → Xc (List α)} {fl fh : γ → Xc (Option Int)} (ha : FE X c G a f) (hl : FP X c G lo fl) (hu : FP X c G hi fh) :
    FE X c G (.Subscript a (.Slice lo hi none p2) pos) (fun g => (f g).bind fun i => (fl g).bind fun l => (fh g).bind fun u => Xc.ok (cutL i l u)) :=
  slc sl_list (fun {F H x i l u Q E} s h p => by
    obtain ⟨q, xs, e, hq, z, r⟩ := h
    exact ⟨q, xs, e, Same.seq s hq, fun k hk => p (.ref k) _ _ (Wd.new s hk) ⟨k, _, rfl, SqL.of upd_same, Nat.le_trans (cutL_len _ _ _) z, (cutL_al r).mono (same_new (s.free hk))⟩⟩) ha hl hu
theorem fe_slU {f : γ → Xc (Tu α)} {fl fh : γ → Xc (Option Int)} (ha : FE X c G a f) (hl : FP X c G lo fl) (hu : FP X c G hi fh) :
    FE X c G (.Subscript a (.Slice lo hi none p2) pos) (fun g => (f g).bind fun i => (fl g).bind fun l => (fh g).bind fun u => Xc.ok (tu (cutL (Tu.l i) l u))) :=
  slc sl_tupA (fun {F H x i l u Q E} s h p => by
    obtain ⟨q, xs, e, hq, z, r⟩ := h
    refine ⟨q, xs, e, Same.seqT s hq, fun hw => ?_, fun hw k hk => ?_⟩
    · refine p.ret s ⟨q, xs, rfl, hq, Nat.le_trans (cutL_len _ _ _) z, ?_⟩
      have e1 : cutL (Tu.l i) l u = (Tu.l i) := by
        unfold cutL
        rw [r.len] at hw
        rw [hw.1, hw.2, Nat.sub_zero, List.drop_zero, List.take_length]
      rw [e1]; exact r
    · exact p (.ref k) _ _ (Wd.new s hk) ⟨k, _, rfl, SqT.of upd_same, Nat.le_trans (cutL_len _ _ _) z, (cutL_al r).mono (same_new (s.free hk))⟩) ha hl hu
end
end FL

/-! FL4: built-in calls, texts, tuples joined, lists of one's own read. -/
namespace FL
open PySem L2
section
variable {X : Cx} {c : C0} {γ α β ρ αs : Type} {G : EnvT γ} [Rp α] [Rp β] [Rp ρ] [Rps αs] {a b e : Expr} {pos p p2 : Pos} {es : List Expr}
/-- a call of a built-in thing by its arguments -/
theorem callA {r : List V → Hp → VK → Prop} {op : αs → Xc ρ} {fs : γ → Xc αs} (h : ∀ {t : TA}, PA X es t → PE X e (tCB r t)) (hA : FA X c G es fs)
    (hop : ∀ {F H vs as Q E}, Same F H → Rps.isL X.K F vs as → Po X.K F H Q E (op as) → r vs H Q) : FE X c G e (fun g => (fs g).bind op) :=
  PE.imp (h hA) fun σ H Q ⟨F, g, w, q, p⟩ => by
    refine ⟨F, g, w, q, ?_⟩
    cases e1 : fs g with
    | ok as => intro vs F1 H1 w1 r1; simp only [e1] at p; exact hop w1.s r1 (Po.on (show Po X.K F H Q (WE c.W σ) (op as) from p) w1)
    | er c' fs => simp only [e1] at p; exact p
    | no => simp only [e1] at p; exact p
theorem callAO {r : List V → Hp → VK → Prop} {op : αs → Xc (List ρ)} {fs : γ → Xc αs} (h : ∀ {t : TA}, PA X es t → PE X e (tCB r t)) (hA : FA X c G es fs)
    (hop : ∀ {F H vs as Q E}, Same F H → Rps.isL X.K F vs as → PoO X.K F H Q E (op as) → r vs H Q) : FO X c G e (fun g => (fs g).bind op) :=
  PE.imp (h hA) fun σ H Q ⟨F, g, w, q, p⟩ => by
    refine ⟨F, g, w, q, ?_⟩
    cases e1 : fs g with
    | ok as => intro vs F1 H1 w1 r1; simp only [e1] at p; exact hop w1.s r1 (PoO.on (show PoO X.K F H Q (WE c.W σ) (op as) from p) w1)
    | er c' fs => simp only [e1] at p; exact p
    | no => simp only [e1] at p; exact p
/-- one argument -/
theorem call1 {r : List V → Hp → VK → Prop} {op : α → Xc ρ} {fa : γ → Xc α} (h : ∀ {t : TA}, PA X [a] t → PE X e (tCB r t)) (ha : FE X c G a fa) (hs : starEach [a] X.env = (false, eval a X.env) :: starEach [] X.env := by rfl)
    (hop : ∀ {F H v i Q E}, Same F H → Rp.is X.K F v i → Po X.K F H Q E (op i) → r [v] H Q) : FE X c G e (fun g => (fa g).bind op) :=
  FE.cast (callA (op := fun (as : α × Unit) => op as.1) h (fa_cons ha fa_nil hs) fun {F H vs as Q E} s r p => by
    obtain ⟨v, r', e1, r1, e2⟩ := r
    subst e2 e1
    exact hop s r1 p) fun g => by cases fa g <;> rfl
theorem call1O {r : List V → Hp → VK → Prop} {op : α → Xc (List ρ)} {fa : γ → Xc α} (h : ∀ {t : TA}, PA X [a] t → PE X e (tCB r t)) (ha : FE X c G a fa) (hs : starEach [a] X.env = (false, eval a X.env) :: starEach [] X.env := by rfl)
    (hop : ∀ {F H v i Q E}, Same F H → Rp.is X.K F v i → PoO X.K F H Q E (op i) → r [v] H Q) : FO X c G e (fun g => (fa g).bind op) :=
  FO.cast (callAO (op := fun (as : α × Unit) => op as.1) h (fa_cons ha fa_nil hs) fun {F H vs as Q E} s r p => by
    obtain ⟨v, r', e1, r1, e2⟩ := r
    subst e2 e1
    exact hop s r1 p) fun g => by cases fa g <;> rfl
theorem call2 {r : List V → Hp → VK → Prop} {op : α → β → Xc ρ} {fa : γ → Xc α} {fb : γ → Xc β} (h : ∀ {t : TA}, PA X [a, b] t → PE X e (tCB r t)) (ha : FE X c G a fa) (hb : FE X c G b fb)
    (hs : starEach [a, b] X.env = (false, eval a X.env) :: starEach [b] X.env := by rfl) (hs2 : starEach [b] X.env = (false, eval b X.env) :: starEach [] X.env := by rfl)
    (hop : ∀ {F H v u i j Q E}, Same F H → Rp.is X.K F v i → Rp.is X.K F u j → Po X.K F H Q E (op i j) → r [v, u] H Q) : FE X c G e (fun g => (fa g).bind fun i => (fb g).bind fun j => op i j) :=
  FE.cast (callA (op := fun (as : α × β × Unit) => op as.1 as.2.1) h (fa_cons ha (fa_cons hb fa_nil hs2) hs) fun {F H vs as Q E} s r p => by
    obtain ⟨v, r', e1, r1, u, r'', e2, r2, e3⟩ := r
    subst e3 e2 e1
    exact hop s r1 r2 p) fun g => by cases fa g <;> first | rfl | (cases fb g <;> rfl)

/-! ### len -/
class HasLen (α : Type) [Rp α] where
  len : α → Nat
  is : ∀ {K F H v} {a : α}, Same F H → Rp.is K F v a → LenV K v H (len a)
instance : HasLen Str := ⟨Str.length, fun {K F H v a} s h => by obtain ⟨h1, h2⟩ := h; subst h1; exact ⟨h2, rfl⟩⟩
instance {α : Type} [Rp α] : HasLen (List α) := ⟨List.length, fun {K F H v a} s h => by obtain ⟨q, xs, e, hq, z, r⟩ := h; subst e; exact .inl ⟨xs, Same.seq s hq, r.len.symm⟩⟩
instance {α : Type} [Rp α] : HasLen (Tu α) := ⟨fun t => t.l.length, fun {K F H v a} s h => by obtain ⟨q, xs, e, hq, z, r⟩ := h; subst e; exact .inr ⟨xs, Same.seqT s hq, r.len.symm⟩⟩
theorem fe_len [HasLen α] {fa : γ → Xc α} (ha : FE X c G a fa) (hm : X.mg "len" = none) (hg : Gl X "len" := by rfl) (hs : starEach [a] X.env = (false, eval a X.env) :: starEach [] X.env := by rfl) :
    FE X c G (.Call (.Name "len" p) [a] [] pos) (fun g => (fa g).bind fun i => Xc.ok ((HasLen.len i : Nat) : Int)) :=
  call1 (r := fun xs H Q => ∃ x n, xs = [x] ∧ LenV X.K x H n ∧ Q (.int n) H) (fun h => pe_callB call_len hg hm PySem.boot_len h (he := hs)) ha hs fun {F H v i Q E} s r p => by
    exact ⟨v, _, rfl, HasLen.is s r, p.ret s rfl⟩

/-! ### numbers -/
@[irreducible] def absI (i : Int) : Int := if i < 0 then -i else i
theorem fe_abs {fa : γ → Xc Int} (ha : FE X c G a fa) (hm : X.mg "abs" = none) (hg : Gl X "abs" := by rfl) (hs : starEach [a] X.env = (false, eval a X.env) :: starEach [] X.env := by rfl) :
    FE X c G (.Call (.Name "abs" p) [a] [] pos) (fun g => (fa g).bind fun i => Xc.ok (absI i)) :=
  call1 (fun h => pe_callB call_abs hg hm (by decide +kernel) h (he := hs)) ha hs fun {F H v i Q E} s r p => by
    have r : v = .int i := r
    subst r
    exact ⟨i, rfl, p.ret s (by first | rfl | (unfold absI; rfl) | (unfold gcdI; rfl))⟩
theorem fe_intI {fa : γ → Xc Int} (ha : FE X c G a fa) (hm : X.mg "int" = none) (hg : Gl X "int" := by rfl) (hs : starEach [a] X.env = (false, eval a X.env) :: starEach [] X.env := by rfl) :
    FE X c G (.Call (.Name "int" p) [a] [] pos) (fun g => (fa g).bind fun i => Xc.ok i) :=
  call1 (fun h => pe_callTy call_int1 hg hm PyProof.Rows.boot_int h (he := hs)) ha hs fun {F H v i Q E} s r p => by
    have r : v = .int i := r
    subst r
    exact .inl ⟨i, rfl, p.ret s rfl⟩
def b2i (b : Bool) : Int := if b = true then 1 else 0
theorem fe_intB {fa : γ → Xc Bool} (ha : FE X c G a fa) (hm : X.mg "int" = none) (hg : Gl X "int" := by rfl) (hs : starEach [a] X.env = (false, eval a X.env) :: starEach [] X.env := by rfl) :
    FE X c G (.Call (.Name "int" p) [a] [] pos) (fun g => (fa g).bind fun i => Xc.ok (b2i i)) :=
  call1 (fun h => pe_callTy call_int1 hg hm PyProof.Rows.boot_int h (he := hs)) ha hs fun {F H v i Q E} s r p => by
    have r : v = .bl i := r
    subst r
    exact .inr ⟨i, rfl, p.ret s rfl⟩
@[irreducible] def intX (z : Str) : Xc Int := if z.length ≤ 640 then (match PySem.intText? z with
  | some n => .ok n
  | none => .no) else .no
theorem fe_intS {fa : γ → Xc Str} (ha : FE X c G a fa) (hm : X.mg "int" = none) (hg : Gl X "int" := by rfl) (hs : starEach [a] X.env = (false, eval a X.env) :: starEach [] X.env := by rfl) :
    FE X c G (.Call (.Name "int" p) [a] [] pos) (fun g => (fa g).bind intX) :=
  call1 (fun h => pe_callTy call_int_str hg hm PyProof.Rows.boot_int h (he := hs)) ha hs fun {F H v i Q E} s r p => by
    have r : v = .str i := r.1
    subst r
    unfold intX at p
    by_cases hz : i.length ≤ 640
    · rw [if_pos hz] at p
      cases e1 : PySem.intText? i with
      | none => rw [e1] at p; exact p.elim
      | some n => rw [e1] at p; exact ⟨i, n, rfl, e1, hz, p.ret s rfl⟩
    · rw [if_neg hz] at p; exact p.elim
@[irreducible] def gcdI (i j : Int) : Int := ((Nat.gcd i.natAbs j.natAbs : Nat) : Int)
theorem fe_gcd {fa fb : γ → Xc Int} (ha : FE X c G a fa) (hb : FE X c G b fb) (hm : X.mg "gcd" = some (.builtin "math.gcd")) (hg : Gl X "gcd" := by rfl) (hs : starEach [a, b] X.env = (false, eval a X.env) :: starEach [b] X.env := by rfl)
    (hs2 : starEach [b] X.env = (false, eval b X.env) :: starEach [] X.env := by rfl) (hpl : (backTo pos (starEach [b] X.env)).any (·.1) = false := by rfl) :
    FE X c G (.Call (.Name "gcd" p) [a, b] [] pos) (fun g => (fa g).bind fun i => (fb g).bind fun j => Xc.ok (gcdI i j)) :=
  call2 (fun h => pe_callBfun cr_gcd hg hm h (he := hs) (hpl := hpl)) ha hb hs hs2 fun {F H v u i j Q E} s r1 r2 p => by
    have r1 : v = .int i := r1
    have r2 : u = .int j := r2
    subst r1 r2
    exact ⟨i, j, rfl, p.ret s (by first | rfl | (unfold absI; rfl) | (unfold gcdI; rfl))⟩
theorem fe_bits {fa : γ → Xc Int} (ha : FE X c G a fa) {apos : Pos} (hbase : attributeBase a "bit_length" X.env (eval a X.env) = eval a X.env := by rfl) (hline : (apos.endLine == pos.line) = true := by rfl) :
    FE X c G (.Call (.Attribute a "bit_length" apos) [] [] pos) (fun g => (fa g).bind fun i => Xc.ok ((Builtin.Int.intBits i : Nat) : Int)) :=
  one (r := fun x H1 Q => ∃ i, x = .int i ∧ Q (.int (Builtin.Int.intBits i : Nat)) H1) (fun h => pe_bits h hbase hline) ha fun {F H x i Q E} s r p => by exact ⟨i, r, p.ret s rfl⟩

/-! ### texts -/
@[irreducible] def strX (i : Int) : Xc Str := if i.natAbs.log2 < 1920 then .ok (Str.ofString (toString i)) else .no
theorem fe_strI {fa : γ → Xc Int} (ha : FE X c G a fa) (hm : X.mg "str" = none) (hg : Gl X "str" := by rfl) (hs : starEach [a] X.env = (false, eval a X.env) :: starEach [] X.env := by rfl) :
    FE X c G (.Call (.Name "str" p) [a] [] pos) (fun g => (fa g).bind strX) :=
  call1 (fun h => pe_callTy call_str_int hg hm PyProof.Rows.boot_str h (he := hs)) ha hs fun {F H v i Q E} s r p => by
    have r : v = .int i := r
    subst r
    unfold strX at p
    by_cases hz : i.natAbs.log2 < 1920
    · rw [if_pos hz] at p; exact ⟨i, rfl, hz, p.ret s ⟨rfl, int_text_fits hz⟩⟩
    · rw [if_neg hz] at p; exact p.elim
@[irreducible] def catS (x y : Str) : Xc Str := if x.length + y.length ≤ sizeLine then .ok (x ++ y) else .no
theorem app_len (x y : Str) : (x ++ y).length = x.length + y.length := by
  show (x.cps ++ y.cps).size = x.cps.size + y.cps.size
  rw [Array.size_append]
theorem fe_catS {fa fb : γ → Xc Str} (ha : FE X c G a fa) (hb : FE X c G b fb) : FE X c G (.BinOp a .Add b pos) (fun g => (fa g).bind fun i => (fb g).bind fun j => catS i j) :=
  two (fun h1 h2 => pe_op op_add_str h1 h2) ha hb fun {F H x y i j Q E} s r1 r2 p => by
    unfold catS at p
    by_cases h : i.length + j.length ≤ sizeLine
    · rw [if_pos h] at p; exact ⟨_, _, r1.1, r2.1, h, p.ret s ⟨rfl, by rw [app_len]; exact h⟩⟩
    · rw [if_neg h] at p; exact p.elim
/-- one sign within a text -/
@[irreducible] def inSg (x : Str) (z : Str) : Xc Bool := match x.cps.toList with
  | [k] => .ok (decide (k ∈ z.cps.toList))
  | _ => .no
theorem sg_of {x : Str} {k : Nat} (h : x.cps.toList = [k]) : x = ⟨#[k]⟩ := by
  obtain ⟨⟨l⟩⟩ := x
  simp only at h
  subst h
  rfl
theorem fe_inSg {fa fb : γ → Xc Str} (ha : FE X c G a fa) (hb : FE X c G b fb) (hm : behindInMarks .In b = false := by rfl) : FE X c G (.Compare a [.In] [b] pos) (fun g => (fa g).bind fun i => (fb g).bind fun j => inSg i j) :=
  two (fun h1 h2 => pe_cmpR op_in_sign h1 h2 hm) ha hb fun {F H x y i j Q E} s r1 r2 p => by
    unfold inSg at p
    split at p
    · rename_i k hk
      exact ⟨k, j, by rw [r1.1, sg_of hk], r2.1, p.ret s rfl⟩
    · exact p.elim
theorem fe_ninSg {fa fb : γ → Xc Str} (ha : FE X c G a fa) (hb : FE X c G b fb) (hm : behindInMarks .NotIn b = false := by rfl) : FE X c G (.Compare a [.NotIn] [b] pos) (fun g => (fa g).bind fun i => (fb g).bind fun j => (inSg i j).bind fun t => Xc.ok (!t)) :=
  two (fun h1 h2 => pe_cmpR op_notIn_sign h1 h2 hm) ha hb fun {F H x y i j Q E} s r1 r2 p => by
    unfold inSg at p
    split at p
    · rename_i k hk
      exact ⟨k, j, by rw [r1.1, sg_of hk], r2.1, Po.ret (by exact p) s rfl⟩
    · exact p.elim
theorem ft_inSg {fa fb : γ → Xc Str} (ha : FE X c G a fa) (hb : FE X c G b fb) (hm : behindInMarks .In b = false := by rfl) : FT X c G (.Compare a [.In] [b] pos) (fun g => (fa g).bind fun i => (fb g).bind fun j => inSg i j) :=
  twoT (fun h1 h2 => pt_cmpR op_in_sign h1 h2 hm) ha hb fun {F H x y i j Q E} s r1 r2 p => by
    unfold inSg at p
    split at p
    · rename_i k hk
      exact ⟨k, j, by rw [r1.1, sg_of hk], r2.1, _, rfl, p.ret s⟩
    · exact p.elim
theorem ft_ninSg {fa fb : γ → Xc Str} (ha : FE X c G a fa) (hb : FE X c G b fb) (hm : behindInMarks .NotIn b = false := by rfl) : FT X c G (.Compare a [.NotIn] [b] pos) (fun g => (fa g).bind fun i => (fb g).bind fun j => (inSg i j).bind fun t => Xc.ok (!t)) :=
  twoT (fun h1 h2 => pt_cmpR op_notIn_sign h1 h2 hm) ha hb fun {F H x y i j Q E} s r1 r2 p => by
    unfold inSg at p
    split at p
    · rename_i k hk
      exact ⟨k, j, by rw [r1.1, sg_of hk], r2.1, _, rfl, PoB.ret (by exact p) s⟩
    · exact p.elim
/-- a method of a text with one argument -/
theorem strM1 {apos : Pos} {name : Str} {id : String} {r : V → List V → Hp → VK → Prop} {op : Str → α → Xc ρ} {fa : γ → Xc Str} {fb : γ → Xc α} (h : ∀ {to te : TE}, PE X a to → PE X b te → PE X (.Call (.Attribute a name apos) [b] [] pos) (tM1 r to te))
    (ha : FE X c G a fa) (hb : FE X c G b fb) (hop : ∀ {F H x y i j Q E}, Same F H → i.length ≤ sizeLine → x = .str i → Rp.is X.K F y j → Po X.K F H Q E (op i j) → r x [y] H Q) :
    FE X c G (.Call (.Attribute a name apos) [b] [] pos) (fun g => (fa g).bind fun i => (fb g).bind fun j => op i j) :=
  PE.imp (h ha hb) fun σ H Q ⟨F, g, w, q, p⟩ => by
    refine ⟨F, g, w, q, ?_⟩
    cases e1 : fa g with
    | ok i =>
      intro v F1 H1 w1 r1
      simp only [e1] at p
      have p : Po X.K F H Q (WE c.W σ) ((fb g).bind fun j => op i j) := p
      refine ⟨⟨i, r1.1⟩, F1, g, w.trans w1, G.mono q w1, ?_⟩
      cases e2 : fb g with
      | ok j =>
        intro u F2 H2 w2 r2
        simp only [e2] at p
        exact hop w2.s r1.2 r1.1 r2 (Po.on (show Po X.K F H Q (WE c.W σ) (op i j) from p) (w1.trans w2))
      | er c' fs => simp only [e2] at p; exact ErP.on (show ErP X.K F H (WE c.W σ) c' fs from p) w1
      | no => simp only [e2] at p; exact p
    | er c' fs => simp only [e1] at p; exact p
    | no => simp only [e1] at p; exact p
theorem fe_startswith {apos : Pos} {fa fb : γ → Xc Str} (ha : FE X c G a fa) (hb : FE X c G b fb) (hs : starEach [b] X.env = [(false, eval b X.env)] := by rfl) (hbase : attributeBase a "startswith" X.env (eval a X.env) = eval a X.env := by rfl)
    (hline : (apos.endLine == pos.line) = true := by rfl) : FE X c G (.Call (.Attribute a "startswith" apos) [b] [] pos) (fun g => (fa g).bind fun i => (fb g).bind fun j => Xc.ok (Txt.startswith i j)) :=
  strM1 (id := "str.startswith") (fun h1 h2 => pe_m1 F.slot_str_startswith F.type_str_startswith mt_startswith h1 h2 hs hbase hline) ha hb fun {F H x y i j Q E} s hi hx hy p => by exact ⟨i, j, hx, by rw [hy.1], p.ret s rfl⟩
theorem fe_find {apos : Pos} {fa fb : γ → Xc Str} (ha : FE X c G a fa) (hb : FE X c G b fb) (hs : starEach [b] X.env = [(false, eval b X.env)] := by rfl) (hbase : attributeBase a "find" X.env (eval a X.env) = eval a X.env := by rfl)
    (hline : (apos.endLine == pos.line) = true := by rfl) : FE X c G (.Call (.Attribute a "find" apos) [b] [] pos) (fun g => (fa g).bind fun i => (fb g).bind fun j => Xc.ok (Txt.find i j)) :=
  strM1 (id := "str.find") (fun h1 h2 => pe_m1 F.slot_str_find F.type_str_find mt_find h1 h2 hs hbase hline) ha hb fun {F H x y i j Q E} s hi hx hy p => by exact ⟨i, j, hx, by rw [hy.1], p.ret s rfl⟩
/-- text.partition(sep): three texts -/
@[irreducible] def partX (x y : Str) : Xc (T3 Str Str Str) := if (y.length == 0) = false ∧ (Txt.partition x y).1.length ≤ sizeLine ∧ (Txt.partition x y).2.1.length ≤ sizeLine ∧ (Txt.partition x y).2.2.length ≤ sizeLine then .ok (show T3 Str Str Str from Txt.partition x y) else .no
theorem fe_partition {apos : Pos} {fa fb : γ → Xc Str} (ha : FE X c G a fa) (hb : FE X c G b fb) (hs : starEach [b] X.env = [(false, eval b X.env)] := by rfl) (hbase : attributeBase a "partition" X.env (eval a X.env) = eval a X.env := by rfl)
    (hline : (apos.endLine == pos.line) = true := by rfl) : FE X c G (.Call (.Attribute a "partition" apos) [b] [] pos) (fun g => (fa g).bind fun i => (fb g).bind fun j => partX i j) :=
  strM1 (id := "str.partition") (fun h1 h2 => pe_partition h1 h2 hs hbase hline) ha hb fun {F H x y i j Q E} s hi hx hy p => by
    unfold partX at p
    by_cases h : (j.length == 0) = false ∧ (Txt.partition i j).1.length ≤ sizeLine ∧ (Txt.partition i j).2.1.length ≤ sizeLine ∧ (Txt.partition i j).2.2.length ≤ sizeLine
    · rw [if_pos h] at p
      exact ⟨i, j, hx, by rw [hy.1], h.1, hi, fun k hk => p (.ref k) _ _ (Wd.new s hk) ⟨k, _, _, _, rfl, SqT.of upd_same, ⟨rfl, h.2.1⟩, ⟨rfl, h.2.2.1⟩, ⟨rfl, h.2.2.2⟩⟩⟩
    · rw [if_neg h] at p; exact p.elim
end

/-! ### isinstance, by a built-in class -/
class HasTy (α : Type) [Rp α] where
  ty : α → String
  is : ∀ {K F H v} {a : α}, Same F H → Rp.is K F v a → TyX K H v (.type (ty a))
theorem tyx_seqL {K : PySem.W.Frag} {H : Hp} {q : Addr} {xs : List V} (h : SqL K H q xs) : TyX K H (.ref q) (.type "list") := by
  rcases h with (h | ⟨o, h⟩) | ⟨o, its, n, h, c, _⟩
  · exact .base (.lst h)
  · exact .base (.frz h)
  · exact .kList h c
theorem tyx_seqT {K : PySem.W.Frag} {H : Hp} {q : Addr} {xs : List V} (h : SqT K H q xs) : TyX K H (.ref q) (.type "tuple") := by
  rcases h with (h | ⟨o, h⟩) | ⟨o, its, n, h, c, _⟩
  · exact .base (.tup h)
  · exact .fTuple h
  · exact .kTuple h c
instance : HasTy Int := ⟨fun _ => "int", fun s h => by have h : _ = V.int _ := h; subst h; exact .base (.int _)⟩
instance : HasTy Bool := ⟨fun _ => "bool", fun s h => by have h : _ = V.bl _ := h; subst h; exact .base (.bl _)⟩
instance : HasTy Str := ⟨fun _ => "str", fun s h => by have h : _ = V.str _ := h.1; subst h; exact .base (.str _)⟩
instance {α : Type} [Rp α] : HasTy (List α) := ⟨fun _ => "list", fun s h => by obtain ⟨q, xs, e, hq, z, r⟩ := h; subst e; exact tyx_seqL (Same.seq s hq)⟩
instance {α : Type} [Rp α] : HasTy (Tu α) := ⟨fun _ => "tuple", fun s h => by obtain ⟨q, xs, e, hq, z, r⟩ := h; subst e; exact tyx_seqT (Same.seqT s hq)⟩
instance {α β : Type} [Rp α] [Rp β] : HasTy (α × β) := ⟨fun _ => "tuple", fun s h => by obtain ⟨q, x, y, e, hq, _⟩ := h; subst e; exact tyx_seqT (Same.seqT s hq)⟩
instance {α β γ : Type} [Rp α] [Rp β] [Rp γ] : HasTy (T3 α β γ) := ⟨fun _ => "tuple", fun s h => by obtain ⟨q, x, y, z, e, hq, _⟩ := h; subst e; exact tyx_seqT (Same.seqT s hq)⟩
def tyD : PyData → String
  | .none => "NoneType"
  | .bool _ => "bool"
  | .int _ => "int"
  | .str _ => "str"
  | .list _ => "list"
  | .tuple _ => "tuple"
  | _ => "?"
instance : HasTy PyData := ⟨tyD, fun {K F H v a} s h => by
  obtain ⟨h, _⟩ := h
  cases h with
  | non => exact .base .non
  | bl b => exact .base (.bl b)
  | int i => exact .base (.int i)
  | str x => exact .base (.str x)
  | lst h _ => exact tyx_seqL (Same.seq s h)
  | tup h _ => exact tyx_seqT (Same.seqT s h)⟩
@[irreducible] def isiX (t T : String) : Xc Bool := match kitB t T with
  | some b => .ok b
  | none => .no
theorem fe_isi {X : Cx} {c : C0} {γ α : Type} {G : EnvT γ} [Rp α] {a : Expr} {pos p p2 : Pos} [HasTy α] {fa : γ → Xc α} {T : Str} {U : String} (ha : FE X c G a fa) (hm : X.mg "isinstance" = none) (hmT : X.mg T = none) (hvT : bootBuiltins T = some (.type U) := by decide +kernel)
    (hg : Gl X "isinstance" := by rfl) (hgT : Gl X T := by rfl) (hn : T ≠ "__name__" := by decide) (hd : (T == ("__debug__" : Str)) = false := by decide)
    (hs : starEach [a, .Name T p2] X.env = (false, eval a X.env) :: starEach [.Name T p2] X.env := by rfl) (hs2 : starEach [.Name T p2] X.env = (false, eval (.Name T p2) X.env) :: starEach [] X.env := by rfl)
    (hpl : (backTo pos (starEach [.Name T p2] X.env)).any (·.1) = false := by rfl) : FE X c G (.Call (.Name "isinstance" p) [a, .Name T p2] [] pos) (fun g => (fa g).bind fun i => isiX (HasTy.ty i) U) :=
  PE.imp (pe_callB call_isi hg hm PyProof.Rows.boot_isinstance (pa_cons ha (pa_cons (pe_bltn (v := .ty U) hgT hmT hvT rfl hn hd) pa_nil hs2) hs) (he := hs) (hpl := hpl)) fun σ H Q ⟨F, g, w, q, h⟩ => by
    refine ⟨F, g, w, q, ?_⟩
    cases e1 : fa g with
    | ok i =>
      intro v F1 H1 w1 r1
      simp only [e1] at h
      have h : Po X.K F H Q (WE c.W σ) (isiX (HasTy.ty i) U) := h
      unfold isiX at h
      cases e2 : kitB (HasTy.ty i) U with
      | none => rw [e2] at h; exact h.elim
      | some b =>
        rw [e2] at h
        exact ⟨v, .ty U, .type (HasTy.ty i), .type U, b, rfl, .ty U, HasTy.is w1.s r1, kit_ty e2, (Po.on h w1).ret w1.s rfl⟩
    | er c' fs => simp only [e1] at h; exact h
    | no => simp only [e1] at h; exact h
end FL

/-! FL5: statements: stores, ifs, returns, loops. -/
namespace FL
open PySem L2
/-- behind a statement: the frozen heap has grown, the world is the entry's -/
structure Ws (c : C0) (F F' H' : Hp) : Prop where
  f : Same F F'
  w : Wd c.F0 c.H0 F' H'
theorem Ws.trans {c : C0} {F F1 H1 F2 H2 : Hp} (a : Ws c F F1 H1) (b : Ws c F1 F2 H2) : Ws c F F2 H2 := ⟨a.f.trans b.f, b.w⟩
theorem Ws.of {c : C0} {F H F1 H1 : Hp} (w : Wd c.F0 c.H0 F H) (a : Wd F H F1 H1) : Ws c F F1 H1 := ⟨a.f, w.trans a⟩
theorem Ws.refl {c : C0} {F H : Hp} (w : Wd c.F0 c.H0 F H) : Ws c F F H := ⟨Same.refl _, w⟩
/-- the slots that a statement may store into -/
structure Ag (M : Nat → Bool) (σ σ' : St) : Prop where
  at_ : ∀ i : Nat, M i = false → σ'[i]? = σ[i]?
  len : σ'.length = σ.length
theorem Ag.refl {M : Nat → Bool} {σ : St} : Ag M σ σ := ⟨fun _ _ => rfl, rfl⟩
theorem Ag.trans {M : Nat → Bool} {σ σ1 σ2 : St} (a : Ag M σ σ1) (b : Ag M σ1 σ2) : Ag M σ σ2 := ⟨fun i h => (b.at_ i h).trans (a.at_ i h), b.len.trans a.len⟩
theorem Ag.set {M : Nat → Bool} {σ : St} {i : Nat} {v : Option V} (h : M i = true) : Ag M σ (σ.set i v) := ⟨fun j hj => by
  by_cases e : i = j
  · subst e; rw [h] at hj; cases hj
  · rw [List.getElem?_set_ne e], List.length_set⟩
theorem Ag.imp {M M' : Nat → Bool} {σ σ' : St} (a : Ag M σ σ') (h : ∀ i, M i = true → M' i = true) : Ag M' σ σ' := ⟨fun i hi => a.at_ i (by
  cases e : M i with
  | false => rfl
  | true => rw [h i e] at hi; cases hi), a.len⟩
/-- .. with what statements lean on -/
structure C1 extends C0 where
  M : Nat → Bool
section
variable {γ γ' γ1 γ2 : Type}
/-- the outcome of a statement that only goes on -/
def PoN (K : PySem.W.Frag) (c : C1) (G' : EnvT γ') (D : Ends) (F H : Hp) (σ : St) (m : Xc γ') : Prop := match m with
  | .ok g' => ∀ σ' F' H', Ws c.toC0 F F' H' → Ag c.M σ σ' → G'.rel K c.H0 F' H' σ' g' → D.nx σ' H'
  | .er cc fs => ∀ σ' F' H', Ws c.toC0 F F' H' → Ag c.M σ σ' → ErP K F' H' (WE c.W σ') cc fs
  | .no => False
def tN (K : PySem.W.Frag) (c : C1) (G : EnvT γ) (G' : EnvT γ') (m : γ → Xc γ') : TS := fun D σ H => ∃ F g, Wd c.F0 c.H0 F H ∧ G.rel K c.H0 F H σ g ∧ PoN K c G' D F H σ (m g)
/-- a statement (a block) that goes on: what the slots hold behind it -/
def FN (X : Cx) (c : C1) (G : EnvT γ) (st : Stmt) (G' : EnvT γ') (m : γ → Xc γ') : Prop := PS X st (tN X.K c G G' m)
def FNs (X : Cx) (c : C1) (G : EnvT γ) (sts : List Stmt) (G' : EnvT γ') (m : γ → Xc γ') : Prop := PSs X sts (tN X.K c G G' m)
theorem PS.imp {X : Cx} {st : Stmt} {t t' : TS} (h : PS X st t) (i : ∀ D σ H, t' D σ H → t D σ H) : PS X st t' := ⟨fun pins s σ H D I q => h.run pins s σ H D I (i D σ H q)⟩
theorem PSs.imp {X : Cx} {st : List Stmt} {t t' : TS} (h : PSs X st t) (i : ∀ D σ H, t' D σ H → t D σ H) : PSs X st t' := ⟨fun pins s σ H D I q => h.run pins s σ H D I (i D σ H q)⟩
theorem PoN.on {K : PySem.W.Frag} {c : C1} {G' : EnvT γ'} {D : Ends} {F H F1 H1 : Hp} {σ σ1 : St} {m : Xc γ'} (h : PoN K c G' D F H σ m) (s : Same F F1) (a : Ag c.M σ σ1) : PoN K c G' D F1 H1 σ1 m := by
  cases m with
  | ok g => exact fun σ' F' H' w b r => h σ' F' H' ⟨s.trans w.f, w.w⟩ (a.trans b) r
  | er cc fs => exact fun σ' F' H' w b => h σ' F' H' ⟨s.trans w.f, w.w⟩ (a.trans b)
  | no => exact h
/-- an exception of an expression within -/
theorem PoN.er {K : PySem.W.Frag} {c : C1} {G' : EnvT γ'} {D : Ends} {F H : Hp} {σ : St} {cc : Str} {fs : List (Str × V)} (h : PoN K c G' D F H σ (.er cc fs)) (w : Wd c.F0 c.H0 F H) : ErP K F H (WE c.W σ) cc fs :=
  h σ F H (Ws.refl w) Ag.refl
end
section
variable {X : Cx} {c : C1} {γ γ' γ1 γ2 α β ρ αs : Type} {G : EnvT γ} {G' : EnvT γ'} {G1 : EnvT γ1} {G2 : EnvT γ2} [Rp α] [Rp β] [Rp ρ] [Rps αs] {a b e : Expr} {st : Stmt} {sts : List Stmt} {pos p p2 : Pos}
theorem FN.cast {m m' : γ → Xc γ'} (h : FN X c G st G' m) (i : ∀ g, m' g = m g) : FN X c G st G' m' := by rw [show m' = m from funext i]; exact h
theorem FNs.cast {m m' : γ → Xc γ'} (h : FNs X c G sts G' m) (i : ∀ g, m' g = m g) : FNs X c G sts G' m' := by rw [show m' = m from funext i]; exact h
theorem fns_nil : FNs X c G [] G (fun g => Xc.ok g) := PSs.imp pss_nil fun D σ H ⟨F, g, w, q, h⟩ => h σ F H (Ws.refl w) Ag.refl q
theorem fns_one {m : γ → Xc γ'} (h : FN X c G st G' m) : FNs X c G [st] G' m := pss_one h
theorem fns_cons {m1 : γ → Xc γ1} {m2 : γ1 → Xc γ2} (h1 : FN X c G st G1 m1) (h2 : FNs X c G1 sts G2 m2) : FNs X c G (st :: sts) G2 (fun g => (m1 g).bind m2) :=
  PSs.imp (pss_cons h1 h2) fun D σ H ⟨F, g, w, q, h⟩ => by
    refine ⟨F, g, w, q, ?_⟩
    cases e1 : m1 g with
    | ok g1 =>
      intro σ1 F1 H1 w1 a1 q1
      simp only [e1] at h
      exact ⟨F1, g1, w1.w, q1, PoN.on (show PoN X.K c G2 D F H σ (m2 g1) from h) w1.f a1⟩
    | er c' fs => simp only [e1] at h; exact h
    | no => simp only [e1] at h; exact h
/-- x = e -/
theorem fn_set (i : Nat) {x : Str} {p' : Pos} {ψ : γ → α → γ'} [P : Put G i α G' ψ] {fa : γ → Xc α} (hM : c.M i = true) (ha : FE X c.toC0 G e fa) (hN : X.N.Nodup) (hi : X.N[i]? = some x := by rfl) (hx : Loc X.env.scope x := by first | exact Or.inl rfl | exact Or.inr rfl)
    (hs : swapsWith e (some (.Name x p')) pos.line X.env = pure false := by rfl) (hf : X.fn x = true ∨ X.env.scope.names.lookup x = some .local := by first | exact .inl rfl | exact .inr rfl) :
    FN X c G (.Assign [.Name x p'] e pos) G' (fun g => (fa g).bind fun v => Xc.ok (ψ g v)) :=
  PS.imp (ps_set hN hi hx ha hs hf) fun D σ H ⟨F, g, w, q, h⟩ => by
    refine ⟨F, g, w, q, ?_⟩
    cases e1 : fa g with
    | ok v =>
      intro u F1 H1 w1 r1
      simp only [e1] at h
      exact h (σ.set i (some u)) F1 H1 (Ws.of w w1) (Ag.set hM) (P.put (G.mono q w1) r1)
    | er c' fs => simp only [e1] at h; exact PoN.er h w
    | no => simp only [e1] at h; exact h
theorem fn_expr {fa : γ → Xc α} (ha : FE X c.toC0 G e fa) (hs : swapsWith e none pos.line X.env = pure false := by rfl) : FN X c G (.Expr e pos) G (fun g => (fa g).bind fun _ => Xc.ok g) :=
  PS.imp (ps_expr ha hs) fun D σ H ⟨F, g, w, q, h⟩ => by
    refine ⟨F, g, w, q, ?_⟩
    cases e1 : fa g with
    | ok v => intro u F1 H1 w1 r1; simp only [e1] at h; exact h σ F1 H1 (Ws.of w w1) Ag.refl (G.mono q w1)
    | er c' fs => simp only [e1] at h; exact PoN.er h w
    | no => simp only [e1] at h; exact h
theorem fn_pass : FN X c G (.Pass pos) G (fun g => Xc.ok g) := PS.imp ps_pass fun D σ H ⟨F, g, w, q, h⟩ => h σ F H (Ws.refl w) Ag.refl q
theorem fn_if {ft : γ → Xc Bool} {mA mB : γ → Xc γ'} {tA tB : List Stmt} (ht : FT X c.toC0 G e ft) (hA : FNs X c G tA G' mA) (hB : FNs X c G tB G' mB) : FN X c G (.If e tA tB pos) G' (fun g => (ft g).bind fun b => if b = true then mA g else mB g) :=
  PS.imp (ps_if ht hA hB) fun D σ H ⟨F, g, w, q, h⟩ => by
    refine ⟨F, g, w, q, ?_⟩
    cases e1 : ft g with
    | ok b =>
      intro F1 H1 w1
      simp only [e1] at h
      cases b with
      | true => exact iteT ⟨F1, g, w.trans w1, G.mono q w1, PoN.on h w1.f Ag.refl⟩
      | false => exact iteF ⟨F1, g, w.trans w1, G.mono q w1, PoN.on h w1.f Ag.refl⟩
    | er c' fs => simp only [e1] at h; exact PoN.er h w
    | no => simp only [e1] at h; exact h
end

/-! ### weakening of the slots -/
class Sub {γ γ' : Type} (G : EnvT γ) (G' : EnvT γ') (h : outParam (γ → γ')) : Prop where
  sub : ∀ {K H0 F H σ g}, G.rel K H0 F H σ g → G'.rel K H0 F H σ (h g)
  own : ∀ {K H0 F H σ g p}, G.rel K H0 F H σ g → p ∈ G'.own σ → p ∈ G.own σ
instance subNl : Sub nl nl (fun g => g) := ⟨fun h => h, fun _ h => h⟩
section
variable {α β γ γ' : Type} [Rp α] [Rp β] (G : EnvT γ) (G' : EnvT γ') (h : γ → γ') [S : Sub G G' h]
instance subVa : Sub (va α G) (va α G') (fun g => (g.1, h g.2)) := ⟨fun ⟨v, σ', e, r, q⟩ => ⟨v, σ', e, r, S.sub q⟩, fun ⟨v, σ', e, r, q⟩ m => by subst e; exact S.own q m⟩
instance subUn : Sub (un G) (un G') (fun g => h g) := ⟨fun ⟨v, σ', e, q⟩ => ⟨v, σ', e, S.sub q⟩, fun ⟨v, σ', e, q⟩ m => by subst e; exact S.own q m⟩
instance subOw : Sub (ow α G) (ow α G') (fun g => (g.1, h g.2)) := ⟨fun ⟨p, σ', xs, e, h0, f, hh, z, r, n, q⟩ => ⟨p, σ', xs, e, h0, f, hh, z, r, fun m => n (S.own q m), S.sub q⟩, fun ⟨p, σ', xs, e, h0, f, hh, z, r, n, q⟩ m => by
  subst e
  rcases List.mem_append.mp m with m | m
  · exact List.mem_append_left _ m
  · exact List.mem_append_right _ (S.own q m)⟩
instance subVaUn : Sub (va α G) (un G') (fun g => h g.2) := ⟨fun ⟨v, σ', e, r, q⟩ => ⟨_, σ', e, S.sub q⟩, fun ⟨v, σ', e, r, q⟩ m => by subst e; exact S.own q m⟩
instance subOwUn : Sub (ow α G) (un G') (fun g => h g.2) := ⟨fun ⟨p, σ', xs, e, h0, f, hh, z, r, n, q⟩ => ⟨_, σ', e, S.sub q⟩, fun ⟨p, σ', xs, e, h0, f, hh, z, r, n, q⟩ m => by subst e; exact List.mem_append_right _ (S.own q m)⟩
instance subOpt [NotNone α] : Sub (va α G) (va (Option α) G') (fun g => (some g.1, h g.2)) := ⟨fun ⟨v, σ', e, r, q⟩ => ⟨v, σ', e, ⟨NotNone.ne r, r⟩, S.sub q⟩, fun ⟨v, σ', e, r, q⟩ m => by subst e; exact S.own q m⟩
instance subNon : Sub (va Unit G) (va (Option α) G') (fun g => (none, h g.2)) := ⟨fun ⟨v, σ', e, r, q⟩ => ⟨v, σ', e, r, S.sub q⟩, fun ⟨v, σ', e, r, q⟩ m => by subst e; exact S.own q m⟩
end
section
variable {X : Cx} {c : C1} {γ γ' γ1 γ2 : Type} {G : EnvT γ} {G' : EnvT γ'} {G1 : EnvT γ1} {st : Stmt} {sts : List Stmt}
theorem PoN.sub {K : PySem.W.Frag} {h : γ1 → γ'} [S : Sub G1 G' h] {D : Ends} {F H : Hp} {σ : St} {m : Xc γ1} (p : PoN K c G' D F H σ (m.bind fun g => Xc.ok (h g))) : PoN K c G1 D F H σ m := by
  cases m with
  | ok g => exact fun σ' F' H' w a r => p σ' F' H' w a (S.sub r)
  | er cc fs => exact p
  | no => exact p
theorem fns_sub {m : γ → Xc γ1} {h : γ1 → γ'} (H : FNs X c G sts G1 m) [S : Sub G1 G' h] : FNs X c G sts G' (fun g => (m g).bind fun r => Xc.ok (h r)) :=
  PSs.imp H fun D σ H ⟨F, g, w, q, p⟩ => ⟨F, g, w, q, PoN.sub p⟩
theorem fn_pre {m : γ1 → Xc γ'} {h : γ → γ1} (H : FN X c G1 st G' m) [S : Sub G G1 h] : FN X c G st G' (fun g => m (h g)) :=
  PS.imp H fun D σ H ⟨F, g, w, q, p⟩ => ⟨F, h g, w, S.sub q, p⟩
theorem fns_pre {m : γ1 → Xc γ'} {h : γ → γ1} (H : FNs X c G1 sts G' m) [S : Sub G G1 h] : FNs X c G sts G' (fun g => m (h g)) :=
  PSs.imp H fun D σ H ⟨F, g, w, q, p⟩ => ⟨F, h g, w, S.sub q, p⟩
end

/-! ### statements that may return (or leave a loop's turn): with what follows -/
/-- what a return hands out -/
structure Rt (ρ : Type) where
  rr : PySem.W.Frag → Hp → Hp → Hp → V → ρ → Prop
def rtF (ρ : Type) [Rp ρ] : Rt ρ := ⟨fun K _ F _ v r => Rp.is K F v r⟩
def rtO (α : Type) [Rp α] : Rt (List α) := ⟨fun K H0 F H v l => ∃ p xs, v = .ref p ∧ H0 p = none ∧ F p = none ∧ H p = some (.lst xs) ∧ l.length ≤ sizeLine ∧ Al K F xs l⟩
/-- outcomes -/
structure Out (τ ρ β : Type) where
  sem : τ → (ρ → Prop) → (β → Prop) → (β → Prop) → Prop
  mono : ∀ {t P P' B B' C C'}, (∀ r, P r → P' r) → (∀ b, B b → B' b) → (∀ b, C b → C' b) → sem t P B C → sem t P' B' C'
  ret : ρ → τ
  hret : ∀ {r P B C}, sem (ret r) P B C → P r
/-- a def's: it returns -/
def outD (ρ : Type) : Out ρ ρ Unit := ⟨fun r P _ _ => P r, fun h _ _ p => h _ p, id, fun h => h⟩
/-- a loop's turn -/
inductive Lp (β ρ : Type) where
  | ct (b : β)
  | bk (b : β)
  | rt (r : ρ)
def Lp.sem {β ρ : Type} (t : Lp β ρ) (P : ρ → Prop) (B C : β → Prop) : Prop := match t with
  | .ct b => C b
  | .bk b => B b
  | .rt r => P r
def outL (β ρ : Type) : Out (Lp β ρ) ρ β := ⟨Lp.sem, fun {t _ _ _ _ _ _} h1 h2 h3 p => by cases t with
  | ct b => exact h3 _ p
  | bk b => exact h2 _ p
  | rt r => exact h1 _ p, .rt, fun h => h⟩
structure C2 (τ ρ β : Type) extends C1 where
  O : Out τ ρ β
  R : Rt ρ
  GB : EnvT β
section
variable {τ ρ β γ γ' γ1 γ2 : Type}
def Done (K : PySem.W.Frag) (c : C2 τ ρ β) (D : Ends) (F : Hp) (σ : St) (m : Xc τ) : Prop := match m with
  | .ok t => c.O.sem t (fun r => ∀ v F' H', Ws c.toC0 F F' H' → c.R.rr K c.H0 F' H' v r → D.rt v H') (fun b => ∀ σ' F' H', Ws c.toC0 F F' H' → Ag c.M σ σ' → c.GB.rel K c.H0 F' H' σ' b → D.bk σ' H') (fun b => ∀ σ' F' H', Ws c.toC0 F F' H' → Ag c.M σ σ' → c.GB.rel K c.H0 F' H' σ' b → D.ct σ' H')
  | .er cc fs => ∀ σ' F' H', Ws c.toC0 F F' H' → Ag c.M σ σ' → ErP K F' H' (WE c.W σ') cc fs
  | .no => False
theorem Done.on {K : PySem.W.Frag} {c : C2 τ ρ β} {D : Ends} {F F1 : Hp} {σ σ1 : St} {m : Xc τ} (h : Done K c D F σ m) (s : Same F F1) (a : Ag c.M σ σ1) : Done K c D F1 σ1 m := by
  cases m with
  | ok t => exact c.O.mono (fun r p v F' H' w => p v F' H' ⟨s.trans w.f, w.w⟩) (fun b p σ' F' H' w b => p σ' F' H' ⟨s.trans w.f, w.w⟩ (a.trans b)) (fun b p σ' F' H' w b => p σ' F' H' ⟨s.trans w.f, w.w⟩ (a.trans b)) h
  | er cc fs => exact fun σ' F' H' w b => h σ' F' H' ⟨s.trans w.f, w.w⟩ (a.trans b)
  | no => exact h
theorem Done.er {K : PySem.W.Frag} {c : C2 τ ρ β} {D : Ends} {F H : Hp} {σ : St} {cc : Str} {fs : List (Str × V)} (h : Done K c D F σ (.er cc fs)) (w : Wd c.F0 c.H0 F H) : ErP K F H (WE c.W σ) cc fs := h σ F H (Ws.refl w) Ag.refl
def tS (K : PySem.W.Frag) (c : C2 τ ρ β) (G : EnvT γ) (G' : EnvT γ') (f : γ → (γ' → Xc τ) → Xc τ) : TS := fun D σ H => ∃ F g k, Wd c.F0 c.H0 F H ∧ G.rel K c.H0 F H σ g ∧ Done K c D F σ (f g k) ∧
  ∀ g' σ' F' H', Ws c.toC0 F F' H' → Ag c.M σ σ' → G'.rel K c.H0 F' H' σ' g' → Done K c D F' σ' (k g') → D.nx σ' H'
def FS (X : Cx) (c : C2 τ ρ β) (G : EnvT γ) (st : Stmt) (G' : EnvT γ') (f : γ → (γ' → Xc τ) → Xc τ) : Prop := PS X st (tS X.K c G G' f)
def FSs (X : Cx) (c : C2 τ ρ β) (G : EnvT γ) (sts : List Stmt) (G' : EnvT γ') (f : γ → (γ' → Xc τ) → Xc τ) : Prop := PSs X sts (tS X.K c G G' f)
end
section
variable {X : Cx} {τ ρ β γ γ' γ1 γ2 α αs : Type} {c : C2 τ ρ β} {G : EnvT γ} {G' : EnvT γ'} {G1 : EnvT γ1} {G2 : EnvT γ2} [Rp α] [Rps αs] {a b e : Expr} {st : Stmt} {sts : List Stmt} {pos p p2 : Pos}
theorem FS.cast {f f' : γ → (γ' → Xc τ) → Xc τ} (h : FS X c G st G' f) (i : ∀ g k, f' g k = f g k) : FS X c G st G' f' := by rw [show f' = f from funext fun g => funext (i g)]; exact h
theorem FSs.cast {f f' : γ → (γ' → Xc τ) → Xc τ} (h : FSs X c G sts G' f) (i : ∀ g k, f' g k = f g k) : FSs X c G sts G' f' := by rw [show f' = f from funext fun g => funext (i g)]; exact h
theorem fs_n {m : γ → Xc γ'} (h : FN X c.toC1 G st G' m) : FS X c G st G' (fun g k => (m g).bind k) :=
  PS.imp h fun D σ H ⟨F, g, k, w, q, d, n⟩ => by
    refine ⟨F, g, w, q, ?_⟩
    cases e1 : m g with
    | ok g' => intro σ' F' H' w1 a1 q1; simp only [e1] at d; exact n g' σ' F' H' w1 a1 q1 (Done.on (show Done X.K c D F σ (k g') from d) w1.f a1)
    | er c' fs => simp only [e1] at d; exact d
    | no => simp only [e1] at d; exact d
theorem fss_n {m : γ → Xc γ'} (h : FNs X c.toC1 G sts G' m) : FSs X c G sts G' (fun g k => (m g).bind k) :=
  PSs.imp h fun D σ H ⟨F, g, k, w, q, d, n⟩ => by
    refine ⟨F, g, w, q, ?_⟩
    cases e1 : m g with
    | ok g' => intro σ' F' H' w1 a1 q1; simp only [e1] at d; exact n g' σ' F' H' w1 a1 q1 (Done.on (show Done X.K c D F σ (k g') from d) w1.f a1)
    | er c' fs => simp only [e1] at d; exact d
    | no => simp only [e1] at d; exact d
theorem fss_nil : FSs X c G [] G (fun g k => k g) := PSs.imp pss_nil fun D σ H ⟨F, g, k, w, q, d, n⟩ => n g σ F H (Ws.refl w) Ag.refl q d
theorem fss_one {f : γ → (γ' → Xc τ) → Xc τ} (h : FS X c G st G' f) : FSs X c G [st] G' f := pss_one h
theorem fss_cons {f1 : γ → (γ1 → Xc τ) → Xc τ} {f2 : γ1 → (γ2 → Xc τ) → Xc τ} (h1 : FS X c G st G1 f1) (h2 : FSs X c G1 sts G2 f2) : FSs X c G (st :: sts) G2 (fun g k => f1 g fun g1 => f2 g1 k) :=
  PSs.imp (pss_cons h1 h2) fun D σ H ⟨F, g, k, w, q, d, n⟩ =>
    ⟨F, g, fun g1 => f2 g1 k, w, q, d, fun g1 σ1 F1 H1 w1 a1 q1 d1 => ⟨F1, g1, k, w1.w, q1, d1, fun g' σ' F' H' w2 a2 q2 d2 => n g' σ' F' H' (w1.trans w2) (a1.trans a2) q2 d2⟩⟩
theorem fs_set (i : Nat) {x : Str} {p' : Pos} {ψ : γ → α → γ'} [P : Put G i α G' ψ] {fa : γ → Xc α} (hM : c.M i = true) (ha : FE X c.toC0 G e fa) (hN : X.N.Nodup) (hi : X.N[i]? = some x := by rfl) (hx : Loc X.env.scope x := by first | exact Or.inl rfl | exact Or.inr rfl)
    (hs : swapsWith e (some (.Name x p')) pos.line X.env = pure false := by rfl) (hf : X.fn x = true ∨ X.env.scope.names.lookup x = some .local := by first | exact .inl rfl | exact .inr rfl) :
    FS X c G (.Assign [.Name x p'] e pos) G' (fun g k => (fa g).bind fun v => k (ψ g v)) :=
  FS.cast (fs_n (fn_set i hM ha hN hi hx hs hf)) fun g k => by
    cases fa g <;> rfl
theorem fs_expr {fa : γ → Xc α} (ha : FE X c.toC0 G e fa) (hs : swapsWith e none pos.line X.env = pure false := by rfl) : FS X c G (.Expr e pos) G (fun g k => (fa g).bind fun _ => k g) :=
  FS.cast (fs_n (fn_expr ha hs)) fun g k => by cases fa g <;> rfl
theorem fs_if {ft : γ → Xc Bool} {fA fB : γ → (γ' → Xc τ) → Xc τ} {tA tB : List Stmt} (ht : FT X c.toC0 G e ft) (hA : FSs X c G tA G' fA) (hB : FSs X c G tB G' fB) :
    FS X c G (.If e tA tB pos) G' (fun g k => (ft g).bind fun b => if b = true then fA g k else fB g k) :=
  PS.imp (ps_if ht hA hB) fun D σ H ⟨F, g, k, w, q, d, n⟩ => by
    refine ⟨F, g, w, q, ?_⟩
    cases e1 : ft g with
    | ok b =>
      intro F1 H1 w1
      simp only [e1] at d
      have n' : ∀ g' σ' F' H', Ws c.toC0 F1 F' H' → Ag c.M σ σ' → G'.rel X.K c.H0 F' H' σ' g' → Done X.K c D F' σ' (k g') → D.nx σ' H' := fun g' σ' F' H' w2 => n g' σ' F' H' ⟨w1.f.trans w2.f, w2.w⟩
      cases b with
      | true => exact iteT ⟨F1, g, k, w.trans w1, G.mono q w1, Done.on d w1.f Ag.refl, n'⟩
      | false => exact iteF ⟨F1, g, k, w.trans w1, G.mono q w1, Done.on d w1.f Ag.refl, n'⟩
    | er c' fs => simp only [e1] at d; exact Done.er d w
    | no => simp only [e1] at d; exact d
theorem fs_retG [Rp ρ] {fa : γ → Xc ρ} {rt : ρ → τ} (hO : c.O.ret = rt) (hR : c.R = rtF ρ) (ha : FE X c.toC0 G e fa) : FS X c G (.Return (some e) pos) G' (fun g _ => (fa g).bind fun v => Xc.ok (rt v)) :=
  PS.imp (ps_ret ha) fun D σ H ⟨F, g, k, w, q, d, n⟩ => by
    refine ⟨F, g, w, q, ?_⟩
    subst hO
    cases e1 : fa g with
    | ok v => intro u F1 H1 w1 r1; simp only [e1] at d; exact c.O.hret d u F1 H1 (Ws.of w w1) (by rw [hR]; exact r1)
    | er c' fs => simp only [e1] at d; exact Done.er d w
    | no => simp only [e1] at d; exact d
theorem fs_retGO {fa : γ → Xc (List α)} {c : C2 τ (List α) β} {rt : List α → τ} (hO : c.O.ret = rt) (hR : c.R = rtO α) (ha : FO X c.toC0 G e fa) : FS X c G (.Return (some e) pos) G' (fun g _ => (fa g).bind fun v => Xc.ok (rt v)) :=
  PS.imp (ps_ret ha) fun D σ H ⟨F, g, k, w, q, d, n⟩ => by
    refine ⟨F, g, w, q, ?_⟩
    subst hO
    cases e1 : fa g with
    | ok v => intro p xs F1 H1 w1 n1 f1 h1 z r1; simp only [e1] at d; exact c.O.hret d _ F1 H1 (Ws.of w w1) (by rw [hR]; exact ⟨p, xs, rfl, w.h.free n1, f1, h1, z, r1⟩)
    | er c' fs => simp only [e1] at d; exact Done.er d w
    | no => simp only [e1] at d; exact d
/-- a def's return; a return out of a loop's turn -/
theorem fs_ret {c : C2 ρ ρ Unit} [Rp ρ] {fa : γ → Xc ρ} (ha : FE X c.toC0 G e fa) (hO : c.O.ret = id := by rfl) (hR : c.R = rtF ρ := by rfl) : FS X c G (.Return (some e) pos) G' (fun g _ => fa g) :=
  FS.cast (fs_retG hO hR ha) fun g k => by cases fa g <;> rfl
theorem fs_retO {c : C2 (List α) (List α) Unit} {fa : γ → Xc (List α)} (ha : FO X c.toC0 G e fa) (hO : c.O.ret = id := by rfl) (hR : c.R = rtO α := by rfl) : FS X c G (.Return (some e) pos) G' (fun g _ => fa g) :=
  FS.cast (fs_retGO hO hR ha) fun g k => by cases fa g <;> rfl
theorem fs_retL {c : C2 (Lp β ρ) ρ β} [Rp ρ] {fa : γ → Xc ρ} (ha : FE X c.toC0 G e fa) (hO : c.O.ret = Lp.rt := by rfl) (hR : c.R = rtF ρ := by rfl) : FS X c G (.Return (some e) pos) G' (fun g _ => (fa g).bind fun v => Xc.ok (Lp.rt v)) := fs_retG hO hR ha
theorem fs_retLO {c : C2 (Lp β (List α)) (List α) β} {fa : γ → Xc (List α)} (ha : FO X c.toC0 G e fa) (hO : c.O.ret = Lp.rt := by rfl) (hR : c.R = rtO α := by rfl) : FS X c G (.Return (some e) pos) G' (fun g _ => (fa g).bind fun v => Xc.ok (Lp.rt v)) := fs_retGO hO hR ha
/-- behind a return nothing matters -/
theorem fss_sub {f : γ → (γ1 → Xc τ) → Xc τ} {h : γ1 → γ'} (H : FSs X c G sts G1 f) [S : Sub G1 G' h] : FSs X c G sts G' (fun g k => f g fun r => k (h r)) :=
  PSs.imp H fun D σ H ⟨F, g, k, w, q, d, n⟩ => ⟨F, g, fun r => k (h r), w, q, d, fun g' σ' F' H' w1 a1 q1 d1 => n (h g') σ' F' H' w1 a1 (S.sub q1) d1⟩
theorem fs_pre {f : γ1 → (γ' → Xc τ) → Xc τ} {h : γ → γ1} (H : FS X c G1 st G' f) [S : Sub G G1 h] : FS X c G st G' (fun g k => f (h g) k) :=
  PS.imp H fun D σ H ⟨F, g, k, w, q, d, n⟩ => ⟨F, h g, k, w, S.sub q, d, n⟩
theorem fss_pre {f : γ1 → (γ' → Xc τ) → Xc τ} {h : γ → γ1} (H : FSs X c G1 sts G' f) [S : Sub G G1 h] : FSs X c G sts G' (fun g k => f (h g) k) :=
  PSs.imp H fun D σ H ⟨F, g, k, w, q, d, n⟩ => ⟨F, h g, k, w, S.sub q, d, n⟩
end
end FL

/-! FL6: defs, calls, exceptions raised, loops. -/
namespace FL
open PySem L2
/-! ### a def's promise -/
/-- from a frozen heap F: the arguments stand for as; what comes back stands for m as -/
def PoR {ρ : Type} (R : Rt ρ) (K : PySem.W.Frag) (F H : Hp) (Q : VK) (E : XK) (m : Xc ρ) : Prop := match m with
  | .ok r => ∀ v F' H', Wd F H F' H' → R.rr K H F' H' v r → Q v H'
  | .er c fs => ErP K F H E c fs
  | .no => False
def spF {αs ρ : Type} [Rps αs] (K : PySem.W.Frag) (R : Rt ρ) (m : αs → Xc ρ) : Sp := fun vs H Q E => ∃ F as, Same F H ∧ Rps.isL K F vs as ∧ PoR R K F H Q E (m as)
/-- the number of arguments -/
class RpsN (αs : Type) [Rps αs] (n : outParam Nat) : Prop where
  len : ∀ {K F vs} {as : αs}, Rps.isL K F vs as → vs.length = n
instance : RpsN Unit 0 := ⟨fun h => by subst h; rfl⟩
instance {α αs : Type} [Rp α] [Rps αs] {n : Nat} [N : RpsN αs n] : RpsN (α × αs) (n + 1) := ⟨fun ⟨v, r, e, h, t⟩ => by subst e; simp [N.len t]⟩
/-- the slots at a def's entry: its arguments, then what has no value yet -/
class StartT (αs : Type) [Rps αs] {γ : outParam Type} (G : outParam (EnvT γ)) (h : outParam (αs → γ)) : Prop where
  st : ∀ {K H0 F H vs as k}, Rps.isL K F vs as → G.rel K H0 F H (vs.map some ++ List.replicate k none) (h as)
instance : StartT Unit nl (fun _ => ()) := ⟨fun _ => trivial⟩
instance {α αs γ : Type} [Rp α] [Rps αs] (G : EnvT γ) (h : αs → γ) [S : StartT αs G h] : StartT (α × αs) (va α G) (fun a => (a.1, h a.2)) := ⟨fun ⟨v, r, e, q, t⟩ => by subst e; exact ⟨v, _, rfl, q, S.st t⟩⟩
/-- n further slots -/
def uns : Nat → EnvT Unit
  | 0 => nl
  | n + 1 => un (uns n)
theorem uns_rel {K : PySem.W.Frag} {H0 F H : Hp} : ∀ (n : Nat) (σ : St), n ≤ σ.length → (uns n).rel K H0 F H σ ()
  | 0, _, _ => trivial
  | n + 1, [], h => by simp at h
  | n + 1, x :: σ, h => ⟨x, σ, rfl, uns_rel n σ (by simpa using h)⟩
/-- the slots at a def's entry, given by the arguments' kinds and the rest -/
class EntryT (αs : Type) [Rps αs] (n : Nat) {γ : outParam Type} (G : outParam (EnvT γ)) (h : outParam (αs → γ)) : Prop where
  st : ∀ {K H0 F H vs as k}, Rps.isL K F vs as → n ≤ k → G.rel K H0 F H (vs.map some ++ List.replicate k none) (h as)
instance entry0 : EntryT Unit 0 nl (fun _ => ()) := ⟨fun _ _ => trivial⟩
instance entryU {n : Nat} {γ : Type} {G : EnvT γ} {h : Unit → γ} [S : EntryT Unit n G h] : EntryT Unit (n + 1) (un G) (fun a => h a) := ⟨fun {K H0 F H vs as k} q hk => by
  have q : vs = [] := q
  subst q
  cases k with
  | zero => simp at hk
  | succ k => exact ⟨none, List.replicate k none, rfl, S.st (as := as) (show ([] : List V) = [] from rfl) (by omega)⟩⟩
instance entryA {α αs γ : Type} [Rp α] [Rps αs] {n : Nat} {G : EnvT γ} {h : αs → γ} [S : EntryT αs n G h] : EntryT (α × αs) n (va α G) (fun a => (a.1, h a.2)) := ⟨fun ⟨v, r, e, q, t⟩ hk => by subst e; exact ⟨v, _, rfl, q, S.st t hk⟩⟩

section
variable {P : Program} {w : World} {K : PySem.W.Frag} {mg : Str → Option Value} {base : Heap} {αs ρ γ γ' : Type} [Rps αs] {G : EnvT γ} {G' : EnvT γ'} {h : αs → γ}
/-- the context of a def's body -/
def cD (ρ : Type) (R : Rt ρ) (F H : Hp) (E : XK) : C2 ρ ρ Unit := { F0 := F, H0 := H, W := fun cls d _ H => E cls d H, M := fun _ => true, O := outD ρ, R := R, GB := nl }
/-- THE RULE for a def: its body by a derivation for any context of such a kind -/
theorem fn_def {x qual : Str} {params : Arguments} {body : List Stmt} {scope : Scope} {dvs : List V} {kws : List (Str × V)} {f : Addr} {fd : FuncData} {N ps : List Str} {k n pn : Nat} {R : Rt ρ} {m : αs → Xc ρ} {fm : γ → (γ' → Xc ρ) → Xc ρ}
    (Fd : FunD K x qual params body scope dvs kws f fd) (S : FnScope N ps scope) [RN : RpsN αs pn] (hpn : ps.length = pn) [ET : EntryT αs n G h] (hn : N.length = pn + n)
    (hb : ∀ (cdv : Value) (A : Around) (outer : List Env) (s : Shared) (F H : Hp) (E : XK), Room k (A.deeper (PyProof.Rows.envOfC qual scope s.heap.objs.size f cdv)) → 
      Takes (cxOf (L2.CX P w) P w K mg base N qual scope f cdv A outer s H E) (cD ρ R F H E).W →
      FSs (cxOf (L2.CX P w) P w K mg base N qual scope f cdv A outer s H E) (cD ρ R F H E) G body G' fm)
    (hm : ∀ as, m as = fm (h as) fun _ => .no) : FnOk P w K mg base (L2.CX P w) (k + 1) f fd ps (spF K R m) := by
  refine Fd.ok S (fun vs H Q E ⟨F, as, _, r, _⟩ => by rw [hpn]; exact RN.len r) fun cdv A outer s H vs Q E hr ⟨F, as, sm, r, p⟩ => ?_
  refine ⟨_, hb cdv A outer s F H E hr (takes_of rfl rfl rfl rfl), F, h as, fun _ => .no, Wd.refl sm, ?_, ?_, fun g' σ' F' H' _ _ _ d => d.elim⟩
  · unfold L2.start
    have e : N.length - vs.length = n := by rw [RN.len r, hn]; omega
    rw [e]
    exact ET.st r (Nat.le_refl _)
  · rw [hm as] at p
    revert p
    cases fm (h as) (fun _ => .no) with
    | ok t => exact fun p v F' H' w1 rr => p v F' H' w1.w rr
    | er cc fs => exact fun p σ' F' H' w1 _ => ErP.on p w1.w
    | no => exact fun p => p
end

/-! ### calls -/
section
variable {X : Cx} {c : C0} {γ α ρ αs : Type} {G : EnvT γ} [Rp α] [Rp ρ] [Rps αs] {a b e : Expr} {pos p : Pos} {es : List Expr} {k : Nat} {f : Addr} {fd : FuncData} {ps : List Str} {x : Str}
theorem fe_call {m : αs → Xc ρ} {fs : γ → Xc αs} (F : FnOk X.prog X.w X.K X.mg X.base (L2.CX X.prog X.w) k f fd ps (spF X.K (rtF ρ) m)) (tk : Takes X c.W) (hr : Room k X.A) (hm : X.mg x = some (.ref f)) (hk : PySem.W.keepIn X.K (.ref f) = true) (hb : Binds X.K fd ps [])
    (ha : FA X c G (e :: es) fs) (hg : Gl X x := by rfl) (hdb : (x == ("__debug__" : Str)) = false := by decide) (he : starEach (e :: es) X.env = (false, eval e X.env) :: starEach es X.env := by rfl) (hpl : (backTo pos (starEach es X.env)).any (·.1) = false := by rfl) :
    FE X c G (.Call (.Name x p) (e :: es) [] pos) (fun g => (fs g).bind m) :=
  PE.imp (pe_callS (E := WE c.W) F hr hg hm hk hb (fun σ => passAt tk σ) ha hdb he hpl) fun σ H Q ⟨F, g, w, q, h⟩ => by
    refine ⟨F, g, w, q, ?_⟩
    cases e1 : fs g with
    | ok as =>
      intro vs F1 H1 w1 r1
      simp only [e1] at h
      have h : Po X.K F H Q (WE c.W σ) (m as) := h
      refine ⟨F1, as, w1.s, r1, ?_⟩
      revert h
      cases m as with
      | ok r => exact fun h v F2 H2 w2 rr => h v F2 H2 (w1.trans w2) rr
      | er cc fs => exact fun h => ErP.on h w1
      | no => exact fun h => h
    | er c' fs => simp only [e1] at h; exact h
    | no => simp only [e1] at h; exact h
theorem fo_call {m : αs → Xc (List ρ)} {fs : γ → Xc αs} (F : FnOk X.prog X.w X.K X.mg X.base (L2.CX X.prog X.w) k f fd ps (spF X.K (rtO ρ) m)) (tk : Takes X c.W) (hr : Room k X.A) (hm : X.mg x = some (.ref f)) (hk : PySem.W.keepIn X.K (.ref f) = true) (hb : Binds X.K fd ps [])
    (ha : FA X c G (e :: es) fs) (hg : Gl X x := by rfl) (hdb : (x == ("__debug__" : Str)) = false := by decide) (he : starEach (e :: es) X.env = (false, eval e X.env) :: starEach es X.env := by rfl) (hpl : (backTo pos (starEach es X.env)).any (·.1) = false := by rfl) :
    FO X c G (.Call (.Name x p) (e :: es) [] pos) (fun g => (fs g).bind m) :=
  PE.imp (pe_callS (E := WE c.W) F hr hg hm hk hb (fun σ => passAt tk σ) ha hdb he hpl) fun σ H Q ⟨F, g, w, q, h⟩ => by
    refine ⟨F, g, w, q, ?_⟩
    cases e1 : fs g with
    | ok as =>
      intro vs F1 H1 w1 r1
      simp only [e1] at h
      have h : PoO X.K F H Q (WE c.W σ) (m as) := h
      refine ⟨F1, as, w1.s, r1, ?_⟩
      revert h
      cases m as with
      | ok r =>
        intro h v F2 H2 w2 rr
        obtain ⟨p, xs, e, n, f1, h1, z, al⟩ := rr
        subst e
        exact h p xs F2 H2 (w1.trans w2) (w1.h.free n) f1 h1 z al
      | er cc fs => exact fun h => ErP.on h w1
      | no => exact fun h => h
    | er c' fs => simp only [e1] at h; exact h
    | no => simp only [e1] at h; exact h
end

/-! ### raise -/
section
variable {X : Cx} {τ ρ β γ γ' : Type} {c : C2 τ ρ β} {G : EnvT γ} {G' : EnvT γ'} {pos pos2 p p2 : Pos} {j : Nat}
/-- raise X('..'), X a plain class over ValueError -/
theorem fs_raise {x m : Str} (hc : X.calm = true) (tk : Takes X c.W) (q : PySem.W.excIn X.K (He.ga X.K x) He.veBase "ValueError.__new__" = true) (gC : X.mg x = some (.ref (He.ga X.K x))) (kC : PySem.W.keepIn X.K (.ref (He.ga X.K x)) = true)
    (h1 : PySem.W.subIn X.K (.ref (He.ga X.K x)) (.type "BaseException") = some true) (h2 : PySem.W.typeIn X.K (.ref (He.ga X.K x)) = some (.type "type")) (hg : Gl X x := by rfl) (hdb : (x == ("__debug__" : Str)) = false := by decide) :
    FS X c G (.Raise (some (.Call (.Name x p) [.Constant (.str m) j p2] [] pos)) none pos2) G' (fun _ _ => Xc.er x []) :=
  PS.imp (ps_raise hc tk (pmk_own PySem.F.excBase_ValueError q gC kC (raises_own h1 h2) hg hdb)) fun D σ H ⟨F, g, k, w, q, d, n⟩ => by
    exact d σ F H (Ws.refl w) Ag.refl F H (Wd.refl w.s)
end
end FL

/-! FL7: defs by their names. -/
namespace FL
open PySem L2
/-- the module's def x keeps the promise sp -/
structure Dk (P : Program) (w : World) (K : PySem.W.Frag) (mg : Str → Option Value) (base : Heap) (x : Str) (ps : List Str) (k : Nat) (sp : Sp) : Prop where
  ex : ∃ fd, FnOk P w K mg base (L2.CX P w) k (He.ga K x) fd ps sp ∧ Binds K fd ps []
  mg : mg x = some (.ref (He.ga K x))
  kp : PySem.W.keepIn K (.ref (He.ga K x)) = true
section
variable {X : Cx} {c : C0} {γ α ρ αs : Type} {G : EnvT γ} [Rp α] [Rp ρ] [Rps αs] {a b e : Expr} {pos p : Pos} {es : List Expr} {k j : Nat} {ps : List Str} {x : Str}
theorem fe_cal {m : αs → Xc ρ} {fs : γ → Xc αs} (D : Dk X.prog X.w X.K X.mg X.base x ps j (spF X.K (rtF ρ) m)) (tk : Takes X c.W) (hr : Room k X.A) (ha : FA X c G (e :: es) fs) (hjk : j ≤ k := by decide)
    (hg : Gl X x := by rfl) (hdb : (x == ("__debug__" : Str)) = false := by decide) (he : starEach (e :: es) X.env = (false, eval e X.env) :: starEach es X.env := by rfl) (hpl : (backTo pos (starEach es X.env)).any (·.1) = false := by rfl) :
    FE X c G (.Call (.Name x p) (e :: es) [] pos) (fun g => (fs g).bind m) := by
  obtain ⟨⟨fd, F, B⟩, h1, h2⟩ := D
  exact fe_call F tk (hr.mono hjk) h1 h2 B ha hg hdb he hpl
theorem fo_cal {m : αs → Xc (List ρ)} {fs : γ → Xc αs} (D : Dk X.prog X.w X.K X.mg X.base x ps j (spF X.K (rtO ρ) m)) (tk : Takes X c.W) (hr : Room k X.A) (ha : FA X c G (e :: es) fs) (hjk : j ≤ k := by decide)
    (hg : Gl X x := by rfl) (hdb : (x == ("__debug__" : Str)) = false := by decide) (he : starEach (e :: es) X.env = (false, eval e X.env) :: starEach es X.env := by rfl) (hpl : (backTo pos (starEach es X.env)).any (·.1) = false := by rfl) :
    FO X c G (.Call (.Name x p) (e :: es) [] pos) (fun g => (fs g).bind m) := by
  obtain ⟨⟨fd, F, B⟩, h1, h2⟩ := D
  exact fo_call F tk (hr.mono hjk) h1 h2 B ha hg hdb he hpl
end
/-- a plain class of errors over ValueError -/
structure Xk (K : PySem.W.Frag) (mg : Str → Option Value) (x : Str) : Prop where
  q : PySem.W.excIn K (He.ga K x) He.veBase "ValueError.__new__" = true
  kp : PySem.W.keepIn K (.ref (He.ga K x)) = true
  h1 : PySem.W.subIn K (.ref (He.ga K x)) (.type "BaseException") = some true
  h2 : PySem.W.typeIn K (.ref (He.ga K x)) = some (.type "type")
  mg : mg x = some (.ref (He.ga K x))
section
variable {X : Cx} {τ ρ β γ γ' : Type} {c : C2 τ ρ β} {G : EnvT γ} {G' : EnvT γ'} {pos pos2 p p2 : Pos} {j : Nat}
theorem fs_rai {x m : Str} (tk : Takes X c.W) (k : Xk X.K X.mg x) (hc : X.calm = true := by rfl) (hg : Gl X x := by rfl) (hdb : (x == ("__debug__" : Str)) = false := by decide) :
    FS X c G (.Raise (some (.Call (.Name x p) [.Constant (.str m) j p2] [] pos)) none pos2) G' (fun _ _ => Xc.er x []) := fs_raise hc tk k.q k.mg k.kp k.h1 k.h2 hg hdb
end
end FL

/-! FL8: lists of one's own: stored, read, grown, changed by place, returned. -/
namespace FL
open PySem L2
/-- the slot i holds a list of one's own -/
class AtO {γ : Type} (G : EnvT γ) (i : Nat) (α : outParam Type) (r : outParam (Rp α)) (π : outParam (γ → List α)) (put : outParam (γ → List α → γ)) : Prop where
  get : ∀ {K H0 F H σ g}, G.rel K H0 F H σ g → ∃ p xs, σ[i]? = some (some (.ref p)) ∧ p ∈ G.own σ ∧ H p = some (.lst xs) ∧ (π g).length ≤ sizeLine ∧ @Al α r K F xs (π g)
  set : ∀ {K H0 F H σ g p ys l}, G.rel K H0 F H σ g → σ[i]? = some (some (.ref p)) → l.length ≤ sizeLine → @Al α r K F ys l → G.rel K H0 F (upd H p (.lst ys)) σ (put g l)
instance {α γ : Type} [r : Rp α] (G : EnvT γ) : AtO (ow α G) 0 α r (fun g => g.1) (fun g l => (l, g.2)) := ⟨fun ⟨p, σ', xs, e, h0, f, h, z, q, n, t⟩ => ⟨p, xs, by subst e; rfl, by subst e; simp [ow, adr], h, z, q⟩,
  fun {K H0 F H σ g b ys l} ⟨p, σ', xs, e, h0, f, h, z, q, n, t⟩ e2 hz hl => by
    subst e
    have e3 : p = b := by simpa using e2
    subst e3
    exact ⟨p, σ', ys, rfl, h0, f, upd_same, hz, hl, n, G.mu t n⟩⟩
instance {α β γ : Type} [Rp β] [r : Rp α] (G : EnvT γ) (i : Nat) (π : γ → List α) (put : γ → List α → γ) [a : AtO G i α r π put] : AtO (va β G) (i + 1) α r (fun g => π g.2) (fun g l => (g.1, put g.2 l)) := ⟨fun ⟨v, σ', e, _, q⟩ => by
  obtain ⟨p, xs, e2, m, q2⟩ := a.get q
  exact ⟨p, xs, by subst e; exact e2, by subst e; exact m, q2⟩, fun ⟨v, σ', e, w, q⟩ e2 hz hl => ⟨v, σ', e, w, a.set q (by subst e; exact e2) hz hl⟩⟩
instance {α γ : Type} [r : Rp α] (G : EnvT γ) (i : Nat) (π : γ → List α) (put : γ → List α → γ) [a : AtO G i α r π put] : AtO (un G) (i + 1) α r (fun g => π g) (fun g l => put g l) := ⟨fun ⟨v, σ', e, q⟩ => by
  obtain ⟨p, xs, e2, m, q2⟩ := a.get q
  exact ⟨p, xs, by subst e; exact e2, by subst e; exact m, q2⟩, fun ⟨v, σ', e, q⟩ e2 hz hl => ⟨v, σ', e, a.set q (by subst e; exact e2) hz hl⟩⟩
instance {α β γ : Type} [Rp β] [r : Rp α] (G : EnvT γ) (i : Nat) (π : γ → List α) (put : γ → List α → γ) [a : AtO G i α r π put] : AtO (ow β G) (i + 1) α r (fun g => π g.2) (fun g l => (g.1, put g.2 l)) := ⟨fun ⟨p, σ', xs, e, h0, f, h, z, w, n, q⟩ => by
  obtain ⟨b, ys, e2, m, q2⟩ := a.get q
  exact ⟨b, ys, by subst e; exact e2, by subst e; exact List.mem_append_right _ m, q2⟩, fun {K H0 F H σ g b ys l} ⟨p, σ', xs, e, h0, f, h, z, w, n, q⟩ e2 hz hl => by
  subst e
  obtain ⟨b', _, e3, m, _⟩ := a.get q
  have e4 : b' = b := by
    have e2 : σ'[i]? = some (some (.ref b)) := e2
    rw [e3] at e2
    injection e2 with e2
    injection e2 with e2
    injection e2
  subst e4
  have ne : p ≠ b' := fun z => n (by rw [z]; exact m)
  exact ⟨p, σ', xs, rfl, h0, f, by rw [upd_ne ne]; exact h, z, w, n, a.set q e3 hz hl⟩⟩
/-- a new list of one's own goes to the slot i -/
class PutO {γ : Type} (G : EnvT γ) (i : Nat) (α : Type) [Rp α] {δ : outParam Type} (G' : outParam (EnvT δ)) (ψ : outParam (γ → List α → δ)) : Prop where
  put : ∀ {K H0 F H σ g p xs l}, G.rel K H0 F H σ g → p ∉ G.own σ → H0 p = none → F p = none → H p = some (.lst xs) → l.length ≤ sizeLine → Al K F xs l → G'.rel K H0 F H (σ.set i (some (.ref p))) (ψ g l)
  own : ∀ {K H0 F H σ g p} {b : Addr}, G.rel K H0 F H σ g → p ∈ G'.own (σ.set i (some (.ref b))) → p = b ∨ p ∈ G.own σ
instance {α β γ : Type} [Rp α] [Rp β] (G : EnvT γ) : PutO (va β G) 0 α (ow α G) (fun g l => (l, g.2)) := ⟨fun ⟨v, σ', e, _, q⟩ n h0 f h z r => ⟨_, σ', _, by subst e; rfl, h0, f, h, z, r, by subst e; exact n, q⟩,
  fun ⟨v, σ', e, _, q⟩ m => by
    subst e
    rcases List.mem_append.mp m with m | m
    · exact .inl (by simpa [adr] using m)
    · exact .inr m⟩
instance {α γ : Type} [Rp α] (G : EnvT γ) : PutO (un G) 0 α (ow α G) (fun g l => (l, g)) := ⟨fun ⟨v, σ', e, q⟩ n h0 f h z r => ⟨_, σ', _, by subst e; rfl, h0, f, h, z, r, by subst e; exact n, q⟩,
  fun ⟨v, σ', e, q⟩ m => by
    subst e
    rcases List.mem_append.mp m with m | m
    · exact .inl (by simpa [adr] using m)
    · exact .inr m⟩
instance {α β γ : Type} [Rp α] [Rp β] (G : EnvT γ) : PutO (ow β G) 0 α (ow α G) (fun g l => (l, g.2)) := ⟨fun ⟨p, σ', xs, e, _, _, _, _, _, nn, q⟩ n h0 f h z r => ⟨_, σ', _, by subst e; rfl, h0, f, h, z, r, by subst e; exact fun m => n (List.mem_append_right _ m), q⟩,
  fun ⟨p, σ', xs, e, _, _, _, _, _, nn, q⟩ m => by
    subst e
    rcases List.mem_append.mp m with m | m
    · exact .inl (by simpa [adr] using m)
    · exact .inr (List.mem_append_right _ m)⟩
instance {α β γ δ : Type} [Rp α] [Rp β] (G : EnvT γ) (i : Nat) (G' : EnvT δ) (ψ : γ → List α → δ) [P : PutO G i α G' ψ] : PutO (va β G) (i + 1) α (va β G') (fun g a => (g.1, ψ g.2 a)) :=
  ⟨fun ⟨v, σ', e, w, q⟩ n h0 f h z r => ⟨v, σ'.set i _, by subst e; rfl, w, P.put q (by subst e; exact n) h0 f h z r⟩, fun ⟨v, σ', e, w, q⟩ h => by subst e; exact P.own q h⟩
instance {α γ δ : Type} [Rp α] (G : EnvT γ) (i : Nat) (G' : EnvT δ) (ψ : γ → List α → δ) [P : PutO G i α G' ψ] : PutO (un G) (i + 1) α (un G') (fun g a => ψ g a) :=
  ⟨fun ⟨v, σ', e, q⟩ n h0 f h z r => ⟨v, σ'.set i _, by subst e; rfl, P.put q (by subst e; exact n) h0 f h z r⟩, fun ⟨v, σ', e, q⟩ h => by subst e; exact P.own q h⟩
instance {α β γ δ : Type} [Rp α] [Rp β] (G : EnvT γ) (i : Nat) (G' : EnvT δ) (ψ : γ → List α → δ) [P : PutO G i α G' ψ] : PutO (ow β G) (i + 1) α (ow β G') (fun g a => (g.1, ψ g.2 a)) :=
  ⟨fun ⟨p, σ', xs, e, h0', f', h', z', w, nn, q⟩ n h0 f h z r => by
    subst e
    refine ⟨p, σ'.set i _, xs, rfl, h0', f', h', z', w, fun m => ?_, P.put q (fun m => n (List.mem_append_right _ m)) h0 f h z r⟩
    rcases P.own q m with m | m
    · exact n (List.mem_append_left _ (by simp [adr, m]))
    · exact nn m, fun ⟨p, σ', xs, e, _, _, _, _, _, nn, q⟩ h => by
    subst e
    rcases List.mem_append.mp h with h | h
    · exact .inr (List.mem_append_left _ h)
    · rcases P.own q h with h | h
      · exact .inl h
      · exact .inr (List.mem_append_right _ h)⟩

section
variable {X : Cx} {c : C1} {γ γ' α β : Type} {G : EnvT γ} {G' : EnvT γ'} [Rp α] [Rp β] {a b e : Expr} {pos p1 p2 : Pos} {x : Str}
/-- x = [..], x's list one's own -/
theorem fn_setO (i : Nat) {p' : Pos} {ψ : γ → List α → γ'} [P : PutO G i α G' ψ] {fa : γ → Xc (List α)} (hM : c.M i = true) (ha : FO X c.toC0 G e fa) (hN : X.N.Nodup) (hi : X.N[i]? = some x := by rfl) (hx : Loc X.env.scope x := by first | exact Or.inl rfl | exact Or.inr rfl)
    (hs : swapsWith e (some (.Name x p')) pos.line X.env = pure false := by rfl) (hf : X.fn x = true ∨ X.env.scope.names.lookup x = some .local := by first | exact .inl rfl | exact .inr rfl) :
    FN X c G (.Assign [.Name x p'] e pos) G' (fun g => (fa g).bind fun v => Xc.ok (ψ g v)) :=
  PS.imp (ps_set hN hi hx ha hs hf) fun D σ H ⟨F, g, w, q, h⟩ => by
    refine ⟨F, g, w, q, ?_⟩
    cases e1 : fa g with
    | ok v =>
      intro p xs F1 H1 w1 n f1 h1 z r1
      simp only [e1] at h
      have q1 := G.mono q w1
      refine h (σ.set i (some (.ref p))) F1 H1 (Ws.of w w1) (Ag.set hM) (P.put q1 (fun m => ?_) (w.h.free n) f1 h1 z r1)
      obtain ⟨_, _, ys, hy⟩ := G.al q m
      rw [n] at hy
      cases hy
    | er c' fs => simp only [e1] at h; exact PoN.er h w
    | no => simp only [e1] at h; exact h
/-- x = [.. for ..] on one line, where the block stores it -/
theorem fn_setOL (i : Nat) {tx : γ → Xc (List α)} {st : Stmt} {te : TE} {ψ : γ → List α → γ'} [P : PutO G i α G' ψ] (hM : c.M i = true) (ha : ∀ σ H Q, tO X.K c.toC0 G tx σ H Q → te σ H Q) (hs : PS X st (tAsg te (gName i))) :
    FN X c G st G' (fun g => (tx g).bind fun v => Xc.ok (ψ g v)) :=
  PS.imp hs fun D σ H ⟨F, g, w, q, h⟩ => by
    refine ha σ H _ ⟨F, g, w, q, ?_⟩
    cases e1 : tx g with
    | ok v =>
      intro p xs F1 H1 w1 n f1 h1 z r1
      simp only [e1] at h
      have q1 := G.mono q w1
      refine h (σ.set i (some (.ref p))) F1 H1 (Ws.of w w1) (Ag.set hM) (P.put q1 (fun m => ?_) (w.h.free n) f1 h1 z r1)
      obtain ⟨_, _, ys, hy⟩ := G.al q m
      rw [n] at hy
      cases hy
    | er c' fs => simp only [e1] at h; exact PoN.er h w
    | no => simp only [e1] at h; exact h
theorem fn_setL (i : Nat) {tx : γ → Xc (List α)} {st : Stmt} {te : TE} {ψ : γ → List α → γ'} [P : Put G i (List α) G' ψ] (hM : c.M i = true) (ha : ∀ σ H Q, tO X.K c.toC0 G tx σ H Q → te σ H Q) (hs : PS X st (tAsg te (gName i))) :
    FN X c G st G' (fun g => (tx g).bind fun v => Xc.ok (ψ g v)) :=
  PS.imp hs fun D σ H ⟨F, g, w, q, h⟩ => by
    refine ha σ H _ ⟨F, g, w, q, ?_⟩
    cases e1 : tx g with
    | ok v =>
      intro p xs F1 H1 w1 n f1 h1 z r1
      simp only [e1] at h
      have w2 := w1.fz n f1 h1
      exact h (σ.set i (some (.ref p))) _ H1 (Ws.of w w2) (Ag.set hM) (P.put (G.mono q w2) ⟨p, xs, rfl, SqL.of upd_same, z, r1.mono (same_new f1)⟩)
    | er c' fs => simp only [e1] at h; exact PoN.er h w
    | no => simp only [e1] at h; exact h
/-- the world behind a change of a list of one's own -/
theorem Wd.mutd {F H F' H' : Hp} {p : Addr} {o : HO} (w : Wd F H F' H') (h0 : H p = none) (f : F' p = none) : Wd F H F' (upd H' p o) :=
  ⟨w.f, fun b u e => by rw [upd_ne (ne_of_none e h0)]; exact w.h b u e, fun b u e => by rw [upd_ne (ne_of_none e f)]; exact w.s b u e, w.n⟩
@[irreducible] def appX {α : Type} (l : List α) (a : α) : Xc (List α) := if l.length < sizeLine then .ok (l ++ [a]) else .no
/-- x.append(e) -/
theorem fn_append (i : Nat) {τ : Type} {r : Rp τ} {π : γ → List τ} {put : γ → List τ → γ} [A : AtO G i τ r π put] {fa : γ → Xc τ} {apos cpos : Pos} (ha : FE X c.toC0 G e fa) (hN : X.N[i]? = some x := by rfl) (hv : Vis X.env.scope x := by first | exact Or.inl rfl | exact Or.inr (Or.inl rfl) | exact Or.inr (Or.inr rfl))
    (hd : (x == ("__debug__" : Str)) = false := by decide) (hcd : (x == ("__classdict__" : Str)) = false := by decide) (hbase : attributeBase (.Name x p1) "append" X.env (eval (.Name x p1) X.env) = eval (.Name x p1) X.env := by rfl)
    (hfew : ((backTo cpos (starEach [e] X.env)).all (fun x => !x.1) && (backToKw cpos (keywordEach [] X.env)).all (fun x => x.1.isSome) && decide ([e].length + ([] : List Keyword).length + (if ([] : List Keyword).isEmpty then 0 else 1) < 30)) = true := by rfl)
    (hline : (apos.endLine == cpos.line) = true := by rfl) (hs : starEach [e] X.env = (false, eval e X.env) :: starEach [] X.env := by rfl) (hplain : (backTo cpos (starEach [] X.env)).any (·.1) = false := by rfl)
    (hsw : swapsWith (.Call (.Attribute (.Name x p1) "append" apos) [e] [] cpos) none pos.line X.env = pure false := by rfl) :
    FN X c G (.Expr (.Call (.Attribute (.Name x p1) "append" apos) [e] [] cpos) pos) G (fun g => (fa g).bind fun v => (appX (π g) v).bind fun l => Xc.ok (put g l)) :=
  PS.imp (ps_expr (pe_bm PySem.F.plainAttrs_list PySem.F.slot_list_append PySem.F.type_list_append mt_append (pe_var hN hv hd hcd) (pa_cons ha pa_nil hs) hbase hfew hline hs hplain) hsw) fun D σ H ⟨F, g, w, q, h⟩ => by
    obtain ⟨p, xs, e1, m, hp, z, al⟩ := A.get q
    refine ⟨.ref p, e1, .inl ⟨rfl, _, SqL.of hp⟩, F, g, w, q, ?_⟩
    cases e2 : fa g with
    | ok v =>
      intro u F1 H1 w1 r1
      simp only [e2] at h
      have h : PoN X.K c G D F H σ ((appX (π g) v).bind fun l => Xc.ok (put g l)) := h
      unfold appX at h
      by_cases hz : (π g).length < sizeLine
      · rw [if_pos hz] at h
        refine ⟨p, xs, u, rfl, rfl, w1.h _ _ hp, by rw [al.len]; exact hz, ?_⟩
        obtain ⟨h0, hf, _⟩ := G.al q m
        have q1 := G.mono q w1
        obtain ⟨_, hf1, _⟩ := G.al q1 m
        refine h σ F1 _ ⟨w1.f, (w.trans w1).mutd h0 hf1⟩ Ag.refl ?_
        exact A.set q1 e1 (by simp; omega) ((al.mono w1.f).snoc r1)
      · rw [if_neg hz] at h; exact h.elim
    | er c' fs => simp only [e2] at h; exact PoN.er h w
    | no => simp only [e2] at h; exact h
@[irreducible] def setX {α : Type} (l : List α) (i : Int) (a : α) : Xc (List α) := match ixN l.length i with
  | some j => .ok (l.set j a)
  | none => .no
/-- x[k] = e, x a list of one's own -/
theorem fn_setix (i : Nat) {τ : Type} {r : Rp τ} {π : γ → List τ} {put : γ → List τ → γ} [A : AtO G i τ r π put] {fa : γ → Xc τ} {fk : γ → Xc Int} {spos : Pos} {k : Expr} (ha : FE X c.toC0 G e fa) (hk : FE X c.toC0 G k fk) (hN : X.N[i]? = some x := by rfl)
    (hv : Vis X.env.scope x := by first | exact Or.inl rfl | exact Or.inr (Or.inl rfl) | exact Or.inr (Or.inr rfl))
    (hd : (x == ("__debug__" : Str)) = false := by decide) (hcd : (x == ("__classdict__" : Str)) = false := by decide)
    (hs : swapsWithSole [.Subscript (.Name x p1) k spos] e pos.line X.env = pure false := by rfl) (hw : swappedStores [.Subscript (.Name x p1) k spos] e X.env = pure none := by rfl)
    (h1 : (assignEach [.Subscript (.Name x p1) k spos] X.env).map (·.2) = [assign (.Subscript (.Name x p1) k spos) X.env] := by rfl) (hps : PG X (.Subscript (.Name x p1) k spos) (gSub (tVar i) (tF X.K c.toC0 G fk) rSetL)) :
    FN X c G (.Assign [.Subscript (.Name x p1) k spos] e pos) G (fun g => (fa g).bind fun v => (fk g).bind fun j => (setX (π g) j v).bind fun l => Xc.ok (put g l)) :=
  PS.imp (ps_asg ha hps hs hw h1) fun D σ H ⟨F, g, w, q, h⟩ => by
    refine ⟨F, g, w, q, ?_⟩
    cases e2 : fa g with
    | ok v =>
      intro u F1 H1 w1 r1
      simp only [e2] at h
      have h : PoN X.K c G D F H σ ((fk g).bind fun j => (setX (π g) j v).bind fun l => Xc.ok (put g l)) := h
      have q1 := G.mono q w1
      obtain ⟨p, xs, e1, m, hp, z, al⟩ := A.get q1
      refine ⟨.ref p, e1, F1, g, w.trans w1, q1, ?_⟩
      cases e3 : fk g with
      | ok j =>
        intro jv F2 H2 w2 r2
        simp only [e3] at h
        have h : PoN X.K c G D F H σ ((setX (π g) j v).bind fun l => Xc.ok (put g l)) := h
        unfold setX at h
        have q2 := G.mono q1 w2
        obtain ⟨h0, hf2, _⟩ := G.al q2 m
        cases e4 : ixN (π g).length j with
        | none => rw [e4] at h; exact h.elim
        | some n =>
          rw [e4] at h
          refine ⟨p, xs, j, n, rfl, r2, w2.h _ _ hp, by rw [al.len]; exact e4, ?_⟩
          refine h σ F2 _ ⟨w1.f.trans w2.f, ((w.trans w1).trans w2).mutd h0 hf2⟩ Ag.refl ?_
          exact A.set q2 e1 (by simp; exact z) ((al.mono w2.f).set (Rp.mono w2.f r1) n)
      | er c' fs =>
        simp only [e3] at h
        exact ErP.on (PoN.er h w) w1
      | no => simp only [e3] at h; exact h
    | er c' fs => simp only [e2] at h; exact PoN.er h w
    | no => simp only [e2] at h; exact h
end
end FL

/-! FL9: lists of one's own lent, returned; what is walked; for; comprehensions. -/
namespace FL
open PySem L2
/-! ### data without lists: it leans on no list -/
class RpT (α : Type) [Rp α] : Prop where
  down : ∀ {K F F' v} {a : α}, (∀ p o, F p = some o → (∀ xs, o ≠ HO.lst xs) → F' p = some o) → Rp.is K F v a → Rp.is K F' v a
instance : RpT Int := ⟨fun _ h => h⟩
instance : RpT Bool := ⟨fun _ h => h⟩
instance : RpT Str := ⟨fun _ h => h⟩
instance : RpT Unit := ⟨fun _ h => h⟩
instance {α : Type} [Rp α] [RpT α] : RpT (Option α) := ⟨fun {K F F' v a} s h => by
  cases a with
  | none => exact h
  | some a => exact ⟨h.1, RpT.down s h.2⟩⟩
theorem sqT_down {K : PySem.W.Frag} {F F' : Hp} {p : Addr} {xs : List V} (s : ∀ p o, F p = some o → (∀ xs, o ≠ HO.lst xs) → F' p = some o) (h : SqT K F p xs) : SqT K F' p xs := by
  rcases h with (h | ⟨o, h⟩) | h
  · exact .inl (.inl (s _ _ h fun _ z => nomatch z))
  · exact .inl (.inr ⟨o, s _ _ h fun _ z => nomatch z⟩)
  · exact .inr h
theorem al_down {α : Type} [Rp α] [RpT α] {K : PySem.W.Frag} {F F' : Hp} {vs : List V} {as : List α} (s : ∀ p o, F p = some o → (∀ xs, o ≠ HO.lst xs) → F' p = some o) (h : Al K F vs as) : Al K F' vs as := by
  induction h with
  | nil => exact .nil
  | cons h _ ih => exact .cons (RpT.down s h) ih
instance {α : Type} [Rp α] [RpT α] : RpT (Tu α) := ⟨fun s ⟨p, xs, e, h, z, r⟩ => ⟨p, xs, e, sqT_down s h, z, al_down s r⟩⟩
instance {α β : Type} [Rp α] [Rp β] [RpT α] [RpT β] : RpT (α × β) := ⟨fun s ⟨p, x, y, e, h, r1, r2⟩ => ⟨p, x, y, e, sqT_down s h, RpT.down s r1, RpT.down s r2⟩⟩
instance {α β γ : Type} [Rp α] [Rp β] [Rp γ] [RpT α] [RpT β] [RpT γ] : RpT (T3 α β γ) := ⟨fun s ⟨p, x, y, z, e, h, r1, r2, r3⟩ => ⟨p, x, y, z, e, sqT_down s h, RpT.down s r1, RpT.down s r2, RpT.down s r3⟩⟩
instance {α β γ δ : Type} [Rp α] [Rp β] [Rp γ] [Rp δ] [RpT α] [RpT β] [RpT γ] [RpT δ] : RpT (T4 α β γ δ) := ⟨fun s ⟨p, x, y, z, u, e, h, r1, r2, r3, r4⟩ => ⟨p, x, y, z, u, e, sqT_down s h, RpT.down s r1, RpT.down s r2, RpT.down s r3, RpT.down s r4⟩⟩
/-- the slots with the lists of one's own lent -/
class Bor {γ : Type} (G : EnvT γ) {δ : outParam Type} (G' : outParam (EnvT δ)) (h : outParam (γ → δ)) : Prop where
  bor : ∀ {K H0 F H F' σ g}, G.rel K H0 F H σ g → Same F F' → (∀ p, p ∈ G.own σ → F' p = H p) → G'.rel K H0 F' H σ (h g)
instance : Bor nl nl (fun g => g) := ⟨fun h _ _ => h⟩
section
variable {α γ δ : Type} [Rp α] (G : EnvT γ) (G' : EnvT δ) (h : γ → δ) [B : Bor G G' h]
instance : Bor (va α G) (va α G') (fun g => (g.1, h g.2)) := ⟨fun ⟨v, σ', e, r, q⟩ s m => by subst e; exact ⟨v, σ', rfl, Rp.mono s r, B.bor q s m⟩⟩
instance : Bor (un G) (un G') (fun g => h g) := ⟨fun ⟨v, σ', e, q⟩ s m => by subst e; exact ⟨v, σ', rfl, B.bor q s m⟩⟩
instance : Bor (ow α G) (va (List α) G') (fun g => (g.1, h g.2)) := ⟨fun {K H0 F H F' σ g} ⟨p, σ', xs, e, h0, f, hh, z, r, n, q⟩ s m => by
  subst e
  have hp : F' p = some (.lst xs) := by rw [m p (List.mem_append_left _ (by simp [adr])), hh]
  exact ⟨.ref p, σ', rfl, ⟨p, xs, rfl, SqL.of hp, z, r.mono s⟩, B.bor q s fun b hb => m b (List.mem_append_right _ hb)⟩⟩
end
section
variable {X : Cx} {c : C0} {γ δ α β : Type} {G : EnvT γ} {G' : EnvT δ} {h : γ → δ} [Rp α] [Rp β] {e : Expr}
open Classical in
theorem lend {K : PySem.W.Frag} {F H : Hp} {σ : St} {g : γ} [B : Bor G G' h] (w : Wd c.F0 c.H0 F H) (q : G.rel K c.H0 F H σ g) : ∃ F1, Wd c.F0 c.H0 F1 H ∧ G'.rel K c.H0 F1 H σ (h g) ∧
    (∀ F2 H2, Wd F1 H F2 H2 → ∃ F3, Wd F H F3 H2 ∧ (∀ p o, F2 p = some o → (∀ xs, o ≠ HO.lst xs) → F3 p = some o) ∧ ∀ p, F2 p = none → F3 p = none) ∧ Same F F1 := by
  have s1 : Same F fun a => if a ∈ G.own σ then H a else F a := fun b o e => by
    by_cases m : b ∈ G.own σ
    · obtain ⟨_, f, _⟩ := G.al q m
      rw [e] at f; cases f
    · simp only [if_neg m]; exact e
  refine ⟨fun a => if a ∈ G.own σ then H a else F a, ⟨w.f.trans s1, w.h, fun b o e => ?_, fun b hb e => ?_⟩, B.bor q s1 fun p m => by simp only [if_pos m], fun F2 H2 w2 => ⟨fun a => if a ∈ G.own σ then none else F2 a, ⟨fun b o e => ?_, w2.h, fun b o e => ?_, fun b hb e => ?_⟩, fun p o e hl => ?_, fun p e => ?_⟩, s1⟩
  · by_cases m : b ∈ G.own σ
    · simp only [if_pos m] at e; exact e
    · simp only [if_neg m] at e; exact w.s b o e
  · by_cases m : b ∈ G.own σ
    · exact (G.al q m).1
    · simp only [if_neg m] at hb; exact w.n b hb e
  · by_cases m : b ∈ G.own σ
    · obtain ⟨_, f, _⟩ := G.al q m
      rw [e] at f; cases f
    · simp only [if_neg m]; exact w2.f b o (s1 b o e)
  · by_cases m : b ∈ G.own σ
    · simp only [if_pos m] at e; cases e
    · simp only [if_neg m] at e; exact w2.s b o e
  · by_cases m : b ∈ G.own σ
    · simp only [if_pos m] at hb; exact absurd rfl hb
    · simp only [if_neg m] at hb
      exact w2.n b hb (by simp only [if_neg m]; exact e)
  · by_cases m : p ∈ G.own σ
    · obtain ⟨_, _, xs, hx⟩ := G.al q m
      have : F2 p = some (.lst xs) := w2.f p _ (by simp only [if_pos m]; exact hx)
      rw [this] at e
      exact absurd (Option.some.inj e).symm (hl xs)
    · simp only [if_neg m]; exact e
  · by_cases m : p ∈ G.own σ
    · simp only [if_pos m]
    · simp only [if_neg m]; exact e
theorem ErP.lend {K : PySem.W.Frag} {F H F1 : Hp} {E : XK} {cc : Str} {fs : List (Str × V)} (h : ErP K F H E cc fs) (k : ∀ F2 H2, Wd F1 H F2 H2 → ∃ F3, Wd F H F3 H2) : ErP K F1 H E cc fs := by
  cases fs with
  | nil => exact fun F' H' w => by obtain ⟨F3, w3⟩ := k F' H' w; exact h F3 H' w3
  | cons f fs => exact fun F' H' d w => by obtain ⟨F3, w3⟩ := k F' H' w; exact h F3 H' d w3
theorem fe_br [B : Bor G G' h] [RpT α] {f : δ → Xc α} (ha : FE X c G' e f) : FE X c G e (fun g => f (h g)) :=
  PE.imp ha fun σ H Q ⟨F, g, w, q, p⟩ => by
    obtain ⟨F1, w1, q1, k, _⟩ := lend (B := B) w q
    refine ⟨F1, h g, w1, q1, ?_⟩
    have p : Po X.K F H Q (WE c.W σ) (f (h g)) := p
    revert p
    cases f (h g) with
    | ok a =>
      intro p v F2 H2 w2 r2
      obtain ⟨F3, w3, d⟩ := k F2 H2 w2
      exact p v F3 H2 w3 (RpT.down d.1 r2)
    | er cc fs => exact fun p => ErP.lend p fun F2 H2 w2 => let ⟨F3, w3, _⟩ := k F2 H2 w2; ⟨F3, w3⟩
    | no => exact fun p => p
theorem ft_br [B : Bor G G' h] {f : δ → Xc Bool} (ha : FT X c G' e f) : FT X c G e (fun g => f (h g)) :=
  PT.imp ha fun σ H Q ⟨F, g, w, q, p⟩ => by
    obtain ⟨F1, w1, q1, k, _⟩ := lend (B := B) w q
    refine ⟨F1, h g, w1, q1, ?_⟩
    have p : PoB X.K F H Q (WE c.W σ) (f (h g)) := p
    revert p
    cases f (h g) with
    | ok a =>
      intro p F2 H2 w2
      obtain ⟨F3, w3, d⟩ := k F2 H2 w2
      exact p F3 H2 w3
    | er cc fs => exact fun p => ErP.lend p fun F2 H2 w2 => let ⟨F3, w3, _⟩ := k F2 H2 w2; ⟨F3, w3⟩
    | no => exact fun p => p
theorem fo_br [B : Bor G G' h] [RpT α] {f : δ → Xc (List α)} (ha : FO X c G' e f) : FO X c G e (fun g => f (h g)) :=
  PE.imp ha fun σ H Q ⟨F, g, w, q, p⟩ => by
    obtain ⟨F1, w1, q1, k, _⟩ := lend (B := B) w q
    refine ⟨F1, h g, w1, q1, ?_⟩
    have p : PoO X.K F H Q (WE c.W σ) (f (h g)) := p
    revert p
    cases f (h g) with
    | ok a =>
      intro p b xs F2 H2 w2 n f2 h2 z r2
      obtain ⟨F3, w3, d⟩ := k F2 H2 w2
      exact p b xs F3 H2 w3 n (d.2 b f2) h2 z (al_down d.1 r2)
    | er cc fs => exact fun p => ErP.lend p fun F2 H2 w2 => let ⟨F3, w3, _⟩ := k F2 H2 w2; ⟨F3, w3⟩
    | no => exact fun p => p
end
end FL

/-! FL10: what is walked; targets; for; comprehensions; returns of lists of one's own. -/
namespace FL
open PySem L2
/-- the walk J over the items of l, in the frozen heap F -/
structure Wk {α : Type} [Rp α] (K : PySem.W.Frag) (J : It) (F : Hp) (l : List α) : Prop where
  len : l.length ≤ sizeLine
  stop : ∀ F' H', Same F F' → Same F' H' → J.stop l.length H'
  go : ∀ i F' H', i < l.length → Same F F' → Same F' H' → J.go i H'
  yld : ∀ i a F' H' x H'', l[i]? = some a → Same F F' → Same F' H' → J.yld i H' x H'' → ∃ F'', Wd F' H' F'' H'' ∧ Rp.is K F'' x a
def PoI {α : Type} [Rp α] (K : PySem.W.Frag) (F H : Hp) (R : It → Hp → Prop) (E : XK) (m : Xc (List α)) : Prop := match m with
  | .ok l => ∀ J F' H', Wd F H F' H' → Wk K J F' l → R J H'
  | .er c fs => ErP K F H E c fs
  | .no => False
section
variable {X : Cx} {c : C0} {γ α β : Type} {G : EnvT γ} [Rp α] [Rp β] {e a b tg : Expr} {pos p : Pos}
def FI (X : Cx) (c : C0) (G : EnvT γ) (tg iter : Expr) (f : γ → Xc (List α)) : Prop := PI X tg iter fun σ H R => ∃ F g, Wd c.F0 c.H0 F H ∧ G.rel X.K c.H0 F H σ g ∧ PoI X.K F H R (WE c.W σ) (f g)
theorem PI.imp {iter : Expr} {t t' : TI} (h : PI X tg iter t) (i : ∀ σ H R, t' σ H R → t σ H R) : PI X tg iter t' := ⟨fun pins s σ H R I q => h.run pins s σ H R I (i σ H R q)⟩
theorem FI.cast {f f' : γ → Xc (List α)} (h : FI X c G tg e f) (i : ∀ g, f' g = f g) : FI X c G tg e f' := by rw [show f' = f from funext i]; exact h
theorem sqL_one {K : PySem.W.Frag} {H : Hp} {q : Addr} {xs ys : List V} {F : Hp} (s : Same F H) (h : SqL K F q xs) : SqL K H q xs := Same.seq s h
theorem fi_list {f : γ → Xc (List α)} (h : FE X c G e f) : FI X c G tg e f :=
  PI.imp (pi_list h) fun σ H R ⟨F, g, w, q, p⟩ => by
    refine ⟨F, g, w, q, ?_⟩
    cases e1 : f g with
    | ok l =>
      rintro v F1 H1 w1 ⟨b, xs, rfl, hx, hz, r⟩
      rw [e1] at p
      refine ⟨b, rfl, ⟨xs, Same.seq w1.s hx⟩, p (Itl X.K b) F1 H1 w1 ⟨hz, fun F' H' s1 s2 => ⟨xs, Same.seq (s1.trans s2) hx, Nat.le_of_eq r.len⟩, fun i F' H' hi s1 s2 => ?_, fun i a F' H' x H'' e2 s1 s2 y => ?_⟩⟩
      · obtain ⟨v, hv, _⟩ := r.get' (List.getElem?_eq_getElem hi)
        exact ⟨xs, v, Same.seq (s1.trans s2) hx, hv⟩
      · obtain ⟨rfl, y⟩ := y
        obtain ⟨v, hv, rv⟩ := r.get' e2
        have := y xs (Same.seq (s1.trans s2) hx)
        rw [hv] at this
        cases this
        exact ⟨F', Wd.refl s2, Rp.mono s1 rv⟩
    | er c' fs => rw [e1] at p; exact p
    | no => rw [e1] at p; exact p
theorem fi_tup {f : γ → Xc (Tu α)} (h : FE X c G e f) : FI X c G tg e (fun g => (f g).bind fun t => Xc.ok t.l) :=
  PI.imp (pi_tup h) fun σ H R ⟨F, g, w, q, p⟩ => by
    refine ⟨F, g, w, q, ?_⟩
    cases e1 : f g with
    | ok l =>
      rintro v F1 H1 w1 ⟨b, xs, rfl, hx, hz, r⟩
      simp only [e1] at p
      refine ⟨b, rfl, ⟨xs, Same.seqT w1.s hx⟩, p (Itt X.K b) F1 H1 w1 ⟨hz, fun F' H' s1 s2 => ⟨xs, Same.seqT (s1.trans s2) hx, Nat.le_of_eq r.len⟩, fun i F' H' hi s1 s2 => ?_, fun i a F' H' x H'' e2 s1 s2 y => ?_⟩⟩
      · obtain ⟨v, hv, _⟩ := r.get' (List.getElem?_eq_getElem hi)
        exact ⟨xs, v, Same.seqT (s1.trans s2) hx, hv⟩
      · obtain ⟨rfl, y⟩ := y
        obtain ⟨v, hv, rv⟩ := r.get' e2
        have := y xs (Same.seqT (s1.trans s2) hx)
        rw [hv] at this
        cases this
        exact ⟨F', Wd.refl s2, Rp.mono s1 rv⟩
    | er c' fs => simp only [e1] at p; exact p
    | no => simp only [e1] at p; exact p
/-- lo, lo + 1, .. below hi -/
@[irreducible] def rangeL (lo hi : Int) : List Int := (List.range (hi - lo).toNat).map fun i => lo + (i : Nat)
@[irreducible] def rngX (lo hi : Int) : Xc (List Int) := if -(2 ^ 62) ≤ lo ∧ lo < 2 ^ 62 ∧ -(2 ^ 62) ≤ hi ∧ hi < 2 ^ 62 ∧ (hi - lo).toNat ≤ sizeLine then .ok (rangeL lo hi) else .no
theorem rangeL_len (lo hi : Int) : (rangeL lo hi).length = (hi - lo).toNat := by simp [rangeL]
theorem rangeL_get {lo hi : Int} {i : Nat} {a : Int} (h : (rangeL lo hi)[i]? = some a) : a = lo + (i : Nat) ∧ i < (hi - lo).toNat := by
  have hi' : i < (rangeL lo hi).length := (List.getElem?_eq_some_iff.mp h).1
  rw [rangeL_len] at hi'
  unfold rangeL at h
  rw [List.getElem?_map, List.getElem?_range hi'] at h
  exact ⟨(Option.some.inj h).symm, hi'⟩
theorem wk_range {K : PySem.W.Frag} {F : Hp} {lo hi : Int} (hz : (hi - lo).toNat ≤ sizeLine) : Wk K (Itr lo (hi - lo).toNat) F (rangeL lo hi) :=
  ⟨by rw [rangeL_len]; exact hz, fun F' H' _ _ => by rw [rangeL_len]; exact Nat.le_refl _, fun i F' H' h _ _ => by rw [rangeL_len] at h; exact h, fun i a F' H' x H'' e s1 s2 y => by
    obtain ⟨rfl, rfl⟩ := y
    obtain ⟨rfl, _⟩ := rangeL_get e
    exact ⟨F', Wd.refl s2, rfl⟩⟩
theorem fi_range1 {f : γ → Xc Int} (h : FE X c G a f) (hm : X.mg "range" = none) (hg : Gl X "range" := by rfl) (hs : starEach [a] X.env = (false, eval a X.env) :: starEach [] X.env := by rfl) :
    FI X c G tg (.Call (.Name "range" p) [a] [] pos) (fun g => (f g).bind fun i => rngX 0 i) :=
  PI.imp (pi_range1 hg hm (pa_cons h pa_nil hs) (hs := hs)) fun σ H R ⟨F, g, w, q, p⟩ => by
    refine ⟨F, g, w, q, ?_⟩
    cases e1 : f g with
    | ok n =>
      intro v F1 H1 w1 r1
      have r1 : v = .int n := r1
      simp only [e1] at p
      have p : PoI X.K F H R (WE c.W σ) (rngX 0 n) := p
      unfold rngX at p
      by_cases hz : -(2 ^ 62) ≤ (0 : Int) ∧ (0 : Int) < 2 ^ 62 ∧ -(2 ^ 62) ≤ n ∧ n < 2 ^ 62 ∧ (n - 0).toNat ≤ sizeLine
      · rw [if_pos hz] at p
        refine ⟨n, by rw [r1], hz.2.2.1, hz.2.2.2.1, ?_⟩
        have k := p (Itr 0 (n - 0).toNat) F1 H1 w1 (wk_range hz.2.2.2.2)
        rw [Int.sub_zero] at k
        exact k
      · rw [if_neg hz] at p; exact p.elim
    | er c' fs => simp only [e1] at p; exact p
    | no => simp only [e1] at p; exact p
theorem fi_range2 {f1 f2 : γ → Xc Int} (h1 : FE X c G a f1) (h2 : FE X c G b f2) (hm : X.mg "range" = none) (hg : Gl X "range" := by rfl) (hs : starEach [a, b] X.env = (false, eval a X.env) :: starEach [b] X.env := by rfl)
    (hs2 : starEach [b] X.env = (false, eval b X.env) :: starEach [] X.env := by rfl) : FI X c G tg (.Call (.Name "range" p) [a, b] [] pos) (fun g => (f1 g).bind fun i => (f2 g).bind fun j => rngX i j) :=
  PI.imp (pi_range2 hg hm (pa_cons h1 (pa_cons h2 pa_nil hs2) hs) (hs := hs.trans (congrArg _ hs2)) (hs2 := hs2)) fun σ H R ⟨F, g, w, q, p⟩ => by
    refine ⟨F, g, w, q, ?_⟩
    cases e1 : f1 g with
    | ok i =>
      intro v F1 H1 w1 r1
      have r1 : v = .int i := r1
      simp only [e1] at p
      have p : PoI X.K F H R (WE c.W σ) ((f2 g).bind fun j => rngX i j) := p
      refine ⟨F1, g, w.trans w1, G.mono q w1, ?_⟩
      cases e2 : f2 g with
      | ok j =>
        intro u F2 H2 w2 r2
        have r2 : u = .int j := r2
        simp only [e2] at p
        have p : PoI X.K F H R (WE c.W σ) (rngX i j) := p
        unfold rngX at p
        by_cases hz : -(2 ^ 62) ≤ i ∧ i < 2 ^ 62 ∧ -(2 ^ 62) ≤ j ∧ j < 2 ^ 62 ∧ (j - i).toNat ≤ sizeLine
        · rw [if_pos hz] at p
          exact ⟨i, j, by rw [r1, r2], ⟨hz.1, hz.2.1, hz.2.2.1, hz.2.2.2.1⟩, p (Itr i (j - i).toNat) F2 H2 (w1.trans w2) (wk_range hz.2.2.2.2)⟩
        · rw [if_neg hz] at p; exact p.elim
      | er c' fs => simp only [e2] at p; exact ErP.on (show ErP X.K F H (WE c.W σ) c' fs from p) w1
      | no => simp only [e2] at p; exact p
    | er c' fs => simp only [e1] at p; exact p
    | no => simp only [e1] at p; exact p
/-- the signs of a text, one by one -/
@[irreducible] def signs (z : Str) : List Str := z.cps.toList.map fun k => (⟨#[k]⟩ : Str)
end
/-! ### targets -/
section
variable {X : Cx} {γ γ' α β : Type} {G : EnvT γ} {G' : EnvT γ'} [Rp α] [Rp β] {pos : Pos} {x y : Str}
/-- the target tg stores an item -/
def FG (X : Cx) (M : Nat → Bool) (G : EnvT γ) (tg : Expr) (G' : EnvT γ') (vs : List Nat) (ψ : γ → α → γ') : Prop := ∃ t, PG X tg t ∧ ∀ H0 F H σ g v a (Q : St → Hp → Prop), Same F H → G.rel X.K H0 F H σ g → Rp.is X.K F v a →
  (∀ σ', Ag M σ σ' → wipe σ' vs = wipe σ vs → G'.rel X.K H0 F H σ' (ψ g a) → Q σ' H) → t v σ H Q
theorem fg_name (i : Nat) {M : Nat → Bool} {p : Pos} {ψ : γ → α → γ'} [P : Put G i α G' ψ] (hM : M i = true) (hN : X.N.Nodup) (hi : X.N[i]? = some x := by rfl) (hx : Loc X.env.scope x := by first | exact Or.inl rfl | exact Or.inr rfl)
    (hf : X.fn x = true ∨ X.env.scope.names.lookup x = some .local := by first | exact .inl rfl | exact .inr rfl) : FG X M G (.Name x p) G' [i] ψ :=
  ⟨_, pg_name hN hi hx hf, fun H0 F H σ g v a Q s q r k => k _ (Ag.set hM) (by unfold wipe wipe; rw [List.set_set]) (P.put q r)⟩
theorem fg_pair (i j : Nat) {M : Nat → Bool} {p p1 p2 : Pos} {kk} {γ1 : Type} {G1 : EnvT γ1} {ψ1 : γ → α → γ1} {ψ2 : γ1 → β → γ'} [P1 : Put G i α G1 ψ1] [P2 : Put G1 j β G' ψ2] (hM : M i = true ∧ M j = true) (hc : X.calm = true) (hN : X.N.Nodup)
    (hi : X.N[i]? = some x := by rfl) (hx : Loc X.env.scope x := by first | exact Or.inl rfl | exact Or.inr rfl) (hj : X.N[j]? = some y := by rfl) (hy : Loc X.env.scope y := by first | exact Or.inl rfl | exact Or.inr rfl)
    (hf : X.fn x = true ∨ X.env.scope.names.lookup x = some .local := by first | exact .inl rfl | exact .inr rfl) (hf2 : X.fn y = true ∨ X.env.scope.names.lookup y = some .local := by first | exact .inl rfl | exact .inr rfl)
    (pt : PG X (.Tuple [.Name x p1, .Name y p2] kk p) (gTup X.K 2 (gCons (gName i) (gCons (gName j) gNil)))) : FG X M G (.Tuple [.Name x p1, .Name y p2] kk p) G' [i, j] (fun g (a : α × β) => ψ2 (ψ1 g a.1) a.2) :=
  ⟨_, pt, fun H0 F H σ g v a Q s q r k => by
    obtain ⟨b, u, z, rfl, h, r1, r2⟩ := r
    refine ⟨b, [u, z], rfl, Same.seqT s h, rfl, u, [z], rfl, z, [], rfl, rfl, ?_⟩
    refine k _ ((Ag.set hM.1).trans (Ag.set hM.2)) ?_ (P2.put (P1.put q r1) r2)
    show ((((σ.set i (some u)).set j (some z)).set j none).set i none) = (σ.set j none).set i none
    rw [List.set_set]
    by_cases e : i = j
    · subst e; rw [List.set_set, List.set_set, List.set_set]
    · rw [List.set_comm _ _ (fun z => e z.symm), List.set_comm _ _ e, List.set_comm (some u) none e, List.set_set, List.set_comm _ _ (fun z => e z.symm)]⟩
end
/-! ### for -/
def foldX {γ α : Type} (f : γ → α → Xc γ) : List α → γ → Xc γ
  | [], g => .ok g
  | a :: l, g => (f g a).bind (foldX f l)
def forX {γ α ρ : Type} (f : γ → α → Xc (Lp γ ρ)) : List α → γ → Xc (Sum γ ρ)
  | [], g => .ok (.inl g)
  | a :: l, g => (f g a).bind fun t => match t with
    | .ct g' => forX f l g'
    | .bk g' => .ok (.inl g')
    | .rt r => .ok (.inr r)
section
variable {X : Cx} {γ γb α β ρ τ : Type} {G : EnvT γ} {Gb : EnvT γb} [Rp α] {tg iter : Expr} {body : List Stmt} {pos : Pos} {vs : List Nat}
theorem fn_for {c : C1} {ψ : γ → α → γb} {fl : γ → Xc (List α)} {mb : γb → Xc γ} (po : PassesOwn (model X.prog X.w) X.A X.env X.xe) (hi : FI X c.toC0 G tg iter fl) (hg : FG X c.M G tg Gb vs ψ) (hb : FNs X c Gb body G mb)
    (hc : X.calm = true := by rfl) (hs : ∀ x, foldedSetIterable iter X.env x = pure x := by intro _; rfl) : FN X c G (.For tg iter body [] pos) G (fun g => (fl g).bind fun l => foldX (fun g a => mb (ψ g a)) l g) := by
  obtain ⟨t, pg, ht⟩ := hg
  refine PS.imp (ps_for po hc hi pg hb hs) fun D σ H ⟨F, g, w, q, p⟩ => ⟨F, g, w, q, ?_⟩
  cases e1 : fl g with
  | er c' fs => simp only [e1] at p; exact PoN.er p w
  | no => simp only [e1] at p; exact p
  | ok l =>
    intro J F1 H1 w1 wk
    simp only [e1] at p
    have p : PoN X.K c G D F H σ (foldX (fun g a => mb (ψ g a)) l g) := p
    refine ⟨fun i m σ' H' => m = l.length - i ∧ i ≤ l.length ∧ ∃ F' g', Ws c.toC0 F1 F' H' ∧ Ag c.M σ σ' ∧ G.rel X.K c.H0 F' H' σ' g' ∧ PoN X.K c G D F' H' σ' (foldX (fun g a => mb (ψ g a)) (l.drop i) g'),
      ⟨l.length, by simp, Nat.zero_le _, F1, g, Ws.refl (w.trans w1), Ag.refl, G.mono q w1, by simpa using p.on w1.f Ag.refl⟩, ?_⟩
    rintro i m σ' H' ⟨rfl, hi', F', g', ws, ag, q', p'⟩
    by_cases hlt : i < l.length
    · refine .inr ⟨wk.go i F' H' hlt ws.f ws.w.s, fun σ'' H'' => ∃ F' g', Ws c.toC0 F1 F' H'' ∧ Ag c.M σ σ'' ∧ G.rel X.K c.H0 F' H'' σ'' g' ∧ PoN X.K c G D F' H'' σ'' (foldX (fun g a => mb (ψ g a)) (l.drop (i + 1)) g'),
        fun σ'' H'' z => ⟨l.length - (i + 1), by omega, rfl, hlt, z⟩, fun x H'' y => ?_⟩
      obtain ⟨F2, w2, r2⟩ := wk.yld i l[i] F' H' x H'' (List.getElem?_eq_getElem hlt) ws.f ws.w.s y
      refine ht c.H0 F2 H'' σ' g' x l[i] _ w2.s (G.mono q' w2) r2 fun σ2 ag2 _ q2 => ?_
      refine ⟨F2, ψ g' l[i], ws.w.trans w2, q2, ?_⟩
      rw [List.drop_eq_getElem_cons hlt] at p'
      have p' : PoN X.K c G D F' H' σ' ((mb (ψ g' l[i])).bind (foldX (fun g a => mb (ψ g a)) (l.drop (i + 1)))) := p'
      revert p'
      cases mb (ψ g' l[i]) with
      | ok g3 =>
        intro p' σ3 F3 H3 w3 a3 q3
        exact ⟨F3, g3, ⟨(ws.f.trans w2.f).trans w3.f, w3.w⟩, (ag.trans ag2).trans a3, q3, PoN.on (show PoN X.K c G D F' H' σ' (foldX (fun g a => mb (ψ g a)) (l.drop (i + 1)) g3) from p') (w2.f.trans w3.f) (ag2.trans a3)⟩
      | er cc fs => exact fun p' σ3 F3 H3 w3 a3 => p' σ3 F3 H3 ⟨w2.f.trans w3.f, w3.w⟩ (ag2.trans a3)
      | no => exact fun p' => p'
    · have e : i = l.length := by omega
      subst e
      refine .inl ⟨wk.stop F' H' ws.f ws.w.s, ?_⟩
      rw [List.drop_length] at p'
      exact p' σ' F' H' (Ws.refl ws.w) Ag.refl q'
/-- the context of a loop's turn that may leave the loop -/
def cL (c : C2 τ ρ β) (G : EnvT γ) : C2 (Lp γ ρ) ρ γ := { toC1 := c.toC1, O := outL γ ρ, R := c.R, GB := G }
theorem fs_for {c : C2 τ ρ β} {rt : ρ → τ} {ψ : γ → α → γb} {fl : γ → Xc (List α)} {fb : γb → (γ → Xc (Lp γ ρ)) → Xc (Lp γ ρ)} (po : PassesOwn (model X.prog X.w) X.A X.env X.xe) (hi : FI X c.toC0 G tg iter fl) (hg : FG X c.M G tg Gb vs ψ) (hb : FSs X (cL c G) Gb body G fb)
    (hO : ∀ r P B C, P r → c.O.sem (rt r) P B C) (hR' : ∀ r P B C, c.O.sem (rt r) P B C → P r) (hc : X.calm = true := by rfl) (hs : ∀ x, foldedSetIterable iter X.env x = pure x := by intro _; rfl) :
    FS X c G (.For tg iter body [] pos) G (fun g k => (fl g).bind fun l => (forX (fun g a => fb (ψ g a) fun g' => Xc.ok (Lp.ct g')) l g).bind fun t => match t with
      | .inl g' => k g'
      | .inr r => Xc.ok (rt r)) := by
  obtain ⟨t, pg, ht⟩ := hg
  refine PS.imp (ps_for po hc hi pg hb hs) fun D σ H ⟨F, g, k, w, q, d, n⟩ => ⟨F, g, w, q, ?_⟩
  cases e1 : fl g with
  | er c' fs => simp only [e1] at d; exact Done.er d w
  | no => simp only [e1] at d; exact d
  | ok l =>
    intro J F1 H1 w1 wk
    simp only [e1] at d
    let fin : Sum γ ρ → Xc τ := fun t => match t with
      | .inl g' => k g'
      | .inr r => Xc.ok (rt r)
    have d : Done X.K c D F σ ((forX (fun g a => fb (ψ g a) fun g' => Xc.ok (Lp.ct g')) l g).bind fin) := d
    refine ⟨fun i m σ' H' => m = l.length - i ∧ i ≤ l.length ∧ ∃ F' g', Ws c.toC0 F1 F' H' ∧ Ag c.M σ σ' ∧ G.rel X.K c.H0 F' H' σ' g' ∧ Done X.K c D F' σ' ((forX (fun g a => fb (ψ g a) fun g' => Xc.ok (Lp.ct g')) (l.drop i) g').bind fin),
      ⟨l.length, by simp, Nat.zero_le _, F1, g, Ws.refl (w.trans w1), Ag.refl, G.mono q w1, by simpa using d.on w1.f Ag.refl⟩, ?_⟩
    rintro i m σ' H' ⟨rfl, hi', F', g', ws, ag, q', d'⟩
    by_cases hlt : i < l.length
    · refine .inr ⟨wk.go i F' H' hlt ws.f ws.w.s, fun σ'' H'' => ∃ F' g', Ws c.toC0 F1 F' H'' ∧ Ag c.M σ σ'' ∧ G.rel X.K c.H0 F' H'' σ'' g' ∧ Done X.K c D F' σ'' ((forX (fun g a => fb (ψ g a) fun g' => Xc.ok (Lp.ct g')) (l.drop (i + 1)) g').bind fin),
        fun σ'' H'' z => ⟨l.length - (i + 1), by omega, rfl, hlt, z⟩, fun x H'' y => ?_⟩
      obtain ⟨F2, w2, r2⟩ := wk.yld i l[i] F' H' x H'' (List.getElem?_eq_getElem hlt) ws.f ws.w.s y
      refine ht c.H0 F2 H'' σ' g' x l[i] _ w2.s (G.mono q' w2) r2 fun σ2 ag2 _ q2 => ?_
      rw [List.drop_eq_getElem_cons hlt] at d'
      have d' : Done X.K c D F' σ' (((fb (ψ g' l[i]) fun g' => Xc.ok (Lp.ct g')).bind fun t => match t with
        | .ct g' => forX (fun g a => fb (ψ g a) fun g' => Xc.ok (Lp.ct g')) (l.drop (i + 1)) g'
        | .bk g' => .ok (.inl g')
        | .rt r => .ok (.inr r)).bind fin) := d'
      refine ⟨F2, ψ g' l[i], fun g' => Xc.ok (Lp.ct g'), ws.w.trans w2, q2, ?_, fun g3 σ3 F3 H3 w3 a3 q3 d3 => ?_⟩
      · revert d'
        cases fb (ψ g' l[i]) fun g' => Xc.ok (Lp.ct g') with
        | ok t =>
          intro d'
          cases t with
          | ct b =>
            have d' : Done X.K c D F' σ' ((forX (fun g a => fb (ψ g a) fun g' => Xc.ok (Lp.ct g')) (l.drop (i + 1)) b).bind fin) := d'
            intro σ3 F3 H3 w3 a3 q3
            exact ⟨F3, b, ⟨(ws.f.trans w2.f).trans w3.f, w3.w⟩, (ag.trans ag2).trans a3, q3, d'.on (w2.f.trans w3.f) (ag2.trans a3)⟩
          | bk b =>
            have d' : Done X.K c D F' σ' (k b) := d'
            intro σ3 F3 H3 w3 a3 q3
            exact n b σ3 F3 H3 ⟨((w1.f.trans ws.f).trans w2.f).trans w3.f, w3.w⟩ ((ag.trans ag2).trans a3) q3 (d'.on (w2.f.trans w3.f) (ag2.trans a3))
          | rt r =>
            have d' : Done X.K c D F' σ' (Xc.ok (rt r)) := d'
            intro v F3 H3 w3 r3
            exact hR' r _ _ _ d' v F3 H3 ⟨w2.f.trans w3.f, w3.w⟩ r3
        | er cc fs => exact fun d' σ3 F3 H3 w3 a3 => d' σ3 F3 H3 ⟨w2.f.trans w3.f, w3.w⟩ (ag2.trans a3)
        | no => exact fun d' => d'
      · exact d3 σ3 F3 H3 (Ws.refl w3.w) Ag.refl q3
    · have e : i = l.length := by omega
      subst e
      refine .inl ⟨wk.stop F' H' ws.f ws.w.s, ?_⟩
      rw [List.drop_length] at d'
      exact n g' σ' F' H' ⟨w1.f.trans ws.f, ws.w⟩ ag q' d'
theorem fs_break {c : C2 (Lp β ρ) ρ β} {γ' : Type} {G : EnvT γ} {G' : EnvT γ'} {h : γ → β} [S : Sub G c.GB h] (hO : c.O = outL β ρ := by rfl) : FS X c G (.Break pos) G' (fun g _ => Xc.ok (Lp.bk (h g))) :=
  PS.imp ps_break fun D σ H ⟨F, g, k, w, q, d, n⟩ => by
    unfold Done at d
    rw [hO] at d
    exact d σ F H (Ws.refl w) Ag.refl (S.sub q)
theorem fs_cont {c : C2 (Lp β ρ) ρ β} {γ' : Type} {G : EnvT γ} {G' : EnvT γ'} {h : γ → β} [S : Sub G c.GB h] (hO : c.O = outL β ρ := by rfl) : FS X c G (.Continue pos) G' (fun g _ => Xc.ok (Lp.ct (h g))) :=
  PS.imp ps_continue fun D σ H ⟨F, g, k, w, q, d, n⟩ => by
    unfold Done at d
    rw [hO] at d
    exact d σ F H (Ws.refl w) Ag.refl (S.sub q)
end
end FL

/-! FL11: comprehensions. -/
namespace FL
open PySem L2
/-! ### slots forgotten -/
class Wi1 {γ : Type} (G : EnvT γ) (i : Nat) {δ : outParam Type} (G' : outParam (EnvT δ)) (h : outParam (γ → δ)) : Prop where
  wi : ∀ {K H0 F H σ g} (x : Option V), G.rel K H0 F H σ g → G'.rel K H0 F H (σ.set i x) (h g)
  own : ∀ {K H0 F H σ g p} (x : Option V), G.rel K H0 F H σ g → p ∈ G'.own (σ.set i x) → p ∈ G.own σ
section
variable {α β γ δ : Type} [Rp α] [Rp β] (G : EnvT γ) (G' : EnvT δ) (h : γ → δ) (i : Nat)
instance : Wi1 nl i nl (fun g => g) := ⟨fun _ _ => trivial, fun _ _ m => by cases m⟩
instance : Wi1 (va α G) 0 (un G) (fun g => g.2) := ⟨fun x ⟨v, σ', e, _, q⟩ => ⟨x, σ', by subst e; rfl, q⟩, fun x ⟨v, σ', e, _, q⟩ m => by subst e; exact m⟩
instance : Wi1 (un G) 0 (un G) (fun g => g) := ⟨fun x ⟨v, σ', e, q⟩ => ⟨x, σ', by subst e; rfl, q⟩, fun x ⟨v, σ', e, q⟩ m => by subst e; exact m⟩
instance : Wi1 (ow α G) 0 (un G) (fun g => g.2) := ⟨fun x ⟨p, σ', xs, e, _, _, _, _, _, _, q⟩ => ⟨x, σ', by subst e; rfl, q⟩, fun x ⟨p, σ', xs, e, _, _, _, _, _, _, q⟩ m => by subst e; exact List.mem_append_right _ m⟩
instance [W : Wi1 G i G' h] : Wi1 (va α G) (i + 1) (va α G') (fun g => (g.1, h g.2)) := ⟨fun x ⟨v, σ', e, r, q⟩ => ⟨v, σ'.set i x, by subst e; rfl, r, W.wi x q⟩, fun x ⟨v, σ', e, r, q⟩ m => by subst e; exact W.own x q m⟩
instance [W : Wi1 G i G' h] : Wi1 (un G) (i + 1) (un G') (fun g => h g) := ⟨fun x ⟨v, σ', e, q⟩ => ⟨v, σ'.set i x, by subst e; rfl, W.wi x q⟩, fun x ⟨v, σ', e, q⟩ m => by subst e; exact W.own x q m⟩
instance [W : Wi1 G i G' h] : Wi1 (ow α G) (i + 1) (ow α G') (fun g => (g.1, h g.2)) := ⟨fun x ⟨p, σ', xs, e, h0, f, hh, z, r, n, q⟩ => ⟨p, σ'.set i x, xs, by subst e; rfl, h0, f, hh, z, r, fun m => n (W.own x q m), W.wi x q⟩, fun x ⟨p, σ', xs, e, _, _, _, _, _, _, q⟩ m => by
  subst e
  rcases List.mem_append.mp m with m | m
  · exact List.mem_append_left _ m
  · exact List.mem_append_right _ (W.own x q m)⟩
end
class Wip {γ : Type} (G : EnvT γ) (vs : List Nat) {δ : outParam Type} (G' : outParam (EnvT δ)) (h : outParam (γ → δ)) : Prop where
  wi : ∀ {K H0 F H σ g}, G.rel K H0 F H σ g → G'.rel K H0 F H (wipe σ vs) (h g)
instance {γ : Type} (G : EnvT γ) : Wip G [] G (fun g => g) := ⟨fun h => h⟩
instance {γ δ ε : Type} (G : EnvT γ) (G1 : EnvT δ) (G2 : EnvT ε) (i : Nat) (vs : List Nat) (h1 : γ → δ) (h2 : δ → ε) [W : Wip G vs G1 h1] [W1 : Wi1 G1 i G2 h2] : Wip G (i :: vs) G2 (fun g => h2 (h1 g)) := ⟨fun q => W1.wi none (W.wi q)⟩
theorem wipe_set {σ : St} {i : Nat} : ∀ {vs : List Nat}, wipe (σ.set i none) vs = (wipe σ vs).set i none
  | [] => rfl
  | v :: vs => by
    show (wipe (σ.set i none) vs).set v none = ((wipe σ vs).set v none).set i none
    rw [wipe_set]
    by_cases e : i = v
    · subst e; rfl
    · rw [List.set_comm _ _ e]
theorem wipe_wipe {σ : St} : ∀ {vs : List Nat}, wipe (wipe σ vs) vs = wipe σ vs
  | [] => rfl
  | v :: vs => by
    show (wipe ((wipe σ vs).set v none) vs).set v none = (wipe σ vs).set v none
    rw [wipe_set, wipe_wipe, List.set_set]
/-- exceptions do not leave a comprehension -/
def nx {α : Type} (m : Xc α) : Xc α := match m with
  | .ok a => .ok a
  | _ => .no
/-- [f a for a in l if t a] -/
def compX {α β : Type} (t : α → Xc Bool) (f : α → Xc β) : List α → Xc (List β)
  | [] => .ok []
  | a :: l => (nx (t a)).bind fun b => if b = true then (nx (f a)).bind fun y => (compX t f l).bind fun ys => .ok (y :: ys) else compX t f l
/-- the world of a block's code: no exception leaves it -/
abbrev cB (c : C0) : C0 := { c with W := fun _ _ _ _ => False }
section
variable {X : Cx} {γ γb γw α β : Type} {G : EnvT γ} {Gw : EnvT γw} {Gb : EnvT γb} [Rp α] [Rp β] {tg iter elt : Expr} {ifs : List Expr} {pos : Pos} {vs : List Nat} {scope : Scope} {own : List (Str × Nat)} {c : C0}
/-- the target of a block -/
def FGB (X : Cx) (scope : Scope) (G : EnvT γ) (tg : Expr) (G' : EnvT γb) (vs : List Nat) (ψ : γ → α → γb) : Prop := ∃ t, (∀ (s : Shared) (H : Hp) (C : Addr) (cl : List (Str × Addr)) (fp : List Addr), PG (X.blk s H scope (compEnvC scope cl C X.env) fp) tg t) ∧
  ∀ H0 F H σ g v a (Q : St → Hp → Prop), Same F H → G.rel X.K H0 F H σ g → Rp.is X.K F v a → (∀ σ', wipe σ' vs = wipe σ vs → G'.rel X.K H0 F H σ' (ψ g a) → Q σ' H) → t v σ H Q
theorem tO_lc {ψ : γw → α → γb} {h : γ → γw} {fl : γ → Xc (List α)} {ft : γb → Xc Bool} {f : γb → Xc β} {g : TG} [W : Wip G vs Gw h]
    (hg : ∀ H0 F H σ g' v a (Q : St → Hp → Prop), Same F H → Gw.rel X.K H0 F H σ g' → Rp.is X.K F v a → (∀ σ', wipe σ' vs = wipe σ vs → Gb.rel X.K H0 F H σ' (ψ g' a) → Q σ' H) → g v σ H Q) {σ : St} {H : Hp} {Q : VK}
    (p : tO X.K c G (fun g => (fl g).bind fun l => compX (fun a => ft (ψ (h g) a)) (fun a => f (ψ (h g) a)) l) σ H Q) :
    tLc (fun σ H R => ∃ F g, Wd c.F0 c.H0 F H ∧ G.rel X.K c.H0 F H σ g ∧ PoI X.K F H R (WE c.W σ) (fl g)) g (tT X.K (cB c) Gb ft) (tF X.K (cB c) Gb f) vs σ H Q := by
  obtain ⟨F, gg, w, q, p⟩ := p
  refine ⟨F, gg, w, q, ?_⟩
  cases e1 : fl gg with
  | er c' fs => simp only [e1] at p; exact p
  | no => simp only [e1] at p; exact p
  | ok l =>
    simp only [e1] at p
    have p : PoO X.K F H Q (WE c.W σ) (compX (fun a => ft (ψ (h gg) a)) (fun a => f (ψ (h gg) a)) l) := p
    intro J F1 H1 w1 wk D hD
    refine ⟨fun i m H' => m = l.length - i ∧ i ≤ l.length ∧ ∃ F' acc ys, Wd F1 H1 F' H' ∧ F' D = none ∧ H' D = some (.lst acc) ∧ ys.length ≤ i ∧ Al X.K F' acc ys ∧
      (PoO X.K F H Q (WE c.W σ) ((compX (fun a => ft (ψ (h gg) a)) (fun a => f (ψ (h gg) a)) (l.drop i)).bind fun zs => .ok (ys ++ zs))), ⟨l.length, by simp, Nat.zero_le _, F1, [], [], Wd.newO w1.s hD, w1.s.free hD, upd_same, Nat.le_refl _, .nil, ?_⟩, ?_⟩
    · simpa [bind_pure] using p
    rintro i m H' ⟨rfl, hi', F', acc, ys, w2, fD, hD', hy, al, p'⟩
    have HD : H D = none := by
      cases z : H D with
      | none => rfl
      | some o => rw [w1.h _ _ z] at hD; cases hD
    by_cases hlt : i < l.length
    · refine .inr ⟨wk.go i F' H' hlt w2.f w2.s, fun H'' => ∃ F' acc ys, Wd F1 H1 F' H'' ∧ F' D = none ∧ H'' D = some (.lst acc) ∧ ys.length ≤ i + 1 ∧ Al X.K F' acc ys ∧
        (PoO X.K F H Q (WE c.W σ) ((compX (fun a => ft (ψ (h gg) a)) (fun a => f (ψ (h gg) a)) (l.drop (i + 1))).bind fun zs => .ok (ys ++ zs))), fun H'' z => ⟨l.length - (i + 1), by omega, rfl, hlt, z⟩, fun x H'' y => ?_⟩
      obtain ⟨F2, w3, r2⟩ := wk.yld i l[i] F' H' x H'' (List.getElem?_eq_getElem hlt) w2.f w2.s y
      have fD2 : F2 D = none := w3.own fD hD'
      have hD2 : H'' D = some (.lst acc) := w3.h _ _ hD'
      refine hg c.H0 F2 H'' (wipe σ vs) (h gg) x l[i] _ w3.s (W.wi (G.mono q ((w1.trans w2).trans w3))) r2 fun σ2 hw q2 => ⟨by rw [hw, wipe_wipe], ?_⟩
      rw [List.drop_eq_getElem_cons hlt] at p'
      have wt := ((w.trans w1).trans w2).trans w3
      refine ⟨F2, ψ (h gg) l[i], wt, q2, ?_⟩
      cases e2 : ft (ψ (h gg) l[i]) with
      | er c' fs => simp only [compX, e2] at p'; exact p'.elim
      | no => simp only [compX, e2] at p'; exact p'.elim
      | ok b =>
        simp only [compX, e2, nx, bind_ok] at p'
        intro F3 H3 w4
        have fD3 : F3 D = none := w4.own fD2 hD2
        have hD3 : H3 D = some (.lst acc) := w4.h _ _ hD2
        cases b with
        | false =>
          simp only [Bool.false_eq_true, if_false] at p' ⊢
          exact ⟨F3, acc, ys, (w2.trans w3).trans w4, fD3, hD3, by omega, (al.mono w3.f).mono w4.f, p'⟩
        | true =>
          simp only [if_true] at p' ⊢
          refine ⟨F3, ψ (h gg) l[i], wt.trans w4, Gb.mono q2 w4, ?_⟩
          cases e3 : f (ψ (h gg) l[i]) with
          | er c' fs => simp only [e3] at p'; exact p'.elim
          | no => simp only [e3] at p'; exact p'.elim
          | ok z =>
            simp only [e3] at p'
            intro v F4 H4 w5 r5
            have fD4 : F4 D = none := w5.own fD3 hD3
            have hD4 : H4 D = some (.lst acc) := w5.h _ _ hD3
            have wl := wk.len
            refine ⟨acc, hD4, by rw [al.len]; omega, F4, acc ++ [v], ys ++ [z], ((((w2.trans w3).trans w4).trans w5).mutd hD fD4), fD4, upd_same, by simp; omega, (((al.mono w3.f).mono w4.f).mono w5.f).snoc r5, ?_⟩
            revert p'
            generalize compX (fun a => ft (ψ (h gg) a)) (fun a => f (ψ (h gg) a)) (l.drop (i + 1)) = cm
            intro p'
            cases cm with
            | ok zs => simpa [bind_ok] using p'
            | er _ _ => exact p'
            | no => exact p'
    · have e : i = l.length := by omega
      subst e
      refine .inl ⟨wk.stop F' H' w2.f w2.s, ?_⟩
      rw [List.drop_length] at p'
      have p' : PoO X.K F H Q (WE c.W σ) (.ok (ys ++ [])) := p'
      rw [List.append_nil] at p'
      exact p' D acc F' H' (w1.trans w2) HD fD hD' (Nat.le_trans hy wk.len) al
/-- a clause's tests -/
def FTs (X : Cx) (scope : Scope) (c : C0) (G : EnvT γ) (ifs : List Expr) (f : γ → Xc Bool) : Prop := ∀ (s : Shared) (H : Hp) (C : Addr) (cl : List (Str × Addr)) (fp : List Addr), PTs (X.blk s H scope (compEnvC scope cl C X.env) fp) ifs (tT X.K c G f)
theorem fts_nil : FTs X scope c G [] (fun _ => Xc.ok true) := fun s H C cl fp => ⟨fun pins s σ H Q I ⟨F, g, w, q, h⟩ => pts_nil.run pins s σ H Q I (h F H (Wd.refl w.s))⟩
theorem fts_one {e : Expr} {f : γ → Xc Bool} (h : ∀ (s : Shared) (H : Hp) (C : Addr) (cl : List (Str × Addr)) (fp : List Addr), FT (X.blk s H scope (compEnvC scope cl C X.env) fp) c G e f) : FTs X scope c G [e] f := fun s H C cl fp => pts_one (h s H C cl fp)
theorem fo_lc {ψ : γw → α → γb} {h : γ → γw} {fl : γ → Xc (List α)} {ft : γb → Xc Bool} {f : γb → Xc β} [W : Wip G vs Gw h] (hvs : own.map (·.2) = vs) (ok : BlkOk X.N X.env.scope scope own) (hN : X.N.Nodup) (hi : FI X c G tg iter fl) (hg : FGB X scope Gw tg Gb vs ψ)
    (ht : FTs X scope (cB c) Gb ifs ft) (he : ∀ (s : Shared) (H : Hp) (C : Addr) (cl : List (Str × Addr)) (fp : List Addr), FE (X.blk s H scope (compEnvC scope cl C X.env) fp) (cB c) Gb elt f) (hc : X.calm = true := by rfl) (hs : ∀ x, foldedSetIterable iter X.env x = pure x := by intro _; rfl) :
    FO X c G (.ListComp elt [⟨tg, iter, ifs, 0⟩] scope pos) (fun g => (fl g).bind fun l => compX (fun a => ft (ψ (h g) a)) (fun a => f (ψ (h g) a)) l) := by
  subst hvs
  obtain ⟨t, pg, ht'⟩ := hg
  exact PE.imp (pe_lc (te := tF X.K (cB c) Gb f) hc hN hi ok pg ht he hs) fun σ H Q p => tO_lc (W := W) ht' p
theorem fn_setLc {c : C1} {γ' : Type} {G' : EnvT γ'} (k : Nat) {y : Str} {py spos : Pos} {ψ' : γ → List β → γ'} [P : PutO G k β G' ψ'] {ψ : γw → α → γb} {h : γ → γw} {fl : γ → Xc (List α)} {ft : γb → Xc Bool} {f : γb → Xc β} [W : Wip G vs Gw h] (hvs : own.map (·.2) = vs) (hM : c.M k = true) (ok : BlkOk X.N X.env.scope scope own) (hN : X.N.Nodup) (hi : FI X c.toC0 G tg iter fl) (hg : FGB X scope Gw tg Gb vs ψ)
    (ht : FTs X scope (cB c.toC0) Gb ifs ft) (he : ∀ (s : Shared) (H : Hp) (C : Addr) (cl : List (Str × Addr)) (fp : List Addr), FE (X.blk s H scope (compEnvC scope cl C X.env) fp) (cB c.toC0) Gb elt f) (hy : X.N[k]? = some y := by rfl) (hyl : X.env.scope.names.lookup y = some .local := by rfl)
    (hsw : swapsWith (.ListComp elt [⟨tg, iter, ifs, 0⟩] scope pos) (some (.Name y py)) spos.line X.env = pure true := by exact sw_true rfl rfl rfl rfl) (hc : X.calm = true := by rfl) (hs : ∀ x, foldedSetIterable iter X.env x = pure x := by intro _; rfl) :
    FN X c G (.Assign [.Name y py] (.ListComp elt [⟨tg, iter, ifs, 0⟩] scope pos) spos) G' (fun g => ((fl g).bind fun l => compX (fun a => ft (ψ (h g) a)) (fun a => f (ψ (h g) a)) l).bind fun v => Xc.ok (ψ' g v)) := by
  subst hvs
  obtain ⟨t, pg, ht'⟩ := hg
  exact fn_setOL k hM (fun σ H Q p => tO_lc (W := W) ht' p) (ps_setLc (te := tF X.K (cB c.toC0) Gb f) hc hN hy hyl hsw hi ok pg ht he hs)
theorem fgb_name (i : Nat) {x : Str} {p : Pos} {ψ : γ → α → γb} [P : Put G i α Gb ψ] (hN : X.N.Nodup) (hi : X.N[i]? = some x := by rfl) (hx : Loc scope x := by first | exact Or.inl rfl | exact Or.inr rfl)
    (hxe : ∀ C cl, Loc (compEnvC scope cl C X.env).scope x := by intro _ _; first | exact Or.inl rfl | exact Or.inr rfl)
    (hf : ∀ C cl, (scope.names.lookup x == some .cell) = true ∨ (compEnvC scope cl C X.env).scope.names.lookup x = some .local := by intro _ _; first | exact .inl rfl | exact .inr rfl) : FGB X scope G (.Name x p) Gb [i] ψ :=
  ⟨gName i, fun s H C cl fp => pg_name hN hi (hxe C cl) (hf C cl), fun H0 F H σ g v a Q s q r k => k _ (by unfold wipe wipe; rw [List.set_set]) (P.put q r)⟩
end
end FL

/-! FL12: more of expressions and statements. -/
namespace FL
open PySem L2
/-! ### conversions -/
section
variable {X : Cx} {c : C0} {γ α β ρ : Type} {G : EnvT γ} [Rp α] [Rp β] [Rp ρ] {a b d e : Expr} {pos p : Pos}
theorem fe_to {φ : α → β} {fa : γ → Xc α} (hφ : ∀ {K F v a}, Rp.is K F v a → Rp.is K F v (φ a)) (ha : FE X c G e fa) : FE X c G e (fun g => (fa g).bind fun a => Xc.ok (φ a)) :=
  PE.imp ha fun σ H Q ⟨F, g, w, q, h⟩ => by
    refine ⟨F, g, w, q, ?_⟩
    cases e1 : fa g with
    | ok i => simp only [e1] at h; exact fun v F1 H1 w1 r1 => h v F1 H1 w1 (hφ r1)
    | er c' fs => simp only [e1] at h; exact h
    | no => simp only [e1] at h; exact h
theorem fe_from {φ : α → Xc β} {fa : γ → Xc α} (hφ : ∀ {K F v a b}, φ a = .ok b → Rp.is K F v a → Rp.is K F v b) (hn : ∀ a c fs, φ a ≠ .er c fs) (ha : FE X c G e fa) : FE X c G e (fun g => (fa g).bind φ) :=
  PE.imp ha fun σ H Q ⟨F, g, w, q, h⟩ => by
    refine ⟨F, g, w, q, ?_⟩
    cases e1 : fa g with
    | ok i =>
      simp only [e1] at h
      cases e2 : φ i with
      | ok b => intro v F1 H1 w1 r1; simp only [bind_ok, e2] at h; exact h v F1 H1 w1 (hφ e2 r1)
      | er c' fs => exact absurd e2 (hn _ _ _)
      | no => simp only [bind_ok, e2] at h; exact h.elim
    | er c' fs => simp only [e1] at h; exact h
    | no => simp only [e1] at h; exact h
end
class ToD (α : Type) [Rp α] where
  d : α → PyData
  is : ∀ {K F v} {a : α}, Rp.is K F v a → Dp K F v (d a)
instance : ToD Int := ⟨.int, fun h => by have h : _ = V.int _ := h; subst h; exact .int _⟩
instance : ToD Bool := ⟨.bool, fun h => by have h : _ = V.bl _ := h; subst h; exact .bl _⟩
instance : ToD Str := ⟨.str, fun h => by have h : _ = V.str _ := h.1; subst h; exact .str _⟩
instance : ToD Unit := ⟨fun _ => .none, fun h => by have h : _ = V.non := h; subst h; exact .non⟩
instance : ToD PyData := ⟨id, fun h => h.1⟩
theorem al_dp {α : Type} [Rp α] [ToD α] {K : PySem.W.Frag} {F : Hp} {vs : List V} {as : List α} (h : Al K F vs as) : DpAll K F vs (as.map ToD.d) := by
  induction h with
  | nil => exact .nil
  | cons h _ ih => exact .cons (ToD.is h) ih
instance {α : Type} [Rp α] [ToD α] : ToD (Option α) := ⟨fun a => match a with
  | none => .none
  | some a => ToD.d a, fun {K F v a} h => by
    cases a with
    | none => have h : _ = V.non := h; subst h; exact .non
    | some a => exact ToD.is h.2⟩
instance {α : Type} [Rp α] [ToD α] : ToD (List α) := ⟨fun l => .list (l.map ToD.d), fun ⟨p, xs, e, h, z, r⟩ => by subst e; exact .lst h (al_dp r)⟩
instance {α : Type} [Rp α] [ToD α] : ToD (Tu α) := ⟨fun l => .tuple (l.l.map ToD.d), fun ⟨p, xs, e, h, z, r⟩ => by subst e; exact .tup h (al_dp r)⟩
instance {α β : Type} [Rp α] [Rp β] [ToD α] [ToD β] : ToD (α × β) := ⟨fun t => .tuple [ToD.d t.1, ToD.d t.2], fun ⟨p, x, y, e, h, r1, r2⟩ => by subst e; exact .tup h (.cons (ToD.is r1) (.cons (ToD.is r2) .nil))⟩
instance {α β γ : Type} [Rp α] [Rp β] [Rp γ] [ToD α] [ToD β] [ToD γ] : ToD (T3 α β γ) := ⟨fun t => .tuple [ToD.d t.a, ToD.d t.b, ToD.d t.c], fun ⟨p, x, y, z, e, h, r1, r2, r3⟩ => by subst e; exact .tup h (.cons (ToD.is r1) (.cons (ToD.is r2) (.cons (ToD.is r3) .nil)))⟩
instance {α β γ δ : Type} [Rp α] [Rp β] [Rp γ] [Rp δ] [ToD α] [ToD β] [ToD γ] [ToD δ] : ToD (T4 α β γ δ) := ⟨fun t => .tuple [ToD.d t.a, ToD.d t.b, ToD.d t.c, ToD.d t.d], fun ⟨p, x, y, z, u, e, h, r1, r2, r3, r4⟩ => by subst e; exact .tup h (.cons (ToD.is r1) (.cons (ToD.is r2) (.cons (ToD.is r3) (.cons (ToD.is r4) .nil))))⟩
/-- as data -/
@[irreducible] def datX {α : Type} [Rp α] [ToD α] (a : α) : Xc PyData := if SeqAt.shaped (ToD.d a) = true then .ok (ToD.d a) else .no
/-- data as an int, as a tuple -/
@[irreducible] def asI (d : PyData) : Xc Int := match d with
  | .int i => .ok i
  | _ => .no
@[irreducible] def asT (d : PyData) : Xc (Tu PyData) := match d with
  | .tuple l => if l.length ≤ sizeLine ∧ l.all SeqAt.shaped = true then .ok (tu l) else .no
  | _ => .no
theorem dp_al {K : PySem.W.Frag} {F : Hp} : ∀ {ds : List PyData} {vs : List V}, DpAll K F vs ds → ds.all SeqAt.shaped = true → Al K F vs ds
  | [], vs, h, _ => by cases h; exact .nil
  | d :: ds, vs, h, s => by
    cases h with
    | cons h1 h2 =>
      simp only [List.all_cons, Bool.and_eq_true] at s
      exact .cons ⟨h1, s.1⟩ (dp_al h2 s.2)
section
variable {X : Cx} {c : C0} {γ α β ρ : Type} {G : EnvT γ} [Rp α] [Rp β] [Rp ρ] {a b d e : Expr} {pos p p2 : Pos}
theorem fe_dat [ToD α] {fa : γ → Xc α} (ha : FE X c G e fa) : FE X c G e (fun g => (fa g).bind datX) :=
  fe_from (fun {K F v a b} h r => by
    unfold datX at h
    by_cases z : SeqAt.shaped (ToD.d a) = true
    · rw [if_pos z] at h; cases h; exact ⟨ToD.is r, z⟩
    · rw [if_neg z] at h; cases h) (fun a c fs h => by
    unfold datX at h
    by_cases z : SeqAt.shaped (ToD.d a) = true
    · rw [if_pos z] at h; cases h
    · rw [if_neg z] at h; cases h) ha
theorem fe_asI {fa : γ → Xc PyData} (ha : FE X c G e fa) : FE X c G e (fun g => (fa g).bind asI) :=
  fe_from (fun {K F v a b} h r => by
    unfold asI at h
    split at h
    · cases h; obtain ⟨r, _⟩ := r; cases r; exact rfl
    · cases h) (fun a c fs h => by
    unfold asI at h
    split at h <;> cases h) ha
theorem fe_asT {fa : γ → Xc PyData} (ha : FE X c G e fa) : FE X c G e (fun g => (fa g).bind asT) :=
  fe_from (fun {K F v a b} h r => by
    unfold asT at h
    split at h
    · rename_i l
      by_cases z : l.length ≤ sizeLine ∧ l.all SeqAt.shaped = true
      · rw [if_pos z] at h
        cases h
        obtain ⟨r, _⟩ := r
        cases r with
        | tup hq hr => exact ⟨_, _, rfl, hq, z.1, dp_al hr z.2⟩
      · rw [if_neg z] at h; cases h
    · cases h) (fun a c fs h => by
    unfold asT at h
    split at h
    · split at h <;> cases h
    · cases h) ha
/-! == of data -/
@[irreducible] def eqdX {α β : Type} [Rp α] [Rp β] [ToD α] [ToD β] (a : α) (b : β) : Xc Bool := if SeqAt.shaped (ToD.d a) = true ∧ SeqAt.shaped (ToD.d b) = true then .ok (PyData.eqv (ToD.d a) (ToD.d b)) else .no
theorem dp_on {K : PySem.W.Frag} {F H : Hp} {v : V} {d : PyData} (s : Same F H) (h : Dp K F v d) : Dp K H v d := dp_mono s h
theorem fe_eqd [ToD α] [ToD β] {fa : γ → Xc α} {fb : γ → Xc β} {k : Nat} (hr : Room k X.A) (ha : FE X c G a fa) (hb : FE X c G b fb) : FE X c G (.Compare a [.Eq] [b] pos) (fun g => (fa g).bind fun i => (fb g).bind fun j => eqdX i j) :=
  two (fun h1 h2 => pe_cmpR (op_eqD hr.units) h1 h2 (nomark _)) ha hb fun {F H x y i j Q E} s r1 r2 p => by
    unfold eqdX at p
    by_cases z : SeqAt.shaped (ToD.d i) = true ∧ SeqAt.shaped (ToD.d j) = true
    · rw [if_pos z] at p; exact ⟨_, _, dp_mono s (ToD.is r1), dp_mono s (ToD.is r2), z.1, z.2, p.ret s rfl⟩
    · rw [if_neg z] at p; exact p.elim
theorem fe_ned [ToD α] [ToD β] {fa : γ → Xc α} {fb : γ → Xc β} {k : Nat} (hr : Room k X.A) (ha : FE X c G a fa) (hb : FE X c G b fb) : FE X c G (.Compare a [.NotEq] [b] pos) (fun g => (fa g).bind fun i => (fb g).bind fun j => (eqdX i j).bind fun t => Xc.ok (!t)) :=
  two (fun h1 h2 => pe_cmpR (op_neD hr.units) h1 h2 (nomark _)) ha hb fun {F H x y i j Q E} s r1 r2 p => by
    unfold eqdX at p
    by_cases z : SeqAt.shaped (ToD.d i) = true ∧ SeqAt.shaped (ToD.d j) = true
    · rw [if_pos z] at p; exact ⟨_, _, dp_mono s (ToD.is r1), dp_mono s (ToD.is r2), z.1, z.2, p.ret s rfl⟩
    · rw [if_neg z] at p; exact p.elim
theorem ft_eqd [ToD α] [ToD β] {fa : γ → Xc α} {fb : γ → Xc β} {k : Nat} (hr : Room k X.A) (ha : FE X c G a fa) (hb : FE X c G b fb) : FT X c G (.Compare a [.Eq] [b] pos) (fun g => (fa g).bind fun i => (fb g).bind fun j => eqdX i j) :=
  twoT (fun h1 h2 => pt_cmpR (op_eqD hr.units) h1 h2 (nomark _)) ha hb fun {F H x y i j Q E} s r1 r2 p => by
    unfold eqdX at p
    by_cases z : SeqAt.shaped (ToD.d i) = true ∧ SeqAt.shaped (ToD.d j) = true
    · rw [if_pos z] at p; exact ⟨_, _, dp_mono s (ToD.is r1), dp_mono s (ToD.is r2), z.1, z.2, _, rfl, p.ret s⟩
    · rw [if_neg z] at p; exact p.elim
theorem ft_ned [ToD α] [ToD β] {fa : γ → Xc α} {fb : γ → Xc β} {k : Nat} (hr : Room k X.A) (ha : FE X c G a fa) (hb : FE X c G b fb) : FT X c G (.Compare a [.NotEq] [b] pos) (fun g => (fa g).bind fun i => (fb g).bind fun j => (eqdX i j).bind fun t => Xc.ok (!t)) :=
  twoT (fun h1 h2 => pt_cmpR (op_neD hr.units) h1 h2 (nomark _)) ha hb fun {F H x y i j Q E} s r1 r2 p => by
    unfold eqdX at p
    by_cases z : SeqAt.shaped (ToD.d i) = true ∧ SeqAt.shaped (ToD.d j) = true
    · rw [if_pos z] at p; exact ⟨_, _, dp_mono s (ToD.is r1), dp_mono s (ToD.is r2), z.1, z.2, _, rfl, p.ret s⟩
    · rw [if_neg z] at p; exact p.elim
/-! lengths, places -/
instance {α β : Type} [Rp α] [Rp β] : HasLen (α × β) := ⟨fun _ => 2, fun {K F H v a} s h => by obtain ⟨q, x, y, e, hq, _⟩ := h; subst e; exact .inr ⟨_, Same.seqT s hq, rfl⟩⟩
instance {α β γ : Type} [Rp α] [Rp β] [Rp γ] : HasLen (T3 α β γ) := ⟨fun _ => 3, fun {K F H v a} s h => by obtain ⟨q, x, y, z, e, hq, _⟩ := h; subst e; exact .inr ⟨_, Same.seqT s hq, rfl⟩⟩
theorem fe_ixP {fa : γ → Xc (α × α)} {fi : γ → Xc Int} (ha : FE X c G a fa) (hb : FE X c G b fi) (hs : PlainIx b := by exact fun _ _ => rfl) : FE X c G (.Subscript a b pos) (fun g => (fa g).bind fun t => (fi g).bind fun i => getX [t.1, t.2] i) :=
  two (fun h1 h2 => pe_ix ix_tup h1 h2 hs) ha hb fun {F H v u t i Q E} s r1 r2 h => by
    obtain ⟨q, x, y, e, hq, ra, rb⟩ := r1
    have r2 : u = .int i := r2
    subst r2
    unfold getX at h
    cases e2 : atI [t.1, t.2] i with
    | none => rw [e2] at h; exact h.elim
    | some z =>
      rw [e2] at h
      obtain ⟨w', hw, rw'⟩ := atI_al (.cons ra (.cons rb .nil)) e2
      exact ⟨q, _, i, w', e, rfl, Same.seqT s hq, hw, h.ret s rw'⟩
/-! list(..), text times int -/
theorem fo_list {fa : γ → Xc (List α)} (ha : FE X c G a fa) (hm : X.mg "list" = none) (hg : Gl X "list" := by rfl) (hs : starEach [a] X.env = (false, eval a X.env) :: starEach [] X.env := by rfl) :
    FO X c G (.Call (.Name "list" p) [a] [] pos) (fun g => (fa g).bind fun l => Xc.ok l) :=
  PE.imp (pe_callTy call_list_of hg hm (by decide +kernel) (pa_cons ha pa_nil hs) (he := hs)) fun σ H Q ⟨F, g, w, q, h⟩ => by
    refine ⟨F, g, w, q, ?_⟩
    cases e1 : fa g with
    | ok l =>
      simp only [e1] at h
      rintro v F1 H1 w1 ⟨b, xs, rfl, hx, hz, r⟩
      exact ⟨b, xs, rfl, .inl (Same.seq w1.s hx), fun l' hl => h l' xs F1 _ (w1.trans (Wd.newO w1.s hl)) (w1.h.free hl) (w1.s.free hl) upd_same hz r⟩
    | er c' fs => simp only [e1] at h; exact h
    | no => simp only [e1] at h; exact h
theorem fo_listT {fa : γ → Xc (Tu α)} (ha : FE X c G a fa) (hm : X.mg "list" = none) (hg : Gl X "list" := by rfl) (hs : starEach [a] X.env = (false, eval a X.env) :: starEach [] X.env := by rfl) :
    FO X c G (.Call (.Name "list" p) [a] [] pos) (fun g => (fa g).bind fun l => Xc.ok l.l) :=
  PE.imp (pe_callTy call_list_of hg hm (by decide +kernel) (pa_cons ha pa_nil hs) (he := hs)) fun σ H Q ⟨F, g, w, q, h⟩ => by
    refine ⟨F, g, w, q, ?_⟩
    cases e1 : fa g with
    | ok l =>
      simp only [e1] at h
      rintro v F1 H1 w1 ⟨b, xs, rfl, hx, hz, r⟩
      exact ⟨b, xs, rfl, .inr (Same.seqT w1.s hx), fun l' hl => h l' xs F1 _ (w1.trans (Wd.newO w1.s hl)) (w1.h.free hl) (w1.s.free hl) upd_same hz r⟩
    | er c' fs => simp only [e1] at h; exact h
    | no => simp only [e1] at h; exact h
instance (x : Str) (n : Int) : Decidable (MulOk x n) := by unfold MulOk; infer_instance
@[irreducible] def mulS (x : Str) (n : Int) : Xc Str := if MulOk x n ∧ (Txt.mul x n).length ≤ sizeLine then .ok (Txt.mul x n) else .no
theorem op_mulS : OpR X (binaryOp .Mult) (fun x y H Q => ∃ z n, x = .str z ∧ y = .int n ∧ MulOk z n ∧ Q (.str (Txt.mul z n)) H) := by
  intro pins s σ H x y v u Q I rx ry h
  obtain ⟨i, j, rfl, rfl, hz, q⟩ := h
  obtain ⟨t, rfl⟩ := rx
  obtain ⟨t', rfl⟩ := ry
  exact PySem.SB.mul hz fun t' k => ⟨.str _, H, I.tok _, ⟨_, rfl⟩, q⟩
theorem fe_mulS {fa : γ → Xc Str} {fb : γ → Xc Int} (ha : FE X c G a fa) (hb : FE X c G b fb) : FE X c G (.BinOp a .Mult b pos) (fun g => (fa g).bind fun i => (fb g).bind fun j => mulS i j) :=
  two (fun h1 h2 => pe_op op_mulS h1 h2) ha hb fun {F H x y i j Q E} s r1 r2 p => by
    unfold mulS at p
    by_cases h : MulOk i j ∧ (Txt.mul i j).length ≤ sizeLine
    · rw [if_pos h] at p; exact ⟨_, _, r1.1, r2, h.1, p.ret s ⟨rfl, h.2⟩⟩
    · rw [if_neg h] at p; exact p.elim
/-! a <= b <= c -/
theorem fe_chainLe {f1 f2 f3 : γ → Xc Int} (ha : FE X c G a f1) (hb : FE X c G b f2) (hd : FE X c G d f3) (hm : lastMarks [.LtE, .LtE] [b, d] = false := by with_unfolding_all rfl) :
    FE X c G (.Compare a [.LtE, .LtE] [b, d] pos) (fun g => (f1 g).bind fun i => (f2 g).bind fun j => if i ≤ j then (f3 g).bind fun k => Xc.ok (decide (j ≤ k)) else Xc.ok false) :=
  PE.imp (pe_chain op_le op_le ha hb hd hm) fun σ H Q ⟨F, g, w, q, p⟩ => by
    refine ⟨F, g, w, q, ?_⟩
    cases e1 : f1 g with
    | ok i =>
      intro v F1 H1 w1 r1
      simp only [e1] at p
      have p : Po X.K F H Q (WE c.W σ) ((f2 g).bind fun j => if i ≤ j then (f3 g).bind fun k => Xc.ok (decide (j ≤ k)) else Xc.ok false) := p
      refine ⟨F1, g, w.trans w1, G.mono q w1, ?_⟩
      cases e2 : f2 g with
      | ok j =>
        intro u F2 H2 w2 r2
        simp only [e2] at p
        have p : Po X.K F H Q (WE c.W σ) (if i ≤ j then (f3 g).bind fun k => Xc.ok (decide (j ≤ k)) else Xc.ok false) := p
        refine ⟨i, j, r1, r2, decide (i ≤ j), rfl, ?_⟩
        by_cases hij : i ≤ j
        · rw [if_pos hij] at p
          rw [if_pos (decide_eq_true hij)]
          refine ⟨F2, g, (w.trans w1).trans w2, G.mono (G.mono q w1) w2, ?_⟩
          cases e3 : f3 g with
          | ok k =>
            intro z F3 H3 w3 r3
            simp only [e3] at p
            exact ⟨j, k, r2, r3, (Po.on p ((w1.trans w2).trans w3)).ret w3.s rfl⟩
          | er c' fs => simp only [e3] at p; exact ErP.on (show ErP X.K F H (WE c.W σ) c' fs from p) (w1.trans w2)
          | no => simp only [e3] at p; exact p
        · rw [if_neg hij] at p
          rw [if_neg (by simpa using hij)]
          exact (Po.on p (w1.trans w2)).ret w2.s rfl
      | er c' fs => simp only [e2] at p; exact ErP.on (show ErP X.K F H (WE c.W σ) c' fs from p) w1
      | no => simp only [e2] at p; exact p
    | er c' fs => simp only [e1] at p; exact p
    | no => simp only [e1] at p; exact p
theorem ft_chainLe {f1 f2 f3 : γ → Xc Int} (ha : FE X c G a f1) (hb : FE X c G b f2) (hd : FE X c G d f3) (hm : lastMarks [.LtE, .LtE] [b, d] = false := by with_unfolding_all rfl) :
    FT X c G (.Compare a [.LtE, .LtE] [b, d] pos) (fun g => (f1 g).bind fun i => (f2 g).bind fun j => if i ≤ j then (f3 g).bind fun k => Xc.ok (decide (j ≤ k)) else Xc.ok false) :=
  PT.imp (pt_chain op_le op_le ha hb hd hm) fun σ H Q ⟨F, g, w, q, p⟩ => by
    refine ⟨F, g, w, q, ?_⟩
    cases e1 : f1 g with
    | ok i =>
      intro v F1 H1 w1 r1
      simp only [e1] at p
      have p : PoB X.K F H Q (WE c.W σ) ((f2 g).bind fun j => if i ≤ j then (f3 g).bind fun k => Xc.ok (decide (j ≤ k)) else Xc.ok false) := p
      refine ⟨F1, g, w.trans w1, G.mono q w1, ?_⟩
      cases e2 : f2 g with
      | ok j =>
        intro u F2 H2 w2 r2
        simp only [e2] at p
        have p : PoB X.K F H Q (WE c.W σ) (if i ≤ j then (f3 g).bind fun k => Xc.ok (decide (j ≤ k)) else Xc.ok false) := p
        refine ⟨i, j, r1, r2, decide (i ≤ j), rfl, ?_⟩
        by_cases hij : i ≤ j
        · rw [if_pos hij] at p
          rw [if_pos (decide_eq_true hij)]
          refine ⟨F2, g, (w.trans w1).trans w2, G.mono (G.mono q w1) w2, ?_⟩
          cases e3 : f3 g with
          | ok k =>
            intro z F3 H3 w3 r3
            simp only [e3] at p
            exact ⟨j, k, r2, r3, _, rfl, (PoB.on p ((w1.trans w2).trans w3)).ret w3.s⟩
          | er c' fs => simp only [e3] at p; exact ErP.on (show ErP X.K F H (WE c.W σ) c' fs from p) (w1.trans w2)
          | no => simp only [e3] at p; exact p
        · rw [if_neg hij] at p
          rw [if_neg (by simpa using hij)]
          exact ⟨_, rfl, (PoB.on p (w1.trans w2)).ret w2.s⟩
      | er c' fs => simp only [e2] at p; exact ErP.on (show ErP X.K F H (WE c.W σ) c' fs from p) w1
      | no => simp only [e2] at p; exact p
    | er c' fs => simp only [e1] at p; exact p
    | no => simp only [e1] at p; exact p
end
/-! ### the signs of a text -/
section
variable {X : Cx} {c : C0} {γ α β ρ : Type} {G : EnvT γ} [Rp α] [Rp β] [Rp ρ] {a b d e tg : Expr} {pos p : Pos}
theorem fi_str {f : γ → Xc Str} (h : FE X c G e f) : FI X c G tg e (fun g => (f g).bind fun z => Xc.ok (signs z)) :=
  PI.imp (pi_str h) fun σ H R ⟨F, g, w, q, p⟩ => by
    refine ⟨F, g, w, q, ?_⟩
    cases e1 : f g with
    | ok z =>
      rintro v F1 H1 w1 ⟨rfl, hz⟩
      simp only [e1] at p
      have len : (signs z).length = z.cps.size := by simp [signs]
      refine ⟨z, rfl, p (Its z) F1 H1 w1 ⟨by rw [len]; exact hz, fun F' H' s1 s2 => by rw [len]; exact Nat.le_refl _, fun i F' H' hi s1 s2 => by rw [len] at hi; exact hi, fun i a F' H' x H'' e2 s1 s2 y => ?_⟩⟩
      obtain ⟨rfl, c, hc, rfl⟩ := y
      have : a = (⟨#[c]⟩ : Str) := by
        unfold signs at e2
        rw [List.getElem?_map] at e2
        rw [show z.cps.toList[i]? = some c by simpa using hc] at e2
        exact (Option.some.inj e2).symm
      subst this
      exact ⟨F', Wd.refl s2, rfl, one_le_line⟩
    | er c' fs => simp only [e1] at p; exact p
    | no => simp only [e1] at p; exact p
end
/-! ### returns of a list of one's own; dead code; lending for good -/
section
variable {X : Cx} {τ ρ β γ γ' γ1 γ2 δ α : Type} {c : C2 τ ρ β} {G : EnvT γ} {G' : EnvT γ'} {G1 : EnvT γ1} {G2 : EnvT γ2} {a b e : Expr} {st : Stmt} {sts : List Stmt} {pos p p2 : Pos} {x : Str}
theorem fs_retVG (i : Nat) {r : Rp α} {π : γ → List α} {put : γ → List α → γ} [A : AtO G i α r π put] {c : C2 τ (List α) β} {rt : List α → τ} (hO : c.O.ret = rt) (hR : c.R = rtO α) (hN : X.N[i]? = some x)
    (hv : Vis X.env.scope x) (hd : (x == ("__debug__" : Str)) = false) (hcd : (x == ("__classdict__" : Str)) = false) : FS X c G (.Return (some (.Name x p)) pos) G' (fun g _ => Xc.ok (rt (π g))) :=
  PS.imp (ps_ret (pe_var hN hv hd hcd)) fun D σ H ⟨F, g, k, w, q, d, n⟩ => by
    obtain ⟨p, xs, e1, m, hp, z, al⟩ := A.get q
    obtain ⟨h0, hf, _⟩ := G.al q m
    subst hO
    exact ⟨.ref p, e1, c.O.hret d _ F H (Ws.refl w) (by rw [hR]; exact ⟨p, xs, rfl, h0, hf, hp, z, al⟩)⟩
theorem fs_retV (i : Nat) {r : Rp α} {π : γ → List α} {put : γ → List α → γ} [A : AtO G i α r π put] {c : C2 (List α) (List α) Unit} (hO : c.O.ret = id := by rfl) (hR : c.R = rtO α := by rfl) (hN : X.N[i]? = some x := by rfl)
    (hv : Vis X.env.scope x := by first | exact Or.inl rfl | exact Or.inr (Or.inl rfl) | exact Or.inr (Or.inr rfl)) (hd : (x == ("__debug__" : Str)) = false := by decide) (hcd : (x == ("__classdict__" : Str)) = false := by decide) :
    FS X c G (.Return (some (.Name x p)) pos) G' (fun g _ => Xc.ok (π g)) := fs_retVG i hO hR hN hv hd hcd
theorem fss_dead : FSs X c G sts G' (fun _ _ => Xc.no) := ⟨fun pins s σ H D I ⟨F, g, k, w, q, d, n⟩ => d.elim⟩
theorem fss_lend {f : δ → (γ' → Xc τ) → Xc τ} {h : γ → δ} {Gl : EnvT δ} [B : Bor G Gl h] (hs : FSs X c Gl sts G' f) : FSs X c G sts G' (fun g k => f (h g) k) :=
  PSs.imp hs fun D σ H ⟨F, g, k, w, q, d, n⟩ => by
    obtain ⟨F1, w1, q1, _, s1⟩ := lend (B := B) w q
    exact ⟨F1, h g, k, w1, q1, d.on s1 Ag.refl, fun g' σ' F' H' w2 a2 q2 d2 => n g' σ' F' H' ⟨s1.trans w2.f, w2.w⟩ a2 q2 d2⟩
end
end FL

/-! FL13: try .. except; isinstance of what was caught; targets of three. -/
namespace FL
open PySem L2
/-! ### slots of which nothing is known any more -/
def setAll (σ : St) (f : Nat → Option V) : List Nat → St
  | [] => σ
  | v :: vs => (setAll σ f vs).set v (f v)
class Fgt {γ : Type} (G : EnvT γ) (vs : List Nat) {δ : outParam Type} (G' : outParam (EnvT δ)) (h : outParam (γ → δ)) : Prop where
  fg : ∀ {K H0 F H σ g} (f : Nat → Option V), G.rel K H0 F H σ g → G'.rel K H0 F H (setAll σ f vs) (h g)
instance {γ : Type} (G : EnvT γ) : Fgt G [] G (fun g => g) := ⟨fun _ h => h⟩
instance {γ δ ε : Type} (G : EnvT γ) (G1 : EnvT δ) (G2 : EnvT ε) (i : Nat) (vs : List Nat) (h1 : γ → δ) (h2 : δ → ε) [W : Fgt G vs G1 h1] [W1 : Wi1 G1 i G2 h2] : Fgt G (i :: vs) G2 (fun g => h2 (h1 g)) := ⟨fun f q => W1.wi (f i) (W.fg f q)⟩
theorem setAll_len {σ : St} {f : Nat → Option V} : ∀ {vs : List Nat}, (setAll σ f vs).length = σ.length
  | [] => rfl
  | v :: vs => by show ((setAll σ f vs).set v (f v)).length = _; rw [List.length_set, setAll_len]
theorem setAll_get {σ : St} {f : Nat → Option V} {j : Nat} : ∀ {vs : List Nat}, j < σ.length → (setAll σ f vs)[j]? = if j ∈ vs then some (f j) else σ[j]?
  | [], _ => by simp [setAll]
  | v :: vs, h => by
    show ((setAll σ f vs).set v (f v))[j]? = _
    by_cases e : v = j
    · subst e
      rw [List.getElem?_set_self (by rw [setAll_len]; exact h)]
      simp
    · rw [List.getElem?_set_ne e, setAll_get h]
      by_cases m : j ∈ vs
      · rw [if_pos m, if_pos (List.mem_cons_of_mem _ m)]
      · rw [if_neg m, if_neg (by simp only [List.mem_cons, not_or]; exact ⟨fun z => e z.symm, m⟩)]
def mOf (vs : List Nat) : Nat → Bool := fun i => decide (i ∈ vs)
theorem ag_setAll {vs : List Nat} {σ σ' : St} (a : Ag (mOf vs) σ σ') : σ' = setAll σ (fun j => σ'[j]?.join) vs := by
  apply List.ext_getElem?
  intro j
  by_cases hj : j < σ.length
  · rw [setAll_get hj]
    by_cases m : j ∈ vs
    · rw [if_pos m]
      have h' : j < σ'.length := by rw [a.len]; exact hj
      rw [List.getElem?_eq_getElem h']
      rfl
    · rw [if_neg m]
      exact a.at_ j (by unfold mOf; simp [m])
  · rw [List.getElem?_eq_none (by rw [a.len]; omega), List.getElem?_eq_none (by rw [setAll_len]; omega)]
/-- a slot with just this value -/
def xv (v : V) {γ : Type} (G : EnvT γ) : EnvT γ where
  rel := fun K H0 F H σ g => ∃ σ', σ = some v :: σ' ∧ G.rel K H0 F H σ' g
  own := fun σ => G.own σ.tail
  mono := fun ⟨σ', e, h⟩ w => ⟨σ', e, G.mono h w⟩
  mu := fun ⟨σ', e, h⟩ n => ⟨σ', e, G.mu h (by subst e; exact n)⟩
  al := fun ⟨σ', e, h⟩ n => G.al h (by subst e; exact n)
class PutX {γ : Type} (G : EnvT γ) (i : Nat) (v : V) {δ : outParam Type} (G' : outParam (EnvT δ)) (h : outParam (γ → δ)) : Prop where
  put : ∀ {K H0 F H σ g}, G.rel K H0 F H σ g → G'.rel K H0 F H (σ.set i (some v)) (h g)
  own : ∀ {K H0 F H σ g p}, G.rel K H0 F H σ g → p ∈ G'.own (σ.set i (some v)) → p ∈ G.own σ
section
variable {α β γ δ : Type} [Rp α] [Rp β] (G : EnvT γ) (G' : EnvT δ) (h : γ → δ) (i : Nat) (v : V)
instance : PutX (un G) 0 v (xv v G) (fun g => g) := ⟨fun ⟨u, σ', e, q⟩ => ⟨σ', by subst e; rfl, q⟩, fun ⟨u, σ', e, q⟩ m => by subst e; exact m⟩
instance : PutX (va α G) 0 v (xv v G) (fun g => g.2) := ⟨fun ⟨u, σ', e, _, q⟩ => ⟨σ', by subst e; rfl, q⟩, fun ⟨u, σ', e, _, q⟩ m => by subst e; exact m⟩
instance [W : PutX G i v G' h] : PutX (va α G) (i + 1) v (va α G') (fun g => (g.1, h g.2)) := ⟨fun ⟨u, σ', e, r, q⟩ => ⟨u, σ'.set i _, by subst e; rfl, r, W.put q⟩, fun ⟨u, σ', e, r, q⟩ m => by subst e; exact W.own q m⟩
instance [W : PutX G i v G' h] : PutX (un G) (i + 1) v (un G') (fun g => h g) := ⟨fun ⟨u, σ', e, q⟩ => ⟨u, σ'.set i _, by subst e; rfl, W.put q⟩, fun ⟨u, σ', e, q⟩ m => by subst e; exact W.own q m⟩
instance [W : PutX G i v G' h] : PutX (ow α G) (i + 1) v (ow α G') (fun g => (g.1, h g.2)) := ⟨fun ⟨p, σ', xs, e, h0, f, hh, z, r, n, q⟩ => ⟨p, σ'.set i _, xs, by subst e; rfl, h0, f, hh, z, r, fun m => n (W.own q m), W.put q⟩, fun ⟨p, σ', xs, e, _, _, _, _, _, _, q⟩ m => by
  subst e
  rcases List.mem_append.mp m with m | m
  · exact List.mem_append_left _ m
  · exact List.mem_append_right _ (W.own q m)⟩
end
class AtX {γ : Type} (G : EnvT γ) (i : Nat) (v : outParam V) : Prop where
  get : ∀ {K H0 F H σ g}, G.rel K H0 F H σ g → σ[i]? = some (some v)
section
variable {α γ : Type} [Rp α] (G : EnvT γ) (i : Nat) (v u : V)
instance : AtX (xv v G) 0 v := ⟨fun ⟨σ', e, q⟩ => by subst e; rfl⟩
instance [A : AtX G i v] : AtX (va α G) (i + 1) v := ⟨fun ⟨_, σ', e, _, q⟩ => by subst e; exact A.get q⟩
instance [A : AtX G i v] : AtX (un G) (i + 1) v := ⟨fun ⟨_, σ', e, q⟩ => by subst e; exact A.get q⟩
instance [A : AtX G i v] : AtX (xv u G) (i + 1) v := ⟨fun ⟨σ', e, q⟩ => by subst e; exact A.get q⟩
instance [A : AtX G i v] : AtX (ow α G) (i + 1) v := ⟨fun ⟨p, σ', xs, e, _, _, _, _, _, _, q⟩ => by subst e; exact A.get q⟩
end
instance {α γ : Type} [r : Rp α] (G : EnvT γ) (i : Nat) (π : γ → α) (v : V) [a : At G i α r π] : At (xv v G) (i + 1) α r (fun g => π g) := ⟨fun ⟨σ', e, q⟩ => by
  obtain ⟨u, e2, q2⟩ := a.get q
  exact ⟨u, by subst e; exact e2, q2⟩⟩
instance subXvUn {γ γ' : Type} (G : EnvT γ) (G' : EnvT γ') (h : γ → γ') (v : V) [S : Sub G G' h] : Sub (xv v G) (un G') (fun g => h g) := ⟨fun ⟨σ', e, q⟩ => ⟨_, σ', e, S.sub q⟩, fun ⟨σ', e, q⟩ m => by subst e; exact S.own q m⟩
/-! ### try .. except x as n -/
def outT {τ ρ β : Type} (γb : Type) (O : Out τ ρ β) (g0 : Option γb) : Out (Sum γb τ) ρ β := ⟨fun t P B C => match t with
  | .inl g => some g = g0
  | .inr t => O.sem t P B C, fun {t P P' B B' C C'} h1 h2 h3 p => by cases t with
  | inl g => exact p
  | inr t => exact O.mono h1 h2 h3 p, fun r => .inr (O.ret r), fun {r P B C} p => O.hret p⟩
def cT {τ ρ β : Type} {γb : Type} (c : C2 τ ρ β) (M : Nat → Bool) (W : WX) (g0 : Option γb) : C2 (Sum γb τ) ρ β := { F0 := c.F0, H0 := c.H0, W := W, M := M, O := outT γb c.O g0, R := c.R, GB := c.GB }
def joinM {γb τ : Type} (m : Xc (Sum γb τ)) (k : γb → Xc τ) : Xc τ := m.bind fun t => match t with
  | .inl g => k g
  | .inr t => .ok t
def catM {τ : Type} (catch_ : Str → Option Bool) (m : Xc τ) (h : Str → Xc τ) : Xc τ := match m with
  | .ok t => .ok t
  | .er cc fs => (match catch_ cc with
    | some true => if fs.isEmpty = true then h cc else .no
    | some false => .er cc fs
    | none => .no)
  | .no => .no
/-- an environment without lists of one's own: it leans on the frozen heap alone -/
class Frz {γ : Type} (G : EnvT γ) : Prop where
  fz : ∀ {K H0 F H F' H' σ g}, G.rel K H0 F H σ g → Same F F' → G.rel K H0 F' H' σ g
instance : Frz nl := ⟨fun h _ => h⟩
instance {α γ : Type} [Rp α] (G : EnvT γ) [Z : Frz G] : Frz (va α G) := ⟨fun ⟨v, σ', e, r, q⟩ s => ⟨v, σ', e, Rp.mono s r, Z.fz q s⟩⟩
instance {γ : Type} (G : EnvT γ) [Z : Frz G] : Frz (un G) := ⟨fun ⟨v, σ', e, q⟩ s => ⟨v, σ', e, Z.fz q s⟩⟩
section
variable {X : Cx} {τ ρ β γ γ' γf γh : Type} {c : C2 τ ρ β} {G : EnvT γ} {G' : EnvT γ'} {Gf : EnvT γf} {x n : Str} {i : Nat} {body suite : List Stmt} {b₀ : Stmt} {np pos pos' : Pos} {vs : List Nat} {cv : Value}
theorem fs_tryAs {Gh : Addr → EnvT γh} {catch_ : Str → Option Bool} {hf : γ → γf} {hp : γf → γh} [FG : Fgt G vs Gf hf] [FZ : Frz Gf] [PX : ∀ a, PutX Gf i (.ref a) (Gh a) hp] {fb : γ → (γ' → Xc (Sum γ' τ)) → Xc (Sum γ' τ)} {fh : Str → γh → (γ' → Xc (Sum γ' τ)) → Xc (Sum γ' τ)}
    [WJ : Wi1 G' i G' fun g => g] [WB : Wi1 c.GB i c.GB fun g => g] (tk : Takes X c.W) (hc : Names X x cv) (hx : ∀ cc b, catch_ cc = some b → PySem.W.exmOne X.K (.ref (He.ga X.K cc)) cv = some b) (hN : X.N.Nodup)
    (hb : ∀ W pn xe g0, Takes (X.tr pn xe) W → PassesOwn (model X.prog X.w) X.A X.env xe → FSs (X.tr pn xe) (cT c (mOf vs) W g0) G body G' fb)
    (hh : ∀ a oe cc pn g0, catch_ cc = some true → Zc (.ref (He.ga X.K cc)) none oe → (∃ vs, oe.data = .fields vs) → FSs (X.suite a ((a, oe) :: pn)) (cT c c.M c.W g0) (Gh a) (b₀ :: suite) G' (fh cc))
    (hi : X.N[i]? = some n := by rfl) (hln : X.env.kindOf n = some .local := by rfl) (hvM : ∀ j ∈ vs, c.M j = true := by intro _ _; rfl) (hiM : c.M i = true := by rfl) (hs : X.stack = X.env :: X.outer := by rfl) (hfr : X.env.frame = some X.env.locals := by rfl) :
    FS X c G (.Try body [.ExceptHandler (some (.Name x np)) (some n) (b₀ :: suite) pos'] [] [] pos) G' (fun g k => joinM (catM catch_ (fb g fun g' => Xc.ok (.inl g')) fun cc => fh cc (hp (hf g)) fun g' => Xc.ok (.inl g')) k) :=
  PS.imp (ps_try_as (tb := fun W D σ H => ∃ g0, tS X.K (cT c (mOf vs) W g0) G G' fb D σ H) (ts := fun a cls d D σ H => ∃ cc g0, cls = .ref (He.ga X.K cc) ∧ d = none ∧ catch_ cc = some true ∧ tS X.K (cT c c.M c.W g0) (Gh a) G' (fh cc) D σ H) hs hfr hN hi hln hc tk
    (fun W pn xe tk' po => ⟨fun pins s σ H D I ⟨g0, q⟩ => (hb W pn xe g0 tk' po).run pins s σ H D I q⟩)
    (fun a oe cls d pn hz hv => ⟨fun pins s σ H D I ⟨cc, g0, e1, e2, e3, q⟩ => by subst e1 e2; exact (hh a oe cc pn g0 e3 hz hv).run pins s σ H D I q⟩)) fun D σ H ⟨F, g, k, w, q, d, nn⟩ => by
    have agM : ∀ {σ σ' : St}, Ag (mOf vs) σ σ' → Ag c.M σ σ' := fun a => a.imp fun j hj => hvM j (by simpa [mOf] using hj)
    cases e1 : fb g fun g' => Xc.ok (.inl g') with
    | no => simp only [e1, joinM, catM] at d; exact d.elim
    | ok t =>
      cases t with
      | inl g1 =>
        simp only [e1, joinM, catM, bind_ok] at d
        refine ⟨some g1, F, g, fun g' => Xc.ok (.inl g'), w, q, by rw [e1]; exact (rfl : some g1 = some g1), fun g' σ' F' H' w' a' q' d' => ?_⟩
        have d' : some g' = some g1 := d'
        cases d'
        exact nn g1 σ' F' H' ⟨w'.f, w'.w⟩ (agM a') q' (d.on w'.f (agM a'))
      | inr t =>
        simp only [e1, joinM, catM, bind_ok] at d
        refine ⟨none, F, g, fun g' => Xc.ok (.inl g'), w, q, ?_, fun g' σ' F' H' w' a' q' d' => ?_⟩
        · rw [e1]
          have d : c.O.sem t _ _ _ := d
          refine c.O.mono (fun r p v F' H' w' rr => p v F' H' ⟨w'.f, w'.w⟩ rr) (fun b p σ' F' H' w' a' => p σ' F' H' ⟨w'.f, w'.w⟩ (agM a')) (fun b p σ' F' H' w' a' => p σ' F' H' ⟨w'.f, w'.w⟩ (agM a')) d
        · have d' : some g' = none := d'
          cases d'
    | er cc fs =>
      simp only [e1, catM] at d
      refine ⟨none, F, g, fun g' => Xc.ok (.inl g'), w, q, ?_, fun g' σ' F' H' w' a' q' d' => ?_⟩
      · rw [e1]
        intro σ' F' H' w' a'
        cases e2 : catch_ cc with
        | none => simp only [e2] at d; exact d.elim
        | some b =>
          cases b with
          | false =>
            simp only [e2] at d
            have d : Done X.K c D F σ (.er cc fs) := d
            have d := d σ' F' H' ⟨w'.f, w'.w⟩ (agM a')
            cases fs with
            | nil => exact fun F2 H2 w2 => ⟨false, hx cc _ e2, (fun z => absurd z Bool.false_ne_true), fun _ => d F2 H2 w2⟩
            | cons f fs => exact fun F2 H2 d2 w2 hd => ⟨false, hx cc _ e2, (fun z => absurd z Bool.false_ne_true), fun _ => d F2 H2 d2 w2 hd⟩
          | true =>
            simp only [e2] at d
            cases fs with
            | cons f fs => simp [joinM, bind_no] at d; exact d.elim
            | nil =>
              simp only [List.isEmpty_nil, if_true] at d
              refine fun F2 H2 w2 => ⟨true, hx cc _ e2, fun _ a ha => ?_, fun z => absurd z.symm Bool.false_ne_true⟩
              have q1 : Gf.rel X.K c.H0 F2 H2 σ' (hf g) := by
                rw [ag_setAll a']
                exact FZ.fz (FG.fg _ q) (w'.f.trans w2.f)
              have q2 := (PX a).put q1
              have sF : Same F F2 := w'.f.trans w2.f
              have wd : Wd c.F0 c.H0 F2 H2 := w'.w.trans w2
              have ag2 : ∀ σ3, Ag c.M (σ'.set i (some (.ref a))) σ3 → Ag c.M σ (σ3.set i none) := fun σ3 a3 => (((agM a').trans (Ag.set hiM)).trans a3).trans (Ag.set hiM)
              have ag3 : ∀ σ3, Ag c.M (σ'.set i (some (.ref a))) σ3 → Ag c.M σ σ3 := fun σ3 a3 => ((agM a').trans (Ag.set hiM)).trans a3
              cases e3 : fh cc (hp (hf g)) fun g' => Xc.ok (.inl g') with
              | no => simp only [e3, joinM, bind_no] at d; exact d.elim
              | er cc2 fs2 =>
                simp only [e3, joinM, bind_er] at d
                refine ⟨cc, none, rfl, rfl, e2, F2, hp (hf g), fun g' => Xc.ok (.inl g'), wd, q2, ?_, fun g' σ3 F3 H3 w3 a3 q3 d3 => ?_⟩
                · rw [e3]
                  exact fun σ3 F3 H3 w3 a3 => d σ3 F3 H3 ⟨sF.trans w3.f, w3.w⟩ (ag3 σ3 a3)
                · have d3 : some g' = none := d3
                  cases d3
              | ok t =>
                cases t with
                | inl g1 =>
                  simp only [e3, joinM, bind_ok] at d
                  refine ⟨cc, some g1, rfl, rfl, e2, F2, hp (hf g), fun g' => Xc.ok (.inl g'), wd, q2, by rw [e3]; exact (rfl : some g1 = some g1), fun g' σ3 F3 H3 w3 a3 q3 d3 => ?_⟩
                  have d3 : some g' = some g1 := d3
                  cases d3
                  exact nn g1 (σ3.set i none) F3 H3 ⟨sF.trans w3.f, w3.w⟩ (ag2 σ3 a3) (WJ.wi none q3) (d.on (sF.trans w3.f) (ag2 σ3 a3))
                | inr t =>
                  simp only [e3, joinM, bind_ok] at d
                  refine ⟨cc, none, rfl, rfl, e2, F2, hp (hf g), fun g' => Xc.ok (.inl g'), wd, q2, ?_, fun g' σ3 F3 H3 w3 a3 q3 d3 => ?_⟩
                  · rw [e3]
                    have d : c.O.sem t _ _ _ := d
                    refine c.O.mono (fun r p v F3 H3 w3 rr => p v F3 H3 ⟨sF.trans w3.f, w3.w⟩ rr) (fun b p σ3 F3 H3 w3 a3 r3 => p (σ3.set i none) F3 H3 ⟨sF.trans w3.f, w3.w⟩ (ag2 σ3 a3) (WB.wi none r3)) (fun b p σ3 F3 H3 w3 a3 r3 => p (σ3.set i none) F3 H3 ⟨sF.trans w3.f, w3.w⟩ (ag2 σ3 a3) (WB.wi none r3)) d
                  · have d3 : some g' = none := d3
                    cases d3
      · have d' : some g' = none := d'
        cases d'
/-- a return within a try or its suite -/
theorem fs_retT {c : C2 (Sum γ' ρ) ρ Unit} {γ2 : Type} {G2 : EnvT γ2} [Rp ρ] {e : Expr} {fa : γ → Xc ρ} (ha : FE X c.toC0 G e fa) (hO : c.O.ret = Sum.inr := by rfl) (hR : c.R = rtF ρ := by rfl) : FS X c G (.Return (some e) pos) G2 (fun g _ => (fa g).bind fun v => Xc.ok (Sum.inr v)) := fs_retG hO hR ha
end
/-! ### isinstance of the exception that a suite holds -/
section
variable {X : Cx} {c : C0} {γ : Type} {G : EnvT γ} {a D : Addr} {oe : Obj} {pn : List (Addr × Obj)} {n x : Str} {pos p p1 p2 : Pos}
theorem fe_isE (i : Nat) (b : Bool) {cv : Value} [A : AtX G i (.ref a)] (C : ExcC X.K D) (hz : Zc (.ref D) none oe) (hf : ∃ vs, oe.data = .fields vs) (hk : PySem.W.kitOne X.K (.ref D) cv = some b) {u : V} (hu : ∀ z, RelV u z → z = cv)
    (ht : PE (X.suite a ((a, oe) :: pn)) (.Name x p2) (fun σ H Q => Q u H))
    (hm : X.mg "isinstance" = none) (hN : X.N[i]? = some n := by rfl) (hv : Vis X.env.scope n := by first | exact Or.inl rfl | exact Or.inr (Or.inl rfl) | exact Or.inr (Or.inr rfl)) (hd : (n == ("__debug__" : Str)) = false := by decide) (hcd : (n == ("__classdict__" : Str)) = false := by decide)
    (hg : Gl X "isinstance" := by rfl)
    (hs : starEach [.Name n p1, .Name x p2] X.env = (false, eval (.Name n p1) X.env) :: starEach [.Name x p2] X.env := by rfl) (hs2 : starEach [.Name x p2] X.env = (false, eval (.Name x p2) X.env) :: starEach [] X.env := by rfl)
    (hpl : (backTo pos (starEach [.Name x p2] X.env)).any (·.1) = false := by rfl) : FE (X.suite a ((a, oe) :: pn)) c G (.Call (.Name "isinstance" p) [.Name n p1, .Name x p2] [] pos) (fun _ => Xc.ok b) :=
  PE.imp (pe_callB (call_isE (X := X) C hz hf) hg hm PyProof.Rows.boot_isinstance (pa_cons (pe_var hN hv hd hcd) (pa_cons ht pa_nil hs2) hs) (he := hs) (hpl := hpl)) fun σ H Q ⟨F, g, w, q, h⟩ =>
    ⟨.ref a, A.get q, u, cv, b, rfl, hu, hk, h.ret w.s rfl⟩
theorem pe_clsR {X : Cx} {x : Str} {p : Pos} (hm : X.mg x = some (.ref (He.ga X.K x))) (hg : Gl X x := by rfl) (hd : (x == ("__debug__" : Str)) = false := by decide) : PE X (.Name x p) (fun σ H Q => Q (.ref (He.ga X.K x)) H) :=
  PE.imp (pe_glob (v := .ref (He.ga X.K x)) hg hm rfl hd) fun σ H Q h => h
theorem pe_clsT {X : Cx} {x : Str} {U : String} {p : Pos} (hm : X.mg x = none) (hv : bootBuiltins x = some (.type U) := by decide +kernel) (hg : Gl X x := by rfl) (hn : x ≠ "__name__" := by decide) (hd : (x == ("__debug__" : Str)) = false := by decide) : PE X (.Name x p) (fun σ H Q => Q (.ty U) H) :=
  PE.imp (pe_bltn (v := .ty U) hg hm hv rfl hn hd) fun σ H Q h => h
end
end FL

/-! FL14: targets of several names. -/
namespace FL
open PySem L2
section
variable {X : Cx} {c : C1} {γ γ' γ1 γ2 α β δ : Type} {G : EnvT γ} {G' : EnvT γ'} {G1 : EnvT γ1} {G2 : EnvT γ2} [Rp α] [Rp β] [Rp δ] {pos p p1 p2 p3 : Pos} {x y z : Str} {tg e : Expr} {vs : List Nat}
theorem fn_asg {ψ : γ → α → γ'} {fa : γ → Xc α} (ha : FE X c.toC0 G e fa) (hg : FG X c.M G tg G' vs ψ) (hs : swapsWithSole [tg] e pos.line X.env = pure false := by rfl) (hw : swappedStores [tg] e X.env = pure none := by rfl)
    (h1 : (assignEach [tg] X.env).map (·.2) = [assign tg X.env] := by rfl) : FN X c G (.Assign [tg] e pos) G' (fun g => (fa g).bind fun v => Xc.ok (ψ g v)) := by
  obtain ⟨t, pg, ht⟩ := hg
  exact PS.imp (ps_asg ha pg hs hw h1) fun D σ H ⟨F, g, w, q, h⟩ => by
    refine ⟨F, g, w, q, ?_⟩
    cases e1 : fa g with
    | ok v =>
      intro u F1 H1 w1 r1
      simp only [e1] at h
      exact ht c.H0 F1 H1 σ g u v _ w1.s (G.mono q w1) r1 fun σ' ag _ q' => h σ' F1 H1 (Ws.of w w1) ag q'
    | er c' fs => simp only [e1] at h; exact PoN.er h w
    | no => simp only [e1] at h; exact h
end
section
variable {X : Cx} {γ γ' γ1 γ2 α β δ : Type} {G : EnvT γ} {G' : EnvT γ'} {G1 : EnvT γ1} {G2 : EnvT γ2} [Rp α] [Rp β] [Rp δ] {pos p p1 p2 p3 : Pos} {x y z : Str} {tg e : Expr} {vs : List Nat} {M : Nat → Bool} {kk : Nat}
theorem fg_two (i j : Nat) {ψ1 : γ → α → γ1} {ψ2 : γ1 → β → γ'} [P1 : Put G i α G1 ψ1] [P2 : Put G1 j β G' ψ2] (hM : M i = true ∧ M j = true) (hN : X.N.Nodup) (hc : X.calm = true := by rfl)
    (hi : X.N[i]? = some x := by rfl) (hx : Loc X.env.scope x := by first | exact Or.inl rfl | exact Or.inr rfl) (hj : X.N[j]? = some y := by rfl) (hy : Loc X.env.scope y := by first | exact Or.inl rfl | exact Or.inr rfl)
    (hf : X.fn x = true ∨ X.env.scope.names.lookup x = some .local := by first | exact .inl rfl | exact .inr rfl) (hf2 : X.fn y = true ∨ X.env.scope.names.lookup y = some .local := by first | exact .inl rfl | exact .inr rfl) :
    FG X M G (.Tuple [.Name x p1, .Name y p2] kk p) G' [i, j] (fun g (a : α × β) => ψ2 (ψ1 g a.1) a.2) :=
  fg_pair i j hM hc hN hi hx hj hy hf hf2 (pg_tup hc (pgs_cons (pg_name hN hi hx hf) (pgs_cons (pg_name hN hj hy hf2) pgs_nil)))
theorem fg_three (i j k : Nat) {ψ1 : γ → α → γ1} {ψ2 : γ1 → β → γ2} {ψ3 : γ2 → δ → γ'} [P1 : Put G i α G1 ψ1] [P2 : Put G1 j β G2 ψ2] [P3 : Put G2 k δ G' ψ3] (hM : M i = true ∧ M j = true ∧ M k = true) (hN : X.N.Nodup) (hne : i ≠ j ∧ j ≠ k ∧ i ≠ k) (hc : X.calm = true := by rfl)
    (hi : X.N[i]? = some x := by rfl) (hx : Loc X.env.scope x := by first | exact Or.inl rfl | exact Or.inr rfl) (hj : X.N[j]? = some y := by rfl) (hy : Loc X.env.scope y := by first | exact Or.inl rfl | exact Or.inr rfl) (hk : X.N[k]? = some z := by rfl) (hz : Loc X.env.scope z := by first | exact Or.inl rfl | exact Or.inr rfl)
    (hf : X.fn x = true ∨ X.env.scope.names.lookup x = some .local := by first | exact .inl rfl | exact .inr rfl) (hf2 : X.fn y = true ∨ X.env.scope.names.lookup y = some .local := by first | exact .inl rfl | exact .inr rfl) (hf3 : X.fn z = true ∨ X.env.scope.names.lookup z = some .local := by first | exact .inl rfl | exact .inr rfl) :
    FG X M G (.Tuple [.Name x p1, .Name y p2, .Name z p3] kk p) G' [i, j, k] (fun g (a : T3 α β δ) => ψ3 (ψ2 (ψ1 g a.a) a.b) a.c) :=
  ⟨_, pg_tup (n := 3) hc (pgs_cons (pg_name hN hi hx hf) (pgs_cons (pg_name hN hj hy hf2) (pgs_cons (pg_name hN hk hz hf3) pgs_nil))), fun H0 F H σ g v a Q s q r kk => by
    obtain ⟨b, u1, u2, u3, rfl, h, r1, r2, r3⟩ := r
    refine ⟨b, [u1, u2, u3], rfl, Same.seqT s h, rfl, u1, [u2, u3], rfl, u2, [u3], rfl, u3, [], rfl, rfl, ?_⟩
    refine kk _ (((Ag.set hM.1).trans (Ag.set hM.2.1)).trans (Ag.set hM.2.2)) ?_ (P3.put (P2.put (P1.put q r1) r2) r3)
    show (((((σ.set i (some u1)).set j (some u2)).set k (some u3)).set k none).set j none).set i none = ((σ.set k none).set j none).set i none
    rw [List.set_set, List.set_comm _ _ (show k ≠ j from fun z => hne.2.1 z.symm), List.set_set, List.set_comm _ _ (show k ≠ i from fun z => hne.2.2 z.symm), List.set_comm _ _ (show j ≠ i from fun z => hne.1 z.symm), List.set_set, List.set_comm _ _ (show i ≠ j from hne.1), List.set_comm _ _ (show i ≠ k from hne.2.2), List.set_comm _ _ (show j ≠ k from hne.2.1)]⟩
end
end FL

/-! FL15: rules in the shapes that the printer of derivations uses. -/
namespace FL
open PySem L2
theorem takesF {X : Cx} : Takes X (fun _ _ _ _ => False) := fun u s' ⟨a, B, sI, pins, σ, H, cls, d, e, I, nb, up, sky, na, os, ag, w⟩ => w.elim
section
variable {X : Cx} {c : C1} {γ γ' γ1 γ2 α β : Type} {G : EnvT γ} {G' : EnvT γ'} {G1 : EnvT γ1} {G2 : EnvT γ2} {st : Stmt} {sts : List Stmt}
theorem fns_B {fa : γ → Xc α} {ψ : γ → α → γ1} {m2 : γ1 → Xc γ2} (h1 : FN X c G st G1 (fun g => (fa g).bind fun v => Xc.ok (ψ g v))) (h2 : FNs X c G1 sts G2 m2) : FNs X c G (st :: sts) G2 (fun g => (fa g).bind fun v => m2 (ψ g v)) :=
  FNs.cast (fns_cons h1 h2) fun g => by cases fa g <;> rfl
theorem fns_B2 {fa : γ → Xc α} {fb : γ → α → Xc β} {ψ : γ → α → β → γ1} {m2 : γ1 → Xc γ2} (h1 : FN X c G st G1 (fun g => (fa g).bind fun v => (fb g v).bind fun u => Xc.ok (ψ g v u))) (h2 : FNs X c G1 sts G2 m2) : FNs X c G (st :: sts) G2 (fun g => (fa g).bind fun v => (fb g v).bind fun u => m2 (ψ g v u)) :=
  FNs.cast (fns_cons h1 h2) fun g => by
    show (fa g).bind _ = ((fa g).bind _).bind _
    cases fa g with
    | ok v => show (fb g v).bind _ = ((fb g v).bind _).bind _; cases fb g v <;> rfl
    | er _ _ => rfl
    | no => rfl
theorem fns_B3 {δ : Type} {fa : γ → Xc α} {fb : γ → α → Xc β} {fd : γ → α → β → Xc δ} {ψ : γ → α → β → δ → γ1} {m2 : γ1 → Xc γ2} (h1 : FN X c G st G1 (fun g => (fa g).bind fun v => (fb g v).bind fun u => (fd g v u).bind fun z => Xc.ok (ψ g v u z))) (h2 : FNs X c G1 sts G2 m2) : FNs X c G (st :: sts) G2 (fun g => (fa g).bind fun v => (fb g v).bind fun u => (fd g v u).bind fun z => m2 (ψ g v u z)) :=
  FNs.cast (fns_cons h1 h2) fun g => by
    show (fa g).bind _ = ((fa g).bind _).bind _
    cases fa g with
    | ok v =>
      show (fb g v).bind _ = ((fb g v).bind _).bind _
      cases fb g v with
      | ok u => show (fd g v u).bind _ = ((fd g v u).bind _).bind _; cases fd g v u <;> rfl
      | er _ _ => rfl
      | no => rfl
    | er _ _ => rfl
    | no => rfl
end
section
variable {X : Cx} {τ ρ β γ γ' γ1 γ2 α δ ε γb : Type} {c : C2 τ ρ β} {G : EnvT γ} {G' : EnvT γ'} {G1 : EnvT γ1} {G2 : EnvT γ2} {Gb : EnvT γb} {st : Stmt} {sts : List Stmt} {tg iter : Expr} {body : List Stmt} {pos : Pos} {vs : List Nat} [Rp α]
theorem fs_B {α : Type} {fa : γ → Xc α} {ψ : γ → α → γ1} (h1 : FN X c.toC1 G st G1 (fun g => (fa g).bind fun v => Xc.ok (ψ g v))) : FS X c G st G1 (fun g k => (fa g).bind fun v => k (ψ g v)) :=
  FS.cast (fs_n h1) fun g k => by cases fa g <;> rfl
theorem fs_B2 {α : Type} {fa : γ → Xc α} {fb : γ → α → Xc δ} {ψ : γ → α → δ → γ1} (h1 : FN X c.toC1 G st G1 (fun g => (fa g).bind fun v => (fb g v).bind fun u => Xc.ok (ψ g v u))) : FS X c G st G1 (fun g k => (fa g).bind fun v => (fb g v).bind fun u => k (ψ g v u)) :=
  FS.cast (fs_n h1) fun g k => by
    show (fa g).bind _ = ((fa g).bind _).bind _
    cases fa g with
    | ok v => show (fb g v).bind _ = ((fb g v).bind _).bind _; cases fb g v <;> rfl
    | er _ _ => rfl
    | no => rfl
theorem fs_B3 {α : Type} {fa : γ → Xc α} {fb : γ → α → Xc δ} {fd : γ → α → δ → Xc ε} {ψ : γ → α → δ → ε → γ1} (h1 : FN X c.toC1 G st G1 (fun g => (fa g).bind fun v => (fb g v).bind fun u => (fd g v u).bind fun z => Xc.ok (ψ g v u z))) : FS X c G st G1 (fun g k => (fa g).bind fun v => (fb g v).bind fun u => (fd g v u).bind fun z => k (ψ g v u z)) :=
  FS.cast (fs_n h1) fun g k => by
    show (fa g).bind _ = ((fa g).bind _).bind _
    cases fa g with
    | ok v =>
      show (fb g v).bind _ = ((fb g v).bind _).bind _
      cases fb g v with
      | ok u => show (fd g v u).bind _ = ((fd g v u).bind _).bind _; cases fd g v u <;> rfl
      | er _ _ => rfl
      | no => rfl
    | er _ _ => rfl
    | no => rfl
/-- behind a loop -/
def forK {γ ρ τ : Type} (m : Xc (Sum γ ρ)) (rt : ρ → τ) (k : γ → Xc τ) : Xc τ := m.bind fun t => match t with
  | .inl g' => k g'
  | .inr r => Xc.ok (rt r)
theorem fs_forK {rt : ρ → τ} {ψ : γ → α → γb} {fl : γ → Xc (List α)} {fb : γb → (γ → Xc (Lp γ ρ)) → Xc (Lp γ ρ)} (po : PassesOwn (model X.prog X.w) X.A X.env X.xe) (hi : FI X c.toC0 G tg iter fl) (hg : FG X c.M G tg Gb vs ψ) (hb : FSs X (cL c G) Gb body G fb)
    (hO : ∀ r P B C, P r → c.O.sem (rt r) P B C := by intro _ _ _ _ h; exact h) (hR' : ∀ r P B C, c.O.sem (rt r) P B C → P r := by intro _ _ _ _ h; exact h) (hc : X.calm = true := by rfl) (hs : ∀ x, foldedSetIterable iter X.env x = pure x := by intro _; rfl) :
    FS X c G (.For tg iter body [] pos) G (fun g k => (fl g).bind fun l => forK (forX (fun g a => fb (ψ g a) fun g' => Xc.ok (Lp.ct g')) l g) rt k) :=
  FS.cast (fs_for po hi hg hb hO hR' hc hs) fun g k => by
    cases fl g with
    | ok l => show forK _ _ _ = Xc.bind (forX _ _ _) _; unfold forK; congr 1
    | er _ _ => rfl
    | no => rfl
end
section
variable {X : Cx} {γ γb γw α β : Type} {G : EnvT γ} {Gw : EnvT γw} {Gb : EnvT γb} [Rp α] [Rp β] {tg iter elt : Expr} {ifs : List Expr} {pos : Pos} {vs : List Nat} {scope : Scope} {own : List (Str × Nat)}
theorem fn_setLcF {c : C1} {γ' : Type} {G' : EnvT γ'} (k : Nat) {y : Str} {py spos : Pos} {ψ' : γ → List β → γ'} [P : Put G k (List β) G' ψ'] {ψ : γw → α → γb} {h : γ → γw} {fl : γ → Xc (List α)} {ft : γb → Xc Bool} {f : γb → Xc β} [W : Wip G vs Gw h] (hvs : own.map (·.2) = vs) (hM : c.M k = true) (ok : BlkOk X.N X.env.scope scope own) (hN : X.N.Nodup) (hi : FI X c.toC0 G tg iter fl) (hg : FGB X scope Gw tg Gb vs ψ)
    (ht : FTs X scope (cB c.toC0) Gb ifs ft) (he : ∀ (s : Shared) (H : Hp) (C : Addr) (cl : List (Str × Addr)) (fp : List Addr), FE (X.blk s H scope (compEnvC scope cl C X.env) fp) (cB c.toC0) Gb elt f) (hy : X.N[k]? = some y := by rfl) (hyl : X.env.scope.names.lookup y = some .local := by rfl)
    (hsw : swapsWith (.ListComp elt [⟨tg, iter, ifs, 0⟩] scope pos) (some (.Name y py)) spos.line X.env = pure true := by exact sw_true rfl rfl rfl rfl) (hc : X.calm = true := by rfl) (hs : ∀ x, foldedSetIterable iter X.env x = pure x := by intro _; rfl) :
    FN X c G (.Assign [.Name y py] (.ListComp elt [⟨tg, iter, ifs, 0⟩] scope pos) spos) G' (fun g => ((fl g).bind fun l => compX (fun a => ft (ψ (h g) a)) (fun a => f (ψ (h g) a)) l).bind fun v => Xc.ok (ψ' g v)) := by
  subst hvs
  obtain ⟨t, pg, ht'⟩ := hg
  exact fn_setL k hM (fun σ H Q p => tO_lc (W := W) ht' p) (ps_setLc (te := tF X.K (cB c.toC0) Gb f) hc hN hy hyl hsw hi ok pg ht he hs)
end
/-! the end of a block -/
section
variable {X : Cx} {γ γ' : Type} {G : EnvT γ} {G' : EnvT γ'} {h : γ → γ'}
theorem fns_nilS {c : C1} [S : Sub G G' h] : FNs X c G [] G' (fun g => Xc.ok (h g)) := PSs.imp pss_nil fun D σ H ⟨F, g, w, q, p⟩ => p σ F H (Ws.refl w) Ag.refl (S.sub q)
theorem fss_nilS {τ ρ β : Type} {c : C2 τ ρ β} [S : Sub G G' h] : FSs X c G [] G' (fun g k => k (h g)) := PSs.imp pss_nil fun D σ H ⟨F, g, k, w, q, d, n⟩ => n (h g) σ F H (Ws.refl w) Ag.refl (S.sub q) d
end
/-! a def that comes to its end: None -/
section
variable {P : Program} {w : World} {K : PySem.W.Frag} {mg : Str → Option Value} {base : Heap} {αs ρ γ γ' : Type} [Rps αs] {G : EnvT γ} {G' : EnvT γ'} {h : αs → γ}
theorem fn_defU {x qual : Str} {params : Arguments} {body : List Stmt} {scope : Scope} {dvs : List V} {kws : List (Str × V)} {f : Addr} {fd : FuncData} {N ps : List Str} {k n pn : Nat} {m : αs → Xc Unit} {fm : γ → (γ' → Xc Unit) → Xc Unit}
    (Fd : FunD K x qual params body scope dvs kws f fd) (S : FnScope N ps scope) [RN : RpsN αs pn] (hpn : ps.length = pn) [ET : EntryT αs n G h] (hn : N.length = pn + n)
    (hb : ∀ (cdv : Value) (A : Around) (outer : List Env) (s : Shared) (F H : Hp) (E : XK), Room k (A.deeper (PyProof.Rows.envOfC qual scope s.heap.objs.size f cdv)) → 
      Takes (cxOf (L2.CX P w) P w K mg base N qual scope f cdv A outer s H E) (cD Unit (rtF Unit) F H E).W →
      FSs (cxOf (L2.CX P w) P w K mg base N qual scope f cdv A outer s H E) (cD Unit (rtF Unit) F H E) G body G' fm)
    (hm : ∀ as, m as = fm (h as) fun _ => .ok ()) : FnOk P w K mg base (L2.CX P w) (k + 1) f fd ps (spF K (rtF Unit) m) := by
  refine Fd.ok S (fun vs H Q E ⟨F, as, _, r, _⟩ => by rw [hpn]; exact RN.len r) fun cdv A outer s H vs Q E hr ⟨F, as, sm, r, p⟩ => ?_
  refine ⟨_, hb cdv A outer s F H E hr (takes_of rfl rfl rfl rfl), F, h as, fun _ => .ok (), Wd.refl sm, ?_, ?_, fun g' σ' F' H' w1 _ _ d => ?_⟩
  · unfold L2.start
    have e : N.length - vs.length = n := by rw [RN.len r, hn]; omega
    rw [e]
    exact ET.st r (Nat.le_refl _)
  · rw [hm as] at p
    revert p
    cases fm (h as) (fun _ => .ok ()) with
    | ok t => exact fun p v F' H' w1 rr => p v F' H' w1.w rr
    | er cc fs => exact fun p σ' F' H' w1 _ => ErP.on p w1.w
    | no => exact fun p => p
  · have d : ∀ v F2 H2, Ws (cD Unit (rtF Unit) F H E).toC0 F' F2 H2 → (rtF Unit).rr K H F2 H2 v () → Q v H2 := d
    exact d .non F' H' (Ws.refl w1.w) rfl
end
end FL

namespace FL
open PySem L2
instance {ρ : Type} {R : Rt ρ} {F H : Hp} {E : XK} {i : Nat} : Wi1 (cD ρ R F H E).GB i (cD ρ R F H E).GB (fun g => g) := (inferInstance : Wi1 nl i nl fun g => g)
theorem bind_ok' {α β : Type} (a : α) (k : α → Xc β) : Xc.bind (.ok a) k = k a := Eq.trans (Eq.refl _) (Eq.refl _)
def catch1 (x : Str) : Str → Option Bool := fun cc => if cc = x then some true else none
theorem catch1_eq {x cc : Str} (h : catch1 x cc = some true) : x = cc := by
  unfold catch1 at h
  by_cases e : cc = x
  · exact e.symm
  · rw [if_neg e] at h; cases h
theorem catch1_ok {K : PySem.W.Frag} {x : Str} {cv : Value} (h : PySem.W.exmOne K (.ref (He.ga K x)) cv = some true) : ∀ cc b, catch1 x cc = some b → PySem.W.exmOne K (.ref (He.ga K cc)) cv = some b := by
  intro cc b e
  unfold catch1 at e
  by_cases e2 : cc = x
  · rw [if_pos e2] at e; cases e; subst e2; exact h
  · rw [if_neg e2] at e; cases e
end FL

/-! FL17: the end of a law. -/
namespace FL
open PySem L2
theorem walk_w {l : PySem.W.OpenLaw} {n k : Nat} {q : Program} {loose : List Str} {XP : (Str → Option Value) → Heap → Prop} {YP : World → Heap → Prop} {d : DefRec} {x : Str} (hn : l.most = some n) (hn2 : n ≤ sizeLine) (hdf : d.params.defaults = []) (hr : Room k callerA)
    {m : List Int × Unit → Xc Bool} (hm : ∀ ns : List Int, ns.length ≤ n → m (ns, ()) = .ok true)
    (F : ∀ (w : World) (mg : Str → Option Value) (fa : Addr) (h : Heap), YP w h → h.Ns mainGlobals mg → mg d.name = some (.ref fa) → ∃ (K : PySem.W.Frag) (fd : FuncData), K.In h ∧ (∀ (s : Shared) (u : Value), BindsTo s fd ⟨[u], []⟩ [(x, u)]) ∧
      ∀ base : Heap, K.In base → base.Ns mainGlobals mg → FnOk l.prog w K mg base (L2.CX l.prog w) k fa fd [x] (spF K (rtF Bool) m)) :
    PySem.W.WalkO q loose XP YP l.row.toRowW d [] (fun f vs => PySem.call f vs) := by
  refine Att.attach_call hn hdf fun w s₀ s₁ mg mb fa o pm cd doc a vs ns G Y ho hd hcd hmg hobj hints hlen hg => ?_
  obtain ⟨K, fd, KX, hb, hF⟩ := F w mg fa _ Y G.T.g hmg
  refine law_call KX G.T.g G.T.b G.T.builtins G.T.nolimit hg hobj hints (Nat.le_trans hlen hn2) hr hF hb (fun H hO hS => ?_) fun H e s' ⟨a, B, H', cls, d, e1, _, _, _, _, _, _, z⟩ => z
  refine ⟨H, (ns, ()), Same.refl _, ⟨.ref a, [], rfl, ⟨a, ns.map V.int, rfl, hS, Nat.le_trans hlen hn2, ?_⟩, rfl⟩, ?_⟩
  · clear hints hlen hS
    induction ns with
    | nil => exact .nil
    | cons i ns ih => exact .cons rfl ih
  · rw [hm ns hlen]
    intro v F' H' w1 r
    have r : v = .bl true := r
    exact r
/-- a def by its name, from the head's facts -/
theorem dk_of {P : Program} {w : World} {K : PySem.W.Frag} {mg : Str → Option Value} {base : Heap} {x qual : Str} {params : Arguments} {body : List Stmt} {scope : Scope} {fd : FuncData} {ps : List Str} {k : Nat} {sp : Sp}
    (F : FunD K x qual params body scope [] [] (He.ga K x) fd) (g : mg x = some (.ref (He.ga K x))) (b : Binds K fd ps []) (h : FnOk P w K mg base (L2.CX P w) k (He.ga K x) fd ps sp) : Dk P w K mg base x ps k sp := ⟨⟨fd, h, b⟩, g, F.kp⟩
theorem mg_fact {K : PySem.W.Frag} {h : Heap} {mg : Str → Option Value} {x : Str} {v : Value} (X : K.In h) (G : h.Ns mainGlobals mg) (e : He.eqO (PySem.W.nsIn K mainGlobals x) (some (some v)) = true) : mg x = some v := PySem.W.mg_of X G (He.eqO_ok e)
def excCB (K : PySem.W.Frag) (D : Addr) : Bool := decide (PySem.W.findIn K (.ref D) "__getattribute__" = some (some (.builtin "BaseException.__getattribute__"))) && (decide (PySem.W.findIn K (.ref D) "__getattr__" = some none) && (decide (PySem.W.subIn K (.ref D) (.type "BaseException") = some true) && (PySem.W.hasDictIn K D &&
  (decide (PySem.W.findIn K (.ref D) "__class__" = some (some (.builtin "object.__class__"))) && (decide (PySem.W.specialIn K (.builtin "object.__class__") "__get__" = some (some (.builtin "getset_descriptor.__get__"))) && (decide (PySem.W.takesIn K (.builtin "object.__class__") = some true) && decide (PySem.W.mroIn K D (.type "object") = some true)))))))
theorem excCB_ok {K : PySem.W.Frag} {D : Addr} (h : excCB K D = true) : ExcC K D := by
  unfold excCB at h
  obtain ⟨h1, h⟩ := He.ba h
  obtain ⟨h2, h⟩ := He.ba h
  obtain ⟨h3, h⟩ := He.ba h
  obtain ⟨h4, h⟩ := He.ba h
  obtain ⟨h5, h⟩ := He.ba h
  obtain ⟨h6, h⟩ := He.ba h
  obtain ⟨h7, h8⟩ := He.ba h
  exact ⟨of_decide_eq_true h1, of_decide_eq_true h2, of_decide_eq_true h3, h4, of_decide_eq_true h5, of_decide_eq_true h6, of_decide_eq_true h7, of_decide_eq_true h8⟩
end FL

/-! FL18: lcm, tuple(..), zip, sums of lists and tuples, repeats. -/
namespace FL
open PySem L2
section
variable {X : Cx} {c : C0} {γ α β ρ : Type} {G : EnvT γ} [Rp α] [Rp β] [Rp ρ] {a b d e tg : Expr} {pos p p2 : Pos}
def rLcm : List V → Hp → VK → Prop := fun vs H Q => ∃ i j : Int, vs = [.int i, .int j] ∧ i.natAbs < 2 ^ 64 ∧ j.natAbs < 2 ^ 64 ∧ Q (.int ((Nat.lcm i.natAbs j.natAbs : Nat) : Int)) H
theorem cr_lcm : CallR X (.builtin "math.lcm") rLcm := by
  intro pins s σ H vs us Q I r h
  obtain ⟨i, j, rfl, h1, h2, q⟩ := h
  obtain ⟨t, u, rfl⟩ := Vals.int2 r
  exact PySem.W.mc_lcm h1 h2 fun _ => ⟨.int _, H, I.tok _, ⟨_, rfl⟩, q⟩
@[irreducible] def lcmX (i j : Int) : Xc Int := if i.natAbs < 2 ^ 64 ∧ j.natAbs < 2 ^ 64 then .ok ((Nat.lcm i.natAbs j.natAbs : Nat) : Int) else .no
theorem fe_lcm {fa fb : γ → Xc Int} (ha : FE X c G a fa) (hb : FE X c G b fb) (hm : X.mg "lcm" = some (.builtin "math.lcm")) (hg : Gl X "lcm" := by rfl) (hs : starEach [a, b] X.env = (false, eval a X.env) :: starEach [b] X.env := by rfl) (hs2 : starEach [b] X.env = (false, eval b X.env) :: starEach [] X.env := by rfl)
    (hpl : (backTo pos (starEach [b] X.env)).any (·.1) = false := by rfl) : FE X c G (.Call (.Name "lcm" p) [a, b] [] pos) (fun g => (fa g).bind fun i => (fb g).bind fun j => lcmX i j) :=
  call2 (fun h => pe_callBfun cr_lcm hg hm h (he := hs) (hpl := hpl)) ha hb hs hs2 fun {F H v u i j Q E} s r1 r2 p => by
    have r1 : v = .int i := r1
    have r2 : u = .int j := r2
    subst r1 r2
    unfold lcmX at p
    by_cases h : i.natAbs < 2 ^ 64 ∧ j.natAbs < 2 ^ 64
    · rw [if_pos h] at p; exact ⟨i, j, rfl, h.1, h.2, p.ret s rfl⟩
    · rw [if_neg h] at p; exact p.elim
/-! tuple(..) -/
theorem fe_tupL {fa : γ → Xc (List α)} (ha : FE X c G a fa) (hm : X.mg "tuple" = none) (hg : Gl X "tuple" := by rfl) (hs : starEach [a] X.env = (false, eval a X.env) :: starEach [] X.env := by rfl) :
    FE X c G (.Call (.Name "tuple" p) [a] [] pos) (fun g => (fa g).bind fun l => Xc.ok (tu l)) :=
  PE.imp (pe_callTy call_tuple_of hg hm (by decide +kernel) (pa_cons ha pa_nil hs) (he := hs)) fun σ H Q ⟨F, g, w, q, h⟩ => by
    refine ⟨F, g, w, q, ?_⟩
    cases e1 : fa g with
    | ok l =>
      simp only [e1] at h
      rintro v F1 H1 w1 ⟨b, xs, rfl, hx, hz, r⟩
      refine ⟨b, xs, rfl, .inl ⟨Same.seq w1.s hx, fun t ht => ?_⟩⟩
      have w2 := Wd.new (o := .tup xs) w1.s ht
      exact h (.ref t) _ _ (w1.trans w2) ⟨t, xs, rfl, SqT.of upd_same, hz, r.mono w2.f⟩
    | er c' fs => simp only [e1] at h; exact h
    | no => simp only [e1] at h; exact h
theorem fe_tupT {fa : γ → Xc (Tu α)} (ha : FE X c G a fa) (hm : X.mg "tuple" = none) (hg : Gl X "tuple" := by rfl) (hs : starEach [a] X.env = (false, eval a X.env) :: starEach [] X.env := by rfl) :
    FE X c G (.Call (.Name "tuple" p) [a] [] pos) (fun g => (fa g).bind fun l => Xc.ok l) :=
  PE.imp (pe_callTy call_tuple_of hg hm (by decide +kernel) (pa_cons ha pa_nil hs) (he := hs)) fun σ H Q ⟨F, g, w, q, h⟩ => by
    refine ⟨F, g, w, q, ?_⟩
    cases e1 : fa g with
    | ok l =>
      simp only [e1] at h
      rintro v F1 H1 w1 ⟨b, xs, rfl, hx, hz, r⟩
      exact ⟨b, xs, rfl, .inr ⟨Same.seqT w1.s hx, h (.ref b) F1 H1 w1 ⟨b, xs, rfl, hx, hz, r⟩⟩⟩
    | er c' fs => simp only [e1] at h; exact h
    | no => simp only [e1] at h; exact h
/-! zip -/
theorem zip_get {l : List α} {m : List β} {i : Nat} {t : α × β} (h : (l.zip m)[i]? = some t) : l[i]? = some t.1 ∧ m[i]? = some t.2 := by
  rw [List.getElem?_zip_eq_some] at h
  exact h
theorem fi_zipL {f1 : γ → Xc (List α)} {f2 : γ → Xc (List β)} {elts : List Expr} {kk : Nat} {tpos : Pos} (h1 : FE X c G a f1) (h2 : FE X c G b f2) (hm : X.mg "zip" = none) (hg : Gl X "zip" := by rfl) (hs : starEach [a, b] X.env = (false, eval a X.env) :: starEach [b] X.env := by rfl)
    (hs2 : starEach [b] X.env = (false, eval b X.env) :: starEach [] X.env := by rfl) (hpl : (backTo pos (starEach [b] X.env)).any (·.1) = false := by rfl) : FI X c G (.Tuple elts kk tpos) (.Call (.Name "zip" p) [a, b] [] pos) (fun g => (f1 g).bind fun l => (f2 g).bind fun m => Xc.ok (l.zip m)) :=
  PI.imp (RZ.pi_zipA hg hm (pa_cons h1 (pa_cons h2 pa_nil hs2) hs) hs hpl) fun σ H R ⟨F, g, w, q, p⟩ => by
    refine ⟨F, g, w, q, ?_⟩
    cases e1 : f1 g with
    | ok l =>
      rintro v F1 H1 w1 ⟨a1, xs, rfl, hx, hz, rx⟩
      simp only [e1] at p
      have p : PoI X.K F H R (WE c.W σ) ((f2 g).bind fun m => Xc.ok (l.zip m)) := p
      refine ⟨F1, g, w.trans w1, G.mono q w1, ?_⟩
      cases e2 : f2 g with
      | ok m =>
        rintro u F2 H2 w2 ⟨a2, ys, rfl, hy, hz2, ry⟩
        simp only [e2] at p
        have p : PoI X.K F H R (WE c.W σ) (.ok (l.zip m)) := p
        have hx2 : SqL X.K F2 a1 xs := Same.seq w2.f hx
        have rx2 := rx.mono w2.f
        have lz : (l.zip m).length = min l.length m.length := List.length_zip
        refine ⟨a1, a2, xs, ys, rfl, .inl ⟨Same.seq w2.s hx2, Same.seq w2.s hy, p _ F2 H2 (w1.trans w2) ⟨by rw [lz]; omega, fun F' H' s1 s2 => ⟨xs, ys, Same.seq (s1.trans s2) hx2, Same.seq (s1.trans s2) hy, ?_⟩, fun i F' H' hi s1 s2 => ?_, fun i t F' H' x H'' e3 s1 s2 y => ?_⟩⟩⟩
        · rw [lz, rx.len, ry.len]; omega
        · rw [lz] at hi
          obtain ⟨vx, h3, _⟩ := rx.get' (List.getElem?_eq_getElem (show i < l.length by omega))
          obtain ⟨vy, h4, _⟩ := ry.get' (List.getElem?_eq_getElem (show i < m.length by omega))
          exact ⟨xs, ys, vx, vy, Same.seq (s1.trans s2) hx2, Same.seq (s1.trans s2) hy, h3, h4⟩
        · obtain ⟨T, vx, vy, rfl, hT, rfl, y1, y2⟩ := y
          obtain ⟨g1, g2⟩ := zip_get e3
          obtain ⟨vx', h3, r3⟩ := rx2.get' g1
          obtain ⟨vy', h4, r4⟩ := ry.get' g2
          have k1 := y1 xs (Same.seq (s1.trans s2) hx2)
          have k2 := y2 ys (Same.seq (s1.trans s2) hy)
          rw [h3] at k1
          rw [h4] at k2
          cases k1
          cases k2
          have w3 := Wd.new (o := .tup [vx, vy]) s2 hT
          exact ⟨_, w3, T, vx, vy, rfl, SqT.of upd_same, Rp.mono (s1.trans w3.f) r3, Rp.mono (s1.trans w3.f) r4⟩
      | er c' fs => simp only [e2] at p; exact ErP.on (show ErP X.K F H (WE c.W σ) c' fs from p) w1
      | no => simp only [e2] at p; exact p
    | er c' fs => simp only [e1] at p; exact p
    | no => simp only [e1] at p; exact p
theorem fi_zipT {f1 : γ → Xc (Tu α)} {f2 : γ → Xc (Tu β)} {elts : List Expr} {kk : Nat} {tpos : Pos} (h1 : FE X c G a f1) (h2 : FE X c G b f2) (hm : X.mg "zip" = none) (hg : Gl X "zip" := by rfl) (hs : starEach [a, b] X.env = (false, eval a X.env) :: starEach [b] X.env := by rfl)
    (hs2 : starEach [b] X.env = (false, eval b X.env) :: starEach [] X.env := by rfl) (hpl : (backTo pos (starEach [b] X.env)).any (·.1) = false := by rfl) : FI X c G (.Tuple elts kk tpos) (.Call (.Name "zip" p) [a, b] [] pos) (fun g => (f1 g).bind fun l => (f2 g).bind fun m => Xc.ok (l.l.zip m.l)) :=
  PI.imp (RZ.pi_zipA hg hm (pa_cons h1 (pa_cons h2 pa_nil hs2) hs) hs hpl) fun σ H R ⟨F, g, w, q, p⟩ => by
    refine ⟨F, g, w, q, ?_⟩
    cases e1 : f1 g with
    | ok l =>
      rintro v F1 H1 w1 ⟨a1, xs, rfl, hx, hz, rx⟩
      simp only [e1] at p
      have p : PoI X.K F H R (WE c.W σ) ((f2 g).bind fun m => Xc.ok (l.l.zip m.l)) := p
      refine ⟨F1, g, w.trans w1, G.mono q w1, ?_⟩
      cases e2 : f2 g with
      | ok m =>
        rintro u F2 H2 w2 ⟨a2, ys, rfl, hy, hz2, ry⟩
        simp only [e2] at p
        have p : PoI X.K F H R (WE c.W σ) (.ok (l.l.zip m.l)) := p
        have hx2 : SqT X.K F2 a1 xs := Same.seqT w2.f hx
        have rx2 := rx.mono w2.f
        have lz : (l.l.zip m.l).length = min l.l.length m.l.length := List.length_zip
        refine ⟨a1, a2, xs, ys, rfl, .inr ⟨Same.seqT w2.s hx2, Same.seqT w2.s hy, p _ F2 H2 (w1.trans w2) ⟨by rw [lz]; omega, fun F' H' s1 s2 => ⟨xs, ys, Same.seqT (s1.trans s2) hx2, Same.seqT (s1.trans s2) hy, ?_⟩, fun i F' H' hi s1 s2 => ?_, fun i t F' H' x H'' e3 s1 s2 y => ?_⟩⟩⟩
        · rw [lz, rx.len, ry.len]; omega
        · rw [lz] at hi
          obtain ⟨vx, h3, _⟩ := rx.get' (List.getElem?_eq_getElem (show i < l.l.length by omega))
          obtain ⟨vy, h4, _⟩ := ry.get' (List.getElem?_eq_getElem (show i < m.l.length by omega))
          exact ⟨xs, ys, vx, vy, Same.seqT (s1.trans s2) hx2, Same.seqT (s1.trans s2) hy, h3, h4⟩
        · obtain ⟨T, vx, vy, rfl, hT, rfl, y1, y2⟩ := y
          obtain ⟨g1, g2⟩ := zip_get e3
          obtain ⟨vx', h3, r3⟩ := rx2.get' g1
          obtain ⟨vy', h4, r4⟩ := ry.get' g2
          have k1 := y1 xs (Same.seqT (s1.trans s2) hx2)
          have k2 := y2 ys (Same.seqT (s1.trans s2) hy)
          rw [h3] at k1
          rw [h4] at k2
          cases k1
          cases k2
          have w3 := Wd.new (o := .tup [vx, vy]) s2 hT
          exact ⟨_, w3, T, vx, vy, rfl, SqT.of upd_same, Rp.mono (s1.trans w3.f) r3, Rp.mono (s1.trans w3.f) r4⟩
      | er c' fs => simp only [e2] at p; exact ErP.on (show ErP X.K F H (WE c.W σ) c' fs from p) w1
      | no => simp only [e2] at p; exact p
    | er c' fs => simp only [e1] at p; exact p
    | no => simp only [e1] at p; exact p
/-! sums of tuples -/
@[irreducible] def catU {α : Type} (x y : Tu α) : Xc (Tu α) := if x.l.length + y.l.length ≤ sizeLine then .ok (tu (x.l ++ y.l)) else .no
theorem fe_catU {fa fb : γ → Xc (Tu α)} (ha : FE X c G a fa) (hb : FE X c G b fb) : FE X c G (.BinOp a .Add b pos) (fun g => (fa g).bind fun i => (fb g).bind fun j => catU i j) :=
  two (fun h1 h2 => pe_op op_catA h1 h2) ha hb fun {F H x y i j Q E} s r1 r2 p => by
    unfold catU at p
    by_cases h : i.l.length + j.l.length ≤ sizeLine
    · rw [if_pos h] at p
      obtain ⟨a1, xs, rfl, hx, hz, rx⟩ := r1
      obtain ⟨a2, ys, rfl, hy, hz2, ry⟩ := r2
      have lx := rx.len
      have ly := ry.len
      refine ⟨a1, a2, xs, ys, rfl, rfl, Same.seqT s hx, Same.seqT s hy, by omega, fun e => ?_, fun e1 e2 => ?_, fun e1 e2 t ht => ?_⟩
      · have : i.l = [] := by cases q : i.l with
          | nil => rfl
          | cons _ _ => rw [q, e] at lx; cases lx
        exact p.ret s ⟨a2, ys, rfl, hy, by show (i.l ++ j.l).length ≤ _; rw [this]; exact hz2, by show Al _ _ _ (i.l ++ j.l); rw [this]; exact ry⟩
      · have : j.l = [] := by cases q : j.l with
          | nil => rfl
          | cons _ _ => rw [q, e2] at ly; cases ly
        exact p.ret s ⟨a1, xs, rfl, hx, by show (i.l ++ j.l).length ≤ _; rw [this, List.append_nil]; exact hz, by show Al _ _ _ (i.l ++ j.l); rw [this, List.append_nil]; exact rx⟩
      · have w2 := Wd.new (o := .tup (xs ++ ys)) s ht
        exact p (.ref t) _ _ w2 ⟨t, _, rfl, SqT.of upd_same, by show (i.l ++ j.l).length ≤ _; rw [List.length_append]; exact h, (rx.app ry).mono w2.f⟩
    · rw [if_neg h] at p; exact p.elim
end
end FL

/-! FL19: sums and repeats of new lists, slices as new lists, targets of two names in a block. -/
namespace FL
open PySem L2
section
variable {X : Cx} {c : C0} {γ α β ρ : Type} {G : EnvT γ} [Rp α] [Rp β] [Rp ρ] {a b d e tg : Expr} {pos p p2 : Pos} {lo hi : Option Expr}
@[irreducible] def catL {α : Type} (x y : List α) : Xc (List α) := if x.length + y.length ≤ sizeLine then .ok (x ++ y) else .no
theorem fo_cat {fa fb : γ → Xc (List α)} (ha : FO X c G a fa) (hb : FO X c G b fb) : FO X c G (.BinOp a .Add b pos) (fun g => (fa g).bind fun i => (fb g).bind fun j => catL i j) :=
  PE.imp (pe_op op_cat ha hb) fun σ H Q ⟨F, g, w, q, h⟩ => by
    refine ⟨F, g, w, q, ?_⟩
    cases e1 : fa g with
    | ok l =>
      intro p1 xs F1 H1 w1 n1 f1 h1 z1 r1
      simp only [e1] at h
      have h : PoO X.K F H Q (WE c.W σ) ((fb g).bind fun j => catL l j) := h
      refine ⟨F1, g, w.trans w1, G.mono q w1, ?_⟩
      cases e2 : fb g with
      | ok m =>
        intro p2 ys F2 H2 w2 n2 f2 h2 z2 r2
        simp only [e2] at h
        have h : PoO X.K F H Q (WE c.W σ) (catL l m) := h
        unfold catL at h
        by_cases hz : l.length + m.length ≤ sizeLine
        · rw [if_pos hz] at h
          have lx := r1.len
          have ly := r2.len
          refine ⟨p1, p2, xs, ys, rfl, rfl, w2.h _ _ h1, h2, by omega, fun t ht => ?_⟩
          exact h t (xs ++ ys) F2 _ ((w1.trans w2).trans (Wd.newO w2.s ht)) ((w1.trans w2).h.free ht) (w2.s.free ht) upd_same (by rw [List.length_append]; exact hz) ((r1.mono w2.f).app r2)
        · rw [if_neg hz] at h; exact h.elim
      | er c' fs => simp only [e2] at h; exact ErP.on (show ErP X.K F H (WE c.W σ) c' fs from h) w1
      | no => simp only [e2] at h; exact h
    | er c' fs => simp only [e1] at h; exact h
    | no => simp only [e1] at h; exact h
def repL {α : Type} (l : List α) (k : Int) : List α := (List.replicate k.toNat l).flatten
@[irreducible] def repX {α : Type} (l : List α) (k : Int) : Xc (List α) := if -(2 ^ 63) ≤ k ∧ k < 2 ^ 63 ∧ l.length * k.toNat ≤ sizeLine then .ok (repL l k) else .no
theorem al_flat {K : PySem.W.Frag} {F : Hp} {xs : List V} {l : List α} (r : Al K F xs l) : ∀ n : Nat, Al K F (List.replicate n xs).flatten (List.replicate n l).flatten
  | 0 => .nil
  | n + 1 => by
    rw [List.replicate_succ, List.replicate_succ, List.flatten_cons, List.flatten_cons]
    exact r.app (al_flat r n)
theorem repL_len (l : List α) (k : Int) : (repL l k).length = l.length * k.toNat := by
  unfold repL
  rw [List.length_flatten, List.map_replicate, List.sum_replicate_nat, Nat.mul_comm]
theorem fo_rep {fa : γ → Xc (List α)} {fb : γ → Xc Int} (ha : FO X c G a fa) (hb : FE X c G b fb) : FO X c G (.BinOp a .Mult b pos) (fun g => (fa g).bind fun i => (fb g).bind fun j => repX i j) :=
  PE.imp (pe_op op_rep ha hb) fun σ H Q ⟨F, g, w, q, h⟩ => by
    refine ⟨F, g, w, q, ?_⟩
    cases e1 : fa g with
    | ok l =>
      intro p1 xs F1 H1 w1 n1 f1 h1 z1 r1
      simp only [e1] at h
      have h : PoO X.K F H Q (WE c.W σ) ((fb g).bind fun j => repX l j) := h
      refine ⟨F1, g, w.trans w1, G.mono q w1, ?_⟩
      cases e2 : fb g with
      | ok k =>
        intro u F2 H2 w2 r2
        simp only [e2] at h
        have h : PoO X.K F H Q (WE c.W σ) (repX l k) := h
        unfold repX at h
        by_cases hz : -(2 ^ 63) ≤ k ∧ k < 2 ^ 63 ∧ l.length * k.toNat ≤ sizeLine
        · rw [if_pos hz] at h
          refine ⟨p1, k, xs, rfl, r2, w2.h _ _ h1, hz.1, hz.2.1, by rw [r1.len]; exact hz.2.2, fun t ht => ?_⟩
          exact h t _ F2 _ ((w1.trans w2).trans (Wd.newO w2.s ht)) ((w1.trans w2).h.free ht) (w2.s.free ht) upd_same (by rw [repL_len]; exact hz.2.2) (al_flat (r1.mono w2.f) _)
        · rw [if_neg hz] at h; exact h.elim
      | er c' fs => simp only [e2] at h; exact ErP.on (show ErP X.K F H (WE c.W σ) c' fs from h) w1
      | no => simp only [e2] at h; exact h
    | er c' fs => simp only [e1] at h; exact h
    | no => simp only [e1] at h; exact h
/-- a slice of a list is new -/
theorem fo_slL {f : γ → Xc (List α)} {fl fh : γ → Xc (Option Int)} (ha : FE X c G a f) (hl : FP X c G lo fl) (hu : FP X c G hi fh) :
    FO X c G (.Subscript a (.Slice lo hi none p2) pos) (fun g => (f g).bind fun i => (fl g).bind fun l => (fh g).bind fun u => Xc.ok (cutL i l u)) :=
  PE.imp (pe_slice sl_list ha hl hu) fun σ H Q ⟨F, g, w, q, p⟩ => by
    refine ⟨F, g, w, q, ?_⟩
    cases e1 : f g with
    | ok i =>
      rintro v F1 H1 w1 ⟨b, xs, rfl, hx, hz, r⟩
      simp only [e1] at p
      have p : PoO X.K F H Q (WE c.W σ) ((fl g).bind fun l => (fh g).bind fun u => Xc.ok (cutL i l u)) := p
      refine ⟨F1, g, w.trans w1, G.mono q w1, ?_⟩
      cases e2 : fl g with
      | ok l =>
        intro F2 H2 w2
        simp only [e2] at p
        have p : PoO X.K F H Q (WE c.W σ) ((fh g).bind fun u => Xc.ok (cutL i l u)) := p
        refine ⟨F2, g, (w.trans w1).trans w2, G.mono (G.mono q w1) w2, ?_⟩
        cases e3 : fh g with
        | ok u =>
          intro F3 H3 w3
          simp only [e3] at p
          have p : PoO X.K F H Q (WE c.W σ) (.ok (cutL i l u)) := p
          have w4 := (w1.trans w2).trans w3
          refine ⟨b, xs, rfl, Same.seq (((w2.trans w3).f).trans w3.s) hx, fun k hk => ?_⟩
          exact p k _ F3 _ (w4.trans (Wd.newO w3.s hk)) (w4.h.free hk) (w3.s.free hk) upd_same (Nat.le_trans (cutL_len _ _ _) hz) (cutL_al ((r.mono w2.f).mono w3.f))
        | er c' fs => simp only [e3] at p; exact ErP.on (show ErP X.K F H (WE c.W σ) c' fs from p) (w1.trans w2)
        | no => simp only [e3] at p; exact p
      | er c' fs => simp only [e2] at p; exact ErP.on (show ErP X.K F H (WE c.W σ) c' fs from p) w1
      | no => simp only [e2] at p; exact p
    | er c' fs => simp only [e1] at p; exact p
    | no => simp only [e1] at p; exact p
end
section
variable {X : Cx} {γ γ1 γb α β : Type} {G : EnvT γ} {G1 : EnvT γ1} {Gb : EnvT γb} [Rp α] [Rp β] {scope : Scope} {kk : Nat} {p p1 p2 : Pos} {x y : Str}
theorem fgb_two (i j : Nat) {ψ1 : γ → α → γ1} {ψ2 : γ1 → β → γb} [P1 : Put G i α G1 ψ1] [P2 : Put G1 j β Gb ψ2] (hN : X.N.Nodup) (hc : X.calm = true := by rfl) (hi : X.N[i]? = some x := by rfl) (hj : X.N[j]? = some y := by rfl)
    (hxe : ∀ C cl, Loc (compEnvC scope cl C X.env).scope x := by intro _ _; first | exact Or.inl rfl | exact Or.inr rfl) (hye : ∀ C cl, Loc (compEnvC scope cl C X.env).scope y := by intro _ _; first | exact Or.inl rfl | exact Or.inr rfl)
    (hf : ∀ C cl, (scope.names.lookup x == some .cell) = true ∨ (compEnvC scope cl C X.env).scope.names.lookup x = some .local := by intro _ _; first | exact .inl rfl | exact .inr rfl)
    (hf2 : ∀ C cl, (scope.names.lookup y == some .cell) = true ∨ (compEnvC scope cl C X.env).scope.names.lookup y = some .local := by intro _ _; first | exact .inl rfl | exact .inr rfl) :
    FGB X scope G (.Tuple [.Name x p1, .Name y p2] kk p) Gb [i, j] (fun g (a : α × β) => ψ2 (ψ1 g a.1) a.2) :=
  ⟨gTup X.K 2 (gCons (gName i) (gCons (gName j) gNil)), fun s H C cl fp => pg_tup hc (pgs_cons (pg_name hN hi (hxe C cl) (hf C cl)) (pgs_cons (pg_name hN hj (hye C cl) (hf2 C cl)) pgs_nil)), fun H0 F H σ g v a Q s q r k => by
    obtain ⟨b, u, z, rfl, h, r1, r2⟩ := r
    refine ⟨b, [u, z], rfl, Same.seqT s h, rfl, u, [z], rfl, z, [], rfl, rfl, ?_⟩
    refine k _ ?_ (P2.put (P1.put q r1) r2)
    show ((((σ.set i (some u)).set j (some z)).set j none).set i none) = (σ.set j none).set i none
    rw [List.set_set]
    by_cases e : i = j
    · subst e; rw [List.set_set, List.set_set, List.set_set]
    · rw [List.set_comm _ _ (fun z => e z.symm), List.set_comm _ _ e, List.set_comm (some u) none e, List.set_set, List.set_comm _ _ (fun z => e z.symm)]⟩
end
end FL

/-! FL20: data as a tuple of ints; lending in straight code. -/
namespace FL
open PySem L2
def intsD : List PyData → Option (List Int)
  | [] => some []
  | .int i :: r => (intsD r).map (i :: ·)
  | _ :: _ => none
def asTI (d : PyData) : Xc (Tu Int) := match d with
  | .tuple l => if l.length ≤ sizeLine then (match intsD l with
    | some r => .ok (tu r)
    | none => .no) else .no
  | _ => .no
theorem intsD_al {K : PySem.W.Frag} {F : Hp} : ∀ {l : List PyData} {vs : List V} {r : List Int}, DpAll K F vs l → intsD l = some r → Al K F vs r
  | [], vs, r, h, e => by
    cases h
    have e : some [] = some r := e
    cases e
    exact .nil
  | d :: l, vs, r, h, e => by
    cases h with
    | cons h1 h2 =>
      cases h1 with
      | int i =>
        have e : (intsD l).map (i :: ·) = some r := e
        cases q : intsD l with
        | none => rw [q] at e; cases e
        | some r' =>
          rw [q] at e
          cases e
          exact .cons rfl (intsD_al h2 q)
      | _ => cases e
theorem intsD_len : ∀ {l : List PyData} {r : List Int}, intsD l = some r → r.length = l.length
  | [], r, e => by have e : some [] = some r := e; cases e; rfl
  | d :: l, r, e => by
    cases d with
    | int i =>
      have e : (intsD l).map (i :: ·) = some r := e
      cases q : intsD l with
      | none => rw [q] at e; cases e
      | some r' => rw [q] at e; cases e; simp [intsD_len q]
    | _ => cases e
section
variable {X : Cx} {c : C0} {γ δ γ' : Type} {G : EnvT γ} {e : Expr}
theorem fe_asTI {fa : γ → Xc PyData} (ha : FE X c G e fa) : FE X c G e (fun g => (fa g).bind asTI) :=
  fe_from (fun {K F v a b} h r => by
    unfold asTI at h
    split at h
    · rename_i l
      by_cases z : l.length ≤ sizeLine
      · rw [if_pos z] at h
        split at h
        · rename_i q eq
          cases h
          obtain ⟨r, _⟩ := r
          cases r with
          | tup hq hr => exact ⟨_, _, rfl, hq, by show _ ≤ sizeLine; rw [show (Tu.l (tu q)).length = l.length from intsD_len eq]; exact z, intsD_al hr eq⟩
        · cases h
      · rw [if_neg z] at h; cases h
    · cases h) (fun a c fs h => by
    unfold asTI at h
    split at h
    · split at h
      · split at h <;> cases h
      · cases h
    · cases h) ha
end
section
variable {X : Cx} {c : C1} {γ δ γ' : Type} {G : EnvT γ} {Gl : EnvT δ} {G' : EnvT γ'} {sts : List Stmt}
theorem fns_lend {m : δ → Xc γ'} {h : γ → δ} [B : Bor G Gl h] (hs : FNs X c Gl sts G' m) : FNs X c G sts G' (fun g => m (h g)) :=
  PSs.imp hs fun D σ H ⟨F, g, w, q, p⟩ => by
    obtain ⟨F1, w1, q1, _, s1⟩ := lend (B := B) w q
    exact ⟨F1, h g, w1, q1, p.on s1 Ag.refl⟩
end
end FL

/-! FL21: membership of data; insert. -/
namespace FL
open PySem L2
section
variable {X : Cx} {c : C0} {γ α : Type} {G : EnvT γ} [Rp α] {a b e : Expr} {pos : Pos}
@[irreducible] def inDX {α : Type} [Rp α] [ToD α] (a : α) (l : List α) : Xc Bool := if SeqAt.shaped (ToD.d a) = true ∧ SeqAt.shaped (ToD.d l) = true then .ok ((l.map ToD.d).any fun z => PyData.eqv z (ToD.d a)) else .no
theorem room65 {k : Nat} {A : Around} (r : Room k A) : A.units + 65 < cLine := by have := r.un; omega
theorem fe_inD [ToD α] {fa : γ → Xc α} {fb : γ → Xc (List α)} {k : Nat} (hr : Room k X.A) (ha : FE X c G a fa) (hb : FE X c G b fb) (hm : behindInMarks .In b = false := by rfl) : FE X c G (.Compare a [.In] [b] pos) (fun g => (fa g).bind fun i => (fb g).bind fun j => inDX i j) :=
  two (fun h1 h2 => pe_cmpR (op_inD (room65 hr)) h1 h2 hm) ha hb fun {F H x y i j Q E} s r1 r2 p => by
    unfold inDX at p
    by_cases z : SeqAt.shaped (ToD.d i) = true ∧ SeqAt.shaped (ToD.d j) = true
    · rw [if_pos z] at p; exact ⟨_, _, dp_mono s (ToD.is r1), dp_mono s (ToD.is (α := List α) r2), z.1, z.2, p.ret s rfl⟩
    · rw [if_neg z] at p; exact p.elim
theorem fe_ninD [ToD α] {fa : γ → Xc α} {fb : γ → Xc (List α)} {k : Nat} (hr : Room k X.A) (ha : FE X c G a fa) (hb : FE X c G b fb) (hm : behindInMarks .NotIn b = false := by rfl) : FE X c G (.Compare a [.NotIn] [b] pos) (fun g => (fa g).bind fun i => (fb g).bind fun j => (inDX i j).bind fun t => Xc.ok (!t)) :=
  two (fun h1 h2 => pe_cmpR (op_notInD (room65 hr)) h1 h2 hm) ha hb fun {F H x y i j Q E} s r1 r2 p => by
    unfold inDX at p
    by_cases z : SeqAt.shaped (ToD.d i) = true ∧ SeqAt.shaped (ToD.d j) = true
    · rw [if_pos z] at p; exact ⟨_, _, dp_mono s (ToD.is r1), dp_mono s (ToD.is (α := List α) r2), z.1, z.2, p.ret s rfl⟩
    · rw [if_neg z] at p; exact p.elim
theorem ft_inD [ToD α] {fa : γ → Xc α} {fb : γ → Xc (List α)} {k : Nat} (hr : Room k X.A) (ha : FE X c G a fa) (hb : FE X c G b fb) (hm : behindInMarks .In b = false := by rfl) : FT X c G (.Compare a [.In] [b] pos) (fun g => (fa g).bind fun i => (fb g).bind fun j => inDX i j) :=
  twoT (fun h1 h2 => pt_cmpR (op_inD (room65 hr)) h1 h2 hm) ha hb fun {F H x y i j Q E} s r1 r2 p => by
    unfold inDX at p
    by_cases z : SeqAt.shaped (ToD.d i) = true ∧ SeqAt.shaped (ToD.d j) = true
    · rw [if_pos z] at p; exact ⟨_, _, dp_mono s (ToD.is r1), dp_mono s (ToD.is (α := List α) r2), z.1, z.2, _, rfl, p.ret s⟩
    · rw [if_neg z] at p; exact p.elim
theorem ft_ninD [ToD α] {fa : γ → Xc α} {fb : γ → Xc (List α)} {k : Nat} (hr : Room k X.A) (ha : FE X c G a fa) (hb : FE X c G b fb) (hm : behindInMarks .NotIn b = false := by rfl) : FT X c G (.Compare a [.NotIn] [b] pos) (fun g => (fa g).bind fun i => (fb g).bind fun j => (inDX i j).bind fun t => Xc.ok (!t)) :=
  twoT (fun h1 h2 => pt_cmpR (op_notInD (room65 hr)) h1 h2 hm) ha hb fun {F H x y i j Q E} s r1 r2 p => by
    unfold inDX at p
    by_cases z : SeqAt.shaped (ToD.d i) = true ∧ SeqAt.shaped (ToD.d j) = true
    · rw [if_pos z] at p; exact ⟨_, _, dp_mono s (ToD.is r1), dp_mono s (ToD.is (α := List α) r2), z.1, z.2, _, rfl, p.ret s⟩
    · rw [if_neg z] at p; exact p.elim
end
section
variable {X : Cx} {c : C1} {γ γ' : Type} {G : EnvT γ} {e k : Expr} {pos p1 p2 : Pos} {x : Str}
@[irreducible] def insX {α : Type} (l : List α) (i : Int) (a : α) : Xc (List α) := if l.length < sizeLine ∧ 0 ≤ i ∧ i < 2 ^ 63 then .ok (l.take i.toNat ++ [a] ++ l.drop i.toNat) else .no
/-- x.insert(k, e) -/
theorem fn_insert (i : Nat) {τ : Type} {r : Rp τ} {π : γ → List τ} {put : γ → List τ → γ} [A : AtO G i τ r π put] {fa : γ → Xc τ} {fk : γ → Xc Int} {apos cpos : Pos} (hk : FE X c.toC0 G k fk) (ha : FE X c.toC0 G e fa) (hN : X.N[i]? = some x := by rfl) (hv : Vis X.env.scope x := by first | exact Or.inl rfl | exact Or.inr (Or.inl rfl) | exact Or.inr (Or.inr rfl))
    (hd : (x == ("__debug__" : Str)) = false := by decide) (hcd : (x == ("__classdict__" : Str)) = false := by decide) (hbase : attributeBase (.Name x p1) "insert" X.env (eval (.Name x p1) X.env) = eval (.Name x p1) X.env := by rfl)
    (hfew : ((backTo cpos (starEach [k, e] X.env)).all (fun x => !x.1) && (backToKw cpos (keywordEach [] X.env)).all (fun x => x.1.isSome) && decide ([k, e].length + ([] : List Keyword).length + (if ([] : List Keyword).isEmpty then 0 else 1) < 30)) = true := by rfl)
    (hline : (apos.endLine == cpos.line) = true := by rfl) (hs : starEach [k, e] X.env = (false, eval k X.env) :: starEach [e] X.env := by rfl) (hs2 : starEach [e] X.env = (false, eval e X.env) :: starEach [] X.env := by rfl) (hplain : (backTo cpos (starEach [e] X.env)).any (·.1) = false := by rfl)
    (hsw : swapsWith (.Call (.Attribute (.Name x p1) "insert" apos) [k, e] [] cpos) none pos.line X.env = pure false := by rfl) :
    FN X c G (.Expr (.Call (.Attribute (.Name x p1) "insert" apos) [k, e] [] cpos) pos) G (fun g => (fk g).bind fun j => (fa g).bind fun v => (insX (π g) j v).bind fun l => Xc.ok (put g l)) :=
  PS.imp (ps_expr (pe_bm PySem.F.plainAttrs_list PySem.F.slot_list_insert PySem.F.type_list_insert mt_insert (pe_var hN hv hd hcd) (pa_cons hk (pa_cons ha pa_nil hs2) hs) hbase hfew hline hs hplain) hsw) fun D σ H ⟨F, g, w, q, h⟩ => by
    obtain ⟨p, xs, e1, m, hp, z, al⟩ := A.get q
    refine ⟨.ref p, e1, .inl ⟨rfl, _, SqL.of hp⟩, F, g, w, q, ?_⟩
    cases e3 : fk g with
    | ok j =>
      intro jv F1 H1 w1 rj
      simp only [e3] at h
      have h : PoN X.K c G D F H σ ((fa g).bind fun v => (insX (π g) j v).bind fun l => Xc.ok (put g l)) := h
      refine ⟨F1, g, w.trans w1, G.mono q w1, ?_⟩
      cases e2 : fa g with
      | ok v =>
        intro u F2 H2 w2 r2
        simp only [e2] at h
        have h : PoN X.K c G D F H σ ((insX (π g) j v).bind fun l => Xc.ok (put g l)) := h
        unfold insX at h
        by_cases hz : (π g).length < sizeLine ∧ 0 ≤ j ∧ j < 2 ^ 63
        · rw [if_pos hz] at h
          have w12 := w1.trans w2
          have rj : jv = .int j := rj
          refine ⟨p, xs, j, u, rfl, by rw [rj], w12.h _ _ hp, by rw [al.len]; exact hz.1, hz.2.1, hz.2.2, ?_⟩
          obtain ⟨h0, hf, _⟩ := G.al q m
          have q1 := G.mono q w12
          obtain ⟨_, hf1, _⟩ := G.al q1 m
          refine h σ F2 _ ⟨w12.f, (w.trans w12).mutd h0 hf1⟩ Ag.refl ?_
          have al2 := al.mono w12.f
          exact A.set q1 e1 (by simp only [List.length_append, List.length_take, List.length_drop, List.length_singleton]; omega) (((al2.take _).snoc r2).app (al2.drop _))
        · rw [if_neg hz] at h; exact h.elim
      | er c' fs => simp only [e2] at h; exact ErP.on (PoN.er h w) w1
      | no => simp only [e2] at h; exact h
    | er c' fs => simp only [e3] at h; exact PoN.er h w
    | no => simp only [e3] at h; exact h
end
end FL

/-! FZ1: zip over any two things that are walked by iterators of their own. -/
namespace FZ
open PySem RZ
section
variable (prog : Program) (w : World)
/-- it walks over get, P by the place -/
structure Wkr (P : Nat → Heap → Prop) (it l : Addr) (get : Nat → Option Value) : Prop where
  item : ∀ {A : Around} {E : Value → Shared → Prop} {s : Shared} {k : Nat} {x : Value} {Q : Value → Shared → Prop}, P k s.heap → get k = some x → (∀ h', P (k + 1) h' → Heap.SameBut it s.heap h' → Q x { s with heap := h' }) → wpAny (model prog w) A (Builtin.SmallTypes.nextOf (.ref it)) Q E s
  fin : ∀ {A : Around} {E : Value → Shared → Prop} {s : Shared} {k : Nat} {Q : Value → Shared → Prop}, A.handled = none → P k s.heap → get k = none → (∀ h' e, Heap.ExtBut it s.heap h' → (∃ o, h'.get? e = some o ∧ o.cls = .type "StopIteration") → E (.ref e) { s with heap := h' }) → wpAny (model prog w) A (Builtin.SmallTypes.nextOf (.ref it)) Q E s
  ext : ∀ {k : Nat} {h h' : Heap} {c : Addr}, P k h → Heap.ExtBut c h h' → it ≠ c → l ≠ c → P k h'
  up : ∀ {k : Nat} {h h' : Heap}, P k h → (∀ o, h.get? it = some o → h'.get? it = some o) → (∀ o, h.get? l = some o → h'.get? l = some o) → P k h'
  at_ : ∀ {k : Nat} {h : Heap}, P k h → ∃ o, h.get? it = some o
end
section
variable {prog : Program} {w : World} {A : Around} {E : Value → Shared → Prop} {s : Shared} {P1 P2 : Nat → Heap → Prop} {g1 g2 : Nat → Option Value} {z TI TO i1 i2 l1 l2 : Addr} {k1 k2 : Nat} {x y a b : Value}
theorem nxt (W1 : Wkr prog w P1 i1 l1 g1) (W2 : Wkr prog w P2 i2 l2 g2) (D : ZipApart z TI TO i1 i2 l1 l2) (hz : IsZip s.heap z TI TO .none) (hTI : IsPair s.heap TI (.ref i1) (.ref i2)) (hTO : IsPair s.heap TO a b) (h1 : P1 k1 s.heap) (h2 : P2 k2 s.heap) (hx : g1 k1 = some x) (hy : g2 k2 = some y)
    {Q : Value → Shared → Prop} (hQ : ∀ h', IsZip h' z TI TO (rawInt s.heap.objs.size) → IsPair h' TO x y → P1 (k1 + 1) h' → P2 (k2 + 1) h' → IsPair h' s.heap.objs.size x y → h'.objs.size = s.heap.objs.size + 1 → (∀ c o, c ≠ z → c ≠ TO → c ≠ i1 → c ≠ i2 → s.heap.get? c = some o → h'.get? c = some o) → Q (.ref s.heap.objs.size) { s with heap := h' }) :
    wpAny (model prog w) A (Builtin.«zip.__next__» ⟨[.ref z], []⟩) (fun fin s' => ∃ v, fin = .done (.ret v) ∧ Q v s') E s := by
  show wpAny _ _ (field (.ref z) 2 >>= _) _ _ _; refine wpAny_bind (wpAny_field hz rfl (x := .bool false) rfl ?_)
  show wpAny _ _ (field (.ref z) 3 >>= _) _ _ _; refine wpAny_bind (wpAny_field hz rfl (x := .ref TI) rfl (wpAny_bind (wpAny_seqItems hTI rfl ?_)))
  show wpAny _ _ (Builtin.SmallTypes.ownedTupleIsFree (.ref z) >>= _) _ _ _; refine wpAny_bind ?_; unfold Builtin.SmallTypes.ownedTupleIsFree
  refine wpAny_bind (wpAny_field hz rfl (x := .none) rfl (wpAny_pure ?_)); simp only [if_true]
  refine wpAny_bind (wpAny_rule (wpAny_bind (wpAny_field hz rfl (x := .ref TO) rfl (wpAny_bind (wpAny_setField_rec hz (by simp) fun hA zA sA => ?_)))))
  have zA : IsZip hA z TI TO .ellipsis := zA
  refine wpAny_bind ?_; simp only [List.zipIdx_cons, List.zipIdx_nil, List.forIn_cons, List.forIn_nil]
  refine wpAny_bind (wpAny_bind (wpAny_onRaise ?_)); show wpAny _ _ (Builtin.SmallTypes.nextOf (.ref i1) >>= _) _ _ _
  refine wpAny_bind (W1.item (W1.ext h1 sA.extBut D.i1z D.l1z) hx fun hB pB sB => wpAny_pure ?_)
  have tB : IsPair hB TO a b := sB.extBut _ _ D.TOi1 (sA.extBut _ _ D.TOz hTO)
  refine wpAny_bind (wpAny_seqItems tB rfl (wpAny_bind (wpAny_updateSeq_pair tB fun hC tC sC => ?_)))
  have tC : IsPair hC TO x b := tC
  refine wpAny_bind (wpAny_letGo (wpAny_pure (wpAny_bind (wpAny_bind (wpAny_onRaise ?_))))); show wpAny _ _ (Builtin.SmallTypes.nextOf (.ref i2) >>= _) _ _ _
  have p2C : P2 k2 hC := W2.ext (W2.ext (W2.ext h2 sA.extBut D.i2z D.l2z) sB.extBut D.i12.symm D.l2i1) sC.extBut D.TOi2.symm D.l2TO
  refine wpAny_bind (W2.item p2C hy fun hD pD sD => wpAny_pure ?_)
  have tD : IsPair hD TO x b := sD.extBut _ _ D.TOi2 tC
  refine wpAny_bind (wpAny_seqItems tD rfl (wpAny_bind (wpAny_updateSeq_pair tD fun hF tF sF => ?_)))
  have tF : IsPair hF TO x y := tF
  refine wpAny_bind (wpAny_letGo (wpAny_pure (wpAny_pure (wpAny_bind (wpAny_seqItems tF rfl (wpAny_bind (wpAny_newTuple ?_)))))))
  have sz : hF.objs.size = s.heap.objs.size := by rw [sF.1, sD.1, sC.1, sB.1, sA.1]
  have zF : IsZip hF z TI TO .ellipsis := sF.extBut _ _ D.TOz.symm (sD.extBut _ _ D.i2z.symm (sC.extBut _ _ D.TOz.symm (sB.extBut _ _ D.i1z.symm zA)))
  have kF : ∀ c o, c ≠ z → c ≠ TO → c ≠ i1 → c ≠ i2 → s.heap.get? c = some o → hF.get? c = some o := fun c o c1 c2 c3 c4 e => sF.extBut _ _ c2 (sD.extBut _ _ c4 (sC.extBut _ _ c2 (sB.extBut _ _ c3 (sA.extBut _ _ c1 e))))
  have p1F : P1 (k1 + 1) hF := W1.ext (W1.ext (W1.ext pB sC.extBut D.TOi1.symm D.l1TO) sD.extBut D.i12 D.l1i2) sF.extBut D.TOi1.symm D.l1TO
  have p2F : P2 (k2 + 1) hF := W2.ext pD sF.extBut D.TOi2.symm D.l2TO
  have lz : z < hF.objs.size := Heap.lt_size zF
  show wpAny _ _ (Builtin.SmallTypes.ownedTupleHandOut (.ref z) (.ref hF.objs.size) >>= _) _ _ _; refine wpAny_bind ?_; unfold Builtin.SmallTypes.ownedTupleHandOut
  have zG : IsZip (hF.push { cls := .type "tuple", data := .seq #[x, y] }) z TI TO .ellipsis := Heap.get?_push_of_some _ zF
  refine wpAny_bind (wpAny_setField_rec zG (by simp) fun hH zH sH => ?_); have zH : IsZip hH z TI TO (rawInt hF.objs.size) := zH
  refine wpAny_setField_rec zH (by simp) fun hI zI sI => ?_; have zI : IsZip hI z TI TO (rawInt hF.objs.size) := zI
  have up : ∀ c o, c ≠ z → hF.get? c = some o → hI.get? c = some o := fun c o c1 e => sI.extBut _ _ c1 (sH.extBut _ _ c1 (Heap.get?_push_of_some _ e))
  have tI : IsPair hI hF.objs.size x y := sI.extBut _ _ (Nat.ne_of_gt lz) (sH.extBut _ _ (Nat.ne_of_gt lz) (Heap.get?_push_size _ rfl))
  have sI8 : hI.objs.size = hF.objs.size + 1 := by rw [sI.1, sH.1, Heap.size_push]
  rw [sz] at zI tI sI8
  refine wpAny_pure ⟨_, rfl, ?_⟩; show Q (.ref hF.objs.size) _; rw [sz]
  exact hQ hI zI (up _ _ D.TOz tF) (W1.up p1F (fun o e => up _ o D.i1z e) fun o e => up _ o D.l1z e) (W2.up p2F (fun o e => up _ o D.i2z e) fun o e => up _ o D.l2z e) tI sI8 fun c o c1 c2 c3 c4 e => up c o c1 (kF c o c1 c2 c3 c4 e)
end
end FZ

/-! FZ2: the end of such a zip; its steps; a list, a tuple as a walker. -/
namespace FZ
open PySem RZ
section
variable {prog : Program} {w : World} {A : Around} {E : Value → Shared → Prop} {s : Shared} {P1 P2 : Nat → Heap → Prop} {g1 g2 : Nat → Option Value} {z TI TO i1 i2 l1 l2 : Addr} {k1 k2 : Nat} {x y a b : Value}
theorem done (W1 : Wkr prog w P1 i1 l1 g1) (W2 : Wkr prog w P2 i2 l2 g2) (hh : A.handled = none) (D : ZipApart z TI TO i1 i2 l1 l2) (hz : IsZip s.heap z TI TO .none) (hTI : IsPair s.heap TI (.ref i1) (.ref i2)) (hTO : IsPair s.heap TO a b) (h1 : P1 k1 s.heap) (h2 : P2 k2 s.heap) (he : g1 k1 = none ∨ g2 k2 = none)
    {Q : Fin → Shared → Prop} (hE : ∀ h' e, (∀ c o, c ≠ z → c ≠ TO → c ≠ i1 → c ≠ i2 → s.heap.get? c = some o → h'.get? c = some o) → (∃ o, h'.get? e = some o ∧ o.cls = .type "StopIteration") → E (.ref e) { s with heap := h' }) : wpAny (model prog w) A (Builtin.«zip.__next__» ⟨[.ref z], []⟩) Q E s := by
  show wpAny _ _ (field (.ref z) 2 >>= _) _ _ _; refine wpAny_bind (wpAny_field hz rfl (x := .bool false) rfl ?_)
  show wpAny _ _ (field (.ref z) 3 >>= _) _ _ _; refine wpAny_bind (wpAny_field hz rfl (x := .ref TI) rfl (wpAny_bind (wpAny_seqItems hTI rfl ?_)))
  show wpAny _ _ (Builtin.SmallTypes.ownedTupleIsFree (.ref z) >>= _) _ _ _; refine wpAny_bind ?_; unfold Builtin.SmallTypes.ownedTupleIsFree
  refine wpAny_bind (wpAny_field hz rfl (x := .none) rfl (wpAny_pure ?_)); simp only [if_true]
  refine wpAny_bind (wpAny_rule (wpAny_bind (wpAny_field hz rfl (x := .ref TO) rfl (wpAny_bind (wpAny_setField_rec hz (by simp) fun hA zA sA => ?_)))))
  have zA : IsZip hA z TI TO .ellipsis := zA
  refine wpAny_bind ?_; simp only [List.zipIdx_cons, List.zipIdx_nil, List.forIn_cons, List.forIn_nil]
  refine wpAny_bind (wpAny_bind (wpAny_onRaise ?_)); show wpAny _ _ (Builtin.SmallTypes.nextOf (.ref i1) >>= _) _ _ _
  have p1A : P1 k1 hA := W1.ext h1 sA.extBut D.i1z D.l1z
  cases hx : g1 k1 with
  | none =>
    refine wpAny_bind (W1.fin hh p1A hx fun hB e sB ⟨oe, hoe, hce⟩ => ?_)
    have zB : IsZip hB z TI TO .ellipsis := sB _ _ D.i1z.symm zA
    have ez : e ≠ z := fun q => by subst q; rw [zB] at hoe; cases hoe; simp at hce
    exact wpAny_setField_rec zB (by simp) fun hC _ sC => hE hC e (fun c o c1 _ c3 _ q => sC.extBut _ _ c1 (sB _ _ c3 (sA.extBut _ _ c1 q))) ⟨oe, sC.extBut _ _ ez hoe, hce⟩
  | some x =>
    have hy : g2 k2 = none := by rcases he with q | q; (rw [hx] at q; cases q); exact q
    refine wpAny_bind (W1.item p1A hx fun hB pB sB => wpAny_pure ?_)
    have tB : IsPair hB TO a b := sB.extBut _ _ D.TOi1 (sA.extBut _ _ D.TOz hTO)
    refine wpAny_bind (wpAny_seqItems tB rfl (wpAny_bind (wpAny_updateSeq_pair tB fun hC tC sC => ?_)))
    refine wpAny_bind (wpAny_letGo (wpAny_pure (wpAny_bind (wpAny_bind (wpAny_onRaise ?_))))); show wpAny _ _ (Builtin.SmallTypes.nextOf (.ref i2) >>= _) _ _ _
    have p2C : P2 k2 hC := W2.ext (W2.ext (W2.ext h2 sA.extBut D.i2z D.l2z) sB.extBut D.i12.symm D.l2i1) sC.extBut D.TOi2.symm D.l2TO
    refine wpAny_bind (W2.fin hh p2C hy fun hD e sD ⟨oe, hoe, hce⟩ => ?_)
    have zD : IsZip hD z TI TO .ellipsis := sD _ _ D.i2z.symm (sC.extBut _ _ D.TOz.symm (sB.extBut _ _ D.i1z.symm zA))
    have ez : e ≠ z := fun q => by subst q; rw [zD] at hoe; cases hoe; simp at hce
    exact wpAny_setField_rec zD (by simp) fun hF _ sF => hE hF e (fun c o c1 c2 c3 c4 q => sF.extBut _ _ c1 (sD _ _ c4 (sC.extBut _ _ c2 (sB.extBut _ _ c3 (sA.extBut _ _ c1 q))))) ⟨oe, sF.extBut _ _ ez hoe, hce⟩
theorem py_item (W1 : Wkr prog w P1 i1 l1 g1) (W2 : Wkr prog w P2 i2 l2 g2) (D : ZipApart z TI TO i1 i2 l1 l2) (hz : IsZip s.heap z TI TO .none) (hTI : IsPair s.heap TI (.ref i1) (.ref i2)) (hTO : IsPair s.heap TO a b) (h1 : P1 k1 s.heap) (h2 : P2 k2 s.heap) (hx : g1 k1 = some x) (hy : g2 k2 = some y)
    {Q : Option Value → Shared → Prop} (hQ : ∀ h', IsZip h' z TI TO (rawInt s.heap.objs.size) → IsPair h' TO x y → P1 (k1 + 1) h' → P2 (k2 + 1) h' → IsPair h' s.heap.objs.size x y → h'.objs.size = s.heap.objs.size + 1 → (∀ c o, c ≠ z → c ≠ TO → c ≠ i1 → c ≠ i2 → s.heap.get? c = some o → h'.get? c = some o) → Q (some (.ref s.heap.objs.size)) { s with heap := h' }) : wpAny (model prog w) A (pyNext (.ref z)) Q E s := by
  have T : s.TypeIs (.ref z) "zip" := ⟨_, hz, rfl⟩
  unfold pyNext
  exact wpAny_bind (wpAny_attempt (wpAny_callSpecial?_slot (name := Str.ofString "__next__") T F.slot_zip_next (wpAny_call_entry F.slot_zip_next T F.entry_zip_next (nxt W1 W2 D hz hTI hTO h1 h2 hx hy fun h' a1 a2 a3 a4 a5 a6 a7 => wpAny_pure (hQ h' a1 a2 a3 a4 a5 a6 a7)) (F.args_zip_next_1 _))))
theorem py_done (W1 : Wkr prog w P1 i1 l1 g1) (W2 : Wkr prog w P2 i2 l2 g2) (hh : A.handled = none) (D : ZipApart z TI TO i1 i2 l1 l2) (hz : IsZip s.heap z TI TO .none) (hTI : IsPair s.heap TI (.ref i1) (.ref i2)) (hTO : IsPair s.heap TO a b) (h1 : P1 k1 s.heap) (h2 : P2 k2 s.heap) (he : g1 k1 = none ∨ g2 k2 = none)
    {Q : Option Value → Shared → Prop} (hQ : ∀ h', (∀ c o, c ≠ z → c ≠ TO → c ≠ i1 → c ≠ i2 → s.heap.get? c = some o → h'.get? c = some o) → Q none { s with heap := h' }) : wpAny (model prog w) A (pyNext (.ref z)) Q E s := by
  have T : s.TypeIs (.ref z) "zip" := ⟨_, hz, rfl⟩
  unfold pyNext
  refine wpAny_bind (wpAny_attempt (wpAny_callSpecial?_slot (name := Str.ofString "__next__") T F.slot_zip_next (wpAny_call_entry F.slot_zip_next T F.entry_zip_next (done (A := A.in1) W1 W2 hh D hz hTI hTO h1 h2 he fun h' e hk ⟨o, ho, hc⟩ => ?_) (F.args_zip_next_1 _))))
  exact wpAny_bind (wpAny_isInstance (T := "StopIteration") (b := true) ⟨o, ho, hc⟩ isSubtype_stop (wpAny_pure (hQ _ hk)))
end
end FZ

/-! FZ3: lists and tuples as walkers; the zip of a tuple with a list, of a list with a tuple. -/
namespace FZ
open PySem RZ
section
variable {prog : Program} {w : World} {it l : Addr} {items : Array Value}
def PL (it l : Addr) (items : Array Value) (k : Nat) (h : Heap) : Prop := h.IsListIter it l k ∧ h.IsList l items
def PT (it l : Addr) (items : Array Value) (k : Nat) (h : Heap) : Prop := h.IsTupleIter it l k ∧ h.IsTuple l items
theorem wkL (ne : l ≠ it) : Wkr prog w (PL it l items) it l (fun k => items[k]?) :=
  ⟨fun ⟨h1, h2⟩ hx q => wpAny_nextOf_list_item h1 h2 hx fun h' a sb => q h' ⟨a, h2.extBut sb.extBut ne⟩ sb, fun hh ⟨h1, h2⟩ hx q => wpAny_nextOf_list_end hh h1 h2 hx q, fun ⟨h1, h2⟩ e c1 c2 => ⟨h1.extBut e c1, h2.extBut e c2⟩,
    fun ⟨h1, h2⟩ e1 e2 => ⟨h1.at e1, h2.at e2⟩, fun ⟨⟨o, e, _⟩, _⟩ => ⟨o, e⟩⟩
theorem wkT (ne : l ≠ it) : Wkr prog w (PT it l items) it l (fun k => items[k]?) :=
  ⟨fun ⟨h1, h2⟩ hx q => RZ.nextOf_tuple_item h1 h2 hx fun h' a sb => q h' ⟨a, h2.extBut sb.extBut ne⟩ sb, fun hh ⟨h1, h2⟩ hx q => RZ.nextOf_tuple_end hh h1 h2 hx q, fun ⟨h1, h2⟩ e c1 c2 => ⟨h1.extBut e c1, h2.extBut e c2⟩,
    fun ⟨h1, h2⟩ e1 e2 => ⟨h1.at e1, h2.at e2⟩, fun ⟨⟨o, e, _⟩, _⟩ => ⟨o, e⟩⟩
end
/-- the heap behind zip(a, b): iterators of the kinds A, B -/
abbrev ZA (A : String) (h : Heap) (a : Addr) : Heap := h.push { cls := .type A, data := .fields #[.ref a, .int 0 0] }
abbrev ZB (A B : String) (h : Heap) (a b : Addr) : Heap := (ZA A h a).push { cls := .type B, data := .fields #[.ref b, .int 0 0] }
abbrev ZC (A B : String) (h : Heap) (a b : Addr) : Heap := (ZB A B h a b).push { cls := .type "tuple", data := .seq #[.ref h.objs.size, .ref (ZA A h a).objs.size] }
abbrev ZD (A B : String) (h : Heap) (a b : Addr) : Heap := (ZC A B h a b).push { cls := .type "tuple", data := .seq #[.none, .none] }
abbrev ZE (A B : String) (h : Heap) (a b : Addr) : Heap := (ZD A B h a b).push { cls := .type "zip", data := .fields #[.none, .bool false, .bool false, .ref (ZB A B h a b).objs.size, .ref (ZC A B h a b).objs.size] }
theorem newTL (a b : Addr) (xs ys : Array Value) : Meets (Builtin.«zip.__new__» ⟨[.type "zip", .ref a, .ref b], []⟩) (fun _ R s => (s.heap.IsTuple a xs ∧ s.heap.IsList b ys) ∧ R (.ok (.ret (.ref (ZD "tuple_iterator" "list_iterator" s.heap a b).objs.size))) { s with heap := ZE "tuple_iterator" "list_iterator" s.heap a b }) :=
  .of_wp fun prog w A R s h => by
    obtain ⟨hp, g, d, tk, os⟩ := s; obtain ⟨⟨m1, m2⟩, h⟩ := h; have hsub := sub_zip
    have hL1 : Heap.IsTuple (Shared.heap ⟨hp, g, d, tk, os⟩) a xs := m1; have hL2 : Heap.IsList (Shared.heap ⟨ZA "tuple_iterator" hp a, g, d, tk, os⟩) b ys := Heap.IsList.at m2 fun o e => Heap.get?_push_of_some _ e
    wp_walk using wpAny_pyIter_tuple hL1, wpAny_pyIter_list hL2; exact ⟨_, rfl, h⟩
theorem newLT (a b : Addr) (xs ys : Array Value) : Meets (Builtin.«zip.__new__» ⟨[.type "zip", .ref a, .ref b], []⟩) (fun _ R s => (s.heap.IsList a xs ∧ s.heap.IsTuple b ys) ∧ R (.ok (.ret (.ref (ZD "list_iterator" "tuple_iterator" s.heap a b).objs.size))) { s with heap := ZE "list_iterator" "tuple_iterator" s.heap a b }) :=
  .of_wp fun prog w A R s h => by
    obtain ⟨hp, g, d, tk, os⟩ := s; obtain ⟨⟨m1, m2⟩, h⟩ := h; have hsub := sub_zip
    have hL1 : Heap.IsList (Shared.heap ⟨hp, g, d, tk, os⟩) a xs := m1; have hL2 : Heap.IsTuple (Shared.heap ⟨ZA "list_iterator" hp a, g, d, tk, os⟩) b ys := Heap.IsTuple.at m2 fun o e => Heap.get?_push_of_some _ e
    wp_walk using wpAny_pyIter_list hL1, wpAny_pyIter_tuple hL2; exact ⟨_, rfl, h⟩
end FZ

/-! FZ4: the call of zip; its walk. -/
namespace FZ
open PySem RZ
section
variable {prog : Program} {w : World} {X0 : Around} {E : Value → Shared → Prop} {s : Shared} {a b : Addr} {A B : String} {Pre : Heap → Prop}
theorem zcall (M : Meets (Builtin.«zip.__new__» ⟨[.type "zip", .ref a, .ref b], []⟩) (fun _ R s => Pre s.heap ∧ R (.ok (.ret (.ref (ZD A B s.heap a b).objs.size))) { s with heap := ZE A B s.heap a b })) (hp : Pre s.heap) {Q : Value → Shared → Prop}
    (h : ∀ h', IsZip h' (s.heap.objs.size + 4) (s.heap.objs.size + 2) (s.heap.objs.size + 3) .none → IsPair h' (s.heap.objs.size + 2) (.ref s.heap.objs.size) (.ref (s.heap.objs.size + 1)) → IsPair h' (s.heap.objs.size + 3) .none .none →
      h'.get? s.heap.objs.size = some { cls := .type A, data := .fields #[.ref a, .int 0 0] } → h'.get? (s.heap.objs.size + 1) = some { cls := .type B, data := .fields #[.ref b, .int 0 0] } → (∀ c o, s.heap.get? c = some o → h'.get? c = some o) → Q (.ref (s.heap.objs.size + 4)) { s with heap := h' }) :
    wpAny (model prog w) X0 (call (.type "zip") [.ref a, .ref b]) Q E s := by
  refine callType_new F.called_zip (by decide) (F.typeCall_zip_2 _ _) (F.newCall_zip_2 _ _) (fun obj => F.args_object_init_3 obj _ _) F.entry_zip_new M ⟨hp, ?_⟩
  have e1 : (ZA A s.heap a).objs.size = s.heap.objs.size + 1 := Heap.size_push ..
  have e2 : (ZB A B s.heap a b).objs.size = s.heap.objs.size + 2 := by rw [Heap.size_push, e1]
  have e3 : (ZC A B s.heap a b).objs.size = s.heap.objs.size + 3 := by rw [Heap.size_push, e2]
  have e4 : (ZD A B s.heap a b).objs.size = s.heap.objs.size + 4 := by rw [Heap.size_push, e3]
  have q5 : (ZE A B s.heap a b).get? (ZD A B s.heap a b).objs.size = some _ := Heap.get?_push_size _ rfl
  have q4 : (ZE A B s.heap a b).get? (ZC A B s.heap a b).objs.size = some _ := Heap.get?_push_of_some _ (Heap.get?_push_size _ rfl)
  have q3 : (ZE A B s.heap a b).get? (ZB A B s.heap a b).objs.size = some _ := Heap.get?_push_of_some _ (Heap.get?_push_of_some _ (Heap.get?_push_size _ rfl))
  have q2 : (ZE A B s.heap a b).get? (ZA A s.heap a).objs.size = some _ := Heap.get?_push_of_some _ (Heap.get?_push_of_some _ (Heap.get?_push_of_some _ (Heap.get?_push_size _ rfl)))
  have q1 : (ZE A B s.heap a b).get? s.heap.objs.size = some _ := Heap.get?_push_of_some _ (Heap.get?_push_of_some _ (Heap.get?_push_of_some _ (Heap.get?_push_of_some _ (Heap.get?_push_size _ rfl))))
  show _ ∧ _
  rw [e2, e3, e4] at q5; rw [e1, e2] at q3; rw [e3] at q4; rw [e1] at q2; rw [e4]
  exact ⟨⟨_, q5, rfl⟩, h _ q5 q3 q4 q1 q2 fun c o x => Heap.get?_push_of_some _ (Heap.get?_push_of_some _ (Heap.get?_push_of_some _ (Heap.get?_push_of_some _ (Heap.get?_push_of_some _ x))))⟩
end
end FZ

/-! FZ5: the walk of zip(tuple, list). -/
namespace FZ
open PySem RZ L2 PyProof.Rows
def ItM (K : PySem.W.Frag) (a b : Addr) : It :=
  ⟨fun i H => ∃ (xs ys : List V) (x y : V), SqT K H a xs ∧ SqL K H b ys ∧ xs[i]? = some x ∧ ys[i]? = some y, fun i H v H' => ∃ T x y, v = .ref T ∧ H T = none ∧ H' = upd H T (.tup [x, y]) ∧ (∀ xs, SqT K H a xs → xs[i]? = some x) ∧ ∀ ys, SqL K H b ys → ys[i]? = some y,
    fun i H => ∃ xs ys : List V, SqT K H a xs ∧ SqL K H b ys ∧ (xs.length ≤ i ∨ ys.length ≤ i)⟩
theorem turnM {P : Program} {w : World} {K : PySem.W.Frag} {elts : List Expr} {kk : Nat} {tpos : Pos} {a b z TI TO i1 i2 : Addr} (D : ZipApart z TI TO i1 i2 a b) :
    Turn P w K (.Tuple elts kk tpos) (ItM K a b) [z, TI, TO, i1, i2] z (fun i h => IsZip h z TI TO .none ∧ IsPair h TI (.ref i1) (.ref i2) ∧ (∃ x y, IsPair h TO x y) ∧ h.IsTupleIter i1 a i ∧ h.IsListIter i2 b i) where
  mem := by simp
  obj := fun i h ⟨hz, hTI, ⟨x, y, hTO⟩, ⟨o1, e1, _, d1⟩, ⟨o2, e2, _, d2⟩⟩ c hc => by
    have e' : c = z ∨ c = TI ∨ c = TO ∨ c = i1 ∨ c = i2 := (by simpa using hc); rcases e' with q | q | q | q | q <;> rw [q]
    · exact ⟨_, hz, fun v q => nomatch q⟩
    · exact ⟨_, hTI, fun v q => nomatch q⟩
    · exact ⟨_, hTO, fun v q => nomatch q⟩
    · exact ⟨o1, e1, fun v q => by rw [d1] at q; cases q⟩
    · exact ⟨o2, e2, fun v q => by rw [d2] at q; cases q⟩
  keep := fun i h h' ⟨hz, hTI, ⟨x, y, hTO⟩, h1, h2⟩ k => ⟨k z (by simp) _ hz, k TI (by simp) _ hTI, ⟨x, y, k TO (by simp) _ hTO⟩, h1.at fun o q => k i1 (by simp) o q, h2.at fun o q => k i2 (by simp) o q⟩
  item := by
    intro X hP hw hK hc i pins s σ H E I hf ⟨hz, hTI, ⟨x0, y0, hTO⟩, h1, h2⟩ ⟨xs, ys, x, y, hqx, hqy, hx, hy⟩; subst hP hw hK
    obtain ⟨its, rv, p, _⟩ := I.tuple hqx; obtain ⟨its2, rv2, p2, _⟩ := I.list hqy; obtain ⟨u, hu, ru⟩ := rv.get hx; obtain ⟨u2, hu2, ru2⟩ := rv2.get hy
    have lz : z < s.heap.objs.size := Heap.lt_size hz
    refine py_item (wkT (items := its.toArray) D.l1i1) (wkL (items := its2.toArray) D.l2i2) D hz hTI hTO ⟨h1, p⟩ ⟨h2, p2.isList⟩ (x := u) (y := u2) (by simpa using hu) (by simpa using hu2) fun h' z' TO' h1' h2' hT hsz hk => ?_
    refine ⟨_, rfl, wpAny_letOwnedTupleGo_zip (s := { s with heap := h' }) z' fun h'' z'' sb => ?_⟩
    have hT2 : h''.get? s.heap.objs.size = some { cls := .type "tuple", data := .seq #[u, u2] } := (sb.2 _ (Nat.ne_of_gt lz)).trans hT
    have new : ObjOk X.prog X.w (upd H s.heap.objs.size (.tup [x, y])) h'' s.heap.objs.size (.tup [x, y]) := ⟨(show 2 ≤ sizeLine by decide), [u, u2], .cons ru (.cons ru2 .nil), ⟨_, hT2, rfl, _, rfl⟩⟩
    have kk' : ∀ c o, c ∉ [z, TI, TO, i1, i2] → s.heap.get? c = some o → h''.get? c = some o := fun c o hb q => (sb.2 c (fun q' => hb (by simp [q']))).trans (hk c o (fun q' => hb (by simp [q'])) (fun q' => hb (by simp [q'])) (fun q' => hb (by simp [q'])) (fun q' => hb (by simp [q'])) q)
    have I1 : Inv X pins σ (upd H s.heap.objs.size (.tup [x, y])) { s with heap := h'' } := I.turnedNew (t' := s.toks) (ch := [z, TI, TO, i1, i2]) kk' hf (Nat.le_refl _) new
    refine ⟨.ref s.heap.objs.size, _, I1, rfl, ⟨_, x, y, rfl, I.hok.fresh (Nat.le_refl _), rfl, fun l hl => by rw [I.tuple_inj hl hqx]; exact hx, fun l hl => by rw [I.list_inj hl hqy]; exact hy⟩, ⟨z'', (sb.2 _ D.TIz).trans (hk _ _ D.TIz D.TITO D.TIi1 D.TIi2 hTI), ⟨u, u2, (sb.2 _ D.TOz).trans TO'⟩, h1'.1.at fun o q => (sb.2 _ D.i1z).trans q, h2'.1.at fun o q => (sb.2 _ D.i2z).trans q⟩, fun c hcm => ?_⟩
    have hlt : c < s.heap.objs.size := by
      have e' : c = z ∨ c = TI ∨ c = TO ∨ c = i1 ∨ c = i2 := (by simpa using hcm); rcases e' with q | q | q | q | q <;> rw [q]
      · exact lz
      · exact Heap.lt_size hTI
      · exact Heap.lt_size hTO
      · obtain ⟨_, e1, _⟩ := h1; exact Heap.lt_size e1
      · obtain ⟨_, e2, _⟩ := h2; exact Heap.lt_size e2
    rw [upd_ne (Nat.ne_of_lt hlt)]; exact (hf c hcm).1
  done := by
    intro X hP hw hK hc i pins s σ H E I hf ⟨hz, hTI, ⟨x0, y0, hTO⟩, h1, h2⟩ ⟨xs, ys, hqx, hqy, hend⟩; subst hP hw hK
    obtain ⟨its, rv, p, _⟩ := I.tuple hqx; obtain ⟨its2, rv2, p2, _⟩ := I.list hqy; have m1 := rv.length; have m2 := rv2.length
    have he : its.toArray[i]? = none ∨ its2.toArray[i]? = none := (by rcases hend with q | q; (exact .inl (by simp; omega)); exact .inr (by simp; omega))
    exact py_done (wkT (items := its.toArray) D.l1i1) (wkL (items := its2.toArray) D.l2i2) (I.ok.hd hc) D hz hTI hTO ⟨h1, p⟩ ⟨h2, p2.isList⟩ he fun h' hk => ⟨rfl, I.turnedL (t' := s.toks) (ch := [z, TI, TO, i1, i2]) (fun c o hb q => hk c o (fun q' => hb (by simp [q'])) (fun q' => hb (by simp [q'])) (fun q' => hb (by simp [q'])) (fun q' => hb (by simp [q'])) q) hf⟩
  self := fun A i s Q E st h => wpAny_pyIter_zip st.1 h
end FZ

/-! FZ6: for .., .. in zip(tuple, list). -/
namespace FZ
open PySem RZ L2 PyProof.Rows FL
def iZipM (K : PySem.W.Frag) (ta : TA) : TI := fun σ H R => ta σ H fun vs H1 => ∃ a b xs ys, vs = [.ref a, .ref b] ∧ SqT K H1 a xs ∧ SqL K H1 b ys ∧ R (ItM K a b) H1
theorem pi_zipM {X : Cx} {e e2 : Expr} {ta : TA} {p pos tpos : Pos} {elts : List Expr} {kk : Nat} (hg : Gl X "zip") (hm : X.mg "zip" = none) (ha : PA X [e, e2] ta) (hs : starEach [e, e2] X.env = (false, eval e X.env) :: starEach [e2] X.env) (hpl : (backTo pos (starEach [e2] X.env)).any (·.1) = false) :
    PI X (.Tuple elts kk tpos) (.Call (.Name "zip" p) [e, e2] [] pos) (iZipM X.K ta) := by
  refine ⟨fun pins s σ H R I h => Call_ (ld_blt I hg hm PyProof.Rows.boot_zip (PyProof.Rows.callWith_type1 (thn (ha.run pos pins s σ H _ I h) fun us s1 ⟨vs, H1, I1, r1, a, b, xs, ys, ex, hqx, hqy, q⟩ => ?_) hs hpl))⟩
  subst ex
  cases r1 with
  | cons r rr =>
    cases rr with
    | cons r' rr =>
      cases rr; cases r; cases r'
      obtain ⟨its, rv, p1, _⟩ := I1.tuple hqx; obtain ⟨its2, rv2, p2, _⟩ := I1.list hqy; obtain ⟨o1, ho1, _⟩ := id p1
      have fresh5 : ∀ c, c ∈ [s1.heap.objs.size + 4, s1.heap.objs.size + 2, s1.heap.objs.size + 3, s1.heap.objs.size, s1.heap.objs.size + 1] → FpOk X pins H1 c := fun c hcm => by
        have hle : s1.heap.objs.size ≤ c := (by simp at hcm; omega)
        exact I1.fpOk hle (I1.hok.fresh hle)
      refine zcall (A := "tuple_iterator") (B := "list_iterator") (Pre := fun h => h.IsTuple a its.toArray ∧ h.IsList b its2.toArray) (newTL a b its.toArray its2.toArray) ⟨p1, p2.isList⟩ fun h' hz hTI hTO h1 h2 hk => wpAny_pyIter_zip hz ?_
      have I2 : Inv X pins σ H1 { s1 with heap := h' } := I1.kept (t' := s1.toks) hk
      exact ⟨s1.heap.objs.size + 4, [s1.heap.objs.size + 4, s1.heap.objs.size + 2, s1.heap.objs.size + 3, s1.heap.objs.size, s1.heap.objs.size + 1], _, _, H1, rfl, I2, turnM (PySem.W.ktu_apart s1.heap.objs.size a b (Heap.lt_size ho1) p2.lt), ⟨hz, hTI, ⟨_, _, hTO⟩, ⟨_, h1, rfl, rfl⟩, ⟨_, h2, rfl, rfl⟩⟩, fresh5, q⟩
section
variable {X : Cx} {c : C0} {γ α β : Type} {G : EnvT γ} [Rp α] [Rp β] {a b : Expr} {pos p : Pos}
theorem fi_zipTL {f1 : γ → Xc (Tu α)} {f2 : γ → Xc (List β)} {elts : List Expr} {kk : Nat} {tpos : Pos} (h1 : FE X c G a f1) (h2 : FE X c G b f2) (hm : X.mg "zip" = none) (hg : Gl X "zip" := by rfl) (hs : starEach [a, b] X.env = (false, eval a X.env) :: starEach [b] X.env := by rfl)
    (hs2 : starEach [b] X.env = (false, eval b X.env) :: starEach [] X.env := by rfl) (hpl : (backTo pos (starEach [b] X.env)).any (·.1) = false := by rfl) : FI X c G (.Tuple elts kk tpos) (.Call (.Name "zip" p) [a, b] [] pos) (fun g => (f1 g).bind fun l => (f2 g).bind fun m => Xc.ok (l.l.zip m)) :=
  PI.imp (pi_zipM hg hm (pa_cons h1 (pa_cons h2 pa_nil hs2) hs) hs hpl) fun σ H R ⟨F, g, w, q, p⟩ => by
    refine ⟨F, g, w, q, ?_⟩
    cases e1 : f1 g with
    | ok l =>
      rintro v F1 H1 w1 ⟨a1, xs, rfl, hx, hz, rx⟩
      simp only [e1] at p
      have p : PoI X.K F H R (WE c.W σ) ((f2 g).bind fun m => Xc.ok (l.l.zip m)) := p
      refine ⟨F1, g, w.trans w1, G.mono q w1, ?_⟩
      cases e2 : f2 g with
      | ok m =>
        rintro u F2 H2 w2 ⟨a2, ys, rfl, hy, hz2, ry⟩
        simp only [e2] at p
        have p : PoI X.K F H R (WE c.W σ) (.ok (l.l.zip m)) := p
        have hx2 : SqT X.K F2 a1 xs := Same.seqT w2.f hx
        have rx2 := rx.mono w2.f
        have lz : (l.l.zip m).length = min l.l.length m.length := List.length_zip
        refine ⟨a1, a2, xs, ys, rfl, Same.seqT w2.s hx2, Same.seq w2.s hy, p _ F2 H2 (w1.trans w2) ⟨by rw [lz]; omega, fun F' H' s1 s2 => ⟨xs, ys, Same.seqT (s1.trans s2) hx2, Same.seq (s1.trans s2) hy, ?_⟩, fun i F' H' hi s1 s2 => ?_, fun i t F' H' x H'' e3 s1 s2 y => ?_⟩⟩
        · rw [lz, rx.len, ry.len]; omega
        · rw [lz] at hi
          obtain ⟨vx, h3, _⟩ := rx.get' (List.getElem?_eq_getElem (show i < l.l.length by omega))
          obtain ⟨vy, h4, _⟩ := ry.get' (List.getElem?_eq_getElem (show i < m.length by omega))
          exact ⟨xs, ys, vx, vy, Same.seqT (s1.trans s2) hx2, Same.seq (s1.trans s2) hy, h3, h4⟩
        · obtain ⟨T, vx, vy, rfl, hT, rfl, y1, y2⟩ := y
          obtain ⟨g1, g2⟩ := FL.zip_get e3
          obtain ⟨vx', h3, r3⟩ := rx2.get' g1
          obtain ⟨vy', h4, r4⟩ := ry.get' g2
          have k1 := y1 xs (Same.seqT (s1.trans s2) hx2)
          have k2 := y2 ys (Same.seq (s1.trans s2) hy)
          rw [h3] at k1; rw [h4] at k2; cases k1; cases k2
          have w3 := Wd.new (o := .tup [vx, vy]) s2 hT
          exact ⟨_, w3, T, vx, vy, rfl, SqT.of upd_same, Rp.mono (s1.trans w3.f) r3, Rp.mono (s1.trans w3.f) r4⟩
      | er c' fs => simp only [e2] at p; exact ErP.on (show ErP X.K F H (WE c.W σ) c' fs from p) w1
      | no => simp only [e2] at p; exact p
    | er c' fs => simp only [e1] at p; exact p
    | no => simp only [e1] at p; exact p
end
end FZ

/-! FZ7: a pair as a tuple of any length. -/
namespace FL
open PySem L2
section
variable {X : Cx} {c : C0} {γ α : Type} {G : EnvT γ} [Rp α] {e : Expr}
theorem fe_pairU {fa : γ → Xc (α × α)} (ha : FE X c G e fa) : FE X c G e (fun g => (fa g).bind fun a => Xc.ok (tu [a.1, a.2])) :=
  fe_to (α := α × α) (β := Tu α) (φ := fun a => tu [a.1, a.2]) (fun {K F v a} r => by
    obtain ⟨p, x, y, e, h, r1, r2⟩ := r
    exact ⟨p, [x, y], e, h, small_line (by show 2 ≤ 1000; decide), .cons r1 (.cons r2 .nil)⟩) ha
end
end FL

/-! FS1: sorted(..) of alike data. -/
namespace FL
open PySem L2 PyProof.Rows
section
variable {X : Cx}
def rSortedD (K : PySem.W.Frag) : List V → Hp → VK → Prop := fun vs H Q => ∃ (a : Addr) (β : Type) (bs : List β) (f : β → V) (enc : β → PyData), vs = [.ref a] ∧ SqL K H a (bs.map f) ∧ (∀ b ∈ bs, Dp K H (f b) (enc b)) ∧
  PySem.W.AllAlike (bs.map enc) ∧ PySem.W.Sortable (bs.map enc) ∧ (∀ b ∈ bs, (enc b).depth ≤ 64) ∧ ∀ p, H p = none → Q (.ref p) (upd H p (.lst ((bs.mergeSort (PySem.W.dataLe false enc)).map f)))
theorem each_of_vals {β : Type} {f : β → V} {R : Value → β → Prop} : ∀ {bs : List β} {us : List Value}, Vals (bs.map f) us → (∀ b u, b ∈ bs → RelV (f b) u → R u b) → PySem.W.EachIs R us bs
  | [], us, r, h => by cases r; exact .nil
  | b :: bs, us, r, h => by
    cases r with
    | cons r1 r2 => exact .cons (h _ _ (by simp) r1) (each_of_vals r2 fun b u m => h b u (by simp [m]))
theorem vals_of_each {β : Type} {f : β → V} : ∀ {bs : List β} {us : List Value}, PySem.W.EachIs (fun u b => RelV (f b) u) us bs → Vals (bs.map f) us
  | _, _, .nil => .nil
  | _, _, .cons h t => .cons h (vals_of_each t)
theorem cr_sortedD {k : Nat} (hr : Room k X.A) : CallR X (.builtin "sorted") (rSortedD X.K) := by
  intro pins s σ H vs us Q I r h
  obtain ⟨a, β, bs, f, enc, rfl, hs, hd, hal, hk, hz, q⟩ := h
  obtain ⟨its, rv, hl, hsz⟩ := I.list hs
  obtain ⟨u, rfl, ru⟩ := vals1 r
  obtain rfl : u = Value.ref a := ru
  have hlen : bs.length ≤ sizeLine := by simpa using hsz
  refine PySem.W.sorted_data (R := fun v b => RelV (f b) v) hl.isList (each_of_vals rv fun _ _ _ r => r) (each_of_vals rv fun b u m r => Dp.reads I _ _ _ (hd b m) r) hal hk hlen (fun b hb => by have := hz b hb; have := hr.un; omega) fun out ho eo => ?_
  obtain ⟨n, hn⟩ := sortedAll_at s.heap its out.toArray
  refine ⟨.ref (s.heap.objs.size + 1), _, I.laid (t' := s.toks) (o := .lst ((bs.mergeSort (PySem.W.dataLe false enc)).map f)) (fun b o e => sortedAll_old e) (Nat.le_succ _) ⟨?_, out, n, vals_of_each eo, hn⟩, rfl, q _ (I.hok.fresh (Nat.le_succ _))⟩
  simpa using hlen
end
def alikeB (ds : List PyData) : Bool := ds.all fun d => ds.all fun e => PySem.W.alike d e
def tup1B : PyData → Bool
  | .tuple (_ :: _) => true
  | _ => false
def noTupB : PyData → Bool
  | .tuple _ => false
  | .none => false
  | _ => true
def sortableB (ds : List PyData) : Bool := ds.all tup1B || ds.all noTupB
theorem alikeB_ok {ds : List PyData} (h : alikeB ds = true) : PySem.W.AllAlike ds := fun d hd e he => List.all_eq_true.mp (List.all_eq_true.mp h d hd) e he
theorem sortableB_ok {ds : List PyData} (h : sortableB ds = true) : PySem.W.Sortable ds := by
  rcases Bool.or_eq_true_iff.mp h with h | h
  · refine .inl fun d hd => ?_
    have := List.all_eq_true.mp h d hd
    unfold tup1B at this
    split at this
    · exact ⟨_, _, rfl⟩
    · cases this
  · refine .inr fun d hd => ?_
    have := List.all_eq_true.mp h d hd
    constructor
    · intro e; subst e; cases this
    · intro xs e; subst e; cases this
@[irreducible] def sortX {α : Type} [Rp α] [ToD α] (l : List α) : Xc (List α) := if (l.all fun a => SeqAt.shaped (ToD.d a)) = true ∧ alikeB (l.map ToD.d) = true ∧ sortableB (l.map ToD.d) = true then .ok (l.mergeSort (PySem.W.dataLe false ToD.d)) else .no
section
variable {α : Type} [Rp α] {K : PySem.W.Frag} {F : Hp}
theorem al_zip_mem {xs : List V} {l : List α} (r : Al K F xs l) : ∀ p ∈ xs.zip l, Rp.is K F p.1 p.2 := by
  induction r with
  | nil => intro p h; simp at h
  | cons h t ih =>
    intro p m
    rcases List.mem_cons.mp m with e | m
    · subst e; exact h
    · exact ih p m
theorem al_of_pairs : ∀ {ps : List (V × α)}, (∀ p ∈ ps, Rp.is K F p.1 p.2) → Al K F (ps.map (·.1)) (ps.map (·.2))
  | [], _ => .nil
  | p :: ps, h => .cons (h p (by simp)) (al_of_pairs fun q m => h q (by simp [m]))
theorem al_zip1 {xs : List V} {l : List α} (r : Al K F xs l) : (xs.zip l).map (·.1) = xs := List.map_fst_zip (Nat.le_of_eq r.len)
theorem al_zip2 {xs : List V} {l : List α} (r : Al K F xs l) : (xs.zip l).map (·.2) = l := List.map_snd_zip (Nat.le_of_eq r.len.symm)
end
section
variable {X : Cx} {c : C0} {γ α : Type} {G : EnvT γ} [Rp α] {a : Expr} {pos p : Pos}
theorem fo_sorted [ToD α] {fa : γ → Xc (List α)} {k : Nat} (hr : Room k X.A) (ha : FE X c G a fa) (hm : X.mg "sorted" = none) (hg : Gl X "sorted" := by rfl) (hs : starEach [a] X.env = (false, eval a X.env) :: starEach [] X.env := by rfl) :
    FO X c G (.Call (.Name "sorted" p) [a] [] pos) (fun g => (fa g).bind sortX) :=
  call1O (r := rSortedD X.K) (fun h => pe_callB (cr_sortedD hr) hg hm (by decide +kernel) h (he := hs)) ha hs fun {F H v i Q E} s r p => by
    obtain ⟨q, xs, e, hq, z, al⟩ := r
    subst e
    unfold sortX at p
    by_cases c : (i.all fun a => SeqAt.shaped (ToD.d a)) = true ∧ alikeB (i.map ToD.d) = true ∧ sortableB (i.map ToD.d) = true
    · rw [if_pos c] at p
      obtain ⟨c1, c2, c3⟩ := c
      have e2 : (xs.zip i).map (fun b => ToD.d b.2) = i.map ToD.d := by
        have := congrArg (List.map ToD.d) (al_zip2 al)
        rw [List.map_map] at this
        exact this
      refine ⟨q, V × α, xs.zip i, (·.1), fun b => ToD.d b.2, rfl, by rw [al_zip1 al]; exact Same.seq s hq, fun b hb => dp_mono s (ToD.is (al_zip_mem al b hb)), by rw [e2]; exact alikeB_ok c2, by rw [e2]; exact sortableB_ok c3, fun b hb => ?_, fun p' hp' => ?_⟩
      · have := List.all_eq_true.mp c1 b.2 (List.of_mem_zip hb).2
        exact SeqAt.depth_of_shaped this
      · have ms : ((xs.zip i).mergeSort (PySem.W.dataLe false fun b => ToD.d b.2)).map (·.2) = i.mergeSort (PySem.W.dataLe false ToD.d) := by
          have := List.map_mergeSort (r := PySem.W.dataLe false fun (b : V × α) => ToD.d b.2) (s := PySem.W.dataLe false (ToD.d (α := α))) (f := Prod.snd) (l := xs.zip i) (fun _ _ _ _ => rfl)
          rw [this, al_zip2 al]
        have mem : ∀ b ∈ (xs.zip i).mergeSort (PySem.W.dataLe false fun b => ToD.d b.2), Rp.is X.K F b.1 b.2 := fun b hb => al_zip_mem al b ((List.mergeSort_perm _ _).mem_iff.mp hb)
        have al2 := al_of_pairs mem
        rw [ms] at al2
        refine p p' _ F _ (Wd.newO s hp') hp' (s.free hp') upd_same ?_ al2
        rw [List.length_mergeSort]
        exact z
    · rw [if_neg c] at p; exact p.elim
end
end FL

/-! FS2: list + list of any kind, tuple * int, tuples as tuples of data. -/
namespace FL
open PySem L2 PyProof.Rows
/-! ### list + list -/
section
variable {X : Cx}
def rCatF (K : PySem.W.Frag) : R2 := fun x y H Q => ∃ l b xs zs, x = .ref l ∧ y = .ref b ∧ SqL K H l xs ∧ SqL K H b zs ∧ xs.length + zs.length ≤ sizeLine ∧ ∀ p, H p = none → Q (.ref p) (upd H p (.lst (xs ++ zs)))
theorem op_catF : OpR X (binaryOp .Add) (rCatF X.K) := by
  intro pins s σ H x y v u Q I rx ry h
  obtain ⟨l, b, xs, zs, rfl, rfl, hH, hB, hz, q⟩ := h
  cases rx
  cases ry
  obtain ⟨its, r, hl, _⟩ := I.list hH
  obtain ⟨its2, r2, hl2, _⟩ := I.list hB
  obtain ⟨⟨cls, dd, data, sl⟩, ho, hc, n, hd⟩ := hl.isList
  obtain ⟨⟨cls2, dd2, data2, sl2⟩, ho2, hc2, n2, hd2⟩ := hl2.isList
  simp only at hc hd hc2 hd2
  subst hc hd hc2 hd2
  have e1 := r.length
  have e2 := r2.length
  refine concat_meets ⟨_, ho, rfl⟩ ⟨_, ho2, rfl⟩ noFill_list_add seq_list_add PySem.F.slot_list_add PySem.F.entry_list_add (PySem.F.args_list_add_2 _ _) (list_addW l b its.toArray its2.toArray n n2 dd dd2 sl sl2 (by simp only [List.size_toArray]; omega)) ⟨ho, ho2, ?_⟩
  have ea : its.toArray ++ its2.toArray = (its ++ its2).toArray := by simp
  rw [ea]
  exact ⟨.ref _, _, I.lnew (t' := s.toks) (r.append r2) (by rw [List.length_append]; omega), rfl, q _ I.fresh⟩
end
section
variable {X : Cx} {c : C0} {γ α β ρ : Type} {G : EnvT γ} [Rp α] [Rp β] [Rp ρ] {a b d e tg : Expr} {pos p p2 : Pos}
theorem twoO {a b : Expr} {fa : γ → Xc α} {fb : γ → Xc β} {op : α → β → Xc (List ρ)} {r : R2} {e : Expr} (h : ∀ {ta tb : TE}, PE X a ta → PE X b tb → PE X e (tOp r ta tb)) (ha : FE X c G a fa) (hb : FE X c G b fb)
    (hop : ∀ {F H x y i j Q E}, Same F H → Rp.is X.K F x i → Rp.is X.K F y j → PoO X.K F H Q E (op i j) → r x y H Q) : FO X c G e (fun g => (fa g).bind fun i => (fb g).bind fun j => op i j) :=
  PE.imp (h ha hb) fun σ H Q ⟨F, g, w, q, p⟩ => by
    refine ⟨F, g, w, q, ?_⟩
    cases e1 : fa g with
    | ok l =>
      intro v F1 H1 w1 r1
      simp only [e1] at p
      have p : PoO X.K F H Q (WE c.W σ) ((fb g).bind fun j => op l j) := p
      refine ⟨F1, g, w.trans w1, G.mono q w1, ?_⟩
      cases e2 : fb g with
      | ok m =>
        intro u F2 H2 w2 r2
        simp only [e2] at p
        exact hop w2.s (Rp.mono w2.f r1) r2 (PoO.on (show PoO X.K F H Q (WE c.W σ) (op l m) from p) (w1.trans w2))
      | er c' fs => simp only [e2] at p; exact ErP.on (show ErP X.K F H (WE c.W σ) c' fs from p) w1
      | no => simp only [e2] at p; exact p
    | er c' fs => simp only [e1] at p; exact p
    | no => simp only [e1] at p; exact p
theorem fo_catF {fa fb : γ → Xc (List α)} (ha : FE X c G a fa) (hb : FE X c G b fb) : FO X c G (.BinOp a .Add b pos) (fun g => (fa g).bind fun i => (fb g).bind fun j => catL i j) :=
  twoO (fun h1 h2 => pe_op op_catF h1 h2) ha hb fun {F H x y i j Q E} s r1 r2 p => by
    unfold catL at p
    by_cases h : i.length + j.length ≤ sizeLine
    · rw [if_pos h] at p
      obtain ⟨a1, xs, rfl, hx, hz, rx⟩ := r1
      obtain ⟨a2, ys, rfl, hy, hz2, ry⟩ := r2
      have lx := rx.len
      have ly := ry.len
      refine ⟨a1, a2, xs, ys, rfl, rfl, Same.seq s hx, Same.seq s hy, by omega, fun t ht => ?_⟩
      exact p t _ F _ (Wd.newO s ht) ht (s.free ht) upd_same (by rw [List.length_append]; exact h) (rx.app ry)
    · rw [if_neg h] at p; exact p.elim
/-! ### tuples as tuples of data -/
@[irreducible] def toUD {α : Type} [Rp α] [ToD α] (t : Tu α) : Xc (Tu PyData) := if (t.l.all fun a => SeqAt.shaped (ToD.d a)) = true then .ok (tu (t.l.map ToD.d)) else .no
@[irreducible] def pairUD {α β : Type} [Rp α] [Rp β] [ToD α] [ToD β] (t : α × β) : Xc (Tu PyData) := if SeqAt.shaped (ToD.d t.1) = true ∧ SeqAt.shaped (ToD.d t.2) = true then .ok (tu [ToD.d t.1, ToD.d t.2]) else .no
theorem al_toD {K : PySem.W.Frag} {F : Hp} [ToD α] {vs : List V} {as : List α} (h : Al K F vs as) (z : (as.all fun a => SeqAt.shaped (ToD.d a)) = true) : Al K F vs (as.map ToD.d) := by
  induction h with
  | nil => exact .nil
  | cons h t ih =>
    simp only [List.all_cons, Bool.and_eq_true] at z
    exact .cons ⟨ToD.is h, z.1⟩ (ih z.2)
theorem fe_toUD [ToD α] {fa : γ → Xc (Tu α)} (ha : FE X c G e fa) : FE X c G e (fun g => (fa g).bind toUD) :=
  fe_from (fun {K F v a b} h r => by
    unfold toUD at h
    by_cases z : (a.l.all fun a => SeqAt.shaped (ToD.d a)) = true
    · rw [if_pos z] at h
      cases h
      obtain ⟨p, xs, e, hq, hz, al⟩ := r
      exact ⟨p, xs, e, hq, by show (a.l.map ToD.d).length ≤ _; rw [List.length_map]; exact hz, al_toD al z⟩
    · rw [if_neg z] at h; cases h) (fun a c fs h => by
    unfold toUD at h
    split at h <;> cases h) ha
theorem fe_pairUD [ToD α] [ToD β] {fa : γ → Xc (α × β)} (ha : FE X c G e fa) : FE X c G e (fun g => (fa g).bind pairUD) :=
  fe_from (fun {K F v a b} h r => by
    unfold pairUD at h
    by_cases z : SeqAt.shaped (ToD.d a.1) = true ∧ SeqAt.shaped (ToD.d a.2) = true
    · rw [if_pos z] at h
      cases h
      obtain ⟨p, x, y, e, hq, r1, r2⟩ := r
      exact ⟨p, [x, y], e, hq, by show 2 ≤ _; rw [sizeLine_eq]; decide, .cons ⟨ToD.is r1, z.1⟩ (.cons ⟨ToD.is r2, z.2⟩ .nil)⟩
    · rw [if_neg z] at h; cases h) (fun a c fs h => by
    unfold pairUD at h
    split at h <;> cases h) ha
end
end FL

/-! FS3: tuple * int. -/
namespace FL
open PySem L2 PyProof.Rows PySem.Spec
theorem tuple_mul1 (l : Addr) (items : Array Value) (n : Nat) (dd : Option Addr) (sl : Array (Option Value)) (x : Int) (u : Tok) (c0 : (decide (x < -(2 ^ 63)) || decide (x ≥ 2 ^ 63)) = false) (c1 : (items.isEmpty || x == 1) = true) :
    Meets (Builtin.«tuple.__mul__» ⟨[.ref l, .int x u], []⟩) (fun _ R s => s.heap.get? l = some { cls := .type "tuple", dict := dd, data := .seq items n, slots := sl } ∧
      R (.ok (.ret (Value.ref l))) { s with heap := s.heap, toks := s.toks }) :=
  .of_wp fun prog w A R s h => by
    obtain ⟨hp, g, d, tk, os⟩ := s
    obtain ⟨hl, h⟩ := h
    have f1 := AutoSeq1.idx_int
    have f2 := AutoSeq1.sub_tuple_tuple
    wp_walk using AutoSeq1.wpAny_loadPart' hl
    repeat (first
      | (refine wpAny_ite_false (decide_eq_false (by rw [c0]; exact Bool.false_ne_true)) ?_; wp_walk using AutoSeq1.wpAny_loadPart' hl)
      | (refine wpAny_ite_true (decide_eq_true (by rw [c1])) ?_; wp_walk using AutoSeq1.wpAny_loadPart' hl))
    exact ⟨_, rfl, h⟩
def rRep1 (K : PySem.W.Frag) : R2 := fun x y H Q => ∃ l xs, x = .ref l ∧ y = .int 1 ∧ SqT K H l xs ∧ Q (.ref l) H
theorem op_rep1 {X : Cx} : OpR X (binaryOp .Mult) (rRep1 X.K) := by
  intro pins s σ H x y v u Q I rx ry h
  obtain ⟨l, xs, rfl, rfl, hT, q⟩ := h
  cases rx
  obtain ⟨t, rfl⟩ := ry
  obtain ⟨its, r, ⟨⟨cls, dd, data, sl⟩, ho, hc, n, hd⟩, hs⟩ := I.tuple hT
  simp only at hc hd
  subst hc hd
  have c0 : (decide ((1 : Int) < -(2 ^ 63)) || decide ((1 : Int) ≥ 2 ^ 63)) = false := by decide
  have c1 : (its.toArray.isEmpty || (1 : Int) == 1) = true := by rw [Bool.or_eq_true_iff]; exact .inr (by decide)
  refine wpAny_binaryOp_repeat_ref (T := "tuple") (U := "int") (by decide) ⟨_, ho, rfl⟩ (fun s' => typeIs_int s' 1 t) noFill_tuple_mul F.fills_int_mul F.slot_int_rmul repeat_tuple F.slot_int_index.lookup
    (call_meets F.slot_int_rmul (typeIs_int s 1 t) F.entry_int_rmul (F.args_int_rmul_2 _ _) (int_rmul_tuple 1 t l its.toArray n dd sl)
      ⟨ho, rfl, ⟨_, ho, rfl⟩, call_meets F.slot_tuple_mul ⟨_, ho, rfl⟩ F.entry_tuple_mul (F.args_tuple_mul_2 _ _) (tuple_mul1 l its.toArray n dd sl 1 t c0 c1) ⟨ho, ?_⟩⟩)
  exact ⟨.ref l, H, I.tok _, rfl, q⟩
@[irreducible] def repU {α : Type} (t : Tu α) (k : Int) : Xc (Tu α) := if 1 ≤ k ∧ k ≤ 1000 ∧ t.l.length ≤ 1000 ∧ t.l ≠ [] then .ok (tu (List.replicate k.toNat t.l).flatten) else .no
instance {α : Type} (l : List α) : Decidable (l ≠ []) := by cases l with
  | nil => exact .isFalse (fun h => h rfl)
  | cons => exact .isTrue (fun h => by cases h)
section
variable {X : Cx} {c : C0} {γ α : Type} {G : EnvT γ} [Rp α] {a b e : Expr} {pos : Pos}
theorem fe_repU {fa : γ → Xc (Tu α)} {fb : γ → Xc Int} (ha : FE X c G a fa) (hb : FE X c G b fb) : FE X c G (.BinOp a .Mult b pos) (fun g => (fa g).bind fun i => (fb g).bind fun j => repU i j) :=
  two (fun h1 h2 => pe_op (OpR.or op_rep1 op_repT) h1 h2) ha hb fun {F H x y i j Q E} s r1 r2 p => by
    unfold repU at p
    by_cases h : 1 ≤ j ∧ j ≤ 1000 ∧ i.l.length ≤ 1000 ∧ i.l ≠ []
    · rw [if_pos h] at p
      obtain ⟨a1, xs, rfl, hx, hz, rx⟩ := r1
      have r2 : y = .int j := r2
      subst r2
      obtain ⟨h1, h2, h3, h4⟩ := h
      have lx := rx.len
      have e1 : (List.replicate j.toNat i.l).flatten.length = j.toNat * i.l.length := by rw [List.length_flatten, List.map_replicate, List.sum_replicate_nat]
      have e2 : j.toNat * i.l.length ≤ 1000 * 1000 := Nat.mul_le_mul (by omega) h3
      by_cases k1 : j = 1
      · subst k1
        refine .inl ⟨a1, xs, rfl, rfl, Same.seqT s hx, p.ret s ⟨a1, xs, rfl, hx, ?_, ?_⟩⟩
        · show (List.replicate 1 i.l).flatten.length ≤ sizeLine
          simpa using hz
        · show Al _ _ _ (List.replicate 1 i.l).flatten
          simpa using rx
      · refine .inr ⟨a1, j, xs, rfl, rfl, Same.seqT s hx, fun e => h4 ?_, by omega, h2, by omega, fun t ht => ?_⟩
        · cases q : i.l with
          | nil => rfl
          | cons _ _ => rw [q, e] at lx; cases lx
        · have w2 := Wd.new (o := .tup (List.replicate j.toNat xs).flatten) s ht
          exact p (.ref t) _ _ w2 ⟨t, _, rfl, SqT.of upd_same, by show (List.replicate j.toNat i.l).flatten.length ≤ _; rw [e1, sizeLine_eq]; omega, (al_flat rx j.toNat).mono w2.f⟩
    · rw [if_neg h] at p; exact p.elim
end
end FL

/-! PL1: plain laws of the mirrors' words. -/
namespace FL
open PySem L2
theorem size_ge : 1000000 ≤ sizeLine := by rw [sizeLine_eq]; decide
theorem mulX_r {i j : Int} (h : j.natAbs < 2 ^ 64) : mulX i j = .ok (i * j) := by unfold mulX; rw [if_pos (.inr (.inl h))]
theorem mulX_l {i j : Int} (h : i.natAbs < 2 ^ 64) : mulX i j = .ok (i * j) := by unfold mulX; rw [if_pos (.inl h)]
theorem log2_of {n b : Nat} (h : n < 2 ^ b) (h0 : 0 < b) : n.log2 < b := by
  by_cases e : n = 0
  · subst e; simpa using h0
  · exact (Nat.log2_lt e).2 h
theorem mulX_b {i j : Int} {a b : Nat} (hi : i.natAbs < 2 ^ a) (hj : j.natAbs < 2 ^ b) (h : a + b ≤ 1000000) (ha : 0 < a := by decide) (hb : 0 < b := by decide) : mulX i j = .ok (i * j) := by
  unfold mulX
  have := log2_of hi ha
  have := log2_of hj hb
  rw [if_pos (.inr (.inr (by omega)))]
theorem fdvX_b {i j : Int} {b : Nat} (h : j ≠ 0) (hj : j.natAbs < 2 ^ b) (hb : b ≤ 9000) (h0 : 0 < b := by decide) : fdvX i j = .ok (i.fdiv j) := by
  unfold fdvX
  have := log2_of hj h0
  rw [if_pos ⟨h, by omega⟩]
theorem modX_b {i j : Int} (h : j ≠ 0) : modX i j = .ok (i.fmod j) := by unfold modX; rw [if_pos h]
theorem powX_b {i j : Int} (h : 0 ≤ j ∧ j ≤ 1000000 ∧ i.natAbs < 2 ^ 64) : powX i j = .ok (i ^ j.toNat) := by unfold powX; rw [if_pos h]
theorem rngX_b {i j : Int} (hi : 0 ≤ i) (hj : j ≤ 1000000) (hi2 : i ≤ 1000000) (hj0 : -1000000 ≤ j) : rngX i j = .ok (rangeL i j) := by
  have := size_ge
  unfold rngX
  rw [if_pos ⟨by omega, by omega, by omega, by omega, by omega⟩]
theorem appX_b {α : Type} {l : List α} {a : α} (h : l.length < 1000000) : appX l a = .ok (l ++ [a]) := by
  have := size_ge
  unfold appX
  rw [if_pos (by omega)]
theorem szX_b {α : Type} {l : List α} (h : l.length ≤ 1000000) : szX l = .ok l := by
  have := size_ge
  unfold szX
  rw [if_pos (by omega)]
theorem atI_n {α : Type} {l : List α} {i : Int} {n : Nat} {a : α} (hi : i = n) (h : l[n]? = some a) : atI l i = some a := by
  subst hi
  exact atI_nat h
theorem getX_b {α : Type} {l : List α} {i : Int} {a : α} (h0 : 0 ≤ i) (h : l[i.toNat]? = some a) : getX l i = .ok a := by
  unfold getX
  rw [atI_n (n := i.toNat) (by omega) h]
theorem getX_ex {α : Type} {l : List α} {i : Int} (h0 : 0 ≤ i) (h : i < l.length) : ∃ a, getX l i = .ok a ∧ a ∈ l ∧ l[i.toNat]? = some a := by
  have h' : i.toNat < l.length := by omega
  exact ⟨l[i.toNat], getX_b h0 (List.getElem?_eq_getElem h'), List.getElem_mem h', List.getElem?_eq_getElem h'⟩
theorem setX_b {α : Type} {l : List α} {i : Int} {a : α} (h0 : 0 ≤ i) (h : i < l.length) : setX l i a = .ok (l.set i.toNat a) := by
  unfold setX
  rw [show ixN l.length i = some i.toNat from by
    unfold ixN
    rw [if_pos h0, if_pos h]]
theorem someX_ok {α : Type} (a : α) : someX (some a) = .ok a := rfl
theorem bind_okI {α β : Type} {m : Xc α} {k : α → Xc β} {a : α} {r : Xc β} (h : m = .ok a) (h2 : k a = r) : m.bind k = r := by rw [h]; exact h2
theorem foldX_inv {γ α : Type} {f : γ → α → Xc γ} (P : γ → Prop) : ∀ {l : List α} {g : γ}, P g → (∀ g a, a ∈ l → P g → ∃ g', f g a = .ok g' ∧ P g') → ∃ g', foldX f l g = .ok g' ∧ P g'
  | [], g, h, _ => ⟨g, rfl, h⟩
  | a :: l, g, h, hs => by
    obtain ⟨g1, e1, h1⟩ := hs g a List.mem_cons_self h
    obtain ⟨g2, e2, h2⟩ := foldX_inv (f := f) P (l := l) h1 fun g a m => hs g a (List.mem_cons_of_mem _ m)
    exact ⟨g2, by show (f g a).bind _ = _; rw [e1]; exact e2, h2⟩
theorem foldX_ix {γ α : Type} {f : γ → α → Xc γ} (P : Nat → γ → Prop) {l : List α} {g : γ} (h : P 0 g) (hs : ∀ i g a, l[i]? = some a → P i g → ∃ g', f g a = .ok g' ∧ P (i + 1) g') : ∃ g', foldX f l g = .ok g' ∧ P l.length g' := by
  have go : ∀ (l' : List α) (k : Nat) (g : γ), (∀ i, l'[i]? = l[k + i]?) → P k g → ∃ g', foldX f l' g = .ok g' ∧ P (k + l'.length) g' := by
    intro l'
    induction l' with
    | nil => intro k g _ h; exact ⟨g, rfl, h⟩
    | cons a l' ih =>
      intro k g he h
      obtain ⟨g1, e1, h1⟩ := hs k g a (by have := he 0; simpa using this.symm) h
      obtain ⟨g2, e2, h2⟩ := ih (k + 1) g1 (fun i => by have := he (i + 1); simp only [List.getElem?_cons_succ] at this; rw [this]; congr 1; omega) h1
      exact ⟨g2, by show (f g a).bind _ = _; rw [e1]; exact e2, by rw [List.length_cons, show k + (l'.length + 1) = k + 1 + l'.length by omega]; exact h2⟩
  obtain ⟨g', e, h'⟩ := go l 0 g (fun i => by rw [Nat.zero_add]) h
  exact ⟨g', e, by simpa using h'⟩
/-- a loop whose turns either go on or return r -/
theorem forX_ct {γ α ρ : Type} {f : γ → α → Xc (Lp γ ρ)} (P : γ → Prop) : ∀ {l : List α} {g : γ}, P g → (∀ g a, a ∈ l → P g → ∃ g', f g a = .ok (.ct g') ∧ P g') → ∃ g', forX f l g = .ok (.inl g') ∧ P g'
  | [], g, h, _ => ⟨g, rfl, h⟩
  | a :: l, g, h, hs => by
    obtain ⟨g1, e1, h1⟩ := hs g a List.mem_cons_self h
    obtain ⟨g2, e2, h2⟩ := forX_ct (f := f) P (l := l) h1 fun g a m => hs g a (List.mem_cons_of_mem _ m)
    exact ⟨g2, by show (f g a).bind _ = _; rw [e1]; exact e2, h2⟩
theorem forX_cons {γ α ρ : Type} {f : γ → α → Xc (Lp γ ρ)} {a : α} {l : List α} {g : γ} : forX f (a :: l) g = (f g a).bind fun t => match t with
    | .ct g' => forX f l g'
    | .bk g' => .ok (.inl g')
    | .rt r => .ok (.inr r) := rfl
theorem forK_inl {γ ρ τ : Type} {g : γ} {rt : ρ → τ} {k : γ → Xc τ} : forK (.ok (.inl g)) rt k = k g := rfl
theorem forK_inr {γ ρ τ : Type} {r : ρ} {rt : ρ → τ} {k : γ → Xc τ} : forK (.ok (.inr r)) rt k = .ok (rt r) := rfl
theorem compX_map {α β : Type} {t : α → Xc Bool} {f : α → Xc β} {h : α → β} : ∀ {l : List α}, (∀ a ∈ l, t a = .ok true ∧ f a = .ok (h a)) → compX t f l = .ok (l.map h)
  | [], _ => rfl
  | a :: l, hs => by
    obtain ⟨h1, h2⟩ := hs a List.mem_cons_self
    have ih := compX_map (t := t) (f := f) (h := h) (l := l) fun a m => hs a (List.mem_cons_of_mem _ m)
    simp only [compX, h1, h2, nx, bind_ok, if_true, ih, List.map_cons]
theorem compX_fil {α : Type} {t : α → Xc Bool} {p : α → Bool} : ∀ {l : List α}, (∀ a ∈ l, t a = .ok (p a)) → compX t (fun a => Xc.ok a) l = .ok (l.filter p)
  | [], _ => rfl
  | a :: l, hs => by
    have h1 := hs a List.mem_cons_self
    have ih := compX_fil (t := t) (p := p) (l := l) fun a m => hs a (List.mem_cons_of_mem _ m)
    simp only [compX, h1, nx, bind_ok, ih, List.filter_cons]
    cases p a <;> simp [bind_ok]
theorem rangeL_mem {lo hi a : Int} (h : a ∈ rangeL lo hi) : lo ≤ a ∧ a < hi := by
  unfold rangeL at h
  obtain ⟨i, hi', rfl⟩ := List.mem_map.mp h
  have := List.mem_range.mp hi'
  omega
end FL

/-! PL2: what a mirror gives, as a wish. -/
namespace FL
open PySem L2
def Ok {α : Type} (m : Xc α) (Q : α → Prop) : Prop := ∃ a, m = .ok a ∧ Q a
theorem ok_ok {α : Type} {a : α} {Q : α → Prop} : Ok (.ok a) Q ↔ Q a := ⟨fun ⟨b, e, h⟩ => by cases e; exact h, fun h => ⟨a, rfl, h⟩⟩
theorem ok_bind {α β : Type} {m : Xc α} {k : α → Xc β} {Q : β → Prop} : Ok (m.bind k) Q ↔ Ok m fun a => Ok (k a) Q := by
  constructor
  · rintro ⟨b, e, h⟩
    obtain ⟨a, e1, e2⟩ := bind_eq_ok.mp e
    exact ⟨a, e1, b, e2, h⟩
  · rintro ⟨a, e1, b, e2, h⟩
    exact ⟨b, by rw [e1]; exact e2, h⟩
theorem Ok.imp {α : Type} {m : Xc α} {Q Q' : α → Prop} (h : Ok m Q) (i : ∀ a, Q a → Q' a) : Ok m Q' := let ⟨a, e, q⟩ := h; ⟨a, e, i a q⟩
theorem Ok.of {α : Type} {m : Xc α} {a : α} {Q : α → Prop} (h : m = .ok a) (q : Q a) : Ok m Q := ⟨a, h, q⟩
theorem ok_of {α : Type} {m : Xc α} {a : α} {Q : α → Prop} (h : m = .ok a) : Ok m Q ↔ Q a := by rw [h, ok_ok]
theorem ok_ite {α : Type} {b : Bool} {A B : Xc α} {Q : α → Prop} : Ok (if b = true then A else B) Q ↔ (b = true → Ok A Q) ∧ (b = false → Ok B Q) := by
  cases b <;> simp
theorem ok_mulr {i j : Int} {Q : Int → Prop} (h : j.natAbs < 2 ^ 64) : Ok (mulX i j) Q ↔ Q (i * j) := ok_of (mulX_r h)
theorem ok_mull {i j : Int} {Q : Int → Prop} (h : i.natAbs < 2 ^ 64) : Ok (mulX i j) Q ↔ Q (i * j) := ok_of (mulX_l h)
theorem ok_mod {i j : Int} {Q : Int → Prop} (h : j ≠ 0) : Ok (modX i j) Q ↔ Q (i.fmod j) := ok_of (modX_b h)
theorem ok_fdv {i j : Int} {Q : Int → Prop} (h : j ≠ 0) (h2 : j.natAbs < 2 ^ 64) : Ok (fdvX i j) Q ↔ Q (i.fdiv j) := ok_of (fdvX_b h h2 (by decide))
theorem ok_pow {i j : Int} {Q : Int → Prop} (h : 0 ≤ j ∧ j ≤ 1000000 ∧ i.natAbs < 2 ^ 64) : Ok (powX i j) Q ↔ Q (i ^ j.toNat) := ok_of (powX_b h)
theorem ok_rng {i j : Int} {Q : List Int → Prop} (h : 0 ≤ i ∧ j ≤ 1000000 ∧ i ≤ 1000000 ∧ -1000000 ≤ j) : Ok (rngX i j) Q ↔ Q (rangeL i j) := ok_of (rngX_b h.1 h.2.1 h.2.2.1 h.2.2.2)
theorem ok_app {α : Type} {l : List α} {a : α} {Q : List α → Prop} (h : l.length < 1000000) : Ok (appX l a) Q ↔ Q (l ++ [a]) := ok_of (appX_b h)
theorem ok_fold {γ α : Type} {f : γ → α → Xc γ} {l : List α} {g : γ} {Q : γ → Prop} (P : γ → Prop) (h : P g) (hs : ∀ g a, a ∈ l → P g → Ok (f g a) P) (hq : ∀ g, P g → Q g) : Ok (foldX f l g) Q := by
  obtain ⟨g', e, p⟩ := foldX_inv (f := f) P h hs
  exact ⟨g', e, hq g' p⟩
theorem ok_foldI {γ α : Type} {f : γ → α → Xc γ} {l : List α} {g : γ} {Q : γ → Prop} (P : Nat → γ → Prop) (h : P 0 g) (hs : ∀ i g a, l[i]? = some a → P i g → Ok (f g a) (P (i + 1))) (hq : ∀ g, P l.length g → Q g) : Ok (foldX f l g) Q := by
  obtain ⟨g', e, p⟩ := foldX_ix (f := f) P h hs
  exact ⟨g', e, hq g' p⟩
theorem len_app {α : Type} {l : List α} {a : α} : (l ++ [a]).length = l.length + 1 := by simp
end FL

/-! QG: greatest common divisors of lists, lowest terms of points. -/
namespace FL
open PySem L2
def gcdL (l : List Int) (s : Int) : Nat := l.foldl (fun g a => Nat.gcd g a.natAbs) s.natAbs
theorem gcdF_dvd : ∀ (l : List Int) (g : Nat), l.foldl (fun g a => Nat.gcd g a.natAbs) g ∣ g ∧ ∀ a ∈ l, l.foldl (fun g a => Nat.gcd g a.natAbs) g ∣ a.natAbs
  | [], g => ⟨Nat.dvd_refl _, fun a m => by cases m⟩
  | x :: l, g => by
    obtain ⟨h1, h2⟩ := gcdF_dvd l (Nat.gcd g x.natAbs)
    refine ⟨Nat.dvd_trans h1 (Nat.gcd_dvd_left _ _), fun a m => ?_⟩
    rcases List.mem_cons.mp m with e | m
    · subst e; exact Nat.dvd_trans h1 (Nat.gcd_dvd_right _ _)
    · exact h2 a m
theorem dvd_gcdF : ∀ (l : List Int) (g d : Nat), d ∣ g → (∀ a ∈ l, d ∣ a.natAbs) → d ∣ l.foldl (fun g a => Nat.gcd g a.natAbs) g
  | [], g, d, h, _ => h
  | x :: l, g, d, h, hs => dvd_gcdF l _ d (Nat.dvd_gcd h (hs x (by simp))) fun a m => hs a (by simp [m])
theorem gcdL_s (l : List Int) (s : Int) : gcdL l s ∣ s.natAbs := (gcdF_dvd l _).1
theorem gcdL_a (l : List Int) (s : Int) {a : Int} (h : a ∈ l) : gcdL l s ∣ a.natAbs := (gcdF_dvd l _).2 a h
theorem dvd_gcdL {l : List Int} {s : Int} {d : Nat} (h : d ∣ s.natAbs) (hs : ∀ a ∈ l, d ∣ a.natAbs) : d ∣ gcdL l s := dvd_gcdF l _ d h hs
theorem gcdL_nil (s : Int) : gcdL [] s = s.natAbs := rfl
theorem gcdL_eq_of {l l' : List Int} {s s' : Int} (h : ∀ d : Nat, (d ∣ s.natAbs ∧ ∀ a ∈ l, d ∣ a.natAbs) ↔ (d ∣ s'.natAbs ∧ ∀ a ∈ l', d ∣ a.natAbs)) : gcdL l s = gcdL l' s' := by
  apply Nat.dvd_antisymm
  · have := (h (gcdL l s)).mp ⟨gcdL_s _ _, fun a m => gcdL_a _ _ m⟩
    exact dvd_gcdL this.1 this.2
  · have := (h (gcdL l' s')).mpr ⟨gcdL_s _ _, fun a m => gcdL_a _ _ m⟩
    exact dvd_gcdL this.1 this.2
theorem gcdF_mul (c : Int) : ∀ (l : List Int) (g : Nat), (l.map (c * ·)).foldl (fun g a => Nat.gcd g a.natAbs) (c.natAbs * g) = c.natAbs * l.foldl (fun g a => Nat.gcd g a.natAbs) g
  | [], g => rfl
  | x :: l, g => by
    simp only [List.map_cons, List.foldl_cons]
    rw [Int.natAbs_mul, Nat.gcd_mul_left]
    exact gcdF_mul c l _
theorem gcdL_mul (c : Int) (l : List Int) (s : Int) : gcdL (l.map (c * ·)) (c * s) = c.natAbs * gcdL l s := by
  unfold gcdL
  rw [Int.natAbs_mul]
  exact gcdF_mul c l _
theorem gcdL_le {l : List Int} {s : Int} (h : s ≠ 0) : gcdL l s ≤ s.natAbs ∧ 0 < gcdL l s := by
  have h1 : 0 < s.natAbs := by omega
  exact ⟨Nat.le_of_dvd h1 (gcdL_s l s), Nat.pos_of_dvd_of_pos (gcdL_s l s) h1⟩
/-- the divisor of lowest terms, with the sign of the bottom -/
def sgd (l : List Int) (b : Int) : Int := if b < 0 then -(gcdL l b : Int) else (gcdL l b : Int)
def pt (l : List Int) (b : Int) : Tu Int × Int := (tu (l.map fun t => t.fdiv (sgd l b)), b.fdiv (sgd l b))
structure Low (p : Tu Int × Int) : Prop where
  pos : 1 ≤ p.2
  cop : gcdL (Tu.l p.1) p.2 = 1
theorem sgd_ne {l : List Int} {b : Int} (h : b ≠ 0) : sgd l b ≠ 0 := by
  have := (gcdL_le (l := l) h).2
  unfold sgd
  split <;> omega
theorem sgd_abs (l : List Int) (b : Int) : (sgd l b).natAbs = gcdL l b := by
  unfold sgd
  split <;> omega
theorem pt_of_mul {c y : Int} {xs : List Int} (hc : c ≠ 0) (hy : 1 ≤ y) (h1 : gcdL xs y = 1) : pt (xs.map (c * ·)) (c * y) = (tu xs, y) := by
  have e : sgd (xs.map (c * ·)) (c * y) = c := by
    unfold sgd
    rw [gcdL_mul, h1]
    by_cases hn : c < 0
    · rw [if_pos (Int.mul_neg_of_neg_of_pos hn (by omega))]; omega
    · rw [if_neg (by have := Int.mul_nonneg (show 0 ≤ c by omega) (show 0 ≤ y by omega); omega)]; omega
  unfold pt
  rw [e, Int.mul_fdiv_cancel_left _ hc, List.map_map]
  congr 1
  show tu (xs.map _) = tu xs
  congr 1
  conv => rhs; rw [← List.map_id xs]
  apply List.map_congr_left
  intro x _
  show (c * x).fdiv c = x
  rw [Int.mul_fdiv_cancel_left _ hc]
theorem pt_split {l : List Int} {b : Int} (hb : b ≠ 0) : ∃ (c : Int) (xs : List Int) (y : Int), c ≠ 0 ∧ l = xs.map (c * ·) ∧ b = c * y ∧ 1 ≤ y ∧ gcdL xs y = 1 ∧ pt l b = (tu xs, y) := by
  have hc := sgd_ne (l := l) hb
  have ha := sgd_abs l b
  have hdb : sgd l b ∣ b := Int.natAbs_dvd_natAbs.mp (by rw [ha]; exact gcdL_s l b)
  have hda : ∀ a ∈ l, sgd l b ∣ a := fun a m => Int.natAbs_dvd_natAbs.mp (by rw [ha]; exact gcdL_a l b m)
  have el : l = (l.map fun t => t.fdiv (sgd l b)).map (sgd l b * ·) := by
    rw [List.map_map]
    conv => lhs; rw [← List.map_id l]
    apply List.map_congr_left
    intro x m
    obtain ⟨z, hz⟩ := hda x m
    show x = sgd l b * x.fdiv (sgd l b)
    rw [hz, Int.mul_fdiv_cancel_left _ hc]
  have eb : b = sgd l b * b.fdiv (sgd l b) := by
    obtain ⟨z, hz⟩ := hdb
    generalize sgd l b = c at *
    rw [hz, Int.mul_fdiv_cancel_left _ hc]
  have pos : 1 ≤ b.fdiv (sgd l b) := by
    obtain ⟨z, hz⟩ := hdb
    have hs : 0 < sgd l b ↔ 0 < b := by
      have := (gcdL_le (l := l) hb).2
      unfold sgd
      split <;> omega
    generalize sgd l b = c at *
    subst hz
    rw [Int.mul_fdiv_cancel_left _ hc]
    by_cases hcp : 0 < c
    · have h1 := hs.mp hcp
      by_cases q : 0 < z
      · exact q
      · have h2 := Int.mul_le_mul_of_nonneg_left (show z ≤ 0 by omega) (show 0 ≤ c by omega)
        rw [Int.mul_zero] at h2
        omega
    · have h1 : ¬ 0 < c * z := fun q => hcp (hs.mpr q)
      have h2 : c < 0 := by omega
      have hz0 : z ≠ 0 := fun q => hb (by rw [q, Int.mul_zero])
      by_cases q : 0 < z
      · exact q
      · have := Int.mul_pos_of_neg_of_neg h2 (show z < 0 by omega)
        omega
  refine ⟨sgd l b, l.map fun t => t.fdiv (sgd l b), b.fdiv (sgd l b), hc, el, eb, pos, ?_, rfl⟩
  have hg := gcdL_mul (sgd l b) (l.map fun t => t.fdiv (sgd l b)) (b.fdiv (sgd l b))
  rw [← el, ← eb, ha] at hg
  have h0 := (gcdL_le (l := l) hb).2
  exact (Nat.eq_of_mul_eq_mul_left h0 (by rw [Nat.mul_one]; exact hg)).symm
theorem pt_lp {l : List Int} {b : Int} (hb : b ≠ 0) : Low (pt l b) := by
  obtain ⟨c, xs, y, _, _, _, h1, h2, e⟩ := pt_split (l := l) hb
  rw [e]
  exact ⟨h1, h2⟩
theorem cross_dvd {xs xs' : List Int} {y y' : Int} (h1 : gcdL xs y = 1) (h : xs.map (· * y') = xs'.map (· * y)) : y.natAbs ∣ y'.natAbs := by
  have e : gcdL (xs.map (y' * ·)) (y' * y) = y'.natAbs := by rw [gcdL_mul, h1, Nat.mul_one]
  rw [← e]
  refine dvd_gcdL ⟨y'.natAbs, by rw [Int.natAbs_mul, Nat.mul_comm]⟩ fun a m => ?_
  have e2 : xs.map (y' * ·) = xs'.map (· * y) := by
    rw [← h]
    exact List.map_congr_left fun x _ => Int.mul_comm _ _
  rw [e2] at m
  obtain ⟨z, _, rfl⟩ := List.mem_map.mp m
  exact ⟨z.natAbs, by rw [Int.natAbs_mul, Nat.mul_comm]⟩
theorem cross_pt {xs xs' : List Int} {y y' : Int} (hy : 1 ≤ y) (hy' : 1 ≤ y') (h1 : gcdL xs y = 1) (h2 : gcdL xs' y' = 1) (h : xs.map (· * y') = xs'.map (· * y)) : xs = xs' ∧ y = y' := by
  have d1 := cross_dvd h1 h
  have d2 := cross_dvd h2 h.symm
  have e : y = y' := by have := Nat.dvd_antisymm d1 d2; omega
  subst e
  refine ⟨?_, rfl⟩
  exact (List.map_inj_right fun a b q => Int.eq_of_mul_eq_mul_right (show y ≠ 0 by omega) q).mp h
theorem pt_eq {l l' : List Int} {b b' : Int} (hb : b ≠ 0) (hb' : b' ≠ 0) (h : l.map (· * b') = l'.map (· * b)) : pt l b = pt l' b' := by
  obtain ⟨c, xs, y, hc, hl, hbe, hy, hg, e⟩ := pt_split (l := l) hb
  obtain ⟨c', xs', y', hc', hl', hbe', hy', hg', e'⟩ := pt_split (l := l') hb'
  rw [e, e']
  have hx : xs.map (· * y') = xs'.map (· * y) := by
    subst hl hl' hbe hbe'
    simp only [List.map_map] at h
    refine (List.map_inj_right (f := fun z : Int => (c * c') * z) fun a b q => Int.eq_of_mul_eq_mul_left (Int.mul_ne_zero hc hc') q).mp ?_
    simp only [List.map_map]
    refine Eq.trans (List.map_congr_left fun a _ => ?_) (h.trans (List.map_congr_left fun a _ => ?_))
    · show c * c' * (a * y') = c * a * (c' * y'); grind
    · show c' * a * (c * y) = c * c' * (a * y); grind
  obtain ⟨h1, h2⟩ := cross_pt hy hy' hg hg' hx
  rw [h1, h2]
theorem pt_red {p : Tu Int × Int} (h : Low p) : pt (Tu.l p.1) p.2 = p := by
  have := pt_of_mul (c := 1) (xs := Tu.l p.1) (by decide) h.pos h.cop
  simp only [Int.one_mul, List.map_id'] at this
  exact this
/-- what the coordinates are -/
theorem pt_len (l : List Int) (b : Int) : (Tu.l (pt l b).1).length = l.length := by
  show (l.map _).length = _
  rw [List.length_map]
theorem pt_cross {l : List Int} {b : Int} (hb : b ≠ 0) : (Tu.l (pt l b).1).map (· * b) = l.map (· * (pt l b).2) := by
  obtain ⟨c, xs, y, hc, hl, hbe, hy, hg, e⟩ := pt_split (l := l) hb
  rw [e]
  subst hl hbe
  rw [List.map_map]
  exact List.map_congr_left fun a _ => by show a * (c * y) = c * a * y; grind
theorem pt_cross_at {l : List Int} {b : Int} (hb : b ≠ 0) {i : Nat} {x t : Int} (hx : (Tu.l (pt l b).1)[i]? = some x) (ht : l[i]? = some t) : x * b = t * (pt l b).2 := by
  have h := congrArg (fun l => l[i]?) (pt_cross (l := l) hb)
  simp only [List.getElem?_map, hx, ht, Option.map_some] at h
  exact Option.some.inj h
theorem pt_le {l : List Int} {b : Int} (hb : b ≠ 0) : (pt l b).2.natAbs ≤ b.natAbs ∧ ∀ x ∈ Tu.l (pt l b).1, ∃ t ∈ l, x.natAbs ≤ t.natAbs := by
  obtain ⟨c, xs, y, hc, hl, hbe, hy, hg, e⟩ := pt_split (l := l) hb
  rw [e]
  subst hl hbe
  refine ⟨by rw [Int.natAbs_mul]; exact Nat.le_mul_of_pos_left _ (by omega), fun x m => ⟨c * x, List.mem_map.mpr ⟨x, m, rfl⟩, ?_⟩⟩
  rw [Int.natAbs_mul]; exact Nat.le_mul_of_pos_left _ (by omega)
end FL

/-! QB: sizes of ints, found as instances. -/
namespace FL
open PySem L2
class Bd (n : outParam Nat) (i : Int) : Prop where
  lt : i.natAbs < 2 ^ n
theorem two_mono {a b : Nat} (h : a ≤ b) : 2 ^ a ≤ 2 ^ b := Nat.pow_le_pow_right (by decide) h
theorem Bd.mono {m n : Nat} {i : Int} (h : Bd m i) (l : m ≤ n) : Bd n i := ⟨Nat.lt_of_lt_of_le h.lt (two_mono l)⟩
instance bd_mul {m n : Nat} {i j : Int} [h : Bd m i] [k : Bd n j] : Bd (m + n) (i * j) := ⟨by rw [Int.natAbs_mul, Nat.pow_add]; exact Nat.mul_lt_mul'' h.lt k.lt⟩
theorem bd_sum {m n : Nat} {i j s : Int} (h : Bd m i) (k : Bd n j) (hs : s.natAbs ≤ i.natAbs + j.natAbs) : Bd (m + n + 1) s := ⟨by
  have h1 := Nat.lt_of_lt_of_le h.lt (two_mono (Nat.le_add_right m n))
  have h2 := Nat.lt_of_lt_of_le k.lt (two_mono (Nat.le_add_left n m))
  rw [Nat.pow_succ]
  omega⟩
theorem bd_sumx {m n : Nat} {i j s : Int} (h : Bd m i) (k : Bd n j) (hs : s.natAbs ≤ i.natAbs + j.natAbs) : Bd (max m n + 1) s := ⟨by
  have h1 := Nat.lt_of_lt_of_le h.lt (two_mono (Nat.le_max_left m n))
  have h2 := Nat.lt_of_lt_of_le k.lt (two_mono (Nat.le_max_right m n))
  rw [Nat.pow_succ]
  omega⟩
instance bd_add {m n : Nat} {i j : Int} [h : Bd m i] [k : Bd n j] : Bd (max m n + 1) (i + j) := bd_sumx h k (by omega)
instance bd_sub {m n : Nat} {i j : Int} [h : Bd m i] [k : Bd n j] : Bd (max m n + 1) (i - j) := bd_sumx h k (by omega)
instance bd_neg {m : Nat} {i : Int} [h : Bd m i] : Bd m (-i) := ⟨by rw [Int.natAbs_neg]; exact h.lt⟩
instance bd_lit {n : Nat} : Bd (n.log2 + 1) (no_index (OfNat.ofNat n) : Int) := ⟨by show n < _; exact Nat.lt_log2_self⟩
theorem fdiv_leP (x c : Int) (hp : 0 < c) : (x.fdiv c).natAbs ≤ x.natAbs := by
  have h1 := Int.mul_fdiv_add_fmod x c
  generalize hq : x.fdiv c = q at *
  have a1 := Int.fmod_nonneg_of_pos x hp
  have a2 := Int.fmod_lt_of_pos x hp
  generalize x.fmod c = r at *
  by_cases q0 : 0 ≤ q
  · have := Int.mul_le_mul_of_nonneg_right (show 1 ≤ c by omega) q0
    omega
  · have := Int.mul_le_mul_of_nonneg_right (show 1 ≤ c by omega) (show 0 ≤ -q - 1 by omega)
    have e : c * (-q - 1) = -(c * q) - c := by grind
    omega
theorem fdiv_le (x c : Int) : (x.fdiv c).natAbs ≤ x.natAbs := by
  by_cases hc : c = 0
  · subst hc; simp
  · by_cases hp : 0 < c
    · exact fdiv_leP x c hp
    · have := fdiv_leP (-x) (-c) (by omega)
      rw [Int.neg_fdiv_neg, Int.natAbs_neg] at this
      exact this
instance bd_fdiv {m : Nat} {i c : Int} [h : Bd m i] : Bd m (i.fdiv c) := ⟨Nat.lt_of_le_of_lt (fdiv_le i c) h.lt⟩
theorem bd_range {i : Int} {n : Nat} (h : -(n : Int) ≤ i ∧ i ≤ n) : Bd (n.log2 + 1) i := ⟨by have := @Nat.lt_log2_self n; omega⟩
theorem mulX_bd {m n : Nat} {i j : Int} [hi : Bd m i] [hj : Bd n j] (h : m + n ≤ 999998) : mulX i j = .ok (i * j) :=
  mulX_b (a := m + 1) (b := n + 1) (hi.mono (by omega)).lt (hj.mono (by omega)).lt (by omega) (by omega) (by omega)
theorem fdvX_bd {n : Nat} {i j : Int} [hj : Bd n j] (hn : n ≤ 8999) (h0 : j ≠ 0) : fdvX i j = .ok (i.fdiv j) :=
  fdvX_b (b := n + 1) h0 (hj.mono (by omega)).lt (by omega) (by omega)
class BdL (n : outParam Nat) (l : List Int) : Prop where
  all : ∀ a ∈ l, Bd n a
theorem BdL.mono {m n : Nat} {l : List Int} (h : BdL m l) (z : m ≤ n) : BdL n l := ⟨fun a q => (h.all a q).mono z⟩
theorem bd_pt {m : Nat} {l : List Int} {b : Int} (h : Bd m b) : Bd m (pt l b).2 := ⟨Nat.lt_of_le_of_lt (fdiv_le _ _) h.lt⟩
theorem bdl_pt {m : Nat} {l : List Int} {b : Int} (h : BdL m l) : BdL m (Tu.l (pt l b).1) := ⟨fun a q => by
  obtain ⟨t, ht, rfl⟩ := List.mem_map.mp (show a ∈ l.map _ from q)
  exact ⟨Nat.lt_of_le_of_lt (fdiv_le _ _) (h.all t ht).lt⟩⟩
/-! slices -/
theorem cutL_init {α : Type} (l : List α) : cutL l none (some (-1)) = l.dropLast := by
  unfold cutL
  have e : HT.sIx l.length l.length (some (-1)) = l.length - 1 := by
    unfold HT.sIx
    simp
    omega
  rw [e, HT.sIx_none, List.drop_zero, List.dropLast_eq_take]
  rfl
theorem cutL_take {α : Type} (l : List α) {k : Int} (h : 0 ≤ k) : cutL l none (some k) = l.take k.toNat := by
  obtain ⟨n, rfl⟩ := Int.eq_ofNat_of_zero_le h
  unfold cutL
  rw [HT.sIx_nat, HT.sIx_none, List.drop_zero, Nat.sub_zero, Int.toNat_natCast]
  by_cases z : n ≤ l.length
  · rw [Nat.min_eq_left z]
  · rw [Nat.min_eq_right (by omega), List.take_of_length_le (Nat.le_refl _), List.take_of_length_le (by omega)]
theorem cutL_drop {α : Type} (l : List α) {k : Int} (h : 0 ≤ k) : cutL l (some k) none = l.drop k.toNat := by
  obtain ⟨n, rfl⟩ := Int.eq_ofNat_of_zero_le h
  unfold cutL
  rw [HT.sIx_nat, HT.sIx_none, Int.toNat_natCast, List.take_of_length_le (by rw [List.length_drop]; omega)]
  by_cases z : n ≤ l.length
  · rw [Nat.min_eq_left z]
  · rw [Nat.min_eq_right (by omega), List.drop_of_length_le (Nat.le_refl _), List.drop_of_length_le (by omega)]
theorem cutL_mid {α : Type} (l : List α) {k m : Int} (h : 0 ≤ k) (h2 : 0 ≤ m) : cutL l (some k) (some m) = (l.take m.toNat).drop k.toNat := by
  obtain ⟨n, rfl⟩ := Int.eq_ofNat_of_zero_le h
  obtain ⟨p, rfl⟩ := Int.eq_ofNat_of_zero_le h2
  unfold cutL
  rw [HT.sIx_nat, HT.sIx_nat, Int.toNat_natCast, Int.toNat_natCast]
  rw [List.drop_take]
  by_cases z : n ≤ l.length
  · rw [Nat.min_eq_left z]
    by_cases y : p ≤ l.length
    · rw [Nat.min_eq_left y]
    · rw [Nat.min_eq_right (by omega), List.take_of_length_le (by rw [List.length_drop]; omega), List.take_of_length_le (by rw [List.length_drop]; omega)]
  · rw [Nat.min_eq_right (show l.length ≤ n by omega), List.drop_of_length_le (Nat.le_refl _), List.drop_of_length_le (show l.length ≤ n by omega)]
    simp
theorem cutL_tail {α : Type} (l : List α) {k : Int} (h : 0 ≤ k) : cutL l (some k) (some (-1)) = l.dropLast.drop k.toNat := by
  obtain ⟨n, rfl⟩ := Int.eq_ofNat_of_zero_le h
  unfold cutL
  have e : HT.sIx l.length l.length (some (-1)) = l.length - 1 := by
    unfold HT.sIx
    simp
    omega
  rw [e, HT.sIx_nat, Int.toNat_natCast, List.dropLast_eq_take, List.drop_take]
  by_cases z : n ≤ l.length
  · rw [Nat.min_eq_left z]
  · rw [Nat.min_eq_right (by omega), List.drop_of_length_le (Nat.le_refl _), List.drop_of_length_le (by omega)]
    simp
theorem getX_last {α : Type} {l : List α} {a : α} : getX (l ++ [a]) (-1) = .ok a := by
  unfold getX atI
  have : ixN (l ++ [a]).length (-1) = some l.length := by
    unfold ixN
    simp
    omega
  rw [this]
  simp
end FL

/-! QC: comprehensions over a range, cross multiplied lists. -/
namespace FL
open PySem L2
theorem compX_of {α β : Type} {t : α → Xc Bool} {f : α → Xc β} (ht : ∀ a, t a = .ok true) : ∀ {l : List α} {r : List β}, l.length = r.length → (∀ (i : Nat) (a : α) (b : β), l[i]? = some a → r[i]? = some b → f a = .ok b) → compX t f l = .ok r
  | [], [], _, _ => rfl
  | [], _ :: _, h, _ => by simp at h
  | _ :: _, [], h, _ => by simp at h
  | a :: l, b :: r, hl, h => by
    have h1 := h 0 a b rfl rfl
    have ih := compX_of (t := t) (f := f) ht (l := l) (r := r) (by simpa using hl) fun i a b ha hb => h (i + 1) a b (by simpa using ha) (by simpa using hb)
    simp only [compX, ht, h1, nx, bind_ok', if_true, ih]
theorem rangeL_nat {n : Nat} {i : Nat} {a : Int} (h : (rangeL 0 (n : Int))[i]? = some a) : a = (i : Int) ∧ i < n := by
  obtain ⟨h1, h2⟩ := rangeL_get h
  omega
theorem comp_range {β : Type} {t : Int → Xc Bool} {f : Int → Xc β} {n : Int} {r : List β} (ht : ∀ a, t a = .ok true) (hr : (r.length : Int) = n) (h : ∀ (k : Nat) b, r[k]? = some b → f (k : Int) = .ok b) : compX t f (rangeL 0 n) = .ok r := by
  subst hr
  refine compX_of ht (by rw [rangeL_len]; omega) fun i a b ha hb => ?_
  obtain ⟨rfl, _⟩ := rangeL_nat ha
  exact h i b hb
theorem getX_nat {α : Type} {l : List α} {k : Nat} {a : α} (h : l[k]? = some a) : getX l (k : Int) = .ok a := getX_b (by omega) (by rw [Int.toNat_natCast]; exact h)
theorem getX_app {α : Type} {l l' : List α} {k : Nat} {a : α} (h : l[k]? = some a) : getX (l ++ l') (k : Int) = .ok a := getX_nat (by
  have := List.getElem?_eq_some_iff.mp h
  rw [List.getElem?_append_left this.1]; exact h)
/-! cross multiplied -/
theorem map_cross {xs l : List Int} {b y : Int} (h : xs.map (· * b) = l.map (· * y)) {f g : Int → Int} (c : Int → Int) (hf : ∀ a, f a = c (a * b)) (hg : ∀ t, g t = c (t * y)) : xs.map f = l.map g := by
  have := congrArg (List.map c) h
  rw [List.map_map, List.map_map] at this
  rw [show f = c ∘ (· * b) from funext hf, show g = c ∘ (· * y) from funext hg]
  exact this
theorem zip_cross {xs l xs' l' : List Int} {b y b' y' : Int} (h : xs.map (· * b) = l.map (· * y)) (h' : xs'.map (· * b') = l'.map (· * y')) {f g : Int → Int → Int} (c : Int → Int → Int) (hf : ∀ a a', f a a' = c (a * b) (a' * b')) (hg : ∀ t t', g t t' = c (t * y) (t' * y')) :
    List.zipWith f xs xs' = List.zipWith g l l' := by
  have e1 : List.zipWith f xs xs' = List.zipWith c (xs.map (· * b)) (xs'.map (· * b')) := by
    rw [List.zipWith_map]
    congr 1
    funext a a'
    exact hf a a'
  have e2 : List.zipWith g l l' = List.zipWith c (l.map (· * y)) (l'.map (· * y')) := by
    rw [List.zipWith_map]
    congr 1
    funext a a'
    exact hg a a'
  rw [e1, e2, h, h']
theorem Bd.ok {n m : Nat} {i : Int} (h : Bd n i) (z : n ≤ m := by decide) : Bd m i := h.mono z
theorem zip_map {α β γ : Type} (f : α × β → γ) (l : List α) (m : List β) : (l.zip m).map f = List.zipWith (fun a b => f (a, b)) l m := by
  rw [List.zip, List.map_zipWith]
/-- the first part of a chain -/
theorem okB {α β : Type} {m : Xc α} {k : α → Xc β} {r : Xc β} (a : α) (h : m = .ok a) (h2 : k a = r) : m.bind k = r := by rw [h]; exact h2
/-! loops: what follows them -/
theorem forK_ct {γ α ρ τ : Type} {f : γ → α → Xc (Lp γ ρ)} {l : List α} {g : γ} {rt : ρ → τ} {k : γ → Xc τ} {r : Xc τ} (P : γ → Prop) (h : P g) (hs : ∀ g a, a ∈ l → P g → ∃ g', f g a = .ok (.ct g') ∧ P g') (hk : ∀ g, P g → k g = r) : forK (forX f l g) rt k = r := by
  obtain ⟨g', e, p⟩ := forX_ct (f := f) P h hs
  rw [e, forK_inl]
  exact hk g' p
theorem foldK {γ α τ : Type} {f : γ → α → Xc γ} {l : List α} {g : γ} {k : γ → Xc τ} {r : Xc τ} (P : γ → Prop) (h : P g) (hs : ∀ g a, a ∈ l → P g → ∃ g', f g a = .ok g' ∧ P g') (hk : ∀ g, P g → k g = r) : (foldX f l g).bind k = r := by
  obtain ⟨g', e, p⟩ := foldX_inv (f := f) P h hs
  rw [e, bind_ok']
  exact hk g' p
theorem foldKi {γ α τ : Type} {f : γ → α → Xc γ} {l : List α} {g : γ} {k : γ → Xc τ} {r : Xc τ} (P : Nat → γ → Prop) (h : P 0 g) (hs : ∀ (i : Nat) g a, l[i]? = some a → P i g → ∃ g', f g a = .ok g' ∧ P (i + 1) g') (hk : ∀ g, P l.length g → k g = r) : (foldX f l g).bind k = r := by
  obtain ⟨g', e, p⟩ := foldX_ix (f := f) P h hs
  rw [e, bind_ok']
  exact hk g' p
/-- a loop's state that does not change -/
theorem forK_id {γ α ρ τ : Type} {f : γ → α → Xc (Lp γ ρ)} {l : List α} {g : γ} {rt : ρ → τ} {k : γ → Xc τ} {r : Xc τ} (hs : ∀ a, a ∈ l → f g a = .ok (.ct g)) (hk : k g = r) : forK (forX f l g) rt k = r :=
  forK_ct (fun g' => g' = g) rfl (fun g' a m e => ⟨g, by rw [e]; exact hs a m, rfl⟩) fun g' e => by rw [e]; exact hk
end FL
namespace FL
open PySem L2
theorem bd_up {n m : Nat} {i : Int} [h : Bd n i] (z : n ≤ m := by decide) : Bd m i := h.mono z
theorem comp_list {α β : Type} {t : α → Xc Bool} {f : α → Xc β} {h : α → β} {l : List α} (ht : ∀ a, t a = .ok true) (hf : ∀ a ∈ l, f a = .ok (h a)) : compX t f l = .ok (l.map h) := compX_map fun a m => ⟨ht a, hf a m⟩
theorem comp_at1 {α β : Type} {t : Int → Xc Bool} {g : α → Xc β} {h : α → β} {l l' : List α} {n : Int} (ht : ∀ a, t a = .ok true) (hn : (l.length : Int) = n) (hg : ∀ x ∈ l, g x = .ok (h x)) : compX t (fun a => (getX (l ++ l') a).bind g) (rangeL 0 n) = .ok (l.map h) := by
  refine comp_range ht (by rw [List.length_map]; exact hn) fun k b hb => ?_
  rw [List.getElem?_map] at hb
  cases e : l[k]? with
  | none => rw [e] at hb; cases hb
  | some x =>
    rw [e] at hb
    cases hb
    rw [getX_app e, bind_ok']
    exact hg x (List.mem_of_getElem? e)
theorem comp_at2 {α δ β : Type} {t : Int → Xc Bool} {f : Int → Xc β} {h : α → δ → β} {l l' : List α} {m m' : List δ} {n : Int} (ht : ∀ a, t a = .ok true) (hn : (l.length : Int) = n) (hm : m.length = l.length) (hf : ∀ (k : Int) x y, x ∈ l → y ∈ m → getX (l ++ l') k = .ok x → getX (m ++ m') k = .ok y → f k = .ok (h x y)) :
    compX t f (rangeL 0 n) = .ok (List.zipWith h l m) := by
  refine comp_range ht (by rw [List.length_zipWith]; omega) fun k b hb => ?_
  rw [List.getElem?_zipWith] at hb
  cases e : l[k]? with
  | none => rw [e] at hb; simp at hb
  | some x =>
    cases e2 : m[k]? with
    | none => rw [e, e2] at hb; simp at hb
    | some y =>
      rw [e, e2] at hb
      simp at hb
      subst hb
      exact hf k x y (List.mem_of_getElem? e) (List.mem_of_getElem? e2) (getX_app e) (getX_app e2)
theorem mulX_all {n m : Nat} {l : List Int} {b : Int} (hl : BdL n l) (hb : Bd m b) (h : n + m ≤ 999998) : ∀ x ∈ l, mulX x b = .ok (x * b) := fun x q => by
  have := hl.all x q
  exact mulX_bd h
theorem catL_ok {α : Type} {l m : List α} (h : l.length + m.length ≤ 1000000) : catL l m = .ok (l ++ m) := by
  have := size_ge
  unfold catL
  rw [if_pos (by omega)]
theorem bdl_map {n m : Nat} {l : List Int} {f : Int → Int} (h : BdL n l) (hf : ∀ x, Bd n x → Bd m (f x)) : BdL m (l.map f) := ⟨fun a q => by
  obtain ⟨x, mx, rfl⟩ := List.mem_map.mp q
  exact hf x (h.all x mx)⟩
theorem bdl_app {n : Nat} {l m : List Int} (h : BdL n l) (k : BdL n m) : BdL n (l ++ m) := ⟨fun a q => (List.mem_append.mp q).elim (h.all a) (k.all a)⟩
theorem bdl_zip {n m p : Nat} {l k : List Int} {f : Int → Int → Int} (h : BdL n l) (h' : BdL m k) (hf : ∀ x y, Bd n x → Bd m y → Bd p (f x y)) : BdL p (List.zipWith f l k) := ⟨fun a q => by
  rw [← List.map_uncurry_zip_eq_zipWith] at q
  obtain ⟨⟨x, y⟩, mx, rfl⟩ := List.mem_map.mp q
  exact hf x y (h.all x (List.of_mem_zip mx).1) (h'.all y (List.of_mem_zip mx).2)⟩
end FL

/-! QD: data: no deeper than k; == of alike data. -/
namespace FL
open PySem L2
class Flat (α : Type) [Rp α] [ToD α] (k : outParam Nat) : Prop where
  lay : ∀ a : α, PyData.canLay0 (ToD.d a) = true
  dep : ∀ a : α, PyData.depth (ToD.d a) ≤ k
instance : Flat Int 0 := ⟨fun _ => rfl, fun _ => Nat.le_refl _⟩
instance : Flat Bool 0 := ⟨fun _ => rfl, fun _ => Nat.le_refl _⟩
instance : Flat Unit 0 := ⟨fun _ => rfl, fun _ => Nat.le_refl _⟩
section
variable {α β : Type} [Rp α] [Rp β] [ToD α] [ToD β] {k j : Nat}
theorem lay_all [F : Flat α k] : ∀ l : List α, PyData.canLayAll0 (l.map ToD.d) = true
  | [] => by simp [PyData.canLayAll0]
  | a :: l => by
    show PyData.canLayAll0 (ToD.d a :: l.map ToD.d) = true
    simp only [PyData.canLayAll0, F.lay a, lay_all l, Bool.and_self]
theorem dep_all [F : Flat α k] : ∀ l : List α, PyData.depthAll (l.map ToD.d) ≤ k
  | [] => by simp [PyData.depthAll]
  | a :: l => by
    have h1 := F.dep a
    have h2 := dep_all l
    show PyData.depthAll (ToD.d a :: l.map ToD.d) ≤ k
    simp only [PyData.depthAll]
    omega
instance [F : Flat α k] : Flat (Option α) k := ⟨fun a => by cases a with
  | none => rfl
  | some a => exact F.lay a, fun a => by cases a with
  | none => exact Nat.zero_le _
  | some a => exact F.dep a⟩
instance [F : Flat α k] : Flat (List α) (k + 1) := ⟨fun l => by
  show PyData.canLay0 (.list (l.map ToD.d)) = true
  simp only [PyData.canLay0, lay_all], fun l => by
  show PyData.depth (.list (l.map ToD.d)) ≤ _
  have := dep_all l
  simp only [PyData.depth]
  omega⟩
instance [F : Flat α k] : Flat (Tu α) (k + 1) := ⟨fun l => by
  show PyData.canLay0 (.tuple (l.l.map ToD.d)) = true
  simp only [PyData.canLay0, lay_all], fun l => by
  show PyData.depth (.tuple (l.l.map ToD.d)) ≤ _
  have := dep_all l.l
  simp only [PyData.depth]
  omega⟩
instance [F : Flat α k] [E : Flat β j] : Flat (α × β) (max k j + 1) := ⟨fun t => by
  show PyData.canLay0 (.tuple [ToD.d t.1, ToD.d t.2]) = true
  simp only [PyData.canLay0, PyData.canLayAll0, F.lay, E.lay, Bool.and_self], fun t => by
  show PyData.depth (.tuple [ToD.d t.1, ToD.d t.2]) ≤ _
  have h1 := F.dep t.1
  have h2 := E.dep t.2
  simp only [PyData.depth, PyData.depthAll]
  omega⟩
theorem shaped_of [F : Flat α k] (h : k ≤ 64 := by decide) (a : α) : SeqAt.shaped (ToD.d a) = true := by
  unfold SeqAt.shaped
  have := F.dep a
  rw [F.lay a, decide_eq_true (by omega)]
  rfl
theorem datX_ok [F : Flat α k] (h : k ≤ 64 := by decide) (a : α) : datX a = .ok (ToD.d a) := by
  unfold datX
  rw [if_pos (shaped_of h a)]
end
/-- == of alike data tells equality -/
class EqD (α : Type) [Rp α] [ToD α] : Prop where
  eq : ∀ a b : α, PyData.eqv (ToD.d a) (ToD.d b) = true ↔ a = b
instance : EqD Int := ⟨fun a b => by show (a == b) = true ↔ _; simp⟩
instance : EqD Bool := ⟨fun a b => by show (a == b) = true ↔ _; simp⟩
instance : EqD Unit := ⟨fun a b => ⟨fun _ => rfl, fun _ => rfl⟩⟩
instance : EqD Str := ⟨fun a b => by show (a == b) = true ↔ _; simp⟩
section
variable {α β : Type} [Rp α] [Rp β] [ToD α] [ToD β] {k j : Nat}
theorem eq_all [E : EqD α] : ∀ l m : List α, PyData.eqvAll (l.map ToD.d) (m.map ToD.d) = true ↔ l = m
  | [], [] => by simp [PyData.eqvAll]
  | [], b :: m => by simp [PyData.eqvAll]
  | a :: l, [] => by simp [PyData.eqvAll]
  | a :: l, b :: m => by
    show PyData.eqvAll (ToD.d a :: l.map ToD.d) (ToD.d b :: m.map ToD.d) = true ↔ _
    simp only [PyData.eqvAll, Bool.and_eq_true, E.eq, eq_all l m, List.cons.injEq]
instance [E : EqD α] : EqD (List α) := ⟨fun a b => eq_all a b⟩
instance [E : EqD α] : EqD (Tu α) := ⟨fun a b => eq_all a.l b.l⟩
instance [E : EqD α] [E' : EqD β] : EqD (α × β) := ⟨fun a b => by
  show PyData.eqvAll [ToD.d a.1, ToD.d a.2] [ToD.d b.1, ToD.d b.2] = true ↔ _
  simp only [PyData.eqvAll, Bool.and_eq_true, E.eq, E'.eq, and_true]
  constructor
  · rintro ⟨h1, h2⟩; exact Prod.ext h1 h2
  · intro h; subst h; exact ⟨rfl, rfl⟩⟩
theorem eqdX_ok [F : Flat α k] [E : EqD α] (h : k ≤ 64 := by decide) (a b : α) [D : Decidable (a = b)] : eqdX a b = .ok (decide (a = b)) := by
  unfold eqdX
  rw [if_pos ⟨shaped_of h a, shaped_of h b⟩]
  congr 1
  by_cases q : a = b
  · rw [decide_eq_true q, (E.eq a b).mpr q]
  · rw [decide_eq_false q]
    cases r : PyData.eqv (ToD.d a) (ToD.d b) with
    | false => rfl
    | true => exact absurd ((E.eq a b).mp r) q
theorem inDX_ok [F : Flat α k] [E : EqD α] (h : k + 1 ≤ 64 := by decide) (a : α) (l : List α) [D : Decidable (a ∈ l)] : inDX a l = .ok (decide (a ∈ l)) := by
  unfold inDX
  rw [if_pos ⟨shaped_of (by omega) a, shaped_of h l⟩]
  congr 1
  by_cases q : a ∈ l
  · rw [decide_eq_true q, List.any_eq_true]
    exact ⟨ToD.d a, List.mem_map.mpr ⟨a, q, rfl⟩, (E.eq a a).mpr rfl⟩
  · rw [decide_eq_false q, List.any_eq_false]
    intro x m
    obtain ⟨b, mb, rfl⟩ := List.mem_map.mp m
    intro z
    exact q ((E.eq b a).mp z ▸ mb)
end
instance {α : Type} [d : DecidableEq α] : DecidableEq (Tu α) := inferInstanceAs (DecidableEq (List α))
/-! one datum -/
structure Fl (k : Nat) (d : PyData) : Prop where
  lay : PyData.canLay0 d = true
  dep : PyData.depth d ≤ k
theorem Fl.mono {k j : Nat} {d : PyData} (h : Fl k d) (z : k ≤ j) : Fl j d := ⟨h.lay, Nat.le_trans h.dep z⟩
theorem Fl.of {α : Type} [Rp α] [ToD α] {k : Nat} [F : Flat α k] (a : α) : Fl k (ToD.d a) := ⟨F.lay a, F.dep a⟩
theorem Fl.int (i : Int) : Fl 0 (.int i) := ⟨rfl, Nat.le_refl _⟩
theorem Fl.non : Fl 0 .none := ⟨rfl, Nat.le_refl _⟩
theorem Fl.bl (b : Bool) : Fl 0 (.bool b) := ⟨rfl, Nat.le_refl _⟩
theorem fl_all {k : Nat} : ∀ {ds : List PyData}, (∀ d ∈ ds, Fl k d) → PyData.canLayAll0 ds = true ∧ PyData.depthAll ds ≤ k
  | [], _ => ⟨by simp [PyData.canLayAll0], by simp [PyData.depthAll]⟩
  | d :: ds, h => by
    have h1 := h d (by simp)
    obtain ⟨h2, h3⟩ := fl_all (ds := ds) fun d m => h d (by simp [m])
    have h4 := h1.dep
    refine ⟨by simp only [PyData.canLayAll0, h1.lay, h2, Bool.and_self], ?_⟩
    simp only [PyData.depthAll]
    omega
theorem Fl.tup {k : Nat} {ds : List PyData} (h : ∀ d ∈ ds, Fl k d) : Fl (k + 1) (.tuple ds) := by
  obtain ⟨h1, h2⟩ := fl_all h
  exact ⟨by simp only [PyData.canLay0, h1], by simp only [PyData.depth]; omega⟩
theorem Fl.lst {k : Nat} {ds : List PyData} (h : ∀ d ∈ ds, Fl k d) : Fl (k + 1) (.list ds) := by
  obtain ⟨h1, h2⟩ := fl_all h
  exact ⟨by simp only [PyData.canLay0, h1], by simp only [PyData.depth]; omega⟩
theorem Fl.sh {k : Nat} {d : PyData} (h : Fl k d) (z : k ≤ 64 := by decide) : SeqAt.shaped d = true := by
  unfold SeqAt.shaped
  have := h.dep
  rw [h.lay, decide_eq_true (by omega)]
  rfl
theorem datX_fl {α : Type} [Rp α] [ToD α] {k : Nat} {a : α} {d : PyData} (e : ToD.d a = d) (h : Fl k d) (z : k ≤ 64 := by decide) : datX a = .ok d := by
  subst e
  unfold datX
  rw [if_pos (h.sh z)]
theorem Fl.two {k : Nat} {x y : PyData} (hx : Fl k x) (hy : Fl k y) : Fl (k + 1) (.tuple [x, y]) := Fl.tup fun d m => by
  rcases List.mem_cons.mp m with e | m
  · rw [e]; exact hx
  · rw [List.mem_singleton.mp m]; exact hy
theorem Fl.ints (l : List Int) : ∀ d ∈ l.map ToD.d, Fl 0 d := fun d m => by
  obtain ⟨i, _, rfl⟩ := List.mem_map.mp m
  exact Fl.int i
/-! kinds -/
theorem asT_ok {l : List PyData} (h : l.length ≤ 1000) (s : l.all SeqAt.shaped = true) : asT (.tuple l) = .ok (tu l) := by
  have := size_ge
  unfold asT
  show (if _ then _ else _) = _
  rw [if_pos ⟨by omega, s⟩]
theorem asI_ok (i : Int) : asI (.int i) = .ok i := by unfold asI; rfl
theorem intsD_map : ∀ l : List Int, intsD (l.map ToD.d) = some l
  | [] => rfl
  | a :: l => by
    show intsD (.int a :: l.map ToD.d) = _
    unfold intsD
    rw [intsD_map l]
    rfl
theorem shaped_ints (l : List Int) : (l.map ToD.d).all SeqAt.shaped = true := by
  rw [List.all_eq_true]
  intro d m
  obtain ⟨x, _, rfl⟩ := List.mem_map.mp m
  rfl
theorem isD (d : PyData) (T : String) : isiX (HasTy.ty d) T = isiX (tyD d) T := rfl
theorem k_tt : isiX "tuple" "tuple" = .ok true := by unfold isiX; rfl
theorem k_lt : isiX "list" "tuple" = .ok false := by unfold isiX; rfl
theorem k_nt : isiX "NoneType" "tuple" = .ok false := by unfold isiX; rfl
theorem k_it : isiX "int" "tuple" = .ok false := by unfold isiX; rfl
theorem k_st : isiX "str" "tuple" = .ok false := by unfold isiX; rfl
theorem k_bt : isiX "bool" "tuple" = .ok false := by unfold isiX; rfl
theorem k_ii : isiX "int" "int" = .ok true := by unfold isiX; rfl
theorem k_ib : isiX "int" "bool" = .ok false := by unfold isiX; rfl
theorem k_bi : isiX "bool" "int" = .ok true := by unfold isiX; rfl
theorem k_bb : isiX "bool" "bool" = .ok true := by unfold isiX; rfl
theorem k_ni : isiX "NoneType" "int" = .ok false := by unfold isiX; rfl
theorem k_si : isiX "str" "int" = .ok false := by unfold isiX; rfl
theorem k_ti : isiX "tuple" "int" = .ok false := by unfold isiX; rfl
theorem k_li : isiX "list" "int" = .ok false := by unfold isiX; rfl
def notTup : PyData → Prop
  | .tuple _ => False
  | .dict _ => False
  | _ => True
theorem not_tup {d : PyData} (h : notTup d) : isiX (HasTy.ty d) "tuple" = .ok false := by
  cases d <;> first | exact h.elim | exact k_nt | exact k_bt | exact k_it | exact k_st | exact k_lt
def notInt : PyData → Prop
  | .int _ => False
  | .dict _ => False
  | _ => True
/-- isinstance(x, int) and not isinstance(x, bool) -/
def isIB : PyData → Bool
  | .int _ => true
  | _ => false
theorem not_int {d : PyData} (h : notInt d) : ((isiX (HasTy.ty d) "int").bind fun t => (Xc.ok (!t))).bind (fun t => if t = true then Xc.ok true else isiX (HasTy.ty d) "bool") = .ok true := by
  cases d <;> first
    | exact h.elim
    | (show ((isiX "NoneType" "int").bind _).bind _ = _; rw [k_ni]; rfl)
    | (show ((isiX "bool" "int").bind _).bind (fun t => if t = true then _ else isiX "bool" "bool") = _; rw [k_bi, k_bb]; rfl)
    | (show ((isiX "str" "int").bind _).bind _ = _; rw [k_si]; rfl)
    | (show ((isiX "list" "int").bind _).bind _ = _; rw [k_li]; rfl)
    | (show ((isiX "tuple" "int").bind _).bind _ = _; rw [k_ti]; rfl)
theorem yes_int (i : Int) : ((isiX (HasTy.ty (PyData.int i)) "int").bind fun t => (Xc.ok (!t))).bind (fun t => if t = true then Xc.ok true else isiX (HasTy.ty (PyData.int i)) "bool") = .ok false := by
  show ((isiX "int" "int").bind _).bind (fun t => if t = true then _ else isiX "int" "bool") = _
  rw [k_ii, k_ib]
  rfl
end FL

/-! QS: sorting data; lists in strict order. -/
namespace FL
open PySem L2
class Alk (α : Type) [Rp α] [ToD α] : Prop where
  al : ∀ a b : α, PySem.W.alike (ToD.d a) (ToD.d b) = true
instance : Alk Int := ⟨fun _ _ => rfl⟩
instance : Alk Str := ⟨fun _ _ => rfl⟩
instance : Alk Bool := ⟨fun _ _ => rfl⟩
section
variable {α β : Type} [Rp α] [Rp β] [ToD α] [ToD β] {k j : Nat}
theorem alk_all [A : Alk α] : ∀ l m : List α, PySem.W.alikeAll (l.map ToD.d) (m.map ToD.d) = true
  | [], m => by simp [PySem.W.alikeAll]
  | a :: l, [] => by simp [PySem.W.alikeAll]
  | a :: l, b :: m => by
    show PySem.W.alikeAll (ToD.d a :: l.map ToD.d) (ToD.d b :: m.map ToD.d) = true
    simp only [PySem.W.alikeAll, A.al a b, alk_all l m, Bool.and_self]
instance [A : Alk α] : Alk (List α) := ⟨fun a b => by
  show PySem.W.alike (.list (a.map ToD.d)) (.list (b.map ToD.d)) = true
  simp only [PySem.W.alike, alk_all]⟩
instance [A : Alk α] : Alk (Tu α) := ⟨fun a b => by
  show PySem.W.alike (.tuple (a.l.map ToD.d)) (.tuple (b.l.map ToD.d)) = true
  simp only [PySem.W.alike, alk_all]⟩
instance [A : Alk α] [B : Alk β] : Alk (α × β) := ⟨fun a b => by
  show PySem.W.alike (.tuple [ToD.d a.1, ToD.d a.2]) (.tuple [ToD.d b.1, ToD.d b.2]) = true
  simp only [PySem.W.alike, PySem.W.alikeAll, A.al, B.al, Bool.and_self]⟩
/-- x < y, of data -/
def ltD (a b : α) : Bool := PySem.W.dataLt (ToD.d a) (ToD.d b)
def leD (a b : α) : Bool := !ltD b a
theorem sort_le : PySem.W.dataLe false (ToD.d (α := α)) = leD := rfl
theorem leD_trans (a b c : α) (h1 : leD a b = true) (h2 : leD b c = true) : leD a c = true := (PySem.W.sortLe_total (PyProof.Rows.listOrd PyProof.Rows.itemOrd) false fun b : α => PySem.W.keyToks (ToD.d b)).trans a b c h1 h2
theorem leD_total (a b : α) : (leD a b || leD b a) = true := by
  have := (PySem.W.sortLe_total (PyProof.Rows.listOrd PyProof.Rows.itemOrd) false fun b : α => PySem.W.keyToks (ToD.d b)).total a b
  exact Bool.or_eq_true_iff.mpr this
theorem sortX_ok [F : Flat α k] [A : Alk α] (h : k ≤ 64 := by decide) {l : List α} (ht : (∀ a ∈ l, tup1B (ToD.d a) = true) ∨ ∀ a ∈ l, noTupB (ToD.d a) = true) :
    ∃ r, sortX l = .ok r ∧ r.Perm l ∧ r.Pairwise fun a b => ltD b a = false := by
  refine ⟨l.mergeSort leD, ?_, List.mergeSort_perm _ _, ?_⟩
  · have c1 : alikeB (l.map ToD.d) = true := by
      unfold alikeB
      rw [List.all_eq_true]
      intro d hd
      rw [List.all_eq_true]
      intro e he
      obtain ⟨a, _, rfl⟩ := List.mem_map.mp hd
      obtain ⟨b, _, rfl⟩ := List.mem_map.mp he
      exact A.al a b
    have c2 : sortableB (l.map ToD.d) = true := by
      unfold sortableB
      rw [Bool.or_eq_true_iff, List.all_eq_true, List.all_eq_true]
      rcases ht with ht | ht
      · exact .inl fun d hd => by obtain ⟨a, m, rfl⟩ := List.mem_map.mp hd; exact ht a m
      · exact .inr fun d hd => by obtain ⟨a, m, rfl⟩ := List.mem_map.mp hd; exact ht a m
    unfold sortX
    rw [if_pos ⟨List.all_eq_true.mpr fun a _ => shaped_of h a, c1, c2⟩]
    rfl
  · have := List.pairwise_mergeSort (le := leD (α := α)) leD_trans leD_total l
    exact this.imp fun {a b} q => by
      unfold leD at q
      simpa using q
end
theorem ltD_ints (a b : Tu Int) : ltD a b = decide (Tu.l a < Tu.l b) := by
  show PySem.W.dataLt (.tuple (a.l.map ToD.d)) (.tuple (b.l.map ToD.d)) = _
  rw [PySem.W.dataLt_tuple]
  exact PySem.W.dataLt_ints a.l b.l
theorem ltD_pair {α β : Type} [Rp α] [Rp β] [ToD α] [ToD β] [Alk α] [Alk β] [EqD α] [EqD β] [DecidableEq α] [DecidableEq β] (a b : α × β) : ltD a b = if a.1 = b.1 then (if a.2 = b.2 then false else ltD a.2 b.2) else ltD a.1 b.1 := by
  show PySem.W.dataLt (.tuple [ToD.d a.1, ToD.d a.2]) (.tuple [ToD.d b.1, ToD.d b.2]) = _
  rw [PySem.W.dataLt_pair (Alk.al _ _) (Alk.al _ _)]
  by_cases h1 : a.1 = b.1
  · rw [if_pos ((EqD.eq _ _).mpr h1), if_pos h1]
    by_cases h2 : a.2 = b.2
    · rw [if_pos ((EqD.eq _ _).mpr h2), if_pos h2]
    · rw [if_neg (fun z => h2 ((EqD.eq _ _).mp z)), if_neg h2]; rfl
  · rw [if_neg (fun z => h1 ((EqD.eq _ _).mp z)), if_neg h1]; rfl
/-! lists in strict order -/
section
variable {α : Type} {R : α → α → Prop}
theorem strict_uniq (ir : ∀ a, ¬ R a a) (tr : ∀ a b c, R a b → R b c → R a c) : ∀ {l m : List α}, l.Pairwise R → m.Pairwise R → (∀ a, a ∈ l ↔ a ∈ m) → l = m
  | [], [], _, _, _ => rfl
  | [], b :: m, _, _, h => by have := (h b).mpr (by simp); cases this
  | a :: l, [], _, _, h => by have := (h a).mp (by simp); cases this
  | a :: l, b :: m, hl, hm, h => by
    have hl' := List.pairwise_cons.mp hl
    have hm' := List.pairwise_cons.mp hm
    have e : a = b := by
      rcases List.mem_cons.mp ((h a).mp (by simp)) with e | ma
      · exact e
      · rcases List.mem_cons.mp ((h b).mpr (by simp)) with e | mb
        · exact e.symm
        · exact absurd (tr _ _ _ (hl'.1 b mb) (hm'.1 a ma)) (ir a)
    subst e
    rw [strict_uniq ir tr hl'.2 hm'.2 fun c => ?_]
    constructor
    · intro mc
      rcases List.mem_cons.mp ((h c).mp (by simp [mc])) with e | q
      · subst e; exact absurd (hl'.1 c mc) (ir c)
      · exact q
    · intro mc
      rcases List.mem_cons.mp ((h c).mpr (by simp [mc])) with e | q
      · subst e; exact absurd (hm'.1 c mc) (ir c)
      · exact q
end
theorem lt_scale {c : Int} (hc : 0 < c) : ∀ xs ys : List Int, (xs.map (· * c) < ys.map (· * c)) ↔ xs < ys
  | [], [] => by simp
  | [], _ :: _ => by simp
  | _ :: _, [] => by simp
  | x :: xs, y :: ys => by
    simp only [List.map_cons, List.cons_lt_cons_iff, lt_scale hc xs ys]
    constructor
    · rintro (h | ⟨h1, h2⟩)
      · exact .inl (Int.lt_of_mul_lt_mul_right h (by omega))
      · exact .inr ⟨Int.eq_of_mul_eq_mul_right (show c ≠ 0 by omega) h1, h2⟩
    · rintro (h | ⟨h1, h2⟩)
      · exact .inl (Int.mul_lt_mul_of_pos_right h hc)
      · exact .inr ⟨by rw [h1], h2⟩
end FL
namespace FL
open PySem L2
theorem foldX_pre {γ α : Type} {f : γ → α → Xc γ} {l : List α} {g : γ} (P : List α → γ → Prop) (h : P [] g) (hs : ∀ pre a rest g, l = pre ++ a :: rest → P pre g → ∃ g', f g a = .ok g' ∧ P (pre ++ [a]) g') : ∃ g', foldX f l g = .ok g' ∧ P l g' := by
  have go : ∀ (rest pre : List α) (g : γ), l = pre ++ rest → P pre g → ∃ g', foldX f rest g = .ok g' ∧ P l g' := by
    intro rest
    induction rest with
    | nil => intro pre g e p; exact ⟨g, rfl, by rw [e, List.append_nil]; exact p⟩
    | cons a rest ih =>
      intro pre g e p
      obtain ⟨g1, e1, p1⟩ := hs pre a rest g e p
      obtain ⟨g2, e2, p2⟩ := ih (pre ++ [a]) g1 (by rw [e, List.append_assoc]; rfl) p1
      exact ⟨g2, by show (f g a).bind _ = _; rw [e1]; exact e2, p2⟩
  exact go l [] g rfl h
theorem foldKp {γ α τ : Type} {f : γ → α → Xc γ} {l : List α} {g : γ} {k : γ → Xc τ} {r : Xc τ} (P : List α → γ → Prop) (h : P [] g) (hs : ∀ pre a rest g, l = pre ++ a :: rest → P pre g → ∃ g', f g a = .ok g' ∧ P (pre ++ [a]) g') (hk : ∀ g, P l g → k g = r) : (foldX f l g).bind k = r := by
  obtain ⟨g', e, p⟩ := foldX_pre (f := f) P h hs
  rw [e, bind_ok']
  exact hk g' p
theorem foldEx {γ α τ : Type} {f : γ → α → Xc γ} {l : List α} {g : γ} {k : γ → Xc τ} {Q : τ → Prop} (P : List α → γ → Prop) (h : P [] g) (hs : ∀ pre a rest g, l = pre ++ a :: rest → P pre g → ∃ g', f g a = .ok g' ∧ P (pre ++ [a]) g') (hk : ∀ g, P l g → ∃ r, k g = .ok r ∧ Q r) : ∃ r, (foldX f l g).bind k = .ok r ∧ Q r := by
  obtain ⟨g', e, p⟩ := foldX_pre (f := f) P h hs
  rw [e, bind_ok']
  exact hk g' p
theorem foldEi {γ α τ : Type} {f : γ → α → Xc γ} {l : List α} {g : γ} {k : γ → Xc τ} {Q : τ → Prop} (P : Nat → γ → Prop) (h : P 0 g) (hs : ∀ (i : Nat) g a, l[i]? = some a → P i g → ∃ g', f g a = .ok g' ∧ P (i + 1) g') (hk : ∀ g, P l.length g → ∃ r, k g = .ok r ∧ Q r) : ∃ r, (foldX f l g).bind k = .ok r ∧ Q r := by
  obtain ⟨g', e, p⟩ := foldX_ix (f := f) P h hs
  rw [e, bind_ok']
  exact hk g' p
theorem insX_ok {α : Type} {l : List α} {i : Int} {a : α} (h : l.length < 1000000) (h0 : 0 ≤ i) (h1 : i < 2 ^ 63) : insX l i a = .ok (l.take i.toNat ++ [a] ++ l.drop i.toNat) := by
  have := size_ge
  unfold insX
  rw [if_pos ⟨by omega, h0, h1⟩]
end FL

namespace LW
open PySem L2 FL
def top (i : Nat) : Stmt := PySem.Challenge.pw_leadersets_k01_points_and_directions.main.body.getD i (.Pass ⟨0, 0, 0, 0⟩)
abbrev FnP (K : PySem.W.Frag) (x : Str) (st : Stmt) (f : Addr) (fd : FuncData) : Prop := FunD K x x (defArgs st) (defBody st) (defScope st) [] [] f fd
def m_ratio (z : Int × Int × Unit) : Xc (Int × Int) := (if (decide (z.2.1 = (0 : Int))) = true then (Xc.er "BadNumber" []) else (Xc.bind (if (decide (z.2.1 < (0 : Int))) = true then (Xc.ok (z.1, (z.2.1, ((-(gcdI z.1 z.2.1)), ())))) else (Xc.ok (z.1, (z.2.1, ((gcdI z.1 z.2.1), ()))))) fun (g3 : (Int × (Int × (Int × Unit)))) => (Xc.bind (fdvX g3.1 g3.2.2.1) fun t4 => (Xc.bind (fdvX g3.2.1 g3.2.2.1) fun t5 => (Xc.ok (t4, t5))))))
def m_common_divisor_l (z : (List Int) × Int × Unit) : Xc Int := (Xc.bind (foldX (fun (g7 : ((List Int) × (Int × (Int × Unit)))) a8 => (Xc.ok (g7.1, (g7.2.1, ((gcdI g7.2.2.1 a8), ()))))) z.1 (z.1, (z.2.1, ((absI z.2.1), ())))) fun (g10 : ((List Int) × (Int × (Int × Unit)))) => (Xc.ok g10.2.2.1))
def m_common_divisor_u (z : (Tu Int) × Int × Unit) : Xc Int := (Xc.bind (foldX (fun (g12 : ((Tu Int) × (Int × (Int × Unit)))) a13 => (Xc.ok (g12.1, (g12.2.1, ((gcdI g12.2.2.1 a13), ()))))) (Tu.l z.1) (z.1, (z.2.1, ((absI z.2.1), ())))) fun (g15 : ((Tu Int) × (Int × (Int × Unit)))) => (Xc.ok g15.2.2.1))
def m_point_l (z : (List Int) × Int × Unit) : Xc ((Tu Int) × Int) := (if (decide (z.2.1 = (0 : Int))) = true then (Xc.er "BadNumber" []) else (Xc.bind (m_common_divisor_l (z.1, (z.2.1, ()))) fun t17 => (Xc.bind (if (decide (z.2.1 < (0 : Int))) = true then (Xc.ok (z.1, (z.2.1, ((-t17), ())))) else (Xc.ok (z.1, (z.2.1, (t17, ()))))) fun (g19 : ((List Int) × (Int × (Int × Unit)))) => (Xc.bind (Xc.bind (compX (fun a20 => (Xc.ok true)) (fun a20 => (fdvX a20 g19.2.2.1)) g19.1) fun t21 => (Xc.ok (tu t21))) fun t22 => (Xc.bind (fdvX g19.2.1 g19.2.2.1) fun t23 => (Xc.ok (t22, t23)))))))
def m_point_u (z : (Tu Int) × Int × Unit) : Xc ((Tu Int) × Int) := (if (decide (z.2.1 = (0 : Int))) = true then (Xc.er "BadNumber" []) else (Xc.bind (m_common_divisor_u (z.1, (z.2.1, ()))) fun t25 => (Xc.bind (if (decide (z.2.1 < (0 : Int))) = true then (Xc.ok (z.1, (z.2.1, ((-t25), ())))) else (Xc.ok (z.1, (z.2.1, (t25, ()))))) fun (g27 : ((Tu Int) × (Int × (Int × Unit)))) => (Xc.bind (Xc.bind (compX (fun a28 => (Xc.ok true)) (fun a28 => (fdvX a28 g27.2.2.1)) (Tu.l g27.1)) fun t29 => (Xc.ok (tu t29))) fun t30 => (Xc.bind (fdvX g27.2.1 g27.2.2.1) fun t31 => (Xc.ok (t30, t31)))))))
def m_point_of (z : (List (Int × Int)) × Unit) : Xc ((Tu Int) × Int) := (Xc.bind (foldX (fun (g34 : ((List (Int × Int)) × (Int × Unit))) a35 => (Xc.bind (lcmX g34.2.1 a35.2) fun t36 => (Xc.ok (g34.1, (t36, ()))))) z.1 (z.1, ((1 : Int), ()))) fun (g38 : ((List (Int × Int)) × (Int × Unit))) => (Xc.bind (Xc.bind (compX (fun a39 => (Xc.ok true)) (fun a39 => (Xc.bind (fdvX g38.2.1 a39.2) fun t40 => (mulX a39.1 t40))) g38.1) fun t41 => (Xc.ok (t41, (g38.2.1, ())))) fun t42 => (m_point_l t42)))
def m_coordinate (z : ((Tu Int) × Int) × Int × Unit) : Xc (Int × Int) := (Xc.bind (Xc.bind (getX (Tu.l z.1.1) z.2.1) fun t43 => (Xc.ok (t43, (z.1.2, ())))) fun t44 => (m_ratio t44))
def m_coordinates (z : ((Tu Int) × Int) × Unit) : Xc (Tu (Int × Int)) := (Xc.bind (compX (fun a45 => (Xc.ok true)) (fun a45 => (m_ratio (a45, (z.1.2, ())))) (Tu.l z.1.1)) fun t46 => (Xc.ok (tu t46)))
def m_joined (z : ((Tu Int) × Int) × ((Tu Int) × Int) × Unit) : Xc ((Tu Int) × Int) := (Xc.bind (Xc.bind (compX (fun a47 => (Xc.ok true)) (fun a47 => (mulX a47 z.2.1.2)) (Tu.l z.1.1)) fun t49 => (Xc.bind (compX (fun a48 => (Xc.ok true)) (fun a48 => (mulX a48 z.1.2)) (Tu.l z.2.1.1)) fun t50 => (catL t49 t50))) fun t51 => (Xc.bind (Xc.bind (Xc.bind (mulX z.1.2 z.2.1.2) fun t52 => (Xc.ok (t52, ()))) fun t53 => (Xc.ok (t51, t53))) fun t54 => (m_point_l t54)))
def m_part_of (z : ((Tu Int) × Int) × Int × Int × Unit) : Xc ((Tu Int) × Int) := (m_point_u ((tu (cutL (Tu.l z.1.1) (some z.2.1) (some z.2.2.1))), (z.1.2, ())))
def m_mixed (z : ((Tu Int) × Int) × ((Tu Int) × Int) × (Int × Int) × Unit) : Xc ((Tu Int) × Int) := (Xc.bind (mulX (z.2.2.1.2 - z.2.2.1.1) z.2.1.2) fun t55 => (Xc.bind (mulX z.2.2.1.1 z.1.2) fun t56 => (Xc.bind (compX (fun a57 => (Xc.ok true)) (fun a57 => (Xc.bind (mulX t55 a57.1) fun t58 => (Xc.bind (mulX t56 a57.2) fun t59 => (Xc.ok (t58 + t59))))) (List.zip (Tu.l z.1.1) (Tu.l z.2.1.1))) fun t60 => (Xc.bind (Xc.bind (Xc.bind (Xc.bind (mulX z.2.2.1.2 z.1.2) fun t61 => (mulX t61 z.2.1.2)) fun t62 => (Xc.ok (t62, ()))) fun t63 => (Xc.ok (t60, t63))) fun t64 => (m_point_l t64)))))
def m_shifted (z : ((Tu Int) × Int) × (List Int) × (Int × Int) × Unit) : Xc ((Tu Int) × Int) := (Xc.bind (compX (fun a65 => (Xc.ok true)) (fun a65 => (Xc.bind (mulX a65.1 z.2.2.1.2) fun t67 => (Xc.bind (Xc.bind (mulX z.1.2 z.2.2.1.1) fun t66 => (mulX t66 a65.2)) fun t68 => (Xc.ok (t67 + t68))))) (List.zip (Tu.l z.1.1) z.2.1)) fun t69 => (Xc.bind (Xc.bind (Xc.bind (mulX z.1.2 z.2.2.1.2) fun t70 => (Xc.ok (t70, ()))) fun t71 => (Xc.ok (t69, t71))) fun t72 => (m_point_l t72)))
def m_direction (z : (List Int) × Unit) : Xc (Tu Int) := (Xc.bind (m_common_divisor_l (z.1, ((0 : Int), ()))) fun t73 => (if (decide (t73 = (0 : Int))) = true then (Xc.er "BadNumber" []) else (Xc.bind (compX (fun a75 => (Xc.ok true)) (fun a75 => (fdvX a75 t73)) z.1) fun t76 => (Xc.ok (tu t76)))))
def m_sorted_points (z : (List ((Tu Int) × Int)) × Unit) : Xc (List ((Tu Int) × Int)) := (Xc.bind (foldX (fun (g79 : ((List ((Tu Int) × Int)) × (Int × Unit))) a80 => (Xc.bind (lcmX g79.2.1 a80.2) fun t81 => (Xc.ok (g79.1, (t81, ()))))) z.1 (z.1, ((1 : Int), ()))) fun (g83 : ((List ((Tu Int) × Int)) × (Int × Unit))) => (Xc.bind (Xc.bind (compX (fun a84 => (Xc.ok true)) (fun a84 => (Xc.bind (Xc.bind (compX (fun a85 => (Xc.ok true)) (fun a85 => (Xc.bind (fdvX g83.2.1 a84.2) fun t86 => (mulX a85 t86))) (Tu.l a84.1)) fun t87 => (Xc.ok (tu t87))) fun t88 => (Xc.ok (t88, a84)))) g83.1) fun t89 => (sortX t89)) fun t90 => (Xc.bind (foldX (fun (g101 : ((List ((Tu Int) × Int)) × (Int × ((List ((Tu Int) × ((Tu Int) × Int))) × (List ((Tu Int) × Int) × Unit))))) a102 => (Xc.bind (Xc.bind (Xc.bind (eqdX g101.2.2.2.1 ([] : List ((Tu Int) × Int))) fun t104 => (if t104 = true then Xc.ok true else (Xc.bind (getX g101.2.2.2.1 (-(1 : Int))) fun t103 => (Xc.bind (eqdX t103 a102.2) fun t => Xc.ok (!t))))) fun t110 => (if t110 = true then (Xc.bind (appX g101.2.2.2.1 a102.2) fun t108 => (Xc.ok (g101.1, (g101.2.1, (a102.2, (g101.2.2.1, (t108, (a102.1, ())))))))) else (Xc.ok (g101.1, (g101.2.1, (a102.2, (g101.2.2.1, (g101.2.2.2.1, (a102.1, ()))))))))) fun (g111 : ((List ((Tu Int) × Int)) × (Int × (((Tu Int) × Int) × ((List ((Tu Int) × ((Tu Int) × Int))) × (List ((Tu Int) × Int) × ((Tu Int) × Unit))))))) => (Xc.ok (g111.1, (g111.2.1, (g111.2.2.2.1, (g111.2.2.2.2.1, ()))))))) t90 (g83.1, (g83.2.1, (t90, (([] : List ((Tu Int) × Int)), ()))))) fun (g113 : ((List ((Tu Int) × Int)) × (Int × ((List ((Tu Int) × ((Tu Int) × Int))) × (List ((Tu Int) × Int) × Unit))))) => (Xc.ok g113.2.2.2.1))))
def m__are_integers (z : PyData × Unit) : Xc Bool := (Xc.bind (Xc.bind (isiX (HasTy.ty z.1) "tuple") fun t114 => (Xc.ok (!t114))) fun t131 => (if t131 = true then (Xc.ok false) else (Xc.bind (Xc.bind (asT z.1) fun t123 => (Xc.ok (Tu.l t123))) fun t130 => (forK (forX (fun (g122 : (PyData × Unit)) a124 => (Xc.bind (Xc.bind (Xc.bind (isiX (HasTy.ty a124) "int") fun t125 => (Xc.ok (!t125))) fun t126 => (if t126 = true then Xc.ok true else (isiX (HasTy.ty a124) "bool"))) fun t128 => (if t128 = true then (Xc.ok (Lp.rt false)) else (Xc.ok (Lp.ct (g122.1, ())))))) t130 (z.1, ())) id fun (g129 : (PyData × Unit)) => (Xc.ok true)))))
def m_is_point (z : PyData × Int × Unit) : Xc Bool := (Xc.bind (Xc.bind (Xc.bind (isiX (HasTy.ty z.1) "tuple") fun t132 => (Xc.ok (!t132))) fun t135 => (if t135 = true then Xc.ok true else (Xc.bind (Xc.bind (asT z.1) fun t133 => (Xc.ok ((HasLen.len t133 : Nat) : Int))) fun t134 => (Xc.ok (!decide (t134 = (2 : Int))))))) fun t170 => (if t170 = true then (Xc.ok false) else (Xc.bind (Xc.bind (Xc.bind (Xc.bind (Xc.bind (Xc.bind (asT z.1) fun t137 => (getX (Tu.l t137) (0 : Int))) fun t138 => (Xc.ok (t138, ()))) fun t139 => (m__are_integers t139)) fun t140 => (Xc.ok (!t140))) fun t148 => (if t148 = true then Xc.ok true else (Xc.bind (Xc.bind (Xc.bind (Xc.bind (Xc.bind (Xc.bind (Xc.bind (asT z.1) fun t141 => (getX (Tu.l t141) (1 : Int))) fun t142 => (Xc.ok (t142 :: ([] : List PyData)))) fun t143 => (Xc.bind (szX t143) fun l => Xc.ok (tu l))) fun t144 => (datX t144)) fun t145 => (Xc.ok (t145, ()))) fun t146 => (m__are_integers t146)) fun t147 => (Xc.ok (!t147))))) fun t169 => (if t169 = true then (Xc.ok false) else (Xc.bind (Xc.bind (Xc.bind (Xc.bind (Xc.bind (asT z.1) fun t150 => (getX (Tu.l t150) (0 : Int))) fun t151 => (asT t151)) fun t152 => (Xc.ok ((HasLen.len t152 : Nat) : Int))) fun t153 => (Xc.ok (decide (t153 = z.2.1)))) fun t168 => (if t168 = true then (Xc.bind (Xc.bind (Xc.bind (Xc.bind (asT z.1) fun t154 => (getX (Tu.l t154) (1 : Int))) fun t155 => (asI t155)) fun t156 => (Xc.ok (decide ((1 : Int) ≤ t156)))) fun t167 => (if t167 = true then (Xc.bind (Xc.bind (Xc.bind (Xc.bind (Xc.bind (asT z.1) fun t158 => (getX (Tu.l t158) (0 : Int))) fun t159 => (asTI t159)) fun t163 => (Xc.bind (Xc.bind (Xc.bind (Xc.bind (asT z.1) fun t160 => (getX (Tu.l t160) (1 : Int))) fun t161 => (asI t161)) fun t162 => (Xc.ok (t162, ()))) fun t164 => (Xc.ok (t163, t164)))) fun t165 => (m_common_divisor_u t165)) fun t166 => (Xc.ok (decide (t166 = (1 : Int))))) else Xc.ok false)) else Xc.ok false))))))
def m_is_direction (z : PyData × Int × Unit) : Xc Bool := (Xc.bind (m__are_integers (z.1, ())) fun t177 => (if t177 = true then (Xc.bind (Xc.bind (Xc.bind (asT z.1) fun t171 => (Xc.ok ((HasLen.len t171 : Nat) : Int))) fun t172 => (Xc.ok (decide (t172 = z.2.1)))) fun t176 => (if t176 = true then (Xc.bind (Xc.bind (Xc.bind (asTI z.1) fun t173 => (Xc.ok (t173, ((0 : Int), ())))) fun t174 => (m_common_divisor_u t174)) fun t175 => (Xc.ok (decide (t175 = (1 : Int))))) else Xc.ok false)) else Xc.ok false))
def m__law_draws (z : (List Int) × Int × Unit) : Xc (List Int) := (Xc.bind (foldX (fun (g287 : ((List Int) × (Int × (List Int × Unit)))) a288 => (Xc.bind (Xc.bind (Xc.bind (powX (10 : Int) (18 : Int)) fun t289 => (Xc.ok (decide (t289 ≤ a288)))) fun t395 => (if t395 = true then (Xc.bind (Xc.bind (rngX 0 (60 : Int)) fun t369 => (foldX (fun (g354 : ((List Int) × (Int × (List Int × (Int × (Int × Unit)))))) a355 => (Xc.bind (Xc.bind (if (decide ((0 : Int) < g354.2.2.2.2.1)) = true then (Xc.ok (decide (((HasLen.len g354.2.2.1 : Nat) : Int) < g354.2.1))) else Xc.ok false) fun t365 => (if t365 = true then (Xc.bind (modX g354.2.2.2.2.1 (1000 : Int)) fun t361 => (Xc.bind (appX g354.2.2.1 t361) fun t362 => (Xc.bind (fdvX g354.2.2.2.2.1 (1000 : Int)) fun t363 => (Xc.ok (g354.1, (g354.2.1, (t362, (g354.2.2.2.1, (t363, (a355, ())))))))))) else (Xc.ok (g354.1, (g354.2.1, (g354.2.2.1, (g354.2.2.2.1, (g354.2.2.2.2.1, (a355, ()))))))))) fun (g366 : ((List Int) × (Int × (List Int × (Int × (Int × (Int × Unit))))))) => (Xc.ok (g366.1, (g366.2.1, (g366.2.2.1, (g366.2.2.2.1, (g366.2.2.2.2.1, ())))))))) t369 (g287.1, (g287.2.1, (g287.2.2.1, (a288, (a288, ()))))))) fun (g368 : ((List Int) × (Int × (List Int × (Int × (Int × Unit)))))) => (Xc.ok (g368.1, (g368.2.1, (g368.2.2.1, (g368.2.2.2.1, (g368.2.2.2.2.1, ()))))))) else (Xc.bind (if (decide (((HasLen.len g287.2.2.1 : Nat) : Int) < g287.2.1)) = true then (Xc.bind (Xc.bind (Xc.bind (Xc.bind (Xc.bind (Xc.bind (Xc.bind (Xc.bind (Xc.bind (mulX a288 (48271 : Int)) fun t381 => (Xc.ok (t381 + (11 : Int)))) fun t382 => (Xc.ok t382)) fun t383 => (modX t383 (65537 : Int))) fun t384 => (mulX t384 (31 : Int))) fun t385 => (Xc.ok (t385 + (7 : Int)))) fun t386 => (Xc.ok t386)) fun t387 => (modX t387 (1009 : Int))) fun t388 => (modX t388 (1000 : Int))) fun t390 => (Xc.bind (appX g287.2.2.1 t390) fun t391 => (Xc.ok (g287.1, (g287.2.1, (t391, (a288, (a288, ())))))))) else (Xc.ok (g287.1, (g287.2.1, (g287.2.2.1, (a288, (a288, ()))))))) fun (g393 : ((List Int) × (Int × (List Int × (Int × (Int × Unit)))))) => (Xc.ok (g393.1, (g393.2.1, (g393.2.2.1, (g393.2.2.2.1, (g393.2.2.2.2.1, ()))))))))) fun (g396 : ((List Int) × (Int × (List Int × (Int × (Int × Unit)))))) => (Xc.ok (g396.1, (g396.2.1, (g396.2.2.1, ())))))) z.1 (z.1, (z.2.1, (([] : List Int), ())))) fun (g398 : ((List Int) × (Int × (List Int × Unit)))) => (let vseed_399 : Int := ((7 : Int) + ((HasLen.len g398.1 : Nat) : Int)); (Xc.bind (foldX (fun (g405 : ((List Int) × (Int × (List Int × (Int × Unit))))) a406 => (Xc.bind (Xc.bind (Xc.bind (Xc.bind (mulX g405.2.2.2.1 (31 : Int)) fun t407 => (Xc.ok (t407 + a406))) fun t408 => (Xc.ok t408)) fun t409 => (modX t409 (1000003 : Int))) fun t410 => (Xc.ok (g405.1, (g405.2.1, (g405.2.2.1, (t410, ()))))))) g398.1 (g398.1, (g398.2.1, (g398.2.2.1, (vseed_399, ()))))) fun (g412 : ((List Int) × (Int × (List Int × (Int × Unit))))) => (Xc.bind (Xc.bind (rngX 0 g412.2.1) fun t454 => (foldX (fun (g432 : ((List Int) × (Int × (List Int × (Int × Unit))))) a433 => (Xc.bind (if (decide (((HasLen.len g432.2.2.1 : Nat) : Int) < g432.2.1)) = true then (Xc.bind (Xc.bind (Xc.bind (Xc.bind (mulX g432.2.2.2.1 (48271 : Int)) fun t442 => (Xc.ok (t442 + (69621 : Int)))) fun t443 => (Xc.ok t443)) fun t444 => (modX t444 (2147483647 : Int))) fun t445 => (Xc.bind (Xc.bind (fdvX t445 (1000 : Int)) fun t446 => (modX t446 (1000 : Int))) fun t448 => (Xc.bind (appX g432.2.2.1 t448) fun t449 => (Xc.ok (g432.1, (g432.2.1, (t449, (a433, (t445, ()))))))))) else (Xc.ok (g432.1, (g432.2.1, (g432.2.2.1, (a433, (g432.2.2.2.1, ()))))))) fun (g451 : ((List Int) × (Int × (List Int × (Int × (Int × Unit)))))) => (Xc.ok (g451.1, (g451.2.1, (g451.2.2.1, (g451.2.2.2.2.1, ()))))))) t454 (g412.1, (g412.2.1, (g412.2.2.1, (g412.2.2.2.1, ())))))) fun (g453 : ((List Int) × (Int × (List Int × (Int × Unit))))) => (Xc.ok g453.2.2.1)))))
def m__law_gcd (z : Int × Int × Unit) : Xc Int := (Xc.bind (Xc.bind (Xc.bind (mulX (2 : Int) ((Builtin.Int.intBits (absI z.2.1) : Nat) : Int)) fun t461 => (Xc.ok (t461 + (2 : Int)))) fun t462 => (rngX 0 t462)) fun t467 => (forK (forX (fun (g460 : (Int × (Int × Unit))) a463 => (if (decide (g460.2.1 = (0 : Int))) = true then (Xc.ok (Lp.rt g460.1)) else (Xc.bind (modX g460.1 g460.2.1) fun t465 => (Xc.ok (Lp.ct (g460.2.1, (t465, ()))))))) t467 ((absI z.1), ((absI z.2.1), ()))) id fun (g466 : (Int × (Int × Unit))) => (Xc.ok g466.1)))
def m__law_common_l (z : (List Int) × Int × Unit) : Xc Int := (Xc.bind (foldX (fun (g470 : ((List Int) × (Int × (Int × Unit)))) a471 => (Xc.bind (m__law_gcd (g470.2.2.1, (a471, ()))) fun t472 => (Xc.ok (g470.1, (g470.2.1, (t472, ())))))) z.1 (z.1, (z.2.1, ((absI z.2.1), ())))) fun (g474 : ((List Int) × (Int × (Int × Unit)))) => (Xc.ok g474.2.2.1))
def m__law_common_u (z : (Tu Int) × Int × Unit) : Xc Int := (Xc.bind (foldX (fun (g477 : ((Tu Int) × (Int × (Int × Unit)))) a478 => (Xc.bind (m__law_gcd (g477.2.2.1, (a478, ()))) fun t479 => (Xc.ok (g477.1, (g477.2.1, (t479, ())))))) (Tu.l z.1) (z.1, (z.2.1, ((absI z.2.1), ())))) fun (g481 : ((Tu Int) × (Int × (Int × Unit)))) => (Xc.ok g481.2.2.1))
def m__law_point (z : (List Int) × Int × Unit) : Xc ((Tu Int) × Int) := (Xc.bind (m__law_common_l (z.1, (z.2.1, ()))) fun t482 => (Xc.bind (if (decide (z.2.1 < (0 : Int))) = true then (Xc.ok (z.1, (z.2.1, ((-t482), ())))) else (Xc.ok (z.1, (z.2.1, (t482, ()))))) fun (g484 : ((List Int) × (Int × (Int × Unit)))) => (Xc.bind (Xc.bind (compX (fun a485 => (Xc.ok true)) (fun a485 => (fdvX a485 g484.2.2.1)) g484.1) fun t486 => (Xc.ok (tu t486))) fun t487 => (Xc.bind (fdvX g484.2.1 g484.2.2.1) fun t488 => (Xc.ok (t487, t488))))))
def m__law_low (z : Int × Int × Unit) : Xc (Int × Int) := (Xc.bind (Xc.bind (Xc.bind (szX (z.1 :: ([] : List Int))) fun t489 => (Xc.ok (t489, (z.2.1, ())))) fun t490 => (m__law_point t490)) fun t491 => (Xc.bind (getX (Tu.l t491.1) (0 : Int)) fun t492 => (Xc.ok (t492, t491.2))))
def m__law_integers (z : (Tu Int) × (Tu Int) × Unit) : Xc Bool := (Xc.bind (Xc.bind (Xc.bind (isiX (HasTy.ty z.1) "tuple") fun t493 => (Xc.ok (!t493))) fun t494 => (if t494 = true then Xc.ok true else (Xc.ok (!decide (((HasLen.len z.1 : Nat) : Int) = ((HasLen.len z.2.1 : Nat) : Int)))))) fun t519 => (if t519 = true then (Xc.ok false) else (Xc.bind (rngX 0 ((HasLen.len z.2.1 : Nat) : Int)) fun t518 => (forK (forX (fun (g506 : ((Tu Int) × ((Tu Int) × Unit))) a507 => (Xc.bind (Xc.bind (Xc.bind (Xc.bind (getX (Tu.l g506.1) a507) fun t508 => (isiX (HasTy.ty t508) "int")) fun t509 => (Xc.ok (!t509))) fun t514 => (if t514 = true then Xc.ok true else (Xc.bind (Xc.bind (getX (Tu.l g506.1) a507) fun t510 => (isiX (HasTy.ty t510) "bool")) fun t513 => (if t513 = true then Xc.ok true else (Xc.bind (getX (Tu.l g506.1) a507) fun t511 => (Xc.bind (getX (Tu.l g506.2.1) a507) fun t512 => (Xc.ok (!decide (t511 = t512))))))))) fun t516 => (if t516 = true then (Xc.ok (Lp.rt false)) else (Xc.ok (Lp.ct (g506.1, (g506.2.1, ()))))))) t518 (z.1, (z.2.1, ()))) id fun (g517 : ((Tu Int) × ((Tu Int) × Unit))) => (Xc.ok true)))))
def m__law_same (z : ((Tu Int) × Int) × ((Tu Int) × Int) × Unit) : Xc Bool := (Xc.bind (Xc.bind (Xc.bind (isiX (HasTy.ty z.1) "tuple") fun t520 => (Xc.ok (!t520))) fun t521 => (if t521 = true then Xc.ok true else (Xc.ok (!decide (((HasLen.len z.1 : Nat) : Int) = (2 : Int)))))) fun t528 => (if t528 = true then (Xc.ok false) else (Xc.bind (m__law_integers (z.1.1, (z.2.1.1, ()))) fun t527 => (if t527 = true then (Xc.bind (Xc.bind (Xc.bind (szX (z.1.2 :: ([] : List Int))) fun l => Xc.ok (tu l)) fun t524 => (Xc.bind (Xc.bind (Xc.bind (szX (z.2.1.2 :: ([] : List Int))) fun l => Xc.ok (tu l)) fun t523 => (Xc.ok (t523, ()))) fun t525 => (Xc.ok (t524, t525)))) fun t526 => (m__law_integers t526)) else Xc.ok false))))
def m__law_truth (z : Bool × Bool × Unit) : Xc Bool := (Xc.bind (isiX (HasTy.ty z.1) "bool") fun t529 => (if t529 = true then (Xc.ok (decide (z.1 = z.2.1))) else Xc.ok false))
def m__law_tops (z : (List Int) × Int × Int × Bool × Unit) : Xc (List Int) := (Xc.bind (Xc.bind (rngX 0 z.2.2.1) fun t533 => (compX (fun a530 => (Xc.ok true)) (fun a530 => (Xc.bind (Xc.bind (getX z.1 (z.2.1 + a530)) fun t531 => (modX t531 (19 : Int))) fun t532 => (Xc.ok (t532 - (9 : Int))))) t533)) fun t534 => (Xc.bind (if z.2.2.2.1 = true then (Xc.bind (compX (fun a540 => (Xc.ok true)) (fun a540 => (Xc.bind (Xc.bind (powX (10 : Int) (36 : Int)) fun t541 => (mulX a540 t541)) fun t542 => (Xc.bind (getX z.1 z.2.1) fun t543 => (Xc.ok (t542 + t543))))) t534) fun t544 => (Xc.ok (z.1, (z.2.1, (z.2.2.1, (z.2.2.2.1, (t544, ()))))))) else (Xc.ok (z.1, (z.2.1, (z.2.2.1, (z.2.2.2.1, (t534, ()))))))) fun (g546 : ((List Int) × (Int × (Int × (Bool × (List Int × Unit)))))) => (Xc.ok g546.2.2.2.2.1)))
def m__law_raises (z : Str × (List Int) × Unit) : Xc Bool := (joinM (catM (catch1 "BadNumber") (Xc.bind (if (decide (z.1 = ("point" : Str))) = true then (Xc.bind (m_point_l (z.2.1, ((0 : Int), ()))) fun t556 => (Xc.ok (z.1, (z.2.1, ())))) else (Xc.bind (m_direction (z.2.1, ())) fun t557 => (Xc.ok (z.1, (z.2.1, ()))))) fun (g559 : (Str × ((List Int) × Unit))) => (Xc.ok (Sum.inl (g559.1, (g559.2.1, ()))))) fun cc => (Xc.bind (if true = true then (if true = true then (Xc.ok (!false)) else Xc.ok false) else Xc.ok false) fun t560 => (Xc.ok (Sum.inr t560)))) fun (g561 : (Str × ((List Int) × Unit))) => (Xc.ok false))
def m__law_before (z : ((Tu Int) × Int) × ((Tu Int) × Int) × Unit) : Xc Bool := (Xc.bind (rngX 0 ((HasLen.len z.1.1 : Nat) : Int)) fun t576 => (forK (forX (fun (g568 : (((Tu Int) × Int) × (((Tu Int) × Int) × Unit))) a569 => (Xc.bind (Xc.bind (getX (Tu.l g568.1.1) a569) fun t570 => (mulX t570 g568.2.1.2)) fun t571 => (Xc.bind (Xc.bind (getX (Tu.l g568.2.1.1) a569) fun t572 => (mulX t572 g568.1.2)) fun t573 => (if (!decide (t571 = t573)) = true then (Xc.ok (Lp.rt (decide (t571 < t573)))) else (Xc.ok (Lp.ct (g568.1, (g568.2.1, ())))))))) t576 (z.1, (z.2.1, ()))) id fun (g575 : (((Tu Int) × Int) × (((Tu Int) × Int) × Unit))) => (Xc.ok false)))
def m__law_sorted (z : (List ((Tu Int) × Int)) × Unit) : Xc (List ((Tu Int) × Int)) := (Xc.bind (foldX (fun (g599 : ((List ((Tu Int) × Int)) × (List ((Tu Int) × Int) × Unit))) a600 => (Xc.bind (Xc.bind (rngX 0 ((HasLen.len g599.2.1 : Nat) : Int)) fun t616 => (foldX (fun (g607 : ((List ((Tu Int) × Int)) × (List ((Tu Int) × Int) × (((Tu Int) × Int) × (Int × Unit))))) a608 => (Xc.bind (Xc.bind (Xc.bind (Xc.bind (getX g607.2.1 a608) fun t609 => (Xc.ok (t609, (g607.2.2.1, ())))) fun t610 => (m__law_before t610)) fun t612 => (if t612 = true then (Xc.ok (g607.1, (g607.2.1, (g607.2.2.1, ((a608 + (1 : Int)), (a608, ())))))) else (Xc.ok (g607.1, (g607.2.1, (g607.2.2.1, (g607.2.2.2.1, (a608, ())))))))) fun (g613 : ((List ((Tu Int) × Int)) × (List ((Tu Int) × Int) × (((Tu Int) × Int) × (Int × (Int × Unit)))))) => (Xc.ok (g613.1, (g613.2.1, (g613.2.2.1, (g613.2.2.2.1, ()))))))) t616 (g599.1, (g599.2.1, (a600, ((0 : Int), ())))))) fun (g615 : ((List ((Tu Int) × Int)) × (List ((Tu Int) × Int) × (((Tu Int) × Int) × (Int × Unit))))) => (Xc.bind (Xc.bind (Xc.bind (inDX g615.2.2.1 g615.2.1) fun t => Xc.ok (!t)) fun t620 => (if t620 = true then (Xc.bind (insX g615.2.1 g615.2.2.2.1 g615.2.2.1) fun t618 => (Xc.ok (g615.1, (t618, (g615.2.2.1, (g615.2.2.2.1, ())))))) else (Xc.ok (g615.1, (g615.2.1, (g615.2.2.1, (g615.2.2.2.1, ()))))))) fun (g621 : ((List ((Tu Int) × Int)) × (List ((Tu Int) × Int) × (((Tu Int) × Int) × (Int × Unit))))) => (Xc.ok (g621.1, (g621.2.1, ())))))) z.1 (z.1, (([] : List ((Tu Int) × Int)), ()))) fun (g623 : ((List ((Tu Int) × Int)) × (List ((Tu Int) × Int) × Unit))) => (Xc.ok g623.2.1))
def m__law_two (z : (List Int) × (List Int) × (Int × Int) × (List Int) × Int × Unit) : Xc Bool := (Xc.bind (Xc.bind (Xc.bind (Xc.bind (getX z.1 (-(1 : Int))) fun t624 => (Xc.ok (t624, ()))) fun t625 => (Xc.ok ((cutL z.1 none (some (-(1 : Int)))), t625))) fun t626 => (m__law_point t626)) fun t627 => (Xc.bind (Xc.bind (Xc.bind (Xc.bind (getX z.2.1 (-(1 : Int))) fun t628 => (Xc.ok (t628, ()))) fun t629 => (Xc.ok ((cutL z.2.1 none (some (-(1 : Int)))), t629))) fun t630 => (m__law_point t630)) fun t631 => (let vsize_632 : Int := (((HasLen.len z.1 : Nat) : Int) - (1 : Int)); (Xc.bind (Xc.bind (Xc.bind (rngX 0 vsize_632) fun t636 => (compX (fun a633 => (Xc.ok true)) (fun a633 => (Xc.bind (getX z.1 a633) fun t634 => (Xc.bind (getX z.2.1 (-(1 : Int))) fun t635 => (mulX t634 t635)))) t636)) fun t641 => (Xc.bind (Xc.bind (rngX 0 vsize_632) fun t640 => (compX (fun a637 => (Xc.ok true)) (fun a637 => (Xc.bind (getX z.2.1 a637) fun t638 => (Xc.bind (getX z.1 (-(1 : Int))) fun t639 => (mulX t638 t639)))) t640)) fun t642 => (catL t641 t642))) fun t643 => (Xc.bind (Xc.bind (Xc.bind (Xc.bind (m_joined (t627, (t631, ()))) fun t650 => (Xc.bind (Xc.bind (Xc.bind (Xc.bind (Xc.bind (Xc.bind (getX z.1 (-(1 : Int))) fun t644 => (Xc.bind (getX z.2.1 (-(1 : Int))) fun t645 => (mulX t644 t645))) fun t646 => (Xc.ok (t646, ()))) fun t647 => (Xc.ok (t643, t647))) fun t648 => (m__law_point t648)) fun t649 => (Xc.ok (t649, ()))) fun t651 => (Xc.ok (t650, t651)))) fun t652 => (m__law_same t652)) fun t653 => (Xc.ok (!t653))) fun t773 => (if t773 = true then (Xc.ok false) else (Xc.bind (Xc.bind (Xc.bind (Xc.bind (m_part_of (t627, (z.2.2.2.2.1, (vsize_632, ())))) fun t659 => (Xc.bind (Xc.bind (Xc.bind (Xc.bind (Xc.bind (getX z.1 (-(1 : Int))) fun t655 => (Xc.ok (t655, ()))) fun t656 => (Xc.ok ((cutL z.1 (some z.2.2.2.2.1) (some (-(1 : Int)))), t656))) fun t657 => (m__law_point t657)) fun t658 => (Xc.ok (t658, ()))) fun t660 => (Xc.ok (t659, t660)))) fun t661 => (m__law_same t661)) fun t662 => (Xc.ok (!t662))) fun t772 => (if t772 = true then (Xc.ok false) else (Xc.bind (Xc.bind (Xc.bind (Xc.bind (m_part_of (t627, ((0 : Int), (z.2.2.2.2.1, ())))) fun t668 => (Xc.bind (Xc.bind (Xc.bind (Xc.bind (Xc.bind (getX z.1 (-(1 : Int))) fun t664 => (Xc.ok (t664, ()))) fun t665 => (Xc.ok ((cutL z.1 none (some z.2.2.2.2.1)), t665))) fun t666 => (m__law_point t666)) fun t667 => (Xc.ok (t667, ()))) fun t669 => (Xc.ok (t668, t669)))) fun t670 => (m__law_same t670)) fun t671 => (Xc.ok (!t671))) fun t771 => (if t771 = true then (Xc.ok false) else (Xc.bind (Xc.bind (getX z.2.1 (-(1 : Int))) fun t673 => (mulX (z.2.2.1.2 - z.2.2.1.1) t673)) fun t674 => (Xc.bind (Xc.bind (getX z.1 (-(1 : Int))) fun t675 => (mulX z.2.2.1.1 t675)) fun t676 => (Xc.bind (Xc.bind (rngX 0 vsize_632) fun t682 => (compX (fun a677 => (Xc.ok true)) (fun a677 => (Xc.bind (Xc.bind (getX z.1 a677) fun t678 => (mulX t674 t678)) fun t680 => (Xc.bind (Xc.bind (getX z.2.1 a677) fun t679 => (mulX t676 t679)) fun t681 => (Xc.ok (t680 + t681))))) t682)) fun t683 => (Xc.bind (Xc.bind (Xc.bind (Xc.bind (m_mixed (t627, (t631, (z.2.2.1, ())))) fun t691 => (Xc.bind (Xc.bind (Xc.bind (Xc.bind (Xc.bind (Xc.bind (Xc.bind (getX z.1 (-(1 : Int))) fun t684 => (mulX z.2.2.1.2 t684)) fun t685 => (Xc.bind (getX z.2.1 (-(1 : Int))) fun t686 => (mulX t685 t686))) fun t687 => (Xc.ok (t687, ()))) fun t688 => (Xc.ok (t683, t688))) fun t689 => (m__law_point t689)) fun t690 => (Xc.ok (t690, ()))) fun t692 => (Xc.ok (t691, t692)))) fun t693 => (m__law_same t693)) fun t694 => (Xc.ok (!t694))) fun t770 => (if t770 = true then (Xc.ok false) else (Xc.bind (Xc.bind (rngX 0 vsize_632) fun t703 => (compX (fun a696 => (Xc.ok true)) (fun a696 => (Xc.bind (Xc.bind (getX z.1 a696) fun t697 => (mulX t697 z.2.2.1.2)) fun t701 => (Xc.bind (Xc.bind (Xc.bind (getX z.2.2.2.1 a696) fun t698 => (mulX t698 z.2.2.1.1)) fun t699 => (Xc.bind (getX z.1 (-(1 : Int))) fun t700 => (mulX t699 t700))) fun t702 => (Xc.ok (t701 + t702))))) t703)) fun t704 => (Xc.bind (Xc.bind (Xc.bind (Xc.bind (m_shifted (t627, (z.2.2.2.1, (z.2.2.1, ())))) fun t710 => (Xc.bind (Xc.bind (Xc.bind (Xc.bind (Xc.bind (Xc.bind (getX z.1 (-(1 : Int))) fun t705 => (mulX t705 z.2.2.1.2)) fun t706 => (Xc.ok (t706, ()))) fun t707 => (Xc.ok (t704, t707))) fun t708 => (m__law_point t708)) fun t709 => (Xc.ok (t709, ()))) fun t711 => (Xc.ok (t710, t711)))) fun t712 => (m__law_same t712)) fun t713 => (Xc.ok (!t713))) fun t769 => (if t769 = true then (Xc.ok false) else (Xc.bind (Xc.bind (rngX 0 vsize_632) fun t720 => (compX (fun a715 => (Xc.ok true)) (fun a715 => (Xc.bind (Xc.bind (getX z.1 a715) fun t717 => (Xc.bind (Xc.bind (getX z.1 (-(1 : Int))) fun t716 => (Xc.ok (t716, ()))) fun t718 => (Xc.ok (t717, t718)))) fun t719 => (m__law_low t719))) t720)) fun t721 => (Xc.bind (m_coordinates (t627, ())) fun t722 => (Xc.bind (Xc.bind (Xc.bind (isiX (HasTy.ty t722) "tuple") fun t723 => (Xc.ok (!t723))) fun t727 => (if t727 = true then Xc.ok true else (if (!decide (((HasLen.len t722 : Nat) : Int) = vsize_632)) = true then Xc.ok true else (Xc.bind (Xc.bind (Xc.bind (m_point_of (t721, ())) fun t724 => (Xc.ok (t724, (t627, ())))) fun t725 => (m__law_same t725)) fun t726 => (Xc.ok (!t726)))))) fun t768 => (if t768 = true then (Xc.ok false) else (Xc.bind (rngX 0 vsize_632) fun t767 => (forK (forX (fun (g747 : ((List Int) × ((List Int) × ((Int × Int) × ((List Int) × (Int × (((Tu Int) × Int) × (((Tu Int) × Int) × (Int × ((List Int) × (Int × (Int × ((List (Int × Int)) × ((Tu (Int × Int)) × Unit)))))))))))))) a748 => (Xc.bind (Xc.bind (Xc.bind (Xc.bind (Xc.bind (Xc.bind (getX (Tu.l g747.2.2.2.2.2.2.2.2.2.2.2.2.1) a748) fun t749 => (Xc.ok (tu [t749.1, t749.2]))) fun t752 => (Xc.bind (Xc.bind (Xc.bind (getX g747.2.2.2.2.2.2.2.2.2.2.2.1 a748) fun t750 => (Xc.ok (tu [t750.1, t750.2]))) fun t751 => (Xc.ok (t751, ()))) fun t753 => (Xc.ok (t752, t753)))) fun t754 => (m__law_integers t754)) fun t755 => (Xc.ok (!t755))) fun t763 => (if t763 = true then Xc.ok true else (Xc.bind (Xc.bind (Xc.bind (Xc.bind (m_coordinate (g747.2.2.2.2.2.1, (a748, ()))) fun t756 => (Xc.ok (tu [t756.1, t756.2]))) fun t759 => (Xc.bind (Xc.bind (Xc.bind (getX g747.2.2.2.2.2.2.2.2.2.2.2.1 a748) fun t757 => (Xc.ok (tu [t757.1, t757.2]))) fun t758 => (Xc.ok (t758, ()))) fun t760 => (Xc.ok (t759, t760)))) fun t761 => (m__law_integers t761)) fun t762 => (Xc.ok (!t762))))) fun t765 => (if t765 = true then (Xc.ok (Lp.rt false)) else (Xc.ok (Lp.ct (g747.1, (g747.2.1, (g747.2.2.1, (g747.2.2.2.1, (g747.2.2.2.2.1, (g747.2.2.2.2.2.1, (g747.2.2.2.2.2.2.1, (g747.2.2.2.2.2.2.2.1, (g747.2.2.2.2.2.2.2.2.1, (g747.2.2.2.2.2.2.2.2.2.1, (g747.2.2.2.2.2.2.2.2.2.2.1, (g747.2.2.2.2.2.2.2.2.2.2.2.1, (g747.2.2.2.2.2.2.2.2.2.2.2.2.1, ())))))))))))))))))) t767 (z.1, (z.2.1, (z.2.2.1, (z.2.2.2.1, (z.2.2.2.2.1, (t627, (t631, (vsize_632, (t704, (t674, (t676, (t721, (t722, ())))))))))))))) id fun (g766 : ((List Int) × ((List Int) × ((Int × Int) × ((List Int) × (Int × (((Tu Int) × Int) × (((Tu Int) × Int) × (Int × ((List Int) × (Int × (Int × ((List (Int × Int)) × ((Tu (Int × Int)) × Unit)))))))))))))) => (Xc.ok true)))))))))))))))))))))))))
def m__law_kinds (z : ((Tu Int) × Int) × (List Int) × Int × Unit) : Xc Bool := (Xc.bind (Xc.bind (Xc.bind (Xc.bind (Xc.bind (Xc.bind (Xc.bind (datX z.1) fun t774 => (Xc.ok (t774, (z.2.2.1, ())))) fun t775 => (m_is_point t775)) fun t776 => (Xc.ok (t776, (true, ())))) fun t777 => (m__law_truth t777)) fun t778 => (Xc.ok (!t778))) fun t784 => (if t784 = true then Xc.ok true else (Xc.bind (Xc.bind (Xc.bind (Xc.bind (Xc.bind (datX z.1) fun t779 => (Xc.ok (t779, ((z.2.2.1 + (1 : Int)), ())))) fun t780 => (m_is_point t780)) fun t781 => (Xc.ok (t781, (false, ())))) fun t782 => (m__law_truth t782)) fun t783 => (Xc.ok (!t783))))) fun t945 => (if t945 = true then (Xc.ok false) else (Xc.bind (Xc.bind (Xc.bind (compX (fun a786 => (Xc.ok true)) (fun a786 => (mulX (2 : Int) a786)) (Tu.l z.1.1)) fun t787 => (Xc.ok (tu t787))) fun t788 => (Xc.bind (mulX (2 : Int) z.1.2) fun t789 => (Xc.ok (t788, t789)))) fun t790 => (Xc.bind (Xc.bind (Xc.bind (compX (fun a791 => (Xc.ok true)) (fun a791 => (Xc.ok (-a791))) (Tu.l z.1.1)) fun t792 => (Xc.ok (tu t792))) fun t793 => (Xc.ok (t793, (-z.1.2)))) fun t794 => (Xc.bind (Xc.bind (Xc.bind (datX t790) fun t812 => (Xc.bind (Xc.bind (datX t794) fun t810 => (Xc.bind (Xc.bind (datX ((Tu.l z.1.1), z.1.2)) fun t808 => (Xc.bind (Xc.bind (datX (z.1.1, true)) fun t806 => (Xc.bind (Xc.bind (Xc.bind (Xc.bind (szX (z.1.1 :: ([] : List (Tu Int)))) fun l => Xc.ok (tu l)) fun t795 => (datX t795)) fun t804 => (Xc.bind (Xc.bind (datX z.1.1) fun t802 => (Xc.bind (Xc.bind (datX ()) fun t800 => (Xc.bind (Xc.bind (Xc.bind (szX ((1 : Int) :: ([] : List Int))) fun t796 => (datX t796)) fun t798 => (Xc.bind (Xc.bind (datX ("optimal" : Str)) fun t797 => (Xc.ok (t797 :: ([] : List PyData)))) fun t799 => (Xc.ok (t798 :: t799)))) fun t801 => (Xc.ok (t800 :: t801)))) fun t803 => (Xc.ok (t802 :: t803)))) fun t805 => (Xc.ok (t804 :: t805)))) fun t807 => (Xc.ok (t806 :: t807)))) fun t809 => (Xc.ok (t808 :: t809)))) fun t811 => (Xc.ok (t810 :: t811)))) fun t813 => (Xc.ok (t812 :: t813)))) fun t814 => (szX t814)) fun t815 => (Xc.bind (Xc.bind (Xc.bind (Xc.bind (Xc.bind (Xc.bind (Xc.bind (toUD z.1.1) fun t845 => (Xc.bind (Xc.bind (Xc.bind (szX (() :: ([] : List Unit))) fun l => Xc.ok (tu l)) fun t844 => (toUD t844)) fun t846 => (catU t845 t846))) fun t847 => (Xc.ok (t847, z.1.2))) fun t848 => (datX t848)) fun t861 => (Xc.bind (Xc.bind (Xc.bind (Xc.bind (Xc.bind (toUD (tu (cutL (Tu.l z.1.1) none (some (-(1 : Int)))))) fun t850 => (Xc.bind (Xc.bind (Xc.bind (szX (("0" : Str) :: ([] : List Str))) fun l => Xc.ok (tu l)) fun t849 => (toUD t849)) fun t851 => (catU t850 t851))) fun t852 => (Xc.ok (t852, z.1.2))) fun t853 => (datX t853)) fun t859 => (Xc.bind (Xc.bind (Xc.bind (Xc.bind (pairUD z.1) fun t855 => (Xc.bind (Xc.bind (Xc.bind (szX ((1 : Int) :: ([] : List Int))) fun l => Xc.ok (tu l)) fun t854 => (toUD t854)) fun t856 => (catU t855 t856))) fun t857 => (datX t857)) fun t858 => (Xc.ok (t858 :: ([] : List PyData)))) fun t860 => (Xc.ok (t859 :: t860)))) fun t862 => (Xc.ok (t861 :: t862)))) fun t863 => (szX t863)) fun t864 => (catL t815 t864)) fun t872 => (forK (forX (fun (g843 : (((Tu Int) × Int) × ((List Int) × (Int × (((Tu Int) × Int) × (((Tu Int) × Int) × ((List PyData) × Unit))))))) a865 => (Xc.bind (Xc.bind (Xc.bind (Xc.bind (m_is_point (a865, (g843.2.2.1, ()))) fun t866 => (Xc.ok (t866, (false, ())))) fun t867 => (m__law_truth t867)) fun t868 => (Xc.ok (!t868))) fun t870 => (if t870 = true then (Xc.ok (Lp.rt false)) else (Xc.ok (Lp.ct (g843.1, (g843.2.1, (g843.2.2.1, (g843.2.2.2.1, (g843.2.2.2.2.1, (g843.2.2.2.2.2.1, ()))))))))))) t872 (z.1, (z.2.1, (z.2.2.1, (t790, (t794, (t815, ()))))))) id fun (g871 : (((Tu Int) × Int) × ((List Int) × (Int × (((Tu Int) × Int) × (((Tu Int) × Int) × ((List PyData) × Unit))))))) => (Xc.bind (m__law_common_l (g871.2.1, ((0 : Int), ()))) fun t873 => (Xc.bind (Xc.bind (Xc.bind (Xc.bind (Xc.bind (Xc.bind (datX (tu g871.2.1)) fun t874 => (Xc.ok (t874, (g871.2.2.1, ())))) fun t875 => (m_is_direction t875)) fun t876 => (Xc.ok (t876, ((decide (t873 = (1 : Int))), ())))) fun t877 => (m__law_truth t877)) fun t878 => (Xc.ok (!t878))) fun t944 => (if t944 = true then (Xc.ok false) else (Xc.bind (Xc.bind (Xc.bind (datX g871.2.1) fun t922 => (Xc.bind (Xc.bind (Xc.bind (Xc.bind (Xc.bind (szX ((1 : Int) :: ([] : List Int))) fun l => Xc.ok (tu l)) fun t906 => (catU (tu g871.2.1) t906)) fun t910 => (datX t910)) fun t920 => (Xc.bind (Xc.bind (Xc.bind (Xc.bind (compX (fun a907 => (Xc.ok true)) (fun a907 => (mulX (3 : Int) a907)) g871.2.1) fun t908 => (Xc.ok (tu t908))) fun t911 => (datX t911)) fun t918 => (Xc.bind (Xc.bind (datX ()) fun t916 => (Xc.bind (Xc.bind (Xc.bind (Xc.bind (Xc.bind (szX (true :: ([] : List Bool))) fun l => Xc.ok (tu l)) fun t909 => (repU t909 g871.2.2.1)) fun t912 => (datX t912)) fun t914 => (Xc.bind (Xc.bind (datX ("1" : Str)) fun t913 => (Xc.ok (t913 :: ([] : List PyData)))) fun t915 => (Xc.ok (t914 :: t915)))) fun t917 => (Xc.ok (t916 :: t917)))) fun t919 => (Xc.ok (t918 :: t919)))) fun t921 => (Xc.ok (t920 :: t921)))) fun t923 => (Xc.ok (t922 :: t923)))) fun t924 => (szX t924)) fun t932 => (forK (forX (fun (g905 : (((Tu Int) × Int) × ((List Int) × (Int × (((Tu Int) × Int) × (((Tu Int) × Int) × ((List PyData) × (Int × Unit)))))))) a925 => (Xc.bind (Xc.bind (Xc.bind (Xc.bind (m_is_direction (a925, (g905.2.2.1, ()))) fun t926 => (Xc.ok (t926, (false, ())))) fun t927 => (m__law_truth t927)) fun t928 => (Xc.ok (!t928))) fun t930 => (if t930 = true then (Xc.ok (Lp.rt false)) else (Xc.ok (Lp.ct (g905.1, (g905.2.1, (g905.2.2.1, (g905.2.2.2.1, (g905.2.2.2.2.1, (g905.2.2.2.2.2.1, (g905.2.2.2.2.2.2.1, ())))))))))))) t932 (g871.1, (g871.2.1, (g871.2.2.1, (g871.2.2.2.1, (g871.2.2.2.2.1, (g871.2.2.2.2.2.1, (t873, ())))))))) id fun (g931 : (((Tu Int) × Int) × ((List Int) × (Int × (((Tu Int) × Int) × (((Tu Int) × Int) × ((List PyData) × (Int × Unit)))))))) => (if (decide (g931.2.2.2.2.2.2.1 = (0 : Int))) = true then (m__law_raises (("direction" : Str), (g931.2.1, ()))) else (Xc.bind (Xc.bind (compX (fun a934 => (Xc.ok true)) (fun a934 => (fdvX a934 g931.2.2.2.2.2.2.1)) g931.2.1) fun t935 => (Xc.ok (tu t935))) fun t936 => (Xc.bind (Xc.bind (Xc.bind (m_direction (g931.2.1, ())) fun t937 => (Xc.ok (t937, (t936, ())))) fun t938 => (m__law_integers t938)) fun t943 => (if t943 = true then (Xc.bind (Xc.bind (Xc.bind (Xc.bind (datX t936) fun t939 => (Xc.ok (t939, (g931.2.2.1, ())))) fun t940 => (m_is_direction t940)) fun t941 => (Xc.ok (t941, (true, ())))) fun t942 => (m__law_truth t942)) else Xc.ok false))))))))))))))))
def m_law (z : (List Int) × Unit) : Xc Bool := (Xc.bind (m__law_draws (z.1, ((60 : Int), ()))) fun t946 => (Xc.bind (Xc.bind (Xc.bind (getX t946 (0 : Int)) fun t947 => (modX t947 (6 : Int))) fun t948 => (Xc.ok ((1 : Int) + t948))) fun t949 => (Xc.bind (Xc.bind (Xc.bind (getX t946 (1 : Int)) fun t950 => (modX t950 (8 : Int))) fun t951 => (Xc.ok (decide (t951 = (5 : Int))))) fun t952 => (Xc.bind (Xc.bind (m__law_tops (t946, ((2 : Int), (t949, (t952, ()))))) fun t957 => (Xc.bind (Xc.bind (Xc.bind (Xc.bind (Xc.bind (getX t946 (8 : Int)) fun t953 => (modX t953 (12 : Int))) fun t954 => (Xc.ok ((1 : Int) + t954))) fun t955 => (Xc.ok (t955 :: ([] : List Int)))) fun t956 => (szX t956)) fun t958 => (catL t957 t958))) fun t959 => (Xc.bind (Xc.bind (m__law_tops (t946, ((9 : Int), (t949, (t952, ()))))) fun t964 => (Xc.bind (Xc.bind (Xc.bind (Xc.bind (Xc.bind (getX t946 (15 : Int)) fun t960 => (modX t960 (12 : Int))) fun t961 => (Xc.ok ((1 : Int) + t961))) fun t962 => (Xc.ok (t962 :: ([] : List Int)))) fun t963 => (szX t963)) fun t965 => (catL t964 t965))) fun t966 => (Xc.bind (Xc.bind (Xc.bind (Xc.bind (Xc.bind (getX t946 (16 : Int)) fun t967 => (modX t967 (19 : Int))) fun t968 => (Xc.ok (t968 - (9 : Int)))) fun t972 => (Xc.bind (Xc.bind (Xc.bind (Xc.bind (getX t946 (17 : Int)) fun t969 => (modX t969 (9 : Int))) fun t970 => (Xc.ok ((1 : Int) + t970))) fun t971 => (Xc.ok (t971, ()))) fun t973 => (Xc.ok (t972, t973)))) fun t974 => (m__law_low t974)) fun t975 => (Xc.bind (Xc.bind (rngX 0 t949) fun t989 => (compX (fun a976 => (Xc.ok true)) (fun a976 => (Xc.bind (Xc.bind (Xc.bind (getX t946 ((18 : Int) + a976)) fun t977 => (modX t977 (13 : Int))) fun t981 => (Xc.bind (Xc.bind (Xc.bind (Xc.bind (getX t946 (1 : Int)) fun t978 => (fdvX t978 (8 : Int))) fun t979 => (modX t979 (3 : Int))) fun t980 => (Xc.ok ((1 : Int) + t980))) fun t982 => (fdvX t981 t982))) fun t987 => (Xc.bind (Xc.bind (Xc.bind (Xc.bind (Xc.bind (getX t946 (1 : Int)) fun t983 => (fdvX t983 (8 : Int))) fun t984 => (modX t984 (3 : Int))) fun t985 => (Xc.ok ((1 : Int) + t985))) fun t986 => (fdvX (4 : Int) t986)) fun t988 => (Xc.ok (t987 - t988))))) t989)) fun t990 => (Xc.bind (Xc.bind (Xc.bind (Xc.bind (getX t946 (24 : Int)) fun t991 => (modX t991 (6 : Int))) fun t992 => (Xc.ok (decide (t992 = (0 : Int))))) fun t998 => (if t998 = true then (Xc.bind (Xc.bind (szX ((0 : Int) :: ([] : List Int))) fun t995 => (repX t995 t949)) fun t996 => (Xc.ok (z.1, (t946, (t949, (t952, (t959, (t966, (t975, (t996, ())))))))))) else (Xc.ok (z.1, (t946, (t949, (t952, (t959, (t966, (t975, (t990, ()))))))))))) fun (g999 : ((List Int) × ((List Int) × (Int × (Bool × ((List Int) × ((List Int) × ((Int × Int) × ((List Int) × Unit))))))))) => (Xc.bind (Xc.bind (getX g999.2.1 (25 : Int)) fun t1000 => (modX t1000 (g999.2.2.1 + (1 : Int)))) fun t1001 => (Xc.bind (Xc.bind (Xc.bind (Xc.bind (getX g999.2.1 (26 : Int)) fun t1002 => (modX t1002 (2 : Int))) fun t1003 => (mulX (2 : Int) t1003)) fun t1004 => (Xc.ok ((1 : Int) - t1004))) fun t1005 => (Xc.bind (compX (fun a1006 => (Xc.ok true)) (fun a1006 => (mulX t1005 a1006)) (cutL g999.2.2.2.2.1 none (some (-(1 : Int))))) fun t1007 => (Xc.bind (Xc.bind (Xc.bind (Xc.bind (Xc.bind (Xc.bind (Xc.bind (Xc.bind (getX g999.2.2.2.2.1 (-(1 : Int))) fun t1008 => (mulX t1005 t1008)) fun t1009 => (Xc.ok (t1009, ()))) fun t1010 => (Xc.ok (t1007, t1010))) fun t1011 => (m_point_l t1011)) fun t1016 => (Xc.bind (Xc.bind (Xc.bind (Xc.bind (Xc.bind (getX g999.2.2.2.2.1 (-(1 : Int))) fun t1012 => (Xc.ok (t1012, ()))) fun t1013 => (Xc.ok ((cutL g999.2.2.2.2.1 none (some (-(1 : Int)))), t1013))) fun t1014 => (m__law_point t1014)) fun t1015 => (Xc.ok (t1015, ()))) fun t1017 => (Xc.ok (t1016, t1017)))) fun t1018 => (m__law_same t1018)) fun t1019 => (Xc.ok (!t1019))) fun t1129 => (if t1129 = true then (Xc.ok false) else (Xc.bind (Xc.bind (Xc.bind (compX (fun a1021 => (Xc.ok true)) (fun a1021 => (mulX t1005 a1021)) (cutL g999.2.2.2.2.1 none (some (-(1 : Int))))) fun t1022 => (Xc.bind (eqdX t1007 t1022) fun t => Xc.ok (!t))) fun t1024 => (if t1024 = true then Xc.ok true else (Xc.bind (m__law_raises (("point" : Str), (t1007, ()))) fun t1023 => (Xc.ok (!t1023))))) fun t1128 => (if t1128 = true then (Xc.ok false) else (Xc.bind (Xc.bind (Xc.bind (m__law_two (g999.2.2.2.2.1, (g999.2.2.2.2.2.1, (g999.2.2.2.2.2.2.1, (g999.2.2.2.2.2.2.2.1, (t1001, ())))))) fun t1026 => (Xc.ok (!t1026))) fun t1028 => (if t1028 = true then Xc.ok true else (Xc.bind (m__law_two (g999.2.2.2.2.2.1, (g999.2.2.2.2.1, (g999.2.2.2.2.2.2.1, (g999.2.2.2.2.2.2.2.1, (t1001, ())))))) fun t1027 => (Xc.ok (!t1027))))) fun t1127 => (if t1127 = true then (Xc.ok false) else (Xc.bind (Xc.bind (Xc.bind (Xc.bind (Xc.bind (m_point_of (([] : List (Int × Int)), ())) fun t1032 => (Xc.bind (Xc.bind (Xc.bind (Xc.bind (szX ([] : List Int)) fun l => Xc.ok (tu l)) fun t1030 => (Xc.ok (t1030, (1 : Int)))) fun t1031 => (Xc.ok (t1031, ()))) fun t1033 => (Xc.ok (t1032, t1033)))) fun t1034 => (m__law_same t1034)) fun t1035 => (Xc.ok (!t1035))) fun t1048 => (if t1048 = true then Xc.ok true else (Xc.bind (Xc.bind (Xc.bind (Xc.bind (Xc.bind (Xc.bind (Xc.bind (szX ([] : List Int)) fun l => Xc.ok (tu l)) fun t1036 => (Xc.ok (t1036, (1 : Int)))) fun t1039 => (Xc.bind (Xc.bind (Xc.bind (Xc.bind (szX ([] : List Int)) fun l => Xc.ok (tu l)) fun t1037 => (Xc.ok (t1037, (1 : Int)))) fun t1038 => (Xc.ok (t1038, ()))) fun t1040 => (Xc.ok (t1039, t1040)))) fun t1041 => (m_joined t1041)) fun t1044 => (Xc.bind (Xc.bind (Xc.bind (Xc.bind (szX ([] : List Int)) fun l => Xc.ok (tu l)) fun t1042 => (Xc.ok (t1042, (1 : Int)))) fun t1043 => (Xc.ok (t1043, ()))) fun t1045 => (Xc.ok (t1044, t1045)))) fun t1046 => (m__law_same t1046)) fun t1047 => (Xc.ok (!t1047))))) fun t1126 => (if t1126 = true then (Xc.ok false) else (Xc.bind (Xc.bind (Xc.bind (Xc.bind (Xc.bind (Xc.bind (Xc.bind (getX g999.2.2.2.2.1 (-(1 : Int))) fun t1050 => (Xc.ok (t1050, ()))) fun t1051 => (Xc.ok ((cutL g999.2.2.2.2.1 none (some (-(1 : Int)))), t1051))) fun t1052 => (m__law_point t1052)) fun t1053 => (Xc.ok (t1053, (g999.2.2.2.2.2.2.2.1, (g999.2.2.1, ()))))) fun t1054 => (m__law_kinds t1054)) fun t1055 => (Xc.ok (!t1055))) fun t1125 => (if t1125 = true then (Xc.ok false) else (Xc.bind (Xc.bind (Xc.bind (getX g999.2.1 (27 : Int)) fun t1057 => (modX t1057 (3 : Int))) fun t1058 => (Xc.ok ((1 : Int) + t1058))) fun t1059 => (Xc.bind (Xc.bind (Xc.bind (Xc.bind (getX g999.2.1 (28 : Int)) fun t1083 => (modX t1083 (8 : Int))) fun t1084 => (rngX 0 t1084)) fun t1107 => (foldX (fun (g1082 : ((List Int) × ((List Int) × (Int × (Bool × ((List Int) × ((List Int) × ((Int × Int) × ((List Int) × (Int × (Int × ((List Int) × (Int × (List ((Tu Int) × Int) × Unit)))))))))))))) a1085 => (Xc.bind (Xc.bind (rngX 0 g1082.2.2.2.2.2.2.2.2.2.2.2.1) fun t1092 => (compX (fun a1086 => (Xc.ok true)) (fun a1086 => (Xc.bind (Xc.bind (Xc.bind (Xc.bind (Xc.bind (mulX (4 : Int) a1085) fun t1087 => (Xc.ok ((29 : Int) + t1087))) fun t1088 => (Xc.ok (t1088 + a1086))) fun t1089 => (getX g1082.2.1 t1089)) fun t1090 => (modX t1090 (5 : Int))) fun t1091 => (Xc.ok (t1091 - (2 : Int))))) t1092)) fun t1093 => (Xc.bind (Xc.bind (Xc.bind (Xc.bind (Xc.bind (Xc.bind (Xc.bind (Xc.bind (Xc.bind (mulX (4 : Int) a1085) fun t1094 => (Xc.ok ((29 : Int) + t1094))) fun t1095 => (Xc.ok (t1095 + (3 : Int)))) fun t1096 => (getX g1082.2.1 t1096)) fun t1097 => (modX t1097 (3 : Int))) fun t1098 => (Xc.ok ((1 : Int) + t1098))) fun t1099 => (Xc.ok (t1099, ()))) fun t1100 => (Xc.ok (t1093, t1100))) fun t1101 => (m__law_point t1101)) fun t1103 => (Xc.bind (appX g1082.2.2.2.2.2.2.2.2.2.2.2.2.1 t1103) fun t1104 => (Xc.ok (g1082.1, (g1082.2.1, (g1082.2.2.1, (g1082.2.2.2.1, (g1082.2.2.2.2.1, (g1082.2.2.2.2.2.1, (g1082.2.2.2.2.2.2.1, (g1082.2.2.2.2.2.2.2.1, (g1082.2.2.2.2.2.2.2.2.1, (g1082.2.2.2.2.2.2.2.2.2.1, (g1082.2.2.2.2.2.2.2.2.2.2.1, (g1082.2.2.2.2.2.2.2.2.2.2.2.1, (t1104, ())))))))))))))))))) t1107 (g999.1, (g999.2.1, (g999.2.2.1, (g999.2.2.2.1, (g999.2.2.2.2.1, (g999.2.2.2.2.2.1, (g999.2.2.2.2.2.2.1, (g999.2.2.2.2.2.2.2.1, (t1001, (t1005, (t1007, (t1059, (([] : List ((Tu Int) × Int)), ()))))))))))))))) fun (g1106 : ((List Int) × ((List Int) × (Int × (Bool × ((List Int) × ((List Int) × ((Int × Int) × ((List Int) × (Int × (Int × ((List Int) × (Int × (List ((Tu Int) × Int) × Unit)))))))))))))) => (let vkept_1108 : (List ((Tu Int) × Int)) := g1106.2.2.2.2.2.2.2.2.2.2.2.2.1; (Xc.bind (m_sorted_points (g1106.2.2.2.2.2.2.2.2.2.2.2.2.1, ())) fun t1109 => (Xc.bind (m__law_sorted (vkept_1108, ())) fun t1110 => (Xc.bind (Xc.bind (Xc.bind (eqdX g1106.2.2.2.2.2.2.2.2.2.2.2.2.1 vkept_1108) fun t => Xc.ok (!t)) fun t1113 => (if t1113 = true then Xc.ok true else (Xc.bind (Xc.bind (isiX (HasTy.ty t1109) "list") fun t1111 => (Xc.ok (!t1111))) fun t1112 => (if t1112 = true then Xc.ok true else (Xc.ok (!decide (((HasLen.len t1109 : Nat) : Int) = ((HasLen.len t1110 : Nat) : Int)))))))) fun t1124 => (if t1124 = true then (Xc.ok false) else (Xc.bind (Xc.bind (Xc.bind (rngX 0 ((HasLen.len t1110 : Nat) : Int)) fun t1121 => (compX (fun a1115 => (Xc.bind (Xc.bind (Xc.bind (getX t1109 a1115) fun t1117 => (Xc.bind (Xc.bind (getX t1110 a1115) fun t1116 => (Xc.ok (t1116, ()))) fun t1118 => (Xc.ok (t1117, t1118)))) fun t1119 => (m__law_same t1119)) fun t1120 => (Xc.ok (!t1120)))) (fun a1115 => (Xc.ok a1115)) t1121)) fun t1122 => (Xc.ok ((HasLen.len t1122 : Nat) : Int))) fun t1123 => (Xc.ok (decide (t1123 = (0 : Int)))))))))))))))))))))))))))))))))
structure T0 (K : PySem.W.Frag) (mg : Str → Option Value) : Prop where
  f_ValueError : mg "ValueError" = none
  f_abs : mg "abs" = none
  f_bool : mg "bool" = none
  f_int : mg "int" = none
  f_isinstance : mg "isinstance" = none
  f_len : mg "len" = none
  f_list : mg "list" = none
  f_range : mg "range" = none
  f_sorted : mg "sorted" = none
  f_tuple : mg "tuple" = none
  f_zip : mg "zip" = none
  gcd : mg "gcd" = some (.builtin "math.gcd")
  lcm : mg "lcm" = some (.builtin "math.lcm")
  g_BadNumber : mg "BadNumber" = some (.ref (He.ga K "BadNumber"))
  g_BadShape : mg "BadShape" = some (.ref (He.ga K "BadShape"))
  g_LeaderError : mg "LeaderError" = some (.ref (He.ga K "LeaderError"))
  x_BadNumber : Xk K mg "BadNumber"
  m_BadNumber_BadNumber : PySem.W.exmOne K (.ref (He.ga K "BadNumber")) (.ref (He.ga K "BadNumber")) = some true
  e_BadNumber : ExcC K (He.ga K "BadNumber")
  k_BadNumber_BadShape : PySem.W.kitOne K (.ref (He.ga K "BadNumber")) (.ref (He.ga K "BadShape")) = some false
  k_BadNumber_LeaderError : PySem.W.kitOne K (.ref (He.ga K "BadNumber")) (.ref (He.ga K "LeaderError")) = some true
  k_BadNumber_ValueError : PySem.W.kitOne K (.ref (He.ga K "BadNumber")) (.type "ValueError") = some true
end LW

namespace LW
open PySem L2 FL
section
variable {P : Program} {w : World} {K : PySem.W.Frag} {mg : Str → Option Value} {base : Heap}
abbrev N_ratio : List Str := [("top" : Str), ("bottom" : Str), ("common" : Str)]
theorem sc_ratio : FnScope N_ratio [("top" : Str), ("bottom" : Str)] (defScope (top 6)) := ⟨rfl, rfl, rfl, by decide +kernel, rfl, by decide +kernel, by decide +kernel⟩
theorem d_ratio {f : Addr} {fd : FuncData} (Fd : FnP K "ratio" (top 6) f fd) (T : T0 K mg)  : FnOk P w K mg base (L2.CX P w) 1 f fd [("top" : Str), ("bottom" : Str)] (spF K (rtF (Int × Int)) m_ratio) :=
  fn_def (αs := Int × Int × Unit) (G' := nl) (n := 1) Fd sc_ratio rfl rfl (fun cdv A outer s F H E hr tk =>
    (fss_cons (fs_if (ft_eq (fe_var 1) fe_int) (fss_one (fs_rai tk T.x_BadNumber)) fss_nil)
    (fss_cons (fs_B (fn_set 2 rfl (fe_gcd (fe_var 0) (fe_var 1) T.gcd) sc_ratio.nd))
    (fss_cons (fs_n (fn_if (ft_lt (fe_var 1) fe_int) (fns_B (fn_set 2 rfl (fe_neg (fe_var 2)) sc_ratio.nd) fns_nil) fns_nil))
    (fss_one (fs_ret (fe_tup2 (fe_fdv (fe_var 0) (fe_var 2)) (fe_fdv (fe_var 1) (fe_var 2))))))))) (fun z => by simp only [bind_ok']; rfl)
abbrev N_common_divisor_l : List Str := [("tops" : Str), ("start" : Str), ("common" : Str), ("top" : Str)]
theorem sc_common_divisor_l : FnScope N_common_divisor_l [("tops" : Str), ("start" : Str)] (defScope (top 8)) := ⟨rfl, rfl, rfl, by decide +kernel, rfl, by decide +kernel, by decide +kernel⟩
theorem d_common_divisor_l {f : Addr} {fd : FuncData} (Fd : FnP K "common_divisor" (top 8) f fd) (T : T0 K mg)  : FnOk P w K mg base (L2.CX P w) 1 f fd [("tops" : Str), ("start" : Str)] (spF K (rtF Int) m_common_divisor_l) :=
  fn_def (αs := (List Int) × Int × Unit) (G' := nl) (n := 2) Fd sc_common_divisor_l rfl rfl (fun cdv A outer s F H E hr tk =>
    (fss_cons (fs_B (fn_set 2 rfl (fe_abs (fe_var 1) (T.f_abs)) sc_common_divisor_l.nd))
    (fss_cons (fs_n (fn_for (passes_of rfl) (fi_list (fe_var 0)) (fg_name 3 rfl sc_common_divisor_l.nd) (fns_B (fn_set 2 rfl (fe_gcd (fe_var 2) (fe_var 3) T.gcd) sc_common_divisor_l.nd) (fns_nilS (G' := (va (List Int) (va Int (va Int (un nl)))))))))
    (fss_one (fs_ret (fe_var 2)))))) (fun z => by simp only [bind_ok']; rfl)
abbrev N_common_divisor_u : List Str := [("tops" : Str), ("start" : Str), ("common" : Str), ("top" : Str)]
theorem sc_common_divisor_u : FnScope N_common_divisor_u [("tops" : Str), ("start" : Str)] (defScope (top 8)) := ⟨rfl, rfl, rfl, by decide +kernel, rfl, by decide +kernel, by decide +kernel⟩
theorem d_common_divisor_u {f : Addr} {fd : FuncData} (Fd : FnP K "common_divisor" (top 8) f fd) (T : T0 K mg)  : FnOk P w K mg base (L2.CX P w) 1 f fd [("tops" : Str), ("start" : Str)] (spF K (rtF Int) m_common_divisor_u) :=
  fn_def (αs := (Tu Int) × Int × Unit) (G' := nl) (n := 2) Fd sc_common_divisor_u rfl rfl (fun cdv A outer s F H E hr tk =>
    (fss_cons (fs_B (fn_set 2 rfl (fe_abs (fe_var 1) (T.f_abs)) sc_common_divisor_u.nd))
    (fss_cons (fs_n (fn_for (passes_of rfl) (fi_tup (fe_var 0)) (fg_name 3 rfl sc_common_divisor_u.nd) (fns_B (fn_set 2 rfl (fe_gcd (fe_var 2) (fe_var 3) T.gcd) sc_common_divisor_u.nd) (fns_nilS (G' := (va (Tu Int) (va Int (va Int (un nl)))))))))
    (fss_one (fs_ret (fe_var 2)))))) (fun z => by simp only [bind_ok']; rfl)
abbrev N_point_l : List Str := [("tops" : Str), ("bottom" : Str), ("common" : Str), ("top" : Str)]
theorem sc_point_l : FnScope N_point_l [("tops" : Str), ("bottom" : Str)] (defScope (top 9)) := ⟨rfl, rfl, rfl, by decide +kernel, rfl, by decide +kernel, by decide +kernel⟩
theorem d_point_l {f : Addr} {fd : FuncData} (Fd : FnP K "point" (top 9) f fd) (T : T0 K mg) (D_common_divisor_l : Dk P w K mg base "common_divisor" [("tops" : Str), ("start" : Str)] 1 (spF K (rtF Int) m_common_divisor_l)) : FnOk P w K mg base (L2.CX P w) 2 f fd [("tops" : Str), ("bottom" : Str)] (spF K (rtF ((Tu Int) × Int)) m_point_l) :=
  fn_def (αs := (List Int) × Int × Unit) (G' := nl) (n := 2) Fd sc_point_l rfl rfl (fun cdv A outer s F H E hr tk =>
    (fss_cons (fs_if (ft_eq (fe_var 1) fe_int) (fss_one (fs_rai tk T.x_BadNumber)) fss_nil)
    (fss_cons (fs_B (fn_set 2 rfl (fe_cal D_common_divisor_l tk hr (fa_cons (fe_var 0) (fa_cons (fe_var 1) fa_nil))) sc_point_l.nd))
    (fss_cons (fs_n (fn_if (ft_lt (fe_var 1) fe_int) (fns_B (fn_set 2 rfl (fe_neg (fe_var 2)) sc_point_l.nd) fns_nil) fns_nil))
    (fss_one (fs_ret (fe_tup2 (fe_tupL (fe_fz (fo_lc (vs := [3]) (own := [(("top" : Str), 3)]) rfl (blkOk_by (N := N_point_l) (sc := defScope (top 9)) (by decide +kernel)) sc_point_l.nd (fi_list (fe_var 0)) (fgb_name 3 sc_point_l.nd) fts_nil (fun s H C cl fp => (fe_fdv (fe_var 3) (fe_var 2))))) (T.f_tuple)) (fe_fdv (fe_var 1) (fe_var 2))))))))) (fun z => by simp only [bind_ok']; rfl)
abbrev N_point_u : List Str := [("tops" : Str), ("bottom" : Str), ("common" : Str), ("top" : Str)]
theorem sc_point_u : FnScope N_point_u [("tops" : Str), ("bottom" : Str)] (defScope (top 9)) := ⟨rfl, rfl, rfl, by decide +kernel, rfl, by decide +kernel, by decide +kernel⟩
theorem d_point_u {f : Addr} {fd : FuncData} (Fd : FnP K "point" (top 9) f fd) (T : T0 K mg) (D_common_divisor_u : Dk P w K mg base "common_divisor" [("tops" : Str), ("start" : Str)] 1 (spF K (rtF Int) m_common_divisor_u)) : FnOk P w K mg base (L2.CX P w) 2 f fd [("tops" : Str), ("bottom" : Str)] (spF K (rtF ((Tu Int) × Int)) m_point_u) :=
  fn_def (αs := (Tu Int) × Int × Unit) (G' := nl) (n := 2) Fd sc_point_u rfl rfl (fun cdv A outer s F H E hr tk =>
    (fss_cons (fs_if (ft_eq (fe_var 1) fe_int) (fss_one (fs_rai tk T.x_BadNumber)) fss_nil)
    (fss_cons (fs_B (fn_set 2 rfl (fe_cal D_common_divisor_u tk hr (fa_cons (fe_var 0) (fa_cons (fe_var 1) fa_nil))) sc_point_u.nd))
    (fss_cons (fs_n (fn_if (ft_lt (fe_var 1) fe_int) (fns_B (fn_set 2 rfl (fe_neg (fe_var 2)) sc_point_u.nd) fns_nil) fns_nil))
    (fss_one (fs_ret (fe_tup2 (fe_tupL (fe_fz (fo_lc (vs := [3]) (own := [(("top" : Str), 3)]) rfl (blkOk_by (N := N_point_u) (sc := defScope (top 9)) (by decide +kernel)) sc_point_u.nd (fi_tup (fe_var 0)) (fgb_name 3 sc_point_u.nd) fts_nil (fun s H C cl fp => (fe_fdv (fe_var 3) (fe_var 2))))) (T.f_tuple)) (fe_fdv (fe_var 1) (fe_var 2))))))))) (fun z => by simp only [bind_ok']; rfl)
abbrev N_point_of : List Str := [("numbers" : Str), ("bottom" : Str), ("number" : Str)]
theorem sc_point_of : FnScope N_point_of [("numbers" : Str)] (defScope (top 10)) := ⟨rfl, rfl, rfl, by decide +kernel, rfl, by decide +kernel, by decide +kernel⟩
theorem d_point_of {f : Addr} {fd : FuncData} (Fd : FnP K "point_of" (top 10) f fd) (T : T0 K mg) (D_point_l : Dk P w K mg base "point" [("tops" : Str), ("bottom" : Str)] 2 (spF K (rtF ((Tu Int) × Int)) m_point_l)) : FnOk P w K mg base (L2.CX P w) 3 f fd [("numbers" : Str)] (spF K (rtF ((Tu Int) × Int)) m_point_of) :=
  fn_def (αs := (List (Int × Int)) × Unit) (G' := nl) (n := 2) Fd sc_point_of rfl rfl (fun cdv A outer s F H E hr tk =>
    (fss_cons (fs_B (fn_set 1 rfl fe_int sc_point_of.nd))
    (fss_cons (fs_n (fn_for (passes_of rfl) (fi_list (fe_var 0)) (fg_name 2 rfl sc_point_of.nd) (fns_B (fn_set 1 rfl (fe_lcm (fe_var 1) (fe_p1 (fe_var 2)) T.lcm) sc_point_of.nd) (fns_nilS (G' := (va (List (Int × Int)) (va Int (un nl))))))))
    (fss_one (fs_ret (fe_cal D_point_l tk hr (fa_cons (fe_fz (fo_lc (vs := [2]) (own := [(("number" : Str), 2)]) rfl (blkOk_by (N := N_point_of) (sc := defScope (top 10)) (by decide +kernel)) sc_point_of.nd (fi_list (fe_var 0)) (fgb_name 2 sc_point_of.nd) fts_nil (fun s H C cl fp => (fe_mul (fe_p0 (fe_var 2)) (fe_fdv (fe_var 1) (fe_p1 (fe_var 2))))))) (fa_cons (fe_var 1) fa_nil)))))))) (fun z => by simp only [bind_ok']; rfl)
abbrev N_coordinate : List Str := [("place" : Str), ("k" : Str)]
theorem sc_coordinate : FnScope N_coordinate [("place" : Str), ("k" : Str)] (defScope (top 11)) := ⟨rfl, rfl, rfl, by decide +kernel, rfl, by decide +kernel, by decide +kernel⟩
theorem d_coordinate {f : Addr} {fd : FuncData} (Fd : FnP K "coordinate" (top 11) f fd) (T : T0 K mg) (D_ratio : Dk P w K mg base "ratio" [("top" : Str), ("bottom" : Str)] 1 (spF K (rtF (Int × Int)) m_ratio)) : FnOk P w K mg base (L2.CX P w) 2 f fd [("place" : Str), ("k" : Str)] (spF K (rtF (Int × Int)) m_coordinate) :=
  fn_def (αs := ((Tu Int) × Int) × Int × Unit) (G' := nl) (n := 0) Fd sc_coordinate rfl rfl (fun cdv A outer s F H E hr tk =>
    (fss_one (fs_ret (fe_cal D_ratio tk hr (fa_cons (fe_ixU (fe_p0 (fe_var 0)) (fe_var 1)) (fa_cons (fe_p1 (fe_var 0)) fa_nil)))))) (fun z => by simp only [bind_ok']; rfl)
abbrev N_coordinates : List Str := [("place" : Str), ("top" : Str)]
theorem sc_coordinates : FnScope N_coordinates [("place" : Str)] (defScope (top 12)) := ⟨rfl, rfl, rfl, by decide +kernel, rfl, by decide +kernel, by decide +kernel⟩
theorem d_coordinates {f : Addr} {fd : FuncData} (Fd : FnP K "coordinates" (top 12) f fd) (T : T0 K mg) (D_ratio : Dk P w K mg base "ratio" [("top" : Str), ("bottom" : Str)] 1 (spF K (rtF (Int × Int)) m_ratio)) : FnOk P w K mg base (L2.CX P w) 2 f fd [("place" : Str)] (spF K (rtF (Tu (Int × Int))) m_coordinates) :=
  fn_def (αs := ((Tu Int) × Int) × Unit) (G' := nl) (n := 1) Fd sc_coordinates rfl rfl (fun cdv A outer s F H E hr tk =>
    (fss_one (fs_ret (fe_tupL (fe_fz (fo_lc (vs := [1]) (own := [(("top" : Str), 1)]) rfl (blkOk_by (N := N_coordinates) (sc := defScope (top 12)) (by decide +kernel)) sc_coordinates.nd (fi_tup (fe_p0 (fe_var 0))) (fgb_name 1 sc_coordinates.nd) fts_nil (fun s H C cl fp => (fe_cal D_ratio takesF hr (fa_cons (fe_var 1) (fa_cons (fe_p1 (fe_var 0)) fa_nil)))))) (T.f_tuple))))) (fun z => by simp only [bind_ok']; rfl)
abbrev N_joined : List Str := [("first" : Str), ("second" : Str), ("tops" : Str), ("top" : Str)]
theorem sc_joined : FnScope N_joined [("first" : Str), ("second" : Str)] (defScope (top 13)) := ⟨rfl, rfl, rfl, by decide +kernel, rfl, by decide +kernel, by decide +kernel⟩
theorem d_joined {f : Addr} {fd : FuncData} (Fd : FnP K "joined" (top 13) f fd) (T : T0 K mg) (D_point_l : Dk P w K mg base "point" [("tops" : Str), ("bottom" : Str)] 2 (spF K (rtF ((Tu Int) × Int)) m_point_l)) : FnOk P w K mg base (L2.CX P w) 3 f fd [("first" : Str), ("second" : Str)] (spF K (rtF ((Tu Int) × Int)) m_joined) :=
  fn_def (αs := ((Tu Int) × Int) × ((Tu Int) × Int) × Unit) (G' := nl) (n := 2) Fd sc_joined rfl rfl (fun cdv A outer s F H E hr tk =>
    (fss_cons (fs_B (fn_set 2 rfl (fe_fz (fo_cat (fo_lc (vs := [3]) (own := [(("top" : Str), 3)]) rfl (blkOk_by (N := N_joined) (sc := defScope (top 13)) (by decide +kernel)) sc_joined.nd (fi_tup (fe_p0 (fe_var 0))) (fgb_name 3 sc_joined.nd) fts_nil (fun s H C cl fp => (fe_mul (fe_var 3) (fe_p1 (fe_var 1))))) (fo_lc (vs := [3]) (own := [(("top" : Str), 3)]) rfl (blkOk_by (N := N_joined) (sc := defScope (top 13)) (by decide +kernel)) sc_joined.nd (fi_tup (fe_p0 (fe_var 1))) (fgb_name 3 sc_joined.nd) fts_nil (fun s H C cl fp => (fe_mul (fe_var 3) (fe_p1 (fe_var 0))))))) sc_joined.nd))
    (fss_one (fs_ret (fe_cal D_point_l tk hr (fa_cons (fe_var 2) (fa_cons (fe_mul (fe_p1 (fe_var 0)) (fe_p1 (fe_var 1))) fa_nil))))))) (fun z => by simp only [bind_ok']; rfl)
abbrev N_part_of : List Str := [("place" : Str), ("start" : Str), ("stop" : Str)]
theorem sc_part_of : FnScope N_part_of [("place" : Str), ("start" : Str), ("stop" : Str)] (defScope (top 14)) := ⟨rfl, rfl, rfl, by decide +kernel, rfl, by decide +kernel, by decide +kernel⟩
theorem d_part_of {f : Addr} {fd : FuncData} (Fd : FnP K "part_of" (top 14) f fd) (T : T0 K mg) (D_point_u : Dk P w K mg base "point" [("tops" : Str), ("bottom" : Str)] 2 (spF K (rtF ((Tu Int) × Int)) m_point_u)) : FnOk P w K mg base (L2.CX P w) 3 f fd [("place" : Str), ("start" : Str), ("stop" : Str)] (spF K (rtF ((Tu Int) × Int)) m_part_of) :=
  fn_def (αs := ((Tu Int) × Int) × Int × Int × Unit) (G' := nl) (n := 0) Fd sc_part_of rfl rfl (fun cdv A outer s F H E hr tk =>
    (fss_one (fs_ret (fe_cal D_point_u tk hr (fa_cons (fe_slU (fe_p0 (fe_var 0)) (fp_some (fe_var 1)) (fp_some (fe_var 2))) (fa_cons (fe_p1 (fe_var 0)) fa_nil)))))) (fun z => by simp only [bind_ok']; rfl)
abbrev N_mixed : List Str := [("first" : Str), ("second" : Str), ("share" : Str), ("mine" : Str), ("other" : Str), ("tops" : Str), ("one" : Str), ("two" : Str)]
theorem sc_mixed : FnScope N_mixed [("first" : Str), ("second" : Str), ("share" : Str)] (defScope (top 15)) := ⟨rfl, rfl, rfl, by decide +kernel, rfl, by decide +kernel, by decide +kernel⟩
theorem d_mixed {f : Addr} {fd : FuncData} (Fd : FnP K "mixed" (top 15) f fd) (T : T0 K mg) (D_point_l : Dk P w K mg base "point" [("tops" : Str), ("bottom" : Str)] 2 (spF K (rtF ((Tu Int) × Int)) m_point_l)) : FnOk P w K mg base (L2.CX P w) 3 f fd [("first" : Str), ("second" : Str), ("share" : Str)] (spF K (rtF ((Tu Int) × Int)) m_mixed) :=
  fn_def (αs := ((Tu Int) × Int) × ((Tu Int) × Int) × (Int × Int) × Unit) (G' := nl) (n := 5) Fd sc_mixed rfl rfl (fun cdv A outer s F H E hr tk =>
    (fss_cons (fs_B (fn_set 3 rfl (fe_mul (fe_sub (fe_p1 (fe_var 2)) (fe_p0 (fe_var 2))) (fe_p1 (fe_var 1))) sc_mixed.nd))
    (fss_cons (fs_B (fn_set 4 rfl (fe_mul (fe_p0 (fe_var 2)) (fe_p1 (fe_var 0))) sc_mixed.nd))
    (fss_cons (fs_B (fn_setLcF (vs := [6, 7]) (own := [(("one" : Str), 6), (("two" : Str), 7)]) 5 rfl rfl (blkOk_by (N := N_mixed) (sc := defScope (top 15)) (by decide +kernel)) sc_mixed.nd (fi_zipT (fe_p0 (fe_var 0)) (fe_p0 (fe_var 1)) (T.f_zip)) (fgb_two 6 7 sc_mixed.nd) fts_nil (fun s H C cl fp => (fe_add (fe_mul (fe_var 3) (fe_var 6)) (fe_mul (fe_var 4) (fe_var 7))))))
    (fss_one (fs_ret (fe_cal D_point_l tk hr (fa_cons (fe_var 5) (fa_cons (fe_mul (fe_mul (fe_p1 (fe_var 2)) (fe_p1 (fe_var 0))) (fe_p1 (fe_var 1))) fa_nil))))))))) (fun z => by simp only [bind_ok']; rfl)
abbrev N_shifted : List Str := [("place" : Str), ("way" : Str), ("step" : Str), ("tops" : Str), ("top" : Str), ("move" : Str)]
theorem sc_shifted : FnScope N_shifted [("place" : Str), ("way" : Str), ("step" : Str)] (defScope (top 16)) := ⟨rfl, rfl, rfl, by decide +kernel, rfl, by decide +kernel, by decide +kernel⟩
theorem d_shifted {f : Addr} {fd : FuncData} (Fd : FnP K "shifted" (top 16) f fd) (T : T0 K mg) (D_point_l : Dk P w K mg base "point" [("tops" : Str), ("bottom" : Str)] 2 (spF K (rtF ((Tu Int) × Int)) m_point_l)) : FnOk P w K mg base (L2.CX P w) 3 f fd [("place" : Str), ("way" : Str), ("step" : Str)] (spF K (rtF ((Tu Int) × Int)) m_shifted) :=
  fn_def (αs := ((Tu Int) × Int) × (List Int) × (Int × Int) × Unit) (G' := nl) (n := 3) Fd sc_shifted rfl rfl (fun cdv A outer s F H E hr tk =>
    (fss_cons (fs_B (fn_setLcF (vs := [4, 5]) (own := [(("top" : Str), 4), (("move" : Str), 5)]) 3 rfl rfl (blkOk_by (N := N_shifted) (sc := defScope (top 16)) (by decide +kernel)) sc_shifted.nd (FZ.fi_zipTL (fe_p0 (fe_var 0)) (fe_var 1) (T.f_zip)) (fgb_two 4 5 sc_shifted.nd) fts_nil (fun s H C cl fp => (fe_add (fe_mul (fe_var 4) (fe_p1 (fe_var 2))) (fe_mul (fe_mul (fe_p1 (fe_var 0)) (fe_p0 (fe_var 2))) (fe_var 5))))))
    (fss_one (fs_ret (fe_cal D_point_l tk hr (fa_cons (fe_var 3) (fa_cons (fe_mul (fe_p1 (fe_var 0)) (fe_p1 (fe_var 2))) fa_nil))))))) (fun z => by simp only [bind_ok']; rfl)
abbrev N_direction : List Str := [("tops" : Str), ("common" : Str), ("top" : Str)]
theorem sc_direction : FnScope N_direction [("tops" : Str)] (defScope (top 17)) := ⟨rfl, rfl, rfl, by decide +kernel, rfl, by decide +kernel, by decide +kernel⟩
theorem d_direction {f : Addr} {fd : FuncData} (Fd : FnP K "direction" (top 17) f fd) (T : T0 K mg) (D_common_divisor_l : Dk P w K mg base "common_divisor" [("tops" : Str), ("start" : Str)] 1 (spF K (rtF Int) m_common_divisor_l)) : FnOk P w K mg base (L2.CX P w) 2 f fd [("tops" : Str)] (spF K (rtF (Tu Int)) m_direction) :=
  fn_def (αs := (List Int) × Unit) (G' := nl) (n := 2) Fd sc_direction rfl rfl (fun cdv A outer s F H E hr tk =>
    (fss_cons (fs_B (fn_set 1 rfl (fe_cal D_common_divisor_l tk hr (fa_cons (fe_var 0) (fa_cons fe_int fa_nil))) sc_direction.nd))
    (fss_cons (fs_if (ft_eq (fe_var 1) fe_int) (fss_one (fs_rai tk T.x_BadNumber)) fss_nil)
    (fss_one (fs_ret (fe_tupL (fe_fz (fo_lc (vs := [2]) (own := [(("top" : Str), 2)]) rfl (blkOk_by (N := N_direction) (sc := defScope (top 17)) (by decide +kernel)) sc_direction.nd (fi_list (fe_var 0)) (fgb_name 2 sc_direction.nd) fts_nil (fun s H C cl fp => (fe_fdv (fe_var 2) (fe_var 1))))) (T.f_tuple))))))) (fun z => by simp only [bind_ok']; rfl)
abbrev N_sorted_points : List Str := [("places" : Str), ("bottom" : Str), ("place" : Str), ("keyed" : Str), ("found" : Str), ("_" : Str), ("top" : Str)]
theorem sc_sorted_points : FnScope N_sorted_points [("places" : Str)] (defScope (top 18)) := ⟨rfl, rfl, rfl, by decide +kernel, rfl, by decide +kernel, by decide +kernel⟩
theorem d_sorted_points {f : Addr} {fd : FuncData} (Fd : FnP K "sorted_points" (top 18) f fd) (T : T0 K mg)  : FnOk P w K mg base (L2.CX P w) 1 f fd [("places" : Str)] (spF K (rtO ((Tu Int) × Int)) m_sorted_points) :=
  fn_def (αs := (List ((Tu Int) × Int)) × Unit) (G' := nl) (n := 6) Fd sc_sorted_points rfl rfl (fun cdv A outer s F H E hr tk =>
    (fss_cons (fs_B (fn_set 1 rfl fe_int sc_sorted_points.nd))
    (fss_cons (fs_n (fn_for (passes_of rfl) (fi_list (fe_var 0)) (fg_name 2 rfl sc_sorted_points.nd) (fns_B (fn_set 1 rfl (fe_lcm (fe_var 1) (fe_p1 (fe_var 2)) T.lcm) sc_sorted_points.nd) (fns_nilS (G' := (va (List ((Tu Int) × Int)) (va Int (un (un (un (un (un nl))))))))))))
    (fss_cons (fs_B (fn_set 3 rfl (fe_fz (fo_sorted hr (fe_fz (fo_lc (vs := [2]) (own := [(("place" : Str), 2)]) rfl (blkOk_by (N := N_sorted_points) (sc := defScope (top 18)) (by decide +kernel)) sc_sorted_points.nd (fi_list (fe_var 0)) (fgb_name 2 sc_sorted_points.nd) fts_nil (fun s H C cl fp => (fe_tup2 (fe_tupL (fe_fz (fo_lc (vs := [6]) (own := [(("top" : Str), 6)]) rfl (blkOk_by (by kernel_rfl)) sc_sorted_points.nd (fi_tup (fe_p0 (fe_var 2))) (fgb_name 6 sc_sorted_points.nd) fts_nil (fun s H C cl fp => (fe_mul (fe_var 6) (fe_fdv (fe_var 1) (fe_p1 (fe_var 2))))))) (T.f_tuple)) (fe_var 2))))) (T.f_sorted))) sc_sorted_points.nd))
    (fss_cons (fs_B (fn_setO 4 rfl (fo_nil (α := ((Tu Int) × Int))) sc_sorted_points.nd))
    (fss_cons (fs_n (fn_for (passes_of rfl) (fi_list (fe_var 3)) (fg_two 5 2 ⟨rfl, rfl⟩ sc_sorted_points.nd) (fns_cons (fn_if (ft_br (ft_w (fw_or (ft_eqd hr (fe_var 4) (fe_fz (fo_nil (α := ((Tu Int) × Int))))) (fw_or1 (ft_ned hr (fe_ixL (fe_var 4) (fe_neg fe_int)) (fe_var 2)))))) (fns_B2 (fn_append 4 (fe_var 2)) fns_nil) fns_nil) (fns_nilS (G' := (va (List ((Tu Int) × Int)) (va Int (un (va (List ((Tu Int) × ((Tu Int) × Int))) (ow ((Tu Int) × Int) (un (un nl))))))))))))
    (fss_one (fs_retV 4)))))))) (fun z => by simp only [bind_ok']; rfl)
abbrev N__are_integers : List Str := [("values" : Str), ("value" : Str)]
theorem sc__are_integers : FnScope N__are_integers [("values" : Str)] (defScope (top 19)) := ⟨rfl, rfl, rfl, by decide +kernel, rfl, by decide +kernel, by decide +kernel⟩
theorem d__are_integers {f : Addr} {fd : FuncData} (Fd : FnP K "_are_integers" (top 19) f fd) (T : T0 K mg)  : FnOk P w K mg base (L2.CX P w) 1 f fd [("values" : Str)] (spF K (rtF Bool) m__are_integers) :=
  fn_def (αs := PyData × Unit) (G' := nl) (n := 1) Fd sc__are_integers rfl rfl (fun cdv A outer s F H E hr tk =>
    (fss_cons (fs_if (ft_not (ft_val (fe_isi (U := "tuple") (fe_var 0) (T.f_isinstance) T.f_tuple))) (fss_one (fs_ret fe_bl)) fss_nil)
    (fss_cons (fs_forK (rt := id) (passes_of rfl) (fi_tup (fe_asT (fe_var 0))) (fg_name 1 rfl sc__are_integers.nd) (fss_cons (fs_if (ft_w (fw_or (ft_not (ft_val (fe_isi (U := "int") (fe_var 1) (T.f_isinstance) T.f_int))) (fw_or1 (ft_val (fe_isi (U := "bool") (fe_var 1) (T.f_isinstance) T.f_bool))))) (fss_one (fs_retL fe_bl)) fss_nil)
    (fss_nilS (G' := (va PyData (un nl))))))
    (fss_one (fs_ret fe_bl))))) (fun z => by simp only [bind_ok']; rfl)
abbrev N_is_point : List Str := [("value" : Str), ("size" : Str)]
theorem sc_is_point : FnScope N_is_point [("value" : Str), ("size" : Str)] (defScope (top 20)) := ⟨rfl, rfl, rfl, by decide +kernel, rfl, by decide +kernel, by decide +kernel⟩
theorem d_is_point {f : Addr} {fd : FuncData} (Fd : FnP K "is_point" (top 20) f fd) (T : T0 K mg) (D__are_integers : Dk P w K mg base "_are_integers" [("values" : Str)] 1 (spF K (rtF Bool) m__are_integers)) (D_common_divisor_u : Dk P w K mg base "common_divisor" [("tops" : Str), ("start" : Str)] 1 (spF K (rtF Int) m_common_divisor_u)) : FnOk P w K mg base (L2.CX P w) 2 f fd [("value" : Str), ("size" : Str)] (spF K (rtF Bool) m_is_point) :=
  fn_def (αs := PyData × Int × Unit) (G' := nl) (n := 0) Fd sc_is_point rfl rfl (fun cdv A outer s F H E hr tk =>
    (fss_cons (fs_if (ft_w (fw_or (ft_not (ft_val (fe_isi (U := "tuple") (fe_var 0) (T.f_isinstance) T.f_tuple))) (fw_or1 (ft_ne (fe_len (fe_asT (fe_var 0)) (T.f_len)) fe_int)))) (fss_one (fs_ret fe_bl)) fss_nil)
    (fss_cons (fs_if (ft_w (fw_or (ft_not (ft_val (fe_cal D__are_integers tk hr (fa_cons (fe_ixU (fe_asT (fe_var 0)) fe_int) fa_nil)))) (fw_or1 (ft_not (ft_val (fe_cal D__are_integers tk hr (fa_cons (fe_dat (fe_tupU (fh_cons (fe_ixU (fe_asT (fe_var 0)) fe_int) fh_nil))) fa_nil))))))) (fss_one (fs_ret fe_bl)) fss_nil)
    (fss_one (fs_ret (fe_and (fe_eq (fe_len (fe_asT (fe_ixU (fe_asT (fe_var 0)) fe_int)) (T.f_len)) (fe_var 1)) (fe_and (fe_ge (fe_asI (fe_ixU (fe_asT (fe_var 0)) fe_int)) fe_int) (fe_one (fe_eq (fe_cal D_common_divisor_u tk hr (fa_cons (fe_asTI (fe_ixU (fe_asT (fe_var 0)) fe_int)) (fa_cons (fe_asI (fe_ixU (fe_asT (fe_var 0)) fe_int)) fa_nil))) fe_int))))))))) (fun z => by simp only [bind_ok']; rfl)
abbrev N_is_direction : List Str := [("value" : Str), ("size" : Str)]
theorem sc_is_direction : FnScope N_is_direction [("value" : Str), ("size" : Str)] (defScope (top 21)) := ⟨rfl, rfl, rfl, by decide +kernel, rfl, by decide +kernel, by decide +kernel⟩
theorem d_is_direction {f : Addr} {fd : FuncData} (Fd : FnP K "is_direction" (top 21) f fd) (T : T0 K mg) (D__are_integers : Dk P w K mg base "_are_integers" [("values" : Str)] 1 (spF K (rtF Bool) m__are_integers)) (D_common_divisor_u : Dk P w K mg base "common_divisor" [("tops" : Str), ("start" : Str)] 1 (spF K (rtF Int) m_common_divisor_u)) : FnOk P w K mg base (L2.CX P w) 2 f fd [("value" : Str), ("size" : Str)] (spF K (rtF Bool) m_is_direction) :=
  fn_def (αs := PyData × Int × Unit) (G' := nl) (n := 0) Fd sc_is_direction rfl rfl (fun cdv A outer s F H E hr tk =>
    (fss_one (fs_ret (fe_and (fe_cal D__are_integers tk hr (fa_cons (fe_var 0) fa_nil)) (fe_and (fe_eq (fe_len (fe_asT (fe_var 0)) (T.f_len)) (fe_var 1)) (fe_one (fe_eq (fe_cal D_common_divisor_u tk hr (fa_cons (fe_asTI (fe_var 0)) (fa_cons fe_int fa_nil))) fe_int))))))) (fun z => by simp only [bind_ok']; rfl)
abbrev N__law_draws : List Str := [("script" : Str), ("count" : Str), ("found" : Str), ("cell" : Str), ("rest" : Str), ("k" : Str), ("seed" : Str)]
theorem sc__law_draws : FnScope N__law_draws [("script" : Str), ("count" : Str)] (defScope (top 23)) := ⟨rfl, rfl, rfl, by decide +kernel, rfl, by decide +kernel, by decide +kernel⟩
theorem d__law_draws {f : Addr} {fd : FuncData} (Fd : FnP K "_law_draws" (top 23) f fd) (T : T0 K mg)  : FnOk P w K mg base (L2.CX P w) 1 f fd [("script" : Str), ("count" : Str)] (spF K (rtO Int) m__law_draws) :=
  fn_def (αs := (List Int) × Int × Unit) (G' := nl) (n := 5) Fd sc__law_draws rfl rfl (fun cdv A outer s F H E hr tk =>
    (fss_cons (fs_B (fn_setO 2 rfl (fo_nil (α := Int)) sc__law_draws.nd))
    (fss_cons (fs_n (fn_for (passes_of rfl) (fi_list (fe_var 0)) (fg_name 3 rfl sc__law_draws.nd) (fns_B (fn_set 4 rfl (fe_var 3) sc__law_draws.nd) (fns_cons (fn_if (ft_ge (fe_var 4) (fe_pow fe_int fe_int)) (fns_cons (fn_for (passes_of rfl) (fi_range1 fe_int (T.f_range)) (fg_name 5 rfl sc__law_draws.nd) (fns_cons (fn_if (ft_br (ft_w (fw_and (ft_gt (fe_var 4) fe_int) (fw_and1 (ft_lt (fe_len (fe_var 2) (T.f_len)) (fe_var 1)))))) (fns_B2 (fn_append 2 (fe_mod (fe_intI (fe_var 4) (T.f_int)) fe_int)) (fns_B (fn_set 4 rfl (fe_fdv (fe_var 4) fe_int) sc__law_draws.nd) fns_nil)) fns_nil) (fns_nilS (G' := (va (List Int) (va Int (ow Int (va Int (va Int (un (un nl))))))))))) fns_nil) (fns_cons (fn_if (ft_br (ft_lt (fe_len (fe_var 2) (T.f_len)) (fe_var 1))) (fns_B2 (fn_append 2 (fe_mod (fe_mod (fe_intI (fe_add (fe_mul (fe_mod (fe_intI (fe_add (fe_mul (fe_var 4) fe_int) fe_int) (T.f_int)) fe_int) fe_int) fe_int) (T.f_int)) fe_int) fe_int)) fns_nil) fns_nil) fns_nil)) (fns_nilS (G' := (va (List Int) (va Int (ow Int (un (un (un (un nl)))))))))))))
    (fss_cons (fs_B (fn_set 6 rfl (fe_add fe_int (fe_len (fe_var 0) (T.f_len))) sc__law_draws.nd))
    (fss_cons (fs_n (fn_for (passes_of rfl) (fi_list (fe_var 0)) (fg_name 3 rfl sc__law_draws.nd) (fns_B (fn_set 6 rfl (fe_mod (fe_intI (fe_add (fe_mul (fe_var 6) fe_int) (fe_var 3)) (T.f_int)) fe_int) sc__law_draws.nd) (fns_nilS (G' := (va (List Int) (va Int (ow Int (un (un (un (va Int nl))))))))))))
    (fss_cons (fs_n (fn_for (passes_of rfl) (fi_range1 (fe_var 1) (T.f_range)) (fg_name 5 rfl sc__law_draws.nd) (fns_cons (fn_if (ft_br (ft_lt (fe_len (fe_var 2) (T.f_len)) (fe_var 1))) (fns_B (fn_set 6 rfl (fe_mod (fe_intI (fe_add (fe_mul (fe_var 6) fe_int) fe_int) (T.f_int)) fe_int) sc__law_draws.nd) (fns_B2 (fn_append 2 (fe_mod (fe_fdv (fe_var 6) fe_int) fe_int)) fns_nil)) fns_nil) (fns_nilS (G' := (va (List Int) (va Int (ow Int (un (un (un (va Int nl))))))))))))
    (fss_one (fs_retV 2)))))))) (fun z => by simp only [bind_ok']; rfl)
abbrev N__law_gcd : List Str := [("one" : Str), ("two" : Str), ("k" : Str), ("rest" : Str)]
theorem sc__law_gcd : FnScope N__law_gcd [("one" : Str), ("two" : Str)] (defScope (top 24)) := ⟨rfl, rfl, rfl, by decide +kernel, rfl, by decide +kernel, by decide +kernel⟩
theorem d__law_gcd {f : Addr} {fd : FuncData} (Fd : FnP K "_law_gcd" (top 24) f fd) (T : T0 K mg)  : FnOk P w K mg base (L2.CX P w) 1 f fd [("one" : Str), ("two" : Str)] (spF K (rtF Int) m__law_gcd) :=
  fn_def (αs := Int × Int × Unit) (G' := nl) (n := 2) Fd sc__law_gcd rfl rfl (fun cdv A outer s F H E hr tk =>
    (fss_cons (fs_B (fn_set 0 rfl (fe_abs (fe_var 0) (T.f_abs)) sc__law_gcd.nd))
    (fss_cons (fs_B (fn_set 1 rfl (fe_abs (fe_var 1) (T.f_abs)) sc__law_gcd.nd))
    (fss_cons (fs_forK (rt := id) (passes_of rfl) (fi_range1 (fe_add (fe_mul fe_int (fe_bits (fe_var 1))) fe_int) (T.f_range)) (fg_name 2 rfl sc__law_gcd.nd) (fss_cons (fs_if (ft_eq (fe_var 1) fe_int) (fss_one (fs_retL (fe_var 0))) fss_nil)
    (fss_cons (fs_B (fn_set 3 rfl (fe_mod (fe_intI (fe_var 0) (T.f_int)) (fe_var 1)) sc__law_gcd.nd))
    (fss_cons (fs_B (fn_set 0 rfl (fe_var 1) sc__law_gcd.nd))
    (fss_cons (fs_B (fn_set 1 rfl (fe_var 3) sc__law_gcd.nd))
    (fss_nilS (G' := (va Int (va Int (un (un nl)))))))))))
    (fss_one (fs_ret (fe_var 0))))))) (fun z => by simp only [bind_ok']; rfl)
abbrev N__law_common_l : List Str := [("values" : Str), ("start" : Str), ("common" : Str), ("value" : Str)]
theorem sc__law_common_l : FnScope N__law_common_l [("values" : Str), ("start" : Str)] (defScope (top 25)) := ⟨rfl, rfl, rfl, by decide +kernel, rfl, by decide +kernel, by decide +kernel⟩
theorem d__law_common_l {f : Addr} {fd : FuncData} (Fd : FnP K "_law_common" (top 25) f fd) (T : T0 K mg) (D__law_gcd : Dk P w K mg base "_law_gcd" [("one" : Str), ("two" : Str)] 1 (spF K (rtF Int) m__law_gcd)) : FnOk P w K mg base (L2.CX P w) 2 f fd [("values" : Str), ("start" : Str)] (spF K (rtF Int) m__law_common_l) :=
  fn_def (αs := (List Int) × Int × Unit) (G' := nl) (n := 2) Fd sc__law_common_l rfl rfl (fun cdv A outer s F H E hr tk =>
    (fss_cons (fs_B (fn_set 2 rfl (fe_abs (fe_var 1) (T.f_abs)) sc__law_common_l.nd))
    (fss_cons (fs_n (fn_for (passes_of rfl) (fi_list (fe_var 0)) (fg_name 3 rfl sc__law_common_l.nd) (fns_B (fn_set 2 rfl (fe_cal D__law_gcd tk hr (fa_cons (fe_var 2) (fa_cons (fe_var 3) fa_nil))) sc__law_common_l.nd) (fns_nilS (G' := (va (List Int) (va Int (va Int (un nl)))))))))
    (fss_one (fs_ret (fe_var 2)))))) (fun z => by simp only [bind_ok']; rfl)
abbrev N__law_common_u : List Str := [("values" : Str), ("start" : Str), ("common" : Str), ("value" : Str)]
theorem sc__law_common_u : FnScope N__law_common_u [("values" : Str), ("start" : Str)] (defScope (top 25)) := ⟨rfl, rfl, rfl, by decide +kernel, rfl, by decide +kernel, by decide +kernel⟩
theorem d__law_common_u {f : Addr} {fd : FuncData} (Fd : FnP K "_law_common" (top 25) f fd) (T : T0 K mg) (D__law_gcd : Dk P w K mg base "_law_gcd" [("one" : Str), ("two" : Str)] 1 (spF K (rtF Int) m__law_gcd)) : FnOk P w K mg base (L2.CX P w) 2 f fd [("values" : Str), ("start" : Str)] (spF K (rtF Int) m__law_common_u) :=
  fn_def (αs := (Tu Int) × Int × Unit) (G' := nl) (n := 2) Fd sc__law_common_u rfl rfl (fun cdv A outer s F H E hr tk =>
    (fss_cons (fs_B (fn_set 2 rfl (fe_abs (fe_var 1) (T.f_abs)) sc__law_common_u.nd))
    (fss_cons (fs_n (fn_for (passes_of rfl) (fi_tup (fe_var 0)) (fg_name 3 rfl sc__law_common_u.nd) (fns_B (fn_set 2 rfl (fe_cal D__law_gcd tk hr (fa_cons (fe_var 2) (fa_cons (fe_var 3) fa_nil))) sc__law_common_u.nd) (fns_nilS (G' := (va (Tu Int) (va Int (va Int (un nl)))))))))
    (fss_one (fs_ret (fe_var 2)))))) (fun z => by simp only [bind_ok']; rfl)
abbrev N__law_point : List Str := [("tops" : Str), ("bottom" : Str), ("common" : Str), ("top" : Str)]
theorem sc__law_point : FnScope N__law_point [("tops" : Str), ("bottom" : Str)] (defScope (top 26)) := ⟨rfl, rfl, rfl, by decide +kernel, rfl, by decide +kernel, by decide +kernel⟩
theorem d__law_point {f : Addr} {fd : FuncData} (Fd : FnP K "_law_point" (top 26) f fd) (T : T0 K mg) (D__law_common_l : Dk P w K mg base "_law_common" [("values" : Str), ("start" : Str)] 2 (spF K (rtF Int) m__law_common_l)) : FnOk P w K mg base (L2.CX P w) 3 f fd [("tops" : Str), ("bottom" : Str)] (spF K (rtF ((Tu Int) × Int)) m__law_point) :=
  fn_def (αs := (List Int) × Int × Unit) (G' := nl) (n := 2) Fd sc__law_point rfl rfl (fun cdv A outer s F H E hr tk =>
    (fss_cons (fs_B (fn_set 2 rfl (fe_cal D__law_common_l tk hr (fa_cons (fe_var 0) (fa_cons (fe_var 1) fa_nil))) sc__law_point.nd))
    (fss_cons (fs_n (fn_if (ft_lt (fe_var 1) fe_int) (fns_B (fn_set 2 rfl (fe_neg (fe_var 2)) sc__law_point.nd) fns_nil) fns_nil))
    (fss_one (fs_ret (fe_tup2 (fe_tupL (fe_fz (fo_lc (vs := [3]) (own := [(("top" : Str), 3)]) rfl (blkOk_by (N := N__law_point) (sc := defScope (top 26)) (by decide +kernel)) sc__law_point.nd (fi_list (fe_var 0)) (fgb_name 3 sc__law_point.nd) fts_nil (fun s H C cl fp => (fe_fdv (fe_var 3) (fe_var 2))))) (T.f_tuple)) (fe_fdv (fe_var 1) (fe_var 2)))))))) (fun z => by simp only [bind_ok']; rfl)
abbrev N__law_low : List Str := [("top" : Str), ("bottom" : Str), ("low" : Str)]
theorem sc__law_low : FnScope N__law_low [("top" : Str), ("bottom" : Str)] (defScope (top 27)) := ⟨rfl, rfl, rfl, by decide +kernel, rfl, by decide +kernel, by decide +kernel⟩
theorem d__law_low {f : Addr} {fd : FuncData} (Fd : FnP K "_law_low" (top 27) f fd) (T : T0 K mg) (D__law_point : Dk P w K mg base "_law_point" [("tops" : Str), ("bottom" : Str)] 3 (spF K (rtF ((Tu Int) × Int)) m__law_point)) : FnOk P w K mg base (L2.CX P w) 4 f fd [("top" : Str), ("bottom" : Str)] (spF K (rtF (Int × Int)) m__law_low) :=
  fn_def (αs := Int × Int × Unit) (G' := nl) (n := 1) Fd sc__law_low rfl rfl (fun cdv A outer s F H E hr tk =>
    (fss_cons (fs_B (fn_set 2 rfl (fe_cal D__law_point tk hr (fa_cons (fe_fz (fo_lst (fh_cons (fe_var 0) fh_nil))) (fa_cons (fe_var 1) fa_nil))) sc__law_low.nd))
    (fss_one (fs_ret (fe_tup2 (fe_ixU (fe_p0 (fe_var 2)) fe_int) (fe_p1 (fe_var 2))))))) (fun z => by simp only [bind_ok']; rfl)
abbrev N__law_integers : List Str := [("told" : Str), ("due" : Str), ("k" : Str)]
theorem sc__law_integers : FnScope N__law_integers [("told" : Str), ("due" : Str)] (defScope (top 28)) := ⟨rfl, rfl, rfl, by decide +kernel, rfl, by decide +kernel, by decide +kernel⟩
theorem d__law_integers {f : Addr} {fd : FuncData} (Fd : FnP K "_law_integers" (top 28) f fd) (T : T0 K mg)  : FnOk P w K mg base (L2.CX P w) 1 f fd [("told" : Str), ("due" : Str)] (spF K (rtF Bool) m__law_integers) :=
  fn_def (αs := (Tu Int) × (Tu Int) × Unit) (G' := nl) (n := 1) Fd sc__law_integers rfl rfl (fun cdv A outer s F H E hr tk =>
    (fss_cons (fs_if (ft_w (fw_or (ft_not (ft_val (fe_isi (U := "tuple") (fe_var 0) (T.f_isinstance) T.f_tuple))) (fw_or1 (ft_ne (fe_len (fe_var 0) (T.f_len)) (fe_len (fe_var 1) (T.f_len)))))) (fss_one (fs_ret fe_bl)) fss_nil)
    (fss_cons (fs_forK (rt := id) (passes_of rfl) (fi_range1 (fe_len (fe_var 1) (T.f_len)) (T.f_range)) (fg_name 2 rfl sc__law_integers.nd) (fss_cons (fs_if (ft_w (fw_or (ft_not (ft_val (fe_isi (U := "int") (fe_ixU (fe_var 0) (fe_var 2)) (T.f_isinstance) T.f_int))) (fw_or (ft_val (fe_isi (U := "bool") (fe_ixU (fe_var 0) (fe_var 2)) (T.f_isinstance) T.f_bool)) (fw_or1 (ft_ne (fe_ixU (fe_var 0) (fe_var 2)) (fe_ixU (fe_var 1) (fe_var 2))))))) (fss_one (fs_retL fe_bl)) fss_nil)
    (fss_nilS (G' := (va (Tu Int) (va (Tu Int) (un nl)))))))
    (fss_one (fs_ret fe_bl))))) (fun z => by simp only [bind_ok']; rfl)
abbrev N__law_same : List Str := [("told" : Str), ("due" : Str)]
theorem sc__law_same : FnScope N__law_same [("told" : Str), ("due" : Str)] (defScope (top 29)) := ⟨rfl, rfl, rfl, by decide +kernel, rfl, by decide +kernel, by decide +kernel⟩
theorem d__law_same {f : Addr} {fd : FuncData} (Fd : FnP K "_law_same" (top 29) f fd) (T : T0 K mg) (D__law_integers : Dk P w K mg base "_law_integers" [("told" : Str), ("due" : Str)] 1 (spF K (rtF Bool) m__law_integers)) : FnOk P w K mg base (L2.CX P w) 2 f fd [("told" : Str), ("due" : Str)] (spF K (rtF Bool) m__law_same) :=
  fn_def (αs := ((Tu Int) × Int) × ((Tu Int) × Int) × Unit) (G' := nl) (n := 0) Fd sc__law_same rfl rfl (fun cdv A outer s F H E hr tk =>
    (fss_cons (fs_if (ft_w (fw_or (ft_not (ft_val (fe_isi (U := "tuple") (fe_var 0) (T.f_isinstance) T.f_tuple))) (fw_or1 (ft_ne (fe_len (fe_var 0) (T.f_len)) fe_int)))) (fss_one (fs_ret fe_bl)) fss_nil)
    (fss_one (fs_ret (fe_and (fe_cal D__law_integers tk hr (fa_cons (fe_p0 (fe_var 0)) (fa_cons (fe_p0 (fe_var 1)) fa_nil))) (fe_one (fe_cal D__law_integers tk hr (fa_cons (fe_tupU (fh_cons (fe_p1 (fe_var 0)) fh_nil)) (fa_cons (fe_tupU (fh_cons (fe_p1 (fe_var 1)) fh_nil)) fa_nil))))))))) (fun z => by simp only [bind_ok']; rfl)
abbrev N__law_truth : List Str := [("told" : Str), ("due" : Str)]
theorem sc__law_truth : FnScope N__law_truth [("told" : Str), ("due" : Str)] (defScope (top 30)) := ⟨rfl, rfl, rfl, by decide +kernel, rfl, by decide +kernel, by decide +kernel⟩
theorem d__law_truth {f : Addr} {fd : FuncData} (Fd : FnP K "_law_truth" (top 30) f fd) (T : T0 K mg)  : FnOk P w K mg base (L2.CX P w) 1 f fd [("told" : Str), ("due" : Str)] (spF K (rtF Bool) m__law_truth) :=
  fn_def (αs := Bool × Bool × Unit) (G' := nl) (n := 0) Fd sc__law_truth rfl rfl (fun cdv A outer s F H E hr tk =>
    (fss_one (fs_ret (fe_and (fe_isi (U := "bool") (fe_var 0) (T.f_isinstance) T.f_bool) (fe_one (fe_eq (fe_var 0) (fe_var 1))))))) (fun z => by simp only [bind_ok']; rfl)
abbrev N__law_tops : List Str := [("draws" : Str), ("at" : Str), ("size" : Str), ("wide" : Str), ("found" : Str), ("k" : Str), ("top" : Str)]
theorem sc__law_tops : FnScope N__law_tops [("draws" : Str), ("at" : Str), ("size" : Str), ("wide" : Str)] (defScope (top 31)) := ⟨rfl, rfl, rfl, by decide +kernel, rfl, by decide +kernel, by decide +kernel⟩
theorem d__law_tops {f : Addr} {fd : FuncData} (Fd : FnP K "_law_tops" (top 31) f fd) (T : T0 K mg)  : FnOk P w K mg base (L2.CX P w) 1 f fd [("draws" : Str), ("at" : Str), ("size" : Str), ("wide" : Str)] (spF K (rtO Int) m__law_tops) :=
  fn_def (αs := (List Int) × Int × Int × Bool × Unit) (G' := nl) (n := 3) Fd sc__law_tops rfl rfl (fun cdv A outer s F H E hr tk =>
    (fss_cons (fs_B (fn_setLc (vs := [5]) (own := [(("k" : Str), 5)]) 4 rfl rfl (blkOk_by (N := N__law_tops) (sc := defScope (top 31)) (by decide +kernel)) sc__law_tops.nd (fi_range1 (fe_var 2) (T.f_range)) (fgb_name 5 sc__law_tops.nd) fts_nil (fun s H C cl fp => (fe_sub (fe_mod (fe_ixL (fe_var 0) (fe_add (fe_var 1) (fe_var 5))) fe_int) fe_int))))
    (fss_cons (fs_n (fn_if (ft_val (fe_var 3)) (fns_lend (fns_B (fn_setLc (vs := [6]) (own := [(("top" : Str), 6)]) 4 rfl rfl (blkOk_by (N := N__law_tops) (sc := defScope (top 31)) (by decide +kernel)) sc__law_tops.nd (fi_list (fe_var 4)) (fgb_name 6 sc__law_tops.nd) fts_nil (fun s H C cl fp => (fe_add (fe_mul (fe_var 6) (fe_pow fe_int fe_int)) (fe_ixL (fe_var 0) (fe_var 1))))) fns_nil)) fns_nil))
    (fss_one (fs_retV 4))))) (fun z => by simp only [bind_ok']; rfl)
abbrev N__law_raises : List Str := [("word" : Str), ("tops" : Str), ("e" : Str)]
theorem sc__law_raises : FnScope N__law_raises [("word" : Str), ("tops" : Str)] (defScope (top 32)) := ⟨rfl, rfl, rfl, by decide +kernel, rfl, by decide +kernel, by decide +kernel⟩
theorem d__law_raises {f : Addr} {fd : FuncData} (Fd : FnP K "_law_raises" (top 32) f fd) (T : T0 K mg) (D_point_l : Dk P w K mg base "point" [("tops" : Str), ("bottom" : Str)] 2 (spF K (rtF ((Tu Int) × Int)) m_point_l)) (D_direction : Dk P w K mg base "direction" [("tops" : Str)] 2 (spF K (rtF (Tu Int)) m_direction)) : FnOk P w K mg base (L2.CX P w) 3 f fd [("word" : Str), ("tops" : Str)] (spF K (rtF Bool) m__law_raises) :=
  fn_def (αs := Str × (List Int) × Unit) (G' := nl) (n := 1) Fd sc__law_raises rfl rfl (fun cdv A outer s F H E hr tk =>
    (fss_cons (fs_tryAs (i := 2) (vs := []) (catch_ := catch1 "BadNumber") tk ⟨rfl, by decide, .inl T.g_BadNumber⟩ (catch1_ok T.m_BadNumber_BadNumber) sc__law_raises.nd (fun W pn xe g0 tk po => (fss_cons (fs_n (fn_if (ft_eq (fe_var 0) fe_str) (fns_B (fn_expr (fe_cal D_point_l tk hr (fa_cons (fe_var 1) (fa_cons fe_int fa_nil)))) fns_nil) (fns_B (fn_expr (fe_cal D_direction tk hr (fa_cons (fe_var 1) fa_nil))) fns_nil)))
    fss_nil)) (fun a oe cc pn g0 hcc hz hv => have hcc := catch1_eq hcc; (fss_one (fs_retT (fe_and (fe_isE 2 true (hcc ▸ T.e_BadNumber) hz hv (hcc ▸ T.k_BadNumber_LeaderError) (by intro z hz; exact hz) (pe_clsR T.g_LeaderError) (T.f_isinstance)) (fe_and (fe_isE 2 true (hcc ▸ T.e_BadNumber) hz hv (hcc ▸ T.k_BadNumber_ValueError) (by intro z hz; exact hz) (pe_clsT (U := "ValueError") T.f_ValueError) (T.f_isinstance)) (fe_one (fe_not (fe_isE 2 false (hcc ▸ T.e_BadNumber) hz hv (hcc ▸ T.k_BadNumber_BadShape) (by intro z hz; exact hz) (pe_clsR T.g_BadShape) (T.f_isinstance))))))))))
    (fss_one (fs_ret fe_bl)))) (fun z => by simp only [bind_ok']; rfl)
abbrev N__law_before : List Str := [("one" : Str), ("two" : Str), ("k" : Str), ("left" : Str), ("right" : Str)]
theorem sc__law_before : FnScope N__law_before [("one" : Str), ("two" : Str)] (defScope (top 33)) := ⟨rfl, rfl, rfl, by decide +kernel, rfl, by decide +kernel, by decide +kernel⟩
theorem d__law_before {f : Addr} {fd : FuncData} (Fd : FnP K "_law_before" (top 33) f fd) (T : T0 K mg)  : FnOk P w K mg base (L2.CX P w) 1 f fd [("one" : Str), ("two" : Str)] (spF K (rtF Bool) m__law_before) :=
  fn_def (αs := ((Tu Int) × Int) × ((Tu Int) × Int) × Unit) (G' := nl) (n := 3) Fd sc__law_before rfl rfl (fun cdv A outer s F H E hr tk =>
    (fss_cons (fs_forK (rt := id) (passes_of rfl) (fi_range1 (fe_len (fe_p0 (fe_var 0)) (T.f_len)) (T.f_range)) (fg_name 2 rfl sc__law_before.nd) (fss_cons (fs_B (fn_set 3 rfl (fe_mul (fe_ixU (fe_p0 (fe_var 0)) (fe_var 2)) (fe_p1 (fe_var 1))) sc__law_before.nd))
    (fss_cons (fs_B (fn_set 4 rfl (fe_mul (fe_ixU (fe_p0 (fe_var 1)) (fe_var 2)) (fe_p1 (fe_var 0))) sc__law_before.nd))
    (fss_cons (fs_if (ft_ne (fe_var 3) (fe_var 4)) (fss_one (fs_retL (fe_lt (fe_var 3) (fe_var 4)))) fss_nil)
    (fss_nilS (G' := (va ((Tu Int) × Int) (va ((Tu Int) × Int) (un (un (un nl)))))))))))
    (fss_one (fs_ret fe_bl)))) (fun z => by simp only [bind_ok']; rfl)
abbrev N__law_sorted : List Str := [("places" : Str), ("done" : Str), ("place" : Str), ("at" : Str), ("k" : Str)]
theorem sc__law_sorted : FnScope N__law_sorted [("places" : Str)] (defScope (top 34)) := ⟨rfl, rfl, rfl, by decide +kernel, rfl, by decide +kernel, by decide +kernel⟩
theorem d__law_sorted {f : Addr} {fd : FuncData} (Fd : FnP K "_law_sorted" (top 34) f fd) (T : T0 K mg) (D__law_before : Dk P w K mg base "_law_before" [("one" : Str), ("two" : Str)] 1 (spF K (rtF Bool) m__law_before)) : FnOk P w K mg base (L2.CX P w) 2 f fd [("places" : Str)] (spF K (rtO ((Tu Int) × Int)) m__law_sorted) :=
  fn_def (αs := (List ((Tu Int) × Int)) × Unit) (G' := nl) (n := 4) Fd sc__law_sorted rfl rfl (fun cdv A outer s F H E hr tk =>
    (fss_cons (fs_B (fn_setO 1 rfl (fo_nil (α := ((Tu Int) × Int))) sc__law_sorted.nd))
    (fss_cons (fs_n (fn_for (passes_of rfl) (fi_list (fe_var 0)) (fg_name 2 rfl sc__law_sorted.nd) (fns_B (fn_set 3 rfl fe_int sc__law_sorted.nd) (fns_cons (fn_for (passes_of rfl) (fi_range1 (fe_br (fe_len (fe_var 1) (T.f_len))) (T.f_range)) (fg_name 4 rfl sc__law_sorted.nd) (fns_cons (fn_if (ft_br (ft_val (fe_cal D__law_before tk hr (fa_cons (fe_ixL (fe_var 1) (fe_var 4)) (fa_cons (fe_var 2) fa_nil))))) (fns_B (fn_set 3 rfl (fe_add (fe_var 4) fe_int) sc__law_sorted.nd) fns_nil) fns_nil) (fns_nilS (G' := (va (List ((Tu Int) × Int)) (ow ((Tu Int) × Int) (va ((Tu Int) × Int) (va Int (un nl))))))))) (fns_cons (fn_if (ft_br (ft_ninD hr (fe_var 2) (fe_var 1))) (fns_B3 (fn_insert 1 (fe_var 3) (fe_var 2)) fns_nil) fns_nil) (fns_nilS (G' := (va (List ((Tu Int) × Int)) (ow ((Tu Int) × Int) (un (un (un nl))))))))))))
    (fss_one (fs_retV 1))))) (fun z => by simp only [bind_ok']; rfl)
abbrev N__law_two : List Str := [("one" : Str), ("two" : Str), ("share" : Str), ("ways" : Str), ("cut" : Str), ("first" : Str), ("second" : Str), ("size" : Str), ("tops" : Str), ("mine" : Str), ("other" : Str), ("numbers" : Str), ("told" : Str), ("k" : Str)]
theorem sc__law_two : FnScope N__law_two [("one" : Str), ("two" : Str), ("share" : Str), ("ways" : Str), ("cut" : Str)] (defScope (top 35)) := ⟨rfl, rfl, rfl, by decide +kernel, rfl, by decide +kernel, by decide +kernel⟩
theorem d__law_two {f : Addr} {fd : FuncData} (Fd : FnP K "_law_two" (top 35) f fd) (T : T0 K mg) (D__law_point : Dk P w K mg base "_law_point" [("tops" : Str), ("bottom" : Str)] 3 (spF K (rtF ((Tu Int) × Int)) m__law_point)) (D_joined : Dk P w K mg base "joined" [("first" : Str), ("second" : Str)] 3 (spF K (rtF ((Tu Int) × Int)) m_joined)) (D__law_same : Dk P w K mg base "_law_same" [("told" : Str), ("due" : Str)] 2 (spF K (rtF Bool) m__law_same)) (D_part_of : Dk P w K mg base "part_of" [("place" : Str), ("start" : Str), ("stop" : Str)] 3 (spF K (rtF ((Tu Int) × Int)) m_part_of)) (D_mixed : Dk P w K mg base "mixed" [("first" : Str), ("second" : Str), ("share" : Str)] 3 (spF K (rtF ((Tu Int) × Int)) m_mixed)) (D_shifted : Dk P w K mg base "shifted" [("place" : Str), ("way" : Str), ("step" : Str)] 3 (spF K (rtF ((Tu Int) × Int)) m_shifted)) (D__law_low : Dk P w K mg base "_law_low" [("top" : Str), ("bottom" : Str)] 4 (spF K (rtF (Int × Int)) m__law_low)) (D_coordinates : Dk P w K mg base "coordinates" [("place" : Str)] 2 (spF K (rtF (Tu (Int × Int))) m_coordinates)) (D_point_of : Dk P w K mg base "point_of" [("numbers" : Str)] 3 (spF K (rtF ((Tu Int) × Int)) m_point_of)) (D__law_integers : Dk P w K mg base "_law_integers" [("told" : Str), ("due" : Str)] 1 (spF K (rtF Bool) m__law_integers)) (D_coordinate : Dk P w K mg base "coordinate" [("place" : Str), ("k" : Str)] 2 (spF K (rtF (Int × Int)) m_coordinate)) : FnOk P w K mg base (L2.CX P w) 5 f fd [("one" : Str), ("two" : Str), ("share" : Str), ("ways" : Str), ("cut" : Str)] (spF K (rtF Bool) m__law_two) :=
  fn_def (αs := (List Int) × (List Int) × (Int × Int) × (List Int) × Int × Unit) (G' := nl) (n := 9) Fd sc__law_two rfl rfl (fun cdv A outer s F H E hr tk =>
    (fss_cons (fs_B (fn_set 5 rfl (fe_cal D__law_point tk hr (fa_cons (fe_slL (fe_var 0) fp_none (fp_some (fe_neg fe_int))) (fa_cons (fe_ixL (fe_var 0) (fe_neg fe_int)) fa_nil))) sc__law_two.nd))
    (fss_cons (fs_B (fn_set 6 rfl (fe_cal D__law_point tk hr (fa_cons (fe_slL (fe_var 1) fp_none (fp_some (fe_neg fe_int))) (fa_cons (fe_ixL (fe_var 1) (fe_neg fe_int)) fa_nil))) sc__law_two.nd))
    (fss_cons (fs_B (fn_set 7 rfl (fe_sub (fe_len (fe_var 0) (T.f_len)) fe_int) sc__law_two.nd))
    (fss_cons (fs_B (fn_set 8 rfl (fe_fz (fo_cat (fo_lc (vs := [13]) (own := [(("k" : Str), 13)]) rfl (blkOk_by (N := N__law_two) (sc := defScope (top 35)) (by decide +kernel)) sc__law_two.nd (fi_range1 (fe_var 7) (T.f_range)) (fgb_name 13 sc__law_two.nd) fts_nil (fun s H C cl fp => (fe_mul (fe_ixL (fe_var 0) (fe_var 13)) (fe_ixL (fe_var 1) (fe_neg fe_int))))) (fo_lc (vs := [13]) (own := [(("k" : Str), 13)]) rfl (blkOk_by (N := N__law_two) (sc := defScope (top 35)) (by decide +kernel)) sc__law_two.nd (fi_range1 (fe_var 7) (T.f_range)) (fgb_name 13 sc__law_two.nd) fts_nil (fun s H C cl fp => (fe_mul (fe_ixL (fe_var 1) (fe_var 13)) (fe_ixL (fe_var 0) (fe_neg fe_int))))))) sc__law_two.nd))
    (fss_cons (fs_if (ft_not (ft_val (fe_cal D__law_same tk hr (fa_cons (fe_cal D_joined tk hr (fa_cons (fe_var 5) (fa_cons (fe_var 6) fa_nil))) (fa_cons (fe_cal D__law_point tk hr (fa_cons (fe_var 8) (fa_cons (fe_mul (fe_ixL (fe_var 0) (fe_neg fe_int)) (fe_ixL (fe_var 1) (fe_neg fe_int))) fa_nil))) fa_nil))))) (fss_one (fs_ret fe_bl)) fss_nil)
    (fss_cons (fs_if (ft_not (ft_val (fe_cal D__law_same tk hr (fa_cons (fe_cal D_part_of tk hr (fa_cons (fe_var 5) (fa_cons (fe_var 4) (fa_cons (fe_var 7) fa_nil)))) (fa_cons (fe_cal D__law_point tk hr (fa_cons (fe_slL (fe_var 0) (fp_some (fe_var 4)) (fp_some (fe_neg fe_int))) (fa_cons (fe_ixL (fe_var 0) (fe_neg fe_int)) fa_nil))) fa_nil))))) (fss_one (fs_ret fe_bl)) fss_nil)
    (fss_cons (fs_if (ft_not (ft_val (fe_cal D__law_same tk hr (fa_cons (fe_cal D_part_of tk hr (fa_cons (fe_var 5) (fa_cons fe_int (fa_cons (fe_var 4) fa_nil)))) (fa_cons (fe_cal D__law_point tk hr (fa_cons (fe_slL (fe_var 0) fp_none (fp_some (fe_var 4))) (fa_cons (fe_ixL (fe_var 0) (fe_neg fe_int)) fa_nil))) fa_nil))))) (fss_one (fs_ret fe_bl)) fss_nil)
    (fss_cons (fs_B (fn_set 9 rfl (fe_mul (fe_sub (fe_p1 (fe_var 2)) (fe_p0 (fe_var 2))) (fe_ixL (fe_var 1) (fe_neg fe_int))) sc__law_two.nd))
    (fss_cons (fs_B (fn_set 10 rfl (fe_mul (fe_p0 (fe_var 2)) (fe_ixL (fe_var 0) (fe_neg fe_int))) sc__law_two.nd))
    (fss_cons (fs_B (fn_setLcF (vs := [13]) (own := [(("k" : Str), 13)]) 8 rfl rfl (blkOk_by (N := N__law_two) (sc := defScope (top 35)) (by decide +kernel)) sc__law_two.nd (fi_range1 (fe_var 7) (T.f_range)) (fgb_name 13 sc__law_two.nd) fts_nil (fun s H C cl fp => (fe_add (fe_mul (fe_var 9) (fe_ixL (fe_var 0) (fe_var 13))) (fe_mul (fe_var 10) (fe_ixL (fe_var 1) (fe_var 13)))))))
    (fss_cons (fs_if (ft_not (ft_val (fe_cal D__law_same tk hr (fa_cons (fe_cal D_mixed tk hr (fa_cons (fe_var 5) (fa_cons (fe_var 6) (fa_cons (fe_var 2) fa_nil)))) (fa_cons (fe_cal D__law_point tk hr (fa_cons (fe_var 8) (fa_cons (fe_mul (fe_mul (fe_p1 (fe_var 2)) (fe_ixL (fe_var 0) (fe_neg fe_int))) (fe_ixL (fe_var 1) (fe_neg fe_int))) fa_nil))) fa_nil))))) (fss_one (fs_ret fe_bl)) fss_nil)
    (fss_cons (fs_B (fn_setLcF (vs := [13]) (own := [(("k" : Str), 13)]) 8 rfl rfl (blkOk_by (N := N__law_two) (sc := defScope (top 35)) (by decide +kernel)) sc__law_two.nd (fi_range1 (fe_var 7) (T.f_range)) (fgb_name 13 sc__law_two.nd) fts_nil (fun s H C cl fp => (fe_add (fe_mul (fe_ixL (fe_var 0) (fe_var 13)) (fe_p1 (fe_var 2))) (fe_mul (fe_mul (fe_ixL (fe_var 3) (fe_var 13)) (fe_p0 (fe_var 2))) (fe_ixL (fe_var 0) (fe_neg fe_int)))))))
    (fss_cons (fs_if (ft_not (ft_val (fe_cal D__law_same tk hr (fa_cons (fe_cal D_shifted tk hr (fa_cons (fe_var 5) (fa_cons (fe_fz (fo_list (fe_var 3) (T.f_list))) (fa_cons (fe_var 2) fa_nil)))) (fa_cons (fe_cal D__law_point tk hr (fa_cons (fe_var 8) (fa_cons (fe_mul (fe_ixL (fe_var 0) (fe_neg fe_int)) (fe_p1 (fe_var 2))) fa_nil))) fa_nil))))) (fss_one (fs_ret fe_bl)) fss_nil)
    (fss_cons (fs_B (fn_setLcF (vs := [13]) (own := [(("k" : Str), 13)]) 11 rfl rfl (blkOk_by (N := N__law_two) (sc := defScope (top 35)) (by decide +kernel)) sc__law_two.nd (fi_range1 (fe_var 7) (T.f_range)) (fgb_name 13 sc__law_two.nd) fts_nil (fun s H C cl fp => (fe_cal D__law_low takesF hr (fa_cons (fe_ixL (fe_var 0) (fe_var 13)) (fa_cons (fe_ixL (fe_var 0) (fe_neg fe_int)) fa_nil))))))
    (fss_cons (fs_B (fn_set 12 rfl (fe_cal D_coordinates tk hr (fa_cons (fe_var 5) fa_nil)) sc__law_two.nd))
    (fss_cons (fs_if (ft_w (fw_or (ft_not (ft_val (fe_isi (U := "tuple") (fe_var 12) (T.f_isinstance) T.f_tuple))) (fw_or (ft_ne (fe_len (fe_var 12) (T.f_len)) (fe_var 7)) (fw_or1 (ft_not (ft_val (fe_cal D__law_same tk hr (fa_cons (fe_cal D_point_of tk hr (fa_cons (fe_fz (fo_list (fe_var 11) (T.f_list))) fa_nil)) (fa_cons (fe_var 5) fa_nil))))))))) (fss_one (fs_ret fe_bl)) fss_nil)
    (fss_cons (fs_forK (rt := id) (passes_of rfl) (fi_range1 (fe_var 7) (T.f_range)) (fg_name 13 rfl sc__law_two.nd) (fss_cons (fs_if (ft_w (fw_or (ft_not (ft_val (fe_cal D__law_integers tk hr (fa_cons (fe_pairU (fe_ixU (fe_var 12) (fe_var 13))) (fa_cons (fe_pairU (fe_ixL (fe_var 11) (fe_var 13))) fa_nil))))) (fw_or1 (ft_not (ft_val (fe_cal D__law_integers tk hr (fa_cons (fe_pairU (fe_cal D_coordinate tk hr (fa_cons (fe_var 5) (fa_cons (fe_var 13) fa_nil)))) (fa_cons (fe_pairU (fe_ixL (fe_var 11) (fe_var 13))) fa_nil)))))))) (fss_one (fs_retL fe_bl)) fss_nil)
    (fss_nilS (G' := (va (List Int) (va (List Int) (va (Int × Int) (va (List Int) (va Int (va ((Tu Int) × Int) (va ((Tu Int) × Int) (va Int (va (List Int) (va Int (va Int (va (List (Int × Int)) (va (Tu (Int × Int)) (un nl))))))))))))))))))
    (fss_one (fs_ret fe_bl)))))))))))))))))))) (fun z => by simp only [bind_ok']; rfl)
abbrev N__law_kinds : List Str := [("place" : Str), ("ways" : Str), ("size" : Str), ("double" : Str), ("turned" : Str), ("odd" : Str), ("value" : Str), ("common" : Str), ("due" : Str), ("step" : Str), ("top" : Str)]
theorem sc__law_kinds : FnScope N__law_kinds [("place" : Str), ("ways" : Str), ("size" : Str)] (defScope (top 36)) := ⟨rfl, rfl, rfl, by decide +kernel, rfl, by decide +kernel, by decide +kernel⟩
theorem d__law_kinds {f : Addr} {fd : FuncData} (Fd : FnP K "_law_kinds" (top 36) f fd) (T : T0 K mg) (D_is_point : Dk P w K mg base "is_point" [("value" : Str), ("size" : Str)] 2 (spF K (rtF Bool) m_is_point)) (D__law_truth : Dk P w K mg base "_law_truth" [("told" : Str), ("due" : Str)] 1 (spF K (rtF Bool) m__law_truth)) (D__law_common_l : Dk P w K mg base "_law_common" [("values" : Str), ("start" : Str)] 2 (spF K (rtF Int) m__law_common_l)) (D_is_direction : Dk P w K mg base "is_direction" [("value" : Str), ("size" : Str)] 2 (spF K (rtF Bool) m_is_direction)) (D__law_raises : Dk P w K mg base "_law_raises" [("word" : Str), ("tops" : Str)] 3 (spF K (rtF Bool) m__law_raises)) (D_direction : Dk P w K mg base "direction" [("tops" : Str)] 2 (spF K (rtF (Tu Int)) m_direction)) (D__law_integers : Dk P w K mg base "_law_integers" [("told" : Str), ("due" : Str)] 1 (spF K (rtF Bool) m__law_integers)) : FnOk P w K mg base (L2.CX P w) 4 f fd [("place" : Str), ("ways" : Str), ("size" : Str)] (spF K (rtF Bool) m__law_kinds) :=
  fn_def (αs := ((Tu Int) × Int) × (List Int) × Int × Unit) (G' := nl) (n := 8) Fd sc__law_kinds rfl rfl (fun cdv A outer s F H E hr tk =>
    (fss_cons (fs_if (ft_w (fw_or (ft_not (ft_val (fe_cal D__law_truth tk hr (fa_cons (fe_cal D_is_point tk hr (fa_cons (fe_dat (fe_var 0)) (fa_cons (fe_var 2) fa_nil))) (fa_cons fe_bl fa_nil))))) (fw_or1 (ft_not (ft_val (fe_cal D__law_truth tk hr (fa_cons (fe_cal D_is_point tk hr (fa_cons (fe_dat (fe_var 0)) (fa_cons (fe_add (fe_var 2) fe_int) fa_nil))) (fa_cons fe_bl fa_nil)))))))) (fss_one (fs_ret fe_bl)) fss_nil)
    (fss_cons (fs_B (fn_set 3 rfl (fe_tup2 (fe_tupL (fe_fz (fo_lc (vs := [10]) (own := [(("top" : Str), 10)]) rfl (blkOk_by (N := N__law_kinds) (sc := defScope (top 36)) (by decide +kernel)) sc__law_kinds.nd (fi_tup (fe_p0 (fe_var 0))) (fgb_name 10 sc__law_kinds.nd) fts_nil (fun s H C cl fp => (fe_mul fe_int (fe_var 10))))) (T.f_tuple)) (fe_mul fe_int (fe_p1 (fe_var 0)))) sc__law_kinds.nd))
    (fss_cons (fs_B (fn_set 4 rfl (fe_tup2 (fe_tupL (fe_fz (fo_lc (vs := [10]) (own := [(("top" : Str), 10)]) rfl (blkOk_by (N := N__law_kinds) (sc := defScope (top 36)) (by decide +kernel)) sc__law_kinds.nd (fi_tup (fe_p0 (fe_var 0))) (fgb_name 10 sc__law_kinds.nd) fts_nil (fun s H C cl fp => (fe_neg (fe_var 10))))) (T.f_tuple)) (fe_neg (fe_p1 (fe_var 0)))) sc__law_kinds.nd))
    (fss_cons (fs_B (fn_set 5 rfl (fe_fz (fo_lst (fh_cons (fe_dat (fe_var 3)) (fh_cons (fe_dat (fe_var 4)) (fh_cons (fe_dat (fe_tup2 (fe_fz (fo_listT (fe_p0 (fe_var 0)) (T.f_list))) (fe_p1 (fe_var 0)))) (fh_cons (fe_dat (fe_tup2 (fe_p0 (fe_var 0)) fe_bl)) (fh_cons (fe_dat (fe_tupU (fh_cons (fe_p0 (fe_var 0)) fh_nil))) (fh_cons (fe_dat (fe_p0 (fe_var 0))) (fh_cons (fe_dat fe_none) (fh_cons (fe_dat (fe_fz (fo_lst (fh_cons fe_int fh_nil)))) (fh_cons (fe_dat fe_str) fh_nil))))))))))) sc__law_kinds.nd))
    (fss_cons (fs_forK (rt := id) (passes_of rfl) (fi_list (fe_fz (fo_catF (fe_var 5) (fe_fz (fo_lst (fh_cons (fe_dat (fe_tup2 (fe_catU (fe_toUD (fe_p0 (fe_var 0))) (fe_toUD (fe_tupU (fh_cons fe_none fh_nil)))) (fe_p1 (fe_var 0)))) (fh_cons (fe_dat (fe_tup2 (fe_catU (fe_toUD (fe_slU (fe_p0 (fe_var 0)) fp_none (fp_some (fe_neg fe_int)))) (fe_toUD (fe_tupU (fh_cons fe_str fh_nil)))) (fe_p1 (fe_var 0)))) (fh_cons (fe_dat (fe_catU (fe_pairUD (fe_var 0)) (fe_toUD (fe_tupU (fh_cons fe_int fh_nil))))) fh_nil)))))))) (fg_name 6 rfl sc__law_kinds.nd) (fss_cons (fs_if (ft_not (ft_val (fe_cal D__law_truth tk hr (fa_cons (fe_cal D_is_point tk hr (fa_cons (fe_var 6) (fa_cons (fe_var 2) fa_nil))) (fa_cons fe_bl fa_nil))))) (fss_one (fs_retL fe_bl)) fss_nil)
    (fss_nilS (G' := (va ((Tu Int) × Int) (va (List Int) (va Int (va ((Tu Int) × Int) (va ((Tu Int) × Int) (va (List PyData) (un (un (un (un (un nl)))))))))))))))
    (fss_cons (fs_B (fn_set 7 rfl (fe_cal D__law_common_l tk hr (fa_cons (fe_var 1) (fa_cons fe_int fa_nil))) sc__law_kinds.nd))
    (fss_cons (fs_if (ft_not (ft_val (fe_cal D__law_truth tk hr (fa_cons (fe_cal D_is_direction tk hr (fa_cons (fe_dat (fe_tupL (fe_var 1) (T.f_tuple))) (fa_cons (fe_var 2) fa_nil))) (fa_cons (fe_eq (fe_var 7) fe_int) fa_nil))))) (fss_one (fs_ret fe_bl)) fss_nil)
    (fss_cons (fs_forK (rt := id) (passes_of rfl) (fi_list (fe_fz (fo_lst (fh_cons (fe_dat (fe_fz (fo_list (fe_var 1) (T.f_list)))) (fh_cons (fe_dat (fe_catU (fe_tupL (fe_var 1) (T.f_tuple)) (fe_tupU (fh_cons fe_int fh_nil)))) (fh_cons (fe_dat (fe_tupL (fe_fz (fo_lc (vs := [9]) (own := [(("step" : Str), 9)]) rfl (blkOk_by (N := N__law_kinds) (sc := defScope (top 36)) (by decide +kernel)) sc__law_kinds.nd (fi_list (fe_var 1)) (fgb_name 9 sc__law_kinds.nd) fts_nil (fun s H C cl fp => (fe_mul fe_int (fe_var 9))))) (T.f_tuple))) (fh_cons (fe_dat fe_none) (fh_cons (fe_dat (fe_repU (fe_tupU (fh_cons fe_bl fh_nil)) (fe_var 2))) (fh_cons (fe_dat fe_str) fh_nil))))))))) (fg_name 6 rfl sc__law_kinds.nd) (fss_cons (fs_if (ft_not (ft_val (fe_cal D__law_truth tk hr (fa_cons (fe_cal D_is_direction tk hr (fa_cons (fe_var 6) (fa_cons (fe_var 2) fa_nil))) (fa_cons fe_bl fa_nil))))) (fss_one (fs_retL fe_bl)) fss_nil)
    (fss_nilS (G' := (va ((Tu Int) × Int) (va (List Int) (va Int (va ((Tu Int) × Int) (va ((Tu Int) × Int) (va (List PyData) (un (va Int (un (un (un nl)))))))))))))))
    (fss_cons (fs_if (ft_eq (fe_var 7) fe_int) (fss_one (fs_ret (fe_cal D__law_raises tk hr (fa_cons fe_str (fa_cons (fe_fz (fo_list (fe_var 1) (T.f_list))) fa_nil))))) fss_nil)
    (fss_cons (fs_B (fn_set 8 rfl (fe_tupL (fe_fz (fo_lc (vs := [9]) (own := [(("step" : Str), 9)]) rfl (blkOk_by (N := N__law_kinds) (sc := defScope (top 36)) (by decide +kernel)) sc__law_kinds.nd (fi_list (fe_var 1)) (fgb_name 9 sc__law_kinds.nd) fts_nil (fun s H C cl fp => (fe_fdv (fe_var 9) (fe_var 7))))) (T.f_tuple)) sc__law_kinds.nd))
    (fss_one (fs_ret (fe_and (fe_cal D__law_integers tk hr (fa_cons (fe_cal D_direction tk hr (fa_cons (fe_fz (fo_list (fe_var 1) (T.f_list))) fa_nil)) (fa_cons (fe_var 8) fa_nil))) (fe_one (fe_cal D__law_truth tk hr (fa_cons (fe_cal D_is_direction tk hr (fa_cons (fe_dat (fe_var 8)) (fa_cons (fe_var 2) fa_nil))) (fa_cons fe_bl fa_nil)))))))))))))))))) (fun z => by simp only [bind_ok']; rfl)
abbrev N_law : List Str := [("script" : Str), ("draws" : Str), ("size" : Str), ("wide" : Str), ("one" : Str), ("two" : Str), ("share" : Str), ("ways" : Str), ("cut" : Str), ("sign" : Str), ("given" : Str), ("width" : Str), ("places" : Str), ("k" : Str), ("tops" : Str), ("kept" : Str), ("told" : Str), ("due" : Str), ("top" : Str), ("j" : Str)]
theorem sc_law : FnScope N_law [("script" : Str)] (defScope (top 37)) := ⟨rfl, rfl, rfl, by decide +kernel, rfl, by decide +kernel, by decide +kernel⟩
theorem d_law {f : Addr} {fd : FuncData} (Fd : FnP K "law" (top 37) f fd) (T : T0 K mg) (D__law_draws : Dk P w K mg base "_law_draws" [("script" : Str), ("count" : Str)] 1 (spF K (rtO Int) m__law_draws)) (D__law_tops : Dk P w K mg base "_law_tops" [("draws" : Str), ("at" : Str), ("size" : Str), ("wide" : Str)] 1 (spF K (rtO Int) m__law_tops)) (D__law_low : Dk P w K mg base "_law_low" [("top" : Str), ("bottom" : Str)] 4 (spF K (rtF (Int × Int)) m__law_low)) (D_point_l : Dk P w K mg base "point" [("tops" : Str), ("bottom" : Str)] 2 (spF K (rtF ((Tu Int) × Int)) m_point_l)) (D__law_point : Dk P w K mg base "_law_point" [("tops" : Str), ("bottom" : Str)] 3 (spF K (rtF ((Tu Int) × Int)) m__law_point)) (D__law_same : Dk P w K mg base "_law_same" [("told" : Str), ("due" : Str)] 2 (spF K (rtF Bool) m__law_same)) (D__law_raises : Dk P w K mg base "_law_raises" [("word" : Str), ("tops" : Str)] 3 (spF K (rtF Bool) m__law_raises)) (D__law_two : Dk P w K mg base "_law_two" [("one" : Str), ("two" : Str), ("share" : Str), ("ways" : Str), ("cut" : Str)] 5 (spF K (rtF Bool) m__law_two)) (D_point_of : Dk P w K mg base "point_of" [("numbers" : Str)] 3 (spF K (rtF ((Tu Int) × Int)) m_point_of)) (D_joined : Dk P w K mg base "joined" [("first" : Str), ("second" : Str)] 3 (spF K (rtF ((Tu Int) × Int)) m_joined)) (D__law_kinds : Dk P w K mg base "_law_kinds" [("place" : Str), ("ways" : Str), ("size" : Str)] 4 (spF K (rtF Bool) m__law_kinds)) (D_sorted_points : Dk P w K mg base "sorted_points" [("places" : Str)] 1 (spF K (rtO ((Tu Int) × Int)) m_sorted_points)) (D__law_sorted : Dk P w K mg base "_law_sorted" [("places" : Str)] 2 (spF K (rtO ((Tu Int) × Int)) m__law_sorted)) : FnOk P w K mg base (L2.CX P w) 6 f fd [("script" : Str)] (spF K (rtF Bool) m_law) :=
  fn_def (αs := (List Int) × Unit) (G' := nl) (n := 19) Fd sc_law rfl rfl (fun cdv A outer s F H E hr tk =>
    (fss_cons (fs_B (fn_set 1 rfl (fe_fz (fo_cal D__law_draws tk hr (fa_cons (fe_var 0) (fa_cons fe_int fa_nil)))) sc_law.nd))
    (fss_cons (fs_B (fn_set 2 rfl (fe_add fe_int (fe_mod (fe_ixL (fe_var 1) fe_int) fe_int)) sc_law.nd))
    (fss_cons (fs_B (fn_set 3 rfl (fe_eq (fe_mod (fe_ixL (fe_var 1) fe_int) fe_int) fe_int) sc_law.nd))
    (fss_cons (fs_B (fn_set 4 rfl (fe_fz (fo_cat (fo_cal D__law_tops tk hr (fa_cons (fe_var 1) (fa_cons fe_int (fa_cons (fe_var 2) (fa_cons (fe_var 3) fa_nil))))) (fo_lst (fh_cons (fe_add fe_int (fe_mod (fe_ixL (fe_var 1) fe_int) fe_int)) fh_nil)))) sc_law.nd))
    (fss_cons (fs_B (fn_set 5 rfl (fe_fz (fo_cat (fo_cal D__law_tops tk hr (fa_cons (fe_var 1) (fa_cons fe_int (fa_cons (fe_var 2) (fa_cons (fe_var 3) fa_nil))))) (fo_lst (fh_cons (fe_add fe_int (fe_mod (fe_ixL (fe_var 1) fe_int) fe_int)) fh_nil)))) sc_law.nd))
    (fss_cons (fs_B (fn_set 6 rfl (fe_cal D__law_low tk hr (fa_cons (fe_sub (fe_mod (fe_ixL (fe_var 1) fe_int) fe_int) fe_int) (fa_cons (fe_add fe_int (fe_mod (fe_ixL (fe_var 1) fe_int) fe_int)) fa_nil))) sc_law.nd))
    (fss_cons (fs_B (fn_setLcF (vs := [13]) (own := [(("k" : Str), 13)]) 7 rfl rfl (blkOk_by (N := N_law) (sc := defScope (top 37)) (by decide +kernel)) sc_law.nd (fi_range1 (fe_var 2) (T.f_range)) (fgb_name 13 sc_law.nd) fts_nil (fun s H C cl fp => (fe_sub (fe_fdv (fe_mod (fe_ixL (fe_var 1) (fe_add fe_int (fe_var 13))) fe_int) (fe_add fe_int (fe_mod (fe_fdv (fe_ixL (fe_var 1) fe_int) fe_int) fe_int))) (fe_fdv fe_int (fe_add fe_int (fe_mod (fe_fdv (fe_ixL (fe_var 1) fe_int) fe_int) fe_int)))))))
    (fss_cons (fs_n (fn_if (ft_eq (fe_mod (fe_ixL (fe_var 1) fe_int) fe_int) fe_int) (fns_B (fn_set 7 rfl (fe_fz (fo_rep (fo_lst (fh_cons fe_int fh_nil)) (fe_var 2))) sc_law.nd) fns_nil) fns_nil))
    (fss_cons (fs_B (fn_set 8 rfl (fe_mod (fe_ixL (fe_var 1) fe_int) (fe_add (fe_var 2) fe_int)) sc_law.nd))
    (fss_cons (fs_B (fn_set 9 rfl (fe_sub fe_int (fe_mul fe_int (fe_mod (fe_ixL (fe_var 1) fe_int) fe_int))) sc_law.nd))
    (fss_cons (fs_B (fn_setLcF (vs := [18]) (own := [(("top" : Str), 18)]) 10 rfl rfl (blkOk_by (N := N_law) (sc := defScope (top 37)) (by decide +kernel)) sc_law.nd (fi_list (fe_slL (fe_var 4) fp_none (fp_some (fe_neg fe_int)))) (fgb_name 18 sc_law.nd) fts_nil (fun s H C cl fp => (fe_mul (fe_var 9) (fe_var 18)))))
    (fss_cons (fs_if (ft_not (ft_val (fe_cal D__law_same tk hr (fa_cons (fe_cal D_point_l tk hr (fa_cons (fe_var 10) (fa_cons (fe_mul (fe_var 9) (fe_ixL (fe_var 4) (fe_neg fe_int))) fa_nil))) (fa_cons (fe_cal D__law_point tk hr (fa_cons (fe_slL (fe_var 4) fp_none (fp_some (fe_neg fe_int))) (fa_cons (fe_ixL (fe_var 4) (fe_neg fe_int)) fa_nil))) fa_nil))))) (fss_one (fs_ret fe_bl)) fss_nil)
    (fss_cons (fs_if (ft_w (fw_or (ft_ned hr (fe_var 10) (fe_fz (fo_lc (vs := [18]) (own := [(("top" : Str), 18)]) rfl (blkOk_by (N := N_law) (sc := defScope (top 37)) (by decide +kernel)) sc_law.nd (fi_list (fe_slL (fe_var 4) fp_none (fp_some (fe_neg fe_int)))) (fgb_name 18 sc_law.nd) fts_nil (fun s H C cl fp => (fe_mul (fe_var 9) (fe_var 18)))))) (fw_or1 (ft_not (ft_val (fe_cal D__law_raises tk hr (fa_cons fe_str (fa_cons (fe_var 10) fa_nil)))))))) (fss_one (fs_ret fe_bl)) fss_nil)
    (fss_cons (fs_if (ft_w (fw_or (ft_not (ft_val (fe_cal D__law_two tk hr (fa_cons (fe_var 4) (fa_cons (fe_var 5) (fa_cons (fe_var 6) (fa_cons (fe_var 7) (fa_cons (fe_var 8) fa_nil)))))))) (fw_or1 (ft_not (ft_val (fe_cal D__law_two tk hr (fa_cons (fe_var 5) (fa_cons (fe_var 4) (fa_cons (fe_var 6) (fa_cons (fe_var 7) (fa_cons (fe_var 8) fa_nil))))))))))) (fss_one (fs_ret fe_bl)) fss_nil)
    (fss_cons (fs_if (ft_w (fw_or (ft_not (ft_val (fe_cal D__law_same tk hr (fa_cons (fe_cal D_point_of tk hr (fa_cons (fe_fz (fo_nil (α := (Int × Int)))) fa_nil)) (fa_cons (fe_tup2 (fe_tupU fh_nil) fe_int) fa_nil))))) (fw_or1 (ft_not (ft_val (fe_cal D__law_same tk hr (fa_cons (fe_cal D_joined tk hr (fa_cons (fe_tup2 (fe_tupU fh_nil) fe_int) (fa_cons (fe_tup2 (fe_tupU fh_nil) fe_int) fa_nil))) (fa_cons (fe_tup2 (fe_tupU fh_nil) fe_int) fa_nil)))))))) (fss_one (fs_ret fe_bl)) fss_nil)
    (fss_cons (fs_if (ft_not (ft_val (fe_cal D__law_kinds tk hr (fa_cons (fe_cal D__law_point tk hr (fa_cons (fe_slL (fe_var 4) fp_none (fp_some (fe_neg fe_int))) (fa_cons (fe_ixL (fe_var 4) (fe_neg fe_int)) fa_nil))) (fa_cons (fe_var 7) (fa_cons (fe_var 2) fa_nil)))))) (fss_one (fs_ret fe_bl)) fss_nil)
    (fss_cons (fs_B (fn_set 11 rfl (fe_add fe_int (fe_mod (fe_ixL (fe_var 1) fe_int) fe_int)) sc_law.nd))
    (fss_cons (fs_B (fn_setO 12 rfl (fo_nil (α := ((Tu Int) × Int))) sc_law.nd))
    (fss_cons (fs_n (fn_for (passes_of rfl) (fi_range1 (fe_mod (fe_ixL (fe_var 1) fe_int) fe_int) (T.f_range)) (fg_name 13 rfl sc_law.nd) (fns_B (fn_setLcF (vs := [19]) (own := [(("j" : Str), 19)]) 14 rfl rfl (blkOk_by (N := N_law) (sc := defScope (top 37)) (by decide +kernel)) sc_law.nd (fi_range1 (fe_var 11) (T.f_range)) (fgb_name 19 sc_law.nd) fts_nil (fun s H C cl fp => (fe_sub (fe_mod (fe_ixL (fe_var 1) (fe_add (fe_add fe_int (fe_mul fe_int (fe_var 13))) (fe_var 19))) fe_int) fe_int))) (fns_B2 (fn_append 12 (fe_cal D__law_point tk hr (fa_cons (fe_var 14) (fa_cons (fe_add fe_int (fe_mod (fe_ixL (fe_var 1) (fe_add (fe_add fe_int (fe_mul fe_int (fe_var 13))) fe_int)) fe_int)) fa_nil)))) (fns_nilS (G' := (va (List Int) (va (List Int) (va Int (va Bool (va (List Int) (va (List Int) (va (Int × Int) (va (List Int) (va Int (va Int (va (List Int) (va Int (ow ((Tu Int) × Int) (un (un (un (un (un (un (un nl))))))))))))))))))))))))))
    (fss_lend (fss_cons (fs_B (fn_set 15 rfl (fe_fz (fo_list (fe_var 12) (T.f_list))) sc_law.nd))
    (fss_cons (fs_B (fn_set 16 rfl (fe_fz (fo_cal D_sorted_points tk hr (fa_cons (fe_var 12) fa_nil))) sc_law.nd))
    (fss_cons (fs_B (fn_set 17 rfl (fe_fz (fo_cal D__law_sorted tk hr (fa_cons (fe_var 15) fa_nil))) sc_law.nd))
    (fss_cons (fs_if (ft_w (fw_or (ft_ned hr (fe_var 12) (fe_var 15)) (fw_or (ft_not (ft_val (fe_isi (U := "list") (fe_var 16) (T.f_isinstance) T.f_list))) (fw_or1 (ft_ne (fe_len (fe_var 16) (T.f_len)) (fe_len (fe_var 17) (T.f_len))))))) (fss_one (fs_ret fe_bl)) fss_nil)
    (fss_one (fs_ret (fe_eq (fe_len (fe_fz (fo_lc (vs := [13]) (own := [(("k" : Str), 13)]) rfl (blkOk_by (N := N_law) (sc := defScope (top 37)) (by decide +kernel)) sc_law.nd (fi_range1 (fe_len (fe_var 17) (T.f_len)) (T.f_range)) (fgb_name 13 sc_law.nd) (fts_one fun s H C cl fp => (ft_not (ft_val (fe_cal D__law_same takesF hr (fa_cons (fe_ixL (fe_var 16) (fe_var 13)) (fa_cons (fe_ixL (fe_var 17) (fe_var 13)) fa_nil)))))) (fun s H C cl fp => (fe_var 13)))) (T.f_len)) fe_int)))))))))))))))))))))))))))) (fun z => by simp only [bind_ok']; rfl)
end
end LW

/-! CD: the draws. -/
namespace LW
open PySem L2 FL
theorem fm_range {a : Int} {m : Int} (h : 0 < m) : 0 ≤ a.fmod m ∧ a.fmod m < m := ⟨Int.fmod_nonneg_of_pos _ h, Int.fmod_lt_of_pos _ h⟩
def Dr (l : List Int) : Prop := ∀ x ∈ l, 0 ≤ x ∧ x < 1000
theorem Dr.snoc {l : List Int} {a : Int} (h : Dr l) (h2 : 0 ≤ a ∧ a < 1000) : Dr (l ++ [a]) := fun x m => by
  rcases List.mem_append.mp m with m | m
  · exact h x m
  · rw [List.mem_singleton.mp m]; exact h2
theorem hlen {α : Type} [Rp α] (l : List α) : HasLen.len l = l.length := rfl
theorem draws_ok {ns : List Int} {c : Int} (hn : ns.length ≤ 63) (h0 : 0 ≤ c) (h1 : c ≤ 1000) : Ok (m__law_draws (ns, c, ())) fun l => (l.length : Int) = c ∧ Dr l := by
  unfold m__law_draws
  rw [ok_bind]
  refine ok_fold (fun g => g.1 = ns ∧ g.2.1 = c ∧ (g.2.2.1.length : Int) ≤ c ∧ Dr g.2.2.1) ⟨by first | rfl | trivial, by first | rfl | trivial, by simpa using h0, fun x m => by cases m⟩ ?_ ?_
  · rintro ⟨a1, a2, a3, _⟩ a _ ⟨b1, b2, b3, b4⟩
    simp only at b1 b2 b3 b4
    subst b1 b2
    simp only [ok_bind, ok_ok, ok_ite, hlen]
    rw [ok_pow (by decide)]
    refine ⟨fun _ => ?_, fun _ => ⟨fun hl => ?_, fun _ => ⟨by first | rfl | trivial, by first | rfl | trivial, b3, b4⟩⟩⟩
    · rw [ok_rng (by decide)]
      refine ok_fold (fun g => g.1 = a1 ∧ g.2.1 = a2 ∧ (g.2.2.1.length : Int) ≤ a2 ∧ Dr g.2.2.1) ⟨by first | rfl | trivial, by first | rfl | trivial, b3, b4⟩ ?_ fun g h => h
      rintro ⟨c1, c2, c3, c4, c5, _⟩ k _ ⟨d1, d2, d3, d4⟩
      simp only at d1 d2 d3 d4
      subst d1 d2
      simp only [ok_bind, ok_ok, ok_ite, hlen]

      refine ⟨fun _ => ⟨fun hl => ?_, fun _ => ⟨by first | rfl | trivial, by first | rfl | trivial, d3, d4⟩⟩, fun _ => ⟨(fun z => absurd z Bool.false_ne_true), fun _ => ⟨by first | rfl | trivial, by first | rfl | trivial, d3, d4⟩⟩⟩
      have hl := of_decide_eq_true hl
      rw [ok_mod (by decide), ok_app (by omega), ok_fdv (by decide) (by decide)]
      exact ⟨by first | rfl | trivial, by first | rfl | trivial, by simp only [len_app]; omega, d4.snoc (fm_range (by decide))⟩
    · have hl := of_decide_eq_true hl
      rw [ok_mulr (by decide), ok_mod (by decide), ok_mulr (by decide), ok_mod (by decide), ok_mod (by decide), ok_app (by omega)]
      exact ⟨by first | rfl | trivial, by first | rfl | trivial, by simp only [len_app]; omega, b4.snoc (fm_range (by decide))⟩
  · rintro ⟨a1, a2, a3, _⟩ ⟨b1, b2, b3, b4⟩
    simp only at b1 b2 b3 b4
    subst b1 b2
    simp only []
    rw [ok_bind]
    refine ok_fold (fun g => g.1 = a1 ∧ g.2.1 = a2 ∧ g.2.2.1 = a3) ⟨rfl, rfl, rfl⟩ ?_ ?_
    · rintro ⟨c1, c2, c3, c4, _⟩ a _ ⟨d1, d2, d3⟩
      simp only at d1 d2 d3
      subst d1 d2 d3
      simp only [ok_bind, ok_ok]
      rw [ok_mulr (by decide), ok_mod (by decide)]
      exact ⟨by trivial, by trivial, by trivial⟩
    · rintro ⟨c1, c2, c3, c4, _⟩ ⟨d1, d2, d3⟩
      simp only at d1 d2 d3
      subst d1 d2 d3
      simp only [ok_bind, ok_ok]
      rw [ok_rng (by omega)]
      refine ok_foldI (fun i g => g.1 = c1 ∧ g.2.1 = c2 ∧ (g.2.2.1.length : Int) ≤ c2 ∧ ((i : Int) ≤ c2 → (i : Int) ≤ g.2.2.1.length) ∧ Dr g.2.2.1) ⟨by first | rfl | trivial, by first | rfl | trivial, b3, fun _ => by simp, b4⟩ ?_ ?_
      · rintro i ⟨e1, e2, e3, e4, _⟩ k hk ⟨f1, f2, f3, f4, f5⟩
        simp only at f1 f2 f3 f4 f5
        subst f1 f2
        simp only [ok_bind, ok_ok, ok_ite, hlen]
        refine ⟨fun hl => ?_, fun hl => ⟨by first | rfl | trivial, by first | rfl | trivial, f3, fun z => ?_, f5⟩⟩
        · have hl := of_decide_eq_true hl
          rw [ok_mulr (by decide), ok_mod (by decide), ok_fdv (by decide) (by decide), ok_mod (by decide), ok_app (by omega)]
          exact ⟨by first | rfl | trivial, by first | rfl | trivial, by simp only [len_app]; omega, fun z => by simp only [len_app]; omega, f5.snoc (fm_range (by decide))⟩
        · have hl := of_decide_eq_false hl
          omega
      · rintro ⟨e1, e2, e3, e4, _⟩ ⟨f1, f2, f3, f4, f5⟩
        simp only at f1 f2 f3 f4 f5
        subst f1 f2
        rw [rangeL_len] at f4
        exact ⟨by have := f4 (by omega); show ((e3.length : Int)) = _; omega, f5⟩
/-- the draw at a place -/
def dv (l : List Int) (i : Int) : Int := l.getD i.toNat 0
theorem dv_range {l : List Int} (h : Dr l) (i : Int) : 0 ≤ dv l i ∧ dv l i < 1000 := by
  unfold dv
  rw [List.getD_eq_getElem?_getD]
  cases e : l[i.toNat]? with
  | none => exact ⟨Int.le_refl 0, by decide⟩
  | some x => exact h x (List.mem_of_getElem? e)
theorem getX_dv {l : List Int} {i : Int} (h0 : 0 ≤ i) (h1 : i < (l.length : Int)) : getX l i = .ok (dv l i) := by
  have e : l[i.toNat]? = some l[i.toNat] := List.getElem?_eq_getElem (by omega)
  rw [getX_b h0 e]
  unfold dv
  rw [List.getD_eq_getElem?_getD, e]
  rfl
theorem mod_range {a m : Int} (h : 0 < m) : 0 ≤ a.fmod m ∧ a.fmod m < m := fm_range h
end LW

/-! CG: the law's gcd. -/
namespace LW
open PySem L2 FL
theorem gcd_loop {f : (Int × (Int × Unit)) → Int → Xc (Lp (Int × (Int × Unit)) Int)} (hf : ∀ x y k, f (x, (y, ())) k = if decide (y = 0) = true then Xc.ok (Lp.rt x) else Xc.bind (modX x y) fun t => Xc.ok (Lp.ct (y, (t, ())))) :
    ∀ (n : Nat) (l : List Int) (x y : Nat), 2 * n + 2 ≤ l.length → y < 2 ^ n → forX f l ((x : Int), ((y : Int), ())) = .ok (.inr ((Nat.gcd x y : Nat) : Int)) := by
  have step0 : ∀ (a : Int) (l : List Int) (x : Nat), forX f (a :: l) ((x : Int), ((0 : Int), ())) = .ok (.inr (x : Int)) := fun a l x => by
    rw [forX_cons, hf]
    simp [bind_ok]
  have step1 : ∀ (a : Int) (l : List Int) (x y : Nat), y ≠ 0 → forX f (a :: l) ((x : Int), ((y : Int), ())) = forX f l ((y : Int), (((x % y : Nat) : Int), ())) := fun a l x y h => by
    rw [forX_cons, hf]
    have h2 : (y : Int) ≠ 0 := by omega
    rw [if_neg (by simpa using h), modX_b h2]
    simp only [bind_ok]
    rw [Int.fmod_eq_emod_of_nonneg _ (by omega)]
    rfl
  intro n
  induction n with
  | zero =>
    intro l x y hl hy
    have : y = 0 := by simpa using hy
    subst this
    cases l with
    | nil => simp at hl
    | cons a l => simpa using step0 a l x
  | succ n ih =>
    intro l x y hl hy
    match l, hl with
    | a :: b :: l, hl =>
      by_cases h : y = 0
      · subst h; simpa using step0 a (b :: l) x
      · rw [step1 _ _ _ _ h]
        by_cases h2 : x % y = 0
        · rw [h2]
          have := step0 b l y
          rw [show ((0 : Nat) : Int) = 0 from rfl, this]
          rw [Nat.gcd_comm, Nat.gcd_rec, h2, Nat.gcd_zero_left]
        · rw [step1 _ _ _ _ h2]
          have hr : x % y < y := Nat.mod_lt _ (by omega)
          have hs : 2 * (y % (x % y)) < 2 ^ (n + 1) := by
            have h3 : y % (x % y) < x % y := Nat.mod_lt _ (by omega)
            have h4 : y % (x % y) ≤ y - (x % y) := by
              have e := Nat.div_add_mod y (x % y)
              have : 1 ≤ y / (x % y) := Nat.div_pos (by omega) (by omega)
              have : (x % y) * 1 ≤ (x % y) * (y / (x % y)) := Nat.mul_le_mul_left _ this
              omega
            omega
          rw [ih l (x % y) (y % (x % y)) (by simp at hl; omega) (by rw [Nat.pow_succ] at hs; omega)]
          congr 3
          rw [Nat.gcd_comm x y, Nat.gcd_rec y x, Nat.gcd_rec (x % y) y, Nat.gcd_comm]
theorem absI_eq (i : Int) : absI i = (i.natAbs : Int) := by
  unfold absI
  split <;> omega
theorem bits_lt (n : Nat) : n < 2 ^ Builtin.Int.intBits (n : Int) := by
  unfold Builtin.Int.intBits
  by_cases h : n = 0
  · subst h; decide
  · have : ((n : Int) == 0) = false := by simpa using h
    rw [this]
    simp only [Bool.false_eq_true, if_false]
    exact Nat.lt_log2_self
theorem bits_le {n b : Nat} (h : n < 2 ^ b) : Builtin.Int.intBits (n : Int) ≤ b := by
  unfold Builtin.Int.intBits
  by_cases h0 : n = 0
  · subst h0; simp
  · have : ((n : Int) == 0) = false := by simpa using h0
    rw [this]
    simp only [Bool.false_eq_true, if_false]
    have := (Nat.log2_lt h0).2 h
    exact this
theorem gcd_ok' {a b : Int} (h1 : Builtin.Int.intBits (b.natAbs : Int) ≤ 9000) : m__law_gcd (a, b, ()) = .ok (gcdI a b) := by
  have e1 : mulX (2 : Int) ((Builtin.Int.intBits (absI b) : Nat) : Int) = .ok (2 * ((Builtin.Int.intBits (b.natAbs : Int) : Nat) : Int)) := by rw [absI_eq]; exact mulX_l (by decide)
  have e2 : rngX 0 (2 * ((Builtin.Int.intBits (b.natAbs : Int) : Nat) : Int) + 2) = .ok (rangeL 0 (2 * ((Builtin.Int.intBits (b.natAbs : Int) : Nat) : Int) + 2)) := rngX_b (by decide) (by omega) (by decide) (by omega)
  have e3 := gcd_loop (f := fun (g408 : (Int × (Int × Unit))) a411 => (if (decide (g408.2.1 = (0 : Int))) = true then (Xc.ok (Lp.rt g408.1)) else (Xc.bind (modX g408.1 g408.2.1) fun t413 => (Xc.ok (Lp.ct (g408.2.1, (t413, ()))))))) (fun x y k => Eq.refl _) (Builtin.Int.intBits (b.natAbs : Int)) (rangeL 0 (2 * ((Builtin.Int.intBits (b.natAbs : Int) : Nat) : Int) + 2)) a.natAbs b.natAbs (by rw [rangeL_len]; omega) (bits_lt _)
  unfold m__law_gcd
  show (Xc.bind (Xc.bind (Xc.bind (mulX (2 : Int) ((Builtin.Int.intBits (absI b) : Nat) : Int)) _) _) _) = _
  rw [e1, bind_ok, bind_ok, e2, bind_ok]
  show forK (forX _ _ (absI a, (absI b, ()))) id _ = _
  rw [absI_eq, absI_eq, e3, forK_inr, gcdI]
  exact Eq.refl _
theorem gcd_ok {a b : Int} (hb : b.natAbs < 2 ^ 9000) : m__law_gcd (a, b, ()) = .ok (gcdI a b) := gcd_ok' (bits_le hb)
end LW

/-! CP: points: divisors, lowest terms. -/
namespace LW
open PySem L2 FL
theorem gcdI_nat (n : Nat) (a : Int) : gcdI (n : Int) a = ((Nat.gcd n a.natAbs : Nat) : Int) := by
  unfold gcdI
  rw [Int.natAbs_natCast]
theorem fold_gcd {χ : Type} {f : (χ × (Int × (Int × Unit))) → Int → Xc (χ × (Int × (Int × Unit)))} {x : χ} {s : Int} : ∀ (l : List Int) (n : Nat), (∀ c a, a ∈ l → f (x, (s, (c, ()))) a = .ok (x, (s, (gcdI c a, ())))) →
    foldX f l (x, (s, ((n : Int), ()))) = .ok (x, (s, (((l.foldl (fun g a => Nat.gcd g a.natAbs) n : Nat) : Int), ())))
  | [], n, _ => rfl
  | a :: l, n, hf => by
    show (f _ a).bind _ = _
    rw [hf _ _ (by simp), bind_ok', gcdI_nat]
    exact fold_gcd l _ fun c a m => hf c a (by simp [m])
theorem common_l (l : List Int) (s : Int) : m_common_divisor_l (l, (s, ())) = .ok ((gcdL l s : Nat) : Int) := by
  unfold m_common_divisor_l
  dsimp only
  rw [absI_eq, fold_gcd (χ := List Int) l s.natAbs (fun c a _ => Eq.refl _), bind_ok']
  rfl
theorem common_u (l : Tu Int) (s : Int) : m_common_divisor_u (l, (s, ())) = .ok ((gcdL (Tu.l l) s : Nat) : Int) := by
  unfold m_common_divisor_u
  dsimp only
  rw [absI_eq, fold_gcd (χ := Tu Int) (Tu.l l) s.natAbs (fun c a _ => Eq.refl _), bind_ok']
  rfl
theorem comp_fdiv {n : Nat} {c : Int} (hn : n ≤ 8999) (hb : Bd n c) (hc : c ≠ 0) (l : List Int) {f : Int → Xc Int} {t : Int → Xc Bool} (ht : ∀ a, t a = .ok true) (hf : ∀ a, f a = fdvX a c) : compX t f l = .ok (l.map fun t => t.fdiv c) :=
  compX_map fun a _ => ⟨ht a, by rw [hf]; exact fdvX_bd hn hc⟩
theorem bd_sgd {n : Nat} {l : List Int} {b : Int} (h : b ≠ 0) (hb : Bd n b) : Bd n (sgd l b) := ⟨by
  rw [sgd_abs]
  exact Nat.lt_of_le_of_lt (gcdL_le (l := l) h).1 hb.lt⟩
theorem point_tail {χ : Type} {x : χ} {n : Nat} {l : List Int} {b : Int} (hn : n ≤ 8999) (h : b ≠ 0) (hb : Bd n b) {k : (χ × (Int × (Int × Unit))) → Xc (Tu Int × Int)}
    (hk : ∀ c : Int, Bd n c → c ≠ 0 → k (x, (b, (c, ()))) = .ok (tu (l.map fun t => t.fdiv c), b.fdiv c)) :
    (Xc.bind (if (decide (b < (0 : Int))) = true then (Xc.ok (x, (b, ((-((gcdL l b : Nat) : Int)), ())))) else (Xc.ok (x, (b, (((gcdL l b : Nat) : Int), ()))))) k) = .ok (pt l b) := by
  have h1 := bd_sgd (l := l) h hb
  have h2 := sgd_ne (l := l) h
  have h3 := hk _ h1 h2
  unfold pt
  unfold sgd at *
  by_cases q : b < 0
  · rw [if_pos (by simpa using q), bind_ok']
    rw [if_pos q] at *
    exact h3
  · rw [if_neg (by simpa using q), bind_ok']
    rw [if_neg q] at *
    exact h3
theorem point_l {n : Nat} {l : List Int} {b : Int} [hb : Bd n b] (hn : n ≤ 8999) (h : b ≠ 0) : m_point_l (l, (b, ())) = .ok (pt l b) := by
  unfold m_point_l
  rw [if_neg (by simpa using h)]
  dsimp only
  rw [common_l, bind_ok']
  refine point_tail hn h hb fun c hc h0 => ?_
  dsimp only
  rw [comp_fdiv hn hc h0 l (fun _ => rfl) (fun _ => rfl), bind_ok', bind_ok', fdvX_bd hn h0, bind_ok']
theorem point_u {n : Nat} {l : Tu Int} {b : Int} [hb : Bd n b] (hn : n ≤ 8999) (h : b ≠ 0) : m_point_u (l, (b, ())) = .ok (pt (Tu.l l) b) := by
  unfold m_point_u
  rw [if_neg (by simpa using h)]
  dsimp only
  rw [common_u, bind_ok']
  refine point_tail hn h hb fun c hc h0 => ?_
  dsimp only
  rw [comp_fdiv hn hc h0 (Tu.l l) (fun _ => rfl) (fun _ => rfl), bind_ok', bind_ok', fdvX_bd hn h0, bind_ok']
theorem point_er (l : List Int) : m_point_l (l, (0, ())) = .er "BadNumber" [] := rfl
end LW

/-! CK: is_point, is_direction. -/
namespace LW
open PySem L2 FL
theorem hlenU' {α : Type} [Rp α] (t : Tu α) : HasLen.len t = (Tu.l t).length := rfl
theorem areI_go {γ : Type} {f : γ → PyData → Xc (Lp γ Bool)} {g : γ} (hf : ∀ d, f g d = (((isiX (HasTy.ty d) "int").bind fun t => (Xc.ok (!t))).bind (fun t => if t = true then Xc.ok true else isiX (HasTy.ty d) "bool")).bind fun t => if t = true then Xc.ok (Lp.rt false) else Xc.ok (Lp.ct g)) :
    ∀ (l : List Int) (r : List PyData), forX f (l.map ToD.d ++ r) g = forX f r g
  | [], r => rfl
  | a :: l, r => by
    show forX f (PyData.int a :: (l.map ToD.d ++ r)) g = _
    rw [forX_cons, hf, yes_int, bind_ok', if_neg Bool.false_ne_true, bind_ok']
    exact areI_go hf l r
theorem areI_yes (l : List Int) (h : l.length ≤ 1000) : m__are_integers (.tuple (l.map ToD.d), ()) = .ok true := by
  have at_ : asT (.tuple (l.map ToD.d)) = .ok (tu (l.map ToD.d)) := asT_ok (by rw [List.length_map]; exact h) (shaped_ints l)
  unfold m__are_integers
  simp only [isD, show tyD (.tuple (l.map ToD.d)) = "tuple" from rfl, k_tt, bind_ok', Bool.not_true, Bool.false_eq_true, if_false, at_]
  show forK (forX _ (l.map ToD.d) _) _ _ = _
  rw [← List.append_nil (l.map ToD.d), areI_go (fun d => Eq.refl _) l []]
  exact forK_inl
theorem areI_no1 {d : PyData} (h : notTup d) : m__are_integers (d, ()) = .ok false := by
  unfold m__are_integers
  dsimp only
  rw [not_tup h, bind_ok', bind_ok']
  rfl
theorem areI_no2 (l : List Int) {x : PyData} {r : List PyData} (hx : notInt x) (hn : l.length + r.length < 1000) (hs : (x :: r).all SeqAt.shaped = true) : m__are_integers (.tuple (l.map ToD.d ++ x :: r), ()) = .ok false := by
  have at_ : asT (.tuple (l.map ToD.d ++ x :: r)) = .ok (tu (l.map ToD.d ++ x :: r)) := asT_ok (by simp only [List.length_append, List.length_map, List.length_cons]; omega) (by rw [List.all_append, shaped_ints, hs]; rfl)
  unfold m__are_integers
  simp only [isD, show tyD (.tuple (l.map ToD.d ++ x :: r)) = "tuple" from rfl, k_tt, bind_ok', Bool.not_true, Bool.false_eq_true, if_false, at_]
  show forK (forX _ (l.map ToD.d ++ x :: r) _) _ _ = _
  rw [areI_go (fun d => Eq.refl _) l (x :: r), forX_cons]
  dsimp only
  rw [← isD, ← isD, not_int hx]
  rfl
theorem asTI_ok (l : List Int) (h : l.length ≤ 1000) : asTI (.tuple (l.map ToD.d)) = .ok (tu l) := by
  have := size_ge
  unfold asTI
  dsimp only
  rw [if_pos (by rw [List.length_map]; omega), intsD_map]
theorem dat_tup1 (y : PyData) (h : PyData.canLay0 y = true) (h2 : PyData.depth y ≤ 63) : datX (tu [y]) = .ok (.tuple [y]) := by
  unfold datX
  have : SeqAt.shaped (ToD.d (tu [y])) = true := by
    show SeqAt.shaped (.tuple [y]) = true
    unfold SeqAt.shaped
    simp only [PyData.canLay0, PyData.canLayAll0, PyData.depth, PyData.depthAll, Bool.and_eq_true, decide_eq_true_eq, h]
    exact ⟨⟨trivial, trivial⟩, decide_eq_true (by omega)⟩
  rw [if_pos this]
  rfl
theorem szX_one {α : Type} {a : α} : szX [a] = .ok [a] := szX_b (show 1 ≤ 1000000 by decide)
section
variable {x y : PyData} {n : Int}
theorem isp_no {d : PyData} (h : notTup d) : m_is_point (d, (n, ())) = .ok false := by
  unfold m_is_point
  dsimp only
  rw [not_tup h, bind_ok', bind_ok']
  rfl
theorem isp_len {ds : List PyData} (h : ds.length ≤ 1000) (s : ds.all SeqAt.shaped = true) (h2 : ds.length ≠ 2) : m_is_point (.tuple ds, (n, ())) = .ok false := by
  have at_ := asT_ok h s
  have e : decide ((((Tu.l (tu ds)).length : Nat) : Int) = 2) = false := decide_eq_false (by show ¬ ((ds.length : Int) = 2); omega)
  unfold m_is_point
  simp only [isD, show tyD (.tuple ds) = "tuple" from rfl, k_tt, bind_ok', Bool.not_true, Bool.false_eq_true, if_false, at_, hlenU', e, Bool.not_false, if_true]
theorem isp_pair (hx : SeqAt.shaped x = true) (hy : PyData.canLay0 y = true) (hd : PyData.depth y ≤ 63) : ∃ k, m_is_point (.tuple [x, y], (n, ())) = (m__are_integers (x, ())).bind k ∧ k false = .ok false ∧
    (∀ (l : List Int) (b : Int), l.length ≤ 1000 → x = .tuple (l.map ToD.d) → y = .int b → k true = .ok (decide ((l.length : Int) = n) && (decide (1 ≤ b) && decide (gcdL l b = 1)))) ∧ (notInt y → k true = .ok false) := by
  have sy : SeqAt.shaped y = true := by
    unfold SeqAt.shaped
    rw [hy, decide_eq_true (by omega)]; rfl
  have at_ : asT (.tuple [x, y]) = .ok (tu [x, y]) := asT_ok (by show 2 ≤ 1000; decide) (by simp only [List.all_cons, hx, sy, List.all_nil, Bool.and_self])
  have e : decide ((((Tu.l (tu [x, y])).length : Nat) : Int) = 2) = true := rfl
  have g0 : getX (Tu.l (tu [x, y])) 0 = .ok x := getX_b (by decide) rfl
  have g1 : getX (Tu.l (tu [x, y])) 1 = .ok y := getX_b (by decide) rfl
  unfold m_is_point
  simp only [isD, show tyD (.tuple [x, y]) = "tuple" from rfl, k_tt, bind_ok', Bool.not_true, Bool.false_eq_true, if_false, at_, hlenU', e, Bool.not_false, g0, g1, szX_one, dat_tup1 y hy hd, bind_assoc]
  refine ⟨_, rfl, ?_, ?_, ?_⟩
  · rfl
  · rintro l b hl rfl rfl
    have h1 := areI_yes [b] (show 1 ≤ 1000 by decide)
    rw [show ([b].map ToD.d : List PyData) = [.int b] from rfl] at h1
    simp only [bind_ok', Bool.not_true, Bool.false_eq_true, if_false, h1, asTI_ok l hl, asI_ok, asT_ok (l := l.map ToD.d) (by rw [List.length_map]; exact hl) (shaped_ints l), common_u, hlenU']
    rw [show (Tu.l (tu (l.map ToD.d : List PyData))).length = l.length from List.length_map _, show Tu.l (tu l) = l from rfl]
    have e2 : decide (((gcdL l b : Nat) : Int) = 1) = decide (gcdL l b = 1) := by
      by_cases q : gcdL l b = 1
      · rw [q]; rfl
      · rw [decide_eq_false q, decide_eq_false (by omega)]
    rw [e2]
    cases decide ((l.length : Int) = n) <;> cases decide (1 ≤ b) <;> rfl
  · intro h
    have h1 := areI_no2 [] (r := []) h (by decide) (by simp only [List.all_cons, sy, List.all_nil, Bool.and_self])
    rw [show ([] : List Int).map ToD.d ++ [y] = [y] from rfl] at h1
    simp only [bind_ok', Bool.not_true, Bool.false_eq_true, if_false, h1, Bool.not_false, if_true]
theorem isp_yes (l : List Int) (b : Int) (h : l.length ≤ 1000) : m_is_point (.tuple [.tuple (l.map ToD.d), .int b], (n, ())) = .ok (decide ((l.length : Int) = n) && (decide (1 ≤ b) && decide (gcdL l b = 1))) := by
  have s : SeqAt.shaped (.tuple (l.map ToD.d)) = true := shaped_of (α := Tu Int) (by decide) (tu l)
  obtain ⟨k, e, _, h2, _⟩ := isp_pair (n := n) s (y := .int b) rfl (show 0 ≤ 63 by decide)
  rw [e, areI_yes l h, bind_ok', h2 l b h rfl rfl]
theorem isp_no1 {y : PyData} (hx : SeqAt.shaped x = true) (h : m__are_integers (x, ()) = .ok false) (hy : PyData.canLay0 y = true) (hd : PyData.depth y ≤ 63) : m_is_point (.tuple [x, y], (n, ())) = .ok false := by
  obtain ⟨k, e, h1, _, _⟩ := isp_pair (n := n) hx hy hd
  rw [e, h, bind_ok', h1]
theorem isp_no2 {l : List Int} {y : PyData} (h : l.length ≤ 1000) (hy : PyData.canLay0 y = true) (hd : PyData.depth y ≤ 63) (hn : notInt y) : m_is_point (.tuple [.tuple (l.map ToD.d), y], (n, ())) = .ok false := by
  have s : SeqAt.shaped (.tuple (l.map ToD.d)) = true := shaped_of (α := Tu Int) (by decide) (tu l)
  obtain ⟨k, e, _, _, h3⟩ := isp_pair (n := n) s hy hd
  rw [e, areI_yes l h, bind_ok', h3 hn]
theorem isd_no {d : PyData} (h : notTup d) : m_is_direction (d, (n, ())) = .ok false := by
  unfold m_is_direction
  dsimp only
  rw [areI_no1 h, bind_ok', if_neg Bool.false_ne_true]
theorem isd_no2 (l : List Int) {x : PyData} {r : List PyData} (hx : notInt x) (hn : l.length + r.length < 1000) (hs : (x :: r).all SeqAt.shaped = true) : m_is_direction (.tuple (l.map ToD.d ++ x :: r), (n, ())) = .ok false := by
  unfold m_is_direction
  dsimp only
  rw [areI_no2 l hx hn hs, bind_ok', if_neg Bool.false_ne_true]
theorem isd_yes (l : List Int) (h : l.length ≤ 1000) : m_is_direction (.tuple (l.map ToD.d), (n, ())) = .ok (decide ((l.length : Int) = n) && decide (gcdL l 0 = 1)) := by
  unfold m_is_direction
  simp only [areI_yes l h, bind_ok', if_true, asTI_ok l h, asT_ok (l := l.map ToD.d) (by rw [List.length_map]; exact h) (shaped_ints l), common_u, hlenU']
  rw [show (Tu.l (tu (l.map ToD.d : List PyData))).length = l.length from List.length_map _, show Tu.l (tu l) = l from rfl]
  have e2 : decide (((gcdL l 0 : Nat) : Int) = 1) = decide (gcdL l 0 = 1) := by
    by_cases q : gcdL l 0 = 1
    · rw [q]; rfl
    · rw [decide_eq_false q, decide_eq_false (by omega)]
  rw [e2]
  cases decide ((l.length : Int) = n) <;> rfl
end
end LW

/-! CS: points in order. -/
namespace LW
open PySem L2 FL
abbrev P2 := Tu Int × Int
def key (L : Int) (p : P2) : List Int := (Tu.l p.1).map (· * (L.fdiv p.2))
/-- points of lowest terms whose bottoms divide L -/
structure KL (L : Int) (p : P2) : Prop where
  low : Low p
  dv : p.2 ∣ L
theorem key_mul {L : Int} {p : P2} (h : KL L p) : (key L p).map (· * p.2) = (Tu.l p.1).map (· * L) := by
  unfold key
  rw [List.map_map]
  refine List.map_congr_left fun x _ => ?_
  show x * L.fdiv p.2 * p.2 = x * L
  have := h.low.pos
  obtain ⟨z, hz⟩ := h.dv
  rw [hz, Int.mul_fdiv_cancel_left _ (by omega), Int.mul_assoc, Int.mul_comm z]
theorem key_cross {L : Int} {p q : P2} (hp : KL L p) : (key L p).map (· * (p.2 * q.2)) = ((Tu.l p.1).map (· * q.2)).map (· * L) := by
  have h := congrArg (List.map (· * q.2)) (key_mul hp)
  rw [List.map_map, List.map_map] at h
  rw [List.map_map]
  refine Eq.trans (List.map_congr_left fun x _ => ?_) (h.trans (List.map_congr_left fun x _ => ?_))
  · show x * (p.2 * q.2) = x * p.2 * q.2; rw [Int.mul_assoc]
  · show x * L * q.2 = x * q.2 * L; rw [Int.mul_right_comm]
theorem key_lt {L : Int} {p q : P2} (hL : 0 < L) (hp : KL L p) (hq : KL L q) : key L p < key L q ↔ (Tu.l p.1).map (· * q.2) < (Tu.l q.1).map (· * p.2) := by
  have h1 := hp.low.pos
  have h2 := hq.low.pos
  have c : 0 < p.2 * q.2 := Int.mul_pos (by omega) (by omega)
  rw [← lt_scale c, key_cross hp, Int.mul_comm p.2 q.2, key_cross hq, lt_scale hL]
theorem key_inj {L : Int} {p q : P2} (hL : 0 < L) (hp : KL L p) (hq : KL L q) (h : key L p = key L q) : p = q := by
  have h1 := hp.low.pos
  have h2 := hq.low.pos
  have e := congrArg (List.map (· * (p.2 * q.2))) h
  rw [key_cross hp, Int.mul_comm p.2 q.2, key_cross hq] at e
  have e2 := (List.map_inj_right (f := fun x : Int => x * L) fun a b q => Int.eq_of_mul_eq_mul_right (show L ≠ 0 by omega) q).mp e
  obtain ⟨e3, e4⟩ := cross_pt h1 h2 hp.low.cop hq.low.cop e2
  exact Prod.ext e3 e4
theorem ltL_irrefl (a : List Int) : ¬ a < a := List.lt_irrefl a
theorem ltL_trans {a b c : List Int} (h : a < b) (h2 : b < c) : a < c := List.lt_trans h h2
theorem ltL_total {a b : List Int} (h : ¬ a < b) (ne : a ≠ b) : b < a := by
  by_cases q : b < a
  · exact q
  · exact absurd (List.le_antisymm (List.not_lt.mp q) (List.not_lt.mp h)) ne
/-- the program's sorting -/
theorem sorted_ok {n : Nat} {ps : List P2} {D : Nat} (hD : D < 2 ^ 64) (h0 : 0 < D) (hp : ∀ p ∈ ps, Low p ∧ p.2.natAbs ∣ D ∧ BdL n (Tu.l p.1)) (hn : n ≤ 900000) (hl : ps.length ≤ 1000) :
    ∃ (L : Int) (r : List P2), 0 < L ∧ (∀ p ∈ ps, KL L p) ∧ m_sorted_points (ps, ()) = .ok r ∧ (r.Pairwise fun a b => key L a < key L b) ∧ ∀ x, x ∈ r ↔ x ∈ ps := by
  unfold m_sorted_points
  dsimp only
  have lcmg : ∀ (l : List P2) (k : Nat), k ∣ D → (∀ a ∈ l, a.2.natAbs ∣ D) → ∃ m : Nat, foldX (fun (g79 : ((List ((Tu Int) × Int)) × (Int × Unit))) a80 => (Xc.bind (lcmX g79.2.1 a80.2) fun t81 => (Xc.ok (g79.1, (t81, ()))))) l (ps, ((k : Int), ())) = .ok (ps, ((m : Int), ())) ∧ m ∣ D ∧ k ∣ m ∧ ∀ a ∈ l, a.2.natAbs ∣ m := by
    intro l
    induction l with
    | nil => intro k hk _; exact ⟨k, rfl, hk, Nat.dvd_refl _, fun a m => by cases m⟩
    | cons a l ih =>
      intro k hk hl
      have d := hl a (by simp)
      have e : lcmX (k : Int) a.2 = .ok ((Nat.lcm k a.2.natAbs : Nat) : Int) := by
        unfold lcmX
        rw [if_pos ⟨by have := Nat.le_of_dvd h0 hk; omega, by have := Nat.le_of_dvd h0 d; omega⟩, Int.natAbs_natCast]
      obtain ⟨m, e1, e2, e3, e4⟩ := ih (Nat.lcm k a.2.natAbs) (Nat.lcm_dvd hk d) fun b m => hl b (by simp [m])
      refine ⟨m, ?_, e2, Nat.dvd_trans (Nat.dvd_lcm_left _ _) e3, fun b mb => ?_⟩
      · show (Xc.bind _ _).bind _ = _
        dsimp only
        rw [e, bind_ok', bind_ok']
        exact e1
      · rcases List.mem_cons.mp mb with q | q
        · subst q; exact Nat.dvd_trans (Nat.dvd_lcm_right _ _) e3
        · exact e4 b q
  obtain ⟨m, e1, e2, _, e4⟩ := lcmg ps 1 (Nat.one_dvd _) fun p q => (hp p q).2.1
  have m0 : 0 < m := Nat.pos_of_dvd_of_pos e2 h0
  have ml : m < 2 ^ 64 := by have := Nat.le_of_dvd h0 e2; omega
  have bm : Bd 64 (m : Int) := ⟨by rw [Int.natAbs_natCast]; exact ml⟩
  have hk : ∀ p ∈ ps, KL (m : Int) p := fun p q => ⟨(hp p q).1, Int.ofNat_dvd_right.mpr (e4 p q)⟩
  have e1' : foldX (fun (g79 : ((List ((Tu Int) × Int)) × (Int × Unit))) a80 => (Xc.bind (lcmX g79.2.1 a80.2) fun t81 => (Xc.ok (g79.1, (t81, ()))))) ps (ps, ((1 : Int), ())) = .ok (ps, ((m : Int), ())) := e1
  rw [e1', bind_ok']
  dsimp only
  rw [comp_list (h := fun p : P2 => ((tu (key (m : Int) p), p) : Tu Int × P2)) (fun _ => rfl) (fun p q => by
    have pp := (hp p q).1.pos
    have bp : Bd 64 p.2 := ⟨by have := Nat.le_of_dvd h0 (hp p q).2.1; omega⟩
    rw [comp_list (h := fun x => x * ((m : Int).fdiv p.2)) (fun _ => rfl) (fun x mx => by
      have bx := (hp p q).2.2.all x mx
      rw [fdvX_bd (n := 64) (by decide) (by omega), bind_ok']
      exact mulX_bd (n := 64) (by omega)), bind_ok', bind_ok']
    rfl), bind_ok']
  obtain ⟨r, r1, r2, r3⟩ := sortX_ok (α := Tu Int × P2) (by decide) (l := ps.map fun p => ((tu (key (m : Int) p), p) : Tu Int × P2)) (.inl fun a _ => rfl)
  rw [r1, bind_ok']
  have mem : ∀ a ∈ r, a.2 ∈ ps ∧ a.1 = tu (key (m : Int) a.2) := fun a q => by
    obtain ⟨p, mp, rfl⟩ := List.mem_map.mp (r2.mem_iff.mp q)
    exact ⟨mp, rfl⟩
  have ord : r.Pairwise fun a b => ¬ key (m : Int) b.2 < key (m : Int) a.2 := by
    refine List.Pairwise.imp_of_mem (fun {a b} ma mb q => ?_) r3
    obtain ⟨pa, ea⟩ := mem a ma
    obtain ⟨pb, eb⟩ := mem b mb
    rw [ltD_pair, ea, eb] at q
    by_cases e : key (m : Int) b.2 = key (m : Int) a.2
    · rw [e]; exact ltL_irrefl _
    · rw [if_neg (show ¬ (tu (key (m : Int) b.2) = tu (key (m : Int) a.2)) from fun z => e z), ltD_ints] at q
      exact of_decide_eq_false q
  have hm0 : (0 : Int) < (m : Int) := by omega
  suffices h : ∃ x : List P2, _ = Xc.ok x ∧ (x.Pairwise fun a b => key (m : Int) a < key (m : Int) b) ∧ ∀ p, p ∈ x ↔ p ∈ ps from
    let ⟨x, h1, h2, h3⟩ := h
    ⟨(m : Int), x, hm0, hk, h1, h2, h3⟩
  refine foldEx (fun pre g => ∃ found : List P2, g = (ps, ((m : Int), (r, (found, ())))) ∧ (found.Pairwise fun a b => key (m : Int) a < key (m : Int) b) ∧ (∀ x, x ∈ found ↔ ∃ a ∈ pre, a.2 = x) ∧ (pre = [] → found = []) ∧ found.length ≤ pre.length ∧ ∀ a pre', pre = pre' ++ [a] → ∃ found', found = found' ++ [a.2]) ⟨[], rfl, .nil, fun x => by simp, fun _ => rfl, Nat.le_refl _, fun a pre' e => by simp at e⟩ ?_ ?_
  · rintro pre a rest g hr ⟨found, rfl, fs, fm, fe, fn, fl⟩
    have step : ∀ b, a.2 = b → True := fun _ _ => trivial
    rcases List.eq_nil_or_concat pre with hpre | ⟨pre', c, hpre⟩
    · have := fe hpre
      subst this hpre
      dsimp only
      rw [eqdX_ok (by decide) ([] : List P2) [], bind_ok', if_pos (decide_eq_true rfl), bind_ok', if_pos rfl, appX_b (by decide), bind_ok', bind_ok']
      exact ⟨_, rfl, [a.2], rfl, List.pairwise_singleton _ _, fun x => by simp [eq_comm], fun e => by simp at e, Nat.le_refl _, fun b q e => ⟨[], by
        have := (List.append_inj' (show [] ++ [a] = q ++ [b] from e) rfl).2
        simp at this
        rw [this]; rfl⟩⟩
    · rw [List.concat_eq_append] at hpre
      obtain ⟨f', hf⟩ := fl c pre' hpre
      subst hf hpre
      have hc : ¬ key (m : Int) a.2 < key (m : Int) c.2 := by
        rw [hr] at ord
        have o := (List.pairwise_append.mp ord).2.2 c (by simp) a (by simp)
        exact o
      have kc : KL (m : Int) c.2 := hk _ (mem c (by rw [hr]; simp)).1
      have ka : KL (m : Int) a.2 := hk _ (mem a (by rw [hr]; simp)).1
      dsimp only
      rw [eqdX_ok (by decide) (f' ++ [c.2]) [], bind_ok', if_neg (by simp), getX_last, bind_ok', eqdX_ok (by decide) c.2 a.2, bind_ok', bind_ok']
      by_cases e : c.2 = a.2
      · rw [decide_eq_true e]
        rw [if_neg (by decide), bind_ok']
        refine ⟨_, rfl, f' ++ [c.2], rfl, fs, fun x => ?_, fun q => by simp at q, by simp only [List.length_append, List.length_cons, List.length_nil] at fn ⊢; omega, fun b q z => ⟨f', ?_⟩⟩
        · rw [fm x]
          constructor
          · rintro ⟨d, md, rfl⟩; exact ⟨d, List.mem_append_left _ md, rfl⟩
          · rintro ⟨d, md, rfl⟩
            rcases List.mem_append.mp md with md | md
            · exact ⟨d, md, rfl⟩
            · rw [List.mem_singleton.mp md]; exact ⟨c, by simp, e⟩
        · have := (List.append_inj' z rfl).2
          simp at this
          rw [← this, e]
      · rw [decide_eq_false e]
        have lt : key (m : Int) c.2 < key (m : Int) a.2 := ltL_total hc fun q => e (key_inj hm0 kc ka q.symm)
        have ll : (f' ++ [c.2]).length < 1000000 := by
          have hr2 := congrArg List.length hr
          have := r2.length_eq
          simp only [List.length_append, List.length_cons, List.length_nil, List.length_map] at fn hr2 this ⊢
          omega
        rw [if_pos (by decide), appX_b ll, bind_ok', bind_ok']
        refine ⟨_, rfl, f' ++ [c.2] ++ [a.2], rfl, ?_, fun x => ?_, fun q => by simp at q, by simp only [List.length_append, List.length_cons, List.length_nil] at fn ⊢; omega, fun b q z => ⟨f' ++ [c.2], ?_⟩⟩
        · refine List.pairwise_append.mpr ⟨fs, List.pairwise_singleton _ _, fun x mx y my => ?_⟩
          rw [List.mem_singleton.mp my]
          rcases List.mem_append.mp mx with mx | mx
          · exact ltL_trans ((List.pairwise_append.mp fs).2.2 x mx c.2 (by simp)) lt
          · rw [List.mem_singleton.mp mx]; exact lt
        · rw [List.mem_append, fm x]
          constructor
          · rintro (⟨d, md, rfl⟩ | q)
            · exact ⟨d, List.mem_append_left _ md, rfl⟩
            · exact ⟨a, by simp, (List.mem_singleton.mp q).symm⟩
          · rintro ⟨d, md, rfl⟩
            rcases List.mem_append.mp md with md | md
            · exact .inl ⟨d, md, rfl⟩
            · rw [List.mem_singleton.mp md]; exact .inr (by simp)
        · have := (List.append_inj' z rfl).2
          simp at this
          rw [← this]
  · rintro g ⟨found, rfl, fs, fm, _, _, _⟩
    refine ⟨found, rfl, fs, fun p => ?_⟩
    rw [fm p]
    constructor
    · rintro ⟨a, ma, rfl⟩; exact (mem a ma).1
    · intro mp
      exact ⟨(tu (key (m : Int) p), p), r2.mem_iff.mpr (List.mem_map.mpr ⟨p, mp, rfl⟩), rfl⟩
end LW

/-! K1A: k01: the law's points, the program's operations. -/
namespace LW
open PySem L2 FL
theorem lcommon_l {l : List Int} {s : Int} (h : BdL 8999 l) : m__law_common_l (l, (s, ())) = .ok ((gcdL l s : Nat) : Int) := by
  unfold m__law_common_l
  dsimp only
  rw [absI_eq, fold_gcd (χ := List Int) l s.natAbs (fun c a m => by
    dsimp only
    rw [gcd_ok ((h.all a m).mono (show 8999 ≤ 9000 by decide)).lt, bind_ok']), bind_ok']
  rfl
theorem lpoint {n : Nat} {l : List Int} {b : Int} [hb : Bd n b] [hl : BdL n l] (hn : n ≤ 8999) (h : b ≠ 0) : m__law_point (l, (b, ())) = .ok (pt l b) := by
  unfold m__law_point
  dsimp only
  rw [lcommon_l (hl.mono hn), bind_ok']
  refine point_tail hn h hb fun c hc h0 => ?_
  dsimp only
  rw [comp_fdiv hn hc h0 l (fun _ => rfl) (fun _ => rfl), bind_ok', bind_ok', fdvX_bd hn h0, bind_ok']
def lowq (a b : Int) : Int × Int := (a.fdiv (sgd [a] b), b.fdiv (sgd [a] b))
theorem szX_1 {a : Int} : szX [a] = .ok [a] := szX_b (show 1 ≤ 1000000 by decide)
theorem llow {n : Nat} {a b : Int} [ha : Bd n a] [hb : Bd n b] (hn : n ≤ 8999) (h : b ≠ 0) : m__law_low (a, (b, ())) = .ok (lowq a b) := by
  have : BdL n [a] := ⟨fun x m => by rw [List.mem_singleton.mp m]; exact ha⟩
  unfold m__law_low
  dsimp only
  rw [szX_1, bind_ok', bind_ok', lpoint hn h, bind_ok']
  have : getX (Tu.l (pt [a] b).1) 0 = .ok (a.fdiv (sgd [a] b)) := getX_b (by decide) rfl
  rw [this, bind_ok']
  rfl
theorem gcdI_sgd (a b : Int) : ((gcdL [a] b : Nat) : Int) = gcdI a b := by
  unfold gcdI gcdL
  simp [Nat.gcd_comm]
theorem ratio_ok {n : Nat} {a b : Int} [hb : Bd n b] (hn : n ≤ 8999) (h : b ≠ 0) : m_ratio (a, (b, ())) = .ok (lowq a b) := by
  unfold m_ratio
  rw [if_neg (by simpa using h)]
  dsimp only
  rw [← gcdI_sgd]
  have h1 := bd_sgd (l := [a]) h hb
  have h2 := sgd_ne (l := [a]) h
  unfold lowq
  unfold sgd at *
  by_cases q : b < 0
  · rw [if_pos (by simpa using q), bind_ok']
    rw [if_pos q] at *
    dsimp only
    rw [fdvX_bd hn h2, bind_ok', fdvX_bd hn h2, bind_ok']
  · rw [if_neg (by simpa using q), bind_ok']
    rw [if_neg q] at *
    dsimp only
    rw [fdvX_bd hn h2, bind_ok', fdvX_bd hn h2, bind_ok']
theorem lowq_pt (a b : Int) : pt [a] b = (tu [(lowq a b).1], (lowq a b).2) := rfl
theorem lowq_eq {a b a' b' : Int} (hb : b ≠ 0) (hb' : b' ≠ 0) (h : a * b' = a' * b) : lowq a b = lowq a' b' := by
  have := pt_eq (l := [a]) (l' := [a']) hb hb' (by simp [h])
  rw [lowq_pt, lowq_pt] at this
  have e1 := congrArg Prod.snd this
  have e2 : ([(lowq a b).1] : List Int) = [(lowq a' b').1] := congrArg Prod.fst this
  simp only [List.cons.injEq, and_true] at e2
  exact Prod.ext e2 e1
theorem lowq_pos {a b : Int} (hb : b ≠ 0) : 1 ≤ (lowq a b).2 := (pt_lp (l := [a]) hb).pos
theorem lowq_cross {a b : Int} (hb : b ≠ 0) : (lowq a b).1 * b = a * (lowq a b).2 := by
  have := pt_cross (l := [a]) hb
  rw [lowq_pt] at this
  have : ([(lowq a b).1 * b] : List Int) = [a * (lowq a b).2] := this
  simpa using this
instance bd_low1 {n : Nat} {a b : Int} [h : Bd n a] : Bd n (lowq a b).1 := ⟨Nat.lt_of_le_of_lt (fdiv_le _ _) h.lt⟩
instance bd_low2 {n : Nat} {a b : Int} [h : Bd n b] : Bd n (lowq a b).2 := ⟨Nat.lt_of_le_of_lt (fdiv_le _ _) h.lt⟩
/-! the same -/
theorem isi_ii (i : Int) : isiX (HasTy.ty i) "int" = .ok true := by
  show isiX "int" "int" = _
  unfold isiX
  rfl
theorem isi_ib (i : Int) : isiX (HasTy.ty i) "bool" = .ok false := by
  show isiX "int" "bool" = _
  unfold isiX
  rfl
theorem isi_bb (i : Bool) : isiX (HasTy.ty i) "bool" = .ok true := by
  show isiX "bool" "bool" = _
  unfold isiX
  rfl
theorem isi_tt {α : Type} [Rp α] (t : Tu α) : isiX (HasTy.ty t) "tuple" = .ok true := by
  show isiX "tuple" "tuple" = _
  unfold isiX
  rfl
theorem isi_pt {α β : Type} [Rp α] [Rp β] (p : α × β) : isiX (HasTy.ty p) "tuple" = .ok true := by
  show isiX "tuple" "tuple" = _
  unfold isiX
  rfl
theorem truth_ok (b : Bool) : m__law_truth (b, (b, ())) = .ok true := by
  unfold m__law_truth
  simp only [isi_bb, bind_ok', if_true, decide_true]
theorem hlenU {α : Type} [Rp α] (t : Tu α) : HasLen.len t = (Tu.l t).length := rfl
theorem hlenL {α : Type} [Rp α] (t : List α) : HasLen.len t = t.length := rfl
theorem hlenP {α β : Type} [Rp α] [Rp β] (t : α × β) : HasLen.len t = 2 := rfl
theorem integers_refl (t : Tu Int) (h : (Tu.l t).length ≤ 1000) : m__law_integers (t, (t, ())) = .ok true := by
  unfold m__law_integers
  simp only [isi_tt, bind_ok', Bool.not_true, Bool.false_eq_true, if_false, decide_true, hlenU]
  rw [rngX_b (by decide) (by omega) (by decide) (by omega), bind_ok']
  refine forK_id (fun k m => ?_) rfl
  have := rangeL_mem m
  obtain ⟨a, ea, _⟩ := getX_ex (l := Tu.l t) (i := k) (by omega) (by omega)
  simp only [ea, bind_ok', isi_ii, isi_ib, Bool.not_true, Bool.false_eq_true, if_false, decide_true]
theorem same_refl (p : Tu Int × Int) (h : (Tu.l p.1).length ≤ 1000) : m__law_same (p, (p, ())) = .ok true := by
  unfold m__law_same
  have e : szX (p.2 :: ([] : List Int)) = .ok [p.2] := szX_1
  simp only [isi_pt, hlenP, bind_ok', Bool.not_true, Bool.false_eq_true, if_false, integers_refl p.1 h, if_true, e, integers_refl (tu [p.2]) (by show 1 ≤ 1000; decide)]
  rfl
end LW

/-! K1B: k01: two points. -/
namespace LW
open PySem L2 FL
section
variable {t1 t2 ways : List Int} {b1 b2 s0 s1 cut : Int} [h1 : Bd 200 b1] [h2 : Bd 200 b2] [l1 : BdL 200 t1] [l2 : BdL 200 t2] [z0 : Bd 200 s0] [z1 : Bd 200 s1] [lw : BdL 200 ways]
theorem joined_ok (n1 : b1 ≠ 0) (n2 : b2 ≠ 0) (hn : t1.length + t2.length ≤ 1000000) : m_joined (pt t1 b1, (pt t2 b2, ())) = .ok (pt (t1.map (· * b2) ++ t2.map (· * b1)) (b1 * b2)) := by
  have B1 := bd_pt (l := t1) h1
  have B2 := bd_pt (l := t2) h2
  have L1 := bdl_pt (b := b1) l1
  have L2 := bdl_pt (b := b2) l2
  unfold m_joined
  dsimp only
  have p1 := (pt_lp (l := t1) n1).pos
  have p2 := (pt_lp (l := t2) n2).pos
  rw [comp_list (fun _ => rfl) (mulX_all L1 B2 (by decide)), bind_ok', comp_list (fun _ => rfl) (mulX_all L2 B1 (by decide)), bind_ok', catL_ok (by simp only [List.length_map, pt_len]; exact hn), bind_ok', mulX_bd (by decide), bind_ok', bind_ok', bind_ok', point_l (n := 400) (by decide) (Int.mul_ne_zero (by omega) (by omega))]
  congr 1
  refine pt_eq (Int.mul_ne_zero (by omega) (by omega)) (Int.mul_ne_zero n1 n2) ?_
  rw [List.map_append, List.map_append, List.map_map, List.map_map, List.map_map, List.map_map]
  congr 1
  · exact map_cross (pt_cross n1) (fun z => z * ((pt t2 b2).2 * b2)) (fun a => by show a * _ * (b1 * b2) = _; grind) (fun a => by show a * b2 * (_ * _) = _; grind)
  · exact map_cross (pt_cross n2) (fun z => z * ((pt t1 b1).2 * b1)) (fun a => by show a * _ * (b1 * b2) = _; grind) (fun a => by show a * b1 * (_ * _) = _; grind)
theorem part_ok {lo hi : Int} (n1 : b1 ≠ 0) (h0 : 0 ≤ lo) (h0' : 0 ≤ hi) : m_part_of (pt t1 b1, (lo, (hi, ()))) = .ok (pt ((t1.take hi.toNat).drop lo.toNat) b1) := by
  have B1 := bd_pt (l := t1) h1
  have p1 := (pt_lp (l := t1) n1).pos
  unfold m_part_of
  dsimp only
  rw [point_u (n := 200) (by decide) (by omega)]
  congr 1
  refine pt_eq (by omega) n1 ?_
  show (cutL (Tu.l (pt t1 b1).1) (some lo) (some hi)).map _ = _
  rw [cutL_mid _ h0 h0', List.map_drop, List.map_take, pt_cross n1, ← List.map_take, ← List.map_drop]
theorem mixed_ok (n1 : b1 ≠ 0) (n2 : b2 ≠ 0) (n3 : s1 ≠ 0) : m_mixed (pt t1 b1, (pt t2 b2, ((s0, s1), ()))) = .ok (pt (List.zipWith (fun x y => (s1 - s0) * b2 * x + s0 * b1 * y) t1 t2) (s1 * b1 * b2)) := by
  have B1 := bd_pt (l := t1) h1
  have B2 := bd_pt (l := t2) h2
  have L1 := bdl_pt (b := b1) l1
  have L2 := bdl_pt (b := b2) l2
  have p1 := (pt_lp (l := t1) n1).pos
  have p2 := (pt_lp (l := t2) n2).pos
  unfold m_mixed
  dsimp only
  rw [mulX_bd (by decide), bind_ok', mulX_bd (by decide), bind_ok']
  rw [comp_list (h := fun p => (s1 - s0) * (pt t2 b2).2 * p.1 + s0 * (pt t1 b1).2 * p.2) (fun _ => rfl) (fun p m => by
    have m := List.of_mem_zip m
    have := L1.all _ m.1
    have := L2.all _ m.2
    rw [mulX_bd (by decide), bind_ok', mulX_bd (by decide), bind_ok']), bind_ok', mulX_bd (by decide), bind_ok', mulX_bd (by decide), bind_ok', bind_ok', bind_ok', point_l (n := 600) (by decide) (Int.mul_ne_zero (Int.mul_ne_zero n3 (by omega)) (by omega))]
  congr 1
  refine pt_eq (Int.mul_ne_zero (Int.mul_ne_zero n3 (by omega)) (by omega)) (Int.mul_ne_zero (Int.mul_ne_zero n3 n1) n2) ?_
  rw [zip_map, List.map_zipWith, List.map_zipWith]
  exact zip_cross (pt_cross n1) (pt_cross n2) (fun u v => (s1 - s0) * (pt t2 b2).2 * u * (s1 * b2) + s0 * (pt t1 b1).2 * v * (s1 * b1)) (fun a a' => by grind) (fun a a' => by grind)
theorem shifted_ok (n1 : b1 ≠ 0) (n3 : s1 ≠ 0) : m_shifted (pt t1 b1, (ways, ((s0, s1), ()))) = .ok (pt (List.zipWith (fun x y => x * s1 + y * s0 * b1) t1 ways) (b1 * s1)) := by
  have B1 := bd_pt (l := t1) h1
  have L1 := bdl_pt (b := b1) l1
  have p1 := (pt_lp (l := t1) n1).pos
  unfold m_shifted
  dsimp only
  rw [comp_list (h := fun p => p.1 * s1 + (pt t1 b1).2 * s0 * p.2) (fun _ => rfl) (fun p m => by
    have m := List.of_mem_zip m
    have := L1.all _ m.1
    have := lw.all _ m.2
    rw [mulX_bd (by decide), bind_ok', mulX_bd (by decide), bind_ok', mulX_bd (by decide), bind_ok']), bind_ok', mulX_bd (by decide), bind_ok', bind_ok', bind_ok', point_l (n := 400) (by decide) (Int.mul_ne_zero (by omega) n3)]
  congr 1
  refine pt_eq (Int.mul_ne_zero (by omega) n3) (Int.mul_ne_zero n1 n3) ?_
  rw [zip_map, List.map_zipWith, List.map_zipWith]
  exact zip_cross (b' := 1) (y' := 1) (pt_cross n1) rfl (fun u v => u * (s1 * s1) + (pt t1 b1).2 * s0 * v * (b1 * s1)) (fun a a' => by grind) (fun a a' => by grind)
end
end LW

/-! K1C: k01: coordinates, points of numbers. -/
namespace LW
open PySem L2 FL
theorem lcmX_ok {i j : Int} (hi : i.natAbs < 2 ^ 64) (hj : j.natAbs < 2 ^ 64) : lcmX i j = .ok ((Nat.lcm i.natAbs j.natAbs : Nat) : Int) := by unfold lcmX; rw [if_pos ⟨hi, hj⟩]
theorem lcm_fold {χ : Type} {x : χ} {f : (χ × (Int × Unit)) → Int × Int → Xc (χ × (Int × Unit))} {D : Nat} (hD : D < 2 ^ 64) (h0 : 0 < D) : ∀ (l : List (Int × Int)) (n : Nat), n ∣ D → (∀ c a, a ∈ l → f (x, (c, ())) a = (lcmX c a.2).bind fun t => .ok (x, (t, ()))) → (∀ a ∈ l, a.2.natAbs ∣ D) →
    ∃ m : Nat, foldX f l (x, ((n : Int), ())) = .ok (x, ((m : Int), ())) ∧ m ∣ D ∧ n ∣ m ∧ ∀ a ∈ l, a.2.natAbs ∣ m
  | [], n, hn, _, _ => ⟨n, rfl, hn, Nat.dvd_refl _, fun a m => by cases m⟩
  | a :: l, n, hn, hf, hl => by
    have d := hl a (by simp)
    have e : lcmX (n : Int) a.2 = .ok ((Nat.lcm n a.2.natAbs : Nat) : Int) := lcmX_ok (by have := Nat.le_of_dvd h0 hn; omega) (by have := Nat.le_of_dvd h0 d; omega)
    obtain ⟨m, e1, e2, e3, e4⟩ := lcm_fold hD h0 l (Nat.lcm n a.2.natAbs) (Nat.lcm_dvd hn d) (fun c b m => hf c b (by simp [m])) fun b m => hl b (by simp [m])
    refine ⟨m, ?_, e2, Nat.dvd_trans (Nat.dvd_lcm_left _ _) e3, fun b mb => ?_⟩
    · show (f _ a).bind _ = _
      rw [hf _ _ (by simp), e, bind_ok', bind_ok']
      exact e1
    · rcases List.mem_cons.mp mb with q | q
      · subst q; exact Nat.dvd_trans (Nat.dvd_lcm_right _ _) e3
      · exact e4 b q
theorem point_of_ok {n : Nat} {l : List (Int × Int)} {D : Nat} (hD : D < 2 ^ 64) (h0 : 0 < D) (hd : ∀ a ∈ l, a.2.natAbs ∣ D ∧ 1 ≤ a.2) (hb : ∀ a ∈ l, Bd n a.1) (hn : n ≤ 900000) :
    ∃ m : Nat, 0 < m ∧ m ∣ D ∧ (∀ a ∈ l, a.2 ∣ (m : Int)) ∧ m_point_of (l, ()) = .ok (pt (l.map fun a => a.1 * ((m : Int).fdiv a.2)) (m : Int)) := by
  unfold m_point_of
  dsimp only
  obtain ⟨m, e1, e2, e3, e4⟩ := lcm_fold (x := l) (f := fun (g34 : ((List (Int × Int)) × (Int × Unit))) a35 => (Xc.bind (lcmX g34.2.1 a35.2) fun t36 => (Xc.ok (g34.1, (t36, ()))))) hD h0 l 1 (Nat.one_dvd _) (fun _ _ _ => rfl) fun a m => (hd a m).1
  have hm0 : 0 < m := Nat.pos_of_dvd_of_pos e2 h0
  have hm : m < 2 ^ 64 := by have := Nat.le_of_dvd h0 e2; omega
  have bm : Bd 64 (m : Int) := ⟨by rw [Int.natAbs_natCast]; exact hm⟩
  refine ⟨m, hm0, e2, fun a q => Int.ofNat_dvd_right.mpr (e4 a q), ?_⟩
  rw [show ((1 : Int)) = ((1 : Nat) : Int) from rfl, e1, bind_ok']
  dsimp only
  rw [comp_list (h := fun a => a.1 * ((m : Int).fdiv a.2)) (fun _ => rfl) (fun a q => by
    have ba : Bd 64 a.2 := ⟨by have := Nat.le_of_dvd h0 (hd a q).1; omega⟩
    have b1 := hb a q
    rw [fdvX_bd (n := 64) (by decide) (by have := (hd a q).2; omega), bind_ok']
    exact mulX_bd (n := 64) (by omega)), bind_ok', bind_ok', point_l (n := 64) (by decide) (by omega)]
section
variable {t1 t2 ways : List Int} {b1 b2 s0 s1 cut : Int} [h1 : Bd 200 b1] [h2 : Bd 200 b2] [l1 : BdL 200 t1] [l2 : BdL 200 t2] [z0 : Bd 200 s0] [z1 : Bd 200 s1] [lw : BdL 200 ways]
theorem lowq_of_pt (n1 : b1 ≠ 0) : (Tu.l (pt t1 b1).1).map (fun x => lowq x (pt t1 b1).2) = t1.map fun t => lowq t b1 := by
  have p1 := (pt_lp (l := t1) n1).pos
  apply List.ext_getElem?
  intro i
  rw [List.getElem?_map, List.getElem?_map]
  cases e : t1[i]? with
  | none =>
    have : (Tu.l (pt t1 b1).1)[i]? = none := by
      rw [List.getElem?_eq_none_iff] at e ⊢
      rw [pt_len]; exact e
    rw [this]; rfl
  | some t =>
    have hlt : i < (Tu.l (pt t1 b1).1).length := by
      rw [pt_len]; exact (List.getElem?_eq_some_iff.mp e).1
    obtain ⟨x, hx⟩ : ∃ x, (Tu.l (pt t1 b1).1)[i]? = some x := ⟨_, List.getElem?_eq_getElem hlt⟩
    rw [hx]
    show some (lowq x _) = some (lowq t b1)
    rw [lowq_eq (by omega) n1 (pt_cross_at n1 hx e)]
theorem coordinates_ok (n1 : b1 ≠ 0) : m_coordinates (pt t1 b1, ()) = .ok (tu (t1.map fun t => lowq t b1)) := by
  have B1 := bd_pt (l := t1) h1
  have p1 := (pt_lp (l := t1) n1).pos
  unfold m_coordinates
  dsimp only
  rw [comp_list (h := fun x => lowq x (pt t1 b1).2) (fun _ => rfl) (fun x _ => ratio_ok (n := 200) (by decide) (by omega)), bind_ok', lowq_of_pt n1]
theorem coordinate_ok (n1 : b1 ≠ 0) {k : Nat} {t : Int} (hk : t1[k]? = some t) : m_coordinate (pt t1 b1, ((k : Int), ())) = .ok (lowq t b1) := by
  have B1 := bd_pt (l := t1) h1
  have p1 := (pt_lp (l := t1) n1).pos
  have hlt : k < (Tu.l (pt t1 b1).1).length := by
    rw [pt_len]; exact (List.getElem?_eq_some_iff.mp hk).1
  obtain ⟨x, hx⟩ : ∃ x, (Tu.l (pt t1 b1).1)[k]? = some x := ⟨_, List.getElem?_eq_getElem hlt⟩
  unfold m_coordinate
  dsimp only
  rw [getX_nat hx, bind_ok', bind_ok', ratio_ok (n := 200) (by decide) (by omega), lowq_eq (by omega) n1 (pt_cross_at n1 hx hk)]
theorem lowq_dvd {a b : Int} (hb : b ≠ 0) : (lowq a b).2.natAbs ∣ b.natAbs := by
  obtain ⟨c, xs, y, hc, hl, hbe, hy, hg, e⟩ := pt_split (l := [a]) hb
  rw [lowq_pt] at e
  have : (lowq a b).2 = y := congrArg Prod.snd e
  rw [this, hbe, Int.natAbs_mul]
  exact ⟨c.natAbs, Nat.mul_comm _ _⟩
theorem point_of_pt (n1 : b1 ≠ 0) (hs : b1.natAbs < 2 ^ 64) : m_point_of (t1.map (fun t => lowq t b1), ()) = .ok (pt t1 b1) := by
  obtain ⟨m, m0, md, ma, e⟩ := point_of_ok (n := 200) (l := t1.map fun t => lowq t b1) (D := b1.natAbs) hs (by omega) (fun a q => by
    obtain ⟨t, mt, rfl⟩ := List.mem_map.mp q
    exact ⟨lowq_dvd n1, lowq_pos n1⟩) (fun a q => by
    obtain ⟨t, mt, rfl⟩ := List.mem_map.mp q
    have := l1.all t mt
    exact bd_low1) (by decide)
  rw [e]
  congr 1
  refine pt_eq (by omega) n1 ?_
  rw [List.map_map, List.map_map]
  refine List.map_congr_left fun t mt => ?_
  show (lowq t b1).1 * ((m : Int).fdiv (lowq t b1).2) * b1 = t * m
  have c := lowq_cross (a := t) n1
  have p := lowq_pos (a := t) n1
  obtain ⟨z, hz⟩ := ma _ (List.mem_map.mpr ⟨t, mt, rfl⟩)
  rw [hz, Int.mul_fdiv_cancel_left _ (by omega)]
  grind
end
end LW

/-! K1D: k01: the law over two points. -/
namespace LW
open PySem L2 FL
theorem same_pt {l : List Int} {b : Int} (h : l.length ≤ 1000) : m__law_same (pt l b, (pt l b, ())) = .ok true := same_refl _ (by rw [pt_len]; exact h)
theorem two_ok {t1 t2 ways : List Int} {b1 b2 s0 s1 cut : Int} [h1 : Bd 200 b1] [h2 : Bd 200 b2] [l1 : BdL 200 t1] [l2 : BdL 200 t2] [z0 : Bd 200 s0] [z1 : Bd 200 s1] [lw : BdL 200 ways]
    (e12 : t2.length = t1.length) (e13 : ways.length = t1.length) (hn : t1.length ≤ 6) (p1 : 1 ≤ b1) (p2 : 1 ≤ b2) (p3 : 1 ≤ s1) (c0 : 0 ≤ cut) (c1 : cut ≤ t1.length) (hs : b1.natAbs < 2 ^ 64) :
    m__law_two (t1 ++ [b1], (t2 ++ [b2], ((s0, s1), (ways, (cut, ()))))) = .ok true := by
  have n1 : b1 ≠ 0 := by omega
  have n2 : b2 ≠ 0 := by omega
  have n3 : s1 ≠ 0 := by omega
  unfold m__law_two
  simp only [getX_last, bind_ok', cutL_init, List.dropLast_concat, lpoint (n := 200) (by decide) n1, lpoint (n := 200) (by decide) n2, hlenL, List.length_append, List.length_cons, List.length_nil]
  have ln : (((t1.length + (0 + 1) : Nat) : Int) - 1) = (t1.length : Int) := by omega
  have rg : rngX 0 (t1.length : Int) = .ok (rangeL 0 (t1.length : Int)) := rngX_b (by decide) (by omega) (by decide) (by omega)
  have q1 : compX (fun a => Xc.ok true) (fun a => (getX (t1 ++ [b1]) a).bind fun t => mulX t b2) (rangeL 0 (t1.length : Int)) = .ok (t1.map (· * b2)) := comp_at1 (fun _ => rfl) rfl (mulX_all l1 h2 (by decide))
  have q2 : compX (fun a => Xc.ok true) (fun a => (getX (t2 ++ [b2]) a).bind fun t => mulX t b1) (rangeL 0 (t1.length : Int)) = .ok (t2.map (· * b1)) := comp_at1 (fun _ => rfl) (by omega) (mulX_all l2 h1 (by decide))
  have q3 : catL (t1.map (· * b2)) (t2.map (· * b1)) = .ok (t1.map (· * b2) ++ t2.map (· * b1)) := catL_ok (by simp only [List.length_map]; omega)
  have m1 : mulX b1 b2 = .ok (b1 * b2) := mulX_bd (by decide)
  have m2 : mulX (s1 - s0) b2 = .ok ((s1 - s0) * b2) := mulX_bd (by decide)
  have m3 : mulX s0 b1 = .ok (s0 * b1) := mulX_bd (by decide)
  have m4 : mulX s1 b1 = .ok (s1 * b1) := mulX_bd (by decide)
  have m5 : mulX (s1 * b1) b2 = .ok (s1 * b1 * b2) := mulX_bd (by decide)
  have m6 : mulX b1 s1 = .ok (b1 * s1) := mulX_bd (by decide)
  have q4 : compX (fun a => Xc.ok true) (fun a => ((getX (t1 ++ [b1]) a).bind fun t => mulX ((s1 - s0) * b2) t).bind fun u => ((getX (t2 ++ [b2]) a).bind fun t => mulX (s0 * b1) t).bind fun v => Xc.ok (u + v)) (rangeL 0 (t1.length : Int)) = .ok (List.zipWith (fun x y => (s1 - s0) * b2 * x + s0 * b1 * y) t1 t2) :=
    comp_at2 (l' := [b1]) (m' := [b2]) (fun _ => rfl) rfl e12 fun k x y mx my ex ey => by
      have := l1.all x mx
      have := l2.all y my
      rw [ex, ey, bind_ok', bind_ok', mulX_bd (by decide), mulX_bd (by decide), bind_ok', bind_ok']
  have q5 : compX (fun a => Xc.ok true) (fun a => ((getX (t1 ++ [b1]) a).bind fun t => mulX t s1).bind fun u => (((getX ways a).bind fun t => mulX t s0).bind fun t => mulX t b1).bind fun v => Xc.ok (u + v)) (rangeL 0 (t1.length : Int)) = .ok (List.zipWith (fun x y => x * s1 + y * s0 * b1) t1 ways) :=
    comp_at2 (l' := [b1]) (m' := []) (fun _ => rfl) rfl e13 fun k x y mx my ex ey => by
      have := l1.all x mx
      have := lw.all y my
      rw [List.append_nil] at ey
      rw [ex, ey, bind_ok', bind_ok', mulX_bd (by decide), mulX_bd (by decide), bind_ok', bind_ok', mulX_bd (by decide), bind_ok']
  have q6 : compX (fun a => Xc.ok true) (fun a => ((getX (t1 ++ [b1]) a).bind fun t => Xc.ok (t, b1, ())).bind fun t => m__law_low t) (rangeL 0 (t1.length : Int)) = .ok (t1.map fun t => lowq t b1) :=
    comp_at2 (m := t1) (l' := [b1]) (m' := []) (h := fun x _ => lowq x b1) (fun _ => rfl) rfl rfl (fun k x y mx my ex ey => by
      have := l1.all x mx
      rw [ex, bind_ok', bind_ok', llow (n := 200) (by decide) n1]) |>.trans (by
        congr 1
        rw [List.zipWith_self])
  have L3 : BdL 200 (List.drop cut.toNat t1) := ⟨fun x m => l1.all x (List.mem_of_mem_drop m)⟩
  have L4 : BdL 200 (List.take cut.toNat t1) := ⟨fun x m => l1.all x (List.mem_of_mem_take m)⟩
  have cd : cutL (t1 ++ [b1]) (some cut) (some (-1)) = t1.drop cut.toNat := by rw [cutL_tail _ c0, List.dropLast_concat]
  have ct : cutL (t1 ++ [b1]) none (some cut) = t1.take cut.toNat := by rw [cutL_take _ c0, List.take_append_of_le_length (by omega)]
  have L5 : BdL 600 (t1.map (· * b2) ++ t2.map (· * b1)) := bdl_app (bdl_map (m := 600) l1 fun x h => (bd_mul (i := x) (j := b2)).mono (by decide)) (bdl_map (m := 600) l2 fun x h => (bd_mul (i := x) (j := b1)).mono (by decide))
  have L6 : BdL 700 (List.zipWith (fun x y => (s1 - s0) * b2 * x + s0 * b1 * y) t1 t2) := bdl_zip (p := 700) l1 l2 fun x y hx hy => bd_up
  have L7 : BdL 700 (List.zipWith (fun x y => x * s1 + y * s0 * b1) t1 ways) := bdl_zip (p := 700) l1 lw fun x y hx hy => bd_up
  have B5 : Bd 600 (b1 * b2) := bd_up
  have B6 : Bd 700 (s1 * b1 * b2) := bd_up
  have B7 : Bd 700 (b1 * s1) := bd_up
  have g1 := joined_ok (t1 := t1) (t2 := t2) n1 n2 (by omega)
  have g2 := part_ok (t1 := t1) (lo := cut) (hi := (t1.length : Int)) n1 c0 (by omega)
  have g3 := part_ok (t1 := t1) (lo := 0) (hi := cut) n1 (by decide) c0
  have g4 := mixed_ok (t1 := t1) (t2 := t2) (s0 := s0) n1 n2 n3
  have g5 := shifted_ok (t1 := t1) (ways := ways) (s0 := s0) n1 n3
  rw [Int.toNat_natCast, List.take_length] at g2
  rw [Int.toNat_zero, List.drop_zero] at g3
  have w1 := lpoint (n := 600) (l := t1.map (· * b2) ++ t2.map (· * b1)) (b := b1 * b2) (by decide) (Int.mul_ne_zero n1 n2)
  have w2 := lpoint (n := 200) (l := t1.drop cut.toNat) (b := b1) (by decide) n1
  have w3 := lpoint (n := 200) (l := t1.take cut.toNat) (b := b1) (by decide) n1
  have w4 := lpoint (n := 700) (l := List.zipWith (fun x y => (s1 - s0) * b2 * x + s0 * b1 * y) t1 t2) (b := s1 * b1 * b2) (by decide) (Int.mul_ne_zero (Int.mul_ne_zero n3 n1) n2)
  have w5 := lpoint (n := 700) (l := List.zipWith (fun x y => x * s1 + y * s0 * b1) t1 ways) (b := b1 * s1) (by decide) (Int.mul_ne_zero n1 n3)
  have s1' := same_pt (l := t1.map (· * b2) ++ t2.map (· * b1)) (b := b1 * b2) (by simp only [List.length_append, List.length_map]; omega)
  have s2' := same_pt (l := t1.drop cut.toNat) (b := b1) (by simp only [List.length_drop]; omega)
  have s3' := same_pt (l := t1.take cut.toNat) (b := b1) (by simp only [List.length_take]; omega)
  have s4' := same_pt (l := List.zipWith (fun x y => (s1 - s0) * b2 * x + s0 * b1 * y) t1 t2) (b := s1 * b1 * b2) (by simp only [List.length_zipWith]; omega)
  have s5' := same_pt (l := List.zipWith (fun x y => x * s1 + y * s0 * b1) t1 ways) (b := b1 * s1) (by simp only [List.length_zipWith]; omega)
  have s6' := same_pt (l := t1) (b := b1) (by omega)
  have hc : (HasLen.len (tu (t1.map fun t => lowq t b1)) : Nat) = t1.length := List.length_map _
  simp only [ln, rg, bind_ok', q1, q2, q3, m1, m2, m3, m4, m5, m6, q4, q5, q6, cd, ct, g1, g2, g3, g4, g5, w1, w2, w3, w4, w5, s1', s2', s3', s4', s5', s6', Bool.not_true, Bool.false_eq_true, if_false, coordinates_ok n1, isi_tt, hc, decide_true, point_of_pt n1 hs]
  refine forK_id (fun k m => ?_) rfl
  have hk := rangeL_mem m
  obtain ⟨n, rfl⟩ := Int.eq_ofNat_of_zero_le hk.1
  have hlt : n < t1.length := by omega
  have et : t1[n]? = some t1[n] := List.getElem?_eq_getElem hlt
  have eg : getX (t1.map fun t => lowq t b1) (n : Int) = .ok (lowq t1[n] b1) := getX_nat (by rw [List.getElem?_map, et]; rfl)
  have eg2 : getX (Tu.l (tu (t1.map fun t => lowq t b1))) (n : Int) = .ok (lowq t1[n] b1) := eg
  have ir := integers_refl (tu [(lowq t1[n] b1).1, (lowq t1[n] b1).2]) (by show 2 ≤ 1000; decide)
  simp only [eg, eg2, bind_ok', ir, Bool.not_true, Bool.false_eq_true, if_false, coordinate_ok n1 et]
end LW

/-! K1E: k01: kinds. -/
namespace LW
open PySem L2 FL
theorem gcdL_neg (l : List Int) : gcdL (l.map fun t => -t) 0 = gcdL l 0 := by
  have := gcdL_mul (-1) l 0
  simp only [Int.neg_mul, Int.one_mul, Int.natAbs_neg] at this
  simpa using this
theorem raises_dir {l : List Int} (h : gcdL l 0 = 0) : m__law_raises ("direction", (l, ())) = .ok true := by
  have e : m_direction (l, ()) = .er "BadNumber" [] := by
    unfold m_direction
    dsimp only
    rw [common_l, bind_ok', h]
    rfl
  have ne : ¬ (("direction" : Str) = ("point" : Str)) := by decide +kernel
  unfold m__law_raises
  dsimp only
  rw [if_neg (fun q => ne (of_decide_eq_true q)), e]
  rfl
theorem raises_pt (l : List Int) : m__law_raises ("point", (l, ())) = .ok true := by
  unfold m__law_raises
  dsimp only
  rw [if_pos (decide_eq_true rfl), point_er]
  rfl
theorem direction_ok {n : Nat} {l : List Int} (hl : BdL n l) (hn : n ≤ 8999) (h : gcdL l 0 ≠ 0) : m_direction (l, ()) = .ok (tu (l.map fun t => t.fdiv ((gcdL l 0 : Nat) : Int))) := by
  unfold m_direction
  dsimp only
  rw [common_l, bind_ok', if_neg (by simpa using h)]
  have hb : Bd n ((gcdL l 0 : Nat) : Int) := by
    by_cases z : ∃ a ∈ l, a ≠ 0
    · obtain ⟨a, ma, ha⟩ := z
      have := Nat.le_of_dvd (by omega) (gcdL_a l 0 ma)
      exact ⟨by have := (hl.all a ma).lt; omega⟩
    · exfalso
      apply h
      have : (0 : Nat) ∣ gcdL l 0 := dvd_gcdL (Nat.dvd_refl _) fun a ma => by
        have : a = 0 := by
          by_cases q : a = 0
          · exact q
          · exact absurd ⟨a, ma, q⟩ z
        rw [this]; exact Nat.dvd_refl _
      exact Nat.eq_zero_of_zero_dvd this
  rw [comp_fdiv hn hb (by omega) l (fun _ => rfl) (fun _ => rfl), bind_ok']
theorem gcdL_div {l : List Int} (h : gcdL l 0 ≠ 0) : gcdL (l.map fun t => t.fdiv ((gcdL l 0 : Nat) : Int)) 0 = 1 := by
  have e : l = (l.map fun t => t.fdiv ((gcdL l 0 : Nat) : Int)).map ((((gcdL l 0 : Nat) : Int)) * ·) := by
    rw [List.map_map]
    conv => lhs; rw [← List.map_id l]
    apply List.map_congr_left
    intro x m
    obtain ⟨z, hz⟩ := Int.ofNat_dvd_left.mpr (gcdL_a l 0 m)
    show x = ((gcdL l 0 : Nat) : Int) * x.fdiv ((gcdL l 0 : Nat) : Int)
    rw [hz, Int.mul_fdiv_cancel_left _ (by omega)]
  have g := gcdL_mul ((gcdL l 0 : Nat) : Int) (l.map fun t => t.fdiv ((gcdL l 0 : Nat) : Int)) 0
  rw [← e, Int.mul_zero, Int.natAbs_natCast] at g
  exact (Nat.eq_of_mul_eq_mul_left (Nat.pos_of_ne_zero h) (by rw [Nat.mul_one]; exact g)).symm
/-- a loop over odd values -/
theorem odd_loop {γ : Type} {f : γ → PyData → Xc (Lp γ Bool)} {g : γ} {rt : Bool → Bool} {k : γ → Xc Bool} {l : List PyData} {m : PyData → Xc Bool} {r : Xc Bool} (hf : ∀ d, m d = .ok false → f g d = .ok (.ct g)) (h : ∀ d ∈ l, m d = .ok false) (hk : k g = r) : forK (forX f l g) rt k = r :=
  forK_id (fun d q => hf d (h d q)) hk
theorem repU_ok {α : Type} {t : Tu α} {k : Int} (h : 1 ≤ k ∧ k ≤ 1000 ∧ t.l.length ≤ 1000 ∧ t.l ≠ []) : repU t k = .ok (tu (List.replicate k.toNat t.l).flatten) := by unfold repU; rw [if_pos h]
theorem catU_ok {α : Type} {x y : Tu α} (h : x.l.length + y.l.length ≤ 1000000) : catU x y = .ok (tu (x.l ++ y.l)) := by
  have := size_ge
  unfold catU
  rw [if_pos (by omega)]
theorem toUD_ok {α : Type} [Rp α] [ToD α] {k : Nat} [F : Flat α k] (h : k ≤ 64 := by decide) (t : Tu α) : toUD t = .ok (tu (t.l.map ToD.d)) := by
  unfold toUD
  rw [if_pos (List.all_eq_true.mpr fun a _ => shaped_of h a)]
theorem pairUD_ok {α β : Type} [Rp α] [Rp β] [ToD α] [ToD β] {k j : Nat} [F : Flat α k] [E : Flat β j] (h : k ≤ 64 := by decide) (h2 : j ≤ 64 := by decide) (t : α × β) : pairUD t = .ok (tu [ToD.d t.1, ToD.d t.2]) := by
  unfold pairUD
  rw [if_pos ⟨shaped_of h _, shaped_of h2 _⟩]
end LW

/-! K1F: k01: the law over kinds. -/
namespace LW
open PySem L2 FL
theorem kinds_ok {xs : List Int} {y : Int} {ways : List Int} {n : Int} (hy : 1 ≤ y) (hg : gcdL xs y = 1) (B : Bd 200 y) (L : BdL 200 xs) (W : BdL 200 ways) (e1 : (xs.length : Int) = n) (e2 : (ways.length : Int) = n) (n1 : 1 ≤ n) (n6 : n ≤ 6) : m__law_kinds ((tu xs, y), (ways, (n, ()))) = .ok true := by
  have lx : xs.length ≤ 1000 := by omega
  have lw : ways.length ≤ 1000 := by omega
  have FI := Fl.ints xs
  have FW := Fl.ints ways
  -- the values
  have v0 : datX ((tu xs, y) : Tu Int × Int) = .ok (.tuple [.tuple (xs.map ToD.d), .int y]) := datX_ok (by decide) _
  have c2 : compX (fun _ => Xc.ok true) (fun a => mulX 2 a) xs = .ok (xs.map (2 * ·)) := comp_list (fun _ => rfl) fun a m => by have := L.all a m; exact mulX_bd (by decide)
  have m2 : mulX 2 y = .ok (2 * y) := mulX_bd (by decide)
  have cn : compX (fun _ => Xc.ok true) (fun a => Xc.ok (-a)) xs = .ok (xs.map fun t => -t) := comp_list (fun _ => rfl) fun a m => rfl
  have v1 : datX ((tu (xs.map (2 * ·)), 2 * y) : Tu Int × Int) = .ok (.tuple [.tuple ((xs.map (2 * ·)).map ToD.d), .int (2 * y)]) := datX_ok (by decide) _
  have v2 : datX ((tu (xs.map fun t => -t), -y) : Tu Int × Int) = .ok (.tuple [.tuple ((xs.map fun t => -t).map ToD.d), .int (-y)]) := datX_ok (by decide) _
  have v3 : datX ((Tu.l (tu xs), y) : List Int × Int) = .ok (.tuple [.list (xs.map ToD.d), .int y]) := datX_ok (by decide) _
  have v4 : datX ((tu xs, true) : Tu Int × Bool) = .ok (.tuple [.tuple (xs.map ToD.d), .bool true]) := datX_ok (by decide) _
  have v5 : datX (tu [tu xs] : Tu (Tu Int)) = .ok (.tuple [.tuple (xs.map ToD.d)]) := datX_ok (by decide) _
  have v6 : datX (tu xs : Tu Int) = .ok (.tuple (xs.map ToD.d)) := datX_ok (by decide) _
  have v7 : datX () = .ok .none := datX_ok (by decide) _
  have v8 : datX ([1] : List Int) = .ok (.list [.int 1]) := datX_ok (by decide) _
  have v9 : datX ("optimal" : Str) = .ok (.str "optimal") := by unfold datX; rw [if_pos (by decide +kernel)]; rfl
  have u1 : toUD (tu xs) = .ok (tu (xs.map ToD.d)) := toUD_ok (by decide) _
  have u2 : toUD (tu [()]) = .ok (tu [.none]) := toUD_ok (by decide) _
  have cl : cutL (Tu.l (tu xs)) none (some (-1)) = xs.dropLast := cutL_init xs
  have u3 : toUD (tu xs.dropLast) = .ok (tu (xs.dropLast.map ToD.d)) := toUD_ok (by decide) _
  have u4 : toUD (tu [("0" : Str)]) = .ok (tu [.str "0"]) := by unfold toUD; rw [if_pos (by decide +kernel)]; rfl
  have u5 : toUD (tu [(1 : Int)]) = .ok (tu [.int 1]) := toUD_ok (by decide) _
  have u6 : pairUD ((tu xs, y) : Tu Int × Int) = .ok (tu [.tuple (xs.map ToD.d), .int y]) := pairUD_ok (by decide) (by decide) _
  have a1 : catU (tu (xs.map ToD.d)) (tu [PyData.none]) = .ok (tu (xs.map ToD.d ++ [.none])) := catU_ok (by show (xs.map ToD.d).length + 1 ≤ _; rw [List.length_map]; omega)
  have a2 : catU (tu (xs.dropLast.map ToD.d)) (tu [PyData.str "0"]) = .ok (tu (xs.dropLast.map ToD.d ++ [.str "0"])) := catU_ok (by show (xs.dropLast.map ToD.d).length + 1 ≤ _; rw [List.length_map, List.length_dropLast]; omega)
  have a3 : catU (tu [PyData.tuple (xs.map ToD.d), .int y]) (tu [PyData.int 1]) = .ok (tu [.tuple (xs.map ToD.d), .int y, .int 1]) := catU_ok (by show 2 + 1 ≤ 1000000; decide)
  have f0 : Fl 1 (.str "0") := ⟨by decide +kernel, by decide +kernel⟩
  have w1 : datX ((tu (xs.map ToD.d ++ [PyData.none]), y) : Tu PyData × Int) = .ok (.tuple [.tuple (xs.map ToD.d ++ [.none]), .int y]) := datX_fl (k := 3) (by show PyData.tuple [.tuple ((xs.map ToD.d ++ [PyData.none]).map id), .int y] = _; rw [List.map_id]) (Fl.two (Fl.tup fun d m => by
    rcases List.mem_append.mp m with m | m
    · exact (FI d m).mono (by decide)
    · rw [List.mem_singleton.mp m]; exact Fl.non.mono (by decide)) ((Fl.int y).mono (by decide)))
  have w2 : datX ((tu (xs.dropLast.map ToD.d ++ [PyData.str "0"]), y) : Tu PyData × Int) = .ok (.tuple [.tuple (xs.dropLast.map ToD.d ++ [.str "0"]), .int y]) := datX_fl (k := 3) (by show PyData.tuple [.tuple ((xs.dropLast.map ToD.d ++ [PyData.str "0"]).map id), .int y] = _; rw [List.map_id]) (Fl.two (Fl.tup fun d m => by
    rcases List.mem_append.mp m with m | m
    · exact (Fl.ints xs.dropLast d m).mono (by decide)
    · rw [List.mem_singleton.mp m]; exact f0) ((Fl.int y).mono (by decide)))
  have w3 : datX (tu [PyData.tuple (xs.map ToD.d), .int y, .int 1] : Tu PyData) = .ok (.tuple [.tuple (xs.map ToD.d), .int y, .int 1]) := datX_fl (k := 3) rfl (Fl.tup fun d m => by
    simp only [List.mem_cons, List.not_mem_nil, or_false] at m
    rcases m with e | e | e <;> rw [e]
    · exact (Fl.tup FI).mono (by decide)
    · exact (Fl.int _).mono (by decide)
    · exact (Fl.int _).mono (by decide))
  have z1 : ∀ (α : Type) (l : List α), l.length ≤ 100 → szX l = .ok l := fun α l h => szX_b (by omega)
  have s1 : szX [tu xs] = .ok [tu xs] := szX_one
  have s2 : szX [(1 : Int)] = .ok [1] := szX_one
  have s3 : szX [()] = .ok [()] := szX_one
  have s4 : szX [("0" : Str)] = .ok ["0"] := szX_one
  have s5 : szX [true] = .ok [true] := szX_one
  -- the points
  have P0 : m_is_point (.tuple [.tuple (xs.map ToD.d), .int y], (n, ())) = .ok true := by
    rw [isp_yes xs y lx, decide_eq_true e1, decide_eq_true hy, decide_eq_true hg]; rfl
  have P1 : m_is_point (.tuple [.tuple (xs.map ToD.d), .int y], (n + 1, ())) = .ok false := by
    rw [isp_yes xs y lx, decide_eq_false (by omega)]; rfl
  unfold m__law_kinds
  simp only [v0, bind_ok', P0, P1, truth_ok, Bool.not_true, Bool.false_eq_true, if_false, show Tu.l (tu xs) = xs from rfl, c2, m2, cn, v1, v2]
  rw [show Tu.l (tu xs) = xs from rfl] at v3 cl
  simp only [v3, v4, s1, bind_ok', v5, v6, v7, s2, v8, v9, z1 _ _ (show ([_, _, _, _, _, _, _, _, _] : List PyData).length ≤ 100 by simp), u1, s3, u2, a1, w1, cl, u3, s4, u4, a2, w2, u6, u5, a3, w3, z1 _ _ (show ([_, _, _] : List PyData).length ≤ 100 by simp)]
  rw [catL_ok (by simp), bind_ok']
  have ff : ∀ k : Int, Fl 0 (.int k) := Fl.int
  have FT : Fl 1 (.tuple (xs.map ToD.d)) := Fl.tup FI
  -- the odd ones
  refine odd_loop (m := fun d => m_is_point (d, (n, ()))) (fun d hd => by simp only [hd, bind_ok', truth_ok, Bool.not_true, Bool.false_eq_true, if_false]) ?_ ?_
  · intro d m
    simp only [List.cons_append, List.nil_append, List.mem_cons, List.not_mem_nil, or_false] at m
    rcases m with e | e | e | e | e | e | e | e | e | e | e | e <;> rw [e]
    · rw [isp_yes _ _ (by rw [List.length_map]; omega), show gcdL (xs.map (2 * ·)) (2 * y) = 2 from by rw [gcdL_mul, hg]; rfl]
      simp
    · rw [isp_yes _ _ (by rw [List.length_map]; omega), decide_eq_false (show ¬ 1 ≤ -y by omega)]
      simp
    · exact isp_no1 ((Fl.lst FI).sh) (areI_no1 trivial) rfl (show 0 ≤ 63 by decide)
    · exact isp_no2 lx rfl (show 0 ≤ 63 by decide) trivial
    · exact isp_len (show 1 ≤ 1000 by decide) (by rw [List.all_cons, FT.sh]; rfl) (show 1 ≠ 2 by decide)
    · by_cases q : xs.length = 2
      · match xs, q with
        | [a, b], _ => exact isp_no1 rfl (areI_no1 trivial) rfl (show 0 ≤ 63 by decide)
      · exact isp_len (by rw [List.length_map]; exact lx) (shaped_ints xs) (by rw [List.length_map]; exact q)
    · exact isp_no trivial
    · exact isp_no trivial
    · exact isp_no trivial
    · refine isp_no1 ?_ (areI_no2 xs (r := []) trivial (by rw [List.length_nil]; omega) rfl) rfl (show 0 ≤ 63 by decide)
      refine (Fl.tup (k := 0) fun d m => ?_).sh
      rcases List.mem_append.mp m with m | m
      · exact FI d m
      · rw [List.mem_singleton.mp m]; exact Fl.non
    · refine isp_no1 ?_ (areI_no2 xs.dropLast (r := []) trivial (by rw [List.length_nil, List.length_dropLast]; omega) (by rw [List.all_cons, f0.sh]; rfl)) rfl (show 0 ≤ 63 by decide)
      refine (Fl.tup (k := 1) fun d m => ?_).sh
      rcases List.mem_append.mp m with m | m
      · exact (Fl.ints xs.dropLast d m).mono (by decide)
      · rw [List.mem_singleton.mp m]; exact f0
    · exact isp_len (show 3 ≤ 1000 by decide) (by rw [List.all_cons, FT.sh]; rfl) (show 3 ≠ 2 by decide)
  -- directions
  dsimp only
  rw [lcommon_l (W.mono (by decide)), bind_ok']
  have ed : decide ((((gcdL ways 0 : Nat) : Int)) = 1) = decide (gcdL ways 0 = 1) := by
    by_cases q : gcdL ways 0 = 1
    · rw [q]; rfl
    · rw [decide_eq_false q, decide_eq_false (by omega)]
  have x1 : datX (tu ways : Tu Int) = .ok (.tuple (ways.map ToD.d)) := datX_ok (by decide) _
  have x2 : datX ways = .ok (.list (ways.map ToD.d)) := datX_ok (by decide) _
  have x3 : catU (tu ways) (tu [(1 : Int)]) = .ok (tu (ways ++ [1])) := catU_ok (by show ways.length + 1 ≤ _; omega)
  have x4 : datX (tu (ways ++ [1]) : Tu Int) = .ok (.tuple ((ways ++ [1]).map ToD.d)) := datX_ok (by decide) _
  have x5 : compX (fun _ => Xc.ok true) (fun a => mulX 3 a) ways = .ok (ways.map (3 * ·)) := comp_list (fun _ => rfl) fun a m => by have := W.all a m; exact mulX_bd (by decide)
  have x6 : datX (tu (ways.map (3 * ·)) : Tu Int) = .ok (.tuple ((ways.map (3 * ·)).map ToD.d)) := datX_ok (by decide) _
  have x7 : repU (tu [true]) n = .ok (tu (List.replicate n.toNat [true]).flatten) := repU_ok ⟨n1, by omega, by decide, by intro h; cases h⟩
  have x8 : datX (tu (List.replicate n.toNat [true]).flatten : Tu Bool) = .ok (.tuple ((List.replicate n.toNat [true]).flatten.map ToD.d)) := datX_ok (by decide) _
  have x9 : datX ("1" : Str) = .ok (.str "1") := by unfold datX; rw [if_pos (by decide +kernel)]; rfl
  have D0 : m_is_direction (.tuple (ways.map ToD.d), (n, ())) = .ok (decide (gcdL ways 0 = 1)) := by
    rw [isd_yes _ lw, decide_eq_true e2, Bool.true_and]
  simp only [x1, bind_ok', D0, ed, truth_ok, Bool.not_true, Bool.false_eq_true, if_false, x2, s2, x3, x4, x5, x6, s5, x7, x8, x9, z1 _ _ (show ([_, _, _, _, _, _] : List PyData).length ≤ 100 by simp), v7]
  refine odd_loop (m := fun d => m_is_direction (d, (n, ()))) (fun d hd => by simp only [hd, bind_ok', truth_ok, Bool.not_true, Bool.false_eq_true, if_false]) ?_ ?_
  · intro d m
    simp only [List.mem_cons, List.not_mem_nil, or_false] at m
    rcases m with e | e | e | e | e | e <;> rw [e]
    · exact isd_no trivial
    · rw [isd_yes _ (by simp; omega), decide_eq_false (by simp; omega)]; rfl
    · rw [isd_yes _ (by simp; omega)]
      have := gcdL_mul 3 ways 0
      rw [Int.mul_zero] at this
      rw [this, decide_eq_false (show ¬ ((3 : Int).natAbs * gcdL ways 0 = 1) by show ¬ (3 * gcdL ways 0 = 1); omega), Bool.and_false]
    · exact isd_no trivial
    · obtain ⟨k, hk⟩ : ∃ k, n.toNat = k + 1 := ⟨n.toNat - 1, by omega⟩
      rw [hk, List.replicate_succ, List.flatten_cons]
      refine isd_no2 [] (x := .bool true) (r := (List.replicate k [true]).flatten.map ToD.d) trivial (by simp; omega) ?_
      rw [List.all_eq_true]
      intro d m
      rcases List.mem_cons.mp m with e | m
      · rw [e]; rfl
      · obtain ⟨b, _, rfl⟩ := List.mem_map.mp m; rfl
    · exact isd_no trivial
  dsimp only
  by_cases g0 : gcdL ways 0 = 0
  · rw [if_pos (by rw [g0]; rfl)]
    exact raises_dir g0
  · rw [if_neg (by simpa using g0)]
    have hb : Bd 200 ((gcdL ways 0 : Nat) : Int) := by
      by_cases z : ∃ a ∈ ways, a ≠ 0
      · obtain ⟨a, ma, ha⟩ := z
        have := Nat.le_of_dvd (by omega) (gcdL_a ways 0 ma)
        exact ⟨by have := (W.all a ma).lt; omega⟩
      · exfalso
        apply g0
        refine Nat.eq_zero_of_zero_dvd (dvd_gcdL (Nat.dvd_refl _) fun a ma => ?_)
        have : a = 0 := by
          by_cases q : a = 0
          · exact q
          · exact absurd ⟨a, ma, q⟩ z
        rw [this]; exact Nat.dvd_refl _
    have y1 := direction_ok W (by decide) g0
    have y2 : datX (tu (ways.map fun t => t.fdiv ((gcdL ways 0 : Nat) : Int)) : Tu Int) = .ok (.tuple ((ways.map fun t => t.fdiv ((gcdL ways 0 : Nat) : Int)).map ToD.d)) := datX_ok (by decide) _
    have y3 : m_is_direction (.tuple ((ways.map fun t => t.fdiv ((gcdL ways 0 : Nat) : Int)).map ToD.d), (n, ())) = .ok true := by
      rw [isd_yes _ (by rw [List.length_map]; exact lw), List.length_map, decide_eq_true e2, gcdL_div g0]; rfl
    rw [comp_fdiv (n := 200) (by decide) hb (by omega) ways (fun _ => rfl) (fun _ => rfl), bind_ok', bind_ok', y1, bind_ok', bind_ok', integers_refl _ (by show (ways.map _).length ≤ _; rw [List.length_map]; exact lw), bind_ok', if_pos rfl, y2, bind_ok', bind_ok', y3, bind_ok', bind_ok', truth_ok]
end LW

/-! K1G: k01: the law's sorting. -/
namespace LW
open PySem L2 FL
theorem before_ok {n : Nat} {p q : P2} (hl : (Tu.l p.1).length = (Tu.l q.1).length) (hs : (Tu.l p.1).length ≤ 1000) (bp : BdL n (Tu.l p.1)) (bq : BdL n (Tu.l q.1)) (cp : Bd n p.2) (cq : Bd n q.2) (hn : n ≤ 400000) :
    m__law_before (p, (q, ())) = .ok (decide ((Tu.l p.1).map (· * q.2) < (Tu.l q.1).map (· * p.2))) := by
  unfold m__law_before
  dsimp only
  have hlen : (HasLen.len p.1 : Nat) = (Tu.l p.1).length := rfl
  rw [hlen, rngX_b (by decide) (by omega) (by decide) (by omega), bind_ok']
  have go : ∀ (m k : Nat), k + m = (Tu.l p.1).length → forK (forX (fun (g568 : (((Tu Int) × Int) × (((Tu Int) × Int) × Unit))) (a569 : Int) => (Xc.bind (Xc.bind (getX (Tu.l g568.1.1) a569) fun t570 => (mulX t570 g568.2.1.2)) fun t571 => (Xc.bind (Xc.bind (getX (Tu.l g568.2.1.1) a569) fun t572 => (mulX t572 g568.1.2)) fun t573 => (if (!decide (t571 = t573)) = true then (Xc.ok (Lp.rt (decide (t571 < t573)))) else (Xc.ok (Lp.ct (g568.1, (g568.2.1, ())))))))) ((List.range m).map fun i => ((k + i : Nat) : Int)) (p, (q, ()))) id (fun _ => Xc.ok false) = .ok (decide (((Tu.l p.1).drop k).map (· * q.2) < ((Tu.l q.1).drop k).map (· * p.2))) := by
    intro m
    induction m with
    | zero =>
      intro k hk
      rw [List.drop_of_length_le (by omega), List.drop_of_length_le (by omega)]
      rfl
    | succ m ih =>
      intro k hk
      have h1 : k < (Tu.l p.1).length := by omega
      have h2 : k < (Tu.l q.1).length := by omega
      have e1 := getX_nat (List.getElem?_eq_getElem h1)
      have e2 := getX_nat (List.getElem?_eq_getElem h2)
      have b1 := bp.all _ (List.getElem_mem h1)
      have b2 := bq.all _ (List.getElem_mem h2)
      rw [List.range_succ_eq_map, List.map_cons, List.map_map, forX_cons]
      dsimp only
      rw [Nat.add_zero, e1, bind_ok', e2, bind_ok', mulX_bd (by omega), bind_ok', mulX_bd (by omega), bind_ok']
      rw [List.drop_eq_getElem_cons h1, List.drop_eq_getElem_cons h2, List.map_cons, List.map_cons]
      by_cases e : (Tu.l p.1)[k] * q.2 = (Tu.l q.1)[k] * p.2
      · rw [decide_eq_true e, if_neg (by decide), bind_ok']
        have := ih (k + 1) (by omega)
        rw [show ((fun i => ((k + i : Nat) : Int)) ∘ Nat.succ) = (fun i => ((k + 1 + i : Nat) : Int)) from funext fun i => by show ((k + (i + 1) : Nat) : Int) = _; congr 1; omega]
        refine Eq.trans this ?_
        congr 1
        refine decide_eq_decide.mpr ?_
        rw [List.cons_lt_cons_iff]
        constructor
        · intro h; exact .inr ⟨e, h⟩
        · rintro (h | ⟨_, h⟩)
          · rw [e] at h; exact absurd h (Int.lt_irrefl _)
          · exact h
      · rw [decide_eq_false e, if_pos (show (!false) = true from rfl), bind_ok']
        show Xc.ok (decide _) = _
        congr 1
        refine decide_eq_decide.mpr ?_
        rw [List.cons_lt_cons_iff]
        constructor
        · intro h; exact .inl h
        · rintro (h | ⟨h, _⟩)
          · exact h
          · exact absurd h e
  have := go (Tu.l p.1).length 0 (by omega)
  rw [List.drop_zero, List.drop_zero] at this
  refine Eq.trans ?_ this
  have er : rangeL 0 ((Tu.l p.1).length : Int) = (List.range (Tu.l p.1).length).map fun i => ((0 + i : Nat) : Int) := by
    unfold rangeL
    rw [show (((Tu.l p.1).length : Int) - 0).toNat = (Tu.l p.1).length by omega]
    exact List.map_congr_left fun i _ => by omega
  rw [er]
/-- how many of a list in strict order lie before -/
theorem pre_split {α : Type} {R : α → α → Prop} [DecidableRel R] (tr : ∀ a b c, R a b → R b c → R a c) (x : α) : ∀ {l : List α}, l.Pairwise R → ∃ c, c ≤ l.length ∧ (∀ (j : Nat) d, l[j]? = some d → (R d x ↔ j < c))
  | [], _ => ⟨0, Nat.le_refl _, fun j d h => by simp at h⟩
  | a :: l, h => by
    have h' := List.pairwise_cons.mp h
    obtain ⟨c, hc, hj⟩ := pre_split tr x h'.2
    by_cases q : R a x
    · refine ⟨c + 1, by rw [List.length_cons]; omega, fun j d e => ?_⟩
      cases j with
      | zero => simp at e; subst e; exact ⟨fun _ => by omega, fun _ => q⟩
      | succ j => rw [hj j d (by simpa using e)]; omega
    · refine ⟨0, Nat.zero_le _, fun j d e => ⟨fun r => ?_, fun z => by omega⟩⟩
      exfalso
      cases j with
      | zero => simp at e; subst e; exact q r
      | succ j =>
        have e' : l[j]? = some d := by simpa using e
        exact q (tr _ _ _ (h'.1 d (List.mem_of_getElem? e')) r)
theorem lsorted_ok {n : Nat} {L : Int} {ps : List P2} {w : Nat} (hL : 0 < L) (hp : ∀ p ∈ ps, KL L p ∧ (Tu.l p.1).length = w ∧ BdL n (Tu.l p.1) ∧ Bd n p.2) (hw : w ≤ 1000) (hn : n ≤ 400000) (hl : ps.length ≤ 1000) :
    ∃ r, m__law_sorted (ps, ()) = .ok r ∧ (r.Pairwise fun a b => key L a < key L b) ∧ ∀ x, x ∈ r ↔ x ∈ ps := by
  unfold m__law_sorted
  dsimp only
  refine foldEx (fun pre g => ∃ done : List P2, g = (ps, (done, ())) ∧ (done.Pairwise fun a b => key L a < key L b) ∧ (∀ x, x ∈ done ↔ x ∈ pre) ∧ done.length ≤ pre.length) ⟨[], rfl, .nil, fun x => by simp, Nat.le_refl _⟩ ?_ ?_
  · rintro pre p rest g hr ⟨done, rfl, ds, dm, dn⟩
    have mp : p ∈ ps := by rw [hr]; simp
    obtain ⟨kp, lp, bp, cp⟩ := hp p mp
    have md : ∀ d ∈ done, d ∈ ps := fun d m => by rw [hr]; exact List.mem_append_left _ ((dm d).mp m)
    have dl : done.length ≤ 1000 := by
      have := congrArg List.length hr
      rw [List.length_append] at this
      omega
    obtain ⟨c, hc, hj⟩ := pre_split (R := fun a b => key L a < key L b) (fun _ _ _ => ltL_trans) p ds
    dsimp only
    rw [hlenL, rngX_b (by decide) (by omega) (by decide) (by omega), bind_ok']
    refine foldEi (fun i g => g = (ps, (done, (p, (((min i c : Nat) : Int), ()))))) (by rw [Nat.zero_min]; rfl) ?_ ?_
    · rintro i g a ha rfl
      obtain ⟨rfl, hi⟩ := rangeL_nat ha
      have ed : done[i]? = some done[i] := List.getElem?_eq_getElem hi
      obtain ⟨kd, ld, bd, cd⟩ := hp _ (md _ (List.getElem_mem hi))
      dsimp only
      rw [getX_nat ed, bind_ok', bind_ok', before_ok (n := n) (by rw [ld, lp]) (by omega) bd bp cd cp hn, bind_ok']
      have ei : decide ((Tu.l done[i].1).map (· * p.2) < (Tu.l p.1).map (· * done[i].2)) = decide (i < c) := decide_eq_decide.mpr ((key_lt hL kd kp).symm.trans (hj i _ ed))
      rw [ei]
      by_cases q : i < c
      · rw [decide_eq_true q, if_pos rfl, bind_ok']
        refine ⟨_, rfl, ?_⟩
        rw [Nat.min_eq_left (show i + 1 ≤ c by omega)]
        rfl
      · rw [decide_eq_false q, if_neg (by decide), bind_ok']
        refine ⟨_, rfl, ?_⟩
        rw [Nat.min_eq_right (show c ≤ i by omega), Nat.min_eq_right (show c ≤ i + 1 by omega)]
    rintro g rfl
    rw [rangeL_len, show ((done.length : Int) - 0).toNat = done.length by omega, Nat.min_eq_right hc]
    dsimp only
    rw [inDX_ok (by decide) p done, bind_ok', bind_ok']
    by_cases q : p ∈ done
    · rw [decide_eq_true q, if_neg (by decide), bind_ok']
      refine ⟨_, rfl, done, rfl, ds, fun x => ?_, by rw [List.length_append]; omega⟩
      rw [dm x, List.mem_append, List.mem_singleton]
      constructor
      · exact .inl
      · rintro (h | rfl)
        · exact h
        · exact (dm _).mp q
    · rw [decide_eq_false q, if_pos (show (!false) = true from rfl), insX_ok (by omega) (by omega) (by omega), bind_ok', bind_ok', Int.toNat_natCast]
      refine ⟨_, rfl, _, rfl, ?_, fun x => ?_, ?_⟩
      · have sp : (done.take c ++ done.drop c).Pairwise fun a b => key L a < key L b := by rw [List.take_append_drop]; exact ds
        obtain ⟨s1, s2, s3⟩ := List.pairwise_append.mp sp
        have lo : ∀ d ∈ done.take c, key L d < key L p := fun d m => by
          obtain ⟨j, hj', e⟩ := List.getElem_of_mem m
          rw [List.length_take] at hj'
          rw [List.getElem_take] at e
          exact (hj j d (by rw [← e]; exact List.getElem?_eq_getElem (by omega))).mpr (by omega)
        have hi : ∀ d ∈ done.drop c, key L p < key L d := fun d m => by
          obtain ⟨j, hj', e⟩ := List.getElem_of_mem m
          rw [List.length_drop] at hj'
          rw [List.getElem_drop] at e
          have ed : done[c + j]? = some d := by rw [← e]; exact List.getElem?_eq_getElem (by omega)
          have md' := List.mem_of_getElem? ed
          have := (hj (c + j) d ed)
          exact ltL_total (fun z => by have := this.mp z; omega) fun z => q (key_inj hL (hp d (md d md')).1 kp z ▸ md')
        refine List.pairwise_append.mpr ⟨List.pairwise_append.mpr ⟨s1, List.pairwise_singleton _ _, fun a ma b mb => by rw [List.mem_singleton.mp mb]; exact lo a ma⟩, s2, fun a ma b mb => ?_⟩
        rcases List.mem_append.mp ma with ma | ma
        · exact s3 a ma b mb
        · rw [List.mem_singleton.mp ma]; exact hi b mb
      · have e : x ∈ done ↔ x ∈ done.take c ∨ x ∈ done.drop c := by rw [← List.mem_append, List.take_append_drop]
        rw [List.mem_append, List.mem_append, List.mem_append, List.mem_singleton, ← dm x, e]
        constructor
        · rintro ((h | h) | h)
          · exact .inl (.inl h)
          · exact .inr h
          · exact .inl (.inr h)
        · rintro ((h | h) | h)
          · exact .inl (.inl h)
          · exact .inr h
          · exact .inl (.inr h)
      · simp only [List.length_append, List.length_take, List.length_drop, List.length_cons, List.length_nil]
        omega
  · rintro g ⟨done, rfl, ds, dm, _⟩
    exact ⟨done, rfl, ds, dm⟩
end LW

/-! K1H: k01: the law. -/
namespace LW
open PySem L2 FL
theorem isi_ll {α : Type} [Rp α] (t : List α) : isiX (HasTy.ty t) "list" = .ok true := by
  unfold isiX
  rfl
theorem comp_none {α β : Type} {t : α → Xc Bool} {f : α → Xc β} : ∀ {l : List α}, (∀ a ∈ l, t a = .ok false) → compX t f l = .ok []
  | [], _ => rfl
  | a :: l, h => by
    simp only [compX, h a (by simp), bind_ok', Bool.false_eq_true, if_false]
    exact comp_none fun b m => h b (by simp [m])
theorem nodup_len {α : Type} {l : List α} (h : l.Nodup) {m : List α} (s : ∀ x, x ∈ l → x ∈ m) : l.length ≤ m.length := by
  classical
  induction l generalizing m with
  | nil => exact Nat.zero_le _
  | cons a l ih =>
    have h' := List.pairwise_cons.mp h
    have ma := s a (by simp)
    have := ih h'.2 (m := m.erase a) fun x mx => (List.mem_erase_of_ne (fun e => h'.1 x mx e.symm)).mpr (s x (by simp [mx]))
    rw [List.length_erase_of_mem ma] at this
    have := List.length_pos_of_mem ma
    rw [List.length_cons]
    omega
theorem pt_dvd {l : List Int} {b : Int} (h : b ≠ 0) : (pt l b).2.natAbs ∣ b.natAbs := by
  obtain ⟨c, xs, y, hc, e1, e2, _, _, e3⟩ := pt_split (l := l) h
  rw [e3, e2, Int.natAbs_mul]
  exact Nat.dvd_mul_left _ _
theorem mod_b {x m : Int} (h : m ≠ 0) : modX x m = .ok (x.fmod m) := modX_b h
theorem tops_ok {dr : List Int} (hd : Dr dr) (hl : (dr.length : Int) = 60) {at_ size : Int} (wide : Bool) (h0 : 0 ≤ at_) (h1 : at_ + size ≤ 60) (s1 : 1 ≤ size) : ∃ T, m__law_tops (dr, (at_, (size, (wide, ())))) = .ok T ∧ (T.length : Int) = size ∧ BdL 200 T := by
  unfold m__law_tops
  dsimp only
  rw [rngX_b (by decide) (by omega) (by decide) (by omega), bind_ok']
  have e : compX (fun _ => Xc.ok true) (fun a => Xc.bind (Xc.bind (getX dr (at_ + a)) fun t => modX t 19) fun t => Xc.ok (t - 9)) (rangeL 0 size) = .ok ((List.range size.toNat).map fun k => (dv dr (at_ + (k : Nat))).fmod 19 - 9) := by
    refine comp_range (fun _ => rfl) (by rw [List.length_map, List.length_range]; omega) fun k b hb => ?_
    rw [List.getElem?_map] at hb
    have hk : k < size.toNat := by
      by_cases q : k < size.toNat
      · exact q
      · rw [List.getElem?_eq_none (by rw [List.length_range]; omega)] at hb; cases hb
    rw [List.getElem?_range hk] at hb
    cases hb
    rw [getX_dv (by omega) (by omega), bind_ok', modX_b (by decide), bind_ok']
  rw [e, bind_ok']
  have B : BdL 5 ((List.range size.toNat).map fun k => (dv dr (at_ + (k : Nat))).fmod 19 - 9) := ⟨fun a m => by
    obtain ⟨k, _, rfl⟩ := List.mem_map.mp m
    have := mod_range (a := dv dr (at_ + (k : Nat))) (m := 19) (by decide)
    exact ⟨by show _ < 32; omega⟩⟩
  have Tl : (((List.range size.toNat).map fun k => (dv dr (at_ + (k : Nat))).fmod 19 - 9).length : Int) = size := by rw [List.length_map, List.length_range]; omega
  generalize ((List.range size.toNat).map fun k => (dv dr (at_ + (k : Nat))).fmod 19 - 9) = T at B e Tl
  cases wide with
  | false =>
    rw [if_neg (by decide), bind_ok']
    exact ⟨T, rfl, Tl, B.mono (by decide)⟩
  | true =>
    have p36 : powX 10 36 = .ok (10 ^ 36) := by rw [powX_b (by decide)]; rfl
    have bp : Bd 120 ((10 : Int) ^ 36) := ⟨by decide⟩
    have d0 := dv_range hd at_
    have bd : Bd 10 (dv dr at_) := ⟨by show _ < 1024; omega⟩
    rw [if_pos rfl, comp_list (h := fun x => x * 10 ^ 36 + dv dr at_) (fun _ => rfl) (fun x mx => by
      have := B.all x mx
      rw [p36, bind_ok', mulX_bd (by decide), bind_ok', getX_dv (by omega) (by omega), bind_ok']), bind_ok', bind_ok']
    exact ⟨_, rfl, by rw [List.length_map]; exact Tl, bdl_map B fun x hx => bd_up⟩
def wdiv (dr : List Int) : Int := 1 + ((dv dr 1).fdiv 8).fmod 3
theorem ways_ok {dr : List Int} (hd : Dr dr) (hl : (dr.length : Int) = 60) {size : Int} (s1 : 1 ≤ size) (s6 : size ≤ 6) : ∃ W, compX (fun _ => Xc.ok true)
                      (fun a976 =>
                        (((getX dr (18 + a976)).bind fun t977 => modX t977 13).bind fun t981 =>
                              ((((getX dr 1).bind fun t978 => fdvX t978 8).bind fun t979 => modX t979 3).bind
                                    fun t948 => Xc.ok (1 + t948)).bind
                                fun t982 => fdvX t981 t982).bind
                          fun t987 =>
                          (((((getX dr 1).bind fun t978 => fdvX t978 8).bind fun t979 => modX t979 3).bind fun t948 =>
                                    Xc.ok (1 + t948)).bind
                                fun t986 => fdvX 4 t986).bind
                            fun t988 => Xc.ok (t987 - t988)) (rangeL 0 size) = .ok W ∧ (W.length : Int) = size ∧ BdL 200 W := by
  have m3 := mod_range (a := (dv dr 1).fdiv 8) (m := 3) (by decide)
  have bw : Bd 3 (wdiv dr) := ⟨by unfold wdiv; show _ < 8; omega⟩
  have w0 : wdiv dr ≠ 0 := by unfold wdiv; omega
  have g1 : getX dr 1 = .ok (dv dr 1) := getX_dv (by decide) (by omega)
  have f8 : fdvX (dv dr 1) 8 = .ok ((dv dr 1).fdiv 8) := fdvX_bd (by decide) (by decide)
  refine ⟨(List.range size.toNat).map fun k => ((dv dr (18 + (k : Nat))).fmod 13).fdiv (wdiv dr) - (4 : Int).fdiv (wdiv dr), ?_, by rw [List.length_map, List.length_range]; omega, ⟨fun a m => ?_⟩⟩
  · refine comp_range (fun _ => rfl) (by rw [List.length_map, List.length_range]; omega) fun k b hb => ?_
    rw [List.getElem?_map] at hb
    have hk : k < size.toNat := by
      by_cases q : k < size.toNat
      · exact q
      · rw [List.getElem?_eq_none (by rw [List.length_range]; omega)] at hb; cases hb
    rw [List.getElem?_range hk] at hb
    cases hb
    rw [getX_dv (by omega) (by omega), bind_ok', modX_b (by decide), bind_ok', g1, bind_ok', f8, bind_ok', modX_b (by decide), bind_ok', bind_ok']
    show ((fdvX _ (wdiv dr)).bind fun _ => (fdvX 4 (wdiv dr)).bind _) = _
    rw [fdvX_bd (by decide) w0, bind_ok', fdvX_bd (by decide) w0, bind_ok']
  · obtain ⟨k, _, rfl⟩ := List.mem_map.mp m
    have r := mod_range (a := dv dr (18 + (k : Nat))) (m := 13) (by decide)
    have h1 := fdiv_le ((dv dr (18 + (k : Nat))).fmod 13) (wdiv dr)
    have h2 := fdiv_le 4 (wdiv dr)
    have : Bd 5 (((dv dr (18 + (k : Nat))).fmod 13).fdiv (wdiv dr) - (4 : Int).fdiv (wdiv dr)) := ⟨by show _ < 32; omega⟩
    exact this.mono (by decide)
theorem bd_small {n : Nat} {x : Int} (h : -1000 ≤ x ∧ x ≤ 1000) (hn : 10 ≤ n := by decide) : Bd n x := (show Bd 10 x from ⟨by show _ < 1024; omega⟩).mono hn
theorem law_true : ∀ ns : List Int, ns.length ≤ 63 → m_law (ns, ()) = .ok true := by
  intro ns hn
  obtain ⟨dr, e, hl, hd⟩ := draws_ok (c := 60) hn (by decide) (by decide)
  have gd : ∀ i : Int, 0 ≤ i → i < 60 → getX dr i = .ok (dv dr i) := fun i h0 h1 => getX_dv h0 (by omega)
  have md : ∀ x m : Int, m ≠ 0 → modX x m = .ok (x.fmod m) := fun x m h => modX_b h
  have s0 := mod_range (a := dv dr 0) (m := 6) (by decide)
  obtain ⟨T1, e1, l1, b1⟩ := tops_ok hd hl (at_ := 2) (size := 1 + (dv dr 0).fmod 6) (decide ((dv dr 1).fmod 8 = 5)) (by decide) (by omega) (by omega)
  obtain ⟨T2, e2, l2, b2⟩ := tops_ok hd hl (at_ := 9) (size := 1 + (dv dr 0).fmod 6) (decide ((dv dr 1).fmod 8 = 5)) (by decide) (by omega) (by omega)
  obtain ⟨W, e3, l3, b3⟩ := ways_ok hd hl (size := 1 + (dv dr 0).fmod 6) (by omega) (by omega)
  have r8 := mod_range (a := dv dr 8) (m := 12) (by decide)
  have r15 := mod_range (a := dv dr 15) (m := 12) (by decide)
  have r16 := mod_range (a := dv dr 16) (m := 19) (by decide)
  have r17 := mod_range (a := dv dr 17) (m := 9) (by decide)
  have c1 : catL T1 [1 + (dv dr 8).fmod 12] = .ok (T1 ++ [1 + (dv dr 8).fmod 12]) := catL_ok (by rw [List.length_cons, List.length_nil]; omega)
  have c2 : catL T2 [1 + (dv dr 15).fmod 12] = .ok (T2 ++ [1 + (dv dr 15).fmod 12]) := catL_ok (by rw [List.length_cons, List.length_nil]; omega)
  have rs : rngX 0 (1 + (dv dr 0).fmod 6) = .ok (rangeL 0 (1 + (dv dr 0).fmod 6)) := rngX_b (by decide) (by omega) (by decide) (by omega)
  have B16 : Bd 200 ((dv dr 16).fmod 19 - 9) := bd_small (by omega)
  have B17 : Bd 200 (1 + (dv dr 17).fmod 9) := bd_small (by omega)
  have lw := llow (n := 200) (a := (dv dr 16).fmod 19 - 9) (b := 1 + (dv dr 17).fmod 9) (by decide) (by omega)
  unfold m_law
  refine okB _ e ?_
  refine okB (1 + (dv dr 0).fmod 6) (by simp (discharger := decide) only [gd, md, bind_ok']) ?_
  refine okB (decide ((dv dr 1).fmod 8 = 5)) (by simp (discharger := decide) only [gd, md, bind_ok']) ?_
  refine okB (T1 ++ [1 + (dv dr 8).fmod 12]) (by simp (discharger := decide) only [gd, md, bind_ok', e1, szX_1, c1]) ?_
  refine okB (T2 ++ [1 + (dv dr 15).fmod 12]) (by simp (discharger := decide) only [gd, md, bind_ok', e2, szX_1, c2]) ?_
  refine okB (lowq ((dv dr 16).fmod 19 - 9) (1 + (dv dr 17).fmod 9)) (by simp (discharger := decide) only [gd, md, bind_ok', lw]) ?_
  refine okB W (by rw [rs, bind_ok']; exact e3) ?_
  dsimp only
  have sh1 := lowq_pos (a := (dv dr 16).fmod 19 - 9) (b := 1 + (dv dr 17).fmod 9) (by omega)
  have BS1 : Bd 200 (lowq ((dv dr 16).fmod 19 - 9) (1 + (dv dr 17).fmod 9)).1 := bd_low1
  have BS2 : Bd 200 (lowq ((dv dr 16).fmod 19 - 9) (1 + (dv dr 17).fmod 9)).2 := bd_low2
  have BA : Bd 200 (1 + (dv dr 8).fmod 12) := bd_small (by omega)
  have BB : Bd 200 (1 + (dv dr 15).fmod 12) := bd_small (by omega)
  have A0 : 1 ≤ 1 + (dv dr 8).fmod 12 := by omega
  have A1 : (1 + (dv dr 8).fmod 12).natAbs < 2 ^ 64 := by omega
  have B0 : 1 ≤ 1 + (dv dr 15).fmod 12 := by omega
  have B1 : (1 + (dv dr 15).fmod 12).natAbs < 2 ^ 64 := by omega
  have S1 : 1 ≤ 1 + (dv dr 0).fmod 6 := by omega
  have S6 : 1 + (dv dr 0).fmod 6 ≤ 6 := by omega
  clear e1 e2 e3 c1 c2 lw r8 r15 r16 r17 B16 B17
  generalize lowq ((dv dr 16).fmod 19 - 9) (1 + (dv dr 17).fmod 9) = sh at *
  generalize 1 + (dv dr 8).fmod 12 = a1 at *
  generalize 1 + (dv dr 15).fmod 12 = a2 at *
  generalize decide ((dv dr 1).fmod 8 = 5) = wide at *
  generalize 1 + (dv dr 0).fmod 6 = size at *
  obtain ⟨s0', s1'⟩ := sh
  replace sh1 : 1 ≤ s1' := sh1
  replace BS1 : Bd 200 s0' := BS1
  replace BS2 : Bd 200 s1' := BS2
  have hw : ∃ V : List Int, ((((getX dr 24).bind fun t991 => modX t991 6).bind fun t992 => Xc.ok (decide (t992 = 0))).bind fun t998 =>
          if t998 = true then
            ((szX [0]).bind fun t995 => repX t995 size).bind fun t996 =>
              Xc.ok (ns, dr, size, wide, T1 ++ [a1], T2 ++ [a2], ((s0', s1') : Int × Int), t996, ())
          else
            Xc.ok (ns, dr, size, wide, T1 ++ [a1], T2 ++ [a2], (s0', s1'), W, ())) = Xc.ok (ns, dr, size, wide, T1 ++ [a1], T2 ++ [a2], (s0', s1'), V, ()) ∧ (V.length : Int) = size ∧ BdL 200 V := by
    simp (discharger := decide) only [gd, md, bind_ok', szX_1]
    by_cases q : (dv dr 24).fmod 6 = 0
    · refine ⟨repL [0] size, ?_, ?_, ⟨fun x m => ?_⟩⟩
      · rw [decide_eq_true q, if_pos rfl]
        have : repX [(0 : Int)] size = .ok (repL [0] size) := by
          have := size_ge
          unfold repX
          rw [if_pos ⟨by omega, by omega, by rw [List.length_cons, List.length_nil]; omega⟩]
        rw [this, bind_ok']
      · rw [repL_len, List.length_cons, List.length_nil]; omega
      · unfold repL at m
        obtain ⟨l, ml, mx⟩ := List.mem_flatten.mp m
        rw [(List.mem_replicate.mp ml).2] at mx
        rw [List.mem_singleton.mp mx]
        exact bd_small (by decide)
    · exact ⟨W, by rw [decide_eq_false q, if_neg (by decide)], l3, b3⟩
  obtain ⟨V, eV, lV, bV⟩ := hw
  refine okB _ eV ?_
  dsimp only
  have rc := mod_range (a := dv dr 25) (m := size + 1) (by omega)
  have rg := mod_range (a := dv dr 26) (m := 2) (by decide)
  refine okB ((dv dr 25).fmod (size + 1)) (by rw [gd _ (by decide) (by decide), bind_ok', md _ _ (by omega)]) ?_
  refine okB (1 - 2 * (dv dr 26).fmod 2) (by rw [gd _ (by decide) (by decide), bind_ok', md _ _ (by decide), bind_ok', mulX_l (by decide), bind_ok']) ?_
  generalize (dv dr 25).fmod (size + 1) = cut at *
  have hsg : (1 - 2 * (dv dr 26).fmod 2) ≠ 0 := by omega
  have Bsg : Bd 200 (1 - 2 * (dv dr 26).fmod 2) := bd_small (by omega)
  generalize 1 - 2 * (dv dr 26).fmod 2 = sg at *
  have ec : compX (fun _ => Xc.ok true) (fun a => mulX sg a) T1 = .ok (T1.map (sg * ·)) := comp_list (fun _ => rfl) fun x m => by have := b1.all x m; exact mulX_bd (by decide)
  have em : mulX sg a1 = .ok (sg * a1) := mulX_bd (by decide)
  have na1 : a1 ≠ 0 := by omega
  have Bsa : Bd 400 (sg * a1) := bd_up
  have ep : m_point_l (T1.map (sg * ·), (sg * a1, ())) = .ok (pt T1 a1) := by
    rw [point_l (n := 400) (by decide) (Int.mul_ne_zero hsg na1)]
    congr 1
    refine pt_eq (Int.mul_ne_zero hsg na1) na1 ?_
    rw [List.map_map]
    exact List.map_congr_left fun x _ => by show sg * x * a1 = x * (sg * a1); grind
  have lp1 := lpoint (n := 200) (l := T1) (b := a1) (by decide) na1
  have sp1 := same_pt (l := T1) (b := a1) (by omega)
  simp only [cutL_init, List.dropLast_concat]
  refine okB (T1.map (sg * ·)) ec ?_
  refine okB false (by rw [getX_last]; simp only [bind_ok', em, ep, lp1, sp1, Bool.not_true]) ?_
  rw [if_neg (by decide)]
  refine okB false (by rw [ec, bind_ok', eqdX_ok (by decide) _ _, bind_ok', bind_ok', decide_eq_true rfl, Bool.not_true, if_neg (by decide), raises_pt, bind_ok', Bool.not_true]) ?_
  rw [if_neg (by decide)]
  have w1 := two_ok (t1 := T1) (t2 := T2) (ways := V) (b1 := a1) (b2 := a2) (s0 := s0') (s1 := s1') (cut := cut) (by omega) (by omega) (by omega) A0 B0 sh1 rc.1 (by omega) A1
  have w2 := two_ok (t1 := T2) (t2 := T1) (ways := V) (b1 := a2) (b2 := a1) (s0 := s0') (s1 := s1') (cut := cut) (by omega) (by omega) (by omega) B0 A0 sh1 rc.1 (by omega) B1
  refine okB false (by rw [w1, bind_ok', bind_ok', Bool.not_true, if_neg (by decide), w2, bind_ok', Bool.not_true]) ?_
  rw [if_neg (by decide)]
  have o200 : Bd 200 1 := bd_small (by decide)
  have n200 : BdL 200 [] := ⟨fun a m => by cases m⟩
  have p0 : m_point_of ([], ()) = .ok (tu [], 1) := point_of_pt (t1 := []) (b1 := 1) (by decide) (by decide)
  have j0 : m_joined ((tu [], 1), ((tu [], 1), ())) = .ok (tu [], 1) := joined_ok (t1 := []) (t2 := []) (b1 := 1) (b2 := 1) (by decide) (by decide) (by decide)
  have z0 : szX ([] : List Int) = .ok [] := szX_b (by decide)
  have q0 : m__law_same ((tu [], 1), ((tu [], 1), ())) = .ok true := same_refl _ (by decide)
  refine okB false (by simp only [p0, j0, z0, q0, bind_ok', Bool.not_true, Bool.false_eq_true, if_false]) ?_
  rw [if_neg (by decide)]
  have lpp := pt_lp (l := T1) na1
  have ek : m__law_kinds (pt T1 a1, (V, (size, ()))) = .ok true := kinds_ok (xs := Tu.l (pt T1 a1).1) (y := (pt T1 a1).2) lpp.pos lpp.cop (bd_pt BA) (bdl_pt b1) bV (by rw [pt_len]; exact l1) lV S1 S6
  refine okB false (by rw [getX_last]; simp only [bind_ok', lp1, ek, Bool.not_true]) ?_
  rw [if_neg (by decide)]
  have r27 := mod_range (a := dv dr 27) (m := 3) (by decide)
  have r28 := mod_range (a := dv dr 28) (m := 8) (by decide)
  refine okB (1 + (dv dr 27).fmod 3) (by rw [gd _ (by decide) (by decide), bind_ok', md _ _ (by decide), bind_ok']) ?_
  have rw28 : (((getX dr 28).bind fun t1083 => modX t1083 8).bind fun t1084 => rngX 0 t1084) = .ok (rangeL 0 ((dv dr 28).fmod 8)) := by
    rw [gd _ (by decide) (by decide), bind_ok', md _ _ (by decide), bind_ok', rngX_b (by decide) (by omega) (by decide) (by omega)]
  rw [rw28, bind_ok']
  generalize hwd : 1 + (dv dr 27).fmod 3 = width at *
  have wd1 : 1 ≤ width := by omega
  have wd3 : width ≤ 3 := by omega
  generalize hcn : (dv dr 28).fmod 8 = cnt at *
  refine foldKi (fun i g => ∃ ps : List P2, g = (ns, (dr, (size, (wide, (T1 ++ [a1], (T2 ++ [a2], ((s0', s1'), (V, (cut, (sg, (T1.map (sg * ·), (width, (ps, ()))))))))))))) ∧ ps.length = i ∧ ∀ p ∈ ps, Low p ∧ p.2.natAbs ∣ 6 ∧ BdL 10 (Tu.l p.1) ∧ Bd 10 p.2 ∧ (Tu.l p.1).length = width.toNat) ⟨[], rfl, rfl, fun p m => by cases m⟩ ?_ ?_
  · rintro i g a ha ⟨ps, rfl, hps, hall⟩
    obtain ⟨ra, hlt⟩ := rangeL_get ha
    have ha0 : 0 ≤ a := by omega
    have ha6 : a ≤ 6 := by omega
    have m4 : mulX 4 a = .ok (4 * a) := mulX_l (by decide)
    dsimp only
    rw [rngX_b (by decide) (by omega) (by decide) (by omega), bind_ok']
    have e : compX (fun _ => Xc.ok true) (fun b => (((((mulX 4 a).bind fun t => Xc.ok (29 + t)).bind fun t => Xc.ok (t + b)).bind fun t => getX dr t).bind fun t => modX t 5).bind fun t => Xc.ok (t - 2)) (rangeL 0 width) = .ok ((List.range width.toNat).map fun k => (dv dr (29 + 4 * a + (k : Nat))).fmod 5 - 2) := by
      refine comp_range (fun _ => rfl) (by rw [List.length_map, List.length_range]; omega) fun k b hb => ?_
      rw [List.getElem?_map] at hb
      have hk : k < width.toNat := by
        by_cases q : k < width.toNat
        · exact q
        · rw [List.getElem?_eq_none (by rw [List.length_range]; omega)] at hb; cases hb
      rw [List.getElem?_range hk] at hb
      cases hb
      rw [m4, bind_ok', bind_ok', bind_ok', gd _ (by omega) (by omega), bind_ok', md _ _ (by decide), bind_ok']
    rw [e, bind_ok']
    have B : BdL 10 ((List.range width.toNat).map fun k => (dv dr (29 + 4 * a + (k : Nat))).fmod 5 - 2) := ⟨fun x m => by
      obtain ⟨k, _, rfl⟩ := List.mem_map.mp m
      have := mod_range (a := dv dr (29 + 4 * a + (k : Nat))) (m := 5) (by decide)
      exact ⟨by show _ < 1024; omega⟩⟩
    have Tl : ((List.range width.toNat).map fun k => (dv dr (29 + 4 * a + (k : Nat))).fmod 5 - 2).length = width.toNat := by rw [List.length_map, List.length_range]
    generalize ((List.range width.toNat).map fun k => (dv dr (29 + 4 * a + (k : Nat))).fmod 5 - 2) = T at B e Tl
    have r3 := mod_range (a := dv dr (29 + 4 * a + 3)) (m := 3) (by decide)
    rw [m4, bind_ok', bind_ok', bind_ok', gd _ (by omega) (by omega), bind_ok', md _ _ (by decide), bind_ok', bind_ok', bind_ok']
    have B3 : Bd 10 (1 + (dv dr (29 + 4 * a + 3)).fmod 3) := ⟨by show _ < 1024; omega⟩
    have d6 : (1 + (dv dr (29 + 4 * a + 3)).fmod 3).natAbs ∣ 6 := by
      have : (1 + (dv dr (29 + 4 * a + 3)).fmod 3) = 1 ∨ (1 + (dv dr (29 + 4 * a + 3)).fmod 3) = 2 ∨ (1 + (dv dr (29 + 4 * a + 3)).fmod 3) = 3 := by omega
      rcases this with q | q | q <;> rw [q] <;> decide
    have n0 : (1 + (dv dr (29 + 4 * a + 3)).fmod 3) ≠ 0 := by omega
    generalize 1 + (dv dr (29 + 4 * a + 3)).fmod 3 = y at *
    have lp := lpoint (n := 10) (l := T) (b := y) (by decide) n0
    rw [bind_ok', lp, bind_ok', appX_b (by omega), bind_ok']
    refine ⟨_, rfl, ps ++ [pt T y], rfl, by rw [List.length_append, hps]; rfl, fun p m => ?_⟩
    rcases List.mem_append.mp m with m | m
    · exact hall p m
    · rw [List.mem_singleton.mp m]
      refine ⟨pt_lp n0, Nat.dvd_trans ?_ d6, bdl_pt B, bd_pt B3, by rw [pt_len]; exact Tl⟩
      have c := pt_dvd (l := T) n0
      exact c
  · rintro g ⟨ps, rfl, hps, hall⟩
    dsimp only
    rw [rangeL_len] at hps
    obtain ⟨L, r, hL, hk, e1, o1, m1⟩ := sorted_ok (n := 10) (ps := ps) (D := 6) (by decide) (by decide) (fun p m => ⟨(hall p m).1, (hall p m).2.1, (hall p m).2.2.1⟩) (by decide) (by omega)
    obtain ⟨r', e2, o2, m2⟩ := lsorted_ok (n := 10) (L := L) (ps := ps) (w := width.toNat) hL (fun p m => ⟨hk p m, (hall p m).2.2.2.2, (hall p m).2.2.1, (hall p m).2.2.2.1⟩) (by omega) (by decide) (by omega)
    have er : r = r' := strict_uniq (R := fun a b => key L a < key L b) (fun _ => ltL_irrefl _) (fun _ _ _ => ltL_trans) o1 o2 fun a => (m1 a).trans (m2 a).symm
    subst er
    rw [e1, bind_ok', e2, bind_ok']
    refine okB false (by rw [eqdX_ok (by decide) ps ps, bind_ok', bind_ok', decide_eq_true rfl, Bool.not_true, if_neg (by decide), isi_ll, bind_ok', bind_ok', Bool.not_true, if_neg (by decide), decide_eq_true rfl, Bool.not_true]) ?_
    rw [if_neg (by decide), hlenL]
    have rl : r.length ≤ 1000 := by
      have nd : r.Nodup := List.Pairwise.imp (fun {a b} (h : key L a < key L b) => show a ≠ b from fun e => ltL_irrefl (key L b) (by rw [e] at h; exact h)) o1
      have := nodup_len nd fun x => (m1 x).mp
      omega
    rw [rngX_b (by decide) (by omega) (by decide) (by omega), bind_ok', comp_none, bind_ok', bind_ok']
    · rfl
    · intro a ma
      obtain ⟨i, hi⟩ := List.getElem?_of_mem ma
      obtain ⟨rfl, hlt⟩ := rangeL_nat hi
      have eg := getX_nat (List.getElem?_eq_getElem hlt)
      have sr := same_refl r[i] (by rw [(hall _ ((m1 _).mp (List.getElem_mem hlt))).2.2.2.2]; omega)
      simp only [eg, sr, bind_ok', Bool.not_true]
end LW

namespace LW
open PySem L2 FL
def dg (x : Str) (i : Nat) : He.DefD := ⟨(x, none), x, x, defArgs (top i), defBody (top i), defScope (top i), [], []⟩
def fnL : List He.DefD := [dg "ratio" 6, dg "common_divisor" 8, dg "point" 9, dg "point_of" 10, dg "coordinate" 11, dg "coordinates" 12, dg "joined" 13, dg "part_of" 14, dg "mixed" 15, dg "shifted" 16, dg "direction" 17, dg "sorted_points" 18, dg "_are_integers" 19, dg "is_point" 20, dg "is_direction" 21, dg "_law_draws" 23, dg "_law_gcd" 24, dg "_law_common" 25, dg "_law_point" 26, dg "_law_low" 27, dg "_law_integers" 28, dg "_law_same" 29, dg "_law_truth" 30, dg "_law_tops" 31, dg "_law_raises" 32, dg "_law_before" 33, dg "_law_sorted" 34, dg "_law_two" 35, dg "_law_kinds" 36, dg "law" 37]
def faL : List He.Fa := [.glo "ratio", .glo "common_divisor", .glo "point", .glo "point_of", .glo "coordinate", .glo "coordinates", .glo "joined", .glo "part_of", .glo "mixed", .glo "shifted", .glo "direction", .glo "sorted_points", .glo "_are_integers", .glo "is_point", .glo "is_direction", .glo "_law_draws", .glo "_law_gcd", .glo "_law_common", .glo "_law_point", .glo "_law_low", .glo "_law_integers", .glo "_law_same", .glo "_law_truth", .glo "_law_tops", .glo "_law_raises", .glo "_law_before", .glo "_law_sorted", .glo "_law_two", .glo "_law_kinds", .glo "law", .free "ValueError", .free "abs", .free "bool", .free "int", .free "isinstance", .free "len", .free "list", .free "range", .free "sorted", .free "tuple", .free "zip", .glo "BadNumber", .glo "BadShape", .glo "LeaderError", .exc "BadNumber", .exm "BadNumber" "BadNumber" true]
def exL (K : PySem.W.Frag) : Bool := (He.eqO (PySem.W.nsIn K mainGlobals "gcd") (some (some (.builtin "math.gcd")))) && ((He.eqO (PySem.W.nsIn K mainGlobals "lcm") (some (some (.builtin "math.lcm")))) && ((excCB K (He.ga K "BadNumber")) && ((decide (PySem.W.kitOne K (.ref (He.ga K "BadNumber")) (.ref (He.ga K "BadShape")) = some false)) && ((decide (PySem.W.kitOne K (.ref (He.ga K "BadNumber")) (.ref (He.ga K "LeaderError")) = some true)) && ((decide (PySem.W.kitOne K (.ref (He.ga K "BadNumber")) (.type "ValueError") = some true)) && (true))))))
abbrev RR : PySem.W.OpenRow := PySem.W.OpenLaw.row PySem.Challenge.rw_leadersets_k01_points_and_directions
abbrev hkL : PySem.W.Hook := He.hookX 5 faL fnL [] [] exL
def obL (s : PySem.W.SharedT) : He.AlX := He.obsX 5 faL fnL [] [] exL (HandSHeadRun.getT s)
theorem obL_eq (s : PySem.W.SharedT) : obL s = hkL.obs s.abs := He.obsX_eq (HandSHeadRun.getT_eq s)
def looseL : List PySem.Str := ((["__name__", "LeaderError", "BadNumber", "BadShape", "ratio", "common_divisor", "point", "point_of", "coordinate", "coordinates", "joined", "part_of", "mixed", "shifted", "direction", "sorted_points", "_are_integers", "is_point", "is_direction", "_law_draws", "_law_gcd", "_law_common", "_law_point", "_law_low", "_law_integers", "_law_same", "_law_truth", "_law_tops", "_law_raises", "_law_before", "_law_sorted", "_law_two", "_law_kinds"] : List String).map PySem.Str.ofString)
theorem runL (w : World) : HandSHeadRun.RunEqI RR (PySem.W.view RR.prog [0, 37]) hkL obL 3000 looseL w := by
  unfold HandSHeadRun.RunEqI
  kernel_rfl
theorem t0L {K : PySem.W.Frag} {h : Heap} {mg : Str → Option Value} (X : K.In h) (G : h.Ns mainGlobals mg) (c : He.SaysD faL fnL K) (ce : exL K = true) : T0 K mg where
  f_ValueError := He.free_ok X G (c.fact 30 (f := .free "ValueError") rfl)
  f_abs := He.free_ok X G (c.fact 31 (f := .free "abs") rfl)
  f_bool := He.free_ok X G (c.fact 32 (f := .free "bool") rfl)
  f_int := He.free_ok X G (c.fact 33 (f := .free "int") rfl)
  f_isinstance := He.free_ok X G (c.fact 34 (f := .free "isinstance") rfl)
  f_len := He.free_ok X G (c.fact 35 (f := .free "len") rfl)
  f_list := He.free_ok X G (c.fact 36 (f := .free "list") rfl)
  f_range := He.free_ok X G (c.fact 37 (f := .free "range") rfl)
  f_sorted := He.free_ok X G (c.fact 38 (f := .free "sorted") rfl)
  f_tuple := He.free_ok X G (c.fact 39 (f := .free "tuple") rfl)
  f_zip := He.free_ok X G (c.fact 40 (f := .free "zip") rfl)
  g_BadNumber := He.glo_ok X G (c.fact 41 (f := .glo "BadNumber") rfl)
  g_BadShape := He.glo_ok X G (c.fact 42 (f := .glo "BadShape") rfl)
  g_LeaderError := He.glo_ok X G (c.fact 43 (f := .glo "LeaderError") rfl)
  x_BadNumber := ⟨(He.exc_ok (c.fact 44 (f := .exc "BadNumber") rfl)).1, (He.exc_ok (c.fact 44 (f := .exc "BadNumber") rfl)).2.1, (He.exc_ok (c.fact 44 (f := .exc "BadNumber") rfl)).2.2.1, (He.exc_ok (c.fact 44 (f := .exc "BadNumber") rfl)).2.2.2, He.glo_ok X G (c.fact 41 (f := .glo "BadNumber") rfl)⟩
  m_BadNumber_BadNumber := He.exm_ok (c.fact 45 (f := .exm "BadNumber" "BadNumber" true) rfl)
  gcd := mg_fact X G (He.ba ce).1
  lcm := mg_fact X G (He.ba (He.ba ce).2).1
  e_BadNumber := excCB_ok (He.ba (He.ba (He.ba ce).2).2).1
  k_BadNumber_BadShape := of_decide_eq_true (He.ba (He.ba (He.ba (He.ba ce).2).2).2).1
  k_BadNumber_LeaderError := of_decide_eq_true (He.ba (He.ba (He.ba (He.ba (He.ba ce).2).2).2).2).1
  k_BadNumber_ValueError := of_decide_eq_true (He.ba (He.ba (He.ba (He.ba (He.ba (He.ba ce).2).2).2).2).2).1
theorem factsL {P : Program} {w : World} {K : PySem.W.Frag} {h : Heap} {mg : Str → Option Value} {f : Addr} (X : K.In h) (G : h.Ns mainGlobals mg) (hfa : mg ("law" : Str) = some (.ref f)) (c : He.SaysD faL fnL K) (ce : exL K = true) :
    ∃ fd : FuncData, (∀ (s : Shared) (v : Value), BindsTo s fd ⟨[v], []⟩ [(("script" : Str), v)]) ∧ ∀ base : Heap, K.In base → base.Ns mainGlobals mg → FnOk P w K mg base (L2.CX P w) 6 f fd ["script"] (spF K (rtF Bool) m_law) := by
  have T := t0L X G c ce
  obtain ⟨fd, F⟩ := c.def_ 29 (d := dg "law" 37) rfl
  have e := hfa.symm.trans (He.glo_ok X G (c.fact 29 (f := .glo "law") rfl))
  cases e
  have b := FunD.bindsA (ps := ["script"]) F fun _ _ _ _ _ _ us hl => match us, hl with | [_], _ => rfl
  refine ⟨fd, fun s v => b s [v] rfl, fun base _ _ => ?_⟩
  obtain ⟨fd_ratio, F_ratio⟩ := c.def_ 0 (d := dg "ratio" 6) rfl
  have D_ratio := dk_of F_ratio (He.glo_ok X G (c.fact 0 (f := .glo "ratio") rfl)) (F_ratio.bindsN fun _ _ _ _ _ _ us hl => match us, hl with | [_, _], _ => rfl) (d_ratio (P := P) (w := w) (base := base) F_ratio T)
  obtain ⟨fd_common_divisor_l, F_common_divisor_l⟩ := c.def_ 1 (d := dg "common_divisor" 8) rfl
  have D_common_divisor_l := dk_of F_common_divisor_l (He.glo_ok X G (c.fact 1 (f := .glo "common_divisor") rfl)) (F_common_divisor_l.bindsN fun _ _ _ _ _ _ us hl => match us, hl with | [_, _], _ => rfl) (d_common_divisor_l (P := P) (w := w) (base := base) F_common_divisor_l T)
  obtain ⟨fd_common_divisor_u, F_common_divisor_u⟩ := c.def_ 1 (d := dg "common_divisor" 8) rfl
  have D_common_divisor_u := dk_of F_common_divisor_u (He.glo_ok X G (c.fact 1 (f := .glo "common_divisor") rfl)) (F_common_divisor_u.bindsN fun _ _ _ _ _ _ us hl => match us, hl with | [_, _], _ => rfl) (d_common_divisor_u (P := P) (w := w) (base := base) F_common_divisor_u T)
  obtain ⟨fd_point_l, F_point_l⟩ := c.def_ 2 (d := dg "point" 9) rfl
  have D_point_l := dk_of F_point_l (He.glo_ok X G (c.fact 2 (f := .glo "point") rfl)) (F_point_l.bindsN fun _ _ _ _ _ _ us hl => match us, hl with | [_, _], _ => rfl) (d_point_l (P := P) (w := w) (base := base) F_point_l T D_common_divisor_l)
  obtain ⟨fd_point_u, F_point_u⟩ := c.def_ 2 (d := dg "point" 9) rfl
  have D_point_u := dk_of F_point_u (He.glo_ok X G (c.fact 2 (f := .glo "point") rfl)) (F_point_u.bindsN fun _ _ _ _ _ _ us hl => match us, hl with | [_, _], _ => rfl) (d_point_u (P := P) (w := w) (base := base) F_point_u T D_common_divisor_u)
  obtain ⟨fd_point_of, F_point_of⟩ := c.def_ 3 (d := dg "point_of" 10) rfl
  have D_point_of := dk_of F_point_of (He.glo_ok X G (c.fact 3 (f := .glo "point_of") rfl)) (F_point_of.bindsN fun _ _ _ _ _ _ us hl => match us, hl with | [_], _ => rfl) (d_point_of (P := P) (w := w) (base := base) F_point_of T D_point_l)
  obtain ⟨fd_coordinate, F_coordinate⟩ := c.def_ 4 (d := dg "coordinate" 11) rfl
  have D_coordinate := dk_of F_coordinate (He.glo_ok X G (c.fact 4 (f := .glo "coordinate") rfl)) (F_coordinate.bindsN fun _ _ _ _ _ _ us hl => match us, hl with | [_, _], _ => rfl) (d_coordinate (P := P) (w := w) (base := base) F_coordinate T D_ratio)
  obtain ⟨fd_coordinates, F_coordinates⟩ := c.def_ 5 (d := dg "coordinates" 12) rfl
  have D_coordinates := dk_of F_coordinates (He.glo_ok X G (c.fact 5 (f := .glo "coordinates") rfl)) (F_coordinates.bindsN fun _ _ _ _ _ _ us hl => match us, hl with | [_], _ => rfl) (d_coordinates (P := P) (w := w) (base := base) F_coordinates T D_ratio)
  obtain ⟨fd_joined, F_joined⟩ := c.def_ 6 (d := dg "joined" 13) rfl
  have D_joined := dk_of F_joined (He.glo_ok X G (c.fact 6 (f := .glo "joined") rfl)) (F_joined.bindsN fun _ _ _ _ _ _ us hl => match us, hl with | [_, _], _ => rfl) (d_joined (P := P) (w := w) (base := base) F_joined T D_point_l)
  obtain ⟨fd_part_of, F_part_of⟩ := c.def_ 7 (d := dg "part_of" 14) rfl
  have D_part_of := dk_of F_part_of (He.glo_ok X G (c.fact 7 (f := .glo "part_of") rfl)) (F_part_of.bindsN fun _ _ _ _ _ _ us hl => match us, hl with | [_, _, _], _ => rfl) (d_part_of (P := P) (w := w) (base := base) F_part_of T D_point_u)
  obtain ⟨fd_mixed, F_mixed⟩ := c.def_ 8 (d := dg "mixed" 15) rfl
  have D_mixed := dk_of F_mixed (He.glo_ok X G (c.fact 8 (f := .glo "mixed") rfl)) (F_mixed.bindsN fun _ _ _ _ _ _ us hl => match us, hl with | [_, _, _], _ => rfl) (d_mixed (P := P) (w := w) (base := base) F_mixed T D_point_l)
  obtain ⟨fd_shifted, F_shifted⟩ := c.def_ 9 (d := dg "shifted" 16) rfl
  have D_shifted := dk_of F_shifted (He.glo_ok X G (c.fact 9 (f := .glo "shifted") rfl)) (F_shifted.bindsN fun _ _ _ _ _ _ us hl => match us, hl with | [_, _, _], _ => rfl) (d_shifted (P := P) (w := w) (base := base) F_shifted T D_point_l)
  obtain ⟨fd_direction, F_direction⟩ := c.def_ 10 (d := dg "direction" 17) rfl
  have D_direction := dk_of F_direction (He.glo_ok X G (c.fact 10 (f := .glo "direction") rfl)) (F_direction.bindsN fun _ _ _ _ _ _ us hl => match us, hl with | [_], _ => rfl) (d_direction (P := P) (w := w) (base := base) F_direction T D_common_divisor_l)
  obtain ⟨fd_sorted_points, F_sorted_points⟩ := c.def_ 11 (d := dg "sorted_points" 18) rfl
  have D_sorted_points := dk_of F_sorted_points (He.glo_ok X G (c.fact 11 (f := .glo "sorted_points") rfl)) (F_sorted_points.bindsN fun _ _ _ _ _ _ us hl => match us, hl with | [_], _ => rfl) (d_sorted_points (P := P) (w := w) (base := base) F_sorted_points T)
  obtain ⟨fd__are_integers, F__are_integers⟩ := c.def_ 12 (d := dg "_are_integers" 19) rfl
  have D__are_integers := dk_of F__are_integers (He.glo_ok X G (c.fact 12 (f := .glo "_are_integers") rfl)) (F__are_integers.bindsN fun _ _ _ _ _ _ us hl => match us, hl with | [_], _ => rfl) (d__are_integers (P := P) (w := w) (base := base) F__are_integers T)
  obtain ⟨fd_is_point, F_is_point⟩ := c.def_ 13 (d := dg "is_point" 20) rfl
  have D_is_point := dk_of F_is_point (He.glo_ok X G (c.fact 13 (f := .glo "is_point") rfl)) (F_is_point.bindsN fun _ _ _ _ _ _ us hl => match us, hl with | [_, _], _ => rfl) (d_is_point (P := P) (w := w) (base := base) F_is_point T D__are_integers D_common_divisor_u)
  obtain ⟨fd_is_direction, F_is_direction⟩ := c.def_ 14 (d := dg "is_direction" 21) rfl
  have D_is_direction := dk_of F_is_direction (He.glo_ok X G (c.fact 14 (f := .glo "is_direction") rfl)) (F_is_direction.bindsN fun _ _ _ _ _ _ us hl => match us, hl with | [_, _], _ => rfl) (d_is_direction (P := P) (w := w) (base := base) F_is_direction T D__are_integers D_common_divisor_u)
  obtain ⟨fd__law_draws, F__law_draws⟩ := c.def_ 15 (d := dg "_law_draws" 23) rfl
  have D__law_draws := dk_of F__law_draws (He.glo_ok X G (c.fact 15 (f := .glo "_law_draws") rfl)) (F__law_draws.bindsN fun _ _ _ _ _ _ us hl => match us, hl with | [_, _], _ => rfl) (d__law_draws (P := P) (w := w) (base := base) F__law_draws T)
  obtain ⟨fd__law_gcd, F__law_gcd⟩ := c.def_ 16 (d := dg "_law_gcd" 24) rfl
  have D__law_gcd := dk_of F__law_gcd (He.glo_ok X G (c.fact 16 (f := .glo "_law_gcd") rfl)) (F__law_gcd.bindsN fun _ _ _ _ _ _ us hl => match us, hl with | [_, _], _ => rfl) (d__law_gcd (P := P) (w := w) (base := base) F__law_gcd T)
  obtain ⟨fd__law_common_l, F__law_common_l⟩ := c.def_ 17 (d := dg "_law_common" 25) rfl
  have D__law_common_l := dk_of F__law_common_l (He.glo_ok X G (c.fact 17 (f := .glo "_law_common") rfl)) (F__law_common_l.bindsN fun _ _ _ _ _ _ us hl => match us, hl with | [_, _], _ => rfl) (d__law_common_l (P := P) (w := w) (base := base) F__law_common_l T D__law_gcd)
  obtain ⟨fd__law_common_u, F__law_common_u⟩ := c.def_ 17 (d := dg "_law_common" 25) rfl
  have D__law_common_u := dk_of F__law_common_u (He.glo_ok X G (c.fact 17 (f := .glo "_law_common") rfl)) (F__law_common_u.bindsN fun _ _ _ _ _ _ us hl => match us, hl with | [_, _], _ => rfl) (d__law_common_u (P := P) (w := w) (base := base) F__law_common_u T D__law_gcd)
  obtain ⟨fd__law_point, F__law_point⟩ := c.def_ 18 (d := dg "_law_point" 26) rfl
  have D__law_point := dk_of F__law_point (He.glo_ok X G (c.fact 18 (f := .glo "_law_point") rfl)) (F__law_point.bindsN fun _ _ _ _ _ _ us hl => match us, hl with | [_, _], _ => rfl) (d__law_point (P := P) (w := w) (base := base) F__law_point T D__law_common_l)
  obtain ⟨fd__law_low, F__law_low⟩ := c.def_ 19 (d := dg "_law_low" 27) rfl
  have D__law_low := dk_of F__law_low (He.glo_ok X G (c.fact 19 (f := .glo "_law_low") rfl)) (F__law_low.bindsN fun _ _ _ _ _ _ us hl => match us, hl with | [_, _], _ => rfl) (d__law_low (P := P) (w := w) (base := base) F__law_low T D__law_point)
  obtain ⟨fd__law_integers, F__law_integers⟩ := c.def_ 20 (d := dg "_law_integers" 28) rfl
  have D__law_integers := dk_of F__law_integers (He.glo_ok X G (c.fact 20 (f := .glo "_law_integers") rfl)) (F__law_integers.bindsN fun _ _ _ _ _ _ us hl => match us, hl with | [_, _], _ => rfl) (d__law_integers (P := P) (w := w) (base := base) F__law_integers T)
  obtain ⟨fd__law_same, F__law_same⟩ := c.def_ 21 (d := dg "_law_same" 29) rfl
  have D__law_same := dk_of F__law_same (He.glo_ok X G (c.fact 21 (f := .glo "_law_same") rfl)) (F__law_same.bindsN fun _ _ _ _ _ _ us hl => match us, hl with | [_, _], _ => rfl) (d__law_same (P := P) (w := w) (base := base) F__law_same T D__law_integers)
  obtain ⟨fd__law_truth, F__law_truth⟩ := c.def_ 22 (d := dg "_law_truth" 30) rfl
  have D__law_truth := dk_of F__law_truth (He.glo_ok X G (c.fact 22 (f := .glo "_law_truth") rfl)) (F__law_truth.bindsN fun _ _ _ _ _ _ us hl => match us, hl with | [_, _], _ => rfl) (d__law_truth (P := P) (w := w) (base := base) F__law_truth T)
  obtain ⟨fd__law_tops, F__law_tops⟩ := c.def_ 23 (d := dg "_law_tops" 31) rfl
  have D__law_tops := dk_of F__law_tops (He.glo_ok X G (c.fact 23 (f := .glo "_law_tops") rfl)) (F__law_tops.bindsN fun _ _ _ _ _ _ us hl => match us, hl with | [_, _, _, _], _ => rfl) (d__law_tops (P := P) (w := w) (base := base) F__law_tops T)
  obtain ⟨fd__law_raises, F__law_raises⟩ := c.def_ 24 (d := dg "_law_raises" 32) rfl
  have D__law_raises := dk_of F__law_raises (He.glo_ok X G (c.fact 24 (f := .glo "_law_raises") rfl)) (F__law_raises.bindsN fun _ _ _ _ _ _ us hl => match us, hl with | [_, _], _ => rfl) (d__law_raises (P := P) (w := w) (base := base) F__law_raises T D_point_l D_direction)
  obtain ⟨fd__law_before, F__law_before⟩ := c.def_ 25 (d := dg "_law_before" 33) rfl
  have D__law_before := dk_of F__law_before (He.glo_ok X G (c.fact 25 (f := .glo "_law_before") rfl)) (F__law_before.bindsN fun _ _ _ _ _ _ us hl => match us, hl with | [_, _], _ => rfl) (d__law_before (P := P) (w := w) (base := base) F__law_before T)
  obtain ⟨fd__law_sorted, F__law_sorted⟩ := c.def_ 26 (d := dg "_law_sorted" 34) rfl
  have D__law_sorted := dk_of F__law_sorted (He.glo_ok X G (c.fact 26 (f := .glo "_law_sorted") rfl)) (F__law_sorted.bindsN fun _ _ _ _ _ _ us hl => match us, hl with | [_], _ => rfl) (d__law_sorted (P := P) (w := w) (base := base) F__law_sorted T D__law_before)
  obtain ⟨fd__law_two, F__law_two⟩ := c.def_ 27 (d := dg "_law_two" 35) rfl
  have D__law_two := dk_of F__law_two (He.glo_ok X G (c.fact 27 (f := .glo "_law_two") rfl)) (F__law_two.bindsN fun _ _ _ _ _ _ us hl => match us, hl with | [_, _, _, _, _], _ => rfl) (d__law_two (P := P) (w := w) (base := base) F__law_two T D__law_point D_joined D__law_same D_part_of D_mixed D_shifted D__law_low D_coordinates D_point_of D__law_integers D_coordinate)
  obtain ⟨fd__law_kinds, F__law_kinds⟩ := c.def_ 28 (d := dg "_law_kinds" 36) rfl
  have D__law_kinds := dk_of F__law_kinds (He.glo_ok X G (c.fact 28 (f := .glo "_law_kinds") rfl)) (F__law_kinds.bindsN fun _ _ _ _ _ _ us hl => match us, hl with | [_, _, _], _ => rfl) (d__law_kinds (P := P) (w := w) (base := base) F__law_kinds T D_is_point D__law_truth D__law_common_l D_is_direction D__law_raises D_direction D__law_integers)
  exact d_law F T D__law_draws D__law_tops D__law_low D_point_l D__law_point D__law_same D__law_raises D__law_two D_point_of D_joined D__law_kinds D_sorted_points D__law_sorted
end LW
open PySem PySem.W PySem.Calls PyProof.Rows
theorem PySem.Challenge.cw_leadersets_k01_points_and_directions_holds : PySem.Challenge.rw_leadersets_k01_points_and_directions.Holds := by
  w_on; o_law
  refine HandSHeadRun.head_imp (r := OpenLaw.row PySem.Challenge.rw_leadersets_k01_points_and_directions) (q := view (OpenLaw.row PySem.Challenge.rw_leadersets_k01_points_and_directions).prog [0, 37]) (H := LW.hkL) (ob := LW.obL) (M := 3000) (loose := LW.looseL) (d := HandSHeadRun.topDef (OpenLaw.row PySem.Challenge.rw_leadersets_k01_points_and_directions).prog 37) (kwd := []) LW.obL_eq LW.runL (by kernel_rfl) (by kernel_rfl) (by kernel_rfl) (by rfl) (by first | assumption | decide +kernel) (by decide +kernel) ⟨rfl, rfl, rfl, rfl, rfl, by decide +kernel⟩ ?hw ?hc
  case hw => w_witness2
  case hc =>
    refine FL.walk_w (l := PySem.Challenge.rw_leadersets_k01_points_and_directions) (n := 63) (k := 6) (x := "script") (m := LW.m_law) rfl (by decide) (by kernel_rfl) ⟨rfl, by decide, by decide⟩ LW.law_true ?F
    intro w mg fa h Y G hmg0
    obtain ⟨K, KX, c⟩ := Y
    have hmg : mg ("law" : PySem.Str) = some (.ref fa) := by
      have e : (HandSHeadRun.topDef (OpenLaw.row PySem.Challenge.rw_leadersets_k01_points_and_directions).prog 37).name = ("law" : PySem.Str) := by kernel_rfl
      rw [← e]
      exact hmg0
    obtain ⟨fd, hb, hF⟩ := LW.factsL (P := (PySem.Challenge.rw_leadersets_k01_points_and_directions).prog) (w := w) KX G hmg c.t.d c.more
    exact ⟨K, fd, KX, hb, hF⟩
