import PyProof.Rows.All
import Wide.All
import OpenK.AllK
import Wide.FinOn
import HandS.ForMost
import HandS.ForExc
import HandS.Gcd
import HandS.IsInst
import HandS.Wide
import HandS.WideBits
import HandS.HeadHook1
import HandS.HeadHook2
import HandS.HeadHook3
import HandS.TupAny
import HandS.RaiseMore
import HandS.Defaults
import HandS.Zip
import HandS.Comp
import HandS.TryOnly
import HandS.ExcIs
import HandS.Conv
import PyProof.StrBlock2
import HandS.Head0
import HandS.Head1
import HandS.Head2
import HandS.Head3
import HandS.HeadEnd
import HandS.HeadHook4
import PySem.Challenge.RW_leadersets_k00_numbers_exact
import KE.IntTextLaws
import PyProof.StrLawsIn
import PyProof.StrLawsOcc
import HandS.Text
import PyProof.P3Eq
set_option Elab.async false
set_option linter.all false
set_option maxRecDepth 100000
set_option maxHeartbeats 4000000
/-! FL1: typed readings: mirrors, representations, worlds, environments, expressions. -/
namespace FL
open PySem L2

/-! ### mirrors -/
/-- what a mirror gives: a value; an exception of the class named c with its fields; nothing (beyond what is covered) -/
inductive Xc (α : Type) where
  | ok (a : α)
  | er (c : Str) (fs : List (Str × V))
  | no
def Xc.bind {α β : Type} (m : Xc α) (k : α → Xc β) : Xc β := match m with
  | .ok a => k a
  | .er c fs => .er c fs
  | .no => .no
instance : Monad Xc where
  pure := .ok
  bind := Xc.bind
theorem bind_ok {α β : Type} (a : α) (k : α → Xc β) : Xc.bind (.ok a) k = k a := rfl
theorem bind_er {α β : Type} (c fs) (k : α → Xc β) : Xc.bind (.er c fs) k = .er c fs := rfl
theorem bind_no {α β : Type} (k : α → Xc β) : Xc.bind .no k = .no := rfl
theorem bind_assoc {α β γ : Type} (m : Xc α) (k : α → Xc β) (l : β → Xc γ) : (m.bind k).bind l = m.bind fun a => (k a).bind l := by cases m <;> rfl
theorem bind_pure {α : Type} (m : Xc α) : (m.bind fun a => .ok a) = m := by cases m <;> rfl
theorem mbind {α β : Type} (m : Xc α) (k : α → Xc β) : (m >>= k) = m.bind k := rfl
theorem mpure {α : Type} (a : α) : (pure a : Xc α) = .ok a := rfl
theorem bind_eq_ok {α β : Type} {m : Xc α} {k : α → Xc β} {b : β} : m.bind k = .ok b ↔ ∃ a, m = .ok a ∧ k a = .ok b := by
  cases m with
  | ok a =>
    constructor
    · intro h; exact ⟨a, rfl, h⟩
    · rintro ⟨_, e, h⟩; cases e; exact h
  | er c fs =>
    constructor
    · intro h; cases h
    · rintro ⟨_, e, _⟩; cases e
  | no =>
    constructor
    · intro h; cases h
    · rintro ⟨_, e, _⟩; cases e

/-! ### representations: a Lean value stands at a Python value, in the frozen heap F -/
class Rp (α : Type) where
  is : PySem.W.Frag → Hp → V → α → Prop
  mono : ∀ {K F F' v a}, Same F F' → is K F v a → is K F' v a
theorem Same.seqT {K : PySem.W.Frag} {H H' : Hp} {a : Addr} {xs : List V} (e : Same H H') (h : SqT K H a xs) : SqT K H' a xs := by
  rcases h with (h | ⟨o, h⟩) | h
  · exact .inl (.inl (e _ _ h))
  · exact .inl (.inr ⟨o, e _ _ h⟩)
  · exact .inr h
instance : Rp Int := ⟨fun _ _ v a => v = .int a, fun _ h => h⟩
instance : Rp Bool := ⟨fun _ _ v a => v = .bl a, fun _ h => h⟩
instance : Rp Str := ⟨fun _ _ v a => v = .str a ∧ a.length ≤ sizeLine, fun _ h => h⟩
instance : Rp Unit := ⟨fun _ _ v _ => v = .non, fun _ h => h⟩
instance {α : Type} [Rp α] : Rp (Option α) := ⟨fun K F v a => match a with
  | none => v = .non
  | some a => v ≠ .non ∧ Rp.is K F v a, fun {K F F' v a} s h => by
    cases a with
    | none => exact h
    | some a => exact ⟨h.1, Rp.mono s h.2⟩⟩
/-- all of a list -/
inductive Al {α : Type} [Rp α] (K : PySem.W.Frag) (F : Hp) : List V → List α → Prop where
  | nil : Al K F [] []
  | cons {v vs a as} : Rp.is K F v a → Al K F vs as → Al K F (v :: vs) (a :: as)
section
variable {α β γ : Type} [Rp α] [Rp β] {K : PySem.W.Frag} {F F' : Hp}
theorem Al.mono (s : Same F F') {vs : List V} {as : List α} (h : Al K F vs as) : Al K F' vs as := by
  induction h with
  | nil => exact .nil
  | cons h _ ih => exact .cons (Rp.mono s h) ih
theorem Al.len {vs : List V} {as : List α} (h : Al K F vs as) : vs.length = as.length := by
  induction h with
  | nil => rfl
  | cons _ _ ih => simp [ih]
theorem Al.get {vs : List V} {as : List α} (h : Al K F vs as) : ∀ {i : Nat} {v : V}, vs[i]? = some v → ∃ a, as[i]? = some a ∧ Rp.is K F v a := by
  induction h with
  | nil => intro i v e; simp at e
  | cons h _ ih =>
    intro i v e
    cases i with
    | zero => simp at e; subst e; exact ⟨_, rfl, h⟩
    | succ i => simp at e; obtain ⟨a, e2, r⟩ := ih e; exact ⟨a, by simpa using e2, r⟩
theorem Al.get' {vs : List V} {as : List α} (h : Al K F vs as) : ∀ {i : Nat} {a : α}, as[i]? = some a → ∃ v, vs[i]? = some v ∧ Rp.is K F v a := by
  induction h with
  | nil => intro i v e; simp at e
  | cons h _ ih =>
    intro i v e
    cases i with
    | zero => simp at e; subst e; exact ⟨_, rfl, h⟩
    | succ i => simp at e; obtain ⟨a, e2, r⟩ := ih e; exact ⟨a, by simpa using e2, r⟩
theorem Al.app {vs ws : List V} {as bs : List α} (h : Al K F vs as) (h' : Al K F ws bs) : Al K F (vs ++ ws) (as ++ bs) := by
  induction h with
  | nil => exact h'
  | cons h _ ih => exact .cons h ih
theorem Al.snoc {vs : List V} {as : List α} {v : V} {a : α} (h : Al K F vs as) (h' : Rp.is K F v a) : Al K F (vs ++ [v]) (as ++ [a]) := h.app (.cons h' .nil)
theorem Al.take {vs : List V} {as : List α} (h : Al K F vs as) : ∀ n, Al K F (vs.take n) (as.take n) := by
  induction h with
  | nil => intro n; simp; exact .nil
  | cons h _ ih => intro n; cases n with
    | zero => exact .nil
    | succ n => exact .cons h (ih n)
theorem Al.drop {vs : List V} {as : List α} (h : Al K F vs as) : ∀ n, Al K F (vs.drop n) (as.drop n) := by
  induction h with
  | nil => intro n; simp; exact .nil
  | cons h t ih => intro n; cases n with
    | zero => exact .cons h t
    | succ n => exact ih n
theorem Al.set {vs : List V} {as : List α} {v : V} {a : α} (h : Al K F vs as) (r : Rp.is K F v a) : ∀ n, Al K F (vs.set n v) (as.set n a) := by
  induction h with
  | nil => intro n; exact .nil
  | cons h t ih => intro n; cases n with
    | zero => exact .cons r t
    | succ n => exact .cons h (ih n)
theorem Al.repl {v : V} {a : α} (r : Rp.is K F v a) : ∀ n, Al K F (List.replicate n v) (List.replicate n a)
  | 0 => .nil
  | n + 1 => .cons r (Al.repl r n)
end
/-- a Python list -/
instance {α : Type} [Rp α] : Rp (List α) := ⟨fun K F v l => ∃ p xs, v = .ref p ∧ SqL K F p xs ∧ l.length ≤ sizeLine ∧ Al K F xs l, fun s ⟨p, xs, e, h, z, r⟩ => ⟨p, xs, e, Same.seq s h, z, r.mono s⟩⟩
/-- a Python tuple of any length, its items alike -/
def Tu (α : Type) : Type := List α
def Tu.l {α : Type} (t : Tu α) : List α := t
def tu {α : Type} (l : List α) : Tu α := l
instance {α : Type} [Rp α] : Rp (Tu α) := ⟨fun K F v l => ∃ p xs, v = .ref p ∧ SqT K F p xs ∧ (Tu.l l).length ≤ sizeLine ∧ Al K F xs (Tu.l l), fun s ⟨p, xs, e, h, z, r⟩ => ⟨p, xs, e, Same.seqT s h, z, r.mono s⟩⟩
/-- a pair -/
instance {α β : Type} [Rp α] [Rp β] : Rp (α × β) := ⟨fun K F v a => ∃ p x y, v = .ref p ∧ SqT K F p [x, y] ∧ Rp.is K F x a.1 ∧ Rp.is K F y a.2, fun s ⟨p, x, y, e, h, r1, r2⟩ => ⟨p, x, y, e, Same.seqT s h, Rp.mono s r1, Rp.mono s r2⟩⟩
/-- a tuple of three, of four -/
def T3 (α β γ : Type) : Type := α × β × γ
def T4 (α β γ δ : Type) : Type := α × β × γ × δ
def T3.mk {α β γ : Type} (a : α) (b : β) (c : γ) : T3 α β γ := (a, b, c)
def T4.mk {α β γ δ : Type} (a : α) (b : β) (c : γ) (d : δ) : T4 α β γ δ := (a, b, c, d)
def T3.a {α β γ : Type} (t : T3 α β γ) : α := Prod.fst t
def T3.b {α β γ : Type} (t : T3 α β γ) : β := (Prod.snd t).1
def T3.c {α β γ : Type} (t : T3 α β γ) : γ := (Prod.snd t).2
def T4.a {α β γ δ : Type} (t : T4 α β γ δ) : α := Prod.fst t
def T4.b {α β γ δ : Type} (t : T4 α β γ δ) : β := (Prod.snd t).1
def T4.c {α β γ δ : Type} (t : T4 α β γ δ) : γ := (Prod.snd t).2.1
def T4.d {α β γ δ : Type} (t : T4 α β γ δ) : δ := (Prod.snd t).2.2
instance {α β γ : Type} [Rp α] [Rp β] [Rp γ] : Rp (T3 α β γ) := ⟨fun K F v t => ∃ p x y z, v = .ref p ∧ SqT K F p [x, y, z] ∧ Rp.is K F x t.a ∧ Rp.is K F y t.b ∧ Rp.is K F z t.c,
  fun s ⟨p, x, y, z, e, h, r1, r2, r3⟩ => ⟨p, x, y, z, e, Same.seqT s h, Rp.mono s r1, Rp.mono s r2, Rp.mono s r3⟩⟩
instance {α β γ δ : Type} [Rp α] [Rp β] [Rp γ] [Rp δ] : Rp (T4 α β γ δ) := ⟨fun K F v t => ∃ p x y z u, v = .ref p ∧ SqT K F p [x, y, z, u] ∧ Rp.is K F x t.a ∧ Rp.is K F y t.b ∧ Rp.is K F z t.c ∧ Rp.is K F u t.d,
  fun s ⟨p, x, y, z, u, e, h, r1, r2, r3, r4⟩ => ⟨p, x, y, z, u, e, Same.seqT s h, Rp.mono s r1, Rp.mono s r2, Rp.mono s r3, Rp.mono s r4⟩⟩
mutual
theorem dp_mono {K : PySem.W.Frag} {F F' : Hp} (s : Same F F') : ∀ {v : V} {d : PyData}, Dp K F v d → Dp K F' v d
  | _, _, .non => .non
  | _, _, .bl b => .bl b
  | _, _, .int i => .int i
  | _, _, .str x => .str x
  | _, _, .lst h r => .lst (Same.seq s h) (dpa_mono s r)
  | _, _, .tup h r => .tup (Same.seqT s h) (dpa_mono s r)
theorem dpa_mono {K : PySem.W.Frag} {F F' : Hp} (s : Same F F') : ∀ {vs : List V} {ds : List PyData}, DpAll K F vs ds → DpAll K F' vs ds
  | _, _, .nil => .nil
  | _, _, .cons h r => .cons (dp_mono s h) (dpa_mono s r)
end
/-- data of any kind -/
instance : Rp PyData := ⟨fun K F v d => Dp K F v d ∧ SeqAt.shaped d = true, fun s h => ⟨dp_mono s h.1, h.2⟩⟩

/-! ### worlds: the frozen heap F within the heap H; what comes to it is new -/
structure Wd (F H F' H' : Hp) : Prop where
  f : Same F F'
  h : Same H H'
  s : Same F' H'
  n : ∀ a, F' a ≠ none → F a = none → H a = none
theorem Wd.refl {F H : Hp} (s : Same F H) : Wd F H F H := ⟨Same.refl _, Same.refl _, s, fun _ h e => absurd e h⟩
theorem Wd.trans {F H F1 H1 F2 H2 : Hp} (a : Wd F H F1 H1) (b : Wd F1 H1 F2 H2) : Wd F H F2 H2 :=
  ⟨a.f.trans b.f, a.h.trans b.h, b.s, fun p h e => by
    cases q : F1 p with
    | none => exact a.h.free (b.n p h q)
    | some o => exact a.n p (by rw [q]; exact fun z => nomatch z) e⟩
theorem Wd.s0 {F H F' H' : Hp} (a : Wd F H F' H') (b : Same F H) : Same F H' := a.f.trans a.s
theorem Wd.own {F H F' H' : Hp} (w : Wd F H F' H') {p : Addr} {o : HO} (f : F p = none) (h : H p = some o) : F' p = none := by
  cases y : F' p with
  | none => rfl
  | some u =>
    have q := w.n p (by rw [y]; exact fun z => nomatch z) f
    rw [h] at q
    cases q
theorem same_upd {F H : Hp} {p : Addr} {o : HO} (s : Same F H) : Same (upd F p o) (upd H p o) := fun b u e => by
  by_cases q : b = p
  · subst q; rw [upd_same] at e ⊢; exact e
  · rw [upd_ne q] at e ⊢; exact s b u e
theorem same_new {H : Hp} {p : Addr} {o : HO} (h : H p = none) : Same H (upd H p o) := fun b u e => by
  rw [upd_ne (ne_of_none e h)]; exact e
/-- a new frozen object -/
theorem Wd.new {F H : Hp} {p : Addr} {o : HO} (s : Same F H) (h : H p = none) : Wd F H (upd F p o) (upd H p o) :=
  ⟨same_new (s.free h), same_new h, same_upd s, fun b h' e => by
    by_cases q : b = p
    · subst q; exact h
    · rw [upd_ne q] at h'; exact absurd e h'⟩
/-- a new object that is not frozen -/
theorem Wd.newO {F H : Hp} {p : Addr} {o : HO} (s : Same F H) (h : H p = none) : Wd F H F (upd H p o) :=
  ⟨Same.refl _, same_new h, fun b u e => same_new h b u (s b u e), fun b h' e => absurd e h'⟩

/-! ### environments -/
structure EnvT (γ : Type) where
  rel : PySem.W.Frag → Hp → Hp → Hp → St → γ → Prop
  own : St → List Addr
  mono : ∀ {K H0 F H F' H' σ g}, rel K H0 F H σ g → Wd F H F' H' → rel K H0 F' H' σ g
  mu : ∀ {K H0 F H σ g p o}, rel K H0 F H σ g → p ∉ own σ → rel K H0 F (upd H p o) σ g
  al : ∀ {K H0 F H σ g p}, rel K H0 F H σ g → p ∈ own σ → H0 p = none ∧ F p = none ∧ ∃ xs, H p = some (HO.lst xs)
def nl : EnvT Unit := ⟨fun _ _ _ _ _ _ => True, fun _ => [], fun h _ => h, fun h _ => h, fun _ h => by cases h⟩
/-- a slot with a value -/
def va (α : Type) {γ : Type} [Rp α] (G : EnvT γ) : EnvT (α × γ) where
  rel := fun K H0 F H σ g => ∃ v σ', σ = some v :: σ' ∧ Rp.is K F v g.1 ∧ G.rel K H0 F H σ' g.2
  own := fun σ => G.own σ.tail
  mono := fun ⟨v, σ', e, r, h⟩ w => ⟨v, σ', e, Rp.mono w.f r, G.mono h w⟩
  mu := fun ⟨v, σ', e, r, h⟩ n => ⟨v, σ', e, r, G.mu h (by subst e; exact n)⟩
  al := fun ⟨v, σ', e, r, h⟩ n => G.al h (by subst e; exact n)
/-- a slot that does not matter -/
def un {γ : Type} (G : EnvT γ) : EnvT γ where
  rel := fun K H0 F H σ g => ∃ v σ', σ = v :: σ' ∧ G.rel K H0 F H σ' g
  own := fun σ => G.own σ.tail
  mono := fun ⟨v, σ', e, h⟩ w => ⟨v, σ', e, G.mono h w⟩
  mu := fun ⟨v, σ', e, h⟩ n => ⟨v, σ', e, G.mu h (by subst e; exact n)⟩
  al := fun ⟨v, σ', e, h⟩ n => G.al h (by subst e; exact n)
def adr : St → List Addr
  | some (.ref p) :: _ => [p]
  | _ => []
/-- a slot with a list of one's own -/
def ow (α : Type) {γ : Type} [Rp α] (G : EnvT γ) : EnvT (List α × γ) where
  rel := fun K H0 F H σ g => ∃ p σ' xs, σ = some (.ref p) :: σ' ∧ H0 p = none ∧ F p = none ∧ H p = some (HO.lst xs) ∧ g.1.length ≤ sizeLine ∧ Al K F xs g.1 ∧ p ∉ G.own σ' ∧ G.rel K H0 F H σ' g.2
  own := fun σ => adr σ ++ G.own σ.tail
  mono := fun ⟨p, σ', xs, e, h0, f, h, z, r, n, q⟩ w => ⟨p, σ', xs, e, h0, w.own f h, w.h _ _ h, z, r.mono w.f, n, G.mono q w⟩
  mu := fun {K H0 F H σ g b o} ⟨p, σ', xs, e, h0, f, h, z, r, n, q⟩ m => by
    subst e
    have m2 : b ≠ p ∧ b ∉ G.own σ' := by
      constructor
      · intro q; exact m (by simp [adr, q])
      · intro q; exact m (by simp [q])
    exact ⟨p, σ', xs, rfl, h0, f, by rw [upd_ne (Ne.symm m2.1)]; exact h, z, r, n, G.mu q m2.2⟩
  al := fun {K H0 F H σ g b} ⟨p, σ', xs, e, h0, f, h, z, r, n, q⟩ m => by
    subst e
    rcases List.mem_append.mp m with m | m
    · have e : b = p := by simpa [adr] using m
      subst e
      exact ⟨h0, f, xs, h⟩
    · exact G.al q m

/-- the slot i holds π g -/
class At {γ : Type} (G : EnvT γ) (i : Nat) (α : outParam Type) (r : outParam (Rp α)) (π : outParam (γ → α)) : Prop where
  get : ∀ {K H0 F H σ g}, G.rel K H0 F H σ g → ∃ v, σ[i]? = some (some v) ∧ r.is K F v (π g)
instance {α γ : Type} [r : Rp α] (G : EnvT γ) : At (va α G) 0 α r (fun g => g.1) := ⟨fun ⟨v, σ', e, q, _⟩ => ⟨v, by subst e; rfl, q⟩⟩
instance {α β γ : Type} [Rp β] [r : Rp α] (G : EnvT γ) (i : Nat) (π : γ → α) [a : At G i α r π] : At (va β G) (i + 1) α r (fun g => π g.2) := ⟨fun ⟨v, σ', e, _, q⟩ => by
  obtain ⟨u, e2, q2⟩ := a.get q
  exact ⟨u, by subst e; exact e2, q2⟩⟩
instance {α γ : Type} [r : Rp α] (G : EnvT γ) (i : Nat) (π : γ → α) [a : At G i α r π] : At (un G) (i + 1) α r (fun g => π g) := ⟨fun ⟨v, σ', e, q⟩ => by
  obtain ⟨u, e2, q2⟩ := a.get q
  exact ⟨u, by subst e; exact e2, q2⟩⟩
instance {α β γ : Type} [Rp β] [r : Rp α] (G : EnvT γ) (i : Nat) (π : γ → α) [a : At G i α r π] : At (ow β G) (i + 1) α r (fun g => π g.2) := ⟨fun ⟨p, σ', xs, e, _, _, _, _, _, _, q⟩ => by
  obtain ⟨u, e2, q2⟩ := a.get q
  exact ⟨u, by subst e; exact e2, q2⟩⟩

/-- a store into the slot i -/
class Put {γ : Type} (G : EnvT γ) (i : Nat) (α : Type) [Rp α] {δ : outParam Type} (G' : outParam (EnvT δ)) (ψ : outParam (γ → α → δ)) : Prop where
  put : ∀ {K H0 F H σ g v a}, G.rel K H0 F H σ g → Rp.is K F v a → G'.rel K H0 F H (σ.set i (some v)) (ψ g a)
  own : ∀ {K H0 F H σ g p} {v : V}, G.rel K H0 F H σ g → p ∈ G'.own (σ.set i (some v)) → p ∈ G.own σ
instance {α β γ : Type} [Rp α] [Rp β] (G : EnvT γ) : Put (va β G) 0 α (va α G) (fun g a => (a, g.2)) := ⟨fun ⟨v, σ', e, _, q⟩ r => ⟨_, σ', by subst e; rfl, r, q⟩, fun ⟨v, σ', e, _, q⟩ h => by subst e; exact h⟩
instance {α γ : Type} [Rp α] (G : EnvT γ) : Put (un G) 0 α (va α G) (fun g a => (a, g)) := ⟨fun ⟨v, σ', e, q⟩ r => ⟨_, σ', by subst e; rfl, r, q⟩, fun ⟨v, σ', e, q⟩ h => by subst e; exact h⟩
instance {α β γ : Type} [Rp α] [Rp β] (G : EnvT γ) : Put (ow β G) 0 α (va α G) (fun g a => (a, g.2)) := ⟨fun ⟨p, σ', xs, e, _, _, _, _, _, _, q⟩ r => ⟨_, σ', by subst e; rfl, r, q⟩, fun ⟨p, σ', xs, e, _, _, _, _, _, _, q⟩ h => by subst e; exact List.mem_append_right _ h⟩
instance {α β γ δ : Type} [Rp α] [Rp β] (G : EnvT γ) (i : Nat) (G' : EnvT δ) (ψ : γ → α → δ) [P : Put G i α G' ψ] : Put (va β G) (i + 1) α (va β G') (fun g a => (g.1, ψ g.2 a)) :=
  ⟨fun ⟨v, σ', e, w, q⟩ r => ⟨v, σ'.set i _, by subst e; rfl, w, P.put q r⟩, fun ⟨v, σ', e, w, q⟩ h => by subst e; exact P.own q h⟩
instance {α γ δ : Type} [Rp α] (G : EnvT γ) (i : Nat) (G' : EnvT δ) (ψ : γ → α → δ) [P : Put G i α G' ψ] : Put (un G) (i + 1) α (un G') (fun g a => ψ g a) :=
  ⟨fun ⟨v, σ', e, q⟩ r => ⟨v, σ'.set i _, by subst e; rfl, P.put q r⟩, fun ⟨v, σ', e, q⟩ h => by subst e; exact P.own q h⟩
instance {α β γ δ : Type} [Rp α] [Rp β] (G : EnvT γ) (i : Nat) (G' : EnvT δ) (ψ : γ → α → δ) [P : Put G i α G' ψ] : Put (ow β G) (i + 1) α (ow β G') (fun g a => (g.1, ψ g.2 a)) :=
  ⟨fun ⟨p, σ', xs, e, h0, f, h, z, w, n, q⟩ r => ⟨p, σ'.set i _, xs, by subst e; rfl, h0, f, h, z, w, fun m => n (P.own q m), P.put q r⟩, fun ⟨p, σ', xs, e, _, _, _, _, _, _, q⟩ h => by
    subst e
    rcases List.mem_append.mp h with h | h
    · exact List.mem_append_left _ h
    · exact List.mem_append_right _ (P.own q h)⟩

/-! ### readings of expressions -/
/-- what a body's code stands in: the frozen heap and the heap at the def's entry, the wish of exceptions -/
structure C0 where
  F0 : Hp
  H0 : Hp
  W : WX
/-- an exception is wished -/
def ErP (K : PySem.W.Frag) (F H : Hp) (E : XK) (c : Str) (fs : List (Str × V)) : Prop := match fs with
  | [] => ∀ F' H', Wd F H F' H' → E (.ref (He.ga K c)) none H'
  | fs => ∀ F' H' d, Wd F H F' H' → H' d = none → E (.ref (He.ga K c)) (some d) (upd H' d (.xd fs))
theorem ErP.on {K : PySem.W.Frag} {F H F' H' : Hp} {E : XK} {c : Str} {fs : List (Str × V)} (h : ErP K F H E c fs) (w : Wd F H F' H') : ErP K F' H' E c fs := by
  cases fs with
  | nil => exact fun F2 H2 w2 => h F2 H2 (w.trans w2)
  | cons f fs => exact fun F2 H2 d w2 => h F2 H2 d (w.trans w2)
def Po {α : Type} [Rp α] (K : PySem.W.Frag) (F H : Hp) (Q : VK) (E : XK) (m : Xc α) : Prop := match m with
  | .ok a => ∀ v F' H', Wd F H F' H' → Rp.is K F' v a → Q v H'
  | .er c fs => ErP K F H E c fs
  | .no => False
def PoB (K : PySem.W.Frag) (F H : Hp) (Q : Bool → Hp → Prop) (E : XK) (m : Xc Bool) : Prop := match m with
  | .ok b => ∀ F' H', Wd F H F' H' → Q b H'
  | .er c fs => ErP K F H E c fs
  | .no => False
theorem Po.on {α : Type} [Rp α] {K : PySem.W.Frag} {F H F' H' : Hp} {Q : VK} {E : XK} {m : Xc α} (h : Po K F H Q E m) (w : Wd F H F' H') : Po K F' H' Q E m := by
  cases m with
  | ok a => exact fun v F2 H2 w2 r => h v F2 H2 (w.trans w2) r
  | er c fs => exact ErP.on h w
  | no => exact h
theorem PoB.on {K : PySem.W.Frag} {F H F' H' : Hp} {Q : Bool → Hp → Prop} {E : XK} {m : Xc Bool} (h : PoB K F H Q E m) (w : Wd F H F' H') : PoB K F' H' Q E m := by
  cases m with
  | ok a => exact fun F2 H2 w2 => h F2 H2 (w.trans w2)
  | er c fs => exact ErP.on h w
  | no => exact h
/-- from the mirror's first part on -/
theorem Po.bind {α β : Type} [Rp α] [Rp β] {K : PySem.W.Frag} {F H : Hp} {Q : VK} {E : XK} {m : Xc α} {k : α → Xc β} (h : Po K F H Q E (m.bind k)) : Po K F H (fun v H1 => ∃ a F1, m = .ok a ∧ Wd F H F1 H1 ∧ Rp.is K F1 v a ∧ Po K F1 H1 Q E (k a)) E m := by
  cases m with
  | ok a => exact fun v F1 H1 w r => ⟨a, F1, rfl, w, r, Po.on (show Po K F H Q E (k a) from h) w⟩
  | er c fs => exact h
  | no => exact h
theorem Po.bindB {α : Type} [Rp α] {K : PySem.W.Frag} {F H : Hp} {Q : Bool → Hp → Prop} {E : XK} {m : Xc α} {k : α → Xc Bool} (h : PoB K F H Q E (m.bind k)) : Po K F H (fun v H1 => ∃ a F1, m = .ok a ∧ Wd F H F1 H1 ∧ Rp.is K F1 v a ∧ PoB K F1 H1 Q E (k a)) E m := by
  cases m with
  | ok a => exact fun v F1 H1 w r => ⟨a, F1, rfl, w, r, PoB.on (show PoB K F H Q E (k a) from h) w⟩
  | er c fs => exact h
  | no => exact h
theorem PoB.bind {β : Type} [Rp β] {K : PySem.W.Frag} {F H : Hp} {Q : VK} {E : XK} {m : Xc Bool} {k : Bool → Xc β} (h : Po K F H Q E (m.bind k)) : PoB K F H (fun b H1 => ∃ F1, m = .ok b ∧ Wd F H F1 H1 ∧ Po K F1 H1 Q E (k b)) E m := by
  cases m with
  | ok a => exact fun F1 H1 w => ⟨F1, rfl, w, Po.on (show Po K F H Q E (k a) from h) w⟩
  | er c fs => exact h
  | no => exact h
theorem PoB.bindB {K : PySem.W.Frag} {F H : Hp} {Q : Bool → Hp → Prop} {E : XK} {m : Xc Bool} {k : Bool → Xc Bool} (h : PoB K F H Q E (m.bind k)) : PoB K F H (fun b H1 => ∃ F1, m = .ok b ∧ Wd F H F1 H1 ∧ PoB K F1 H1 Q E (k b)) E m := by
  cases m with
  | ok a => exact fun F1 H1 w => ⟨F1, rfl, w, PoB.on (show PoB K F H Q E (k a) from h) w⟩
  | er c fs => exact h
  | no => exact h
theorem Po.ret {α : Type} [Rp α] {K : PySem.W.Frag} {F H : Hp} {Q : VK} {E : XK} {v : V} {a : α} (h : Po K F H Q E (.ok a)) (s : Same F H) (r : Rp.is K F v a) : Q v H := h v F H (Wd.refl s) r
theorem PoB.ret {K : PySem.W.Frag} {F H : Hp} {Q : Bool → Hp → Prop} {E : XK} {b : Bool} (h : PoB K F H Q E (.ok b)) (s : Same F H) : Q b H := h F H (Wd.refl s)

section
variable {X : Cx} {c : C0} {γ α β ρ : Type} {G : EnvT γ} [Rp α] [Rp β] [Rp ρ]
def tF (K : PySem.W.Frag) (c : C0) (G : EnvT γ) (f : γ → Xc α) : TE := fun σ H Q => ∃ F g, Wd c.F0 c.H0 F H ∧ G.rel K c.H0 F H σ g ∧ Po K F H Q (WE c.W σ) (f g)
def tT (K : PySem.W.Frag) (c : C0) (G : EnvT γ) (f : γ → Xc Bool) : TT := fun σ H Q => ∃ F g, Wd c.F0 c.H0 F H ∧ G.rel K c.H0 F H σ g ∧ PoB K F H Q (WE c.W σ) (f g)
/-- the expression e computes f of what the slots hold -/
def FE (X : Cx) (c : C0) (G : EnvT γ) (e : Expr) (f : γ → Xc α) : Prop := PE X e (tF X.K c G f)
def FT (X : Cx) (c : C0) (G : EnvT γ) (e : Expr) (f : γ → Xc Bool) : Prop := PT X e (tT X.K c G f)
theorem PE.imp {e : Expr} {t t' : TE} (h : PE X e t) (i : ∀ σ H Q, t' σ H Q → t σ H Q) : PE X e t' := ⟨fun pins s σ H Q I q => h.run pins s σ H Q I (i σ H Q q)⟩
theorem PT.imp {e : Expr} {t t' : TT} (h : PT X e t) (i : ∀ σ H Q, t' σ H Q → t σ H Q) : PT X e t' := ⟨fun pins s σ H Q I q => h.run pins s σ H Q I (i σ H Q q)⟩
theorem FE.cast {e : Expr} {f f' : γ → Xc α} (h : FE X c G e f) (i : ∀ g, f' g = f g) : FE X c G e f' := by
  rw [show f' = f from funext i]; exact h
theorem FT.cast {e : Expr} {f f' : γ → Xc Bool} (h : FT X c G e f) (i : ∀ g, f' g = f g) : FT X c G e f' := by
  rw [show f' = f from funext i]; exact h

/-! names, constants -/
theorem fe_var {τ : Type} (i : Nat) {x : Str} {pos : Pos} {π : γ → τ} {r : Rp τ} [a : At G i τ r π] (hN : X.N[i]? = some x := by rfl) (hv : Vis X.env.scope x := by first | exact Or.inl rfl | exact Or.inr (Or.inl rfl) | exact Or.inr (Or.inr rfl))
    (hd : (x == ("__debug__" : Str)) = false := by decide) (hcd : (x == ("__classdict__" : Str)) = false := by decide) : FE X c G (.Name x pos) (fun g => Xc.ok (π g)) :=
  PE.imp (pe_var hN hv hd hcd) fun σ H Q ⟨F, g, w, q, h⟩ => by
    obtain ⟨v, e, z⟩ := a.get q
    exact ⟨v, e, h v F H (Wd.refl w.s) z⟩
theorem fe_int {i : Int} {j pos} : FE X c G (.Constant (.int i) j pos) (fun _ => .ok i) := PE.imp pe_int fun σ H Q ⟨F, g, w, q, h⟩ => h.ret w.s rfl
theorem fe_bl {b : Bool} {j pos} : FE X c G (.Constant (.bool b) j pos) (fun _ => .ok b) := PE.imp pe_bl fun σ H Q ⟨F, g, w, q, h⟩ => h.ret w.s rfl
theorem fe_str {x : Str} {j pos} (hx : x.length ≤ sizeLine := by decide +kernel) : FE X c G (.Constant (.str x) j pos) (fun _ => .ok x) := PE.imp pe_str fun σ H Q ⟨F, g, w, q, h⟩ => h.ret w.s ⟨rfl, hx⟩
theorem fe_none {j pos} : FE X c G (.Constant .none j pos) (fun _ => .ok ()) := PE.imp pe_non fun σ H Q ⟨F, g, w, q, h⟩ => h.ret w.s rfl
/-- a module's constant -/
theorem fe_gint {x : Str} {i : Int} {pos : Pos} (hm : ∃ t, X.mg x = some (.int i t)) (hg : Gl X x := by rfl) (hd : (x == ("__debug__" : Str)) = false := by decide) : FE X c G (.Name x pos) (fun _ => .ok i) := by
  obtain ⟨t, hm⟩ := hm
  exact PE.imp (pe_glob (v := .int i) hg hm ⟨t, rfl⟩ hd) fun σ H Q ⟨F, g, w, q, h⟩ => h.ret w.s rfl
theorem fe_gstr {x z : Str} {pos : Pos} (hm : ∃ t, X.mg x = some (.str z t)) (hz : z.length ≤ sizeLine := by decide +kernel) (hg : Gl X x := by rfl) (hd : (x == ("__debug__" : Str)) = false := by decide) : FE X c G (.Name x pos) (fun _ => .ok z) := by
  obtain ⟨t, hm⟩ := hm
  exact PE.imp (pe_glob (v := .str z) hg hm ⟨t, rfl⟩ hd) fun σ H Q ⟨F, g, w, q, h⟩ => h.ret w.s ⟨rfl, hz⟩

/-! two parts -/
theorem two {a b : Expr} {fa : γ → Xc α} {fb : γ → Xc β} {op : α → β → Xc ρ} {r : R2} {e : Expr} (h : ∀ {ta tb : TE}, PE X a ta → PE X b tb → PE X e (tOp r ta tb)) (ha : FE X c G a fa) (hb : FE X c G b fb)
    (hop : ∀ {F H x y i j Q E}, Same F H → Rp.is X.K F x i → Rp.is X.K F y j → Po X.K F H Q E (op i j) → r x y H Q) : FE X c G e (fun g => (fa g).bind fun i => (fb g).bind fun j => op i j) :=
  PE.imp (h ha hb) fun σ H Q ⟨F, g, w, q, p⟩ => by
    refine ⟨F, g, w, q, ?_⟩
    have p1 := Po.bind p
    revert p1
    cases e1 : fa g with
    | ok i =>
      intro p1 v F1 H1 w1 r1
      obtain ⟨i', _, e2, w1', r1', p2⟩ := p1 v F1 H1 w1 r1
      cases e2
      have p2 : Po X.K F H Q (WE c.W σ) ((fb g).bind fun j => op i j) := by simp only [e1] at p; exact p
      refine ⟨F1, g, w.trans w1, G.mono q w1, ?_⟩
      have p3 := Po.bind (p2.on w1)
      revert p3
      cases e3 : fb g with
      | ok j =>
        intro p3 u F2 H2 w2 r2
        obtain ⟨j', F2', e4, w2', r2', p4⟩ := p3 u F2 H2 w2 r2
        cases e4
        have p5 : Po X.K F H Q (WE c.W σ) (op i j) := by rw [e3] at p2; exact p2
        exact hop w2.s (Rp.mono w2.f r1) r2 (p5.on (w1.trans w2))
      | er c fs => exact fun p3 => p3
      | no => exact fun p3 => p3
    | er c fs => exact fun p1 => p1
    | no => exact fun p1 => p1
theorem twoT {a b : Expr} {fa : γ → Xc α} {fb : γ → Xc β} {op : α → β → Xc Bool} {r : R2} {e : Expr} (h : ∀ {ta tb : TE}, PE X a ta → PE X b tb → PT X e (tTest (tOp r ta tb))) (ha : FE X c G a fa) (hb : FE X c G b fb)
    (hop : ∀ {F H x y i j Q E}, Same F H → Rp.is X.K F x i → Rp.is X.K F y j → PoB X.K F H Q E (op i j) → r x y H (fun v H' => ∃ k, v = .bl k ∧ Q k H')) : FT X c G e (fun g => (fa g).bind fun i => (fb g).bind fun j => op i j) :=
  PT.imp (h ha hb) fun σ H Q ⟨F, g, w, q, p⟩ => by
    refine ⟨F, g, w, q, ?_⟩
    cases e1 : fa g with
    | ok i =>
      intro v F1 H1 w1 r1
      have p2 : PoB X.K F H Q (WE c.W σ) ((fb g).bind fun j => op i j) := by simp only [e1] at p; exact p
      refine ⟨F1, g, w.trans w1, G.mono q w1, ?_⟩
      cases e3 : fb g with
      | ok j =>
        intro u F2 H2 w2 r2
        have p5 : PoB X.K F H Q (WE c.W σ) (op i j) := by rw [e3] at p2; exact p2
        exact hop w2.s (Rp.mono w2.f r1) r2 (p5.on (w1.trans w2))
      | er c' fs => rw [e3] at p2; exact ErP.on (show ErP X.K F H (WE c.W σ) c' fs from p2) w1
      | no => rw [e3] at p2; exact p2
    | er c' fs => simp only [e1] at p; exact p
    | no => simp only [e1] at p; exact p
/-- one part -/
theorem one {a e : Expr} {fa : γ → Xc α} {op : α → Xc ρ} {r : V → Hp → VK → Prop} (h : ∀ {ta : TE}, PE X a ta → PE X e (tUn r ta)) (ha : FE X c G a fa)
    (hop : ∀ {F H x i Q E}, Same F H → Rp.is X.K F x i → Po X.K F H Q E (op i) → r x H Q) : FE X c G e (fun g => (fa g).bind fun i => op i) :=
  PE.imp (h ha) fun σ H Q ⟨F, g, w, q, p⟩ => by
    refine ⟨F, g, w, q, ?_⟩
    cases e1 : fa g with
    | ok i =>
      intro v F1 H1 w1 r1
      have p2 : Po X.K F H Q (WE c.W σ) (op i) := by simp only [e1] at p; exact p
      exact hop w1.s r1 (p2.on w1)
    | er c' fs => simp only [e1] at p; exact p
    | no => simp only [e1] at p; exact p
end
end FL

/-! FL2: operators, comparisons, tests, displays, subscripts, texts, built-in calls. -/
namespace FL
open PySem L2
/-! ### ints -/
def MulC (i j : Int) : Prop := i.natAbs < 2 ^ 64 ∨ j.natAbs < 2 ^ 64 ∨ i.natAbs.log2 + j.natAbs.log2 < 1000000
instance (i j : Int) : Decidable (MulC i j) := by unfold MulC; infer_instance
theorem MulC.ok {i j : Int} (h : MulC i j) : PySem.IntMulOk i j := by
  rcases h with h | h | h
  · exact CMul.ok (.inl (by omega))
  · exact CMul.ok (.inr (by omega))
  · exact CMulW.ok h
theorem op_mulZ {X : Cx} : OpR X (binaryOp .Mult) (rI MulC fun i j => .int (i * j)) := opI fun _ _ _ _ _ _ _ hc q => PyProof.Rows.mul_int q hc.ok
@[irreducible] def mulX (i j : Int) : Xc Int := if MulC i j then .ok (i * j) else .no
@[irreducible] def fdvX (i j : Int) : Xc Int := if j ≠ 0 ∧ j.natAbs.log2 < 9000 then .ok (i.fdiv j) else .no
@[irreducible] def modX (i j : Int) : Xc Int := if j ≠ 0 then .ok (i.fmod j) else .no
@[irreducible] def powX (i j : Int) : Xc Int := if 0 ≤ j ∧ j ≤ 1000000 ∧ i.natAbs < 2 ^ 64 then .ok (i ^ j.toNat) else .no
theorem op_fdivZ {X : Cx} : OpR X (binaryOp .FloorDiv) (rI (fun _ j => j ≠ 0 ∧ j.natAbs.log2 < 9000) fun i j => .int (i.fdiv j)) := opI fun i j _ _ _ _ _ hc q =>
  PyProof.Rows.floordiv_int hc.1 q (.inl (PyProof.noPylong_of_log2 hc.2))
section
variable {X : Cx} {c : C0} {γ α β ρ : Type} {G : EnvT γ} [Rp α] [Rp β] [Rp ρ] {a b e : Expr} {pos : Pos} {fi fj : γ → Xc Int}
theorem fe_add (ha : FE X c G a fi) (hb : FE X c G b fj) : FE X c G (.BinOp a .Add b pos) (fun g => (fi g).bind fun i => (fj g).bind fun j => Xc.ok (i + j)) :=
  two (fun h1 h2 => pe_op op_add h1 h2) ha hb fun s r1 r2 p => ⟨_, _, r1, r2, p.ret s rfl⟩
theorem fe_sub (ha : FE X c G a fi) (hb : FE X c G b fj) : FE X c G (.BinOp a .Sub b pos) (fun g => (fi g).bind fun i => (fj g).bind fun j => Xc.ok (i - j)) :=
  two (fun h1 h2 => pe_op op_sub h1 h2) ha hb fun s r1 r2 p => ⟨_, _, r1, r2, p.ret s rfl⟩
theorem fe_mul (ha : FE X c G a fi) (hb : FE X c G b fj) : FE X c G (.BinOp a .Mult b pos) (fun g => (fi g).bind fun i => (fj g).bind fun j => mulX i j) :=
  two (fun h1 h2 => pe_op op_mulZ h1 h2) ha hb fun {F H x y i j Q E} s r1 r2 p => by
    unfold mulX at p
    by_cases h : MulC i j
    · rw [if_pos h] at p; exact ⟨_, _, r1, r2, h, p.ret s rfl⟩
    · rw [if_neg h] at p; exact p.elim
theorem fe_fdv (ha : FE X c G a fi) (hb : FE X c G b fj) : FE X c G (.BinOp a .FloorDiv b pos) (fun g => (fi g).bind fun i => (fj g).bind fun j => fdvX i j) :=
  two (fun h1 h2 => pe_op op_fdivZ h1 h2) ha hb fun {F H x y i j Q E} s r1 r2 p => by
    unfold fdvX at p
    by_cases h : j ≠ 0 ∧ j.natAbs.log2 < 9000
    · rw [if_pos h] at p; exact ⟨_, _, r1, r2, h, p.ret s rfl⟩
    · rw [if_neg h] at p; exact p.elim
theorem fe_mod (ha : FE X c G a fi) (hb : FE X c G b fj) : FE X c G (.BinOp a .Mod b pos) (fun g => (fi g).bind fun i => (fj g).bind fun j => modX i j) :=
  two (fun h1 h2 => pe_op op_modN h1 h2) ha hb fun {F H x y i j Q E} s r1 r2 p => by
    unfold modX at p
    by_cases h : j ≠ 0
    · rw [if_pos h] at p; exact ⟨_, _, r1, r2, h, p.ret s rfl⟩
    · rw [if_neg h] at p; exact p.elim
theorem fe_pow (ha : FE X c G a fi) (hb : FE X c G b fj) : FE X c G (.BinOp a .Pow b pos) (fun g => (fi g).bind fun i => (fj g).bind fun j => powX i j) :=
  two (fun h1 h2 => pe_op op_pow h1 h2) ha hb fun {F H x y i j Q E} s r1 r2 p => by
    unfold powX at p
    by_cases h : 0 ≤ j ∧ j ≤ 1000000 ∧ i.natAbs < 2 ^ 64
    · rw [if_pos h] at p; exact ⟨_, _, r1, r2, h, p.ret s rfl⟩
    · rw [if_neg h] at p; exact p.elim
theorem fe_neg (ha : FE X c G a fi) : FE X c G (.UnaryOp .USub a pos) (fun g => (fi g).bind fun i => Xc.ok (-i)) :=
  one (fun h => pe_un un_neg h) ha fun s r p => ⟨_, r, p.ret s rfl⟩

/-! comparisons of ints -/
theorem fe_lt (ha : FE X c G a fi) (hb : FE X c G b fj) : FE X c G (.Compare a [.Lt] [b] pos) (fun g => (fi g).bind fun i => (fj g).bind fun j => Xc.ok (decide (i < j))) :=
  two (fun h1 h2 => pe_cmpR op_lt h1 h2 (nomark _)) ha hb fun s r1 r2 p => ⟨_, _, r1, r2, p.ret s rfl⟩
theorem fe_le (ha : FE X c G a fi) (hb : FE X c G b fj) : FE X c G (.Compare a [.LtE] [b] pos) (fun g => (fi g).bind fun i => (fj g).bind fun j => Xc.ok (decide (i ≤ j))) :=
  two (fun h1 h2 => pe_cmpR op_le h1 h2 (nomark _)) ha hb fun s r1 r2 p => ⟨_, _, r1, r2, p.ret s rfl⟩
theorem fe_gt (ha : FE X c G a fi) (hb : FE X c G b fj) : FE X c G (.Compare a [.Gt] [b] pos) (fun g => (fi g).bind fun i => (fj g).bind fun j => Xc.ok (decide (j < i))) :=
  two (fun h1 h2 => pe_cmpR op_gt h1 h2 (nomark _)) ha hb fun s r1 r2 p => ⟨_, _, r1, r2, p.ret s rfl⟩
theorem fe_ge (ha : FE X c G a fi) (hb : FE X c G b fj) : FE X c G (.Compare a [.GtE] [b] pos) (fun g => (fi g).bind fun i => (fj g).bind fun j => Xc.ok (decide (j ≤ i))) :=
  two (fun h1 h2 => pe_cmpR op_ge h1 h2 (nomark _)) ha hb fun s r1 r2 p => ⟨_, _, r1, r2, p.ret s rfl⟩
theorem ft_lt (ha : FE X c G a fi) (hb : FE X c G b fj) : FT X c G (.Compare a [.Lt] [b] pos) (fun g => (fi g).bind fun i => (fj g).bind fun j => Xc.ok (decide (i < j))) :=
  twoT (fun h1 h2 => pt_cmpR op_lt h1 h2 (nomark _)) ha hb fun s r1 r2 p => ⟨_, _, r1, r2, _, rfl, p.ret s⟩
theorem ft_le (ha : FE X c G a fi) (hb : FE X c G b fj) : FT X c G (.Compare a [.LtE] [b] pos) (fun g => (fi g).bind fun i => (fj g).bind fun j => Xc.ok (decide (i ≤ j))) :=
  twoT (fun h1 h2 => pt_cmpR op_le h1 h2 (nomark _)) ha hb fun s r1 r2 p => ⟨_, _, r1, r2, _, rfl, p.ret s⟩
theorem ft_gt (ha : FE X c G a fi) (hb : FE X c G b fj) : FT X c G (.Compare a [.Gt] [b] pos) (fun g => (fi g).bind fun i => (fj g).bind fun j => Xc.ok (decide (j < i))) :=
  twoT (fun h1 h2 => pt_cmpR op_gt h1 h2 (nomark _)) ha hb fun s r1 r2 p => ⟨_, _, r1, r2, _, rfl, p.ret s⟩
theorem ft_ge (ha : FE X c G a fi) (hb : FE X c G b fj) : FT X c G (.Compare a [.GtE] [b] pos) (fun g => (fi g).bind fun i => (fj g).bind fun j => Xc.ok (decide (j ≤ i))) :=
  twoT (fun h1 h2 => pt_cmpR op_ge h1 h2 (nomark _)) ha hb fun s r1 r2 p => ⟨_, _, r1, r2, _, rfl, p.ret s⟩
end

/-! ### equality of scalars -/
class ScalR (α : Type) [Rp α] where
  dec : DecidableEq α
  toV : α → V
  eq : ∀ {K F v} {a : α}, Rp.is K F v a → v = toV a
  sc : ∀ a b : α, scal (toV a) (toV b) = true
  inj : ∀ a b : α, toV a = toV b → a = b
instance : ScalR Int := ⟨inferInstance, .int, fun h => h, fun _ _ => rfl, fun _ _ h => V.int.inj h⟩
instance : ScalR Bool := ⟨inferInstance, .bl, fun h => h, fun _ _ => rfl, fun _ _ h => V.bl.inj h⟩
instance : ScalR Str := ⟨inferInstance, .str, fun h => h.1, fun _ _ => rfl, fun _ _ h => V.str.inj h⟩
instance instDecScal {α : Type} [Rp α] [s : ScalR α] : DecidableEq α := s.dec
section
variable {X : Cx} {c : C0} {γ α β ρ : Type} {G : EnvT γ} [Rp α] [Rp β] [Rp ρ] {a b e : Expr} {pos : Pos}
theorem dec_scal [s : ScalR α] (a b : α) : decide (ScalR.toV a = ScalR.toV b) = (@decide (a = b) (s.dec a b)) := by
  by_cases h : a = b
  · subst h; simp
  · have h2 : ¬ ScalR.toV a = ScalR.toV b := fun e => h (ScalR.inj _ _ e)
    rw [decide_eq_false h2, decide_eq_false h]
theorem fe_eq [s : ScalR α] {fa fb : γ → Xc α} (ha : FE X c G a fa) (hb : FE X c G b fb) : FE X c G (.Compare a [.Eq] [b] pos) (fun g => (fa g).bind fun i => (fb g).bind fun j => Xc.ok (@decide (i = j) (s.dec i j))) :=
  two (fun h1 h2 => pe_cmpR op_eq h1 h2 (nomark _)) ha hb fun {F H x y i j Q E} z r1 r2 p => by
    rw [ScalR.eq r1, ScalR.eq r2]
    exact ⟨ScalR.sc i j, by rw [dec_scal]; exact p.ret z rfl⟩
theorem fe_ne [s : ScalR α] {fa fb : γ → Xc α} (ha : FE X c G a fa) (hb : FE X c G b fb) : FE X c G (.Compare a [.NotEq] [b] pos) (fun g => (fa g).bind fun i => (fb g).bind fun j => Xc.ok (!@decide (i = j) (s.dec i j))) :=
  two (fun h1 h2 => pe_cmpR op_ne h1 h2 (nomark _)) ha hb fun {F H x y i j Q E} z r1 r2 p => by
    rw [ScalR.eq r1, ScalR.eq r2]
    exact ⟨ScalR.sc i j, by rw [dec_scal]; exact p.ret z rfl⟩
theorem ft_eq [s : ScalR α] {fa fb : γ → Xc α} (ha : FE X c G a fa) (hb : FE X c G b fb) : FT X c G (.Compare a [.Eq] [b] pos) (fun g => (fa g).bind fun i => (fb g).bind fun j => Xc.ok (@decide (i = j) (s.dec i j))) :=
  twoT (fun h1 h2 => pt_cmpR op_eq h1 h2 (nomark _)) ha hb fun {F H x y i j Q E} z r1 r2 p => by
    rw [ScalR.eq r1, ScalR.eq r2]
    exact ⟨ScalR.sc i j, _, rfl, by rw [dec_scal]; exact p.ret z⟩
theorem ft_ne [s : ScalR α] {fa fb : γ → Xc α} (ha : FE X c G a fa) (hb : FE X c G b fb) : FT X c G (.Compare a [.NotEq] [b] pos) (fun g => (fa g).bind fun i => (fb g).bind fun j => Xc.ok (!@decide (i = j) (s.dec i j))) :=
  twoT (fun h1 h2 => pt_cmpR op_ne h1 h2 (nomark _)) ha hb fun {F H x y i j Q E} z r1 r2 p => by
    rw [ScalR.eq r1, ScalR.eq r2]
    exact ⟨ScalR.sc i j, _, rfl, by rw [dec_scal]; exact p.ret z⟩

/-! ### None -/
theorem opt_non {K : PySem.W.Frag} {F : Hp} {v : V} {o : Option α} (h : Rp.is K F v o) : decide (v = .non) = o.isNone := by
  cases o with
  | none => have h : v = .non := h; subst h; rfl
  | some a => have h : v ≠ .non := h.1; simp [h]
theorem fe_isN {fa : γ → Xc (Option α)} {j p} (ha : FE X c G a fa) : FE X c G (.Compare a [.Is] [.Constant .none j p] pos) (fun g => (fa g).bind fun i => Xc.ok i.isNone) :=
  PE.imp (pe_cmpR op_isN ha pe_non (nomark _)) fun σ H Q ⟨F, g, w, q, h⟩ => by
    refine ⟨F, g, w, q, ?_⟩
    cases e1 : fa g with
    | ok i => intro v F1 H1 w1 r1; simp only [e1] at h; exact ⟨rfl, by rw [opt_non r1]; exact (Po.on h w1).ret w1.s rfl⟩
    | er c' fs => simp only [e1] at h; exact h
    | no => simp only [e1] at h; exact h
theorem fe_notN {fa : γ → Xc (Option α)} {j p} (ha : FE X c G a fa) : FE X c G (.Compare a [.IsNot] [.Constant .none j p] pos) (fun g => (fa g).bind fun i => Xc.ok (!i.isNone)) :=
  PE.imp (pe_cmpR op_notN ha pe_non (nomark _)) fun σ H Q ⟨F, g, w, q, h⟩ => by
    refine ⟨F, g, w, q, ?_⟩
    cases e1 : fa g with
    | ok i => intro v F1 H1 w1 r1; simp only [e1] at h; exact ⟨rfl, by rw [opt_non r1]; exact (Po.on h w1).ret w1.s rfl⟩
    | er c' fs => simp only [e1] at h; exact h
    | no => simp only [e1] at h; exact h
theorem ft_isN {fa : γ → Xc (Option α)} {j p} (ha : FE X c G a fa) : FT X c G (.Compare a [.Is] [.Constant .none j p] pos) (fun g => (fa g).bind fun i => Xc.ok i.isNone) :=
  PT.imp (pt_cmpR op_isN ha pe_non (nomark _)) fun σ H Q ⟨F, g, w, q, h⟩ => by
    refine ⟨F, g, w, q, ?_⟩
    cases e1 : fa g with
    | ok i => intro v F1 H1 w1 r1; simp only [e1] at h; exact ⟨rfl, _, rfl, by rw [opt_non r1]; exact (PoB.on h w1).ret w1.s⟩
    | er c' fs => simp only [e1] at h; exact h
    | no => simp only [e1] at h; exact h
theorem ft_notN {fa : γ → Xc (Option α)} {j p} (ha : FE X c G a fa) : FT X c G (.Compare a [.IsNot] [.Constant .none j p] pos) (fun g => (fa g).bind fun i => Xc.ok (!i.isNone)) :=
  PT.imp (pt_cmpR op_notN ha pe_non (nomark _)) fun σ H Q ⟨F, g, w, q, h⟩ => by
    refine ⟨F, g, w, q, ?_⟩
    cases e1 : fa g with
    | ok i => intro v F1 H1 w1 r1; simp only [e1] at h; exact ⟨rfl, _, rfl, by rw [opt_non r1]; exact (PoB.on h w1).ret w1.s⟩
    | er c' fs => simp only [e1] at h; exact h
    | no => simp only [e1] at h; exact h
/-- a value known to be there -/
def someX {α : Type} (o : Option α) : Xc α := match o with
  | some a => .ok a
  | none => .no
theorem fe_some {fa : γ → Xc (Option α)} (ha : FE X c G a fa) : FE X c G a (fun g => (fa g).bind someX) :=
  PE.imp ha fun σ H Q ⟨F, g, w, q, h⟩ => by
    refine ⟨F, g, w, q, ?_⟩
    cases e1 : fa g with
    | ok i =>
      simp only [e1] at h
      cases i with
      | none => exact h.elim
      | some i => intro v F1 H1 w1 r1; exact h v F1 H1 w1 r1.2
    | er c' fs => simp only [e1] at h; exact h
    | no => simp only [e1] at h; exact h
/-- a value as one that may be there -/
class NotNone (α : Type) [Rp α] : Prop where
  ne : ∀ {K F v} {a : α}, Rp.is K F v a → v ≠ .non
instance : NotNone Int := ⟨fun h => by have h : _ = V.int _ := h; subst h; intro z; cases z⟩
instance : NotNone Bool := ⟨fun h => by have h : _ = V.bl _ := h; subst h; intro z; cases z⟩
instance : NotNone Str := ⟨fun h => by have h : _ = V.str _ := h.1; subst h; intro z; cases z⟩
instance {α : Type} [Rp α] : NotNone (List α) := ⟨fun ⟨p, xs, h, _⟩ => by subst h; intro z; cases z⟩
instance {α : Type} [Rp α] : NotNone (Tu α) := ⟨fun ⟨p, xs, h, _⟩ => by subst h; intro z; cases z⟩
instance {α β : Type} [Rp α] [Rp β] : NotNone (α × β) := ⟨fun ⟨p, x, y, h, _⟩ => by subst h; intro z; cases z⟩
instance {α β γ : Type} [Rp α] [Rp β] [Rp γ] : NotNone (T3 α β γ) := ⟨fun ⟨p, x, y, _, h, _⟩ => by subst h; intro z; cases z⟩
instance {α β γ δ : Type} [Rp α] [Rp β] [Rp γ] [Rp δ] : NotNone (T4 α β γ δ) := ⟨fun ⟨p, x, y, _, _, h, _⟩ => by subst h; intro z; cases z⟩
theorem fe_opt [NotNone α] {fa : γ → Xc α} (ha : FE X c G a fa) : FE X c G a (fun g => (fa g).bind fun i => Xc.ok (some i)) :=
  PE.imp ha fun σ H Q ⟨F, g, w, q, h⟩ => by
    refine ⟨F, g, w, q, ?_⟩
    cases e1 : fa g with
    | ok i => simp only [e1] at h; exact fun v F1 H1 w1 r1 => h v F1 H1 w1 ⟨NotNone.ne r1, r1⟩
    | er c' fs => simp only [e1] at h; exact h
    | no => simp only [e1] at h; exact h
theorem fe_nopt {fa : γ → Xc Unit} (ha : FE X c G a fa) : FE X c G a (fun g => (fa g).bind fun _ => Xc.ok (none : Option α)) :=
  PE.imp ha fun σ H Q ⟨F, g, w, q, h⟩ => by
    refine ⟨F, g, w, q, ?_⟩
    cases e1 : fa g with
    | ok i => simp only [e1] at h; exact fun v F1 H1 w1 r1 => h v F1 H1 w1 r1
    | er c' fs => simp only [e1] at h; exact h
    | no => simp only [e1] at h; exact h

/-! ### tests -/
variable {rest : List Expr} {fa fb : γ → Xc Bool}
theorem ft_val (ha : FE X c G a fa) (he : ∀ whole, isTrue a X.env whole = (do let v ← whole; standAt a.pos; holding [v] (truthy v)) := by intro _; rfl) : FT X c G a fa :=
  PT.imp (pt_val ha he) fun σ H Q ⟨F, g, w, q, h⟩ => by
    refine ⟨F, g, w, q, ?_⟩
    cases e1 : fa g with
    | ok i => intro v F1 H1 w1 r1; rw [e1] at h; exact ⟨i, r1, h F1 H1 w1⟩
    | er c' fs => rw [e1] at h; exact h
    | no => rw [e1] at h; exact h
theorem ft_not (ha : FT X c G a fa) : FT X c G (.UnaryOp .Not a pos) (fun g => (fa g).bind fun i => Xc.ok (!i)) :=
  PT.imp (pt_not ha) fun σ H Q ⟨F, g, w, q, h⟩ => by
    refine ⟨F, g, w, q, ?_⟩
    cases e1 : fa g with
    | ok i => intro F1 H1 w1; simp only [e1] at h; exact h F1 H1 w1
    | er c' fs => simp only [e1] at h; exact h
    | no => simp only [e1] at h; exact h
/-- a test in a chain of and, or -/
def FW (X : Cx) (c : C0) (G : EnvT γ) (e : Expr) (f : γ → Xc Bool) : Prop := PW X e (tT X.K c G f)
theorem ft_w (h : FW X c G e fa) : FT X c G e fa := PW.pt h
theorem fw_and1 (ha : FT X c G a fa) : FW X c G (.BoolOp .And [a] pos) fa := pw_and1 ha
theorem fw_or1 (ha : FT X c G a fa) : FW X c G (.BoolOp .Or [a] pos) fa := pw_or1 ha
theorem PW.imp {e : Expr} {t t' : TT} (h : PW X e t) (i : ∀ σ H Q, t' σ H Q → t σ H Q) : PW X e t' := ⟨fun wh pins s σ H Q I q => h.run wh pins s σ H Q I (i σ H Q q)⟩
theorem fw_and (ha : FT X c G a fa) (hb : FW X c G (.BoolOp .And (b :: rest) pos) fb) : FW X c G (.BoolOp .And (a :: b :: rest) pos) (fun g => (fa g).bind fun i => if i = true then fb g else Xc.ok false) :=
  PW.imp (pw_and ha hb) fun σ H Q ⟨F, g, w, q, h⟩ => by
    refine ⟨F, g, w, q, ?_⟩
    cases e1 : fa g with
    | ok i =>
      intro F1 H1 w1
      simp only [e1] at h
      cases i with
      | true => exact iteT ⟨F1, g, w.trans w1, G.mono q w1, PoB.on h w1⟩
      | false => exact iteF ((PoB.on h w1).ret w1.s)
    | er c' fs => simp only [e1] at h; exact h
    | no => simp only [e1] at h; exact h
theorem fw_or (ha : FT X c G a fa) (hb : FW X c G (.BoolOp .Or (b :: rest) pos) fb) : FW X c G (.BoolOp .Or (a :: b :: rest) pos) (fun g => (fa g).bind fun i => if i = true then Xc.ok true else fb g) :=
  PW.imp (pw_or ha hb) fun σ H Q ⟨F, g, w, q, h⟩ => by
    refine ⟨F, g, w, q, ?_⟩
    cases e1 : fa g with
    | ok i =>
      intro F1 H1 w1
      simp only [e1] at h
      cases i with
      | true => exact iteT ((PoB.on h w1).ret w1.s)
      | false => exact iteF ⟨F1, g, w.trans w1, G.mono q w1, PoB.on h w1⟩
    | er c' fs => simp only [e1] at h; exact h
    | no => simp only [e1] at h; exact h
/-- .. as values -/
theorem fe_one {op} (h : FE X c G a fa) : FE X c G (.BoolOp op [a] pos) fa := pe_one h
theorem fe_and (ha : FE X c G a fa) (hb : FE X c G (.BoolOp .And (b :: rest) pos) fb) : FE X c G (.BoolOp .And (a :: b :: rest) pos) (fun g => (fa g).bind fun i => if i = true then fb g else Xc.ok false) :=
  PE.imp (pe_and ha hb) fun σ H Q ⟨F, g, w, q, h⟩ => by
    refine ⟨F, g, w, q, ?_⟩
    cases e1 : fa g with
    | ok i =>
      intro v F1 H1 w1 r1
      simp only [e1] at h
      refine ⟨i, r1, ?_⟩
      cases i with
      | true => exact iteT ⟨F1, g, w.trans w1, G.mono q w1, Po.on h w1⟩
      | false => exact iteF ((Po.on h w1).ret w1.s rfl)
    | er c' fs => simp only [e1] at h; exact h
    | no => simp only [e1] at h; exact h
theorem fe_or (ha : FE X c G a fa) (hb : FE X c G (.BoolOp .Or (b :: rest) pos) fb) : FE X c G (.BoolOp .Or (a :: b :: rest) pos) (fun g => (fa g).bind fun i => if i = true then Xc.ok true else fb g) :=
  PE.imp (pe_or ha hb) fun σ H Q ⟨F, g, w, q, h⟩ => by
    refine ⟨F, g, w, q, ?_⟩
    cases e1 : fa g with
    | ok i =>
      intro v F1 H1 w1 r1
      simp only [e1] at h
      refine ⟨i, r1, ?_⟩
      cases i with
      | true => exact iteT ((Po.on h w1).ret w1.s rfl)
      | false => exact iteF ⟨F1, g, w.trans w1, G.mono q w1, Po.on h w1⟩
    | er c' fs => simp only [e1] at h; exact h
    | no => simp only [e1] at h; exact h
theorem fe_not (ha : FE X c G a fa) : FE X c G (.UnaryOp .Not a pos) (fun g => (fa g).bind fun i => Xc.ok (!i)) :=
  PE.imp (pe_not ha) fun σ H Q ⟨F, g, w, q, h⟩ => by
    refine ⟨F, g, w, q, ?_⟩
    cases e1 : fa g with
    | ok i => intro v F1 H1 w1 r1; simp only [e1] at h; exact ⟨i, r1, (Po.on h w1).ret w1.s rfl⟩
    | er c' fs => simp only [e1] at h; exact h
    | no => simp only [e1] at h; exact h
theorem fe_if {t : Expr} {ft : γ → Xc Bool} {f1 f2 : γ → Xc α} (ht : FT X c G t ft) (ha : FE X c G a f1) (hb : FE X c G b f2) : FE X c G (.IfExp t a b pos) (fun g => (ft g).bind fun i => if i = true then f1 g else f2 g) :=
  PE.imp (pe_ifExp ht ha hb) fun σ H Q ⟨F, g, w, q, h⟩ => by
    refine ⟨F, g, w, q, ?_⟩
    cases e1 : ft g with
    | ok i =>
      intro F1 H1 w1
      simp only [e1] at h
      cases i with
      | true => exact iteT ⟨F1, g, w.trans w1, G.mono q w1, Po.on h w1⟩
      | false => exact iteF ⟨F1, g, w.trans w1, G.mono q w1, Po.on h w1⟩
    | er c' fs => simp only [e1] at h; exact h
    | no => simp only [e1] at h; exact h
end
end FL

/-! FL3: arguments, displays, lists of one's own, subscripts, slices, texts, built-in calls. -/
namespace FL
open PySem L2
/-! ### arguments -/
class Rps (αs : Type) where
  isL : PySem.W.Frag → Hp → List V → αs → Prop
  mono : ∀ {K F F' vs as}, Same F F' → isL K F vs as → isL K F' vs as
instance : Rps Unit := ⟨fun _ _ vs _ => vs = [], fun _ h => h⟩
instance {α αs : Type} [Rp α] [Rps αs] : Rps (α × αs) := ⟨fun K F vs a => ∃ v r, vs = v :: r ∧ Rp.is K F v a.1 ∧ Rps.isL K F r a.2, fun s ⟨v, r, e, h, t⟩ => ⟨v, r, e, Rp.mono s h, Rps.mono s t⟩⟩
def PoA {αs : Type} [Rps αs] (K : PySem.W.Frag) (F H : Hp) (Q : List V → Hp → Prop) (E : XK) (m : Xc αs) : Prop := match m with
  | .ok a => ∀ vs F' H', Wd F H F' H' → Rps.isL K F' vs a → Q vs H'
  | .er c fs => ErP K F H E c fs
  | .no => False
theorem PoA.on {αs : Type} [Rps αs] {K : PySem.W.Frag} {F H F' H' : Hp} {Q : List V → Hp → Prop} {E : XK} {m : Xc αs} (h : PoA K F H Q E m) (w : Wd F H F' H') : PoA K F' H' Q E m := by
  cases m with
  | ok a => exact fun v F2 H2 w2 r => h v F2 H2 (w.trans w2) r
  | er c fs => exact ErP.on h w
  | no => exact h
/-- what a list of one's own gives: a new list, not frozen -/
def PoO {α : Type} [Rp α] (K : PySem.W.Frag) (F H : Hp) (Q : VK) (E : XK) (m : Xc (List α)) : Prop := match m with
  | .ok l => ∀ p xs F' H', Wd F H F' H' → H p = none → F' p = none → H' p = some (.lst xs) → l.length ≤ sizeLine → Al K F' xs l → Q (.ref p) H'
  | .er c fs => ErP K F H E c fs
  | .no => False
theorem PoO.on {α : Type} [Rp α] {K : PySem.W.Frag} {F H F' H' : Hp} {Q : VK} {E : XK} {m : Xc (List α)} (h : PoO K F H Q E m) (w : Wd F H F' H') : PoO K F' H' Q E m := by
  cases m with
  | ok a => exact fun p xs F2 H2 w2 n => h p xs F2 H2 (w.trans w2) (w.h.free n)
  | er c fs => exact ErP.on h w
  | no => exact h
/-- to freeze a list -/
theorem Wd.fz {F H F' H' : Hp} {p : Addr} {xs : List V} (w : Wd F H F' H') (n : H p = none) (f : F' p = none) (h : H' p = some (.lst xs)) : Wd F H (upd F' p (.lst xs)) H' :=
  ⟨w.f.trans (same_new f), w.h, fun b u e => by
    by_cases q : b = p
    · subst q; rw [upd_same] at e; rw [h]; exact e
    · rw [upd_ne q] at e; exact w.s b u e, fun b h' e => by
    by_cases q : b = p
    · subst q; exact n
    · rw [upd_ne q] at h'; exact w.n b h' e⟩
theorem Wd.ns {F H F' H' : Hp} (w : Wd F H F' H') (s : Same F H) {p : Addr} (n : H p = none) : F p = none := s.free n
section
variable {X : Cx} {c : C0} {γ α β δ αs : Type} {G : EnvT γ} [Rp α] [Rp β] [Rp δ] [Rps αs] {a b e : Expr} {pos : Pos} {es : List Expr}
def tA (K : PySem.W.Frag) (c : C0) (G : EnvT γ) (f : γ → Xc αs) : TA := fun σ H Q => ∃ F g, Wd c.F0 c.H0 F H ∧ G.rel K c.H0 F H σ g ∧ PoA K F H Q (WE c.W σ) (f g)
def FA (X : Cx) (c : C0) (G : EnvT γ) (es : List Expr) (f : γ → Xc αs) : Prop := PA X es (tA X.K c G f)
def tO (K : PySem.W.Frag) (c : C0) (G : EnvT γ) (f : γ → Xc (List α)) : TE := fun σ H Q => ∃ F g, Wd c.F0 c.H0 F H ∧ G.rel K c.H0 F H σ g ∧ PoO K F H Q (WE c.W σ) (f g)
/-- e computes a list that is new and one's own -/
def FO (X : Cx) (c : C0) (G : EnvT γ) (e : Expr) (f : γ → Xc (List α)) : Prop := PE X e (tO X.K c G f)
theorem PA.imp {t t' : TA} (h : PA X es t) (i : ∀ σ H Q, t' σ H Q → t σ H Q) : PA X es t' := ⟨fun pos pins s σ H Q I q => h.run pos pins s σ H Q I (i σ H Q q)⟩
theorem fa_nil : FA X c G [] (fun _ => Xc.ok ()) := PA.imp pa_nil fun σ H Q ⟨F, g, w, q, h⟩ => h [] F H (Wd.refl w.s) rfl
theorem fa_cons {f : γ → Xc α} {fs : γ → Xc αs} (ha : FE X c G e f) (hr : FA X c G es fs) (hs : starEach (e :: es) X.env = (false, eval e X.env) :: starEach es X.env := by rfl) :
    FA X c G (e :: es) (fun g => (f g).bind fun i => (fs g).bind fun r => Xc.ok (i, r)) :=
  PA.imp (pa_cons ha hr hs) fun σ H Q ⟨F, g, w, q, h⟩ => by
    refine ⟨F, g, w, q, ?_⟩
    cases e1 : f g with
    | ok i =>
      intro v F1 H1 w1 r1
      simp only [e1] at h
      have h : PoA X.K F H Q (WE c.W σ) ((fs g).bind fun r => Xc.ok (i, r)) := h
      refine ⟨F1, g, w.trans w1, G.mono q w1, ?_⟩
      cases e2 : fs g with
      | ok r =>
        intro vs F2 H2 w2 r2
        simp only [e2] at h
        exact h (v :: vs) F2 H2 (w1.trans w2) ⟨v, vs, rfl, Rp.mono w2.f r1, r2⟩
      | er c' fs => simp only [e2] at h; exact ErP.on h w1
      | no => simp only [e2] at h; exact h
    | er c' fs => simp only [e1] at h; exact h
    | no => simp only [e1] at h; exact h
/-- an own list as a frozen one -/
theorem fe_fz {f : γ → Xc (List α)} (h : FO X c G e f) : FE X c G e f :=
  PE.imp h fun σ H Q ⟨F, g, w, q, p⟩ => by
    refine ⟨F, g, w, q, ?_⟩
    cases e1 : f g with
    | ok l =>
      intro p1 xs F1 H1 w1 n f1 h1 hl r
      rw [e1] at p
      exact p (.ref p1) _ H1 (w1.fz n f1 h1) ⟨p1, xs, rfl, SqL.of upd_same, hl, r.mono (same_new f1)⟩
    | er c' fs => rw [e1] at p; exact p
    | no => rw [e1] at p; exact p
theorem FO.cast {f f' : γ → Xc (List α)} (h : FO X c G e f) (i : ∀ g, f' g = f g) : FO X c G e f' := by
  rw [show f' = f from funext i]; exact h
end

/-! ### displays -/
def PoH {α : Type} [Rp α] (K : PySem.W.Frag) (F H : Hp) (Q : List V → Hp → Prop) (E : XK) (m : Xc (List α)) : Prop := match m with
  | .ok a => ∀ vs F' H', Wd F H F' H' → Al K F' vs a → Q vs H'
  | .er c fs => ErP K F H E c fs
  | .no => False
theorem PoH.on {α : Type} [Rp α] {K : PySem.W.Frag} {F H F' H' : Hp} {Q : List V → Hp → Prop} {E : XK} {m : Xc (List α)} (h : PoH K F H Q E m) (w : Wd F H F' H') : PoH K F' H' Q E m := by
  cases m with
  | ok a => exact fun v F2 H2 w2 r => h v F2 H2 (w.trans w2) r
  | er c fs => exact ErP.on h w
  | no => exact h
section
variable {X : Cx} {c : C0} {γ α β δ ε : Type} {G : EnvT γ} [Rp α] [Rp β] [Rp δ] [Rp ε] {a b e d e' : Expr} {pos : Pos} {es : List Expr}
def tH (K : PySem.W.Frag) (c : C0) (G : EnvT γ) (f : γ → Xc (List α)) : TA := fun σ H Q => ∃ F g, Wd c.F0 c.H0 F H ∧ G.rel K c.H0 F H σ g ∧ PoH K F H Q (WE c.W σ) (f g)
/-- expressions in a row, all of one kind -/
def FH (X : Cx) (c : C0) (G : EnvT γ) (es : List Expr) (f : γ → Xc (List α)) : Prop := PA X es (tH X.K c G f)
theorem fh_nil : FH X c G [] (fun _ => Xc.ok ([] : List α)) := PA.imp pa_nil fun σ H Q ⟨F, g, w, q, h⟩ => h [] F H (Wd.refl w.s) .nil
theorem fh_cons {f : γ → Xc α} {fs : γ → Xc (List α)} (ha : FE X c G e f) (hr : FH X c G es fs) (hs : starEach (e :: es) X.env = (false, eval e X.env) :: starEach es X.env := by rfl) :
    FH X c G (e :: es) (fun g => (f g).bind fun i => (fs g).bind fun r => Xc.ok (i :: r)) :=
  PA.imp (pa_cons ha hr hs) fun σ H Q ⟨F, g, w, q, h⟩ => by
    refine ⟨F, g, w, q, ?_⟩
    cases e1 : f g with
    | ok i =>
      intro v F1 H1 w1 r1
      simp only [e1] at h
      have h : PoH X.K F H Q (WE c.W σ) ((fs g).bind fun r => Xc.ok (i :: r)) := h
      refine ⟨F1, g, w.trans w1, G.mono q w1, ?_⟩
      cases e2 : fs g with
      | ok r =>
        intro vs F2 H2 w2 r2
        simp only [e2] at h
        exact h (v :: vs) F2 H2 (w1.trans w2) (.cons (Rp.mono w2.f r1) r2)
      | er c' fs => simp only [e2] at h; exact ErP.on h w1
      | no => simp only [e2] at h; exact h
    | er c' fs => simp only [e1] at h; exact h
    | no => simp only [e1] at h; exact h
theorem small_line {n : Nat} (h : n ≤ 1000) : n ≤ sizeLine := Nat.le_trans h (by rw [sizeLine_eq]; decide)
@[irreducible] def szX {α : Type} (l : List α) : Xc (List α) := if l.length ≤ sizeLine then .ok l else .no
theorem fe_tup2 {x1} {fa : γ → Xc α} {fb : γ → Xc β} (ha : FE X c G a fa) (hb : FE X c G b fb) (hs : starEach [a, b] X.env = (false, eval a X.env) :: starEach [b] X.env := by rfl) (hs2 : starEach [b] X.env = (false, eval b X.env) :: starEach [] X.env := by rfl) :
    FE X c G (.Tuple [a, b] x1 pos) (fun g => (fa g).bind fun i => (fb g).bind fun j => Xc.ok (i, j)) :=
  PE.imp (pe_tup (fa_cons ha (fa_cons hb fa_nil hs2) hs)) fun σ H Q ⟨F, g, w, q, p⟩ => by
    refine ⟨F, g, w, q, ?_⟩
    cases e1 : fa g with
    | ok i =>
      cases e2 : fb g with
      | ok j =>
        simp only [e1, e2] at p ⊢
        intro vs F1 H1 w1 r1
        obtain ⟨v, r, e3, q1, ⟨u, r2, e4, q2, e5⟩⟩ := r1
        subst e5 e4 e3
        refine ⟨small_line (by decide : 2 ≤ 1000), fun l hl => ?_⟩
        have w2 := Wd.new (o := .tup [v, u]) w1.s hl
        exact p (.ref l) _ _ (w1.trans w2) ⟨l, v, u, rfl, SqT.of upd_same, Rp.mono w2.f q1, Rp.mono w2.f q2⟩
      | er c' fs => simp only [e1, e2] at p ⊢; exact p
      | no => simp only [e1, e2] at p ⊢; exact p
    | er c' fs => simp only [e1] at p ⊢; exact p
    | no => simp only [e1] at p ⊢; exact p
theorem fe_tup3 {x1} {fa : γ → Xc α} {fb : γ → Xc β} {fd : γ → Xc δ} (ha : FE X c G a fa) (hb : FE X c G b fb) (hd : FE X c G d fd) (hs : starEach [a, b, d] X.env = (false, eval a X.env) :: starEach [b, d] X.env := by rfl)
    (hs2 : starEach [b, d] X.env = (false, eval b X.env) :: starEach [d] X.env := by rfl) (hs3 : starEach [d] X.env = (false, eval d X.env) :: starEach [] X.env := by rfl) :
    FE X c G (.Tuple [a, b, d] x1 pos) (fun g => (fa g).bind fun i => (fb g).bind fun j => (fd g).bind fun m => Xc.ok (T3.mk i j m)) :=
  PE.imp (pe_tup (fa_cons ha (fa_cons hb (fa_cons hd fa_nil hs3) hs2) hs)) fun σ H Q ⟨F, g, w, q, p⟩ => by
    refine ⟨F, g, w, q, ?_⟩
    cases e1 : fa g with
    | ok i =>
      cases e2 : fb g with
      | ok j =>
        cases e3 : fd g with
        | ok m =>
          simp only [e1, e2, e3] at p ⊢
          intro vs F1 H1 w1 r1
          obtain ⟨v, r, y1, q1, ⟨u, r2, y2, q2, ⟨z, r3, y3, q3, y4⟩⟩⟩ := r1
          subst y4 y3 y2 y1
          refine ⟨small_line (by decide : 3 ≤ 1000), fun l hl => ?_⟩
          have w2 := Wd.new (o := .tup [v, u, z]) w1.s hl
          exact p (.ref l) _ _ (w1.trans w2) ⟨l, v, u, z, rfl, SqT.of upd_same, Rp.mono w2.f q1, Rp.mono w2.f q2, Rp.mono w2.f q3⟩
        | er c' fs => simp only [e1, e2, e3] at p ⊢; exact p
        | no => simp only [e1, e2, e3] at p ⊢; exact p
      | er c' fs => simp only [e1, e2] at p ⊢; exact p
      | no => simp only [e1, e2] at p ⊢; exact p
    | er c' fs => simp only [e1] at p ⊢; exact p
    | no => simp only [e1] at p ⊢; exact p
theorem fe_tup4 {x1} {fa : γ → Xc α} {fb : γ → Xc β} {fd : γ → Xc δ} {fe : γ → Xc ε} (ha : FE X c G a fa) (hb : FE X c G b fb) (hd : FE X c G d fd) (he : FE X c G e' fe) (hs : starEach [a, b, d, e'] X.env = (false, eval a X.env) :: starEach [b, d, e'] X.env := by rfl)
    (hs2 : starEach [b, d, e'] X.env = (false, eval b X.env) :: starEach [d, e'] X.env := by rfl) (hs3 : starEach [d, e'] X.env = (false, eval d X.env) :: starEach [e'] X.env := by rfl) (hs4 : starEach [e'] X.env = (false, eval e' X.env) :: starEach [] X.env := by rfl) :
    FE X c G (.Tuple [a, b, d, e'] x1 pos) (fun g => (fa g).bind fun i => (fb g).bind fun j => (fd g).bind fun m => (fe g).bind fun n => Xc.ok (T4.mk i j m n)) :=
  PE.imp (pe_tup (fa_cons ha (fa_cons hb (fa_cons hd (fa_cons he fa_nil hs4) hs3) hs2) hs)) fun σ H Q ⟨F, g, w, q, p⟩ => by
    refine ⟨F, g, w, q, ?_⟩
    cases e1 : fa g with
    | ok i =>
      cases e2 : fb g with
      | ok j =>
        cases e3 : fd g with
        | ok m =>
          cases e4 : fe g with
          | ok n =>
            simp only [e1, e2, e3, e4] at p ⊢
            intro vs F1 H1 w1 r1
            obtain ⟨v, r, y1, q1, ⟨u, r2, y2, q2, ⟨z, r3, y3, q3, ⟨t, r4, y4, q4, y5⟩⟩⟩⟩ := r1
            subst y5 y4 y3 y2 y1
            refine ⟨small_line (by decide : 4 ≤ 1000), fun l hl => ?_⟩
            have w2 := Wd.new (o := .tup [v, u, z, t]) w1.s hl
            exact p (.ref l) _ _ (w1.trans w2) ⟨l, v, u, z, t, rfl, SqT.of upd_same, Rp.mono w2.f q1, Rp.mono w2.f q2, Rp.mono w2.f q3, Rp.mono w2.f q4⟩
          | er c' fs => simp only [e1, e2, e3, e4] at p ⊢; exact p
          | no => simp only [e1, e2, e3, e4] at p ⊢; exact p
        | er c' fs => simp only [e1, e2, e3] at p ⊢; exact p
        | no => simp only [e1, e2, e3] at p ⊢; exact p
      | er c' fs => simp only [e1, e2] at p ⊢; exact p
      | no => simp only [e1, e2] at p ⊢; exact p
    | er c' fs => simp only [e1] at p ⊢; exact p
    | no => simp only [e1] at p ⊢; exact p
/-- a tuple of items of one kind -/
theorem fe_tupU {x1} {fs : γ → Xc (List α)} (h : FH X c G es fs) : FE X c G (.Tuple es x1 pos) (fun g => (fs g).bind fun l => (szX l).bind fun l => Xc.ok (tu l)) :=
  PE.imp (pe_tup h) fun σ H Q ⟨F, g, w, q, p⟩ => by
    refine ⟨F, g, w, q, ?_⟩
    cases e1 : fs g with
    | ok l =>
      intro vs F1 H1 w1 r1
      simp only [e1] at p
      have p : Po X.K F H Q (WE c.W σ) ((szX l).bind fun l => Xc.ok (tu l)) := p
      unfold szX at p
      by_cases hz : l.length ≤ sizeLine
      · rw [if_pos hz] at p
        refine ⟨by rw [r1.len]; exact hz, fun t ht => ?_⟩
        have w2 := Wd.new (o := .tup vs) w1.s ht
        exact p (.ref t) _ _ (w1.trans w2) ⟨t, vs, rfl, SqT.of upd_same, hz, r1.mono w2.f⟩
      · rw [if_neg hz] at p; exact p.elim
    | er c' fs => simp only [e1] at p; exact p
    | no => simp only [e1] at p; exact p
theorem fo_lst {fs : γ → Xc (List α)} (h : FH X c G es fs) : FO X c G (.List es pos) (fun g => (fs g).bind szX) :=
  PE.imp (pe_lst h) fun σ H Q ⟨F, g, w, q, p⟩ => by
    refine ⟨F, g, w, q, ?_⟩
    cases e1 : fs g with
    | ok l =>
      intro vs F1 H1 w1 r1
      simp only [e1] at p
      have p : PoO X.K F H Q (WE c.W σ) (szX l) := p
      unfold szX at p
      by_cases hz : l.length ≤ sizeLine
      · rw [if_pos hz] at p
        refine ⟨by rw [r1.len]; exact hz, fun t ht => ?_⟩
        exact p t vs F1 _ (w1.trans (Wd.newO w1.s ht)) (w1.h.free ht) (w1.s.free ht) upd_same hz r1
      · rw [if_neg hz] at p; exact p.elim
    | er c' fs => simp only [e1] at p; exact p
    | no => simp only [e1] at p; exact p
theorem fo_nil : FO X c G (.List [] pos) (fun _ => Xc.ok ([] : List α)) :=
  PE.imp (pe_lst pa_nil) fun σ H Q ⟨F, g, w, q, p⟩ => by
    refine ⟨Nat.zero_le _, fun l hl => ?_⟩
    exact p l [] F _ (Wd.newO w.s hl) hl (w.s.free hl) upd_same (Nat.zero_le _) .nil
end

/-! ### subscripts -/
@[irreducible] def getX {α : Type} (l : List α) (i : Int) : Xc α := match atI l i with
  | some a => .ok a
  | none => .no
theorem atI_al {α : Type} [Rp α] {K : PySem.W.Frag} {F : Hp} {xs : List V} {l : List α} {i : Int} {a : α} (r : Al K F xs l) (h : atI l i = some a) : ∃ v, atI xs i = some v ∧ Rp.is K F v a := by
  unfold atI at h ⊢
  rw [r.len]
  cases e : ixN l.length i with
  | none => rw [e] at h; cases h
  | some j =>
    rw [e] at h
    exact r.get' (show l[j]? = some a from h)
@[irreducible] def chX (z : Str) (i : Int) : Xc Str := match atI z.cps.toList i with
  | some k => .ok ⟨#[k]⟩
  | none => .no
theorem one_le_line : 1 ≤ sizeLine := by rw [sizeLine_eq]; decide
section
variable {X : Cx} {c : C0} {γ α β δ τ : Type} {G : EnvT γ} [Rp α] [Rp β] [Rp δ] {a b e : Expr} {pos : Pos} {es : List Expr}
theorem fe_ixL {fa : γ → Xc (List α)} {fi : γ → Xc Int} (ha : FE X c G a fa) (hb : FE X c G b fi) (hs : PlainIx b := by exact fun _ _ => rfl) : FE X c G (.Subscript a b pos) (fun g => (fa g).bind fun l => (fi g).bind fun i => getX l i) :=
  two (fun h1 h2 => pe_ix ix_list h1 h2 hs) ha hb fun {F H x y l i Q E} s r1 r2 p => by
    obtain ⟨q, xs, e, hq, z, r⟩ := r1
    unfold getX at p
    cases h : atI l i with
    | none => rw [h] at p; exact p.elim
    | some v =>
      rw [h] at p
      obtain ⟨u, hu, ru⟩ := atI_al r h
      exact ⟨q, xs, i, u, e, r2, Same.seq s hq, hu, p.ret s ru⟩
theorem fe_ixU {fa : γ → Xc (Tu α)} {fi : γ → Xc Int} (ha : FE X c G a fa) (hb : FE X c G b fi) (hs : PlainIx b := by exact fun _ _ => rfl) : FE X c G (.Subscript a b pos) (fun g => (fa g).bind fun l => (fi g).bind fun i => getX (Tu.l l) i) :=
  two (fun h1 h2 => pe_ix ix_tup h1 h2 hs) ha hb fun {F H x y l i Q E} s r1 r2 p => by
    obtain ⟨q, xs, e, hq, z, r⟩ := r1
    unfold getX at p
    cases h : atI (Tu.l l) i with
    | none => rw [h] at p; exact p.elim
    | some v =>
      rw [h] at p
      obtain ⟨u, hu, ru⟩ := atI_al r h
      exact ⟨q, xs, i, u, e, r2, Same.seqT s hq, hu, p.ret s ru⟩
theorem fe_ixS {fa : γ → Xc Str} {fi : γ → Xc Int} (ha : FE X c G a fa) (hb : FE X c G b fi) (hs : PlainIx b := by exact fun _ _ => rfl) : FE X c G (.Subscript a b pos) (fun g => (fa g).bind fun l => (fi g).bind fun i => chX l i) :=
  two (fun h1 h2 => pe_ix ix_str h1 h2 hs) ha hb fun {F H x y l i Q E} s r1 r2 p => by
    unfold chX at p
    cases h : atI l.cps.toList i with
    | none => rw [h] at p; exact p.elim
    | some v =>
      rw [h] at p
      exact ⟨l, i, v, r1.1, r2, r1.2, h, p.ret s ⟨rfl, one_le_line⟩⟩
/-- t[k] of a written place -/
theorem fe_itm {fa : γ → Xc τ} [Rp τ] {π : τ → α} {k : Int} {j p} (hπ : ∀ {K F v} {t : τ}, Rp.is K F v t → ∃ q xs u, v = .ref q ∧ SqT K F q xs ∧ atI xs k = some u ∧ Rp.is K F u (π t)) (ha : FE X c G a fa) :
    FE X c G (.Subscript a (.Constant (.int k) j p) pos) (fun g => (fa g).bind fun t => Xc.ok (π t)) :=
  PE.imp (pe_ix ix_tup ha pe_int (fun _ _ => rfl)) fun σ H Q ⟨F, g, w, q, h⟩ => by
    refine ⟨F, g, w, q, ?_⟩
    cases e1 : fa g with
    | ok t =>
      intro v F1 H1 w1 r1
      simp only [e1] at h
      obtain ⟨q, xs, u, e, hq, hu, r⟩ := hπ r1
      exact ⟨q, xs, k, u, e, rfl, Same.seqT w1.s hq, hu, (Po.on h w1).ret w1.s r⟩
    | er c' fs => simp only [e1] at h; exact h
    | no => simp only [e1] at h; exact h
variable {ε ζ : Type} [Rp ε] [Rp ζ] {j : Nat} {p : Pos}
theorem fe_p0 {fa : γ → Xc (α × β)} (ha : FE X c G a fa) : FE X c G (.Subscript a (.Constant (.int 0) j p) pos) (fun g => (fa g).bind fun t => Xc.ok t.1) :=
  fe_itm (fun h => by obtain ⟨q, x, y, e, h, r1, r2⟩ := h; exact ⟨q, _, x, e, h, atI_nat (j := 0) rfl, r1⟩) ha
theorem fe_p1 {fa : γ → Xc (α × β)} (ha : FE X c G a fa) : FE X c G (.Subscript a (.Constant (.int 1) j p) pos) (fun g => (fa g).bind fun t => Xc.ok t.2) :=
  fe_itm (fun h => by obtain ⟨q, x, y, e, h, r1, r2⟩ := h; exact ⟨q, _, y, e, h, atI_nat (j := 1) rfl, r2⟩) ha
theorem fe_t0 {fa : γ → Xc (T3 α β ε)} (ha : FE X c G a fa) : FE X c G (.Subscript a (.Constant (.int 0) j p) pos) (fun g => (fa g).bind fun t => Xc.ok t.a) :=
  fe_itm (fun h => by obtain ⟨q, x, y, z, e, h, r1, r2, r3⟩ := h; exact ⟨q, _, x, e, h, atI_nat (j := 0) rfl, r1⟩) ha
theorem fe_t1 {fa : γ → Xc (T3 α β ε)} (ha : FE X c G a fa) : FE X c G (.Subscript a (.Constant (.int 1) j p) pos) (fun g => (fa g).bind fun t => Xc.ok t.b) :=
  fe_itm (fun h => by obtain ⟨q, x, y, z, e, h, r1, r2, r3⟩ := h; exact ⟨q, _, y, e, h, atI_nat (j := 1) rfl, r2⟩) ha
theorem fe_t2 {fa : γ → Xc (T3 α β ε)} (ha : FE X c G a fa) : FE X c G (.Subscript a (.Constant (.int 2) j p) pos) (fun g => (fa g).bind fun t => Xc.ok t.c) :=
  fe_itm (fun h => by obtain ⟨q, x, y, z, e, h, r1, r2, r3⟩ := h; exact ⟨q, _, z, e, h, atI_nat (j := 2) rfl, r3⟩) ha
theorem fe_q0 {fa : γ → Xc (T4 α β ε ζ)} (ha : FE X c G a fa) : FE X c G (.Subscript a (.Constant (.int 0) j p) pos) (fun g => (fa g).bind fun t => Xc.ok t.a) :=
  fe_itm (fun h => by obtain ⟨q, x, y, z, u, e, h, r1, r2, r3, r4⟩ := h; exact ⟨q, _, x, e, h, atI_nat (j := 0) rfl, r1⟩) ha
theorem fe_q1 {fa : γ → Xc (T4 α β ε ζ)} (ha : FE X c G a fa) : FE X c G (.Subscript a (.Constant (.int 1) j p) pos) (fun g => (fa g).bind fun t => Xc.ok t.b) :=
  fe_itm (fun h => by obtain ⟨q, x, y, z, u, e, h, r1, r2, r3, r4⟩ := h; exact ⟨q, _, y, e, h, atI_nat (j := 1) rfl, r2⟩) ha
theorem fe_q2 {fa : γ → Xc (T4 α β ε ζ)} (ha : FE X c G a fa) : FE X c G (.Subscript a (.Constant (.int 2) j p) pos) (fun g => (fa g).bind fun t => Xc.ok t.c) :=
  fe_itm (fun h => by obtain ⟨q, x, y, z, u, e, h, r1, r2, r3, r4⟩ := h; exact ⟨q, _, z, e, h, atI_nat (j := 2) rfl, r3⟩) ha
theorem fe_q3 {fa : γ → Xc (T4 α β ε ζ)} (ha : FE X c G a fa) : FE X c G (.Subscript a (.Constant (.int 3) j p) pos) (fun g => (fa g).bind fun t => Xc.ok t.d) :=
  fe_itm (fun h => by obtain ⟨q, x, y, z, u, e, h, r1, r2, r3, r4⟩ := h; exact ⟨q, _, u, e, h, atI_nat (j := 3) rfl, r4⟩) ha
end

/-! ### slices -/
section
variable {X : Cx} {c : C0} {γ α β δ τ : Type} {G : EnvT γ} [Rp α] [Rp β] [Rp δ] {a b e : Expr} {pos p2 : Pos} {lo hi : Option Expr}
/-- a part of a slice -/
def PoP (K : PySem.W.Frag) (F H : Hp) (Q : Option Int → Hp → Prop) (E : XK) (m : Xc (Option Int)) : Prop := match m with
  | .ok b => ∀ F' H', Wd F H F' H' → Q b H'
  | .er c fs => ErP K F H E c fs
  | .no => False
def FP (X : Cx) (c : C0) (G : EnvT γ) (e : Option Expr) (f : γ → Xc (Option Int)) : Prop := PO X e (fun σ H Q => ∃ F g, Wd c.F0 c.H0 F H ∧ G.rel X.K c.H0 F H σ g ∧ PoP X.K F H Q (WE c.W σ) (f g))
theorem fp_none : FP X c G none (fun _ => Xc.ok none) := ⟨fun pins s σ H Q I ⟨F, g, w, q, h⟩ => po_none.run pins s σ H Q I (h F H (Wd.refl w.s))⟩
theorem fp_some {f : γ → Xc Int} (h : FE X c G e f) : FP X c G (some e) (fun g => (f g).bind fun i => Xc.ok (some i)) := ⟨fun pins s σ H Q I ⟨F, g, w, q, p⟩ => (po_some h).run pins s σ H Q I (by
  refine ⟨F, g, w, q, ?_⟩
  cases e1 : f g with
  | ok i => intro v F1 H1 w1 r1; simp only [e1] at p; exact ⟨i, r1, p F1 H1 w1⟩
  | er c' fs => simp only [e1] at p; exact p
  | no => simp only [e1] at p; exact p)⟩
theorem slc {f : γ → Xc α} {fl fh : γ → Xc (Option Int)} {op : α → Option Int → Option Int → Xc β} {r : V → Option Int → Option Int → Hp → VK → Prop} (hr : SlR X r)
    (hop : ∀ {F H x i l u Q E}, Same F H → Rp.is X.K F x i → Po X.K F H Q E (op i l u) → r x l u H Q) (ha : FE X c G a f) (hl : FP X c G lo fl) (hu : FP X c G hi fh) :
    FE X c G (.Subscript a (.Slice lo hi none p2) pos) (fun g => (f g).bind fun i => (fl g).bind fun l => (fh g).bind fun u => op i l u) :=
  PE.imp (pe_slice hr ha hl hu) fun σ H Q ⟨F, g, w, q, p⟩ => by
    refine ⟨F, g, w, q, ?_⟩
    cases e1 : f g with
    | ok i =>
      intro v F1 H1 w1 r1
      simp only [e1] at p
      have p : Po X.K F H Q (WE c.W σ) ((fl g).bind fun l => (fh g).bind fun u => op i l u) := p
      refine ⟨F1, g, w.trans w1, G.mono q w1, ?_⟩
      cases e2 : fl g with
      | ok l =>
        intro F2 H2 w2
        simp only [e2] at p
        have p : Po X.K F H Q (WE c.W σ) ((fh g).bind fun u => op i l u) := p
        refine ⟨F2, g, (w.trans w1).trans w2, G.mono (G.mono q w1) w2, ?_⟩
        cases e3 : fh g with
        | ok u =>
          intro F3 H3 w3
          simp only [e3] at p
          exact hop w3.s (Rp.mono (w2.trans w3).f r1) (Po.on (show Po X.K F H Q (WE c.W σ) (op i l u) from p) ((w1.trans w2).trans w3))
        | er c' fs => simp only [e3] at p; exact ErP.on (show ErP X.K F H (WE c.W σ) c' fs from p) (w1.trans w2)
        | no => simp only [e3] at p; exact p
      | er c' fs => simp only [e2] at p; exact ErP.on (show ErP X.K F H (WE c.W σ) c' fs from p) w1
      | no => simp only [e2] at p; exact p
    | er c' fs => simp only [e1] at p; exact p
    | no => simp only [e1] at p; exact p
/-- xs[l:u] of any list -/
@[irreducible] def cutL {α : Type} (xs : List α) (lo hi : Option Int) : List α := (xs.drop (HT.sIx xs.length 0 lo)).take (HT.sIx xs.length xs.length hi - HT.sIx xs.length 0 lo)
theorem cutL_al {K : PySem.W.Frag} {F : Hp} {xs : List V} {l : List α} {lo hi : Option Int} (r : Al K F xs l) : Al K F (cutV xs lo hi) (cutL l lo hi) := by
  unfold cutV cutL
  rw [r.len]
  exact (r.drop _).take _
theorem cutL_len (l : List α) (lo hi : Option Int) : (cutL l lo hi).length ≤ l.length := by
  unfold cutL
  rw [List.length_take, List.length_drop]
  omega
theorem fe_slS {f : γ → Xc Str} {fl fh : γ → Xc (Option Int)} (ha : FE X c G a f) (hl : FP X c G lo fl) (hu : FP X c G hi fh) :
    FE X c G (.Subscript a (.Slice lo hi none p2) pos) (fun g => (f g).bind fun i => (fl g).bind fun l => (fh g).bind fun u => Xc.ok (cutS i l u)) :=
  slc sl_str (fun {F H x i l u Q E} s r p => by exact ⟨i, r.1, r.2, p.ret s ⟨rfl, Nat.le_trans (cutS_length _ _ _) r.2⟩⟩) ha hl hu
theorem fe_slL {f : γ → Xc (List α)} {fl fh : γ → Xc (Option Int)} (ha : FE X c G a f) (hl : FP X c G lo fl) (hu : FP X c G hi fh) :
    FE X c G (.Subscript a (.Slice lo hi none p2) pos) (fun g => (f g).bind fun i => (fl g).bind fun l => (fh g).bind fun u => Xc.ok (cutL i l u)) :=
  slc sl_list (fun {F H x i l u Q E} s h p => by
    obtain ⟨q, xs, e, hq, z, r⟩ := h
    exact ⟨q, xs, e, Same.seq s hq, fun k hk => p (.ref k) _ _ (Wd.new s hk) ⟨k, _, rfl, SqL.of upd_same, Nat.le_trans (cutL_len _ _ _) z, (cutL_al r).mono (same_new (s.free hk))⟩⟩) ha hl hu
theorem fe_slU {f : γ → Xc (Tu α)} {fl fh : γ → Xc (Option Int)} (ha : FE X c G a f) (hl : FP X c G lo fl) (hu : FP X c G hi fh) :
    FE X c G (.Subscript a (.Slice lo hi none p2) pos) (fun g => (f g).bind fun i => (fl g).bind fun l => (fh g).bind fun u => Xc.ok (tu (cutL (Tu.l i) l u))) :=
  slc sl_tupA (fun {F H x i l u Q E} s h p => by
    obtain ⟨q, xs, e, hq, z, r⟩ := h
    refine ⟨q, xs, e, Same.seqT s hq, fun hw => ?_, fun hw k hk => ?_⟩
    · refine p.ret s ⟨q, xs, rfl, hq, Nat.le_trans (cutL_len _ _ _) z, ?_⟩
      have e1 : cutL (Tu.l i) l u = (Tu.l i) := by
        unfold cutL
        rw [r.len] at hw
        rw [hw.1, hw.2, Nat.sub_zero, List.drop_zero, List.take_length]
      rw [e1]; exact r
    · exact p (.ref k) _ _ (Wd.new s hk) ⟨k, _, rfl, SqT.of upd_same, Nat.le_trans (cutL_len _ _ _) z, (cutL_al r).mono (same_new (s.free hk))⟩) ha hl hu
end
end FL

/-! FL4: built-in calls, texts, tuples joined, lists of one's own read. -/
namespace FL
open PySem L2
section
variable {X : Cx} {c : C0} {γ α β ρ αs : Type} {G : EnvT γ} [Rp α] [Rp β] [Rp ρ] [Rps αs] {a b e : Expr} {pos p p2 : Pos} {es : List Expr}
/-- a call of a built-in thing by its arguments -/
theorem callA {r : List V → Hp → VK → Prop} {op : αs → Xc ρ} {fs : γ → Xc αs} (h : ∀ {t : TA}, PA X es t → PE X e (tCB r t)) (hA : FA X c G es fs)
    (hop : ∀ {F H vs as Q E}, Same F H → Rps.isL X.K F vs as → Po X.K F H Q E (op as) → r vs H Q) : FE X c G e (fun g => (fs g).bind op) :=
  PE.imp (h hA) fun σ H Q ⟨F, g, w, q, p⟩ => by
    refine ⟨F, g, w, q, ?_⟩
    cases e1 : fs g with
    | ok as => intro vs F1 H1 w1 r1; simp only [e1] at p; exact hop w1.s r1 (Po.on (show Po X.K F H Q (WE c.W σ) (op as) from p) w1)
    | er c' fs => simp only [e1] at p; exact p
    | no => simp only [e1] at p; exact p
theorem callAO {r : List V → Hp → VK → Prop} {op : αs → Xc (List ρ)} {fs : γ → Xc αs} (h : ∀ {t : TA}, PA X es t → PE X e (tCB r t)) (hA : FA X c G es fs)
    (hop : ∀ {F H vs as Q E}, Same F H → Rps.isL X.K F vs as → PoO X.K F H Q E (op as) → r vs H Q) : FO X c G e (fun g => (fs g).bind op) :=
  PE.imp (h hA) fun σ H Q ⟨F, g, w, q, p⟩ => by
    refine ⟨F, g, w, q, ?_⟩
    cases e1 : fs g with
    | ok as => intro vs F1 H1 w1 r1; simp only [e1] at p; exact hop w1.s r1 (PoO.on (show PoO X.K F H Q (WE c.W σ) (op as) from p) w1)
    | er c' fs => simp only [e1] at p; exact p
    | no => simp only [e1] at p; exact p
/-- one argument -/
theorem call1 {r : List V → Hp → VK → Prop} {op : α → Xc ρ} {fa : γ → Xc α} (h : ∀ {t : TA}, PA X [a] t → PE X e (tCB r t)) (ha : FE X c G a fa) (hs : starEach [a] X.env = (false, eval a X.env) :: starEach [] X.env := by rfl)
    (hop : ∀ {F H v i Q E}, Same F H → Rp.is X.K F v i → Po X.K F H Q E (op i) → r [v] H Q) : FE X c G e (fun g => (fa g).bind op) :=
  FE.cast (callA (op := fun (as : α × Unit) => op as.1) h (fa_cons ha fa_nil hs) fun {F H vs as Q E} s r p => by
    obtain ⟨v, r', e1, r1, e2⟩ := r
    subst e2 e1
    exact hop s r1 p) fun g => by cases fa g <;> rfl
theorem call1O {r : List V → Hp → VK → Prop} {op : α → Xc (List ρ)} {fa : γ → Xc α} (h : ∀ {t : TA}, PA X [a] t → PE X e (tCB r t)) (ha : FE X c G a fa) (hs : starEach [a] X.env = (false, eval a X.env) :: starEach [] X.env := by rfl)
    (hop : ∀ {F H v i Q E}, Same F H → Rp.is X.K F v i → PoO X.K F H Q E (op i) → r [v] H Q) : FO X c G e (fun g => (fa g).bind op) :=
  FO.cast (callAO (op := fun (as : α × Unit) => op as.1) h (fa_cons ha fa_nil hs) fun {F H vs as Q E} s r p => by
    obtain ⟨v, r', e1, r1, e2⟩ := r
    subst e2 e1
    exact hop s r1 p) fun g => by cases fa g <;> rfl
theorem call2 {r : List V → Hp → VK → Prop} {op : α → β → Xc ρ} {fa : γ → Xc α} {fb : γ → Xc β} (h : ∀ {t : TA}, PA X [a, b] t → PE X e (tCB r t)) (ha : FE X c G a fa) (hb : FE X c G b fb)
    (hs : starEach [a, b] X.env = (false, eval a X.env) :: starEach [b] X.env := by rfl) (hs2 : starEach [b] X.env = (false, eval b X.env) :: starEach [] X.env := by rfl)
    (hop : ∀ {F H v u i j Q E}, Same F H → Rp.is X.K F v i → Rp.is X.K F u j → Po X.K F H Q E (op i j) → r [v, u] H Q) : FE X c G e (fun g => (fa g).bind fun i => (fb g).bind fun j => op i j) :=
  FE.cast (callA (op := fun (as : α × β × Unit) => op as.1 as.2.1) h (fa_cons ha (fa_cons hb fa_nil hs2) hs) fun {F H vs as Q E} s r p => by
    obtain ⟨v, r', e1, r1, u, r'', e2, r2, e3⟩ := r
    subst e3 e2 e1
    exact hop s r1 r2 p) fun g => by cases fa g <;> first | rfl | (cases fb g <;> rfl)

/-! ### len -/
class HasLen (α : Type) [Rp α] where
  len : α → Nat
  is : ∀ {K F H v} {a : α}, Same F H → Rp.is K F v a → LenV K v H (len a)
instance : HasLen Str := ⟨Str.length, fun {K F H v a} s h => by obtain ⟨h1, h2⟩ := h; subst h1; exact ⟨h2, rfl⟩⟩
instance {α : Type} [Rp α] : HasLen (List α) := ⟨List.length, fun {K F H v a} s h => by obtain ⟨q, xs, e, hq, z, r⟩ := h; subst e; exact .inl ⟨xs, Same.seq s hq, r.len.symm⟩⟩
instance {α : Type} [Rp α] : HasLen (Tu α) := ⟨fun t => t.l.length, fun {K F H v a} s h => by obtain ⟨q, xs, e, hq, z, r⟩ := h; subst e; exact .inr ⟨xs, Same.seqT s hq, r.len.symm⟩⟩
theorem fe_len [HasLen α] {fa : γ → Xc α} (ha : FE X c G a fa) (hm : X.mg "len" = none) (hg : Gl X "len" := by rfl) (hs : starEach [a] X.env = (false, eval a X.env) :: starEach [] X.env := by rfl) :
    FE X c G (.Call (.Name "len" p) [a] [] pos) (fun g => (fa g).bind fun i => Xc.ok ((HasLen.len i : Nat) : Int)) :=
  call1 (r := fun xs H Q => ∃ x n, xs = [x] ∧ LenV X.K x H n ∧ Q (.int n) H) (fun h => pe_callB call_len hg hm PySem.boot_len h (he := hs)) ha hs fun {F H v i Q E} s r p => by
    exact ⟨v, _, rfl, HasLen.is s r, p.ret s rfl⟩

/-! ### numbers -/
@[irreducible] def absI (i : Int) : Int := if i < 0 then -i else i
theorem fe_abs {fa : γ → Xc Int} (ha : FE X c G a fa) (hm : X.mg "abs" = none) (hg : Gl X "abs" := by rfl) (hs : starEach [a] X.env = (false, eval a X.env) :: starEach [] X.env := by rfl) :
    FE X c G (.Call (.Name "abs" p) [a] [] pos) (fun g => (fa g).bind fun i => Xc.ok (absI i)) :=
  call1 (fun h => pe_callB call_abs hg hm (by decide +kernel) h (he := hs)) ha hs fun {F H v i Q E} s r p => by
    have r : v = .int i := r
    subst r
    exact ⟨i, rfl, p.ret s (by first | rfl | (unfold absI; rfl) | (unfold gcdI; rfl))⟩
theorem fe_intI {fa : γ → Xc Int} (ha : FE X c G a fa) (hm : X.mg "int" = none) (hg : Gl X "int" := by rfl) (hs : starEach [a] X.env = (false, eval a X.env) :: starEach [] X.env := by rfl) :
    FE X c G (.Call (.Name "int" p) [a] [] pos) (fun g => (fa g).bind fun i => Xc.ok i) :=
  call1 (fun h => pe_callTy call_int1 hg hm PyProof.Rows.boot_int h (he := hs)) ha hs fun {F H v i Q E} s r p => by
    have r : v = .int i := r
    subst r
    exact .inl ⟨i, rfl, p.ret s rfl⟩
def b2i (b : Bool) : Int := if b = true then 1 else 0
theorem fe_intB {fa : γ → Xc Bool} (ha : FE X c G a fa) (hm : X.mg "int" = none) (hg : Gl X "int" := by rfl) (hs : starEach [a] X.env = (false, eval a X.env) :: starEach [] X.env := by rfl) :
    FE X c G (.Call (.Name "int" p) [a] [] pos) (fun g => (fa g).bind fun i => Xc.ok (b2i i)) :=
  call1 (fun h => pe_callTy call_int1 hg hm PyProof.Rows.boot_int h (he := hs)) ha hs fun {F H v i Q E} s r p => by
    have r : v = .bl i := r
    subst r
    exact .inr ⟨i, rfl, p.ret s rfl⟩
@[irreducible] def intX (z : Str) : Xc Int := if z.length ≤ 640 then (match PySem.intText? z with
  | some n => .ok n
  | none => .no) else .no
theorem fe_intS {fa : γ → Xc Str} (ha : FE X c G a fa) (hm : X.mg "int" = none) (hg : Gl X "int" := by rfl) (hs : starEach [a] X.env = (false, eval a X.env) :: starEach [] X.env := by rfl) :
    FE X c G (.Call (.Name "int" p) [a] [] pos) (fun g => (fa g).bind intX) :=
  call1 (fun h => pe_callTy call_int_str hg hm PyProof.Rows.boot_int h (he := hs)) ha hs fun {F H v i Q E} s r p => by
    have r : v = .str i := r.1
    subst r
    unfold intX at p
    by_cases hz : i.length ≤ 640
    · rw [if_pos hz] at p
      cases e1 : PySem.intText? i with
      | none => rw [e1] at p; exact p.elim
      | some n => rw [e1] at p; exact ⟨i, n, rfl, e1, hz, p.ret s rfl⟩
    · rw [if_neg hz] at p; exact p.elim
@[irreducible] def gcdI (i j : Int) : Int := ((Nat.gcd i.natAbs j.natAbs : Nat) : Int)
theorem fe_gcd {fa fb : γ → Xc Int} (ha : FE X c G a fa) (hb : FE X c G b fb) (hm : X.mg "gcd" = some (.builtin "math.gcd")) (hg : Gl X "gcd" := by rfl) (hs : starEach [a, b] X.env = (false, eval a X.env) :: starEach [b] X.env := by rfl)
    (hs2 : starEach [b] X.env = (false, eval b X.env) :: starEach [] X.env := by rfl) (hpl : (backTo pos (starEach [b] X.env)).any (·.1) = false := by rfl) :
    FE X c G (.Call (.Name "gcd" p) [a, b] [] pos) (fun g => (fa g).bind fun i => (fb g).bind fun j => Xc.ok (gcdI i j)) :=
  call2 (fun h => pe_callBfun cr_gcd hg hm h (he := hs) (hpl := hpl)) ha hb hs hs2 fun {F H v u i j Q E} s r1 r2 p => by
    have r1 : v = .int i := r1
    have r2 : u = .int j := r2
    subst r1 r2
    exact ⟨i, j, rfl, p.ret s (by first | rfl | (unfold absI; rfl) | (unfold gcdI; rfl))⟩
theorem fe_bits {fa : γ → Xc Int} (ha : FE X c G a fa) {apos : Pos} (hbase : attributeBase a "bit_length" X.env (eval a X.env) = eval a X.env := by rfl) (hline : (apos.endLine == pos.line) = true := by rfl) :
    FE X c G (.Call (.Attribute a "bit_length" apos) [] [] pos) (fun g => (fa g).bind fun i => Xc.ok ((Builtin.Int.intBits i : Nat) : Int)) :=
  one (r := fun x H1 Q => ∃ i, x = .int i ∧ Q (.int (Builtin.Int.intBits i : Nat)) H1) (fun h => pe_bits h hbase hline) ha fun {F H x i Q E} s r p => by exact ⟨i, r, p.ret s rfl⟩

/-! ### texts -/
@[irreducible] def strX (i : Int) : Xc Str := if i.natAbs.log2 < 1920 then .ok (Str.ofString (toString i)) else .no
theorem fe_strI {fa : γ → Xc Int} (ha : FE X c G a fa) (hm : X.mg "str" = none) (hg : Gl X "str" := by rfl) (hs : starEach [a] X.env = (false, eval a X.env) :: starEach [] X.env := by rfl) :
    FE X c G (.Call (.Name "str" p) [a] [] pos) (fun g => (fa g).bind strX) :=
  call1 (fun h => pe_callTy call_str_int hg hm PyProof.Rows.boot_str h (he := hs)) ha hs fun {F H v i Q E} s r p => by
    have r : v = .int i := r
    subst r
    unfold strX at p
    by_cases hz : i.natAbs.log2 < 1920
    · rw [if_pos hz] at p; exact ⟨i, rfl, hz, p.ret s ⟨rfl, int_text_fits hz⟩⟩
    · rw [if_neg hz] at p; exact p.elim
@[irreducible] def catS (x y : Str) : Xc Str := if x.length + y.length ≤ sizeLine then .ok (x ++ y) else .no
theorem app_len (x y : Str) : (x ++ y).length = x.length + y.length := by
  show (x.cps ++ y.cps).size = x.cps.size + y.cps.size
  rw [Array.size_append]
theorem fe_catS {fa fb : γ → Xc Str} (ha : FE X c G a fa) (hb : FE X c G b fb) : FE X c G (.BinOp a .Add b pos) (fun g => (fa g).bind fun i => (fb g).bind fun j => catS i j) :=
  two (fun h1 h2 => pe_op op_add_str h1 h2) ha hb fun {F H x y i j Q E} s r1 r2 p => by
    unfold catS at p
    by_cases h : i.length + j.length ≤ sizeLine
    · rw [if_pos h] at p; exact ⟨_, _, r1.1, r2.1, h, p.ret s ⟨rfl, by rw [app_len]; exact h⟩⟩
    · rw [if_neg h] at p; exact p.elim
/-- one sign within a text -/
@[irreducible] def inSg (x : Str) (z : Str) : Xc Bool := match x.cps.toList with
  | [k] => .ok (decide (k ∈ z.cps.toList))
  | _ => .no
theorem sg_of {x : Str} {k : Nat} (h : x.cps.toList = [k]) : x = ⟨#[k]⟩ := by
  obtain ⟨⟨l⟩⟩ := x
  simp only at h
  subst h
  rfl
theorem fe_inSg {fa fb : γ → Xc Str} (ha : FE X c G a fa) (hb : FE X c G b fb) (hm : behindInMarks .In b = false := by rfl) : FE X c G (.Compare a [.In] [b] pos) (fun g => (fa g).bind fun i => (fb g).bind fun j => inSg i j) :=
  two (fun h1 h2 => pe_cmpR op_in_sign h1 h2 hm) ha hb fun {F H x y i j Q E} s r1 r2 p => by
    unfold inSg at p
    split at p
    · rename_i k hk
      exact ⟨k, j, by rw [r1.1, sg_of hk], r2.1, p.ret s rfl⟩
    · exact p.elim
theorem fe_ninSg {fa fb : γ → Xc Str} (ha : FE X c G a fa) (hb : FE X c G b fb) (hm : behindInMarks .NotIn b = false := by rfl) : FE X c G (.Compare a [.NotIn] [b] pos) (fun g => (fa g).bind fun i => (fb g).bind fun j => (inSg i j).bind fun t => Xc.ok (!t)) :=
  two (fun h1 h2 => pe_cmpR op_notIn_sign h1 h2 hm) ha hb fun {F H x y i j Q E} s r1 r2 p => by
    unfold inSg at p
    split at p
    · rename_i k hk
      exact ⟨k, j, by rw [r1.1, sg_of hk], r2.1, Po.ret (by exact p) s rfl⟩
    · exact p.elim
theorem ft_inSg {fa fb : γ → Xc Str} (ha : FE X c G a fa) (hb : FE X c G b fb) (hm : behindInMarks .In b = false := by rfl) : FT X c G (.Compare a [.In] [b] pos) (fun g => (fa g).bind fun i => (fb g).bind fun j => inSg i j) :=
  twoT (fun h1 h2 => pt_cmpR op_in_sign h1 h2 hm) ha hb fun {F H x y i j Q E} s r1 r2 p => by
    unfold inSg at p
    split at p
    · rename_i k hk
      exact ⟨k, j, by rw [r1.1, sg_of hk], r2.1, _, rfl, p.ret s⟩
    · exact p.elim
theorem ft_ninSg {fa fb : γ → Xc Str} (ha : FE X c G a fa) (hb : FE X c G b fb) (hm : behindInMarks .NotIn b = false := by rfl) : FT X c G (.Compare a [.NotIn] [b] pos) (fun g => (fa g).bind fun i => (fb g).bind fun j => (inSg i j).bind fun t => Xc.ok (!t)) :=
  twoT (fun h1 h2 => pt_cmpR op_notIn_sign h1 h2 hm) ha hb fun {F H x y i j Q E} s r1 r2 p => by
    unfold inSg at p
    split at p
    · rename_i k hk
      exact ⟨k, j, by rw [r1.1, sg_of hk], r2.1, _, rfl, PoB.ret (by exact p) s⟩
    · exact p.elim
/-- a method of a text with one argument -/
theorem strM1 {apos : Pos} {name : Str} {id : String} {r : V → List V → Hp → VK → Prop} {op : Str → α → Xc ρ} {fa : γ → Xc Str} {fb : γ → Xc α} (h : ∀ {to te : TE}, PE X a to → PE X b te → PE X (.Call (.Attribute a name apos) [b] [] pos) (tM1 r to te))
    (ha : FE X c G a fa) (hb : FE X c G b fb) (hop : ∀ {F H x y i j Q E}, Same F H → i.length ≤ sizeLine → x = .str i → Rp.is X.K F y j → Po X.K F H Q E (op i j) → r x [y] H Q) :
    FE X c G (.Call (.Attribute a name apos) [b] [] pos) (fun g => (fa g).bind fun i => (fb g).bind fun j => op i j) :=
  PE.imp (h ha hb) fun σ H Q ⟨F, g, w, q, p⟩ => by
    refine ⟨F, g, w, q, ?_⟩
    cases e1 : fa g with
    | ok i =>
      intro v F1 H1 w1 r1
      simp only [e1] at p
      have p : Po X.K F H Q (WE c.W σ) ((fb g).bind fun j => op i j) := p
      refine ⟨⟨i, r1.1⟩, F1, g, w.trans w1, G.mono q w1, ?_⟩
      cases e2 : fb g with
      | ok j =>
        intro u F2 H2 w2 r2
        simp only [e2] at p
        exact hop w2.s r1.2 r1.1 r2 (Po.on (show Po X.K F H Q (WE c.W σ) (op i j) from p) (w1.trans w2))
      | er c' fs => simp only [e2] at p; exact ErP.on (show ErP X.K F H (WE c.W σ) c' fs from p) w1
      | no => simp only [e2] at p; exact p
    | er c' fs => simp only [e1] at p; exact p
    | no => simp only [e1] at p; exact p
theorem fe_startswith {apos : Pos} {fa fb : γ → Xc Str} (ha : FE X c G a fa) (hb : FE X c G b fb) (hs : starEach [b] X.env = [(false, eval b X.env)] := by rfl) (hbase : attributeBase a "startswith" X.env (eval a X.env) = eval a X.env := by rfl)
    (hline : (apos.endLine == pos.line) = true := by rfl) : FE X c G (.Call (.Attribute a "startswith" apos) [b] [] pos) (fun g => (fa g).bind fun i => (fb g).bind fun j => Xc.ok (Txt.startswith i j)) :=
  strM1 (id := "str.startswith") (fun h1 h2 => pe_m1 F.slot_str_startswith F.type_str_startswith mt_startswith h1 h2 hs hbase hline) ha hb fun {F H x y i j Q E} s hi hx hy p => by exact ⟨i, j, hx, by rw [hy.1], p.ret s rfl⟩
theorem fe_find {apos : Pos} {fa fb : γ → Xc Str} (ha : FE X c G a fa) (hb : FE X c G b fb) (hs : starEach [b] X.env = [(false, eval b X.env)] := by rfl) (hbase : attributeBase a "find" X.env (eval a X.env) = eval a X.env := by rfl)
    (hline : (apos.endLine == pos.line) = true := by rfl) : FE X c G (.Call (.Attribute a "find" apos) [b] [] pos) (fun g => (fa g).bind fun i => (fb g).bind fun j => Xc.ok (Txt.find i j)) :=
  strM1 (id := "str.find") (fun h1 h2 => pe_m1 F.slot_str_find F.type_str_find mt_find h1 h2 hs hbase hline) ha hb fun {F H x y i j Q E} s hi hx hy p => by exact ⟨i, j, hx, by rw [hy.1], p.ret s rfl⟩
/-- text.partition(sep): three texts -/
@[irreducible] def partX (x y : Str) : Xc (T3 Str Str Str) := if (y.length == 0) = false ∧ (Txt.partition x y).1.length ≤ sizeLine ∧ (Txt.partition x y).2.1.length ≤ sizeLine ∧ (Txt.partition x y).2.2.length ≤ sizeLine then .ok (show T3 Str Str Str from Txt.partition x y) else .no
theorem fe_partition {apos : Pos} {fa fb : γ → Xc Str} (ha : FE X c G a fa) (hb : FE X c G b fb) (hs : starEach [b] X.env = [(false, eval b X.env)] := by rfl) (hbase : attributeBase a "partition" X.env (eval a X.env) = eval a X.env := by rfl)
    (hline : (apos.endLine == pos.line) = true := by rfl) : FE X c G (.Call (.Attribute a "partition" apos) [b] [] pos) (fun g => (fa g).bind fun i => (fb g).bind fun j => partX i j) :=
  strM1 (id := "str.partition") (fun h1 h2 => pe_partition h1 h2 hs hbase hline) ha hb fun {F H x y i j Q E} s hi hx hy p => by
    unfold partX at p
    by_cases h : (j.length == 0) = false ∧ (Txt.partition i j).1.length ≤ sizeLine ∧ (Txt.partition i j).2.1.length ≤ sizeLine ∧ (Txt.partition i j).2.2.length ≤ sizeLine
    · rw [if_pos h] at p
      exact ⟨i, j, hx, by rw [hy.1], h.1, hi, fun k hk => p (.ref k) _ _ (Wd.new s hk) ⟨k, _, _, _, rfl, SqT.of upd_same, ⟨rfl, h.2.1⟩, ⟨rfl, h.2.2.1⟩, ⟨rfl, h.2.2.2⟩⟩⟩
    · rw [if_neg h] at p; exact p.elim
end

/-! ### isinstance, by a built-in class -/
class HasTy (α : Type) [Rp α] where
  ty : α → String
  is : ∀ {K F H v} {a : α}, Same F H → Rp.is K F v a → TyX K H v (.type (ty a))
theorem tyx_seqL {K : PySem.W.Frag} {H : Hp} {q : Addr} {xs : List V} (h : SqL K H q xs) : TyX K H (.ref q) (.type "list") := by
  rcases h with (h | ⟨o, h⟩) | ⟨o, its, n, h, c, _⟩
  · exact .base (.lst h)
  · exact .base (.frz h)
  · exact .kList h c
theorem tyx_seqT {K : PySem.W.Frag} {H : Hp} {q : Addr} {xs : List V} (h : SqT K H q xs) : TyX K H (.ref q) (.type "tuple") := by
  rcases h with (h | ⟨o, h⟩) | ⟨o, its, n, h, c, _⟩
  · exact .base (.tup h)
  · exact .fTuple h
  · exact .kTuple h c
instance : HasTy Int := ⟨fun _ => "int", fun s h => by have h : _ = V.int _ := h; subst h; exact .base (.int _)⟩
instance : HasTy Bool := ⟨fun _ => "bool", fun s h => by have h : _ = V.bl _ := h; subst h; exact .base (.bl _)⟩
instance : HasTy Str := ⟨fun _ => "str", fun s h => by have h : _ = V.str _ := h.1; subst h; exact .base (.str _)⟩
instance {α : Type} [Rp α] : HasTy (List α) := ⟨fun _ => "list", fun s h => by obtain ⟨q, xs, e, hq, z, r⟩ := h; subst e; exact tyx_seqL (Same.seq s hq)⟩
instance {α : Type} [Rp α] : HasTy (Tu α) := ⟨fun _ => "tuple", fun s h => by obtain ⟨q, xs, e, hq, z, r⟩ := h; subst e; exact tyx_seqT (Same.seqT s hq)⟩
instance {α β : Type} [Rp α] [Rp β] : HasTy (α × β) := ⟨fun _ => "tuple", fun s h => by obtain ⟨q, x, y, e, hq, _⟩ := h; subst e; exact tyx_seqT (Same.seqT s hq)⟩
instance {α β γ : Type} [Rp α] [Rp β] [Rp γ] : HasTy (T3 α β γ) := ⟨fun _ => "tuple", fun s h => by obtain ⟨q, x, y, z, e, hq, _⟩ := h; subst e; exact tyx_seqT (Same.seqT s hq)⟩
def tyD : PyData → String
  | .none => "NoneType"
  | .bool _ => "bool"
  | .int _ => "int"
  | .str _ => "str"
  | .list _ => "list"
  | .tuple _ => "tuple"
  | _ => "?"
instance : HasTy PyData := ⟨tyD, fun {K F H v a} s h => by
  obtain ⟨h, _⟩ := h
  cases h with
  | non => exact .base .non
  | bl b => exact .base (.bl b)
  | int i => exact .base (.int i)
  | str x => exact .base (.str x)
  | lst h _ => exact tyx_seqL (Same.seq s h)
  | tup h _ => exact tyx_seqT (Same.seqT s h)⟩
@[irreducible] def isiX (t T : String) : Xc Bool := match kitB t T with
  | some b => .ok b
  | none => .no
theorem fe_isi {X : Cx} {c : C0} {γ α : Type} {G : EnvT γ} [Rp α] {a : Expr} {pos p p2 : Pos} [HasTy α] {fa : γ → Xc α} {T : Str} {U : String} (ha : FE X c G a fa) (hm : X.mg "isinstance" = none) (hmT : X.mg T = none) (hvT : bootBuiltins T = some (.type U) := by decide +kernel)
    (hg : Gl X "isinstance" := by rfl) (hgT : Gl X T := by rfl) (hn : T ≠ "__name__" := by decide) (hd : (T == ("__debug__" : Str)) = false := by decide)
    (hs : starEach [a, .Name T p2] X.env = (false, eval a X.env) :: starEach [.Name T p2] X.env := by rfl) (hs2 : starEach [.Name T p2] X.env = (false, eval (.Name T p2) X.env) :: starEach [] X.env := by rfl)
    (hpl : (backTo pos (starEach [.Name T p2] X.env)).any (·.1) = false := by rfl) : FE X c G (.Call (.Name "isinstance" p) [a, .Name T p2] [] pos) (fun g => (fa g).bind fun i => isiX (HasTy.ty i) U) :=
  PE.imp (pe_callB call_isi hg hm PyProof.Rows.boot_isinstance (pa_cons ha (pa_cons (pe_bltn (v := .ty U) hgT hmT hvT rfl hn hd) pa_nil hs2) hs) (he := hs) (hpl := hpl)) fun σ H Q ⟨F, g, w, q, h⟩ => by
    refine ⟨F, g, w, q, ?_⟩
    cases e1 : fa g with
    | ok i =>
      intro v F1 H1 w1 r1
      simp only [e1] at h
      have h : Po X.K F H Q (WE c.W σ) (isiX (HasTy.ty i) U) := h
      unfold isiX at h
      cases e2 : kitB (HasTy.ty i) U with
      | none => rw [e2] at h; exact h.elim
      | some b =>
        rw [e2] at h
        exact ⟨v, .ty U, .type (HasTy.ty i), .type U, b, rfl, .ty U, HasTy.is w1.s r1, kit_ty e2, (Po.on h w1).ret w1.s rfl⟩
    | er c' fs => simp only [e1] at h; exact h
    | no => simp only [e1] at h; exact h
end FL

/-! FL5: statements: stores, ifs, returns, loops. -/
namespace FL
open PySem L2
/-- behind a statement: the frozen heap has grown, the world is the entry's -/
structure Ws (c : C0) (F F' H' : Hp) : Prop where
  f : Same F F'
  w : Wd c.F0 c.H0 F' H'
theorem Ws.trans {c : C0} {F F1 H1 F2 H2 : Hp} (a : Ws c F F1 H1) (b : Ws c F1 F2 H2) : Ws c F F2 H2 := ⟨a.f.trans b.f, b.w⟩
theorem Ws.of {c : C0} {F H F1 H1 : Hp} (w : Wd c.F0 c.H0 F H) (a : Wd F H F1 H1) : Ws c F F1 H1 := ⟨a.f, w.trans a⟩
theorem Ws.refl {c : C0} {F H : Hp} (w : Wd c.F0 c.H0 F H) : Ws c F F H := ⟨Same.refl _, w⟩
/-- the slots that a statement may store into -/
structure Ag (M : Nat → Bool) (σ σ' : St) : Prop where
  at_ : ∀ i : Nat, M i = false → σ'[i]? = σ[i]?
  len : σ'.length = σ.length
theorem Ag.refl {M : Nat → Bool} {σ : St} : Ag M σ σ := ⟨fun _ _ => rfl, rfl⟩
theorem Ag.trans {M : Nat → Bool} {σ σ1 σ2 : St} (a : Ag M σ σ1) (b : Ag M σ1 σ2) : Ag M σ σ2 := ⟨fun i h => (b.at_ i h).trans (a.at_ i h), b.len.trans a.len⟩
theorem Ag.set {M : Nat → Bool} {σ : St} {i : Nat} {v : Option V} (h : M i = true) : Ag M σ (σ.set i v) := ⟨fun j hj => by
  by_cases e : i = j
  · subst e; rw [h] at hj; cases hj
  · rw [List.getElem?_set_ne e], List.length_set⟩
theorem Ag.imp {M M' : Nat → Bool} {σ σ' : St} (a : Ag M σ σ') (h : ∀ i, M i = true → M' i = true) : Ag M' σ σ' := ⟨fun i hi => a.at_ i (by
  cases e : M i with
  | false => rfl
  | true => rw [h i e] at hi; cases hi), a.len⟩
/-- .. with what statements lean on -/
structure C1 extends C0 where
  M : Nat → Bool
section
variable {γ γ' γ1 γ2 : Type}
/-- the outcome of a statement that only goes on -/
def PoN (K : PySem.W.Frag) (c : C1) (G' : EnvT γ') (D : Ends) (F H : Hp) (σ : St) (m : Xc γ') : Prop := match m with
  | .ok g' => ∀ σ' F' H', Ws c.toC0 F F' H' → Ag c.M σ σ' → G'.rel K c.H0 F' H' σ' g' → D.nx σ' H'
  | .er cc fs => ∀ σ' F' H', Ws c.toC0 F F' H' → Ag c.M σ σ' → ErP K F' H' (WE c.W σ') cc fs
  | .no => False
def tN (K : PySem.W.Frag) (c : C1) (G : EnvT γ) (G' : EnvT γ') (m : γ → Xc γ') : TS := fun D σ H => ∃ F g, Wd c.F0 c.H0 F H ∧ G.rel K c.H0 F H σ g ∧ PoN K c G' D F H σ (m g)
/-- a statement (a block) that goes on: what the slots hold behind it -/
def FN (X : Cx) (c : C1) (G : EnvT γ) (st : Stmt) (G' : EnvT γ') (m : γ → Xc γ') : Prop := PS X st (tN X.K c G G' m)
def FNs (X : Cx) (c : C1) (G : EnvT γ) (sts : List Stmt) (G' : EnvT γ') (m : γ → Xc γ') : Prop := PSs X sts (tN X.K c G G' m)
theorem PS.imp {X : Cx} {st : Stmt} {t t' : TS} (h : PS X st t) (i : ∀ D σ H, t' D σ H → t D σ H) : PS X st t' := ⟨fun pins s σ H D I q => h.run pins s σ H D I (i D σ H q)⟩
theorem PSs.imp {X : Cx} {st : List Stmt} {t t' : TS} (h : PSs X st t) (i : ∀ D σ H, t' D σ H → t D σ H) : PSs X st t' := ⟨fun pins s σ H D I q => h.run pins s σ H D I (i D σ H q)⟩
theorem PoN.on {K : PySem.W.Frag} {c : C1} {G' : EnvT γ'} {D : Ends} {F H F1 H1 : Hp} {σ σ1 : St} {m : Xc γ'} (h : PoN K c G' D F H σ m) (s : Same F F1) (a : Ag c.M σ σ1) : PoN K c G' D F1 H1 σ1 m := by
  cases m with
  | ok g => exact fun σ' F' H' w b r => h σ' F' H' ⟨s.trans w.f, w.w⟩ (a.trans b) r
  | er cc fs => exact fun σ' F' H' w b => h σ' F' H' ⟨s.trans w.f, w.w⟩ (a.trans b)
  | no => exact h
/-- an exception of an expression within -/
theorem PoN.er {K : PySem.W.Frag} {c : C1} {G' : EnvT γ'} {D : Ends} {F H : Hp} {σ : St} {cc : Str} {fs : List (Str × V)} (h : PoN K c G' D F H σ (.er cc fs)) (w : Wd c.F0 c.H0 F H) : ErP K F H (WE c.W σ) cc fs :=
  h σ F H (Ws.refl w) Ag.refl
end
section
variable {X : Cx} {c : C1} {γ γ' γ1 γ2 α β ρ αs : Type} {G : EnvT γ} {G' : EnvT γ'} {G1 : EnvT γ1} {G2 : EnvT γ2} [Rp α] [Rp β] [Rp ρ] [Rps αs] {a b e : Expr} {st : Stmt} {sts : List Stmt} {pos p p2 : Pos}
theorem FN.cast {m m' : γ → Xc γ'} (h : FN X c G st G' m) (i : ∀ g, m' g = m g) : FN X c G st G' m' := by rw [show m' = m from funext i]; exact h
theorem FNs.cast {m m' : γ → Xc γ'} (h : FNs X c G sts G' m) (i : ∀ g, m' g = m g) : FNs X c G sts G' m' := by rw [show m' = m from funext i]; exact h
theorem fns_nil : FNs X c G [] G (fun g => Xc.ok g) := PSs.imp pss_nil fun D σ H ⟨F, g, w, q, h⟩ => h σ F H (Ws.refl w) Ag.refl q
theorem fns_one {m : γ → Xc γ'} (h : FN X c G st G' m) : FNs X c G [st] G' m := pss_one h
theorem fns_cons {m1 : γ → Xc γ1} {m2 : γ1 → Xc γ2} (h1 : FN X c G st G1 m1) (h2 : FNs X c G1 sts G2 m2) : FNs X c G (st :: sts) G2 (fun g => (m1 g).bind m2) :=
  PSs.imp (pss_cons h1 h2) fun D σ H ⟨F, g, w, q, h⟩ => by
    refine ⟨F, g, w, q, ?_⟩
    cases e1 : m1 g with
    | ok g1 =>
      intro σ1 F1 H1 w1 a1 q1
      simp only [e1] at h
      exact ⟨F1, g1, w1.w, q1, PoN.on (show PoN X.K c G2 D F H σ (m2 g1) from h) w1.f a1⟩
    | er c' fs => simp only [e1] at h; exact h
    | no => simp only [e1] at h; exact h
/-- x = e -/
theorem fn_set (i : Nat) {x : Str} {p' : Pos} {ψ : γ → α → γ'} [P : Put G i α G' ψ] {fa : γ → Xc α} (hM : c.M i = true) (ha : FE X c.toC0 G e fa) (hN : X.N.Nodup) (hi : X.N[i]? = some x := by rfl) (hx : Loc X.env.scope x := by first | exact Or.inl rfl | exact Or.inr rfl)
    (hs : swapsWith e (some (.Name x p')) pos.line X.env = pure false := by rfl) (hf : X.fn x = true ∨ X.env.scope.names.lookup x = some .local := by first | exact .inl rfl | exact .inr rfl) :
    FN X c G (.Assign [.Name x p'] e pos) G' (fun g => (fa g).bind fun v => Xc.ok (ψ g v)) :=
  PS.imp (ps_set hN hi hx ha hs hf) fun D σ H ⟨F, g, w, q, h⟩ => by
    refine ⟨F, g, w, q, ?_⟩
    cases e1 : fa g with
    | ok v =>
      intro u F1 H1 w1 r1
      simp only [e1] at h
      exact h (σ.set i (some u)) F1 H1 (Ws.of w w1) (Ag.set hM) (P.put (G.mono q w1) r1)
    | er c' fs => simp only [e1] at h; exact PoN.er h w
    | no => simp only [e1] at h; exact h
theorem fn_expr {fa : γ → Xc α} (ha : FE X c.toC0 G e fa) (hs : swapsWith e none pos.line X.env = pure false := by rfl) : FN X c G (.Expr e pos) G (fun g => (fa g).bind fun _ => Xc.ok g) :=
  PS.imp (ps_expr ha hs) fun D σ H ⟨F, g, w, q, h⟩ => by
    refine ⟨F, g, w, q, ?_⟩
    cases e1 : fa g with
    | ok v => intro u F1 H1 w1 r1; simp only [e1] at h; exact h σ F1 H1 (Ws.of w w1) Ag.refl (G.mono q w1)
    | er c' fs => simp only [e1] at h; exact PoN.er h w
    | no => simp only [e1] at h; exact h
theorem fn_pass : FN X c G (.Pass pos) G (fun g => Xc.ok g) := PS.imp ps_pass fun D σ H ⟨F, g, w, q, h⟩ => h σ F H (Ws.refl w) Ag.refl q
theorem fn_if {ft : γ → Xc Bool} {mA mB : γ → Xc γ'} {tA tB : List Stmt} (ht : FT X c.toC0 G e ft) (hA : FNs X c G tA G' mA) (hB : FNs X c G tB G' mB) : FN X c G (.If e tA tB pos) G' (fun g => (ft g).bind fun b => if b = true then mA g else mB g) :=
  PS.imp (ps_if ht hA hB) fun D σ H ⟨F, g, w, q, h⟩ => by
    refine ⟨F, g, w, q, ?_⟩
    cases e1 : ft g with
    | ok b =>
      intro F1 H1 w1
      simp only [e1] at h
      cases b with
      | true => exact iteT ⟨F1, g, w.trans w1, G.mono q w1, PoN.on h w1.f Ag.refl⟩
      | false => exact iteF ⟨F1, g, w.trans w1, G.mono q w1, PoN.on h w1.f Ag.refl⟩
    | er c' fs => simp only [e1] at h; exact PoN.er h w
    | no => simp only [e1] at h; exact h
end

/-! ### weakening of the slots -/
class Sub {γ γ' : Type} (G : EnvT γ) (G' : EnvT γ') (h : outParam (γ → γ')) : Prop where
  sub : ∀ {K H0 F H σ g}, G.rel K H0 F H σ g → G'.rel K H0 F H σ (h g)
  own : ∀ {K H0 F H σ g p}, G.rel K H0 F H σ g → p ∈ G'.own σ → p ∈ G.own σ
instance subNl : Sub nl nl (fun g => g) := ⟨fun h => h, fun _ h => h⟩
section
variable {α β γ γ' : Type} [Rp α] [Rp β] (G : EnvT γ) (G' : EnvT γ') (h : γ → γ') [S : Sub G G' h]
instance subVa : Sub (va α G) (va α G') (fun g => (g.1, h g.2)) := ⟨fun ⟨v, σ', e, r, q⟩ => ⟨v, σ', e, r, S.sub q⟩, fun ⟨v, σ', e, r, q⟩ m => by subst e; exact S.own q m⟩
instance subUn : Sub (un G) (un G') (fun g => h g) := ⟨fun ⟨v, σ', e, q⟩ => ⟨v, σ', e, S.sub q⟩, fun ⟨v, σ', e, q⟩ m => by subst e; exact S.own q m⟩
instance subOw : Sub (ow α G) (ow α G') (fun g => (g.1, h g.2)) := ⟨fun ⟨p, σ', xs, e, h0, f, hh, z, r, n, q⟩ => ⟨p, σ', xs, e, h0, f, hh, z, r, fun m => n (S.own q m), S.sub q⟩, fun ⟨p, σ', xs, e, h0, f, hh, z, r, n, q⟩ m => by
  subst e
  rcases List.mem_append.mp m with m | m
  · exact List.mem_append_left _ m
  · exact List.mem_append_right _ (S.own q m)⟩
instance subVaUn : Sub (va α G) (un G') (fun g => h g.2) := ⟨fun ⟨v, σ', e, r, q⟩ => ⟨_, σ', e, S.sub q⟩, fun ⟨v, σ', e, r, q⟩ m => by subst e; exact S.own q m⟩
instance subOwUn : Sub (ow α G) (un G') (fun g => h g.2) := ⟨fun ⟨p, σ', xs, e, h0, f, hh, z, r, n, q⟩ => ⟨_, σ', e, S.sub q⟩, fun ⟨p, σ', xs, e, h0, f, hh, z, r, n, q⟩ m => by subst e; exact List.mem_append_right _ (S.own q m)⟩
instance subOpt [NotNone α] : Sub (va α G) (va (Option α) G') (fun g => (some g.1, h g.2)) := ⟨fun ⟨v, σ', e, r, q⟩ => ⟨v, σ', e, ⟨NotNone.ne r, r⟩, S.sub q⟩, fun ⟨v, σ', e, r, q⟩ m => by subst e; exact S.own q m⟩
instance subNon : Sub (va Unit G) (va (Option α) G') (fun g => (none, h g.2)) := ⟨fun ⟨v, σ', e, r, q⟩ => ⟨v, σ', e, r, S.sub q⟩, fun ⟨v, σ', e, r, q⟩ m => by subst e; exact S.own q m⟩
end
section
variable {X : Cx} {c : C1} {γ γ' γ1 γ2 : Type} {G : EnvT γ} {G' : EnvT γ'} {G1 : EnvT γ1} {st : Stmt} {sts : List Stmt}
theorem PoN.sub {K : PySem.W.Frag} {h : γ1 → γ'} [S : Sub G1 G' h] {D : Ends} {F H : Hp} {σ : St} {m : Xc γ1} (p : PoN K c G' D F H σ (m.bind fun g => Xc.ok (h g))) : PoN K c G1 D F H σ m := by
  cases m with
  | ok g => exact fun σ' F' H' w a r => p σ' F' H' w a (S.sub r)
  | er cc fs => exact p
  | no => exact p
theorem fns_sub {m : γ → Xc γ1} {h : γ1 → γ'} (H : FNs X c G sts G1 m) [S : Sub G1 G' h] : FNs X c G sts G' (fun g => (m g).bind fun r => Xc.ok (h r)) :=
  PSs.imp H fun D σ H ⟨F, g, w, q, p⟩ => ⟨F, g, w, q, PoN.sub p⟩
theorem fn_pre {m : γ1 → Xc γ'} {h : γ → γ1} (H : FN X c G1 st G' m) [S : Sub G G1 h] : FN X c G st G' (fun g => m (h g)) :=
  PS.imp H fun D σ H ⟨F, g, w, q, p⟩ => ⟨F, h g, w, S.sub q, p⟩
theorem fns_pre {m : γ1 → Xc γ'} {h : γ → γ1} (H : FNs X c G1 sts G' m) [S : Sub G G1 h] : FNs X c G sts G' (fun g => m (h g)) :=
  PSs.imp H fun D σ H ⟨F, g, w, q, p⟩ => ⟨F, h g, w, S.sub q, p⟩
end

/-! ### statements that may return (or leave a loop's turn): with what follows -/
/-- what a return hands out -/
structure Rt (ρ : Type) where
  rr : PySem.W.Frag → Hp → Hp → Hp → V → ρ → Prop
def rtF (ρ : Type) [Rp ρ] : Rt ρ := ⟨fun K _ F _ v r => Rp.is K F v r⟩
def rtO (α : Type) [Rp α] : Rt (List α) := ⟨fun K H0 F H v l => ∃ p xs, v = .ref p ∧ H0 p = none ∧ F p = none ∧ H p = some (.lst xs) ∧ l.length ≤ sizeLine ∧ Al K F xs l⟩
/-- outcomes -/
structure Out (τ ρ β : Type) where
  sem : τ → (ρ → Prop) → (β → Prop) → (β → Prop) → Prop
  mono : ∀ {t P P' B B' C C'}, (∀ r, P r → P' r) → (∀ b, B b → B' b) → (∀ b, C b → C' b) → sem t P B C → sem t P' B' C'
  ret : ρ → τ
  hret : ∀ {r P B C}, sem (ret r) P B C → P r
/-- a def's: it returns -/
def outD (ρ : Type) : Out ρ ρ Unit := ⟨fun r P _ _ => P r, fun h _ _ p => h _ p, id, fun h => h⟩
/-- a loop's turn -/
inductive Lp (β ρ : Type) where
  | ct (b : β)
  | bk (b : β)
  | rt (r : ρ)
def Lp.sem {β ρ : Type} (t : Lp β ρ) (P : ρ → Prop) (B C : β → Prop) : Prop := match t with
  | .ct b => C b
  | .bk b => B b
  | .rt r => P r
def outL (β ρ : Type) : Out (Lp β ρ) ρ β := ⟨Lp.sem, fun {t _ _ _ _ _ _} h1 h2 h3 p => by cases t with
  | ct b => exact h3 _ p
  | bk b => exact h2 _ p
  | rt r => exact h1 _ p, .rt, fun h => h⟩
structure C2 (τ ρ β : Type) extends C1 where
  O : Out τ ρ β
  R : Rt ρ
  GB : EnvT β
section
variable {τ ρ β γ γ' γ1 γ2 : Type}
def Done (K : PySem.W.Frag) (c : C2 τ ρ β) (D : Ends) (F : Hp) (σ : St) (m : Xc τ) : Prop := match m with
  | .ok t => c.O.sem t (fun r => ∀ v F' H', Ws c.toC0 F F' H' → c.R.rr K c.H0 F' H' v r → D.rt v H') (fun b => ∀ σ' F' H', Ws c.toC0 F F' H' → Ag c.M σ σ' → c.GB.rel K c.H0 F' H' σ' b → D.bk σ' H') (fun b => ∀ σ' F' H', Ws c.toC0 F F' H' → Ag c.M σ σ' → c.GB.rel K c.H0 F' H' σ' b → D.ct σ' H')
  | .er cc fs => ∀ σ' F' H', Ws c.toC0 F F' H' → Ag c.M σ σ' → ErP K F' H' (WE c.W σ') cc fs
  | .no => False
theorem Done.on {K : PySem.W.Frag} {c : C2 τ ρ β} {D : Ends} {F F1 : Hp} {σ σ1 : St} {m : Xc τ} (h : Done K c D F σ m) (s : Same F F1) (a : Ag c.M σ σ1) : Done K c D F1 σ1 m := by
  cases m with
  | ok t => exact c.O.mono (fun r p v F' H' w => p v F' H' ⟨s.trans w.f, w.w⟩) (fun b p σ' F' H' w b => p σ' F' H' ⟨s.trans w.f, w.w⟩ (a.trans b)) (fun b p σ' F' H' w b => p σ' F' H' ⟨s.trans w.f, w.w⟩ (a.trans b)) h
  | er cc fs => exact fun σ' F' H' w b => h σ' F' H' ⟨s.trans w.f, w.w⟩ (a.trans b)
  | no => exact h
theorem Done.er {K : PySem.W.Frag} {c : C2 τ ρ β} {D : Ends} {F H : Hp} {σ : St} {cc : Str} {fs : List (Str × V)} (h : Done K c D F σ (.er cc fs)) (w : Wd c.F0 c.H0 F H) : ErP K F H (WE c.W σ) cc fs := h σ F H (Ws.refl w) Ag.refl
def tS (K : PySem.W.Frag) (c : C2 τ ρ β) (G : EnvT γ) (G' : EnvT γ') (f : γ → (γ' → Xc τ) → Xc τ) : TS := fun D σ H => ∃ F g k, Wd c.F0 c.H0 F H ∧ G.rel K c.H0 F H σ g ∧ Done K c D F σ (f g k) ∧
  ∀ g' σ' F' H', Ws c.toC0 F F' H' → Ag c.M σ σ' → G'.rel K c.H0 F' H' σ' g' → Done K c D F' σ' (k g') → D.nx σ' H'
def FS (X : Cx) (c : C2 τ ρ β) (G : EnvT γ) (st : Stmt) (G' : EnvT γ') (f : γ → (γ' → Xc τ) → Xc τ) : Prop := PS X st (tS X.K c G G' f)
def FSs (X : Cx) (c : C2 τ ρ β) (G : EnvT γ) (sts : List Stmt) (G' : EnvT γ') (f : γ → (γ' → Xc τ) → Xc τ) : Prop := PSs X sts (tS X.K c G G' f)
end
section
variable {X : Cx} {τ ρ β γ γ' γ1 γ2 α αs : Type} {c : C2 τ ρ β} {G : EnvT γ} {G' : EnvT γ'} {G1 : EnvT γ1} {G2 : EnvT γ2} [Rp α] [Rps αs] {a b e : Expr} {st : Stmt} {sts : List Stmt} {pos p p2 : Pos}
theorem FS.cast {f f' : γ → (γ' → Xc τ) → Xc τ} (h : FS X c G st G' f) (i : ∀ g k, f' g k = f g k) : FS X c G st G' f' := by rw [show f' = f from funext fun g => funext (i g)]; exact h
theorem FSs.cast {f f' : γ → (γ' → Xc τ) → Xc τ} (h : FSs X c G sts G' f) (i : ∀ g k, f' g k = f g k) : FSs X c G sts G' f' := by rw [show f' = f from funext fun g => funext (i g)]; exact h
theorem fs_n {m : γ → Xc γ'} (h : FN X c.toC1 G st G' m) : FS X c G st G' (fun g k => (m g).bind k) :=
  PS.imp h fun D σ H ⟨F, g, k, w, q, d, n⟩ => by
    refine ⟨F, g, w, q, ?_⟩
    cases e1 : m g with
    | ok g' => intro σ' F' H' w1 a1 q1; simp only [e1] at d; exact n g' σ' F' H' w1 a1 q1 (Done.on (show Done X.K c D F σ (k g') from d) w1.f a1)
    | er c' fs => simp only [e1] at d; exact d
    | no => simp only [e1] at d; exact d
theorem fss_n {m : γ → Xc γ'} (h : FNs X c.toC1 G sts G' m) : FSs X c G sts G' (fun g k => (m g).bind k) :=
  PSs.imp h fun D σ H ⟨F, g, k, w, q, d, n⟩ => by
    refine ⟨F, g, w, q, ?_⟩
    cases e1 : m g with
    | ok g' => intro σ' F' H' w1 a1 q1; simp only [e1] at d; exact n g' σ' F' H' w1 a1 q1 (Done.on (show Done X.K c D F σ (k g') from d) w1.f a1)
    | er c' fs => simp only [e1] at d; exact d
    | no => simp only [e1] at d; exact d
theorem fss_nil : FSs X c G [] G (fun g k => k g) := PSs.imp pss_nil fun D σ H ⟨F, g, k, w, q, d, n⟩ => n g σ F H (Ws.refl w) Ag.refl q d
theorem fss_one {f : γ → (γ' → Xc τ) → Xc τ} (h : FS X c G st G' f) : FSs X c G [st] G' f := pss_one h
theorem fss_cons {f1 : γ → (γ1 → Xc τ) → Xc τ} {f2 : γ1 → (γ2 → Xc τ) → Xc τ} (h1 : FS X c G st G1 f1) (h2 : FSs X c G1 sts G2 f2) : FSs X c G (st :: sts) G2 (fun g k => f1 g fun g1 => f2 g1 k) :=
  PSs.imp (pss_cons h1 h2) fun D σ H ⟨F, g, k, w, q, d, n⟩ =>
    ⟨F, g, fun g1 => f2 g1 k, w, q, d, fun g1 σ1 F1 H1 w1 a1 q1 d1 => ⟨F1, g1, k, w1.w, q1, d1, fun g' σ' F' H' w2 a2 q2 d2 => n g' σ' F' H' (w1.trans w2) (a1.trans a2) q2 d2⟩⟩
theorem fs_set (i : Nat) {x : Str} {p' : Pos} {ψ : γ → α → γ'} [P : Put G i α G' ψ] {fa : γ → Xc α} (hM : c.M i = true) (ha : FE X c.toC0 G e fa) (hN : X.N.Nodup) (hi : X.N[i]? = some x := by rfl) (hx : Loc X.env.scope x := by first | exact Or.inl rfl | exact Or.inr rfl)
    (hs : swapsWith e (some (.Name x p')) pos.line X.env = pure false := by rfl) (hf : X.fn x = true ∨ X.env.scope.names.lookup x = some .local := by first | exact .inl rfl | exact .inr rfl) :
    FS X c G (.Assign [.Name x p'] e pos) G' (fun g k => (fa g).bind fun v => k (ψ g v)) :=
  FS.cast (fs_n (fn_set i hM ha hN hi hx hs hf)) fun g k => by
    cases fa g <;> rfl
theorem fs_expr {fa : γ → Xc α} (ha : FE X c.toC0 G e fa) (hs : swapsWith e none pos.line X.env = pure false := by rfl) : FS X c G (.Expr e pos) G (fun g k => (fa g).bind fun _ => k g) :=
  FS.cast (fs_n (fn_expr ha hs)) fun g k => by cases fa g <;> rfl
theorem fs_if {ft : γ → Xc Bool} {fA fB : γ → (γ' → Xc τ) → Xc τ} {tA tB : List Stmt} (ht : FT X c.toC0 G e ft) (hA : FSs X c G tA G' fA) (hB : FSs X c G tB G' fB) :
    FS X c G (.If e tA tB pos) G' (fun g k => (ft g).bind fun b => if b = true then fA g k else fB g k) :=
  PS.imp (ps_if ht hA hB) fun D σ H ⟨F, g, k, w, q, d, n⟩ => by
    refine ⟨F, g, w, q, ?_⟩
    cases e1 : ft g with
    | ok b =>
      intro F1 H1 w1
      simp only [e1] at d
      have n' : ∀ g' σ' F' H', Ws c.toC0 F1 F' H' → Ag c.M σ σ' → G'.rel X.K c.H0 F' H' σ' g' → Done X.K c D F' σ' (k g') → D.nx σ' H' := fun g' σ' F' H' w2 => n g' σ' F' H' ⟨w1.f.trans w2.f, w2.w⟩
      cases b with
      | true => exact iteT ⟨F1, g, k, w.trans w1, G.mono q w1, Done.on d w1.f Ag.refl, n'⟩
      | false => exact iteF ⟨F1, g, k, w.trans w1, G.mono q w1, Done.on d w1.f Ag.refl, n'⟩
    | er c' fs => simp only [e1] at d; exact Done.er d w
    | no => simp only [e1] at d; exact d
theorem fs_retG [Rp ρ] {fa : γ → Xc ρ} {rt : ρ → τ} (hO : c.O.ret = rt) (hR : c.R = rtF ρ) (ha : FE X c.toC0 G e fa) : FS X c G (.Return (some e) pos) G' (fun g _ => (fa g).bind fun v => Xc.ok (rt v)) :=
  PS.imp (ps_ret ha) fun D σ H ⟨F, g, k, w, q, d, n⟩ => by
    refine ⟨F, g, w, q, ?_⟩
    subst hO
    cases e1 : fa g with
    | ok v => intro u F1 H1 w1 r1; simp only [e1] at d; exact c.O.hret d u F1 H1 (Ws.of w w1) (by rw [hR]; exact r1)
    | er c' fs => simp only [e1] at d; exact Done.er d w
    | no => simp only [e1] at d; exact d
theorem fs_retGO {fa : γ → Xc (List α)} {c : C2 τ (List α) β} {rt : List α → τ} (hO : c.O.ret = rt) (hR : c.R = rtO α) (ha : FO X c.toC0 G e fa) : FS X c G (.Return (some e) pos) G' (fun g _ => (fa g).bind fun v => Xc.ok (rt v)) :=
  PS.imp (ps_ret ha) fun D σ H ⟨F, g, k, w, q, d, n⟩ => by
    refine ⟨F, g, w, q, ?_⟩
    subst hO
    cases e1 : fa g with
    | ok v => intro p xs F1 H1 w1 n1 f1 h1 z r1; simp only [e1] at d; exact c.O.hret d _ F1 H1 (Ws.of w w1) (by rw [hR]; exact ⟨p, xs, rfl, w.h.free n1, f1, h1, z, r1⟩)
    | er c' fs => simp only [e1] at d; exact Done.er d w
    | no => simp only [e1] at d; exact d
/-- a def's return; a return out of a loop's turn -/
theorem fs_ret {c : C2 ρ ρ Unit} [Rp ρ] {fa : γ → Xc ρ} (ha : FE X c.toC0 G e fa) (hO : c.O.ret = id := by rfl) (hR : c.R = rtF ρ := by rfl) : FS X c G (.Return (some e) pos) G' (fun g _ => fa g) :=
  FS.cast (fs_retG hO hR ha) fun g k => by cases fa g <;> rfl
theorem fs_retO {c : C2 (List α) (List α) Unit} {fa : γ → Xc (List α)} (ha : FO X c.toC0 G e fa) (hO : c.O.ret = id := by rfl) (hR : c.R = rtO α := by rfl) : FS X c G (.Return (some e) pos) G' (fun g _ => fa g) :=
  FS.cast (fs_retGO hO hR ha) fun g k => by cases fa g <;> rfl
theorem fs_retL {c : C2 (Lp β ρ) ρ β} [Rp ρ] {fa : γ → Xc ρ} (ha : FE X c.toC0 G e fa) (hO : c.O.ret = Lp.rt := by rfl) (hR : c.R = rtF ρ := by rfl) : FS X c G (.Return (some e) pos) G' (fun g _ => (fa g).bind fun v => Xc.ok (Lp.rt v)) := fs_retG hO hR ha
theorem fs_retLO {c : C2 (Lp β (List α)) (List α) β} {fa : γ → Xc (List α)} (ha : FO X c.toC0 G e fa) (hO : c.O.ret = Lp.rt := by rfl) (hR : c.R = rtO α := by rfl) : FS X c G (.Return (some e) pos) G' (fun g _ => (fa g).bind fun v => Xc.ok (Lp.rt v)) := fs_retGO hO hR ha
/-- behind a return nothing matters -/
theorem fss_sub {f : γ → (γ1 → Xc τ) → Xc τ} {h : γ1 → γ'} (H : FSs X c G sts G1 f) [S : Sub G1 G' h] : FSs X c G sts G' (fun g k => f g fun r => k (h r)) :=
  PSs.imp H fun D σ H ⟨F, g, k, w, q, d, n⟩ => ⟨F, g, fun r => k (h r), w, q, d, fun g' σ' F' H' w1 a1 q1 d1 => n (h g') σ' F' H' w1 a1 (S.sub q1) d1⟩
theorem fs_pre {f : γ1 → (γ' → Xc τ) → Xc τ} {h : γ → γ1} (H : FS X c G1 st G' f) [S : Sub G G1 h] : FS X c G st G' (fun g k => f (h g) k) :=
  PS.imp H fun D σ H ⟨F, g, k, w, q, d, n⟩ => ⟨F, h g, k, w, S.sub q, d, n⟩
theorem fss_pre {f : γ1 → (γ' → Xc τ) → Xc τ} {h : γ → γ1} (H : FSs X c G1 sts G' f) [S : Sub G G1 h] : FSs X c G sts G' (fun g k => f (h g) k) :=
  PSs.imp H fun D σ H ⟨F, g, k, w, q, d, n⟩ => ⟨F, h g, k, w, S.sub q, d, n⟩
end
end FL

/-! FL6: defs, calls, exceptions raised, loops. -/
namespace FL
open PySem L2
/-! ### a def's promise -/
/-- from a frozen heap F: the arguments stand for as; what comes back stands for m as -/
def PoR {ρ : Type} (R : Rt ρ) (K : PySem.W.Frag) (F H : Hp) (Q : VK) (E : XK) (m : Xc ρ) : Prop := match m with
  | .ok r => ∀ v F' H', Wd F H F' H' → R.rr K H F' H' v r → Q v H'
  | .er c fs => ErP K F H E c fs
  | .no => False
def spF {αs ρ : Type} [Rps αs] (K : PySem.W.Frag) (R : Rt ρ) (m : αs → Xc ρ) : Sp := fun vs H Q E => ∃ F as, Same F H ∧ Rps.isL K F vs as ∧ PoR R K F H Q E (m as)
/-- the number of arguments -/
class RpsN (αs : Type) [Rps αs] (n : outParam Nat) : Prop where
  len : ∀ {K F vs} {as : αs}, Rps.isL K F vs as → vs.length = n
instance : RpsN Unit 0 := ⟨fun h => by subst h; rfl⟩
instance {α αs : Type} [Rp α] [Rps αs] {n : Nat} [N : RpsN αs n] : RpsN (α × αs) (n + 1) := ⟨fun ⟨v, r, e, h, t⟩ => by subst e; simp [N.len t]⟩
/-- the slots at a def's entry: its arguments, then what has no value yet -/
class StartT (αs : Type) [Rps αs] {γ : outParam Type} (G : outParam (EnvT γ)) (h : outParam (αs → γ)) : Prop where
  st : ∀ {K H0 F H vs as k}, Rps.isL K F vs as → G.rel K H0 F H (vs.map some ++ List.replicate k none) (h as)
instance : StartT Unit nl (fun _ => ()) := ⟨fun _ => trivial⟩
instance {α αs γ : Type} [Rp α] [Rps αs] (G : EnvT γ) (h : αs → γ) [S : StartT αs G h] : StartT (α × αs) (va α G) (fun a => (a.1, h a.2)) := ⟨fun ⟨v, r, e, q, t⟩ => by subst e; exact ⟨v, _, rfl, q, S.st t⟩⟩
/-- n further slots -/
def uns : Nat → EnvT Unit
  | 0 => nl
  | n + 1 => un (uns n)
theorem uns_rel {K : PySem.W.Frag} {H0 F H : Hp} : ∀ (n : Nat) (σ : St), n ≤ σ.length → (uns n).rel K H0 F H σ ()
  | 0, _, _ => trivial
  | n + 1, [], h => by simp at h
  | n + 1, x :: σ, h => ⟨x, σ, rfl, uns_rel n σ (by simpa using h)⟩
/-- the slots at a def's entry, given by the arguments' kinds and the rest -/
class EntryT (αs : Type) [Rps αs] (n : Nat) {γ : outParam Type} (G : outParam (EnvT γ)) (h : outParam (αs → γ)) : Prop where
  st : ∀ {K H0 F H vs as k}, Rps.isL K F vs as → n ≤ k → G.rel K H0 F H (vs.map some ++ List.replicate k none) (h as)
instance entry0 : EntryT Unit 0 nl (fun _ => ()) := ⟨fun _ _ => trivial⟩
instance entryU {n : Nat} {γ : Type} {G : EnvT γ} {h : Unit → γ} [S : EntryT Unit n G h] : EntryT Unit (n + 1) (un G) (fun a => h a) := ⟨fun {K H0 F H vs as k} q hk => by
  have q : vs = [] := q
  subst q
  cases k with
  | zero => simp at hk
  | succ k => exact ⟨none, List.replicate k none, rfl, S.st (as := as) (show ([] : List V) = [] from rfl) (by omega)⟩⟩
instance entryA {α αs γ : Type} [Rp α] [Rps αs] {n : Nat} {G : EnvT γ} {h : αs → γ} [S : EntryT αs n G h] : EntryT (α × αs) n (va α G) (fun a => (a.1, h a.2)) := ⟨fun ⟨v, r, e, q, t⟩ hk => by subst e; exact ⟨v, _, rfl, q, S.st t hk⟩⟩

section
variable {P : Program} {w : World} {K : PySem.W.Frag} {mg : Str → Option Value} {base : Heap} {αs ρ γ γ' : Type} [Rps αs] {G : EnvT γ} {G' : EnvT γ'} {h : αs → γ}
/-- the context of a def's body -/
def cD (ρ : Type) (R : Rt ρ) (F H : Hp) (E : XK) : C2 ρ ρ Unit := { F0 := F, H0 := H, W := fun cls d _ H => E cls d H, M := fun _ => true, O := outD ρ, R := R, GB := nl }
/-- THE RULE for a def: its body by a derivation for any context of such a kind -/
theorem fn_def {x qual : Str} {params : Arguments} {body : List Stmt} {scope : Scope} {dvs : List V} {kws : List (Str × V)} {f : Addr} {fd : FuncData} {N ps : List Str} {k n pn : Nat} {R : Rt ρ} {m : αs → Xc ρ} {fm : γ → (γ' → Xc ρ) → Xc ρ}
    (Fd : FunD K x qual params body scope dvs kws f fd) (S : FnScope N ps scope) [RN : RpsN αs pn] (hpn : ps.length = pn) [ET : EntryT αs n G h] (hn : N.length = pn + n)
    (hb : ∀ (cdv : Value) (A : Around) (outer : List Env) (s : Shared) (F H : Hp) (E : XK), Room k (A.deeper (PyProof.Rows.envOfC qual scope s.heap.objs.size f cdv)) → 
      Takes (cxOf (L2.CX P w) P w K mg base N qual scope f cdv A outer s H E) (cD ρ R F H E).W →
      FSs (cxOf (L2.CX P w) P w K mg base N qual scope f cdv A outer s H E) (cD ρ R F H E) G body G' fm)
    (hm : ∀ as, m as = fm (h as) fun _ => .no) : FnOk P w K mg base (L2.CX P w) (k + 1) f fd ps (spF K R m) := by
  refine Fd.ok S (fun vs H Q E ⟨F, as, _, r, _⟩ => by rw [hpn]; exact RN.len r) fun cdv A outer s H vs Q E hr ⟨F, as, sm, r, p⟩ => ?_
  refine ⟨_, hb cdv A outer s F H E hr (takes_of rfl rfl rfl rfl), F, h as, fun _ => .no, Wd.refl sm, ?_, ?_, fun g' σ' F' H' _ _ _ d => d.elim⟩
  · unfold L2.start
    have e : N.length - vs.length = n := by rw [RN.len r, hn]; omega
    rw [e]
    exact ET.st r (Nat.le_refl _)
  · rw [hm as] at p
    revert p
    cases fm (h as) (fun _ => .no) with
    | ok t => exact fun p v F' H' w1 rr => p v F' H' w1.w rr
    | er cc fs => exact fun p σ' F' H' w1 _ => ErP.on p w1.w
    | no => exact fun p => p
end

/-! ### calls -/
section
variable {X : Cx} {c : C0} {γ α ρ αs : Type} {G : EnvT γ} [Rp α] [Rp ρ] [Rps αs] {a b e : Expr} {pos p : Pos} {es : List Expr} {k : Nat} {f : Addr} {fd : FuncData} {ps : List Str} {x : Str}
theorem fe_call {m : αs → Xc ρ} {fs : γ → Xc αs} (F : FnOk X.prog X.w X.K X.mg X.base (L2.CX X.prog X.w) k f fd ps (spF X.K (rtF ρ) m)) (tk : Takes X c.W) (hr : Room k X.A) (hm : X.mg x = some (.ref f)) (hk : PySem.W.keepIn X.K (.ref f) = true) (hb : Binds X.K fd ps [])
    (ha : FA X c G (e :: es) fs) (hg : Gl X x := by rfl) (hdb : (x == ("__debug__" : Str)) = false := by decide) (he : starEach (e :: es) X.env = (false, eval e X.env) :: starEach es X.env := by rfl) (hpl : (backTo pos (starEach es X.env)).any (·.1) = false := by rfl) :
    FE X c G (.Call (.Name x p) (e :: es) [] pos) (fun g => (fs g).bind m) :=
  PE.imp (pe_callS (E := WE c.W) F hr hg hm hk hb (fun σ => passAt tk σ) ha hdb he hpl) fun σ H Q ⟨F, g, w, q, h⟩ => by
    refine ⟨F, g, w, q, ?_⟩
    cases e1 : fs g with
    | ok as =>
      intro vs F1 H1 w1 r1
      simp only [e1] at h
      have h : Po X.K F H Q (WE c.W σ) (m as) := h
      refine ⟨F1, as, w1.s, r1, ?_⟩
      revert h
      cases m as with
      | ok r => exact fun h v F2 H2 w2 rr => h v F2 H2 (w1.trans w2) rr
      | er cc fs => exact fun h => ErP.on h w1
      | no => exact fun h => h
    | er c' fs => simp only [e1] at h; exact h
    | no => simp only [e1] at h; exact h
theorem fo_call {m : αs → Xc (List ρ)} {fs : γ → Xc αs} (F : FnOk X.prog X.w X.K X.mg X.base (L2.CX X.prog X.w) k f fd ps (spF X.K (rtO ρ) m)) (tk : Takes X c.W) (hr : Room k X.A) (hm : X.mg x = some (.ref f)) (hk : PySem.W.keepIn X.K (.ref f) = true) (hb : Binds X.K fd ps [])
    (ha : FA X c G (e :: es) fs) (hg : Gl X x := by rfl) (hdb : (x == ("__debug__" : Str)) = false := by decide) (he : starEach (e :: es) X.env = (false, eval e X.env) :: starEach es X.env := by rfl) (hpl : (backTo pos (starEach es X.env)).any (·.1) = false := by rfl) :
    FO X c G (.Call (.Name x p) (e :: es) [] pos) (fun g => (fs g).bind m) :=
  PE.imp (pe_callS (E := WE c.W) F hr hg hm hk hb (fun σ => passAt tk σ) ha hdb he hpl) fun σ H Q ⟨F, g, w, q, h⟩ => by
    refine ⟨F, g, w, q, ?_⟩
    cases e1 : fs g with
    | ok as =>
      intro vs F1 H1 w1 r1
      simp only [e1] at h
      have h : PoO X.K F H Q (WE c.W σ) (m as) := h
      refine ⟨F1, as, w1.s, r1, ?_⟩
      revert h
      cases m as with
      | ok r =>
        intro h v F2 H2 w2 rr
        obtain ⟨p, xs, e, n, f1, h1, z, al⟩ := rr
        subst e
        exact h p xs F2 H2 (w1.trans w2) (w1.h.free n) f1 h1 z al
      | er cc fs => exact fun h => ErP.on h w1
      | no => exact fun h => h
    | er c' fs => simp only [e1] at h; exact h
    | no => simp only [e1] at h; exact h
end

/-! ### raise -/
section
variable {X : Cx} {τ ρ β γ γ' : Type} {c : C2 τ ρ β} {G : EnvT γ} {G' : EnvT γ'} {pos pos2 p p2 : Pos} {j : Nat}
/-- raise X('..'), X a plain class over ValueError -/
theorem fs_raise {x m : Str} (hc : X.calm = true) (tk : Takes X c.W) (q : PySem.W.excIn X.K (He.ga X.K x) He.veBase "ValueError.__new__" = true) (gC : X.mg x = some (.ref (He.ga X.K x))) (kC : PySem.W.keepIn X.K (.ref (He.ga X.K x)) = true)
    (h1 : PySem.W.subIn X.K (.ref (He.ga X.K x)) (.type "BaseException") = some true) (h2 : PySem.W.typeIn X.K (.ref (He.ga X.K x)) = some (.type "type")) (hg : Gl X x := by rfl) (hdb : (x == ("__debug__" : Str)) = false := by decide) :
    FS X c G (.Raise (some (.Call (.Name x p) [.Constant (.str m) j p2] [] pos)) none pos2) G' (fun _ _ => Xc.er x []) :=
  PS.imp (ps_raise hc tk (pmk_own PySem.F.excBase_ValueError q gC kC (raises_own h1 h2) hg hdb)) fun D σ H ⟨F, g, k, w, q, d, n⟩ => by
    exact d σ F H (Ws.refl w) Ag.refl F H (Wd.refl w.s)
end
end FL

/-! FL7: defs by their names. -/
namespace FL
open PySem L2
/-- the module's def x keeps the promise sp -/
structure Dk (P : Program) (w : World) (K : PySem.W.Frag) (mg : Str → Option Value) (base : Heap) (x : Str) (ps : List Str) (k : Nat) (sp : Sp) : Prop where
  ex : ∃ fd, FnOk P w K mg base (L2.CX P w) k (He.ga K x) fd ps sp ∧ Binds K fd ps []
  mg : mg x = some (.ref (He.ga K x))
  kp : PySem.W.keepIn K (.ref (He.ga K x)) = true
section
variable {X : Cx} {c : C0} {γ α ρ αs : Type} {G : EnvT γ} [Rp α] [Rp ρ] [Rps αs] {a b e : Expr} {pos p : Pos} {es : List Expr} {k j : Nat} {ps : List Str} {x : Str}
theorem fe_cal {m : αs → Xc ρ} {fs : γ → Xc αs} (D : Dk X.prog X.w X.K X.mg X.base x ps j (spF X.K (rtF ρ) m)) (tk : Takes X c.W) (hr : Room k X.A) (ha : FA X c G (e :: es) fs) (hjk : j ≤ k := by decide)
    (hg : Gl X x := by rfl) (hdb : (x == ("__debug__" : Str)) = false := by decide) (he : starEach (e :: es) X.env = (false, eval e X.env) :: starEach es X.env := by rfl) (hpl : (backTo pos (starEach es X.env)).any (·.1) = false := by rfl) :
    FE X c G (.Call (.Name x p) (e :: es) [] pos) (fun g => (fs g).bind m) := by
  obtain ⟨⟨fd, F, B⟩, h1, h2⟩ := D
  exact fe_call F tk (hr.mono hjk) h1 h2 B ha hg hdb he hpl
theorem fo_cal {m : αs → Xc (List ρ)} {fs : γ → Xc αs} (D : Dk X.prog X.w X.K X.mg X.base x ps j (spF X.K (rtO ρ) m)) (tk : Takes X c.W) (hr : Room k X.A) (ha : FA X c G (e :: es) fs) (hjk : j ≤ k := by decide)
    (hg : Gl X x := by rfl) (hdb : (x == ("__debug__" : Str)) = false := by decide) (he : starEach (e :: es) X.env = (false, eval e X.env) :: starEach es X.env := by rfl) (hpl : (backTo pos (starEach es X.env)).any (·.1) = false := by rfl) :
    FO X c G (.Call (.Name x p) (e :: es) [] pos) (fun g => (fs g).bind m) := by
  obtain ⟨⟨fd, F, B⟩, h1, h2⟩ := D
  exact fo_call F tk (hr.mono hjk) h1 h2 B ha hg hdb he hpl
end
/-- a plain class of errors over ValueError -/
structure Xk (K : PySem.W.Frag) (mg : Str → Option Value) (x : Str) : Prop where
  q : PySem.W.excIn K (He.ga K x) He.veBase "ValueError.__new__" = true
  kp : PySem.W.keepIn K (.ref (He.ga K x)) = true
  h1 : PySem.W.subIn K (.ref (He.ga K x)) (.type "BaseException") = some true
  h2 : PySem.W.typeIn K (.ref (He.ga K x)) = some (.type "type")
  mg : mg x = some (.ref (He.ga K x))
section
variable {X : Cx} {τ ρ β γ γ' : Type} {c : C2 τ ρ β} {G : EnvT γ} {G' : EnvT γ'} {pos pos2 p p2 : Pos} {j : Nat}
theorem fs_rai {x m : Str} (tk : Takes X c.W) (k : Xk X.K X.mg x) (hc : X.calm = true := by rfl) (hg : Gl X x := by rfl) (hdb : (x == ("__debug__" : Str)) = false := by decide) :
    FS X c G (.Raise (some (.Call (.Name x p) [.Constant (.str m) j p2] [] pos)) none pos2) G' (fun _ _ => Xc.er x []) := fs_raise hc tk k.q k.mg k.kp k.h1 k.h2 hg hdb
end
end FL

/-! FL8: lists of one's own: stored, read, grown, changed by place, returned. -/
namespace FL
open PySem L2
/-- the slot i holds a list of one's own -/
class AtO {γ : Type} (G : EnvT γ) (i : Nat) (α : outParam Type) (r : outParam (Rp α)) (π : outParam (γ → List α)) (put : outParam (γ → List α → γ)) : Prop where
  get : ∀ {K H0 F H σ g}, G.rel K H0 F H σ g → ∃ p xs, σ[i]? = some (some (.ref p)) ∧ p ∈ G.own σ ∧ H p = some (.lst xs) ∧ (π g).length ≤ sizeLine ∧ @Al α r K F xs (π g)
  set : ∀ {K H0 F H σ g p ys l}, G.rel K H0 F H σ g → σ[i]? = some (some (.ref p)) → l.length ≤ sizeLine → @Al α r K F ys l → G.rel K H0 F (upd H p (.lst ys)) σ (put g l)
instance {α γ : Type} [r : Rp α] (G : EnvT γ) : AtO (ow α G) 0 α r (fun g => g.1) (fun g l => (l, g.2)) := ⟨fun ⟨p, σ', xs, e, h0, f, h, z, q, n, t⟩ => ⟨p, xs, by subst e; rfl, by subst e; simp [ow, adr], h, z, q⟩,
  fun {K H0 F H σ g b ys l} ⟨p, σ', xs, e, h0, f, h, z, q, n, t⟩ e2 hz hl => by
    subst e
    have e3 : p = b := by simpa using e2
    subst e3
    exact ⟨p, σ', ys, rfl, h0, f, upd_same, hz, hl, n, G.mu t n⟩⟩
instance {α β γ : Type} [Rp β] [r : Rp α] (G : EnvT γ) (i : Nat) (π : γ → List α) (put : γ → List α → γ) [a : AtO G i α r π put] : AtO (va β G) (i + 1) α r (fun g => π g.2) (fun g l => (g.1, put g.2 l)) := ⟨fun ⟨v, σ', e, _, q⟩ => by
  obtain ⟨p, xs, e2, m, q2⟩ := a.get q
  exact ⟨p, xs, by subst e; exact e2, by subst e; exact m, q2⟩, fun ⟨v, σ', e, w, q⟩ e2 hz hl => ⟨v, σ', e, w, a.set q (by subst e; exact e2) hz hl⟩⟩
instance {α γ : Type} [r : Rp α] (G : EnvT γ) (i : Nat) (π : γ → List α) (put : γ → List α → γ) [a : AtO G i α r π put] : AtO (un G) (i + 1) α r (fun g => π g) (fun g l => put g l) := ⟨fun ⟨v, σ', e, q⟩ => by
  obtain ⟨p, xs, e2, m, q2⟩ := a.get q
  exact ⟨p, xs, by subst e; exact e2, by subst e; exact m, q2⟩, fun ⟨v, σ', e, q⟩ e2 hz hl => ⟨v, σ', e, a.set q (by subst e; exact e2) hz hl⟩⟩
instance {α β γ : Type} [Rp β] [r : Rp α] (G : EnvT γ) (i : Nat) (π : γ → List α) (put : γ → List α → γ) [a : AtO G i α r π put] : AtO (ow β G) (i + 1) α r (fun g => π g.2) (fun g l => (g.1, put g.2 l)) := ⟨fun ⟨p, σ', xs, e, h0, f, h, z, w, n, q⟩ => by
  obtain ⟨b, ys, e2, m, q2⟩ := a.get q
  exact ⟨b, ys, by subst e; exact e2, by subst e; exact List.mem_append_right _ m, q2⟩, fun {K H0 F H σ g b ys l} ⟨p, σ', xs, e, h0, f, h, z, w, n, q⟩ e2 hz hl => by
  subst e
  obtain ⟨b', _, e3, m, _⟩ := a.get q
  have e4 : b' = b := by
    have e2 : σ'[i]? = some (some (.ref b)) := e2
    rw [e3] at e2
    injection e2 with e2
    injection e2 with e2
    injection e2
  subst e4
  have ne : p ≠ b' := fun z => n (by rw [z]; exact m)
  exact ⟨p, σ', xs, rfl, h0, f, by rw [upd_ne ne]; exact h, z, w, n, a.set q e3 hz hl⟩⟩
/-- a new list of one's own goes to the slot i -/
class PutO {γ : Type} (G : EnvT γ) (i : Nat) (α : Type) [Rp α] {δ : outParam Type} (G' : outParam (EnvT δ)) (ψ : outParam (γ → List α → δ)) : Prop where
  put : ∀ {K H0 F H σ g p xs l}, G.rel K H0 F H σ g → p ∉ G.own σ → H0 p = none → F p = none → H p = some (.lst xs) → l.length ≤ sizeLine → Al K F xs l → G'.rel K H0 F H (σ.set i (some (.ref p))) (ψ g l)
  own : ∀ {K H0 F H σ g p} {b : Addr}, G.rel K H0 F H σ g → p ∈ G'.own (σ.set i (some (.ref b))) → p = b ∨ p ∈ G.own σ
instance {α β γ : Type} [Rp α] [Rp β] (G : EnvT γ) : PutO (va β G) 0 α (ow α G) (fun g l => (l, g.2)) := ⟨fun ⟨v, σ', e, _, q⟩ n h0 f h z r => ⟨_, σ', _, by subst e; rfl, h0, f, h, z, r, by subst e; exact n, q⟩,
  fun ⟨v, σ', e, _, q⟩ m => by
    subst e
    rcases List.mem_append.mp m with m | m
    · exact .inl (by simpa [adr] using m)
    · exact .inr m⟩
instance {α γ : Type} [Rp α] (G : EnvT γ) : PutO (un G) 0 α (ow α G) (fun g l => (l, g)) := ⟨fun ⟨v, σ', e, q⟩ n h0 f h z r => ⟨_, σ', _, by subst e; rfl, h0, f, h, z, r, by subst e; exact n, q⟩,
  fun ⟨v, σ', e, q⟩ m => by
    subst e
    rcases List.mem_append.mp m with m | m
    · exact .inl (by simpa [adr] using m)
    · exact .inr m⟩
instance {α β γ : Type} [Rp α] [Rp β] (G : EnvT γ) : PutO (ow β G) 0 α (ow α G) (fun g l => (l, g.2)) := ⟨fun ⟨p, σ', xs, e, _, _, _, _, _, nn, q⟩ n h0 f h z r => ⟨_, σ', _, by subst e; rfl, h0, f, h, z, r, by subst e; exact fun m => n (List.mem_append_right _ m), q⟩,
  fun ⟨p, σ', xs, e, _, _, _, _, _, nn, q⟩ m => by
    subst e
    rcases List.mem_append.mp m with m | m
    · exact .inl (by simpa [adr] using m)
    · exact .inr (List.mem_append_right _ m)⟩
instance {α β γ δ : Type} [Rp α] [Rp β] (G : EnvT γ) (i : Nat) (G' : EnvT δ) (ψ : γ → List α → δ) [P : PutO G i α G' ψ] : PutO (va β G) (i + 1) α (va β G') (fun g a => (g.1, ψ g.2 a)) :=
  ⟨fun ⟨v, σ', e, w, q⟩ n h0 f h z r => ⟨v, σ'.set i _, by subst e; rfl, w, P.put q (by subst e; exact n) h0 f h z r⟩, fun ⟨v, σ', e, w, q⟩ h => by subst e; exact P.own q h⟩
instance {α γ δ : Type} [Rp α] (G : EnvT γ) (i : Nat) (G' : EnvT δ) (ψ : γ → List α → δ) [P : PutO G i α G' ψ] : PutO (un G) (i + 1) α (un G') (fun g a => ψ g a) :=
  ⟨fun ⟨v, σ', e, q⟩ n h0 f h z r => ⟨v, σ'.set i _, by subst e; rfl, P.put q (by subst e; exact n) h0 f h z r⟩, fun ⟨v, σ', e, q⟩ h => by subst e; exact P.own q h⟩
instance {α β γ δ : Type} [Rp α] [Rp β] (G : EnvT γ) (i : Nat) (G' : EnvT δ) (ψ : γ → List α → δ) [P : PutO G i α G' ψ] : PutO (ow β G) (i + 1) α (ow β G') (fun g a => (g.1, ψ g.2 a)) :=
  ⟨fun ⟨p, σ', xs, e, h0', f', h', z', w, nn, q⟩ n h0 f h z r => by
    subst e
    refine ⟨p, σ'.set i _, xs, rfl, h0', f', h', z', w, fun m => ?_, P.put q (fun m => n (List.mem_append_right _ m)) h0 f h z r⟩
    rcases P.own q m with m | m
    · exact n (List.mem_append_left _ (by simp [adr, m]))
    · exact nn m, fun ⟨p, σ', xs, e, _, _, _, _, _, nn, q⟩ h => by
    subst e
    rcases List.mem_append.mp h with h | h
    · exact .inr (List.mem_append_left _ h)
    · rcases P.own q h with h | h
      · exact .inl h
      · exact .inr (List.mem_append_right _ h)⟩

section
variable {X : Cx} {c : C1} {γ γ' α β : Type} {G : EnvT γ} {G' : EnvT γ'} [Rp α] [Rp β] {a b e : Expr} {pos p1 p2 : Pos} {x : Str}
/-- x = [..], x's list one's own -/
theorem fn_setO (i : Nat) {p' : Pos} {ψ : γ → List α → γ'} [P : PutO G i α G' ψ] {fa : γ → Xc (List α)} (hM : c.M i = true) (ha : FO X c.toC0 G e fa) (hN : X.N.Nodup) (hi : X.N[i]? = some x := by rfl) (hx : Loc X.env.scope x := by first | exact Or.inl rfl | exact Or.inr rfl)
    (hs : swapsWith e (some (.Name x p')) pos.line X.env = pure false := by rfl) (hf : X.fn x = true ∨ X.env.scope.names.lookup x = some .local := by first | exact .inl rfl | exact .inr rfl) :
    FN X c G (.Assign [.Name x p'] e pos) G' (fun g => (fa g).bind fun v => Xc.ok (ψ g v)) :=
  PS.imp (ps_set hN hi hx ha hs hf) fun D σ H ⟨F, g, w, q, h⟩ => by
    refine ⟨F, g, w, q, ?_⟩
    cases e1 : fa g with
    | ok v =>
      intro p xs F1 H1 w1 n f1 h1 z r1
      simp only [e1] at h
      have q1 := G.mono q w1
      refine h (σ.set i (some (.ref p))) F1 H1 (Ws.of w w1) (Ag.set hM) (P.put q1 (fun m => ?_) (w.h.free n) f1 h1 z r1)
      obtain ⟨_, _, ys, hy⟩ := G.al q m
      rw [n] at hy
      cases hy
    | er c' fs => simp only [e1] at h; exact PoN.er h w
    | no => simp only [e1] at h; exact h
/-- x = [.. for ..] on one line, where the block stores it -/
theorem fn_setOL (i : Nat) {tx : γ → Xc (List α)} {st : Stmt} {te : TE} {ψ : γ → List α → γ'} [P : PutO G i α G' ψ] (hM : c.M i = true) (ha : ∀ σ H Q, tO X.K c.toC0 G tx σ H Q → te σ H Q) (hs : PS X st (tAsg te (gName i))) :
    FN X c G st G' (fun g => (tx g).bind fun v => Xc.ok (ψ g v)) :=
  PS.imp hs fun D σ H ⟨F, g, w, q, h⟩ => by
    refine ha σ H _ ⟨F, g, w, q, ?_⟩
    cases e1 : tx g with
    | ok v =>
      intro p xs F1 H1 w1 n f1 h1 z r1
      simp only [e1] at h
      have q1 := G.mono q w1
      refine h (σ.set i (some (.ref p))) F1 H1 (Ws.of w w1) (Ag.set hM) (P.put q1 (fun m => ?_) (w.h.free n) f1 h1 z r1)
      obtain ⟨_, _, ys, hy⟩ := G.al q m
      rw [n] at hy
      cases hy
    | er c' fs => simp only [e1] at h; exact PoN.er h w
    | no => simp only [e1] at h; exact h
theorem fn_setL (i : Nat) {tx : γ → Xc (List α)} {st : Stmt} {te : TE} {ψ : γ → List α → γ'} [P : Put G i (List α) G' ψ] (hM : c.M i = true) (ha : ∀ σ H Q, tO X.K c.toC0 G tx σ H Q → te σ H Q) (hs : PS X st (tAsg te (gName i))) :
    FN X c G st G' (fun g => (tx g).bind fun v => Xc.ok (ψ g v)) :=
  PS.imp hs fun D σ H ⟨F, g, w, q, h⟩ => by
    refine ha σ H _ ⟨F, g, w, q, ?_⟩
    cases e1 : tx g with
    | ok v =>
      intro p xs F1 H1 w1 n f1 h1 z r1
      simp only [e1] at h
      have w2 := w1.fz n f1 h1
      exact h (σ.set i (some (.ref p))) _ H1 (Ws.of w w2) (Ag.set hM) (P.put (G.mono q w2) ⟨p, xs, rfl, SqL.of upd_same, z, r1.mono (same_new f1)⟩)
    | er c' fs => simp only [e1] at h; exact PoN.er h w
    | no => simp only [e1] at h; exact h
/-- the world behind a change of a list of one's own -/
theorem Wd.mutd {F H F' H' : Hp} {p : Addr} {o : HO} (w : Wd F H F' H') (h0 : H p = none) (f : F' p = none) : Wd F H F' (upd H' p o) :=
  ⟨w.f, fun b u e => by rw [upd_ne (ne_of_none e h0)]; exact w.h b u e, fun b u e => by rw [upd_ne (ne_of_none e f)]; exact w.s b u e, w.n⟩
@[irreducible] def appX {α : Type} (l : List α) (a : α) : Xc (List α) := if l.length < sizeLine then .ok (l ++ [a]) else .no
/-- x.append(e) -/
theorem fn_append (i : Nat) {τ : Type} {r : Rp τ} {π : γ → List τ} {put : γ → List τ → γ} [A : AtO G i τ r π put] {fa : γ → Xc τ} {apos cpos : Pos} (ha : FE X c.toC0 G e fa) (hN : X.N[i]? = some x := by rfl) (hv : Vis X.env.scope x := by first | exact Or.inl rfl | exact Or.inr (Or.inl rfl) | exact Or.inr (Or.inr rfl))
    (hd : (x == ("__debug__" : Str)) = false := by decide) (hcd : (x == ("__classdict__" : Str)) = false := by decide) (hbase : attributeBase (.Name x p1) "append" X.env (eval (.Name x p1) X.env) = eval (.Name x p1) X.env := by rfl)
    (hfew : ((backTo cpos (starEach [e] X.env)).all (fun x => !x.1) && (backToKw cpos (keywordEach [] X.env)).all (fun x => x.1.isSome) && decide ([e].length + ([] : List Keyword).length + (if ([] : List Keyword).isEmpty then 0 else 1) < 30)) = true := by rfl)
    (hline : (apos.endLine == cpos.line) = true := by rfl) (hs : starEach [e] X.env = (false, eval e X.env) :: starEach [] X.env := by rfl) (hplain : (backTo cpos (starEach [] X.env)).any (·.1) = false := by rfl)
    (hsw : swapsWith (.Call (.Attribute (.Name x p1) "append" apos) [e] [] cpos) none pos.line X.env = pure false := by rfl) :
    FN X c G (.Expr (.Call (.Attribute (.Name x p1) "append" apos) [e] [] cpos) pos) G (fun g => (fa g).bind fun v => (appX (π g) v).bind fun l => Xc.ok (put g l)) :=
  PS.imp (ps_expr (pe_bm PySem.F.plainAttrs_list PySem.F.slot_list_append PySem.F.type_list_append mt_append (pe_var hN hv hd hcd) (pa_cons ha pa_nil hs) hbase hfew hline hs hplain) hsw) fun D σ H ⟨F, g, w, q, h⟩ => by
    obtain ⟨p, xs, e1, m, hp, z, al⟩ := A.get q
    refine ⟨.ref p, e1, .inl ⟨rfl, _, SqL.of hp⟩, F, g, w, q, ?_⟩
    cases e2 : fa g with
    | ok v =>
      intro u F1 H1 w1 r1
      simp only [e2] at h
      have h : PoN X.K c G D F H σ ((appX (π g) v).bind fun l => Xc.ok (put g l)) := h
      unfold appX at h
      by_cases hz : (π g).length < sizeLine
      · rw [if_pos hz] at h
        refine ⟨p, xs, u, rfl, rfl, w1.h _ _ hp, by rw [al.len]; exact hz, ?_⟩
        obtain ⟨h0, hf, _⟩ := G.al q m
        have q1 := G.mono q w1
        obtain ⟨_, hf1, _⟩ := G.al q1 m
        refine h σ F1 _ ⟨w1.f, (w.trans w1).mutd h0 hf1⟩ Ag.refl ?_
        exact A.set q1 e1 (by simp; omega) ((al.mono w1.f).snoc r1)
      · rw [if_neg hz] at h; exact h.elim
    | er c' fs => simp only [e2] at h; exact PoN.er h w
    | no => simp only [e2] at h; exact h
@[irreducible] def setX {α : Type} (l : List α) (i : Int) (a : α) : Xc (List α) := match ixN l.length i with
  | some j => .ok (l.set j a)
  | none => .no
/-- x[k] = e, x a list of one's own -/
theorem fn_setix (i : Nat) {τ : Type} {r : Rp τ} {π : γ → List τ} {put : γ → List τ → γ} [A : AtO G i τ r π put] {fa : γ → Xc τ} {fk : γ → Xc Int} {spos : Pos} {k : Expr} (ha : FE X c.toC0 G e fa) (hk : FE X c.toC0 G k fk) (hN : X.N[i]? = some x := by rfl)
    (hv : Vis X.env.scope x := by first | exact Or.inl rfl | exact Or.inr (Or.inl rfl) | exact Or.inr (Or.inr rfl))
    (hd : (x == ("__debug__" : Str)) = false := by decide) (hcd : (x == ("__classdict__" : Str)) = false := by decide)
    (hs : swapsWithSole [.Subscript (.Name x p1) k spos] e pos.line X.env = pure false := by rfl) (hw : swappedStores [.Subscript (.Name x p1) k spos] e X.env = pure none := by rfl)
    (h1 : (assignEach [.Subscript (.Name x p1) k spos] X.env).map (·.2) = [assign (.Subscript (.Name x p1) k spos) X.env] := by rfl) (hps : PG X (.Subscript (.Name x p1) k spos) (gSub (tVar i) (tF X.K c.toC0 G fk) rSetL)) :
    FN X c G (.Assign [.Subscript (.Name x p1) k spos] e pos) G (fun g => (fa g).bind fun v => (fk g).bind fun j => (setX (π g) j v).bind fun l => Xc.ok (put g l)) :=
  PS.imp (ps_asg ha hps hs hw h1) fun D σ H ⟨F, g, w, q, h⟩ => by
    refine ⟨F, g, w, q, ?_⟩
    cases e2 : fa g with
    | ok v =>
      intro u F1 H1 w1 r1
      simp only [e2] at h
      have h : PoN X.K c G D F H σ ((fk g).bind fun j => (setX (π g) j v).bind fun l => Xc.ok (put g l)) := h
      have q1 := G.mono q w1
      obtain ⟨p, xs, e1, m, hp, z, al⟩ := A.get q1
      refine ⟨.ref p, e1, F1, g, w.trans w1, q1, ?_⟩
      cases e3 : fk g with
      | ok j =>
        intro jv F2 H2 w2 r2
        simp only [e3] at h
        have h : PoN X.K c G D F H σ ((setX (π g) j v).bind fun l => Xc.ok (put g l)) := h
        unfold setX at h
        have q2 := G.mono q1 w2
        obtain ⟨h0, hf2, _⟩ := G.al q2 m
        cases e4 : ixN (π g).length j with
        | none => rw [e4] at h; exact h.elim
        | some n =>
          rw [e4] at h
          refine ⟨p, xs, j, n, rfl, r2, w2.h _ _ hp, by rw [al.len]; exact e4, ?_⟩
          refine h σ F2 _ ⟨w1.f.trans w2.f, ((w.trans w1).trans w2).mutd h0 hf2⟩ Ag.refl ?_
          exact A.set q2 e1 (by simp; exact z) ((al.mono w2.f).set (Rp.mono w2.f r1) n)
      | er c' fs =>
        simp only [e3] at h
        exact ErP.on (PoN.er h w) w1
      | no => simp only [e3] at h; exact h
    | er c' fs => simp only [e2] at h; exact PoN.er h w
    | no => simp only [e2] at h; exact h
end
end FL

/-! FL9: lists of one's own lent, returned; what is walked; for; comprehensions. -/
namespace FL
open PySem L2
/-! ### data without lists: it leans on no list -/
class RpT (α : Type) [Rp α] : Prop where
  down : ∀ {K F F' v} {a : α}, (∀ p o, F p = some o → (∀ xs, o ≠ HO.lst xs) → F' p = some o) → Rp.is K F v a → Rp.is K F' v a
instance : RpT Int := ⟨fun _ h => h⟩
instance : RpT Bool := ⟨fun _ h => h⟩
instance : RpT Str := ⟨fun _ h => h⟩
instance : RpT Unit := ⟨fun _ h => h⟩
instance {α : Type} [Rp α] [RpT α] : RpT (Option α) := ⟨fun {K F F' v a} s h => by
  cases a with
  | none => exact h
  | some a => exact ⟨h.1, RpT.down s h.2⟩⟩
theorem sqT_down {K : PySem.W.Frag} {F F' : Hp} {p : Addr} {xs : List V} (s : ∀ p o, F p = some o → (∀ xs, o ≠ HO.lst xs) → F' p = some o) (h : SqT K F p xs) : SqT K F' p xs := by
  rcases h with (h | ⟨o, h⟩) | h
  · exact .inl (.inl (s _ _ h fun _ z => nomatch z))
  · exact .inl (.inr ⟨o, s _ _ h fun _ z => nomatch z⟩)
  · exact .inr h
theorem al_down {α : Type} [Rp α] [RpT α] {K : PySem.W.Frag} {F F' : Hp} {vs : List V} {as : List α} (s : ∀ p o, F p = some o → (∀ xs, o ≠ HO.lst xs) → F' p = some o) (h : Al K F vs as) : Al K F' vs as := by
  induction h with
  | nil => exact .nil
  | cons h _ ih => exact .cons (RpT.down s h) ih
instance {α : Type} [Rp α] [RpT α] : RpT (Tu α) := ⟨fun s ⟨p, xs, e, h, z, r⟩ => ⟨p, xs, e, sqT_down s h, z, al_down s r⟩⟩
instance {α β : Type} [Rp α] [Rp β] [RpT α] [RpT β] : RpT (α × β) := ⟨fun s ⟨p, x, y, e, h, r1, r2⟩ => ⟨p, x, y, e, sqT_down s h, RpT.down s r1, RpT.down s r2⟩⟩
instance {α β γ : Type} [Rp α] [Rp β] [Rp γ] [RpT α] [RpT β] [RpT γ] : RpT (T3 α β γ) := ⟨fun s ⟨p, x, y, z, e, h, r1, r2, r3⟩ => ⟨p, x, y, z, e, sqT_down s h, RpT.down s r1, RpT.down s r2, RpT.down s r3⟩⟩
instance {α β γ δ : Type} [Rp α] [Rp β] [Rp γ] [Rp δ] [RpT α] [RpT β] [RpT γ] [RpT δ] : RpT (T4 α β γ δ) := ⟨fun s ⟨p, x, y, z, u, e, h, r1, r2, r3, r4⟩ => ⟨p, x, y, z, u, e, sqT_down s h, RpT.down s r1, RpT.down s r2, RpT.down s r3, RpT.down s r4⟩⟩
/-- the slots with the lists of one's own lent -/
class Bor {γ : Type} (G : EnvT γ) {δ : outParam Type} (G' : outParam (EnvT δ)) (h : outParam (γ → δ)) : Prop where
  bor : ∀ {K H0 F H F' σ g}, G.rel K H0 F H σ g → Same F F' → (∀ p, p ∈ G.own σ → F' p = H p) → G'.rel K H0 F' H σ (h g)
instance : Bor nl nl (fun g => g) := ⟨fun h _ _ => h⟩
section
variable {α γ δ : Type} [Rp α] (G : EnvT γ) (G' : EnvT δ) (h : γ → δ) [B : Bor G G' h]
instance : Bor (va α G) (va α G') (fun g => (g.1, h g.2)) := ⟨fun ⟨v, σ', e, r, q⟩ s m => by subst e; exact ⟨v, σ', rfl, Rp.mono s r, B.bor q s m⟩⟩
instance : Bor (un G) (un G') (fun g => h g) := ⟨fun ⟨v, σ', e, q⟩ s m => by subst e; exact ⟨v, σ', rfl, B.bor q s m⟩⟩
instance : Bor (ow α G) (va (List α) G') (fun g => (g.1, h g.2)) := ⟨fun {K H0 F H F' σ g} ⟨p, σ', xs, e, h0, f, hh, z, r, n, q⟩ s m => by
  subst e
  have hp : F' p = some (.lst xs) := by rw [m p (List.mem_append_left _ (by simp [adr])), hh]
  exact ⟨.ref p, σ', rfl, ⟨p, xs, rfl, SqL.of hp, z, r.mono s⟩, B.bor q s fun b hb => m b (List.mem_append_right _ hb)⟩⟩
end
section
variable {X : Cx} {c : C0} {γ δ α β : Type} {G : EnvT γ} {G' : EnvT δ} {h : γ → δ} [Rp α] [Rp β] {e : Expr}
open Classical in
theorem lend {K : PySem.W.Frag} {F H : Hp} {σ : St} {g : γ} [B : Bor G G' h] (w : Wd c.F0 c.H0 F H) (q : G.rel K c.H0 F H σ g) : ∃ F1, Wd c.F0 c.H0 F1 H ∧ G'.rel K c.H0 F1 H σ (h g) ∧
    (∀ F2 H2, Wd F1 H F2 H2 → ∃ F3, Wd F H F3 H2 ∧ (∀ p o, F2 p = some o → (∀ xs, o ≠ HO.lst xs) → F3 p = some o) ∧ ∀ p, F2 p = none → F3 p = none) ∧ Same F F1 := by
  have s1 : Same F fun a => if a ∈ G.own σ then H a else F a := fun b o e => by
    by_cases m : b ∈ G.own σ
    · obtain ⟨_, f, _⟩ := G.al q m
      rw [e] at f; cases f
    · simp only [if_neg m]; exact e
  refine ⟨fun a => if a ∈ G.own σ then H a else F a, ⟨w.f.trans s1, w.h, fun b o e => ?_, fun b hb e => ?_⟩, B.bor q s1 fun p m => by simp only [if_pos m], fun F2 H2 w2 => ⟨fun a => if a ∈ G.own σ then none else F2 a, ⟨fun b o e => ?_, w2.h, fun b o e => ?_, fun b hb e => ?_⟩, fun p o e hl => ?_, fun p e => ?_⟩, s1⟩
  · by_cases m : b ∈ G.own σ
    · simp only [if_pos m] at e; exact e
    · simp only [if_neg m] at e; exact w.s b o e
  · by_cases m : b ∈ G.own σ
    · exact (G.al q m).1
    · simp only [if_neg m] at hb; exact w.n b hb e
  · by_cases m : b ∈ G.own σ
    · obtain ⟨_, f, _⟩ := G.al q m
      rw [e] at f; cases f
    · simp only [if_neg m]; exact w2.f b o (s1 b o e)
  · by_cases m : b ∈ G.own σ
    · simp only [if_pos m] at e; cases e
    · simp only [if_neg m] at e; exact w2.s b o e
  · by_cases m : b ∈ G.own σ
    · simp only [if_pos m] at hb; exact absurd rfl hb
    · simp only [if_neg m] at hb
      exact w2.n b hb (by simp only [if_neg m]; exact e)
  · by_cases m : p ∈ G.own σ
    · obtain ⟨_, _, xs, hx⟩ := G.al q m
      have : F2 p = some (.lst xs) := w2.f p _ (by simp only [if_pos m]; exact hx)
      rw [this] at e
      exact absurd (Option.some.inj e).symm (hl xs)
    · simp only [if_neg m]; exact e
  · by_cases m : p ∈ G.own σ
    · simp only [if_pos m]
    · simp only [if_neg m]; exact e
theorem ErP.lend {K : PySem.W.Frag} {F H F1 : Hp} {E : XK} {cc : Str} {fs : List (Str × V)} (h : ErP K F H E cc fs) (k : ∀ F2 H2, Wd F1 H F2 H2 → ∃ F3, Wd F H F3 H2) : ErP K F1 H E cc fs := by
  cases fs with
  | nil => exact fun F' H' w => by obtain ⟨F3, w3⟩ := k F' H' w; exact h F3 H' w3
  | cons f fs => exact fun F' H' d w => by obtain ⟨F3, w3⟩ := k F' H' w; exact h F3 H' d w3
theorem fe_br [B : Bor G G' h] [RpT α] {f : δ → Xc α} (ha : FE X c G' e f) : FE X c G e (fun g => f (h g)) :=
  PE.imp ha fun σ H Q ⟨F, g, w, q, p⟩ => by
    obtain ⟨F1, w1, q1, k, _⟩ := lend (B := B) w q
    refine ⟨F1, h g, w1, q1, ?_⟩
    have p : Po X.K F H Q (WE c.W σ) (f (h g)) := p
    revert p
    cases f (h g) with
    | ok a =>
      intro p v F2 H2 w2 r2
      obtain ⟨F3, w3, d⟩ := k F2 H2 w2
      exact p v F3 H2 w3 (RpT.down d.1 r2)
    | er cc fs => exact fun p => ErP.lend p fun F2 H2 w2 => let ⟨F3, w3, _⟩ := k F2 H2 w2; ⟨F3, w3⟩
    | no => exact fun p => p
theorem ft_br [B : Bor G G' h] {f : δ → Xc Bool} (ha : FT X c G' e f) : FT X c G e (fun g => f (h g)) :=
  PT.imp ha fun σ H Q ⟨F, g, w, q, p⟩ => by
    obtain ⟨F1, w1, q1, k, _⟩ := lend (B := B) w q
    refine ⟨F1, h g, w1, q1, ?_⟩
    have p : PoB X.K F H Q (WE c.W σ) (f (h g)) := p
    revert p
    cases f (h g) with
    | ok a =>
      intro p F2 H2 w2
      obtain ⟨F3, w3, d⟩ := k F2 H2 w2
      exact p F3 H2 w3
    | er cc fs => exact fun p => ErP.lend p fun F2 H2 w2 => let ⟨F3, w3, _⟩ := k F2 H2 w2; ⟨F3, w3⟩
    | no => exact fun p => p
theorem fo_br [B : Bor G G' h] [RpT α] {f : δ → Xc (List α)} (ha : FO X c G' e f) : FO X c G e (fun g => f (h g)) :=
  PE.imp ha fun σ H Q ⟨F, g, w, q, p⟩ => by
    obtain ⟨F1, w1, q1, k, _⟩ := lend (B := B) w q
    refine ⟨F1, h g, w1, q1, ?_⟩
    have p : PoO X.K F H Q (WE c.W σ) (f (h g)) := p
    revert p
    cases f (h g) with
    | ok a =>
      intro p b xs F2 H2 w2 n f2 h2 z r2
      obtain ⟨F3, w3, d⟩ := k F2 H2 w2
      exact p b xs F3 H2 w3 n (d.2 b f2) h2 z (al_down d.1 r2)
    | er cc fs => exact fun p => ErP.lend p fun F2 H2 w2 => let ⟨F3, w3, _⟩ := k F2 H2 w2; ⟨F3, w3⟩
    | no => exact fun p => p
end
end FL

/-! FL10: what is walked; targets; for; comprehensions; returns of lists of one's own. -/
namespace FL
open PySem L2
/-- the walk J over the items of l, in the frozen heap F -/
structure Wk {α : Type} [Rp α] (K : PySem.W.Frag) (J : It) (F : Hp) (l : List α) : Prop where
  len : l.length ≤ sizeLine
  stop : ∀ F' H', Same F F' → Same F' H' → J.stop l.length H'
  go : ∀ i F' H', i < l.length → Same F F' → Same F' H' → J.go i H'
  yld : ∀ i a F' H' x H'', l[i]? = some a → Same F F' → Same F' H' → J.yld i H' x H'' → ∃ F'', Wd F' H' F'' H'' ∧ Rp.is K F'' x a
def PoI {α : Type} [Rp α] (K : PySem.W.Frag) (F H : Hp) (R : It → Hp → Prop) (E : XK) (m : Xc (List α)) : Prop := match m with
  | .ok l => ∀ J F' H', Wd F H F' H' → Wk K J F' l → R J H'
  | .er c fs => ErP K F H E c fs
  | .no => False
section
variable {X : Cx} {c : C0} {γ α β : Type} {G : EnvT γ} [Rp α] [Rp β] {e a b tg : Expr} {pos p : Pos}
def FI (X : Cx) (c : C0) (G : EnvT γ) (tg iter : Expr) (f : γ → Xc (List α)) : Prop := PI X tg iter fun σ H R => ∃ F g, Wd c.F0 c.H0 F H ∧ G.rel X.K c.H0 F H σ g ∧ PoI X.K F H R (WE c.W σ) (f g)
theorem PI.imp {iter : Expr} {t t' : TI} (h : PI X tg iter t) (i : ∀ σ H R, t' σ H R → t σ H R) : PI X tg iter t' := ⟨fun pins s σ H R I q => h.run pins s σ H R I (i σ H R q)⟩
theorem FI.cast {f f' : γ → Xc (List α)} (h : FI X c G tg e f) (i : ∀ g, f' g = f g) : FI X c G tg e f' := by rw [show f' = f from funext i]; exact h
theorem sqL_one {K : PySem.W.Frag} {H : Hp} {q : Addr} {xs ys : List V} {F : Hp} (s : Same F H) (h : SqL K F q xs) : SqL K H q xs := Same.seq s h
theorem fi_list {f : γ → Xc (List α)} (h : FE X c G e f) : FI X c G tg e f :=
  PI.imp (pi_list h) fun σ H R ⟨F, g, w, q, p⟩ => by
    refine ⟨F, g, w, q, ?_⟩
    cases e1 : f g with
    | ok l =>
      rintro v F1 H1 w1 ⟨b, xs, rfl, hx, hz, r⟩
      rw [e1] at p
      refine ⟨b, rfl, ⟨xs, Same.seq w1.s hx⟩, p (Itl X.K b) F1 H1 w1 ⟨hz, fun F' H' s1 s2 => ⟨xs, Same.seq (s1.trans s2) hx, Nat.le_of_eq r.len⟩, fun i F' H' hi s1 s2 => ?_, fun i a F' H' x H'' e2 s1 s2 y => ?_⟩⟩
      · obtain ⟨v, hv, _⟩ := r.get' (List.getElem?_eq_getElem hi)
        exact ⟨xs, v, Same.seq (s1.trans s2) hx, hv⟩
      · obtain ⟨rfl, y⟩ := y
        obtain ⟨v, hv, rv⟩ := r.get' e2
        have := y xs (Same.seq (s1.trans s2) hx)
        rw [hv] at this
        cases this
        exact ⟨F', Wd.refl s2, Rp.mono s1 rv⟩
    | er c' fs => rw [e1] at p; exact p
    | no => rw [e1] at p; exact p
theorem fi_tup {f : γ → Xc (Tu α)} (h : FE X c G e f) : FI X c G tg e (fun g => (f g).bind fun t => Xc.ok t.l) :=
  PI.imp (pi_tup h) fun σ H R ⟨F, g, w, q, p⟩ => by
    refine ⟨F, g, w, q, ?_⟩
    cases e1 : f g with
    | ok l =>
      rintro v F1 H1 w1 ⟨b, xs, rfl, hx, hz, r⟩
      simp only [e1] at p
      refine ⟨b, rfl, ⟨xs, Same.seqT w1.s hx⟩, p (Itt X.K b) F1 H1 w1 ⟨hz, fun F' H' s1 s2 => ⟨xs, Same.seqT (s1.trans s2) hx, Nat.le_of_eq r.len⟩, fun i F' H' hi s1 s2 => ?_, fun i a F' H' x H'' e2 s1 s2 y => ?_⟩⟩
      · obtain ⟨v, hv, _⟩ := r.get' (List.getElem?_eq_getElem hi)
        exact ⟨xs, v, Same.seqT (s1.trans s2) hx, hv⟩
      · obtain ⟨rfl, y⟩ := y
        obtain ⟨v, hv, rv⟩ := r.get' e2
        have := y xs (Same.seqT (s1.trans s2) hx)
        rw [hv] at this
        cases this
        exact ⟨F', Wd.refl s2, Rp.mono s1 rv⟩
    | er c' fs => simp only [e1] at p; exact p
    | no => simp only [e1] at p; exact p
/-- lo, lo + 1, .. below hi -/
@[irreducible] def rangeL (lo hi : Int) : List Int := (List.range (hi - lo).toNat).map fun i => lo + (i : Nat)
@[irreducible] def rngX (lo hi : Int) : Xc (List Int) := if -(2 ^ 62) ≤ lo ∧ lo < 2 ^ 62 ∧ -(2 ^ 62) ≤ hi ∧ hi < 2 ^ 62 ∧ (hi - lo).toNat ≤ sizeLine then .ok (rangeL lo hi) else .no
theorem rangeL_len (lo hi : Int) : (rangeL lo hi).length = (hi - lo).toNat := by simp [rangeL]
theorem rangeL_get {lo hi : Int} {i : Nat} {a : Int} (h : (rangeL lo hi)[i]? = some a) : a = lo + (i : Nat) ∧ i < (hi - lo).toNat := by
  have hi' : i < (rangeL lo hi).length := (List.getElem?_eq_some_iff.mp h).1
  rw [rangeL_len] at hi'
  unfold rangeL at h
  rw [List.getElem?_map, List.getElem?_range hi'] at h
  exact ⟨(Option.some.inj h).symm, hi'⟩
theorem wk_range {K : PySem.W.Frag} {F : Hp} {lo hi : Int} (hz : (hi - lo).toNat ≤ sizeLine) : Wk K (Itr lo (hi - lo).toNat) F (rangeL lo hi) :=
  ⟨by rw [rangeL_len]; exact hz, fun F' H' _ _ => by rw [rangeL_len]; exact Nat.le_refl _, fun i F' H' h _ _ => by rw [rangeL_len] at h; exact h, fun i a F' H' x H'' e s1 s2 y => by
    obtain ⟨rfl, rfl⟩ := y
    obtain ⟨rfl, _⟩ := rangeL_get e
    exact ⟨F', Wd.refl s2, rfl⟩⟩
theorem fi_range1 {f : γ → Xc Int} (h : FE X c G a f) (hm : X.mg "range" = none) (hg : Gl X "range" := by rfl) (hs : starEach [a] X.env = (false, eval a X.env) :: starEach [] X.env := by rfl) :
    FI X c G tg (.Call (.Name "range" p) [a] [] pos) (fun g => (f g).bind fun i => rngX 0 i) :=
  PI.imp (pi_range1 hg hm (pa_cons h pa_nil hs) (hs := hs)) fun σ H R ⟨F, g, w, q, p⟩ => by
    refine ⟨F, g, w, q, ?_⟩
    cases e1 : f g with
    | ok n =>
      intro v F1 H1 w1 r1
      have r1 : v = .int n := r1
      simp only [e1] at p
      have p : PoI X.K F H R (WE c.W σ) (rngX 0 n) := p
      unfold rngX at p
      by_cases hz : -(2 ^ 62) ≤ (0 : Int) ∧ (0 : Int) < 2 ^ 62 ∧ -(2 ^ 62) ≤ n ∧ n < 2 ^ 62 ∧ (n - 0).toNat ≤ sizeLine
      · rw [if_pos hz] at p
        refine ⟨n, by rw [r1], hz.2.2.1, hz.2.2.2.1, ?_⟩
        have k := p (Itr 0 (n - 0).toNat) F1 H1 w1 (wk_range hz.2.2.2.2)
        rw [Int.sub_zero] at k
        exact k
      · rw [if_neg hz] at p; exact p.elim
    | er c' fs => simp only [e1] at p; exact p
    | no => simp only [e1] at p; exact p
theorem fi_range2 {f1 f2 : γ → Xc Int} (h1 : FE X c G a f1) (h2 : FE X c G b f2) (hm : X.mg "range" = none) (hg : Gl X "range" := by rfl) (hs : starEach [a, b] X.env = (false, eval a X.env) :: starEach [b] X.env := by rfl)
    (hs2 : starEach [b] X.env = (false, eval b X.env) :: starEach [] X.env := by rfl) : FI X c G tg (.Call (.Name "range" p) [a, b] [] pos) (fun g => (f1 g).bind fun i => (f2 g).bind fun j => rngX i j) :=
  PI.imp (pi_range2 hg hm (pa_cons h1 (pa_cons h2 pa_nil hs2) hs) (hs := hs.trans (congrArg _ hs2)) (hs2 := hs2)) fun σ H R ⟨F, g, w, q, p⟩ => by
    refine ⟨F, g, w, q, ?_⟩
    cases e1 : f1 g with
    | ok i =>
      intro v F1 H1 w1 r1
      have r1 : v = .int i := r1
      simp only [e1] at p
      have p : PoI X.K F H R (WE c.W σ) ((f2 g).bind fun j => rngX i j) := p
      refine ⟨F1, g, w.trans w1, G.mono q w1, ?_⟩
      cases e2 : f2 g with
      | ok j =>
        intro u F2 H2 w2 r2
        have r2 : u = .int j := r2
        simp only [e2] at p
        have p : PoI X.K F H R (WE c.W σ) (rngX i j) := p
        unfold rngX at p
        by_cases hz : -(2 ^ 62) ≤ i ∧ i < 2 ^ 62 ∧ -(2 ^ 62) ≤ j ∧ j < 2 ^ 62 ∧ (j - i).toNat ≤ sizeLine
        · rw [if_pos hz] at p
          exact ⟨i, j, by rw [r1, r2], ⟨hz.1, hz.2.1, hz.2.2.1, hz.2.2.2.1⟩, p (Itr i (j - i).toNat) F2 H2 (w1.trans w2) (wk_range hz.2.2.2.2)⟩
        · rw [if_neg hz] at p; exact p.elim
      | er c' fs => simp only [e2] at p; exact ErP.on (show ErP X.K F H (WE c.W σ) c' fs from p) w1
      | no => simp only [e2] at p; exact p
    | er c' fs => simp only [e1] at p; exact p
    | no => simp only [e1] at p; exact p
/-- the signs of a text, one by one -/
@[irreducible] def signs (z : Str) : List Str := z.cps.toList.map fun k => (⟨#[k]⟩ : Str)
end
/-! ### targets -/
section
variable {X : Cx} {γ γ' α β : Type} {G : EnvT γ} {G' : EnvT γ'} [Rp α] [Rp β] {pos : Pos} {x y : Str}
/-- the target tg stores an item -/
def FG (X : Cx) (M : Nat → Bool) (G : EnvT γ) (tg : Expr) (G' : EnvT γ') (vs : List Nat) (ψ : γ → α → γ') : Prop := ∃ t, PG X tg t ∧ ∀ H0 F H σ g v a (Q : St → Hp → Prop), Same F H → G.rel X.K H0 F H σ g → Rp.is X.K F v a →
  (∀ σ', Ag M σ σ' → wipe σ' vs = wipe σ vs → G'.rel X.K H0 F H σ' (ψ g a) → Q σ' H) → t v σ H Q
theorem fg_name (i : Nat) {M : Nat → Bool} {p : Pos} {ψ : γ → α → γ'} [P : Put G i α G' ψ] (hM : M i = true) (hN : X.N.Nodup) (hi : X.N[i]? = some x := by rfl) (hx : Loc X.env.scope x := by first | exact Or.inl rfl | exact Or.inr rfl)
    (hf : X.fn x = true ∨ X.env.scope.names.lookup x = some .local := by first | exact .inl rfl | exact .inr rfl) : FG X M G (.Name x p) G' [i] ψ :=
  ⟨_, pg_name hN hi hx hf, fun H0 F H σ g v a Q s q r k => k _ (Ag.set hM) (by unfold wipe wipe; rw [List.set_set]) (P.put q r)⟩
theorem fg_pair (i j : Nat) {M : Nat → Bool} {p p1 p2 : Pos} {kk} {γ1 : Type} {G1 : EnvT γ1} {ψ1 : γ → α → γ1} {ψ2 : γ1 → β → γ'} [P1 : Put G i α G1 ψ1] [P2 : Put G1 j β G' ψ2] (hM : M i = true ∧ M j = true) (hc : X.calm = true) (hN : X.N.Nodup)
    (hi : X.N[i]? = some x := by rfl) (hx : Loc X.env.scope x := by first | exact Or.inl rfl | exact Or.inr rfl) (hj : X.N[j]? = some y := by rfl) (hy : Loc X.env.scope y := by first | exact Or.inl rfl | exact Or.inr rfl)
    (hf : X.fn x = true ∨ X.env.scope.names.lookup x = some .local := by first | exact .inl rfl | exact .inr rfl) (hf2 : X.fn y = true ∨ X.env.scope.names.lookup y = some .local := by first | exact .inl rfl | exact .inr rfl)
    (pt : PG X (.Tuple [.Name x p1, .Name y p2] kk p) (gTup X.K 2 (gCons (gName i) (gCons (gName j) gNil)))) : FG X M G (.Tuple [.Name x p1, .Name y p2] kk p) G' [i, j] (fun g (a : α × β) => ψ2 (ψ1 g a.1) a.2) :=
  ⟨_, pt, fun H0 F H σ g v a Q s q r k => by
    obtain ⟨b, u, z, rfl, h, r1, r2⟩ := r
    refine ⟨b, [u, z], rfl, Same.seqT s h, rfl, u, [z], rfl, z, [], rfl, rfl, ?_⟩
    refine k _ ((Ag.set hM.1).trans (Ag.set hM.2)) ?_ (P2.put (P1.put q r1) r2)
    show ((((σ.set i (some u)).set j (some z)).set j none).set i none) = (σ.set j none).set i none
    rw [List.set_set]
    by_cases e : i = j
    · subst e; rw [List.set_set, List.set_set, List.set_set]
    · rw [List.set_comm _ _ (fun z => e z.symm), List.set_comm _ _ e, List.set_comm (some u) none e, List.set_set, List.set_comm _ _ (fun z => e z.symm)]⟩
end
/-! ### for -/
def foldX {γ α : Type} (f : γ → α → Xc γ) : List α → γ → Xc γ
  | [], g => .ok g
  | a :: l, g => (f g a).bind (foldX f l)
def forX {γ α ρ : Type} (f : γ → α → Xc (Lp γ ρ)) : List α → γ → Xc (Sum γ ρ)
  | [], g => .ok (.inl g)
  | a :: l, g => (f g a).bind fun t => match t with
    | .ct g' => forX f l g'
    | .bk g' => .ok (.inl g')
    | .rt r => .ok (.inr r)
section
variable {X : Cx} {γ γb α β ρ τ : Type} {G : EnvT γ} {Gb : EnvT γb} [Rp α] {tg iter : Expr} {body : List Stmt} {pos : Pos} {vs : List Nat}
theorem fn_for {c : C1} {ψ : γ → α → γb} {fl : γ → Xc (List α)} {mb : γb → Xc γ} (po : PassesOwn (model X.prog X.w) X.A X.env X.xe) (hi : FI X c.toC0 G tg iter fl) (hg : FG X c.M G tg Gb vs ψ) (hb : FNs X c Gb body G mb)
    (hc : X.calm = true := by rfl) (hs : ∀ x, foldedSetIterable iter X.env x = pure x := by intro _; rfl) : FN X c G (.For tg iter body [] pos) G (fun g => (fl g).bind fun l => foldX (fun g a => mb (ψ g a)) l g) := by
  obtain ⟨t, pg, ht⟩ := hg
  refine PS.imp (ps_for po hc hi pg hb hs) fun D σ H ⟨F, g, w, q, p⟩ => ⟨F, g, w, q, ?_⟩
  cases e1 : fl g with
  | er c' fs => simp only [e1] at p; exact PoN.er p w
  | no => simp only [e1] at p; exact p
  | ok l =>
    intro J F1 H1 w1 wk
    simp only [e1] at p
    have p : PoN X.K c G D F H σ (foldX (fun g a => mb (ψ g a)) l g) := p
    refine ⟨fun i m σ' H' => m = l.length - i ∧ i ≤ l.length ∧ ∃ F' g', Ws c.toC0 F1 F' H' ∧ Ag c.M σ σ' ∧ G.rel X.K c.H0 F' H' σ' g' ∧ PoN X.K c G D F' H' σ' (foldX (fun g a => mb (ψ g a)) (l.drop i) g'),
      ⟨l.length, by simp, Nat.zero_le _, F1, g, Ws.refl (w.trans w1), Ag.refl, G.mono q w1, by simpa using p.on w1.f Ag.refl⟩, ?_⟩
    rintro i m σ' H' ⟨rfl, hi', F', g', ws, ag, q', p'⟩
    by_cases hlt : i < l.length
    · refine .inr ⟨wk.go i F' H' hlt ws.f ws.w.s, fun σ'' H'' => ∃ F' g', Ws c.toC0 F1 F' H'' ∧ Ag c.M σ σ'' ∧ G.rel X.K c.H0 F' H'' σ'' g' ∧ PoN X.K c G D F' H'' σ'' (foldX (fun g a => mb (ψ g a)) (l.drop (i + 1)) g'),
        fun σ'' H'' z => ⟨l.length - (i + 1), by omega, rfl, hlt, z⟩, fun x H'' y => ?_⟩
      obtain ⟨F2, w2, r2⟩ := wk.yld i l[i] F' H' x H'' (List.getElem?_eq_getElem hlt) ws.f ws.w.s y
      refine ht c.H0 F2 H'' σ' g' x l[i] _ w2.s (G.mono q' w2) r2 fun σ2 ag2 _ q2 => ?_
      refine ⟨F2, ψ g' l[i], ws.w.trans w2, q2, ?_⟩
      rw [List.drop_eq_getElem_cons hlt] at p'
      have p' : PoN X.K c G D F' H' σ' ((mb (ψ g' l[i])).bind (foldX (fun g a => mb (ψ g a)) (l.drop (i + 1)))) := p'
      revert p'
      cases mb (ψ g' l[i]) with
      | ok g3 =>
        intro p' σ3 F3 H3 w3 a3 q3
        exact ⟨F3, g3, ⟨(ws.f.trans w2.f).trans w3.f, w3.w⟩, (ag.trans ag2).trans a3, q3, PoN.on (show PoN X.K c G D F' H' σ' (foldX (fun g a => mb (ψ g a)) (l.drop (i + 1)) g3) from p') (w2.f.trans w3.f) (ag2.trans a3)⟩
      | er cc fs => exact fun p' σ3 F3 H3 w3 a3 => p' σ3 F3 H3 ⟨w2.f.trans w3.f, w3.w⟩ (ag2.trans a3)
      | no => exact fun p' => p'
    · have e : i = l.length := by omega
      subst e
      refine .inl ⟨wk.stop F' H' ws.f ws.w.s, ?_⟩
      rw [List.drop_length] at p'
      exact p' σ' F' H' (Ws.refl ws.w) Ag.refl q'
/-- the context of a loop's turn that may leave the loop -/
def cL (c : C2 τ ρ β) (G : EnvT γ) : C2 (Lp γ ρ) ρ γ := { toC1 := c.toC1, O := outL γ ρ, R := c.R, GB := G }
theorem fs_for {c : C2 τ ρ β} {rt : ρ → τ} {ψ : γ → α → γb} {fl : γ → Xc (List α)} {fb : γb → (γ → Xc (Lp γ ρ)) → Xc (Lp γ ρ)} (po : PassesOwn (model X.prog X.w) X.A X.env X.xe) (hi : FI X c.toC0 G tg iter fl) (hg : FG X c.M G tg Gb vs ψ) (hb : FSs X (cL c G) Gb body G fb)
    (hO : ∀ r P B C, P r → c.O.sem (rt r) P B C) (hR' : ∀ r P B C, c.O.sem (rt r) P B C → P r) (hc : X.calm = true := by rfl) (hs : ∀ x, foldedSetIterable iter X.env x = pure x := by intro _; rfl) :
    FS X c G (.For tg iter body [] pos) G (fun g k => (fl g).bind fun l => (forX (fun g a => fb (ψ g a) fun g' => Xc.ok (Lp.ct g')) l g).bind fun t => match t with
      | .inl g' => k g'
      | .inr r => Xc.ok (rt r)) := by
  obtain ⟨t, pg, ht⟩ := hg
  refine PS.imp (ps_for po hc hi pg hb hs) fun D σ H ⟨F, g, k, w, q, d, n⟩ => ⟨F, g, w, q, ?_⟩
  cases e1 : fl g with
  | er c' fs => simp only [e1] at d; exact Done.er d w
  | no => simp only [e1] at d; exact d
  | ok l =>
    intro J F1 H1 w1 wk
    simp only [e1] at d
    let fin : Sum γ ρ → Xc τ := fun t => match t with
      | .inl g' => k g'
      | .inr r => Xc.ok (rt r)
    have d : Done X.K c D F σ ((forX (fun g a => fb (ψ g a) fun g' => Xc.ok (Lp.ct g')) l g).bind fin) := d
    refine ⟨fun i m σ' H' => m = l.length - i ∧ i ≤ l.length ∧ ∃ F' g', Ws c.toC0 F1 F' H' ∧ Ag c.M σ σ' ∧ G.rel X.K c.H0 F' H' σ' g' ∧ Done X.K c D F' σ' ((forX (fun g a => fb (ψ g a) fun g' => Xc.ok (Lp.ct g')) (l.drop i) g').bind fin),
      ⟨l.length, by simp, Nat.zero_le _, F1, g, Ws.refl (w.trans w1), Ag.refl, G.mono q w1, by simpa using d.on w1.f Ag.refl⟩, ?_⟩
    rintro i m σ' H' ⟨rfl, hi', F', g', ws, ag, q', d'⟩
    by_cases hlt : i < l.length
    · refine .inr ⟨wk.go i F' H' hlt ws.f ws.w.s, fun σ'' H'' => ∃ F' g', Ws c.toC0 F1 F' H'' ∧ Ag c.M σ σ'' ∧ G.rel X.K c.H0 F' H'' σ'' g' ∧ Done X.K c D F' σ'' ((forX (fun g a => fb (ψ g a) fun g' => Xc.ok (Lp.ct g')) (l.drop (i + 1)) g').bind fin),
        fun σ'' H'' z => ⟨l.length - (i + 1), by omega, rfl, hlt, z⟩, fun x H'' y => ?_⟩
      obtain ⟨F2, w2, r2⟩ := wk.yld i l[i] F' H' x H'' (List.getElem?_eq_getElem hlt) ws.f ws.w.s y
      refine ht c.H0 F2 H'' σ' g' x l[i] _ w2.s (G.mono q' w2) r2 fun σ2 ag2 _ q2 => ?_
      rw [List.drop_eq_getElem_cons hlt] at d'
      have d' : Done X.K c D F' σ' (((fb (ψ g' l[i]) fun g' => Xc.ok (Lp.ct g')).bind fun t => match t with
        | .ct g' => forX (fun g a => fb (ψ g a) fun g' => Xc.ok (Lp.ct g')) (l.drop (i + 1)) g'
        | .bk g' => .ok (.inl g')
        | .rt r => .ok (.inr r)).bind fin) := d'
      refine ⟨F2, ψ g' l[i], fun g' => Xc.ok (Lp.ct g'), ws.w.trans w2, q2, ?_, fun g3 σ3 F3 H3 w3 a3 q3 d3 => ?_⟩
      · revert d'
        cases fb (ψ g' l[i]) fun g' => Xc.ok (Lp.ct g') with
        | ok t =>
          intro d'
          cases t with
          | ct b =>
            have d' : Done X.K c D F' σ' ((forX (fun g a => fb (ψ g a) fun g' => Xc.ok (Lp.ct g')) (l.drop (i + 1)) b).bind fin) := d'
            intro σ3 F3 H3 w3 a3 q3
            exact ⟨F3, b, ⟨(ws.f.trans w2.f).trans w3.f, w3.w⟩, (ag.trans ag2).trans a3, q3, d'.on (w2.f.trans w3.f) (ag2.trans a3)⟩
          | bk b =>
            have d' : Done X.K c D F' σ' (k b) := d'
            intro σ3 F3 H3 w3 a3 q3
            exact n b σ3 F3 H3 ⟨((w1.f.trans ws.f).trans w2.f).trans w3.f, w3.w⟩ ((ag.trans ag2).trans a3) q3 (d'.on (w2.f.trans w3.f) (ag2.trans a3))
          | rt r =>
            have d' : Done X.K c D F' σ' (Xc.ok (rt r)) := d'
            intro v F3 H3 w3 r3
            exact hR' r _ _ _ d' v F3 H3 ⟨w2.f.trans w3.f, w3.w⟩ r3
        | er cc fs => exact fun d' σ3 F3 H3 w3 a3 => d' σ3 F3 H3 ⟨w2.f.trans w3.f, w3.w⟩ (ag2.trans a3)
        | no => exact fun d' => d'
      · exact d3 σ3 F3 H3 (Ws.refl w3.w) Ag.refl q3
    · have e : i = l.length := by omega
      subst e
      refine .inl ⟨wk.stop F' H' ws.f ws.w.s, ?_⟩
      rw [List.drop_length] at d'
      exact n g' σ' F' H' ⟨w1.f.trans ws.f, ws.w⟩ ag q' d'
theorem fs_break {c : C2 (Lp β ρ) ρ β} {γ' : Type} {G : EnvT γ} {G' : EnvT γ'} {h : γ → β} [S : Sub G c.GB h] (hO : c.O = outL β ρ := by rfl) : FS X c G (.Break pos) G' (fun g _ => Xc.ok (Lp.bk (h g))) :=
  PS.imp ps_break fun D σ H ⟨F, g, k, w, q, d, n⟩ => by
    unfold Done at d
    rw [hO] at d
    exact d σ F H (Ws.refl w) Ag.refl (S.sub q)
theorem fs_cont {c : C2 (Lp β ρ) ρ β} {γ' : Type} {G : EnvT γ} {G' : EnvT γ'} {h : γ → β} [S : Sub G c.GB h] (hO : c.O = outL β ρ := by rfl) : FS X c G (.Continue pos) G' (fun g _ => Xc.ok (Lp.ct (h g))) :=
  PS.imp ps_continue fun D σ H ⟨F, g, k, w, q, d, n⟩ => by
    unfold Done at d
    rw [hO] at d
    exact d σ F H (Ws.refl w) Ag.refl (S.sub q)
end
end FL

/-! FL11: comprehensions. -/
namespace FL
open PySem L2
/-! ### slots forgotten -/
class Wi1 {γ : Type} (G : EnvT γ) (i : Nat) {δ : outParam Type} (G' : outParam (EnvT δ)) (h : outParam (γ → δ)) : Prop where
  wi : ∀ {K H0 F H σ g} (x : Option V), G.rel K H0 F H σ g → G'.rel K H0 F H (σ.set i x) (h g)
  own : ∀ {K H0 F H σ g p} (x : Option V), G.rel K H0 F H σ g → p ∈ G'.own (σ.set i x) → p ∈ G.own σ
section
variable {α β γ δ : Type} [Rp α] [Rp β] (G : EnvT γ) (G' : EnvT δ) (h : γ → δ) (i : Nat)
instance : Wi1 nl i nl (fun g => g) := ⟨fun _ _ => trivial, fun _ _ m => by cases m⟩
instance : Wi1 (va α G) 0 (un G) (fun g => g.2) := ⟨fun x ⟨v, σ', e, _, q⟩ => ⟨x, σ', by subst e; rfl, q⟩, fun x ⟨v, σ', e, _, q⟩ m => by subst e; exact m⟩
instance : Wi1 (un G) 0 (un G) (fun g => g) := ⟨fun x ⟨v, σ', e, q⟩ => ⟨x, σ', by subst e; rfl, q⟩, fun x ⟨v, σ', e, q⟩ m => by subst e; exact m⟩
instance : Wi1 (ow α G) 0 (un G) (fun g => g.2) := ⟨fun x ⟨p, σ', xs, e, _, _, _, _, _, _, q⟩ => ⟨x, σ', by subst e; rfl, q⟩, fun x ⟨p, σ', xs, e, _, _, _, _, _, _, q⟩ m => by subst e; exact List.mem_append_right _ m⟩
instance [W : Wi1 G i G' h] : Wi1 (va α G) (i + 1) (va α G') (fun g => (g.1, h g.2)) := ⟨fun x ⟨v, σ', e, r, q⟩ => ⟨v, σ'.set i x, by subst e; rfl, r, W.wi x q⟩, fun x ⟨v, σ', e, r, q⟩ m => by subst e; exact W.own x q m⟩
instance [W : Wi1 G i G' h] : Wi1 (un G) (i + 1) (un G') (fun g => h g) := ⟨fun x ⟨v, σ', e, q⟩ => ⟨v, σ'.set i x, by subst e; rfl, W.wi x q⟩, fun x ⟨v, σ', e, q⟩ m => by subst e; exact W.own x q m⟩
instance [W : Wi1 G i G' h] : Wi1 (ow α G) (i + 1) (ow α G') (fun g => (g.1, h g.2)) := ⟨fun x ⟨p, σ', xs, e, h0, f, hh, z, r, n, q⟩ => ⟨p, σ'.set i x, xs, by subst e; rfl, h0, f, hh, z, r, fun m => n (W.own x q m), W.wi x q⟩, fun x ⟨p, σ', xs, e, _, _, _, _, _, _, q⟩ m => by
  subst e
  rcases List.mem_append.mp m with m | m
  · exact List.mem_append_left _ m
  · exact List.mem_append_right _ (W.own x q m)⟩
end
class Wip {γ : Type} (G : EnvT γ) (vs : List Nat) {δ : outParam Type} (G' : outParam (EnvT δ)) (h : outParam (γ → δ)) : Prop where
  wi : ∀ {K H0 F H σ g}, G.rel K H0 F H σ g → G'.rel K H0 F H (wipe σ vs) (h g)
instance {γ : Type} (G : EnvT γ) : Wip G [] G (fun g => g) := ⟨fun h => h⟩
instance {γ δ ε : Type} (G : EnvT γ) (G1 : EnvT δ) (G2 : EnvT ε) (i : Nat) (vs : List Nat) (h1 : γ → δ) (h2 : δ → ε) [W : Wip G vs G1 h1] [W1 : Wi1 G1 i G2 h2] : Wip G (i :: vs) G2 (fun g => h2 (h1 g)) := ⟨fun q => W1.wi none (W.wi q)⟩
theorem wipe_set {σ : St} {i : Nat} : ∀ {vs : List Nat}, wipe (σ.set i none) vs = (wipe σ vs).set i none
  | [] => rfl
  | v :: vs => by
    show (wipe (σ.set i none) vs).set v none = ((wipe σ vs).set v none).set i none
    rw [wipe_set]
    by_cases e : i = v
    · subst e; rfl
    · rw [List.set_comm _ _ e]
theorem wipe_wipe {σ : St} : ∀ {vs : List Nat}, wipe (wipe σ vs) vs = wipe σ vs
  | [] => rfl
  | v :: vs => by
    show (wipe ((wipe σ vs).set v none) vs).set v none = (wipe σ vs).set v none
    rw [wipe_set, wipe_wipe, List.set_set]
/-- exceptions do not leave a comprehension -/
def nx {α : Type} (m : Xc α) : Xc α := match m with
  | .ok a => .ok a
  | _ => .no
/-- [f a for a in l if t a] -/
def compX {α β : Type} (t : α → Xc Bool) (f : α → Xc β) : List α → Xc (List β)
  | [] => .ok []
  | a :: l => (nx (t a)).bind fun b => if b = true then (nx (f a)).bind fun y => (compX t f l).bind fun ys => .ok (y :: ys) else compX t f l
/-- the world of a block's code: no exception leaves it -/
abbrev cB (c : C0) : C0 := { c with W := fun _ _ _ _ => False }
section
variable {X : Cx} {γ γb γw α β : Type} {G : EnvT γ} {Gw : EnvT γw} {Gb : EnvT γb} [Rp α] [Rp β] {tg iter elt : Expr} {ifs : List Expr} {pos : Pos} {vs : List Nat} {scope : Scope} {own : List (Str × Nat)} {c : C0}
/-- the target of a block -/
def FGB (X : Cx) (scope : Scope) (G : EnvT γ) (tg : Expr) (G' : EnvT γb) (vs : List Nat) (ψ : γ → α → γb) : Prop := ∃ t, (∀ (s : Shared) (H : Hp) (C : Addr) (cl : List (Str × Addr)) (fp : List Addr), PG (X.blk s H scope (compEnvC scope cl C X.env) fp) tg t) ∧
  ∀ H0 F H σ g v a (Q : St → Hp → Prop), Same F H → G.rel X.K H0 F H σ g → Rp.is X.K F v a → (∀ σ', wipe σ' vs = wipe σ vs → G'.rel X.K H0 F H σ' (ψ g a) → Q σ' H) → t v σ H Q
theorem tO_lc {ψ : γw → α → γb} {h : γ → γw} {fl : γ → Xc (List α)} {ft : γb → Xc Bool} {f : γb → Xc β} {g : TG} [W : Wip G vs Gw h]
    (hg : ∀ H0 F H σ g' v a (Q : St → Hp → Prop), Same F H → Gw.rel X.K H0 F H σ g' → Rp.is X.K F v a → (∀ σ', wipe σ' vs = wipe σ vs → Gb.rel X.K H0 F H σ' (ψ g' a) → Q σ' H) → g v σ H Q) {σ : St} {H : Hp} {Q : VK}
    (p : tO X.K c G (fun g => (fl g).bind fun l => compX (fun a => ft (ψ (h g) a)) (fun a => f (ψ (h g) a)) l) σ H Q) :
    tLc (fun σ H R => ∃ F g, Wd c.F0 c.H0 F H ∧ G.rel X.K c.H0 F H σ g ∧ PoI X.K F H R (WE c.W σ) (fl g)) g (tT X.K (cB c) Gb ft) (tF X.K (cB c) Gb f) vs σ H Q := by
  obtain ⟨F, gg, w, q, p⟩ := p
  refine ⟨F, gg, w, q, ?_⟩
  cases e1 : fl gg with
  | er c' fs => simp only [e1] at p; exact p
  | no => simp only [e1] at p; exact p
  | ok l =>
    simp only [e1] at p
    have p : PoO X.K F H Q (WE c.W σ) (compX (fun a => ft (ψ (h gg) a)) (fun a => f (ψ (h gg) a)) l) := p
    intro J F1 H1 w1 wk D hD
    refine ⟨fun i m H' => m = l.length - i ∧ i ≤ l.length ∧ ∃ F' acc ys, Wd F1 H1 F' H' ∧ F' D = none ∧ H' D = some (.lst acc) ∧ ys.length ≤ i ∧ Al X.K F' acc ys ∧
      (PoO X.K F H Q (WE c.W σ) ((compX (fun a => ft (ψ (h gg) a)) (fun a => f (ψ (h gg) a)) (l.drop i)).bind fun zs => .ok (ys ++ zs))), ⟨l.length, by simp, Nat.zero_le _, F1, [], [], Wd.newO w1.s hD, w1.s.free hD, upd_same, Nat.le_refl _, .nil, ?_⟩, ?_⟩
    · simpa [bind_pure] using p
    rintro i m H' ⟨rfl, hi', F', acc, ys, w2, fD, hD', hy, al, p'⟩
    have HD : H D = none := by
      cases z : H D with
      | none => rfl
      | some o => rw [w1.h _ _ z] at hD; cases hD
    by_cases hlt : i < l.length
    · refine .inr ⟨wk.go i F' H' hlt w2.f w2.s, fun H'' => ∃ F' acc ys, Wd F1 H1 F' H'' ∧ F' D = none ∧ H'' D = some (.lst acc) ∧ ys.length ≤ i + 1 ∧ Al X.K F' acc ys ∧
        (PoO X.K F H Q (WE c.W σ) ((compX (fun a => ft (ψ (h gg) a)) (fun a => f (ψ (h gg) a)) (l.drop (i + 1))).bind fun zs => .ok (ys ++ zs))), fun H'' z => ⟨l.length - (i + 1), by omega, rfl, hlt, z⟩, fun x H'' y => ?_⟩
      obtain ⟨F2, w3, r2⟩ := wk.yld i l[i] F' H' x H'' (List.getElem?_eq_getElem hlt) w2.f w2.s y
      have fD2 : F2 D = none := w3.own fD hD'
      have hD2 : H'' D = some (.lst acc) := w3.h _ _ hD'
      refine hg c.H0 F2 H'' (wipe σ vs) (h gg) x l[i] _ w3.s (W.wi (G.mono q ((w1.trans w2).trans w3))) r2 fun σ2 hw q2 => ⟨by rw [hw, wipe_wipe], ?_⟩
      rw [List.drop_eq_getElem_cons hlt] at p'
      have wt := ((w.trans w1).trans w2).trans w3
      refine ⟨F2, ψ (h gg) l[i], wt, q2, ?_⟩
      cases e2 : ft (ψ (h gg) l[i]) with
      | er c' fs => simp only [compX, e2] at p'; exact p'.elim
      | no => simp only [compX, e2] at p'; exact p'.elim
      | ok b =>
        simp only [compX, e2, nx, bind_ok] at p'
        intro F3 H3 w4
        have fD3 : F3 D = none := w4.own fD2 hD2
        have hD3 : H3 D = some (.lst acc) := w4.h _ _ hD2
        cases b with
        | false =>
          simp only [Bool.false_eq_true, if_false] at p' ⊢
          exact ⟨F3, acc, ys, (w2.trans w3).trans w4, fD3, hD3, by omega, (al.mono w3.f).mono w4.f, p'⟩
        | true =>
          simp only [if_true] at p' ⊢
          refine ⟨F3, ψ (h gg) l[i], wt.trans w4, Gb.mono q2 w4, ?_⟩
          cases e3 : f (ψ (h gg) l[i]) with
          | er c' fs => simp only [e3] at p'; exact p'.elim
          | no => simp only [e3] at p'; exact p'.elim
          | ok z =>
            simp only [e3] at p'
            intro v F4 H4 w5 r5
            have fD4 : F4 D = none := w5.own fD3 hD3
            have hD4 : H4 D = some (.lst acc) := w5.h _ _ hD3
            have wl := wk.len
            refine ⟨acc, hD4, by rw [al.len]; omega, F4, acc ++ [v], ys ++ [z], ((((w2.trans w3).trans w4).trans w5).mutd hD fD4), fD4, upd_same, by simp; omega, (((al.mono w3.f).mono w4.f).mono w5.f).snoc r5, ?_⟩
            revert p'
            generalize compX (fun a => ft (ψ (h gg) a)) (fun a => f (ψ (h gg) a)) (l.drop (i + 1)) = cm
            intro p'
            cases cm with
            | ok zs => simpa [bind_ok] using p'
            | er _ _ => exact p'
            | no => exact p'
    · have e : i = l.length := by omega
      subst e
      refine .inl ⟨wk.stop F' H' w2.f w2.s, ?_⟩
      rw [List.drop_length] at p'
      have p' : PoO X.K F H Q (WE c.W σ) (.ok (ys ++ [])) := p'
      rw [List.append_nil] at p'
      exact p' D acc F' H' (w1.trans w2) HD fD hD' (Nat.le_trans hy wk.len) al
/-- a clause's tests -/
def FTs (X : Cx) (scope : Scope) (c : C0) (G : EnvT γ) (ifs : List Expr) (f : γ → Xc Bool) : Prop := ∀ (s : Shared) (H : Hp) (C : Addr) (cl : List (Str × Addr)) (fp : List Addr), PTs (X.blk s H scope (compEnvC scope cl C X.env) fp) ifs (tT X.K c G f)
theorem fts_nil : FTs X scope c G [] (fun _ => Xc.ok true) := fun s H C cl fp => ⟨fun pins s σ H Q I ⟨F, g, w, q, h⟩ => pts_nil.run pins s σ H Q I (h F H (Wd.refl w.s))⟩
theorem fts_one {e : Expr} {f : γ → Xc Bool} (h : ∀ (s : Shared) (H : Hp) (C : Addr) (cl : List (Str × Addr)) (fp : List Addr), FT (X.blk s H scope (compEnvC scope cl C X.env) fp) c G e f) : FTs X scope c G [e] f := fun s H C cl fp => pts_one (h s H C cl fp)
theorem fo_lc {ψ : γw → α → γb} {h : γ → γw} {fl : γ → Xc (List α)} {ft : γb → Xc Bool} {f : γb → Xc β} [W : Wip G vs Gw h] (hvs : own.map (·.2) = vs) (ok : BlkOk X.N X.env.scope scope own) (hN : X.N.Nodup) (hi : FI X c G tg iter fl) (hg : FGB X scope Gw tg Gb vs ψ)
    (ht : FTs X scope (cB c) Gb ifs ft) (he : ∀ (s : Shared) (H : Hp) (C : Addr) (cl : List (Str × Addr)) (fp : List Addr), FE (X.blk s H scope (compEnvC scope cl C X.env) fp) (cB c) Gb elt f) (hc : X.calm = true := by rfl) (hs : ∀ x, foldedSetIterable iter X.env x = pure x := by intro _; rfl) :
    FO X c G (.ListComp elt [⟨tg, iter, ifs, 0⟩] scope pos) (fun g => (fl g).bind fun l => compX (fun a => ft (ψ (h g) a)) (fun a => f (ψ (h g) a)) l) := by
  subst hvs
  obtain ⟨t, pg, ht'⟩ := hg
  exact PE.imp (pe_lc (te := tF X.K (cB c) Gb f) hc hN hi ok pg ht he hs) fun σ H Q p => tO_lc (W := W) ht' p
theorem fn_setLc {c : C1} {γ' : Type} {G' : EnvT γ'} (k : Nat) {y : Str} {py spos : Pos} {ψ' : γ → List β → γ'} [P : PutO G k β G' ψ'] {ψ : γw → α → γb} {h : γ → γw} {fl : γ → Xc (List α)} {ft : γb → Xc Bool} {f : γb → Xc β} [W : Wip G vs Gw h] (hvs : own.map (·.2) = vs) (hM : c.M k = true) (ok : BlkOk X.N X.env.scope scope own) (hN : X.N.Nodup) (hi : FI X c.toC0 G tg iter fl) (hg : FGB X scope Gw tg Gb vs ψ)
    (ht : FTs X scope (cB c.toC0) Gb ifs ft) (he : ∀ (s : Shared) (H : Hp) (C : Addr) (cl : List (Str × Addr)) (fp : List Addr), FE (X.blk s H scope (compEnvC scope cl C X.env) fp) (cB c.toC0) Gb elt f) (hy : X.N[k]? = some y := by rfl) (hyl : X.env.scope.names.lookup y = some .local := by rfl)
    (hsw : swapsWith (.ListComp elt [⟨tg, iter, ifs, 0⟩] scope pos) (some (.Name y py)) spos.line X.env = pure true := by exact sw_true rfl rfl rfl rfl) (hc : X.calm = true := by rfl) (hs : ∀ x, foldedSetIterable iter X.env x = pure x := by intro _; rfl) :
    FN X c G (.Assign [.Name y py] (.ListComp elt [⟨tg, iter, ifs, 0⟩] scope pos) spos) G' (fun g => ((fl g).bind fun l => compX (fun a => ft (ψ (h g) a)) (fun a => f (ψ (h g) a)) l).bind fun v => Xc.ok (ψ' g v)) := by
  subst hvs
  obtain ⟨t, pg, ht'⟩ := hg
  exact fn_setOL k hM (fun σ H Q p => tO_lc (W := W) ht' p) (ps_setLc (te := tF X.K (cB c.toC0) Gb f) hc hN hy hyl hsw hi ok pg ht he hs)
theorem fgb_name (i : Nat) {x : Str} {p : Pos} {ψ : γ → α → γb} [P : Put G i α Gb ψ] (hN : X.N.Nodup) (hi : X.N[i]? = some x := by rfl) (hx : Loc scope x := by first | exact Or.inl rfl | exact Or.inr rfl)
    (hxe : ∀ C cl, Loc (compEnvC scope cl C X.env).scope x := by intro _ _; first | exact Or.inl rfl | exact Or.inr rfl)
    (hf : ∀ C cl, (scope.names.lookup x == some .cell) = true ∨ (compEnvC scope cl C X.env).scope.names.lookup x = some .local := by intro _ _; first | exact .inl rfl | exact .inr rfl) : FGB X scope G (.Name x p) Gb [i] ψ :=
  ⟨gName i, fun s H C cl fp => pg_name hN hi (hxe C cl) (hf C cl), fun H0 F H σ g v a Q s q r k => k _ (by unfold wipe wipe; rw [List.set_set]) (P.put q r)⟩
end
end FL

/-! FL12: more of expressions and statements. -/
namespace FL
open PySem L2
/-! ### conversions -/
section
variable {X : Cx} {c : C0} {γ α β ρ : Type} {G : EnvT γ} [Rp α] [Rp β] [Rp ρ] {a b d e : Expr} {pos p : Pos}
theorem fe_to {φ : α → β} {fa : γ → Xc α} (hφ : ∀ {K F v a}, Rp.is K F v a → Rp.is K F v (φ a)) (ha : FE X c G e fa) : FE X c G e (fun g => (fa g).bind fun a => Xc.ok (φ a)) :=
  PE.imp ha fun σ H Q ⟨F, g, w, q, h⟩ => by
    refine ⟨F, g, w, q, ?_⟩
    cases e1 : fa g with
    | ok i => simp only [e1] at h; exact fun v F1 H1 w1 r1 => h v F1 H1 w1 (hφ r1)
    | er c' fs => simp only [e1] at h; exact h
    | no => simp only [e1] at h; exact h
theorem fe_from {φ : α → Xc β} {fa : γ → Xc α} (hφ : ∀ {K F v a b}, φ a = .ok b → Rp.is K F v a → Rp.is K F v b) (hn : ∀ a c fs, φ a ≠ .er c fs) (ha : FE X c G e fa) : FE X c G e (fun g => (fa g).bind φ) :=
  PE.imp ha fun σ H Q ⟨F, g, w, q, h⟩ => by
    refine ⟨F, g, w, q, ?_⟩
    cases e1 : fa g with
    | ok i =>
      simp only [e1] at h
      cases e2 : φ i with
      | ok b => intro v F1 H1 w1 r1; simp only [bind_ok, e2] at h; exact h v F1 H1 w1 (hφ e2 r1)
      | er c' fs => exact absurd e2 (hn _ _ _)
      | no => simp only [bind_ok, e2] at h; exact h.elim
    | er c' fs => simp only [e1] at h; exact h
    | no => simp only [e1] at h; exact h
end
class ToD (α : Type) [Rp α] where
  d : α → PyData
  is : ∀ {K F v} {a : α}, Rp.is K F v a → Dp K F v (d a)
instance : ToD Int := ⟨.int, fun h => by have h : _ = V.int _ := h; subst h; exact .int _⟩
instance : ToD Bool := ⟨.bool, fun h => by have h : _ = V.bl _ := h; subst h; exact .bl _⟩
instance : ToD Str := ⟨.str, fun h => by have h : _ = V.str _ := h.1; subst h; exact .str _⟩
instance : ToD Unit := ⟨fun _ => .none, fun h => by have h : _ = V.non := h; subst h; exact .non⟩
instance : ToD PyData := ⟨id, fun h => h.1⟩
theorem al_dp {α : Type} [Rp α] [ToD α] {K : PySem.W.Frag} {F : Hp} {vs : List V} {as : List α} (h : Al K F vs as) : DpAll K F vs (as.map ToD.d) := by
  induction h with
  | nil => exact .nil
  | cons h _ ih => exact .cons (ToD.is h) ih
instance {α : Type} [Rp α] [ToD α] : ToD (Option α) := ⟨fun a => match a with
  | none => .none
  | some a => ToD.d a, fun {K F v a} h => by
    cases a with
    | none => have h : _ = V.non := h; subst h; exact .non
    | some a => exact ToD.is h.2⟩
instance {α : Type} [Rp α] [ToD α] : ToD (List α) := ⟨fun l => .list (l.map ToD.d), fun ⟨p, xs, e, h, z, r⟩ => by subst e; exact .lst h (al_dp r)⟩
instance {α : Type} [Rp α] [ToD α] : ToD (Tu α) := ⟨fun l => .tuple (l.l.map ToD.d), fun ⟨p, xs, e, h, z, r⟩ => by subst e; exact .tup h (al_dp r)⟩
instance {α β : Type} [Rp α] [Rp β] [ToD α] [ToD β] : ToD (α × β) := ⟨fun t => .tuple [ToD.d t.1, ToD.d t.2], fun ⟨p, x, y, e, h, r1, r2⟩ => by subst e; exact .tup h (.cons (ToD.is r1) (.cons (ToD.is r2) .nil))⟩
instance {α β γ : Type} [Rp α] [Rp β] [Rp γ] [ToD α] [ToD β] [ToD γ] : ToD (T3 α β γ) := ⟨fun t => .tuple [ToD.d t.a, ToD.d t.b, ToD.d t.c], fun ⟨p, x, y, z, e, h, r1, r2, r3⟩ => by subst e; exact .tup h (.cons (ToD.is r1) (.cons (ToD.is r2) (.cons (ToD.is r3) .nil)))⟩
instance {α β γ δ : Type} [Rp α] [Rp β] [Rp γ] [Rp δ] [ToD α] [ToD β] [ToD γ] [ToD δ] : ToD (T4 α β γ δ) := ⟨fun t => .tuple [ToD.d t.a, ToD.d t.b, ToD.d t.c, ToD.d t.d], fun ⟨p, x, y, z, u, e, h, r1, r2, r3, r4⟩ => by subst e; exact .tup h (.cons (ToD.is r1) (.cons (ToD.is r2) (.cons (ToD.is r3) (.cons (ToD.is r4) .nil))))⟩
/-- as data -/
@[irreducible] def datX {α : Type} [Rp α] [ToD α] (a : α) : Xc PyData := if SeqAt.shaped (ToD.d a) = true then .ok (ToD.d a) else .no
/-- data as an int, as a tuple -/
@[irreducible] def asI (d : PyData) : Xc Int := match d with
  | .int i => .ok i
  | _ => .no
@[irreducible] def asT (d : PyData) : Xc (Tu PyData) := match d with
  | .tuple l => if l.length ≤ sizeLine ∧ l.all SeqAt.shaped = true then .ok (tu l) else .no
  | _ => .no
theorem dp_al {K : PySem.W.Frag} {F : Hp} : ∀ {ds : List PyData} {vs : List V}, DpAll K F vs ds → ds.all SeqAt.shaped = true → Al K F vs ds
  | [], vs, h, _ => by cases h; exact .nil
  | d :: ds, vs, h, s => by
    cases h with
    | cons h1 h2 =>
      simp only [List.all_cons, Bool.and_eq_true] at s
      exact .cons ⟨h1, s.1⟩ (dp_al h2 s.2)
section
variable {X : Cx} {c : C0} {γ α β ρ : Type} {G : EnvT γ} [Rp α] [Rp β] [Rp ρ] {a b d e : Expr} {pos p p2 : Pos}
theorem fe_dat [ToD α] {fa : γ → Xc α} (ha : FE X c G e fa) : FE X c G e (fun g => (fa g).bind datX) :=
  fe_from (fun {K F v a b} h r => by
    unfold datX at h
    by_cases z : SeqAt.shaped (ToD.d a) = true
    · rw [if_pos z] at h; cases h; exact ⟨ToD.is r, z⟩
    · rw [if_neg z] at h; cases h) (fun a c fs h => by
    unfold datX at h
    by_cases z : SeqAt.shaped (ToD.d a) = true
    · rw [if_pos z] at h; cases h
    · rw [if_neg z] at h; cases h) ha
theorem fe_asI {fa : γ → Xc PyData} (ha : FE X c G e fa) : FE X c G e (fun g => (fa g).bind asI) :=
  fe_from (fun {K F v a b} h r => by
    unfold asI at h
    split at h
    · cases h; obtain ⟨r, _⟩ := r; cases r; exact rfl
    · cases h) (fun a c fs h => by
    unfold asI at h
    split at h <;> cases h) ha
theorem fe_asT {fa : γ → Xc PyData} (ha : FE X c G e fa) : FE X c G e (fun g => (fa g).bind asT) :=
  fe_from (fun {K F v a b} h r => by
    unfold asT at h
    split at h
    · rename_i l
      by_cases z : l.length ≤ sizeLine ∧ l.all SeqAt.shaped = true
      · rw [if_pos z] at h
        cases h
        obtain ⟨r, _⟩ := r
        cases r with
        | tup hq hr => exact ⟨_, _, rfl, hq, z.1, dp_al hr z.2⟩
      · rw [if_neg z] at h; cases h
    · cases h) (fun a c fs h => by
    unfold asT at h
    split at h
    · split at h <;> cases h
    · cases h) ha
/-! == of data -/
@[irreducible] def eqdX {α β : Type} [Rp α] [Rp β] [ToD α] [ToD β] (a : α) (b : β) : Xc Bool := if SeqAt.shaped (ToD.d a) = true ∧ SeqAt.shaped (ToD.d b) = true then .ok (PyData.eqv (ToD.d a) (ToD.d b)) else .no
theorem dp_on {K : PySem.W.Frag} {F H : Hp} {v : V} {d : PyData} (s : Same F H) (h : Dp K F v d) : Dp K H v d := dp_mono s h
theorem fe_eqd [ToD α] [ToD β] {fa : γ → Xc α} {fb : γ → Xc β} {k : Nat} (hr : Room k X.A) (ha : FE X c G a fa) (hb : FE X c G b fb) : FE X c G (.Compare a [.Eq] [b] pos) (fun g => (fa g).bind fun i => (fb g).bind fun j => eqdX i j) :=
  two (fun h1 h2 => pe_cmpR (op_eqD hr.units) h1 h2 (nomark _)) ha hb fun {F H x y i j Q E} s r1 r2 p => by
    unfold eqdX at p
    by_cases z : SeqAt.shaped (ToD.d i) = true ∧ SeqAt.shaped (ToD.d j) = true
    · rw [if_pos z] at p; exact ⟨_, _, dp_mono s (ToD.is r1), dp_mono s (ToD.is r2), z.1, z.2, p.ret s rfl⟩
    · rw [if_neg z] at p; exact p.elim
theorem fe_ned [ToD α] [ToD β] {fa : γ → Xc α} {fb : γ → Xc β} {k : Nat} (hr : Room k X.A) (ha : FE X c G a fa) (hb : FE X c G b fb) : FE X c G (.Compare a [.NotEq] [b] pos) (fun g => (fa g).bind fun i => (fb g).bind fun j => (eqdX i j).bind fun t => Xc.ok (!t)) :=
  two (fun h1 h2 => pe_cmpR (op_neD hr.units) h1 h2 (nomark _)) ha hb fun {F H x y i j Q E} s r1 r2 p => by
    unfold eqdX at p
    by_cases z : SeqAt.shaped (ToD.d i) = true ∧ SeqAt.shaped (ToD.d j) = true
    · rw [if_pos z] at p; exact ⟨_, _, dp_mono s (ToD.is r1), dp_mono s (ToD.is r2), z.1, z.2, p.ret s rfl⟩
    · rw [if_neg z] at p; exact p.elim
theorem ft_eqd [ToD α] [ToD β] {fa : γ → Xc α} {fb : γ → Xc β} {k : Nat} (hr : Room k X.A) (ha : FE X c G a fa) (hb : FE X c G b fb) : FT X c G (.Compare a [.Eq] [b] pos) (fun g => (fa g).bind fun i => (fb g).bind fun j => eqdX i j) :=
  twoT (fun h1 h2 => pt_cmpR (op_eqD hr.units) h1 h2 (nomark _)) ha hb fun {F H x y i j Q E} s r1 r2 p => by
    unfold eqdX at p
    by_cases z : SeqAt.shaped (ToD.d i) = true ∧ SeqAt.shaped (ToD.d j) = true
    · rw [if_pos z] at p; exact ⟨_, _, dp_mono s (ToD.is r1), dp_mono s (ToD.is r2), z.1, z.2, _, rfl, p.ret s⟩
    · rw [if_neg z] at p; exact p.elim
theorem ft_ned [ToD α] [ToD β] {fa : γ → Xc α} {fb : γ → Xc β} {k : Nat} (hr : Room k X.A) (ha : FE X c G a fa) (hb : FE X c G b fb) : FT X c G (.Compare a [.NotEq] [b] pos) (fun g => (fa g).bind fun i => (fb g).bind fun j => (eqdX i j).bind fun t => Xc.ok (!t)) :=
  twoT (fun h1 h2 => pt_cmpR (op_neD hr.units) h1 h2 (nomark _)) ha hb fun {F H x y i j Q E} s r1 r2 p => by
    unfold eqdX at p
    by_cases z : SeqAt.shaped (ToD.d i) = true ∧ SeqAt.shaped (ToD.d j) = true
    · rw [if_pos z] at p; exact ⟨_, _, dp_mono s (ToD.is r1), dp_mono s (ToD.is r2), z.1, z.2, _, rfl, p.ret s⟩
    · rw [if_neg z] at p; exact p.elim
/-! lengths, places -/
instance {α β : Type} [Rp α] [Rp β] : HasLen (α × β) := ⟨fun _ => 2, fun {K F H v a} s h => by obtain ⟨q, x, y, e, hq, _⟩ := h; subst e; exact .inr ⟨_, Same.seqT s hq, rfl⟩⟩
instance {α β γ : Type} [Rp α] [Rp β] [Rp γ] : HasLen (T3 α β γ) := ⟨fun _ => 3, fun {K F H v a} s h => by obtain ⟨q, x, y, z, e, hq, _⟩ := h; subst e; exact .inr ⟨_, Same.seqT s hq, rfl⟩⟩
theorem fe_ixP {fa : γ → Xc (α × α)} {fi : γ → Xc Int} (ha : FE X c G a fa) (hb : FE X c G b fi) (hs : PlainIx b := by exact fun _ _ => rfl) : FE X c G (.Subscript a b pos) (fun g => (fa g).bind fun t => (fi g).bind fun i => getX [t.1, t.2] i) :=
  two (fun h1 h2 => pe_ix ix_tup h1 h2 hs) ha hb fun {F H v u t i Q E} s r1 r2 h => by
    obtain ⟨q, x, y, e, hq, ra, rb⟩ := r1
    have r2 : u = .int i := r2
    subst r2
    unfold getX at h
    cases e2 : atI [t.1, t.2] i with
    | none => rw [e2] at h; exact h.elim
    | some z =>
      rw [e2] at h
      obtain ⟨w', hw, rw'⟩ := atI_al (.cons ra (.cons rb .nil)) e2
      exact ⟨q, _, i, w', e, rfl, Same.seqT s hq, hw, h.ret s rw'⟩
/-! list(..), text times int -/
theorem fo_list {fa : γ → Xc (List α)} (ha : FE X c G a fa) (hm : X.mg "list" = none) (hg : Gl X "list" := by rfl) (hs : starEach [a] X.env = (false, eval a X.env) :: starEach [] X.env := by rfl) :
    FO X c G (.Call (.Name "list" p) [a] [] pos) (fun g => (fa g).bind fun l => Xc.ok l) :=
  PE.imp (pe_callTy call_list_of hg hm (by decide +kernel) (pa_cons ha pa_nil hs) (he := hs)) fun σ H Q ⟨F, g, w, q, h⟩ => by
    refine ⟨F, g, w, q, ?_⟩
    cases e1 : fa g with
    | ok l =>
      simp only [e1] at h
      rintro v F1 H1 w1 ⟨b, xs, rfl, hx, hz, r⟩
      exact ⟨b, xs, rfl, .inl (Same.seq w1.s hx), fun l' hl => h l' xs F1 _ (w1.trans (Wd.newO w1.s hl)) (w1.h.free hl) (w1.s.free hl) upd_same hz r⟩
    | er c' fs => simp only [e1] at h; exact h
    | no => simp only [e1] at h; exact h
theorem fo_listT {fa : γ → Xc (Tu α)} (ha : FE X c G a fa) (hm : X.mg "list" = none) (hg : Gl X "list" := by rfl) (hs : starEach [a] X.env = (false, eval a X.env) :: starEach [] X.env := by rfl) :
    FO X c G (.Call (.Name "list" p) [a] [] pos) (fun g => (fa g).bind fun l => Xc.ok l.l) :=
  PE.imp (pe_callTy call_list_of hg hm (by decide +kernel) (pa_cons ha pa_nil hs) (he := hs)) fun σ H Q ⟨F, g, w, q, h⟩ => by
    refine ⟨F, g, w, q, ?_⟩
    cases e1 : fa g with
    | ok l =>
      simp only [e1] at h
      rintro v F1 H1 w1 ⟨b, xs, rfl, hx, hz, r⟩
      exact ⟨b, xs, rfl, .inr (Same.seqT w1.s hx), fun l' hl => h l' xs F1 _ (w1.trans (Wd.newO w1.s hl)) (w1.h.free hl) (w1.s.free hl) upd_same hz r⟩
    | er c' fs => simp only [e1] at h; exact h
    | no => simp only [e1] at h; exact h
instance (x : Str) (n : Int) : Decidable (MulOk x n) := by unfold MulOk; infer_instance
@[irreducible] def mulS (x : Str) (n : Int) : Xc Str := if MulOk x n ∧ (Txt.mul x n).length ≤ sizeLine then .ok (Txt.mul x n) else .no
theorem op_mulS : OpR X (binaryOp .Mult) (fun x y H Q => ∃ z n, x = .str z ∧ y = .int n ∧ MulOk z n ∧ Q (.str (Txt.mul z n)) H) := by
  intro pins s σ H x y v u Q I rx ry h
  obtain ⟨i, j, rfl, rfl, hz, q⟩ := h
  obtain ⟨t, rfl⟩ := rx
  obtain ⟨t', rfl⟩ := ry
  exact PySem.SB.mul hz fun t' k => ⟨.str _, H, I.tok _, ⟨_, rfl⟩, q⟩
theorem fe_mulS {fa : γ → Xc Str} {fb : γ → Xc Int} (ha : FE X c G a fa) (hb : FE X c G b fb) : FE X c G (.BinOp a .Mult b pos) (fun g => (fa g).bind fun i => (fb g).bind fun j => mulS i j) :=
  two (fun h1 h2 => pe_op op_mulS h1 h2) ha hb fun {F H x y i j Q E} s r1 r2 p => by
    unfold mulS at p
    by_cases h : MulOk i j ∧ (Txt.mul i j).length ≤ sizeLine
    · rw [if_pos h] at p; exact ⟨_, _, r1.1, r2, h.1, p.ret s ⟨rfl, h.2⟩⟩
    · rw [if_neg h] at p; exact p.elim
/-! a <= b <= c -/
theorem fe_chainLe {f1 f2 f3 : γ → Xc Int} (ha : FE X c G a f1) (hb : FE X c G b f2) (hd : FE X c G d f3) (hm : lastMarks [.LtE, .LtE] [b, d] = false := by with_unfolding_all rfl) :
    FE X c G (.Compare a [.LtE, .LtE] [b, d] pos) (fun g => (f1 g).bind fun i => (f2 g).bind fun j => if i ≤ j then (f3 g).bind fun k => Xc.ok (decide (j ≤ k)) else Xc.ok false) :=
  PE.imp (pe_chain op_le op_le ha hb hd hm) fun σ H Q ⟨F, g, w, q, p⟩ => by
    refine ⟨F, g, w, q, ?_⟩
    cases e1 : f1 g with
    | ok i =>
      intro v F1 H1 w1 r1
      simp only [e1] at p
      have p : Po X.K F H Q (WE c.W σ) ((f2 g).bind fun j => if i ≤ j then (f3 g).bind fun k => Xc.ok (decide (j ≤ k)) else Xc.ok false) := p
      refine ⟨F1, g, w.trans w1, G.mono q w1, ?_⟩
      cases e2 : f2 g with
      | ok j =>
        intro u F2 H2 w2 r2
        simp only [e2] at p
        have p : Po X.K F H Q (WE c.W σ) (if i ≤ j then (f3 g).bind fun k => Xc.ok (decide (j ≤ k)) else Xc.ok false) := p
        refine ⟨i, j, r1, r2, decide (i ≤ j), rfl, ?_⟩
        by_cases hij : i ≤ j
        · rw [if_pos hij] at p
          rw [if_pos (decide_eq_true hij)]
          refine ⟨F2, g, (w.trans w1).trans w2, G.mono (G.mono q w1) w2, ?_⟩
          cases e3 : f3 g with
          | ok k =>
            intro z F3 H3 w3 r3
            simp only [e3] at p
            exact ⟨j, k, r2, r3, (Po.on p ((w1.trans w2).trans w3)).ret w3.s rfl⟩
          | er c' fs => simp only [e3] at p; exact ErP.on (show ErP X.K F H (WE c.W σ) c' fs from p) (w1.trans w2)
          | no => simp only [e3] at p; exact p
        · rw [if_neg hij] at p
          rw [if_neg (by simpa using hij)]
          exact (Po.on p (w1.trans w2)).ret w2.s rfl
      | er c' fs => simp only [e2] at p; exact ErP.on (show ErP X.K F H (WE c.W σ) c' fs from p) w1
      | no => simp only [e2] at p; exact p
    | er c' fs => simp only [e1] at p; exact p
    | no => simp only [e1] at p; exact p
theorem ft_chainLe {f1 f2 f3 : γ → Xc Int} (ha : FE X c G a f1) (hb : FE X c G b f2) (hd : FE X c G d f3) (hm : lastMarks [.LtE, .LtE] [b, d] = false := by with_unfolding_all rfl) :
    FT X c G (.Compare a [.LtE, .LtE] [b, d] pos) (fun g => (f1 g).bind fun i => (f2 g).bind fun j => if i ≤ j then (f3 g).bind fun k => Xc.ok (decide (j ≤ k)) else Xc.ok false) :=
  PT.imp (pt_chain op_le op_le ha hb hd hm) fun σ H Q ⟨F, g, w, q, p⟩ => by
    refine ⟨F, g, w, q, ?_⟩
    cases e1 : f1 g with
    | ok i =>
      intro v F1 H1 w1 r1
      simp only [e1] at p
      have p : PoB X.K F H Q (WE c.W σ) ((f2 g).bind fun j => if i ≤ j then (f3 g).bind fun k => Xc.ok (decide (j ≤ k)) else Xc.ok false) := p
      refine ⟨F1, g, w.trans w1, G.mono q w1, ?_⟩
      cases e2 : f2 g with
      | ok j =>
        intro u F2 H2 w2 r2
        simp only [e2] at p
        have p : PoB X.K F H Q (WE c.W σ) (if i ≤ j then (f3 g).bind fun k => Xc.ok (decide (j ≤ k)) else Xc.ok false) := p
        refine ⟨i, j, r1, r2, decide (i ≤ j), rfl, ?_⟩
        by_cases hij : i ≤ j
        · rw [if_pos hij] at p
          rw [if_pos (decide_eq_true hij)]
          refine ⟨F2, g, (w.trans w1).trans w2, G.mono (G.mono q w1) w2, ?_⟩
          cases e3 : f3 g with
          | ok k =>
            intro z F3 H3 w3 r3
            simp only [e3] at p
            exact ⟨j, k, r2, r3, _, rfl, (PoB.on p ((w1.trans w2).trans w3)).ret w3.s⟩
          | er c' fs => simp only [e3] at p; exact ErP.on (show ErP X.K F H (WE c.W σ) c' fs from p) (w1.trans w2)
          | no => simp only [e3] at p; exact p
        · rw [if_neg hij] at p
          rw [if_neg (by simpa using hij)]
          exact ⟨_, rfl, (PoB.on p (w1.trans w2)).ret w2.s⟩
      | er c' fs => simp only [e2] at p; exact ErP.on (show ErP X.K F H (WE c.W σ) c' fs from p) w1
      | no => simp only [e2] at p; exact p
    | er c' fs => simp only [e1] at p; exact p
    | no => simp only [e1] at p; exact p
end
/-! ### the signs of a text -/
section
variable {X : Cx} {c : C0} {γ α β ρ : Type} {G : EnvT γ} [Rp α] [Rp β] [Rp ρ] {a b d e tg : Expr} {pos p : Pos}
theorem fi_str {f : γ → Xc Str} (h : FE X c G e f) : FI X c G tg e (fun g => (f g).bind fun z => Xc.ok (signs z)) :=
  PI.imp (pi_str h) fun σ H R ⟨F, g, w, q, p⟩ => by
    refine ⟨F, g, w, q, ?_⟩
    cases e1 : f g with
    | ok z =>
      rintro v F1 H1 w1 ⟨rfl, hz⟩
      simp only [e1] at p
      have len : (signs z).length = z.cps.size := by simp [signs]
      refine ⟨z, rfl, p (Its z) F1 H1 w1 ⟨by rw [len]; exact hz, fun F' H' s1 s2 => by rw [len]; exact Nat.le_refl _, fun i F' H' hi s1 s2 => by rw [len] at hi; exact hi, fun i a F' H' x H'' e2 s1 s2 y => ?_⟩⟩
      obtain ⟨rfl, c, hc, rfl⟩ := y
      have : a = (⟨#[c]⟩ : Str) := by
        unfold signs at e2
        rw [List.getElem?_map] at e2
        rw [show z.cps.toList[i]? = some c by simpa using hc] at e2
        exact (Option.some.inj e2).symm
      subst this
      exact ⟨F', Wd.refl s2, rfl, one_le_line⟩
    | er c' fs => simp only [e1] at p; exact p
    | no => simp only [e1] at p; exact p
end
/-! ### returns of a list of one's own; dead code; lending for good -/
section
variable {X : Cx} {τ ρ β γ γ' γ1 γ2 δ α : Type} {c : C2 τ ρ β} {G : EnvT γ} {G' : EnvT γ'} {G1 : EnvT γ1} {G2 : EnvT γ2} {a b e : Expr} {st : Stmt} {sts : List Stmt} {pos p p2 : Pos} {x : Str}
theorem fs_retVG (i : Nat) {r : Rp α} {π : γ → List α} {put : γ → List α → γ} [A : AtO G i α r π put] {c : C2 τ (List α) β} {rt : List α → τ} (hO : c.O.ret = rt) (hR : c.R = rtO α) (hN : X.N[i]? = some x)
    (hv : Vis X.env.scope x) (hd : (x == ("__debug__" : Str)) = false) (hcd : (x == ("__classdict__" : Str)) = false) : FS X c G (.Return (some (.Name x p)) pos) G' (fun g _ => Xc.ok (rt (π g))) :=
  PS.imp (ps_ret (pe_var hN hv hd hcd)) fun D σ H ⟨F, g, k, w, q, d, n⟩ => by
    obtain ⟨p, xs, e1, m, hp, z, al⟩ := A.get q
    obtain ⟨h0, hf, _⟩ := G.al q m
    subst hO
    exact ⟨.ref p, e1, c.O.hret d _ F H (Ws.refl w) (by rw [hR]; exact ⟨p, xs, rfl, h0, hf, hp, z, al⟩)⟩
theorem fs_retV (i : Nat) {r : Rp α} {π : γ → List α} {put : γ → List α → γ} [A : AtO G i α r π put] {c : C2 (List α) (List α) Unit} (hO : c.O.ret = id := by rfl) (hR : c.R = rtO α := by rfl) (hN : X.N[i]? = some x := by rfl)
    (hv : Vis X.env.scope x := by first | exact Or.inl rfl | exact Or.inr (Or.inl rfl) | exact Or.inr (Or.inr rfl)) (hd : (x == ("__debug__" : Str)) = false := by decide) (hcd : (x == ("__classdict__" : Str)) = false := by decide) :
    FS X c G (.Return (some (.Name x p)) pos) G' (fun g _ => Xc.ok (π g)) := fs_retVG i hO hR hN hv hd hcd
theorem fss_dead : FSs X c G sts G' (fun _ _ => Xc.no) := ⟨fun pins s σ H D I ⟨F, g, k, w, q, d, n⟩ => d.elim⟩
theorem fss_lend {f : δ → (γ' → Xc τ) → Xc τ} {h : γ → δ} {Gl : EnvT δ} [B : Bor G Gl h] (hs : FSs X c Gl sts G' f) : FSs X c G sts G' (fun g k => f (h g) k) :=
  PSs.imp hs fun D σ H ⟨F, g, k, w, q, d, n⟩ => by
    obtain ⟨F1, w1, q1, _, s1⟩ := lend (B := B) w q
    exact ⟨F1, h g, k, w1, q1, d.on s1 Ag.refl, fun g' σ' F' H' w2 a2 q2 d2 => n g' σ' F' H' ⟨s1.trans w2.f, w2.w⟩ a2 q2 d2⟩
end
end FL

/-! FL13: try .. except; isinstance of what was caught; targets of three. -/
namespace FL
open PySem L2
/-! ### slots of which nothing is known any more -/
def setAll (σ : St) (f : Nat → Option V) : List Nat → St
  | [] => σ
  | v :: vs => (setAll σ f vs).set v (f v)
class Fgt {γ : Type} (G : EnvT γ) (vs : List Nat) {δ : outParam Type} (G' : outParam (EnvT δ)) (h : outParam (γ → δ)) : Prop where
  fg : ∀ {K H0 F H σ g} (f : Nat → Option V), G.rel K H0 F H σ g → G'.rel K H0 F H (setAll σ f vs) (h g)
instance {γ : Type} (G : EnvT γ) : Fgt G [] G (fun g => g) := ⟨fun _ h => h⟩
instance {γ δ ε : Type} (G : EnvT γ) (G1 : EnvT δ) (G2 : EnvT ε) (i : Nat) (vs : List Nat) (h1 : γ → δ) (h2 : δ → ε) [W : Fgt G vs G1 h1] [W1 : Wi1 G1 i G2 h2] : Fgt G (i :: vs) G2 (fun g => h2 (h1 g)) := ⟨fun f q => W1.wi (f i) (W.fg f q)⟩
theorem setAll_len {σ : St} {f : Nat → Option V} : ∀ {vs : List Nat}, (setAll σ f vs).length = σ.length
  | [] => rfl
  | v :: vs => by show ((setAll σ f vs).set v (f v)).length = _; rw [List.length_set, setAll_len]
theorem setAll_get {σ : St} {f : Nat → Option V} {j : Nat} : ∀ {vs : List Nat}, j < σ.length → (setAll σ f vs)[j]? = if j ∈ vs then some (f j) else σ[j]?
  | [], _ => by simp [setAll]
  | v :: vs, h => by
    show ((setAll σ f vs).set v (f v))[j]? = _
    by_cases e : v = j
    · subst e
      rw [List.getElem?_set_self (by rw [setAll_len]; exact h)]
      simp
    · rw [List.getElem?_set_ne e, setAll_get h]
      by_cases m : j ∈ vs
      · rw [if_pos m, if_pos (List.mem_cons_of_mem _ m)]
      · rw [if_neg m, if_neg (by simp only [List.mem_cons, not_or]; exact ⟨fun z => e z.symm, m⟩)]
def mOf (vs : List Nat) : Nat → Bool := fun i => decide (i ∈ vs)
theorem ag_setAll {vs : List Nat} {σ σ' : St} (a : Ag (mOf vs) σ σ') : σ' = setAll σ (fun j => σ'[j]?.join) vs := by
  apply List.ext_getElem?
  intro j
  by_cases hj : j < σ.length
  · rw [setAll_get hj]
    by_cases m : j ∈ vs
    · rw [if_pos m]
      have h' : j < σ'.length := by rw [a.len]; exact hj
      rw [List.getElem?_eq_getElem h']
      rfl
    · rw [if_neg m]
      exact a.at_ j (by unfold mOf; simp [m])
  · rw [List.getElem?_eq_none (by rw [a.len]; omega), List.getElem?_eq_none (by rw [setAll_len]; omega)]
/-- a slot with just this value -/
def xv (v : V) {γ : Type} (G : EnvT γ) : EnvT γ where
  rel := fun K H0 F H σ g => ∃ σ', σ = some v :: σ' ∧ G.rel K H0 F H σ' g
  own := fun σ => G.own σ.tail
  mono := fun ⟨σ', e, h⟩ w => ⟨σ', e, G.mono h w⟩
  mu := fun ⟨σ', e, h⟩ n => ⟨σ', e, G.mu h (by subst e; exact n)⟩
  al := fun ⟨σ', e, h⟩ n => G.al h (by subst e; exact n)
class PutX {γ : Type} (G : EnvT γ) (i : Nat) (v : V) {δ : outParam Type} (G' : outParam (EnvT δ)) (h : outParam (γ → δ)) : Prop where
  put : ∀ {K H0 F H σ g}, G.rel K H0 F H σ g → G'.rel K H0 F H (σ.set i (some v)) (h g)
  own : ∀ {K H0 F H σ g p}, G.rel K H0 F H σ g → p ∈ G'.own (σ.set i (some v)) → p ∈ G.own σ
section
variable {α β γ δ : Type} [Rp α] [Rp β] (G : EnvT γ) (G' : EnvT δ) (h : γ → δ) (i : Nat) (v : V)
instance : PutX (un G) 0 v (xv v G) (fun g => g) := ⟨fun ⟨u, σ', e, q⟩ => ⟨σ', by subst e; rfl, q⟩, fun ⟨u, σ', e, q⟩ m => by subst e; exact m⟩
instance : PutX (va α G) 0 v (xv v G) (fun g => g.2) := ⟨fun ⟨u, σ', e, _, q⟩ => ⟨σ', by subst e; rfl, q⟩, fun ⟨u, σ', e, _, q⟩ m => by subst e; exact m⟩
instance [W : PutX G i v G' h] : PutX (va α G) (i + 1) v (va α G') (fun g => (g.1, h g.2)) := ⟨fun ⟨u, σ', e, r, q⟩ => ⟨u, σ'.set i _, by subst e; rfl, r, W.put q⟩, fun ⟨u, σ', e, r, q⟩ m => by subst e; exact W.own q m⟩
instance [W : PutX G i v G' h] : PutX (un G) (i + 1) v (un G') (fun g => h g) := ⟨fun ⟨u, σ', e, q⟩ => ⟨u, σ'.set i _, by subst e; rfl, W.put q⟩, fun ⟨u, σ', e, q⟩ m => by subst e; exact W.own q m⟩
instance [W : PutX G i v G' h] : PutX (ow α G) (i + 1) v (ow α G') (fun g => (g.1, h g.2)) := ⟨fun ⟨p, σ', xs, e, h0, f, hh, z, r, n, q⟩ => ⟨p, σ'.set i _, xs, by subst e; rfl, h0, f, hh, z, r, fun m => n (W.own q m), W.put q⟩, fun ⟨p, σ', xs, e, _, _, _, _, _, _, q⟩ m => by
  subst e
  rcases List.mem_append.mp m with m | m
  · exact List.mem_append_left _ m
  · exact List.mem_append_right _ (W.own q m)⟩
end
class AtX {γ : Type} (G : EnvT γ) (i : Nat) (v : outParam V) : Prop where
  get : ∀ {K H0 F H σ g}, G.rel K H0 F H σ g → σ[i]? = some (some v)
section
variable {α γ : Type} [Rp α] (G : EnvT γ) (i : Nat) (v u : V)
instance : AtX (xv v G) 0 v := ⟨fun ⟨σ', e, q⟩ => by subst e; rfl⟩
instance [A : AtX G i v] : AtX (va α G) (i + 1) v := ⟨fun ⟨_, σ', e, _, q⟩ => by subst e; exact A.get q⟩
instance [A : AtX G i v] : AtX (un G) (i + 1) v := ⟨fun ⟨_, σ', e, q⟩ => by subst e; exact A.get q⟩
instance [A : AtX G i v] : AtX (xv u G) (i + 1) v := ⟨fun ⟨σ', e, q⟩ => by subst e; exact A.get q⟩
instance [A : AtX G i v] : AtX (ow α G) (i + 1) v := ⟨fun ⟨p, σ', xs, e, _, _, _, _, _, _, q⟩ => by subst e; exact A.get q⟩
end
instance {α γ : Type} [r : Rp α] (G : EnvT γ) (i : Nat) (π : γ → α) (v : V) [a : At G i α r π] : At (xv v G) (i + 1) α r (fun g => π g) := ⟨fun ⟨σ', e, q⟩ => by
  obtain ⟨u, e2, q2⟩ := a.get q
  exact ⟨u, by subst e; exact e2, q2⟩⟩
instance subXvUn {γ γ' : Type} (G : EnvT γ) (G' : EnvT γ') (h : γ → γ') (v : V) [S : Sub G G' h] : Sub (xv v G) (un G') (fun g => h g) := ⟨fun ⟨σ', e, q⟩ => ⟨_, σ', e, S.sub q⟩, fun ⟨σ', e, q⟩ m => by subst e; exact S.own q m⟩
/-! ### try .. except x as n -/
def outT {τ ρ β : Type} (γb : Type) (O : Out τ ρ β) (g0 : Option γb) : Out (Sum γb τ) ρ β := ⟨fun t P B C => match t with
  | .inl g => some g = g0
  | .inr t => O.sem t P B C, fun {t P P' B B' C C'} h1 h2 h3 p => by cases t with
  | inl g => exact p
  | inr t => exact O.mono h1 h2 h3 p, fun r => .inr (O.ret r), fun {r P B C} p => O.hret p⟩
def cT {τ ρ β : Type} {γb : Type} (c : C2 τ ρ β) (M : Nat → Bool) (W : WX) (g0 : Option γb) : C2 (Sum γb τ) ρ β := { F0 := c.F0, H0 := c.H0, W := W, M := M, O := outT γb c.O g0, R := c.R, GB := c.GB }
def joinM {γb τ : Type} (m : Xc (Sum γb τ)) (k : γb → Xc τ) : Xc τ := m.bind fun t => match t with
  | .inl g => k g
  | .inr t => .ok t
def catM {τ : Type} (catch_ : Str → Option Bool) (m : Xc τ) (h : Str → Xc τ) : Xc τ := match m with
  | .ok t => .ok t
  | .er cc fs => (match catch_ cc with
    | some true => if fs.isEmpty = true then h cc else .no
    | some false => .er cc fs
    | none => .no)
  | .no => .no
/-- an environment without lists of one's own: it leans on the frozen heap alone -/
class Frz {γ : Type} (G : EnvT γ) : Prop where
  fz : ∀ {K H0 F H F' H' σ g}, G.rel K H0 F H σ g → Same F F' → G.rel K H0 F' H' σ g
instance : Frz nl := ⟨fun h _ => h⟩
instance {α γ : Type} [Rp α] (G : EnvT γ) [Z : Frz G] : Frz (va α G) := ⟨fun ⟨v, σ', e, r, q⟩ s => ⟨v, σ', e, Rp.mono s r, Z.fz q s⟩⟩
instance {γ : Type} (G : EnvT γ) [Z : Frz G] : Frz (un G) := ⟨fun ⟨v, σ', e, q⟩ s => ⟨v, σ', e, Z.fz q s⟩⟩
section
variable {X : Cx} {τ ρ β γ γ' γf γh : Type} {c : C2 τ ρ β} {G : EnvT γ} {G' : EnvT γ'} {Gf : EnvT γf} {x n : Str} {i : Nat} {body suite : List Stmt} {b₀ : Stmt} {np pos pos' : Pos} {vs : List Nat} {cv : Value}
theorem fs_tryAs {Gh : Addr → EnvT γh} {catch_ : Str → Option Bool} {hf : γ → γf} {hp : γf → γh} [FG : Fgt G vs Gf hf] [FZ : Frz Gf] [PX : ∀ a, PutX Gf i (.ref a) (Gh a) hp] {fb : γ → (γ' → Xc (Sum γ' τ)) → Xc (Sum γ' τ)} {fh : Str → γh → (γ' → Xc (Sum γ' τ)) → Xc (Sum γ' τ)}
    [WJ : Wi1 G' i G' fun g => g] [WB : Wi1 c.GB i c.GB fun g => g] (tk : Takes X c.W) (hc : Names X x cv) (hx : ∀ cc b, catch_ cc = some b → PySem.W.exmOne X.K (.ref (He.ga X.K cc)) cv = some b) (hN : X.N.Nodup)
    (hb : ∀ W pn xe g0, Takes (X.tr pn xe) W → PassesOwn (model X.prog X.w) X.A X.env xe → FSs (X.tr pn xe) (cT c (mOf vs) W g0) G body G' fb)
    (hh : ∀ a oe cc pn g0, catch_ cc = some true → Zc (.ref (He.ga X.K cc)) none oe → (∃ vs, oe.data = .fields vs) → FSs (X.suite a ((a, oe) :: pn)) (cT c c.M c.W g0) (Gh a) (b₀ :: suite) G' (fh cc))
    (hi : X.N[i]? = some n := by rfl) (hln : X.env.kindOf n = some .local := by rfl) (hvM : ∀ j ∈ vs, c.M j = true := by intro _ _; rfl) (hiM : c.M i = true := by rfl) (hs : X.stack = X.env :: X.outer := by rfl) (hfr : X.env.frame = some X.env.locals := by rfl) :
    FS X c G (.Try body [.ExceptHandler (some (.Name x np)) (some n) (b₀ :: suite) pos'] [] [] pos) G' (fun g k => joinM (catM catch_ (fb g fun g' => Xc.ok (.inl g')) fun cc => fh cc (hp (hf g)) fun g' => Xc.ok (.inl g')) k) :=
  PS.imp (ps_try_as (tb := fun W D σ H => ∃ g0, tS X.K (cT c (mOf vs) W g0) G G' fb D σ H) (ts := fun a cls d D σ H => ∃ cc g0, cls = .ref (He.ga X.K cc) ∧ d = none ∧ catch_ cc = some true ∧ tS X.K (cT c c.M c.W g0) (Gh a) G' (fh cc) D σ H) hs hfr hN hi hln hc tk
    (fun W pn xe tk' po => ⟨fun pins s σ H D I ⟨g0, q⟩ => (hb W pn xe g0 tk' po).run pins s σ H D I q⟩)
    (fun a oe cls d pn hz hv => ⟨fun pins s σ H D I ⟨cc, g0, e1, e2, e3, q⟩ => by subst e1 e2; exact (hh a oe cc pn g0 e3 hz hv).run pins s σ H D I q⟩)) fun D σ H ⟨F, g, k, w, q, d, nn⟩ => by
    have agM : ∀ {σ σ' : St}, Ag (mOf vs) σ σ' → Ag c.M σ σ' := fun a => a.imp fun j hj => hvM j (by simpa [mOf] using hj)
    cases e1 : fb g fun g' => Xc.ok (.inl g') with
    | no => simp only [e1, joinM, catM] at d; exact d.elim
    | ok t =>
      cases t with
      | inl g1 =>
        simp only [e1, joinM, catM, bind_ok] at d
        refine ⟨some g1, F, g, fun g' => Xc.ok (.inl g'), w, q, by rw [e1]; exact (rfl : some g1 = some g1), fun g' σ' F' H' w' a' q' d' => ?_⟩
        have d' : some g' = some g1 := d'
        cases d'
        exact nn g1 σ' F' H' ⟨w'.f, w'.w⟩ (agM a') q' (d.on w'.f (agM a'))
      | inr t =>
        simp only [e1, joinM, catM, bind_ok] at d
        refine ⟨none, F, g, fun g' => Xc.ok (.inl g'), w, q, ?_, fun g' σ' F' H' w' a' q' d' => ?_⟩
        · rw [e1]
          have d : c.O.sem t _ _ _ := d
          refine c.O.mono (fun r p v F' H' w' rr => p v F' H' ⟨w'.f, w'.w⟩ rr) (fun b p σ' F' H' w' a' => p σ' F' H' ⟨w'.f, w'.w⟩ (agM a')) (fun b p σ' F' H' w' a' => p σ' F' H' ⟨w'.f, w'.w⟩ (agM a')) d
        · have d' : some g' = none := d'
          cases d'
    | er cc fs =>
      simp only [e1, catM] at d
      refine ⟨none, F, g, fun g' => Xc.ok (.inl g'), w, q, ?_, fun g' σ' F' H' w' a' q' d' => ?_⟩
      · rw [e1]
        intro σ' F' H' w' a'
        cases e2 : catch_ cc with
        | none => simp only [e2] at d; exact d.elim
        | some b =>
          cases b with
          | false =>
            simp only [e2] at d
            have d : Done X.K c D F σ (.er cc fs) := d
            have d := d σ' F' H' ⟨w'.f, w'.w⟩ (agM a')
            cases fs with
            | nil => exact fun F2 H2 w2 => ⟨false, hx cc _ e2, (fun z => absurd z Bool.false_ne_true), fun _ => d F2 H2 w2⟩
            | cons f fs => exact fun F2 H2 d2 w2 hd => ⟨false, hx cc _ e2, (fun z => absurd z Bool.false_ne_true), fun _ => d F2 H2 d2 w2 hd⟩
          | true =>
            simp only [e2] at d
            cases fs with
            | cons f fs => simp [joinM, bind_no] at d; exact d.elim
            | nil =>
              simp only [List.isEmpty_nil, if_true] at d
              refine fun F2 H2 w2 => ⟨true, hx cc _ e2, fun _ a ha => ?_, fun z => absurd z.symm Bool.false_ne_true⟩
              have q1 : Gf.rel X.K c.H0 F2 H2 σ' (hf g) := by
                rw [ag_setAll a']
                exact FZ.fz (FG.fg _ q) (w'.f.trans w2.f)
              have q2 := (PX a).put q1
              have sF : Same F F2 := w'.f.trans w2.f
              have wd : Wd c.F0 c.H0 F2 H2 := w'.w.trans w2
              have ag2 : ∀ σ3, Ag c.M (σ'.set i (some (.ref a))) σ3 → Ag c.M σ (σ3.set i none) := fun σ3 a3 => (((agM a').trans (Ag.set hiM)).trans a3).trans (Ag.set hiM)
              have ag3 : ∀ σ3, Ag c.M (σ'.set i (some (.ref a))) σ3 → Ag c.M σ σ3 := fun σ3 a3 => ((agM a').trans (Ag.set hiM)).trans a3
              cases e3 : fh cc (hp (hf g)) fun g' => Xc.ok (.inl g') with
              | no => simp only [e3, joinM, bind_no] at d; exact d.elim
              | er cc2 fs2 =>
                simp only [e3, joinM, bind_er] at d
                refine ⟨cc, none, rfl, rfl, e2, F2, hp (hf g), fun g' => Xc.ok (.inl g'), wd, q2, ?_, fun g' σ3 F3 H3 w3 a3 q3 d3 => ?_⟩
                · rw [e3]
                  exact fun σ3 F3 H3 w3 a3 => d σ3 F3 H3 ⟨sF.trans w3.f, w3.w⟩ (ag3 σ3 a3)
                · have d3 : some g' = none := d3
                  cases d3
              | ok t =>
                cases t with
                | inl g1 =>
                  simp only [e3, joinM, bind_ok] at d
                  refine ⟨cc, some g1, rfl, rfl, e2, F2, hp (hf g), fun g' => Xc.ok (.inl g'), wd, q2, by rw [e3]; exact (rfl : some g1 = some g1), fun g' σ3 F3 H3 w3 a3 q3 d3 => ?_⟩
                  have d3 : some g' = some g1 := d3
                  cases d3
                  exact nn g1 (σ3.set i none) F3 H3 ⟨sF.trans w3.f, w3.w⟩ (ag2 σ3 a3) (WJ.wi none q3) (d.on (sF.trans w3.f) (ag2 σ3 a3))
                | inr t =>
                  simp only [e3, joinM, bind_ok] at d
                  refine ⟨cc, none, rfl, rfl, e2, F2, hp (hf g), fun g' => Xc.ok (.inl g'), wd, q2, ?_, fun g' σ3 F3 H3 w3 a3 q3 d3 => ?_⟩
                  · rw [e3]
                    have d : c.O.sem t _ _ _ := d
                    refine c.O.mono (fun r p v F3 H3 w3 rr => p v F3 H3 ⟨sF.trans w3.f, w3.w⟩ rr) (fun b p σ3 F3 H3 w3 a3 r3 => p (σ3.set i none) F3 H3 ⟨sF.trans w3.f, w3.w⟩ (ag2 σ3 a3) (WB.wi none r3)) (fun b p σ3 F3 H3 w3 a3 r3 => p (σ3.set i none) F3 H3 ⟨sF.trans w3.f, w3.w⟩ (ag2 σ3 a3) (WB.wi none r3)) d
                  · have d3 : some g' = none := d3
                    cases d3
      · have d' : some g' = none := d'
        cases d'
/-- a return within a try or its suite -/
theorem fs_retT {c : C2 (Sum γ' ρ) ρ Unit} {γ2 : Type} {G2 : EnvT γ2} [Rp ρ] {e : Expr} {fa : γ → Xc ρ} (ha : FE X c.toC0 G e fa) (hO : c.O.ret = Sum.inr := by rfl) (hR : c.R = rtF ρ := by rfl) : FS X c G (.Return (some e) pos) G2 (fun g _ => (fa g).bind fun v => Xc.ok (Sum.inr v)) := fs_retG hO hR ha
end
/-! ### isinstance of the exception that a suite holds -/
section
variable {X : Cx} {c : C0} {γ : Type} {G : EnvT γ} {a D : Addr} {oe : Obj} {pn : List (Addr × Obj)} {n x : Str} {pos p p1 p2 : Pos}
theorem fe_isE (i : Nat) (b : Bool) {cv : Value} [A : AtX G i (.ref a)] (C : ExcC X.K D) (hz : Zc (.ref D) none oe) (hf : ∃ vs, oe.data = .fields vs) (hk : PySem.W.kitOne X.K (.ref D) cv = some b) {u : V} (hu : ∀ z, RelV u z → z = cv)
    (ht : PE (X.suite a ((a, oe) :: pn)) (.Name x p2) (fun σ H Q => Q u H))
    (hm : X.mg "isinstance" = none) (hN : X.N[i]? = some n := by rfl) (hv : Vis X.env.scope n := by first | exact Or.inl rfl | exact Or.inr (Or.inl rfl) | exact Or.inr (Or.inr rfl)) (hd : (n == ("__debug__" : Str)) = false := by decide) (hcd : (n == ("__classdict__" : Str)) = false := by decide)
    (hg : Gl X "isinstance" := by rfl)
    (hs : starEach [.Name n p1, .Name x p2] X.env = (false, eval (.Name n p1) X.env) :: starEach [.Name x p2] X.env := by rfl) (hs2 : starEach [.Name x p2] X.env = (false, eval (.Name x p2) X.env) :: starEach [] X.env := by rfl)
    (hpl : (backTo pos (starEach [.Name x p2] X.env)).any (·.1) = false := by rfl) : FE (X.suite a ((a, oe) :: pn)) c G (.Call (.Name "isinstance" p) [.Name n p1, .Name x p2] [] pos) (fun _ => Xc.ok b) :=
  PE.imp (pe_callB (call_isE (X := X) C hz hf) hg hm PyProof.Rows.boot_isinstance (pa_cons (pe_var hN hv hd hcd) (pa_cons ht pa_nil hs2) hs) (he := hs) (hpl := hpl)) fun σ H Q ⟨F, g, w, q, h⟩ =>
    ⟨.ref a, A.get q, u, cv, b, rfl, hu, hk, h.ret w.s rfl⟩
theorem pe_clsR {X : Cx} {x : Str} {p : Pos} (hm : X.mg x = some (.ref (He.ga X.K x))) (hg : Gl X x := by rfl) (hd : (x == ("__debug__" : Str)) = false := by decide) : PE X (.Name x p) (fun σ H Q => Q (.ref (He.ga X.K x)) H) :=
  PE.imp (pe_glob (v := .ref (He.ga X.K x)) hg hm rfl hd) fun σ H Q h => h
theorem pe_clsT {X : Cx} {x : Str} {U : String} {p : Pos} (hm : X.mg x = none) (hv : bootBuiltins x = some (.type U) := by decide +kernel) (hg : Gl X x := by rfl) (hn : x ≠ "__name__" := by decide) (hd : (x == ("__debug__" : Str)) = false := by decide) : PE X (.Name x p) (fun σ H Q => Q (.ty U) H) :=
  PE.imp (pe_bltn (v := .ty U) hg hm hv rfl hn hd) fun σ H Q h => h
end
end FL

/-! FL14: targets of several names. -/
namespace FL
open PySem L2
section
variable {X : Cx} {c : C1} {γ γ' γ1 γ2 α β δ : Type} {G : EnvT γ} {G' : EnvT γ'} {G1 : EnvT γ1} {G2 : EnvT γ2} [Rp α] [Rp β] [Rp δ] {pos p p1 p2 p3 : Pos} {x y z : Str} {tg e : Expr} {vs : List Nat}
theorem fn_asg {ψ : γ → α → γ'} {fa : γ → Xc α} (ha : FE X c.toC0 G e fa) (hg : FG X c.M G tg G' vs ψ) (hs : swapsWithSole [tg] e pos.line X.env = pure false := by rfl) (hw : swappedStores [tg] e X.env = pure none := by rfl)
    (h1 : (assignEach [tg] X.env).map (·.2) = [assign tg X.env] := by rfl) : FN X c G (.Assign [tg] e pos) G' (fun g => (fa g).bind fun v => Xc.ok (ψ g v)) := by
  obtain ⟨t, pg, ht⟩ := hg
  exact PS.imp (ps_asg ha pg hs hw h1) fun D σ H ⟨F, g, w, q, h⟩ => by
    refine ⟨F, g, w, q, ?_⟩
    cases e1 : fa g with
    | ok v =>
      intro u F1 H1 w1 r1
      simp only [e1] at h
      exact ht c.H0 F1 H1 σ g u v _ w1.s (G.mono q w1) r1 fun σ' ag _ q' => h σ' F1 H1 (Ws.of w w1) ag q'
    | er c' fs => simp only [e1] at h; exact PoN.er h w
    | no => simp only [e1] at h; exact h
end
section
variable {X : Cx} {γ γ' γ1 γ2 α β δ : Type} {G : EnvT γ} {G' : EnvT γ'} {G1 : EnvT γ1} {G2 : EnvT γ2} [Rp α] [Rp β] [Rp δ] {pos p p1 p2 p3 : Pos} {x y z : Str} {tg e : Expr} {vs : List Nat} {M : Nat → Bool} {kk : Nat}
theorem fg_two (i j : Nat) {ψ1 : γ → α → γ1} {ψ2 : γ1 → β → γ'} [P1 : Put G i α G1 ψ1] [P2 : Put G1 j β G' ψ2] (hM : M i = true ∧ M j = true) (hN : X.N.Nodup) (hc : X.calm = true := by rfl)
    (hi : X.N[i]? = some x := by rfl) (hx : Loc X.env.scope x := by first | exact Or.inl rfl | exact Or.inr rfl) (hj : X.N[j]? = some y := by rfl) (hy : Loc X.env.scope y := by first | exact Or.inl rfl | exact Or.inr rfl)
    (hf : X.fn x = true ∨ X.env.scope.names.lookup x = some .local := by first | exact .inl rfl | exact .inr rfl) (hf2 : X.fn y = true ∨ X.env.scope.names.lookup y = some .local := by first | exact .inl rfl | exact .inr rfl) :
    FG X M G (.Tuple [.Name x p1, .Name y p2] kk p) G' [i, j] (fun g (a : α × β) => ψ2 (ψ1 g a.1) a.2) :=
  fg_pair i j hM hc hN hi hx hj hy hf hf2 (pg_tup hc (pgs_cons (pg_name hN hi hx hf) (pgs_cons (pg_name hN hj hy hf2) pgs_nil)))
theorem fg_three (i j k : Nat) {ψ1 : γ → α → γ1} {ψ2 : γ1 → β → γ2} {ψ3 : γ2 → δ → γ'} [P1 : Put G i α G1 ψ1] [P2 : Put G1 j β G2 ψ2] [P3 : Put G2 k δ G' ψ3] (hM : M i = true ∧ M j = true ∧ M k = true) (hN : X.N.Nodup) (hne : i ≠ j ∧ j ≠ k ∧ i ≠ k) (hc : X.calm = true := by rfl)
    (hi : X.N[i]? = some x := by rfl) (hx : Loc X.env.scope x := by first | exact Or.inl rfl | exact Or.inr rfl) (hj : X.N[j]? = some y := by rfl) (hy : Loc X.env.scope y := by first | exact Or.inl rfl | exact Or.inr rfl) (hk : X.N[k]? = some z := by rfl) (hz : Loc X.env.scope z := by first | exact Or.inl rfl | exact Or.inr rfl)
    (hf : X.fn x = true ∨ X.env.scope.names.lookup x = some .local := by first | exact .inl rfl | exact .inr rfl) (hf2 : X.fn y = true ∨ X.env.scope.names.lookup y = some .local := by first | exact .inl rfl | exact .inr rfl) (hf3 : X.fn z = true ∨ X.env.scope.names.lookup z = some .local := by first | exact .inl rfl | exact .inr rfl) :
    FG X M G (.Tuple [.Name x p1, .Name y p2, .Name z p3] kk p) G' [i, j, k] (fun g (a : T3 α β δ) => ψ3 (ψ2 (ψ1 g a.a) a.b) a.c) :=
  ⟨_, pg_tup (n := 3) hc (pgs_cons (pg_name hN hi hx hf) (pgs_cons (pg_name hN hj hy hf2) (pgs_cons (pg_name hN hk hz hf3) pgs_nil))), fun H0 F H σ g v a Q s q r kk => by
    obtain ⟨b, u1, u2, u3, rfl, h, r1, r2, r3⟩ := r
    refine ⟨b, [u1, u2, u3], rfl, Same.seqT s h, rfl, u1, [u2, u3], rfl, u2, [u3], rfl, u3, [], rfl, rfl, ?_⟩
    refine kk _ (((Ag.set hM.1).trans (Ag.set hM.2.1)).trans (Ag.set hM.2.2)) ?_ (P3.put (P2.put (P1.put q r1) r2) r3)
    show (((((σ.set i (some u1)).set j (some u2)).set k (some u3)).set k none).set j none).set i none = ((σ.set k none).set j none).set i none
    rw [List.set_set, List.set_comm _ _ (show k ≠ j from fun z => hne.2.1 z.symm), List.set_set, List.set_comm _ _ (show k ≠ i from fun z => hne.2.2 z.symm), List.set_comm _ _ (show j ≠ i from fun z => hne.1 z.symm), List.set_set, List.set_comm _ _ (show i ≠ j from hne.1), List.set_comm _ _ (show i ≠ k from hne.2.2), List.set_comm _ _ (show j ≠ k from hne.2.1)]⟩
end
end FL

/-! FL15: rules in the shapes that the printer of derivations uses. -/
namespace FL
open PySem L2
theorem takesF {X : Cx} : Takes X (fun _ _ _ _ => False) := fun u s' ⟨a, B, sI, pins, σ, H, cls, d, e, I, nb, up, sky, na, os, ag, w⟩ => w.elim
section
variable {X : Cx} {c : C1} {γ γ' γ1 γ2 α β : Type} {G : EnvT γ} {G' : EnvT γ'} {G1 : EnvT γ1} {G2 : EnvT γ2} {st : Stmt} {sts : List Stmt}
theorem fns_B {fa : γ → Xc α} {ψ : γ → α → γ1} {m2 : γ1 → Xc γ2} (h1 : FN X c G st G1 (fun g => (fa g).bind fun v => Xc.ok (ψ g v))) (h2 : FNs X c G1 sts G2 m2) : FNs X c G (st :: sts) G2 (fun g => (fa g).bind fun v => m2 (ψ g v)) :=
  FNs.cast (fns_cons h1 h2) fun g => by cases fa g <;> rfl
theorem fns_B2 {fa : γ → Xc α} {fb : γ → α → Xc β} {ψ : γ → α → β → γ1} {m2 : γ1 → Xc γ2} (h1 : FN X c G st G1 (fun g => (fa g).bind fun v => (fb g v).bind fun u => Xc.ok (ψ g v u))) (h2 : FNs X c G1 sts G2 m2) : FNs X c G (st :: sts) G2 (fun g => (fa g).bind fun v => (fb g v).bind fun u => m2 (ψ g v u)) :=
  FNs.cast (fns_cons h1 h2) fun g => by
    show (fa g).bind _ = ((fa g).bind _).bind _
    cases fa g with
    | ok v => show (fb g v).bind _ = ((fb g v).bind _).bind _; cases fb g v <;> rfl
    | er _ _ => rfl
    | no => rfl
theorem fns_B3 {δ : Type} {fa : γ → Xc α} {fb : γ → α → Xc β} {fd : γ → α → β → Xc δ} {ψ : γ → α → β → δ → γ1} {m2 : γ1 → Xc γ2} (h1 : FN X c G st G1 (fun g => (fa g).bind fun v => (fb g v).bind fun u => (fd g v u).bind fun z => Xc.ok (ψ g v u z))) (h2 : FNs X c G1 sts G2 m2) : FNs X c G (st :: sts) G2 (fun g => (fa g).bind fun v => (fb g v).bind fun u => (fd g v u).bind fun z => m2 (ψ g v u z)) :=
  FNs.cast (fns_cons h1 h2) fun g => by
    show (fa g).bind _ = ((fa g).bind _).bind _
    cases fa g with
    | ok v =>
      show (fb g v).bind _ = ((fb g v).bind _).bind _
      cases fb g v with
      | ok u => show (fd g v u).bind _ = ((fd g v u).bind _).bind _; cases fd g v u <;> rfl
      | er _ _ => rfl
      | no => rfl
    | er _ _ => rfl
    | no => rfl
end
section
variable {X : Cx} {τ ρ β γ γ' γ1 γ2 α δ ε γb : Type} {c : C2 τ ρ β} {G : EnvT γ} {G' : EnvT γ'} {G1 : EnvT γ1} {G2 : EnvT γ2} {Gb : EnvT γb} {st : Stmt} {sts : List Stmt} {tg iter : Expr} {body : List Stmt} {pos : Pos} {vs : List Nat} [Rp α]
theorem fs_B {α : Type} {fa : γ → Xc α} {ψ : γ → α → γ1} (h1 : FN X c.toC1 G st G1 (fun g => (fa g).bind fun v => Xc.ok (ψ g v))) : FS X c G st G1 (fun g k => (fa g).bind fun v => k (ψ g v)) :=
  FS.cast (fs_n h1) fun g k => by cases fa g <;> rfl
theorem fs_B2 {α : Type} {fa : γ → Xc α} {fb : γ → α → Xc δ} {ψ : γ → α → δ → γ1} (h1 : FN X c.toC1 G st G1 (fun g => (fa g).bind fun v => (fb g v).bind fun u => Xc.ok (ψ g v u))) : FS X c G st G1 (fun g k => (fa g).bind fun v => (fb g v).bind fun u => k (ψ g v u)) :=
  FS.cast (fs_n h1) fun g k => by
    show (fa g).bind _ = ((fa g).bind _).bind _
    cases fa g with
    | ok v => show (fb g v).bind _ = ((fb g v).bind _).bind _; cases fb g v <;> rfl
    | er _ _ => rfl
    | no => rfl
theorem fs_B3 {α : Type} {fa : γ → Xc α} {fb : γ → α → Xc δ} {fd : γ → α → δ → Xc ε} {ψ : γ → α → δ → ε → γ1} (h1 : FN X c.toC1 G st G1 (fun g => (fa g).bind fun v => (fb g v).bind fun u => (fd g v u).bind fun z => Xc.ok (ψ g v u z))) : FS X c G st G1 (fun g k => (fa g).bind fun v => (fb g v).bind fun u => (fd g v u).bind fun z => k (ψ g v u z)) :=
  FS.cast (fs_n h1) fun g k => by
    show (fa g).bind _ = ((fa g).bind _).bind _
    cases fa g with
    | ok v =>
      show (fb g v).bind _ = ((fb g v).bind _).bind _
      cases fb g v with
      | ok u => show (fd g v u).bind _ = ((fd g v u).bind _).bind _; cases fd g v u <;> rfl
      | er _ _ => rfl
      | no => rfl
    | er _ _ => rfl
    | no => rfl
/-- behind a loop -/
def forK {γ ρ τ : Type} (m : Xc (Sum γ ρ)) (rt : ρ → τ) (k : γ → Xc τ) : Xc τ := m.bind fun t => match t with
  | .inl g' => k g'
  | .inr r => Xc.ok (rt r)
theorem fs_forK {rt : ρ → τ} {ψ : γ → α → γb} {fl : γ → Xc (List α)} {fb : γb → (γ → Xc (Lp γ ρ)) → Xc (Lp γ ρ)} (po : PassesOwn (model X.prog X.w) X.A X.env X.xe) (hi : FI X c.toC0 G tg iter fl) (hg : FG X c.M G tg Gb vs ψ) (hb : FSs X (cL c G) Gb body G fb)
    (hO : ∀ r P B C, P r → c.O.sem (rt r) P B C := by intro _ _ _ _ h; exact h) (hR' : ∀ r P B C, c.O.sem (rt r) P B C → P r := by intro _ _ _ _ h; exact h) (hc : X.calm = true := by rfl) (hs : ∀ x, foldedSetIterable iter X.env x = pure x := by intro _; rfl) :
    FS X c G (.For tg iter body [] pos) G (fun g k => (fl g).bind fun l => forK (forX (fun g a => fb (ψ g a) fun g' => Xc.ok (Lp.ct g')) l g) rt k) :=
  FS.cast (fs_for po hi hg hb hO hR' hc hs) fun g k => by
    cases fl g with
    | ok l => show forK _ _ _ = Xc.bind (forX _ _ _) _; unfold forK; congr 1
    | er _ _ => rfl
    | no => rfl
end
section
variable {X : Cx} {γ γb γw α β : Type} {G : EnvT γ} {Gw : EnvT γw} {Gb : EnvT γb} [Rp α] [Rp β] {tg iter elt : Expr} {ifs : List Expr} {pos : Pos} {vs : List Nat} {scope : Scope} {own : List (Str × Nat)}
theorem fn_setLcF {c : C1} {γ' : Type} {G' : EnvT γ'} (k : Nat) {y : Str} {py spos : Pos} {ψ' : γ → List β → γ'} [P : Put G k (List β) G' ψ'] {ψ : γw → α → γb} {h : γ → γw} {fl : γ → Xc (List α)} {ft : γb → Xc Bool} {f : γb → Xc β} [W : Wip G vs Gw h] (hvs : own.map (·.2) = vs) (hM : c.M k = true) (ok : BlkOk X.N X.env.scope scope own) (hN : X.N.Nodup) (hi : FI X c.toC0 G tg iter fl) (hg : FGB X scope Gw tg Gb vs ψ)
    (ht : FTs X scope (cB c.toC0) Gb ifs ft) (he : ∀ (s : Shared) (H : Hp) (C : Addr) (cl : List (Str × Addr)) (fp : List Addr), FE (X.blk s H scope (compEnvC scope cl C X.env) fp) (cB c.toC0) Gb elt f) (hy : X.N[k]? = some y := by rfl) (hyl : X.env.scope.names.lookup y = some .local := by rfl)
    (hsw : swapsWith (.ListComp elt [⟨tg, iter, ifs, 0⟩] scope pos) (some (.Name y py)) spos.line X.env = pure true := by exact sw_true rfl rfl rfl rfl) (hc : X.calm = true := by rfl) (hs : ∀ x, foldedSetIterable iter X.env x = pure x := by intro _; rfl) :
    FN X c G (.Assign [.Name y py] (.ListComp elt [⟨tg, iter, ifs, 0⟩] scope pos) spos) G' (fun g => ((fl g).bind fun l => compX (fun a => ft (ψ (h g) a)) (fun a => f (ψ (h g) a)) l).bind fun v => Xc.ok (ψ' g v)) := by
  subst hvs
  obtain ⟨t, pg, ht'⟩ := hg
  exact fn_setL k hM (fun σ H Q p => tO_lc (W := W) ht' p) (ps_setLc (te := tF X.K (cB c.toC0) Gb f) hc hN hy hyl hsw hi ok pg ht he hs)
end
/-! the end of a block -/
section
variable {X : Cx} {γ γ' : Type} {G : EnvT γ} {G' : EnvT γ'} {h : γ → γ'}
theorem fns_nilS {c : C1} [S : Sub G G' h] : FNs X c G [] G' (fun g => Xc.ok (h g)) := PSs.imp pss_nil fun D σ H ⟨F, g, w, q, p⟩ => p σ F H (Ws.refl w) Ag.refl (S.sub q)
theorem fss_nilS {τ ρ β : Type} {c : C2 τ ρ β} [S : Sub G G' h] : FSs X c G [] G' (fun g k => k (h g)) := PSs.imp pss_nil fun D σ H ⟨F, g, k, w, q, d, n⟩ => n (h g) σ F H (Ws.refl w) Ag.refl (S.sub q) d
end
/-! a def that comes to its end: None -/
section
variable {P : Program} {w : World} {K : PySem.W.Frag} {mg : Str → Option Value} {base : Heap} {αs ρ γ γ' : Type} [Rps αs] {G : EnvT γ} {G' : EnvT γ'} {h : αs → γ}
theorem fn_defU {x qual : Str} {params : Arguments} {body : List Stmt} {scope : Scope} {dvs : List V} {kws : List (Str × V)} {f : Addr} {fd : FuncData} {N ps : List Str} {k n pn : Nat} {m : αs → Xc Unit} {fm : γ → (γ' → Xc Unit) → Xc Unit}
    (Fd : FunD K x qual params body scope dvs kws f fd) (S : FnScope N ps scope) [RN : RpsN αs pn] (hpn : ps.length = pn) [ET : EntryT αs n G h] (hn : N.length = pn + n)
    (hb : ∀ (cdv : Value) (A : Around) (outer : List Env) (s : Shared) (F H : Hp) (E : XK), Room k (A.deeper (PyProof.Rows.envOfC qual scope s.heap.objs.size f cdv)) → 
      Takes (cxOf (L2.CX P w) P w K mg base N qual scope f cdv A outer s H E) (cD Unit (rtF Unit) F H E).W →
      FSs (cxOf (L2.CX P w) P w K mg base N qual scope f cdv A outer s H E) (cD Unit (rtF Unit) F H E) G body G' fm)
    (hm : ∀ as, m as = fm (h as) fun _ => .ok ()) : FnOk P w K mg base (L2.CX P w) (k + 1) f fd ps (spF K (rtF Unit) m) := by
  refine Fd.ok S (fun vs H Q E ⟨F, as, _, r, _⟩ => by rw [hpn]; exact RN.len r) fun cdv A outer s H vs Q E hr ⟨F, as, sm, r, p⟩ => ?_
  refine ⟨_, hb cdv A outer s F H E hr (takes_of rfl rfl rfl rfl), F, h as, fun _ => .ok (), Wd.refl sm, ?_, ?_, fun g' σ' F' H' w1 _ _ d => ?_⟩
  · unfold L2.start
    have e : N.length - vs.length = n := by rw [RN.len r, hn]; omega
    rw [e]
    exact ET.st r (Nat.le_refl _)
  · rw [hm as] at p
    revert p
    cases fm (h as) (fun _ => .ok ()) with
    | ok t => exact fun p v F' H' w1 rr => p v F' H' w1.w rr
    | er cc fs => exact fun p σ' F' H' w1 _ => ErP.on p w1.w
    | no => exact fun p => p
  · have d : ∀ v F2 H2, Ws (cD Unit (rtF Unit) F H E).toC0 F' F2 H2 → (rtF Unit).rr K H F2 H2 v () → Q v H2 := d
    exact d .non F' H' (Ws.refl w1.w) rfl
end
end FL

namespace FL
open PySem L2
instance {ρ : Type} {R : Rt ρ} {F H : Hp} {E : XK} {i : Nat} : Wi1 (cD ρ R F H E).GB i (cD ρ R F H E).GB (fun g => g) := (inferInstance : Wi1 nl i nl fun g => g)
theorem bind_ok' {α β : Type} (a : α) (k : α → Xc β) : Xc.bind (.ok a) k = k a := Eq.trans (Eq.refl _) (Eq.refl _)
def catch1 (x : Str) : Str → Option Bool := fun cc => if cc = x then some true else none
theorem catch1_eq {x cc : Str} (h : catch1 x cc = some true) : x = cc := by
  unfold catch1 at h
  by_cases e : cc = x
  · exact e.symm
  · rw [if_neg e] at h; cases h
theorem catch1_ok {K : PySem.W.Frag} {x : Str} {cv : Value} (h : PySem.W.exmOne K (.ref (He.ga K x)) cv = some true) : ∀ cc b, catch1 x cc = some b → PySem.W.exmOne K (.ref (He.ga K cc)) cv = some b := by
  intro cc b e
  unfold catch1 at e
  by_cases e2 : cc = x
  · rw [if_pos e2] at e; cases e; subst e2; exact h
  · rw [if_neg e2] at e; cases e
end FL

/-! FL17: the end of a law. -/
namespace FL
open PySem L2
theorem walk_w {l : PySem.W.OpenLaw} {n k : Nat} {q : Program} {loose : List Str} {XP : (Str → Option Value) → Heap → Prop} {YP : World → Heap → Prop} {d : DefRec} {x : Str} (hn : l.most = some n) (hn2 : n ≤ sizeLine) (hdf : d.params.defaults = []) (hr : Room k callerA)
    {m : List Int × Unit → Xc Bool} (hm : ∀ ns : List Int, ns.length ≤ n → m (ns, ()) = .ok true)
    (F : ∀ (w : World) (mg : Str → Option Value) (fa : Addr) (h : Heap), YP w h → h.Ns mainGlobals mg → mg d.name = some (.ref fa) → ∃ (K : PySem.W.Frag) (fd : FuncData), K.In h ∧ (∀ (s : Shared) (u : Value), BindsTo s fd ⟨[u], []⟩ [(x, u)]) ∧
      ∀ base : Heap, K.In base → base.Ns mainGlobals mg → FnOk l.prog w K mg base (L2.CX l.prog w) k fa fd [x] (spF K (rtF Bool) m)) :
    PySem.W.WalkO q loose XP YP l.row.toRowW d [] (fun f vs => PySem.call f vs) := by
  refine Att.attach_call hn hdf fun w s₀ s₁ mg mb fa o pm cd doc a vs ns G Y ho hd hcd hmg hobj hints hlen hg => ?_
  obtain ⟨K, fd, KX, hb, hF⟩ := F w mg fa _ Y G.T.g hmg
  refine law_call KX G.T.g G.T.b G.T.builtins G.T.nolimit hg hobj hints (Nat.le_trans hlen hn2) hr hF hb (fun H hO hS => ?_) fun H e s' ⟨a, B, H', cls, d, e1, _, _, _, _, _, _, z⟩ => z
  refine ⟨H, (ns, ()), Same.refl _, ⟨.ref a, [], rfl, ⟨a, ns.map V.int, rfl, hS, Nat.le_trans hlen hn2, ?_⟩, rfl⟩, ?_⟩
  · clear hints hlen hS
    induction ns with
    | nil => exact .nil
    | cons i ns ih => exact .cons rfl ih
  · rw [hm ns hlen]
    intro v F' H' w1 r
    have r : v = .bl true := r
    exact r
/-- a def by its name, from the head's facts -/
theorem dk_of {P : Program} {w : World} {K : PySem.W.Frag} {mg : Str → Option Value} {base : Heap} {x qual : Str} {params : Arguments} {body : List Stmt} {scope : Scope} {fd : FuncData} {ps : List Str} {k : Nat} {sp : Sp}
    (F : FunD K x qual params body scope [] [] (He.ga K x) fd) (g : mg x = some (.ref (He.ga K x))) (b : Binds K fd ps []) (h : FnOk P w K mg base (L2.CX P w) k (He.ga K x) fd ps sp) : Dk P w K mg base x ps k sp := ⟨⟨fd, h, b⟩, g, F.kp⟩
theorem mg_fact {K : PySem.W.Frag} {h : Heap} {mg : Str → Option Value} {x : Str} {v : Value} (X : K.In h) (G : h.Ns mainGlobals mg) (e : He.eqO (PySem.W.nsIn K mainGlobals x) (some (some v)) = true) : mg x = some v := PySem.W.mg_of X G (He.eqO_ok e)
def excCB (K : PySem.W.Frag) (D : Addr) : Bool := decide (PySem.W.findIn K (.ref D) "__getattribute__" = some (some (.builtin "BaseException.__getattribute__"))) && (decide (PySem.W.findIn K (.ref D) "__getattr__" = some none) && (decide (PySem.W.subIn K (.ref D) (.type "BaseException") = some true) && (PySem.W.hasDictIn K D &&
  (decide (PySem.W.findIn K (.ref D) "__class__" = some (some (.builtin "object.__class__"))) && (decide (PySem.W.specialIn K (.builtin "object.__class__") "__get__" = some (some (.builtin "getset_descriptor.__get__"))) && (decide (PySem.W.takesIn K (.builtin "object.__class__") = some true) && decide (PySem.W.mroIn K D (.type "object") = some true)))))))
theorem excCB_ok {K : PySem.W.Frag} {D : Addr} (h : excCB K D = true) : ExcC K D := by
  unfold excCB at h
  obtain ⟨h1, h⟩ := He.ba h
  obtain ⟨h2, h⟩ := He.ba h
  obtain ⟨h3, h⟩ := He.ba h
  obtain ⟨h4, h⟩ := He.ba h
  obtain ⟨h5, h⟩ := He.ba h
  obtain ⟨h6, h⟩ := He.ba h
  obtain ⟨h7, h8⟩ := He.ba h
  exact ⟨of_decide_eq_true h1, of_decide_eq_true h2, of_decide_eq_true h3, h4, of_decide_eq_true h5, of_decide_eq_true h6, of_decide_eq_true h7, of_decide_eq_true h8⟩
end FL

namespace LW
open PySem L2 FL
def top (i : Nat) : Stmt := PySem.Challenge.pw_leadersets_k00_numbers_exact.main.body.getD i (.Pass ⟨0, 0, 0, 0⟩)
abbrev FnP (K : PySem.W.Frag) (x : Str) (st : Stmt) (f : Addr) (fd : FuncData) : Prop := FunD K x x (defArgs st) (defBody st) (defScope st) [] [] f fd
def m_ratio (z : Int × Int × Unit) : Xc (Int × Int) := (if (decide (z.2.1 = (0 : Int))) = true then (Xc.er "BadNumber" []) else (Xc.bind (if (decide (z.2.1 < (0 : Int))) = true then (Xc.ok (z.1, (z.2.1, ((-(gcdI z.1 z.2.1)), ())))) else (Xc.ok (z.1, (z.2.1, ((gcdI z.1 z.2.1), ()))))) fun (g3 : (Int × (Int × (Int × Unit)))) => (Xc.bind (fdvX g3.1 g3.2.2.1) fun t4 => (Xc.bind (fdvX g3.2.1 g3.2.2.1) fun t5 => (Xc.ok (t4, t5))))))
def m_add (z : (Int × Int) × (Int × Int) × Unit) : Xc (Int × Int) := (Xc.bind (Xc.bind (Xc.bind (mulX z.1.1 z.2.1.2) fun t6 => (Xc.bind (mulX z.2.1.1 z.1.2) fun t7 => (Xc.ok (t6 + t7)))) fun t9 => (Xc.bind (Xc.bind (mulX z.1.2 z.2.1.2) fun t8 => (Xc.ok (t8, ()))) fun t10 => (Xc.ok (t9, t10)))) fun t11 => (m_ratio t11))
def m_subtract (z : (Int × Int) × (Int × Int) × Unit) : Xc (Int × Int) := (Xc.bind (Xc.bind (Xc.bind (mulX z.1.1 z.2.1.2) fun t12 => (Xc.bind (mulX z.2.1.1 z.1.2) fun t13 => (Xc.ok (t12 - t13)))) fun t15 => (Xc.bind (Xc.bind (mulX z.1.2 z.2.1.2) fun t14 => (Xc.ok (t14, ()))) fun t16 => (Xc.ok (t15, t16)))) fun t17 => (m_ratio t17))
def m_negate (z : (Int × Int) × Unit) : Xc (Int × Int) := (Xc.ok ((-z.1.1), z.1.2))
def m_multiply (z : (Int × Int) × (Int × Int) × Unit) : Xc (Int × Int) := (Xc.bind (Xc.bind (mulX z.1.1 z.2.1.1) fun t19 => (Xc.bind (Xc.bind (mulX z.1.2 z.2.1.2) fun t18 => (Xc.ok (t18, ()))) fun t20 => (Xc.ok (t19, t20)))) fun t21 => (m_ratio t21))
def m_divide (z : (Int × Int) × (Int × Int) × Unit) : Xc (Int × Int) := (if (decide (z.2.1.1 = (0 : Int))) = true then (Xc.er "BadNumber" []) else (Xc.bind (Xc.bind (mulX z.1.1 z.2.1.2) fun t24 => (Xc.bind (Xc.bind (mulX z.1.2 z.2.1.1) fun t23 => (Xc.ok (t23, ()))) fun t25 => (Xc.ok (t24, t25)))) fun t26 => (m_ratio t26)))
def m_compare (z : (Int × Int) × (Int × Int) × Unit) : Xc Int := (Xc.bind (mulX z.1.1 z.2.1.2) fun t27 => (Xc.bind (mulX z.2.1.1 z.1.2) fun t28 => (if (decide (t27 < t28)) = true then (Xc.ok (-(1 : Int))) else (if (decide (t28 < t27)) = true then (Xc.ok (1 : Int)) else (Xc.ok (0 : Int))))))
def m_least (z : (List (Int × Int)) × Unit) : Xc (Option (Int × Int)) := (let vbest_31 : (Option (Int × Int)) := (none : Option (Int × Int)); (Xc.bind (foldX (fun (g40 : ((List (Int × Int)) × ((Option (Int × Int)) × Unit))) a41 => (Xc.bind (Xc.bind (if (Option.isNone g40.2.1) = true then Xc.ok true else (Xc.bind (Xc.bind (Xc.bind (Xc.bind (someX g40.2.1) fun t42 => (Xc.ok (t42, ()))) fun t43 => (Xc.ok (a41, t43))) fun t44 => (m_compare t44)) fun t45 => (Xc.ok (decide (t45 < (0 : Int)))))) fun t47 => (if t47 = true then (Xc.ok (g40.1, ((some a41), (a41, ())))) else (Xc.ok (g40.1, (g40.2.1, (a41, ())))))) fun (g48 : ((List (Int × Int)) × ((Option (Int × Int)) × ((Int × Int) × Unit)))) => (Xc.ok (g48.1, (g48.2.1, ()))))) z.1 (z.1, (vbest_31, ()))) fun (g50 : ((List (Int × Int)) × ((Option (Int × Int)) × Unit))) => (Xc.ok g50.2.1)))
def m_greatest (z : (List (Int × Int)) × Unit) : Xc (Option (Int × Int)) := (let vbest_51 : (Option (Int × Int)) := (none : Option (Int × Int)); (Xc.bind (foldX (fun (g60 : ((List (Int × Int)) × ((Option (Int × Int)) × Unit))) a61 => (Xc.bind (Xc.bind (if (Option.isNone g60.2.1) = true then Xc.ok true else (Xc.bind (Xc.bind (Xc.bind (Xc.bind (someX g60.2.1) fun t62 => (Xc.ok (t62, ()))) fun t63 => (Xc.ok (a61, t63))) fun t64 => (m_compare t64)) fun t65 => (Xc.ok (decide ((0 : Int) < t65))))) fun t67 => (if t67 = true then (Xc.ok (g60.1, ((some a61), (a61, ())))) else (Xc.ok (g60.1, (g60.2.1, (a61, ())))))) fun (g68 : ((List (Int × Int)) × ((Option (Int × Int)) × ((Int × Int) × Unit)))) => (Xc.ok (g68.1, (g68.2.1, ()))))) z.1 (z.1, (vbest_51, ()))) fun (g70 : ((List (Int × Int)) × ((Option (Int × Int)) × Unit))) => (Xc.ok g70.2.1)))
def m_is_number (z : PyData × Unit) : Xc Bool := (Xc.bind (Xc.bind (Xc.bind (isiX (HasTy.ty z.1) "tuple") fun t71 => (Xc.ok (!t71))) fun t74 => (if t74 = true then Xc.ok true else (Xc.bind (Xc.bind (asT z.1) fun t72 => (Xc.ok ((HasLen.len t72 : Nat) : Int))) fun t73 => (Xc.ok (!decide (t73 = (2 : Int))))))) fun t102 => (if t102 = true then (Xc.ok false) else (Xc.bind (Xc.bind (asT z.1) fun t83 => (Xc.ok (Tu.l t83))) fun t90 => (forK (forX (fun (g82 : (PyData × Unit)) a84 => (Xc.bind (Xc.bind (Xc.bind (isiX (HasTy.ty a84) "int") fun t85 => (Xc.ok (!t85))) fun t86 => (if t86 = true then Xc.ok true else (isiX (HasTy.ty a84) "bool"))) fun t88 => (if t88 = true then (Xc.ok (Lp.rt false)) else (Xc.ok (Lp.ct (g82.1, ())))))) t90 (z.1, ())) id fun (g89 : (PyData × Unit)) => (Xc.bind (Xc.bind (Xc.bind (Xc.bind (asT g89.1) fun t91 => (getX (Tu.l t91) (1 : Int))) fun t92 => (asI t92)) fun t93 => (Xc.ok (decide ((1 : Int) ≤ t93)))) fun t101 => (if t101 = true then (Xc.bind (Xc.bind (Xc.bind (Xc.bind (asT g89.1) fun t94 => (getX (Tu.l t94) (0 : Int))) fun t95 => (asI t95)) fun t98 => (Xc.bind (Xc.bind (Xc.bind (asT g89.1) fun t96 => (getX (Tu.l t96) (1 : Int))) fun t97 => (asI t97)) fun t99 => (Xc.ok (gcdI t98 t99)))) fun t100 => (Xc.ok (decide (t100 = (1 : Int))))) else Xc.ok false))))))
def m_show_number (z : (Int × Int) × Unit) : Xc Str := (if (decide (z.1.2 = (1 : Int))) = true then (strX z.1.1) else (Xc.bind (Xc.bind (strX z.1.1) fun t104 => (catS t104 ("/" : Str))) fun t105 => (Xc.bind (strX z.1.2) fun t106 => (catS t105 t106))))
def m__digits (z : Str × Unit) : Xc Int := (Xc.bind (Xc.bind (if (1 : Int) ≤ ((HasLen.len z.1 : Nat) : Int) then (Xc.ok (decide (((HasLen.len z.1 : Nat) : Int) ≤ (40 : Int)))) else Xc.ok false) fun t107 => (Xc.ok (!t107))) fun t117 => (if t117 = true then (Xc.er "BadNumber" []) else (forK (forX (fun (g112 : (Str × Unit)) a113 => (Xc.bind (Xc.bind (inSg a113 ("0123456789" : Str)) fun t => Xc.ok (!t)) fun t115 => (if t115 = true then (Xc.er "BadNumber" []) else (Xc.ok (Lp.ct (g112.1, ())))))) (signs z.1) (z.1, ())) id fun (g116 : (Str × Unit)) => (intX g116.1))))
def m_read_number (z : Str × Unit) : Xc (Int × Int) := (Xc.bind (partX z.1 ("/" : Str)) fun t118 => (Xc.bind (if (Txt.startswith t118.a ("-" : Str)) = true then (Xc.bind (m__digits ((cutS t118.a (some (1 : Int)) none), ())) fun t119 => (Xc.ok (-t119))) else (m__digits (t118.a, ()))) fun t120 => (Xc.bind (if (decide (t118.b = ("/" : Str))) = true then (m__digits (t118.c, ())) else (Xc.ok (1 : Int))) fun t121 => (Xc.bind (m_ratio (t120, (t121, ()))) fun t122 => (Xc.bind (Xc.bind (m_show_number (t122, ())) fun t123 => (Xc.ok (!decide (t123 = z.1)))) fun t125 => (if t125 = true then (Xc.er "BadNumber" []) else (Xc.ok t122)))))))
def m__law_draws (z : (List Int) × Int × Unit) : Xc (List Int) := (Xc.bind (foldX (fun (g235 : ((List Int) × (Int × (List Int × Unit)))) a236 => (Xc.bind (Xc.bind (Xc.bind (powX (10 : Int) (18 : Int)) fun t237 => (Xc.ok (decide (t237 ≤ a236)))) fun t343 => (if t343 = true then (Xc.bind (Xc.bind (rngX 0 (60 : Int)) fun t317 => (foldX (fun (g302 : ((List Int) × (Int × (List Int × (Int × (Int × Unit)))))) a303 => (Xc.bind (Xc.bind (if (decide ((0 : Int) < g302.2.2.2.2.1)) = true then (Xc.ok (decide (((HasLen.len g302.2.2.1 : Nat) : Int) < g302.2.1))) else Xc.ok false) fun t313 => (if t313 = true then (Xc.bind (modX g302.2.2.2.2.1 (1000 : Int)) fun t309 => (Xc.bind (appX g302.2.2.1 t309) fun t310 => (Xc.bind (fdvX g302.2.2.2.2.1 (1000 : Int)) fun t311 => (Xc.ok (g302.1, (g302.2.1, (t310, (g302.2.2.2.1, (t311, (a303, ())))))))))) else (Xc.ok (g302.1, (g302.2.1, (g302.2.2.1, (g302.2.2.2.1, (g302.2.2.2.2.1, (a303, ()))))))))) fun (g314 : ((List Int) × (Int × (List Int × (Int × (Int × (Int × Unit))))))) => (Xc.ok (g314.1, (g314.2.1, (g314.2.2.1, (g314.2.2.2.1, (g314.2.2.2.2.1, ())))))))) t317 (g235.1, (g235.2.1, (g235.2.2.1, (a236, (a236, ()))))))) fun (g316 : ((List Int) × (Int × (List Int × (Int × (Int × Unit)))))) => (Xc.ok (g316.1, (g316.2.1, (g316.2.2.1, (g316.2.2.2.1, (g316.2.2.2.2.1, ()))))))) else (Xc.bind (if (decide (((HasLen.len g235.2.2.1 : Nat) : Int) < g235.2.1)) = true then (Xc.bind (Xc.bind (Xc.bind (Xc.bind (Xc.bind (Xc.bind (Xc.bind (Xc.bind (Xc.bind (mulX a236 (48271 : Int)) fun t329 => (Xc.ok (t329 + (11 : Int)))) fun t330 => (Xc.ok t330)) fun t331 => (modX t331 (65537 : Int))) fun t332 => (mulX t332 (31 : Int))) fun t333 => (Xc.ok (t333 + (7 : Int)))) fun t334 => (Xc.ok t334)) fun t335 => (modX t335 (1009 : Int))) fun t336 => (modX t336 (1000 : Int))) fun t338 => (Xc.bind (appX g235.2.2.1 t338) fun t339 => (Xc.ok (g235.1, (g235.2.1, (t339, (a236, (a236, ())))))))) else (Xc.ok (g235.1, (g235.2.1, (g235.2.2.1, (a236, (a236, ()))))))) fun (g341 : ((List Int) × (Int × (List Int × (Int × (Int × Unit)))))) => (Xc.ok (g341.1, (g341.2.1, (g341.2.2.1, (g341.2.2.2.1, (g341.2.2.2.2.1, ()))))))))) fun (g344 : ((List Int) × (Int × (List Int × (Int × (Int × Unit)))))) => (Xc.ok (g344.1, (g344.2.1, (g344.2.2.1, ())))))) z.1 (z.1, (z.2.1, (([] : List Int), ())))) fun (g346 : ((List Int) × (Int × (List Int × Unit)))) => (let vseed_347 : Int := ((7 : Int) + ((HasLen.len g346.1 : Nat) : Int)); (Xc.bind (foldX (fun (g353 : ((List Int) × (Int × (List Int × (Int × Unit))))) a354 => (Xc.bind (Xc.bind (Xc.bind (Xc.bind (mulX g353.2.2.2.1 (31 : Int)) fun t355 => (Xc.ok (t355 + a354))) fun t356 => (Xc.ok t356)) fun t357 => (modX t357 (1000003 : Int))) fun t358 => (Xc.ok (g353.1, (g353.2.1, (g353.2.2.1, (t358, ()))))))) g346.1 (g346.1, (g346.2.1, (g346.2.2.1, (vseed_347, ()))))) fun (g360 : ((List Int) × (Int × (List Int × (Int × Unit))))) => (Xc.bind (Xc.bind (rngX 0 g360.2.1) fun t402 => (foldX (fun (g380 : ((List Int) × (Int × (List Int × (Int × Unit))))) a381 => (Xc.bind (if (decide (((HasLen.len g380.2.2.1 : Nat) : Int) < g380.2.1)) = true then (Xc.bind (Xc.bind (Xc.bind (Xc.bind (mulX g380.2.2.2.1 (48271 : Int)) fun t390 => (Xc.ok (t390 + (69621 : Int)))) fun t391 => (Xc.ok t391)) fun t392 => (modX t392 (2147483647 : Int))) fun t393 => (Xc.bind (Xc.bind (fdvX t393 (1000 : Int)) fun t394 => (modX t394 (1000 : Int))) fun t396 => (Xc.bind (appX g380.2.2.1 t396) fun t397 => (Xc.ok (g380.1, (g380.2.1, (t397, (a381, (t393, ()))))))))) else (Xc.ok (g380.1, (g380.2.1, (g380.2.2.1, (a381, (g380.2.2.2.1, ()))))))) fun (g399 : ((List Int) × (Int × (List Int × (Int × (Int × Unit)))))) => (Xc.ok (g399.1, (g399.2.1, (g399.2.2.1, (g399.2.2.2.2.1, ()))))))) t402 (g360.1, (g360.2.1, (g360.2.2.1, (g360.2.2.2.1, ())))))) fun (g401 : ((List Int) × (Int × (List Int × (Int × Unit))))) => (Xc.ok g401.2.2.1)))))
def m__law_gcd (z : Int × Int × Unit) : Xc Int := (Xc.bind (Xc.bind (Xc.bind (mulX (2 : Int) ((Builtin.Int.intBits (absI z.2.1) : Nat) : Int)) fun t409 => (Xc.ok (t409 + (2 : Int)))) fun t410 => (rngX 0 t410)) fun t415 => (forK (forX (fun (g408 : (Int × (Int × Unit))) a411 => (if (decide (g408.2.1 = (0 : Int))) = true then (Xc.ok (Lp.rt g408.1)) else (Xc.bind (modX g408.1 g408.2.1) fun t413 => (Xc.ok (Lp.ct (g408.2.1, (t413, ()))))))) t415 ((absI z.1), ((absI z.2.1), ()))) id fun (g414 : (Int × (Int × Unit))) => (Xc.ok g414.1)))
def m__law_low (z : Int × Int × Unit) : Xc (Int × Int) := (Xc.bind (m__law_gcd (z.1, (z.2.1, ()))) fun t416 => (Xc.bind (if (decide (z.2.1 < (0 : Int))) = true then (Xc.ok (z.1, (z.2.1, ((-t416), ())))) else (Xc.ok (z.1, (z.2.1, (t416, ()))))) fun (g418 : (Int × (Int × (Int × Unit)))) => (Xc.bind (fdvX g418.1 g418.2.2.1) fun t419 => (Xc.bind (fdvX g418.2.1 g418.2.2.1) fun t420 => (Xc.ok (t419, t420))))))
def m__law_same (z : (Int × Int) × (Int × Int) × Unit) : Xc Bool := (Xc.bind (Xc.bind (Xc.bind (isiX (HasTy.ty z.1) "tuple") fun t421 => (Xc.ok (!t421))) fun t422 => (if t422 = true then Xc.ok true else (Xc.ok (!decide (((HasLen.len z.1 : Nat) : Int) = (2 : Int)))))) fun t447 => (if t447 = true then (Xc.ok false) else (Xc.bind (rngX 0 (2 : Int)) fun t446 => (forK (forX (fun (g434 : ((Int × Int) × ((Int × Int) × Unit))) a435 => (Xc.bind (Xc.bind (Xc.bind (Xc.bind (getX [g434.1.1, g434.1.2] a435) fun t436 => (isiX (HasTy.ty t436) "int")) fun t437 => (Xc.ok (!t437))) fun t442 => (if t442 = true then Xc.ok true else (Xc.bind (Xc.bind (getX [g434.1.1, g434.1.2] a435) fun t438 => (isiX (HasTy.ty t438) "bool")) fun t441 => (if t441 = true then Xc.ok true else (Xc.bind (getX [g434.1.1, g434.1.2] a435) fun t439 => (Xc.bind (getX [g434.2.1.1, g434.2.1.2] a435) fun t440 => (Xc.ok (!decide (t439 = t440))))))))) fun t444 => (if t444 = true then (Xc.ok (Lp.rt false)) else (Xc.ok (Lp.ct (g434.1, (g434.2.1, ()))))))) t446 (z.1, (z.2.1, ()))) id fun (g445 : ((Int × Int) × ((Int × Int) × Unit))) => (Xc.ok true)))))
def m__law_integer (z : Int × Int × Unit) : Xc Bool := (Xc.bind (isiX (HasTy.ty z.1) "int") fun t450 => (if t450 = true then (Xc.bind (Xc.bind (isiX (HasTy.ty z.1) "bool") fun t448 => (Xc.ok (!t448))) fun t449 => (if t449 = true then (Xc.ok (decide (z.1 = z.2.1))) else Xc.ok false)) else Xc.ok false))
def m__law_truth (z : Bool × Bool × Unit) : Xc Bool := (Xc.bind (isiX (HasTy.ty z.1) "bool") fun t451 => (if t451 = true then (Xc.ok (decide (z.1 = z.2.1))) else Xc.ok false))
def m__law_parts (z : (List Int) × Int × Unit) : Xc (Int × Int) := (Xc.bind (Xc.bind (getX z.1 z.2.1) fun t455 => (Xc.bind (Xc.bind (Xc.bind (Xc.bind (getX z.1 (z.2.1 + (1 : Int))) fun t452 => (modX t452 (2 : Int))) fun t453 => (mulX (2 : Int) t453)) fun t454 => (Xc.ok ((1 : Int) - t454))) fun t456 => (mulX t455 t456))) fun t457 => (Xc.bind (Xc.bind (Xc.bind (getX z.1 (z.2.1 + (2 : Int))) fun t458 => (modX t458 (999 : Int))) fun t459 => (Xc.ok ((1 : Int) + t459))) fun t460 => (Xc.bind (Xc.bind (Xc.bind (Xc.bind (Xc.bind (getX z.1 (z.2.1 + (1 : Int))) fun t461 => (fdvX t461 (2 : Int))) fun t462 => (modX t462 (4 : Int))) fun t463 => (Xc.ok (decide (t463 = (1 : Int))))) fun t473 => (if t473 = true then (Xc.bind (Xc.bind (Xc.bind (powX (10 : Int) (35 : Int)) fun t468 => (mulX t457 t468)) fun t469 => (Xc.bind (getX z.1 (z.2.1 + (2 : Int))) fun t470 => (Xc.ok (t469 + t470)))) fun t471 => (Xc.ok (z.1, (z.2.1, (t471, (t460, ())))))) else (Xc.ok (z.1, (z.2.1, (t457, (t460, ()))))))) fun (g474 : ((List Int) × (Int × (Int × (Int × Unit))))) => (Xc.bind (Xc.bind (Xc.bind (Xc.bind (Xc.bind (getX g474.1 (g474.2.1 + (1 : Int))) fun t475 => (fdvX t475 (8 : Int))) fun t476 => (modX t476 (4 : Int))) fun t477 => (Xc.ok (decide (t477 = (1 : Int))))) fun t487 => (if t487 = true then (Xc.bind (Xc.bind (Xc.bind (powX (10 : Int) (35 : Int)) fun t482 => (mulX g474.2.2.2.1 t482)) fun t483 => (Xc.bind (getX g474.1 g474.2.1) fun t484 => (Xc.ok (t483 + t484)))) fun t485 => (Xc.ok (g474.1, (g474.2.1, (g474.2.2.1, (t485, ())))))) else (Xc.ok (g474.1, (g474.2.1, (g474.2.2.1, (g474.2.2.2.1, ()))))))) fun (g488 : ((List Int) × (Int × (Int × (Int × Unit))))) => (Xc.bind (Xc.bind (Xc.bind (Xc.bind (Xc.bind (getX g488.1 (g488.2.1 + (1 : Int))) fun t489 => (fdvX t489 (32 : Int))) fun t490 => (modX t490 (6 : Int))) fun t491 => (Xc.ok (decide (t491 = (2 : Int))))) fun t493 => (if t493 = true then (Xc.ok (g488.1, (g488.2.1, ((0 : Int), (g488.2.2.2.1, ()))))) else (Xc.ok (g488.1, (g488.2.1, (g488.2.2.1, (g488.2.2.2.1, ()))))))) fun (g494 : ((List Int) × (Int × (Int × (Int × Unit))))) => (Xc.ok (g494.2.2.1, g494.2.2.2.1)))))))
def m__law_raises_i (z : Str × Int × Unit) : Xc Bool := (joinM (catM (catch1 "BadNumber") (if (decide (z.1 = ("ratio" : Str))) = true then (Xc.bind (m_ratio (z.2.1, ((0 : Int), ()))) fun t508 => (Xc.ok (Sum.inl (z.1, (z.2.1, ()))))) else (if (decide (z.1 = ("divide" : Str))) = true then Xc.no else Xc.no)) fun cc => (Xc.bind (if true = true then (if true = true then (Xc.ok (!false)) else Xc.ok false) else Xc.ok false) fun t510 => (Xc.ok (Sum.inr t510)))) fun (g511 : (Str × (Int × Unit))) => (Xc.ok false))
def m__law_raises_q (z : Str × (Int × Int) × Unit) : Xc Bool := (joinM (catM (catch1 "BadNumber") (if (decide (z.1 = ("ratio" : Str))) = true then Xc.no else (if (decide (z.1 = ("divide" : Str))) = true then (Xc.bind (m_divide (z.2.1, (((0 : Int), (1 : Int)), ()))) fun t538 => (Xc.ok (Sum.inl (z.1, (z.2.1, ()))))) else Xc.no)) fun cc => (Xc.bind (if true = true then (if true = true then (Xc.ok (!false)) else Xc.ok false) else Xc.ok false) fun t539 => (Xc.ok (Sum.inr t539)))) fun (g540 : (Str × ((Int × Int) × Unit))) => (Xc.ok false))
def m__law_raises_s (z : Str × Str × Unit) : Xc Bool := (joinM (catM (catch1 "BadNumber") (if (decide (z.1 = ("ratio" : Str))) = true then Xc.no else (if (decide (z.1 = ("divide" : Str))) = true then Xc.no else (Xc.bind (m_read_number (z.2.1, ())) fun t561 => (Xc.ok (Sum.inl (z.1, (z.2.1, ()))))))) fun cc => (Xc.bind (if true = true then (if true = true then (Xc.ok (!false)) else Xc.ok false) else Xc.ok false) fun t562 => (Xc.ok (Sum.inr t562)))) fun (g563 : (Str × (Str × Unit))) => (Xc.ok false))
def m__law_written (z : (Int × Int) × Unit) : Xc Str := (if (decide (z.1.2 = (1 : Int))) = true then (strX z.1.1) else (Xc.bind (Xc.bind (strX z.1.1) fun t565 => (catS t565 ("/" : Str))) fun t566 => (Xc.bind (strX z.1.2) fun t567 => (catS t566 t567))))
def m__law_digits (z : Str × Unit) : Xc Int := (Xc.bind (if (decide (((HasLen.len z.1 : Nat) : Int) < (1 : Int))) = true then Xc.ok true else (if (decide ((40 : Int) < ((HasLen.len z.1 : Nat) : Int))) = true then Xc.ok true else (Xc.bind (Xc.bind (compX (fun a568 => (Xc.bind (inSg a568 ("0123456789" : Str)) fun t => Xc.ok (!t))) (fun a568 => (Xc.ok a568)) (signs z.1)) fun t569 => (Xc.ok ((HasLen.len t569 : Nat) : Int))) fun t570 => (Xc.ok (decide ((0 : Int) < t570)))))) fun t576 => (if t576 = true then (Xc.ok (-(1 : Int))) else (Xc.bind (Xc.bind (Xc.bind (chX z.1 (0 : Int)) fun t572 => (Xc.ok (decide (t572 = ("0" : Str))))) fun t573 => (if t573 = true then (Xc.ok (decide ((1 : Int) < ((HasLen.len z.1 : Nat) : Int)))) else Xc.ok false)) fun t575 => (if t575 = true then (Xc.ok (-(1 : Int))) else (intX z.1)))))
def m__law_read (z : Str × Unit) : Xc (Option (Int × Int)) := (let vat_577 : Int := (Txt.find z.1 ("/" : Str)); (let k581 := fun (g585 : (Str × (Int × (Str × (Int × Unit))))) => (Xc.bind (if (decide ((cutS g585.2.2.1 none (some (1 : Int))) = ("-" : Str))) = true then (let vhead_587 : Str := (cutS g585.2.2.1 (some (1 : Int)) none); (Xc.ok (g585.1, (g585.2.1, (vhead_587, (g585.2.2.2.1, ((-(1 : Int)), ()))))))) else (Xc.ok (g585.1, (g585.2.1, (g585.2.2.1, (g585.2.2.2.1, ((1 : Int), ()))))))) fun (g589 : (Str × (Int × (Str × (Int × (Int × Unit)))))) => (Xc.bind (m__law_digits (g589.2.2.1, ())) fun t590 => (Xc.bind (if (decide (t590 < (0 : Int))) = true then Xc.ok true else (Xc.bind (if (decide (t590 = (0 : Int))) = true then (if (decide (g589.2.2.2.2.1 < (0 : Int))) = true then Xc.ok true else (Xc.ok (decide ((1 : Int) < g589.2.2.2.1)))) else Xc.ok false) fun t593 => (if t593 = true then Xc.ok true else (Xc.bind (Xc.bind (m__law_gcd (t590, (g589.2.2.2.1, ()))) fun t591 => (Xc.ok (!decide (t591 = (1 : Int))))) fun t592 => (if t592 = true then (Xc.ok (decide ((1 : Int) < g589.2.2.2.1))) else Xc.ok false))))) fun t597 => (if t597 = true then (Xc.ok (none : Option (Int × Int))) else (Xc.bind (Xc.bind (mulX g589.2.2.2.2.1 t590) fun t595 => (Xc.ok (t595, g589.2.2.2.1))) fun t596 => (Xc.ok (some t596))))))); (if (decide ((0 : Int) ≤ vat_577)) = true then (let vhead_582 : Str := (cutS z.1 none (some vat_577)); (Xc.bind (m__law_digits ((cutS z.1 (some (vat_577 + (1 : Int))) none), ())) fun t583 => (if (decide (t583 < (2 : Int))) = true then (Xc.ok (none : Option (Int × Int))) else (k581 (z.1, (vat_577, (vhead_582, (t583, ())))))))) else (k581 (z.1, (vat_577, (z.1, ((1 : Int), ()))))))))
def m__law_text (z : Str × Unit) : Xc Bool := (Xc.bind (m__law_read (z.1, ())) fun t598 => (if (Option.isNone t598) = true then (m__law_raises_s (("read" : Str), (z.1, ()))) else (Xc.bind (Xc.bind (m_read_number (z.1, ())) fun t601 => (Xc.bind (Xc.bind (someX t598) fun t600 => (Xc.ok (t600, ()))) fun t602 => (Xc.ok (t601, t602)))) fun t603 => (m__law_same t603))))
def m__law_first (z : (List (Int × Int)) × Int × Unit) : Xc (Int × Int) := (Xc.bind (getX z.1 (0 : Int)) fun t604 => (Xc.bind (foldX (fun (g613 : ((List (Int × Int)) × (Int × ((Int × Int) × Unit)))) a614 => (Xc.bind (Xc.bind (Xc.bind (Xc.bind (Xc.bind (mulX a614.1 g613.2.2.1.2) fun t615 => (Xc.bind (mulX g613.2.2.1.1 a614.2) fun t616 => (Xc.ok (t615 - t616)))) fun t617 => (mulX g613.2.1 t617)) fun t618 => (Xc.ok (decide (t618 < (0 : Int))))) fun t620 => (if t620 = true then (Xc.ok (g613.1, (g613.2.1, (a614, (a614, ()))))) else (Xc.ok (g613.1, (g613.2.1, (g613.2.2.1, (a614, ()))))))) fun (g621 : ((List (Int × Int)) × (Int × ((Int × Int) × ((Int × Int) × Unit))))) => (Xc.ok (g621.1, (g621.2.1, (g621.2.2.1, ())))))) z.1 (z.1, (z.2.1, (t604, ())))) fun (g623 : ((List (Int × Int)) × (Int × ((Int × Int) × Unit)))) => (Xc.ok g623.2.2.1)))
def m__law_pair (z : (Int × Int) × (Int × Int) × Unit) : Xc Bool := (Xc.bind (Xc.bind (Xc.bind (Xc.bind (m_add (z.1, (z.2.1, ()))) fun t631 => (Xc.bind (Xc.bind (Xc.bind (Xc.bind (Xc.bind (mulX z.1.1 z.2.1.2) fun t624 => (Xc.bind (mulX z.2.1.1 z.1.2) fun t625 => (Xc.ok (t624 + t625)))) fun t627 => (Xc.bind (Xc.bind (mulX z.1.2 z.2.1.2) fun t626 => (Xc.ok (t626, ()))) fun t628 => (Xc.ok (t627, t628)))) fun t629 => (m__law_low t629)) fun t630 => (Xc.ok (t630, ()))) fun t632 => (Xc.ok (t631, t632)))) fun t633 => (m__law_same t633)) fun t634 => (Xc.ok (!t634))) fun t699 => (if t699 = true then (Xc.ok false) else (Xc.bind (Xc.bind (Xc.bind (Xc.bind (m_subtract (z.1, (z.2.1, ()))) fun t643 => (Xc.bind (Xc.bind (Xc.bind (Xc.bind (Xc.bind (mulX z.1.1 z.2.1.2) fun t636 => (Xc.bind (mulX z.2.1.1 z.1.2) fun t637 => (Xc.ok (t636 - t637)))) fun t639 => (Xc.bind (Xc.bind (mulX z.1.2 z.2.1.2) fun t638 => (Xc.ok (t638, ()))) fun t640 => (Xc.ok (t639, t640)))) fun t641 => (m__law_low t641)) fun t642 => (Xc.ok (t642, ()))) fun t644 => (Xc.ok (t643, t644)))) fun t645 => (m__law_same t645)) fun t646 => (Xc.ok (!t646))) fun t698 => (if t698 = true then (Xc.ok false) else (Xc.bind (Xc.bind (Xc.bind (Xc.bind (Xc.bind (m_multiply (z.1, (z.2.1, ()))) fun t653 => (Xc.bind (Xc.bind (Xc.bind (Xc.bind (mulX z.1.1 z.2.1.1) fun t649 => (Xc.bind (Xc.bind (mulX z.1.2 z.2.1.2) fun t648 => (Xc.ok (t648, ()))) fun t650 => (Xc.ok (t649, t650)))) fun t651 => (m__law_low t651)) fun t652 => (Xc.ok (t652, ()))) fun t654 => (Xc.ok (t653, t654)))) fun t655 => (m__law_same t655)) fun t656 => (Xc.ok (!t656))) fun t660 => (if t660 = true then Xc.ok true else (Xc.bind (Xc.bind (Xc.bind (m_negate (z.1, ())) fun t657 => (Xc.ok (t657, (((-z.1.1), z.1.2), ())))) fun t658 => (m__law_same t658)) fun t659 => (Xc.ok (!t659))))) fun t697 => (if t697 = true then (Xc.ok false) else (let k676 := fun (g691 : ((Int × Int) × ((Int × Int) × (Int × (Int × (Int × (Int × Unit))))))) => (Xc.bind (Xc.bind (mulX g691.2.2.1 g691.2.2.2.2.2.1) fun t692 => (Xc.bind (mulX g691.2.2.2.2.1 g691.2.2.2.1) fun t693 => (Xc.ok (t692 - t693)))) fun t694 => (Xc.bind (Xc.bind (m_compare (g691.1, (g691.2.1, ()))) fun t695 => (Xc.ok (t695, (((if (decide ((0 : Int) < t694)) = true then (1 : Int) else 0) - (if (decide (t694 < (0 : Int))) = true then (1 : Int) else 0)), ())))) fun t696 => (m__law_integer t696))); (if (decide (z.2.1.1 = (0 : Int))) = true then (Xc.bind (Xc.bind (m__law_raises_q (("divide" : Str), (z.1, ()))) fun t677 => (Xc.ok (!t677))) fun t679 => (if t679 = true then (Xc.ok false) else (k676 (z.1, (z.2.1, (z.1.1, (z.1.2, (z.2.1.1, (z.2.1.2, ()))))))))) else (Xc.bind (Xc.bind (Xc.bind (Xc.bind (m_divide (z.1, (z.2.1, ()))) fun t685 => (Xc.bind (Xc.bind (Xc.bind (Xc.bind (mulX z.1.1 z.2.1.2) fun t681 => (Xc.bind (Xc.bind (mulX z.1.2 z.2.1.1) fun t680 => (Xc.ok (t680, ()))) fun t682 => (Xc.ok (t681, t682)))) fun t683 => (m__law_low t683)) fun t684 => (Xc.ok (t684, ()))) fun t686 => (Xc.ok (t685, t686)))) fun t687 => (m__law_same t687)) fun t688 => (Xc.ok (!t688))) fun t690 => (if t690 = true then (Xc.ok false) else (k676 (z.1, (z.2.1, (z.1.1, (z.1.2, (z.2.1.1, (z.2.1.2, ())))))))))))))))))
def m_law (z : (List Int) × Unit) : Xc Bool := (Xc.bind (m__law_draws (z.1, ((48 : Int), ()))) fun t700 => (Xc.bind (Xc.bind (rngX 0 (8 : Int)) fun t705 => (compX (fun a701 => (Xc.ok true)) (fun a701 => (Xc.bind (Xc.bind (Xc.bind (mulX (3 : Int) a701) fun t702 => (Xc.ok (t702, ()))) fun t703 => (Xc.ok (t700, t703))) fun t704 => (m__law_parts t704))) t705)) fun t706 => (Xc.bind (compX (fun a707 => (Xc.ok true)) (fun a707 => (m__law_low (a707.1, (a707.2, ())))) t706) fun t708 => (Xc.bind (Xc.bind (Xc.bind (Xc.bind (getX t700 (24 : Int)) fun t709 => (modX t709 (4 : Int))) fun t710 => (Xc.ok (decide (t710 = (0 : Int))))) fun t716 => (if t716 = true then (Xc.bind (getX t708 (0 : Int)) fun t713 => (Xc.bind (setX t708 (1 : Int) t713) fun t714 => (Xc.ok (z.1, (t700, (t706, (t714, ()))))))) else (Xc.ok (z.1, (t700, (t706, (t708, ()))))))) fun (g717 : ((List Int) × ((List Int) × ((List (Int × Int)) × (List (Int × Int) × Unit))))) => (Xc.bind (getX g717.2.2.2.1 (0 : Int)) fun t718 => (Xc.bind (getX g717.2.2.2.1 (1 : Int)) fun t719 => (Xc.bind (Xc.bind (szX ((1 : Int) :: ((-(1 : Int)) :: ((6 : Int) :: ((-(35 : Int)) :: ((12 : Int) :: ([] : List Int))))))) fun t721 => (Xc.bind (Xc.bind (getX g717.2.1 (25 : Int)) fun t720 => (modX t720 (5 : Int))) fun t722 => (getX t721 t722))) fun t723 => (Xc.bind (Xc.bind (Xc.bind (Xc.bind (Xc.bind (Xc.bind (Xc.bind (Xc.bind (getX g717.2.2.1 (0 : Int)) fun t724 => (Xc.ok t724.1)) fun t725 => (mulX t723 t725)) fun t729 => (Xc.bind (Xc.bind (Xc.bind (Xc.bind (getX g717.2.2.1 (0 : Int)) fun t726 => (Xc.ok t726.2)) fun t727 => (mulX t723 t727)) fun t728 => (Xc.ok (t728, ()))) fun t730 => (Xc.ok (t729, t730)))) fun t731 => (m_ratio t731)) fun t739 => (Xc.bind (Xc.bind (Xc.bind (Xc.bind (Xc.bind (getX g717.2.2.1 (0 : Int)) fun t732 => (Xc.ok t732.1)) fun t735 => (Xc.bind (Xc.bind (Xc.bind (getX g717.2.2.1 (0 : Int)) fun t733 => (Xc.ok t733.2)) fun t734 => (Xc.ok (t734, ()))) fun t736 => (Xc.ok (t735, t736)))) fun t737 => (m__law_low t737)) fun t738 => (Xc.ok (t738, ()))) fun t740 => (Xc.ok (t739, t740)))) fun t741 => (m__law_same t741)) fun t742 => (Xc.ok (!t742))) fun t881 => (if t881 = true then (Xc.ok false) else (Xc.bind (Xc.bind (Xc.bind (m__law_pair (t718, (t719, ()))) fun t744 => (Xc.ok (!t744))) fun t748 => (if t748 = true then Xc.ok true else (Xc.bind (Xc.bind (m__law_pair (t719, (t718, ()))) fun t745 => (Xc.ok (!t745))) fun t747 => (if t747 = true then Xc.ok true else (Xc.bind (m__law_pair (t718, (t718, ()))) fun t746 => (Xc.ok (!t746))))))) fun t880 => (if t880 = true then (Xc.ok false) else (Xc.bind (Xc.bind (Xc.bind (Xc.bind (Xc.bind (Xc.bind (getX g717.2.2.1 (0 : Int)) fun t750 => (Xc.ok t750.1)) fun t751 => (Xc.ok (t751, ()))) fun t752 => (Xc.ok (("ratio" : Str), t752))) fun t753 => (m__law_raises_i t753)) fun t754 => (Xc.ok (!t754))) fun t879 => (if t879 = true then (Xc.ok false) else (Xc.bind (Xc.bind (Xc.bind (Xc.bind (Xc.bind (getX g717.2.1 (26 : Int)) fun t756 => (modX t756 (7 : Int))) fun t757 => (Xc.ok ((2 : Int) + t757))) fun t758 => (Xc.ok (some t758))) fun t759 => (Xc.ok (cutL g717.2.2.2.1 (some (2 : Int)) t759))) fun t760 => (Xc.bind (m_least (t760, ())) fun t761 => (Xc.bind (m_greatest (t760, ())) fun t762 => (Xc.bind (Xc.bind (Xc.bind (eqdX t760 t760) fun t => Xc.ok (!t)) fun t763 => (if t763 = true then Xc.ok true else (if (decide (((HasLen.len t760 : Nat) : Int) = (0 : Int))) = true then (if (!Option.isNone t761) = true then Xc.ok true else (Xc.ok (!Option.isNone t762))) else Xc.ok false))) fun t878 => (if t878 = true then (Xc.ok false) else (let k778 := fun (g792 : ((List Int) × ((List Int) × ((List (Int × Int)) × ((List (Int × Int)) × ((Int × Int) × ((Int × Int) × (Int × ((List (Int × Int)) × ((List (Int × Int)) × ((Option (Int × Int)) × ((Option (Int × Int)) × Unit)))))))))))) => (Xc.bind (m__law_written (g792.2.2.2.2.1, ())) fun t793 => (Xc.bind (m_show_number (g792.2.2.2.2.1, ())) fun t794 => (Xc.bind (Xc.bind (Xc.bind (isiX (HasTy.ty t794) "str") fun t795 => (Xc.ok (!t795))) fun t799 => (if t799 = true then Xc.ok true else (if (!decide (t794 = t793)) = true then Xc.ok true else (Xc.bind (Xc.bind (Xc.bind (m_read_number (t793, ())) fun t796 => (Xc.ok (t796, (g792.2.2.2.2.1, ())))) fun t797 => (m__law_same t797)) fun t798 => (Xc.ok (!t798)))))) fun t877 => (if t877 = true then (Xc.ok false) else (Xc.bind (Xc.bind (szX (("0" : Str) :: (("1" : Str) :: (("9" : Str) :: (("-" : Str) :: (("/" : Str) :: ((" " : Str) :: (("+" : Str) :: (("." : Str) :: (("x" : Str) :: (("\n" : Str) :: (("" : Str) :: (("/1" : Str) :: (("/6" : Str) :: (("-0" : Str) :: ([] : List Str)))))))))))))))) fun t802 => (Xc.bind (Xc.bind (getX g792.2.1 (27 : Int)) fun t801 => (modX t801 (14 : Int))) fun t803 => (getX t802 t803))) fun t804 => (Xc.bind (Xc.bind (getX g792.2.1 (28 : Int)) fun t805 => (modX t805 (((HasLen.len t793 : Nat) : Int) + (1 : Int)))) fun t806 => (Xc.bind (Xc.bind (Xc.bind (Xc.bind (Xc.bind (Xc.bind (catS (cutS t793 none (some t806)) t804) fun t807 => (catS t807 (cutS t793 (some t806) none))) fun t808 => (Xc.ok (t808, ()))) fun t809 => (m__law_text t809)) fun t810 => (Xc.ok (!t810))) fun t814 => (if t814 = true then Xc.ok true else (Xc.bind (Xc.bind (Xc.bind (catS (cutS t793 none (some t806)) (cutS t793 (some (t806 + (1 : Int))) none)) fun t811 => (Xc.ok (t811, ()))) fun t812 => (m__law_text t812)) fun t813 => (Xc.ok (!t813))))) fun t876 => (if t876 = true then (Xc.ok false) else (Xc.bind (Xc.bind (Xc.bind (Xc.bind (getX g792.2.1 (29 : Int)) fun t816 => (modX t816 (5 : Int))) fun t817 => (Xc.ok ((38 : Int) + t817))) fun t818 => (mulS ("7" : Str) t818)) fun t819 => (Xc.bind (Xc.bind (Xc.bind (m__law_text (t819, ())) fun t820 => (Xc.ok (!t820))) fun t832 => (if t832 = true then Xc.ok true else (Xc.bind (Xc.bind (Xc.bind (Xc.bind (catS ("-" : Str) t819) fun t821 => (Xc.ok (t821, ()))) fun t822 => (m__law_text t822)) fun t823 => (Xc.ok (!t823))) fun t831 => (if t831 = true then Xc.ok true else (Xc.bind (Xc.bind (Xc.bind (Xc.bind (catS ("1/" : Str) t819) fun t824 => (Xc.ok (t824, ()))) fun t825 => (m__law_text t825)) fun t826 => (Xc.ok (!t826))) fun t830 => (if t830 = true then Xc.ok true else (Xc.bind (Xc.bind (Xc.bind (catS ("-5/" : Str) t819) fun t827 => (Xc.ok (t827, ()))) fun t828 => (m__law_text t828)) fun t829 => (Xc.ok (!t829))))))))) fun t875 => (if t875 = true then (Xc.ok false) else (Xc.bind (Xc.bind (Xc.bind (Xc.bind (Xc.bind (mulX (2 : Int) g792.2.2.2.2.1.1) fun t834 => (Xc.bind (mulX (2 : Int) g792.2.2.2.2.1.2) fun t835 => (Xc.ok (t834, t835)))) fun t836 => (datX t836)) fun t852 => (Xc.bind (Xc.bind (datX (g792.2.2.2.2.1.1, (-g792.2.2.2.2.1.2))) fun t850 => (Xc.bind (Xc.bind (Xc.bind (szX (g792.2.2.2.2.1.1 :: (g792.2.2.2.2.1.2 :: ([] : List Int)))) fun t837 => (datX t837)) fun t848 => (Xc.bind (Xc.bind (datX ((1 : Int), true)) fun t846 => (Xc.bind (Xc.bind (Xc.bind (Xc.bind (szX (g792.2.2.2.2.1.1 :: ([] : List Int))) fun l => Xc.ok (tu l)) fun t838 => (datX t838)) fun t844 => (Xc.bind (Xc.bind (datX ((1 : Int), (0 : Int))) fun t842 => (Xc.bind (Xc.bind (datX ()) fun t840 => (Xc.bind (Xc.bind (datX g792.2.2.2.2.1.1) fun t839 => (Xc.ok (t839 :: ([] : List PyData)))) fun t841 => (Xc.ok (t840 :: t841)))) fun t843 => (Xc.ok (t842 :: t843)))) fun t845 => (Xc.ok (t844 :: t845)))) fun t847 => (Xc.ok (t846 :: t847)))) fun t849 => (Xc.ok (t848 :: t849)))) fun t851 => (Xc.ok (t850 :: t851)))) fun t853 => (Xc.ok (t852 :: t853)))) fun t854 => (szX t854)) fun t855 => (forK (forX (fun (g862 : ((List Int) × ((List Int) × ((List (Int × Int)) × ((List (Int × Int)) × ((Int × Int) × ((Int × Int) × (Int × ((List (Int × Int)) × ((List (Int × Int)) × ((Option (Int × Int)) × ((Option (Int × Int)) × (Str × (Str × (Str × (Int × (Str × ((List PyData) × Unit)))))))))))))))))) a863 => (Xc.bind (Xc.bind (Xc.bind (Xc.bind (m_is_number (a863, ())) fun t864 => (Xc.ok (t864, (false, ())))) fun t865 => (m__law_truth t865)) fun t866 => (Xc.ok (!t866))) fun t868 => (if t868 = true then (Xc.ok (Lp.rt false)) else (Xc.ok (Lp.ct (g862.1, (g862.2.1, (g862.2.2.1, (g862.2.2.2.1, (g862.2.2.2.2.1, (g862.2.2.2.2.2.1, (g862.2.2.2.2.2.2.1, (g862.2.2.2.2.2.2.2.1, (g862.2.2.2.2.2.2.2.2.1, (g862.2.2.2.2.2.2.2.2.2.1, (g862.2.2.2.2.2.2.2.2.2.2.1, (g862.2.2.2.2.2.2.2.2.2.2.2.1, (g862.2.2.2.2.2.2.2.2.2.2.2.2.1, (g862.2.2.2.2.2.2.2.2.2.2.2.2.2.1, (g862.2.2.2.2.2.2.2.2.2.2.2.2.2.2.1, (g862.2.2.2.2.2.2.2.2.2.2.2.2.2.2.2.1, (g862.2.2.2.2.2.2.2.2.2.2.2.2.2.2.2.2.1, ())))))))))))))))))))))) t855 (g792.1, (g792.2.1, (g792.2.2.1, (g792.2.2.2.1, (g792.2.2.2.2.1, (g792.2.2.2.2.2.1, (g792.2.2.2.2.2.2.1, (g792.2.2.2.2.2.2.2.1, (g792.2.2.2.2.2.2.2.2.1, (g792.2.2.2.2.2.2.2.2.2.1, (g792.2.2.2.2.2.2.2.2.2.2.1, (t793, (t794, (t804, (t806, (t819, (t855, ())))))))))))))))))) id fun (g869 : ((List Int) × ((List Int) × ((List (Int × Int)) × ((List (Int × Int)) × ((Int × Int) × ((Int × Int) × (Int × ((List (Int × Int)) × ((List (Int × Int)) × ((Option (Int × Int)) × ((Option (Int × Int)) × (Str × (Str × (Str × (Int × (Str × ((List PyData) × Unit)))))))))))))))))) => (Xc.bind (Xc.bind (Xc.bind (Xc.bind (Xc.bind (datX g869.2.2.2.2.1) fun t870 => (Xc.ok (t870, ()))) fun t871 => (m_is_number t871)) fun t872 => (Xc.ok (t872, (true, ())))) fun t873 => (m__law_truth t873)) fun t874 => (if t874 = true then (m__law_text (("" : Str), ())) else Xc.ok false))))))))))))))); (if (decide ((0 : Int) < ((HasLen.len t760 : Nat) : Int))) = true then (Xc.bind (Xc.bind (Xc.bind (Xc.bind (Xc.bind (someX t761) fun t780 => (Xc.bind (Xc.bind (m__law_first (t760, ((1 : Int), ()))) fun t779 => (Xc.ok (t779, ()))) fun t781 => (Xc.ok (t780, t781)))) fun t782 => (m__law_same t782)) fun t783 => (Xc.ok (!t783))) fun t789 => (if t789 = true then Xc.ok true else (Xc.bind (Xc.bind (Xc.bind (someX t762) fun t785 => (Xc.bind (Xc.bind (m__law_first (t760, ((-(1 : Int)), ()))) fun t784 => (Xc.ok (t784, ()))) fun t786 => (Xc.ok (t785, t786)))) fun t787 => (m__law_same t787)) fun t788 => (Xc.ok (!t788))))) fun t791 => (if t791 = true then (Xc.ok false) else (k778 (g717.1, (g717.2.1, (g717.2.2.1, (g717.2.2.2.1, (t718, (t719, (t723, (t760, (t760, (t761, (t762, ())))))))))))))) else (k778 (g717.1, (g717.2.1, (g717.2.2.1, (g717.2.2.2.1, (t718, (t719, (t723, (t760, (t760, (t761, (t762, ()))))))))))))))))))))))))))))))))
structure T0 (K : PySem.W.Frag) (mg : Str → Option Value) : Prop where
  f_ValueError : mg "ValueError" = none
  f_abs : mg "abs" = none
  f_bool : mg "bool" = none
  f_int : mg "int" = none
  f_isinstance : mg "isinstance" = none
  f_len : mg "len" = none
  f_list : mg "list" = none
  f_range : mg "range" = none
  f_str : mg "str" = none
  f_tuple : mg "tuple" = none
  gcd : mg "gcd" = some (.builtin "math.gcd")
  g_BadNumber : mg "BadNumber" = some (.ref (He.ga K "BadNumber"))
  g_BadText : mg "BadText" = some (.ref (He.ga K "BadText"))
  g_LeaderError : mg "LeaderError" = some (.ref (He.ga K "LeaderError"))
  x_BadNumber : Xk K mg "BadNumber"
  c_DIGITS : ∃ t, mg "DIGITS" = some (.str "0123456789" t)
  c_LONGEST : ∃ t, mg "LONGEST" = some (.int 40 t)
  m_BadNumber_BadNumber : PySem.W.exmOne K (.ref (He.ga K "BadNumber")) (.ref (He.ga K "BadNumber")) = some true
  e_BadNumber : ExcC K (He.ga K "BadNumber")
  k_BadNumber_BadText : PySem.W.kitOne K (.ref (He.ga K "BadNumber")) (.ref (He.ga K "BadText")) = some false
  k_BadNumber_LeaderError : PySem.W.kitOne K (.ref (He.ga K "BadNumber")) (.ref (He.ga K "LeaderError")) = some true
  k_BadNumber_ValueError : PySem.W.kitOne K (.ref (He.ga K "BadNumber")) (.type "ValueError") = some true
end LW

namespace LW
open PySem L2 FL
section
variable {P : Program} {w : World} {K : PySem.W.Frag} {mg : Str → Option Value} {base : Heap}
abbrev N_ratio : List Str := [("top" : Str), ("bottom" : Str), ("common" : Str)]
theorem sc_ratio : FnScope N_ratio [("top" : Str), ("bottom" : Str)] (defScope (top 8)) := ⟨rfl, rfl, rfl, by decide +kernel, rfl, by decide +kernel, by decide +kernel⟩
theorem d_ratio {f : Addr} {fd : FuncData} (Fd : FnP K "ratio" (top 8) f fd) (T : T0 K mg)  : FnOk P w K mg base (L2.CX P w) 1 f fd [("top" : Str), ("bottom" : Str)] (spF K (rtF (Int × Int)) m_ratio) :=
  fn_def (αs := Int × Int × Unit) (G' := nl) (n := 1) Fd sc_ratio rfl rfl (fun cdv A outer s F H E hr tk =>
    (fss_cons (fs_if (ft_eq (fe_var 1) fe_int) (fss_one (fs_rai tk T.x_BadNumber)) fss_nil)
    (fss_cons (fs_B (fn_set 2 rfl (fe_gcd (fe_var 0) (fe_var 1) T.gcd) sc_ratio.nd))
    (fss_cons (fs_n (fn_if (ft_lt (fe_var 1) fe_int) (fns_B (fn_set 2 rfl (fe_neg (fe_var 2)) sc_ratio.nd) fns_nil) fns_nil))
    (fss_one (fs_ret (fe_tup2 (fe_fdv (fe_var 0) (fe_var 2)) (fe_fdv (fe_var 1) (fe_var 2))))))))) (fun z => by simp only [bind_ok']; rfl)
abbrev N_add : List Str := [("first" : Str), ("second" : Str)]
theorem sc_add : FnScope N_add [("first" : Str), ("second" : Str)] (defScope (top 9)) := ⟨rfl, rfl, rfl, by decide +kernel, rfl, by decide +kernel, by decide +kernel⟩
theorem d_add {f : Addr} {fd : FuncData} (Fd : FnP K "add" (top 9) f fd) (T : T0 K mg) (D_ratio : Dk P w K mg base "ratio" [("top" : Str), ("bottom" : Str)] 1 (spF K (rtF (Int × Int)) m_ratio)) : FnOk P w K mg base (L2.CX P w) 2 f fd [("first" : Str), ("second" : Str)] (spF K (rtF (Int × Int)) m_add) :=
  fn_def (αs := (Int × Int) × (Int × Int) × Unit) (G' := nl) (n := 0) Fd sc_add rfl rfl (fun cdv A outer s F H E hr tk =>
    (fss_one (fs_ret (fe_cal D_ratio tk hr (fa_cons (fe_add (fe_mul (fe_p0 (fe_var 0)) (fe_p1 (fe_var 1))) (fe_mul (fe_p0 (fe_var 1)) (fe_p1 (fe_var 0)))) (fa_cons (fe_mul (fe_p1 (fe_var 0)) (fe_p1 (fe_var 1))) fa_nil)))))) (fun z => by simp only [bind_ok']; rfl)
abbrev N_subtract : List Str := [("first" : Str), ("second" : Str)]
theorem sc_subtract : FnScope N_subtract [("first" : Str), ("second" : Str)] (defScope (top 10)) := ⟨rfl, rfl, rfl, by decide +kernel, rfl, by decide +kernel, by decide +kernel⟩
theorem d_subtract {f : Addr} {fd : FuncData} (Fd : FnP K "subtract" (top 10) f fd) (T : T0 K mg) (D_ratio : Dk P w K mg base "ratio" [("top" : Str), ("bottom" : Str)] 1 (spF K (rtF (Int × Int)) m_ratio)) : FnOk P w K mg base (L2.CX P w) 2 f fd [("first" : Str), ("second" : Str)] (spF K (rtF (Int × Int)) m_subtract) :=
  fn_def (αs := (Int × Int) × (Int × Int) × Unit) (G' := nl) (n := 0) Fd sc_subtract rfl rfl (fun cdv A outer s F H E hr tk =>
    (fss_one (fs_ret (fe_cal D_ratio tk hr (fa_cons (fe_sub (fe_mul (fe_p0 (fe_var 0)) (fe_p1 (fe_var 1))) (fe_mul (fe_p0 (fe_var 1)) (fe_p1 (fe_var 0)))) (fa_cons (fe_mul (fe_p1 (fe_var 0)) (fe_p1 (fe_var 1))) fa_nil)))))) (fun z => by simp only [bind_ok']; rfl)
abbrev N_negate : List Str := [("number" : Str)]
theorem sc_negate : FnScope N_negate [("number" : Str)] (defScope (top 11)) := ⟨rfl, rfl, rfl, by decide +kernel, rfl, by decide +kernel, by decide +kernel⟩
theorem d_negate {f : Addr} {fd : FuncData} (Fd : FnP K "negate" (top 11) f fd) (T : T0 K mg)  : FnOk P w K mg base (L2.CX P w) 1 f fd [("number" : Str)] (spF K (rtF (Int × Int)) m_negate) :=
  fn_def (αs := (Int × Int) × Unit) (G' := nl) (n := 0) Fd sc_negate rfl rfl (fun cdv A outer s F H E hr tk =>
    (fss_one (fs_ret (fe_tup2 (fe_neg (fe_p0 (fe_var 0))) (fe_p1 (fe_var 0)))))) (fun z => by simp only [bind_ok']; rfl)
abbrev N_multiply : List Str := [("first" : Str), ("second" : Str)]
theorem sc_multiply : FnScope N_multiply [("first" : Str), ("second" : Str)] (defScope (top 12)) := ⟨rfl, rfl, rfl, by decide +kernel, rfl, by decide +kernel, by decide +kernel⟩
theorem d_multiply {f : Addr} {fd : FuncData} (Fd : FnP K "multiply" (top 12) f fd) (T : T0 K mg) (D_ratio : Dk P w K mg base "ratio" [("top" : Str), ("bottom" : Str)] 1 (spF K (rtF (Int × Int)) m_ratio)) : FnOk P w K mg base (L2.CX P w) 2 f fd [("first" : Str), ("second" : Str)] (spF K (rtF (Int × Int)) m_multiply) :=
  fn_def (αs := (Int × Int) × (Int × Int) × Unit) (G' := nl) (n := 0) Fd sc_multiply rfl rfl (fun cdv A outer s F H E hr tk =>
    (fss_one (fs_ret (fe_cal D_ratio tk hr (fa_cons (fe_mul (fe_p0 (fe_var 0)) (fe_p0 (fe_var 1))) (fa_cons (fe_mul (fe_p1 (fe_var 0)) (fe_p1 (fe_var 1))) fa_nil)))))) (fun z => by simp only [bind_ok']; rfl)
abbrev N_divide : List Str := [("first" : Str), ("second" : Str)]
theorem sc_divide : FnScope N_divide [("first" : Str), ("second" : Str)] (defScope (top 13)) := ⟨rfl, rfl, rfl, by decide +kernel, rfl, by decide +kernel, by decide +kernel⟩
theorem d_divide {f : Addr} {fd : FuncData} (Fd : FnP K "divide" (top 13) f fd) (T : T0 K mg) (D_ratio : Dk P w K mg base "ratio" [("top" : Str), ("bottom" : Str)] 1 (spF K (rtF (Int × Int)) m_ratio)) : FnOk P w K mg base (L2.CX P w) 2 f fd [("first" : Str), ("second" : Str)] (spF K (rtF (Int × Int)) m_divide) :=
  fn_def (αs := (Int × Int) × (Int × Int) × Unit) (G' := nl) (n := 0) Fd sc_divide rfl rfl (fun cdv A outer s F H E hr tk =>
    (fss_cons (fs_if (ft_eq (fe_p0 (fe_var 1)) fe_int) (fss_one (fs_rai tk T.x_BadNumber)) fss_nil)
    (fss_one (fs_ret (fe_cal D_ratio tk hr (fa_cons (fe_mul (fe_p0 (fe_var 0)) (fe_p1 (fe_var 1))) (fa_cons (fe_mul (fe_p1 (fe_var 0)) (fe_p0 (fe_var 1))) fa_nil))))))) (fun z => by simp only [bind_ok']; rfl)
abbrev N_compare : List Str := [("first" : Str), ("second" : Str), ("left" : Str), ("right" : Str)]
theorem sc_compare : FnScope N_compare [("first" : Str), ("second" : Str)] (defScope (top 14)) := ⟨rfl, rfl, rfl, by decide +kernel, rfl, by decide +kernel, by decide +kernel⟩
theorem d_compare {f : Addr} {fd : FuncData} (Fd : FnP K "compare" (top 14) f fd) (T : T0 K mg)  : FnOk P w K mg base (L2.CX P w) 1 f fd [("first" : Str), ("second" : Str)] (spF K (rtF Int) m_compare) :=
  fn_def (αs := (Int × Int) × (Int × Int) × Unit) (G' := nl) (n := 2) Fd sc_compare rfl rfl (fun cdv A outer s F H E hr tk =>
    (fss_cons (fs_B (fn_set 2 rfl (fe_mul (fe_p0 (fe_var 0)) (fe_p1 (fe_var 1))) sc_compare.nd))
    (fss_cons (fs_B (fn_set 3 rfl (fe_mul (fe_p0 (fe_var 1)) (fe_p1 (fe_var 0))) sc_compare.nd))
    (fss_cons (fs_if (ft_lt (fe_var 2) (fe_var 3)) (fss_one (fs_ret (fe_neg fe_int))) fss_nil)
    (fss_cons (fs_if (ft_gt (fe_var 2) (fe_var 3)) (fss_one (fs_ret fe_int)) fss_nil)
    (fss_one (fs_ret fe_int))))))) (fun z => by simp only [bind_ok']; rfl)
abbrev N_least : List Str := [("numbers" : Str), ("best" : Str), ("number" : Str)]
theorem sc_least : FnScope N_least [("numbers" : Str)] (defScope (top 15)) := ⟨rfl, rfl, rfl, by decide +kernel, rfl, by decide +kernel, by decide +kernel⟩
theorem d_least {f : Addr} {fd : FuncData} (Fd : FnP K "least" (top 15) f fd) (T : T0 K mg) (D_compare : Dk P w K mg base "compare" [("first" : Str), ("second" : Str)] 1 (spF K (rtF Int) m_compare)) : FnOk P w K mg base (L2.CX P w) 2 f fd [("numbers" : Str)] (spF K (rtF (Option (Int × Int))) m_least) :=
  fn_def (αs := (List (Int × Int)) × Unit) (G' := nl) (n := 2) Fd sc_least rfl rfl (fun cdv A outer s F H E hr tk =>
    (fss_cons (fs_B (fn_set 1 rfl (fe_nopt (α := (Int × Int)) fe_none) sc_least.nd))
    (fss_cons (fs_n (fn_for (passes_of rfl) (fi_list (fe_var 0)) (fg_name 2 rfl sc_least.nd) (fns_cons (fn_if (ft_w (fw_or (ft_isN (fe_var 1)) (fw_or1 (ft_lt (fe_cal D_compare tk hr (fa_cons (fe_var 2) (fa_cons (fe_some (fe_var 1)) fa_nil))) fe_int)))) (fns_B (fn_set 1 rfl (fe_opt (fe_var 2)) sc_least.nd) fns_nil) fns_nil) (fns_nilS (G' := (va (List (Int × Int)) (va (Option (Int × Int)) (un nl))))))))
    (fss_one (fs_ret (fe_var 1)))))) (fun z => by simp only [bind_ok']; rfl)
abbrev N_greatest : List Str := [("numbers" : Str), ("best" : Str), ("number" : Str)]
theorem sc_greatest : FnScope N_greatest [("numbers" : Str)] (defScope (top 16)) := ⟨rfl, rfl, rfl, by decide +kernel, rfl, by decide +kernel, by decide +kernel⟩
theorem d_greatest {f : Addr} {fd : FuncData} (Fd : FnP K "greatest" (top 16) f fd) (T : T0 K mg) (D_compare : Dk P w K mg base "compare" [("first" : Str), ("second" : Str)] 1 (spF K (rtF Int) m_compare)) : FnOk P w K mg base (L2.CX P w) 2 f fd [("numbers" : Str)] (spF K (rtF (Option (Int × Int))) m_greatest) :=
  fn_def (αs := (List (Int × Int)) × Unit) (G' := nl) (n := 2) Fd sc_greatest rfl rfl (fun cdv A outer s F H E hr tk =>
    (fss_cons (fs_B (fn_set 1 rfl (fe_nopt (α := (Int × Int)) fe_none) sc_greatest.nd))
    (fss_cons (fs_n (fn_for (passes_of rfl) (fi_list (fe_var 0)) (fg_name 2 rfl sc_greatest.nd) (fns_cons (fn_if (ft_w (fw_or (ft_isN (fe_var 1)) (fw_or1 (ft_gt (fe_cal D_compare tk hr (fa_cons (fe_var 2) (fa_cons (fe_some (fe_var 1)) fa_nil))) fe_int)))) (fns_B (fn_set 1 rfl (fe_opt (fe_var 2)) sc_greatest.nd) fns_nil) fns_nil) (fns_nilS (G' := (va (List (Int × Int)) (va (Option (Int × Int)) (un nl))))))))
    (fss_one (fs_ret (fe_var 1)))))) (fun z => by simp only [bind_ok']; rfl)
abbrev N_is_number : List Str := [("value" : Str), ("item" : Str)]
theorem sc_is_number : FnScope N_is_number [("value" : Str)] (defScope (top 17)) := ⟨rfl, rfl, rfl, by decide +kernel, rfl, by decide +kernel, by decide +kernel⟩
theorem d_is_number {f : Addr} {fd : FuncData} (Fd : FnP K "is_number" (top 17) f fd) (T : T0 K mg)  : FnOk P w K mg base (L2.CX P w) 1 f fd [("value" : Str)] (spF K (rtF Bool) m_is_number) :=
  fn_def (αs := PyData × Unit) (G' := nl) (n := 1) Fd sc_is_number rfl rfl (fun cdv A outer s F H E hr tk =>
    (fss_cons (fs_if (ft_w (fw_or (ft_not (ft_val (fe_isi (U := "tuple") (fe_var 0) (T.f_isinstance) T.f_tuple))) (fw_or1 (ft_ne (fe_len (fe_asT (fe_var 0)) (T.f_len)) fe_int)))) (fss_one (fs_ret fe_bl)) fss_nil)
    (fss_cons (fs_forK (rt := id) (passes_of rfl) (fi_tup (fe_asT (fe_var 0))) (fg_name 1 rfl sc_is_number.nd) (fss_cons (fs_if (ft_w (fw_or (ft_not (ft_val (fe_isi (U := "int") (fe_var 1) (T.f_isinstance) T.f_int))) (fw_or1 (ft_val (fe_isi (U := "bool") (fe_var 1) (T.f_isinstance) T.f_bool))))) (fss_one (fs_retL fe_bl)) fss_nil)
    (fss_nilS (G' := (va PyData (un nl))))))
    (fss_one (fs_ret (fe_and (fe_ge (fe_asI (fe_ixU (fe_asT (fe_var 0)) fe_int)) fe_int) (fe_one (fe_eq (fe_gcd (fe_asI (fe_ixU (fe_asT (fe_var 0)) fe_int)) (fe_asI (fe_ixU (fe_asT (fe_var 0)) fe_int)) T.gcd) fe_int)))))))) (fun z => by simp only [bind_ok']; rfl)
abbrev N_show_number : List Str := [("number" : Str)]
theorem sc_show_number : FnScope N_show_number [("number" : Str)] (defScope (top 18)) := ⟨rfl, rfl, rfl, by decide +kernel, rfl, by decide +kernel, by decide +kernel⟩
theorem d_show_number {f : Addr} {fd : FuncData} (Fd : FnP K "show_number" (top 18) f fd) (T : T0 K mg)  : FnOk P w K mg base (L2.CX P w) 1 f fd [("number" : Str)] (spF K (rtF Str) m_show_number) :=
  fn_def (αs := (Int × Int) × Unit) (G' := nl) (n := 0) Fd sc_show_number rfl rfl (fun cdv A outer s F H E hr tk =>
    (fss_cons (fs_if (ft_eq (fe_p1 (fe_var 0)) fe_int) (fss_one (fs_ret (fe_strI (fe_p0 (fe_var 0)) (T.f_str)))) fss_nil)
    (fss_one (fs_ret (fe_catS (fe_catS (fe_strI (fe_p0 (fe_var 0)) (T.f_str)) fe_str) (fe_strI (fe_p1 (fe_var 0)) (T.f_str))))))) (fun z => by simp only [bind_ok']; rfl)
abbrev N__digits : List Str := [("text" : Str), ("sign" : Str)]
theorem sc__digits : FnScope N__digits [("text" : Str)] (defScope (top 19)) := ⟨rfl, rfl, rfl, by decide +kernel, rfl, by decide +kernel, by decide +kernel⟩
theorem d__digits {f : Addr} {fd : FuncData} (Fd : FnP K "_digits" (top 19) f fd) (T : T0 K mg)  : FnOk P w K mg base (L2.CX P w) 1 f fd [("text" : Str)] (spF K (rtF Int) m__digits) :=
  fn_def (αs := Str × Unit) (G' := nl) (n := 1) Fd sc__digits rfl rfl (fun cdv A outer s F H E hr tk =>
    (fss_cons (fs_if (ft_not (ft_chainLe fe_int (fe_len (fe_var 0) (T.f_len)) (fe_gint T.c_LONGEST))) (fss_one (fs_rai tk T.x_BadNumber)) fss_nil)
    (fss_cons (fs_forK (rt := id) (passes_of rfl) (fi_str (fe_var 0)) (fg_name 1 rfl sc__digits.nd) (fss_cons (fs_if (ft_ninSg (fe_var 1) (fe_gstr T.c_DIGITS)) (fss_one (fs_rai tk T.x_BadNumber)) fss_nil)
    (fss_nilS (G' := (va Str (un nl))))))
    (fss_one (fs_ret (fe_intS (fe_var 0) (T.f_int))))))) (fun z => by simp only [bind_ok']; rfl)
abbrev N_read_number : List Str := [("text" : Str), ("head" : Str), ("slash" : Str), ("tail" : Str), ("top" : Str), ("bottom" : Str), ("number" : Str)]
theorem sc_read_number : FnScope N_read_number [("text" : Str)] (defScope (top 20)) := ⟨rfl, rfl, rfl, by decide +kernel, rfl, by decide +kernel, by decide +kernel⟩
theorem d_read_number {f : Addr} {fd : FuncData} (Fd : FnP K "read_number" (top 20) f fd) (T : T0 K mg) (D__digits : Dk P w K mg base "_digits" [("text" : Str)] 1 (spF K (rtF Int) m__digits)) (D_ratio : Dk P w K mg base "ratio" [("top" : Str), ("bottom" : Str)] 1 (spF K (rtF (Int × Int)) m_ratio)) (D_show_number : Dk P w K mg base "show_number" [("number" : Str)] 1 (spF K (rtF Str) m_show_number)) : FnOk P w K mg base (L2.CX P w) 2 f fd [("text" : Str)] (spF K (rtF (Int × Int)) m_read_number) :=
  fn_def (αs := Str × Unit) (G' := nl) (n := 6) Fd sc_read_number rfl rfl (fun cdv A outer s F H E hr tk =>
    (fss_cons (fs_B (fn_asg (fe_partition (fe_var 0) fe_str) (fg_three 1 2 3 ⟨rfl, rfl, rfl⟩ sc_read_number.nd ⟨by decide, by decide, by decide⟩)))
    (fss_cons (fs_B (fn_set 4 rfl (fe_if (ft_val (fe_startswith (fe_var 1) fe_str)) (fe_neg (fe_cal D__digits tk hr (fa_cons (fe_slS (fe_var 1) (fp_some fe_int) fp_none) fa_nil))) (fe_cal D__digits tk hr (fa_cons (fe_var 1) fa_nil))) sc_read_number.nd))
    (fss_cons (fs_B (fn_set 5 rfl (fe_if (ft_eq (fe_var 2) fe_str) (fe_cal D__digits tk hr (fa_cons (fe_var 3) fa_nil)) fe_int) sc_read_number.nd))
    (fss_cons (fs_B (fn_set 6 rfl (fe_cal D_ratio tk hr (fa_cons (fe_var 4) (fa_cons (fe_var 5) fa_nil))) sc_read_number.nd))
    (fss_cons (fs_if (ft_ne (fe_cal D_show_number tk hr (fa_cons (fe_var 6) fa_nil)) (fe_var 0)) (fss_one (fs_rai tk T.x_BadNumber)) fss_nil)
    (fss_one (fs_ret (fe_var 6))))))))) (fun z => by simp only [bind_ok']; rfl)
abbrev N__law_draws : List Str := [("script" : Str), ("count" : Str), ("found" : Str), ("cell" : Str), ("rest" : Str), ("k" : Str), ("seed" : Str)]
theorem sc__law_draws : FnScope N__law_draws [("script" : Str), ("count" : Str)] (defScope (top 22)) := ⟨rfl, rfl, rfl, by decide +kernel, rfl, by decide +kernel, by decide +kernel⟩
theorem d__law_draws {f : Addr} {fd : FuncData} (Fd : FnP K "_law_draws" (top 22) f fd) (T : T0 K mg)  : FnOk P w K mg base (L2.CX P w) 1 f fd [("script" : Str), ("count" : Str)] (spF K (rtO Int) m__law_draws) :=
  fn_def (αs := (List Int) × Int × Unit) (G' := nl) (n := 5) Fd sc__law_draws rfl rfl (fun cdv A outer s F H E hr tk =>
    (fss_cons (fs_B (fn_setO 2 rfl (fo_nil (α := Int)) sc__law_draws.nd))
    (fss_cons (fs_n (fn_for (passes_of rfl) (fi_list (fe_var 0)) (fg_name 3 rfl sc__law_draws.nd) (fns_B (fn_set 4 rfl (fe_var 3) sc__law_draws.nd) (fns_cons (fn_if (ft_ge (fe_var 4) (fe_pow fe_int fe_int)) (fns_cons (fn_for (passes_of rfl) (fi_range1 fe_int (T.f_range)) (fg_name 5 rfl sc__law_draws.nd) (fns_cons (fn_if (ft_br (ft_w (fw_and (ft_gt (fe_var 4) fe_int) (fw_and1 (ft_lt (fe_len (fe_var 2) (T.f_len)) (fe_var 1)))))) (fns_B2 (fn_append 2 (fe_mod (fe_intI (fe_var 4) (T.f_int)) fe_int)) (fns_B (fn_set 4 rfl (fe_fdv (fe_var 4) fe_int) sc__law_draws.nd) fns_nil)) fns_nil) (fns_nilS (G' := (va (List Int) (va Int (ow Int (va Int (va Int (un (un nl))))))))))) fns_nil) (fns_cons (fn_if (ft_br (ft_lt (fe_len (fe_var 2) (T.f_len)) (fe_var 1))) (fns_B2 (fn_append 2 (fe_mod (fe_mod (fe_intI (fe_add (fe_mul (fe_mod (fe_intI (fe_add (fe_mul (fe_var 4) fe_int) fe_int) (T.f_int)) fe_int) fe_int) fe_int) (T.f_int)) fe_int) fe_int)) fns_nil) fns_nil) fns_nil)) (fns_nilS (G' := (va (List Int) (va Int (ow Int (un (un (un (un nl)))))))))))))
    (fss_cons (fs_B (fn_set 6 rfl (fe_add fe_int (fe_len (fe_var 0) (T.f_len))) sc__law_draws.nd))
    (fss_cons (fs_n (fn_for (passes_of rfl) (fi_list (fe_var 0)) (fg_name 3 rfl sc__law_draws.nd) (fns_B (fn_set 6 rfl (fe_mod (fe_intI (fe_add (fe_mul (fe_var 6) fe_int) (fe_var 3)) (T.f_int)) fe_int) sc__law_draws.nd) (fns_nilS (G' := (va (List Int) (va Int (ow Int (un (un (un (va Int nl))))))))))))
    (fss_cons (fs_n (fn_for (passes_of rfl) (fi_range1 (fe_var 1) (T.f_range)) (fg_name 5 rfl sc__law_draws.nd) (fns_cons (fn_if (ft_br (ft_lt (fe_len (fe_var 2) (T.f_len)) (fe_var 1))) (fns_B (fn_set 6 rfl (fe_mod (fe_intI (fe_add (fe_mul (fe_var 6) fe_int) fe_int) (T.f_int)) fe_int) sc__law_draws.nd) (fns_B2 (fn_append 2 (fe_mod (fe_fdv (fe_var 6) fe_int) fe_int)) fns_nil)) fns_nil) (fns_nilS (G' := (va (List Int) (va Int (ow Int (un (un (un (va Int nl))))))))))))
    (fss_one (fs_retV 2)))))))) (fun z => by simp only [bind_ok']; rfl)
abbrev N__law_gcd : List Str := [("one" : Str), ("two" : Str), ("k" : Str), ("rest" : Str)]
theorem sc__law_gcd : FnScope N__law_gcd [("one" : Str), ("two" : Str)] (defScope (top 23)) := ⟨rfl, rfl, rfl, by decide +kernel, rfl, by decide +kernel, by decide +kernel⟩
theorem d__law_gcd {f : Addr} {fd : FuncData} (Fd : FnP K "_law_gcd" (top 23) f fd) (T : T0 K mg)  : FnOk P w K mg base (L2.CX P w) 1 f fd [("one" : Str), ("two" : Str)] (spF K (rtF Int) m__law_gcd) :=
  fn_def (αs := Int × Int × Unit) (G' := nl) (n := 2) Fd sc__law_gcd rfl rfl (fun cdv A outer s F H E hr tk =>
    (fss_cons (fs_B (fn_set 0 rfl (fe_abs (fe_var 0) (T.f_abs)) sc__law_gcd.nd))
    (fss_cons (fs_B (fn_set 1 rfl (fe_abs (fe_var 1) (T.f_abs)) sc__law_gcd.nd))
    (fss_cons (fs_forK (rt := id) (passes_of rfl) (fi_range1 (fe_add (fe_mul fe_int (fe_bits (fe_var 1))) fe_int) (T.f_range)) (fg_name 2 rfl sc__law_gcd.nd) (fss_cons (fs_if (ft_eq (fe_var 1) fe_int) (fss_one (fs_retL (fe_var 0))) fss_nil)
    (fss_cons (fs_B (fn_set 3 rfl (fe_mod (fe_intI (fe_var 0) (T.f_int)) (fe_var 1)) sc__law_gcd.nd))
    (fss_cons (fs_B (fn_set 0 rfl (fe_var 1) sc__law_gcd.nd))
    (fss_cons (fs_B (fn_set 1 rfl (fe_var 3) sc__law_gcd.nd))
    (fss_nilS (G' := (va Int (va Int (un (un nl)))))))))))
    (fss_one (fs_ret (fe_var 0))))))) (fun z => by simp only [bind_ok']; rfl)
abbrev N__law_low : List Str := [("top" : Str), ("bottom" : Str), ("common" : Str)]
theorem sc__law_low : FnScope N__law_low [("top" : Str), ("bottom" : Str)] (defScope (top 24)) := ⟨rfl, rfl, rfl, by decide +kernel, rfl, by decide +kernel, by decide +kernel⟩
theorem d__law_low {f : Addr} {fd : FuncData} (Fd : FnP K "_law_low" (top 24) f fd) (T : T0 K mg) (D__law_gcd : Dk P w K mg base "_law_gcd" [("one" : Str), ("two" : Str)] 1 (spF K (rtF Int) m__law_gcd)) : FnOk P w K mg base (L2.CX P w) 2 f fd [("top" : Str), ("bottom" : Str)] (spF K (rtF (Int × Int)) m__law_low) :=
  fn_def (αs := Int × Int × Unit) (G' := nl) (n := 1) Fd sc__law_low rfl rfl (fun cdv A outer s F H E hr tk =>
    (fss_cons (fs_B (fn_set 2 rfl (fe_cal D__law_gcd tk hr (fa_cons (fe_var 0) (fa_cons (fe_var 1) fa_nil))) sc__law_low.nd))
    (fss_cons (fs_n (fn_if (ft_lt (fe_var 1) fe_int) (fns_B (fn_set 2 rfl (fe_neg (fe_var 2)) sc__law_low.nd) fns_nil) fns_nil))
    (fss_one (fs_ret (fe_tup2 (fe_fdv (fe_var 0) (fe_var 2)) (fe_fdv (fe_var 1) (fe_var 2)))))))) (fun z => by simp only [bind_ok']; rfl)
abbrev N__law_same : List Str := [("told" : Str), ("due" : Str), ("k" : Str)]
theorem sc__law_same : FnScope N__law_same [("told" : Str), ("due" : Str)] (defScope (top 25)) := ⟨rfl, rfl, rfl, by decide +kernel, rfl, by decide +kernel, by decide +kernel⟩
theorem d__law_same {f : Addr} {fd : FuncData} (Fd : FnP K "_law_same" (top 25) f fd) (T : T0 K mg)  : FnOk P w K mg base (L2.CX P w) 1 f fd [("told" : Str), ("due" : Str)] (spF K (rtF Bool) m__law_same) :=
  fn_def (αs := (Int × Int) × (Int × Int) × Unit) (G' := nl) (n := 1) Fd sc__law_same rfl rfl (fun cdv A outer s F H E hr tk =>
    (fss_cons (fs_if (ft_w (fw_or (ft_not (ft_val (fe_isi (U := "tuple") (fe_var 0) (T.f_isinstance) T.f_tuple))) (fw_or1 (ft_ne (fe_len (fe_var 0) (T.f_len)) fe_int)))) (fss_one (fs_ret fe_bl)) fss_nil)
    (fss_cons (fs_forK (rt := id) (passes_of rfl) (fi_range1 fe_int (T.f_range)) (fg_name 2 rfl sc__law_same.nd) (fss_cons (fs_if (ft_w (fw_or (ft_not (ft_val (fe_isi (U := "int") (fe_ixP (fe_var 0) (fe_var 2)) (T.f_isinstance) T.f_int))) (fw_or (ft_val (fe_isi (U := "bool") (fe_ixP (fe_var 0) (fe_var 2)) (T.f_isinstance) T.f_bool)) (fw_or1 (ft_ne (fe_ixP (fe_var 0) (fe_var 2)) (fe_ixP (fe_var 1) (fe_var 2))))))) (fss_one (fs_retL fe_bl)) fss_nil)
    (fss_nilS (G' := (va (Int × Int) (va (Int × Int) (un nl)))))))
    (fss_one (fs_ret fe_bl))))) (fun z => by simp only [bind_ok']; rfl)
abbrev N__law_integer : List Str := [("told" : Str), ("due" : Str)]
theorem sc__law_integer : FnScope N__law_integer [("told" : Str), ("due" : Str)] (defScope (top 26)) := ⟨rfl, rfl, rfl, by decide +kernel, rfl, by decide +kernel, by decide +kernel⟩
theorem d__law_integer {f : Addr} {fd : FuncData} (Fd : FnP K "_law_integer" (top 26) f fd) (T : T0 K mg)  : FnOk P w K mg base (L2.CX P w) 1 f fd [("told" : Str), ("due" : Str)] (spF K (rtF Bool) m__law_integer) :=
  fn_def (αs := Int × Int × Unit) (G' := nl) (n := 0) Fd sc__law_integer rfl rfl (fun cdv A outer s F H E hr tk =>
    (fss_one (fs_ret (fe_and (fe_isi (U := "int") (fe_var 0) (T.f_isinstance) T.f_int) (fe_and (fe_not (fe_isi (U := "bool") (fe_var 0) (T.f_isinstance) T.f_bool)) (fe_one (fe_eq (fe_var 0) (fe_var 1)))))))) (fun z => by simp only [bind_ok']; rfl)
abbrev N__law_truth : List Str := [("told" : Str), ("due" : Str)]
theorem sc__law_truth : FnScope N__law_truth [("told" : Str), ("due" : Str)] (defScope (top 27)) := ⟨rfl, rfl, rfl, by decide +kernel, rfl, by decide +kernel, by decide +kernel⟩
theorem d__law_truth {f : Addr} {fd : FuncData} (Fd : FnP K "_law_truth" (top 27) f fd) (T : T0 K mg)  : FnOk P w K mg base (L2.CX P w) 1 f fd [("told" : Str), ("due" : Str)] (spF K (rtF Bool) m__law_truth) :=
  fn_def (αs := Bool × Bool × Unit) (G' := nl) (n := 0) Fd sc__law_truth rfl rfl (fun cdv A outer s F H E hr tk =>
    (fss_one (fs_ret (fe_and (fe_isi (U := "bool") (fe_var 0) (T.f_isinstance) T.f_bool) (fe_one (fe_eq (fe_var 0) (fe_var 1))))))) (fun z => by simp only [bind_ok']; rfl)
abbrev N__law_parts : List Str := [("draws" : Str), ("at" : Str), ("top" : Str), ("bottom" : Str)]
theorem sc__law_parts : FnScope N__law_parts [("draws" : Str), ("at" : Str)] (defScope (top 28)) := ⟨rfl, rfl, rfl, by decide +kernel, rfl, by decide +kernel, by decide +kernel⟩
theorem d__law_parts {f : Addr} {fd : FuncData} (Fd : FnP K "_law_parts" (top 28) f fd) (T : T0 K mg)  : FnOk P w K mg base (L2.CX P w) 1 f fd [("draws" : Str), ("at" : Str)] (spF K (rtF (Int × Int)) m__law_parts) :=
  fn_def (αs := (List Int) × Int × Unit) (G' := nl) (n := 2) Fd sc__law_parts rfl rfl (fun cdv A outer s F H E hr tk =>
    (fss_cons (fs_B (fn_set 2 rfl (fe_mul (fe_ixL (fe_var 0) (fe_var 1)) (fe_sub fe_int (fe_mul fe_int (fe_mod (fe_ixL (fe_var 0) (fe_add (fe_var 1) fe_int)) fe_int)))) sc__law_parts.nd))
    (fss_cons (fs_B (fn_set 3 rfl (fe_add fe_int (fe_mod (fe_ixL (fe_var 0) (fe_add (fe_var 1) fe_int)) fe_int)) sc__law_parts.nd))
    (fss_cons (fs_n (fn_if (ft_eq (fe_mod (fe_fdv (fe_ixL (fe_var 0) (fe_add (fe_var 1) fe_int)) fe_int) fe_int) fe_int) (fns_B (fn_set 2 rfl (fe_add (fe_mul (fe_var 2) (fe_pow fe_int fe_int)) (fe_ixL (fe_var 0) (fe_add (fe_var 1) fe_int))) sc__law_parts.nd) fns_nil) fns_nil))
    (fss_cons (fs_n (fn_if (ft_eq (fe_mod (fe_fdv (fe_ixL (fe_var 0) (fe_add (fe_var 1) fe_int)) fe_int) fe_int) fe_int) (fns_B (fn_set 3 rfl (fe_add (fe_mul (fe_var 3) (fe_pow fe_int fe_int)) (fe_ixL (fe_var 0) (fe_var 1))) sc__law_parts.nd) fns_nil) fns_nil))
    (fss_cons (fs_n (fn_if (ft_eq (fe_mod (fe_fdv (fe_ixL (fe_var 0) (fe_add (fe_var 1) fe_int)) fe_int) fe_int) fe_int) (fns_B (fn_set 2 rfl fe_int sc__law_parts.nd) fns_nil) fns_nil))
    (fss_one (fs_ret (fe_tup2 (fe_var 2) (fe_var 3)))))))))) (fun z => by simp only [bind_ok']; rfl)
abbrev N__law_raises_i : List Str := [("word" : Str), ("value" : Str), ("e" : Str)]
theorem sc__law_raises_i : FnScope N__law_raises_i [("word" : Str), ("value" : Str)] (defScope (top 29)) := ⟨rfl, rfl, rfl, by decide +kernel, rfl, by decide +kernel, by decide +kernel⟩
theorem d__law_raises_i {f : Addr} {fd : FuncData} (Fd : FnP K "_law_raises" (top 29) f fd) (T : T0 K mg) (D_ratio : Dk P w K mg base "ratio" [("top" : Str), ("bottom" : Str)] 1 (spF K (rtF (Int × Int)) m_ratio)) : FnOk P w K mg base (L2.CX P w) 2 f fd [("word" : Str), ("value" : Str)] (spF K (rtF Bool) m__law_raises_i) :=
  fn_def (αs := Str × Int × Unit) (G' := nl) (n := 1) Fd sc__law_raises_i rfl rfl (fun cdv A outer s F H E hr tk =>
    (fss_cons (fs_tryAs (i := 2) (vs := []) (catch_ := catch1 "BadNumber") tk ⟨rfl, by decide, .inl T.g_BadNumber⟩ (catch1_ok T.m_BadNumber_BadNumber) sc__law_raises_i.nd (fun W pn xe g0 tk po => (fss_cons (fs_if (ft_eq (fe_var 0) fe_str) (fss_cons (fs_B (fn_expr (fe_cal D_ratio tk hr (fa_cons (fe_var 1) (fa_cons fe_int fa_nil)))))
    fss_nil) (fss_one (fs_if (ft_eq (fe_var 0) fe_str) fss_dead fss_dead)))
    fss_nil)) (fun a oe cc pn g0 hcc hz hv => have hcc := catch1_eq hcc; (fss_one (fs_retT (fe_and (fe_isE 2 true (hcc ▸ T.e_BadNumber) hz hv (hcc ▸ T.k_BadNumber_LeaderError) (by intro z hz; exact hz) (pe_clsR T.g_LeaderError) (T.f_isinstance)) (fe_and (fe_isE 2 true (hcc ▸ T.e_BadNumber) hz hv (hcc ▸ T.k_BadNumber_ValueError) (by intro z hz; exact hz) (pe_clsT (U := "ValueError") T.f_ValueError) (T.f_isinstance)) (fe_one (fe_not (fe_isE 2 false (hcc ▸ T.e_BadNumber) hz hv (hcc ▸ T.k_BadNumber_BadText) (by intro z hz; exact hz) (pe_clsR T.g_BadText) (T.f_isinstance))))))))))
    (fss_one (fs_ret fe_bl)))) (fun z => by simp only [bind_ok']; rfl)
abbrev N__law_raises_q : List Str := [("word" : Str), ("value" : Str), ("e" : Str)]
theorem sc__law_raises_q : FnScope N__law_raises_q [("word" : Str), ("value" : Str)] (defScope (top 29)) := ⟨rfl, rfl, rfl, by decide +kernel, rfl, by decide +kernel, by decide +kernel⟩
theorem d__law_raises_q {f : Addr} {fd : FuncData} (Fd : FnP K "_law_raises" (top 29) f fd) (T : T0 K mg) (D_divide : Dk P w K mg base "divide" [("first" : Str), ("second" : Str)] 2 (spF K (rtF (Int × Int)) m_divide)) : FnOk P w K mg base (L2.CX P w) 3 f fd [("word" : Str), ("value" : Str)] (spF K (rtF Bool) m__law_raises_q) :=
  fn_def (αs := Str × (Int × Int) × Unit) (G' := nl) (n := 1) Fd sc__law_raises_q rfl rfl (fun cdv A outer s F H E hr tk =>
    (fss_cons (fs_tryAs (i := 2) (vs := []) (catch_ := catch1 "BadNumber") tk ⟨rfl, by decide, .inl T.g_BadNumber⟩ (catch1_ok T.m_BadNumber_BadNumber) sc__law_raises_q.nd (fun W pn xe g0 tk po => (fss_cons (fs_if (ft_eq (fe_var 0) fe_str) fss_dead (fss_cons (fs_if (ft_eq (fe_var 0) fe_str) (fss_cons (fs_B (fn_expr (fe_cal D_divide tk hr (fa_cons (fe_var 1) (fa_cons (fe_tup2 fe_int fe_int) fa_nil)))))
    fss_nil) fss_dead)
    fss_nil))
    fss_nil)) (fun a oe cc pn g0 hcc hz hv => have hcc := catch1_eq hcc; (fss_one (fs_retT (fe_and (fe_isE 2 true (hcc ▸ T.e_BadNumber) hz hv (hcc ▸ T.k_BadNumber_LeaderError) (by intro z hz; exact hz) (pe_clsR T.g_LeaderError) (T.f_isinstance)) (fe_and (fe_isE 2 true (hcc ▸ T.e_BadNumber) hz hv (hcc ▸ T.k_BadNumber_ValueError) (by intro z hz; exact hz) (pe_clsT (U := "ValueError") T.f_ValueError) (T.f_isinstance)) (fe_one (fe_not (fe_isE 2 false (hcc ▸ T.e_BadNumber) hz hv (hcc ▸ T.k_BadNumber_BadText) (by intro z hz; exact hz) (pe_clsR T.g_BadText) (T.f_isinstance))))))))))
    (fss_one (fs_ret fe_bl)))) (fun z => by simp only [bind_ok']; rfl)
abbrev N__law_raises_s : List Str := [("word" : Str), ("value" : Str), ("e" : Str)]
theorem sc__law_raises_s : FnScope N__law_raises_s [("word" : Str), ("value" : Str)] (defScope (top 29)) := ⟨rfl, rfl, rfl, by decide +kernel, rfl, by decide +kernel, by decide +kernel⟩
theorem d__law_raises_s {f : Addr} {fd : FuncData} (Fd : FnP K "_law_raises" (top 29) f fd) (T : T0 K mg) (D_read_number : Dk P w K mg base "read_number" [("text" : Str)] 2 (spF K (rtF (Int × Int)) m_read_number)) : FnOk P w K mg base (L2.CX P w) 3 f fd [("word" : Str), ("value" : Str)] (spF K (rtF Bool) m__law_raises_s) :=
  fn_def (αs := Str × Str × Unit) (G' := nl) (n := 1) Fd sc__law_raises_s rfl rfl (fun cdv A outer s F H E hr tk =>
    (fss_cons (fs_tryAs (i := 2) (vs := []) (catch_ := catch1 "BadNumber") tk ⟨rfl, by decide, .inl T.g_BadNumber⟩ (catch1_ok T.m_BadNumber_BadNumber) sc__law_raises_s.nd (fun W pn xe g0 tk po => (fss_cons (fs_if (ft_eq (fe_var 0) fe_str) fss_dead (fss_cons (fs_if (ft_eq (fe_var 0) fe_str) fss_dead (fss_cons (fs_B (fn_expr (fe_cal D_read_number tk hr (fa_cons (fe_var 1) fa_nil))))
    fss_nil))
    fss_nil))
    fss_nil)) (fun a oe cc pn g0 hcc hz hv => have hcc := catch1_eq hcc; (fss_one (fs_retT (fe_and (fe_isE 2 true (hcc ▸ T.e_BadNumber) hz hv (hcc ▸ T.k_BadNumber_LeaderError) (by intro z hz; exact hz) (pe_clsR T.g_LeaderError) (T.f_isinstance)) (fe_and (fe_isE 2 true (hcc ▸ T.e_BadNumber) hz hv (hcc ▸ T.k_BadNumber_ValueError) (by intro z hz; exact hz) (pe_clsT (U := "ValueError") T.f_ValueError) (T.f_isinstance)) (fe_one (fe_not (fe_isE 2 false (hcc ▸ T.e_BadNumber) hz hv (hcc ▸ T.k_BadNumber_BadText) (by intro z hz; exact hz) (pe_clsR T.g_BadText) (T.f_isinstance))))))))))
    (fss_one (fs_ret fe_bl)))) (fun z => by simp only [bind_ok']; rfl)
abbrev N__law_written : List Str := [("number" : Str)]
theorem sc__law_written : FnScope N__law_written [("number" : Str)] (defScope (top 30)) := ⟨rfl, rfl, rfl, by decide +kernel, rfl, by decide +kernel, by decide +kernel⟩
theorem d__law_written {f : Addr} {fd : FuncData} (Fd : FnP K "_law_written" (top 30) f fd) (T : T0 K mg)  : FnOk P w K mg base (L2.CX P w) 1 f fd [("number" : Str)] (spF K (rtF Str) m__law_written) :=
  fn_def (αs := (Int × Int) × Unit) (G' := nl) (n := 0) Fd sc__law_written rfl rfl (fun cdv A outer s F H E hr tk =>
    (fss_cons (fs_if (ft_eq (fe_p1 (fe_var 0)) fe_int) (fss_one (fs_ret (fe_strI (fe_p0 (fe_var 0)) (T.f_str)))) fss_nil)
    (fss_one (fs_ret (fe_catS (fe_catS (fe_strI (fe_p0 (fe_var 0)) (T.f_str)) fe_str) (fe_strI (fe_p1 (fe_var 0)) (T.f_str))))))) (fun z => by simp only [bind_ok']; rfl)
abbrev N__law_digits : List Str := [("text" : Str), ("sign" : Str)]
theorem sc__law_digits : FnScope N__law_digits [("text" : Str)] (defScope (top 31)) := ⟨rfl, rfl, rfl, by decide +kernel, rfl, by decide +kernel, by decide +kernel⟩
theorem d__law_digits {f : Addr} {fd : FuncData} (Fd : FnP K "_law_digits" (top 31) f fd) (T : T0 K mg)  : FnOk P w K mg base (L2.CX P w) 1 f fd [("text" : Str)] (spF K (rtF Int) m__law_digits) :=
  fn_def (αs := Str × Unit) (G' := nl) (n := 1) Fd sc__law_digits rfl rfl (fun cdv A outer s F H E hr tk =>
    (fss_cons (fs_if (ft_w (fw_or (ft_lt (fe_len (fe_var 0) (T.f_len)) fe_int) (fw_or (ft_gt (fe_len (fe_var 0) (T.f_len)) fe_int) (fw_or1 (ft_gt (fe_len (fe_fz (fo_lc (vs := [1]) (own := [(("sign" : Str), 1)]) rfl (blkOk_by (N := N__law_digits) (sc := defScope (top 31)) (by decide +kernel)) sc__law_digits.nd (fi_str (fe_var 0)) (fgb_name 1 sc__law_digits.nd) (fts_one fun s H C cl fp => (ft_ninSg (fe_var 1) fe_str)) (fun s H C cl fp => (fe_var 1)))) (T.f_len)) fe_int))))) (fss_one (fs_ret (fe_neg fe_int))) fss_nil)
    (fss_cons (fs_if (ft_w (fw_and (ft_eq (fe_ixS (fe_var 0) fe_int) fe_str) (fw_and1 (ft_gt (fe_len (fe_var 0) (T.f_len)) fe_int)))) (fss_one (fs_ret (fe_neg fe_int))) fss_nil)
    (fss_one (fs_ret (fe_intS (fe_var 0) (T.f_int))))))) (fun z => by simp only [bind_ok']; rfl)
abbrev N__law_read : List Str := [("text" : Str), ("at" : Str), ("head" : Str), ("bottom" : Str), ("sign" : Str), ("top" : Str)]
theorem sc__law_read : FnScope N__law_read [("text" : Str)] (defScope (top 32)) := ⟨rfl, rfl, rfl, by decide +kernel, rfl, by decide +kernel, by decide +kernel⟩
theorem d__law_read {f : Addr} {fd : FuncData} (Fd : FnP K "_law_read" (top 32) f fd) (T : T0 K mg) (D__law_digits : Dk P w K mg base "_law_digits" [("text" : Str)] 1 (spF K (rtF Int) m__law_digits)) (D__law_gcd : Dk P w K mg base "_law_gcd" [("one" : Str), ("two" : Str)] 1 (spF K (rtF Int) m__law_gcd)) : FnOk P w K mg base (L2.CX P w) 2 f fd [("text" : Str)] (spF K (rtF (Option (Int × Int))) m__law_read) :=
  fn_def (αs := Str × Unit) (G' := nl) (n := 5) Fd sc__law_read rfl rfl (fun cdv A outer s F H E hr tk =>
    (fss_cons (fs_B (fn_set 1 rfl (fe_find (fe_var 0) fe_str) sc__law_read.nd))
    (fss_cons (fs_B (fn_set 2 rfl (fe_var 0) sc__law_read.nd))
    (fss_cons (fs_B (fn_set 3 rfl fe_int sc__law_read.nd))
    (fss_cons (fs_if (ft_ge (fe_var 1) fe_int) (fss_cons (fs_B (fn_set 2 rfl (fe_slS (fe_var 0) fp_none (fp_some (fe_var 1))) sc__law_read.nd))
    (fss_cons (fs_B (fn_set 3 rfl (fe_cal D__law_digits tk hr (fa_cons (fe_slS (fe_var 0) (fp_some (fe_add (fe_var 1) fe_int)) fp_none) fa_nil)) sc__law_read.nd))
    (fss_cons (fs_if (ft_lt (fe_var 3) fe_int) (fss_one (fs_ret (fe_nopt (α := (Int × Int)) fe_none))) fss_nil)
    fss_nil))) fss_nil)
    (fss_cons (fs_B (fn_set 4 rfl fe_int sc__law_read.nd))
    (fss_cons (fs_n (fn_if (ft_eq (fe_slS (fe_var 2) fp_none (fp_some fe_int)) fe_str) (fns_B (fn_set 4 rfl (fe_neg fe_int) sc__law_read.nd) (fns_B (fn_set 2 rfl (fe_slS (fe_var 2) (fp_some fe_int) fp_none) sc__law_read.nd) fns_nil)) fns_nil))
    (fss_cons (fs_B (fn_set 5 rfl (fe_cal D__law_digits tk hr (fa_cons (fe_var 2) fa_nil)) sc__law_read.nd))
    (fss_cons (fs_if (ft_w (fw_or (ft_lt (fe_var 5) fe_int) (fw_or (ft_w (fw_and (ft_eq (fe_var 5) fe_int) (fw_and1 (ft_w (fw_or (ft_lt (fe_var 4) fe_int) (fw_or1 (ft_gt (fe_var 3) fe_int))))))) (fw_or1 (ft_w (fw_and (ft_ne (fe_cal D__law_gcd tk hr (fa_cons (fe_var 5) (fa_cons (fe_var 3) fa_nil))) fe_int) (fw_and1 (ft_gt (fe_var 3) fe_int)))))))) (fss_one (fs_ret (fe_nopt (α := (Int × Int)) fe_none))) fss_nil)
    (fss_one (fs_ret (fe_opt (fe_tup2 (fe_mul (fe_var 4) (fe_var 5)) (fe_var 3)))))))))))))) (fun z => by simp only [bind_ok']; rfl)
abbrev N__law_text : List Str := [("text" : Str), ("due" : Str)]
theorem sc__law_text : FnScope N__law_text [("text" : Str)] (defScope (top 33)) := ⟨rfl, rfl, rfl, by decide +kernel, rfl, by decide +kernel, by decide +kernel⟩
theorem d__law_text {f : Addr} {fd : FuncData} (Fd : FnP K "_law_text" (top 33) f fd) (T : T0 K mg) (D__law_read : Dk P w K mg base "_law_read" [("text" : Str)] 2 (spF K (rtF (Option (Int × Int))) m__law_read)) (D__law_raises_s : Dk P w K mg base "_law_raises" [("word" : Str), ("value" : Str)] 3 (spF K (rtF Bool) m__law_raises_s)) (D_read_number : Dk P w K mg base "read_number" [("text" : Str)] 2 (spF K (rtF (Int × Int)) m_read_number)) (D__law_same : Dk P w K mg base "_law_same" [("told" : Str), ("due" : Str)] 1 (spF K (rtF Bool) m__law_same)) : FnOk P w K mg base (L2.CX P w) 4 f fd [("text" : Str)] (spF K (rtF Bool) m__law_text) :=
  fn_def (αs := Str × Unit) (G' := nl) (n := 1) Fd sc__law_text rfl rfl (fun cdv A outer s F H E hr tk =>
    (fss_cons (fs_B (fn_set 1 rfl (fe_cal D__law_read tk hr (fa_cons (fe_var 0) fa_nil)) sc__law_text.nd))
    (fss_cons (fs_if (ft_isN (fe_var 1)) (fss_one (fs_ret (fe_cal D__law_raises_s tk hr (fa_cons fe_str (fa_cons (fe_var 0) fa_nil))))) fss_nil)
    (fss_one (fs_ret (fe_cal D__law_same tk hr (fa_cons (fe_cal D_read_number tk hr (fa_cons (fe_var 0) fa_nil)) (fa_cons (fe_some (fe_var 1)) fa_nil)))))))) (fun z => by simp only [bind_ok']; rfl)
abbrev N__law_first : List Str := [("numbers" : Str), ("sign" : Str), ("best" : Str), ("number" : Str)]
theorem sc__law_first : FnScope N__law_first [("numbers" : Str), ("sign" : Str)] (defScope (top 34)) := ⟨rfl, rfl, rfl, by decide +kernel, rfl, by decide +kernel, by decide +kernel⟩
theorem d__law_first {f : Addr} {fd : FuncData} (Fd : FnP K "_law_first" (top 34) f fd) (T : T0 K mg)  : FnOk P w K mg base (L2.CX P w) 1 f fd [("numbers" : Str), ("sign" : Str)] (spF K (rtF (Int × Int)) m__law_first) :=
  fn_def (αs := (List (Int × Int)) × Int × Unit) (G' := nl) (n := 2) Fd sc__law_first rfl rfl (fun cdv A outer s F H E hr tk =>
    (fss_cons (fs_B (fn_set 2 rfl (fe_ixL (fe_var 0) fe_int) sc__law_first.nd))
    (fss_cons (fs_n (fn_for (passes_of rfl) (fi_list (fe_var 0)) (fg_name 3 rfl sc__law_first.nd) (fns_cons (fn_if (ft_lt (fe_mul (fe_var 1) (fe_sub (fe_mul (fe_p0 (fe_var 3)) (fe_p1 (fe_var 2))) (fe_mul (fe_p0 (fe_var 2)) (fe_p1 (fe_var 3))))) fe_int) (fns_B (fn_set 2 rfl (fe_var 3) sc__law_first.nd) fns_nil) fns_nil) (fns_nilS (G' := (va (List (Int × Int)) (va Int (va (Int × Int) (un nl)))))))))
    (fss_one (fs_ret (fe_var 2)))))) (fun z => by simp only [bind_ok']; rfl)
abbrev N__law_pair : List Str := [("one" : Str), ("two" : Str), ("a" : Str), ("b" : Str), ("c" : Str), ("d" : Str), ("left" : Str)]
theorem sc__law_pair : FnScope N__law_pair [("one" : Str), ("two" : Str)] (defScope (top 35)) := ⟨rfl, rfl, rfl, by decide +kernel, rfl, by decide +kernel, by decide +kernel⟩
theorem d__law_pair {f : Addr} {fd : FuncData} (Fd : FnP K "_law_pair" (top 35) f fd) (T : T0 K mg) (D_add : Dk P w K mg base "add" [("first" : Str), ("second" : Str)] 2 (spF K (rtF (Int × Int)) m_add)) (D__law_low : Dk P w K mg base "_law_low" [("top" : Str), ("bottom" : Str)] 2 (spF K (rtF (Int × Int)) m__law_low)) (D__law_same : Dk P w K mg base "_law_same" [("told" : Str), ("due" : Str)] 1 (spF K (rtF Bool) m__law_same)) (D_subtract : Dk P w K mg base "subtract" [("first" : Str), ("second" : Str)] 2 (spF K (rtF (Int × Int)) m_subtract)) (D_multiply : Dk P w K mg base "multiply" [("first" : Str), ("second" : Str)] 2 (spF K (rtF (Int × Int)) m_multiply)) (D_negate : Dk P w K mg base "negate" [("number" : Str)] 1 (spF K (rtF (Int × Int)) m_negate)) (D__law_raises_q : Dk P w K mg base "_law_raises" [("word" : Str), ("value" : Str)] 3 (spF K (rtF Bool) m__law_raises_q)) (D_divide : Dk P w K mg base "divide" [("first" : Str), ("second" : Str)] 2 (spF K (rtF (Int × Int)) m_divide)) (D_compare : Dk P w K mg base "compare" [("first" : Str), ("second" : Str)] 1 (spF K (rtF Int) m_compare)) (D__law_integer : Dk P w K mg base "_law_integer" [("told" : Str), ("due" : Str)] 1 (spF K (rtF Bool) m__law_integer)) : FnOk P w K mg base (L2.CX P w) 4 f fd [("one" : Str), ("two" : Str)] (spF K (rtF Bool) m__law_pair) :=
  fn_def (αs := (Int × Int) × (Int × Int) × Unit) (G' := nl) (n := 5) Fd sc__law_pair rfl rfl (fun cdv A outer s F H E hr tk =>
    (fss_cons (fs_B (fn_set 2 rfl (fe_p0 (fe_var 0)) sc__law_pair.nd))
    (fss_cons (fs_B (fn_set 3 rfl (fe_p1 (fe_var 0)) sc__law_pair.nd))
    (fss_cons (fs_B (fn_set 4 rfl (fe_p0 (fe_var 1)) sc__law_pair.nd))
    (fss_cons (fs_B (fn_set 5 rfl (fe_p1 (fe_var 1)) sc__law_pair.nd))
    (fss_cons (fs_if (ft_not (ft_val (fe_cal D__law_same tk hr (fa_cons (fe_cal D_add tk hr (fa_cons (fe_var 0) (fa_cons (fe_var 1) fa_nil))) (fa_cons (fe_cal D__law_low tk hr (fa_cons (fe_add (fe_mul (fe_var 2) (fe_var 5)) (fe_mul (fe_var 4) (fe_var 3))) (fa_cons (fe_mul (fe_var 3) (fe_var 5)) fa_nil))) fa_nil))))) (fss_one (fs_ret fe_bl)) fss_nil)
    (fss_cons (fs_if (ft_not (ft_val (fe_cal D__law_same tk hr (fa_cons (fe_cal D_subtract tk hr (fa_cons (fe_var 0) (fa_cons (fe_var 1) fa_nil))) (fa_cons (fe_cal D__law_low tk hr (fa_cons (fe_sub (fe_mul (fe_var 2) (fe_var 5)) (fe_mul (fe_var 4) (fe_var 3))) (fa_cons (fe_mul (fe_var 3) (fe_var 5)) fa_nil))) fa_nil))))) (fss_one (fs_ret fe_bl)) fss_nil)
    (fss_cons (fs_if (ft_w (fw_or (ft_not (ft_val (fe_cal D__law_same tk hr (fa_cons (fe_cal D_multiply tk hr (fa_cons (fe_var 0) (fa_cons (fe_var 1) fa_nil))) (fa_cons (fe_cal D__law_low tk hr (fa_cons (fe_mul (fe_var 2) (fe_var 4)) (fa_cons (fe_mul (fe_var 3) (fe_var 5)) fa_nil))) fa_nil))))) (fw_or1 (ft_not (ft_val (fe_cal D__law_same tk hr (fa_cons (fe_cal D_negate tk hr (fa_cons (fe_var 0) fa_nil)) (fa_cons (fe_tup2 (fe_neg (fe_var 2)) (fe_var 3)) fa_nil)))))))) (fss_one (fs_ret fe_bl)) fss_nil)
    (fss_cons (fs_if (ft_eq (fe_var 4) fe_int) (fss_cons (fs_if (ft_not (ft_val (fe_cal D__law_raises_q tk hr (fa_cons fe_str (fa_cons (fe_var 0) fa_nil))))) (fss_one (fs_ret fe_bl)) fss_nil)
    fss_nil) (fss_cons (fs_if (ft_not (ft_val (fe_cal D__law_same tk hr (fa_cons (fe_cal D_divide tk hr (fa_cons (fe_var 0) (fa_cons (fe_var 1) fa_nil))) (fa_cons (fe_cal D__law_low tk hr (fa_cons (fe_mul (fe_var 2) (fe_var 5)) (fa_cons (fe_mul (fe_var 3) (fe_var 4)) fa_nil))) fa_nil))))) (fss_one (fs_ret fe_bl)) fss_nil)
    fss_nil))
    (fss_cons (fs_B (fn_set 6 rfl (fe_sub (fe_mul (fe_var 2) (fe_var 5)) (fe_mul (fe_var 4) (fe_var 3))) sc__law_pair.nd))
    (fss_one (fs_ret (fe_cal D__law_integer tk hr (fa_cons (fe_cal D_compare tk hr (fa_cons (fe_var 0) (fa_cons (fe_var 1) fa_nil))) (fa_cons (fe_sub (fe_intB (fe_gt (fe_var 6) fe_int) (T.f_int)) (fe_intB (fe_lt (fe_var 6) fe_int) (T.f_int))) fa_nil))))))))))))))) (fun z => by simp only [bind_ok']; rfl)
abbrev N_law : List Str := [("script" : Str), ("draws" : Str), ("parts" : Str), ("numbers" : Str), ("one" : Str), ("two" : Str), ("factor" : Str), ("many" : Str), ("given" : Str), ("low" : Str), ("high" : Str), ("text" : Str), ("told" : Str), ("sign" : Str), ("spot" : Str), ("long" : Str), ("odd" : Str), ("value" : Str), ("k" : Str), ("part" : Str)]
theorem sc_law : FnScope N_law [("script" : Str)] (defScope (top 36)) := ⟨rfl, rfl, rfl, by decide +kernel, rfl, by decide +kernel, by decide +kernel⟩
theorem d_law {f : Addr} {fd : FuncData} (Fd : FnP K "law" (top 36) f fd) (T : T0 K mg) (D__law_draws : Dk P w K mg base "_law_draws" [("script" : Str), ("count" : Str)] 1 (spF K (rtO Int) m__law_draws)) (D__law_parts : Dk P w K mg base "_law_parts" [("draws" : Str), ("at" : Str)] 1 (spF K (rtF (Int × Int)) m__law_parts)) (D__law_low : Dk P w K mg base "_law_low" [("top" : Str), ("bottom" : Str)] 2 (spF K (rtF (Int × Int)) m__law_low)) (D_ratio : Dk P w K mg base "ratio" [("top" : Str), ("bottom" : Str)] 1 (spF K (rtF (Int × Int)) m_ratio)) (D__law_same : Dk P w K mg base "_law_same" [("told" : Str), ("due" : Str)] 1 (spF K (rtF Bool) m__law_same)) (D__law_pair : Dk P w K mg base "_law_pair" [("one" : Str), ("two" : Str)] 4 (spF K (rtF Bool) m__law_pair)) (D__law_raises_i : Dk P w K mg base "_law_raises" [("word" : Str), ("value" : Str)] 2 (spF K (rtF Bool) m__law_raises_i)) (D_least : Dk P w K mg base "least" [("numbers" : Str)] 2 (spF K (rtF (Option (Int × Int))) m_least)) (D_greatest : Dk P w K mg base "greatest" [("numbers" : Str)] 2 (spF K (rtF (Option (Int × Int))) m_greatest)) (D__law_first : Dk P w K mg base "_law_first" [("numbers" : Str), ("sign" : Str)] 1 (spF K (rtF (Int × Int)) m__law_first)) (D__law_written : Dk P w K mg base "_law_written" [("number" : Str)] 1 (spF K (rtF Str) m__law_written)) (D_show_number : Dk P w K mg base "show_number" [("number" : Str)] 1 (spF K (rtF Str) m_show_number)) (D_read_number : Dk P w K mg base "read_number" [("text" : Str)] 2 (spF K (rtF (Int × Int)) m_read_number)) (D__law_text : Dk P w K mg base "_law_text" [("text" : Str)] 4 (spF K (rtF Bool) m__law_text)) (D_is_number : Dk P w K mg base "is_number" [("value" : Str)] 1 (spF K (rtF Bool) m_is_number)) (D__law_truth : Dk P w K mg base "_law_truth" [("told" : Str), ("due" : Str)] 1 (spF K (rtF Bool) m__law_truth)) : FnOk P w K mg base (L2.CX P w) 5 f fd [("script" : Str)] (spF K (rtF Bool) m_law) :=
  fn_def (αs := (List Int) × Unit) (G' := nl) (n := 19) Fd sc_law rfl rfl (fun cdv A outer s F H E hr tk =>
    (fss_cons (fs_B (fn_set 1 rfl (fe_fz (fo_cal D__law_draws tk hr (fa_cons (fe_var 0) (fa_cons fe_int fa_nil)))) sc_law.nd))
    (fss_cons (fs_B (fn_setLcF (vs := [18]) (own := [(("k" : Str), 18)]) 2 rfl rfl (blkOk_by (N := N_law) (sc := defScope (top 36)) (by decide +kernel)) sc_law.nd (fi_range1 fe_int (T.f_range)) (fgb_name 18 sc_law.nd) fts_nil (fun s H C cl fp => (fe_cal D__law_parts takesF hr (fa_cons (fe_var 1) (fa_cons (fe_mul fe_int (fe_var 18)) fa_nil))))))
    (fss_cons (fs_B (fn_setLc (vs := [19]) (own := [(("part" : Str), 19)]) 3 rfl rfl (blkOk_by (N := N_law) (sc := defScope (top 36)) (by decide +kernel)) sc_law.nd (fi_list (fe_var 2)) (fgb_name 19 sc_law.nd) fts_nil (fun s H C cl fp => (fe_cal D__law_low takesF hr (fa_cons (fe_p0 (fe_var 19)) (fa_cons (fe_p1 (fe_var 19)) fa_nil))))))
    (fss_cons (fs_n (fn_if (ft_eq (fe_mod (fe_ixL (fe_var 1) fe_int) fe_int) fe_int) (fns_B3 (fn_setix 3 (fe_br (fe_ixL (fe_var 3) fe_int)) fe_int (hps := (pg_sub (pe_var (i := 3) rfl (Or.inl rfl)) fe_int set_list))) fns_nil) fns_nil))
    (fss_lend (fss_cons (fs_B (fn_set 4 rfl (fe_ixL (fe_var 3) fe_int) sc_law.nd))
    (fss_cons (fs_B (fn_set 5 rfl (fe_ixL (fe_var 3) fe_int) sc_law.nd))
    (fss_cons (fs_B (fn_set 6 rfl (fe_ixL (fe_fz (fo_lst (fh_cons fe_int (fh_cons (fe_neg fe_int) (fh_cons fe_int (fh_cons (fe_neg fe_int) (fh_cons fe_int fh_nil))))))) (fe_mod (fe_ixL (fe_var 1) fe_int) fe_int)) sc_law.nd))
    (fss_cons (fs_if (ft_not (ft_val (fe_cal D__law_same tk hr (fa_cons (fe_cal D_ratio tk hr (fa_cons (fe_mul (fe_var 6) (fe_p0 (fe_ixL (fe_var 2) fe_int))) (fa_cons (fe_mul (fe_var 6) (fe_p1 (fe_ixL (fe_var 2) fe_int))) fa_nil))) (fa_cons (fe_cal D__law_low tk hr (fa_cons (fe_p0 (fe_ixL (fe_var 2) fe_int)) (fa_cons (fe_p1 (fe_ixL (fe_var 2) fe_int)) fa_nil))) fa_nil))))) (fss_one (fs_ret fe_bl)) fss_nil)
    (fss_cons (fs_if (ft_w (fw_or (ft_not (ft_val (fe_cal D__law_pair tk hr (fa_cons (fe_var 4) (fa_cons (fe_var 5) fa_nil))))) (fw_or (ft_not (ft_val (fe_cal D__law_pair tk hr (fa_cons (fe_var 5) (fa_cons (fe_var 4) fa_nil))))) (fw_or1 (ft_not (ft_val (fe_cal D__law_pair tk hr (fa_cons (fe_var 4) (fa_cons (fe_var 4) fa_nil))))))))) (fss_one (fs_ret fe_bl)) fss_nil)
    (fss_cons (fs_if (ft_not (ft_val (fe_cal D__law_raises_i tk hr (fa_cons fe_str (fa_cons (fe_p0 (fe_ixL (fe_var 2) fe_int)) fa_nil))))) (fss_one (fs_ret fe_bl)) fss_nil)
    (fss_cons (fs_B (fn_set 7 rfl (fe_slL (fe_var 3) (fp_some fe_int) (fp_some (fe_add fe_int (fe_mod (fe_ixL (fe_var 1) fe_int) fe_int)))) sc_law.nd))
    (fss_cons (fs_B (fn_set 8 rfl (fe_fz (fo_list (fe_var 7) (T.f_list))) sc_law.nd))
    (fss_cons (fs_B (fn_set 9 rfl (fe_cal D_least tk hr (fa_cons (fe_var 8) fa_nil)) sc_law.nd))
    (fss_cons (fs_B (fn_set 10 rfl (fe_cal D_greatest tk hr (fa_cons (fe_var 8) fa_nil)) sc_law.nd))
    (fss_cons (fs_if (ft_w (fw_or (ft_ned hr (fe_var 8) (fe_var 7)) (fw_or1 (ft_w (fw_and (ft_eq (fe_len (fe_var 7) (T.f_len)) fe_int) (fw_and1 (ft_w (fw_or (ft_notN (fe_var 9)) (fw_or1 (ft_notN (fe_var 10))))))))))) (fss_one (fs_ret fe_bl)) fss_nil)
    (fss_cons (fs_if (ft_gt (fe_len (fe_var 7) (T.f_len)) fe_int) (fss_cons (fs_if (ft_w (fw_or (ft_not (ft_val (fe_cal D__law_same tk hr (fa_cons (fe_some (fe_var 9)) (fa_cons (fe_cal D__law_first tk hr (fa_cons (fe_var 7) (fa_cons fe_int fa_nil))) fa_nil))))) (fw_or1 (ft_not (ft_val (fe_cal D__law_same tk hr (fa_cons (fe_some (fe_var 10)) (fa_cons (fe_cal D__law_first tk hr (fa_cons (fe_var 7) (fa_cons (fe_neg fe_int) fa_nil))) fa_nil)))))))) (fss_one (fs_ret fe_bl)) fss_nil)
    fss_nil) fss_nil)
    (fss_cons (fs_B (fn_set 11 rfl (fe_cal D__law_written tk hr (fa_cons (fe_var 4) fa_nil)) sc_law.nd))
    (fss_cons (fs_B (fn_set 12 rfl (fe_cal D_show_number tk hr (fa_cons (fe_var 4) fa_nil)) sc_law.nd))
    (fss_cons (fs_if (ft_w (fw_or (ft_not (ft_val (fe_isi (U := "str") (fe_var 12) (T.f_isinstance) T.f_str))) (fw_or (ft_ne (fe_var 12) (fe_var 11)) (fw_or1 (ft_not (ft_val (fe_cal D__law_same tk hr (fa_cons (fe_cal D_read_number tk hr (fa_cons (fe_var 11) fa_nil)) (fa_cons (fe_var 4) fa_nil))))))))) (fss_one (fs_ret fe_bl)) fss_nil)
    (fss_cons (fs_B (fn_set 13 rfl (fe_ixL (fe_fz (fo_lst (fh_cons fe_str (fh_cons fe_str (fh_cons fe_str (fh_cons fe_str (fh_cons fe_str (fh_cons fe_str (fh_cons fe_str (fh_cons fe_str (fh_cons fe_str (fh_cons fe_str (fh_cons fe_str (fh_cons fe_str (fh_cons fe_str (fh_cons fe_str fh_nil)))))))))))))))) (fe_mod (fe_ixL (fe_var 1) fe_int) fe_int)) sc_law.nd))
    (fss_cons (fs_B (fn_set 14 rfl (fe_mod (fe_ixL (fe_var 1) fe_int) (fe_add (fe_len (fe_var 11) (T.f_len)) fe_int)) sc_law.nd))
    (fss_cons (fs_if (ft_w (fw_or (ft_not (ft_val (fe_cal D__law_text tk hr (fa_cons (fe_catS (fe_catS (fe_slS (fe_var 11) fp_none (fp_some (fe_var 14))) (fe_var 13)) (fe_slS (fe_var 11) (fp_some (fe_var 14)) fp_none)) fa_nil)))) (fw_or1 (ft_not (ft_val (fe_cal D__law_text tk hr (fa_cons (fe_catS (fe_slS (fe_var 11) fp_none (fp_some (fe_var 14))) (fe_slS (fe_var 11) (fp_some (fe_add (fe_var 14) fe_int)) fp_none)) fa_nil))))))) (fss_one (fs_ret fe_bl)) fss_nil)
    (fss_cons (fs_B (fn_set 15 rfl (fe_mulS fe_str (fe_add fe_int (fe_mod (fe_ixL (fe_var 1) fe_int) fe_int))) sc_law.nd))
    (fss_cons (fs_if (ft_w (fw_or (ft_not (ft_val (fe_cal D__law_text tk hr (fa_cons (fe_var 15) fa_nil)))) (fw_or (ft_not (ft_val (fe_cal D__law_text tk hr (fa_cons (fe_catS fe_str (fe_var 15)) fa_nil)))) (fw_or (ft_not (ft_val (fe_cal D__law_text tk hr (fa_cons (fe_catS fe_str (fe_var 15)) fa_nil)))) (fw_or1 (ft_not (ft_val (fe_cal D__law_text tk hr (fa_cons (fe_catS fe_str (fe_var 15)) fa_nil))))))))) (fss_one (fs_ret fe_bl)) fss_nil)
    (fss_cons (fs_B (fn_set 16 rfl (fe_fz (fo_lst (fh_cons (fe_dat (fe_tup2 (fe_mul fe_int (fe_p0 (fe_var 4))) (fe_mul fe_int (fe_p1 (fe_var 4))))) (fh_cons (fe_dat (fe_tup2 (fe_p0 (fe_var 4)) (fe_neg (fe_p1 (fe_var 4))))) (fh_cons (fe_dat (fe_fz (fo_lst (fh_cons (fe_p0 (fe_var 4)) (fh_cons (fe_p1 (fe_var 4)) fh_nil))))) (fh_cons (fe_dat (fe_tup2 fe_int fe_bl)) (fh_cons (fe_dat (fe_tupU (fh_cons (fe_p0 (fe_var 4)) fh_nil))) (fh_cons (fe_dat (fe_tup2 fe_int fe_int)) (fh_cons (fe_dat fe_none) (fh_cons (fe_dat (fe_p0 (fe_var 4))) fh_nil)))))))))) sc_law.nd))
    (fss_cons (fs_forK (rt := id) (passes_of rfl) (fi_list (fe_var 16)) (fg_name 17 rfl sc_law.nd) (fss_cons (fs_if (ft_not (ft_val (fe_cal D__law_truth tk hr (fa_cons (fe_cal D_is_number tk hr (fa_cons (fe_var 17) fa_nil)) (fa_cons fe_bl fa_nil))))) (fss_one (fs_retL fe_bl)) fss_nil)
    (fss_nilS (G' := (va (List Int) (va (List Int) (va (List (Int × Int)) (va (List (Int × Int)) (va (Int × Int) (va (Int × Int) (va Int (va (List (Int × Int)) (va (List (Int × Int)) (va (Option (Int × Int)) (va (Option (Int × Int)) (va Str (va Str (va Str (va Int (va Str (va (List PyData) (un (un (un nl))))))))))))))))))))))))
    (fss_one (fs_ret (fe_and (fe_cal D__law_truth tk hr (fa_cons (fe_cal D_is_number tk hr (fa_cons (fe_dat (fe_var 4)) fa_nil)) (fa_cons fe_bl fa_nil))) (fe_one (fe_cal D__law_text tk hr (fa_cons fe_str fa_nil)))))))))))))))))))))))))))))))))) (fun z => by simp only [bind_ok']; rfl)
end
end LW

/-! PL1: plain laws of the mirrors' words. -/
namespace FL
open PySem L2
theorem size_ge : 1000000 ≤ sizeLine := by rw [sizeLine_eq]; decide
theorem mulX_r {i j : Int} (h : j.natAbs < 2 ^ 64) : mulX i j = .ok (i * j) := by unfold mulX; rw [if_pos (.inr (.inl h))]
theorem mulX_l {i j : Int} (h : i.natAbs < 2 ^ 64) : mulX i j = .ok (i * j) := by unfold mulX; rw [if_pos (.inl h)]
theorem log2_of {n b : Nat} (h : n < 2 ^ b) (h0 : 0 < b) : n.log2 < b := by
  by_cases e : n = 0
  · subst e; simpa using h0
  · exact (Nat.log2_lt e).2 h
theorem mulX_b {i j : Int} {a b : Nat} (hi : i.natAbs < 2 ^ a) (hj : j.natAbs < 2 ^ b) (h : a + b ≤ 1000000) (ha : 0 < a := by decide) (hb : 0 < b := by decide) : mulX i j = .ok (i * j) := by
  unfold mulX
  have := log2_of hi ha
  have := log2_of hj hb
  rw [if_pos (.inr (.inr (by omega)))]
theorem fdvX_b {i j : Int} {b : Nat} (h : j ≠ 0) (hj : j.natAbs < 2 ^ b) (hb : b ≤ 9000) (h0 : 0 < b := by decide) : fdvX i j = .ok (i.fdiv j) := by
  unfold fdvX
  have := log2_of hj h0
  rw [if_pos ⟨h, by omega⟩]
theorem modX_b {i j : Int} (h : j ≠ 0) : modX i j = .ok (i.fmod j) := by unfold modX; rw [if_pos h]
theorem powX_b {i j : Int} (h : 0 ≤ j ∧ j ≤ 1000000 ∧ i.natAbs < 2 ^ 64) : powX i j = .ok (i ^ j.toNat) := by unfold powX; rw [if_pos h]
theorem rngX_b {i j : Int} (hi : 0 ≤ i) (hj : j ≤ 1000000) (hi2 : i ≤ 1000000) (hj0 : -1000000 ≤ j) : rngX i j = .ok (rangeL i j) := by
  have := size_ge
  unfold rngX
  rw [if_pos ⟨by omega, by omega, by omega, by omega, by omega⟩]
theorem appX_b {α : Type} {l : List α} {a : α} (h : l.length < 1000000) : appX l a = .ok (l ++ [a]) := by
  have := size_ge
  unfold appX
  rw [if_pos (by omega)]
theorem szX_b {α : Type} {l : List α} (h : l.length ≤ 1000000) : szX l = .ok l := by
  have := size_ge
  unfold szX
  rw [if_pos (by omega)]
theorem atI_n {α : Type} {l : List α} {i : Int} {n : Nat} {a : α} (hi : i = n) (h : l[n]? = some a) : atI l i = some a := by
  subst hi
  exact atI_nat h
theorem getX_b {α : Type} {l : List α} {i : Int} {a : α} (h0 : 0 ≤ i) (h : l[i.toNat]? = some a) : getX l i = .ok a := by
  unfold getX
  rw [atI_n (n := i.toNat) (by omega) h]
theorem getX_ex {α : Type} {l : List α} {i : Int} (h0 : 0 ≤ i) (h : i < l.length) : ∃ a, getX l i = .ok a ∧ a ∈ l ∧ l[i.toNat]? = some a := by
  have h' : i.toNat < l.length := by omega
  exact ⟨l[i.toNat], getX_b h0 (List.getElem?_eq_getElem h'), List.getElem_mem h', List.getElem?_eq_getElem h'⟩
theorem setX_b {α : Type} {l : List α} {i : Int} {a : α} (h0 : 0 ≤ i) (h : i < l.length) : setX l i a = .ok (l.set i.toNat a) := by
  unfold setX
  rw [show ixN l.length i = some i.toNat from by
    unfold ixN
    rw [if_pos h0, if_pos h]]
theorem someX_ok {α : Type} (a : α) : someX (some a) = .ok a := rfl
theorem bind_okI {α β : Type} {m : Xc α} {k : α → Xc β} {a : α} {r : Xc β} (h : m = .ok a) (h2 : k a = r) : m.bind k = r := by rw [h]; exact h2
theorem foldX_inv {γ α : Type} {f : γ → α → Xc γ} (P : γ → Prop) : ∀ {l : List α} {g : γ}, P g → (∀ g a, a ∈ l → P g → ∃ g', f g a = .ok g' ∧ P g') → ∃ g', foldX f l g = .ok g' ∧ P g'
  | [], g, h, _ => ⟨g, rfl, h⟩
  | a :: l, g, h, hs => by
    obtain ⟨g1, e1, h1⟩ := hs g a List.mem_cons_self h
    obtain ⟨g2, e2, h2⟩ := foldX_inv (f := f) P (l := l) h1 fun g a m => hs g a (List.mem_cons_of_mem _ m)
    exact ⟨g2, by show (f g a).bind _ = _; rw [e1]; exact e2, h2⟩
theorem foldX_ix {γ α : Type} {f : γ → α → Xc γ} (P : Nat → γ → Prop) {l : List α} {g : γ} (h : P 0 g) (hs : ∀ i g a, l[i]? = some a → P i g → ∃ g', f g a = .ok g' ∧ P (i + 1) g') : ∃ g', foldX f l g = .ok g' ∧ P l.length g' := by
  have go : ∀ (l' : List α) (k : Nat) (g : γ), (∀ i, l'[i]? = l[k + i]?) → P k g → ∃ g', foldX f l' g = .ok g' ∧ P (k + l'.length) g' := by
    intro l'
    induction l' with
    | nil => intro k g _ h; exact ⟨g, rfl, h⟩
    | cons a l' ih =>
      intro k g he h
      obtain ⟨g1, e1, h1⟩ := hs k g a (by have := he 0; simpa using this.symm) h
      obtain ⟨g2, e2, h2⟩ := ih (k + 1) g1 (fun i => by have := he (i + 1); simp only [List.getElem?_cons_succ] at this; rw [this]; congr 1; omega) h1
      exact ⟨g2, by show (f g a).bind _ = _; rw [e1]; exact e2, by rw [List.length_cons, show k + (l'.length + 1) = k + 1 + l'.length by omega]; exact h2⟩
  obtain ⟨g', e, h'⟩ := go l 0 g (fun i => by rw [Nat.zero_add]) h
  exact ⟨g', e, by simpa using h'⟩
/-- a loop whose turns either go on or return r -/
theorem forX_ct {γ α ρ : Type} {f : γ → α → Xc (Lp γ ρ)} (P : γ → Prop) : ∀ {l : List α} {g : γ}, P g → (∀ g a, a ∈ l → P g → ∃ g', f g a = .ok (.ct g') ∧ P g') → ∃ g', forX f l g = .ok (.inl g') ∧ P g'
  | [], g, h, _ => ⟨g, rfl, h⟩
  | a :: l, g, h, hs => by
    obtain ⟨g1, e1, h1⟩ := hs g a List.mem_cons_self h
    obtain ⟨g2, e2, h2⟩ := forX_ct (f := f) P (l := l) h1 fun g a m => hs g a (List.mem_cons_of_mem _ m)
    exact ⟨g2, by show (f g a).bind _ = _; rw [e1]; exact e2, h2⟩
theorem forX_cons {γ α ρ : Type} {f : γ → α → Xc (Lp γ ρ)} {a : α} {l : List α} {g : γ} : forX f (a :: l) g = (f g a).bind fun t => match t with
    | .ct g' => forX f l g'
    | .bk g' => .ok (.inl g')
    | .rt r => .ok (.inr r) := rfl
theorem forK_inl {γ ρ τ : Type} {g : γ} {rt : ρ → τ} {k : γ → Xc τ} : forK (.ok (.inl g)) rt k = k g := rfl
theorem forK_inr {γ ρ τ : Type} {r : ρ} {rt : ρ → τ} {k : γ → Xc τ} : forK (.ok (.inr r)) rt k = .ok (rt r) := rfl
theorem compX_map {α β : Type} {t : α → Xc Bool} {f : α → Xc β} {h : α → β} : ∀ {l : List α}, (∀ a ∈ l, t a = .ok true ∧ f a = .ok (h a)) → compX t f l = .ok (l.map h)
  | [], _ => rfl
  | a :: l, hs => by
    obtain ⟨h1, h2⟩ := hs a List.mem_cons_self
    have ih := compX_map (t := t) (f := f) (h := h) (l := l) fun a m => hs a (List.mem_cons_of_mem _ m)
    simp only [compX, h1, h2, nx, bind_ok, if_true, ih, List.map_cons]
theorem compX_fil {α : Type} {t : α → Xc Bool} {p : α → Bool} : ∀ {l : List α}, (∀ a ∈ l, t a = .ok (p a)) → compX t (fun a => Xc.ok a) l = .ok (l.filter p)
  | [], _ => rfl
  | a :: l, hs => by
    have h1 := hs a List.mem_cons_self
    have ih := compX_fil (t := t) (p := p) (l := l) fun a m => hs a (List.mem_cons_of_mem _ m)
    simp only [compX, h1, nx, bind_ok, ih, List.filter_cons]
    cases p a <;> simp [bind_ok]
theorem rangeL_mem {lo hi a : Int} (h : a ∈ rangeL lo hi) : lo ≤ a ∧ a < hi := by
  unfold rangeL at h
  obtain ⟨i, hi', rfl⟩ := List.mem_map.mp h
  have := List.mem_range.mp hi'
  omega
end FL

/-! PL2: what a mirror gives, as a wish. -/
namespace FL
open PySem L2
def Ok {α : Type} (m : Xc α) (Q : α → Prop) : Prop := ∃ a, m = .ok a ∧ Q a
theorem ok_ok {α : Type} {a : α} {Q : α → Prop} : Ok (.ok a) Q ↔ Q a := ⟨fun ⟨b, e, h⟩ => by cases e; exact h, fun h => ⟨a, rfl, h⟩⟩
theorem ok_bind {α β : Type} {m : Xc α} {k : α → Xc β} {Q : β → Prop} : Ok (m.bind k) Q ↔ Ok m fun a => Ok (k a) Q := by
  constructor
  · rintro ⟨b, e, h⟩
    obtain ⟨a, e1, e2⟩ := bind_eq_ok.mp e
    exact ⟨a, e1, b, e2, h⟩
  · rintro ⟨a, e1, b, e2, h⟩
    exact ⟨b, by rw [e1]; exact e2, h⟩
theorem Ok.imp {α : Type} {m : Xc α} {Q Q' : α → Prop} (h : Ok m Q) (i : ∀ a, Q a → Q' a) : Ok m Q' := let ⟨a, e, q⟩ := h; ⟨a, e, i a q⟩
theorem Ok.of {α : Type} {m : Xc α} {a : α} {Q : α → Prop} (h : m = .ok a) (q : Q a) : Ok m Q := ⟨a, h, q⟩
theorem ok_of {α : Type} {m : Xc α} {a : α} {Q : α → Prop} (h : m = .ok a) : Ok m Q ↔ Q a := by rw [h, ok_ok]
theorem ok_ite {α : Type} {b : Bool} {A B : Xc α} {Q : α → Prop} : Ok (if b = true then A else B) Q ↔ (b = true → Ok A Q) ∧ (b = false → Ok B Q) := by
  cases b <;> simp
theorem ok_mulr {i j : Int} {Q : Int → Prop} (h : j.natAbs < 2 ^ 64) : Ok (mulX i j) Q ↔ Q (i * j) := ok_of (mulX_r h)
theorem ok_mull {i j : Int} {Q : Int → Prop} (h : i.natAbs < 2 ^ 64) : Ok (mulX i j) Q ↔ Q (i * j) := ok_of (mulX_l h)
theorem ok_mod {i j : Int} {Q : Int → Prop} (h : j ≠ 0) : Ok (modX i j) Q ↔ Q (i.fmod j) := ok_of (modX_b h)
theorem ok_fdv {i j : Int} {Q : Int → Prop} (h : j ≠ 0) (h2 : j.natAbs < 2 ^ 64) : Ok (fdvX i j) Q ↔ Q (i.fdiv j) := ok_of (fdvX_b h h2 (by decide))
theorem ok_pow {i j : Int} {Q : Int → Prop} (h : 0 ≤ j ∧ j ≤ 1000000 ∧ i.natAbs < 2 ^ 64) : Ok (powX i j) Q ↔ Q (i ^ j.toNat) := ok_of (powX_b h)
theorem ok_rng {i j : Int} {Q : List Int → Prop} (h : 0 ≤ i ∧ j ≤ 1000000 ∧ i ≤ 1000000 ∧ -1000000 ≤ j) : Ok (rngX i j) Q ↔ Q (rangeL i j) := ok_of (rngX_b h.1 h.2.1 h.2.2.1 h.2.2.2)
theorem ok_app {α : Type} {l : List α} {a : α} {Q : List α → Prop} (h : l.length < 1000000) : Ok (appX l a) Q ↔ Q (l ++ [a]) := ok_of (appX_b h)
theorem ok_fold {γ α : Type} {f : γ → α → Xc γ} {l : List α} {g : γ} {Q : γ → Prop} (P : γ → Prop) (h : P g) (hs : ∀ g a, a ∈ l → P g → Ok (f g a) P) (hq : ∀ g, P g → Q g) : Ok (foldX f l g) Q := by
  obtain ⟨g', e, p⟩ := foldX_inv (f := f) P h hs
  exact ⟨g', e, hq g' p⟩
theorem ok_foldI {γ α : Type} {f : γ → α → Xc γ} {l : List α} {g : γ} {Q : γ → Prop} (P : Nat → γ → Prop) (h : P 0 g) (hs : ∀ i g a, l[i]? = some a → P i g → Ok (f g a) (P (i + 1))) (hq : ∀ g, P l.length g → Q g) : Ok (foldX f l g) Q := by
  obtain ⟨g', e, p⟩ := foldX_ix (f := f) P h hs
  exact ⟨g', e, hq g' p⟩
theorem len_app {α : Type} {l : List α} {a : α} : (l ++ [a]).length = l.length + 1 := by simp
end FL

/-! PD: the draws. -/
namespace LW
open PySem L2 FL
theorem fm_range {a : Int} {m : Int} (h : 0 < m) : 0 ≤ a.fmod m ∧ a.fmod m < m := ⟨Int.fmod_nonneg_of_pos _ h, Int.fmod_lt_of_pos _ h⟩
def Dr (l : List Int) : Prop := ∀ x ∈ l, 0 ≤ x ∧ x < 1000
theorem Dr.snoc {l : List Int} {a : Int} (h : Dr l) (h2 : 0 ≤ a ∧ a < 1000) : Dr (l ++ [a]) := fun x m => by
  rcases List.mem_append.mp m with m | m
  · exact h x m
  · rw [List.mem_singleton.mp m]; exact h2
theorem hlen {α : Type} [Rp α] (l : List α) : HasLen.len l = l.length := rfl
theorem draws_ok {ns : List Int} {c : Int} (hn : ns.length ≤ 63) (h0 : 0 ≤ c) (h1 : c ≤ 1000) : Ok (m__law_draws (ns, c, ())) fun l => (l.length : Int) = c ∧ Dr l := by
  unfold m__law_draws
  rw [ok_bind]
  refine ok_fold (fun g => g.1 = ns ∧ g.2.1 = c ∧ (g.2.2.1.length : Int) ≤ c ∧ Dr g.2.2.1) ⟨by first | rfl | trivial, by first | rfl | trivial, by simpa using h0, fun x m => by cases m⟩ ?_ ?_
  · rintro ⟨a1, a2, a3, _⟩ a _ ⟨b1, b2, b3, b4⟩
    simp only at b1 b2 b3 b4
    subst b1 b2
    simp only [ok_bind, ok_ok, ok_ite, hlen]
    rw [ok_pow (by decide)]
    refine ⟨fun _ => ?_, fun _ => ⟨fun hl => ?_, fun _ => ⟨by first | rfl | trivial, by first | rfl | trivial, b3, b4⟩⟩⟩
    · rw [ok_rng (by decide)]
      refine ok_fold (fun g => g.1 = a1 ∧ g.2.1 = a2 ∧ (g.2.2.1.length : Int) ≤ a2 ∧ Dr g.2.2.1) ⟨by first | rfl | trivial, by first | rfl | trivial, b3, b4⟩ ?_ fun g h => h
      rintro ⟨c1, c2, c3, c4, c5, _⟩ k _ ⟨d1, d2, d3, d4⟩
      simp only at d1 d2 d3 d4
      subst d1 d2
      simp only [ok_bind, ok_ok, ok_ite, hlen]

      refine ⟨fun _ => ⟨fun hl => ?_, fun _ => ⟨by first | rfl | trivial, by first | rfl | trivial, d3, d4⟩⟩, fun _ => ⟨(fun z => absurd z Bool.false_ne_true), fun _ => ⟨by first | rfl | trivial, by first | rfl | trivial, d3, d4⟩⟩⟩
      have hl := of_decide_eq_true hl
      rw [ok_mod (by decide), ok_app (by omega), ok_fdv (by decide) (by decide)]
      exact ⟨by first | rfl | trivial, by first | rfl | trivial, by simp only [len_app]; omega, d4.snoc (fm_range (by decide))⟩
    · have hl := of_decide_eq_true hl
      rw [ok_mulr (by decide), ok_mod (by decide), ok_mulr (by decide), ok_mod (by decide), ok_mod (by decide), ok_app (by omega)]
      exact ⟨by first | rfl | trivial, by first | rfl | trivial, by simp only [len_app]; omega, b4.snoc (fm_range (by decide))⟩
  · rintro ⟨a1, a2, a3, _⟩ ⟨b1, b2, b3, b4⟩
    simp only at b1 b2 b3 b4
    subst b1 b2
    simp only []
    rw [ok_bind]
    refine ok_fold (fun g => g.1 = a1 ∧ g.2.1 = a2 ∧ g.2.2.1 = a3) ⟨rfl, rfl, rfl⟩ ?_ ?_
    · rintro ⟨c1, c2, c3, c4, _⟩ a _ ⟨d1, d2, d3⟩
      simp only at d1 d2 d3
      subst d1 d2 d3
      simp only [ok_bind, ok_ok]
      rw [ok_mulr (by decide), ok_mod (by decide)]
      exact ⟨by trivial, by trivial, by trivial⟩
    · rintro ⟨c1, c2, c3, c4, _⟩ ⟨d1, d2, d3⟩
      simp only at d1 d2 d3
      subst d1 d2 d3
      simp only [ok_bind, ok_ok]
      rw [ok_rng (by omega)]
      refine ok_foldI (fun i g => g.1 = c1 ∧ g.2.1 = c2 ∧ (g.2.2.1.length : Int) ≤ c2 ∧ ((i : Int) ≤ c2 → (i : Int) ≤ g.2.2.1.length) ∧ Dr g.2.2.1) ⟨by first | rfl | trivial, by first | rfl | trivial, b3, fun _ => by simp, b4⟩ ?_ ?_
      · rintro i ⟨e1, e2, e3, e4, _⟩ k hk ⟨f1, f2, f3, f4, f5⟩
        simp only at f1 f2 f3 f4 f5
        subst f1 f2
        simp only [ok_bind, ok_ok, ok_ite, hlen]
        refine ⟨fun hl => ?_, fun hl => ⟨by first | rfl | trivial, by first | rfl | trivial, f3, fun z => ?_, f5⟩⟩
        · have hl := of_decide_eq_true hl
          rw [ok_mulr (by decide), ok_mod (by decide), ok_fdv (by decide) (by decide), ok_mod (by decide), ok_app (by omega)]
          exact ⟨by first | rfl | trivial, by first | rfl | trivial, by simp only [len_app]; omega, fun z => by simp only [len_app]; omega, f5.snoc (fm_range (by decide))⟩
        · have hl := of_decide_eq_false hl
          omega
      · rintro ⟨e1, e2, e3, e4, _⟩ ⟨f1, f2, f3, f4, f5⟩
        simp only at f1 f2 f3 f4 f5
        subst f1 f2
        rw [rangeL_len] at f4
        exact ⟨by have := f4 (by omega); show ((e3.length : Int)) = _; omega, f5⟩
end LW

/-! PA: gcd, ratios. -/
namespace LW
open PySem L2 FL
theorem gcd_loop {f : (Int × (Int × Unit)) → Int → Xc (Lp (Int × (Int × Unit)) Int)} (hf : ∀ x y k, f (x, (y, ())) k = if decide (y = 0) = true then Xc.ok (Lp.rt x) else Xc.bind (modX x y) fun t => Xc.ok (Lp.ct (y, (t, ())))) :
    ∀ (n : Nat) (l : List Int) (x y : Nat), 2 * n + 2 ≤ l.length → y < 2 ^ n → forX f l ((x : Int), ((y : Int), ())) = .ok (.inr ((Nat.gcd x y : Nat) : Int)) := by
  have step0 : ∀ (a : Int) (l : List Int) (x : Nat), forX f (a :: l) ((x : Int), ((0 : Int), ())) = .ok (.inr (x : Int)) := fun a l x => by
    rw [forX_cons, hf]
    simp [bind_ok]
  have step1 : ∀ (a : Int) (l : List Int) (x y : Nat), y ≠ 0 → forX f (a :: l) ((x : Int), ((y : Int), ())) = forX f l ((y : Int), (((x % y : Nat) : Int), ())) := fun a l x y h => by
    rw [forX_cons, hf]
    have h2 : (y : Int) ≠ 0 := by omega
    rw [if_neg (by simpa using h), modX_b h2]
    simp only [bind_ok]
    rw [Int.fmod_eq_emod_of_nonneg _ (by omega)]
    rfl
  intro n
  induction n with
  | zero =>
    intro l x y hl hy
    have : y = 0 := by simpa using hy
    subst this
    cases l with
    | nil => simp at hl
    | cons a l => simpa using step0 a l x
  | succ n ih =>
    intro l x y hl hy
    match l, hl with
    | a :: b :: l, hl =>
      by_cases h : y = 0
      · subst h; simpa using step0 a (b :: l) x
      · rw [step1 _ _ _ _ h]
        by_cases h2 : x % y = 0
        · rw [h2]
          have := step0 b l y
          rw [show ((0 : Nat) : Int) = 0 from rfl, this]
          rw [Nat.gcd_comm, Nat.gcd_rec, h2, Nat.gcd_zero_left]
        · rw [step1 _ _ _ _ h2]
          have hr : x % y < y := Nat.mod_lt _ (by omega)
          have hs : 2 * (y % (x % y)) < 2 ^ (n + 1) := by
            have h3 : y % (x % y) < x % y := Nat.mod_lt _ (by omega)
            have h4 : y % (x % y) ≤ y - (x % y) := by
              have e := Nat.div_add_mod y (x % y)
              have : 1 ≤ y / (x % y) := Nat.div_pos (by omega) (by omega)
              have : (x % y) * 1 ≤ (x % y) * (y / (x % y)) := Nat.mul_le_mul_left _ this
              omega
            omega
          rw [ih l (x % y) (y % (x % y)) (by simp at hl; omega) (by rw [Nat.pow_succ] at hs; omega)]
          congr 3
          rw [Nat.gcd_comm x y, Nat.gcd_rec y x, Nat.gcd_rec (x % y) y, Nat.gcd_comm]
theorem absI_eq (i : Int) : absI i = (i.natAbs : Int) := by
  unfold absI
  split <;> omega
theorem bits_lt (n : Nat) : n < 2 ^ Builtin.Int.intBits (n : Int) := by
  unfold Builtin.Int.intBits
  by_cases h : n = 0
  · subst h; decide
  · have : ((n : Int) == 0) = false := by simpa using h
    rw [this]
    simp only [Bool.false_eq_true, if_false]
    exact Nat.lt_log2_self
theorem bits_le {n b : Nat} (h : n < 2 ^ b) : Builtin.Int.intBits (n : Int) ≤ b := by
  unfold Builtin.Int.intBits
  by_cases h0 : n = 0
  · subst h0; simp
  · have : ((n : Int) == 0) = false := by simpa using h0
    rw [this]
    simp only [Bool.false_eq_true, if_false]
    have := (Nat.log2_lt h0).2 h
    exact this
theorem gcd_ok' {a b : Int} (h1 : Builtin.Int.intBits (b.natAbs : Int) ≤ 9000) : m__law_gcd (a, b, ()) = .ok (gcdI a b) := by
  have e1 : mulX (2 : Int) ((Builtin.Int.intBits (absI b) : Nat) : Int) = .ok (2 * ((Builtin.Int.intBits (b.natAbs : Int) : Nat) : Int)) := by rw [absI_eq]; exact mulX_l (by decide)
  have e2 : rngX 0 (2 * ((Builtin.Int.intBits (b.natAbs : Int) : Nat) : Int) + 2) = .ok (rangeL 0 (2 * ((Builtin.Int.intBits (b.natAbs : Int) : Nat) : Int) + 2)) := rngX_b (by decide) (by omega) (by decide) (by omega)
  have e3 := gcd_loop (f := fun (g408 : (Int × (Int × Unit))) a411 => (if (decide (g408.2.1 = (0 : Int))) = true then (Xc.ok (Lp.rt g408.1)) else (Xc.bind (modX g408.1 g408.2.1) fun t413 => (Xc.ok (Lp.ct (g408.2.1, (t413, ()))))))) (fun x y k => Eq.refl _) (Builtin.Int.intBits (b.natAbs : Int)) (rangeL 0 (2 * ((Builtin.Int.intBits (b.natAbs : Int) : Nat) : Int) + 2)) a.natAbs b.natAbs (by rw [rangeL_len]; omega) (bits_lt _)
  unfold m__law_gcd
  show (Xc.bind (Xc.bind (Xc.bind (mulX (2 : Int) ((Builtin.Int.intBits (absI b) : Nat) : Int)) _) _) _) = _
  rw [e1, bind_ok, bind_ok, e2, bind_ok]
  show forK (forX _ _ (absI a, (absI b, ()))) id _ = _
  rw [absI_eq, absI_eq, e3, forK_inr, gcdI]
  exact Eq.refl _
theorem gcd_ok {a b : Int} (hb : b.natAbs < 2 ^ 9000) : m__law_gcd (a, b, ()) = .ok (gcdI a b) := gcd_ok' (bits_le hb)
def lo (a b : Int) : Int × Int := (a.fdiv (if b < 0 then -gcdI a b else gcdI a b), b.fdiv (if b < 0 then -gcdI a b else gcdI a b))
theorem gcdI_le {a b : Int} (hb : b ≠ 0) : (gcdI a b).natAbs ≤ b.natAbs ∧ gcdI a b ≠ 0 ∧ 0 < gcdI a b := by
  unfold gcdI
  have h1 : 0 < b.natAbs := by omega
  have h2 := Nat.gcd_le_right a.natAbs h1
  have h3 := Nat.gcd_pos_of_pos_right a.natAbs h1
  omega
theorem lo_bind {a b : Int} (hb : b ≠ 0) (h : b.natAbs < 2 ^ 9000) : (Xc.bind (if (decide (b < (0 : Int))) = true then (Xc.ok (a, (b, ((-(gcdI a b)), ())))) else (Xc.ok (a, (b, ((gcdI a b), ()))))) fun (g3 : (Int × (Int × (Int × Unit)))) => (Xc.bind (fdvX g3.1 g3.2.2.1) fun t4 => (Xc.bind (fdvX g3.2.1 g3.2.2.1) fun t5 => (Xc.ok (t4, t5))))) = .ok (lo a b) := by
  obtain ⟨h1, h2, h3⟩ := gcdI_le (a := a) hb
  unfold lo
  by_cases hn : b < 0
  · rw [if_pos (by simpa using hn), if_pos hn]
    simp only [bind_ok]
    rw [fdvX_b (by omega) (b := 9000) (Nat.lt_of_le_of_lt (by rw [Int.natAbs_neg]; exact h1) h) (Nat.le_refl _), bind_ok, fdvX_b (by omega) (b := 9000) (Nat.lt_of_le_of_lt (by rw [Int.natAbs_neg]; exact h1) h) (Nat.le_refl _), bind_ok]
  · rw [if_neg (by simpa using hn), if_neg hn]
    simp only [bind_ok]
    rw [fdvX_b (by omega) (b := 9000) (Nat.lt_of_le_of_lt h1 h) (Nat.le_refl _), bind_ok, fdvX_b (by omega) (b := 9000) (Nat.lt_of_le_of_lt h1 h) (Nat.le_refl _), bind_ok]
theorem ratio_ok {a b : Int} (hb : b ≠ 0) (h : b.natAbs < 2 ^ 9000) : m_ratio (a, b, ()) = .ok (lo a b) := by
  unfold m_ratio
  rw [if_neg (by simpa using hb)]
  exact lo_bind hb h
theorem ratio_er {a : Int} : m_ratio (a, 0, ()) = .er "BadNumber" [] := rfl
theorem low_ok {a b : Int} (hb : b ≠ 0) (h : b.natAbs < 2 ^ 9000) : m__law_low (a, b, ()) = .ok (lo a b) := by
  unfold m__law_low
  simp only []
  rw [gcd_ok h, bind_ok]
  exact lo_bind hb h
theorem isi_ii (i : Int) : isiX (HasTy.ty i) "int" = .ok true := by
  show isiX "int" "int" = _
  unfold isiX
  rfl
theorem isi_ib (i : Int) : isiX (HasTy.ty i) "bool" = .ok false := by
  show isiX "int" "bool" = _
  unfold isiX
  rfl
theorem isi_pt (p : Int × Int) : isiX (HasTy.ty p) "tuple" = .ok true := by
  show isiX "tuple" "tuple" = _
  unfold isiX
  rfl
theorem rng2 : rngX 0 2 = .ok [0, 1] := by
  rw [rngX_b (by decide) (by decide) (by decide) (by decide)]
  unfold rangeL
  rfl
theorem get0 {x y : Int} : getX [x, y] 0 = .ok x := getX_b (by decide) rfl
theorem get1 {x y : Int} : getX [x, y] 1 = .ok y := getX_b (by decide) rfl
theorem same_refl (p : Int × Int) : m__law_same (p, p, ()) = .ok true := by
  obtain ⟨x, y⟩ := p
  unfold m__law_same
  simp only [isi_pt, bind_ok, Bool.not_true, Bool.false_eq_true, if_false]
  rw [show (!decide (((HasLen.len ((x, y) : Int × Int) : Nat) : Int) = (2 : Int))) = false from rfl]
  simp only [Bool.false_eq_true, if_false, rng2, bind_ok, forX_cons, get0, get1, isi_ii, isi_ib, Bool.not_true, decide_true, if_true]
  rfl
end LW

/-! PB: lowest terms, the four operations. -/
namespace LW
open PySem L2 FL
structure Lw (p : Int × Int) : Prop where
  pos : 1 ≤ p.2
  cop : Nat.gcd p.1.natAbs p.2.natAbs = 1
theorem cross {p q : Int × Int} (hp : Lw p) (hq : Lw q) (h : p.1 * q.2 = q.1 * p.2) : p = q := by
  obtain ⟨a, b⟩ := p
  obtain ⟨c, d⟩ := q
  have h1 := hp.pos
  have h2 := hp.cop
  have h3 := hq.pos
  have h4 := hq.cop
  simp only at h h1 h2 h3 h4
  have hn : a.natAbs * d.natAbs = c.natAbs * b.natAbs := by rw [← Int.natAbs_mul, ← Int.natAbs_mul, h]
  have d1 : b.natAbs ∣ d.natAbs := by
    have : b.natAbs ∣ a.natAbs * d.natAbs := ⟨c.natAbs, by rw [hn, Nat.mul_comm]⟩
    exact (Nat.Coprime.dvd_of_dvd_mul_left (Nat.Coprime.symm h2) this)
  have d2 : d.natAbs ∣ b.natAbs := by
    have : d.natAbs ∣ c.natAbs * b.natAbs := ⟨a.natAbs, by rw [← hn, Nat.mul_comm]⟩
    exact (Nat.Coprime.dvd_of_dvd_mul_left (Nat.Coprime.symm h4) this)
  have e : b.natAbs = d.natAbs := Nat.dvd_antisymm d1 d2
  have e2 : b = d := by omega
  subst e2
  have : a = c := Int.eq_of_mul_eq_mul_right (show b ≠ 0 by omega) h
  rw [this]
theorem lo_facts {a b : Int} (hb : b ≠ 0) : Lw (lo a b) ∧ (lo a b).1 * b = a * (lo a b).2 ∧ (lo a b).1.natAbs ≤ a.natAbs ∧ (lo a b).2.natAbs ≤ b.natAbs := by
  obtain ⟨h1, h2, h3⟩ := gcdI_le (a := a) hb
  have dv1 : gcdI a b ∣ a := by unfold gcdI; exact Int.ofNat_dvd_left.mpr (Nat.gcd_dvd_left _ _)
  have dv2 : gcdI a b ∣ b := by unfold gcdI; exact Int.ofNat_dvd_left.mpr (Nat.gcd_dvd_right _ _)
  have hg : (gcdI a b).natAbs = Nat.gcd a.natAbs b.natAbs := by unfold gcdI; simp
  have main : ∀ c : Int, c ≠ 0 → c.natAbs = (gcdI a b).natAbs → c ∣ a → c ∣ b → (0 < c ↔ 0 < b) → Lw (a.fdiv c, b.fdiv c) ∧ (a.fdiv c) * b = a * (b.fdiv c) ∧ (a.fdiv c).natAbs ≤ a.natAbs ∧ (b.fdiv c).natAbs ≤ b.natAbs := by
    rintro c hc hcn ⟨x, rfl⟩ ⟨y, rfl⟩ hs
    rw [Int.mul_fdiv_cancel_left _ hc, Int.mul_fdiv_cancel_left _ hc]
    have hy : 0 < y := by
      by_cases hcp : 0 < c
      · by_cases z : 0 < y
        · exact z
        · have h1 := hs.mp hcp
          have h2 := Int.mul_le_mul_of_nonneg_left (show y ≤ 0 by omega) (show 0 ≤ c by omega)
          omega
      · have : ¬ 0 < c * y := fun z => hcp (hs.mpr z)
        have hy0 : y ≠ 0 := fun z => hb (by rw [z, Int.mul_zero])
        have : c < 0 := by omega
        by_cases z : 0 < y
        · exact z
        · have : y < 0 := by omega
          have := Int.mul_pos_of_neg_of_neg ‹c < 0› ‹y < 0›
          omega
    refine ⟨⟨by show 1 ≤ y; omega, ?_⟩, by rw [Int.mul_comm c y, ← Int.mul_assoc, Int.mul_comm (x * y) c, ← Int.mul_assoc], ?_, ?_⟩
    · show Nat.gcd x.natAbs y.natAbs = 1
      rw [hg, Int.natAbs_mul, Int.natAbs_mul, Nat.gcd_mul_left] at hcn
      have h0 : 0 < c.natAbs := by omega
      exact (Nat.eq_of_mul_eq_mul_left h0 (by rw [Nat.mul_one]; exact hcn)).symm
    · rw [Int.natAbs_mul]; exact Nat.le_mul_of_pos_left _ (by omega)
    · rw [Int.natAbs_mul]; exact Nat.le_mul_of_pos_left _ (by omega)
  unfold lo
  by_cases hn : b < 0
  · rw [if_pos hn]
    exact main _ (by omega) (by rw [Int.natAbs_neg]) ((Int.neg_dvd).mpr dv1) ((Int.neg_dvd).mpr dv2) (by omega)
  · rw [if_neg hn]
    exact main _ h2 rfl dv1 dv2 (by omega)
theorem lo_red {p : Int × Int} (h : Lw p) : lo p.1 p.2 = p := by
  have hb : p.2 ≠ 0 := by have := h.pos; omega
  obtain ⟨h1, h2, _⟩ := lo_facts (a := p.1) hb
  exact cross h1 h h2
theorem lo_mul {f a b : Int} (hf : f ≠ 0) (hb : b ≠ 0) : lo (f * a) (f * b) = lo a b := by
  obtain ⟨h1, h2, _⟩ := lo_facts (a := a) hb
  obtain ⟨h3, h4, _⟩ := lo_facts (a := f * a) (Int.mul_ne_zero hf hb)
  refine cross h3 h1 ?_
  apply Int.eq_of_mul_eq_mul_right (Int.mul_ne_zero hf hb)
  rw [Int.mul_right_comm, h4, Int.mul_right_comm (lo a b).1]
  have e : (lo a b).1 * (f * b) = f * (a * (lo a b).2) := by rw [← h2, Int.mul_left_comm]
  rw [e]
  simp only [Int.mul_assoc, Int.mul_comm, Int.mul_left_comm]
/-- small -/
abbrev Sm (i : Int) : Prop := i.natAbs < 2 ^ 1000
theorem mul_s {i j : Int} (hi : Sm i) (hj : Sm j) : mulX i j = .ok (i * j) := mulX_b hi hj (by decide)
theorem mul_lt {i j : Int} (hi : Sm i) (hj : Sm j) : (i * j).natAbs < 2 ^ 2000 := by
  rw [Int.natAbs_mul, show 2000 = 1000 + 1000 from rfl, Nat.pow_add]
  exact Nat.mul_lt_mul'' hi hj
theorem two_le {a b : Nat} (h : a ≤ b) {n : Nat} (hn : n < 2 ^ a) : n < 2 ^ b := Nat.lt_of_lt_of_le hn (Nat.pow_le_pow_right (by decide) h)
theorem mul_lt9 {i j : Int} (hi : Sm i) (hj : Sm j) : (i * j).natAbs < 2 ^ 9000 := two_le (by decide) (mul_lt hi hj)
section
variable {a b c d : Int} (ha : Sm a) (hb : Sm b) (hc : Sm c) (hd : Sm d) (pb : 1 ≤ b) (pd : 1 ≤ d)
theorem bd_ne (pb : 1 ≤ b) (pd : 1 ≤ d) : b * d ≠ 0 := Int.mul_ne_zero (by omega) (by omega)
theorem add_ok (ha : Sm a) (hb : Sm b) (hc : Sm c) (hd : Sm d) (pb : 1 ≤ b) (pd : 1 ≤ d) : m_add ((a, b), ((c, d), ())) = .ok (lo (a * d + c * b) (b * d)) := by
  unfold m_add
  simp only [mul_s ha hd, mul_s hc hb, mul_s hb hd, bind_ok]
  exact ratio_ok (bd_ne pb pd) (mul_lt9 hb hd)
theorem sub_ok (ha : Sm a) (hb : Sm b) (hc : Sm c) (hd : Sm d) (pb : 1 ≤ b) (pd : 1 ≤ d) : m_subtract ((a, b), ((c, d), ())) = .ok (lo (a * d - c * b) (b * d)) := by
  unfold m_subtract
  simp only [mul_s ha hd, mul_s hc hb, mul_s hb hd, bind_ok]
  exact ratio_ok (bd_ne pb pd) (mul_lt9 hb hd)
theorem mult_ok (ha : Sm a) (hb : Sm b) (hc : Sm c) (hd : Sm d) (pb : 1 ≤ b) (pd : 1 ≤ d) : m_multiply ((a, b), ((c, d), ())) = .ok (lo (a * c) (b * d)) := by
  unfold m_multiply
  simp only [mul_s ha hc, mul_s hb hd, bind_ok]
  exact ratio_ok (bd_ne pb pd) (mul_lt9 hb hd)
theorem div_ok (ha : Sm a) (hb : Sm b) (hc : Sm c) (hd : Sm d) (pb : 1 ≤ b) (hc0 : c ≠ 0) : m_divide ((a, b), ((c, d), ())) = .ok (lo (a * d) (b * c)) := by
  unfold m_divide
  rw [if_neg (by simpa using hc0)]
  simp only [mul_s ha hd, mul_s hb hc, bind_ok]
  exact ratio_ok (Int.mul_ne_zero (by omega) hc0) (mul_lt9 hb hc)
theorem cmp_ok (ha : Sm a) (hb : Sm b) (hc : Sm c) (hd : Sm d) : m_compare ((a, b), ((c, d), ())) = .ok (if a * d < c * b then -1 else if c * b < a * d then 1 else 0) := by
  unfold m_compare
  simp only [mul_s ha hd, mul_s hc hb, bind_ok, decide_eq_true_eq]
  split
  · rfl
  · split <;> rfl
end
theorem raises_i (v : Int) : m__law_raises_i ("ratio", (v, ())) = .ok true := Eq.trans (Eq.refl _) (Eq.refl _)
theorem raises_q {p : Int × Int} : m__law_raises_q ("divide", (p, ())) = .ok true := Eq.trans (Eq.refl _) (Eq.refl _)
end LW

/-! PC: a pair; the first of many. -/
namespace LW
open PySem L2 FL
theorem integer_refl (i : Int) : m__law_integer (i, (i, ())) = .ok true := by
  unfold m__law_integer
  simp only [isi_ii, isi_ib, bind_ok', if_true, Bool.not_false, decide_true]
theorem pair_ok {p q : Int × Int} (hp : Lw p) (hq : Lw q) (s1 : Sm p.1) (s2 : Sm p.2) (s3 : Sm q.1) (s4 : Sm q.2) : m__law_pair (p, (q, ())) = .ok true := by
  obtain ⟨a, b⟩ := p
  obtain ⟨c, d⟩ := q
  have pb : 1 ≤ b := hp.pos
  have pd : 1 ≤ d := hq.pos
  simp only at s1 s2 s3 s4
  have l1 : m__law_low (a * d + c * b, (b * d, ())) = .ok (lo (a * d + c * b) (b * d)) := low_ok (bd_ne pb pd) (mul_lt9 s2 s4)
  have l2 : m__law_low (a * d - c * b, (b * d, ())) = .ok (lo (a * d - c * b) (b * d)) := low_ok (bd_ne pb pd) (mul_lt9 s2 s4)
  have l3 : m__law_low (a * c, (b * d, ())) = .ok (lo (a * c) (b * d)) := low_ok (bd_ne pb pd) (mul_lt9 s2 s4)
  unfold m__law_pair
  simp only [add_ok s1 s2 s3 s4 pb pd, sub_ok s1 s2 s3 s4 pb pd, mult_ok s1 s2 s3 s4 pb pd, cmp_ok s1 s2 s3 s4, mul_s s1 s4, mul_s s3 s2, mul_s s2 s4, mul_s s1 s3, bind_ok', l1, l2, l3, same_refl, Bool.not_true, Bool.false_eq_true, if_false]
  have ng : m_negate ((a, b), ()) = .ok (-a, b) := rfl
  rw [ng]
  simp only [bind_ok', same_refl, Bool.not_true, Bool.false_eq_true, if_false]
  have fin : m__law_integer ((if a * d < c * b then (-1 : Int) else if c * b < a * d then 1 else 0), (((if (decide ((0 : Int) < a * d - c * b)) = true then (1 : Int) else 0) - (if (decide (a * d - c * b < (0 : Int))) = true then (1 : Int) else 0)), ())) = .ok true := by
    have e : ((if (decide ((0 : Int) < a * d - c * b)) = true then (1 : Int) else 0) - (if (decide (a * d - c * b < (0 : Int))) = true then (1 : Int) else 0)) = (if a * d < c * b then (-1 : Int) else if c * b < a * d then 1 else 0) := by
      simp only [decide_eq_true_eq]
      split <;> split <;> (first | omega | (split <;> omega) | (split <;> (split <;> omega)) | skip)
    rw [e]
    exact integer_refl _
  by_cases h0 : c = 0
  · subst h0
    simp only [raises_q, bind_ok', Bool.not_true, Bool.false_eq_true, if_false, decide_true, if_true]
    exact fin
  · have hc : ¬ (decide (c = 0) = true) := by simpa using h0
    have l4 : m__law_low (a * d, (b * c, ())) = .ok (lo (a * d) (b * c)) := low_ok (Int.mul_ne_zero (by omega) h0) (mul_lt9 s2 s3)
    simp only [if_neg hc, div_ok s1 s2 s3 s4 pb h0, mul_s s2 s3, bind_ok', l4, same_refl, Bool.not_true, Bool.false_eq_true, if_false]
    exact fin
end LW

/-! PE: the parts; the first of many. -/
namespace LW
open PySem L2 FL
abbrev Mid (i : Int) : Prop := i.natAbs < 2 ^ 129
theorem Mid.sm {i : Int} (h : Mid i) : Sm i := two_le (by decide) h
theorem dr_get {l : List Int} {n : Nat} {i : Int} (hl : (l.length : Int) = n) (hd : Dr l) (h0 : 0 ≤ i) (h1 : i < n) : ∃ x, getX l i = .ok x ∧ 0 ≤ x ∧ x < 1000 := by
  obtain ⟨a, e, m, _⟩ := getX_ex (l := l) h0 (by omega)
  exact ⟨a, e, hd a m⟩
theorem ok_if {α : Type} {T : Xc Bool} {A B : Xc α} {P : α → Prop} (h : Ok T fun _ => True) (hA : Ok A P) (hB : Ok B P) : Ok (Xc.bind T fun b => if b = true then A else B) P := by
  rw [ok_bind]
  exact h.imp fun b _ => by cases b <;> simp <;> assumption
theorem parts_ok {l : List Int} (hl : (l.length : Int) = 48) (hd : Dr l) {k : Int} (h0 : 0 ≤ k) (h1 : k < 8) : Ok (m__law_parts (l, (3 * k, ()))) fun p => 1 ≤ p.2 ∧ Mid p.1 ∧ Mid p.2 := by
  obtain ⟨x, ex, x0, x1⟩ := dr_get (n := 48) hl hd (i := 3 * k) (by omega) (by omega)
  obtain ⟨y, ey, y0, y1⟩ := dr_get (n := 48) hl hd (i := 3 * k + 1) (by omega) (by omega)
  obtain ⟨z, ez, z0, z1⟩ := dr_get (n := 48) hl hd (i := 3 * k + 2) (by omega) (by omega)
  have e35 : powX 10 35 = .ok (100000000000000000000000000000000000) := by rw [powX_b (by decide)]; rfl
  have m2 := fm_range (a := y) (m := 2) (by decide)
  have m9 := fm_range (a := z) (m := 999) (by decide)
  have tst : ∀ d m c : Int, d ≠ 0 → d.natAbs < 2 ^ 64 → m ≠ 0 → Ok (Xc.bind (Xc.bind (Xc.bind (getX l (3 * k + 1)) fun t => fdvX t d) fun t => modX t m) fun t => Xc.ok (decide (t = c))) fun _ => True := fun d m c h1 h2 h3 => by
    rw [ok_bind, ok_bind, ok_bind, ey, ok_ok, ok_fdv h1 h2, ok_mod h3, ok_ok]
    trivial
  unfold m__law_parts
  refine ok_bind.mpr (Ok.imp (Q := fun t => -1000 < t ∧ t < 1000) ?_ fun t ht => ok_bind.mpr (Ok.imp (Q := fun b => 1 ≤ b ∧ b < 1000) ?_ fun b hb => ?_))
  · simp only [ex, ey, ok_bind, ok_ok]
    rw [ok_mod (by decide), ok_mull (by decide)]
    have hs : y.fmod 2 = 0 ∨ y.fmod 2 = 1 := by omega
    rw [ok_mulr (by omega)]
    rcases hs with h | h <;> rw [h] <;> omega
  · simp only [ez, ok_bind, ok_ok]
    rw [ok_mod (by decide)]
    omega
  · refine ok_bind.mpr (Ok.imp (Q := fun g => g.1 = l ∧ g.2.1 = 3 * k ∧ Mid g.2.2.1 ∧ g.2.2.2.1 = b) (ok_if (tst 2 4 1 (by decide) (by decide) (by decide)) ?_ ?_) ?_)
    · have em : mulX t 100000000000000000000000000000000000 = .ok (t * 100000000000000000000000000000000000) := mulX_l (by omega)
      refine ⟨(l, (3 * k, (t * 100000000000000000000000000000000000 + z, (b, ())))), ?_, rfl, rfl, ?_, rfl⟩
      · show Xc.bind (Xc.bind (Xc.bind (powX 10 35) fun t468 => mulX t t468) fun t469 => (Xc.bind (getX l (3 * k + 2)) fun t470 => (Xc.ok (t469 + t470)))) _ = _
        rw [e35, bind_ok', em, bind_ok', ez, bind_ok', bind_ok']
      · show (t * 100000000000000000000000000000000000 + z).natAbs < 2 ^ 129
        omega
    · rw [ok_ok]; exact ⟨rfl, rfl, by show t.natAbs < 2 ^ 129; omega, rfl⟩
    · rintro ⟨l1, a1, t1, b1, _⟩ ⟨e1, e2, e3, e4⟩
      simp only at e1 e2 e3 e4
      subst e1 e2 e4
      refine ok_bind.mpr (Ok.imp (Q := fun g => g.1 = l1 ∧ g.2.1 = 3 * k ∧ Mid g.2.2.1 ∧ 1 ≤ g.2.2.2.1 ∧ Mid g.2.2.2.1) (ok_if (tst 8 4 1 (by decide) (by decide) (by decide)) ?_ ?_) ?_)
      · have em : mulX b1 100000000000000000000000000000000000 = .ok (b1 * 100000000000000000000000000000000000) := mulX_l (by omega)
        refine ⟨(l1, (3 * k, (t1, (b1 * 100000000000000000000000000000000000 + x, ())))), ?_, rfl, rfl, e3, ?_, ?_⟩
        · show Xc.bind (Xc.bind (Xc.bind (powX 10 35) fun t482 => mulX b1 t482) fun t483 => (Xc.bind (getX l1 (3 * k)) fun t484 => (Xc.ok (t483 + t484)))) _ = _
          rw [e35, bind_ok', em, bind_ok', ex, bind_ok', bind_ok']
        · show 1 ≤ b1 * 100000000000000000000000000000000000 + x
          omega
        · show (b1 * 100000000000000000000000000000000000 + x).natAbs < 2 ^ 129
          omega
      · rw [ok_ok]; exact ⟨rfl, rfl, e3, hb.1, by show b1.natAbs < 2 ^ 129; omega⟩
      · rintro ⟨l2, a2, t2, b2, _⟩ ⟨e1, e2, e3, e4, e5⟩
        simp only at e1 e2 e3 e4 e5
        subst e1 e2
        refine ok_bind.mpr (Ok.imp (Q := fun g => 1 ≤ g.2.2.2.1 ∧ Mid g.2.2.1 ∧ Mid g.2.2.2.1) (ok_if (tst 32 6 2 (by decide) (by decide) (by decide)) ?_ ?_) ?_)
        · rw [ok_ok]; exact ⟨e4, by show (0 : Int).natAbs < 2 ^ 129; decide, e5⟩
        · rw [ok_ok]; exact ⟨e4, e3, e5⟩
        · intro g h; rw [ok_ok]; exact h
/-! ### the first of many -/
abbrev Q2 := Int × Int
def stepB (s : Int) (best a : Q2) : Q2 := if s * (a.1 * best.2 - best.1 * a.2) < 0 then a else best
structure Nm (p : Q2) : Prop extends Lw p where
  s1 : Sm p.1
  s2 : Sm p.2
theorem diff_lt {a b c d : Int} (ha : Sm a) (hb : Sm b) (hc : Sm c) (hd : Sm d) : True := trivial
theorem first_ok {many : List Q2} (hm : ∀ p ∈ many, Nm p) {x : Q2} {xs : List Q2} (e : many = x :: xs) {s : Int} (hs : s = 1 ∨ s = -1) : m__law_first (many, (s, ())) = .ok (xs.foldl (stepB s) x) := by
  have hx : Nm x := hm x (by rw [e]; exact List.mem_cons_self)
  have go : ∀ (l : List Q2) (best : Q2), (∀ p ∈ l, Nm p) → Nm best → ∀ (f : ((List (Int × Int)) × (Int × ((Int × Int) × Unit))) → Q2 → Xc ((List (Int × Int)) × (Int × ((Int × Int) × Unit)))), (∀ b a, Nm b → Nm a → f (many, (s, (b, ()))) a = .ok (many, (s, (stepB s b a, ())))) → foldX f l (many, (s, (best, ()))) = .ok (many, (s, (l.foldl (stepB s) best, ()))) := by
    intro l
    induction l with
    | nil => intro best _ _ f _; rfl
    | cons a l ih =>
      intro best h1 h2 f hf
      show (f _ a).bind _ = _
      rw [hf best a h2 (h1 a List.mem_cons_self), bind_ok']
      have h3 : Nm (stepB s best a) := by
        unfold stepB
        split
        · exact h1 a List.mem_cons_self
        · exact h2
      exact ih _ (fun p m => h1 p (List.mem_cons_of_mem _ m)) h3 f hf
  unfold m__law_first
  have e0 : getX many 0 = .ok x := getX_b (by decide) (by rw [e]; rfl)
  simp only [e0, bind_ok']
  rw [go many x hm hx _ ?hf]
  case hf =>
    intro b a hb ha
    have hs' : s.natAbs < 2 ^ 64 := by rcases hs with h | h <;> rw [h] <;> decide
    simp only [mul_s ha.s1 hb.s2, mul_s hb.s1 ha.s2, mulX_l hs', bind_ok']
    unfold stepB
    by_cases h : s * (a.1 * b.2 - b.1 * a.2) < 0
    · rw [if_pos (by simpa using h), if_pos h, bind_ok']
    · rw [if_neg (by simpa using h), if_neg h, bind_ok']
  rw [bind_ok', e]
  show Xc.ok (List.foldl (stepB s) (stepB s x x) xs) = _
  have : stepB s x x = x := by unfold stepB; split <;> rfl
  rw [this]
theorem least_ok {x : Q2} {xs : List Q2} (hm : ∀ p ∈ x :: xs, Nm p) : m_least (x :: xs, ()) = .ok (some (xs.foldl (stepB 1) x)) := by
  have go : ∀ (f : ((List (Int × Int)) × ((Option (Int × Int)) × Unit)) → Q2 → Xc ((List (Int × Int)) × ((Option (Int × Int)) × Unit))) (m : List Q2), (∀ b a, Nm b → Nm a → f (m, (some b, ())) a = .ok (m, (some (stepB 1 b a), ()))) → ∀ (l : List Q2) (best : Q2), (∀ p ∈ l, Nm p) → Nm best → foldX f l (m, (some best, ())) = .ok (m, (some (l.foldl (stepB 1) best), ())) := by
    intro f m hf l
    induction l with
    | nil => intro best _ _; rfl
    | cons a l ih =>
      intro best h1 h2
      show (f _ a).bind _ = _
      rw [hf best a h2 (h1 a List.mem_cons_self), bind_ok']
      exact ih _ (fun p m => h1 p (List.mem_cons_of_mem _ m)) (by
        unfold stepB
        split
        · exact h1 a List.mem_cons_self
        · exact h2)
  unfold m_least
  show Xc.bind (Xc.bind _ (foldX _ xs)) _ = _
  rw [show ∀ (A : Xc ((List (Int × Int)) × ((Option (Int × Int)) × Unit))) f k, A = .ok (x :: xs, (some x, ())) → foldX f xs (x :: xs, (some x, ())) = .ok (x :: xs, (some (xs.foldl (stepB 1) x), ())) → Xc.bind (Xc.bind A (foldX f xs)) k = k (x :: xs, (some (xs.foldl (stepB 1) x), ())) from fun A f k h1 h2 => by rw [h1, bind_ok', h2, bind_ok']]
  · rfl
  · apply go
    · intro b a hb ha
      simp only [Option.isNone_some, Bool.false_eq_true, if_false, someX_ok, bind_ok']
      rw [cmp_ok ha.s1 ha.s2 hb.s1 hb.s2, bind_ok']
      unfold stepB
      by_cases h : a.1 * b.2 < b.1 * a.2
      · rw [if_pos h, bind_ok', if_pos (by decide), if_pos (by omega), bind_ok']
      · rw [if_neg h, bind_ok', if_neg (by split <;> decide), if_neg (by omega), bind_ok']
    · exact fun p m => hm p (List.mem_cons_of_mem _ m)
    · exact hm x List.mem_cons_self
theorem greatest_ok {x : Q2} {xs : List Q2} (hm : ∀ p ∈ x :: xs, Nm p) : m_greatest (x :: xs, ()) = .ok (some (xs.foldl (stepB (-1)) x)) := by
  have go : ∀ (f : ((List (Int × Int)) × ((Option (Int × Int)) × Unit)) → Q2 → Xc ((List (Int × Int)) × ((Option (Int × Int)) × Unit))) (m : List Q2), (∀ b a, Nm b → Nm a → f (m, (some b, ())) a = .ok (m, (some (stepB (-1) b a), ()))) → ∀ (l : List Q2) (best : Q2), (∀ p ∈ l, Nm p) → Nm best → foldX f l (m, (some best, ())) = .ok (m, (some (l.foldl (stepB (-1)) best), ())) := by
    intro f m hf l
    induction l with
    | nil => intro best _ _; rfl
    | cons a l ih =>
      intro best h1 h2
      show (f _ a).bind _ = _
      rw [hf best a h2 (h1 a List.mem_cons_self), bind_ok']
      exact ih _ (fun p m => h1 p (List.mem_cons_of_mem _ m)) (by
        unfold stepB
        split
        · exact h1 a List.mem_cons_self
        · exact h2)
  unfold m_greatest
  show Xc.bind (Xc.bind _ (foldX _ xs)) _ = _
  rw [show ∀ (A : Xc ((List (Int × Int)) × ((Option (Int × Int)) × Unit))) f k, A = .ok (x :: xs, (some x, ())) → foldX f xs (x :: xs, (some x, ())) = .ok (x :: xs, (some (xs.foldl (stepB (-1)) x), ())) → Xc.bind (Xc.bind A (foldX f xs)) k = k (x :: xs, (some (xs.foldl (stepB (-1)) x), ())) from fun A f k h1 h2 => by rw [h1, bind_ok', h2, bind_ok']]
  · rfl
  · apply go
    · intro b a hb ha
      simp only [Option.isNone_some, Bool.false_eq_true, if_false, someX_ok, bind_ok']
      rw [cmp_ok ha.s1 ha.s2 hb.s1 hb.s2, bind_ok']
      unfold stepB
      by_cases h : b.1 * a.2 < a.1 * b.2
      · rw [if_neg (by omega), if_pos h, bind_ok', if_pos (by decide), if_pos (by omega), bind_ok']
      · have h2 : ¬ ((0 : Int) < (if a.1 * b.2 < b.1 * a.2 then (-1 : Int) else if b.1 * a.2 < a.1 * b.2 then 1 else 0)) := by rw [if_neg h]; split <;> decide
        rw [bind_ok', if_neg (by simpa using h2), if_neg (by omega), bind_ok']
    · exact fun p m => hm p (List.mem_cons_of_mem _ m)
    · exact hm x List.mem_cons_self
end LW

/-! PT1: texts: digits, signs, the stroke. -/
namespace LW
open PySem L2 TL FL PySem.StrLaws PySem.Builtin PySem.Builtin.Str
abbrev tx (x : Str) : List Nat := x.cps.toList
theorem tx_ext {x y : Str} (h : tx x = tx y) : x = y := ext_tl h
theorem tx_len (x : Str) : x.length = (tx x).length := len_tl x
theorem occ_mem (s sub : Str) (hi limit : Nat) : ∀ (l : List Nat) (st : Array Nat × Nat), (∀ i ∈ st.fst.toList, i + sub.length ≤ hi ∧ subAt s sub i = true) → ∀ i ∈ (forIn l st (occBody s sub hi limit)).run.fst.toList, i + sub.length ≤ hi ∧ subAt s sub i = true
  | [], st, h => h
  | a :: l, st, h => by
    rw [List.forIn_cons]
    unfold occBody
    split
    · rename_i hc
      refine occ_mem s sub hi limit l _ ?_
      intro i hi'
      simp only [Array.toList_push, List.mem_append, List.mem_singleton] at hi'
      rcases hi' with m | m
      · exact h i m
      · rw [m]; exact ⟨hc.1.2, hc.2⟩
    · exact occ_mem s sub hi limit l _ h
theorem stroke (x : Str) (c : Nat) : (c ∉ tx x ∧ occurrences x ⟨#[c]⟩ 0 x.length 1 = []) ∨ ∃ i, occurrences x ⟨#[c]⟩ 0 x.length 1 = [i] ∧ (tx x)[i]? = some c := by
  have f := found_one x c
  have hl := occ_length_le x ⟨#[c]⟩ 0 x.length 1
  have hm : ∀ i ∈ occurrences x ⟨#[c]⟩ 0 x.length 1, i + (⟨#[c]⟩ : Str).length ≤ x.length ∧ subAt x ⟨#[c]⟩ i = true := by
    rw [occ_eq]
    exact occ_mem x ⟨#[c]⟩ x.length 1 _ _ (by intro i h; simp at h)
  cases e : occurrences x ⟨#[c]⟩ 0 x.length 1 with
  | nil =>
    rw [e] at f
    refine .inl ⟨fun h => ?_, rfl⟩
    simp [h] at f
  | cons i r =>
    rw [e] at hl hm
    have : r = [] := by
      cases r with
      | nil => rfl
      | cons _ _ => simp at hl
    subst this
    exact .inr ⟨i, rfl, (subAt_one x c i).mp (hm i List.mem_cons_self)⟩
/-! digits -/
open NumText
theorem val_pos : ∀ {l : List Nat}, AllDigits l → (∃ c r, l = c :: r ∧ c ≠ 48) → 1 ≤ digitsVal l := by
  intro l
  induction h : l.length using Nat.strongRecOn generalizing l with
  | _ n ih =>
    rintro hd ⟨c, r, rfl, hc⟩
    rcases List.eq_nil_or_concat r with hr | ⟨r', d, hr⟩
    · subst hr
      have := hd.head
      show 1 ≤ 0 * 10 + (c - 48)
      omega
    · rw [List.concat_eq_append] at hr
      subst hr
      have e : c :: (r' ++ [d]) = (c :: r') ++ [d] := rfl
      have h1 := ih (c :: r').length (by rw [← h]; simp) rfl (fun x m => hd x (by rw [e]; exact List.mem_append_left _ m)) ⟨c, r', rfl, hc⟩
      have h2 : digitsVal ((c :: r') ++ [d]) = digitsVal (c :: r') * 10 + (d - 48) := by unfold digitsVal; rw [List.foldl_append]; rfl
      rw [e, h2]
      omega
theorem num_back : ∀ {l : List Nat}, AllDigits l → (∃ c r, l = c :: r ∧ (c ≠ 48 ∨ r = [])) → numL (digitsVal l) = l := by
  intro l
  induction h : l.length using Nat.strongRecOn generalizing l with
  | _ n ih =>
    rintro hd ⟨c, r, rfl, hc⟩
    rcases List.eq_nil_or_concat r with hr | ⟨r', d, hr⟩
    · subst hr
      have := hd.head
      show numL (0 * 10 + (c - 48)) = _
      rw [numL_lt (by omega)]
      congr 1
      omega
    · rw [List.concat_eq_append] at hr
      subst hr
      have hc : c ≠ 48 := by
        rcases hc with h | h
        · exact h
        · simp at h
      have e : c :: (r' ++ [d]) = (c :: r') ++ [d] := rfl
      have hd' : AllDigits (c :: r') := fun x m => hd x (by rw [e]; exact List.mem_append_left _ m)
      have hdd := hd d (by rw [e]; exact List.mem_append_right _ (List.mem_singleton.mpr rfl))
      have h1 := ih (c :: r').length (by rw [← h]; simp) rfl hd' ⟨c, r', rfl, .inl hc⟩
      have h2 : digitsVal ((c :: r') ++ [d]) = digitsVal (c :: r') * 10 + (d - 48) := by unfold digitsVal; rw [List.foldl_append]; rfl
      have h3 := val_pos hd' ⟨c, r', rfl, hc⟩
      rw [e, h2, numL_step (by omega)]
      rw [show (digitsVal (c :: r') * 10 + (d - 48)) / 10 = digitsVal (c :: r') by omega, h1, show 48 + (digitsVal (c :: r') * 10 + (d - 48)) % 10 = d by omega]
theorem num_head (n : Nat) : ∃ c r, numL n = c :: r ∧ (c ≠ 48 ∨ r = []) ∧ (1 ≤ n → c ≠ 48) := by
  induction n using Nat.strongRecOn with
  | _ n ih =>
    by_cases h : n < 10
    · exact ⟨48 + n, [], numL_lt h, .inr rfl, fun _ => by omega⟩
    · obtain ⟨c, r, e, _, h2⟩ := ih (n / 10) (by omega)
      have := h2 (by omega)
      exact ⟨c, r ++ [48 + n % 10], by rw [numL_step (by omega), e]; rfl, .inl this, fun _ => this⟩
/-- the text of an int -/
def intL (i : Int) : List Nat := if i < 0 then 45 :: numL i.natAbs else numL i.natAbs
theorem tx_str (i : Int) : tx (Str.ofString (toString i)) = intL i := by
  unfold intL
  cases i with
  | ofNat n =>
    rw [if_neg (by simp)]
    exact tl_num n
  | negSucc m =>
    rw [if_pos (by omega)]
    show (Str.ofString (toString (Int.negSucc m))).cps.toList = _
    have e : toString (Int.negSucc m) = "-" ++ toString ((m + 1 : Nat) : Int) := rfl
    rw [e, Str.ofString_eq_toList, String.toList_append, List.map_append]
    have e2 := tl_num (m + 1)
    rw [Str.ofString_eq_toList] at e2
    show List.map Char.toNat "-".toList ++ List.map Char.toNat (toString ((m + 1 : Nat) : Int)).toList = _
    have e3 : List.map Char.toNat (toString ((m + 1 : Nat) : Int)).toList = numL (m + 1) := e2
    rw [e3]
    rfl
end LW

/-! PT2: digits read. -/
namespace LW
open PySem L2 TL FL PySem.StrLaws PySem.Builtin PySem.Builtin.Str NumText
theorem hlenS (s : Str) : HasLen.len s = (tx s).length := tx_len s
theorem hlenL {α : Type} [Rp α] (l : List α) : HasLen.len l = l.length := rfl
theorem digs_eq : tx ("0123456789" : Str) = [48, 49, 50, 51, 52, 53, 54, 55, 56, 57] := by decide +kernel
def dgB (k : Nat) : Bool := decide (48 ≤ k ∧ k ≤ 57)
theorem inSg_one (k : Nat) : inSg ⟨#[k]⟩ ("0123456789" : Str) = .ok (dgB k) := by
  unfold inSg
  show Xc.ok (decide (k ∈ tx ("0123456789" : Str))) = _
  rw [digs_eq]
  congr 1
  unfold dgB
  rw [decide_eq_decide]
  simp only [List.mem_cons, List.not_mem_nil, or_false]
  omega
theorem signs_eq (s : Str) : signs s = (tx s).map fun k => (⟨#[k]⟩ : Str) := by unfold signs; rfl
structure DD (s : Str) : Prop where
  h1 : 1 ≤ (tx s).length
  h2 : (tx s).length ≤ 40
  h3 : AllDigits (tx s)
theorem int_dd {s : Str} (h : DD s) : intX s = .ok ((digitsVal (tx s) : Nat) : Int) := by
  unfold intX
  rw [if_pos (by rw [tx_len]; have := h.h2; omega), intText_digits h.h3 (fun e => by have := h.h1; rw [show tx s = [] from e] at this; simp at this) (by rw [tx_len]; have := h.h2; omega)]
theorem dig_loop {f : (Str × Unit) → Str → Xc (Lp (Str × Unit) Int)} (hf : ∀ g k, f g (⟨#[k]⟩ : Str) = if (!dgB k) = true then Xc.er "BadNumber" [] else .ok (.ct (g.1, ()))) : ∀ (l : List Nat) (g : Str × Unit),
    (AllDigits l → forX f (l.map fun k => (⟨#[k]⟩ : Str)) g = .ok (.inl g)) ∧ (¬ AllDigits l → forX f (l.map fun k => (⟨#[k]⟩ : Str)) g = .er "BadNumber" [])
  | [], g => ⟨fun _ => rfl, fun h => absurd (fun c m => by cases m) h⟩
  | k :: l, g => by
    obtain ⟨i1, i2⟩ := dig_loop hf l g
    have e : forX f ((k :: l).map fun k => (⟨#[k]⟩ : Str)) g = (if (!dgB k) = true then Xc.er "BadNumber" [] else forX f (l.map fun k => (⟨#[k]⟩ : Str)) g) := by
      rw [List.map_cons, forX_cons, hf]
      cases dgB k <;> rfl
    rw [e]
    by_cases hk : 48 ≤ k ∧ k ≤ 57
    · have hb : dgB k = true := decide_eq_true hk
      rw [hb]
      refine ⟨fun h => i1 h.tail, fun h => i2 fun h' => h fun c m => ?_⟩
      rcases List.mem_cons.mp m with m | m
      · rw [m]; exact hk
      · exact h' c m
    · have hb : dgB k = false := decide_eq_false hk
      rw [hb]
      exact ⟨fun h => absurd h.head hk, fun _ => rfl⟩
theorem digits_yes {s : Str} (h : DD s) : m__digits (s, ()) = .ok ((digitsVal (tx s) : Nat) : Int) := by
  unfold m__digits
  have h1 := h.h1
  have h2 := h.h2
  simp only [hlenS, signs_eq]
  rw [if_pos (by omega), show decide (((tx s).length : Int) ≤ 40) = true from decide_eq_true (by omega), bind_ok', bind_ok']
  rw [if_neg (by decide)]
  rw [(dig_loop (f := _) (by intro g k; rw [inSg_one, bind_ok', bind_ok']) (tx s) (s, ())).1 h.h3, forK_inl]
  exact int_dd h
theorem digits_no {s : Str} (h : ¬ DD s) : m__digits (s, ()) = .er "BadNumber" [] := by
  unfold m__digits
  simp only [hlenS, signs_eq]
  by_cases h1 : 1 ≤ (tx s).length
  · by_cases h2 : (tx s).length ≤ 40
    · rw [if_pos (by omega), show decide (((tx s).length : Int) ≤ 40) = true from decide_eq_true (by omega), bind_ok', bind_ok']
      rw [if_neg (by decide)]
      rw [(dig_loop (f := _) (by intro g k; rw [inSg_one, bind_ok', bind_ok']) (tx s) (s, ())).2 fun h3 => h ⟨h1, h2, h3⟩]
      rfl
    · rw [if_pos (by omega), show decide (((tx s).length : Int) ≤ 40) = false from decide_eq_false (by omega), bind_ok', bind_ok']
      rw [if_pos (by decide)]
  · rw [if_neg (by omega), bind_ok', bind_ok']
    rw [if_pos (by decide)]
structure Cn (s : Str) : Prop extends DD s where
  h4 : ∃ c r, tx s = c :: r ∧ (c ≠ 48 ∨ r = [])
theorem fil_len (s : Str) : compX (fun a568 => (Xc.bind (inSg a568 ("0123456789" : Str)) fun t => Xc.ok (!t))) (fun a568 => (Xc.ok a568)) (signs s) = .ok (((tx s).filter fun k => !dgB k).map fun k => (⟨#[k]⟩ : Str)) := by
  rw [signs_eq]
  induction tx s with
  | nil => rfl
  | cons k l ih =>
    rw [List.map_cons]
    show Xc.bind (nx (Xc.bind (inSg (⟨#[k]⟩ : Str) ("0123456789" : Str)) fun t => Xc.ok (!t))) _ = _
    rw [inSg_one, bind_ok', show nx (Xc.ok (!dgB k)) = Xc.ok (!dgB k) from rfl, bind_ok', List.filter_cons]
    cases dgB k with
    | true => simpa using ih
    | false =>
      simp only [Bool.not_false, if_true, List.map_cons]
      rw [show nx (Xc.ok (⟨#[k]⟩ : Str)) = Xc.ok (⟨#[k]⟩ : Str) from rfl, bind_ok', ih, bind_ok']
theorem fil_nil {l : List Nat} : (0 < (l.filter fun k => !dgB k).length) ↔ ¬ AllDigits l := by
  rw [List.length_pos_iff_exists_mem]
  constructor
  · rintro ⟨k, hk⟩ h
    obtain ⟨m, e⟩ := List.mem_filter.mp hk
    have := h k m
    unfold dgB at e
    simp at e
    omega
  · intro h
    simp only [AllDigits, Classical.not_forall] at h
    obtain ⟨k, m, e⟩ := h
    exact ⟨k, List.mem_filter.mpr ⟨m, by unfold dgB; simp; omega⟩⟩
theorem ch0 {s : Str} {c : Nat} {r : List Nat} (e : tx s = c :: r) : chX s 0 = .ok ⟨#[c]⟩ := by
  unfold chX
  rw [show atI s.cps.toList 0 = some c from atI_n (n := 0) (by rfl) (by rw [show s.cps.toList = c :: r from e]; rfl)]
theorem sg_zero (c : Nat) : decide ((⟨#[c]⟩ : Str) = ("0" : Str)) = decide (c = 48) := by
  rw [decide_eq_decide]
  constructor
  · intro h
    have : tx (⟨#[c]⟩ : Str) = tx ("0" : Str) := by rw [h]
    rw [show tx ("0" : Str) = [48] by decide +kernel] at this
    have this : [c] = [48] := this
    cases this
    rfl
  · rintro rfl
    exact tx_ext (by decide +kernel)
theorem lawd {s : Str} : (Cn s → m__law_digits (s, ()) = .ok ((digitsVal (tx s) : Nat) : Int)) ∧ (¬ Cn s → m__law_digits (s, ()) = .ok (-1)) := by
  unfold m__law_digits
  rw [fil_len]
  simp only [hlenS, bind_ok', hlenL, List.length_map]
  by_cases h1 : 1 ≤ (tx s).length
  · by_cases h2 : (tx s).length ≤ 40
    · rw [if_neg (by simp only [decide_eq_true_eq]; omega), if_neg (by simp only [decide_eq_true_eq]; omega), bind_ok']
      by_cases h3 : AllDigits (tx s)
      · rw [show decide ((0 : Int) < ((((tx s).filter fun k => !dgB k).length : Nat) : Int)) = false from decide_eq_false (fun z => (fil_nil.mp (by omega)) h3)]
        rw [if_neg (by decide)]
        obtain ⟨c, r, e⟩ : ∃ c r, tx s = c :: r := by
          cases e : tx s with
          | nil => rw [e] at h1; simp at h1
          | cons c r => exact ⟨c, r, rfl⟩
        rw [ch0 e, bind_ok', bind_ok', sg_zero]
        have dd : DD s := ⟨h1, h2, h3⟩
        have hr : (tx s).length = r.length + 1 := by rw [e]; rfl
        by_cases hc : c = 48
        · rw [if_pos (by simpa using hc), bind_ok']
          by_cases hl : 1 < (tx s).length
          · rw [if_pos (by simp only [decide_eq_true_eq]; omega)]
            refine ⟨fun h => ?_, fun _ => rfl⟩
            obtain ⟨c', r', e', h'⟩ := h.h4
            rw [e] at e'
            cases e'
            rcases h' with h' | h'
            · exact absurd hc h'
            · subst h'; simp only [List.length_nil] at hr; omega
          · rw [if_neg (by simp only [decide_eq_true_eq]; omega)]
            refine ⟨fun _ => int_dd dd, fun h => absurd ⟨dd, c, r, e, .inr ?_⟩ h⟩
            cases r with
            | nil => rfl
            | cons _ _ => simp only [List.length_cons] at hr; omega
        · rw [if_neg (by simpa using hc), bind_ok', if_neg (by decide)]
          exact ⟨fun _ => int_dd dd, fun h => absurd ⟨dd, c, r, e, .inl hc⟩ h⟩
      · rw [show decide ((0 : Int) < ((((tx s).filter fun k => !dgB k).length : Nat) : Int)) = true from decide_eq_true (by have := fil_nil.mpr h3; omega)]
        rw [if_pos rfl]
        exact ⟨fun h => absurd h.h3 h3, fun _ => rfl⟩
    · rw [if_neg (by simp only [decide_eq_true_eq]; omega), if_pos (by simp only [decide_eq_true_eq]; omega), bind_ok', if_pos rfl]
      exact ⟨fun h => absurd h.h2 h2, fun _ => rfl⟩
  · rw [if_pos (by simp only [decide_eq_true_eq]; omega), bind_ok', if_pos rfl]
    exact ⟨fun h => absurd h.h1 h1, fun _ => rfl⟩
end LW

/-! PT3: slices, the parts of a number's text. -/
namespace LW
open PySem L2 TL FL PySem.StrLaws PySem.Builtin PySem.Builtin.Str NumText
theorem cut_take (h : Str) (i : Nat) : tx (cutS h none (some (i : Int))) = (tx h).take i := by
  unfold cutS
  show List.take _ _ = _
  rw [HT.sIx_none, HT.sIx_nat, List.drop_zero, Nat.sub_zero, tx_len]
  show List.take (min i (tx h).length) (tx h) = _
  rw [List.take_eq_take_iff]
  omega
theorem cut_drop (h : Str) (i : Nat) : tx (cutS h (some (i : Int)) none) = (tx h).drop i := by
  unfold cutS
  show List.take _ (List.drop _ _) = _
  rw [HT.sIx_none, HT.sIx_nat, tx_len]
  show List.take ((tx h).length - min i (tx h).length) (List.drop (min i (tx h).length) (tx h)) = _
  by_cases hi : i ≤ (tx h).length
  · rw [Nat.min_eq_left hi, List.take_of_length_le (by rw [List.length_drop]; omega)]
  · rw [Nat.min_eq_right (by omega), List.drop_eq_nil_of_le (Nat.le_refl _), List.drop_eq_nil_of_le (by omega), List.take_nil]
theorem tx_sub (x : Str) (a b : Nat) : tx (strSub x a b) = ((tx x).take b).drop a := by
  show (strSub x a b).cps.toList = _
  unfold strSub
  first
    | simp [Array.toList_extract, List.extract_eq_drop_take, List.drop_take]
    | simp [Array.toList_extract, List.extract]
theorem slash_eq : ("/" : Str) = ⟨#[47]⟩ := tx_ext (by decide +kernel)
theorem minus_eq : ("-" : Str) = ⟨#[45]⟩ := tx_ext (by decide +kernel)
theorem starts_minus (h : Str) : Txt.startswith h ("-" : Str) = true ↔ ∃ r, tx h = 45 :: r := by
  rw [minus_eq]
  unfold Txt.startswith
  rw [Bool.and_eq_true, decide_eq_true_eq]
  constructor
  · rintro ⟨h1, h2⟩
    have := (subAt_one h 45 0).mp ⟨by simpa using h1, h2⟩
    cases e : tx h with
    | nil => rw [show h.cps.toList = [] from e] at this; simp at this
    | cons c r =>
      rw [show h.cps.toList = c :: r from e] at this
      have : c = 45 := by simpa using this
      exact ⟨r, by rw [this]⟩
  · rintro ⟨r, e⟩
    have := (subAt_one h 45 0).mpr (by rw [show h.cps.toList = 45 :: r from e]; rfl)
    exact ⟨by simpa using this.1, this.2⟩
theorem cut_minus (h : Str) : decide (cutS h none (some (1 : Int)) = ("-" : Str)) = true ↔ ∃ r, tx h = 45 :: r := by
  rw [decide_eq_true_eq]
  have e := cut_take h 1
  constructor
  · intro z
    rw [show ((1 : Nat) : Int) = 1 from rfl, z, minus_eq] at e
    cases q : tx h with
    | nil => rw [q] at e; cases e
    | cons c r => rw [q] at e; have : [45] = [c] := e; cases this; exact ⟨r, rfl⟩
  · rintro ⟨r, q⟩
    refine tx_ext ?_
    rw [show (1 : Int) = ((1 : Nat) : Int) from rfl, e, q, minus_eq]
    rfl
/-- the digits behind a sign -/
def negB (h : Str) : Bool := Txt.startswith h ("-" : Str)
def dsS (h : Str) : Str := if negB h = true then cutS h (some (1 : Int)) none else h
def sg (h : Str) : Int := if negB h = true then -1 else 1
theorem ds_tx (h : Str) : tx h = if negB h = true then 45 :: tx (dsS h) else tx (dsS h) := by
  unfold dsS
  by_cases e : negB h = true
  · rw [if_pos e, if_pos e]
    obtain ⟨r, q⟩ := (starts_minus h).mp e
    have := cut_drop h 1
    rw [show (1 : Int) = ((1 : Nat) : Int) from rfl, this, q]
    rfl
  · rw [if_neg e, if_neg e]
theorem cut_neg (h : Str) : decide (cutS h none (some (1 : Int)) = ("-" : Str)) = negB h := by
  rw [Bool.eq_iff_iff, cut_minus, ← starts_minus]
  rfl
def vl (h : Str) : Int := ((digitsVal (tx (dsS h)) : Nat) : Int)
/-- the mirror of the program's reader behind the parts -/
def rdM (h : Str) (b : Xc Int) (t : Str) : Xc (Int × Int) := (Xc.bind (if (Txt.startswith h ("-" : Str)) = true then (Xc.bind (m__digits ((cutS h (some (1 : Int)) none), ())) fun t119 => (Xc.ok (-t119))) else (m__digits (h, ()))) fun t120 => (Xc.bind b fun t121 => (Xc.bind (m_ratio (t120, (t121, ()))) fun t122 => (Xc.bind (Xc.bind (m_show_number (t122, ())) fun t123 => (Xc.ok (!decide (t123 = t)))) fun t125 => (if t125 = true then (Xc.er "BadNumber" []) else (Xc.ok t122))))))
theorem top_ok {h : Str} (d : DD (dsS h)) : (if (Txt.startswith h ("-" : Str)) = true then (Xc.bind (m__digits ((cutS h (some (1 : Int)) none), ())) fun t119 => (Xc.ok (-t119))) else (m__digits (h, ()))) = .ok (sg h * vl h) := by
  unfold dsS at d
  unfold sg vl dsS
  show (if negB h = true then _ else _) = _
  by_cases e : negB h = true
  · rw [if_pos e] at d
    rw [if_pos e, if_pos e, if_pos e, digits_yes d, bind_ok']
    congr 1
    omega
  · rw [if_neg e] at d
    rw [if_neg e, if_neg e, if_neg e, digits_yes d]
    congr 1
    omega
theorem top_er {h : Str} (d : ¬ DD (dsS h)) : (if (Txt.startswith h ("-" : Str)) = true then (Xc.bind (m__digits ((cutS h (some (1 : Int)) none), ())) fun t119 => (Xc.ok (-t119))) else (m__digits (h, ()))) = .er "BadNumber" [] := by
  unfold dsS at d
  show (if negB h = true then _ else _) = _
  by_cases e : negB h = true
  · rw [if_pos e] at d
    rw [if_pos e, digits_no d]
    rfl
  · rw [if_neg e] at d
    rw [if_neg e, digits_no d]
end LW

/-! PT4: numbers written and read. -/
namespace LW
open PySem L2 TL FL PySem.StrLaws PySem.Builtin PySem.Builtin.Str NumText
def showL (p : Int × Int) : List Nat := if p.2 = 1 then intL p.1 else intL p.1 ++ 47 :: intL p.2
theorem pow_k : (2 : Nat) ^ 1000 ≤ 10 ^ 400 := by decide +kernel
theorem intL_len {i : Int} (h : Sm i) : (intL i).length ≤ 401 := by
  have := numL_len (n := i.natAbs) (k := 400) (by decide) (Nat.lt_of_lt_of_le h pow_k)
  unfold intL
  split
  · rw [List.length_cons]; omega
  · omega
theorem str_ok {i : Int} (h : Sm i) : strX i = .ok (Str.ofString (toString i)) := by
  unfold strX
  have := log2_of h (by decide)
  rw [if_pos (by omega)]
theorem cat_ok {x y : Str} (h : x.length + y.length ≤ 1000000) : catS x y = .ok (x ++ y) := by
  have := size_ge
  unfold catS
  rw [if_pos (by omega)]
theorem show_ok {p : Int × Int} (h1 : Sm p.1) (h2 : Sm p.2) : ∃ S, m_show_number (p, ()) = .ok S ∧ tx S = showL p ∧ m__law_written (p, ()) = .ok S := by
  have l1 := intL_len h1
  have l2 := intL_len h2
  have t1 : (Str.ofString (toString p.1)).length = (intL p.1).length := by rw [tx_len, tx_str]
  have t2 : (Str.ofString (toString p.2)).length = (intL p.2).length := by rw [tx_len, tx_str]
  have ts : (("/" : Str)).length = 1 := by rw [slash_eq]; rfl
  unfold m_show_number m__law_written showL
  dsimp only
  by_cases h : p.2 = 1
  · rw [if_pos (by simpa using h), if_pos h, str_ok h1]
    exact ⟨_, rfl, tx_str _, rfl⟩
  · have e1 : catS (Str.ofString (toString p.1)) ("/" : Str) = .ok (Str.ofString (toString p.1) ++ ("/" : Str)) := cat_ok (by omega)
    have l3 : (Str.ofString (toString p.1) ++ ("/" : Str)).length = (intL p.1).length + 1 := by rw [app_len, t1, ts]
    have e2 : catS (Str.ofString (toString p.1) ++ ("/" : Str)) (Str.ofString (toString p.2)) = .ok ((Str.ofString (toString p.1) ++ ("/" : Str)) ++ Str.ofString (toString p.2)) := cat_ok (by omega)
    rw [if_neg (by simpa using h), if_neg h, str_ok h1, str_ok h2]
    simp only [bind_ok', e1, e2]
    refine ⟨_, rfl, ?_, rfl⟩
    show tl _ = _
    rw [tl_append, tl_append]
    show (tx (Str.ofString (toString p.1)) ++ tx ("/" : Str)) ++ tx (Str.ofString (toString p.2)) = _
    rw [tx_str, tx_str, slash_eq, List.append_assoc]
    rfl
theorem dd_lt {s : Str} (h : DD s) : (digitsVal (tx s)) < 10 ^ 40 := by
  have key : ∀ l : List Nat, AllDigits l → digitsVal l < 10 ^ l.length := by
    intro l
    induction e : l.length using Nat.strongRecOn generalizing l with
    | _ n ih =>
      intro hd
      rcases List.eq_nil_or_concat l with hr | ⟨r', d, hr⟩
      · subst hr
        have : n = 0 := by rw [← e]; rfl
        subst this
        decide
      · rw [List.concat_eq_append] at hr
        subst hr
        have h1 := ih r'.length (by rw [← e]; simp) r' rfl fun c m => hd c (List.mem_append_left _ m)
        have h2 : digitsVal (r' ++ [d]) = digitsVal r' * 10 + (d - 48) := by unfold digitsVal; rw [List.foldl_append]; rfl
        have h3 := hd d (List.mem_append_right _ (List.mem_singleton.mpr rfl))
        rw [List.length_append, List.length_singleton] at e
        rw [h2, ← e, Nat.pow_succ]
        omega
  exact Nat.lt_of_lt_of_le (key _ h.h3) (Nat.pow_le_pow_right (by decide) h.h2)
theorem ten_two : (10 : Nat) ^ 40 ≤ 2 ^ 1000 := by decide +kernel
theorem vl_sm {h : Str} (d : DD (dsS h)) : Sm (vl h) := by
  have := dd_lt d
  show (((digitsVal (tx (dsS h)) : Nat) : Int)).natAbs < _
  rw [Int.natAbs_natCast]
  exact Nat.lt_of_lt_of_le this ten_two
theorem sgv_sm {h : Str} (d : DD (dsS h)) : Sm (sg h * vl h) := by
  show (sg h * vl h).natAbs < _
  rw [Int.natAbs_mul]
  have : (sg h).natAbs = 1 := by unfold sg; split <;> rfl
  rw [this, Nat.one_mul]
  exact vl_sm d
/-- the reader, behind a bottom b >= 1 -/
theorem rd_ok {h t : Str} {b : Int} (d : DD (dsS h)) (hb : 1 ≤ b) (sb : Sm b) : rdM h (.ok b) t = if showL (lo (sg h * vl h) b) = tx t then .ok (lo (sg h * vl h) b) else .er "BadNumber" [] := by
  have hb0 : b ≠ 0 := by omega
  obtain ⟨f1, f2, f3, f4⟩ := lo_facts (a := sg h * vl h) hb0
  obtain ⟨S, e1, e2, _⟩ := show_ok (p := lo (sg h * vl h) b) (Nat.lt_of_le_of_lt f3 (sgv_sm d)) (Nat.lt_of_le_of_lt f4 sb)
  unfold rdM
  rw [top_ok d, bind_ok', bind_ok', ratio_ok hb0 (two_le (by decide) sb), bind_ok', e1, bind_ok', bind_ok']
  by_cases q : showL (lo (sg h * vl h) b) = tx t
  · rw [if_pos q]
    have : S = t := tx_ext (by rw [e2, q])
    rw [if_neg (by simpa using this)]
  · rw [if_neg q]
    have : S ≠ t := fun z => q (by rw [← e2, z])
    rw [if_pos (by simpa using this)]
theorem rd_er {h t : Str} {b : Xc Int} (d : ¬ DD (dsS h)) : rdM h b t = .er "BadNumber" [] := by
  unfold rdM
  rw [top_er d]
  rfl
theorem rd_er2 {h t : Str} : rdM h (.er "BadNumber" []) t = .er "BadNumber" [] := by
  by_cases d : DD (dsS h)
  · unfold rdM; rw [top_ok d]; rfl
  · exact rd_er d
theorem rd_er0 {h t : Str} : rdM h (.ok 0) t = .er "BadNumber" [] := by
  by_cases d : DD (dsS h)
  · unfold rdM; rw [top_ok d, bind_ok', bind_ok', ratio_er]; rfl
  · exact rd_er d
/-- the law's reader behind the parts -/
def lrM (h : Str) (b : Int) : Xc (Option (Int × Int)) := (Xc.bind (m__law_digits (dsS h, ())) fun t590 => (Xc.bind (if (decide (t590 < (0 : Int))) = true then Xc.ok true else (Xc.bind (if (decide (t590 = (0 : Int))) = true then (if (decide (sg h < (0 : Int))) = true then Xc.ok true else (Xc.ok (decide ((1 : Int) < b)))) else Xc.ok false) fun t593 => (if t593 = true then Xc.ok true else (Xc.bind (Xc.bind (m__law_gcd (t590, (b, ()))) fun t591 => (Xc.ok (!decide (t591 = (1 : Int))))) fun t592 => (if t592 = true then (Xc.ok (decide ((1 : Int) < b))) else Xc.ok false))))) fun t597 => (if t597 = true then (Xc.ok (none : Option (Int × Int))) else (Xc.bind (Xc.bind (mulX (sg h) t590) fun t595 => (Xc.ok (t595, b))) fun t596 => (Xc.ok (some t596))))))
structure Gd (h : Str) (b : Int) : Prop where
  cn : Cn (dsS h)
  nz : vl h = 0 → negB h = false ∧ ¬ 1 < b
  cp : 1 < b → gcdI (vl h) b = 1
theorem lr_ok {h : Str} {b : Int} (hb : 1 ≤ b) (sb : Sm b) : (Gd h b → lrM h b = .ok (some (sg h * vl h, b))) ∧ (¬ Gd h b → lrM h b = .ok none) := by
  unfold lrM
  by_cases c : Cn (dsS h)
  · rw [lawd.1 c, bind_ok']
    have hv : ((digitsVal (tx (dsS h)) : Nat) : Int) = vl h := rfl
    have v0 : 0 ≤ vl h := by rw [← hv]; omega
    rw [hv, if_neg (by simpa using v0)]
    have gc : m__law_gcd (vl h, (b, ())) = .ok (gcdI (vl h) b) := gcd_ok (two_le (by decide) sb)
    have ml : mulX (sg h) (vl h) = .ok (sg h * vl h) := mulX_l (by unfold sg; split <;> decide)
    rw [gc, ml]
    simp only [bind_ok']
    by_cases z : vl h = 0
    · rw [if_pos (by simpa using z)]
      by_cases n : negB h = true
      · have : sg h < 0 := by unfold sg; rw [if_pos n]; decide
        rw [if_pos (by simpa using this), bind_ok', if_pos rfl, bind_ok', if_pos rfl]
        exact ⟨fun g => absurd ((g.nz z).1.symm.trans n) (by decide), fun _ => rfl⟩
      · have : ¬ sg h < 0 := by unfold sg; rw [if_neg n]; decide
        rw [if_neg (by simpa using this), bind_ok']
        by_cases hb1 : 1 < b
        · rw [if_pos (by simpa using hb1), bind_ok', if_pos rfl]
          exact ⟨fun g => absurd hb1 (g.nz z).2, fun _ => rfl⟩
        · rw [if_neg (by simpa using hb1)]
          have fin : Gd h b := ⟨c, fun _ => ⟨by simpa using n, hb1⟩, fun q => absurd q hb1⟩
          refine ⟨fun _ => ?_, fun g => absurd fin g⟩
          rw [show decide (1 < b) = false from decide_eq_false hb1]
          split <;> rfl
    · rw [if_neg (by simpa using z), bind_ok', if_neg (by decide)]
      by_cases g1 : gcdI (vl h) b = 1
      · rw [if_neg (by simpa using g1), bind_ok', if_neg (by decide)]
        exact ⟨fun _ => rfl, fun g => absurd ⟨c, fun q => absurd q z, fun _ => g1⟩ g⟩
      · rw [if_pos (by simpa using g1), bind_ok']
        by_cases hb1 : 1 < b
        · rw [if_pos (by simpa using hb1)]
          exact ⟨fun g => absurd (g.cp hb1) g1, fun _ => rfl⟩
        · rw [if_neg (by simpa using hb1)]
          exact ⟨fun _ => rfl, fun g => absurd ⟨c, fun q => absurd q z, fun q => absurd q hb1⟩ g⟩
  · rw [lawd.2 c, bind_ok', if_pos (by decide), bind_ok', if_pos rfl]
    exact ⟨fun g => absurd g.cn c, fun _ => rfl⟩
end LW

/-! PT5: the two readers agree. -/
namespace LW
open PySem L2 TL FL PySem.StrLaws PySem.Builtin PySem.Builtin.Str NumText
theorem k_eq (z1 : Str) (at_ : Int) (h : Str) (b : Int) : (Xc.bind (if (decide ((cutS h none (some (1 : Int))) = ("-" : Str))) = true then (let vhead_587 : Str := (cutS h (some (1 : Int)) none); (Xc.ok (z1, (at_, (vhead_587, (b, ((-(1 : Int)), ()))))))) else (Xc.ok (z1, (at_, (h, (b, ((1 : Int), ()))))))) fun (g589 : (Str × (Int × (Str × (Int × (Int × Unit)))))) => (Xc.bind (m__law_digits (g589.2.2.1, ())) fun t590 => (Xc.bind (if (decide (t590 < (0 : Int))) = true then Xc.ok true else (Xc.bind (if (decide (t590 = (0 : Int))) = true then (if (decide (g589.2.2.2.2.1 < (0 : Int))) = true then Xc.ok true else (Xc.ok (decide ((1 : Int) < g589.2.2.2.1)))) else Xc.ok false) fun t593 => (if t593 = true then Xc.ok true else (Xc.bind (Xc.bind (m__law_gcd (t590, (g589.2.2.2.1, ()))) fun t591 => (Xc.ok (!decide (t591 = (1 : Int))))) fun t592 => (if t592 = true then (Xc.ok (decide ((1 : Int) < g589.2.2.2.1))) else Xc.ok false))))) fun t597 => (if t597 = true then (Xc.ok (none : Option (Int × Int))) else (Xc.bind (Xc.bind (mulX g589.2.2.2.2.1 t590) fun t595 => (Xc.ok (t595, g589.2.2.2.1))) fun t596 => (Xc.ok (some t596))))))) = lrM h b := by
  rw [cut_neg]
  by_cases e : negB h = true
  · have e1 : dsS h = cutS h (some (1 : Int)) none := by unfold dsS; rw [if_pos e]
    have e2 : sg h = -1 := by unfold sg; rw [if_pos e]
    rw [if_pos e, bind_ok']
    unfold lrM
    rw [e1, e2]
  · have e1 : dsS h = h := by unfold dsS; rw [if_neg e]
    have e2 : sg h = 1 := by unfold sg; rw [if_neg e]
    rw [if_neg e, bind_ok']
    unfold lrM
    rw [e1, e2]
theorem law_read_eq (t : Str) : m__law_read (t, ()) = if (decide ((0 : Int) ≤ Txt.find t ("/" : Str))) = true then (Xc.bind (m__law_digits ((cutS t (some (Txt.find t ("/" : Str) + (1 : Int))) none), ())) fun t583 => (if (decide (t583 < (2 : Int))) = true then (Xc.ok (none : Option (Int × Int))) else lrM (cutS t none (some (Txt.find t ("/" : Str)))) t583)) else lrM t 1 := by
  unfold m__law_read
  dsimp only
  simp only [k_eq]
theorem read_eq (t : Str) : m_read_number (t, ()) = Xc.bind (partX t ("/" : Str)) fun p => rdM p.a (if (decide (p.b = ("/" : Str))) = true then (m__digits (p.c, ())) else (Xc.ok (1 : Int))) t := by
  unfold m_read_number rdM
  rfl
theorem part_none {t : Str} (hl : (tx t).length ≤ 5000) (h : occurrences t ⟨#[47]⟩ 0 t.length 1 = []) : partX t ("/" : Str) = .ok (T3.mk t Str.empty Str.empty) := by
  have hs := size_ge
  have e : Txt.partition t ("/" : Str) = (t, Str.empty, Str.empty) := by
    rw [slash_eq]; unfold Txt.partition; rw [h]
  unfold partX
  rw [e, if_pos ⟨by rw [slash_eq]; rfl, by show t.length ≤ _; rw [tx_len]; omega, by show (0 : Nat) ≤ _; omega, by show (0 : Nat) ≤ _; omega⟩]
  rfl
theorem part_some {t : Str} {i : Nat} (hl : (tx t).length ≤ 5000) (h : occurrences t ⟨#[47]⟩ 0 t.length 1 = [i]) : partX t ("/" : Str) = .ok (T3.mk (strSub t 0 i) ("/" : Str) (strSub t (i + 1) t.length)) := by
  have hs := size_ge
  have e : Txt.partition t ("/" : Str) = (strSub t 0 i, ("/" : Str), strSub t (i + 1) t.length) := by
    rw [slash_eq]; unfold Txt.partition; rw [h]; rfl
  have b1 : ∀ a b, (strSub t a b).length ≤ 5000 := fun a b => by
    rw [tx_len, tx_sub, List.length_drop, List.length_take]
    omega
  unfold partX
  rw [e, if_pos ⟨by rw [slash_eq]; rfl, Nat.le_trans (b1 _ _) (by omega), by rw [slash_eq]; show (1 : Nat) ≤ _; omega, Nat.le_trans (b1 _ _) (by omega)⟩]
  rfl
theorem find_none {t : Str} (h : occurrences t ⟨#[47]⟩ 0 t.length 1 = []) : Txt.find t ("/" : Str) = -1 := by
  rw [slash_eq]; unfold Txt.find; rw [h]
theorem find_some {t : Str} {i : Nat} (h : occurrences t ⟨#[47]⟩ 0 t.length 1 = [i]) : Txt.find t ("/" : Str) = (i : Int) := by
  rw [slash_eq]; unfold Txt.find; rw [h]
/-! the law of lists -/
theorem split_at {a b c d : List Nat} {k : Nat} (h : a ++ k :: b = c ++ k :: d) (ha : k ∉ a) (hc : k ∉ c) : a = c ∧ b = d := by
  induction a generalizing c with
  | nil =>
    cases c with
    | nil => exact ⟨rfl, by simpa using h⟩
    | cons x c => simp at h; exact absurd (by rw [h.1]; exact List.mem_cons_self) hc
  | cons x a ih =>
    cases c with
    | nil => simp at h; exact absurd (by rw [← h.1]; exact List.mem_cons_self) ha
    | cons y c =>
      simp only [List.cons_append, List.cons.injEq] at h
      obtain ⟨e1, e2⟩ := ih h.2 (fun m => ha (List.mem_cons_of_mem _ m)) (fun m => hc (List.mem_cons_of_mem _ m))
      exact ⟨by rw [h.1, e1], e2⟩
theorem num_mem {n c : Nat} (h : c ∈ numL n) : 48 ≤ c ∧ c ≤ 57 := numL_digits n c h
theorem intL_no {i : Int} : 47 ∉ intL i := by
  unfold intL
  split
  · intro h
    rcases List.mem_cons.mp h with h | h
    · cases h
    · have := num_mem h; omega
  · intro h
    have := num_mem h
    omega
theorem dd_no {s : Str} (d : DD s) : 47 ∉ tx s := fun h => by have := d.h3 _ h; omega
theorem head_no {h : Str} (d : DD (dsS h)) : 47 ∉ tx h := by
  rw [ds_tx]
  split
  · intro m
    rcases List.mem_cons.mp m with m | m
    · cases m
    · exact dd_no d m
  · exact dd_no d
theorem cn_num {s : Str} (d : DD s) : Cn s ↔ numL (digitsVal (tx s)) = tx s := by
  constructor
  · intro c
    exact num_back c.h3 c.h4
  · intro e
    obtain ⟨c, r, e1, e2, _⟩ := num_head (digitsVal (tx s))
    exact ⟨d, c, r, by rw [← e, e1], e2⟩
theorem vl_nat (h : Str) : (vl h).natAbs = digitsVal (tx (dsS h)) := by unfold vl; simp
/-- the text of the top -/
theorem top_text {h : Str} (d : DD (dsS h)) (p : Int) : intL p = tx h ↔ (p = sg h * vl h ∧ Cn (dsS h) ∧ (vl h = 0 → negB h = false)) := by
  have hd := ds_tx h
  have hv : vl h = ((digitsVal (tx (dsS h)) : Nat) : Int) := rfl
  by_cases n : negB h = true
  · rw [if_pos n] at hd
    have s1 : sg h = -1 := by unfold sg; rw [if_pos n]
    rw [hd, s1]
    constructor
    · intro e
      unfold intL at e
      by_cases hp : p < 0
      · rw [if_pos hp] at e
        have e2 : numL p.natAbs = tx (dsS h) := by simpa using e
        have e3 : digitsVal (tx (dsS h)) = p.natAbs := by rw [← e2, numL_val]
        refine ⟨by rw [hv, e3]; omega, (cn_num d).mpr (by rw [e3, e2]), fun z => ?_⟩
        rw [hv, e3] at z
        omega
      · rw [if_neg hp] at e
        have := num_mem (n := p.natAbs) (c := 45) (by rw [e]; exact List.mem_cons_self)
        omega
    · rintro ⟨e1, e2, e3⟩
      have hz : vl h ≠ 0 := fun z => by rw [n] at e3; exact absurd (e3 z) (by decide)
      have hp : p < 0 := by rw [hv] at hz e1; omega
      unfold intL
      rw [if_pos hp, show p.natAbs = digitsVal (tx (dsS h)) by rw [e1, hv]; omega, (cn_num d).mp e2]
  · rw [if_neg n] at hd
    have s1 : sg h = 1 := by unfold sg; rw [if_neg n]
    rw [hd, s1]
    constructor
    · intro e
      unfold intL at e
      by_cases hp : p < 0
      · rw [if_pos hp] at e
        have := d.h3 45 (by rw [← e]; exact List.mem_cons_self)
        omega
      · rw [if_neg hp] at e
        have e3 : digitsVal (tx (dsS h)) = p.natAbs := by rw [← e, numL_val]
        exact ⟨by rw [hv, e3]; omega, (cn_num d).mpr (by rw [e3, e]), fun _ => by simpa using n⟩
    · rintro ⟨e1, e2, e3⟩
      unfold intL
      rw [if_neg (by rw [e1, hv]; omega), show p.natAbs = digitsVal (tx (dsS h)) by rw [e1, hv]; omega, (cn_num d).mp e2]
theorem gcd_sg (h : Str) (b : Int) : Nat.gcd (sg h * vl h).natAbs b.natAbs = Nat.gcd (vl h).natAbs b.natAbs := by
  rw [Int.natAbs_mul]
  have : (sg h).natAbs = 1 := by unfold sg; split <;> rfl
  rw [this, Nat.one_mul]
theorem lw_sg {h : Str} {b : Int} (hb : 1 ≤ b) : Lw (sg h * vl h, b) ↔ gcdI (vl h) b = 1 := by
  have e := gcd_sg h b
  unfold gcdI
  constructor
  · intro l
    have := l.cop
    simp only at this
    rw [e] at this
    omega
  · intro g
    refine ⟨hb, ?_⟩
    show Nat.gcd (sg h * vl h).natAbs b.natAbs = 1
    rw [e]
    omega
def Agree (t : Str) : Prop := (∃ q, m__law_read (t, ()) = .ok (some q) ∧ m_read_number (t, ()) = .ok q) ∨ (m__law_read (t, ()) = .ok none ∧ m_read_number (t, ()) = .er "BadNumber" [])
theorem agree {t : Str} (hl : (tx t).length ≤ 5000) : Agree t := by
  unfold Agree
  rw [law_read_eq, read_eq]
  rcases stroke t 47 with ⟨no, oc⟩ | ⟨i, oc, at_⟩
  · rw [part_none hl oc, bind_ok', find_none oc]
    rw [if_neg (by decide)]
    show (∃ q, lrM t 1 = .ok (some q) ∧ rdM t (if (decide (Str.empty = ("/" : Str))) = true then _ else (Xc.ok (1 : Int))) t = .ok q) ∨ (lrM t 1 = .ok none ∧ rdM t (if (decide (Str.empty = ("/" : Str))) = true then _ else (Xc.ok (1 : Int))) t = .er "BadNumber" [])
    rw [if_neg (by decide +kernel)]
    obtain ⟨g1, g2⟩ := lr_ok (h := t) (b := 1) (by decide) (by decide)
    by_cases d : DD (dsS t)
    · rw [rd_ok d (by decide) (by decide)]
      have l1 : lo (sg t * vl t) 1 = (sg t * vl t, 1) := lo_red (p := (sg t * vl t, 1)) ⟨by show (1 : Int) ≤ 1; decide, by show Nat.gcd _ 1 = 1; exact Nat.gcd_one_right _⟩
      rw [l1]
      have sh : showL (sg t * vl t, 1) = intL (sg t * vl t) := by unfold showL; rw [if_pos rfl]
      rw [sh]
      by_cases e : intL (sg t * vl t) = tx t
      · rw [if_pos e]
        obtain ⟨_, c, z⟩ := (top_text d _).mp e
        rw [g1 ⟨c, fun q => ⟨z q, by decide⟩, fun q => absurd q (by decide)⟩]
        exact .inl ⟨_, rfl, rfl⟩
      · rw [if_neg e, g2 fun g => e ((top_text d _).mpr ⟨rfl, g.cn, fun q => (g.nz q).1⟩)]
        exact .inr ⟨rfl, rfl⟩
    · rw [rd_er d, g2 fun g => d g.cn.toDD]
      exact .inr ⟨rfl, rfl⟩
  · have hi : i < (tx t).length := (List.getElem?_eq_some_iff.mp at_).1
    have h1 : cutS t none (some (i : Int)) = strSub t 0 i := tx_ext (by rw [cut_take, tx_sub, List.drop_zero])
    have h2 : cutS t (some ((i : Int) + 1)) none = strSub t (i + 1) t.length := tx_ext (by
      rw [show (i : Int) + 1 = ((i + 1 : Nat) : Int) by omega, cut_drop, tx_sub, tx_len, List.take_length])
    rw [part_some hl oc, bind_ok', find_some oc]
    rw [if_pos (by simp), h1, h2]
    generalize hh : strSub t 0 i = h
    generalize ht : strSub t (i + 1) t.length = s
    have et : tx t = tx h ++ 47 :: tx s := by
      rw [← hh, ← ht, tx_sub, tx_sub, List.drop_zero, tx_len, List.take_length]
      have e3 := (List.getElem?_eq_some_iff.mp at_).2
      rw [← e3, List.getElem_cons_drop, List.take_append_drop]
    show (∃ q, (Xc.bind (m__law_digits (s, ())) _) = .ok (some q) ∧ rdM h (if (decide (("/" : Str) = ("/" : Str))) = true then m__digits (s, ()) else (Xc.ok (1 : Int))) t = .ok q) ∨ ((Xc.bind (m__law_digits (s, ())) _) = .ok none ∧ rdM h (if (decide (("/" : Str) = ("/" : Str))) = true then m__digits (s, ()) else (Xc.ok (1 : Int))) t = .er "BadNumber" [])
    rw [if_pos (by simp)]
    by_cases ds : DD s
    · rw [digits_yes ds]
      have bs : Sm ((digitsVal (tx s) : Nat) : Int) := by
        show (((digitsVal (tx s) : Nat) : Int)).natAbs < _
        rw [Int.natAbs_natCast]
        exact Nat.lt_of_lt_of_le (dd_lt ds) ten_two
      generalize hb : ((digitsVal (tx s) : Nat) : Int) = b at bs
      by_cases d : DD (dsS h)
      · by_cases b1 : 1 ≤ b
        · rw [rd_ok d b1 bs]
          obtain ⟨g1, g2⟩ := lr_ok (h := h) b1 bs
          obtain ⟨f1, _, _, _⟩ := lo_facts (a := sg h * vl h) (b := b) (by omega)
          by_cases e : showL (lo (sg h * vl h) b) = tx t
          · rw [if_pos e]
            left
            refine ⟨_, ?_, rfl⟩
            rw [et] at e
            obtain ⟨⟨p, q⟩, hpq⟩ : ∃ r, lo (sg h * vl h) b = r := ⟨_, rfl⟩
            rw [hpq] at e f1
            have q1 : 1 ≤ q := f1.pos
            by_cases hq : q = 1
            · exfalso
              unfold showL at e
              rw [if_pos hq] at e
              have m : 47 ∈ intL p := by
                show 47 ∈ intL (p, q).1
                rw [e]; exact List.mem_append_right _ List.mem_cons_self
              exact intL_no m
            · unfold showL at e
              rw [if_neg hq] at e
              obtain ⟨e1, e2⟩ := split_at e intL_no (head_no d)
              obtain ⟨p1, p2, p3⟩ := (top_text d p).mp e1
              have nq : numL q.natAbs = tx s := by
                have e2 : intL q = tx s := e2
                unfold intL at e2
                rw [if_neg (by omega)] at e2
                exact e2
              have vq : digitsVal (tx s) = q.natAbs := by rw [← nq, numL_val]
              have bq : b = q := by rw [← hb, vq]; omega
              have cs : Cn s := (cn_num ds).mpr (by rw [vq, nq])
              rw [lawd.1 cs, hb, bind_ok', if_neg (by simp only [decide_eq_true_eq]; omega)]
              have gg : gcdI (vl h) b = 1 := (lw_sg b1).mp (by rw [← p1, bq]; exact f1)
              rw [g1 ⟨p2, fun z => ?_, fun _ => gg⟩, hpq, p1, bq]
              exfalso
              rw [z] at gg
              unfold gcdI at gg
              rw [show (0 : Int).natAbs = 0 from rfl, Nat.gcd_zero_left] at gg
              omega
          · rw [if_neg e]
            right
            refine ⟨?_, rfl⟩
            by_cases c : Cn s
            · rw [lawd.1 c, hb, bind_ok']
              by_cases b2 : b < 2
              · rw [if_pos (by simpa using b2)]
              · rw [if_neg (by simpa using b2)]
                refine g2 fun g => e ?_
                have lw := (lw_sg (h := h) b1).mpr (g.cp (by omega))
                have l1 : lo (sg h * vl h) b = (sg h * vl h, b) := lo_red (p := (sg h * vl h, b)) lw
                rw [l1, et]
                unfold showL
                rw [if_neg (by show ¬ b = 1; omega)]
                have t1 := (top_text d (sg h * vl h)).mpr ⟨rfl, g.cn, fun z => (g.nz z).1⟩
                have t2 : intL b = tx s := by
                  unfold intL
                  rw [if_neg (by omega), ← hb, Int.natAbs_natCast]
                  exact (cn_num ds).mp c
                show intL (sg h * vl h) ++ 47 :: intL b = _
                rw [t1, t2]
            · rw [lawd.2 c, bind_ok', if_pos (by decide)]
        · have b0 : b = 0 := by omega
          subst b0
          rw [rd_er0]
          right
          refine ⟨?_, rfl⟩
          by_cases c : Cn s
          · rw [lawd.1 c, hb, bind_ok', if_pos (by decide)]
          · rw [lawd.2 c, bind_ok', if_pos (by decide)]
      · rw [rd_er d]
        right
        refine ⟨?_, rfl⟩
        by_cases c : Cn s
        · rw [lawd.1 c, hb, bind_ok']
          by_cases b2 : b < 2
          · rw [if_pos (by simpa using b2)]
          · rw [if_neg (by simpa using b2)]
            exact (lr_ok (h := h) (by omega) bs).2 fun g => d g.cn.toDD
        · rw [lawd.2 c, bind_ok', if_pos (by decide)]
    · rw [digits_no ds, rd_er2]
      right
      refine ⟨?_, rfl⟩
      rw [lawd.2 fun c => ds c.toDD, bind_ok', if_pos (by decide)]
theorem r1 : ¬ (decide (("read" : Str) = ("ratio" : Str)) = true) := by decide +kernel
theorem r2 : ¬ (decide (("read" : Str) = ("divide" : Str)) = true) := by decide +kernel
theorem raises_s {t : Str} (h : m_read_number (t, ()) = .er "BadNumber" []) : m__law_raises_s ("read", (t, ())) = .ok true := by
  unfold m__law_raises_s
  dsimp only
  rw [h, if_neg r1, if_neg r2]
  rfl
theorem text_ok {t : Str} (hl : (tx t).length ≤ 5000) : m__law_text (t, ()) = .ok true := by
  unfold m__law_text
  dsimp only
  rcases agree hl with ⟨q, e1, e2⟩ | ⟨e1, e2⟩
  · rw [e1, e2, bind_ok', if_neg (by simp)]
    simp only [bind_ok', someX_ok, same_refl]
  · rw [e1, bind_ok', if_pos (show Option.isNone (none : Option (Int × Int)) = true from rfl)]
    exact raises_s e2
end LW

/-! PG: a number read back; what is no number. -/
namespace LW
open PySem L2 TL FL PySem.StrLaws PySem.Builtin PySem.Builtin.Str NumText
theorem ok_comp {α β : Type} {f : α → Xc β} {P : β → Prop} : ∀ {l : List α}, (∀ a ∈ l, Ok (f a) P) → Ok (compX (fun _ => Xc.ok true) f l) fun r => r.length = l.length ∧ ∀ p ∈ r, P p
  | [], _ => ⟨[], rfl, rfl, fun p m => by cases m⟩
  | a :: l, h => by
    obtain ⟨b, e, hb⟩ := h a List.mem_cons_self
    obtain ⟨r, e2, h2, h3⟩ := ok_comp (f := f) (P := P) (l := l) fun a m => h a (List.mem_cons_of_mem _ m)
    refine ⟨b :: r, ?_, by rw [List.length_cons, List.length_cons, h2], fun p m => ?_⟩
    · show Xc.bind (nx (Xc.ok true)) _ = _
      rw [show nx (Xc.ok true) = Xc.ok true from rfl, bind_ok', if_pos rfl, e, show nx (Xc.ok b) = Xc.ok b from rfl, bind_ok', e2, bind_ok']
    · rcases List.mem_cons.mp m with m | m
      · rw [m]; exact hb
      · exact h3 p m
theorem p39 : (2 : Nat) ^ 129 ≤ 10 ^ 39 := by decide +kernel
theorem dd_num {n : Nat} (h : n < 2 ^ 129) {s : Str} (e : tx s = numL n) : DD s := by
  have l := numL_len (n := n) (k := 39) (by decide) (Nat.lt_of_lt_of_le h p39)
  refine ⟨?_, by rw [e]; omega, by rw [e]; exact numL_digits n⟩
  rw [e]
  have := numL_ne n
  cases q : numL n with
  | nil => exact absurd q this
  | cons c r => rw [List.length_cons]; omega
theorem int_text {h : Str} {p : Int} (hp : Mid p) (e : tx h = intL p) : DD (dsS h) ∧ sg h * vl h = p := by
  have key : ∃ r, tx (dsS h) = numL p.natAbs ∧ (negB h = decide (p < 0)) ∧ r = 0 := by
    refine ⟨0, ?_, ?_, rfl⟩
    all_goals (unfold intL at e)
    all_goals (have hd := ds_tx h)
    · by_cases n : p < 0
      · rw [if_pos n] at e
        have : negB h = true := (starts_minus h).mpr ⟨_, e⟩
        rw [if_pos this, e] at hd
        exact (List.cons.inj hd).2.symm
      · rw [if_neg n] at e
        have : ¬ negB h = true := fun z => by
          obtain ⟨r, q⟩ := (starts_minus h).mp z
          have := num_mem (n := p.natAbs) (c := 45) (by rw [← e, q]; exact List.mem_cons_self)
          omega
        rw [if_neg this, e] at hd
        exact hd.symm
    · by_cases n : p < 0
      · rw [if_pos n] at e
        rw [show negB h = true from (starts_minus h).mpr ⟨_, e⟩, decide_eq_true n]
      · rw [if_neg n] at e
        have : ¬ negB h = true := fun z => by
          obtain ⟨r, q⟩ := (starts_minus h).mp z
          have := num_mem (n := p.natAbs) (c := 45) (by rw [← e, q]; exact List.mem_cons_self)
          omega
        rw [decide_eq_false n]
        simpa using this
  obtain ⟨_, k1, k2, _⟩ := key
  refine ⟨dd_num hp k1, ?_⟩
  unfold sg vl
  rw [k2, k1, numL_val]
  by_cases n : p < 0
  · rw [if_pos (by simpa using n)]; omega
  · rw [if_neg (by simpa using n)]; omega
theorem split_at2 {a b c d : List Nat} {k : Nat} (h : a ++ k :: b = c ++ k :: d) (ha : k ∉ a) (hb : k ∉ b) : a = c ∧ b = d := by
  induction a generalizing c with
  | nil =>
    cases c with
    | nil => exact ⟨rfl, by simpa using h⟩
    | cons x c =>
      simp only [List.nil_append, List.cons_append, List.cons.injEq] at h
      exact absurd (by rw [h.2]; exact List.mem_append_right _ List.mem_cons_self) hb
  | cons x a ih =>
    cases c with
    | nil =>
      simp only [List.nil_append, List.cons_append, List.cons.injEq] at h
      exact absurd (by rw [h.1]; exact List.mem_cons_self) ha
    | cons y c =>
      simp only [List.cons_append, List.cons.injEq] at h
      obtain ⟨e1, e2⟩ := ih h.2 (fun m => ha (List.mem_cons_of_mem _ m))
      exact ⟨by rw [h.1, e1], e2⟩
structure Nu (p : Q2) : Prop extends Lw p where
  m1 : Mid p.1
  m2 : Mid p.2
theorem Nu.nm {p : Q2} (h : Nu p) : Nm p := ⟨h.toLw, h.m1.sm, h.m2.sm⟩
theorem showL_len {p : Q2} (h : Nu p) : (showL p).length ≤ 803 := by
  have l1 := intL_len h.m1.sm
  have l2 := intL_len h.m2.sm
  unfold showL
  split
  · omega
  · rw [List.length_append, List.length_cons]; omega
theorem read_back {p : Q2} (h : Nu p) {S : Str} (e : tx S = showL p) : m_read_number (S, ()) = .ok p := by
  have hl : (tx S).length ≤ 5000 := by rw [e]; have := showL_len h; omega
  have pp := h.pos
  rw [read_eq]
  by_cases q : p.2 = 1
  · have e1 : tx S = intL p.1 := by rw [e]; unfold showL; rw [if_pos q]
    rcases stroke S 47 with ⟨no, oc⟩ | ⟨i, oc, at_⟩
    · rw [part_none hl oc, bind_ok']
      show rdM S (if (decide (Str.empty = ("/" : Str))) = true then _ else (Xc.ok (1 : Int))) S = _
      rw [if_neg (by decide +kernel)]
      obtain ⟨d, v⟩ := int_text h.m1 e1
      rw [rd_ok d (by decide) (by decide), v]
      have : lo p.1 1 = p := by
        have := lo_red h.toLw
        rw [q] at this
        exact this
      rw [this, if_pos e.symm]
    · exact absurd (by rw [← e1]; exact List.mem_of_getElem? at_) intL_no
  · have e1 : tx S = intL p.1 ++ 47 :: intL p.2 := by rw [e]; unfold showL; rw [if_neg q]
    rcases stroke S 47 with ⟨no, oc⟩ | ⟨i, oc, at_⟩
    · exact absurd (by rw [e1]; exact List.mem_append_right _ List.mem_cons_self) no
    · rw [part_some hl oc, bind_ok']
      generalize hh : strSub S 0 i = hd
      generalize ht : strSub S (i + 1) S.length = s
      have et : tx S = tx hd ++ 47 :: tx s := by
        rw [← hh, ← ht, tx_sub, tx_sub, List.drop_zero, tx_len, List.take_length]
        have e3 := (List.getElem?_eq_some_iff.mp at_).2
        rw [← e3, List.getElem_cons_drop, List.take_append_drop]
      rw [e1] at et
      obtain ⟨h1, h2⟩ := split_at2 et intL_no intL_no
      show rdM hd (if (decide (("/" : Str) = ("/" : Str))) = true then m__digits (s, ()) else (Xc.ok (1 : Int))) S = _
      rw [if_pos (by simp)]
      obtain ⟨d, v⟩ := int_text h.m1 h1.symm
      have h3 : tx s = numL p.2.natAbs := by
        rw [← h2]; unfold intL; rw [if_neg (by omega)]
      have d2 : DD s := dd_num h.m2 h3
      rw [digits_yes d2, h3, numL_val, show ((p.2.natAbs : Nat) : Int) = p.2 by omega, rd_ok d pp h.m2.sm, v, lo_red h.toLw, if_pos e.symm]
/-! data -/
theorem truth_ok (b : Bool) : m__law_truth (b, (b, ())) = .ok true := by
  unfold m__law_truth
  have : isiX (HasTy.ty b) "bool" = .ok true := by
    show isiX "bool" "bool" = _
    unfold isiX
    rfl
  simp only [this, bind_ok', if_true, decide_true]
theorem isD (d : PyData) (T : String) : isiX (HasTy.ty d) T = isiX (tyD d) T := rfl
theorem k_tt : isiX "tuple" "tuple" = .ok true := by unfold isiX; rfl
theorem k_lt : isiX "list" "tuple" = .ok false := by unfold isiX; rfl
theorem k_nt : isiX "NoneType" "tuple" = .ok false := by unfold isiX; rfl
theorem k_it : isiX "int" "tuple" = .ok false := by unfold isiX; rfl
theorem k_ii : isiX "int" "int" = .ok true := by unfold isiX; rfl
theorem k_ib : isiX "int" "bool" = .ok false := by unfold isiX; rfl
theorem k_bi : isiX "bool" "int" = .ok true := by unfold isiX; rfl
theorem k_bb : isiX "bool" "bool" = .ok true := by unfold isiX; rfl
theorem not_tup {d : PyData} (h : isiX (tyD d) "tuple" = .ok false) : m_is_number (d, ()) = .ok false := by
  unfold m_is_number
  dsimp only
  rw [isD, h]
  rfl
theorem asT_ok {l : List PyData} (h : l.length ≤ 1000) (s : l.all SeqAt.shaped = true) : asT (.tuple l) = .ok (tu l) := by
  have := size_ge
  unfold asT
  show (if _ then _ else _) = _
  rw [if_pos ⟨by omega, s⟩]
theorem sh_int (i : Int) : SeqAt.shaped (.int i) = true := rfl
theorem sh_bool (b : Bool) : SeqAt.shaped (.bool b) = true := rfl
theorem asI_ok (i : Int) : asI (.int i) = .ok i := by unfold asI; rfl
theorem is_pair (a b : Int) : m_is_number (.tuple [.int a, .int b], ()) = .ok (decide (1 ≤ b) && decide (gcdI a b = 1)) := by
  have at_ : asT (.tuple [.int a, .int b]) = .ok (tu [.int a, .int b]) := asT_ok (by show 2 ≤ 1000; decide) rfl
  have g0 : getX (Tu.l (tu [PyData.int a, PyData.int b])) 0 = .ok (.int a) := getX_b (by decide) rfl
  have g1 : getX (Tu.l (tu [PyData.int a, PyData.int b])) 1 = .ok (.int b) := getX_b (by decide) rfl
  unfold m_is_number
  dsimp only
  rw [isD, show tyD (.tuple [.int a, .int b]) = "tuple" from rfl, k_tt]
  simp only [bind_ok', at_, Bool.not_true]
  rw [if_neg (by decide), bind_ok', show (!decide (((HasLen.len (tu [PyData.int a, PyData.int b]) : Nat) : Int) = (2 : Int))) = false from rfl, if_neg (by decide)]
  show forK (forX _ [PyData.int a, PyData.int b] _) _ _ = _
  rw [forX_cons, isD, show tyD (.int a) = "int" from rfl, k_ii, bind_ok', bind_ok', Bool.not_true, if_neg (by decide), isD, show tyD (.int a) = "int" from rfl, k_ib, bind_ok', if_neg (by decide), bind_ok']
  show forK (forX _ [PyData.int b] _) _ _ = _
  rw [forX_cons, isD, show tyD (.int b) = "int" from rfl, k_ii, bind_ok', bind_ok', Bool.not_true, if_neg (by decide), isD, show tyD (.int b) = "int" from rfl, k_ib, bind_ok', if_neg (by decide), bind_ok']
  show forK (.ok (.inl _)) _ _ = _
  rw [forK_inl]
  simp only [at_, bind_ok', g0, g1, asI_ok]
  by_cases h : 1 ≤ b
  · rw [if_pos (by simpa using h), show decide (1 ≤ b) = true from decide_eq_true h]; rfl
  · rw [if_neg (by simpa using h), show decide (1 ≤ b) = false from decide_eq_false h]; rfl
end LW

/-! PH: the odd values. -/
namespace LW
open PySem L2 TL FL PySem.StrLaws PySem.Builtin PySem.Builtin.Str NumText
theorem no_true : m_is_number (.tuple [.int 1, .bool true], ()) = .ok false := by
  have at_ : asT (.tuple [.int 1, .bool true]) = .ok (tu [.int 1, .bool true]) := asT_ok (by decide) rfl
  unfold m_is_number
  dsimp only
  rw [isD, show tyD (.tuple [.int 1, .bool true]) = "tuple" from rfl, k_tt]
  simp only [bind_ok', at_, Bool.not_true]
  rw [if_neg (by decide), bind_ok', show (!decide (((HasLen.len (tu [PyData.int 1, PyData.bool true]) : Nat) : Int) = (2 : Int))) = false from rfl, if_neg (by decide)]
  show forK (forX _ [PyData.int 1, PyData.bool true] _) _ _ = _
  rw [forX_cons, isD, show tyD (.int 1) = "int" from rfl, k_ii, bind_ok', bind_ok', Bool.not_true, if_neg (by decide), isD, show tyD (.int 1) = "int" from rfl, k_ib, bind_ok', if_neg (by decide), bind_ok']
  show forK (forX _ [PyData.bool true] _) _ _ = _
  rw [forX_cons, isD, show tyD (.bool true) = "bool" from rfl, k_bi, bind_ok', bind_ok', Bool.not_true, if_neg (by decide), isD, show tyD (.bool true) = "bool" from rfl, k_bb, bind_ok', if_pos rfl, bind_ok']
  rfl
theorem no_one (a : Int) : m_is_number (.tuple [.int a], ()) = .ok false := by
  have at_ : asT (.tuple [.int a]) = .ok (tu [.int a]) := asT_ok (by show 1 ≤ 1000; decide) rfl
  unfold m_is_number
  dsimp only
  rw [isD, show tyD (.tuple [.int a]) = "tuple" from rfl, k_tt]
  simp only [bind_ok', at_, Bool.not_true]
  rw [if_neg (by decide), bind_ok', show (!decide (((HasLen.len (tu [PyData.int a]) : Nat) : Int) = (2 : Int))) = true from rfl, if_pos rfl]
theorem is_yes {p : Q2} (h : Lw p) : m_is_number (.tuple [.int p.1, .int p.2], ()) = .ok true := by
  rw [is_pair, decide_eq_true h.pos]
  have : gcdI p.1 p.2 = 1 := by unfold gcdI; rw [h.cop]; rfl
  rw [this]
  rfl
theorem no_twice {p : Q2} (h : Lw p) : m_is_number (.tuple [.int (2 * p.1), .int (2 * p.2)], ()) = .ok false := by
  have : gcdI (2 * p.1) (2 * p.2) = 2 := by
    unfold gcdI
    rw [Int.natAbs_mul, Int.natAbs_mul, Nat.gcd_mul_left, h.cop]
    rfl
  rw [is_pair, this]
  show Xc.ok (_ && false) = _
  rw [Bool.and_false]
theorem no_neg {p : Q2} (h : Lw p) : m_is_number (.tuple [.int p.1, .int (-p.2)], ()) = .ok false := by
  have := h.pos
  rw [is_pair, decide_eq_false (by omega), Bool.false_and]
theorem no_zero : m_is_number (.tuple [.int 1, .int 0], ()) = .ok false := by
  rw [is_pair]
  rfl
theorem dat_of {α : Type} [Rp α] [ToD α] {a : α} {d : PyData} (e : ToD.d a = d) (s : SeqAt.shaped d = true) : datX a = .ok d := by
  unfold datX
  rw [e, if_pos s]
theorem dat_p (a b : Int) : datX (a, b) = .ok (.tuple [.int a, .int b]) := dat_of rfl rfl
theorem dat_l2 (a b : Int) : datX [a, b] = .ok (.list [.int a, .int b]) := dat_of rfl rfl
theorem dat_t (a : Int) : datX (tu [a]) = .ok (.tuple [.int a]) := dat_of rfl rfl
theorem dat_b : datX ((1 : Int), true) = .ok (.tuple [.int 1, .bool true]) := dat_of rfl rfl
theorem dat_n : datX () = .ok .none := dat_of rfl rfl
theorem dat_i (a : Int) : datX a = .ok (.int a) := dat_of rfl rfl
theorem sz_of {α : Type} (l : List α) (h : l.length ≤ 1000000) : szX l = .ok l := szX_b h
/-- the loop over the odd values -/
theorem odd_loop {γ : Type} {f : γ → PyData → Xc (Lp γ Bool)} {g : γ} (hf : ∀ d, m_is_number (d, ()) = .ok false → f g d = .ok (.ct g)) : ∀ (l : List PyData), (∀ d ∈ l, m_is_number (d, ()) = .ok false) → forX f l g = .ok (.inl g)
  | [], _ => rfl
  | d :: l, h => by
    rw [forX_cons, hf d (h d List.mem_cons_self), bind_ok']
    exact odd_loop hf l fun x m => h x (List.mem_cons_of_mem _ m)
def sevens (n : Nat) : Str := Txt.mul "7" (n : Int)
theorem sev (n : Nat) (h : n = 38 ∨ n = 39 ∨ n = 40 ∨ n = 41 ∨ n = 42) : ∃ s : Str, mulS ("7" : Str) (n : Int) = .ok s ∧ s.length ≤ 50 := by
  have hs := size_ge
  have key : ∀ k : Int, MulOk ("7" : Str) k ∧ (Txt.mul ("7" : Str) k).length ≤ 50 → ∃ s : Str, mulS ("7" : Str) k = .ok s ∧ s.length ≤ 50 := fun k hk => by
    refine ⟨_, ?_, hk.2⟩
    unfold mulS
    rw [if_pos ⟨hk.1, by have := hk.2; omega⟩]
  rcases h with h | h | h | h | h <;> subst h <;> exact key _ (by decide +kernel)
end LW

/-! PK: the tail of the law. -/
namespace LW
open PySem L2 TL FL PySem.StrLaws PySem.Builtin PySem.Builtin.Str NumText
def tailM (g792 : ((List Int) × ((List Int) × ((List (Int × Int)) × ((List (Int × Int)) × ((Int × Int) × ((Int × Int) × (Int × ((List (Int × Int)) × ((List (Int × Int)) × ((Option (Int × Int)) × ((Option (Int × Int)) × Unit)))))))))))) : Xc Bool := (Xc.bind (m__law_written (g792.2.2.2.2.1, ())) fun t793 => (Xc.bind (m_show_number (g792.2.2.2.2.1, ())) fun t794 => (Xc.bind (Xc.bind (Xc.bind (isiX (HasTy.ty t794) "str") fun t795 => (Xc.ok (!t795))) fun t799 => (if t799 = true then Xc.ok true else (if (!decide (t794 = t793)) = true then Xc.ok true else (Xc.bind (Xc.bind (Xc.bind (m_read_number (t793, ())) fun t796 => (Xc.ok (t796, (g792.2.2.2.2.1, ())))) fun t797 => (m__law_same t797)) fun t798 => (Xc.ok (!t798)))))) fun t877 => (if t877 = true then (Xc.ok false) else (Xc.bind (Xc.bind (szX (("0" : Str) :: (("1" : Str) :: (("9" : Str) :: (("-" : Str) :: (("/" : Str) :: ((" " : Str) :: (("+" : Str) :: (("." : Str) :: (("x" : Str) :: (("\n" : Str) :: (("" : Str) :: (("/1" : Str) :: (("/6" : Str) :: (("-0" : Str) :: ([] : List Str)))))))))))))))) fun t802 => (Xc.bind (Xc.bind (getX g792.2.1 (27 : Int)) fun t801 => (modX t801 (14 : Int))) fun t803 => (getX t802 t803))) fun t804 => (Xc.bind (Xc.bind (getX g792.2.1 (28 : Int)) fun t805 => (modX t805 (((HasLen.len t793 : Nat) : Int) + (1 : Int)))) fun t806 => (Xc.bind (Xc.bind (Xc.bind (Xc.bind (Xc.bind (Xc.bind (catS (cutS t793 none (some t806)) t804) fun t807 => (catS t807 (cutS t793 (some t806) none))) fun t808 => (Xc.ok (t808, ()))) fun t809 => (m__law_text t809)) fun t810 => (Xc.ok (!t810))) fun t814 => (if t814 = true then Xc.ok true else (Xc.bind (Xc.bind (Xc.bind (catS (cutS t793 none (some t806)) (cutS t793 (some (t806 + (1 : Int))) none)) fun t811 => (Xc.ok (t811, ()))) fun t812 => (m__law_text t812)) fun t813 => (Xc.ok (!t813))))) fun t876 => (if t876 = true then (Xc.ok false) else (Xc.bind (Xc.bind (Xc.bind (Xc.bind (getX g792.2.1 (29 : Int)) fun t816 => (modX t816 (5 : Int))) fun t817 => (Xc.ok ((38 : Int) + t817))) fun t818 => (mulS ("7" : Str) t818)) fun t819 => (Xc.bind (Xc.bind (Xc.bind (m__law_text (t819, ())) fun t820 => (Xc.ok (!t820))) fun t832 => (if t832 = true then Xc.ok true else (Xc.bind (Xc.bind (Xc.bind (Xc.bind (catS ("-" : Str) t819) fun t821 => (Xc.ok (t821, ()))) fun t822 => (m__law_text t822)) fun t823 => (Xc.ok (!t823))) fun t831 => (if t831 = true then Xc.ok true else (Xc.bind (Xc.bind (Xc.bind (Xc.bind (catS ("1/" : Str) t819) fun t824 => (Xc.ok (t824, ()))) fun t825 => (m__law_text t825)) fun t826 => (Xc.ok (!t826))) fun t830 => (if t830 = true then Xc.ok true else (Xc.bind (Xc.bind (Xc.bind (catS ("-5/" : Str) t819) fun t827 => (Xc.ok (t827, ()))) fun t828 => (m__law_text t828)) fun t829 => (Xc.ok (!t829))))))))) fun t875 => (if t875 = true then (Xc.ok false) else (Xc.bind (Xc.bind (Xc.bind (Xc.bind (Xc.bind (mulX (2 : Int) g792.2.2.2.2.1.1) fun t834 => (Xc.bind (mulX (2 : Int) g792.2.2.2.2.1.2) fun t835 => (Xc.ok (t834, t835)))) fun t836 => (datX t836)) fun t852 => (Xc.bind (Xc.bind (datX (g792.2.2.2.2.1.1, (-g792.2.2.2.2.1.2))) fun t850 => (Xc.bind (Xc.bind (Xc.bind (szX (g792.2.2.2.2.1.1 :: (g792.2.2.2.2.1.2 :: ([] : List Int)))) fun t837 => (datX t837)) fun t848 => (Xc.bind (Xc.bind (datX ((1 : Int), true)) fun t846 => (Xc.bind (Xc.bind (Xc.bind (Xc.bind (szX (g792.2.2.2.2.1.1 :: ([] : List Int))) fun l => Xc.ok (tu l)) fun t838 => (datX t838)) fun t844 => (Xc.bind (Xc.bind (datX ((1 : Int), (0 : Int))) fun t842 => (Xc.bind (Xc.bind (datX ()) fun t840 => (Xc.bind (Xc.bind (datX g792.2.2.2.2.1.1) fun t839 => (Xc.ok (t839 :: ([] : List PyData)))) fun t841 => (Xc.ok (t840 :: t841)))) fun t843 => (Xc.ok (t842 :: t843)))) fun t845 => (Xc.ok (t844 :: t845)))) fun t847 => (Xc.ok (t846 :: t847)))) fun t849 => (Xc.ok (t848 :: t849)))) fun t851 => (Xc.ok (t850 :: t851)))) fun t853 => (Xc.ok (t852 :: t853)))) fun t854 => (szX t854)) fun t855 => (forK (forX (fun (g862 : ((List Int) × ((List Int) × ((List (Int × Int)) × ((List (Int × Int)) × ((Int × Int) × ((Int × Int) × (Int × ((List (Int × Int)) × ((List (Int × Int)) × ((Option (Int × Int)) × ((Option (Int × Int)) × (Str × (Str × (Str × (Int × (Str × ((List PyData) × Unit)))))))))))))))))) a863 => (Xc.bind (Xc.bind (Xc.bind (Xc.bind (m_is_number (a863, ())) fun t864 => (Xc.ok (t864, (false, ())))) fun t865 => (m__law_truth t865)) fun t866 => (Xc.ok (!t866))) fun t868 => (if t868 = true then (Xc.ok (Lp.rt false)) else (Xc.ok (Lp.ct (g862.1, (g862.2.1, (g862.2.2.1, (g862.2.2.2.1, (g862.2.2.2.2.1, (g862.2.2.2.2.2.1, (g862.2.2.2.2.2.2.1, (g862.2.2.2.2.2.2.2.1, (g862.2.2.2.2.2.2.2.2.1, (g862.2.2.2.2.2.2.2.2.2.1, (g862.2.2.2.2.2.2.2.2.2.2.1, (g862.2.2.2.2.2.2.2.2.2.2.2.1, (g862.2.2.2.2.2.2.2.2.2.2.2.2.1, (g862.2.2.2.2.2.2.2.2.2.2.2.2.2.1, (g862.2.2.2.2.2.2.2.2.2.2.2.2.2.2.1, (g862.2.2.2.2.2.2.2.2.2.2.2.2.2.2.2.1, (g862.2.2.2.2.2.2.2.2.2.2.2.2.2.2.2.2.1, ())))))))))))))))))))))) t855 (g792.1, (g792.2.1, (g792.2.2.1, (g792.2.2.2.1, (g792.2.2.2.2.1, (g792.2.2.2.2.2.1, (g792.2.2.2.2.2.2.1, (g792.2.2.2.2.2.2.2.1, (g792.2.2.2.2.2.2.2.2.1, (g792.2.2.2.2.2.2.2.2.2.1, (g792.2.2.2.2.2.2.2.2.2.2.1, (t793, (t794, (t804, (t806, (t819, (t855, ())))))))))))))))))) id fun (g869 : ((List Int) × ((List Int) × ((List (Int × Int)) × ((List (Int × Int)) × ((Int × Int) × ((Int × Int) × (Int × ((List (Int × Int)) × ((List (Int × Int)) × ((Option (Int × Int)) × ((Option (Int × Int)) × (Str × (Str × (Str × (Int × (Str × ((List PyData) × Unit)))))))))))))))))) => (Xc.bind (Xc.bind (Xc.bind (Xc.bind (Xc.bind (datX g869.2.2.2.2.1) fun t870 => (Xc.ok (t870, ()))) fun t871 => (m_is_number t871)) fun t872 => (Xc.ok (t872, (true, ())))) fun t873 => (m__law_truth t873)) fun t874 => (if t874 = true then (m__law_text (("" : Str), ())) else Xc.ok false)))))))))))))))
theorem k_ss (S : Str) : isiX (HasTy.ty S) "str" = .ok true := by
  show isiX "str" "str" = _
  unfold isiX
  rfl
def sgs : List Str := (("0" : Str) :: (("1" : Str) :: (("9" : Str) :: (("-" : Str) :: (("/" : Str) :: ((" " : Str) :: (("+" : Str) :: (("." : Str) :: (("x" : Str) :: (("\n" : Str) :: (("" : Str) :: (("/1" : Str) :: (("/6" : Str) :: (("-0" : Str) :: ([] : List Str)))))))))))))))
theorem sgs_len : ∀ s ∈ sgs, s.length ≤ 2 := by decide +kernel
theorem sgs_n : sgs.length = 14 := rfl
theorem txa (x y : Str) : (tx (x ++ y)).length = x.length + y.length := by rw [← tx_len, app_len]
theorem tail_ok {sc dr : List Int} {ps ns : List Q2} {one two : Q2} {f : Int} {many gv : List Q2} {lw hi : Option Q2} (hl : (dr.length : Int) = 48) (hd : Dr dr) (h1 : Nu one) :
    tailM (sc, (dr, (ps, (ns, (one, (two, (f, (many, (gv, (lw, (hi, ()))))))))))) = .ok true := by
  obtain ⟨S, e1, e2, e3⟩ := show_ok (p := one) h1.m1.sm h1.m2.sm
  have lS : S.length ≤ 803 := by rw [tx_len, e2]; exact showL_len h1
  obtain ⟨x, ex, x0, x1⟩ := dr_get (n := 48) hl hd (i := 27) (by decide) (by decide)
  obtain ⟨y, ey, y0, y1⟩ := dr_get (n := 48) hl hd (i := 28) (by decide) (by decide)
  obtain ⟨z, ez, z0, z1⟩ := dr_get (n := 48) hl hd (i := 29) (by decide) (by decide)
  have mx := fm_range (a := x) (m := 14) (by decide)
  have mz := fm_range (a := z) (m := 5) (by decide)
  obtain ⟨s, es, ms, _⟩ := getX_ex (l := sgs) (i := x.fmod 14) mx.1 (by rw [sgs_n]; exact mx.2)
  have ls := sgs_len s ms
  have hz : szX sgs = .ok sgs := szX_b (by rw [sgs_n]; decide)
  have em1 : modX x 14 = .ok (x.fmod 14) := modX_b (by decide)
  have em2 : modX y (((HasLen.len S : Nat) : Int) + 1) = .ok (y.fmod (((HasLen.len S : Nat) : Int) + 1)) := modX_b (by omega)
  have em3 : modX z 5 = .ok (z.fmod 5) := modX_b (by decide)
  generalize hsp : y.fmod (((HasLen.len S : Nat) : Int) + 1) = spot at em2
  have c1 := cutS_length S none (some spot)
  have c2 := cutS_length S (some spot) none
  have c3 := cutS_length S (some (spot + 1)) none
  have k1 : catS (cutS S none (some spot)) s = .ok (cutS S none (some spot) ++ s) := cat_ok (by omega)
  have k2 : catS (cutS S none (some spot) ++ s) (cutS S (some spot) none) = .ok (cutS S none (some spot) ++ s ++ cutS S (some spot) none) := cat_ok (by rw [app_len]; omega)
  have k3 : catS (cutS S none (some spot)) (cutS S (some (spot + 1)) none) = .ok (cutS S none (some spot) ++ cutS S (some (spot + 1)) none) := cat_ok (by omega)
  have t1 : m__law_text (cutS S none (some spot) ++ s ++ cutS S (some spot) none, ()) = .ok true := text_ok (by rw [txa, app_len]; omega)
  have t2 : m__law_text (cutS S none (some spot) ++ cutS S (some (spot + 1)) none, ()) = .ok true := text_ok (by rw [txa]; omega)
  obtain ⟨L, eL, lL⟩ := sev (38 + z.fmod 5).toNat (by omega)
  rw [show (((38 + z.fmod 5).toNat : Nat) : Int) = 38 + z.fmod 5 by omega] at eL
  have u1 : ("-" : Str).length = 1 := by decide +kernel
  have u2 : ("1/" : Str).length = 2 := by decide +kernel
  have u3 : ("-5/" : Str).length = 3 := by decide +kernel
  have k4 : catS ("-" : Str) L = .ok (("-" : Str) ++ L) := cat_ok (by omega)
  have k5 : catS ("1/" : Str) L = .ok (("1/" : Str) ++ L) := cat_ok (by omega)
  have k6 : catS ("-5/" : Str) L = .ok (("-5/" : Str) ++ L) := cat_ok (by omega)
  have t3 : m__law_text (L, ()) = .ok true := text_ok (by rw [← tx_len]; omega)
  have t4 : m__law_text (("-" : Str) ++ L, ()) = .ok true := text_ok (by rw [txa]; omega)
  have t5 : m__law_text (("1/" : Str) ++ L, ()) = .ok true := text_ok (by rw [txa]; omega)
  have t6 : m__law_text (("-5/" : Str) ++ L, ()) = .ok true := text_ok (by rw [txa]; omega)
  have t7 : m__law_text (("" : Str), ()) = .ok true := text_ok (by rw [← tx_len]; decide +kernel)
  have d1 : mulX 2 one.1 = .ok (2 * one.1) := mulX_l (by decide)
  have d2 : mulX 2 one.2 = .ok (2 * one.2) := mulX_l (by decide)
  have z1 : szX [one.1, one.2] = .ok [one.1, one.2] := szX_b (by show 2 ≤ 1000000; decide)
  have z2 : szX [one.1] = .ok [one.1] := szX_b (by show 1 ≤ 1000000; decide)
  unfold tailM
  dsimp only
  rw [e3, bind_ok', e1, bind_ok', k_ss, bind_ok', bind_ok', Bool.not_true, if_neg (by decide), if_neg (by simp), read_back h1 e2, bind_ok', bind_ok', same_refl, bind_ok', bind_ok', Bool.not_true, if_neg (by decide)]
  show Xc.bind (Xc.bind (szX sgs) _) _ = _
  rw [hz, bind_ok', ex, bind_ok', em1, bind_ok', es, bind_ok', ey, bind_ok', em2, bind_ok', k1, bind_ok', k2, bind_ok', bind_ok', t1, bind_ok', bind_ok', Bool.not_true, if_neg (by decide), k3, bind_ok', bind_ok', t2, bind_ok', bind_ok', Bool.not_true, if_neg (by decide)]
  rw [ez, bind_ok', em3, bind_ok', bind_ok', eL, bind_ok', t3, bind_ok', bind_ok', Bool.not_true, if_neg (by decide), k4, bind_ok', bind_ok', t4, bind_ok', bind_ok', Bool.not_true, if_neg (by decide), k5, bind_ok', bind_ok', t5, bind_ok', bind_ok', Bool.not_true, if_neg (by decide), k6, bind_ok', bind_ok', t6, bind_ok', bind_ok', Bool.not_true, if_neg (by decide)]
  have z8 : szX (PyData.tuple [.int (2 * one.1), .int (2 * one.2)] :: PyData.tuple [.int one.1, .int (-one.2)] :: PyData.list [.int one.1, .int one.2] :: PyData.tuple [.int 1, .bool true] :: PyData.tuple [.int one.1] :: PyData.tuple [.int 1, .int 0] :: PyData.none :: PyData.int one.1 :: []) = .ok (PyData.tuple [.int (2 * one.1), .int (2 * one.2)] :: PyData.tuple [.int one.1, .int (-one.2)] :: PyData.list [.int one.1, .int one.2] :: PyData.tuple [.int 1, .bool true] :: PyData.tuple [.int one.1] :: PyData.tuple [.int 1, .int 0] :: PyData.none :: PyData.int one.1 :: []) := szX_b (by show 8 ≤ 1000000; decide)
  simp only [d1, d2, bind_ok', dat_p, z1, dat_l2, dat_b, z2, dat_t, dat_n, dat_i, z8]
  rw [odd_loop (by
    intro d hd
    simp only [hd, bind_ok', truth_ok, Bool.not_true, Bool.false_eq_true, if_false])]
  · rw [forK_inl]
    have d9 : datX one = .ok (.tuple [.int one.1, .int one.2]) := dat_of rfl rfl
    simp only [d9, is_yes h1.toLw, bind_ok', truth_ok, if_true, t7]
  · intro d m
    simp only [List.mem_cons, List.not_mem_nil, or_false] at m
    rcases m with m | m | m | m | m | m | m | m <;> subst m
    · exact no_twice h1.toLw
    · exact no_neg h1.toLw
    · exact not_tup k_lt
    · exact no_true
    · exact no_one _
    · exact no_zero
    · exact not_tup k_nt
    · exact not_tup k_it
end LW

/-! PM: the law. -/
namespace LW
open PySem L2 TL FL PySem.StrLaws PySem.Builtin PySem.Builtin.Str NumText
theorem nu_lo {t b : Int} (hb : 1 ≤ b) (h1 : Mid t) (h2 : Mid b) : Nu (lo t b) := by
  obtain ⟨f1, _, f3, f4⟩ := lo_facts (a := t) (b := b) (by omega)
  exact ⟨f1, Nat.lt_of_le_of_lt f3 h1, Nat.lt_of_le_of_lt f4 h2⟩
/-- lists of pairs against themselves -/
theorem can_pairs : ∀ l : List Q2, PyData.canLayAll0 (l.map ToD.d) = true
  | [] => by simp [PyData.canLayAll0]
  | p :: l => by
    have ih := can_pairs l
    show PyData.canLayAll0 (PyData.tuple [.int p.1, .int p.2] :: l.map ToD.d) = true
    simp only [PyData.canLayAll0, PyData.canLay0, ih, Bool.and_self, Bool.true_and, Bool.and_true]
theorem depth_pairs : ∀ l : List Q2, PyData.depthAll (l.map ToD.d) ≤ 1
  | [] => by simp [PyData.depthAll]
  | p :: l => by
    have ih := depth_pairs l
    show PyData.depthAll (PyData.tuple [.int p.1, .int p.2] :: l.map ToD.d) ≤ 1
    simp only [PyData.depthAll, PyData.depth]
    omega
theorem eq_self (l : List Q2) (h : l.length ≤ 1000) : eqdX l l = .ok true := by
  have c : PyData.canLay0 (ToD.d l) = true := by
    show PyData.canLay0 (.list (l.map ToD.d)) = true
    simp only [PyData.canLay0, can_pairs]
  have dp : PyData.depth (ToD.d l) ≤ 64 := by
    show PyData.depth (.list (l.map ToD.d)) ≤ 64
    have := depth_pairs l
    simp only [PyData.depth]
    omega
  have s : SeqAt.shaped (ToD.d l) = true := by
    unfold SeqAt.shaped
    rw [c, decide_eq_true dp]
    rfl
  unfold eqdX
  rw [if_pos ⟨s, s⟩, SeqAt.eqv_refl _ c]
theorem many_ok {many : List Q2} (hm : ∀ p ∈ many, Nu p) (hn : many.length ≤ 1000) : ∃ lw hi, m_least (many, ()) = .ok lw ∧ m_greatest (many, ()) = .ok hi ∧ ((many = [] ∧ lw = none ∧ hi = none) ∨
    ∃ a b, lw = some a ∧ hi = some b ∧ 0 < many.length ∧ m__law_first (many, (1, ())) = .ok a ∧ m__law_first (many, (-1, ())) = .ok b) := by
  cases many with
  | nil => exact ⟨none, none, rfl, rfl, .inl ⟨rfl, rfl, rfl⟩⟩
  | cons x xs =>
    have hn : ∀ p ∈ x :: xs, Nm p := fun p m => (hm p m).nm
    exact ⟨_, _, least_ok hn, greatest_ok hn, .inr ⟨_, _, rfl, rfl, by simp, first_ok hn rfl (.inl rfl), first_ok hn rfl (.inr rfl)⟩⟩
theorem law_true : ∀ ns : List Int, ns.length ≤ 63 → m_law (ns, ()) = .ok true := by
  intro ns hn
  suffices h : Ok (m_law (ns, ())) fun b => b = true by
    obtain ⟨b, e, q⟩ := h
    rw [e, q]
  unfold m_law
  dsimp only
  refine ok_bind.mpr (Ok.imp (draws_ok hn (by decide) (by decide)) fun dr ⟨hl, hd⟩ => ?_)
  -- the parts
  refine ok_bind.mpr (Ok.imp (Q := fun ps : List Q2 => ps.length = 8 ∧ ∀ p ∈ ps, 1 ≤ p.2 ∧ Mid p.1 ∧ Mid p.2) ?_ fun ps ⟨pl, hp⟩ => ?_)
  · rw [ok_bind, ok_rng (by decide)]
    refine Ok.imp (ok_comp (P := fun p : Q2 => 1 ≤ p.2 ∧ Mid p.1 ∧ Mid p.2) fun a m => ?_) fun r ⟨h1, h2⟩ => ⟨by rw [h1, rangeL_len]; rfl, h2⟩
    have := rangeL_mem m
    rw [mulX_l (by decide), bind_ok', bind_ok', bind_ok']
    exact parts_ok hl hd this.1 this.2
  -- the numbers
  refine ok_bind.mpr (Ok.imp (Q := fun qs : List Q2 => qs.length = 8 ∧ ∀ p ∈ qs, Nu p) ?_ fun qs ⟨ql, hq⟩ => ?_)
  · refine Ok.imp (ok_comp (P := fun p : Q2 => Nu p) fun a m => ?_) fun r ⟨h1, h2⟩ => ⟨by rw [h1, pl], h2⟩
    obtain ⟨b1, b2, b3⟩ := hp a m
    exact ⟨lo a.1 a.2, low_ok (by omega) (two_le (by decide) b3), nu_lo b1 b2 b3⟩
  -- a twin
  refine ok_bind.mpr (Ok.imp (Q := fun g => g.1 = ns ∧ g.2.1 = dr ∧ g.2.2.1 = ps ∧ g.2.2.2.1.length = 8 ∧ ∀ p ∈ g.2.2.2.1, Nu p) ?_ ?_)
  · obtain ⟨x, ex, _⟩ := dr_get (n := 48) hl hd (i := 24) (by decide) (by decide)
    obtain ⟨q0, e0, m0, _⟩ := getX_ex (l := qs) (i := 0) (by decide) (by omega)
    rw [ex, bind_ok', modX_b (by decide), bind_ok', bind_ok', e0, bind_ok', setX_b (by decide) (by omega), bind_ok', ok_ite, ok_ok, ok_ok]
    refine ⟨fun _ => ⟨rfl, rfl, rfl, by show (qs.set 1 q0).length = 8; rw [List.length_set, ql], fun p m => ?_⟩, fun _ => ⟨rfl, rfl, rfl, ql, hq⟩⟩
    rcases List.mem_or_eq_of_mem_set m with m | m
    · exact hq p m
    · rw [m]; exact hq q0 m0
  rintro ⟨g1, g2, g3, qs2, _⟩ ⟨e1, e2, e3, ql, hq⟩
  simp only at e1 e2 e3 ql hq
  subst e1 e2 e3
  dsimp only
  obtain ⟨one, eo, mo, _⟩ := getX_ex (l := qs2) (i := 0) (by decide) (by omega)
  obtain ⟨two, et, mt, _⟩ := getX_ex (l := qs2) (i := 1) (by decide) (by omega)
  have n1 := hq one mo
  have n2 := hq two mt
  rw [eo, bind_ok', et, bind_ok']
  -- the factor
  refine ok_bind.mpr (Ok.imp (Q := fun f : Int => f ≠ 0 ∧ f.natAbs ≤ 35) ?_ fun f ⟨f0, f1⟩ => ?_)
  · obtain ⟨x, ex, _⟩ := dr_get (n := 48) hl hd (i := 25) (by decide) (by decide)
    have mx := fm_range (a := x) (m := 5) (by decide)
    have z : szX ((1 : Int) :: ((-(1 : Int)) :: ((6 : Int) :: ((-(35 : Int)) :: ((12 : Int) :: ([] : List Int)))))) = .ok [1, -1, 6, -35, 12] := szX_b (by decide)
    obtain ⟨f, ef, mf, _⟩ := getX_ex (l := [(1 : Int), -1, 6, -35, 12]) (i := x.fmod 5) mx.1 mx.2
    rw [z, bind_ok', ex, bind_ok', modX_b (by decide), bind_ok', ef, ok_ok]
    simp only [List.mem_cons, List.not_mem_nil, or_false] at mf
    rcases mf with h | h | h | h | h <;> rw [h] <;> decide
  obtain ⟨p0, ep, mp, _⟩ := getX_ex (l := g3) (i := 0) (by decide) (by omega)
  obtain ⟨b1, b2, b3⟩ := hp p0 mp
  have fs : f.natAbs < 2 ^ 64 := by omega
  have c1 : mulX f p0.1 = .ok (f * p0.1) := mulX_l fs
  have c2 : mulX f p0.2 = .ok (f * p0.2) := mulX_l fs
  have fb : (f * p0.2).natAbs < 2 ^ 9000 := mul_lt9 (two_le (a := 64) (by decide) fs) b3.sm
  have r1 : m_ratio (f * p0.1, (f * p0.2, ())) = .ok (lo p0.1 p0.2) := by rw [ratio_ok (Int.mul_ne_zero f0 (by omega)) fb, lo_mul f0 (by omega)]
  have r2 : m__law_low (p0.1, (p0.2, ())) = .ok (lo p0.1 p0.2) := low_ok (by omega) (two_le (by decide) b3)
  have pr : ∀ a b : Q2, Nu a → Nu b → m__law_pair (a, (b, ())) = .ok true := fun a b ha hb => pair_ok ha.toLw hb.toLw ha.m1.sm ha.m2.sm hb.m1.sm hb.m2.sm
  simp only [ep, bind_ok', c1, c2, r1, r2, same_refl, Bool.not_true, Bool.false_eq_true, if_false, pr one two n1 n2, pr two one n2 n1, pr one one n1 n1, raises_i]
  obtain ⟨x, ex, x0, x1⟩ := dr_get (n := 48) hl hd (i := 26) (by decide) (by decide)
  have em : modX x 7 = .ok (x.fmod 7) := modX_b (by decide)
  simp only [ex, em, bind_ok']
  generalize hmany : cutL qs2 (some 2) (some (2 + x.fmod 7)) = many
  have mm : ∀ p ∈ many, Nu p := fun p m => by
    rw [← hmany] at m
    unfold cutL at m
    exact hq p (List.mem_of_mem_drop (List.mem_of_mem_take m))
  have ml : many.length ≤ 1000 := by
    rw [← hmany]
    have := cutL_len qs2 (some 2) (some (2 + x.fmod 7))
    omega
  obtain ⟨lw, hi, e1, e2, cs⟩ := many_ok mm ml
  simp only [e1, e2, bind_ok', eq_self many ml, Bool.not_true, Bool.false_eq_true, if_false]
  have fin : ∀ lw hi, tailM (g1, (g2, (g3, (qs2, (one, (two, (f, (many, (many, (lw, (hi, ()))))))))))) = .ok true := fun lw hi => tail_ok hl hd n1
  rcases cs with ⟨c1, c2, c3⟩ | ⟨a, b, c1, c2, c3, c4, c5⟩
  · subst c1 c2 c3
    refine Ok.of (a := true) ?_ rfl
    exact fin none none
  · subst c1 c2
    refine Ok.of (a := true) ?_ rfl
    have hne : decide (((HasLen.len many : Nat) : Int) = (0 : Int)) = false := decide_eq_false (by rw [hlenL]; omega)
    have hpos : decide ((0 : Int) < ((HasLen.len many : Nat) : Int)) = true := decide_eq_true (by rw [hlenL]; omega)
    rw [hne, hpos]
    simp only [Bool.false_eq_true, if_false, if_true, bind_ok', someX_ok, c4, c5, same_refl, Bool.not_true]
    exact fin (some a) (some b)
end LW

namespace LW
open PySem L2 FL
def dg (x : Str) (i : Nat) : He.DefD := ⟨(x, none), x, x, defArgs (top i), defBody (top i), defScope (top i), [], []⟩
def fnL : List He.DefD := [dg "ratio" 8, dg "add" 9, dg "subtract" 10, dg "negate" 11, dg "multiply" 12, dg "divide" 13, dg "compare" 14, dg "least" 15, dg "greatest" 16, dg "is_number" 17, dg "show_number" 18, dg "_digits" 19, dg "read_number" 20, dg "_law_draws" 22, dg "_law_gcd" 23, dg "_law_low" 24, dg "_law_same" 25, dg "_law_integer" 26, dg "_law_truth" 27, dg "_law_parts" 28, dg "_law_raises" 29, dg "_law_written" 30, dg "_law_digits" 31, dg "_law_read" 32, dg "_law_text" 33, dg "_law_first" 34, dg "_law_pair" 35, dg "law" 36]
def faL : List He.Fa := [.glo "ratio", .glo "add", .glo "subtract", .glo "negate", .glo "multiply", .glo "divide", .glo "compare", .glo "least", .glo "greatest", .glo "is_number", .glo "show_number", .glo "_digits", .glo "read_number", .glo "_law_draws", .glo "_law_gcd", .glo "_law_low", .glo "_law_same", .glo "_law_integer", .glo "_law_truth", .glo "_law_parts", .glo "_law_raises", .glo "_law_written", .glo "_law_digits", .glo "_law_read", .glo "_law_text", .glo "_law_first", .glo "_law_pair", .glo "law", .free "ValueError", .free "abs", .free "bool", .free "int", .free "isinstance", .free "len", .free "list", .free "range", .free "str", .free "tuple", .glo "BadNumber", .glo "BadText", .glo "LeaderError", .exc "BadNumber", .str "DIGITS" "0123456789", .int "LONGEST" 40, .exm "BadNumber" "BadNumber" true]
def exL (K : PySem.W.Frag) : Bool := (He.eqO (PySem.W.nsIn K mainGlobals "gcd") (some (some (.builtin "math.gcd")))) && ((excCB K (He.ga K "BadNumber")) && ((decide (PySem.W.kitOne K (.ref (He.ga K "BadNumber")) (.ref (He.ga K "BadText")) = some false)) && ((decide (PySem.W.kitOne K (.ref (He.ga K "BadNumber")) (.ref (He.ga K "LeaderError")) = some true)) && ((decide (PySem.W.kitOne K (.ref (He.ga K "BadNumber")) (.type "ValueError") = some true)) && (true)))))
abbrev RR : PySem.W.OpenRow := PySem.W.OpenLaw.row PySem.Challenge.rw_leadersets_k00_numbers_exact
abbrev hkL : PySem.W.Hook := He.hookX 5 faL fnL [] [] exL
def obL (s : PySem.W.SharedT) : He.AlX := He.obsX 5 faL fnL [] [] exL (HandSHeadRun.getT s)
theorem obL_eq (s : PySem.W.SharedT) : obL s = hkL.obs s.abs := He.obsX_eq (HandSHeadRun.getT_eq s)
def looseL : List PySem.Str := ((["__name__", "LeaderError", "BadNumber", "BadText", "DIGITS", "LONGEST", "ratio", "add", "subtract", "negate", "multiply", "divide", "compare", "least", "greatest", "is_number", "show_number", "_digits", "read_number", "_law_draws", "_law_gcd", "_law_low", "_law_same", "_law_integer", "_law_truth", "_law_parts", "_law_raises", "_law_written", "_law_digits", "_law_read", "_law_text", "_law_first", "_law_pair"] : List String).map PySem.Str.ofString)
theorem runL (w : World) : HandSHeadRun.RunEqI RR (PySem.W.view RR.prog [0, 36]) hkL obL 3000 looseL w := by
  unfold HandSHeadRun.RunEqI
  kernel_rfl
theorem t0L {K : PySem.W.Frag} {h : Heap} {mg : Str → Option Value} (X : K.In h) (G : h.Ns mainGlobals mg) (c : He.SaysD faL fnL K) (ce : exL K = true) : T0 K mg where
  f_ValueError := He.free_ok X G (c.fact 28 (f := .free "ValueError") rfl)
  f_abs := He.free_ok X G (c.fact 29 (f := .free "abs") rfl)
  f_bool := He.free_ok X G (c.fact 30 (f := .free "bool") rfl)
  f_int := He.free_ok X G (c.fact 31 (f := .free "int") rfl)
  f_isinstance := He.free_ok X G (c.fact 32 (f := .free "isinstance") rfl)
  f_len := He.free_ok X G (c.fact 33 (f := .free "len") rfl)
  f_list := He.free_ok X G (c.fact 34 (f := .free "list") rfl)
  f_range := He.free_ok X G (c.fact 35 (f := .free "range") rfl)
  f_str := He.free_ok X G (c.fact 36 (f := .free "str") rfl)
  f_tuple := He.free_ok X G (c.fact 37 (f := .free "tuple") rfl)
  g_BadNumber := He.glo_ok X G (c.fact 38 (f := .glo "BadNumber") rfl)
  g_BadText := He.glo_ok X G (c.fact 39 (f := .glo "BadText") rfl)
  g_LeaderError := He.glo_ok X G (c.fact 40 (f := .glo "LeaderError") rfl)
  x_BadNumber := ⟨(He.exc_ok (c.fact 41 (f := .exc "BadNumber") rfl)).1, (He.exc_ok (c.fact 41 (f := .exc "BadNumber") rfl)).2.1, (He.exc_ok (c.fact 41 (f := .exc "BadNumber") rfl)).2.2.1, (He.exc_ok (c.fact 41 (f := .exc "BadNumber") rfl)).2.2.2, He.glo_ok X G (c.fact 38 (f := .glo "BadNumber") rfl)⟩
  c_DIGITS := He.str_ok X G (c.fact 42 (f := .str "DIGITS" "0123456789") rfl)
  c_LONGEST := He.int_ok X G (c.fact 43 (f := .int "LONGEST" 40) rfl)
  m_BadNumber_BadNumber := He.exm_ok (c.fact 44 (f := .exm "BadNumber" "BadNumber" true) rfl)
  gcd := mg_fact X G (He.ba ce).1
  e_BadNumber := excCB_ok (He.ba (He.ba ce).2).1
  k_BadNumber_BadText := of_decide_eq_true (He.ba (He.ba (He.ba ce).2).2).1
  k_BadNumber_LeaderError := of_decide_eq_true (He.ba (He.ba (He.ba (He.ba ce).2).2).2).1
  k_BadNumber_ValueError := of_decide_eq_true (He.ba (He.ba (He.ba (He.ba (He.ba ce).2).2).2).2).1
theorem factsL {P : Program} {w : World} {K : PySem.W.Frag} {h : Heap} {mg : Str → Option Value} {f : Addr} (X : K.In h) (G : h.Ns mainGlobals mg) (hfa : mg ("law" : Str) = some (.ref f)) (c : He.SaysD faL fnL K) (ce : exL K = true) :
    ∃ fd : FuncData, (∀ (s : Shared) (v : Value), BindsTo s fd ⟨[v], []⟩ [(("script" : Str), v)]) ∧ ∀ base : Heap, K.In base → base.Ns mainGlobals mg → FnOk P w K mg base (L2.CX P w) 5 f fd ["script"] (spF K (rtF Bool) m_law) := by
  have T := t0L X G c ce
  obtain ⟨fd, F⟩ := c.def_ 27 (d := dg "law" 36) rfl
  have e := hfa.symm.trans (He.glo_ok X G (c.fact 27 (f := .glo "law") rfl))
  cases e
  have b := FunD.bindsA (ps := ["script"]) F fun _ _ _ _ _ _ us hl => match us, hl with | [_], _ => rfl
  refine ⟨fd, fun s v => b s [v] rfl, fun base _ _ => ?_⟩
  obtain ⟨fd_ratio, F_ratio⟩ := c.def_ 0 (d := dg "ratio" 8) rfl
  have D_ratio := dk_of F_ratio (He.glo_ok X G (c.fact 0 (f := .glo "ratio") rfl)) (F_ratio.bindsN fun _ _ _ _ _ _ us hl => match us, hl with | [_, _], _ => rfl) (d_ratio (P := P) (w := w) (base := base) F_ratio T)
  obtain ⟨fd_add, F_add⟩ := c.def_ 1 (d := dg "add" 9) rfl
  have D_add := dk_of F_add (He.glo_ok X G (c.fact 1 (f := .glo "add") rfl)) (F_add.bindsN fun _ _ _ _ _ _ us hl => match us, hl with | [_, _], _ => rfl) (d_add (P := P) (w := w) (base := base) F_add T D_ratio)
  obtain ⟨fd_subtract, F_subtract⟩ := c.def_ 2 (d := dg "subtract" 10) rfl
  have D_subtract := dk_of F_subtract (He.glo_ok X G (c.fact 2 (f := .glo "subtract") rfl)) (F_subtract.bindsN fun _ _ _ _ _ _ us hl => match us, hl with | [_, _], _ => rfl) (d_subtract (P := P) (w := w) (base := base) F_subtract T D_ratio)
  obtain ⟨fd_negate, F_negate⟩ := c.def_ 3 (d := dg "negate" 11) rfl
  have D_negate := dk_of F_negate (He.glo_ok X G (c.fact 3 (f := .glo "negate") rfl)) (F_negate.bindsN fun _ _ _ _ _ _ us hl => match us, hl with | [_], _ => rfl) (d_negate (P := P) (w := w) (base := base) F_negate T)
  obtain ⟨fd_multiply, F_multiply⟩ := c.def_ 4 (d := dg "multiply" 12) rfl
  have D_multiply := dk_of F_multiply (He.glo_ok X G (c.fact 4 (f := .glo "multiply") rfl)) (F_multiply.bindsN fun _ _ _ _ _ _ us hl => match us, hl with | [_, _], _ => rfl) (d_multiply (P := P) (w := w) (base := base) F_multiply T D_ratio)
  obtain ⟨fd_divide, F_divide⟩ := c.def_ 5 (d := dg "divide" 13) rfl
  have D_divide := dk_of F_divide (He.glo_ok X G (c.fact 5 (f := .glo "divide") rfl)) (F_divide.bindsN fun _ _ _ _ _ _ us hl => match us, hl with | [_, _], _ => rfl) (d_divide (P := P) (w := w) (base := base) F_divide T D_ratio)
  obtain ⟨fd_compare, F_compare⟩ := c.def_ 6 (d := dg "compare" 14) rfl
  have D_compare := dk_of F_compare (He.glo_ok X G (c.fact 6 (f := .glo "compare") rfl)) (F_compare.bindsN fun _ _ _ _ _ _ us hl => match us, hl with | [_, _], _ => rfl) (d_compare (P := P) (w := w) (base := base) F_compare T)
  obtain ⟨fd_least, F_least⟩ := c.def_ 7 (d := dg "least" 15) rfl
  have D_least := dk_of F_least (He.glo_ok X G (c.fact 7 (f := .glo "least") rfl)) (F_least.bindsN fun _ _ _ _ _ _ us hl => match us, hl with | [_], _ => rfl) (d_least (P := P) (w := w) (base := base) F_least T D_compare)
  obtain ⟨fd_greatest, F_greatest⟩ := c.def_ 8 (d := dg "greatest" 16) rfl
  have D_greatest := dk_of F_greatest (He.glo_ok X G (c.fact 8 (f := .glo "greatest") rfl)) (F_greatest.bindsN fun _ _ _ _ _ _ us hl => match us, hl with | [_], _ => rfl) (d_greatest (P := P) (w := w) (base := base) F_greatest T D_compare)
  obtain ⟨fd_is_number, F_is_number⟩ := c.def_ 9 (d := dg "is_number" 17) rfl
  have D_is_number := dk_of F_is_number (He.glo_ok X G (c.fact 9 (f := .glo "is_number") rfl)) (F_is_number.bindsN fun _ _ _ _ _ _ us hl => match us, hl with | [_], _ => rfl) (d_is_number (P := P) (w := w) (base := base) F_is_number T)
  obtain ⟨fd_show_number, F_show_number⟩ := c.def_ 10 (d := dg "show_number" 18) rfl
  have D_show_number := dk_of F_show_number (He.glo_ok X G (c.fact 10 (f := .glo "show_number") rfl)) (F_show_number.bindsN fun _ _ _ _ _ _ us hl => match us, hl with | [_], _ => rfl) (d_show_number (P := P) (w := w) (base := base) F_show_number T)
  obtain ⟨fd__digits, F__digits⟩ := c.def_ 11 (d := dg "_digits" 19) rfl
  have D__digits := dk_of F__digits (He.glo_ok X G (c.fact 11 (f := .glo "_digits") rfl)) (F__digits.bindsN fun _ _ _ _ _ _ us hl => match us, hl with | [_], _ => rfl) (d__digits (P := P) (w := w) (base := base) F__digits T)
  obtain ⟨fd_read_number, F_read_number⟩ := c.def_ 12 (d := dg "read_number" 20) rfl
  have D_read_number := dk_of F_read_number (He.glo_ok X G (c.fact 12 (f := .glo "read_number") rfl)) (F_read_number.bindsN fun _ _ _ _ _ _ us hl => match us, hl with | [_], _ => rfl) (d_read_number (P := P) (w := w) (base := base) F_read_number T D__digits D_ratio D_show_number)
  obtain ⟨fd__law_draws, F__law_draws⟩ := c.def_ 13 (d := dg "_law_draws" 22) rfl
  have D__law_draws := dk_of F__law_draws (He.glo_ok X G (c.fact 13 (f := .glo "_law_draws") rfl)) (F__law_draws.bindsN fun _ _ _ _ _ _ us hl => match us, hl with | [_, _], _ => rfl) (d__law_draws (P := P) (w := w) (base := base) F__law_draws T)
  obtain ⟨fd__law_gcd, F__law_gcd⟩ := c.def_ 14 (d := dg "_law_gcd" 23) rfl
  have D__law_gcd := dk_of F__law_gcd (He.glo_ok X G (c.fact 14 (f := .glo "_law_gcd") rfl)) (F__law_gcd.bindsN fun _ _ _ _ _ _ us hl => match us, hl with | [_, _], _ => rfl) (d__law_gcd (P := P) (w := w) (base := base) F__law_gcd T)
  obtain ⟨fd__law_low, F__law_low⟩ := c.def_ 15 (d := dg "_law_low" 24) rfl
  have D__law_low := dk_of F__law_low (He.glo_ok X G (c.fact 15 (f := .glo "_law_low") rfl)) (F__law_low.bindsN fun _ _ _ _ _ _ us hl => match us, hl with | [_, _], _ => rfl) (d__law_low (P := P) (w := w) (base := base) F__law_low T D__law_gcd)
  obtain ⟨fd__law_same, F__law_same⟩ := c.def_ 16 (d := dg "_law_same" 25) rfl
  have D__law_same := dk_of F__law_same (He.glo_ok X G (c.fact 16 (f := .glo "_law_same") rfl)) (F__law_same.bindsN fun _ _ _ _ _ _ us hl => match us, hl with | [_, _], _ => rfl) (d__law_same (P := P) (w := w) (base := base) F__law_same T)
  obtain ⟨fd__law_integer, F__law_integer⟩ := c.def_ 17 (d := dg "_law_integer" 26) rfl
  have D__law_integer := dk_of F__law_integer (He.glo_ok X G (c.fact 17 (f := .glo "_law_integer") rfl)) (F__law_integer.bindsN fun _ _ _ _ _ _ us hl => match us, hl with | [_, _], _ => rfl) (d__law_integer (P := P) (w := w) (base := base) F__law_integer T)
  obtain ⟨fd__law_truth, F__law_truth⟩ := c.def_ 18 (d := dg "_law_truth" 27) rfl
  have D__law_truth := dk_of F__law_truth (He.glo_ok X G (c.fact 18 (f := .glo "_law_truth") rfl)) (F__law_truth.bindsN fun _ _ _ _ _ _ us hl => match us, hl with | [_, _], _ => rfl) (d__law_truth (P := P) (w := w) (base := base) F__law_truth T)
  obtain ⟨fd__law_parts, F__law_parts⟩ := c.def_ 19 (d := dg "_law_parts" 28) rfl
  have D__law_parts := dk_of F__law_parts (He.glo_ok X G (c.fact 19 (f := .glo "_law_parts") rfl)) (F__law_parts.bindsN fun _ _ _ _ _ _ us hl => match us, hl with | [_, _], _ => rfl) (d__law_parts (P := P) (w := w) (base := base) F__law_parts T)
  obtain ⟨fd__law_raises_i, F__law_raises_i⟩ := c.def_ 20 (d := dg "_law_raises" 29) rfl
  have D__law_raises_i := dk_of F__law_raises_i (He.glo_ok X G (c.fact 20 (f := .glo "_law_raises") rfl)) (F__law_raises_i.bindsN fun _ _ _ _ _ _ us hl => match us, hl with | [_, _], _ => rfl) (d__law_raises_i (P := P) (w := w) (base := base) F__law_raises_i T D_ratio)
  obtain ⟨fd__law_raises_q, F__law_raises_q⟩ := c.def_ 20 (d := dg "_law_raises" 29) rfl
  have D__law_raises_q := dk_of F__law_raises_q (He.glo_ok X G (c.fact 20 (f := .glo "_law_raises") rfl)) (F__law_raises_q.bindsN fun _ _ _ _ _ _ us hl => match us, hl with | [_, _], _ => rfl) (d__law_raises_q (P := P) (w := w) (base := base) F__law_raises_q T D_divide)
  obtain ⟨fd__law_raises_s, F__law_raises_s⟩ := c.def_ 20 (d := dg "_law_raises" 29) rfl
  have D__law_raises_s := dk_of F__law_raises_s (He.glo_ok X G (c.fact 20 (f := .glo "_law_raises") rfl)) (F__law_raises_s.bindsN fun _ _ _ _ _ _ us hl => match us, hl with | [_, _], _ => rfl) (d__law_raises_s (P := P) (w := w) (base := base) F__law_raises_s T D_read_number)
  obtain ⟨fd__law_written, F__law_written⟩ := c.def_ 21 (d := dg "_law_written" 30) rfl
  have D__law_written := dk_of F__law_written (He.glo_ok X G (c.fact 21 (f := .glo "_law_written") rfl)) (F__law_written.bindsN fun _ _ _ _ _ _ us hl => match us, hl with | [_], _ => rfl) (d__law_written (P := P) (w := w) (base := base) F__law_written T)
  obtain ⟨fd__law_digits, F__law_digits⟩ := c.def_ 22 (d := dg "_law_digits" 31) rfl
  have D__law_digits := dk_of F__law_digits (He.glo_ok X G (c.fact 22 (f := .glo "_law_digits") rfl)) (F__law_digits.bindsN fun _ _ _ _ _ _ us hl => match us, hl with | [_], _ => rfl) (d__law_digits (P := P) (w := w) (base := base) F__law_digits T)
  obtain ⟨fd__law_read, F__law_read⟩ := c.def_ 23 (d := dg "_law_read" 32) rfl
  have D__law_read := dk_of F__law_read (He.glo_ok X G (c.fact 23 (f := .glo "_law_read") rfl)) (F__law_read.bindsN fun _ _ _ _ _ _ us hl => match us, hl with | [_], _ => rfl) (d__law_read (P := P) (w := w) (base := base) F__law_read T D__law_digits D__law_gcd)
  obtain ⟨fd__law_text, F__law_text⟩ := c.def_ 24 (d := dg "_law_text" 33) rfl
  have D__law_text := dk_of F__law_text (He.glo_ok X G (c.fact 24 (f := .glo "_law_text") rfl)) (F__law_text.bindsN fun _ _ _ _ _ _ us hl => match us, hl with | [_], _ => rfl) (d__law_text (P := P) (w := w) (base := base) F__law_text T D__law_read D__law_raises_s D_read_number D__law_same)
  obtain ⟨fd__law_first, F__law_first⟩ := c.def_ 25 (d := dg "_law_first" 34) rfl
  have D__law_first := dk_of F__law_first (He.glo_ok X G (c.fact 25 (f := .glo "_law_first") rfl)) (F__law_first.bindsN fun _ _ _ _ _ _ us hl => match us, hl with | [_, _], _ => rfl) (d__law_first (P := P) (w := w) (base := base) F__law_first T)
  obtain ⟨fd__law_pair, F__law_pair⟩ := c.def_ 26 (d := dg "_law_pair" 35) rfl
  have D__law_pair := dk_of F__law_pair (He.glo_ok X G (c.fact 26 (f := .glo "_law_pair") rfl)) (F__law_pair.bindsN fun _ _ _ _ _ _ us hl => match us, hl with | [_, _], _ => rfl) (d__law_pair (P := P) (w := w) (base := base) F__law_pair T D_add D__law_low D__law_same D_subtract D_multiply D_negate D__law_raises_q D_divide D_compare D__law_integer)
  exact d_law F T D__law_draws D__law_parts D__law_low D_ratio D__law_same D__law_pair D__law_raises_i D_least D_greatest D__law_first D__law_written D_show_number D_read_number D__law_text D_is_number D__law_truth
end LW
open PySem PySem.W PySem.Calls PyProof.Rows
theorem PySem.Challenge.cw_leadersets_k00_numbers_exact_holds : PySem.Challenge.rw_leadersets_k00_numbers_exact.Holds := by
  w_on; o_law
  refine HandSHeadRun.head_imp (r := OpenLaw.row PySem.Challenge.rw_leadersets_k00_numbers_exact) (q := view (OpenLaw.row PySem.Challenge.rw_leadersets_k00_numbers_exact).prog [0, 36]) (H := LW.hkL) (ob := LW.obL) (M := 3000) (loose := LW.looseL) (d := HandSHeadRun.topDef (OpenLaw.row PySem.Challenge.rw_leadersets_k00_numbers_exact).prog 36) (kwd := []) LW.obL_eq LW.runL (by kernel_rfl) (by kernel_rfl) (by kernel_rfl) (by rfl) (by first | assumption | decide +kernel) (by decide +kernel) ⟨rfl, rfl, rfl, rfl, rfl, by decide +kernel⟩ ?hw ?hc
  case hw => w_witness2
  case hc =>
    refine FL.walk_w (l := PySem.Challenge.rw_leadersets_k00_numbers_exact) (n := 63) (k := 5) (x := "script") (m := LW.m_law) rfl (by decide) (by kernel_rfl) ⟨rfl, by decide, by decide⟩ LW.law_true ?F
    intro w mg fa h Y G hmg0
    obtain ⟨K, KX, c⟩ := Y
    have hmg : mg ("law" : PySem.Str) = some (.ref fa) := by
      have e : (HandSHeadRun.topDef (OpenLaw.row PySem.Challenge.rw_leadersets_k00_numbers_exact).prog 36).name = ("law" : PySem.Str) := by kernel_rfl
      rw [← e]
      exact hmg0
    obtain ⟨fd, hb, hF⟩ := LW.factsL (P := (PySem.Challenge.rw_leadersets_k00_numbers_exact).prog) (w := w) KX G hmg c.t.d c.more
    exact ⟨K, fd, KX, hb, hF⟩
