import PyProof.Rows.All
import Wide.All
import OpenK.AllK
import Wide.FinOn
import HandS.ForMost
import HandS.ForExc
import HandS.Gcd
import HandS.IsInst
import HandS.Wide
import HandS.WideBits
import HandS.HeadHook1
import HandS.HeadHook2
import HandS.HeadHook3
import HandS.TupAny
import HandS.RaiseMore
import HandS.Defaults
import HandS.Zip
import HandS.Comp
import HandS.TryOnly
import HandS.ExcIs
import HandS.Conv
import PyProof.StrBlock2
import HandS.Head0
import HandS.Head1
import HandS.Head2
import HandS.Head3
import HandS.HeadEnd
import HandS.HeadHook4
import KE.KMathGC
import HandS.List
import HandS.Deep
import HandS.More
import KE.SortData
import KE.DataMinMax
import HandS.TupMul
import HandS.SlotsOwn
import KE.KOpsOwn
import KE.KCallOwn
import PyProof.PureInt
import HandS.HeadNt
import PyProof.P3Eq
import PySem.Challenge.RW_leadersets_k02_functions_of_points
set_option Elab.async false
set_option linter.all false
set_option maxRecDepth 100000
set_option maxHeartbeats 4000000
/-! FL1: typed readings: mirrors, representations, worlds, environments, expressions. -/
namespace FL
open PySem L2

/-! ### mirrors -/
/-- what a mirror gives: a value; an exception of the class named c with its fields; nothing (beyond what is covered) -/
inductive Xc (α : Type) where
  | ok (a : α)
  | er (c : Str) (fs : List (Str × V))
  | no
def Xc.bind {α β : Type} (m : Xc α) (k : α → Xc β) : Xc β := match m with
  | .ok a => k a
  | .er c fs => .er c fs
  | .no => .no
instance : Monad Xc where
  pure := .ok
  bind := Xc.bind
theorem bind_ok {α β : Type} (a : α) (k : α → Xc β) : Xc.bind (.ok a) k = k a := rfl
theorem bind_er {α β : Type} (c fs) (k : α → Xc β) : Xc.bind (.er c fs) k = .er c fs := rfl
theorem bind_no {α β : Type} (k : α → Xc β) : Xc.bind .no k = .no := rfl
theorem bind_assoc {α β γ : Type} (m : Xc α) (k : α → Xc β) (l : β → Xc γ) : (m.bind k).bind l = m.bind fun a => (k a).bind l := by cases m <;> rfl
theorem bind_pure {α : Type} (m : Xc α) : (m.bind fun a => .ok a) = m := by cases m <;> rfl
theorem mbind {α β : Type} (m : Xc α) (k : α → Xc β) : (m >>= k) = m.bind k := rfl
theorem mpure {α : Type} (a : α) : (pure a : Xc α) = .ok a := rfl
theorem bind_eq_ok {α β : Type} {m : Xc α} {k : α → Xc β} {b : β} : m.bind k = .ok b ↔ ∃ a, m = .ok a ∧ k a = .ok b := by
  cases m with
  | ok a =>
    constructor
    · intro h; exact ⟨a, rfl, h⟩
    · rintro ⟨_, e, h⟩; cases e; exact h
  | er c fs =>
    constructor
    · intro h; cases h
    · rintro ⟨_, e, _⟩; cases e
  | no =>
    constructor
    · intro h; cases h
    · rintro ⟨_, e, _⟩; cases e

/-! ### representations: a Lean value stands at a Python value, in the frozen heap F -/
class Rp (α : Type) where
  is : PySem.W.Frag → Hp → V → α → Prop
  mono : ∀ {K F F' v a}, Same F F' → is K F v a → is K F' v a
theorem Same.seqT {K : PySem.W.Frag} {H H' : Hp} {a : Addr} {xs : List V} (e : Same H H') (h : SqT K H a xs) : SqT K H' a xs := by
  rcases h with (h | ⟨o, h⟩) | h
  · exact .inl (.inl (e _ _ h))
  · exact .inl (.inr ⟨o, e _ _ h⟩)
  · exact .inr h
instance : Rp Int := ⟨fun _ _ v a => v = .int a, fun _ h => h⟩
instance : Rp Bool := ⟨fun _ _ v a => v = .bl a, fun _ h => h⟩
instance : Rp Str := ⟨fun _ _ v a => v = .str a ∧ a.length ≤ sizeLine, fun _ h => h⟩
instance : Rp Unit := ⟨fun _ _ v _ => v = .non, fun _ h => h⟩
instance {α : Type} [Rp α] : Rp (Option α) := ⟨fun K F v a => match a with
  | none => v = .non
  | some a => v ≠ .non ∧ Rp.is K F v a, fun {K F F' v a} s h => by
    cases a with
    | none => exact h
    | some a => exact ⟨h.1, Rp.mono s h.2⟩⟩
/-- all of a list -/
inductive Al {α : Type} [Rp α] (K : PySem.W.Frag) (F : Hp) : List V → List α → Prop where
  | nil : Al K F [] []
  | cons {v vs a as} : Rp.is K F v a → Al K F vs as → Al K F (v :: vs) (a :: as)
section
variable {α β γ : Type} [Rp α] [Rp β] {K : PySem.W.Frag} {F F' : Hp}
theorem Al.mono (s : Same F F') {vs : List V} {as : List α} (h : Al K F vs as) : Al K F' vs as := by
  induction h with
  | nil => exact .nil
  | cons h _ ih => exact .cons (Rp.mono s h) ih
theorem Al.len {vs : List V} {as : List α} (h : Al K F vs as) : vs.length = as.length := by
  induction h with
  | nil => rfl
  | cons _ _ ih => simp [ih]
theorem Al.get {vs : List V} {as : List α} (h : Al K F vs as) : ∀ {i : Nat} {v : V}, vs[i]? = some v → ∃ a, as[i]? = some a ∧ Rp.is K F v a := by
  induction h with
  | nil => intro i v e; simp at e
  | cons h _ ih =>
    intro i v e
    cases i with
    | zero => simp at e; subst e; exact ⟨_, rfl, h⟩
    | succ i => simp at e; obtain ⟨a, e2, r⟩ := ih e; exact ⟨a, by simpa using e2, r⟩
theorem Al.get' {vs : List V} {as : List α} (h : Al K F vs as) : ∀ {i : Nat} {a : α}, as[i]? = some a → ∃ v, vs[i]? = some v ∧ Rp.is K F v a := by
  induction h with
  | nil => intro i v e; simp at e
  | cons h _ ih =>
    intro i v e
    cases i with
    | zero => simp at e; subst e; exact ⟨_, rfl, h⟩
    | succ i => simp at e; obtain ⟨a, e2, r⟩ := ih e; exact ⟨a, by simpa using e2, r⟩
theorem Al.app {vs ws : List V} {as bs : List α} (h : Al K F vs as) (h' : Al K F ws bs) : Al K F (vs ++ ws) (as ++ bs) := by
  induction h with
  | nil => exact h'
  | cons h _ ih => exact .cons h ih
theorem Al.snoc {vs : List V} {as : List α} {v : V} {a : α} (h : Al K F vs as) (h' : Rp.is K F v a) : Al K F (vs ++ [v]) (as ++ [a]) := h.app (.cons h' .nil)
theorem Al.take {vs : List V} {as : List α} (h : Al K F vs as) : ∀ n, Al K F (vs.take n) (as.take n) := by
  induction h with
  | nil => intro n; simp; exact .nil
  | cons h _ ih => intro n; cases n with
    | zero => exact .nil
    | succ n => exact .cons h (ih n)
theorem Al.drop {vs : List V} {as : List α} (h : Al K F vs as) : ∀ n, Al K F (vs.drop n) (as.drop n) := by
  induction h with
  | nil => intro n; simp; exact .nil
  | cons h t ih => intro n; cases n with
    | zero => exact .cons h t
    | succ n => exact ih n
theorem Al.set {vs : List V} {as : List α} {v : V} {a : α} (h : Al K F vs as) (r : Rp.is K F v a) : ∀ n, Al K F (vs.set n v) (as.set n a) := by
  induction h with
  | nil => intro n; exact .nil
  | cons h t ih => intro n; cases n with
    | zero => exact .cons r t
    | succ n => exact .cons h (ih n)
theorem Al.repl {v : V} {a : α} (r : Rp.is K F v a) : ∀ n, Al K F (List.replicate n v) (List.replicate n a)
  | 0 => .nil
  | n + 1 => .cons r (Al.repl r n)
end
/-- a Python list -/
instance {α : Type} [Rp α] : Rp (List α) := ⟨fun K F v l => ∃ p xs, v = .ref p ∧ SqL K F p xs ∧ l.length ≤ sizeLine ∧ Al K F xs l, fun s ⟨p, xs, e, h, z, r⟩ => ⟨p, xs, e, Same.seq s h, z, r.mono s⟩⟩
/-- a Python tuple of any length, its items alike -/
def Tu (α : Type) : Type := List α
def Tu.l {α : Type} (t : Tu α) : List α := t
def tu {α : Type} (l : List α) : Tu α := l
instance {α : Type} [Rp α] : Rp (Tu α) := ⟨fun K F v l => ∃ p xs, v = .ref p ∧ SqT K F p xs ∧ (Tu.l l).length ≤ sizeLine ∧ Al K F xs (Tu.l l), fun s ⟨p, xs, e, h, z, r⟩ => ⟨p, xs, e, Same.seqT s h, z, r.mono s⟩⟩
/-- a pair -/
instance {α β : Type} [Rp α] [Rp β] : Rp (α × β) := ⟨fun K F v a => ∃ p x y, v = .ref p ∧ SqT K F p [x, y] ∧ Rp.is K F x a.1 ∧ Rp.is K F y a.2, fun s ⟨p, x, y, e, h, r1, r2⟩ => ⟨p, x, y, e, Same.seqT s h, Rp.mono s r1, Rp.mono s r2⟩⟩
/-- a tuple of three, of four -/
def T3 (α β γ : Type) : Type := α × β × γ
def T4 (α β γ δ : Type) : Type := α × β × γ × δ
def T3.mk {α β γ : Type} (a : α) (b : β) (c : γ) : T3 α β γ := (a, b, c)
def T4.mk {α β γ δ : Type} (a : α) (b : β) (c : γ) (d : δ) : T4 α β γ δ := (a, b, c, d)
def T3.a {α β γ : Type} (t : T3 α β γ) : α := Prod.fst t
def T3.b {α β γ : Type} (t : T3 α β γ) : β := (Prod.snd t).1
def T3.c {α β γ : Type} (t : T3 α β γ) : γ := (Prod.snd t).2
def T4.a {α β γ δ : Type} (t : T4 α β γ δ) : α := Prod.fst t
def T4.b {α β γ δ : Type} (t : T4 α β γ δ) : β := (Prod.snd t).1
def T4.c {α β γ δ : Type} (t : T4 α β γ δ) : γ := (Prod.snd t).2.1
def T4.d {α β γ δ : Type} (t : T4 α β γ δ) : δ := (Prod.snd t).2.2
instance {α β γ : Type} [Rp α] [Rp β] [Rp γ] : Rp (T3 α β γ) := ⟨fun K F v t => ∃ p x y z, v = .ref p ∧ SqT K F p [x, y, z] ∧ Rp.is K F x t.a ∧ Rp.is K F y t.b ∧ Rp.is K F z t.c,
  fun s ⟨p, x, y, z, e, h, r1, r2, r3⟩ => ⟨p, x, y, z, e, Same.seqT s h, Rp.mono s r1, Rp.mono s r2, Rp.mono s r3⟩⟩
instance {α β γ δ : Type} [Rp α] [Rp β] [Rp γ] [Rp δ] : Rp (T4 α β γ δ) := ⟨fun K F v t => ∃ p x y z u, v = .ref p ∧ SqT K F p [x, y, z, u] ∧ Rp.is K F x t.a ∧ Rp.is K F y t.b ∧ Rp.is K F z t.c ∧ Rp.is K F u t.d,
  fun s ⟨p, x, y, z, u, e, h, r1, r2, r3, r4⟩ => ⟨p, x, y, z, u, e, Same.seqT s h, Rp.mono s r1, Rp.mono s r2, Rp.mono s r3, Rp.mono s r4⟩⟩
mutual
theorem dp_mono {K : PySem.W.Frag} {F F' : Hp} (s : Same F F') : ∀ {v : V} {d : PyData}, Dp K F v d → Dp K F' v d
  | _, _, .non => .non
  | _, _, .bl b => .bl b
  | _, _, .int i => .int i
  | _, _, .str x => .str x
  | _, _, .lst h r => .lst (Same.seq s h) (dpa_mono s r)
  | _, _, .tup h r => .tup (Same.seqT s h) (dpa_mono s r)
theorem dpa_mono {K : PySem.W.Frag} {F F' : Hp} (s : Same F F') : ∀ {vs : List V} {ds : List PyData}, DpAll K F vs ds → DpAll K F' vs ds
  | _, _, .nil => .nil
  | _, _, .cons h r => .cons (dp_mono s h) (dpa_mono s r)
end
/-- data of any kind -/
instance : Rp PyData := ⟨fun K F v d => Dp K F v d ∧ SeqAt.shaped d = true, fun s h => ⟨dp_mono s h.1, h.2⟩⟩

/-! ### worlds: the frozen heap F within the heap H; what comes to it is new -/
structure Wd (F H F' H' : Hp) : Prop where
  f : Same F F'
  h : Same H H'
  s : Same F' H'
  n : ∀ a, F' a ≠ none → F a = none → H a = none
theorem Wd.refl {F H : Hp} (s : Same F H) : Wd F H F H := ⟨Same.refl _, Same.refl _, s, fun _ h e => absurd e h⟩
theorem Wd.trans {F H F1 H1 F2 H2 : Hp} (a : Wd F H F1 H1) (b : Wd F1 H1 F2 H2) : Wd F H F2 H2 :=
  ⟨a.f.trans b.f, a.h.trans b.h, b.s, fun p h e => by
    cases q : F1 p with
    | none => exact a.h.free (b.n p h q)
    | some o => exact a.n p (by rw [q]; exact fun z => nomatch z) e⟩
theorem Wd.s0 {F H F' H' : Hp} (a : Wd F H F' H') (b : Same F H) : Same F H' := a.f.trans a.s
theorem Wd.own {F H F' H' : Hp} (w : Wd F H F' H') {p : Addr} {o : HO} (f : F p = none) (h : H p = some o) : F' p = none := by
  cases y : F' p with
  | none => rfl
  | some u =>
    have q := w.n p (by rw [y]; exact fun z => nomatch z) f
    rw [h] at q
    cases q
theorem same_upd {F H : Hp} {p : Addr} {o : HO} (s : Same F H) : Same (upd F p o) (upd H p o) := fun b u e => by
  by_cases q : b = p
  · subst q; rw [upd_same] at e ⊢; exact e
  · rw [upd_ne q] at e ⊢; exact s b u e
theorem same_new {H : Hp} {p : Addr} {o : HO} (h : H p = none) : Same H (upd H p o) := fun b u e => by
  rw [upd_ne (ne_of_none e h)]; exact e
/-- a new frozen object -/
theorem Wd.new {F H : Hp} {p : Addr} {o : HO} (s : Same F H) (h : H p = none) : Wd F H (upd F p o) (upd H p o) :=
  ⟨same_new (s.free h), same_new h, same_upd s, fun b h' e => by
    by_cases q : b = p
    · subst q; exact h
    · rw [upd_ne q] at h'; exact absurd e h'⟩
/-- a new object that is not frozen -/
theorem Wd.newO {F H : Hp} {p : Addr} {o : HO} (s : Same F H) (h : H p = none) : Wd F H F (upd H p o) :=
  ⟨Same.refl _, same_new h, fun b u e => same_new h b u (s b u e), fun b h' e => absurd e h'⟩

/-! ### environments -/
structure EnvT (γ : Type) where
  rel : PySem.W.Frag → Hp → Hp → Hp → St → γ → Prop
  own : St → List Addr
  mono : ∀ {K H0 F H F' H' σ g}, rel K H0 F H σ g → Wd F H F' H' → rel K H0 F' H' σ g
  mu : ∀ {K H0 F H σ g p o}, rel K H0 F H σ g → p ∉ own σ → rel K H0 F (upd H p o) σ g
  al : ∀ {K H0 F H σ g p}, rel K H0 F H σ g → p ∈ own σ → H0 p = none ∧ F p = none ∧ ∃ xs, H p = some (HO.lst xs)
def nl : EnvT Unit := ⟨fun _ _ _ _ _ _ => True, fun _ => [], fun h _ => h, fun h _ => h, fun _ h => by cases h⟩
/-- a slot with a value -/
def va (α : Type) {γ : Type} [Rp α] (G : EnvT γ) : EnvT (α × γ) where
  rel := fun K H0 F H σ g => ∃ v σ', σ = some v :: σ' ∧ Rp.is K F v g.1 ∧ G.rel K H0 F H σ' g.2
  own := fun σ => G.own σ.tail
  mono := fun ⟨v, σ', e, r, h⟩ w => ⟨v, σ', e, Rp.mono w.f r, G.mono h w⟩
  mu := fun ⟨v, σ', e, r, h⟩ n => ⟨v, σ', e, r, G.mu h (by subst e; exact n)⟩
  al := fun ⟨v, σ', e, r, h⟩ n => G.al h (by subst e; exact n)
/-- a slot that does not matter -/
def un {γ : Type} (G : EnvT γ) : EnvT γ where
  rel := fun K H0 F H σ g => ∃ v σ', σ = v :: σ' ∧ G.rel K H0 F H σ' g
  own := fun σ => G.own σ.tail
  mono := fun ⟨v, σ', e, h⟩ w => ⟨v, σ', e, G.mono h w⟩
  mu := fun ⟨v, σ', e, h⟩ n => ⟨v, σ', e, G.mu h (by subst e; exact n)⟩
  al := fun ⟨v, σ', e, h⟩ n => G.al h (by subst e; exact n)
def adr : St → List Addr
  | some (.ref p) :: _ => [p]
  | _ => []
/-- a slot with a list of one's own -/
def ow (α : Type) {γ : Type} [Rp α] (G : EnvT γ) : EnvT (List α × γ) where
  rel := fun K H0 F H σ g => ∃ p σ' xs, σ = some (.ref p) :: σ' ∧ H0 p = none ∧ F p = none ∧ H p = some (HO.lst xs) ∧ g.1.length ≤ sizeLine ∧ Al K F xs g.1 ∧ p ∉ G.own σ' ∧ G.rel K H0 F H σ' g.2
  own := fun σ => adr σ ++ G.own σ.tail
  mono := fun ⟨p, σ', xs, e, h0, f, h, z, r, n, q⟩ w => ⟨p, σ', xs, e, h0, w.own f h, w.h _ _ h, z, r.mono w.f, n, G.mono q w⟩
  mu := fun {K H0 F H σ g b o} ⟨p, σ', xs, e, h0, f, h, z, r, n, q⟩ m => by
    subst e
    have m2 : b ≠ p ∧ b ∉ G.own σ' := by
      constructor
      · intro q; exact m (by simp [adr, q])
      · intro q; exact m (by simp [q])
    exact ⟨p, σ', xs, rfl, h0, f, by rw [upd_ne (Ne.symm m2.1)]; exact h, z, r, n, G.mu q m2.2⟩
  al := fun {K H0 F H σ g b} ⟨p, σ', xs, e, h0, f, h, z, r, n, q⟩ m => by
    subst e
    rcases List.mem_append.mp m with m | m
    · have e : b = p := by simpa [adr] using m
      subst e
      exact ⟨h0, f, xs, h⟩
    · exact G.al q m

/-- the slot i holds π g -/
class At {γ : Type} (G : EnvT γ) (i : Nat) (α : outParam Type) (r : outParam (Rp α)) (π : outParam (γ → α)) : Prop where
  get : ∀ {K H0 F H σ g}, G.rel K H0 F H σ g → ∃ v, σ[i]? = some (some v) ∧ r.is K F v (π g)
instance {α γ : Type} [r : Rp α] (G : EnvT γ) : At (va α G) 0 α r (fun g => g.1) := ⟨fun ⟨v, σ', e, q, _⟩ => ⟨v, by subst e; rfl, q⟩⟩
instance {α β γ : Type} [Rp β] [r : Rp α] (G : EnvT γ) (i : Nat) (π : γ → α) [a : At G i α r π] : At (va β G) (i + 1) α r (fun g => π g.2) := ⟨fun ⟨v, σ', e, _, q⟩ => by
  obtain ⟨u, e2, q2⟩ := a.get q
  exact ⟨u, by subst e; exact e2, q2⟩⟩
instance {α γ : Type} [r : Rp α] (G : EnvT γ) (i : Nat) (π : γ → α) [a : At G i α r π] : At (un G) (i + 1) α r (fun g => π g) := ⟨fun ⟨v, σ', e, q⟩ => by
  obtain ⟨u, e2, q2⟩ := a.get q
  exact ⟨u, by subst e; exact e2, q2⟩⟩
instance {α β γ : Type} [Rp β] [r : Rp α] (G : EnvT γ) (i : Nat) (π : γ → α) [a : At G i α r π] : At (ow β G) (i + 1) α r (fun g => π g.2) := ⟨fun ⟨p, σ', xs, e, _, _, _, _, _, _, q⟩ => by
  obtain ⟨u, e2, q2⟩ := a.get q
  exact ⟨u, by subst e; exact e2, q2⟩⟩

/-- a store into the slot i -/
class Put {γ : Type} (G : EnvT γ) (i : Nat) (α : Type) [Rp α] {δ : outParam Type} (G' : outParam (EnvT δ)) (ψ : outParam (γ → α → δ)) : Prop where
  put : ∀ {K H0 F H σ g v a}, G.rel K H0 F H σ g → Rp.is K F v a → G'.rel K H0 F H (σ.set i (some v)) (ψ g a)
  own : ∀ {K H0 F H σ g p} {v : V}, G.rel K H0 F H σ g → p ∈ G'.own (σ.set i (some v)) → p ∈ G.own σ
instance {α β γ : Type} [Rp α] [Rp β] (G : EnvT γ) : Put (va β G) 0 α (va α G) (fun g a => (a, g.2)) := ⟨fun ⟨v, σ', e, _, q⟩ r => ⟨_, σ', by subst e; rfl, r, q⟩, fun ⟨v, σ', e, _, q⟩ h => by subst e; exact h⟩
instance {α γ : Type} [Rp α] (G : EnvT γ) : Put (un G) 0 α (va α G) (fun g a => (a, g)) := ⟨fun ⟨v, σ', e, q⟩ r => ⟨_, σ', by subst e; rfl, r, q⟩, fun ⟨v, σ', e, q⟩ h => by subst e; exact h⟩
instance {α β γ : Type} [Rp α] [Rp β] (G : EnvT γ) : Put (ow β G) 0 α (va α G) (fun g a => (a, g.2)) := ⟨fun ⟨p, σ', xs, e, _, _, _, _, _, _, q⟩ r => ⟨_, σ', by subst e; rfl, r, q⟩, fun ⟨p, σ', xs, e, _, _, _, _, _, _, q⟩ h => by subst e; exact List.mem_append_right _ h⟩
instance {α β γ δ : Type} [Rp α] [Rp β] (G : EnvT γ) (i : Nat) (G' : EnvT δ) (ψ : γ → α → δ) [P : Put G i α G' ψ] : Put (va β G) (i + 1) α (va β G') (fun g a => (g.1, ψ g.2 a)) :=
  ⟨fun ⟨v, σ', e, w, q⟩ r => ⟨v, σ'.set i _, by subst e; rfl, w, P.put q r⟩, fun ⟨v, σ', e, w, q⟩ h => by subst e; exact P.own q h⟩
instance {α γ δ : Type} [Rp α] (G : EnvT γ) (i : Nat) (G' : EnvT δ) (ψ : γ → α → δ) [P : Put G i α G' ψ] : Put (un G) (i + 1) α (un G') (fun g a => ψ g a) :=
  ⟨fun ⟨v, σ', e, q⟩ r => ⟨v, σ'.set i _, by subst e; rfl, P.put q r⟩, fun ⟨v, σ', e, q⟩ h => by subst e; exact P.own q h⟩
instance {α β γ δ : Type} [Rp α] [Rp β] (G : EnvT γ) (i : Nat) (G' : EnvT δ) (ψ : γ → α → δ) [P : Put G i α G' ψ] : Put (ow β G) (i + 1) α (ow β G') (fun g a => (g.1, ψ g.2 a)) :=
  ⟨fun ⟨p, σ', xs, e, h0, f, h, z, w, n, q⟩ r => ⟨p, σ'.set i _, xs, by subst e; rfl, h0, f, h, z, w, fun m => n (P.own q m), P.put q r⟩, fun ⟨p, σ', xs, e, _, _, _, _, _, _, q⟩ h => by
    subst e
    rcases List.mem_append.mp h with h | h
    · exact List.mem_append_left _ h
    · exact List.mem_append_right _ (P.own q h)⟩

/-! ### readings of expressions -/
/-- what a body's code stands in: the frozen heap and the heap at the def's entry, the wish of exceptions -/
structure C0 where
  F0 : Hp
  H0 : Hp
  W : WX
/-- an exception is wished -/
def ErP (K : PySem.W.Frag) (F H : Hp) (E : XK) (c : Str) (fs : List (Str × V)) : Prop := match fs with
  | [] => ∀ F' H', Wd F H F' H' → E (.ref (He.ga K c)) none H'
  | fs => ∀ F' H' d, Wd F H F' H' → H' d = none → E (.ref (He.ga K c)) (some d) (upd H' d (.xd fs))
theorem ErP.on {K : PySem.W.Frag} {F H F' H' : Hp} {E : XK} {c : Str} {fs : List (Str × V)} (h : ErP K F H E c fs) (w : Wd F H F' H') : ErP K F' H' E c fs := by
  cases fs with
  | nil => exact fun F2 H2 w2 => h F2 H2 (w.trans w2)
  | cons f fs => exact fun F2 H2 d w2 => h F2 H2 d (w.trans w2)
def Po {α : Type} [Rp α] (K : PySem.W.Frag) (F H : Hp) (Q : VK) (E : XK) (m : Xc α) : Prop := match m with
  | .ok a => ∀ v F' H', Wd F H F' H' → Rp.is K F' v a → Q v H'
  | .er c fs => ErP K F H E c fs
  | .no => False
def PoB (K : PySem.W.Frag) (F H : Hp) (Q : Bool → Hp → Prop) (E : XK) (m : Xc Bool) : Prop := match m with
  | .ok b => ∀ F' H', Wd F H F' H' → Q b H'
  | .er c fs => ErP K F H E c fs
  | .no => False
theorem Po.on {α : Type} [Rp α] {K : PySem.W.Frag} {F H F' H' : Hp} {Q : VK} {E : XK} {m : Xc α} (h : Po K F H Q E m) (w : Wd F H F' H') : Po K F' H' Q E m := by
  cases m with
  | ok a => exact fun v F2 H2 w2 r => h v F2 H2 (w.trans w2) r
  | er c fs => exact ErP.on h w
  | no => exact h
theorem PoB.on {K : PySem.W.Frag} {F H F' H' : Hp} {Q : Bool → Hp → Prop} {E : XK} {m : Xc Bool} (h : PoB K F H Q E m) (w : Wd F H F' H') : PoB K F' H' Q E m := by
  cases m with
  | ok a => exact fun F2 H2 w2 => h F2 H2 (w.trans w2)
  | er c fs => exact ErP.on h w
  | no => exact h
/-- from the mirror's first part on -/
theorem Po.bind {α β : Type} [Rp α] [Rp β] {K : PySem.W.Frag} {F H : Hp} {Q : VK} {E : XK} {m : Xc α} {k : α → Xc β} (h : Po K F H Q E (m.bind k)) : Po K F H (fun v H1 => ∃ a F1, m = .ok a ∧ Wd F H F1 H1 ∧ Rp.is K F1 v a ∧ Po K F1 H1 Q E (k a)) E m := by
  cases m with
  | ok a => exact fun v F1 H1 w r => ⟨a, F1, rfl, w, r, Po.on (show Po K F H Q E (k a) from h) w⟩
  | er c fs => exact h
  | no => exact h
theorem Po.bindB {α : Type} [Rp α] {K : PySem.W.Frag} {F H : Hp} {Q : Bool → Hp → Prop} {E : XK} {m : Xc α} {k : α → Xc Bool} (h : PoB K F H Q E (m.bind k)) : Po K F H (fun v H1 => ∃ a F1, m = .ok a ∧ Wd F H F1 H1 ∧ Rp.is K F1 v a ∧ PoB K F1 H1 Q E (k a)) E m := by
  cases m with
  | ok a => exact fun v F1 H1 w r => ⟨a, F1, rfl, w, r, PoB.on (show PoB K F H Q E (k a) from h) w⟩
  | er c fs => exact h
  | no => exact h
theorem PoB.bind {β : Type} [Rp β] {K : PySem.W.Frag} {F H : Hp} {Q : VK} {E : XK} {m : Xc Bool} {k : Bool → Xc β} (h : Po K F H Q E (m.bind k)) : PoB K F H (fun b H1 => ∃ F1, m = .ok b ∧ Wd F H F1 H1 ∧ Po K F1 H1 Q E (k b)) E m := by
  cases m with
  | ok a => exact fun F1 H1 w => ⟨F1, rfl, w, Po.on (show Po K F H Q E (k a) from h) w⟩
  | er c fs => exact h
  | no => exact h
theorem PoB.bindB {K : PySem.W.Frag} {F H : Hp} {Q : Bool → Hp → Prop} {E : XK} {m : Xc Bool} {k : Bool → Xc Bool} (h : PoB K F H Q E (m.bind k)) : PoB K F H (fun b H1 => ∃ F1, m = .ok b ∧ Wd F H F1 H1 ∧ PoB K F1 H1 Q E (k b)) E m := by
  cases m with
  | ok a => exact fun F1 H1 w => ⟨F1, rfl, w, PoB.on (show PoB K F H Q E (k a) from h) w⟩
  | er c fs => exact h
  | no => exact h
theorem Po.ret {α : Type} [Rp α] {K : PySem.W.Frag} {F H : Hp} {Q : VK} {E : XK} {v : V} {a : α} (h : Po K F H Q E (.ok a)) (s : Same F H) (r : Rp.is K F v a) : Q v H := h v F H (Wd.refl s) r
theorem PoB.ret {K : PySem.W.Frag} {F H : Hp} {Q : Bool → Hp → Prop} {E : XK} {b : Bool} (h : PoB K F H Q E (.ok b)) (s : Same F H) : Q b H := h F H (Wd.refl s)

section
variable {X : Cx} {c : C0} {γ α β ρ : Type} {G : EnvT γ} [Rp α] [Rp β] [Rp ρ]
def tF (K : PySem.W.Frag) (c : C0) (G : EnvT γ) (f : γ → Xc α) : TE := fun σ H Q => ∃ F g, Wd c.F0 c.H0 F H ∧ G.rel K c.H0 F H σ g ∧ Po K F H Q (WE c.W σ) (f g)
def tT (K : PySem.W.Frag) (c : C0) (G : EnvT γ) (f : γ → Xc Bool) : TT := fun σ H Q => ∃ F g, Wd c.F0 c.H0 F H ∧ G.rel K c.H0 F H σ g ∧ PoB K F H Q (WE c.W σ) (f g)
/-- the expression e computes f of what the slots hold -/
def FE (X : Cx) (c : C0) (G : EnvT γ) (e : Expr) (f : γ → Xc α) : Prop := PE X e (tF X.K c G f)
def FT (X : Cx) (c : C0) (G : EnvT γ) (e : Expr) (f : γ → Xc Bool) : Prop := PT X e (tT X.K c G f)
theorem PE.imp {e : Expr} {t t' : TE} (h : PE X e t) (i : ∀ σ H Q, t' σ H Q → t σ H Q) : PE X e t' := ⟨fun pins s σ H Q I q => h.run pins s σ H Q I (i σ H Q q)⟩
theorem PT.imp {e : Expr} {t t' : TT} (h : PT X e t) (i : ∀ σ H Q, t' σ H Q → t σ H Q) : PT X e t' := ⟨fun pins s σ H Q I q => h.run pins s σ H Q I (i σ H Q q)⟩
theorem FE.cast {e : Expr} {f f' : γ → Xc α} (h : FE X c G e f) (i : ∀ g, f' g = f g) : FE X c G e f' := by
  rw [show f' = f from funext i]; exact h
theorem FT.cast {e : Expr} {f f' : γ → Xc Bool} (h : FT X c G e f) (i : ∀ g, f' g = f g) : FT X c G e f' := by
  rw [show f' = f from funext i]; exact h

/-! names, constants -/
theorem fe_var {τ : Type} (i : Nat) {x : Str} {pos : Pos} {π : γ → τ} {r : Rp τ} [a : At G i τ r π] (hN : X.N[i]? = some x := by rfl) (hv : Vis X.env.scope x := by first | exact Or.inl rfl | exact Or.inr (Or.inl rfl) | exact Or.inr (Or.inr rfl))
    (hd : (x == ("__debug__" : Str)) = false := by decide) (hcd : (x == ("__classdict__" : Str)) = false := by decide) : FE X c G (.Name x pos) (fun g => Xc.ok (π g)) :=
  PE.imp (pe_var hN hv hd hcd) fun σ H Q ⟨F, g, w, q, h⟩ => by
    obtain ⟨v, e, z⟩ := a.get q
    exact ⟨v, e, h v F H (Wd.refl w.s) z⟩
theorem fe_int {i : Int} {j pos} : FE X c G (.Constant (.int i) j pos) (fun _ => .ok i) := PE.imp pe_int fun σ H Q ⟨F, g, w, q, h⟩ => h.ret w.s rfl
theorem fe_bl {b : Bool} {j pos} : FE X c G (.Constant (.bool b) j pos) (fun _ => .ok b) := PE.imp pe_bl fun σ H Q ⟨F, g, w, q, h⟩ => h.ret w.s rfl
theorem fe_str {x : Str} {j pos} (hx : x.length ≤ sizeLine := by decide +kernel) : FE X c G (.Constant (.str x) j pos) (fun _ => .ok x) := PE.imp pe_str fun σ H Q ⟨F, g, w, q, h⟩ => h.ret w.s ⟨rfl, hx⟩
theorem fe_none {j pos} : FE X c G (.Constant .none j pos) (fun _ => .ok ()) := PE.imp pe_non fun σ H Q ⟨F, g, w, q, h⟩ => h.ret w.s rfl
/-- a module's constant -/
theorem fe_gint {x : Str} {i : Int} {pos : Pos} (hm : ∃ t, X.mg x = some (.int i t)) (hg : Gl X x := by rfl) (hd : (x == ("__debug__" : Str)) = false := by decide) : FE X c G (.Name x pos) (fun _ => .ok i) := by
  obtain ⟨t, hm⟩ := hm
  exact PE.imp (pe_glob (v := .int i) hg hm ⟨t, rfl⟩ hd) fun σ H Q ⟨F, g, w, q, h⟩ => h.ret w.s rfl
theorem fe_gstr {x z : Str} {pos : Pos} (hm : ∃ t, X.mg x = some (.str z t)) (hz : z.length ≤ sizeLine := by decide +kernel) (hg : Gl X x := by rfl) (hd : (x == ("__debug__" : Str)) = false := by decide) : FE X c G (.Name x pos) (fun _ => .ok z) := by
  obtain ⟨t, hm⟩ := hm
  exact PE.imp (pe_glob (v := .str z) hg hm ⟨t, rfl⟩ hd) fun σ H Q ⟨F, g, w, q, h⟩ => h.ret w.s ⟨rfl, hz⟩

/-! two parts -/
theorem two {a b : Expr} {fa : γ → Xc α} {fb : γ → Xc β} {op : α → β → Xc ρ} {r : R2} {e : Expr} (h : ∀ {ta tb : TE}, PE X a ta → PE X b tb → PE X e (tOp r ta tb)) (ha : FE X c G a fa) (hb : FE X c G b fb)
    (hop : ∀ {F H x y i j Q E}, Same F H → Rp.is X.K F x i → Rp.is X.K F y j → Po X.K F H Q E (op i j) → r x y H Q) : FE X c G e (fun g => (fa g).bind fun i => (fb g).bind fun j => op i j) :=
  PE.imp (h ha hb) fun σ H Q ⟨F, g, w, q, p⟩ => by
    refine ⟨F, g, w, q, ?_⟩
    have p1 := Po.bind p
    revert p1
    cases e1 : fa g with
    | ok i =>
      intro p1 v F1 H1 w1 r1
      obtain ⟨i', _, e2, w1', r1', p2⟩ := p1 v F1 H1 w1 r1
      cases e2
      have p2 : Po X.K F H Q (WE c.W σ) ((fb g).bind fun j => op i j) := by simp only [e1] at p; exact p
      refine ⟨F1, g, w.trans w1, G.mono q w1, ?_⟩
      have p3 := Po.bind (p2.on w1)
      revert p3
      cases e3 : fb g with
      | ok j =>
        intro p3 u F2 H2 w2 r2
        obtain ⟨j', F2', e4, w2', r2', p4⟩ := p3 u F2 H2 w2 r2
        cases e4
        have p5 : Po X.K F H Q (WE c.W σ) (op i j) := by rw [e3] at p2; exact p2
        exact hop w2.s (Rp.mono w2.f r1) r2 (p5.on (w1.trans w2))
      | er c fs => exact fun p3 => p3
      | no => exact fun p3 => p3
    | er c fs => exact fun p1 => p1
    | no => exact fun p1 => p1
theorem twoT {a b : Expr} {fa : γ → Xc α} {fb : γ → Xc β} {op : α → β → Xc Bool} {r : R2} {e : Expr} (h : ∀ {ta tb : TE}, PE X a ta → PE X b tb → PT X e (tTest (tOp r ta tb))) (ha : FE X c G a fa) (hb : FE X c G b fb)
    (hop : ∀ {F H x y i j Q E}, Same F H → Rp.is X.K F x i → Rp.is X.K F y j → PoB X.K F H Q E (op i j) → r x y H (fun v H' => ∃ k, v = .bl k ∧ Q k H')) : FT X c G e (fun g => (fa g).bind fun i => (fb g).bind fun j => op i j) :=
  PT.imp (h ha hb) fun σ H Q ⟨F, g, w, q, p⟩ => by
    refine ⟨F, g, w, q, ?_⟩
    cases e1 : fa g with
    | ok i =>
      intro v F1 H1 w1 r1
      have p2 : PoB X.K F H Q (WE c.W σ) ((fb g).bind fun j => op i j) := by simp only [e1] at p; exact p
      refine ⟨F1, g, w.trans w1, G.mono q w1, ?_⟩
      cases e3 : fb g with
      | ok j =>
        intro u F2 H2 w2 r2
        have p5 : PoB X.K F H Q (WE c.W σ) (op i j) := by rw [e3] at p2; exact p2
        exact hop w2.s (Rp.mono w2.f r1) r2 (p5.on (w1.trans w2))
      | er c' fs => rw [e3] at p2; exact ErP.on (show ErP X.K F H (WE c.W σ) c' fs from p2) w1
      | no => rw [e3] at p2; exact p2
    | er c' fs => simp only [e1] at p; exact p
    | no => simp only [e1] at p; exact p
/-- one part -/
theorem one {a e : Expr} {fa : γ → Xc α} {op : α → Xc ρ} {r : V → Hp → VK → Prop} (h : ∀ {ta : TE}, PE X a ta → PE X e (tUn r ta)) (ha : FE X c G a fa)
    (hop : ∀ {F H x i Q E}, Same F H → Rp.is X.K F x i → Po X.K F H Q E (op i) → r x H Q) : FE X c G e (fun g => (fa g).bind fun i => op i) :=
  PE.imp (h ha) fun σ H Q ⟨F, g, w, q, p⟩ => by
    refine ⟨F, g, w, q, ?_⟩
    cases e1 : fa g with
    | ok i =>
      intro v F1 H1 w1 r1
      have p2 : Po X.K F H Q (WE c.W σ) (op i) := by simp only [e1] at p; exact p
      exact hop w1.s r1 (p2.on w1)
    | er c' fs => simp only [e1] at p; exact p
    | no => simp only [e1] at p; exact p
end
end FL

/-! FL2: operators, comparisons, tests, displays, subscripts, texts, built-in calls. -/
namespace FL
open PySem L2
/-! ### ints -/
def MulC (i j : Int) : Prop := i.natAbs < 2 ^ 64 ∨ j.natAbs < 2 ^ 64 ∨ i.natAbs.log2 + j.natAbs.log2 < 1000000
instance (i j : Int) : Decidable (MulC i j) := by unfold MulC; infer_instance
theorem MulC.ok {i j : Int} (h : MulC i j) : PySem.IntMulOk i j := by
  rcases h with h | h | h
  · exact CMul.ok (.inl (by omega))
  · exact CMul.ok (.inr (by omega))
  · exact CMulW.ok h
theorem op_mulZ {X : Cx} : OpR X (binaryOp .Mult) (rI MulC fun i j => .int (i * j)) := opI fun _ _ _ _ _ _ _ hc q => PyProof.Rows.mul_int q hc.ok
@[irreducible] def mulX (i j : Int) : Xc Int := if MulC i j then .ok (i * j) else .no
@[irreducible] def fdvX (i j : Int) : Xc Int := if j ≠ 0 ∧ j.natAbs.log2 < 9000 then .ok (i.fdiv j) else .no
@[irreducible] def modX (i j : Int) : Xc Int := if j ≠ 0 then .ok (i.fmod j) else .no
@[irreducible] def powX (i j : Int) : Xc Int := if 0 ≤ j ∧ j ≤ 1000000 ∧ i.natAbs < 2 ^ 64 then .ok (i ^ j.toNat) else .no
theorem op_fdivZ {X : Cx} : OpR X (binaryOp .FloorDiv) (rI (fun _ j => j ≠ 0 ∧ j.natAbs.log2 < 9000) fun i j => .int (i.fdiv j)) := opI fun i j _ _ _ _ _ hc q =>
  PyProof.Rows.floordiv_int hc.1 q (.inl (PyProof.noPylong_of_log2 hc.2))
section
variable {X : Cx} {c : C0} {γ α β ρ : Type} {G : EnvT γ} [Rp α] [Rp β] [Rp ρ] {a b e : Expr} {pos : Pos} {fi fj : γ → Xc Int}
theorem fe_add (ha : FE X c G a fi) (hb : FE X c G b fj) : FE X c G (.BinOp a .Add b pos) (fun g => (fi g).bind fun i => (fj g).bind fun j => Xc.ok (i + j)) :=
  two (fun h1 h2 => pe_op op_add h1 h2) ha hb fun s r1 r2 p => ⟨_, _, r1, r2, p.ret s rfl⟩
theorem fe_sub (ha : FE X c G a fi) (hb : FE X c G b fj) : FE X c G (.BinOp a .Sub b pos) (fun g => (fi g).bind fun i => (fj g).bind fun j => Xc.ok (i - j)) :=
  two (fun h1 h2 => pe_op op_sub h1 h2) ha hb fun s r1 r2 p => ⟨_, _, r1, r2, p.ret s rfl⟩
theorem fe_mul (ha : FE X c G a fi) (hb : FE X c G b fj) : FE X c G (.BinOp a .Mult b pos) (fun g => (fi g).bind fun i => (fj g).bind fun j => mulX i j) :=
  two (fun h1 h2 => pe_op op_mulZ h1 h2) ha hb fun {F H x y i j Q E} s r1 r2 p => by
    unfold mulX at p
    by_cases h : MulC i j
    · rw [if_pos h] at p; exact ⟨_, _, r1, r2, h, p.ret s rfl⟩
    · rw [if_neg h] at p; exact p.elim
theorem fe_fdv (ha : FE X c G a fi) (hb : FE X c G b fj) : FE X c G (.BinOp a .FloorDiv b pos) (fun g => (fi g).bind fun i => (fj g).bind fun j => fdvX i j) :=
  two (fun h1 h2 => pe_op op_fdivZ h1 h2) ha hb fun {F H x y i j Q E} s r1 r2 p => by
    unfold fdvX at p
    by_cases h : j ≠ 0 ∧ j.natAbs.log2 < 9000
    · rw [if_pos h] at p; exact ⟨_, _, r1, r2, h, p.ret s rfl⟩
    · rw [if_neg h] at p; exact p.elim
theorem fe_mod (ha : FE X c G a fi) (hb : FE X c G b fj) : FE X c G (.BinOp a .Mod b pos) (fun g => (fi g).bind fun i => (fj g).bind fun j => modX i j) :=
  two (fun h1 h2 => pe_op op_modN h1 h2) ha hb fun {F H x y i j Q E} s r1 r2 p => by
    unfold modX at p
    by_cases h : j ≠ 0
    · rw [if_pos h] at p; exact ⟨_, _, r1, r2, h, p.ret s rfl⟩
    · rw [if_neg h] at p; exact p.elim
theorem fe_pow (ha : FE X c G a fi) (hb : FE X c G b fj) : FE X c G (.BinOp a .Pow b pos) (fun g => (fi g).bind fun i => (fj g).bind fun j => powX i j) :=
  two (fun h1 h2 => pe_op op_pow h1 h2) ha hb fun {F H x y i j Q E} s r1 r2 p => by
    unfold powX at p
    by_cases h : 0 ≤ j ∧ j ≤ 1000000 ∧ i.natAbs < 2 ^ 64
    · rw [if_pos h] at p; exact ⟨_, _, r1, r2, h, p.ret s rfl⟩
    · rw [if_neg h] at p; exact p.elim
theorem fe_neg (ha : FE X c G a fi) : FE X c G (.UnaryOp .USub a pos) (fun g => (fi g).bind fun i => Xc.ok (-i)) :=
  one (fun h => pe_un un_neg h) ha fun s r p => ⟨_, r, p.ret s rfl⟩

/-! comparisons of ints -/
theorem fe_lt (ha : FE X c G a fi) (hb : FE X c G b fj) : FE X c G (.Compare a [.Lt] [b] pos) (fun g => (fi g).bind fun i => (fj g).bind fun j => Xc.ok (decide (i < j))) :=
  two (fun h1 h2 => pe_cmpR op_lt h1 h2 (nomark _)) ha hb fun s r1 r2 p => ⟨_, _, r1, r2, p.ret s rfl⟩
theorem fe_le (ha : FE X c G a fi) (hb : FE X c G b fj) : FE X c G (.Compare a [.LtE] [b] pos) (fun g => (fi g).bind fun i => (fj g).bind fun j => Xc.ok (decide (i ≤ j))) :=
  two (fun h1 h2 => pe_cmpR op_le h1 h2 (nomark _)) ha hb fun s r1 r2 p => ⟨_, _, r1, r2, p.ret s rfl⟩
theorem fe_gt (ha : FE X c G a fi) (hb : FE X c G b fj) : FE X c G (.Compare a [.Gt] [b] pos) (fun g => (fi g).bind fun i => (fj g).bind fun j => Xc.ok (decide (j < i))) :=
  two (fun h1 h2 => pe_cmpR op_gt h1 h2 (nomark _)) ha hb fun s r1 r2 p => ⟨_, _, r1, r2, p.ret s rfl⟩
theorem fe_ge (ha : FE X c G a fi) (hb : FE X c G b fj) : FE X c G (.Compare a [.GtE] [b] pos) (fun g => (fi g).bind fun i => (fj g).bind fun j => Xc.ok (decide (j ≤ i))) :=
  two (fun h1 h2 => pe_cmpR op_ge h1 h2 (nomark _)) ha hb fun s r1 r2 p => ⟨_, _, r1, r2, p.ret s rfl⟩
theorem ft_lt (ha : FE X c G a fi) (hb : FE X c G b fj) : FT X c G (.Compare a [.Lt] [b] pos) (fun g => (fi g).bind fun i => (fj g).bind fun j => Xc.ok (decide (i < j))) :=
  twoT (fun h1 h2 => pt_cmpR op_lt h1 h2 (nomark _)) ha hb fun s r1 r2 p => ⟨_, _, r1, r2, _, rfl, p.ret s⟩
theorem ft_le (ha : FE X c G a fi) (hb : FE X c G b fj) : FT X c G (.Compare a [.LtE] [b] pos) (fun g => (fi g).bind fun i => (fj g).bind fun j => Xc.ok (decide (i ≤ j))) :=
  twoT (fun h1 h2 => pt_cmpR op_le h1 h2 (nomark _)) ha hb fun s r1 r2 p => ⟨_, _, r1, r2, _, rfl, p.ret s⟩
theorem ft_gt (ha : FE X c G a fi) (hb : FE X c G b fj) : FT X c G (.Compare a [.Gt] [b] pos) (fun g => (fi g).bind fun i => (fj g).bind fun j => Xc.ok (decide (j < i))) :=
  twoT (fun h1 h2 => pt_cmpR op_gt h1 h2 (nomark _)) ha hb fun s r1 r2 p => ⟨_, _, r1, r2, _, rfl, p.ret s⟩
theorem ft_ge (ha : FE X c G a fi) (hb : FE X c G b fj) : FT X c G (.Compare a [.GtE] [b] pos) (fun g => (fi g).bind fun i => (fj g).bind fun j => Xc.ok (decide (j ≤ i))) :=
  twoT (fun h1 h2 => pt_cmpR op_ge h1 h2 (nomark _)) ha hb fun s r1 r2 p => ⟨_, _, r1, r2, _, rfl, p.ret s⟩
end

/-! ### equality of scalars -/
class ScalR (α : Type) [Rp α] where
  dec : DecidableEq α
  toV : α → V
  eq : ∀ {K F v} {a : α}, Rp.is K F v a → v = toV a
  sc : ∀ a b : α, scal (toV a) (toV b) = true
  inj : ∀ a b : α, toV a = toV b → a = b
instance : ScalR Int := ⟨inferInstance, .int, fun h => h, fun _ _ => rfl, fun _ _ h => V.int.inj h⟩
instance : ScalR Bool := ⟨inferInstance, .bl, fun h => h, fun _ _ => rfl, fun _ _ h => V.bl.inj h⟩
instance : ScalR Str := ⟨inferInstance, .str, fun h => h.1, fun _ _ => rfl, fun _ _ h => V.str.inj h⟩
instance instDecScal {α : Type} [Rp α] [s : ScalR α] : DecidableEq α := s.dec
section
variable {X : Cx} {c : C0} {γ α β ρ : Type} {G : EnvT γ} [Rp α] [Rp β] [Rp ρ] {a b e : Expr} {pos : Pos}
theorem dec_scal [s : ScalR α] (a b : α) : decide (ScalR.toV a = ScalR.toV b) = (@decide (a = b) (s.dec a b)) := by
  by_cases h : a = b
  · subst h; simp
  · have h2 : ¬ ScalR.toV a = ScalR.toV b := fun e => h (ScalR.inj _ _ e)
    rw [decide_eq_false h2, decide_eq_false h]
theorem fe_eq [s : ScalR α] {fa fb : γ → Xc α} (ha : FE X c G a fa) (hb : FE X c G b fb) : FE X c G (.Compare a [.Eq] [b] pos) (fun g => (fa g).bind fun i => (fb g).bind fun j => Xc.ok (@decide (i = j) (s.dec i j))) :=
  two (fun h1 h2 => pe_cmpR op_eq h1 h2 (nomark _)) ha hb fun {F H x y i j Q E} z r1 r2 p => by
    rw [ScalR.eq r1, ScalR.eq r2]
    exact ⟨ScalR.sc i j, by rw [dec_scal]; exact p.ret z rfl⟩
theorem fe_ne [s : ScalR α] {fa fb : γ → Xc α} (ha : FE X c G a fa) (hb : FE X c G b fb) : FE X c G (.Compare a [.NotEq] [b] pos) (fun g => (fa g).bind fun i => (fb g).bind fun j => Xc.ok (!@decide (i = j) (s.dec i j))) :=
  two (fun h1 h2 => pe_cmpR op_ne h1 h2 (nomark _)) ha hb fun {F H x y i j Q E} z r1 r2 p => by
    rw [ScalR.eq r1, ScalR.eq r2]
    exact ⟨ScalR.sc i j, by rw [dec_scal]; exact p.ret z rfl⟩
theorem ft_eq [s : ScalR α] {fa fb : γ → Xc α} (ha : FE X c G a fa) (hb : FE X c G b fb) : FT X c G (.Compare a [.Eq] [b] pos) (fun g => (fa g).bind fun i => (fb g).bind fun j => Xc.ok (@decide (i = j) (s.dec i j))) :=
  twoT (fun h1 h2 => pt_cmpR op_eq h1 h2 (nomark _)) ha hb fun {F H x y i j Q E} z r1 r2 p => by
    rw [ScalR.eq r1, ScalR.eq r2]
    exact ⟨ScalR.sc i j, _, rfl, by rw [dec_scal]; exact p.ret z⟩
theorem ft_ne [s : ScalR α] {fa fb : γ → Xc α} (ha : FE X c G a fa) (hb : FE X c G b fb) : FT X c G (.Compare a [.NotEq] [b] pos) (fun g => (fa g).bind fun i => (fb g).bind fun j => Xc.ok (!@decide (i = j) (s.dec i j))) :=
  twoT (fun h1 h2 => pt_cmpR op_ne h1 h2 (nomark _)) ha hb fun {F H x y i j Q E} z r1 r2 p => by
    rw [ScalR.eq r1, ScalR.eq r2]
    exact ⟨ScalR.sc i j, _, rfl, by rw [dec_scal]; exact p.ret z⟩

/-! ### None -/
theorem opt_non {K : PySem.W.Frag} {F : Hp} {v : V} {o : Option α} (h : Rp.is K F v o) : decide (v = .non) = o.isNone := by
  cases o with
  | none => have h : v = .non := h; subst h; rfl
  | some a => have h : v ≠ .non := h.1; simp [h]
theorem fe_isN {fa : γ → Xc (Option α)} {j p} (ha : FE X c G a fa) : FE X c G (.Compare a [.Is] [.Constant .none j p] pos) (fun g => (fa g).bind fun i => Xc.ok i.isNone) :=
  PE.imp (pe_cmpR op_isN ha pe_non (nomark _)) fun σ H Q ⟨F, g, w, q, h⟩ => by
    refine ⟨F, g, w, q, ?_⟩
    cases e1 : fa g with
    | ok i => intro v F1 H1 w1 r1; simp only [e1] at h; exact ⟨rfl, by rw [opt_non r1]; exact (Po.on h w1).ret w1.s rfl⟩
    | er c' fs => simp only [e1] at h; exact h
    | no => simp only [e1] at h; exact h
theorem fe_notN {fa : γ → Xc (Option α)} {j p} (ha : FE X c G a fa) : FE X c G (.Compare a [.IsNot] [.Constant .none j p] pos) (fun g => (fa g).bind fun i => Xc.ok (!i.isNone)) :=
  PE.imp (pe_cmpR op_notN ha pe_non (nomark _)) fun σ H Q ⟨F, g, w, q, h⟩ => by
    refine ⟨F, g, w, q, ?_⟩
    cases e1 : fa g with
    | ok i => intro v F1 H1 w1 r1; simp only [e1] at h; exact ⟨rfl, by rw [opt_non r1]; exact (Po.on h w1).ret w1.s rfl⟩
    | er c' fs => simp only [e1] at h; exact h
    | no => simp only [e1] at h; exact h
theorem ft_isN {fa : γ → Xc (Option α)} {j p} (ha : FE X c G a fa) : FT X c G (.Compare a [.Is] [.Constant .none j p] pos) (fun g => (fa g).bind fun i => Xc.ok i.isNone) :=
  PT.imp (pt_cmpR op_isN ha pe_non (nomark _)) fun σ H Q ⟨F, g, w, q, h⟩ => by
    refine ⟨F, g, w, q, ?_⟩
    cases e1 : fa g with
    | ok i => intro v F1 H1 w1 r1; simp only [e1] at h; exact ⟨rfl, _, rfl, by rw [opt_non r1]; exact (PoB.on h w1).ret w1.s⟩
    | er c' fs => simp only [e1] at h; exact h
    | no => simp only [e1] at h; exact h
theorem ft_notN {fa : γ → Xc (Option α)} {j p} (ha : FE X c G a fa) : FT X c G (.Compare a [.IsNot] [.Constant .none j p] pos) (fun g => (fa g).bind fun i => Xc.ok (!i.isNone)) :=
  PT.imp (pt_cmpR op_notN ha pe_non (nomark _)) fun σ H Q ⟨F, g, w, q, h⟩ => by
    refine ⟨F, g, w, q, ?_⟩
    cases e1 : fa g with
    | ok i => intro v F1 H1 w1 r1; simp only [e1] at h; exact ⟨rfl, _, rfl, by rw [opt_non r1]; exact (PoB.on h w1).ret w1.s⟩
    | er c' fs => simp only [e1] at h; exact h
    | no => simp only [e1] at h; exact h
/-- a value known to be there -/
def someX {α : Type} (o : Option α) : Xc α := match o with
  | some a => .ok a
  | none => .no
theorem fe_some {fa : γ → Xc (Option α)} (ha : FE X c G a fa) : FE X c G a (fun g => (fa g).bind someX) :=
  PE.imp ha fun σ H Q ⟨F, g, w, q, h⟩ => by
    refine ⟨F, g, w, q, ?_⟩
    cases e1 : fa g with
    | ok i =>
      simp only [e1] at h
      cases i with
      | none => exact h.elim
      | some i => intro v F1 H1 w1 r1; exact h v F1 H1 w1 r1.2
    | er c' fs => simp only [e1] at h; exact h
    | no => simp only [e1] at h; exact h
/-- a value as one that may be there -/
class NotNone (α : Type) [Rp α] : Prop where
  ne : ∀ {K F v} {a : α}, Rp.is K F v a → v ≠ .non
instance : NotNone Int := ⟨fun h => by have h : _ = V.int _ := h; subst h; intro z; cases z⟩
instance : NotNone Bool := ⟨fun h => by have h : _ = V.bl _ := h; subst h; intro z; cases z⟩
instance : NotNone Str := ⟨fun h => by have h : _ = V.str _ := h.1; subst h; intro z; cases z⟩
instance {α : Type} [Rp α] : NotNone (List α) := ⟨fun ⟨p, xs, h, _⟩ => by subst h; intro z; cases z⟩
instance {α : Type} [Rp α] : NotNone (Tu α) := ⟨fun ⟨p, xs, h, _⟩ => by subst h; intro z; cases z⟩
instance {α β : Type} [Rp α] [Rp β] : NotNone (α × β) := ⟨fun ⟨p, x, y, h, _⟩ => by subst h; intro z; cases z⟩
instance {α β γ : Type} [Rp α] [Rp β] [Rp γ] : NotNone (T3 α β γ) := ⟨fun ⟨p, x, y, _, h, _⟩ => by subst h; intro z; cases z⟩
instance {α β γ δ : Type} [Rp α] [Rp β] [Rp γ] [Rp δ] : NotNone (T4 α β γ δ) := ⟨fun ⟨p, x, y, _, _, h, _⟩ => by subst h; intro z; cases z⟩
theorem fe_opt [NotNone α] {fa : γ → Xc α} (ha : FE X c G a fa) : FE X c G a (fun g => (fa g).bind fun i => Xc.ok (some i)) :=
  PE.imp ha fun σ H Q ⟨F, g, w, q, h⟩ => by
    refine ⟨F, g, w, q, ?_⟩
    cases e1 : fa g with
    | ok i => simp only [e1] at h; exact fun v F1 H1 w1 r1 => h v F1 H1 w1 ⟨NotNone.ne r1, r1⟩
    | er c' fs => simp only [e1] at h; exact h
    | no => simp only [e1] at h; exact h
theorem fe_nopt {fa : γ → Xc Unit} (ha : FE X c G a fa) : FE X c G a (fun g => (fa g).bind fun _ => Xc.ok (none : Option α)) :=
  PE.imp ha fun σ H Q ⟨F, g, w, q, h⟩ => by
    refine ⟨F, g, w, q, ?_⟩
    cases e1 : fa g with
    | ok i => simp only [e1] at h; exact fun v F1 H1 w1 r1 => h v F1 H1 w1 r1
    | er c' fs => simp only [e1] at h; exact h
    | no => simp only [e1] at h; exact h

/-! ### tests -/
variable {rest : List Expr} {fa fb : γ → Xc Bool}
theorem ft_val (ha : FE X c G a fa) (he : ∀ whole, isTrue a X.env whole = (do let v ← whole; standAt a.pos; holding [v] (truthy v)) := by intro _; rfl) : FT X c G a fa :=
  PT.imp (pt_val ha he) fun σ H Q ⟨F, g, w, q, h⟩ => by
    refine ⟨F, g, w, q, ?_⟩
    cases e1 : fa g with
    | ok i => intro v F1 H1 w1 r1; rw [e1] at h; exact ⟨i, r1, h F1 H1 w1⟩
    | er c' fs => rw [e1] at h; exact h
    | no => rw [e1] at h; exact h
theorem ft_not (ha : FT X c G a fa) : FT X c G (.UnaryOp .Not a pos) (fun g => (fa g).bind fun i => Xc.ok (!i)) :=
  PT.imp (pt_not ha) fun σ H Q ⟨F, g, w, q, h⟩ => by
    refine ⟨F, g, w, q, ?_⟩
    cases e1 : fa g with
    | ok i => intro F1 H1 w1; simp only [e1] at h; exact h F1 H1 w1
    | er c' fs => simp only [e1] at h; exact h
    | no => simp only [e1] at h; exact h
/-- a test in a chain of and, or -/
def FW (X : Cx) (c : C0) (G : EnvT γ) (e : Expr) (f : γ → Xc Bool) : Prop := PW X e (tT X.K c G f)
theorem ft_w (h : FW X c G e fa) : FT X c G e fa := PW.pt h
theorem fw_and1 (ha : FT X c G a fa) : FW X c G (.BoolOp .And [a] pos) fa := pw_and1 ha
theorem fw_or1 (ha : FT X c G a fa) : FW X c G (.BoolOp .Or [a] pos) fa := pw_or1 ha
theorem PW.imp {e : Expr} {t t' : TT} (h : PW X e t) (i : ∀ σ H Q, t' σ H Q → t σ H Q) : PW X e t' := ⟨fun wh pins s σ H Q I q => h.run wh pins s σ H Q I (i σ H Q q)⟩
theorem fw_and (ha : FT X c G a fa) (hb : FW X c G (.BoolOp .And (b :: rest) pos) fb) : FW X c G (.BoolOp .And (a :: b :: rest) pos) (fun g => (fa g).bind fun i => if i = true then fb g else Xc.ok false) :=
  PW.imp (pw_and ha hb) fun σ H Q ⟨F, g, w, q, h⟩ => by
    refine ⟨F, g, w, q, ?_⟩
    cases e1 : fa g with
    | ok i =>
      intro F1 H1 w1
      simp only [e1] at h
      cases i with
      | true => exact iteT ⟨F1, g, w.trans w1, G.mono q w1, PoB.on h w1⟩
      | false => exact iteF ((PoB.on h w1).ret w1.s)
    | er c' fs => simp only [e1] at h; exact h
    | no => simp only [e1] at h; exact h
theorem fw_or (ha : FT X c G a fa) (hb : FW X c G (.BoolOp .Or (b :: rest) pos) fb) : FW X c G (.BoolOp .Or (a :: b :: rest) pos) (fun g => (fa g).bind fun i => if i = true then Xc.ok true else fb g) :=
  PW.imp (pw_or ha hb) fun σ H Q ⟨F, g, w, q, h⟩ => by
    refine ⟨F, g, w, q, ?_⟩
    cases e1 : fa g with
    | ok i =>
      intro F1 H1 w1
      simp only [e1] at h
      cases i with
      | true => exact iteT ((PoB.on h w1).ret w1.s)
      | false => exact iteF ⟨F1, g, w.trans w1, G.mono q w1, PoB.on h w1⟩
    | er c' fs => simp only [e1] at h; exact h
    | no => simp only [e1] at h; exact h
/-- .. as values -/
theorem fe_one {op} (h : FE X c G a fa) : FE X c G (.BoolOp op [a] pos) fa := pe_one h
theorem fe_and (ha : FE X c G a fa) (hb : FE X c G (.BoolOp .And (b :: rest) pos) fb) : FE X c G (.BoolOp .And (a :: b :: rest) pos) (fun g => (fa g).bind fun i => if i = true then fb g else Xc.ok false) :=
  PE.imp (pe_and ha hb) fun σ H Q ⟨F, g, w, q, h⟩ => by
    refine ⟨F, g, w, q, ?_⟩
    cases e1 : fa g with
    | ok i =>
      intro v F1 H1 w1 r1
      simp only [e1] at h
      refine ⟨i, r1, ?_⟩
      cases i with
      | true => exact iteT ⟨F1, g, w.trans w1, G.mono q w1, Po.on h w1⟩
      | false => exact iteF ((Po.on h w1).ret w1.s rfl)
    | er c' fs => simp only [e1] at h; exact h
    | no => simp only [e1] at h; exact h
theorem fe_or (ha : FE X c G a fa) (hb : FE X c G (.BoolOp .Or (b :: rest) pos) fb) : FE X c G (.BoolOp .Or (a :: b :: rest) pos) (fun g => (fa g).bind fun i => if i = true then Xc.ok true else fb g) :=
  PE.imp (pe_or ha hb) fun σ H Q ⟨F, g, w, q, h⟩ => by
    refine ⟨F, g, w, q, ?_⟩
    cases e1 : fa g with
    | ok i =>
      intro v F1 H1 w1 r1
      simp only [e1] at h
      refine ⟨i, r1, ?_⟩
      cases i with
      | true => exact iteT ((Po.on h w1).ret w1.s rfl)
      | false => exact iteF ⟨F1, g, w.trans w1, G.mono q w1, Po.on h w1⟩
    | er c' fs => simp only [e1] at h; exact h
    | no => simp only [e1] at h; exact h
theorem fe_not (ha : FE X c G a fa) : FE X c G (.UnaryOp .Not a pos) (fun g => (fa g).bind fun i => Xc.ok (!i)) :=
  PE.imp (pe_not ha) fun σ H Q ⟨F, g, w, q, h⟩ => by
    refine ⟨F, g, w, q, ?_⟩
    cases e1 : fa g with
    | ok i => intro v F1 H1 w1 r1; simp only [e1] at h; exact ⟨i, r1, (Po.on h w1).ret w1.s rfl⟩
    | er c' fs => simp only [e1] at h; exact h
    | no => simp only [e1] at h; exact h
theorem fe_if {t : Expr} {ft : γ → Xc Bool} {f1 f2 : γ → Xc α} (ht : FT X c G t ft) (ha : FE X c G a f1) (hb : FE X c G b f2) : FE X c G (.IfExp t a b pos) (fun g => (ft g).bind fun i => if i = true then f1 g else f2 g) :=
  PE.imp (pe_ifExp ht ha hb) fun σ H Q ⟨F, g, w, q, h⟩ => by
    refine ⟨F, g, w, q, ?_⟩
    cases e1 : ft g with
    | ok i =>
      intro F1 H1 w1
      simp only [e1] at h
      cases i with
      | true => exact iteT ⟨F1, g, w.trans w1, G.mono q w1, Po.on h w1⟩
      | false => exact iteF ⟨F1, g, w.trans w1, G.mono q w1, Po.on h w1⟩
    | er c' fs => simp only [e1] at h; exact h
    | no => simp only [e1] at h; exact h
end
end FL

/-! FL3: arguments, displays, lists of one's own, subscripts, slices, texts, built-in calls. -/
namespace FL
open PySem L2
/-! ### arguments -/
class Rps (αs : Type) where
  isL : PySem.W.Frag → Hp → List V → αs → Prop
  mono : ∀ {K F F' vs as}, Same F F' → isL K F vs as → isL K F' vs as
instance : Rps Unit := ⟨fun _ _ vs _ => vs = [], fun _ h => h⟩
instance {α αs : Type} [Rp α] [Rps αs] : Rps (α × αs) := ⟨fun K F vs a => ∃ v r, vs = v :: r ∧ Rp.is K F v a.1 ∧ Rps.isL K F r a.2, fun s ⟨v, r, e, h, t⟩ => ⟨v, r, e, Rp.mono s h, Rps.mono s t⟩⟩
def PoA {αs : Type} [Rps αs] (K : PySem.W.Frag) (F H : Hp) (Q : List V → Hp → Prop) (E : XK) (m : Xc αs) : Prop := match m with
  | .ok a => ∀ vs F' H', Wd F H F' H' → Rps.isL K F' vs a → Q vs H'
  | .er c fs => ErP K F H E c fs
  | .no => False
theorem PoA.on {αs : Type} [Rps αs] {K : PySem.W.Frag} {F H F' H' : Hp} {Q : List V → Hp → Prop} {E : XK} {m : Xc αs} (h : PoA K F H Q E m) (w : Wd F H F' H') : PoA K F' H' Q E m := by
  cases m with
  | ok a => exact fun v F2 H2 w2 r => h v F2 H2 (w.trans w2) r
  | er c fs => exact ErP.on h w
  | no => exact h
/-- what a list of one's own gives: a new list, not frozen -/
def PoO {α : Type} [Rp α] (K : PySem.W.Frag) (F H : Hp) (Q : VK) (E : XK) (m : Xc (List α)) : Prop := match m with
  | .ok l => ∀ p xs F' H', Wd F H F' H' → H p = none → F' p = none → H' p = some (.lst xs) → l.length ≤ sizeLine → Al K F' xs l → Q (.ref p) H'
  | .er c fs => ErP K F H E c fs
  | .no => False
theorem PoO.on {α : Type} [Rp α] {K : PySem.W.Frag} {F H F' H' : Hp} {Q : VK} {E : XK} {m : Xc (List α)} (h : PoO K F H Q E m) (w : Wd F H F' H') : PoO K F' H' Q E m := by
  cases m with
  | ok a => exact fun p xs F2 H2 w2 n => h p xs F2 H2 (w.trans w2) (w.h.free n)
  | er c fs => exact ErP.on h w
  | no => exact h
/-- to freeze a list -/
theorem Wd.fz {F H F' H' : Hp} {p : Addr} {xs : List V} (w : Wd F H F' H') (n : H p = none) (f : F' p = none) (h : H' p = some (.lst xs)) : Wd F H (upd F' p (.lst xs)) H' :=
  ⟨w.f.trans (same_new f), w.h, fun b u e => by
    by_cases q : b = p
    · subst q; rw [upd_same] at e; rw [h]; exact e
    · rw [upd_ne q] at e; exact w.s b u e, fun b h' e => by
    by_cases q : b = p
    · subst q; exact n
    · rw [upd_ne q] at h'; exact w.n b h' e⟩
theorem Wd.ns {F H F' H' : Hp} (w : Wd F H F' H') (s : Same F H) {p : Addr} (n : H p = none) : F p = none := s.free n
section
variable {X : Cx} {c : C0} {γ α β δ αs : Type} {G : EnvT γ} [Rp α] [Rp β] [Rp δ] [Rps αs] {a b e : Expr} {pos : Pos} {es : List Expr}
def tA (K : PySem.W.Frag) (c : C0) (G : EnvT γ) (f : γ → Xc αs) : TA := fun σ H Q => ∃ F g, Wd c.F0 c.H0 F H ∧ G.rel K c.H0 F H σ g ∧ PoA K F H Q (WE c.W σ) (f g)
def FA (X : Cx) (c : C0) (G : EnvT γ) (es : List Expr) (f : γ → Xc αs) : Prop := PA X es (tA X.K c G f)
def tO (K : PySem.W.Frag) (c : C0) (G : EnvT γ) (f : γ → Xc (List α)) : TE := fun σ H Q => ∃ F g, Wd c.F0 c.H0 F H ∧ G.rel K c.H0 F H σ g ∧ PoO K F H Q (WE c.W σ) (f g)
/-- e computes a list that is new and one's own -/
def FO (X : Cx) (c : C0) (G : EnvT γ) (e : Expr) (f : γ → Xc (List α)) : Prop := PE X e (tO X.K c G f)
theorem PA.imp {t t' : TA} (h : PA X es t) (i : ∀ σ H Q, t' σ H Q → t σ H Q) : PA X es t' := ⟨fun pos pins s σ H Q I q => h.run pos pins s σ H Q I (i σ H Q q)⟩
theorem fa_nil : FA X c G [] (fun _ => Xc.ok ()) := PA.imp pa_nil fun σ H Q ⟨F, g, w, q, h⟩ => h [] F H (Wd.refl w.s) rfl
theorem fa_cons {f : γ → Xc α} {fs : γ → Xc αs} (ha : FE X c G e f) (hr : FA X c G es fs) (hs : starEach (e :: es) X.env = (false, eval e X.env) :: starEach es X.env := by rfl) :
    FA X c G (e :: es) (fun g => (f g).bind fun i => (fs g).bind fun r => Xc.ok (i, r)) :=
  PA.imp (pa_cons ha hr hs) fun σ H Q ⟨F, g, w, q, h⟩ => by
    refine ⟨F, g, w, q, ?_⟩
    cases e1 : f g with
    | ok i =>
      intro v F1 H1 w1 r1
      simp only [e1] at h
      have h : PoA X.K F H Q (WE c.W σ) ((fs g).bind fun r => Xc.ok (i, r)) := h
      refine ⟨F1, g, w.trans w1, G.mono q w1, ?_⟩
      cases e2 : fs g with
      | ok r =>
        intro vs F2 H2 w2 r2
        simp only [e2] at h
        exact h (v :: vs) F2 H2 (w1.trans w2) ⟨v, vs, rfl, Rp.mono w2.f r1, r2⟩
      | er c' fs => simp only [e2] at h; exact ErP.on h w1
      | no => simp only [e2] at h; exact h
    | er c' fs => simp only [e1] at h; exact h
    | no => simp only [e1] at h; exact h
/-- an own list as a frozen one -/
theorem fe_fz {f : γ → Xc (List α)} (h : FO X c G e f) : FE X c G e f :=
  PE.imp h fun σ H Q ⟨F, g, w, q, p⟩ => by
    refine ⟨F, g, w, q, ?_⟩
    cases e1 : f g with
    | ok l =>
      intro p1 xs F1 H1 w1 n f1 h1 hl r
      rw [e1] at p
      exact p (.ref p1) _ H1 (w1.fz n f1 h1) ⟨p1, xs, rfl, SqL.of upd_same, hl, r.mono (same_new f1)⟩
    | er c' fs => rw [e1] at p; exact p
    | no => rw [e1] at p; exact p
theorem FO.cast {f f' : γ → Xc (List α)} (h : FO X c G e f) (i : ∀ g, f' g = f g) : FO X c G e f' := by
  rw [show f' = f from funext i]; exact h
end

/-! ### displays -/
def PoH {α : Type} [Rp α] (K : PySem.W.Frag) (F H : Hp) (Q : List V → Hp → Prop) (E : XK) (m : Xc (List α)) : Prop := match m with
  | .ok a => ∀ vs F' H', Wd F H F' H' → Al K F' vs a → Q vs H'
  | .er c fs => ErP K F H E c fs
  | .no => False
theorem PoH.on {α : Type} [Rp α] {K : PySem.W.Frag} {F H F' H' : Hp} {Q : List V → Hp → Prop} {E : XK} {m : Xc (List α)} (h : PoH K F H Q E m) (w : Wd F H F' H') : PoH K F' H' Q E m := by
  cases m with
  | ok a => exact fun v F2 H2 w2 r => h v F2 H2 (w.trans w2) r
  | er c fs => exact ErP.on h w
  | no => exact h
section
variable {X : Cx} {c : C0} {γ α β δ ε : Type} {G : EnvT γ} [Rp α] [Rp β] [Rp δ] [Rp ε] {a b e d e' : Expr} {pos : Pos} {es : List Expr}
def tH (K : PySem.W.Frag) (c : C0) (G : EnvT γ) (f : γ → Xc (List α)) : TA := fun σ H Q => ∃ F g, Wd c.F0 c.H0 F H ∧ G.rel K c.H0 F H σ g ∧ PoH K F H Q (WE c.W σ) (f g)
/-- expressions in a row, all of one kind -/
def FH (X : Cx) (c : C0) (G : EnvT γ) (es : List Expr) (f : γ → Xc (List α)) : Prop := PA X es (tH X.K c G f)
theorem fh_nil : FH X c G [] (fun _ => Xc.ok ([] : List α)) := PA.imp pa_nil fun σ H Q ⟨F, g, w, q, h⟩ => h [] F H (Wd.refl w.s) .nil
theorem fh_cons {f : γ → Xc α} {fs : γ → Xc (List α)} (ha : FE X c G e f) (hr : FH X c G es fs) (hs : starEach (e :: es) X.env = (false, eval e X.env) :: starEach es X.env := by rfl) :
    FH X c G (e :: es) (fun g => (f g).bind fun i => (fs g).bind fun r => Xc.ok (i :: r)) :=
  PA.imp (pa_cons ha hr hs) fun σ H Q ⟨F, g, w, q, h⟩ => by
    refine ⟨F, g, w, q, ?_⟩
    cases e1 : f g with
    | ok i =>
      intro v F1 H1 w1 r1
      simp only [e1] at h
      have h : PoH X.K F H Q (WE c.W σ) ((fs g).bind fun r => Xc.ok (i :: r)) := h
      refine ⟨F1, g, w.trans w1, G.mono q w1, ?_⟩
      cases e2 : fs g with
      | ok r =>
        intro vs F2 H2 w2 r2
        simp only [e2] at h
        exact h (v :: vs) F2 H2 (w1.trans w2) (.cons (Rp.mono w2.f r1) r2)
      | er c' fs => simp only [e2] at h; exact ErP.on h w1
      | no => simp only [e2] at h; exact h
    | er c' fs => simp only [e1] at h; exact h
    | no => simp only [e1] at h; exact h
theorem small_line {n : Nat} (h : n ≤ 1000) : n ≤ sizeLine := Nat.le_trans h (by rw [sizeLine_eq]; decide)
@[irreducible] def szX {α : Type} (l : List α) : Xc (List α) := if l.length ≤ sizeLine then .ok l else .no
theorem fe_tup2 {x1} {fa : γ → Xc α} {fb : γ → Xc β} (ha : FE X c G a fa) (hb : FE X c G b fb) (hs : starEach [a, b] X.env = (false, eval a X.env) :: starEach [b] X.env := by rfl) (hs2 : starEach [b] X.env = (false, eval b X.env) :: starEach [] X.env := by rfl) :
    FE X c G (.Tuple [a, b] x1 pos) (fun g => (fa g).bind fun i => (fb g).bind fun j => Xc.ok (i, j)) :=
  PE.imp (pe_tup (fa_cons ha (fa_cons hb fa_nil hs2) hs)) fun σ H Q ⟨F, g, w, q, p⟩ => by
    refine ⟨F, g, w, q, ?_⟩
    cases e1 : fa g with
    | ok i =>
      cases e2 : fb g with
      | ok j =>
        simp only [e1, e2] at p ⊢
        intro vs F1 H1 w1 r1
        obtain ⟨v, r, e3, q1, ⟨u, r2, e4, q2, e5⟩⟩ := r1
        subst e5 e4 e3
        refine ⟨small_line (by decide : 2 ≤ 1000), fun l hl => ?_⟩
        have w2 := Wd.new (o := .tup [v, u]) w1.s hl
        exact p (.ref l) _ _ (w1.trans w2) ⟨l, v, u, rfl, SqT.of upd_same, Rp.mono w2.f q1, Rp.mono w2.f q2⟩
      | er c' fs => simp only [e1, e2] at p ⊢; exact p
      | no => simp only [e1, e2] at p ⊢; exact p
    | er c' fs => simp only [e1] at p ⊢; exact p
    | no => simp only [e1] at p ⊢; exact p
theorem fe_tup3 {x1} {fa : γ → Xc α} {fb : γ → Xc β} {fd : γ → Xc δ} (ha : FE X c G a fa) (hb : FE X c G b fb) (hd : FE X c G d fd) (hs : starEach [a, b, d] X.env = (false, eval a X.env) :: starEach [b, d] X.env := by rfl)
    (hs2 : starEach [b, d] X.env = (false, eval b X.env) :: starEach [d] X.env := by rfl) (hs3 : starEach [d] X.env = (false, eval d X.env) :: starEach [] X.env := by rfl) :
    FE X c G (.Tuple [a, b, d] x1 pos) (fun g => (fa g).bind fun i => (fb g).bind fun j => (fd g).bind fun m => Xc.ok (T3.mk i j m)) :=
  PE.imp (pe_tup (fa_cons ha (fa_cons hb (fa_cons hd fa_nil hs3) hs2) hs)) fun σ H Q ⟨F, g, w, q, p⟩ => by
    refine ⟨F, g, w, q, ?_⟩
    cases e1 : fa g with
    | ok i =>
      cases e2 : fb g with
      | ok j =>
        cases e3 : fd g with
        | ok m =>
          simp only [e1, e2, e3] at p ⊢
          intro vs F1 H1 w1 r1
          obtain ⟨v, r, y1, q1, ⟨u, r2, y2, q2, ⟨z, r3, y3, q3, y4⟩⟩⟩ := r1
          subst y4 y3 y2 y1
          refine ⟨small_line (by decide : 3 ≤ 1000), fun l hl => ?_⟩
          have w2 := Wd.new (o := .tup [v, u, z]) w1.s hl
          exact p (.ref l) _ _ (w1.trans w2) ⟨l, v, u, z, rfl, SqT.of upd_same, Rp.mono w2.f q1, Rp.mono w2.f q2, Rp.mono w2.f q3⟩
        | er c' fs => simp only [e1, e2, e3] at p ⊢; exact p
        | no => simp only [e1, e2, e3] at p ⊢; exact p
      | er c' fs => simp only [e1, e2] at p ⊢; exact p
      | no => simp only [e1, e2] at p ⊢; exact p
    | er c' fs => simp only [e1] at p ⊢; exact p
    | no => simp only [e1] at p ⊢; exact p
theorem fe_tup4 {x1} {fa : γ → Xc α} {fb : γ → Xc β} {fd : γ → Xc δ} {fe : γ → Xc ε} (ha : FE X c G a fa) (hb : FE X c G b fb) (hd : FE X c G d fd) (he : FE X c G e' fe) (hs : starEach [a, b, d, e'] X.env = (false, eval a X.env) :: starEach [b, d, e'] X.env := by rfl)
    (hs2 : starEach [b, d, e'] X.env = (false, eval b X.env) :: starEach [d, e'] X.env := by rfl) (hs3 : starEach [d, e'] X.env = (false, eval d X.env) :: starEach [e'] X.env := by rfl) (hs4 : starEach [e'] X.env = (false, eval e' X.env) :: starEach [] X.env := by rfl) :
    FE X c G (.Tuple [a, b, d, e'] x1 pos) (fun g => (fa g).bind fun i => (fb g).bind fun j => (fd g).bind fun m => (fe g).bind fun n => Xc.ok (T4.mk i j m n)) :=
  PE.imp (pe_tup (fa_cons ha (fa_cons hb (fa_cons hd (fa_cons he fa_nil hs4) hs3) hs2) hs)) fun σ H Q ⟨F, g, w, q, p⟩ => by
    refine ⟨F, g, w, q, ?_⟩
    cases e1 : fa g with
    | ok i =>
      cases e2 : fb g with
      | ok j =>
        cases e3 : fd g with
        | ok m =>
          cases e4 : fe g with
          | ok n =>
            simp only [e1, e2, e3, e4] at p ⊢
            intro vs F1 H1 w1 r1
            obtain ⟨v, r, y1, q1, ⟨u, r2, y2, q2, ⟨z, r3, y3, q3, ⟨t, r4, y4, q4, y5⟩⟩⟩⟩ := r1
            subst y5 y4 y3 y2 y1
            refine ⟨small_line (by decide : 4 ≤ 1000), fun l hl => ?_⟩
            have w2 := Wd.new (o := .tup [v, u, z, t]) w1.s hl
            exact p (.ref l) _ _ (w1.trans w2) ⟨l, v, u, z, t, rfl, SqT.of upd_same, Rp.mono w2.f q1, Rp.mono w2.f q2, Rp.mono w2.f q3, Rp.mono w2.f q4⟩
          | er c' fs => simp only [e1, e2, e3, e4] at p ⊢; exact p
          | no => simp only [e1, e2, e3, e4] at p ⊢; exact p
        | er c' fs => simp only [e1, e2, e3] at p ⊢; exact p
        | no => simp only [e1, e2, e3] at p ⊢; exact p
      | er c' fs => simp only [e1, e2] at p ⊢; exact p
      | no => simp only [e1, e2] at p ⊢; exact p
    | er c' fs => simp only [e1] at p ⊢; exact p
    | no => simp only [e1] at p ⊢; exact p
/-- a tuple of items of one kind -/
theorem fe_tupU {x1} {fs : γ → Xc (List α)} (h : FH X c G es fs) : FE X c G (.Tuple es x1 pos) (fun g => (fs g).bind fun l => (szX l).bind fun l => Xc.ok (tu l)) :=
  PE.imp (pe_tup h) fun σ H Q ⟨F, g, w, q, p⟩ => by
    refine ⟨F, g, w, q, ?_⟩
    cases e1 : fs g with
    | ok l =>
      intro vs F1 H1 w1 r1
      simp only [e1] at p
      have p : Po X.K F H Q (WE c.W σ) ((szX l).bind fun l => Xc.ok (tu l)) := p
      unfold szX at p
      by_cases hz : l.length ≤ sizeLine
      · rw [if_pos hz] at p
        refine ⟨by rw [r1.len]; exact hz, fun t ht => ?_⟩
        have w2 := Wd.new (o := .tup vs) w1.s ht
        exact p (.ref t) _ _ (w1.trans w2) ⟨t, vs, rfl, SqT.of upd_same, hz, r1.mono w2.f⟩
      · rw [if_neg hz] at p; exact p.elim
    | er c' fs => simp only [e1] at p; exact p
    | no => simp only [e1] at p; exact p
theorem fo_lst {fs : γ → Xc (List α)} (h : FH X c G es fs) : FO X c G (.List es pos) (fun g => (fs g).bind szX) :=
  PE.imp (pe_lst h) fun σ H Q ⟨F, g, w, q, p⟩ => by
    refine ⟨F, g, w, q, ?_⟩
    cases e1 : fs g with
    | ok l =>
      intro vs F1 H1 w1 r1
      simp only [e1] at p
      have p : PoO X.K F H Q (WE c.W σ) (szX l) := p
      unfold szX at p
      by_cases hz : l.length ≤ sizeLine
      · rw [if_pos hz] at p
        refine ⟨by rw [r1.len]; exact hz, fun t ht => ?_⟩
        exact p t vs F1 _ (w1.trans (Wd.newO w1.s ht)) (w1.h.free ht) (w1.s.free ht) upd_same hz r1
      · rw [if_neg hz] at p; exact p.elim
    | er c' fs => simp only [e1] at p; exact p
    | no => simp only [e1] at p; exact p
theorem fo_nil : FO X c G (.List [] pos) (fun _ => Xc.ok ([] : List α)) :=
  PE.imp (pe_lst pa_nil) fun σ H Q ⟨F, g, w, q, p⟩ => by
    refine ⟨Nat.zero_le _, fun l hl => ?_⟩
    exact p l [] F _ (Wd.newO w.s hl) hl (w.s.free hl) upd_same (Nat.zero_le _) .nil
end

/-! ### subscripts -/
@[irreducible] def getX {α : Type} (l : List α) (i : Int) : Xc α := match atI l i with
  | some a => .ok a
  | none => .no
theorem atI_al {α : Type} [Rp α] {K : PySem.W.Frag} {F : Hp} {xs : List V} {l : List α} {i : Int} {a : α} (r : Al K F xs l) (h : atI l i = some a) : ∃ v, atI xs i = some v ∧ Rp.is K F v a := by
  unfold atI at h ⊢
  rw [r.len]
  cases e : ixN l.length i with
  | none => rw [e] at h; cases h
  | some j =>
    rw [e] at h
    exact r.get' (show l[j]? = some a from h)
@[irreducible] def chX (z : Str) (i : Int) : Xc Str := match atI z.cps.toList i with
  | some k => .ok ⟨#[k]⟩
  | none => .no
theorem one_le_line : 1 ≤ sizeLine := by rw [sizeLine_eq]; decide
section
variable {X : Cx} {c : C0} {γ α β δ τ : Type} {G : EnvT γ} [Rp α] [Rp β] [Rp δ] {a b e : Expr} {pos : Pos} {es : List Expr}
theorem fe_ixL {fa : γ → Xc (List α)} {fi : γ → Xc Int} (ha : FE X c G a fa) (hb : FE X c G b fi) (hs : PlainIx b := by exact fun _ _ => rfl) : FE X c G (.Subscript a b pos) (fun g => (fa g).bind fun l => (fi g).bind fun i => getX l i) :=
  two (fun h1 h2 => pe_ix ix_list h1 h2 hs) ha hb fun {F H x y l i Q E} s r1 r2 p => by
    obtain ⟨q, xs, e, hq, z, r⟩ := r1
    unfold getX at p
    cases h : atI l i with
    | none => rw [h] at p; exact p.elim
    | some v =>
      rw [h] at p
      obtain ⟨u, hu, ru⟩ := atI_al r h
      exact ⟨q, xs, i, u, e, r2, Same.seq s hq, hu, p.ret s ru⟩
theorem fe_ixU {fa : γ → Xc (Tu α)} {fi : γ → Xc Int} (ha : FE X c G a fa) (hb : FE X c G b fi) (hs : PlainIx b := by exact fun _ _ => rfl) : FE X c G (.Subscript a b pos) (fun g => (fa g).bind fun l => (fi g).bind fun i => getX (Tu.l l) i) :=
  two (fun h1 h2 => pe_ix ix_tup h1 h2 hs) ha hb fun {F H x y l i Q E} s r1 r2 p => by
    obtain ⟨q, xs, e, hq, z, r⟩ := r1
    unfold getX at p
    cases h : atI (Tu.l l) i with
    | none => rw [h] at p; exact p.elim
    | some v =>
      rw [h] at p
      obtain ⟨u, hu, ru⟩ := atI_al r h
      exact ⟨q, xs, i, u, e, r2, Same.seqT s hq, hu, p.ret s ru⟩
theorem fe_ixS {fa : γ → Xc Str} {fi : γ → Xc Int} (ha : FE X c G a fa) (hb : FE X c G b fi) (hs : PlainIx b := by exact fun _ _ => rfl) : FE X c G (.Subscript a b pos) (fun g => (fa g).bind fun l => (fi g).bind fun i => chX l i) :=
  two (fun h1 h2 => pe_ix ix_str h1 h2 hs) ha hb fun {F H x y l i Q E} s r1 r2 p => by
    unfold chX at p
    cases h : atI l.cps.toList i with
    | none => rw [h] at p; exact p.elim
    | some v =>
      rw [h] at p
      exact ⟨l, i, v, r1.1, r2, r1.2, h, p.ret s ⟨rfl, one_le_line⟩⟩
/-- t[k] of a written place -/
theorem fe_itm {fa : γ → Xc τ} [Rp τ] {π : τ → α} {k : Int} {j p} (hπ : ∀ {K F v} {t : τ}, Rp.is K F v t → ∃ q xs u, v = .ref q ∧ SqT K F q xs ∧ atI xs k = some u ∧ Rp.is K F u (π t)) (ha : FE X c G a fa) :
    FE X c G (.Subscript a (.Constant (.int k) j p) pos) (fun g => (fa g).bind fun t => Xc.ok (π t)) :=
  PE.imp (pe_ix ix_tup ha pe_int (fun _ _ => rfl)) fun σ H Q ⟨F, g, w, q, h⟩ => by
    refine ⟨F, g, w, q, ?_⟩
    cases e1 : fa g with
    | ok t =>
      intro v F1 H1 w1 r1
      simp only [e1] at h
      obtain ⟨q, xs, u, e, hq, hu, r⟩ := hπ r1
      exact ⟨q, xs, k, u, e, rfl, Same.seqT w1.s hq, hu, (Po.on h w1).ret w1.s r⟩
    | er c' fs => simp only [e1] at h; exact h
    | no => simp only [e1] at h; exact h
variable {ε ζ : Type} [Rp ε] [Rp ζ] {j : Nat} {p : Pos}
theorem fe_p0 {fa : γ → Xc (α × β)} (ha : FE X c G a fa) : FE X c G (.Subscript a (.Constant (.int 0) j p) pos) (fun g => (fa g).bind fun t => Xc.ok t.1) :=
  fe_itm (fun h => by obtain ⟨q, x, y, e, h, r1, r2⟩ := h; exact ⟨q, _, x, e, h, atI_nat (j := 0) rfl, r1⟩) ha
theorem fe_p1 {fa : γ → Xc (α × β)} (ha : FE X c G a fa) : FE X c G (.Subscript a (.Constant (.int 1) j p) pos) (fun g => (fa g).bind fun t => Xc.ok t.2) :=
  fe_itm (fun h => by obtain ⟨q, x, y, e, h, r1, r2⟩ := h; exact ⟨q, _, y, e, h, atI_nat (j := 1) rfl, r2⟩) ha
theorem fe_t0 {fa : γ → Xc (T3 α β ε)} (ha : FE X c G a fa) : FE X c G (.Subscript a (.Constant (.int 0) j p) pos) (fun g => (fa g).bind fun t => Xc.ok t.a) :=
  fe_itm (fun h => by obtain ⟨q, x, y, z, e, h, r1, r2, r3⟩ := h; exact ⟨q, _, x, e, h, atI_nat (j := 0) rfl, r1⟩) ha
theorem fe_t1 {fa : γ → Xc (T3 α β ε)} (ha : FE X c G a fa) : FE X c G (.Subscript a (.Constant (.int 1) j p) pos) (fun g => (fa g).bind fun t => Xc.ok t.b) :=
  fe_itm (fun h => by obtain ⟨q, x, y, z, e, h, r1, r2, r3⟩ := h; exact ⟨q, _, y, e, h, atI_nat (j := 1) rfl, r2⟩) ha
theorem fe_t2 {fa : γ → Xc (T3 α β ε)} (ha : FE X c G a fa) : FE X c G (.Subscript a (.Constant (.int 2) j p) pos) (fun g => (fa g).bind fun t => Xc.ok t.c) :=
  fe_itm (fun h => by obtain ⟨q, x, y, z, e, h, r1, r2, r3⟩ := h; exact ⟨q, _, z, e, h, atI_nat (j := 2) rfl, r3⟩) ha
theorem fe_q0 {fa : γ → Xc (T4 α β ε ζ)} (ha : FE X c G a fa) : FE X c G (.Subscript a (.Constant (.int 0) j p) pos) (fun g => (fa g).bind fun t => Xc.ok t.a) :=
  fe_itm (fun h => by obtain ⟨q, x, y, z, u, e, h, r1, r2, r3, r4⟩ := h; exact ⟨q, _, x, e, h, atI_nat (j := 0) rfl, r1⟩) ha
theorem fe_q1 {fa : γ → Xc (T4 α β ε ζ)} (ha : FE X c G a fa) : FE X c G (.Subscript a (.Constant (.int 1) j p) pos) (fun g => (fa g).bind fun t => Xc.ok t.b) :=
  fe_itm (fun h => by obtain ⟨q, x, y, z, u, e, h, r1, r2, r3, r4⟩ := h; exact ⟨q, _, y, e, h, atI_nat (j := 1) rfl, r2⟩) ha
theorem fe_q2 {fa : γ → Xc (T4 α β ε ζ)} (ha : FE X c G a fa) : FE X c G (.Subscript a (.Constant (.int 2) j p) pos) (fun g => (fa g).bind fun t => Xc.ok t.c) :=
  fe_itm (fun h => by obtain ⟨q, x, y, z, u, e, h, r1, r2, r3, r4⟩ := h; exact ⟨q, _, z, e, h, atI_nat (j := 2) rfl, r3⟩) ha
theorem fe_q3 {fa : γ → Xc (T4 α β ε ζ)} (ha : FE X c G a fa) : FE X c G (.Subscript a (.Constant (.int 3) j p) pos) (fun g => (fa g).bind fun t => Xc.ok t.d) :=
  fe_itm (fun h => by obtain ⟨q, x, y, z, u, e, h, r1, r2, r3, r4⟩ := h; exact ⟨q, _, u, e, h, atI_nat (j := 3) rfl, r4⟩) ha
end

/-! ### slices -/
section
variable {X : Cx} {c : C0} {γ α β δ τ : Type} {G : EnvT γ} [Rp α] [Rp β] [Rp δ] {a b e : Expr} {pos p2 : Pos} {lo hi : Option Expr}
/-- a part of a slice -/
def PoP (K : PySem.W.Frag) (F H : Hp) (Q : Option Int → Hp → Prop) (E : XK) (m : Xc (Option Int)) : Prop := match m with
  | .ok b => ∀ F' H', Wd F H F' H' → Q b H'
  | .er c fs => ErP K F H E c fs
  | .no => False
def FP (X : Cx) (c : C0) (G : EnvT γ) (e : Option Expr) (f : γ → Xc (Option Int)) : Prop := PO X e (fun σ H Q => ∃ F g, Wd c.F0 c.H0 F H ∧ G.rel X.K c.H0 F H σ g ∧ PoP X.K F H Q (WE c.W σ) (f g))
theorem fp_none : FP X c G none (fun _ => Xc.ok none) := ⟨fun pins s σ H Q I ⟨F, g, w, q, h⟩ => po_none.run pins s σ H Q I (h F H (Wd.refl w.s))⟩
theorem fp_some {f : γ → Xc Int} (h : FE X c G e f) : FP X c G (some e) (fun g => (f g).bind fun i => Xc.ok (some i)) := ⟨fun pins s σ H Q I ⟨F, g, w, q, p⟩ => (po_some h).run pins s σ H Q I (by
  refine ⟨F, g, w, q, ?_⟩
  cases e1 : f g with
  | ok i => intro v F1 H1 w1 r1; simp only [e1] at p; exact ⟨i, r1, p F1 H1 w1⟩
  | er c' fs => simp only [e1] at p; exact p
  | no => simp only [e1] at p; exact p)⟩
theorem slc {f : γ → Xc α} {fl fh : γ → Xc (Option Int)} {op : α → Option Int → Option Int → Xc β} {r : V → Option Int → Option Int → Hp → VK → Prop} (hr : SlR X r)
    (hop : ∀ {F H x i l u Q E}, Same F H → Rp.is X.K F x i → Po X.K F H Q E (op i l u) → r x l u H Q) (ha : FE X c G a f) (hl : FP X c G lo fl) (hu : FP X c G hi fh) :
    FE X c G (.Subscript a (.Slice lo hi none p2) pos) (fun g => (f g).bind fun i => (fl g).bind fun l => (fh g).bind fun u => op i l u) :=
  PE.imp (pe_slice hr ha hl hu) fun σ H Q ⟨F, g, w, q, p⟩ => by
    refine ⟨F, g, w, q, ?_⟩
    cases e1 : f g with
    | ok i =>
      intro v F1 H1 w1 r1
      simp only [e1] at p
      have p : Po X.K F H Q (WE c.W σ) ((fl g).bind fun l => (fh g).bind fun u => op i l u) := p
      refine ⟨F1, g, w.trans w1, G.mono q w1, ?_⟩
      cases e2 : fl g with
      | ok l =>
        intro F2 H2 w2
        simp only [e2] at p
        have p : Po X.K F H Q (WE c.W σ) ((fh g).bind fun u => op i l u) := p
        refine ⟨F2, g, (w.trans w1).trans w2, G.mono (G.mono q w1) w2, ?_⟩
        cases e3 : fh g with
        | ok u =>
          intro F3 H3 w3
          simp only [e3] at p
          exact hop w3.s (Rp.mono (w2.trans w3).f r1) (Po.on (show Po X.K F H Q (WE c.W σ) (op i l u) from p) ((w1.trans w2).trans w3))
        | er c' fs => simp only [e3] at p; exact ErP.on (show ErP X.K F H (WE c.W σ) c' fs from p) (w1.trans w2)
        | no => simp only [e3] at p; exact p
      | er c' fs => simp only [e2] at p; exact ErP.on (show ErP X.K F H (WE c.W σ) c' fs from p) w1
      | no => simp only [e2] at p; exact p
    | er c' fs => simp only [e1] at p; exact p
    | no => simp only [e1] at p; exact p
/-- xs[l:u] of any list -/
@[irreducible] def cutL {α : Type} (xs : List α) (lo hi : Option Int) : List α := (xs.drop (HT.sIx xs.length 0 lo)).take (HT.sIx xs.length xs.length hi - HT.sIx xs.length 0 lo)
theorem cutL_al {K : PySem.W.Frag} {F : Hp} {xs : List V} {l : List α} {lo hi : Option Int} (r : Al K F xs l) : Al K F (cutV xs lo hi) (cutL l lo hi) := by
  unfold cutV cutL
  rw [r.len]
  exact (r.drop _).take _
theorem cutL_len (l : List α) (lo hi : Option Int) : (cutL l lo hi).length ≤ l.length := by
  unfold cutL
  rw [List.length_take, List.length_drop]
  omega
theorem fe_slS {f : γ → Xc Str} {fl fh : γ → Xc (Option Int)} (ha : FE X c G a f) (hl : FP X c G lo fl) (hu : FP X c G hi fh) :
    FE X c G (.Subscript a (.Slice lo hi none p2) pos) (fun g => (f g).bind fun i => (fl g).bind fun l => (fh g).bind fun u => Xc.ok (cutS i l u)) :=
  slc sl_str (fun {F H x i l u Q E} s r p => by exact ⟨i, r.1, r.2, p.ret s ⟨rfl, Nat.le_trans (cutS_length _ _ _) r.2⟩⟩) ha hl hu
theorem fe_slL {f : γ → Xc (List α)} {fl fh : γ → Xc (Option Int)} (ha : FE X c G a f) (hl : FP X c G lo fl) (hu : FP X c G hi fh) :
    FE X c G (.Subscript a (.Slice lo hi none p2) pos) (fun g => (f g).bind fun i => (fl g).bind fun l => (fh g).bind fun u => Xc.ok (cutL i l u)) :=
  slc sl_list (fun {F H x i l u Q E} s h p => by
    obtain ⟨q, xs, e, hq, z, r⟩ := h
    exact ⟨q, xs, e, Same.seq s hq, fun k hk => p (.ref k) _ _ (Wd.new s hk) ⟨k, _, rfl, SqL.of upd_same, Nat.le_trans (cutL_len _ _ _) z, (cutL_al r).mono (same_new (s.free hk))⟩⟩) ha hl hu
theorem fe_slU {f : γ → Xc (Tu α)} {fl fh : γ → Xc (Option Int)} (ha : FE X c G a f) (hl : FP X c G lo fl) (hu : FP X c G hi fh) :
    FE X c G (.Subscript a (.Slice lo hi none p2) pos) (fun g => (f g).bind fun i => (fl g).bind fun l => (fh g).bind fun u => Xc.ok (tu (cutL (Tu.l i) l u))) :=
  slc sl_tupA (fun {F H x i l u Q E} s h p => by
    obtain ⟨q, xs, e, hq, z, r⟩ := h
    refine ⟨q, xs, e, Same.seqT s hq, fun hw => ?_, fun hw k hk => ?_⟩
    · refine p.ret s ⟨q, xs, rfl, hq, Nat.le_trans (cutL_len _ _ _) z, ?_⟩
      have e1 : cutL (Tu.l i) l u = (Tu.l i) := by
        unfold cutL
        rw [r.len] at hw
        rw [hw.1, hw.2, Nat.sub_zero, List.drop_zero, List.take_length]
      rw [e1]; exact r
    · exact p (.ref k) _ _ (Wd.new s hk) ⟨k, _, rfl, SqT.of upd_same, Nat.le_trans (cutL_len _ _ _) z, (cutL_al r).mono (same_new (s.free hk))⟩) ha hl hu
end
end FL

/-! FL4: built-in calls, texts, tuples joined, lists of one's own read. -/
namespace FL
open PySem L2
section
variable {X : Cx} {c : C0} {γ α β ρ αs : Type} {G : EnvT γ} [Rp α] [Rp β] [Rp ρ] [Rps αs] {a b e : Expr} {pos p p2 : Pos} {es : List Expr}
/-- a call of a built-in thing by its arguments -/
theorem callA {r : List V → Hp → VK → Prop} {op : αs → Xc ρ} {fs : γ → Xc αs} (h : ∀ {t : TA}, PA X es t → PE X e (tCB r t)) (hA : FA X c G es fs)
    (hop : ∀ {F H vs as Q E}, Same F H → Rps.isL X.K F vs as → Po X.K F H Q E (op as) → r vs H Q) : FE X c G e (fun g => (fs g).bind op) :=
  PE.imp (h hA) fun σ H Q ⟨F, g, w, q, p⟩ => by
    refine ⟨F, g, w, q, ?_⟩
    cases e1 : fs g with
    | ok as => intro vs F1 H1 w1 r1; simp only [e1] at p; exact hop w1.s r1 (Po.on (show Po X.K F H Q (WE c.W σ) (op as) from p) w1)
    | er c' fs => simp only [e1] at p; exact p
    | no => simp only [e1] at p; exact p
theorem callAO {r : List V → Hp → VK → Prop} {op : αs → Xc (List ρ)} {fs : γ → Xc αs} (h : ∀ {t : TA}, PA X es t → PE X e (tCB r t)) (hA : FA X c G es fs)
    (hop : ∀ {F H vs as Q E}, Same F H → Rps.isL X.K F vs as → PoO X.K F H Q E (op as) → r vs H Q) : FO X c G e (fun g => (fs g).bind op) :=
  PE.imp (h hA) fun σ H Q ⟨F, g, w, q, p⟩ => by
    refine ⟨F, g, w, q, ?_⟩
    cases e1 : fs g with
    | ok as => intro vs F1 H1 w1 r1; simp only [e1] at p; exact hop w1.s r1 (PoO.on (show PoO X.K F H Q (WE c.W σ) (op as) from p) w1)
    | er c' fs => simp only [e1] at p; exact p
    | no => simp only [e1] at p; exact p
/-- one argument -/
theorem call1 {r : List V → Hp → VK → Prop} {op : α → Xc ρ} {fa : γ → Xc α} (h : ∀ {t : TA}, PA X [a] t → PE X e (tCB r t)) (ha : FE X c G a fa) (hs : starEach [a] X.env = (false, eval a X.env) :: starEach [] X.env := by rfl)
    (hop : ∀ {F H v i Q E}, Same F H → Rp.is X.K F v i → Po X.K F H Q E (op i) → r [v] H Q) : FE X c G e (fun g => (fa g).bind op) :=
  FE.cast (callA (op := fun (as : α × Unit) => op as.1) h (fa_cons ha fa_nil hs) fun {F H vs as Q E} s r p => by
    obtain ⟨v, r', e1, r1, e2⟩ := r
    subst e2 e1
    exact hop s r1 p) fun g => by cases fa g <;> rfl
theorem call1O {r : List V → Hp → VK → Prop} {op : α → Xc (List ρ)} {fa : γ → Xc α} (h : ∀ {t : TA}, PA X [a] t → PE X e (tCB r t)) (ha : FE X c G a fa) (hs : starEach [a] X.env = (false, eval a X.env) :: starEach [] X.env := by rfl)
    (hop : ∀ {F H v i Q E}, Same F H → Rp.is X.K F v i → PoO X.K F H Q E (op i) → r [v] H Q) : FO X c G e (fun g => (fa g).bind op) :=
  FO.cast (callAO (op := fun (as : α × Unit) => op as.1) h (fa_cons ha fa_nil hs) fun {F H vs as Q E} s r p => by
    obtain ⟨v, r', e1, r1, e2⟩ := r
    subst e2 e1
    exact hop s r1 p) fun g => by cases fa g <;> rfl
theorem call2 {r : List V → Hp → VK → Prop} {op : α → β → Xc ρ} {fa : γ → Xc α} {fb : γ → Xc β} (h : ∀ {t : TA}, PA X [a, b] t → PE X e (tCB r t)) (ha : FE X c G a fa) (hb : FE X c G b fb)
    (hs : starEach [a, b] X.env = (false, eval a X.env) :: starEach [b] X.env := by rfl) (hs2 : starEach [b] X.env = (false, eval b X.env) :: starEach [] X.env := by rfl)
    (hop : ∀ {F H v u i j Q E}, Same F H → Rp.is X.K F v i → Rp.is X.K F u j → Po X.K F H Q E (op i j) → r [v, u] H Q) : FE X c G e (fun g => (fa g).bind fun i => (fb g).bind fun j => op i j) :=
  FE.cast (callA (op := fun (as : α × β × Unit) => op as.1 as.2.1) h (fa_cons ha (fa_cons hb fa_nil hs2) hs) fun {F H vs as Q E} s r p => by
    obtain ⟨v, r', e1, r1, u, r'', e2, r2, e3⟩ := r
    subst e3 e2 e1
    exact hop s r1 r2 p) fun g => by cases fa g <;> first | rfl | (cases fb g <;> rfl)

/-! ### len -/
class HasLen (α : Type) [Rp α] where
  len : α → Nat
  is : ∀ {K F H v} {a : α}, Same F H → Rp.is K F v a → LenV K v H (len a)
instance : HasLen Str := ⟨Str.length, fun {K F H v a} s h => by obtain ⟨h1, h2⟩ := h; subst h1; exact ⟨h2, rfl⟩⟩
instance {α : Type} [Rp α] : HasLen (List α) := ⟨List.length, fun {K F H v a} s h => by obtain ⟨q, xs, e, hq, z, r⟩ := h; subst e; exact .inl ⟨xs, Same.seq s hq, r.len.symm⟩⟩
instance {α : Type} [Rp α] : HasLen (Tu α) := ⟨fun t => t.l.length, fun {K F H v a} s h => by obtain ⟨q, xs, e, hq, z, r⟩ := h; subst e; exact .inr ⟨xs, Same.seqT s hq, r.len.symm⟩⟩
theorem fe_len [HasLen α] {fa : γ → Xc α} (ha : FE X c G a fa) (hm : X.mg "len" = none) (hg : Gl X "len" := by rfl) (hs : starEach [a] X.env = (false, eval a X.env) :: starEach [] X.env := by rfl) :
    FE X c G (.Call (.Name "len" p) [a] [] pos) (fun g => (fa g).bind fun i => Xc.ok ((HasLen.len i : Nat) : Int)) :=
  call1 (r := fun xs H Q => ∃ x n, xs = [x] ∧ LenV X.K x H n ∧ Q (.int n) H) (fun h => pe_callB call_len hg hm PySem.boot_len h (he := hs)) ha hs fun {F H v i Q E} s r p => by
    exact ⟨v, _, rfl, HasLen.is s r, p.ret s rfl⟩

/-! ### numbers -/
@[irreducible] def absI (i : Int) : Int := if i < 0 then -i else i
theorem fe_abs {fa : γ → Xc Int} (ha : FE X c G a fa) (hm : X.mg "abs" = none) (hg : Gl X "abs" := by rfl) (hs : starEach [a] X.env = (false, eval a X.env) :: starEach [] X.env := by rfl) :
    FE X c G (.Call (.Name "abs" p) [a] [] pos) (fun g => (fa g).bind fun i => Xc.ok (absI i)) :=
  call1 (fun h => pe_callB call_abs hg hm (by decide +kernel) h (he := hs)) ha hs fun {F H v i Q E} s r p => by
    have r : v = .int i := r
    subst r
    exact ⟨i, rfl, p.ret s (by first | rfl | (unfold absI; rfl) | (unfold gcdI; rfl))⟩
theorem fe_intI {fa : γ → Xc Int} (ha : FE X c G a fa) (hm : X.mg "int" = none) (hg : Gl X "int" := by rfl) (hs : starEach [a] X.env = (false, eval a X.env) :: starEach [] X.env := by rfl) :
    FE X c G (.Call (.Name "int" p) [a] [] pos) (fun g => (fa g).bind fun i => Xc.ok i) :=
  call1 (fun h => pe_callTy call_int1 hg hm PyProof.Rows.boot_int h (he := hs)) ha hs fun {F H v i Q E} s r p => by
    have r : v = .int i := r
    subst r
    exact .inl ⟨i, rfl, p.ret s rfl⟩
def b2i (b : Bool) : Int := if b = true then 1 else 0
theorem fe_intB {fa : γ → Xc Bool} (ha : FE X c G a fa) (hm : X.mg "int" = none) (hg : Gl X "int" := by rfl) (hs : starEach [a] X.env = (false, eval a X.env) :: starEach [] X.env := by rfl) :
    FE X c G (.Call (.Name "int" p) [a] [] pos) (fun g => (fa g).bind fun i => Xc.ok (b2i i)) :=
  call1 (fun h => pe_callTy call_int1 hg hm PyProof.Rows.boot_int h (he := hs)) ha hs fun {F H v i Q E} s r p => by
    have r : v = .bl i := r
    subst r
    exact .inr ⟨i, rfl, p.ret s rfl⟩
@[irreducible] def intX (z : Str) : Xc Int := if z.length ≤ 640 then (match PySem.intText? z with
  | some n => .ok n
  | none => .no) else .no
theorem fe_intS {fa : γ → Xc Str} (ha : FE X c G a fa) (hm : X.mg "int" = none) (hg : Gl X "int" := by rfl) (hs : starEach [a] X.env = (false, eval a X.env) :: starEach [] X.env := by rfl) :
    FE X c G (.Call (.Name "int" p) [a] [] pos) (fun g => (fa g).bind intX) :=
  call1 (fun h => pe_callTy call_int_str hg hm PyProof.Rows.boot_int h (he := hs)) ha hs fun {F H v i Q E} s r p => by
    have r : v = .str i := r.1
    subst r
    unfold intX at p
    by_cases hz : i.length ≤ 640
    · rw [if_pos hz] at p
      cases e1 : PySem.intText? i with
      | none => rw [e1] at p; exact p.elim
      | some n => rw [e1] at p; exact ⟨i, n, rfl, e1, hz, p.ret s rfl⟩
    · rw [if_neg hz] at p; exact p.elim
@[irreducible] def gcdI (i j : Int) : Int := ((Nat.gcd i.natAbs j.natAbs : Nat) : Int)
theorem fe_gcd {fa fb : γ → Xc Int} (ha : FE X c G a fa) (hb : FE X c G b fb) (hm : X.mg "gcd" = some (.builtin "math.gcd")) (hg : Gl X "gcd" := by rfl) (hs : starEach [a, b] X.env = (false, eval a X.env) :: starEach [b] X.env := by rfl)
    (hs2 : starEach [b] X.env = (false, eval b X.env) :: starEach [] X.env := by rfl) (hpl : (backTo pos (starEach [b] X.env)).any (·.1) = false := by rfl) :
    FE X c G (.Call (.Name "gcd" p) [a, b] [] pos) (fun g => (fa g).bind fun i => (fb g).bind fun j => Xc.ok (gcdI i j)) :=
  call2 (fun h => pe_callBfun cr_gcd hg hm h (he := hs) (hpl := hpl)) ha hb hs hs2 fun {F H v u i j Q E} s r1 r2 p => by
    have r1 : v = .int i := r1
    have r2 : u = .int j := r2
    subst r1 r2
    exact ⟨i, j, rfl, p.ret s (by first | rfl | (unfold absI; rfl) | (unfold gcdI; rfl))⟩
theorem fe_bits {fa : γ → Xc Int} (ha : FE X c G a fa) {apos : Pos} (hbase : attributeBase a "bit_length" X.env (eval a X.env) = eval a X.env := by rfl) (hline : (apos.endLine == pos.line) = true := by rfl) :
    FE X c G (.Call (.Attribute a "bit_length" apos) [] [] pos) (fun g => (fa g).bind fun i => Xc.ok ((Builtin.Int.intBits i : Nat) : Int)) :=
  one (r := fun x H1 Q => ∃ i, x = .int i ∧ Q (.int (Builtin.Int.intBits i : Nat)) H1) (fun h => pe_bits h hbase hline) ha fun {F H x i Q E} s r p => by exact ⟨i, r, p.ret s rfl⟩

/-! ### texts -/
@[irreducible] def strX (i : Int) : Xc Str := if i.natAbs.log2 < 1920 then .ok (Str.ofString (toString i)) else .no
theorem fe_strI {fa : γ → Xc Int} (ha : FE X c G a fa) (hm : X.mg "str" = none) (hg : Gl X "str" := by rfl) (hs : starEach [a] X.env = (false, eval a X.env) :: starEach [] X.env := by rfl) :
    FE X c G (.Call (.Name "str" p) [a] [] pos) (fun g => (fa g).bind strX) :=
  call1 (fun h => pe_callTy call_str_int hg hm PyProof.Rows.boot_str h (he := hs)) ha hs fun {F H v i Q E} s r p => by
    have r : v = .int i := r
    subst r
    unfold strX at p
    by_cases hz : i.natAbs.log2 < 1920
    · rw [if_pos hz] at p; exact ⟨i, rfl, hz, p.ret s ⟨rfl, int_text_fits hz⟩⟩
    · rw [if_neg hz] at p; exact p.elim
@[irreducible] def catS (x y : Str) : Xc Str := if x.length + y.length ≤ sizeLine then .ok (x ++ y) else .no
theorem app_len (x y : Str) : (x ++ y).length = x.length + y.length := by
  show (x.cps ++ y.cps).size = x.cps.size + y.cps.size
  rw [Array.size_append]
theorem fe_catS {fa fb : γ → Xc Str} (ha : FE X c G a fa) (hb : FE X c G b fb) : FE X c G (.BinOp a .Add b pos) (fun g => (fa g).bind fun i => (fb g).bind fun j => catS i j) :=
  two (fun h1 h2 => pe_op op_add_str h1 h2) ha hb fun {F H x y i j Q E} s r1 r2 p => by
    unfold catS at p
    by_cases h : i.length + j.length ≤ sizeLine
    · rw [if_pos h] at p; exact ⟨_, _, r1.1, r2.1, h, p.ret s ⟨rfl, by rw [app_len]; exact h⟩⟩
    · rw [if_neg h] at p; exact p.elim
/-- one sign within a text -/
@[irreducible] def inSg (x : Str) (z : Str) : Xc Bool := match x.cps.toList with
  | [k] => .ok (decide (k ∈ z.cps.toList))
  | _ => .no
theorem sg_of {x : Str} {k : Nat} (h : x.cps.toList = [k]) : x = ⟨#[k]⟩ := by
  obtain ⟨⟨l⟩⟩ := x
  simp only at h
  subst h
  rfl
theorem fe_inSg {fa fb : γ → Xc Str} (ha : FE X c G a fa) (hb : FE X c G b fb) (hm : behindInMarks .In b = false := by rfl) : FE X c G (.Compare a [.In] [b] pos) (fun g => (fa g).bind fun i => (fb g).bind fun j => inSg i j) :=
  two (fun h1 h2 => pe_cmpR op_in_sign h1 h2 hm) ha hb fun {F H x y i j Q E} s r1 r2 p => by
    unfold inSg at p
    split at p
    · rename_i k hk
      exact ⟨k, j, by rw [r1.1, sg_of hk], r2.1, p.ret s rfl⟩
    · exact p.elim
theorem fe_ninSg {fa fb : γ → Xc Str} (ha : FE X c G a fa) (hb : FE X c G b fb) (hm : behindInMarks .NotIn b = false := by rfl) : FE X c G (.Compare a [.NotIn] [b] pos) (fun g => (fa g).bind fun i => (fb g).bind fun j => (inSg i j).bind fun t => Xc.ok (!t)) :=
  two (fun h1 h2 => pe_cmpR op_notIn_sign h1 h2 hm) ha hb fun {F H x y i j Q E} s r1 r2 p => by
    unfold inSg at p
    split at p
    · rename_i k hk
      exact ⟨k, j, by rw [r1.1, sg_of hk], r2.1, Po.ret (by exact p) s rfl⟩
    · exact p.elim
theorem ft_inSg {fa fb : γ → Xc Str} (ha : FE X c G a fa) (hb : FE X c G b fb) (hm : behindInMarks .In b = false := by rfl) : FT X c G (.Compare a [.In] [b] pos) (fun g => (fa g).bind fun i => (fb g).bind fun j => inSg i j) :=
  twoT (fun h1 h2 => pt_cmpR op_in_sign h1 h2 hm) ha hb fun {F H x y i j Q E} s r1 r2 p => by
    unfold inSg at p
    split at p
    · rename_i k hk
      exact ⟨k, j, by rw [r1.1, sg_of hk], r2.1, _, rfl, p.ret s⟩
    · exact p.elim
theorem ft_ninSg {fa fb : γ → Xc Str} (ha : FE X c G a fa) (hb : FE X c G b fb) (hm : behindInMarks .NotIn b = false := by rfl) : FT X c G (.Compare a [.NotIn] [b] pos) (fun g => (fa g).bind fun i => (fb g).bind fun j => (inSg i j).bind fun t => Xc.ok (!t)) :=
  twoT (fun h1 h2 => pt_cmpR op_notIn_sign h1 h2 hm) ha hb fun {F H x y i j Q E} s r1 r2 p => by
    unfold inSg at p
    split at p
    · rename_i k hk
      exact ⟨k, j, by rw [r1.1, sg_of hk], r2.1, _, rfl, PoB.ret (by exact p) s⟩
    · exact p.elim
/-- a method of a text with one argument -/
theorem strM1 {apos : Pos} {name : Str} {id : String} {r : V → List V → Hp → VK → Prop} {op : Str → α → Xc ρ} {fa : γ → Xc Str} {fb : γ → Xc α} (h : ∀ {to te : TE}, PE X a to → PE X b te → PE X (.Call (.Attribute a name apos) [b] [] pos) (tM1 r to te))
    (ha : FE X c G a fa) (hb : FE X c G b fb) (hop : ∀ {F H x y i j Q E}, Same F H → i.length ≤ sizeLine → x = .str i → Rp.is X.K F y j → Po X.K F H Q E (op i j) → r x [y] H Q) :
    FE X c G (.Call (.Attribute a name apos) [b] [] pos) (fun g => (fa g).bind fun i => (fb g).bind fun j => op i j) :=
  PE.imp (h ha hb) fun σ H Q ⟨F, g, w, q, p⟩ => by
    refine ⟨F, g, w, q, ?_⟩
    cases e1 : fa g with
    | ok i =>
      intro v F1 H1 w1 r1
      simp only [e1] at p
      have p : Po X.K F H Q (WE c.W σ) ((fb g).bind fun j => op i j) := p
      refine ⟨⟨i, r1.1⟩, F1, g, w.trans w1, G.mono q w1, ?_⟩
      cases e2 : fb g with
      | ok j =>
        intro u F2 H2 w2 r2
        simp only [e2] at p
        exact hop w2.s r1.2 r1.1 r2 (Po.on (show Po X.K F H Q (WE c.W σ) (op i j) from p) (w1.trans w2))
      | er c' fs => simp only [e2] at p; exact ErP.on (show ErP X.K F H (WE c.W σ) c' fs from p) w1
      | no => simp only [e2] at p; exact p
    | er c' fs => simp only [e1] at p; exact p
    | no => simp only [e1] at p; exact p
theorem fe_startswith {apos : Pos} {fa fb : γ → Xc Str} (ha : FE X c G a fa) (hb : FE X c G b fb) (hs : starEach [b] X.env = [(false, eval b X.env)] := by rfl) (hbase : attributeBase a "startswith" X.env (eval a X.env) = eval a X.env := by rfl)
    (hline : (apos.endLine == pos.line) = true := by rfl) : FE X c G (.Call (.Attribute a "startswith" apos) [b] [] pos) (fun g => (fa g).bind fun i => (fb g).bind fun j => Xc.ok (Txt.startswith i j)) :=
  strM1 (id := "str.startswith") (fun h1 h2 => pe_m1 F.slot_str_startswith F.type_str_startswith mt_startswith h1 h2 hs hbase hline) ha hb fun {F H x y i j Q E} s hi hx hy p => by exact ⟨i, j, hx, by rw [hy.1], p.ret s rfl⟩
theorem fe_find {apos : Pos} {fa fb : γ → Xc Str} (ha : FE X c G a fa) (hb : FE X c G b fb) (hs : starEach [b] X.env = [(false, eval b X.env)] := by rfl) (hbase : attributeBase a "find" X.env (eval a X.env) = eval a X.env := by rfl)
    (hline : (apos.endLine == pos.line) = true := by rfl) : FE X c G (.Call (.Attribute a "find" apos) [b] [] pos) (fun g => (fa g).bind fun i => (fb g).bind fun j => Xc.ok (Txt.find i j)) :=
  strM1 (id := "str.find") (fun h1 h2 => pe_m1 F.slot_str_find F.type_str_find mt_find h1 h2 hs hbase hline) ha hb fun {F H x y i j Q E} s hi hx hy p => by exact ⟨i, j, hx, by rw [hy.1], p.ret s rfl⟩
/-- text.partition(sep): three texts -/
@[irreducible] def partX (x y : Str) : Xc (T3 Str Str Str) := if (y.length == 0) = false ∧ (Txt.partition x y).1.length ≤ sizeLine ∧ (Txt.partition x y).2.1.length ≤ sizeLine ∧ (Txt.partition x y).2.2.length ≤ sizeLine then .ok (show T3 Str Str Str from Txt.partition x y) else .no
theorem fe_partition {apos : Pos} {fa fb : γ → Xc Str} (ha : FE X c G a fa) (hb : FE X c G b fb) (hs : starEach [b] X.env = [(false, eval b X.env)] := by rfl) (hbase : attributeBase a "partition" X.env (eval a X.env) = eval a X.env := by rfl)
    (hline : (apos.endLine == pos.line) = true := by rfl) : FE X c G (.Call (.Attribute a "partition" apos) [b] [] pos) (fun g => (fa g).bind fun i => (fb g).bind fun j => partX i j) :=
  strM1 (id := "str.partition") (fun h1 h2 => pe_partition h1 h2 hs hbase hline) ha hb fun {F H x y i j Q E} s hi hx hy p => by
    unfold partX at p
    by_cases h : (j.length == 0) = false ∧ (Txt.partition i j).1.length ≤ sizeLine ∧ (Txt.partition i j).2.1.length ≤ sizeLine ∧ (Txt.partition i j).2.2.length ≤ sizeLine
    · rw [if_pos h] at p
      exact ⟨i, j, hx, by rw [hy.1], h.1, hi, fun k hk => p (.ref k) _ _ (Wd.new s hk) ⟨k, _, _, _, rfl, SqT.of upd_same, ⟨rfl, h.2.1⟩, ⟨rfl, h.2.2.1⟩, ⟨rfl, h.2.2.2⟩⟩⟩
    · rw [if_neg h] at p; exact p.elim
end

/-! ### isinstance, by a built-in class -/
class HasTy (α : Type) [Rp α] where
  ty : α → String
  is : ∀ {K F H v} {a : α}, Same F H → Rp.is K F v a → TyX K H v (.type (ty a))
theorem tyx_seqL {K : PySem.W.Frag} {H : Hp} {q : Addr} {xs : List V} (h : SqL K H q xs) : TyX K H (.ref q) (.type "list") := by
  rcases h with (h | ⟨o, h⟩) | ⟨o, its, n, h, c, _⟩
  · exact .base (.lst h)
  · exact .base (.frz h)
  · exact .kList h c
theorem tyx_seqT {K : PySem.W.Frag} {H : Hp} {q : Addr} {xs : List V} (h : SqT K H q xs) : TyX K H (.ref q) (.type "tuple") := by
  rcases h with (h | ⟨o, h⟩) | ⟨o, its, n, h, c, _⟩
  · exact .base (.tup h)
  · exact .fTuple h
  · exact .kTuple h c
instance : HasTy Int := ⟨fun _ => "int", fun s h => by have h : _ = V.int _ := h; subst h; exact .base (.int _)⟩
instance : HasTy Bool := ⟨fun _ => "bool", fun s h => by have h : _ = V.bl _ := h; subst h; exact .base (.bl _)⟩
instance : HasTy Str := ⟨fun _ => "str", fun s h => by have h : _ = V.str _ := h.1; subst h; exact .base (.str _)⟩
instance {α : Type} [Rp α] : HasTy (List α) := ⟨fun _ => "list", fun s h => by obtain ⟨q, xs, e, hq, z, r⟩ := h; subst e; exact tyx_seqL (Same.seq s hq)⟩
instance {α : Type} [Rp α] : HasTy (Tu α) := ⟨fun _ => "tuple", fun s h => by obtain ⟨q, xs, e, hq, z, r⟩ := h; subst e; exact tyx_seqT (Same.seqT s hq)⟩
instance {α β : Type} [Rp α] [Rp β] : HasTy (α × β) := ⟨fun _ => "tuple", fun s h => by obtain ⟨q, x, y, e, hq, _⟩ := h; subst e; exact tyx_seqT (Same.seqT s hq)⟩
instance {α β γ : Type} [Rp α] [Rp β] [Rp γ] : HasTy (T3 α β γ) := ⟨fun _ => "tuple", fun s h => by obtain ⟨q, x, y, z, e, hq, _⟩ := h; subst e; exact tyx_seqT (Same.seqT s hq)⟩
def tyD : PyData → String
  | .none => "NoneType"
  | .bool _ => "bool"
  | .int _ => "int"
  | .str _ => "str"
  | .list _ => "list"
  | .tuple _ => "tuple"
  | _ => "?"
instance : HasTy PyData := ⟨tyD, fun {K F H v a} s h => by
  obtain ⟨h, _⟩ := h
  cases h with
  | non => exact .base .non
  | bl b => exact .base (.bl b)
  | int i => exact .base (.int i)
  | str x => exact .base (.str x)
  | lst h _ => exact tyx_seqL (Same.seq s h)
  | tup h _ => exact tyx_seqT (Same.seqT s h)⟩
@[irreducible] def isiX (t T : String) : Xc Bool := match kitB t T with
  | some b => .ok b
  | none => .no
theorem fe_isi {X : Cx} {c : C0} {γ α : Type} {G : EnvT γ} [Rp α] {a : Expr} {pos p p2 : Pos} [HasTy α] {fa : γ → Xc α} {T : Str} {U : String} (ha : FE X c G a fa) (hm : X.mg "isinstance" = none) (hmT : X.mg T = none) (hvT : bootBuiltins T = some (.type U) := by decide +kernel)
    (hg : Gl X "isinstance" := by rfl) (hgT : Gl X T := by rfl) (hn : T ≠ "__name__" := by decide) (hd : (T == ("__debug__" : Str)) = false := by decide)
    (hs : starEach [a, .Name T p2] X.env = (false, eval a X.env) :: starEach [.Name T p2] X.env := by rfl) (hs2 : starEach [.Name T p2] X.env = (false, eval (.Name T p2) X.env) :: starEach [] X.env := by rfl)
    (hpl : (backTo pos (starEach [.Name T p2] X.env)).any (·.1) = false := by rfl) : FE X c G (.Call (.Name "isinstance" p) [a, .Name T p2] [] pos) (fun g => (fa g).bind fun i => isiX (HasTy.ty i) U) :=
  PE.imp (pe_callB call_isi hg hm PyProof.Rows.boot_isinstance (pa_cons ha (pa_cons (pe_bltn (v := .ty U) hgT hmT hvT rfl hn hd) pa_nil hs2) hs) (he := hs) (hpl := hpl)) fun σ H Q ⟨F, g, w, q, h⟩ => by
    refine ⟨F, g, w, q, ?_⟩
    cases e1 : fa g with
    | ok i =>
      intro v F1 H1 w1 r1
      simp only [e1] at h
      have h : Po X.K F H Q (WE c.W σ) (isiX (HasTy.ty i) U) := h
      unfold isiX at h
      cases e2 : kitB (HasTy.ty i) U with
      | none => rw [e2] at h; exact h.elim
      | some b =>
        rw [e2] at h
        exact ⟨v, .ty U, .type (HasTy.ty i), .type U, b, rfl, .ty U, HasTy.is w1.s r1, kit_ty e2, (Po.on h w1).ret w1.s rfl⟩
    | er c' fs => simp only [e1] at h; exact h
    | no => simp only [e1] at h; exact h
end FL

/-! FL5: statements: stores, ifs, returns, loops. -/
namespace FL
open PySem L2
/-- behind a statement: the frozen heap has grown, the world is the entry's -/
structure Ws (c : C0) (F F' H' : Hp) : Prop where
  f : Same F F'
  w : Wd c.F0 c.H0 F' H'
theorem Ws.trans {c : C0} {F F1 H1 F2 H2 : Hp} (a : Ws c F F1 H1) (b : Ws c F1 F2 H2) : Ws c F F2 H2 := ⟨a.f.trans b.f, b.w⟩
theorem Ws.of {c : C0} {F H F1 H1 : Hp} (w : Wd c.F0 c.H0 F H) (a : Wd F H F1 H1) : Ws c F F1 H1 := ⟨a.f, w.trans a⟩
theorem Ws.refl {c : C0} {F H : Hp} (w : Wd c.F0 c.H0 F H) : Ws c F F H := ⟨Same.refl _, w⟩
/-- the slots that a statement may store into -/
structure Ag (M : Nat → Bool) (σ σ' : St) : Prop where
  at_ : ∀ i : Nat, M i = false → σ'[i]? = σ[i]?
  len : σ'.length = σ.length
theorem Ag.refl {M : Nat → Bool} {σ : St} : Ag M σ σ := ⟨fun _ _ => rfl, rfl⟩
theorem Ag.trans {M : Nat → Bool} {σ σ1 σ2 : St} (a : Ag M σ σ1) (b : Ag M σ1 σ2) : Ag M σ σ2 := ⟨fun i h => (b.at_ i h).trans (a.at_ i h), b.len.trans a.len⟩
theorem Ag.set {M : Nat → Bool} {σ : St} {i : Nat} {v : Option V} (h : M i = true) : Ag M σ (σ.set i v) := ⟨fun j hj => by
  by_cases e : i = j
  · subst e; rw [h] at hj; cases hj
  · rw [List.getElem?_set_ne e], List.length_set⟩
theorem Ag.imp {M M' : Nat → Bool} {σ σ' : St} (a : Ag M σ σ') (h : ∀ i, M i = true → M' i = true) : Ag M' σ σ' := ⟨fun i hi => a.at_ i (by
  cases e : M i with
  | false => rfl
  | true => rw [h i e] at hi; cases hi), a.len⟩
/-- .. with what statements lean on -/
structure C1 extends C0 where
  M : Nat → Bool
section
variable {γ γ' γ1 γ2 : Type}
/-- the outcome of a statement that only goes on -/
def PoN (K : PySem.W.Frag) (c : C1) (G' : EnvT γ') (D : Ends) (F H : Hp) (σ : St) (m : Xc γ') : Prop := match m with
  | .ok g' => ∀ σ' F' H', Ws c.toC0 F F' H' → Ag c.M σ σ' → G'.rel K c.H0 F' H' σ' g' → D.nx σ' H'
  | .er cc fs => ∀ σ' F' H', Ws c.toC0 F F' H' → Ag c.M σ σ' → ErP K F' H' (WE c.W σ') cc fs
  | .no => False
def tN (K : PySem.W.Frag) (c : C1) (G : EnvT γ) (G' : EnvT γ') (m : γ → Xc γ') : TS := fun D σ H => ∃ F g, Wd c.F0 c.H0 F H ∧ G.rel K c.H0 F H σ g ∧ PoN K c G' D F H σ (m g)
/-- a statement (a block) that goes on: what the slots hold behind it -/
def FN (X : Cx) (c : C1) (G : EnvT γ) (st : Stmt) (G' : EnvT γ') (m : γ → Xc γ') : Prop := PS X st (tN X.K c G G' m)
def FNs (X : Cx) (c : C1) (G : EnvT γ) (sts : List Stmt) (G' : EnvT γ') (m : γ → Xc γ') : Prop := PSs X sts (tN X.K c G G' m)
theorem PS.imp {X : Cx} {st : Stmt} {t t' : TS} (h : PS X st t) (i : ∀ D σ H, t' D σ H → t D σ H) : PS X st t' := ⟨fun pins s σ H D I q => h.run pins s σ H D I (i D σ H q)⟩
theorem PSs.imp {X : Cx} {st : List Stmt} {t t' : TS} (h : PSs X st t) (i : ∀ D σ H, t' D σ H → t D σ H) : PSs X st t' := ⟨fun pins s σ H D I q => h.run pins s σ H D I (i D σ H q)⟩
theorem PoN.on {K : PySem.W.Frag} {c : C1} {G' : EnvT γ'} {D : Ends} {F H F1 H1 : Hp} {σ σ1 : St} {m : Xc γ'} (h : PoN K c G' D F H σ m) (s : Same F F1) (a : Ag c.M σ σ1) : PoN K c G' D F1 H1 σ1 m := by
  cases m with
  | ok g => exact fun σ' F' H' w b r => h σ' F' H' ⟨s.trans w.f, w.w⟩ (a.trans b) r
  | er cc fs => exact fun σ' F' H' w b => h σ' F' H' ⟨s.trans w.f, w.w⟩ (a.trans b)
  | no => exact h
/-- an exception of an expression within -/
theorem PoN.er {K : PySem.W.Frag} {c : C1} {G' : EnvT γ'} {D : Ends} {F H : Hp} {σ : St} {cc : Str} {fs : List (Str × V)} (h : PoN K c G' D F H σ (.er cc fs)) (w : Wd c.F0 c.H0 F H) : ErP K F H (WE c.W σ) cc fs :=
  h σ F H (Ws.refl w) Ag.refl
end
section
variable {X : Cx} {c : C1} {γ γ' γ1 γ2 α β ρ αs : Type} {G : EnvT γ} {G' : EnvT γ'} {G1 : EnvT γ1} {G2 : EnvT γ2} [Rp α] [Rp β] [Rp ρ] [Rps αs] {a b e : Expr} {st : Stmt} {sts : List Stmt} {pos p p2 : Pos}
theorem FN.cast {m m' : γ → Xc γ'} (h : FN X c G st G' m) (i : ∀ g, m' g = m g) : FN X c G st G' m' := by rw [show m' = m from funext i]; exact h
theorem FNs.cast {m m' : γ → Xc γ'} (h : FNs X c G sts G' m) (i : ∀ g, m' g = m g) : FNs X c G sts G' m' := by rw [show m' = m from funext i]; exact h
theorem fns_nil : FNs X c G [] G (fun g => Xc.ok g) := PSs.imp pss_nil fun D σ H ⟨F, g, w, q, h⟩ => h σ F H (Ws.refl w) Ag.refl q
theorem fns_one {m : γ → Xc γ'} (h : FN X c G st G' m) : FNs X c G [st] G' m := pss_one h
theorem fns_cons {m1 : γ → Xc γ1} {m2 : γ1 → Xc γ2} (h1 : FN X c G st G1 m1) (h2 : FNs X c G1 sts G2 m2) : FNs X c G (st :: sts) G2 (fun g => (m1 g).bind m2) :=
  PSs.imp (pss_cons h1 h2) fun D σ H ⟨F, g, w, q, h⟩ => by
    refine ⟨F, g, w, q, ?_⟩
    cases e1 : m1 g with
    | ok g1 =>
      intro σ1 F1 H1 w1 a1 q1
      simp only [e1] at h
      exact ⟨F1, g1, w1.w, q1, PoN.on (show PoN X.K c G2 D F H σ (m2 g1) from h) w1.f a1⟩
    | er c' fs => simp only [e1] at h; exact h
    | no => simp only [e1] at h; exact h
/-- x = e -/
theorem fn_set (i : Nat) {x : Str} {p' : Pos} {ψ : γ → α → γ'} [P : Put G i α G' ψ] {fa : γ → Xc α} (hM : c.M i = true) (ha : FE X c.toC0 G e fa) (hN : X.N.Nodup) (hi : X.N[i]? = some x := by rfl) (hx : Loc X.env.scope x := by first | exact Or.inl rfl | exact Or.inr rfl)
    (hs : swapsWith e (some (.Name x p')) pos.line X.env = pure false := by rfl) (hf : X.fn x = true ∨ X.env.scope.names.lookup x = some .local := by first | exact .inl rfl | exact .inr rfl) :
    FN X c G (.Assign [.Name x p'] e pos) G' (fun g => (fa g).bind fun v => Xc.ok (ψ g v)) :=
  PS.imp (ps_set hN hi hx ha hs hf) fun D σ H ⟨F, g, w, q, h⟩ => by
    refine ⟨F, g, w, q, ?_⟩
    cases e1 : fa g with
    | ok v =>
      intro u F1 H1 w1 r1
      simp only [e1] at h
      exact h (σ.set i (some u)) F1 H1 (Ws.of w w1) (Ag.set hM) (P.put (G.mono q w1) r1)
    | er c' fs => simp only [e1] at h; exact PoN.er h w
    | no => simp only [e1] at h; exact h
theorem fn_expr {fa : γ → Xc α} (ha : FE X c.toC0 G e fa) (hs : swapsWith e none pos.line X.env = pure false := by rfl) : FN X c G (.Expr e pos) G (fun g => (fa g).bind fun _ => Xc.ok g) :=
  PS.imp (ps_expr ha hs) fun D σ H ⟨F, g, w, q, h⟩ => by
    refine ⟨F, g, w, q, ?_⟩
    cases e1 : fa g with
    | ok v => intro u F1 H1 w1 r1; simp only [e1] at h; exact h σ F1 H1 (Ws.of w w1) Ag.refl (G.mono q w1)
    | er c' fs => simp only [e1] at h; exact PoN.er h w
    | no => simp only [e1] at h; exact h
theorem fn_pass : FN X c G (.Pass pos) G (fun g => Xc.ok g) := PS.imp ps_pass fun D σ H ⟨F, g, w, q, h⟩ => h σ F H (Ws.refl w) Ag.refl q
theorem fn_if {ft : γ → Xc Bool} {mA mB : γ → Xc γ'} {tA tB : List Stmt} (ht : FT X c.toC0 G e ft) (hA : FNs X c G tA G' mA) (hB : FNs X c G tB G' mB) : FN X c G (.If e tA tB pos) G' (fun g => (ft g).bind fun b => if b = true then mA g else mB g) :=
  PS.imp (ps_if ht hA hB) fun D σ H ⟨F, g, w, q, h⟩ => by
    refine ⟨F, g, w, q, ?_⟩
    cases e1 : ft g with
    | ok b =>
      intro F1 H1 w1
      simp only [e1] at h
      cases b with
      | true => exact iteT ⟨F1, g, w.trans w1, G.mono q w1, PoN.on h w1.f Ag.refl⟩
      | false => exact iteF ⟨F1, g, w.trans w1, G.mono q w1, PoN.on h w1.f Ag.refl⟩
    | er c' fs => simp only [e1] at h; exact PoN.er h w
    | no => simp only [e1] at h; exact h
end

/-! ### weakening of the slots -/
class Sub {γ γ' : Type} (G : EnvT γ) (G' : EnvT γ') (h : outParam (γ → γ')) : Prop where
  sub : ∀ {K H0 F H σ g}, G.rel K H0 F H σ g → G'.rel K H0 F H σ (h g)
  own : ∀ {K H0 F H σ g p}, G.rel K H0 F H σ g → p ∈ G'.own σ → p ∈ G.own σ
instance subNl : Sub nl nl (fun g => g) := ⟨fun h => h, fun _ h => h⟩
section
variable {α β γ γ' : Type} [Rp α] [Rp β] (G : EnvT γ) (G' : EnvT γ') (h : γ → γ') [S : Sub G G' h]
instance subVa : Sub (va α G) (va α G') (fun g => (g.1, h g.2)) := ⟨fun ⟨v, σ', e, r, q⟩ => ⟨v, σ', e, r, S.sub q⟩, fun ⟨v, σ', e, r, q⟩ m => by subst e; exact S.own q m⟩
instance subUn : Sub (un G) (un G') (fun g => h g) := ⟨fun ⟨v, σ', e, q⟩ => ⟨v, σ', e, S.sub q⟩, fun ⟨v, σ', e, q⟩ m => by subst e; exact S.own q m⟩
instance subOw : Sub (ow α G) (ow α G') (fun g => (g.1, h g.2)) := ⟨fun ⟨p, σ', xs, e, h0, f, hh, z, r, n, q⟩ => ⟨p, σ', xs, e, h0, f, hh, z, r, fun m => n (S.own q m), S.sub q⟩, fun ⟨p, σ', xs, e, h0, f, hh, z, r, n, q⟩ m => by
  subst e
  rcases List.mem_append.mp m with m | m
  · exact List.mem_append_left _ m
  · exact List.mem_append_right _ (S.own q m)⟩
instance subVaUn : Sub (va α G) (un G') (fun g => h g.2) := ⟨fun ⟨v, σ', e, r, q⟩ => ⟨_, σ', e, S.sub q⟩, fun ⟨v, σ', e, r, q⟩ m => by subst e; exact S.own q m⟩
instance subOwUn : Sub (ow α G) (un G') (fun g => h g.2) := ⟨fun ⟨p, σ', xs, e, h0, f, hh, z, r, n, q⟩ => ⟨_, σ', e, S.sub q⟩, fun ⟨p, σ', xs, e, h0, f, hh, z, r, n, q⟩ m => by subst e; exact List.mem_append_right _ (S.own q m)⟩
instance subOpt [NotNone α] : Sub (va α G) (va (Option α) G') (fun g => (some g.1, h g.2)) := ⟨fun ⟨v, σ', e, r, q⟩ => ⟨v, σ', e, ⟨NotNone.ne r, r⟩, S.sub q⟩, fun ⟨v, σ', e, r, q⟩ m => by subst e; exact S.own q m⟩
instance subNon : Sub (va Unit G) (va (Option α) G') (fun g => (none, h g.2)) := ⟨fun ⟨v, σ', e, r, q⟩ => ⟨v, σ', e, r, S.sub q⟩, fun ⟨v, σ', e, r, q⟩ m => by subst e; exact S.own q m⟩
end
section
variable {X : Cx} {c : C1} {γ γ' γ1 γ2 : Type} {G : EnvT γ} {G' : EnvT γ'} {G1 : EnvT γ1} {st : Stmt} {sts : List Stmt}
theorem PoN.sub {K : PySem.W.Frag} {h : γ1 → γ'} [S : Sub G1 G' h] {D : Ends} {F H : Hp} {σ : St} {m : Xc γ1} (p : PoN K c G' D F H σ (m.bind fun g => Xc.ok (h g))) : PoN K c G1 D F H σ m := by
  cases m with
  | ok g => exact fun σ' F' H' w a r => p σ' F' H' w a (S.sub r)
  | er cc fs => exact p
  | no => exact p
theorem fns_sub {m : γ → Xc γ1} {h : γ1 → γ'} (H : FNs X c G sts G1 m) [S : Sub G1 G' h] : FNs X c G sts G' (fun g => (m g).bind fun r => Xc.ok (h r)) :=
  PSs.imp H fun D σ H ⟨F, g, w, q, p⟩ => ⟨F, g, w, q, PoN.sub p⟩
theorem fn_pre {m : γ1 → Xc γ'} {h : γ → γ1} (H : FN X c G1 st G' m) [S : Sub G G1 h] : FN X c G st G' (fun g => m (h g)) :=
  PS.imp H fun D σ H ⟨F, g, w, q, p⟩ => ⟨F, h g, w, S.sub q, p⟩
theorem fns_pre {m : γ1 → Xc γ'} {h : γ → γ1} (H : FNs X c G1 sts G' m) [S : Sub G G1 h] : FNs X c G sts G' (fun g => m (h g)) :=
  PSs.imp H fun D σ H ⟨F, g, w, q, p⟩ => ⟨F, h g, w, S.sub q, p⟩
end

/-! ### statements that may return (or leave a loop's turn): with what follows -/
/-- what a return hands out -/
structure Rt (ρ : Type) where
  rr : PySem.W.Frag → Hp → Hp → Hp → V → ρ → Prop
def rtF (ρ : Type) [Rp ρ] : Rt ρ := ⟨fun K _ F _ v r => Rp.is K F v r⟩
def rtO (α : Type) [Rp α] : Rt (List α) := ⟨fun K H0 F H v l => ∃ p xs, v = .ref p ∧ H0 p = none ∧ F p = none ∧ H p = some (.lst xs) ∧ l.length ≤ sizeLine ∧ Al K F xs l⟩
/-- outcomes -/
structure Out (τ ρ β : Type) where
  sem : τ → (ρ → Prop) → (β → Prop) → (β → Prop) → Prop
  mono : ∀ {t P P' B B' C C'}, (∀ r, P r → P' r) → (∀ b, B b → B' b) → (∀ b, C b → C' b) → sem t P B C → sem t P' B' C'
  ret : ρ → τ
  hret : ∀ {r P B C}, sem (ret r) P B C → P r
/-- a def's: it returns -/
def outD (ρ : Type) : Out ρ ρ Unit := ⟨fun r P _ _ => P r, fun h _ _ p => h _ p, id, fun h => h⟩
/-- a loop's turn -/
inductive Lp (β ρ : Type) where
  | ct (b : β)
  | bk (b : β)
  | rt (r : ρ)
def Lp.sem {β ρ : Type} (t : Lp β ρ) (P : ρ → Prop) (B C : β → Prop) : Prop := match t with
  | .ct b => C b
  | .bk b => B b
  | .rt r => P r
def outL (β ρ : Type) : Out (Lp β ρ) ρ β := ⟨Lp.sem, fun {t _ _ _ _ _ _} h1 h2 h3 p => by cases t with
  | ct b => exact h3 _ p
  | bk b => exact h2 _ p
  | rt r => exact h1 _ p, .rt, fun h => h⟩
structure C2 (τ ρ β : Type) extends C1 where
  O : Out τ ρ β
  R : Rt ρ
  GB : EnvT β
section
variable {τ ρ β γ γ' γ1 γ2 : Type}
def Done (K : PySem.W.Frag) (c : C2 τ ρ β) (D : Ends) (F : Hp) (σ : St) (m : Xc τ) : Prop := match m with
  | .ok t => c.O.sem t (fun r => ∀ v F' H', Ws c.toC0 F F' H' → c.R.rr K c.H0 F' H' v r → D.rt v H') (fun b => ∀ σ' F' H', Ws c.toC0 F F' H' → Ag c.M σ σ' → c.GB.rel K c.H0 F' H' σ' b → D.bk σ' H') (fun b => ∀ σ' F' H', Ws c.toC0 F F' H' → Ag c.M σ σ' → c.GB.rel K c.H0 F' H' σ' b → D.ct σ' H')
  | .er cc fs => ∀ σ' F' H', Ws c.toC0 F F' H' → Ag c.M σ σ' → ErP K F' H' (WE c.W σ') cc fs
  | .no => False
theorem Done.on {K : PySem.W.Frag} {c : C2 τ ρ β} {D : Ends} {F F1 : Hp} {σ σ1 : St} {m : Xc τ} (h : Done K c D F σ m) (s : Same F F1) (a : Ag c.M σ σ1) : Done K c D F1 σ1 m := by
  cases m with
  | ok t => exact c.O.mono (fun r p v F' H' w => p v F' H' ⟨s.trans w.f, w.w⟩) (fun b p σ' F' H' w b => p σ' F' H' ⟨s.trans w.f, w.w⟩ (a.trans b)) (fun b p σ' F' H' w b => p σ' F' H' ⟨s.trans w.f, w.w⟩ (a.trans b)) h
  | er cc fs => exact fun σ' F' H' w b => h σ' F' H' ⟨s.trans w.f, w.w⟩ (a.trans b)
  | no => exact h
theorem Done.er {K : PySem.W.Frag} {c : C2 τ ρ β} {D : Ends} {F H : Hp} {σ : St} {cc : Str} {fs : List (Str × V)} (h : Done K c D F σ (.er cc fs)) (w : Wd c.F0 c.H0 F H) : ErP K F H (WE c.W σ) cc fs := h σ F H (Ws.refl w) Ag.refl
def tS (K : PySem.W.Frag) (c : C2 τ ρ β) (G : EnvT γ) (G' : EnvT γ') (f : γ → (γ' → Xc τ) → Xc τ) : TS := fun D σ H => ∃ F g k, Wd c.F0 c.H0 F H ∧ G.rel K c.H0 F H σ g ∧ Done K c D F σ (f g k) ∧
  ∀ g' σ' F' H', Ws c.toC0 F F' H' → Ag c.M σ σ' → G'.rel K c.H0 F' H' σ' g' → Done K c D F' σ' (k g') → D.nx σ' H'
def FS (X : Cx) (c : C2 τ ρ β) (G : EnvT γ) (st : Stmt) (G' : EnvT γ') (f : γ → (γ' → Xc τ) → Xc τ) : Prop := PS X st (tS X.K c G G' f)
def FSs (X : Cx) (c : C2 τ ρ β) (G : EnvT γ) (sts : List Stmt) (G' : EnvT γ') (f : γ → (γ' → Xc τ) → Xc τ) : Prop := PSs X sts (tS X.K c G G' f)
end
section
variable {X : Cx} {τ ρ β γ γ' γ1 γ2 α αs : Type} {c : C2 τ ρ β} {G : EnvT γ} {G' : EnvT γ'} {G1 : EnvT γ1} {G2 : EnvT γ2} [Rp α] [Rps αs] {a b e : Expr} {st : Stmt} {sts : List Stmt} {pos p p2 : Pos}
theorem FS.cast {f f' : γ → (γ' → Xc τ) → Xc τ} (h : FS X c G st G' f) (i : ∀ g k, f' g k = f g k) : FS X c G st G' f' := by rw [show f' = f from funext fun g => funext (i g)]; exact h
theorem FSs.cast {f f' : γ → (γ' → Xc τ) → Xc τ} (h : FSs X c G sts G' f) (i : ∀ g k, f' g k = f g k) : FSs X c G sts G' f' := by rw [show f' = f from funext fun g => funext (i g)]; exact h
theorem fs_n {m : γ → Xc γ'} (h : FN X c.toC1 G st G' m) : FS X c G st G' (fun g k => (m g).bind k) :=
  PS.imp h fun D σ H ⟨F, g, k, w, q, d, n⟩ => by
    refine ⟨F, g, w, q, ?_⟩
    cases e1 : m g with
    | ok g' => intro σ' F' H' w1 a1 q1; simp only [e1] at d; exact n g' σ' F' H' w1 a1 q1 (Done.on (show Done X.K c D F σ (k g') from d) w1.f a1)
    | er c' fs => simp only [e1] at d; exact d
    | no => simp only [e1] at d; exact d
theorem fss_n {m : γ → Xc γ'} (h : FNs X c.toC1 G sts G' m) : FSs X c G sts G' (fun g k => (m g).bind k) :=
  PSs.imp h fun D σ H ⟨F, g, k, w, q, d, n⟩ => by
    refine ⟨F, g, w, q, ?_⟩
    cases e1 : m g with
    | ok g' => intro σ' F' H' w1 a1 q1; simp only [e1] at d; exact n g' σ' F' H' w1 a1 q1 (Done.on (show Done X.K c D F σ (k g') from d) w1.f a1)
    | er c' fs => simp only [e1] at d; exact d
    | no => simp only [e1] at d; exact d
theorem fss_nil : FSs X c G [] G (fun g k => k g) := PSs.imp pss_nil fun D σ H ⟨F, g, k, w, q, d, n⟩ => n g σ F H (Ws.refl w) Ag.refl q d
theorem fss_one {f : γ → (γ' → Xc τ) → Xc τ} (h : FS X c G st G' f) : FSs X c G [st] G' f := pss_one h
theorem fss_cons {f1 : γ → (γ1 → Xc τ) → Xc τ} {f2 : γ1 → (γ2 → Xc τ) → Xc τ} (h1 : FS X c G st G1 f1) (h2 : FSs X c G1 sts G2 f2) : FSs X c G (st :: sts) G2 (fun g k => f1 g fun g1 => f2 g1 k) :=
  PSs.imp (pss_cons h1 h2) fun D σ H ⟨F, g, k, w, q, d, n⟩ =>
    ⟨F, g, fun g1 => f2 g1 k, w, q, d, fun g1 σ1 F1 H1 w1 a1 q1 d1 => ⟨F1, g1, k, w1.w, q1, d1, fun g' σ' F' H' w2 a2 q2 d2 => n g' σ' F' H' (w1.trans w2) (a1.trans a2) q2 d2⟩⟩
theorem fs_set (i : Nat) {x : Str} {p' : Pos} {ψ : γ → α → γ'} [P : Put G i α G' ψ] {fa : γ → Xc α} (hM : c.M i = true) (ha : FE X c.toC0 G e fa) (hN : X.N.Nodup) (hi : X.N[i]? = some x := by rfl) (hx : Loc X.env.scope x := by first | exact Or.inl rfl | exact Or.inr rfl)
    (hs : swapsWith e (some (.Name x p')) pos.line X.env = pure false := by rfl) (hf : X.fn x = true ∨ X.env.scope.names.lookup x = some .local := by first | exact .inl rfl | exact .inr rfl) :
    FS X c G (.Assign [.Name x p'] e pos) G' (fun g k => (fa g).bind fun v => k (ψ g v)) :=
  FS.cast (fs_n (fn_set i hM ha hN hi hx hs hf)) fun g k => by
    cases fa g <;> rfl
theorem fs_expr {fa : γ → Xc α} (ha : FE X c.toC0 G e fa) (hs : swapsWith e none pos.line X.env = pure false := by rfl) : FS X c G (.Expr e pos) G (fun g k => (fa g).bind fun _ => k g) :=
  FS.cast (fs_n (fn_expr ha hs)) fun g k => by cases fa g <;> rfl
theorem fs_if {ft : γ → Xc Bool} {fA fB : γ → (γ' → Xc τ) → Xc τ} {tA tB : List Stmt} (ht : FT X c.toC0 G e ft) (hA : FSs X c G tA G' fA) (hB : FSs X c G tB G' fB) :
    FS X c G (.If e tA tB pos) G' (fun g k => (ft g).bind fun b => if b = true then fA g k else fB g k) :=
  PS.imp (ps_if ht hA hB) fun D σ H ⟨F, g, k, w, q, d, n⟩ => by
    refine ⟨F, g, w, q, ?_⟩
    cases e1 : ft g with
    | ok b =>
      intro F1 H1 w1
      simp only [e1] at d
      have n' : ∀ g' σ' F' H', Ws c.toC0 F1 F' H' → Ag c.M σ σ' → G'.rel X.K c.H0 F' H' σ' g' → Done X.K c D F' σ' (k g') → D.nx σ' H' := fun g' σ' F' H' w2 => n g' σ' F' H' ⟨w1.f.trans w2.f, w2.w⟩
      cases b with
      | true => exact iteT ⟨F1, g, k, w.trans w1, G.mono q w1, Done.on d w1.f Ag.refl, n'⟩
      | false => exact iteF ⟨F1, g, k, w.trans w1, G.mono q w1, Done.on d w1.f Ag.refl, n'⟩
    | er c' fs => simp only [e1] at d; exact Done.er d w
    | no => simp only [e1] at d; exact d
theorem fs_retG [Rp ρ] {fa : γ → Xc ρ} {rt : ρ → τ} (hO : c.O.ret = rt) (hR : c.R = rtF ρ) (ha : FE X c.toC0 G e fa) : FS X c G (.Return (some e) pos) G' (fun g _ => (fa g).bind fun v => Xc.ok (rt v)) :=
  PS.imp (ps_ret ha) fun D σ H ⟨F, g, k, w, q, d, n⟩ => by
    refine ⟨F, g, w, q, ?_⟩
    subst hO
    cases e1 : fa g with
    | ok v => intro u F1 H1 w1 r1; simp only [e1] at d; exact c.O.hret d u F1 H1 (Ws.of w w1) (by rw [hR]; exact r1)
    | er c' fs => simp only [e1] at d; exact Done.er d w
    | no => simp only [e1] at d; exact d
theorem fs_retGO {fa : γ → Xc (List α)} {c : C2 τ (List α) β} {rt : List α → τ} (hO : c.O.ret = rt) (hR : c.R = rtO α) (ha : FO X c.toC0 G e fa) : FS X c G (.Return (some e) pos) G' (fun g _ => (fa g).bind fun v => Xc.ok (rt v)) :=
  PS.imp (ps_ret ha) fun D σ H ⟨F, g, k, w, q, d, n⟩ => by
    refine ⟨F, g, w, q, ?_⟩
    subst hO
    cases e1 : fa g with
    | ok v => intro p xs F1 H1 w1 n1 f1 h1 z r1; simp only [e1] at d; exact c.O.hret d _ F1 H1 (Ws.of w w1) (by rw [hR]; exact ⟨p, xs, rfl, w.h.free n1, f1, h1, z, r1⟩)
    | er c' fs => simp only [e1] at d; exact Done.er d w
    | no => simp only [e1] at d; exact d
/-- a def's return; a return out of a loop's turn -/
theorem fs_ret {c : C2 ρ ρ Unit} [Rp ρ] {fa : γ → Xc ρ} (ha : FE X c.toC0 G e fa) (hO : c.O.ret = id := by rfl) (hR : c.R = rtF ρ := by rfl) : FS X c G (.Return (some e) pos) G' (fun g _ => fa g) :=
  FS.cast (fs_retG hO hR ha) fun g k => by cases fa g <;> rfl
theorem fs_retO {c : C2 (List α) (List α) Unit} {fa : γ → Xc (List α)} (ha : FO X c.toC0 G e fa) (hO : c.O.ret = id := by rfl) (hR : c.R = rtO α := by rfl) : FS X c G (.Return (some e) pos) G' (fun g _ => fa g) :=
  FS.cast (fs_retGO hO hR ha) fun g k => by cases fa g <;> rfl
theorem fs_retL {c : C2 (Lp β ρ) ρ β} [Rp ρ] {fa : γ → Xc ρ} (ha : FE X c.toC0 G e fa) (hO : c.O.ret = Lp.rt := by rfl) (hR : c.R = rtF ρ := by rfl) : FS X c G (.Return (some e) pos) G' (fun g _ => (fa g).bind fun v => Xc.ok (Lp.rt v)) := fs_retG hO hR ha
theorem fs_retLO {c : C2 (Lp β (List α)) (List α) β} {fa : γ → Xc (List α)} (ha : FO X c.toC0 G e fa) (hO : c.O.ret = Lp.rt := by rfl) (hR : c.R = rtO α := by rfl) : FS X c G (.Return (some e) pos) G' (fun g _ => (fa g).bind fun v => Xc.ok (Lp.rt v)) := fs_retGO hO hR ha
/-- behind a return nothing matters -/
theorem fss_sub {f : γ → (γ1 → Xc τ) → Xc τ} {h : γ1 → γ'} (H : FSs X c G sts G1 f) [S : Sub G1 G' h] : FSs X c G sts G' (fun g k => f g fun r => k (h r)) :=
  PSs.imp H fun D σ H ⟨F, g, k, w, q, d, n⟩ => ⟨F, g, fun r => k (h r), w, q, d, fun g' σ' F' H' w1 a1 q1 d1 => n (h g') σ' F' H' w1 a1 (S.sub q1) d1⟩
theorem fs_pre {f : γ1 → (γ' → Xc τ) → Xc τ} {h : γ → γ1} (H : FS X c G1 st G' f) [S : Sub G G1 h] : FS X c G st G' (fun g k => f (h g) k) :=
  PS.imp H fun D σ H ⟨F, g, k, w, q, d, n⟩ => ⟨F, h g, k, w, S.sub q, d, n⟩
theorem fss_pre {f : γ1 → (γ' → Xc τ) → Xc τ} {h : γ → γ1} (H : FSs X c G1 sts G' f) [S : Sub G G1 h] : FSs X c G sts G' (fun g k => f (h g) k) :=
  PSs.imp H fun D σ H ⟨F, g, k, w, q, d, n⟩ => ⟨F, h g, k, w, S.sub q, d, n⟩
end
end FL

/-! FL6: defs, calls, exceptions raised, loops. -/
namespace FL
open PySem L2
/-! ### a def's promise -/
/-- from a frozen heap F: the arguments stand for as; what comes back stands for m as -/
def PoR {ρ : Type} (R : Rt ρ) (K : PySem.W.Frag) (F H : Hp) (Q : VK) (E : XK) (m : Xc ρ) : Prop := match m with
  | .ok r => ∀ v F' H', Wd F H F' H' → R.rr K H F' H' v r → Q v H'
  | .er c fs => ErP K F H E c fs
  | .no => False
def spF {αs ρ : Type} [Rps αs] (K : PySem.W.Frag) (R : Rt ρ) (m : αs → Xc ρ) : Sp := fun vs H Q E => ∃ F as, Same F H ∧ Rps.isL K F vs as ∧ PoR R K F H Q E (m as)
/-- the number of arguments -/
class RpsN (αs : Type) [Rps αs] (n : outParam Nat) : Prop where
  len : ∀ {K F vs} {as : αs}, Rps.isL K F vs as → vs.length = n
instance : RpsN Unit 0 := ⟨fun h => by subst h; rfl⟩
instance {α αs : Type} [Rp α] [Rps αs] {n : Nat} [N : RpsN αs n] : RpsN (α × αs) (n + 1) := ⟨fun ⟨v, r, e, h, t⟩ => by subst e; simp [N.len t]⟩
/-- the slots at a def's entry: its arguments, then what has no value yet -/
class StartT (αs : Type) [Rps αs] {γ : outParam Type} (G : outParam (EnvT γ)) (h : outParam (αs → γ)) : Prop where
  st : ∀ {K H0 F H vs as k}, Rps.isL K F vs as → G.rel K H0 F H (vs.map some ++ List.replicate k none) (h as)
instance : StartT Unit nl (fun _ => ()) := ⟨fun _ => trivial⟩
instance {α αs γ : Type} [Rp α] [Rps αs] (G : EnvT γ) (h : αs → γ) [S : StartT αs G h] : StartT (α × αs) (va α G) (fun a => (a.1, h a.2)) := ⟨fun ⟨v, r, e, q, t⟩ => by subst e; exact ⟨v, _, rfl, q, S.st t⟩⟩
/-- n further slots -/
def uns : Nat → EnvT Unit
  | 0 => nl
  | n + 1 => un (uns n)
theorem uns_rel {K : PySem.W.Frag} {H0 F H : Hp} : ∀ (n : Nat) (σ : St), n ≤ σ.length → (uns n).rel K H0 F H σ ()
  | 0, _, _ => trivial
  | n + 1, [], h => by simp at h
  | n + 1, x :: σ, h => ⟨x, σ, rfl, uns_rel n σ (by simpa using h)⟩
/-- the slots at a def's entry, given by the arguments' kinds and the rest -/
class EntryT (αs : Type) [Rps αs] (n : Nat) {γ : outParam Type} (G : outParam (EnvT γ)) (h : outParam (αs → γ)) : Prop where
  st : ∀ {K H0 F H vs as k}, Rps.isL K F vs as → n ≤ k → G.rel K H0 F H (vs.map some ++ List.replicate k none) (h as)
instance entry0 : EntryT Unit 0 nl (fun _ => ()) := ⟨fun _ _ => trivial⟩
instance entryU {n : Nat} {γ : Type} {G : EnvT γ} {h : Unit → γ} [S : EntryT Unit n G h] : EntryT Unit (n + 1) (un G) (fun a => h a) := ⟨fun {K H0 F H vs as k} q hk => by
  have q : vs = [] := q
  subst q
  cases k with
  | zero => simp at hk
  | succ k => exact ⟨none, List.replicate k none, rfl, S.st (as := as) (show ([] : List V) = [] from rfl) (by omega)⟩⟩
instance entryA {α αs γ : Type} [Rp α] [Rps αs] {n : Nat} {G : EnvT γ} {h : αs → γ} [S : EntryT αs n G h] : EntryT (α × αs) n (va α G) (fun a => (a.1, h a.2)) := ⟨fun ⟨v, r, e, q, t⟩ hk => by subst e; exact ⟨v, _, rfl, q, S.st t hk⟩⟩

section
variable {P : Program} {w : World} {K : PySem.W.Frag} {mg : Str → Option Value} {base : Heap} {αs ρ γ γ' : Type} [Rps αs] {G : EnvT γ} {G' : EnvT γ'} {h : αs → γ}
/-- the context of a def's body -/
def cD (ρ : Type) (R : Rt ρ) (F H : Hp) (E : XK) : C2 ρ ρ Unit := { F0 := F, H0 := H, W := fun cls d _ H => E cls d H, M := fun _ => true, O := outD ρ, R := R, GB := nl }
/-- THE RULE for a def: its body by a derivation for any context of such a kind -/
theorem fn_def {x qual : Str} {params : Arguments} {body : List Stmt} {scope : Scope} {dvs : List V} {kws : List (Str × V)} {f : Addr} {fd : FuncData} {N ps : List Str} {k n pn : Nat} {R : Rt ρ} {m : αs → Xc ρ} {fm : γ → (γ' → Xc ρ) → Xc ρ}
    (Fd : FunD K x qual params body scope dvs kws f fd) (S : FnScope N ps scope) [RN : RpsN αs pn] (hpn : ps.length = pn) [ET : EntryT αs n G h] (hn : N.length = pn + n)
    (hb : ∀ (cdv : Value) (A : Around) (outer : List Env) (s : Shared) (F H : Hp) (E : XK), Room k (A.deeper (PyProof.Rows.envOfC qual scope s.heap.objs.size f cdv)) → 
      Takes (cxOf (L2.CX P w) P w K mg base N qual scope f cdv A outer s H E) (cD ρ R F H E).W →
      FSs (cxOf (L2.CX P w) P w K mg base N qual scope f cdv A outer s H E) (cD ρ R F H E) G body G' fm)
    (hm : ∀ as, m as = fm (h as) fun _ => .no) : FnOk P w K mg base (L2.CX P w) (k + 1) f fd ps (spF K R m) := by
  refine Fd.ok S (fun vs H Q E ⟨F, as, _, r, _⟩ => by rw [hpn]; exact RN.len r) fun cdv A outer s H vs Q E hr ⟨F, as, sm, r, p⟩ => ?_
  refine ⟨_, hb cdv A outer s F H E hr (takes_of rfl rfl rfl rfl), F, h as, fun _ => .no, Wd.refl sm, ?_, ?_, fun g' σ' F' H' _ _ _ d => d.elim⟩
  · unfold L2.start
    have e : N.length - vs.length = n := by rw [RN.len r, hn]; omega
    rw [e]
    exact ET.st r (Nat.le_refl _)
  · rw [hm as] at p
    revert p
    cases fm (h as) (fun _ => .no) with
    | ok t => exact fun p v F' H' w1 rr => p v F' H' w1.w rr
    | er cc fs => exact fun p σ' F' H' w1 _ => ErP.on p w1.w
    | no => exact fun p => p
end

/-! ### calls -/
section
variable {X : Cx} {c : C0} {γ α ρ αs : Type} {G : EnvT γ} [Rp α] [Rp ρ] [Rps αs] {a b e : Expr} {pos p : Pos} {es : List Expr} {k : Nat} {f : Addr} {fd : FuncData} {ps : List Str} {x : Str}
theorem fe_call {m : αs → Xc ρ} {fs : γ → Xc αs} (F : FnOk X.prog X.w X.K X.mg X.base (L2.CX X.prog X.w) k f fd ps (spF X.K (rtF ρ) m)) (tk : Takes X c.W) (hr : Room k X.A) (hm : X.mg x = some (.ref f)) (hk : PySem.W.keepIn X.K (.ref f) = true) (hb : Binds X.K fd ps [])
    (ha : FA X c G (e :: es) fs) (hg : Gl X x := by rfl) (hdb : (x == ("__debug__" : Str)) = false := by decide) (he : starEach (e :: es) X.env = (false, eval e X.env) :: starEach es X.env := by rfl) (hpl : (backTo pos (starEach es X.env)).any (·.1) = false := by rfl) :
    FE X c G (.Call (.Name x p) (e :: es) [] pos) (fun g => (fs g).bind m) :=
  PE.imp (pe_callS (E := WE c.W) F hr hg hm hk hb (fun σ => passAt tk σ) ha hdb he hpl) fun σ H Q ⟨F, g, w, q, h⟩ => by
    refine ⟨F, g, w, q, ?_⟩
    cases e1 : fs g with
    | ok as =>
      intro vs F1 H1 w1 r1
      simp only [e1] at h
      have h : Po X.K F H Q (WE c.W σ) (m as) := h
      refine ⟨F1, as, w1.s, r1, ?_⟩
      revert h
      cases m as with
      | ok r => exact fun h v F2 H2 w2 rr => h v F2 H2 (w1.trans w2) rr
      | er cc fs => exact fun h => ErP.on h w1
      | no => exact fun h => h
    | er c' fs => simp only [e1] at h; exact h
    | no => simp only [e1] at h; exact h
theorem fo_call {m : αs → Xc (List ρ)} {fs : γ → Xc αs} (F : FnOk X.prog X.w X.K X.mg X.base (L2.CX X.prog X.w) k f fd ps (spF X.K (rtO ρ) m)) (tk : Takes X c.W) (hr : Room k X.A) (hm : X.mg x = some (.ref f)) (hk : PySem.W.keepIn X.K (.ref f) = true) (hb : Binds X.K fd ps [])
    (ha : FA X c G (e :: es) fs) (hg : Gl X x := by rfl) (hdb : (x == ("__debug__" : Str)) = false := by decide) (he : starEach (e :: es) X.env = (false, eval e X.env) :: starEach es X.env := by rfl) (hpl : (backTo pos (starEach es X.env)).any (·.1) = false := by rfl) :
    FO X c G (.Call (.Name x p) (e :: es) [] pos) (fun g => (fs g).bind m) :=
  PE.imp (pe_callS (E := WE c.W) F hr hg hm hk hb (fun σ => passAt tk σ) ha hdb he hpl) fun σ H Q ⟨F, g, w, q, h⟩ => by
    refine ⟨F, g, w, q, ?_⟩
    cases e1 : fs g with
    | ok as =>
      intro vs F1 H1 w1 r1
      simp only [e1] at h
      have h : PoO X.K F H Q (WE c.W σ) (m as) := h
      refine ⟨F1, as, w1.s, r1, ?_⟩
      revert h
      cases m as with
      | ok r =>
        intro h v F2 H2 w2 rr
        obtain ⟨p, xs, e, n, f1, h1, z, al⟩ := rr
        subst e
        exact h p xs F2 H2 (w1.trans w2) (w1.h.free n) f1 h1 z al
      | er cc fs => exact fun h => ErP.on h w1
      | no => exact fun h => h
    | er c' fs => simp only [e1] at h; exact h
    | no => simp only [e1] at h; exact h
end

/-! ### raise -/
section
variable {X : Cx} {τ ρ β γ γ' : Type} {c : C2 τ ρ β} {G : EnvT γ} {G' : EnvT γ'} {pos pos2 p p2 : Pos} {j : Nat}
/-- raise X('..'), X a plain class over ValueError -/
theorem fs_raise {x m : Str} (hc : X.calm = true) (tk : Takes X c.W) (q : PySem.W.excIn X.K (He.ga X.K x) He.veBase "ValueError.__new__" = true) (gC : X.mg x = some (.ref (He.ga X.K x))) (kC : PySem.W.keepIn X.K (.ref (He.ga X.K x)) = true)
    (h1 : PySem.W.subIn X.K (.ref (He.ga X.K x)) (.type "BaseException") = some true) (h2 : PySem.W.typeIn X.K (.ref (He.ga X.K x)) = some (.type "type")) (hg : Gl X x := by rfl) (hdb : (x == ("__debug__" : Str)) = false := by decide) :
    FS X c G (.Raise (some (.Call (.Name x p) [.Constant (.str m) j p2] [] pos)) none pos2) G' (fun _ _ => Xc.er x []) :=
  PS.imp (ps_raise hc tk (pmk_own PySem.F.excBase_ValueError q gC kC (raises_own h1 h2) hg hdb)) fun D σ H ⟨F, g, k, w, q, d, n⟩ => by
    exact d σ F H (Ws.refl w) Ag.refl F H (Wd.refl w.s)
end
end FL

/-! FL7: defs by their names. -/
namespace FL
open PySem L2
/-- the module's def x keeps the promise sp -/
structure Dk (P : Program) (w : World) (K : PySem.W.Frag) (mg : Str → Option Value) (base : Heap) (x : Str) (ps : List Str) (k : Nat) (sp : Sp) : Prop where
  ex : ∃ fd, FnOk P w K mg base (L2.CX P w) k (He.ga K x) fd ps sp ∧ Binds K fd ps []
  mg : mg x = some (.ref (He.ga K x))
  kp : PySem.W.keepIn K (.ref (He.ga K x)) = true
section
variable {X : Cx} {c : C0} {γ α ρ αs : Type} {G : EnvT γ} [Rp α] [Rp ρ] [Rps αs] {a b e : Expr} {pos p : Pos} {es : List Expr} {k j : Nat} {ps : List Str} {x : Str}
theorem fe_cal {m : αs → Xc ρ} {fs : γ → Xc αs} (D : Dk X.prog X.w X.K X.mg X.base x ps j (spF X.K (rtF ρ) m)) (tk : Takes X c.W) (hr : Room k X.A) (ha : FA X c G (e :: es) fs) (hjk : j ≤ k := by decide)
    (hg : Gl X x := by rfl) (hdb : (x == ("__debug__" : Str)) = false := by decide) (he : starEach (e :: es) X.env = (false, eval e X.env) :: starEach es X.env := by rfl) (hpl : (backTo pos (starEach es X.env)).any (·.1) = false := by rfl) :
    FE X c G (.Call (.Name x p) (e :: es) [] pos) (fun g => (fs g).bind m) := by
  obtain ⟨⟨fd, F, B⟩, h1, h2⟩ := D
  exact fe_call F tk (hr.mono hjk) h1 h2 B ha hg hdb he hpl
theorem fo_cal {m : αs → Xc (List ρ)} {fs : γ → Xc αs} (D : Dk X.prog X.w X.K X.mg X.base x ps j (spF X.K (rtO ρ) m)) (tk : Takes X c.W) (hr : Room k X.A) (ha : FA X c G (e :: es) fs) (hjk : j ≤ k := by decide)
    (hg : Gl X x := by rfl) (hdb : (x == ("__debug__" : Str)) = false := by decide) (he : starEach (e :: es) X.env = (false, eval e X.env) :: starEach es X.env := by rfl) (hpl : (backTo pos (starEach es X.env)).any (·.1) = false := by rfl) :
    FO X c G (.Call (.Name x p) (e :: es) [] pos) (fun g => (fs g).bind m) := by
  obtain ⟨⟨fd, F, B⟩, h1, h2⟩ := D
  exact fo_call F tk (hr.mono hjk) h1 h2 B ha hg hdb he hpl
end
/-- a plain class of errors over ValueError -/
structure Xk (K : PySem.W.Frag) (mg : Str → Option Value) (x : Str) : Prop where
  q : PySem.W.excIn K (He.ga K x) He.veBase "ValueError.__new__" = true
  kp : PySem.W.keepIn K (.ref (He.ga K x)) = true
  h1 : PySem.W.subIn K (.ref (He.ga K x)) (.type "BaseException") = some true
  h2 : PySem.W.typeIn K (.ref (He.ga K x)) = some (.type "type")
  mg : mg x = some (.ref (He.ga K x))
section
variable {X : Cx} {τ ρ β γ γ' : Type} {c : C2 τ ρ β} {G : EnvT γ} {G' : EnvT γ'} {pos pos2 p p2 : Pos} {j : Nat}
theorem fs_rai {x m : Str} (tk : Takes X c.W) (k : Xk X.K X.mg x) (hc : X.calm = true := by rfl) (hg : Gl X x := by rfl) (hdb : (x == ("__debug__" : Str)) = false := by decide) :
    FS X c G (.Raise (some (.Call (.Name x p) [.Constant (.str m) j p2] [] pos)) none pos2) G' (fun _ _ => Xc.er x []) := fs_raise hc tk k.q k.mg k.kp k.h1 k.h2 hg hdb
end
end FL

/-! FL8: lists of one's own: stored, read, grown, changed by place, returned. -/
namespace FL
open PySem L2
/-- the slot i holds a list of one's own -/
class AtO {γ : Type} (G : EnvT γ) (i : Nat) (α : outParam Type) (r : outParam (Rp α)) (π : outParam (γ → List α)) (put : outParam (γ → List α → γ)) : Prop where
  get : ∀ {K H0 F H σ g}, G.rel K H0 F H σ g → ∃ p xs, σ[i]? = some (some (.ref p)) ∧ p ∈ G.own σ ∧ H p = some (.lst xs) ∧ (π g).length ≤ sizeLine ∧ @Al α r K F xs (π g)
  set : ∀ {K H0 F H σ g p ys l}, G.rel K H0 F H σ g → σ[i]? = some (some (.ref p)) → l.length ≤ sizeLine → @Al α r K F ys l → G.rel K H0 F (upd H p (.lst ys)) σ (put g l)
instance {α γ : Type} [r : Rp α] (G : EnvT γ) : AtO (ow α G) 0 α r (fun g => g.1) (fun g l => (l, g.2)) := ⟨fun ⟨p, σ', xs, e, h0, f, h, z, q, n, t⟩ => ⟨p, xs, by subst e; rfl, by subst e; simp [ow, adr], h, z, q⟩,
  fun {K H0 F H σ g b ys l} ⟨p, σ', xs, e, h0, f, h, z, q, n, t⟩ e2 hz hl => by
    subst e
    have e3 : p = b := by simpa using e2
    subst e3
    exact ⟨p, σ', ys, rfl, h0, f, upd_same, hz, hl, n, G.mu t n⟩⟩
instance {α β γ : Type} [Rp β] [r : Rp α] (G : EnvT γ) (i : Nat) (π : γ → List α) (put : γ → List α → γ) [a : AtO G i α r π put] : AtO (va β G) (i + 1) α r (fun g => π g.2) (fun g l => (g.1, put g.2 l)) := ⟨fun ⟨v, σ', e, _, q⟩ => by
  obtain ⟨p, xs, e2, m, q2⟩ := a.get q
  exact ⟨p, xs, by subst e; exact e2, by subst e; exact m, q2⟩, fun ⟨v, σ', e, w, q⟩ e2 hz hl => ⟨v, σ', e, w, a.set q (by subst e; exact e2) hz hl⟩⟩
instance {α γ : Type} [r : Rp α] (G : EnvT γ) (i : Nat) (π : γ → List α) (put : γ → List α → γ) [a : AtO G i α r π put] : AtO (un G) (i + 1) α r (fun g => π g) (fun g l => put g l) := ⟨fun ⟨v, σ', e, q⟩ => by
  obtain ⟨p, xs, e2, m, q2⟩ := a.get q
  exact ⟨p, xs, by subst e; exact e2, by subst e; exact m, q2⟩, fun ⟨v, σ', e, q⟩ e2 hz hl => ⟨v, σ', e, a.set q (by subst e; exact e2) hz hl⟩⟩
instance {α β γ : Type} [Rp β] [r : Rp α] (G : EnvT γ) (i : Nat) (π : γ → List α) (put : γ → List α → γ) [a : AtO G i α r π put] : AtO (ow β G) (i + 1) α r (fun g => π g.2) (fun g l => (g.1, put g.2 l)) := ⟨fun ⟨p, σ', xs, e, h0, f, h, z, w, n, q⟩ => by
  obtain ⟨b, ys, e2, m, q2⟩ := a.get q
  exact ⟨b, ys, by subst e; exact e2, by subst e; exact List.mem_append_right _ m, q2⟩, fun {K H0 F H σ g b ys l} ⟨p, σ', xs, e, h0, f, h, z, w, n, q⟩ e2 hz hl => by
  subst e
  obtain ⟨b', _, e3, m, _⟩ := a.get q
  have e4 : b' = b := by
    have e2 : σ'[i]? = some (some (.ref b)) := e2
    rw [e3] at e2
    injection e2 with e2
    injection e2 with e2
    injection e2
  subst e4
  have ne : p ≠ b' := fun z => n (by rw [z]; exact m)
  exact ⟨p, σ', xs, rfl, h0, f, by rw [upd_ne ne]; exact h, z, w, n, a.set q e3 hz hl⟩⟩
/-- a new list of one's own goes to the slot i -/
class PutO {γ : Type} (G : EnvT γ) (i : Nat) (α : Type) [Rp α] {δ : outParam Type} (G' : outParam (EnvT δ)) (ψ : outParam (γ → List α → δ)) : Prop where
  put : ∀ {K H0 F H σ g p xs l}, G.rel K H0 F H σ g → p ∉ G.own σ → H0 p = none → F p = none → H p = some (.lst xs) → l.length ≤ sizeLine → Al K F xs l → G'.rel K H0 F H (σ.set i (some (.ref p))) (ψ g l)
  own : ∀ {K H0 F H σ g p} {b : Addr}, G.rel K H0 F H σ g → p ∈ G'.own (σ.set i (some (.ref b))) → p = b ∨ p ∈ G.own σ
instance {α β γ : Type} [Rp α] [Rp β] (G : EnvT γ) : PutO (va β G) 0 α (ow α G) (fun g l => (l, g.2)) := ⟨fun ⟨v, σ', e, _, q⟩ n h0 f h z r => ⟨_, σ', _, by subst e; rfl, h0, f, h, z, r, by subst e; exact n, q⟩,
  fun ⟨v, σ', e, _, q⟩ m => by
    subst e
    rcases List.mem_append.mp m with m | m
    · exact .inl (by simpa [adr] using m)
    · exact .inr m⟩
instance {α γ : Type} [Rp α] (G : EnvT γ) : PutO (un G) 0 α (ow α G) (fun g l => (l, g)) := ⟨fun ⟨v, σ', e, q⟩ n h0 f h z r => ⟨_, σ', _, by subst e; rfl, h0, f, h, z, r, by subst e; exact n, q⟩,
  fun ⟨v, σ', e, q⟩ m => by
    subst e
    rcases List.mem_append.mp m with m | m
    · exact .inl (by simpa [adr] using m)
    · exact .inr m⟩
instance {α β γ : Type} [Rp α] [Rp β] (G : EnvT γ) : PutO (ow β G) 0 α (ow α G) (fun g l => (l, g.2)) := ⟨fun ⟨p, σ', xs, e, _, _, _, _, _, nn, q⟩ n h0 f h z r => ⟨_, σ', _, by subst e; rfl, h0, f, h, z, r, by subst e; exact fun m => n (List.mem_append_right _ m), q⟩,
  fun ⟨p, σ', xs, e, _, _, _, _, _, nn, q⟩ m => by
    subst e
    rcases List.mem_append.mp m with m | m
    · exact .inl (by simpa [adr] using m)
    · exact .inr (List.mem_append_right _ m)⟩
instance {α β γ δ : Type} [Rp α] [Rp β] (G : EnvT γ) (i : Nat) (G' : EnvT δ) (ψ : γ → List α → δ) [P : PutO G i α G' ψ] : PutO (va β G) (i + 1) α (va β G') (fun g a => (g.1, ψ g.2 a)) :=
  ⟨fun ⟨v, σ', e, w, q⟩ n h0 f h z r => ⟨v, σ'.set i _, by subst e; rfl, w, P.put q (by subst e; exact n) h0 f h z r⟩, fun ⟨v, σ', e, w, q⟩ h => by subst e; exact P.own q h⟩
instance {α γ δ : Type} [Rp α] (G : EnvT γ) (i : Nat) (G' : EnvT δ) (ψ : γ → List α → δ) [P : PutO G i α G' ψ] : PutO (un G) (i + 1) α (un G') (fun g a => ψ g a) :=
  ⟨fun ⟨v, σ', e, q⟩ n h0 f h z r => ⟨v, σ'.set i _, by subst e; rfl, P.put q (by subst e; exact n) h0 f h z r⟩, fun ⟨v, σ', e, q⟩ h => by subst e; exact P.own q h⟩
instance {α β γ δ : Type} [Rp α] [Rp β] (G : EnvT γ) (i : Nat) (G' : EnvT δ) (ψ : γ → List α → δ) [P : PutO G i α G' ψ] : PutO (ow β G) (i + 1) α (ow β G') (fun g a => (g.1, ψ g.2 a)) :=
  ⟨fun ⟨p, σ', xs, e, h0', f', h', z', w, nn, q⟩ n h0 f h z r => by
    subst e
    refine ⟨p, σ'.set i _, xs, rfl, h0', f', h', z', w, fun m => ?_, P.put q (fun m => n (List.mem_append_right _ m)) h0 f h z r⟩
    rcases P.own q m with m | m
    · exact n (List.mem_append_left _ (by simp [adr, m]))
    · exact nn m, fun ⟨p, σ', xs, e, _, _, _, _, _, nn, q⟩ h => by
    subst e
    rcases List.mem_append.mp h with h | h
    · exact .inr (List.mem_append_left _ h)
    · rcases P.own q h with h | h
      · exact .inl h
      · exact .inr (List.mem_append_right _ h)⟩

section
variable {X : Cx} {c : C1} {γ γ' α β : Type} {G : EnvT γ} {G' : EnvT γ'} [Rp α] [Rp β] {a b e : Expr} {pos p1 p2 : Pos} {x : Str}
/-- x = [..], x's list one's own -/
theorem fn_setO (i : Nat) {p' : Pos} {ψ : γ → List α → γ'} [P : PutO G i α G' ψ] {fa : γ → Xc (List α)} (hM : c.M i = true) (ha : FO X c.toC0 G e fa) (hN : X.N.Nodup) (hi : X.N[i]? = some x := by rfl) (hx : Loc X.env.scope x := by first | exact Or.inl rfl | exact Or.inr rfl)
    (hs : swapsWith e (some (.Name x p')) pos.line X.env = pure false := by rfl) (hf : X.fn x = true ∨ X.env.scope.names.lookup x = some .local := by first | exact .inl rfl | exact .inr rfl) :
    FN X c G (.Assign [.Name x p'] e pos) G' (fun g => (fa g).bind fun v => Xc.ok (ψ g v)) :=
  PS.imp (ps_set hN hi hx ha hs hf) fun D σ H ⟨F, g, w, q, h⟩ => by
    refine ⟨F, g, w, q, ?_⟩
    cases e1 : fa g with
    | ok v =>
      intro p xs F1 H1 w1 n f1 h1 z r1
      simp only [e1] at h
      have q1 := G.mono q w1
      refine h (σ.set i (some (.ref p))) F1 H1 (Ws.of w w1) (Ag.set hM) (P.put q1 (fun m => ?_) (w.h.free n) f1 h1 z r1)
      obtain ⟨_, _, ys, hy⟩ := G.al q m
      rw [n] at hy
      cases hy
    | er c' fs => simp only [e1] at h; exact PoN.er h w
    | no => simp only [e1] at h; exact h
/-- x = [.. for ..] on one line, where the block stores it -/
theorem fn_setOL (i : Nat) {tx : γ → Xc (List α)} {st : Stmt} {te : TE} {ψ : γ → List α → γ'} [P : PutO G i α G' ψ] (hM : c.M i = true) (ha : ∀ σ H Q, tO X.K c.toC0 G tx σ H Q → te σ H Q) (hs : PS X st (tAsg te (gName i))) :
    FN X c G st G' (fun g => (tx g).bind fun v => Xc.ok (ψ g v)) :=
  PS.imp hs fun D σ H ⟨F, g, w, q, h⟩ => by
    refine ha σ H _ ⟨F, g, w, q, ?_⟩
    cases e1 : tx g with
    | ok v =>
      intro p xs F1 H1 w1 n f1 h1 z r1
      simp only [e1] at h
      have q1 := G.mono q w1
      refine h (σ.set i (some (.ref p))) F1 H1 (Ws.of w w1) (Ag.set hM) (P.put q1 (fun m => ?_) (w.h.free n) f1 h1 z r1)
      obtain ⟨_, _, ys, hy⟩ := G.al q m
      rw [n] at hy
      cases hy
    | er c' fs => simp only [e1] at h; exact PoN.er h w
    | no => simp only [e1] at h; exact h
theorem fn_setL (i : Nat) {tx : γ → Xc (List α)} {st : Stmt} {te : TE} {ψ : γ → List α → γ'} [P : Put G i (List α) G' ψ] (hM : c.M i = true) (ha : ∀ σ H Q, tO X.K c.toC0 G tx σ H Q → te σ H Q) (hs : PS X st (tAsg te (gName i))) :
    FN X c G st G' (fun g => (tx g).bind fun v => Xc.ok (ψ g v)) :=
  PS.imp hs fun D σ H ⟨F, g, w, q, h⟩ => by
    refine ha σ H _ ⟨F, g, w, q, ?_⟩
    cases e1 : tx g with
    | ok v =>
      intro p xs F1 H1 w1 n f1 h1 z r1
      simp only [e1] at h
      have w2 := w1.fz n f1 h1
      exact h (σ.set i (some (.ref p))) _ H1 (Ws.of w w2) (Ag.set hM) (P.put (G.mono q w2) ⟨p, xs, rfl, SqL.of upd_same, z, r1.mono (same_new f1)⟩)
    | er c' fs => simp only [e1] at h; exact PoN.er h w
    | no => simp only [e1] at h; exact h
/-- the world behind a change of a list of one's own -/
theorem Wd.mutd {F H F' H' : Hp} {p : Addr} {o : HO} (w : Wd F H F' H') (h0 : H p = none) (f : F' p = none) : Wd F H F' (upd H' p o) :=
  ⟨w.f, fun b u e => by rw [upd_ne (ne_of_none e h0)]; exact w.h b u e, fun b u e => by rw [upd_ne (ne_of_none e f)]; exact w.s b u e, w.n⟩
@[irreducible] def appX {α : Type} (l : List α) (a : α) : Xc (List α) := if l.length < sizeLine then .ok (l ++ [a]) else .no
/-- x.append(e) -/
theorem fn_append (i : Nat) {τ : Type} {r : Rp τ} {π : γ → List τ} {put : γ → List τ → γ} [A : AtO G i τ r π put] {fa : γ → Xc τ} {apos cpos : Pos} (ha : FE X c.toC0 G e fa) (hN : X.N[i]? = some x := by rfl) (hv : Vis X.env.scope x := by first | exact Or.inl rfl | exact Or.inr (Or.inl rfl) | exact Or.inr (Or.inr rfl))
    (hd : (x == ("__debug__" : Str)) = false := by decide) (hcd : (x == ("__classdict__" : Str)) = false := by decide) (hbase : attributeBase (.Name x p1) "append" X.env (eval (.Name x p1) X.env) = eval (.Name x p1) X.env := by rfl)
    (hfew : ((backTo cpos (starEach [e] X.env)).all (fun x => !x.1) && (backToKw cpos (keywordEach [] X.env)).all (fun x => x.1.isSome) && decide ([e].length + ([] : List Keyword).length + (if ([] : List Keyword).isEmpty then 0 else 1) < 30)) = true := by rfl)
    (hline : (apos.endLine == cpos.line) = true := by rfl) (hs : starEach [e] X.env = (false, eval e X.env) :: starEach [] X.env := by rfl) (hplain : (backTo cpos (starEach [] X.env)).any (·.1) = false := by rfl)
    (hsw : swapsWith (.Call (.Attribute (.Name x p1) "append" apos) [e] [] cpos) none pos.line X.env = pure false := by rfl) :
    FN X c G (.Expr (.Call (.Attribute (.Name x p1) "append" apos) [e] [] cpos) pos) G (fun g => (fa g).bind fun v => (appX (π g) v).bind fun l => Xc.ok (put g l)) :=
  PS.imp (ps_expr (pe_bm PySem.F.plainAttrs_list PySem.F.slot_list_append PySem.F.type_list_append mt_append (pe_var hN hv hd hcd) (pa_cons ha pa_nil hs) hbase hfew hline hs hplain) hsw) fun D σ H ⟨F, g, w, q, h⟩ => by
    obtain ⟨p, xs, e1, m, hp, z, al⟩ := A.get q
    refine ⟨.ref p, e1, .inl ⟨rfl, _, SqL.of hp⟩, F, g, w, q, ?_⟩
    cases e2 : fa g with
    | ok v =>
      intro u F1 H1 w1 r1
      simp only [e2] at h
      have h : PoN X.K c G D F H σ ((appX (π g) v).bind fun l => Xc.ok (put g l)) := h
      unfold appX at h
      by_cases hz : (π g).length < sizeLine
      · rw [if_pos hz] at h
        refine ⟨p, xs, u, rfl, rfl, w1.h _ _ hp, by rw [al.len]; exact hz, ?_⟩
        obtain ⟨h0, hf, _⟩ := G.al q m
        have q1 := G.mono q w1
        obtain ⟨_, hf1, _⟩ := G.al q1 m
        refine h σ F1 _ ⟨w1.f, (w.trans w1).mutd h0 hf1⟩ Ag.refl ?_
        exact A.set q1 e1 (by simp; omega) ((al.mono w1.f).snoc r1)
      · rw [if_neg hz] at h; exact h.elim
    | er c' fs => simp only [e2] at h; exact PoN.er h w
    | no => simp only [e2] at h; exact h
@[irreducible] def setX {α : Type} (l : List α) (i : Int) (a : α) : Xc (List α) := match ixN l.length i with
  | some j => .ok (l.set j a)
  | none => .no
/-- x[k] = e, x a list of one's own -/
theorem fn_setix (i : Nat) {τ : Type} {r : Rp τ} {π : γ → List τ} {put : γ → List τ → γ} [A : AtO G i τ r π put] {fa : γ → Xc τ} {fk : γ → Xc Int} {spos : Pos} {k : Expr} (ha : FE X c.toC0 G e fa) (hk : FE X c.toC0 G k fk) (hN : X.N[i]? = some x := by rfl)
    (hv : Vis X.env.scope x := by first | exact Or.inl rfl | exact Or.inr (Or.inl rfl) | exact Or.inr (Or.inr rfl))
    (hd : (x == ("__debug__" : Str)) = false := by decide) (hcd : (x == ("__classdict__" : Str)) = false := by decide)
    (hs : swapsWithSole [.Subscript (.Name x p1) k spos] e pos.line X.env = pure false := by rfl) (hw : swappedStores [.Subscript (.Name x p1) k spos] e X.env = pure none := by rfl)
    (h1 : (assignEach [.Subscript (.Name x p1) k spos] X.env).map (·.2) = [assign (.Subscript (.Name x p1) k spos) X.env] := by rfl) (hps : PG X (.Subscript (.Name x p1) k spos) (gSub (tVar i) (tF X.K c.toC0 G fk) rSetL)) :
    FN X c G (.Assign [.Subscript (.Name x p1) k spos] e pos) G (fun g => (fa g).bind fun v => (fk g).bind fun j => (setX (π g) j v).bind fun l => Xc.ok (put g l)) :=
  PS.imp (ps_asg ha hps hs hw h1) fun D σ H ⟨F, g, w, q, h⟩ => by
    refine ⟨F, g, w, q, ?_⟩
    cases e2 : fa g with
    | ok v =>
      intro u F1 H1 w1 r1
      simp only [e2] at h
      have h : PoN X.K c G D F H σ ((fk g).bind fun j => (setX (π g) j v).bind fun l => Xc.ok (put g l)) := h
      have q1 := G.mono q w1
      obtain ⟨p, xs, e1, m, hp, z, al⟩ := A.get q1
      refine ⟨.ref p, e1, F1, g, w.trans w1, q1, ?_⟩
      cases e3 : fk g with
      | ok j =>
        intro jv F2 H2 w2 r2
        simp only [e3] at h
        have h : PoN X.K c G D F H σ ((setX (π g) j v).bind fun l => Xc.ok (put g l)) := h
        unfold setX at h
        have q2 := G.mono q1 w2
        obtain ⟨h0, hf2, _⟩ := G.al q2 m
        cases e4 : ixN (π g).length j with
        | none => rw [e4] at h; exact h.elim
        | some n =>
          rw [e4] at h
          refine ⟨p, xs, j, n, rfl, r2, w2.h _ _ hp, by rw [al.len]; exact e4, ?_⟩
          refine h σ F2 _ ⟨w1.f.trans w2.f, ((w.trans w1).trans w2).mutd h0 hf2⟩ Ag.refl ?_
          exact A.set q2 e1 (by simp; exact z) ((al.mono w2.f).set (Rp.mono w2.f r1) n)
      | er c' fs =>
        simp only [e3] at h
        exact ErP.on (PoN.er h w) w1
      | no => simp only [e3] at h; exact h
    | er c' fs => simp only [e2] at h; exact PoN.er h w
    | no => simp only [e2] at h; exact h
end
end FL

/-! FL9: lists of one's own lent, returned; what is walked; for; comprehensions. -/
namespace FL
open PySem L2
/-! ### data without lists: it leans on no list -/
class RpT (α : Type) [Rp α] : Prop where
  down : ∀ {K F F' v} {a : α}, (∀ p o, F p = some o → (∀ xs, o ≠ HO.lst xs) → F' p = some o) → Rp.is K F v a → Rp.is K F' v a
instance : RpT Int := ⟨fun _ h => h⟩
instance : RpT Bool := ⟨fun _ h => h⟩
instance : RpT Str := ⟨fun _ h => h⟩
instance : RpT Unit := ⟨fun _ h => h⟩
instance {α : Type} [Rp α] [RpT α] : RpT (Option α) := ⟨fun {K F F' v a} s h => by
  cases a with
  | none => exact h
  | some a => exact ⟨h.1, RpT.down s h.2⟩⟩
theorem sqT_down {K : PySem.W.Frag} {F F' : Hp} {p : Addr} {xs : List V} (s : ∀ p o, F p = some o → (∀ xs, o ≠ HO.lst xs) → F' p = some o) (h : SqT K F p xs) : SqT K F' p xs := by
  rcases h with (h | ⟨o, h⟩) | h
  · exact .inl (.inl (s _ _ h fun _ z => nomatch z))
  · exact .inl (.inr ⟨o, s _ _ h fun _ z => nomatch z⟩)
  · exact .inr h
theorem al_down {α : Type} [Rp α] [RpT α] {K : PySem.W.Frag} {F F' : Hp} {vs : List V} {as : List α} (s : ∀ p o, F p = some o → (∀ xs, o ≠ HO.lst xs) → F' p = some o) (h : Al K F vs as) : Al K F' vs as := by
  induction h with
  | nil => exact .nil
  | cons h _ ih => exact .cons (RpT.down s h) ih
instance {α : Type} [Rp α] [RpT α] : RpT (Tu α) := ⟨fun s ⟨p, xs, e, h, z, r⟩ => ⟨p, xs, e, sqT_down s h, z, al_down s r⟩⟩
instance {α β : Type} [Rp α] [Rp β] [RpT α] [RpT β] : RpT (α × β) := ⟨fun s ⟨p, x, y, e, h, r1, r2⟩ => ⟨p, x, y, e, sqT_down s h, RpT.down s r1, RpT.down s r2⟩⟩
instance {α β γ : Type} [Rp α] [Rp β] [Rp γ] [RpT α] [RpT β] [RpT γ] : RpT (T3 α β γ) := ⟨fun s ⟨p, x, y, z, e, h, r1, r2, r3⟩ => ⟨p, x, y, z, e, sqT_down s h, RpT.down s r1, RpT.down s r2, RpT.down s r3⟩⟩
instance {α β γ δ : Type} [Rp α] [Rp β] [Rp γ] [Rp δ] [RpT α] [RpT β] [RpT γ] [RpT δ] : RpT (T4 α β γ δ) := ⟨fun s ⟨p, x, y, z, u, e, h, r1, r2, r3, r4⟩ => ⟨p, x, y, z, u, e, sqT_down s h, RpT.down s r1, RpT.down s r2, RpT.down s r3, RpT.down s r4⟩⟩
/-- the slots with the lists of one's own lent -/
class Bor {γ : Type} (G : EnvT γ) {δ : outParam Type} (G' : outParam (EnvT δ)) (h : outParam (γ → δ)) : Prop where
  bor : ∀ {K H0 F H F' σ g}, G.rel K H0 F H σ g → Same F F' → (∀ p, p ∈ G.own σ → F' p = H p) → G'.rel K H0 F' H σ (h g)
instance : Bor nl nl (fun g => g) := ⟨fun h _ _ => h⟩
section
variable {α γ δ : Type} [Rp α] (G : EnvT γ) (G' : EnvT δ) (h : γ → δ) [B : Bor G G' h]
instance : Bor (va α G) (va α G') (fun g => (g.1, h g.2)) := ⟨fun ⟨v, σ', e, r, q⟩ s m => by subst e; exact ⟨v, σ', rfl, Rp.mono s r, B.bor q s m⟩⟩
instance : Bor (un G) (un G') (fun g => h g) := ⟨fun ⟨v, σ', e, q⟩ s m => by subst e; exact ⟨v, σ', rfl, B.bor q s m⟩⟩
instance : Bor (ow α G) (va (List α) G') (fun g => (g.1, h g.2)) := ⟨fun {K H0 F H F' σ g} ⟨p, σ', xs, e, h0, f, hh, z, r, n, q⟩ s m => by
  subst e
  have hp : F' p = some (.lst xs) := by rw [m p (List.mem_append_left _ (by simp [adr])), hh]
  exact ⟨.ref p, σ', rfl, ⟨p, xs, rfl, SqL.of hp, z, r.mono s⟩, B.bor q s fun b hb => m b (List.mem_append_right _ hb)⟩⟩
end
section
variable {X : Cx} {c : C0} {γ δ α β : Type} {G : EnvT γ} {G' : EnvT δ} {h : γ → δ} [Rp α] [Rp β] {e : Expr}
open Classical in
theorem lend {K : PySem.W.Frag} {F H : Hp} {σ : St} {g : γ} [B : Bor G G' h] (w : Wd c.F0 c.H0 F H) (q : G.rel K c.H0 F H σ g) : ∃ F1, Wd c.F0 c.H0 F1 H ∧ G'.rel K c.H0 F1 H σ (h g) ∧
    (∀ F2 H2, Wd F1 H F2 H2 → ∃ F3, Wd F H F3 H2 ∧ (∀ p o, F2 p = some o → (∀ xs, o ≠ HO.lst xs) → F3 p = some o) ∧ ∀ p, F2 p = none → F3 p = none) ∧ Same F F1 := by
  have s1 : Same F fun a => if a ∈ G.own σ then H a else F a := fun b o e => by
    by_cases m : b ∈ G.own σ
    · obtain ⟨_, f, _⟩ := G.al q m
      rw [e] at f; cases f
    · simp only [if_neg m]; exact e
  refine ⟨fun a => if a ∈ G.own σ then H a else F a, ⟨w.f.trans s1, w.h, fun b o e => ?_, fun b hb e => ?_⟩, B.bor q s1 fun p m => by simp only [if_pos m], fun F2 H2 w2 => ⟨fun a => if a ∈ G.own σ then none else F2 a, ⟨fun b o e => ?_, w2.h, fun b o e => ?_, fun b hb e => ?_⟩, fun p o e hl => ?_, fun p e => ?_⟩, s1⟩
  · by_cases m : b ∈ G.own σ
    · simp only [if_pos m] at e; exact e
    · simp only [if_neg m] at e; exact w.s b o e
  · by_cases m : b ∈ G.own σ
    · exact (G.al q m).1
    · simp only [if_neg m] at hb; exact w.n b hb e
  · by_cases m : b ∈ G.own σ
    · obtain ⟨_, f, _⟩ := G.al q m
      rw [e] at f; cases f
    · simp only [if_neg m]; exact w2.f b o (s1 b o e)
  · by_cases m : b ∈ G.own σ
    · simp only [if_pos m] at e; cases e
    · simp only [if_neg m] at e; exact w2.s b o e
  · by_cases m : b ∈ G.own σ
    · simp only [if_pos m] at hb; exact absurd rfl hb
    · simp only [if_neg m] at hb
      exact w2.n b hb (by simp only [if_neg m]; exact e)
  · by_cases m : p ∈ G.own σ
    · obtain ⟨_, _, xs, hx⟩ := G.al q m
      have : F2 p = some (.lst xs) := w2.f p _ (by simp only [if_pos m]; exact hx)
      rw [this] at e
      exact absurd (Option.some.inj e).symm (hl xs)
    · simp only [if_neg m]; exact e
  · by_cases m : p ∈ G.own σ
    · simp only [if_pos m]
    · simp only [if_neg m]; exact e
theorem ErP.lend {K : PySem.W.Frag} {F H F1 : Hp} {E : XK} {cc : Str} {fs : List (Str × V)} (h : ErP K F H E cc fs) (k : ∀ F2 H2, Wd F1 H F2 H2 → ∃ F3, Wd F H F3 H2) : ErP K F1 H E cc fs := by
  cases fs with
  | nil => exact fun F' H' w => by obtain ⟨F3, w3⟩ := k F' H' w; exact h F3 H' w3
  | cons f fs => exact fun F' H' d w => by obtain ⟨F3, w3⟩ := k F' H' w; exact h F3 H' d w3
theorem fe_br [B : Bor G G' h] [RpT α] {f : δ → Xc α} (ha : FE X c G' e f) : FE X c G e (fun g => f (h g)) :=
  PE.imp ha fun σ H Q ⟨F, g, w, q, p⟩ => by
    obtain ⟨F1, w1, q1, k, _⟩ := lend (B := B) w q
    refine ⟨F1, h g, w1, q1, ?_⟩
    have p : Po X.K F H Q (WE c.W σ) (f (h g)) := p
    revert p
    cases f (h g) with
    | ok a =>
      intro p v F2 H2 w2 r2
      obtain ⟨F3, w3, d⟩ := k F2 H2 w2
      exact p v F3 H2 w3 (RpT.down d.1 r2)
    | er cc fs => exact fun p => ErP.lend p fun F2 H2 w2 => let ⟨F3, w3, _⟩ := k F2 H2 w2; ⟨F3, w3⟩
    | no => exact fun p => p
theorem ft_br [B : Bor G G' h] {f : δ → Xc Bool} (ha : FT X c G' e f) : FT X c G e (fun g => f (h g)) :=
  PT.imp ha fun σ H Q ⟨F, g, w, q, p⟩ => by
    obtain ⟨F1, w1, q1, k, _⟩ := lend (B := B) w q
    refine ⟨F1, h g, w1, q1, ?_⟩
    have p : PoB X.K F H Q (WE c.W σ) (f (h g)) := p
    revert p
    cases f (h g) with
    | ok a =>
      intro p F2 H2 w2
      obtain ⟨F3, w3, d⟩ := k F2 H2 w2
      exact p F3 H2 w3
    | er cc fs => exact fun p => ErP.lend p fun F2 H2 w2 => let ⟨F3, w3, _⟩ := k F2 H2 w2; ⟨F3, w3⟩
    | no => exact fun p => p
theorem fo_br [B : Bor G G' h] [RpT α] {f : δ → Xc (List α)} (ha : FO X c G' e f) : FO X c G e (fun g => f (h g)) :=
  PE.imp ha fun σ H Q ⟨F, g, w, q, p⟩ => by
    obtain ⟨F1, w1, q1, k, _⟩ := lend (B := B) w q
    refine ⟨F1, h g, w1, q1, ?_⟩
    have p : PoO X.K F H Q (WE c.W σ) (f (h g)) := p
    revert p
    cases f (h g) with
    | ok a =>
      intro p b xs F2 H2 w2 n f2 h2 z r2
      obtain ⟨F3, w3, d⟩ := k F2 H2 w2
      exact p b xs F3 H2 w3 n (d.2 b f2) h2 z (al_down d.1 r2)
    | er cc fs => exact fun p => ErP.lend p fun F2 H2 w2 => let ⟨F3, w3, _⟩ := k F2 H2 w2; ⟨F3, w3⟩
    | no => exact fun p => p
end
end FL

/-! FL10: what is walked; targets; for; comprehensions; returns of lists of one's own. -/
namespace FL
open PySem L2
/-- the walk J over the items of l, in the frozen heap F -/
structure Wk {α : Type} [Rp α] (K : PySem.W.Frag) (J : It) (F : Hp) (l : List α) : Prop where
  len : l.length ≤ sizeLine
  stop : ∀ F' H', Same F F' → Same F' H' → J.stop l.length H'
  go : ∀ i F' H', i < l.length → Same F F' → Same F' H' → J.go i H'
  yld : ∀ i a F' H' x H'', l[i]? = some a → Same F F' → Same F' H' → J.yld i H' x H'' → ∃ F'', Wd F' H' F'' H'' ∧ Rp.is K F'' x a
def PoI {α : Type} [Rp α] (K : PySem.W.Frag) (F H : Hp) (R : It → Hp → Prop) (E : XK) (m : Xc (List α)) : Prop := match m with
  | .ok l => ∀ J F' H', Wd F H F' H' → Wk K J F' l → R J H'
  | .er c fs => ErP K F H E c fs
  | .no => False
section
variable {X : Cx} {c : C0} {γ α β : Type} {G : EnvT γ} [Rp α] [Rp β] {e a b tg : Expr} {pos p : Pos}
def FI (X : Cx) (c : C0) (G : EnvT γ) (tg iter : Expr) (f : γ → Xc (List α)) : Prop := PI X tg iter fun σ H R => ∃ F g, Wd c.F0 c.H0 F H ∧ G.rel X.K c.H0 F H σ g ∧ PoI X.K F H R (WE c.W σ) (f g)
theorem PI.imp {iter : Expr} {t t' : TI} (h : PI X tg iter t) (i : ∀ σ H R, t' σ H R → t σ H R) : PI X tg iter t' := ⟨fun pins s σ H R I q => h.run pins s σ H R I (i σ H R q)⟩
theorem FI.cast {f f' : γ → Xc (List α)} (h : FI X c G tg e f) (i : ∀ g, f' g = f g) : FI X c G tg e f' := by rw [show f' = f from funext i]; exact h
theorem sqL_one {K : PySem.W.Frag} {H : Hp} {q : Addr} {xs ys : List V} {F : Hp} (s : Same F H) (h : SqL K F q xs) : SqL K H q xs := Same.seq s h
theorem fi_list {f : γ → Xc (List α)} (h : FE X c G e f) : FI X c G tg e f :=
  PI.imp (pi_list h) fun σ H R ⟨F, g, w, q, p⟩ => by
    refine ⟨F, g, w, q, ?_⟩
    cases e1 : f g with
    | ok l =>
      rintro v F1 H1 w1 ⟨b, xs, rfl, hx, hz, r⟩
      rw [e1] at p
      refine ⟨b, rfl, ⟨xs, Same.seq w1.s hx⟩, p (Itl X.K b) F1 H1 w1 ⟨hz, fun F' H' s1 s2 => ⟨xs, Same.seq (s1.trans s2) hx, Nat.le_of_eq r.len⟩, fun i F' H' hi s1 s2 => ?_, fun i a F' H' x H'' e2 s1 s2 y => ?_⟩⟩
      · obtain ⟨v, hv, _⟩ := r.get' (List.getElem?_eq_getElem hi)
        exact ⟨xs, v, Same.seq (s1.trans s2) hx, hv⟩
      · obtain ⟨rfl, y⟩ := y
        obtain ⟨v, hv, rv⟩ := r.get' e2
        have := y xs (Same.seq (s1.trans s2) hx)
        rw [hv] at this
        cases this
        exact ⟨F', Wd.refl s2, Rp.mono s1 rv⟩
    | er c' fs => rw [e1] at p; exact p
    | no => rw [e1] at p; exact p
theorem fi_tup {f : γ → Xc (Tu α)} (h : FE X c G e f) : FI X c G tg e (fun g => (f g).bind fun t => Xc.ok t.l) :=
  PI.imp (pi_tup h) fun σ H R ⟨F, g, w, q, p⟩ => by
    refine ⟨F, g, w, q, ?_⟩
    cases e1 : f g with
    | ok l =>
      rintro v F1 H1 w1 ⟨b, xs, rfl, hx, hz, r⟩
      simp only [e1] at p
      refine ⟨b, rfl, ⟨xs, Same.seqT w1.s hx⟩, p (Itt X.K b) F1 H1 w1 ⟨hz, fun F' H' s1 s2 => ⟨xs, Same.seqT (s1.trans s2) hx, Nat.le_of_eq r.len⟩, fun i F' H' hi s1 s2 => ?_, fun i a F' H' x H'' e2 s1 s2 y => ?_⟩⟩
      · obtain ⟨v, hv, _⟩ := r.get' (List.getElem?_eq_getElem hi)
        exact ⟨xs, v, Same.seqT (s1.trans s2) hx, hv⟩
      · obtain ⟨rfl, y⟩ := y
        obtain ⟨v, hv, rv⟩ := r.get' e2
        have := y xs (Same.seqT (s1.trans s2) hx)
        rw [hv] at this
        cases this
        exact ⟨F', Wd.refl s2, Rp.mono s1 rv⟩
    | er c' fs => simp only [e1] at p; exact p
    | no => simp only [e1] at p; exact p
/-- lo, lo + 1, .. below hi -/
@[irreducible] def rangeL (lo hi : Int) : List Int := (List.range (hi - lo).toNat).map fun i => lo + (i : Nat)
@[irreducible] def rngX (lo hi : Int) : Xc (List Int) := if -(2 ^ 62) ≤ lo ∧ lo < 2 ^ 62 ∧ -(2 ^ 62) ≤ hi ∧ hi < 2 ^ 62 ∧ (hi - lo).toNat ≤ sizeLine then .ok (rangeL lo hi) else .no
theorem rangeL_len (lo hi : Int) : (rangeL lo hi).length = (hi - lo).toNat := by simp [rangeL]
theorem rangeL_get {lo hi : Int} {i : Nat} {a : Int} (h : (rangeL lo hi)[i]? = some a) : a = lo + (i : Nat) ∧ i < (hi - lo).toNat := by
  have hi' : i < (rangeL lo hi).length := (List.getElem?_eq_some_iff.mp h).1
  rw [rangeL_len] at hi'
  unfold rangeL at h
  rw [List.getElem?_map, List.getElem?_range hi'] at h
  exact ⟨(Option.some.inj h).symm, hi'⟩
theorem wk_range {K : PySem.W.Frag} {F : Hp} {lo hi : Int} (hz : (hi - lo).toNat ≤ sizeLine) : Wk K (Itr lo (hi - lo).toNat) F (rangeL lo hi) :=
  ⟨by rw [rangeL_len]; exact hz, fun F' H' _ _ => by rw [rangeL_len]; exact Nat.le_refl _, fun i F' H' h _ _ => by rw [rangeL_len] at h; exact h, fun i a F' H' x H'' e s1 s2 y => by
    obtain ⟨rfl, rfl⟩ := y
    obtain ⟨rfl, _⟩ := rangeL_get e
    exact ⟨F', Wd.refl s2, rfl⟩⟩
theorem fi_range1 {f : γ → Xc Int} (h : FE X c G a f) (hm : X.mg "range" = none) (hg : Gl X "range" := by rfl) (hs : starEach [a] X.env = (false, eval a X.env) :: starEach [] X.env := by rfl) :
    FI X c G tg (.Call (.Name "range" p) [a] [] pos) (fun g => (f g).bind fun i => rngX 0 i) :=
  PI.imp (pi_range1 hg hm (pa_cons h pa_nil hs) (hs := hs)) fun σ H R ⟨F, g, w, q, p⟩ => by
    refine ⟨F, g, w, q, ?_⟩
    cases e1 : f g with
    | ok n =>
      intro v F1 H1 w1 r1
      have r1 : v = .int n := r1
      simp only [e1] at p
      have p : PoI X.K F H R (WE c.W σ) (rngX 0 n) := p
      unfold rngX at p
      by_cases hz : -(2 ^ 62) ≤ (0 : Int) ∧ (0 : Int) < 2 ^ 62 ∧ -(2 ^ 62) ≤ n ∧ n < 2 ^ 62 ∧ (n - 0).toNat ≤ sizeLine
      · rw [if_pos hz] at p
        refine ⟨n, by rw [r1], hz.2.2.1, hz.2.2.2.1, ?_⟩
        have k := p (Itr 0 (n - 0).toNat) F1 H1 w1 (wk_range hz.2.2.2.2)
        rw [Int.sub_zero] at k
        exact k
      · rw [if_neg hz] at p; exact p.elim
    | er c' fs => simp only [e1] at p; exact p
    | no => simp only [e1] at p; exact p
theorem fi_range2 {f1 f2 : γ → Xc Int} (h1 : FE X c G a f1) (h2 : FE X c G b f2) (hm : X.mg "range" = none) (hg : Gl X "range" := by rfl) (hs : starEach [a, b] X.env = (false, eval a X.env) :: starEach [b] X.env := by rfl)
    (hs2 : starEach [b] X.env = (false, eval b X.env) :: starEach [] X.env := by rfl) : FI X c G tg (.Call (.Name "range" p) [a, b] [] pos) (fun g => (f1 g).bind fun i => (f2 g).bind fun j => rngX i j) :=
  PI.imp (pi_range2 hg hm (pa_cons h1 (pa_cons h2 pa_nil hs2) hs) (hs := hs.trans (congrArg _ hs2)) (hs2 := hs2)) fun σ H R ⟨F, g, w, q, p⟩ => by
    refine ⟨F, g, w, q, ?_⟩
    cases e1 : f1 g with
    | ok i =>
      intro v F1 H1 w1 r1
      have r1 : v = .int i := r1
      simp only [e1] at p
      have p : PoI X.K F H R (WE c.W σ) ((f2 g).bind fun j => rngX i j) := p
      refine ⟨F1, g, w.trans w1, G.mono q w1, ?_⟩
      cases e2 : f2 g with
      | ok j =>
        intro u F2 H2 w2 r2
        have r2 : u = .int j := r2
        simp only [e2] at p
        have p : PoI X.K F H R (WE c.W σ) (rngX i j) := p
        unfold rngX at p
        by_cases hz : -(2 ^ 62) ≤ i ∧ i < 2 ^ 62 ∧ -(2 ^ 62) ≤ j ∧ j < 2 ^ 62 ∧ (j - i).toNat ≤ sizeLine
        · rw [if_pos hz] at p
          exact ⟨i, j, by rw [r1, r2], ⟨hz.1, hz.2.1, hz.2.2.1, hz.2.2.2.1⟩, p (Itr i (j - i).toNat) F2 H2 (w1.trans w2) (wk_range hz.2.2.2.2)⟩
        · rw [if_neg hz] at p; exact p.elim
      | er c' fs => simp only [e2] at p; exact ErP.on (show ErP X.K F H (WE c.W σ) c' fs from p) w1
      | no => simp only [e2] at p; exact p
    | er c' fs => simp only [e1] at p; exact p
    | no => simp only [e1] at p; exact p
/-- the signs of a text, one by one -/
@[irreducible] def signs (z : Str) : List Str := z.cps.toList.map fun k => (⟨#[k]⟩ : Str)
end
/-! ### targets -/
section
variable {X : Cx} {γ γ' α β : Type} {G : EnvT γ} {G' : EnvT γ'} [Rp α] [Rp β] {pos : Pos} {x y : Str}
/-- the target tg stores an item -/
def FG (X : Cx) (M : Nat → Bool) (G : EnvT γ) (tg : Expr) (G' : EnvT γ') (vs : List Nat) (ψ : γ → α → γ') : Prop := ∃ t, PG X tg t ∧ ∀ H0 F H σ g v a (Q : St → Hp → Prop), Same F H → G.rel X.K H0 F H σ g → Rp.is X.K F v a →
  (∀ σ', Ag M σ σ' → wipe σ' vs = wipe σ vs → G'.rel X.K H0 F H σ' (ψ g a) → Q σ' H) → t v σ H Q
theorem fg_name (i : Nat) {M : Nat → Bool} {p : Pos} {ψ : γ → α → γ'} [P : Put G i α G' ψ] (hM : M i = true) (hN : X.N.Nodup) (hi : X.N[i]? = some x := by rfl) (hx : Loc X.env.scope x := by first | exact Or.inl rfl | exact Or.inr rfl)
    (hf : X.fn x = true ∨ X.env.scope.names.lookup x = some .local := by first | exact .inl rfl | exact .inr rfl) : FG X M G (.Name x p) G' [i] ψ :=
  ⟨_, pg_name hN hi hx hf, fun H0 F H σ g v a Q s q r k => k _ (Ag.set hM) (by unfold wipe wipe; rw [List.set_set]) (P.put q r)⟩
theorem fg_pair (i j : Nat) {M : Nat → Bool} {p p1 p2 : Pos} {kk} {γ1 : Type} {G1 : EnvT γ1} {ψ1 : γ → α → γ1} {ψ2 : γ1 → β → γ'} [P1 : Put G i α G1 ψ1] [P2 : Put G1 j β G' ψ2] (hM : M i = true ∧ M j = true) (hc : X.calm = true) (hN : X.N.Nodup)
    (hi : X.N[i]? = some x := by rfl) (hx : Loc X.env.scope x := by first | exact Or.inl rfl | exact Or.inr rfl) (hj : X.N[j]? = some y := by rfl) (hy : Loc X.env.scope y := by first | exact Or.inl rfl | exact Or.inr rfl)
    (hf : X.fn x = true ∨ X.env.scope.names.lookup x = some .local := by first | exact .inl rfl | exact .inr rfl) (hf2 : X.fn y = true ∨ X.env.scope.names.lookup y = some .local := by first | exact .inl rfl | exact .inr rfl)
    (pt : PG X (.Tuple [.Name x p1, .Name y p2] kk p) (gTup X.K 2 (gCons (gName i) (gCons (gName j) gNil)))) : FG X M G (.Tuple [.Name x p1, .Name y p2] kk p) G' [i, j] (fun g (a : α × β) => ψ2 (ψ1 g a.1) a.2) :=
  ⟨_, pt, fun H0 F H σ g v a Q s q r k => by
    obtain ⟨b, u, z, rfl, h, r1, r2⟩ := r
    refine ⟨b, [u, z], rfl, Same.seqT s h, rfl, u, [z], rfl, z, [], rfl, rfl, ?_⟩
    refine k _ ((Ag.set hM.1).trans (Ag.set hM.2)) ?_ (P2.put (P1.put q r1) r2)
    show ((((σ.set i (some u)).set j (some z)).set j none).set i none) = (σ.set j none).set i none
    rw [List.set_set]
    by_cases e : i = j
    · subst e; rw [List.set_set, List.set_set, List.set_set]
    · rw [List.set_comm _ _ (fun z => e z.symm), List.set_comm _ _ e, List.set_comm (some u) none e, List.set_set, List.set_comm _ _ (fun z => e z.symm)]⟩
end
/-! ### for -/
def foldX {γ α : Type} (f : γ → α → Xc γ) : List α → γ → Xc γ
  | [], g => .ok g
  | a :: l, g => (f g a).bind (foldX f l)
def forX {γ α ρ : Type} (f : γ → α → Xc (Lp γ ρ)) : List α → γ → Xc (Sum γ ρ)
  | [], g => .ok (.inl g)
  | a :: l, g => (f g a).bind fun t => match t with
    | .ct g' => forX f l g'
    | .bk g' => .ok (.inl g')
    | .rt r => .ok (.inr r)
section
variable {X : Cx} {γ γb α β ρ τ : Type} {G : EnvT γ} {Gb : EnvT γb} [Rp α] {tg iter : Expr} {body : List Stmt} {pos : Pos} {vs : List Nat}
theorem fn_for {c : C1} {ψ : γ → α → γb} {fl : γ → Xc (List α)} {mb : γb → Xc γ} (po : PassesOwn (model X.prog X.w) X.A X.env X.xe) (hi : FI X c.toC0 G tg iter fl) (hg : FG X c.M G tg Gb vs ψ) (hb : FNs X c Gb body G mb)
    (hc : X.calm = true := by rfl) (hs : ∀ x, foldedSetIterable iter X.env x = pure x := by intro _; rfl) : FN X c G (.For tg iter body [] pos) G (fun g => (fl g).bind fun l => foldX (fun g a => mb (ψ g a)) l g) := by
  obtain ⟨t, pg, ht⟩ := hg
  refine PS.imp (ps_for po hc hi pg hb hs) fun D σ H ⟨F, g, w, q, p⟩ => ⟨F, g, w, q, ?_⟩
  cases e1 : fl g with
  | er c' fs => simp only [e1] at p; exact PoN.er p w
  | no => simp only [e1] at p; exact p
  | ok l =>
    intro J F1 H1 w1 wk
    simp only [e1] at p
    have p : PoN X.K c G D F H σ (foldX (fun g a => mb (ψ g a)) l g) := p
    refine ⟨fun i m σ' H' => m = l.length - i ∧ i ≤ l.length ∧ ∃ F' g', Ws c.toC0 F1 F' H' ∧ Ag c.M σ σ' ∧ G.rel X.K c.H0 F' H' σ' g' ∧ PoN X.K c G D F' H' σ' (foldX (fun g a => mb (ψ g a)) (l.drop i) g'),
      ⟨l.length, by simp, Nat.zero_le _, F1, g, Ws.refl (w.trans w1), Ag.refl, G.mono q w1, by simpa using p.on w1.f Ag.refl⟩, ?_⟩
    rintro i m σ' H' ⟨rfl, hi', F', g', ws, ag, q', p'⟩
    by_cases hlt : i < l.length
    · refine .inr ⟨wk.go i F' H' hlt ws.f ws.w.s, fun σ'' H'' => ∃ F' g', Ws c.toC0 F1 F' H'' ∧ Ag c.M σ σ'' ∧ G.rel X.K c.H0 F' H'' σ'' g' ∧ PoN X.K c G D F' H'' σ'' (foldX (fun g a => mb (ψ g a)) (l.drop (i + 1)) g'),
        fun σ'' H'' z => ⟨l.length - (i + 1), by omega, rfl, hlt, z⟩, fun x H'' y => ?_⟩
      obtain ⟨F2, w2, r2⟩ := wk.yld i l[i] F' H' x H'' (List.getElem?_eq_getElem hlt) ws.f ws.w.s y
      refine ht c.H0 F2 H'' σ' g' x l[i] _ w2.s (G.mono q' w2) r2 fun σ2 ag2 _ q2 => ?_
      refine ⟨F2, ψ g' l[i], ws.w.trans w2, q2, ?_⟩
      rw [List.drop_eq_getElem_cons hlt] at p'
      have p' : PoN X.K c G D F' H' σ' ((mb (ψ g' l[i])).bind (foldX (fun g a => mb (ψ g a)) (l.drop (i + 1)))) := p'
      revert p'
      cases mb (ψ g' l[i]) with
      | ok g3 =>
        intro p' σ3 F3 H3 w3 a3 q3
        exact ⟨F3, g3, ⟨(ws.f.trans w2.f).trans w3.f, w3.w⟩, (ag.trans ag2).trans a3, q3, PoN.on (show PoN X.K c G D F' H' σ' (foldX (fun g a => mb (ψ g a)) (l.drop (i + 1)) g3) from p') (w2.f.trans w3.f) (ag2.trans a3)⟩
      | er cc fs => exact fun p' σ3 F3 H3 w3 a3 => p' σ3 F3 H3 ⟨w2.f.trans w3.f, w3.w⟩ (ag2.trans a3)
      | no => exact fun p' => p'
    · have e : i = l.length := by omega
      subst e
      refine .inl ⟨wk.stop F' H' ws.f ws.w.s, ?_⟩
      rw [List.drop_length] at p'
      exact p' σ' F' H' (Ws.refl ws.w) Ag.refl q'
/-- the context of a loop's turn that may leave the loop -/
def cL (c : C2 τ ρ β) (G : EnvT γ) : C2 (Lp γ ρ) ρ γ := { toC1 := c.toC1, O := outL γ ρ, R := c.R, GB := G }
theorem fs_for {c : C2 τ ρ β} {rt : ρ → τ} {ψ : γ → α → γb} {fl : γ → Xc (List α)} {fb : γb → (γ → Xc (Lp γ ρ)) → Xc (Lp γ ρ)} (po : PassesOwn (model X.prog X.w) X.A X.env X.xe) (hi : FI X c.toC0 G tg iter fl) (hg : FG X c.M G tg Gb vs ψ) (hb : FSs X (cL c G) Gb body G fb)
    (hO : ∀ r P B C, P r → c.O.sem (rt r) P B C) (hR' : ∀ r P B C, c.O.sem (rt r) P B C → P r) (hc : X.calm = true := by rfl) (hs : ∀ x, foldedSetIterable iter X.env x = pure x := by intro _; rfl) :
    FS X c G (.For tg iter body [] pos) G (fun g k => (fl g).bind fun l => (forX (fun g a => fb (ψ g a) fun g' => Xc.ok (Lp.ct g')) l g).bind fun t => match t with
      | .inl g' => k g'
      | .inr r => Xc.ok (rt r)) := by
  obtain ⟨t, pg, ht⟩ := hg
  refine PS.imp (ps_for po hc hi pg hb hs) fun D σ H ⟨F, g, k, w, q, d, n⟩ => ⟨F, g, w, q, ?_⟩
  cases e1 : fl g with
  | er c' fs => simp only [e1] at d; exact Done.er d w
  | no => simp only [e1] at d; exact d
  | ok l =>
    intro J F1 H1 w1 wk
    simp only [e1] at d
    let fin : Sum γ ρ → Xc τ := fun t => match t with
      | .inl g' => k g'
      | .inr r => Xc.ok (rt r)
    have d : Done X.K c D F σ ((forX (fun g a => fb (ψ g a) fun g' => Xc.ok (Lp.ct g')) l g).bind fin) := d
    refine ⟨fun i m σ' H' => m = l.length - i ∧ i ≤ l.length ∧ ∃ F' g', Ws c.toC0 F1 F' H' ∧ Ag c.M σ σ' ∧ G.rel X.K c.H0 F' H' σ' g' ∧ Done X.K c D F' σ' ((forX (fun g a => fb (ψ g a) fun g' => Xc.ok (Lp.ct g')) (l.drop i) g').bind fin),
      ⟨l.length, by simp, Nat.zero_le _, F1, g, Ws.refl (w.trans w1), Ag.refl, G.mono q w1, by simpa using d.on w1.f Ag.refl⟩, ?_⟩
    rintro i m σ' H' ⟨rfl, hi', F', g', ws, ag, q', d'⟩
    by_cases hlt : i < l.length
    · refine .inr ⟨wk.go i F' H' hlt ws.f ws.w.s, fun σ'' H'' => ∃ F' g', Ws c.toC0 F1 F' H'' ∧ Ag c.M σ σ'' ∧ G.rel X.K c.H0 F' H'' σ'' g' ∧ Done X.K c D F' σ'' ((forX (fun g a => fb (ψ g a) fun g' => Xc.ok (Lp.ct g')) (l.drop (i + 1)) g').bind fin),
        fun σ'' H'' z => ⟨l.length - (i + 1), by omega, rfl, hlt, z⟩, fun x H'' y => ?_⟩
      obtain ⟨F2, w2, r2⟩ := wk.yld i l[i] F' H' x H'' (List.getElem?_eq_getElem hlt) ws.f ws.w.s y
      refine ht c.H0 F2 H'' σ' g' x l[i] _ w2.s (G.mono q' w2) r2 fun σ2 ag2 _ q2 => ?_
      rw [List.drop_eq_getElem_cons hlt] at d'
      have d' : Done X.K c D F' σ' (((fb (ψ g' l[i]) fun g' => Xc.ok (Lp.ct g')).bind fun t => match t with
        | .ct g' => forX (fun g a => fb (ψ g a) fun g' => Xc.ok (Lp.ct g')) (l.drop (i + 1)) g'
        | .bk g' => .ok (.inl g')
        | .rt r => .ok (.inr r)).bind fin) := d'
      refine ⟨F2, ψ g' l[i], fun g' => Xc.ok (Lp.ct g'), ws.w.trans w2, q2, ?_, fun g3 σ3 F3 H3 w3 a3 q3 d3 => ?_⟩
      · revert d'
        cases fb (ψ g' l[i]) fun g' => Xc.ok (Lp.ct g') with
        | ok t =>
          intro d'
          cases t with
          | ct b =>
            have d' : Done X.K c D F' σ' ((forX (fun g a => fb (ψ g a) fun g' => Xc.ok (Lp.ct g')) (l.drop (i + 1)) b).bind fin) := d'
            intro σ3 F3 H3 w3 a3 q3
            exact ⟨F3, b, ⟨(ws.f.trans w2.f).trans w3.f, w3.w⟩, (ag.trans ag2).trans a3, q3, d'.on (w2.f.trans w3.f) (ag2.trans a3)⟩
          | bk b =>
            have d' : Done X.K c D F' σ' (k b) := d'
            intro σ3 F3 H3 w3 a3 q3
            exact n b σ3 F3 H3 ⟨((w1.f.trans ws.f).trans w2.f).trans w3.f, w3.w⟩ ((ag.trans ag2).trans a3) q3 (d'.on (w2.f.trans w3.f) (ag2.trans a3))
          | rt r =>
            have d' : Done X.K c D F' σ' (Xc.ok (rt r)) := d'
            intro v F3 H3 w3 r3
            exact hR' r _ _ _ d' v F3 H3 ⟨w2.f.trans w3.f, w3.w⟩ r3
        | er cc fs => exact fun d' σ3 F3 H3 w3 a3 => d' σ3 F3 H3 ⟨w2.f.trans w3.f, w3.w⟩ (ag2.trans a3)
        | no => exact fun d' => d'
      · exact d3 σ3 F3 H3 (Ws.refl w3.w) Ag.refl q3
    · have e : i = l.length := by omega
      subst e
      refine .inl ⟨wk.stop F' H' ws.f ws.w.s, ?_⟩
      rw [List.drop_length] at d'
      exact n g' σ' F' H' ⟨w1.f.trans ws.f, ws.w⟩ ag q' d'
theorem fs_break {c : C2 (Lp β ρ) ρ β} {γ' : Type} {G : EnvT γ} {G' : EnvT γ'} {h : γ → β} [S : Sub G c.GB h] (hO : c.O = outL β ρ := by rfl) : FS X c G (.Break pos) G' (fun g _ => Xc.ok (Lp.bk (h g))) :=
  PS.imp ps_break fun D σ H ⟨F, g, k, w, q, d, n⟩ => by
    unfold Done at d
    rw [hO] at d
    exact d σ F H (Ws.refl w) Ag.refl (S.sub q)
theorem fs_cont {c : C2 (Lp β ρ) ρ β} {γ' : Type} {G : EnvT γ} {G' : EnvT γ'} {h : γ → β} [S : Sub G c.GB h] (hO : c.O = outL β ρ := by rfl) : FS X c G (.Continue pos) G' (fun g _ => Xc.ok (Lp.ct (h g))) :=
  PS.imp ps_continue fun D σ H ⟨F, g, k, w, q, d, n⟩ => by
    unfold Done at d
    rw [hO] at d
    exact d σ F H (Ws.refl w) Ag.refl (S.sub q)
end
end FL

/-! FL11: comprehensions. -/
namespace FL
open PySem L2
/-! ### slots forgotten -/
class Wi1 {γ : Type} (G : EnvT γ) (i : Nat) {δ : outParam Type} (G' : outParam (EnvT δ)) (h : outParam (γ → δ)) : Prop where
  wi : ∀ {K H0 F H σ g} (x : Option V), G.rel K H0 F H σ g → G'.rel K H0 F H (σ.set i x) (h g)
  own : ∀ {K H0 F H σ g p} (x : Option V), G.rel K H0 F H σ g → p ∈ G'.own (σ.set i x) → p ∈ G.own σ
section
variable {α β γ δ : Type} [Rp α] [Rp β] (G : EnvT γ) (G' : EnvT δ) (h : γ → δ) (i : Nat)
instance : Wi1 nl i nl (fun g => g) := ⟨fun _ _ => trivial, fun _ _ m => by cases m⟩
instance : Wi1 (va α G) 0 (un G) (fun g => g.2) := ⟨fun x ⟨v, σ', e, _, q⟩ => ⟨x, σ', by subst e; rfl, q⟩, fun x ⟨v, σ', e, _, q⟩ m => by subst e; exact m⟩
instance : Wi1 (un G) 0 (un G) (fun g => g) := ⟨fun x ⟨v, σ', e, q⟩ => ⟨x, σ', by subst e; rfl, q⟩, fun x ⟨v, σ', e, q⟩ m => by subst e; exact m⟩
instance : Wi1 (ow α G) 0 (un G) (fun g => g.2) := ⟨fun x ⟨p, σ', xs, e, _, _, _, _, _, _, q⟩ => ⟨x, σ', by subst e; rfl, q⟩, fun x ⟨p, σ', xs, e, _, _, _, _, _, _, q⟩ m => by subst e; exact List.mem_append_right _ m⟩
instance [W : Wi1 G i G' h] : Wi1 (va α G) (i + 1) (va α G') (fun g => (g.1, h g.2)) := ⟨fun x ⟨v, σ', e, r, q⟩ => ⟨v, σ'.set i x, by subst e; rfl, r, W.wi x q⟩, fun x ⟨v, σ', e, r, q⟩ m => by subst e; exact W.own x q m⟩
instance [W : Wi1 G i G' h] : Wi1 (un G) (i + 1) (un G') (fun g => h g) := ⟨fun x ⟨v, σ', e, q⟩ => ⟨v, σ'.set i x, by subst e; rfl, W.wi x q⟩, fun x ⟨v, σ', e, q⟩ m => by subst e; exact W.own x q m⟩
instance [W : Wi1 G i G' h] : Wi1 (ow α G) (i + 1) (ow α G') (fun g => (g.1, h g.2)) := ⟨fun x ⟨p, σ', xs, e, h0, f, hh, z, r, n, q⟩ => ⟨p, σ'.set i x, xs, by subst e; rfl, h0, f, hh, z, r, fun m => n (W.own x q m), W.wi x q⟩, fun x ⟨p, σ', xs, e, _, _, _, _, _, _, q⟩ m => by
  subst e
  rcases List.mem_append.mp m with m | m
  · exact List.mem_append_left _ m
  · exact List.mem_append_right _ (W.own x q m)⟩
end
class Wip {γ : Type} (G : EnvT γ) (vs : List Nat) {δ : outParam Type} (G' : outParam (EnvT δ)) (h : outParam (γ → δ)) : Prop where
  wi : ∀ {K H0 F H σ g}, G.rel K H0 F H σ g → G'.rel K H0 F H (wipe σ vs) (h g)
instance {γ : Type} (G : EnvT γ) : Wip G [] G (fun g => g) := ⟨fun h => h⟩
instance {γ δ ε : Type} (G : EnvT γ) (G1 : EnvT δ) (G2 : EnvT ε) (i : Nat) (vs : List Nat) (h1 : γ → δ) (h2 : δ → ε) [W : Wip G vs G1 h1] [W1 : Wi1 G1 i G2 h2] : Wip G (i :: vs) G2 (fun g => h2 (h1 g)) := ⟨fun q => W1.wi none (W.wi q)⟩
theorem wipe_set {σ : St} {i : Nat} : ∀ {vs : List Nat}, wipe (σ.set i none) vs = (wipe σ vs).set i none
  | [] => rfl
  | v :: vs => by
    show (wipe (σ.set i none) vs).set v none = ((wipe σ vs).set v none).set i none
    rw [wipe_set]
    by_cases e : i = v
    · subst e; rfl
    · rw [List.set_comm _ _ e]
theorem wipe_wipe {σ : St} : ∀ {vs : List Nat}, wipe (wipe σ vs) vs = wipe σ vs
  | [] => rfl
  | v :: vs => by
    show (wipe ((wipe σ vs).set v none) vs).set v none = (wipe σ vs).set v none
    rw [wipe_set, wipe_wipe, List.set_set]
/-- exceptions do not leave a comprehension -/
def nx {α : Type} (m : Xc α) : Xc α := match m with
  | .ok a => .ok a
  | _ => .no
/-- [f a for a in l if t a] -/
def compX {α β : Type} (t : α → Xc Bool) (f : α → Xc β) : List α → Xc (List β)
  | [] => .ok []
  | a :: l => (nx (t a)).bind fun b => if b = true then (nx (f a)).bind fun y => (compX t f l).bind fun ys => .ok (y :: ys) else compX t f l
/-- the world of a block's code: no exception leaves it -/
abbrev cB (c : C0) : C0 := { c with W := fun _ _ _ _ => False }
section
variable {X : Cx} {γ γb γw α β : Type} {G : EnvT γ} {Gw : EnvT γw} {Gb : EnvT γb} [Rp α] [Rp β] {tg iter elt : Expr} {ifs : List Expr} {pos : Pos} {vs : List Nat} {scope : Scope} {own : List (Str × Nat)} {c : C0}
/-- the target of a block -/
def FGB (X : Cx) (scope : Scope) (G : EnvT γ) (tg : Expr) (G' : EnvT γb) (vs : List Nat) (ψ : γ → α → γb) : Prop := ∃ t, (∀ (s : Shared) (H : Hp) (C : Addr) (cl : List (Str × Addr)) (fp : List Addr), PG (X.blk s H scope (compEnvC scope cl C X.env) fp) tg t) ∧
  ∀ H0 F H σ g v a (Q : St → Hp → Prop), Same F H → G.rel X.K H0 F H σ g → Rp.is X.K F v a → (∀ σ', wipe σ' vs = wipe σ vs → G'.rel X.K H0 F H σ' (ψ g a) → Q σ' H) → t v σ H Q
theorem tO_lc {ψ : γw → α → γb} {h : γ → γw} {fl : γ → Xc (List α)} {ft : γb → Xc Bool} {f : γb → Xc β} {g : TG} [W : Wip G vs Gw h]
    (hg : ∀ H0 F H σ g' v a (Q : St → Hp → Prop), Same F H → Gw.rel X.K H0 F H σ g' → Rp.is X.K F v a → (∀ σ', wipe σ' vs = wipe σ vs → Gb.rel X.K H0 F H σ' (ψ g' a) → Q σ' H) → g v σ H Q) {σ : St} {H : Hp} {Q : VK}
    (p : tO X.K c G (fun g => (fl g).bind fun l => compX (fun a => ft (ψ (h g) a)) (fun a => f (ψ (h g) a)) l) σ H Q) :
    tLc (fun σ H R => ∃ F g, Wd c.F0 c.H0 F H ∧ G.rel X.K c.H0 F H σ g ∧ PoI X.K F H R (WE c.W σ) (fl g)) g (tT X.K (cB c) Gb ft) (tF X.K (cB c) Gb f) vs σ H Q := by
  obtain ⟨F, gg, w, q, p⟩ := p
  refine ⟨F, gg, w, q, ?_⟩
  cases e1 : fl gg with
  | er c' fs => simp only [e1] at p; exact p
  | no => simp only [e1] at p; exact p
  | ok l =>
    simp only [e1] at p
    have p : PoO X.K F H Q (WE c.W σ) (compX (fun a => ft (ψ (h gg) a)) (fun a => f (ψ (h gg) a)) l) := p
    intro J F1 H1 w1 wk D hD
    refine ⟨fun i m H' => m = l.length - i ∧ i ≤ l.length ∧ ∃ F' acc ys, Wd F1 H1 F' H' ∧ F' D = none ∧ H' D = some (.lst acc) ∧ ys.length ≤ i ∧ Al X.K F' acc ys ∧
      (PoO X.K F H Q (WE c.W σ) ((compX (fun a => ft (ψ (h gg) a)) (fun a => f (ψ (h gg) a)) (l.drop i)).bind fun zs => .ok (ys ++ zs))), ⟨l.length, by simp, Nat.zero_le _, F1, [], [], Wd.newO w1.s hD, w1.s.free hD, upd_same, Nat.le_refl _, .nil, ?_⟩, ?_⟩
    · simpa [bind_pure] using p
    rintro i m H' ⟨rfl, hi', F', acc, ys, w2, fD, hD', hy, al, p'⟩
    have HD : H D = none := by
      cases z : H D with
      | none => rfl
      | some o => rw [w1.h _ _ z] at hD; cases hD
    by_cases hlt : i < l.length
    · refine .inr ⟨wk.go i F' H' hlt w2.f w2.s, fun H'' => ∃ F' acc ys, Wd F1 H1 F' H'' ∧ F' D = none ∧ H'' D = some (.lst acc) ∧ ys.length ≤ i + 1 ∧ Al X.K F' acc ys ∧
        (PoO X.K F H Q (WE c.W σ) ((compX (fun a => ft (ψ (h gg) a)) (fun a => f (ψ (h gg) a)) (l.drop (i + 1))).bind fun zs => .ok (ys ++ zs))), fun H'' z => ⟨l.length - (i + 1), by omega, rfl, hlt, z⟩, fun x H'' y => ?_⟩
      obtain ⟨F2, w3, r2⟩ := wk.yld i l[i] F' H' x H'' (List.getElem?_eq_getElem hlt) w2.f w2.s y
      have fD2 : F2 D = none := w3.own fD hD'
      have hD2 : H'' D = some (.lst acc) := w3.h _ _ hD'
      refine hg c.H0 F2 H'' (wipe σ vs) (h gg) x l[i] _ w3.s (W.wi (G.mono q ((w1.trans w2).trans w3))) r2 fun σ2 hw q2 => ⟨by rw [hw, wipe_wipe], ?_⟩
      rw [List.drop_eq_getElem_cons hlt] at p'
      have wt := ((w.trans w1).trans w2).trans w3
      refine ⟨F2, ψ (h gg) l[i], wt, q2, ?_⟩
      cases e2 : ft (ψ (h gg) l[i]) with
      | er c' fs => simp only [compX, e2] at p'; exact p'.elim
      | no => simp only [compX, e2] at p'; exact p'.elim
      | ok b =>
        simp only [compX, e2, nx, bind_ok] at p'
        intro F3 H3 w4
        have fD3 : F3 D = none := w4.own fD2 hD2
        have hD3 : H3 D = some (.lst acc) := w4.h _ _ hD2
        cases b with
        | false =>
          simp only [Bool.false_eq_true, if_false] at p' ⊢
          exact ⟨F3, acc, ys, (w2.trans w3).trans w4, fD3, hD3, by omega, (al.mono w3.f).mono w4.f, p'⟩
        | true =>
          simp only [if_true] at p' ⊢
          refine ⟨F3, ψ (h gg) l[i], wt.trans w4, Gb.mono q2 w4, ?_⟩
          cases e3 : f (ψ (h gg) l[i]) with
          | er c' fs => simp only [e3] at p'; exact p'.elim
          | no => simp only [e3] at p'; exact p'.elim
          | ok z =>
            simp only [e3] at p'
            intro v F4 H4 w5 r5
            have fD4 : F4 D = none := w5.own fD3 hD3
            have hD4 : H4 D = some (.lst acc) := w5.h _ _ hD3
            have wl := wk.len
            refine ⟨acc, hD4, by rw [al.len]; omega, F4, acc ++ [v], ys ++ [z], ((((w2.trans w3).trans w4).trans w5).mutd hD fD4), fD4, upd_same, by simp; omega, (((al.mono w3.f).mono w4.f).mono w5.f).snoc r5, ?_⟩
            revert p'
            generalize compX (fun a => ft (ψ (h gg) a)) (fun a => f (ψ (h gg) a)) (l.drop (i + 1)) = cm
            intro p'
            cases cm with
            | ok zs => simpa [bind_ok] using p'
            | er _ _ => exact p'
            | no => exact p'
    · have e : i = l.length := by omega
      subst e
      refine .inl ⟨wk.stop F' H' w2.f w2.s, ?_⟩
      rw [List.drop_length] at p'
      have p' : PoO X.K F H Q (WE c.W σ) (.ok (ys ++ [])) := p'
      rw [List.append_nil] at p'
      exact p' D acc F' H' (w1.trans w2) HD fD hD' (Nat.le_trans hy wk.len) al
/-- a clause's tests -/
def FTs (X : Cx) (scope : Scope) (c : C0) (G : EnvT γ) (ifs : List Expr) (f : γ → Xc Bool) : Prop := ∀ (s : Shared) (H : Hp) (C : Addr) (cl : List (Str × Addr)) (fp : List Addr), PTs (X.blk s H scope (compEnvC scope cl C X.env) fp) ifs (tT X.K c G f)
theorem fts_nil : FTs X scope c G [] (fun _ => Xc.ok true) := fun s H C cl fp => ⟨fun pins s σ H Q I ⟨F, g, w, q, h⟩ => pts_nil.run pins s σ H Q I (h F H (Wd.refl w.s))⟩
theorem fts_one {e : Expr} {f : γ → Xc Bool} (h : ∀ (s : Shared) (H : Hp) (C : Addr) (cl : List (Str × Addr)) (fp : List Addr), FT (X.blk s H scope (compEnvC scope cl C X.env) fp) c G e f) : FTs X scope c G [e] f := fun s H C cl fp => pts_one (h s H C cl fp)
theorem fo_lc {ψ : γw → α → γb} {h : γ → γw} {fl : γ → Xc (List α)} {ft : γb → Xc Bool} {f : γb → Xc β} [W : Wip G vs Gw h] (hvs : own.map (·.2) = vs) (ok : BlkOk X.N X.env.scope scope own) (hN : X.N.Nodup) (hi : FI X c G tg iter fl) (hg : FGB X scope Gw tg Gb vs ψ)
    (ht : FTs X scope (cB c) Gb ifs ft) (he : ∀ (s : Shared) (H : Hp) (C : Addr) (cl : List (Str × Addr)) (fp : List Addr), FE (X.blk s H scope (compEnvC scope cl C X.env) fp) (cB c) Gb elt f) (hc : X.calm = true := by rfl) (hs : ∀ x, foldedSetIterable iter X.env x = pure x := by intro _; rfl) :
    FO X c G (.ListComp elt [⟨tg, iter, ifs, 0⟩] scope pos) (fun g => (fl g).bind fun l => compX (fun a => ft (ψ (h g) a)) (fun a => f (ψ (h g) a)) l) := by
  subst hvs
  obtain ⟨t, pg, ht'⟩ := hg
  exact PE.imp (pe_lc (te := tF X.K (cB c) Gb f) hc hN hi ok pg ht he hs) fun σ H Q p => tO_lc (W := W) ht' p
theorem fn_setLc {c : C1} {γ' : Type} {G' : EnvT γ'} (k : Nat) {y : Str} {py spos : Pos} {ψ' : γ → List β → γ'} [P : PutO G k β G' ψ'] {ψ : γw → α → γb} {h : γ → γw} {fl : γ → Xc (List α)} {ft : γb → Xc Bool} {f : γb → Xc β} [W : Wip G vs Gw h] (hvs : own.map (·.2) = vs) (hM : c.M k = true) (ok : BlkOk X.N X.env.scope scope own) (hN : X.N.Nodup) (hi : FI X c.toC0 G tg iter fl) (hg : FGB X scope Gw tg Gb vs ψ)
    (ht : FTs X scope (cB c.toC0) Gb ifs ft) (he : ∀ (s : Shared) (H : Hp) (C : Addr) (cl : List (Str × Addr)) (fp : List Addr), FE (X.blk s H scope (compEnvC scope cl C X.env) fp) (cB c.toC0) Gb elt f) (hy : X.N[k]? = some y := by rfl) (hyl : X.env.scope.names.lookup y = some .local := by rfl)
    (hsw : swapsWith (.ListComp elt [⟨tg, iter, ifs, 0⟩] scope pos) (some (.Name y py)) spos.line X.env = pure true := by exact sw_true rfl rfl rfl rfl) (hc : X.calm = true := by rfl) (hs : ∀ x, foldedSetIterable iter X.env x = pure x := by intro _; rfl) :
    FN X c G (.Assign [.Name y py] (.ListComp elt [⟨tg, iter, ifs, 0⟩] scope pos) spos) G' (fun g => ((fl g).bind fun l => compX (fun a => ft (ψ (h g) a)) (fun a => f (ψ (h g) a)) l).bind fun v => Xc.ok (ψ' g v)) := by
  subst hvs
  obtain ⟨t, pg, ht'⟩ := hg
  exact fn_setOL k hM (fun σ H Q p => tO_lc (W := W) ht' p) (ps_setLc (te := tF X.K (cB c.toC0) Gb f) hc hN hy hyl hsw hi ok pg ht he hs)
theorem fgb_name (i : Nat) {x : Str} {p : Pos} {ψ : γ → α → γb} [P : Put G i α Gb ψ] (hN : X.N.Nodup) (hi : X.N[i]? = some x := by rfl) (hx : Loc scope x := by first | exact Or.inl rfl | exact Or.inr rfl)
    (hxe : ∀ C cl, Loc (compEnvC scope cl C X.env).scope x := by intro _ _; first | exact Or.inl rfl | exact Or.inr rfl)
    (hf : ∀ C cl, (scope.names.lookup x == some .cell) = true ∨ (compEnvC scope cl C X.env).scope.names.lookup x = some .local := by intro _ _; first | exact .inl rfl | exact .inr rfl) : FGB X scope G (.Name x p) Gb [i] ψ :=
  ⟨gName i, fun s H C cl fp => pg_name hN hi (hxe C cl) (hf C cl), fun H0 F H σ g v a Q s q r k => k _ (by unfold wipe wipe; rw [List.set_set]) (P.put q r)⟩
end
end FL

/-! FL12: more of expressions and statements. -/
namespace FL
open PySem L2
/-! ### conversions -/
section
variable {X : Cx} {c : C0} {γ α β ρ : Type} {G : EnvT γ} [Rp α] [Rp β] [Rp ρ] {a b d e : Expr} {pos p : Pos}
theorem fe_to {φ : α → β} {fa : γ → Xc α} (hφ : ∀ {K F v a}, Rp.is K F v a → Rp.is K F v (φ a)) (ha : FE X c G e fa) : FE X c G e (fun g => (fa g).bind fun a => Xc.ok (φ a)) :=
  PE.imp ha fun σ H Q ⟨F, g, w, q, h⟩ => by
    refine ⟨F, g, w, q, ?_⟩
    cases e1 : fa g with
    | ok i => simp only [e1] at h; exact fun v F1 H1 w1 r1 => h v F1 H1 w1 (hφ r1)
    | er c' fs => simp only [e1] at h; exact h
    | no => simp only [e1] at h; exact h
theorem fe_from {φ : α → Xc β} {fa : γ → Xc α} (hφ : ∀ {K F v a b}, φ a = .ok b → Rp.is K F v a → Rp.is K F v b) (hn : ∀ a c fs, φ a ≠ .er c fs) (ha : FE X c G e fa) : FE X c G e (fun g => (fa g).bind φ) :=
  PE.imp ha fun σ H Q ⟨F, g, w, q, h⟩ => by
    refine ⟨F, g, w, q, ?_⟩
    cases e1 : fa g with
    | ok i =>
      simp only [e1] at h
      cases e2 : φ i with
      | ok b => intro v F1 H1 w1 r1; simp only [bind_ok, e2] at h; exact h v F1 H1 w1 (hφ e2 r1)
      | er c' fs => exact absurd e2 (hn _ _ _)
      | no => simp only [bind_ok, e2] at h; exact h.elim
    | er c' fs => simp only [e1] at h; exact h
    | no => simp only [e1] at h; exact h
end
class ToD (α : Type) [Rp α] where
  d : α → PyData
  is : ∀ {K F v} {a : α}, Rp.is K F v a → Dp K F v (d a)
instance : ToD Int := ⟨.int, fun h => by have h : _ = V.int _ := h; subst h; exact .int _⟩
instance : ToD Bool := ⟨.bool, fun h => by have h : _ = V.bl _ := h; subst h; exact .bl _⟩
instance : ToD Str := ⟨.str, fun h => by have h : _ = V.str _ := h.1; subst h; exact .str _⟩
instance : ToD Unit := ⟨fun _ => .none, fun h => by have h : _ = V.non := h; subst h; exact .non⟩
instance : ToD PyData := ⟨id, fun h => h.1⟩
theorem al_dp {α : Type} [Rp α] [ToD α] {K : PySem.W.Frag} {F : Hp} {vs : List V} {as : List α} (h : Al K F vs as) : DpAll K F vs (as.map ToD.d) := by
  induction h with
  | nil => exact .nil
  | cons h _ ih => exact .cons (ToD.is h) ih
instance {α : Type} [Rp α] [ToD α] : ToD (Option α) := ⟨fun a => match a with
  | none => .none
  | some a => ToD.d a, fun {K F v a} h => by
    cases a with
    | none => have h : _ = V.non := h; subst h; exact .non
    | some a => exact ToD.is h.2⟩
instance {α : Type} [Rp α] [ToD α] : ToD (List α) := ⟨fun l => .list (l.map ToD.d), fun ⟨p, xs, e, h, z, r⟩ => by subst e; exact .lst h (al_dp r)⟩
instance {α : Type} [Rp α] [ToD α] : ToD (Tu α) := ⟨fun l => .tuple (l.l.map ToD.d), fun ⟨p, xs, e, h, z, r⟩ => by subst e; exact .tup h (al_dp r)⟩
instance {α β : Type} [Rp α] [Rp β] [ToD α] [ToD β] : ToD (α × β) := ⟨fun t => .tuple [ToD.d t.1, ToD.d t.2], fun ⟨p, x, y, e, h, r1, r2⟩ => by subst e; exact .tup h (.cons (ToD.is r1) (.cons (ToD.is r2) .nil))⟩
instance {α β γ : Type} [Rp α] [Rp β] [Rp γ] [ToD α] [ToD β] [ToD γ] : ToD (T3 α β γ) := ⟨fun t => .tuple [ToD.d t.a, ToD.d t.b, ToD.d t.c], fun ⟨p, x, y, z, e, h, r1, r2, r3⟩ => by subst e; exact .tup h (.cons (ToD.is r1) (.cons (ToD.is r2) (.cons (ToD.is r3) .nil)))⟩
instance {α β γ δ : Type} [Rp α] [Rp β] [Rp γ] [Rp δ] [ToD α] [ToD β] [ToD γ] [ToD δ] : ToD (T4 α β γ δ) := ⟨fun t => .tuple [ToD.d t.a, ToD.d t.b, ToD.d t.c, ToD.d t.d], fun ⟨p, x, y, z, u, e, h, r1, r2, r3, r4⟩ => by subst e; exact .tup h (.cons (ToD.is r1) (.cons (ToD.is r2) (.cons (ToD.is r3) (.cons (ToD.is r4) .nil))))⟩
/-- as data -/
@[irreducible] def datX {α : Type} [Rp α] [ToD α] (a : α) : Xc PyData := if SeqAt.shaped (ToD.d a) = true then .ok (ToD.d a) else .no
/-- data as an int, as a tuple -/
@[irreducible] def asI (d : PyData) : Xc Int := match d with
  | .int i => .ok i
  | _ => .no
@[irreducible] def asT (d : PyData) : Xc (Tu PyData) := match d with
  | .tuple l => if l.length ≤ sizeLine ∧ l.all SeqAt.shaped = true then .ok (tu l) else .no
  | _ => .no
theorem dp_al {K : PySem.W.Frag} {F : Hp} : ∀ {ds : List PyData} {vs : List V}, DpAll K F vs ds → ds.all SeqAt.shaped = true → Al K F vs ds
  | [], vs, h, _ => by cases h; exact .nil
  | d :: ds, vs, h, s => by
    cases h with
    | cons h1 h2 =>
      simp only [List.all_cons, Bool.and_eq_true] at s
      exact .cons ⟨h1, s.1⟩ (dp_al h2 s.2)
section
variable {X : Cx} {c : C0} {γ α β ρ : Type} {G : EnvT γ} [Rp α] [Rp β] [Rp ρ] {a b d e : Expr} {pos p p2 : Pos}
theorem fe_dat [ToD α] {fa : γ → Xc α} (ha : FE X c G e fa) : FE X c G e (fun g => (fa g).bind datX) :=
  fe_from (fun {K F v a b} h r => by
    unfold datX at h
    by_cases z : SeqAt.shaped (ToD.d a) = true
    · rw [if_pos z] at h; cases h; exact ⟨ToD.is r, z⟩
    · rw [if_neg z] at h; cases h) (fun a c fs h => by
    unfold datX at h
    by_cases z : SeqAt.shaped (ToD.d a) = true
    · rw [if_pos z] at h; cases h
    · rw [if_neg z] at h; cases h) ha
theorem fe_asI {fa : γ → Xc PyData} (ha : FE X c G e fa) : FE X c G e (fun g => (fa g).bind asI) :=
  fe_from (fun {K F v a b} h r => by
    unfold asI at h
    split at h
    · cases h; obtain ⟨r, _⟩ := r; cases r; exact rfl
    · cases h) (fun a c fs h => by
    unfold asI at h
    split at h <;> cases h) ha
theorem fe_asT {fa : γ → Xc PyData} (ha : FE X c G e fa) : FE X c G e (fun g => (fa g).bind asT) :=
  fe_from (fun {K F v a b} h r => by
    unfold asT at h
    split at h
    · rename_i l
      by_cases z : l.length ≤ sizeLine ∧ l.all SeqAt.shaped = true
      · rw [if_pos z] at h
        cases h
        obtain ⟨r, _⟩ := r
        cases r with
        | tup hq hr => exact ⟨_, _, rfl, hq, z.1, dp_al hr z.2⟩
      · rw [if_neg z] at h; cases h
    · cases h) (fun a c fs h => by
    unfold asT at h
    split at h
    · split at h <;> cases h
    · cases h) ha
/-! == of data -/
@[irreducible] def eqdX {α β : Type} [Rp α] [Rp β] [ToD α] [ToD β] (a : α) (b : β) : Xc Bool := if SeqAt.shaped (ToD.d a) = true ∧ SeqAt.shaped (ToD.d b) = true then .ok (PyData.eqv (ToD.d a) (ToD.d b)) else .no
theorem dp_on {K : PySem.W.Frag} {F H : Hp} {v : V} {d : PyData} (s : Same F H) (h : Dp K F v d) : Dp K H v d := dp_mono s h
theorem fe_eqd [ToD α] [ToD β] {fa : γ → Xc α} {fb : γ → Xc β} {k : Nat} (hr : Room k X.A) (ha : FE X c G a fa) (hb : FE X c G b fb) : FE X c G (.Compare a [.Eq] [b] pos) (fun g => (fa g).bind fun i => (fb g).bind fun j => eqdX i j) :=
  two (fun h1 h2 => pe_cmpR (op_eqD hr.units) h1 h2 (nomark _)) ha hb fun {F H x y i j Q E} s r1 r2 p => by
    unfold eqdX at p
    by_cases z : SeqAt.shaped (ToD.d i) = true ∧ SeqAt.shaped (ToD.d j) = true
    · rw [if_pos z] at p; exact ⟨_, _, dp_mono s (ToD.is r1), dp_mono s (ToD.is r2), z.1, z.2, p.ret s rfl⟩
    · rw [if_neg z] at p; exact p.elim
theorem fe_ned [ToD α] [ToD β] {fa : γ → Xc α} {fb : γ → Xc β} {k : Nat} (hr : Room k X.A) (ha : FE X c G a fa) (hb : FE X c G b fb) : FE X c G (.Compare a [.NotEq] [b] pos) (fun g => (fa g).bind fun i => (fb g).bind fun j => (eqdX i j).bind fun t => Xc.ok (!t)) :=
  two (fun h1 h2 => pe_cmpR (op_neD hr.units) h1 h2 (nomark _)) ha hb fun {F H x y i j Q E} s r1 r2 p => by
    unfold eqdX at p
    by_cases z : SeqAt.shaped (ToD.d i) = true ∧ SeqAt.shaped (ToD.d j) = true
    · rw [if_pos z] at p; exact ⟨_, _, dp_mono s (ToD.is r1), dp_mono s (ToD.is r2), z.1, z.2, p.ret s rfl⟩
    · rw [if_neg z] at p; exact p.elim
theorem ft_eqd [ToD α] [ToD β] {fa : γ → Xc α} {fb : γ → Xc β} {k : Nat} (hr : Room k X.A) (ha : FE X c G a fa) (hb : FE X c G b fb) : FT X c G (.Compare a [.Eq] [b] pos) (fun g => (fa g).bind fun i => (fb g).bind fun j => eqdX i j) :=
  twoT (fun h1 h2 => pt_cmpR (op_eqD hr.units) h1 h2 (nomark _)) ha hb fun {F H x y i j Q E} s r1 r2 p => by
    unfold eqdX at p
    by_cases z : SeqAt.shaped (ToD.d i) = true ∧ SeqAt.shaped (ToD.d j) = true
    · rw [if_pos z] at p; exact ⟨_, _, dp_mono s (ToD.is r1), dp_mono s (ToD.is r2), z.1, z.2, _, rfl, p.ret s⟩
    · rw [if_neg z] at p; exact p.elim
theorem ft_ned [ToD α] [ToD β] {fa : γ → Xc α} {fb : γ → Xc β} {k : Nat} (hr : Room k X.A) (ha : FE X c G a fa) (hb : FE X c G b fb) : FT X c G (.Compare a [.NotEq] [b] pos) (fun g => (fa g).bind fun i => (fb g).bind fun j => (eqdX i j).bind fun t => Xc.ok (!t)) :=
  twoT (fun h1 h2 => pt_cmpR (op_neD hr.units) h1 h2 (nomark _)) ha hb fun {F H x y i j Q E} s r1 r2 p => by
    unfold eqdX at p
    by_cases z : SeqAt.shaped (ToD.d i) = true ∧ SeqAt.shaped (ToD.d j) = true
    · rw [if_pos z] at p; exact ⟨_, _, dp_mono s (ToD.is r1), dp_mono s (ToD.is r2), z.1, z.2, _, rfl, p.ret s⟩
    · rw [if_neg z] at p; exact p.elim
/-! lengths, places -/
instance {α β : Type} [Rp α] [Rp β] : HasLen (α × β) := ⟨fun _ => 2, fun {K F H v a} s h => by obtain ⟨q, x, y, e, hq, _⟩ := h; subst e; exact .inr ⟨_, Same.seqT s hq, rfl⟩⟩
instance {α β γ : Type} [Rp α] [Rp β] [Rp γ] : HasLen (T3 α β γ) := ⟨fun _ => 3, fun {K F H v a} s h => by obtain ⟨q, x, y, z, e, hq, _⟩ := h; subst e; exact .inr ⟨_, Same.seqT s hq, rfl⟩⟩
theorem fe_ixP {fa : γ → Xc (α × α)} {fi : γ → Xc Int} (ha : FE X c G a fa) (hb : FE X c G b fi) (hs : PlainIx b := by exact fun _ _ => rfl) : FE X c G (.Subscript a b pos) (fun g => (fa g).bind fun t => (fi g).bind fun i => getX [t.1, t.2] i) :=
  two (fun h1 h2 => pe_ix ix_tup h1 h2 hs) ha hb fun {F H v u t i Q E} s r1 r2 h => by
    obtain ⟨q, x, y, e, hq, ra, rb⟩ := r1
    have r2 : u = .int i := r2
    subst r2
    unfold getX at h
    cases e2 : atI [t.1, t.2] i with
    | none => rw [e2] at h; exact h.elim
    | some z =>
      rw [e2] at h
      obtain ⟨w', hw, rw'⟩ := atI_al (.cons ra (.cons rb .nil)) e2
      exact ⟨q, _, i, w', e, rfl, Same.seqT s hq, hw, h.ret s rw'⟩
/-! list(..), text times int -/
theorem fo_list {fa : γ → Xc (List α)} (ha : FE X c G a fa) (hm : X.mg "list" = none) (hg : Gl X "list" := by rfl) (hs : starEach [a] X.env = (false, eval a X.env) :: starEach [] X.env := by rfl) :
    FO X c G (.Call (.Name "list" p) [a] [] pos) (fun g => (fa g).bind fun l => Xc.ok l) :=
  PE.imp (pe_callTy call_list_of hg hm (by decide +kernel) (pa_cons ha pa_nil hs) (he := hs)) fun σ H Q ⟨F, g, w, q, h⟩ => by
    refine ⟨F, g, w, q, ?_⟩
    cases e1 : fa g with
    | ok l =>
      simp only [e1] at h
      rintro v F1 H1 w1 ⟨b, xs, rfl, hx, hz, r⟩
      exact ⟨b, xs, rfl, .inl (Same.seq w1.s hx), fun l' hl => h l' xs F1 _ (w1.trans (Wd.newO w1.s hl)) (w1.h.free hl) (w1.s.free hl) upd_same hz r⟩
    | er c' fs => simp only [e1] at h; exact h
    | no => simp only [e1] at h; exact h
theorem fo_listT {fa : γ → Xc (Tu α)} (ha : FE X c G a fa) (hm : X.mg "list" = none) (hg : Gl X "list" := by rfl) (hs : starEach [a] X.env = (false, eval a X.env) :: starEach [] X.env := by rfl) :
    FO X c G (.Call (.Name "list" p) [a] [] pos) (fun g => (fa g).bind fun l => Xc.ok l.l) :=
  PE.imp (pe_callTy call_list_of hg hm (by decide +kernel) (pa_cons ha pa_nil hs) (he := hs)) fun σ H Q ⟨F, g, w, q, h⟩ => by
    refine ⟨F, g, w, q, ?_⟩
    cases e1 : fa g with
    | ok l =>
      simp only [e1] at h
      rintro v F1 H1 w1 ⟨b, xs, rfl, hx, hz, r⟩
      exact ⟨b, xs, rfl, .inr (Same.seqT w1.s hx), fun l' hl => h l' xs F1 _ (w1.trans (Wd.newO w1.s hl)) (w1.h.free hl) (w1.s.free hl) upd_same hz r⟩
    | er c' fs => simp only [e1] at h; exact h
    | no => simp only [e1] at h; exact h
instance (x : Str) (n : Int) : Decidable (MulOk x n) := by unfold MulOk; infer_instance
@[irreducible] def mulS (x : Str) (n : Int) : Xc Str := if MulOk x n ∧ (Txt.mul x n).length ≤ sizeLine then .ok (Txt.mul x n) else .no
theorem op_mulS : OpR X (binaryOp .Mult) (fun x y H Q => ∃ z n, x = .str z ∧ y = .int n ∧ MulOk z n ∧ Q (.str (Txt.mul z n)) H) := by
  intro pins s σ H x y v u Q I rx ry h
  obtain ⟨i, j, rfl, rfl, hz, q⟩ := h
  obtain ⟨t, rfl⟩ := rx
  obtain ⟨t', rfl⟩ := ry
  exact PySem.SB.mul hz fun t' k => ⟨.str _, H, I.tok _, ⟨_, rfl⟩, q⟩
theorem fe_mulS {fa : γ → Xc Str} {fb : γ → Xc Int} (ha : FE X c G a fa) (hb : FE X c G b fb) : FE X c G (.BinOp a .Mult b pos) (fun g => (fa g).bind fun i => (fb g).bind fun j => mulS i j) :=
  two (fun h1 h2 => pe_op op_mulS h1 h2) ha hb fun {F H x y i j Q E} s r1 r2 p => by
    unfold mulS at p
    by_cases h : MulOk i j ∧ (Txt.mul i j).length ≤ sizeLine
    · rw [if_pos h] at p; exact ⟨_, _, r1.1, r2, h.1, p.ret s ⟨rfl, h.2⟩⟩
    · rw [if_neg h] at p; exact p.elim
/-! a <= b <= c -/
theorem fe_chainLe {f1 f2 f3 : γ → Xc Int} (ha : FE X c G a f1) (hb : FE X c G b f2) (hd : FE X c G d f3) (hm : lastMarks [.LtE, .LtE] [b, d] = false := by with_unfolding_all rfl) :
    FE X c G (.Compare a [.LtE, .LtE] [b, d] pos) (fun g => (f1 g).bind fun i => (f2 g).bind fun j => if i ≤ j then (f3 g).bind fun k => Xc.ok (decide (j ≤ k)) else Xc.ok false) :=
  PE.imp (pe_chain op_le op_le ha hb hd hm) fun σ H Q ⟨F, g, w, q, p⟩ => by
    refine ⟨F, g, w, q, ?_⟩
    cases e1 : f1 g with
    | ok i =>
      intro v F1 H1 w1 r1
      simp only [e1] at p
      have p : Po X.K F H Q (WE c.W σ) ((f2 g).bind fun j => if i ≤ j then (f3 g).bind fun k => Xc.ok (decide (j ≤ k)) else Xc.ok false) := p
      refine ⟨F1, g, w.trans w1, G.mono q w1, ?_⟩
      cases e2 : f2 g with
      | ok j =>
        intro u F2 H2 w2 r2
        simp only [e2] at p
        have p : Po X.K F H Q (WE c.W σ) (if i ≤ j then (f3 g).bind fun k => Xc.ok (decide (j ≤ k)) else Xc.ok false) := p
        refine ⟨i, j, r1, r2, decide (i ≤ j), rfl, ?_⟩
        by_cases hij : i ≤ j
        · rw [if_pos hij] at p
          rw [if_pos (decide_eq_true hij)]
          refine ⟨F2, g, (w.trans w1).trans w2, G.mono (G.mono q w1) w2, ?_⟩
          cases e3 : f3 g with
          | ok k =>
            intro z F3 H3 w3 r3
            simp only [e3] at p
            exact ⟨j, k, r2, r3, (Po.on p ((w1.trans w2).trans w3)).ret w3.s rfl⟩
          | er c' fs => simp only [e3] at p; exact ErP.on (show ErP X.K F H (WE c.W σ) c' fs from p) (w1.trans w2)
          | no => simp only [e3] at p; exact p
        · rw [if_neg hij] at p
          rw [if_neg (by simpa using hij)]
          exact (Po.on p (w1.trans w2)).ret w2.s rfl
      | er c' fs => simp only [e2] at p; exact ErP.on (show ErP X.K F H (WE c.W σ) c' fs from p) w1
      | no => simp only [e2] at p; exact p
    | er c' fs => simp only [e1] at p; exact p
    | no => simp only [e1] at p; exact p
theorem ft_chainLe {f1 f2 f3 : γ → Xc Int} (ha : FE X c G a f1) (hb : FE X c G b f2) (hd : FE X c G d f3) (hm : lastMarks [.LtE, .LtE] [b, d] = false := by with_unfolding_all rfl) :
    FT X c G (.Compare a [.LtE, .LtE] [b, d] pos) (fun g => (f1 g).bind fun i => (f2 g).bind fun j => if i ≤ j then (f3 g).bind fun k => Xc.ok (decide (j ≤ k)) else Xc.ok false) :=
  PT.imp (pt_chain op_le op_le ha hb hd hm) fun σ H Q ⟨F, g, w, q, p⟩ => by
    refine ⟨F, g, w, q, ?_⟩
    cases e1 : f1 g with
    | ok i =>
      intro v F1 H1 w1 r1
      simp only [e1] at p
      have p : PoB X.K F H Q (WE c.W σ) ((f2 g).bind fun j => if i ≤ j then (f3 g).bind fun k => Xc.ok (decide (j ≤ k)) else Xc.ok false) := p
      refine ⟨F1, g, w.trans w1, G.mono q w1, ?_⟩
      cases e2 : f2 g with
      | ok j =>
        intro u F2 H2 w2 r2
        simp only [e2] at p
        have p : PoB X.K F H Q (WE c.W σ) (if i ≤ j then (f3 g).bind fun k => Xc.ok (decide (j ≤ k)) else Xc.ok false) := p
        refine ⟨i, j, r1, r2, decide (i ≤ j), rfl, ?_⟩
        by_cases hij : i ≤ j
        · rw [if_pos hij] at p
          rw [if_pos (decide_eq_true hij)]
          refine ⟨F2, g, (w.trans w1).trans w2, G.mono (G.mono q w1) w2, ?_⟩
          cases e3 : f3 g with
          | ok k =>
            intro z F3 H3 w3 r3
            simp only [e3] at p
            exact ⟨j, k, r2, r3, _, rfl, (PoB.on p ((w1.trans w2).trans w3)).ret w3.s⟩
          | er c' fs => simp only [e3] at p; exact ErP.on (show ErP X.K F H (WE c.W σ) c' fs from p) (w1.trans w2)
          | no => simp only [e3] at p; exact p
        · rw [if_neg hij] at p
          rw [if_neg (by simpa using hij)]
          exact ⟨_, rfl, (PoB.on p (w1.trans w2)).ret w2.s⟩
      | er c' fs => simp only [e2] at p; exact ErP.on (show ErP X.K F H (WE c.W σ) c' fs from p) w1
      | no => simp only [e2] at p; exact p
    | er c' fs => simp only [e1] at p; exact p
    | no => simp only [e1] at p; exact p
end
/-! ### the signs of a text -/
section
variable {X : Cx} {c : C0} {γ α β ρ : Type} {G : EnvT γ} [Rp α] [Rp β] [Rp ρ] {a b d e tg : Expr} {pos p : Pos}
theorem fi_str {f : γ → Xc Str} (h : FE X c G e f) : FI X c G tg e (fun g => (f g).bind fun z => Xc.ok (signs z)) :=
  PI.imp (pi_str h) fun σ H R ⟨F, g, w, q, p⟩ => by
    refine ⟨F, g, w, q, ?_⟩
    cases e1 : f g with
    | ok z =>
      rintro v F1 H1 w1 ⟨rfl, hz⟩
      simp only [e1] at p
      have len : (signs z).length = z.cps.size := by simp [signs]
      refine ⟨z, rfl, p (Its z) F1 H1 w1 ⟨by rw [len]; exact hz, fun F' H' s1 s2 => by rw [len]; exact Nat.le_refl _, fun i F' H' hi s1 s2 => by rw [len] at hi; exact hi, fun i a F' H' x H'' e2 s1 s2 y => ?_⟩⟩
      obtain ⟨rfl, c, hc, rfl⟩ := y
      have : a = (⟨#[c]⟩ : Str) := by
        unfold signs at e2
        rw [List.getElem?_map] at e2
        rw [show z.cps.toList[i]? = some c by simpa using hc] at e2
        exact (Option.some.inj e2).symm
      subst this
      exact ⟨F', Wd.refl s2, rfl, one_le_line⟩
    | er c' fs => simp only [e1] at p; exact p
    | no => simp only [e1] at p; exact p
end
/-! ### returns of a list of one's own; dead code; lending for good -/
section
variable {X : Cx} {τ ρ β γ γ' γ1 γ2 δ α : Type} {c : C2 τ ρ β} {G : EnvT γ} {G' : EnvT γ'} {G1 : EnvT γ1} {G2 : EnvT γ2} {a b e : Expr} {st : Stmt} {sts : List Stmt} {pos p p2 : Pos} {x : Str}
theorem fs_retVG (i : Nat) {r : Rp α} {π : γ → List α} {put : γ → List α → γ} [A : AtO G i α r π put] {c : C2 τ (List α) β} {rt : List α → τ} (hO : c.O.ret = rt) (hR : c.R = rtO α) (hN : X.N[i]? = some x)
    (hv : Vis X.env.scope x) (hd : (x == ("__debug__" : Str)) = false) (hcd : (x == ("__classdict__" : Str)) = false) : FS X c G (.Return (some (.Name x p)) pos) G' (fun g _ => Xc.ok (rt (π g))) :=
  PS.imp (ps_ret (pe_var hN hv hd hcd)) fun D σ H ⟨F, g, k, w, q, d, n⟩ => by
    obtain ⟨p, xs, e1, m, hp, z, al⟩ := A.get q
    obtain ⟨h0, hf, _⟩ := G.al q m
    subst hO
    exact ⟨.ref p, e1, c.O.hret d _ F H (Ws.refl w) (by rw [hR]; exact ⟨p, xs, rfl, h0, hf, hp, z, al⟩)⟩
theorem fs_retV (i : Nat) {r : Rp α} {π : γ → List α} {put : γ → List α → γ} [A : AtO G i α r π put] {c : C2 (List α) (List α) Unit} (hO : c.O.ret = id := by rfl) (hR : c.R = rtO α := by rfl) (hN : X.N[i]? = some x := by rfl)
    (hv : Vis X.env.scope x := by first | exact Or.inl rfl | exact Or.inr (Or.inl rfl) | exact Or.inr (Or.inr rfl)) (hd : (x == ("__debug__" : Str)) = false := by decide) (hcd : (x == ("__classdict__" : Str)) = false := by decide) :
    FS X c G (.Return (some (.Name x p)) pos) G' (fun g _ => Xc.ok (π g)) := fs_retVG i hO hR hN hv hd hcd
theorem fss_dead : FSs X c G sts G' (fun _ _ => Xc.no) := ⟨fun pins s σ H D I ⟨F, g, k, w, q, d, n⟩ => d.elim⟩
theorem fss_lend {f : δ → (γ' → Xc τ) → Xc τ} {h : γ → δ} {Gl : EnvT δ} [B : Bor G Gl h] (hs : FSs X c Gl sts G' f) : FSs X c G sts G' (fun g k => f (h g) k) :=
  PSs.imp hs fun D σ H ⟨F, g, k, w, q, d, n⟩ => by
    obtain ⟨F1, w1, q1, _, s1⟩ := lend (B := B) w q
    exact ⟨F1, h g, k, w1, q1, d.on s1 Ag.refl, fun g' σ' F' H' w2 a2 q2 d2 => n g' σ' F' H' ⟨s1.trans w2.f, w2.w⟩ a2 q2 d2⟩
end
end FL

/-! FL13: try .. except; isinstance of what was caught; targets of three. -/
namespace FL
open PySem L2
/-! ### slots of which nothing is known any more -/
def setAll (σ : St) (f : Nat → Option V) : List Nat → St
  | [] => σ
  | v :: vs => (setAll σ f vs).set v (f v)
class Fgt {γ : Type} (G : EnvT γ) (vs : List Nat) {δ : outParam Type} (G' : outParam (EnvT δ)) (h : outParam (γ → δ)) : Prop where
  fg : ∀ {K H0 F H σ g} (f : Nat → Option V), G.rel K H0 F H σ g → G'.rel K H0 F H (setAll σ f vs) (h g)
instance {γ : Type} (G : EnvT γ) : Fgt G [] G (fun g => g) := ⟨fun _ h => h⟩
instance {γ δ ε : Type} (G : EnvT γ) (G1 : EnvT δ) (G2 : EnvT ε) (i : Nat) (vs : List Nat) (h1 : γ → δ) (h2 : δ → ε) [W : Fgt G vs G1 h1] [W1 : Wi1 G1 i G2 h2] : Fgt G (i :: vs) G2 (fun g => h2 (h1 g)) := ⟨fun f q => W1.wi (f i) (W.fg f q)⟩
theorem setAll_len {σ : St} {f : Nat → Option V} : ∀ {vs : List Nat}, (setAll σ f vs).length = σ.length
  | [] => rfl
  | v :: vs => by show ((setAll σ f vs).set v (f v)).length = _; rw [List.length_set, setAll_len]
theorem setAll_get {σ : St} {f : Nat → Option V} {j : Nat} : ∀ {vs : List Nat}, j < σ.length → (setAll σ f vs)[j]? = if j ∈ vs then some (f j) else σ[j]?
  | [], _ => by simp [setAll]
  | v :: vs, h => by
    show ((setAll σ f vs).set v (f v))[j]? = _
    by_cases e : v = j
    · subst e
      rw [List.getElem?_set_self (by rw [setAll_len]; exact h)]
      simp
    · rw [List.getElem?_set_ne e, setAll_get h]
      by_cases m : j ∈ vs
      · rw [if_pos m, if_pos (List.mem_cons_of_mem _ m)]
      · rw [if_neg m, if_neg (by simp only [List.mem_cons, not_or]; exact ⟨fun z => e z.symm, m⟩)]
def mOf (vs : List Nat) : Nat → Bool := fun i => decide (i ∈ vs)
theorem ag_setAll {vs : List Nat} {σ σ' : St} (a : Ag (mOf vs) σ σ') : σ' = setAll σ (fun j => σ'[j]?.join) vs := by
  apply List.ext_getElem?
  intro j
  by_cases hj : j < σ.length
  · rw [setAll_get hj]
    by_cases m : j ∈ vs
    · rw [if_pos m]
      have h' : j < σ'.length := by rw [a.len]; exact hj
      rw [List.getElem?_eq_getElem h']
      rfl
    · rw [if_neg m]
      exact a.at_ j (by unfold mOf; simp [m])
  · rw [List.getElem?_eq_none (by rw [a.len]; omega), List.getElem?_eq_none (by rw [setAll_len]; omega)]
/-- a slot with just this value -/
def xv (v : V) {γ : Type} (G : EnvT γ) : EnvT γ where
  rel := fun K H0 F H σ g => ∃ σ', σ = some v :: σ' ∧ G.rel K H0 F H σ' g
  own := fun σ => G.own σ.tail
  mono := fun ⟨σ', e, h⟩ w => ⟨σ', e, G.mono h w⟩
  mu := fun ⟨σ', e, h⟩ n => ⟨σ', e, G.mu h (by subst e; exact n)⟩
  al := fun ⟨σ', e, h⟩ n => G.al h (by subst e; exact n)
class PutX {γ : Type} (G : EnvT γ) (i : Nat) (v : V) {δ : outParam Type} (G' : outParam (EnvT δ)) (h : outParam (γ → δ)) : Prop where
  put : ∀ {K H0 F H σ g}, G.rel K H0 F H σ g → G'.rel K H0 F H (σ.set i (some v)) (h g)
  own : ∀ {K H0 F H σ g p}, G.rel K H0 F H σ g → p ∈ G'.own (σ.set i (some v)) → p ∈ G.own σ
section
variable {α β γ δ : Type} [Rp α] [Rp β] (G : EnvT γ) (G' : EnvT δ) (h : γ → δ) (i : Nat) (v : V)
instance : PutX (un G) 0 v (xv v G) (fun g => g) := ⟨fun ⟨u, σ', e, q⟩ => ⟨σ', by subst e; rfl, q⟩, fun ⟨u, σ', e, q⟩ m => by subst e; exact m⟩
instance : PutX (va α G) 0 v (xv v G) (fun g => g.2) := ⟨fun ⟨u, σ', e, _, q⟩ => ⟨σ', by subst e; rfl, q⟩, fun ⟨u, σ', e, _, q⟩ m => by subst e; exact m⟩
instance [W : PutX G i v G' h] : PutX (va α G) (i + 1) v (va α G') (fun g => (g.1, h g.2)) := ⟨fun ⟨u, σ', e, r, q⟩ => ⟨u, σ'.set i _, by subst e; rfl, r, W.put q⟩, fun ⟨u, σ', e, r, q⟩ m => by subst e; exact W.own q m⟩
instance [W : PutX G i v G' h] : PutX (un G) (i + 1) v (un G') (fun g => h g) := ⟨fun ⟨u, σ', e, q⟩ => ⟨u, σ'.set i _, by subst e; rfl, W.put q⟩, fun ⟨u, σ', e, q⟩ m => by subst e; exact W.own q m⟩
instance [W : PutX G i v G' h] : PutX (ow α G) (i + 1) v (ow α G') (fun g => (g.1, h g.2)) := ⟨fun ⟨p, σ', xs, e, h0, f, hh, z, r, n, q⟩ => ⟨p, σ'.set i _, xs, by subst e; rfl, h0, f, hh, z, r, fun m => n (W.own q m), W.put q⟩, fun ⟨p, σ', xs, e, _, _, _, _, _, _, q⟩ m => by
  subst e
  rcases List.mem_append.mp m with m | m
  · exact List.mem_append_left _ m
  · exact List.mem_append_right _ (W.own q m)⟩
end
class AtX {γ : Type} (G : EnvT γ) (i : Nat) (v : outParam V) : Prop where
  get : ∀ {K H0 F H σ g}, G.rel K H0 F H σ g → σ[i]? = some (some v)
section
variable {α γ : Type} [Rp α] (G : EnvT γ) (i : Nat) (v u : V)
instance : AtX (xv v G) 0 v := ⟨fun ⟨σ', e, q⟩ => by subst e; rfl⟩
instance [A : AtX G i v] : AtX (va α G) (i + 1) v := ⟨fun ⟨_, σ', e, _, q⟩ => by subst e; exact A.get q⟩
instance [A : AtX G i v] : AtX (un G) (i + 1) v := ⟨fun ⟨_, σ', e, q⟩ => by subst e; exact A.get q⟩
instance [A : AtX G i v] : AtX (xv u G) (i + 1) v := ⟨fun ⟨σ', e, q⟩ => by subst e; exact A.get q⟩
instance [A : AtX G i v] : AtX (ow α G) (i + 1) v := ⟨fun ⟨p, σ', xs, e, _, _, _, _, _, _, q⟩ => by subst e; exact A.get q⟩
end
instance {α γ : Type} [r : Rp α] (G : EnvT γ) (i : Nat) (π : γ → α) (v : V) [a : At G i α r π] : At (xv v G) (i + 1) α r (fun g => π g) := ⟨fun ⟨σ', e, q⟩ => by
  obtain ⟨u, e2, q2⟩ := a.get q
  exact ⟨u, by subst e; exact e2, q2⟩⟩
instance subXvUn {γ γ' : Type} (G : EnvT γ) (G' : EnvT γ') (h : γ → γ') (v : V) [S : Sub G G' h] : Sub (xv v G) (un G') (fun g => h g) := ⟨fun ⟨σ', e, q⟩ => ⟨_, σ', e, S.sub q⟩, fun ⟨σ', e, q⟩ m => by subst e; exact S.own q m⟩
/-! ### try .. except x as n -/
def outT {τ ρ β : Type} (γb : Type) (O : Out τ ρ β) (g0 : Option γb) : Out (Sum γb τ) ρ β := ⟨fun t P B C => match t with
  | .inl g => some g = g0
  | .inr t => O.sem t P B C, fun {t P P' B B' C C'} h1 h2 h3 p => by cases t with
  | inl g => exact p
  | inr t => exact O.mono h1 h2 h3 p, fun r => .inr (O.ret r), fun {r P B C} p => O.hret p⟩
def cT {τ ρ β : Type} {γb : Type} (c : C2 τ ρ β) (M : Nat → Bool) (W : WX) (g0 : Option γb) : C2 (Sum γb τ) ρ β := { F0 := c.F0, H0 := c.H0, W := W, M := M, O := outT γb c.O g0, R := c.R, GB := c.GB }
def joinM {γb τ : Type} (m : Xc (Sum γb τ)) (k : γb → Xc τ) : Xc τ := m.bind fun t => match t with
  | .inl g => k g
  | .inr t => .ok t
def catM {τ : Type} (catch_ : Str → Option Bool) (m : Xc τ) (h : Str → Xc τ) : Xc τ := match m with
  | .ok t => .ok t
  | .er cc fs => (match catch_ cc with
    | some true => if fs.isEmpty = true then h cc else .no
    | some false => .er cc fs
    | none => .no)
  | .no => .no
/-- an environment without lists of one's own: it leans on the frozen heap alone -/
class Frz {γ : Type} (G : EnvT γ) : Prop where
  fz : ∀ {K H0 F H F' H' σ g}, G.rel K H0 F H σ g → Same F F' → G.rel K H0 F' H' σ g
instance : Frz nl := ⟨fun h _ => h⟩
instance {α γ : Type} [Rp α] (G : EnvT γ) [Z : Frz G] : Frz (va α G) := ⟨fun ⟨v, σ', e, r, q⟩ s => ⟨v, σ', e, Rp.mono s r, Z.fz q s⟩⟩
instance {γ : Type} (G : EnvT γ) [Z : Frz G] : Frz (un G) := ⟨fun ⟨v, σ', e, q⟩ s => ⟨v, σ', e, Z.fz q s⟩⟩
section
variable {X : Cx} {τ ρ β γ γ' γf γh : Type} {c : C2 τ ρ β} {G : EnvT γ} {G' : EnvT γ'} {Gf : EnvT γf} {x n : Str} {i : Nat} {body suite : List Stmt} {b₀ : Stmt} {np pos pos' : Pos} {vs : List Nat} {cv : Value}
theorem fs_tryAs {Gh : Addr → EnvT γh} {catch_ : Str → Option Bool} {hf : γ → γf} {hp : γf → γh} [FG : Fgt G vs Gf hf] [FZ : Frz Gf] [PX : ∀ a, PutX Gf i (.ref a) (Gh a) hp] {fb : γ → (γ' → Xc (Sum γ' τ)) → Xc (Sum γ' τ)} {fh : Str → γh → (γ' → Xc (Sum γ' τ)) → Xc (Sum γ' τ)}
    [WJ : Wi1 G' i G' fun g => g] [WB : Wi1 c.GB i c.GB fun g => g] (tk : Takes X c.W) (hc : Names X x cv) (hx : ∀ cc b, catch_ cc = some b → PySem.W.exmOne X.K (.ref (He.ga X.K cc)) cv = some b) (hN : X.N.Nodup)
    (hb : ∀ W pn xe g0, Takes (X.tr pn xe) W → PassesOwn (model X.prog X.w) X.A X.env xe → FSs (X.tr pn xe) (cT c (mOf vs) W g0) G body G' fb)
    (hh : ∀ a oe cc pn g0, catch_ cc = some true → Zc (.ref (He.ga X.K cc)) none oe → (∃ vs, oe.data = .fields vs) → FSs (X.suite a ((a, oe) :: pn)) (cT c c.M c.W g0) (Gh a) (b₀ :: suite) G' (fh cc))
    (hi : X.N[i]? = some n := by rfl) (hln : X.env.kindOf n = some .local := by rfl) (hvM : ∀ j ∈ vs, c.M j = true := by intro _ _; rfl) (hiM : c.M i = true := by rfl) (hs : X.stack = X.env :: X.outer := by rfl) (hfr : X.env.frame = some X.env.locals := by rfl) :
    FS X c G (.Try body [.ExceptHandler (some (.Name x np)) (some n) (b₀ :: suite) pos'] [] [] pos) G' (fun g k => joinM (catM catch_ (fb g fun g' => Xc.ok (.inl g')) fun cc => fh cc (hp (hf g)) fun g' => Xc.ok (.inl g')) k) :=
  PS.imp (ps_try_as (tb := fun W D σ H => ∃ g0, tS X.K (cT c (mOf vs) W g0) G G' fb D σ H) (ts := fun a cls d D σ H => ∃ cc g0, cls = .ref (He.ga X.K cc) ∧ d = none ∧ catch_ cc = some true ∧ tS X.K (cT c c.M c.W g0) (Gh a) G' (fh cc) D σ H) hs hfr hN hi hln hc tk
    (fun W pn xe tk' po => ⟨fun pins s σ H D I ⟨g0, q⟩ => (hb W pn xe g0 tk' po).run pins s σ H D I q⟩)
    (fun a oe cls d pn hz hv => ⟨fun pins s σ H D I ⟨cc, g0, e1, e2, e3, q⟩ => by subst e1 e2; exact (hh a oe cc pn g0 e3 hz hv).run pins s σ H D I q⟩)) fun D σ H ⟨F, g, k, w, q, d, nn⟩ => by
    have agM : ∀ {σ σ' : St}, Ag (mOf vs) σ σ' → Ag c.M σ σ' := fun a => a.imp fun j hj => hvM j (by simpa [mOf] using hj)
    cases e1 : fb g fun g' => Xc.ok (.inl g') with
    | no => simp only [e1, joinM, catM] at d; exact d.elim
    | ok t =>
      cases t with
      | inl g1 =>
        simp only [e1, joinM, catM, bind_ok] at d
        refine ⟨some g1, F, g, fun g' => Xc.ok (.inl g'), w, q, by rw [e1]; exact (rfl : some g1 = some g1), fun g' σ' F' H' w' a' q' d' => ?_⟩
        have d' : some g' = some g1 := d'
        cases d'
        exact nn g1 σ' F' H' ⟨w'.f, w'.w⟩ (agM a') q' (d.on w'.f (agM a'))
      | inr t =>
        simp only [e1, joinM, catM, bind_ok] at d
        refine ⟨none, F, g, fun g' => Xc.ok (.inl g'), w, q, ?_, fun g' σ' F' H' w' a' q' d' => ?_⟩
        · rw [e1]
          have d : c.O.sem t _ _ _ := d
          refine c.O.mono (fun r p v F' H' w' rr => p v F' H' ⟨w'.f, w'.w⟩ rr) (fun b p σ' F' H' w' a' => p σ' F' H' ⟨w'.f, w'.w⟩ (agM a')) (fun b p σ' F' H' w' a' => p σ' F' H' ⟨w'.f, w'.w⟩ (agM a')) d
        · have d' : some g' = none := d'
          cases d'
    | er cc fs =>
      simp only [e1, catM] at d
      refine ⟨none, F, g, fun g' => Xc.ok (.inl g'), w, q, ?_, fun g' σ' F' H' w' a' q' d' => ?_⟩
      · rw [e1]
        intro σ' F' H' w' a'
        cases e2 : catch_ cc with
        | none => simp only [e2] at d; exact d.elim
        | some b =>
          cases b with
          | false =>
            simp only [e2] at d
            have d : Done X.K c D F σ (.er cc fs) := d
            have d := d σ' F' H' ⟨w'.f, w'.w⟩ (agM a')
            cases fs with
            | nil => exact fun F2 H2 w2 => ⟨false, hx cc _ e2, (fun z => absurd z Bool.false_ne_true), fun _ => d F2 H2 w2⟩
            | cons f fs => exact fun F2 H2 d2 w2 hd => ⟨false, hx cc _ e2, (fun z => absurd z Bool.false_ne_true), fun _ => d F2 H2 d2 w2 hd⟩
          | true =>
            simp only [e2] at d
            cases fs with
            | cons f fs => simp [joinM, bind_no] at d; exact d.elim
            | nil =>
              simp only [List.isEmpty_nil, if_true] at d
              refine fun F2 H2 w2 => ⟨true, hx cc _ e2, fun _ a ha => ?_, fun z => absurd z.symm Bool.false_ne_true⟩
              have q1 : Gf.rel X.K c.H0 F2 H2 σ' (hf g) := by
                rw [ag_setAll a']
                exact FZ.fz (FG.fg _ q) (w'.f.trans w2.f)
              have q2 := (PX a).put q1
              have sF : Same F F2 := w'.f.trans w2.f
              have wd : Wd c.F0 c.H0 F2 H2 := w'.w.trans w2
              have ag2 : ∀ σ3, Ag c.M (σ'.set i (some (.ref a))) σ3 → Ag c.M σ (σ3.set i none) := fun σ3 a3 => (((agM a').trans (Ag.set hiM)).trans a3).trans (Ag.set hiM)
              have ag3 : ∀ σ3, Ag c.M (σ'.set i (some (.ref a))) σ3 → Ag c.M σ σ3 := fun σ3 a3 => ((agM a').trans (Ag.set hiM)).trans a3
              cases e3 : fh cc (hp (hf g)) fun g' => Xc.ok (.inl g') with
              | no => simp only [e3, joinM, bind_no] at d; exact d.elim
              | er cc2 fs2 =>
                simp only [e3, joinM, bind_er] at d
                refine ⟨cc, none, rfl, rfl, e2, F2, hp (hf g), fun g' => Xc.ok (.inl g'), wd, q2, ?_, fun g' σ3 F3 H3 w3 a3 q3 d3 => ?_⟩
                · rw [e3]
                  exact fun σ3 F3 H3 w3 a3 => d σ3 F3 H3 ⟨sF.trans w3.f, w3.w⟩ (ag3 σ3 a3)
                · have d3 : some g' = none := d3
                  cases d3
              | ok t =>
                cases t with
                | inl g1 =>
                  simp only [e3, joinM, bind_ok] at d
                  refine ⟨cc, some g1, rfl, rfl, e2, F2, hp (hf g), fun g' => Xc.ok (.inl g'), wd, q2, by rw [e3]; exact (rfl : some g1 = some g1), fun g' σ3 F3 H3 w3 a3 q3 d3 => ?_⟩
                  have d3 : some g' = some g1 := d3
                  cases d3
                  exact nn g1 (σ3.set i none) F3 H3 ⟨sF.trans w3.f, w3.w⟩ (ag2 σ3 a3) (WJ.wi none q3) (d.on (sF.trans w3.f) (ag2 σ3 a3))
                | inr t =>
                  simp only [e3, joinM, bind_ok] at d
                  refine ⟨cc, none, rfl, rfl, e2, F2, hp (hf g), fun g' => Xc.ok (.inl g'), wd, q2, ?_, fun g' σ3 F3 H3 w3 a3 q3 d3 => ?_⟩
                  · rw [e3]
                    have d : c.O.sem t _ _ _ := d
                    refine c.O.mono (fun r p v F3 H3 w3 rr => p v F3 H3 ⟨sF.trans w3.f, w3.w⟩ rr) (fun b p σ3 F3 H3 w3 a3 r3 => p (σ3.set i none) F3 H3 ⟨sF.trans w3.f, w3.w⟩ (ag2 σ3 a3) (WB.wi none r3)) (fun b p σ3 F3 H3 w3 a3 r3 => p (σ3.set i none) F3 H3 ⟨sF.trans w3.f, w3.w⟩ (ag2 σ3 a3) (WB.wi none r3)) d
                  · have d3 : some g' = none := d3
                    cases d3
      · have d' : some g' = none := d'
        cases d'
/-- a return within a try or its suite -/
theorem fs_retT {c : C2 (Sum γ' ρ) ρ Unit} {γ2 : Type} {G2 : EnvT γ2} [Rp ρ] {e : Expr} {fa : γ → Xc ρ} (ha : FE X c.toC0 G e fa) (hO : c.O.ret = Sum.inr := by rfl) (hR : c.R = rtF ρ := by rfl) : FS X c G (.Return (some e) pos) G2 (fun g _ => (fa g).bind fun v => Xc.ok (Sum.inr v)) := fs_retG hO hR ha
end
/-! ### isinstance of the exception that a suite holds -/
section
variable {X : Cx} {c : C0} {γ : Type} {G : EnvT γ} {a D : Addr} {oe : Obj} {pn : List (Addr × Obj)} {n x : Str} {pos p p1 p2 : Pos}
theorem fe_isE (i : Nat) (b : Bool) {cv : Value} [A : AtX G i (.ref a)] (C : ExcC X.K D) (hz : Zc (.ref D) none oe) (hf : ∃ vs, oe.data = .fields vs) (hk : PySem.W.kitOne X.K (.ref D) cv = some b) {u : V} (hu : ∀ z, RelV u z → z = cv)
    (ht : PE (X.suite a ((a, oe) :: pn)) (.Name x p2) (fun σ H Q => Q u H))
    (hm : X.mg "isinstance" = none) (hN : X.N[i]? = some n := by rfl) (hv : Vis X.env.scope n := by first | exact Or.inl rfl | exact Or.inr (Or.inl rfl) | exact Or.inr (Or.inr rfl)) (hd : (n == ("__debug__" : Str)) = false := by decide) (hcd : (n == ("__classdict__" : Str)) = false := by decide)
    (hg : Gl X "isinstance" := by rfl)
    (hs : starEach [.Name n p1, .Name x p2] X.env = (false, eval (.Name n p1) X.env) :: starEach [.Name x p2] X.env := by rfl) (hs2 : starEach [.Name x p2] X.env = (false, eval (.Name x p2) X.env) :: starEach [] X.env := by rfl)
    (hpl : (backTo pos (starEach [.Name x p2] X.env)).any (·.1) = false := by rfl) : FE (X.suite a ((a, oe) :: pn)) c G (.Call (.Name "isinstance" p) [.Name n p1, .Name x p2] [] pos) (fun _ => Xc.ok b) :=
  PE.imp (pe_callB (call_isE (X := X) C hz hf) hg hm PyProof.Rows.boot_isinstance (pa_cons (pe_var hN hv hd hcd) (pa_cons ht pa_nil hs2) hs) (he := hs) (hpl := hpl)) fun σ H Q ⟨F, g, w, q, h⟩ =>
    ⟨.ref a, A.get q, u, cv, b, rfl, hu, hk, h.ret w.s rfl⟩
theorem pe_clsR {X : Cx} {x : Str} {p : Pos} (hm : X.mg x = some (.ref (He.ga X.K x))) (hg : Gl X x := by rfl) (hd : (x == ("__debug__" : Str)) = false := by decide) : PE X (.Name x p) (fun σ H Q => Q (.ref (He.ga X.K x)) H) :=
  PE.imp (pe_glob (v := .ref (He.ga X.K x)) hg hm rfl hd) fun σ H Q h => h
theorem pe_clsT {X : Cx} {x : Str} {U : String} {p : Pos} (hm : X.mg x = none) (hv : bootBuiltins x = some (.type U) := by decide +kernel) (hg : Gl X x := by rfl) (hn : x ≠ "__name__" := by decide) (hd : (x == ("__debug__" : Str)) = false := by decide) : PE X (.Name x p) (fun σ H Q => Q (.ty U) H) :=
  PE.imp (pe_bltn (v := .ty U) hg hm hv rfl hn hd) fun σ H Q h => h
end
end FL

/-! FL14: targets of several names. -/
namespace FL
open PySem L2
section
variable {X : Cx} {c : C1} {γ γ' γ1 γ2 α β δ : Type} {G : EnvT γ} {G' : EnvT γ'} {G1 : EnvT γ1} {G2 : EnvT γ2} [Rp α] [Rp β] [Rp δ] {pos p p1 p2 p3 : Pos} {x y z : Str} {tg e : Expr} {vs : List Nat}
theorem fn_asg {ψ : γ → α → γ'} {fa : γ → Xc α} (ha : FE X c.toC0 G e fa) (hg : FG X c.M G tg G' vs ψ) (hs : swapsWithSole [tg] e pos.line X.env = pure false := by rfl) (hw : swappedStores [tg] e X.env = pure none := by rfl)
    (h1 : (assignEach [tg] X.env).map (·.2) = [assign tg X.env] := by rfl) : FN X c G (.Assign [tg] e pos) G' (fun g => (fa g).bind fun v => Xc.ok (ψ g v)) := by
  obtain ⟨t, pg, ht⟩ := hg
  exact PS.imp (ps_asg ha pg hs hw h1) fun D σ H ⟨F, g, w, q, h⟩ => by
    refine ⟨F, g, w, q, ?_⟩
    cases e1 : fa g with
    | ok v =>
      intro u F1 H1 w1 r1
      simp only [e1] at h
      exact ht c.H0 F1 H1 σ g u v _ w1.s (G.mono q w1) r1 fun σ' ag _ q' => h σ' F1 H1 (Ws.of w w1) ag q'
    | er c' fs => simp only [e1] at h; exact PoN.er h w
    | no => simp only [e1] at h; exact h
end
section
variable {X : Cx} {γ γ' γ1 γ2 α β δ : Type} {G : EnvT γ} {G' : EnvT γ'} {G1 : EnvT γ1} {G2 : EnvT γ2} [Rp α] [Rp β] [Rp δ] {pos p p1 p2 p3 : Pos} {x y z : Str} {tg e : Expr} {vs : List Nat} {M : Nat → Bool} {kk : Nat}
theorem fg_two (i j : Nat) {ψ1 : γ → α → γ1} {ψ2 : γ1 → β → γ'} [P1 : Put G i α G1 ψ1] [P2 : Put G1 j β G' ψ2] (hM : M i = true ∧ M j = true) (hN : X.N.Nodup) (hc : X.calm = true := by rfl)
    (hi : X.N[i]? = some x := by rfl) (hx : Loc X.env.scope x := by first | exact Or.inl rfl | exact Or.inr rfl) (hj : X.N[j]? = some y := by rfl) (hy : Loc X.env.scope y := by first | exact Or.inl rfl | exact Or.inr rfl)
    (hf : X.fn x = true ∨ X.env.scope.names.lookup x = some .local := by first | exact .inl rfl | exact .inr rfl) (hf2 : X.fn y = true ∨ X.env.scope.names.lookup y = some .local := by first | exact .inl rfl | exact .inr rfl) :
    FG X M G (.Tuple [.Name x p1, .Name y p2] kk p) G' [i, j] (fun g (a : α × β) => ψ2 (ψ1 g a.1) a.2) :=
  fg_pair i j hM hc hN hi hx hj hy hf hf2 (pg_tup hc (pgs_cons (pg_name hN hi hx hf) (pgs_cons (pg_name hN hj hy hf2) pgs_nil)))
theorem fg_three (i j k : Nat) {ψ1 : γ → α → γ1} {ψ2 : γ1 → β → γ2} {ψ3 : γ2 → δ → γ'} [P1 : Put G i α G1 ψ1] [P2 : Put G1 j β G2 ψ2] [P3 : Put G2 k δ G' ψ3] (hM : M i = true ∧ M j = true ∧ M k = true) (hN : X.N.Nodup) (hne : i ≠ j ∧ j ≠ k ∧ i ≠ k) (hc : X.calm = true := by rfl)
    (hi : X.N[i]? = some x := by rfl) (hx : Loc X.env.scope x := by first | exact Or.inl rfl | exact Or.inr rfl) (hj : X.N[j]? = some y := by rfl) (hy : Loc X.env.scope y := by first | exact Or.inl rfl | exact Or.inr rfl) (hk : X.N[k]? = some z := by rfl) (hz : Loc X.env.scope z := by first | exact Or.inl rfl | exact Or.inr rfl)
    (hf : X.fn x = true ∨ X.env.scope.names.lookup x = some .local := by first | exact .inl rfl | exact .inr rfl) (hf2 : X.fn y = true ∨ X.env.scope.names.lookup y = some .local := by first | exact .inl rfl | exact .inr rfl) (hf3 : X.fn z = true ∨ X.env.scope.names.lookup z = some .local := by first | exact .inl rfl | exact .inr rfl) :
    FG X M G (.Tuple [.Name x p1, .Name y p2, .Name z p3] kk p) G' [i, j, k] (fun g (a : T3 α β δ) => ψ3 (ψ2 (ψ1 g a.a) a.b) a.c) :=
  ⟨_, pg_tup (n := 3) hc (pgs_cons (pg_name hN hi hx hf) (pgs_cons (pg_name hN hj hy hf2) (pgs_cons (pg_name hN hk hz hf3) pgs_nil))), fun H0 F H σ g v a Q s q r kk => by
    obtain ⟨b, u1, u2, u3, rfl, h, r1, r2, r3⟩ := r
    refine ⟨b, [u1, u2, u3], rfl, Same.seqT s h, rfl, u1, [u2, u3], rfl, u2, [u3], rfl, u3, [], rfl, rfl, ?_⟩
    refine kk _ (((Ag.set hM.1).trans (Ag.set hM.2.1)).trans (Ag.set hM.2.2)) ?_ (P3.put (P2.put (P1.put q r1) r2) r3)
    show (((((σ.set i (some u1)).set j (some u2)).set k (some u3)).set k none).set j none).set i none = ((σ.set k none).set j none).set i none
    rw [List.set_set, List.set_comm _ _ (show k ≠ j from fun z => hne.2.1 z.symm), List.set_set, List.set_comm _ _ (show k ≠ i from fun z => hne.2.2 z.symm), List.set_comm _ _ (show j ≠ i from fun z => hne.1 z.symm), List.set_set, List.set_comm _ _ (show i ≠ j from hne.1), List.set_comm _ _ (show i ≠ k from hne.2.2), List.set_comm _ _ (show j ≠ k from hne.2.1)]⟩
end
end FL

/-! FL15: rules in the shapes that the printer of derivations uses. -/
namespace FL
open PySem L2
theorem takesF {X : Cx} : Takes X (fun _ _ _ _ => False) := fun u s' ⟨a, B, sI, pins, σ, H, cls, d, e, I, nb, up, sky, na, os, ag, w⟩ => w.elim
section
variable {X : Cx} {c : C1} {γ γ' γ1 γ2 α β : Type} {G : EnvT γ} {G' : EnvT γ'} {G1 : EnvT γ1} {G2 : EnvT γ2} {st : Stmt} {sts : List Stmt}
theorem fns_B {fa : γ → Xc α} {ψ : γ → α → γ1} {m2 : γ1 → Xc γ2} (h1 : FN X c G st G1 (fun g => (fa g).bind fun v => Xc.ok (ψ g v))) (h2 : FNs X c G1 sts G2 m2) : FNs X c G (st :: sts) G2 (fun g => (fa g).bind fun v => m2 (ψ g v)) :=
  FNs.cast (fns_cons h1 h2) fun g => by cases fa g <;> rfl
theorem fns_B2 {fa : γ → Xc α} {fb : γ → α → Xc β} {ψ : γ → α → β → γ1} {m2 : γ1 → Xc γ2} (h1 : FN X c G st G1 (fun g => (fa g).bind fun v => (fb g v).bind fun u => Xc.ok (ψ g v u))) (h2 : FNs X c G1 sts G2 m2) : FNs X c G (st :: sts) G2 (fun g => (fa g).bind fun v => (fb g v).bind fun u => m2 (ψ g v u)) :=
  FNs.cast (fns_cons h1 h2) fun g => by
    show (fa g).bind _ = ((fa g).bind _).bind _
    cases fa g with
    | ok v => show (fb g v).bind _ = ((fb g v).bind _).bind _; cases fb g v <;> rfl
    | er _ _ => rfl
    | no => rfl
theorem fns_B3 {δ : Type} {fa : γ → Xc α} {fb : γ → α → Xc β} {fd : γ → α → β → Xc δ} {ψ : γ → α → β → δ → γ1} {m2 : γ1 → Xc γ2} (h1 : FN X c G st G1 (fun g => (fa g).bind fun v => (fb g v).bind fun u => (fd g v u).bind fun z => Xc.ok (ψ g v u z))) (h2 : FNs X c G1 sts G2 m2) : FNs X c G (st :: sts) G2 (fun g => (fa g).bind fun v => (fb g v).bind fun u => (fd g v u).bind fun z => m2 (ψ g v u z)) :=
  FNs.cast (fns_cons h1 h2) fun g => by
    show (fa g).bind _ = ((fa g).bind _).bind _
    cases fa g with
    | ok v =>
      show (fb g v).bind _ = ((fb g v).bind _).bind _
      cases fb g v with
      | ok u => show (fd g v u).bind _ = ((fd g v u).bind _).bind _; cases fd g v u <;> rfl
      | er _ _ => rfl
      | no => rfl
    | er _ _ => rfl
    | no => rfl
end
section
variable {X : Cx} {τ ρ β γ γ' γ1 γ2 α δ ε γb : Type} {c : C2 τ ρ β} {G : EnvT γ} {G' : EnvT γ'} {G1 : EnvT γ1} {G2 : EnvT γ2} {Gb : EnvT γb} {st : Stmt} {sts : List Stmt} {tg iter : Expr} {body : List Stmt} {pos : Pos} {vs : List Nat} [Rp α]
theorem fs_B {α : Type} {fa : γ → Xc α} {ψ : γ → α → γ1} (h1 : FN X c.toC1 G st G1 (fun g => (fa g).bind fun v => Xc.ok (ψ g v))) : FS X c G st G1 (fun g k => (fa g).bind fun v => k (ψ g v)) :=
  FS.cast (fs_n h1) fun g k => by cases fa g <;> rfl
theorem fs_B2 {α : Type} {fa : γ → Xc α} {fb : γ → α → Xc δ} {ψ : γ → α → δ → γ1} (h1 : FN X c.toC1 G st G1 (fun g => (fa g).bind fun v => (fb g v).bind fun u => Xc.ok (ψ g v u))) : FS X c G st G1 (fun g k => (fa g).bind fun v => (fb g v).bind fun u => k (ψ g v u)) :=
  FS.cast (fs_n h1) fun g k => by
    show (fa g).bind _ = ((fa g).bind _).bind _
    cases fa g with
    | ok v => show (fb g v).bind _ = ((fb g v).bind _).bind _; cases fb g v <;> rfl
    | er _ _ => rfl
    | no => rfl
theorem fs_B3 {α : Type} {fa : γ → Xc α} {fb : γ → α → Xc δ} {fd : γ → α → δ → Xc ε} {ψ : γ → α → δ → ε → γ1} (h1 : FN X c.toC1 G st G1 (fun g => (fa g).bind fun v => (fb g v).bind fun u => (fd g v u).bind fun z => Xc.ok (ψ g v u z))) : FS X c G st G1 (fun g k => (fa g).bind fun v => (fb g v).bind fun u => (fd g v u).bind fun z => k (ψ g v u z)) :=
  FS.cast (fs_n h1) fun g k => by
    show (fa g).bind _ = ((fa g).bind _).bind _
    cases fa g with
    | ok v =>
      show (fb g v).bind _ = ((fb g v).bind _).bind _
      cases fb g v with
      | ok u => show (fd g v u).bind _ = ((fd g v u).bind _).bind _; cases fd g v u <;> rfl
      | er _ _ => rfl
      | no => rfl
    | er _ _ => rfl
    | no => rfl
/-- behind a loop -/
def forK {γ ρ τ : Type} (m : Xc (Sum γ ρ)) (rt : ρ → τ) (k : γ → Xc τ) : Xc τ := m.bind fun t => match t with
  | .inl g' => k g'
  | .inr r => Xc.ok (rt r)
theorem fs_forK {rt : ρ → τ} {ψ : γ → α → γb} {fl : γ → Xc (List α)} {fb : γb → (γ → Xc (Lp γ ρ)) → Xc (Lp γ ρ)} (po : PassesOwn (model X.prog X.w) X.A X.env X.xe) (hi : FI X c.toC0 G tg iter fl) (hg : FG X c.M G tg Gb vs ψ) (hb : FSs X (cL c G) Gb body G fb)
    (hO : ∀ r P B C, P r → c.O.sem (rt r) P B C := by intro _ _ _ _ h; exact h) (hR' : ∀ r P B C, c.O.sem (rt r) P B C → P r := by intro _ _ _ _ h; exact h) (hc : X.calm = true := by rfl) (hs : ∀ x, foldedSetIterable iter X.env x = pure x := by intro _; rfl) :
    FS X c G (.For tg iter body [] pos) G (fun g k => (fl g).bind fun l => forK (forX (fun g a => fb (ψ g a) fun g' => Xc.ok (Lp.ct g')) l g) rt k) :=
  FS.cast (fs_for po hi hg hb hO hR' hc hs) fun g k => by
    cases fl g with
    | ok l => show forK _ _ _ = Xc.bind (forX _ _ _) _; unfold forK; congr 1
    | er _ _ => rfl
    | no => rfl
end
section
variable {X : Cx} {γ γb γw α β : Type} {G : EnvT γ} {Gw : EnvT γw} {Gb : EnvT γb} [Rp α] [Rp β] {tg iter elt : Expr} {ifs : List Expr} {pos : Pos} {vs : List Nat} {scope : Scope} {own : List (Str × Nat)}
theorem fn_setLcF {c : C1} {γ' : Type} {G' : EnvT γ'} (k : Nat) {y : Str} {py spos : Pos} {ψ' : γ → List β → γ'} [P : Put G k (List β) G' ψ'] {ψ : γw → α → γb} {h : γ → γw} {fl : γ → Xc (List α)} {ft : γb → Xc Bool} {f : γb → Xc β} [W : Wip G vs Gw h] (hvs : own.map (·.2) = vs) (hM : c.M k = true) (ok : BlkOk X.N X.env.scope scope own) (hN : X.N.Nodup) (hi : FI X c.toC0 G tg iter fl) (hg : FGB X scope Gw tg Gb vs ψ)
    (ht : FTs X scope (cB c.toC0) Gb ifs ft) (he : ∀ (s : Shared) (H : Hp) (C : Addr) (cl : List (Str × Addr)) (fp : List Addr), FE (X.blk s H scope (compEnvC scope cl C X.env) fp) (cB c.toC0) Gb elt f) (hy : X.N[k]? = some y := by rfl) (hyl : X.env.scope.names.lookup y = some .local := by rfl)
    (hsw : swapsWith (.ListComp elt [⟨tg, iter, ifs, 0⟩] scope pos) (some (.Name y py)) spos.line X.env = pure true := by exact sw_true rfl rfl rfl rfl) (hc : X.calm = true := by rfl) (hs : ∀ x, foldedSetIterable iter X.env x = pure x := by intro _; rfl) :
    FN X c G (.Assign [.Name y py] (.ListComp elt [⟨tg, iter, ifs, 0⟩] scope pos) spos) G' (fun g => ((fl g).bind fun l => compX (fun a => ft (ψ (h g) a)) (fun a => f (ψ (h g) a)) l).bind fun v => Xc.ok (ψ' g v)) := by
  subst hvs
  obtain ⟨t, pg, ht'⟩ := hg
  exact fn_setL k hM (fun σ H Q p => tO_lc (W := W) ht' p) (ps_setLc (te := tF X.K (cB c.toC0) Gb f) hc hN hy hyl hsw hi ok pg ht he hs)
end
/-! the end of a block -/
section
variable {X : Cx} {γ γ' : Type} {G : EnvT γ} {G' : EnvT γ'} {h : γ → γ'}
theorem fns_nilS {c : C1} [S : Sub G G' h] : FNs X c G [] G' (fun g => Xc.ok (h g)) := PSs.imp pss_nil fun D σ H ⟨F, g, w, q, p⟩ => p σ F H (Ws.refl w) Ag.refl (S.sub q)
theorem fss_nilS {τ ρ β : Type} {c : C2 τ ρ β} [S : Sub G G' h] : FSs X c G [] G' (fun g k => k (h g)) := PSs.imp pss_nil fun D σ H ⟨F, g, k, w, q, d, n⟩ => n (h g) σ F H (Ws.refl w) Ag.refl (S.sub q) d
end
/-! a def that comes to its end: None -/
section
variable {P : Program} {w : World} {K : PySem.W.Frag} {mg : Str → Option Value} {base : Heap} {αs ρ γ γ' : Type} [Rps αs] {G : EnvT γ} {G' : EnvT γ'} {h : αs → γ}
theorem fn_defU {x qual : Str} {params : Arguments} {body : List Stmt} {scope : Scope} {dvs : List V} {kws : List (Str × V)} {f : Addr} {fd : FuncData} {N ps : List Str} {k n pn : Nat} {m : αs → Xc Unit} {fm : γ → (γ' → Xc Unit) → Xc Unit}
    (Fd : FunD K x qual params body scope dvs kws f fd) (S : FnScope N ps scope) [RN : RpsN αs pn] (hpn : ps.length = pn) [ET : EntryT αs n G h] (hn : N.length = pn + n)
    (hb : ∀ (cdv : Value) (A : Around) (outer : List Env) (s : Shared) (F H : Hp) (E : XK), Room k (A.deeper (PyProof.Rows.envOfC qual scope s.heap.objs.size f cdv)) → 
      Takes (cxOf (L2.CX P w) P w K mg base N qual scope f cdv A outer s H E) (cD Unit (rtF Unit) F H E).W →
      FSs (cxOf (L2.CX P w) P w K mg base N qual scope f cdv A outer s H E) (cD Unit (rtF Unit) F H E) G body G' fm)
    (hm : ∀ as, m as = fm (h as) fun _ => .ok ()) : FnOk P w K mg base (L2.CX P w) (k + 1) f fd ps (spF K (rtF Unit) m) := by
  refine Fd.ok S (fun vs H Q E ⟨F, as, _, r, _⟩ => by rw [hpn]; exact RN.len r) fun cdv A outer s H vs Q E hr ⟨F, as, sm, r, p⟩ => ?_
  refine ⟨_, hb cdv A outer s F H E hr (takes_of rfl rfl rfl rfl), F, h as, fun _ => .ok (), Wd.refl sm, ?_, ?_, fun g' σ' F' H' w1 _ _ d => ?_⟩
  · unfold L2.start
    have e : N.length - vs.length = n := by rw [RN.len r, hn]; omega
    rw [e]
    exact ET.st r (Nat.le_refl _)
  · rw [hm as] at p
    revert p
    cases fm (h as) (fun _ => .ok ()) with
    | ok t => exact fun p v F' H' w1 rr => p v F' H' w1.w rr
    | er cc fs => exact fun p σ' F' H' w1 _ => ErP.on p w1.w
    | no => exact fun p => p
  · have d : ∀ v F2 H2, Ws (cD Unit (rtF Unit) F H E).toC0 F' F2 H2 → (rtF Unit).rr K H F2 H2 v () → Q v H2 := d
    exact d .non F' H' (Ws.refl w1.w) rfl
end
end FL

namespace FL
open PySem L2
instance {ρ : Type} {R : Rt ρ} {F H : Hp} {E : XK} {i : Nat} : Wi1 (cD ρ R F H E).GB i (cD ρ R F H E).GB (fun g => g) := (inferInstance : Wi1 nl i nl fun g => g)
theorem bind_ok' {α β : Type} (a : α) (k : α → Xc β) : Xc.bind (.ok a) k = k a := Eq.trans (Eq.refl _) (Eq.refl _)
def catch1 (x : Str) : Str → Option Bool := fun cc => if cc = x then some true else none
theorem catch1_eq {x cc : Str} (h : catch1 x cc = some true) : x = cc := by
  unfold catch1 at h
  by_cases e : cc = x
  · exact e.symm
  · rw [if_neg e] at h; cases h
theorem catch1_ok {K : PySem.W.Frag} {x : Str} {cv : Value} (h : PySem.W.exmOne K (.ref (He.ga K x)) cv = some true) : ∀ cc b, catch1 x cc = some b → PySem.W.exmOne K (.ref (He.ga K cc)) cv = some b := by
  intro cc b e
  unfold catch1 at e
  by_cases e2 : cc = x
  · rw [if_pos e2] at e; cases e; subst e2; exact h
  · rw [if_neg e2] at e; cases e
end FL

/-! FL17: the end of a law. -/
namespace FL
open PySem L2
theorem walk_w {l : PySem.W.OpenLaw} {n k : Nat} {q : Program} {loose : List Str} {XP : (Str → Option Value) → Heap → Prop} {YP : World → Heap → Prop} {d : DefRec} {x : Str} (hn : l.most = some n) (hn2 : n ≤ sizeLine) (hdf : d.params.defaults = []) (hr : Room k callerA)
    {m : List Int × Unit → Xc Bool} (hm : ∀ ns : List Int, ns.length ≤ n → m (ns, ()) = .ok true)
    (F : ∀ (w : World) (mg : Str → Option Value) (fa : Addr) (h : Heap), YP w h → h.Ns mainGlobals mg → mg d.name = some (.ref fa) → ∃ (K : PySem.W.Frag) (fd : FuncData), K.In h ∧ (∀ (s : Shared) (u : Value), BindsTo s fd ⟨[u], []⟩ [(x, u)]) ∧
      ∀ base : Heap, K.In base → base.Ns mainGlobals mg → FnOk l.prog w K mg base (L2.CX l.prog w) k fa fd [x] (spF K (rtF Bool) m)) :
    PySem.W.WalkO q loose XP YP l.row.toRowW d [] (fun f vs => PySem.call f vs) := by
  refine Att.attach_call hn hdf fun w s₀ s₁ mg mb fa o pm cd doc a vs ns G Y ho hd hcd hmg hobj hints hlen hg => ?_
  obtain ⟨K, fd, KX, hb, hF⟩ := F w mg fa _ Y G.T.g hmg
  refine law_call KX G.T.g G.T.b G.T.builtins G.T.nolimit hg hobj hints (Nat.le_trans hlen hn2) hr hF hb (fun H hO hS => ?_) fun H e s' ⟨a, B, H', cls, d, e1, _, _, _, _, _, _, z⟩ => z
  refine ⟨H, (ns, ()), Same.refl _, ⟨.ref a, [], rfl, ⟨a, ns.map V.int, rfl, hS, Nat.le_trans hlen hn2, ?_⟩, rfl⟩, ?_⟩
  · clear hints hlen hS
    induction ns with
    | nil => exact .nil
    | cons i ns ih => exact .cons rfl ih
  · rw [hm ns hlen]
    intro v F' H' w1 r
    have r : v = .bl true := r
    exact r
/-- a def by its name, from the head's facts -/
theorem dk_of {P : Program} {w : World} {K : PySem.W.Frag} {mg : Str → Option Value} {base : Heap} {x qual : Str} {params : Arguments} {body : List Stmt} {scope : Scope} {fd : FuncData} {ps : List Str} {k : Nat} {sp : Sp}
    (F : FunD K x qual params body scope [] [] (He.ga K x) fd) (g : mg x = some (.ref (He.ga K x))) (b : Binds K fd ps []) (h : FnOk P w K mg base (L2.CX P w) k (He.ga K x) fd ps sp) : Dk P w K mg base x ps k sp := ⟨⟨fd, h, b⟩, g, F.kp⟩
theorem mg_fact {K : PySem.W.Frag} {h : Heap} {mg : Str → Option Value} {x : Str} {v : Value} (X : K.In h) (G : h.Ns mainGlobals mg) (e : He.eqO (PySem.W.nsIn K mainGlobals x) (some (some v)) = true) : mg x = some v := PySem.W.mg_of X G (He.eqO_ok e)
def excCB (K : PySem.W.Frag) (D : Addr) : Bool := decide (PySem.W.findIn K (.ref D) "__getattribute__" = some (some (.builtin "BaseException.__getattribute__"))) && (decide (PySem.W.findIn K (.ref D) "__getattr__" = some none) && (decide (PySem.W.subIn K (.ref D) (.type "BaseException") = some true) && (PySem.W.hasDictIn K D &&
  (decide (PySem.W.findIn K (.ref D) "__class__" = some (some (.builtin "object.__class__"))) && (decide (PySem.W.specialIn K (.builtin "object.__class__") "__get__" = some (some (.builtin "getset_descriptor.__get__"))) && (decide (PySem.W.takesIn K (.builtin "object.__class__") = some true) && decide (PySem.W.mroIn K D (.type "object") = some true)))))))
theorem excCB_ok {K : PySem.W.Frag} {D : Addr} (h : excCB K D = true) : ExcC K D := by
  unfold excCB at h
  obtain ⟨h1, h⟩ := He.ba h
  obtain ⟨h2, h⟩ := He.ba h
  obtain ⟨h3, h⟩ := He.ba h
  obtain ⟨h4, h⟩ := He.ba h
  obtain ⟨h5, h⟩ := He.ba h
  obtain ⟨h6, h⟩ := He.ba h
  obtain ⟨h7, h8⟩ := He.ba h
  exact ⟨of_decide_eq_true h1, of_decide_eq_true h2, of_decide_eq_true h3, h4, of_decide_eq_true h5, of_decide_eq_true h6, of_decide_eq_true h7, of_decide_eq_true h8⟩
end FL

/-! FL18: lcm, tuple(..), zip, sums of lists and tuples, repeats. -/
namespace FL
open PySem L2
section
variable {X : Cx} {c : C0} {γ α β ρ : Type} {G : EnvT γ} [Rp α] [Rp β] [Rp ρ] {a b d e tg : Expr} {pos p p2 : Pos}
def rLcm : List V → Hp → VK → Prop := fun vs H Q => ∃ i j : Int, vs = [.int i, .int j] ∧ i.natAbs < 2 ^ 64 ∧ j.natAbs < 2 ^ 64 ∧ Q (.int ((Nat.lcm i.natAbs j.natAbs : Nat) : Int)) H
theorem cr_lcm : CallR X (.builtin "math.lcm") rLcm := by
  intro pins s σ H vs us Q I r h
  obtain ⟨i, j, rfl, h1, h2, q⟩ := h
  obtain ⟨t, u, rfl⟩ := Vals.int2 r
  exact PySem.W.mc_lcm h1 h2 fun _ => ⟨.int _, H, I.tok _, ⟨_, rfl⟩, q⟩
@[irreducible] def lcmX (i j : Int) : Xc Int := if i.natAbs < 2 ^ 64 ∧ j.natAbs < 2 ^ 64 then .ok ((Nat.lcm i.natAbs j.natAbs : Nat) : Int) else .no
theorem fe_lcm {fa fb : γ → Xc Int} (ha : FE X c G a fa) (hb : FE X c G b fb) (hm : X.mg "lcm" = some (.builtin "math.lcm")) (hg : Gl X "lcm" := by rfl) (hs : starEach [a, b] X.env = (false, eval a X.env) :: starEach [b] X.env := by rfl) (hs2 : starEach [b] X.env = (false, eval b X.env) :: starEach [] X.env := by rfl)
    (hpl : (backTo pos (starEach [b] X.env)).any (·.1) = false := by rfl) : FE X c G (.Call (.Name "lcm" p) [a, b] [] pos) (fun g => (fa g).bind fun i => (fb g).bind fun j => lcmX i j) :=
  call2 (fun h => pe_callBfun cr_lcm hg hm h (he := hs) (hpl := hpl)) ha hb hs hs2 fun {F H v u i j Q E} s r1 r2 p => by
    have r1 : v = .int i := r1
    have r2 : u = .int j := r2
    subst r1 r2
    unfold lcmX at p
    by_cases h : i.natAbs < 2 ^ 64 ∧ j.natAbs < 2 ^ 64
    · rw [if_pos h] at p; exact ⟨i, j, rfl, h.1, h.2, p.ret s rfl⟩
    · rw [if_neg h] at p; exact p.elim
/-! tuple(..) -/
theorem fe_tupL {fa : γ → Xc (List α)} (ha : FE X c G a fa) (hm : X.mg "tuple" = none) (hg : Gl X "tuple" := by rfl) (hs : starEach [a] X.env = (false, eval a X.env) :: starEach [] X.env := by rfl) :
    FE X c G (.Call (.Name "tuple" p) [a] [] pos) (fun g => (fa g).bind fun l => Xc.ok (tu l)) :=
  PE.imp (pe_callTy call_tuple_of hg hm (by decide +kernel) (pa_cons ha pa_nil hs) (he := hs)) fun σ H Q ⟨F, g, w, q, h⟩ => by
    refine ⟨F, g, w, q, ?_⟩
    cases e1 : fa g with
    | ok l =>
      simp only [e1] at h
      rintro v F1 H1 w1 ⟨b, xs, rfl, hx, hz, r⟩
      refine ⟨b, xs, rfl, .inl ⟨Same.seq w1.s hx, fun t ht => ?_⟩⟩
      have w2 := Wd.new (o := .tup xs) w1.s ht
      exact h (.ref t) _ _ (w1.trans w2) ⟨t, xs, rfl, SqT.of upd_same, hz, r.mono w2.f⟩
    | er c' fs => simp only [e1] at h; exact h
    | no => simp only [e1] at h; exact h
theorem fe_tupT {fa : γ → Xc (Tu α)} (ha : FE X c G a fa) (hm : X.mg "tuple" = none) (hg : Gl X "tuple" := by rfl) (hs : starEach [a] X.env = (false, eval a X.env) :: starEach [] X.env := by rfl) :
    FE X c G (.Call (.Name "tuple" p) [a] [] pos) (fun g => (fa g).bind fun l => Xc.ok l) :=
  PE.imp (pe_callTy call_tuple_of hg hm (by decide +kernel) (pa_cons ha pa_nil hs) (he := hs)) fun σ H Q ⟨F, g, w, q, h⟩ => by
    refine ⟨F, g, w, q, ?_⟩
    cases e1 : fa g with
    | ok l =>
      simp only [e1] at h
      rintro v F1 H1 w1 ⟨b, xs, rfl, hx, hz, r⟩
      exact ⟨b, xs, rfl, .inr ⟨Same.seqT w1.s hx, h (.ref b) F1 H1 w1 ⟨b, xs, rfl, hx, hz, r⟩⟩⟩
    | er c' fs => simp only [e1] at h; exact h
    | no => simp only [e1] at h; exact h
/-! zip -/
theorem zip_get {l : List α} {m : List β} {i : Nat} {t : α × β} (h : (l.zip m)[i]? = some t) : l[i]? = some t.1 ∧ m[i]? = some t.2 := by
  rw [List.getElem?_zip_eq_some] at h
  exact h
theorem fi_zipL {f1 : γ → Xc (List α)} {f2 : γ → Xc (List β)} {elts : List Expr} {kk : Nat} {tpos : Pos} (h1 : FE X c G a f1) (h2 : FE X c G b f2) (hm : X.mg "zip" = none) (hg : Gl X "zip" := by rfl) (hs : starEach [a, b] X.env = (false, eval a X.env) :: starEach [b] X.env := by rfl)
    (hs2 : starEach [b] X.env = (false, eval b X.env) :: starEach [] X.env := by rfl) (hpl : (backTo pos (starEach [b] X.env)).any (·.1) = false := by rfl) : FI X c G (.Tuple elts kk tpos) (.Call (.Name "zip" p) [a, b] [] pos) (fun g => (f1 g).bind fun l => (f2 g).bind fun m => Xc.ok (l.zip m)) :=
  PI.imp (RZ.pi_zipA hg hm (pa_cons h1 (pa_cons h2 pa_nil hs2) hs) hs hpl) fun σ H R ⟨F, g, w, q, p⟩ => by
    refine ⟨F, g, w, q, ?_⟩
    cases e1 : f1 g with
    | ok l =>
      rintro v F1 H1 w1 ⟨a1, xs, rfl, hx, hz, rx⟩
      simp only [e1] at p
      have p : PoI X.K F H R (WE c.W σ) ((f2 g).bind fun m => Xc.ok (l.zip m)) := p
      refine ⟨F1, g, w.trans w1, G.mono q w1, ?_⟩
      cases e2 : f2 g with
      | ok m =>
        rintro u F2 H2 w2 ⟨a2, ys, rfl, hy, hz2, ry⟩
        simp only [e2] at p
        have p : PoI X.K F H R (WE c.W σ) (.ok (l.zip m)) := p
        have hx2 : SqL X.K F2 a1 xs := Same.seq w2.f hx
        have rx2 := rx.mono w2.f
        have lz : (l.zip m).length = min l.length m.length := List.length_zip
        refine ⟨a1, a2, xs, ys, rfl, .inl ⟨Same.seq w2.s hx2, Same.seq w2.s hy, p _ F2 H2 (w1.trans w2) ⟨by rw [lz]; omega, fun F' H' s1 s2 => ⟨xs, ys, Same.seq (s1.trans s2) hx2, Same.seq (s1.trans s2) hy, ?_⟩, fun i F' H' hi s1 s2 => ?_, fun i t F' H' x H'' e3 s1 s2 y => ?_⟩⟩⟩
        · rw [lz, rx.len, ry.len]; omega
        · rw [lz] at hi
          obtain ⟨vx, h3, _⟩ := rx.get' (List.getElem?_eq_getElem (show i < l.length by omega))
          obtain ⟨vy, h4, _⟩ := ry.get' (List.getElem?_eq_getElem (show i < m.length by omega))
          exact ⟨xs, ys, vx, vy, Same.seq (s1.trans s2) hx2, Same.seq (s1.trans s2) hy, h3, h4⟩
        · obtain ⟨T, vx, vy, rfl, hT, rfl, y1, y2⟩ := y
          obtain ⟨g1, g2⟩ := zip_get e3
          obtain ⟨vx', h3, r3⟩ := rx2.get' g1
          obtain ⟨vy', h4, r4⟩ := ry.get' g2
          have k1 := y1 xs (Same.seq (s1.trans s2) hx2)
          have k2 := y2 ys (Same.seq (s1.trans s2) hy)
          rw [h3] at k1
          rw [h4] at k2
          cases k1
          cases k2
          have w3 := Wd.new (o := .tup [vx, vy]) s2 hT
          exact ⟨_, w3, T, vx, vy, rfl, SqT.of upd_same, Rp.mono (s1.trans w3.f) r3, Rp.mono (s1.trans w3.f) r4⟩
      | er c' fs => simp only [e2] at p; exact ErP.on (show ErP X.K F H (WE c.W σ) c' fs from p) w1
      | no => simp only [e2] at p; exact p
    | er c' fs => simp only [e1] at p; exact p
    | no => simp only [e1] at p; exact p
theorem fi_zipT {f1 : γ → Xc (Tu α)} {f2 : γ → Xc (Tu β)} {elts : List Expr} {kk : Nat} {tpos : Pos} (h1 : FE X c G a f1) (h2 : FE X c G b f2) (hm : X.mg "zip" = none) (hg : Gl X "zip" := by rfl) (hs : starEach [a, b] X.env = (false, eval a X.env) :: starEach [b] X.env := by rfl)
    (hs2 : starEach [b] X.env = (false, eval b X.env) :: starEach [] X.env := by rfl) (hpl : (backTo pos (starEach [b] X.env)).any (·.1) = false := by rfl) : FI X c G (.Tuple elts kk tpos) (.Call (.Name "zip" p) [a, b] [] pos) (fun g => (f1 g).bind fun l => (f2 g).bind fun m => Xc.ok (l.l.zip m.l)) :=
  PI.imp (RZ.pi_zipA hg hm (pa_cons h1 (pa_cons h2 pa_nil hs2) hs) hs hpl) fun σ H R ⟨F, g, w, q, p⟩ => by
    refine ⟨F, g, w, q, ?_⟩
    cases e1 : f1 g with
    | ok l =>
      rintro v F1 H1 w1 ⟨a1, xs, rfl, hx, hz, rx⟩
      simp only [e1] at p
      have p : PoI X.K F H R (WE c.W σ) ((f2 g).bind fun m => Xc.ok (l.l.zip m.l)) := p
      refine ⟨F1, g, w.trans w1, G.mono q w1, ?_⟩
      cases e2 : f2 g with
      | ok m =>
        rintro u F2 H2 w2 ⟨a2, ys, rfl, hy, hz2, ry⟩
        simp only [e2] at p
        have p : PoI X.K F H R (WE c.W σ) (.ok (l.l.zip m.l)) := p
        have hx2 : SqT X.K F2 a1 xs := Same.seqT w2.f hx
        have rx2 := rx.mono w2.f
        have lz : (l.l.zip m.l).length = min l.l.length m.l.length := List.length_zip
        refine ⟨a1, a2, xs, ys, rfl, .inr ⟨Same.seqT w2.s hx2, Same.seqT w2.s hy, p _ F2 H2 (w1.trans w2) ⟨by rw [lz]; omega, fun F' H' s1 s2 => ⟨xs, ys, Same.seqT (s1.trans s2) hx2, Same.seqT (s1.trans s2) hy, ?_⟩, fun i F' H' hi s1 s2 => ?_, fun i t F' H' x H'' e3 s1 s2 y => ?_⟩⟩⟩
        · rw [lz, rx.len, ry.len]; omega
        · rw [lz] at hi
          obtain ⟨vx, h3, _⟩ := rx.get' (List.getElem?_eq_getElem (show i < l.l.length by omega))
          obtain ⟨vy, h4, _⟩ := ry.get' (List.getElem?_eq_getElem (show i < m.l.length by omega))
          exact ⟨xs, ys, vx, vy, Same.seqT (s1.trans s2) hx2, Same.seqT (s1.trans s2) hy, h3, h4⟩
        · obtain ⟨T, vx, vy, rfl, hT, rfl, y1, y2⟩ := y
          obtain ⟨g1, g2⟩ := zip_get e3
          obtain ⟨vx', h3, r3⟩ := rx2.get' g1
          obtain ⟨vy', h4, r4⟩ := ry.get' g2
          have k1 := y1 xs (Same.seqT (s1.trans s2) hx2)
          have k2 := y2 ys (Same.seqT (s1.trans s2) hy)
          rw [h3] at k1
          rw [h4] at k2
          cases k1
          cases k2
          have w3 := Wd.new (o := .tup [vx, vy]) s2 hT
          exact ⟨_, w3, T, vx, vy, rfl, SqT.of upd_same, Rp.mono (s1.trans w3.f) r3, Rp.mono (s1.trans w3.f) r4⟩
      | er c' fs => simp only [e2] at p; exact ErP.on (show ErP X.K F H (WE c.W σ) c' fs from p) w1
      | no => simp only [e2] at p; exact p
    | er c' fs => simp only [e1] at p; exact p
    | no => simp only [e1] at p; exact p
/-! sums of tuples -/
@[irreducible] def catU {α : Type} (x y : Tu α) : Xc (Tu α) := if x.l.length + y.l.length ≤ sizeLine then .ok (tu (x.l ++ y.l)) else .no
theorem fe_catU {fa fb : γ → Xc (Tu α)} (ha : FE X c G a fa) (hb : FE X c G b fb) : FE X c G (.BinOp a .Add b pos) (fun g => (fa g).bind fun i => (fb g).bind fun j => catU i j) :=
  two (fun h1 h2 => pe_op op_catA h1 h2) ha hb fun {F H x y i j Q E} s r1 r2 p => by
    unfold catU at p
    by_cases h : i.l.length + j.l.length ≤ sizeLine
    · rw [if_pos h] at p
      obtain ⟨a1, xs, rfl, hx, hz, rx⟩ := r1
      obtain ⟨a2, ys, rfl, hy, hz2, ry⟩ := r2
      have lx := rx.len
      have ly := ry.len
      refine ⟨a1, a2, xs, ys, rfl, rfl, Same.seqT s hx, Same.seqT s hy, by omega, fun e => ?_, fun e1 e2 => ?_, fun e1 e2 t ht => ?_⟩
      · have : i.l = [] := by cases q : i.l with
          | nil => rfl
          | cons _ _ => rw [q, e] at lx; cases lx
        exact p.ret s ⟨a2, ys, rfl, hy, by show (i.l ++ j.l).length ≤ _; rw [this]; exact hz2, by show Al _ _ _ (i.l ++ j.l); rw [this]; exact ry⟩
      · have : j.l = [] := by cases q : j.l with
          | nil => rfl
          | cons _ _ => rw [q, e2] at ly; cases ly
        exact p.ret s ⟨a1, xs, rfl, hx, by show (i.l ++ j.l).length ≤ _; rw [this, List.append_nil]; exact hz, by show Al _ _ _ (i.l ++ j.l); rw [this, List.append_nil]; exact rx⟩
      · have w2 := Wd.new (o := .tup (xs ++ ys)) s ht
        exact p (.ref t) _ _ w2 ⟨t, _, rfl, SqT.of upd_same, by show (i.l ++ j.l).length ≤ _; rw [List.length_append]; exact h, (rx.app ry).mono w2.f⟩
    · rw [if_neg h] at p; exact p.elim
end
end FL

/-! FL19: sums and repeats of new lists, slices as new lists, targets of two names in a block. -/
namespace FL
open PySem L2
section
variable {X : Cx} {c : C0} {γ α β ρ : Type} {G : EnvT γ} [Rp α] [Rp β] [Rp ρ] {a b d e tg : Expr} {pos p p2 : Pos} {lo hi : Option Expr}
@[irreducible] def catL {α : Type} (x y : List α) : Xc (List α) := if x.length + y.length ≤ sizeLine then .ok (x ++ y) else .no
theorem fo_cat {fa fb : γ → Xc (List α)} (ha : FO X c G a fa) (hb : FO X c G b fb) : FO X c G (.BinOp a .Add b pos) (fun g => (fa g).bind fun i => (fb g).bind fun j => catL i j) :=
  PE.imp (pe_op op_cat ha hb) fun σ H Q ⟨F, g, w, q, h⟩ => by
    refine ⟨F, g, w, q, ?_⟩
    cases e1 : fa g with
    | ok l =>
      intro p1 xs F1 H1 w1 n1 f1 h1 z1 r1
      simp only [e1] at h
      have h : PoO X.K F H Q (WE c.W σ) ((fb g).bind fun j => catL l j) := h
      refine ⟨F1, g, w.trans w1, G.mono q w1, ?_⟩
      cases e2 : fb g with
      | ok m =>
        intro p2 ys F2 H2 w2 n2 f2 h2 z2 r2
        simp only [e2] at h
        have h : PoO X.K F H Q (WE c.W σ) (catL l m) := h
        unfold catL at h
        by_cases hz : l.length + m.length ≤ sizeLine
        · rw [if_pos hz] at h
          have lx := r1.len
          have ly := r2.len
          refine ⟨p1, p2, xs, ys, rfl, rfl, w2.h _ _ h1, h2, by omega, fun t ht => ?_⟩
          exact h t (xs ++ ys) F2 _ ((w1.trans w2).trans (Wd.newO w2.s ht)) ((w1.trans w2).h.free ht) (w2.s.free ht) upd_same (by rw [List.length_append]; exact hz) ((r1.mono w2.f).app r2)
        · rw [if_neg hz] at h; exact h.elim
      | er c' fs => simp only [e2] at h; exact ErP.on (show ErP X.K F H (WE c.W σ) c' fs from h) w1
      | no => simp only [e2] at h; exact h
    | er c' fs => simp only [e1] at h; exact h
    | no => simp only [e1] at h; exact h
def repL {α : Type} (l : List α) (k : Int) : List α := (List.replicate k.toNat l).flatten
@[irreducible] def repX {α : Type} (l : List α) (k : Int) : Xc (List α) := if -(2 ^ 63) ≤ k ∧ k < 2 ^ 63 ∧ l.length * k.toNat ≤ sizeLine then .ok (repL l k) else .no
theorem al_flat {K : PySem.W.Frag} {F : Hp} {xs : List V} {l : List α} (r : Al K F xs l) : ∀ n : Nat, Al K F (List.replicate n xs).flatten (List.replicate n l).flatten
  | 0 => .nil
  | n + 1 => by
    rw [List.replicate_succ, List.replicate_succ, List.flatten_cons, List.flatten_cons]
    exact r.app (al_flat r n)
theorem repL_len (l : List α) (k : Int) : (repL l k).length = l.length * k.toNat := by
  unfold repL
  rw [List.length_flatten, List.map_replicate, List.sum_replicate_nat, Nat.mul_comm]
theorem fo_rep {fa : γ → Xc (List α)} {fb : γ → Xc Int} (ha : FO X c G a fa) (hb : FE X c G b fb) : FO X c G (.BinOp a .Mult b pos) (fun g => (fa g).bind fun i => (fb g).bind fun j => repX i j) :=
  PE.imp (pe_op op_rep ha hb) fun σ H Q ⟨F, g, w, q, h⟩ => by
    refine ⟨F, g, w, q, ?_⟩
    cases e1 : fa g with
    | ok l =>
      intro p1 xs F1 H1 w1 n1 f1 h1 z1 r1
      simp only [e1] at h
      have h : PoO X.K F H Q (WE c.W σ) ((fb g).bind fun j => repX l j) := h
      refine ⟨F1, g, w.trans w1, G.mono q w1, ?_⟩
      cases e2 : fb g with
      | ok k =>
        intro u F2 H2 w2 r2
        simp only [e2] at h
        have h : PoO X.K F H Q (WE c.W σ) (repX l k) := h
        unfold repX at h
        by_cases hz : -(2 ^ 63) ≤ k ∧ k < 2 ^ 63 ∧ l.length * k.toNat ≤ sizeLine
        · rw [if_pos hz] at h
          refine ⟨p1, k, xs, rfl, r2, w2.h _ _ h1, hz.1, hz.2.1, by rw [r1.len]; exact hz.2.2, fun t ht => ?_⟩
          exact h t _ F2 _ ((w1.trans w2).trans (Wd.newO w2.s ht)) ((w1.trans w2).h.free ht) (w2.s.free ht) upd_same (by rw [repL_len]; exact hz.2.2) (al_flat (r1.mono w2.f) _)
        · rw [if_neg hz] at h; exact h.elim
      | er c' fs => simp only [e2] at h; exact ErP.on (show ErP X.K F H (WE c.W σ) c' fs from h) w1
      | no => simp only [e2] at h; exact h
    | er c' fs => simp only [e1] at h; exact h
    | no => simp only [e1] at h; exact h
/-- a slice of a list is new -/
theorem fo_slL {f : γ → Xc (List α)} {fl fh : γ → Xc (Option Int)} (ha : FE X c G a f) (hl : FP X c G lo fl) (hu : FP X c G hi fh) :
    FO X c G (.Subscript a (.Slice lo hi none p2) pos) (fun g => (f g).bind fun i => (fl g).bind fun l => (fh g).bind fun u => Xc.ok (cutL i l u)) :=
  PE.imp (pe_slice sl_list ha hl hu) fun σ H Q ⟨F, g, w, q, p⟩ => by
    refine ⟨F, g, w, q, ?_⟩
    cases e1 : f g with
    | ok i =>
      rintro v F1 H1 w1 ⟨b, xs, rfl, hx, hz, r⟩
      simp only [e1] at p
      have p : PoO X.K F H Q (WE c.W σ) ((fl g).bind fun l => (fh g).bind fun u => Xc.ok (cutL i l u)) := p
      refine ⟨F1, g, w.trans w1, G.mono q w1, ?_⟩
      cases e2 : fl g with
      | ok l =>
        intro F2 H2 w2
        simp only [e2] at p
        have p : PoO X.K F H Q (WE c.W σ) ((fh g).bind fun u => Xc.ok (cutL i l u)) := p
        refine ⟨F2, g, (w.trans w1).trans w2, G.mono (G.mono q w1) w2, ?_⟩
        cases e3 : fh g with
        | ok u =>
          intro F3 H3 w3
          simp only [e3] at p
          have p : PoO X.K F H Q (WE c.W σ) (.ok (cutL i l u)) := p
          have w4 := (w1.trans w2).trans w3
          refine ⟨b, xs, rfl, Same.seq (((w2.trans w3).f).trans w3.s) hx, fun k hk => ?_⟩
          exact p k _ F3 _ (w4.trans (Wd.newO w3.s hk)) (w4.h.free hk) (w3.s.free hk) upd_same (Nat.le_trans (cutL_len _ _ _) hz) (cutL_al ((r.mono w2.f).mono w3.f))
        | er c' fs => simp only [e3] at p; exact ErP.on (show ErP X.K F H (WE c.W σ) c' fs from p) (w1.trans w2)
        | no => simp only [e3] at p; exact p
      | er c' fs => simp only [e2] at p; exact ErP.on (show ErP X.K F H (WE c.W σ) c' fs from p) w1
      | no => simp only [e2] at p; exact p
    | er c' fs => simp only [e1] at p; exact p
    | no => simp only [e1] at p; exact p
end
section
variable {X : Cx} {γ γ1 γb α β : Type} {G : EnvT γ} {G1 : EnvT γ1} {Gb : EnvT γb} [Rp α] [Rp β] {scope : Scope} {kk : Nat} {p p1 p2 : Pos} {x y : Str}
theorem fgb_two (i j : Nat) {ψ1 : γ → α → γ1} {ψ2 : γ1 → β → γb} [P1 : Put G i α G1 ψ1] [P2 : Put G1 j β Gb ψ2] (hN : X.N.Nodup) (hc : X.calm = true := by rfl) (hi : X.N[i]? = some x := by rfl) (hj : X.N[j]? = some y := by rfl)
    (hxe : ∀ C cl, Loc (compEnvC scope cl C X.env).scope x := by intro _ _; first | exact Or.inl rfl | exact Or.inr rfl) (hye : ∀ C cl, Loc (compEnvC scope cl C X.env).scope y := by intro _ _; first | exact Or.inl rfl | exact Or.inr rfl)
    (hf : ∀ C cl, (scope.names.lookup x == some .cell) = true ∨ (compEnvC scope cl C X.env).scope.names.lookup x = some .local := by intro _ _; first | exact .inl rfl | exact .inr rfl)
    (hf2 : ∀ C cl, (scope.names.lookup y == some .cell) = true ∨ (compEnvC scope cl C X.env).scope.names.lookup y = some .local := by intro _ _; first | exact .inl rfl | exact .inr rfl) :
    FGB X scope G (.Tuple [.Name x p1, .Name y p2] kk p) Gb [i, j] (fun g (a : α × β) => ψ2 (ψ1 g a.1) a.2) :=
  ⟨gTup X.K 2 (gCons (gName i) (gCons (gName j) gNil)), fun s H C cl fp => pg_tup hc (pgs_cons (pg_name hN hi (hxe C cl) (hf C cl)) (pgs_cons (pg_name hN hj (hye C cl) (hf2 C cl)) pgs_nil)), fun H0 F H σ g v a Q s q r k => by
    obtain ⟨b, u, z, rfl, h, r1, r2⟩ := r
    refine ⟨b, [u, z], rfl, Same.seqT s h, rfl, u, [z], rfl, z, [], rfl, rfl, ?_⟩
    refine k _ ?_ (P2.put (P1.put q r1) r2)
    show ((((σ.set i (some u)).set j (some z)).set j none).set i none) = (σ.set j none).set i none
    rw [List.set_set]
    by_cases e : i = j
    · subst e; rw [List.set_set, List.set_set, List.set_set]
    · rw [List.set_comm _ _ (fun z => e z.symm), List.set_comm _ _ e, List.set_comm (some u) none e, List.set_set, List.set_comm _ _ (fun z => e z.symm)]⟩
end
end FL

/-! FL20: data as a tuple of ints; lending in straight code. -/
namespace FL
open PySem L2
def intsD : List PyData → Option (List Int)
  | [] => some []
  | .int i :: r => (intsD r).map (i :: ·)
  | _ :: _ => none
def asTI (d : PyData) : Xc (Tu Int) := match d with
  | .tuple l => if l.length ≤ sizeLine then (match intsD l with
    | some r => .ok (tu r)
    | none => .no) else .no
  | _ => .no
theorem intsD_al {K : PySem.W.Frag} {F : Hp} : ∀ {l : List PyData} {vs : List V} {r : List Int}, DpAll K F vs l → intsD l = some r → Al K F vs r
  | [], vs, r, h, e => by
    cases h
    have e : some [] = some r := e
    cases e
    exact .nil
  | d :: l, vs, r, h, e => by
    cases h with
    | cons h1 h2 =>
      cases h1 with
      | int i =>
        have e : (intsD l).map (i :: ·) = some r := e
        cases q : intsD l with
        | none => rw [q] at e; cases e
        | some r' =>
          rw [q] at e
          cases e
          exact .cons rfl (intsD_al h2 q)
      | _ => cases e
theorem intsD_len : ∀ {l : List PyData} {r : List Int}, intsD l = some r → r.length = l.length
  | [], r, e => by have e : some [] = some r := e; cases e; rfl
  | d :: l, r, e => by
    cases d with
    | int i =>
      have e : (intsD l).map (i :: ·) = some r := e
      cases q : intsD l with
      | none => rw [q] at e; cases e
      | some r' => rw [q] at e; cases e; simp [intsD_len q]
    | _ => cases e
section
variable {X : Cx} {c : C0} {γ δ γ' : Type} {G : EnvT γ} {e : Expr}
theorem fe_asTI {fa : γ → Xc PyData} (ha : FE X c G e fa) : FE X c G e (fun g => (fa g).bind asTI) :=
  fe_from (fun {K F v a b} h r => by
    unfold asTI at h
    split at h
    · rename_i l
      by_cases z : l.length ≤ sizeLine
      · rw [if_pos z] at h
        split at h
        · rename_i q eq
          cases h
          obtain ⟨r, _⟩ := r
          cases r with
          | tup hq hr => exact ⟨_, _, rfl, hq, by show _ ≤ sizeLine; rw [show (Tu.l (tu q)).length = l.length from intsD_len eq]; exact z, intsD_al hr eq⟩
        · cases h
      · rw [if_neg z] at h; cases h
    · cases h) (fun a c fs h => by
    unfold asTI at h
    split at h
    · split at h
      · split at h <;> cases h
      · cases h
    · cases h) ha
end
section
variable {X : Cx} {c : C1} {γ δ γ' : Type} {G : EnvT γ} {Gl : EnvT δ} {G' : EnvT γ'} {sts : List Stmt}
theorem fns_lend {m : δ → Xc γ'} {h : γ → δ} [B : Bor G Gl h] (hs : FNs X c Gl sts G' m) : FNs X c G sts G' (fun g => m (h g)) :=
  PSs.imp hs fun D σ H ⟨F, g, w, q, p⟩ => by
    obtain ⟨F1, w1, q1, _, s1⟩ := lend (B := B) w q
    exact ⟨F1, h g, w1, q1, p.on s1 Ag.refl⟩
end
end FL

/-! FL21: membership of data; insert. -/
namespace FL
open PySem L2
section
variable {X : Cx} {c : C0} {γ α : Type} {G : EnvT γ} [Rp α] {a b e : Expr} {pos : Pos}
@[irreducible] def inDX {α : Type} [Rp α] [ToD α] (a : α) (l : List α) : Xc Bool := if SeqAt.shaped (ToD.d a) = true ∧ SeqAt.shaped (ToD.d l) = true then .ok ((l.map ToD.d).any fun z => PyData.eqv z (ToD.d a)) else .no
theorem room65 {k : Nat} {A : Around} (r : Room k A) : A.units + 65 < cLine := by have := r.un; omega
theorem fe_inD [ToD α] {fa : γ → Xc α} {fb : γ → Xc (List α)} {k : Nat} (hr : Room k X.A) (ha : FE X c G a fa) (hb : FE X c G b fb) (hm : behindInMarks .In b = false := by rfl) : FE X c G (.Compare a [.In] [b] pos) (fun g => (fa g).bind fun i => (fb g).bind fun j => inDX i j) :=
  two (fun h1 h2 => pe_cmpR (op_inD (room65 hr)) h1 h2 hm) ha hb fun {F H x y i j Q E} s r1 r2 p => by
    unfold inDX at p
    by_cases z : SeqAt.shaped (ToD.d i) = true ∧ SeqAt.shaped (ToD.d j) = true
    · rw [if_pos z] at p; exact ⟨_, _, dp_mono s (ToD.is r1), dp_mono s (ToD.is (α := List α) r2), z.1, z.2, p.ret s rfl⟩
    · rw [if_neg z] at p; exact p.elim
theorem fe_ninD [ToD α] {fa : γ → Xc α} {fb : γ → Xc (List α)} {k : Nat} (hr : Room k X.A) (ha : FE X c G a fa) (hb : FE X c G b fb) (hm : behindInMarks .NotIn b = false := by rfl) : FE X c G (.Compare a [.NotIn] [b] pos) (fun g => (fa g).bind fun i => (fb g).bind fun j => (inDX i j).bind fun t => Xc.ok (!t)) :=
  two (fun h1 h2 => pe_cmpR (op_notInD (room65 hr)) h1 h2 hm) ha hb fun {F H x y i j Q E} s r1 r2 p => by
    unfold inDX at p
    by_cases z : SeqAt.shaped (ToD.d i) = true ∧ SeqAt.shaped (ToD.d j) = true
    · rw [if_pos z] at p; exact ⟨_, _, dp_mono s (ToD.is r1), dp_mono s (ToD.is (α := List α) r2), z.1, z.2, p.ret s rfl⟩
    · rw [if_neg z] at p; exact p.elim
theorem ft_inD [ToD α] {fa : γ → Xc α} {fb : γ → Xc (List α)} {k : Nat} (hr : Room k X.A) (ha : FE X c G a fa) (hb : FE X c G b fb) (hm : behindInMarks .In b = false := by rfl) : FT X c G (.Compare a [.In] [b] pos) (fun g => (fa g).bind fun i => (fb g).bind fun j => inDX i j) :=
  twoT (fun h1 h2 => pt_cmpR (op_inD (room65 hr)) h1 h2 hm) ha hb fun {F H x y i j Q E} s r1 r2 p => by
    unfold inDX at p
    by_cases z : SeqAt.shaped (ToD.d i) = true ∧ SeqAt.shaped (ToD.d j) = true
    · rw [if_pos z] at p; exact ⟨_, _, dp_mono s (ToD.is r1), dp_mono s (ToD.is (α := List α) r2), z.1, z.2, _, rfl, p.ret s⟩
    · rw [if_neg z] at p; exact p.elim
theorem ft_ninD [ToD α] {fa : γ → Xc α} {fb : γ → Xc (List α)} {k : Nat} (hr : Room k X.A) (ha : FE X c G a fa) (hb : FE X c G b fb) (hm : behindInMarks .NotIn b = false := by rfl) : FT X c G (.Compare a [.NotIn] [b] pos) (fun g => (fa g).bind fun i => (fb g).bind fun j => (inDX i j).bind fun t => Xc.ok (!t)) :=
  twoT (fun h1 h2 => pt_cmpR (op_notInD (room65 hr)) h1 h2 hm) ha hb fun {F H x y i j Q E} s r1 r2 p => by
    unfold inDX at p
    by_cases z : SeqAt.shaped (ToD.d i) = true ∧ SeqAt.shaped (ToD.d j) = true
    · rw [if_pos z] at p; exact ⟨_, _, dp_mono s (ToD.is r1), dp_mono s (ToD.is (α := List α) r2), z.1, z.2, _, rfl, p.ret s⟩
    · rw [if_neg z] at p; exact p.elim
end
section
variable {X : Cx} {c : C1} {γ γ' : Type} {G : EnvT γ} {e k : Expr} {pos p1 p2 : Pos} {x : Str}
@[irreducible] def insX {α : Type} (l : List α) (i : Int) (a : α) : Xc (List α) := if l.length < sizeLine ∧ 0 ≤ i ∧ i < 2 ^ 63 then .ok (l.take i.toNat ++ [a] ++ l.drop i.toNat) else .no
/-- x.insert(k, e) -/
theorem fn_insert (i : Nat) {τ : Type} {r : Rp τ} {π : γ → List τ} {put : γ → List τ → γ} [A : AtO G i τ r π put] {fa : γ → Xc τ} {fk : γ → Xc Int} {apos cpos : Pos} (hk : FE X c.toC0 G k fk) (ha : FE X c.toC0 G e fa) (hN : X.N[i]? = some x := by rfl) (hv : Vis X.env.scope x := by first | exact Or.inl rfl | exact Or.inr (Or.inl rfl) | exact Or.inr (Or.inr rfl))
    (hd : (x == ("__debug__" : Str)) = false := by decide) (hcd : (x == ("__classdict__" : Str)) = false := by decide) (hbase : attributeBase (.Name x p1) "insert" X.env (eval (.Name x p1) X.env) = eval (.Name x p1) X.env := by rfl)
    (hfew : ((backTo cpos (starEach [k, e] X.env)).all (fun x => !x.1) && (backToKw cpos (keywordEach [] X.env)).all (fun x => x.1.isSome) && decide ([k, e].length + ([] : List Keyword).length + (if ([] : List Keyword).isEmpty then 0 else 1) < 30)) = true := by rfl)
    (hline : (apos.endLine == cpos.line) = true := by rfl) (hs : starEach [k, e] X.env = (false, eval k X.env) :: starEach [e] X.env := by rfl) (hs2 : starEach [e] X.env = (false, eval e X.env) :: starEach [] X.env := by rfl) (hplain : (backTo cpos (starEach [e] X.env)).any (·.1) = false := by rfl)
    (hsw : swapsWith (.Call (.Attribute (.Name x p1) "insert" apos) [k, e] [] cpos) none pos.line X.env = pure false := by rfl) :
    FN X c G (.Expr (.Call (.Attribute (.Name x p1) "insert" apos) [k, e] [] cpos) pos) G (fun g => (fk g).bind fun j => (fa g).bind fun v => (insX (π g) j v).bind fun l => Xc.ok (put g l)) :=
  PS.imp (ps_expr (pe_bm PySem.F.plainAttrs_list PySem.F.slot_list_insert PySem.F.type_list_insert mt_insert (pe_var hN hv hd hcd) (pa_cons hk (pa_cons ha pa_nil hs2) hs) hbase hfew hline hs hplain) hsw) fun D σ H ⟨F, g, w, q, h⟩ => by
    obtain ⟨p, xs, e1, m, hp, z, al⟩ := A.get q
    refine ⟨.ref p, e1, .inl ⟨rfl, _, SqL.of hp⟩, F, g, w, q, ?_⟩
    cases e3 : fk g with
    | ok j =>
      intro jv F1 H1 w1 rj
      simp only [e3] at h
      have h : PoN X.K c G D F H σ ((fa g).bind fun v => (insX (π g) j v).bind fun l => Xc.ok (put g l)) := h
      refine ⟨F1, g, w.trans w1, G.mono q w1, ?_⟩
      cases e2 : fa g with
      | ok v =>
        intro u F2 H2 w2 r2
        simp only [e2] at h
        have h : PoN X.K c G D F H σ ((insX (π g) j v).bind fun l => Xc.ok (put g l)) := h
        unfold insX at h
        by_cases hz : (π g).length < sizeLine ∧ 0 ≤ j ∧ j < 2 ^ 63
        · rw [if_pos hz] at h
          have w12 := w1.trans w2
          have rj : jv = .int j := rj
          refine ⟨p, xs, j, u, rfl, by rw [rj], w12.h _ _ hp, by rw [al.len]; exact hz.1, hz.2.1, hz.2.2, ?_⟩
          obtain ⟨h0, hf, _⟩ := G.al q m
          have q1 := G.mono q w12
          obtain ⟨_, hf1, _⟩ := G.al q1 m
          refine h σ F2 _ ⟨w12.f, (w.trans w12).mutd h0 hf1⟩ Ag.refl ?_
          have al2 := al.mono w12.f
          exact A.set q1 e1 (by simp only [List.length_append, List.length_take, List.length_drop, List.length_singleton]; omega) (((al2.take _).snoc r2).app (al2.drop _))
        · rw [if_neg hz] at h; exact h.elim
      | er c' fs => simp only [e2] at h; exact ErP.on (PoN.er h w) w1
      | no => simp only [e2] at h; exact h
    | er c' fs => simp only [e3] at h; exact PoN.er h w
    | no => simp only [e3] at h; exact h
end
end FL

/-! FZ1: zip over any two things that are walked by iterators of their own. -/
namespace FZ
open PySem RZ
section
variable (prog : Program) (w : World)
/-- it walks over get, P by the place -/
structure Wkr (P : Nat → Heap → Prop) (it l : Addr) (get : Nat → Option Value) : Prop where
  item : ∀ {A : Around} {E : Value → Shared → Prop} {s : Shared} {k : Nat} {x : Value} {Q : Value → Shared → Prop}, P k s.heap → get k = some x → (∀ h', P (k + 1) h' → Heap.SameBut it s.heap h' → Q x { s with heap := h' }) → wpAny (model prog w) A (Builtin.SmallTypes.nextOf (.ref it)) Q E s
  fin : ∀ {A : Around} {E : Value → Shared → Prop} {s : Shared} {k : Nat} {Q : Value → Shared → Prop}, A.handled = none → P k s.heap → get k = none → (∀ h' e, Heap.ExtBut it s.heap h' → (∃ o, h'.get? e = some o ∧ o.cls = .type "StopIteration") → E (.ref e) { s with heap := h' }) → wpAny (model prog w) A (Builtin.SmallTypes.nextOf (.ref it)) Q E s
  ext : ∀ {k : Nat} {h h' : Heap} {c : Addr}, P k h → Heap.ExtBut c h h' → it ≠ c → l ≠ c → P k h'
  up : ∀ {k : Nat} {h h' : Heap}, P k h → (∀ o, h.get? it = some o → h'.get? it = some o) → (∀ o, h.get? l = some o → h'.get? l = some o) → P k h'
  at_ : ∀ {k : Nat} {h : Heap}, P k h → ∃ o, h.get? it = some o
end
section
variable {prog : Program} {w : World} {A : Around} {E : Value → Shared → Prop} {s : Shared} {P1 P2 : Nat → Heap → Prop} {g1 g2 : Nat → Option Value} {z TI TO i1 i2 l1 l2 : Addr} {k1 k2 : Nat} {x y a b : Value}
theorem nxt (W1 : Wkr prog w P1 i1 l1 g1) (W2 : Wkr prog w P2 i2 l2 g2) (D : ZipApart z TI TO i1 i2 l1 l2) (hz : IsZip s.heap z TI TO .none) (hTI : IsPair s.heap TI (.ref i1) (.ref i2)) (hTO : IsPair s.heap TO a b) (h1 : P1 k1 s.heap) (h2 : P2 k2 s.heap) (hx : g1 k1 = some x) (hy : g2 k2 = some y)
    {Q : Value → Shared → Prop} (hQ : ∀ h', IsZip h' z TI TO (rawInt s.heap.objs.size) → IsPair h' TO x y → P1 (k1 + 1) h' → P2 (k2 + 1) h' → IsPair h' s.heap.objs.size x y → h'.objs.size = s.heap.objs.size + 1 → (∀ c o, c ≠ z → c ≠ TO → c ≠ i1 → c ≠ i2 → s.heap.get? c = some o → h'.get? c = some o) → Q (.ref s.heap.objs.size) { s with heap := h' }) :
    wpAny (model prog w) A (Builtin.«zip.__next__» ⟨[.ref z], []⟩) (fun fin s' => ∃ v, fin = .done (.ret v) ∧ Q v s') E s := by
  show wpAny _ _ (field (.ref z) 2 >>= _) _ _ _; refine wpAny_bind (wpAny_field hz rfl (x := .bool false) rfl ?_)
  show wpAny _ _ (field (.ref z) 3 >>= _) _ _ _; refine wpAny_bind (wpAny_field hz rfl (x := .ref TI) rfl (wpAny_bind (wpAny_seqItems hTI rfl ?_)))
  show wpAny _ _ (Builtin.SmallTypes.ownedTupleIsFree (.ref z) >>= _) _ _ _; refine wpAny_bind ?_; unfold Builtin.SmallTypes.ownedTupleIsFree
  refine wpAny_bind (wpAny_field hz rfl (x := .none) rfl (wpAny_pure ?_)); simp only [if_true]
  refine wpAny_bind (wpAny_rule (wpAny_bind (wpAny_field hz rfl (x := .ref TO) rfl (wpAny_bind (wpAny_setField_rec hz (by simp) fun hA zA sA => ?_)))))
  have zA : IsZip hA z TI TO .ellipsis := zA
  refine wpAny_bind ?_; simp only [List.zipIdx_cons, List.zipIdx_nil, List.forIn_cons, List.forIn_nil]
  refine wpAny_bind (wpAny_bind (wpAny_onRaise ?_)); show wpAny _ _ (Builtin.SmallTypes.nextOf (.ref i1) >>= _) _ _ _
  refine wpAny_bind (W1.item (W1.ext h1 sA.extBut D.i1z D.l1z) hx fun hB pB sB => wpAny_pure ?_)
  have tB : IsPair hB TO a b := sB.extBut _ _ D.TOi1 (sA.extBut _ _ D.TOz hTO)
  refine wpAny_bind (wpAny_seqItems tB rfl (wpAny_bind (wpAny_updateSeq_pair tB fun hC tC sC => ?_)))
  have tC : IsPair hC TO x b := tC
  refine wpAny_bind (wpAny_letGo (wpAny_pure (wpAny_bind (wpAny_bind (wpAny_onRaise ?_))))); show wpAny _ _ (Builtin.SmallTypes.nextOf (.ref i2) >>= _) _ _ _
  have p2C : P2 k2 hC := W2.ext (W2.ext (W2.ext h2 sA.extBut D.i2z D.l2z) sB.extBut D.i12.symm D.l2i1) sC.extBut D.TOi2.symm D.l2TO
  refine wpAny_bind (W2.item p2C hy fun hD pD sD => wpAny_pure ?_)
  have tD : IsPair hD TO x b := sD.extBut _ _ D.TOi2 tC
  refine wpAny_bind (wpAny_seqItems tD rfl (wpAny_bind (wpAny_updateSeq_pair tD fun hF tF sF => ?_)))
  have tF : IsPair hF TO x y := tF
  refine wpAny_bind (wpAny_letGo (wpAny_pure (wpAny_pure (wpAny_bind (wpAny_seqItems tF rfl (wpAny_bind (wpAny_newTuple ?_)))))))
  have sz : hF.objs.size = s.heap.objs.size := by rw [sF.1, sD.1, sC.1, sB.1, sA.1]
  have zF : IsZip hF z TI TO .ellipsis := sF.extBut _ _ D.TOz.symm (sD.extBut _ _ D.i2z.symm (sC.extBut _ _ D.TOz.symm (sB.extBut _ _ D.i1z.symm zA)))
  have kF : ∀ c o, c ≠ z → c ≠ TO → c ≠ i1 → c ≠ i2 → s.heap.get? c = some o → hF.get? c = some o := fun c o c1 c2 c3 c4 e => sF.extBut _ _ c2 (sD.extBut _ _ c4 (sC.extBut _ _ c2 (sB.extBut _ _ c3 (sA.extBut _ _ c1 e))))
  have p1F : P1 (k1 + 1) hF := W1.ext (W1.ext (W1.ext pB sC.extBut D.TOi1.symm D.l1TO) sD.extBut D.i12 D.l1i2) sF.extBut D.TOi1.symm D.l1TO
  have p2F : P2 (k2 + 1) hF := W2.ext pD sF.extBut D.TOi2.symm D.l2TO
  have lz : z < hF.objs.size := Heap.lt_size zF
  show wpAny _ _ (Builtin.SmallTypes.ownedTupleHandOut (.ref z) (.ref hF.objs.size) >>= _) _ _ _; refine wpAny_bind ?_; unfold Builtin.SmallTypes.ownedTupleHandOut
  have zG : IsZip (hF.push { cls := .type "tuple", data := .seq #[x, y] }) z TI TO .ellipsis := Heap.get?_push_of_some _ zF
  refine wpAny_bind (wpAny_setField_rec zG (by simp) fun hH zH sH => ?_); have zH : IsZip hH z TI TO (rawInt hF.objs.size) := zH
  refine wpAny_setField_rec zH (by simp) fun hI zI sI => ?_; have zI : IsZip hI z TI TO (rawInt hF.objs.size) := zI
  have up : ∀ c o, c ≠ z → hF.get? c = some o → hI.get? c = some o := fun c o c1 e => sI.extBut _ _ c1 (sH.extBut _ _ c1 (Heap.get?_push_of_some _ e))
  have tI : IsPair hI hF.objs.size x y := sI.extBut _ _ (Nat.ne_of_gt lz) (sH.extBut _ _ (Nat.ne_of_gt lz) (Heap.get?_push_size _ rfl))
  have sI8 : hI.objs.size = hF.objs.size + 1 := by rw [sI.1, sH.1, Heap.size_push]
  rw [sz] at zI tI sI8
  refine wpAny_pure ⟨_, rfl, ?_⟩; show Q (.ref hF.objs.size) _; rw [sz]
  exact hQ hI zI (up _ _ D.TOz tF) (W1.up p1F (fun o e => up _ o D.i1z e) fun o e => up _ o D.l1z e) (W2.up p2F (fun o e => up _ o D.i2z e) fun o e => up _ o D.l2z e) tI sI8 fun c o c1 c2 c3 c4 e => up c o c1 (kF c o c1 c2 c3 c4 e)
end
end FZ

/-! FZ2: the end of such a zip; its steps; a list, a tuple as a walker. -/
namespace FZ
open PySem RZ
section
variable {prog : Program} {w : World} {A : Around} {E : Value → Shared → Prop} {s : Shared} {P1 P2 : Nat → Heap → Prop} {g1 g2 : Nat → Option Value} {z TI TO i1 i2 l1 l2 : Addr} {k1 k2 : Nat} {x y a b : Value}
theorem done (W1 : Wkr prog w P1 i1 l1 g1) (W2 : Wkr prog w P2 i2 l2 g2) (hh : A.handled = none) (D : ZipApart z TI TO i1 i2 l1 l2) (hz : IsZip s.heap z TI TO .none) (hTI : IsPair s.heap TI (.ref i1) (.ref i2)) (hTO : IsPair s.heap TO a b) (h1 : P1 k1 s.heap) (h2 : P2 k2 s.heap) (he : g1 k1 = none ∨ g2 k2 = none)
    {Q : Fin → Shared → Prop} (hE : ∀ h' e, (∀ c o, c ≠ z → c ≠ TO → c ≠ i1 → c ≠ i2 → s.heap.get? c = some o → h'.get? c = some o) → (∃ o, h'.get? e = some o ∧ o.cls = .type "StopIteration") → E (.ref e) { s with heap := h' }) : wpAny (model prog w) A (Builtin.«zip.__next__» ⟨[.ref z], []⟩) Q E s := by
  show wpAny _ _ (field (.ref z) 2 >>= _) _ _ _; refine wpAny_bind (wpAny_field hz rfl (x := .bool false) rfl ?_)
  show wpAny _ _ (field (.ref z) 3 >>= _) _ _ _; refine wpAny_bind (wpAny_field hz rfl (x := .ref TI) rfl (wpAny_bind (wpAny_seqItems hTI rfl ?_)))
  show wpAny _ _ (Builtin.SmallTypes.ownedTupleIsFree (.ref z) >>= _) _ _ _; refine wpAny_bind ?_; unfold Builtin.SmallTypes.ownedTupleIsFree
  refine wpAny_bind (wpAny_field hz rfl (x := .none) rfl (wpAny_pure ?_)); simp only [if_true]
  refine wpAny_bind (wpAny_rule (wpAny_bind (wpAny_field hz rfl (x := .ref TO) rfl (wpAny_bind (wpAny_setField_rec hz (by simp) fun hA zA sA => ?_)))))
  have zA : IsZip hA z TI TO .ellipsis := zA
  refine wpAny_bind ?_; simp only [List.zipIdx_cons, List.zipIdx_nil, List.forIn_cons, List.forIn_nil]
  refine wpAny_bind (wpAny_bind (wpAny_onRaise ?_)); show wpAny _ _ (Builtin.SmallTypes.nextOf (.ref i1) >>= _) _ _ _
  have p1A : P1 k1 hA := W1.ext h1 sA.extBut D.i1z D.l1z
  cases hx : g1 k1 with
  | none =>
    refine wpAny_bind (W1.fin hh p1A hx fun hB e sB ⟨oe, hoe, hce⟩ => ?_)
    have zB : IsZip hB z TI TO .ellipsis := sB _ _ D.i1z.symm zA
    have ez : e ≠ z := fun q => by subst q; rw [zB] at hoe; cases hoe; simp at hce
    exact wpAny_setField_rec zB (by simp) fun hC _ sC => hE hC e (fun c o c1 _ c3 _ q => sC.extBut _ _ c1 (sB _ _ c3 (sA.extBut _ _ c1 q))) ⟨oe, sC.extBut _ _ ez hoe, hce⟩
  | some x =>
    have hy : g2 k2 = none := by rcases he with q | q; (rw [hx] at q; cases q); exact q
    refine wpAny_bind (W1.item p1A hx fun hB pB sB => wpAny_pure ?_)
    have tB : IsPair hB TO a b := sB.extBut _ _ D.TOi1 (sA.extBut _ _ D.TOz hTO)
    refine wpAny_bind (wpAny_seqItems tB rfl (wpAny_bind (wpAny_updateSeq_pair tB fun hC tC sC => ?_)))
    refine wpAny_bind (wpAny_letGo (wpAny_pure (wpAny_bind (wpAny_bind (wpAny_onRaise ?_))))); show wpAny _ _ (Builtin.SmallTypes.nextOf (.ref i2) >>= _) _ _ _
    have p2C : P2 k2 hC := W2.ext (W2.ext (W2.ext h2 sA.extBut D.i2z D.l2z) sB.extBut D.i12.symm D.l2i1) sC.extBut D.TOi2.symm D.l2TO
    refine wpAny_bind (W2.fin hh p2C hy fun hD e sD ⟨oe, hoe, hce⟩ => ?_)
    have zD : IsZip hD z TI TO .ellipsis := sD _ _ D.i2z.symm (sC.extBut _ _ D.TOz.symm (sB.extBut _ _ D.i1z.symm zA))
    have ez : e ≠ z := fun q => by subst q; rw [zD] at hoe; cases hoe; simp at hce
    exact wpAny_setField_rec zD (by simp) fun hF _ sF => hE hF e (fun c o c1 c2 c3 c4 q => sF.extBut _ _ c1 (sD _ _ c4 (sC.extBut _ _ c2 (sB.extBut _ _ c3 (sA.extBut _ _ c1 q))))) ⟨oe, sF.extBut _ _ ez hoe, hce⟩
theorem py_item (W1 : Wkr prog w P1 i1 l1 g1) (W2 : Wkr prog w P2 i2 l2 g2) (D : ZipApart z TI TO i1 i2 l1 l2) (hz : IsZip s.heap z TI TO .none) (hTI : IsPair s.heap TI (.ref i1) (.ref i2)) (hTO : IsPair s.heap TO a b) (h1 : P1 k1 s.heap) (h2 : P2 k2 s.heap) (hx : g1 k1 = some x) (hy : g2 k2 = some y)
    {Q : Option Value → Shared → Prop} (hQ : ∀ h', IsZip h' z TI TO (rawInt s.heap.objs.size) → IsPair h' TO x y → P1 (k1 + 1) h' → P2 (k2 + 1) h' → IsPair h' s.heap.objs.size x y → h'.objs.size = s.heap.objs.size + 1 → (∀ c o, c ≠ z → c ≠ TO → c ≠ i1 → c ≠ i2 → s.heap.get? c = some o → h'.get? c = some o) → Q (some (.ref s.heap.objs.size)) { s with heap := h' }) : wpAny (model prog w) A (pyNext (.ref z)) Q E s := by
  have T : s.TypeIs (.ref z) "zip" := ⟨_, hz, rfl⟩
  unfold pyNext
  exact wpAny_bind (wpAny_attempt (wpAny_callSpecial?_slot (name := Str.ofString "__next__") T F.slot_zip_next (wpAny_call_entry F.slot_zip_next T F.entry_zip_next (nxt W1 W2 D hz hTI hTO h1 h2 hx hy fun h' a1 a2 a3 a4 a5 a6 a7 => wpAny_pure (hQ h' a1 a2 a3 a4 a5 a6 a7)) (F.args_zip_next_1 _))))
theorem py_done (W1 : Wkr prog w P1 i1 l1 g1) (W2 : Wkr prog w P2 i2 l2 g2) (hh : A.handled = none) (D : ZipApart z TI TO i1 i2 l1 l2) (hz : IsZip s.heap z TI TO .none) (hTI : IsPair s.heap TI (.ref i1) (.ref i2)) (hTO : IsPair s.heap TO a b) (h1 : P1 k1 s.heap) (h2 : P2 k2 s.heap) (he : g1 k1 = none ∨ g2 k2 = none)
    {Q : Option Value → Shared → Prop} (hQ : ∀ h', (∀ c o, c ≠ z → c ≠ TO → c ≠ i1 → c ≠ i2 → s.heap.get? c = some o → h'.get? c = some o) → Q none { s with heap := h' }) : wpAny (model prog w) A (pyNext (.ref z)) Q E s := by
  have T : s.TypeIs (.ref z) "zip" := ⟨_, hz, rfl⟩
  unfold pyNext
  refine wpAny_bind (wpAny_attempt (wpAny_callSpecial?_slot (name := Str.ofString "__next__") T F.slot_zip_next (wpAny_call_entry F.slot_zip_next T F.entry_zip_next (done (A := A.in1) W1 W2 hh D hz hTI hTO h1 h2 he fun h' e hk ⟨o, ho, hc⟩ => ?_) (F.args_zip_next_1 _))))
  exact wpAny_bind (wpAny_isInstance (T := "StopIteration") (b := true) ⟨o, ho, hc⟩ isSubtype_stop (wpAny_pure (hQ _ hk)))
end
end FZ

/-! FZ3: lists and tuples as walkers; the zip of a tuple with a list, of a list with a tuple. -/
namespace FZ
open PySem RZ
section
variable {prog : Program} {w : World} {it l : Addr} {items : Array Value}
def PL (it l : Addr) (items : Array Value) (k : Nat) (h : Heap) : Prop := h.IsListIter it l k ∧ h.IsList l items
def PT (it l : Addr) (items : Array Value) (k : Nat) (h : Heap) : Prop := h.IsTupleIter it l k ∧ h.IsTuple l items
theorem wkL (ne : l ≠ it) : Wkr prog w (PL it l items) it l (fun k => items[k]?) :=
  ⟨fun ⟨h1, h2⟩ hx q => wpAny_nextOf_list_item h1 h2 hx fun h' a sb => q h' ⟨a, h2.extBut sb.extBut ne⟩ sb, fun hh ⟨h1, h2⟩ hx q => wpAny_nextOf_list_end hh h1 h2 hx q, fun ⟨h1, h2⟩ e c1 c2 => ⟨h1.extBut e c1, h2.extBut e c2⟩,
    fun ⟨h1, h2⟩ e1 e2 => ⟨h1.at e1, h2.at e2⟩, fun ⟨⟨o, e, _⟩, _⟩ => ⟨o, e⟩⟩
theorem wkT (ne : l ≠ it) : Wkr prog w (PT it l items) it l (fun k => items[k]?) :=
  ⟨fun ⟨h1, h2⟩ hx q => RZ.nextOf_tuple_item h1 h2 hx fun h' a sb => q h' ⟨a, h2.extBut sb.extBut ne⟩ sb, fun hh ⟨h1, h2⟩ hx q => RZ.nextOf_tuple_end hh h1 h2 hx q, fun ⟨h1, h2⟩ e c1 c2 => ⟨h1.extBut e c1, h2.extBut e c2⟩,
    fun ⟨h1, h2⟩ e1 e2 => ⟨h1.at e1, h2.at e2⟩, fun ⟨⟨o, e, _⟩, _⟩ => ⟨o, e⟩⟩
end
/-- the heap behind zip(a, b): iterators of the kinds A, B -/
abbrev ZA (A : String) (h : Heap) (a : Addr) : Heap := h.push { cls := .type A, data := .fields #[.ref a, .int 0 0] }
abbrev ZB (A B : String) (h : Heap) (a b : Addr) : Heap := (ZA A h a).push { cls := .type B, data := .fields #[.ref b, .int 0 0] }
abbrev ZC (A B : String) (h : Heap) (a b : Addr) : Heap := (ZB A B h a b).push { cls := .type "tuple", data := .seq #[.ref h.objs.size, .ref (ZA A h a).objs.size] }
abbrev ZD (A B : String) (h : Heap) (a b : Addr) : Heap := (ZC A B h a b).push { cls := .type "tuple", data := .seq #[.none, .none] }
abbrev ZE (A B : String) (h : Heap) (a b : Addr) : Heap := (ZD A B h a b).push { cls := .type "zip", data := .fields #[.none, .bool false, .bool false, .ref (ZB A B h a b).objs.size, .ref (ZC A B h a b).objs.size] }
theorem newTL (a b : Addr) (xs ys : Array Value) : Meets (Builtin.«zip.__new__» ⟨[.type "zip", .ref a, .ref b], []⟩) (fun _ R s => (s.heap.IsTuple a xs ∧ s.heap.IsList b ys) ∧ R (.ok (.ret (.ref (ZD "tuple_iterator" "list_iterator" s.heap a b).objs.size))) { s with heap := ZE "tuple_iterator" "list_iterator" s.heap a b }) :=
  .of_wp fun prog w A R s h => by
    obtain ⟨hp, g, d, tk, os⟩ := s; obtain ⟨⟨m1, m2⟩, h⟩ := h; have hsub := sub_zip
    have hL1 : Heap.IsTuple (Shared.heap ⟨hp, g, d, tk, os⟩) a xs := m1; have hL2 : Heap.IsList (Shared.heap ⟨ZA "tuple_iterator" hp a, g, d, tk, os⟩) b ys := Heap.IsList.at m2 fun o e => Heap.get?_push_of_some _ e
    wp_walk using wpAny_pyIter_tuple hL1, wpAny_pyIter_list hL2; exact ⟨_, rfl, h⟩
theorem newLT (a b : Addr) (xs ys : Array Value) : Meets (Builtin.«zip.__new__» ⟨[.type "zip", .ref a, .ref b], []⟩) (fun _ R s => (s.heap.IsList a xs ∧ s.heap.IsTuple b ys) ∧ R (.ok (.ret (.ref (ZD "list_iterator" "tuple_iterator" s.heap a b).objs.size))) { s with heap := ZE "list_iterator" "tuple_iterator" s.heap a b }) :=
  .of_wp fun prog w A R s h => by
    obtain ⟨hp, g, d, tk, os⟩ := s; obtain ⟨⟨m1, m2⟩, h⟩ := h; have hsub := sub_zip
    have hL1 : Heap.IsList (Shared.heap ⟨hp, g, d, tk, os⟩) a xs := m1; have hL2 : Heap.IsTuple (Shared.heap ⟨ZA "list_iterator" hp a, g, d, tk, os⟩) b ys := Heap.IsTuple.at m2 fun o e => Heap.get?_push_of_some _ e
    wp_walk using wpAny_pyIter_list hL1, wpAny_pyIter_tuple hL2; exact ⟨_, rfl, h⟩
end FZ

/-! FZ4: the call of zip; its walk. -/
namespace FZ
open PySem RZ
section
variable {prog : Program} {w : World} {X0 : Around} {E : Value → Shared → Prop} {s : Shared} {a b : Addr} {A B : String} {Pre : Heap → Prop}
theorem zcall (M : Meets (Builtin.«zip.__new__» ⟨[.type "zip", .ref a, .ref b], []⟩) (fun _ R s => Pre s.heap ∧ R (.ok (.ret (.ref (ZD A B s.heap a b).objs.size))) { s with heap := ZE A B s.heap a b })) (hp : Pre s.heap) {Q : Value → Shared → Prop}
    (h : ∀ h', IsZip h' (s.heap.objs.size + 4) (s.heap.objs.size + 2) (s.heap.objs.size + 3) .none → IsPair h' (s.heap.objs.size + 2) (.ref s.heap.objs.size) (.ref (s.heap.objs.size + 1)) → IsPair h' (s.heap.objs.size + 3) .none .none →
      h'.get? s.heap.objs.size = some { cls := .type A, data := .fields #[.ref a, .int 0 0] } → h'.get? (s.heap.objs.size + 1) = some { cls := .type B, data := .fields #[.ref b, .int 0 0] } → (∀ c o, s.heap.get? c = some o → h'.get? c = some o) → Q (.ref (s.heap.objs.size + 4)) { s with heap := h' }) :
    wpAny (model prog w) X0 (call (.type "zip") [.ref a, .ref b]) Q E s := by
  refine callType_new F.called_zip (by decide) (F.typeCall_zip_2 _ _) (F.newCall_zip_2 _ _) (fun obj => F.args_object_init_3 obj _ _) F.entry_zip_new M ⟨hp, ?_⟩
  have e1 : (ZA A s.heap a).objs.size = s.heap.objs.size + 1 := Heap.size_push ..
  have e2 : (ZB A B s.heap a b).objs.size = s.heap.objs.size + 2 := by rw [Heap.size_push, e1]
  have e3 : (ZC A B s.heap a b).objs.size = s.heap.objs.size + 3 := by rw [Heap.size_push, e2]
  have e4 : (ZD A B s.heap a b).objs.size = s.heap.objs.size + 4 := by rw [Heap.size_push, e3]
  have q5 : (ZE A B s.heap a b).get? (ZD A B s.heap a b).objs.size = some _ := Heap.get?_push_size _ rfl
  have q4 : (ZE A B s.heap a b).get? (ZC A B s.heap a b).objs.size = some _ := Heap.get?_push_of_some _ (Heap.get?_push_size _ rfl)
  have q3 : (ZE A B s.heap a b).get? (ZB A B s.heap a b).objs.size = some _ := Heap.get?_push_of_some _ (Heap.get?_push_of_some _ (Heap.get?_push_size _ rfl))
  have q2 : (ZE A B s.heap a b).get? (ZA A s.heap a).objs.size = some _ := Heap.get?_push_of_some _ (Heap.get?_push_of_some _ (Heap.get?_push_of_some _ (Heap.get?_push_size _ rfl)))
  have q1 : (ZE A B s.heap a b).get? s.heap.objs.size = some _ := Heap.get?_push_of_some _ (Heap.get?_push_of_some _ (Heap.get?_push_of_some _ (Heap.get?_push_of_some _ (Heap.get?_push_size _ rfl))))
  show _ ∧ _
  rw [e2, e3, e4] at q5; rw [e1, e2] at q3; rw [e3] at q4; rw [e1] at q2; rw [e4]
  exact ⟨⟨_, q5, rfl⟩, h _ q5 q3 q4 q1 q2 fun c o x => Heap.get?_push_of_some _ (Heap.get?_push_of_some _ (Heap.get?_push_of_some _ (Heap.get?_push_of_some _ (Heap.get?_push_of_some _ x))))⟩
end
end FZ

/-! FZ5: the walk of zip(tuple, list). -/
namespace FZ
open PySem RZ L2 PyProof.Rows
def ItM (K : PySem.W.Frag) (a b : Addr) : It :=
  ⟨fun i H => ∃ (xs ys : List V) (x y : V), SqT K H a xs ∧ SqL K H b ys ∧ xs[i]? = some x ∧ ys[i]? = some y, fun i H v H' => ∃ T x y, v = .ref T ∧ H T = none ∧ H' = upd H T (.tup [x, y]) ∧ (∀ xs, SqT K H a xs → xs[i]? = some x) ∧ ∀ ys, SqL K H b ys → ys[i]? = some y,
    fun i H => ∃ xs ys : List V, SqT K H a xs ∧ SqL K H b ys ∧ (xs.length ≤ i ∨ ys.length ≤ i)⟩
theorem turnM {P : Program} {w : World} {K : PySem.W.Frag} {elts : List Expr} {kk : Nat} {tpos : Pos} {a b z TI TO i1 i2 : Addr} (D : ZipApart z TI TO i1 i2 a b) :
    Turn P w K (.Tuple elts kk tpos) (ItM K a b) [z, TI, TO, i1, i2] z (fun i h => IsZip h z TI TO .none ∧ IsPair h TI (.ref i1) (.ref i2) ∧ (∃ x y, IsPair h TO x y) ∧ h.IsTupleIter i1 a i ∧ h.IsListIter i2 b i) where
  mem := by simp
  obj := fun i h ⟨hz, hTI, ⟨x, y, hTO⟩, ⟨o1, e1, _, d1⟩, ⟨o2, e2, _, d2⟩⟩ c hc => by
    have e' : c = z ∨ c = TI ∨ c = TO ∨ c = i1 ∨ c = i2 := (by simpa using hc); rcases e' with q | q | q | q | q <;> rw [q]
    · exact ⟨_, hz, fun v q => nomatch q⟩
    · exact ⟨_, hTI, fun v q => nomatch q⟩
    · exact ⟨_, hTO, fun v q => nomatch q⟩
    · exact ⟨o1, e1, fun v q => by rw [d1] at q; cases q⟩
    · exact ⟨o2, e2, fun v q => by rw [d2] at q; cases q⟩
  keep := fun i h h' ⟨hz, hTI, ⟨x, y, hTO⟩, h1, h2⟩ k => ⟨k z (by simp) _ hz, k TI (by simp) _ hTI, ⟨x, y, k TO (by simp) _ hTO⟩, h1.at fun o q => k i1 (by simp) o q, h2.at fun o q => k i2 (by simp) o q⟩
  item := by
    intro X hP hw hK hc i pins s σ H E I hf ⟨hz, hTI, ⟨x0, y0, hTO⟩, h1, h2⟩ ⟨xs, ys, x, y, hqx, hqy, hx, hy⟩; subst hP hw hK
    obtain ⟨its, rv, p, _⟩ := I.tuple hqx; obtain ⟨its2, rv2, p2, _⟩ := I.list hqy; obtain ⟨u, hu, ru⟩ := rv.get hx; obtain ⟨u2, hu2, ru2⟩ := rv2.get hy
    have lz : z < s.heap.objs.size := Heap.lt_size hz
    refine py_item (wkT (items := its.toArray) D.l1i1) (wkL (items := its2.toArray) D.l2i2) D hz hTI hTO ⟨h1, p⟩ ⟨h2, p2.isList⟩ (x := u) (y := u2) (by simpa using hu) (by simpa using hu2) fun h' z' TO' h1' h2' hT hsz hk => ?_
    refine ⟨_, rfl, wpAny_letOwnedTupleGo_zip (s := { s with heap := h' }) z' fun h'' z'' sb => ?_⟩
    have hT2 : h''.get? s.heap.objs.size = some { cls := .type "tuple", data := .seq #[u, u2] } := (sb.2 _ (Nat.ne_of_gt lz)).trans hT
    have new : ObjOk X.prog X.w (upd H s.heap.objs.size (.tup [x, y])) h'' s.heap.objs.size (.tup [x, y]) := ⟨(show 2 ≤ sizeLine by decide), [u, u2], .cons ru (.cons ru2 .nil), ⟨_, hT2, rfl, _, rfl⟩⟩
    have kk' : ∀ c o, c ∉ [z, TI, TO, i1, i2] → s.heap.get? c = some o → h''.get? c = some o := fun c o hb q => (sb.2 c (fun q' => hb (by simp [q']))).trans (hk c o (fun q' => hb (by simp [q'])) (fun q' => hb (by simp [q'])) (fun q' => hb (by simp [q'])) (fun q' => hb (by simp [q'])) q)
    have I1 : Inv X pins σ (upd H s.heap.objs.size (.tup [x, y])) { s with heap := h'' } := I.turnedNew (t' := s.toks) (ch := [z, TI, TO, i1, i2]) kk' hf (Nat.le_refl _) new
    refine ⟨.ref s.heap.objs.size, _, I1, rfl, ⟨_, x, y, rfl, I.hok.fresh (Nat.le_refl _), rfl, fun l hl => by rw [I.tuple_inj hl hqx]; exact hx, fun l hl => by rw [I.list_inj hl hqy]; exact hy⟩, ⟨z'', (sb.2 _ D.TIz).trans (hk _ _ D.TIz D.TITO D.TIi1 D.TIi2 hTI), ⟨u, u2, (sb.2 _ D.TOz).trans TO'⟩, h1'.1.at fun o q => (sb.2 _ D.i1z).trans q, h2'.1.at fun o q => (sb.2 _ D.i2z).trans q⟩, fun c hcm => ?_⟩
    have hlt : c < s.heap.objs.size := by
      have e' : c = z ∨ c = TI ∨ c = TO ∨ c = i1 ∨ c = i2 := (by simpa using hcm); rcases e' with q | q | q | q | q <;> rw [q]
      · exact lz
      · exact Heap.lt_size hTI
      · exact Heap.lt_size hTO
      · obtain ⟨_, e1, _⟩ := h1; exact Heap.lt_size e1
      · obtain ⟨_, e2, _⟩ := h2; exact Heap.lt_size e2
    rw [upd_ne (Nat.ne_of_lt hlt)]; exact (hf c hcm).1
  done := by
    intro X hP hw hK hc i pins s σ H E I hf ⟨hz, hTI, ⟨x0, y0, hTO⟩, h1, h2⟩ ⟨xs, ys, hqx, hqy, hend⟩; subst hP hw hK
    obtain ⟨its, rv, p, _⟩ := I.tuple hqx; obtain ⟨its2, rv2, p2, _⟩ := I.list hqy; have m1 := rv.length; have m2 := rv2.length
    have he : its.toArray[i]? = none ∨ its2.toArray[i]? = none := (by rcases hend with q | q; (exact .inl (by simp; omega)); exact .inr (by simp; omega))
    exact py_done (wkT (items := its.toArray) D.l1i1) (wkL (items := its2.toArray) D.l2i2) (I.ok.hd hc) D hz hTI hTO ⟨h1, p⟩ ⟨h2, p2.isList⟩ he fun h' hk => ⟨rfl, I.turnedL (t' := s.toks) (ch := [z, TI, TO, i1, i2]) (fun c o hb q => hk c o (fun q' => hb (by simp [q'])) (fun q' => hb (by simp [q'])) (fun q' => hb (by simp [q'])) (fun q' => hb (by simp [q'])) q) hf⟩
  self := fun A i s Q E st h => wpAny_pyIter_zip st.1 h
end FZ

/-! FZ6: for .., .. in zip(tuple, list). -/
namespace FZ
open PySem RZ L2 PyProof.Rows FL
def iZipM (K : PySem.W.Frag) (ta : TA) : TI := fun σ H R => ta σ H fun vs H1 => ∃ a b xs ys, vs = [.ref a, .ref b] ∧ SqT K H1 a xs ∧ SqL K H1 b ys ∧ R (ItM K a b) H1
theorem pi_zipM {X : Cx} {e e2 : Expr} {ta : TA} {p pos tpos : Pos} {elts : List Expr} {kk : Nat} (hg : Gl X "zip") (hm : X.mg "zip" = none) (ha : PA X [e, e2] ta) (hs : starEach [e, e2] X.env = (false, eval e X.env) :: starEach [e2] X.env) (hpl : (backTo pos (starEach [e2] X.env)).any (·.1) = false) :
    PI X (.Tuple elts kk tpos) (.Call (.Name "zip" p) [e, e2] [] pos) (iZipM X.K ta) := by
  refine ⟨fun pins s σ H R I h => Call_ (ld_blt I hg hm PyProof.Rows.boot_zip (PyProof.Rows.callWith_type1 (thn (ha.run pos pins s σ H _ I h) fun us s1 ⟨vs, H1, I1, r1, a, b, xs, ys, ex, hqx, hqy, q⟩ => ?_) hs hpl))⟩
  subst ex
  cases r1 with
  | cons r rr =>
    cases rr with
    | cons r' rr =>
      cases rr; cases r; cases r'
      obtain ⟨its, rv, p1, _⟩ := I1.tuple hqx; obtain ⟨its2, rv2, p2, _⟩ := I1.list hqy; obtain ⟨o1, ho1, _⟩ := id p1
      have fresh5 : ∀ c, c ∈ [s1.heap.objs.size + 4, s1.heap.objs.size + 2, s1.heap.objs.size + 3, s1.heap.objs.size, s1.heap.objs.size + 1] → FpOk X pins H1 c := fun c hcm => by
        have hle : s1.heap.objs.size ≤ c := (by simp at hcm; omega)
        exact I1.fpOk hle (I1.hok.fresh hle)
      refine zcall (A := "tuple_iterator") (B := "list_iterator") (Pre := fun h => h.IsTuple a its.toArray ∧ h.IsList b its2.toArray) (newTL a b its.toArray its2.toArray) ⟨p1, p2.isList⟩ fun h' hz hTI hTO h1 h2 hk => wpAny_pyIter_zip hz ?_
      have I2 : Inv X pins σ H1 { s1 with heap := h' } := I1.kept (t' := s1.toks) hk
      exact ⟨s1.heap.objs.size + 4, [s1.heap.objs.size + 4, s1.heap.objs.size + 2, s1.heap.objs.size + 3, s1.heap.objs.size, s1.heap.objs.size + 1], _, _, H1, rfl, I2, turnM (PySem.W.ktu_apart s1.heap.objs.size a b (Heap.lt_size ho1) p2.lt), ⟨hz, hTI, ⟨_, _, hTO⟩, ⟨_, h1, rfl, rfl⟩, ⟨_, h2, rfl, rfl⟩⟩, fresh5, q⟩
section
variable {X : Cx} {c : C0} {γ α β : Type} {G : EnvT γ} [Rp α] [Rp β] {a b : Expr} {pos p : Pos}
theorem fi_zipTL {f1 : γ → Xc (Tu α)} {f2 : γ → Xc (List β)} {elts : List Expr} {kk : Nat} {tpos : Pos} (h1 : FE X c G a f1) (h2 : FE X c G b f2) (hm : X.mg "zip" = none) (hg : Gl X "zip" := by rfl) (hs : starEach [a, b] X.env = (false, eval a X.env) :: starEach [b] X.env := by rfl)
    (hs2 : starEach [b] X.env = (false, eval b X.env) :: starEach [] X.env := by rfl) (hpl : (backTo pos (starEach [b] X.env)).any (·.1) = false := by rfl) : FI X c G (.Tuple elts kk tpos) (.Call (.Name "zip" p) [a, b] [] pos) (fun g => (f1 g).bind fun l => (f2 g).bind fun m => Xc.ok (l.l.zip m)) :=
  PI.imp (pi_zipM hg hm (pa_cons h1 (pa_cons h2 pa_nil hs2) hs) hs hpl) fun σ H R ⟨F, g, w, q, p⟩ => by
    refine ⟨F, g, w, q, ?_⟩
    cases e1 : f1 g with
    | ok l =>
      rintro v F1 H1 w1 ⟨a1, xs, rfl, hx, hz, rx⟩
      simp only [e1] at p
      have p : PoI X.K F H R (WE c.W σ) ((f2 g).bind fun m => Xc.ok (l.l.zip m)) := p
      refine ⟨F1, g, w.trans w1, G.mono q w1, ?_⟩
      cases e2 : f2 g with
      | ok m =>
        rintro u F2 H2 w2 ⟨a2, ys, rfl, hy, hz2, ry⟩
        simp only [e2] at p
        have p : PoI X.K F H R (WE c.W σ) (.ok (l.l.zip m)) := p
        have hx2 : SqT X.K F2 a1 xs := Same.seqT w2.f hx
        have rx2 := rx.mono w2.f
        have lz : (l.l.zip m).length = min l.l.length m.length := List.length_zip
        refine ⟨a1, a2, xs, ys, rfl, Same.seqT w2.s hx2, Same.seq w2.s hy, p _ F2 H2 (w1.trans w2) ⟨by rw [lz]; omega, fun F' H' s1 s2 => ⟨xs, ys, Same.seqT (s1.trans s2) hx2, Same.seq (s1.trans s2) hy, ?_⟩, fun i F' H' hi s1 s2 => ?_, fun i t F' H' x H'' e3 s1 s2 y => ?_⟩⟩
        · rw [lz, rx.len, ry.len]; omega
        · rw [lz] at hi
          obtain ⟨vx, h3, _⟩ := rx.get' (List.getElem?_eq_getElem (show i < l.l.length by omega))
          obtain ⟨vy, h4, _⟩ := ry.get' (List.getElem?_eq_getElem (show i < m.length by omega))
          exact ⟨xs, ys, vx, vy, Same.seqT (s1.trans s2) hx2, Same.seq (s1.trans s2) hy, h3, h4⟩
        · obtain ⟨T, vx, vy, rfl, hT, rfl, y1, y2⟩ := y
          obtain ⟨g1, g2⟩ := FL.zip_get e3
          obtain ⟨vx', h3, r3⟩ := rx2.get' g1
          obtain ⟨vy', h4, r4⟩ := ry.get' g2
          have k1 := y1 xs (Same.seqT (s1.trans s2) hx2)
          have k2 := y2 ys (Same.seq (s1.trans s2) hy)
          rw [h3] at k1; rw [h4] at k2; cases k1; cases k2
          have w3 := Wd.new (o := .tup [vx, vy]) s2 hT
          exact ⟨_, w3, T, vx, vy, rfl, SqT.of upd_same, Rp.mono (s1.trans w3.f) r3, Rp.mono (s1.trans w3.f) r4⟩
      | er c' fs => simp only [e2] at p; exact ErP.on (show ErP X.K F H (WE c.W σ) c' fs from p) w1
      | no => simp only [e2] at p; exact p
    | er c' fs => simp only [e1] at p; exact p
    | no => simp only [e1] at p; exact p
end
end FZ

/-! FZ7: a pair as a tuple of any length. -/
namespace FL
open PySem L2
section
variable {X : Cx} {c : C0} {γ α : Type} {G : EnvT γ} [Rp α] {e : Expr}
theorem fe_pairU {fa : γ → Xc (α × α)} (ha : FE X c G e fa) : FE X c G e (fun g => (fa g).bind fun a => Xc.ok (tu [a.1, a.2])) :=
  fe_to (α := α × α) (β := Tu α) (φ := fun a => tu [a.1, a.2]) (fun {K F v a} r => by
    obtain ⟨p, x, y, e, h, r1, r2⟩ := r
    exact ⟨p, [x, y], e, h, small_line (by show 2 ≤ 1000; decide), .cons r1 (.cons r2 .nil)⟩) ha
end
end FL

/-! FS1: sorted(..) of alike data. -/
namespace FL
open PySem L2 PyProof.Rows
section
variable {X : Cx}
def rSortedD (K : PySem.W.Frag) : List V → Hp → VK → Prop := fun vs H Q => ∃ (a : Addr) (β : Type) (bs : List β) (f : β → V) (enc : β → PyData), vs = [.ref a] ∧ SqL K H a (bs.map f) ∧ (∀ b ∈ bs, Dp K H (f b) (enc b)) ∧
  PySem.W.AllAlike (bs.map enc) ∧ PySem.W.Sortable (bs.map enc) ∧ (∀ b ∈ bs, (enc b).depth ≤ 64) ∧ ∀ p, H p = none → Q (.ref p) (upd H p (.lst ((bs.mergeSort (PySem.W.dataLe false enc)).map f)))
theorem each_of_vals {β : Type} {f : β → V} {R : Value → β → Prop} : ∀ {bs : List β} {us : List Value}, Vals (bs.map f) us → (∀ b u, b ∈ bs → RelV (f b) u → R u b) → PySem.W.EachIs R us bs
  | [], us, r, h => by cases r; exact .nil
  | b :: bs, us, r, h => by
    cases r with
    | cons r1 r2 => exact .cons (h _ _ (by simp) r1) (each_of_vals r2 fun b u m => h b u (by simp [m]))
theorem vals_of_each {β : Type} {f : β → V} : ∀ {bs : List β} {us : List Value}, PySem.W.EachIs (fun u b => RelV (f b) u) us bs → Vals (bs.map f) us
  | _, _, .nil => .nil
  | _, _, .cons h t => .cons h (vals_of_each t)
theorem cr_sortedD {k : Nat} (hr : Room k X.A) : CallR X (.builtin "sorted") (rSortedD X.K) := by
  intro pins s σ H vs us Q I r h
  obtain ⟨a, β, bs, f, enc, rfl, hs, hd, hal, hk, hz, q⟩ := h
  obtain ⟨its, rv, hl, hsz⟩ := I.list hs
  obtain ⟨u, rfl, ru⟩ := vals1 r
  obtain rfl : u = Value.ref a := ru
  have hlen : bs.length ≤ sizeLine := by simpa using hsz
  refine PySem.W.sorted_data (R := fun v b => RelV (f b) v) hl.isList (each_of_vals rv fun _ _ _ r => r) (each_of_vals rv fun b u m r => Dp.reads I _ _ _ (hd b m) r) hal hk hlen (fun b hb => by have := hz b hb; have := hr.un; omega) fun out ho eo => ?_
  obtain ⟨n, hn⟩ := sortedAll_at s.heap its out.toArray
  refine ⟨.ref (s.heap.objs.size + 1), _, I.laid (t' := s.toks) (o := .lst ((bs.mergeSort (PySem.W.dataLe false enc)).map f)) (fun b o e => sortedAll_old e) (Nat.le_succ _) ⟨?_, out, n, vals_of_each eo, hn⟩, rfl, q _ (I.hok.fresh (Nat.le_succ _))⟩
  simpa using hlen
end
def alikeB (ds : List PyData) : Bool := ds.all fun d => ds.all fun e => PySem.W.alike d e
def tup1B : PyData → Bool
  | .tuple (_ :: _) => true
  | _ => false
def noTupB : PyData → Bool
  | .tuple _ => false
  | .none => false
  | _ => true
def sortableB (ds : List PyData) : Bool := ds.all tup1B || ds.all noTupB
theorem alikeB_ok {ds : List PyData} (h : alikeB ds = true) : PySem.W.AllAlike ds := fun d hd e he => List.all_eq_true.mp (List.all_eq_true.mp h d hd) e he
theorem sortableB_ok {ds : List PyData} (h : sortableB ds = true) : PySem.W.Sortable ds := by
  rcases Bool.or_eq_true_iff.mp h with h | h
  · refine .inl fun d hd => ?_
    have := List.all_eq_true.mp h d hd
    unfold tup1B at this
    split at this
    · exact ⟨_, _, rfl⟩
    · cases this
  · refine .inr fun d hd => ?_
    have := List.all_eq_true.mp h d hd
    constructor
    · intro e; subst e; cases this
    · intro xs e; subst e; cases this
@[irreducible] def sortX {α : Type} [Rp α] [ToD α] (l : List α) : Xc (List α) := if (l.all fun a => SeqAt.shaped (ToD.d a)) = true ∧ alikeB (l.map ToD.d) = true ∧ sortableB (l.map ToD.d) = true then .ok (l.mergeSort (PySem.W.dataLe false ToD.d)) else .no
section
variable {α : Type} [Rp α] {K : PySem.W.Frag} {F : Hp}
theorem al_zip_mem {xs : List V} {l : List α} (r : Al K F xs l) : ∀ p ∈ xs.zip l, Rp.is K F p.1 p.2 := by
  induction r with
  | nil => intro p h; simp at h
  | cons h t ih =>
    intro p m
    rcases List.mem_cons.mp m with e | m
    · subst e; exact h
    · exact ih p m
theorem al_of_pairs : ∀ {ps : List (V × α)}, (∀ p ∈ ps, Rp.is K F p.1 p.2) → Al K F (ps.map (·.1)) (ps.map (·.2))
  | [], _ => .nil
  | p :: ps, h => .cons (h p (by simp)) (al_of_pairs fun q m => h q (by simp [m]))
theorem al_zip1 {xs : List V} {l : List α} (r : Al K F xs l) : (xs.zip l).map (·.1) = xs := List.map_fst_zip (Nat.le_of_eq r.len)
theorem al_zip2 {xs : List V} {l : List α} (r : Al K F xs l) : (xs.zip l).map (·.2) = l := List.map_snd_zip (Nat.le_of_eq r.len.symm)
end
section
variable {X : Cx} {c : C0} {γ α : Type} {G : EnvT γ} [Rp α] {a : Expr} {pos p : Pos}
theorem fo_sorted [ToD α] {fa : γ → Xc (List α)} {k : Nat} (hr : Room k X.A) (ha : FE X c G a fa) (hm : X.mg "sorted" = none) (hg : Gl X "sorted" := by rfl) (hs : starEach [a] X.env = (false, eval a X.env) :: starEach [] X.env := by rfl) :
    FO X c G (.Call (.Name "sorted" p) [a] [] pos) (fun g => (fa g).bind sortX) :=
  call1O (r := rSortedD X.K) (fun h => pe_callB (cr_sortedD hr) hg hm (by decide +kernel) h (he := hs)) ha hs fun {F H v i Q E} s r p => by
    obtain ⟨q, xs, e, hq, z, al⟩ := r
    subst e
    unfold sortX at p
    by_cases c : (i.all fun a => SeqAt.shaped (ToD.d a)) = true ∧ alikeB (i.map ToD.d) = true ∧ sortableB (i.map ToD.d) = true
    · rw [if_pos c] at p
      obtain ⟨c1, c2, c3⟩ := c
      have e2 : (xs.zip i).map (fun b => ToD.d b.2) = i.map ToD.d := by
        have := congrArg (List.map ToD.d) (al_zip2 al)
        rw [List.map_map] at this
        exact this
      refine ⟨q, V × α, xs.zip i, (·.1), fun b => ToD.d b.2, rfl, by rw [al_zip1 al]; exact Same.seq s hq, fun b hb => dp_mono s (ToD.is (al_zip_mem al b hb)), by rw [e2]; exact alikeB_ok c2, by rw [e2]; exact sortableB_ok c3, fun b hb => ?_, fun p' hp' => ?_⟩
      · have := List.all_eq_true.mp c1 b.2 (List.of_mem_zip hb).2
        exact SeqAt.depth_of_shaped this
      · have ms : ((xs.zip i).mergeSort (PySem.W.dataLe false fun b => ToD.d b.2)).map (·.2) = i.mergeSort (PySem.W.dataLe false ToD.d) := by
          have := List.map_mergeSort (r := PySem.W.dataLe false fun (b : V × α) => ToD.d b.2) (s := PySem.W.dataLe false (ToD.d (α := α))) (f := Prod.snd) (l := xs.zip i) (fun _ _ _ _ => rfl)
          rw [this, al_zip2 al]
        have mem : ∀ b ∈ (xs.zip i).mergeSort (PySem.W.dataLe false fun b => ToD.d b.2), Rp.is X.K F b.1 b.2 := fun b hb => al_zip_mem al b ((List.mergeSort_perm _ _).mem_iff.mp hb)
        have al2 := al_of_pairs mem
        rw [ms] at al2
        refine p p' _ F _ (Wd.newO s hp') hp' (s.free hp') upd_same ?_ al2
        rw [List.length_mergeSort]
        exact z
    · rw [if_neg c] at p; exact p.elim
end
end FL

/-! FS2: list + list of any kind, tuple * int, tuples as tuples of data. -/
namespace FL
open PySem L2 PyProof.Rows
/-! ### list + list -/
section
variable {X : Cx}
def rCatF (K : PySem.W.Frag) : R2 := fun x y H Q => ∃ l b xs zs, x = .ref l ∧ y = .ref b ∧ SqL K H l xs ∧ SqL K H b zs ∧ xs.length + zs.length ≤ sizeLine ∧ ∀ p, H p = none → Q (.ref p) (upd H p (.lst (xs ++ zs)))
theorem op_catF : OpR X (binaryOp .Add) (rCatF X.K) := by
  intro pins s σ H x y v u Q I rx ry h
  obtain ⟨l, b, xs, zs, rfl, rfl, hH, hB, hz, q⟩ := h
  cases rx
  cases ry
  obtain ⟨its, r, hl, _⟩ := I.list hH
  obtain ⟨its2, r2, hl2, _⟩ := I.list hB
  obtain ⟨⟨cls, dd, data, sl⟩, ho, hc, n, hd⟩ := hl.isList
  obtain ⟨⟨cls2, dd2, data2, sl2⟩, ho2, hc2, n2, hd2⟩ := hl2.isList
  simp only at hc hd hc2 hd2
  subst hc hd hc2 hd2
  have e1 := r.length
  have e2 := r2.length
  refine concat_meets ⟨_, ho, rfl⟩ ⟨_, ho2, rfl⟩ noFill_list_add seq_list_add PySem.F.slot_list_add PySem.F.entry_list_add (PySem.F.args_list_add_2 _ _) (list_addW l b its.toArray its2.toArray n n2 dd dd2 sl sl2 (by simp only [List.size_toArray]; omega)) ⟨ho, ho2, ?_⟩
  have ea : its.toArray ++ its2.toArray = (its ++ its2).toArray := by simp
  rw [ea]
  exact ⟨.ref _, _, I.lnew (t' := s.toks) (r.append r2) (by rw [List.length_append]; omega), rfl, q _ I.fresh⟩
end
section
variable {X : Cx} {c : C0} {γ α β ρ : Type} {G : EnvT γ} [Rp α] [Rp β] [Rp ρ] {a b d e tg : Expr} {pos p p2 : Pos}
theorem twoO {a b : Expr} {fa : γ → Xc α} {fb : γ → Xc β} {op : α → β → Xc (List ρ)} {r : R2} {e : Expr} (h : ∀ {ta tb : TE}, PE X a ta → PE X b tb → PE X e (tOp r ta tb)) (ha : FE X c G a fa) (hb : FE X c G b fb)
    (hop : ∀ {F H x y i j Q E}, Same F H → Rp.is X.K F x i → Rp.is X.K F y j → PoO X.K F H Q E (op i j) → r x y H Q) : FO X c G e (fun g => (fa g).bind fun i => (fb g).bind fun j => op i j) :=
  PE.imp (h ha hb) fun σ H Q ⟨F, g, w, q, p⟩ => by
    refine ⟨F, g, w, q, ?_⟩
    cases e1 : fa g with
    | ok l =>
      intro v F1 H1 w1 r1
      simp only [e1] at p
      have p : PoO X.K F H Q (WE c.W σ) ((fb g).bind fun j => op l j) := p
      refine ⟨F1, g, w.trans w1, G.mono q w1, ?_⟩
      cases e2 : fb g with
      | ok m =>
        intro u F2 H2 w2 r2
        simp only [e2] at p
        exact hop w2.s (Rp.mono w2.f r1) r2 (PoO.on (show PoO X.K F H Q (WE c.W σ) (op l m) from p) (w1.trans w2))
      | er c' fs => simp only [e2] at p; exact ErP.on (show ErP X.K F H (WE c.W σ) c' fs from p) w1
      | no => simp only [e2] at p; exact p
    | er c' fs => simp only [e1] at p; exact p
    | no => simp only [e1] at p; exact p
theorem fo_catF {fa fb : γ → Xc (List α)} (ha : FE X c G a fa) (hb : FE X c G b fb) : FO X c G (.BinOp a .Add b pos) (fun g => (fa g).bind fun i => (fb g).bind fun j => catL i j) :=
  twoO (fun h1 h2 => pe_op op_catF h1 h2) ha hb fun {F H x y i j Q E} s r1 r2 p => by
    unfold catL at p
    by_cases h : i.length + j.length ≤ sizeLine
    · rw [if_pos h] at p
      obtain ⟨a1, xs, rfl, hx, hz, rx⟩ := r1
      obtain ⟨a2, ys, rfl, hy, hz2, ry⟩ := r2
      have lx := rx.len
      have ly := ry.len
      refine ⟨a1, a2, xs, ys, rfl, rfl, Same.seq s hx, Same.seq s hy, by omega, fun t ht => ?_⟩
      exact p t _ F _ (Wd.newO s ht) ht (s.free ht) upd_same (by rw [List.length_append]; exact h) (rx.app ry)
    · rw [if_neg h] at p; exact p.elim
/-! ### tuples as tuples of data -/
@[irreducible] def toUD {α : Type} [Rp α] [ToD α] (t : Tu α) : Xc (Tu PyData) := if (t.l.all fun a => SeqAt.shaped (ToD.d a)) = true then .ok (tu (t.l.map ToD.d)) else .no
@[irreducible] def pairUD {α β : Type} [Rp α] [Rp β] [ToD α] [ToD β] (t : α × β) : Xc (Tu PyData) := if SeqAt.shaped (ToD.d t.1) = true ∧ SeqAt.shaped (ToD.d t.2) = true then .ok (tu [ToD.d t.1, ToD.d t.2]) else .no
theorem al_toD {K : PySem.W.Frag} {F : Hp} [ToD α] {vs : List V} {as : List α} (h : Al K F vs as) (z : (as.all fun a => SeqAt.shaped (ToD.d a)) = true) : Al K F vs (as.map ToD.d) := by
  induction h with
  | nil => exact .nil
  | cons h t ih =>
    simp only [List.all_cons, Bool.and_eq_true] at z
    exact .cons ⟨ToD.is h, z.1⟩ (ih z.2)
theorem fe_toUD [ToD α] {fa : γ → Xc (Tu α)} (ha : FE X c G e fa) : FE X c G e (fun g => (fa g).bind toUD) :=
  fe_from (fun {K F v a b} h r => by
    unfold toUD at h
    by_cases z : (a.l.all fun a => SeqAt.shaped (ToD.d a)) = true
    · rw [if_pos z] at h
      cases h
      obtain ⟨p, xs, e, hq, hz, al⟩ := r
      exact ⟨p, xs, e, hq, by show (a.l.map ToD.d).length ≤ _; rw [List.length_map]; exact hz, al_toD al z⟩
    · rw [if_neg z] at h; cases h) (fun a c fs h => by
    unfold toUD at h
    split at h <;> cases h) ha
theorem fe_pairUD [ToD α] [ToD β] {fa : γ → Xc (α × β)} (ha : FE X c G e fa) : FE X c G e (fun g => (fa g).bind pairUD) :=
  fe_from (fun {K F v a b} h r => by
    unfold pairUD at h
    by_cases z : SeqAt.shaped (ToD.d a.1) = true ∧ SeqAt.shaped (ToD.d a.2) = true
    · rw [if_pos z] at h
      cases h
      obtain ⟨p, x, y, e, hq, r1, r2⟩ := r
      exact ⟨p, [x, y], e, hq, by show 2 ≤ _; rw [sizeLine_eq]; decide, .cons ⟨ToD.is r1, z.1⟩ (.cons ⟨ToD.is r2, z.2⟩ .nil)⟩
    · rw [if_neg z] at h; cases h) (fun a c fs h => by
    unfold pairUD at h
    split at h <;> cases h) ha
end
end FL

/-! FS3: tuple * int. -/
namespace FL
open PySem L2 PyProof.Rows PySem.Spec
theorem tuple_mul1 (l : Addr) (items : Array Value) (n : Nat) (dd : Option Addr) (sl : Array (Option Value)) (x : Int) (u : Tok) (c0 : (decide (x < -(2 ^ 63)) || decide (x ≥ 2 ^ 63)) = false) (c1 : (items.isEmpty || x == 1) = true) :
    Meets (Builtin.«tuple.__mul__» ⟨[.ref l, .int x u], []⟩) (fun _ R s => s.heap.get? l = some { cls := .type "tuple", dict := dd, data := .seq items n, slots := sl } ∧
      R (.ok (.ret (Value.ref l))) { s with heap := s.heap, toks := s.toks }) :=
  .of_wp fun prog w A R s h => by
    obtain ⟨hp, g, d, tk, os⟩ := s
    obtain ⟨hl, h⟩ := h
    have f1 := AutoSeq1.idx_int
    have f2 := AutoSeq1.sub_tuple_tuple
    wp_walk using AutoSeq1.wpAny_loadPart' hl
    repeat (first
      | (refine wpAny_ite_false (decide_eq_false (by rw [c0]; exact Bool.false_ne_true)) ?_; wp_walk using AutoSeq1.wpAny_loadPart' hl)
      | (refine wpAny_ite_true (decide_eq_true (by rw [c1])) ?_; wp_walk using AutoSeq1.wpAny_loadPart' hl))
    exact ⟨_, rfl, h⟩
def rRep1 (K : PySem.W.Frag) : R2 := fun x y H Q => ∃ l xs, x = .ref l ∧ y = .int 1 ∧ SqT K H l xs ∧ Q (.ref l) H
theorem op_rep1 {X : Cx} : OpR X (binaryOp .Mult) (rRep1 X.K) := by
  intro pins s σ H x y v u Q I rx ry h
  obtain ⟨l, xs, rfl, rfl, hT, q⟩ := h
  cases rx
  obtain ⟨t, rfl⟩ := ry
  obtain ⟨its, r, ⟨⟨cls, dd, data, sl⟩, ho, hc, n, hd⟩, hs⟩ := I.tuple hT
  simp only at hc hd
  subst hc hd
  have c0 : (decide ((1 : Int) < -(2 ^ 63)) || decide ((1 : Int) ≥ 2 ^ 63)) = false := by decide
  have c1 : (its.toArray.isEmpty || (1 : Int) == 1) = true := by rw [Bool.or_eq_true_iff]; exact .inr (by decide)
  refine wpAny_binaryOp_repeat_ref (T := "tuple") (U := "int") (by decide) ⟨_, ho, rfl⟩ (fun s' => typeIs_int s' 1 t) noFill_tuple_mul F.fills_int_mul F.slot_int_rmul repeat_tuple F.slot_int_index.lookup
    (call_meets F.slot_int_rmul (typeIs_int s 1 t) F.entry_int_rmul (F.args_int_rmul_2 _ _) (int_rmul_tuple 1 t l its.toArray n dd sl)
      ⟨ho, rfl, ⟨_, ho, rfl⟩, call_meets F.slot_tuple_mul ⟨_, ho, rfl⟩ F.entry_tuple_mul (F.args_tuple_mul_2 _ _) (tuple_mul1 l its.toArray n dd sl 1 t c0 c1) ⟨ho, ?_⟩⟩)
  exact ⟨.ref l, H, I.tok _, rfl, q⟩
@[irreducible] def repU {α : Type} (t : Tu α) (k : Int) : Xc (Tu α) := if 1 ≤ k ∧ k ≤ 1000 ∧ t.l.length ≤ 1000 ∧ t.l ≠ [] then .ok (tu (List.replicate k.toNat t.l).flatten) else .no
instance {α : Type} (l : List α) : Decidable (l ≠ []) := by cases l with
  | nil => exact .isFalse (fun h => h rfl)
  | cons => exact .isTrue (fun h => by cases h)
section
variable {X : Cx} {c : C0} {γ α : Type} {G : EnvT γ} [Rp α] {a b e : Expr} {pos : Pos}
theorem fe_repU {fa : γ → Xc (Tu α)} {fb : γ → Xc Int} (ha : FE X c G a fa) (hb : FE X c G b fb) : FE X c G (.BinOp a .Mult b pos) (fun g => (fa g).bind fun i => (fb g).bind fun j => repU i j) :=
  two (fun h1 h2 => pe_op (OpR.or op_rep1 op_repT) h1 h2) ha hb fun {F H x y i j Q E} s r1 r2 p => by
    unfold repU at p
    by_cases h : 1 ≤ j ∧ j ≤ 1000 ∧ i.l.length ≤ 1000 ∧ i.l ≠ []
    · rw [if_pos h] at p
      obtain ⟨a1, xs, rfl, hx, hz, rx⟩ := r1
      have r2 : y = .int j := r2
      subst r2
      obtain ⟨h1, h2, h3, h4⟩ := h
      have lx := rx.len
      have e1 : (List.replicate j.toNat i.l).flatten.length = j.toNat * i.l.length := by rw [List.length_flatten, List.map_replicate, List.sum_replicate_nat]
      have e2 : j.toNat * i.l.length ≤ 1000 * 1000 := Nat.mul_le_mul (by omega) h3
      by_cases k1 : j = 1
      · subst k1
        refine .inl ⟨a1, xs, rfl, rfl, Same.seqT s hx, p.ret s ⟨a1, xs, rfl, hx, ?_, ?_⟩⟩
        · show (List.replicate 1 i.l).flatten.length ≤ sizeLine
          simpa using hz
        · show Al _ _ _ (List.replicate 1 i.l).flatten
          simpa using rx
      · refine .inr ⟨a1, j, xs, rfl, rfl, Same.seqT s hx, fun e => h4 ?_, by omega, h2, by omega, fun t ht => ?_⟩
        · cases q : i.l with
          | nil => rfl
          | cons _ _ => rw [q, e] at lx; cases lx
        · have w2 := Wd.new (o := .tup (List.replicate j.toNat xs).flatten) s ht
          exact p (.ref t) _ _ w2 ⟨t, _, rfl, SqT.of upd_same, by show (List.replicate j.toNat i.l).flatten.length ≤ _; rw [e1, sizeLine_eq]; omega, (al_flat rx j.toNat).mono w2.f⟩
    · rw [if_neg h] at p; exact p.elim
end
end FL

/-! FK1: instances of the text's own classes: fields, methods. -/
namespace FL
open PySem L2
/-- an instance of the class C with the fields ns, whose values stand for α -/
structure Ob (C : Str) (ns : List Str) (α : Type) where
  v : α
instance {C : Str} {ns : List Str} {α : Type} [Rps α] : Rp (Ob C ns α) := ⟨fun K F v o => ∃ p dx vs, v = .ref p ∧ F p = some (.ins (He.ga K C) dx (ns.zip vs)) ∧ vs.length = ns.length ∧ Rps.isL K F vs o.v,
  fun s ⟨p, dx, vs, e, h, l, r⟩ => ⟨p, dx, vs, e, s _ _ h, l, Rps.mono s r⟩⟩
class RpsT (α : Type) [Rps α] : Prop where
  down : ∀ {K F F' vs} {a : α}, (∀ p o, F p = some o → (∀ xs, o ≠ HO.lst xs) → F' p = some o) → Rps.isL K F vs a → Rps.isL K F' vs a
instance : RpsT Unit := ⟨fun _ h => h⟩
instance {α αs : Type} [Rp α] [Rps αs] [RpT α] [RpsT αs] : RpsT (α × αs) := ⟨fun s ⟨v, r, e, h, t⟩ => ⟨v, r, e, RpT.down s h, RpsT.down s t⟩⟩
instance {C : Str} {ns : List Str} {α : Type} [Rps α] [RpsT α] : RpT (Ob C ns α) := ⟨fun s ⟨p, dx, vs, e, h, l, r⟩ => ⟨p, dx, vs, e, s _ _ h (fun _ z => nomatch z), l, RpsT.down s r⟩⟩
instance {C : Str} {ns : List Str} {α : Type} [Rps α] : NotNone (Ob C ns α) := ⟨fun ⟨p, dx, vs, h, _⟩ => by subst h; intro z; cases z⟩
/-- the i-th field -/
class Prj (α : Type) [Rps α] (i : Nat) (τ : outParam Type) (r : outParam (Rp τ)) (π : outParam (α → τ)) : Prop where
  get : ∀ {K F vs} {a : α}, Rps.isL K F vs a → ∃ v, vs[i]? = some v ∧ r.is K F v (π a)
instance {τ αs : Type} [r : Rp τ] [Rps αs] : Prj (τ × αs) 0 τ r (fun a => a.1) := ⟨fun ⟨v, t, e, h, _⟩ => ⟨v, by subst e; rfl, h⟩⟩
instance {β αs τ : Type} [Rp β] [Rps αs] (i : Nat) (r : Rp τ) (π : αs → τ) [P : Prj αs i τ r π] : Prj (β × αs) (i + 1) τ r (fun a => π a.2) := ⟨fun ⟨v, t, e, _, h⟩ => by
  obtain ⟨u, e2, h2⟩ := P.get h
  exact ⟨u, by subst e; exact e2, h2⟩⟩
theorem zip_lookup {f : Str} : ∀ {ns : List Str} {vs : List V} {i : Nat} {v : V}, ns.findIdx (· == f) = i → vs.length = ns.length → vs[i]? = some v → (ns.zip vs).lookup f = some v
  | [], vs, i, v, h, l, e => by
    have : vs = [] := List.length_eq_zero_iff.mp (by simpa using l)
    subst this
    simp at e
  | n :: ns, [], i, v, h, l, e => by simp at l
  | n :: ns, u :: vs, i, v, h, l, e => by
    rw [List.findIdx_cons] at h
    rw [List.zip_cons_cons, List.lookup_cons]
    by_cases q : n = f
    · subst q
      rw [beq_self_eq_true, cond_true] at h
      subst h
      rw [beq_self_eq_true]
      simpa using e
    · rw [beq_eq_false_iff_ne.mpr q, cond_false] at h
      rw [beq_eq_false_iff_ne.mpr (Ne.symm q)]
      subst h
      exact zip_lookup (i := ns.findIdx (· == f)) rfl (by simpa using l) (by simpa using e)
theorem zip_none {f : Str} : ∀ {ns : List Str} {vs : List V}, f ∉ ns → (ns.zip vs).lookup f = none
  | [], vs, h => rfl
  | n :: ns, [], h => rfl
  | n :: ns, u :: vs, h => by
    have h1 : f ≠ n := fun e => h (by rw [e]; exact List.mem_cons_self)
    rw [List.zip_cons_cons, List.lookup_cons, beq_eq_false_iff_ne.mpr h1]
    exact zip_none fun m => h (List.mem_cons_of_mem _ m)
section
variable {X : Cx} {c : C0} {γ α τ ρ αs : Type} {G : EnvT γ} [Rps α] [Rp ρ] [Rps αs] {e o : Expr} {es : List Expr} {pos apos : Pos} {C : Str} {ns : List Str} {k j : Nat} {m : Str}
/-- e.f -/
theorem fe_fld (i : Nat) {r : Rp τ} {π : α → τ} [P : Prj α i τ r π] {f : Str} {fa : γ → Xc (Ob C ns α)} (ha : FE X c G e fa) (cl : Cls X.K (He.ga X.K C)) (na : NoAttr X.K (He.ga X.K C) f) (hi : ns.findIdx (· == f) = i := by decide)
    (hb : attributeBase e f X.env (eval e X.env) = eval e X.env := by rfl) : FE X c G (.Attribute e f pos) (fun g => (fa g).bind fun o => Xc.ok (π o.v)) :=
  PE.imp (pe_fld ha hb) fun σ H Q ⟨F, g, w, q, h⟩ => by
    refine ⟨F, g, w, q, ?_⟩
    cases e1 : fa g with
    | ok o =>
      intro v F1 H1 w1 r1
      simp only [e1] at h
      obtain ⟨p, dx, vs, ev, hp, hl, hr⟩ := r1
      obtain ⟨u, hu, ru⟩ := P.get hr
      exact ⟨p, _, dx, _, u, ev, w1.s _ _ hp, cl, na, zip_lookup hi hl hu, h u F1 H1 w1 ru⟩
    | er c' fs => simp only [e1] at h; exact h
    | no => simp only [e1] at h; exact h
end
/-! methods -/
section
variable {X : Cx} {CX : CXT} {k : Nat} {f C : Addr} {fd : FuncData} {ps : List Str} {sp : Sp} {E : St → XK} {m : Str} {pos apos : Pos} {e o : Expr} {es : List Expr} {ta : TE} {t : TA} {pl : Sem Bool}
def tMethW (C : Addr) (m : Str) (sp : Sp) (E : St → XK) (ta : TE) (t : TA) : TE := fun σ H Q => ta σ H fun x H1 => ∃ a dx fs, x = .ref a ∧ H1 a = some (.ins C dx fs) ∧ fs.lookup m = none ∧ t σ H1 fun vs H2 => sp (x :: vs) H2 Q (E σ)
theorem pe_methW (he : PE X o ta) (c : Cls X.K C) (hm : Meth X.K C m f) (F : FnOk X.prog X.w X.K X.mg X.base CX k f fd ps sp) (hr : Room k X.A) (hb : Binds X.K fd ps []) (hx : ∀ σ, PassesAt CX X σ (E σ)) (ha : PA X (e :: es) t)
    (hst : starEach (e :: es) X.env = (false, eval e X.env) :: starEach es X.env := by rfl) (hpl : (backTo pos (starEach es X.env)).any (·.1) = false := by rfl)
    (ht : eval (.Call (.Attribute o m apos) (e :: es) [] pos) X.env = (do
      let ov ← eval o X.env
      standAt apos.atName
      let (f, first) ← holding [ov] (getMethod ov m pl)
      callWith pos f first (backTo pos (starEach (e :: es) X.env)) (backToKw pos (keywordEach [] X.env))) := by rfl) :
    PE X (.Call (.Attribute o m apos) (e :: es) [] pos) (tMethW C m sp E ta t) := by
  refine ⟨fun pins s σ H Q I h => ?_⟩
  refine PySem.W.methodCall_KW (pl := pl) (thn (he.run pins s σ H _ I h) fun u s1 ⟨x, H1, I1, rx, a, dx, fs, ex, ea, l, q⟩ => ?_) ht
  subst ex
  obtain rfl : u = Value.ref a := rx
  refine getmeth_ok I1 ea c hm l ?_
  refine PySem.W.callWith_K (first := [.ref a]) (h₀ := X.base) I.ok.mod.kin hm.kp (thn (ha.run pos pins s1 σ H1 _ I1 q) fun us s2 ⟨vs, H2, I2, r, q2⟩ => ⟨I2.kIn, ?_⟩) hst hpl
  exact run_fnS (us := .ref a :: us) (vs := .ref a :: vs) F hr hb (hx σ) I2 (.cons rfl r) q2
theorem pe_methW0 (he : PE X o ta) (c : Cls X.K C) (hm : Meth X.K C m f) (F : FnOk X.prog X.w X.K X.mg X.base CX k f fd ps sp) (hr : Room k X.A) (hb : Binds X.K fd ps []) (hx : ∀ σ, PassesAt CX X σ (E σ))
    (ht : eval (.Call (.Attribute o m apos) [] [] pos) X.env = (do
      let ov ← eval o X.env
      standAt apos.atName
      let (f, first) ← holding [ov] (getMethod ov m pl)
      callWith pos f first (backTo pos (starEach [] X.env)) (backToKw pos (keywordEach [] X.env))) := by rfl) :
    PE X (.Call (.Attribute o m apos) [] [] pos) (tMethW C m sp E ta tNil) := by
  refine ⟨fun pins s σ H Q I h => ?_⟩
  refine PySem.W.methodCall_KW (pl := pl) (thn (he.run pins s σ H _ I h) fun u s1 ⟨x, H1, I1, rx, a, dx, fs, ex, ea, l, q⟩ => ?_) ht
  subst ex
  obtain rfl : u = Value.ref a := rx
  refine getmeth_ok I1 ea c hm l ?_
  exact PySem.W.callWith_K0 (first := [.ref a]) I1.kIn hm.kp (run_fnS (us := [.ref a]) (vs := [.ref a]) F hr hb (hx σ) I1 (.cons rfl .nil) q)
end
/-- the method m of the class C keeps the promise sp -/
structure Dm (P : Program) (w : World) (K : PySem.W.Frag) (mg : Str → Option Value) (base : Heap) (C m : Str) (ps : List Str) (k : Nat) (sp : Sp) : Prop where
  ex : ∃ fd, FnOk P w K mg base (L2.CX P w) k (He.ma K (He.ga K C) m) fd ps sp ∧ Binds K fd ps []
  meth : Meth K (He.ga K C) m (He.ma K (He.ga K C) m)
section
variable {X : Cx} {c : C0} {γ α ρ αs : Type} {G : EnvT γ} [Rps α] [Rp ρ] [Rps αs] {e o : Expr} {es : List Expr} {pos apos : Pos} {C : Str} {ns : List Str} {ps : List Str} {k j : Nat} {m : Str} {pl : Sem Bool}
/-- o.m(e, ..) -/
theorem fe_meth {mm : Ob C ns α × αs → Xc ρ} {fa : γ → Xc (Ob C ns α)} {fs : γ → Xc αs} (D : Dm X.prog X.w X.K X.mg X.base C m ps j (spF X.K (rtF ρ) mm)) (cl : Cls X.K (He.ga X.K C)) (tk : Takes X c.W) (hr : Room k X.A) (he : FE X c G o fa) (ha : FA X c G (e :: es) fs) (hn : m ∉ ns := by decide) (hjk : j ≤ k := by decide)
    (hst : starEach (e :: es) X.env = (false, eval e X.env) :: starEach es X.env := by rfl) (hpl : (backTo pos (starEach es X.env)).any (·.1) = false := by rfl)
    (ht : eval (.Call (.Attribute o m apos) (e :: es) [] pos) X.env = (do
      let ov ← eval o X.env
      standAt apos.atName
      let (f, first) ← holding [ov] (getMethod ov m pl)
      callWith pos f first (backTo pos (starEach (e :: es) X.env)) (backToKw pos (keywordEach [] X.env))) := by rfl) :
    FE X c G (.Call (.Attribute o m apos) (e :: es) [] pos) (fun g => (fa g).bind fun x => (fs g).bind fun as => mm (x, as)) := by
  obtain ⟨⟨fd, F, B⟩, hm⟩ := D
  refine PE.imp (pe_methW (E := WE c.W) he cl hm F (hr.mono hjk) B (fun σ => passAt tk σ) ha hst hpl ht) fun σ H Q ⟨F, g, w, q, h⟩ => ?_
  refine ⟨F, g, w, q, ?_⟩
  cases e1 : fa g with
  | ok x =>
    intro v F1 H1 w1 r1
    simp only [e1] at h
    have h : Po X.K F H Q (WE c.W σ) ((fs g).bind fun as => mm (x, as)) := h
    have rx := r1
    obtain ⟨p, dx, vs, ev, hp, hl, hrr⟩ := r1
    refine ⟨p, dx, _, ev, w1.s _ _ hp, zip_none hn, F1, g, w.trans w1, G.mono q w1, ?_⟩
    cases e2 : fs g with
    | ok as =>
      intro us F2 H2 w2 r2
      simp only [e2] at h
      have h : Po X.K F H Q (WE c.W σ) (mm (x, as)) := h
      refine ⟨F2, (x, as), w2.s, ⟨v, us, rfl, Rp.mono w2.f rx, r2⟩, ?_⟩
      revert h
      cases mm (x, as) with
      | ok r => exact fun h v F3 H3 w3 rr => h v F3 H3 ((w1.trans w2).trans w3) rr
      | er cc fs => exact fun h => ErP.on h (w1.trans w2)
      | no => exact fun h => h
    | er c' fs => simp only [e2] at h; exact ErP.on h w1
    | no => simp only [e2] at h; exact h
  | er c' fs => simp only [e1] at h; exact h
  | no => simp only [e1] at h; exact h
theorem fe_meth0 {mm : Ob C ns α × Unit → Xc ρ} {fa : γ → Xc (Ob C ns α)} (D : Dm X.prog X.w X.K X.mg X.base C m ps j (spF X.K (rtF ρ) mm)) (cl : Cls X.K (He.ga X.K C)) (tk : Takes X c.W) (hr : Room k X.A) (he : FE X c G o fa) (hn : m ∉ ns := by decide) (hjk : j ≤ k := by decide)
    (ht : eval (.Call (.Attribute o m apos) [] [] pos) X.env = (do
      let ov ← eval o X.env
      standAt apos.atName
      let (f, first) ← holding [ov] (getMethod ov m pl)
      callWith pos f first (backTo pos (starEach [] X.env)) (backToKw pos (keywordEach [] X.env))) := by rfl) :
    FE X c G (.Call (.Attribute o m apos) [] [] pos) (fun g => (fa g).bind fun x => mm (x, ())) := by
  obtain ⟨⟨fd, F, B⟩, hm⟩ := D
  refine PE.imp (pe_methW0 (E := WE c.W) he cl hm F (hr.mono hjk) B (fun σ => passAt tk σ) ht) fun σ H Q ⟨F, g, w, q, h⟩ => ?_
  refine ⟨F, g, w, q, ?_⟩
  cases e1 : fa g with
  | ok x =>
    intro v F1 H1 w1 r1
    simp only [e1] at h
    have h : Po X.K F H Q (WE c.W σ) (mm (x, ())) := h
    have rx := r1
    obtain ⟨p, dx, vs, ev, hp, hl, hrr⟩ := r1
    refine ⟨p, dx, _, ev, w1.s _ _ hp, zip_none hn, F1, (x, ()), w1.s, ⟨v, [], rfl, rx, rfl⟩, ?_⟩
    revert h
    cases mm (x, ()) with
    | ok r => exact fun h v F3 H3 w3 rr => h v F3 H3 (w1.trans w3) rr
    | er cc fs => exact fun h => ErP.on h w1
    | no => exact fun h => h
  | er c' fs => simp only [e1] at h; exact h
  | no => simp only [e1] at h; exact h
end
end FL

/-! FK2: instances made. -/
namespace FL
open PySem L2
/-- a value behind the others -/
class Snc (α : Type) [Rps α] (τ : Type) [Rp τ] {β : outParam Type} [Rps β] (ap : outParam (α → τ → β)) : Prop where
  ap : ∀ {K F vs v} {a : α} {t : τ}, Rps.isL K F vs a → Rp.is K F v t → Rps.isL K F (vs ++ [v]) (ap a t)
instance {τ : Type} [Rp τ] : Snc Unit τ (fun _ t => (t, ())) := ⟨fun {K F vs v a t} h r => by have h : vs = [] := h; subst h; exact ⟨v, [], rfl, r, rfl⟩⟩
instance {α αs τ β : Type} [Rp α] [Rps αs] [Rp τ] [Rps β] (ap : αs → τ → β) [S : Snc αs τ ap] : Snc (α × αs) τ (fun a t => (a.1, ap a.2 t)) := ⟨fun ⟨v, r, e, h, q⟩ r' => by subst e; exact ⟨v, _, rfl, h, S.ap q r'⟩⟩
theorem putF_zip {f : Str} {v : V} : ∀ {ns : List Str} {vs : List V}, f ∉ ns → vs.length = ns.length → putF f v (ns.zip vs) = (ns ++ [f]).zip (vs ++ [v])
  | [], vs, _, l => by
    have : vs = [] := List.length_eq_zero_iff.mp (by simpa using l)
    subst this
    rfl
  | n :: ns, [], _, l => by simp at l
  | n :: ns, u :: vs, h, l => by
    have h1 : ¬ n = f := fun e => h (by rw [e]; exact List.mem_cons_self)
    have ih := putF_zip (f := f) (v := v) (ns := ns) (vs := vs) (fun m => h (List.mem_cons_of_mem _ m)) (by simpa using l)
    rw [List.zip_cons_cons, List.cons_append, List.cons_append, List.zip_cons_cons, ← ih]
    show (if n = f then _ else _) = _
    rw [if_neg h1]
/-- self, under construction: what H0 holds of it -/
def sf (x : Addr) (C : Str) (ns : List Str) (α : Type) {γ : Type} [Rps α] (G : EnvT γ) : EnvT (α × γ) where
  rel := fun K H0 F H σ g => ∃ dx vs σ', σ = some (.ref x) :: σ' ∧ H0 x = some (.ins (He.ga K C) dx (ns.zip vs)) ∧ vs.length = ns.length ∧ Rps.isL K F vs g.1 ∧ G.rel K H0 F H σ' g.2
  own := fun σ => G.own σ.tail
  mono := fun ⟨dx, vs, σ', e, h0, l, r, h⟩ w => ⟨dx, vs, σ', e, h0, l, Rps.mono w.f r, G.mono h w⟩
  mu := fun ⟨dx, vs, σ', e, h0, l, r, h⟩ n => ⟨dx, vs, σ', e, h0, l, r, G.mu h (by subst e; exact n)⟩
  al := fun ⟨dx, vs, σ', e, h0, l, r, h⟩ n => G.al h (by subst e; exact n)
section
variable {x : Addr} {C : Str} {ns : List Str} {α : Type} [Rps α]
instance {τ γ : Type} [r : Rp τ] (G : EnvT γ) (i : Nat) (π : γ → τ) [a : At G i τ r π] : At (sf x C ns α G) (i + 1) τ r (fun g => π g.2) := ⟨fun ⟨dx, vs, σ', e, _, _, _, q⟩ => by
  obtain ⟨u, e2, q2⟩ := a.get q
  exact ⟨u, by subst e; exact e2, q2⟩⟩
instance {τ γ δ : Type} [Rp τ] (G : EnvT γ) (i : Nat) (G' : EnvT δ) (ψ : γ → τ → δ) [P : Put G i τ G' ψ] : Put (sf x C ns α G) (i + 1) τ (sf x C ns α G') (fun g a => (g.1, ψ g.2 a)) :=
  ⟨fun ⟨dx, vs, σ', e, h0, l, r', q⟩ r => ⟨dx, vs, σ'.set i _, by subst e; rfl, h0, l, r', P.put q r⟩, fun ⟨dx, vs, σ', e, h0, l, r', q⟩ h => by subst e; exact P.own q h⟩
instance {γ δ : Type} {G : EnvT γ} {i : Nat} {G' : EnvT δ} {h : γ → δ} [W : Wi1 G i G' h] : Wi1 (sf x C ns α G) (i + 1) (sf x C ns α G') (fun g => (g.1, h g.2)) := ⟨fun z ⟨dx, vs, σ', e, h0, l, r, q⟩ => ⟨dx, vs, σ'.set i z, by subst e; rfl, h0, l, r, W.wi z q⟩, fun z ⟨dx, vs, σ', e, h0, l, r, q⟩ m => by subst e; exact W.own z q m⟩
instance subSf {γ γ' : Type} {G : EnvT γ} {G' : EnvT γ'} {h : γ → γ'} [S : Sub G G' h] : Sub (sf x C ns α G) (sf x C ns α G') (fun g => (g.1, h g.2)) :=
  ⟨fun ⟨dx, vs, σ', e, h0, l, r, q⟩ => ⟨dx, vs, σ', e, h0, l, r, S.sub q⟩, fun ⟨dx, vs, σ', e, h0, l, r, q⟩ m => by subst e; exact S.own q m⟩
end
/-- slots that lean on no list of one's own -/
class Stab {γ : Type} (G : EnvT γ) : Prop where
  st : ∀ {K H0 F H H0' F' H' σ g}, G.rel K H0 F H σ g → Same F F' → G.rel K H0' F' H' σ g
instance : Stab nl := ⟨fun h _ => h⟩
instance {α γ : Type} [Rp α] (G : EnvT γ) [S : Stab G] : Stab (va α G) := ⟨fun ⟨v, σ', e, r, q⟩ s => ⟨v, σ', e, Rp.mono s r, S.st q s⟩⟩
instance {γ : Type} (G : EnvT γ) [S : Stab G] : Stab (un G) := ⟨fun ⟨v, σ', e, q⟩ s => ⟨v, σ', e, S.st q s⟩⟩
section
variable {X : Cx} {γ γ1 α β τ ρ αs : Type} {G : EnvT γ} {G1 : EnvT γ1} [Rps α] [Rps β] [Rp τ] [Rps ρ] [Rps αs] {e o : Expr} {es : List Expr} {pos apos p : Pos} {C : Str} {ns nsF : List Str} {k j : Nat} {f slf : Str} {x : Addr} {st : Stmt} {sts : List Stmt}
/-- self.f, read while self is under construction -/
theorem fe_slf (i : Nat) {c : C0} {r : Rp τ} {π : α → τ} [P : Prj α i τ r π] (cl : Cls X.K (He.ga X.K C)) (na : NoAttr X.K (He.ga X.K C) f) (hi : ns.findIdx (· == f) = i := by decide) (hN : X.N[0]? = some slf := by rfl)
    (hv : Vis X.env.scope slf := by first | exact Or.inl rfl | exact Or.inr (Or.inl rfl) | exact Or.inr (Or.inr rfl)) (hd : (slf == ("__debug__" : Str)) = false := by decide) (hcd : (slf == ("__classdict__" : Str)) = false := by decide)
    (hb : attributeBase (.Name slf p) f X.env (eval (.Name slf p) X.env) = eval (.Name slf p) X.env := by rfl) : FE X c (sf x C ns α G) (.Attribute (.Name slf p) f pos) (fun g => Xc.ok (π g.1)) :=
  PE.imp (pe_fld (pe_var (i := 0) hN hv hd hcd) hb) fun σ H Q ⟨F, g, w, q, h⟩ => by
    obtain ⟨dx, vs, σ', e, h0, l, r', q'⟩ := q
    obtain ⟨u, hu, ru⟩ := P.get r'
    subst e
    exact ⟨.ref x, rfl, x, _, dx, _, u, rfl, w.h _ _ h0, cl, na, zip_lookup hi l hu, h u F H (Wd.refl w.s) ru⟩
/-- what the rest of an __init__ leaves -/
def PoK_ (K : PySem.W.Frag) (c : C1) (C : Str) (nsF : List Str) (x : Addr) (D : Ends) (m : Xc ρ) : Prop := match m with
  | .ok r => ∀ σ' F' H' dx vs, Wd c.F0 c.H0 F' H' → F' x = none → H' x = some (.ins (He.ga K C) dx (nsF.zip vs)) → vs.length = nsF.length → Rps.isL K F' vs r → D.nx σ' H'
  | .er cc fs => ∀ σ', ErP K c.F0 c.H0 (WE c.W σ') cc fs
  | .no => False
def tK_ (K : PySem.W.Frag) (c : C1) (C : Str) (ns nsF : List Str) (x : Addr) (G : EnvT γ) (m : α × γ → Xc ρ) : TS := fun D σ H => ∃ F1 H1 F g, Wd F1 H1 F H ∧ Wd c.F0 c.H0 F1 H1 ∧ c.H0 x = none ∧ F1 x = none ∧ (sf x C ns α G).rel K H1 F H σ g ∧ PoK_ K c C nsF x D (m g)
/-- the rest of an __init__: the fields that self has in the end -/
def FK_ (X : Cx) (c : C1) (C : Str) (ns nsF : List Str) (x : Addr) (G : EnvT γ) (sts : List Stmt) (m : α × γ → Xc ρ) : Prop := PSs X sts (tK_ X.K c C ns nsF x G m)
theorem fk_nil {c : C1} : FK_ X c C ns ns x G [] (fun g : α × γ => Xc.ok g.1) := PSs.imp pss_nil fun D σ H ⟨F1, H1, F, g, w1, w, h0, hf, ⟨dx, vs, σ', e, hx, l, r, q⟩, p⟩ => p σ F H dx vs (w.trans w1) (w1.own hf hx) (w1.h _ _ hx) l r
theorem Wd.put {F0 H0 F H : Hp} {x : Addr} {o : HO} (w : Wd F0 H0 F H) (h0 : H0 x = none) (f : F x = none) : Wd F0 H0 F (upd H x o) :=
  ⟨w.f, fun b u e => by rw [upd_ne (ne_of_none e h0)]; exact w.h b u e, fun b u e => by rw [upd_ne (ne_of_none e f)]; exact w.s b u e, w.n⟩
theorem fk_n {c : C1} {st : Stmt} {m1 : α × γ → Xc (α × γ1)} {m2 : α × γ1 → Xc ρ} (h1 : ∀ F' H', FN X ⟨⟨F', H', c.W⟩, c.M⟩ (sf x C ns α G) st (sf x C ns α G1) m1) (h2 : FK_ X c C ns nsF x G1 sts m2) : FK_ X c C ns nsF x G (st :: sts) (fun g => (m1 g).bind m2) := by
  have h1' : PS X st (fun D σ H => ∃ F' H', tN X.K ⟨⟨F', H', c.W⟩, c.M⟩ (sf x C ns α G) (sf x C ns α G1) m1 D σ H) := ⟨fun pins s σ H D I ⟨F', H', q⟩ => (h1 F' H').run pins s σ H D I q⟩
  refine PSs.imp (pss_cons h1' h2) fun D σ H ⟨F1, H1, F, g, w1, w, h0, hf, q, p⟩ => ?_
  refine ⟨F1, H1, F, g, w1, q, ?_⟩
  obtain ⟨dx0, vs0, _, _, hx0, _⟩ := q
  cases e1 : m1 g with
  | ok g1 =>
    intro σ' F' H' w2 a1 q1
    simp only [e1] at p
    exact ⟨F1, H1, F', g1, w2.w, w, h0, hf, q1, p⟩
  | er c' fs =>
    simp only [e1] at p
    intro σ' F' H' w2 a1
    exact ErP.on (show ErP X.K c.F0 c.H0 (WE c.W σ') c' fs from p σ') (w.trans w2.w)
  | no => simp only [e1] at p; exact p
theorem fk_fld {c : C1} {ap : α → τ → β} [S : Snc α τ ap] [T : Stab G] {fe : α × γ → Xc τ} {m2 : β × γ → Xc ρ} {value : Expr} {pos' : Pos} (he : ∀ F' H', FE X ⟨F', H', c.W⟩ (sf x C ns α G) value fe) (h2 : FK_ X c C (ns ++ [f]) nsF x G sts m2) (cl : Cls X.K (He.ga X.K C)) (na : NoAttr X.K (He.ga X.K C) f)
    (hnf : f ∉ ns := by decide) (hnl : ns.length < 1000 := by decide) (hN : X.N[0]? = some slf := by rfl)
    (hv : Vis X.env.scope slf := by first | exact Or.inl rfl | exact Or.inr (Or.inl rfl) | exact Or.inr (Or.inr rfl)) (hd : (slf == ("__debug__" : Str)) = false := by decide) (hcd : (slf == ("__classdict__" : Str)) = false := by decide)
    (hs : swapsWith value (some (.Attribute (.Name slf p) f pos')) pos.line X.env = pure false := by rfl) :
    FK_ X c C ns nsF x G (.Assign [.Attribute (.Name slf p) f pos'] value pos :: sts) (fun g => (fe g).bind fun t => m2 (ap g.1 t, g.2)) := by
  have he' : PE X value (fun σ H Q => ∃ F' H', tF X.K ⟨F', H', c.W⟩ (sf x C ns α G) fe σ H Q) := ⟨fun pins s σ H Q I ⟨F', H', q⟩ => (he F' H').run pins s σ H Q I q⟩
  refine PSs.imp (pss_cons (ps_fld (pe_var (i := 0) hN hv hd hcd) he' hs) h2) fun D σ H ⟨F2, H2, F, g, w2, w, h0, hf, q, p⟩ => ?_
  refine ⟨F2, H2, F, g, w2, q, ?_⟩
  obtain ⟨dx, vs, σ', e, hx, l, r, q'⟩ := q
  have hf' := w2.own hf hx
  replace hx := w2.h _ _ hx
  replace w := w.trans w2
  replace hf := hf'
  cases e1 : fe g with
  | ok t =>
    intro v F1 H1 w1 r1
    simp only [e1] at p
    have hx1 : H1 x = some (.ins (He.ga X.K C) dx (ns.zip vs)) := w1.h _ _ hx
    have hf1 : F1 x = none := w1.own hf hx
    refine ⟨.ref x, by rw [e]; rfl, x, _, dx, ns.zip vs, rfl, hx1, cl, na, by rw [List.length_zip, l]; omega, ?_⟩
    rw [putF_zip hnf l]
    refine ⟨F1, _, F1, (ap g.1 t, g.2), Wd.refl ((w.trans w1).put h0 hf1).s, (w.trans w1).put h0 hf1, h0, hf1, ⟨dx, vs ++ [v], σ', e, upd_same, by rw [List.length_append, List.length_append, l]; rfl, S.ap (Rps.mono w1.f r) r1, T.st q' w1.f⟩, p⟩
  | er c' fs =>
    simp only [e1] at p
    exact ErP.on (show ErP X.K c.F0 c.H0 (WE c.W σ) c' fs from p σ) w
  | no => simp only [e1] at p; exact p
end
end FL

/-! FK3: __init__, calls of a class. -/
namespace FL
open PySem L2
section
variable {X : Cx} {γ γ' : Type} {c : C1} {G : EnvT γ} {G' : EnvT γ'} {pos pos2 p p2 : Pos} {j : Nat}
/-- raise X('..') -/
theorem fn_rai {x m : Str} (tk : Takes X c.W) (k : Xk X.K X.mg x) (hc : X.calm = true := by rfl) (hg : Gl X x := by rfl) (hdb : (x == ("__debug__" : Str)) = false := by decide) :
    FN X c G (.Raise (some (.Call (.Name x p) [.Constant (.str m) j p2] [] pos)) none pos2) G' (fun _ => Xc.er x []) :=
  PS.imp (ps_raise hc tk (pmk_own PySem.F.excBase_ValueError k.q k.mg k.kp (raises_own k.h1 k.h2) hg hdb)) fun D σ H ⟨F, g, w, q, d⟩ => d σ F H (Ws.refl w) Ag.refl F H (Wd.refl w.s)
end
/-- what an __init__ promises -/
def PoM {ρ : Type} [Rps ρ] (K : PySem.W.Frag) (C : Str) (ns : List Str) (x : Addr) (F H1 : Hp) (Q : VK) (E : XK) (m : Xc ρ) : Prop := match m with
  | .ok r => ∀ F' H' dx vs, Wd F H1 F' H' → F' x = none → H' x = some (.ins (He.ga K C) dx (ns.zip vs)) → vs.length = ns.length → Rps.isL K F' vs r → Q .non H'
  | .er cc fs => ErP K F H1 E cc fs
  | .no => False
def spI {αs ρ : Type} [Rps αs] [Rps ρ] (K : PySem.W.Frag) (C : Str) (ns : List Str) (m : αs → Xc ρ) : Sp := fun vs H Q E => ∃ x dx H1 F ws as, vs = .ref x :: ws ∧ H = upd (upd H1 dx (.own x)) x (.ins (He.ga K C) dx []) ∧ H1 x = none ∧ H1 dx = none ∧ dx ≠ x ∧ Same F H1 ∧ Rps.isL K F ws as ∧
  PoM K C ns x F H1 Q E (m as)
section
variable {P : Program} {w : World} {K : PySem.W.Frag} {mg : Str → Option Value} {base : Heap} {αs ρ γ : Type} [Rps αs] [Rps ρ] {G : EnvT γ} {h : αs → γ}
/-- the context of an __init__'s body -/
def cI (F H : Hp) (E : XK) : C1 := { F0 := F, H0 := H, W := fun cls d _ H => E cls d H, M := fun _ => true }
theorem fn_init {C : Str} {nsF : List Str} {x qual : Str} {params : Arguments} {body : List Stmt} {scope : Scope} {dvs : List V} {kws : List (Str × V)} {f : Addr} {fd : FuncData} {N ps : List Str} {k n pn : Nat} {m : αs → Xc ρ} {fm : Unit × γ → Xc ρ}
    (Fd : FunD K x qual params body scope dvs kws f fd) (S : FnScope N ps scope) [RN : RpsN αs pn] (hpn : ps.length = pn + 1) [ET : EntryT αs n G h] (hn : N.length = pn + 1 + n)
    (hb : ∀ (cdv : Value) (A : Around) (outer : List Env) (s : Shared) (F H1 H : Hp) (E : XK) (x : Addr), Room k (A.deeper (PyProof.Rows.envOfC qual scope s.heap.objs.size f cdv)) → 
      Takes (cxOf (L2.CX P w) P w K mg base N qual scope f cdv A outer s H E) (cI F H1 E).W →
      FK_ (cxOf (L2.CX P w) P w K mg base N qual scope f cdv A outer s H E) (cI F H1 E) C [] nsF x G body fm)
    (hm : ∀ as, m as = fm ((), h as)) : FnOk P w K mg base (L2.CX P w) (k + 1) f fd ps (spI K C nsF m) := by
  refine Fd.ok S (fun vs H Q E ⟨x, dx, H1, F, ws, as, e, _, _, _, _, _, r, _⟩ => by rw [hpn, e, List.length_cons, RN.len r]) fun cdv A outer s H vs Q E hr ⟨x, dx, H1, F, ws, as, e, eH, hx, hd, hne, sm, r, p⟩ => ?_
  have fx : F x = none := sm.free hx
  have fd : F dx = none := sm.free hd
  refine ⟨_, hb cdv A outer s F H1 H E x hr (takes_of rfl rfl rfl rfl), F, H, F, ((), h as), Wd.refl ?_, ?_, hx, fx, ⟨dx, [], ws.map some ++ List.replicate (N.length - vs.length) none, ?_, ?_, rfl, rfl, ?_⟩, ?_⟩
  · subst eH
    exact (((Wd.refl sm).put hd fd).put hx fx).s
  · subst eH
    exact ((Wd.refl sm).put hd fd).put hx fx
  · subst e; rfl
  · subst eH; exact upd_same
  · have e2 : N.length - vs.length = n := by rw [e, List.length_cons, RN.len r, hn]; omega
    rw [e2]
    exact ET.st r (Nat.le_refl _)
  · rw [hm as] at p
    revert p
    cases fm ((), h as) with
    | ok t => exact fun p σ' F' H' dx vs w f' h' l r' => p F' H' dx vs w f' h' l r'
    | er cc fs => exact fun p σ' => p
    | no => exact fun p => p
end
/-! C(..) -/
section
variable {X : Cx} {CX : CXT} {k : Nat} {f C : Addr} {fd : FuncData} {ps : List Str} {sp : Sp} {E : St → XK} {x : Str} {pos p : Pos} {e : Expr} {es : List Expr} {t : TA} {dvs : List V} {ds : List Value}
def tMakeW (C : Addr) (sp : Sp) (dvs : List V) (E : St → XK) (t : TA) : TE := fun σ H Q => t σ H fun vs H1 => ∀ x dx, H1 x = none → H1 dx = none → dx ≠ x →
  sp (.ref x :: (vs ++ dvs)) (upd (upd H1 dx (.own x)) x (.ins C dx [])) (fun v H2 => v = .non ∧ Q (.ref x) H2) (E σ)
theorem run_makeW {pins : List (Addr × Obj)} {σ : St} {H : Hp} {s : Shared} {Q : VK} {us : List Value} {vs : List V} (M : Mk X.K C f) (F : FnOk X.prog X.w X.K X.mg X.base CX k f fd ps sp) (hr : Room (k + 1) X.A) (hb : Binds X.K fd ps ds) (hd : Vals dvs ds)
    (hx : PassesAt CX X σ (E σ)) (I : Inv X pins σ H s) (r : Vals vs us)
    (h : ∀ x dx, H x = none → H dx = none → dx ≠ x → sp (.ref x :: (vs ++ dvs)) (upd (upd H dx (.own x)) x (.ins C dx [])) (fun v H2 => v = .non ∧ Q (.ref x) H2) (E σ)) :
    wpAny (model X.prog X.w) X.A (call (.ref C) us) (EP X pins σ Q) X.xe s := by
  have hq := h (s.heap.objs.size + 1) s.heap.objs.size (I.hok.fresh (Nat.le_succ _)) (I.hok.fresh (Nat.le_refl _)) (Nat.ne_of_lt (Nat.lt_succ_self _))
  have I2 := Inv.made (C := C) I
  have r2 : Vals (V.ref (s.heap.objs.size + 1) :: (vs ++ dvs)) (Value.ref (s.heap.objs.size + 1) :: (us ++ ds)) := .cons rfl (r.append hd)
  have hl : (Value.ref (s.heap.objs.size + 1) :: us ++ ds).length = ps.length := by
    have e := r2.length
    rw [F.len _ _ _ _ hq] at e
    exact e.symm
  refine wpAny_call (make_map (f := f) I.kIn M.makes M.init (beq_iff_eq.mp M.fn) (codeAny_mono (F.run _ X.stack _ _ ⟨Value.ref (s.heap.objs.size + 1) :: us, []⟩ (Value.ref (s.heap.objs.size + 1) :: (us ++ ds)) _ _ (E σ) (hr.make C us [])
    (I2.env0.make C us []) (hb _ (Value.ref (s.heap.objs.size + 1) :: us) I2.kIn hl) r2 hq) fun r s' hq' => ?_))
  cases r with
  | error e => exact hx pins _ _ e s' I2 hq'
  | ok fl =>
    cases fl with
    | ret u =>
      obtain ⟨v, H', I3, rv, ev, q3⟩ := I2.after hq'
      subst ev
      exact ⟨rv, ⟨V.ref (s.heap.objs.size + 1), H', I3, rfl, q3⟩⟩
    | next => exact False.elim hq'
    | brk => exact False.elim hq'
    | cont => exact False.elim hq'
theorem pe_makeW (M : Mk X.K C f) (F : FnOk X.prog X.w X.K X.mg X.base CX k f fd ps sp) (hr : Room (k + 1) X.A) (hg : Gl X x) (hm : X.mg x = some (.ref C)) (hb : Binds X.K fd ps ds) (hd : Vals dvs ds) (hx : ∀ σ, PassesAt CX X σ (E σ))
    (ha : PA X (e :: es) t) (hdb : (x == ("__debug__" : Str)) = false := by decide) (he : starEach (e :: es) X.env = (false, eval e X.env) :: starEach es X.env := by rfl) (hpl : (backTo pos (starEach es X.env)).any (·.1) = false := by rfl) :
    PE X (.Call (.Name x p) (e :: es) [] pos) (tMakeW C sp dvs E t) := by
  refine ⟨fun pins s σ H Q I h => ?_⟩
  refine wpAny_Call_Name_kw (ld_glob I hg hm ?_ hdb)
  refine PySem.W.callWith_K (h₀ := X.base) I.ok.mod.kin M.kp (thn (ha.run pos pins s σ H _ I h) fun us s1 ⟨vs, H1, I1, r, q⟩ => ⟨I1.kIn, ?_⟩) he hpl
  exact run_makeW M F hr hb hd (hx σ) I1 r q
end
/-- the class C's __init__ keeps the promise sp; the last parameters' defaults -/
structure Di (P : Program) (w : World) (K : PySem.W.Frag) (mg : Str → Option Value) (base : Heap) (C : Str) (ps : List Str) (dvs : List V) (k : Nat) (sp : Sp) : Prop where
  ex : ∃ fd, FnOk P w K mg base (L2.CX P w) k (He.ma K (He.ga K C) "__init__") fd ps sp ∧ ∃ ds, Vals dvs ds ∧ Binds K fd ps ds
  mkr : Mk K (He.ga K C) (He.ma K (He.ga K C) "__init__")
  mg : mg C = some (.ref (He.ga K C))
section
variable {X : Cx} {c : C0} {γ α ρ αs βs : Type} {G : EnvT γ} [Rps ρ] [Rps αs] [Rps βs] {e o : Expr} {es : List Expr} {pos p : Pos} {C : Str} {ns : List Str} {ps : List Str} {k j : Nat}
theorem fe_makeX {mm : βs → Xc ρ} {fs : γ → Xc αs} {dvs : List V} (ext : αs → βs) (hext : ∀ {K F vs} {as : αs}, Rps.isL K F vs as → Rps.isL K F (vs ++ dvs) (ext as)) (D : Di X.prog X.w X.K X.mg X.base C ps dvs j (spI X.K C ns mm)) (tk : Takes X c.W) (hr : Room (k + 1) X.A) (ha : FA X c G (e :: es) fs) (hjk : j ≤ k := by decide) (hg : Gl X C := by rfl)
    (hdb : (C == ("__debug__" : Str)) = false := by decide) (he : starEach (e :: es) X.env = (false, eval e X.env) :: starEach es X.env := by rfl) (hpl : (backTo pos (starEach es X.env)).any (·.1) = false := by rfl) :
    FE X c G (.Call (.Name C p) (e :: es) [] pos) (fun g => (fs g).bind fun as => (mm (ext as)).bind fun r => Xc.ok (⟨r⟩ : Ob C ns ρ)) := by
  obtain ⟨⟨fd, F, ds, vd, B⟩, M, mg⟩ := D
  refine PE.imp (pe_makeW (E := WE c.W) M F (hr.mono (Nat.succ_le_succ hjk)) hg mg B vd (fun σ => passAt tk σ) ha hdb he hpl) fun σ H Q ⟨F, g, w, q, h⟩ => ?_
  refine ⟨F, g, w, q, ?_⟩
  cases e1 : fs g with
  | ok as =>
    intro vs F1 H1 w1 r1 x dx hx hd hne
    simp only [e1] at h
    have h : Po X.K F H Q (WE c.W σ) ((mm (ext as)).bind fun r => Xc.ok (⟨r⟩ : Ob C ns ρ)) := h
    refine ⟨x, dx, H1, F1, _, ext as, rfl, rfl, hx, hd, hne, w1.s, hext r1, ?_⟩
    revert h
    cases mm (ext as) with
    | ok r =>
      intro h F2 H2 dx' vs' w2 f2 h2 l2 r2
      refine ⟨rfl, h (.ref x) (upd F2 x (.ins (He.ga X.K C) dx' (ns.zip vs'))) H2 (w1.trans ?_) ⟨x, dx', vs', rfl, upd_same, l2, Rps.mono (same_new f2) r2⟩⟩
      refine ⟨w2.f.trans (same_new f2), w2.h, fun b u q => ?_, fun b hb q => ?_⟩
      · by_cases z : b = x
        · subst z; rw [upd_same] at q; rw [h2]; exact q
        · rw [upd_ne z] at q; exact w2.s b u q
      · by_cases z : b = x
        · subst z; exact hx
        · rw [upd_ne z] at hb; exact w2.n b hb q
    | er cc fs => exact fun h => ErP.on (show ErP X.K F H (WE c.W σ) cc fs from h) w1
    | no => exact fun h => h
  | er c' fs => simp only [e1] at h; exact h
  | no => simp only [e1] at h; exact h
/-- C(e, ..), all parameters written -/
theorem fe_make {mm : αs → Xc ρ} {fs : γ → Xc αs} (D : Di X.prog X.w X.K X.mg X.base C ps [] j (spI X.K C ns mm)) (tk : Takes X c.W) (hr : Room (k + 1) X.A) (ha : FA X c G (e :: es) fs) (hjk : j ≤ k := by decide) (hg : Gl X C := by rfl)
    (hdb : (C == ("__debug__" : Str)) = false := by decide) (he : starEach (e :: es) X.env = (false, eval e X.env) :: starEach es X.env := by rfl) (hpl : (backTo pos (starEach es X.env)).any (·.1) = false := by rfl) :
    FE X c G (.Call (.Name C p) (e :: es) [] pos) (fun g => (fs g).bind fun as => (mm as).bind fun r => Xc.ok (⟨r⟩ : Ob C ns ρ)) :=
  fe_makeX id (fun h => by rw [List.append_nil]; exact h) D tk hr ha hjk hg hdb he hpl
/-- C(e, ..), the last parameter by its default, a whole number -/
theorem fe_make1 {d : Int} {ap : αs → Int → βs} [S : Snc αs Int ap] {mm : βs → Xc ρ} {fs : γ → Xc αs} (D : Di X.prog X.w X.K X.mg X.base C ps [.int d] j (spI X.K C ns mm)) (tk : Takes X c.W) (hr : Room (k + 1) X.A) (ha : FA X c G (e :: es) fs) (hjk : j ≤ k := by decide) (hg : Gl X C := by rfl)
    (hdb : (C == ("__debug__" : Str)) = false := by decide) (he : starEach (e :: es) X.env = (false, eval e X.env) :: starEach es X.env := by rfl) (hpl : (backTo pos (starEach es X.env)).any (·.1) = false := by rfl) :
    FE X c G (.Call (.Name C p) (e :: es) [] pos) (fun g => (fs g).bind fun as => (mm (ap as d)).bind fun r => Xc.ok (⟨r⟩ : Ob C ns ρ)) :=
  fe_makeX (fun as => ap as d) (fun h => S.ap h rfl) D tk hr ha hjk hg hdb he hpl
end
end FL

/-! FK4: operators of one's own. -/
namespace FL
open PySem L2
def tOpS (r : St → R2) (ta tb : TE) : TE := fun σ H Q => ta σ H fun x H1 => tb σ H1 fun y H2 => r σ x y H2 Q
def OpS (X : Cx) (f : Value → Value → Sem Value) (r : St → R2) : Prop :=
  ∀ (pins : List (Addr × Obj)) (s : Shared) (σ : St) (H : Hp) (x y : V) (v u : Value) (Q : VK), Inv X pins σ H s → RelV x v → RelV y u → r σ x y H Q → wpAny (model X.prog X.w) X.A (f v u) (EP X pins σ Q) X.xe s
section
variable {X : Cx} {a b : Expr} {ta tb : TE} {pos : Pos}
theorem pe_opS {op : Operator} {r : St → R2} (ho : OpS X (binaryOp op) r) (ha : PE X a ta) (hb : PE X b tb) : PE X (.BinOp a op b pos) (tOpS r ta tb) := by
  refine ⟨fun pins s σ H Q I h => ?_⟩
  exact wpAny_BinOp (binT ha hb I h fun v u s2 x y H2 I2 rx ry q => ho pins s2 σ H2 x y v u Q I2 rx ry q)
theorem pe_cmpS {op : CmpOp} {r : St → R2} (ho : OpS X (compareOp op) r) (ha : PE X a ta) (hb : PE X b tb) (hm : behindInMarks op b = false) : PE X (.Compare a [op] [b] pos) (tOpS r ta tb) := by
  refine ⟨fun pins s σ H Q I h => ?_⟩
  exact wpAny_Compare1 (binT ha hb I h fun v u s2 x y H2 I2 rx ry q => ho pins s2 σ H2 x y v u Q I2 rx ry q) hm
end
section
variable {X : Cx} {c : C0} {γ α β ρ : Type} {G : EnvT γ} [Rp α] [Rp β] [Rp ρ]
theorem twoS {a b : Expr} {fa : γ → Xc α} {fb : γ → Xc β} {op : α → β → Xc ρ} {r : St → R2} {e : Expr} (h : ∀ {ta tb : TE}, PE X a ta → PE X b tb → PE X e (tOpS r ta tb)) (ha : FE X c G a fa) (hb : FE X c G b fb)
    (hop : ∀ {F H x y i j Q σ}, Same F H → Rp.is X.K F x i → Rp.is X.K F y j → Po X.K F H Q (WE c.W σ) (op i j) → r σ x y H Q) : FE X c G e (fun g => (fa g).bind fun i => (fb g).bind fun j => op i j) :=
  PE.imp (h ha hb) fun σ H Q ⟨F, g, w, q, p⟩ => by
    refine ⟨F, g, w, q, ?_⟩
    cases e1 : fa g with
    | ok i =>
      intro v F1 H1 w1 r1
      have p2 : Po X.K F H Q (WE c.W σ) ((fb g).bind fun j => op i j) := by simp only [e1] at p; exact p
      refine ⟨F1, g, w.trans w1, G.mono q w1, ?_⟩
      cases e3 : fb g with
      | ok j =>
        intro u F2 H2 w2 r2
        have p5 : Po X.K F H Q (WE c.W σ) (op i j) := by rw [e3] at p2; exact p2
        exact hop w2.s (Rp.mono w2.f r1) r2 (p5.on (w1.trans w2))
      | er c' fs => rw [e3] at p2; exact ErP.on (show ErP X.K F H (WE c.W σ) c' fs from p2) w1
      | no => rw [e3] at p2; exact p2
    | er c' fs => simp only [e1] at p; exact p
    | no => simp only [e1] at p; exact p
end
/-! the machine's part -/
section
variable {X : Cx} {CX : CXT} {k : Nat} {f C : Addr} {fd : FuncData} {ps : List Str} {sp : Sp} {E : St → XK}
/-- two instances of one class -/
def rOO (C : Addr) (sp : Sp) (E : St → XK) : St → R2 := fun σ x y H Q => ∃ a dx fs b dy gs, x = .ref a ∧ y = .ref b ∧ H a = some (.ins C dx fs) ∧ H b = some (.ins C dy gs) ∧ sp [x, y] H Q (E σ)
/-- an instance and a whole number -/
def rOI (C : Addr) (sp : Sp) (E : St → XK) : St → R2 := fun σ x y H Q => ∃ a dx fs i, x = .ref a ∧ y = .int i ∧ H a = some (.ins C dx fs) ∧ sp [x, y] H Q (E σ)
/-- a whole number and an instance: the reflected one -/
def rIO (C : Addr) (sp : Sp) (E : St → XK) : St → R2 := fun σ x y H Q => ∃ a dx fs i, x = .int i ∧ y = .ref a ∧ H a = some (.ins C dx fs) ∧ sp [y, x] H Q (E σ)
theorem cmpEP {pins : List (Addr × Obj)} {σ : St} {Q : VK} : ∀ (w : Value) (s' : Shared), EP X pins σ Q w s' → PySem.W.CmpBack (EP X pins σ Q) w s' := fun w s' ⟨z, H', I, rz, q⟩ => SlX.cmpback rz ⟨z, H', I, rz, q⟩
theorem op_oo {op : Operator} {m : Str} (hm : Meth X.K C m f) (hop : PySem.dunder op.info.2 = m) (hc : PySem.W.selfFirst X.K C = true) (F : FnOk X.prog X.w X.K X.mg X.base CX k f fd ps sp) (hr : Room k X.A) (hb : Binds X.K fd ps []) (hx : ∀ σ, PassesAt CX X σ (E σ)) : OpS X (binaryOp op) (rOO C sp E) := by
  intro pins s σ H x y v u Q I rx ry ⟨a, dx, fs, b, dy, gs, e1, e2, ha, hb', h⟩
  subst e1 e2
  cases (show v = Value.ref a from rx)
  cases (show u = Value.ref b from ry)
  obtain ⟨mA, J, _⟩ := ins_get I.hok ha
  obtain ⟨mB, J', _⟩ := ins_get I.hok hb'
  obtain ⟨od, J, _⟩ := J.look
  obtain ⟨od', J', _⟩ := J'.look
  obtain ⟨m', hF⟩ := I.fr
  exact PySem.W.binop_K hF I.ok.mod.kin J J'.type hc (by rw [hop]; exact hm.at_) hm.fn (wpAny_mono (run_fnS (us := [.ref a, .ref b]) (vs := [.ref a, .ref b]) F hr hb (hx σ) I (.cons rfl (.cons rfl .nil)) h) cmpEP fun _ _ x => x)
theorem op_oi {op : Operator} {m : Str} {fo ro rc : Option Value} (hm : Meth X.K C m f) (hop : PySem.dunder op.info.2 = m) (hc : PySem.W.selfFirst X.K C = true) (hrc : PySem.W.findIn X.K (.ref C) (dunderR op.info.2) = some rc) (hp : rc = none ∨ ∃ g : Addr, rc = some (.ref g))
    (h1 : PySem.W.findIn X.K (.type "int") m = some fo) (h2 : PySem.W.findIn X.K (.type "int") (dunderR op.info.2) = some ro) (hsub : PySem.W.subIn X.K (.type "int") (.ref C) = some false)
    (F : FnOk X.prog X.w X.K X.mg X.base CX k f fd ps sp) (hr : Room k X.A) (hb : Binds X.K fd ps []) (hx : ∀ σ, PassesAt CX X σ (E σ)) : OpS X (binaryOp op) (rOI C sp E) := by
  intro pins s σ H x y v u Q I rx ry ⟨a, dx, fs, i, e1, e2, ha, h⟩
  subst e1 e2
  cases (show v = Value.ref a from rx)
  obtain ⟨t, e⟩ := (show ∃ t, u = Value.int i t from ry)
  cases e
  obtain ⟨mA, J, _⟩ := ins_get I.hok ha
  obtain ⟨od, J, _⟩ := J.look
  obtain ⟨m', hF⟩ := I.fr
  exact PySem.W.ksp_binT (T := "int") hF I.ok.mod.kin J rfl hc (by rw [hop]; exact hm.at_) hm.fn hrc hp (by rw [hop]; exact h1) h2 hsub (wpAny_mono (run_fnS (us := [.ref a, .int i t]) (vs := [.ref a, .int i]) F hr hb (hx σ) I (.cons rfl (.cons ⟨t, rfl⟩ .nil)) h) cmpEP fun _ _ x => x)
end
end FL

/-! FK5: a whole number times an instance. -/
namespace PySem.W
open PySem PySem.Calls PyProof.Rows
theorem int_mul_own (a : Int) (t : Tok) (x C dx : Addr) :
    Meets (Builtin.«int.__mul__» ⟨[.int a t, .ref x], []⟩) (fun _ R s => s.heap.get? x = some (instObj C dx) ∧ R (.ok (.ret Value.notImplemented)) s) :=
  .of_wp fun prog w A R s h => by obtain ⟨hp, g, d, tk, os⟩ := s; obtain ⟨hl, h⟩ := h; unfold instObj at hl; wp_walk; exact ⟨_, rfl, h⟩
section
variable {prog : Program} {w : World} {A : Around} {E : Value → Shared → Prop} {s : Shared} {K : Frag} {x C L f dx : Addr} {h₀ : Heap} {m : Str → Option Value} {od : Option Obj}
theorem binop_io {i : Int} {t : Tok} {fm : Option Value} {Q : Value → Shared → Prop} (Fm : Fr h₀ L s.heap m) (X₀ : K.In h₀) (I : InstAt s.heap x (instObj C dx) C od) (hc : selfFirst K C = true)
    (hm : findIn K (.ref C) (PySem.dunder "mul") = some (some (.ref f))) {g : Addr} (hs : findIn K (.ref C) (dunderR "mul") = some (some (.ref g))) (hf : isFn K (.ref g) = true) (hsub : subIn K (.ref C) (.type "int") = some false)
    (h : wpAny (model prog w) A (call (.ref g) [.ref x, .int i t]) (CmpBack Q) E s) : wpAny (model prog w) A (binaryOp .Mult (.int i t) (.ref x)) Q E s := by
  have X := X₀.keeps Fm.keep
  obtain ⟨cd, rest, hcd, hmr⟩ := ksp_first hc
  have one := ksp_try X I hs hf h
  have zero : wpAny (model prog w) A (tryMethod (.int i t) (PySem.dunder "mul") (.ref x)) (fun r s' => r = none ∧ s' = s) E s := by
    unfold tryMethod
    refine wpAny_bind (wpAny_callSpecial?_slot (typeIs_int s i t) PySem.F.slot_int_mul (call_meets PySem.F.slot_int_mul (typeIs_int s i t) PySem.F.entry_int_mul (PySem.F.args_int_mul_2 _ _) (int_mul_own i t x C dx) ⟨I.at_, ?_⟩))
    exact wpAny_pure ⟨rfl, rfl⟩
  obtain ⟨hh, gg, d, tt, os⟩ := s
  have L2 : Looks (model prog w) hh (typeOf (.ref x)) (.ref C) := I.type
  have L3 : Looks (model prog w) hh (fillsNumberSlot (.ref C) "mul") true := fills_K X hcd hmr hm
  have L4 : Looks (model prog w) hh (fillsNumberSlot (.type "int") "mul") true := Looks.of_pure PySem.F.fills_int_mul
  have L5 : Looks (model prog w) hh (isSubtype (.ref C) (.type "int")) false := looks_subIn X hsub
  have L7 : Looks (model prog w) hh (numberSlotInPython (.type "int") "mul") false := Looks.of_pure rfl
  have hne : (Value.type "int" == Value.ref C) = false := Bool.eq_false_iff.mpr fun q => by cases beq_iff_eq.mp q
  have hi : Operator.Mult.info = ("*", "mul") := rfl
  simp only [binaryOp, hi]
  refine wpAny_holding (wpAny_bind ?_)
  unfold binaryOp1
  refine wpAny_bind (wpAny_typeOf (typeIs_int _ i t) ?_)
  refine wpAny_bind (L2.at (wpAny_bind (L4.at ?_)))
  simp only [hne, Bool.false_eq_true, if_false]
  ksp_lk
  refine wpAny_mono zero (fun r s' hr' => ?_) fun _ _ e => e
  obtain ⟨rfl, rfl⟩ := hr'
  ksp_lk
  refine wpAny_mono one (fun r s' hr' => ?_) fun _ _ e => e
  obtain ⟨v, rfl, hq⟩ := hr'
  ksp_lk
  exact hq
end
end PySem.W
namespace FL
open PySem L2
section
variable {X : Cx} {CX : CXT} {k : Nat} {f C : Addr} {fd : FuncData} {ps : List Str} {sp : Sp} {E : St → XK}
theorem op_io {g : Addr} (hm : Meth X.K C "__mul__" f) (hm2 : Meth X.K C "__rmul__" g) (hc : PySem.W.selfFirst X.K C = true) (hsub : PySem.W.subIn X.K (.ref C) (.type "int") = some false)
    (F : FnOk X.prog X.w X.K X.mg X.base CX k g fd ps sp) (hr : Room k X.A) (hb : Binds X.K fd ps []) (hx : ∀ σ, PassesAt CX X σ (E σ)) (h1 : PySem.dunder "mul" = "__mul__" := by rfl) (h2 : dunderR "mul" = "__rmul__" := by rfl) : OpS X (binaryOp .Mult) (rIO C sp E) := by
  intro pins s σ H x y v u Q I rx ry ⟨a, dx, fs, i, e1, e2, ha, h⟩
  subst e1 e2
  cases (show u = Value.ref a from ry)
  obtain ⟨t, e⟩ := (show ∃ t, v = Value.int i t from rx)
  cases e
  obtain ⟨mA, J, _⟩ := ins_get I.hok ha
  obtain ⟨od, J, _⟩ := J.look
  obtain ⟨m', hF⟩ := I.fr
  exact PySem.W.binop_io (fm := none) hF I.ok.mod.kin J hc (by rw [h1]; exact hm.at_) (by rw [h2]; exact hm2.at_) hm2.fn hsub (wpAny_mono (run_fnS (us := [.ref a, .int i t]) (vs := [.ref a, .int i]) F hr hb (hx σ) I (.cons rfl (.cons ⟨t, rfl⟩ .nil)) h) cmpEP fun _ _ x => x)
end
end FL

/-! FK6: ==, -, calls of instances, isinstance, staticmethods; typed rules. -/
namespace FL
open PySem L2
section
variable {X : Cx} {CX : CXT} {k : Nat} {f C : Addr} {fd : FuncData} {ps : List Str} {sp : Sp} {E : St → XK}
theorem eq_oo (hm : Meth X.K C "__eq__" f) (F : FnOk X.prog X.w X.K X.mg X.base CX k f fd ps sp) (hr : Room k X.A) (hb : Binds X.K fd ps []) (hx : ∀ σ, PassesAt CX X σ (E σ)) : OpS X (compareOp .Eq) (rOO C sp E) := by
  intro pins s σ H x y v u Q I rx ry ⟨a, dx, fs, b, dy, gs, e1, e2, ha, hb', h⟩
  subst e1 e2
  cases (show v = Value.ref a from rx)
  cases (show u = Value.ref b from ry)
  obtain ⟨mA, J, _⟩ := ins_get I.hok ha
  obtain ⟨mB, J', _⟩ := ins_get I.hok hb'
  obtain ⟨od, J, _⟩ := J.look
  obtain ⟨od', J', _⟩ := J'.look
  obtain ⟨m', hF⟩ := I.fr
  exact PySem.W.cmp_K (op := .Eq) (tb := .ref C) hr.units0 hF I.ok.mod.kin J J'.type (by simp [PySem.W.notFirst]) hm.at_ hm.fn (wpAny_mono (run_fnS (us := [.ref a, .ref b]) (vs := [.ref a, .ref b]) F hr hb (hx σ) I (.cons rfl (.cons rfl .nil)) h) cmpEP fun _ _ x => x)
theorem eq_oi (hm : Meth X.K C "__eq__" f) (hn : PySem.W.notFirst X.K C (.type "int") = true) (F : FnOk X.prog X.w X.K X.mg X.base CX k f fd ps sp) (hr : Room k X.A) (hb : Binds X.K fd ps []) (hx : ∀ σ, PassesAt CX X σ (E σ)) : OpS X (compareOp .Eq) (rOI C sp E) := by
  intro pins s σ H x y v u Q I rx ry ⟨a, dx, fs, i, e1, e2, ha, h⟩
  subst e1 e2
  cases (show v = Value.ref a from rx)
  obtain ⟨t, e⟩ := (show ∃ t, u = Value.int i t from ry)
  cases e
  obtain ⟨mA, J, _⟩ := ins_get I.hok ha
  obtain ⟨od, J, _⟩ := J.look
  obtain ⟨m', hF⟩ := I.fr
  exact PySem.W.cmp_K (op := .Eq) (tb := .type "int") hr.units0 hF I.ok.mod.kin J (.of_pure rfl) hn hm.at_ hm.fn (wpAny_mono (run_fnS (us := [.ref a, .int i t]) (vs := [.ref a, .int i]) F hr hb (hx σ) I (.cons rfl (.cons ⟨t, rfl⟩ .nil)) h) cmpEP fun _ _ x => x)
/-- -x -/
def tUnS (r : St → V → Hp → VK → Prop) (ta : TE) : TE := fun σ H Q => ta σ H fun x H1 => r σ x H1 Q
def rO (C : Addr) (sp : Sp) (E : St → XK) : St → V → Hp → VK → Prop := fun σ x H Q => ∃ a dx fs, x = .ref a ∧ H a = some (.ins C dx fs) ∧ sp [x] H Q (E σ)
theorem pe_negO {a : Expr} {ta : TE} {pos : Pos} (hm : Meth X.K C "__neg__" f) (F : FnOk X.prog X.w X.K X.mg X.base CX k f fd ps sp) (hr : Room k X.A) (hb : Binds X.K fd ps []) (hx : ∀ σ, PassesAt CX X σ (E σ)) (ha : PE X a ta) : PE X (.UnaryOp .USub a pos) (tUnS (rO C sp E) ta) := by
  refine ⟨fun pins s σ H Q I h => ?_⟩
  refine wpAny_UnaryOp (thn (ha.run pins s σ H _ I h) fun u s1 ⟨x, H1, I1, rx, a, dx, fs, e1, ea, q⟩ => ?_)
  subst e1
  cases (show u = Value.ref a from rx)
  obtain ⟨mA, J, _⟩ := ins_get I1.hok ea
  obtain ⟨od, J, _⟩ := J.look
  obtain ⟨m', hF⟩ := I1.fr
  exact PySem.W.ksp_neg hF I1.ok.mod.kin J hm.at_ hm.fn (run_fnS (us := [.ref a]) (vs := [.ref a]) F hr hb (hx σ) I1 (.cons rfl .nil) q)
theorem code_fnS {pins : List (Addr × Obj)} {σ : St} {H : Hp} {s : Shared} {Q : VK} {us : List Value} {vs : List V} (F : FnOk X.prog X.w X.K X.mg X.base CX k f fd ps sp) (hr : Room k X.A) (hb : Binds X.K fd ps []) (hx : PassesAt CX X σ (E σ))
    (I : Inv X pins σ H s) (r : Vals vs us) (h : sp vs H Q (E σ)) : codeAny (model X.prog X.w) X.A (.call (.ref f) ⟨us, []⟩) (fun r s' => match r with | .ok (.ret v) => EP X pins σ Q v s' | .ok _ => False | .error e => X.xe e s') s := by
  have hl : us.length = ps.length := by rw [← r.length]; exact F.len _ _ _ _ h
  have b := hb s us I.kIn (by rw [List.append_nil]; exact hl)
  rw [List.append_nil] at b
  refine codeAny_mono (F.run X.A X.stack s H ⟨us, []⟩ us vs Q (E σ) hr I.env0 b r h) fun r s' hq => ?_
  cases r with
  | error e => exact hx pins H s e s' I hq
  | ok fl =>
    cases fl with
    | ret u => exact I.after hq
    | next => exact False.elim hq
    | brk => exact False.elim hq
    | cont => exact False.elim hq
theorem callWith_any {M : Model} {A : Around} {E : Value → Shared → Prop} {s : Shared} {env : Env} {pos : Pos} {x : Addr} {e : Expr} {es : List Expr} {Q : Value → Shared → Prop} (he : starEach (e :: es) env = (false, eval e env) :: starEach es env) (hpl : (backTo pos (starEach es env)).any (·.1) = false)
    (h : wpAny M A (spliced (backTo pos (starEach (e :: es) env))) (fun vs s₁ => ∃ ox : Obj, s₁.heap.get? x = some ox ∧ ox.data = .plain ∧ wpAny M A (call (.ref x) vs) Q E s₁) E s) :
    wpAny M A (callWith pos (.ref x) [] (backTo pos (starEach (e :: es) env)) []) Q E s := by
  unfold callWith
  rw [he] at h ⊢
  have hplain : ((backTo pos ((false, eval e env) :: starEach es env)).any (·.1) || ([] : List (Option Str × Sem Value)).any (·.1.isNone)) = false := by show ((false || (backTo pos (starEach es env)).any (·.1)) || false) = false; rw [hpl]; rfl
  refine wpAny_bind (wpAny_holding (wpAny_mono (show wpAny M A (evalArgs (.ref x) true (backTo pos ((false, eval e env) :: starEach es env)) []) (fun a s₁ => ∃ ox : Obj, s₁.heap.get? x = some ox ∧ ox.data = .plain ∧ wpAny M A (call (.ref x) ([] ++ a.pos) a.kw) Q E s₁) E s from PySem.Calls.evalArgs_plain h) (fun a s₁ h₁ => wpAny_bind (wpAny_standAt ?_)) fun _ _ y => y))
  obtain ⟨ox, hx, hd, hc⟩ := h₁
  have L : PySem.W.Looks M s₁.heap (keeperOf (.ref x)) .caller := by
    refine (PySem.W.Looks.ld (part := none) hx).andThen ?_
    simp only [hd]
    exact .now
  simp only [hplain]
  refine wpAny_bind (L.here ?_)
  have tail : ∀ {t : Sem Value}, wpAny M A t Q E s₁ → wpAny M A (t >>= fun r => holding [r] point >>= fun _ => pure r) Q E s₁ :=
    fun ht => wpAny_bind (wpAny_mono ht (fun r s₂ hr => wpAny_bind (wpAny_holding (wpAny_point (wpAny_pure hr)))) fun _ _ y => y)
  exact tail (wpAny_operateT hc)
/-- x(e, ..), x a name -/
theorem pe_callO {x : Str} {p pos : Pos} {e : Expr} {es : List Expr} {tf : TE} {t : TA} (hm : Meth X.K C "__call__" f) (hfn : PySem.W.fnIn X.K f = true) (F : FnOk X.prog X.w X.K X.mg X.base CX k f fd ps sp) (hr : Room k X.A) (hb : Binds X.K fd ps []) (hx : ∀ σ, PassesAt CX X σ (E σ)) (hf : PE X (.Name x p) tf) (ha : PA X (e :: es) t)
    (he : starEach (e :: es) X.env = (false, eval e X.env) :: starEach es X.env := by rfl) (hpl : (backTo pos (starEach es X.env)).any (·.1) = false := by rfl) :
    PE X (.Call (.Name x p) (e :: es) [] pos) (fun σ H Q => tf σ H fun v H1 => ∃ a, v = .ref a ∧ t σ H1 fun vs H2 => ∃ dx fs, H2 a = some (.ins C dx fs) ∧ sp (v :: vs) H2 Q (E σ)) := by
  refine ⟨fun pins s σ H Q I h => ?_⟩
  refine wpAny_Call_Name_kw (thn (hf.run pins s σ H _ I h) fun u s1 ⟨v, H1, I1, rv, a, e1, q⟩ => ?_)
  subst e1
  cases (show u = Value.ref a from rv)
  refine callWith_any he hpl (thn (ha.run pos pins s1 σ H1 _ I1 q) fun us s2 ⟨vs, H2, I2, r, dx, fs, ea, q2⟩ => ?_)
  obtain ⟨mA, J, _⟩ := ins_get I2.hok ea
  have hJ := J.obj
  obtain ⟨od, J, _⟩ := J.look
  refine ⟨_, hJ, rfl, ?_⟩
  exact wpAny_call (PySem.W.kco_code I2.kIn J rfl hm.at_ hm.fn hfn (code_fnS (us := .ref a :: us) (vs := .ref a :: vs) F hr hb (hx σ) I2 (.cons rfl r) q2))
end
end FL

/-! FK7: typed rules for operators, calls, isinstance, staticmethods of one's own classes. -/
namespace FL
open PySem L2
theorem por_of {ρ : Type} [Rp ρ] {K : PySem.W.Frag} {F H : Hp} {Q : VK} {E : XK} {m : Xc ρ} (h : Po K F H Q E m) : PoR (rtF ρ) K F H Q E m := by
  cases m with
  | ok r => exact h
  | er cc fs => exact h
  | no => exact h
section
variable {X : Cx} {c : C0} {γ α β ρ αs : Type} {G : EnvT γ} [Rps α] [Rp ρ] [Rps αs] {a b e : Expr} {es : List Expr} {pos p apos : Pos} {C m : Str} {ns : List Str} {ps : List Str} {k j : Nat}
theorem ob_at {K : PySem.W.Frag} {F H : Hp} {v : V} {x : Ob C ns α} (s : Same F H) (r : Rp.is K F v x) : ∃ a dx fs, v = .ref a ∧ H a = some (.ins (He.ga K C) dx fs) := by
  obtain ⟨a, dx, vs, e, h, _⟩ := r
  exact ⟨a, dx, _, e, s _ _ h⟩
/-- x op y, two instances -/
theorem fe_opOO {op : Operator} {mm : Ob C ns α × Ob C ns α × Unit → Xc ρ} {fa fb : γ → Xc (Ob C ns α)} (D : Dm X.prog X.w X.K X.mg X.base C m ps j (spF X.K (rtF ρ) mm)) (hsf : PySem.W.selfFirst X.K (He.ga X.K C) = true) (tk : Takes X c.W) (hr : Room k X.A) (ha : FE X c G a fa) (hb : FE X c G b fb) (hjk : j ≤ k := by decide)
    (hop : PySem.dunder op.info.2 = m := by rfl) : FE X c G (.BinOp a op b pos) (fun g => (fa g).bind fun x => (fb g).bind fun y => mm (x, (y, ()))) := by
  obtain ⟨⟨fd, F, B⟩, hm⟩ := D
  refine twoS (fun h1 h2 => pe_opS (op_oo (E := WE c.W) hm hop hsf F (hr.mono hjk) B (fun σ => passAt tk σ)) h1 h2) ha hb fun {F H x y i j Q σ} s r1 r2 q => ?_
  obtain ⟨a1, dx, fs, e1, h1⟩ := ob_at s r1
  obtain ⟨a2, dy, gs, e2, h2⟩ := ob_at s r2
  exact ⟨a1, dx, fs, a2, dy, gs, e1, e2, h1, h2, F, (i, (j, ())), s, ⟨x, [y], rfl, r1, y, [], rfl, r2, rfl⟩, por_of q⟩
/-- x op i, an instance and a whole number -/
structure OpI (K : PySem.W.Frag) (C m mr : Str) : Prop where
  sf : PySem.W.selfFirst K (He.ga K C) = true
  rc : ∃ rc, PySem.W.findIn K (.ref (He.ga K C)) mr = some rc ∧ (rc = none ∨ ∃ g : Addr, rc = some (.ref g))
  h1 : ∃ fo, PySem.W.findIn K (.type "int") m = some fo
  h2 : ∃ ro, PySem.W.findIn K (.type "int") mr = some ro
  sub : PySem.W.subIn K (.type "int") (.ref (He.ga K C)) = some false
theorem fe_opOI {op : Operator} {mr : Str} {mm : Ob C ns α × Int × Unit → Xc ρ} {fa : γ → Xc (Ob C ns α)} {fb : γ → Xc Int} (D : Dm X.prog X.w X.K X.mg X.base C m ps j (spF X.K (rtF ρ) mm)) (hi : OpI X.K C m mr) (tk : Takes X c.W) (hr : Room k X.A) (ha : FE X c G a fa) (hb : FE X c G b fb) (hjk : j ≤ k := by decide)
    (hop : PySem.dunder op.info.2 = m := by rfl) (hop2 : dunderR op.info.2 = mr := by rfl) : FE X c G (.BinOp a op b pos) (fun g => (fa g).bind fun x => (fb g).bind fun y => mm (x, (y, ()))) := by
  obtain ⟨⟨fd, F, B⟩, hm⟩ := D
  obtain ⟨hsf, ⟨rc, hrc, hp⟩, ⟨fo, h1⟩, ⟨ro, h2⟩, hsub⟩ := hi
  subst hop2
  refine twoS (fun h1' h2' => pe_opS (op_oi (E := WE c.W) hm hop hsf hrc hp h1 h2 hsub F (hr.mono hjk) B (fun σ => passAt tk σ)) h1' h2') ha hb fun {F H x y i j Q σ} s r1 r2 q => ?_
  obtain ⟨a1, dx, fs, e1, h1⟩ := ob_at s r1
  exact ⟨a1, dx, fs, j, e1, r2, h1, F, (i, (j, ())), s, ⟨x, [y], rfl, r1, y, [], rfl, r2, rfl⟩, por_of q⟩
/-- i * x -/
theorem fe_opIO {mm : Ob C ns α × Int × Unit → Xc ρ} {fa : γ → Xc Int} {fb : γ → Xc (Ob C ns α)} (D : Dm X.prog X.w X.K X.mg X.base C "__rmul__" ps j (spF X.K (rtF ρ) mm)) (hmul : Meth X.K (He.ga X.K C) "__mul__" (He.ma X.K (He.ga X.K C) "__mul__")) (hsf : PySem.W.selfFirst X.K (He.ga X.K C) = true) (hsub : PySem.W.subIn X.K (.ref (He.ga X.K C)) (.type "int") = some false)
    (tk : Takes X c.W) (hr : Room k X.A) (ha : FE X c G a fa) (hb : FE X c G b fb) (hjk : j ≤ k := by decide) : FE X c G (.BinOp a .Mult b pos) (fun g => (fa g).bind fun x => (fb g).bind fun y => mm (y, (x, ()))) := by
  obtain ⟨⟨fd, F, B⟩, hm⟩ := D
  refine twoS (fun h1' h2' => pe_opS (op_io (E := WE c.W) hmul hm hsf hsub F (hr.mono hjk) B (fun σ => passAt tk σ)) h1' h2') ha hb fun {F H x y i j Q σ} s r1 r2 q => ?_
  obtain ⟨a1, dx, fs, e1, h1⟩ := ob_at s r2
  exact ⟨a1, dx, fs, i, r1, e1, h1, F, (j, (i, ())), s, ⟨y, [x], rfl, r2, x, [], rfl, r1, rfl⟩, por_of q⟩
/-- x == y -/
theorem fe_eqOO {mm : Ob C ns α × Ob C ns α × Unit → Xc ρ} {fa fb : γ → Xc (Ob C ns α)} (D : Dm X.prog X.w X.K X.mg X.base C "__eq__" ps j (spF X.K (rtF ρ) mm)) (tk : Takes X c.W) (hr : Room k X.A) (ha : FE X c G a fa) (hb : FE X c G b fb) (hjk : j ≤ k := by decide) :
    FE X c G (.Compare a [.Eq] [b] pos) (fun g => (fa g).bind fun x => (fb g).bind fun y => mm (x, (y, ()))) := by
  obtain ⟨⟨fd, F, B⟩, hm⟩ := D
  refine twoS (fun h1 h2 => pe_cmpS (eq_oo (E := WE c.W) hm F (hr.mono hjk) B (fun σ => passAt tk σ)) h1 h2 (nomark _)) ha hb fun {F H x y i j Q σ} s r1 r2 q => ?_
  obtain ⟨a1, dx, fs, e1, h1⟩ := ob_at s r1
  obtain ⟨a2, dy, gs, e2, h2⟩ := ob_at s r2
  exact ⟨a1, dx, fs, a2, dy, gs, e1, e2, h1, h2, F, (i, (j, ())), s, ⟨x, [y], rfl, r1, y, [], rfl, r2, rfl⟩, por_of q⟩
theorem fe_eqOI {mm : Ob C ns α × Int × Unit → Xc ρ} {fa : γ → Xc (Ob C ns α)} {fb : γ → Xc Int} (D : Dm X.prog X.w X.K X.mg X.base C "__eq__" ps j (spF X.K (rtF ρ) mm)) (hn : PySem.W.notFirst X.K (He.ga X.K C) (.type "int") = true) (tk : Takes X c.W) (hr : Room k X.A) (ha : FE X c G a fa) (hb : FE X c G b fb) (hjk : j ≤ k := by decide) :
    FE X c G (.Compare a [.Eq] [b] pos) (fun g => (fa g).bind fun x => (fb g).bind fun y => mm (x, (y, ()))) := by
  obtain ⟨⟨fd, F, B⟩, hm⟩ := D
  refine twoS (fun h1 h2 => pe_cmpS (eq_oi (E := WE c.W) hm hn F (hr.mono hjk) B (fun σ => passAt tk σ)) h1 h2 (nomark _)) ha hb fun {F H x y i j Q σ} s r1 r2 q => ?_
  obtain ⟨a1, dx, fs, e1, h1⟩ := ob_at s r1
  exact ⟨a1, dx, fs, j, e1, r2, h1, F, (i, (j, ())), s, ⟨x, [y], rfl, r1, y, [], rfl, r2, rfl⟩, por_of q⟩
/-- -x -/
theorem fe_negO {mm : Ob C ns α × Unit → Xc ρ} {fa : γ → Xc (Ob C ns α)} (D : Dm X.prog X.w X.K X.mg X.base C "__neg__" ps j (spF X.K (rtF ρ) mm)) (tk : Takes X c.W) (hr : Room k X.A) (ha : FE X c G a fa) (hjk : j ≤ k := by decide) :
    FE X c G (.UnaryOp .USub a pos) (fun g => (fa g).bind fun x => mm (x, ())) := by
  obtain ⟨⟨fd, F, B⟩, hm⟩ := D
  refine PE.imp (pe_negO (E := WE c.W) hm F (hr.mono hjk) B (fun σ => passAt tk σ) ha) fun σ H Q ⟨F, g, w, q, h⟩ => ?_
  refine ⟨F, g, w, q, ?_⟩
  cases e1 : fa g with
  | ok x =>
    intro v F1 H1 w1 r1
    simp only [e1] at h
    obtain ⟨a1, dx, fs, e2, h1⟩ := ob_at w1.s r1
    exact ⟨a1, dx, fs, e2, h1, F1, (x, ()), w1.s, ⟨v, [], rfl, r1, rfl⟩, por_of (Po.on (show Po X.K F H Q (WE c.W σ) (mm (x, ())) from h) w1)⟩
  | er c' fs => simp only [e1] at h; exact h
  | no => simp only [e1] at h; exact h
/-- x(e, ..), x a name of an instance -/
theorem fe_callO {x : Str} {mm : Ob C ns α × αs → Xc ρ} {fa : γ → Xc (Ob C ns α)} {fs : γ → Xc αs} (D : Dm X.prog X.w X.K X.mg X.base C "__call__" ps j (spF X.K (rtF ρ) mm)) (hfn : PySem.W.fnIn X.K (He.ma X.K (He.ga X.K C) "__call__") = true) (tk : Takes X c.W) (hr : Room k X.A) (hf : FE X c G (.Name x p) fa) (ha : FA X c G (e :: es) fs) (hjk : j ≤ k := by decide)
    (hst : starEach (e :: es) X.env = (false, eval e X.env) :: starEach es X.env := by rfl) (hpl : (backTo pos (starEach es X.env)).any (·.1) = false := by rfl) :
    FE X c G (.Call (.Name x p) (e :: es) [] pos) (fun g => (fa g).bind fun x => (fs g).bind fun as => mm (x, as)) := by
  obtain ⟨⟨fd, F, B⟩, hm⟩ := D
  refine PE.imp (pe_callO (E := WE c.W) hm hfn F (hr.mono hjk) B (fun σ => passAt tk σ) hf ha hst hpl) fun σ H Q ⟨F, g, w, q, h⟩ => ?_
  refine ⟨F, g, w, q, ?_⟩
  cases e1 : fa g with
  | ok x =>
    intro v F1 H1 w1 r1
    simp only [e1] at h
    have h : Po X.K F H Q (WE c.W σ) ((fs g).bind fun as => mm (x, as)) := h
    obtain ⟨a1, dx, gs, ev, h1⟩ := ob_at w1.s r1
    refine ⟨a1, ev, F1, g, w.trans w1, G.mono q w1, ?_⟩
    cases e2 : fs g with
    | ok as =>
      intro us F2 H2 w2 r2
      simp only [e2] at h
      exact ⟨dx, gs, w2.h _ _ h1, F2, (x, as), w2.s, ⟨v, us, rfl, Rp.mono w2.f r1, r2⟩, por_of (Po.on (show Po X.K F H Q (WE c.W σ) (mm (x, as)) from h) (w1.trans w2))⟩
    | er c' fs => simp only [e2] at h; exact ErP.on (show ErP X.K F H (WE c.W σ) c' fs from h) w1
    | no => simp only [e2] at h; exact h
  | er c' fs => simp only [e1] at h; exact h
  | no => simp only [e1] at h; exact h
/-! isinstance(e, C), C a class of one's own -/
/-- what isinstance asks of the class of an instance -/
structure Isi (K : PySem.W.Frag) (C : Str) : Prop where
  cl : Cls K (He.ga K C)
  si : SlX.SIsi K (He.ga K C)
/-- what isinstance sees -/
class HasTyV (α : Type) [Rp α] (ok : outParam (PySem.W.Frag → Prop)) (ty : outParam (PySem.W.Frag → Value)) : Prop where
  is : ∀ {K F H v} {a : α}, ok K → Same F H → Rp.is K F v a → TyX K H v (ty K)
instance {C : Str} {ns : List Str} {α : Type} [Rps α] : HasTyV (Ob C ns α) (fun K => Isi K C) (fun K => .ref (He.ga K C)) := ⟨fun i s r => by
  obtain ⟨a, dx, vs, e, h, _⟩ := r
  subst e
  exact .base (.ins (s _ _ h) i.cl i.si.ca i.si.cn i.si.ct i.si.cm)⟩
instance : HasTyV Int (fun _ => True) (fun _ => .type "int") := ⟨fun _ s r => HasTy.is s r⟩
theorem fe_isiC {α : Type} [Rp α] {ok : PySem.W.Frag → Prop} {ty : PySem.W.Frag → Value} [T : HasTyV α ok ty] {D : Str} (r : Bool) {p2 : Pos} {fa : γ → Xc α} (ha : FE X c G a fa) (i : ok X.K) (hk : PySem.W.kitOne X.K (ty X.K) (.ref (He.ga X.K D)) = some r) (hD : X.mg D = some (.ref (He.ga X.K D))) (hm : X.mg "isinstance" = none)
    (hg : Gl X "isinstance" := by rfl) (hgT : Gl X D := by rfl) (hd : (D == ("__debug__" : Str)) = false := by decide)
    (hs : starEach [a, .Name D p2] X.env = (false, eval a X.env) :: starEach [.Name D p2] X.env := by rfl) (hs2 : starEach [.Name D p2] X.env = (false, eval (.Name D p2) X.env) :: starEach [] X.env := by rfl)
    (hpl : (backTo pos (starEach [.Name D p2] X.env)).any (·.1) = false := by rfl) : FE X c G (.Call (.Name "isinstance" p) [a, .Name D p2] [] pos) (fun g => (fa g).bind fun _ => Xc.ok r) :=
  PE.imp (pe_callB call_isi hg hm PyProof.Rows.boot_isinstance (pa_cons ha (pa_cons (pe_glob (v := .ref (He.ga X.K D)) hgT hD rfl hd) pa_nil hs2) hs) (he := hs) (hpl := hpl)) fun σ H Q ⟨F, g, w, q, h⟩ => by
    refine ⟨F, g, w, q, ?_⟩
    cases e1 : fa g with
    | ok o =>
      intro v F1 H1 w1 r1
      simp only [e1] at h
      exact ⟨v, .ref (He.ga X.K D), _, _, r, rfl, .own _, T.is i w1.s r1, hk, h (.bl r) F1 H1 w1 rfl⟩
    | er c' fs => simp only [e1] at h; exact h
    | no => simp only [e1] at h; exact h
end
/-! staticmethods -/
section
variable {X : Cx} {CX : CXT} {k : Nat} {f C g : Addr} {fd : FuncData} {ps : List Str} {sp : Sp} {E : St → XK} {x m : Str} {pos apos p : Pos} {e : Expr} {es : List Expr} {t : TA} {pl : Sem Bool} {mc : Value}
theorem getsm_ok {pins : List (Addr × Obj)} {σ : St} {H : Hp} {s : Shared} {A : Around} {E : Value → Shared → Prop} {rest : List Value} {Q : Value × List Value → Shared → Prop} (I : Inv X pins σ H s) (r : ClX.CRead X.K C mc)
    (at_ : PySem.W.findCls X.K (.ref C) mc m = some (.get (.builtin "staticmethod.__get__") (.ref f) .none (.ref C))) (hp : PySem.W.recIn X.K f "staticmethod" = some (.ref g :: rest))
    (h : ∀ s', Inv X pins σ H s' → Q (.ref g, []) s') : wpAny (model X.prog X.w) A (getMethod (.ref C) m pl) Q E s := by
  refine PySem.W.method_cls I.kIn r.ga (PySem.W.cls_bind I.kIn r.rd at_ ?_)
  exact wpAny_call (PySem.W.sm_get (s := { s with toks := s.toks + 1 }) I.kIn hp (PySem.W.handed_on rfl (h _ (I.tok _))))
theorem pe_smW {rest : List Value} (r : ClX.CRead X.K C mc) (at_ : PySem.W.findCls X.K (.ref C) mc m = some (.get (.builtin "staticmethod.__get__") (.ref f) .none (.ref C))) (hp : PySem.W.recIn X.K f "staticmethod" = some (.ref g :: rest)) (kp : PySem.W.keepIn X.K (.ref g) = true)
    (F : FnOk X.prog X.w X.K X.mg X.base CX k g fd ps sp) (hr : Room k X.A) (hb : Binds X.K fd ps []) (hx : ∀ σ, PassesAt CX X σ (E σ)) (hg : Gl X x) (hm : X.mg x = some (.ref C)) (ha : PA X (e :: es) t) (hdb : (x == ("__debug__" : Str)) = false := by decide)
    (hst : starEach (e :: es) X.env = (false, eval e X.env) :: starEach es X.env := by rfl) (hpl : (backTo pos (starEach es X.env)).any (·.1) = false := by rfl)
    (ht : eval (.Call (.Attribute (.Name x p) m apos) (e :: es) [] pos) X.env = (do
      let ov ← eval (.Name x p) X.env
      standAt apos.atName
      let (f, first) ← holding [ov] (getMethod ov m pl)
      callWith pos f first (backTo pos (starEach (e :: es) X.env)) (backToKw pos (keywordEach [] X.env))) := by rfl) :
    PE X (.Call (.Attribute (.Name x p) m apos) (e :: es) [] pos) (tCallS sp E t) := by
  refine ⟨fun pins s σ H Q I h => ?_⟩
  refine PySem.W.methodCall_KW (pl := pl) (thn ((pe_glob (v := .ref C) (pos := p) hg hm rfl hdb).run pins s σ H (fun v H1 => v = .ref C ∧ H1 = H) I ⟨rfl, rfl⟩) fun u s1 ⟨v, H1, I1, r1, ev, eH⟩ => ?_) ht
  subst ev
  subst eH
  cases (show u = Value.ref C from r1)
  refine getsm_ok I1 r at_ hp fun s2 I2 => ?_
  refine PySem.W.callWith_K (first := []) (h₀ := X.base) I.ok.mod.kin kp (thn (ha.run pos pins s2 σ _ _ I2 h) fun us s3 ⟨vs, H2, I3, r3, q3⟩ => ⟨I3.kIn, ?_⟩) hst hpl
  exact run_fnS F hr hb (hx σ) I3 r3 q3
end
/-- the staticmethod m of the class C keeps the promise sp -/
structure Ds (P : Program) (w : World) (K : PySem.W.Frag) (mg : Str → Option Value) (base : Heap) (C m : Str) (ps : List Str) (k : Nat) (sp : Sp) : Prop where
  ex : ∃ fd, FnOk P w K mg base (L2.CX P w) k (He5.wf K (He.ga K C) "staticmethod" m) fd ps sp ∧ Binds K fd ps []
  at_ : PySem.W.findCls K (.ref (He.ga K C)) (.type "type") m = some (.get (.builtin "staticmethod.__get__") (.ref (He.ma K (He.ga K C) m)) .none (.ref (He.ga K C)))
  rc : ∃ rest, PySem.W.recIn K (He.ma K (He.ga K C) m) "staticmethod" = some (.ref (He5.wf K (He.ga K C) "staticmethod" m) :: rest)
  kp : PySem.W.keepIn K (.ref (He5.wf K (He.ga K C) "staticmethod" m)) = true
  rd : ClX.CRead K (He.ga K C) (.type "type")
  mg : mg C = some (.ref (He.ga K C))
section
variable {X : Cx} {c : C0} {γ ρ αs : Type} {G : EnvT γ} [Rp ρ] [Rps αs] {e : Expr} {es : List Expr} {pos p apos : Pos} {C m : Str} {ps : List Str} {k j : Nat} {pl : Sem Bool}
theorem fe_sm {mm : αs → Xc ρ} {fs : γ → Xc αs} (D : Ds X.prog X.w X.K X.mg X.base C m ps j (spF X.K (rtF ρ) mm)) (tk : Takes X c.W) (hr : Room k X.A) (ha : FA X c G (e :: es) fs) (hjk : j ≤ k := by decide) (hg : Gl X C := by rfl)
    (hdb : (C == ("__debug__" : Str)) = false := by decide) (hst : starEach (e :: es) X.env = (false, eval e X.env) :: starEach es X.env := by rfl) (hpl : (backTo pos (starEach es X.env)).any (·.1) = false := by rfl)
    (ht : eval (.Call (.Attribute (.Name C p) m apos) (e :: es) [] pos) X.env = (do
      let ov ← eval (.Name C p) X.env
      standAt apos.atName
      let (f, first) ← holding [ov] (getMethod ov m pl)
      callWith pos f first (backTo pos (starEach (e :: es) X.env)) (backToKw pos (keywordEach [] X.env))) := by rfl) :
    FE X c G (.Call (.Attribute (.Name C p) m apos) (e :: es) [] pos) (fun g => (fs g).bind mm) := by
  obtain ⟨⟨fd, F, B⟩, at_, ⟨rest, hp⟩, kp, rd, mg⟩ := D
  refine PE.imp (pe_smW (E := WE c.W) rd at_ hp kp F (hr.mono hjk) B (fun σ => passAt tk σ) hg mg ha hdb hst hpl ht) fun σ H Q ⟨F, g, w, q, h⟩ => ?_
  refine ⟨F, g, w, q, ?_⟩
  cases e1 : fs g with
  | ok as =>
    intro us F1 H1 w1 r1
    simp only [e1] at h
    exact ⟨F1, as, w1.s, r1, por_of (Po.on (show Po X.K F H Q (WE c.W σ) (mm as) from h) w1)⟩
  | er c' fs => simp only [e1] at h; exact h
  | no => simp only [e1] at h; exact h
end
end FL

/-! FK8: any, all; dead code; chains of an __init__'s statements; what a head tells of classes. -/
namespace FL
open PySem L2
theorem al_bls {K : PySem.W.Frag} {F : Hp} : ∀ {xs : List V} {l : List Bool}, Al K F xs l → xs = l.map V.bl
  | _, _, .nil => rfl
  | _, _, .cons h t => by
    have h' : _ = V.bl _ := h
    rw [h', al_bls t]
    rfl
section
variable {X : Cx} {c : C0} {γ : Type} {G : EnvT γ} {a : Expr} {pos p : Pos}
theorem fe_any {fa : γ → Xc (List Bool)} (hc : X.calm = true) (ha : FE X c G a fa) (hm : X.mg "any" = none) (hg : Gl X "any" := by rfl) (hs : starEach [a] X.env = (false, eval a X.env) :: starEach [] X.env := by rfl)
    (hpl : (backTo pos (starEach [] X.env)).any (·.1) = false := by rfl) : FE X c G (.Call (.Name "any" p) [a] [] pos) (fun g => (fa g).bind fun l => Xc.ok (l.any id)) :=
  PE.imp (pe_callB (cr_any hc) hg hm PyProof.Rows.boot_any (pa_cons ha pa_nil hs) (he := hs) (hpl := hpl)) fun σ H Q ⟨F, g, w, q, h⟩ => by
    refine ⟨F, g, w, q, ?_⟩
    cases e1 : fa g with
    | ok l =>
      intro v F1 H1 w1 r1
      simp only [e1] at h
      obtain ⟨q', xs, ev, hq, z, al⟩ := r1
      subst ev
      have e := al_bls al
      subst e
      exact ⟨q', l, rfl, Same.seq w1.s hq, h (.bl _) F1 H1 w1 rfl⟩
    | er c' fs => simp only [e1] at h; exact h
    | no => simp only [e1] at h; exact h
theorem fe_all {fa : γ → Xc (List Bool)} (hc : X.calm = true) (ha : FE X c G a fa) (hm : X.mg "all" = none) (hg : Gl X "all" := by rfl) (hs : starEach [a] X.env = (false, eval a X.env) :: starEach [] X.env := by rfl)
    (hpl : (backTo pos (starEach [] X.env)).any (·.1) = false := by rfl) : FE X c G (.Call (.Name "all" p) [a] [] pos) (fun g => (fa g).bind fun l => Xc.ok (l.all id)) :=
  PE.imp (pe_callB (cr_all hc) hg hm PyProof.Rows.boot_all (pa_cons ha pa_nil hs) (he := hs) (hpl := hpl)) fun σ H Q ⟨F, g, w, q, h⟩ => by
    refine ⟨F, g, w, q, ?_⟩
    cases e1 : fa g with
    | ok l =>
      intro v F1 H1 w1 r1
      simp only [e1] at h
      obtain ⟨q', xs, ev, hq, z, al⟩ := r1
      subst ev
      have e := al_bls al
      subst e
      exact ⟨q', l, rfl, Same.seq w1.s hq, h (.bl _) F1 H1 w1 rfl⟩
    | er c' fs => simp only [e1] at h; exact h
    | no => simp only [e1] at h; exact h
theorem fe_dead {α : Type} [Rp α] : FE X c G a (fun _ => (Xc.no : Xc α)) := ⟨fun pins s σ H Q I ⟨F, g, w, q, h⟩ => h.elim⟩
end
section
variable {X : Cx} {γ γ1 α τ ρ : Type} {G : EnvT γ} {G1 : EnvT γ1} [Rps α] [Rps ρ] {C : Str} {ns nsF : List Str} {x : Addr} {st : Stmt} {sts : List Stmt} {c : C1}
theorem FK_.cast {m m' : α × γ → Xc ρ} (h : FK_ X c C ns nsF x G sts m) (i : ∀ g, m' g = m g) : FK_ X c C ns nsF x G sts m' := by rw [show m' = m from funext i]; exact h
theorem fk_B {fa : α × γ → Xc τ} {ψ : α × γ → τ → α × γ1} {m2 : α × γ1 → Xc ρ} (h1 : ∀ F' H', FN X ⟨⟨F', H', c.W⟩, c.M⟩ (sf x C ns α G) st (sf x C ns α G1) (fun g => (fa g).bind fun v => Xc.ok (ψ g v))) (h2 : FK_ X c C ns nsF x G1 sts m2) :
    FK_ X c C ns nsF x G (st :: sts) (fun g => (fa g).bind fun v => m2 (ψ g v)) := FK_.cast (fk_n h1 h2) fun g => by cases fa g <;> rfl
end
/-! heads -/
abbrev FnM (K : PySem.W.Frag) (x q : Str) (st : Stmt) (dvs : List V) (f : Addr) (fd : FuncData) : Prop := FunD K x q (defArgs st) (defBody st) (defScope st) dvs [] f fd
def clsBody (s : Stmt) : List Stmt := match s with
  | .ClassDef _ _ _ b _ _ _ _ _ _ _ => b
  | _ => []
section
variable {P : Program} {w : World} {K : PySem.W.Frag} {mg : Str → Option Value} {base : Heap} {C m x qual : Str} {params : Arguments} {body : List Stmt} {scope : Scope} {fd : FuncData} {ps : List Str} {k : Nat} {sp : Sp} {dvs : List V}
theorem dm_of (M : Meth K (He.ga K C) m (He.ma K (He.ga K C) m)) (b : Binds K fd ps []) (h : FnOk P w K mg base (L2.CX P w) k (He.ma K (He.ga K C) m) fd ps sp) : Dm P w K mg base C m ps k sp := ⟨⟨fd, h, b⟩, M⟩
theorem di_of (M : Mk K (He.ga K C) (He.ma K (He.ga K C) "__init__")) (g : mg C = some (.ref (He.ga K C))) (b : ∃ ds, Vals dvs ds ∧ Binds K fd ps ds) (h : FnOk P w K mg base (L2.CX P w) k (He.ma K (He.ga K C) "__init__") fd ps sp) : Di P w K mg base C ps dvs k sp := ⟨⟨fd, h, b⟩, M, g⟩
theorem ds_of (F : FunD K x qual params body scope [] [] (He5.wf K (He.ga K C) "staticmethod" m) fd) (r : ClX.CRead K (He.ga K C) (.type "type")) (hw : He5.wrapB K (He.ga K C) "staticmethod" "staticmethod.__get__" m = true) (g : mg C = some (.ref (He.ga K C))) (b : Binds K fd ps [])
    (h : FnOk P w K mg base (L2.CX P w) k (He5.wf K (He.ga K C) "staticmethod" m) fd ps sp) : Ds P w K mg base C m ps k sp := ⟨⟨fd, h, b⟩, (He5.wrapB_ok hw).1, (He5.wrapB_ok hw).2, F.kp, r, g⟩
end
/-- what a head asks of a class, as Bools -/
def someB {α : Type} (o : Option α) : Bool := o.isSome
def refB (o : Option (Option Value)) : Bool := match o with
  | some none => true
  | some (some (.ref _)) => true
  | _ => false
def opIB (K : PySem.W.Frag) (C m mr : Str) : Bool := PySem.W.selfFirst K (He.ga K C) && (refB (PySem.W.findIn K (.ref (He.ga K C)) mr) && ((PySem.W.findIn K (.type "int") m).isSome && ((PySem.W.findIn K (.type "int") mr).isSome && decide (PySem.W.subIn K (.type "int") (.ref (He.ga K C)) = some false))))
theorem opIB_ok {K : PySem.W.Frag} {C m mr : Str} (h : opIB K C m mr = true) : OpI K C m mr := by
  obtain ⟨h1, h⟩ := He.ba h
  obtain ⟨h2, h⟩ := He.ba h
  obtain ⟨h3, h⟩ := He.ba h
  obtain ⟨h4, h5⟩ := He.ba h
  refine ⟨h1, ?_, Option.isSome_iff_exists.mp h3, Option.isSome_iff_exists.mp h4, of_decide_eq_true h5⟩
  unfold refB at h2
  split at h2
  · rename_i e; exact ⟨_, e, .inl rfl⟩
  · rename_i g e; exact ⟨_, e, .inr ⟨g, rfl⟩⟩
  · cases h2
def isiB (K : PySem.W.Frag) (C : Str) : Bool := decide (PySem.W.findIn K (.ref (He.ga K C)) "__class__" = some (some (.builtin "object.__class__"))) && (decide (PySem.W.specialIn K (.builtin "object.__class__") "__get__" = some (some (.builtin "getset_descriptor.__get__"))) && (decide (PySem.W.takesIn K (.builtin "object.__class__") = some true) && decide (PySem.W.mroIn K (He.ga K C) (.type "object") = some true)))
theorem isiB_ok {K : PySem.W.Frag} {C : Str} (cl : Cls K (He.ga K C)) (h : isiB K C = true) : Isi K C := by
  obtain ⟨h1, h⟩ := He.ba h
  obtain ⟨h2, h⟩ := He.ba h
  obtain ⟨h3, h4⟩ := He.ba h
  exact ⟨cl, ⟨of_decide_eq_true h1, of_decide_eq_true h2, of_decide_eq_true h3, of_decide_eq_true h4⟩⟩
def readB (K : PySem.W.Frag) (C : Str) : Bool := PySem.W.readsIn K (He.ga K C) (.type "type") && decide (PySem.W.specialIn K (.ref (He.ga K C)) "__getattribute__" = some (some (.builtin "type.__getattribute__")))
theorem readB_ok {K : PySem.W.Frag} {C : Str} (h : readB K C = true) : ClX.CRead K (He.ga K C) (.type "type") := ⟨(He.ba h).1, of_decide_eq_true (He.ba h).2⟩
/-! the hook: facts, defs at any address, one more Bool -/
structure SaysK (fa : List He.Fa) (fn : List He5.DefA) (ex : PySem.W.Frag → Bool) (K : PySem.W.Frag) : Prop where
  a : He5.SaysA fa fn K
  more : ex K = true
def obsK (n : Nat) (fa : List He.Fa) (fn : List He5.DefA) (ex : PySem.W.Frag → Bool) (g : Addr → Option Obj) : He.AlD × Bool := (He5.obsA fa fn (He.frG g (He5.asA g n)), ex (He.frG g (He5.asA g n)))
def hookK (n : Nat) (fa : List He.Fa) (fn : List He5.DefA) (ex : PySem.W.Frag → Bool) : PySem.W.Hook where
  α := He.AlD × Bool
  obs := fun s => obsK n fa fn ex s.heap.get?
  val := fun _ => (He5.valA fn, true)
  says := fun _ h => ∃ K : PySem.W.Frag, K.In h ∧ SaysK fa fn ex K
  of := fun _ _ e => ⟨_, He.frG_in, congrArg (fun z : He.AlD × Bool => z.1) e, congrArg (fun z : He.AlD × Bool => z.2) e⟩
  keeps := fun _ _ _ ⟨K, hK, c⟩ k => ⟨K, PySem.W.Frag.In.keeps hK k, c⟩
theorem obsK_eq {n : Nat} {fa : List He.Fa} {fn : List He5.DefA} {ex : PySem.W.Frag → Bool} {g : Addr → Option Obj} {s : Shared} (h : ∀ a, g a = s.heap.get? a) : obsK n fa fn ex g = (hookK n fa fn ex).obs s := by
  have e : g = s.heap.get? := funext h
  rw [e] <;> rfl
end FL

/-! PL1: plain laws of the mirrors' words. -/
namespace FL
open PySem L2
theorem size_ge : 1000000 ≤ sizeLine := by rw [sizeLine_eq]; decide
theorem mulX_r {i j : Int} (h : j.natAbs < 2 ^ 64) : mulX i j = .ok (i * j) := by unfold mulX; rw [if_pos (.inr (.inl h))]
theorem mulX_l {i j : Int} (h : i.natAbs < 2 ^ 64) : mulX i j = .ok (i * j) := by unfold mulX; rw [if_pos (.inl h)]
theorem log2_of {n b : Nat} (h : n < 2 ^ b) (h0 : 0 < b) : n.log2 < b := by
  by_cases e : n = 0
  · subst e; simpa using h0
  · exact (Nat.log2_lt e).2 h
theorem mulX_b {i j : Int} {a b : Nat} (hi : i.natAbs < 2 ^ a) (hj : j.natAbs < 2 ^ b) (h : a + b ≤ 1000000) (ha : 0 < a := by decide) (hb : 0 < b := by decide) : mulX i j = .ok (i * j) := by
  unfold mulX
  have := log2_of hi ha
  have := log2_of hj hb
  rw [if_pos (.inr (.inr (by omega)))]
theorem fdvX_b {i j : Int} {b : Nat} (h : j ≠ 0) (hj : j.natAbs < 2 ^ b) (hb : b ≤ 9000) (h0 : 0 < b := by decide) : fdvX i j = .ok (i.fdiv j) := by
  unfold fdvX
  have := log2_of hj h0
  rw [if_pos ⟨h, by omega⟩]
theorem modX_b {i j : Int} (h : j ≠ 0) : modX i j = .ok (i.fmod j) := by unfold modX; rw [if_pos h]
theorem powX_b {i j : Int} (h : 0 ≤ j ∧ j ≤ 1000000 ∧ i.natAbs < 2 ^ 64) : powX i j = .ok (i ^ j.toNat) := by unfold powX; rw [if_pos h]
theorem rngX_b {i j : Int} (hi : 0 ≤ i) (hj : j ≤ 1000000) (hi2 : i ≤ 1000000) (hj0 : -1000000 ≤ j) : rngX i j = .ok (rangeL i j) := by
  have := size_ge
  unfold rngX
  rw [if_pos ⟨by omega, by omega, by omega, by omega, by omega⟩]
theorem appX_b {α : Type} {l : List α} {a : α} (h : l.length < 1000000) : appX l a = .ok (l ++ [a]) := by
  have := size_ge
  unfold appX
  rw [if_pos (by omega)]
theorem szX_b {α : Type} {l : List α} (h : l.length ≤ 1000000) : szX l = .ok l := by
  have := size_ge
  unfold szX
  rw [if_pos (by omega)]
theorem atI_n {α : Type} {l : List α} {i : Int} {n : Nat} {a : α} (hi : i = n) (h : l[n]? = some a) : atI l i = some a := by
  subst hi
  exact atI_nat h
theorem getX_b {α : Type} {l : List α} {i : Int} {a : α} (h0 : 0 ≤ i) (h : l[i.toNat]? = some a) : getX l i = .ok a := by
  unfold getX
  rw [atI_n (n := i.toNat) (by omega) h]
theorem getX_ex {α : Type} {l : List α} {i : Int} (h0 : 0 ≤ i) (h : i < l.length) : ∃ a, getX l i = .ok a ∧ a ∈ l ∧ l[i.toNat]? = some a := by
  have h' : i.toNat < l.length := by omega
  exact ⟨l[i.toNat], getX_b h0 (List.getElem?_eq_getElem h'), List.getElem_mem h', List.getElem?_eq_getElem h'⟩
theorem setX_b {α : Type} {l : List α} {i : Int} {a : α} (h0 : 0 ≤ i) (h : i < l.length) : setX l i a = .ok (l.set i.toNat a) := by
  unfold setX
  rw [show ixN l.length i = some i.toNat from by
    unfold ixN
    rw [if_pos h0, if_pos h]]
theorem someX_ok {α : Type} (a : α) : someX (some a) = .ok a := rfl
theorem bind_okI {α β : Type} {m : Xc α} {k : α → Xc β} {a : α} {r : Xc β} (h : m = .ok a) (h2 : k a = r) : m.bind k = r := by rw [h]; exact h2
theorem foldX_inv {γ α : Type} {f : γ → α → Xc γ} (P : γ → Prop) : ∀ {l : List α} {g : γ}, P g → (∀ g a, a ∈ l → P g → ∃ g', f g a = .ok g' ∧ P g') → ∃ g', foldX f l g = .ok g' ∧ P g'
  | [], g, h, _ => ⟨g, rfl, h⟩
  | a :: l, g, h, hs => by
    obtain ⟨g1, e1, h1⟩ := hs g a List.mem_cons_self h
    obtain ⟨g2, e2, h2⟩ := foldX_inv (f := f) P (l := l) h1 fun g a m => hs g a (List.mem_cons_of_mem _ m)
    exact ⟨g2, by show (f g a).bind _ = _; rw [e1]; exact e2, h2⟩
theorem foldX_ix {γ α : Type} {f : γ → α → Xc γ} (P : Nat → γ → Prop) {l : List α} {g : γ} (h : P 0 g) (hs : ∀ i g a, l[i]? = some a → P i g → ∃ g', f g a = .ok g' ∧ P (i + 1) g') : ∃ g', foldX f l g = .ok g' ∧ P l.length g' := by
  have go : ∀ (l' : List α) (k : Nat) (g : γ), (∀ i, l'[i]? = l[k + i]?) → P k g → ∃ g', foldX f l' g = .ok g' ∧ P (k + l'.length) g' := by
    intro l'
    induction l' with
    | nil => intro k g _ h; exact ⟨g, rfl, h⟩
    | cons a l' ih =>
      intro k g he h
      obtain ⟨g1, e1, h1⟩ := hs k g a (by have := he 0; simpa using this.symm) h
      obtain ⟨g2, e2, h2⟩ := ih (k + 1) g1 (fun i => by have := he (i + 1); simp only [List.getElem?_cons_succ] at this; rw [this]; congr 1; omega) h1
      exact ⟨g2, by show (f g a).bind _ = _; rw [e1]; exact e2, by rw [List.length_cons, show k + (l'.length + 1) = k + 1 + l'.length by omega]; exact h2⟩
  obtain ⟨g', e, h'⟩ := go l 0 g (fun i => by rw [Nat.zero_add]) h
  exact ⟨g', e, by simpa using h'⟩
/-- a loop whose turns either go on or return r -/
theorem forX_ct {γ α ρ : Type} {f : γ → α → Xc (Lp γ ρ)} (P : γ → Prop) : ∀ {l : List α} {g : γ}, P g → (∀ g a, a ∈ l → P g → ∃ g', f g a = .ok (.ct g') ∧ P g') → ∃ g', forX f l g = .ok (.inl g') ∧ P g'
  | [], g, h, _ => ⟨g, rfl, h⟩
  | a :: l, g, h, hs => by
    obtain ⟨g1, e1, h1⟩ := hs g a List.mem_cons_self h
    obtain ⟨g2, e2, h2⟩ := forX_ct (f := f) P (l := l) h1 fun g a m => hs g a (List.mem_cons_of_mem _ m)
    exact ⟨g2, by show (f g a).bind _ = _; rw [e1]; exact e2, h2⟩
theorem forX_cons {γ α ρ : Type} {f : γ → α → Xc (Lp γ ρ)} {a : α} {l : List α} {g : γ} : forX f (a :: l) g = (f g a).bind fun t => match t with
    | .ct g' => forX f l g'
    | .bk g' => .ok (.inl g')
    | .rt r => .ok (.inr r) := rfl
theorem forK_inl {γ ρ τ : Type} {g : γ} {rt : ρ → τ} {k : γ → Xc τ} : forK (.ok (.inl g)) rt k = k g := rfl
theorem forK_inr {γ ρ τ : Type} {r : ρ} {rt : ρ → τ} {k : γ → Xc τ} : forK (.ok (.inr r)) rt k = .ok (rt r) := rfl
theorem compX_map {α β : Type} {t : α → Xc Bool} {f : α → Xc β} {h : α → β} : ∀ {l : List α}, (∀ a ∈ l, t a = .ok true ∧ f a = .ok (h a)) → compX t f l = .ok (l.map h)
  | [], _ => rfl
  | a :: l, hs => by
    obtain ⟨h1, h2⟩ := hs a List.mem_cons_self
    have ih := compX_map (t := t) (f := f) (h := h) (l := l) fun a m => hs a (List.mem_cons_of_mem _ m)
    simp only [compX, h1, h2, nx, bind_ok, if_true, ih, List.map_cons]
theorem compX_fil {α : Type} {t : α → Xc Bool} {p : α → Bool} : ∀ {l : List α}, (∀ a ∈ l, t a = .ok (p a)) → compX t (fun a => Xc.ok a) l = .ok (l.filter p)
  | [], _ => rfl
  | a :: l, hs => by
    have h1 := hs a List.mem_cons_self
    have ih := compX_fil (t := t) (p := p) (l := l) fun a m => hs a (List.mem_cons_of_mem _ m)
    simp only [compX, h1, nx, bind_ok, ih, List.filter_cons]
    cases p a <;> simp [bind_ok]
theorem rangeL_mem {lo hi a : Int} (h : a ∈ rangeL lo hi) : lo ≤ a ∧ a < hi := by
  unfold rangeL at h
  obtain ⟨i, hi', rfl⟩ := List.mem_map.mp h
  have := List.mem_range.mp hi'
  omega
end FL

/-! PL2: what a mirror gives, as a wish. -/
namespace FL
open PySem L2
def Ok {α : Type} (m : Xc α) (Q : α → Prop) : Prop := ∃ a, m = .ok a ∧ Q a
theorem ok_ok {α : Type} {a : α} {Q : α → Prop} : Ok (.ok a) Q ↔ Q a := ⟨fun ⟨b, e, h⟩ => by cases e; exact h, fun h => ⟨a, rfl, h⟩⟩
theorem ok_bind {α β : Type} {m : Xc α} {k : α → Xc β} {Q : β → Prop} : Ok (m.bind k) Q ↔ Ok m fun a => Ok (k a) Q := by
  constructor
  · rintro ⟨b, e, h⟩
    obtain ⟨a, e1, e2⟩ := bind_eq_ok.mp e
    exact ⟨a, e1, b, e2, h⟩
  · rintro ⟨a, e1, b, e2, h⟩
    exact ⟨b, by rw [e1]; exact e2, h⟩
theorem Ok.imp {α : Type} {m : Xc α} {Q Q' : α → Prop} (h : Ok m Q) (i : ∀ a, Q a → Q' a) : Ok m Q' := let ⟨a, e, q⟩ := h; ⟨a, e, i a q⟩
theorem Ok.of {α : Type} {m : Xc α} {a : α} {Q : α → Prop} (h : m = .ok a) (q : Q a) : Ok m Q := ⟨a, h, q⟩
theorem ok_of {α : Type} {m : Xc α} {a : α} {Q : α → Prop} (h : m = .ok a) : Ok m Q ↔ Q a := by rw [h, ok_ok]
theorem ok_ite {α : Type} {b : Bool} {A B : Xc α} {Q : α → Prop} : Ok (if b = true then A else B) Q ↔ (b = true → Ok A Q) ∧ (b = false → Ok B Q) := by
  cases b <;> simp
theorem ok_mulr {i j : Int} {Q : Int → Prop} (h : j.natAbs < 2 ^ 64) : Ok (mulX i j) Q ↔ Q (i * j) := ok_of (mulX_r h)
theorem ok_mull {i j : Int} {Q : Int → Prop} (h : i.natAbs < 2 ^ 64) : Ok (mulX i j) Q ↔ Q (i * j) := ok_of (mulX_l h)
theorem ok_mod {i j : Int} {Q : Int → Prop} (h : j ≠ 0) : Ok (modX i j) Q ↔ Q (i.fmod j) := ok_of (modX_b h)
theorem ok_fdv {i j : Int} {Q : Int → Prop} (h : j ≠ 0) (h2 : j.natAbs < 2 ^ 64) : Ok (fdvX i j) Q ↔ Q (i.fdiv j) := ok_of (fdvX_b h h2 (by decide))
theorem ok_pow {i j : Int} {Q : Int → Prop} (h : 0 ≤ j ∧ j ≤ 1000000 ∧ i.natAbs < 2 ^ 64) : Ok (powX i j) Q ↔ Q (i ^ j.toNat) := ok_of (powX_b h)
theorem ok_rng {i j : Int} {Q : List Int → Prop} (h : 0 ≤ i ∧ j ≤ 1000000 ∧ i ≤ 1000000 ∧ -1000000 ≤ j) : Ok (rngX i j) Q ↔ Q (rangeL i j) := ok_of (rngX_b h.1 h.2.1 h.2.2.1 h.2.2.2)
theorem ok_app {α : Type} {l : List α} {a : α} {Q : List α → Prop} (h : l.length < 1000000) : Ok (appX l a) Q ↔ Q (l ++ [a]) := ok_of (appX_b h)
theorem ok_fold {γ α : Type} {f : γ → α → Xc γ} {l : List α} {g : γ} {Q : γ → Prop} (P : γ → Prop) (h : P g) (hs : ∀ g a, a ∈ l → P g → Ok (f g a) P) (hq : ∀ g, P g → Q g) : Ok (foldX f l g) Q := by
  obtain ⟨g', e, p⟩ := foldX_inv (f := f) P h hs
  exact ⟨g', e, hq g' p⟩
theorem ok_foldI {γ α : Type} {f : γ → α → Xc γ} {l : List α} {g : γ} {Q : γ → Prop} (P : Nat → γ → Prop) (h : P 0 g) (hs : ∀ i g a, l[i]? = some a → P i g → Ok (f g a) (P (i + 1))) (hq : ∀ g, P l.length g → Q g) : Ok (foldX f l g) Q := by
  obtain ⟨g', e, p⟩ := foldX_ix (f := f) P h hs
  exact ⟨g', e, hq g' p⟩
theorem len_app {α : Type} {l : List α} {a : α} : (l ++ [a]).length = l.length + 1 := by simp
end FL

/-! QG: greatest common divisors of lists, lowest terms of points. -/
namespace FL
open PySem L2
def gcdL (l : List Int) (s : Int) : Nat := l.foldl (fun g a => Nat.gcd g a.natAbs) s.natAbs
theorem gcdF_dvd : ∀ (l : List Int) (g : Nat), l.foldl (fun g a => Nat.gcd g a.natAbs) g ∣ g ∧ ∀ a ∈ l, l.foldl (fun g a => Nat.gcd g a.natAbs) g ∣ a.natAbs
  | [], g => ⟨Nat.dvd_refl _, fun a m => by cases m⟩
  | x :: l, g => by
    obtain ⟨h1, h2⟩ := gcdF_dvd l (Nat.gcd g x.natAbs)
    refine ⟨Nat.dvd_trans h1 (Nat.gcd_dvd_left _ _), fun a m => ?_⟩
    rcases List.mem_cons.mp m with e | m
    · subst e; exact Nat.dvd_trans h1 (Nat.gcd_dvd_right _ _)
    · exact h2 a m
theorem dvd_gcdF : ∀ (l : List Int) (g d : Nat), d ∣ g → (∀ a ∈ l, d ∣ a.natAbs) → d ∣ l.foldl (fun g a => Nat.gcd g a.natAbs) g
  | [], g, d, h, _ => h
  | x :: l, g, d, h, hs => dvd_gcdF l _ d (Nat.dvd_gcd h (hs x (by simp))) fun a m => hs a (by simp [m])
theorem gcdL_s (l : List Int) (s : Int) : gcdL l s ∣ s.natAbs := (gcdF_dvd l _).1
theorem gcdL_a (l : List Int) (s : Int) {a : Int} (h : a ∈ l) : gcdL l s ∣ a.natAbs := (gcdF_dvd l _).2 a h
theorem dvd_gcdL {l : List Int} {s : Int} {d : Nat} (h : d ∣ s.natAbs) (hs : ∀ a ∈ l, d ∣ a.natAbs) : d ∣ gcdL l s := dvd_gcdF l _ d h hs
theorem gcdL_nil (s : Int) : gcdL [] s = s.natAbs := rfl
theorem gcdL_eq_of {l l' : List Int} {s s' : Int} (h : ∀ d : Nat, (d ∣ s.natAbs ∧ ∀ a ∈ l, d ∣ a.natAbs) ↔ (d ∣ s'.natAbs ∧ ∀ a ∈ l', d ∣ a.natAbs)) : gcdL l s = gcdL l' s' := by
  apply Nat.dvd_antisymm
  · have := (h (gcdL l s)).mp ⟨gcdL_s _ _, fun a m => gcdL_a _ _ m⟩
    exact dvd_gcdL this.1 this.2
  · have := (h (gcdL l' s')).mpr ⟨gcdL_s _ _, fun a m => gcdL_a _ _ m⟩
    exact dvd_gcdL this.1 this.2
theorem gcdF_mul (c : Int) : ∀ (l : List Int) (g : Nat), (l.map (c * ·)).foldl (fun g a => Nat.gcd g a.natAbs) (c.natAbs * g) = c.natAbs * l.foldl (fun g a => Nat.gcd g a.natAbs) g
  | [], g => rfl
  | x :: l, g => by
    simp only [List.map_cons, List.foldl_cons]
    rw [Int.natAbs_mul, Nat.gcd_mul_left]
    exact gcdF_mul c l _
theorem gcdL_mul (c : Int) (l : List Int) (s : Int) : gcdL (l.map (c * ·)) (c * s) = c.natAbs * gcdL l s := by
  unfold gcdL
  rw [Int.natAbs_mul]
  exact gcdF_mul c l _
theorem gcdL_le {l : List Int} {s : Int} (h : s ≠ 0) : gcdL l s ≤ s.natAbs ∧ 0 < gcdL l s := by
  have h1 : 0 < s.natAbs := by omega
  exact ⟨Nat.le_of_dvd h1 (gcdL_s l s), Nat.pos_of_dvd_of_pos (gcdL_s l s) h1⟩
/-- the divisor of lowest terms, with the sign of the bottom -/
def sgd (l : List Int) (b : Int) : Int := if b < 0 then -(gcdL l b : Int) else (gcdL l b : Int)
def pt (l : List Int) (b : Int) : Tu Int × Int := (tu (l.map fun t => t.fdiv (sgd l b)), b.fdiv (sgd l b))
structure Low (p : Tu Int × Int) : Prop where
  pos : 1 ≤ p.2
  cop : gcdL (Tu.l p.1) p.2 = 1
theorem sgd_ne {l : List Int} {b : Int} (h : b ≠ 0) : sgd l b ≠ 0 := by
  have := (gcdL_le (l := l) h).2
  unfold sgd
  split <;> omega
theorem sgd_abs (l : List Int) (b : Int) : (sgd l b).natAbs = gcdL l b := by
  unfold sgd
  split <;> omega
theorem pt_of_mul {c y : Int} {xs : List Int} (hc : c ≠ 0) (hy : 1 ≤ y) (h1 : gcdL xs y = 1) : pt (xs.map (c * ·)) (c * y) = (tu xs, y) := by
  have e : sgd (xs.map (c * ·)) (c * y) = c := by
    unfold sgd
    rw [gcdL_mul, h1]
    by_cases hn : c < 0
    · rw [if_pos (Int.mul_neg_of_neg_of_pos hn (by omega))]; omega
    · rw [if_neg (by have := Int.mul_nonneg (show 0 ≤ c by omega) (show 0 ≤ y by omega); omega)]; omega
  unfold pt
  rw [e, Int.mul_fdiv_cancel_left _ hc, List.map_map]
  congr 1
  show tu (xs.map _) = tu xs
  congr 1
  conv => rhs; rw [← List.map_id xs]
  apply List.map_congr_left
  intro x _
  show (c * x).fdiv c = x
  rw [Int.mul_fdiv_cancel_left _ hc]
theorem pt_split {l : List Int} {b : Int} (hb : b ≠ 0) : ∃ (c : Int) (xs : List Int) (y : Int), c ≠ 0 ∧ l = xs.map (c * ·) ∧ b = c * y ∧ 1 ≤ y ∧ gcdL xs y = 1 ∧ pt l b = (tu xs, y) := by
  have hc := sgd_ne (l := l) hb
  have ha := sgd_abs l b
  have hdb : sgd l b ∣ b := Int.natAbs_dvd_natAbs.mp (by rw [ha]; exact gcdL_s l b)
  have hda : ∀ a ∈ l, sgd l b ∣ a := fun a m => Int.natAbs_dvd_natAbs.mp (by rw [ha]; exact gcdL_a l b m)
  have el : l = (l.map fun t => t.fdiv (sgd l b)).map (sgd l b * ·) := by
    rw [List.map_map]
    conv => lhs; rw [← List.map_id l]
    apply List.map_congr_left
    intro x m
    obtain ⟨z, hz⟩ := hda x m
    show x = sgd l b * x.fdiv (sgd l b)
    rw [hz, Int.mul_fdiv_cancel_left _ hc]
  have eb : b = sgd l b * b.fdiv (sgd l b) := by
    obtain ⟨z, hz⟩ := hdb
    generalize sgd l b = c at *
    rw [hz, Int.mul_fdiv_cancel_left _ hc]
  have pos : 1 ≤ b.fdiv (sgd l b) := by
    obtain ⟨z, hz⟩ := hdb
    have hs : 0 < sgd l b ↔ 0 < b := by
      have := (gcdL_le (l := l) hb).2
      unfold sgd
      split <;> omega
    generalize sgd l b = c at *
    subst hz
    rw [Int.mul_fdiv_cancel_left _ hc]
    by_cases hcp : 0 < c
    · have h1 := hs.mp hcp
      by_cases q : 0 < z
      · exact q
      · have h2 := Int.mul_le_mul_of_nonneg_left (show z ≤ 0 by omega) (show 0 ≤ c by omega)
        rw [Int.mul_zero] at h2
        omega
    · have h1 : ¬ 0 < c * z := fun q => hcp (hs.mpr q)
      have h2 : c < 0 := by omega
      have hz0 : z ≠ 0 := fun q => hb (by rw [q, Int.mul_zero])
      by_cases q : 0 < z
      · exact q
      · have := Int.mul_pos_of_neg_of_neg h2 (show z < 0 by omega)
        omega
  refine ⟨sgd l b, l.map fun t => t.fdiv (sgd l b), b.fdiv (sgd l b), hc, el, eb, pos, ?_, rfl⟩
  have hg := gcdL_mul (sgd l b) (l.map fun t => t.fdiv (sgd l b)) (b.fdiv (sgd l b))
  rw [← el, ← eb, ha] at hg
  have h0 := (gcdL_le (l := l) hb).2
  exact (Nat.eq_of_mul_eq_mul_left h0 (by rw [Nat.mul_one]; exact hg)).symm
theorem pt_lp {l : List Int} {b : Int} (hb : b ≠ 0) : Low (pt l b) := by
  obtain ⟨c, xs, y, _, _, _, h1, h2, e⟩ := pt_split (l := l) hb
  rw [e]
  exact ⟨h1, h2⟩
theorem cross_dvd {xs xs' : List Int} {y y' : Int} (h1 : gcdL xs y = 1) (h : xs.map (· * y') = xs'.map (· * y)) : y.natAbs ∣ y'.natAbs := by
  have e : gcdL (xs.map (y' * ·)) (y' * y) = y'.natAbs := by rw [gcdL_mul, h1, Nat.mul_one]
  rw [← e]
  refine dvd_gcdL ⟨y'.natAbs, by rw [Int.natAbs_mul, Nat.mul_comm]⟩ fun a m => ?_
  have e2 : xs.map (y' * ·) = xs'.map (· * y) := by
    rw [← h]
    exact List.map_congr_left fun x _ => Int.mul_comm _ _
  rw [e2] at m
  obtain ⟨z, _, rfl⟩ := List.mem_map.mp m
  exact ⟨z.natAbs, by rw [Int.natAbs_mul, Nat.mul_comm]⟩
theorem cross_pt {xs xs' : List Int} {y y' : Int} (hy : 1 ≤ y) (hy' : 1 ≤ y') (h1 : gcdL xs y = 1) (h2 : gcdL xs' y' = 1) (h : xs.map (· * y') = xs'.map (· * y)) : xs = xs' ∧ y = y' := by
  have d1 := cross_dvd h1 h
  have d2 := cross_dvd h2 h.symm
  have e : y = y' := by have := Nat.dvd_antisymm d1 d2; omega
  subst e
  refine ⟨?_, rfl⟩
  exact (List.map_inj_right fun a b q => Int.eq_of_mul_eq_mul_right (show y ≠ 0 by omega) q).mp h
theorem pt_eq {l l' : List Int} {b b' : Int} (hb : b ≠ 0) (hb' : b' ≠ 0) (h : l.map (· * b') = l'.map (· * b)) : pt l b = pt l' b' := by
  obtain ⟨c, xs, y, hc, hl, hbe, hy, hg, e⟩ := pt_split (l := l) hb
  obtain ⟨c', xs', y', hc', hl', hbe', hy', hg', e'⟩ := pt_split (l := l') hb'
  rw [e, e']
  have hx : xs.map (· * y') = xs'.map (· * y) := by
    subst hl hl' hbe hbe'
    simp only [List.map_map] at h
    refine (List.map_inj_right (f := fun z : Int => (c * c') * z) fun a b q => Int.eq_of_mul_eq_mul_left (Int.mul_ne_zero hc hc') q).mp ?_
    simp only [List.map_map]
    refine Eq.trans (List.map_congr_left fun a _ => ?_) (h.trans (List.map_congr_left fun a _ => ?_))
    · show c * c' * (a * y') = c * a * (c' * y'); grind
    · show c' * a * (c * y) = c * c' * (a * y); grind
  obtain ⟨h1, h2⟩ := cross_pt hy hy' hg hg' hx
  rw [h1, h2]
theorem pt_red {p : Tu Int × Int} (h : Low p) : pt (Tu.l p.1) p.2 = p := by
  have := pt_of_mul (c := 1) (xs := Tu.l p.1) (by decide) h.pos h.cop
  simp only [Int.one_mul, List.map_id'] at this
  exact this
/-- what the coordinates are -/
theorem pt_len (l : List Int) (b : Int) : (Tu.l (pt l b).1).length = l.length := by
  show (l.map _).length = _
  rw [List.length_map]
theorem pt_cross {l : List Int} {b : Int} (hb : b ≠ 0) : (Tu.l (pt l b).1).map (· * b) = l.map (· * (pt l b).2) := by
  obtain ⟨c, xs, y, hc, hl, hbe, hy, hg, e⟩ := pt_split (l := l) hb
  rw [e]
  subst hl hbe
  rw [List.map_map]
  exact List.map_congr_left fun a _ => by show a * (c * y) = c * a * y; grind
theorem pt_cross_at {l : List Int} {b : Int} (hb : b ≠ 0) {i : Nat} {x t : Int} (hx : (Tu.l (pt l b).1)[i]? = some x) (ht : l[i]? = some t) : x * b = t * (pt l b).2 := by
  have h := congrArg (fun l => l[i]?) (pt_cross (l := l) hb)
  simp only [List.getElem?_map, hx, ht, Option.map_some] at h
  exact Option.some.inj h
theorem pt_le {l : List Int} {b : Int} (hb : b ≠ 0) : (pt l b).2.natAbs ≤ b.natAbs ∧ ∀ x ∈ Tu.l (pt l b).1, ∃ t ∈ l, x.natAbs ≤ t.natAbs := by
  obtain ⟨c, xs, y, hc, hl, hbe, hy, hg, e⟩ := pt_split (l := l) hb
  rw [e]
  subst hl hbe
  refine ⟨by rw [Int.natAbs_mul]; exact Nat.le_mul_of_pos_left _ (by omega), fun x m => ⟨c * x, List.mem_map.mpr ⟨x, m, rfl⟩, ?_⟩⟩
  rw [Int.natAbs_mul]; exact Nat.le_mul_of_pos_left _ (by omega)
end FL

/-! QB: sizes of ints, found as instances. -/
namespace FL
open PySem L2
class Bd (n : outParam Nat) (i : Int) : Prop where
  lt : i.natAbs < 2 ^ n
theorem two_mono {a b : Nat} (h : a ≤ b) : 2 ^ a ≤ 2 ^ b := Nat.pow_le_pow_right (by decide) h
theorem Bd.mono {m n : Nat} {i : Int} (h : Bd m i) (l : m ≤ n) : Bd n i := ⟨Nat.lt_of_lt_of_le h.lt (two_mono l)⟩
instance bd_mul {m n : Nat} {i j : Int} [h : Bd m i] [k : Bd n j] : Bd (m + n) (i * j) := ⟨by rw [Int.natAbs_mul, Nat.pow_add]; exact Nat.mul_lt_mul'' h.lt k.lt⟩
theorem bd_sum {m n : Nat} {i j s : Int} (h : Bd m i) (k : Bd n j) (hs : s.natAbs ≤ i.natAbs + j.natAbs) : Bd (m + n + 1) s := ⟨by
  have h1 := Nat.lt_of_lt_of_le h.lt (two_mono (Nat.le_add_right m n))
  have h2 := Nat.lt_of_lt_of_le k.lt (two_mono (Nat.le_add_left n m))
  rw [Nat.pow_succ]
  omega⟩
theorem bd_sumx {m n : Nat} {i j s : Int} (h : Bd m i) (k : Bd n j) (hs : s.natAbs ≤ i.natAbs + j.natAbs) : Bd (max m n + 1) s := ⟨by
  have h1 := Nat.lt_of_lt_of_le h.lt (two_mono (Nat.le_max_left m n))
  have h2 := Nat.lt_of_lt_of_le k.lt (two_mono (Nat.le_max_right m n))
  rw [Nat.pow_succ]
  omega⟩
instance bd_add {m n : Nat} {i j : Int} [h : Bd m i] [k : Bd n j] : Bd (max m n + 1) (i + j) := bd_sumx h k (by omega)
instance bd_sub {m n : Nat} {i j : Int} [h : Bd m i] [k : Bd n j] : Bd (max m n + 1) (i - j) := bd_sumx h k (by omega)
instance bd_neg {m : Nat} {i : Int} [h : Bd m i] : Bd m (-i) := ⟨by rw [Int.natAbs_neg]; exact h.lt⟩
instance bd_lit {n : Nat} : Bd (n.log2 + 1) (no_index (OfNat.ofNat n) : Int) := ⟨by show n < _; exact Nat.lt_log2_self⟩
theorem fdiv_leP (x c : Int) (hp : 0 < c) : (x.fdiv c).natAbs ≤ x.natAbs := by
  have h1 := Int.mul_fdiv_add_fmod x c
  generalize hq : x.fdiv c = q at *
  have a1 := Int.fmod_nonneg_of_pos x hp
  have a2 := Int.fmod_lt_of_pos x hp
  generalize x.fmod c = r at *
  by_cases q0 : 0 ≤ q
  · have := Int.mul_le_mul_of_nonneg_right (show 1 ≤ c by omega) q0
    omega
  · have := Int.mul_le_mul_of_nonneg_right (show 1 ≤ c by omega) (show 0 ≤ -q - 1 by omega)
    have e : c * (-q - 1) = -(c * q) - c := by grind
    omega
theorem fdiv_le (x c : Int) : (x.fdiv c).natAbs ≤ x.natAbs := by
  by_cases hc : c = 0
  · subst hc; simp
  · by_cases hp : 0 < c
    · exact fdiv_leP x c hp
    · have := fdiv_leP (-x) (-c) (by omega)
      rw [Int.neg_fdiv_neg, Int.natAbs_neg] at this
      exact this
instance bd_fdiv {m : Nat} {i c : Int} [h : Bd m i] : Bd m (i.fdiv c) := ⟨Nat.lt_of_le_of_lt (fdiv_le i c) h.lt⟩
theorem bd_range {i : Int} {n : Nat} (h : -(n : Int) ≤ i ∧ i ≤ n) : Bd (n.log2 + 1) i := ⟨by have := @Nat.lt_log2_self n; omega⟩
theorem mulX_bd {m n : Nat} {i j : Int} [hi : Bd m i] [hj : Bd n j] (h : m + n ≤ 999998) : mulX i j = .ok (i * j) :=
  mulX_b (a := m + 1) (b := n + 1) (hi.mono (by omega)).lt (hj.mono (by omega)).lt (by omega) (by omega) (by omega)
theorem fdvX_bd {n : Nat} {i j : Int} [hj : Bd n j] (hn : n ≤ 8999) (h0 : j ≠ 0) : fdvX i j = .ok (i.fdiv j) :=
  fdvX_b (b := n + 1) h0 (hj.mono (by omega)).lt (by omega) (by omega)
class BdL (n : outParam Nat) (l : List Int) : Prop where
  all : ∀ a ∈ l, Bd n a
theorem BdL.mono {m n : Nat} {l : List Int} (h : BdL m l) (z : m ≤ n) : BdL n l := ⟨fun a q => (h.all a q).mono z⟩
theorem bd_pt {m : Nat} {l : List Int} {b : Int} (h : Bd m b) : Bd m (pt l b).2 := ⟨Nat.lt_of_le_of_lt (fdiv_le _ _) h.lt⟩
theorem bdl_pt {m : Nat} {l : List Int} {b : Int} (h : BdL m l) : BdL m (Tu.l (pt l b).1) := ⟨fun a q => by
  obtain ⟨t, ht, rfl⟩ := List.mem_map.mp (show a ∈ l.map _ from q)
  exact ⟨Nat.lt_of_le_of_lt (fdiv_le _ _) (h.all t ht).lt⟩⟩
/-! slices -/
theorem cutL_init {α : Type} (l : List α) : cutL l none (some (-1)) = l.dropLast := by
  unfold cutL
  have e : HT.sIx l.length l.length (some (-1)) = l.length - 1 := by
    unfold HT.sIx
    simp
    omega
  rw [e, HT.sIx_none, List.drop_zero, List.dropLast_eq_take]
  rfl
theorem cutL_take {α : Type} (l : List α) {k : Int} (h : 0 ≤ k) : cutL l none (some k) = l.take k.toNat := by
  obtain ⟨n, rfl⟩ := Int.eq_ofNat_of_zero_le h
  unfold cutL
  rw [HT.sIx_nat, HT.sIx_none, List.drop_zero, Nat.sub_zero, Int.toNat_natCast]
  by_cases z : n ≤ l.length
  · rw [Nat.min_eq_left z]
  · rw [Nat.min_eq_right (by omega), List.take_of_length_le (Nat.le_refl _), List.take_of_length_le (by omega)]
theorem cutL_drop {α : Type} (l : List α) {k : Int} (h : 0 ≤ k) : cutL l (some k) none = l.drop k.toNat := by
  obtain ⟨n, rfl⟩ := Int.eq_ofNat_of_zero_le h
  unfold cutL
  rw [HT.sIx_nat, HT.sIx_none, Int.toNat_natCast, List.take_of_length_le (by rw [List.length_drop]; omega)]
  by_cases z : n ≤ l.length
  · rw [Nat.min_eq_left z]
  · rw [Nat.min_eq_right (by omega), List.drop_of_length_le (Nat.le_refl _), List.drop_of_length_le (by omega)]
theorem cutL_mid {α : Type} (l : List α) {k m : Int} (h : 0 ≤ k) (h2 : 0 ≤ m) : cutL l (some k) (some m) = (l.take m.toNat).drop k.toNat := by
  obtain ⟨n, rfl⟩ := Int.eq_ofNat_of_zero_le h
  obtain ⟨p, rfl⟩ := Int.eq_ofNat_of_zero_le h2
  unfold cutL
  rw [HT.sIx_nat, HT.sIx_nat, Int.toNat_natCast, Int.toNat_natCast]
  rw [List.drop_take]
  by_cases z : n ≤ l.length
  · rw [Nat.min_eq_left z]
    by_cases y : p ≤ l.length
    · rw [Nat.min_eq_left y]
    · rw [Nat.min_eq_right (by omega), List.take_of_length_le (by rw [List.length_drop]; omega), List.take_of_length_le (by rw [List.length_drop]; omega)]
  · rw [Nat.min_eq_right (show l.length ≤ n by omega), List.drop_of_length_le (Nat.le_refl _), List.drop_of_length_le (show l.length ≤ n by omega)]
    simp
theorem cutL_tail {α : Type} (l : List α) {k : Int} (h : 0 ≤ k) : cutL l (some k) (some (-1)) = l.dropLast.drop k.toNat := by
  obtain ⟨n, rfl⟩ := Int.eq_ofNat_of_zero_le h
  unfold cutL
  have e : HT.sIx l.length l.length (some (-1)) = l.length - 1 := by
    unfold HT.sIx
    simp
    omega
  rw [e, HT.sIx_nat, Int.toNat_natCast, List.dropLast_eq_take, List.drop_take]
  by_cases z : n ≤ l.length
  · rw [Nat.min_eq_left z]
  · rw [Nat.min_eq_right (by omega), List.drop_of_length_le (Nat.le_refl _), List.drop_of_length_le (by omega)]
    simp
theorem getX_last {α : Type} {l : List α} {a : α} : getX (l ++ [a]) (-1) = .ok a := by
  unfold getX atI
  have : ixN (l ++ [a]).length (-1) = some l.length := by
    unfold ixN
    simp
    omega
  rw [this]
  simp
end FL

/-! QC: comprehensions over a range, cross multiplied lists. -/
namespace FL
open PySem L2
theorem compX_of {α β : Type} {t : α → Xc Bool} {f : α → Xc β} (ht : ∀ a, t a = .ok true) : ∀ {l : List α} {r : List β}, l.length = r.length → (∀ (i : Nat) (a : α) (b : β), l[i]? = some a → r[i]? = some b → f a = .ok b) → compX t f l = .ok r
  | [], [], _, _ => rfl
  | [], _ :: _, h, _ => by simp at h
  | _ :: _, [], h, _ => by simp at h
  | a :: l, b :: r, hl, h => by
    have h1 := h 0 a b rfl rfl
    have ih := compX_of (t := t) (f := f) ht (l := l) (r := r) (by simpa using hl) fun i a b ha hb => h (i + 1) a b (by simpa using ha) (by simpa using hb)
    simp only [compX, ht, h1, nx, bind_ok', if_true, ih]
theorem rangeL_nat {n : Nat} {i : Nat} {a : Int} (h : (rangeL 0 (n : Int))[i]? = some a) : a = (i : Int) ∧ i < n := by
  obtain ⟨h1, h2⟩ := rangeL_get h
  omega
theorem comp_range {β : Type} {t : Int → Xc Bool} {f : Int → Xc β} {n : Int} {r : List β} (ht : ∀ a, t a = .ok true) (hr : (r.length : Int) = n) (h : ∀ (k : Nat) b, r[k]? = some b → f (k : Int) = .ok b) : compX t f (rangeL 0 n) = .ok r := by
  subst hr
  refine compX_of ht (by rw [rangeL_len]; omega) fun i a b ha hb => ?_
  obtain ⟨rfl, _⟩ := rangeL_nat ha
  exact h i b hb
theorem getX_nat {α : Type} {l : List α} {k : Nat} {a : α} (h : l[k]? = some a) : getX l (k : Int) = .ok a := getX_b (by omega) (by rw [Int.toNat_natCast]; exact h)
theorem getX_app {α : Type} {l l' : List α} {k : Nat} {a : α} (h : l[k]? = some a) : getX (l ++ l') (k : Int) = .ok a := getX_nat (by
  have := List.getElem?_eq_some_iff.mp h
  rw [List.getElem?_append_left this.1]; exact h)
/-! cross multiplied -/
theorem map_cross {xs l : List Int} {b y : Int} (h : xs.map (· * b) = l.map (· * y)) {f g : Int → Int} (c : Int → Int) (hf : ∀ a, f a = c (a * b)) (hg : ∀ t, g t = c (t * y)) : xs.map f = l.map g := by
  have := congrArg (List.map c) h
  rw [List.map_map, List.map_map] at this
  rw [show f = c ∘ (· * b) from funext hf, show g = c ∘ (· * y) from funext hg]
  exact this
theorem zip_cross {xs l xs' l' : List Int} {b y b' y' : Int} (h : xs.map (· * b) = l.map (· * y)) (h' : xs'.map (· * b') = l'.map (· * y')) {f g : Int → Int → Int} (c : Int → Int → Int) (hf : ∀ a a', f a a' = c (a * b) (a' * b')) (hg : ∀ t t', g t t' = c (t * y) (t' * y')) :
    List.zipWith f xs xs' = List.zipWith g l l' := by
  have e1 : List.zipWith f xs xs' = List.zipWith c (xs.map (· * b)) (xs'.map (· * b')) := by
    rw [List.zipWith_map]
    congr 1
    funext a a'
    exact hf a a'
  have e2 : List.zipWith g l l' = List.zipWith c (l.map (· * y)) (l'.map (· * y')) := by
    rw [List.zipWith_map]
    congr 1
    funext a a'
    exact hg a a'
  rw [e1, e2, h, h']
theorem Bd.ok {n m : Nat} {i : Int} (h : Bd n i) (z : n ≤ m := by decide) : Bd m i := h.mono z
theorem zip_map {α β γ : Type} (f : α × β → γ) (l : List α) (m : List β) : (l.zip m).map f = List.zipWith (fun a b => f (a, b)) l m := by
  rw [List.zip, List.map_zipWith]
/-- the first part of a chain -/
theorem okB {α β : Type} {m : Xc α} {k : α → Xc β} {r : Xc β} (a : α) (h : m = .ok a) (h2 : k a = r) : m.bind k = r := by rw [h]; exact h2
/-! loops: what follows them -/
theorem forK_ct {γ α ρ τ : Type} {f : γ → α → Xc (Lp γ ρ)} {l : List α} {g : γ} {rt : ρ → τ} {k : γ → Xc τ} {r : Xc τ} (P : γ → Prop) (h : P g) (hs : ∀ g a, a ∈ l → P g → ∃ g', f g a = .ok (.ct g') ∧ P g') (hk : ∀ g, P g → k g = r) : forK (forX f l g) rt k = r := by
  obtain ⟨g', e, p⟩ := forX_ct (f := f) P h hs
  rw [e, forK_inl]
  exact hk g' p
theorem foldK {γ α τ : Type} {f : γ → α → Xc γ} {l : List α} {g : γ} {k : γ → Xc τ} {r : Xc τ} (P : γ → Prop) (h : P g) (hs : ∀ g a, a ∈ l → P g → ∃ g', f g a = .ok g' ∧ P g') (hk : ∀ g, P g → k g = r) : (foldX f l g).bind k = r := by
  obtain ⟨g', e, p⟩ := foldX_inv (f := f) P h hs
  rw [e, bind_ok']
  exact hk g' p
theorem foldKi {γ α τ : Type} {f : γ → α → Xc γ} {l : List α} {g : γ} {k : γ → Xc τ} {r : Xc τ} (P : Nat → γ → Prop) (h : P 0 g) (hs : ∀ (i : Nat) g a, l[i]? = some a → P i g → ∃ g', f g a = .ok g' ∧ P (i + 1) g') (hk : ∀ g, P l.length g → k g = r) : (foldX f l g).bind k = r := by
  obtain ⟨g', e, p⟩ := foldX_ix (f := f) P h hs
  rw [e, bind_ok']
  exact hk g' p
/-- a loop's state that does not change -/
theorem forK_id {γ α ρ τ : Type} {f : γ → α → Xc (Lp γ ρ)} {l : List α} {g : γ} {rt : ρ → τ} {k : γ → Xc τ} {r : Xc τ} (hs : ∀ a, a ∈ l → f g a = .ok (.ct g)) (hk : k g = r) : forK (forX f l g) rt k = r :=
  forK_ct (fun g' => g' = g) rfl (fun g' a m e => ⟨g, by rw [e]; exact hs a m, rfl⟩) fun g' e => by rw [e]; exact hk
end FL
namespace FL
open PySem L2
theorem bd_up {n m : Nat} {i : Int} [h : Bd n i] (z : n ≤ m := by decide) : Bd m i := h.mono z
theorem comp_list {α β : Type} {t : α → Xc Bool} {f : α → Xc β} {h : α → β} {l : List α} (ht : ∀ a, t a = .ok true) (hf : ∀ a ∈ l, f a = .ok (h a)) : compX t f l = .ok (l.map h) := compX_map fun a m => ⟨ht a, hf a m⟩
theorem comp_at1 {α β : Type} {t : Int → Xc Bool} {g : α → Xc β} {h : α → β} {l l' : List α} {n : Int} (ht : ∀ a, t a = .ok true) (hn : (l.length : Int) = n) (hg : ∀ x ∈ l, g x = .ok (h x)) : compX t (fun a => (getX (l ++ l') a).bind g) (rangeL 0 n) = .ok (l.map h) := by
  refine comp_range ht (by rw [List.length_map]; exact hn) fun k b hb => ?_
  rw [List.getElem?_map] at hb
  cases e : l[k]? with
  | none => rw [e] at hb; cases hb
  | some x =>
    rw [e] at hb
    cases hb
    rw [getX_app e, bind_ok']
    exact hg x (List.mem_of_getElem? e)
theorem comp_at2 {α δ β : Type} {t : Int → Xc Bool} {f : Int → Xc β} {h : α → δ → β} {l l' : List α} {m m' : List δ} {n : Int} (ht : ∀ a, t a = .ok true) (hn : (l.length : Int) = n) (hm : m.length = l.length) (hf : ∀ (k : Int) x y, x ∈ l → y ∈ m → getX (l ++ l') k = .ok x → getX (m ++ m') k = .ok y → f k = .ok (h x y)) :
    compX t f (rangeL 0 n) = .ok (List.zipWith h l m) := by
  refine comp_range ht (by rw [List.length_zipWith]; omega) fun k b hb => ?_
  rw [List.getElem?_zipWith] at hb
  cases e : l[k]? with
  | none => rw [e] at hb; simp at hb
  | some x =>
    cases e2 : m[k]? with
    | none => rw [e, e2] at hb; simp at hb
    | some y =>
      rw [e, e2] at hb
      simp at hb
      subst hb
      exact hf k x y (List.mem_of_getElem? e) (List.mem_of_getElem? e2) (getX_app e) (getX_app e2)
theorem mulX_all {n m : Nat} {l : List Int} {b : Int} (hl : BdL n l) (hb : Bd m b) (h : n + m ≤ 999998) : ∀ x ∈ l, mulX x b = .ok (x * b) := fun x q => by
  have := hl.all x q
  exact mulX_bd h
theorem catL_ok {α : Type} {l m : List α} (h : l.length + m.length ≤ 1000000) : catL l m = .ok (l ++ m) := by
  have := size_ge
  unfold catL
  rw [if_pos (by omega)]
theorem bdl_map {n m : Nat} {l : List Int} {f : Int → Int} (h : BdL n l) (hf : ∀ x, Bd n x → Bd m (f x)) : BdL m (l.map f) := ⟨fun a q => by
  obtain ⟨x, mx, rfl⟩ := List.mem_map.mp q
  exact hf x (h.all x mx)⟩
theorem bdl_app {n : Nat} {l m : List Int} (h : BdL n l) (k : BdL n m) : BdL n (l ++ m) := ⟨fun a q => (List.mem_append.mp q).elim (h.all a) (k.all a)⟩
theorem bdl_zip {n m p : Nat} {l k : List Int} {f : Int → Int → Int} (h : BdL n l) (h' : BdL m k) (hf : ∀ x y, Bd n x → Bd m y → Bd p (f x y)) : BdL p (List.zipWith f l k) := ⟨fun a q => by
  rw [← List.map_uncurry_zip_eq_zipWith] at q
  obtain ⟨⟨x, y⟩, mx, rfl⟩ := List.mem_map.mp q
  exact hf x y (h.all x (List.of_mem_zip mx).1) (h'.all y (List.of_mem_zip mx).2)⟩
end FL

/-! QD: data: no deeper than k; == of alike data. -/
namespace FL
open PySem L2
class Flat (α : Type) [Rp α] [ToD α] (k : outParam Nat) : Prop where
  lay : ∀ a : α, PyData.canLay0 (ToD.d a) = true
  dep : ∀ a : α, PyData.depth (ToD.d a) ≤ k
instance : Flat Int 0 := ⟨fun _ => rfl, fun _ => Nat.le_refl _⟩
instance : Flat Bool 0 := ⟨fun _ => rfl, fun _ => Nat.le_refl _⟩
instance : Flat Unit 0 := ⟨fun _ => rfl, fun _ => Nat.le_refl _⟩
section
variable {α β : Type} [Rp α] [Rp β] [ToD α] [ToD β] {k j : Nat}
theorem lay_all [F : Flat α k] : ∀ l : List α, PyData.canLayAll0 (l.map ToD.d) = true
  | [] => by simp [PyData.canLayAll0]
  | a :: l => by
    show PyData.canLayAll0 (ToD.d a :: l.map ToD.d) = true
    simp only [PyData.canLayAll0, F.lay a, lay_all l, Bool.and_self]
theorem dep_all [F : Flat α k] : ∀ l : List α, PyData.depthAll (l.map ToD.d) ≤ k
  | [] => by simp [PyData.depthAll]
  | a :: l => by
    have h1 := F.dep a
    have h2 := dep_all l
    show PyData.depthAll (ToD.d a :: l.map ToD.d) ≤ k
    simp only [PyData.depthAll]
    omega
instance [F : Flat α k] : Flat (Option α) k := ⟨fun a => by cases a with
  | none => rfl
  | some a => exact F.lay a, fun a => by cases a with
  | none => exact Nat.zero_le _
  | some a => exact F.dep a⟩
instance [F : Flat α k] : Flat (List α) (k + 1) := ⟨fun l => by
  show PyData.canLay0 (.list (l.map ToD.d)) = true
  simp only [PyData.canLay0, lay_all], fun l => by
  show PyData.depth (.list (l.map ToD.d)) ≤ _
  have := dep_all l
  simp only [PyData.depth]
  omega⟩
instance [F : Flat α k] : Flat (Tu α) (k + 1) := ⟨fun l => by
  show PyData.canLay0 (.tuple (l.l.map ToD.d)) = true
  simp only [PyData.canLay0, lay_all], fun l => by
  show PyData.depth (.tuple (l.l.map ToD.d)) ≤ _
  have := dep_all l.l
  simp only [PyData.depth]
  omega⟩
instance [F : Flat α k] [E : Flat β j] : Flat (α × β) (max k j + 1) := ⟨fun t => by
  show PyData.canLay0 (.tuple [ToD.d t.1, ToD.d t.2]) = true
  simp only [PyData.canLay0, PyData.canLayAll0, F.lay, E.lay, Bool.and_self], fun t => by
  show PyData.depth (.tuple [ToD.d t.1, ToD.d t.2]) ≤ _
  have h1 := F.dep t.1
  have h2 := E.dep t.2
  simp only [PyData.depth, PyData.depthAll]
  omega⟩
theorem shaped_of [F : Flat α k] (h : k ≤ 64 := by decide) (a : α) : SeqAt.shaped (ToD.d a) = true := by
  unfold SeqAt.shaped
  have := F.dep a
  rw [F.lay a, decide_eq_true (by omega)]
  rfl
theorem datX_ok [F : Flat α k] (h : k ≤ 64 := by decide) (a : α) : datX a = .ok (ToD.d a) := by
  unfold datX
  rw [if_pos (shaped_of h a)]
end
/-- == of alike data tells equality -/
class EqD (α : Type) [Rp α] [ToD α] : Prop where
  eq : ∀ a b : α, PyData.eqv (ToD.d a) (ToD.d b) = true ↔ a = b
instance : EqD Int := ⟨fun a b => by show (a == b) = true ↔ _; simp⟩
instance : EqD Bool := ⟨fun a b => by show (a == b) = true ↔ _; simp⟩
instance : EqD Unit := ⟨fun a b => ⟨fun _ => rfl, fun _ => rfl⟩⟩
instance : EqD Str := ⟨fun a b => by show (a == b) = true ↔ _; simp⟩
section
variable {α β : Type} [Rp α] [Rp β] [ToD α] [ToD β] {k j : Nat}
theorem eq_all [E : EqD α] : ∀ l m : List α, PyData.eqvAll (l.map ToD.d) (m.map ToD.d) = true ↔ l = m
  | [], [] => by simp [PyData.eqvAll]
  | [], b :: m => by simp [PyData.eqvAll]
  | a :: l, [] => by simp [PyData.eqvAll]
  | a :: l, b :: m => by
    show PyData.eqvAll (ToD.d a :: l.map ToD.d) (ToD.d b :: m.map ToD.d) = true ↔ _
    simp only [PyData.eqvAll, Bool.and_eq_true, E.eq, eq_all l m, List.cons.injEq]
instance [E : EqD α] : EqD (List α) := ⟨fun a b => eq_all a b⟩
instance [E : EqD α] : EqD (Tu α) := ⟨fun a b => eq_all a.l b.l⟩
instance [E : EqD α] [E' : EqD β] : EqD (α × β) := ⟨fun a b => by
  show PyData.eqvAll [ToD.d a.1, ToD.d a.2] [ToD.d b.1, ToD.d b.2] = true ↔ _
  simp only [PyData.eqvAll, Bool.and_eq_true, E.eq, E'.eq, and_true]
  constructor
  · rintro ⟨h1, h2⟩; exact Prod.ext h1 h2
  · intro h; subst h; exact ⟨rfl, rfl⟩⟩
theorem eqdX_ok [F : Flat α k] [E : EqD α] (h : k ≤ 64 := by decide) (a b : α) [D : Decidable (a = b)] : eqdX a b = .ok (decide (a = b)) := by
  unfold eqdX
  rw [if_pos ⟨shaped_of h a, shaped_of h b⟩]
  congr 1
  by_cases q : a = b
  · rw [decide_eq_true q, (E.eq a b).mpr q]
  · rw [decide_eq_false q]
    cases r : PyData.eqv (ToD.d a) (ToD.d b) with
    | false => rfl
    | true => exact absurd ((E.eq a b).mp r) q
theorem inDX_ok [F : Flat α k] [E : EqD α] (h : k + 1 ≤ 64 := by decide) (a : α) (l : List α) [D : Decidable (a ∈ l)] : inDX a l = .ok (decide (a ∈ l)) := by
  unfold inDX
  rw [if_pos ⟨shaped_of (by omega) a, shaped_of h l⟩]
  congr 1
  by_cases q : a ∈ l
  · rw [decide_eq_true q, List.any_eq_true]
    exact ⟨ToD.d a, List.mem_map.mpr ⟨a, q, rfl⟩, (E.eq a a).mpr rfl⟩
  · rw [decide_eq_false q, List.any_eq_false]
    intro x m
    obtain ⟨b, mb, rfl⟩ := List.mem_map.mp m
    intro z
    exact q ((E.eq b a).mp z ▸ mb)
end
instance {α : Type} [d : DecidableEq α] : DecidableEq (Tu α) := inferInstanceAs (DecidableEq (List α))
/-! one datum -/
structure Fl (k : Nat) (d : PyData) : Prop where
  lay : PyData.canLay0 d = true
  dep : PyData.depth d ≤ k
theorem Fl.mono {k j : Nat} {d : PyData} (h : Fl k d) (z : k ≤ j) : Fl j d := ⟨h.lay, Nat.le_trans h.dep z⟩
theorem Fl.of {α : Type} [Rp α] [ToD α] {k : Nat} [F : Flat α k] (a : α) : Fl k (ToD.d a) := ⟨F.lay a, F.dep a⟩
theorem Fl.int (i : Int) : Fl 0 (.int i) := ⟨rfl, Nat.le_refl _⟩
theorem Fl.non : Fl 0 .none := ⟨rfl, Nat.le_refl _⟩
theorem Fl.bl (b : Bool) : Fl 0 (.bool b) := ⟨rfl, Nat.le_refl _⟩
theorem fl_all {k : Nat} : ∀ {ds : List PyData}, (∀ d ∈ ds, Fl k d) → PyData.canLayAll0 ds = true ∧ PyData.depthAll ds ≤ k
  | [], _ => ⟨by simp [PyData.canLayAll0], by simp [PyData.depthAll]⟩
  | d :: ds, h => by
    have h1 := h d (by simp)
    obtain ⟨h2, h3⟩ := fl_all (ds := ds) fun d m => h d (by simp [m])
    have h4 := h1.dep
    refine ⟨by simp only [PyData.canLayAll0, h1.lay, h2, Bool.and_self], ?_⟩
    simp only [PyData.depthAll]
    omega
theorem Fl.tup {k : Nat} {ds : List PyData} (h : ∀ d ∈ ds, Fl k d) : Fl (k + 1) (.tuple ds) := by
  obtain ⟨h1, h2⟩ := fl_all h
  exact ⟨by simp only [PyData.canLay0, h1], by simp only [PyData.depth]; omega⟩
theorem Fl.lst {k : Nat} {ds : List PyData} (h : ∀ d ∈ ds, Fl k d) : Fl (k + 1) (.list ds) := by
  obtain ⟨h1, h2⟩ := fl_all h
  exact ⟨by simp only [PyData.canLay0, h1], by simp only [PyData.depth]; omega⟩
theorem Fl.sh {k : Nat} {d : PyData} (h : Fl k d) (z : k ≤ 64 := by decide) : SeqAt.shaped d = true := by
  unfold SeqAt.shaped
  have := h.dep
  rw [h.lay, decide_eq_true (by omega)]
  rfl
theorem datX_fl {α : Type} [Rp α] [ToD α] {k : Nat} {a : α} {d : PyData} (e : ToD.d a = d) (h : Fl k d) (z : k ≤ 64 := by decide) : datX a = .ok d := by
  subst e
  unfold datX
  rw [if_pos (h.sh z)]
theorem Fl.two {k : Nat} {x y : PyData} (hx : Fl k x) (hy : Fl k y) : Fl (k + 1) (.tuple [x, y]) := Fl.tup fun d m => by
  rcases List.mem_cons.mp m with e | m
  · rw [e]; exact hx
  · rw [List.mem_singleton.mp m]; exact hy
theorem Fl.ints (l : List Int) : ∀ d ∈ l.map ToD.d, Fl 0 d := fun d m => by
  obtain ⟨i, _, rfl⟩ := List.mem_map.mp m
  exact Fl.int i
/-! kinds -/
theorem asT_ok {l : List PyData} (h : l.length ≤ 1000) (s : l.all SeqAt.shaped = true) : asT (.tuple l) = .ok (tu l) := by
  have := size_ge
  unfold asT
  show (if _ then _ else _) = _
  rw [if_pos ⟨by omega, s⟩]
theorem asI_ok (i : Int) : asI (.int i) = .ok i := by unfold asI; rfl
theorem intsD_map : ∀ l : List Int, intsD (l.map ToD.d) = some l
  | [] => rfl
  | a :: l => by
    show intsD (.int a :: l.map ToD.d) = _
    unfold intsD
    rw [intsD_map l]
    rfl
theorem shaped_ints (l : List Int) : (l.map ToD.d).all SeqAt.shaped = true := by
  rw [List.all_eq_true]
  intro d m
  obtain ⟨x, _, rfl⟩ := List.mem_map.mp m
  rfl
theorem isD (d : PyData) (T : String) : isiX (HasTy.ty d) T = isiX (tyD d) T := rfl
theorem k_tt : isiX "tuple" "tuple" = .ok true := by unfold isiX; rfl
theorem k_lt : isiX "list" "tuple" = .ok false := by unfold isiX; rfl
theorem k_nt : isiX "NoneType" "tuple" = .ok false := by unfold isiX; rfl
theorem k_it : isiX "int" "tuple" = .ok false := by unfold isiX; rfl
theorem k_st : isiX "str" "tuple" = .ok false := by unfold isiX; rfl
theorem k_bt : isiX "bool" "tuple" = .ok false := by unfold isiX; rfl
theorem k_ii : isiX "int" "int" = .ok true := by unfold isiX; rfl
theorem k_ib : isiX "int" "bool" = .ok false := by unfold isiX; rfl
theorem k_bi : isiX "bool" "int" = .ok true := by unfold isiX; rfl
theorem k_bb : isiX "bool" "bool" = .ok true := by unfold isiX; rfl
theorem k_ni : isiX "NoneType" "int" = .ok false := by unfold isiX; rfl
theorem k_si : isiX "str" "int" = .ok false := by unfold isiX; rfl
theorem k_ti : isiX "tuple" "int" = .ok false := by unfold isiX; rfl
theorem k_li : isiX "list" "int" = .ok false := by unfold isiX; rfl
def notTup : PyData → Prop
  | .tuple _ => False
  | .dict _ => False
  | _ => True
theorem not_tup {d : PyData} (h : notTup d) : isiX (HasTy.ty d) "tuple" = .ok false := by
  cases d <;> first | exact h.elim | exact k_nt | exact k_bt | exact k_it | exact k_st | exact k_lt
def notInt : PyData → Prop
  | .int _ => False
  | .dict _ => False
  | _ => True
/-- isinstance(x, int) and not isinstance(x, bool) -/
def isIB : PyData → Bool
  | .int _ => true
  | _ => false
theorem not_int {d : PyData} (h : notInt d) : ((isiX (HasTy.ty d) "int").bind fun t => (Xc.ok (!t))).bind (fun t => if t = true then Xc.ok true else isiX (HasTy.ty d) "bool") = .ok true := by
  cases d <;> first
    | exact h.elim
    | (show ((isiX "NoneType" "int").bind _).bind _ = _; rw [k_ni]; rfl)
    | (show ((isiX "bool" "int").bind _).bind (fun t => if t = true then _ else isiX "bool" "bool") = _; rw [k_bi, k_bb]; rfl)
    | (show ((isiX "str" "int").bind _).bind _ = _; rw [k_si]; rfl)
    | (show ((isiX "list" "int").bind _).bind _ = _; rw [k_li]; rfl)
    | (show ((isiX "tuple" "int").bind _).bind _ = _; rw [k_ti]; rfl)
theorem yes_int (i : Int) : ((isiX (HasTy.ty (PyData.int i)) "int").bind fun t => (Xc.ok (!t))).bind (fun t => if t = true then Xc.ok true else isiX (HasTy.ty (PyData.int i)) "bool") = .ok false := by
  show ((isiX "int" "int").bind _).bind (fun t => if t = true then _ else isiX "int" "bool") = _
  rw [k_ii, k_ib]
  rfl
end FL

/-! QS: sorting data; lists in strict order. -/
namespace FL
open PySem L2
class Alk (α : Type) [Rp α] [ToD α] : Prop where
  al : ∀ a b : α, PySem.W.alike (ToD.d a) (ToD.d b) = true
instance : Alk Int := ⟨fun _ _ => rfl⟩
instance : Alk Str := ⟨fun _ _ => rfl⟩
instance : Alk Bool := ⟨fun _ _ => rfl⟩
section
variable {α β : Type} [Rp α] [Rp β] [ToD α] [ToD β] {k j : Nat}
theorem alk_all [A : Alk α] : ∀ l m : List α, PySem.W.alikeAll (l.map ToD.d) (m.map ToD.d) = true
  | [], m => by simp [PySem.W.alikeAll]
  | a :: l, [] => by simp [PySem.W.alikeAll]
  | a :: l, b :: m => by
    show PySem.W.alikeAll (ToD.d a :: l.map ToD.d) (ToD.d b :: m.map ToD.d) = true
    simp only [PySem.W.alikeAll, A.al a b, alk_all l m, Bool.and_self]
instance [A : Alk α] : Alk (List α) := ⟨fun a b => by
  show PySem.W.alike (.list (a.map ToD.d)) (.list (b.map ToD.d)) = true
  simp only [PySem.W.alike, alk_all]⟩
instance [A : Alk α] : Alk (Tu α) := ⟨fun a b => by
  show PySem.W.alike (.tuple (a.l.map ToD.d)) (.tuple (b.l.map ToD.d)) = true
  simp only [PySem.W.alike, alk_all]⟩
instance [A : Alk α] [B : Alk β] : Alk (α × β) := ⟨fun a b => by
  show PySem.W.alike (.tuple [ToD.d a.1, ToD.d a.2]) (.tuple [ToD.d b.1, ToD.d b.2]) = true
  simp only [PySem.W.alike, PySem.W.alikeAll, A.al, B.al, Bool.and_self]⟩
/-- x < y, of data -/
def ltD (a b : α) : Bool := PySem.W.dataLt (ToD.d a) (ToD.d b)
def leD (a b : α) : Bool := !ltD b a
theorem sort_le : PySem.W.dataLe false (ToD.d (α := α)) = leD := rfl
theorem leD_trans (a b c : α) (h1 : leD a b = true) (h2 : leD b c = true) : leD a c = true := (PySem.W.sortLe_total (PyProof.Rows.listOrd PyProof.Rows.itemOrd) false fun b : α => PySem.W.keyToks (ToD.d b)).trans a b c h1 h2
theorem leD_total (a b : α) : (leD a b || leD b a) = true := by
  have := (PySem.W.sortLe_total (PyProof.Rows.listOrd PyProof.Rows.itemOrd) false fun b : α => PySem.W.keyToks (ToD.d b)).total a b
  exact Bool.or_eq_true_iff.mpr this
theorem sortX_ok [F : Flat α k] [A : Alk α] (h : k ≤ 64 := by decide) {l : List α} (ht : (∀ a ∈ l, tup1B (ToD.d a) = true) ∨ ∀ a ∈ l, noTupB (ToD.d a) = true) :
    ∃ r, sortX l = .ok r ∧ r.Perm l ∧ r.Pairwise fun a b => ltD b a = false := by
  refine ⟨l.mergeSort leD, ?_, List.mergeSort_perm _ _, ?_⟩
  · have c1 : alikeB (l.map ToD.d) = true := by
      unfold alikeB
      rw [List.all_eq_true]
      intro d hd
      rw [List.all_eq_true]
      intro e he
      obtain ⟨a, _, rfl⟩ := List.mem_map.mp hd
      obtain ⟨b, _, rfl⟩ := List.mem_map.mp he
      exact A.al a b
    have c2 : sortableB (l.map ToD.d) = true := by
      unfold sortableB
      rw [Bool.or_eq_true_iff, List.all_eq_true, List.all_eq_true]
      rcases ht with ht | ht
      · exact .inl fun d hd => by obtain ⟨a, m, rfl⟩ := List.mem_map.mp hd; exact ht a m
      · exact .inr fun d hd => by obtain ⟨a, m, rfl⟩ := List.mem_map.mp hd; exact ht a m
    unfold sortX
    rw [if_pos ⟨List.all_eq_true.mpr fun a _ => shaped_of h a, c1, c2⟩]
    rfl
  · have := List.pairwise_mergeSort (le := leD (α := α)) leD_trans leD_total l
    exact this.imp fun {a b} q => by
      unfold leD at q
      simpa using q
end
theorem ltD_ints (a b : Tu Int) : ltD a b = decide (Tu.l a < Tu.l b) := by
  show PySem.W.dataLt (.tuple (a.l.map ToD.d)) (.tuple (b.l.map ToD.d)) = _
  rw [PySem.W.dataLt_tuple]
  exact PySem.W.dataLt_ints a.l b.l
theorem ltD_pair {α β : Type} [Rp α] [Rp β] [ToD α] [ToD β] [Alk α] [Alk β] [EqD α] [EqD β] [DecidableEq α] [DecidableEq β] (a b : α × β) : ltD a b = if a.1 = b.1 then (if a.2 = b.2 then false else ltD a.2 b.2) else ltD a.1 b.1 := by
  show PySem.W.dataLt (.tuple [ToD.d a.1, ToD.d a.2]) (.tuple [ToD.d b.1, ToD.d b.2]) = _
  rw [PySem.W.dataLt_pair (Alk.al _ _) (Alk.al _ _)]
  by_cases h1 : a.1 = b.1
  · rw [if_pos ((EqD.eq _ _).mpr h1), if_pos h1]
    by_cases h2 : a.2 = b.2
    · rw [if_pos ((EqD.eq _ _).mpr h2), if_pos h2]
    · rw [if_neg (fun z => h2 ((EqD.eq _ _).mp z)), if_neg h2]; rfl
  · rw [if_neg (fun z => h1 ((EqD.eq _ _).mp z)), if_neg h1]; rfl
/-! lists in strict order -/
section
variable {α : Type} {R : α → α → Prop}
theorem strict_uniq (ir : ∀ a, ¬ R a a) (tr : ∀ a b c, R a b → R b c → R a c) : ∀ {l m : List α}, l.Pairwise R → m.Pairwise R → (∀ a, a ∈ l ↔ a ∈ m) → l = m
  | [], [], _, _, _ => rfl
  | [], b :: m, _, _, h => by have := (h b).mpr (by simp); cases this
  | a :: l, [], _, _, h => by have := (h a).mp (by simp); cases this
  | a :: l, b :: m, hl, hm, h => by
    have hl' := List.pairwise_cons.mp hl
    have hm' := List.pairwise_cons.mp hm
    have e : a = b := by
      rcases List.mem_cons.mp ((h a).mp (by simp)) with e | ma
      · exact e
      · rcases List.mem_cons.mp ((h b).mpr (by simp)) with e | mb
        · exact e.symm
        · exact absurd (tr _ _ _ (hl'.1 b mb) (hm'.1 a ma)) (ir a)
    subst e
    rw [strict_uniq ir tr hl'.2 hm'.2 fun c => ?_]
    constructor
    · intro mc
      rcases List.mem_cons.mp ((h c).mp (by simp [mc])) with e | q
      · subst e; exact absurd (hl'.1 c mc) (ir c)
      · exact q
    · intro mc
      rcases List.mem_cons.mp ((h c).mpr (by simp [mc])) with e | q
      · subst e; exact absurd (hm'.1 c mc) (ir c)
      · exact q
end
theorem lt_scale {c : Int} (hc : 0 < c) : ∀ xs ys : List Int, (xs.map (· * c) < ys.map (· * c)) ↔ xs < ys
  | [], [] => by simp
  | [], _ :: _ => by simp
  | _ :: _, [] => by simp
  | x :: xs, y :: ys => by
    simp only [List.map_cons, List.cons_lt_cons_iff, lt_scale hc xs ys]
    constructor
    · rintro (h | ⟨h1, h2⟩)
      · exact .inl (Int.lt_of_mul_lt_mul_right h (by omega))
      · exact .inr ⟨Int.eq_of_mul_eq_mul_right (show c ≠ 0 by omega) h1, h2⟩
    · rintro (h | ⟨h1, h2⟩)
      · exact .inl (Int.mul_lt_mul_of_pos_right h hc)
      · exact .inr ⟨by rw [h1], h2⟩
end FL
namespace FL
open PySem L2
theorem foldX_pre {γ α : Type} {f : γ → α → Xc γ} {l : List α} {g : γ} (P : List α → γ → Prop) (h : P [] g) (hs : ∀ pre a rest g, l = pre ++ a :: rest → P pre g → ∃ g', f g a = .ok g' ∧ P (pre ++ [a]) g') : ∃ g', foldX f l g = .ok g' ∧ P l g' := by
  have go : ∀ (rest pre : List α) (g : γ), l = pre ++ rest → P pre g → ∃ g', foldX f rest g = .ok g' ∧ P l g' := by
    intro rest
    induction rest with
    | nil => intro pre g e p; exact ⟨g, rfl, by rw [e, List.append_nil]; exact p⟩
    | cons a rest ih =>
      intro pre g e p
      obtain ⟨g1, e1, p1⟩ := hs pre a rest g e p
      obtain ⟨g2, e2, p2⟩ := ih (pre ++ [a]) g1 (by rw [e, List.append_assoc]; rfl) p1
      exact ⟨g2, by show (f g a).bind _ = _; rw [e1]; exact e2, p2⟩
  exact go l [] g rfl h
theorem foldKp {γ α τ : Type} {f : γ → α → Xc γ} {l : List α} {g : γ} {k : γ → Xc τ} {r : Xc τ} (P : List α → γ → Prop) (h : P [] g) (hs : ∀ pre a rest g, l = pre ++ a :: rest → P pre g → ∃ g', f g a = .ok g' ∧ P (pre ++ [a]) g') (hk : ∀ g, P l g → k g = r) : (foldX f l g).bind k = r := by
  obtain ⟨g', e, p⟩ := foldX_pre (f := f) P h hs
  rw [e, bind_ok']
  exact hk g' p
theorem foldEx {γ α τ : Type} {f : γ → α → Xc γ} {l : List α} {g : γ} {k : γ → Xc τ} {Q : τ → Prop} (P : List α → γ → Prop) (h : P [] g) (hs : ∀ pre a rest g, l = pre ++ a :: rest → P pre g → ∃ g', f g a = .ok g' ∧ P (pre ++ [a]) g') (hk : ∀ g, P l g → ∃ r, k g = .ok r ∧ Q r) : ∃ r, (foldX f l g).bind k = .ok r ∧ Q r := by
  obtain ⟨g', e, p⟩ := foldX_pre (f := f) P h hs
  rw [e, bind_ok']
  exact hk g' p
theorem foldEi {γ α τ : Type} {f : γ → α → Xc γ} {l : List α} {g : γ} {k : γ → Xc τ} {Q : τ → Prop} (P : Nat → γ → Prop) (h : P 0 g) (hs : ∀ (i : Nat) g a, l[i]? = some a → P i g → ∃ g', f g a = .ok g' ∧ P (i + 1) g') (hk : ∀ g, P l.length g → ∃ r, k g = .ok r ∧ Q r) : ∃ r, (foldX f l g).bind k = .ok r ∧ Q r := by
  obtain ⟨g', e, p⟩ := foldX_ix (f := f) P h hs
  rw [e, bind_ok']
  exact hk g' p
theorem insX_ok {α : Type} {l : List α} {i : Int} {a : α} (h : l.length < 1000000) (h0 : 0 ≤ i) (h1 : i < 2 ^ 63) : insX l i a = .ok (l.take i.toNat ++ [a] ++ l.drop i.toNat) := by
  have := size_ge
  unfold insX
  rw [if_pos ⟨by omega, h0, h1⟩]
end FL

namespace LW
open PySem L2 FL
def top (i : Nat) : Stmt := PySem.Challenge.pw_leadersets_k02_functions_of_points.main.body.getD i (.Pass ⟨0, 0, 0, 0⟩)
abbrev FnP (K : PySem.W.Frag) (x : Str) (st : Stmt) (f : Addr) (fd : FuncData) : Prop := FunD K x x (defArgs st) (defBody st) (defScope st) [] [] f fd
abbrev Fs_Affine : List Str := [("coefs" : Str), ("constant" : Str), ("bottom" : Str), ("size" : Str)]
abbrev Ty_Affine := Ob "Affine" Fs_Affine ((Tu Int) × Int × Int × Int × Unit)
def mt_Affine___init__ : Stmt := (clsBody (top 11)).getD 0 (.Pass ⟨0, 0, 0, 0⟩)
def mt_Affine_variable : Stmt := (clsBody (top 11)).getD 1 (.Pass ⟨0, 0, 0, 0⟩)
def mt_Affine_level : Stmt := (clsBody (top 11)).getD 2 (.Pass ⟨0, 0, 0, 0⟩)
def mt_Affine_from_numbers : Stmt := (clsBody (top 11)).getD 3 (.Pass ⟨0, 0, 0, 0⟩)
def mt_Affine___call__ : Stmt := (clsBody (top 11)).getD 4 (.Pass ⟨0, 0, 0, 0⟩)
def mt_Affine_slope : Stmt := (clsBody (top 11)).getD 5 (.Pass ⟨0, 0, 0, 0⟩)
def mt_Affine___eq__ : Stmt := (clsBody (top 11)).getD 6 (.Pass ⟨0, 0, 0, 0⟩)
def mt_Affine___add__ : Stmt := (clsBody (top 11)).getD 7 (.Pass ⟨0, 0, 0, 0⟩)
def mt_Affine___sub__ : Stmt := (clsBody (top 11)).getD 8 (.Pass ⟨0, 0, 0, 0⟩)
def mt_Affine___neg__ : Stmt := (clsBody (top 11)).getD 9 (.Pass ⟨0, 0, 0, 0⟩)
def mt_Affine___mul__ : Stmt := (clsBody (top 11)).getD 10 (.Pass ⟨0, 0, 0, 0⟩)
def mt_Affine___rmul__ : Stmt := (clsBody (top 11)).getD 11 (.Pass ⟨0, 0, 0, 0⟩)
def mt_Affine_scaled : Stmt := (clsBody (top 11)).getD 12 (.Pass ⟨0, 0, 0, 0⟩)
def mt_Affine_placed : Stmt := (clsBody (top 11)).getD 13 (.Pass ⟨0, 0, 0, 0⟩)
def mt_Affine_fixed : Stmt := (clsBody (top 11)).getD 14 (.Pass ⟨0, 0, 0, 0⟩)
def mt_Affine_head : Stmt := (clsBody (top 11)).getD 15 (.Pass ⟨0, 0, 0, 0⟩)
def mt_Affine_tail : Stmt := (clsBody (top 11)).getD 16 (.Pass ⟨0, 0, 0, 0⟩)
def mt_Affine_homogeneous : Stmt := (clsBody (top 11)).getD 17 (.Pass ⟨0, 0, 0, 0⟩)
def mt_Affine_uses : Stmt := (clsBody (top 11)).getD 18 (.Pass ⟨0, 0, 0, 0⟩)
def m_ratio (z : Int × Int × Unit) : Xc (Int × Int) := (if (decide (z.2.1 = (0 : Int))) = true then (Xc.er "BadNumber" []) else (Xc.bind (if (decide (z.2.1 < (0 : Int))) = true then (Xc.ok (z.1, (z.2.1, ((-(gcdI z.1 z.2.1)), ())))) else (Xc.ok (z.1, (z.2.1, ((gcdI z.1 z.2.1), ()))))) fun (g3 : (Int × (Int × (Int × Unit)))) => (Xc.bind (fdvX g3.1 g3.2.2.1) fun t4 => (Xc.bind (fdvX g3.2.1 g3.2.2.1) fun t5 => (Xc.ok (t4, t5))))))
def m_common_divisor_l (z : (List Int) × Int × Unit) : Xc Int := (Xc.bind (foldX (fun (g7 : ((List Int) × (Int × (Int × Unit)))) a8 => (Xc.ok (g7.1, (g7.2.1, ((gcdI g7.2.2.1 a8), ()))))) z.1 (z.1, (z.2.1, ((absI z.2.1), ())))) fun (g10 : ((List Int) × (Int × (Int × Unit)))) => (Xc.ok g10.2.2.1))
def m_common_divisor_u (z : (Tu Int) × Int × Unit) : Xc Int := (Xc.bind (foldX (fun (g12 : ((Tu Int) × (Int × (Int × Unit)))) a13 => (Xc.ok (g12.1, (g12.2.1, ((gcdI g12.2.2.1 a13), ()))))) (Tu.l z.1) (z.1, (z.2.1, ((absI z.2.1), ())))) fun (g15 : ((Tu Int) × (Int × (Int × Unit)))) => (Xc.ok g15.2.2.1))
def m_point_l (z : (List Int) × Int × Unit) : Xc ((Tu Int) × Int) := (if (decide (z.2.1 = (0 : Int))) = true then (Xc.er "BadNumber" []) else (Xc.bind (m_common_divisor_l (z.1, (z.2.1, ()))) fun t17 => (Xc.bind (if (decide (z.2.1 < (0 : Int))) = true then (Xc.ok (z.1, (z.2.1, ((-t17), ())))) else (Xc.ok (z.1, (z.2.1, (t17, ()))))) fun (g19 : ((List Int) × (Int × (Int × Unit)))) => (Xc.bind (Xc.bind (compX (fun a20 => (Xc.ok true)) (fun a20 => (fdvX a20 g19.2.2.1)) g19.1) fun t21 => (Xc.ok (tu t21))) fun t22 => (Xc.bind (fdvX g19.2.1 g19.2.2.1) fun t23 => (Xc.ok (t22, t23)))))))
def m_point_u (z : (Tu Int) × Int × Unit) : Xc ((Tu Int) × Int) := (if (decide (z.2.1 = (0 : Int))) = true then (Xc.er "BadNumber" []) else (Xc.bind (m_common_divisor_u (z.1, (z.2.1, ()))) fun t25 => (Xc.bind (if (decide (z.2.1 < (0 : Int))) = true then (Xc.ok (z.1, (z.2.1, ((-t25), ())))) else (Xc.ok (z.1, (z.2.1, (t25, ()))))) fun (g27 : ((Tu Int) × (Int × (Int × Unit)))) => (Xc.bind (Xc.bind (compX (fun a28 => (Xc.ok true)) (fun a28 => (fdvX a28 g27.2.2.1)) (Tu.l g27.1)) fun t29 => (Xc.ok (tu t29))) fun t30 => (Xc.bind (fdvX g27.2.1 g27.2.2.1) fun t31 => (Xc.ok (t30, t31)))))))
def m_point_of (z : (List (Int × Int)) × Unit) : Xc ((Tu Int) × Int) := (Xc.bind (foldX (fun (g34 : ((List (Int × Int)) × (Int × Unit))) a35 => (Xc.bind (lcmX g34.2.1 a35.2) fun t36 => (Xc.ok (g34.1, (t36, ()))))) z.1 (z.1, ((1 : Int), ()))) fun (g38 : ((List (Int × Int)) × (Int × Unit))) => (Xc.bind (Xc.bind (compX (fun a39 => (Xc.ok true)) (fun a39 => (Xc.bind (fdvX g38.2.1 a39.2) fun t40 => (mulX a39.1 t40))) g38.1) fun t41 => (Xc.ok (t41, (g38.2.1, ())))) fun t42 => (m_point_l t42)))
def m_Affine___init___l (z : (List Int) × Int × Int × Unit) : Xc ((Tu Int) × Int × Int × Int × Unit) := (Xc.bind (if (decide (z.2.2.1 = (0 : Int))) = true then (Xc.er "BadNumber" []) else (Xc.ok ((), (z.1, (z.2.1, (z.2.2.1, ())))))) fun (g44 : ((Unit) × ((List Int) × (Int × (Int × Unit))))) => (Xc.bind (m_common_divisor_l (g44.2.1, ((gcdI g44.2.2.1 g44.2.2.2.1), ()))) fun t45 => (Xc.bind (if (decide (g44.2.2.2.1 < (0 : Int))) = true then (Xc.ok (g44.1, (g44.2.1, (g44.2.2.1, (g44.2.2.2.1, ((-t45), ())))))) else (Xc.ok (g44.1, (g44.2.1, (g44.2.2.1, (g44.2.2.2.1, (t45, ()))))))) fun (g47 : ((Unit) × ((List Int) × (Int × (Int × (Int × Unit)))))) => (Xc.bind (Xc.bind (compX (fun a48 => (Xc.ok true)) (fun a48 => (fdvX a48 g47.2.2.2.2.1)) g47.2.1) fun t49 => (Xc.ok (tu t49))) fun t50 => (Xc.bind (fdvX g47.2.2.1 g47.2.2.2.2.1) fun t51 => (Xc.bind (fdvX g47.2.2.2.1 g47.2.2.2.2.1) fun t52 => (Xc.ok (t50, (t51, (t52, (((HasLen.len t50 : Nat) : Int), ())))))))))))
def m_Affine___init___u (z : (Tu Int) × Int × Int × Unit) : Xc ((Tu Int) × Int × Int × Int × Unit) := (Xc.bind (if (decide (z.2.2.1 = (0 : Int))) = true then (Xc.er "BadNumber" []) else (Xc.ok ((), (z.1, (z.2.1, (z.2.2.1, ())))))) fun (g54 : ((Unit) × ((Tu Int) × (Int × (Int × Unit))))) => (Xc.bind (m_common_divisor_u (g54.2.1, ((gcdI g54.2.2.1 g54.2.2.2.1), ()))) fun t55 => (Xc.bind (if (decide (g54.2.2.2.1 < (0 : Int))) = true then (Xc.ok (g54.1, (g54.2.1, (g54.2.2.1, (g54.2.2.2.1, ((-t55), ())))))) else (Xc.ok (g54.1, (g54.2.1, (g54.2.2.1, (g54.2.2.2.1, (t55, ()))))))) fun (g57 : ((Unit) × ((Tu Int) × (Int × (Int × (Int × Unit)))))) => (Xc.bind (Xc.bind (compX (fun a58 => (Xc.ok true)) (fun a58 => (fdvX a58 g57.2.2.2.2.1)) (Tu.l g57.2.1)) fun t59 => (Xc.ok (tu t59))) fun t60 => (Xc.bind (fdvX g57.2.2.1 g57.2.2.2.2.1) fun t61 => (Xc.bind (fdvX g57.2.2.2.1 g57.2.2.2.2.1) fun t62 => (Xc.ok (t60, (t61, (t62, (((HasLen.len t60 : Nat) : Int), ())))))))))))
def m_Affine_variable (z : Int × Int × Unit) : Xc Ty_Affine := (Xc.bind (Xc.bind (Xc.bind (rngX 0 z.1) fun t64 => (compX (fun a63 => (Xc.ok true)) (fun a63 => (Xc.ok (if (decide (a63 = z.2.1)) = true then (1 : Int) else 0))) t64)) fun t65 => (Xc.ok (t65, ((0 : Int), ())))) fun t66 => (Xc.bind (m_Affine___init___l (t66.1, (t66.2.1, ((1 : Int), ())))) fun t67 => (Xc.ok (⟨t67⟩ : Ty_Affine))))
def m_Affine_level (z : Int × (Int × Int) × Unit) : Xc Ty_Affine := (Xc.bind (Xc.bind (Xc.bind (szX ((0 : Int) :: ([] : List Int))) fun t68 => (repX t68 z.1)) fun t69 => (Xc.ok (t69, (z.2.1.1, (z.2.1.2, ()))))) fun t70 => (Xc.bind (m_Affine___init___l t70) fun t71 => (Xc.ok (⟨t71⟩ : Ty_Affine))))
def m_Affine_from_numbers (z : (List (Int × Int)) × (Int × Int) × Unit) : Xc Ty_Affine := (Xc.bind (Xc.bind (Xc.bind (Xc.bind (szX (z.2.1 :: ([] : List (Int × Int)))) fun t72 => (catL z.1 t72)) fun t73 => (Xc.ok (t73, ()))) fun t74 => (m_point_of t74)) fun t75 => (Xc.bind (Xc.bind (Xc.bind (getX (Tu.l t75.1) (-(1 : Int))) fun t76 => (Xc.ok (t76, (t75.2, ())))) fun t77 => (Xc.ok ((tu (cutL (Tu.l t75.1) none (some (-(1 : Int))))), t77))) fun t78 => (Xc.bind (m_Affine___init___u t78) fun t79 => (Xc.ok (⟨t79⟩ : Ty_Affine)))))
def m_Affine___call__ (z : Ty_Affine × ((Tu Int) × Int) × Unit) : Xc (Int × Int) := (Xc.bind (mulX z.1.v.2.1 z.2.1.2) fun t80 => (Xc.bind (foldX (fun (g84 : (Ty_Affine × (((Tu Int) × Int) × (Int × Unit)))) a85 => (Xc.bind (Xc.bind (mulX a85.1 a85.2) fun t86 => (Xc.ok (g84.2.2.1 + t86))) fun t87 => (Xc.ok (g84.1, (g84.2.1, (t87, ())))))) (List.zip (Tu.l z.1.v.1) (Tu.l z.2.1.1)) (z.1, (z.2.1, (t80, ())))) fun (g89 : (Ty_Affine × (((Tu Int) × Int) × (Int × Unit)))) => (Xc.bind (Xc.bind (Xc.bind (mulX g89.1.v.2.2.1 g89.2.1.2) fun t90 => (Xc.ok (t90, ()))) fun t91 => (Xc.ok (g89.2.2.1, t91))) fun t92 => (m_ratio t92))))
def m_Affine_slope (z : Ty_Affine × (List Int) × Unit) : Xc (Int × Int) := (Xc.bind (foldX (fun (g96 : (Ty_Affine × ((List Int) × (Int × Unit)))) a97 => (Xc.bind (Xc.bind (mulX a97.1 a97.2) fun t98 => (Xc.ok (g96.2.2.1 + t98))) fun t99 => (Xc.ok (g96.1, (g96.2.1, (t99, ())))))) (List.zip (Tu.l z.1.v.1) z.2.1) (z.1, (z.2.1, ((0 : Int), ())))) fun (g101 : (Ty_Affine × ((List Int) × (Int × Unit)))) => (m_ratio (g101.2.2.1, (g101.1.v.2.2.1, ()))))
def m_Affine___eq___a (z : Ty_Affine × Ty_Affine × Unit) : Xc Bool := (if true = true then (Xc.bind (eqdX z.1.v.1 z.2.1.v.1) fun t102 => (if t102 = true then (if (decide (z.1.v.2.1 = z.2.1.v.2.1)) = true then (Xc.ok (decide (z.1.v.2.2.1 = z.2.1.v.2.2.1))) else Xc.ok false) else Xc.ok false)) else Xc.ok false)
def m_Affine___eq___i (z : Ty_Affine × Int × Unit) : Xc Bool := (if false = true then Xc.no else Xc.ok false)
def m_Affine___add__ (z : Ty_Affine × Ty_Affine × Unit) : Xc Ty_Affine := (if (!true) = true then Xc.no else (Xc.bind (lcmX z.1.v.2.2.1 z.2.1.v.2.2.1) fun t104 => (Xc.bind (fdvX t104 z.1.v.2.2.1) fun t105 => (Xc.bind (fdvX t104 z.2.1.v.2.2.1) fun t106 => (Xc.bind (compX (fun a107 => (Xc.ok true)) (fun a107 => (Xc.bind (mulX t105 a107.1) fun t108 => (Xc.bind (mulX t106 a107.2) fun t109 => (Xc.ok (t108 + t109))))) (List.zip (Tu.l z.1.v.1) (Tu.l z.2.1.v.1))) fun t110 => (Xc.bind (Xc.bind (Xc.bind (Xc.bind (mulX t105 z.1.v.2.1) fun t111 => (Xc.bind (mulX t106 z.2.1.v.2.1) fun t112 => (Xc.ok (t111 + t112)))) fun t113 => (Xc.ok (t113, (t104, ())))) fun t114 => (Xc.ok (t110, t114))) fun t115 => (Xc.bind (m_Affine___init___l t115) fun t116 => (Xc.ok (⟨t116⟩ : Ty_Affine)))))))))
def m_Affine___sub__ (z : Ty_Affine × Ty_Affine × Unit) : Xc Ty_Affine := (if (!true) = true then Xc.no else (Xc.bind (lcmX z.1.v.2.2.1 z.2.1.v.2.2.1) fun t118 => (Xc.bind (fdvX t118 z.1.v.2.2.1) fun t119 => (Xc.bind (fdvX t118 z.2.1.v.2.2.1) fun t120 => (Xc.bind (compX (fun a121 => (Xc.ok true)) (fun a121 => (Xc.bind (mulX t119 a121.1) fun t122 => (Xc.bind (mulX t120 a121.2) fun t123 => (Xc.ok (t122 - t123))))) (List.zip (Tu.l z.1.v.1) (Tu.l z.2.1.v.1))) fun t124 => (Xc.bind (Xc.bind (Xc.bind (Xc.bind (mulX t119 z.1.v.2.1) fun t125 => (Xc.bind (mulX t120 z.2.1.v.2.1) fun t126 => (Xc.ok (t125 - t126)))) fun t127 => (Xc.ok (t127, (t118, ())))) fun t128 => (Xc.ok (t124, t128))) fun t129 => (Xc.bind (m_Affine___init___l t129) fun t130 => (Xc.ok (⟨t130⟩ : Ty_Affine)))))))))
def m_Affine___neg__ (z : Ty_Affine × Unit) : Xc Ty_Affine := (Xc.bind (Xc.bind (compX (fun a131 => (Xc.ok true)) (fun a131 => (Xc.ok (-a131))) (Tu.l z.1.v.1)) fun t132 => (Xc.ok (t132, ((-z.1.v.2.1), (z.1.v.2.2.1, ()))))) fun t133 => (Xc.bind (m_Affine___init___l t133) fun t134 => (Xc.ok (⟨t134⟩ : Ty_Affine))))
def m_Affine___mul__ (z : Ty_Affine × Int × Unit) : Xc Ty_Affine := (Xc.bind (Xc.bind (isiX (HasTy.ty z.2.1) "int") fun t135 => (Xc.ok (!t135))) fun t143 => (if t143 = true then Xc.no else (Xc.bind (Xc.bind (compX (fun a137 => (Xc.ok true)) (fun a137 => (mulX z.2.1 a137)) (Tu.l z.1.v.1)) fun t139 => (Xc.bind (Xc.bind (mulX z.2.1 z.1.v.2.1) fun t138 => (Xc.ok (t138, (z.1.v.2.2.1, ())))) fun t140 => (Xc.ok (t139, t140)))) fun t141 => (Xc.bind (m_Affine___init___l t141) fun t142 => (Xc.ok (⟨t142⟩ : Ty_Affine))))))
def m_Affine___rmul__ (z : Ty_Affine × Int × Unit) : Xc Ty_Affine := (Xc.bind (Xc.bind (isiX (HasTy.ty z.2.1) "int") fun t144 => (Xc.ok (!t144))) fun t152 => (if t152 = true then Xc.no else (Xc.bind (Xc.bind (compX (fun a146 => (Xc.ok true)) (fun a146 => (mulX z.2.1 a146)) (Tu.l z.1.v.1)) fun t148 => (Xc.bind (Xc.bind (mulX z.2.1 z.1.v.2.1) fun t147 => (Xc.ok (t147, (z.1.v.2.2.1, ())))) fun t149 => (Xc.ok (t148, t149)))) fun t150 => (Xc.bind (m_Affine___init___l t150) fun t151 => (Xc.ok (⟨t151⟩ : Ty_Affine))))))
def m_Affine_scaled (z : Ty_Affine × (Int × Int) × Unit) : Xc Ty_Affine := (Xc.bind (compX (fun a153 => (Xc.ok true)) (fun a153 => (mulX z.2.1.1 a153)) (Tu.l z.1.v.1)) fun t154 => (Xc.bind (Xc.bind (Xc.bind (mulX z.2.1.1 z.1.v.2.1) fun t156 => (Xc.bind (Xc.bind (mulX z.2.1.2 z.1.v.2.2.1) fun t155 => (Xc.ok (t155, ()))) fun t157 => (Xc.ok (t156, t157)))) fun t158 => (Xc.ok (t154, t158))) fun t159 => (Xc.bind (m_Affine___init___l t159) fun t160 => (Xc.ok (⟨t160⟩ : Ty_Affine)))))
def m_Affine_placed (z : Ty_Affine × Int × Int × Unit) : Xc Ty_Affine := (Xc.bind (Xc.bind (Xc.bind (Xc.bind (szX ((0 : Int) :: ([] : List Int))) fun t161 => (repX t161 z.2.2.1)) fun t162 => (catL t162 (Tu.l z.1.v.1))) fun t164 => (Xc.bind (Xc.bind (szX ((0 : Int) :: ([] : List Int))) fun t163 => (repX t163 ((z.2.1 - z.2.2.1) - z.1.v.2.2.2.1))) fun t165 => (catL t164 t165))) fun t166 => (Xc.bind (m_Affine___init___l (t166, (z.1.v.2.1, (z.1.v.2.2.1, ())))) fun t167 => (Xc.ok (⟨t167⟩ : Ty_Affine))))
def m_Affine_fixed (z : Ty_Affine × ((Tu Int) × Int) × Unit) : Xc Ty_Affine := (Xc.bind (mulX z.1.v.2.1 z.2.1.2) fun t168 => (Xc.bind (foldX (fun (g172 : (Ty_Affine × (((Tu Int) × Int) × ((Tu Int) × (Int × (Int × Unit)))))) a173 => (Xc.bind (Xc.bind (mulX a173.1 a173.2) fun t174 => (Xc.ok (g172.2.2.2.2.1 + t174))) fun t175 => (Xc.ok (g172.1, (g172.2.1, (g172.2.2.1, (g172.2.2.2.1, (t175, ())))))))) (List.zip (Tu.l z.1.v.1) (Tu.l z.2.1.1)) (z.1, (z.2.1, (z.2.1.1, (z.2.1.2, (t168, ())))))) fun (g177 : (Ty_Affine × (((Tu Int) × Int) × ((Tu Int) × (Int × (Int × Unit)))))) => (Xc.bind (compX (fun a178 => (Xc.ok true)) (fun a178 => (mulX a178 g177.2.2.2.1)) (Tu.l (tu (cutL (Tu.l g177.1.v.1) (some ((HasLen.len g177.2.2.1 : Nat) : Int)) none)))) fun t179 => (Xc.bind (Xc.bind (Xc.bind (Xc.bind (mulX g177.1.v.2.2.1 g177.2.2.2.1) fun t180 => (Xc.ok (t180, ()))) fun t181 => (Xc.ok (g177.2.2.2.2.1, t181))) fun t182 => (Xc.ok (t179, t182))) fun t183 => (Xc.bind (m_Affine___init___l t183) fun t184 => (Xc.ok (⟨t184⟩ : Ty_Affine)))))))
def m_Affine_head (z : Ty_Affine × Int × Unit) : Xc Ty_Affine := (Xc.bind (m_Affine___init___u ((tu (cutL (Tu.l z.1.v.1) none (some z.2.1))), (z.1.v.2.1, (z.1.v.2.2.1, ())))) fun t185 => (Xc.ok (⟨t185⟩ : Ty_Affine)))
def m_Affine_tail (z : Ty_Affine × Int × Unit) : Xc Ty_Affine := (Xc.bind (m_Affine___init___u ((tu (cutL (Tu.l z.1.v.1) (some z.2.1) none)), (z.1.v.2.1, (z.1.v.2.2.1, ())))) fun t186 => (Xc.ok (⟨t186⟩ : Ty_Affine)))
def m_Affine_homogeneous (z : Ty_Affine × Unit) : Xc Ty_Affine := (Xc.bind (m_Affine___init___u (z.1.v.1, ((0 : Int), (z.1.v.2.2.1, ())))) fun t187 => (Xc.ok (⟨t187⟩ : Ty_Affine)))
def m_Affine_uses (z : Ty_Affine × Int × Unit) : Xc Bool := (Xc.bind (compX (fun a188 => (Xc.ok true)) (fun a188 => (Xc.ok (!decide (a188 = (0 : Int))))) (Tu.l (tu (cutL (Tu.l z.1.v.1) (some z.2.1) none)))) fun t189 => (Xc.ok (List.any t189 id)))
def m__law_is_integer (z : Int × Unit) : Xc Bool := (Xc.bind (isiX (HasTy.ty z.1) "int") fun t191 => (if t191 = true then (Xc.bind (isiX (HasTy.ty z.1) "bool") fun t190 => (Xc.ok (!t190))) else Xc.ok false))
def m__law_draws (z : (List Int) × Int × Unit) : Xc (List Int) := (Xc.bind (foldX (fun (g301 : ((List Int) × (Int × (List Int × Unit)))) a302 => (Xc.bind (Xc.bind (Xc.bind (powX (10 : Int) (18 : Int)) fun t303 => (Xc.ok (decide (t303 ≤ a302)))) fun t409 => (if t409 = true then (Xc.bind (Xc.bind (rngX 0 (60 : Int)) fun t383 => (foldX (fun (g368 : ((List Int) × (Int × (List Int × (Int × (Int × Unit)))))) a369 => (Xc.bind (Xc.bind (if (decide ((0 : Int) < g368.2.2.2.2.1)) = true then (Xc.ok (decide (((HasLen.len g368.2.2.1 : Nat) : Int) < g368.2.1))) else Xc.ok false) fun t379 => (if t379 = true then (Xc.bind (modX g368.2.2.2.2.1 (1000 : Int)) fun t375 => (Xc.bind (appX g368.2.2.1 t375) fun t376 => (Xc.bind (fdvX g368.2.2.2.2.1 (1000 : Int)) fun t377 => (Xc.ok (g368.1, (g368.2.1, (t376, (g368.2.2.2.1, (t377, (a369, ())))))))))) else (Xc.ok (g368.1, (g368.2.1, (g368.2.2.1, (g368.2.2.2.1, (g368.2.2.2.2.1, (a369, ()))))))))) fun (g380 : ((List Int) × (Int × (List Int × (Int × (Int × (Int × Unit))))))) => (Xc.ok (g380.1, (g380.2.1, (g380.2.2.1, (g380.2.2.2.1, (g380.2.2.2.2.1, ())))))))) t383 (g301.1, (g301.2.1, (g301.2.2.1, (a302, (a302, ()))))))) fun (g382 : ((List Int) × (Int × (List Int × (Int × (Int × Unit)))))) => (Xc.ok (g382.1, (g382.2.1, (g382.2.2.1, (g382.2.2.2.1, (g382.2.2.2.2.1, ()))))))) else (Xc.bind (if (decide (((HasLen.len g301.2.2.1 : Nat) : Int) < g301.2.1)) = true then (Xc.bind (Xc.bind (Xc.bind (Xc.bind (Xc.bind (Xc.bind (Xc.bind (Xc.bind (Xc.bind (mulX a302 (48271 : Int)) fun t395 => (Xc.ok (t395 + (11 : Int)))) fun t396 => (Xc.ok t396)) fun t397 => (modX t397 (65537 : Int))) fun t398 => (mulX t398 (31 : Int))) fun t399 => (Xc.ok (t399 + (7 : Int)))) fun t400 => (Xc.ok t400)) fun t401 => (modX t401 (1009 : Int))) fun t402 => (modX t402 (1000 : Int))) fun t404 => (Xc.bind (appX g301.2.2.1 t404) fun t405 => (Xc.ok (g301.1, (g301.2.1, (t405, (a302, (a302, ())))))))) else (Xc.ok (g301.1, (g301.2.1, (g301.2.2.1, (a302, (a302, ()))))))) fun (g407 : ((List Int) × (Int × (List Int × (Int × (Int × Unit)))))) => (Xc.ok (g407.1, (g407.2.1, (g407.2.2.1, (g407.2.2.2.1, (g407.2.2.2.2.1, ()))))))))) fun (g410 : ((List Int) × (Int × (List Int × (Int × (Int × Unit)))))) => (Xc.ok (g410.1, (g410.2.1, (g410.2.2.1, ())))))) z.1 (z.1, (z.2.1, (([] : List Int), ())))) fun (g412 : ((List Int) × (Int × (List Int × Unit)))) => (let vseed_413 : Int := ((7 : Int) + ((HasLen.len g412.1 : Nat) : Int)); (Xc.bind (foldX (fun (g419 : ((List Int) × (Int × (List Int × (Int × Unit))))) a420 => (Xc.bind (Xc.bind (Xc.bind (Xc.bind (mulX g419.2.2.2.1 (31 : Int)) fun t421 => (Xc.ok (t421 + a420))) fun t422 => (Xc.ok t422)) fun t423 => (modX t423 (1000003 : Int))) fun t424 => (Xc.ok (g419.1, (g419.2.1, (g419.2.2.1, (t424, ()))))))) g412.1 (g412.1, (g412.2.1, (g412.2.2.1, (vseed_413, ()))))) fun (g426 : ((List Int) × (Int × (List Int × (Int × Unit))))) => (Xc.bind (Xc.bind (rngX 0 g426.2.1) fun t468 => (foldX (fun (g446 : ((List Int) × (Int × (List Int × (Int × Unit))))) a447 => (Xc.bind (if (decide (((HasLen.len g446.2.2.1 : Nat) : Int) < g446.2.1)) = true then (Xc.bind (Xc.bind (Xc.bind (Xc.bind (mulX g446.2.2.2.1 (48271 : Int)) fun t456 => (Xc.ok (t456 + (69621 : Int)))) fun t457 => (Xc.ok t457)) fun t458 => (modX t458 (2147483647 : Int))) fun t459 => (Xc.bind (Xc.bind (fdvX t459 (1000 : Int)) fun t460 => (modX t460 (1000 : Int))) fun t462 => (Xc.bind (appX g446.2.2.1 t462) fun t463 => (Xc.ok (g446.1, (g446.2.1, (t463, (a447, (t459, ()))))))))) else (Xc.ok (g446.1, (g446.2.1, (g446.2.2.1, (a447, (g446.2.2.2.1, ()))))))) fun (g465 : ((List Int) × (Int × (List Int × (Int × (Int × Unit)))))) => (Xc.ok (g465.1, (g465.2.1, (g465.2.2.1, (g465.2.2.2.2.1, ()))))))) t468 (g426.1, (g426.2.1, (g426.2.2.1, (g426.2.2.2.1, ())))))) fun (g467 : ((List Int) × (Int × (List Int × (Int × Unit))))) => (Xc.ok g467.2.2.1)))))
def m__law_gcd (z : Int × Int × Unit) : Xc Int := (Xc.bind (Xc.bind (Xc.bind (mulX (2 : Int) ((Builtin.Int.intBits (absI z.2.1) : Nat) : Int)) fun t475 => (Xc.ok (t475 + (2 : Int)))) fun t476 => (rngX 0 t476)) fun t481 => (forK (forX (fun (g474 : (Int × (Int × Unit))) a477 => (if (decide (g474.2.1 = (0 : Int))) = true then (Xc.ok (Lp.rt g474.1)) else (Xc.bind (modX g474.1 g474.2.1) fun t479 => (Xc.ok (Lp.ct (g474.2.1, (t479, ()))))))) t481 ((absI z.1), ((absI z.2.1), ()))) id fun (g480 : (Int × (Int × Unit))) => (Xc.ok g480.1)))
def m__law_lowest (z : (List Int) × Unit) : Xc (List Int) := (Xc.bind (foldX (fun (g484 : ((List Int) × (Int × Unit))) a485 => (Xc.bind (m__law_gcd (g484.2.1, (a485, ()))) fun t486 => (Xc.ok (g484.1, (t486, ()))))) z.1 (z.1, ((0 : Int), ()))) fun (g488 : ((List Int) × (Int × Unit))) => (Xc.bind (Xc.bind (Xc.bind (getX g488.1 (-(1 : Int))) fun t489 => (Xc.ok (decide (t489 < (0 : Int))))) fun t491 => (if t491 = true then (Xc.ok (g488.1, ((-g488.2.1), ()))) else (Xc.ok (g488.1, (g488.2.1, ()))))) fun (g492 : ((List Int) × (Int × Unit))) => (compX (fun a493 => (Xc.ok true)) (fun a493 => (fdvX a493 g492.2.1)) g492.1)))
def m__law_values (z : (List Int) × Int × Int × Bool × Unit) : Xc (List Int) := (Xc.bind (Xc.bind (rngX 0 (z.2.2.1 + (1 : Int))) fun t529 => (foldX (fun (g510 : ((List Int) × (Int × (Int × (Bool × (List Int × Unit)))))) a511 => (Xc.bind (Xc.bind (Xc.bind (getX g510.1 (g510.2.1 + a511)) fun t512 => (modX t512 (19 : Int))) fun t513 => (Xc.ok (t513 - (9 : Int)))) fun t514 => (Xc.bind (if g510.2.2.2.1 = true then (Xc.bind (Xc.bind (Xc.bind (powX (10 : Int) (37 : Int)) fun t519 => (mulX t514 t519)) fun t520 => (Xc.bind (getX g510.1 (g510.2.1 + a511)) fun t521 => (Xc.ok (t520 + t521)))) fun t522 => (Xc.ok (g510.1, (g510.2.1, (g510.2.2.1, (g510.2.2.2.1, (g510.2.2.2.2.1, (a511, (t522, ()))))))))) else (Xc.ok (g510.1, (g510.2.1, (g510.2.2.1, (g510.2.2.2.1, (g510.2.2.2.2.1, (a511, (t514, ()))))))))) fun (g524 : ((List Int) × (Int × (Int × (Bool × (List Int × (Int × (Int × Unit)))))))) => (Xc.bind (appX g524.2.2.2.2.1 g524.2.2.2.2.2.2.1) fun t526 => (Xc.ok (g524.1, (g524.2.1, (g524.2.2.1, (g524.2.2.2.1, (t526, ())))))))))) t529 (z.1, (z.2.1, (z.2.2.1, (z.2.2.2.1, (([] : List Int), ()))))))) fun (g528 : ((List Int) × (Int × (Int × (Bool × (List Int × Unit)))))) => (Xc.bind (Xc.bind (Xc.bind (getX g528.1 ((g528.2.1 + g528.2.2.1) + (1 : Int))) fun t530 => (modX t530 (18 : Int))) fun t531 => (Xc.ok (t531 - (9 : Int)))) fun t532 => (Xc.bind (if (decide ((0 : Int) ≤ t532)) = true then (Xc.ok (g528.1, (g528.2.1, (g528.2.2.1, (g528.2.2.2.1, (g528.2.2.2.2.1, ((t532 + (1 : Int)), ()))))))) else (Xc.ok (g528.1, (g528.2.1, (g528.2.2.1, (g528.2.2.2.1, (g528.2.2.2.2.1, (t532, ())))))))) fun (g534 : ((List Int) × (Int × (Int × (Bool × ((List Int) × (Int × Unit))))))) => (Xc.bind (szX (g534.2.2.2.2.2.1 :: ([] : List Int))) fun t535 => (catL g534.2.2.2.2.1 t535)))))
def m__law_same (z : Ty_Affine × (List Int) × Unit) : Xc Bool := (Xc.bind (if (!true) = true then Xc.ok true else (Xc.bind (isiX (HasTy.ty z.1.v.1) "tuple") fun t536 => (Xc.ok (!t536)))) fun t565 => (if t565 = true then (Xc.ok false) else (Xc.bind (Xc.bind (szX (z.1.v.2.1 :: (z.1.v.2.2.1 :: ([] : List Int)))) fun t538 => (catL (Tu.l z.1.v.1) t538)) fun t539 => (Xc.bind (if (!decide (((HasLen.len t539 : Nat) : Int) = ((HasLen.len z.2.1 : Nat) : Int))) = true then Xc.ok true else (Xc.bind (Xc.bind (m__law_is_integer (z.1.v.2.2.2.1, ())) fun t540 => (Xc.ok (!t540))) fun t541 => (if t541 = true then Xc.ok true else (Xc.ok (!decide (z.1.v.2.2.2.1 = (((HasLen.len z.2.1 : Nat) : Int) - (2 : Int)))))))) fun t564 => (if t564 = true then (Xc.ok false) else (Xc.bind (rngX 0 ((HasLen.len z.2.1 : Nat) : Int)) fun t563 => (forK (forX (fun (g552 : (Ty_Affine × ((List Int) × ((List Int) × Unit)))) a553 => (Xc.bind (Xc.bind (Xc.bind (Xc.bind (Xc.bind (getX g552.2.2.1 a553) fun t554 => (Xc.ok (t554, ()))) fun t555 => (m__law_is_integer t555)) fun t556 => (Xc.ok (!t556))) fun t559 => (if t559 = true then Xc.ok true else (Xc.bind (getX g552.2.2.1 a553) fun t557 => (Xc.bind (getX g552.2.1 a553) fun t558 => (Xc.ok (!decide (t557 = t558))))))) fun t561 => (if t561 = true then (Xc.ok (Lp.rt false)) else (Xc.ok (Lp.ct (g552.1, (g552.2.1, (g552.2.2.1, ())))))))) t563 (z.1, (z.2.1, (t539, ())))) id fun (g562 : (Ty_Affine × ((List Int) × ((List Int) × Unit)))) => (Xc.ok true))))))))
def m__law_truth (z : Bool × Bool × Unit) : Xc Bool := (Xc.bind (isiX (HasTy.ty z.1) "bool") fun t566 => (if t566 = true then (Xc.ok (decide (z.1 = z.2.1))) else Xc.ok false))
def m__law_same_number (z : (Int × Int) × (List Int) × Unit) : Xc Bool := (Xc.bind (Xc.bind (Xc.bind (isiX (HasTy.ty z.1) "tuple") fun t567 => (Xc.ok (!t567))) fun t568 => (if t568 = true then Xc.ok true else (Xc.ok (!decide (((HasLen.len z.1 : Nat) : Int) = (2 : Int)))))) fun t578 => (if t578 = true then (Xc.ok false) else (Xc.bind (Xc.bind (Xc.bind (m__law_is_integer (z.1.1, ())) fun t570 => (Xc.ok (!t570))) fun t572 => (if t572 = true then Xc.ok true else (Xc.bind (m__law_is_integer (z.1.2, ())) fun t571 => (Xc.ok (!t571))))) fun t577 => (if t577 = true then (Xc.ok false) else (Xc.bind (Xc.bind (getX z.2.1 (0 : Int)) fun t574 => (Xc.ok (decide (z.1.1 = t574)))) fun t576 => (if t576 = true then (Xc.bind (getX z.2.1 (1 : Int)) fun t575 => (Xc.ok (decide (z.1.2 = t575)))) else Xc.ok false))))))
def m__law_value (z : (List Int) × (List Int) × Int × Unit) : Xc (List Int) := (Xc.bind (Xc.bind (getX z.1 (-(2 : Int))) fun t579 => (mulX t579 z.2.2.1)) fun t580 => (Xc.bind (Xc.bind (rngX 0 ((HasLen.len z.2.1 : Nat) : Int)) fun t594 => (foldX (fun (g586 : ((List Int) × ((List Int) × (Int × (Int × Unit))))) a587 => (Xc.bind (Xc.bind (Xc.bind (getX g586.1 a587) fun t588 => (Xc.bind (getX g586.2.1 a587) fun t589 => (mulX t588 t589))) fun t590 => (Xc.ok (g586.2.2.2.1 + t590))) fun t591 => (Xc.ok (g586.1, (g586.2.1, (g586.2.2.1, (t591, ()))))))) t594 (z.1, (z.2.1, (z.2.2.1, (t580, ())))))) fun (g593 : ((List Int) × ((List Int) × (Int × (Int × Unit))))) => (Xc.bind (Xc.bind (Xc.bind (Xc.bind (Xc.bind (Xc.bind (getX g593.1 (-(1 : Int))) fun t595 => (mulX t595 g593.2.2.1)) fun t596 => (Xc.ok (t596 :: ([] : List Int)))) fun t597 => (Xc.ok (g593.2.2.2.1 :: t597))) fun t598 => (szX t598)) fun t599 => (Xc.ok (t599, ()))) fun t600 => (m__law_lowest t600))))
def m__law_sum (z : (List Int) × (List Int) × Int × Unit) : Xc (List Int) := (Xc.bind (Xc.bind (rngX 0 (((HasLen.len z.1 : Nat) : Int) - (1 : Int))) fun t609 => (compX (fun a601 => (Xc.ok true)) (fun a601 => (Xc.bind (Xc.bind (getX z.1 a601) fun t602 => (Xc.bind (getX z.2.1 (-(1 : Int))) fun t603 => (mulX t602 t603))) fun t607 => (Xc.bind (Xc.bind (Xc.bind (getX z.2.1 a601) fun t604 => (mulX z.2.2.1 t604)) fun t605 => (Xc.bind (getX z.1 (-(1 : Int))) fun t606 => (mulX t605 t606))) fun t608 => (Xc.ok (t607 + t608))))) t609)) fun t610 => (Xc.bind (Xc.bind (Xc.bind (Xc.bind (Xc.bind (Xc.bind (getX z.1 (-(1 : Int))) fun t611 => (Xc.bind (getX z.2.1 (-(1 : Int))) fun t612 => (mulX t611 t612))) fun t613 => (Xc.ok (t613 :: ([] : List Int)))) fun t614 => (szX t614)) fun t615 => (catL t610 t615)) fun t616 => (Xc.ok (t616, ()))) fun t617 => (m__law_lowest t617)))
def m__law_parts (z : Ty_Affine × (List Int) × Int × (List Int) × Int × (List Int) × Unit) : Xc Bool := (let vsize_618 : Int := (((HasLen.len z.2.1 : Nat) : Int) - (2 : Int)); (Xc.bind (Xc.bind (getX z.2.1 (-(2 : Int))) fun t619 => (mulX t619 z.2.2.2.2.1)) fun t620 => (Xc.bind (Xc.bind (rngX 0 z.2.2.1) fun t634 => (foldX (fun (g626 : (Ty_Affine × ((List Int) × (Int × ((List Int) × (Int × ((List Int) × (Int × (Int × Unit))))))))) a627 => (Xc.bind (Xc.bind (Xc.bind (getX g626.2.1 a627) fun t628 => (Xc.bind (getX g626.2.2.2.1 a627) fun t629 => (mulX t628 t629))) fun t630 => (Xc.ok (g626.2.2.2.2.2.2.2.1 + t630))) fun t631 => (Xc.ok (g626.1, (g626.2.1, (g626.2.2.1, (g626.2.2.2.1, (g626.2.2.2.2.1, (g626.2.2.2.2.2.1, (g626.2.2.2.2.2.2.1, (t631, ()))))))))))) t634 (z.1, (z.2.1, (z.2.2.1, (z.2.2.2.1, (z.2.2.2.2.1, (z.2.2.2.2.2.1, (vsize_618, (t620, ())))))))))) fun (g633 : (Ty_Affine × ((List Int) × (Int × ((List Int) × (Int × ((List Int) × (Int × (Int × Unit))))))))) => (Xc.bind (Xc.bind (rngX g633.2.2.1 g633.2.2.2.2.2.2.1) fun t637 => (compX (fun a635 => (Xc.ok true)) (fun a635 => (Xc.bind (getX g633.2.1 a635) fun t636 => (mulX t636 g633.2.2.2.2.1))) t637)) fun t638 => (Xc.bind (Xc.bind (rngX 0 g633.2.2.2.2.2.2.1) fun t652 => (foldX (fun (g644 : (Ty_Affine × ((List Int) × (Int × ((List Int) × (Int × ((List Int) × (Int × (Int × ((List Int) × (Int × Unit))))))))))) a645 => (Xc.bind (Xc.bind (Xc.bind (getX g644.2.1 a645) fun t646 => (Xc.bind (getX g644.2.2.2.2.2.1 a645) fun t647 => (mulX t646 t647))) fun t648 => (Xc.ok (g644.2.2.2.2.2.2.2.2.2.1 + t648))) fun t649 => (Xc.ok (g644.1, (g644.2.1, (g644.2.2.1, (g644.2.2.2.1, (g644.2.2.2.2.1, (g644.2.2.2.2.2.1, (g644.2.2.2.2.2.2.1, (g644.2.2.2.2.2.2.2.1, (g644.2.2.2.2.2.2.2.2.1, (t649, ()))))))))))))) t652 (g633.1, (g633.2.1, (g633.2.2.1, (g633.2.2.2.1, (g633.2.2.2.2.1, (g633.2.2.2.2.2.1, (g633.2.2.2.2.2.2.1, (g633.2.2.2.2.2.2.2.1, (t638, ((0 : Int), ())))))))))))) fun (g651 : (Ty_Affine × ((List Int) × (Int × ((List Int) × (Int × ((List Int) × (Int × (Int × ((List Int) × (Int × Unit))))))))))) => (Xc.bind (Xc.bind (Xc.bind (Xc.bind (szX (g651.2.2.2.2.1 :: ([] : List Int))) fun t653 => (catL (cutL g651.2.2.2.1 none (some g651.2.2.1)) t653)) fun t654 => (Xc.ok (t654, ()))) fun t655 => (m__law_lowest t655)) fun t656 => (Xc.bind (Xc.bind (Xc.bind (Xc.bind (Xc.bind (Xc.bind (Xc.bind (getX t656 (-(1 : Int))) fun t657 => (Xc.ok ((tu (cutL t656 none (some (-(1 : Int))))), t657))) fun t658 => (Xc.ok (t658, ()))) fun t659 => (m_Affine_fixed (g651.1, t659))) fun t668 => (Xc.bind (Xc.bind (Xc.bind (Xc.bind (Xc.bind (Xc.bind (Xc.bind (Xc.bind (Xc.bind (getX g651.2.1 (-(1 : Int))) fun t660 => (mulX t660 g651.2.2.2.2.1)) fun t661 => (Xc.ok (t661 :: ([] : List Int)))) fun t662 => (Xc.ok (g651.2.2.2.2.2.2.2.1 :: t662))) fun t663 => (szX t663)) fun t664 => (catL g651.2.2.2.2.2.2.2.2.1 t664)) fun t665 => (Xc.ok (t665, ()))) fun t666 => (m__law_lowest t666)) fun t667 => (Xc.ok (t667, ()))) fun t669 => (Xc.ok (t668, t669)))) fun t670 => (m__law_same t670)) fun t671 => (Xc.ok (!t671))) fun t740 => (if t740 = true then (Xc.ok false) else (Xc.bind (Xc.bind (Xc.bind (Xc.bind (m_Affine_head (g651.1, (g651.2.2.1, ()))) fun t676 => (Xc.bind (Xc.bind (Xc.bind (Xc.bind (catL (cutL g651.2.1 none (some g651.2.2.1)) (cutL g651.2.1 (some (-(2 : Int))) none)) fun t673 => (Xc.ok (t673, ()))) fun t674 => (m__law_lowest t674)) fun t675 => (Xc.ok (t675, ()))) fun t677 => (Xc.ok (t676, t677)))) fun t678 => (m__law_same t678)) fun t679 => (Xc.ok (!t679))) fun t739 => (if t739 = true then (Xc.ok false) else (Xc.bind (Xc.bind (Xc.bind (Xc.bind (m_Affine_tail (g651.1, (g651.2.2.1, ()))) fun t682 => (Xc.bind (Xc.bind (m__law_lowest ((cutL g651.2.1 (some g651.2.2.1) none), ())) fun t681 => (Xc.ok (t681, ()))) fun t683 => (Xc.ok (t682, t683)))) fun t684 => (m__law_same t684)) fun t685 => (Xc.ok (!t685))) fun t738 => (if t738 = true then (Xc.ok false) else (Xc.bind (Xc.bind (Xc.bind (Xc.bind (m_Affine_homogeneous (g651.1, ())) fun t694 => (Xc.bind (Xc.bind (Xc.bind (Xc.bind (Xc.bind (Xc.bind (Xc.bind (Xc.bind (getX g651.2.1 (-(1 : Int))) fun t687 => (Xc.ok (t687 :: ([] : List Int)))) fun t688 => (Xc.ok ((0 : Int) :: t688))) fun t689 => (szX t689)) fun t690 => (catL (cutL g651.2.1 none (some (-(2 : Int)))) t690)) fun t691 => (Xc.ok (t691, ()))) fun t692 => (m__law_lowest t692)) fun t693 => (Xc.ok (t693, ()))) fun t695 => (Xc.ok (t694, t695)))) fun t696 => (m__law_same t696)) fun t697 => (Xc.ok (!t697))) fun t737 => (if t737 = true then (Xc.ok false) else (Xc.bind (Xc.bind (Xc.bind (Xc.bind (m_Affine_placed (g651.1, (((g651.2.2.2.2.2.2.1 + g651.2.2.1) + (2 : Int)), ((g651.2.2.1 + (1 : Int)), ())))) fun t705 => (Xc.bind (Xc.bind (Xc.bind (Xc.bind (Xc.bind (Xc.bind (szX ((0 : Int) :: ([] : List Int))) fun t699 => (repX t699 (g651.2.2.1 + (1 : Int)))) fun t700 => (catL t700 (cutL g651.2.1 none (some (-(2 : Int)))))) fun t701 => (Xc.bind (szX ((0 : Int) :: ([] : List Int))) fun t702 => (catL t701 t702))) fun t703 => (catL t703 (cutL g651.2.1 (some (-(2 : Int))) none))) fun t704 => (Xc.ok (t704, ()))) fun t706 => (Xc.ok (t705, t706)))) fun t707 => (m__law_same t707)) fun t708 => (Xc.ok (!t708))) fun t736 => (if t736 = true then (Xc.ok false) else (Xc.bind (Xc.bind (rngX g651.2.2.1 g651.2.2.2.2.2.2.1) fun t723 => (foldX (fun (g715 : (Ty_Affine × ((List Int) × (Int × ((List Int) × (Int × ((List Int) × (Int × (Int × ((List Int) × (Int × ((List Int) × (Bool × Unit))))))))))))) a716 => (Xc.bind (Xc.bind (Xc.bind (getX g715.2.1 a716) fun t717 => (Xc.ok (!decide (t717 = (0 : Int))))) fun t719 => (if t719 = true then (Xc.ok (g715.1, (g715.2.1, (g715.2.2.1, (g715.2.2.2.1, (g715.2.2.2.2.1, (g715.2.2.2.2.2.1, (g715.2.2.2.2.2.2.1, (g715.2.2.2.2.2.2.2.1, (a716, (g715.2.2.2.2.2.2.2.2.1, (g715.2.2.2.2.2.2.2.2.2.1, (g715.2.2.2.2.2.2.2.2.2.2.1, (true, ())))))))))))))) else (Xc.ok (g715.1, (g715.2.1, (g715.2.2.1, (g715.2.2.2.1, (g715.2.2.2.2.1, (g715.2.2.2.2.2.1, (g715.2.2.2.2.2.2.1, (g715.2.2.2.2.2.2.2.1, (a716, (g715.2.2.2.2.2.2.2.2.1, (g715.2.2.2.2.2.2.2.2.2.1, (g715.2.2.2.2.2.2.2.2.2.2.1, (g715.2.2.2.2.2.2.2.2.2.2.2.1, ())))))))))))))))) fun (g720 : (Ty_Affine × ((List Int) × (Int × ((List Int) × (Int × ((List Int) × (Int × (Int × (Int × ((List Int) × (Int × ((List Int) × (Bool × Unit)))))))))))))) => (Xc.ok (g720.1, (g720.2.1, (g720.2.2.1, (g720.2.2.2.1, (g720.2.2.2.2.1, (g720.2.2.2.2.2.1, (g720.2.2.2.2.2.2.1, (g720.2.2.2.2.2.2.2.1, (g720.2.2.2.2.2.2.2.2.2.1, (g720.2.2.2.2.2.2.2.2.2.2.1, (g720.2.2.2.2.2.2.2.2.2.2.2.1, (g720.2.2.2.2.2.2.2.2.2.2.2.2.1, ()))))))))))))))) t723 (g651.1, (g651.2.1, (g651.2.2.1, (g651.2.2.2.1, (g651.2.2.2.2.1, (g651.2.2.2.2.2.1, (g651.2.2.2.2.2.2.1, (g651.2.2.2.2.2.2.2.1, (g651.2.2.2.2.2.2.2.2.1, (g651.2.2.2.2.2.2.2.2.2.1, (t656, (false, ())))))))))))))) fun (g722 : (Ty_Affine × ((List Int) × (Int × ((List Int) × (Int × ((List Int) × (Int × (Int × ((List Int) × (Int × ((List Int) × (Bool × Unit))))))))))))) => (Xc.bind (Xc.bind (Xc.bind (m_Affine_uses (g722.1, (g722.2.2.1, ()))) fun t724 => (Xc.ok (t724, (g722.2.2.2.2.2.2.2.2.2.2.2.1, ())))) fun t725 => (m__law_truth t725)) fun t735 => (if t735 = true then (Xc.bind (Xc.bind (m_Affine_slope (g722.1, (g722.2.2.2.2.2.1, ()))) fun t732 => (Xc.bind (Xc.bind (Xc.bind (Xc.bind (Xc.bind (Xc.bind (Xc.bind (getX g722.2.1 (-(1 : Int))) fun t726 => (Xc.ok (t726 :: ([] : List Int)))) fun t727 => (Xc.ok (g722.2.2.2.2.2.2.2.2.2.1 :: t727))) fun t728 => (szX t728)) fun t729 => (Xc.ok (t729, ()))) fun t730 => (m__law_lowest t730)) fun t731 => (Xc.ok (t731, ()))) fun t733 => (Xc.ok (t732, t733)))) fun t734 => (m__law_same_number t734)) else Xc.ok false)))))))))))))))))))
def m__law_made (z : (List Int) × Int × (List Int) × Int × Unit) : Xc Bool := (Xc.bind (rngX 0 z.2.1) fun t767 => (forK (forX (fun (g753 : ((List Int) × (Int × ((List Int) × (Int × Unit))))) a754 => (Xc.bind (Xc.bind (Xc.bind (Xc.bind (m_Affine_variable (g753.2.1, (a754, ()))) fun t760 => (Xc.bind (Xc.bind (Xc.bind (Xc.bind (rngX 0 g753.2.1) fun t756 => (compX (fun a755 => (Xc.ok true)) (fun a755 => (Xc.ok (if (decide (a755 = a754)) = true then (1 : Int) else 0))) t756)) fun t757 => (Xc.bind (szX ((0 : Int) :: ((1 : Int) :: ([] : List Int)))) fun t758 => (catL t757 t758))) fun t759 => (Xc.ok (t759, ()))) fun t761 => (Xc.ok (t760, t761)))) fun t762 => (m__law_same t762)) fun t763 => (Xc.ok (!t763))) fun t765 => (if t765 = true then (Xc.ok (Lp.rt false)) else (Xc.ok (Lp.ct (g753.1, (g753.2.1, (g753.2.2.1, (g753.2.2.2.1, ()))))))))) t767 (z.1, (z.2.1, (z.2.2.1, (z.2.2.2.1, ()))))) id fun (g766 : ((List Int) × (Int × ((List Int) × (Int × Unit))))) => (Xc.bind (Xc.bind (Xc.bind (Xc.bind (Xc.bind (getX g766.2.2.1 (0 : Int)) fun t768 => (Xc.ok (t768 :: (g766.2.2.2.1 :: ([] : List Int))))) fun t769 => (szX t769)) fun t770 => (Xc.ok (t770, ()))) fun t771 => (m__law_lowest t771)) fun t772 => (Xc.bind (Xc.bind (Xc.bind (Xc.bind (Xc.bind (Xc.bind (Xc.bind (Xc.bind (getX t772 (0 : Int)) fun t773 => (Xc.bind (getX t772 (1 : Int)) fun t774 => (Xc.ok (t773, t774)))) fun t775 => (Xc.ok (t775, ()))) fun t776 => (Xc.ok (g766.2.1, t776))) fun t777 => (m_Affine_level t777)) fun t781 => (Xc.bind (Xc.bind (Xc.bind (Xc.bind (szX ((0 : Int) :: ([] : List Int))) fun t778 => (repX t778 g766.2.1)) fun t779 => (catL t779 t772)) fun t780 => (Xc.ok (t780, ()))) fun t782 => (Xc.ok (t781, t782)))) fun t783 => (m__law_same t783)) fun t784 => (Xc.ok (!t784))) fun t836 => (if t836 = true then (Xc.ok false) else (Xc.bind (Xc.bind (rngX 0 g766.2.1) fun t795 => (compX (fun a786 => (Xc.ok true)) (fun a786 => (Xc.bind (Xc.bind (Xc.bind (Xc.bind (getX g766.2.2.1 a786) fun t790 => (Xc.bind (Xc.bind (Xc.bind (Xc.bind (getX g766.1 a786) fun t787 => (modX t787 (9 : Int))) fun t788 => (Xc.ok ((1 : Int) + t788))) fun t789 => (Xc.ok (t789 :: ([] : List Int)))) fun t791 => (Xc.ok (t790 :: t791)))) fun t792 => (szX t792)) fun t793 => (Xc.ok (t793, ()))) fun t794 => (m__law_lowest t794))) t795)) fun t796 => (Xc.bind (getX t772 (1 : Int)) fun t797 => (Xc.bind (foldX (fun (g801 : ((List Int) × (Int × ((List Int) × (Int × ((List Int) × ((List (List Int)) × (Int × Unit)))))))) a802 => (Xc.bind (Xc.bind (getX a802 (1 : Int)) fun t803 => (mulX g801.2.2.2.2.2.2.1 t803)) fun t804 => (Xc.ok (g801.1, (g801.2.1, (g801.2.2.1, (g801.2.2.2.1, (g801.2.2.2.2.1, (g801.2.2.2.2.2.1, (t804, ())))))))))) t796 (g766.1, (g766.2.1, (g766.2.2.1, (g766.2.2.2.1, (t772, (t796, (t797, ())))))))) fun (g806 : ((List Int) × (Int × ((List Int) × (Int × ((List Int) × ((List (List Int)) × (Int × Unit)))))))) => (Xc.bind (Xc.bind (Xc.bind (Xc.bind (compX (fun a807 => (Xc.ok true)) (fun a807 => (Xc.bind (getX a807 (0 : Int)) fun t809 => (Xc.bind (Xc.bind (getX a807 (1 : Int)) fun t808 => (fdvX g806.2.2.2.2.2.2.1 t808)) fun t810 => (mulX t809 t810)))) g806.2.2.2.2.2.1) fun t816 => (Xc.bind (Xc.bind (Xc.bind (Xc.bind (getX g806.2.2.2.2.1 (0 : Int)) fun t812 => (Xc.bind (Xc.bind (getX g806.2.2.2.2.1 (1 : Int)) fun t811 => (fdvX g806.2.2.2.2.2.2.1 t811)) fun t813 => (mulX t812 t813))) fun t814 => (Xc.ok (t814 :: (g806.2.2.2.2.2.2.1 :: ([] : List Int))))) fun t815 => (szX t815)) fun t817 => (catL t816 t817))) fun t818 => (Xc.ok (t818, ()))) fun t819 => (m__law_lowest t819)) fun t820 => (Xc.bind (compX (fun a821 => (Xc.ok true)) (fun a821 => (Xc.bind (getX a821 (0 : Int)) fun t822 => (Xc.bind (getX a821 (1 : Int)) fun t823 => (Xc.ok (t822, t823))))) g806.2.2.2.2.2.1) fun t824 => (Xc.bind (Xc.bind (Xc.bind (Xc.bind (Xc.bind (getX g806.2.2.2.2.1 (0 : Int)) fun t825 => (Xc.bind (getX g806.2.2.2.2.1 (1 : Int)) fun t826 => (Xc.ok (t825, t826)))) fun t827 => (Xc.ok (t827, ()))) fun t828 => (Xc.ok (t824, t828))) fun t829 => (m_Affine_from_numbers t829)) fun t830 => (Xc.bind (m__law_same (t830, (t820, ()))) fun t835 => (if t835 = true then (Xc.bind (compX (fun a831 => (Xc.ok true)) (fun a831 => (Xc.bind (getX a831 (0 : Int)) fun t832 => (Xc.bind (getX a831 (1 : Int)) fun t833 => (Xc.ok (t832, t833))))) g806.2.2.2.2.2.1) fun t834 => (eqdX t824 t834)) else Xc.ok false)))))))))))))
def m_law (z : (List Int) × Unit) : Xc Bool := (Xc.bind (m__law_draws (z.1, ((48 : Int), ()))) fun t837 => (Xc.bind (Xc.bind (Xc.bind (getX t837 (0 : Int)) fun t838 => (modX t838 (6 : Int))) fun t839 => (Xc.ok ((1 : Int) + t839))) fun t840 => (Xc.bind (Xc.bind (Xc.bind (getX t837 (1 : Int)) fun t841 => (modX t841 (8 : Int))) fun t842 => (Xc.ok (decide (t842 = (3 : Int))))) fun t843 => (Xc.bind (m__law_values (t837, ((2 : Int), (t840, (t843, ()))))) fun t844 => (Xc.bind (m__law_values (t837, ((10 : Int), (t840, (t843, ()))))) fun t845 => (Xc.bind (Xc.bind (Xc.bind (Xc.bind (getX t837 (1 : Int)) fun t846 => (modX t846 (5 : Int))) fun t847 => (Xc.ok (decide (t847 = (2 : Int))))) fun t871 => (if t871 = true then (Xc.bind (compX (fun a859 => (Xc.ok true)) (fun a859 => (mulX (4 : Int) a859)) t844) fun t860 => (Xc.bind (Xc.bind (Xc.bind (Xc.bind (getX t837 (18 : Int)) fun t861 => (modX t861 (t840 + (1 : Int)))) fun t862 => (getX t860 t862)) fun t864 => (Xc.bind (Xc.bind (getX t837 (19 : Int)) fun t863 => (modX t863 (2 : Int))) fun t865 => (Xc.ok (t864 + t865)))) fun t867 => (Xc.bind (Xc.bind (getX t837 (18 : Int)) fun t866 => (modX t866 (t840 + (1 : Int)))) fun t868 => (Xc.bind (setX t860 t868 t867) fun t869 => (Xc.ok (z.1, (t837, (t840, (t843, (t844, (t869, ()))))))))))) else (Xc.ok (z.1, (t837, (t840, (t843, (t844, (t845, ()))))))))) fun (g872 : ((List Int) × ((List Int) × (Int × (Bool × ((List Int) × (List Int × Unit))))))) => (Xc.bind (Xc.bind (rngX 0 g872.2.2.1) fun t876 => (compX (fun a873 => (Xc.ok true)) (fun a873 => (Xc.bind (Xc.bind (getX g872.2.1 ((20 : Int) + a873)) fun t874 => (modX t874 (19 : Int))) fun t875 => (Xc.ok (t875 - (9 : Int))))) t876)) fun t877 => (Xc.bind (Xc.bind (Xc.bind (getX g872.2.1 (26 : Int)) fun t878 => (modX t878 (9 : Int))) fun t879 => (Xc.ok ((1 : Int) + t879))) fun t880 => (Xc.bind (Xc.bind (Xc.bind (getX g872.2.1 (27 : Int)) fun t881 => (modX t881 (19 : Int))) fun t882 => (Xc.ok (t882 - (9 : Int)))) fun t883 => (Xc.bind (Xc.bind (rngX 0 g872.2.2.1) fun t887 => (compX (fun a884 => (Xc.ok true)) (fun a884 => (Xc.bind (Xc.bind (getX g872.2.1 ((28 : Int) + a884)) fun t885 => (modX t885 (19 : Int))) fun t886 => (Xc.ok (t886 - (9 : Int))))) t887)) fun t888 => (Xc.bind (Xc.bind (getX g872.2.1 (34 : Int)) fun t889 => (modX t889 (g872.2.2.1 + (1 : Int)))) fun t890 => (Xc.bind (Xc.bind (Xc.bind (Xc.bind (getX g872.2.2.2.2.1 (-(2 : Int))) fun t892 => (Xc.bind (Xc.bind (getX g872.2.2.2.2.1 (-(1 : Int))) fun t891 => (Xc.ok (t891, ()))) fun t893 => (Xc.ok (t892, t893)))) fun t894 => (Xc.ok ((cutL g872.2.2.2.2.1 none (some (-(2 : Int)))), t894))) fun t895 => (Xc.bind (m_Affine___init___l t895) fun t896 => (Xc.ok (⟨t896⟩ : Ty_Affine)))) fun t897 => (Xc.bind (Xc.bind (eqdX (cutL g872.2.2.2.2.1 none (some (-(2 : Int)))) (cutL g872.2.2.2.2.1 none (some (-(2 : Int))))) fun t => Xc.ok (!t)) fun t1029 => (if t1029 = true then (Xc.ok false) else (Xc.bind (appX (cutL g872.2.2.2.2.1 none (some (-(2 : Int)))) (1 : Int)) fun t900 => (Xc.bind (Xc.bind (Xc.bind (Xc.bind (getX g872.2.2.2.2.2.1 (-(2 : Int))) fun t902 => (Xc.bind (Xc.bind (getX g872.2.2.2.2.2.1 (-(1 : Int))) fun t901 => (Xc.ok (t901, ()))) fun t903 => (Xc.ok (t902, t903)))) fun t904 => (Xc.ok ((tu (cutL g872.2.2.2.2.2.1 none (some (-(2 : Int))))), t904))) fun t905 => (Xc.bind (m_Affine___init___u t905) fun t906 => (Xc.ok (⟨t906⟩ : Ty_Affine)))) fun t907 => (Xc.bind (m__law_lowest (g872.2.2.2.2.1, ())) fun t908 => (Xc.bind (m__law_lowest (g872.2.2.2.2.2.1, ())) fun t909 => (Xc.bind (Xc.bind (Xc.bind (Xc.bind (szX (t880 :: ([] : List Int))) fun t910 => (catL t877 t910)) fun t911 => (Xc.ok (t911, ()))) fun t912 => (m__law_lowest t912)) fun t913 => (Xc.bind (Xc.bind (Xc.bind (m__law_same (t897, (t908, ()))) fun t914 => (Xc.ok (!t914))) fun t916 => (if t916 = true then Xc.ok true else (Xc.bind (m__law_same (t907, (t909, ()))) fun t915 => (Xc.ok (!t915))))) fun t1028 => (if t1028 = true then (Xc.ok false) else (Xc.bind (Xc.bind (Xc.bind (Xc.bind (Xc.bind (Xc.bind (Xc.bind (getX t913 (-(1 : Int))) fun t918 => (Xc.ok ((tu (cutL t913 none (some (-(1 : Int))))), t918))) fun t919 => (Xc.ok (t919, ()))) fun t920 => (m_Affine___call__ (t897, t920))) fun t922 => (Xc.bind (Xc.bind (m__law_value (t908, (t877, (t880, ())))) fun t921 => (Xc.ok (t921, ()))) fun t923 => (Xc.ok (t922, t923)))) fun t924 => (m__law_same_number t924)) fun t925 => (Xc.ok (!t925))) fun t1027 => (if t1027 = true then (Xc.ok false) else (Xc.bind (Xc.bind (Xc.bind (Xc.bind (Xc.bind (m_Affine___add__ (t897, (t907, ()))) fun t928 => (Xc.bind (Xc.bind (m__law_sum (t908, (t909, ((1 : Int), ())))) fun t927 => (Xc.ok (t927, ()))) fun t929 => (Xc.ok (t928, t929)))) fun t930 => (m__law_same t930)) fun t931 => (Xc.ok (!t931))) fun t937 => (if t937 = true then Xc.ok true else (Xc.bind (Xc.bind (Xc.bind (m_Affine___sub__ (t897, (t907, ()))) fun t933 => (Xc.bind (Xc.bind (m__law_sum (t908, (t909, ((-(1 : Int)), ())))) fun t932 => (Xc.ok (t932, ()))) fun t934 => (Xc.ok (t933, t934)))) fun t935 => (m__law_same t935)) fun t936 => (Xc.ok (!t936))))) fun t1026 => (if t1026 = true then (Xc.ok false) else (Xc.bind (Xc.bind (Xc.bind (Xc.bind (compX (fun a939 => (Xc.ok true)) (fun a939 => (mulX t883 a939)) (cutL t908 none (some (-(1 : Int))))) fun t940 => (catL t940 (cutL t908 (some (-(1 : Int))) none))) fun t941 => (Xc.ok (t941, ()))) fun t942 => (m__law_lowest t942)) fun t943 => (Xc.bind (Xc.bind (Xc.bind (Xc.bind (Xc.bind (m_Affine___mul__ (t897, (t883, ()))) fun t944 => (Xc.ok (t944, (t943, ())))) fun t945 => (m__law_same t945)) fun t946 => (Xc.ok (!t946))) fun t950 => (if t950 = true then Xc.ok true else (Xc.bind (Xc.bind (Xc.bind (m_Affine___rmul__ (t897, (t883, ()))) fun t947 => (Xc.ok (t947, (t943, ())))) fun t948 => (m__law_same t948)) fun t949 => (Xc.ok (!t949))))) fun t1025 => (if t1025 = true then (Xc.ok false) else (Xc.bind (Xc.bind (compX (fun a952 => (Xc.ok true)) (fun a952 => (Xc.ok (-a952))) (cutL t908 none (some (-(1 : Int))))) fun t953 => (catL t953 (cutL t908 (some (-(1 : Int))) none))) fun t954 => (Xc.bind (Xc.bind (Xc.bind (Xc.bind (m_Affine___neg__ (t897, ())) fun t955 => (Xc.ok (t955, (t954, ())))) fun t956 => (m__law_same t956)) fun t957 => (Xc.ok (!t957))) fun t1024 => (if t1024 = true then (Xc.ok false) else (Xc.bind (Xc.bind (Xc.bind (Xc.bind (compX (fun a959 => (Xc.ok true)) (fun a959 => (mulX t883 a959)) (cutL t908 none (some (-(1 : Int))))) fun t963 => (Xc.bind (Xc.bind (Xc.bind (Xc.bind (getX t908 (-(1 : Int))) fun t960 => (mulX t960 t880)) fun t961 => (Xc.ok (t961 :: ([] : List Int)))) fun t962 => (szX t962)) fun t964 => (catL t963 t964))) fun t965 => (Xc.ok (t965, ()))) fun t966 => (m__law_lowest t966)) fun t967 => (Xc.bind (Xc.bind (Xc.bind (szX (t883 :: (t880 :: ([] : List Int)))) fun t968 => (Xc.ok (t968, ()))) fun t969 => (m__law_lowest t969)) fun t970 => (Xc.bind (Xc.bind (Xc.bind (Xc.bind (Xc.bind (Xc.bind (Xc.bind (getX t970 (0 : Int)) fun t971 => (Xc.bind (getX t970 (1 : Int)) fun t972 => (Xc.ok (t971, t972)))) fun t973 => (Xc.ok (t973, ()))) fun t974 => (m_Affine_scaled (t897, t974))) fun t975 => (Xc.ok (t975, (t967, ())))) fun t976 => (m__law_same t976)) fun t977 => (Xc.ok (!t977))) fun t1023 => (if t1023 = true then (Xc.ok false) else (Xc.bind (Xc.bind (Xc.bind (Xc.bind (Xc.bind (m_Affine___eq___a (t897, (t907, ()))) fun t980 => (Xc.bind (Xc.bind (eqdX t908 t909) fun t979 => (Xc.ok (t979, ()))) fun t981 => (Xc.ok (t980, t981)))) fun t982 => (m__law_truth t982)) fun t983 => (Xc.ok (!t983))) fun t989 => (if t989 = true then Xc.ok true else (Xc.bind (Xc.bind (Xc.bind (m_Affine___eq___a (t907, (t897, ()))) fun t985 => (Xc.bind (Xc.bind (eqdX t908 t909) fun t984 => (Xc.ok (t984, ()))) fun t986 => (Xc.ok (t985, t986)))) fun t987 => (m__law_truth t987)) fun t988 => (Xc.ok (!t988))))) fun t1022 => (if t1022 = true then (Xc.ok false) else (Xc.bind (Xc.bind (Xc.bind (Xc.bind (Xc.bind (Xc.bind (Xc.bind (compX (fun a991 => (Xc.ok true)) (fun a991 => (mulX (3 : Int) a991)) (cutL t908 none (some (-(2 : Int))))) fun t997 => (Xc.bind (Xc.bind (Xc.bind (getX t908 (-(2 : Int))) fun t992 => (mulX (3 : Int) t992)) fun t995 => (Xc.bind (Xc.bind (Xc.bind (getX t908 (-(1 : Int))) fun t993 => (mulX (3 : Int) t993)) fun t994 => (Xc.ok (t994, ()))) fun t996 => (Xc.ok (t995, t996)))) fun t998 => (Xc.ok (t997, t998)))) fun t999 => (Xc.bind (m_Affine___init___l t999) fun t1000 => (Xc.ok (⟨t1000⟩ : Ty_Affine)))) fun t1001 => (m_Affine___eq___a (t897, (t1001, ())))) fun t1002 => (Xc.ok (t1002, (true, ())))) fun t1003 => (m__law_truth t1003)) fun t1004 => (Xc.ok (!t1004))) fun t1021 => (if t1021 = true then (Xc.ok false) else (Xc.bind (Xc.bind (Xc.bind (Xc.bind (Xc.bind (m_Affine___eq___i (t897, (t883, ()))) fun t1006 => (Xc.ok (t1006, (false, ())))) fun t1007 => (m__law_truth t1007)) fun t1008 => (Xc.ok (!t1008))) fun t1013 => (if t1013 = true then Xc.ok true else (Xc.bind (Xc.bind (Xc.bind (Xc.bind (m_Affine_placed (t897, ((g872.2.2.1 + (1 : Int)), ((0 : Int), ())))) fun t1009 => (m_Affine___eq___a (t897, (t1009, ())))) fun t1010 => (Xc.ok (t1010, (false, ())))) fun t1011 => (m__law_truth t1011)) fun t1012 => (Xc.ok (!t1012))))) fun t1020 => (if t1020 = true then (Xc.ok false) else (Xc.bind (Xc.bind (m__law_made ((cutL g872.2.1 (some (35 : Int)) (some (41 : Int))), (g872.2.2.1, (t877, (t880, ()))))) fun t1015 => (Xc.ok (!t1015))) fun t1019 => (if t1019 = true then (Xc.ok false) else (Xc.bind (m__law_parts (t897, (t908, (t890, (t877, (t880, (t888, ()))))))) fun t1018 => (if t1018 = true then (Xc.bind (m__law_same (t897, (t908, ()))) fun t1017 => (if t1017 = true then (m__law_same (t907, (t909, ()))) else Xc.ok false)) else Xc.ok false)))))))))))))))))))))))))))))))))))))))))))))
structure T0 (K : PySem.W.Frag) (mg : Str → Option Value) : Prop where
  f_abs : mg "abs" = none
  f_any : mg "any" = none
  f_bool : mg "bool" = none
  f_int : mg "int" = none
  f_isinstance : mg "isinstance" = none
  f_len : mg "len" = none
  f_list : mg "list" = none
  f_range : mg "range" = none
  f_tuple : mg "tuple" = none
  f_zip : mg "zip" = none
  gcd : mg "gcd" = some (.builtin "math.gcd")
  lcm : mg "lcm" = some (.builtin "math.lcm")
  g_Affine : mg "Affine" = some (.ref (He.ga K "Affine"))
  x_BadNumber : Xk K mg "BadNumber"
  cl_Affine : Cls K (He.ga K "Affine")
  na_Affine_bottom : NoAttr K (He.ga K "Affine") "bottom"
  na_Affine_coefs : NoAttr K (He.ga K "Affine") "coefs"
  na_Affine_constant : NoAttr K (He.ga K "Affine") "constant"
  na_Affine_size : NoAttr K (He.ga K "Affine") "size"
  me_Affine___add__ : Meth K (He.ga K "Affine") "__add__" (He.ma K (He.ga K "Affine") "__add__")
  me_Affine___call__ : Meth K (He.ga K "Affine") "__call__" (He.ma K (He.ga K "Affine") "__call__")
  me_Affine___eq__ : Meth K (He.ga K "Affine") "__eq__" (He.ma K (He.ga K "Affine") "__eq__")
  me_Affine___mul__ : Meth K (He.ga K "Affine") "__mul__" (He.ma K (He.ga K "Affine") "__mul__")
  me_Affine___neg__ : Meth K (He.ga K "Affine") "__neg__" (He.ma K (He.ga K "Affine") "__neg__")
  me_Affine___rmul__ : Meth K (He.ga K "Affine") "__rmul__" (He.ma K (He.ga K "Affine") "__rmul__")
  me_Affine___sub__ : Meth K (He.ga K "Affine") "__sub__" (He.ma K (He.ga K "Affine") "__sub__")
  me_Affine_fixed : Meth K (He.ga K "Affine") "fixed" (He.ma K (He.ga K "Affine") "fixed")
  me_Affine_head : Meth K (He.ga K "Affine") "head" (He.ma K (He.ga K "Affine") "head")
  me_Affine_homogeneous : Meth K (He.ga K "Affine") "homogeneous" (He.ma K (He.ga K "Affine") "homogeneous")
  me_Affine_placed : Meth K (He.ga K "Affine") "placed" (He.ma K (He.ga K "Affine") "placed")
  me_Affine_scaled : Meth K (He.ga K "Affine") "scaled" (He.ma K (He.ga K "Affine") "scaled")
  me_Affine_slope : Meth K (He.ga K "Affine") "slope" (He.ma K (He.ga K "Affine") "slope")
  me_Affine_tail : Meth K (He.ga K "Affine") "tail" (He.ma K (He.ga K "Affine") "tail")
  me_Affine_uses : Meth K (He.ga K "Affine") "uses" (He.ma K (He.ga K "Affine") "uses")
  rd_Affine : ClX.CRead K (He.ga K "Affine") (.type "type")
  wr_Affine_from_numbers : He5.wrapB K (He.ga K "Affine") "staticmethod" "staticmethod.__get__" "from_numbers" = true
  wr_Affine_level : He5.wrapB K (He.ga K "Affine") "staticmethod" "staticmethod.__get__" "level" = true
  wr_Affine_variable : He5.wrapB K (He.ga K "Affine") "staticmethod" "staticmethod.__get__" "variable" = true
  isi_Affine : Isi K "Affine"
  sf_Affine : PySem.W.selfFirst K (He.ga K "Affine") = true
  oi_Affine___mul__ : OpI K "Affine" "__mul__" "__rmul__"
  sbi_Affine : PySem.W.subIn K (.ref (He.ga K "Affine")) (.type "int") = some false
  nfi_Affine : PySem.W.notFirst K (He.ga K "Affine") (.type "int") = true
  fnc_Affine : PySem.W.fnIn K (He.ma K (He.ga K "Affine") "__call__") = true
  ki_Affine_Affine : PySem.W.kitOne K (.ref (He.ga K "Affine")) (.ref (He.ga K "Affine")) = some true
  ki_int_Affine : PySem.W.kitOne K (.type "int") (.ref (He.ga K "Affine")) = some false
end LW

namespace LW
open PySem L2 FL
section
variable {P : Program} {w : World} {K : PySem.W.Frag} {mg : Str → Option Value} {base : Heap}
abbrev N_ratio : List Str := [("top" : Str), ("bottom" : Str), ("common" : Str)]
theorem sc_ratio : FnScope N_ratio [("top" : Str), ("bottom" : Str)] (defScope (top 5)) := ⟨rfl, rfl, rfl, by decide +kernel, rfl, by decide +kernel, by decide +kernel⟩
theorem d_ratio {f : Addr} {fd : FuncData} (Fd : FnP K "ratio" (top 5) f fd) (T : T0 K mg)  : FnOk P w K mg base (L2.CX P w) 1 f fd [("top" : Str), ("bottom" : Str)] (spF K (rtF (Int × Int)) m_ratio) :=
  fn_def (αs := Int × Int × Unit) (G' := nl) (n := 1) Fd sc_ratio rfl rfl (fun cdv A outer s F H E hr tk =>
    (fss_cons (fs_if (ft_eq (fe_var 1) fe_int) (fss_one (fs_rai tk T.x_BadNumber)) fss_nil)
    (fss_cons (fs_B (fn_set 2 rfl (fe_gcd (fe_var 0) (fe_var 1) T.gcd) sc_ratio.nd))
    (fss_cons (fs_n (fn_if (ft_lt (fe_var 1) fe_int) (fns_B (fn_set 2 rfl (fe_neg (fe_var 2)) sc_ratio.nd) fns_nil) fns_nil))
    (fss_one (fs_ret (fe_tup2 (fe_fdv (fe_var 0) (fe_var 2)) (fe_fdv (fe_var 1) (fe_var 2))))))))) (fun z => by simp only [bind_ok']; rfl)
abbrev N_common_divisor_l : List Str := [("tops" : Str), ("start" : Str), ("common" : Str), ("top" : Str)]
theorem sc_common_divisor_l : FnScope N_common_divisor_l [("tops" : Str), ("start" : Str)] (defScope (top 7)) := ⟨rfl, rfl, rfl, by decide +kernel, rfl, by decide +kernel, by decide +kernel⟩
theorem d_common_divisor_l {f : Addr} {fd : FuncData} (Fd : FnP K "common_divisor" (top 7) f fd) (T : T0 K mg)  : FnOk P w K mg base (L2.CX P w) 1 f fd [("tops" : Str), ("start" : Str)] (spF K (rtF Int) m_common_divisor_l) :=
  fn_def (αs := (List Int) × Int × Unit) (G' := nl) (n := 2) Fd sc_common_divisor_l rfl rfl (fun cdv A outer s F H E hr tk =>
    (fss_cons (fs_B (fn_set 2 rfl (fe_abs (fe_var 1) (T.f_abs)) sc_common_divisor_l.nd))
    (fss_cons (fs_n (fn_for (passes_of rfl) (fi_list (fe_var 0)) (fg_name 3 rfl sc_common_divisor_l.nd) (fns_B (fn_set 2 rfl (fe_gcd (fe_var 2) (fe_var 3) T.gcd) sc_common_divisor_l.nd) (fns_nilS (G' := (va (List Int) (va Int (va Int (un nl)))))))))
    (fss_one (fs_ret (fe_var 2)))))) (fun z => by simp only [bind_ok']; rfl)
abbrev N_common_divisor_u : List Str := [("tops" : Str), ("start" : Str), ("common" : Str), ("top" : Str)]
theorem sc_common_divisor_u : FnScope N_common_divisor_u [("tops" : Str), ("start" : Str)] (defScope (top 7)) := ⟨rfl, rfl, rfl, by decide +kernel, rfl, by decide +kernel, by decide +kernel⟩
theorem d_common_divisor_u {f : Addr} {fd : FuncData} (Fd : FnP K "common_divisor" (top 7) f fd) (T : T0 K mg)  : FnOk P w K mg base (L2.CX P w) 1 f fd [("tops" : Str), ("start" : Str)] (spF K (rtF Int) m_common_divisor_u) :=
  fn_def (αs := (Tu Int) × Int × Unit) (G' := nl) (n := 2) Fd sc_common_divisor_u rfl rfl (fun cdv A outer s F H E hr tk =>
    (fss_cons (fs_B (fn_set 2 rfl (fe_abs (fe_var 1) (T.f_abs)) sc_common_divisor_u.nd))
    (fss_cons (fs_n (fn_for (passes_of rfl) (fi_tup (fe_var 0)) (fg_name 3 rfl sc_common_divisor_u.nd) (fns_B (fn_set 2 rfl (fe_gcd (fe_var 2) (fe_var 3) T.gcd) sc_common_divisor_u.nd) (fns_nilS (G' := (va (Tu Int) (va Int (va Int (un nl)))))))))
    (fss_one (fs_ret (fe_var 2)))))) (fun z => by simp only [bind_ok']; rfl)
abbrev N_point_l : List Str := [("tops" : Str), ("bottom" : Str), ("common" : Str), ("top" : Str)]
theorem sc_point_l : FnScope N_point_l [("tops" : Str), ("bottom" : Str)] (defScope (top 8)) := ⟨rfl, rfl, rfl, by decide +kernel, rfl, by decide +kernel, by decide +kernel⟩
theorem d_point_l {f : Addr} {fd : FuncData} (Fd : FnP K "point" (top 8) f fd) (T : T0 K mg) (D_common_divisor_l : Dk P w K mg base "common_divisor" [("tops" : Str), ("start" : Str)] 1 (spF K (rtF Int) m_common_divisor_l)) : FnOk P w K mg base (L2.CX P w) 2 f fd [("tops" : Str), ("bottom" : Str)] (spF K (rtF ((Tu Int) × Int)) m_point_l) :=
  fn_def (αs := (List Int) × Int × Unit) (G' := nl) (n := 2) Fd sc_point_l rfl rfl (fun cdv A outer s F H E hr tk =>
    (fss_cons (fs_if (ft_eq (fe_var 1) fe_int) (fss_one (fs_rai tk T.x_BadNumber)) fss_nil)
    (fss_cons (fs_B (fn_set 2 rfl (fe_cal D_common_divisor_l tk hr (fa_cons (fe_var 0) (fa_cons (fe_var 1) fa_nil))) sc_point_l.nd))
    (fss_cons (fs_n (fn_if (ft_lt (fe_var 1) fe_int) (fns_B (fn_set 2 rfl (fe_neg (fe_var 2)) sc_point_l.nd) fns_nil) fns_nil))
    (fss_one (fs_ret (fe_tup2 (fe_tupL (fe_fz (fo_lc (vs := [3]) (own := [(("top" : Str), 3)]) rfl (blkOk_by (N := N_point_l) (sc := defScope (top 8)) (by decide +kernel)) sc_point_l.nd (fi_list (fe_var 0)) (fgb_name 3 sc_point_l.nd) fts_nil (fun s H C cl fp => (fe_fdv (fe_var 3) (fe_var 2))))) (T.f_tuple)) (fe_fdv (fe_var 1) (fe_var 2))))))))) (fun z => by simp only [bind_ok']; rfl)
abbrev N_point_u : List Str := [("tops" : Str), ("bottom" : Str), ("common" : Str), ("top" : Str)]
theorem sc_point_u : FnScope N_point_u [("tops" : Str), ("bottom" : Str)] (defScope (top 8)) := ⟨rfl, rfl, rfl, by decide +kernel, rfl, by decide +kernel, by decide +kernel⟩
theorem d_point_u {f : Addr} {fd : FuncData} (Fd : FnP K "point" (top 8) f fd) (T : T0 K mg) (D_common_divisor_u : Dk P w K mg base "common_divisor" [("tops" : Str), ("start" : Str)] 1 (spF K (rtF Int) m_common_divisor_u)) : FnOk P w K mg base (L2.CX P w) 2 f fd [("tops" : Str), ("bottom" : Str)] (spF K (rtF ((Tu Int) × Int)) m_point_u) :=
  fn_def (αs := (Tu Int) × Int × Unit) (G' := nl) (n := 2) Fd sc_point_u rfl rfl (fun cdv A outer s F H E hr tk =>
    (fss_cons (fs_if (ft_eq (fe_var 1) fe_int) (fss_one (fs_rai tk T.x_BadNumber)) fss_nil)
    (fss_cons (fs_B (fn_set 2 rfl (fe_cal D_common_divisor_u tk hr (fa_cons (fe_var 0) (fa_cons (fe_var 1) fa_nil))) sc_point_u.nd))
    (fss_cons (fs_n (fn_if (ft_lt (fe_var 1) fe_int) (fns_B (fn_set 2 rfl (fe_neg (fe_var 2)) sc_point_u.nd) fns_nil) fns_nil))
    (fss_one (fs_ret (fe_tup2 (fe_tupL (fe_fz (fo_lc (vs := [3]) (own := [(("top" : Str), 3)]) rfl (blkOk_by (N := N_point_u) (sc := defScope (top 8)) (by decide +kernel)) sc_point_u.nd (fi_tup (fe_var 0)) (fgb_name 3 sc_point_u.nd) fts_nil (fun s H C cl fp => (fe_fdv (fe_var 3) (fe_var 2))))) (T.f_tuple)) (fe_fdv (fe_var 1) (fe_var 2))))))))) (fun z => by simp only [bind_ok']; rfl)
abbrev N_point_of : List Str := [("numbers" : Str), ("bottom" : Str), ("number" : Str)]
theorem sc_point_of : FnScope N_point_of [("numbers" : Str)] (defScope (top 9)) := ⟨rfl, rfl, rfl, by decide +kernel, rfl, by decide +kernel, by decide +kernel⟩
theorem d_point_of {f : Addr} {fd : FuncData} (Fd : FnP K "point_of" (top 9) f fd) (T : T0 K mg) (D_point_l : Dk P w K mg base "point" [("tops" : Str), ("bottom" : Str)] 2 (spF K (rtF ((Tu Int) × Int)) m_point_l)) : FnOk P w K mg base (L2.CX P w) 3 f fd [("numbers" : Str)] (spF K (rtF ((Tu Int) × Int)) m_point_of) :=
  fn_def (αs := (List (Int × Int)) × Unit) (G' := nl) (n := 2) Fd sc_point_of rfl rfl (fun cdv A outer s F H E hr tk =>
    (fss_cons (fs_B (fn_set 1 rfl fe_int sc_point_of.nd))
    (fss_cons (fs_n (fn_for (passes_of rfl) (fi_list (fe_var 0)) (fg_name 2 rfl sc_point_of.nd) (fns_B (fn_set 1 rfl (fe_lcm (fe_var 1) (fe_p1 (fe_var 2)) T.lcm) sc_point_of.nd) (fns_nilS (G' := (va (List (Int × Int)) (va Int (un nl))))))))
    (fss_one (fs_ret (fe_cal D_point_l tk hr (fa_cons (fe_fz (fo_lc (vs := [2]) (own := [(("number" : Str), 2)]) rfl (blkOk_by (N := N_point_of) (sc := defScope (top 9)) (by decide +kernel)) sc_point_of.nd (fi_list (fe_var 0)) (fgb_name 2 sc_point_of.nd) fts_nil (fun s H C cl fp => (fe_mul (fe_p0 (fe_var 2)) (fe_fdv (fe_var 1) (fe_p1 (fe_var 2))))))) (fa_cons (fe_var 1) fa_nil)))))))) (fun z => by simp only [bind_ok']; rfl)
abbrev N_Affine___init___l : List Str := [("self" : Str), ("coefs" : Str), ("constant" : Str), ("bottom" : Str), ("common" : Str), ("coef" : Str)]
theorem sc_Affine___init___l : FnScope N_Affine___init___l [("self" : Str), ("coefs" : Str), ("constant" : Str), ("bottom" : Str)] (defScope mt_Affine___init__) := ⟨rfl, rfl, rfl, by decide +kernel, rfl, by decide +kernel, by decide +kernel⟩
theorem d_Affine___init___l {f : Addr} {fd : FuncData} (Fd : FnM K "__init__" "Affine.__init__" mt_Affine___init__ [.int 1] f fd) (T : T0 K mg) (D_common_divisor_l : Dk P w K mg base "common_divisor" [("tops" : Str), ("start" : Str)] 1 (spF K (rtF Int) m_common_divisor_l)) : FnOk P w K mg base (L2.CX P w) 2 f fd [("self" : Str), ("coefs" : Str), ("constant" : Str), ("bottom" : Str)] (spI K "Affine" Fs_Affine m_Affine___init___l) :=
  fn_init (αs := (List Int) × Int × Int × Unit) (C := "Affine") (nsF := Fs_Affine) (n := 2) Fd sc_Affine___init___l rfl rfl (fun cdv A outer s F H1 H E x hr tk =>
    (fk_n (fun F1 H1 => (fn_if (ft_eq (fe_var 3) fe_int) (fns_one (fn_rai tk T.x_BadNumber)) fns_nil))
    (fk_B (fun F1 H1 => (fn_set 4 rfl (fe_cal D_common_divisor_l tk hr (fa_cons (fe_var 1) (fa_cons (fe_gcd (fe_var 2) (fe_var 3) T.gcd) fa_nil))) sc_Affine___init___l.nd))
    (fk_n (fun F1 H1 => (fn_if (ft_lt (fe_var 3) fe_int) (fns_B (fn_set 4 rfl (fe_neg (fe_var 4)) sc_Affine___init___l.nd) fns_nil) fns_nil))
    (fk_fld (fun F1 H1 => (fe_tupL (fe_fz (fo_lc (vs := [5]) (own := [(("coef" : Str), 5)]) rfl (blkOk_by (N := N_Affine___init___l) (sc := defScope mt_Affine___init__) (by decide +kernel)) sc_Affine___init___l.nd (fi_list (fe_var 1)) (fgb_name 5 sc_Affine___init___l.nd) fts_nil (fun s H C cl fp => (fe_fdv (fe_var 5) (fe_var 4))))) (T.f_tuple)))
    (fk_fld (fun F1 H1 => (fe_fdv (fe_var 2) (fe_var 4)))
    (fk_fld (fun F1 H1 => (fe_fdv (fe_var 3) (fe_var 4)))
    (fk_fld (fun F1 H1 => (fe_len (fe_slf 0 T.cl_Affine T.na_Affine_coefs) (T.f_len)))
    fk_nil T.cl_Affine T.na_Affine_size) T.cl_Affine T.na_Affine_bottom) T.cl_Affine T.na_Affine_constant) T.cl_Affine T.na_Affine_coefs))))) (fun z => by simp only [bind_ok']; rfl)
abbrev N_Affine___init___u : List Str := [("self" : Str), ("coefs" : Str), ("constant" : Str), ("bottom" : Str), ("common" : Str), ("coef" : Str)]
theorem sc_Affine___init___u : FnScope N_Affine___init___u [("self" : Str), ("coefs" : Str), ("constant" : Str), ("bottom" : Str)] (defScope mt_Affine___init__) := ⟨rfl, rfl, rfl, by decide +kernel, rfl, by decide +kernel, by decide +kernel⟩
theorem d_Affine___init___u {f : Addr} {fd : FuncData} (Fd : FnM K "__init__" "Affine.__init__" mt_Affine___init__ [.int 1] f fd) (T : T0 K mg) (D_common_divisor_u : Dk P w K mg base "common_divisor" [("tops" : Str), ("start" : Str)] 1 (spF K (rtF Int) m_common_divisor_u)) : FnOk P w K mg base (L2.CX P w) 2 f fd [("self" : Str), ("coefs" : Str), ("constant" : Str), ("bottom" : Str)] (spI K "Affine" Fs_Affine m_Affine___init___u) :=
  fn_init (αs := (Tu Int) × Int × Int × Unit) (C := "Affine") (nsF := Fs_Affine) (n := 2) Fd sc_Affine___init___u rfl rfl (fun cdv A outer s F H1 H E x hr tk =>
    (fk_n (fun F1 H1 => (fn_if (ft_eq (fe_var 3) fe_int) (fns_one (fn_rai tk T.x_BadNumber)) fns_nil))
    (fk_B (fun F1 H1 => (fn_set 4 rfl (fe_cal D_common_divisor_u tk hr (fa_cons (fe_var 1) (fa_cons (fe_gcd (fe_var 2) (fe_var 3) T.gcd) fa_nil))) sc_Affine___init___u.nd))
    (fk_n (fun F1 H1 => (fn_if (ft_lt (fe_var 3) fe_int) (fns_B (fn_set 4 rfl (fe_neg (fe_var 4)) sc_Affine___init___u.nd) fns_nil) fns_nil))
    (fk_fld (fun F1 H1 => (fe_tupL (fe_fz (fo_lc (vs := [5]) (own := [(("coef" : Str), 5)]) rfl (blkOk_by (N := N_Affine___init___u) (sc := defScope mt_Affine___init__) (by decide +kernel)) sc_Affine___init___u.nd (fi_tup (fe_var 1)) (fgb_name 5 sc_Affine___init___u.nd) fts_nil (fun s H C cl fp => (fe_fdv (fe_var 5) (fe_var 4))))) (T.f_tuple)))
    (fk_fld (fun F1 H1 => (fe_fdv (fe_var 2) (fe_var 4)))
    (fk_fld (fun F1 H1 => (fe_fdv (fe_var 3) (fe_var 4)))
    (fk_fld (fun F1 H1 => (fe_len (fe_slf 0 T.cl_Affine T.na_Affine_coefs) (T.f_len)))
    fk_nil T.cl_Affine T.na_Affine_size) T.cl_Affine T.na_Affine_bottom) T.cl_Affine T.na_Affine_constant) T.cl_Affine T.na_Affine_coefs))))) (fun z => by simp only [bind_ok']; rfl)
abbrev N_Affine_variable : List Str := [("size" : Str), ("k" : Str), ("j" : Str)]
theorem sc_Affine_variable : FnScope N_Affine_variable [("size" : Str), ("k" : Str)] (defScope mt_Affine_variable) := ⟨rfl, rfl, rfl, by decide +kernel, rfl, by decide +kernel, by decide +kernel⟩
theorem d_Affine_variable {f : Addr} {fd : FuncData} (Fd : FnM K "variable" "Affine.variable" mt_Affine_variable [] f fd) (T : T0 K mg) (D_Affine___init___l_D1 : Di P w K mg base "Affine" [("self" : Str), ("coefs" : Str), ("constant" : Str), ("bottom" : Str)] [.int 1] 2 (spI K "Affine" Fs_Affine m_Affine___init___l)) : FnOk P w K mg base (L2.CX P w) 4 f fd [("size" : Str), ("k" : Str)] (spF K (rtF Ty_Affine) m_Affine_variable) :=
  fn_def (αs := Int × Int × Unit) (G' := nl) (n := 1) Fd sc_Affine_variable rfl rfl (fun cdv A outer s F H E hr tk =>
    (fss_one (fs_ret (fe_make1 D_Affine___init___l_D1 tk hr (fa_cons (fe_fz (fo_lc (vs := [2]) (own := [(("j" : Str), 2)]) rfl (blkOk_by (N := N_Affine_variable) (sc := defScope mt_Affine_variable) (by decide +kernel)) sc_Affine_variable.nd (fi_range1 (fe_var 0) (T.f_range)) (fgb_name 2 sc_Affine_variable.nd) fts_nil (fun s H C cl fp => (fe_intB (fe_eq (fe_var 2) (fe_var 1)) (T.f_int))))) (fa_cons fe_int fa_nil)))))) (fun z => by simp only [bind_ok']; rfl)
abbrev N_Affine_level : List Str := [("size" : Str), ("number" : Str)]
theorem sc_Affine_level : FnScope N_Affine_level [("size" : Str), ("number" : Str)] (defScope mt_Affine_level) := ⟨rfl, rfl, rfl, by decide +kernel, rfl, by decide +kernel, by decide +kernel⟩
theorem d_Affine_level {f : Addr} {fd : FuncData} (Fd : FnM K "level" "Affine.level" mt_Affine_level [] f fd) (T : T0 K mg) (D_Affine___init___l : Di P w K mg base "Affine" [("self" : Str), ("coefs" : Str), ("constant" : Str), ("bottom" : Str)] [] 2 (spI K "Affine" Fs_Affine m_Affine___init___l)) : FnOk P w K mg base (L2.CX P w) 4 f fd [("size" : Str), ("number" : Str)] (spF K (rtF Ty_Affine) m_Affine_level) :=
  fn_def (αs := Int × (Int × Int) × Unit) (G' := nl) (n := 0) Fd sc_Affine_level rfl rfl (fun cdv A outer s F H E hr tk =>
    (fss_one (fs_ret (fe_make D_Affine___init___l tk hr (fa_cons (fe_fz (fo_rep (fo_lst (fh_cons fe_int fh_nil)) (fe_var 0))) (fa_cons (fe_p0 (fe_var 1)) (fa_cons (fe_p1 (fe_var 1)) fa_nil))))))) (fun z => by simp only [bind_ok']; rfl)
abbrev N_Affine_from_numbers : List Str := [("coefs" : Str), ("constant" : Str), ("tops" : Str), ("bottom" : Str)]
theorem sc_Affine_from_numbers : FnScope N_Affine_from_numbers [("coefs" : Str), ("constant" : Str)] (defScope mt_Affine_from_numbers) := ⟨rfl, rfl, rfl, by decide +kernel, rfl, by decide +kernel, by decide +kernel⟩
theorem d_Affine_from_numbers {f : Addr} {fd : FuncData} (Fd : FnM K "from_numbers" "Affine.from_numbers" mt_Affine_from_numbers [] f fd) (T : T0 K mg) (D_point_of : Dk P w K mg base "point_of" [("numbers" : Str)] 3 (spF K (rtF ((Tu Int) × Int)) m_point_of)) (D_Affine___init___u : Di P w K mg base "Affine" [("self" : Str), ("coefs" : Str), ("constant" : Str), ("bottom" : Str)] [] 2 (spI K "Affine" Fs_Affine m_Affine___init___u)) : FnOk P w K mg base (L2.CX P w) 4 f fd [("coefs" : Str), ("constant" : Str)] (spF K (rtF Ty_Affine) m_Affine_from_numbers) :=
  fn_def (αs := (List (Int × Int)) × (Int × Int) × Unit) (G' := nl) (n := 2) Fd sc_Affine_from_numbers rfl rfl (fun cdv A outer s F H E hr tk =>
    (fss_cons (fs_B (fn_asg (fe_cal D_point_of tk hr (fa_cons (fe_fz (fo_cat (fo_list (fe_var 0) (T.f_list)) (fo_lst (fh_cons (fe_var 1) fh_nil)))) fa_nil)) (fg_two 2 3 ⟨rfl, rfl⟩ sc_Affine_from_numbers.nd)))
    (fss_one (fs_ret (fe_make D_Affine___init___u tk hr (fa_cons (fe_slU (fe_var 2) fp_none (fp_some (fe_neg fe_int))) (fa_cons (fe_ixU (fe_var 2) (fe_neg fe_int)) (fa_cons (fe_var 3) fa_nil)))))))) (fun z => by simp only [bind_ok']; rfl)
abbrev N_Affine___call__ : List Str := [("self" : Str), ("place" : Str), ("total" : Str), ("coef" : Str), ("top" : Str)]
theorem sc_Affine___call__ : FnScope N_Affine___call__ [("self" : Str), ("place" : Str)] (defScope mt_Affine___call__) := ⟨rfl, rfl, rfl, by decide +kernel, rfl, by decide +kernel, by decide +kernel⟩
theorem d_Affine___call__ {f : Addr} {fd : FuncData} (Fd : FnM K "__call__" "Affine.__call__" mt_Affine___call__ [] f fd) (T : T0 K mg) (D_ratio : Dk P w K mg base "ratio" [("top" : Str), ("bottom" : Str)] 1 (spF K (rtF (Int × Int)) m_ratio)) : FnOk P w K mg base (L2.CX P w) 2 f fd [("self" : Str), ("place" : Str)] (spF K (rtF (Int × Int)) m_Affine___call__) :=
  fn_def (αs := Ty_Affine × ((Tu Int) × Int) × Unit) (G' := nl) (n := 3) Fd sc_Affine___call__ rfl rfl (fun cdv A outer s F H E hr tk =>
    (fss_cons (fs_B (fn_set 2 rfl (fe_mul (fe_fld 1 (fe_var 0) T.cl_Affine T.na_Affine_constant) (fe_p1 (fe_var 1))) sc_Affine___call__.nd))
    (fss_cons (fs_n (fn_for (passes_of rfl) (fi_zipT (fe_fld 0 (fe_var 0) T.cl_Affine T.na_Affine_coefs) (fe_p0 (fe_var 1)) (T.f_zip)) (fg_two 3 4 ⟨rfl, rfl⟩ sc_Affine___call__.nd) (fns_B (fn_set 2 rfl (fe_add (fe_var 2) (fe_mul (fe_var 3) (fe_var 4))) sc_Affine___call__.nd) (fns_nilS (G' := (va Ty_Affine (va ((Tu Int) × Int) (va Int (un (un nl))))))))))
    (fss_one (fs_ret (fe_cal D_ratio tk hr (fa_cons (fe_var 2) (fa_cons (fe_mul (fe_fld 2 (fe_var 0) T.cl_Affine T.na_Affine_bottom) (fe_p1 (fe_var 1))) fa_nil)))))))) (fun z => by simp only [bind_ok']; rfl)
abbrev N_Affine_slope : List Str := [("self" : Str), ("way" : Str), ("total" : Str), ("coef" : Str), ("step" : Str)]
theorem sc_Affine_slope : FnScope N_Affine_slope [("self" : Str), ("way" : Str)] (defScope mt_Affine_slope) := ⟨rfl, rfl, rfl, by decide +kernel, rfl, by decide +kernel, by decide +kernel⟩
theorem d_Affine_slope {f : Addr} {fd : FuncData} (Fd : FnM K "slope" "Affine.slope" mt_Affine_slope [] f fd) (T : T0 K mg) (D_ratio : Dk P w K mg base "ratio" [("top" : Str), ("bottom" : Str)] 1 (spF K (rtF (Int × Int)) m_ratio)) : FnOk P w K mg base (L2.CX P w) 2 f fd [("self" : Str), ("way" : Str)] (spF K (rtF (Int × Int)) m_Affine_slope) :=
  fn_def (αs := Ty_Affine × (List Int) × Unit) (G' := nl) (n := 3) Fd sc_Affine_slope rfl rfl (fun cdv A outer s F H E hr tk =>
    (fss_cons (fs_B (fn_set 2 rfl fe_int sc_Affine_slope.nd))
    (fss_cons (fs_n (fn_for (passes_of rfl) (FZ.fi_zipTL (fe_fld 0 (fe_var 0) T.cl_Affine T.na_Affine_coefs) (fe_var 1) (T.f_zip)) (fg_two 3 4 ⟨rfl, rfl⟩ sc_Affine_slope.nd) (fns_B (fn_set 2 rfl (fe_add (fe_var 2) (fe_mul (fe_var 3) (fe_var 4))) sc_Affine_slope.nd) (fns_nilS (G' := (va Ty_Affine (va (List Int) (va Int (un (un nl))))))))))
    (fss_one (fs_ret (fe_cal D_ratio tk hr (fa_cons (fe_var 2) (fa_cons (fe_fld 2 (fe_var 0) T.cl_Affine T.na_Affine_bottom) fa_nil)))))))) (fun z => by simp only [bind_ok']; rfl)
abbrev N_Affine___eq___a : List Str := [("self" : Str), ("other" : Str)]
theorem sc_Affine___eq___a : FnScope N_Affine___eq___a [("self" : Str), ("other" : Str)] (defScope mt_Affine___eq__) := ⟨rfl, rfl, rfl, by decide +kernel, rfl, by decide +kernel, by decide +kernel⟩
theorem d_Affine___eq___a {f : Addr} {fd : FuncData} (Fd : FnM K "__eq__" "Affine.__eq__" mt_Affine___eq__ [] f fd) (T : T0 K mg)  : FnOk P w K mg base (L2.CX P w) 1 f fd [("self" : Str), ("other" : Str)] (spF K (rtF Bool) m_Affine___eq___a) :=
  fn_def (αs := Ty_Affine × Ty_Affine × Unit) (G' := nl) (n := 0) Fd sc_Affine___eq___a rfl rfl (fun cdv A outer s F H E hr tk =>
    (fss_one (fs_ret (fe_and (fe_isiC (ok := fun K => Isi K "Affine") (ty := fun K => .ref (He.ga K "Affine")) true (fe_var 1) T.isi_Affine T.ki_Affine_Affine T.g_Affine (T.f_isinstance)) (fe_and (fe_eqd hr (fe_fld 0 (fe_var 0) T.cl_Affine T.na_Affine_coefs) (fe_fld 0 (fe_var 1) T.cl_Affine T.na_Affine_coefs)) (fe_and (fe_eq (fe_fld 1 (fe_var 0) T.cl_Affine T.na_Affine_constant) (fe_fld 1 (fe_var 1) T.cl_Affine T.na_Affine_constant)) (fe_one (fe_eq (fe_fld 2 (fe_var 0) T.cl_Affine T.na_Affine_bottom) (fe_fld 2 (fe_var 1) T.cl_Affine T.na_Affine_bottom))))))))) (fun z => by simp only [bind_ok']; rfl)
abbrev N_Affine___eq___i : List Str := [("self" : Str), ("other" : Str)]
theorem sc_Affine___eq___i : FnScope N_Affine___eq___i [("self" : Str), ("other" : Str)] (defScope mt_Affine___eq__) := ⟨rfl, rfl, rfl, by decide +kernel, rfl, by decide +kernel, by decide +kernel⟩
theorem d_Affine___eq___i {f : Addr} {fd : FuncData} (Fd : FnM K "__eq__" "Affine.__eq__" mt_Affine___eq__ [] f fd) (T : T0 K mg)  : FnOk P w K mg base (L2.CX P w) 1 f fd [("self" : Str), ("other" : Str)] (spF K (rtF Bool) m_Affine___eq___i) :=
  fn_def (αs := Ty_Affine × Int × Unit) (G' := nl) (n := 0) Fd sc_Affine___eq___i rfl rfl (fun cdv A outer s F H E hr tk =>
    (fss_one (fs_ret (fe_and (fe_isiC (ok := fun _ => True) (ty := fun _ => .type "int") false (fe_var 1) trivial T.ki_int_Affine T.g_Affine (T.f_isinstance)) fe_dead)))) (fun z => by simp only [bind_ok']; rfl)
abbrev N_Affine___add__ : List Str := [("self" : Str), ("other" : Str), ("bottom" : Str), ("mine" : Str), ("its" : Str), ("coefs" : Str), ("one" : Str), ("two" : Str)]
theorem sc_Affine___add__ : FnScope N_Affine___add__ [("self" : Str), ("other" : Str)] (defScope mt_Affine___add__) := ⟨rfl, rfl, rfl, by decide +kernel, rfl, by decide +kernel, by decide +kernel⟩
theorem d_Affine___add__ {f : Addr} {fd : FuncData} (Fd : FnM K "__add__" "Affine.__add__" mt_Affine___add__ [] f fd) (T : T0 K mg) (D_Affine___init___l : Di P w K mg base "Affine" [("self" : Str), ("coefs" : Str), ("constant" : Str), ("bottom" : Str)] [] 2 (spI K "Affine" Fs_Affine m_Affine___init___l)) : FnOk P w K mg base (L2.CX P w) 4 f fd [("self" : Str), ("other" : Str)] (spF K (rtF Ty_Affine) m_Affine___add__) :=
  fn_def (αs := Ty_Affine × Ty_Affine × Unit) (G' := nl) (n := 6) Fd sc_Affine___add__ rfl rfl (fun cdv A outer s F H E hr tk =>
    (fss_cons (fs_if (ft_not (ft_val (fe_isiC (ok := fun K => Isi K "Affine") (ty := fun K => .ref (He.ga K "Affine")) true (fe_var 1) T.isi_Affine T.ki_Affine_Affine T.g_Affine (T.f_isinstance)))) fss_dead fss_nil)
    (fss_cons (fs_B (fn_set 2 rfl (fe_lcm (fe_fld 2 (fe_var 0) T.cl_Affine T.na_Affine_bottom) (fe_fld 2 (fe_var 1) T.cl_Affine T.na_Affine_bottom) T.lcm) sc_Affine___add__.nd))
    (fss_cons (fs_B (fn_set 3 rfl (fe_fdv (fe_var 2) (fe_fld 2 (fe_var 0) T.cl_Affine T.na_Affine_bottom)) sc_Affine___add__.nd))
    (fss_cons (fs_B (fn_set 4 rfl (fe_fdv (fe_var 2) (fe_fld 2 (fe_var 1) T.cl_Affine T.na_Affine_bottom)) sc_Affine___add__.nd))
    (fss_cons (fs_B (fn_setLcF (vs := [6, 7]) (own := [(("one" : Str), 6), (("two" : Str), 7)]) 5 rfl rfl (blkOk_by (N := N_Affine___add__) (sc := defScope mt_Affine___add__) (by decide +kernel)) sc_Affine___add__.nd (fi_zipT (fe_fld 0 (fe_var 0) T.cl_Affine T.na_Affine_coefs) (fe_fld 0 (fe_var 1) T.cl_Affine T.na_Affine_coefs) (T.f_zip)) (fgb_two 6 7 sc_Affine___add__.nd) fts_nil (fun s H C cl fp => (fe_add (fe_mul (fe_var 3) (fe_var 6)) (fe_mul (fe_var 4) (fe_var 7))))))
    (fss_one (fs_ret (fe_make D_Affine___init___l tk hr (fa_cons (fe_var 5) (fa_cons (fe_add (fe_mul (fe_var 3) (fe_fld 1 (fe_var 0) T.cl_Affine T.na_Affine_constant)) (fe_mul (fe_var 4) (fe_fld 1 (fe_var 1) T.cl_Affine T.na_Affine_constant))) (fa_cons (fe_var 2) fa_nil)))))))))))) (fun z => by simp only [bind_ok']; rfl)
abbrev N_Affine___sub__ : List Str := [("self" : Str), ("other" : Str), ("bottom" : Str), ("mine" : Str), ("its" : Str), ("coefs" : Str), ("one" : Str), ("two" : Str)]
theorem sc_Affine___sub__ : FnScope N_Affine___sub__ [("self" : Str), ("other" : Str)] (defScope mt_Affine___sub__) := ⟨rfl, rfl, rfl, by decide +kernel, rfl, by decide +kernel, by decide +kernel⟩
theorem d_Affine___sub__ {f : Addr} {fd : FuncData} (Fd : FnM K "__sub__" "Affine.__sub__" mt_Affine___sub__ [] f fd) (T : T0 K mg) (D_Affine___init___l : Di P w K mg base "Affine" [("self" : Str), ("coefs" : Str), ("constant" : Str), ("bottom" : Str)] [] 2 (spI K "Affine" Fs_Affine m_Affine___init___l)) : FnOk P w K mg base (L2.CX P w) 4 f fd [("self" : Str), ("other" : Str)] (spF K (rtF Ty_Affine) m_Affine___sub__) :=
  fn_def (αs := Ty_Affine × Ty_Affine × Unit) (G' := nl) (n := 6) Fd sc_Affine___sub__ rfl rfl (fun cdv A outer s F H E hr tk =>
    (fss_cons (fs_if (ft_not (ft_val (fe_isiC (ok := fun K => Isi K "Affine") (ty := fun K => .ref (He.ga K "Affine")) true (fe_var 1) T.isi_Affine T.ki_Affine_Affine T.g_Affine (T.f_isinstance)))) fss_dead fss_nil)
    (fss_cons (fs_B (fn_set 2 rfl (fe_lcm (fe_fld 2 (fe_var 0) T.cl_Affine T.na_Affine_bottom) (fe_fld 2 (fe_var 1) T.cl_Affine T.na_Affine_bottom) T.lcm) sc_Affine___sub__.nd))
    (fss_cons (fs_B (fn_set 3 rfl (fe_fdv (fe_var 2) (fe_fld 2 (fe_var 0) T.cl_Affine T.na_Affine_bottom)) sc_Affine___sub__.nd))
    (fss_cons (fs_B (fn_set 4 rfl (fe_fdv (fe_var 2) (fe_fld 2 (fe_var 1) T.cl_Affine T.na_Affine_bottom)) sc_Affine___sub__.nd))
    (fss_cons (fs_B (fn_setLcF (vs := [6, 7]) (own := [(("one" : Str), 6), (("two" : Str), 7)]) 5 rfl rfl (blkOk_by (N := N_Affine___sub__) (sc := defScope mt_Affine___sub__) (by decide +kernel)) sc_Affine___sub__.nd (fi_zipT (fe_fld 0 (fe_var 0) T.cl_Affine T.na_Affine_coefs) (fe_fld 0 (fe_var 1) T.cl_Affine T.na_Affine_coefs) (T.f_zip)) (fgb_two 6 7 sc_Affine___sub__.nd) fts_nil (fun s H C cl fp => (fe_sub (fe_mul (fe_var 3) (fe_var 6)) (fe_mul (fe_var 4) (fe_var 7))))))
    (fss_one (fs_ret (fe_make D_Affine___init___l tk hr (fa_cons (fe_var 5) (fa_cons (fe_sub (fe_mul (fe_var 3) (fe_fld 1 (fe_var 0) T.cl_Affine T.na_Affine_constant)) (fe_mul (fe_var 4) (fe_fld 1 (fe_var 1) T.cl_Affine T.na_Affine_constant))) (fa_cons (fe_var 2) fa_nil)))))))))))) (fun z => by simp only [bind_ok']; rfl)
abbrev N_Affine___neg__ : List Str := [("self" : Str), ("coef" : Str)]
theorem sc_Affine___neg__ : FnScope N_Affine___neg__ [("self" : Str)] (defScope mt_Affine___neg__) := ⟨rfl, rfl, rfl, by decide +kernel, rfl, by decide +kernel, by decide +kernel⟩
theorem d_Affine___neg__ {f : Addr} {fd : FuncData} (Fd : FnM K "__neg__" "Affine.__neg__" mt_Affine___neg__ [] f fd) (T : T0 K mg) (D_Affine___init___l : Di P w K mg base "Affine" [("self" : Str), ("coefs" : Str), ("constant" : Str), ("bottom" : Str)] [] 2 (spI K "Affine" Fs_Affine m_Affine___init___l)) : FnOk P w K mg base (L2.CX P w) 4 f fd [("self" : Str)] (spF K (rtF Ty_Affine) m_Affine___neg__) :=
  fn_def (αs := Ty_Affine × Unit) (G' := nl) (n := 1) Fd sc_Affine___neg__ rfl rfl (fun cdv A outer s F H E hr tk =>
    (fss_one (fs_ret (fe_make D_Affine___init___l tk hr (fa_cons (fe_fz (fo_lc (vs := [1]) (own := [(("coef" : Str), 1)]) rfl (blkOk_by (N := N_Affine___neg__) (sc := defScope mt_Affine___neg__) (by decide +kernel)) sc_Affine___neg__.nd (fi_tup (fe_fld 0 (fe_var 0) T.cl_Affine T.na_Affine_coefs)) (fgb_name 1 sc_Affine___neg__.nd) fts_nil (fun s H C cl fp => (fe_neg (fe_var 1))))) (fa_cons (fe_neg (fe_fld 1 (fe_var 0) T.cl_Affine T.na_Affine_constant)) (fa_cons (fe_fld 2 (fe_var 0) T.cl_Affine T.na_Affine_bottom) fa_nil))))))) (fun z => by simp only [bind_ok']; rfl)
abbrev N_Affine___mul__ : List Str := [("self" : Str), ("factor" : Str), ("coef" : Str)]
theorem sc_Affine___mul__ : FnScope N_Affine___mul__ [("self" : Str), ("factor" : Str)] (defScope mt_Affine___mul__) := ⟨rfl, rfl, rfl, by decide +kernel, rfl, by decide +kernel, by decide +kernel⟩
theorem d_Affine___mul__ {f : Addr} {fd : FuncData} (Fd : FnM K "__mul__" "Affine.__mul__" mt_Affine___mul__ [] f fd) (T : T0 K mg) (D_Affine___init___l : Di P w K mg base "Affine" [("self" : Str), ("coefs" : Str), ("constant" : Str), ("bottom" : Str)] [] 2 (spI K "Affine" Fs_Affine m_Affine___init___l)) : FnOk P w K mg base (L2.CX P w) 4 f fd [("self" : Str), ("factor" : Str)] (spF K (rtF Ty_Affine) m_Affine___mul__) :=
  fn_def (αs := Ty_Affine × Int × Unit) (G' := nl) (n := 1) Fd sc_Affine___mul__ rfl rfl (fun cdv A outer s F H E hr tk =>
    (fss_cons (fs_if (ft_not (ft_val (fe_isi (U := "int") (fe_var 1) (T.f_isinstance) T.f_int))) fss_dead fss_nil)
    (fss_one (fs_ret (fe_make D_Affine___init___l tk hr (fa_cons (fe_fz (fo_lc (vs := [2]) (own := [(("coef" : Str), 2)]) rfl (blkOk_by (N := N_Affine___mul__) (sc := defScope mt_Affine___mul__) (by decide +kernel)) sc_Affine___mul__.nd (fi_tup (fe_fld 0 (fe_var 0) T.cl_Affine T.na_Affine_coefs)) (fgb_name 2 sc_Affine___mul__.nd) fts_nil (fun s H C cl fp => (fe_mul (fe_var 1) (fe_var 2))))) (fa_cons (fe_mul (fe_var 1) (fe_fld 1 (fe_var 0) T.cl_Affine T.na_Affine_constant)) (fa_cons (fe_fld 2 (fe_var 0) T.cl_Affine T.na_Affine_bottom) fa_nil)))))))) (fun z => by simp only [bind_ok']; rfl)
abbrev N_Affine___rmul__ : List Str := [("self" : Str), ("factor" : Str), ("coef" : Str)]
theorem sc_Affine___rmul__ : FnScope N_Affine___rmul__ [("self" : Str), ("factor" : Str)] (defScope mt_Affine___rmul__) := ⟨rfl, rfl, rfl, by decide +kernel, rfl, by decide +kernel, by decide +kernel⟩
theorem d_Affine___rmul__ {f : Addr} {fd : FuncData} (Fd : FnM K "__rmul__" "Affine.__rmul__" mt_Affine___rmul__ [] f fd) (T : T0 K mg) (D_Affine___init___l : Di P w K mg base "Affine" [("self" : Str), ("coefs" : Str), ("constant" : Str), ("bottom" : Str)] [] 2 (spI K "Affine" Fs_Affine m_Affine___init___l)) : FnOk P w K mg base (L2.CX P w) 4 f fd [("self" : Str), ("factor" : Str)] (spF K (rtF Ty_Affine) m_Affine___rmul__) :=
  fn_def (αs := Ty_Affine × Int × Unit) (G' := nl) (n := 1) Fd sc_Affine___rmul__ rfl rfl (fun cdv A outer s F H E hr tk =>
    (fss_cons (fs_if (ft_not (ft_val (fe_isi (U := "int") (fe_var 1) (T.f_isinstance) T.f_int))) fss_dead fss_nil)
    (fss_one (fs_ret (fe_make D_Affine___init___l tk hr (fa_cons (fe_fz (fo_lc (vs := [2]) (own := [(("coef" : Str), 2)]) rfl (blkOk_by (N := N_Affine___rmul__) (sc := defScope mt_Affine___rmul__) (by decide +kernel)) sc_Affine___rmul__.nd (fi_tup (fe_fld 0 (fe_var 0) T.cl_Affine T.na_Affine_coefs)) (fgb_name 2 sc_Affine___rmul__.nd) fts_nil (fun s H C cl fp => (fe_mul (fe_var 1) (fe_var 2))))) (fa_cons (fe_mul (fe_var 1) (fe_fld 1 (fe_var 0) T.cl_Affine T.na_Affine_constant)) (fa_cons (fe_fld 2 (fe_var 0) T.cl_Affine T.na_Affine_bottom) fa_nil)))))))) (fun z => by simp only [bind_ok']; rfl)
abbrev N_Affine_scaled : List Str := [("self" : Str), ("number" : Str), ("coefs" : Str), ("coef" : Str)]
theorem sc_Affine_scaled : FnScope N_Affine_scaled [("self" : Str), ("number" : Str)] (defScope mt_Affine_scaled) := ⟨rfl, rfl, rfl, by decide +kernel, rfl, by decide +kernel, by decide +kernel⟩
theorem d_Affine_scaled {f : Addr} {fd : FuncData} (Fd : FnM K "scaled" "Affine.scaled" mt_Affine_scaled [] f fd) (T : T0 K mg) (D_Affine___init___l : Di P w K mg base "Affine" [("self" : Str), ("coefs" : Str), ("constant" : Str), ("bottom" : Str)] [] 2 (spI K "Affine" Fs_Affine m_Affine___init___l)) : FnOk P w K mg base (L2.CX P w) 4 f fd [("self" : Str), ("number" : Str)] (spF K (rtF Ty_Affine) m_Affine_scaled) :=
  fn_def (αs := Ty_Affine × (Int × Int) × Unit) (G' := nl) (n := 2) Fd sc_Affine_scaled rfl rfl (fun cdv A outer s F H E hr tk =>
    (fss_cons (fs_B (fn_setLcF (vs := [3]) (own := [(("coef" : Str), 3)]) 2 rfl rfl (blkOk_by (N := N_Affine_scaled) (sc := defScope mt_Affine_scaled) (by decide +kernel)) sc_Affine_scaled.nd (fi_tup (fe_fld 0 (fe_var 0) T.cl_Affine T.na_Affine_coefs)) (fgb_name 3 sc_Affine_scaled.nd) fts_nil (fun s H C cl fp => (fe_mul (fe_p0 (fe_var 1)) (fe_var 3)))))
    (fss_one (fs_ret (fe_make D_Affine___init___l tk hr (fa_cons (fe_var 2) (fa_cons (fe_mul (fe_p0 (fe_var 1)) (fe_fld 1 (fe_var 0) T.cl_Affine T.na_Affine_constant)) (fa_cons (fe_mul (fe_p1 (fe_var 1)) (fe_fld 2 (fe_var 0) T.cl_Affine T.na_Affine_bottom)) fa_nil)))))))) (fun z => by simp only [bind_ok']; rfl)
abbrev N_Affine_placed : List Str := [("self" : Str), ("size" : Str), ("start" : Str), ("coefs" : Str)]
theorem sc_Affine_placed : FnScope N_Affine_placed [("self" : Str), ("size" : Str), ("start" : Str)] (defScope mt_Affine_placed) := ⟨rfl, rfl, rfl, by decide +kernel, rfl, by decide +kernel, by decide +kernel⟩
theorem d_Affine_placed {f : Addr} {fd : FuncData} (Fd : FnM K "placed" "Affine.placed" mt_Affine_placed [] f fd) (T : T0 K mg) (D_Affine___init___l : Di P w K mg base "Affine" [("self" : Str), ("coefs" : Str), ("constant" : Str), ("bottom" : Str)] [] 2 (spI K "Affine" Fs_Affine m_Affine___init___l)) : FnOk P w K mg base (L2.CX P w) 4 f fd [("self" : Str), ("size" : Str), ("start" : Str)] (spF K (rtF Ty_Affine) m_Affine_placed) :=
  fn_def (αs := Ty_Affine × Int × Int × Unit) (G' := nl) (n := 1) Fd sc_Affine_placed rfl rfl (fun cdv A outer s F H E hr tk =>
    (fss_cons (fs_B (fn_set 3 rfl (fe_fz (fo_cat (fo_cat (fo_rep (fo_lst (fh_cons fe_int fh_nil)) (fe_var 2)) (fo_listT (fe_fld 0 (fe_var 0) T.cl_Affine T.na_Affine_coefs) (T.f_list))) (fo_rep (fo_lst (fh_cons fe_int fh_nil)) (fe_sub (fe_sub (fe_var 1) (fe_var 2)) (fe_fld 3 (fe_var 0) T.cl_Affine T.na_Affine_size))))) sc_Affine_placed.nd))
    (fss_one (fs_ret (fe_make D_Affine___init___l tk hr (fa_cons (fe_var 3) (fa_cons (fe_fld 1 (fe_var 0) T.cl_Affine T.na_Affine_constant) (fa_cons (fe_fld 2 (fe_var 0) T.cl_Affine T.na_Affine_bottom) fa_nil)))))))) (fun z => by simp only [bind_ok']; rfl)
abbrev N_Affine_fixed : List Str := [("self" : Str), ("place" : Str), ("tops" : Str), ("bottom" : Str), ("total" : Str), ("coef" : Str), ("top" : Str), ("coefs" : Str)]
theorem sc_Affine_fixed : FnScope N_Affine_fixed [("self" : Str), ("place" : Str)] (defScope mt_Affine_fixed) := ⟨rfl, rfl, rfl, by decide +kernel, rfl, by decide +kernel, by decide +kernel⟩
theorem d_Affine_fixed {f : Addr} {fd : FuncData} (Fd : FnM K "fixed" "Affine.fixed" mt_Affine_fixed [] f fd) (T : T0 K mg) (D_Affine___init___l : Di P w K mg base "Affine" [("self" : Str), ("coefs" : Str), ("constant" : Str), ("bottom" : Str)] [] 2 (spI K "Affine" Fs_Affine m_Affine___init___l)) : FnOk P w K mg base (L2.CX P w) 4 f fd [("self" : Str), ("place" : Str)] (spF K (rtF Ty_Affine) m_Affine_fixed) :=
  fn_def (αs := Ty_Affine × ((Tu Int) × Int) × Unit) (G' := nl) (n := 6) Fd sc_Affine_fixed rfl rfl (fun cdv A outer s F H E hr tk =>
    (fss_cons (fs_B (fn_asg (fe_var 1) (fg_two 2 3 ⟨rfl, rfl⟩ sc_Affine_fixed.nd)))
    (fss_cons (fs_B (fn_set 4 rfl (fe_mul (fe_fld 1 (fe_var 0) T.cl_Affine T.na_Affine_constant) (fe_var 3)) sc_Affine_fixed.nd))
    (fss_cons (fs_n (fn_for (passes_of rfl) (fi_zipT (fe_fld 0 (fe_var 0) T.cl_Affine T.na_Affine_coefs) (fe_var 2) (T.f_zip)) (fg_two 5 6 ⟨rfl, rfl⟩ sc_Affine_fixed.nd) (fns_B (fn_set 4 rfl (fe_add (fe_var 4) (fe_mul (fe_var 5) (fe_var 6))) sc_Affine_fixed.nd) (fns_nilS (G' := (va Ty_Affine (va ((Tu Int) × Int) (va (Tu Int) (va Int (va Int (un (un (un nl)))))))))))))
    (fss_cons (fs_B (fn_setLcF (vs := [5]) (own := [(("coef" : Str), 5)]) 7 rfl rfl (blkOk_by (N := N_Affine_fixed) (sc := defScope mt_Affine_fixed) (by decide +kernel)) sc_Affine_fixed.nd (fi_tup (fe_slU (fe_fld 0 (fe_var 0) T.cl_Affine T.na_Affine_coefs) (fp_some (fe_len (fe_var 2) (T.f_len))) fp_none)) (fgb_name 5 sc_Affine_fixed.nd) fts_nil (fun s H C cl fp => (fe_mul (fe_var 5) (fe_var 3)))))
    (fss_one (fs_ret (fe_make D_Affine___init___l tk hr (fa_cons (fe_var 7) (fa_cons (fe_var 4) (fa_cons (fe_mul (fe_fld 2 (fe_var 0) T.cl_Affine T.na_Affine_bottom) (fe_var 3)) fa_nil))))))))))) (fun z => by simp only [bind_ok']; rfl)
abbrev N_Affine_head : List Str := [("self" : Str), ("count" : Str)]
theorem sc_Affine_head : FnScope N_Affine_head [("self" : Str), ("count" : Str)] (defScope mt_Affine_head) := ⟨rfl, rfl, rfl, by decide +kernel, rfl, by decide +kernel, by decide +kernel⟩
theorem d_Affine_head {f : Addr} {fd : FuncData} (Fd : FnM K "head" "Affine.head" mt_Affine_head [] f fd) (T : T0 K mg) (D_Affine___init___u : Di P w K mg base "Affine" [("self" : Str), ("coefs" : Str), ("constant" : Str), ("bottom" : Str)] [] 2 (spI K "Affine" Fs_Affine m_Affine___init___u)) : FnOk P w K mg base (L2.CX P w) 4 f fd [("self" : Str), ("count" : Str)] (spF K (rtF Ty_Affine) m_Affine_head) :=
  fn_def (αs := Ty_Affine × Int × Unit) (G' := nl) (n := 0) Fd sc_Affine_head rfl rfl (fun cdv A outer s F H E hr tk =>
    (fss_one (fs_ret (fe_make D_Affine___init___u tk hr (fa_cons (fe_slU (fe_fld 0 (fe_var 0) T.cl_Affine T.na_Affine_coefs) fp_none (fp_some (fe_var 1))) (fa_cons (fe_fld 1 (fe_var 0) T.cl_Affine T.na_Affine_constant) (fa_cons (fe_fld 2 (fe_var 0) T.cl_Affine T.na_Affine_bottom) fa_nil))))))) (fun z => by simp only [bind_ok']; rfl)
abbrev N_Affine_tail : List Str := [("self" : Str), ("start" : Str)]
theorem sc_Affine_tail : FnScope N_Affine_tail [("self" : Str), ("start" : Str)] (defScope mt_Affine_tail) := ⟨rfl, rfl, rfl, by decide +kernel, rfl, by decide +kernel, by decide +kernel⟩
theorem d_Affine_tail {f : Addr} {fd : FuncData} (Fd : FnM K "tail" "Affine.tail" mt_Affine_tail [] f fd) (T : T0 K mg) (D_Affine___init___u : Di P w K mg base "Affine" [("self" : Str), ("coefs" : Str), ("constant" : Str), ("bottom" : Str)] [] 2 (spI K "Affine" Fs_Affine m_Affine___init___u)) : FnOk P w K mg base (L2.CX P w) 4 f fd [("self" : Str), ("start" : Str)] (spF K (rtF Ty_Affine) m_Affine_tail) :=
  fn_def (αs := Ty_Affine × Int × Unit) (G' := nl) (n := 0) Fd sc_Affine_tail rfl rfl (fun cdv A outer s F H E hr tk =>
    (fss_one (fs_ret (fe_make D_Affine___init___u tk hr (fa_cons (fe_slU (fe_fld 0 (fe_var 0) T.cl_Affine T.na_Affine_coefs) (fp_some (fe_var 1)) fp_none) (fa_cons (fe_fld 1 (fe_var 0) T.cl_Affine T.na_Affine_constant) (fa_cons (fe_fld 2 (fe_var 0) T.cl_Affine T.na_Affine_bottom) fa_nil))))))) (fun z => by simp only [bind_ok']; rfl)
abbrev N_Affine_homogeneous : List Str := [("self" : Str)]
theorem sc_Affine_homogeneous : FnScope N_Affine_homogeneous [("self" : Str)] (defScope mt_Affine_homogeneous) := ⟨rfl, rfl, rfl, by decide +kernel, rfl, by decide +kernel, by decide +kernel⟩
theorem d_Affine_homogeneous {f : Addr} {fd : FuncData} (Fd : FnM K "homogeneous" "Affine.homogeneous" mt_Affine_homogeneous [] f fd) (T : T0 K mg) (D_Affine___init___u : Di P w K mg base "Affine" [("self" : Str), ("coefs" : Str), ("constant" : Str), ("bottom" : Str)] [] 2 (spI K "Affine" Fs_Affine m_Affine___init___u)) : FnOk P w K mg base (L2.CX P w) 4 f fd [("self" : Str)] (spF K (rtF Ty_Affine) m_Affine_homogeneous) :=
  fn_def (αs := Ty_Affine × Unit) (G' := nl) (n := 0) Fd sc_Affine_homogeneous rfl rfl (fun cdv A outer s F H E hr tk =>
    (fss_one (fs_ret (fe_make D_Affine___init___u tk hr (fa_cons (fe_fld 0 (fe_var 0) T.cl_Affine T.na_Affine_coefs) (fa_cons fe_int (fa_cons (fe_fld 2 (fe_var 0) T.cl_Affine T.na_Affine_bottom) fa_nil))))))) (fun z => by simp only [bind_ok']; rfl)
abbrev N_Affine_uses : List Str := [("self" : Str), ("start" : Str), ("coef" : Str)]
theorem sc_Affine_uses : FnScope N_Affine_uses [("self" : Str), ("start" : Str)] (defScope mt_Affine_uses) := ⟨rfl, rfl, rfl, by decide +kernel, rfl, by decide +kernel, by decide +kernel⟩
theorem d_Affine_uses {f : Addr} {fd : FuncData} (Fd : FnM K "uses" "Affine.uses" mt_Affine_uses [] f fd) (T : T0 K mg)  : FnOk P w K mg base (L2.CX P w) 1 f fd [("self" : Str), ("start" : Str)] (spF K (rtF Bool) m_Affine_uses) :=
  fn_def (αs := Ty_Affine × Int × Unit) (G' := nl) (n := 1) Fd sc_Affine_uses rfl rfl (fun cdv A outer s F H E hr tk =>
    (fss_one (fs_ret (fe_any rfl (fe_fz (fo_lc (vs := [2]) (own := [(("coef" : Str), 2)]) rfl (blkOk_by (N := N_Affine_uses) (sc := defScope mt_Affine_uses) (by decide +kernel)) sc_Affine_uses.nd (fi_tup (fe_slU (fe_fld 0 (fe_var 0) T.cl_Affine T.na_Affine_coefs) (fp_some (fe_var 1)) fp_none)) (fgb_name 2 sc_Affine_uses.nd) fts_nil (fun s H C cl fp => (fe_ne (fe_var 2) fe_int)))) (T.f_any))))) (fun z => by simp only [bind_ok']; rfl)
abbrev N__law_is_integer : List Str := [("value" : Str)]
theorem sc__law_is_integer : FnScope N__law_is_integer [("value" : Str)] (defScope (top 13)) := ⟨rfl, rfl, rfl, by decide +kernel, rfl, by decide +kernel, by decide +kernel⟩
theorem d__law_is_integer {f : Addr} {fd : FuncData} (Fd : FnP K "_law_is_integer" (top 13) f fd) (T : T0 K mg)  : FnOk P w K mg base (L2.CX P w) 1 f fd [("value" : Str)] (spF K (rtF Bool) m__law_is_integer) :=
  fn_def (αs := Int × Unit) (G' := nl) (n := 0) Fd sc__law_is_integer rfl rfl (fun cdv A outer s F H E hr tk =>
    (fss_one (fs_ret (fe_and (fe_isi (U := "int") (fe_var 0) (T.f_isinstance) T.f_int) (fe_one (fe_not (fe_isi (U := "bool") (fe_var 0) (T.f_isinstance) T.f_bool))))))) (fun z => by simp only [bind_ok']; rfl)
abbrev N__law_draws : List Str := [("script" : Str), ("count" : Str), ("found" : Str), ("cell" : Str), ("rest" : Str), ("k" : Str), ("seed" : Str)]
theorem sc__law_draws : FnScope N__law_draws [("script" : Str), ("count" : Str)] (defScope (top 14)) := ⟨rfl, rfl, rfl, by decide +kernel, rfl, by decide +kernel, by decide +kernel⟩
theorem d__law_draws {f : Addr} {fd : FuncData} (Fd : FnP K "_law_draws" (top 14) f fd) (T : T0 K mg)  : FnOk P w K mg base (L2.CX P w) 1 f fd [("script" : Str), ("count" : Str)] (spF K (rtO Int) m__law_draws) :=
  fn_def (αs := (List Int) × Int × Unit) (G' := nl) (n := 5) Fd sc__law_draws rfl rfl (fun cdv A outer s F H E hr tk =>
    (fss_cons (fs_B (fn_setO 2 rfl (fo_nil (α := Int)) sc__law_draws.nd))
    (fss_cons (fs_n (fn_for (passes_of rfl) (fi_list (fe_var 0)) (fg_name 3 rfl sc__law_draws.nd) (fns_B (fn_set 4 rfl (fe_var 3) sc__law_draws.nd) (fns_cons (fn_if (ft_ge (fe_var 4) (fe_pow fe_int fe_int)) (fns_cons (fn_for (passes_of rfl) (fi_range1 fe_int (T.f_range)) (fg_name 5 rfl sc__law_draws.nd) (fns_cons (fn_if (ft_br (ft_w (fw_and (ft_gt (fe_var 4) fe_int) (fw_and1 (ft_lt (fe_len (fe_var 2) (T.f_len)) (fe_var 1)))))) (fns_B2 (fn_append 2 (fe_mod (fe_intI (fe_var 4) (T.f_int)) fe_int)) (fns_B (fn_set 4 rfl (fe_fdv (fe_var 4) fe_int) sc__law_draws.nd) fns_nil)) fns_nil) (fns_nilS (G' := (va (List Int) (va Int (ow Int (va Int (va Int (un (un nl))))))))))) fns_nil) (fns_cons (fn_if (ft_br (ft_lt (fe_len (fe_var 2) (T.f_len)) (fe_var 1))) (fns_B2 (fn_append 2 (fe_mod (fe_mod (fe_intI (fe_add (fe_mul (fe_mod (fe_intI (fe_add (fe_mul (fe_var 4) fe_int) fe_int) (T.f_int)) fe_int) fe_int) fe_int) (T.f_int)) fe_int) fe_int)) fns_nil) fns_nil) fns_nil)) (fns_nilS (G' := (va (List Int) (va Int (ow Int (un (un (un (un nl)))))))))))))
    (fss_cons (fs_B (fn_set 6 rfl (fe_add fe_int (fe_len (fe_var 0) (T.f_len))) sc__law_draws.nd))
    (fss_cons (fs_n (fn_for (passes_of rfl) (fi_list (fe_var 0)) (fg_name 3 rfl sc__law_draws.nd) (fns_B (fn_set 6 rfl (fe_mod (fe_intI (fe_add (fe_mul (fe_var 6) fe_int) (fe_var 3)) (T.f_int)) fe_int) sc__law_draws.nd) (fns_nilS (G' := (va (List Int) (va Int (ow Int (un (un (un (va Int nl))))))))))))
    (fss_cons (fs_n (fn_for (passes_of rfl) (fi_range1 (fe_var 1) (T.f_range)) (fg_name 5 rfl sc__law_draws.nd) (fns_cons (fn_if (ft_br (ft_lt (fe_len (fe_var 2) (T.f_len)) (fe_var 1))) (fns_B (fn_set 6 rfl (fe_mod (fe_intI (fe_add (fe_mul (fe_var 6) fe_int) fe_int) (T.f_int)) fe_int) sc__law_draws.nd) (fns_B2 (fn_append 2 (fe_mod (fe_fdv (fe_var 6) fe_int) fe_int)) fns_nil)) fns_nil) (fns_nilS (G' := (va (List Int) (va Int (ow Int (un (un (un (va Int nl))))))))))))
    (fss_one (fs_retV 2)))))))) (fun z => by simp only [bind_ok']; rfl)
abbrev N__law_gcd : List Str := [("one" : Str), ("two" : Str), ("k" : Str), ("rest" : Str)]
theorem sc__law_gcd : FnScope N__law_gcd [("one" : Str), ("two" : Str)] (defScope (top 15)) := ⟨rfl, rfl, rfl, by decide +kernel, rfl, by decide +kernel, by decide +kernel⟩
theorem d__law_gcd {f : Addr} {fd : FuncData} (Fd : FnP K "_law_gcd" (top 15) f fd) (T : T0 K mg)  : FnOk P w K mg base (L2.CX P w) 1 f fd [("one" : Str), ("two" : Str)] (spF K (rtF Int) m__law_gcd) :=
  fn_def (αs := Int × Int × Unit) (G' := nl) (n := 2) Fd sc__law_gcd rfl rfl (fun cdv A outer s F H E hr tk =>
    (fss_cons (fs_B (fn_set 0 rfl (fe_abs (fe_var 0) (T.f_abs)) sc__law_gcd.nd))
    (fss_cons (fs_B (fn_set 1 rfl (fe_abs (fe_var 1) (T.f_abs)) sc__law_gcd.nd))
    (fss_cons (fs_forK (rt := id) (passes_of rfl) (fi_range1 (fe_add (fe_mul fe_int (fe_bits (fe_var 1))) fe_int) (T.f_range)) (fg_name 2 rfl sc__law_gcd.nd) (fss_cons (fs_if (ft_eq (fe_var 1) fe_int) (fss_one (fs_retL (fe_var 0))) fss_nil)
    (fss_cons (fs_B (fn_set 3 rfl (fe_mod (fe_intI (fe_var 0) (T.f_int)) (fe_var 1)) sc__law_gcd.nd))
    (fss_cons (fs_B (fn_set 0 rfl (fe_var 1) sc__law_gcd.nd))
    (fss_cons (fs_B (fn_set 1 rfl (fe_var 3) sc__law_gcd.nd))
    (fss_nilS (G' := (va Int (va Int (un (un nl)))))))))))
    (fss_one (fs_ret (fe_var 0))))))) (fun z => by simp only [bind_ok']; rfl)
abbrev N__law_lowest : List Str := [("values" : Str), ("common" : Str), ("value" : Str)]
theorem sc__law_lowest : FnScope N__law_lowest [("values" : Str)] (defScope (top 16)) := ⟨rfl, rfl, rfl, by decide +kernel, rfl, by decide +kernel, by decide +kernel⟩
theorem d__law_lowest {f : Addr} {fd : FuncData} (Fd : FnP K "_law_lowest" (top 16) f fd) (T : T0 K mg) (D__law_gcd : Dk P w K mg base "_law_gcd" [("one" : Str), ("two" : Str)] 1 (spF K (rtF Int) m__law_gcd)) : FnOk P w K mg base (L2.CX P w) 2 f fd [("values" : Str)] (spF K (rtO Int) m__law_lowest) :=
  fn_def (αs := (List Int) × Unit) (G' := nl) (n := 2) Fd sc__law_lowest rfl rfl (fun cdv A outer s F H E hr tk =>
    (fss_cons (fs_B (fn_set 1 rfl fe_int sc__law_lowest.nd))
    (fss_cons (fs_n (fn_for (passes_of rfl) (fi_list (fe_var 0)) (fg_name 2 rfl sc__law_lowest.nd) (fns_B (fn_set 1 rfl (fe_cal D__law_gcd tk hr (fa_cons (fe_var 1) (fa_cons (fe_var 2) fa_nil))) sc__law_lowest.nd) (fns_nilS (G' := (va (List Int) (va Int (un nl))))))))
    (fss_cons (fs_n (fn_if (ft_lt (fe_ixL (fe_var 0) (fe_neg fe_int)) fe_int) (fns_B (fn_set 1 rfl (fe_neg (fe_var 1)) sc__law_lowest.nd) fns_nil) fns_nil))
    (fss_one (fs_retO (fo_lc (vs := [2]) (own := [(("value" : Str), 2)]) rfl (blkOk_by (N := N__law_lowest) (sc := defScope (top 16)) (by decide +kernel)) sc__law_lowest.nd (fi_list (fe_var 0)) (fgb_name 2 sc__law_lowest.nd) fts_nil (fun s H C cl fp => (fe_fdv (fe_var 2) (fe_var 1)))))))))) (fun z => by simp only [bind_ok']; rfl)
abbrev N__law_values : List Str := [("draws" : Str), ("at" : Str), ("size" : Str), ("wide" : Str), ("found" : Str), ("k" : Str), ("value" : Str), ("bottom" : Str)]
theorem sc__law_values : FnScope N__law_values [("draws" : Str), ("at" : Str), ("size" : Str), ("wide" : Str)] (defScope (top 17)) := ⟨rfl, rfl, rfl, by decide +kernel, rfl, by decide +kernel, by decide +kernel⟩
theorem d__law_values {f : Addr} {fd : FuncData} (Fd : FnP K "_law_values" (top 17) f fd) (T : T0 K mg)  : FnOk P w K mg base (L2.CX P w) 1 f fd [("draws" : Str), ("at" : Str), ("size" : Str), ("wide" : Str)] (spF K (rtO Int) m__law_values) :=
  fn_def (αs := (List Int) × Int × Int × Bool × Unit) (G' := nl) (n := 4) Fd sc__law_values rfl rfl (fun cdv A outer s F H E hr tk =>
    (fss_cons (fs_B (fn_setO 4 rfl (fo_nil (α := Int)) sc__law_values.nd))
    (fss_cons (fs_n (fn_for (passes_of rfl) (fi_range1 (fe_add (fe_var 2) fe_int) (T.f_range)) (fg_name 5 rfl sc__law_values.nd) (fns_B (fn_set 6 rfl (fe_sub (fe_mod (fe_ixL (fe_var 0) (fe_add (fe_var 1) (fe_var 5))) fe_int) fe_int) sc__law_values.nd) (fns_cons (fn_if (ft_val (fe_var 3)) (fns_B (fn_set 6 rfl (fe_add (fe_mul (fe_var 6) (fe_pow fe_int fe_int)) (fe_ixL (fe_var 0) (fe_add (fe_var 1) (fe_var 5)))) sc__law_values.nd) fns_nil) fns_nil) (fns_B2 (fn_append 4 (fe_var 6)) (fns_nilS (G' := (va (List Int) (va Int (va Int (va Bool (ow Int (un (un (un nl)))))))))))))))
    (fss_lend (fss_cons (fs_B (fn_set 7 rfl (fe_sub (fe_mod (fe_ixL (fe_var 0) (fe_add (fe_add (fe_var 1) (fe_var 2)) fe_int)) fe_int) fe_int) sc__law_values.nd))
    (fss_cons (fs_n (fn_if (ft_ge (fe_var 7) fe_int) (fns_B (fn_set 7 rfl (fe_add (fe_var 7) fe_int) sc__law_values.nd) fns_nil) fns_nil))
    (fss_one (fs_retO (fo_catF (fe_var 4) (fe_fz (fo_lst (fh_cons (fe_var 7) fh_nil)))))))))))) (fun z => by simp only [bind_ok']; rfl)
abbrev N__law_same : List Str := [("told" : Str), ("due" : Str), ("values" : Str), ("k" : Str)]
theorem sc__law_same : FnScope N__law_same [("told" : Str), ("due" : Str)] (defScope (top 18)) := ⟨rfl, rfl, rfl, by decide +kernel, rfl, by decide +kernel, by decide +kernel⟩
theorem d__law_same {f : Addr} {fd : FuncData} (Fd : FnP K "_law_same" (top 18) f fd) (T : T0 K mg) (D__law_is_integer : Dk P w K mg base "_law_is_integer" [("value" : Str)] 1 (spF K (rtF Bool) m__law_is_integer)) : FnOk P w K mg base (L2.CX P w) 2 f fd [("told" : Str), ("due" : Str)] (spF K (rtF Bool) m__law_same) :=
  fn_def (αs := Ty_Affine × (List Int) × Unit) (G' := nl) (n := 2) Fd sc__law_same rfl rfl (fun cdv A outer s F H E hr tk =>
    (fss_cons (fs_if (ft_w (fw_or (ft_not (ft_val (fe_isiC (ok := fun K => Isi K "Affine") (ty := fun K => .ref (He.ga K "Affine")) true (fe_var 0) T.isi_Affine T.ki_Affine_Affine T.g_Affine (T.f_isinstance)))) (fw_or1 (ft_not (ft_val (fe_isi (U := "tuple") (fe_fld 0 (fe_var 0) T.cl_Affine T.na_Affine_coefs) (T.f_isinstance) T.f_tuple)))))) (fss_one (fs_ret fe_bl)) fss_nil)
    (fss_cons (fs_B (fn_set 2 rfl (fe_fz (fo_cat (fo_listT (fe_fld 0 (fe_var 0) T.cl_Affine T.na_Affine_coefs) (T.f_list)) (fo_lst (fh_cons (fe_fld 1 (fe_var 0) T.cl_Affine T.na_Affine_constant) (fh_cons (fe_fld 2 (fe_var 0) T.cl_Affine T.na_Affine_bottom) fh_nil))))) sc__law_same.nd))
    (fss_cons (fs_if (ft_w (fw_or (ft_ne (fe_len (fe_var 2) (T.f_len)) (fe_len (fe_var 1) (T.f_len))) (fw_or (ft_not (ft_val (fe_cal D__law_is_integer tk hr (fa_cons (fe_fld 3 (fe_var 0) T.cl_Affine T.na_Affine_size) fa_nil)))) (fw_or1 (ft_ne (fe_fld 3 (fe_var 0) T.cl_Affine T.na_Affine_size) (fe_sub (fe_len (fe_var 1) (T.f_len)) fe_int)))))) (fss_one (fs_ret fe_bl)) fss_nil)
    (fss_cons (fs_forK (rt := id) (passes_of rfl) (fi_range1 (fe_len (fe_var 1) (T.f_len)) (T.f_range)) (fg_name 3 rfl sc__law_same.nd) (fss_cons (fs_if (ft_w (fw_or (ft_not (ft_val (fe_cal D__law_is_integer tk hr (fa_cons (fe_ixL (fe_var 2) (fe_var 3)) fa_nil)))) (fw_or1 (ft_ne (fe_ixL (fe_var 2) (fe_var 3)) (fe_ixL (fe_var 1) (fe_var 3)))))) (fss_one (fs_retL fe_bl)) fss_nil)
    (fss_nilS (G' := (va Ty_Affine (va (List Int) (va (List Int) (un nl))))))))
    (fss_one (fs_ret fe_bl))))))) (fun z => by simp only [bind_ok']; rfl)
abbrev N__law_truth : List Str := [("told" : Str), ("due" : Str)]
theorem sc__law_truth : FnScope N__law_truth [("told" : Str), ("due" : Str)] (defScope (top 19)) := ⟨rfl, rfl, rfl, by decide +kernel, rfl, by decide +kernel, by decide +kernel⟩
theorem d__law_truth {f : Addr} {fd : FuncData} (Fd : FnP K "_law_truth" (top 19) f fd) (T : T0 K mg)  : FnOk P w K mg base (L2.CX P w) 1 f fd [("told" : Str), ("due" : Str)] (spF K (rtF Bool) m__law_truth) :=
  fn_def (αs := Bool × Bool × Unit) (G' := nl) (n := 0) Fd sc__law_truth rfl rfl (fun cdv A outer s F H E hr tk =>
    (fss_one (fs_ret (fe_and (fe_isi (U := "bool") (fe_var 0) (T.f_isinstance) T.f_bool) (fe_one (fe_eq (fe_var 0) (fe_var 1))))))) (fun z => by simp only [bind_ok']; rfl)
abbrev N__law_same_number : List Str := [("told" : Str), ("due" : Str)]
theorem sc__law_same_number : FnScope N__law_same_number [("told" : Str), ("due" : Str)] (defScope (top 20)) := ⟨rfl, rfl, rfl, by decide +kernel, rfl, by decide +kernel, by decide +kernel⟩
theorem d__law_same_number {f : Addr} {fd : FuncData} (Fd : FnP K "_law_same_number" (top 20) f fd) (T : T0 K mg) (D__law_is_integer : Dk P w K mg base "_law_is_integer" [("value" : Str)] 1 (spF K (rtF Bool) m__law_is_integer)) : FnOk P w K mg base (L2.CX P w) 2 f fd [("told" : Str), ("due" : Str)] (spF K (rtF Bool) m__law_same_number) :=
  fn_def (αs := (Int × Int) × (List Int) × Unit) (G' := nl) (n := 0) Fd sc__law_same_number rfl rfl (fun cdv A outer s F H E hr tk =>
    (fss_cons (fs_if (ft_w (fw_or (ft_not (ft_val (fe_isi (U := "tuple") (fe_var 0) (T.f_isinstance) T.f_tuple))) (fw_or1 (ft_ne (fe_len (fe_var 0) (T.f_len)) fe_int)))) (fss_one (fs_ret fe_bl)) fss_nil)
    (fss_cons (fs_if (ft_w (fw_or (ft_not (ft_val (fe_cal D__law_is_integer tk hr (fa_cons (fe_p0 (fe_var 0)) fa_nil)))) (fw_or1 (ft_not (ft_val (fe_cal D__law_is_integer tk hr (fa_cons (fe_p1 (fe_var 0)) fa_nil))))))) (fss_one (fs_ret fe_bl)) fss_nil)
    (fss_one (fs_ret (fe_and (fe_eq (fe_p0 (fe_var 0)) (fe_ixL (fe_var 1) fe_int)) (fe_one (fe_eq (fe_p1 (fe_var 0)) (fe_ixL (fe_var 1) fe_int))))))))) (fun z => by simp only [bind_ok']; rfl)
abbrev N__law_value : List Str := [("values" : Str), ("tops" : Str), ("bottom" : Str), ("total" : Str), ("k" : Str)]
theorem sc__law_value : FnScope N__law_value [("values" : Str), ("tops" : Str), ("bottom" : Str)] (defScope (top 21)) := ⟨rfl, rfl, rfl, by decide +kernel, rfl, by decide +kernel, by decide +kernel⟩
theorem d__law_value {f : Addr} {fd : FuncData} (Fd : FnP K "_law_value" (top 21) f fd) (T : T0 K mg) (D__law_lowest : Dk P w K mg base "_law_lowest" [("values" : Str)] 2 (spF K (rtO Int) m__law_lowest)) : FnOk P w K mg base (L2.CX P w) 3 f fd [("values" : Str), ("tops" : Str), ("bottom" : Str)] (spF K (rtO Int) m__law_value) :=
  fn_def (αs := (List Int) × (List Int) × Int × Unit) (G' := nl) (n := 2) Fd sc__law_value rfl rfl (fun cdv A outer s F H E hr tk =>
    (fss_cons (fs_B (fn_set 3 rfl (fe_mul (fe_ixL (fe_var 0) (fe_neg fe_int)) (fe_var 2)) sc__law_value.nd))
    (fss_cons (fs_n (fn_for (passes_of rfl) (fi_range1 (fe_len (fe_var 1) (T.f_len)) (T.f_range)) (fg_name 4 rfl sc__law_value.nd) (fns_B (fn_set 3 rfl (fe_add (fe_var 3) (fe_mul (fe_ixL (fe_var 0) (fe_var 4)) (fe_ixL (fe_var 1) (fe_var 4)))) sc__law_value.nd) (fns_nilS (G' := (va (List Int) (va (List Int) (va Int (va Int (un nl))))))))))
    (fss_one (fs_retO (fo_cal D__law_lowest tk hr (fa_cons (fe_fz (fo_lst (fh_cons (fe_var 3) (fh_cons (fe_mul (fe_ixL (fe_var 0) (fe_neg fe_int)) (fe_var 2)) fh_nil)))) fa_nil))))))) (fun z => by simp only [bind_ok']; rfl)
abbrev N__law_sum : List Str := [("one" : Str), ("two" : Str), ("sign" : Str), ("parts" : Str), ("k" : Str)]
theorem sc__law_sum : FnScope N__law_sum [("one" : Str), ("two" : Str), ("sign" : Str)] (defScope (top 22)) := ⟨rfl, rfl, rfl, by decide +kernel, rfl, by decide +kernel, by decide +kernel⟩
theorem d__law_sum {f : Addr} {fd : FuncData} (Fd : FnP K "_law_sum" (top 22) f fd) (T : T0 K mg) (D__law_lowest : Dk P w K mg base "_law_lowest" [("values" : Str)] 2 (spF K (rtO Int) m__law_lowest)) : FnOk P w K mg base (L2.CX P w) 3 f fd [("one" : Str), ("two" : Str), ("sign" : Str)] (spF K (rtO Int) m__law_sum) :=
  fn_def (αs := (List Int) × (List Int) × Int × Unit) (G' := nl) (n := 2) Fd sc__law_sum rfl rfl (fun cdv A outer s F H E hr tk =>
    (fss_cons (fs_B (fn_setLcF (vs := [4]) (own := [(("k" : Str), 4)]) 3 rfl rfl (blkOk_by (N := N__law_sum) (sc := defScope (top 22)) (by decide +kernel)) sc__law_sum.nd (fi_range1 (fe_sub (fe_len (fe_var 0) (T.f_len)) fe_int) (T.f_range)) (fgb_name 4 sc__law_sum.nd) fts_nil (fun s H C cl fp => (fe_add (fe_mul (fe_ixL (fe_var 0) (fe_var 4)) (fe_ixL (fe_var 1) (fe_neg fe_int))) (fe_mul (fe_mul (fe_var 2) (fe_ixL (fe_var 1) (fe_var 4))) (fe_ixL (fe_var 0) (fe_neg fe_int)))))))
    (fss_one (fs_retO (fo_cal D__law_lowest tk hr (fa_cons (fe_fz (fo_catF (fe_var 3) (fe_fz (fo_lst (fh_cons (fe_mul (fe_ixL (fe_var 0) (fe_neg fe_int)) (fe_ixL (fe_var 1) (fe_neg fe_int))) fh_nil))))) fa_nil)))))) (fun z => by simp only [bind_ok']; rfl)
abbrev N__law_parts : List Str := [("f" : Str), ("low" : Str), ("cut" : Str), ("tops" : Str), ("bottom" : Str), ("ways" : Str), ("size" : Str), ("fixed" : Str), ("k" : Str), ("rest" : Str), ("slope" : Str), ("point_v" : Str), ("uses" : Str)]
theorem sc__law_parts : FnScope N__law_parts [("f" : Str), ("low" : Str), ("cut" : Str), ("tops" : Str), ("bottom" : Str), ("ways" : Str)] (defScope (top 23)) := ⟨rfl, rfl, rfl, by decide +kernel, rfl, by decide +kernel, by decide +kernel⟩
theorem d__law_parts {f : Addr} {fd : FuncData} (Fd : FnP K "_law_parts" (top 23) f fd) (T : T0 K mg) (D__law_lowest : Dk P w K mg base "_law_lowest" [("values" : Str)] 2 (spF K (rtO Int) m__law_lowest)) (D_Affine_fixed : Dm P w K mg base "Affine" "fixed" [("self" : Str), ("place" : Str)] 4 (spF K (rtF Ty_Affine) m_Affine_fixed)) (D__law_same : Dk P w K mg base "_law_same" [("told" : Str), ("due" : Str)] 2 (spF K (rtF Bool) m__law_same)) (D_Affine_head : Dm P w K mg base "Affine" "head" [("self" : Str), ("count" : Str)] 4 (spF K (rtF Ty_Affine) m_Affine_head)) (D_Affine_tail : Dm P w K mg base "Affine" "tail" [("self" : Str), ("start" : Str)] 4 (spF K (rtF Ty_Affine) m_Affine_tail)) (D_Affine_homogeneous : Dm P w K mg base "Affine" "homogeneous" [("self" : Str)] 4 (spF K (rtF Ty_Affine) m_Affine_homogeneous)) (D_Affine_placed : Dm P w K mg base "Affine" "placed" [("self" : Str), ("size" : Str), ("start" : Str)] 4 (spF K (rtF Ty_Affine) m_Affine_placed)) (D_Affine_uses : Dm P w K mg base "Affine" "uses" [("self" : Str), ("start" : Str)] 1 (spF K (rtF Bool) m_Affine_uses)) (D__law_truth : Dk P w K mg base "_law_truth" [("told" : Str), ("due" : Str)] 1 (spF K (rtF Bool) m__law_truth)) (D_Affine_slope : Dm P w K mg base "Affine" "slope" [("self" : Str), ("way" : Str)] 2 (spF K (rtF (Int × Int)) m_Affine_slope)) (D__law_same_number : Dk P w K mg base "_law_same_number" [("told" : Str), ("due" : Str)] 2 (spF K (rtF Bool) m__law_same_number)) : FnOk P w K mg base (L2.CX P w) 5 f fd [("f" : Str), ("low" : Str), ("cut" : Str), ("tops" : Str), ("bottom" : Str), ("ways" : Str)] (spF K (rtF Bool) m__law_parts) :=
  fn_def (αs := Ty_Affine × (List Int) × Int × (List Int) × Int × (List Int) × Unit) (G' := nl) (n := 7) Fd sc__law_parts rfl rfl (fun cdv A outer s F H E hr tk =>
    (fss_cons (fs_B (fn_set 6 rfl (fe_sub (fe_len (fe_var 1) (T.f_len)) fe_int) sc__law_parts.nd))
    (fss_cons (fs_B (fn_set 7 rfl (fe_mul (fe_ixL (fe_var 1) (fe_neg fe_int)) (fe_var 4)) sc__law_parts.nd))
    (fss_cons (fs_n (fn_for (passes_of rfl) (fi_range1 (fe_var 2) (T.f_range)) (fg_name 8 rfl sc__law_parts.nd) (fns_B (fn_set 7 rfl (fe_add (fe_var 7) (fe_mul (fe_ixL (fe_var 1) (fe_var 8)) (fe_ixL (fe_var 3) (fe_var 8)))) sc__law_parts.nd) (fns_nilS (G' := (va Ty_Affine (va (List Int) (va Int (va (List Int) (va Int (va (List Int) (va Int (va Int (un (un (un (un (un nl))))))))))))))))))
    (fss_cons (fs_B (fn_setLcF (vs := [8]) (own := [(("k" : Str), 8)]) 9 rfl rfl (blkOk_by (N := N__law_parts) (sc := defScope (top 23)) (by decide +kernel)) sc__law_parts.nd (fi_range2 (fe_var 2) (fe_var 6) (T.f_range)) (fgb_name 8 sc__law_parts.nd) fts_nil (fun s H C cl fp => (fe_mul (fe_ixL (fe_var 1) (fe_var 8)) (fe_var 4)))))
    (fss_cons (fs_B (fn_set 10 rfl fe_int sc__law_parts.nd))
    (fss_cons (fs_n (fn_for (passes_of rfl) (fi_range1 (fe_var 6) (T.f_range)) (fg_name 8 rfl sc__law_parts.nd) (fns_B (fn_set 10 rfl (fe_add (fe_var 10) (fe_mul (fe_ixL (fe_var 1) (fe_var 8)) (fe_ixL (fe_var 5) (fe_var 8)))) sc__law_parts.nd) (fns_nilS (G' := (va Ty_Affine (va (List Int) (va Int (va (List Int) (va Int (va (List Int) (va Int (va Int (un (va (List Int) (va Int (un (un nl))))))))))))))))))
    (fss_cons (fs_B (fn_set 11 rfl (fe_fz (fo_cal D__law_lowest tk hr (fa_cons (fe_fz (fo_catF (fe_slL (fe_var 3) fp_none (fp_some (fe_var 2))) (fe_fz (fo_lst (fh_cons (fe_var 4) fh_nil))))) fa_nil))) sc__law_parts.nd))
    (fss_cons (fs_if (ft_not (ft_val (fe_cal D__law_same tk hr (fa_cons (fe_meth D_Affine_fixed T.cl_Affine tk hr (fe_var 0) (fa_cons (fe_tup2 (fe_tupL (fe_slL (fe_var 11) fp_none (fp_some (fe_neg fe_int))) (T.f_tuple)) (fe_ixL (fe_var 11) (fe_neg fe_int))) fa_nil)) (fa_cons (fe_fz (fo_cal D__law_lowest tk hr (fa_cons (fe_fz (fo_catF (fe_var 9) (fe_fz (fo_lst (fh_cons (fe_var 7) (fh_cons (fe_mul (fe_ixL (fe_var 1) (fe_neg fe_int)) (fe_var 4)) fh_nil)))))) fa_nil))) fa_nil))))) (fss_one (fs_ret fe_bl)) fss_nil)
    (fss_cons (fs_if (ft_not (ft_val (fe_cal D__law_same tk hr (fa_cons (fe_meth D_Affine_head T.cl_Affine tk hr (fe_var 0) (fa_cons (fe_var 2) fa_nil)) (fa_cons (fe_fz (fo_cal D__law_lowest tk hr (fa_cons (fe_fz (fo_catF (fe_slL (fe_var 1) fp_none (fp_some (fe_var 2))) (fe_slL (fe_var 1) (fp_some (fe_neg fe_int)) fp_none))) fa_nil))) fa_nil))))) (fss_one (fs_ret fe_bl)) fss_nil)
    (fss_cons (fs_if (ft_not (ft_val (fe_cal D__law_same tk hr (fa_cons (fe_meth D_Affine_tail T.cl_Affine tk hr (fe_var 0) (fa_cons (fe_var 2) fa_nil)) (fa_cons (fe_fz (fo_cal D__law_lowest tk hr (fa_cons (fe_slL (fe_var 1) (fp_some (fe_var 2)) fp_none) fa_nil))) fa_nil))))) (fss_one (fs_ret fe_bl)) fss_nil)
    (fss_cons (fs_if (ft_not (ft_val (fe_cal D__law_same tk hr (fa_cons (fe_meth0 D_Affine_homogeneous T.cl_Affine tk hr (fe_var 0)) (fa_cons (fe_fz (fo_cal D__law_lowest tk hr (fa_cons (fe_fz (fo_catF (fe_slL (fe_var 1) fp_none (fp_some (fe_neg fe_int))) (fe_fz (fo_lst (fh_cons fe_int (fh_cons (fe_ixL (fe_var 1) (fe_neg fe_int)) fh_nil)))))) fa_nil))) fa_nil))))) (fss_one (fs_ret fe_bl)) fss_nil)
    (fss_cons (fs_if (ft_not (ft_val (fe_cal D__law_same tk hr (fa_cons (fe_meth D_Affine_placed T.cl_Affine tk hr (fe_var 0) (fa_cons (fe_add (fe_add (fe_var 6) (fe_var 2)) fe_int) (fa_cons (fe_add (fe_var 2) fe_int) fa_nil))) (fa_cons (fe_fz (fo_catF (fe_fz (fo_cat (fo_catF (fe_fz (fo_rep (fo_lst (fh_cons fe_int fh_nil)) (fe_add (fe_var 2) fe_int))) (fe_slL (fe_var 1) fp_none (fp_some (fe_neg fe_int)))) (fo_lst (fh_cons fe_int fh_nil)))) (fe_slL (fe_var 1) (fp_some (fe_neg fe_int)) fp_none))) fa_nil))))) (fss_one (fs_ret fe_bl)) fss_nil)
    (fss_cons (fs_B (fn_set 12 rfl fe_bl sc__law_parts.nd))
    (fss_cons (fs_n (fn_for (passes_of rfl) (fi_range2 (fe_var 2) (fe_var 6) (T.f_range)) (fg_name 8 rfl sc__law_parts.nd) (fns_cons (fn_if (ft_ne (fe_ixL (fe_var 1) (fe_var 8)) fe_int) (fns_B (fn_set 12 rfl fe_bl sc__law_parts.nd) fns_nil) fns_nil) (fns_nilS (G' := (va Ty_Affine (va (List Int) (va Int (va (List Int) (va Int (va (List Int) (va Int (va Int (un (va (List Int) (va Int (va (List Int) (va Bool nl))))))))))))))))))
    (fss_one (fs_ret (fe_and (fe_cal D__law_truth tk hr (fa_cons (fe_meth D_Affine_uses T.cl_Affine tk hr (fe_var 0) (fa_cons (fe_var 2) fa_nil)) (fa_cons (fe_var 12) fa_nil))) (fe_one (fe_cal D__law_same_number tk hr (fa_cons (fe_meth D_Affine_slope T.cl_Affine tk hr (fe_var 0) (fa_cons (fe_fz (fo_list (fe_var 5) (T.f_list))) fa_nil)) (fa_cons (fe_fz (fo_cal D__law_lowest tk hr (fa_cons (fe_fz (fo_lst (fh_cons (fe_var 10) (fh_cons (fe_ixL (fe_var 1) (fe_neg fe_int)) fh_nil)))) fa_nil))) fa_nil)))))))))))))))))))))) (fun z => by simp only [bind_ok']; rfl)
abbrev N__law_made : List Str := [("draws" : Str), ("size" : Str), ("tops" : Str), ("bottom" : Str), ("k" : Str), ("number" : Str), ("parts" : Str), ("product" : Str), ("part" : Str), ("due" : Str), ("given" : Str), ("told" : Str), ("j" : Str)]
theorem sc__law_made : FnScope N__law_made [("draws" : Str), ("size" : Str), ("tops" : Str), ("bottom" : Str)] (defScope (top 24)) := ⟨rfl, rfl, rfl, by decide +kernel, rfl, by decide +kernel, by decide +kernel⟩
theorem d__law_made {f : Addr} {fd : FuncData} (Fd : FnP K "_law_made" (top 24) f fd) (T : T0 K mg) (D_Affine_variable : Ds P w K mg base "Affine" "variable" [("size" : Str), ("k" : Str)] 4 (spF K (rtF Ty_Affine) m_Affine_variable)) (D__law_same : Dk P w K mg base "_law_same" [("told" : Str), ("due" : Str)] 2 (spF K (rtF Bool) m__law_same)) (D__law_lowest : Dk P w K mg base "_law_lowest" [("values" : Str)] 2 (spF K (rtO Int) m__law_lowest)) (D_Affine_level : Ds P w K mg base "Affine" "level" [("size" : Str), ("number" : Str)] 4 (spF K (rtF Ty_Affine) m_Affine_level)) (D_Affine_from_numbers : Ds P w K mg base "Affine" "from_numbers" [("coefs" : Str), ("constant" : Str)] 4 (spF K (rtF Ty_Affine) m_Affine_from_numbers)) : FnOk P w K mg base (L2.CX P w) 5 f fd [("draws" : Str), ("size" : Str), ("tops" : Str), ("bottom" : Str)] (spF K (rtF Bool) m__law_made) :=
  fn_def (αs := (List Int) × Int × (List Int) × Int × Unit) (G' := nl) (n := 9) Fd sc__law_made rfl rfl (fun cdv A outer s F H E hr tk =>
    (fss_cons (fs_forK (rt := id) (passes_of rfl) (fi_range1 (fe_var 1) (T.f_range)) (fg_name 4 rfl sc__law_made.nd) (fss_cons (fs_if (ft_not (ft_val (fe_cal D__law_same tk hr (fa_cons (fe_sm D_Affine_variable tk hr (fa_cons (fe_var 1) (fa_cons (fe_var 4) fa_nil))) (fa_cons (fe_fz (fo_cat (fo_lc (vs := [12]) (own := [(("j" : Str), 12)]) rfl (blkOk_by (N := N__law_made) (sc := defScope (top 24)) (by decide +kernel)) sc__law_made.nd (fi_range1 (fe_var 1) (T.f_range)) (fgb_name 12 sc__law_made.nd) fts_nil (fun s H C cl fp => (fe_intB (fe_eq (fe_var 12) (fe_var 4)) (T.f_int)))) (fo_lst (fh_cons fe_int (fh_cons fe_int fh_nil))))) fa_nil))))) (fss_one (fs_retL fe_bl)) fss_nil)
    (fss_nilS (G' := (va (List Int) (va Int (va (List Int) (va Int (un (un (un (un (un (un (un (un (un nl)))))))))))))))))
    (fss_cons (fs_B (fn_set 5 rfl (fe_fz (fo_cal D__law_lowest tk hr (fa_cons (fe_fz (fo_lst (fh_cons (fe_ixL (fe_var 2) fe_int) (fh_cons (fe_var 3) fh_nil)))) fa_nil))) sc__law_made.nd))
    (fss_cons (fs_if (ft_not (ft_val (fe_cal D__law_same tk hr (fa_cons (fe_sm D_Affine_level tk hr (fa_cons (fe_var 1) (fa_cons (fe_tup2 (fe_ixL (fe_var 5) fe_int) (fe_ixL (fe_var 5) fe_int)) fa_nil))) (fa_cons (fe_fz (fo_catF (fe_fz (fo_rep (fo_lst (fh_cons fe_int fh_nil)) (fe_var 1))) (fe_var 5))) fa_nil))))) (fss_one (fs_ret fe_bl)) fss_nil)
    (fss_cons (fs_B (fn_setLcF (vs := [4]) (own := [(("k" : Str), 4)]) 6 rfl rfl (blkOk_by (N := N__law_made) (sc := defScope (top 24)) (by decide +kernel)) sc__law_made.nd (fi_range1 (fe_var 1) (T.f_range)) (fgb_name 4 sc__law_made.nd) fts_nil (fun s H C cl fp => (fe_fz (fo_cal D__law_lowest takesF hr (fa_cons (fe_fz (fo_lst (fh_cons (fe_ixL (fe_var 2) (fe_var 4)) (fh_cons (fe_add fe_int (fe_mod (fe_ixL (fe_var 0) (fe_var 4)) fe_int)) fh_nil)))) fa_nil))))))
    (fss_cons (fs_B (fn_set 7 rfl (fe_ixL (fe_var 5) fe_int) sc__law_made.nd))
    (fss_cons (fs_n (fn_for (passes_of rfl) (fi_list (fe_var 6)) (fg_name 8 rfl sc__law_made.nd) (fns_B (fn_set 7 rfl (fe_mul (fe_var 7) (fe_ixL (fe_var 8) fe_int)) sc__law_made.nd) (fns_nilS (G' := (va (List Int) (va Int (va (List Int) (va Int (un (va (List Int) (va (List (List Int)) (va Int (un (un (un (un (un nl))))))))))))))))))
    (fss_cons (fs_B (fn_set 9 rfl (fe_fz (fo_cal D__law_lowest tk hr (fa_cons (fe_fz (fo_cat (fo_lc (vs := [8]) (own := [(("part" : Str), 8)]) rfl (blkOk_by (N := N__law_made) (sc := defScope (top 24)) (by decide +kernel)) sc__law_made.nd (fi_list (fe_var 6)) (fgb_name 8 sc__law_made.nd) fts_nil (fun s H C cl fp => (fe_mul (fe_ixL (fe_var 8) fe_int) (fe_fdv (fe_var 7) (fe_ixL (fe_var 8) fe_int))))) (fo_lst (fh_cons (fe_mul (fe_ixL (fe_var 5) fe_int) (fe_fdv (fe_var 7) (fe_ixL (fe_var 5) fe_int))) (fh_cons (fe_var 7) fh_nil))))) fa_nil))) sc__law_made.nd))
    (fss_cons (fs_B (fn_setLcF (vs := [8]) (own := [(("part" : Str), 8)]) 10 rfl rfl (blkOk_by (N := N__law_made) (sc := defScope (top 24)) (by decide +kernel)) sc__law_made.nd (fi_list (fe_var 6)) (fgb_name 8 sc__law_made.nd) fts_nil (fun s H C cl fp => (fe_tup2 (fe_ixL (fe_var 8) fe_int) (fe_ixL (fe_var 8) fe_int)))))
    (fss_cons (fs_B (fn_set 11 rfl (fe_sm D_Affine_from_numbers tk hr (fa_cons (fe_var 10) (fa_cons (fe_tup2 (fe_ixL (fe_var 5) fe_int) (fe_ixL (fe_var 5) fe_int)) fa_nil))) sc__law_made.nd))
    (fss_one (fs_ret (fe_and (fe_cal D__law_same tk hr (fa_cons (fe_var 11) (fa_cons (fe_var 9) fa_nil))) (fe_one (fe_eqd hr (fe_var 10) (fe_fz (fo_lc (vs := [8]) (own := [(("part" : Str), 8)]) rfl (blkOk_by (N := N__law_made) (sc := defScope (top 24)) (by decide +kernel)) sc__law_made.nd (fi_list (fe_var 6)) (fgb_name 8 sc__law_made.nd) fts_nil (fun s H C cl fp => (fe_tup2 (fe_ixL (fe_var 8) fe_int) (fe_ixL (fe_var 8) fe_int)))))))))))))))))))) (fun z => by simp only [bind_ok']; rfl)
abbrev N_law : List Str := [("script" : Str), ("draws" : Str), ("size" : Str), ("wide" : Str), ("first" : Str), ("second" : Str), ("tops" : Str), ("bottom" : Str), ("factor" : Str), ("ways" : Str), ("cut" : Str), ("given" : Str), ("f" : Str), ("g" : Str), ("low" : Str), ("other" : Str), ("place" : Str), ("multiple" : Str), ("negative" : Str), ("scaled" : Str), ("number" : Str), ("k" : Str), ("value" : Str)]
theorem sc_law : FnScope N_law [("script" : Str)] (defScope (top 25)) := ⟨rfl, rfl, rfl, by decide +kernel, rfl, by decide +kernel, by decide +kernel⟩
theorem d_law {f : Addr} {fd : FuncData} (Fd : FnP K "law" (top 25) f fd) (T : T0 K mg) (D__law_draws : Dk P w K mg base "_law_draws" [("script" : Str), ("count" : Str)] 1 (spF K (rtO Int) m__law_draws)) (D__law_values : Dk P w K mg base "_law_values" [("draws" : Str), ("at" : Str), ("size" : Str), ("wide" : Str)] 1 (spF K (rtO Int) m__law_values)) (D_Affine___init___l : Di P w K mg base "Affine" [("self" : Str), ("coefs" : Str), ("constant" : Str), ("bottom" : Str)] [] 2 (spI K "Affine" Fs_Affine m_Affine___init___l)) (D_Affine___init___u : Di P w K mg base "Affine" [("self" : Str), ("coefs" : Str), ("constant" : Str), ("bottom" : Str)] [] 2 (spI K "Affine" Fs_Affine m_Affine___init___u)) (D__law_lowest : Dk P w K mg base "_law_lowest" [("values" : Str)] 2 (spF K (rtO Int) m__law_lowest)) (D__law_same : Dk P w K mg base "_law_same" [("told" : Str), ("due" : Str)] 2 (spF K (rtF Bool) m__law_same)) (D_Affine___call__ : Dm P w K mg base "Affine" "__call__" [("self" : Str), ("place" : Str)] 2 (spF K (rtF (Int × Int)) m_Affine___call__)) (D__law_value : Dk P w K mg base "_law_value" [("values" : Str), ("tops" : Str), ("bottom" : Str)] 3 (spF K (rtO Int) m__law_value)) (D__law_same_number : Dk P w K mg base "_law_same_number" [("told" : Str), ("due" : Str)] 2 (spF K (rtF Bool) m__law_same_number)) (D_Affine___add__ : Dm P w K mg base "Affine" "__add__" [("self" : Str), ("other" : Str)] 4 (spF K (rtF Ty_Affine) m_Affine___add__)) (D__law_sum : Dk P w K mg base "_law_sum" [("one" : Str), ("two" : Str), ("sign" : Str)] 3 (spF K (rtO Int) m__law_sum)) (D_Affine___sub__ : Dm P w K mg base "Affine" "__sub__" [("self" : Str), ("other" : Str)] 4 (spF K (rtF Ty_Affine) m_Affine___sub__)) (D_Affine___mul__ : Dm P w K mg base "Affine" "__mul__" [("self" : Str), ("factor" : Str)] 4 (spF K (rtF Ty_Affine) m_Affine___mul__)) (D_Affine___rmul__ : Dm P w K mg base "Affine" "__rmul__" [("self" : Str), ("factor" : Str)] 4 (spF K (rtF Ty_Affine) m_Affine___rmul__)) (D_Affine___neg__ : Dm P w K mg base "Affine" "__neg__" [("self" : Str)] 4 (spF K (rtF Ty_Affine) m_Affine___neg__)) (D_Affine_scaled : Dm P w K mg base "Affine" "scaled" [("self" : Str), ("number" : Str)] 4 (spF K (rtF Ty_Affine) m_Affine_scaled)) (D_Affine___eq___a : Dm P w K mg base "Affine" "__eq__" [("self" : Str), ("other" : Str)] 1 (spF K (rtF Bool) m_Affine___eq___a)) (D__law_truth : Dk P w K mg base "_law_truth" [("told" : Str), ("due" : Str)] 1 (spF K (rtF Bool) m__law_truth)) (D_Affine___eq___i : Dm P w K mg base "Affine" "__eq__" [("self" : Str), ("other" : Str)] 1 (spF K (rtF Bool) m_Affine___eq___i)) (D_Affine_placed : Dm P w K mg base "Affine" "placed" [("self" : Str), ("size" : Str), ("start" : Str)] 4 (spF K (rtF Ty_Affine) m_Affine_placed)) (D__law_made : Dk P w K mg base "_law_made" [("draws" : Str), ("size" : Str), ("tops" : Str), ("bottom" : Str)] 5 (spF K (rtF Bool) m__law_made)) (D__law_parts : Dk P w K mg base "_law_parts" [("f" : Str), ("low" : Str), ("cut" : Str), ("tops" : Str), ("bottom" : Str), ("ways" : Str)] 5 (spF K (rtF Bool) m__law_parts)) : FnOk P w K mg base (L2.CX P w) 6 f fd [("script" : Str)] (spF K (rtF Bool) m_law) :=
  fn_def (αs := (List Int) × Unit) (G' := nl) (n := 22) Fd sc_law rfl rfl (fun cdv A outer s F H E hr tk =>
    (fss_cons (fs_B (fn_set 1 rfl (fe_fz (fo_cal D__law_draws tk hr (fa_cons (fe_var 0) (fa_cons fe_int fa_nil)))) sc_law.nd))
    (fss_cons (fs_B (fn_set 2 rfl (fe_add fe_int (fe_mod (fe_ixL (fe_var 1) fe_int) fe_int)) sc_law.nd))
    (fss_cons (fs_B (fn_set 3 rfl (fe_eq (fe_mod (fe_ixL (fe_var 1) fe_int) fe_int) fe_int) sc_law.nd))
    (fss_cons (fs_B (fn_set 4 rfl (fe_fz (fo_cal D__law_values tk hr (fa_cons (fe_var 1) (fa_cons fe_int (fa_cons (fe_var 2) (fa_cons (fe_var 3) fa_nil)))))) sc_law.nd))
    (fss_cons (fs_B (fn_setO 5 rfl (fo_cal D__law_values tk hr (fa_cons (fe_var 1) (fa_cons fe_int (fa_cons (fe_var 2) (fa_cons (fe_var 3) fa_nil))))) sc_law.nd))
    (fss_cons (fs_n (fn_if (ft_eq (fe_mod (fe_ixL (fe_var 1) fe_int) fe_int) fe_int) (fns_B (fn_setLc (vs := [22]) (own := [(("value" : Str), 22)]) 5 rfl rfl (blkOk_by (N := N_law) (sc := defScope (top 25)) (by decide +kernel)) sc_law.nd (fi_list (fe_var 4)) (fgb_name 22 sc_law.nd) fts_nil (fun s H C cl fp => (fe_mul fe_int (fe_var 22)))) (fns_B3 (fn_setix 5 (fe_br (fe_add (fe_ixL (fe_var 5) (fe_mod (fe_ixL (fe_var 1) fe_int) (fe_add (fe_var 2) fe_int))) (fe_mod (fe_ixL (fe_var 1) fe_int) fe_int))) (fe_mod (fe_ixL (fe_var 1) fe_int) (fe_add (fe_var 2) fe_int)) (hps := (pg_sub (pe_var (i := 5) rfl (Or.inl rfl)) (fe_mod (fe_ixL (fe_var 1) fe_int) (fe_add (fe_var 2) fe_int)) set_list))) fns_nil)) fns_nil))
    (fss_lend (fss_cons (fs_B (fn_setLcF (vs := [21]) (own := [(("k" : Str), 21)]) 6 rfl rfl (blkOk_by (N := N_law) (sc := defScope (top 25)) (by decide +kernel)) sc_law.nd (fi_range1 (fe_var 2) (T.f_range)) (fgb_name 21 sc_law.nd) fts_nil (fun s H C cl fp => (fe_sub (fe_mod (fe_ixL (fe_var 1) (fe_add fe_int (fe_var 21))) fe_int) fe_int))))
    (fss_cons (fs_B (fn_set 7 rfl (fe_add fe_int (fe_mod (fe_ixL (fe_var 1) fe_int) fe_int)) sc_law.nd))
    (fss_cons (fs_B (fn_set 8 rfl (fe_sub (fe_mod (fe_ixL (fe_var 1) fe_int) fe_int) fe_int) sc_law.nd))
    (fss_cons (fs_B (fn_setLcF (vs := [21]) (own := [(("k" : Str), 21)]) 9 rfl rfl (blkOk_by (N := N_law) (sc := defScope (top 25)) (by decide +kernel)) sc_law.nd (fi_range1 (fe_var 2) (T.f_range)) (fgb_name 21 sc_law.nd) fts_nil (fun s H C cl fp => (fe_sub (fe_mod (fe_ixL (fe_var 1) (fe_add fe_int (fe_var 21))) fe_int) fe_int))))
    (fss_cons (fs_B (fn_set 10 rfl (fe_mod (fe_ixL (fe_var 1) fe_int) (fe_add (fe_var 2) fe_int)) sc_law.nd))
    (fss_cons (fs_B (fn_setO 11 rfl (fo_list (fe_slL (fe_var 4) fp_none (fp_some (fe_neg fe_int))) (T.f_list)) sc_law.nd))
    (fss_cons (fs_B (fn_set 12 rfl (fe_br (fe_make D_Affine___init___l tk hr (fa_cons (fe_var 11) (fa_cons (fe_ixL (fe_var 4) (fe_neg fe_int)) (fa_cons (fe_ixL (fe_var 4) (fe_neg fe_int)) fa_nil))))) sc_law.nd))
    (fss_cons (fs_if (ft_br (ft_ned hr (fe_var 11) (fe_slL (fe_var 4) fp_none (fp_some (fe_neg fe_int))))) (fss_one (fs_ret fe_bl)) fss_nil)
    (fss_cons (fs_B2 (fn_append 11 fe_int))
    (fss_lend (fss_cons (fs_B (fn_set 13 rfl (fe_make D_Affine___init___u tk hr (fa_cons (fe_tupL (fe_slL (fe_var 5) fp_none (fp_some (fe_neg fe_int))) (T.f_tuple)) (fa_cons (fe_ixL (fe_var 5) (fe_neg fe_int)) (fa_cons (fe_ixL (fe_var 5) (fe_neg fe_int)) fa_nil)))) sc_law.nd))
    (fss_cons (fs_B (fn_set 14 rfl (fe_fz (fo_cal D__law_lowest tk hr (fa_cons (fe_var 4) fa_nil))) sc_law.nd))
    (fss_cons (fs_B (fn_set 15 rfl (fe_fz (fo_cal D__law_lowest tk hr (fa_cons (fe_var 5) fa_nil))) sc_law.nd))
    (fss_cons (fs_B (fn_set 16 rfl (fe_fz (fo_cal D__law_lowest tk hr (fa_cons (fe_fz (fo_catF (fe_var 6) (fe_fz (fo_lst (fh_cons (fe_var 7) fh_nil))))) fa_nil))) sc_law.nd))
    (fss_cons (fs_if (ft_w (fw_or (ft_not (ft_val (fe_cal D__law_same tk hr (fa_cons (fe_var 12) (fa_cons (fe_var 14) fa_nil))))) (fw_or1 (ft_not (ft_val (fe_cal D__law_same tk hr (fa_cons (fe_var 13) (fa_cons (fe_var 15) fa_nil)))))))) (fss_one (fs_ret fe_bl)) fss_nil)
    (fss_cons (fs_if (ft_not (ft_val (fe_cal D__law_same_number tk hr (fa_cons (fe_callO D_Affine___call__ T.fnc_Affine tk hr (fe_var 12) (fa_cons (fe_tup2 (fe_tupL (fe_slL (fe_var 16) fp_none (fp_some (fe_neg fe_int))) (T.f_tuple)) (fe_ixL (fe_var 16) (fe_neg fe_int))) fa_nil)) (fa_cons (fe_fz (fo_cal D__law_value tk hr (fa_cons (fe_var 14) (fa_cons (fe_var 6) (fa_cons (fe_var 7) fa_nil))))) fa_nil))))) (fss_one (fs_ret fe_bl)) fss_nil)
    (fss_cons (fs_if (ft_w (fw_or (ft_not (ft_val (fe_cal D__law_same tk hr (fa_cons (fe_opOO D_Affine___add__ T.sf_Affine tk hr (fe_var 12) (fe_var 13)) (fa_cons (fe_fz (fo_cal D__law_sum tk hr (fa_cons (fe_var 14) (fa_cons (fe_var 15) (fa_cons fe_int fa_nil))))) fa_nil))))) (fw_or1 (ft_not (ft_val (fe_cal D__law_same tk hr (fa_cons (fe_opOO D_Affine___sub__ T.sf_Affine tk hr (fe_var 12) (fe_var 13)) (fa_cons (fe_fz (fo_cal D__law_sum tk hr (fa_cons (fe_var 14) (fa_cons (fe_var 15) (fa_cons (fe_neg fe_int) fa_nil))))) fa_nil)))))))) (fss_one (fs_ret fe_bl)) fss_nil)
    (fss_cons (fs_B (fn_set 17 rfl (fe_fz (fo_cal D__law_lowest tk hr (fa_cons (fe_fz (fo_catF (fe_fz (fo_lc (vs := [22]) (own := [(("value" : Str), 22)]) rfl (blkOk_by (N := N_law) (sc := defScope (top 25)) (by decide +kernel)) sc_law.nd (fi_list (fe_slL (fe_var 14) fp_none (fp_some (fe_neg fe_int)))) (fgb_name 22 sc_law.nd) fts_nil (fun s H C cl fp => (fe_mul (fe_var 8) (fe_var 22))))) (fe_slL (fe_var 14) (fp_some (fe_neg fe_int)) fp_none))) fa_nil))) sc_law.nd))
    (fss_cons (fs_if (ft_w (fw_or (ft_not (ft_val (fe_cal D__law_same tk hr (fa_cons (fe_opOI (mr := "__rmul__") D_Affine___mul__ T.oi_Affine___mul__ tk hr (fe_var 12) (fe_var 8)) (fa_cons (fe_var 17) fa_nil))))) (fw_or1 (ft_not (ft_val (fe_cal D__law_same tk hr (fa_cons (fe_opIO D_Affine___rmul__ T.me_Affine___mul__ T.sf_Affine T.sbi_Affine tk hr (fe_var 8) (fe_var 12)) (fa_cons (fe_var 17) fa_nil)))))))) (fss_one (fs_ret fe_bl)) fss_nil)
    (fss_cons (fs_B (fn_set 18 rfl (fe_fz (fo_catF (fe_fz (fo_lc (vs := [22]) (own := [(("value" : Str), 22)]) rfl (blkOk_by (N := N_law) (sc := defScope (top 25)) (by decide +kernel)) sc_law.nd (fi_list (fe_slL (fe_var 14) fp_none (fp_some (fe_neg fe_int)))) (fgb_name 22 sc_law.nd) fts_nil (fun s H C cl fp => (fe_neg (fe_var 22))))) (fe_slL (fe_var 14) (fp_some (fe_neg fe_int)) fp_none))) sc_law.nd))
    (fss_cons (fs_if (ft_not (ft_val (fe_cal D__law_same tk hr (fa_cons (fe_negO D_Affine___neg__ tk hr (fe_var 12)) (fa_cons (fe_var 18) fa_nil))))) (fss_one (fs_ret fe_bl)) fss_nil)
    (fss_cons (fs_B (fn_set 19 rfl (fe_fz (fo_cal D__law_lowest tk hr (fa_cons (fe_fz (fo_cat (fo_lc (vs := [22]) (own := [(("value" : Str), 22)]) rfl (blkOk_by (N := N_law) (sc := defScope (top 25)) (by decide +kernel)) sc_law.nd (fi_list (fe_slL (fe_var 14) fp_none (fp_some (fe_neg fe_int)))) (fgb_name 22 sc_law.nd) fts_nil (fun s H C cl fp => (fe_mul (fe_var 8) (fe_var 22)))) (fo_lst (fh_cons (fe_mul (fe_ixL (fe_var 14) (fe_neg fe_int)) (fe_var 7)) fh_nil)))) fa_nil))) sc_law.nd))
    (fss_cons (fs_B (fn_set 20 rfl (fe_fz (fo_cal D__law_lowest tk hr (fa_cons (fe_fz (fo_lst (fh_cons (fe_var 8) (fh_cons (fe_var 7) fh_nil)))) fa_nil))) sc_law.nd))
    (fss_cons (fs_if (ft_not (ft_val (fe_cal D__law_same tk hr (fa_cons (fe_meth D_Affine_scaled T.cl_Affine tk hr (fe_var 12) (fa_cons (fe_tup2 (fe_ixL (fe_var 20) fe_int) (fe_ixL (fe_var 20) fe_int)) fa_nil)) (fa_cons (fe_var 19) fa_nil))))) (fss_one (fs_ret fe_bl)) fss_nil)
    (fss_cons (fs_if (ft_w (fw_or (ft_not (ft_val (fe_cal D__law_truth tk hr (fa_cons (fe_eqOO D_Affine___eq___a tk hr (fe_var 12) (fe_var 13)) (fa_cons (fe_eqd hr (fe_var 14) (fe_var 15)) fa_nil))))) (fw_or1 (ft_not (ft_val (fe_cal D__law_truth tk hr (fa_cons (fe_eqOO D_Affine___eq___a tk hr (fe_var 13) (fe_var 12)) (fa_cons (fe_eqd hr (fe_var 14) (fe_var 15)) fa_nil)))))))) (fss_one (fs_ret fe_bl)) fss_nil)
    (fss_cons (fs_if (ft_not (ft_val (fe_cal D__law_truth tk hr (fa_cons (fe_eqOO D_Affine___eq___a tk hr (fe_var 12) (fe_make D_Affine___init___l tk hr (fa_cons (fe_fz (fo_lc (vs := [22]) (own := [(("value" : Str), 22)]) rfl (blkOk_by (N := N_law) (sc := defScope (top 25)) (by decide +kernel)) sc_law.nd (fi_list (fe_slL (fe_var 14) fp_none (fp_some (fe_neg fe_int)))) (fgb_name 22 sc_law.nd) fts_nil (fun s H C cl fp => (fe_mul fe_int (fe_var 22))))) (fa_cons (fe_mul fe_int (fe_ixL (fe_var 14) (fe_neg fe_int))) (fa_cons (fe_mul fe_int (fe_ixL (fe_var 14) (fe_neg fe_int))) fa_nil))))) (fa_cons fe_bl fa_nil))))) (fss_one (fs_ret fe_bl)) fss_nil)
    (fss_cons (fs_if (ft_w (fw_or (ft_not (ft_val (fe_cal D__law_truth tk hr (fa_cons (fe_eqOI D_Affine___eq___i T.nfi_Affine tk hr (fe_var 12) (fe_var 8)) (fa_cons fe_bl fa_nil))))) (fw_or1 (ft_not (ft_val (fe_cal D__law_truth tk hr (fa_cons (fe_eqOO D_Affine___eq___a tk hr (fe_var 12) (fe_meth D_Affine_placed T.cl_Affine tk hr (fe_var 12) (fa_cons (fe_add (fe_var 2) fe_int) (fa_cons fe_int fa_nil)))) (fa_cons fe_bl fa_nil)))))))) (fss_one (fs_ret fe_bl)) fss_nil)
    (fss_cons (fs_if (ft_not (ft_val (fe_cal D__law_made tk hr (fa_cons (fe_slL (fe_var 1) (fp_some fe_int) (fp_some fe_int)) (fa_cons (fe_var 2) (fa_cons (fe_var 6) (fa_cons (fe_var 7) fa_nil))))))) (fss_one (fs_ret fe_bl)) fss_nil)
    (fss_one (fs_ret (fe_and (fe_cal D__law_parts tk hr (fa_cons (fe_var 12) (fa_cons (fe_var 14) (fa_cons (fe_var 10) (fa_cons (fe_var 6) (fa_cons (fe_var 7) (fa_cons (fe_var 9) fa_nil))))))) (fe_and (fe_cal D__law_same tk hr (fa_cons (fe_var 12) (fa_cons (fe_var 14) fa_nil))) (fe_one (fe_cal D__law_same tk hr (fa_cons (fe_var 13) (fa_cons (fe_var 15) fa_nil)))))))))))))))))))))))))))))))))))))))))))) (fun z => by simp only [bind_ok']; rfl)
end
end LW

/-! CD: the draws. -/
namespace LW
open PySem L2 FL
theorem fm_range {a : Int} {m : Int} (h : 0 < m) : 0 ≤ a.fmod m ∧ a.fmod m < m := ⟨Int.fmod_nonneg_of_pos _ h, Int.fmod_lt_of_pos _ h⟩
def Dr (l : List Int) : Prop := ∀ x ∈ l, 0 ≤ x ∧ x < 1000
theorem Dr.snoc {l : List Int} {a : Int} (h : Dr l) (h2 : 0 ≤ a ∧ a < 1000) : Dr (l ++ [a]) := fun x m => by
  rcases List.mem_append.mp m with m | m
  · exact h x m
  · rw [List.mem_singleton.mp m]; exact h2
theorem hlen {α : Type} [Rp α] (l : List α) : HasLen.len l = l.length := rfl
theorem draws_ok {ns : List Int} {c : Int} (hn : ns.length ≤ 63) (h0 : 0 ≤ c) (h1 : c ≤ 1000) : Ok (m__law_draws (ns, c, ())) fun l => (l.length : Int) = c ∧ Dr l := by
  unfold m__law_draws
  rw [ok_bind]
  refine ok_fold (fun g => g.1 = ns ∧ g.2.1 = c ∧ (g.2.2.1.length : Int) ≤ c ∧ Dr g.2.2.1) ⟨by first | rfl | trivial, by first | rfl | trivial, by simpa using h0, fun x m => by cases m⟩ ?_ ?_
  · rintro ⟨a1, a2, a3, _⟩ a _ ⟨b1, b2, b3, b4⟩
    simp only at b1 b2 b3 b4
    subst b1 b2
    simp only [ok_bind, ok_ok, ok_ite, hlen]
    rw [ok_pow (by decide)]
    refine ⟨fun _ => ?_, fun _ => ⟨fun hl => ?_, fun _ => ⟨by first | rfl | trivial, by first | rfl | trivial, b3, b4⟩⟩⟩
    · rw [ok_rng (by decide)]
      refine ok_fold (fun g => g.1 = a1 ∧ g.2.1 = a2 ∧ (g.2.2.1.length : Int) ≤ a2 ∧ Dr g.2.2.1) ⟨by first | rfl | trivial, by first | rfl | trivial, b3, b4⟩ ?_ fun g h => h
      rintro ⟨c1, c2, c3, c4, c5, _⟩ k _ ⟨d1, d2, d3, d4⟩
      simp only at d1 d2 d3 d4
      subst d1 d2
      simp only [ok_bind, ok_ok, ok_ite, hlen]

      refine ⟨fun _ => ⟨fun hl => ?_, fun _ => ⟨by first | rfl | trivial, by first | rfl | trivial, d3, d4⟩⟩, fun _ => ⟨(fun z => absurd z Bool.false_ne_true), fun _ => ⟨by first | rfl | trivial, by first | rfl | trivial, d3, d4⟩⟩⟩
      have hl := of_decide_eq_true hl
      rw [ok_mod (by decide), ok_app (by omega), ok_fdv (by decide) (by decide)]
      exact ⟨by first | rfl | trivial, by first | rfl | trivial, by simp only [len_app]; omega, d4.snoc (fm_range (by decide))⟩
    · have hl := of_decide_eq_true hl
      rw [ok_mulr (by decide), ok_mod (by decide), ok_mulr (by decide), ok_mod (by decide), ok_mod (by decide), ok_app (by omega)]
      exact ⟨by first | rfl | trivial, by first | rfl | trivial, by simp only [len_app]; omega, b4.snoc (fm_range (by decide))⟩
  · rintro ⟨a1, a2, a3, _⟩ ⟨b1, b2, b3, b4⟩
    simp only at b1 b2 b3 b4
    subst b1 b2
    simp only []
    rw [ok_bind]
    refine ok_fold (fun g => g.1 = a1 ∧ g.2.1 = a2 ∧ g.2.2.1 = a3) ⟨rfl, rfl, rfl⟩ ?_ ?_
    · rintro ⟨c1, c2, c3, c4, _⟩ a _ ⟨d1, d2, d3⟩
      simp only at d1 d2 d3
      subst d1 d2 d3
      simp only [ok_bind, ok_ok]
      rw [ok_mulr (by decide), ok_mod (by decide)]
      exact ⟨by trivial, by trivial, by trivial⟩
    · rintro ⟨c1, c2, c3, c4, _⟩ ⟨d1, d2, d3⟩
      simp only at d1 d2 d3
      subst d1 d2 d3
      simp only [ok_bind, ok_ok]
      rw [ok_rng (by omega)]
      refine ok_foldI (fun i g => g.1 = c1 ∧ g.2.1 = c2 ∧ (g.2.2.1.length : Int) ≤ c2 ∧ ((i : Int) ≤ c2 → (i : Int) ≤ g.2.2.1.length) ∧ Dr g.2.2.1) ⟨by first | rfl | trivial, by first | rfl | trivial, b3, fun _ => by simp, b4⟩ ?_ ?_
      · rintro i ⟨e1, e2, e3, e4, _⟩ k hk ⟨f1, f2, f3, f4, f5⟩
        simp only at f1 f2 f3 f4 f5
        subst f1 f2
        simp only [ok_bind, ok_ok, ok_ite, hlen]
        refine ⟨fun hl => ?_, fun hl => ⟨by first | rfl | trivial, by first | rfl | trivial, f3, fun z => ?_, f5⟩⟩
        · have hl := of_decide_eq_true hl
          rw [ok_mulr (by decide), ok_mod (by decide), ok_fdv (by decide) (by decide), ok_mod (by decide), ok_app (by omega)]
          exact ⟨by first | rfl | trivial, by first | rfl | trivial, by simp only [len_app]; omega, fun z => by simp only [len_app]; omega, f5.snoc (fm_range (by decide))⟩
        · have hl := of_decide_eq_false hl
          omega
      · rintro ⟨e1, e2, e3, e4, _⟩ ⟨f1, f2, f3, f4, f5⟩
        simp only at f1 f2 f3 f4 f5
        subst f1 f2
        rw [rangeL_len] at f4
        exact ⟨by have := f4 (by omega); show ((e3.length : Int)) = _; omega, f5⟩
/-- the draw at a place -/
def dv (l : List Int) (i : Int) : Int := l.getD i.toNat 0
theorem dv_range {l : List Int} (h : Dr l) (i : Int) : 0 ≤ dv l i ∧ dv l i < 1000 := by
  unfold dv
  rw [List.getD_eq_getElem?_getD]
  cases e : l[i.toNat]? with
  | none => exact ⟨Int.le_refl 0, by decide⟩
  | some x => exact h x (List.mem_of_getElem? e)
theorem getX_dv {l : List Int} {i : Int} (h0 : 0 ≤ i) (h1 : i < (l.length : Int)) : getX l i = .ok (dv l i) := by
  have e : l[i.toNat]? = some l[i.toNat] := List.getElem?_eq_getElem (by omega)
  rw [getX_b h0 e]
  unfold dv
  rw [List.getD_eq_getElem?_getD, e]
  rfl
theorem mod_range {a m : Int} (h : 0 < m) : 0 ≤ a.fmod m ∧ a.fmod m < m := fm_range h
end LW

/-! CG: the law's gcd. -/
namespace LW
open PySem L2 FL
theorem gcd_loop {f : (Int × (Int × Unit)) → Int → Xc (Lp (Int × (Int × Unit)) Int)} (hf : ∀ x y k, f (x, (y, ())) k = if decide (y = 0) = true then Xc.ok (Lp.rt x) else Xc.bind (modX x y) fun t => Xc.ok (Lp.ct (y, (t, ())))) :
    ∀ (n : Nat) (l : List Int) (x y : Nat), 2 * n + 2 ≤ l.length → y < 2 ^ n → forX f l ((x : Int), ((y : Int), ())) = .ok (.inr ((Nat.gcd x y : Nat) : Int)) := by
  have step0 : ∀ (a : Int) (l : List Int) (x : Nat), forX f (a :: l) ((x : Int), ((0 : Int), ())) = .ok (.inr (x : Int)) := fun a l x => by
    rw [forX_cons, hf]
    simp [bind_ok]
  have step1 : ∀ (a : Int) (l : List Int) (x y : Nat), y ≠ 0 → forX f (a :: l) ((x : Int), ((y : Int), ())) = forX f l ((y : Int), (((x % y : Nat) : Int), ())) := fun a l x y h => by
    rw [forX_cons, hf]
    have h2 : (y : Int) ≠ 0 := by omega
    rw [if_neg (by simpa using h), modX_b h2]
    simp only [bind_ok]
    rw [Int.fmod_eq_emod_of_nonneg _ (by omega)]
    rfl
  intro n
  induction n with
  | zero =>
    intro l x y hl hy
    have : y = 0 := by simpa using hy
    subst this
    cases l with
    | nil => simp at hl
    | cons a l => simpa using step0 a l x
  | succ n ih =>
    intro l x y hl hy
    match l, hl with
    | a :: b :: l, hl =>
      by_cases h : y = 0
      · subst h; simpa using step0 a (b :: l) x
      · rw [step1 _ _ _ _ h]
        by_cases h2 : x % y = 0
        · rw [h2]
          have := step0 b l y
          rw [show ((0 : Nat) : Int) = 0 from rfl, this]
          rw [Nat.gcd_comm, Nat.gcd_rec, h2, Nat.gcd_zero_left]
        · rw [step1 _ _ _ _ h2]
          have hr : x % y < y := Nat.mod_lt _ (by omega)
          have hs : 2 * (y % (x % y)) < 2 ^ (n + 1) := by
            have h3 : y % (x % y) < x % y := Nat.mod_lt _ (by omega)
            have h4 : y % (x % y) ≤ y - (x % y) := by
              have e := Nat.div_add_mod y (x % y)
              have : 1 ≤ y / (x % y) := Nat.div_pos (by omega) (by omega)
              have : (x % y) * 1 ≤ (x % y) * (y / (x % y)) := Nat.mul_le_mul_left _ this
              omega
            omega
          rw [ih l (x % y) (y % (x % y)) (by simp at hl; omega) (by rw [Nat.pow_succ] at hs; omega)]
          congr 3
          rw [Nat.gcd_comm x y, Nat.gcd_rec y x, Nat.gcd_rec (x % y) y, Nat.gcd_comm]
theorem absI_eq (i : Int) : absI i = (i.natAbs : Int) := by
  unfold absI
  split <;> omega
theorem bits_lt (n : Nat) : n < 2 ^ Builtin.Int.intBits (n : Int) := by
  unfold Builtin.Int.intBits
  by_cases h : n = 0
  · subst h; decide
  · have : ((n : Int) == 0) = false := by simpa using h
    rw [this]
    simp only [Bool.false_eq_true, if_false]
    exact Nat.lt_log2_self
theorem bits_le {n b : Nat} (h : n < 2 ^ b) : Builtin.Int.intBits (n : Int) ≤ b := by
  unfold Builtin.Int.intBits
  by_cases h0 : n = 0
  · subst h0; simp
  · have : ((n : Int) == 0) = false := by simpa using h0
    rw [this]
    simp only [Bool.false_eq_true, if_false]
    have := (Nat.log2_lt h0).2 h
    exact this
theorem gcd_ok' {a b : Int} (h1 : Builtin.Int.intBits (b.natAbs : Int) ≤ 9000) : m__law_gcd (a, b, ()) = .ok (gcdI a b) := by
  have e1 : mulX (2 : Int) ((Builtin.Int.intBits (absI b) : Nat) : Int) = .ok (2 * ((Builtin.Int.intBits (b.natAbs : Int) : Nat) : Int)) := by rw [absI_eq]; exact mulX_l (by decide)
  have e2 : rngX 0 (2 * ((Builtin.Int.intBits (b.natAbs : Int) : Nat) : Int) + 2) = .ok (rangeL 0 (2 * ((Builtin.Int.intBits (b.natAbs : Int) : Nat) : Int) + 2)) := rngX_b (by decide) (by omega) (by decide) (by omega)
  have e3 := gcd_loop (f := fun (g408 : (Int × (Int × Unit))) a411 => (if (decide (g408.2.1 = (0 : Int))) = true then (Xc.ok (Lp.rt g408.1)) else (Xc.bind (modX g408.1 g408.2.1) fun t413 => (Xc.ok (Lp.ct (g408.2.1, (t413, ()))))))) (fun x y k => Eq.refl _) (Builtin.Int.intBits (b.natAbs : Int)) (rangeL 0 (2 * ((Builtin.Int.intBits (b.natAbs : Int) : Nat) : Int) + 2)) a.natAbs b.natAbs (by rw [rangeL_len]; omega) (bits_lt _)
  unfold m__law_gcd
  show (Xc.bind (Xc.bind (Xc.bind (mulX (2 : Int) ((Builtin.Int.intBits (absI b) : Nat) : Int)) _) _) _) = _
  rw [e1, bind_ok, bind_ok, e2, bind_ok]
  show forK (forX _ _ (absI a, (absI b, ()))) id _ = _
  rw [absI_eq, absI_eq, e3, forK_inr, gcdI]
  exact Eq.refl _
theorem gcd_ok {a b : Int} (hb : b.natAbs < 2 ^ 9000) : m__law_gcd (a, b, ()) = .ok (gcdI a b) := gcd_ok' (bits_le hb)
end LW

/-! CP: points: divisors, lowest terms. -/
namespace LW
open PySem L2 FL
theorem gcdI_nat (n : Nat) (a : Int) : gcdI (n : Int) a = ((Nat.gcd n a.natAbs : Nat) : Int) := by
  unfold gcdI
  rw [Int.natAbs_natCast]
theorem fold_gcd {χ : Type} {f : (χ × (Int × (Int × Unit))) → Int → Xc (χ × (Int × (Int × Unit)))} {x : χ} {s : Int} : ∀ (l : List Int) (n : Nat), (∀ c a, a ∈ l → f (x, (s, (c, ()))) a = .ok (x, (s, (gcdI c a, ())))) →
    foldX f l (x, (s, ((n : Int), ()))) = .ok (x, (s, (((l.foldl (fun g a => Nat.gcd g a.natAbs) n : Nat) : Int), ())))
  | [], n, _ => rfl
  | a :: l, n, hf => by
    show (f _ a).bind _ = _
    rw [hf _ _ (by simp), bind_ok', gcdI_nat]
    exact fold_gcd l _ fun c a m => hf c a (by simp [m])
theorem common_l (l : List Int) (s : Int) : m_common_divisor_l (l, (s, ())) = .ok ((gcdL l s : Nat) : Int) := by
  unfold m_common_divisor_l
  dsimp only
  rw [absI_eq, fold_gcd (χ := List Int) l s.natAbs (fun c a _ => Eq.refl _), bind_ok']
  rfl
theorem common_u (l : Tu Int) (s : Int) : m_common_divisor_u (l, (s, ())) = .ok ((gcdL (Tu.l l) s : Nat) : Int) := by
  unfold m_common_divisor_u
  dsimp only
  rw [absI_eq, fold_gcd (χ := Tu Int) (Tu.l l) s.natAbs (fun c a _ => Eq.refl _), bind_ok']
  rfl
theorem comp_fdiv {n : Nat} {c : Int} (hn : n ≤ 8999) (hb : Bd n c) (hc : c ≠ 0) (l : List Int) {f : Int → Xc Int} {t : Int → Xc Bool} (ht : ∀ a, t a = .ok true) (hf : ∀ a, f a = fdvX a c) : compX t f l = .ok (l.map fun t => t.fdiv c) :=
  compX_map fun a _ => ⟨ht a, by rw [hf]; exact fdvX_bd hn hc⟩
theorem bd_sgd {n : Nat} {l : List Int} {b : Int} (h : b ≠ 0) (hb : Bd n b) : Bd n (sgd l b) := ⟨by
  rw [sgd_abs]
  exact Nat.lt_of_le_of_lt (gcdL_le (l := l) h).1 hb.lt⟩
theorem point_tail {χ : Type} {x : χ} {n : Nat} {l : List Int} {b : Int} (hn : n ≤ 8999) (h : b ≠ 0) (hb : Bd n b) {k : (χ × (Int × (Int × Unit))) → Xc (Tu Int × Int)}
    (hk : ∀ c : Int, Bd n c → c ≠ 0 → k (x, (b, (c, ()))) = .ok (tu (l.map fun t => t.fdiv c), b.fdiv c)) :
    (Xc.bind (if (decide (b < (0 : Int))) = true then (Xc.ok (x, (b, ((-((gcdL l b : Nat) : Int)), ())))) else (Xc.ok (x, (b, (((gcdL l b : Nat) : Int), ()))))) k) = .ok (pt l b) := by
  have h1 := bd_sgd (l := l) h hb
  have h2 := sgd_ne (l := l) h
  have h3 := hk _ h1 h2
  unfold pt
  unfold sgd at *
  by_cases q : b < 0
  · rw [if_pos (by simpa using q), bind_ok']
    rw [if_pos q] at *
    exact h3
  · rw [if_neg (by simpa using q), bind_ok']
    rw [if_neg q] at *
    exact h3
theorem point_l {n : Nat} {l : List Int} {b : Int} [hb : Bd n b] (hn : n ≤ 8999) (h : b ≠ 0) : m_point_l (l, (b, ())) = .ok (pt l b) := by
  unfold m_point_l
  rw [if_neg (by simpa using h)]
  dsimp only
  rw [common_l, bind_ok']
  refine point_tail hn h hb fun c hc h0 => ?_
  dsimp only
  rw [comp_fdiv hn hc h0 l (fun _ => rfl) (fun _ => rfl), bind_ok', bind_ok', fdvX_bd hn h0, bind_ok']
theorem point_u {n : Nat} {l : Tu Int} {b : Int} [hb : Bd n b] (hn : n ≤ 8999) (h : b ≠ 0) : m_point_u (l, (b, ())) = .ok (pt (Tu.l l) b) := by
  unfold m_point_u
  rw [if_neg (by simpa using h)]
  dsimp only
  rw [common_u, bind_ok']
  refine point_tail hn h hb fun c hc h0 => ?_
  dsimp only
  rw [comp_fdiv hn hc h0 (Tu.l l) (fun _ => rfl) (fun _ => rfl), bind_ok', bind_ok', fdvX_bd hn h0, bind_ok']
theorem point_er (l : List Int) : m_point_l (l, (0, ())) = .er "BadNumber" [] := rfl
end LW

/-! CQ: numbers in lowest terms; kinds. -/
namespace LW
open PySem L2 FL
def lowq (a b : Int) : Int × Int := (a.fdiv (sgd [a] b), b.fdiv (sgd [a] b))
theorem szX_1 {a : Int} : szX [a] = .ok [a] := szX_b (show 1 ≤ 1000000 by decide)
theorem gcdI_sgd (a b : Int) : ((gcdL [a] b : Nat) : Int) = gcdI a b := by
  unfold gcdI gcdL
  simp [Nat.gcd_comm]
theorem ratio_ok {n : Nat} {a b : Int} [hb : Bd n b] (hn : n ≤ 8999) (h : b ≠ 0) : m_ratio (a, (b, ())) = .ok (lowq a b) := by
  unfold m_ratio
  rw [if_neg (by simpa using h)]
  dsimp only
  rw [← gcdI_sgd]
  have h1 := bd_sgd (l := [a]) h hb
  have h2 := sgd_ne (l := [a]) h
  unfold lowq
  unfold sgd at *
  by_cases q : b < 0
  · rw [if_pos (by simpa using q), bind_ok']
    rw [if_pos q] at *
    dsimp only
    rw [fdvX_bd hn h2, bind_ok', fdvX_bd hn h2, bind_ok']
  · rw [if_neg (by simpa using q), bind_ok']
    rw [if_neg q] at *
    dsimp only
    rw [fdvX_bd hn h2, bind_ok', fdvX_bd hn h2, bind_ok']
theorem lowq_pt (a b : Int) : pt [a] b = (tu [(lowq a b).1], (lowq a b).2) := rfl
theorem lowq_eq {a b a' b' : Int} (hb : b ≠ 0) (hb' : b' ≠ 0) (h : a * b' = a' * b) : lowq a b = lowq a' b' := by
  have := pt_eq (l := [a]) (l' := [a']) hb hb' (by simp [h])
  rw [lowq_pt, lowq_pt] at this
  have e1 := congrArg Prod.snd this
  have e2 : ([(lowq a b).1] : List Int) = [(lowq a' b').1] := congrArg Prod.fst this
  simp only [List.cons.injEq, and_true] at e2
  exact Prod.ext e2 e1
theorem lowq_pos {a b : Int} (hb : b ≠ 0) : 1 ≤ (lowq a b).2 := (pt_lp (l := [a]) hb).pos
theorem lowq_cross {a b : Int} (hb : b ≠ 0) : (lowq a b).1 * b = a * (lowq a b).2 := by
  have := pt_cross (l := [a]) hb
  rw [lowq_pt] at this
  have : ([(lowq a b).1 * b] : List Int) = [a * (lowq a b).2] := this
  simpa using this
instance bd_low1 {n : Nat} {a b : Int} [h : Bd n a] : Bd n (lowq a b).1 := ⟨Nat.lt_of_le_of_lt (fdiv_le _ _) h.lt⟩
instance bd_low2 {n : Nat} {a b : Int} [h : Bd n b] : Bd n (lowq a b).2 := ⟨Nat.lt_of_le_of_lt (fdiv_le _ _) h.lt⟩
/-! the same -/
theorem isi_ii (i : Int) : isiX (HasTy.ty i) "int" = .ok true := by
  show isiX "int" "int" = _
  unfold isiX
  rfl
theorem isi_ib (i : Int) : isiX (HasTy.ty i) "bool" = .ok false := by
  show isiX "int" "bool" = _
  unfold isiX
  rfl
theorem isi_bb (i : Bool) : isiX (HasTy.ty i) "bool" = .ok true := by
  show isiX "bool" "bool" = _
  unfold isiX
  rfl
theorem isi_tt {α : Type} [Rp α] (t : Tu α) : isiX (HasTy.ty t) "tuple" = .ok true := by
  show isiX "tuple" "tuple" = _
  unfold isiX
  rfl
theorem isi_pt {α β : Type} [Rp α] [Rp β] (p : α × β) : isiX (HasTy.ty p) "tuple" = .ok true := by
  show isiX "tuple" "tuple" = _
  unfold isiX
  rfl
theorem truth_ok (b : Bool) : m__law_truth (b, (b, ())) = .ok true := by
  unfold m__law_truth
  simp only [isi_bb, bind_ok', if_true, decide_true]
theorem hlenU {α : Type} [Rp α] (t : Tu α) : HasLen.len t = (Tu.l t).length := rfl
theorem hlenL {α : Type} [Rp α] (t : List α) : HasLen.len t = t.length := rfl
theorem hlenP {α β : Type} [Rp α] [Rp β] (t : α × β) : HasLen.len t = 2 := rfl
end LW

/-! CO: points of numbers. -/
namespace LW
open PySem L2 FL
theorem lcmX_ok {i j : Int} (hi : i.natAbs < 2 ^ 64) (hj : j.natAbs < 2 ^ 64) : lcmX i j = .ok ((Nat.lcm i.natAbs j.natAbs : Nat) : Int) := by unfold lcmX; rw [if_pos ⟨hi, hj⟩]
theorem lcm_fold {χ : Type} {x : χ} {f : (χ × (Int × Unit)) → Int × Int → Xc (χ × (Int × Unit))} {D : Nat} (hD : D < 2 ^ 64) (h0 : 0 < D) : ∀ (l : List (Int × Int)) (n : Nat), n ∣ D → (∀ c a, a ∈ l → f (x, (c, ())) a = (lcmX c a.2).bind fun t => .ok (x, (t, ()))) → (∀ a ∈ l, a.2.natAbs ∣ D) →
    ∃ m : Nat, foldX f l (x, ((n : Int), ())) = .ok (x, ((m : Int), ())) ∧ m ∣ D ∧ n ∣ m ∧ ∀ a ∈ l, a.2.natAbs ∣ m
  | [], n, hn, _, _ => ⟨n, rfl, hn, Nat.dvd_refl _, fun a m => by cases m⟩
  | a :: l, n, hn, hf, hl => by
    have d := hl a (by simp)
    have e : lcmX (n : Int) a.2 = .ok ((Nat.lcm n a.2.natAbs : Nat) : Int) := lcmX_ok (by have := Nat.le_of_dvd h0 hn; omega) (by have := Nat.le_of_dvd h0 d; omega)
    obtain ⟨m, e1, e2, e3, e4⟩ := lcm_fold hD h0 l (Nat.lcm n a.2.natAbs) (Nat.lcm_dvd hn d) (fun c b m => hf c b (by simp [m])) fun b m => hl b (by simp [m])
    refine ⟨m, ?_, e2, Nat.dvd_trans (Nat.dvd_lcm_left _ _) e3, fun b mb => ?_⟩
    · show (f _ a).bind _ = _
      rw [hf _ _ (by simp), e, bind_ok', bind_ok']
      exact e1
    · rcases List.mem_cons.mp mb with q | q
      · subst q; exact Nat.dvd_trans (Nat.dvd_lcm_right _ _) e3
      · exact e4 b q
theorem point_of_ok {n : Nat} {l : List (Int × Int)} {D : Nat} (hD : D < 2 ^ 64) (h0 : 0 < D) (hd : ∀ a ∈ l, a.2.natAbs ∣ D ∧ 1 ≤ a.2) (hb : ∀ a ∈ l, Bd n a.1) (hn : n ≤ 900000) :
    ∃ m : Nat, 0 < m ∧ m ∣ D ∧ (∀ a ∈ l, a.2 ∣ (m : Int)) ∧ m_point_of (l, ()) = .ok (pt (l.map fun a => a.1 * ((m : Int).fdiv a.2)) (m : Int)) := by
  unfold m_point_of
  dsimp only
  obtain ⟨m, e1, e2, e3, e4⟩ := lcm_fold (x := l) (f := fun (g34 : ((List (Int × Int)) × (Int × Unit))) a35 => (Xc.bind (lcmX g34.2.1 a35.2) fun t36 => (Xc.ok (g34.1, (t36, ()))))) hD h0 l 1 (Nat.one_dvd _) (fun _ _ _ => rfl) fun a m => (hd a m).1
  have hm0 : 0 < m := Nat.pos_of_dvd_of_pos e2 h0
  have hm : m < 2 ^ 64 := by have := Nat.le_of_dvd h0 e2; omega
  have bm : Bd 64 (m : Int) := ⟨by rw [Int.natAbs_natCast]; exact hm⟩
  refine ⟨m, hm0, e2, fun a q => Int.ofNat_dvd_right.mpr (e4 a q), ?_⟩
  rw [show ((1 : Int)) = ((1 : Nat) : Int) from rfl, e1, bind_ok']
  dsimp only
  rw [comp_list (h := fun a => a.1 * ((m : Int).fdiv a.2)) (fun _ => rfl) (fun a q => by
    have ba : Bd 64 a.2 := ⟨by have := Nat.le_of_dvd h0 (hd a q).1; omega⟩
    have b1 := hb a q
    rw [fdvX_bd (n := 64) (by decide) (by have := (hd a q).2; omega), bind_ok']
    exact mulX_bd (n := 64) (by omega)), bind_ok', bind_ok', point_l (n := 64) (by decide) (by omega)]
end LW

/-! K2A: functions of points: their lowest terms. -/
namespace LW
open PySem L2 FL
/-- l, c over b: reduced -/
def sga (l : List Int) (c b : Int) : Int := sgd (l ++ [c]) b
def RA (xs : List Int) (k y : Int) : Ty_Affine := ⟨(tu xs, (k, (y, ((xs.length : Int), ()))))⟩
def AF (l : List Int) (c b : Int) : Ty_Affine := RA (l.map fun t => t.fdiv (sga l c b)) (c.fdiv (sga l c b)) (b.fdiv (sga l c b))
def LV (l : List Int) (c b : Int) : List Int := (l.map fun t => t.fdiv (sga l c b)) ++ [c.fdiv (sga l c b), b.fdiv (sga l c b)]
theorem pt_af (l : List Int) (c b : Int) : pt (l ++ [c]) b = (tu ((l.map fun t => t.fdiv (sga l c b)) ++ [c.fdiv (sga l c b)]), b.fdiv (sga l c b)) := by
  unfold pt sga
  rw [List.map_append]
  rfl
theorem af_of {l l' : List Int} {c b c' b' : Int} (h : pt (l ++ [c]) b = pt (l' ++ [c']) b') : AF l c b = AF l' c' b' ∧ LV l c b = LV l' c' b' := by
  rw [pt_af, pt_af] at h
  have h1 : (l.map fun t => t.fdiv (sga l c b)) ++ [c.fdiv (sga l c b)] = (l'.map fun t => t.fdiv (sga l' c' b')) ++ [c'.fdiv (sga l' c' b')] := congrArg Prod.fst h
  have h2 : b.fdiv (sga l c b) = b'.fdiv (sga l' c' b') := congrArg Prod.snd h
  obtain ⟨h3, h4⟩ := List.append_inj' h1 rfl
  have h4 : c.fdiv (sga l c b) = c'.fdiv (sga l' c' b') := by simpa using h4
  unfold AF LV
  rw [h2, h3, h4]
  exact ⟨rfl, rfl⟩
/-- lowest terms -/
structure NA (xs : List Int) (k y : Int) : Prop where
  pos : 1 ≤ y
  cop : gcdL (xs ++ [k]) y = 1
theorem af_red {xs : List Int} {k y : Int} (h : NA xs k y) : AF xs k y = RA xs k y ∧ LV xs k y = xs ++ [k, y] := by
  have p := pt_red (p := (tu (xs ++ [k]), y)) ⟨h.pos, h.cop⟩
  have p : pt (xs ++ [k]) y = (tu (xs ++ [k]), y) := p
  rw [pt_af] at p
  have h1 : (xs.map fun t => t.fdiv (sga xs k y)) ++ [k.fdiv (sga xs k y)] = xs ++ [k] := congrArg Prod.fst p
  have h2 : y.fdiv (sga xs k y) = y := congrArg Prod.snd p
  obtain ⟨h3, h4⟩ := List.append_inj' h1 rfl
  have h4 : k.fdiv (sga xs k y) = k := by simpa using h4
  unfold AF LV
  rw [h2, h3, h4]
  exact ⟨rfl, rfl⟩
/-- two ways to write one function -/
theorem af_eq {l l' : List Int} {c b c' b' : Int} (hb : b ≠ 0) (hb' : b' ≠ 0) (h : l.map (· * b') = l'.map (· * b)) (hc : c * b' = c' * b) : AF l c b = AF l' c' b' ∧ LV l c b = LV l' c' b' := by
  refine af_of (pt_eq hb hb' ?_)
  rw [List.map_append, List.map_append, h]
  show _ ++ [c * b'] = _ ++ [c' * b]
  rw [hc]
theorem af_na (l : List Int) (c : Int) {b : Int} (hb : b ≠ 0) : ∃ xs k y, AF l c b = RA xs k y ∧ LV l c b = xs ++ [k, y] ∧ NA xs k y ∧ xs.length = l.length ∧ xs.map (· * b) = l.map (· * y) ∧ k * b = c * y ∧ y.natAbs ≤ b.natAbs ∧ (∀ n, BdL n l → BdL n xs) ∧ ∀ n, Bd n c → Bd n k := by
  have lp := pt_lp (l := l ++ [c]) hb
  have cr := pt_cross (l := l ++ [c]) hb
  rw [pt_af] at lp cr
  refine ⟨_, _, _, rfl, rfl, ⟨lp.pos, lp.cop⟩, List.length_map .., ?_, ?_, fdiv_le _ _, fun n h => ⟨fun a m => ?_⟩, fun n h => ⟨Nat.lt_of_le_of_lt (fdiv_le _ _) h.lt⟩⟩
  · have cr : ((l.map fun t => t.fdiv (sga l c b)) ++ [c.fdiv (sga l c b)]).map (· * b) = (l ++ [c]).map (· * b.fdiv (sga l c b)) := cr
    rw [List.map_append, List.map_append] at cr
    exact (List.append_inj' cr rfl).1
  · have cr : ((l.map fun t => t.fdiv (sga l c b)) ++ [c.fdiv (sga l c b)]).map (· * b) = (l ++ [c]).map (· * b.fdiv (sga l c b)) := cr
    rw [List.map_append, List.map_append] at cr
    have := (List.append_inj' cr rfl).2
    simpa using this
  · obtain ⟨t, mt, rfl⟩ := List.mem_map.mp m
    exact ⟨Nat.lt_of_le_of_lt (fdiv_le _ _) (h.all t mt).lt⟩
/-! gcds -/
theorem gcdL_snoc (l : List Int) (c b : Int) : gcdL l (gcdI c b) = gcdL (l ++ [c]) b := by
  refine gcdL_eq_of fun d => ?_
  unfold gcdI
  rw [Int.natAbs_natCast, Nat.dvd_gcd_iff]
  constructor
  · rintro ⟨⟨h1, h2⟩, h3⟩
    exact ⟨h2, fun a m => (List.mem_append.mp m).elim (h3 a) fun m => by rw [List.mem_singleton.mp m]; exact h1⟩
  · rintro ⟨h1, h2⟩
    exact ⟨⟨h2 c (by simp), h1⟩, fun a m => h2 a (List.mem_append_left _ m)⟩
theorem gcdL_two (l : List Int) (c b : Int) : gcdL (l ++ [c, b]) 0 = gcdL (l ++ [c]) b := by
  refine gcdL_eq_of fun d => ?_
  constructor
  · rintro ⟨_, h⟩
    exact ⟨h b (by simp), fun a m => h a (by
      rcases List.mem_append.mp m with m | m
      · exact List.mem_append_left _ m
      · exact List.mem_append_right _ (by rw [List.mem_singleton.mp m]; simp))⟩
  · rintro ⟨h1, h2⟩
    refine ⟨by show d ∣ 0; exact Nat.dvd_zero d, fun a m => ?_⟩
    rcases List.mem_append.mp m with m | m
    · exact h2 a (List.mem_append_left _ m)
    · simp only [List.mem_cons, List.not_mem_nil, or_false] at m
      rcases m with e | e
      · rw [e]; exact h2 c (by simp)
      · rw [e]; exact h1
theorem init_tail {τ : Type} {n : Nat} {l : List Int} {c b : Int} {x : τ} (hn : n ≤ 8999) (h : b ≠ 0) (hb : Bd n b) {k : (Unit × (τ × (Int × (Int × (Int × Unit))))) → Xc ((Tu Int) × Int × Int × Int × Unit)}
    (hk : ∀ g : Int, Bd n g → g ≠ 0 → k ((), (x, (c, (b, (g, ()))))) = .ok (tu (l.map fun t => t.fdiv g), (c.fdiv g, (b.fdiv g, ((l.length : Int), ()))))) :
    (Xc.bind (if (decide (b < (0 : Int))) = true then (Xc.ok ((), (x, (c, (b, ((-((gcdL l (gcdI c b) : Nat) : Int)), ())))))) else (Xc.ok ((), (x, (c, (b, (((gcdL l (gcdI c b) : Nat) : Int), ()))))))) k) = .ok (AF l c b).v := by
  have h1 := bd_sgd (l := l ++ [c]) h hb
  have h2 := sgd_ne (l := l ++ [c]) h
  have h3 := hk _ h1 h2
  have e : (AF l c b).v = (tu (l.map fun t => t.fdiv (sgd (l ++ [c]) b)), (c.fdiv (sgd (l ++ [c]) b), (b.fdiv (sgd (l ++ [c]) b), ((l.length : Int), ())))) := by
    unfold AF RA sga
    rw [List.length_map]
  rw [e, gcdL_snoc]
  unfold sgd at *
  by_cases q : b < 0
  · rw [if_pos (by simpa using q), bind_ok']
    rw [if_pos q] at *
    exact h3
  · rw [if_neg (by simpa using q), bind_ok']
    rw [if_neg q] at *
    exact h3
theorem init_l {n : Nat} {l : List Int} {c b : Int} [hb : Bd n b] (hn : n ≤ 8999) (h : b ≠ 0) : m_Affine___init___l (l, (c, (b, ()))) = .ok (AF l c b).v := by
  unfold m_Affine___init___l
  rw [if_neg (by simpa using h), bind_ok']
  dsimp only
  rw [common_l, bind_ok']
  refine init_tail (x := l) hn h hb fun g hg h0 => ?_
  dsimp only
  rw [comp_fdiv hn hg h0 l (fun _ => rfl) (fun _ => rfl), bind_ok', bind_ok', fdvX_bd hn h0, bind_ok', fdvX_bd hn h0, bind_ok']
  show Xc.ok (_, (_, (_, (((l.map _).length : Int), ())))) = _
  rw [List.length_map]
theorem init_u {n : Nat} {l : Tu Int} {c b : Int} [hb : Bd n b] (hn : n ≤ 8999) (h : b ≠ 0) : m_Affine___init___u (l, (c, (b, ()))) = .ok (AF (Tu.l l) c b).v := by
  unfold m_Affine___init___u
  rw [if_neg (by simpa using h), bind_ok']
  dsimp only
  rw [common_u, bind_ok']
  refine init_tail (x := l) hn h hb fun g hg h0 => ?_
  dsimp only
  rw [comp_fdiv hn hg h0 (Tu.l l) (fun _ => rfl) (fun _ => rfl), bind_ok', bind_ok', fdvX_bd hn h0, bind_ok', fdvX_bd hn h0, bind_ok']
  show Xc.ok (_, (_, (_, ((((Tu.l l).map _).length : Int), ())))) = _
  rw [List.length_map]
/-! the law's -/
theorem getX_last2 {α : Type} {l : List α} {a b : α} : getX (l ++ [a, b]) (-1) = .ok b := by
  rw [show l ++ [a, b] = (l ++ [a]) ++ [b] from by rw [List.append_assoc]; rfl]
  exact getX_last
theorem lowest_ok {n : Nat} {l : List Int} {c b : Int} [hl : BdL n l] [hc : Bd n c] [hb : Bd n b] (hn : n ≤ 8999) (h : b ≠ 0) : m__law_lowest (l ++ [c, b], ()) = .ok (LV l c b) := by
  have B : BdL n (l ++ [c, b]) := bdl_app hl ⟨fun a m => by
    simp only [List.mem_cons, List.not_mem_nil, or_false] at m
    rcases m with e | e <;> rw [e]
    · exact hc
    · exact hb⟩
  unfold m__law_lowest
  dsimp only
  have fold : ∀ (l' : List Int) (g : Nat) (x : List Int), (∀ a ∈ l', Bd n a) → foldX (fun (g476 : ((List Int) × (Int × Unit))) a477 => (Xc.bind (m__law_gcd (g476.2.1, (a477, ()))) fun t478 => (Xc.ok (g476.1, (t478, ()))))) l' (x, ((g : Int), ())) = .ok (x, (((l'.foldl (fun g a => Nat.gcd g a.natAbs) g : Nat) : Int), ())) := by
    intro l'
    induction l' with
    | nil => intro g x _; rfl
    | cons a l' ih =>
      intro g x hm
      have ba := hm a (by simp)
      show (Xc.bind _ _).bind _ = _
      dsimp only
      rw [gcd_ok (ba.mono (show n ≤ 9000 by omega)).lt, bind_ok', bind_ok', gcdI_nat]
      exact ih _ _ fun b m => hm b (by simp [m])
  have f0 : foldX (fun (g476 : ((List Int) × (Int × Unit))) a477 => (Xc.bind (m__law_gcd (g476.2.1, (a477, ()))) fun t478 => (Xc.ok (g476.1, (t478, ()))))) (l ++ [c, b]) (l ++ [c, b], ((0 : Int), ())) = .ok (l ++ [c, b], (((gcdL (l ++ [c, b]) 0 : Nat) : Int), ())) := fold _ 0 _ B.all
  rw [f0, bind_ok']
  dsimp only
  rw [getX_last2, bind_ok', bind_ok', gcdL_two]
  have h1 : Bd n (sga l c b) := bd_sgd (l := l ++ [c]) h hb
  have h2 : sga l c b ≠ 0 := sgd_ne (l := l ++ [c]) h
  have fin : compX (fun _ => Xc.ok true) (fun a => fdvX a (sga l c b)) (l ++ [c, b]) = .ok (LV l c b) := by
    rw [comp_fdiv hn h1 h2 _ (fun _ => rfl) (fun _ => rfl), List.map_append]
    rfl
  unfold sga sgd at fin
  by_cases q : b < 0
  · rw [if_pos (by simpa using q), bind_ok']
    rw [if_pos q] at fin
    exact fin
  · rw [if_neg (by simpa using q), bind_ok']
    rw [if_neg q] at fin
    exact fin
theorem is_int_ok (i : Int) : m__law_is_integer (i, ()) = .ok true := by
  unfold m__law_is_integer
  simp only [isi_ii, isi_ib, bind_ok', Bool.not_false, if_true]
theorem same_ok {xs : List Int} {k y : Int} (h : xs.length ≤ 1000) : m__law_same (RA xs k y, (xs ++ [k, y], ())) = .ok true := by
  unfold m__law_same
  have e1 : szX (k :: (y :: ([] : List Int))) = .ok [k, y] := szX_b (show 2 ≤ 1000000 by decide)
  have e2 : catL (Tu.l (tu xs)) [k, y] = .ok (xs ++ [k, y]) := catL_ok (by show xs.length + 2 ≤ _; omega)
  have l2 : (xs ++ [k, y]).length = xs.length + 2 := by rw [List.length_append]; rfl
  rw [if_neg (by decide)]
  show (((isiX (HasTy.ty (tu xs)) "tuple").bind _).bind _) = _
  rw [isi_tt, bind_ok', bind_ok', Bool.not_true, if_neg (by decide)]
  show ((szX (k :: (y :: ([] : List Int)))).bind fun t530 => catL (Tu.l (tu xs)) t530).bind _ = _
  rw [e1, bind_ok', e2, bind_ok', decide_eq_true rfl, Bool.not_true, if_neg (by decide), is_int_ok, bind_ok', bind_ok', Bool.not_true, if_neg (by decide)]
  have e3 : ((xs.length : Int)) = ((HasLen.len (xs ++ [k, y]) : Nat) : Int) - 2 := by rw [hlenL, l2]; omega
  dsimp only
  rw [bind_ok', show decide ((RA xs k y).v.2.2.2.1 = ((HasLen.len (xs ++ [k, y]) : Nat) : Int) - 2) = true from decide_eq_true e3, Bool.not_true, if_neg (by decide), hlenL, rngX_b (by decide) (by omega) (by decide) (by omega), bind_ok']
  refine forK_id (fun a m => ?_) rfl
  have := rangeL_mem m
  obtain ⟨v, ev, _⟩ := getX_ex (l := xs ++ [k, y]) (i := a) (by omega) (by omega)
  simp only [ev, bind_ok', is_int_ok, Bool.not_true, Bool.false_eq_true, if_false, decide_true]
theorem truth_is {a b : Bool} (h : a = b) : m__law_truth (a, (b, ())) = .ok true := by rw [h]; exact truth_ok b
theorem same_no (a b : Int) : m__law_same_number ((a, b), ([a, b], ())) = .ok true := by
  unfold m__law_same_number
  simp only [isi_pt, hlenP, bind_ok', Bool.not_true, Bool.false_eq_true, if_false, is_int_ok, decide_true, show getX [a, b] 0 = .ok a from getX_b (by decide) rfl, show getX [a, b] 1 = .ok b from getX_b (by decide) rfl, if_true]
  rfl
end LW

/-! K2B: sums of products; the methods. -/
namespace LW
open PySem L2 FL
def dotp : List (Int × Int) → Int
  | [] => 0
  | a :: l => a.1 * a.2 + dotp l
theorem dotp_app : ∀ l m : List (Int × Int), dotp (l ++ m) = dotp l + dotp m
  | [], m => by simp [dotp]
  | a :: l, m => by
    show a.1 * a.2 + dotp (l ++ m) = a.1 * a.2 + dotp l + dotp m
    rw [dotp_app l m]
    omega
theorem dotp_cross {b w : Int} : ∀ {xs ts tops : List Int}, ts.map (· * b) = tops.map (· * w) → dotp (xs.zip ts) * b = dotp (xs.zip tops) * w
  | [], ts, tops, _ => by simp [dotp]
  | x :: xs, [], [], _ => by simp [dotp]
  | x :: xs, [], _ :: _, h => by simp at h
  | x :: xs, _ :: _, [], h => by simp at h
  | x :: xs, t :: ts, u :: us, h => by
    simp only [List.map_cons, List.cons.injEq] at h
    have ih := dotp_cross (xs := xs) h.2
    have h1 := h.1
    show (x * t + dotp (xs.zip ts)) * b = (x * u + dotp (xs.zip us)) * w
    grind
theorem bd_dotp {n m : Nat} : ∀ {xs ts : List Int}, BdL n xs → BdL m ts → Bd (n + m + xs.length) (dotp (xs.zip ts))
  | [], ts, _, _ => ⟨by show 0 < _; exact Nat.two_pow_pos _⟩
  | x :: xs, [], _, _ => ⟨by show 0 < _; exact Nat.two_pow_pos _⟩
  | x :: xs, t :: ts, h1, h2 => by
    have ih := bd_dotp (xs := xs) (ts := ts) ⟨fun a q => h1.all a (by simp [q])⟩ ⟨fun a q => h2.all a (by simp [q])⟩
    have a := h1.all x (by simp)
    have b := h2.all t (by simp)
    have : Bd (max (n + m) (n + m + xs.length) + 1) (x * t + dotp (xs.zip ts)) := bd_add
    rw [List.length_cons]
    exact this.mono (by omega)
theorem fold_dot {γ : Type} {f : γ → Int × Int → Xc γ} (E : Int → γ) : ∀ {l : List (Int × Int)} {t : Int}, (∀ t a, a ∈ l → f (E t) a = .ok (E (t + a.1 * a.2))) → foldX f l (E t) = .ok (E (t + dotp l))
  | [], t, _ => by show Xc.ok (E t) = _; rw [show dotp [] = 0 from rfl, Int.add_zero]
  | a :: l, t, h => by
    show (f (E t) a).bind _ = _
    rw [h t a (by simp), bind_ok']
    have := fold_dot (f := f) E (l := l) (t := t + a.1 * a.2) fun t b m => h t b (by simp [m])
    rw [show t + dotp (a :: l) = t + a.1 * a.2 + dotp l from by show t + (a.1 * a.2 + dotp l) = _; omega]
    exact this
theorem fold_dotR {γ : Type} {f : γ → Int → Xc γ} (E : Int → γ) {v w : List Int} {n : Int} {t : Int} (h0 : 0 ≤ n) (hv : n ≤ v.length) (hw : n ≤ w.length) (h : ∀ t (k : Int) x y, x ∈ v → y ∈ w → getX v k = .ok x → getX w k = .ok y → f (E t) k = .ok (E (t + x * y))) :
    foldX f (rangeL 0 n) (E t) = .ok (E (t + dotp ((v.take n.toNat).zip (w.take n.toNat)))) := by
  obtain ⟨g, e, p⟩ := foldX_ix (f := f) (l := rangeL 0 n) (g := E t) (P := fun i g => g = E (t + dotp ((v.take i).zip (w.take i)))) (by show E t = E (t + dotp []); rw [show dotp [] = 0 from rfl, Int.add_zero]) fun i g a ha hp => by
    obtain ⟨e, hi⟩ := rangeL_get ha
    have hi1 : i < v.length := by omega
    have hi2 : i < w.length := by omega
    have e : a = (i : Int) := by omega
    subst e
    refine ⟨_, by rw [hp]; exact h _ _ v[i] w[i] (List.getElem_mem hi1) (List.getElem_mem hi2) (getX_nat (List.getElem?_eq_getElem hi1)) (getX_nat (List.getElem?_eq_getElem hi2)), ?_⟩
    rw [List.take_succ_eq_append_getElem hi1, List.take_succ_eq_append_getElem hi2, List.zip_append (by rw [List.length_take, List.length_take]; omega), dotp_app]
    congr 1
    show _ = _ + (_ + (v[i] * w[i] + 0))
    omega
  rw [e, p, rangeL_len]
  rw [show (n - 0).toNat = n.toNat by omega]
section
variable {xs : List Int} {k y : Int} [bx : BdL 200 xs] [bk : Bd 200 k] [by_ : Bd 10 y]
theorem call_ok {ts : List Int} {w : Int} [bt : BdL 10 ts] [bw : Bd 10 w] (hy : y * w ≠ 0) : m_Affine___call__ (RA xs k y, ((tu ts, w), ())) = .ok (lowq (k * w + dotp (xs.zip ts)) (y * w)) := by
  unfold m_Affine___call__
  show ((mulX k w).bind fun t72 => _) = _
  rw [mulX_bd (by decide), bind_ok']
  have := fold_dot (f := (fun (g76 : (Ty_Affine × (((Tu Int) × Int) × (Int × Unit)))) a77 => (Xc.bind (Xc.bind (mulX a77.1 a77.2) fun t78 => (Xc.ok (g76.2.2.1 + t78))) fun t79 => (Xc.ok (g76.1, (g76.2.1, (t79, ()))))))) (fun t => (RA xs k y, ((tu ts, w), (t, ())))) (l := xs.zip ts) (t := k * w) fun t a m => by
    have b1 := bx.all _ (List.of_mem_zip m).1
    have b2 := bt.all _ (List.of_mem_zip m).2
    dsimp only
    rw [mulX_bd (by decide), bind_ok', bind_ok']
  show (foldX _ (xs.zip ts) (RA xs k y, ((tu ts, w), (k * w, ())))).bind _ = _
  rw [this, bind_ok']
  show ((((mulX y w).bind _).bind _).bind fun t84 => m_ratio t84) = _
  rw [mulX_bd (by decide), bind_ok', bind_ok', bind_ok', ratio_ok (n := 20) (by decide) hy]
theorem slope_ok {ws : List Int} [bt : BdL 10 ws] (hy : y ≠ 0) : m_Affine_slope (RA xs k y, (ws, ())) = .ok (lowq (dotp (xs.zip ws)) y) := by
  unfold m_Affine_slope
  have := fold_dot (f := (fun (g88 : (Ty_Affine × ((List Int) × (Int × Unit)))) a89 => (Xc.bind (Xc.bind (mulX a89.1 a89.2) fun t90 => (Xc.ok (g88.2.2.1 + t90))) fun t91 => (Xc.ok (g88.1, (g88.2.1, (t91, ()))))))) (fun t => (RA xs k y, (ws, (t, ())))) (l := xs.zip ws) (t := 0) fun t a m => by
    have b1 := bx.all _ (List.of_mem_zip m).1
    have b2 := bt.all _ (List.of_mem_zip m).2
    dsimp only
    rw [mulX_bd (by decide), bind_ok', bind_ok']
  show (foldX _ (xs.zip ws) (RA xs k y, (ws, (0, ())))).bind _ = _
  rw [this, bind_ok']
  show m_ratio (0 + dotp (xs.zip ws), (y, ())) = _
  rw [Int.zero_add, ratio_ok (n := 10) (by decide) hy]
theorem fixed_ok {ts : List Int} {w : Int} [bt : BdL 10 ts] [bw : Bd 10 w] (hy : y * w ≠ 0) : m_Affine_fixed (RA xs k y, ((tu ts, w), ())) = .ok (AF ((xs.drop ts.length).map (· * w)) (k * w + dotp (xs.zip ts)) (y * w)) := by
  unfold m_Affine_fixed
  show ((mulX k w).bind fun t160 => _) = _
  rw [mulX_bd (by decide), bind_ok']
  have := fold_dot (f := (fun (g164 : (Ty_Affine × (((Tu Int) × Int) × ((Tu Int) × (Int × (Int × Unit)))))) a165 => (Xc.bind (Xc.bind (mulX a165.1 a165.2) fun t166 => (Xc.ok (g164.2.2.2.2.1 + t166))) fun t167 => (Xc.ok (g164.1, (g164.2.1, (g164.2.2.1, (g164.2.2.2.1, (t167, ()))))))))) (fun t => (RA xs k y, ((tu ts, w), (tu ts, (w, (t, ())))))) (l := xs.zip ts) (t := k * w) fun t a m => by
    have b1 := bx.all _ (List.of_mem_zip m).1
    have b2 := bt.all _ (List.of_mem_zip m).2
    dsimp only
    rw [mulX_bd (by decide), bind_ok', bind_ok']
  show (foldX _ (xs.zip ts) (RA xs k y, ((tu ts, w), (tu ts, (w, (k * w, ())))))).bind _ = _
  rw [this, bind_ok']
  show ((compX (fun _ => Xc.ok true) (fun a170 => mulX a170 w) (cutL xs (some ((ts.length : Nat) : Int)) none)).bind fun t171 => _) = _
  rw [cutL_drop _ (by omega), Int.toNat_natCast, comp_list (h := (· * w)) (fun _ => rfl) (fun x m => by
    have := bx.all x (List.mem_of_mem_drop m)
    exact mulX_bd (by decide)), bind_ok']
  show (((((mulX y w).bind _).bind _).bind _).bind _) = _
  rw [mulX_bd (by decide), bind_ok', bind_ok', bind_ok', bind_ok', init_l (n := 20) (by decide) hy, bind_ok']
theorem neg_ok (h : NA xs k y) : m_Affine___neg__ (RA xs k y, ()) = .ok (RA (xs.map fun t => -t) (-k) y) := by
  unfold m_Affine___neg__
  show (((compX (fun _ => Xc.ok true) (fun a => Xc.ok (-a)) xs).bind fun t => Xc.ok (t, (-k, (y, ())))).bind _) = _
  have hp := h.pos
  rw [comp_list (h := fun t => -t) (fun _ => rfl) (fun x m => rfl), bind_ok', bind_ok', init_l (n := 10) (by decide) (by omega), bind_ok']
  congr 1
  refine (af_red ⟨hp, ?_⟩).1
  rw [← h.cop]
  refine gcdL_eq_of fun d => ?_
  constructor
  · rintro ⟨h1, h2⟩
    refine ⟨h1, fun a m => ?_⟩
    rcases List.mem_append.mp m with m | m
    · have := h2 (-a) (List.mem_append_left _ (List.mem_map.mpr ⟨a, m, rfl⟩)); rwa [Int.natAbs_neg] at this
    · rw [List.mem_singleton.mp m]; have := h2 (-k) (by simp); rwa [Int.natAbs_neg] at this
  · rintro ⟨h1, h2⟩
    refine ⟨h1, fun a m => ?_⟩
    rcases List.mem_append.mp m with m | m
    · obtain ⟨b, mb, rfl⟩ := List.mem_map.mp m; rw [Int.natAbs_neg]; exact h2 b (List.mem_append_left _ mb)
    · rw [List.mem_singleton.mp m, Int.natAbs_neg]; exact h2 k (by simp)
theorem mul_ok {f : Int} [bf : Bd 10 f] (hy : y ≠ 0) : m_Affine___mul__ (RA xs k y, (f, ())) = .ok (AF (xs.map (f * ·)) (f * k) y) ∧ m_Affine___rmul__ (RA xs k y, (f, ())) = .ok (AF (xs.map (f * ·)) (f * k) y) := by
  have e1 : compX (fun _ => Xc.ok true) (fun a => mulX f a) xs = .ok (xs.map (f * ·)) := comp_list (fun _ => rfl) fun x m => by
    have := bx.all x m
    exact mulX_bd (by decide)
  have e2 : mulX f k = .ok (f * k) := mulX_bd (by decide)
  have e3 := init_l (n := 10) (l := xs.map (f * ·)) (c := f * k) (b := y) (by decide) hy
  constructor
  · unfold m_Affine___mul__
    show ((isiX (HasTy.ty f) "int").bind _).bind (fun t => if t = true then Xc.no else ((compX (fun _ => Xc.ok true) (fun a => mulX f a) xs).bind fun t131 => ((mulX f k).bind fun t => Xc.ok (t, (y, ()))).bind fun t132 => Xc.ok (t131, t132)).bind fun t133 => (m_Affine___init___l t133).bind fun r => Xc.ok (⟨r⟩ : Ty_Affine)) = _
    simp only [isi_ii, bind_ok', Bool.not_true, Bool.false_eq_true, if_false, e1, e2, e3]
  · unfold m_Affine___rmul__
    show ((isiX (HasTy.ty f) "int").bind _).bind (fun t => if t = true then Xc.no else ((compX (fun _ => Xc.ok true) (fun a => mulX f a) xs).bind fun t131 => ((mulX f k).bind fun t => Xc.ok (t, (y, ()))).bind fun t132 => Xc.ok (t131, t132)).bind fun t133 => (m_Affine___init___l t133).bind fun r => Xc.ok (⟨r⟩ : Ty_Affine)) = _
    simp only [isi_ii, bind_ok', Bool.not_true, Bool.false_eq_true, if_false, e1, e2, e3]
theorem scaled_ok {n0 n1 : Int} [b0 : Bd 10 n0] [b1 : Bd 10 n1] (hy : n1 * y ≠ 0) : m_Affine_scaled (RA xs k y, ((n0, n1), ())) = .ok (AF (xs.map (n0 * ·)) (n0 * k) (n1 * y)) := by
  unfold m_Affine_scaled
  show ((compX (fun _ => Xc.ok true) (fun a => mulX n0 a) xs).bind fun t146 => (((mulX n0 k).bind fun t148 => ((mulX n1 y).bind fun t => Xc.ok (t, ())).bind fun t149 => Xc.ok (t148, t149)).bind fun t150 => Xc.ok (t146, t150)).bind fun t151 => (m_Affine___init___l t151).bind fun r => Xc.ok (⟨r⟩ : Ty_Affine)) = _
  rw [comp_list (h := (n0 * ·)) (fun _ => rfl) (fun x m => by
    have := bx.all x m
    exact mulX_bd (by decide)), bind_ok', mulX_bd (by decide), bind_ok', mulX_bd (by decide)]
  simp only [bind_ok']
  rw [init_l (n := 20) (by decide) hy, bind_ok']
theorem head_ok {c : Int} (hc : 0 ≤ c) (hy : y ≠ 0) : m_Affine_head (RA xs k y, (c, ())) = .ok (AF (xs.take c.toNat) k y) := by
  unfold m_Affine_head
  show ((m_Affine___init___u (tu (cutL xs none (some c)), (k, (y, ())))).bind _) = _
  rw [cutL_take _ hc, init_u (n := 10) (by decide) hy, bind_ok']
  rfl
theorem tail_ok {c : Int} (hc : 0 ≤ c) (hy : y ≠ 0) : m_Affine_tail (RA xs k y, (c, ())) = .ok (AF (xs.drop c.toNat) k y) := by
  unfold m_Affine_tail
  show ((m_Affine___init___u (tu (cutL xs (some c) none), (k, (y, ())))).bind _) = _
  rw [cutL_drop _ hc, init_u (n := 10) (by decide) hy, bind_ok']
  rfl
theorem homog_ok (hy : y ≠ 0) : m_Affine_homogeneous (RA xs k y, ()) = .ok (AF xs 0 y) := by
  unfold m_Affine_homogeneous
  show ((m_Affine___init___u (tu xs, (0, (y, ())))).bind _) = _
  rw [init_u (n := 10) (by decide) hy, bind_ok']
  rfl
theorem uses_ok {c : Int} (hc : 0 ≤ c) : m_Affine_uses (RA xs k y, (c, ())) = .ok ((xs.drop c.toNat).any fun t => !decide (t = 0)) := by
  unfold m_Affine_uses
  show ((compX (fun _ => Xc.ok true) (fun a => Xc.ok (!decide (a = (0 : Int)))) (cutL xs (some c) none)).bind _) = _
  rw [cutL_drop _ hc, comp_list (h := fun a => !decide (a = (0 : Int))) (fun _ => rfl) (fun x m => rfl), bind_ok', List.any_map]
  rfl
theorem rep0 {n : Int} (h0 : 0 ≤ n) (h1 : n ≤ 1000) : ((szX ((0 : Int) :: ([] : List Int))).bind fun t => repX t n) = .ok (List.replicate n.toNat 0) := by
  have := size_ge
  rw [szX_1, bind_ok']
  unfold repX
  rw [if_pos ⟨by omega, by omega, by rw [List.length_cons, List.length_nil]; omega⟩]
  congr 1
  unfold repL
  generalize n.toNat = m
  induction m with
  | zero => rfl
  | succ m ih => rw [List.replicate_succ, List.flatten_cons, ih, List.replicate_succ]; rfl
end
end LW

/-! K2C: sums; the ways to make. -/
namespace LW
open PySem L2 FL
theorem getX_m2 {α : Type} {l : List α} {a b : α} : getX (l ++ [a, b]) (-2) = .ok a := by
  unfold getX atI
  have : ixN (l ++ [a, b]).length (-2) = some l.length := by
    unfold ixN
    simp
    omega
  rw [this]
  simp
theorem zip_cross2 {xs us : List Int} {f g : Int → Int → Int} (c d : Int) (h : ∀ x u, f x u * c = g x u * d) : (List.zipWith f xs us).map (· * c) = (List.zipWith g xs us).map (· * d) := by
  rw [List.map_zipWith, List.map_zipWith]
  congr 1
  funext x u
  exact h x u
section
variable {xs us : List Int} {k y m z : Int} [bx : BdL 200 xs] [bk : Bd 200 k] [by_ : Bd 10 y] [bu : BdL 200 us] [bm : Bd 200 m] [bz : Bd 10 z]
theorem lcm_mul (hy : 1 ≤ y) (hz : 1 ≤ z) : ∃ L p q : Int, lcmX y z = .ok L ∧ L ≠ 0 ∧ Bd 20 L ∧ fdvX L y = .ok p ∧ fdvX L z = .ok q ∧ p * y = L ∧ q * z = L ∧ Bd 20 p ∧ Bd 20 q := by
  have h1 : y.natAbs < 2 ^ 64 := Nat.lt_of_lt_of_le by_.lt (by decide)
  have h2 : z.natAbs < 2 ^ 64 := Nat.lt_of_lt_of_le bz.lt (by decide)
  have hL : ((Nat.lcm y.natAbs z.natAbs : Nat) : Int) ≠ 0 := by
    have := Nat.lcm_pos (m := y.natAbs) (n := z.natAbs) (by omega) (by omega)
    omega
  have bL : Bd 20 ((Nat.lcm y.natAbs z.natAbs : Nat) : Int) := ⟨by
    rw [Int.natAbs_natCast]
    have e : Nat.lcm y.natAbs z.natAbs ≤ y.natAbs * z.natAbs := Nat.le_of_dvd (Nat.mul_pos (by omega) (by omega)) (Nat.lcm_dvd (Nat.dvd_mul_right _ _) (Nat.dvd_mul_left _ _))
    exact Nat.lt_of_le_of_lt e (by rw [show (2 : Nat) ^ 20 = 2 ^ 10 * 2 ^ 10 from rfl]; exact Nat.mul_lt_mul'' by_.lt bz.lt)⟩
  obtain ⟨p, hp⟩ : y ∣ ((Nat.lcm y.natAbs z.natAbs : Nat) : Int) := Int.ofNat_dvd_right.mpr (Nat.dvd_lcm_left _ _)
  obtain ⟨q, hq⟩ : z ∣ ((Nat.lcm y.natAbs z.natAbs : Nat) : Int) := Int.ofNat_dvd_right.mpr (Nat.dvd_lcm_right _ _)
  have e1 : ((Nat.lcm y.natAbs z.natAbs : Nat) : Int).fdiv y = p := by rw [hp, Int.mul_fdiv_cancel_left _ (by omega)]
  have e2 : ((Nat.lcm y.natAbs z.natAbs : Nat) : Int).fdiv z = q := by rw [hq, Int.mul_fdiv_cancel_left _ (by omega)]
  have bp : Bd 20 (((Nat.lcm y.natAbs z.natAbs : Nat) : Int).fdiv y) := bd_fdiv
  have bq : Bd 20 (((Nat.lcm y.natAbs z.natAbs : Nat) : Int).fdiv z) := bd_fdiv
  refine ⟨_, p, q, lcmX_ok h1 h2, hL, bL, ?_, ?_, ?_, ?_, by rw [← e1]; exact bp, by rw [← e2]; exact bq⟩
  · rw [fdvX_bd (n := 10) (by decide) (by omega), e1]
  · rw [fdvX_bd (n := 10) (by decide) (by omega), e2]
  · rw [hp, Int.mul_comm]
  · rw [hq, Int.mul_comm]
theorem add_ok (hy : 1 ≤ y) (hz : 1 ≤ z) : m_Affine___add__ (RA xs k y, (RA us m z, ())) = .ok (AF (List.zipWith (fun x u => x * z + 1 * u * y) xs us) (k * z + 1 * m * y) (y * z)) := by
  obtain ⟨L, p, q, e1, hL, bL, e2, e3, e4, e5, bp, bq⟩ := lcm_mul hy hz
  have hyz : y * z ≠ 0 := Int.mul_ne_zero (by omega) (by omega)
  unfold m_Affine___add__
  rw [if_neg (by decide)]
  show ((lcmX y z).bind _) = _
  rw [e1, bind_ok']
  show ((fdvX L y).bind _) = _
  rw [e2, bind_ok']
  show ((fdvX L z).bind _) = _
  rw [e3, bind_ok']
  have ec : compX (fun _ => Xc.ok true) (fun a99 => (Xc.bind (mulX p a99.1) fun t100 => (Xc.bind (mulX q a99.2) fun t101 => (Xc.ok (t100 + t101))))) (List.zip xs us) = .ok ((List.zip xs us).map fun a => p * a.1 + q * a.2) := comp_list (fun _ => rfl) fun a h => by
    have b1 := bx.all _ (List.of_mem_zip h).1
    have b2 := bu.all _ (List.of_mem_zip h).2
    rw [mulX_bd (by decide), bind_ok', mulX_bd (by decide), bind_ok']
  show ((compX (fun _ => Xc.ok true) _ (List.zip xs us)).bind _) = _
  rw [ec, bind_ok', zip_map]
  show (((((mulX p k).bind fun t103 => (mulX q m).bind fun t104 => Xc.ok (t103 + t104)).bind _).bind _).bind _) = _
  rw [mulX_bd (by decide), bind_ok', mulX_bd (by decide), bind_ok', bind_ok', bind_ok', bind_ok', init_l (n := 20) (by decide) hL, bind_ok']
  congr 1
  refine (af_eq hL hyz (zip_cross2 _ _ fun x u => ?_) ?_).1 <;> grind
theorem sub_ok (hy : 1 ≤ y) (hz : 1 ≤ z) : m_Affine___sub__ (RA xs k y, (RA us m z, ())) = .ok (AF (List.zipWith (fun x u => x * z + (-1) * u * y) xs us) (k * z + (-1) * m * y) (y * z)) := by
  obtain ⟨L, p, q, e1, hL, bL, e2, e3, e4, e5, bp, bq⟩ := lcm_mul hy hz
  have hyz : y * z ≠ 0 := Int.mul_ne_zero (by omega) (by omega)
  unfold m_Affine___sub__
  rw [if_neg (by decide)]
  show ((lcmX y z).bind _) = _
  rw [e1, bind_ok']
  show ((fdvX L y).bind _) = _
  rw [e2, bind_ok']
  show ((fdvX L z).bind _) = _
  rw [e3, bind_ok']
  have ec : compX (fun _ => Xc.ok true) (fun a99 => (Xc.bind (mulX p a99.1) fun t100 => (Xc.bind (mulX q a99.2) fun t101 => (Xc.ok (t100 - t101))))) (List.zip xs us) = .ok ((List.zip xs us).map fun a => p * a.1 - q * a.2) := comp_list (fun _ => rfl) fun a h => by
    have b1 := bx.all _ (List.of_mem_zip h).1
    have b2 := bu.all _ (List.of_mem_zip h).2
    rw [mulX_bd (by decide), bind_ok', mulX_bd (by decide), bind_ok']
  show ((compX (fun _ => Xc.ok true) _ (List.zip xs us)).bind _) = _
  rw [ec, bind_ok', zip_map]
  show (((((mulX p k).bind fun t103 => (mulX q m).bind fun t104 => Xc.ok (t103 - t104)).bind _).bind _).bind _) = _
  rw [mulX_bd (by decide), bind_ok', mulX_bd (by decide), bind_ok', bind_ok', bind_ok', bind_ok', init_l (n := 20) (by decide) hL, bind_ok']
  congr 1
  refine (af_eq hL hyz (zip_cross2 _ _ fun x u => ?_) ?_).1 <;> grind
/-- _law_sum -/
theorem lsum_ok {sg : Int} [bs : Bd 10 sg] (hy : 1 ≤ y) (hz : 1 ≤ z) (hl : xs.length = us.length) (hn : xs.length ≤ 1000) : m__law_sum (xs ++ [k, y], (us ++ [m, z], (sg, ()))) = .ok (LV (List.zipWith (fun x u => x * z + sg * u * y) xs us) (k * z + sg * m * y) (y * z)) := by
  have hyz : y * z ≠ 0 := Int.mul_ne_zero (by omega) (by omega)
  have s1 : xs ++ [k, y] = (xs ++ [k]) ++ [y] := by rw [List.append_assoc]; rfl
  have s2 : us ++ [m, z] = (us ++ [m]) ++ [z] := by rw [List.append_assoc]; rfl
  have B1 : BdL 200 (xs ++ [k]) := bdl_app bx ⟨fun a h => by rw [List.mem_singleton.mp h]; exact bk⟩
  have B2 : BdL 200 (us ++ [m]) := bdl_app bu ⟨fun a h => by rw [List.mem_singleton.mp h]; exact bm⟩
  have L1 : (xs ++ [k, y]).length = xs.length + 2 := by rw [List.length_append]; rfl
  unfold m__law_sum
  dsimp only
  rw [hlenL, L1, rngX_b (by decide) (by omega) (by decide) (by omega), bind_ok', s1, s2]
  have ec : compX (fun _ => Xc.ok true) (fun a593 => (Xc.bind (Xc.bind (getX ((xs ++ [k]) ++ [y]) a593) fun t594 => (Xc.bind (getX ((us ++ [m]) ++ [z]) (-(1 : Int))) fun t595 => (mulX t594 t595))) fun t599 => (Xc.bind (Xc.bind (Xc.bind (getX ((us ++ [m]) ++ [z]) a593) fun t596 => (mulX sg t596)) fun t597 => (Xc.bind (getX ((xs ++ [k]) ++ [y]) (-(1 : Int))) fun t598 => (mulX t597 t598))) fun t600 => (Xc.ok (t599 + t600))))) (rangeL 0 (((xs.length + 2 : Nat) : Int) - 1)) = .ok (List.zipWith (fun x u => x * z + sg * u * y) (xs ++ [k]) (us ++ [m])) :=
    comp_at2 (l' := [y]) (m' := [z]) (fun _ => rfl) (by rw [List.length_append, List.length_cons, List.length_nil]; omega) (by rw [List.length_append, List.length_append, hl]; rfl) fun i x u mx mu ex eu => by
      have b1 := B1.all x mx
      have b2 := B2.all u mu
      rw [ex, eu, getX_last, getX_last, bind_ok', bind_ok', mulX_bd (by decide), bind_ok', bind_ok', mulX_bd (by decide), bind_ok', bind_ok', mulX_bd (by decide), bind_ok']
  rw [ec, bind_ok', getX_last, getX_last, bind_ok', bind_ok', mulX_bd (by decide), bind_ok', bind_ok', szX_1, bind_ok', catL_ok (by rw [List.length_zipWith]; simp only [List.length_append, List.length_cons, List.length_nil]; omega), bind_ok', bind_ok']
  rw [List.zipWith_append (by rw [hl])]
  have Bl : BdL 300 (List.zipWith (fun x u => x * z + sg * u * y) xs us) := bdl_zip (n := 200) (m := 200) bx bu fun x u h1 h2 => bd_up
  have Bc : Bd 300 (k * z + sg * m * y) := bd_up
  have By : Bd 300 (y * z) := bd_up
  have := lowest_ok (n := 300) (l := List.zipWith (fun x u => x * z + sg * u * y) xs us) (c := k * z + sg * m * y) (b := y * z) (by decide) hyz
  rw [← this]
  congr 1
  rw [List.append_assoc]
  rfl
/-- _law_value -/
theorem lvalue_ok {tops : List Int} {bot : Int} [bt : BdL 10 tops] [bb : Bd 10 bot] (hy : y ≠ 0) (hb : bot ≠ 0) (hl : tops.length = xs.length) (hn : xs.length ≤ 100) : m__law_value (xs ++ [k, y], (tops, (bot, ()))) = .ok [(lowq (k * bot + dotp (xs.zip tops)) (y * bot)).1, (lowq (k * bot + dotp (xs.zip tops)) (y * bot)).2] := by
  have g2 : getX (xs ++ [k, y]) (-2) = .ok k := getX_m2
  have z2 : ∀ a b : Int, szX [a, b] = .ok [a, b] := fun a b => szX_b (show 2 ≤ 1000000 by decide)
  unfold m__law_value
  dsimp only
  rw [g2, bind_ok', mulX_bd (by decide), bind_ok', hlenL, rngX_b (by decide) (by omega) (by decide) (by omega), bind_ok']
  have B1 : BdL 200 (xs ++ [k, y]) := bdl_app bx ⟨fun a h => by
    simp only [List.mem_cons, List.not_mem_nil, or_false] at h
    rcases h with e | e <;> rw [e]
    · exact bk
    · exact bd_up⟩
  have := fold_dotR (f := fun (g578 : ((List Int) × ((List Int) × (Int × (Int × Unit))))) a579 => (Xc.bind (Xc.bind (Xc.bind (getX g578.1 a579) fun t580 => (Xc.bind (getX g578.2.1 a579) fun t581 => (mulX t580 t581))) fun t582 => (Xc.ok (g578.2.2.2.1 + t582))) fun t583 => (Xc.ok (g578.1, (g578.2.1, (g578.2.2.1, (t583, ()))))))) (fun t => (xs ++ [k, y], (tops, (bot, (t, ()))))) (v := xs ++ [k, y]) (w := tops) (n := ((tops.length : Nat) : Int)) (t := k * bot) (by omega) (by rw [List.length_append]; omega) (by omega) fun t i x u mx mu ex eu => by
    have b1 := B1.all x mx
    have b2 := bt.all u mu
    dsimp only
    rw [ex, eu, bind_ok', bind_ok', mulX_bd (by decide), bind_ok', bind_ok']
  rw [this, bind_ok']
  dsimp only
  rw [getX_last2, bind_ok', mulX_bd (by decide), bind_ok', bind_ok', bind_ok', z2, bind_ok', bind_ok']
  have e : ((xs ++ [k, y]).take ((tops.length : Nat) : Int).toNat).zip (tops.take ((tops.length : Nat) : Int).toNat) = xs.zip tops := by
    rw [Int.toNat_natCast, List.take_length, List.take_append_of_le_length (by omega), List.take_of_length_le (by omega)]
  rw [e]
  have bd := bd_dotp (xs := xs) (ts := tops) bx bt
  have bd : Bd 400 (dotp (xs.zip tops)) := bd.mono (by omega)
  have Bc : Bd 500 (k * bot + dotp (xs.zip tops)) := bd_up
  have By : Bd 500 (y * bot) := bd_up
  have n0 : BdL 500 [] := ⟨fun a m => by cases m⟩
  exact lowest_ok (n := 500) (l := []) (by decide) (Int.mul_ne_zero hy hb)
end
/-- [1 at j] over 1 -/
theorem na_one {xs : List Int} {k : Int} : NA xs k 1 := ⟨by decide, by
  have := gcdL_s (xs ++ [k]) 1
  exact Nat.dvd_one.mp this⟩
theorem variable_ok {n j : Int} (h0 : 0 ≤ n) (h1 : n ≤ 1000) : ∃ l : List Int, compX (fun _ => Xc.ok true) (fun a => Xc.ok (if (decide (a = j)) = true then (1 : Int) else 0)) (rangeL 0 n) = .ok l ∧ l.length = n.toNat ∧ m_Affine_variable (n, (j, ())) = .ok (RA l 0 1) := by
  refine ⟨(rangeL 0 n).map fun a => if (decide (a = j)) = true then (1 : Int) else 0, comp_list (fun _ => rfl) fun a m => rfl, by rw [List.length_map, rangeL_len]; congr 1; omega, ?_⟩
  have o10 : Bd 10 1 := ⟨by decide⟩
  unfold m_Affine_variable
  dsimp only
  rw [rngX_b (by decide) (by omega) (by decide) (by omega), bind_ok', comp_list (h := fun a => if (decide (a = j)) = true then (1 : Int) else 0) (fun _ => rfl) (fun a m => rfl), bind_ok', bind_ok']
  dsimp only
  rw [init_l (n := 10) (by decide) (by decide), bind_ok']
  congr 1
  exact (af_red na_one).1
end LW

/-! K2D: the law on functions made. -/
namespace LW
open PySem L2 FL
theorem na_zeros {xs : List Int} {k y : Int} (a b : Nat) (h : NA xs k y) : NA (List.replicate a 0 ++ xs ++ List.replicate b 0) k y := by
  refine ⟨h.pos, ?_⟩
  rw [← h.cop]
  refine gcdL_eq_of fun d => ?_
  constructor
  · rintro ⟨h1, h2⟩
    refine ⟨h1, fun x m => h2 x ?_⟩
    rcases List.mem_append.mp m with m | m
    · exact List.mem_append_left _ (List.mem_append_left _ (List.mem_append_right _ m))
    · exact List.mem_append_right _ m
  · rintro ⟨h1, h2⟩
    refine ⟨h1, fun x m => ?_⟩
    have z : ∀ n : Nat, x ∈ List.replicate n (0 : Int) → d ∣ x.natAbs := fun n q => by rw [(List.mem_replicate.mp q).2]; exact Nat.dvd_zero d
    rcases List.mem_append.mp m with m | m
    · rcases List.mem_append.mp m with m | m
      · rcases List.mem_append.mp m with m | m
        · exact z _ m
        · exact h2 x (List.mem_append_left _ m)
      · exact z _ m
    · exact h2 x (List.mem_append_right _ m)
theorem na_lowq {x b : Int} (hb : b ≠ 0) : NA [] (lowq x b).1 (lowq x b).2 := by
  have lp := pt_lp (l := [x]) hb
  rw [lowq_pt] at lp
  exact ⟨lp.pos, lp.cop⟩
theorem na_level {n0 n1 : Int} (n : Nat) (h : NA [] n0 n1) : NA (List.replicate n 0) n0 n1 := by
  have := na_zeros n 0 h
  rwa [List.append_nil, List.replicate_zero, List.append_nil] at this
theorem level_ok {s n0 n1 : Int} [b1 : Bd 10 n1] (h0 : 0 ≤ s) (h1 : s ≤ 1000) (h : NA [] n0 n1) : m_Affine_level (s, ((n0, n1), ())) = .ok (RA (List.replicate s.toNat 0) n0 n1) := by
  have hp := h.pos
  unfold m_Affine_level
  dsimp only
  rw [rep0 h0 h1, bind_ok', bind_ok', init_l (n := 10) (by decide) (by omega), bind_ok']
  congr 1
  exact (af_red (na_level _ h)).1
theorem placed_ok {xs : List Int} {k y t s : Int} [b1 : Bd 10 y] (h0 : 0 ≤ s) (h1 : s ≤ 500) (h2 : 0 ≤ t - s - xs.length) (h3 : t ≤ 500) (h : NA xs k y) : m_Affine_placed (RA xs k y, (t, (s, ()))) = .ok (RA (List.replicate s.toNat 0 ++ xs ++ List.replicate (t - s - xs.length).toNat 0) k y) := by
  have hp := h.pos
  unfold m_Affine_placed
  show ((((((szX ((0 : Int) :: ([] : List Int))).bind fun t153 => repX t153 s).bind fun t154 => catL t154 xs).bind fun t156 => (((szX ((0 : Int) :: ([] : List Int))).bind fun t155 => repX t155 (t - s - ((xs.length : Nat) : Int))).bind fun t157 => catL t156 t157)).bind _) = _)
  rw [rep0 h0 (by omega), bind_ok', catL_ok (by rw [List.length_replicate]; omega), bind_ok', rep0 h2 (by omega), bind_ok', catL_ok (by rw [List.length_append, List.length_replicate, List.length_replicate]; omega), bind_ok']
  show ((m_Affine___init___l (_, (k, (y, ())))).bind _) = _
  rw [init_l (n := 10) (by decide) (by omega), bind_ok']
  congr 1
  exact (af_red (na_zeros _ _ h)).1
theorem eqa_ok {xs us : List Int} {k y m z : Int} : m_Affine___eq___a (RA xs k y, (RA us m z, ())) = .ok (decide (xs ++ [k, y] = us ++ [m, z])) := by
  unfold m_Affine___eq___a
  rw [if_pos rfl]
  show ((eqdX (tu xs) (tu us)).bind fun t94 => if t94 = true then (if decide (k = m) = true then Xc.ok (decide (y = z)) else Xc.ok false) else Xc.ok false) = _
  rw [eqdX_ok (by decide) (tu xs) (tu us), bind_ok']
  have key : xs ++ [k, y] = us ++ [m, z] ↔ xs = us ∧ k = m ∧ y = z := by
    constructor
    · intro h
      obtain ⟨h1, h2⟩ := List.append_inj' h rfl
      simp only [List.cons.injEq, and_true] at h2
      exact ⟨h1, h2⟩
    · rintro ⟨rfl, rfl, rfl⟩; rfl
  by_cases h1 : xs = us
  · rw [if_pos (decide_eq_true (show tu xs = tu us from h1))]
    by_cases h2 : k = m
    · rw [if_pos (decide_eq_true h2)]
      congr 1
      exact decide_eq_decide.mpr (by rw [key]; exact ⟨fun h => ⟨h1, h2, h⟩, fun h => h.2.2⟩)
    · rw [if_neg (by simpa using h2), decide_eq_false (fun h => h2 (key.mp h).2.1)]
  · rw [if_neg (by rw [decide_eq_false (show ¬ tu xs = tu us from h1)]; decide), decide_eq_false (fun h => h1 (key.mp h).1)]
theorem low2 {x b : Int} [bx : Bd 10 x] [bb : Bd 10 b] (hb : b ≠ 0) : m__law_lowest ([x, b], ()) = .ok [(lowq x b).1, (lowq x b).2] := by
  have n0 : BdL 10 [] := ⟨fun a m => by cases m⟩
  exact lowest_ok (n := 10) (l := []) (by decide) hb
/-- from numbers -/
theorem from_ok {L : List (Int × Int)} {n0 n1 : Int} (hL : ∀ a ∈ L, a.2.natAbs ∣ 2520 ∧ 1 ≤ a.2 ∧ Bd 10 a.1) (h1 : n1.natAbs ∣ 2520) (h2 : 1 ≤ n1) (b0 : Bd 10 n0) (hl : L.length ≤ 100) {P : Int} (hP : P ≠ 0) (hd : ∀ a ∈ L, a.2 ∣ P) (hn : n1 ∣ P) :
    m_Affine_from_numbers (L, ((n0, n1), ())) = .ok (AF (L.map fun a => a.1 * P.fdiv a.2) (n0 * P.fdiv n1) P) := by
  obtain ⟨m, m0, mD, md, e⟩ := point_of_ok (n := 10) (l := L ++ [(n0, n1)]) (D := 2520) (by decide) (by decide) (fun a q => by
    rcases List.mem_append.mp q with q | q
    · exact ⟨(hL a q).1, (hL a q).2.1⟩
    · rw [List.mem_singleton.mp q]; exact ⟨h1, h2⟩) (fun a q => by
    rcases List.mem_append.mp q with q | q
    · exact (hL a q).2.2
    · rw [List.mem_singleton.mp q]; exact b0) (by decide)
  have hm0 : (m : Int) ≠ 0 := by omega
  have bm : Bd 12 (m : Int) := ⟨by rw [Int.natAbs_natCast]; have := Nat.le_of_dvd (by decide) mD; show m < 4096; omega⟩
  rw [List.map_append] at e
  have e : m_point_of (L ++ [(n0, n1)], ()) = .ok (pt ((L.map fun a => a.1 * (m : Int).fdiv a.2) ++ [n0 * (m : Int).fdiv n1]) (m : Int)) := e
  obtain ⟨xs, k, y, f1, _, na, lx, _, _, ly, _, _⟩ := af_na (L.map fun a => a.1 * (m : Int).fdiv a.2) (n0 * (m : Int).fdiv n1) hm0
  have by_ : Bd 12 y := ⟨Nat.lt_of_le_of_lt ly bm.lt⟩
  have hp := na.pos
  have ept : pt ((L.map fun a => a.1 * (m : Int).fdiv a.2) ++ [n0 * (m : Int).fdiv n1]) (m : Int) = (tu (xs ++ [k]), y) := by
    rw [pt_af]
    have f1 : RA _ _ _ = RA xs k y := f1
    have g1 := congrArg (fun z : Ty_Affine => z.v.1) f1
    have g2 := congrArg (fun z : Ty_Affine => z.v.2.1) f1
    have g3 := congrArg (fun z : Ty_Affine => z.v.2.2.1) f1
    have g1 : (L.map fun a => a.1 * (m : Int).fdiv a.2).map (fun t => t.fdiv (sga (L.map fun a => a.1 * (m : Int).fdiv a.2) (n0 * (m : Int).fdiv n1) (m : Int))) = xs := g1
    have g2 : (n0 * (m : Int).fdiv n1).fdiv (sga (L.map fun a => a.1 * (m : Int).fdiv a.2) (n0 * (m : Int).fdiv n1) (m : Int)) = k := g2
    have g3 : (m : Int).fdiv (sga (L.map fun a => a.1 * (m : Int).fdiv a.2) (n0 * (m : Int).fdiv n1) (m : Int)) = y := g3
    rw [g1, g2, g3]
  rw [ept] at e
  unfold m_Affine_from_numbers
  dsimp only
  rw [szX_b (show [(n0, n1)].length ≤ 1000000 by simp), bind_ok', catL_ok (by rw [List.length_cons, List.length_nil]; omega), bind_ok', bind_ok', e, bind_ok']
  dsimp only
  show ((((getX (xs ++ [k]) (-1)).bind _).bind _).bind _) = _
  rw [getX_last, bind_ok', bind_ok', bind_ok']
  show ((m_Affine___init___u (tu (cutL (xs ++ [k]) none (some (-1))), (k, (y, ())))).bind _) = _
  rw [cutL_init, List.dropLast_concat, init_u (n := 12) (by decide) (by omega), bind_ok']
  congr 1
  show AF xs k y = _
  rw [(af_red na).1, ← f1]
  refine (af_eq hm0 hP ?_ ?_).1
  · rw [List.map_map, List.map_map]
    refine List.map_congr_left fun a q => ?_
    obtain ⟨u, hu⟩ := md a (List.mem_append_left _ q)
    obtain ⟨v, hv⟩ := hd a q
    have a2 := (hL a q).2.1
    have e1 : (m : Int).fdiv a.2 = u := by rw [hu, Int.mul_fdiv_cancel_left _ (by omega)]
    have e2 : P.fdiv a.2 = v := by rw [hv, Int.mul_fdiv_cancel_left _ (by omega)]
    show a.1 * (m : Int).fdiv a.2 * P = a.1 * P.fdiv a.2 * (m : Int)
    rw [e1, e2, hu, hv]
    grind
  · obtain ⟨u, hu⟩ := md (n0, n1) (by simp)
    obtain ⟨v, hv⟩ := hn
    have hu : (m : Int) = n1 * u := hu
    have e1 : (m : Int).fdiv n1 = u := by rw [hu, Int.mul_fdiv_cancel_left _ (by omega)]
    have e2 : P.fdiv n1 = v := by rw [hv, Int.mul_fdiv_cancel_left _ (by omega)]
    rw [e1, e2, hu, hv]
    grind
end LW

/-! K2E: _law_made. -/
namespace LW
open PySem L2 FL
theorem bd_of {n : Nat} {x : Int} (h : -(2 ^ n : Int) < x ∧ x < 2 ^ n) : Bd n x := ⟨by
  have : ((2 ^ n : Nat) : Int) = 2 ^ n := by push_cast; rfl
  omega⟩
theorem small10 {x : Int} (h : -1023 ≤ x ∧ x ≤ 1023) : Bd 10 x := ⟨by show _ < 1024; omega⟩
theorem dvd2520 {x : Int} (h : 1 ≤ x) (h9 : x ≤ 9) : x.natAbs ∣ 2520 := by
  have : x = 1 ∨ x = 2 ∨ x = 3 ∨ x = 4 ∨ x = 5 ∨ x = 6 ∨ x = 7 ∨ x = 8 ∨ x = 9 := by omega
  rcases this with e | e | e | e | e | e | e | e | e <;> rw [e] <;> decide
theorem lowq_le {x b : Int} (h : 1 ≤ b) : (lowq x b).2 ≤ b := by
  have h1 : (lowq x b).2.natAbs ≤ b.natAbs := fdiv_le _ _
  have h2 := lowq_pos (a := x) (b := b) (by omega)
  omega
theorem made_ok {ds tops : List Int} {size bot : Int} (hd : Dr ds) (hl : ds.length = 6) (ht : (tops.length : Int) = size) (s1 : 1 ≤ size) (s6 : size ≤ 6) (bt : BdL 10 tops) (b1 : 1 ≤ bot) (b9 : bot ≤ 9) : m__law_made (ds, (size, (tops, (bot, ())))) = .ok true := by
  unfold m__law_made
  dsimp only
  have rs : rngX 0 size = .ok (rangeL 0 size) := rngX_b (by decide) (by omega) (by decide) (by omega)
  have z2 : ∀ a b : Int, szX [a, b] = .ok [a, b] := fun a b => szX_b (show 2 ≤ 1000000 by decide)
  rw [rs, bind_ok']
  refine forK_id (fun j m => ?_) ?_
  · obtain ⟨l, e1, e2, e3⟩ := variable_ok (n := size) (j := j) (by omega) (by omega)
    dsimp only
    rw [e3, bind_ok', rs, bind_ok', e1, bind_ok', z2, bind_ok', catL_ok (by rw [e2, List.length_cons]; simp only [List.length_cons, List.length_nil]; omega), bind_ok', bind_ok', bind_ok', same_ok (by omega), bind_ok', bind_ok', Bool.not_true, if_neg (by decide)]
  dsimp only
  -- the number
  have bb : Bd 10 bot := small10 (by omega)
  have ht0 : 0 < tops.length := by omega
  have g0 : getX tops 0 = .ok tops[0] := getX_b (by decide) (List.getElem?_eq_getElem ht0)
  have bt0 : Bd 10 tops[0] := bt.all _ (List.getElem_mem ht0)
  have hb0 : bot ≠ 0 := by omega
  have nl := na_lowq (x := tops[0]) hb0
  have n1p := nl.pos
  have n1l := lowq_le (x := tops[0]) b1
  have n0b : Bd 10 (lowq tops[0] bot).1 := bd_low1
  have n1b : Bd 10 (lowq tops[0] bot).2 := bd_low2
  rw [g0, bind_ok', bind_ok', z2, bind_ok', bind_ok', low2 hb0, bind_ok']
  generalize lowq tops[0] bot = N at *
  obtain ⟨n0, n1⟩ := N
  have h0 : getX [n0, n1] 0 = .ok n0 := getX_b (by decide) rfl
  have h1 : getX [n0, n1] 1 = .ok n1 := getX_b (by decide) rfl
  dsimp only at *
  rw [h0, bind_ok', h1, bind_ok', bind_ok', bind_ok', bind_ok', level_ok (by omega) (by omega) nl, bind_ok', rep0 (by omega) (by omega), bind_ok', catL_ok (by rw [List.length_replicate]; simp only [List.length_cons, List.length_nil]; omega), bind_ok', bind_ok', bind_ok', same_ok (by rw [List.length_replicate]; omega), bind_ok', bind_ok', Bool.not_true, if_neg (by decide)]
  -- the parts
  let L : List (Int × Int) := (List.range size.toNat).map fun i => lowq (tops.getD i 0) (1 + (dv ds (i : Nat)).fmod 9)
  have hLl : (L.length : Int) = size := by rw [List.length_map, List.length_range]; omega
  have hLm : ∀ a ∈ L, a.2.natAbs ∣ 2520 ∧ 1 ≤ a.2 ∧ Bd 10 a.1 ∧ Bd 10 a.2 := fun a m => by
    obtain ⟨i, mi, rfl⟩ := List.mem_map.mp m
    have r := mod_range (a := dv ds (i : Nat)) (m := 9) (by decide)
    have p := lowq_pos (a := tops.getD i 0) (b := 1 + (dv ds (i : Nat)).fmod 9) (by omega)
    have q := lowq_le (x := tops.getD i 0) (b := 1 + (dv ds (i : Nat)).fmod 9) (by omega)
    have bi : Bd 10 (tops.getD i 0) := by
      have hi : i < tops.length := by have := List.mem_range.mp mi; omega
      rw [List.getD_eq_getElem?_getD, List.getElem?_eq_getElem hi]
      exact bt.all _ (List.getElem_mem hi)
    have bx : Bd 10 (lowq (tops.getD i 0) (1 + (dv ds (i : Nat)).fmod 9)).1 := bd_low1
    exact ⟨dvd2520 p (by omega), p, bx, small10 (by omega)⟩
  have eP : compX (fun _ => Xc.ok true) (fun a778 => (Xc.bind (Xc.bind (Xc.bind (Xc.bind (getX tops a778) fun t782 => (Xc.bind (Xc.bind (Xc.bind (Xc.bind (getX ds a778) fun t779 => (modX t779 (9 : Int))) fun t780 => (Xc.ok ((1 : Int) + t780))) fun t781 => (Xc.ok (t781 :: ([] : List Int)))) fun t783 => (Xc.ok (t782 :: t783)))) fun t784 => (szX t784)) fun t785 => (Xc.ok (t785, ()))) fun t786 => (m__law_lowest t786))) (rangeL 0 size) = .ok (L.map fun a => [a.1, a.2]) := by
    refine comp_range (fun _ => rfl) (by rw [List.length_map]; exact hLl) fun i b hb => ?_
    rw [List.getElem?_map, List.getElem?_map] at hb
    have hi : i < size.toNat := by
      by_cases q : i < size.toNat
      · exact q
      · rw [List.getElem?_eq_none (by rw [List.length_range]; omega)] at hb; cases hb
    rw [List.getElem?_range hi] at hb
    cases hb
    have hi2 : i < tops.length := by omega
    have e : tops.getD i 0 = tops[i] := by rw [List.getD_eq_getElem?_getD, List.getElem?_eq_getElem hi2]; rfl
    have bi : Bd 10 tops[i] := bt.all _ (List.getElem_mem hi2)
    have r := mod_range (a := dv ds (i : Nat)) (m := 9) (by decide)
    have bm : Bd 10 (1 + (dv ds (i : Nat)).fmod 9) := small10 (by omega)
    rw [getX_nat (List.getElem?_eq_getElem hi2), bind_ok', getX_dv (by omega) (by omega), bind_ok', modX_b (by decide), bind_ok', bind_ok', bind_ok', bind_ok', z2, bind_ok', bind_ok', low2 (by omega)]
    show _ = Xc.ok [(lowq (tops.getD i 0) (1 + (dv ds (i : Nat)).fmod 9)).1, (lowq (tops.getD i 0) (1 + (dv ds (i : Nat)).fmod 9)).2]
    rw [e]
  rw [rs, bind_ok', eP, bind_ok', bind_ok']
  -- the product
  refine foldKp (fun pre g => ∃ P : Int, g = (ds, (size, (tops, (bot, ([n0, n1], (L.map fun a => [a.1, a.2], (P, ()))))))) ∧ P ≠ 0 ∧ Bd (10 + 10 * pre.length) P ∧ n1 ∣ P ∧ ∀ a : Int × Int, [a.1, a.2] ∈ pre → a.2 ∣ P) ⟨n1, rfl, by omega, n1b, Int.dvd_refl _, fun a m => by cases m⟩ ?_ ?_
  · rintro pre a rest g hr ⟨P, rfl, p0, pb, pn, pd⟩
    have ma : a ∈ L.map fun a => [a.1, a.2] := by rw [hr]; simp
    obtain ⟨q, mq, rfl⟩ := List.mem_map.mp ma
    have bq := (hLm q mq).2.2.2
    have pq := (hLm q mq).2.1
    have lp : pre.length ≤ 10 := by
      have := congrArg List.length hr
      rw [List.length_append, List.length_map] at this
      omega
    dsimp only
    rw [show getX [q.1, q.2] 1 = .ok q.2 from getX_b (by decide) rfl, bind_ok', mulX_bd (by omega), bind_ok']
    refine ⟨_, rfl, P * q.2, rfl, Int.mul_ne_zero p0 (by omega), ?_, Int.dvd_trans pn (Int.dvd_mul_right _ _), fun b m => ?_⟩
    · have : Bd (10 + 10 * pre.length + 10) (P * q.2) := bd_mul
      exact this.mono (by rw [List.length_append]; simp only [List.length_cons, List.length_nil]; omega)
    · rcases List.mem_append.mp m with m | m
      · exact Int.dvd_trans (pd b m) (Int.dvd_mul_right _ _)
      · have : [b.1, b.2] = [q.1, q.2] := List.mem_singleton.mp m
        simp only [List.cons.injEq, and_true] at this
        rw [this.2]
        exact Int.dvd_mul_left _ _
  rintro g ⟨P, rfl, p0, pb, pn, pd⟩
  have pb : Bd 80 P := pb.mono (by rw [List.length_map]; omega)
  have pd : ∀ a ∈ L, a.2 ∣ P := fun a m => pd a (List.mem_map.mpr ⟨a, m, rfl⟩)
  dsimp only
  rw [comp_list (l := L.map fun a => [a.1, a.2]) (h := fun a => a.getD 0 0 * P.fdiv (a.getD 1 0)) (fun _ => rfl) (fun a m => by
    obtain ⟨q, mq, rfl⟩ := List.mem_map.mp m
    have bq := (hLm q mq).2.2
    have b1 := bq.1
    have b2 := bq.2
    rw [show getX [q.1, q.2] 0 = .ok q.1 from getX_b (by decide) rfl, show getX [q.1, q.2] 1 = .ok q.2 from getX_b (by decide) rfl, bind_ok', bind_ok', fdvX_bd (n := 10) (by decide) (by have := (hLm q mq).2.1; omega), bind_ok', mulX_bd (n := 80) (by decide)]
    rfl), bind_ok', h0, bind_ok', h1, bind_ok', fdvX_bd (n := 10) (by decide) (by omega), bind_ok', mulX_bd (by decide), bind_ok', bind_ok', z2, bind_ok']
  rw [List.map_map]
  have Lf : (L.map ((fun a : List Int => a.getD 0 0 * P.fdiv (a.getD 1 0)) ∘ fun a => [a.1, a.2])) = L.map fun a => a.1 * P.fdiv a.2 := rfl
  rw [Lf, catL_ok (by rw [List.length_map]; simp only [List.length_cons, List.length_nil]; omega), bind_ok', bind_ok']
  have BL : BdL 200 (L.map fun a => a.1 * P.fdiv a.2) := ⟨fun x m => by
    obtain ⟨q, mq, rfl⟩ := List.mem_map.mp m
    have b1 := (hLm q mq).2.2.1
    exact bd_up⟩
  have Bc : Bd 200 (n0 * P.fdiv n1) := bd_up
  have Bp : Bd 200 P := bd_up
  rw [lowest_ok (n := 200) (by decide) p0, bind_ok']
  have eg : compX (fun _ => Xc.ok true) (fun a813 => (Xc.bind (getX a813 (0 : Int)) fun t814 => (Xc.bind (getX a813 (1 : Int)) fun t815 => (Xc.ok (t814, t815))))) (L.map fun a => [a.1, a.2]) = .ok L := by
    rw [comp_list (l := L.map fun a => [a.1, a.2]) (h := fun a => (a.getD 0 0, a.getD 1 0)) (fun _ => rfl) (fun a m => by
      obtain ⟨q, mq, rfl⟩ := List.mem_map.mp m
      rw [show getX [q.1, q.2] 0 = .ok q.1 from getX_b (by decide) rfl, show getX [q.1, q.2] 1 = .ok q.2 from getX_b (by decide) rfl, bind_ok', bind_ok']
      rfl), List.map_map]
    congr 1
    exact List.map_id L
  rw [eg, bind_ok', bind_ok', bind_ok', bind_ok', bind_ok', bind_ok', from_ok (L := L) (fun a m => ⟨(hLm a m).1, (hLm a m).2.1, (hLm a m).2.2.1⟩) (dvd2520 n1p (by omega)) n1p n0b (by omega) p0 pd pn, bind_ok']
  obtain ⟨xs, k, y, f1, f2, na, lx, _⟩ := af_na (L.map fun a => a.1 * P.fdiv a.2) (n0 * P.fdiv n1) p0
  rw [f1, f2, same_ok (by rw [lx, List.length_map]; omega), bind_ok', if_pos rfl, bind_ok', eqdX_ok (by decide) L L, decide_eq_true rfl]
end LW

/-! K2F: _law_parts. -/
namespace LW
open PySem L2 FL
theorem zip_take_left : ∀ {xs us : List Int} {c : Nat}, us.length ≤ c → (xs.take c).zip us = xs.zip us
  | [], us, c, h => by simp
  | x :: xs, [], c, h => by simp
  | x :: xs, u :: us, 0, h => by simp at h
  | x :: xs, u :: us, c + 1, h => by
    rw [List.take_succ_cons, List.zip_cons_cons, List.zip_cons_cons, zip_take_left (by simpa using h)]
theorem cutL_m2 {α : Type} {l : List α} {a b : α} : cutL (l ++ [a, b]) (some (-2)) none = [a, b] := by
  unfold cutL
  have e : HT.sIx (l ++ [a, b]).length 0 (some (-2)) = l.length := by
    unfold HT.sIx
    simp
    omega
  rw [e, HT.sIx_none, List.drop_left]
  simp
theorem cutL_i2 {α : Type} {l : List α} {a b : α} : cutL (l ++ [a, b]) none (some (-2)) = l := by
  unfold cutL
  have e : HT.sIx (l ++ [a, b]).length (l ++ [a, b]).length (some (-2)) = l.length := by
    unfold HT.sIx
    simp
    omega
  rw [e, HT.sIx_none, List.drop_zero, Nat.sub_zero, List.take_left]
theorem lowest_pt {n : Nat} {l : List Int} {b : Int} [hl : BdL n l] [hb : Bd n b] (hn : n ≤ 8999) (h : b ≠ 0) : m__law_lowest (l ++ [b], ()) = .ok (Tu.l (pt l b).1 ++ [(pt l b).2]) := by
  have B : BdL n (l ++ [b]) := bdl_app hl ⟨fun a m => by rw [List.mem_singleton.mp m]; exact hb⟩
  unfold m__law_lowest
  dsimp only
  have fold : ∀ (l' : List Int) (g : Nat) (x : List Int), (∀ a ∈ l', Bd n a) → foldX (fun (g476 : ((List Int) × (Int × Unit))) a477 => (Xc.bind (m__law_gcd (g476.2.1, (a477, ()))) fun t478 => (Xc.ok (g476.1, (t478, ()))))) l' (x, ((g : Int), ())) = .ok (x, (((l'.foldl (fun g a => Nat.gcd g a.natAbs) g : Nat) : Int), ())) := by
    intro l'
    induction l' with
    | nil => intro g x _; rfl
    | cons a l' ih =>
      intro g x hm
      have ba := hm a (by simp)
      show (Xc.bind _ _).bind _ = _
      dsimp only
      rw [gcd_ok (ba.mono (show n ≤ 9000 by omega)).lt, bind_ok', bind_ok', gcdI_nat]
      exact ih _ _ fun b m => hm b (by simp [m])
  have f0 : foldX (fun (g476 : ((List Int) × (Int × Unit))) a477 => (Xc.bind (m__law_gcd (g476.2.1, (a477, ()))) fun t478 => (Xc.ok (g476.1, (t478, ()))))) (l ++ [b]) (l ++ [b], ((0 : Int), ())) = .ok (l ++ [b], (((gcdL (l ++ [b]) 0 : Nat) : Int), ())) := fold _ 0 _ B.all
  have e0 : gcdL (l ++ [b]) 0 = gcdL l b := by
    refine gcdL_eq_of fun d => ?_
    constructor
    · rintro ⟨_, h⟩
      exact ⟨h b (by simp), fun a m => h a (List.mem_append_left _ m)⟩
    · rintro ⟨h1, h2⟩
      refine ⟨by show d ∣ 0; exact Nat.dvd_zero d, fun a m => ?_⟩
      rcases List.mem_append.mp m with m | m
      · exact h2 a m
      · rw [List.mem_singleton.mp m]; exact h1
  rw [f0, bind_ok']
  dsimp only
  rw [getX_last, bind_ok', bind_ok', e0]
  have h1 : Bd n (sgd l b) := bd_sgd (l := l) h hb
  have h2 : sgd l b ≠ 0 := sgd_ne (l := l) h
  have fin : compX (fun _ => Xc.ok true) (fun a => fdvX a (sgd l b)) (l ++ [b]) = .ok (Tu.l (pt l b).1 ++ [(pt l b).2]) := by
    rw [comp_fdiv hn h1 h2 _ (fun _ => rfl) (fun _ => rfl), List.map_append]
    rfl
  unfold sgd at fin
  by_cases q : b < 0
  · rw [if_pos (by simpa using q), bind_ok']
    rw [if_pos q] at fin
    exact fin
  · rw [if_neg (by simpa using q), bind_ok']
    rw [if_neg q] at fin
    exact fin
theorem comp_from {β : Type} {t : Int → Xc Bool} {f : Int → Xc β} {xs : List Int} {h : Int → β} {lo hi : Int} (ht : ∀ a, t a = .ok true) (h0 : 0 ≤ lo) (h1 : (xs.length : Int) = hi) (hf : ∀ (i : Nat) x, xs[i]? = some x → f (i : Int) = .ok (h x)) : compX t f (rangeL lo hi) = .ok ((xs.drop lo.toNat).map h) := by
  refine compX_of ht (by rw [rangeL_len, List.length_map, List.length_drop]; omega) fun i a b ha hb => ?_
  obtain ⟨e, hi'⟩ := rangeL_get ha
  rw [List.getElem?_map, List.getElem?_drop] at hb
  cases q : xs[lo.toNat + i]? with
  | none => rw [q] at hb; cases hb
  | some x =>
    rw [q] at hb
    cases hb
    have := hf _ x q
    rw [show a = ((lo.toNat + i : Nat) : Int) by omega]
    exact this
theorem parts_ok {xs tops ways : List Int} {k y cut bot : Int} [bx : BdL 200 xs] [bk : Bd 200 k] [by_ : Bd 10 y] (na : NA xs k y) (bt : BdL 10 tops) (bw : BdL 10 ways) (lt : tops.length = xs.length) (lw : ways.length = xs.length) (ln : xs.length ≤ 6) (c0 : 0 ≤ cut) (c1 : cut ≤ xs.length) (b1 : 1 ≤ bot) (b9 : bot ≤ 9) :
    m__law_parts (RA xs k y, (xs ++ [k, y], (cut, (tops, (bot, (ways, ())))))) = .ok true := by
  have hy := na.pos
  have hy0 : y ≠ 0 := by omega
  have hb0 : bot ≠ 0 := by omega
  have bb : Bd 10 bot := small10 (by omega)
  have L1 : (xs ++ [k, y]).length = xs.length + 2 := by rw [List.length_append]; rfl
  have vs : ((HasLen.len (xs ++ [k, y]) : Nat) : Int) - 2 = xs.length := by rw [hlenL, L1]; omega
  have z1 : ∀ a : Int, szX [a] = .ok [a] := fun a => szX_1
  have z2 : ∀ a b : Int, szX [a, b] = .ok [a, b] := fun a b => szX_b (show 2 ≤ 1000000 by decide)
  have m2 : getX (xs ++ [k, y]) (-2) = .ok k := getX_m2
  have m1 : getX (xs ++ [k, y]) (-1) = .ok y := getX_last2
  have kb : mulX k bot = .ok (k * bot) := mulX_bd (by decide)
  have yb : mulX y bot = .ok (y * bot) := mulX_bd (by decide)
  have B1 : BdL 200 (xs ++ [k, y]) := bdl_app bx ⟨fun a h => by
    simp only [List.mem_cons, List.not_mem_nil, or_false] at h
    rcases h with e | e <;> rw [e]
    · exact bk
    · exact bd_up⟩
  have r1 : rngX 0 cut = .ok (rangeL 0 cut) := rngX_b (by decide) (by omega) (by decide) (by omega)
  have r2 : rngX cut (xs.length : Int) = .ok (rangeL cut xs.length) := rngX_b (by omega) (by omega) (by omega) (by omega)
  have r3 : rngX 0 (xs.length : Int) = .ok (rangeL 0 xs.length) := rngX_b (by decide) (by omega) (by decide) (by omega)
  unfold m__law_parts
  dsimp only
  rw [vs, m2, bind_ok', kb, bind_ok', r1, bind_ok']
  have F1 := fold_dotR (f := fun (g618 : (Ty_Affine × ((List Int) × (Int × ((List Int) × (Int × ((List Int) × (Int × (Int × Unit))))))))) a619 => (Xc.bind (Xc.bind (Xc.bind (getX g618.2.1 a619) fun t620 => (Xc.bind (getX g618.2.2.2.1 a619) fun t621 => (mulX t620 t621))) fun t622 => (Xc.ok (g618.2.2.2.2.2.2.2.1 + t622))) fun t623 => (Xc.ok (g618.1, (g618.2.1, (g618.2.2.1, (g618.2.2.2.1, (g618.2.2.2.2.1, (g618.2.2.2.2.2.1, (g618.2.2.2.2.2.2.1, (t623, ())))))))))))
    (fun t => (RA xs k y, (xs ++ [k, y], (cut, (tops, (bot, (ways, ((xs.length : Int), (t, ()))))))))) (v := xs ++ [k, y]) (w := tops) (n := cut) (t := k * bot) c0 (by rw [L1]; omega) (by omega) fun t i x u mx mu ex eu => by
      have b1 := B1.all x mx
      have b2 := bt.all u mu
      dsimp only
      rw [ex, eu, bind_ok', bind_ok', mulX_bd (by decide), bind_ok', bind_ok']
  rw [F1, bind_ok']
  dsimp only
  have E1 : ((xs ++ [k, y]).take cut.toNat).zip (tops.take cut.toNat) = xs.zip (tops.take cut.toNat) := by
    rw [List.take_append_of_le_length (by omega), zip_take_left (by rw [List.length_take]; omega)]
  rw [E1, r2, bind_ok', comp_from (xs := xs) (h := (· * bot)) (fun _ => rfl) c0 rfl (fun i x ex => by
    have b1 := bx.all x (List.mem_of_getElem? ex)
    rw [getX_app ex, bind_ok', mulX_bd (by decide)]), bind_ok', r3, bind_ok']
  have F2 := fold_dotR (f := fun (g636 : (Ty_Affine × ((List Int) × (Int × ((List Int) × (Int × ((List Int) × (Int × (Int × ((List Int) × (Int × Unit))))))))))) a637 => (Xc.bind (Xc.bind (Xc.bind (getX g636.2.1 a637) fun t638 => (Xc.bind (getX g636.2.2.2.2.2.1 a637) fun t639 => (mulX t638 t639))) fun t640 => (Xc.ok (g636.2.2.2.2.2.2.2.2.2.1 + t640))) fun t641 => (Xc.ok (g636.1, (g636.2.1, (g636.2.2.1, (g636.2.2.2.1, (g636.2.2.2.2.1, (g636.2.2.2.2.2.1, (g636.2.2.2.2.2.2.1, (g636.2.2.2.2.2.2.2.1, (g636.2.2.2.2.2.2.2.2.1, (t641, ())))))))))))))
    (fun t => (RA xs k y, (xs ++ [k, y], (cut, (tops, (bot, (ways, ((xs.length : Int), (k * bot + dotp (xs.zip (tops.take cut.toNat)), ((xs.drop cut.toNat).map (· * bot), (t, ()))))))))))) (v := xs ++ [k, y]) (w := ways) (n := (xs.length : Int)) (t := 0) (by omega) (by rw [L1]; omega) (by omega) fun t i x u mx mu ex eu => by
      have b1 := B1.all x mx
      have b2 := bw.all u mu
      dsimp only
      rw [ex, eu, bind_ok', bind_ok', mulX_bd (by decide), bind_ok', bind_ok']
  rw [F2, bind_ok']
  dsimp only
  have E2 : ((xs ++ [k, y]).take (xs.length : Int).toNat).zip (ways.take (xs.length : Int).toNat) = xs.zip ways := by
    rw [Int.toNat_natCast, List.take_append_of_le_length (by omega), List.take_of_length_le (by omega), List.take_of_length_le (by omega)]
  rw [E2, Int.zero_add]
  -- the place
  have Bc : BdL 10 (tops.take cut.toNat) := ⟨fun a m => bt.all a (List.mem_of_mem_take m)⟩
  have pl : ∃ ts w, pt (tops.take cut.toNat) bot = (tu ts, w) ∧ BdL 10 ts ∧ Bd 10 w ∧ 1 ≤ w ∧ ts.length = cut.toNat ∧ ts.map (· * bot) = (tops.take cut.toNat).map (· * w) :=
    ⟨Tu.l (pt (tops.take cut.toNat) bot).1, (pt (tops.take cut.toNat) bot).2, rfl, bdl_pt Bc, bd_pt bb, (pt_lp hb0).pos, by rw [pt_len, List.length_take]; omega, pt_cross hb0⟩
  obtain ⟨ts, w, ep, bts, bw', w1, lts, cr⟩ := pl
  have lp := lowest_pt (n := 10) (l := tops.take cut.toNat) (b := bot) (by decide) hb0
  rw [ep] at lp
  have lp : m__law_lowest (tops.take cut.toNat ++ [bot], ()) = .ok (ts ++ [w]) := lp
  rw [z1, bind_ok', cutL_take _ c0, catL_ok (by rw [List.length_take, List.length_cons, List.length_nil]; omega), bind_ok', bind_ok', lp, bind_ok']
  have hyw : y * w ≠ 0 := Int.mul_ne_zero hy0 (by omega)
  have hyb : y * bot ≠ 0 := Int.mul_ne_zero hy0 hb0
  have bd1 : Bd 400 (dotp (xs.zip (tops.take cut.toNat))) := (bd_dotp (xs := xs) (ts := tops.take cut.toNat) bx Bc).mono (by omega)
  have bd2 : Bd 400 (dotp (xs.zip ways)) := (bd_dotp (xs := xs) (ts := ways) bx bw).mono (by omega)
  have b500 : Bd 500 (k * bot + dotp (xs.zip (tops.take cut.toNat))) := bd_up
  have by500 : Bd 500 (y * bot) := bd_up
  have Br : BdL 500 ((xs.drop cut.toNat).map (· * bot)) := ⟨fun a m => by
    obtain ⟨x, mx, rfl⟩ := List.mem_map.mp m
    have := bx.all x (List.mem_of_mem_drop mx)
    exact bd_up⟩
  have l1 : ∀ {l : List Int} {c b : Int}, m__law_lowest (l ++ [c, b], ()) = .ok (LV l c b) → ∀ {xs' : List Int} {k' y' : Int}, LV l c b = xs' ++ [k', y'] → m__law_lowest (l ++ [c, b], ()) = .ok (xs' ++ [k', y']) := fun h _ _ _ e => by rw [← e]; exact h
  -- fixed
  obtain ⟨xs1, k1, y1, f1, f2, na1, lx1, _⟩ := af_na ((xs.drop cut.toNat).map (· * bot)) (k * bot + dotp (xs.zip (tops.take cut.toNat))) hyb
  have ef : m_Affine_fixed (RA xs k y, ((tu ts, w), ())) = .ok (RA xs1 k1 y1) := by
    rw [fixed_ok hyw, ← f1]
    congr 1
    refine (af_eq hyw hyb ?_ ?_).1
    · rw [lts, List.map_map, List.map_map]
      refine List.map_congr_left fun x _ => ?_
      show x * w * (y * bot) = x * bot * (y * w)
      grind
    · have := dotp_cross (xs := xs) cr
      grind
  have lf : m__law_lowest ((xs.drop cut.toNat).map (· * bot) ++ [k * bot + dotp (xs.zip (tops.take cut.toNat)), y * bot], ()) = .ok (xs1 ++ [k1, y1]) := by rw [← f2]; exact lowest_ok (n := 500) (by decide) hyb
  have s1 := same_ok (xs := xs1) (k := k1) (y := y1) (by rw [lx1, List.length_map, List.length_drop]; omega)
  refine okB false (by
    rw [getX_last, bind_ok', bind_ok', bind_ok']
    show (((m_Affine_fixed (RA xs k y, ((tu (cutL (ts ++ [w]) none (some (-1))), w), ()))).bind _).bind _).bind _ = _
    rw [cutL_init, List.dropLast_concat, ef, bind_ok', m1, bind_ok', yb, bind_ok', bind_ok', bind_ok', z2, bind_ok', catL_ok (by rw [List.length_map, List.length_drop]; simp only [List.length_cons, List.length_nil]; omega), bind_ok', bind_ok', lf, bind_ok', bind_ok', bind_ok', s1, bind_ok', Bool.not_true]) ?_
  rw [if_neg (by decide)]
  -- head
  obtain ⟨xs2, k2, y2, f1, f2, na2, lx2, _⟩ := af_na (xs.take cut.toNat) k hy0
  have Bh : BdL 200 (xs.take cut.toNat) := ⟨fun a m => bx.all a (List.mem_of_mem_take m)⟩
  have lf : m__law_lowest (xs.take cut.toNat ++ [k, y], ()) = .ok (xs2 ++ [k2, y2]) := by rw [← f2]; exact lowest_ok (n := 200) (hb := by_.mono (by decide)) (by decide) hy0
  have s1 := same_ok (xs := xs2) (k := k2) (y := y2) (by rw [lx2, List.length_take]; omega)
  have ec : cutL (xs ++ [k, y]) none (some cut) = xs.take cut.toNat := by rw [cutL_take _ c0, List.take_append_of_le_length (by omega)]
  refine okB false (by
    rw [head_ok c0 hy0, f1, bind_ok', ec, cutL_m2, catL_ok (by rw [List.length_take]; simp only [List.length_cons, List.length_nil]; omega), bind_ok', bind_ok', lf, bind_ok', bind_ok', bind_ok', s1, bind_ok', Bool.not_true]) ?_
  rw [if_neg (by decide)]
  -- tail
  obtain ⟨xs3, k3, y3, f1, f2, na3, lx3, _⟩ := af_na (xs.drop cut.toNat) k hy0
  have Bh : BdL 200 (xs.drop cut.toNat) := ⟨fun a m => bx.all a (List.mem_of_mem_drop m)⟩
  have lf : m__law_lowest (xs.drop cut.toNat ++ [k, y], ()) = .ok (xs3 ++ [k3, y3]) := by rw [← f2]; exact lowest_ok (n := 200) (hb := by_.mono (by decide)) (by decide) hy0
  have s1 := same_ok (xs := xs3) (k := k3) (y := y3) (by rw [lx3, List.length_drop]; omega)
  have ec : cutL (xs ++ [k, y]) (some cut) none = xs.drop cut.toNat ++ [k, y] := by rw [cutL_drop _ c0, List.drop_append_of_le_length (by omega)]
  refine okB false (by
    rw [tail_ok c0 hy0, f1, bind_ok', ec, lf, bind_ok', bind_ok', bind_ok', s1, bind_ok', Bool.not_true]) ?_
  rw [if_neg (by decide)]
  -- homogeneous
  obtain ⟨xs4, k4, y4, f1, f2, na4, lx4, _⟩ := af_na xs 0 hy0
  have lf : m__law_lowest (xs ++ [0, y], ()) = .ok (xs4 ++ [k4, y4]) := by rw [← f2]; exact lowest_ok (n := 200) (hc := ⟨by decide⟩) (hb := by_.mono (by decide)) (by decide) hy0
  have s1 := same_ok (xs := xs4) (k := k4) (y := y4) (by rw [lx4]; omega)
  refine okB false (by
    rw [homog_ok hy0, f1, bind_ok', m1, bind_ok', bind_ok', bind_ok', z2, bind_ok', cutL_i2, catL_ok (by simp only [List.length_cons, List.length_nil]; omega), bind_ok', bind_ok', lf, bind_ok', bind_ok', bind_ok', s1, bind_ok', Bool.not_true]) ?_
  rw [if_neg (by decide)]
  -- placed
  have e5 : List.replicate ((xs.length : Int) + cut + 2 - (cut + 1) - xs.length).toNat (0 : Int) = [0] := by
    rw [show ((xs.length : Int) + cut + 2 - (cut + 1) - xs.length).toNat = 1 by omega]; rfl
  have pl := placed_ok (xs := xs) (k := k) (y := y) (t := (xs.length : Int) + cut + 2) (s := cut + 1) (by omega) (by omega) (by omega) (by omega) na
  rw [e5] at pl
  have s1 := same_ok (xs := List.replicate (cut + 1).toNat 0 ++ xs ++ [0]) (k := k) (y := y) (by simp only [List.length_append, List.length_replicate, List.length_cons, List.length_nil]; omega)
  refine okB false (by
    rw [pl, bind_ok', rep0 (by omega) (by omega), bind_ok', cutL_i2, catL_ok (by rw [List.length_replicate]; omega), bind_ok', z1, bind_ok', catL_ok (by simp only [List.length_append, List.length_replicate, List.length_cons, List.length_nil]; omega), bind_ok', cutL_m2, catL_ok (by simp only [List.length_append, List.length_replicate, List.length_cons, List.length_nil]; omega), bind_ok', bind_ok', bind_ok', s1, bind_ok', Bool.not_true]) ?_
  rw [if_neg (by decide), r2, bind_ok']
  -- uses
  refine foldKi (fun i g => g = (RA xs k y, (xs ++ [k, y], (cut, (tops, (bot, (ways, ((xs.length : Int), (k * bot + dotp (xs.zip (tops.take cut.toNat)), ((xs.drop cut.toNat).map (· * bot), (dotp (xs.zip ways), (ts ++ [w], (((xs.drop cut.toNat).take i).any (fun t => !decide (t = 0)), ()))))))))))))) rfl ?_ ?_
  · rintro i g a ha rfl
    obtain ⟨e, hi⟩ := rangeL_get ha
    have hi' : cut.toNat + i < xs.length := by omega
    have e : a = ((cut.toNat + i : Nat) : Int) := by omega
    subst e
    have hd : i < (xs.drop cut.toNat).length := by rw [List.length_drop]; omega
    dsimp only
    rw [getX_app (List.getElem?_eq_getElem hi'), bind_ok', bind_ok']
    have tk : ((xs.drop cut.toNat).take (i + 1)).any (fun t => !decide (t = 0)) = (((xs.drop cut.toNat).take i).any (fun t => !decide (t = 0)) || !decide (xs[cut.toNat + i] = 0)) := by
      rw [List.take_succ_eq_append_getElem hd, List.any_append, List.getElem_drop]
      simp
    by_cases q : xs[cut.toNat + i] = 0
    · rw [if_neg (by simp [q]), bind_ok']
      exact ⟨_, rfl, by rw [tk, decide_eq_true q, Bool.not_true, Bool.or_false]⟩
    · rw [if_pos (by simp [q]), bind_ok']
      exact ⟨_, rfl, by rw [tk, decide_eq_false q, Bool.not_false, Bool.or_true]⟩
  rintro g rfl
  dsimp only
  have E3 : (xs.drop cut.toNat).take (rangeL cut (xs.length : Int)).length = xs.drop cut.toNat := by
    rw [rangeL_len]
    exact List.take_of_length_le (by rw [List.length_drop]; omega)
  rw [E3, uses_ok c0, bind_ok', bind_ok', truth_ok, bind_ok', if_pos rfl, slope_ok hy0, bind_ok', m1, bind_ok', bind_ok', bind_ok', z2, bind_ok', bind_ok']
  have n0 : BdL 500 [] := ⟨fun a m => by cases m⟩
  have d500 : Bd 500 (dotp (xs.zip ways)) := bd_up
  have ll : m__law_lowest ([dotp (xs.zip ways), y], ()) = .ok [(lowq (dotp (xs.zip ways)) y).1, (lowq (dotp (xs.zip ways)) y).2] := lowest_ok (n := 500) (l := []) (hb := by_.mono (by decide)) (by decide) hy0
  rw [ll, bind_ok', bind_ok', bind_ok']
  exact same_no _ _
end LW

/-! K2H: the law's checks. -/
namespace LW
open PySem L2 FL
theorem cutL_m1 {α : Type} {l : List α} {a : α} : cutL (l ++ [a]) (some (-1)) none = [a] := by
  unfold cutL
  have e : HT.sIx (l ++ [a]).length 0 (some (-1)) = l.length := by
    unfold HT.sIx
    simp
    omega
  rw [e, HT.sIx_none, List.drop_left]
  simp
theorem core_ok {xs us T W : List Int} {k y m z fac bot cut size : Int} [bx : BdL 200 xs] [bk : Bd 200 k] [by_ : Bd 10 y] [bu : BdL 200 us] [bm : Bd 200 m] [bz : Bd 10 z] [bf : Bd 10 fac] (naf : NA xs k y) (nag : NA us m z) (hT : (T.length : Int) = size) (hW : (W.length : Int) = size) (hx : (xs.length : Int) = size) (hu : (us.length : Int) = size) (c0 : 0 ≤ cut) (cc : cut ≤ size ∧ size ≤ 6) (b1 : 1 ≤ bot) (b9 : bot ≤ 9) (bT : BdL 10 T) (bW : BdL 10 W) :
    (Xc.bind (Xc.bind (Xc.bind (Xc.bind (szX (bot :: ([] : List Int))) fun t910 => (catL T t910)) fun t911 => (Xc.ok (t911, ()))) fun t912 => (m__law_lowest t912)) fun t913 => (Xc.bind (Xc.bind (Xc.bind (m__law_same ((RA xs k y), ((xs ++ [k, y]), ()))) fun t914 => (Xc.ok (!t914))) fun t916 => (if t916 = true then Xc.ok true else (Xc.bind (m__law_same ((RA us m z), ((us ++ [m, z]), ()))) fun t915 => (Xc.ok (!t915))))) fun t1028 => (if t1028 = true then (Xc.ok false) else (Xc.bind (Xc.bind (Xc.bind (Xc.bind (Xc.bind (Xc.bind (Xc.bind (getX t913 (-(1 : Int))) fun t918 => (Xc.ok ((tu (cutL t913 none (some (-(1 : Int))))), t918))) fun t919 => (Xc.ok (t919, ()))) fun t920 => (m_Affine___call__ ((RA xs k y), t920))) fun t922 => (Xc.bind (Xc.bind (m__law_value ((xs ++ [k, y]), (T, (bot, ())))) fun t921 => (Xc.ok (t921, ()))) fun t923 => (Xc.ok (t922, t923)))) fun t924 => (m__law_same_number t924)) fun t925 => (Xc.ok (!t925))) fun t1027 => (if t1027 = true then (Xc.ok false) else (Xc.bind (Xc.bind (Xc.bind (Xc.bind (Xc.bind (m_Affine___add__ ((RA xs k y), ((RA us m z), ()))) fun t928 => (Xc.bind (Xc.bind (m__law_sum ((xs ++ [k, y]), ((us ++ [m, z]), ((1 : Int), ())))) fun t927 => (Xc.ok (t927, ()))) fun t929 => (Xc.ok (t928, t929)))) fun t930 => (m__law_same t930)) fun t931 => (Xc.ok (!t931))) fun t937 => (if t937 = true then Xc.ok true else (Xc.bind (Xc.bind (Xc.bind (m_Affine___sub__ ((RA xs k y), ((RA us m z), ()))) fun t933 => (Xc.bind (Xc.bind (m__law_sum ((xs ++ [k, y]), ((us ++ [m, z]), ((-(1 : Int)), ())))) fun t932 => (Xc.ok (t932, ()))) fun t934 => (Xc.ok (t933, t934)))) fun t935 => (m__law_same t935)) fun t936 => (Xc.ok (!t936))))) fun t1026 => (if t1026 = true then (Xc.ok false) else (Xc.bind (Xc.bind (Xc.bind (Xc.bind (compX (fun a939 => (Xc.ok true)) (fun a939 => (mulX fac a939)) (cutL (xs ++ [k, y]) none (some (-(1 : Int))))) fun t940 => (catL t940 (cutL (xs ++ [k, y]) (some (-(1 : Int))) none))) fun t941 => (Xc.ok (t941, ()))) fun t942 => (m__law_lowest t942)) fun t943 => (Xc.bind (Xc.bind (Xc.bind (Xc.bind (Xc.bind (m_Affine___mul__ ((RA xs k y), (fac, ()))) fun t944 => (Xc.ok (t944, (t943, ())))) fun t945 => (m__law_same t945)) fun t946 => (Xc.ok (!t946))) fun t950 => (if t950 = true then Xc.ok true else (Xc.bind (Xc.bind (Xc.bind (m_Affine___rmul__ ((RA xs k y), (fac, ()))) fun t947 => (Xc.ok (t947, (t943, ())))) fun t948 => (m__law_same t948)) fun t949 => (Xc.ok (!t949))))) fun t1025 => (if t1025 = true then (Xc.ok false) else (Xc.bind (Xc.bind (compX (fun a952 => (Xc.ok true)) (fun a952 => (Xc.ok (-a952))) (cutL (xs ++ [k, y]) none (some (-(1 : Int))))) fun t953 => (catL t953 (cutL (xs ++ [k, y]) (some (-(1 : Int))) none))) fun t954 => (Xc.bind (Xc.bind (Xc.bind (Xc.bind (m_Affine___neg__ ((RA xs k y), ())) fun t955 => (Xc.ok (t955, (t954, ())))) fun t956 => (m__law_same t956)) fun t957 => (Xc.ok (!t957))) fun t1024 => (if t1024 = true then (Xc.ok false) else (Xc.bind (Xc.bind (Xc.bind (Xc.bind (compX (fun a959 => (Xc.ok true)) (fun a959 => (mulX fac a959)) (cutL (xs ++ [k, y]) none (some (-(1 : Int))))) fun t963 => (Xc.bind (Xc.bind (Xc.bind (Xc.bind (getX (xs ++ [k, y]) (-(1 : Int))) fun t960 => (mulX t960 bot)) fun t961 => (Xc.ok (t961 :: ([] : List Int)))) fun t962 => (szX t962)) fun t964 => (catL t963 t964))) fun t965 => (Xc.ok (t965, ()))) fun t966 => (m__law_lowest t966)) fun t967 => (Xc.bind (Xc.bind (Xc.bind (szX (fac :: (bot :: ([] : List Int)))) fun t968 => (Xc.ok (t968, ()))) fun t969 => (m__law_lowest t969)) fun t970 => (Xc.bind (Xc.bind (Xc.bind (Xc.bind (Xc.bind (Xc.bind (Xc.bind (getX t970 (0 : Int)) fun t971 => (Xc.bind (getX t970 (1 : Int)) fun t972 => (Xc.ok (t971, t972)))) fun t973 => (Xc.ok (t973, ()))) fun t974 => (m_Affine_scaled ((RA xs k y), t974))) fun t975 => (Xc.ok (t975, (t967, ())))) fun t976 => (m__law_same t976)) fun t977 => (Xc.ok (!t977))) fun t1023 => (if t1023 = true then (Xc.ok false) else (Xc.bind (Xc.bind (Xc.bind (Xc.bind (Xc.bind (m_Affine___eq___a ((RA xs k y), ((RA us m z), ()))) fun t980 => (Xc.bind (Xc.bind (eqdX (xs ++ [k, y]) (us ++ [m, z])) fun t979 => (Xc.ok (t979, ()))) fun t981 => (Xc.ok (t980, t981)))) fun t982 => (m__law_truth t982)) fun t983 => (Xc.ok (!t983))) fun t989 => (if t989 = true then Xc.ok true else (Xc.bind (Xc.bind (Xc.bind (m_Affine___eq___a ((RA us m z), ((RA xs k y), ()))) fun t985 => (Xc.bind (Xc.bind (eqdX (xs ++ [k, y]) (us ++ [m, z])) fun t984 => (Xc.ok (t984, ()))) fun t986 => (Xc.ok (t985, t986)))) fun t987 => (m__law_truth t987)) fun t988 => (Xc.ok (!t988))))) fun t1022 => (if t1022 = true then (Xc.ok false) else (Xc.bind (Xc.bind (Xc.bind (Xc.bind (Xc.bind (Xc.bind (Xc.bind (compX (fun a991 => (Xc.ok true)) (fun a991 => (mulX (3 : Int) a991)) (cutL (xs ++ [k, y]) none (some (-(2 : Int))))) fun t997 => (Xc.bind (Xc.bind (Xc.bind (getX (xs ++ [k, y]) (-(2 : Int))) fun t992 => (mulX (3 : Int) t992)) fun t995 => (Xc.bind (Xc.bind (Xc.bind (getX (xs ++ [k, y]) (-(1 : Int))) fun t993 => (mulX (3 : Int) t993)) fun t994 => (Xc.ok (t994, ()))) fun t996 => (Xc.ok (t995, t996)))) fun t998 => (Xc.ok (t997, t998)))) fun t999 => (Xc.bind (m_Affine___init___l t999) fun t1000 => (Xc.ok (⟨t1000⟩ : Ty_Affine)))) fun t1001 => (m_Affine___eq___a ((RA xs k y), (t1001, ())))) fun t1002 => (Xc.ok (t1002, (true, ())))) fun t1003 => (m__law_truth t1003)) fun t1004 => (Xc.ok (!t1004))) fun t1021 => (if t1021 = true then (Xc.ok false) else (Xc.bind (Xc.bind (Xc.bind (Xc.bind (Xc.bind (m_Affine___eq___i ((RA xs k y), (fac, ()))) fun t1006 => (Xc.ok (t1006, (false, ())))) fun t1007 => (m__law_truth t1007)) fun t1008 => (Xc.ok (!t1008))) fun t1013 => (if t1013 = true then Xc.ok true else (Xc.bind (Xc.bind (Xc.bind (Xc.bind (m_Affine_placed ((RA xs k y), ((size + (1 : Int)), ((0 : Int), ())))) fun t1009 => (m_Affine___eq___a ((RA xs k y), (t1009, ())))) fun t1010 => (Xc.ok (t1010, (false, ())))) fun t1011 => (m__law_truth t1011)) fun t1012 => (Xc.ok (!t1012))))) fun t1020 => (if t1020 = true then (Xc.ok false) else (Xc.bind (Xc.bind (Xc.ok true) fun t1015 => (Xc.ok (!t1015))) fun t1019 => (if t1019 = true then (Xc.ok false) else (Xc.bind (m__law_parts ((RA xs k y), ((xs ++ [k, y]), (cut, (T, (bot, (W, ()))))))) fun t1018 => (if t1018 = true then (Xc.bind (m__law_same ((RA xs k y), ((xs ++ [k, y]), ()))) fun t1017 => (if t1017 = true then (m__law_same ((RA us m z), ((us ++ [m, z]), ()))) else Xc.ok false)) else Xc.ok false))))))))))))))))))))))))))) = .ok true := by
  obtain ⟨c1, s6⟩ := cc
  have hy := naf.pos
  have hz := nag.pos
  have hy0 : y ≠ 0 := by omega
  have hb0 : bot ≠ 0 := by omega
  have bb : Bd 10 bot := small10 (by omega)
  have z1 : ∀ a : Int, szX [a] = .ok [a] := fun a => szX_1
  have z2 : ∀ a b : Int, szX [a, b] = .ok [a, b] := fun a b => szX_b (show 2 ≤ 1000000 by decide)
  have m1 : getX (xs ++ [k, y]) (-1) = .ok y := getX_last2
  have m2 : getX (xs ++ [k, y]) (-2) = .ok k := getX_m2
  have as1 : xs ++ [k, y] = (xs ++ [k]) ++ [y] := by rw [List.append_assoc]; rfl
  have i1 : cutL (xs ++ [k, y]) none (some (-1)) = xs ++ [k] := by rw [as1, cutL_init, List.dropLast_concat]
  have i2 : cutL (xs ++ [k, y]) (some (-1)) none = [y] := by rw [as1, cutL_m1]
  have i3 : cutL (xs ++ [k, y]) none (some (-2)) = xs := cutL_i2
  have sf := same_ok (xs := xs) (k := k) (y := y) (by omega)
  have sg := same_ok (xs := us) (k := m) (y := z) (by omega)
  -- the place
  have pl : ∃ ts w, pt T bot = (tu ts, w) ∧ BdL 10 ts ∧ Bd 10 w ∧ 1 ≤ w ∧ ts.map (· * bot) = T.map (· * w) :=
    ⟨Tu.l (pt T bot).1, (pt T bot).2, rfl, bdl_pt bT, bd_pt bb, (pt_lp hb0).pos, pt_cross hb0⟩
  obtain ⟨ts, w, ep, bts, bw', w1, cr⟩ := pl
  have lp := lowest_pt (n := 10) (l := T) (b := bot) (by decide) hb0
  rw [ep] at lp
  have lp : m__law_lowest (T ++ [bot], ()) = .ok (ts ++ [w]) := lp
  refine okB (ts ++ [w]) (by rw [z1, bind_ok', catL_ok (by simp only [List.length_cons, List.length_nil]; omega), bind_ok', bind_ok', lp]) ?_
  refine okB false (by rw [sf, bind_ok', bind_ok', Bool.not_true, if_neg (by decide), sg, bind_ok', Bool.not_true]) ?_
  rw [if_neg (by decide)]
  -- the value
  have hyw : y * w ≠ 0 := Int.mul_ne_zero hy0 (by omega)
  have hyb : y * bot ≠ 0 := Int.mul_ne_zero hy0 hb0
  have ev : lowq (k * w + dotp (xs.zip ts)) (y * w) = lowq (k * bot + dotp (xs.zip T)) (y * bot) := by
    refine lowq_eq hyw hyb ?_
    have := dotp_cross (xs := xs) cr
    grind
  refine okB false (by
    rw [getX_last, bind_ok', bind_ok']
    show ((((m_Affine___call__ (RA xs k y, ((tu (cutL (ts ++ [w]) none (some (-1))), w), ()))).bind _).bind _).bind _) = _
    rw [cutL_init, List.dropLast_concat, call_ok hyw, ev, bind_ok', lvalue_ok hy0 hb0 (by omega) (by omega), bind_ok', bind_ok', bind_ok']
    show ((m__law_same_number (((lowq (k * bot + dotp (xs.zip T)) (y * bot)).1, (lowq (k * bot + dotp (xs.zip T)) (y * bot)).2), (_, ()))).bind _) = _
    rw [same_no, bind_ok', Bool.not_true]) ?_
  rw [if_neg (by decide)]
  -- sums
  have hyz : y * z ≠ 0 := Int.mul_ne_zero hy0 (by omega)
  obtain ⟨xa, ka, ya, fa1, fa2, _, la, _⟩ := af_na (List.zipWith (fun x u => x * z + 1 * u * y) xs us) (k * z + 1 * m * y) hyz
  obtain ⟨xb, kb, yb, fb1, fb2, _, lb, _⟩ := af_na (List.zipWith (fun x u => x * z + (-1) * u * y) xs us) (k * z + (-1) * m * y) hyz
  have sa := same_ok (xs := xa) (k := ka) (y := ya) (by rw [la, List.length_zipWith]; omega)
  have sb := same_ok (xs := xb) (k := kb) (y := yb) (by rw [lb, List.length_zipWith]; omega)
  refine okB false (by rw [add_ok hy hz, fa1, bind_ok', lsum_ok (sg := 1) (bs := ⟨by decide⟩) hy hz (by omega) (by omega), fa2, bind_ok', bind_ok', bind_ok', sa, bind_ok', bind_ok', Bool.not_true, if_neg (by decide), sub_ok hy hz, fb1, bind_ok', lsum_ok (sg := -1) (bs := ⟨by decide⟩) hy hz (by omega) (by omega), fb2, bind_ok', bind_ok', bind_ok', sb, bind_ok', Bool.not_true]) ?_
  rw [if_neg (by decide)]
  -- multiples
  have Bk : BdL 200 (xs ++ [k]) := bdl_app bx ⟨fun a h => by rw [List.mem_singleton.mp h]; exact bk⟩
  have em : compX (fun _ => Xc.ok true) (fun a => mulX fac a) (xs ++ [k]) = .ok ((xs ++ [k]).map (fac * ·)) := comp_list (fun _ => rfl) fun x mx => by
    have := Bk.all x mx
    exact mulX_bd (by decide)
  have ea : ∀ b : Int, (xs ++ [k]).map (fac * ·) ++ [b] = xs.map (fac * ·) ++ [fac * k, b] := fun b => by rw [List.map_append, List.append_assoc]; rfl
  have lk : ((xs ++ [k]).map (fac * ·)).length ≤ 1000 := by rw [List.length_map, List.length_append, List.length_cons, List.length_nil]; omega
  have Bf : BdL 300 (xs.map (fac * ·)) := ⟨fun a h => by
    obtain ⟨x, mx, rfl⟩ := List.mem_map.mp h
    have := bx.all x mx
    exact bd_up⟩
  have Bfk : Bd 300 (fac * k) := bd_up
  obtain ⟨xc, kc, yc, fc1, fc2, _, lc, _⟩ := af_na (xs.map (fac * ·)) (fac * k) hy0
  have sc := same_ok (xs := xc) (k := kc) (y := yc) (by rw [lc, List.length_map]; omega)
  have lm : m__law_lowest (xs.map (fac * ·) ++ [fac * k, y], ()) = .ok (xc ++ [kc, yc]) := by rw [← fc2]; exact lowest_ok (n := 300) (hb := by_.mono (by decide)) (by decide) hy0
  refine okB (xc ++ [kc, yc]) (by rw [i1, i2, em, bind_ok', catL_ok (by simp only [List.length_cons, List.length_nil]; omega), bind_ok', bind_ok', ea, lm]) ?_
  refine okB false (by rw [(mul_ok hy0).1, fc1, bind_ok', bind_ok', sc, bind_ok', bind_ok', Bool.not_true, if_neg (by decide), (mul_ok hy0).2, fc1, bind_ok', bind_ok', sc, bind_ok', Bool.not_true]) ?_
  rw [if_neg (by decide)]
  -- the negative
  have sn := same_ok (xs := xs.map fun t => -t) (k := -k) (y := y) (by rw [List.length_map]; omega)
  refine okB ((xs.map fun t => -t) ++ [-k, y]) (by
    rw [i1, i2, comp_list (h := fun t => -t) (fun _ => rfl) (fun x mx => rfl), bind_ok', catL_ok (by simp only [List.length_map, List.length_append, List.length_cons, List.length_nil]; omega), List.map_append, List.append_assoc]
    rfl) ?_
  refine okB false (by rw [neg_ok naf, bind_ok', bind_ok', sn, bind_ok', Bool.not_true]) ?_
  rw [if_neg (by decide)]
  -- scaled
  obtain ⟨xd, kd, yd, fd1, fd2, _, ld, _⟩ := af_na (xs.map (fac * ·)) (fac * k) hyb
  have sd := same_ok (xs := xd) (k := kd) (y := yd) (by rw [ld, List.length_map]; omega)
  have lm : m__law_lowest (xs.map (fac * ·) ++ [fac * k, y * bot], ()) = .ok (xd ++ [kd, yd]) := by rw [← fd2]; exact lowest_ok (n := 300) (hb := bd_up) (by decide) hyb
  refine okB (xd ++ [kd, yd]) (by rw [i1, em, bind_ok', m1, bind_ok', mulX_bd (by decide), bind_ok', bind_ok', z1, bind_ok', catL_ok (by simp only [List.length_cons, List.length_nil]; omega), bind_ok', bind_ok', ea, lm]) ?_
  have np := lowq_pos (a := fac) hb0
  have nc := lowq_cross (a := fac) hb0
  have nb0 : Bd 10 (lowq fac bot).1 := bd_low1
  have nb1 : Bd 10 (lowq fac bot).2 := bd_low2
  refine okB [(lowq fac bot).1, (lowq fac bot).2] (by rw [z2, bind_ok', bind_ok', low2 hb0]) ?_
  generalize lowq fac bot = N at *
  obtain ⟨n0, n1⟩ := N
  dsimp only at np nc nb0 nb1 ⊢
  have hn1 : n1 * y ≠ 0 := Int.mul_ne_zero (by omega) hy0
  have es : AF (xs.map (n0 * ·)) (n0 * k) (n1 * y) = RA xd kd yd := by
    rw [← fd1]
    refine (af_eq hn1 hyb ?_ ?_).1
    · rw [List.map_map, List.map_map]
      refine List.map_congr_left fun x _ => ?_
      show n0 * x * (y * bot) = fac * x * (n1 * y)
      grind
    · grind
  refine okB false (by rw [show getX [n0, n1] 0 = .ok n0 from getX_b (by decide) rfl, show getX [n0, n1] 1 = .ok n1 from getX_b (by decide) rfl, bind_ok', bind_ok', bind_ok', bind_ok', scaled_ok hn1, es, bind_ok', bind_ok', sd, bind_ok', Bool.not_true]) ?_
  rw [if_neg (by decide)]
  -- equality
  have eqr : decide (us ++ [m, z] = xs ++ [k, y]) = decide (xs ++ [k, y] = us ++ [m, z]) := decide_eq_decide.mpr ⟨Eq.symm, Eq.symm⟩
  refine okB false (by rw [eqa_ok, bind_ok', eqdX_ok (by decide) (xs ++ [k, y]) (us ++ [m, z]), bind_ok', bind_ok', bind_ok', truth_ok, bind_ok', bind_ok', Bool.not_true, if_neg (by decide), eqa_ok, eqr, bind_ok', bind_ok', bind_ok']; exact okB true (truth_is (decide_eq_decide.mpr Iff.rfl)) rfl) ?_
  rw [if_neg (by decide)]
  have h3 : 3 * y ≠ 0 := by omega
  have by3 : Bd 20 (3 * y) := bd_up
  have e3 : AF (xs.map (3 * ·)) (3 * k) (3 * y) = RA xs k y := by
    rw [← (af_red naf).1]
    refine (af_eq h3 hy0 ?_ ?_).1
    · rw [List.map_map]
      refine List.map_congr_left fun x _ => ?_
      show 3 * x * y = x * (3 * y)
      grind
    · grind
  have c3 : compX (fun _ => Xc.ok true) (fun a => mulX 3 a) xs = .ok (xs.map (3 * ·)) := comp_list (fun _ => rfl) fun x mx => by
    have := bx.all x mx
    exact mulX_bd (by decide)
  refine okB false (by
    rw [i3, c3, bind_ok', m2, bind_ok', mulX_bd (by decide), bind_ok', m1, bind_ok', mulX_bd (by decide), bind_ok', bind_ok', bind_ok', bind_ok', init_l (n := 20) (by decide) h3, bind_ok', e3]
    show (((m_Affine___eq___a (RA xs k y, (RA xs k y, ()))).bind _).bind _).bind _ = _
    rw [eqa_ok, decide_eq_true rfl, bind_ok', bind_ok', truth_ok, bind_ok', Bool.not_true]) ?_
  rw [if_neg (by decide)]
  have e7 : List.replicate (size + 1 - 0 - xs.length).toNat (0 : Int) = [0] := by
    rw [show (size + 1 - 0 - xs.length).toNat = 1 by omega]; rfl
  have pl := placed_ok (xs := xs) (k := k) (y := y) (t := size + 1) (s := 0) (by omega) (by omega) (by omega) (by omega) naf
  rw [e7] at pl
  have ne : decide (xs ++ [k, y] = List.replicate (0 : Int).toNat 0 ++ xs ++ [0] ++ [k, y]) = false := decide_eq_false fun h => by
    have := congrArg List.length h
    simp at this
  refine okB false (by
    show ((((Xc.ok false : Xc Bool).bind _).bind _).bind _).bind _ = _
    rw [bind_ok', bind_ok', truth_ok, bind_ok', bind_ok', Bool.not_true, if_neg (by decide), pl, bind_ok', eqa_ok, ne, bind_ok', bind_ok', truth_ok, bind_ok', Bool.not_true]) ?_
  rw [if_neg (by decide), bind_ok', bind_ok', Bool.not_true, if_neg (by decide), parts_ok naf bT bW (by omega) (by omega) (by omega) c0 (by omega) b1 b9, bind_ok', if_pos rfl, sf, bind_ok', if_pos rfl, sg]
end LW

/-! K2G: the law. -/
namespace LW
open PySem L2 FL
theorem ex_of {m : Xc (List Int)} {Q : List Int → Int → Int → Prop} (h : ∃ r, m = .ok r ∧ ∃ l c b, r = l ++ [c, b] ∧ Q l c b) : ∃ l c b, m = .ok (l ++ [c, b]) ∧ Q l c b := by
  obtain ⟨r, e, l, c, b, e2, h⟩ := h
  exact ⟨l, c, b, by rw [e, e2], h⟩
theorem values_ok {dr : List Int} (hd : Dr dr) (hl : (dr.length : Int) = 48) {at_ size : Int} (wide : Bool) (h0 : 0 ≤ at_) (h1 : at_ + size + 1 < 48) (s1 : 1 ≤ size) : ∃ l c b, m__law_values (dr, (at_, (size, (wide, ())))) = .ok (l ++ [c, b]) ∧ (l.length : Int) = size ∧ BdL 150 l ∧ Bd 150 c ∧ b ≠ 0 ∧ -9 ≤ b ∧ b ≤ 9 := by
  unfold m__law_values
  dsimp only
  rw [rngX_b (by decide) (by omega) (by decide) (by omega), bind_ok']
  have p37 : powX 10 37 = .ok (10 ^ 37) := by rw [powX_b (by decide)]; rfl
  have bp : Bd 130 ((10 : Int) ^ 37) := ⟨by decide⟩
  refine ex_of ?_
  refine foldEi (fun i g => ∃ found : List Int, g = (dr, (at_, (size, (wide, (found, ()))))) ∧ found.length = i ∧ BdL 150 found) ⟨[], rfl, rfl, ⟨fun a m => by cases m⟩⟩ ?_ ?_
  · rintro i g a ha ⟨found, rfl, hf, bf⟩
    obtain ⟨e, hi⟩ := rangeL_get ha
    have r19 := mod_range (a := dv dr (at_ + a)) (m := 19) (by decide)
    have d0 := dv_range hd (at_ + a)
    have bv : Bd 10 ((dv dr (at_ + a)).fmod 19 - 9) := small10 (by omega)
    have bd : Bd 10 (dv dr (at_ + a)) := small10 (by omega)
    have g1 : getX dr (at_ + a) = .ok (dv dr (at_ + a)) := getX_dv (by omega) (by omega)
    dsimp only
    rw [g1, bind_ok', modX_b (by decide), bind_ok', bind_ok']
    have step : ∀ v : Int, Bd 150 v → ∃ g', ((appX found v).bind fun t => Xc.ok (dr, (at_, (size, (wide, (t, ())))))) = Xc.ok g' ∧ ∃ found', g' = (dr, (at_, (size, (wide, (found', ()))))) ∧ found'.length = i + 1 ∧ BdL 150 found' := fun v bv => by
      rw [appX_b (by omega), bind_ok']
      exact ⟨_, rfl, found ++ [v], rfl, by rw [List.length_append, hf]; rfl, bdl_app bf ⟨fun a m => by rw [List.mem_singleton.mp m]; exact bv⟩⟩
    cases wide with
    | false =>
      rw [if_neg (by decide), bind_ok']
      exact step _ (bv.mono (by decide))
    | true =>
      rw [if_pos rfl, p37, bind_ok', mulX_bd (by decide), bind_ok', bind_ok', bind_ok', bind_ok']
      exact step _ bd_up
  · rintro g ⟨found, rfl, hf, bf⟩
    rw [rangeL_len] at hf
    have r18 := mod_range (a := dv dr (at_ + size + 1)) (m := 18) (by decide)
    have hf : (found.length : Int) = size + 1 := by omega
    rcases List.eq_nil_or_concat found with q | ⟨l, c, q⟩
    · rw [q] at hf; simp at hf; omega
    rw [List.concat_eq_append] at q
    subst q
    have bl : BdL 150 l := ⟨fun a m => bf.all a (List.mem_append_left _ m)⟩
    have bc : Bd 150 c := bf.all c (by simp)
    have ll : (l.length : Int) = size := by rw [List.length_append, List.length_cons, List.length_nil] at hf; omega
    dsimp only
    rw [getX_dv (by omega) (by omega), bind_ok', modX_b (by decide), bind_ok', bind_ok']
    by_cases q : 0 ≤ (dv dr (at_ + size + 1)).fmod 18 - 9
    · rw [if_pos (decide_eq_true q), bind_ok']
      dsimp only
      rw [szX_1, bind_ok', catL_ok (by simp only [List.length_append, List.length_cons, List.length_nil]; omega)]
      exact ⟨_, rfl, l, c, _, by rw [List.append_assoc]; rfl, ll, bl, bc, by omega, by omega, by omega⟩
    · rw [if_neg (by simpa using q), bind_ok']
      dsimp only
      rw [szX_1, bind_ok', catL_ok (by simp only [List.length_append, List.length_cons, List.length_nil]; omega)]
      exact ⟨_, rfl, l, c, _, by rw [List.append_assoc]; rfl, ll, bl, bc, by omega, by omega, by omega⟩
theorem tops19 {dr : List Int} (hd : Dr dr) (hl : (dr.length : Int) = 48) {at_ size : Int} (h0 : 0 ≤ at_) (h1 : at_ + size ≤ 48) (s1 : 1 ≤ size) : ∃ T, compX (fun _ => Xc.ok true) (fun a => Xc.bind (Xc.bind (getX dr (at_ + a)) fun t => modX t 19) fun t => Xc.ok (t - 9)) (rangeL 0 size) = .ok T ∧ (T.length : Int) = size ∧ BdL 10 T := by
  have e : compX (fun _ => Xc.ok true) (fun a => Xc.bind (Xc.bind (getX dr (at_ + a)) fun t => modX t 19) fun t => Xc.ok (t - 9)) (rangeL 0 size) = .ok ((List.range size.toNat).map fun k => (dv dr (at_ + (k : Nat))).fmod 19 - 9) := by
    refine comp_range (fun _ => rfl) (by rw [List.length_map, List.length_range]; omega) fun k b hb => ?_
    rw [List.getElem?_map] at hb
    have hk : k < size.toNat := by
      by_cases q : k < size.toNat
      · exact q
      · rw [List.getElem?_eq_none (by rw [List.length_range]; omega)] at hb; cases hb
    rw [List.getElem?_range hk] at hb
    cases hb
    rw [getX_dv (by omega) (by omega), bind_ok', modX_b (by decide), bind_ok']
  refine ⟨_, e, by rw [List.length_map, List.length_range]; omega, ⟨fun a m => ?_⟩⟩
  obtain ⟨k, _, rfl⟩ := List.mem_map.mp m
  have := mod_range (a := dv dr (at_ + (k : Nat))) (m := 19) (by decide)
  exact small10 (by omega)
theorem second_ok {ns dr l1 l2 : List Int} {wide : Bool} {size c1 b1 c2 b2 : Int} (hd : Dr dr) (hl : (dr.length : Int) = 48) (S1 : 1 ≤ size) (S6 : size ≤ 6) (hl1 : (l1.length : Int) = size) (bl1 : BdL 150 l1) (bc1 : Bd 150 c1) (hb1 : b1 ≠ 0) (r1 : -9 ≤ b1) (r1' : b1 ≤ 9)
    (hl2 : (l2.length : Int) = size) (bl2 : BdL 150 l2) (bc2 : Bd 150 c2) (hb2 : b2 ≠ 0) (r2 : -9 ≤ b2) (r2' : b2 ≤ 9) :
    ∃ l3 c3 b3, ((((getX dr 1).bind fun t846 => modX t846 5).bind fun t847 => Xc.ok (decide (t847 = 2))).bind fun t871 => if t871 = true then ((compX (fun _ => Xc.ok true) (fun a859 => mulX 4 a859) (l1 ++ [c1, b1])).bind fun t860 => ((((getX dr 18).bind fun t861 => modX t861 (size + 1)).bind fun t862 => getX t860 t862).bind fun t864 => (((getX dr 19).bind fun t863 => modX t863 2).bind fun t865 => Xc.ok (t864 + t865))).bind fun t867 => (((getX dr 18).bind fun t866 => modX t866 (size + 1)).bind fun t868 => (setX t860 t868 t867).bind fun t869 => Xc.ok ((ns, (dr, (size, (wide, (l1 ++ [c1, b1], (t869, ())))))) : (List Int) × ((List Int) × (Int × (Bool × ((List Int) × (List Int × Unit)))))))) else Xc.ok (ns, (dr, (size, (wide, (l1 ++ [c1, b1], (l2 ++ [c2, b2], ()))))))) = .ok (ns, (dr, (size, (wide, (l1 ++ [c1, b1], (l3 ++ [c3, b3], ())))))) ∧ (l3.length : Int) = size ∧ BdL 160 l3 ∧ Bd 160 c3 ∧ b3 ≠ 0 ∧ -36 ≤ b3 ∧ b3 ≤ 36 := by
  have gd : ∀ i : Int, 0 ≤ i → i < 48 → getX dr i = .ok (dv dr i) := fun i h0 h1 => getX_dv h0 (by omega)
  have r18 := mod_range (a := dv dr 18) (m := size + 1) (by omega)
  have r19 := mod_range (a := dv dr 19) (m := 2) (by decide)
  rw [gd 1 (by decide) (by decide), bind_ok', modX_b (by decide), bind_ok', bind_ok']
  by_cases q : (dv dr 1).fmod 5 = 2
  · rw [if_pos (decide_eq_true q)]
    have B : BdL 150 (l1 ++ [c1, b1]) := bdl_app bl1 ⟨fun a h => by
      simp only [List.mem_cons, List.not_mem_nil, or_false] at h
      rcases h with e | e <;> rw [e]
      · exact bc1
      · exact (small10 (by omega)).mono (by decide)⟩
    have B4 : BdL 155 ((l1 ++ [c1]).map (4 * ·)) := ⟨fun a h => by
      obtain ⟨x, mx, rfl⟩ := List.mem_map.mp h
      have : Bd 150 x := B.all x (by
        rcases List.mem_append.mp mx with mx | mx
        · exact List.mem_append_left _ mx
        · rw [List.mem_singleton.mp mx]; simp)
      exact bd_up⟩
    have em : (l1 ++ [c1, b1]).map (4 * ·) = (l1 ++ [c1]).map (4 * ·) ++ [4 * b1] := by simp
    rw [comp_list (h := (4 * ·)) (fun _ => rfl) (fun x m => by
      have := B.all x m
      exact mulX_bd (by decide)), bind_ok', em, gd 18 (by decide) (by decide), bind_ok', modX_b (by omega), bind_ok', gd 19 (by decide) (by decide), bind_ok', modX_b (by decide)]
    have lv : ((l1 ++ [c1]).map (4 * ·)).length = l1.length + 1 := by rw [List.length_map, List.length_append]; rfl
    obtain ⟨u, eu, mu, _⟩ := getX_ex (l := (l1 ++ [c1]).map (4 * ·)) (i := (dv dr 18).fmod (size + 1)) r18.1 (by rw [lv]; omega)
    have eu' : getX ((l1 ++ [c1]).map (4 * ·) ++ [4 * b1]) ((dv dr 18).fmod (size + 1)) = .ok u := by
      obtain ⟨a, ea, _, ha⟩ := getX_ex (l := (l1 ++ [c1]).map (4 * ·)) (i := (dv dr 18).fmod (size + 1)) r18.1 (by rw [lv]; omega)
      rw [eu] at ea
      cases ea
      exact getX_b r18.1 (by rw [List.getElem?_append_left (by rw [lv]; omega)]; exact ha)
    have bu := B4.all u mu
    rw [eu', bind_ok', bind_ok', bind_ok', bind_ok', setX_b r18.1 (by rw [List.length_append, lv, List.length_cons, List.length_nil]; omega), bind_ok', List.set_append_left _ _ (by rw [lv]; omega)]
    have bnew : Bd 160 (u + (dv dr 19).fmod 2) := by
      have : Bd 10 ((dv dr 19).fmod 2) := small10 (by omega)
      exact bd_up
    have Bs : BdL 160 (((l1 ++ [c1]).map (4 * ·)).set ((dv dr 18).fmod (size + 1)).toNat (u + (dv dr 19).fmod 2)) := ⟨fun a h => by
      rcases List.mem_or_eq_of_mem_set h with h | h
      · exact (B4.all a h).mono (by decide)
      · rw [h]; exact bnew⟩
    have ls : (((l1 ++ [c1]).map (4 * ·)).set ((dv dr 18).fmod (size + 1)).toNat (u + (dv dr 19).fmod 2)).length = l1.length + 1 := by rw [List.length_set, lv]
    generalize ((l1 ++ [c1]).map (4 * ·)).set ((dv dr 18).fmod (size + 1)).toNat (u + (dv dr 19).fmod 2) = v at *
    rcases List.eq_nil_or_concat v with e | ⟨l, c, e⟩
    · rw [e] at ls; simp at ls
    rw [List.concat_eq_append] at e
    subst e
    exact ⟨l, c, 4 * b1, by rw [List.append_assoc]; rfl, by rw [List.length_append, List.length_cons, List.length_nil] at ls; omega, ⟨fun a m => Bs.all a (List.mem_append_left _ m)⟩, Bs.all c (by simp), by omega, by omega, by omega⟩
  · rw [if_neg (by simpa using q)]
    exact ⟨l2, c2, b2, rfl, hl2, bl2.mono (by decide), bc2.mono (by decide), hb2, by omega, by omega⟩
theorem law_true : ∀ ns : List Int, ns.length ≤ 63 → m_law (ns, ()) = .ok true := by
  intro ns hn
  obtain ⟨dr, e, hl, hd⟩ := draws_ok (c := 48) hn (by decide) (by decide)
  have gd : ∀ i : Int, 0 ≤ i → i < 48 → getX dr i = .ok (dv dr i) := fun i h0 h1 => getX_dv h0 (by omega)
  have md : ∀ x m : Int, m ≠ 0 → modX x m = .ok (x.fmod m) := fun x m h => modX_b h
  have s0 := mod_range (a := dv dr 0) (m := 6) (by decide)
  obtain ⟨l1, c1, b1, e1, hl1, bl1, bc1, hb1, r1, r1'⟩ := values_ok hd hl (at_ := 2) (size := 1 + (dv dr 0).fmod 6) (decide ((dv dr 1).fmod 8 = 3)) (by decide) (by omega) (by omega)
  obtain ⟨l2, c2, b2, e2, hl2, bl2, bc2, hb2, r2, r2'⟩ := values_ok hd hl (at_ := 10) (size := 1 + (dv dr 0).fmod 6) (decide ((dv dr 1).fmod 8 = 3)) (by decide) (by omega) (by omega)
  obtain ⟨T, e3, hT, bT⟩ := tops19 hd hl (at_ := 20) (size := 1 + (dv dr 0).fmod 6) (by decide) (by omega) (by omega)
  obtain ⟨W, e4, hW, bW⟩ := tops19 hd hl (at_ := 28) (size := 1 + (dv dr 0).fmod 6) (by decide) (by omega) (by omega)
  have rs : rngX 0 (1 + (dv dr 0).fmod 6) = .ok (rangeL 0 (1 + (dv dr 0).fmod 6)) := rngX_b (by decide) (by omega) (by decide) (by omega)
  unfold m_law
  refine okB _ e ?_
  refine okB (1 + (dv dr 0).fmod 6) (by simp (discharger := decide) only [gd, md, bind_ok']) ?_
  refine okB (decide ((dv dr 1).fmod 8 = 3)) (by simp (discharger := decide) only [gd, md, bind_ok']) ?_
  rw [e1, bind_ok', e2, bind_ok']
  dsimp only
  have S1 : 1 ≤ 1 + (dv dr 0).fmod 6 := by omega
  have S6 : 1 + (dv dr 0).fmod 6 ≤ 6 := by omega
  generalize decide ((dv dr 1).fmod 8 = 3) = wide at *
  have r18 := mod_range (a := dv dr 18) (m := 1 + (dv dr 0).fmod 6 + 1) (by omega)
  have r19 := mod_range (a := dv dr 19) (m := 2) (by decide)
  generalize 1 + (dv dr 0).fmod 6 = size at *
  -- the second
  obtain ⟨l3, c3, b3, e5, hl3, bl3, bc3, hb3, r3, r3'⟩ := second_ok (ns := ns) (wide := wide) hd hl S1 S6 hl1 bl1 bc1 hb1 r1 r1' hl2 bl2 bc2 hb2 r2 r2'
  refine okB _ e5 ?_
  dsimp only
  have r26 := mod_range (a := dv dr 26) (m := 9) (by decide)
  have r27 := mod_range (a := dv dr 27) (m := 19) (by decide)
  have r34 := mod_range (a := dv dr 34) (m := size + 1) (by omega)
  refine okB T (by rw [rs, bind_ok']; exact e3) ?_
  refine okB (1 + (dv dr 26).fmod 9) (by simp (discharger := decide) only [gd, md, bind_ok']) ?_
  refine okB ((dv dr 27).fmod 19 - 9) (by simp (discharger := decide) only [gd, md, bind_ok']) ?_
  refine okB W (by rw [rs, bind_ok']; exact e4) ?_
  refine okB ((dv dr 34).fmod (size + 1)) (by rw [gd _ (by decide) (by decide), bind_ok', md _ _ (by omega)]) ?_
  have bot1 : 1 ≤ 1 + (dv dr 26).fmod 9 := by omega
  have bot9 : 1 + (dv dr 26).fmod 9 ≤ 9 := by omega
  have bf : Bd 10 ((dv dr 27).fmod 19 - 9) := small10 (by omega)
  have cs : cutL dr (some 35) (some 41) = (dr.take 41).drop 35 := cutL_mid _ (by decide) (by decide)
  have csl : ((dr.take 41).drop 35).length = 6 := by rw [List.length_drop, List.length_take]; omega
  have csd : Dr ((dr.take 41).drop 35) := fun x m => hd x (List.mem_of_mem_take (List.mem_of_mem_drop m))
  have made := made_ok csd csl hT S1 S6 bT bot1 bot9
  generalize 1 + (dv dr 26).fmod 9 = bot at *
  generalize (dv dr 27).fmod 19 - 9 = fac at *
  generalize (dv dr 34).fmod (size + 1) = cut at *
  -- f and g
  obtain ⟨xs, k, y, f1, f2, naf, lx, _, _, ly, bxs, bks⟩ := af_na l1 c1 hb1
  obtain ⟨us, m, z, g1, g2, nag, lu, _, _, lz, bus, bms⟩ := af_na l3 c3 hb3
  have bx : BdL 200 xs := (bxs 150 bl1).mono (by decide)
  have bk : Bd 200 k := (bks 150 bc1).mono (by decide)
  have by_ : Bd 10 y := ⟨by show _ < 1024; omega⟩
  have bu : BdL 200 us := (bus 160 bl3).mono (by decide)
  have bm : Bd 200 m := (bms 160 bc3).mono (by decide)
  have bz : Bd 10 z := ⟨by show _ < 1024; omega⟩
  have bb1 : Bd 10 b1 := small10 (by omega)
  have bb3 : Bd 10 b3 := small10 (by omega)
  have i1 := init_l (n := 10) (l := l1) (c := c1) (b := b1) (by decide) hb1
  have i3 := init_u (n := 10) (l := tu l3) (c := c3) (b := b3) (by decide) hb3
  have j1 : m__law_lowest (l1 ++ [c1, b1], ()) = .ok (xs ++ [k, y]) := by rw [← f2]; exact lowest_ok (n := 150) (hb := bb1.mono (by decide)) (by decide) hb1
  have j3 : m__law_lowest (l3 ++ [c3, b3], ()) = .ok (us ++ [m, z]) := by rw [← g2]; exact lowest_ok (n := 160) (hb := bb3.mono (by decide)) (by decide) hb3
  rw [f1] at i1
  have i3 : m_Affine___init___u (tu l3, (c3, (b3, ()))) = .ok (RA us m z).v := by rw [← g1]; exact i3
  refine okB (RA xs k y) (by rw [getX_m2, bind_ok', getX_last2, bind_ok', bind_ok', bind_ok', cutL_i2, bind_ok', i1, bind_ok']) ?_
  refine okB false (by rw [cutL_i2, eqdX_ok (by decide) l1 l1, bind_ok', decide_eq_true rfl, Bool.not_true]) ?_
  rw [if_neg (by decide)]
  refine okB (l1 ++ [1]) (by rw [cutL_i2, appX_b (by omega)]) ?_
  refine okB (RA us m z) (by rw [getX_m2, bind_ok', getX_last2, bind_ok', bind_ok', bind_ok', cutL_i2, bind_ok', i3, bind_ok']) ?_
  rw [j1, bind_ok', j3, bind_ok', cs, made]
  exact core_ok naf nag (by omega) (by omega) (by omega) (by omega) r34.1 (by omega) bot1 bot9 bT bW
end LW

namespace LW
open PySem L2 FL
def dA (x : Str) (i : Nat) : He5.DefA := ⟨fun K => He.ga K x, x, x, defArgs (top i), defBody (top i), defScope (top i), [], []⟩
def dM (C m qn : Str) (st : Stmt) (dv : List He.Dv) : He5.DefA := ⟨fun K => He.ma K (He.ga K C) m, m, qn, defArgs st, defBody st, defScope st, dv, []⟩
def dS (C m qn : Str) (st : Stmt) : He5.DefA := ⟨fun K => He5.wf K (He.ga K C) "staticmethod" m, m, qn, defArgs st, defBody st, defScope st, [], []⟩
def fnL : List He5.DefA := [dA "ratio" 5, dA "common_divisor" 7, dA "point" 8, dA "point_of" 9, dM "Affine" "__init__" "Affine.__init__" mt_Affine___init__ [.int 1], dS "Affine" "variable" "Affine.variable" mt_Affine_variable, dS "Affine" "level" "Affine.level" mt_Affine_level, dS "Affine" "from_numbers" "Affine.from_numbers" mt_Affine_from_numbers, dM "Affine" "__call__" "Affine.__call__" mt_Affine___call__ [], dM "Affine" "slope" "Affine.slope" mt_Affine_slope [], dM "Affine" "__eq__" "Affine.__eq__" mt_Affine___eq__ [], dM "Affine" "__add__" "Affine.__add__" mt_Affine___add__ [], dM "Affine" "__sub__" "Affine.__sub__" mt_Affine___sub__ [], dM "Affine" "__neg__" "Affine.__neg__" mt_Affine___neg__ [], dM "Affine" "__mul__" "Affine.__mul__" mt_Affine___mul__ [], dM "Affine" "__rmul__" "Affine.__rmul__" mt_Affine___rmul__ [], dM "Affine" "scaled" "Affine.scaled" mt_Affine_scaled [], dM "Affine" "placed" "Affine.placed" mt_Affine_placed [], dM "Affine" "fixed" "Affine.fixed" mt_Affine_fixed [], dM "Affine" "head" "Affine.head" mt_Affine_head [], dM "Affine" "tail" "Affine.tail" mt_Affine_tail [], dM "Affine" "homogeneous" "Affine.homogeneous" mt_Affine_homogeneous [], dM "Affine" "uses" "Affine.uses" mt_Affine_uses [], dA "_law_is_integer" 13, dA "_law_draws" 14, dA "_law_gcd" 15, dA "_law_lowest" 16, dA "_law_values" 17, dA "_law_same" 18, dA "_law_truth" 19, dA "_law_same_number" 20, dA "_law_value" 21, dA "_law_sum" 22, dA "_law_parts" 23, dA "_law_made" 24, dA "law" 25]
def faL : List He.Fa := [.glo "ratio", .glo "common_divisor", .glo "point", .glo "point_of", .glo "_law_is_integer", .glo "_law_draws", .glo "_law_gcd", .glo "_law_lowest", .glo "_law_values", .glo "_law_same", .glo "_law_truth", .glo "_law_same_number", .glo "_law_value", .glo "_law_sum", .glo "_law_parts", .glo "_law_made", .glo "law", .glo "Affine", .cls "Affine", .mkr "Affine", .noat "Affine" "bottom", .noat "Affine" "coefs", .noat "Affine" "constant", .noat "Affine" "size", .meth "Affine" "__add__", .meth "Affine" "__call__", .meth "Affine" "__eq__", .meth "Affine" "__mul__", .meth "Affine" "__neg__", .meth "Affine" "__rmul__", .meth "Affine" "__sub__", .meth "Affine" "fixed", .meth "Affine" "head", .meth "Affine" "homogeneous", .meth "Affine" "placed", .meth "Affine" "scaled", .meth "Affine" "slope", .meth "Affine" "tail", .meth "Affine" "uses", .free "abs", .free "any", .free "bool", .free "int", .free "isinstance", .free "len", .free "list", .free "range", .free "tuple", .free "zip", .glo "BadNumber", .exc "BadNumber"]
def exL (K : PySem.W.Frag) : Bool := (He.eqO (PySem.W.nsIn K mainGlobals "gcd") (some (some (.builtin "math.gcd")))) && ((He.eqO (PySem.W.nsIn K mainGlobals "lcm") (some (some (.builtin "math.lcm")))) && ((isiB K "Affine") && ((PySem.W.selfFirst K (He.ga K "Affine")) && ((opIB K "Affine" "__mul__" "__rmul__") && ((decide (PySem.W.subIn K (.ref (He.ga K "Affine")) (.type "int") = some false)) && ((PySem.W.notFirst K (He.ga K "Affine") (.type "int")) && ((PySem.W.fnIn K (He.ma K (He.ga K "Affine") "__call__")) && ((decide (PySem.W.kitOne K (.ref (He.ga K "Affine")) (.ref (He.ga K "Affine")) = some true)) && ((decide (PySem.W.kitOne K (.type "int") (.ref (He.ga K "Affine")) = some false)) && ((readB K "Affine") && ((He5.wrapB K (He.ga K "Affine") "staticmethod" "staticmethod.__get__" "from_numbers") && ((He5.wrapB K (He.ga K "Affine") "staticmethod" "staticmethod.__get__" "level") && ((He5.wrapB K (He.ga K "Affine") "staticmethod" "staticmethod.__get__" "variable") && (true))))))))))))))
abbrev RR : PySem.W.OpenRow := PySem.W.OpenLaw.row PySem.Challenge.rw_leadersets_k02_functions_of_points
abbrev hkL : PySem.W.Hook := hookK 5 faL fnL exL
def obL (s : PySem.W.SharedT) : He.AlD × Bool := obsK 5 faL fnL exL (HandSHeadRun.getT s)
theorem obL_eq (s : PySem.W.SharedT) : obL s = hkL.obs s.abs := obsK_eq (HandSHeadRun.getT_eq s)
def looseL : List PySem.Str := ((["__name__", "LeaderError", "BadNumber", "ratio", "common_divisor", "point", "point_of", "Affine", "_law_is_integer", "_law_draws", "_law_gcd", "_law_lowest", "_law_values", "_law_same", "_law_truth", "_law_same_number", "_law_value", "_law_sum", "_law_parts", "_law_made"] : List String).map PySem.Str.ofString)
theorem runL (w : World) : HandSHeadRun.RunEqI RR (PySem.W.view RR.prog [0, 25]) hkL obL 3000 looseL w := by
  unfold HandSHeadRun.RunEqI
  kernel_rfl
theorem t0L {K : PySem.W.Frag} {h : Heap} {mg : Str → Option Value} (X : K.In h) (G : h.Ns mainGlobals mg) (c : He5.SaysA faL fnL K) (ce : exL K = true) : T0 K mg where
  f_abs := He.free_ok X G (c.fact 39 (f := .free "abs") rfl)
  f_any := He.free_ok X G (c.fact 40 (f := .free "any") rfl)
  f_bool := He.free_ok X G (c.fact 41 (f := .free "bool") rfl)
  f_int := He.free_ok X G (c.fact 42 (f := .free "int") rfl)
  f_isinstance := He.free_ok X G (c.fact 43 (f := .free "isinstance") rfl)
  f_len := He.free_ok X G (c.fact 44 (f := .free "len") rfl)
  f_list := He.free_ok X G (c.fact 45 (f := .free "list") rfl)
  f_range := He.free_ok X G (c.fact 46 (f := .free "range") rfl)
  f_tuple := He.free_ok X G (c.fact 47 (f := .free "tuple") rfl)
  f_zip := He.free_ok X G (c.fact 48 (f := .free "zip") rfl)
  g_Affine := He.glo_ok X G (c.fact 17 (f := .glo "Affine") rfl)
  x_BadNumber := ⟨(He.exc_ok (c.fact 50 (f := .exc "BadNumber") rfl)).1, (He.exc_ok (c.fact 50 (f := .exc "BadNumber") rfl)).2.1, (He.exc_ok (c.fact 50 (f := .exc "BadNumber") rfl)).2.2.1, (He.exc_ok (c.fact 50 (f := .exc "BadNumber") rfl)).2.2.2, He.glo_ok X G (c.fact 49 (f := .glo "BadNumber") rfl)⟩
  cl_Affine := He.cls_ok (c.fact 18 (f := .cls "Affine") rfl)
  na_Affine_bottom := He.noat_ok (c.fact 20 (f := .noat "Affine" "bottom") rfl)
  na_Affine_coefs := He.noat_ok (c.fact 21 (f := .noat "Affine" "coefs") rfl)
  na_Affine_constant := He.noat_ok (c.fact 22 (f := .noat "Affine" "constant") rfl)
  na_Affine_size := He.noat_ok (c.fact 23 (f := .noat "Affine" "size") rfl)
  me_Affine___add__ := He.meth_ok (c.fact 24 (f := .meth "Affine" "__add__") rfl)
  me_Affine___call__ := He.meth_ok (c.fact 25 (f := .meth "Affine" "__call__") rfl)
  me_Affine___eq__ := He.meth_ok (c.fact 26 (f := .meth "Affine" "__eq__") rfl)
  me_Affine___mul__ := He.meth_ok (c.fact 27 (f := .meth "Affine" "__mul__") rfl)
  me_Affine___neg__ := He.meth_ok (c.fact 28 (f := .meth "Affine" "__neg__") rfl)
  me_Affine___rmul__ := He.meth_ok (c.fact 29 (f := .meth "Affine" "__rmul__") rfl)
  me_Affine___sub__ := He.meth_ok (c.fact 30 (f := .meth "Affine" "__sub__") rfl)
  me_Affine_fixed := He.meth_ok (c.fact 31 (f := .meth "Affine" "fixed") rfl)
  me_Affine_head := He.meth_ok (c.fact 32 (f := .meth "Affine" "head") rfl)
  me_Affine_homogeneous := He.meth_ok (c.fact 33 (f := .meth "Affine" "homogeneous") rfl)
  me_Affine_placed := He.meth_ok (c.fact 34 (f := .meth "Affine" "placed") rfl)
  me_Affine_scaled := He.meth_ok (c.fact 35 (f := .meth "Affine" "scaled") rfl)
  me_Affine_slope := He.meth_ok (c.fact 36 (f := .meth "Affine" "slope") rfl)
  me_Affine_tail := He.meth_ok (c.fact 37 (f := .meth "Affine" "tail") rfl)
  me_Affine_uses := He.meth_ok (c.fact 38 (f := .meth "Affine" "uses") rfl)
  gcd := mg_fact X G (He.ba ce).1
  lcm := mg_fact X G (He.ba (He.ba ce).2).1
  isi_Affine := isiB_ok (He.cls_ok (c.fact 18 (f := .cls "Affine") rfl)) (He.ba (He.ba (He.ba ce).2).2).1
  sf_Affine := (He.ba (He.ba (He.ba (He.ba ce).2).2).2).1
  oi_Affine___mul__ := opIB_ok (He.ba (He.ba (He.ba (He.ba (He.ba ce).2).2).2).2).1
  sbi_Affine := of_decide_eq_true (He.ba (He.ba (He.ba (He.ba (He.ba (He.ba ce).2).2).2).2).2).1
  nfi_Affine := (He.ba (He.ba (He.ba (He.ba (He.ba (He.ba (He.ba ce).2).2).2).2).2).2).1
  fnc_Affine := (He.ba (He.ba (He.ba (He.ba (He.ba (He.ba (He.ba (He.ba ce).2).2).2).2).2).2).2).1
  ki_Affine_Affine := of_decide_eq_true (He.ba (He.ba (He.ba (He.ba (He.ba (He.ba (He.ba (He.ba (He.ba ce).2).2).2).2).2).2).2).2).1
  ki_int_Affine := of_decide_eq_true (He.ba (He.ba (He.ba (He.ba (He.ba (He.ba (He.ba (He.ba (He.ba (He.ba ce).2).2).2).2).2).2).2).2).2).1
  rd_Affine := readB_ok (He.ba (He.ba (He.ba (He.ba (He.ba (He.ba (He.ba (He.ba (He.ba (He.ba (He.ba ce).2).2).2).2).2).2).2).2).2).2).1
  wr_Affine_from_numbers := (He.ba (He.ba (He.ba (He.ba (He.ba (He.ba (He.ba (He.ba (He.ba (He.ba (He.ba (He.ba ce).2).2).2).2).2).2).2).2).2).2).2).1
  wr_Affine_level := (He.ba (He.ba (He.ba (He.ba (He.ba (He.ba (He.ba (He.ba (He.ba (He.ba (He.ba (He.ba (He.ba ce).2).2).2).2).2).2).2).2).2).2).2).2).1
  wr_Affine_variable := (He.ba (He.ba (He.ba (He.ba (He.ba (He.ba (He.ba (He.ba (He.ba (He.ba (He.ba (He.ba (He.ba (He.ba ce).2).2).2).2).2).2).2).2).2).2).2).2).2).1
theorem factsL {P : Program} {w : World} {K : PySem.W.Frag} {h : Heap} {mg : Str → Option Value} {f : Addr} (X : K.In h) (G : h.Ns mainGlobals mg) (hfa : mg ("law" : Str) = some (.ref f)) (c : He5.SaysA faL fnL K) (ce : exL K = true) :
    ∃ fd : FuncData, (∀ (s : Shared) (v : Value), BindsTo s fd ⟨[v], []⟩ [(("script" : Str), v)]) ∧ ∀ base : Heap, K.In base → base.Ns mainGlobals mg → FnOk P w K mg base (L2.CX P w) 6 f fd ["script"] (spF K (rtF Bool) m_law) := by
  have T := t0L X G c ce
  obtain ⟨fd, F⟩ := c.def_ 35 (d := dA "law" 25) rfl
  have e := hfa.symm.trans (He.glo_ok X G (c.fact 16 (f := .glo "law") rfl))
  cases e
  have b := FunD.bindsA (ps := ["script"]) F fun _ _ _ _ _ _ us hl => match us, hl with | [_], _ => rfl
  refine ⟨fd, fun s v => b s [v] rfl, fun base _ _ => ?_⟩
  obtain ⟨fd_ratio, F_ratio⟩ := c.def_ 0 (d := dA "ratio" 5) rfl
  have D_ratio := dk_of F_ratio (He.glo_ok X G (c.fact 0 (f := .glo "ratio") rfl)) (F_ratio.bindsN fun _ _ _ _ _ _ us hl => match us, hl with | [_, _], _ => rfl) (d_ratio (P := P) (w := w) (base := base) F_ratio T)
  obtain ⟨fd_common_divisor_l, F_common_divisor_l⟩ := c.def_ 1 (d := dA "common_divisor" 7) rfl
  have D_common_divisor_l := dk_of F_common_divisor_l (He.glo_ok X G (c.fact 1 (f := .glo "common_divisor") rfl)) (F_common_divisor_l.bindsN fun _ _ _ _ _ _ us hl => match us, hl with | [_, _], _ => rfl) (d_common_divisor_l (P := P) (w := w) (base := base) F_common_divisor_l T)
  obtain ⟨fd_common_divisor_u, F_common_divisor_u⟩ := c.def_ 1 (d := dA "common_divisor" 7) rfl
  have D_common_divisor_u := dk_of F_common_divisor_u (He.glo_ok X G (c.fact 1 (f := .glo "common_divisor") rfl)) (F_common_divisor_u.bindsN fun _ _ _ _ _ _ us hl => match us, hl with | [_, _], _ => rfl) (d_common_divisor_u (P := P) (w := w) (base := base) F_common_divisor_u T)
  obtain ⟨fd_point_l, F_point_l⟩ := c.def_ 2 (d := dA "point" 8) rfl
  have D_point_l := dk_of F_point_l (He.glo_ok X G (c.fact 2 (f := .glo "point") rfl)) (F_point_l.bindsN fun _ _ _ _ _ _ us hl => match us, hl with | [_, _], _ => rfl) (d_point_l (P := P) (w := w) (base := base) F_point_l T D_common_divisor_l)
  obtain ⟨fd_point_u, F_point_u⟩ := c.def_ 2 (d := dA "point" 8) rfl
  have D_point_u := dk_of F_point_u (He.glo_ok X G (c.fact 2 (f := .glo "point") rfl)) (F_point_u.bindsN fun _ _ _ _ _ _ us hl => match us, hl with | [_, _], _ => rfl) (d_point_u (P := P) (w := w) (base := base) F_point_u T D_common_divisor_u)
  obtain ⟨fd_point_of, F_point_of⟩ := c.def_ 3 (d := dA "point_of" 9) rfl
  have D_point_of := dk_of F_point_of (He.glo_ok X G (c.fact 3 (f := .glo "point_of") rfl)) (F_point_of.bindsN fun _ _ _ _ _ _ us hl => match us, hl with | [_], _ => rfl) (d_point_of (P := P) (w := w) (base := base) F_point_of T D_point_l)
  obtain ⟨fd_Affine___init___l, F_Affine___init___l⟩ := c.def_ 4 (d := dM "Affine" "__init__" "Affine.__init__" mt_Affine___init__ [.int 1]) rfl
  have D_Affine___init___l := di_of (C := "Affine") (dvs := []) (He.mkr_ok (c.fact 19 (f := .mkr "Affine") rfl)) (He.glo_ok X G (c.fact 17 (f := .glo "Affine") rfl)) (F_Affine___init___l.binds1 4 1 (List.cons_ne_nil _ _) rfl fun _ _ _ _ _ _ _ us its hu hi => match us, hu, its, hi with | [_, _, _, _], _, [_], _ => ⟨_, rfl, rfl⟩) (d_Affine___init___l (P := P) (w := w) (base := base) F_Affine___init___l T D_common_divisor_l)
  have D_Affine___init___l_D1 := di_of (C := "Affine") (dvs := [.int 1]) (He.mkr_ok (c.fact 19 (f := .mkr "Affine") rfl)) (He.glo_ok X G (c.fact 17 (f := .glo "Affine") rfl)) (F_Affine___init___l.binds1 3 0 (List.cons_ne_nil _ _) rfl fun _ _ _ _ _ _ _ us its hu hi => match us, hu, its, hi with | [_, _, _], _, [_], _ => ⟨_, rfl, rfl⟩) (d_Affine___init___l (P := P) (w := w) (base := base) F_Affine___init___l T D_common_divisor_l)
  obtain ⟨fd_Affine___init___u, F_Affine___init___u⟩ := c.def_ 4 (d := dM "Affine" "__init__" "Affine.__init__" mt_Affine___init__ [.int 1]) rfl
  have D_Affine___init___u := di_of (C := "Affine") (dvs := []) (He.mkr_ok (c.fact 19 (f := .mkr "Affine") rfl)) (He.glo_ok X G (c.fact 17 (f := .glo "Affine") rfl)) (F_Affine___init___u.binds1 4 1 (List.cons_ne_nil _ _) rfl fun _ _ _ _ _ _ _ us its hu hi => match us, hu, its, hi with | [_, _, _, _], _, [_], _ => ⟨_, rfl, rfl⟩) (d_Affine___init___u (P := P) (w := w) (base := base) F_Affine___init___u T D_common_divisor_u)
  have D_Affine___init___u_D1 := di_of (C := "Affine") (dvs := [.int 1]) (He.mkr_ok (c.fact 19 (f := .mkr "Affine") rfl)) (He.glo_ok X G (c.fact 17 (f := .glo "Affine") rfl)) (F_Affine___init___u.binds1 3 0 (List.cons_ne_nil _ _) rfl fun _ _ _ _ _ _ _ us its hu hi => match us, hu, its, hi with | [_, _, _], _, [_], _ => ⟨_, rfl, rfl⟩) (d_Affine___init___u (P := P) (w := w) (base := base) F_Affine___init___u T D_common_divisor_u)
  obtain ⟨fd_Affine_variable, F_Affine_variable⟩ := c.def_ 5 (d := dS "Affine" "variable" "Affine.variable" mt_Affine_variable) rfl
  have D_Affine_variable := ds_of (C := "Affine") (m := "variable") F_Affine_variable T.rd_Affine T.wr_Affine_variable (He.glo_ok X G (c.fact 17 (f := .glo "Affine") rfl)) (F_Affine_variable.bindsN fun _ _ _ _ _ _ us hl => match us, hl with | [_, _], _ => rfl) (d_Affine_variable (P := P) (w := w) (base := base) F_Affine_variable T D_Affine___init___l_D1)
  obtain ⟨fd_Affine_level, F_Affine_level⟩ := c.def_ 6 (d := dS "Affine" "level" "Affine.level" mt_Affine_level) rfl
  have D_Affine_level := ds_of (C := "Affine") (m := "level") F_Affine_level T.rd_Affine T.wr_Affine_level (He.glo_ok X G (c.fact 17 (f := .glo "Affine") rfl)) (F_Affine_level.bindsN fun _ _ _ _ _ _ us hl => match us, hl with | [_, _], _ => rfl) (d_Affine_level (P := P) (w := w) (base := base) F_Affine_level T D_Affine___init___l)
  obtain ⟨fd_Affine_from_numbers, F_Affine_from_numbers⟩ := c.def_ 7 (d := dS "Affine" "from_numbers" "Affine.from_numbers" mt_Affine_from_numbers) rfl
  have D_Affine_from_numbers := ds_of (C := "Affine") (m := "from_numbers") F_Affine_from_numbers T.rd_Affine T.wr_Affine_from_numbers (He.glo_ok X G (c.fact 17 (f := .glo "Affine") rfl)) (F_Affine_from_numbers.bindsN fun _ _ _ _ _ _ us hl => match us, hl with | [_, _], _ => rfl) (d_Affine_from_numbers (P := P) (w := w) (base := base) F_Affine_from_numbers T D_point_of D_Affine___init___u)
  obtain ⟨fd_Affine___call__, F_Affine___call__⟩ := c.def_ 8 (d := dM "Affine" "__call__" "Affine.__call__" mt_Affine___call__ []) rfl
  have D_Affine___call__ := dm_of (C := "Affine") (m := "__call__") T.me_Affine___call__ (F_Affine___call__.bindsN fun _ _ _ _ _ _ us hl => match us, hl with | [_, _], _ => rfl) (d_Affine___call__ (P := P) (w := w) (base := base) F_Affine___call__ T D_ratio)
  obtain ⟨fd_Affine_slope, F_Affine_slope⟩ := c.def_ 9 (d := dM "Affine" "slope" "Affine.slope" mt_Affine_slope []) rfl
  have D_Affine_slope := dm_of (C := "Affine") (m := "slope") T.me_Affine_slope (F_Affine_slope.bindsN fun _ _ _ _ _ _ us hl => match us, hl with | [_, _], _ => rfl) (d_Affine_slope (P := P) (w := w) (base := base) F_Affine_slope T D_ratio)
  obtain ⟨fd_Affine___eq___a, F_Affine___eq___a⟩ := c.def_ 10 (d := dM "Affine" "__eq__" "Affine.__eq__" mt_Affine___eq__ []) rfl
  have D_Affine___eq___a := dm_of (C := "Affine") (m := "__eq__") T.me_Affine___eq__ (F_Affine___eq___a.bindsN fun _ _ _ _ _ _ us hl => match us, hl with | [_, _], _ => rfl) (d_Affine___eq___a (P := P) (w := w) (base := base) F_Affine___eq___a T)
  obtain ⟨fd_Affine___eq___i, F_Affine___eq___i⟩ := c.def_ 10 (d := dM "Affine" "__eq__" "Affine.__eq__" mt_Affine___eq__ []) rfl
  have D_Affine___eq___i := dm_of (C := "Affine") (m := "__eq__") T.me_Affine___eq__ (F_Affine___eq___i.bindsN fun _ _ _ _ _ _ us hl => match us, hl with | [_, _], _ => rfl) (d_Affine___eq___i (P := P) (w := w) (base := base) F_Affine___eq___i T)
  obtain ⟨fd_Affine___add__, F_Affine___add__⟩ := c.def_ 11 (d := dM "Affine" "__add__" "Affine.__add__" mt_Affine___add__ []) rfl
  have D_Affine___add__ := dm_of (C := "Affine") (m := "__add__") T.me_Affine___add__ (F_Affine___add__.bindsN fun _ _ _ _ _ _ us hl => match us, hl with | [_, _], _ => rfl) (d_Affine___add__ (P := P) (w := w) (base := base) F_Affine___add__ T D_Affine___init___l)
  obtain ⟨fd_Affine___sub__, F_Affine___sub__⟩ := c.def_ 12 (d := dM "Affine" "__sub__" "Affine.__sub__" mt_Affine___sub__ []) rfl
  have D_Affine___sub__ := dm_of (C := "Affine") (m := "__sub__") T.me_Affine___sub__ (F_Affine___sub__.bindsN fun _ _ _ _ _ _ us hl => match us, hl with | [_, _], _ => rfl) (d_Affine___sub__ (P := P) (w := w) (base := base) F_Affine___sub__ T D_Affine___init___l)
  obtain ⟨fd_Affine___neg__, F_Affine___neg__⟩ := c.def_ 13 (d := dM "Affine" "__neg__" "Affine.__neg__" mt_Affine___neg__ []) rfl
  have D_Affine___neg__ := dm_of (C := "Affine") (m := "__neg__") T.me_Affine___neg__ (F_Affine___neg__.bindsN fun _ _ _ _ _ _ us hl => match us, hl with | [_], _ => rfl) (d_Affine___neg__ (P := P) (w := w) (base := base) F_Affine___neg__ T D_Affine___init___l)
  obtain ⟨fd_Affine___mul__, F_Affine___mul__⟩ := c.def_ 14 (d := dM "Affine" "__mul__" "Affine.__mul__" mt_Affine___mul__ []) rfl
  have D_Affine___mul__ := dm_of (C := "Affine") (m := "__mul__") T.me_Affine___mul__ (F_Affine___mul__.bindsN fun _ _ _ _ _ _ us hl => match us, hl with | [_, _], _ => rfl) (d_Affine___mul__ (P := P) (w := w) (base := base) F_Affine___mul__ T D_Affine___init___l)
  obtain ⟨fd_Affine___rmul__, F_Affine___rmul__⟩ := c.def_ 15 (d := dM "Affine" "__rmul__" "Affine.__rmul__" mt_Affine___rmul__ []) rfl
  have D_Affine___rmul__ := dm_of (C := "Affine") (m := "__rmul__") T.me_Affine___rmul__ (F_Affine___rmul__.bindsN fun _ _ _ _ _ _ us hl => match us, hl with | [_, _], _ => rfl) (d_Affine___rmul__ (P := P) (w := w) (base := base) F_Affine___rmul__ T D_Affine___init___l)
  obtain ⟨fd_Affine_scaled, F_Affine_scaled⟩ := c.def_ 16 (d := dM "Affine" "scaled" "Affine.scaled" mt_Affine_scaled []) rfl
  have D_Affine_scaled := dm_of (C := "Affine") (m := "scaled") T.me_Affine_scaled (F_Affine_scaled.bindsN fun _ _ _ _ _ _ us hl => match us, hl with | [_, _], _ => rfl) (d_Affine_scaled (P := P) (w := w) (base := base) F_Affine_scaled T D_Affine___init___l)
  obtain ⟨fd_Affine_placed, F_Affine_placed⟩ := c.def_ 17 (d := dM "Affine" "placed" "Affine.placed" mt_Affine_placed []) rfl
  have D_Affine_placed := dm_of (C := "Affine") (m := "placed") T.me_Affine_placed (F_Affine_placed.bindsN fun _ _ _ _ _ _ us hl => match us, hl with | [_, _, _], _ => rfl) (d_Affine_placed (P := P) (w := w) (base := base) F_Affine_placed T D_Affine___init___l)
  obtain ⟨fd_Affine_fixed, F_Affine_fixed⟩ := c.def_ 18 (d := dM "Affine" "fixed" "Affine.fixed" mt_Affine_fixed []) rfl
  have D_Affine_fixed := dm_of (C := "Affine") (m := "fixed") T.me_Affine_fixed (F_Affine_fixed.bindsN fun _ _ _ _ _ _ us hl => match us, hl with | [_, _], _ => rfl) (d_Affine_fixed (P := P) (w := w) (base := base) F_Affine_fixed T D_Affine___init___l)
  obtain ⟨fd_Affine_head, F_Affine_head⟩ := c.def_ 19 (d := dM "Affine" "head" "Affine.head" mt_Affine_head []) rfl
  have D_Affine_head := dm_of (C := "Affine") (m := "head") T.me_Affine_head (F_Affine_head.bindsN fun _ _ _ _ _ _ us hl => match us, hl with | [_, _], _ => rfl) (d_Affine_head (P := P) (w := w) (base := base) F_Affine_head T D_Affine___init___u)
  obtain ⟨fd_Affine_tail, F_Affine_tail⟩ := c.def_ 20 (d := dM "Affine" "tail" "Affine.tail" mt_Affine_tail []) rfl
  have D_Affine_tail := dm_of (C := "Affine") (m := "tail") T.me_Affine_tail (F_Affine_tail.bindsN fun _ _ _ _ _ _ us hl => match us, hl with | [_, _], _ => rfl) (d_Affine_tail (P := P) (w := w) (base := base) F_Affine_tail T D_Affine___init___u)
  obtain ⟨fd_Affine_homogeneous, F_Affine_homogeneous⟩ := c.def_ 21 (d := dM "Affine" "homogeneous" "Affine.homogeneous" mt_Affine_homogeneous []) rfl
  have D_Affine_homogeneous := dm_of (C := "Affine") (m := "homogeneous") T.me_Affine_homogeneous (F_Affine_homogeneous.bindsN fun _ _ _ _ _ _ us hl => match us, hl with | [_], _ => rfl) (d_Affine_homogeneous (P := P) (w := w) (base := base) F_Affine_homogeneous T D_Affine___init___u)
  obtain ⟨fd_Affine_uses, F_Affine_uses⟩ := c.def_ 22 (d := dM "Affine" "uses" "Affine.uses" mt_Affine_uses []) rfl
  have D_Affine_uses := dm_of (C := "Affine") (m := "uses") T.me_Affine_uses (F_Affine_uses.bindsN fun _ _ _ _ _ _ us hl => match us, hl with | [_, _], _ => rfl) (d_Affine_uses (P := P) (w := w) (base := base) F_Affine_uses T)
  obtain ⟨fd__law_is_integer, F__law_is_integer⟩ := c.def_ 23 (d := dA "_law_is_integer" 13) rfl
  have D__law_is_integer := dk_of F__law_is_integer (He.glo_ok X G (c.fact 4 (f := .glo "_law_is_integer") rfl)) (F__law_is_integer.bindsN fun _ _ _ _ _ _ us hl => match us, hl with | [_], _ => rfl) (d__law_is_integer (P := P) (w := w) (base := base) F__law_is_integer T)
  obtain ⟨fd__law_draws, F__law_draws⟩ := c.def_ 24 (d := dA "_law_draws" 14) rfl
  have D__law_draws := dk_of F__law_draws (He.glo_ok X G (c.fact 5 (f := .glo "_law_draws") rfl)) (F__law_draws.bindsN fun _ _ _ _ _ _ us hl => match us, hl with | [_, _], _ => rfl) (d__law_draws (P := P) (w := w) (base := base) F__law_draws T)
  obtain ⟨fd__law_gcd, F__law_gcd⟩ := c.def_ 25 (d := dA "_law_gcd" 15) rfl
  have D__law_gcd := dk_of F__law_gcd (He.glo_ok X G (c.fact 6 (f := .glo "_law_gcd") rfl)) (F__law_gcd.bindsN fun _ _ _ _ _ _ us hl => match us, hl with | [_, _], _ => rfl) (d__law_gcd (P := P) (w := w) (base := base) F__law_gcd T)
  obtain ⟨fd__law_lowest, F__law_lowest⟩ := c.def_ 26 (d := dA "_law_lowest" 16) rfl
  have D__law_lowest := dk_of F__law_lowest (He.glo_ok X G (c.fact 7 (f := .glo "_law_lowest") rfl)) (F__law_lowest.bindsN fun _ _ _ _ _ _ us hl => match us, hl with | [_], _ => rfl) (d__law_lowest (P := P) (w := w) (base := base) F__law_lowest T D__law_gcd)
  obtain ⟨fd__law_values, F__law_values⟩ := c.def_ 27 (d := dA "_law_values" 17) rfl
  have D__law_values := dk_of F__law_values (He.glo_ok X G (c.fact 8 (f := .glo "_law_values") rfl)) (F__law_values.bindsN fun _ _ _ _ _ _ us hl => match us, hl with | [_, _, _, _], _ => rfl) (d__law_values (P := P) (w := w) (base := base) F__law_values T)
  obtain ⟨fd__law_same, F__law_same⟩ := c.def_ 28 (d := dA "_law_same" 18) rfl
  have D__law_same := dk_of F__law_same (He.glo_ok X G (c.fact 9 (f := .glo "_law_same") rfl)) (F__law_same.bindsN fun _ _ _ _ _ _ us hl => match us, hl with | [_, _], _ => rfl) (d__law_same (P := P) (w := w) (base := base) F__law_same T D__law_is_integer)
  obtain ⟨fd__law_truth, F__law_truth⟩ := c.def_ 29 (d := dA "_law_truth" 19) rfl
  have D__law_truth := dk_of F__law_truth (He.glo_ok X G (c.fact 10 (f := .glo "_law_truth") rfl)) (F__law_truth.bindsN fun _ _ _ _ _ _ us hl => match us, hl with | [_, _], _ => rfl) (d__law_truth (P := P) (w := w) (base := base) F__law_truth T)
  obtain ⟨fd__law_same_number, F__law_same_number⟩ := c.def_ 30 (d := dA "_law_same_number" 20) rfl
  have D__law_same_number := dk_of F__law_same_number (He.glo_ok X G (c.fact 11 (f := .glo "_law_same_number") rfl)) (F__law_same_number.bindsN fun _ _ _ _ _ _ us hl => match us, hl with | [_, _], _ => rfl) (d__law_same_number (P := P) (w := w) (base := base) F__law_same_number T D__law_is_integer)
  obtain ⟨fd__law_value, F__law_value⟩ := c.def_ 31 (d := dA "_law_value" 21) rfl
  have D__law_value := dk_of F__law_value (He.glo_ok X G (c.fact 12 (f := .glo "_law_value") rfl)) (F__law_value.bindsN fun _ _ _ _ _ _ us hl => match us, hl with | [_, _, _], _ => rfl) (d__law_value (P := P) (w := w) (base := base) F__law_value T D__law_lowest)
  obtain ⟨fd__law_sum, F__law_sum⟩ := c.def_ 32 (d := dA "_law_sum" 22) rfl
  have D__law_sum := dk_of F__law_sum (He.glo_ok X G (c.fact 13 (f := .glo "_law_sum") rfl)) (F__law_sum.bindsN fun _ _ _ _ _ _ us hl => match us, hl with | [_, _, _], _ => rfl) (d__law_sum (P := P) (w := w) (base := base) F__law_sum T D__law_lowest)
  obtain ⟨fd__law_parts, F__law_parts⟩ := c.def_ 33 (d := dA "_law_parts" 23) rfl
  have D__law_parts := dk_of F__law_parts (He.glo_ok X G (c.fact 14 (f := .glo "_law_parts") rfl)) (F__law_parts.bindsN fun _ _ _ _ _ _ us hl => match us, hl with | [_, _, _, _, _, _], _ => rfl) (d__law_parts (P := P) (w := w) (base := base) F__law_parts T D__law_lowest D_Affine_fixed D__law_same D_Affine_head D_Affine_tail D_Affine_homogeneous D_Affine_placed D_Affine_uses D__law_truth D_Affine_slope D__law_same_number)
  obtain ⟨fd__law_made, F__law_made⟩ := c.def_ 34 (d := dA "_law_made" 24) rfl
  have D__law_made := dk_of F__law_made (He.glo_ok X G (c.fact 15 (f := .glo "_law_made") rfl)) (F__law_made.bindsN fun _ _ _ _ _ _ us hl => match us, hl with | [_, _, _, _], _ => rfl) (d__law_made (P := P) (w := w) (base := base) F__law_made T D_Affine_variable D__law_same D__law_lowest D_Affine_level D_Affine_from_numbers)
  exact d_law F T D__law_draws D__law_values D_Affine___init___l D_Affine___init___u D__law_lowest D__law_same D_Affine___call__ D__law_value D__law_same_number D_Affine___add__ D__law_sum D_Affine___sub__ D_Affine___mul__ D_Affine___rmul__ D_Affine___neg__ D_Affine_scaled D_Affine___eq___a D__law_truth D_Affine___eq___i D_Affine_placed D__law_made D__law_parts
end LW
open PySem PySem.W PySem.Calls PyProof.Rows
theorem PySem.Challenge.cw_leadersets_k02_functions_of_points_holds : PySem.Challenge.rw_leadersets_k02_functions_of_points.Holds := by
  w_on; o_law
  refine HandSHeadRun.head_imp (r := OpenLaw.row PySem.Challenge.rw_leadersets_k02_functions_of_points) (q := view (OpenLaw.row PySem.Challenge.rw_leadersets_k02_functions_of_points).prog [0, 25]) (H := LW.hkL) (ob := LW.obL) (M := 3000) (loose := LW.looseL) (d := HandSHeadRun.topDef (OpenLaw.row PySem.Challenge.rw_leadersets_k02_functions_of_points).prog 25) (kwd := []) LW.obL_eq LW.runL (by kernel_rfl) (by kernel_rfl) (by kernel_rfl) (by rfl) (by first | assumption | decide +kernel) (by decide +kernel) ⟨rfl, rfl, rfl, rfl, rfl, by decide +kernel⟩ ?hw ?hc
  case hw => w_witness2
  case hc =>
    refine FL.walk_w (l := PySem.Challenge.rw_leadersets_k02_functions_of_points) (n := 63) (k := 6) (x := "script") (m := LW.m_law) rfl (by decide) (by kernel_rfl) ⟨rfl, by decide, by decide⟩ LW.law_true ?F
    intro w mg fa h Y G hmg0
    obtain ⟨K, KX, c⟩ := Y
    have hmg : mg ("law" : PySem.Str) = some (.ref fa) := by
      have e : (HandSHeadRun.topDef (OpenLaw.row PySem.Challenge.rw_leadersets_k02_functions_of_points).prog 25).name = ("law" : PySem.Str) := by kernel_rfl
      rw [← e]
      exact hmg0
    obtain ⟨fd, hb, hF⟩ := LW.factsL (P := (PySem.Challenge.rw_leadersets_k02_functions_of_points).prog) (w := w) KX G hmg c.a c.more
    exact ⟨K, fd, KX, hb, hF⟩
